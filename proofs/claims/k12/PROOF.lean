import PyProof.Rows.All
import Wide.All
import OpenK.AllK
import Wide.FinOn
import KE.KStateDown
import HandS.ForMost
import HandS.Exc
import HandS.Defaults
import HandS.Wide
import HandS.IsInst
import HandS.TupAny
import HandS.TupMul
import HandS.Style
import HandS.RaiseMore
import HandS.Head0
import HandS.Head1
import HandS.Head2
import HandS.HeadEnd
import HandS.HeadHook1
import HandS.HeadHook2
import KE.GoesEnum
import HandS.ListItems
import HandS.SetFor
import HandS.SortRule
import HandS.SortInts
import HandS.DictComp
import HandS.Strs
import HandS.DictTup
import HandS.Keys
import HandS.Text
import HandS.Iter
import HandS.Rev
import HandS.SetKeys
import PyProof.Rows.NestShow
import PyProof.ReprLen
import PySem.Challenge.RW_undoneall_k12_whole_places
set_option Elab.async false
set_option linter.all false
set_option maxRecDepth 100000
set_option maxHeartbeats 0
/-! BV, part A: values as data, what stands for them in the heap, the state of a def's body by values. -/
namespace BV
open PySem PySem.Spec PyProof.Rows L2

/-- the shape of a cell that is no list and no tuple: a dict with these keys; one that holds no values of its own -/
inductive Kd where
  | dic (ks : List Key) | obj (f : Addr → HO) (h : ∀ a kvs, f a ≠ .dK kvs)
  /-- a tuple whose object has no dict -/
  | tpl
  /-- an instance of the class at C, its dict at dx, with these attributes -/
  | ins (C dx : Addr) (fs : List Str)
def Kd.mk : Kd → Addr → List V → HO
  | .dic ks, _, vs => .dK (ks.zip vs)
  | .obj f _, a, _ => f a
  | .tpl, _, vs => .frz { cls := .type "tuple", data := .seq #[] } (.tup vs)
  | .ins C dx fs, _, vs => .ins C dx (fs.zip vs)
/-- a cell that nobody changes; a dict may be locked -/
def Kd.at (H : Hp) : Kd → Addr → List V → Prop
  | .dic ks, a, vs => Rd H a (.dK (ks.zip vs))
  | .obj f _, a, _ => H a = some (f a)
  | .tpl, a, vs => ∃ o : Obj, H a = some (.frz o (.tup vs)) ∧ o.dict = none
  | .ins C dx fs, a, vs => H a = some (.ins C dx (fs.zip vs))
theorem Kd.at_of {H : Hp} {k : Kd} {a : Addr} {vs : List V} (h : H a = some (k.mk a vs)) : k.at H a vs := by
  cases k with
  | dic ks => exact .inl h
  | obj f hf => exact h
  | tpl => exact ⟨_, h, rfl⟩
  | ins C dx fs => exact h
/-- a value as data: tuples and lists by what they hold; own: a list that one place alone owns and that may be changed -/
inductive D where
  | non | bl (b : Bool) | int (i : Int) | str (x : Str) | tup (xs : List D) | lst (xs : List D) | frl (xs : List D) | own (xs : List D) | fz (k : Kd) (xs : List D) | ob (k : Kd) (xs : List D)

abbrev AS := Addr → Prop
abbrev AS0 : AS := fun _ => False
abbrev Fg := PySem.W.Frag
abbrev Sts := L2.St

/-- a list of the written part -/
def SqK (K : Fg) (a : Addr) (xs : List V) : Prop :=
  ∃ (o : Obj) (its : Array Value) (n : Nat), K.lookup a = some o ∧ o.cls = .type "list" ∧ o.dict = none ∧ o.data = .seq its n ∧ its.size ≤ sizeLine ∧ Vals xs its.toList
/-- a list that nobody will change -/
def SqN (K : Fg) (N : AS) (H : Hp) (a : Addr) (xs : List V) : Prop := (Rd H a (.lst xs) ∧ ¬ N a) ∨ SqK K a xs
theorem SqN.sq {K : Fg} {N : AS} {H : Hp} {a : Addr} {xs : List V} (h : SqN K N H a xs) : SqL K H a xs := by
  rcases h with ⟨h, _⟩ | h
  · exact .inl h
  · exact .inr h

mutual
/-- d stands at v; what d owns lies in A -/
def Rp (K : Fg) (N : AS) (H : Hp) : D → V → AS → Prop
  | .non, v, _ => v = .non
  | .bl b, v, _ => v = .bl b
  | .int i, v, _ => v = .int i
  | .str x, v, _ => v = .str x
  | .tup ds, v, _ => ∃ a vs, v = .ref a ∧ SqT K H a vs ∧ Rps K N H ds vs AS0
  | .lst ds, v, _ => ∃ a vs, v = .ref a ∧ H a = some (.lst vs) ∧ ¬ N a ∧ Rps K N H ds vs AS0
  | .frl ds, v, _ => ∃ a vs, v = .ref a ∧ SqN K N H a vs ∧ Rps K N H ds vs AS0
  | .own ds, v, A => ∃ a vs B, v = .ref a ∧ H a = some (.lst vs) ∧ A a ∧ (∀ x, B x → A x ∧ x ≠ a) ∧ Rps K N H ds vs B
  | .fz k ds, v, _ => ∃ a vs, v = .ref a ∧ k.at H a vs ∧ ¬ N a ∧ Rps K N H ds vs AS0
  | .ob k ds, v, A => ∃ a vs B, v = .ref a ∧ H a = some (k.mk a vs) ∧ A a ∧ (∀ x, B x → A x ∧ x ≠ a) ∧ Rps K N H ds vs B
def Rps (K : Fg) (N : AS) (H : Hp) : List D → List V → AS → Prop
  | [], vs, _ => vs = []
  | d :: ds, vs, A => ∃ v vr A1 A2, vs = v :: vr ∧ Rp K N H d v A1 ∧ Rps K N H ds vr A2 ∧ (∀ x, A1 x → A x) ∧ (∀ x, A2 x → A x) ∧ (∀ x, A1 x → ¬ A2 x)
end
/-- not a list that is owned -/
def D.sh : D → Bool
  | .own _ => false
  | .ob _ _ => false
  | _ => true

section
variable {K : Fg} {N N' : AS} {H H' : Hp}
theorem Rp.up : ∀ {d : D} {v : V} {A A' : AS}, Rp K N H d v A → (∀ x, A x → A' x) → Rp K N H d v A' := by
  intro d v A A' h s
  cases d with
  | own ds =>
    obtain ⟨a, vs, B, e, ha, hA, hB, r⟩ := h
    exact ⟨a, vs, B, e, ha, s _ hA, fun x hx => ⟨s _ (hB x hx).1, (hB x hx).2⟩, r⟩
  | ob k ds =>
    obtain ⟨a, vs, B, e, ha, hA, hB, r⟩ := h
    exact ⟨a, vs, B, e, ha, s _ hA, fun x hx => ⟨s _ (hB x hx).1, (hB x hx).2⟩, r⟩
  | _ => exact h
theorem Rps.up : ∀ {ds : List D} {vs : List V} {A A' : AS}, Rps K N H ds vs A → (∀ x, A x → A' x) → Rps K N H ds vs A'
  | [], _, _, _, h, _ => h
  | _ :: _, _, _, _, h, s => by
    obtain ⟨v, vr, A1, A2, e, h1, h2, s1, s2, dj⟩ := h
    exact ⟨v, vr, A1, A2, e, h1, h2, fun x q => s x (s1 x q), fun x q => s x (s2 x q), dj⟩
theorem Rp.share {d : D} {v : V} {A : AS} (h : Rp K N H d v A) (s : d.sh = true) : Rp K N H d v AS0 := by
  cases d with
  | own ds => cases s
  | ob k ds => cases s
  | _ => exact h
theorem Rps.share : ∀ {ds : List D} {vs : List V} {A : AS}, Rps K N H ds vs A → ds.all D.sh = true → Rps K N H ds vs AS0
  | [], _, _, h, _ => h
  | d :: ds, _, _, h, s => by
    obtain ⟨v, vr, A1, A2, e, h1, h2, _⟩ := h
    rw [List.all_cons, Bool.and_eq_true] at s
    exact ⟨v, vr, AS0, AS0, e, h1.share s.1, Rps.share h2 s.2, fun _ q => q, fun _ q => q, fun _ q => q.elim⟩
theorem Rps.length : ∀ {ds : List D} {vs : List V} {A : AS}, Rps K N H ds vs A → ds.length = vs.length
  | [], _, _, h => by
    have e : _ = [] := h
    rw [e]
    rfl
  | _ :: ds, _, _, h => by
    obtain ⟨v, vr, A1, A2, rfl, h1, h2, _⟩ := h
    rw [List.length_cons, List.length_cons, Rps.length h2]
/-- tuples and lists that nobody changes stay -/
structure Ext (K : Fg) (N : AS) (H : Hp) (N' : AS) (H' : Hp) : Prop where
  tp : ∀ a vs, SqT K H a vs → SqT K H' a vs
  ls : ∀ a vs, SqN K N H a vs → SqN K N' H' a vs
  st : ∀ a u, H a = some u → ¬ N a → (H' a = some u ∨ ∃ kvs o, u = .dK kvs ∧ H' a = some (.frz o u)) ∧ ¬ N' a
theorem Ext.refl : Ext K N H N H := ⟨fun _ _ h => h, fun _ _ h => h, fun _ _ h n => ⟨.inl h, n⟩⟩
theorem Ext.trans {N1 N2 : AS} {H1 H2 : Hp} (a : Ext K N H N1 H1) (b : Ext K N1 H1 N2 H2) : Ext K N H N2 H2 := ⟨fun p vs h => b.tp p vs (a.tp p vs h), fun p vs h => b.ls p vs (a.ls p vs h), fun p u h n => by
  obtain ⟨h1, n1⟩ := a.st p u h n
  rcases h1 with h1 | ⟨kvs, o, e, h1⟩
  · exact b.st p u h1 n1
  · obtain ⟨h2, n2⟩ := b.st p _ h1 n1
    rcases h2 with h2 | ⟨kvs2, o2, e2, _⟩
    · exact ⟨.inr ⟨kvs, o, e, h2⟩, n2⟩
    · cases e2⟩
/-- what is no dict stays as it is -/
theorem Ext.ex (x : Ext K N H N' H') {a : Addr} {u : HO} (h : H a = some u) (n : ¬ N a) (hu : ∀ kvs, u ≠ .dK kvs) : H' a = some u ∧ ¬ N' a := by
  obtain ⟨h1, n1⟩ := x.st a u h n
  rcases h1 with h1 | ⟨kvs, o, e, _⟩
  · exact ⟨h1, n1⟩
  · exact absurd e (hu kvs)
theorem Ext.at (x : Ext K N H N' H') {k : Kd} {a : Addr} {vs : List V} (h : k.at H a vs) (n : ¬ N a) : k.at H' a vs ∧ ¬ N' a := by
  cases k with
  | dic ks =>
    rcases h with h | ⟨o, h⟩
    · obtain ⟨h1, n1⟩ := x.st a _ h n
      rcases h1 with h1 | ⟨kvs, o, e, h1⟩
      · exact ⟨.inl h1, n1⟩
      · exact ⟨.inr ⟨o, h1⟩, n1⟩
    · obtain ⟨h1, n1⟩ := x.ex h n (fun _ z => by cases z)
      exact ⟨.inr ⟨o, h1⟩, n1⟩
  | obj f hf => exact x.ex h n (hf a)
  | tpl =>
    obtain ⟨o, h, ho⟩ := h
    obtain ⟨h1, n1⟩ := x.ex h n (fun _ z => by cases z)
    exact ⟨⟨o, h1, ho⟩, n1⟩
  | ins C dx fs => exact x.ex h n (fun _ z => by cases z)
theorem Ext.less (s : ∀ x, N' x → N x) : Ext K N H N' H := ⟨fun _ _ h => h, fun _ _ h => by
  rcases h with ⟨h, n⟩ | h
  · exact .inl ⟨h, fun z => n (s _ z)⟩
  · exact .inr h, fun _ _ h n => ⟨.inl h, fun z => n (s _ z)⟩⟩
theorem Rd.keep {a : Addr} {u : HO} (k : ∀ o, H a = some o → H' a = some o) (h : Rd H a u) : Rd H' a u := by
  rcases h with h | ⟨o, h⟩
  · exact .inl (k _ h)
  · exact .inr ⟨o, k _ h⟩
theorem Ext.alloc {p : Addr} {o : HO} (np : H p = none) (s : ∀ x, N' x → N x ∨ x = p) : Ext K N H N' (upd H p o) := by
  have k : ∀ a u, H a = some u → upd H p o a = some u := fun a u e => by
    rw [upd_ne (ne_of_none e np)]
    exact e
  refine ⟨fun a vs h => ?_, fun a vs h => ?_, fun a vs h n => ⟨.inl (k a _ h), fun z => (s a z).elim n fun w => by rw [w, np] at h; cases h⟩⟩
  · rcases h with h | h
    · exact .inl (Rd.keep (k a) h)
    · exact .inr h
  · rcases h with ⟨h, n⟩ | h
    · refine .inl ⟨Rd.keep (k a) h, fun z => ?_⟩
      rcases s a z with z | z
      · exact n z
      · rcases h with h | ⟨o', h⟩
        · rw [z, np] at h; cases h
        · rw [z, np] at h; cases h
    · exact .inr h
theorem Ext.writeO {a : Addr} {u : HO} {o : HO} (ha : H a = some u) (hu : ∀ vs, u ≠ .tup vs) (hz : ∀ o w, u ≠ .frz o w) (n : N a) : Ext K N H N (upd H a o) := by
  refine ⟨fun b vs h => ?_, fun b vs h => ?_, fun b vs h nb => ⟨.inl (by rw [upd_ne (show b ≠ a from fun z => nb (z ▸ n))]; exact h), nb⟩⟩
  · rcases h with h | h
    · refine .inl ?_
      rcases h with h | ⟨o', h⟩
      · exact .inl (by rw [upd_ne (ne_of h ha (fun z => hu _ z.symm))]; exact h)
      · exact .inr ⟨o', by rw [upd_ne (ne_of h ha (fun z => hz _ _ z.symm))]; exact h⟩
    · exact .inr h
  · rcases h with ⟨h, nb⟩ | h
    · have hb : b ≠ a := fun z => nb (z ▸ n)
      refine .inl ⟨?_, nb⟩
      rcases h with h | ⟨o', h⟩
      · exact .inl (by rw [upd_ne hb]; exact h)
      · exact .inr ⟨o', by rw [upd_ne hb]; exact h⟩
    · exact .inr h
theorem Ext.write {a : Addr} {xs : List V} {o : HO} (ha : H a = some (.lst xs)) (n : N a) : Ext K N H N (upd H a o) := Ext.writeO ha (fun _ z => by cases z) (fun _ _ z => by cases z) n
mutual
theorem Rp.keep (x : Ext K N H N' H') : ∀ (d : D) {v : V} {A : AS}, Rp K N H d v A → (∀ b, A b → H' b = H b) → Rp K N' H' d v A
  | .non, _, _, h, _ => h
  | .bl _, _, _, h, _ => h
  | .int _, _, _, h, _ => h
  | .str _, _, _, h, _ => h
  | .tup ds, _, _, h, _ => by
    obtain ⟨a, vs, e, hs, r⟩ := h
    exact ⟨a, vs, e, x.tp _ _ hs, Rps.keep x ds r fun _ q => q.elim⟩
  | .lst ds, _, _, h, _ => by
    obtain ⟨a, vs, e, hs, hn, r⟩ := h
    have z := x.ex hs hn (fun _ z => by cases z)
    exact ⟨a, vs, e, z.1, z.2, Rps.keep x ds r fun _ q => q.elim⟩
  | .frl ds, _, _, h, _ => by
    obtain ⟨a, vs, e, hs, r⟩ := h
    exact ⟨a, vs, e, x.ls _ _ hs, Rps.keep x ds r fun _ q => q.elim⟩
  | .own ds, _, _, h, k => by
    obtain ⟨a, vs, B, e, ha, hA, hB, r⟩ := h
    exact ⟨a, vs, B, e, by rw [k a hA]; exact ha, hA, hB, Rps.keep x ds r fun b q => k b (hB b q).1⟩
  | .fz _ ds, _, _, h, _ => by
    obtain ⟨a, vs, e, hs, hn, r⟩ := h
    exact ⟨a, vs, e, (x.at hs hn).1, (x.at hs hn).2, Rps.keep x ds r fun _ q => q.elim⟩
  | .ob _ ds, _, _, h, k => by
    obtain ⟨a, vs, B, e, ha, hA, hB, r⟩ := h
    exact ⟨a, vs, B, e, by rw [k a hA]; exact ha, hA, hB, Rps.keep x ds r fun b q => k b (hB b q).1⟩
theorem Rps.keep (x : Ext K N H N' H') : ∀ (ds : List D) {vs : List V} {A : AS}, Rps K N H ds vs A → (∀ b, A b → H' b = H b) → Rps K N' H' ds vs A
  | [], _, _, h, _ => h
  | d :: ds, _, _, h, k => by
    obtain ⟨v, vr, A1, A2, e, h1, h2, s1, s2, dj⟩ := h
    exact ⟨v, vr, A1, A2, e, Rp.keep x d h1 fun b q => k b (s1 b q), Rps.keep x ds h2 fun b q => k b (s2 b q), s1, s2, dj⟩
end
theorem Rp.keep0 (x : Ext K N H N' H') {d : D} {v : V} (h : Rp K N H d v AS0) : Rp K N' H' d v AS0 := h.keep x d fun _ q => q.elim
theorem Rps.keep0 (x : Ext K N H N' H') {ds : List D} {vs : List V} (h : Rps K N H ds vs AS0) : Rps K N' H' ds vs AS0 := h.keep x ds fun _ q => q.elim
theorem Rps.get0 : ∀ {ds : List D} {vs : List V} {A : AS} {i : Nat} {d : D}, Rps K N H ds vs A → ds[i]? = some d → ∃ v A1, vs[i]? = some v ∧ Rp K N H d v A1 ∧ ∀ x, A1 x → A x
  | [], _, _, _, _, _, e => by simp at e
  | d :: ds, _, A, 0, _, h, e => by
    obtain ⟨v, vr, A1, A2, rfl, h1, h2, s1, s2, dj⟩ := h
    cases (show some d = some _ from e)
    exact ⟨v, A1, rfl, h1, s1⟩
  | d :: ds, _, A, i + 1, d', h, e => by
    obtain ⟨v, vr, A1, A2, rfl, h1, h2, s1, s2, dj⟩ := h
    obtain ⟨v', A3, e3, r3, s3⟩ := Rps.get0 (i := i) (d := d') h2 (by simpa using e)
    exact ⟨v', A3, by simpa using e3, r3, fun x q => s2 x (s3 x q)⟩
theorem Rps.append0 : ∀ {ds es : List D} {vs us : List V}, Rps K N H ds vs AS0 → Rps K N H es us AS0 → Rps K N H (ds ++ es) (vs ++ us) AS0
  | [], _, _, _, h, q => by
    have e : _ = [] := h
    rw [e]
    exact q
  | _ :: _, _, _, _, h, q => by
    obtain ⟨v, vr, A1, A2, rfl, h1, h2, s1, s2, dj⟩ := h
    have e1 : A1 = AS0 := funext fun x => propext ⟨s1 x, fun z => z.elim⟩
    have e2 : A2 = AS0 := funext fun x => propext ⟨s2 x, fun z => z.elim⟩
    subst e1 e2
    exact ⟨v, _, AS0, AS0, rfl, h1, Rps.append0 h2 q, fun _ z => z, fun _ z => z, fun _ z => z.elim⟩
theorem Rps.cons0 {d : D} {v : V} {ds : List D} {vs : List V} (h : Rp K N H d v AS0) (t : Rps K N H ds vs AS0) : Rps K N H (d :: ds) (v :: vs) AS0 := ⟨v, vs, AS0, AS0, rfl, h, t, fun _ z => z, fun _ z => z, fun _ z => z.elim⟩
theorem Rps.uncons0 {d : D} {ds : List D} {vs : List V} (h : Rps K N H (d :: ds) vs AS0) : ∃ v vr, vs = v :: vr ∧ Rp K N H d v AS0 ∧ Rps K N H ds vr AS0 := by
  obtain ⟨v, vr, A1, A2, e, h1, h2, s1, s2, dj⟩ := h
  exact ⟨v, vr, e, h1.up s1, h2.up s2⟩
theorem Rps.all0 : ∀ {ds : List D} {vs : List V}, Rps K N H ds vs AS0 → ds.all D.sh = true
  | [], _, _ => rfl
  | d :: ds, _, h => by
    obtain ⟨v, vr, rfl, h1, h2⟩ := h.uncons0
    rw [List.all_cons, Rps.all0 h2, Bool.and_true]
    cases d with
    | own ds => obtain ⟨a, _, _, _, _, z, _⟩ := h1; exact z.elim
    | ob k ds => obtain ⟨a, _, _, _, _, z, _⟩ := h1; exact z.elim
    | _ => rfl
theorem Rps.take0 : ∀ {ds : List D} {vs : List V} (n : Nat), Rps K N H ds vs AS0 → Rps K N H (ds.take n) (vs.take n) AS0
  | _, _, 0, _ => rfl
  | [], _, n + 1, h => by
    have e : _ = [] := h
    rw [e]
    rfl
  | d :: ds, _, n + 1, h => by
    obtain ⟨v, vr, rfl, h1, h2⟩ := h.uncons0
    exact .cons0 h1 (Rps.take0 n h2)
theorem Rps.drop0 : ∀ {ds : List D} {vs : List V} (n : Nat), Rps K N H ds vs AS0 → Rps K N H (ds.drop n) (vs.drop n) AS0
  | _, _, 0, h => h
  | [], _, n + 1, h => by
    have e : _ = [] := h
    rw [e]
    rfl
  | d :: ds, _, n + 1, h => by
    obtain ⟨v, vr, rfl, h1, h2⟩ := h.uncons0
    exact Rps.drop0 n h2
theorem Rps.reverse0 : ∀ {ds : List D} {vs : List V}, Rps K N H ds vs AS0 → Rps K N H ds.reverse vs.reverse AS0
  | [], _, h => by
    have e : _ = [] := h
    rw [e]
    rfl
  | d :: ds, _, h => by
    obtain ⟨v, vr, rfl, h1, h2⟩ := h.uncons0
    rw [List.reverse_cons, List.reverse_cons]
    exact Rps.append0 (Rps.reverse0 h2) (.cons0 h1 rfl)
theorem Rps.rep0 {d : D} {v : V} (h : Rp K N H d v AS0) : ∀ n : Nat, Rps K N H (List.replicate n d) (List.replicate n v) AS0
  | 0 => rfl
  | n + 1 => .cons0 h (Rps.rep0 h n)
theorem Rps.reps0 {ds : List D} {vs : List V} (h : Rps K N H ds vs AS0) : ∀ n : Nat, Rps K N H (List.replicate n ds).flatten (List.replicate n vs).flatten AS0
  | 0 => rfl
  | n + 1 => by
    rw [List.replicate_succ, List.replicate_succ, List.flatten_cons, List.flatten_cons]
    exact Rps.append0 h (Rps.reps0 h n)
theorem Rps.snoc0 {d : D} {v : V} {ds : List D} {vs : List V} (t : Rps K N H ds vs AS0) (h : Rp K N H d v AS0) : Rps K N H (ds ++ [d]) (vs ++ [v]) AS0 := Rps.append0 t (.cons0 h rfl)
end

/-! ### the slots -/
abbrev Ev := List (Option D)
def Sl (K : Fg) (N : AS) (H : Hp) : Ev → Sts → AS → Prop
  | [], σ, _ => σ = []
  | none :: ρ, σ, A => ∃ s σ', σ = s :: σ' ∧ Sl K N H ρ σ' A
  | some d :: ρ, σ, A => ∃ v σ' A1 A2, σ = some v :: σ' ∧ Rp K N H d v A1 ∧ Sl K N H ρ σ' A2 ∧ (∀ x, A1 x → A x) ∧ (∀ x, A2 x → A x) ∧ (∀ x, A1 x → ¬ A2 x)
section
variable {K : Fg} {N N' : AS} {H H' : Hp}
theorem Sl.up : ∀ {ρ : Ev} {σ : Sts} {A A' : AS}, Sl K N H ρ σ A → (∀ x, A x → A' x) → Sl K N H ρ σ A'
  | [], _, _, _, h, _ => h
  | none :: _, _, _, _, h, s => let ⟨x, σ', e, h⟩ := h; ⟨x, σ', e, Sl.up h s⟩
  | some _ :: _, _, _, _, h, s => by
    obtain ⟨v, vr, A1, A2, e, h1, h2, s1, s2, dj⟩ := h
    exact ⟨v, vr, A1, A2, e, h1, h2, fun x q => s x (s1 x q), fun x q => s x (s2 x q), dj⟩
theorem Sl.keep (x : Ext K N H N' H') : ∀ {ρ : Ev} {σ : Sts} {A : AS}, Sl K N H ρ σ A → (∀ b, A b → H' b = H b) → Sl K N' H' ρ σ A
  | [], _, _, h, _ => h
  | none :: _, _, _, h, k => let ⟨y, σ', e, h⟩ := h; ⟨y, σ', e, Sl.keep x h k⟩
  | some d :: _, _, _, h, k => by
    obtain ⟨v, vr, A1, A2, e, h1, h2, s1, s2, dj⟩ := h
    exact ⟨v, vr, A1, A2, e, h1.keep x d fun b q => k b (s1 b q), Sl.keep x h2 fun b q => k b (s2 b q), s1, s2, dj⟩
theorem Sl.length : ∀ {ρ : Ev} {σ : Sts} {A : AS}, Sl K N H ρ σ A → ρ.length = σ.length
  | [], _, _, h => by
    have e : _ = [] := h
    rw [e]
    rfl
  | none :: _, _, _, h => by
    obtain ⟨x, σ', rfl, h⟩ := h
    rw [List.length_cons, List.length_cons, Sl.length h]
  | some _ :: _, _, _, h => by
    obtain ⟨v, vr, A1, A2, rfl, h1, h2, s1, s2, dj⟩ := h
    rw [List.length_cons, List.length_cons, Sl.length h2]
/-- what stands in a slot, and the slots without it -/
theorem Sl.get : ∀ {ρ : Ev} {σ : Sts} {A : AS} {i : Nat} {d : D}, Sl K N H ρ σ A → ρ[i]? = some (some d) →
    ∃ v A1 A2, σ[i]? = some (some v) ∧ Rp K N H d v A1 ∧ Sl K N H (ρ.set i none) σ A2 ∧ (∀ x, A1 x → A x) ∧ (∀ x, A2 x → A x) ∧ (∀ x, A1 x → ¬ A2 x)
  | [], _, _, _, _, _, e => by simp at e
  | none :: _, _, _, 0, _, _, e => by simp at e
  | some d :: ρ, _, A, 0, d', h, e => by
    obtain ⟨v, vr, A1, A2, rfl, h1, h2, s1, s2, dj⟩ := h
    cases (show some (some d) = some (some d') from e)
    exact ⟨v, A1, A2, rfl, h1, ⟨some v, vr, rfl, h2⟩, s1, s2, dj⟩
  | none :: ρ, _, A, i + 1, d', h, e => by
    obtain ⟨x, σ', rfl, h⟩ := h
    obtain ⟨v', A3, A4, e3, r3, r4, s3, s4, dj3⟩ := Sl.get (i := i) (d := d') h (by simpa using e)
    exact ⟨v', A3, A4, by simpa using e3, r3, ⟨x, σ', rfl, r4⟩, s3, s4, dj3⟩
  | some d :: ρ, _, A, i + 1, d', h, e => by
    obtain ⟨v, vr, A1, A2, rfl, h1, h2, s1, s2, dj⟩ := h
    obtain ⟨v', A3, A4, e3, r3, r4, s3, s4, dj3⟩ := Sl.get (i := i) (d := d') h2 (by simpa using e)
    refine ⟨v', A3, fun x => A1 x ∨ A4 x, by simpa using e3, r3, ⟨v, vr, A1, A4, rfl, h1, r4, fun x q => .inl q, fun x q => .inr q, fun x q z => dj x q (s4 x z)⟩, fun x q => s2 x (s3 x q), fun x q => ?_, fun x q z => ?_⟩
    · rcases q with q | q
      · exact s1 x q
      · exact s2 x (s4 x q)
    · rcases z with z | z
      · exact dj x z (s3 x q)
      · exact dj3 x q z
/-- a slot emptied -/
theorem Sl.drop : ∀ {ρ : Ev} {σ : Sts} {A : AS} (i : Nat) (s : Option V), Sl K N H ρ σ A → Sl K N H (ρ.set i none) (σ.set i s) A
  | [], _, _, _, _, h => by
    have e : _ = [] := h
    rw [e]
    rfl
  | none :: _, _, _, 0, s, h => by
    obtain ⟨x, σ', rfl, h⟩ := h
    exact ⟨s, σ', rfl, h⟩
  | some _ :: _, _, _, 0, s, h => by
    obtain ⟨v, vr, A1, A2, rfl, h1, h2, s1, s2, dj⟩ := h
    exact ⟨s, vr, rfl, h2.up s2⟩
  | none :: _, _, _, i + 1, s, h => by
    obtain ⟨x, σ', rfl, h⟩ := h
    exact ⟨x, _, rfl, Sl.drop i s h⟩
  | some _ :: _, _, _, i + 1, s, h => by
    obtain ⟨v, vr, A1, A2, rfl, h1, h2, s1, s2, dj⟩ := h
    exact ⟨v, _, A1, A2, rfl, h1, Sl.drop i s h2, s1, s2, dj⟩
/-- a slot filled -/
theorem Sl.put : ∀ {ρ : Ev} {σ : Sts} {A A1 : AS} {i : Nat} {d : D} {v : V}, Sl K N H (ρ.set i none) σ A → i < ρ.length → σ[i]? = some (some v) → Rp K N H d v A1 → (∀ x, A1 x → ¬ A x) → Sl K N H (ρ.set i (some d)) σ (fun x => A x ∨ A1 x)
  | [], _, _, _, _, _, _, _, l, _, _, _ => by simp at l
  | x :: ρ, _, A, A1, 0, d, v, h, _, e, r, dj => by
    obtain ⟨y, σ', rfl, h'⟩ := (show Sl K N H (none :: ρ) _ A from h)
    cases (show some y = some (some v) from e)
    exact ⟨v, σ', A1, A, rfl, r, h', fun _ q => .inr q, fun _ q => .inl q, dj⟩
  | none :: ρ, _, A, A1, i + 1, d, v, h, l, e, r, dj => by
    obtain ⟨y, σ', rfl, h'⟩ := (show Sl K N H (none :: ρ.set i none) _ A from h)
    exact ⟨y, σ', rfl, Sl.put (i := i) h' (by simpa using l) (by simpa using e) r dj⟩
  | some x :: ρ, _, A, A1, i + 1, d, v, h, l, e, r, dj => by
    obtain ⟨u, σ', B1, B2, rfl, h1, h2, s1, s2, dj'⟩ := (show Sl K N H (some x :: ρ.set i none) _ A from h)
    refine ⟨u, σ', B1, fun z => B2 z ∨ A1 z, rfl, h1, Sl.put (i := i) h2 (by simpa using l) (by simpa using e) r fun z q w => dj z q (s2 z w), fun z q => .inl (s1 z q), fun z q => ?_, fun z q w => ?_⟩
    · rcases q with q | q
      · exact .inl (s2 z q)
      · exact .inr q
    · rcases w with w | w
      · exact dj' z q w
      · exact dj z w (s1 z q)
end
end BV

/-! BV, part B: the state by values. -/
namespace BV
open PySem PySem.Spec PyProof.Rows L2

/-- a def's run: the heap and what is owned at its entry, what it may change, the slots that stand fixed -/
structure Ct where
  H0 : Hp
  N0 : AS
  A0 : AS
  prot : List (Nat × V)

/-- es at xs: what was just reckoned; ds at vs: what waits ahead of it -/
structure Rl (K : Fg) (C : Ct) (N : AS) (σ : Sts) (ρ : Ev) (H : Hp) (xs : List V) (es : List D) (vs : List V) (ds : List D) : Prop where
  ex : ∃ A B1 B2, Sl K N H ρ σ A ∧ Rps K N H es xs B1 ∧ Rps K N H ds vs B2 ∧ (∀ x, A x → ¬ B1 x ∧ ¬ B2 x) ∧ (∀ x, B1 x → ¬ B2 x) ∧ (∀ x, A x ∨ B1 x ∨ B2 x → N x ∧ (C.A0 x ∨ C.H0 x = none))
  nh : ∀ x, N x → H x ≠ none
  h0 : ∀ x, C.N0 x → C.H0 x ≠ none
  n0 : ∀ x, C.N0 x → ¬ C.A0 x → N x
  fr : ∀ x, C.N0 x → ¬ C.A0 x → H x = C.H0 x
  xt : Ext K C.N0 C.H0 N H
  pr : ∀ p ∈ C.prot, σ[p.1]? = some (some p.2)
  dm : ∀ x, C.H0 x ≠ none → H x ≠ none

mutual
def D.frz : D → D
  | .own xs => .lst (D.frzs xs)
  | .non => .non
  | .bl b => .bl b
  | .int i => .int i
  | .str x => .str x
  | .tup xs => .tup xs
  | .lst xs => .lst xs
  | .frl xs => .frl xs
  | .fz k xs => .fz k xs
  | .ob k xs => .fz k (D.frzs xs)
def D.frzs : List D → List D
  | [] => []
  | d :: ds => d.frz :: D.frzs ds
end
theorem D.frz_sh {d : D} (h : d.sh = true) : d.frz = d := by
  cases d with
  | own xs => cases h
  | ob k xs => cases h
  | fz k xs => simp only [D.frz]
  | _ => rfl
theorem D.frzs_sh : ∀ {ds : List D}, ds.all D.sh = true → D.frzs ds = ds
  | [], _ => rfl
  | d :: ds, h => by
    rw [List.all_cons, Bool.and_eq_true] at h
    show d.frz :: D.frzs ds = d :: ds
    rw [D.frz_sh h.1, D.frzs_sh h.2]

section
variable {K : Fg} {C : Ct} {N N' : AS} {σ : Sts} {ρ : Ev} {H H' : Hp} {xs vs : List V} {es ds : List D} {v : V} {d : D}
mutual
theorem Rp.frz (s : ∀ x, N' x → N x) : ∀ (d : D) {v : V} {A : AS}, Rp K N H d v A → (∀ x, A x → ¬ N' x) → Rp K N' H d.frz v AS0
  | .non, _, _, h, _ => h
  | .bl _, _, _, h, _ => h
  | .int _, _, _, h, _ => h
  | .str _, _, _, h, _ => h
  | .tup ds, _, _, h, _ => Rp.keep0 (.less s) (d := .tup ds) h
  | .lst ds, _, _, h, _ => Rp.keep0 (.less s) (d := .lst ds) h
  | .frl ds, _, _, h, _ => Rp.keep0 (.less s) (d := .frl ds) h
  | .own ds, _, _, h, k => by
    obtain ⟨a, vs, B, e, ha, hA, hB, r⟩ := h
    exact ⟨a, vs, e, ha, k a hA, Rps.frz s ds r fun x q => k x (hB x q).1⟩
  | .fz k ds, _, _, h, _ => Rp.keep0 (.less s) (d := .fz k ds) h
  | .ob _ ds, _, _, h, k => by
    obtain ⟨a, vs, B, e, ha, hA, hB, r⟩ := h
    exact ⟨a, vs, e, Kd.at_of ha, k a hA, Rps.frz s ds r fun x q => k x (hB x q).1⟩
theorem Rps.frz (s : ∀ x, N' x → N x) : ∀ (ds : List D) {vs : List V} {A : AS}, Rps K N H ds vs A → (∀ x, A x → ¬ N' x) → Rps K N' H (D.frzs ds) vs AS0
  | [], _, _, h, _ => h
  | d :: ds, _, _, h, k => by
    obtain ⟨v, vr, A1, A2, e, h1, h2, s1, s2, dj⟩ := h
    rw [e]
    exact .cons0 (Rp.frz s d h1 fun x q => k x (s1 x q)) (Rps.frz s ds h2 fun x q => k x (s2 x q))
end
theorem Rl.park (R : Rl K C N σ ρ H [v] [d] vs ds) : Rl K C N σ ρ H [] [] (v :: vs) (d :: ds) := by
  obtain ⟨A, B1, B2, hA, h1, h2, d1, d2, ow⟩ := R.ex
  obtain ⟨v', vr, A1, A2, e, r1, r2, s1, s2, dj⟩ := h1
  have e2 : vr = [] := r2
  rw [e2] at e
  cases e
  refine ⟨⟨A, AS0, fun x => B1 x ∨ B2 x, hA, rfl, ⟨v, vs, B1, B2, rfl, r1.up s1, h2, fun _ q => .inl q, fun _ q => .inr q, d2⟩, fun x q => ⟨fun z => z, fun z => ?_⟩, fun _ q => q.elim, fun x q => ow x ?_⟩, R.nh, R.h0, R.n0, R.fr, R.xt, R.pr, R.dm⟩
  · rcases z with z | z
    · exact (d1 x q).1 z
    · exact (d1 x q).2 z
  · rcases q with q | q | q
    · exact .inl q
    · exact q.elim
    · exact .inr q
theorem Rl.cons (R : Rl K C N σ ρ H xs es (v :: vs) (d :: ds)) : Rl K C N σ ρ H (v :: xs) (d :: es) vs ds := by
  obtain ⟨A, B1, B2, hA, h1, h2, d1, d2, ow⟩ := R.ex
  obtain ⟨v', vr, A1, A2, e, r1, r2, s1, s2, dj⟩ := h2
  cases e
  refine ⟨⟨A, fun x => A1 x ∨ B1 x, A2, hA, ⟨v, xs, A1, B1, rfl, r1, h1, fun _ q => .inl q, fun _ q => .inr q, fun x q z => d2 x z (s1 x q)⟩, r2, fun x q => ⟨fun z => ?_, fun z => (d1 x q).2 (s2 x z)⟩, fun x q z => ?_, fun x q => ow x ?_⟩, R.nh, R.h0, R.n0, R.fr, R.xt, R.pr, R.dm⟩
  · rcases z with z | z
    · exact (d1 x q).2 (s1 x z)
    · exact (d1 x q).1 z
  · rcases q with q | q
    · exact dj x q z
    · exact d2 x q (s2 x z)
  · rcases q with q | (q | q) | q
    · exact .inl q
    · exact .inr (.inr (s1 x q))
    · exact .inr (.inl q)
    · exact .inr (.inr (s2 x q))
/-- what was reckoned is dropped; a value that owns nothing comes in its place -/
theorem Rl.res (R : Rl K C N σ ρ H xs es vs ds) (r : Rp K N H d v AS0) : Rl K C N σ ρ H [v] [d] vs ds := by
  obtain ⟨A, B1, B2, hA, h1, h2, d1, d2, ow⟩ := R.ex
  refine ⟨⟨A, AS0, B2, hA, .cons0 r rfl, h2, fun x q => ⟨fun z => z, (d1 x q).2⟩, fun _ q => q.elim, fun x q => ow x ?_⟩, R.nh, R.h0, R.n0, R.fr, R.xt, R.pr, R.dm⟩
  rcases q with q | q | q
  · exact .inl q
  · exact q.elim
  · exact .inr (.inr q)
theorem Rl.drop (R : Rl K C N σ ρ H xs es vs ds) : Rl K C N σ ρ H [] [] vs ds := by
  obtain ⟨A, B1, B2, hA, h1, h2, d1, d2, ow⟩ := R.ex
  refine ⟨⟨A, AS0, B2, hA, rfl, h2, fun x q => ⟨fun z => z, (d1 x q).2⟩, fun _ q => q.elim, fun x q => ow x ?_⟩, R.nh, R.h0, R.n0, R.fr, R.xt, R.pr, R.dm⟩
  rcases q with q | q | q
  · exact .inl q
  · exact q.elim
  · exact .inr (.inr q)
theorem Rl.top (R : Rl K C N σ ρ H xs es vs ds) : ∃ A, Rps K N H es xs A := by
  obtain ⟨A, B1, B2, hA, h1, h2, d1, d2, ow⟩ := R.ex
  exact ⟨_, h1⟩
theorem Rl.top1 (R : Rl K C N σ ρ H [v] [d] vs ds) : ∃ A, Rp K N H d v A := by
  obtain ⟨A, h⟩ := R.top
  obtain ⟨v', vr, A1, A2, e, r1, r2, s1, s2, dj⟩ := h
  cases e
  exact ⟨_, r1⟩
/-- a new object at p -/
theorem Rl.alloc {p : Addr} {o : HO} (R : Rl K C N σ ρ H xs es vs ds) (np : H p = none) : Rl K C N σ ρ (upd H p o) xs es vs ds := by
  obtain ⟨A, B1, B2, hA, h1, h2, d1, d2, ow⟩ := R.ex
  have x : Ext K N H N (upd H p o) := .alloc np fun _ q => .inl q
  have ne : ∀ y, N y → upd H p o y = H y := fun y q => upd_ne fun z => R.nh y q (z ▸ np)
  have nz : ∀ y, H y ≠ none → upd H p o y ≠ none := fun y q => by
    by_cases z : y = p
    · exact absurd (z ▸ np) q
    · rw [upd_ne z]; exact q
  exact ⟨⟨A, B1, B2, hA.keep x fun b q => ne b (ow b (.inl q)).1, h1.keep x es fun b q => ne b (ow b (.inr (.inl q))).1, h2.keep x ds fun b q => ne b (ow b (.inr (.inr q))).1, d1, d2, ow⟩,
    fun y q => nz y (R.nh y q), R.h0, R.n0, fun y q n => (ne y (R.n0 y q n)).trans (R.fr y q n), R.xt.trans x, R.pr, fun y q => nz y (R.dm y q)⟩
/-- a new list at p, owned -/
theorem Rl.allocN {p : Addr} {zs : List V} {fs : List D} (R : Rl K C N σ ρ H xs es vs ds) (np : H p = none) (hz : Rps K N H fs zs AS0) : Rl K C (fun y => N y ∨ y = p) σ ρ (upd H p (.lst zs)) [.ref p] [.own fs] vs ds := by
  have R1 := R.drop
  obtain ⟨A, B1, B2, hA, h1, h2, d1, d2, ow⟩ := R1.ex
  have x : Ext K N H (fun y => N y ∨ y = p) (upd H p (.lst zs)) := .alloc np fun _ q => q
  have ne : ∀ y, N y → upd H p (.lst zs) y = H y := fun y q => upd_ne fun z => R.nh y q (z ▸ np)
  have nz : ∀ y, H y ≠ none → upd H p (.lst zs) y ≠ none := fun y q => by
    by_cases z : y = p
    · exact absurd (z ▸ np) q
    · rw [upd_ne z]; exact q
  have nN : ¬ N p := fun z => R.nh p z np
  have h0 : C.H0 p = none := by
    cases e : C.H0 p with
    | none => rfl
    | some o => exact absurd np (R.dm p (by rw [e]; exact fun z => by cases z))
  refine ⟨⟨A, fun y => y = p, B2, hA.keep x fun b q => ne b (ow b (.inl q)).1, ⟨.ref p, [], fun y => y = p, AS0, rfl, ⟨p, zs, AS0, rfl, upd_same, rfl, fun _ q => q.elim, hz.keep0 x⟩, rfl, fun _ q => q, fun _ q => q.elim, fun _ _ q => q⟩, h2.keep x ds fun b q => ne b (ow b (.inr (.inr q))).1, fun y q => ⟨fun z => ?_, (d1 y q).2⟩, fun y q z => ?_, fun y q => ?_⟩,
    fun y q => ?_, R.h0, fun y q n => .inl (R.n0 y q n), fun y q n => (ne y (R.n0 y q n)).trans (R.fr y q n), R.xt.trans x, R.pr, fun y q => nz y (R.dm y q)⟩
  · exact nN (z ▸ (ow y (.inl q)).1)
  · exact nN (q ▸ (ow y (.inr (.inr z))).1)
  · rcases q with q | q | q
    · exact ⟨.inl (ow y (.inl q)).1, (ow y (.inl q)).2⟩
    · exact ⟨.inr q, .inr (q ▸ h0)⟩
    · exact ⟨.inl (ow y (.inr (.inr q))).1, (ow y (.inr (.inr q))).2⟩
  · rcases q with q | q
    · exact nz y (R.nh y q)
    · rw [q, upd_same]; exact fun z => by cases z
/-- a display: a new list of what was just reckoned, what it owns with it -/
theorem Rl.display {p : Addr} (R : Rl K C N σ ρ H xs es vs ds) (np : H p = none) : Rl K C (fun y => N y ∨ y = p) σ ρ (upd H p (.lst xs)) [.ref p] [.own es] vs ds := by
  obtain ⟨A, B1, B2, hA, h1, h2, d1, d2, ow⟩ := R.ex
  have x : Ext K N H (fun y => N y ∨ y = p) (upd H p (.lst xs)) := .alloc np fun _ q => q
  have ne : ∀ y, N y → upd H p (.lst xs) y = H y := fun y q => upd_ne fun z => R.nh y q (z ▸ np)
  have nz : ∀ y, H y ≠ none → upd H p (.lst xs) y ≠ none := fun y q => by
    by_cases z : y = p
    · exact absurd (z ▸ np) q
    · rw [upd_ne z]; exact q
  have nN : ¬ N p := fun z => R.nh p z np
  have h0 : C.H0 p = none := by
    cases e : C.H0 p with
    | none => rfl
    | some o => exact absurd np (R.dm p (by rw [e]; exact fun z => by cases z))
  refine ⟨⟨A, fun y => B1 y ∨ y = p, B2, hA.keep x fun b q => ne b (ow b (.inl q)).1, ⟨.ref p, [], fun y => B1 y ∨ y = p, AS0, rfl, ⟨p, xs, B1, rfl, upd_same, .inr rfl, fun y q => ⟨.inl q, fun z => nN (z ▸ (ow y (.inr (.inl q))).1)⟩, h1.keep x es fun b q => ne b (ow b (.inr (.inl q))).1⟩, rfl, fun _ q => q, fun _ q => q.elim, fun _ _ q => q⟩, h2.keep x ds fun b q => ne b (ow b (.inr (.inr q))).1, fun y q => ⟨fun z => ?_, (d1 y q).2⟩, fun y q z => ?_, fun y q => ?_⟩,
    fun y q => ?_, R.h0, fun y q n => .inl (R.n0 y q n), fun y q n => (ne y (R.n0 y q n)).trans (R.fr y q n), R.xt.trans x, R.pr, fun y q => nz y (R.dm y q)⟩
  · rcases z with z | z
    · exact (d1 y q).1 z
    · exact nN (z ▸ (ow y (.inl q)).1)
  · rcases q with q | q
    · exact d2 y q z
    · exact nN (q ▸ (ow y (.inr (.inr z))).1)
  · rcases q with q | (q | q) | q
    · exact ⟨.inl (ow y (.inl q)).1, (ow y (.inl q)).2⟩
    · exact ⟨.inl (ow y (.inr (.inl q))).1, (ow y (.inr (.inl q))).2⟩
    · exact ⟨.inr q, .inr (q ▸ h0)⟩
    · exact ⟨.inl (ow y (.inr (.inr q))).1, (ow y (.inr (.inr q))).2⟩
  · rcases q with q | q
    · exact nz y (R.nh y q)
    · rw [q, upd_same]; exact fun z => by cases z
/-- a new tuple of what was just reckoned -/
theorem Rl.newTup {p : Addr} {zs : List V} {fs : List D} (R : Rl K C N σ ρ H xs es vs ds) (np : H p = none) (hz : Rps K N H fs zs AS0) : Rl K C N σ ρ (upd H p (.tup zs)) [.ref p] [.tup fs] vs ds := by
  refine (R.alloc (o := .tup zs) np).res ⟨p, zs, rfl, .inl (.inl upd_same), hz.keep0 (.alloc np fun _ q => .inl q)⟩
/-- an owned value becomes one that nobody changes -/
theorem Rl.frz (R : Rl K C N σ ρ H [v] [d] vs ds) : ∃ N', Rl K C N' σ ρ H [v] [d.frz] vs ds := by
  by_cases hs : d.sh = true
  · exact ⟨N, by rw [D.frz_sh hs]; exact R⟩
  obtain ⟨A, B1, B2, hA, h1, h2, d1, d2, ow⟩ := R.ex
  obtain ⟨v', vr, A1, A2, e, r1, r2, s1, s2, dj⟩ := h1
  have e2 : vr = [] := r2
  rw [e2] at e
  cases e
  refine ⟨fun y => N y ∧ ¬ A1 y, ⟨A, AS0, B2, hA.keep (.less fun _ q => q.1) fun _ _ => rfl, .cons0 (Rp.frz (fun _ q => q.1) d r1 fun y q z => z.2 q) rfl, h2.keep (.less fun _ q => q.1) ds fun _ _ => rfl, fun y q => ⟨fun z => z, (d1 y q).2⟩, fun _ q => q.elim, fun y q => ?_⟩,
    fun y q => R.nh y q.1, R.h0, fun y q n => ⟨R.n0 y q n, fun z => ?_⟩, R.fr, R.xt.trans (.less fun _ q => q.1), R.pr, R.dm⟩
  · rcases q with q | q | q
    · exact ⟨⟨(ow y (.inl q)).1, fun z => (d1 y q).1 (s1 y z)⟩, (ow y (.inl q)).2⟩
    · exact q.elim
    · exact ⟨⟨(ow y (.inr (.inr q))).1, fun z => d2 y (s1 y z) q⟩, (ow y (.inr (.inr q))).2⟩
  · rcases (ow y (.inr (.inl (s1 y z)))).2 with w | w
    · exact n w
    · exact R.h0 y q w
/-- what a slot holds, if it owns nothing -/
theorem Rl.get {i : Nat} (R : Rl K C N σ ρ H xs es vs ds) (e : ρ[i]? = some (some d)) (s : d.sh = true) : ∃ v, σ[i]? = some (some v) ∧ Rp K N H d v AS0 := by
  obtain ⟨A, B1, B2, hA, h1, h2, d1, d2, ow⟩ := R.ex
  obtain ⟨v, A1, A2, e1, r1, r2, _⟩ := hA.get e
  exact ⟨v, e1, r1.share s⟩
theorem Rl.any {i : Nat} (R : Rl K C N σ ρ H xs es vs ds) (e : ρ[i]? = some (some d)) : ∃ v A, σ[i]? = some (some v) ∧ Rp K N H d v A := by
  obtain ⟨A, B1, B2, hA, h1, h2, d1, d2, ow⟩ := R.ex
  obtain ⟨v, A1, A2, e1, r1, r2, _⟩ := hA.get e
  exact ⟨v, A1, e1, r1⟩
/-- what a slot holds is taken out of it -/
theorem Rl.lend {i : Nat} (R : Rl K C N σ ρ H [] [] vs ds) (e : ρ[i]? = some (some d)) : ∃ v, σ[i]? = some (some v) ∧ Rl K C N σ (ρ.set i none) H [v] [d] vs ds := by
  obtain ⟨A, B1, B2, hA, h1, h2, d1, d2, ow⟩ := R.ex
  obtain ⟨v, A1, A2, e1, r1, r2, s1, s2, dj⟩ := hA.get e
  refine ⟨v, e1, ⟨A2, A1, B2, r2, ⟨v, [], A1, AS0, rfl, r1, rfl, fun _ q => q, fun _ q => q.elim, fun _ _ q => q⟩, h2, fun x q => ⟨fun z => dj x z q, (d1 x (s2 x q)).2⟩, fun x q => (d1 x (s1 x q)).2, fun x q => ?_⟩, R.nh, R.h0, R.n0, R.fr, R.xt, R.pr, R.dm⟩
  rcases q with q | q | q
  · exact ow x (.inl (s2 x q))
  · exact ow x (.inl (s1 x q))
  · exact ow x (.inr (.inr q))
/-- it is put back -/
theorem Rl.give {i : Nat} (R : Rl K C N σ ρ H (v :: xs) (d :: es) vs ds) (e : σ[i]? = some (some v)) : Rl K C N σ (ρ.set i (some d)) H xs es vs ds := by
  obtain ⟨A, B1, B2, hA, h1, h2, d1, d2, ow⟩ := R.ex
  obtain ⟨v', vr, A1, A2, ev, r1, r2, s1, s2, dj⟩ := h1
  cases ev
  have hl : i < ρ.length := by
    rw [hA.length]
    exact (List.getElem?_eq_some_iff.mp e).1
  have hs : σ.set i (some v) = σ := by
    apply List.ext_getElem?
    intro j
    by_cases hj : i = j
    · subst hj
      rw [List.getElem?_set_self (List.getElem?_eq_some_iff.mp e).1, e]
    · rw [List.getElem?_set_ne hj]
  have h0 : Sl K N H (ρ.set i none) σ A := by
    have q := hA.drop i (some v)
    rw [hs] at q
    exact q
  refine ⟨⟨fun x => A x ∨ A1 x, A2, B2, Sl.put h0 hl e r1 fun x q z => (d1 x z).1 (s1 x q), r2, h2, fun x q => ?_, fun x q => d2 x (s2 x q), fun x q => ?_⟩, R.nh, R.h0, R.n0, R.fr, R.xt, R.pr, R.dm⟩
  · rcases q with q | q
    · exact ⟨fun z => (d1 x q).1 (s2 x z), (d1 x q).2⟩
    · exact ⟨dj x q, d2 x (s1 x q)⟩
  · rcases q with (q | q) | q | q
    · exact ow x (.inl q)
    · exact ow x (.inr (.inl (s1 x q)))
    · exact ow x (.inr (.inl (s2 x q)))
    · exact ow x (.inr (.inr q))
theorem Rl.tail (R : Rl K C N σ ρ H (v :: xs) (d :: es) vs ds) : Rl K C N σ ρ H xs es vs ds := by
  obtain ⟨A, B1, B2, hA, h1, h2, d1, d2, ow⟩ := R.ex
  obtain ⟨v', vr, A1, A2, ev, r1, r2, s1, s2, dj⟩ := h1
  cases ev
  refine ⟨⟨A, A2, B2, hA, r2, h2, fun x q => ⟨fun z => (d1 x q).1 (s2 x z), (d1 x q).2⟩, fun x q => d2 x (s2 x q), fun x q => ow x ?_⟩, R.nh, R.h0, R.n0, R.fr, R.xt, R.pr, R.dm⟩
  rcases q with q | q | q
  · exact .inl q
  · exact .inr (.inl (s2 x q))
  · exact .inr (.inr q)
/-- a slot is stored -/
theorem Rl.store {i : Nat} (R : Rl K C N σ ρ H (v :: xs) (d :: es) vs ds) (hl : i < ρ.length) (hp : ∀ p ∈ C.prot, p.1 ≠ i) : Rl K C N (σ.set i (some v)) (ρ.set i (some d)) H xs es vs ds := by
  obtain ⟨A, B1, B2, hA, h1, h2, d1, d2, ow⟩ := R.ex
  have hs : i < σ.length := by rw [← hA.length]; exact hl
  have R2 : Rl K C N (σ.set i (some v)) (ρ.set i none) H (v :: xs) (d :: es) vs ds := by
    refine ⟨⟨A, B1, B2, hA.drop i (some v), h1, h2, d1, d2, ow⟩, R.nh, R.h0, R.n0, R.fr, R.xt, fun p hp' => ?_, R.dm⟩
    rw [List.getElem?_set_ne (Ne.symm (hp p hp'))]
    exact R.pr p hp'
  have R3 := R2.give (i := i) (by rw [List.getElem?_set_self hs])
  rw [List.set_set] at R3
  exact R3
/-- a slot is forgotten -/
theorem Rl.forget {i : Nat} (R : Rl K C N σ ρ H xs es vs ds) (s : Option V) (hp : ∀ p ∈ C.prot, p.1 ≠ i) : Rl K C N (σ.set i s) (ρ.set i none) H xs es vs ds := by
  obtain ⟨A, B1, B2, hA, h1, h2, d1, d2, ow⟩ := R.ex
  refine ⟨⟨A, B1, B2, hA.drop i s, h1, h2, d1, d2, ow⟩, R.nh, R.h0, R.n0, R.fr, R.xt, fun p hp' => ?_, R.dm⟩
  rw [List.getElem?_set_ne (Ne.symm (hp p hp'))]
  exact R.pr p hp'
theorem Rl.len (R : Rl K C N σ ρ H xs es vs ds) : ρ.length = σ.length := by
  obtain ⟨A, B1, B2, hA, _⟩ := R.ex
  exact hA.length
/-- an owned list that was just reckoned is changed; what was reckoned behind it goes into it or is dropped -/
theorem Rl.write {a : Addr} {zs : List V} {us : List V} {fs : List D} (R : Rl K C N σ ρ H (.ref a :: xs) (.own fs :: es) vs ds) (ha : H a = some (.lst us)) {gs : List D}
    (hz : ∀ B1 B2, Rps K N H fs us B1 → Rps K N H es xs B2 → (∀ x, B1 x → ¬ B2 x) → ∃ B3, Rps K N H gs zs B3 ∧ ∀ x, B3 x → B1 x ∨ B2 x) : Rl K C N σ ρ (upd H a (.lst zs)) [.ref a] [.own gs] vs ds := by
  obtain ⟨A, B1, B2, hA, h1, h2, d1, d2, ow⟩ := R.ex
  obtain ⟨v', vr, A1, A2, ev, r1, r2, s1, s2, dj⟩ := h1
  cases ev
  obtain ⟨a', us', B, e', ha', hAa, hB, rB⟩ := r1
  cases e'
  rw [ha] at ha'
  cases ha'
  obtain ⟨B3, g1, g2⟩ := hz B A2 rB r2 fun x q => dj x (hB x q).1
  have Na : N a := (ow a (.inr (.inl (s1 a hAa)))).1
  have x : Ext K N H N (upd H a (.lst zs)) := .write ha Na
  have ne : ∀ y, y ≠ a → upd H a (.lst zs) y = H y := fun y q => upd_ne q
  have nz : ∀ y, H y ≠ none → upd H a (.lst zs) y ≠ none := fun y q => by
    by_cases z : y = a
    · rw [z, upd_same]; exact fun z => by cases z
    · rw [ne y z]; exact q
  have a2 : ¬ A2 a := dj a hAa
  have g3 : ∀ y, B3 y → B1 y ∧ y ≠ a := fun y q => by
    rcases g2 y q with z | z
    · exact ⟨s1 y (hB y z).1, (hB y z).2⟩
    · exact ⟨s2 y z, fun w => a2 (w ▸ z)⟩
  refine ⟨⟨A, fun y => B3 y ∨ y = a, B2, hA.keep x fun b q => ne b fun z => (d1 b q).1 (z ▸ s1 a hAa), ⟨.ref a, [], fun y => B3 y ∨ y = a, AS0, rfl, ⟨a, zs, B3, rfl, upd_same, .inr rfl, fun y q => ⟨.inl q, (g3 y q).2⟩, g1.keep x gs fun b q => ne b (g3 b q).2⟩, rfl, fun _ q => q, fun _ q => q.elim, fun _ _ q => q⟩,
    h2.keep x ds fun b q => ne b fun z => d2 a (s1 a hAa) (z ▸ q), fun y q => ⟨fun z => ?_, (d1 y q).2⟩, fun y q => ?_, fun y q => ?_⟩, fun y q => nz y (R.nh y q), R.h0, R.n0, fun y q n => ?_, R.xt.trans x, R.pr, fun y q => nz y (R.dm y q)⟩
  · rcases z with z | z
    · exact (d1 y q).1 (g3 y z).1
    · exact (d1 y q).1 (z ▸ s1 a hAa)
  · rcases q with q | q
    · exact d2 y (g3 y q).1
    · exact d2 y (q ▸ s1 a hAa)
  · rcases q with q | (q | q) | q
    · exact ow y (.inl q)
    · exact ow y (.inr (.inl (g3 y q).1))
    · exact ow y (.inr (.inl (q ▸ s1 a hAa)))
    · exact ow y (.inr (.inr q))
  · rw [ne y fun z => ?_]
    · exact R.fr y q n
    · rcases (ow a (.inr (.inl (s1 a hAa)))).2 with w | w
      · exact n (z ▸ w)
      · exact R.h0 y q (z ▸ w)
end
end BV

/-! BV, part C: what operators do to data. -/
namespace BV
open PySem PySem.Spec PyProof.Rows L2

/-! ### data as the library's data -/
mutual
def D.py : D → PyData
  | .non => .none
  | .bl b => .bool b
  | .int i => .int i
  | .str x => .str x
  | .tup xs => .tuple (D.pys xs)
  | .lst xs => .list (D.pys xs)
  | .frl xs => .list (D.pys xs)
  | .own xs => .list (D.pys xs)
  | .fz .tpl xs => .tuple (D.pys xs)
  | .fz _ _ => .dict []
  | .ob _ _ => .dict []
def D.pys : List D → List PyData
  | [] => []
  | d :: ds => d.py :: D.pys ds
end
mutual
/-- no dict and no object in it -/
def D.pl : D → Bool
  | .tup xs => D.pls xs
  | .lst xs => D.pls xs
  | .frl xs => D.pls xs
  | .own xs => D.pls xs
  | .fz .tpl xs => D.pls xs
  | .fz _ _ => false
  | .ob _ _ => false
  | .non => true
  | .bl _ => true
  | .int _ => true
  | .str _ => true
def D.pls : List D → Bool
  | [] => true
  | d :: ds => d.pl && D.pls ds
end
mutual
theorem D.pl_of : ∀ {d : D}, d.py.canLay0 = true → d.pl = true
  | .tup xs, h => by
    simp only [D.py, PyData.canLay0] at h
    simp only [D.pl, D.pls_of h]
  | .lst xs, h => by
    simp only [D.py, PyData.canLay0] at h
    simp only [D.pl, D.pls_of h]
  | .frl xs, h => by
    simp only [D.py, PyData.canLay0] at h
    simp only [D.pl, D.pls_of h]
  | .own xs, h => by
    simp only [D.py, PyData.canLay0] at h
    simp only [D.pl, D.pls_of h]
  | .fz .tpl xs, h => by
    simp only [D.py, PyData.canLay0] at h
    simp only [D.pl, D.pls_of h]
  | .fz (.dic _) _, h => by simp [D.py, PyData.canLay0] at h
  | .fz (.obj _ _) _, h => by simp [D.py, PyData.canLay0] at h
  | .fz (.ins _ _ _) _, h => by simp [D.py, PyData.canLay0] at h
  | .ob _ _, h => by simp [D.py, PyData.canLay0] at h
  | .non, _ => by simp only [D.pl]
  | .bl _, _ => by simp only [D.pl]
  | .int _, _ => by simp only [D.pl]
  | .str _, _ => by simp only [D.pl]
theorem D.pls_of : ∀ {ds : List D}, PyData.canLayAll0 (D.pys ds) = true → D.pls ds = true
  | [], _ => by simp only [D.pls]
  | d :: ds, h => by
    simp only [D.pys, PyData.canLayAll0, Bool.and_eq_true] at h
    simp only [D.pls, D.pl_of h.1, D.pls_of h.2, Bool.and_self]
end
section
variable {K : Fg} {N : AS} {H : Hp}
mutual
theorem Rp.dp : ∀ (d : D) {v : V} {A : AS}, Rp K N H d v A → d.pl = true → Dp K H v d.py
  | .non, _, _, h, _ => by
    cases (show _ = V.non from h)
    exact .non
  | .bl b, _, _, h, _ => by
    cases (show _ = V.bl b from h)
    exact .bl b
  | .int i, _, _, h, _ => by
    cases (show _ = V.int i from h)
    exact .int i
  | .str x, _, _, h, _ => by
    cases (show _ = V.str x from h)
    exact .str x
  | .tup ds, _, _, h, p => by
    obtain ⟨a, vs, rfl, hs, r⟩ := h
    simp only [D.pl] at p
    exact .tup hs (Rps.dp ds r p)
  | .lst ds, _, _, h, p => by
    obtain ⟨a, vs, rfl, hs, _, r⟩ := h
    simp only [D.pl] at p
    exact .lst (.inl (.inl hs)) (Rps.dp ds r p)
  | .frl ds, _, _, h, p => by
    obtain ⟨a, vs, rfl, hs, r⟩ := h
    simp only [D.pl] at p
    exact .lst hs.sq (Rps.dp ds r p)
  | .own ds, _, _, h, p => by
    obtain ⟨a, vs, B, rfl, hs, _, _, r⟩ := h
    simp only [D.pl] at p
    exact .lst (.inl (.inl hs)) (Rps.dp ds r p)
  | .fz .tpl ds, _, _, h, p => by
    obtain ⟨a, vs, rfl, ⟨o, hs, _⟩, _, r⟩ := h
    simp only [D.pl] at p
    exact .tup (.inl (.inr ⟨o, hs⟩)) (Rps.dp ds r p)
  | .fz (.dic _) _, _, _, _, p => by simp [D.pl] at p
  | .fz (.obj _ _) _, _, _, _, p => by simp [D.pl] at p
  | .fz (.ins _ _ _) _, _, _, _, p => by simp [D.pl] at p
  | .ob _ _, _, _, _, p => by simp [D.pl] at p
theorem Rps.dp : ∀ (ds : List D) {vs : List V} {A : AS}, Rps K N H ds vs A → D.pls ds = true → DpAll K H vs (D.pys ds)
  | [], _, _, h, _ => by
    cases (show _ = [] from h)
    exact .nil
  | d :: ds, _, _, h, p => by
    obtain ⟨v, vr, A1, A2, rfl, h1, h2, s1, s2, dj⟩ := h
    simp only [D.pls, Bool.and_eq_true] at p
    exact .cons (Rp.dp d h1 p.1) (Rps.dp ds h2 p.2)
end
end
/-- the items of a list or a tuple -/
def D.seq : D → Option (List D)
  | .tup xs => some xs
  | .lst xs => some xs
  | .frl xs => some xs
  | .own xs => some xs
  | .fz .tpl xs => some xs
  | _ => none
/-- what may be compared by ==: no text with a sign beyond the line; one of both not too deep -/
def D.lay (d : D) : Bool := d.py.canLay0
def D.dep (d : D) : Nat := d.py.depth
def eqD : D → D → Option Bool
  | .str x, .str y => some (decide (x = y))
  | d, e => if d.lay = true ∧ e.lay = true ∧ min d.dep e.dep ≤ 64 then some (PyData.eqv d.py e.py) else none
theorem eqD_pl {d e : D} {b : Bool} (h : eqD d e = some b) : d.pl = true ∧ e.pl = true := by
  have w : (if d.lay = true ∧ e.lay = true ∧ min d.dep e.dep ≤ 64 then some (PyData.eqv d.py e.py) else none) = some b → d.pl = true ∧ e.pl = true := fun g => by
    by_cases c : d.lay = true ∧ e.lay = true ∧ min d.dep e.dep ≤ 64
    · exact ⟨D.pl_of c.1, D.pl_of c.2.1⟩
    · rw [if_neg c] at g
      cases g
  cases d with
  | str x =>
    cases e with
    | str y => simp only [D.pl, and_self]
    | _ => exact w h
  | _ => exact w h
theorem eqD_plM {d e : D} {f : Bool → D} {z : D} (h : (eqD d e).map f = some z) : d.pl = true ∧ e.pl = true := by
  cases q : eqD d e with
  | none => rw [q] at h; cases h
  | some b => exact eqD_pl q
def rEqX (K : Fg) : R2 := fun x y H Q => ∃ d e, Dp K H x d ∧ Dp K H y e ∧ ((d.canLay0 = true ∧ e.canLay0 = true ∧ min d.depth e.depth ≤ 64 ∧ Q (.bl (PyData.eqv d e)) H) ∨ ∃ a b, x = .str a ∧ y = .str b ∧ Q (.bl (decide (a = b))) H)
def rNeX (K : Fg) : R2 := fun x y H Q => ∃ d e, Dp K H x d ∧ Dp K H y e ∧ ((d.canLay0 = true ∧ e.canLay0 = true ∧ min d.depth e.depth ≤ 64 ∧ Q (.bl (!PyData.eqv d e)) H) ∨ ∃ a b, x = .str a ∧ y = .str b ∧ Q (.bl (!decide (a = b))) H)
section
variable {X : Cx}
theorem op_eqX (hu : X.A.units + 64 < cLine) : OpR X (compareOp .Eq) (rEqX X.K) := by
  intro pins s σ H x y v u Q I rx ry h
  obtain ⟨d, e, hd, he, h⟩ := h
  rcases h with ⟨sd, se, z, q⟩ | ⟨a, b, rfl, rfl, q⟩
  · obtain ⟨as, r1⟩ := Dp.reads I d x v hd rx
    obtain ⟨bs, r2⟩ := Dp.reads I e y u he ry
    exact SeqAt.compareEq_reads r1 r2 sd se (by omega) ⟨.bl _, H, I, rfl, q⟩
  · exact op_eq pins s σ H _ _ v u Q I rx ry ⟨rfl, by rw [dec_str, Bool.beq_eq_decide_eq]; exact q⟩
theorem op_neX (hu : X.A.units + 64 < cLine) : OpR X (compareOp .NotEq) (rNeX X.K) := by
  intro pins s σ H x y v u Q I rx ry h
  obtain ⟨d, e, hd, he, h⟩ := h
  rcases h with ⟨sd, se, z, q⟩ | ⟨a, b, rfl, rfl, q⟩
  · obtain ⟨as, r1⟩ := Dp.reads I d x v hd rx
    obtain ⟨bs, r2⟩ := Dp.reads I e y u he ry
    exact SeqAt.compareNe_reads r1 r2 sd se (by omega) ⟨.bl _, H, I, rfl, q⟩
  · exact op_ne pins s σ H _ _ v u Q I rx ry ⟨rfl, by rw [dec_str, Bool.beq_eq_decide_eq]; exact q⟩
end

/-! ### operators by values -/
/-- r does to two values what g does to data -/
def BopR (K : Fg) (r : R2) (g : D → D → Option D) : Prop := ∀ {C : Ct} {N : AS} {σ : Sts} {ρ : Ev} {H : Hp} {x y : V} {vs : List V} {d e : D} {ds : List D} {z : D} {Q : VK}, Rl K C N σ ρ H [x, y] [d, e] vs ds → g d e = some z → (∀ v N' H', Rl K C N' σ ρ H' [v] [z] vs ds → Q v H') → r x y H Q
def UopR (K : Fg) (r : V → Hp → VK → Prop) (g : D → Option D) : Prop := ∀ {C : Ct} {N : AS} {σ : Sts} {ρ : Ev} {H : Hp} {x : V} {vs : List V} {d : D} {ds : List D} {z : D} {Q : VK}, Rl K C N σ ρ H [x] [d] vs ds → g d = some z → (∀ v N' H', Rl K C N' σ ρ H' [v] [z] vs ds → Q v H') → r x H Q
section
variable {K : Fg} {C : Ct} {N : AS} {σ : Sts} {ρ : Ev} {H : Hp} {x y : V} {vs : List V} {d e : D} {ds : List D}
theorem Rl.two (R : Rl K C N σ ρ H [x, y] [d, e] vs ds) : ∃ A B, Rp K N H d x A ∧ Rp K N H e y B := by
  obtain ⟨A, h⟩ := R.top
  obtain ⟨v, vr, A1, A2, e1, r1, r2, s1, s2, dj⟩ := h
  cases e1
  obtain ⟨v, vr, A3, A4, e1, r3, _⟩ := r2
  cases e1
  exact ⟨A1, A3, r1, r3⟩
def okOr (K : Fg) (r r' : R2) : R2 := fun x y H Q => r x y H Q ∨ r' x y H Q

theorem bop_eq : BopR K (rEqX K) fun d e => (eqD d e).map D.bl := by
  intro C N σ ρ H x y vs d e ds z Q R g q
  obtain ⟨A, B, hd, he⟩ := R.two
  refine ⟨d.py, e.py, Rp.dp d hd (eqD_plM g).1, Rp.dp e he (eqD_plM g).2, ?_⟩
  have dflt : (if d.lay = true ∧ e.lay = true ∧ min d.dep e.dep ≤ 64 then some (PyData.eqv d.py e.py) else none).map D.bl = some z → d.py.canLay0 = true ∧ e.py.canLay0 = true ∧ min d.py.depth e.py.depth ≤ 64 ∧ Q (.bl (PyData.eqv d.py e.py)) H := fun g => by
    by_cases c : d.lay = true ∧ e.lay = true ∧ min d.dep e.dep ≤ 64
    · rw [if_pos c] at g
      cases g
      exact ⟨c.1, c.2.1, c.2.2, q _ N H (R.res rfl)⟩
    · rw [if_neg c] at g
      cases g
  cases d with
  | str a =>
    cases e with
    | str b =>
      cases (show x = .str a from hd)
      cases (show y = .str b from he)
      cases g
      exact .inr ⟨a, b, rfl, rfl, q _ N H (R.res rfl)⟩
    | _ => exact .inl (dflt g)
  | _ => exact .inl (dflt g)
theorem bop_ne : BopR K (rNeX K) fun d e => (eqD d e).map fun b => D.bl (!b) := by
  intro C N σ ρ H x y vs d e ds z Q R g q
  obtain ⟨A, B, hd, he⟩ := R.two
  refine ⟨d.py, e.py, Rp.dp d hd (eqD_plM g).1, Rp.dp e he (eqD_plM g).2, ?_⟩
  have dflt : (if d.lay = true ∧ e.lay = true ∧ min d.dep e.dep ≤ 64 then some (PyData.eqv d.py e.py) else none).map (fun b => D.bl (!b)) = some z → d.py.canLay0 = true ∧ e.py.canLay0 = true ∧ min d.py.depth e.py.depth ≤ 64 ∧ Q (.bl (!PyData.eqv d.py e.py)) H := fun g => by
    by_cases c : d.lay = true ∧ e.lay = true ∧ min d.dep e.dep ≤ 64
    · rw [if_pos c] at g
      cases g
      exact ⟨c.1, c.2.1, c.2.2, q _ N H (R.res rfl)⟩
    · rw [if_neg c] at g
      cases g
  cases d with
  | str a =>
    cases e with
    | str b =>
      cases (show x = .str a from hd)
      cases (show y = .str b from he)
      cases g
      exact .inr ⟨a, b, rfl, rfl, q _ N H (R.res rfl)⟩
    | _ => exact .inl (dflt g)
  | _ => exact .inl (dflt g)

/-- two whole numbers -/
def int2 (c : Int → Int → Bool) (g : Int → Int → D) : D → D → Option D
  | .int i, .int j => if c i j = true then some (g i j) else none
  | _, _ => none
theorem int2_of {c : Int → Int → Bool} {g : Int → Int → D} {d e z : D} (h : int2 c g d e = some z) : ∃ i j, d = .int i ∧ e = .int j ∧ c i j = true ∧ z = g i j := by
  unfold int2 at h
  split at h
  · split at h
    · cases h
      exact ⟨_, _, rfl, rfl, by assumption, rfl⟩
    · cases h
  · cases h
theorem bop_int {Cd : Int → Int → Prop} {gv : Int → Int → V} {c : Int → Int → Bool} {g : Int → Int → D} (hc : ∀ i j, c i j = true → Cd i j) (hg : ∀ i j N H, Rp K N H (g i j) (gv i j) AS0) : BopR K (rI Cd gv) (int2 c g) := by
  intro C N σ ρ H x y vs d e ds z Q R h q
  obtain ⟨A, B, hd, he⟩ := R.two
  obtain ⟨i, j, rfl, rfl, h1, rfl⟩ := int2_of h
  exact ⟨i, j, hd, he, hc i j h1, q _ N H (R.res (hg i j N H))⟩
theorem bop_int0 {gv : Int → Int → V} {g : Int → Int → D} (hg : ∀ i j N H, Rp K N H (g i j) (gv i j) AS0) : BopR K (rI0 gv) (int2 (fun _ _ => true) g) := by
  intro C N σ ρ H x y vs d e ds z Q R h q
  obtain ⟨A, B, hd, he⟩ := R.two
  obtain ⟨i, j, rfl, rfl, h1, rfl⟩ := int2_of h
  exact ⟨i, j, hd, he, q _ N H (R.res (hg i j N H))⟩
def subD : D → D → Option D := int2 (fun _ _ => true) fun i j => .int (i - j)
def ltD : D → D → Option D := int2 (fun _ _ => true) fun i j => .bl (decide (i < j))
def leD : D → D → Option D := int2 (fun _ _ => true) fun i j => .bl (decide (i ≤ j))
def gtD : D → D → Option D := int2 (fun _ _ => true) fun i j => .bl (decide (j < i))
def geD : D → D → Option D := int2 (fun _ _ => true) fun i j => .bl (decide (j ≤ i))
def modD : D → D → Option D := int2 (fun _ j => decide (0 < j)) fun i j => .int (i % j)
def divD : D → D → Option D := int2 (fun _ j => decide (0 < j) && decide (j.natAbs.log2 < 9000)) fun i j => .int (i / j)
def mulI (i j : Int) : Bool := decide (i.natAbs.log2 + j.natAbs.log2 < 1000000)
def powD : D → D → Option D := int2 (fun i j => decide (0 ≤ j) && decide (j ≤ 1000000) && decide (i.natAbs < 2 ^ 64)) fun i j => .int (i ^ j.toNat)
theorem bop_sub : BopR K (rI0 fun i j => .int (i - j)) subD := bop_int0 fun _ _ _ _ => by rfl
theorem bop_lt : BopR K (rI0 fun i j => .bl (decide (i < j))) ltD := bop_int0 fun _ _ _ _ => by rfl
theorem bop_le : BopR K (rI0 fun i j => .bl (decide (i ≤ j))) leD := bop_int0 fun _ _ _ _ => by rfl
theorem bop_gt : BopR K (rI0 fun i j => .bl (decide (j < i))) gtD := bop_int0 fun _ _ _ _ => by rfl
theorem bop_ge : BopR K (rI0 fun i j => .bl (decide (j ≤ i))) geD := bop_int0 fun _ _ _ _ => by rfl
theorem bop_mod : BopR K (rI (fun _ j => 0 < j) fun i j => .int (i % j)) modD := bop_int (fun _ _ h => of_decide_eq_true h) fun _ _ _ _ => by rfl
theorem bop_div : BopR K (rI CDivW fun i j => .int (i / j)) divD := bop_int (fun _ _ h => by
  rw [Bool.and_eq_true, decide_eq_true_eq, decide_eq_true_eq] at h
  exact h) fun _ _ _ _ => by rfl
theorem bop_pow : BopR K (rI CPow fun i j => .int (i ^ j.toNat)) powD := bop_int (fun _ _ h => by
  rw [Bool.and_eq_true, Bool.and_eq_true, decide_eq_true_eq, decide_eq_true_eq, decide_eq_true_eq] at h
  exact ⟨h.1.1, h.1.2, h.2⟩) fun _ _ _ _ => by rfl

/-- + : whole numbers, texts, tuples, lists -/
def addD : D → D → Option D
  | .int i, .int j => some (.int (i + j))
  | .str a, .str b => if a.length + b.length ≤ sizeLine then some (.str (a ++ b)) else none
  | .tup xs, .tup ys => if xs.length + ys.length ≤ sizeLine then some (.tup (xs ++ ys)) else none
  | .lst xs, .lst ys => if xs.length + ys.length ≤ sizeLine then some (.own (xs ++ ys)) else none
  | .lst xs, .own ys => if xs.length + ys.length ≤ sizeLine ∧ ys.all D.sh = true then some (.own (xs ++ ys)) else none
  | .own xs, .lst ys => if xs.length + ys.length ≤ sizeLine ∧ xs.all D.sh = true then some (.own (xs ++ ys)) else none
  | .own xs, .own ys => if xs.length + ys.length ≤ sizeLine ∧ xs.all D.sh = true ∧ ys.all D.sh = true then some (.own (xs ++ ys)) else none
  | _, _ => none
def rAddX (K : Fg) : R2 := fun x y H Q => ((rI0 fun i j => .int (i + j)) x y H Q) ∨ ((fun x y H Q => ∃ i j, x = .str i ∧ y = .str j ∧ i.length + j.length ≤ sizeLine ∧ Q (.str (i ++ j)) H) x y H Q) ∨ rCatA K x y H Q ∨ rCat x y H Q
theorem op_addX {X : Cx} : OpR X (binaryOp .Add) (rAddX X.K) := op_add.or (op_add_str.or (op_catA.or op_cat))
theorem bop_cat {xs ys : List D} {d e z : D} {x y : V} {vs : List V} {ds : List D} {a b : Addr} {us ws : List V} {Q : VK} (R : Rl K C N σ ρ H [x, y] [d, e] vs ds) (ex : x = .ref a) (ey : y = .ref b) (ha : H a = some (.lst us)) (hb : H b = some (.lst ws)) (r1 : Rps K N H xs us AS0) (r2 : Rps K N H ys ws AS0)
    (hz : xs.length + ys.length ≤ sizeLine) (ez : z = .own (xs ++ ys)) (q : ∀ v N' H', Rl K C N' σ ρ H' [v] [z] vs ds → Q v H') : rCat x y H Q := by
  subst ez
  refine ⟨a, b, us, ws, ex, ey, ha, hb, by rw [← r1.length, ← r2.length]; exact hz, fun p np => ?_⟩
  exact q _ _ _ (R.allocN np (r1.append0 r2))
theorem bop_add : BopR K (rAddX K) addD := by
  intro C N σ ρ H x y vs d e ds z Q R h q
  obtain ⟨A, B, hd, he⟩ := R.two
  unfold addD at h
  split at h
  · cases h
    exact .inl ⟨_, _, hd, he, q _ N H (R.res rfl)⟩
  · split at h
    · cases h
      exact .inr (.inl ⟨_, _, hd, he, by assumption, q _ N H (R.res rfl)⟩)
    · cases h
  · rename_i xs ys
    split at h
    · rename_i hz
      cases h
      obtain ⟨a, us, rfl, ha, r1⟩ := hd
      obtain ⟨b, ws, rfl, hb, r2⟩ := he
      refine .inr (.inr (.inl ⟨a, b, us, ws, rfl, rfl, ha, hb, by rw [← r1.length, ← r2.length]; exact hz, fun e0 => ?_, fun _ e0 => ?_, fun _ _ p np => ?_⟩))
      · have ex : xs = [] := List.eq_nil_of_length_eq_zero (by rw [r1.length, e0]; rfl)
        subst ex
        exact q _ N H (R.res ⟨b, ws, rfl, hb, r2⟩)
      · have ex : ys = [] := List.eq_nil_of_length_eq_zero (by rw [r2.length, e0]; rfl)
        subst ex
        rw [List.append_nil] at q
        exact q _ N H (R.res ⟨a, us, rfl, ha, r1⟩)
      · exact q _ _ _ (R.newTup np (r1.append0 r2))
    · cases h
  · split at h
    · rename_i hz
      cases h
      obtain ⟨a, us, ex, ha, _, r1⟩ := hd
      obtain ⟨b, ws, ey, hb, _, r2⟩ := he
      exact .inr (.inr (.inr (bop_cat R ex ey ha hb r1 r2 hz rfl q)))
    · cases h
  · split at h
    · rename_i hz
      cases h
      obtain ⟨a, us, ex, ha, _, r1⟩ := hd
      obtain ⟨b, ws, B, ey, hb, _, _, r2⟩ := he
      exact .inr (.inr (.inr (bop_cat R ex ey ha hb r1 (r2.share hz.2) hz.1 rfl q)))
    · cases h
  · split at h
    · rename_i hz
      cases h
      obtain ⟨a, us, B, ex, ha, _, _, r1⟩ := hd
      obtain ⟨b, ws, ey, hb, _, r2⟩ := he
      exact .inr (.inr (.inr (bop_cat R ex ey ha hb (r1.share hz.2) r2 hz.1 rfl q)))
    · cases h
  · split at h
    · rename_i hz
      cases h
      obtain ⟨a, us, B, ex, ha, _, _, r1⟩ := hd
      obtain ⟨b, ws, B', ey, hb, _, _, r2⟩ := he
      exact .inr (.inr (.inr (bop_cat R ex ey ha hb (r1.share hz.2.1) (r2.share hz.2.2) hz.1 rfl q)))
    · cases h
  · cases h
end
end BV

/-! BV, part D: the judgements by values; names, constants, operators, displays, calls. -/
namespace BV
open PySem PySem.Spec PyProof.Rows L2

/-! ### readings by values -/
structure XE where
  f : Ev → (D → Ev → Prop) → Prop
  mono : ∀ {ρ : Ev} {Q Q' : D → Ev → Prop}, (∀ d ρ', Q d ρ' → Q' d ρ') → f ρ Q → f ρ Q'
structure XT where
  f : Ev → (Bool → Ev → Prop) → Prop
  mono : ∀ {ρ : Ev} {Q Q' : Bool → Ev → Prop}, (∀ d ρ', Q d ρ' → Q' d ρ') → f ρ Q → f ρ Q'
structure XA where
  f : Ev → (List D → Ev → Prop) → Prop
  mono : ∀ {ρ : Ev} {Q Q' : List D → Ev → Prop}, (∀ d ρ', Q d ρ' → Q' d ρ') → f ρ Q → f ρ Q'
structure DE where
  nx : Ev → Prop
  rt : D → Ev → Prop
  bk : Ev → Prop
  ct : Ev → Prop
structure DE.le (G G' : DE) : Prop where
  nx : ∀ ρ, G.nx ρ → G'.nx ρ
  rt : ∀ d ρ, G.rt d ρ → G'.rt d ρ
  bk : ∀ ρ, G.bk ρ → G'.bk ρ
  ct : ∀ ρ, G.ct ρ → G'.ct ρ
structure XS where
  f : DE → Ev → Prop
  mono : ∀ {G G' : DE} {ρ : Ev}, G.le G' → f G ρ → f G' ρ

structure VE (X : Cx) (C : Ct) (e : Expr) (t : TE) (T : XE) : Prop where
  pe : PE X e t
  se : ∀ {N : AS} {σ : Sts} {ρ : Ev} {H : Hp} {vs : List V} {ds : List D} {Q : VK}, Rl X.K C N σ ρ H [] [] vs ds → T.f ρ (fun d ρ' => ∀ v N' H', Rl X.K C N' σ ρ' H' [v] [d] vs ds → Q v H') → t σ H Q
structure VT (X : Cx) (C : Ct) (e : Expr) (t : TT) (T : XT) : Prop where
  pt : PT X e t
  st : ∀ {N : AS} {σ : Sts} {ρ : Ev} {H : Hp} {vs : List V} {ds : List D} {Q : Bool → Hp → Prop}, Rl X.K C N σ ρ H [] [] vs ds → T.f ρ (fun b ρ' => ∀ N' H', Rl X.K C N' σ ρ' H' [] [] vs ds → Q b H') → t σ H Q
structure VW (X : Cx) (C : Ct) (e : Expr) (t : TT) (T : XT) : Prop where
  pw : PW X e t
  st : ∀ {N : AS} {σ : Sts} {ρ : Ev} {H : Hp} {vs : List V} {ds : List D} {Q : Bool → Hp → Prop}, Rl X.K C N σ ρ H [] [] vs ds → T.f ρ (fun b ρ' => ∀ N' H', Rl X.K C N' σ ρ' H' [] [] vs ds → Q b H') → t σ H Q
/-- the places of arguments that were lent out of slots -/
structure Lent (σ : Sts) (sl : List (Option Nat)) (xs : List V) : Prop where
  len : xs.length = sl.length
  at_ : ∀ (k i : Nat), sl[k]? = some (some i) → ∃ x, xs[k]? = some x ∧ σ[i]? = some (some x)
structure VA (X : Cx) (C : Ct) (es : List Expr) (sl : List (Option Nat)) (t : TA) (T : XA) : Prop where
  pa : PA X es t
  sa : ∀ {N : AS} {σ : Sts} {ρ : Ev} {H : Hp} {vs : List V} {ds : List D} {Q : List V → Hp → Prop}, Rl X.K C N σ ρ H [] [] vs ds → T.f ρ (fun fs ρ' => ∀ xs N' H', Rl X.K C N' σ ρ' H' xs fs vs ds → Lent σ sl xs → Q xs H') → t σ H Q
structure Leads (K : Fg) (C : Ct) (vs : List V) (ds : List D) (G : DE) (E : Ends) : Prop where
  nx : ∀ σ ρ H N, Rl K C N σ ρ H [] [] vs ds → G.nx ρ → E.nx σ H
  rt : ∀ v d σ ρ H N, Rl K C N σ ρ H [v] [d] vs ds → G.rt d ρ → E.rt v H
  bk : ∀ σ ρ H N, Rl K C N σ ρ H [] [] vs ds → G.bk ρ → E.bk σ H
  ct : ∀ σ ρ H N, Rl K C N σ ρ H [] [] vs ds → G.ct ρ → E.ct σ H
structure VS (X : Cx) (C : Ct) (s : Stmt) (t : TS) (T : XS) : Prop where
  ps : PS X s t
  ss : ∀ {N : AS} {σ : Sts} {ρ : Ev} {H : Hp} {vs : List V} {ds : List D} {E : Ends} {G : DE}, Rl X.K C N σ ρ H [] [] vs ds → T.f G ρ → Leads X.K C vs ds G E → t E σ H
structure VB (X : Cx) (C : Ct) (ss : List Stmt) (t : TS) (T : XS) : Prop where
  ps : PSs X ss t
  ss : ∀ {N : AS} {σ : Sts} {ρ : Ev} {H : Hp} {vs : List V} {ds : List D} {E : Ends} {G : DE}, Rl X.K C N σ ρ H [] [] vs ds → T.f G ρ → Leads X.K C vs ds G E → t E σ H

section
variable {X : Cx} {C : Ct} {a b c e : Expr} {es : List Expr} {ta tb tc te : TE} {Ta Tb Tc Te : XE} {pos p : Pos}

/-! ### names, constants -/
def xName (i : Nat) : XE := ⟨fun ρ Q => ∃ d, ρ[i]? = some (some d) ∧ d.sh = true ∧ Q d ρ, fun m ⟨d, h1, h2, q⟩ => ⟨d, h1, h2, m _ _ q⟩⟩
theorem ve_name (i : Nat) (h : PE X e (tVar i)) : VE X C e (tVar i) (xName i) := by
  refine ⟨h, fun R q => ?_⟩
  obtain ⟨d, h1, h2, q⟩ := q
  obtain ⟨v, e1, r⟩ := R.get h1 h2
  exact ⟨v, e1, q v _ _ (R.res r)⟩
def xC (d : D) : XE := ⟨fun ρ Q => Q d ρ, fun m q => m _ _ q⟩
theorem ve_of_c {v : V} {d : D} (h : PE X e (tC v)) (r : ∀ N H, Rp X.K N H d v AS0) : VE X C e (tC v) (xC d) := ⟨h, fun R q => q v _ _ (R.res (r _ _))⟩
theorem ve_int {i j} : VE X C (.Constant (.int i) j pos) (tC (.int i)) (xC (.int i)) := ve_of_c pe_int fun _ _ => rfl
theorem ve_bl {i j} : VE X C (.Constant (.bool i) j pos) (tC (.bl i)) (xC (.bl i)) := ve_of_c pe_bl fun _ _ => rfl
theorem ve_str {i j} : VE X C (.Constant (.str i) j pos) (tC (.str i)) (xC (.str i)) := ve_of_c pe_str fun _ _ => rfl
theorem ve_non {j} : VE X C (.Constant .none j pos) (tC .non) (xC .non) := ve_of_c pe_non fun _ _ => rfl
/-- a whole number of the module -/
theorem ve_globI {x : Str} {i : Int} (hg : Gl X x) (hm : ∃ t, X.mg x = some (.int i t)) (hd : (x == ("__debug__" : Str)) = false := by decide) : VE X C (.Name x pos) (tC (.int i)) (xC (.int i)) := by
  obtain ⟨t, e⟩ := hm
  exact ve_of_c (pe_glob hg e ⟨t, rfl⟩ hd) fun _ _ => rfl
theorem ve_globS {x z : Str} (hg : Gl X x) (hm : ∃ t, X.mg x = some (.str z t)) (hd : (x == ("__debug__" : Str)) = false := by decide) : VE X C (.Name x pos) (tC (.str z)) (xC (.str z)) := by
  obtain ⟨t, e⟩ := hm
  exact ve_of_c (pe_glob hg e ⟨t, rfl⟩ hd) fun _ _ => rfl

/-! ### two operands -/
def xBin (g : D → D → Option D) (Ta Tb : XE) : XE := ⟨fun ρ Q => Ta.f ρ fun d ρ1 => Tb.f ρ1 fun e ρ2 => ∃ z, g d e = some z ∧ Q z ρ2,
  fun m q => Ta.mono (fun _ _ q => Tb.mono (fun _ _ ⟨z, h, q⟩ => ⟨z, h, m _ _ q⟩) q) q⟩
theorem se_bin {r : R2} {g : D → D → Option D} (hg : BopR X.K r g) (ha : VE X C a ta Ta) (hb : VE X C b tb Tb) {N : AS} {σ : Sts} {ρ : Ev} {H : Hp} {vs : List V} {ds : List D} {Q : VK} (R : Rl X.K C N σ ρ H [] [] vs ds)
    (q : (xBin g Ta Tb).f ρ (fun d ρ' => ∀ v N' H', Rl X.K C N' σ ρ' H' [v] [d] vs ds → Q v H')) : tOp r ta tb σ H Q := by
  refine ha.se R (Ta.mono (fun d ρ1 q v N1 H1 R1 => ?_) q)
  refine hb.se R1.park (Tb.mono (fun e ρ2 q w N2 H2 R2 => ?_) q)
  obtain ⟨z, hz, q⟩ := q
  exact hg R2.cons hz q
theorem ve_bin {op : Operator} {r : R2} {g : D → D → Option D} (ho : OpR X (binaryOp op) r) (hg : BopR X.K r g) (ha : VE X C a ta Ta) (hb : VE X C b tb Tb) : VE X C (.BinOp a op b pos) (tOp r ta tb) (xBin g Ta Tb) :=
  ⟨pe_op ho ha.pe hb.pe, fun R q => se_bin hg ha hb R q⟩
theorem ve_cmp {op : CmpOp} {r : R2} {g : D → D → Option D} (ho : OpR X (compareOp op) r) (hg : BopR X.K r g) (ha : VE X C a ta Ta) (hb : VE X C b tb Tb) (hm : behindInMarks op b = false) : VE X C (.Compare a [op] [b] pos) (tOp r ta tb) (xBin g Ta Tb) :=
  ⟨pe_cmpR ho ha.pe hb.pe hm, fun R q => se_bin hg ha hb R q⟩
/-- as a test -/
def xTst (T : XE) : XT := ⟨fun ρ Q => T.f ρ fun d ρ' => ∃ k, d = .bl k ∧ Q k ρ', fun m q => T.mono (fun _ _ ⟨k, e, q⟩ => ⟨k, e, m _ _ q⟩) q⟩
theorem tst_lift {K : Fg} {T : XE} {σ : Sts} {ρ : Ev} {vs : List V} {ds : List D} {Q : Bool → Hp → Prop} (q : (xTst T).f ρ (fun b ρ' => ∀ N' H', Rl K C N' σ ρ' H' [] [] vs ds → Q b H')) :
    T.f ρ (fun d ρ' => ∀ v N' H', Rl K C N' σ ρ' H' [v] [d] vs ds → ∃ k, v = .bl k ∧ Q k H') :=
  T.mono (Q := fun d ρ' => ∃ k, d = .bl k ∧ ∀ N' H', Rl K C N' σ ρ' H' [] [] vs ds → Q k H') (fun d ρ' h v N' H' R' => by
    obtain ⟨k, e, q⟩ := h
    subst e
    obtain ⟨A, h⟩ := R'.top1
    exact ⟨k, h, q N' H' R'.drop⟩) q
theorem vt_cmp {op : CmpOp} {r : R2} {g : D → D → Option D} (ho : OpR X (compareOp op) r) (hg : BopR X.K r g) (ha : VE X C a ta Ta) (hb : VE X C b tb Tb) (hm : behindInMarks op b = false) : VT X C (.Compare a [op] [b] pos) (tTest (tOp r ta tb)) (xTst (xBin g Ta Tb)) :=
  ⟨pt_cmpR ho ha.pe hb.pe hm, fun R q => se_bin hg ha hb R (tst_lift q)⟩
/-- a < b < c, of whole numbers -/
def xChain (g g' : Int → Int → Bool) (Ta Tb Tc : XE) : XE := ⟨fun ρ Q => Ta.f ρ fun d ρ1 => Tb.f ρ1 fun e ρ2 => ∃ i j, d = .int i ∧ e = .int j ∧ (g i j = true → Tc.f ρ2 fun f ρ3 => ∃ k, f = .int k ∧ Q (.bl (g' j k)) ρ3) ∧ (g i j = false → Q (.bl false) ρ2),
  fun m q => Ta.mono (fun _ _ q => Tb.mono (fun _ _ ⟨i, j, h1, h2, q1, q2⟩ => ⟨i, j, h1, h2, fun z => Tc.mono (fun _ _ ⟨k, h, q⟩ => ⟨k, h, m _ _ q⟩) (q1 z), fun z => m _ _ (q2 z)⟩) q) q⟩
theorem se_chain {g g' : Int → Int → Bool} (ha : VE X C a ta Ta) (hb : VE X C b tb Tb) (hc : VE X C c tc Tc) {N : AS} {σ : Sts} {ρ : Ev} {H : Hp} {vs : List V} {ds : List D} {Q : VK} (R : Rl X.K C N σ ρ H [] [] vs ds)
    (q : (xChain g g' Ta Tb Tc).f ρ (fun d ρ' => ∀ v N' H', Rl X.K C N' σ ρ' H' [v] [d] vs ds → Q v H')) : tChain (rI0 fun i j => .bl (g i j)) (rI0 fun i j => .bl (g' i j)) ta tb tc σ H Q := by
  refine ha.se R (Ta.mono (fun d ρ1 q v N1 H1 R1 => ?_) q)
  refine hb.se R1.park (Tb.mono (fun e ρ2 q w N2 H2 R2 => ?_) q)
  obtain ⟨i, j, rfl, rfl, q1, q2⟩ := q
  obtain ⟨A, B, hv, hw⟩ := R2.cons.two
  refine ⟨i, j, hv, hw, _, rfl, ?_⟩
  cases e : g i j with
  | false => exact iteF (q2 e _ _ _ (R2.cons.res rfl))
  | true =>
    refine iteT (hc.se R2.cons.drop (Tc.mono (fun f ρ3 q u N3 H3 R3 => ?_) (q1 e)))
    obtain ⟨k, rfl, q⟩ := q
    obtain ⟨A3, h3⟩ := R3.top1
    exact ⟨j, k, hw, h3, q _ _ _ (R3.res rfl)⟩
theorem ve_chain {op op' : CmpOp} {g g' : Int → Int → Bool} (ho : OpR X (compareOp op) (rI0 fun i j => .bl (g i j))) (ho' : OpR X (compareOp op') (rI0 fun i j => .bl (g' i j))) (ha : VE X C a ta Ta) (hb : VE X C b tb Tb) (hc : VE X C c tc Tc)
    (hm : lastMarks [op, op'] [b, c] = false := by with_unfolding_all rfl) : VE X C (.Compare a [op, op'] [b, c] pos) (tChain (rI0 fun i j => .bl (g i j)) (rI0 fun i j => .bl (g' i j)) ta tb tc) (xChain g g' Ta Tb Tc) :=
  ⟨pe_chain ho ho' ha.pe hb.pe hc.pe hm, fun R q => se_chain ha hb hc R q⟩
theorem vt_chain {op op' : CmpOp} {g g' : Int → Int → Bool} (ho : OpR X (compareOp op) (rI0 fun i j => .bl (g i j))) (ho' : OpR X (compareOp op') (rI0 fun i j => .bl (g' i j))) (ha : VE X C a ta Ta) (hb : VE X C b tb Tb) (hc : VE X C c tc Tc)
    (hm : lastMarks [op, op'] [b, c] = false := by with_unfolding_all rfl) : VT X C (.Compare a [op, op'] [b, c] pos) (tTest (tChain (rI0 fun i j => .bl (g i j)) (rI0 fun i j => .bl (g' i j)) ta tb tc)) (xTst (xChain g g' Ta Tb Tc)) :=
  ⟨pt_chain ho ho' ha.pe hb.pe hc.pe hm, fun R q => se_chain ha hb hc R (tst_lift q)⟩

/-! ### tests -/
/-- truth -/
def D.tru : D → Option Bool
  | .non => some false
  | .bl b => some b
  | .int i => some (decide (i ≠ 0))
  | .str x => if x.length ≤ sizeLine then some (decide (x.length ≠ 0)) else none
  | .tup xs => some (!xs.isEmpty)
  | .lst xs => some (!xs.isEmpty)
  | .frl xs => some (!xs.isEmpty)
  | .own xs => some (!xs.isEmpty)
  | .fz .tpl xs => some (!xs.isEmpty)
  | .fz _ _ => none
  | .ob _ _ => none
theorem Rps.isEmpty {K : Fg} {N : AS} {H : Hp} {ds : List D} {vs : List V} {A : AS} (h : Rps K N H ds vs A) : ds.isEmpty = vs.isEmpty := by
  have e := h.length
  cases ds <;> cases vs <;> first | rfl | simp at e
theorem D.tru_ok {K : Fg} {N : AS} {H : Hp} {d : D} {v : V} {A : AS} {k : Bool} (h : Rp K N H d v A) (e : d.tru = some k) : TruV K v H k := by
  cases d with
  | non => cases (show v = .non from h); cases e; exact rfl
  | bl b => cases (show v = .bl b from h); cases e; exact rfl
  | int i =>
    cases (show v = .int i from h)
    cases e
    show decide (i ≠ 0) = (i != 0)
    by_cases z : i = 0
    · subst z; rfl
    · rw [decide_eq_true z]
      exact (bne_iff_ne.mpr z).symm
  | str x =>
    cases (show v = .str x from h)
    have e' : (if x.length ≤ sizeLine then some (decide (x.length ≠ 0)) else none) = some k := e
    split at e'
    · rename_i hl
      cases e'
      refine ⟨hl, ?_⟩
      by_cases z : x.length = 0
      · rw [z]; rfl
      · rw [decide_eq_true z]
        exact (bne_iff_ne.mpr (by omega)).symm
    · cases e'
  | tup xs =>
    obtain ⟨a, vs, rfl, hs, r⟩ := h
    cases e
    exact .inr (.inl ⟨vs, hs, by rw [r.isEmpty]⟩)
  | lst xs =>
    obtain ⟨a, vs, rfl, hs, _, r⟩ := h
    cases e
    exact .inl ⟨vs, .inl (.inl hs), by rw [r.isEmpty]⟩
  | frl xs =>
    obtain ⟨a, vs, rfl, hs, r⟩ := h
    cases e
    exact .inl ⟨vs, hs.sq, by rw [r.isEmpty]⟩
  | own xs =>
    obtain ⟨a, vs, B, rfl, hs, _, _, r⟩ := h
    cases e
    exact .inl ⟨vs, .inl (.inl hs), by rw [r.isEmpty]⟩
  | fz k xs =>
    cases k with
    | tpl =>
      obtain ⟨a, vs, rfl, ⟨o, hs, _⟩, _, r⟩ := h
      cases e
      exact .inr (.inl ⟨vs, .inl (.inr ⟨o, hs⟩), by rw [r.isEmpty]⟩)
    | _ => cases e
  | ob _ _ => cases e
def xTru (T : XE) : XT := ⟨fun ρ Q => T.f ρ fun d ρ' => ∃ k, d.tru = some k ∧ Q k ρ', fun m q => T.mono (fun _ _ ⟨k, e, q⟩ => ⟨k, e, m _ _ q⟩) q⟩
theorem vt_truth {X : Cx} {a : Expr} {ta : TE} {Ta : XE} (ha : VE X C a ta Ta) (he : ∀ whole, isTrue a X.env whole = (do let v ← whole; standAt a.pos; holding [v] (truthy v)) := by intro _; rfl) : VT X C a (fun σ H Q => ta σ H fun x H1 => ∃ k, TruV X.K x H1 k ∧ Q k H1) (xTru Ta) :=
  ⟨pt_truth ha.pe he, fun R q => ha.se R (Ta.mono (fun d ρ' h v N' H' R' => by
    obtain ⟨k, e, q⟩ := h
    obtain ⟨A, h⟩ := R'.top1
    exact ⟨k, D.tru_ok h e, q _ _ R'.drop⟩) q)⟩
end
end BV

/-! BV, part E: and, or, not; arguments, displays, calls of built-ins, subscripts. -/
namespace BV
open PySem PySem.Spec PyProof.Rows L2
section
variable {X : Cx} {C : Ct} {a b c e : Expr} {es rest : List Expr} {ta tb tc te : TE} {Ta Tb Tc Te : XE} {tA tB' : TT} {UA UB : XT} {pos p : Pos}
def xAnd (A B : XT) : XT := ⟨fun ρ Q => A.f ρ fun k ρ1 => (k = true → B.f ρ1 Q) ∧ (k = false → Q false ρ1), fun m q => A.mono (fun _ _ h => ⟨fun z => B.mono m (h.1 z), fun z => m _ _ (h.2 z)⟩) q⟩
def xOr (A B : XT) : XT := ⟨fun ρ Q => A.f ρ fun k ρ1 => (k = true → Q true ρ1) ∧ (k = false → B.f ρ1 Q), fun m q => A.mono (fun _ _ h => ⟨fun z => m _ _ (h.1 z), fun z => B.mono m (h.2 z)⟩) q⟩
def xNot (A : XT) : XT := ⟨fun ρ Q => A.f ρ fun k ρ1 => Q (!k) ρ1, fun m q => A.mono (fun _ _ h => m _ _ h) q⟩
theorem VW.vt (h : VW X C e tA UA) : VT X C e tA UA := ⟨h.pw.pt, h.st⟩
theorem vw_and1 (ha : VT X C a tA UA) : VW X C (.BoolOp .And [a] pos) tA UA := ⟨pw_and1 ha.pt, ha.st⟩
theorem vw_or1 (ha : VT X C a tA UA) : VW X C (.BoolOp .Or [a] pos) tA UA := ⟨pw_or1 ha.pt, ha.st⟩
theorem vw_and (ha : VT X C a tA UA) (hb : VW X C (.BoolOp .And (b :: rest) pos) tB' UB) : VW X C (.BoolOp .And (a :: b :: rest) pos) (tAnd tA tB') (xAnd UA UB) := by
  refine ⟨pw_and ha.pt hb.pw, fun R q => ha.st R (UA.mono (fun k ρ1 h N1 H1 R1 => ?_) q)⟩
  cases k with
  | true => exact iteT (hb.st R1 (h.1 rfl))
  | false => exact iteF (h.2 rfl _ _ R1)
theorem vw_or (ha : VT X C a tA UA) (hb : VW X C (.BoolOp .Or (b :: rest) pos) tB' UB) : VW X C (.BoolOp .Or (a :: b :: rest) pos) (tOr tA tB') (xOr UA UB) := by
  refine ⟨pw_or ha.pt hb.pw, fun R q => ha.st R (UA.mono (fun k ρ1 h N1 H1 R1 => ?_) q)⟩
  cases k with
  | true => exact iteT (h.1 rfl _ _ R1)
  | false => exact iteF (hb.st R1 (h.2 rfl))
theorem vt_not (ha : VT X C a tA UA) : VT X C (.UnaryOp .Not a pos) (tNot tA) (xNot UA) := ⟨pt_not ha.pt, fun R q => ha.st R q⟩
/-- as values: all but the last True or False -/
def xAndV (A B : XE) : XE := ⟨fun ρ Q => A.f ρ fun d ρ1 => ∃ k, d = .bl k ∧ (k = true → B.f ρ1 Q) ∧ (k = false → Q (.bl false) ρ1), fun m q => A.mono (fun _ _ ⟨k, e, h1, h2⟩ => ⟨k, e, fun z => B.mono m (h1 z), fun z => m _ _ (h2 z)⟩) q⟩
def xOrV (A B : XE) : XE := ⟨fun ρ Q => A.f ρ fun d ρ1 => ∃ k, d = .bl k ∧ (k = true → Q (.bl true) ρ1) ∧ (k = false → B.f ρ1 Q), fun m q => A.mono (fun _ _ ⟨k, e, h1, h2⟩ => ⟨k, e, fun z => m _ _ (h1 z), fun z => B.mono m (h2 z)⟩) q⟩
def xNotV (A : XE) : XE := ⟨fun ρ Q => A.f ρ fun d ρ1 => ∃ k, d = .bl k ∧ Q (.bl (!k)) ρ1, fun m q => A.mono (fun _ _ ⟨k, e, h⟩ => ⟨k, e, m _ _ h⟩) q⟩
theorem ve_one {op} (h : VE X C a ta Ta) : VE X C (.BoolOp op [a] pos) ta Ta := ⟨pe_one h.pe, h.se⟩
theorem ve_and (ha : VE X C a ta Ta) (hb : VE X C (.BoolOp .And (b :: rest) pos) tb Tb) : VE X C (.BoolOp .And (a :: b :: rest) pos) (tAndV ta tb) (xAndV Ta Tb) := by
  refine ⟨pe_and ha.pe hb.pe, fun R q => ha.se R (Ta.mono (fun d ρ1 h v N1 H1 R1 => ?_) q)⟩
  obtain ⟨k, rfl, h1, h2⟩ := h
  obtain ⟨A, hv⟩ := R1.top1
  refine ⟨k, hv, ?_⟩
  cases k with
  | true => exact iteT (hb.se R1.drop (h1 rfl))
  | false => exact iteF (h2 rfl _ _ _ (R1.res rfl))
theorem ve_or (ha : VE X C a ta Ta) (hb : VE X C (.BoolOp .Or (b :: rest) pos) tb Tb) : VE X C (.BoolOp .Or (a :: b :: rest) pos) (tOrV ta tb) (xOrV Ta Tb) := by
  refine ⟨pe_or ha.pe hb.pe, fun R q => ha.se R (Ta.mono (fun d ρ1 h v N1 H1 R1 => ?_) q)⟩
  obtain ⟨k, rfl, h1, h2⟩ := h
  obtain ⟨A, hv⟩ := R1.top1
  refine ⟨k, hv, ?_⟩
  cases k with
  | true => exact iteT (h1 rfl _ _ _ (R1.res rfl))
  | false => exact iteF (hb.se R1.drop (h2 rfl))
theorem ve_not (ha : VE X C a ta Ta) : VE X C (.UnaryOp .Not a pos) (tNotV ta) (xNotV Ta) := by
  refine ⟨pe_not ha.pe, fun R q => ha.se R (Ta.mono (fun d ρ1 h v N1 H1 R1 => ?_) q)⟩
  obtain ⟨k, rfl, h⟩ := h
  obtain ⟨A, hv⟩ := R1.top1
  exact ⟨k, hv, h _ _ _ (R1.res rfl)⟩
def xIf (U : XT) (A B : XE) : XE := ⟨fun ρ Q => U.f ρ fun k ρ1 => (k = true → A.f ρ1 Q) ∧ (k = false → B.f ρ1 Q), fun m q => U.mono (fun _ _ h => ⟨fun z => A.mono m (h.1 z), fun z => B.mono m (h.2 z)⟩) q⟩
theorem ve_if (hc : VT X C c tA UA) (ha : VE X C a ta Ta) (hb : VE X C b tb Tb) : VE X C (.IfExp c a b pos) (tIf tA ta tb) (xIf UA Ta Tb) := by
  refine ⟨pe_ifExp hc.pt ha.pe hb.pe, fun R q => hc.st R (UA.mono (fun k ρ1 h N1 H1 R1 => ?_) q)⟩
  cases k with
  | true => exact iteT (ha.se R1 (h.1 rfl))
  | false => exact iteF (hb.se R1 (h.2 rfl))
def xUn (g : D → Option D) (A : XE) : XE := ⟨fun ρ Q => A.f ρ fun d ρ1 => ∃ z, g d = some z ∧ Q z ρ1, fun m q => A.mono (fun _ _ ⟨z, e, h⟩ => ⟨z, e, m _ _ h⟩) q⟩
theorem ve_un {op : UnaryOp} {r : V → Hp → VK → Prop} {g : D → Option D} (ho : UnR X (unaryOp op) r) (hg : UopR X.K r g) (ha : VE X C a ta Ta) : VE X C (.UnaryOp op a pos) (tUn r ta) (xUn g Ta) :=
  ⟨pe_un ho ha.pe, fun R q => ha.se R (Ta.mono (fun d ρ1 h v N1 H1 R1 => by
    obtain ⟨z, e, h⟩ := h
    exact hg R1 e h) q)⟩
def negD : D → Option D
  | .int i => some (.int (-i))
  | _ => none
theorem uop_neg {K : Fg} : UopR K (rU fun i => .int (-i)) negD := by
  intro C N σ ρ H x vs d ds z Q R h q
  obtain ⟨A, hd⟩ := R.top1
  unfold negD at h
  split at h
  · cases h
    exact ⟨_, hd, q _ _ _ (R.res rfl)⟩
  · cases h
/-- is None -/
def D.isNon : D → Bool
  | .non => true
  | _ => false
theorem D.isNon_ok {K : Fg} {N : AS} {H : Hp} {d : D} {v : V} {A : AS} (h : Rp K N H d v A) : decide (v = .non) = d.isNon := by
  cases d with
  | non => cases (show v = .non from h); rfl
  | bl b => cases (show v = .bl b from h); rfl
  | int b => cases (show v = .int b from h); rfl
  | str b => cases (show v = .str b from h); rfl
  | tup b => obtain ⟨a, vs, rfl, _⟩ := h; rfl
  | lst b => obtain ⟨a, vs, rfl, _⟩ := h; rfl
  | frl b => obtain ⟨a, vs, rfl, _⟩ := h; rfl
  | own b => obtain ⟨a, vs, B, rfl, _⟩ := h; rfl
  | fz k b => obtain ⟨a, vs, rfl, _⟩ := h; rfl
  | ob k b => obtain ⟨a, vs, B, rfl, _⟩ := h; rfl
def xFn (g : D → D) (A : XE) : XE := ⟨fun ρ Q => A.f ρ fun d ρ1 => Q (g d) ρ1, fun m q => A.mono (fun _ _ h => m _ _ h) q⟩
theorem ve_isN {j p2} (ha : VE X C a ta Ta) : VE X C (.Compare a [.Is] [.Constant .none j p2] pos) (tIsN ta) (xFn (fun d => .bl d.isNon) Ta) :=
  ⟨pe_cmp (pc_isN ha.pe), fun R q => ha.se R (Ta.mono (fun d ρ1 h v N1 H1 R1 => by
    obtain ⟨A, hv⟩ := R1.top1
    rw [D.isNon_ok hv]
    exact h _ _ _ (R1.res rfl)) q)⟩
theorem ve_notN {j p2} (ha : VE X C a ta Ta) : VE X C (.Compare a [.IsNot] [.Constant .none j p2] pos) (tNotN ta) (xFn (fun d => .bl (!d.isNon)) Ta) :=
  ⟨pe_cmp (pc_notN ha.pe), fun R q => ha.se R (Ta.mono (fun d ρ1 h v N1 H1 R1 => by
    obtain ⟨A, hv⟩ := R1.top1
    rw [D.isNon_ok hv]
    exact h _ _ _ (R1.res rfl)) q)⟩
theorem vt_isN {j p2} (ha : VE X C a ta Ta) : VT X C (.Compare a [.Is] [.Constant .none j p2] pos) (tB (tIsN ta)) (xTst (xFn (fun d => .bl d.isNon) Ta)) :=
  ⟨pt_cmp (pc_isN ha.pe), fun R q => ha.se R (Ta.mono (fun d ρ1 h v N1 H1 R1 => by
    obtain ⟨A, hv⟩ := R1.top1
    obtain ⟨k, e, h⟩ := h
    cases e
    rw [D.isNon_ok hv]
    exact ⟨_, rfl, h _ _ R1.drop⟩) q)⟩
theorem vt_notN {j p2} (ha : VE X C a ta Ta) : VT X C (.Compare a [.IsNot] [.Constant .none j p2] pos) (tB (tNotN ta)) (xTst (xFn (fun d => .bl (!d.isNon)) Ta)) :=
  ⟨pt_cmp (pc_notN ha.pe), fun R q => ha.se R (Ta.mono (fun d ρ1 h v N1 H1 R1 => by
    obtain ⟨A, hv⟩ := R1.top1
    obtain ⟨k, e, h⟩ := h
    cases e
    rw [D.isNon_ok hv]
    exact ⟨_, rfl, h _ _ R1.drop⟩) q)⟩
/-- a fresh list becomes one that nobody changes -/
def xFrz (A : XE) : XE := ⟨fun ρ Q => A.f ρ fun d ρ1 => (∀ ds, d = .own ds → ds.all D.sh = true ∧ Q (.lst ds) ρ1) ∧ (d.sh = true → Q d ρ1) ∧ (∀ k ds, d = .ob k ds → ds.all D.sh = true ∧ Q (.fz k ds) ρ1), fun m q => A.mono (fun _ _ h => ⟨fun ds e => ⟨(h.1 ds e).1, m _ _ (h.1 ds e).2⟩, fun e => m _ _ (h.2.1 e), fun k ds e => ⟨(h.2.2 k ds e).1, m _ _ (h.2.2 k ds e).2⟩⟩) q⟩
theorem ve_frz (ha : VE X C a ta Ta) : VE X C a ta (xFrz Ta) := ⟨ha.pe, fun R q => ha.se R (Ta.mono (fun d ρ1 h v N1 H1 R1 => by
    obtain ⟨N2, R2⟩ := R1.frz
    by_cases hs : d.sh = true
    · rw [D.frz_sh hs] at R2
      exact h.2.1 hs _ _ _ R2
    · cases d with
      | own ds =>
        obtain ⟨h1, h2⟩ := h.1 ds rfl
        have e : (D.own ds).frz = .lst ds := by
          show D.lst (D.frzs ds) = _
          rw [D.frzs_sh h1]
        rw [e] at R2
        exact h2 _ _ _ R2
      | ob k ds =>
        obtain ⟨h1, h2⟩ := h.2.2 k ds rfl
        have e : (D.ob k ds).frz = .fz k ds := by
          show D.fz k (D.frzs ds) = _
          rw [D.frzs_sh h1]
        rw [e] at R2
        exact h2 _ _ _ R2
      | _ => exact absurd rfl hs) q)⟩

/-! ### arguments -/
def xNil : XA := ⟨fun ρ Q => Q [] ρ, fun m q => m _ _ q⟩
def xCons (A : XE) (B : XA) : XA := ⟨fun ρ Q => A.f ρ fun d ρ1 => B.f ρ1 fun fs ρ2 => Q (d :: fs) ρ2, fun m q => A.mono (fun _ _ h => B.mono (fun _ _ h => m _ _ h) h) q⟩
/-- a slot lent to the call -/
def xLend (i : Nat) (B : XA) : XA := ⟨fun ρ Q => ∃ d, ρ[i]? = some (some d) ∧ B.f (ρ.set i none) fun fs ρ2 => Q (d :: fs) ρ2, fun m ⟨d, e, q⟩ => ⟨d, e, B.mono (fun _ _ h => m _ _ h) q⟩⟩
variable {tr : TA} {Tr : XA} {sl : List (Option Nat)}
theorem va_nil : VA X C [] [] tNil xNil := ⟨pa_nil, fun R q => q _ _ _ R ⟨rfl, fun k i h => by simp at h⟩⟩
theorem va_cons (ha : VE X C e te Te) (hr : VA X C es sl tr Tr) (hs : starEach (e :: es) X.env = (false, eval e X.env) :: starEach es X.env := by rfl) : VA X C (e :: es) (none :: sl) (tCons te tr) (xCons Te Tr) := by
  refine ⟨pa_cons ha.pe hr.pa hs, fun R q => ha.se R (Te.mono (fun d ρ1 h v N1 H1 R1 => ?_) q)⟩
  refine hr.sa R1.park (Tr.mono (fun fs ρ2 h xs N2 H2 R2 L => ?_) h)
  refine h _ _ _ R2.cons ⟨congrArg (· + 1) L.len, fun k i hk => ?_⟩
  cases k with
  | zero => cases (show some (none : Option Nat) = some (some i) from hk)
  | succ k => exact L.at_ k i hk
theorem va_lend (i : Nat) (h : PE X e (tVar i)) (hr : VA X C es sl tr Tr) (hs : starEach (e :: es) X.env = (false, eval e X.env) :: starEach es X.env := by rfl) : VA X C (e :: es) (some i :: sl) (tCons (tVar i) tr) (xLend i Tr) := by
  refine ⟨pa_cons h hr.pa hs, fun R q => ?_⟩
  obtain ⟨d, e1, q⟩ := q
  obtain ⟨v, e2, R1⟩ := R.lend e1
  refine ⟨v, e2, ?_⟩
  refine hr.sa R1.park (Tr.mono (fun fs ρ2 h xs N2 H2 R2 L => ?_) q)
  refine h _ _ _ R2.cons ⟨congrArg (· + 1) L.len, fun k j hk => ?_⟩
  cases k with
  | zero =>
    cases (show some (some i) = some (some j) from hk)
    exact ⟨v, rfl, e2⟩
  | succ k => exact L.at_ k j hk

/-! ### displays -/
def xTup (A : XA) : XE := ⟨fun ρ Q => A.f ρ fun fs ρ1 => fs.length ≤ sizeLine ∧ fs.all D.sh = true ∧ Q (.tup fs) ρ1, fun m q => A.mono (fun _ _ ⟨h1, h2, h⟩ => ⟨h1, h2, m _ _ h⟩) q⟩
def xLst (A : XA) : XE := ⟨fun ρ Q => A.f ρ fun fs ρ1 => fs.length ≤ sizeLine ∧ Q (.own fs) ρ1, fun m q => A.mono (fun _ _ ⟨h1, h⟩ => ⟨h1, m _ _ h⟩) q⟩
theorem ve_tup {x1} (h : VA X C es sl tr Tr) : VE X C (.Tuple es x1 pos) (tTup tr) (xTup Tr) := by
  refine ⟨pe_tup h.pa, fun R q => h.sa R (Tr.mono (fun fs ρ1 h xs N1 H1 R1 L => ?_) q)⟩
  obtain ⟨h1, h2, h⟩ := h
  obtain ⟨A, r⟩ := R1.top
  exact ⟨by rw [← r.length]; exact h1, fun p np => h _ _ _ (R1.newTup np (r.share h2))⟩
theorem ve_lst (h : VA X C es sl tr Tr) : VE X C (.List es pos) (tLst tr) (xLst Tr) := by
  refine ⟨pe_lst h.pa, fun R q => h.sa R (Tr.mono (fun fs ρ1 h xs N1 H1 R1 L => ?_) q)⟩
  obtain ⟨h1, h⟩ := h
  obtain ⟨A, r⟩ := R1.top
  exact ⟨by rw [← r.length]; exact h1, fun p np => h _ _ _ (R1.display np)⟩

/-! ### calls of built-ins -/
/-- a built-in called with data -/
def CalD (K : Fg) (r : List V → Hp → VK → Prop) (g : List D → Option D) : Prop := ∀ {C : Ct} {N : AS} {σ : Sts} {ρ : Ev} {H : Hp} {xs vs : List V} {fs ds : List D} {z : D} {Q : VK}, Rl K C N σ ρ H xs fs vs ds → g fs = some z → (∀ v N' H', Rl K C N' σ ρ H' [v] [z] vs ds → Q v H') → r xs H Q
def xCal (g : List D → Option D) (A : XA) : XE := ⟨fun ρ Q => A.f ρ fun fs ρ1 => ∃ z, g fs = some z ∧ Q z ρ1, fun m q => A.mono (fun _ _ ⟨z, e, h⟩ => ⟨z, e, m _ _ h⟩) q⟩
theorem ve_callB {id : String} {x : Str} {r : List V → Hp → VK → Prop} {g : List D → Option D} (hc : CallR X (.builtin id) r) (hd : CalD X.K r g) (hg : Gl X x) (hm : X.mg x = none) (hv : bootBuiltins x = some (.builtin id)) (ha : VA X C (e :: es) sl tr Tr) (hn : x ≠ "__name__" := by decide) (hdb : (x == ("__debug__" : Str)) = false := by decide)
    (he : starEach (e :: es) X.env = (false, eval e X.env) :: starEach es X.env := by rfl) (hpl : (backTo pos (starEach es X.env)).any (·.1) = false := by rfl) : VE X C (.Call (.Name x p) (e :: es) [] pos) (tCB r tr) (xCal g Tr) :=
  ⟨pe_callB hc hg hm hv ha.pa hn hdb he hpl, fun R q => ha.sa R (Tr.mono (fun fs ρ1 h xs N1 H1 R1 L => by
    obtain ⟨z, e, h⟩ := h
    exact hd R1 e h) q)⟩
theorem ve_callTy {T : String} {x : Str} {r : List V → Hp → VK → Prop} {g : List D → Option D} (hc : CallR X (.type T) r) (hd : CalD X.K r g) (hg : Gl X x) (hm : X.mg x = none) (hv : bootBuiltins x = some (.type T)) (ha : VA X C (e :: es) sl tr Tr) (hn : x ≠ "__name__" := by decide) (hdb : (x == ("__debug__" : Str)) = false := by decide)
    (he : starEach (e :: es) X.env = (false, eval e X.env) :: starEach es X.env := by rfl) (hpl : (backTo pos (starEach es X.env)).any (·.1) = false := by rfl) : VE X C (.Call (.Name x p) (e :: es) [] pos) (tCB r tr) (xCal g Tr) :=
  ⟨pe_callTy hc hg hm hv ha.pa hn hdb he hpl, fun R q => ha.sa R (Tr.mono (fun fs ρ1 h xs N1 H1 R1 L => by
    obtain ⟨z, e, h⟩ := h
    exact hd R1 e h) q)⟩
end
end BV

/-! BV, part F: built-ins one by one, subscripts, slices. -/
namespace BV
open PySem PySem.Spec PyProof.Rows L2
section
variable {K : Fg} {C : Ct} {N : AS} {σ : Sts} {ρ : Ev} {H : Hp} {x y : V} {vs xs : List V} {d e : D} {ds fs : List D}
theorem Rl.fst {x : V} {d : D} (R : Rl K C N σ ρ H (x :: xs) (d :: fs) vs ds) : ∃ A, Rp K N H d x A := by
  obtain ⟨A, h⟩ := R.top
  obtain ⟨v, vr, A1, A2, e1, r1, r2, s1, s2, dj⟩ := h
  cases e1
  exact ⟨_, r1⟩
theorem Rl.one (R : Rl K C N σ ρ H xs [d] vs ds) : ∃ x A, xs = [x] ∧ Rp K N H d x A := by
  obtain ⟨A, h⟩ := R.top
  obtain ⟨v, vr, A1, A2, e1, r1, r2, s1, s2, dj⟩ := h
  have e2 : vr = [] := r2
  rw [e2] at e1
  exact ⟨v, A1, e1, r1⟩
theorem Rl.twoL (R : Rl K C N σ ρ H xs [d, e] vs ds) : ∃ x y A B, xs = [x, y] ∧ Rp K N H d x A ∧ Rp K N H e y B := by
  obtain ⟨A, h⟩ := R.top
  obtain ⟨v, vr, A1, A2, e1, r1, r2, s1, s2, dj⟩ := h
  obtain ⟨v', vr', A3, A4, e3, r3, r4, _⟩ := r2
  have e2 : vr' = [] := r4
  rw [e2] at e3
  rw [e3] at e1
  exact ⟨v, v', A1, A3, e1, r1, r3⟩
/-- an item's place for items that own nothing: a list or a tuple as it stands -/
theorem Rp.seqs {A : AS} {zs : List D} (h : Rp K N H d x A) (e : d.seq = some zs) : ∃ a us B, x = .ref a ∧ (SqL K H a us ∨ SqT K H a us) ∧ Rps K N H zs us B := by
  cases d with
  | tup ds => obtain ⟨a, us, ex, hs, r⟩ := h; cases e; exact ⟨a, us, _, ex, .inr hs, r⟩
  | lst ds => obtain ⟨a, us, ex, hs, _, r⟩ := h; cases e; exact ⟨a, us, _, ex, .inl (.inl (.inl hs)), r⟩
  | frl ds => obtain ⟨a, us, ex, hs, r⟩ := h; cases e; exact ⟨a, us, _, ex, .inl hs.sq, r⟩
  | own ds => obtain ⟨a, us, B, ex, hs, _, _, r⟩ := h; cases e; exact ⟨a, us, _, ex, .inl (.inl (.inl hs)), r⟩
  | fz k ds =>
    cases k with
    | tpl => obtain ⟨a, us, ex, ⟨o, hs, _⟩, _, r⟩ := h; cases e; exact ⟨a, us, _, ex, .inr (.inl (.inr ⟨o, hs⟩)), r⟩
    | _ => cases e
  | _ => cases e

/-! ### len, int, abs, str, max, min, list, tuple, all, any -/
def lenD : D → Option Nat
  | .str z => if z.length ≤ sizeLine then some z.length else none
  | d => d.seq.map List.length
theorem lenD_ok {A : AS} {n : Nat} (h : Rp K N H d x A) (e : lenD d = some n) : LenV K x H n := by
  have sq : ∀ {zs : List D}, d.seq = some zs → zs.length = n → LenV K x H n := fun {zs} e1 e2 => by
    obtain ⟨a, us, B, ex, hs, r⟩ := h.seqs e1
    subst ex
    rcases hs with hs | hs
    · exact .inl ⟨us, hs, by rw [← r.length, e2]⟩
    · exact .inr ⟨us, hs, by rw [← r.length, e2]⟩
  cases d with
  | str z =>
    cases (show x = .str z from h)
    have e' : (if z.length ≤ sizeLine then some z.length else none) = some n := e
    split at e'
    · rename_i hz
      cases e'
      exact ⟨hz, rfl⟩
    · cases e'
  | tup zs => cases e; exact sq rfl rfl
  | lst zs => cases e; exact sq rfl rfl
  | frl zs => cases e; exact sq rfl rfl
  | own zs => cases e; exact sq rfl rfl
  | fz k zs =>
    cases k with
    | tpl => cases e; exact sq rfl rfl
    | _ => cases e
  | _ => cases e
def len1 : List D → Option D
  | [d] => (lenD d).map fun n => .int n
  | _ => none
theorem cal_len : CalD K (fun xs H Q => ∃ x n, xs = [x] ∧ LenV K x H n ∧ Q (.int n) H) len1 := by
  intro C N σ ρ H xs vs fs ds z Q R g q
  unfold len1 at g
  split at g
  · rename_i d
    obtain ⟨x, A, ex, h⟩ := R.one
    cases e : lenD d with
    | none => rw [e] at g; cases g
    | some n =>
      rw [e] at g
      cases g
      exact ⟨x, n, ex, lenD_ok h e, q _ _ _ (R.res rfl)⟩
  · cases g
def int1 : List D → Option D
  | [.int i] => some (.int i)
  | [.bl k] => some (.int (if k then 1 else 0))
  | _ => none
theorem cal_int : CalD K (fun xs H Q => (∃ i, xs = [.int i] ∧ Q (.int i) H) ∨ ∃ k, xs = [.bl k] ∧ Q (.int (if k then 1 else 0)) H) int1 := by
  intro C N σ ρ H xs vs fs ds z Q R g q
  unfold int1 at g
  split at g
  · cases g
    obtain ⟨x, A, ex, h⟩ := R.one
    cases (show x = .int _ from h)
    exact .inl ⟨_, ex, q _ _ _ (R.res rfl)⟩
  · cases g
    obtain ⟨x, A, ex, h⟩ := R.one
    cases (show x = .bl _ from h)
    exact .inr ⟨_, ex, q _ _ _ (R.res rfl)⟩
  · cases g
def abs1 : List D → Option D
  | [.int i] => some (.int (if i < 0 then -i else i))
  | _ => none
theorem cal_abs : CalD K (fun xs H Q => ∃ i, xs = [.int i] ∧ Q (.int (if i < 0 then -i else i)) H) abs1 := by
  intro C N σ ρ H xs vs fs ds z Q R g q
  unfold abs1 at g
  split at g
  · cases g
    obtain ⟨x, A, ex, h⟩ := R.one
    cases (show x = .int _ from h)
    exact ⟨_, ex, q _ _ _ (R.res rfl)⟩
  · cases g
def str1 : List D → Option D
  | [.int i] => if i.natAbs.log2 < 1920 then some (.str (toString i)) else none
  | [.str x] => some (.str x)
  | _ => none
theorem cal_str : CalD K (fun xs H Q => (∃ i, xs = [.int i] ∧ i.natAbs.log2 < 1920 ∧ Q (.str (toString i)) H) ∨ ∃ a, xs = [.str a] ∧ Q (.str a) H) str1 := by
  intro C N σ ρ H xs vs fs ds z Q R g q
  unfold str1 at g
  split at g
  · split at g
    · cases g
      obtain ⟨x, A, ex, h⟩ := R.one
      cases (show x = .int _ from h)
      exact .inl ⟨_, ex, by assumption, q _ _ _ (R.res rfl)⟩
    · cases g
  · cases g
    obtain ⟨x, A, ex, h⟩ := R.one
    cases (show x = .str _ from h)
    exact .inr ⟨_, ex, q _ _ _ (R.res rfl)⟩
  · cases g
theorem cr_str {X : Cx} : CallR X (.type "str") (fun xs H Q => (∃ i, xs = [.int i] ∧ i.natAbs.log2 < 1920 ∧ Q (.str (toString i)) H) ∨ ∃ a, xs = [.str a] ∧ Q (.str a) H) := call_str_int.or SkE.call_str_str
def ints2 (g : Int → Int → Int) : List D → Option D
  | [.int i, .int j] => some (.int (g i j))
  | _ => none
theorem cal_ints2 {g : Int → Int → Int} : CalD K (fun xs H Q => ∃ i j, xs = [.int i, .int j] ∧ Q (.int (g i j)) H) (ints2 g) := by
  intro C N σ ρ H xs vs fs ds z Q R h q
  unfold ints2 at h
  split at h
  · cases h
    obtain ⟨x, y, A, B, ex, h1, h2⟩ := R.twoL
    cases (show x = .int _ from h1)
    cases (show y = .int _ from h2)
    exact ⟨_, _, ex, q _ _ _ (R.res rfl)⟩
  · cases h
def list1 : List D → Option D
  | [d] => d.seq.bind fun zs => if zs.all D.sh = true then some (.own zs) else none
  | _ => none
theorem cal_list : CalD K (fun xs H Q => ∃ p ys, xs = [.ref p] ∧ (SqL K H p ys ∨ SqT K H p ys) ∧ ∀ l, H l = none → Q (.ref l) (upd H l (.lst ys))) list1 := by
  intro C N σ ρ H xs vs fs ds z Q R g q
  unfold list1 at g
  split at g
  · rename_i d
    obtain ⟨x, A, ex, h⟩ := R.one
    cases e : d.seq with
    | none => rw [e] at g; cases g
    | some zs =>
      rw [e] at g
      have g' : (if zs.all D.sh = true then some (D.own zs) else none) = some z := g
      split at g'
      · rename_i hz
        cases g'
        obtain ⟨a, us, B, e2, hs, r⟩ := h.seqs e
        subst e2
        exact ⟨a, us, ex, hs, fun l nl => q _ _ _ (R.allocN nl (r.share hz))⟩
      · cases g'
  · cases g
def tuple1 : List D → Option D
  | [d] => d.seq.bind fun zs => if zs.all D.sh = true then some (.tup zs) else none
  | _ => none
theorem cal_tuple : CalD K (fun xs H Q => ∃ p ys, xs = [.ref p] ∧ ((SqL K H p ys ∧ ∀ l, H l = none → Q (.ref l) (upd H l (.tup ys))) ∨ (SqT K H p ys ∧ Q (.ref p) H))) tuple1 := by
  intro C N σ ρ H xs vs fs ds z Q R g q
  unfold tuple1 at g
  split at g
  · rename_i d
    obtain ⟨x, A, ex, h⟩ := R.one
    cases e : d.seq with
    | none => rw [e] at g; cases g
    | some zs =>
      rw [e] at g
      have g' : (if zs.all D.sh = true then some (D.tup zs) else none) = some z := g
      split at g'
      · rename_i hz
        cases g'
        obtain ⟨a, us, B, e2, hs, r⟩ := h.seqs e
        subst e2
        rcases hs with hs | hs
        · exact ⟨a, us, ex, .inl ⟨hs, fun l nl => q _ _ _ (R.newTup nl (r.share hz))⟩⟩
        · exact ⟨a, us, ex, .inr ⟨hs, q _ _ _ (R.res ⟨a, us, rfl, hs, r.share hz⟩)⟩⟩
      · cases g'
  · cases g
/-- a list of truths -/
def D.bls : List D → Option (List Bool)
  | [] => some []
  | .bl b :: r => (D.bls r).map (b :: ·)
  | _ => none
theorem D.bls_ok {A : AS} : ∀ {zs : List D} {us : List V} {A : AS} {bs : List Bool}, Rps K N H zs us A → D.bls zs = some bs → us = bs.map V.bl
  | [], us, _, bs, h, e => by
    cases e
    exact h
  | z :: r, us, _, bs, h, e => by
    obtain ⟨v, vr, A1, A2, rfl, h1, h2, _⟩ := h
    cases z with
    | bl b =>
      cases q : D.bls r with
      | none => rw [show D.bls (.bl b :: r) = (D.bls r).map (b :: ·) from rfl, q] at e; cases e
      | some cs =>
        rw [show D.bls (.bl b :: r) = (D.bls r).map (b :: ·) from rfl, q] at e
        cases e
        cases (show v = .bl b from h1)
        rw [D.bls_ok (A := AS0) h2 q]
        rfl
    | _ => cases e
def allB (f : List Bool → Bool) : List D → Option D
  | [.own zs] => (D.bls zs).map fun bs => .bl (f bs)
  | [.lst zs] => (D.bls zs).map fun bs => .bl (f bs)
  | _ => none
theorem cal_all {f : List Bool → Bool} : CalD K (fun xs H Q => ∃ (a : Addr) (bs : List Bool), xs = [V.ref a] ∧ SqL K H a (bs.map V.bl) ∧ Q (.bl (f bs)) H) (allB f) := by
  intro C N σ ρ H xs vs fs ds z Q R g q
  unfold allB at g
  split at g
  · rename_i zs
    obtain ⟨x, A, ex, h⟩ := R.one
    cases e : D.bls zs with
    | none => rw [e] at g; cases g
    | some bs =>
      rw [e] at g
      cases g
      obtain ⟨a, us, B, e2, hs, _, _, r⟩ := h
      subst e2
      rw [D.bls_ok (A := AS0) r e] at hs
      exact ⟨a, bs, ex, .inl (.inl hs), q _ _ _ (R.res rfl)⟩
  · rename_i zs
    obtain ⟨x, A, ex, h⟩ := R.one
    cases e : D.bls zs with
    | none => rw [e] at g; cases g
    | some bs =>
      rw [e] at g
      cases g
      obtain ⟨a, us, e2, hs, _, r⟩ := h
      subst e2
      rw [D.bls_ok (A := AS0) r e] at hs
      exact ⟨a, bs, ex, .inl (.inl hs), q _ _ _ (R.res rfl)⟩
  · cases g

/-! ### subscripts -/
theorem atI_rel {A : AS} {zs : List D} {us : List V} {i : Int} {z : D} (r : Rps K N H zs us A) (e : atI zs i = some z) : ∃ v A1, atI us i = some v ∧ Rp K N H z v A1 := by
  unfold atI at e ⊢
  rw [r.length] at e
  cases q : ixN us.length i with
  | none => rw [q] at e; cases e
  | some j =>
    rw [q] at e
    obtain ⟨v, A1, h1, h2, _⟩ := r.get0 (show zs[j]? = some z from e)
    exact ⟨v, A1, h1, h2⟩
def ixD : D → D → Option D
  | .str w, .int i => if w.length ≤ sizeLine then (atI w.cps.toList i).map fun c => .str ⟨#[c]⟩ else none
  | d, .int i => d.seq.bind fun zs => (atI zs i).bind fun z => if z.sh = true then some z else none
  | _, _ => none
theorem bop_ix : BopR K (rIx K) ixD := by
  intro C N σ ρ H x y vs d e ds z Q R g q
  obtain ⟨A, B, hd, he⟩ := R.two
  have sq : ∀ i, e = .int i → (d.seq.bind fun zs => (atI zs i).bind fun z => if z.sh = true then some z else none) = some z → rIx K x y H Q := fun i ei g0 => by
    subst ei
    cases e1 : d.seq with
    | none => rw [e1] at g0; cases g0
    | some zs =>
      rw [e1] at g0
      have g' : ((atI zs i).bind fun z => if z.sh = true then some z else none) = some z := g0
      cases e2 : atI zs i with
      | none => rw [e2] at g'; cases g'
      | some z' =>
        rw [e2] at g'
        have g2 : (if z'.sh = true then some z' else none) = some z := g'
        split at g2
        · rename_i hz
          cases g2
          obtain ⟨a, us, B', ex, hs, r⟩ := hd.seqs e1
          obtain ⟨v, A1, h1, h2⟩ := atI_rel r e2
          have fin : Q v H := q _ _ _ (R.res (h2.share hz))
          rcases hs with hs | hs
          · exact .inl ⟨a, us, i, v, ex, he, hs, h1, fin⟩
          · exact .inr (.inl ⟨a, us, i, v, ex, he, hs, h1, fin⟩)
        · cases g2
  unfold ixD at g
  split at g
  · rename_i w i
    split at g
    · rename_i hw
      cases e3 : atI w.cps.toList i with
      | none => rw [e3] at g; cases g
      | some c =>
        rw [e3] at g
        cases g
        exact .inr (.inr ⟨w, i, c, hd, he, hw, e3, q _ _ _ (R.res rfl)⟩)
    · cases g
  · exact sq _ rfl g
  · cases g
end
section
variable {X : Cx} {C : Ct} {a b c e : Expr} {es rest : List Expr} {ta tb tc te : TE} {Ta Tb Tc Te : XE} {pos p p2 : Pos}
theorem ve_ix (ha : VE X C a ta Ta) (hb : VE X C b tb Tb) (hs : PlainIx b := by exact fun _ _ => rfl) : VE X C (.Subscript a b pos) (tOp (rIx X.K) ta tb) (xBin ixD Ta Tb) :=
  ⟨pe_ix ix_seq ha.pe hb.pe hs, fun R q => se_bin bop_ix ha hb R q⟩
/-- an item of what a slot holds, the slot read when the index is known -/
def xIxS (i : Nat) (T : XE) : XE := ⟨fun ρ Q => (∃ d, ρ[i]? = some (some d)) ∧ T.f ρ fun k ρ' => ∃ d z, ρ'[i]? = some (some d) ∧ ixD d k = some z ∧ Q z ρ', fun m ⟨h, q⟩ => ⟨h, T.mono (fun _ _ ⟨d, z, h1, h2, q⟩ => ⟨d, z, h1, h2, m _ _ q⟩) q⟩⟩
theorem ve_ixS (i : Nat) (ha : PE X a (tVar i)) (hb : VE X C b tb Tb) (hs : PlainIx b := by exact fun _ _ => rfl) : VE X C (.Subscript a b pos) (tOp (rIx X.K) (tVar i) tb) (xIxS i Tb) := by
  refine ⟨pe_ix ix_seq ha hb.pe hs, fun R q => ?_⟩
  obtain ⟨⟨d, hd⟩, q⟩ := q
  obtain ⟨v, A, e1, _⟩ := R.any hd
  refine ⟨v, e1, hb.se R (Tb.mono (fun k ρ' h w N1 H1 R1 => ?_) q)⟩
  obtain ⟨d', z, h1, h2, h⟩ := h
  obtain ⟨v', A', e2, r'⟩ := R1.any h1
  have ev : v' = v := by
    rw [e1] at e2
    cases e2
    rfl
  subst ev
  obtain ⟨Aw, hw⟩ := R1.top1
  -- the same as bop_ix, the list standing in its slot
  have sq : ∀ i, k = .int i → (d'.seq.bind fun zs => (atI zs i).bind fun z => if z.sh = true then some z else none) = some z → rIx X.K v' w H1 _ := fun i ei g => by
    subst ei
    cases e1 : d'.seq with
    | none => rw [e1] at g; cases g
    | some zs =>
      rw [e1] at g
      have g' : ((atI zs i).bind fun z => if z.sh = true then some z else none) = some z := g
      cases e2 : atI zs i with
      | none => rw [e2] at g'; cases g'
      | some z' =>
        rw [e2] at g'
        have g2 : (if z'.sh = true then some z' else none) = some z := g'
        split at g2
        · rename_i hz
          cases g2
          obtain ⟨a, us, B', ex, hs, r⟩ := r'.seqs e1
          obtain ⟨v, A1, h1, h2⟩ := atI_rel r e2
          have fin := h v _ _ (R1.res (h2.share hz))
          rcases hs with hs | hs
          · exact .inl ⟨a, us, i, v, ex, hw, hs, h1, fin⟩
          · exact .inr (.inl ⟨a, us, i, v, ex, hw, hs, h1, fin⟩)
        · cases g2
  unfold ixD at h2
  split at h2
  · rename_i u i
    split at h2
    · rename_i hu
      cases e3 : atI u.cps.toList i with
      | none => rw [e3] at h2; cases h2
      | some c =>
        rw [e3] at h2
        cases h2
        exact .inr (.inr ⟨u, i, c, r', hw, hu, e3, h _ _ _ (R1.res rfl)⟩)
    · cases h2
  · exact sq _ rfl h2
  · cases h2
/-- what a slot holds, to be looked at at once: its length -/
def xLenS (i : Nat) : XE := ⟨fun ρ Q => ∃ d n, ρ[i]? = some (some d) ∧ lenD d = some n ∧ Q (.int n) ρ, fun m ⟨d, n, h1, h2, q⟩ => ⟨d, n, h1, h2, m _ _ q⟩⟩
theorem ve_lenS (i : Nat) (ha : PE X a (tVar i)) {x : Str} (hg : Gl X x) (hm : X.mg x = none) (hv : bootBuiltins x = some (.builtin "len")) (hn : x ≠ "__name__" := by decide) (hdb : (x == ("__debug__" : Str)) = false := by decide)
    (he : starEach [a] X.env = (false, eval a X.env) :: starEach [] X.env := by rfl) (hpl : (backTo pos (starEach [] X.env)).any (·.1) = false := by rfl) : VE X C (.Call (.Name x p) [a] [] pos) (tCB (fun xs H Q => ∃ x n, xs = [x] ∧ LenV X.K x H n ∧ Q (.int n) H) (tCons (tVar i) tNil)) (xLenS i) := by
  refine ⟨pe_callB call_len hg hm hv (pa_cons ha pa_nil he) hn hdb he hpl, fun R q => ?_⟩
  obtain ⟨d, n, h1, h2, q⟩ := q
  obtain ⟨v, A, e1, r⟩ := R.any h1
  exact ⟨v, e1, v, n, rfl, lenD_ok r h2, q _ _ _ (R.res rfl)⟩
/-- its truth -/
def xTruS (i : Nat) : XT := ⟨fun ρ Q => ∃ d k, ρ[i]? = some (some d) ∧ d.tru = some k ∧ Q k ρ, fun m ⟨d, n, h1, h2, q⟩ => ⟨d, n, h1, h2, m _ _ q⟩⟩
theorem vt_truS (i : Nat) (ha : PE X a (tVar i)) (he : ∀ whole, isTrue a X.env whole = (do let v ← whole; standAt a.pos; holding [v] (truthy v)) := by intro _; rfl) : VT X C a (fun σ H Q => tVar i σ H fun x H1 => ∃ k, TruV X.K x H1 k ∧ Q k H1) (xTruS i) := by
  refine ⟨pt_truth ha he, fun R q => ?_⟩
  obtain ⟨d, n, h1, h2, q⟩ := q
  obtain ⟨v, A, e1, r⟩ := R.any h1
  exact ⟨v, e1, n, D.tru_ok r h2, q _ _ R⟩
/-- it is compared with a value that is reckoned behind it -/
def xEqS (i : Nat) (neg : Bool) (T : XE) : XE := ⟨fun ρ Q => (∃ d, ρ[i]? = some (some d)) ∧ T.f ρ fun k ρ' => ∃ d b, ρ'[i]? = some (some d) ∧ eqD d k = some b ∧ Q (.bl (if neg then !b else b)) ρ', fun m ⟨h, q⟩ => ⟨h, T.mono (fun _ _ ⟨d, z, h1, h2, q⟩ => ⟨d, z, h1, h2, m _ _ q⟩) q⟩⟩
theorem eqX_of {K : Fg} {N : AS} {H : Hp} {d e : D} {x y : V} {A B : AS} {b : Bool} {Q : VK} (hd : Rp K N H d x A) (he : Rp K N H e y B) (g : eqD d e = some b) (q : Q (.bl b) H) : rEqX K x y H Q := by
  refine ⟨d.py, e.py, Rp.dp d hd (eqD_pl g).1, Rp.dp e he (eqD_pl g).2, ?_⟩
  have dflt : (if d.lay = true ∧ e.lay = true ∧ min d.dep e.dep ≤ 64 then some (PyData.eqv d.py e.py) else none) = some b → d.py.canLay0 = true ∧ e.py.canLay0 = true ∧ min d.py.depth e.py.depth ≤ 64 ∧ Q (.bl (PyData.eqv d.py e.py)) H := fun g => by
    by_cases c : d.lay = true ∧ e.lay = true ∧ min d.dep e.dep ≤ 64
    · rw [if_pos c] at g
      cases g
      exact ⟨c.1, c.2.1, c.2.2, q⟩
    · rw [if_neg c] at g
      cases g
  cases d with
  | str a =>
    cases e with
    | str b =>
      cases (show x = .str a from hd)
      cases (show y = .str b from he)
      cases g
      exact .inr ⟨a, b, rfl, rfl, q⟩
    | _ => exact .inl (dflt g)
  | _ => exact .inl (dflt g)
theorem neX_of {K : Fg} {N : AS} {H : Hp} {d e : D} {x y : V} {A B : AS} {b : Bool} {Q : VK} (hd : Rp K N H d x A) (he : Rp K N H e y B) (g : eqD d e = some b) (q : Q (.bl (!b)) H) : rNeX K x y H Q := by
  refine ⟨d.py, e.py, Rp.dp d hd (eqD_pl g).1, Rp.dp e he (eqD_pl g).2, ?_⟩
  have dflt : (if d.lay = true ∧ e.lay = true ∧ min d.dep e.dep ≤ 64 then some (PyData.eqv d.py e.py) else none) = some b → d.py.canLay0 = true ∧ e.py.canLay0 = true ∧ min d.py.depth e.py.depth ≤ 64 ∧ Q (.bl (!PyData.eqv d.py e.py)) H := fun g => by
    by_cases c : d.lay = true ∧ e.lay = true ∧ min d.dep e.dep ≤ 64
    · rw [if_pos c] at g
      cases g
      exact ⟨c.1, c.2.1, c.2.2, q⟩
    · rw [if_neg c] at g
      cases g
  cases d with
  | str a =>
    cases e with
    | str b =>
      cases (show x = .str a from hd)
      cases (show y = .str b from he)
      cases g
      exact .inr ⟨a, b, rfl, rfl, q⟩
    | _ => exact .inl (dflt g)
  | _ => exact .inl (dflt g)
theorem ve_eqS (i : Nat) (hu : X.A.units + 64 < cLine) (ha : PE X a (tVar i)) (hb : VE X C b tb Tb) (hm : behindInMarks .Eq b = false) : VE X C (.Compare a [.Eq] [b] pos) (tOp (rEqX X.K) (tVar i) tb) (xEqS i false Tb) := by
  refine ⟨pe_cmpR (op_eqX hu) ha hb.pe hm, fun R q => ?_⟩
  obtain ⟨⟨d, hd⟩, q⟩ := q
  obtain ⟨v, A, e1, _⟩ := R.any hd
  refine ⟨v, e1, hb.se R (Tb.mono (fun k ρ' h w N1 H1 R1 => ?_) q)⟩
  obtain ⟨d', z, h1, h2, h⟩ := h
  obtain ⟨v', A', e2, r'⟩ := R1.any h1
  rw [e1] at e2
  cases e2
  obtain ⟨Aw, hw⟩ := R1.top1
  exact eqX_of r' hw h2 (h _ _ _ (R1.res rfl))
theorem ve_neS (i : Nat) (hu : X.A.units + 64 < cLine) (ha : PE X a (tVar i)) (hb : VE X C b tb Tb) (hm : behindInMarks .NotEq b = false) : VE X C (.Compare a [.NotEq] [b] pos) (tOp (rNeX X.K) (tVar i) tb) (xEqS i true Tb) := by
  refine ⟨pe_cmpR (op_neX hu) ha hb.pe hm, fun R q => ?_⟩
  obtain ⟨⟨d, hd⟩, q⟩ := q
  obtain ⟨v, A, e1, _⟩ := R.any hd
  refine ⟨v, e1, hb.se R (Tb.mono (fun k ρ' h w N1 H1 R1 => ?_) q)⟩
  obtain ⟨d', z, h1, h2, h⟩ := h
  obtain ⟨v', A', e2, r'⟩ := R1.any h1
  rw [e1] at e2
  cases e2
  obtain ⟨Aw, hw⟩ := R1.top1
  exact neX_of r' hw h2 (h _ _ _ (R1.res rfl))
/-- a comparison's value as a test -/
theorem vt_of {op : CmpOp} {r : R2} {t1 t2 : TE} {T : XE} (h : VE X C (.Compare a [op] [b] pos) (tOp r t1 t2) T) (hp : PT X (.Compare a [op] [b] pos) (tTest (tOp r t1 t2))) : VT X C (.Compare a [op] [b] pos) (tTest (tOp r t1 t2)) (xTst T) :=
  ⟨hp, fun R q => h.se R (tst_lift q)⟩
end
end BV

/-! BV, part G: defs, their promises by values; statements; loops. -/
namespace BV
open PySem PySem.Spec PyProof.Rows L2

/-! ### what a def promises, by values: its arguments, then the value and what the lent arguments are -/
structure FS where
  f : List D → (D → List D → Prop) → Prop
  mono : ∀ {ds : List D} {Q Q' : D → List D → Prop}, (∀ d o, Q d o → Q' d o) → f ds Q → f ds Q'
/-- a promise by what holds ahead and behind -/
def FS.of (pre : List D → Prop) (post : List D → D → List D → Prop) : FS := ⟨fun ds Q => pre ds ∧ ∀ d o, post ds d o → Q d o, fun m ⟨h, q⟩ => ⟨h, fun d o z => m _ _ (q d o z)⟩⟩
/-- a promise by a function -/
def FS.fn (pre : List D → Prop) (f : List D → D) : FS := ⟨fun ds Q => pre ds ∧ Q (f ds) [], fun m ⟨h, q⟩ => ⟨h, m _ _ q⟩⟩
/-- the lent arguments behind the call: ios their places -/
def Outs (K : Fg) (N : AS) (H : Hp) (ios : List Nat) (vs : List V) (outs : List D) (A : AS) : Prop := ∃ us, ios.map (vs[·]?) = us.map some ∧ Rps K N H outs us A
def spOf (K : Fg) (n : Nat) (ios : List Nat) (F : FS) : Sp := fun vs H Q E => vs.length = n ∧ ∃ N A ds, Rps K N H ds vs A ∧ (∀ x, A x → N x) ∧ (∀ x, N x → H x ≠ none) ∧ F.f ds fun r outs => ∀ v N' H',
  (∃ A1 A2, Rp K N' H' r v A1 ∧ Outs K N' H' ios vs outs A2 ∧ (∀ x, A1 x → ¬ A2 x) ∧ (∀ x, A1 x ∨ A2 x → N' x ∧ (A x ∨ H x = none))) →
  (∀ x, N' x → H' x ≠ none) → (∀ x, N x → ¬ A x → N' x) → (∀ x, N x → ¬ A x → H' x = H x) → Ext K N H N' H' → (∀ x, H x ≠ none → H' x ≠ none) → Q v H'
/-- slots get back what was lent -/
def giveB : List (Option Nat) → List D → Ev → Ev
  | [], _, ρ => ρ
  | _ :: _, [], ρ => ρ
  | some i :: s, d :: ds, ρ => giveB s ds (ρ.set i (some d))
  | none :: s, _ :: ds, ρ => giveB s ds ρ
section
variable {K : Fg} {C : Ct} {σ : Sts}
theorem Rl.giveB : ∀ {s : List (Option Nat)} {outs : List D} {us : List V} {N : AS} {ρ : Ev} {H : Hp} {vs : List V} {ds : List D}, Rl K C N σ ρ H us outs vs ds → s.length = outs.length →
    (∀ (k i : Nat), s[k]? = some (some i) → ∃ x, us[k]? = some x ∧ σ[i]? = some (some x)) → Rl K C N σ (BV.giveB s outs ρ) H [] [] vs ds
  | [], [], us, N, ρ, H, vs, ds, R, _, _ => R.drop
  | [], _ :: _, _, _, _, _, _, _, _, e, _ => by simp at e
  | _ :: _, [], _, _, _, _, _, _, _, e, _ => by simp at e
  | o :: s, d :: outs, us, N, ρ, H, vs, ds, R, e, h => by
    obtain ⟨A, r⟩ := R.top
    obtain ⟨v, vr, A1, A2, rfl, _⟩ := r
    have hr : ∀ (k i : Nat), s[k]? = some (some i) → ∃ x, vr[k]? = some x ∧ σ[i]? = some (some x) := fun k i q => by
      obtain ⟨x, h1, h2⟩ := h (k + 1) i (by simpa using q)
      exact ⟨x, by simpa using h1, h2⟩
    cases o with
    | none => exact Rl.giveB (s := s) R.tail (by simpa using e) hr
    | some i =>
      obtain ⟨x, h1, h2⟩ := h 0 i rfl
      cases (show some v = some x from h1)
      exact Rl.giveB (s := s) (R.give h2) (by simpa using e) hr
end
def xCall (F : FS) (s : List (Option Nat)) (T : XA) : XE := ⟨fun ρ Q => T.f ρ fun fs ρ1 => F.f fs fun r outs => outs.length = s.length ∧ Q r (giveB s outs ρ1), fun m q => T.mono (fun _ _ h => F.mono (fun _ _ h => ⟨h.1, m _ _ h.2⟩) h) q⟩
section
variable {X : Cx} {C : Ct} {a b c e : Expr} {es rest : List Expr} {ta tb tc te : TE} {Ta Tb Tc Te : XE} {pos p p2 : Pos} {tr : TA} {Tr : XA} {sl : List (Option Nat)}
/-- what the callee's promise asks, from the caller's state -/
theorem call_ok {n : Nat} {ios : List Nat} {F : FS} {N : AS} {σ : Sts} {ρ : Ev} {H : Hp} {xs vs : List V} {fs ds : List D} {Q : VK} {E : XK} {K : Fg} (R : Rl K C N σ ρ H xs fs vs ds) (L : Lent σ sl xs) (hn : sl.length = n)
    (hi : ∀ i ∈ ios, i < n) (h : F.f fs fun r outs => outs.length = (ios.map fun k => (sl[k]?).getD none).length ∧ ∀ v N' H', Rl K C N' σ (giveB (ios.map fun k => (sl[k]?).getD none) outs ρ) H' [v] [r] vs ds → Q v H') : spOf K n ios F xs H Q E := by
  obtain ⟨A, B1, B2, hA, h1, h2, d1, d2, ow⟩ := id R.ex
  refine ⟨L.len.trans hn, N, B1, fs, h1, fun x q => (ow x (.inr (.inl q))).1, R.nh, F.mono (fun r outs ⟨ho, q⟩ v N' H' ⟨A1, A2, r1, ⟨us, hu, r2⟩, dj, own⟩ nh nk fr xt dm => ?_) h⟩
  have kA : ∀ y, A y → H' y = H y := fun y z => fr y (ow y (.inl z)).1 (d1 y z).1
  have kB : ∀ y, B2 y → H' y = H y := fun y z => fr y (ow y (.inr (.inr z))).1 (fun w => d2 y w z)
  have nA : ∀ y, A y → N' y := fun y z => nk y (ow y (.inl z)).1 (d1 y z).1
  have nB : ∀ y, B2 y → N' y := fun y z => nk y (ow y (.inr (.inr z))).1 (fun w => d2 y w z)
  have notA : ∀ y, (A1 y ∨ A2 y) → ¬ A y ∧ ¬ B2 y := fun y z => by
    rcases (own y z).2 with w | w
    · exact ⟨fun u => (d1 y u).1 w, d2 y w⟩
    · exact ⟨fun u => R.nh y (ow y (.inl u)).1 w, fun u => R.nh y (ow y (.inr (.inr u))).1 w⟩
  have frA : ∀ y, (A1 y ∨ A2 y) → C.A0 y ∨ C.H0 y = none := fun y z => by
    rcases (own y z).2 with w | w
    · exact (ow y (.inr (.inl w))).2
    · refine .inr ?_
      cases e0 : C.H0 y with
      | none => rfl
      | some o => exact absurd w (R.dm y (by rw [e0]; exact fun z => by cases z))
  -- the state with the value parked, the outs in hand
  have R2 : Rl K C N' σ ρ H' us outs (v :: vs) (r :: ds) := by
    refine ⟨⟨A, A2, fun y => A1 y ∨ B2 y, hA.keep xt kA, r2, ⟨v, vs, A1, B2, rfl, r1, h2.keep xt ds kB, fun _ z => .inl z, fun _ z => .inr z, fun y z => (notA y (.inl z)).2⟩, fun y z => ⟨fun w => (notA y (.inr w)).1 z, fun w => ?_⟩, fun y z w => ?_, fun y z => ?_⟩,
      nh, R.h0, fun y z n => ?_, fun y z n => ?_, R.xt.trans xt, R.pr, fun y z => dm y (R.dm y z)⟩
    · rcases w with w | w
      · exact (notA y (.inl w)).1 z
      · exact (d1 y z).2 w
    · rcases w with w | w
      · exact dj y w z
      · exact (notA y (.inr z)).2 w
    · rcases z with z | z | z | z
      · exact ⟨nA y z, (ow y (.inl z)).2⟩
      · exact ⟨(own y (.inr z)).1, frA y (.inr z)⟩
      · exact ⟨(own y (.inl z)).1, frA y (.inl z)⟩
      · exact ⟨nB y z, (ow y (.inr (.inr z))).2⟩
    · refine nk y (R.n0 y z n) fun w => ?_
      rcases (ow y (.inr (.inl w))).2 with u | u
      · exact n u
      · exact R.h0 y z u
    · refine (fr y (R.n0 y z n) fun w => ?_).trans (R.fr y z n)
      rcases (ow y (.inr (.inl w))).2 with u | u
      · exact n u
      · exact R.h0 y z u
  refine q v N' H' (Rl.cons (Rl.giveB R2 (by rw [ho]) fun k i hk => ?_))
  rw [List.getElem?_map] at hk
  cases e0 : ios[k]? with
  | none => rw [e0] at hk; cases hk
  | some j =>
    rw [e0] at hk
    have hk2 : (sl[j]?).getD none = some i := Option.some.inj hk
    have hk3 : sl[j]? = some (some i) := by
      cases e1 : sl[j]? with
      | none => rw [e1] at hk2; cases hk2
      | some o => rw [e1] at hk2; exact congrArg some hk2
    obtain ⟨x, h3, h4⟩ := L.at_ j i hk3
    have hu2 := congrArg (fun l : List (Option V) => l[k]?) hu
    simp only [List.getElem?_map, e0, Option.map_some] at hu2
    rw [h3] at hu2
    cases e2 : us[k]? with
    | none => rw [e2] at hu2; cases hu2
    | some u =>
      rw [e2] at hu2
      cases hu2
      exact ⟨x, rfl, h4⟩
/-- f(..), f a def of the text -/
theorem ve_call {k : Nat} {f : Addr} {fd : FuncData} {ps : List Str} {n : Nat} {ios : List Nat} {F : FS} {x : Str} (G : FnOk X.prog X.w X.K X.mg X.base CX0 k f fd ps (spOf X.K n ios F)) (hr : Room k X.A) (hg : Gl X x) (hm : X.mg x = some (.ref f)) (hk : PySem.W.keepIn X.K (.ref f) = true) (hb : Binds X.K fd ps [])
    (ha : VA X C (e :: es) sl tr Tr) (hn : sl.length = n := by rfl) (hi : ∀ i ∈ ios, i < n := by decide) (hdb : (x == ("__debug__" : Str)) = false := by decide) (he : starEach (e :: es) X.env = (false, eval e X.env) :: starEach es X.env := by rfl) (hpl : (backTo pos (starEach es X.env)).any (·.1) = false := by rfl) :
    VE X C (.Call (.Name x p) (e :: es) [] pos) (tCall (spOf X.K n ios F) [] E0 tr) (xCall F (ios.map fun k => (sl[k]?).getD none) Tr) := by
  refine ⟨pe_call G hr hg hm hk hb .nil pass0 ha.pa hdb he hpl, fun {N σ ρ H vs ds Q} R q => ?_⟩
  refine ha.sa R (Tr.mono (fun fs ρ1 h xs N1 H1 R1 L => ?_) q)
  rw [List.append_nil]
  exact call_ok R1 L hn hi h
/-- f(..) with keywords -/
theorem ve_callK {k : Nat} {f : Addr} {fd : FuncData} {ps ks : List Str} {n : Nat} {F : FS} {x : Str} {kws : List Keyword} {g : List Value → List Value → List Value} {tk : TA} {Tk : XA} {sk : List (Option Nat)} (G : FnOk X.prog X.w X.K X.mg X.base CX0 k f fd ps (spOf X.K n [] F)) (hr : Room k X.A) (hg : Gl X x) (hm : X.mg x = some (.ref f)) (hk : PySem.W.keepIn X.K (.ref f) = true)
    (hb : KBinds X.K fd ps ks g fun us ws => us ++ ws) (ha : PA X [] tNil) (hw : PK X kws tk) (hs : ∀ {N : AS} {σ : Sts} {ρ : Ev} {H : Hp} {vs : List V} {ds : List D} {Q : List V → Hp → Prop}, Rl X.K C N σ ρ H [] [] vs ds → Tk.f ρ (fun fs ρ' => ∀ xs N' H', Rl X.K C N' σ ρ' H' xs fs vs ds → Lent σ sk xs → Q xs H') → tk σ H Q)
    (pe : PE X e (tCallK (spOf X.K n [] F) (fun us ws => us ++ ws) E0 tNil tk)) (hn : sk.length = n := by rfl) : VE X C e (tCallK (spOf X.K n [] F) (fun us ws => us ++ ws) E0 tNil tk) (xCall F [] Tk) := by
  refine ⟨pe, fun {N σ ρ H vs ds Q} R q => ?_⟩
  refine hs R (Tk.mono (fun fs ρ1 h xs N1 H1 R1 L => ?_) q)
  exact call_ok (sl := sk) (ios := []) R1 L hn (fun _ z => by cases z) h
end

/-! ### a def keeps its promise -/
def outsOf (ios : List Nat) (ρ : Ev) : List (Option D) := ios.map fun i => (ρ[i]?).getD none
section
variable {P : Program} {w : World} {K : Fg} {mg : Str → Option Value} {base : Heap}
theorem Sl.start {N : AS} {H : Hp} : ∀ {ds : List D} {vs : List V} {A : AS} (m : Nat), Rps K N H ds vs A → Sl K N H (ds.map some ++ List.replicate m none) (vs.map some ++ List.replicate m none) A
  | [], _, A, m, h => by
    cases (show _ = [] from h)
    induction m with
    | zero => exact rfl
    | succ m ih => exact ⟨none, _, rfl, ih⟩
  | d :: ds, _, A, m, h => by
    obtain ⟨v, vr, A1, A2, rfl, h1, h2, s1, s2, dj⟩ := h
    exact ⟨v, _, A1, A2, rfl, h1, Sl.start m h2, s1, s2, dj⟩
/-- several slots taken out at once -/
theorem Sl.takes {N : AS} {H : Hp} : ∀ {ios : List Nat} {outs : List D} {ρ : Ev} {σ : Sts} {A : AS}, Sl K N H ρ σ A → ios.Nodup → outsOf ios ρ = outs.map some →
    ∃ us A1, ios.map (fun i => (σ[i]?).getD none) = us.map some ∧ Rps K N H outs us A1 ∧ ∀ x, A1 x → A x
  | [], outs, ρ, σ, A, h, nd, e => by
    have e2 : outs = [] := by cases outs with | nil => rfl | cons _ _ => cases e
    subst e2
    exact ⟨[], AS0, rfl, rfl, fun _ z => z.elim⟩
  | i :: ios, outs, ρ, σ, A, h, nd, e => by
    cases outs with
    | nil => cases e
    | cons d outs =>
      have e1 : (ρ[i]?).getD none = some d := (List.cons.inj e).1
      have e2 : outsOf ios ρ = outs.map some := (List.cons.inj e).2
      have e3 : ρ[i]? = some (some d) := by
        cases q : ρ[i]? with
        | none => rw [q] at e1; cases e1
        | some o => rw [q] at e1; exact congrArg some e1
      obtain ⟨v, A1, A2, f1, r1, r2, s1, s2, dj⟩ := h.get e3
      have nd' := List.nodup_cons.mp nd
      have e4 : outsOf ios (ρ.set i none) = outs.map some := by
        rw [← e2]
        refine List.map_congr_left fun j hj => ?_
        rw [List.getElem?_set_ne (show i ≠ j from fun z => nd'.1 (by rw [z]; exact hj))]
      obtain ⟨us, A3, f2, r3, s3⟩ := Sl.takes r2 nd'.2 e4
      exact ⟨v :: us, A, by rw [List.map_cons, List.map_cons, f1, f2]; rfl, ⟨v, us, A1, A3, rfl, r1, r3, s1, fun x z => s2 x (s3 x z), fun x z w => dj x z (s3 x w)⟩, fun _ z => z⟩
/-- THE RULE for a def: its body's reading by values -/
theorem fn_ok {x qual : Str} {st : Stmt} {f : Addr} {fd : FuncData} {Nm ps : List Str} {k n : Nat} {ios : List Nat} {F : FS} (Fn : Fun K x qual st f fd) (S : FnScope Nm ps (defScope st)) (hn : ps.length = n) (nd : ios.Nodup) (hi : ∀ i ∈ ios, i < n)
    (hbody : ∀ (cdv : Value) (A : Around) (outer : List Env) (s : Shared) (H : Hp) (E : XK) (C : Ct), (∀ p ∈ C.prot, p.1 ∈ ios) → Room k (A.deeper (envOfC qual (defScope st) s.heap.objs.size f cdv)) →
      ∃ t T, VB (cxOf CX0 P w K mg base Nm qual (defScope st) f cdv A outer s H E).nox C (defBody st) t T ∧
        ∀ (ds : List D) (Q : D → List D → Prop), F.f ds Q → T.f { nx := fun ρ => ∃ outs, outsOf ios ρ = outs.map some ∧ Q .non outs, rt := fun r ρ => ∃ outs, outsOf ios ρ = outs.map some ∧ Q r outs, bk := fun _ => False, ct := fun _ => False } (ds.map some ++ List.replicate (Nm.length - n) none)) :
    FnOk P w K mg base CX0 (k + 1) f fd ps (spOf K n ios F) := by
  refine Fn.ok S (fun vs H Q E h => h.1.trans hn.symm) fun cdv A outer s H vs Q E hr h => ?_
  obtain ⟨hl, N, A0, ds, r, hA, hN, h⟩ := h
  obtain ⟨t, T, VV, hT⟩ := hbody cdv A outer s H E ⟨H, N, A0, ios.map fun i => (i, (vs[i]?).getD .non)⟩ (fun p hp => by
    obtain ⟨i, hi, e⟩ := List.mem_map.mp hp
    rw [← e]
    exact hi) hr
  refine ⟨t, VV.ps, ?_⟩
  have prs : ∀ p ∈ ios.map fun i => (i, (vs[i]?).getD .non), (L2.start Nm vs)[p.1]? = some (some p.2) := fun p hp => by
    obtain ⟨i, hi', e⟩ := List.mem_map.mp hp
    subst e
    have il : i < vs.length := by rw [hl]; exact hi i hi'
    show (vs.map some ++ _)[i]? = some (some ((vs[i]?).getD .non))
    rw [List.getElem?_append_left (by rw [List.length_map]; exact il), List.getElem?_map, List.getElem?_eq_getElem il]
    rfl
  have R0 : Rl K ⟨H, N, A0, ios.map fun i => (i, (vs[i]?).getD .non)⟩ N (L2.start Nm vs) (ds.map some ++ List.replicate (Nm.length - n) none) H [] [] [] [] := by
    refine ⟨⟨A0, AS0, AS0, ?_, rfl, rfl, fun _ _ => ⟨fun z => z, fun z => z⟩, fun _ z => z.elim, fun x z => ?_⟩, hN, hN, fun _ z _ => z, fun _ _ _ => rfl, .refl, prs, fun _ z => z⟩
    · unfold L2.start
      rw [← hl]
      exact Sl.start _ r
    · rcases z with z | z | z
      · exact ⟨hA x z, .inl z⟩
      · exact z.elim
      · exact z.elim
  refine VV.ss R0 (hT ds _ h) ?_
  have fin : ∀ {v : V} {d : D} {σ : Sts} {ρ : Ev} {H' : Hp} {N' : AS} {outs : List D}, Rl K ⟨H, N, A0, ios.map fun i => (i, (vs[i]?).getD .non)⟩ N' σ ρ H' [v] [d] [] [] → outsOf ios ρ = outs.map some →
      (∀ v N' H', (∃ A1 A2, Rp K N' H' d v A1 ∧ Outs K N' H' ios vs outs A2 ∧ (∀ x, A1 x → ¬ A2 x) ∧ (∀ x, A1 x ∨ A2 x → N' x ∧ (A0 x ∨ H x = none))) →
        (∀ x, N' x → H' x ≠ none) → (∀ x, N x → ¬ A0 x → N' x) → (∀ x, N x → ¬ A0 x → H' x = H x) → Ext K N H N' H' → (∀ x, H x ≠ none → H' x ≠ none) → Q v H') → Q v H' := fun {v d σ ρ H' N' outs} R ho q => by
    obtain ⟨A, B1, B2, hA', h1, h2, d1, d2, ow⟩ := id R.ex
    obtain ⟨v', vr, A1, A2, e, r1, r2, s1, s2, dj⟩ := h1
    cases e
    obtain ⟨us, A3, f2, r3, s3⟩ := Sl.takes hA' nd ho
    refine q v N' H' ⟨A1, A3, r1, ⟨us, ?_, r3⟩, fun x z w => (d1 x (s3 x w)).1 (s1 x z), fun x z => ?_⟩ R.nh R.n0 R.fr R.xt R.dm
    · rw [← f2]
      refine List.map_congr_left fun i hi' => ?_
      have il : i < vs.length := by rw [hl]; exact hi i hi'
      have e1 := R.pr (i, (vs[i]?).getD .non) (List.mem_map.mpr ⟨i, hi', rfl⟩)
      have e2 : σ[i]? = some (some ((vs[i]?).getD .non)) := e1
      rw [e2, List.getElem?_eq_getElem il]
      rfl
    · rcases z with z | z
      · exact ow x (.inr (.inl (s1 x z)))
      · exact ow x (.inl (s3 x z))
  refine ⟨fun σ ρ H' N' R q => ?_, fun v d σ ρ H' N' R q => ?_, fun _ _ _ _ _ z => z.elim, fun _ _ _ _ _ z => z.elim⟩
  · obtain ⟨outs, ho, q⟩ := q
    exact fin (R.res (v := .non) (d := .non) rfl) ho q
  · obtain ⟨outs, ho, q⟩ := q
    exact fin R ho q
end
end BV

/-! BV, part H: statements, owned lists, loops, comprehensions. -/
namespace BV
open PySem PySem.Spec PyProof.Rows L2
section
variable {K : Fg} {C : Ct} {N N' : AS} {σ : Sts} {ρ : Ev} {H H' : Hp} {xs vs us ws : List V} {es ds fs gs : List D} {v w : V} {d e : D}
/-- what waits on top is dropped -/
theorem Rl.under (R : Rl K C N σ ρ H xs es (v :: vs) (d :: ds)) : Rl K C N σ ρ H xs es vs ds := by
  obtain ⟨A, B1, B2, hA, h1, h2, d1, d2, ow⟩ := R.ex
  obtain ⟨v', vr, A1, A2, e, r1, r2, s1, s2, dj⟩ := h2
  cases e
  refine ⟨⟨A, B1, A2, hA, h1, r2, fun x q => ⟨(d1 x q).1, fun z => (d1 x q).2 (s2 x z)⟩, fun x q z => d2 x q (s2 x z), fun x q => ow x ?_⟩, R.nh, R.h0, R.n0, R.fr, R.xt, R.pr, R.dm⟩
  rcases q with q | q | q
  · exact .inl q
  · exact .inr (.inl q)
  · exact .inr (.inr (s2 x q))
/-- a slot's value is taken out, ahead of what was reckoned -/
theorem Rl.lendL {i : Nat} (R : Rl K C N σ ρ H xs es vs ds) (e : ρ[i]? = some (some d)) : ∃ v, σ[i]? = some (some v) ∧ Rl K C N σ (ρ.set i none) H (v :: xs) (d :: es) vs ds := by
  obtain ⟨A, B1, B2, hA, h1, h2, d1, d2, ow⟩ := R.ex
  obtain ⟨v, A1, A2, e1, r1, r2, s1, s2, dj⟩ := hA.get e
  refine ⟨v, e1, ⟨A2, fun x => A1 x ∨ B1 x, B2, r2, ⟨v, xs, A1, B1, rfl, r1, h1, fun _ q => .inl q, fun _ q => .inr q, fun x q => (d1 x (s1 x q)).1⟩, h2, fun x q => ⟨fun z => ?_, (d1 x (s2 x q)).2⟩, fun x q => ?_, fun x q => ?_⟩, R.nh, R.h0, R.n0, R.fr, R.xt, R.pr, R.dm⟩
  · rcases z with z | z
    · exact dj x z q
    · exact (d1 x (s2 x q)).1 z
  · rcases q with q | q
    · exact (d1 x (s1 x q)).2
    · exact d2 x q
  · rcases q with q | (q | q) | q
    · exact ow x (.inl (s2 x q))
    · exact ow x (.inl (s1 x q))
    · exact ow x (.inr (.inl q))
    · exact ow x (.inr (.inr q))
theorem Rps.append : ∀ {ds : List D} {us : List V} {A : AS} {es : List D} {ws : List V} {B : AS}, Rps K N H ds us A → Rps K N H es ws B → (∀ x, A x → ¬ B x) → Rps K N H (ds ++ es) (us ++ ws) (fun x => A x ∨ B x)
  | [], _, A, es, ws, B, h, q, _ => by
    cases (show _ = [] from h)
    exact q.up fun _ z => .inr z
  | d :: ds, _, A, es, ws, B, h, q, dj => by
    obtain ⟨v, vr, A1, A2, rfl, h1, h2, s1, s2, dj1⟩ := h
    refine ⟨v, _, A1, fun x => A2 x ∨ B x, rfl, h1, Rps.append h2 q fun x z => dj x (s2 x z), fun x z => .inl (s1 x z), fun x z => ?_, fun x z y => ?_⟩
    · rcases z with z | z
      · exact .inl (s2 x z)
      · exact .inr z
    · rcases y with y | y
      · exact dj1 x z y
      · exact dj x (s1 x z) y
theorem Rps.split : ∀ {fs : List D} {xs : List V} {ds : List D} {vs : List V} {B : AS}, Rps K N H (fs ++ ds) (xs ++ vs) B → fs.length = xs.length → ∃ B1 B2, Rps K N H fs xs B1 ∧ Rps K N H ds vs B2 ∧ (∀ x, B1 x → B x) ∧ (∀ x, B2 x → B x) ∧ (∀ x, B1 x → ¬ B2 x)
  | [], [], _, _, B, h, _ => ⟨AS0, B, rfl, h, fun _ z => z.elim, fun _ z => z, fun _ z => z.elim⟩
  | [], _ :: _, _, _, _, _, e => by simp at e
  | _ :: _, [], _, _, _, _, e => by simp at e
  | d :: fs, x :: xs, ds, vs, B, h, e => by
    obtain ⟨v, vr, A1, A2, e1, h1, h2, s1, s2, dj⟩ := h
    cases e1
    obtain ⟨B1, B2, r1, r2, t1, t2, dj2⟩ := Rps.split (fs := fs) (xs := xs) h2 (by simpa using e)
    refine ⟨fun x => A1 x ∨ B1 x, B2, ⟨x, xs, A1, B1, rfl, h1, r1, fun _ z => .inl z, fun _ z => .inr z, fun y z w => dj y z (t1 y w)⟩, r2, fun y z => ?_, fun y z => s2 y (t2 y z), fun y z w => ?_⟩
    · rcases z with z | z
      · exact s1 y z
      · exact s2 y (t1 y z)
    · rcases z with z | z
      · exact dj y z (t2 y w)
      · exact dj2 y z w
/-- all but the first wait -/
theorem Rl.parkT (R : Rl K C N σ ρ H (v :: xs) (d :: es) vs ds) : Rl K C N σ ρ H [v] [d] (xs ++ vs) (es ++ ds) := by
  obtain ⟨A, B1, B2, hA, h1, h2, d1, d2, ow⟩ := R.ex
  obtain ⟨v', vr, A1, A2, ev, r1, r2, s1, s2, dj⟩ := h1
  cases ev
  refine ⟨⟨A, A1, fun x => A2 x ∨ B2 x, hA, ⟨v, [], A1, AS0, rfl, r1, rfl, fun _ z => z, fun _ z => z.elim, fun _ _ z => z⟩, r2.append h2 fun x z => d2 x (s2 x z), fun x q => ⟨fun z => (d1 x q).1 (s1 x z), fun z => ?_⟩, fun x q z => ?_, fun x q => ow x ?_⟩, R.nh, R.h0, R.n0, R.fr, R.xt, R.pr, R.dm⟩
  · rcases z with z | z
    · exact (d1 x q).1 (s2 x z)
    · exact (d1 x q).2 z
  · rcases z with z | z
    · exact dj x q z
    · exact d2 x (s1 x q) z
  · rcases q with q | q | q | q
    · exact .inl q
    · exact .inr (.inl (s1 x q))
    · exact .inr (.inl (s2 x q))
    · exact .inr (.inr q)
theorem Rl.unpark (R : Rl K C N σ ρ H [] [] (xs ++ vs) (es ++ ds)) (e : es.length = xs.length) : Rl K C N σ ρ H xs es vs ds := by
  obtain ⟨A, B1, B2, hA, h1, h2, d1, d2, ow⟩ := R.ex
  obtain ⟨B3, B4, r3, r4, s3, s4, dj⟩ := h2.split e
  refine ⟨⟨A, B3, B4, hA, r3, r4, fun x q => ⟨fun z => (d1 x q).2 (s3 x z), fun z => (d1 x q).2 (s4 x z)⟩, dj, fun x q => ow x ?_⟩, R.nh, R.h0, R.n0, R.fr, R.xt, R.pr, R.dm⟩
  rcases q with q | q | q
  · exact .inl q
  · exact .inr (.inr (s3 x q))
  · exact .inr (.inr (s4 x q))
/-- an owned list, by its object -/
theorem Rl.ownAt (R : Rl K C N σ ρ H (v :: xs) (.own fs :: es) vs ds) : ∃ a us B, v = .ref a ∧ H a = some (.lst us) ∧ Rps K N H fs us B := by
  obtain ⟨A, h⟩ := R.top
  obtain ⟨v', vr, A1, A2, e1, r1, _⟩ := h
  cases e1
  obtain ⟨a, us, B, e, ha, _, _, r⟩ := r1
  exact ⟨a, us, B, e, ha, r⟩
/-- an item goes behind an owned list -/
theorem Rl.app {a : Addr} (R : Rl K C N σ ρ H [.ref a, w] [.own fs, d] vs ds) (ha : H a = some (.lst us)) : Rl K C N σ ρ (upd H a (.lst (us ++ [w]))) [.ref a] [.own (fs ++ [d])] vs ds :=
  R.write ha fun B1 B2 h1 h2 dj => ⟨_, h1.append h2 dj, fun _ z => z⟩
theorem Rl.storeA {i : Nat} (R : Rl K C N σ ρ H (v :: xs) (d :: es) vs ds) (hp : ∀ p ∈ C.prot, p.1 ≠ i) : Rl K C N (σ.set i (some v)) (ρ.set i (some d)) H xs es vs ds := by
  by_cases hl : i < ρ.length
  · exact R.store hl hp
  · have h2 : ¬ i < σ.length := by rw [← R.len]; exact hl
    rw [List.set_eq_of_length_le (by omega), List.set_eq_of_length_le (by omega)]
    exact R.tail
end

theorem notProt {C : Ct} {ios : List Nat} {i : Nat} (hC : ∀ p ∈ C.prot, p.1 ∈ ios) (hi : i ∉ ios) : ∀ p ∈ C.prot, p.1 ≠ i := fun p hp z => hi (z ▸ hC p hp)

/-! ### statements -/
def xNext : XS := ⟨fun G ρ => G.nx ρ, fun l q => l.nx _ q⟩
def xSeq (S T : XS) : XS := ⟨fun G ρ => S.f { G with nx := T.f G } ρ, fun {G G' ρ} l q => S.mono (G := { G with nx := T.f G }) (G' := { G' with nx := T.f G' }) ⟨fun ρ h => T.mono l h, l.rt, l.bk, l.ct⟩ q⟩
def xRet (T : XE) : XS := ⟨fun G ρ => T.f ρ G.rt, fun l q => T.mono l.rt q⟩
def xRetN : XS := ⟨fun G ρ => G.rt .non ρ, fun l q => l.rt _ _ q⟩
def xIfS (U : XT) (S T : XS) : XS := ⟨fun G ρ => U.f ρ fun k ρ1 => (k = true → S.f G ρ1) ∧ (k = false → T.f G ρ1), fun l q => U.mono (fun _ _ h => ⟨fun z => S.mono l (h.1 z), fun z => T.mono l (h.2 z)⟩) q⟩
def xDo (T : XE) : XS := ⟨fun G ρ => T.f ρ fun _ ρ1 => G.nx ρ1, fun l q => T.mono (fun _ _ h => l.nx _ h) q⟩
def xBrk : XS := ⟨fun G ρ => G.bk ρ, fun l q => l.bk _ q⟩
def xCont : XS := ⟨fun G ρ => G.ct ρ, fun l q => l.ct _ q⟩
def xNever : XS := ⟨fun _ _ => False, fun _ q => q⟩
section
variable {X : Cx} {C : Ct} {a b c e : Expr} {es rest : List Expr} {st : Stmt} {sts sts' : List Stmt} {ta tb tc te : TE} {Ta Tb Tc Te : XE} {tA : TT} {UA : XT} {pos p p2 : Pos} {t u : TS} {S T : XS}
theorem vb_nil : VB X C [] tNext xNext := ⟨pss_nil, fun R q L => L.nx _ _ _ _ R q⟩
theorem vb_cons (h1 : VS X C st t S) (h2 : VB X C sts u T) : VB X C (st :: sts) (tSeq t u) (xSeq S T) :=
  ⟨pss_cons h1.ps h2.ps, fun {N σ ρ H vs ds E G} R q L => h1.ss (G := { G with nx := T.f G }) R q ⟨fun _ _ _ _ R' q' => h2.ss R' q' L, L.rt, L.bk, L.ct⟩⟩
theorem vb_one (h1 : VS X C st t S) : VB X C [st] t S := ⟨pss_one h1.ps, h1.ss⟩
theorem vs_ret (h : VE X C e te Te) : VS X C (.Return (some e) pos) (tRet te) (xRet Te) := ⟨ps_ret h.pe, fun R q L => h.se R (Te.mono (fun d ρ' z v N' H' R' => L.rt _ _ _ _ _ _ R' z) q)⟩
theorem vs_retN : VS X C (.Return none pos) tRetN xRetN := ⟨ps_retN, fun R q L => L.rt .non .non _ _ _ _ (R.res rfl) q⟩
theorem vs_if (hc : VT X C c tA UA) (h1 : VB X C sts t S) (h2 : VB X C sts' u T) : VS X C (.If c sts sts' pos) (tIfS tA t u) (xIfS UA S T) := by
  refine ⟨ps_if hc.pt h1.ps h2.ps, fun R q L => hc.st R (UA.mono (fun k ρ1 h N1 H1 R1 => ?_) q)⟩
  cases k with
  | true => exact iteT (h1.ss R1 (h.1 rfl) L)
  | false => exact iteF (h2.ss R1 (h.2 rfl) L)
theorem vs_expr (he : VE X C e te Te) (hs : swapsWith e none pos.line X.env = pure false := by rfl) : VS X C (.Expr e pos) (tDrop te) (xDo Te) := ⟨ps_expr he.pe hs, fun R q L => he.se R (Te.mono (fun d ρ' z v N' H' R' => L.nx _ _ _ _ R'.drop z) q)⟩
theorem vs_pass : VS X C (.Pass pos) tNext xNext := ⟨ps_pass, fun R q L => L.nx _ _ _ _ R q⟩
theorem vs_break : VS X C (.Break pos) tBreak xBrk := ⟨ps_break, fun R q L => L.bk _ _ _ _ R q⟩
theorem vs_continue : VS X C (.Continue pos) tCont xCont := ⟨ps_continue, fun R q L => L.ct _ _ _ _ R q⟩
theorem vs_doc {x j p'} : VS X C (.Expr (.Constant (.str x) j pos) p') tNext xNext := ⟨ps_doc, fun R q L => L.nx _ _ _ _ R q⟩

/-! ### targets -/
structure XG where
  f : D → Ev → (Ev → Prop) → Prop
  mono : ∀ {d : D} {ρ : Ev} {Q Q' : Ev → Prop}, (∀ ρ', Q ρ' → Q' ρ') → f d ρ Q → f d ρ Q'
structure XGs where
  f : List D → Ev → (Ev → Prop) → Prop
  mono : ∀ {d : List D} {ρ : Ev} {Q Q' : Ev → Prop}, (∀ ρ', Q ρ' → Q' ρ') → f d ρ Q → f d ρ Q'
structure VG (X : Cx) (C : Ct) (tg : Expr) (g : TG) (T : XG) : Prop where
  pg : PG X tg g
  sg : ∀ {N : AS} {σ : Sts} {ρ : Ev} {H : Hp} {v : V} {d : D} {vs : List V} {ds : List D} {Q : Sts → Hp → Prop}, Rl X.K C N σ ρ H [v] [d] vs ds → T.f d ρ (fun ρ' => ∀ N' σ' H', Rl X.K C N' σ' ρ' H' [] [] vs ds → Q σ' H') → g v σ H Q
structure VGs (X : Cx) (C : Ct) (tgs : List Expr) (g : TGs) (T : XGs) : Prop where
  pg : PGs X tgs g
  sg : ∀ {N : AS} {σ : Sts} {ρ : Ev} {H : Hp} {xs : List V} {fs : List D} {vs : List V} {ds : List D} {Q : Sts → Hp → Prop}, Rl X.K C N σ ρ H xs fs vs ds → T.f fs ρ (fun ρ' => ∀ N' σ' H', Rl X.K C N' σ' ρ' H' [] [] vs ds → Q σ' H') → g xs σ H Q
def xgName (i : Nat) : XG := ⟨fun d ρ Q => Q (ρ.set i (some d)), fun m q => m _ q⟩
theorem vg_name {i : Nat} {ios : List Nat} (h : PG X e (gName i)) (hC : ∀ p ∈ C.prot, p.1 ∈ ios) (hi : i ∉ ios := by decide) : VG X C e (gName i) (xgName i) :=
  ⟨h, fun R q => q _ _ _ (R.storeA (notProt hC hi))⟩
def xgNil : XGs := ⟨fun ds ρ Q => ds = [] ∧ Q ρ, fun m q => ⟨q.1, m _ q.2⟩⟩
def xgCons (T : XG) (U : XGs) : XGs := ⟨fun ds ρ Q => ∃ d r, ds = d :: r ∧ T.f d ρ fun ρ1 => U.f r ρ1 Q, fun m ⟨d, r, e, q⟩ => ⟨d, r, e, T.mono (fun _ h => U.mono m h) q⟩⟩
variable {g : TG} {gs : TGs} {Tg : XG} {Tgs : XGs}
theorem vgs_nil : VGs X C [] gNil xgNil := ⟨pgs_nil, fun {N σ ρ H xs fs vs ds Q} R q => by
  obtain ⟨rfl, q⟩ := q
  obtain ⟨A, r⟩ := R.top
  exact ⟨r, q _ _ _ R.drop⟩⟩
theorem vgs_cons (h1 : VG X C e g Tg) (h2 : VGs X C es gs Tgs) (hs : (assignEach (e :: es) X.env).map (·.2) = assign e X.env :: (assignEach es X.env).map (·.2) := by rfl) : VGs X C (e :: es) (gCons g gs) (xgCons Tg Tgs) := by
  refine ⟨pgs_cons h1.pg h2.pg hs, fun {N σ ρ H xs fs vs ds Q} R q => ?_⟩
  obtain ⟨d, r, rfl, q⟩ := q
  obtain ⟨A, hr⟩ := R.top
  obtain ⟨v, vr, A1, A2, rfl, r1, r2, s1, s2, dj⟩ := hr
  refine ⟨v, vr, rfl, h1.sg R.parkT (Tg.mono (fun ρ1 h N' σ' H' R' => ?_) q)⟩
  exact h2.sg (R'.unpark r2.length) h
/-- (a, b, ..) = a tuple -/
def xgTup (n : Nat) (T : XGs) : XG := ⟨fun d ρ Q => ∃ ds, d = .tup ds ∧ ds.length = n ∧ T.f ds ρ Q, fun m ⟨ds, e, h, q⟩ => ⟨ds, e, h, T.mono m q⟩⟩
theorem vg_tup {k n : Nat} (hc : X.calm = true) (h : VGs X C es gs Tgs) (hn : (assignEach es X.env).length = n := by rfl) (hst : (assignEach es X.env).findIdx? (·.1) = none := by rfl) : VG X C (.Tuple es k pos) (gTup X.K n gs) (xgTup n Tgs) := by
  refine ⟨pg_tup hc h.pg hn hst, fun {N σ ρ H v d vs ds Q} R q => ?_⟩
  obtain ⟨fs, rfl, hl, q⟩ := q
  obtain ⟨A, r⟩ := R.top1
  obtain ⟨a, us, rfl, hs, r⟩ := r
  refine ⟨a, us, rfl, hs, by rw [← r.length]; exact hl, h.sg (N := N) (xs := us) (fs := fs) ?_ q⟩
  obtain ⟨A', B1, B2, hA, h1, h2, d1, d2, ow⟩ := R.ex
  refine ⟨⟨A', AS0, B2, hA, r, h2, fun x q => ⟨fun z => z, (d1 x q).2⟩, fun _ z => z.elim, fun x q => ow x ?_⟩, R.nh, R.h0, R.n0, R.fr, R.xt, R.pr, R.dm⟩
  rcases q with q | q | q
  · exact .inl q
  · exact q.elim
  · exact .inr (.inr q)
/-- target = value -/
def xAsg (T : XE) (U : XG) : XS := ⟨fun G ρ => T.f ρ fun d ρ1 => U.f d ρ1 G.nx, fun l q => T.mono (fun _ _ h => U.mono (fun _ z => l.nx _ z) h) q⟩
theorem vs_asg {tg : Expr} (he : VE X C e te Te) (hg : VG X C tg g Tg) (hs : swapsWithSole [tg] e pos.line X.env = pure false := by rfl) (hw : swappedStores [tg] e X.env = pure none := by rfl)
    (h1 : (assignEach [tg] X.env).map (·.2) = [assign tg X.env] := by rfl) : VS X C (.Assign [tg] e pos) (tAsg te g) (xAsg Te Tg) :=
  ⟨ps_asg he.pe hg.pg hs hw h1, fun R q L => he.se R (Te.mono (fun d ρ1 h v N' H' R' => hg.sg R' (Tg.mono (fun ρ2 z N2 σ2 H2 R2 => L.nx _ _ _ _ R2 z) h)) q)⟩
/-- name = value -/
theorem vs_set {i : Nat} {ios : List Nat} (h : PS X st (tAsg te (gName i))) (he : VE X C e te Te) (hC : ∀ p ∈ C.prot, p.1 ∈ ios) (hi : i ∉ ios := by decide) : VS X C st (tAsg te (gName i)) (xAsg Te (xgName i)) :=
  ⟨h, fun R q L => he.se R (Te.mono (fun d ρ1 h v N' H' R' => L.nx _ _ _ _ (R'.storeA (notProt hC hi)) h) q)⟩
/-- a, b = x, y -/
def xPar (is : List Nat) (T : XA) : XS := ⟨fun G ρ => T.f ρ fun fs ρ1 => fs.length = is.length ∧ G.nx ((is.zip fs).foldl (fun r p => r.set p.1 (some p.2)) ρ1), fun l q => T.mono (fun _ _ h => ⟨h.1, l.nx _ h.2⟩) q⟩
variable {tr : TA} {Tr : XA} {sl : List (Option Nat)}
theorem vs_par {i j : Nat} {ios : List Nat} (h : PS X st (tPar i j tr)) (ha : VA X C es sl tr Tr) (hC : ∀ p ∈ C.prot, p.1 ∈ ios) (hi : i ∉ ios := by decide) (hj : j ∉ ios := by decide) : VS X C st (tPar i j tr) (xPar [i, j] Tr) := by
  refine ⟨h, fun R q L => ha.sa R (Tr.mono (fun fs ρ1 h xs N1 H1 R1 _ => ?_) q)⟩
  obtain ⟨hl, h⟩ := h
  match fs, hl, R1, h with
  | [d, e], _, R1, h =>
    obtain ⟨v, w, A, B, rfl, _, _⟩ := R1.twoL
    exact ⟨v, w, rfl, L.nx _ _ _ _ ((R1.storeA (notProt hC hi)).storeA (notProt hC hj)) h⟩
theorem vs_par3 {i j l : Nat} {ios : List Nat} (h : PS X st (tPar3 i j l tr)) (ha : VA X C es sl tr Tr) (hC : ∀ p ∈ C.prot, p.1 ∈ ios) (hi : i ∉ ios := by decide) (hj : j ∉ ios := by decide) (hl : l ∉ ios := by decide) : VS X C st (tPar3 i j l tr) (xPar [i, j, l] Tr) := by
  refine ⟨h, fun R q L => ha.sa R (Tr.mono (fun fs ρ1 h xs N1 H1 R1 _ => ?_) q)⟩
  obtain ⟨hln, h⟩ := h
  match fs, hln, R1, h with
  | [d, e, f], _, R1, h =>
    obtain ⟨A, r⟩ := R1.top
    obtain ⟨v, vr, A1, A2, rfl, _, r2, _⟩ := r
    obtain ⟨w, vr', A3, A4, rfl, _, r3, _⟩ := r2
    obtain ⟨y, vr'', A5, A6, rfl, _, r4, _⟩ := r3
    cases (show vr'' = [] from r4)
    exact ⟨v, w, y, rfl, L.nx _ _ _ _ (((R1.storeA (notProt hC hi)).storeA (notProt hC hj)).storeA (notProt hC hl)) h⟩

/-! ### owned lists in slots -/
/-- x.append(e) -/
def xApp (i : Nat) (T : XE) : XE := ⟨fun ρ Q => (∃ zs, ρ[i]? = some (some (.own zs))) ∧ T.f ρ fun d ρ' => ∃ zs, ρ'[i]? = some (some (.own zs)) ∧ zs.length < sizeLine ∧ Q .non (ρ'.set i (some (.own (zs ++ [d])))), fun m ⟨h, q⟩ => ⟨h, T.mono (fun _ _ ⟨zs, h1, h2, q⟩ => ⟨zs, h1, h2, m _ _ q⟩) q⟩⟩
theorem ve_app (i : Nat) {apos : Pos} {o : Expr} (ho : PE X o (tVar i)) (he : VE X C e te Te) (hp : PE X (.Call (.Attribute o "append" apos) [e] [] pos) (tBM X.K "list" rAppend (tVar i) (tCons te tNil))) :
    VE X C (.Call (.Attribute o "append" apos) [e] [] pos) (tBM X.K "list" rAppend (tVar i) (tCons te tNil)) (xApp i Te) := by
  refine ⟨hp, fun R q => ?_⟩
  obtain ⟨⟨zs, hz⟩, q⟩ := q
  obtain ⟨v, A, e1, r⟩ := R.any hz
  obtain ⟨a, us, B, rfl, ha, _, _, _⟩ := r
  refine ⟨_, e1, .inl ⟨rfl, us, .inl (.inl ha)⟩, he.se R (Te.mono (fun d ρ' h w N1 H1 R1 => ?_) q)⟩
  obtain ⟨zs', h1, h2, h⟩ := h
  obtain ⟨v', e2, R2⟩ := R1.lendL h1
  rw [e1] at e2
  cases e2
  obtain ⟨a', us', B', e3, ha', r'⟩ := R2.ownAt
  cases e3
  refine ⟨a, us', w, rfl, rfl, ha', by rw [← r'.length]; exact h2, ?_⟩
  have R3 := (R2.app ha').give e1
  rw [List.set_set] at R3
  exact h _ _ _ (R3.res (v := .non) (d := .non) rfl)
/-- x.pop() -/
def xPop (i : Nat) : XE := ⟨fun ρ Q => ∃ zs z, ρ[i]? = some (some (.own (zs ++ [z]))) ∧ z.sh = true ∧ Q z (ρ.set i (some (.own zs))), fun m h => by
  obtain ⟨zs, z, h1, h2, q⟩ := h
  exact ⟨zs, z, h1, h2, m _ _ q⟩⟩
theorem ve_pop (i : Nat) {apos : Pos} {o : Expr} (ho : PE X o (tVar i)) (hp : PE X (.Call (.Attribute o "pop" apos) [] [] pos) (tBM0 X.K "list" rPop (tVar i))) :
    VE X C (.Call (.Attribute o "pop" apos) [] [] pos) (tBM0 X.K "list" rPop (tVar i)) (xPop i) := by
  refine ⟨hp, fun {N σ ρ H vs ds Q} R q => ?_⟩
  obtain ⟨zs, z, h1, h2, q⟩ := q
  obtain ⟨v, e1, R1⟩ := R.lend h1
  obtain ⟨a, us, B, rfl, ha, r⟩ := R1.ownAt
  have hlen := r.length
  rw [List.length_append, List.length_singleton] at hlen
  have hne : us ≠ [] := fun e => by rw [e] at hlen; simp at hlen
  have hu : us = us.dropLast ++ [us.getLast hne] := (List.dropLast_concat_getLast hne).symm
  obtain ⟨B1, B2, r1, r2, s1, s2, dj⟩ := Rps.split (fs := zs) (xs := us.dropLast) (by rw [← hu]; exact r) (by rw [List.length_dropLast]; omega)
  obtain ⟨y, vr, A1, A2, ey, ry, ryr, _⟩ := r2
  cases (show vr = [] from ryr)
  have ey2 : us.getLast hne = y := by cases ey; rfl
  have R2 : Rl X.K C N σ (ρ.set i none) (upd H a (.lst us.dropLast)) [.ref a] [.own zs] vs ds := R1.write ha fun B1 B2 h1 h2 dj => by
    have hu2 : Rps X.K N H (zs ++ [z]) (us.dropLast ++ [us.getLast hne]) B1 := by rw [← hu]; exact h1
    obtain ⟨B3, B4, r3, r4, s3, _⟩ := Rps.split (fs := zs) (xs := us.dropLast) hu2 (by rw [List.length_dropLast]; omega)
    exact ⟨B3, r3, fun x q => .inl (s3 x q)⟩
  have R3 := R2.give e1
  rw [List.set_set] at R3
  refine ⟨_, e1, .inl ⟨rfl, us, .inl (.inl ha)⟩, a, us, us.getLast hne, rfl, rfl, ha, by rw [List.getLast_eq_getElem, List.getElem?_eq_getElem], q _ _ _ (R3.res ?_)⟩
  rw [ey2]
  obtain ⟨A', B1', B2', hA, hh1, hh2, dd1, dd2, ow⟩ := R1.ex
  obtain ⟨v', vr', C1, C2, ev, rr1, _, t1, _⟩ := hh1
  cases ev
  obtain ⟨a', us', B', e', ha', hAa, _, _⟩ := rr1
  cases e'
  exact (ry.share h2).keep0 (.write ha (ow a (.inr (.inl (t1 a hAa)))).1)
/-- an own list that a loop is to walk, or that is handed on: from here on nobody changes it -/
def xFrzS (i : Nat) (T : XS) : XS := ⟨fun G ρ => ∃ zs, ρ[i]? = some (some (.own zs)) ∧ zs.all D.sh = true ∧ T.f G (ρ.set i (some (.lst zs))), fun l ⟨zs, h1, h2, q⟩ => ⟨zs, h1, h2, T.mono l q⟩⟩
theorem vb_frzS (i : Nat) (h : VB X C sts t T) : VB X C sts t (xFrzS i T) := by
  refine ⟨h.ps, fun R q L => ?_⟩
  obtain ⟨zs, h1, h2, q⟩ := q
  obtain ⟨v, e1, R1⟩ := R.lend h1
  obtain ⟨N2, R2⟩ := R1.frz
  have e : (D.own zs).frz = .lst zs := by
    show D.lst (D.frzs zs) = _
    rw [D.frzs_sh h2]
  rw [e] at R2
  have R3 := R2.give e1
  rw [List.set_set] at R3
  exact h.ss R3 q L
/-- code that the proof never comes to -/
theorem vb_never : VB X C sts tNever xNever := ⟨pss_never, fun _ q _ => q⟩
end
end BV

/-! BV, part I: what is walked; for, while; comprehensions. -/
namespace BV
open PySem PySem.Spec PyProof.Rows L2

/-- an iterator by values: it yields zs; pd at pv waits in the stack meanwhile -/
def ItD (K : Fg) (C : Ct) (J : It) (zs : List D) (pv : V) (pd : D) : Prop := ∀ {N : AS} {σ : Sts} {ρ : Ev} {H : Hp} {us : List V} {fs : List D} {vs : List V} {ds : List D}, us.length = fs.length → Rl K C N σ ρ H [] [] (us ++ pv :: vs) (fs ++ pd :: ds) →
  (∀ (k : Nat) (z : D), zs[k]? = some z → J.go k H ∧ ∀ x H', J.yld k H x H' → ∃ N', Rl K C N' σ ρ H' [x] [z] (us ++ pv :: vs) (fs ++ pd :: ds)) ∧ (∀ k : Nat, k = zs.length → J.stop k H)
structure XI where
  f : Ev → (List D → Ev → Prop) → Prop
  mono : ∀ {ρ : Ev} {Q Q' : List D → Ev → Prop}, (∀ d ρ', Q d ρ' → Q' d ρ') → f ρ Q → f ρ Q'
structure VI (X : Cx) (C : Ct) (tg iter : Expr) (wi : TI) (T : XI) : Prop where
  pi : PI X tg iter wi
  si : ∀ {N : AS} {σ : Sts} {ρ : Ev} {H : Hp} {vs : List V} {ds : List D} {R : It → Hp → Prop}, Rl X.K C N σ ρ H [] [] vs ds →
    T.f ρ (fun zs ρ' => ∀ J N' H' pv pd, Rl X.K C N' σ ρ' H' [] [] (pv :: vs) (pd :: ds) → ItD X.K C J zs pv pd → R J H') → wi σ H R

/-- the list of a range -/
def rngD (lo : Int) (n : Nat) : List D := (List.range n).map fun k => .int (lo + (k : Nat))
theorem rngD_get {lo : Int} {n k : Nat} {z : D} (h : (rngD lo n)[k]? = some z) : k < n ∧ z = .int (lo + (k : Nat)) := by
  unfold rngD at h
  rw [List.getElem?_map] at h
  cases e : (List.range n)[k]? with
  | none => rw [e] at h; cases h
  | some j =>
    rw [e] at h
    obtain ⟨h1, h2⟩ := List.getElem?_eq_some_iff.mp e
    rw [List.length_range] at h1
    rw [List.getElem_range] at h2
    cases h
    exact ⟨h1, by rw [← h2]⟩
theorem rngD_length (lo : Int) (n : Nat) : (rngD lo n).length = n := by unfold rngD; rw [List.length_map, List.length_range]
theorem itd_range {K : Fg} {C : Ct} {lo : Int} {n : Nat} {pv : V} {pd : D} : ItD K C (Itr lo n) (rngD lo n) pv pd := by
  intro N σ ρ H us fs vs ds hl R
  refine ⟨fun k z h => ?_, fun k h => by rw [rngD_length] at h; exact Nat.le_of_eq h.symm⟩
  obtain ⟨h1, rfl⟩ := rngD_get h
  exact ⟨h1, fun x H' hy => by
    obtain ⟨rfl, rfl⟩ := hy
    exact ⟨N, R.res rfl⟩⟩
/-- the waiting value, from under what lies on it -/
theorem Rl.waits {K : Fg} {C : Ct} {N : AS} {σ : Sts} {ρ : Ev} {H : Hp} {us : List V} {fs : List D} {pv : V} {pd : D} {xs vs : List V} {es ds : List D} (hl : us.length = fs.length) (R : Rl K C N σ ρ H xs es (us ++ pv :: vs) (fs ++ pd :: ds)) : ∃ A, Rp K N H pd pv A := by
  obtain ⟨A, B1, B2, hA, h1, h2, d1, d2, ow⟩ := R.ex
  obtain ⟨B3, B4, r3, r4, _⟩ := h2.split hl.symm
  obtain ⟨v, vr, A1, A2, e, r1, _⟩ := r4
  cases e
  exact ⟨A1, r1⟩
/-- not a tuple, a tuple -/
def D.isTup : D → Bool
  | .tup _ => true
  | .fz .tpl _ => true
  | _ => false
theorem Rp.asL {K : Fg} {N : AS} {H : Hp} {d : D} {v : V} {A : AS} {zs : List D} (h : Rp K N H d v A) (e : d.seq = some zs) (nt : d.isTup = false) : ∃ a us B, v = .ref a ∧ SqL K H a us ∧ Rps K N H zs us B := by
  cases d with
  | tup ds => cases nt
  | lst ds => obtain ⟨a, us, ex, hs, _, r⟩ := h; cases e; exact ⟨a, us, _, ex, .inl (.inl hs), r⟩
  | frl ds => obtain ⟨a, us, ex, hs, r⟩ := h; cases e; exact ⟨a, us, _, ex, hs.sq, r⟩
  | own ds => obtain ⟨a, us, B, ex, hs, _, _, r⟩ := h; cases e; exact ⟨a, us, _, ex, .inl (.inl hs), r⟩
  | fz k ds =>
    cases k with
    | tpl => cases nt
    | _ => cases e
  | _ => cases e
theorem Rp.asT {K : Fg} {N : AS} {H : Hp} {d : D} {v : V} {A : AS} {zs : List D} (h : Rp K N H d v A) (e : d.seq = some zs) (nt : d.isTup = true) : ∃ a us, v = .ref a ∧ SqT K H a us ∧ Rps K N H zs us AS0 := by
  cases d with
  | tup ds => obtain ⟨a, us, ex, hs, r⟩ := h; cases e; exact ⟨a, us, ex, hs, r⟩
  | fz k ds =>
    cases k with
    | tpl => obtain ⟨a, us, ex, ⟨o, hs, _⟩, _, r⟩ := h; cases e; exact ⟨a, us, ex, .inl (.inr ⟨o, hs⟩), r⟩
    | _ => cases nt
  | _ => cases nt
theorem Rps.at {K : Fg} {N : AS} {H : Hp} {zs : List D} {us : List V} {A : AS} (r : Rps K N H zs us A) (hz : zs.all D.sh = true) {k : Nat} {z : D} (e : zs[k]? = some z) : ∃ x, us[k]? = some x ∧ Rp K N H z x AS0 := by
  obtain ⟨v, A1, h1, h2, _⟩ := r.get0 e
  exact ⟨v, h1, h2.share (List.all_eq_true.mp hz z (List.mem_of_getElem? e))⟩
theorem itd_list {K : Fg} {C : Ct} {a : Addr} {zs : List D} {pd : D} (e : pd.seq = some zs) (hz : zs.all D.sh = true) (nt : pd.isTup = false) : ItD K C (Itl K a) zs (.ref a) pd := by
  intro N σ ρ H us fs vs ds hl R
  obtain ⟨A, r⟩ := R.waits hl
  obtain ⟨a', ws, B, ea, hs, rr⟩ := r.asL e nt
  cases ea
  refine ⟨fun k z h => ?_, fun k h => ⟨ws, hs, by rw [← rr.length]; exact Nat.le_of_eq h.symm⟩⟩
  obtain ⟨x, h1, h2⟩ := rr.at hz h
  refine ⟨⟨ws, x, hs, h1⟩, fun y H' hy => ?_⟩
  obtain ⟨rfl, hy⟩ := hy
  have e2 := hy ws hs
  rw [h1] at e2
  cases e2
  exact ⟨N, R.res h2⟩
theorem itd_tup {K : Fg} {C : Ct} {a : Addr} {zs : List D} {pd : D} (e : pd.seq = some zs) (hz : zs.all D.sh = true) (nt : pd.isTup = true) : ItD K C (Itt K a) zs (.ref a) pd := by
  intro N σ ρ H us fs vs ds hl R
  obtain ⟨A, r⟩ := R.waits hl
  obtain ⟨a', ws, ea, hs, rr⟩ := r.asT e nt
  cases ea
  refine ⟨fun k z h => ?_, fun k h => ⟨ws, hs, by rw [← rr.length]; exact Nat.le_of_eq h.symm⟩⟩
  obtain ⟨x, h1, h2⟩ := rr.at hz h
  refine ⟨⟨ws, x, hs, h1⟩, fun y H' hy => ?_⟩
  obtain ⟨rfl, hy⟩ := hy
  have e2 := hy ws hs
  rw [h1] at e2
  cases e2
  exact ⟨N, R.res h2⟩
section
variable {X : Cx} {C : Ct} {a b c e tg iter elt : Expr} {es ifs : List Expr} {st : Stmt} {sts sts' : List Stmt} {ta tb tc te : TE} {Ta Tb Tc Te : XE} {tA tt : TT} {UA Ut : XT} {pos p p2 : Pos} {t u : TS} {S T : XS} {tr : TA} {Tr : XA} {sl : List (Option Nat)} {g : TG} {Tg : XG} {wi : TI} {Ti : XI}
/-- a list or a tuple walked -/
def iSeq (K : Fg) (tl : TE) : TI := fun σ H R => tl σ H fun x H1 => ∃ a, x = .ref a ∧ (((∃ xs, SqL K H1 a xs) ∧ R (Itl K a) H1) ∨ ((∃ xs, SqT K H1 a xs) ∧ R (Itt K a) H1))
theorem pi_seq {l : Expr} {tl : TE} (hl : PE X l tl) : PI X tg l (iSeq X.K tl) := by
  refine ⟨fun pins s σ H R I h => ?_⟩
  refine thn (hl.run pins s σ H _ I h) fun v s1 ⟨x, H1, I1, r1, q1⟩ => ?_
  obtain ⟨a, e, q1⟩ := q1
  subst e
  cases r1
  rcases q1 with ⟨⟨xs, hq⟩, q⟩ | ⟨⟨xs, hq⟩, q⟩
  · obtain ⟨its, rv, p, hz⟩ := I1.list hq
    refine wpAny_pyIter_list p.isList ?_
    refine ⟨s1.heap.objs.size, [s1.heap.objs.size], _, _, H1, rfl, I1.kept (t' := s1.toks) fun b o e => Heap.get?_push_of_some _ e, turn_list a _, ⟨_, Heap.get?_push_size _ rfl, rfl, rfl⟩, fun b hb => ?_, q⟩
    have e : b = s1.heap.objs.size := by simpa using hb
    subst e
    exact I1.fpOk (Nat.le_refl _) (I1.hok.fresh (Nat.le_refl _))
  · obtain ⟨its, rv, p, hz⟩ := I1.tuple hq
    refine wpAny_pyIter_tuple (show s1.heap.IsTuple a its.toArray from p) ?_
    refine ⟨s1.heap.objs.size, [s1.heap.objs.size], _, _, H1, rfl, I1.kept (t' := s1.toks) fun b o e => Heap.get?_push_of_some _ e, turn_tuple a _, ⟨_, Heap.get?_push_size _ rfl, rfl, rfl⟩, fun b hb => ?_, q⟩
    have e : b = s1.heap.objs.size := by simpa using hb
    subst e
    exact I1.fpOk (Nat.le_refl _) (I1.hok.fresh (Nat.le_refl _))
def xiSeq (T : XE) : XI := ⟨fun ρ Q => T.f ρ fun d ρ1 => ∃ zs, d.seq = some zs ∧ zs.all D.sh = true ∧ Q zs ρ1, fun m q => T.mono (fun _ _ h => by
  obtain ⟨zs, h1, h2, q⟩ := h
  exact ⟨zs, h1, h2, m _ _ q⟩) q⟩
theorem vi_seq (h : VE X C iter te Te) : VI X C tg iter (iSeq X.K te) (xiSeq Te) := by
  refine ⟨pi_seq h.pe, fun {N σ ρ H vs ds R'} R q => h.se R (Te.mono (fun d ρ1 h v N1 H1 R1 => ?_) q)⟩
  obtain ⟨zs, h1, h2, q⟩ := h
  obtain ⟨A, r⟩ := R1.top1
  by_cases ht : d.isTup = true
  · obtain ⟨a, us, rfl, hs, _⟩ := r.asT h1 ht
    exact ⟨a, rfl, .inr ⟨⟨us, hs⟩, q _ N1 H1 (.ref a) d R1.park (itd_tup h1 h2 ht)⟩⟩
  · have ht' : d.isTup = false := by cases e : d.isTup with | true => exact absurd e ht | false => rfl
    obtain ⟨a, us, B, rfl, hs, _⟩ := r.asL h1 ht'
    exact ⟨a, rfl, .inl ⟨⟨us, hs⟩, q _ N1 H1 (.ref a) d R1.park (itd_list h1 h2 ht')⟩⟩
def xiRng1 (T : XA) : XI := ⟨fun ρ Q => T.f ρ fun fs ρ1 => ∃ j : Int, fs = [.int j] ∧ -(2 ^ 62) ≤ j ∧ j < 2 ^ 62 ∧ Q (rngD 0 j.toNat) ρ1, fun m q => T.mono (fun _ _ h => by
  obtain ⟨j, h1, h2, h3, q⟩ := h
  exact ⟨j, h1, h2, h3, m _ _ q⟩) q⟩
theorem vi_rng1 (hg : Gl X "range") (hm : X.mg "range" = none) (ha : VA X C [a] sl tr Tr) (hs : starEach [a] X.env = [(false, eval a X.env)] := by rfl) : VI X C tg (.Call (.Name "range" p) [a] [] pos) (iRng1 tr) (xiRng1 Tr) := by
  refine ⟨pi_range1 hg hm ha.pa hs, fun {N σ ρ H vs ds R'} R q => ha.sa R (Tr.mono (fun fs ρ1 h xs N1 H1 R1 _ => ?_) q)⟩
  obtain ⟨j, rfl, h1, h2, q⟩ := h
  obtain ⟨x, A, rfl, hx⟩ := R1.one
  cases (show x = .int j from hx)
  exact ⟨j, rfl, h1, h2, q _ N1 H1 .non .non (R1.res (v := .non) (d := .non) rfl).park itd_range⟩
def xiRng2 (T : XA) : XI := ⟨fun ρ Q => T.f ρ fun fs ρ1 => ∃ i j : Int, fs = [.int i, .int j] ∧ (-(2 ^ 62) ≤ i ∧ i < 2 ^ 62 ∧ -(2 ^ 62) ≤ j ∧ j < 2 ^ 62) ∧ Q (rngD i (j - i).toNat) ρ1, fun m q => T.mono (fun _ _ h => by
  obtain ⟨i, j, h1, h2, q⟩ := h
  exact ⟨i, j, h1, h2, m _ _ q⟩) q⟩
theorem vi_rng2 (hg : Gl X "range") (hm : X.mg "range" = none) (ha : VA X C [a, b] sl tr Tr) (hs : starEach [a, b] X.env = [(false, eval a X.env), (false, eval b X.env)] := by rfl) (hs2 : starEach [b] X.env = [(false, eval b X.env)] := by rfl) : VI X C tg (.Call (.Name "range" p) [a, b] [] pos) (iRng2 tr) (xiRng2 Tr) := by
  refine ⟨pi_range2 hg hm ha.pa hs hs2, fun {N σ ρ H vs ds R'} R q => ha.sa R (Tr.mono (fun fs ρ1 h xs N1 H1 R1 _ => ?_) q)⟩
  obtain ⟨i, j, rfl, h1, q⟩ := h
  obtain ⟨x, y, A, B, rfl, hx, hy⟩ := R1.twoL
  cases (show x = .int i from hx)
  cases (show y = .int j from hy)
  exact ⟨i, j, rfl, h1, q _ N1 H1 .non .non (R1.res (v := .non) (d := .non) rfl).park itd_range⟩

/-! ### for -/
def xFor (I : XI) (U : XG) (S : XS) : XS := ⟨fun G ρ => I.f ρ fun zs ρ1 => ∃ J : Nat → Ev → Prop, J 0 ρ1 ∧ (∀ k z ρ, zs[k]? = some z → J k ρ → U.f z ρ fun ρ2 => S.f { nx := J (k + 1), ct := J (k + 1), bk := G.nx, rt := G.rt } ρ2) ∧ ∀ ρ, J zs.length ρ → G.nx ρ,
  fun {G G' ρ} l q => I.mono (fun _ _ h => by
    obtain ⟨J, h0, h1, h2⟩ := h
    exact ⟨J, h0, fun k z ρ e j => U.mono (fun _ h => S.mono (G := { nx := J (k + 1), ct := J (k + 1), bk := G.nx, rt := G.rt }) ⟨fun _ z => z, l.rt, l.nx, fun _ z => z⟩ h) (h1 k z ρ e j), fun ρ j => l.nx _ (h2 ρ j)⟩) q⟩
theorem vs_for (hp : PassesOwn (model X.prog X.w) X.A X.env X.xe) (hc : X.calm = true) (hi : VI X C tg iter wi Ti) (hg : VG X C tg g Tg) (hb : VB X C sts t S) (hs : ∀ x, foldedSetIterable iter X.env x = pure x := by intro _; rfl) : VS X C (.For tg iter sts [] pos) (tFor wi g t) (xFor Ti Tg S) := by
  refine ⟨ps_for hp hc hi.pi hg.pg hb.ps hs, fun {N σ ρ H vs ds E G} R q L => hi.si R (Ti.mono (fun zs ρ1 h J N1 H1 pv pd R1 itd => ?_) q)⟩
  obtain ⟨I, h0, h1, h2⟩ := h
  have out : ∀ {σ : Sts} {ρ : Ev} {H : Hp} {N : AS}, Rl X.K C N σ ρ H [] [] (pv :: vs) (pd :: ds) → G.nx ρ → E.nx σ H := fun R z => L.nx _ _ _ _ R.under z
  refine ⟨fun i m σ H => m = zs.length - i ∧ i ≤ zs.length ∧ ∃ N ρ, Rl X.K C N σ ρ H [] [] (pv :: vs) (pd :: ds) ∧ I i ρ, ⟨_, rfl, Nat.zero_le _, N1, ρ1, R1, h0⟩, ?_⟩
  rintro i m σ2 H2 ⟨rfl, hi', N2, ρ2, R2, j2⟩
  have it := itd (us := []) (fs := []) rfl R2
  by_cases hlt : i < zs.length
  · obtain ⟨go, yl⟩ := it.1 i zs[i] (List.getElem?_eq_getElem hlt)
    refine .inr ⟨go, fun σ' H' => ∃ N ρ, Rl X.K C N σ' ρ H' [] [] (pv :: vs) (pd :: ds) ∧ I (i + 1) ρ, fun σ' H' ⟨N', ρ', R', j'⟩ => ⟨zs.length - (i + 1), by omega, rfl, hlt, N', ρ', R', j'⟩, fun x H' hy => ?_⟩
    obtain ⟨N3, R3⟩ := yl x H' hy
    refine hg.sg R3 (Tg.mono (fun ρ4 h N4 σ4 H4 R4 => ?_) (h1 i zs[i] ρ2 (List.getElem?_eq_getElem hlt) j2))
    refine hb.ss R4 h ⟨fun σ ρ H N R z => ⟨N, ρ, R, z⟩, fun v d σ ρ H N R z => L.rt _ _ _ _ _ _ R.under z, fun σ ρ H N R z => out R z, fun σ ρ H N R z => ⟨N, ρ, R, z⟩⟩
  · have ei : i = zs.length := by omega
    subst ei
    exact .inl ⟨it.2 _ rfl, out R2 (h2 _ j2)⟩
/-! ### while -/
def xWhile (U : XT) (S : XS) : XS := ⟨fun G ρ => ∃ (J : Ev → Prop) (μ : Ev → Nat), J ρ ∧ ∀ ρ, J ρ → U.f ρ fun k ρ1 => (k = true → S.f { nx := fun ρ' => J ρ' ∧ μ ρ' < μ ρ, ct := fun ρ' => J ρ' ∧ μ ρ' < μ ρ, bk := G.nx, rt := G.rt } ρ1) ∧ (k = false → G.nx ρ1),
  fun {G G' _} l h => by
    obtain ⟨J, μ, h0, h1⟩ := h
    exact ⟨J, μ, h0, fun ρ j => U.mono (fun k ρ1 h => ⟨fun z => S.mono (G := { nx := fun ρ' => J ρ' ∧ μ ρ' < μ ρ, ct := fun ρ' => J ρ' ∧ μ ρ' < μ ρ, bk := G.nx, rt := G.rt }) ⟨fun _ z => z, l.rt, l.nx, fun _ z => z⟩ (h.1 z), fun z => l.nx _ (h.2 z)⟩) (h1 ρ j)⟩⟩
theorem vs_while (hp : PassesOwn (model X.prog X.w) X.A X.env X.xe) (hc : VT X C c tA UA) (hb : VB X C sts t S) : VS X C (.While c sts [] pos) (tWhile tA t) (xWhile UA S) := by
  refine ⟨ps_while hp hc.pt hb.ps, fun {N σ ρ H vs ds E G} R q L => ?_⟩
  obtain ⟨J, μ, h0, h1⟩ := q
  refine ⟨fun m σ H => ∃ N ρ, Rl X.K C N σ ρ H [] [] vs ds ∧ J ρ ∧ m = μ ρ, ⟨_, N, ρ, R, h0, rfl⟩, ?_⟩
  rintro m σ1 H1 ⟨N1, ρ1, R1, j1, rfl⟩
  refine hc.st R1 (UA.mono (fun k ρ2 h N2 H2 R2 => ?_) (h1 ρ1 j1))
  cases k with
  | true =>
    refine iteT ⟨fun σ' H' => ∃ N ρ, Rl X.K C N σ' ρ H' [] [] vs ds ∧ J ρ ∧ μ ρ < μ ρ1, fun σ' H' ⟨N', ρ', R', j', l'⟩ => ⟨_, l', N', ρ', R', j', rfl⟩, ?_⟩
    exact hb.ss R2 (h.1 rfl) ⟨fun σ ρ H N R z => ⟨N, ρ, R, z.1, z.2⟩, fun v d σ ρ H N R z => L.rt _ _ _ _ _ _ R z, fun σ ρ H N R z => L.nx _ _ _ _ R z, fun σ ρ H N R z => ⟨N, ρ, R, z.1, z.2⟩⟩
  | false => exact iteF (L.nx _ _ _ _ R2 (h.2 rfl))

/-! ### list comprehensions -/
def wipeD (ρ : Ev) : List Nat → Ev
  | [] => ρ
  | v :: vs => (wipeD ρ vs).set v none
/-- the places of a comprehension's own names that hold something that owns nothing: it holds again behind -/
def heldD (ρ : Ev) : List Nat → List (Nat × D)
  | [] => []
  | i :: is => match ρ[i]? with
    | some (some d) => if d.sh = true then (i, d) :: heldD ρ is else heldD ρ is
    | _ => heldD ρ is
def backD : List (Nat × D) → Ev → Ev
  | [], ρ => ρ
  | (i, d) :: l, ρ => backD l (ρ.set i (some d))
end
section
variable {K : Fg} {C : Ct} {N : AS} {σ : Sts} {ρ : Ev} {H : Hp} {xs vs : List V} {es ds : List D} {v : V} {d : D}
theorem Rl.wipe {us : List Nat} (hp : ∀ i ∈ us, ∀ p ∈ C.prot, p.1 ≠ i) (R : Rl K C N σ ρ H xs es vs ds) : Rl K C N (L2.wipe σ us) (wipeD ρ us) H xs es vs ds := by
  induction us with
  | nil => exact R
  | cons i is ih => exact (ih fun j hj => hp j (List.mem_cons_of_mem _ hj)).forget none (hp i List.mem_cons_self)
theorem set_get {α : Type} {l : List α} {i : Nat} {x : α} (e : l[i]? = some x) : l.set i x = l := by
  apply List.ext_getElem?
  intro j
  by_cases hj : i = j
  · subst hj
    rw [List.getElem?_set_self (List.getElem?_eq_some_iff.mp e).1, e]
  · rw [List.getElem?_set_ne hj]
theorem Rl.unwipe : ∀ {us : List Nat} {σ : Sts}, (∀ i ∈ us, ∀ p ∈ C.prot, p.1 ≠ i) → (∀ i ∈ us, ρ.set i none = ρ) → Rl K C N (L2.wipe σ us) ρ H xs es vs ds → Rl K C N σ ρ H xs es vs ds
  | [], σ, _, _, R => R
  | i :: is, σ, hp, hn, R => by
    refine Rl.unwipe (us := is) (fun j hj => hp j (List.mem_cons_of_mem _ hj)) (fun j hj => hn j (List.mem_cons_of_mem _ hj)) ?_
    have R2 : Rl K C N ((L2.wipe σ is).set i none) ρ H xs es vs ds := R
    cases e : (L2.wipe σ is)[i]? with
    | none =>
      have hl : (L2.wipe σ is).length ≤ i := List.getElem?_eq_none_iff.mp e
      rw [List.set_eq_of_length_le hl] at R2
      exact R2
    | some s =>
      have R3 := R2.forget (i := i) s (hp i List.mem_cons_self)
      rw [List.set_set, set_get e, hn i List.mem_cons_self] at R3
      exact R3
theorem wipeD_set {ρ : Ev} : ∀ {us : List Nat}, ∀ i ∈ us, (wipeD ρ us).set i none = wipeD ρ us
  | [], _, h => by cases h
  | j :: js, i, h => by
    show ((wipeD ρ js).set j none).set i none = (wipeD ρ js).set j none
    by_cases e : i = j
    · subst e
      rw [List.set_set]
    · have hi : i ∈ js := by
        rcases List.mem_cons.mp h with z | z
        · exact absurd z e
        · exact z
      rw [List.set_comm _ _ (fun z => e z.symm), wipeD_set i hi]
theorem wipe_set {σ : Sts} {x : Option V} : ∀ {us : List Nat} {i : Nat}, i ∈ us → L2.wipe (σ.set i x) us = L2.wipe σ us
  | [], _, h => by cases h
  | j :: js, i, h => by
    show (L2.wipe (σ.set i x) js).set j none = (L2.wipe σ js).set j none
    by_cases hi : i ∈ js
    · rw [wipe_set hi]
    · have e : i = j := by
        rcases List.mem_cons.mp h with z | z
        · exact z
        · exact absurd z hi
      subst e
      have hw : ∀ (l : List Nat), i ∉ l → L2.wipe (σ.set i x) l = (L2.wipe σ l).set i x := by
        intro l
        induction l with
        | nil => intro _; rfl
        | cons k ks ih =>
          intro hk
          have h1 : i ≠ k := fun z => hk (z ▸ List.mem_cons_self)
          show (L2.wipe (σ.set i x) ks).set k none = ((L2.wipe σ ks).set k none).set i x
          rw [ih fun z => hk (List.mem_cons_of_mem _ z), List.set_comm _ _ h1]
      rw [hw js hi, List.set_set]
theorem wipe_wipe {σ : Sts} {us : List Nat} : L2.wipe (L2.wipe σ us) us = L2.wipe σ us := by
  have h : ∀ (l : List Nat), (∀ i ∈ l, i ∈ us) → L2.wipe (L2.wipe σ l) us = L2.wipe σ us := by
    intro l
    induction l with
    | nil => intro _; rfl
    | cons k ks ih =>
      intro hk
      show L2.wipe ((L2.wipe σ ks).set k none) us = _
      rw [wipe_set (hk k List.mem_cons_self), ih fun i hi => hk i (List.mem_cons_of_mem _ hi)]
  exact h us fun _ z => z
/-- a value that owns nothing goes back to its slot, out of what waits -/
theorem Rl.giveU {i : Nat} (R : Rl K C N σ ρ H xs es (v :: vs) (d :: ds)) (e : σ[i]? = some (some v)) (hs : d.sh = true) : Rl K C N σ (ρ.set i (some d)) H xs es vs ds := by
  have R1 := R.under
  obtain ⟨A, B1, B2, hA, h1, h2, d1, d2, ow⟩ := R.ex
  obtain ⟨v', vr, A1, A2, ev, r1, r2, s1, s2, dj⟩ := h2
  cases ev
  have hl : i < ρ.length := by
    rw [hA.length]
    exact (List.getElem?_eq_some_iff.mp e).1
  have h0 : Sl K N H (ρ.set i none) σ A := by
    have q := hA.drop i (some v)
    rw [set_get e] at q
    exact q
  have h3 := (Sl.put h0 hl e (r1.share hs) fun x z => z.elim).up (A' := A) fun x z => z.elim (fun z => z) fun z => z.elim
  refine ⟨⟨A, B1, A2, h3, h1, r2, fun x q => ⟨(d1 x q).1, fun z => (d1 x q).2 (s2 x z)⟩, fun x q z => d2 x q (s2 x z), fun x q => ow x ?_⟩, R.nh, R.h0, R.n0, R.fr, R.xt, R.pr, R.dm⟩
  rcases q with q | q | q
  · exact .inl q
  · exact .inr (.inl q)
  · exact .inr (.inr (s2 x q))
def HeldAt (σ : Sts) : List (Nat × D) → List V → Prop
  | [], hv => hv = []
  | (i, d) :: l, hv => ∃ v r, hv = v :: r ∧ σ[i]? = some (some v) ∧ d.sh = true ∧ HeldAt σ l r
theorem Rl.hold : ∀ (us : List Nat), Rl K C N σ ρ H [] [] vs ds → ∃ hv, HeldAt σ (heldD ρ us) hv ∧ hv.length = ((heldD ρ us).map (·.2)).length ∧ Rl K C N σ ρ H [] [] (hv ++ vs) ((heldD ρ us).map (·.2) ++ ds)
  | [], R => ⟨[], rfl, rfl, R⟩
  | i :: is, R => by
    obtain ⟨hv, h1, h2, R1⟩ := Rl.hold is R
    unfold heldD
    cases e : ρ[i]? with
    | none => exact ⟨hv, h1, h2, R1⟩
    | some o =>
      cases o with
      | none => exact ⟨hv, h1, h2, R1⟩
      | some d =>
        by_cases hs : d.sh = true
        · obtain ⟨v, e1, r⟩ := R1.get e hs
          refine ⟨v :: hv, ?_, ?_, ?_⟩
          · show HeldAt σ (if d.sh = true then (i, d) :: heldD ρ is else heldD ρ is) (v :: hv)
            rw [if_pos hs]
            exact ⟨v, hv, rfl, e1, hs, h1⟩
          · show _ = ((if d.sh = true then (i, d) :: heldD ρ is else heldD ρ is).map (·.2)).length
            rw [if_pos hs, List.map_cons, List.length_cons, List.length_cons, h2]
          · show Rl K C N σ ρ H [] [] (v :: hv ++ vs) ((if d.sh = true then (i, d) :: heldD ρ is else heldD ρ is).map (·.2) ++ ds)
            rw [if_pos hs]
            exact (R1.res r).park
        · refine ⟨hv, ?_, ?_, ?_⟩
          · show HeldAt σ (if d.sh = true then (i, d) :: heldD ρ is else heldD ρ is) hv
            rw [if_neg hs]
            exact h1
          · show _ = ((if d.sh = true then (i, d) :: heldD ρ is else heldD ρ is).map (·.2)).length
            rw [if_neg hs]
            exact h2
          · show Rl K C N σ ρ H [] [] (hv ++ vs) ((if d.sh = true then (i, d) :: heldD ρ is else heldD ρ is).map (·.2) ++ ds)
            rw [if_neg hs]
            exact R1
theorem Rl.backs : ∀ {l : List (Nat × D)} {hv : List V} {ρ : Ev}, HeldAt σ l hv → Rl K C N σ ρ H xs es (hv ++ vs) (l.map (·.2) ++ ds) → Rl K C N σ (backD l ρ) H xs es vs ds
  | [], hv, ρ, h, R => by
    cases (show hv = [] from h)
    exact R
  | (i, d) :: l, hv, ρ, h, R => by
    obtain ⟨v, r, rfl, e, hs, h⟩ := h
    exact Rl.backs (l := l) h (R.giveU e hs)
end
/-- the target of a comprehension stores its own names alone -/
def GW (us : List Nat) (g : TG) : Prop := ∀ v σ H Q Q', (∀ σ2 H2, L2.wipe σ2 us = L2.wipe σ us → Q σ2 H2 → Q' σ2 H2) → g v σ H Q → g v σ H Q'
def GWs (us : List Nat) (g : TGs) : Prop := ∀ v σ H Q Q', (∀ σ2 H2, L2.wipe σ2 us = L2.wipe σ us → Q σ2 H2 → Q' σ2 H2) → g v σ H Q → g v σ H Q'
theorem gw_name {us : List Nat} {i : Nat} (h : i ∈ us := by decide) : GW us (gName i) := fun v σ H Q Q' m q => m _ _ (wipe_set h) q
theorem gw_nil {us : List Nat} : GWs us gNil := fun v σ H Q Q' m q => ⟨q.1, m _ _ rfl q.2⟩
theorem gw_cons {us : List Nat} {g : TG} {gs : TGs} (h1 : GW us g) (h2 : GWs us gs) : GWs us (gCons g gs) := fun vs σ H Q Q' m q => by
  obtain ⟨v, r, e, q⟩ := q
  exact ⟨v, r, e, h1 _ _ _ _ _ (fun σ2 H2 e2 q => h2 _ _ _ _ _ (fun σ3 H3 e3 q => m _ _ (e3.trans e2) q) q) q⟩
theorem gw_tup {us : List Nat} {K : Fg} {n : Nat} {gs : TGs} (h : GWs us gs) : GW us (gTup K n gs) := fun v σ H Q Q' m q => by
  obtain ⟨a, xs, e, hs, hl, q⟩ := q
  exact ⟨a, xs, e, hs, hl, h _ _ _ _ _ m q⟩
section
variable {X : Cx} {C : Ct} {a b c e tg iter elt : Expr} {es ifs : List Expr} {ta tb tc te : TE} {Ta Tb Tc Te : XE} {tA tt : TT} {UA Ut : XT} {pos p p2 : Pos} {g : TG} {Tg : XG} {wi : TI} {Ti : XI}
structure VTs (X : Cx) (C : Ct) (ifs : List Expr) (t : TT) (T : XT) : Prop where
  pt : PTs X ifs t
  st : ∀ {N : AS} {σ : Sts} {ρ : Ev} {H : Hp} {vs : List V} {ds : List D} {Q : Bool → Hp → Prop}, Rl X.K C N σ ρ H [] [] vs ds → T.f ρ (fun b ρ' => ∀ N' H', Rl X.K C N' σ ρ' H' [] [] vs ds → Q b H') → t σ H Q
def xYes : XT := ⟨fun ρ Q => Q true ρ, fun m q => m _ _ q⟩
theorem vts_nil : VTs X C [] tYes xYes := ⟨pts_nil, fun R q => q _ _ R⟩
theorem vts_one (h : VT X C c tA UA) : VTs X C [c] tA UA := ⟨pts_one h.pt, h.st⟩
def xLc (I : XI) (U : XG) (W : XT) (T : XE) (us : List Nat) : XE := ⟨fun ρ Q => I.f ρ fun zs ρ1 => ∃ J : Nat → List D → Ev → Prop, J 0 [] (wipeD ρ1 us) ∧
    (∀ k z acc ρ2, zs[k]? = some z → J k acc ρ2 → U.f z ρ2 fun ρ3 => W.f ρ3 fun b ρ4 => (b = true → T.f ρ4 fun d ρ5 => acc.length < sizeLine ∧ J (k + 1) (acc ++ [d]) (wipeD ρ5 us)) ∧ (b = false → J (k + 1) acc (wipeD ρ4 us))) ∧
    ∀ acc ρ', J zs.length acc ρ' → Q (.own acc) (backD (heldD ρ1 us) ρ'),
  fun m q => I.mono (fun _ _ h => by
    obtain ⟨J, h0, h1, h2⟩ := h
    exact ⟨J, h0, h1, fun acc ρ' j => m _ _ (h2 acc ρ' j)⟩) q⟩
theorem se_lc {K : Fg} {us : List Nat} {ios : List Nat} (hC : ∀ p ∈ C.prot, p.1 ∈ ios) (hu : ∀ i ∈ us, i ∉ ios) (hi : ∀ {N : AS} {σ : Sts} {ρ : Ev} {H : Hp} {vs : List V} {ds : List D} {R : It → Hp → Prop}, Rl K C N σ ρ H [] [] vs ds →
    Ti.f ρ (fun zs ρ' => ∀ J N' H' pv pd, Rl K C N' σ ρ' H' [] [] (pv :: vs) (pd :: ds) → ItD K C J zs pv pd → R J H') → wi σ H R)
    (hg : ∀ {N : AS} {σ : Sts} {ρ : Ev} {H : Hp} {v : V} {d : D} {vs : List V} {ds : List D} {Q : Sts → Hp → Prop}, Rl K C N σ ρ H [v] [d] vs ds → Tg.f d ρ (fun ρ' => ∀ N' σ' H', Rl K C N' σ' ρ' H' [] [] vs ds → Q σ' H') → g v σ H Q)
    (gw : GW us g) (ht : ∀ {N : AS} {σ : Sts} {ρ : Ev} {H : Hp} {vs : List V} {ds : List D} {Q : Bool → Hp → Prop}, Rl K C N σ ρ H [] [] vs ds → Ut.f ρ (fun b ρ' => ∀ N' H', Rl K C N' σ ρ' H' [] [] vs ds → Q b H') → tt σ H Q)
    (he : ∀ {N : AS} {σ : Sts} {ρ : Ev} {H : Hp} {vs : List V} {ds : List D} {Q : VK}, Rl K C N σ ρ H [] [] vs ds → Te.f ρ (fun d ρ' => ∀ v N' H', Rl K C N' σ ρ' H' [v] [d] vs ds → Q v H') → te σ H Q)
    {N : AS} {σ : Sts} {ρ : Ev} {H : Hp} {vs : List V} {ds : List D} {Q : VK} (R : Rl K C N σ ρ H [] [] vs ds) (q : (xLc Ti Tg Ut Te us).f ρ (fun d ρ' => ∀ v N' H', Rl K C N' σ ρ' H' [v] [d] vs ds → Q v H')) : tLc wi g tt te us σ H Q := by
  have hp : ∀ i ∈ us, ∀ p ∈ C.prot, p.1 ≠ i := fun i hi => notProt hC (hu i hi)
  refine hi R (Ti.mono (fun zs ρ1 h J N1 H1 pv pd R1 itd => ?_) q)
  obtain ⟨I, h0, h1, h2⟩ := h
  intro L nL
  obtain ⟨hv, ha, hl, R2⟩ := R1.hold us
  have R3 := ((R2.allocN (zs := []) (fs := []) nL rfl).park).wipe (us := us) hp
  refine ⟨fun i m H => m = zs.length - i ∧ i ≤ zs.length ∧ ∃ N acc ρ, Rl K C N (L2.wipe σ us) ρ H [] [] (.ref L :: hv ++ pv :: vs) (.own acc :: (heldD ρ1 us).map (·.2) ++ pd :: ds) ∧ (∀ i ∈ us, ρ.set i none = ρ) ∧ I i acc ρ,
    ⟨_, rfl, Nat.zero_le _, _, [], _, R3, fun i hi => wipeD_set i hi, h0⟩, ?_⟩
  rintro i m H2 ⟨rfl, hi', N2, acc, ρ2, R2, hn, j2⟩
  have it := itd (us := .ref L :: hv) (fs := .own acc :: (heldD ρ1 us).map (·.2)) (congrArg (· + 1) hl) R2
  by_cases hlt : i < zs.length
  · obtain ⟨go, yl⟩ := it.1 i zs[i] (List.getElem?_eq_getElem hlt)
    refine .inr ⟨go, fun H' => ∃ N acc ρ, Rl K C N (L2.wipe σ us) ρ H' [] [] (.ref L :: hv ++ pv :: vs) (.own acc :: (heldD ρ1 us).map (·.2) ++ pd :: ds) ∧ (∀ i ∈ us, ρ.set i none = ρ) ∧ I (i + 1) acc ρ,
      fun H' z => ⟨zs.length - (i + 1), by omega, rfl, hlt, z⟩, fun x H' hy => ?_⟩
    obtain ⟨N3, R3⟩ := yl x H' hy
    refine gw _ _ _ _ _ (fun σ2 H2 e2 z => ⟨by rw [e2, wipe_wipe], z.2 (by rw [e2, wipe_wipe])⟩) (hg (Q := fun σ2 H2 => True ∧ (L2.wipe σ2 us = L2.wipe σ us → tt σ2 H2 _)) R3 (Tg.mono (fun ρ4 h N4 σ4 H4 R4 => ⟨True.intro, fun e4 => ?_⟩) (h1 i zs[i] acc ρ2 (List.getElem?_eq_getElem hlt) j2)))
    refine ht R4 (Ut.mono (fun b ρ5 h N5 H5 R5 => ?_) h)
    cases b with
    | false =>
      refine iteF ⟨N5, acc, wipeD ρ5 us, ?_, fun i hi => wipeD_set i hi, h.2 rfl⟩
      have := R5.wipe (us := us) hp
      rw [e4] at this
      exact this
    | true =>
      refine iteT (he R5 (Te.mono (fun d ρ6 h y N6 H6 R6 => ?_) (h.1 rfl)))
      have R7 := R6.cons
      obtain ⟨a', us', B', e', ha', r'⟩ := R7.ownAt
      cases e'
      refine ⟨us', ha', by rw [← r'.length]; exact h.1, N6, acc ++ [d], wipeD ρ6 us, ?_, fun i hi => wipeD_set i hi, h.2⟩
      have := (R7.app ha').park.wipe (us := us) hp
      rw [e4] at this
      exact this
  · have ei : i = zs.length := by omega
    subst ei
    refine .inl ⟨it.2 _ rfl, h2 _ _ j2 _ N2 _ ?_⟩
    have R4 := (R2.unwipe hp hn).cons
    exact (Rl.backs ha R4).under
/-- a reading for each way to stand in the block -/
def allE (te : Shared → Hp → Addr → List (Str × Addr) → List Addr → TE) : TE := fun σ H Q => ∀ s H0 C' cl fp, te s H0 C' cl fp σ H Q
def allT (te : Shared → Hp → Addr → List (Str × Addr) → List Addr → TT) : TT := fun σ H Q => ∀ s H0 C' cl fp, te s H0 C' cl fp σ H Q
def allG (te : Shared → Hp → Addr → List (Str × Addr) → List Addr → TG) : TG := fun v σ H Q => ∀ s H0 C' cl fp, te s H0 C' cl fp v σ H Q
theorem gw_all {us : List Nat} {g : Shared → Hp → Addr → List (Str × Addr) → List Addr → TG} (h : ∀ s H C' cl fp, GW us (g s H C' cl fp)) : GW us (allG g) := fun v σ H Q Q' m q s H0 C' cl fp => h s H0 C' cl fp v σ H Q Q' m (q s H0 C' cl fp)
theorem pe_imp {X : Cx} {e : Expr} {t t' : TE} (h : PE X e t) (i : ∀ σ H Q, t' σ H Q → t σ H Q) : PE X e t' := ⟨fun pins s σ H Q I q => h.run pins s σ H Q I (i σ H Q q)⟩
theorem pts_imp {X : Cx} {e : List Expr} {t t' : TT} (h : PTs X e t) (i : ∀ σ H Q, t' σ H Q → t σ H Q) : PTs X e t' := ⟨fun pins s σ H Q I q => h.run pins s σ H Q I (i σ H Q q)⟩
theorem pg_imp {X : Cx} {e : Expr} {t t' : TG} (h : PG X e t) (i : ∀ v σ H Q, t' v σ H Q → t v σ H Q) : PG X e t' := ⟨fun pins s σ H v u Q I r q => h.run pins s σ H v u Q I r (i v σ H Q q)⟩
variable {eF : Shared → Hp → Addr → List (Str × Addr) → List Addr → TE} {tF : Shared → Hp → Addr → List (Str × Addr) → List Addr → TT} {gF : Shared → Hp → Addr → List (Str × Addr) → List Addr → TG}
theorem ve_lc {scope : Scope} {own : List (Str × Nat)} {ios : List Nat} (hc : X.calm = true) (hN : X.N.Nodup) (ok : BlkOk X.N X.env.scope scope own) (hC : ∀ p ∈ C.prot, p.1 ∈ ios) (hu : ∀ i ∈ own.map (·.2), i ∉ ios) (hi : VI X C tg iter wi Ti) (gw : ∀ (s : Shared) (H : Hp) (C' : Addr) (cl : List (Str × Addr)) (fp : List Addr), GW (own.map (·.2)) (gF s H C' cl fp))
    (hg : ∀ (s : Shared) (H : Hp) (C' : Addr) (cl : List (Str × Addr)) (fp : List Addr), VG (X.blk s H scope (compEnvC scope cl C' X.env) fp) C tg (gF s H C' cl fp) Tg) (ht : ∀ (s : Shared) (H : Hp) (C' : Addr) (cl : List (Str × Addr)) (fp : List Addr), VTs (X.blk s H scope (compEnvC scope cl C' X.env) fp) C ifs (tF s H C' cl fp) Ut)
    (he : ∀ (s : Shared) (H : Hp) (C' : Addr) (cl : List (Str × Addr)) (fp : List Addr), VE (X.blk s H scope (compEnvC scope cl C' X.env) fp) C elt (eF s H C' cl fp) Te) (hs : ∀ x, foldedSetIterable iter X.env x = pure x := by intro _; rfl)  :
    VE X C (.ListComp elt [⟨tg, iter, ifs, 0⟩] scope pos) (tLc wi (allG gF) (allT tF) (allE eF) (own.map (·.2))) (xLc Ti Tg Ut Te (own.map (·.2))) :=
  ⟨pe_lc hc hN hi.pi ok (fun s H C' cl fp => pg_imp (hg s H C' cl fp).pg fun v σ H2 Q z => z s H C' cl fp) (fun s H C' cl fp => pts_imp (ht s H C' cl fp).pt fun σ H2 Q z => z s H C' cl fp) (fun s H C' cl fp => pe_imp (he s H C' cl fp).pe fun σ H2 Q z => z s H C' cl fp) hs, fun R q =>
    se_lc hC hu (fun R => hi.si R) (fun R q s H C' cl fp => (hg s H C' cl fp).sg R q) (gw_all gw) (fun R q s H C' cl fp => (ht s H C' cl fp).st R q) (fun R q s H C' cl fp => (he s H C' cl fp).se R q) R q⟩
/-- name = [..] on one line -/
theorem vs_setLc {i : Nat} {y : Str} {py spos : Pos} {scope : Scope} {own : List (Str × Nat)} {ios : List Nat} (hc : X.calm = true) (hN : X.N.Nodup) (hy : X.N[i]? = some y) (hyl : X.env.scope.names.lookup y = some .local) (hsw : swapsWith (.ListComp elt [⟨tg, iter, ifs, 0⟩] scope pos) (some (.Name y py)) spos.line X.env = pure true)
    (ok : BlkOk X.N X.env.scope scope own) (hC : ∀ p ∈ C.prot, p.1 ∈ ios) (hu : ∀ i ∈ own.map (·.2), i ∉ ios) (hi : VI X C tg iter wi Ti) (gw : ∀ (s : Shared) (H : Hp) (C' : Addr) (cl : List (Str × Addr)) (fp : List Addr), GW (own.map (·.2)) (gF s H C' cl fp))
    (hg : ∀ (s : Shared) (H : Hp) (C' : Addr) (cl : List (Str × Addr)) (fp : List Addr), VG (X.blk s H scope (compEnvC scope cl C' X.env) fp) C tg (gF s H C' cl fp) Tg) (ht : ∀ (s : Shared) (H : Hp) (C' : Addr) (cl : List (Str × Addr)) (fp : List Addr), VTs (X.blk s H scope (compEnvC scope cl C' X.env) fp) C ifs (tF s H C' cl fp) Ut)
    (he : ∀ (s : Shared) (H : Hp) (C' : Addr) (cl : List (Str × Addr)) (fp : List Addr), VE (X.blk s H scope (compEnvC scope cl C' X.env) fp) C elt (eF s H C' cl fp) Te) (hio : i ∉ ios := by decide) (hs : ∀ x, foldedSetIterable iter X.env x = pure x := by intro _; rfl)  :
    VS X C (.Assign [.Name y py] (.ListComp elt [⟨tg, iter, ifs, 0⟩] scope pos) spos) (tAsg (tLc wi (allG gF) (allT tF) (allE eF) (own.map (·.2))) (gName i)) (xAsg (xLc Ti Tg Ut Te (own.map (·.2))) (xgName i)) :=
  ⟨ps_setLc hc hN hy hyl hsw hi.pi ok (fun s H C' cl fp => pg_imp (hg s H C' cl fp).pg fun v σ H2 Q z => z s H C' cl fp) (fun s H C' cl fp => pts_imp (ht s H C' cl fp).pt fun σ H2 Q z => z s H C' cl fp) (fun s H C' cl fp => pe_imp (he s H C' cl fp).pe fun σ H2 Q z => z s H C' cl fp) hs, fun {N σ ρ H vs ds E G} R q L =>
    se_lc hC hu (fun R => hi.si R) (fun R q s H C' cl fp => (hg s H C' cl fp).sg R q) (gw_all gw) (fun R q s H C' cl fp => (ht s H C' cl fp).st R q) (fun R q s H C' cl fp => (he s H C' cl fp).se R q) R
      ((xLc Ti Tg Ut Te (own.map fun p : Str × Nat => p.2)).mono (ρ := ρ) (Q := fun d ρ1 => G.nx (ρ1.set i (some d))) (fun d ρ1 h v N' H' R' => L.nx _ _ _ _ (R'.storeA (notProt hC hio)) h) q)⟩
/-- .. a list that nobody will change -/
theorem vs_setLcF {i : Nat} {y : Str} {py spos : Pos} {scope : Scope} {own : List (Str × Nat)} {ios : List Nat} (hc : X.calm = true) (hN : X.N.Nodup) (hy : X.N[i]? = some y) (hyl : X.env.scope.names.lookup y = some .local) (hsw : swapsWith (.ListComp elt [⟨tg, iter, ifs, 0⟩] scope pos) (some (.Name y py)) spos.line X.env = pure true)
    (ok : BlkOk X.N X.env.scope scope own) (hC : ∀ p ∈ C.prot, p.1 ∈ ios) (hu : ∀ i ∈ own.map (·.2), i ∉ ios) (hi : VI X C tg iter wi Ti) (gw : ∀ (s : Shared) (H : Hp) (C' : Addr) (cl : List (Str × Addr)) (fp : List Addr), GW (own.map (·.2)) (gF s H C' cl fp))
    (hg : ∀ (s : Shared) (H : Hp) (C' : Addr) (cl : List (Str × Addr)) (fp : List Addr), VG (X.blk s H scope (compEnvC scope cl C' X.env) fp) C tg (gF s H C' cl fp) Tg) (ht : ∀ (s : Shared) (H : Hp) (C' : Addr) (cl : List (Str × Addr)) (fp : List Addr), VTs (X.blk s H scope (compEnvC scope cl C' X.env) fp) C ifs (tF s H C' cl fp) Ut)
    (he : ∀ (s : Shared) (H : Hp) (C' : Addr) (cl : List (Str × Addr)) (fp : List Addr), VE (X.blk s H scope (compEnvC scope cl C' X.env) fp) C elt (eF s H C' cl fp) Te) (hio : i ∉ ios := by decide) (hs : ∀ x, foldedSetIterable iter X.env x = pure x := by intro _; rfl)  :
    VS X C (.Assign [.Name y py] (.ListComp elt [⟨tg, iter, ifs, 0⟩] scope pos) spos) (tAsg (tLc wi (allG gF) (allT tF) (allE eF) (own.map (·.2))) (gName i)) (xAsg (xFrz (xLc Ti Tg Ut Te (own.map (·.2)))) (xgName i)) :=
  ⟨ps_setLc hc hN hy hyl hsw hi.pi ok (fun s H C' cl fp => pg_imp (hg s H C' cl fp).pg fun v σ H2 Q z => z s H C' cl fp) (fun s H C' cl fp => pts_imp (ht s H C' cl fp).pt fun σ H2 Q z => z s H C' cl fp) (fun s H C' cl fp => pe_imp (he s H C' cl fp).pe fun σ H2 Q z => z s H C' cl fp) hs, fun {N σ ρ H vs ds E G} R q L =>
    se_lc hC hu (fun R => hi.si R) (fun R q s H C' cl fp => (hg s H C' cl fp).sg R q) (gw_all gw) (fun R q s H C' cl fp => (ht s H C' cl fp).st R q) (fun R q s H C' cl fp => (he s H C' cl fp).se R q) R
      ((xLc Ti Tg Ut Te (own.map fun p : Str × Nat => p.2)).mono (ρ := ρ) (Q := fun d ρ1 => (∀ ds, d = .own ds → ds.all D.sh = true ∧ G.nx (ρ1.set i (some (.lst ds)))) ∧ (d.sh = true → G.nx (ρ1.set i (some d))) ∧ (∀ k ds, d = .ob k ds → ds.all D.sh = true ∧ G.nx (ρ1.set i (some (.fz k ds))))) (fun d ρ1 h v N' H' R' => by
        obtain ⟨N2, R2⟩ := R'.frz
        by_cases hs : d.sh = true
        · rw [D.frz_sh hs] at R2
          exact L.nx _ _ _ _ (R2.storeA (notProt hC hio)) (h.2.1 hs)
        · cases d with
          | own ds =>
            obtain ⟨h1, h2⟩ := h.1 ds rfl
            have e : (D.own ds).frz = .lst ds := by
              show D.lst (D.frzs ds) = _
              rw [D.frzs_sh h1]
            rw [e] at R2
            exact L.nx _ _ _ _ (R2.storeA (notProt hC hio)) h2
          | ob k ds =>
            obtain ⟨h1, h2⟩ := h.2.2 k ds rfl
            have e : (D.ob k ds).frz = .fz k ds := by
              show D.fz k (D.frzs ds) = _
              rw [D.frzs_sh h1]
            rw [e] at R2
            exact L.nx _ _ _ _ (R2.storeA (notProt hC hio)) h2
          | _ => exact absurd rfl hs) q)⟩
end
end BV

/-! BV, part J: isinstance, products, in, slices, keywords, enumerate of tuples, places within owned lists. -/
namespace PySem
open Sem (wp)
set_option maxHeartbeats 1000000 in
theorem bv_meets_enum1 {v : Value} {o : Obj} {H : Heap → Prop} (B : Begins v o H) :
    Meets (Builtin.«enumerate.__new__» ⟨[.type "enumerate", v], []⟩) (fun _ R s => H s.heap ∧
      R (.ok (.ret (.ref (s.heap.push o).objs.size))) { s with heap := (s.heap.push o).push { cls := .type "enumerate", data := .fields #[.none, .bool false, .ref s.heap.objs.size, rawInt 0, .none, .none] } }) :=
  .of_wp fun prog w A R s h => by
    obtain ⟨hp, g, d, tk, os⟩ := s; obtain ⟨h1, h⟩ := h
    have hsub := sub_enumerate
    have q1 : ∀ {A' : Around} {E : Value → Shared → Prop} {Q : Value → Shared → Prop}, Q (.ref hp.objs.size) ⟨hp.push o, g, d, tk, os⟩ → wpAny (model prog w) A' (pyIter v) Q E ⟨hp, g, d, tk, os⟩ :=
      fun q => B.iter prog w _ _ ⟨hp, g, d, tk, os⟩ _ h1 q
    wp_walk using q1
    refine wpAny_stack_any fun st => wpAny_pure ?_
    split
    · rename_i c _ _ _ _ _
      cases (c == Value.type "enumerate")
      · wp_walk using q1
        exact ⟨_, rfl, h⟩
      · wp_walk using q1
        exact ⟨_, rfl, h⟩
    · wp_walk using q1
      exact ⟨_, rfl, h⟩
theorem bv_enum1 {prog : Program} {w : World} {A : Around} {E : Value → Shared → Prop} {s : Shared} {v : Value} {o : Obj} {H : Heap → Prop} {Q : Value → Shared → Prop} (B : Begins v o H) (h1 : H s.heap)
    (h : ∀ h', IsEnum h' (s.heap.objs.size + 1) s.heap.objs.size 0 .none → h'.get? s.heap.objs.size = some o → h'.objs.size = s.heap.objs.size + 2 →
      (∀ b o, s.heap.get? b = some o → h'.get? b = some o) → Q (.ref (s.heap.objs.size + 1)) { s with heap := h' }) :
    wpAny (model prog w) A (call (.type "enumerate") [v]) Q E s := by
  refine callType_new F.called_enumerate (by decide) (F.typeCall_enumerate_1 _) (F.newCall_enumerate_1 _) (fun obj => F.args_object_init_2 obj _) F.entry_enumerate_new
    (bv_meets_enum1 B) ⟨h1, ?_⟩
  have hz : (s.heap.push o).objs.size = s.heap.objs.size + 1 := Heap.size_push ..
  show _ ∧ _
  rw [hz]
  have he : IsEnum ((s.heap.push o).push { cls := .type "enumerate", data := .fields #[.none, .bool false, .ref s.heap.objs.size, rawInt 0, .none, .none] }) (s.heap.objs.size + 1) s.heap.objs.size 0 .none := by
    have := Heap.get?_push_size (s.heap.push o) (o := { cls := .type "enumerate", data := .fields #[.none, .bool false, .ref s.heap.objs.size, rawInt 0, .none, .none] }) rfl
    rw [hz] at this; exact this
  refine ⟨⟨_, he, rfl⟩, h _ he (Heap.get?_push_of_some _ (Heap.get?_push_size _ B.free)) (by rw [Heap.size_push, hz]) fun b o x => Heap.get?_push_of_some _ (Heap.get?_push_of_some _ x)⟩
end PySem
namespace BV
open PySem PySem.Spec PyProof.Rows L2

/-! ### enumerate(a tuple) -/
def IteT (K : Fg) (a : Addr) : It :=
  ⟨fun i H => ∃ (xs : List V) (x : V), SqT K H a xs ∧ xs[i]? = some x, fun i H v H' => ∃ T x, v = .ref T ∧ H T = none ∧ H' = upd H T (.tup [.int (i : Nat), x]) ∧ ∀ xs, SqT K H a xs → xs[i]? = some x, fun i H => ∃ xs : List V, SqT K H a xs ∧ xs.length = i⟩
theorem turn_enumT {P : Program} {w : World} {K : Fg} {elts : List Expr} {kk : Nat} {tpos : Pos} (a e it : Addr) :
    Turn P w K (.Tuple elts kk tpos) (IteT K a) [e, it] e (fun i h => (∃ old, IsEnum h e it ((i : Nat) : Int) old) ∧ h.IsTupleIter it a i ∧ e ≠ it) where
  mem := by simp
  obj := fun i h st b hb => by
    obtain ⟨⟨old, he⟩, ⟨o, ho, hc, hd⟩, _⟩ := st
    have e' : b = e ∨ b = it := by simpa using hb
    rcases e' with z | z
    · rw [z]; exact ⟨_, he, fun v q => nomatch q⟩
    · rw [z]; exact ⟨o, ho, fun v q => by rw [hd] at q; cases q⟩
  keep := fun i h h' st k => let ⟨⟨old, he⟩, hi, hne⟩ := st; ⟨⟨old, k e (by simp) _ he⟩, hi.at fun o q => k it (by simp) o q, hne⟩
  item := by
    intro X hP hw hK hc i pins s σ H E I hf st hg
    subst hP hw hK
    obtain ⟨⟨old, he⟩, hit, hne⟩ := st
    obtain ⟨xs, x, hq, hx⟩ := hg
    obtain ⟨its, rv, p, hz⟩ := I.tuple hq
    obtain ⟨u, hu, ru⟩ := rv.get hx
    have hel : e < s.heap.objs.size := Heap.lt_size he
    have hil : it < s.heap.objs.size := by obtain ⟨_, q, _⟩ := hit; exact Heap.lt_size q
    have nit : a ≠ it := fun z => by
      obtain ⟨o1, g1, c1, _⟩ := hit
      obtain ⟨o2, g2, c2, _⟩ := p
      rw [z, g1] at g2
      cases g2
      have c3 := c1.symm.trans c2
      injection c3 with c4
      exact absurd c4 (by decide)
    have nea : e ≠ a := fun z => by
      obtain ⟨o2, g2, c2, _⟩ := p
      have g1 : s.heap.get? e = some _ := he
      rw [z, g2] at g1
      cases g1
      injection c2 with c4
      exact absurd c4 (by decide)
    have hl := rv.length
    have hi' : i < xs.length := (List.getElem?_eq_some_iff.mp hx).1
    refine wpAny_pyNext_enum_itemC (Draws.tuple (A := X.A.in1) (show X.A.in1.handled = none from I.ok.hd hc) it a nit its.toArray) he ⟨hit, p⟩ (by simp; omega) hne (by simp; exact ⟨hne, nea⟩) fun u' h' tk hP ho hst hT hsz hk => ?_
    have hu' : u' = u := by
      have e1 : its[i]? = some u' := by simpa using hP
      rw [hu] at e1
      exact (Option.some.inj e1).symm
    subst hu'
    obtain ⟨hit', _⟩ := hst
    refine ⟨_, rfl, wpAny_letOwnedTupleGo_enum (s := { s with heap := h', toks := tk + 1 }) ho fun h'' he' sb => ?_⟩
    have hT2 : h''.get? s.heap.objs.size = some { cls := .type "tuple", data := .seq #[.int i tk, u'] } := (sb.2 _ (Nat.ne_of_gt hel)).trans hT
    have new : ObjOk X.prog X.w (upd H s.heap.objs.size (.tup [.int (i : Nat), x])) h'' s.heap.objs.size (.tup [.int (i : Nat), x]) :=
      ⟨by show 2 ≤ sizeLine; decide, [.int i tk, u'], .cons ⟨_, rfl⟩ (.cons ru .nil), ⟨_, hT2, rfl, _, rfl⟩⟩
    have I1 : Inv X pins σ (upd H s.heap.objs.size (.tup [.int (i : Nat), x])) { s with heap := h'', toks := tk + 1 } :=
      I.turnedNew (ch := [e, it]) (fun b ob hb q => (sb.2 b (fun z => hb (by simp [z]))).trans (hk b ob (fun z => hb (by simp [z])) (fun z => hb (by simp [z])) q)) hf (Nat.le_refl _) new
    refine ⟨.ref s.heap.objs.size, _, I1, rfl, ⟨_, x, rfl, I.hok.fresh (Nat.le_refl _), rfl, fun ys hy => by rw [I.tuple_inj hy hq]; exact hx⟩, ⟨⟨u', ?_⟩, hit'.at fun o q => (sb.2 it (Ne.symm hne)).trans q, hne⟩, fun b hb => ?_⟩
    · have e1 : ((i + 1 : Nat) : Int) = (i : Int) + 1 := by omega
      rw [e1]; exact he'
    · have hb' : b < s.heap.objs.size := by
        have e' : b = e ∨ b = it := by simpa using hb
        rcases e' with z | z
        · rw [z]; exact hel
        · rw [z]; exact hil
      rw [upd_ne (Nat.ne_of_lt hb')]
      exact (hf b hb).1
  done := by
    intro X hP hw hK hc i pins s σ H E I hf st hg
    subst hP hw hK
    obtain ⟨⟨old, he⟩, hit, hne⟩ := st
    obtain ⟨xs, hq, hx⟩ := hg
    obtain ⟨its, rv, p, hz⟩ := I.tuple hq
    obtain ⟨f0, f1, f2, f3, f4, f5⟩ := hf it (by simp)
    have hl := rv.length
    have nit : a ≠ it := fun z => by
      obtain ⟨o1, g1, c1, _⟩ := hit
      obtain ⟨o2, g2, c2, _⟩ := p
      rw [z, g1] at g2
      cases g2
      have c3 := c1.symm.trans c2
      injection c3 with c4
      exact absurd c4 (by decide)
    have ei : i = its.toArray.size := by simp; omega
    rw [ei] at hit
    exact wpAny_pyNext_enum_endD (Draws.tuple (A := X.A.in1) (show X.A.in1.handled = none from I.ok.hd hc) it a nit its.toArray) he ⟨hit, p⟩ fun h' eb => ⟨rfl, I.turned (t' := s.toks) (fun b o hb q => eb b o hb q) f0 f1 f3 f4 f5⟩
  self := fun A i s Q E st h => let ⟨⟨_, he⟩, _⟩ := st; wpAny_pyIter_enum he h
end BV

/-! BV, part K: enumerate; isinstance; products; in; slices; keywords; places within owned lists. -/
namespace BV
open PySem PySem.Spec PyProof.Rows L2
def enumD : Nat → List D → List D
  | _, [] => []
  | k, z :: zs => .tup [.int k, z] :: enumD (k + 1) zs
theorem enumD_length : ∀ (zs : List D) (k : Nat), (enumD k zs).length = zs.length
  | [], _ => rfl
  | _ :: zs, k => congrArg (· + 1) (enumD_length zs (k + 1))
theorem enumD_get : ∀ {zs : List D} {k i : Nat} {w : D}, (enumD k zs)[i]? = some w → ∃ z, zs[i]? = some z ∧ w = .tup [.int ((k + i : Nat) : Int), z]
  | [], _, _, _, h => by simp [enumD] at h
  | z :: zs, k, 0, w, h => by
    cases (show some (D.tup [.int k, z]) = some w from h)
    exact ⟨z, rfl, rfl⟩
  | z :: zs, k, i + 1, w, h => by
    obtain ⟨z', h1, h2⟩ := enumD_get (zs := zs) (k := k + 1) (i := i) (w := w) (by simpa [enumD] using h)
    exact ⟨z', by simpa using h1, by rw [h2]; congr 3; omega⟩
section
variable {X : Cx} {C : Ct} {a b c e tg iter elt : Expr} {es ifs : List Expr} {st : Stmt} {sts sts' : List Stmt} {ta tb tc te : TE} {Ta Tb Tc Te : XE} {tA tt : TT} {UA Ut : XT} {pos p p2 : Pos} {t u : TS} {S T : XS} {tr : TA} {Tr : XA} {sl : List (Option Nat)} {g : TG} {Tg : XG} {wi : TI} {Ti : XI}
def iEnumX (K : Fg) (ta : TA) : TI := fun σ H R => ta σ H fun vs H1 => ∃ a, vs = [.ref a] ∧ (((∃ xs, SqL K H1 a xs) ∧ R (Ite K a) H1) ∨ ((∃ xs, SqT K H1 a xs) ∧ R (IteT K a) H1))
theorem pi_enumX {elts : List Expr} {kk : Nat} {tpos : Pos} (hg : Gl X "enumerate") (hm : X.mg "enumerate" = none) (ha : PA X [e] tr) (hs : starEach [e] X.env = [(false, eval e X.env)] := by rfl) : PI X (.Tuple elts kk tpos) (.Call (.Name "enumerate" p) [e] [] pos) (iEnumX X.K tr) := by
  refine ⟨fun pins s σ H R I h => ?_⟩
  refine Call_ (ld_blt I hg hm boot_enumerate (PyProof.Rows.callWith_type1 (thn (ha.run pos pins s σ H _ I h) fun us s1 ⟨vs, H1, I1, r1, q1⟩ => ?_) hs rfl))
  obtain ⟨a, ex, q1⟩ := q1
  subst ex
  cases r1 with
  | cons r rr =>
    cases rr
    cases r
    rcases q1 with ⟨⟨xs, hq⟩, q⟩ | ⟨⟨xs, hq⟩, q⟩
    · obtain ⟨its, rv, p', hz⟩ := I1.list hq
      refine call_enumerate_list p'.isList fun h' he hit hsz hk => wpAny_pyIter_enum he ?_
      have I2 : Inv X pins σ H1 { s1 with heap := h' } := I1.kept (t' := s1.toks) hk
      refine ⟨s1.heap.objs.size + 1, [s1.heap.objs.size + 1, s1.heap.objs.size], _, _, H1, rfl, I2, turn_enum a (s1.heap.objs.size + 1) s1.heap.objs.size, ⟨⟨.none, he⟩, hit, Nat.succ_ne_self _⟩, fun b hb => ?_, q⟩
      have e' : b = s1.heap.objs.size + 1 ∨ b = s1.heap.objs.size := by simpa using hb
      have hle : s1.heap.objs.size ≤ b := by
        rcases e' with z | z
        · rw [z]; exact Nat.le_add_right _ _
        · rw [z]; exact Nat.le_refl _
      exact I1.fpOk hle (I1.hok.fresh hle)
    · obtain ⟨its, rv, p', hz⟩ := I1.tuple hq
      refine bv_enum1 (begins_tuple a its.toArray) p' fun h' he hit hsz hk => wpAny_pyIter_enum he ?_
      have I2 : Inv X pins σ H1 { s1 with heap := h' } := I1.kept (t' := s1.toks) hk
      refine ⟨s1.heap.objs.size + 1, [s1.heap.objs.size + 1, s1.heap.objs.size], _, _, H1, rfl, I2, turn_enumT a (s1.heap.objs.size + 1) s1.heap.objs.size, ⟨⟨.none, he⟩, ⟨_, hit, rfl, rfl⟩, Nat.succ_ne_self _⟩, fun b hb => ?_, q⟩
      have e' : b = s1.heap.objs.size + 1 ∨ b = s1.heap.objs.size := by simpa using hb
      have hle : s1.heap.objs.size ≤ b := by
        rcases e' with z | z
        · rw [z]; exact Nat.le_add_right _ _
        · rw [z]; exact Nat.le_refl _
      exact I1.fpOk hle (I1.hok.fresh hle)
theorem itd_enum {K : Fg} {a : Addr} {zs : List D} {pd : D} (e : pd.seq = some zs) (hz : zs.all D.sh = true) (nt : pd.isTup = false) : ItD K C (Ite K a) (enumD 0 zs) (.ref a) pd := by
  intro N σ ρ H us fs vs ds hl R
  obtain ⟨A, r⟩ := R.waits hl
  obtain ⟨a', ws, B, ea, hs, rr⟩ := r.asL e nt
  cases ea
  refine ⟨fun k z h => ?_, fun k h => ⟨ws, hs, by rw [← rr.length, h, enumD_length]; exact Nat.le_refl _⟩⟩
  obtain ⟨z', h1, rfl⟩ := enumD_get h
  obtain ⟨x, h2, h3⟩ := rr.at hz h1
  refine ⟨⟨ws, x, hs, h2⟩, fun y H' hy => ?_⟩
  obtain ⟨T, x', rfl, nT, rfl, hy⟩ := hy
  have e2 := hy ws hs
  rw [h2] at e2
  cases e2
  refine ⟨N, R.newTup nT (.cons0 ?_ (.cons0 h3 rfl))⟩
  show V.int _ = V.int _
  rw [Nat.zero_add]
theorem itd_enumT {K : Fg} {a : Addr} {zs : List D} {pd : D} (e : pd.seq = some zs) (hz : zs.all D.sh = true) (nt : pd.isTup = true) : ItD K C (IteT K a) (enumD 0 zs) (.ref a) pd := by
  intro N σ ρ H us fs vs ds hl R
  obtain ⟨A, r⟩ := R.waits hl
  obtain ⟨a', ws, ea, hs, rr⟩ := r.asT e nt
  cases ea
  refine ⟨fun k z h => ?_, fun k h => ⟨ws, hs, by rw [← rr.length, h, enumD_length]⟩⟩
  obtain ⟨z', h1, rfl⟩ := enumD_get h
  obtain ⟨x, h2, h3⟩ := rr.at hz h1
  refine ⟨⟨ws, x, hs, h2⟩, fun y H' hy => ?_⟩
  obtain ⟨T, x', rfl, nT, rfl, hy⟩ := hy
  have e2 := hy ws hs
  rw [h2] at e2
  cases e2
  refine ⟨N, R.newTup nT (.cons0 ?_ (.cons0 h3 rfl))⟩
  show V.int _ = V.int _
  rw [Nat.zero_add]
def xiEnum (T : XA) : XI := ⟨fun ρ Q => T.f ρ fun fs ρ1 => ∃ d zs, fs = [d] ∧ d.seq = some zs ∧ zs.all D.sh = true ∧ Q (enumD 0 zs) ρ1, fun m q => T.mono (fun _ _ h => by
  obtain ⟨d, zs, h1, h2, h3, q⟩ := h
  exact ⟨d, zs, h1, h2, h3, m _ _ q⟩) q⟩
theorem vi_enum {elts : List Expr} {kk : Nat} {tpos : Pos} (hg : Gl X "enumerate") (hm : X.mg "enumerate" = none) (ha : VA X C [e] sl tr Tr) (hs : starEach [e] X.env = [(false, eval e X.env)] := by rfl) : VI X C (.Tuple elts kk tpos) (.Call (.Name "enumerate" p) [e] [] pos) (iEnumX X.K tr) (xiEnum Tr) := by
  refine ⟨pi_enumX hg hm ha.pa hs, fun {N σ ρ H vs ds R'} R q => ha.sa R (Tr.mono (fun fs ρ1 h xs N1 H1 R1 _ => ?_) q)⟩
  obtain ⟨d, zs, rfl, h1, h2, q⟩ := h
  obtain ⟨x, A, rfl, r⟩ := R1.one
  by_cases ht : d.isTup = true
  · obtain ⟨a, us, rfl, hs, _⟩ := r.asT h1 ht
    exact ⟨a, rfl, .inr ⟨⟨us, hs⟩, q _ N1 H1 (.ref a) d R1.park (itd_enumT h1 h2 ht)⟩⟩
  · have ht' : d.isTup = false := by cases e : d.isTup with | true => exact absurd e ht | false => rfl
    obtain ⟨a, us, B, rfl, hs, _⟩ := r.asL h1 ht'
    exact ⟨a, rfl, .inl ⟨⟨us, hs⟩, q _ N1 H1 (.ref a) d R1.park (itd_enum h1 h2 ht')⟩⟩

/-! ### isinstance(x, T), T a built-in type -/
def D.tn : D → String
  | .non => "NoneType"
  | .bl _ => "bool"
  | .int _ => "int"
  | .str _ => "str"
  | .tup _ => "tuple"
  | .lst _ => "list"
  | .frl _ => "list"
  | .own _ => "list"
  | .fz .tpl _ => "tuple"
  | .fz _ _ => "object"
  | .ob _ _ => "object"
/-- a dict, an object -/
def D.kd : D → Bool
  | .fz .tpl _ => false
  | .fz _ _ => true
  | .ob _ _ => true
  | _ => false
def xIsi (g : D → Bool) (A : XE) : XE := ⟨fun ρ Q => A.f ρ fun d ρ1 => d.kd = false ∧ Q (.bl (g d)) ρ1, fun m q => A.mono (fun _ _ h => ⟨h.1, m _ _ h.2⟩) q⟩
theorem D.tn_ok {K : Fg} {N : AS} {H : Hp} {d : D} {v : V} {A : AS} (hd : d.kd = false) (h : Rp K N H d v A) : TyX K H v (.type d.tn) := by
  cases d with
  | non => cases (show v = .non from h); exact .base .non
  | bl b => cases (show v = .bl b from h); exact .base (.bl b)
  | int b => cases (show v = .int b from h); exact .base (.int b)
  | str b => cases (show v = .str b from h); exact .base (.str b)
  | tup b =>
    obtain ⟨a, vs, rfl, hs, _⟩ := h
    rcases hs with (hs | ⟨o, hs⟩) | ⟨o, its, n, hk, hc, _⟩
    · exact .base (.tup hs)
    · exact .fTuple hs
    · exact .kTuple hk hc
  | lst b => obtain ⟨a, vs, rfl, hs, _⟩ := h; exact .base (.lst hs)
  | frl b =>
    obtain ⟨a, vs, rfl, hs, _⟩ := h
    rcases hs with ⟨hs | ⟨o, hs⟩, _⟩ | ⟨o, its, n, hk, hc, _⟩
    · exact .base (.lst hs)
    · exact .base (.frz hs)
    · exact .kList hk hc
  | own b => obtain ⟨a, vs, B, rfl, hs, _⟩ := h; exact .base (.lst hs)
  | fz k _ =>
    cases k with
    | tpl =>
      obtain ⟨a, vs, rfl, ⟨o, hs, _⟩, _⟩ := h
      exact .fTuple hs
    | _ => cases hd
  | ob _ _ => cases hd
theorem ve_isi {g : D → Bool} {U : String} (hk : ∀ d : D, d.kd = false → kitB d.tn U = some (g d)) (ha : VE X C a ta Ta) (hg : Gl X "isinstance") (hm : X.mg "isinstance" = none) (hb : PE X b (tC (.ty U)))
    (he : starEach [a, b] X.env = (false, eval a X.env) :: starEach [b] X.env := by rfl) (he2 : starEach [b] X.env = (false, eval b X.env) :: starEach [] X.env := by rfl) (hpl : (backTo pos (starEach [b] X.env)).any (·.1) = false := by rfl) :
    VE X C (.Call (.Name "isinstance" p) [a, b] [] pos) (tCB (rIsi X.K) (tCons ta (tCons (tC (.ty U)) tNil))) (xIsi g Ta) := by
  refine ⟨pe_callB call_isi hg hm (by decide +kernel) (pa_cons ha.pe (pa_cons hb pa_nil he2) he) (by decide) (by decide) he hpl, fun R q => ha.se R (Ta.mono (fun d ρ1 h v N1 H1 R1 => ?_) q)⟩
  obtain ⟨A, r⟩ := R1.top1
  exact ⟨v, .ty U, _, _, g d, rfl, .ty U, D.tn_ok h.1 r, kit_ty (hk d h.1), h.2 _ _ _ (R1.res rfl)⟩
def D.isInt : D → Bool
  | .int _ => true
  | .bl _ => true
  | _ => false
def D.isBl : D → Bool
  | .bl _ => true
  | _ => false
def D.isStr : D → Bool
  | .str _ => true
  | _ => false
def D.isLst : D → Bool
  | .lst _ => true
  | .frl _ => true
  | .own _ => true
  | _ => false
theorem D.tn_mem (d : D) (hd : d.kd = false) : d.tn ∈ ["NoneType", "bool", "int", "str", "tuple", "list"] := by
  cases d with
  | fz k xs => cases k <;> first | (simp [D.tn]; done) | cases hd
  | _ => first | (simp [D.tn]; done) | cases hd
theorem kit_tab {U : String} {f : String → Bool} (h : (["NoneType", "bool", "int", "str", "tuple", "list"].all fun s => decide (kitB s U = some (f s))) = true) (d : D) (hd : d.kd = false) : kitB d.tn U = some (f d.tn) := of_decide_eq_true (List.all_eq_true.mp h _ (d.tn_mem hd))
theorem kit_int (d : D) (hd : d.kd = false) : kitB d.tn "int" = some d.isInt := by
  rw [kit_tab (f := fun s => s == "bool" || s == "int") (by decide +kernel) d hd]
  cases d with
  | fz k xs => cases k <;> first | rfl | cases hd
  | _ => first | rfl | cases hd
theorem kit_bl (d : D) (hd : d.kd = false) : kitB d.tn "bool" = some d.isBl := by
  rw [kit_tab (f := fun s => s == "bool") (by decide +kernel) d hd]
  cases d with
  | fz k xs => cases k <;> first | rfl | cases hd
  | _ => first | rfl | cases hd
theorem kit_str (d : D) (hd : d.kd = false) : kitB d.tn "str" = some d.isStr := by
  rw [kit_tab (f := fun s => s == "str") (by decide +kernel) d hd]
  cases d with
  | fz k xs => cases k <;> first | rfl | cases hd
  | _ => first | rfl | cases hd
theorem kit_tup (d : D) (hd : d.kd = false) : kitB d.tn "tuple" = some d.isTup := by
  rw [kit_tab (f := fun s => s == "tuple") (by decide +kernel) d hd]
  cases d with
  | fz k xs => cases k <;> first | rfl | cases hd
  | _ => first | rfl | cases hd
theorem kit_lst (d : D) (hd : d.kd = false) : kitB d.tn "list" = some d.isLst := by
  rw [kit_tab (f := fun s => s == "list") (by decide +kernel) d hd]
  cases d with
  | fz k xs => cases k <;> first | rfl | cases hd
  | _ => first | rfl | cases hd
end

/-! ### products -/
theorem op_repT2 {X : Cx} : OpR X (binaryOp .Mult) (fun x y H Q => ∃ l k xs, x = .ref l ∧ y = .int k ∧ SqT X.K H l xs ∧ xs ≠ [] ∧ 2 ≤ k ∧ k < 2 ^ 30 ∧ xs.length * k.toNat ≤ 10000000 ∧ ∀ p, H p = none → Q (.ref p) (upd H p (.tup (List.replicate k.toNat xs).flatten))) := by
  intro pins s σ H x y v u Q I rx ry h
  obtain ⟨l, k, xs, rfl, rfl, hT, hne, h1, h2, hz, q⟩ := h
  cases rx
  obtain ⟨t, rfl⟩ := ry
  obtain ⟨its, r, ⟨⟨cls, dd, data, sl⟩, ho, hc, n, hd⟩, hs⟩ := I.tuple hT
  simp only at hc hd
  subst hc hd
  have hle : its.length = xs.length := r.length.symm
  have hn : its ≠ [] := fun e => hne (by
    rw [e] at hle
    exact List.eq_nil_of_length_eq_zero hle.symm)
  have hi : its.toArray.isEmpty = false := by
    cases its with
    | nil => exact absurd rfl hn
    | cons a b => rfl
  have hsz0 : its.toArray.size = xs.length := by rw [List.size_toArray, hle]
  have hm : ((its.toArray.size : Nat) : Int) * k ≤ 10000000 := by
    rw [hsz0]
    have e1 : ((xs.length : Nat) : Int) * k = ((xs.length * k.toNat : Nat) : Int) := by
      rw [Int.natCast_mul, Int.toNat_of_nonneg (by omega)]
    rw [e1]
    exact Int.ofNat_le.mpr hz
  have flen : (List.replicate k.toNat its).flatten.length ≤ sizeLine := by
    rw [PyProof.Rows.lm_len_rep_flat, hle, sizeLine_eq, Nat.mul_comm]
    omega
  have c0 : (decide (k < -(2 ^ 63)) || decide (k ≥ 2 ^ 63)) = false := by
    rw [decide_eq_false (by omega), decide_eq_false (by omega)] <;> rfl
  have c1 : (its.toArray.isEmpty || k == 1) = false := by
    rw [hi, Bool.false_or]
    exact beq_eq_false_iff_ne.mpr (by omega)
  have c2 : (decide (k ≤ 0) || its.toArray.isEmpty) = false := by
    rw [hi, Bool.or_false]
    exact decide_eq_false (by omega)
  have c4 : Builtin.Tuple.tupleTooMany (((its.toArray.size : Nat) : Int) * k) = false := by
    unfold Builtin.Tuple.tupleTooMany
    rw [sizeLine_eq]
    exact decide_eq_false (by omega)
  refine wpAny_binaryOp_repeat_ref (T := "tuple") (U := "int") (by decide) ⟨_, ho, rfl⟩ (fun s' => typeIs_int s' k t) noFill_tuple_mul F.fills_int_mul F.slot_int_rmul repeat_tuple F.slot_int_index.lookup
    (call_meets F.slot_int_rmul (typeIs_int s k t) F.entry_int_rmul (F.args_int_rmul_2 _ _) (int_rmul_tuple k t l its.toArray n dd sl)
      ⟨ho, rfl, ⟨_, ho, rfl⟩, call_meets F.slot_tuple_mul ⟨_, ho, rfl⟩ F.entry_tuple_mul (F.args_tuple_mul_2 _ _) (tuple_mulW l its.toArray n dd sl k t c0 c1 c2 (by omega) c4 (by rw [size_rep, List.size_toArray]; exact flen)) ⟨ho, ?_⟩⟩)
  rw [size_rep]
  refine ⟨.ref s.heap.objs.size, _, I.laid (t' := s.toks) (o := .tup (List.replicate k.toNat xs).flatten) (fun b ob q => Heap.get?_push_of_some _ q) (Nat.le_refl _) ?_, rfl, q _ (I.hok.fresh (Nat.le_refl _))⟩
  exact ⟨by rw [PyProof.Rows.lm_len_rep_flat, sizeLine_eq, Nat.mul_comm]; omega, _, r.rep k.toNat, IsTup.new _ _⟩
/-- products that the model lets: not too long together, or one short factor -/
def CMulV : Int → Int → Prop := fun i j => i.natAbs.log2 + j.natAbs.log2 < 1000000 ∨ i.natAbs.log2 < 64 ∨ j.natAbs.log2 < 64
instance (i j : Int) : Decidable (CMulV i j) := inferInstanceAs (Decidable (_ ∨ _ ∨ _))
theorem short_bits {j : Int} (h : j.natAbs.log2 < 64) : ¬ Builtin.Int.intBits j > shortFactorBits := by
  unfold Builtin.Int.intBits shortFactorBits
  split <;> omega
theorem CMulV.ok {i j : Int} (h : CMulV i j) : IntMulOk i j := by
  rcases h with h | h | h
  · exact CMulW.ok h
  · intro e
    rw [Bool.and_eq_true, Bool.and_eq_true] at e
    exact short_bits h (of_decide_eq_true e.1.1)
  · intro e
    rw [Bool.and_eq_true, Bool.and_eq_true] at e
    exact short_bits h (of_decide_eq_true e.1.2)
theorem op_mulV {X : Cx} : OpR X (binaryOp .Mult) (rI CMulV fun i j => .int (i * j)) := opI fun _ _ _ _ _ _ _ hc q => mul_int q (CMulV.ok hc)
/-- * : whole numbers; a tuple many times; a list many times -/
def mulD : D → D → Option D
  | .int i, .int j => if CMulV i j then some (.int (i * j)) else none
  | .tup xs, .int k => if xs ≠ [] ∧ 2 ≤ k ∧ k < 2 ^ 30 ∧ xs.length * k.toNat ≤ 10000000 then some (.tup (List.replicate k.toNat xs).flatten) else none
  | .own xs, .int k => if -(2 ^ 63) ≤ k ∧ k < 2 ^ 63 ∧ xs.length * k.toNat ≤ sizeLine ∧ xs.all D.sh = true then some (.own (List.replicate k.toNat xs).flatten) else none
  | .lst xs, .int k => if -(2 ^ 63) ≤ k ∧ k < 2 ^ 63 ∧ xs.length * k.toNat ≤ sizeLine then some (.own (List.replicate k.toNat xs).flatten) else none
  | _, _ => none
def rMulX (K : Fg) : R2 := fun x y H Q => ((rI CMulV fun i j => .int (i * j)) x y H Q) ∨ ((fun x y H Q => ∃ l k xs, x = .ref l ∧ y = .int k ∧ SqT K H l xs ∧ xs ≠ [] ∧ 2 ≤ k ∧ k < 2 ^ 30 ∧ xs.length * k.toNat ≤ 10000000 ∧ ∀ p, H p = none → Q (.ref p) (upd H p (.tup (List.replicate k.toNat xs).flatten))) x y H Q) ∨ rRep x y H Q
theorem op_mulX {X : Cx} : OpR X (binaryOp .Mult) (rMulX X.K) := op_mulV.or (op_repT2.or op_rep)
theorem bop_mul {K : Fg} : BopR K (rMulX K) mulD := by
  intro C N σ ρ H x y vs d e ds z Q R h q
  obtain ⟨A, B, hd, he⟩ := R.two
  unfold mulD at h
  split at h
  · split at h
    · rename_i hz
      cases h
      exact .inl ⟨_, _, hd, he, hz, q _ N H (R.res rfl)⟩
    · cases h
  · split at h
    · rename_i hz
      cases h
      obtain ⟨a, us, rfl, ha, r1⟩ := hd
      obtain ⟨h1, h2, h3, h4⟩ := hz
      refine .inr (.inl ⟨a, _, us, rfl, he, ha, fun e0 => h1 (List.eq_nil_of_length_eq_zero (by rw [r1.length, e0]; rfl)), h2, h3, by rw [← r1.length]; exact h4, fun p np => q _ _ _ (R.newTup np (r1.reps0 _))⟩)
    · cases h
  · split at h
    · rename_i hz
      cases h
      obtain ⟨a, us, B', rfl, ha, _, _, r1⟩ := hd
      obtain ⟨h1, h2, h3, h4⟩ := hz
      exact .inr (.inr ⟨a, _, us, rfl, he, ha, h1, h2, by rw [← r1.length]; exact h3, fun p np => q _ _ _ (R.allocN np ((r1.share h4).reps0 _))⟩)
    · cases h
  · split at h
    · rename_i hz
      cases h
      obtain ⟨a, us, rfl, ha, _, r1⟩ := hd
      obtain ⟨h1, h2, h3⟩ := hz
      exact .inr (.inr ⟨a, _, us, rfl, he, ha, h1, h2, by rw [← r1.length]; exact h3, fun p np => q _ _ _ (R.allocN np (r1.reps0 _))⟩)
    · cases h
  · cases h

/-! ### in -/
def D.flat : D → Bool
  | .non => true
  | .bl _ => true
  | .int _ => true
  | .str _ => true
  | _ => false
def eqF : D → D → Bool
  | .non, .non => true
  | .bl a, .bl b => a == b
  | .bl a, .int b => (if a then 1 else 0) == b
  | .int a, .bl b => a == (if b then 1 else 0)
  | .int a, .int b => a == b
  | .str a, .str b => a == b
  | _, _ => false
def inF (x : D) (xs : List D) : Bool := xs.any fun y => eqF y x
theorem flat_ok {K : Fg} {N : AS} {H : Hp} {d : D} {v : V} {A : AS} (h : Rp K N H d v A) (f : d.flat = true) : flatV v = true := by
  cases d with
  | non => cases (show v = .non from h); rfl
  | bl b => cases (show v = .bl b from h); rfl
  | int b => cases (show v = .int b from h); rfl
  | str b => cases (show v = .str b from h); rfl
  | _ => cases f
theorem eqF_ok {K : Fg} {N : AS} {H : Hp} {d e : D} {v w : V} {A B : AS} (h : Rp K N H d v A) (h' : Rp K N H e w B) (f : d.flat = true) (f' : e.flat = true) : eqV v w = eqF d e := by
  cases d with
  | non => cases (show v = .non from h); cases e with
    | non => cases (show w = .non from h'); rfl
    | bl b => cases (show w = .bl b from h'); rfl
    | int b => cases (show w = .int b from h'); rfl
    | str b => cases (show w = .str b from h'); rfl
    | _ => cases f'
  | bl b => cases (show v = .bl b from h); cases e with
    | non => cases (show w = .non from h'); rfl
    | bl b => cases (show w = .bl b from h'); rfl
    | int b => cases (show w = .int b from h'); rfl
    | str b => cases (show w = .str b from h'); rfl
    | _ => cases f'
  | int b => cases (show v = .int b from h); cases e with
    | non => cases (show w = .non from h'); rfl
    | bl b => cases (show w = .bl b from h'); rfl
    | int b => cases (show w = .int b from h'); rfl
    | str b => cases (show w = .str b from h'); rfl
    | _ => cases f'
  | str b => cases (show v = .str b from h); cases e with
    | non => cases (show w = .non from h'); rfl
    | bl b => cases (show w = .bl b from h'); rfl
    | int b => cases (show w = .int b from h'); rfl
    | str b => cases (show w = .str b from h'); rfl
    | _ => cases f'
  | _ => cases f
theorem inF_ok {K : Fg} {N : AS} {H : Hp} {d : D} {v : V} {A : AS} (h : Rp K N H d v A) (f : d.flat = true) : ∀ {es : List D} {us : List V} {B : AS}, Rps K N H es us B → es.all D.flat = true → us.all flatV = true ∧ inV v us = inF d es
  | [], _, _, r, _ => by
    cases (show _ = [] from r)
    exact ⟨rfl, rfl⟩
  | e :: es, _, _, r, g => by
    obtain ⟨w, wr, A1, A2, rfl, r1, r2, _⟩ := r
    rw [List.all_cons, Bool.and_eq_true] at g
    obtain ⟨h1, h2⟩ := inF_ok h f r2 g.2
    refine ⟨by rw [List.all_cons, flat_ok r1 g.1, h1]; rfl, ?_⟩
    show (eqV w v || inV v wr) = (eqF e d || inF d es)
    rw [eqF_ok r1 h g.1 f, h2]
def inD (neg : Bool) (x y : D) : Option D := y.seq.bind fun es => if x.flat = true ∧ es.all D.flat = true then some (.bl (if neg then !inF x es else inF x es)) else none
theorem bop_in {K : Fg} {neg : Bool} : BopR K (rIn K neg) (inD neg) := by
  intro C N σ ρ H x y vs d e ds z Q R h q
  obtain ⟨A, B, hd, he⟩ := R.two
  unfold inD at h
  cases e1 : e.seq with
  | none => rw [e1] at h; cases h
  | some es =>
    rw [e1] at h
    have h' : (if d.flat = true ∧ es.all D.flat = true then some (D.bl (if neg then !inF d es else inF d es)) else none) = some z := h
    split at h'
    · rename_i hf
      cases h'
      obtain ⟨a, us, B', rfl, hs, r⟩ := he.seqs e1
      obtain ⟨h1, h2⟩ := inF_ok hd hf.1 r hf.2
      refine ⟨a, us, rfl, hs, flat_ok hd hf.1, h1, ?_⟩
      rw [h2]
      exact q _ N H (R.res rfl)
    · cases h'
end BV

/-! BV, part L: slices, turned about; keywords; places within owned lists. -/
namespace BV
open PySem PySem.Spec PyProof.Rows L2

/-! ### slices -/
def cutL {α : Type} (xs : List α) (lo hi : Option Int) : List α := (xs.drop (HT.sIx xs.length 0 lo)).take (HT.sIx xs.length xs.length hi - HT.sIx xs.length 0 lo)
theorem cut_rel {K : Fg} {N : AS} {H : Hp} {zs : List D} {us : List V} (r : Rps K N H zs us AS0) (lo hi : Option Int) : Rps K N H (cutL zs lo hi) (cutV us lo hi) AS0 := by
  unfold cutL cutV
  rw [r.length]
  exact (r.drop0 _).take0 _
def cutD (d : D) (lo hi : Option Int) : Option D := match d with
  | .tup xs => some (.tup (cutL xs lo hi))
  | .lst xs => some (.own (cutL xs lo hi))
  | .frl xs => some (.own (cutL xs lo hi))
  | .own xs => if xs.all D.sh = true then some (.own (cutL xs lo hi)) else none
  | .str z => if z.length ≤ sizeLine then some (.str (cutS z lo hi)) else none
  | _ => none
structure XO where
  f : Ev → (Option Int → Ev → Prop) → Prop
  mono : ∀ {ρ : Ev} {Q Q' : Option Int → Ev → Prop}, (∀ d ρ', Q d ρ' → Q' d ρ') → f ρ Q → f ρ Q'
def rSlX (K : Fg) : V → Option Int → Option Int → Hp → VK → Prop := fun x lo hi H Q => rSlL K x lo hi H Q ∨ rSlA K x lo hi H Q ∨ rSlS x lo hi H Q
theorem sl_X {X : Cx} : SlR X (rSlX X.K) := sl_list.or (sl_tupA.or sl_str)
section
variable {X : Cx} {C : Ct} {a b c e : Expr} {es : List Expr} {ta tb tc te : TE} {Ta Tb Tc Te : XE} {pos p p2 : Pos} {tr : TA} {Tr : XA} {sl : List (Option Nat)} {lo hi : Option Expr} {tl th : TO} {Tl Th : XO}
structure VO (X : Cx) (C : Ct) (e : Option Expr) (t : TO) (T : XO) : Prop where
  po : PO X e t
  so : ∀ {N : AS} {σ : Sts} {ρ : Ev} {H : Hp} {vs : List V} {ds : List D} {Q : Option Int → Hp → Prop}, Rl X.K C N σ ρ H [] [] vs ds → T.f ρ (fun o ρ' => ∀ N' H', Rl X.K C N' σ ρ' H' [] [] vs ds → Q o H') → t σ H Q
def xoNone : XO := ⟨fun ρ Q => Q none ρ, fun m q => m _ _ q⟩
def xoSome (T : XE) : XO := ⟨fun ρ Q => T.f ρ fun d ρ' => ∃ i, d = .int i ∧ Q (some i) ρ', fun m q => T.mono (fun _ _ ⟨i, e, q⟩ => ⟨i, e, m _ _ q⟩) q⟩
theorem vo_none : VO X C none tNoPart xoNone := ⟨po_none, fun R q => q _ _ R⟩
theorem vo_some (h : VE X C e te Te) : VO X C (some e) (tPart te) (xoSome Te) := ⟨po_some h.pe, fun R q => h.se R (Te.mono (fun d ρ1 h v N1 H1 R1 => by
    obtain ⟨i, rfl, h⟩ := h
    obtain ⟨A, r⟩ := R1.top1
    exact ⟨i, r, h _ _ R1.drop⟩) q)⟩
theorem cut_ok {K : Fg} {N N' : AS} {σ : Sts} {ρ : Ev} {H : Hp} {xs vs : List V} {es ds : List D} {v : V} {d z : D} {A : AS} {l u : Option Int} {Q : VK} (R : Rl K C N σ ρ H xs es vs ds) (r : Rp K N H d v A) (g : cutD d l u = some z) (q : ∀ v N' H', Rl K C N' σ ρ H' [v] [z] vs ds → Q v H') : rSlX K v l u H Q := by
  unfold cutD at g
  split at g
  · cases g
    obtain ⟨a, us, rfl, hs, rr⟩ := r
    refine .inr (.inl ⟨a, us, rfl, hs, fun hw => ?_, fun _ p np => q _ _ _ (R.newTup np (cut_rel rr l u))⟩)
    rename_i zs
    have e : cutL zs l u = zs := by
      unfold cutL
      rw [rr.length, hw.1, hw.2, List.drop_zero, Nat.sub_zero, ← rr.length, List.take_length]
    rw [e] at q
    exact q _ _ _ (R.res ⟨a, us, rfl, hs, rr⟩)
  · cases g
    obtain ⟨a, us, rfl, hs, _, rr⟩ := r
    exact .inl ⟨a, us, rfl, .inl (.inl hs), fun p np => q _ _ _ (R.allocN np (cut_rel rr l u))⟩
  · cases g
    obtain ⟨a, us, rfl, hs, rr⟩ := r
    exact .inl ⟨a, us, rfl, hs.sq, fun p np => q _ _ _ (R.allocN np (cut_rel rr l u))⟩
  · split at g
    · rename_i hz
      cases g
      obtain ⟨a, us, B, rfl, hs, _, _, rr⟩ := r
      exact .inl ⟨a, us, rfl, .inl (.inl hs), fun p np => q _ _ _ (R.allocN np (cut_rel (rr.share hz) l u))⟩
    · cases g
  · split at g
    · rename_i hz
      cases g
      exact .inr (.inr ⟨_, r, hz, q _ _ _ (R.res rfl)⟩)
    · cases g
  · cases g
def xSl (T : XE) (L U : XO) : XE := ⟨fun ρ Q => T.f ρ fun d ρ1 => L.f ρ1 fun l ρ2 => U.f ρ2 fun u ρ3 => ∃ z, cutD d l u = some z ∧ Q z ρ3, fun m q => T.mono (fun _ _ h => L.mono (fun _ _ h => U.mono (fun _ _ ⟨z, e, h⟩ => ⟨z, e, m _ _ h⟩) h) h) q⟩
theorem ve_sl (ha : VE X C a ta Ta) (hl : VO X C lo tl Tl) (hu : VO X C hi th Th) : VE X C (.Subscript a (.Slice lo hi none p2) pos) (tSl (rSlX X.K) ta tl th) (xSl Ta Tl Th) := by
  refine ⟨pe_slice sl_X ha.pe hl.po hu.po, fun R q => ha.se R (Ta.mono (fun d ρ1 h v N1 H1 R1 => ?_) q)⟩
  refine hl.so R1.park (Tl.mono (fun l ρ2 h N2 H2 R2 => hu.so R2 (Th.mono (fun u ρ3 h N3 H3 R3 => ?_) h)) h)
  obtain ⟨z, g, h⟩ := h
  obtain ⟨A, r⟩ := R3.cons.top1
  exact cut_ok (N' := N3) R3.cons r g h
def xSlS (i : Nat) (L U : XO) : XE := ⟨fun ρ Q => (∃ d, ρ[i]? = some (some d)) ∧ L.f ρ fun l ρ2 => U.f ρ2 fun u ρ3 => ∃ d z, ρ3[i]? = some (some d) ∧ cutD d l u = some z ∧ Q z ρ3, fun m ⟨h, q⟩ => ⟨h, L.mono (fun _ _ h => U.mono (fun _ _ ⟨d, z, e1, e, h⟩ => ⟨d, z, e1, e, m _ _ h⟩) h) q⟩⟩
theorem ve_slS (i : Nat) (ha : PE X a (tVar i)) (hl : VO X C lo tl Tl) (hu : VO X C hi th Th) : VE X C (.Subscript a (.Slice lo hi none p2) pos) (tSl (rSlX X.K) (tVar i) tl th) (xSlS i Tl Th) := by
  refine ⟨pe_slice sl_X ha hl.po hu.po, fun R q => ?_⟩
  obtain ⟨⟨d0, h0⟩, q⟩ := q
  obtain ⟨v, A, e1, _⟩ := R.any h0
  refine ⟨v, e1, hl.so R (Tl.mono (fun l ρ2 h N2 H2 R2 => hu.so R2 (Th.mono (fun u ρ3 h N3 H3 R3 => ?_) h)) q)⟩
  obtain ⟨d, z, h1, g, h⟩ := h
  obtain ⟨v', A', e2, r⟩ := R3.any h1
  rw [e1] at e2
  cases e2
  exact cut_ok (N' := N3) R3 r g h
end
/-! ### [::-1] -/
section
variable {prog : Program} {w : World} {A : Around} {E : Value → Shared → Prop} {s : Shared}
theorem sliceApplied_rev {sl : Addr} {vs : Value} {n : Nat} {Q : Int × Int × Nat → Shared → Prop} (hs : s.heap.IsSliceOf sl .none .none vs) (ps : IsPart vs (some (-1)))
    (h : Q ((n : Int) - 1, -1, n) s) : wpAny (model prog w) A (Builtin.Slice.sliceApplied (.ref sl) (pure (n : Int))) Q E s := by
  obtain ⟨os, hos, hcs, hds⟩ := id hs
  unfold Builtin.Slice.sliceApplied Builtin.Slice.sliceFields
  refine wpAny_bind (wpAny_bind (wpAny_field hos hds (x := .none) rfl (wpAny_bind (wpAny_field hos hds (x := .none) rfl (wpAny_bind (wpAny_field hos hds (x := vs) rfl (wpAny_pure ?_)))))))
  refine wpAny_bind (HT.slicePart_ ps ?_)
  show wpAny _ _ (if ((-1 : Int) == 0) = true then _ else _) _ _ s
  rw [if_neg (by decide)]
  refine wpAny_bind (HT.slicePart_ .none (wpAny_bind (HT.slicePart_ .none (wpAny_bind (wpAny_pure ?_)))))
  have e1 : Builtin.Slice.sliceAdjust none none (-1) (n : Int) = ((n : Int) - 1, -1) := by
    unfold Builtin.Slice.sliceAdjust
    first
      | rfl
      | simp
  have e2 : Builtin.Slice.slicePlaces ((n : Int) - 1) (-1) (-1) = n := by
    unfold Builtin.Slice.slicePlaces
    have h1 : ¬ ((-1 : Int) > 0) := by decide
    simp only [h1, if_false, show (- -1 : Int) = 1 from rfl, Int.ediv_one]
    split <;> omega
  show wpAny _ _ (match Builtin.Slice.sliceAdjust none none (-1) (n : Int) with | (lo, hi) => pure (lo, (-1 : Int), Builtin.Slice.slicePlaces lo hi (-1))) _ _ s
  rw [e1]
  show wpAny _ _ (pure ((n : Int) - 1, (-1 : Int), Builtin.Slice.slicePlaces ((n : Int) - 1) (-1) (-1))) _ _ s
  rw [e2]
  exact wpAny_pure h
theorem pick_rev (xs : Array Value) : ((List.range xs.size).filterMap fun (m : Nat) => xs[(((xs.size : Int) - 1) + (m : Int) * (-1)).toNat]?).toArray = xs.toList.reverse.toArray := by
  have e : (fun (m : Nat) => xs[(((xs.size : Int) - 1) + (m : Int) * (-1)).toNat]?) = (xs[·]?) ∘ fun m => xs.size - 1 - m := by
    funext m
    have e1 : (((xs.size : Int) - 1) + (m : Int) * (-1)).toNat = xs.size - 1 - m := by omega
    rw [e1]
    rfl
  rw [e, ← List.filterMap_map, PySem.W.krv_range, List.filterMap_reverse, PySem.W.krv_all]
theorem getItem_tuple_rev {t sl : Addr} {items : Array Value} {vs : Value} {Q : Value → Shared → Prop} (ht : IsTup s.heap t items) (hs : s.heap.IsSliceOf sl .none .none vs) (ps : IsPart vs (some (-1)))
    (h : Q (.ref s.heap.objs.size) { s with heap := s.heap.push { cls := .type "tuple", data := .seq items.toList.reverse.toArray } })
    (hsz : items.size ≤ sizeLine) : wpAny (model prog w) A (getItem (.ref t) (.ref sl)) Q E s := by
  have htake : sizeOk (.seq items.toList.reverse.toArray) := by
    show items.toList.reverse.toArray.size ≤ sizeLine
    rw [List.size_toArray, List.length_reverse, Array.length_toList]
    exact hsz
  obtain ⟨os, hos, hcs, hds⟩ := id hs
  have hTs : s.TypeIs (.ref sl) "slice" := ⟨os, hos, hcs⟩
  unfold getItem
  try with_reducible refine wpAny_holding ?_
  first | refine wpAny_bind (wpAny_pure ?_) | skip
  refine wpAny_bind (wpAny_sequenceKey ht.typeIs (by decide) ?_)
  refine wpAny_bind (wpAny_callSpecial?_slot (name := Str.ofString "__getitem__") ht.typeIs PyProof.Rows.slot_tuple_getitem
    (wpAny_call_entry PyProof.Rows.slot_tuple_getitem ht.typeIs entry_tuple_getitem ?_ (args_tuple_getitem _ _)))
  show wpAny _ _ (Builtin.Tuple.tupleItemsOf (.ref t) >>= _) _ _ s
  refine wpAny_bind (tupleItemsOf_ ht ?_)
  refine wpAny_bind (wpAny_typeOf hTs ?_)
  rw [if_pos (by decide)]
  refine wpAny_bind (sliceApplied_rev hs ps ?_)
  have hno : ¬ (((((items.size : Int) - 1) == 0 && (-1 : Int) == 1 && items.size == items.size)) = true) := by
    intro q
    rw [Bool.and_eq_true, Bool.and_eq_true] at q
    exact absurd q.1.2 (by decide)
  show wpAny _ _ (if (((items.size : Int) - 1) == 0 && (-1 : Int) == 1 && items.size == items.size) = true then _ else _) _ _ s
  rw [if_neg hno, pick_rev]
  first
    | exact wpAny_bind (m := Builtin.Tuple.tupleExact _) (wpAny_newObj_type (wpAny_pure ⟨_, rfl, wpAny_pure h⟩) htake)
    | exact wpAny_bind (m := Builtin.Tuple.tupleExact _) (wpAny_newObj_type (wpAny_bind (wpAny_pure (wpAny_pure ⟨_, rfl, wpAny_pure h⟩))) htake)
    | exact wpAny_bind (wpAny_bind (m := Builtin.Tuple.tupleExact _) (wpAny_newObj_type (wpAny_pure (wpAny_pure ⟨_, rfl, wpAny_pure h⟩)) htake))
    | exact wpAny_bind (wpAny_bind (m := Builtin.Tuple.tupleExact _) (wpAny_newObj_type (wpAny_pure ⟨_, rfl, wpAny_pure h⟩) htake))
end
end BV

/-! BV, part M: turned about; keywords; places within owned lists. -/
namespace BV
open PySem PySem.Spec PyProof.Rows L2
section
variable {X : Cx} {C : Ct} {a b c e : Expr} {es : List Expr} {ta tb tc te : TE} {Ta Tb Tc Te : XE} {pos p p2 : Pos} {tr : TA} {Tr : XA} {sl : List (Option Nat)} {g : TG} {Tg : XG}
def tRevX (K : Fg) (te : TE) : TE := fun σ H Q => te σ H fun x H1 => ∃ a xs, x = .ref a ∧ ((SqL K H1 a xs ∧ ∀ p, H1 p = none → Q (.ref p) (upd H1 p (.lst xs.reverse))) ∨ (SqT K H1 a xs ∧ ∀ p, H1 p = none → Q (.ref p) (upd H1 p (.tup xs.reverse))))
theorem pe_revX {k : Nat} {p1 p2 p3 : Pos} (he : PE X e te) : PE X (.Subscript e (.Slice none none (some (.UnaryOp .USub (.Constant (.int 1) k p1) p2)) p3) pos) (tRevX X.K te) := by
  refine ⟨fun pins s σ H Q I h => ?_⟩
  refine Subscript_ (thn (he.run pins s σ H _ I h) fun v s1 ⟨x, H1, I1, r1, q1⟩ => ?_)
  obtain ⟨a, xs, ex, q⟩ := q1
  subst ex
  cases r1
  have hst : PO X (some (.UnaryOp .USub (.Constant (.int 1) k p1) p2)) (tPart (tUn (rU fun i => .int (-i)) (tC (.int 1)))) := po_some (pe_un un_neg pe_int)
  refine wpAny_Slice (thn (po_none.run pins s1 σ H1 (fun o H2 => o = none ∧ H2 = H1) I1 ⟨rfl, rfl⟩) fun vl s2 ⟨l, H2, I2, pl, el, e2⟩ => ?_)
  subst el e2
  refine thn (po_none.run pins s2 σ H2 (fun o H3 => o = none ∧ H3 = H2) I2 ⟨rfl, rfl⟩) fun vu s3 ⟨u, H3, I3, pu, eu, e3⟩ => ?_
  subst eu e3
  refine thn (hst.run pins s3 σ H3 (fun o H4 => o = some (-1) ∧ H4 = H3) I3 ⟨1, rfl, -1, rfl, rfl, rfl⟩) fun vs s4 ⟨o, H4, I4, ps, eo, e4⟩ => ?_
  subst eo e4
  have I5 : Inv X pins σ H4 { s4 with heap := s4.heap.push { cls := .type "slice", data := .fields #[vl, vu, vs] } } := I4.kept (t' := s4.toks) fun b ob q => Heap.get?_push_of_some _ q
  show wpAny (model X.prog X.w) X.A (subscriptTail e (.Slice none none (some (.UnaryOp .USub (.Constant (.int 1) k p1) p2)) p3) (.ref a) (.ref s4.heap.objs.size)) (EP X pins σ Q) X.xe { s4 with heap := s4.heap.push { cls := .type "slice", data := .fields #[vl, vu, vs] } }
  rcases q with ⟨hx, q⟩ | ⟨hx, q⟩
  · obtain ⟨its, r, ht, hz⟩ := I5.list hx
    have hlen := r.length
    refine tail_any (ops := [.ref a, .ref s4.heap.objs.size]) ht.isList.typeIs (PySem.slot_list_getitem.lookup) ?_ (by with_unfolding_all rfl)
    refine wpAny_getItem_list_slice ht.isList (Heap.IsSliceOf.new _ vl vu vs) pl pu ps (by decide) ?_ (by rw [List.size_toArray]; omega)
    rw [PySem.W.krv_pick]
    refine ⟨.ref _, _, I5.laid (t' := s4.toks) (o := .lst xs.reverse) (fun b ob q => Heap.get?_push_of_some _ q) (Nat.le_refl _) ?_, rfl, q _ (I5.hok.fresh (Nat.le_refl _))⟩
    exact ⟨by rw [List.length_reverse]; exact hz, _, 0, r.reverse, Heap.get?_push_size _ rfl⟩
  · obtain ⟨its, r, ht, hz⟩ := I5.tuple hx
    have hlen := r.length
    cases pl
    cases pu
    refine tail_any (ops := [.ref a, .ref s4.heap.objs.size]) ht.typeIs PyProof.Rows.slot_tuple_getitem.lookup ?_ (by with_unfolding_all rfl)
    refine getItem_tuple_rev ht (Heap.IsSliceOf.new _ .none .none vs) ps ?_ (by rw [List.size_toArray]; omega)
    refine ⟨.ref _, _, I5.laid (t' := s4.toks) (o := .tup xs.reverse) (fun b ob q => Heap.get?_push_of_some _ q) (Nat.le_refl _) ?_, rfl, q _ (I5.hok.fresh (Nat.le_refl _))⟩
    exact ⟨by rw [List.length_reverse]; exact hz, _, r.reverse, IsTup.new _ _⟩
/-- d[::-1] -/
def revD : D → Option D
  | .tup xs => some (.tup xs.reverse)
  | .lst xs => some (.own xs.reverse)
  | .frl xs => some (.own xs.reverse)
  | .own xs => if xs.all D.sh = true then some (.own xs.reverse) else none
  | _ => none
theorem ve_rev {k : Nat} {p1 p2 p3 : Pos} (ha : VE X C a ta Ta) : VE X C (.Subscript a (.Slice none none (some (.UnaryOp .USub (.Constant (.int 1) k p1) p2)) p3) pos) (tRevX X.K ta) (xUn revD Ta) := by
  refine ⟨pe_revX ha.pe, fun R q => ha.se R (Ta.mono (fun d ρ1 h v N1 H1 R1 => ?_) q)⟩
  obtain ⟨z, g, h⟩ := h
  obtain ⟨A, r⟩ := R1.top1
  unfold revD at g
  split at g
  · cases g
    obtain ⟨a, us, rfl, hs, rr⟩ := r
    exact ⟨a, us, rfl, .inr ⟨hs, fun p np => h _ _ _ (R1.newTup np rr.reverse0)⟩⟩
  · cases g
    obtain ⟨a, us, rfl, hs, _, rr⟩ := r
    exact ⟨a, us, rfl, .inl ⟨.inl (.inl hs), fun p np => h _ _ _ (R1.allocN np rr.reverse0)⟩⟩
  · cases g
    obtain ⟨a, us, rfl, hs, rr⟩ := r
    exact ⟨a, us, rfl, .inl ⟨hs.sq, fun p np => h _ _ _ (R1.allocN np rr.reverse0)⟩⟩
  · split at g
    · rename_i hz
      cases g
      obtain ⟨a, us, B, rfl, hs, _, _, rr⟩ := r
      exact ⟨a, us, rfl, .inl ⟨.inl (.inl hs), fun p np => h _ _ _ (R1.allocN np (rr.share hz).reverse0)⟩⟩
    · cases g
  · cases g

/-! ### calls by keywords alone -/
theorem pe_callK0 {CX : CXT} {k : Nat} {f : Addr} {fd : FuncData} {ps ks : List Str} {sp : Sp} {E : XK} {x : Str} {kws : List Keyword} {tk : TA} {gg : List Value → List Value → List Value} {gV : List V → List V → List V} (F : FnOk X.prog X.w X.K X.mg X.base CX k f fd ps sp) (hr : Room k X.A) (hg : Gl X x) (hm : X.mg x = some (.ref f)) (hk : PySem.W.keepIn X.K (.ref f) = true) (hb : KBinds X.K fd ps ks gg gV) (hx : Passes CX X E)
    (hkw : PK X kws tk) (hall : (backToKw pos (keywordEach kws X.env)).all (·.1.isSome) = true := by rfl) (hks : (backToKw pos (keywordEach kws X.env)).filterMap (·.1) = ks := by rfl)
    (hdb : (x == ("__debug__" : Str)) = false := by decide) (hpl : ((backTo pos (starEach [] X.env)).any (·.1) || (backToKw pos (keywordEach kws X.env)).any (·.1.isNone)) = false := by rfl) :
    PE X (.Call (.Name x p) [] kws pos) (tCallK sp gV E tNil tk) := by
  refine ⟨fun pins s σ H Q I h => ?_⟩
  refine wpAny_Call_Name_kw (ld_glob I hg hm ?_ hdb)
  refine PySem.W.callWith_KW0 (h₀ := X.base) I.ok.mod.kin hk hall ?_ hpl
  refine thn (hkw.run pos pins s σ H _ I h) fun ws s2 ⟨zs, H2, I2, rz, q2⟩ => ⟨I2.kIn, ?_⟩
  rw [hks]
  exact run_fnk F hr hb hx I2 .nil rz q2
/-- keyword arguments, in the order of the parameters -/
structure VK' (X : Cx) (C : Ct) (kws : List Keyword) (n : Nat) (t : TA) (T : XA) : Prop where
  pk : PK X kws t
  sk : ∀ {N : AS} {σ : Sts} {ρ : Ev} {H : Hp} {vs : List V} {ds : List D} {Q : List V → Hp → Prop}, Rl X.K C N σ ρ H [] [] vs ds → T.f ρ (fun fs ρ' => ∀ xs N' H', Rl X.K C N' σ ρ' H' xs fs vs ds → xs.length = n → Q xs H') → t σ H Q
variable {kws : List Keyword} {n : Nat}
theorem vk_nil : VK' X C [] 0 tNil xNil := ⟨pk_nil, fun R q => q _ _ _ R rfl⟩
theorem vk_cons {nm : Option Str} {kpos : Pos} (ha : VE X C e te Te) (hr : VK' X C kws n tr Tr) : VK' X C (⟨nm, e, kpos⟩ :: kws) (n + 1) (tCons te tr) (xCons Te Tr) := by
  refine ⟨pk_cons ha.pe hr.pk, fun R q => ha.se R (Te.mono (fun d ρ1 h v N1 H1 R1 => ?_) q)⟩
  exact hr.sk R1.park (Tr.mono (fun fs ρ2 h xs N2 H2 R2 hl => h _ _ _ R2.cons (congrArg (· + 1) hl)) h)
/-- f(k = v, ..): the names in the order of the parameters -/
theorem ve_callKw {k : Nat} {f : Addr} {fd : FuncData} {ps ks : List Str} {F : FS} {x : Str} {tk : TA} {Tk : XA} (G : FnOk X.prog X.w X.K X.mg X.base CX0 k f fd ps (spOf X.K n [] F)) (hr : Room k X.A) (hg : Gl X x) (hm : X.mg x = some (.ref f)) (hk : PySem.W.keepIn X.K (.ref f) = true)
    (hb : KBinds X.K fd ps ks (fun _ ws => ws) (fun _ ws => ws)) (hw : VK' X C kws n tk Tk) (hall : (backToKw pos (keywordEach kws X.env)).all (·.1.isSome) = true := by rfl) (hks : (backToKw pos (keywordEach kws X.env)).filterMap (·.1) = ks := by rfl)
    (hdb : (x == ("__debug__" : Str)) = false := by decide) (hpl : ((backTo pos (starEach [] X.env)).any (·.1) || (backToKw pos (keywordEach kws X.env)).any (·.1.isNone)) = false := by rfl) :
    VE X C (.Call (.Name x p) [] kws pos) (tCallK (spOf X.K n [] F) (fun _ ws => ws) E0 tNil tk) (xCall F [] Tk) := by
  refine ⟨pe_callK0 G hr hg hm hk hb pass0 hw.pk hall hks hdb hpl, fun {N σ ρ H vs ds Q} R q => ?_⟩
  refine hw.sk R (Tk.mono (fun fs ρ1 h xs N1 H1 R1 hl => ?_) q)
  exact call_ok (sl := List.replicate n none) (ios := []) R1 ⟨by rw [hl, List.length_replicate], fun k i hk => by
    rw [List.getElem?_replicate] at hk
    split at hk <;> cases hk⟩ (by rw [List.length_replicate]) (fun _ z => by cases z) h

/-! ### places within an owned list -/
/-- x[k] = e, x owned -/
def xSetS (i : Nat) (T : XE) : XG := ⟨fun d ρ Q => (∃ z, ρ[i]? = some (some z)) ∧ T.f ρ fun k ρ' => ∃ zs n j, k = .int n ∧ ρ'[i]? = some (some (.own zs)) ∧ ixN zs.length n = some j ∧ Q (ρ'.set i (some (.own (zs.set j d)))), fun m ⟨h, q⟩ => ⟨h, T.mono (fun _ _ h => by
  obtain ⟨zs, n, j, h1, h2, h3, q⟩ := h
  exact ⟨zs, n, j, h1, h2, h3, m _ q⟩) q⟩⟩
theorem Rps.set {K : Fg} {N : AS} {H : Hp} {d : D} {v : V} {B : AS} (r : Rp K N H d v B) : ∀ {ds : List D} {us : List V} {A : AS} (j : Nat), Rps K N H ds us A → (∀ x, A x → ¬ B x) → Rps K N H (ds.set j d) (us.set j v) (fun x => A x ∨ B x)
  | [], us, A, j, h, _ => by
    cases (show us = [] from h)
    exact rfl
  | e :: ds, us, A, 0, h, dj => by
    obtain ⟨w, vr, A1, A2, rfl, h1, h2, s1, s2, dj1⟩ := h
    exact ⟨v, vr, B, A2, rfl, r, h2, fun _ z => .inr z, fun x z => .inl (s2 x z), fun x z w => dj x (s2 x w) z⟩
  | e :: ds, us, A, j + 1, h, dj => by
    obtain ⟨w, vr, A1, A2, rfl, h1, h2, s1, s2, dj1⟩ := h
    refine ⟨w, _, A1, fun x => A2 x ∨ B x, rfl, h1, Rps.set r j h2 fun x z => dj x (s2 x z), fun x z => .inl (s1 x z), fun x z => ?_, fun x z w => ?_⟩
    · rcases z with z | z
      · exact .inl (s2 x z)
      · exact .inr z
    · rcases w with w | w
      · exact dj1 x z w
      · exact dj x (s1 x z) w
theorem vg_setS (i : Nat) {o : Expr} (ho : PE X o (tVar i)) (hi : VE X C e te Te) (ha : ∀ v, assign (.Subscript o e pos) X.env v = (do
      let ov ← holding [v] (eval o X.env)
      let iv ← holding [v, ov] (eval e X.env)
      standAt pos
      holding [v, ov, iv] (setItem ov iv v)
      release [v, ov, iv] []) := by intro _; rfl) : VG X C (.Subscript o e pos) (gSub (tVar i) te rSetL) (xSetS i Te) := by
  refine ⟨pg_sub ho hi.pe set_list ha, fun {N σ ρ H v d vs ds Q} R q => ?_⟩
  obtain ⟨⟨z, hz⟩, q⟩ := q
  obtain ⟨w, A, e1, _⟩ := R.any hz
  refine ⟨w, e1, hi.se R.park (Te.mono (fun k ρ' h u N1 H1 R1 => ?_) q)⟩
  obtain ⟨zs, n, j, rfl, h1, h2, h⟩ := h
  obtain ⟨Ak, rk⟩ := R1.top1
  have R2 := R1.drop.cons
  obtain ⟨w', e2, R3⟩ := R2.lendL h1
  rw [e1] at e2
  cases e2
  obtain ⟨a, us, B, rfl, ha', r'⟩ := R3.ownAt
  refine ⟨a, us, n, j, rfl, rk, ha', by rw [← r'.length]; exact h2, ?_⟩
  have R4 : Rl X.K C N1 σ (ρ'.set i none) (upd H1 a (.lst (us.set j v))) [.ref a] [.own (zs.set j d)] vs ds := R3.write ha' fun B1 B2 r1 r2 dj => by
    obtain ⟨v', vr, A1, A2, ev, r3, r4, s1, s2, _⟩ := r2
    cases ev
    exact ⟨_, Rps.set (r3.up s1) j r1 dj, fun _ z => z⟩
  have R5 := R4.give e1
  rw [List.set_set] at R5
  exact h _ _ _ R5
/-- x[n] stands in an owned list and is owned itself: compared with a value that owns nothing -/
theorem Rl.inner {K : Fg} {N : AS} {σ : Sts} {ρ : Ev} {H : Hp} {xs vs : List V} {fs ds : List D} {i n : Nat} {zs : List D} {z : D} {v : V} (R : Rl K C N σ ρ H xs fs vs ds) (e : ρ[i]? = some (some (.own zs))) (ez : zs[n]? = some z) (ev : σ[i]? = some (some v)) : ∃ a us w A, v = .ref a ∧ H a = some (.lst us) ∧ us.length = zs.length ∧ us[n]? = some w ∧ Rp K N H z w A := by
  obtain ⟨v', A, e1, r⟩ := R.any e
  rw [ev] at e1
  cases e1
  obtain ⟨a, us, B, rfl, ha, _, _, rr⟩ := r
  obtain ⟨w, A1, h1, h2, _⟩ := rr.get0 ez
  exact ⟨a, us, w, A1, rfl, ha, rr.length.symm, h1, h2⟩
/-- x[n] op e: e reckons without changing anything -/
def xNeP (i n : Nat) (d0 : D) : XE := ⟨fun ρ Q => ∃ zs z b, ρ[i]? = some (some (.own zs)) ∧ zs[n]? = some z ∧ eqD z d0 = some b ∧ Q (.bl (!b)) ρ, fun m h => by
  obtain ⟨zs, z, b, h1, h2, h3, q⟩ := h
  exact ⟨zs, z, b, h1, h2, h3, m _ _ q⟩⟩
theorem ve_nePempty (i n : Nat) {o : Expr} {k : Nat} {p3 p4 : Pos} (hu : X.A.units + 64 < cLine) (ho : PE X o (tVar i)) (hs : PlainIx (.Constant (.int n) k p3) := by exact fun _ _ => rfl) (hm : behindInMarks .NotEq (.List [] p4) = false := by exact nomark _) :
    VE X C (.Compare (.Subscript o (.Constant (.int n) k p3) p2) [.NotEq] [.List [] p4] pos) (tOp (rNeX X.K) (tOp (rIx X.K) (tVar i) (tC (.int n))) (tLst tNil)) (xNeP i n (.own [])) := by
  refine ⟨pe_cmpR (op_neX hu) (pe_ix ix_seq ho pe_int hs) (pe_lst pa_nil) hm, fun {N σ ρ H vs ds Q} R q => ?_⟩
  obtain ⟨zs, z, b, h1, h2, h3, q⟩ := q
  obtain ⟨v, A, e1, _⟩ := R.any h1
  obtain ⟨a, us, w, A1, rfl, ha, hl, hw, rz⟩ := R.inner h1 h2 e1
  refine ⟨_, e1, .inl ⟨a, us, n, w, rfl, rfl, .inl (.inl ha), atI_nat hw, Nat.zero_le _, fun p np => ?_⟩⟩
  have x : Ext X.K N H (fun y => N y ∨ y = p) (upd H p (.lst [])) := .alloc np fun _ q => q
  have R1 := R.allocN (zs := []) (fs := []) np rfl
  obtain ⟨Av, hv⟩ := R1.top1
  obtain ⟨v', A', e1', _⟩ := R1.any h1
  obtain ⟨a', us', w', A2, ea, ha2, hl2, hw2, rz2⟩ := R1.inner h1 h2 e1
  cases ea
  have eu : us' = us := by
    have ne : a ≠ p := ne_of_none ha np
    rw [upd_ne ne, ha] at ha2
    cases ha2
    rfl
  subst eu
  rw [hw] at hw2
  cases hw2
  exact neX_of rz2 hv h3 (q _ _ _ (R1.res rfl))
/-- x[n].pop(k), the list at x[n] owned, k written -/
def xPopP (i n k : Nat) : XE := ⟨fun ρ Q => ∃ zs ys z, ρ[i]? = some (some (.own zs)) ∧ zs[n]? = some (.own ys) ∧ ys[k]? = some z ∧ z.sh = true ∧ Q z (ρ.set i (some (.own (zs.set n (.own (ys.eraseIdx k)))))), fun m h => by
  obtain ⟨zs, ys, z, h1, h2, h3, h4, q⟩ := h
  exact ⟨zs, ys, z, h1, h2, h3, h4, m _ _ q⟩⟩
theorem Rps.erase0 {K : Fg} {N : AS} {H : Hp} : ∀ {ds : List D} {us : List V} {A : AS} (k : Nat), Rps K N H ds us A → Rps K N H (ds.eraseIdx k) (us.eraseIdx k) A
  | [], us, A, k, h => by
    cases (show us = [] from h)
    exact rfl
  | d :: ds, us, A, 0, h => by
    obtain ⟨w, vr, A1, A2, rfl, h1, h2, s1, s2, dj1⟩ := h
    exact h2.up s2
  | d :: ds, us, A, k + 1, h => by
    obtain ⟨w, vr, A1, A2, rfl, h1, h2, s1, s2, dj1⟩ := h
    exact ⟨w, _, A1, A2, rfl, h1, Rps.erase0 k h2, s1, s2, dj1⟩
/-- one item of an owned list, itself an owned list, is written -/
theorem Rps.inner {K : Fg} {N : AS} {H H' : Hp} {b : Addr} {ys gs : List D} (x : Ext K N H N H') (oth : ∀ y, y ≠ b → H' y = H y) : ∀ {ds : List D} {us : List V} {A : AS} (n : Nat), Rps K N H ds us A → ds[n]? = some (.own ys) → us[n]? = some (.ref b) →
    (∀ A1, Rp K N H (.own ys) (.ref b) A1 → Rp K N H' (.own gs) (.ref b) A1) → Rps K N H' (ds.set n (.own gs)) us A ∧ A b
  | [], us, A, n, h, e, _, _ => by simp at e
  | d :: ds, us, A, 0, h, e, ev, w => by
    obtain ⟨v, vr, A1, A2, rfl, h1, h2, s1, s2, dj1⟩ := h
    cases (show some d = some (.own ys) from e)
    cases (show some v = some (.ref b) from ev)
    obtain ⟨a', _, _, ea, _, hA, _⟩ := id h1
    cases ea
    exact ⟨⟨_, vr, A1, A2, rfl, w A1 h1, h2.keep x ds fun y q => oth y fun z => dj1 b hA (z ▸ q), s1, s2, dj1⟩, s1 _ hA⟩
  | d :: ds, us, A, n + 1, h, e, ev, w => by
    obtain ⟨v, vr, A1, A2, rfl, h1, h2, s1, s2, dj1⟩ := h
    obtain ⟨r, hb⟩ := Rps.inner x oth n h2 (by simpa using e) (by simpa using ev) w
    exact ⟨⟨v, vr, A1, A2, rfl, h1.keep x d fun y q => oth y fun z => dj1 y q (z ▸ hb), r, s1, s2, dj1⟩, s2 _ hb⟩
theorem ve_popP (i n k : Nat) {o : Expr} {k1 k2 : Nat} {p3 p4 apos : Pos} (ho : PE X o (tVar i)) (hk : k < 1000) (hs : PlainIx (.Constant (.int n) k1 p3) := by exact fun _ _ => rfl)
    (hp : PE X (.Call (.Attribute (.Subscript o (.Constant (.int n) k1 p3) p2) "pop" apos) [.Constant (.int k) k2 p4] [] pos) (tBM X.K "list" rPopAt (tOp (rIx X.K) (tVar i) (tC (.int n))) (tCons (tC (.int k)) tNil))) :
    VE X C (.Call (.Attribute (.Subscript o (.Constant (.int n) k1 p3) p2) "pop" apos) [.Constant (.int k) k2 p4] [] pos) (tBM X.K "list" rPopAt (tOp (rIx X.K) (tVar i) (tC (.int n))) (tCons (tC (.int k)) tNil)) (xPopP i n k) := by
  refine ⟨hp, fun {N σ ρ H vs ds Q} R q => ?_⟩
  obtain ⟨zs, ys, z, h1, h2, h3, h4, q⟩ := q
  obtain ⟨v, A, e1, _⟩ := R.any h1
  obtain ⟨a, us, w, A1, rfl, ha, hl, hw, rz⟩ := R.inner h1 h2 e1
  obtain ⟨b, ws, B, rfl, hb, hAb, hB, rr⟩ := rz
  obtain ⟨y, A2, hy, ry, _⟩ := rr.get0 h3
  have hk2 : k < ws.length := (List.getElem?_eq_some_iff.mp hy).1
  refine ⟨_, e1, .inl ⟨a, us, n, .ref b, rfl, rfl, .inl (.inl ha), atI_nat hw, .inl ⟨rfl, ws, .inl (.inl hb)⟩, b, ws, k, k, y, rfl, rfl, hb, by omega, by omega, ?_, hy, ?_⟩⟩
  · rw [seqIndex_of (by omega) (by omega)]
    rfl
  · obtain ⟨v2, e2, R1⟩ := R.lend h1
    rw [e1] at e2
    cases e2
    obtain ⟨A', B1, B2, hA, hh1, hh2, d1, d2, ow⟩ := R1.ex
    obtain ⟨v', vr', C1, C2, ev, rr1, rr2, t1, t2, dj⟩ := hh1
    cases ev
    obtain ⟨a', us', B', e', ha', hAa, hB', rrB⟩ := rr1
    cases e'
    rw [ha] at ha'
    cases ha'
    have nab : a ≠ b := fun z => by
      obtain ⟨w', A3, g1, g2, g3⟩ := rrB.get0 h2
      rw [hw] at g1
      cases g1
      obtain ⟨b', _, _, eb, _, hAb', _⟩ := g2
      cases eb
      exact (hB' b (g3 b hAb')).2 z.symm
    have Nb : N b := by
      obtain ⟨w', A3, g1, g2, g3⟩ := rrB.get0 h2
      rw [hw] at g1
      cases g1
      obtain ⟨b', _, _, eb, _, hAb', _⟩ := g2
      cases eb
      exact (ow b (.inr (.inl (t1 b (hB' b (g3 b hAb')).1)))).1
    have x : Ext X.K N H N (upd H b (.lst (ws.eraseIdx k))) := .write hb Nb
    have oth : ∀ y, y ≠ b → upd H b (.lst (ws.eraseIdx k)) y = H y := fun y z => upd_ne z
    obtain ⟨r5, hb5⟩ := Rps.inner (gs := ys.eraseIdx k) x oth n rrB h2 hw fun A1 h => by
      obtain ⟨b', ws', B5, eb, hb', g1, g2, g3⟩ := h
      cases eb
      rw [hb] at hb'
      cases hb'
      exact ⟨b, ws.eraseIdx k, B5, rfl, upd_same, g1, g2, (Rps.erase0 k g3).keep x _ fun y z => oth y (g2 y z).2⟩
    have nz : ∀ y, H y ≠ none → upd H b (.lst (ws.eraseIdx k)) y ≠ none := fun y q => by
      by_cases z : y = b
      · rw [z, upd_same]; exact fun z => by cases z
      · rw [oth y z]; exact q
    have bB : B1 b := t1 b (hB' b hb5).1
    have R2 : Rl X.K C N σ (ρ.set i none) (upd H b (.lst (ws.eraseIdx k))) [.ref a] [.own (zs.set n (.own (ys.eraseIdx k)))] vs ds := by
      refine ⟨⟨A', B1, B2, hA.keep x fun y z => oth y fun w => (d1 y z).1 (w ▸ bB), ⟨.ref a, [], C1, C2, rfl, ⟨a, us, B', rfl, by rw [oth a nab]; exact ha, hAa, hB', r5⟩, rfl, t1, t2, dj⟩, hh2.keep x ds fun y z => oth y fun w => d2 b bB (w ▸ z), d1, d2, ow⟩,
        fun y z => nz y (R1.nh y z), R1.h0, R1.n0, fun y z n => ?_, R1.xt.trans x, R1.pr, fun y z => nz y (R1.dm y z)⟩
      refine (oth y fun w => ?_).trans (R1.fr y z n)
      rcases (ow b (.inr (.inl bB))).2 with u | u
      · exact n (w ▸ u)
      · exact R1.h0 y z (w ▸ u)
    have R3 := R2.give e1
    rw [List.set_set] at R3
    exact q _ _ _ (R3.res ((ry.share h4).keep0 x))
end
end BV

/-! BV, part N: the forms that a printer writes. -/
namespace BV
open PySem PySem.Spec PyProof.Rows L2
abbrev FnP (K : Fg) (x : Str) (st : Stmt) (f : Addr) (fd : FuncData) : Prop := FunD K x x (defArgs st) (defBody st) (defScope st) [] [] f fd
/-- a promise by parameters x: what the arguments are, what holds ahead, what holds behind of the value and the lent arguments -/
def FS.ex {α : Type} (args : α → List D) (pre : α → Prop) (post : α → D → List D → Prop) : FS := ⟨fun ds Q => ∃ x : α, ds = args x ∧ pre x ∧ ∀ d o, post x d o → Q d o, fun m ⟨x, h1, h2, q⟩ => ⟨x, h1, h2, fun d o z => m _ _ (q d o z)⟩⟩
section
variable {P : Program} {w : World} {K : Fg} {mg : Str → Option Value} {base : Heap}
/-- a def of the text that keeps a promise by values -/
structure OkF (P : Program) (w : World) (K : Fg) (mg : Str → Option Value) (base : Heap) (k : Nat) (x : Str) (ps : List Str) (n : Nat) (ios : List Nat) (F : FS) : Prop where
  ex : ∃ (f : Addr) (fd : FuncData), mg x = some (.ref f) ∧ PySem.W.keepIn K (.ref f) = true ∧ Binds K fd ps [] ∧ (∀ (s : Shared) (ws : List Value), ws.length = ps.length → BindsTo s fd ⟨[], ps.zip ws⟩ (ps.zip ws)) ∧ (∀ (s : Shared) (p1 p2 : Str) (u v : Value), ps = [p1, p2] → BindsTo s fd ⟨[], [(p2, v), (p1, u)]⟩ [(p1, u), (p2, v)]) ∧ FnOk P w K mg base CX0 k f fd ps (spOf K n ios F)
theorem okf_fn {x : Str} {st : Stmt} {f : Addr} {fd : FuncData} {Nm ps : List Str} {k n : Nat} {ios : List Nat} {F : FS} (Fn : FnP K x st f fd) (g : mg x = some (.ref f)) (S : FnScope Nm ps (defScope st)) (hn : ps.length = n) (nd : ios.Nodup) (hi : ∀ i ∈ ios, i < n)
    (b1 : ∀ (kV doc pm : Value) (an : Option Addr) (cdv ct : Value) (us : List Value), us.length = ps.length → bindArgs (PySem.W.fnOf x x (defArgs st) (defBody st) (defScope st) .none kV doc pm an cdv ct) ⟨us, []⟩ = pure (ps.zip us))
    (b2 : ∀ (kV doc pm : Value) (an : Option Addr) (cdv ct : Value) (us : List Value), us.length = ps.length → bindArgs (PySem.W.fnOf x x (defArgs st) (defBody st) (defScope st) .none kV doc pm an cdv ct) ⟨[], ps.zip us⟩ = pure (ps.zip us))
    (hbody : ∀ (cdv : Value) (A : Around) (outer : List Env) (s : Shared) (H : Hp) (E : XK) (C : Ct), (∀ p ∈ C.prot, p.1 ∈ ios) → Room k (A.deeper (envOfC x (defScope st) s.heap.objs.size f cdv)) →
      ∃ t T, VB (cxOf CX0 P w K mg base Nm x (defScope st) f cdv A outer s H E).nox C (defBody st) t T ∧
        ∀ (ds : List D) (Q : D → List D → Prop), F.f ds Q → T.f { nx := fun ρ => ∃ outs, outsOf ios ρ = outs.map some ∧ Q .non outs, rt := fun r ρ => ∃ outs, outsOf ios ρ = outs.map some ∧ Q r outs, bk := fun _ => False, ct := fun _ => False } (ds.map some ++ List.replicate (Nm.length - n) none)) :
    FnOk P w K mg base CX0 (k + 1) f fd ps (spOf K n ios F) := by
  obtain ⟨oc, od, dV, kV, doc, pm, an, cdv, ct, osl, rfl, lk, hcd, hD, hK⟩ := Fn.ex
  rcases hD with ⟨_, rfl⟩ | ⟨e, _⟩
  · exact fn_ok ⟨⟨oc, od, kV, doc, pm, an, cdv, ct, osl, rfl, lk, hcd⟩, Fn.kp⟩ S hn nd hi hbody
  · exact absurd rfl e
theorem okf_mk {x : Str} {st : Stmt} {f : Addr} {fd : FuncData} {Nm ps : List Str} {k n : Nat} {ios : List Nat} {F : FS} (Fn : FnP K x st f fd) (g : mg x = some (.ref f)) (S : FnScope Nm ps (defScope st)) (hn : ps.length = n) (nd : ios.Nodup) (hi : ∀ i ∈ ios, i < n)
    (b1 : ∀ (kV doc pm : Value) (an : Option Addr) (cdv ct : Value) (us : List Value), us.length = ps.length → bindArgs (PySem.W.fnOf x x (defArgs st) (defBody st) (defScope st) .none kV doc pm an cdv ct) ⟨us, []⟩ = pure (ps.zip us))
    (b2 : ∀ (kV doc pm : Value) (an : Option Addr) (cdv ct : Value) (us : List Value), us.length = ps.length → bindArgs (PySem.W.fnOf x x (defArgs st) (defBody st) (defScope st) .none kV doc pm an cdv ct) ⟨[], ps.zip us⟩ = pure (ps.zip us))
    (b3 : ∀ (kV doc pm : Value) (an : Option Addr) (cdv ct : Value) (p1 p2 : Str) (u v : Value), ps = [p1, p2] → bindArgs (PySem.W.fnOf x x (defArgs st) (defBody st) (defScope st) .none kV doc pm an cdv ct) ⟨[], [(p2, v), (p1, u)]⟩ = pure [(p1, u), (p2, v)])
    (hbody : ∀ (cdv : Value) (A : Around) (outer : List Env) (s : Shared) (H : Hp) (E : XK) (C : Ct), (∀ p ∈ C.prot, p.1 ∈ ios) → Room k (A.deeper (envOfC x (defScope st) s.heap.objs.size f cdv)) →
      ∃ t T, VB (cxOf CX0 P w K mg base Nm x (defScope st) f cdv A outer s H E).nox C (defBody st) t T ∧
        ∀ (ds : List D) (Q : D → List D → Prop), F.f ds Q → T.f { nx := fun ρ => ∃ outs, outsOf ios ρ = outs.map some ∧ Q .non outs, rt := fun r ρ => ∃ outs, outsOf ios ρ = outs.map some ∧ Q r outs, bk := fun _ => False, ct := fun _ => False } (ds.map some ++ List.replicate (Nm.length - n) none)) :
    OkF P w K mg base (k + 1) x ps n ios F := by
  refine ⟨f, fd, g, Fn.kp, Fn.bindsN b1, fun s ws hl => ?_, fun s p1 p2 u v e2 => ?_, ?_⟩
  · obtain ⟨oc, od, dV, kV, doc, pm, an, cdv, ct, osl, rfl, lk, hcd, hD, hK⟩ := Fn.ex
    rcases hD with ⟨_, rfl⟩ | ⟨e, _⟩
    · exact .of_eq (b2 kV doc pm an cdv ct ws hl)
    · exact absurd rfl e
  · obtain ⟨oc, od, dV, kV, doc, pm, an, cdv, ct, osl, rfl, lk, hcd, hD, hK⟩ := Fn.ex
    rcases hD with ⟨_, rfl⟩ | ⟨e, _⟩
    · exact .of_eq (b3 kV doc pm an cdv ct p1 p2 u v e2)
    · exact absurd rfl e
  · obtain ⟨oc, od, dV, kV, doc, pm, an, cdv, ct, osl, rfl, lk, hcd, hD, hK⟩ := Fn.ex
    rcases hD with ⟨_, rfl⟩ | ⟨e, _⟩
    · exact fn_ok ⟨⟨oc, od, kV, doc, pm, an, cdv, ct, osl, rfl, lk, hcd⟩, Fn.kp⟩ S hn nd hi hbody
    · exact absurd rfl e
theorem OkF.mono {j k : Nat} {x : Str} {ps : List Str} {n : Nat} {ios : List Nat} {F : FS} (G : OkF P w K mg base j x ps n ios F) (h : j ≤ k) : OkF P w K mg base k x ps n ios F := by
  obtain ⟨f, fd, a, b, c, d, d2, e⟩ := G.ex
  exact ⟨f, fd, a, b, c, d, d2, e.mono h⟩
/-- what a caller may lean on, weaker -/
theorem OkF.imp {k : Nat} {x : Str} {ps : List Str} {n : Nat} {ios : List Nat} {F F' : FS} (G : OkF P w K mg base k x ps n ios F) (h : ∀ ds Q, F'.f ds Q → F.f ds Q) : OkF P w K mg base k x ps n ios F' := by
  obtain ⟨f, fd, a, b, c, d, d2, e⟩ := G.ex
  refine ⟨f, fd, a, b, c, d, d2, e.imp fun vs H Q E q => ?_⟩
  obtain ⟨l, N, A, ds, r, h1, h2, q⟩ := q
  exact ⟨l, N, A, ds, r, h1, h2, h _ _ q⟩
end
section
variable {X : Cx} {C : Ct} {a b c e : Expr} {es rest : List Expr} {ta tb tc te : TE} {Ta Tb Tc Te : XE} {pos p p2 : Pos} {tr : TA} {Tr : XA} {sl : List (Option Nat)}
theorem vf_call {ss : List (Option Nat)} {k : Nat} {ps : List Str} {n : Nat} {ios : List Nat} {F : FS} {x : Str} (G : OkF X.prog X.w X.K X.mg X.base k x ps n ios F) (hr : Room k X.A) (hg : Gl X x)
    (ha : VA X C (e :: es) sl tr Tr) (hss : (ios.map fun k => (sl[k]?).getD none) = ss := by rfl) (hn : sl.length = n := by rfl) (hi : ∀ i ∈ ios, i < n := by decide) (hdb : (x == ("__debug__" : Str)) = false := by decide) (he : starEach (e :: es) X.env = (false, eval e X.env) :: starEach es X.env := by rfl) (hpl : (backTo pos (starEach es X.env)).any (·.1) = false := by rfl) :
    VE X C (.Call (.Name x p) (e :: es) [] pos) (tCall (spOf X.K n ios F) [] E0 tr) (xCall F ss Tr) := by
  obtain ⟨f, fd, g, kp, b, _, _, G⟩ := G.ex
  rw [← hss]
  exact ve_call G hr hg g kp b ha hn hi hdb he hpl
theorem vf_callKw {k : Nat} {ps : List Str} {n : Nat} {F : FS} {x : Str} {kws : List Keyword} {tk : TA} {Tk : XA} (G : OkF X.prog X.w X.K X.mg X.base k x ps n [] F) (hr : Room k X.A) (hg : Gl X x)
    (hw : VK' X C kws n tk Tk) (hl : ps.length = n := by rfl) (hall : (backToKw pos (keywordEach kws X.env)).all (·.1.isSome) = true := by rfl) (hks : (backToKw pos (keywordEach kws X.env)).filterMap (·.1) = ps := by rfl)
    (hdb : (x == ("__debug__" : Str)) = false := by decide) (hpl : ((backTo pos (starEach [] X.env)).any (·.1) || (backToKw pos (keywordEach kws X.env)).any (·.1.isNone)) = false := by rfl) :
    VE X C (.Call (.Name x p) [] kws pos) (tCallK (spOf X.K n [] F) (fun _ ws => ws) E0 tNil tk) (xCall F [] Tk) := by
  obtain ⟨f, fd, g, kp, _, b, _, G⟩ := G.ex
  refine ⟨⟨fun pins s σ H Q I h => ?_⟩, fun {N σ ρ H vs ds Q} R q => ?_⟩
  · refine wpAny_Call_Name_kw (ld_glob I hg g ?_ hdb)
    refine PySem.W.callWith_KW0 (h₀ := X.base) I.ok.mod.kin kp hall ?_ hpl
    refine thn (hw.pk.run pos pins s σ H _ I h) fun ws s2 ⟨zs, H2, I2, rz, q2⟩ => ⟨I2.kIn, ?_⟩
    rw [hks]
    have hlen : ws.length = ps.length := by rw [← rz.length]; exact G.len _ _ _ _ q2
    refine wpAny_call (codeAny_mono (G.run X.A X.stack s2 H2 ⟨[], ps.zip ws⟩ ws zs Q E0 hr I2.env0 (b s2 ws hlen) rz q2) fun r s' hq => ?_)
    cases r with
    | error e => exact False.elim hq
    | ok fl =>
      cases fl with
      | ret u => exact I2.after hq
      | next => exact False.elim hq
      | brk => exact False.elim hq
      | cont => exact False.elim hq
  · refine hw.sk R (Tk.mono (fun fs ρ1 h xs N1 H1 R1 hl => ?_) q)
    exact call_ok (sl := List.replicate n none) (ios := []) R1 ⟨by rw [hl, List.length_replicate], fun k i hk => by
      rw [List.getElem?_replicate] at hk
      split at hk <;> cases hk⟩ (by rw [List.length_replicate]) (fun _ z => by cases z) h
/-- f(q = b, p = a), p ahead of q in the def: evaluated as they are written -/
def xSw (T : XA) : XA := ⟨fun ρ Q => T.f ρ fun fs ρ' => ∃ a b, fs = [b, a] ∧ Q [a, b] ρ', fun m q => T.mono (fun _ _ ⟨a, b, e, h⟩ => ⟨a, b, e, m _ _ h⟩) q⟩
def tSw (sp : Sp) (tk : TA) : TE := fun σ H Q => tk σ H fun vs H1 => ∃ x y, vs = [y, x] ∧ sp [x, y] H1 Q E0
theorem Rl.swap {K : Fg} {C : Ct} {N : AS} {σ : Sts} {ρ : Ev} {H : Hp} {x y : V} {d e : D} {vs : List V} {ds : List D} (R : Rl K C N σ ρ H [y, x] [e, d] vs ds) : Rl K C N σ ρ H [x, y] [d, e] vs ds := by
  obtain ⟨A, B1, B2, hA, h1, h2, d1, d2, ow⟩ := R.ex
  obtain ⟨v, vr, A1, A2, ev, r1, r2, s1, s2, dj⟩ := h1
  cases ev
  obtain ⟨v', vr', A3, A4, ev, r3, r4, s3, s4, dj2⟩ := r2
  cases ev
  exact ⟨⟨A, B1, B2, hA, ⟨x, [y], A3, A1, rfl, r3, ⟨y, [], A1, AS0, rfl, r1, rfl, fun _ z => z, fun _ z => z.elim, fun _ _ z => z⟩, fun q z => s2 q (s3 q z), s1, fun q z w => dj q w (s3 q z)⟩, h2, d1, d2, ow⟩, R.nh, R.h0, R.n0, R.fr, R.xt, R.pr, R.dm⟩
theorem vf_callSw {k : Nat} {p1 p2 : Str} {F : FS} {x : Str} {kws : List Keyword} {tk : TA} {Tk : XA} (G : OkF X.prog X.w X.K X.mg X.base k x [p1, p2] 2 [] F) (hr : Room k X.A) (hg : Gl X x)
    (hw : VK' X C kws 2 tk Tk) (hall : (backToKw pos (keywordEach kws X.env)).all (·.1.isSome) = true := by rfl) (hks : (backToKw pos (keywordEach kws X.env)).filterMap (·.1) = [p2, p1] := by rfl)
    (hdb : (x == ("__debug__" : Str)) = false := by decide) (hpl : ((backTo pos (starEach [] X.env)).any (·.1) || (backToKw pos (keywordEach kws X.env)).any (·.1.isNone)) = false := by rfl) :
    VE X C (.Call (.Name x p) [] kws pos) (tSw (spOf X.K 2 [] F) tk) (xCall F [] (xSw Tk)) := by
  obtain ⟨f, fd, g, kp, _, _, b, G⟩ := G.ex
  refine ⟨⟨fun pins s σ H Q I h => ?_⟩, fun {N σ ρ H vs ds Q} R q => ?_⟩
  · refine wpAny_Call_Name_kw (ld_glob I hg g ?_ hdb)
    refine PySem.W.callWith_KW0 (h₀ := X.base) I.ok.mod.kin kp hall ?_ hpl
    refine thn (hw.pk.run pos pins s σ H _ I h) fun ws s2 ⟨zs, H2, I2, rz, a, c, e, q2⟩ => ⟨I2.kIn, ?_⟩
    subst e
    rw [hks]
    cases rz with
    | cons r1 rr =>
      cases rr with
      | cons r2 rr =>
        cases rr
        refine wpAny_call (codeAny_mono (G.run X.A X.stack s2 H2 ⟨[], [(p2, _), (p1, _)]⟩ [_, _] [a, c] Q E0 hr I2.env0 (b s2 p1 p2 _ _ rfl) (.cons r2 (.cons r1 .nil)) q2) fun r s' hq => ?_)
        cases r with
        | error e => exact False.elim hq
        | ok fl =>
          cases fl with
          | ret u => exact I2.after hq
          | next => exact False.elim hq
          | brk => exact False.elim hq
          | cont => exact False.elim hq
  · refine hw.sk R (Tk.mono (fun fs ρ1 h xs N1 H1 R1 hl => ?_) q)
    obtain ⟨a, c, rfl, h⟩ := h
    obtain ⟨y, x', A, B, rfl, _, _⟩ := R1.twoL
    exact ⟨x', y, rfl, call_ok (sl := List.replicate 2 none) (ios := []) R1.swap ⟨rfl, fun k i hk => by
      rw [List.getElem?_replicate] at hk
      split at hk <;> cases hk⟩ (by rw [List.length_replicate]) (fun _ z => by cases z) h⟩
/-- a slot's value handed out; the slot holds nothing from here on -/
def xMv (i : Nat) : XE := ⟨fun ρ Q => ∃ d, ρ[i]? = some (some d) ∧ Q d (ρ.set i none), fun m ⟨d, h1, q⟩ => ⟨d, h1, m _ _ q⟩⟩
theorem ve_mv (i : Nat) (h : PE X e (tVar i)) : VE X C e (tVar i) (xMv i) := by
  refine ⟨h, fun R q => ?_⟩
  obtain ⟨d, h1, q⟩ := q
  obtain ⟨v, e1, R1⟩ := R.lend h1
  exact ⟨v, e1, q v _ _ R1⟩
theorem vs_setN {i : Nat} {x : Str} {ios : List Nat} {pos' : Pos} (hN : X.N.Nodup) (hi : X.N[i]? = some x) (hx : Loc X.env.scope x) (he : VE X C e te Te) (hC : ∀ p ∈ C.prot, p.1 ∈ ios) (hio : i ∉ ios := by decide) (hs : swapsWith e (some (.Name x pos')) pos.line X.env = pure false := by rfl) (hf : X.fn x = true ∨ X.env.scope.names.lookup x = some .local := by first | exact .inl rfl | exact .inr rfl | assumption) :
    VS X C (.Assign [.Name x pos'] e pos) (tAsg te (gName i)) (xAsg Te (xgName i)) := vs_set (ps_set hN hi hx he.pe hs hf) he hC hio
theorem vs_parN {i j : Nat} {x y : Str} {ios : List Nat} {px py pt : Pos} {kt k2 pt2} (hc : X.calm = true) (hN : X.N.Nodup) (hi : X.N[i]? = some x) (hj : X.N[j]? = some y) (hij : i ≠ j) (hx : X.env.scope.names.lookup x = some .local) (hy : X.env.scope.names.lookup y = some .local) (ha : VA X C [a, b] sl tr Tr) (hC : ∀ p ∈ C.prot, p.1 ∈ ios)
    (hw : swappedStores [.Tuple [.Name x px, .Name y py] kt pt] (.Tuple [a, b] k2 pt2) X.env = pure (some [x, y])) (hio : i ∉ ios := by decide) (hjo : j ∉ ios := by decide) (hs : swapsWithSole [.Tuple [.Name x px, .Name y py] kt pt] (.Tuple [a, b] k2 pt2) pos.line X.env = pure false := by rfl) :
    VS X C (.Assign [.Tuple [.Name x px, .Name y py] kt pt] (.Tuple [a, b] k2 pt2) pos) (tPar i j tr) (xPar [i, j] Tr) := vs_par (ps_par hc hN hi hj hij hx hy ha.pa hw hs) ha hC hio hjo
theorem vs_par3N {i j l : Nat} {x y z : Str} {ios : List Nat} {px py pz pt : Pos} {kt k2 pt2} (hc : X.calm = true) (hN : X.N.Nodup) (hi : X.N[i]? = some x) (hj : X.N[j]? = some y) (hl : X.N[l]? = some z) (hij : i ≠ j) (hil : i ≠ l) (hjl : j ≠ l) (hx : X.env.scope.names.lookup x = some .local) (hy : X.env.scope.names.lookup y = some .local) (hz : X.env.scope.names.lookup z = some .local) (ha : VA X C [a, b, c] sl tr Tr) (hC : ∀ p ∈ C.prot, p.1 ∈ ios)
    (hw : swappedStores [.Tuple [.Name x px, .Name y py, .Name z pz] kt pt] (.Tuple [a, b, c] k2 pt2) X.env = pure (some [x, y, z])) (hio : i ∉ ios := by decide) (hjo : j ∉ ios := by decide) (hlo : l ∉ ios := by decide) (hs : swapsWithSole [.Tuple [.Name x px, .Name y py, .Name z pz] kt pt] (.Tuple [a, b, c] k2 pt2) pos.line X.env = pure false := by rfl) :
    VS X C (.Assign [.Tuple [.Name x px, .Name y py, .Name z pz] kt pt] (.Tuple [a, b, c] k2 pt2) pos) (tPar3 i j l tr) (xPar [i, j, l] Tr) := vs_par3 (ps_par3 hc hN hi hj hl hij hil hjl hx hy hz ha.pa hw hs) ha hC hio hjo hlo
theorem vf_lc {elt tg iter : Expr} {ifs : List Expr} {tF : Shared → Hp → Addr → List (Str × Addr) → List Addr → TT} {Ut : XT} {gF : Shared → Hp → Addr → List (Str × Addr) → List Addr → TG} {eF : Shared → Hp → Addr → List (Str × Addr) → List Addr → TE} {Tg : XG} {wi : TI} {Ti : XI} {scope : Scope} {own : List (Str × Nat)} {us ios : List Nat} (hc : X.calm = true) (hN : X.N.Nodup) (ok : BlkOk X.N X.env.scope scope own) (hC : ∀ p ∈ C.prot, p.1 ∈ ios) (hu : ∀ i ∈ us, i ∉ ios) (hi : VI X C tg iter wi Ti) (gw : ∀ (s : Shared) (H : Hp) (C' : Addr) (cl : List (Str × Addr)) (fp : List Addr), GW us (gF s H C' cl fp))
    (hg : ∀ (s : Shared) (H : Hp) (C' : Addr) (cl : List (Str × Addr)) (fp : List Addr), VG (X.blk s H scope (compEnvC scope cl C' X.env) fp) C tg (gF s H C' cl fp) Tg) (ht : ∀ (s : Shared) (H : Hp) (C' : Addr) (cl : List (Str × Addr)) (fp : List Addr), VTs (X.blk s H scope (compEnvC scope cl C' X.env) fp) C ifs (tF s H C' cl fp) Ut)
    (he : ∀ (s : Shared) (H : Hp) (C' : Addr) (cl : List (Str × Addr)) (fp : List Addr), VE (X.blk s H scope (compEnvC scope cl C' X.env) fp) C elt (eF s H C' cl fp) Te) (hus : own.map (·.2) = us) (hs : ∀ x, foldedSetIterable iter X.env x = pure x) :
    VE X C (.ListComp elt [⟨tg, iter, ifs, 0⟩] scope pos) (tLc wi (allG gF) (allT tF) (allE eF) us) (xLc Ti Tg Ut Te us) := by
  subst hus
  exact ve_lc hc hN ok hC hu hi gw hg ht he hs
theorem vf_setLc {elt tg iter : Expr} {ifs : List Expr} {tF : Shared → Hp → Addr → List (Str × Addr) → List Addr → TT} {Ut : XT} {gF : Shared → Hp → Addr → List (Str × Addr) → List Addr → TG} {eF : Shared → Hp → Addr → List (Str × Addr) → List Addr → TE} {Tg : XG} {wi : TI} {Ti : XI} {i : Nat} {y : Str} {py spos : Pos} {scope : Scope} {own : List (Str × Nat)} {us ios : List Nat} (hc : X.calm = true) (hN : X.N.Nodup) (hy : X.N[i]? = some y) (hyl : X.env.scope.names.lookup y = some .local) (hsw : swapsWith (.ListComp elt [⟨tg, iter, ifs, 0⟩] scope pos) (some (.Name y py)) spos.line X.env = pure true)
    (ok : BlkOk X.N X.env.scope scope own) (hC : ∀ p ∈ C.prot, p.1 ∈ ios) (hu : ∀ i ∈ us, i ∉ ios) (hi : VI X C tg iter wi Ti) (gw : ∀ (s : Shared) (H : Hp) (C' : Addr) (cl : List (Str × Addr)) (fp : List Addr), GW us (gF s H C' cl fp))
    (hg : ∀ (s : Shared) (H : Hp) (C' : Addr) (cl : List (Str × Addr)) (fp : List Addr), VG (X.blk s H scope (compEnvC scope cl C' X.env) fp) C tg (gF s H C' cl fp) Tg) (ht : ∀ (s : Shared) (H : Hp) (C' : Addr) (cl : List (Str × Addr)) (fp : List Addr), VTs (X.blk s H scope (compEnvC scope cl C' X.env) fp) C ifs (tF s H C' cl fp) Ut)
    (he : ∀ (s : Shared) (H : Hp) (C' : Addr) (cl : List (Str × Addr)) (fp : List Addr), VE (X.blk s H scope (compEnvC scope cl C' X.env) fp) C elt (eF s H C' cl fp) Te) (hus : own.map (·.2) = us) (hio : i ∉ ios) (hs : ∀ x, foldedSetIterable iter X.env x = pure x) :
    VS X C (.Assign [.Name y py] (.ListComp elt [⟨tg, iter, ifs, 0⟩] scope pos) spos) (tAsg (tLc wi (allG gF) (allT tF) (allE eF) us) (gName i)) (xAsg (xLc Ti Tg Ut Te us) (xgName i)) := by
  subst hus
  exact vs_setLc hc hN hy hyl hsw ok hC hu hi gw hg ht he hio hs
theorem vf_setLcF {elt tg iter : Expr} {ifs : List Expr} {tF : Shared → Hp → Addr → List (Str × Addr) → List Addr → TT} {Ut : XT} {gF : Shared → Hp → Addr → List (Str × Addr) → List Addr → TG} {eF : Shared → Hp → Addr → List (Str × Addr) → List Addr → TE} {Tg : XG} {wi : TI} {Ti : XI} {i : Nat} {y : Str} {py spos : Pos} {scope : Scope} {own : List (Str × Nat)} {us ios : List Nat} (hc : X.calm = true) (hN : X.N.Nodup) (hy : X.N[i]? = some y) (hyl : X.env.scope.names.lookup y = some .local) (hsw : swapsWith (.ListComp elt [⟨tg, iter, ifs, 0⟩] scope pos) (some (.Name y py)) spos.line X.env = pure true)
    (ok : BlkOk X.N X.env.scope scope own) (hC : ∀ p ∈ C.prot, p.1 ∈ ios) (hu : ∀ i ∈ us, i ∉ ios) (hi : VI X C tg iter wi Ti) (gw : ∀ (s : Shared) (H : Hp) (C' : Addr) (cl : List (Str × Addr)) (fp : List Addr), GW us (gF s H C' cl fp))
    (hg : ∀ (s : Shared) (H : Hp) (C' : Addr) (cl : List (Str × Addr)) (fp : List Addr), VG (X.blk s H scope (compEnvC scope cl C' X.env) fp) C tg (gF s H C' cl fp) Tg) (ht : ∀ (s : Shared) (H : Hp) (C' : Addr) (cl : List (Str × Addr)) (fp : List Addr), VTs (X.blk s H scope (compEnvC scope cl C' X.env) fp) C ifs (tF s H C' cl fp) Ut)
    (he : ∀ (s : Shared) (H : Hp) (C' : Addr) (cl : List (Str × Addr)) (fp : List Addr), VE (X.blk s H scope (compEnvC scope cl C' X.env) fp) C elt (eF s H C' cl fp) Te) (hus : own.map (·.2) = us) (hio : i ∉ ios) (hs : ∀ x, foldedSetIterable iter X.env x = pure x) :
    VS X C (.Assign [.Name y py] (.ListComp elt [⟨tg, iter, ifs, 0⟩] scope pos) spos) (tAsg (tLc wi (allG gF) (allT tF) (allE eF) us) (gName i)) (xAsg (xFrz (xLc Ti Tg Ut Te us)) (xgName i)) := by
  subst hus
  exact vs_setLcF hc hN hy hyl hsw ok hC hu hi gw hg ht he hio hs
theorem ve_appN (i : Nat) {apos : Pos} {o : Expr} (ho : PE X o (tVar i)) (he : VE X C e te Te) (hbase : attributeBase o "append" X.env (eval o X.env) = eval o X.env := by rfl)
    (hfew : ((backTo pos (starEach (e :: []) X.env)).all (fun x => !x.1) && (backToKw pos (keywordEach [] X.env)).all (fun x => x.1.isSome)
      && decide ((e :: ([] : List Expr)).length + ([] : List Keyword).length + (if ([] : List Keyword).isEmpty then 0 else 1) < 30)) = true := by rfl)
    (hline : (apos.endLine == pos.line) = true := by rfl) (hs : starEach (e :: []) X.env = (false, eval e X.env) :: starEach [] X.env := by rfl) (hplain : (backTo pos (starEach [] X.env)).any (·.1) = false := by rfl) :
    VE X C (.Call (.Attribute o "append" apos) [e] [] pos) (tBM X.K "list" rAppend (tVar i) (tCons te tNil)) (xApp i Te) :=
  ve_app i ho he (pe_bm PySem.F.plainAttrs_list PySem.F.slot_list_append PySem.F.type_list_append mt_append ho (pa_cons he.pe pa_nil hs) hbase hfew hline hs hplain)
theorem vt_eqS (i : Nat) (hu : X.A.units + 64 < cLine) (ha : PE X a (tVar i)) (hb : VE X C b tb Tb) (hm : behindInMarks .Eq b = false) : VT X C (.Compare a [.Eq] [b] pos) (tTest (tOp (rEqX X.K) (tVar i) tb)) (xTst (xEqS i false Tb)) :=
  vt_of (ve_eqS i hu ha hb hm) (pt_cmpR (op_eqX hu) ha hb.pe hm)
theorem vt_neS (i : Nat) (hu : X.A.units + 64 < cLine) (ha : PE X a (tVar i)) (hb : VE X C b tb Tb) (hm : behindInMarks .NotEq b = false) : VT X C (.Compare a [.NotEq] [b] pos) (tTest (tOp (rNeX X.K) (tVar i) tb)) (xTst (xEqS i true Tb)) :=
  vt_of (ve_neS i hu ha hb hm) (pt_cmpR (op_neX hu) ha hb.pe hm)
variable {g : TG} {gs : TGs} {Tgs : XGs}
/-- (a, b, ..) = (x, y, ..) by way of a tuple: what owns may go in -/
def xTupAsg (n : Nat) (T : XA) (U : XGs) : XS := ⟨fun G ρ => T.f ρ fun fs ρ1 => fs.length = n ∧ fs.length ≤ sizeLine ∧ U.f fs ρ1 G.nx, fun l q => T.mono (fun _ _ h => ⟨h.1, h.2.1, U.mono (fun _ z => l.nx _ z) h.2.2⟩) q⟩
theorem vs_tupN {tgs : List Expr} {k k2 n : Nat} {pt : Pos} (hc : X.calm = true) (ha : VA X C es sl tr Tr) (hg : VGs X C tgs gs Tgs) (hn : (assignEach tgs X.env).length = n := by rfl) (hst : (assignEach tgs X.env).findIdx? (·.1) = none := by rfl) (hs : swapsWithSole [.Tuple tgs k pt] (.Tuple es k2 p2) pos.line X.env = pure false := by rfl) (hw : swappedStores [.Tuple tgs k pt] (.Tuple es k2 p2) X.env = pure none := by rfl)
    (h1 : (assignEach [.Tuple tgs k pt] X.env).map (·.2) = [assign (.Tuple tgs k pt) X.env] := by rfl) : VS X C (.Assign [.Tuple tgs k pt] (.Tuple es k2 p2) pos) (tAsg (tTup tr) (gTup X.K n gs)) (xTupAsg n Tr Tgs) := by
  refine ⟨ps_asg (pe_tup ha.pa) (pg_tup hc hg.pg hn hst) hs hw h1, fun R q L => ha.sa R (Tr.mono (fun fs ρ1 h xs N1 H1 R1 _ => ?_) q)⟩
  obtain ⟨h1, h2, h⟩ := h
  obtain ⟨A, r⟩ := R1.top
  refine ⟨by rw [← r.length]; exact h2, fun p np => ⟨p, xs, rfl, .inl (.inl upd_same), by rw [← r.length]; exact h1, ?_⟩⟩
  exact hg.sg (R1.alloc np) (Tgs.mono (fun ρ2 z N2 σ2 H2 R2 => L.nx _ _ _ _ R2 z) h)
end
end BV

/-! BV, part O: to run a reading, step by step. -/
namespace BV
open PySem PySem.Spec PyProof.Rows L2
abbrev GoB (ios : List Nat) (post : D → List D → Prop) : DE := { nx := fun ρ => ∃ outs, outsOf ios ρ = outs.map some ∧ post .non outs, rt := fun r ρ => ∃ outs, outsOf ios ρ = outs.map some ∧ post r outs, bk := fun _ => False, ct := fun _ => False }
def Pf (F : FS) (T : XS) (ios : List Nat) (m : Nat) : Prop := ∀ (ds : List D) (Q : D → List D → Prop), F.f ds Q → T.f (GoB ios Q) (ds.map some ++ List.replicate m none)
theorem pf_ex {α : Type} {args : α → List D} {pre : α → Prop} {post : α → D → List D → Prop} {T : XS} {ios : List Nat} {m : Nat} (h : ∀ x, pre x → ∀ R N, (∀ r ρ o, outsOf ios ρ = o.map some → post x r o → R r ρ) → (∀ ρ o, outsOf ios ρ = o.map some → post x .non o → N ρ) → T.f ⟨N, R, fun _ => False, fun _ => False⟩ ((args x).map some ++ List.replicate m none)) : Pf (FS.ex args pre post) T ios m := by
  rintro ds Q ⟨x, rfl, hp, q⟩
  exact h x hp _ _ (fun r ρ o h1 h2 => ⟨o, h1, q _ _ h2⟩) (fun ρ o h1 h2 => ⟨o, h1, q _ _ h2⟩)
inductive At : Ev → Nat → D → Prop
  | z {d : D} {r : Ev} : At (some d :: r) 0 d
  | s {a : Option D} {r : Ev} {i : Nat} {d : D} : At r i d → At (a :: r) (i + 1) d
theorem At.get : ∀ {ρ : Ev} {i : Nat} {d : D}, At ρ i d → ρ[i]? = some (some d)
  | _, _, _, .z => rfl
  | _, _, _, .s h => by rw [List.getElem?_cons_succ]; exact h.get
inductive Put : Ev → Nat → Option D → Ev → Prop
  | z {x a : Option D} {r : Ev} : Put (a :: r) 0 x (x :: r)
  | s {x a : Option D} {r r' : Ev} {i : Nat} : Put r i x r' → Put (a :: r) (i + 1) x (a :: r')
theorem Put.eq : ∀ {ρ ρ' : Ev} {i : Nat} {x : Option D}, Put ρ i x ρ' → ρ.set i x = ρ'
  | _, _, _, _, .z => rfl
  | _, _, _, _, .s h => by rw [List.set_cons_succ, h.eq]
inductive LSet : List D → Nat → D → List D → Prop
  | z {x a : D} {r : List D} : LSet (a :: r) 0 x (x :: r)
  | s {x a : D} {r r' : List D} {i : Nat} : LSet r i x r' → LSet (a :: r) (i + 1) x (a :: r')
theorem LSet.eq : ∀ {ρ ρ' : List D} {i : Nat} {x : D}, LSet ρ i x ρ' → ρ.set i x = ρ'
  | _, _, _, _, .z => rfl
  | _, _, _, _, .s h => by rw [List.set_cons_succ, h.eq]
section
variable {ρ ρ' : Ev} {n b c : Ev → Prop} {r : D → Ev → Prop} {G : DE} {S T : XS} {U A B : XT} {Ta Tb Tc : XE} {R Ra Rb : XA} {Q : D → Ev → Prop} {QA : List D → Ev → Prop} {QT : Bool → Ev → Prop} {QN : Ev → Prop} {i j : Nat} {d e : D}
theorem i_seq (q : S.f ⟨T.f ⟨n, r, b, c⟩, r, b, c⟩ ρ) : (xSeq S T).f ⟨n, r, b, c⟩ ρ := q
theorem i_ret (q : Ta.f ρ r) : (xRet Ta).f ⟨n, r, b, c⟩ ρ := q
theorem i_retN (q : r .non ρ) : xRetN.f ⟨n, r, b, c⟩ ρ := q
theorem i_next (q : n ρ) : xNext.f ⟨n, r, b, c⟩ ρ := q
theorem i_brk (q : b ρ) : xBrk.f ⟨n, r, b, c⟩ ρ := q
theorem i_cont (q : c ρ) : xCont.f ⟨n, r, b, c⟩ ρ := q
theorem i_ifs (q : U.f ρ fun k ρ1 => (k = true → S.f ⟨n, r, b, c⟩ ρ1) ∧ (k = false → T.f ⟨n, r, b, c⟩ ρ1)) : (xIfS U S T).f ⟨n, r, b, c⟩ ρ := q
theorem i_do (q : Ta.f ρ fun _ ρ1 => n ρ1) : (xDo Ta).f ⟨n, r, b, c⟩ ρ := q
theorem i_asg {Tg : XG} (q : Ta.f ρ fun d ρ1 => Tg.f d ρ1 n) : (xAsg Ta Tg).f ⟨n, r, b, c⟩ ρ := q
theorem i_gname (h : Put ρ i (some d) ρ') (q : QN ρ') : (xgName i).f d ρ QN := by
  show QN (ρ.set i (some d))
  rw [h.eq]; exact q
theorem i_name (h : At ρ i d) (hs : d.sh = true) (q : Q d ρ) : (xName i).f ρ Q := ⟨d, h.get, hs, q⟩
theorem i_mv (h : At ρ i d) (p : Put ρ i none ρ') (q : Q d ρ') : (xMv i).f ρ Q := ⟨d, h.get, by rw [p.eq]; exact q⟩
theorem i_C (q : Q d ρ) : (xC d).f ρ Q := q
theorem i_bin {g : D → D → Option D} (q : Ta.f ρ fun d ρ1 => Tb.f ρ1 fun e ρ2 => ∃ z, g d e = some z ∧ Q z ρ2) : (xBin g Ta Tb).f ρ Q := q
theorem i_un {g : D → Option D} (q : Ta.f ρ fun d ρ1 => ∃ z, g d = some z ∧ Q z ρ1) : (xUn g Ta).f ρ Q := q
theorem i_fn {g : D → D} (q : Ta.f ρ fun d ρ1 => Q (g d) ρ1) : (xFn g Ta).f ρ Q := q
theorem i_isi {g : D → Bool} (q : Ta.f ρ fun d ρ1 => d.kd = false ∧ Q (.bl (g d)) ρ1) : (xIsi g Ta).f ρ Q := q
theorem i_kd {X : Prop} (h : d.kd = false) (q : X) : d.kd = false ∧ X := ⟨h, q⟩
theorem i_some {α : Type} {o : Option α} {z : α} {P : α → Prop} (e : o = some z) (q : P z) : ∃ z, o = some z ∧ P z := ⟨z, e, q⟩
theorem i_tst (q : Ta.f ρ fun d ρ' => ∃ k, d = .bl k ∧ QT k ρ') : (xTst Ta).f ρ QT := q
theorem i_tru (q : Ta.f ρ fun d ρ' => ∃ k, d.tru = some k ∧ QT k ρ') : (xTru Ta).f ρ QT := q
theorem i_bl {k : Bool} {P : Bool → Prop} (q : P k) : ∃ k', D.bl k = D.bl k' ∧ P k' := ⟨k, rfl, q⟩
theorem i_chain {g g' : Int → Int → Bool} (q : Ta.f ρ fun d ρ1 => Tb.f ρ1 fun e ρ2 => ∃ i j, d = .int i ∧ e = .int j ∧ (g i j = true → Tc.f ρ2 fun f ρ3 => ∃ k, f = .int k ∧ Q (.bl (g' j k)) ρ3) ∧ (g i j = false → Q (.bl false) ρ2)) : (xChain g g' Ta Tb Tc).f ρ Q := q
theorem i_ints {i j : Int} {P : Int → Int → Prop} (q : P i j) : ∃ i' j', D.int i = .int i' ∧ D.int j = .int j' ∧ P i' j' := ⟨i, j, rfl, rfl, q⟩
theorem i_int {i : Int} {P : Int → Prop} (q : P i) : ∃ i', D.int i = .int i' ∧ P i' := ⟨i, rfl, q⟩
theorem i_and (q : A.f ρ fun k ρ1 => (k = true → B.f ρ1 QT) ∧ (k = false → QT false ρ1)) : (xAnd A B).f ρ QT := q
theorem i_or (q : A.f ρ fun k ρ1 => (k = true → QT true ρ1) ∧ (k = false → B.f ρ1 QT)) : (xOr A B).f ρ QT := q
theorem i_not (q : A.f ρ fun k ρ1 => QT (!k) ρ1) : (xNot A).f ρ QT := q
theorem i_andV (q : Ta.f ρ fun d ρ1 => ∃ k, d = .bl k ∧ (k = true → Tb.f ρ1 Q) ∧ (k = false → Q (.bl false) ρ1)) : (xAndV Ta Tb).f ρ Q := q
theorem i_orV (q : Ta.f ρ fun d ρ1 => ∃ k, d = .bl k ∧ (k = true → Q (.bl true) ρ1) ∧ (k = false → Tb.f ρ1 Q)) : (xOrV Ta Tb).f ρ Q := q
theorem i_notV (q : Ta.f ρ fun d ρ1 => ∃ k, d = .bl k ∧ Q (.bl (!k)) ρ1) : (xNotV Ta).f ρ Q := q
theorem i_xif (q : U.f ρ fun k ρ1 => (k = true → Ta.f ρ1 Q) ∧ (k = false → Tb.f ρ1 Q)) : (xIf U Ta Tb).f ρ Q := q
/-- a test whose value is seen -/
theorem i_T {k : Bool} {X Y : Prop} (e : k = true) (q : X) : (k = true → X) ∧ (k = false → Y) := ⟨fun _ => q, fun z => Bool.noConfusion (e.symm.trans z)⟩
theorem i_F {k : Bool} {X Y : Prop} (e : k = false) (q : Y) : (k = true → X) ∧ (k = false → Y) := ⟨fun z => Bool.noConfusion (e.symm.trans z), fun _ => q⟩
theorem i_B {k : Bool} {X Y : Prop} (h1 : k = true → X) (h2 : k = false → Y) : (k = true → X) ∧ (k = false → Y) := ⟨h1, h2⟩
theorem i_nil (q : QA [] ρ) : xNil.f ρ QA := q
theorem i_cons (q : Ta.f ρ fun d ρ1 => R.f ρ1 fun fs ρ2 => QA (d :: fs) ρ2) : (xCons Ta R).f ρ QA := q
theorem i_lend (h : At ρ i d) (p : Put ρ i none ρ') (q : R.f ρ' fun fs ρ2 => QA (d :: fs) ρ2) : (xLend i R).f ρ QA := ⟨d, h.get, by rw [p.eq]; exact q⟩
theorem i_tup (q : R.f ρ fun fs ρ1 => fs.length ≤ sizeLine ∧ fs.all D.sh = true ∧ Q (.tup fs) ρ1) : (xTup R).f ρ Q := q
theorem i_lst (q : R.f ρ fun fs ρ1 => fs.length ≤ sizeLine ∧ Q (.own fs) ρ1) : (xLst R).f ρ Q := q
theorem i_frz (q : Ta.f ρ fun d ρ1 => (∀ ds, d = .own ds → ds.all D.sh = true ∧ Q (.lst ds) ρ1) ∧ (d.sh = true → Q d ρ1) ∧ (∀ k ds, d = .ob k ds → ds.all D.sh = true ∧ Q (.fz k ds) ρ1)) : (xFrz Ta).f ρ Q := q
theorem i_frzO {ds : List D} {P : List D → Prop} {Y : Prop} (hs : ds.all D.sh = true) (q : P ds) {Z : Kd → List D → Prop} : (∀ es, D.own ds = .own es → es.all D.sh = true ∧ P es) ∧ ((D.own ds).sh = true → Y) ∧ (∀ k es, D.own ds = .ob k es → es.all D.sh = true ∧ Z k es) := ⟨fun es e => by cases e; exact ⟨hs, q⟩, fun z => Bool.noConfusion z, fun k es e => D.noConfusion e⟩
theorem i_cal {g : List D → Option D} (q : R.f ρ fun fs ρ1 => ∃ z, g fs = some z ∧ Q z ρ1) : (xCal g R).f ρ Q := q
theorem i_call0 {F : FS} (q : R.f ρ fun fs ρ1 => F.f fs fun r outs => outs = [] ∧ Q r ρ1) : (xCall F [] R).f ρ Q := R.mono (fun fs ρ1 h => F.mono (fun r o z => by
  obtain ⟨rfl, z⟩ := z
  exact ⟨rfl, z⟩) h) q
theorem i_call1 {F : FS} (q : R.f ρ fun fs ρ1 => F.f fs fun r outs => ∃ c ρ2, outs = [c] ∧ Put ρ1 i (some c) ρ2 ∧ Q r ρ2) : (xCall F [some i] R).f ρ Q := R.mono (fun fs ρ1 h => F.mono (fun r o z => by
  obtain ⟨c, ρ2, rfl, p, z⟩ := z
  refine ⟨rfl, ?_⟩
  show Q r (ρ1.set i (some c))
  rw [p.eq]
  exact z) h) q
theorem i_out0 {X : Prop} (q : X) : ([] : List D) = [] ∧ X := ⟨rfl, q⟩
theorem i_out1 {c : D} {P : Ev → Prop} (p : Put ρ i (some c) ρ') (q : P ρ') : ∃ c' ρ2, [c] = [c'] ∧ Put ρ i (some c') ρ2 ∧ P ρ2 := ⟨c, ρ', rfl, p, q⟩
theorem i_lenS {m : Nat} (h : At ρ i d) (e : lenD d = some m) (q : Q (.int m) ρ) : (xLenS i).f ρ Q := ⟨d, m, h.get, e, q⟩
theorem i_truS {k : Bool} (h : At ρ i d) (e : d.tru = some k) (q : QT k ρ) : (xTruS i).f ρ QT := ⟨d, k, h.get, e, q⟩
theorem i_ixS (h : At ρ i d) (q : Ta.f ρ fun k ρ' => ∃ d, At ρ' i d ∧ ∃ z, ixD d k = some z ∧ Q z ρ') : (xIxS i Ta).f ρ Q := ⟨⟨d, h.get⟩, Ta.mono (fun k ρ' z => by
  obtain ⟨d, h, z, e, q⟩ := z
  exact ⟨d, z, h.get, e, q⟩) q⟩
theorem i_eqS (h : At ρ i d) (q : Ta.f ρ fun k ρ' => ∃ d, At ρ' i d ∧ ∃ z, eqD d k = some z ∧ Q (.bl z) ρ') : (xEqS i false Ta).f ρ Q := ⟨⟨d, h.get⟩, Ta.mono (fun k ρ' z => by
  obtain ⟨d, h, z, e, q⟩ := z
  exact ⟨d, z, h.get, e, q⟩) q⟩
theorem i_neS (h : At ρ i d) (q : Ta.f ρ fun k ρ' => ∃ d, At ρ' i d ∧ ∃ z, eqD d k = some z ∧ Q (.bl (!z)) ρ') : (xEqS i true Ta).f ρ Q := ⟨⟨d, h.get⟩, Ta.mono (fun k ρ' z => by
  obtain ⟨d, h, z, e, q⟩ := z
  exact ⟨d, z, h.get, e, q⟩) q⟩
theorem i_at {P : D → Prop} (h : At ρ i d) (q : P d) : ∃ d, At ρ i d ∧ P d := ⟨d, h, q⟩
theorem i_atO {ds : List D} {P : List D → Prop} (h : At ρ i (.own ds)) (q : P ds) : ∃ ds, At ρ i (.own ds) ∧ P ds := ⟨ds, h, q⟩
theorem i_put {x : Option D} {P : Ev → Prop} (h : Put ρ i x ρ') (q : P ρ') : ∃ ρ', Put ρ i x ρ' ∧ P ρ' := ⟨ρ', h, q⟩
theorem i_app {ds : List D} (h : At ρ i (.own ds)) (q : Ta.f ρ fun d ρ' => ∃ zs, At ρ' i (.own zs) ∧ ∃ ρ2, Put ρ' i (some (.own (zs ++ [d]))) ρ2 ∧ zs.length < sizeLine ∧ Q .non ρ2) : (xApp i Ta).f ρ Q := ⟨⟨ds, h.get⟩, Ta.mono (fun d ρ' z => by
  obtain ⟨zs, h, ρ2, p, l, q⟩ := z
  exact ⟨zs, h.get, l, by rw [p.eq]; exact q⟩) q⟩
theorem i_setS (h : At ρ i d) (q : Ta.f ρ fun k ρ' => ∃ zs, At ρ' i (.own zs) ∧ ∃ n j zs2 ρ2, k = .int n ∧ ixN zs.length n = some j ∧ LSet zs j e zs2 ∧ Put ρ' i (some (.own zs2)) ρ2 ∧ QN ρ2) : (xSetS i Ta).f e ρ QN := ⟨⟨d, h.get⟩, Ta.mono (fun k ρ' z => by
  obtain ⟨zs, h, n, j, zs2, ρ2, e1, e2, l, p, q⟩ := z
  exact ⟨zs, n, j, e1, h.get, e2, by rw [l.eq, p.eq]; exact q⟩) q⟩
theorem i_set {n : Int} {ds ds2 : List D} {P : Ev → Prop} (e : ixN ds.length n = some j) (l : LSet ds j d ds2) (p : Put ρ i (some (.own ds2)) ρ') (q : P ρ') : ∃ m j zs2 ρ2, D.int n = .int m ∧ ixN ds.length m = some j ∧ LSet ds j d zs2 ∧ Put ρ i (some (.own zs2)) ρ2 ∧ P ρ2 := ⟨n, j, ds2, ρ', rfl, e, l, p, q⟩
theorem i_join (P : Ev → Prop) (h1 : S.f ⟨P, r, b, c⟩ ρ) (h2 : ∀ ρ, P ρ → T.f ⟨n, r, b, c⟩ ρ) : (xSeq S T).f ⟨n, r, b, c⟩ ρ := S.mono (G := ⟨P, r, b, c⟩) (G' := ⟨T.f ⟨n, r, b, c⟩, r, b, c⟩) ⟨h2, fun _ _ z => z, fun _ z => z, fun _ z => z⟩ h1
/-- to forget how a value came about -/
theorem i_cut (P : D → Ev → Prop) (h1 : Ta.f ρ P) (h2 : ∀ d ρ, P d ρ → Q d ρ) : Ta.f ρ Q := Ta.mono h2 h1
theorem i_sl {L H : XO} (q : Ta.f ρ fun d ρ1 => L.f ρ1 fun l ρ2 => H.f ρ2 fun u ρ3 => ∃ z, cutD d l u = some z ∧ Q z ρ3) : (xSl Ta L H).f ρ Q := q
theorem i_oN {QO : Option Int → Ev → Prop} (q : QO none ρ) : xoNone.f ρ QO := q
theorem i_oS {QO : Option Int → Ev → Prop} (q : Ta.f ρ fun d ρ' => ∃ i, d = .int i ∧ QO (some i) ρ') : (xoSome Ta).f ρ QO := q
theorem i_gnil (q : QN ρ) : xgNil.f [] ρ QN := ⟨rfl, q⟩
theorem i_gcons {Tg : XG} {Ug : XGs} {ds : List D} (q : Tg.f d ρ fun ρ1 => Ug.f ds ρ1 QN) : (xgCons Tg Ug).f (d :: ds) ρ QN := ⟨d, ds, rfl, q⟩
theorem i_gtup {m : Nat} {Ug : XGs} {ds : List D} (hl : ds.length = m) (q : Ug.f ds ρ QN) : (xgTup m Ug).f (.tup ds) ρ QN := ⟨ds, rfl, hl, q⟩
theorem i_tupA {m : Nat} {Ug : XGs} (q : R.f ρ fun fs ρ1 => fs.length = m ∧ fs.length ≤ sizeLine ∧ Ug.f fs ρ1 n) : (xTupAsg m R Ug).f ⟨n, r, b, c⟩ ρ := q
inductive Puts : Ev → List Nat → List D → Ev → Prop
  | n {ρ : Ev} : Puts ρ [] [] ρ
  | c {ρ ρ1 ρ2 : Ev} {i : Nat} {is : List Nat} {d : D} {ds : List D} : Put ρ i (some d) ρ1 → Puts ρ1 is ds ρ2 → Puts ρ (i :: is) (d :: ds) ρ2
theorem Puts.eq : ∀ {ρ ρ' : Ev} {is : List Nat} {ds : List D}, Puts ρ is ds ρ' → ds.length = is.length ∧ (is.zip ds).foldl (fun r p => r.set p.1 (some p.2)) ρ = ρ'
  | _, _, _, _, .n => ⟨rfl, rfl⟩
  | _, _, _, _, .c h h2 => by
    obtain ⟨e1, e2⟩ := h2.eq
    refine ⟨by rw [List.length_cons, List.length_cons, e1], ?_⟩
    rw [List.zip_cons_cons, List.foldl_cons]
    show List.foldl _ (List.set _ _ _) _ = _
    rw [h.eq]
    exact e2
theorem i_par {is : List Nat} (q : R.f ρ fun fs ρ1 => ∃ ρ2, Puts ρ1 is fs ρ2 ∧ n ρ2) : (xPar is R).f ⟨n, r, b, c⟩ ρ := R.mono (fun fs ρ1 z => by
  obtain ⟨ρ2, p, z⟩ := z
  obtain ⟨e1, e2⟩ := p.eq
  exact ⟨e1, by rw [e2]; exact z⟩) q
theorem i_puts {is : List Nat} {fs : List D} {P : Ev → Prop} (p : Puts ρ is fs ρ') (q : P ρ') : ∃ ρ2, Puts ρ is fs ρ2 ∧ P ρ2 := ⟨ρ', p, q⟩
theorem i_iseq {QI : List D → Ev → Prop} (q : Ta.f ρ fun d ρ1 => ∃ zs, d.seq = some zs ∧ zs.all D.sh = true ∧ QI zs ρ1) : (xiSeq Ta).f ρ QI := q
theorem i_rng1 {QI : List D → Ev → Prop} (q : R.f ρ fun fs ρ1 => ∃ j : Int, fs = [.int j] ∧ -(2 ^ 62) ≤ j ∧ j < 2 ^ 62 ∧ QI (rngD 0 j.toNat) ρ1) : (xiRng1 R).f ρ QI := q
theorem i_rng2 {QI : List D → Ev → Prop} (q : R.f ρ fun fs ρ1 => ∃ i j : Int, fs = [.int i, .int j] ∧ (-(2 ^ 62) ≤ i ∧ i < 2 ^ 62 ∧ -(2 ^ 62) ≤ j ∧ j < 2 ^ 62) ∧ QI (rngD i (j - i).toNat) ρ1) : (xiRng2 R).f ρ QI := q
theorem i_ienum {QI : List D → Ev → Prop} (q : R.f ρ fun fs ρ1 => ∃ d zs, fs = [d] ∧ d.seq = some zs ∧ zs.all D.sh = true ∧ QI (enumD 0 zs) ρ1) : (xiEnum R).f ρ QI := q
theorem i_for {I : XI} {Tg : XG} (q : I.f ρ fun zs ρ1 => ∃ J : Nat → Ev → Prop, J 0 ρ1 ∧ (∀ k z ρ, zs[k]? = some z → J k ρ → Tg.f z ρ fun ρ2 => S.f ⟨J (k + 1), r, n, J (k + 1)⟩ ρ2) ∧ ∀ ρ, J zs.length ρ → n ρ) : (xFor I Tg S).f ⟨n, r, b, c⟩ ρ := q
theorem i_while (J : Ev → Prop) (μ : Ev → Nat) (j0 : J ρ) (q : ∀ ρ, J ρ → U.f ρ fun k ρ1 => (k = true → S.f ⟨fun ρ' => J ρ' ∧ μ ρ' < μ ρ, r, n, fun ρ' => J ρ' ∧ μ ρ' < μ ρ⟩ ρ1) ∧ (k = false → n ρ1)) : (xWhile U S).f ⟨n, r, b, c⟩ ρ := ⟨J, μ, j0, q⟩
theorem i_lc {I : XI} {Tg : XG} {us : List Nat} (q : I.f ρ fun zs ρ1 => ∃ J : Nat → List D → Ev → Prop, J 0 [] (wipeD ρ1 us) ∧
    (∀ k z acc ρ2, zs[k]? = some z → J k acc ρ2 → Tg.f z ρ2 fun ρ3 => U.f ρ3 fun b ρ4 => (b = true → Ta.f ρ4 fun d ρ5 => acc.length < sizeLine ∧ J (k + 1) (acc ++ [d]) (wipeD ρ5 us)) ∧ (b = false → J (k + 1) acc (wipeD ρ4 us))) ∧
    ∀ acc ρ', J zs.length acc ρ' → Q (.own acc) (backD (heldD ρ1 us) ρ')) : (xLc I Tg U Ta us).f ρ Q := q
theorem i_yes (q : QT true ρ) : xYes.f ρ QT := q
theorem i_neP {ds : List D} {z d0 : D} {k : Bool} {m : Nat} (h : At ρ i (.own ds)) (h1 : ds[m]? = some z) (h2 : eqD z d0 = some k) (q : Q (.bl (!k)) ρ) : (xNeP i m d0).f ρ Q := ⟨ds, z, k, h.get, h1, h2, q⟩
theorem i_popP {ds es es2 ds2 : List D} {z : D} {m k : Nat} (h : At ρ i (.own ds)) (h1 : ds[m]? = some (.own es)) (h2 : es[k]? = some z) (h3 : es.eraseIdx k = es2) (hs : z.sh = true) (l : LSet ds m (.own es2) ds2) (p : Put ρ i (some (.own ds2)) ρ') (q : Q z ρ') : (xPopP i m k).f ρ Q := ⟨ds, es, z, h.get, h1, h2, hs, by rw [h3, l.eq, p.eq]; exact q⟩
end
theorem eqD_ii {i j : Int} : eqD (.int i) (.int j) = some (decide (i = j)) := by
  show (if (D.int i).lay = true ∧ (D.int j).lay = true ∧ min (D.int i).dep (D.int j).dep ≤ 64 then some (PyData.eqv (D.int i).py (D.int j).py) else none) = _
  rw [if_pos ⟨rfl, rfl, by simp [D.dep, D.py, PyData.depth]⟩]
  rfl
theorem eqD_ss {x y : Str} : eqD (.str x) (.str y) = some (decide (x = y)) := rfl
theorem eqD_bb {x y : Bool} : eqD (.bl x) (.bl y) = some (x == y) := by cases x <;> cases y <;> rfl
theorem eqM {d e : D} {k : Bool} {f : Bool → D} (h : eqD d e = some k) : (eqD d e).map f = some (f k) := by rw [h]; rfl
theorem ix_tup {xs : List D} {n : Int} {z : D} (h : atI xs n = some z) (hs : z.sh = true) : ixD (.tup xs) (.int n) = some z := by
  show (atI xs n).bind _ = _
  rw [h]
  show (if z.sh = true then some z else none) = _
  rw [if_pos hs]
theorem ix_lst {xs : List D} {n : Int} {z : D} (h : atI xs n = some z) (hs : z.sh = true) : ixD (.lst xs) (.int n) = some z := ix_tup h hs
theorem ix_frl {xs : List D} {n : Int} {z : D} (h : atI xs n = some z) (hs : z.sh = true) : ixD (.frl xs) (.int n) = some z := ix_tup h hs
theorem ix_own {xs : List D} {n : Int} {z : D} (h : atI xs n = some z) (hs : z.sh = true) : ixD (.own xs) (.int n) = some z := ix_tup h hs
theorem addM {xs ys : List D} (h : xs.length + ys.length ≤ sizeLine) : addD (.tup xs) (.tup ys) = some (.tup (xs ++ ys)) := if_pos h
theorem mul_ii {i j : Int} (h : i.natAbs.log2 + j.natAbs.log2 < 1000000) : mulD (.int i) (.int j) = some (.int (i * j)) := if_pos (.inl h)
theorem mul_s {i j : Int} (h : j.natAbs.log2 < 64) : mulD (.int i) (.int j) = some (.int (i * j)) := if_pos (.inr (.inr h))
theorem div_ii {i j : Int} (h : 0 < j) (h2 : j.natAbs.log2 < 9000) : divD (.int i) (.int j) = some (.int (i / j)) := if_pos (by show (decide (0 < j) && decide (j.natAbs.log2 < 9000)) = true; rw [decide_eq_true h, decide_eq_true h2]; rfl)
theorem mod_ii {i j : Int} (h : 0 < j) : modD (.int i) (.int j) = some (.int (i % j)) := if_pos (decide_eq_true h)
theorem lg_b {i : Int} (h1 : -(2 ^ 200) < i) (h2 : i < 2 ^ 200) : i.natAbs.log2 < 200 := by
  by_cases h : i.natAbs = 0
  · rw [h]; decide +kernel
  · exact (Nat.log2_lt h).mpr (by omega)
theorem mul_b {i j : Int} (h1 : -(2 ^ 200) < i) (h2 : i < 2 ^ 200) (h3 : -(2 ^ 200) < j) (h4 : j < 2 ^ 200) : mulD (.int i) (.int j) = some (.int (i * j)) := mul_ii (by
  have := lg_b h1 h2
  have := lg_b h3 h4
  omega)
theorem div_b {i j : Int} (h : 0 < j) (h4 : j < 2 ^ 200) : divD (.int i) (.int j) = some (.int (i / j)) := div_ii h (by
  have := lg_b (by omega) h4
  omega)
mutual
/-- data: nothing owned, signs within the line -/
def nice : D → Bool
  | .non => true
  | .bl _ => true
  | .int _ => true
  | .str x => PyData.strOk x
  | .tup xs => nices xs
  | .lst xs => nices xs
  | .frl xs => nices xs
  | .own _ => false
  | .fz .tpl xs => nices xs
  | .fz _ _ => false
  | .ob _ _ => false
def nices : List D → Bool
  | [] => true
  | d :: ds => nice d && nices ds
end
theorem nice_kd {d : D} (h : nice d = true) : d.kd = false := by
  cases d with
  | fz k xs => cases k <;> first | rfl | exact absurd h (by simp [nice])
  | _ => first | rfl | exact absurd h (by simp [nice])
theorem nice_sh {d : D} (h : nice d = true) : d.sh = true := by
  cases d <;> first | rfl | exact absurd h (by simp [nice])
theorem nices_cons {x : D} {xs : List D} (h : nices (x :: xs) = true) : nice x = true ∧ nices xs = true := (Bool.and_eq_true _ _ ▸ (show (nice x && nices xs) = true by simpa only [nices] using h) : _ ∧ _)
theorem nices_get : ∀ {xs : List D} {k : Nat} {z : D}, nices xs = true → xs[k]? = some z → nice z = true
  | [], _, _, _, h => by cases h
  | x :: xs, 0, z, h, e => by
    cases e
    exact (nices_cons h).1
  | x :: xs, k + 1, z, h, e => nices_get (xs := xs) (k := k) (nices_cons h).2 (by simpa using e)
theorem nices_mem {xs : List D} {z : D} (h : nices xs = true) (e : z ∈ xs) : nice z = true := by
  obtain ⟨k, hk⟩ := List.getElem?_of_mem e
  exact nices_get h hk
theorem nices_of : ∀ {xs : List D}, (∀ z ∈ xs, nice z = true) → nices xs = true
  | [], _ => by simp only [nices]
  | x :: xs, h => by
    simp only [nices, h x List.mem_cons_self, nices_of fun z e => h z (List.mem_cons_of_mem _ e), Bool.and_self]
theorem nices_sh : ∀ {xs : List D}, nices xs = true → xs.all D.sh = true
  | [], _ => rfl
  | x :: xs, h => by
    rw [List.all_cons, nice_sh (nices_cons h).1, nices_sh (nices_cons h).2]
    rfl
def lays (ds : List D) : Bool := PyData.canLayAll0 (D.pys ds)
theorem lays_cons {x : D} {xs : List D} : lays (x :: xs) = (x.lay && lays xs) := by
  simp only [lays, D.pys, PyData.canLayAll0, D.lay]
mutual
theorem nice_lay : ∀ {d : D}, nice d = true → d.lay = true
  | .non, _ => rfl
  | .bl _, _ => rfl
  | .int _, _ => rfl
  | .str x, h => by simp only [nice] at h; simp only [D.lay, D.py, PyData.canLay0, h]
  | .tup xs, h => by
    simp only [nice] at h
    have := nices_lays h
    simp only [lays] at this
    simp only [D.lay, D.py, PyData.canLay0, this]
  | .lst xs, h => by
    simp only [nice] at h
    have := nices_lays h
    simp only [lays] at this
    simp only [D.lay, D.py, PyData.canLay0, this]
  | .frl xs, h => by
    simp only [nice] at h
    have := nices_lays h
    simp only [lays] at this
    simp only [D.lay, D.py, PyData.canLay0, this]
  | .own _, h => by simp [nice] at h
  | .fz .tpl xs, h => by
    simp only [nice] at h
    have := nices_lays h
    simp only [lays] at this
    simp only [D.lay, D.py, PyData.canLay0, this]
  | .fz (.dic _) _, h => by simp [nice] at h
  | .fz (.obj _ _) _, h => by simp [nice] at h
  | .fz (.ins _ _ _) _, h => by simp [nice] at h
  | .ob _ _, h => by simp [nice] at h
theorem nices_lays : ∀ {xs : List D}, nices xs = true → lays xs = true
  | [], _ => by simp only [lays, D.pys, PyData.canLayAll0]
  | x :: xs, h => by
    rw [lays_cons, nice_lay (nices_cons h).1, nices_lays (nices_cons h).2]
    rfl
end
theorem eqD_if {d e : D} (h1 : d.lay = true) (h2 : e.lay = true) (h3 : e.dep ≤ 64) (hn : ∀ x, d ≠ .str x) : eqD d e = some (PyData.eqv d.py e.py) := by
  have h : (if d.lay = true ∧ e.lay = true ∧ min d.dep e.dep ≤ 64 then some (PyData.eqv d.py e.py) else none) = some (PyData.eqv d.py e.py) := if_pos ⟨h1, h2, by omega⟩
  cases d with
  | str x => exact absurd rfl (hn x)
  | _ => exact h
theorem lay_nil : (D.own []).lay = true := by simp only [D.lay, D.py, D.pys, PyData.canLay0, PyData.canLayAll0]
theorem dep_nil : (D.own []).dep ≤ 64 := by simp only [D.dep, D.py, D.pys, PyData.depth, PyData.depthAll]; decide
theorem eqv_nil {ds : List D} : PyData.eqvAll (D.pys ds) [] = ds.isEmpty := by cases ds <;> simp [D.pys, PyData.eqvAll]
theorem eqD_oe {ds : List D} (h : lays ds = true) : eqD (.own ds) (.own []) = some ds.isEmpty := by
  rw [eqD_if (by simp only [lays] at h; simp only [D.lay, D.py, PyData.canLay0, h]) lay_nil dep_nil (by intro x e; cases e)]
  simp only [D.py, PyData.eqv, D.pys, eqv_nil]
theorem eqD_le {ds : List D} (h : lays ds = true) : eqD (.lst ds) (.own []) = some ds.isEmpty := by
  rw [eqD_if (by simp only [lays] at h; simp only [D.lay, D.py, PyData.canLay0, h]) lay_nil dep_nil (by intro x e; cases e)]
  simp only [D.py, PyData.eqv, D.pys, eqv_nil]
theorem eqD_te {ds : List D} (h : lays ds = true) : eqD (.tup ds) (.tup []) = some ds.isEmpty := by
  rw [eqD_if (by simp only [lays] at h; simp only [D.lay, D.py, PyData.canLay0, h]) (by simp only [D.lay, D.py, D.pys, PyData.canLay0, PyData.canLayAll0]) (by simp only [D.dep, D.py, D.pys, PyData.depth, PyData.depthAll]; decide) (by intro x e; cases e)]
  simp only [D.py, PyData.eqv, D.pys, eqv_nil]
theorem list1_seq {d : D} {zs : List D} (h : d.seq = some zs) (hs : zs.all D.sh = true) : list1 [d] = some (.own zs) := by
  show d.seq.bind _ = _
  rw [h]
  exact if_pos hs
theorem tuple1_seq {d : D} {zs : List D} (h : d.seq = some zs) (hs : zs.all D.sh = true) : tuple1 [d] = some (.tup zs) := by
  show d.seq.bind _ = _
  rw [h]
  exact if_pos hs
theorem i_le {m : Nat} {X : Prop} (h : m ≤ sizeLine) (q : X) : m ≤ sizeLine ∧ X := ⟨h, q⟩
theorem i_lt {m : Nat} {X : Prop} (h : m < sizeLine) (q : X) : m < sizeLine ∧ X := ⟨h, q⟩
theorem i_sh {ds : List D} {X : Prop} (h : ds.all D.sh = true) (q : X) : ds.all D.sh = true ∧ X := ⟨h, q⟩
theorem ints_nices : ∀ (ns : List Int), nices (ns.map D.int) = true
  | [] => by simp only [List.map_nil, nices]
  | _ :: ns => by simp only [List.map_cons, nices, nice, ints_nices ns, Bool.and_self]
theorem not_t {b : Bool} (h : b = false) : (!b) = true := by rw [h]; rfl
theorem not_f {b : Bool} (h : b = true) : (!b) = false := by rw [h]; rfl
theorem len_t {ds : List D} : len1 [.tup ds] = some (.int ds.length) := rfl
theorem len_l {ds : List D} : len1 [.lst ds] = some (.int ds.length) := rfl
theorem len_o {ds : List D} : len1 [.own ds] = some (.int ds.length) := rfl
theorem len_f {ds : List D} : len1 [.frl ds] = some (.int ds.length) := rfl
theorem in_f {d : D} {es : List D} (h : d.flat = true) (h2 : es.all D.flat = true) : inD false d (.tup es) = some (.bl (inF d es)) := if_pos ⟨h, h2⟩
theorem in_t {d : D} {es : List D} (h : d.flat = true) (h2 : es.all D.flat = true) : inD true d (.tup es) = some (.bl (!inF d es)) := if_pos ⟨h, h2⟩
theorem i_range {j : Int} {X : Int → Prop} (h : -(2 ^ 62) ≤ j) (h2 : j < 2 ^ 62) (q : X j) : ∃ i : Int, [D.int j] = [.int i] ∧ -(2 ^ 62) ≤ i ∧ i < 2 ^ 62 ∧ X i := ⟨j, rfl, h, h2, q⟩
theorem ix0 {a : D} {t : List D} (h : a.sh = true) : ixD (.tup (a :: t)) (.int 0) = some a := ix_tup (atI_nat (j := 0) rfl) h
theorem ix1 {a b : D} {t : List D} (h : b.sh = true) : ixD (.tup (a :: b :: t)) (.int 1) = some b := ix_tup (atI_nat (j := 1) rfl) h
theorem ix2 {a b c : D} {t : List D} (h : c.sh = true) : ixD (.tup (a :: b :: c :: t)) (.int 2) = some c := ix_tup (atI_nat (j := 2) rfl) h
theorem strOk_of (s : String) : PyData.strOk (Str.ofString s) = true := by
  rw [Str.ofString_eq_toList]
  unfold PyData.strOk
  rw [List.all_toArray, List.all_map, List.all_eq_true]
  intro c _
  exact decide_eq_true (by
    have := c.valid
    rcases this with h | h
    · show c.val.toNat < _
      omega
    · show c.val.toNat < _
      omega)
theorem len_cut {xs : List D} {n : Nat} {lo hi : Option Int} (h : xs.length ≤ n) : (cutL xs lo hi).length ≤ n := by
  unfold cutL
  rw [List.length_take, List.length_drop]
  omega
theorem len_app {xs ys : List D} {n m : Nat} (h : xs.length ≤ n) (h2 : ys.length ≤ m) : (xs ++ ys).length ≤ n + m := by
  rw [List.length_append]
  omega
theorem len_nil : ([] : List D).length ≤ 0 := Nat.le_refl 0
theorem len_cons {x : D} {xs : List D} {n : Nat} (h : xs.length ≤ n) : (x :: xs).length ≤ n + 1 := Nat.succ_le_succ h
theorem addM2 {xs ys : List D} {a b : Nat} (h : xs.length ≤ a) (h2 : ys.length ≤ b) (h3 : a + b ≤ sizeLine) : addD (.tup xs) (.tup ys) = some (.tup (xs ++ ys)) := addM (by omega)
theorem nices_app {xs ys : List D} : nices (xs ++ ys) = (nices xs && nices ys) := by
  induction xs with
  | nil => simp only [List.nil_append, nices, Bool.true_and]
  | cons x xs ih => simp only [List.cons_append, nices, ih, Bool.and_assoc]
theorem nices_cut {xs : List D} {lo hi : Option Int} (h : nices xs = true) : nices (cutL xs lo hi) = true := nices_of fun z hz => nices_mem h (List.mem_of_mem_drop (List.mem_of_mem_take hz))
theorem nices_rev {xs : List D} (h : nices xs = true) : nices xs.reverse = true := nices_of fun z hz => nices_mem h (List.mem_reverse.mp hz)
theorem ix_ex {xs : List D} {k : Int} (h : nices xs = true) (h0 : 0 ≤ k) (h1 : k < xs.length) : ∃ z, ixD (.tup xs) (.int k) = some z ∧ z ∈ xs := by
  obtain ⟨n, rfl⟩ := Int.eq_ofNat_of_zero_le h0
  have hn : n < xs.length := by omega
  exact ⟨xs[n], ix_tup (atI_nat (List.getElem?_eq_getElem hn)) (nice_sh (nices_mem h (List.getElem_mem hn))), List.getElem_mem hn⟩
theorem ix_exL {xs : List D} {k : Int} (h : nices xs = true) (h0 : 0 ≤ k) (h1 : k < xs.length) : ∃ z, ixD (.lst xs) (.int k) = some z ∧ z ∈ xs := ix_ex h h0 h1
theorem ix_exO {xs : List D} {k : Int} (h : nices xs = true) (h0 : 0 ≤ k) (h1 : k < xs.length) : ∃ z, ixD (.own xs) (.int k) = some z ∧ z ∈ xs := ix_ex h h0 h1
/-- one of a list's items -/
theorem i_pick {xs : List D} {k : Int} {P : D → Prop} (h : nices xs = true) (h0 : 0 ≤ k) (h1 : k < xs.length) (q : ∀ z, z ∈ xs → nice z = true → P z) : ∃ z, ixD (.lst xs) (.int k) = some z ∧ P z := by
  obtain ⟨z, e, m⟩ := ix_exL h h0 h1
  exact ⟨z, e, q z m (nices_mem h m)⟩
theorem i_pickT {xs : List D} {k : Int} {P : D → Prop} (h : nices xs = true) (h0 : 0 ≤ k) (h1 : k < xs.length) (q : ∀ z, z ∈ xs → nice z = true → P z) : ∃ z, ixD (.tup xs) (.int k) = some z ∧ P z := by
  obtain ⟨z, e, m⟩ := ix_ex h h0 h1
  exact ⟨z, e, q z m (nices_mem h m)⟩
theorem i_pickO {xs : List D} {k : Int} {P : D → Prop} (h : nices xs = true) (h0 : 0 ≤ k) (h1 : k < xs.length) (q : ∀ z, z ∈ xs → nice z = true → P z) : ∃ z, ixD (.own xs) (.int k) = some z ∧ P z := by
  obtain ⟨z, e, m⟩ := ix_exO h h0 h1
  exact ⟨z, e, q z m (nices_mem h m)⟩
section
variable {P : Program} {w : World} {K : Fg} {mg : Str → Option Value} {base : Heap}
/-- a promise that asks for what cannot be -/
theorem okf_false {x : Str} {st : Stmt} {f : Addr} {fd : FuncData} {ps : List Str} {k n : Nat} {ios : List Nat} {F : FS} (Fn : FnP K x st f fd) (g : mg x = some (.ref f))
    (b1 : ∀ (kV doc pm : Value) (an : Option Addr) (cdv ct : Value) (us : List Value), us.length = ps.length → bindArgs (PySem.W.fnOf x x (defArgs st) (defBody st) (defScope st) .none kV doc pm an cdv ct) ⟨us, []⟩ = pure (ps.zip us))
    (b2 : ∀ (kV doc pm : Value) (an : Option Addr) (cdv ct : Value) (us : List Value), us.length = ps.length → bindArgs (PySem.W.fnOf x x (defArgs st) (defBody st) (defScope st) .none kV doc pm an cdv ct) ⟨[], ps.zip us⟩ = pure (ps.zip us))
    (b3 : ∀ (kV doc pm : Value) (an : Option Addr) (cdv ct : Value) (p1 p2 : Str) (u v : Value), ps = [p1, p2] → bindArgs (PySem.W.fnOf x x (defArgs st) (defBody st) (defScope st) .none kV doc pm an cdv ct) ⟨[], [(p2, v), (p1, u)]⟩ = pure [(p1, u), (p2, v)])
    (hF : ∀ ds Q, ¬ F.f ds Q) : OkF P w K mg base k x ps n ios F := by
  refine ⟨f, fd, g, Fn.kp, Fn.bindsN b1, fun s ws hl => ?_, fun s p1 p2 u v e2 => ?_, ⟨fun vs H Q E h => ?_, fun A outer s H args us vs Q E _ _ _ _ h => ?_⟩⟩
  · obtain ⟨oc, od, dV, kV, doc, pm, an, cdv, ct, osl, rfl, lk, hcd, hD, hK⟩ := Fn.ex
    rcases hD with ⟨_, rfl⟩ | ⟨e, _⟩
    · exact .of_eq (b2 kV doc pm an cdv ct ws hl)
    · exact absurd rfl e
  · obtain ⟨oc, od, dV, kV, doc, pm, an, cdv, ct, osl, rfl, lk, hcd, hD, hK⟩ := Fn.ex
    rcases hD with ⟨_, rfl⟩ | ⟨e, _⟩
    · exact .of_eq (b3 kV doc pm an cdv ct p1 p2 u v e2)
    · exact absurd rfl e
  · obtain ⟨_, _, _, _, _, _, _, h⟩ := h
    exact (hF _ _ h).elim
  · obtain ⟨_, _, _, _, _, _, _, h⟩ := h
    exact (hF _ _ h).elim
end
theorem addL {xs ys : List D} (h : xs.length + ys.length ≤ sizeLine) : addD (.lst xs) (.lst ys) = some (.own (xs ++ ys)) := if_pos h
theorem addLO {xs ys : List D} (h : xs.length + ys.length ≤ sizeLine) (h2 : ys.all D.sh = true) : addD (.lst xs) (.own ys) = some (.own (xs ++ ys)) := if_pos ⟨h, h2⟩
theorem addOO {xs ys : List D} (h : xs.length + ys.length ≤ sizeLine) (h1 : xs.all D.sh = true) (h2 : ys.all D.sh = true) : addD (.own xs) (.own ys) = some (.own (xs ++ ys)) := if_pos ⟨h, h1, h2⟩
theorem addOL {xs ys : List D} (h : xs.length + ys.length ≤ sizeLine) (h1 : xs.all D.sh = true) : addD (.own xs) (.lst ys) = some (.own (xs ++ ys)) := if_pos ⟨h, h1⟩
theorem sh_app {xs ys : List D} (h1 : xs.all D.sh = true) (h2 : ys.all D.sh = true) : (xs ++ ys).all D.sh = true := by rw [List.all_append, h1, h2]; rfl
theorem str_i {i : Int} (h : -(2 ^ 200) < i) (h2 : i < 2 ^ 200) : str1 [.int i] = some (.str (Str.ofString (toString i))) := if_pos (by
  have := lg_b h h2
  omega)
theorem str_s {x : Str} : str1 [.str x] = some (.str x) := rfl
theorem sub_ii {i j : Int} : subD (.int i) (.int j) = some (.int (i - j)) := rfl
theorem sh_cons {x : D} {xs : List D} (h1 : x.sh = true) (h2 : xs.all D.sh = true) : (x :: xs).all D.sh = true := by rw [List.all_cons, h1, h2]; rfl
theorem add_ii {i j : Int} : addD (.int i) (.int j) = some (.int (i + j)) := rfl
inductive Ints : List D → List Int → Prop
  | n : Ints [] []
  | c {i : Int} {ds : List D} {is : List Int} : Ints ds is → Ints (.int i :: ds) (i :: is)
theorem Ints.eq : ∀ {ds : List D} {is : List Int}, Ints ds is → ds = is.map D.int
  | _, _, .n => rfl
  | _, _, .c h => by rw [List.map_cons, ← h.eq]
theorem ix_ints {ns : List Int} {k : Int} (h0 : 0 ≤ k) (h1 : k < ns.length) : ∃ n, ixD (.own (ns.map D.int)) (.int k) = some (.int n) ∧ n ∈ ns := by
  obtain ⟨z, e, m⟩ := ix_exO (ints_nices ns) h0 (by rw [List.length_map]; exact h1)
  obtain ⟨n, hn, rfl⟩ := List.mem_map.mp m
  exact ⟨n, e, hn⟩
theorem i_pickZ {ds : List D} {ns : List Int} {k : Int} {P : D → Prop} (e : Ints ds ns) (h0 : 0 ≤ k) (h1 : k < ns.length) (q : ∀ n, n ∈ ns → P (.int n)) : ∃ z, ixD (.own ds) (.int k) = some z ∧ P z := by
  rw [e.eq]
  obtain ⟨n, e, m⟩ := ix_ints h0 h1
  exact ⟨_, e, q n m⟩
theorem i_max0 {x : Int} {P : D → Prop} (q : ∀ y, 0 ≤ y → (y = x ∨ y = 0) → P (.int y)) : ∃ z, BV.ints2 (fun i j => if j > i then j else i) [.int 0, .int x] = some z ∧ P z := by
  refine ⟨_, rfl, q _ ?_ ?_⟩
  · show 0 ≤ if x > 0 then x else 0
    split <;> omega
  · show (if x > 0 then x else 0) = x ∨ (if x > 0 then x else 0) = 0
    split
    · exact .inl rfl
    · exact .inr rfl
theorem i_mulL {k n : Int} {P : D → Prop} (h0 : 0 ≤ k) (h1 : k ≤ 100) (h : n = 1 ∨ n = -1) (q : ∀ v : Int, -1000 ≤ v → v ≤ 1000 → P (.int v)) : ∃ z, mulD (.int (1 + k)) (.int n) = some z ∧ P z := by
  rcases h with rfl | rfl
  · exact ⟨_, mul_b (by omega) (by omega) (by omega) (by omega), q _ (by omega) (by omega)⟩
  · exact ⟨_, mul_b (by omega) (by omega) (by omega) (by omega), q _ (by omega) (by omega)⟩
theorem i_leq {ds : List D} {m : Nat} {X : Prop} (h : ds.length = m) (q : X) : ds.length = m ∧ X := ⟨h, q⟩
theorem pow_20 : powD (.int 10) (.int 20) = some (.int (10 ^ 20)) := rfl
theorem pow_30 : powD (.int 10) (.int 30) = some (.int (10 ^ 30)) := rfl
theorem pow_40 : powD (.int 10) (.int 40) = some (.int (10 ^ 40)) := rfl
theorem len_rep {x : D} {n : Nat} : (List.replicate n [x]).flatten.length ≤ n := by
  induction n with
  | zero => exact Nat.le_refl 0
  | succ n ih =>
    rw [List.replicate_succ, List.flatten_cons, List.length_append]
    simp only [List.length_cons, List.length_nil]
    omega
theorem len_repE {x : D} {n : Nat} : (List.replicate n [x]).flatten.length = n := by
  induction n with
  | zero => rfl
  | succ n ih =>
    rw [List.replicate_succ, List.flatten_cons, List.length_append, ih]
    simp only [List.length_cons, List.length_nil]
    omega
theorem mul_t {x : D} {k : Int} (h : 2 ≤ k) (h2 : k < 2 ^ 20) : mulD (.tup [x]) (.int k) = some (.tup (List.replicate k.toNat [x]).flatten) := if_pos ⟨List.cons_ne_nil _ _, h, (by omega), (by rw [List.length_singleton]; omega)⟩
end BV

/-! BV, part Q: dicts. -/
namespace BV
open PySem PySem.Spec PyProof.Rows L2
section
variable {K : Fg} {C : Ct} {N N' : AS} {σ : Sts} {ρ : Ev} {H H' : Hp} {xs vs : List V} {es ds : List D} {v : V} {d : D}
/-- a new cell at p, owned -/
theorem Rl.allocK {k : Kd} {p : Addr} {zs : List V} {fs : List D} (R : Rl K C N σ ρ H xs es vs ds) (np : H p = none) (hz : Rps K N H fs zs AS0) : Rl K C (fun y => N y ∨ y = p) σ ρ (upd H p (k.mk p zs)) [.ref p] [.ob k fs] vs ds := by
  have R1 := R.drop
  obtain ⟨A, B1, B2, hA, h1, h2, d1, d2, ow⟩ := R1.ex
  have x : Ext K N H (fun y => N y ∨ y = p) (upd H p (k.mk p zs)) := .alloc np fun _ q => q
  have ne : ∀ y, N y → upd H p (k.mk p zs) y = H y := fun y q => upd_ne fun z => R.nh y q (z ▸ np)
  have nz : ∀ y, H y ≠ none → upd H p (k.mk p zs) y ≠ none := fun y q => by
    by_cases z : y = p
    · exact absurd (z ▸ np) q
    · rw [upd_ne z]; exact q
  have nN : ¬ N p := fun z => R.nh p z np
  have h0 : C.H0 p = none := by
    cases e : C.H0 p with
    | none => rfl
    | some o => exact absurd np (R.dm p (by rw [e]; exact fun z => by cases z))
  refine ⟨⟨A, fun y => y = p, B2, hA.keep x fun b q => ne b (ow b (.inl q)).1, ⟨.ref p, [], fun y => y = p, AS0, rfl, ⟨p, zs, AS0, rfl, upd_same, rfl, fun _ q => q.elim, hz.keep0 x⟩, rfl, fun _ q => q, fun _ q => q.elim, fun _ _ q => q⟩, h2.keep x ds fun b q => ne b (ow b (.inr (.inr q))).1, fun y q => ⟨fun z => ?_, (d1 y q).2⟩, fun y q z => ?_, fun y q => ?_⟩,
    fun y q => ?_, R.h0, fun y q n => .inl (R.n0 y q n), fun y q n => (ne y (R.n0 y q n)).trans (R.fr y q n), R.xt.trans x, R.pr, fun y q => nz y (R.dm y q)⟩
  · exact nN (z ▸ (ow y (.inl q)).1)
  · exact nN (q ▸ (ow y (.inr (.inr z))).1)
  · rcases q with q | q | q
    · exact ⟨.inl (ow y (.inl q)).1, (ow y (.inl q)).2⟩
    · exact ⟨.inr q, .inr (q ▸ h0)⟩
    · exact ⟨.inl (ow y (.inr (.inr q))).1, (ow y (.inr (.inr q))).2⟩
  · rcases q with q | q
    · exact nz y (R.nh y q)
    · rw [q, upd_same]; exact fun z => by cases z
/-- an owned cell that was just reckoned is changed; what was reckoned behind it goes into it or is dropped -/
theorem Rl.writeK {k : Kd} (hu : ∀ a us vs, k.mk a us ≠ .tup vs) (hf : ∀ a us o w, k.mk a us ≠ .frz o w) {a : Addr} {fs : List D} (R : Rl K C N σ ρ H (.ref a :: xs) (.ob k fs :: es) vs ds) :
    ∃ us, H a = some (k.mk a us) ∧ us.length = fs.length ∧ (∃ B1 B2, Rps K N H fs us B1 ∧ Rps K N H es xs B2) ∧ ∀ {k2 : Kd} {gs : List D} {zs : List V} (_ : ∀ B1 B2, Rps K N H fs us B1 → Rps K N H es xs B2 → (∀ x, B1 x → ¬ B2 x) → ∃ B3, Rps K N H gs zs B3 ∧ ∀ x, B3 x → B1 x ∨ B2 x), Rl K C N σ ρ (upd H a (k2.mk a zs)) [.ref a] [.ob k2 gs] vs ds := by
  obtain ⟨A, B1, B2, hA, h1, h2, d1, d2, ow⟩ := R.ex
  obtain ⟨v', vr, A1, A2, ev, r1, r2, s1, s2, dj⟩ := h1
  cases ev
  obtain ⟨a', us', B, e', ha', hAa, hB, rB⟩ := r1
  cases e'
  refine ⟨us', ha', rB.length.symm, ⟨B, A2, rB, r2⟩, fun {k2 gs zs} hz => ?_⟩
  obtain ⟨B3, g1, g2⟩ := hz B A2 rB r2 fun x q => dj x (hB x q).1
  have Na : N a := (ow a (.inr (.inl (s1 a hAa)))).1
  have x : Ext K N H N (upd H a (k2.mk a zs)) := .writeO ha' (hu _ _) (hf _ _) Na
  have ne : ∀ y, y ≠ a → upd H a (k2.mk a zs) y = H y := fun y q => upd_ne q
  have nz : ∀ y, H y ≠ none → upd H a (k2.mk a zs) y ≠ none := fun y q => by
    by_cases z : y = a
    · rw [z, upd_same]; exact fun z => by cases z
    · rw [ne y z]; exact q
  have a2 : ¬ A2 a := dj a hAa
  have g3 : ∀ y, B3 y → B1 y ∧ y ≠ a := fun y q => by
    rcases g2 y q with z | z
    · exact ⟨s1 y (hB y z).1, (hB y z).2⟩
    · exact ⟨s2 y z, fun w => a2 (w ▸ z)⟩
  refine ⟨⟨A, fun y => B3 y ∨ y = a, B2, hA.keep x fun b q => ne b fun z => (d1 b q).1 (z ▸ s1 a hAa), ⟨.ref a, [], fun y => B3 y ∨ y = a, AS0, rfl, ⟨a, zs, B3, rfl, upd_same, .inr rfl, fun y q => ⟨.inl q, (g3 y q).2⟩, g1.keep x gs fun b q => ne b (g3 b q).2⟩, rfl, fun _ q => q, fun _ q => q.elim, fun _ _ q => q⟩,
    h2.keep x ds fun b q => ne b fun z => d2 a (s1 a hAa) (z ▸ q), fun y q => ⟨fun z => ?_, (d1 y q).2⟩, fun y q => ?_, fun y q => ?_⟩, fun y q => nz y (R.nh y q), R.h0, R.n0, fun y q n => ?_, R.xt.trans x, R.pr, fun y q => nz y (R.dm y q)⟩
  · rcases z with z | z
    · exact (d1 y q).1 (g3 y z).1
    · exact (d1 y q).1 (z ▸ s1 a hAa)
  · rcases q with q | q
    · exact d2 y (g3 y q).1
    · exact d2 y (q ▸ s1 a hAa)
  · rcases q with q | (q | q) | q
    · exact ow y (.inl q)
    · exact ow y (.inr (.inl (g3 y q).1))
    · exact ow y (.inr (.inl (q ▸ s1 a hAa)))
    · exact ow y (.inr (.inr q))
  · rw [ne y fun z => ?_]
    · exact R.fr y q n
    · rcases (ow a (.inr (.inl (s1 a hAa)))).2 with w | w
      · exact n (z ▸ w)
      · exact R.h0 y q (z ▸ w)
end
def D.key : D → Option Key
  | .int i => some (.inl i)
  | .str x => some (.inr x)
  | _ => none
theorem D.key_ok {K : Fg} {N : AS} {H : Hp} {d : D} {v : V} {A : AS} {k : Key} (h : Rp K N H d v A) (e : d.key = some k) : v = kV k := by
  cases d with
  | int i => cases (show v = .int i from h); cases e; rfl
  | str x => cases (show v = .str x from h); cases e; rfl
  | _ => cases e
/-- the value of a key -/
def D.val : List Key → List D → Key → Option D
  | k0 :: ks, x :: xs, k => if k0 = k then some x else D.val ks xs k
  | _, _, _ => none
theorem D.val_ok {K : Fg} {N : AS} {H : Hp} {k : Key} : ∀ {ks : List Key} {xs : List D} {vs : List V} {A : AS}, Rps K N H xs vs A → match D.val ks xs k with
    | some d => ∃ v A1, valV (ks.zip vs) k = some v ∧ Rp K N H d v A1
    | none => ks.length = xs.length → valV (ks.zip vs) k = none
  | [], xs, vs, A, h => by cases xs <;> exact fun _ => rfl
  | k0 :: ks, [], vs, A, h => fun e => by cases e
  | k0 :: ks, x :: xs, vs, A, h => by
    obtain ⟨v, vr, A1, A2, rfl, h1, h2, s1, s2, dj⟩ := h
    show match (if k0 = k then some x else D.val ks xs k) with
      | some d => ∃ v', ∃ A1, valV ((k0, v) :: ks.zip vr) k = some v' ∧ Rp K N H d v' A1
      | none => _ → valV ((k0, v) :: ks.zip vr) k = none
    by_cases e : k0 = k
    · rw [if_pos e]
      exact ⟨v, A1, valV_pos e, h1⟩
    · rw [if_neg e, valV_neg (show ¬ ((k0, v) : Key × V).1 = k from e)]
      have ih := D.val_ok (k := k) (ks := ks) h2
      cases q : D.val ks xs k with
      | some d => rw [q] at ih; exact ih
      | none => rw [q] at ih; exact fun l => ih (Nat.succ.inj l)
/-- d[k], d a dict -/
def dixD : D → D → Option D
  | .fz (.dic ks) xs, y => y.key.bind fun k => (D.val ks xs k).bind fun z => if z.sh = true then some z else none
  | .ob (.dic ks) xs, y => y.key.bind fun k => (D.val ks xs k).bind fun z => if z.sh = true then some z else none
  | _, _ => none
theorem DGet.rk {H : Hp} {a : Addr} {kvs : List (Key × V)} {k : Key} (e : Rd H a (.dK kvs)) : DGet H a (kV k) (valV kvs k) := .inl ⟨kvs, k, e, rfl, rfl⟩
theorem D.dget {K : Fg} {N : AS} {H : Hp} {ks : List Key} {xs : List D} {us : List V} {B A : AS} {a : Addr} {e z : D} {y : V} (ha : Rd H a (.dK (ks.zip us))) (r : Rps K N H xs us B) (he : Rp K N H e y A)
    (g : (e.key.bind fun k => (D.val ks xs k).bind fun z => if z.sh = true then some z else none) = some z) : ∃ v, DGet H a y (some v) ∧ Rp K N H z v AS0 := by
  cases q : e.key with
  | none => rw [q] at g; cases g
  | some k =>
    rw [q] at g
    have vk := D.val_ok (k := k) (ks := ks) r
    cases q2 : D.val ks xs k with
    | none =>
      have g' : ((D.val ks xs k).bind fun z => if z.sh = true then some z else none) = some z := g
      rw [q2] at g'; cases g'
    | some d =>
      have g' : ((D.val ks xs k).bind fun z => if z.sh = true then some z else none) = some z := g
      rw [q2] at g' vk
      obtain ⟨v, A1, e1, r1⟩ := vk
      have g2 : (if d.sh = true then some d else none) = some z := g'
      by_cases hs : d.sh = true
      · rw [if_pos hs] at g2
        cases g2
        refine ⟨v, ?_, r1.share hs⟩
        rw [D.key_ok he q, ← e1]
        exact DGet.rk ha
      · rw [if_neg hs] at g2; cases g2
section
variable {X : Cx} {C : Ct} {a b c e : Expr} {es : List Expr} {ta tb tc te : TE} {Ta Tb Tc Te : XE} {pos p p2 : Pos}
theorem ve_dget (hu : X.A.units + 1 < cLine) (ha : VE X C a ta Ta) (hb : VE X C b tb Tb) (hs : NoSl b := by exact fun _ _ => rfl) : VE X C (.Subscript a b pos) (tDGet ta tb) (xBin dixD Ta Tb) := by
  refine ⟨pe_dget hu ha.pe hb.pe hs, fun R q => ha.se R (Ta.mono (fun d ρ1 q v N1 H1 R1 => hb.se R1.park (Tb.mono (fun e ρ2 q2 w N2 H2 R2 => ?_) q)) q)⟩
  obtain ⟨z, g, q3⟩ := q2
  obtain ⟨A, B, hd, he⟩ := (R2.cons).two
  cases d with
  | fz k xs =>
    cases k with
    | dic ks =>
      obtain ⟨p, us, rfl, h1, _, r⟩ := hd
      obtain ⟨v, g1, r1⟩ := D.dget h1 r he g
      exact ⟨p, v, rfl, g1, q3 _ _ _ (R2.cons.res r1)⟩
    | _ => cases g
  | ob k xs =>
    cases k with
    | dic ks =>
      obtain ⟨p, us, B', rfl, h1, _, _, r⟩ := hd
      obtain ⟨v, g1, r1⟩ := D.dget (.inl h1) r he g
      exact ⟨p, v, rfl, g1, q3 _ _ _ (R2.cons.res r1)⟩
    | _ => cases g
  | _ => cases g
/-- y in d, y not in d -/
def dinD (neg : Bool) : D → D → Option D
  | y, .fz (.dic ks) xs => if ks.length = xs.length then y.key.map fun k => .bl (if neg then !(D.val ks xs k).isSome else (D.val ks xs k).isSome) else none
  | _, _ => none
theorem ve_din (hu : X.A.units + 1 < cLine) (ha : VE X C a ta Ta) (hb : VE X C b tb Tb) (hm : behindInMarks .In b = false) : VE X C (.Compare a [.In] [b] pos) (tDIn ta tb) (xBin (dinD false) Ta Tb) := by
  refine ⟨pe_cmp (pc_din hu ha.pe hb.pe) hm, fun R q => ha.se R (Ta.mono (fun d ρ1 q v N1 H1 R1 => hb.se R1.park (Tb.mono (fun e ρ2 q2 w N2 H2 R2 => ?_) q)) q)⟩
  obtain ⟨z, g, q3⟩ := q2
  obtain ⟨A, B, hd, he⟩ := (R2.cons).two
  cases e with
  | fz k xs =>
    cases k with
    | dic ks =>
      obtain ⟨p, us, rfl, h1, _, r⟩ := he
      have g' : (if ks.length = xs.length then d.key.map fun k => D.bl (if false = true then !(D.val ks xs k).isSome else (D.val ks xs k).isSome) else none) = some z := g
      by_cases hl : ks.length = xs.length
      · rw [if_pos hl] at g'
        cases q : d.key with
        | none => rw [q] at g'; cases g'
        | some k =>
          rw [q] at g'
          have g2 : some (D.bl (D.val ks xs k).isSome) = some z := g'
          cases g2
          have vk := D.val_ok (k := k) (ks := ks) r
          refine ⟨p, valV (ks.zip us) k, rfl, by rw [D.key_ok hd q]; exact DGet.rk h1, ?_⟩
          cases q2 : D.val ks xs k with
          | some d' =>
            rw [q2] at vk
            obtain ⟨v, A1, e1, r1⟩ := vk
            rw [e1]
            rw [q2] at q3
            exact q3 _ _ _ (R2.cons.res rfl)
          | none =>
            rw [q2] at vk
            rw [vk hl]
            rw [q2] at q3
            exact q3 _ _ _ (R2.cons.res rfl)
      · rw [if_neg hl] at g'; cases g'
    | _ => cases d <;> cases g
  | _ => cases d <;> cases g
/-- d.get(k, x) of a dict that nobody changes -/
def xGet2 (A B D' : XE) : XE := ⟨fun ρ Q => A.f ρ fun d ρ1 => ∃ ks xs, d = .fz (.dic ks) xs ∧ B.f ρ1 fun y ρ2 => D'.f ρ2 fun z ρ3 => ks.length = xs.length ∧ z.sh = true ∧ xs.all D.sh = true ∧ ∃ k, y.key = some k ∧ Q ((D.val ks xs k).getD z) ρ3,
  fun m q => A.mono (fun _ _ ⟨ks, xs, e, h⟩ => ⟨ks, xs, e, B.mono (fun _ _ h => D'.mono (fun _ _ ⟨h1, h2, h3, k, e, h⟩ => ⟨h1, h2, h3, k, e, m _ _ h⟩) h) h⟩) q⟩
theorem D.val_sh : ∀ {ks : List Key} {xs : List D} {k : Key} {d : D}, D.val ks xs k = some d → xs.all D.sh = true → d.sh = true
  | [], _, _, _, h, _ => by cases h
  | _ :: _, [], _, _, h, _ => by cases h
  | k0 :: ks, x :: xs, k, d, h, s => by
    rw [List.all_cons, Bool.and_eq_true] at s
    have h' : (if k0 = k then some x else D.val ks xs k) = some d := h
    by_cases e : k0 = k
    · rw [if_pos e] at h'; cases h'; exact s.1
    · rw [if_neg e] at h'; exact D.val_sh h' s.2
theorem ve_dget2 {apos cpos : Pos} (hu : X.A.units + 1 < cLine) (ha : VE X C a ta Ta) (hb : VE X C b tb Tb) (hc : VE X C c tc Tc) (m : M2 X a "get" apos b c cpos) : VE X C (.Call (.Attribute a "get" apos) [b, c] [] cpos) (tDGet2 ta tb tc) (xGet2 Ta Tb Tc) := by
  refine ⟨pe_dget2 hu ha.pe hb.pe hc.pe m, fun R q => ha.se R (Ta.mono (fun d ρ1 q v N1 H1 R1 => ?_) q)⟩
  obtain ⟨ks, xs, rfl, q⟩ := q
  obtain ⟨A, r⟩ := R1.top1
  obtain ⟨p, us, rfl, h1, _, _⟩ := r
  refine ⟨p, rfl, .inl ⟨_, h1⟩, hb.se R1.park (Tb.mono (fun y ρ2 q w N2 H2 R2 => hc.se R2.park (Tc.mono (fun z ρ3 q2 u N3 H3 R3 => ?_) q)) q)⟩
  obtain ⟨hl, hz, hx, k, hk, q3⟩ := q2
  obtain ⟨A, h⟩ := (R3.cons.cons).top
  obtain ⟨v1, vr, A1, A2, e1, r1, r2, _⟩ := h
  cases e1
  obtain ⟨v2, vr2, A3, A4, e2, r3, r4, _⟩ := r2
  cases e2
  obtain ⟨v3, vr3, A5, A6, e3, r5, _, _⟩ := r4
  cases e3
  obtain ⟨p', us', e4, h4, _, r6⟩ := r1
  cases e4
  have vk := D.val_ok (k := k) (ks := ks) r6
  refine ⟨valV (ks.zip us') k, by rw [D.key_ok r3 hk]; exact DGet.rk h4, ?_⟩
  cases q2 : D.val ks xs k with
  | some d' =>
    rw [q2] at vk q3
    obtain ⟨v, A7, e1, r1⟩ := vk
    rw [e1]
    exact q3 _ _ _ (R3.cons.cons.res (r1.share (D.val_sh q2 hx)))
  | none =>
    rw [q2] at vk q3
    rw [vk hl]
    exact q3 _ _ _ (R3.cons.cons.res (r5.share hz))
end
end BV

/-! BV, part R: dicts, further: displays, stores, walks. -/
namespace BV
open PySem PySem.Spec PyProof.Rows L2
/-! ### a dict is locked -/
section
variable {K : Fg} {C : Ct} {N N' : AS} {σ : Sts} {ρ : Ev} {H H' : Hp} {xs vs : List V} {es ds : List D} {v : V} {d : D}
theorem Ext.lock {a : Addr} {kvs : List (Key × V)} {o : Obj} (ha : H a = some (.dK kvs)) : Ext K N H N (upd H a (.frz o (.dK kvs))) := by
  have ne : ∀ b u, H b = some u → (∀ kvs, u ≠ .dK kvs) → upd H a (.frz o (.dK kvs)) b = some u := fun b u h hu => by
    rw [upd_ne fun z => ?_]
    · exact h
    · rw [z, ha] at h
      cases h
      exact hu _ rfl
  refine ⟨fun b vs h => ?_, fun b vs h => ?_, fun b u h nb => ⟨?_, nb⟩⟩
  · rcases h with h | h
    · refine .inl ?_
      rcases h with h | ⟨o', h⟩
      · exact .inl (ne _ _ h (fun _ z => by cases z))
      · exact .inr ⟨o', ne _ _ h (fun _ z => by cases z)⟩
    · exact .inr h
  · rcases h with ⟨h, nb⟩ | h
    · refine .inl ⟨?_, nb⟩
      rcases h with h | ⟨o', h⟩
      · exact .inl (ne _ _ h (fun _ z => by cases z))
      · exact .inr ⟨o', ne _ _ h (fun _ z => by cases z)⟩
    · exact .inr h
  · by_cases e : b = a
    · subst e
      rw [ha] at h
      cases h
      exact .inr ⟨kvs, o, rfl, upd_same⟩
    · exact .inl (by rw [upd_ne e]; exact h)
theorem Rl.lock {a : Addr} {kvs : List (Key × V)} {o : Obj} (R : Rl K C N σ ρ H xs es vs ds) (ha : H a = some (.dK kvs)) (na : ¬ N a) : Rl K C N σ ρ (upd H a (.frz o (.dK kvs))) xs es vs ds := by
  obtain ⟨A, B1, B2, hA, h1, h2, d1, d2, ow⟩ := R.ex
  have x : Ext K N H N (upd H a (.frz o (.dK kvs))) := .lock ha
  have ne : ∀ y, N y → upd H a (.frz o (.dK kvs)) y = H y := fun y q => upd_ne fun z => na (z ▸ q)
  have nz : ∀ y, H y ≠ none → upd H a (.frz o (.dK kvs)) y ≠ none := fun y q => by
    by_cases z : y = a
    · rw [z, upd_same]; exact fun z => by cases z
    · rw [upd_ne z]; exact q
  exact ⟨⟨A, B1, B2, hA.keep x fun b q => ne b (ow b (.inl q)).1, h1.keep x es fun b q => ne b (ow b (.inr (.inl q))).1, h2.keep x ds fun b q => ne b (ow b (.inr (.inr q))).1, d1, d2, ow⟩,
    fun y q => nz y (R.nh y q), R.h0, R.n0, fun y q n => (ne y (R.n0 y q n)).trans (R.fr y q n), R.xt.trans x, R.pr, fun y q => nz y (R.dm y q)⟩
/-- more stands in the heap than before -/
theorem Ext.grow (k : ∀ b o, H b = some o → H' b = some o) : Ext K N H N H' := by
  refine ⟨fun b vs h => ?_, fun b vs h => ?_, fun b u h nb => ⟨.inl (k b u h), nb⟩⟩
  · rcases h with h | h
    · exact .inl (Rd.keep (k b) h)
    · exact .inr h
  · rcases h with ⟨h, nb⟩ | h
    · exact .inl ⟨Rd.keep (k b) h, nb⟩
    · exact .inr h
theorem Rl.grow (R : Rl K C N σ ρ H xs es vs ds) (k : ∀ b o, H b = some o → H' b = some o) : Rl K C N σ ρ H' xs es vs ds := by
  obtain ⟨A, B1, B2, hA, h1, h2, d1, d2, ow⟩ := R.ex
  have x : Ext K N H N H' := .grow k
  have ne : ∀ y, N y → H' y = H y := fun y q => by
    cases e : H y with
    | none => exact absurd e (R.nh y q)
    | some o => exact k y o e
  have nz : ∀ y, H y ≠ none → H' y ≠ none := fun y q => by
    cases e : H y with
    | none => exact absurd e q
    | some o => rw [k y o e]; exact fun z => by cases z
  exact ⟨⟨A, B1, B2, hA.keep x fun b q => ne b (ow b (.inl q)).1, h1.keep x es fun b q => ne b (ow b (.inr (.inl q))).1, h2.keep x ds fun b q => ne b (ow b (.inr (.inr q))).1, d1, d2, ow⟩,
    fun y q => nz y (R.nh y q), R.h0, R.n0, fun y q n => (ne y (R.n0 y q n)).trans (R.fr y q n), R.xt.trans x, R.pr, fun y q => nz y (R.dm y q)⟩
/-- a new list at p over a heap that has grown -/
theorem Rl.growN {p : Addr} {zs : List V} {fs : List D} (R : Rl K C N σ ρ H xs es vs ds) (k : ∀ b o, H b = some o → H' b = some o) (np : H p = none) (hp : H' p = some (.lst zs)) (hz : ∀ H2 : Hp, (∀ b, b ≠ p → H2 b = H' b) → (H2 p = none) → Rps K N H2 fs zs AS0) : Rl K C (fun y => N y ∨ y = p) σ ρ H' [.ref p] [.own fs] vs ds := by
  let H2 : Hp := fun b => if b = p then none else H' b
  have h2p : H2 p = none := if_pos rfl
  have h2n : ∀ b, b ≠ p → H2 b = H' b := fun b hb => if_neg hb
  have R2 : Rl K C N σ ρ H2 xs es vs ds := R.grow fun b o e => by
    rw [h2n b (fun z => by rw [z, np] at e; cases e)]
    exact k b o e
  have R3 := R2.allocN (zs := zs) (fs := fs) h2p (hz H2 h2n h2p)
  have e : upd H2 p (.lst zs) = H' := by
    funext b
    by_cases hb : b = p
    · rw [hb, upd_same, hp]
    · rw [upd_ne hb, h2n b hb]
  rw [e] at R3
  exact R3
end
/-! ### new keys, new values -/
def hasK : List Key → Key → Bool
  | [], _ => false
  | j :: ks, k => decide (j = k) || hasK ks k
theorem hasK_mem {k : Key} : ∀ {ks : List Key}, hasK ks k = true ↔ k ∈ ks
  | [] => by simp [hasK]
  | j :: ks => by
    rw [show hasK (j :: ks) k = (decide (j = k) || hasK ks k) from rfl, Bool.or_eq_true, decide_eq_true_eq, hasK_mem (ks := ks), List.mem_cons]
    exact ⟨fun h => h.imp (fun z => z.symm) id, fun h => h.imp (fun z => z.symm) id⟩
def putKs (ks : List Key) (k : Key) : List Key := if hasK ks k = true then ks else ks ++ [k]
def repX {α : Type} : List Key → List α → Key → α → List α
  | k0 :: ks, x :: xs, k, z => (if k0 = k then z else x) :: repX ks xs k z
  | _, xs, _, _ => xs
def putX {α : Type} (ks : List Key) (xs : List α) (k : Key) (z : α) : List α := if hasK ks k = true then repX ks xs k z else xs ++ [z]
theorem rep_zip {k : Key} {w : V} : ∀ {ks : List Key} {us : List V}, ((ks.zip us).map fun kv => if kv.1 = k then (kv.1, w) else kv) = ks.zip (repX ks us k w)
  | [], us => by simp
  | _ :: _, [] => by simp [repX]
  | k0 :: ks, u :: us => by
    rw [List.zip_cons_cons, List.map_cons, rep_zip (ks := ks)]
    show _ = (k0 :: ks).zip ((if k0 = k then w else u) :: repX ks us k w)
    rw [List.zip_cons_cons]
    by_cases e : k0 = k
    · rw [if_pos e, if_pos e]
    · rw [if_neg e, if_neg e]
theorem any_zip {k : Key} : ∀ {ks : List Key} {us : List V}, ks.length = us.length → ((ks.zip us).any fun kv => decide (kv.1 = k)) = hasK ks k
  | [], us, _ => by simp [hasK]
  | _ :: _, [], h => by cases h
  | k0 :: ks, u :: us, h => by
    rw [List.zip_cons_cons, List.any_cons, any_zip (Nat.succ.inj h)]
    rfl
theorem putK_zip {ks : List Key} {us : List V} {k : Key} {w : V} (hl : ks.length = us.length) : putK (ks.zip us) k w = (putKs ks k).zip (putX ks us k w) := by
  show (if ((ks.zip us).any fun kv => decide (kv.1 = k)) = true then _ else _) = _
  rw [any_zip hl]
  unfold putKs putX
  by_cases e : hasK ks k = true
  · rw [if_pos e, if_pos e, if_pos e, rep_zip]
  · rw [if_neg e, if_neg e, if_neg e, List.zip_append hl]
    rfl
theorem rep_len {α : Type} {k : Key} {z : α} : ∀ {ks : List Key} {xs : List α}, (repX ks xs k z).length = xs.length
  | [], xs => rfl
  | _ :: _, [] => rfl
  | _ :: ks, _ :: xs => congrArg (· + 1) (rep_len (ks := ks))
theorem put_len {α : Type} {k : Key} {z : α} {ks : List Key} {xs : List α} (h : ks.length = xs.length) : (putKs ks k).length = (putX ks xs k z).length := by
  unfold putKs putX
  split
  · rw [rep_len]; exact h
  · rw [List.length_append, List.length_append, h]; rfl
theorem Rps.rep {K : Fg} {N : AS} {H : Hp} {z : D} {w : V} {k : Key} (r : Rp K N H z w AS0) : ∀ {ks : List Key} {xs : List D} {us : List V} {A : AS}, Rps K N H xs us A → Rps K N H (repX ks xs k z) (repX ks us k w) A
  | [], _, _, _, h => h
  | _ :: _, [], us, A, h => by
    cases (show us = [] from h)
    exact rfl
  | k0 :: ks, x :: xs, us, A, h => by
    obtain ⟨v, vr, A1, A2, rfl, h1, h2, s1, s2, dj⟩ := h
    show Rps K N H ((if k0 = k then z else x) :: repX ks xs k z) ((if k0 = k then w else v) :: repX ks vr k w) A
    by_cases e : k0 = k
    · rw [if_pos e, if_pos e]
      exact ⟨w, _, AS0, A2, rfl, r, Rps.rep r h2, fun _ q => q.elim, s2, fun _ q => q.elim⟩
    · rw [if_neg e, if_neg e]
      exact ⟨v, _, A1, A2, rfl, h1, Rps.rep r h2, s1, s2, dj⟩
theorem Rps.put {K : Fg} {N : AS} {H : Hp} {z : D} {w : V} {k : Key} (r : Rp K N H z w AS0) {ks : List Key} {xs : List D} {us : List V} {A : AS} (h : Rps K N H xs us A) : Rps K N H (putX ks xs k z) (putX ks us k w) A := by
  unfold putX
  split
  · exact Rps.rep r h
  · have := h.append (show Rps K N H [z] [w] AS0 from .cons0 r rfl) (fun _ _ z => z)
    exact this.up fun x q => q.elim (fun q => q) fun q => q.elim
section
variable {X : Cx} {C : Ct} {a b c e tg iter elt kx vx : Expr} {es ifs : List Expr} {st : Stmt} {sts : List Stmt} {ta tb tc te : TE} {Ta Tb Tc Te : XE} {pos p p2 apos cpos : Pos} {tr : TA} {Tr : XA} {sl : List (Option Nat)} {g : TG} {Tg : XG}
/-! ### displays -/
def xDict0 : XE := ⟨fun ρ Q => Q (.ob (.dic []) []) ρ, fun m q => m _ _ q⟩
theorem ve_dict0 : VE X C (.Dict [] [] pos) tDNewK xDict0 := ⟨pe_dnewK, fun R q p np => q _ _ _ (R.allocK (k := .dic []) (zs := []) (fs := []) np rfl)⟩
def xDict1 (A B : XE) : XE := ⟨fun ρ Q => A.f ρ fun y ρ1 => B.f ρ1 fun z ρ2 => ∃ k, y.key = some k ∧ Q (.ob (.dic [k]) [z]) ρ2, fun m q => A.mono (fun _ _ h => B.mono (fun _ _ ⟨k, e, h⟩ => ⟨k, e, m _ _ h⟩) h) q⟩
theorem dic_nt {ks : List Key} : (∀ a us vs, (Kd.dic ks).mk a us ≠ .tup vs) ∧ ∀ a us o w, (Kd.dic ks).mk a us ≠ .frz o w := ⟨fun a us vs z => HO.noConfusion (show HO.dK (ks.zip us) = .tup vs from z), fun a us o w z => HO.noConfusion (show HO.dK (ks.zip us) = .frz o w from z)⟩
theorem ve_dict1 (ha : VE X C a ta Ta) (hb : VE X C b tb Tb) : VE X C (.Dict [some a] [b] pos) (tDisp [(ta, tb)]) (xDict1 Ta Tb) := by
  refine ⟨pe_disp (pps_cons ha.pe hb.pe pps_nil) rfl rfl (by simp) (by show 1 ≤ 15; decide), fun {N σ ρ H vs ds Q} R q p np => ?_⟩
  have R1 := (R.allocK (k := .dic []) (zs := []) (fs := []) np rfl).park
  refine ha.se R1 (Ta.mono (fun y ρ1 q v N1 H1 R1 => ?_) q)
  obtain ⟨A, ry⟩ := R1.top1
  refine hb.se R1.drop (Tb.mono (fun z ρ2 q w N2 H2 R2 => ?_) q)
  obtain ⟨k, hk, q⟩ := q
  obtain ⟨us, hp, hl, ⟨B1, B2, r1, r2⟩, wr⟩ := R2.cons.writeK dic_nt.1 dic_nt.2
  have hus : us = [] := List.eq_nil_of_length_eq_zero hl
  subst hus
  refine ⟨hp, [(k, w)], by rw [D.key_ok ry hk]; rfl, by show 1 ≤ 15; decide, ?_⟩
  exact q _ _ _ (wr (k2 := .dic [k]) (gs := [z]) (zs := [w]) fun B1 B2 h1 h2 dj => ⟨B2, h2, fun _ z => .inr z⟩)
/-! ### stores -/
def xDput (i : Nat) (A B : XE) : XS := ⟨fun G ρ => B.f ρ fun z ρ1 => (∃ d, ρ1[i]? = some (some d)) ∧ A.f ρ1 fun y ρ2 => ∃ ks xs k, ρ2[i]? = some (some (.ob (.dic ks) xs)) ∧ y.key = some k ∧ ks.length = xs.length ∧ ks.length < sizeLine ∧ z.sh = true ∧ G.nx (ρ2.set i (some (.ob (.dic (putKs ks k)) (putX ks xs k z)))),
  fun l q => B.mono (fun _ _ ⟨h1, h⟩ => ⟨h1, A.mono (fun _ _ ⟨ks, xs, k, h1, h2, h3, h4, h5, h⟩ => ⟨ks, xs, k, h1, h2, h3, h4, h5, l.nx _ h⟩) h⟩) q⟩
theorem vs_dput (i : Nat) {o k v : Expr} {spos : Pos} (hu : X.A.units + 1 < cLine) (ho : PE X o (tVar i)) (hk : VE X C k ta Ta) (hv : VE X C v tb Tb) (hs : swapsWith v (some (.Subscript o k p)) spos.line X.env = pure false := by rfl)
    (hp : PS X (.Assign [.Subscript o k p] v spos) (sDPut (tVar i) ta tb)) : VS X C (.Assign [.Subscript o k p] v spos) (sDPut (tVar i) ta tb) (xDput i Ta Tb) := by
  refine ⟨hp, fun {N σ ρ H vs ds E G} R q L => ?_⟩
  refine hv.se R (Tb.mono (fun z ρ1 q w N1 H1 R1 => ?_) q)
  obtain ⟨⟨d0, h0⟩, q⟩ := q
  obtain ⟨u, A, e1, _⟩ := R1.any h0
  refine ⟨u, e1, hk.se R1.park (Ta.mono (fun y ρ2 q v2 N2 H2 R2 => ?_) q)⟩
  obtain ⟨ks, xs, k, h1, h2, h3, h4, h5, q⟩ := q
  obtain ⟨A2, ry⟩ := R2.top1
  have R3 := R2.drop.cons
  obtain ⟨u', e2, R4⟩ := R3.lendL h1
  rw [e1] at e2
  cases e2
  obtain ⟨a, us, B, rfl, hB⟩ : ∃ a us B, u = .ref a ∧ H2 a = some ((Kd.dic ks).mk a us) ∧ Rps X.K N2 H2 xs us B := by
    obtain ⟨A, r⟩ := R4.fst
    obtain ⟨a, us, B, rfl, ha, _, _, r⟩ := r
    exact ⟨a, us, B, rfl, ha, r⟩
  obtain ⟨us2, hp2, hl2, _, wr⟩ := R4.writeK dic_nt.1 dic_nt.2
  have eus : us2 = us := by
    have e : (Kd.dic ks).mk a us2 = (Kd.dic ks).mk a us := Option.some.inj (hp2.symm.trans hB.1)
    have e2 : ks.zip us2 = ks.zip us := by
      have e3 : HO.dK (ks.zip us2) = HO.dK (ks.zip us) := e
      exact HO.dK.inj e3
    have l1 : ks.length = us2.length := by rw [hl2]; exact h3
    have l2 : ks.length = us.length := by rw [← hB.2.length]; exact h3
    have m1 : (ks.zip us2).map (·.2) = us2 := List.map_snd_zip (by omega)
    have m2 : (ks.zip us).map (·.2) = us := List.map_snd_zip (by omega)
    rw [← m1, e2, m2]
  subst eus
  have l2 : ks.length = us2.length := by rw [hl2]; exact h3
  refine ⟨a, _, rfl, by rw [D.key_ok ry h2]; exact DPut.k (H := H2) (v := w) hB.1 (by rw [List.length_zip]; omega), ?_⟩
  rw [putK_zip l2]
  have R5 := (wr (k2 := .dic (putKs ks k)) (gs := putX ks xs k z) (zs := putX ks us2 k w) fun B1 B2 g1 g2 dj => by
    obtain ⟨v', vr, A1, A3, ev, r3, r4, s1, s2, _⟩ := g2
    cases ev
    exact ⟨B1, Rps.put (r3.share h5) g1, fun _ z => .inl z⟩).give e1
  rw [List.set_set] at R5
  exact L.nx _ _ _ _ R5 q
end
end BV

/-! BV, part S: dicts: get, walks, comprehensions; lists += . -/
namespace BV
open PySem PySem.Spec PyProof.Rows L2
def kD : Key → D
  | .inl i => .int i
  | .inr x => .str x
theorem kD_rp {K : Fg} {N : AS} {H : Hp} (k : Key) : Rp K N H (kD k) (kV k) AS0 := by
  cases k with
  | inl i => exact rfl
  | inr x => exact rfl
theorem flat_rp {K : Fg} {N N' : AS} {H H' : Hp} {d : D} {v : V} {A : AS} (h : Rp K N H d v A) (f : d.flat = true) : Rp K N' H' d v AS0 := by
  cases d with
  | non => exact h
  | bl b => exact h
  | int b => exact h
  | str b => exact h
  | _ => cases f
theorem rps_keys {K : Fg} {N : AS} {H : Hp} : ∀ (ks : List Key), Rps K N H (ks.map kD) (ks.map kV) AS0
  | [] => rfl
  | k :: ks => .cons0 (kD_rp k) (rps_keys ks)
section
variable {X : Cx} {C : Ct} {a b c e tg iter elt kx vx : Expr} {es ifs : List Expr} {st : Stmt} {sts : List Stmt} {ta tb tc te : TE} {Ta Tb Tc Te : XE} {pos p p2 apos cpos : Pos} {tr : TA} {Tr : XA} {sl : List (Option Nat)} {g : TG} {Tg : XG} {wi : TI} {Ti : XI} {tt : TT} {Ut : XT}
/-! ### get of an own dict -/
def xGet2S (i : Nat) (A B : XE) : XE := ⟨fun ρ Q => (∃ ks xs, ρ[i]? = some (some (.ob (.dic ks) xs))) ∧ A.f ρ fun y ρ1 => B.f ρ1 fun z ρ2 => ∃ ks xs k, ρ2[i]? = some (some (.ob (.dic ks) xs)) ∧ ks.length = xs.length ∧ z.sh = true ∧ xs.all D.sh = true ∧ y.key = some k ∧ Q ((D.val ks xs k).getD z) ρ2,
  fun m ⟨h0, q⟩ => ⟨h0, A.mono (fun _ _ h => B.mono (fun _ _ ⟨ks, xs, k, h1, h2, h3, h4, h5, h⟩ => ⟨ks, xs, k, h1, h2, h3, h4, h5, m _ _ h⟩) h) q⟩⟩
theorem ve_dget2S (i : Nat) {o : Expr} (hu : X.A.units + 1 < cLine) (ho : PE X o (tVar i)) (hb : VE X C b tb Tb) (hc : VE X C c tc Tc) (m : M2 X o "get" apos b c cpos) : VE X C (.Call (.Attribute o "get" apos) [b, c] [] cpos) (tDGet2 (tVar i) tb tc) (xGet2S i Tb Tc) := by
  refine ⟨pe_dget2 hu ho hb.pe hc.pe m, fun {N σ ρ H vs ds Q} R q => ?_⟩
  obtain ⟨⟨ks0, xs0, h0⟩, q⟩ := q
  obtain ⟨u, A, e1, r⟩ := R.any h0
  obtain ⟨a, us, B, rfl, ha, _, _, _⟩ := r
  refine ⟨_, e1, a, rfl, .inl ⟨_, .inl ha⟩, hb.se R (Tb.mono (fun y ρ2 q w N2 H2 R2 => hc.se R2.park (Tc.mono (fun z ρ3 q2 u N3 H3 R3 => ?_) q)) q)⟩
  obtain ⟨ks, xs, k, h1, hl, hz, hx, hk, q3⟩ := q2
  obtain ⟨u', A', e2, r'⟩ := R3.any h1
  rw [e1] at e2
  cases e2
  obtain ⟨a', us', B', e3, ha', _, _, rr⟩ := r'
  cases e3
  obtain ⟨A4, h⟩ := (R3.cons).top
  obtain ⟨v1, vr, A1, A2, e1', r1, r2, _⟩ := h
  cases e1'
  obtain ⟨v2, vr2, A3, A5, e2', r3, r4, _⟩ := r2
  cases e2'
  have vk := D.val_ok (k := k) (ks := ks) rr
  refine ⟨valV (ks.zip us') k, by rw [D.key_ok r1 hk]; exact DGet.rk (.inl ha'), ?_⟩
  cases q2 : D.val ks xs k with
  | some d' =>
    rw [q2] at vk q3
    obtain ⟨v, A7, e1, r1⟩ := vk
    rw [e1]
    exact q3 _ _ _ (R3.cons.res (r1.share (D.val_sh q2 hx)))
  | none =>
    rw [q2] at vk q3
    rw [vk hl]
    exact q3 _ _ _ (R3.cons.res (r3.share hz))
/-! ### a dict walked -/
def iKeysZ (td : TE) : TI := fun σ H R => td σ H fun x H1 => ∃ d kvs, x = .ref d ∧ Rd H1 d (.dK kvs) ∧ (∀ o, H1 d = some (.frz o (.dK kvs)) → R (Itk d o kvs) H1) ∧ (H1 d = some (.dK kvs) → ∀ o, R (Itk d o kvs) (upd H1 d (.frz o (.dK kvs))))
theorem pi_keysZ (he : PE X e te) : PI X tg e (iKeysZ te) := by
  refine ⟨fun pins s σ H R I h => ?_⟩
  refine thn (he.run pins s σ H _ I h) fun u s1 ⟨x, H1, I1, rx, d, kvs, ex, hd, q1, q2⟩ => ?_
  subst ex
  obtain rfl : u = Value.ref d := rx
  rcases hd with hd | ⟨o, hd⟩
  · obtain ⟨o, I2⟩ := I1.lock hd True.intro
    obtain ⟨hs, hgd, hx, es, ep, vs, hdt, hsz, kv, hm⟩ := I2.frzK upd_same
    refine iter_keys hs hgd hx hdt (pi_one (tk := s1.toks) I2 _ (turn_keys _ hdt) ⟨_, Heap.get?_push_size _ rfl, rfl, ?_⟩ (q2 hd o))
    rw [hsz] <;> rfl
  · obtain ⟨hs, hgd, hx, es, ep, vs, hdt, hsz, kv, hm⟩ := I1.frzK hd
    refine iter_keys hs hgd hx hdt (pi_one (tk := s1.toks) I1 _ (turn_keys _ hdt) ⟨_, Heap.get?_push_size _ rfl, rfl, ?_⟩ (q1 o hd))
    rw [hsz] <;> rfl
def lkD (o : Obj) (kvs : List (Key × V)) : D := .fz (.obj (fun _ => .frz o (.dK kvs)) fun _ _ z => HO.noConfusion z) []
theorem itd_keys {K : Fg} {a : Addr} {o : Obj} {kvs : List (Key × V)} {ks : List Key} (hk : kvs.map (·.1) = ks) : ItD K C (Itk a o kvs) (ks.map kD) (.ref a) (lkD o kvs) := by
  intro N σ ρ H us fs vs ds hl R
  obtain ⟨A, r⟩ := R.waits hl
  obtain ⟨a', ws, ea, ha, na, _⟩ := r
  cases ea
  have ha : H a = some (.frz o (.dK kvs)) := ha
  have hlen : (ks.map kD).length = kvs.length := by rw [List.length_map, ← hk, List.length_map]
  refine ⟨fun k z h => ?_, fun k h => ⟨ha, by omega⟩⟩
  have hk2 : k < kvs.length := by rw [← hlen]; exact (List.getElem?_eq_some_iff.mp h).1
  refine ⟨⟨ha, hk2⟩, fun x H' hy => ?_⟩
  obtain ⟨rfl, key, v, e1, rfl⟩ := hy
  have e2 : z = kD key := by
    rw [List.getElem?_map, ← hk, List.getElem?_map, e1] at h
    exact (Option.some.inj h).symm
  rw [e2]
  exact ⟨N, R.res (kD_rp key)⟩
def xiKeys (T : XE) : XI := ⟨fun ρ Q => T.f ρ fun d ρ1 => ∃ ks xs, d = .fz (.dic ks) xs ∧ ks.length = xs.length ∧ Q (ks.map kD) ρ1, fun m q => T.mono (fun _ _ h => by
  obtain ⟨ks, xs, h1, h2, q⟩ := h
  exact ⟨ks, xs, h1, h2, m _ _ q⟩) q⟩
theorem zip_fst {ks : List Key} {us : List V} (h : ks.length = us.length) : (ks.zip us).map (·.1) = ks := List.map_fst_zip (by omega)
theorem vi_keys (h : VE X C iter te Te) : VI X C tg iter (iKeysZ te) (xiKeys Te) := by
  refine ⟨pi_keysZ h.pe, fun {N σ ρ H vs ds R'} R q => h.se R (Te.mono (fun d ρ1 h v N1 H1 R1 => ?_) q)⟩
  obtain ⟨ks, xs, rfl, h2, q⟩ := h
  obtain ⟨A, a, us, rfl, ha, na, r⟩ := R1.top1
  have hz : (ks.zip us).map (·.1) = ks := zip_fst (by rw [← r.length]; exact h2)
  refine ⟨a, ks.zip us, rfl, ha, fun o ho => ?_, fun ho o => ?_⟩
  · exact q _ N1 H1 (.ref a) (lkD o (ks.zip us)) (R1.res (d := lkD o (ks.zip us)) ⟨a, [], rfl, ho, na, rfl⟩).park (itd_keys hz)
  · exact q _ N1 _ (.ref a) (lkD o (ks.zip us)) ((R1.lock (o := o) ho na).res (d := lkD o (ks.zip us)) ⟨a, [], rfl, upd_same, na, rfl⟩).park (itd_keys hz)
/-! ### items -/
def iItemsZ (td : TE) : TI := fun σ H R => td σ H fun x H1 => ∃ d kvs, x = .ref d ∧ Rd H1 d (.dK kvs) ∧ (∀ o, H1 d = some (.frz o (.dK kvs)) → R (Iti d o kvs) H1) ∧ (H1 d = some (.dK kvs) → ∀ o, R (Iti d o kvs) (upd H1 d (.frz o (.dK kvs))))
theorem pi_itemsZ {elts : List Expr} {kk : Nat} {tpos : Pos} (he : PE X e te) (hbase : attributeBase e "items" X.env (eval e X.env) = eval e X.env := by rfl) (hline : (apos.endLine == cpos.line) = true := by rfl) :
    PI X (.Tuple elts kk tpos) (.Call (.Attribute e "items" apos) [] [] cpos) (iItemsZ te) := by
  refine ⟨fun pins s σ H R I h => ?_⟩
  refine wpAny_Call_method (T := "dict") (id := "dict.items") hbase rfl hline F.plainAttrs_dict F.slot_dict_items F.type_dict_items (thn (he.run pins s σ H _ I h) fun u s1 ⟨x, H1, I1, rx, d, kvs, ex, hd, q1, q2⟩ => ?_)
  subst ex
  obtain rfl : u = Value.ref d := rx
  have go : ∀ (H2 : Hp) (o : Obj), Inv X pins σ H2 s1 → H2 d = some (.frz o (.dK kvs)) → R (Iti d o kvs) H2 → s1.TypeIs (.ref d) "dict" ∧ (∀ b, Value.ref d = Value.ref b → ∃ ob, s1.heap.get? b = some ob ∧ ob.dict = none) ∧ wpAny (model X.prog X.w) X.A (callWith cpos (.builtin "dict.items") [.ref d] [] []) (fun v s' => wpAny (model X.prog X.w) X.A (pyIter v) (PIE X pins σ (.Tuple elts kk tpos) R) X.xe s') X.xe s1 := fun H2 o I1 hd q => by
    obtain ⟨hs, hgd, hx, es, ep, vs, hdt, hsz, kv, hm⟩ := I1.frzK hd
    have hl : kvs.length = vs.length := Paired.length kv
    refine ⟨hm.dictOf.typeIs, hm.dictOf.mapOf.noDict, ?_⟩
    have I2 : Inv X pins σ H2 { s1 with heap := s1.heap.push { cls := .type "dict_items", data := .fields #[.ref d] } } := I1.kept (t' := s1.toks) fun b ob q => Heap.get?_push_of_some _ q
    have fin : wpAny (model X.prog X.w) X.A (pyIter (.ref s1.heap.objs.size)) (PIE X pins σ (.Tuple elts kk tpos) R) X.xe { s1 with heap := s1.heap.push { cls := .type "dict_items", data := .fields #[.ref d] } } := by
      refine wpAny_pyIter_items (d := d) (knd := mixKind X.prog X.w) ⟨_, Heap.get?_push_size _ rfl, rfl, rfl⟩ (hm.push _) (pi_one (tk := s1.toks) I2 _ (turn_items _ hdt) ⟨.none, .none, ?_⟩ q)
      rw [hl]
      exact Heap.get?_push_size _ rfl
    show wpAny _ _ (callWith cpos (.builtin "dict.items") [.ref d] [] []) _ X.xe s1
    exact method_meetsIn F.slot_dict_items F.entry_dict_items rfl (PySem.evalArgs_none ⟨rfl, hm.dictOf.typeIs, F.args_dict_items_1 _, _, meets_dict_items (mixKind X.prog X.w) d hs, ⟨vs, hm.dictOf⟩, fin⟩)
  rcases hd with hd | ⟨o, hd⟩
  · obtain ⟨o, I2⟩ := I1.lock hd True.intro
    exact go _ o I2 upd_same (q2 hd o)
  · exact go _ o I1 hd (q1 o hd)
def itemsD : List Key → List D → List D
  | k :: ks, x :: xs => .tup [kD k, x] :: itemsD ks xs
  | _, _ => []
theorem itemsD_get : ∀ {ks : List Key} {xs : List D} {us : List V} {K : Fg} {N : AS} {H : Hp} {A : AS} {i : Nat} {z : D}, Rps K N H xs us A → xs.all D.flat = true → ks.length = xs.length → (itemsD ks xs)[i]? = some z → ∃ k x v, (ks.zip us)[i]? = some (k, v) ∧ z = .tup [kD k, x] ∧ x.flat = true ∧ ∃ A, Rp K N H x v A
  | [], _, _, _, _, _, _, _, _, _, _, _, h => by simp [itemsD] at h
  | _ :: _, [], _, _, _, _, _, _, _, _, _, h, _ => by cases h
  | k :: ks, x :: xs, us, K, N, H, A, 0, z, r, f, hl, h => by
    obtain ⟨v, vr, A1, A2, rfl, r1, r2, _⟩ := r
    rw [List.all_cons, Bool.and_eq_true] at f
    have e : z = .tup [kD k, x] := (Option.some.inj h).symm
    exact ⟨k, x, v, rfl, e, f.1, A1, r1⟩
  | k :: ks, x :: xs, us, K, N, H, A, i + 1, z, r, f, hl, h => by
    obtain ⟨v, vr, A1, A2, rfl, r1, r2, _⟩ := r
    rw [List.all_cons, Bool.and_eq_true] at f
    obtain ⟨k', x', v', h1, h2⟩ := itemsD_get (i := i) (z := z) r2 f.2 (Nat.succ.inj hl) (by simpa [itemsD] using h)
    exact ⟨k', x', v', by simpa using h1, h2⟩
theorem itemsD_len : ∀ {ks : List Key} {xs : List D}, ks.length = xs.length → (itemsD ks xs).length = ks.length
  | [], xs, _ => by cases xs <;> rfl
  | _ :: _, [], h => by cases h
  | _ :: ks, _ :: xs, h => congrArg (· + 1) (itemsD_len (Nat.succ.inj h))
theorem itd_items {K : Fg} {a : Addr} {o : Obj} {ks : List Key} {xs : List D} {us : List V} {N0 : AS} {H0 : Hp} {A0 : AS} (r0 : Rps K N0 H0 xs us A0) (f : xs.all D.flat = true) (hl0 : ks.length = xs.length) : ItD K C (Iti a o (ks.zip us)) (itemsD ks xs) (.ref a) (lkD o (ks.zip us)) := by
  intro N σ ρ H ws fs vs ds hl R
  obtain ⟨A, r⟩ := R.waits hl
  obtain ⟨a', ws', ea, ha, na, _⟩ := r
  cases ea
  have ha : H a = some (.frz o (.dK (ks.zip us))) := ha
  have hlen : (itemsD ks xs).length = (ks.zip us).length := by rw [itemsD_len hl0, List.length_zip, ← r0.length]; omega
  refine ⟨fun k z h => ?_, fun k h => ⟨ha, by omega⟩⟩
  have hk2 : k < (ks.zip us).length := by rw [← hlen]; exact (List.getElem?_eq_some_iff.mp h).1
  obtain ⟨key, x, v, h1, rfl, h3, A1, h4⟩ := itemsD_get r0 f hl0 h
  refine ⟨⟨ha, hk2⟩, fun y H' hy => ?_⟩
  obtain ⟨T, key', v', e1, rfl, nT, rfl⟩ := hy
  rw [h1] at e1
  cases e1
  exact ⟨N, R.newTup nT (.cons0 (kD_rp key) (.cons0 (flat_rp h4 h3) rfl))⟩
def xiItems (T : XE) : XI := ⟨fun ρ Q => T.f ρ fun d ρ1 => ∃ ks xs, d = .fz (.dic ks) xs ∧ ks.length = xs.length ∧ xs.all D.flat = true ∧ Q (itemsD ks xs) ρ1, fun m q => T.mono (fun _ _ h => by
  obtain ⟨ks, xs, h1, h2, h3, q⟩ := h
  exact ⟨ks, xs, h1, h2, h3, m _ _ q⟩) q⟩
theorem vi_items {elts : List Expr} {kk : Nat} {tpos : Pos} (h : VE X C e te Te) (hbase : attributeBase e "items" X.env (eval e X.env) = eval e X.env := by rfl) (hline : (apos.endLine == cpos.line) = true := by rfl) : VI X C (.Tuple elts kk tpos) (.Call (.Attribute e "items" apos) [] [] cpos) (iItemsZ te) (xiItems Te) := by
  refine ⟨pi_itemsZ h.pe hbase hline, fun {N σ ρ H vs ds R'} R q => h.se R (Te.mono (fun d ρ1 h v N1 H1 R1 => ?_) q)⟩
  obtain ⟨ks, xs, rfl, h2, h3, q⟩ := h
  obtain ⟨A, a, us, rfl, ha, na, r⟩ := R1.top1
  refine ⟨a, ks.zip us, rfl, ha, fun o ho => ?_, fun ho o => ?_⟩
  · exact q _ N1 H1 (.ref a) (lkD o (ks.zip us)) (R1.res (d := lkD o (ks.zip us)) ⟨a, [], rfl, ho, na, rfl⟩).park (itd_items r h3 h2)
  · exact q _ N1 _ (.ref a) (lkD o (ks.zip us)) ((R1.lock (o := o) ho na).res (d := lkD o (ks.zip us)) ⟨a, [], rfl, upd_same, na, rfl⟩).park (itd_items r h3 h2)
/-! ### list(d) -/
def listK1 : List D → Option D
  | [.fz (.dic ks) xs] => if ks.length = xs.length then some (.own (ks.map kD)) else none
  | _ => none
theorem cal_listK {K : Fg} : CalD K (fun xs H Q => ∃ (a : Addr) (kvs : List (Key × V)), xs = [.ref a] ∧ Rd H a (.dK kvs) ∧ ∀ p, H p = none → Q (.ref p) (upd H p (.lst (kvs.map fun kv => kV kv.1)))) listK1 := by
  intro C N σ ρ H xs vs fs ds z Q R h q
  unfold listK1 at h
  split at h
  · split at h
    · rename_i ks ys hl
      cases h
      obtain ⟨x, A, ex, r⟩ := R.one
      obtain ⟨a, us, rfl, ha, na, r⟩ := r
      refine ⟨a, ks.zip us, ex, ha, fun p np => q _ (fun y => N y ∨ y = p) _ ?_⟩
      have e : ((ks.zip us).map fun kv => kV kv.1) = ks.map kV := by
        have := congrArg (List.map kV) (zip_fst (ks := ks) (us := us) (by rw [← r.length]; exact hl))
        rw [List.map_map] at this
        exact this
      rw [e]
      exact R.allocN np (rps_keys (N := N) (H := H) ks)
    · cases h
  · cases h
/-! ### x += ys, x an own list -/
def xExt (i : Nat) (T : XE) : XS := ⟨fun G ρ => (∃ zs, ρ[i]? = some (some (.own zs))) ∧ T.f ρ fun d ρ1 => ∃ zs ys, ρ1[i]? = some (some (.own zs)) ∧ d = .own ys ∧ ys.all D.sh = true ∧ zs.length + ys.length ≤ sizeLine ∧ G.nx (ρ1.set i (some (.own (zs ++ ys)))),
  fun l ⟨h0, q⟩ => ⟨h0, T.mono (fun _ _ ⟨zs, ys, h1, h2, h3, h4, h⟩ => ⟨zs, ys, h1, h2, h3, h4, l.nx _ h⟩) q⟩⟩
theorem vs_ext {i : Nat} {x : Str} {px : Pos} {ios : List Nat} (hN : X.N.Nodup) (hi : X.N[i]? = some x) (hx : Loc X.env.scope x) (he : VE X C e te Te) (hC : ∀ p ∈ C.prot, p.1 ∈ ios) (hio : i ∉ ios := by decide) (hf : X.fn x = true ∨ X.env.scope.names.lookup x = some .local := by first | exact .inl rfl | exact .inr rfl | assumption) :
    VS X C (.AugAssign (.Name x px) .Add e pos) (tAug i te rExt2) (xExt i Te) := by
  refine ⟨ps_aug hN hi hx he.pe (fun pins s σ H x y v u Q I rx ry h => iop_ext pins s σ H x y v u Q I rx ry h) hf, fun {N σ ρ H vs ds E G} R q L => ?_⟩
  obtain ⟨⟨zs0, h0⟩, q⟩ := q
  obtain ⟨v, A, e1, _⟩ := R.any h0
  refine ⟨v, e1, he.se R (Te.mono (fun d ρ1 q w N1 H1 R1 => ?_) q)⟩
  obtain ⟨zs, ys, h1, rfl, h3, h4, q⟩ := q
  obtain ⟨b, us2, B2, rfl, hb, rr2⟩ := R1.ownAt
  obtain ⟨v', e2, R2⟩ := R1.lendL h1
  rw [e1] at e2
  cases e2
  obtain ⟨a, us, B, rfl, ha, rr⟩ := R2.ownAt
  have lz := rr.length
  have ly := rr2.length
  refine ⟨a, b, us, us2, rfl, rfl, ha, hb, by omega, ?_⟩
  have R3 : Rl X.K C N1 σ (ρ1.set i none) (upd H1 a (.lst (us ++ us2))) [.ref a] [.own (zs ++ ys)] vs ds := R2.write ha fun B1 B2 g1 g2 dj => by
    exact ⟨_, g1.append (rr2.share h3) (fun _ _ z => z), fun x z => z.elim .inl fun z => z.elim⟩
  have R4 := R3.give e1
  rw [List.set_set] at R4
  have eσ : σ.set i (some (.ref a)) = σ := set_get e1
  show E.nx (σ.set i (some (.ref a))) _
  rw [eσ]
  exact L.nx _ _ _ _ R4 q
end
end BV

/-! BV, part T: dict comprehensions. -/
namespace BV
open PySem PySem.Spec PyProof.Rows L2
theorem hasK_app {k j : Key} : ∀ {ks : List Key}, hasK (ks ++ [j]) k = (hasK ks k || decide (j = k))
  | [] => by simp [hasK]
  | a :: ks => by
    show (decide (a = k) || hasK (ks ++ [j]) k) = ((decide (a = k) || hasK ks k) || decide (j = k))
    rw [hasK_app (ks := ks), Bool.or_assoc]
section
variable {X : Cx} {C : Ct} {a b c e tg iter elt kx vx : Expr} {es ifs : List Expr} {ta tb tc te tk tv : TE} {Ta Tb Tc Te Tk Tv : XE} {pos p p2 apos cpos : Pos} {g : TG} {Tg : XG} {wi : TI} {Ti : XI} {tt : TT} {Ut : XT}
def xDc (I : XI) (U : XG) (W : XT) (A T : XE) (us : List Nat) : XE := ⟨fun ρ Q => I.f ρ fun zs ρ1 => ∃ J : Nat → List Key → List D → Ev → Prop, J 0 [] [] (wipeD ρ1 us) ∧
    (∀ k z ks xs ρ2, zs[k]? = some z → ks.length = xs.length → J k ks xs ρ2 → U.f z ρ2 fun ρ3 => W.f ρ3 fun b ρ4 => (b = true → A.f ρ4 fun y ρ5 => T.f ρ5 fun d ρ6 => ∃ key, y.key = some key ∧ hasK ks key = false ∧ ks.length < sizeLine ∧ J (k + 1) (ks ++ [key]) (xs ++ [d]) (wipeD ρ6 us)) ∧ (b = false → J (k + 1) ks xs (wipeD ρ4 us))) ∧
    ∀ ks xs ρ', ks.length = xs.length → J zs.length ks xs ρ' → Q (.ob (.dic ks) xs) (backD (heldD ρ1 us) ρ'),
  fun m q => I.mono (fun _ _ h => by
    obtain ⟨J, h0, h1, h2⟩ := h
    exact ⟨J, h0, h1, fun ks xs ρ' l j => m _ _ (h2 ks xs ρ' l j)⟩) q⟩
theorem se_dc {K : Fg} {us : List Nat} {ios : List Nat} (hC : ∀ p ∈ C.prot, p.1 ∈ ios) (hu : ∀ i ∈ us, i ∉ ios) (hi : ∀ {N : AS} {σ : Sts} {ρ : Ev} {H : Hp} {vs : List V} {ds : List D} {R : It → Hp → Prop}, Rl K C N σ ρ H [] [] vs ds →
    Ti.f ρ (fun zs ρ' => ∀ J N' H' pv pd, Rl K C N' σ ρ' H' [] [] (pv :: vs) (pd :: ds) → ItD K C J zs pv pd → R J H') → wi σ H R)
    (hg : ∀ {N : AS} {σ : Sts} {ρ : Ev} {H : Hp} {v : V} {d : D} {vs : List V} {ds : List D} {Q : Sts → Hp → Prop}, Rl K C N σ ρ H [v] [d] vs ds → Tg.f d ρ (fun ρ' => ∀ N' σ' H', Rl K C N' σ' ρ' H' [] [] vs ds → Q σ' H') → g v σ H Q)
    (gw : GW us g) (ht : ∀ {N : AS} {σ : Sts} {ρ : Ev} {H : Hp} {vs : List V} {ds : List D} {Q : Bool → Hp → Prop}, Rl K C N σ ρ H [] [] vs ds → Ut.f ρ (fun b ρ' => ∀ N' H', Rl K C N' σ ρ' H' [] [] vs ds → Q b H') → tt σ H Q)
    (hk : ∀ {N : AS} {σ : Sts} {ρ : Ev} {H : Hp} {vs : List V} {ds : List D} {Q : VK}, Rl K C N σ ρ H [] [] vs ds → Tk.f ρ (fun d ρ' => ∀ v N' H', Rl K C N' σ ρ' H' [v] [d] vs ds → Q v H') → tk σ H Q)
    (he : ∀ {N : AS} {σ : Sts} {ρ : Ev} {H : Hp} {vs : List V} {ds : List D} {Q : VK}, Rl K C N σ ρ H [] [] vs ds → Tv.f ρ (fun d ρ' => ∀ v N' H', Rl K C N' σ ρ' H' [v] [d] vs ds → Q v H') → tv σ H Q)
    {N : AS} {σ : Sts} {ρ : Ev} {H : Hp} {vs : List V} {ds : List D} {Q : VK} (R : Rl K C N σ ρ H [] [] vs ds) (q : (xDc Ti Tg Ut Tk Tv us).f ρ (fun d ρ' => ∀ v N' H', Rl K C N' σ ρ' H' [v] [d] vs ds → Q v H')) : tDc wi g tt tk tv us σ H Q := by
  have hp : ∀ i ∈ us, ∀ p ∈ C.prot, p.1 ≠ i := fun i hi => notProt hC (hu i hi)
  refine hi R (Ti.mono (fun zs ρ1 h J N1 H1 pv pd R1 itd => ?_) q)
  obtain ⟨I, h0, h1, h2⟩ := h
  intro L nL
  obtain ⟨hv, ha, hl, R2⟩ := R1.hold us
  have R3 := ((R2.allocK (k := .dic []) (zs := []) (fs := []) nL rfl).park).wipe (us := us) hp
  refine ⟨fun i m H => m = zs.length - i ∧ i ≤ zs.length ∧ ∃ N ks xs ρ, Rl K C N (L2.wipe σ us) ρ H [] [] (.ref L :: hv ++ pv :: vs) (.ob (.dic ks) xs :: (heldD ρ1 us).map (·.2) ++ pd :: ds) ∧ (∀ i ∈ us, ρ.set i none = ρ) ∧ ks.length = xs.length ∧ I i ks xs ρ,
    ⟨_, rfl, Nat.zero_le _, _, [], [], _, R3, fun i hi => wipeD_set i hi, rfl, h0⟩, ?_⟩
  rintro i m H2 ⟨rfl, hi', N2, ks, xs, ρ2, R2, hn, hkl, j2⟩
  have it := itd (us := .ref L :: hv) (fs := .ob (.dic ks) xs :: (heldD ρ1 us).map (·.2)) (congrArg (· + 1) hl) R2
  by_cases hlt : i < zs.length
  · obtain ⟨go, yl⟩ := it.1 i zs[i] (List.getElem?_eq_getElem hlt)
    refine .inr ⟨go, fun H' => ∃ N ks xs ρ, Rl K C N (L2.wipe σ us) ρ H' [] [] (.ref L :: hv ++ pv :: vs) (.ob (.dic ks) xs :: (heldD ρ1 us).map (·.2) ++ pd :: ds) ∧ (∀ i ∈ us, ρ.set i none = ρ) ∧ ks.length = xs.length ∧ I (i + 1) ks xs ρ,
      fun H' z => ⟨zs.length - (i + 1), by omega, rfl, hlt, z⟩, fun x H' hy => ?_⟩
    obtain ⟨N3, R3⟩ := yl x H' hy
    refine gw _ _ _ _ _ (fun σ2 H2 e2 z => ⟨by rw [e2, wipe_wipe], z.2 (by rw [e2, wipe_wipe])⟩) (hg (Q := fun σ2 H2 => True ∧ (L2.wipe σ2 us = L2.wipe σ us → tt σ2 H2 _)) R3 (Tg.mono (fun ρ4 h N4 σ4 H4 R4 => ⟨True.intro, fun e4 => ?_⟩) (h1 i zs[i] ks xs ρ2 (List.getElem?_eq_getElem hlt) hkl j2)))
    refine ht R4 (Ut.mono (fun b ρ5 h N5 H5 R5 => ?_) h)
    cases b with
    | false =>
      refine iteF ⟨N5, ks, xs, wipeD ρ5 us, ?_, fun i hi => wipeD_set i hi, hkl, h.2 rfl⟩
      have := R5.wipe (us := us) hp
      rw [e4] at this
      exact this
    | true =>
      refine iteT (hk R5 (Tk.mono (fun y ρ6 h yv N6 H6 R6 => ?_) (h.1 rfl)))
      obtain ⟨Ay, ry⟩ := R6.top1
      refine he R6.drop (Tv.mono (fun d ρ7 h dv N7 H7 R7 => ?_) h)
      obtain ⟨key, hk1, hk2, hk3, hj⟩ := h
      have R8 := R7.cons
      obtain ⟨us', hD, hlu, _, wr⟩ := R8.writeK dic_nt.1 dic_nt.2
      have hku : ks.length = us'.length := by rw [hlu]; exact hkl
      refine ⟨ks.zip us', key, D.key_ok ry hk1, hD, by rw [List.length_zip]; omega, N7, ks ++ [key], xs ++ [d], wipeD ρ7 us, ?_, fun i hi => wipeD_set i hi, by rw [List.length_append, List.length_append, hkl]; rfl, hj⟩
      have e5 : putK (ks.zip us') key dv = (ks ++ [key]).zip (us' ++ [dv]) := by
        rw [putK_zip hku]
        unfold putKs putX
        rw [hk2, if_neg Bool.false_ne_true, if_neg Bool.false_ne_true]
      rw [e5]
      have R9 := wr (k2 := .dic (ks ++ [key])) (gs := xs ++ [d]) (zs := us' ++ [dv]) fun B1 B2 g1 g2 dj => ⟨_, g1.append g2 dj, fun _ z => z⟩
      have := R9.park.wipe (us := us) hp
      rw [e4] at this
      exact this
  · have ei : i = zs.length := by omega
    subst ei
    refine .inl ⟨it.2 _ rfl, h2 _ _ _ hkl j2 _ N2 _ ?_⟩
    have R4 := (R2.unwipe hp hn).cons
    exact (Rl.backs ha R4).under
variable {kF eF : Shared → Hp → Addr → List (Str × Addr) → List Addr → TE} {tF : Shared → Hp → Addr → List (Str × Addr) → List Addr → TT} {gF : Shared → Hp → Addr → List (Str × Addr) → List Addr → TG}
theorem vf_dc {scope : Scope} {own : List (Str × Nat)} {us ios : List Nat} (hc : X.calm = true) (hN : X.N.Nodup) (ok : BlkOk X.N X.env.scope scope own) (hC : ∀ p ∈ C.prot, p.1 ∈ ios) (hu : ∀ i ∈ us, i ∉ ios) (hi : VI X C tg iter wi Ti) (gw : ∀ (s : Shared) (H : Hp) (C' : Addr) (cl : List (Str × Addr)) (fp : List Addr), GW us (gF s H C' cl fp))
    (hg : ∀ (s : Shared) (H : Hp) (C' : Addr) (cl : List (Str × Addr)) (fp : List Addr), VG (X.blk s H scope (compEnvC scope cl C' X.env) fp) C tg (gF s H C' cl fp) Tg) (ht : ∀ (s : Shared) (H : Hp) (C' : Addr) (cl : List (Str × Addr)) (fp : List Addr), VTs (X.blk s H scope (compEnvC scope cl C' X.env) fp) C ifs (tF s H C' cl fp) Ut)
    (hk : ∀ (s : Shared) (H : Hp) (C' : Addr) (cl : List (Str × Addr)) (fp : List Addr), VE (X.blk s H scope (compEnvC scope cl C' X.env) fp) C kx (kF s H C' cl fp) Tk)
    (he : ∀ (s : Shared) (H : Hp) (C' : Addr) (cl : List (Str × Addr)) (fp : List Addr), VE (X.blk s H scope (compEnvC scope cl C' X.env) fp) C vx (eF s H C' cl fp) Tv) (hus : own.map (·.2) = us) (hs : ∀ x, foldedSetIterable iter X.env x = pure x) :
    VE X C (.DictComp kx vx [⟨tg, iter, ifs, 0⟩] scope pos) (tDc wi (allG gF) (allT tF) (allE kF) (allE eF) us) (xDc Ti Tg Ut Tk Tv us) := by
  subst hus
  exact ⟨pe_dc hc hN hi.pi ok (fun s H C' cl fp => pg_imp (hg s H C' cl fp).pg fun v σ H2 Q z => z s H C' cl fp) (fun s H C' cl fp => pts_imp (ht s H C' cl fp).pt fun σ H2 Q z => z s H C' cl fp) (fun s H C' cl fp => pe_imp (hk s H C' cl fp).pe fun σ H2 Q z => z s H C' cl fp) (fun s H C' cl fp => pe_imp (he s H C' cl fp).pe fun σ H2 Q z => z s H C' cl fp) hs, fun R q =>
    se_dc hC hu (fun R => hi.si R) (fun R q s H C' cl fp => (hg s H C' cl fp).sg R q) (gw_all gw) (fun R q s H C' cl fp => (ht s H C' cl fp).st R q) (fun R q s H C' cl fp => (hk s H C' cl fp).se R q) (fun R q s H C' cl fp => (he s H C' cl fp).se R q) R q⟩
end
end BV

/-! BV, part U: set(a list of ints); sorted. -/
namespace BV
open PySem PySem.Spec PyProof.Rows L2
section
variable {P : Program} {w : World} {A : Around} {E : Value → Shared → Prop} {s : Shared}
abbrev setO0 (w : World) : Obj := { cls := .type "set", dict := none, data := .set #[] 0 (.fresh 0 0 (!w.params.followText "set-order")) }
set_option maxHeartbeats 3200000 in
/-- set(l), l a list of ints: a set that may be walked -/
theorem set_of_ints {l : Addr} {its : Array Value} (ns : List Int) {Q : Value → Shared → Prop} (nh : A.handled = none) (hl : s.heap.IsList l its) (hi : IntsAre its.toList ns) (hb : ns.length + 1 < scanBound)
    (q : ∀ (h' : Heap) (tk c : Nat), SetR w h' s.heap.objs.size (fun j => decide (j ∈ ns)) c → c ≤ ns.length → (∀ b o, s.heap.get? b = some o → h'.get? b = some o) → Q (.ref s.heap.objs.size) { s with heap := h', toks := tk }) :
    wpAny (model P w) A (call (.type "set") [.ref l]) Q E s := by
  have hz : its.size = ns.length := by
    have e := IntsAre.length hi
    rwa [Array.length_toList] at e
  obtain ⟨c, tl, hmro⟩ := F.called_set.mro
  have hmade := F.called_set.made
  have hsub := F.called_set.sub
  refine wpAny_call (codeAny_of_tree ?_)
  show wpAny _ _ (callAny (.type "set") _) _ _ _
  refine wpAny_pure ⟨Code.quiet_builtin _ (by decide +kernel), codeAny_builtin F.entry_type_call ?_⟩
  rw [Around.under_plain (weight_type_call_type "set" [.ref l] []) rfl]
  have h1 := F.called_set.notType
  have h2 := F.called_set.canCreate
  have hct := F.typeCall_set_1 (.ref l)
  repeat (any_goals (first | assumption | wp_step))
  refine codeAny_mono (code_set_led1 (.ref l) (E := E) (Q₁ := fun obj s₁ => obj = .ref s.heap.objs.size ∧ s₁ = { s with heap := s.heap.push (setO0 w) }) ⟨rfl, rfl⟩) fun r s₁ hr => ?_
  cases r with
  | error e => exact hr
  | ok fl =>
    cases fl with
    | ret obj =>
      obtain ⟨rfl, rfl⟩ := hr
      have gS : (s.heap.push (setO0 w)).get? s.heap.objs.size = some (setO0 w) := Heap.get?_push_size _ rfl
      have hT : Shared.TypeIs { s with heap := s.heap.push (setO0 w) } (.ref s.heap.objs.size) "set" := ⟨_, gS, rfl⟩
      have hli := F.called_set.init.lookup
      have hbi := F.called_set.init.bind (.ref s.heap.objs.size)
      repeat (any_goals (first | assumption | wp_step))
      refine codeAny_mono (codeAny_call_builtin (R := wants (fun r s₂ => r = .none ∧ ∃ h' tk c, s₂ = { s with heap := h', toks := tk } ∧ SetR w h' s.heap.objs.size (fun j => decide (j ∈ ns)) c ∧ c ≤ ns.length ∧
          (∀ b o, s.heap.get? b = some o → h'.get? b = some o)) E) F.called_set.init.plain F.entry_set_init (check_set_init_1 hT ?_)) fun r₂ s₂ hr₂ => ?_
      · obtain ⟨⟨ocls, odict, odata, oslots⟩, hol, hcl, nl, hdl⟩ := hl
        simp only at hcl hdl
        subst hcl; subst hdl
        have hol' : (s.heap.push (setO0 w)).get? l = some { cls := .type "list", dict := odict, data := .seq its nl, slots := oslots } := Heap.get?_push_of_some _ hol
        have hsls := F.sub_list_set
        have hslf := F.sub_list_frozenset
        have hne : (Value.type "list" == Value.type "dict") = false := by decide
        have hl1 : (s.heap.push (setO0 w)).IsList l its := ⟨_, hol', rfl, nl, rfl⟩
        have zS : (s.heap.push (setO0 w)).objs.size = s.heap.objs.size + 1 := Heap.size_push ..
        have hlS : l < s.heap.objs.size := Heap.lt_size hol
        unfold Builtin.«set.__init__» noKeywords Builtin.Frozenset.updateFrom
        generalize hPI : pyIter = PI
        wp_walk
        subst hPI
        refine wpAny_pyIter_list hl1 ?_
        refine wpAny_bind (wpAny_runValue ?_)
        have hh3 : A.in1.in1.in1.handled = none := by simp [nh]
        have hneI : l ≠ (s.heap.push (setO0 w)).objs.size := by rw [zS]; exact Nat.ne_of_lt (Nat.lt_succ_of_lt hlS)
        have hSf : s.heap.objs.size ∉ [(s.heap.push (setO0 w)).objs.size, l] := by
          rw [zS]
          simp only [List.mem_cons, List.not_mem_nil, or_false, not_or]
          exact ⟨Nat.ne_of_lt (Nat.lt_succ_self _), Nat.ne_of_gt hlS⟩
        refine set_update_ints ((Walks.list hh3 _ l hneI its).toS) s.heap.objs.size hSf ns hz hb (fun i v hv => ?_) (its.size - 0) 0 _ (by omega) (Nat.zero_le _)
          ⟨⟨_, Heap.get?_push_size _ rfl, rfl, rfl⟩, (hl1.push _)⟩ ⟨0, Nat.le_refl 0, setR_new_at (Heap.get?_push_of_some _ gS)⟩ ?hR
        · have hi' : i < ns.length := by rw [← hz]; exact (Array.getElem?_eq_some_iff.mp hv).1
          obtain ⟨t, e⟩ := PyProof.Rows.IntsAre.int_at hi i v (by rw [Array.getElem?_toList]; exact hv)
          refine ⟨ns[i], t, List.getElem?_eq_getElem hi', ?_⟩
          rw [e, List.getD_eq_getElem?_getD, List.getElem?_eq_getElem hi'] <;> rfl
        case hR =>
          intro s' c' hm hc' hS'
          obtain ⟨h', g2, d', tk', os'⟩ := s'
          obtain rfl : g2 = s.gens := hm.gens
          obtain rfl : d' = s.drawn := hm.drawn
          obtain rfl : os' = s.os := hm.os
          refine wpAny_pure ?_
          show wpAny _ _ (ret Value.none) _ _ _
          refine wpAny_pure ⟨rfl, h', tk', c', rfl, hS', by omega, fun b o e => ?_⟩
          have hb0 : b < s.heap.objs.size := Heap.lt_size e
          refine hm.heap b o ?_ (Heap.get?_push_of_some _ (Heap.get?_push_of_some _ e))
          rw [zS]
          simp only [List.mem_cons, List.not_mem_nil, or_false, not_or]
          exact ⟨Nat.ne_of_lt hb0, Nat.ne_of_lt (Nat.lt_succ_of_lt hb0)⟩
      · cases r₂ with
        | error e => exact hr₂
        | ok fl₂ =>
          cases fl₂ with
          | ret r =>
            obtain ⟨rfl, h', tk, c', rfl, hS', hc', hk'⟩ := hr₂
            repeat (any_goals (first | assumption | wp_step))
            exact q _ _ _ hS' hc' hk'
          | _ => exact hr₂.elim
    | _ => exact hr.elim
end
section
variable {X : Cx}
def rSetZ (w : World) (K : Fg) : List V → Hp → VK → Prop := fun vs H Q => ∃ (a : Addr) (ns : List Int), vs = [V.ref a] ∧ SqL K H a (ns.map V.int) ∧ ns.length + 1 < scanBound ∧ ∀ p c, c ≤ ns.length → H p = none → Q (.ref p) (upd H p (SetO w p (fun j => decide (j ∈ ns)) c))
theorem cr_setZ (hc : X.calm = true) : CallR X (.type "set") (rSetZ X.w X.K) := by
  intro pins s σ H vs us Q I r h
  obtain ⟨a, ns, rfl, hq, hb, q⟩ := h
  obtain ⟨its, rv, pl, hz⟩ := I.list hq
  rw [Vals.ref1 r]
  refine set_of_ints ns (I.ok.hd hc) pl.isList (by simpa using ints_of_vals rv) hb fun h' tk c hS hcn hk => ?_
  exact ⟨.ref _, upd H s.heap.objs.size (SetO X.w s.heap.objs.size _ c), I.laid (t' := tk) hk (Nat.le_refl _) (setO_new hS), rfl, q _ c hcn (I.hok.fresh (Nat.le_refl _))⟩
end
/-! ### sorted(d.items()) -/
/-- the two ints of a pair -/
def pairAt (h : Heap) : Value → Int × Int
  | .ref a => match h.get? a with
    | some o => match o.data with
      | .seq its _ => match its.toList with
        | [.int x _, .int y _] => (x, y)
        | _ => (0, 0)
      | _ => (0, 0)
    | none => (0, 0)
  | _ => (0, 0)
section
variable {prog : Program} {w : World} {A : Around} {E : Value → Shared → Prop} {s : Shared} {κ : Type} [DecidableEq κ] {knd : KeyKind prog w κ}
theorem sorted_items {r d : Addr} {kvs : List (κ × Value)} {ep : Nat} {Q : Value → Shared → Prop} (hh : A.handled = none) (hv : s.heap.IsItemsView r d) (hm : s.heap.DictAt knd d kvs ep) (hn : kvs.length ≤ sizeLine)
    (hp : ∀ (j : Nat) (p : κ × Value), kvs[j]? = some p → (∀ key, knd.is p.1 key = true → ∃ i t, key = .int i t) ∧ ∃ i t, p.2 = .int i t)
    (q : ∀ (h' h2 : Heap) (tk : Nat) (as : List Addr) (out : List Value) (D : Addr), (∀ b o, s.heap.get? b = some o → h'.get? b = some o) → as.length = kvs.length → PySem.W.KdxG knd kvs s.heap.objs.size h' as →
      SrtO.Srtd (fun v u => SrtO.lexB (pairAt h' v) (pairAt h' u)) out → SrtO.Stb (fun v u => SrtO.lexB (pairAt h' v) (pairAt h' u)) out (as.map Value.ref) → (∀ b o, h'.get? b = some o → h2.get? b = some o) → (∀ b ∈ as, b ≠ D) → s.heap.objs.size ≤ D → h'.objs.size ≤ D → (∃ n, h2.get? D = some (seqObj "list" out.toArray n)) → Q (.ref D) { s with heap := h2, toks := tk }) :
    wpAny (model prog w) A (call (.builtin "sorted") [.ref r]) Q E s := by
  refine Calls.call_function_entry kind_sorted plain_sorted entry_sorted (args_sorted1 _) ?_
  unfold Builtin.«sorted»
  refine wpAny_bind (m := checkCount "sorted" 1 1 _) (wpAny_pure ?_)
  obtain ⟨o, es, ho, hx, hdt, hks, hps, hnd⟩ := id hm
  have hes : es.size = kvs.length := by
    have e := hps.length
    rwa [Array.length_toList] at e
  refine wpAny_bind (DT.collectI (A := A.in1) (es := es) (ep := ep) hh hv ⟨o, ho, hx, hdt⟩ (by omega) fun h' tk as hk hlt hl0 hM => ?_)
  have hl : as.length = kvs.length := by omega
  have hG : PySem.W.KdxG knd kvs s.heap.objs.size h' as := ⟨hM.rise, hM.above, fun j a hj => by
    obtain ⟨en, h1, h2⟩ := hM.pairs j a hj
    have hjk : j < kvs.length := by rw [← hl]; exact (List.getElem?_eq_some_iff.mp hj).1
    have h3 : kvs[j]? = some (kvs[j].1, kvs[j].2) := List.getElem?_eq_getElem hjk
    obtain ⟨g1, g2⟩ := hps.get? (i := j) (e := en) (by rw [Array.getElem?_toList]; exact h1) h3
    exact ⟨en.key, _, _, h3, g1, by rw [← g2]; exact h2⟩⟩
  have hz : (as.map Value.ref).length ≤ sizeLine := by rw [List.length_map, hl]; exact hn
  have hpair : ∀ v ∈ as.map Value.ref, Srt.IsPair h' v (pairAt h' v).1 (pairAt h' v).2 := fun v hv => by
    obtain ⟨a, ha, rfl⟩ := List.mem_map.mp hv
    obtain ⟨j, hj⟩ := List.mem_iff_getElem?.mp ha
    obtain ⟨key, k, x, h1, h2, h3⟩ := hG.pairs j a hj
    obtain ⟨p1, i, t, p2⟩ := hp j _ h1
    obtain ⟨i', t', p3⟩ := p1 key h2
    have p2 : x = .int i t := p2
    subst p2 p3
    refine ⟨a, _, t', t, 0, rfl, h3, rfl, ?_⟩
    have e : pairAt h' (.ref a) = (i', i) := by
      simp only [pairAt, h3]
    rw [e]
  generalize hvs : as.map Value.ref = vs at hz hpair
  refine wpAny_bind (wpAny_newList ?_ hz)
  have hoL : (h'.push (seqObj "list" vs.toArray 0)).get? h'.objs.size = some (seqObj "list" vs.toArray 0) := Heap.get?_push_size _ rfl
  have kp : ∀ b o, h'.get? b = some o → b ≠ h'.objs.size ∧ (h'.push (seqObj "list" vs.toArray 0)).get? b = some o := fun b o e => ⟨Nat.ne_of_lt (Heap.lt_size e), Heap.get?_push_of_some _ e⟩
  show wpAny _ _ _ _ _ { s with heap := h'.push (seqObj "list" vs.toArray 0), toks := tk }
  refine wpAny_bind (wpAny_holding (wpAny_call_entry slot_list_sort ⟨_, hoL, rfl⟩ entry_list_sort (SrtO.list_sort_ord (SrtO.swo_lex (pairAt h')) hoL hz (fun h2 => ?_) fun out hs hb => ⟨_, rfl, ?_⟩) (args_list_sort _)))
  · refine SrtO.pairs_sortableO (s := { s with heap := h'.push (seqObj "list" vs.toArray 0), toks := tk }) (by omega) (fun v hm => (hpair v hm).keeps fun b o e _ => (kp b o e).2) fun o e c => ?_
    have e' : some o = some (seqObj "list" vs.toArray 0) := e.symm.trans hoL
    cases e'
    exact absurd (Value.type.inj c) (by decide)
  · refine wpAny_pure ⟨_, rfl, ?_⟩
    obtain ⟨n, hn2⟩ := sortedHeap_at (vs := vs) (out := out.toArray) hoL
    subst hvs
    exact q h' _ tk as out h'.objs.size hk hl hG hs hb (fun b o e => (sortedHeap_old (kp b o e).1 (Heap.lt_size (kp b o e).2)).trans (kp b o e).2) (fun b hb => Nat.ne_of_lt (hG.there hb)) (Nat.le_of_lt hlt) (Nat.le_refl _) ⟨n, hn2⟩
end
/-- the pairs' own data -/
def rSI : List V → Hp → VK → Prop := fun vs H Q => ∃ (r d : Addr) (ks ns : List Int), vs = [.ref r] ∧ H r = some (L2.DX.itemsO r d) ∧ Rd H d (.dK ((ks.map Sum.inl).zip (ns.map V.int))) ∧ ks.length = ns.length ∧
      ∀ (H' : Hp) (p : Addr) (zs : List (Addr × Int × Int)), (∀ b o, H b = some o → H' b = some o) → H p = none → (∀ z ∈ zs, z.1 ≠ p ∧ H' z.1 = some (.tup [.int z.2.1, .int z.2.2])) → (zs.map (·.2)).Perm (ks.zip ns) → (zs.map (·.2)).Pairwise (fun a b => a.1 ≤ b.1) → H' p = some (.lst (zs.map fun z => V.ref z.1)) → Q (.ref p) H'
def tItm (te : TE) : TE := fun σ H Q => te σ H fun x H1 => ∃ d kvs, x = .ref d ∧ Rd H1 d (.dK kvs) ∧ ∀ r, H1 r = none → Q (.ref r) (upd H1 r (L2.DX.itemsO r d))
section
variable {X : Cx} {e : Expr} {te : TE} {p apos cpos pos : Pos}
theorem zip_get {ks ns : List Int} {j : Nat} {a : Key × V} (h : ((ks.map Sum.inl).zip (ns.map V.int))[j]? = some a) : ∃ k n, (ks.zip ns)[j]? = some (k, n) ∧ a = (.inl k, .int n) := by
  obtain ⟨h1, h2⟩ := List.getElem?_zip_eq_some.mp h
  rw [List.getElem?_map] at h1 h2
  cases e1 : ks[j]? with
  | none => rw [e1] at h1; cases h1
  | some k =>
    cases e2 : ns[j]? with
    | none => rw [e2] at h2; cases h2
    | some n =>
      rw [e1] at h1
      rw [e2] at h2
      refine ⟨k, n, List.getElem?_zip_eq_some.mpr ⟨e1, e2⟩, ?_⟩
      obtain ⟨a1, a2⟩ := a
      cases h1
      cases h2
      rfl
theorem paired_r {α β : Type} {F : α → β → Prop} : ∀ {xs : List α} {ys : List β}, Paired F xs ys → ∀ {i : Nat} {y : β}, ys[i]? = some y → ∃ x, xs[i]? = some x ∧ F x y
  | _, _, .nil, i, x, h => by cases h
  | _, _, .cons r t, 0, x, h => by
    cases h
    exact ⟨_, rfl, r⟩
  | _, _, .cons r t, i + 1, x, h => paired_r t h
theorem pe_itm (he : PE X e te) (hbase : attributeBase e "items" X.env (eval e X.env) = eval e X.env := by rfl) (hline : (apos.endLine == cpos.line) = true := by rfl) : PE X (.Call (.Attribute e "items" apos) [] [] cpos) (tItm te) := by
  refine ⟨fun pins s σ H Q I hq => ?_⟩
  refine wpAny_Call_method (T := "dict") (id := "dict.items") hbase rfl hline F.plainAttrs_dict F.slot_dict_items F.type_dict_items (thn (he.run pins s σ H _ I hq) fun u s1 ⟨x, H1, I1, rx, d, kvs, ex, hd, q⟩ => ?_)
  subst ex
  obtain rfl : u = Value.ref d := rx
  obtain ⟨hz, hs0, vs, kv, hdo⟩ := dk_rd I1.hok hd
  refine ⟨hdo.typeIs, hdo.mapOf.noDict, ?_⟩
  show wpAny _ _ (callWith cpos (.builtin "dict.items") [.ref d] [] []) _ X.xe s1
  refine method_meetsIn F.slot_dict_items F.entry_dict_items rfl (PySem.evalArgs_none ⟨rfl, hdo.typeIs, F.args_dict_items_1 _, _, meets_dict_items (mixKind X.prog X.w) d hs0, ⟨vs, hdo⟩, ?_⟩)
  exact ⟨.ref s1.heap.objs.size, _, I1.laid (t' := s1.toks) (fun b u e => Heap.get?_push_of_some _ e) (Nat.le_refl _) (L2.DX.itemsO_ok (Heap.get?_push_size _ rfl)), rfl, q _ (I1.hok.fresh (Nat.le_refl _))⟩
theorem cr_SI (hc : X.calm = true) : CallR X (.builtin "sorted") rSI := by
  intro pins s σ H xs us Q I rr h
  obtain ⟨r, d, ks, ns, rfl, hr, hd, hl, q⟩ := h
  obtain rfl := Vals.ref1 rr
  have view : s.heap.IsItemsView r d := (show ObjOk X.prog X.w H s.heap r (L2.DX.itemsO r d) from I.hok r _ hr).1
  obtain ⟨hz, hs0, vs, kv, hdo⟩ := dk_rd I.hok hd
  obtain ⟨ep, hat⟩ := hdo.dictAt
  have lk : ((ks.map Sum.inl).zip (ns.map V.int)).length = vs.length := Paired.length kv
  have lz : ((ks.map (Sum.inl : Int → Key)).zip (ns.map V.int)).length = ks.length := by
    rw [List.length_zip, List.length_map, List.length_map]; omega
  have lzk : (ks.zip ns).length = ks.length := by rw [List.length_zip]; omega
  have at_ : ∀ (j : Nat) (pq : Key × Value), vs[j]? = some pq → ∃ k n, (ks.zip ns)[j]? = some (k, n) ∧ pq.1 = .inl k ∧ ∃ t, pq.2 = .int n t := fun j pq hj => by
    obtain ⟨a, h1, h2⟩ := paired_r kv hj
    obtain ⟨k, n, h3, rfl⟩ := zip_get h1
    obtain ⟨h4, t, h5⟩ := h2
    exact ⟨k, n, h3, h4.symm, t, h5⟩
  refine sorted_items (knd := mixKind X.prog X.w) (I.ok.hd hc) view hat (by omega) (fun j pq hj => ?_) fun h' h2 tk as out D hk hla hG hs hb k2 hne hD0 hD hn => ?_
  · obtain ⟨k, n, h3, h4, t, h5⟩ := at_ j pq hj
    refine ⟨fun key hkey => ?_, n, t, h5⟩
    rw [h4] at hkey
    obtain ⟨t', e⟩ : ∃ t', key = .int k t' := relV_key (k := .inl k) (show keyIs (.inl k) key = true from hkey)
    exact ⟨k, t', e⟩
  · -- the pairs' places
    have pr : ∀ (j : Nat) (a : Addr), as[j]? = some a → ∃ k n t t', (ks.zip ns)[j]? = some (k, n) ∧ h'.get? a = some { cls := .type "tuple", data := .seq #[.int k t, .int n t'] } := fun j a hj => by
      obtain ⟨key, k0, x, h1, h2, h3⟩ := hG.pairs j a hj
      obtain ⟨k, n, g3, g4, t, g5⟩ := at_ j _ h1
      have g4 : k0 = .inl k := g4
      have g5 : x = .int n t := g5
      subst g4 g5
      obtain ⟨t', e⟩ : ∃ t', key = .int k t' := relV_key (k := .inl k) (show keyIs (.inl k) key = true from h2)
      subst e
      exact ⟨k, n, t', t, g3, h3⟩
    have nd : as.Nodup := List.Pairwise.imp (fun {a b} (h : a < b) => Nat.ne_of_lt h) hG.rise
    have hks : ∀ b o, s.heap.get? b = some o → h2.get? b = some o := fun b o e => k2 b o (hk b o e)
    have nD : H D = none := (I.hok.kept hk).fresh hD
    -- the data of each place
    let zs0 : List (Addr × Int × Int) := as.zip (ks.zip ns)
    have hz1 : zs0.map (fun z => Value.ref z.1) = as.map Value.ref := by
      have : zs0.map (·.1) = as := List.map_fst_zip (by omega)
      have e := congrArg (List.map Value.ref) this
      rw [List.map_map] at e
      exact e
    have pa : ∀ z ∈ zs0, pairAt h' (.ref z.1) = z.2 ∧ z.1 ∈ as ∧ ∃ t t', h'.get? z.1 = some { cls := .type "tuple", data := .seq #[.int z.2.1 t, .int z.2.2 t'] } := fun z hz => by
      obtain ⟨j, hj⟩ := List.mem_iff_getElem?.mp hz
      obtain ⟨j1, j2⟩ := List.getElem?_zip_eq_some.mp hj
      obtain ⟨k, n, t, t', h3, h4⟩ := pr j z.1 j1
      rw [j2] at h3
      have e : z.2 = (k, n) := Option.some.inj h3
      refine ⟨?_, List.mem_of_getElem? j1, t, t', ?_⟩
      · simp only [pairAt, h4]
        exact e.symm
      · rw [e]; exact h4
    obtain ⟨zs, pz, ez⟩ := perm_lift (fun z : Addr × Int × Int => Value.ref z.1) hb.perm zs0 hz1
    have hmem : ∀ z ∈ zs, z ∈ zs0 := fun z hz => pz.mem_iff.mp hz
    -- the new heap
    have I0 : Inv X pins σ H { s with heap := h2, toks := tk } := I.kept (t' := tk) hks
    obtain ⟨n, hn⟩ := hn
    have hvals : Vals (zs.map fun z => V.ref z.1) out := by
      rw [← ez]
      exact vals_maps (fun z : Addr × Int × Int => V.ref z.1) (fun z => Value.ref z.1) zs fun _ _ => rfl
    have hlen : (zs.map fun z => V.ref z.1).length ≤ sizeLine := by
      have e1 := pz.length_eq
      have e2 : zs0.length = as.length := by
        show (as.zip (ks.zip ns)).length = _
        rw [List.length_zip]; omega
      rw [List.length_map]; omega
    have fpD : FpOk X pins H D := I.fpOk hD0 nD
    have I2 : Inv X pins σ (upd H D (.lst (zs.map fun z => V.ref z.1))) { s with heap := h2, toks := tk } :=
      I0.take (h' := h2) (t' := tk) (fun b ob _ e => e) fpD ⟨hlen, out, n, hvals, hn⟩
    obtain ⟨H2, I3, g, qt⟩ := L2.DX.takeT (P := fun b vs => ∃ k n, (b, k, n) ∈ zs0 ∧ vs = [.int k, .int n]) I as _ I2 nd fun b hb => by
      obtain ⟨j, hj⟩ := List.mem_iff_getElem?.mp hb
      obtain ⟨k, m, t, t', h3, h4⟩ := pr j b hj
      have hbl : s.heap.objs.size ≤ b := Nat.le_of_lt (hG.above b hb)
      refine ⟨hbl, ?_, [.int k, .int m], ⟨k, m, List.mem_of_getElem? (List.getElem?_zip_eq_some.mpr ⟨hj, h3⟩), rfl⟩, fun H3 => ⟨by show 2 ≤ sizeLine; decide, [Value.int k t, Value.int m t'], .cons ⟨_, rfl⟩ (.cons ⟨_, rfl⟩ .nil), ⟨_, k2 _ _ h4, rfl, 0, rfl⟩⟩⟩
      rw [upd_ne (hne b hb)]
      exact I.hok.fresh hbl
    have gr : ∀ b o, H b = some o → H2 b = some o := fun b o e => g b o (by rw [upd_ne (ne_of_none e nD)]; exact e)
    refine ⟨.ref D, H2, I3, rfl, q H2 D zs gr nD (fun z hz => ?_) ?_ ?_ (g _ _ upd_same)⟩
    · obtain ⟨_, h1, _⟩ := pa z (hmem z hz)
      obtain ⟨vs', ⟨k, m, h3, rfl⟩, h4⟩ := qt z.1 h1
      refine ⟨hne _ h1, ?_⟩
      have e1 := (pa _ h3).1
      have e2 := (pa z (hmem z hz)).1
      rw [e1] at e2
      have e2 : (k, m) = z.2 := e2
      rw [← e2]
      exact h4
    · have e := pz.map (·.2)
      have m2 : zs0.map (·.2) = ks.zip ns := List.map_snd_zip (by omega)
      rw [m2] at e
      exact e
    · have hs' : out.Pairwise (fun v u => SrtO.lexB (pairAt h' u) (pairAt h' v) = false) := hs
      rw [← ez, List.pairwise_map] at hs'
      rw [List.pairwise_map]
      refine List.Pairwise.imp_of_mem (fun {x y} hx hy h => ?_) hs'
      have h := SrtO.lexB_no.mp h
      rw [(pa x (hmem x hx)).1, (pa y (hmem y hy)).1] at h
      omega
end
theorem ints_rps {K : Fg} {N : AS} {H : Hp} : ∀ {ns : List Int} {us : List V} {A : AS}, Rps K N H (ns.map D.int) us A → us = ns.map V.int
  | [], us, A, h => h
  | n :: ns, us, A, h => by
    obtain ⟨v, vr, A1, A2, rfl, h1, h2, _⟩ := h
    cases (show v = .int n from h1)
    rw [ints_rps h2]
    rfl
theorem rps_ints {K : Fg} {N : AS} {H : Hp} : ∀ (ns : List Int), Rps K N H (ns.map D.int) (ns.map V.int) AS0
  | [] => rfl
  | n :: ns => .cons0 rfl (rps_ints ns)
section
variable {X : Cx} {C : Ct} {e : Expr} {te : TE} {Te : XE} {p p2 apos cpos pos : Pos}
def xSrtItems (T : XE) : XE := ⟨fun ρ Q => T.f ρ fun d ρ1 => ∃ ks ns : List Int, d = .fz (.dic (ks.map Sum.inl)) (ns.map D.int) ∧ ks.length = ns.length ∧ ∀ ps : List (Int × Int), ps.Perm (ks.zip ns) → ps.Pairwise (fun a b => a.1 ≤ b.1) → Q (.own (ps.map fun p => .tup [.int p.1, .int p.2])) ρ1,
  fun m q => T.mono (fun _ _ ⟨ks, ns, h1, h2, h⟩ => ⟨ks, ns, h1, h2, fun ps p1 p2 => m _ _ (h ps p1 p2)⟩) q⟩
theorem rps_pairs {K : Fg} {N : AS} {H : Hp} : ∀ (zs : List (Addr × Int × Int)), (∀ z ∈ zs, H z.1 = some (.tup [.int z.2.1, .int z.2.2])) → Rps K N H ((zs.map (·.2)).map fun p => D.tup [.int p.1, .int p.2]) (zs.map fun z => V.ref z.1) AS0
  | [], _ => rfl
  | z :: zs, h => .cons0 ⟨z.1, [.int z.2.1, .int z.2.2], rfl, .inl (.inl (h z List.mem_cons_self)), .cons0 rfl (.cons0 rfl rfl)⟩ (rps_pairs zs fun y hy => h y (List.mem_cons_of_mem _ hy))
theorem ve_srtItems (hc : X.calm = true) (he : VE X C e te Te) (hg : Gl X "sorted") (hm : X.mg "sorted" = none) (hbase : attributeBase e "items" X.env (eval e X.env) = eval e X.env := by rfl) (hline : (apos.endLine == cpos.line) = true := by rfl)
    (hs : starEach [.Call (.Attribute e "items" apos) [] [] cpos] X.env = (false, eval (.Call (.Attribute e "items" apos) [] [] cpos) X.env) :: starEach [] X.env := by rfl) :
    VE X C (.Call (.Name "sorted" p) [.Call (.Attribute e "items" apos) [] [] cpos] [] pos) (tCB rSI (tCons (tItm te) tNil)) (xSrtItems Te) := by
  refine ⟨pe_callB (cr_SI hc) hg hm (by decide +kernel) (pa_cons (pe_itm he.pe hbase hline) pa_nil hs) (by decide) (by decide) hs rfl, fun R q => he.se R (Te.mono (fun d ρ1 h v N1 H1 R1 => ?_) q)⟩
  obtain ⟨ks, ns, rfl, hl, h⟩ := h
  obtain ⟨A, a, us, rfl, ha, na, r⟩ := R1.top1
  have eu := ints_rps r
  subst eu
  refine ⟨a, _, rfl, ha, fun x nx => ⟨x, a, ks, ns, rfl, upd_same, Rd.keep (fun o e => by rw [upd_ne (ne_of_none e nx)]; exact e) ha, hl, fun H' D zs k nD hz hp hs hD => ?_⟩⟩
  have R2 := R1.alloc (o := L2.DX.itemsO x a) nx
  exact h (zs.map (·.2)) hp hs _ _ _ (R2.growN k nD hD fun H2 h2 h3 => rps_pairs zs fun z hz' => by rw [h2 z.1 (hz z hz').1]; exact (hz z hz').2)
/-! ### sorted(d), sorted(set(l)) -/
def xSrtK (T : XE) : XE := ⟨fun ρ Q => T.f ρ fun d ρ1 => ∃ (ks : List Int) (xs : List D), d = .fz (.dic (ks.map Sum.inl)) xs ∧ ks.length = xs.length ∧ ks.length < 64 ∧ ∀ ys : List Int, ys.Perm ks → ys.Pairwise (· ≤ ·) → Q (.own (ys.map D.int)) ρ1,
  fun m q => T.mono (fun _ _ ⟨ks, xs, h1, h2, h3, h⟩ => ⟨ks, xs, h1, h2, h3, fun ps p1 p2 => m _ _ (h ps p1 p2)⟩) q⟩
def rSrtK : List V → Hp → VK → Prop := fun xs H Q => ∃ (a : Addr) (kvs : List (Key × V)) (ks : List Int), xs = [.ref a] ∧ Rd H a (.dK kvs) ∧ kvs.map (·.1) = ks.map Sum.inl ∧ ks.length < 64 ∧ ∀ (ys : List Int) (p : Addr), ys.Perm ks → ys.Pairwise (· ≤ ·) → H p = none → Q (.ref p) (upd H p (.lst (ys.map V.int)))
theorem cr_srtK (hc : X.calm = true) : CallR X (.builtin "sorted") rSrtK := call_sortedDI hc
theorem ve_srtK (hc : X.calm = true) (he : VE X C e te Te) (hg : Gl X "sorted") (hm : X.mg "sorted" = none) (hs : starEach [e] X.env = (false, eval e X.env) :: starEach [] X.env := by rfl) : VE X C (.Call (.Name "sorted" p) [e] [] pos) (tCB rSrtK (tCons te tNil)) (xSrtK Te) := by
  refine ⟨pe_callB (cr_srtK hc) hg hm (by decide +kernel) (pa_cons he.pe pa_nil hs) (by decide) (by decide) hs rfl, fun R q => he.se R (Te.mono (fun d ρ1 h v N1 H1 R1 => ?_) q)⟩
  obtain ⟨ks, xs, rfl, hl, h64, h⟩ := h
  obtain ⟨A, a, us, rfl, ha, na, r⟩ := R1.top1
  refine ⟨a, _, ks, rfl, ha, zip_fst (by rw [List.length_map, hl, r.length]), h64, fun ys p hp hs np => h ys hp hs _ _ _ (R1.allocN np (rps_ints ys))⟩
def xSrtS (T : XE) : XE := ⟨fun ρ Q => T.f ρ fun d ρ1 => ∃ (ks : List Int) (zs : List D), d = .own zs ∧ zs = ks.map D.int ∧ ks.length < 64 ∧ ∀ ys : List Int, (∀ k, k ∈ ys ↔ k ∈ ks) → ys.Pairwise (· < ·) → Q (.own (ys.map D.int)) ρ1,
  fun m q => T.mono (fun _ _ ⟨ks, xs, h1, h2, h3, h⟩ => ⟨ks, xs, h1, h2, h3, fun ps p1 p2 => m _ _ (h ps p1 p2)⟩) q⟩
theorem ve_srtS (hc : X.calm = true) (he : VE X C e te Te) (hg : Gl X "sorted") (hm : X.mg "sorted" = none) (hg2 : Gl X "set") (hm2 : X.mg "set" = none) (hs2 : starEach [e] X.env = (false, eval e X.env) :: starEach [] X.env := by rfl) (hs : starEach [.Call (.Name "set" p2) [e] [] cpos] X.env = (false, eval (.Call (.Name "set" p2) [e] [] cpos) X.env) :: starEach [] X.env := by rfl) :
    VE X C (.Call (.Name "sorted" p) [.Call (.Name "set" p2) [e] [] cpos] [] pos) (tCB (rSortedSet X.w) (tCons (tCB (rSetZ X.w X.K) (tCons te tNil)) tNil)) (xSrtS Te) := by
  refine ⟨pe_callB (cr_sortedSet hc) hg hm (by decide +kernel) (pa_cons (pe_callTy (cr_setZ hc) hg2 hm2 (by decide +kernel) (pa_cons he.pe pa_nil hs2) (by decide) (by decide) hs2 rfl) pa_nil hs) (by decide) (by decide) hs rfl, fun R q => he.se R (Te.mono (fun d ρ1 h v N1 H1 R1 => ?_) q)⟩
  obtain ⟨ks, zs, rfl, rfl, h64, h⟩ := h
  obtain ⟨A, a, us, B, rfl, ha, _, _, r⟩ := R1.top1
  have eu := ints_rps r
  subst eu
  refine ⟨a, ks, rfl, .inl (.inl ha), by unfold scanBound; omega, fun x c hc nx => ⟨x, _, c, rfl, upd_same, by omega, fun ys p h1 h2 h3 np => ?_⟩⟩
  exact h ys (fun k => (h2 k).trans (by simp)) h1 _ _ _ ((R1.alloc (o := SetO X.w x (fun j => decide (j ∈ ks)) c) nx).allocN np (rps_ints ys))
end
end BV

/-! BV, part V: to run readings of dicts. -/
namespace BV
open PySem PySem.Spec PyProof.Rows L2
theorem un1 {A : Around} {k : Nat} (hr : Room k A) : A.units + 1 < cLine := by have := hr.units; omega
section
variable {ρ ρ' : Ev} {n b c : Ev → Prop} {r : D → Ev → Prop} {G : DE} {S T : XS} {U A B : XT} {Ta Tb Tc : XE} {R Ra Rb : XA} {Q : D → Ev → Prop} {QA : List D → Ev → Prop} {QT : Bool → Ev → Prop} {QN : Ev → Prop} {i j : Nat} {d e : D}
theorem i_dict0 (q : Q (.ob (.dic []) []) ρ) : xDict0.f ρ Q := q
theorem i_dict1 (q : Ta.f ρ fun y ρ1 => Tb.f ρ1 fun z ρ2 => ∃ k, y.key = some k ∧ Q (.ob (.dic [k]) [z]) ρ2) : (xDict1 Ta Tb).f ρ Q := q
theorem i_swp (q : R.f ρ fun fs ρ' => ∃ a b, fs = [b, a] ∧ QA [a, b] ρ') : (xSw R).f ρ QA := q
theorem i_swq {x y : D} {P : D → D → Prop} (q : P x y) : ∃ a b, [y, x] = [b, a] ∧ P a b := ⟨x, y, rfl, q⟩
theorem i_get2 (q : Ta.f ρ fun d ρ1 => ∃ ks xs, d = .fz (.dic ks) xs ∧ Tb.f ρ1 fun y ρ2 => Tc.f ρ2 fun z ρ3 => ks.length = xs.length ∧ z.sh = true ∧ xs.all D.sh = true ∧ ∃ k, y.key = some k ∧ Q ((D.val ks xs k).getD z) ρ3) : (xGet2 Ta Tb Tc).f ρ Q := q
theorem i_get2S {ks : List Key} {xs : List D} (h : At ρ i (.ob (.dic ks) xs)) (q : Tb.f ρ fun y ρ1 => Tc.f ρ1 fun z ρ2 => ∃ ks xs, At ρ2 i (.ob (.dic ks) xs) ∧ ∃ k, ks.length = xs.length ∧ z.sh = true ∧ xs.all D.sh = true ∧ y.key = some k ∧ Q ((D.val ks xs k).getD z) ρ2) : (xGet2S i Tb Tc).f ρ Q :=
  ⟨⟨ks, xs, h.get⟩, Tb.mono (fun _ _ h => Tc.mono (fun _ _ ⟨ks, xs, h0, k, h1, h2, h3, h4, h⟩ => ⟨ks, xs, k, h0.get, h1, h2, h3, h4, h⟩) h) q⟩
theorem i_dput (q : Tb.f ρ fun z ρ1 => (∃ d, At ρ1 i d) ∧ Ta.f ρ1 fun y ρ2 => ∃ ks xs, At ρ2 i (.ob (.dic ks) xs) ∧ ∃ k ρ3, y.key = some k ∧ ks.length = xs.length ∧ ks.length < sizeLine ∧ z.sh = true ∧ Put ρ2 i (some (.ob (.dic (putKs ks k)) (putX ks xs k z))) ρ3 ∧ n ρ3) : (xDput i Ta Tb).f ⟨n, r, b, c⟩ ρ :=
  Tb.mono (fun _ _ ⟨⟨d, h0⟩, h⟩ => ⟨⟨d, h0.get⟩, Ta.mono (fun _ _ ⟨ks, xs, h1, k, ρ3, h2, h3, h4, h5, p, h⟩ => ⟨ks, xs, k, h1.get, h2, h3, h4, h5, by rw [p.eq]; exact h⟩) h⟩) q
theorem i_ext {ds : List D} (h : At ρ i (.own ds)) (q : Ta.f ρ fun d ρ1 => ∃ zs, At ρ1 i (.own zs) ∧ ∃ ys ρ2, d = .own ys ∧ ys.all D.sh = true ∧ zs.length + ys.length ≤ sizeLine ∧ Put ρ1 i (some (.own (zs ++ ys))) ρ2 ∧ n ρ2) : (xExt i Ta).f ⟨n, r, b, c⟩ ρ :=
  ⟨⟨ds, h.get⟩, Ta.mono (fun _ _ ⟨zs, h1, ys, ρ2, h2, h3, h4, p, h⟩ => ⟨zs, ys, h1.get, h2, h3, h4, by rw [p.eq]; exact h⟩) q⟩
theorem i_ikeys {QI : List D → Ev → Prop} (q : Ta.f ρ fun d ρ1 => ∃ ks xs, d = .fz (.dic ks) xs ∧ ks.length = xs.length ∧ QI (ks.map kD) ρ1) : (xiKeys Ta).f ρ QI := q
theorem i_iitems {QI : List D → Ev → Prop} (q : Ta.f ρ fun d ρ1 => ∃ ks xs, d = .fz (.dic ks) xs ∧ ks.length = xs.length ∧ xs.all D.flat = true ∧ QI (itemsD ks xs) ρ1) : (xiItems Ta).f ρ QI := q
theorem i_srtS (q : Ta.f ρ fun d ρ1 => ∃ (ks : List Int) (zs : List D), d = .own zs ∧ zs = ks.map D.int ∧ ks.length < 64 ∧ ∀ ys : List Int, (∀ k, k ∈ ys ↔ k ∈ ks) → ys.Pairwise (· < ·) → Q (.own (ys.map D.int)) ρ1) : (xSrtS Ta).f ρ Q := q
theorem i_srtK (q : Ta.f ρ fun d ρ1 => ∃ (ks : List Int) (xs : List D), d = .fz (.dic (ks.map Sum.inl)) xs ∧ ks.length = xs.length ∧ ks.length < 64 ∧ ∀ ys : List Int, ys.Perm ks → ys.Pairwise (· ≤ ·) → Q (.own (ys.map D.int)) ρ1) : (xSrtK Ta).f ρ Q := q
theorem i_srtItems (q : Ta.f ρ fun d ρ1 => ∃ ks ns : List Int, d = .fz (.dic (ks.map Sum.inl)) (ns.map D.int) ∧ ks.length = ns.length ∧ ∀ ps : List (Int × Int), ps.Perm (ks.zip ns) → ps.Pairwise (fun a b => a.1 ≤ b.1) → Q (.own (ps.map fun p => .tup [.int p.1, .int p.2])) ρ1) : (xSrtItems Ta).f ρ Q := q
theorem i_frzD {k : Kd} {ds : List D} {P : List D → Prop} {Y : Prop} {Z : Kd → List D → Prop} (hs : ds.all D.sh = true) (q : Z k ds) : (∀ es, D.ob k ds = .own es → es.all D.sh = true ∧ P es) ∧ ((D.ob k ds).sh = true → Y) ∧ (∀ k' es, D.ob k ds = .ob k' es → es.all D.sh = true ∧ Z k' es) := ⟨fun es e => D.noConfusion e, fun z => Bool.noConfusion z, fun k' es e => by cases e; exact ⟨hs, q⟩⟩
theorem i_frzS {d : D} {P : List D → Prop} {Y : Prop} {Z : Kd → List D → Prop} (hs : d.sh = true) (q : Y) : (∀ es, d = .own es → es.all D.sh = true ∧ P es) ∧ (d.sh = true → Y) ∧ (∀ k' es, d = .ob k' es → es.all D.sh = true ∧ Z k' es) := ⟨fun es e => (by subst e; cases hs), fun _ => q, fun k' es e => (by subst e; cases hs)⟩
theorem i_ex1 {α : Type} {P : α → Prop} (x : α) (q : P x) : ∃ x, P x := ⟨x, q⟩
end
section
variable {X : Cx} {C : Ct} {a : Expr} {pos p : Pos}
/-- tuple(x), list(x), x an own list that stays -/
def xTupS (i : Nat) : XE := ⟨fun ρ Q => ∃ zs, ρ[i]? = some (some (.own zs)) ∧ zs.all D.sh = true ∧ Q (.tup zs) ρ, fun m ⟨zs, h1, h2, q⟩ => ⟨zs, h1, h2, m _ _ q⟩⟩
def xListS (i : Nat) : XE := ⟨fun ρ Q => ∃ zs, ρ[i]? = some (some (.own zs)) ∧ zs.all D.sh = true ∧ Q (.own zs) ρ, fun m ⟨zs, h1, h2, q⟩ => ⟨zs, h1, h2, m _ _ q⟩⟩
theorem ve_tupS (i : Nat) (ha : PE X a (tVar i)) {x : Str} (hg : Gl X x) (hm : X.mg x = none) (hv : bootBuiltins x = some (.type "tuple")) (hn : x ≠ "__name__" := by decide) (hdb : (x == ("__debug__" : Str)) = false := by decide)
    (he : starEach [a] X.env = (false, eval a X.env) :: starEach [] X.env := by rfl) (hpl : (backTo pos (starEach [] X.env)).any (·.1) = false := by rfl) : VE X C (.Call (.Name x p) [a] [] pos) (tCB (fun xs H Q => ∃ p ys, xs = [.ref p] ∧ ((SqL X.K H p ys ∧ ∀ l, H l = none → Q (.ref l) (upd H l (.tup ys))) ∨ (SqT X.K H p ys ∧ Q (.ref p) H))) (tCons (tVar i) tNil)) (xTupS i) := by
  refine ⟨pe_callTy call_tuple_of hg hm hv (pa_cons ha pa_nil he) hn hdb he hpl, fun {N σ ρ H vs ds Q} R q => ?_⟩
  obtain ⟨zs, h1, h2, q⟩ := q
  obtain ⟨v, A, e1, r⟩ := R.any h1
  obtain ⟨a', us, B, rfl, ha', _, _, rr⟩ := r
  exact ⟨_, e1, a', us, rfl, .inl ⟨.inl (.inl ha'), fun l nl => q _ _ _ (R.newTup nl (rr.share h2))⟩⟩
theorem ve_listS (i : Nat) (ha : PE X a (tVar i)) {x : Str} (hg : Gl X x) (hm : X.mg x = none) (hv : bootBuiltins x = some (.type "list")) (hn : x ≠ "__name__" := by decide) (hdb : (x == ("__debug__" : Str)) = false := by decide)
    (he : starEach [a] X.env = (false, eval a X.env) :: starEach [] X.env := by rfl) (hpl : (backTo pos (starEach [] X.env)).any (·.1) = false := by rfl) : VE X C (.Call (.Name x p) [a] [] pos) (tCB (fun xs H Q => ∃ p ys, xs = [.ref p] ∧ (SqL X.K H p ys ∨ SqT X.K H p ys) ∧ ∀ l, H l = none → Q (.ref l) (upd H l (.lst ys))) (tCons (tVar i) tNil)) (xListS i) := by
  refine ⟨pe_callTy call_list_of hg hm hv (pa_cons ha pa_nil he) hn hdb he hpl, fun {N σ ρ H vs ds Q} R q => ?_⟩
  obtain ⟨zs, h1, h2, q⟩ := q
  obtain ⟨v, A, e1, r⟩ := R.any h1
  obtain ⟨a', us, B, rfl, ha', _, _, rr⟩ := r
  exact ⟨_, e1, a', us, rfl, .inl (.inl (.inl ha')), fun l nl => q _ _ _ (R.allocN nl (rr.share h2))⟩
theorem i_tupS {ρ : Ev} {i : Nat} {zs : List D} {Q : D → Ev → Prop} (h : At ρ i (.own zs)) (hs : zs.all D.sh = true) (q : Q (.tup zs) ρ) : (xTupS i).f ρ Q := ⟨zs, h.get, hs, q⟩
theorem i_listS {ρ : Ev} {i : Nat} {zs : List D} {Q : D → Ev → Prop} (h : At ρ i (.own zs)) (hs : zs.all D.sh = true) (q : Q (.own zs) ρ) : (xListS i).f ρ Q := ⟨zs, h.get, hs, q⟩
theorem i_pop {ρ ρ' : Ev} {i : Nat} {zs : List D} {z : D} {Q : D → Ev → Prop} (h : At ρ i (.own (zs ++ [z]))) (hs : z.sh = true) (p : Put ρ i (some (.own zs)) ρ') (q : Q z ρ') : (xPop i).f ρ Q := ⟨zs, z, h.get, hs, by rw [p.eq]; exact q⟩
theorem mulO {x : D} {n : Nat} (hs : x.sh = true) (hn : n ≤ 100000) : mulD (.own [x]) (.int (n : Nat)) = some (.own (List.replicate n [x]).flatten) := by
  have h1 : -(2 ^ 63) ≤ ((n : Nat) : Int) := by omega
  have h2 : ((n : Nat) : Int) < 2 ^ 63 := by omega
  have h3 : [x].length * ((n : Nat) : Int).toNat ≤ PySem.sizeLine := by rw [List.length_singleton, PySem.sizeLine_eq]; omega
  have h4 : [x].all D.sh = true := by simp [hs]
  have e : mulD (.own [x]) (.int (n : Nat)) = some (.own (List.replicate (n : Int).toNat [x]).flatten) := by
    simp only [mulD]
    exact if_pos ⟨h1, h2, h3, h4⟩
  rw [e, Int.toNat_natCast]
theorem i_bT {k : Bool} {P : D → Prop} (e : k = true) (q : P (.int 1)) : ∃ z, int1 [.bl k] = some z ∧ P z := ⟨.int 1, by subst e; rfl, q⟩
theorem i_bF {k : Bool} {P : D → Prop} (e : k = false) (q : P (.int 0)) : ∃ z, int1 [.bl k] = some z ∧ P z := ⟨.int 0, by subst e; rfl, q⟩
theorem i_own2 {a b : D} {P : D → Prop} {n : Int} {z : D} (h : atI [a, b] n = some z) (hs : z.sh = true) (q : P z) : ∃ z, ixD (.own [a, b]) (.int n) = some z ∧ P z := ⟨z, ix_own h hs, q⟩
/-- a slot lent to the call, taken when the other arguments are known -/
def xLendL (i : Nat) (B : XA) : XA := ⟨fun ρ Q => (∃ d, ρ[i]? = some (some d)) ∧ B.f ρ fun fs ρ2 => ∃ d, ρ2[i]? = some (some d) ∧ Q (d :: fs) (ρ2.set i none), fun m ⟨h, q⟩ => ⟨h, B.mono (fun _ _ ⟨d, e, h⟩ => ⟨d, e, m _ _ h⟩) q⟩⟩
variable {es : List Expr} {sl : List (Option Nat)} {tr : TA} {Tr : XA} {e : Expr}
theorem va_lendL (i : Nat) (h : PE X e (tVar i)) (hr : VA X C es sl tr Tr) (hs : starEach (e :: es) X.env = (false, eval e X.env) :: starEach es X.env := by rfl) : VA X C (e :: es) (some i :: sl) (tCons (tVar i) tr) (xLendL i Tr) := by
  refine ⟨pa_cons h hr.pa hs, fun R q => ?_⟩
  obtain ⟨⟨d0, h0⟩, q⟩ := q
  obtain ⟨v, A, e1, _⟩ := R.any h0
  refine ⟨v, e1, ?_⟩
  refine hr.sa R (Tr.mono (fun fs ρ2 h xs N2 H2 R2 L => ?_) q)
  obtain ⟨d, e2, h⟩ := h
  obtain ⟨v', e3, R3⟩ := R2.lendL e2
  rw [e1] at e3
  cases e3
  refine h _ _ _ R3 ⟨congrArg (· + 1) L.len, fun k j hk => ?_⟩
  cases k with
  | zero =>
    cases (show some (some i) = some (some j) from hk)
    exact ⟨v, rfl, e1⟩
  | succ k => exact L.at_ k j hk
theorem i_lendL {ρ : Ev} {i : Nat} {d : D} {R : XA} {QA : List D → Ev → Prop} (h : At ρ i d) (q : R.f ρ fun fs ρ2 => ∃ d, At ρ2 i d ∧ ∃ ρ3, Put ρ2 i none ρ3 ∧ QA (d :: fs) ρ3) : (xLendL i R).f ρ QA :=
  ⟨⟨d, h.get⟩, R.mono (fun _ _ ⟨d, h, ρ3, p, q⟩ => ⟨d, h.get, by rw [p.eq]; exact q⟩) q⟩
end
end BV

/-! BV, part W: signs in texts, walks over texts, tables of texts, reversed(a tuple), sets of keys. -/
namespace BV
open PySem PySem.Spec PyProof.Rows L2
section
variable {X : Cx} {C : Ct} {a b c e tg iter : Expr} {es : List Expr} {ta tb tc te : TE} {Ta Tb Tc Te : XE} {pos p p2 apos cpos : Pos} {K : Fg}
/-! ### a sign in a text -/
def inTD (neg : Bool) : D → D → Option D
  | .str s, .str z => match s.cps.toList with
    | [c] => some (.bl (if neg then !decide (c ∈ z.cps.toList) else decide (c ∈ z.cps.toList)))
    | _ => none
  | _, _ => none
theorem bop_inT {neg : Bool} : BopR K (fun x y H Q => ∃ (c : Nat) (z : Str), x = .str ⟨#[c]⟩ ∧ y = .str z ∧ Q (.bl (if neg then !decide (c ∈ z.cps.toList) else decide (c ∈ z.cps.toList))) H) (inTD neg) := by
  intro C N σ ρ H x y vs d e ds z Q R h q
  obtain ⟨A, B, hd, he⟩ := R.two
  unfold inTD at h
  split at h
  · rename_i s t
    split at h
    · rename_i c hc
      cases h
      have es : s = ⟨#[c]⟩ := by
        obtain ⟨cps⟩ := s
        congr 1
        exact Array.toList_inj.mp hc
      rw [es] at hd
      exact ⟨c, t, hd, he, q _ N H (R.res rfl)⟩
    · cases h
  · cases h
theorem op_inT : OpR X (compareOp .In) (fun x y H Q => ∃ (c : Nat) (z : Str), x = .str ⟨#[c]⟩ ∧ y = .str z ∧ Q (.bl (if false then !decide (c ∈ z.cps.toList) else decide (c ∈ z.cps.toList))) H) := op_in_sign
theorem op_notInT : OpR X (compareOp .NotIn) (fun x y H Q => ∃ (c : Nat) (z : Str), x = .str ⟨#[c]⟩ ∧ y = .str z ∧ Q (.bl (if true then !decide (c ∈ z.cps.toList) else decide (c ∈ z.cps.toList))) H) := op_notIn_sign
/-! ### for c in a text -/
def signsD (z : Str) : List D := z.cps.toList.map fun c => .str ⟨#[c]⟩
theorem itd_str {C : Ct} {z : Str} : ItD K C (Its z) (signsD z) (.str z) (.str z) := by
  intro N σ ρ H us fs vs ds hl R
  have hn : (signsD z).length = z.cps.size := by unfold signsD; rw [List.length_map, Array.length_toList]
  refine ⟨fun k d h => ?_, fun k h => by show z.cps.size ≤ k; omega⟩
  have hk : k < z.cps.size := by rw [← hn]; exact (List.getElem?_eq_some_iff.mp h).1
  refine ⟨hk, fun x H' hy => ?_⟩
  obtain ⟨rfl, c, hc, rfl⟩ := hy
  have e2 : d = .str ⟨#[c]⟩ := by
    unfold signsD at h
    rw [List.getElem?_map, Array.getElem?_toList, hc] at h
    exact (Option.some.inj h).symm
  rw [e2]
  exact ⟨N, R.res rfl⟩
def xiStr (T : XE) : XI := ⟨fun ρ Q => T.f ρ fun d ρ1 => ∃ z, d = .str z ∧ Q (signsD z) ρ1, fun m q => T.mono (fun _ _ h => by
  obtain ⟨z, h1, q⟩ := h
  exact ⟨z, h1, m _ _ q⟩) q⟩
theorem vi_str (h : VE X C iter te Te) : VI X C tg iter (iStr te) (xiStr Te) := by
  refine ⟨pi_str h.pe, fun {N σ ρ H vs ds R'} R q => h.se R (Te.mono (fun d ρ1 h v N1 H1 R1 => ?_) q)⟩
  obtain ⟨z, rfl, q⟩ := h
  obtain ⟨A, r⟩ := R1.top1
  have ev : v = .str z := r
  subst ev
  exact ⟨z, rfl, q _ N1 H1 (.str z) (.str z) R1.park itd_str⟩
/-! ### for x in reversed(a tuple) -/
theorem itd_revT {C : Ct} {a : Addr} {zs : List D} {pd : D} (e : pd.seq = some zs) (hz : zs.all D.sh = true) (nt : pd.isTup = true) : ItD K C (RT.ItvT K a zs.length) zs.reverse (.ref a) pd := by
  intro N σ ρ H us fs vs ds hl R
  obtain ⟨A, r⟩ := R.waits hl
  obtain ⟨a', ws, ea, hs, rr⟩ := r.asT e nt
  cases ea
  have hn : (zs.reverse).length = zs.length := List.length_reverse
  refine ⟨fun k z h => ?_, fun k h => by show zs.length ≤ k; omega⟩
  have hk : k < zs.length := by rw [← hn]; exact (List.getElem?_eq_some_iff.mp h).1
  rw [List.getElem?_reverse hk] at h
  obtain ⟨x, h1, h2⟩ := rr.at hz h
  refine ⟨⟨hk, ws, x, hs, h1⟩, fun y H' hy => ?_⟩
  obtain ⟨rfl, hy⟩ := hy
  have e2 := hy ws hs
  rw [h1] at e2
  cases e2
  exact ⟨N, R.res h2⟩
def xiRev (T : XE) : XI := ⟨fun ρ Q => T.f ρ fun d ρ1 => ∃ zs, d = .tup zs ∧ zs.all D.sh = true ∧ Q zs.reverse ρ1, fun m q => T.mono (fun _ _ h => by
  obtain ⟨z, h1, h2, q⟩ := h
  exact ⟨z, h1, h2, m _ _ q⟩) q⟩
theorem vi_rev (hg : Gl X "reversed") (hm : X.mg "reversed" = none) (h : VE X C e te Te) (hs : starEach [e] X.env = (false, eval e X.env) :: starEach [] X.env := by rfl) : VI X C tg (.Call (.Name "reversed" p) [e] [] pos) (RT.iRevA X.K te) (xiRev Te) := by
  refine ⟨RT.pi_revA hg hm h.pe hs, fun {N σ ρ H vs ds R'} R q => h.se R (Te.mono (fun d ρ1 h v N1 H1 R1 => ?_) q)⟩
  obtain ⟨zs, rfl, hz, q⟩ := h
  obtain ⟨A, r⟩ := R1.top1
  obtain ⟨a, us, rfl, hs, rr⟩ := Rp.asT r (zs := zs) rfl rfl
  refine ⟨a, us, rfl, .inr ⟨hs, ?_⟩⟩
  rw [← rr.length]
  exact q _ N1 H1 (.ref a) (.tup zs) R1.park (itd_revT rfl hz rfl)
/-! ### a table of texts among the globals -/
theorem rps_strs {N : AS} {H : Hp} : ∀ ws : List Str, Rps K N H (ws.map D.str) (ws.map V.str) AS0
  | [] => rfl
  | w :: ws => ⟨.str w, ws.map V.str, AS0, AS0, rfl, rfl, rps_strs ws, fun x z => z, fun x z => z, fun x z _ => z⟩
theorem ve_globT {x : Str} {ws : List Str} (hg : Gl X x) (hm : ∃ a, X.mg x = some (.ref a) ∧ ∀ H, SqT X.K H a (ws.map V.str)) (hd : (x == ("__debug__" : Str)) = false := by decide) : VE X C (.Name x pos) (fun σ H Q => ∃ a, X.mg x = some (.ref a) ∧ Q (.ref a) H) (xC (.tup (ws.map D.str))) := by
  obtain ⟨a, e, hs⟩ := hm
  refine ⟨⟨fun pins s σ H Q I h => ?_⟩, fun {N σ ρ H vs ds Q} R q => ?_⟩
  · obtain ⟨b, hb, q⟩ := h
    exact (pe_glob (v := .ref b) hg hb rfl hd).run pins s σ H Q I q
  · exact ⟨a, e, q _ N H (R.res (d := .tup (ws.map D.str)) ⟨a, ws.map V.str, rfl, hs H, rps_strs ws⟩)⟩
/-! ### sets of keys -/
def setKd (P : Program) (w : World) (S : Key → Bool) (n : Nat) : Kd := .obj (fun a => SetK P w a S n) fun _ _ z => HO.noConfusion z
theorem setKd_nt {P : Program} {w : World} {S : Key → Bool} {n : Nat} : (∀ a us vs, (setKd P w S n).mk a us ≠ .tup vs) ∧ ∀ a us o u, (setKd P w S n).mk a us ≠ .frz o u := ⟨fun a us vs z => HO.noConfusion (show SetK P w a S n = .tup vs from z), fun a us o u z => HO.noConfusion (show SetK P w a S n = .frz o u from z)⟩
def xSet0 (P : Program) (w : World) : XE := ⟨fun ρ Q => Q (.ob (setKd P w (fun _ => false) 0) []) ρ, fun m q => m _ _ q⟩
theorem ve_set0 {x : Str} (hg : Gl X x) (hm : X.mg x = none) (hv : bootBuiltins x = some (.type "set")) (hn : x ≠ "__name__" := by decide) (hdb : (x == ("__debug__" : Str)) = false := by decide) : VE X C (.Call (.Name x p) [] [] pos) (tCB (rSet0K X.prog X.w) tNil) (xSet0 X.prog X.w) :=
  ⟨pe_callTy0 cr_set0K hg hm hv hn hdb, fun R q => ⟨rfl, fun p np => q _ _ _ (R.allocK (k := setKd X.prog X.w (fun _ => false) 0) (zs := []) (fs := []) np rfl)⟩⟩
def xSAdd (P : Program) (w : World) (i : Nat) (T : XE) : XE := ⟨fun ρ Q => (∃ S n, ρ[i]? = some (some (.ob (setKd P w S n) []))) ∧ T.f ρ fun y ρ1 => ∃ k S n, ρ1[i]? = some (some (.ob (setKd P w S n) [])) ∧ y.key = some k ∧ n + 1 < scanBound ∧
    Q .non (ρ1.set i (some (.ob (setKd P w (fun j => S j || decide (j = k)) (if S k = true then n else n + 1)) []))),
  fun m ⟨h0, q⟩ => ⟨h0, T.mono (fun _ _ ⟨k, S, n, h1, h2, h3, q⟩ => ⟨k, S, n, h1, h2, h3, m _ _ q⟩) q⟩⟩
theorem ve_sadd (i : Nat) {o : Expr} (ho : PE X o (tVar i)) (he : VE X C e te Te) (hbase : attributeBase o "add" X.env (eval o X.env) = eval o X.env := by rfl)
    (hfew : ((backTo cpos (starEach (e :: []) X.env)).all (fun x => !x.1) && (backToKw cpos (keywordEach [] X.env)).all (fun x => x.1.isSome)
      && decide ((e :: ([] : List Expr)).length + ([] : List Keyword).length + (if ([] : List Keyword).isEmpty then 0 else 1) < 30)) = true := by rfl)
    (hline : (apos.endLine == cpos.line) = true := by rfl) (hs : starEach (e :: []) X.env = (false, eval e X.env) :: starEach [] X.env := by rfl) (hplain : (backTo cpos (starEach [] X.env)).any (·.1) = false := by rfl) :
    VE X C (.Call (.Attribute o "add" apos) [e] [] cpos) (tSAddK X.prog X.w (tVar i) (tCons te tNil)) (xSAdd X.prog X.w i Te) := by
  refine ⟨pe_saddK ho (pa_cons he.pe pa_nil hs) hbase hfew hline hs hplain, fun {N σ ρ H vs ds Q} R q => ?_⟩
  obtain ⟨⟨S0, n0, h0⟩, q⟩ := q
  obtain ⟨u, A, e1, r⟩ := R.any h0
  obtain ⟨a, us, B, rfl, ha, _, _, _⟩ := r
  refine ⟨_, e1, ⟨a, S0, n0, rfl, ha⟩, he.se R (Te.mono (fun y ρ1 q w N1 H1 R1 => ?_) q)⟩
  obtain ⟨k, S, n, h1, hk, hn, q⟩ := q
  obtain ⟨A2, ry⟩ := R1.top1
  obtain ⟨u', e2, R3⟩ := R1.drop.lend h1
  rw [e1] at e2
  cases e2
  obtain ⟨us2, hp2, hl2, _, wr⟩ := R3.writeK setKd_nt.1 setKd_nt.2
  refine ⟨a, k, S, n, rfl, by rw [D.key_ok ry hk], hp2, hn, ?_⟩
  have R5 := (wr (k2 := setKd X.prog X.w (fun j => S j || decide (j = k)) (if S k = true then n else n + 1)) (gs := []) (zs := []) fun B1 B2 g1 g2 dj => ⟨AS0, rfl, fun _ z => z.elim⟩).give e1
  rw [List.set_set] at R5
  exact q _ _ _ (R5.res rfl)
def xSIn (P : Program) (w : World) (neg : Bool) (i : Nat) (T : XE) : XE := ⟨fun ρ Q => T.f ρ fun y ρ1 => ∃ k S n, ρ1[i]? = some (some (.ob (setKd P w S n) [])) ∧ y.key = some k ∧ Q (.bl (if neg then !S k else S k)) ρ1,
  fun m q => T.mono (fun _ _ ⟨k, S, n, h1, h2, q⟩ => ⟨k, S, n, h1, h2, m _ _ q⟩) q⟩
theorem se_sin {neg : Bool} {i : Nat} (ha : VE X C a ta Ta) {N : AS} {σ : Sts} {ρ : Ev} {H : Hp} {vs : List V} {ds : List D} {Q : VK} (R : Rl X.K C N σ ρ H [] [] vs ds)
    (q : (xSIn X.prog X.w neg i Ta).f ρ (fun d ρ' => ∀ v N' H', Rl X.K C N' σ ρ' H' [v] [d] vs ds → Q v H')) : tOp (rSInK X.prog X.w neg) ta (tVar i) σ H Q := by
  refine ha.se R (Ta.mono (fun y ρ1 q w N1 H1 R1 => ?_) q)
  obtain ⟨k, S, n, h1, hk, q⟩ := q
  obtain ⟨A2, ry⟩ := R1.top1
  obtain ⟨u, A, e1, r⟩ := R1.any h1
  obtain ⟨a, us, B, rfl, ha, _, _, _⟩ := r
  exact ⟨_, e1, k, a, S, n, D.key_ok ry hk, rfl, ha, q _ _ _ (R1.res rfl)⟩
theorem ve_sin (i : Nat) (ha : VE X C a ta Ta) (hb : PE X b (tVar i)) (hm : behindInMarks .In b = false := by rfl) : VE X C (.Compare a [.In] [b] pos) (tOp (rSInK X.prog X.w false) ta (tVar i)) (xSIn X.prog X.w false i Ta) := ⟨pe_cmpR or_sinK ha.pe hb hm, fun R q => se_sin ha R q⟩
theorem vt_sin (i : Nat) (ha : VE X C a ta Ta) (hb : PE X b (tVar i)) (hm : behindInMarks .In b = false := by rfl) : VT X C (.Compare a [.In] [b] pos) (tTest (tOp (rSInK X.prog X.w false) ta (tVar i))) (xTst (xSIn X.prog X.w false i Ta)) := vt_of (ve_sin i ha hb hm) (pt_cmpR or_sinK ha.pe hb hm)
end
end BV

/-! BV, part X: tuple(l) whose object has no dict; t.index(x), l.index(x) of texts. -/
namespace BV
open PySem PySem.Spec PyProof.Rows L2
section
variable {X : Cx} {C : Ct} {a b c e tg iter : Expr} {es : List Expr} {ta tb tc te : TE} {Ta Tb Tc Te : XE} {pos p p2 apos cpos : Pos} {K : Fg} {N : AS} {σ : Sts} {ρ : Ev} {H : Hp} {vs xs : List V} {ds es' : List D}
theorem Rl.newTpl {q : Addr} {o : Obj} {zs : List V} {fs : List D} (R : Rl K C N σ ρ H xs es' vs ds) (np : H q = none) (ho : o.dict = none) (hz : Rps K N H fs zs AS0) : Rl K C N σ ρ (upd H q (.frz o (.tup zs))) [.ref q] [.fz .tpl fs] vs ds :=
  (R.alloc (o := .frz o (.tup zs)) np).res (d := .fz .tpl fs) ⟨q, zs, rfl, ⟨o, upd_same, ho⟩, fun z => R.nh q z np, hz.keep0 (.alloc np fun _ q => .inl q)⟩
/-- tuple(l), its object known to have no dict -/
def rTupZ (K : Fg) : List V → Hp → VK → Prop := fun xs H Q => ∃ q ys, xs = [.ref q] ∧ SqL K H q ys ∧ ∀ (l : Addr) (o : Obj), o.dict = none → H l = none → Q (.ref l) (upd H l (.frz o (.tup ys)))
theorem cr_tupZ : CallR X (.type "tuple") (rTupZ X.K) := by
  intro pins s σ H xs us Q J rr hh
  obtain ⟨q, ys, rfl, hq, k⟩ := hh
  obtain ⟨u, rfl, ru⟩ := vals1 rr
  cases ru
  obtain ⟨its, rv, li, lz⟩ := J.list hq
  have ln := rv.length
  refine call_tuple_list li.isList (fun h2 kp => ?_) (by rw [List.size_toArray]; omega)
  have J1 : Inv X pins σ H { s with heap := h2 } := J.kept (t' := s.toks) kp
  have hnew : (h2.push { cls := .type "tuple", data := .seq its.toArray }).get? h2.objs.size = some { cls := .type "tuple", data := .seq its.toArray } := Heap.get?_push_size _ rfl
  have J2 := J1.laid (t' := s.toks) (h' := h2.push { cls := .type "tuple", data := .seq its.toArray }) (a := h2.objs.size) (o := .frz { cls := .type "tuple", data := .seq its.toArray } (.tup ys)) (fun b o e => Heap.get?_push_of_some _ e) (Nat.le_refl _)
    ⟨hnew, lz, its, rv, IsTup.new _ _⟩
  exact ⟨.ref h2.objs.size, _, J2, rfl, k _ _ rfl (J1.hok.fresh (Nat.le_refl _))⟩
def xTplS (i : Nat) : XE := ⟨fun ρ Q => ∃ zs, ρ[i]? = some (some (.own zs)) ∧ zs.all D.sh = true ∧ Q (.fz .tpl zs) ρ, fun m ⟨zs, h1, h2, q⟩ => ⟨zs, h1, h2, m _ _ q⟩⟩
theorem ve_tplS (i : Nat) (ha : PE X a (tVar i)) {x : Str} (hg : Gl X x) (hm : X.mg x = none) (hv : bootBuiltins x = some (.type "tuple")) (hn : x ≠ "__name__" := by decide) (hdb : (x == ("__debug__" : Str)) = false := by decide)
    (he : starEach [a] X.env = (false, eval a X.env) :: starEach [] X.env := by rfl) (hpl : (backTo pos (starEach [] X.env)).any (·.1) = false := by rfl) : VE X C (.Call (.Name x p) [a] [] pos) (tCB (rTupZ X.K) (tCons (tVar i) tNil)) (xTplS i) := by
  refine ⟨pe_callTy cr_tupZ hg hm hv (pa_cons ha pa_nil he) hn hdb he hpl, fun {N σ ρ H vs ds Q} R q => ?_⟩
  obtain ⟨zs, h1, h2, q⟩ := q
  obtain ⟨v, A, e1, r⟩ := R.any h1
  obtain ⟨a', us, B, rfl, ha', _, _, rr⟩ := r
  exact ⟨_, e1, a', us, rfl, .inl (.inl ha'), fun l o ho nl => q _ _ _ (R.newTpl nl ho (rr.share h2))⟩
theorem strs_rps : ∀ {ws : List Str} {us : List V} {A : AS}, Rps K N H (ws.map D.str) us A → us = ws.map V.str
  | [], us, A, h => h
  | w :: ws, us, A, h => by
    obtain ⟨v, vr, A1, A2, rfl, h1, h2, _⟩ := h
    cases (show v = .str w from h1)
    rw [strs_rps h2]
    rfl
/-! ### t.index(x) -/
def rIdxZ (K : Fg) : V → List V → Hp → VK → Prop := fun x zs H Q => ∃ q, ∃ ys : List Str, ∃ z j, x = .ref q ∧ zs = [.str z] ∧ SqT K H q (ys.map V.str) ∧ ys[j]? = some z ∧ (∀ m, m < j → ys[m]? ≠ some z) ∧ Q (.int (j : Nat)) H
def tIdxZ (K : Fg) (to : TE) (t : TA) : TE := fun σ H Q => to σ H fun x H1 => (∃ q o ys, x = .ref q ∧ H1 q = some (.frz o (.tup ys)) ∧ o.dict = none) ∧ t σ H1 fun zs H2 => rIdxZ K x zs H2 Q
theorem pe_idxZ {t : TA} (ho : PE X a ta) (hb : PA X [b] t) (h1 : attributeBase a "index" X.env (eval a X.env) = eval a X.env := by rfl)
    (h2 : ((backTo cpos (starEach (b :: []) X.env)).all (fun x => !x.1) && (backToKw cpos (keywordEach [] X.env)).all (fun x => x.1.isSome) && decide ((b :: ([] : List Expr)).length + ([] : List Keyword).length + (if ([] : List Keyword).isEmpty then 0 else 1) < 30)) = true := by rfl)
    (h3 : (apos.endLine == cpos.line) = true := by rfl) (h4 : starEach (b :: []) X.env = (false, eval b X.env) :: starEach [] X.env := by rfl) (h5 : (backTo cpos (starEach [] X.env)).any (·.1) = false := by rfl) :
    PE X (.Call (.Attribute a "index" apos) [b] [] cpos) (tIdxZ X.K ta t) := by
  refine ⟨fun pins s σ H Q J hh => ?_⟩
  refine wpAny_Call_method_late h1 h2 h3 rfl (thn (ho.run pins s σ H _ J hh) fun w s1 ⟨x, H1, J1, rx, ⟨q, o, ys, ex, hq, hd⟩, k⟩ => ?_)
  subst ex
  cases rx
  obtain ⟨ho1, _, its, _, o2, ho2, hc, _⟩ := J1.hok q _ hq
  have eo : o2 = o := Option.some.inj (ho2.symm.trans ho1)
  subst eo
  refine ⟨"tuple", "tuple.index", F.plainAttrs_tuple, F.slot_tuple_index, F.type_tuple_index, ⟨_, ho2, hc⟩, fun a e => by cases e; exact ⟨_, ho2, hd⟩, ?_⟩
  have hA := hb.run cpos pins s1 σ H1 _ J1 k
  rw [h4] at hA ⊢
  refine Calls.callWith_builtin (by show (false || (backTo cpos (starEach [] X.env)).any (·.1)) = false; rw [h5] <;> rfl) (Calls.evalArgs_plain ?_)
  exact thn hA fun us s2 ⟨zs, H2, J2, r2, k2⟩ => mt_tup_index pins s2 σ H2 (.ref q) zs (.ref q) us Q J2 rfl r2 k2
def xIdxZ (A B : XE) : XE := ⟨fun ρ Q => A.f ρ fun d ρ1 => ∃ ys : List Str, d = .fz .tpl (ys.map D.str) ∧ B.f ρ1 fun y ρ2 => ∃ (z : Str) (j : Nat), y = .str z ∧ ys[j]? = some z ∧ (∀ m, m < j → ys[m]? ≠ some z) ∧ Q (.int (j : Nat)) ρ2,
  fun m q => A.mono (fun _ _ ⟨ys, e, q⟩ => ⟨ys, e, B.mono (fun _ _ ⟨z, j, h1, h2, h3, q⟩ => ⟨z, j, h1, h2, h3, m _ _ q⟩) q⟩) q⟩
theorem ve_idxZ (ha : VE X C a ta Ta) (hb : VE X C b tb Tb) (hp : PE X (.Call (.Attribute a "index" apos) [b] [] cpos) (tIdxZ X.K ta (tCons tb tNil))) : VE X C (.Call (.Attribute a "index" apos) [b] [] cpos) (tIdxZ X.K ta (tCons tb tNil)) (xIdxZ Ta Tb) := by
  refine ⟨hp, fun {N σ ρ H vs ds Q} R q => ha.se R (Ta.mono (fun d ρ1 q v N1 H1 R1 => ?_) q)⟩
  obtain ⟨ys, rfl, q⟩ := q
  obtain ⟨A, r⟩ := R1.top1
  obtain ⟨u, us, rfl, ⟨o, hs, ho⟩, na, rr⟩ := r
  refine ⟨⟨u, o, us, rfl, hs, ho⟩, hb.se R1.park (Tb.mono (fun y ρ2 q w N2 H2 R2 => ?_) q)⟩
  obtain ⟨z, j, rfl, h2, h3, q⟩ := q
  obtain ⟨A2, B2, hd, he⟩ := (R2.cons).two
  obtain ⟨u', us', eu, ⟨o', hs', _⟩, _, rr'⟩ := hd
  cases eu
  cases (show w = .str z from he)
  have e2 := strs_rps rr'
  subst e2
  exact ⟨u, ys, z, j, rfl, rfl, .inl (.inr ⟨o', hs'⟩), h2, h3, q _ _ _ (R2.cons.res rfl)⟩
/-! ### l.index(x) -/
def xIdxL (A B : XE) : XE := ⟨fun ρ Q => A.f ρ fun d ρ1 => ∃ ys : List Str, d = .lst (ys.map D.str) ∧ B.f ρ1 fun y ρ2 => ∃ (z : Str) (j : Nat), y = .str z ∧ ys[j]? = some z ∧ (∀ m, m < j → ys[m]? ≠ some z) ∧ Q (.int (j : Nat)) ρ2,
  fun m q => A.mono (fun _ _ ⟨ys, e, q⟩ => ⟨ys, e, B.mono (fun _ _ ⟨z, j, h1, h2, h3, q⟩ => ⟨z, j, h1, h2, h3, m _ _ q⟩) q⟩) q⟩
theorem ve_idxL (ha : VE X C a ta Ta) (hb : VE X C b tb Tb) (hp : PE X (.Call (.Attribute a "index" apos) [b] [] cpos) (tBM X.K "list" (rIndex X.K) ta (tCons tb tNil))) : VE X C (.Call (.Attribute a "index" apos) [b] [] cpos) (tBM X.K "list" (rIndex X.K) ta (tCons tb tNil)) (xIdxL Ta Tb) := by
  refine ⟨hp, fun {N σ ρ H vs ds Q} R q => ha.se R (Ta.mono (fun d ρ1 q v N1 H1 R1 => ?_) q)⟩
  obtain ⟨ys, rfl, q⟩ := q
  obtain ⟨A, r⟩ := R1.top1
  obtain ⟨u, us, rfl, hs, na, rr⟩ := r
  refine ⟨.inl ⟨rfl, us, .inl (.inl hs)⟩, hb.se R1.park (Tb.mono (fun y ρ2 q w N2 H2 R2 => ?_) q)⟩
  obtain ⟨z, j, rfl, h2, h3, q⟩ := q
  obtain ⟨A2, B2, hd, he⟩ := (R2.cons).two
  obtain ⟨u', us', eu, hs', _, rr'⟩ := hd
  cases eu
  cases (show w = .str z from he)
  have e2 := strs_rps rr'
  subst e2
  refine ⟨u, ys.map V.str, .str z, j, .str z, rfl, rfl, .inl (.inl hs'), rfl, List.all_eq_true.mpr fun x hx => ?_, ?_, ?_, ?_, q _ _ _ (R2.cons.res rfl)⟩
  · obtain ⟨s, _, rfl⟩ := List.mem_map.mp hx
    rfl
  · rw [List.getElem?_map, h2]; rfl
  · exact beq_self_eq_true z
  · intro m z' hm hz
    rw [List.getElem?_map] at hz
    cases e : ys[m]? with
    | none => rw [e] at hz; cases hz
    | some s =>
      rw [e] at hz
      cases hz
      show (s == z) = false
      exact beq_eq_false_iff_ne.mpr fun z2 => h3 m hm (by rw [e, z2])
end
end BV

/-! BV, part Y: slices of lists with a step. -/
namespace BV
open PySem PySem.Spec PyProof.Rows L2
def stepI (lo hi st : Option Int) (n : Nat) : List Nat := sliceRange (sliceBounds lo hi st n).1 (sliceBounds lo hi st n).2.1 (sliceBounds lo hi st n).2.2
def stepL {α : Type} (lo hi st : Option Int) (xs : List α) : List α := (stepI lo hi st xs.length).filterMap (xs[·]?)
theorem vals_pick {xs : List V} {its : List Value} (r : Vals xs its) : ∀ is : List Nat, Vals (is.filterMap (xs[·]?)) (is.filterMap (its[·]?))
  | [] => .nil
  | i :: is => by
    have hl := r.length
    cases e : xs[i]? with
    | none =>
      have e2 : its[i]? = none := List.getElem?_eq_none (by have := List.getElem?_eq_none_iff.mp e; omega)
      rw [List.filterMap_cons_none e, List.filterMap_cons_none e2]
      exact vals_pick r is
    | some x =>
      obtain ⟨u, hu, ru⟩ := r.get e
      rw [List.filterMap_cons_some e, List.filterMap_cons_some hu]
      exact .cons ru (vals_pick r is)
theorem vals_step {xs : List V} {its : List Value} (r : Vals xs its) (lo hi st : Option Int) : Vals (stepL lo hi st xs) (slicePick its.toArray lo hi st).toList := by
  have hl := r.length
  unfold stepL slicePick stepI
  rw [List.size_toArray, ← hl]
  have e : ∀ i : Nat, its.toArray[i]? = its[i]? := fun i => by simp
  simp only [e]
  exact vals_pick r _
theorem rps_pick {K : Fg} {N : AS} {H : Hp} {ds : List D} {us : List V} (r : Rps K N H ds us AS0) : ∀ is : List Nat, Rps K N H (is.filterMap (ds[·]?)) (is.filterMap (us[·]?)) AS0
  | [] => rfl
  | i :: is => by
    have hl := r.length
    cases e : ds[i]? with
    | none =>
      have e2 : us[i]? = none := List.getElem?_eq_none (by have := List.getElem?_eq_none_iff.mp e; omega)
      rw [List.filterMap_cons_none e, List.filterMap_cons_none e2]
      exact rps_pick r is
    | some d =>
      obtain ⟨u, A1, hu, ru, s⟩ := r.get0 e
      rw [List.filterMap_cons_some e, List.filterMap_cons_some hu]
      exact .cons0 (ru.up s) (rps_pick r is)
section
variable {X : Cx} {C : Ct} {a b c e : Expr} {lo hi : Option Expr} {se : Expr} {ta tb tc te : TE} {Ta Tb Tc Te : XE} {tl th ts : TO} {Tl Th Ts : XO} {pos p p2 : Pos} {K : Fg}
def tStp (K : Fg) (te : TE) (tl th ts : TO) : TE := fun σ H Q => te σ H fun x H1 => tl σ H1 fun l H2 => th σ H2 fun u H3 => ts σ H3 fun w H4 => w ≠ some 0 ∧ ∃ q xs, x = .ref q ∧ SqL K H4 q xs ∧ (stepL l u w xs).length ≤ sizeLine ∧ ∀ p, H4 p = none → Q (.ref p) (upd H4 p (.lst (stepL l u w xs)))
theorem pe_stp (he : PE X a ta) (hl : PO X lo tl) (hu : PO X hi th) (hs : PO X (some se) ts) : PE X (.Subscript a (.Slice lo hi (some se) p2) pos) (tStp X.K ta tl th ts) := by
  refine ⟨fun pins s σ H Q J hh => ?_⟩
  refine Subscript_ (thn (he.run pins s σ H _ J hh) fun v s1 ⟨x, H1, J1, r1, k1⟩ => ?_)
  refine wpAny_Slice (thn (hl.run pins s1 σ H1 _ J1 k1) fun vl s2 ⟨l, H2, J2, pl, k2⟩ => thn (hu.run pins s2 σ H2 _ J2 k2) fun vu s3 ⟨u, H3, J3, pu, k3⟩ => thn (hs.run pins s3 σ H3 _ J3 k3) fun vs s4 ⟨w, H4, J4, ps, k4⟩ => ?_)
  obtain ⟨hw, q, xs, rfl, hx, hz, k5⟩ := k4
  cases r1
  have J5 : Inv X pins σ H4 { s4 with heap := s4.heap.push { cls := .type "slice", data := .fields #[vl, vu, vs] } } := J4.kept (t' := s4.toks) fun b ob z => Heap.get?_push_of_some _ z
  show wpAny (model X.prog X.w) X.A (subscriptTail a (.Slice lo hi (some se) p2) (.ref q) (.ref s4.heap.objs.size)) (EP X pins σ Q) X.xe { s4 with heap := s4.heap.push { cls := .type "slice", data := .fields #[vl, vu, vs] } }
  obtain ⟨its, r, ht, hzz⟩ := J5.list hx
  have hlen := r.length
  refine tail_any (ops := [.ref q, .ref s4.heap.objs.size]) ht.isList.typeIs (PySem.slot_list_getitem.lookup) ?_ (by with_unfolding_all rfl)
  refine wpAny_getItem_list_slice ht.isList (Heap.IsSliceOf.new _ vl vu vs) pl pu ps hw ?_ (by rw [List.size_toArray]; omega)
  refine ⟨.ref _, _, J5.laid (t' := s4.toks) (o := .lst (stepL l u w xs)) (fun b ob z => Heap.get?_push_of_some _ z) (Nat.le_refl _) ?_, rfl, k5 _ (J5.hok.fresh (Nat.le_refl _))⟩
  exact ⟨hz, (slicePick its.toArray l u w).toList, 0, vals_step r l u w, by rw [Array.toArray_toList]; exact Heap.get?_push_size _ rfl⟩
def xStp (T : XE) (L U W : XO) : XE := ⟨fun ρ Q => T.f ρ fun d ρ1 => L.f ρ1 fun l ρ2 => U.f ρ2 fun u ρ3 => W.f ρ3 fun w ρ4 => w ≠ some 0 ∧ ∃ zs, (d = .frl zs ∨ d = .lst zs) ∧ (stepL l u w zs).length ≤ sizeLine ∧ Q (.own (stepL l u w zs)) ρ4,
  fun m q => T.mono (fun _ _ h => L.mono (fun _ _ h => U.mono (fun _ _ h => W.mono (fun _ _ ⟨h1, zs, h2, h3, h⟩ => ⟨h1, zs, h2, h3, m _ _ h⟩) h) h) h) q⟩
theorem ve_stp (ha : VE X C a ta Ta) (hl : VO X C lo tl Tl) (hu : VO X C hi th Th) (hs : VO X C (some se) ts Ts) : VE X C (.Subscript a (.Slice lo hi (some se) p2) pos) (tStp X.K ta tl th ts) (xStp Ta Tl Th Ts) := by
  refine ⟨pe_stp ha.pe hl.po hu.po hs.po, fun {N σ ρ H vs ds Q} R q => ha.se R (Ta.mono (fun d ρ1 h v N1 H1 R1 => ?_) q)⟩
  refine hl.so R1.park (Tl.mono (fun l ρ2 h N2 H2 R2 => hu.so R2 (Th.mono (fun u ρ3 h N3 H3 R3 => hs.so R3 (Ts.mono (fun w ρ4 h N4 H4 R4 => ?_) h)) h)) h)
  obtain ⟨h1, zs, h2, h3, fin⟩ := h
  obtain ⟨A, r⟩ := R4.cons.top1
  rcases h2 with rfl | rfl
  · obtain ⟨q, us, rfl, hq, rr⟩ := r
    have hl := rr.length
    have hi : (stepL l u w us).length = (stepL l u w zs).length := by
      have := (rps_pick rr (stepI l u w zs.length)).length
      unfold stepL
      rw [← hl]
      exact this.symm
    refine ⟨h1, q, us, rfl, hq.sq, by rw [hi]; exact h3, fun p np => fin _ _ _ (R4.cons.allocN np ?_)⟩
    unfold stepL
    rw [← hl]
    exact rps_pick rr _
  · obtain ⟨q, us, rfl, hq, _, rr⟩ := r
    have hl := rr.length
    have hi : (stepL l u w us).length = (stepL l u w zs).length := by
      have := (rps_pick rr (stepI l u w zs.length)).length
      unfold stepL
      rw [← hl]
      exact this.symm
    refine ⟨h1, q, us, rfl, .inl (.inl hq), by rw [hi]; exact h3, fun p np => fin _ _ _ (R4.cons.allocN np ?_)⟩
    unfold stepL
    rw [← hl]
    exact rps_pick rr _
end
end BV

/-! BV, part Z: instances: attributes, lists held by an attribute. -/
namespace BV
open PySem PySem.Spec PyProof.Rows L2
section
variable {K : Fg} {C : Ct} {N : AS} {σ : Sts} {ρ : Ev} {H : Hp} {vs : List V} {ds : List D}
/-- an attribute of an owned cell holds an owned list: it is written -/
theorem Rl.innerW {k : Kd} {i n : Nat} {zs ys : List D} (R : Rl K C N σ ρ H [] [] vs ds) (e : ρ[i]? = some (some (.ob k zs))) (ez : zs[n]? = some (.own ys)) :
    ∃ a us b ws, σ[i]? = some (some (.ref a)) ∧ H a = some (k.mk a us) ∧ us.length = zs.length ∧ us[n]? = some (.ref b) ∧ H b = some (.lst ws) ∧ (∃ B, Rps K N H ys ws B) ∧
      ∀ ws' gs, (∀ B3, Rps K N H ys ws B3 → Rps K N H gs ws' B3) → Ext K N H N (upd H b (.lst ws')) ∧ Rl K C N σ (ρ.set i (some (.ob k (zs.set n (.own gs))))) (upd H b (.lst ws')) [] [] vs ds := by
  obtain ⟨v2, e2, R1⟩ := R.lend e
  obtain ⟨A', B1, B2, hA, hh1, hh2, d1, d2, ow⟩ := R1.ex
  obtain ⟨v', vr', C1, C2, ev, rr1, rr2, t1, t2, dj⟩ := hh1
  cases ev
  obtain ⟨a, us, B', rfl, ha, hAa, hB', rrB⟩ := rr1
  obtain ⟨w, A3, hw, rz, g3⟩ := rrB.get0 ez
  obtain ⟨b, ws, B, rfl, hb, hAb, hB, rr⟩ := rz
  have hbB := hB' b (g3 b hAb)
  have nab : a ≠ b := fun z => hbB.2 z.symm
  have bB : B1 b := t1 b hbB.1
  have Nb : N b := (ow b (.inr (.inl bB))).1
  refine ⟨a, us, b, ws, e2, ha, rrB.length.symm, hw, hb, ⟨B, rr⟩, fun ws' gs hg => ?_⟩
  have x : Ext K N H N (upd H b (.lst ws')) := .write hb Nb
  have oth : ∀ y, y ≠ b → upd H b (.lst ws') y = H y := fun y z => upd_ne z
  obtain ⟨r5, hb5⟩ := Rps.inner (gs := gs) x oth n rrB ez hw fun A1 h => by
    obtain ⟨b', ws2, B5, eb, hb', q1, q2, q3⟩ := h
    cases eb
    rw [hb] at hb'
    cases hb'
    exact ⟨b, ws', B5, rfl, upd_same, q1, q2, (hg _ q3).keep x _ fun y z => oth y (q2 y z).2⟩
  have nz : ∀ y, H y ≠ none → upd H b (.lst ws') y ≠ none := fun y q => by
    by_cases z : y = b
    · rw [z, upd_same]; exact fun z => by cases z
    · rw [oth y z]; exact q
  have R2 : Rl K C N σ (ρ.set i none) (upd H b (.lst ws')) [.ref a] [.ob k (zs.set n (.own gs))] vs ds := by
    refine ⟨⟨A', B1, B2, hA.keep x fun y z => oth y fun w => (d1 y z).1 (w ▸ bB), ⟨.ref a, [], C1, C2, rfl, ⟨a, us, B', rfl, by rw [oth a nab]; exact ha, hAa, hB', r5⟩, rr2, t1, t2, dj⟩, hh2.keep x ds fun y z => oth y fun w => d2 b bB (w ▸ z), d1, d2, ow⟩,
      fun y z => nz y (R1.nh y z), R1.h0, R1.n0, fun y z n => ?_, R1.xt.trans x, R1.pr, fun y z => nz y (R1.dm y z)⟩
    refine (oth y fun w => ?_).trans (R1.fr y z n)
    rcases (ow b (.inr (.inl bB))).2 with u | u
    · exact n (w ▸ u)
    · exact R1.h0 y z (w ▸ u)
  have R3 := R2.give e2
  rw [List.set_set] at R3
  exact ⟨x, R3⟩
end
/-- f is the name at j, no name ahead of it -/
def lookIx : List Str → Nat → Str → Bool
  | n :: _, 0, f => decide (n = f)
  | n :: ns, j + 1, f => decide (n ≠ f) && lookIx ns j f
  | [], _, _ => false
theorem lookIx_ok {f : Str} : ∀ {ns : List Str} {j : Nat} {us : List V}, lookIx ns j f = true → us.length = ns.length → (ns.zip us).lookup f = us[j]?
  | [], _, _, h, _ => by cases h
  | n :: ns, 0, [], h, hl => by cases hl
  | n :: ns, 0, u :: us, h, hl => by
    have e : n = f := of_decide_eq_true h
    subst e
    simp [List.lookup]
  | n :: ns, j + 1, [], h, hl => by cases hl
  | n :: ns, j + 1, u :: us, h, hl => by
    obtain ⟨h1, h2⟩ := Bool.and_eq_true_iff.mp h
    have e : (f == n) = false := beq_eq_false_iff_ne.mpr fun z => (of_decide_eq_true h1) z.symm
    rw [List.zip_cons_cons, List.lookup_cons, e]
    exact lookIx_ok h2 (Nat.succ.inj hl)
theorem nolook_ok {f : Str} : ∀ {ns : List Str} {us : List V}, f ∉ ns → (ns.zip us).lookup f = none
  | [], _, _ => rfl
  | n :: ns, [], _ => rfl
  | n :: ns, u :: us, h => by
    have e : (f == n) = false := beq_eq_false_iff_ne.mpr fun z => h (z ▸ List.mem_cons_self)
    rw [List.zip_cons_cons, List.lookup_cons, e]
    exact nolook_ok fun z => h (List.mem_cons_of_mem _ z)
theorem putF_new {f : Str} {y : V} : ∀ {ns : List Str} {us : List V}, f ∉ ns → us.length = ns.length → putF f y (ns.zip us) = (ns ++ [f]).zip (us ++ [y])
  | [], [], _, _ => rfl
  | [], _ :: _, _, hl => by cases hl
  | n :: ns, [], _, hl => by cases hl
  | n :: ns, u :: us, h, hl => by
    have e : ¬ n = f := fun z => h (z ▸ List.mem_cons_self)
    show (if n = f then (n, y) :: ns.zip us else (n, u) :: putF f y (ns.zip us)) = _
    rw [if_neg e, putF_new (fun z => h (List.mem_cons_of_mem _ z)) (Nat.succ.inj hl)]
    rfl
theorem ins_nt {C dx : Addr} {ns : List Str} : (∀ a us vs, (Kd.ins C dx ns).mk a us ≠ .tup vs) ∧ ∀ a us o u, (Kd.ins C dx ns).mk a us ≠ .frz o u := ⟨fun a us vs z => HO.noConfusion (show HO.ins C dx (ns.zip us) = .tup vs from z), fun a us o u z => HO.noConfusion (show HO.ins C dx (ns.zip us) = .frz o u from z)⟩
section
variable {X : Cx} {C : Ct} {a b c e o : Expr} {es : List Expr} {ta tb tc te : TE} {Ta Tb Tc Te : XE} {pos p p2 apos cpos : Pos} {Cl : Addr} {NS : List Str} {f : Str}
/-! ### self.f, what owns nothing -/
def xFld (i : Nat) (Cl : Addr) (NS : List Str) (j : Nat) : XE := ⟨fun ρ Q => ∃ dx ds d, ρ[i]? = some (some (.ob (.ins Cl dx NS) ds)) ∧ ds.length = NS.length ∧ ds[j]? = some d ∧ d.sh = true ∧ Q d ρ, fun m ⟨dx, ds, d, h1, h2, h3, h4, q⟩ => ⟨dx, ds, d, h1, h2, h3, h4, m _ _ q⟩⟩
theorem ve_fld (i j : Nat) (ho : PE X o (tVar i)) (c : Cls X.K Cl) (n : NoAttr X.K Cl f) (hj : lookIx NS j f = true) (hb : attributeBase o f X.env (eval o X.env) = eval o X.env := by rfl) : VE X C (.Attribute o f pos) (tFld X.K (tVar i) f) (xFld i Cl NS j) := by
  refine ⟨pe_fld ho hb, fun {N σ ρ H vs ds Q} R q => ?_⟩
  obtain ⟨dx, fs, d, h1, h2, h3, h4, q⟩ := q
  obtain ⟨u, A, e1, r⟩ := R.any h1
  obtain ⟨a, us, B, rfl, ha, _, _, rr⟩ := r
  obtain ⟨w, A1, hw, rw1, _⟩ := rr.get0 h3
  refine ⟨_, e1, a, Cl, dx, NS.zip us, w, rfl, ha, c, n, ?_, q _ _ _ (R.res (rw1.share h4))⟩
  rw [lookIx_ok hj (by rw [← rr.length]; exact h2)]
  exact hw
/-! ### self.f = e, a new attribute -/
def xFAdd (i : Nat) (Cl : Addr) (NS : List Str) (f : Str) (T : XE) : XS := ⟨fun G ρ => T.f ρ fun d ρ1 => ∃ dx ds, ρ1[i]? = some (some (.ob (.ins Cl dx NS) ds)) ∧ ds.length = NS.length ∧ G.nx (ρ1.set i (some (.ob (.ins Cl dx (NS ++ [f])) (ds ++ [d])))),
  fun l q => T.mono (fun _ _ ⟨dx, ds, h1, h2, h⟩ => ⟨dx, ds, h1, h2, l.nx _ h⟩) q⟩
theorem vs_fadd (i : Nat) (ho : PE X o (tVar i)) (he : VE X C e te Te) (c : Cls X.K Cl) (n : NoAttr X.K Cl f) (hf : f ∉ NS) (hN : NS.length < 1000) (hs : swapsWith e (some (.Attribute o f p)) pos.line X.env = pure false := by rfl) :
    VS X C (.Assign [.Attribute o f p] e pos) (sFld X.K (tVar i) te f) (xFAdd i Cl NS f Te) := by
  refine ⟨ps_fld ho he.pe hs, fun {N σ ρ H vs ds E G} R q L => he.se R (Te.mono (fun d ρ1 q w N1 H1 R1 => ?_) q)⟩
  obtain ⟨dx, fs, h1, h2, q⟩ := q
  obtain ⟨u, e1, R2⟩ := R1.lendL h1
  obtain ⟨A, r⟩ := R2.fst
  obtain ⟨a, us, B, rfl, ha, _, _, rr⟩ := r
  obtain ⟨us2, hp2, hl2, _, wr⟩ := R2.writeK ins_nt.1 ins_nt.2
  refine ⟨_, e1, a, Cl, dx, NS.zip us2, rfl, hp2, c, n, by rw [List.length_zip]; omega, ?_⟩
  rw [putF_new hf (hl2.trans h2)]
  have R5 := (wr (k2 := .ins Cl dx (NS ++ [f])) (gs := fs ++ [d]) (zs := us2 ++ [w]) fun B1 B2 g1 g2 dj => ⟨_, Rps.append g1 g2 dj, fun _ z => z⟩).give e1
  rw [List.set_set] at R5
  exact L.nx _ _ _ _ R5 q
/-! ### lists held by an attribute -/
def xFApp (i : Nat) (Cl : Addr) (NS : List Str) (j n : Nat) : XE := ⟨fun ρ Q => ∃ dx ds zs d, ρ[i]? = some (some (.ob (.ins Cl dx NS) ds)) ∧ ds.length = NS.length ∧ ds[j]? = some (.own zs) ∧ ρ[n]? = some (some d) ∧ d.sh = true ∧ zs.length < sizeLine ∧ Q .non (ρ.set i (some (.ob (.ins Cl dx NS) (ds.set j (.own (zs ++ [d])))))),
  fun m ⟨dx, ds, zs, d, h1, h2, h3, h4, h5, h6, q⟩ => ⟨dx, ds, zs, d, h1, h2, h3, h4, h5, h6, m _ _ q⟩⟩
theorem ve_fapp (i j n : Nat) {f : Str} (c : Cls X.K Cl) (na : NoAttr X.K Cl f) (hj : lookIx NS j f = true) (hp : PE X (.Call (.Attribute (.Attribute o f p) "append" apos) [e] [] pos) (tBM X.K "list" rAppend (tFld X.K (tVar i) f) (tCons (tVar n) tNil))) :
    VE X C (.Call (.Attribute (.Attribute o f p) "append" apos) [e] [] pos) (tBM X.K "list" rAppend (tFld X.K (tVar i) f) (tCons (tVar n) tNil)) (xFApp i Cl NS j n) := by
  refine ⟨hp, fun {N σ ρ H vs ds Q} R q => ?_⟩
  obtain ⟨dx, fs, zs, d, h1, h2, h3, h4, h5, h6, q⟩ := q
  obtain ⟨y, A, e2, ry⟩ := R.any h4
  have ry := ry.share h5
  obtain ⟨a, us, b, ws, e1, ha, hl, hw, hb, ⟨B, rr⟩, wr⟩ := R.innerW h1 h3
  obtain ⟨x, R5⟩ := wr (ws ++ [y]) (zs ++ [d]) fun B3 r => (Rps.append r (show Rps X.K N H [d] [y] AS0 from .cons0 ry rfl) fun _ _ z => z).up fun _ z => z.elim id False.elim
  have hb2 := lookIx_ok hj (us := us) (hl.trans h2)
  refine ⟨_, e1, a, Cl, dx, NS.zip us, .ref b, rfl, ha, c, na, hb2.trans hw, .inl ⟨rfl, ws, .inl (.inl hb)⟩, y, e2, b, ws, y, rfl, rfl, hb, by rw [← rr.length]; exact h6, ?_⟩
  exact q _ _ _ (R5.res rfl)
def xFLen (i : Nat) (Cl : Addr) (NS : List Str) (j : Nat) : XE := ⟨fun ρ Q => ∃ dx ds zs, ρ[i]? = some (some (.ob (.ins Cl dx NS) ds)) ∧ ds.length = NS.length ∧ ds[j]? = some (.own zs) ∧ Q (.int (zs.length : Nat)) ρ,
  fun m ⟨dx, ds, zs, h1, h2, h3, q⟩ => ⟨dx, ds, zs, h1, h2, h3, m _ _ q⟩⟩
theorem ve_flen (i j : Nat) (ho : PE X o (tVar i)) (c : Cls X.K Cl) (na : NoAttr X.K Cl f) (hj : lookIx NS j f = true) (hg : Gl X "len") (hm : X.mg "len" = none) (hb : attributeBase o f X.env (eval o X.env) = eval o X.env := by rfl)
    (he : starEach [.Attribute o f p] X.env = (false, eval (.Attribute o f p) X.env) :: starEach [] X.env := by rfl) (hpl : (backTo pos (starEach [] X.env)).any (·.1) = false := by rfl) :
    VE X C (.Call (.Name "len" p2) [.Attribute o f p] [] pos) (tCB (fun xs H Q => ∃ x n, xs = [x] ∧ LenV X.K x H n ∧ Q (.int n) H) (tCons (tFld X.K (tVar i) f) tNil)) (xFLen i Cl NS j) := by
  refine ⟨pe_callB call_len hg hm PySem.boot_len (pa_cons (pe_fld ho hb) pa_nil he) (by decide) (by decide) he hpl, fun {N σ ρ H vs ds Q} R q => ?_⟩
  obtain ⟨dx, fs, zs, h1, h2, h3, q⟩ := q
  obtain ⟨a, us, b, ws, e1, ha, hl, hw, hb, ⟨B, rr⟩, _⟩ := R.innerW h1 h3
  exact ⟨_, e1, a, Cl, dx, NS.zip us, .ref b, rfl, ha, c, na, (lookIx_ok hj (us := us) (hl.trans h2)).trans hw, .ref b, zs.length, rfl, .inl ⟨ws, .inl (.inl hb), by rw [← rr.length]⟩, q _ _ _ (R.res rfl)⟩
def xFTup (i : Nat) (Cl : Addr) (NS : List Str) (j : Nat) : XE := ⟨fun ρ Q => ∃ dx ds zs, ρ[i]? = some (some (.ob (.ins Cl dx NS) ds)) ∧ ds.length = NS.length ∧ ds[j]? = some (.own zs) ∧ zs.all D.sh = true ∧ Q (.tup zs) ρ,
  fun m ⟨dx, ds, zs, h1, h2, h3, h4, q⟩ => ⟨dx, ds, zs, h1, h2, h3, h4, m _ _ q⟩⟩
theorem ve_ftup (i j : Nat) (ho : PE X o (tVar i)) (c : Cls X.K Cl) (na : NoAttr X.K Cl f) (hj : lookIx NS j f = true) (hg : Gl X "tuple") (hm : X.mg "tuple" = none) (hb : attributeBase o f X.env (eval o X.env) = eval o X.env := by rfl)
    (he : starEach [.Attribute o f p] X.env = (false, eval (.Attribute o f p) X.env) :: starEach [] X.env := by rfl) (hpl : (backTo pos (starEach [] X.env)).any (·.1) = false := by rfl) :
    VE X C (.Call (.Name "tuple" p2) [.Attribute o f p] [] pos) (tCB (fun xs H Q => ∃ p ys, xs = [.ref p] ∧ ((SqL X.K H p ys ∧ ∀ l, H l = none → Q (.ref l) (upd H l (.tup ys))) ∨ (SqT X.K H p ys ∧ Q (.ref p) H))) (tCons (tFld X.K (tVar i) f) tNil)) (xFTup i Cl NS j) := by
  refine ⟨pe_callTy call_tuple_of hg hm (by decide +kernel) (pa_cons (pe_fld ho hb) pa_nil he) (by decide) (by decide) he hpl, fun {N σ ρ H vs ds Q} R q => ?_⟩
  obtain ⟨dx, fs, zs, h1, h2, h3, h4, q⟩ := q
  obtain ⟨a, us, b, ws, e1, ha, hl, hw, hb, ⟨B, rr⟩, _⟩ := R.innerW h1 h3
  exact ⟨_, e1, a, Cl, dx, NS.zip us, .ref b, rfl, ha, c, na, (lookIx_ok hj (us := us) (hl.trans h2)).trans hw, b, ws, rfl, .inl ⟨.inl (.inl hb), fun l nl => q _ _ _ (R.newTup nl (rr.share h4))⟩⟩
/-- self.f[n] = v -/
def xFSet (i : Nat) (Cl : Addr) (NS : List Str) (j n : Nat) : XG := ⟨fun d ρ Q => ∃ dx ds zs k m, ρ[i]? = some (some (.ob (.ins Cl dx NS) ds)) ∧ ds.length = NS.length ∧ ds[j]? = some (.own zs) ∧ ρ[n]? = some (some (.int k)) ∧ d.sh = true ∧ ixN zs.length k = some m ∧ Q (ρ.set i (some (.ob (.ins Cl dx NS) (ds.set j (.own (zs.set m d)))))),
  fun m ⟨dx, ds, zs, k, l, h1, h2, h3, h4, h5, h6, q⟩ => ⟨dx, ds, zs, k, l, h1, h2, h3, h4, h5, h6, m _ q⟩⟩
theorem vg_fset (i j n : Nat) (ho : PE X o (tVar i)) (hi : PE X e (tVar n)) (c : Cls X.K Cl) (na : NoAttr X.K Cl f) (hj : lookIx NS j f = true) (hb : attributeBase o f X.env (eval o X.env) = eval o X.env := by rfl) (ha : ∀ v, assign (.Subscript (.Attribute o f p) e pos) X.env v = (do
      let ov ← holding [v] (eval (.Attribute o f p) X.env)
      let iv ← holding [v, ov] (eval e X.env)
      standAt pos
      holding [v, ov, iv] (setItem ov iv v)
      release [v, ov, iv] []) := by intro _; rfl) : VG X C (.Subscript (.Attribute o f p) e pos) (gSub (tFld X.K (tVar i) f) (tVar n) rSetL) (xFSet i Cl NS j n) := by
  refine ⟨pg_sub (pe_fld ho hb) hi set_list ha, fun {N σ ρ H v d vs ds Q} R q => ?_⟩
  obtain ⟨dx, fs, zs, k, m, h1, h2, h3, h4, h5, h6, q⟩ := q
  obtain ⟨A, rv⟩ := R.top1
  have rv := rv.share h5
  have R1 := R.park
  obtain ⟨y, A2, e2, ry⟩ := R1.any h4
  cases (show y = .int k from ry)
  obtain ⟨a, us, b, ws, e1, ha, hl, hw, hb, ⟨B, rr⟩, wr⟩ := R1.innerW h1 h3
  obtain ⟨x, R5⟩ := wr (ws.set m v) (zs.set m d) fun B3 r => (Rps.set rv m r fun _ _ z => z).up fun _ z => z.elim id False.elim
  refine ⟨_, e1, a, Cl, dx, NS.zip us, .ref b, rfl, ha, c, na, (lookIx_ok hj (us := us) (hl.trans h2)).trans hw, _, e2, b, ws, k, m, rfl, rfl, hb, by rw [← rr.length]; exact h6, ?_⟩
  exact q _ _ _ (R5.cons.drop)
end
end BV

/-! BV, part ZM: methods, instances made. -/
namespace BV
open PySem PySem.Spec PyProof.Rows L2
section
variable {K : Fg} {C : Ct} {N : AS} {σ : Sts} {ρ : Ev} {H : Hp} {xs vs : List V} {fs ds : List D}
/-- what the callee's promise asks: the value parked, the outs in hand -/
theorem call_ok2 {n : Nat} {ios : List Nat} {F : FS} {Q : VK} {E : XK} (R : Rl K C N σ ρ H xs fs vs ds) (hl : xs.length = n)
    (h : F.f fs fun r outs => ∀ v us N' H', (ios.map fun i => xs[i]?) = us.map some → Rl K C N' σ ρ H' us outs (v :: vs) (r :: ds) → Q v H') : spOf K n ios F xs H Q E := by
  obtain ⟨A, B1, B2, hA, h1, h2, d1, d2, ow⟩ := id R.ex
  refine ⟨hl, N, B1, fs, h1, fun x q => (ow x (.inr (.inl q))).1, R.nh, F.mono (fun r outs q v N' H' ⟨A1, A2, r1, ⟨us, hu, r2⟩, dj, own⟩ nh nk fr xt dm => ?_) h⟩
  have kA : ∀ y, A y → H' y = H y := fun y z => fr y (ow y (.inl z)).1 (d1 y z).1
  have kB : ∀ y, B2 y → H' y = H y := fun y z => fr y (ow y (.inr (.inr z))).1 (fun w => d2 y w z)
  have nA : ∀ y, A y → N' y := fun y z => nk y (ow y (.inl z)).1 (d1 y z).1
  have nB : ∀ y, B2 y → N' y := fun y z => nk y (ow y (.inr (.inr z))).1 (fun w => d2 y w z)
  have notA : ∀ y, (A1 y ∨ A2 y) → ¬ A y ∧ ¬ B2 y := fun y z => by
    rcases (own y z).2 with w | w
    · exact ⟨fun u => (d1 y u).1 w, d2 y w⟩
    · exact ⟨fun u => R.nh y (ow y (.inl u)).1 w, fun u => R.nh y (ow y (.inr (.inr u))).1 w⟩
  have frA : ∀ y, (A1 y ∨ A2 y) → C.A0 y ∨ C.H0 y = none := fun y z => by
    rcases (own y z).2 with w | w
    · exact (ow y (.inr (.inl w))).2
    · refine .inr ?_
      cases e0 : C.H0 y with
      | none => rfl
      | some o => exact absurd w (R.dm y (by rw [e0]; exact fun z => by cases z))
  refine q v us N' H' hu ?_
  refine ⟨⟨A, A2, fun y => A1 y ∨ B2 y, hA.keep xt kA, r2, ⟨v, vs, A1, B2, rfl, r1, h2.keep xt ds kB, fun _ z => .inl z, fun _ z => .inr z, fun y z => (notA y (.inl z)).2⟩, fun y z => ⟨fun w => (notA y (.inr w)).1 z, fun w => ?_⟩, fun y z w => ?_, fun y z => ?_⟩,
    nh, R.h0, fun y z n => ?_, fun y z n => ?_, R.xt.trans xt, R.pr, fun y z => dm y (R.dm y z)⟩
  · rcases w with w | w
    · exact (notA y (.inl w)).1 z
    · exact (d1 y z).2 w
  · rcases w with w | w
    · exact dj y w z
    · exact (notA y (.inr z)).2 w
  · rcases z with z | z | z | z
    · exact ⟨nA y z, (ow y (.inl z)).2⟩
    · exact ⟨(own y (.inr z)).1, frA y (.inr z)⟩
    · exact ⟨(own y (.inl z)).1, frA y (.inl z)⟩
    · exact ⟨nB y z, (ow y (.inr (.inr z))).2⟩
  · refine nk y (R.n0 y z n) fun w => ?_
    rcases (ow y (.inr (.inl w))).2 with u | u
    · exact n u
    · exact R.h0 y z u
  · refine (fr y (R.n0 y z n) fun w => ?_).trans (R.fr y z n)
    rcases (ow y (.inr (.inl w))).2 with u | u
    · exact n u
    · exact R.h0 y z u
/-- a new cell ahead of what was reckoned -/
theorem Rl.allocI {k : Kd} {q : Addr} (R : Rl K C N σ ρ H xs fs vs ds) (np : H q = none) : Rl K C (fun y => N y ∨ y = q) σ ρ (upd H q (k.mk q [])) (.ref q :: xs) (.ob k [] :: fs) vs ds := by
  obtain ⟨A, B1, B2, hA, h1, h2, d1, d2, ow⟩ := R.ex
  have x : Ext K N H (fun y => N y ∨ y = q) (upd H q (k.mk q [])) := .alloc np fun _ z => z
  have ne : ∀ y, N y → upd H q (k.mk q []) y = H y := fun y z => upd_ne fun w => R.nh y z (w ▸ np)
  have nz : ∀ y, H y ≠ none → upd H q (k.mk q []) y ≠ none := fun y z => by
    by_cases w : y = q
    · exact absurd (w ▸ np) z
    · rw [upd_ne w]; exact z
  have nN : ¬ N q := fun z => R.nh q z np
  have h0 : C.H0 q = none := by
    cases e : C.H0 q with
    | none => rfl
    | some o => exact absurd np (R.dm q (by rw [e]; exact fun z => by cases z))
  refine ⟨⟨A, fun y => B1 y ∨ y = q, B2, hA.keep x fun b z => ne b (ow b (.inl z)).1, ⟨.ref q, xs, fun y => y = q, B1, rfl, ⟨q, [], AS0, rfl, upd_same, rfl, fun _ z => z.elim, rfl⟩, h1.keep x fs fun b z => ne b (ow b (.inr (.inl z))).1, fun _ z => .inr z, fun _ z => .inl z, fun y z w => nN (z ▸ (ow y (.inr (.inl w))).1)⟩,
    h2.keep x ds fun b z => ne b (ow b (.inr (.inr z))).1, fun y z => ⟨fun w => ?_, (d1 y z).2⟩, fun y z w => ?_, fun y z => ?_⟩, fun y z => ?_, R.h0, fun y z n => .inl (R.n0 y z n), fun y z n => (ne y (R.n0 y z n)).trans (R.fr y z n), R.xt.trans x, R.pr, fun y z => nz y (R.dm y z)⟩
  · rcases w with w | w
    · exact (d1 y z).1 w
    · exact nN (w ▸ (ow y (.inl z)).1)
  · rcases z with z | z
    · exact d2 y z w
    · exact nN (z ▸ (ow y (.inr (.inr w))).1)
  · rcases z with z | (z | z) | z
    · exact ⟨.inl (ow y (.inl z)).1, (ow y (.inl z)).2⟩
    · exact ⟨.inl (ow y (.inr (.inl z))).1, (ow y (.inr (.inl z))).2⟩
    · exact ⟨.inr z, .inr (z ▸ h0)⟩
    · exact ⟨.inl (ow y (.inr (.inr z))).1, (ow y (.inr (.inr z))).2⟩
  · rcases z with z | z
    · exact nz y (R.nh y z)
    · rw [z, upd_same]; exact fun z => by cases k <;> cases z
end
/-- a method of the class at Cl that keeps a promise by values -/
structure OkM (P : Program) (w : World) (K : Fg) (mg : Str → Option Value) (base : Heap) (k : Nat) (Cl : Addr) (m : Str) (ps : List Str) (n : Nat) (ios : List Nat) (F : FS) : Prop where
  ex : ∃ (f : Addr) (fd : FuncData), Meth K Cl m f ∧ Binds K fd ps [] ∧ FnOk P w K mg base CX0 k f fd ps (spOf K n ios F)
theorem OkM.mono {P : Program} {w : World} {K : Fg} {mg : Str → Option Value} {base : Heap} {j k : Nat} {Cl : Addr} {m : Str} {ps : List Str} {n : Nat} {ios : List Nat} {F : FS} (G : OkM P w K mg base j Cl m ps n ios F) (h : j ≤ k) : OkM P w K mg base k Cl m ps n ios F := by
  obtain ⟨f, fd, a, b, c⟩ := G.ex
  exact ⟨f, fd, a, b, c.mono h⟩
abbrev FnM (K : Fg) (x q : Str) (st : Stmt) (f : Addr) (fd : FuncData) : Prop := FunD K x q (defArgs st) (defBody st) (defScope st) [] [] f fd
theorem okm_mk {P : Program} {w : World} {K : Fg} {mg : Str → Option Value} {base : Heap} {Cl : Addr} {m q : Str} {st : Stmt} {f : Addr} {fd : FuncData} {Nm ps : List Str} {k n : Nat} {ios : List Nat} {F : FS} (Fn : FnM K m q st f fd) (hm : Meth K Cl m f) (S : FnScope Nm ps (defScope st)) (hn : ps.length = n) (nd : ios.Nodup) (hi : ∀ i ∈ ios, i < n)
    (b1 : ∀ (kV doc pm : Value) (an : Option Addr) (cdv ct : Value) (us : List Value), us.length = ps.length → bindArgs (PySem.W.fnOf m q (defArgs st) (defBody st) (defScope st) .none kV doc pm an cdv ct) ⟨us, []⟩ = pure (ps.zip us))
    (hbody : ∀ (cdv : Value) (A : Around) (outer : List Env) (s : Shared) (H : Hp) (E : XK) (C : Ct), (∀ p ∈ C.prot, p.1 ∈ ios) → Room k (A.deeper (envOfC q (defScope st) s.heap.objs.size f cdv)) →
      ∃ t T, VB (cxOf CX0 P w K mg base Nm q (defScope st) f cdv A outer s H E).nox C (defBody st) t T ∧
        ∀ (ds : List D) (Q : D → List D → Prop), F.f ds Q → T.f { nx := fun ρ => ∃ outs, outsOf ios ρ = outs.map some ∧ Q .non outs, rt := fun r ρ => ∃ outs, outsOf ios ρ = outs.map some ∧ Q r outs, bk := fun _ => False, ct := fun _ => False } (ds.map some ++ List.replicate (Nm.length - n) none)) :
    OkM P w K mg base (k + 1) Cl m ps n ios F := by
  refine ⟨f, fd, hm, Fn.bindsN b1, ?_⟩
  obtain ⟨oc, od, dV, kV, doc, pm, an, cdv, ct, osl, rfl, lk, hcd, hD, hK⟩ := Fn.ex
  rcases hD with ⟨_, rfl⟩ | ⟨e, _⟩
  · exact fn_ok ⟨⟨oc, od, kV, doc, pm, an, cdv, ct, osl, rfl, lk, hcd⟩, Fn.kp⟩ S hn nd hi hbody
  · exact absurd rfl e
section
variable {X : Cx} {C : Ct} {a b c e o : Expr} {es : List Expr} {ta tb tc te : TE} {Ta Tb Tc Te : XE} {pos p p2 apos cpos : Pos} {Cl : Addr} {NS : List Str} {tr : TA} {Tr : XA} {sl : List (Option Nat)}
/-- o.m(..), o a slot that is lent when the arguments are known -/
def xMeth (F : FS) (ss : List (Option Nat)) (i : Nat) (Cl : Addr) (NS : List Str) (T : XA) : XE := ⟨fun ρ Q => (∃ dx ds, ρ[i]? = some (some (.ob (.ins Cl dx NS) ds))) ∧ (xCall F ss (xLendL i T)).f ρ Q, fun m ⟨h, q⟩ => ⟨h, (xCall F ss (xLendL i T)).mono m q⟩⟩
theorem vm_call {ss : List (Option Nat)} {k : Nat} {ps : List Str} {n : Nat} {ios : List Nat} {F : FS} {m : Str} (i : Nat) (G : OkM X.prog X.w X.K X.mg X.base k Cl m ps n ios F) (hm : m ∉ NS) (ha : VA X C (e :: es) sl tr Tr)
    (hp : ∀ {f : Addr} {fd : FuncData}, Meth X.K Cl m f → FnOk X.prog X.w X.K X.mg X.base CX0 k f fd ps (spOf X.K n ios F) → Binds X.K fd ps [] → PA X (e :: es) tr → PE X (.Call (.Attribute o m apos) (e :: es) [] pos) (tMeth Cl m (spOf X.K n ios F) [] E0 (tVar i) tr))
    (hss : (ios.map fun k => ((some i :: sl)[k]?).getD none) = ss := by rfl) (hn : (some i :: sl).length = n := by rfl) (hi : ∀ i ∈ ios, i < n := by decide) :
    VE X C (.Call (.Attribute o m apos) (e :: es) [] pos) (tMeth Cl m (spOf X.K n ios F) [] E0 (tVar i) tr) (xMeth F ss i Cl NS Tr) := by
  obtain ⟨f, fd, h1, h2, h3⟩ := G.ex
  refine ⟨hp h1 h3 h2 ha.pa, fun {N σ ρ H vs ds Q} R q => ?_⟩
  obtain ⟨⟨dx, fs0, h0⟩, _, q⟩ := q
  obtain ⟨v, A, e1, r⟩ := R.any h0
  obtain ⟨u, us, B, rfl, hu, _, _, _⟩ := r
  refine ⟨_, e1, u, dx, NS.zip us, rfl, hu, nolook_ok hm, ha.sa R (Tr.mono (fun fs ρ2 h xs N2 H2 R2 L => ?_) q)⟩
  obtain ⟨d, e2, h⟩ := h
  obtain ⟨v', e3, R3⟩ := R2.lendL e2
  rw [e1] at e3
  cases e3
  rw [List.append_nil]
  rw [← hss] at h
  refine call_ok (sl := some i :: sl) R3 ⟨congrArg (· + 1) L.len, fun k j hk => ?_⟩ hn hi h
  cases k with
  | zero =>
    cases (show some (some i) = some (some j) from hk)
    exact ⟨.ref u, rfl, e1⟩
  | succ k => exact L.at_ k j hk
/-- C(..): a new instance -/
def xMake (F : FS) (Cl : Addr) (T : XA) : XE := ⟨fun ρ Q => T.f ρ fun fs ρ1 => ∀ dx, F.f (.ob (.ins Cl dx []) [] :: fs) fun r outs => ∃ z, r = .non ∧ outs = [z] ∧ Q z ρ1,
  fun m q => T.mono (fun _ _ h dx => F.mono (fun _ _ ⟨z, h1, h2, h3⟩ => ⟨z, h1, h2, m _ _ h3⟩) (h dx)) q⟩
theorem vm_make {k : Nat} {ps : List Str} {n : Nat} {F : FS} {x : Str} (G : OkM X.prog X.w X.K X.mg X.base k Cl "__init__" ps n [0] F) (ha : VA X C (e :: es) sl tr Tr) (hn : sl.length + 1 = n)
    (hp : ∀ {f : Addr} {fd : FuncData}, Meth X.K Cl "__init__" f → FnOk X.prog X.w X.K X.mg X.base CX0 k f fd ps (spOf X.K n [0] F) → Binds X.K fd ps [] → PA X (e :: es) tr → PE X (.Call (.Name x p) (e :: es) [] pos) (tMake Cl (spOf X.K n [0] F) [] E0 tr)) :
    VE X C (.Call (.Name x p) (e :: es) [] pos) (tMake Cl (spOf X.K n [0] F) [] E0 tr) (xMake F Cl Tr) := by
  obtain ⟨f, fd, h1, h2, h3⟩ := G.ex
  refine ⟨hp h1 h3 h2 ha.pa, fun {N σ ρ H vs ds Q} R q => ha.sa R (Tr.mono (fun fs ρ1 h xs N1 H1 R1 L => ?_) q)⟩
  intro y dx hy hdx hne
  have R2 : Rl X.K C N1 σ ρ1 (upd H1 dx (.own y)) xs fs vs ds := R1.alloc hdx
  have hy2 : upd H1 dx (.own y) y = none := by rw [upd_ne (Ne.symm hne)]; exact hy
  have R3 := R2.allocI (k := .ins Cl dx []) hy2
  rw [List.append_nil]
  refine call_ok2 R3 (by rw [List.length_cons]; have := L.len; omega) (F.mono (fun r outs ⟨z, hr, ho, q⟩ v us N' H' hu R4 => ?_) (h dx))
  subst hr ho
  have eu : us = [.ref y] := by
    cases us with
    | nil => cases hu
    | cons u us =>
      have h5 := List.cons.inj hu
      cases us with
      | nil => cases h5.1; rfl
      | cons _ _ => cases h5.2
  subst eu
  obtain ⟨A, rv⟩ := R4.waits (us := []) (fs := []) rfl
  exact ⟨rv, q _ _ _ R4.under⟩
end
end BV

/-! BV, part ZR: repr of data, where no repr is under way. -/
namespace BV
open PySem PySem.Spec PyProof.Rows L2
def rRepr (K : Fg) : List V → Hp → VK → Prop := fun xs H Q => ∃ (a : Addr) (d : PyData), xs = [.ref a] ∧ Dp K H (.ref a) d ∧ d.showable = true ∧ d.hasDict = false ∧ d.depth ≤ 60 ∧ d.shown.length ≤ sizeLine ∧ Q (.str d.shown) H
theorem cr_repr {X : Cx} (hgd : X.A.guards = some []) (hu : X.A.units + 64 < cLine) : CallR X (.builtin "repr") (rRepr X.K) := by
  intro pins s σ H xs us Q J rr hh
  obtain ⟨a, d, rfl, hd, h1, h2, h3, h4, k⟩ := hh
  obtain ⟨u, rfl, ru⟩ := vals1 rr
  cases ru
  obtain ⟨as, rd⟩ := Dp.reads J d _ _ hd rfl
  refine repr_of_reads' rd h1 (PyData.noDict_hsm h2) hgd (by omega) (fun _ _ e => e) (fun h' u tk hk => ?_) h4
  exact ⟨.str d.shown, H, J.kept (t' := tk) hk, ⟨u, rfl⟩, k⟩
section
variable {X : Cx} {C : Ct} {a : Expr} {ta : TE} {Ta : XE} {pos p : Pos}
def xRepr (T : XE) : XE := ⟨fun ρ Q => T.f ρ fun d ρ' => d.pl = true ∧ d.isTup = true ∧ d.py.showable = true ∧ d.py.hasDict = false ∧ d.py.depth ≤ 60 ∧ d.py.shown.length ≤ sizeLine ∧ Q (.str d.py.shown) ρ', fun m q => T.mono (fun _ _ ⟨h0, h, h1, h2, h3, h4, q⟩ => ⟨h0, h, h1, h2, h3, h4, m _ _ q⟩) q⟩
theorem ve_repr (hgd : X.A.guards = some []) (hu : X.A.units + 64 < cLine) (ha : VE X C a ta Ta) (hg : Gl X "repr") (hm : X.mg "repr" = none) (he : starEach [a] X.env = (false, eval a X.env) :: starEach [] X.env := by rfl) (hpl : (backTo pos (starEach [] X.env)).any (·.1) = false := by rfl) :
    VE X C (.Call (.Name "repr" p) [a] [] pos) (tCB (rRepr X.K) (tCons ta tNil)) (xRepr Ta) := by
  refine ⟨pe_callB (cr_repr hgd hu) hg hm (by decide +kernel) (pa_cons ha.pe pa_nil he) (by decide) (by decide) he hpl, fun {N σ ρ H vs ds Q} R q => ha.se R (Ta.mono (fun d ρ1 h v N1 H1 R1 => ?_) q)⟩
  obtain ⟨h0, hT, h1, h2, h3, h4, k⟩ := h
  obtain ⟨A, r⟩ := R1.top1
  have hd := Rp.dp d r h0
  obtain ⟨q, hq⟩ : ∃ q, v = .ref q := by
    cases d with
    | tup xs => obtain ⟨q, us, e, _⟩ := r; exact ⟨q, e⟩
    | fz kd xs =>
      cases kd with
      | tpl => obtain ⟨q, us, e, _⟩ := r; exact ⟨q, e⟩
      | _ => cases hT
    | _ => cases hT
  subst hq
  exact ⟨q, d.py, rfl, hd, h1, h2, h3, h4, k _ _ _ (R1.res rfl)⟩
/-! ### i += e of numbers -/
def xAug (g : Int → Int → Int) (i : Nat) (T : XE) : XS := ⟨fun G ρ => (∃ x : Int, ρ[i]? = some (some (.int x))) ∧ T.f ρ fun d ρ1 => ∃ x y : Int, ρ1[i]? = some (some (.int x)) ∧ d = .int y ∧ G.nx (ρ1.set i (some (.int (g x y)))),
  fun l ⟨h, q⟩ => ⟨h, T.mono (fun _ _ ⟨x, y, h1, h2, h⟩ => ⟨x, y, h1, h2, l.nx _ h⟩) q⟩⟩
theorem vs_aug {g : Int → Int → Int} {op : Operator} {i : Nat} {x : Str} {ios : List Nat} {pos' : Pos} (hN : X.N.Nodup) (hi : X.N[i]? = some x) (hx : Loc X.env.scope x) (ha : VE X C a ta Ta) (ho : PIp X op (ipI g)) (hC : ∀ p ∈ C.prot, p.1 ∈ ios) (hio : i ∉ ios := by decide) (hf : X.fn x = true ∨ X.env.scope.names.lookup x = some .local := by first | exact .inl rfl | exact .inr rfl | assumption) :
    VS X C (.AugAssign (.Name x pos') op a pos) (tAug i ta (ipI g)) (xAug g i Ta) := by
  refine ⟨ps_aug hN hi hx ha.pe ho hf, fun {N σ ρ H vs ds E G} R q L => ?_⟩
  obtain ⟨⟨x0, h0⟩, q⟩ := q
  obtain ⟨v, A, e1, r⟩ := R.any h0
  refine ⟨v, e1, ha.se R (Ta.mono (fun d ρ1 h w N1 H1 R1 => ?_) q)⟩
  obtain ⟨x1, y1, h1, rfl, q⟩ := h
  obtain ⟨v', A', e2, r'⟩ := R1.any h1
  rw [e1] at e2
  cases e2
  obtain ⟨A2, rw2⟩ := R1.top1
  refine ⟨x1, y1, r', rw2, ?_⟩
  exact L.nx _ _ _ _ ((R1.res (v := .int (g x1 y1)) (d := .int (g x1 y1)) rfl).storeA (notProt hC hio)) q
end
end BV

/-! BV, part ZT: the law's own frame, at the known place of the stack. -/
namespace BV
open PySem PySem.Spec PyProof.Rows L2
section
variable {P : Program} {w : World} {K : Fg} {mg : Str → Option Value} {base : Heap}
theorem run_at {f : Addr} {x qual : Str} {st : Stmt} {fd : FuncData} {Nm ps : List Str} {k : Nat} (Fn : Fun K x qual st f fd) (S : FnScope Nm ps (defScope st)) {A : Around} {outer : List Env} {s : Shared} {H : Hp} {ar : Args} {us : List Value} {vs : List V} {Q : VK} {E : XK}
    (room : Room (k + 1) A) (env : Env0 P w K mg base A outer s H) (bd : BindsTo s fd ar (ps.zip us)) (rel : Vals vs us) (len : vs.length = ps.length)
    (body : ∀ cdv : Value, ∃ t, PSs (cxOf CX0 P w K mg base Nm qual (defScope st) f cdv A outer s H E) (defBody st) t ∧ t { nx := fun _ H' => Q .non H', rt := Q } (L2.start Nm vs) H) :
    codeAny (model P w) A (.call (.ref f) ar) (CR CX0 outer P w H s Q E) s := by
  obtain ⟨⟨oc, od, kV, doc, pm, an, cdv, ct, osl, rfl, lk, hcd⟩, kp⟩ := Fn
  have inK : K.In s.heap := env.mod.kin.keeps fun c u z => (env.bs c u z).1
  have nolim : s.heap.NoLimit := env.mod.nolimit.keeps fun c u z => (env.bs c u z).1
  refine codeAny_call_function room.depth (inK _ _ lk) rfl S.co S.gen rfl (PySem.W.codeRec_of inK hcd) (bd _ _ _ _ ?_)
  refine wpAny_newFunctionEnv_cells S.kind (fun y hy => ?_) fun e1 he1 s2 in2 => ?_
  · obtain ⟨n, v⟩ := y
    rcases S.par n (List.of_mem_zip hy).1 with loc | cel
    · exact Or.inl loc
    · exact Or.inr ⟨cel, PySem.W.cellsFrom_some _ _ _ (Or.inl cel)⟩
  · subst he1
    refine ⟨nolim.keeps in2.toInCall.keep, codeAny_func ?_⟩
    obtain ⟨t, ht, go⟩ := body cdv
    have J : Inv (cxOf CX0 P w K mg base Nm qual (defScope st) f cdv A outer s H E) [] (L2.start Nm vs) H s2 := inv_start S room.hd env len rel in2
    have done : ∀ {σ' : Sts} {H' : Hp} {v : V} {u : Value} {s' : Shared}, Inv (cxOf CX0 P w K mg base Nm qual (defScope st) f cdv A outer s H E) [] σ' H' s' → RelV v u → Q v H' → CE outer P w H s Q u s' := fun {_ H' v _ _} J' rv q' => ⟨v, H', J'.os, J'.bare, J'.base, J'.hok, rv, q'⟩
    refine wpAny_mono (ht.run [] s2 (L2.start Nm vs) H _ J go) (fun fl s' hs => ?_) fun _ _ z => z
    match fl, hs with
    | .ret u, ⟨v, σ', H', J', rv, q'⟩ => exact done J' rv q'
    | .next, ⟨σ', H', J', q'⟩ => exact done (v := V.non) (u := Value.none) J' rfl q'
    | .brk, ⟨_, _, _, q'⟩ => exact q'.elim
    | .cont, ⟨_, _, _, q'⟩ => exact q'.elim
theorem body_at {qual : Str} {st : Stmt} {f : Addr} {Nm : List Str} {n : Nat} {ios : List Nat} {F : FS} {cdv : Value} {A : Around} {outer : List Env} {s : Shared} {H : Hp} {vs : List V} {Q : VK} {E : XK} (nd : ios.Nodup) (hi : ∀ i ∈ ios, i < n) (h : spOf K n ios F vs H Q E)
    (hbody : ∀ C : Ct, (∀ p ∈ C.prot, p.1 ∈ ios) → ∃ t T, VB (cxOf CX0 P w K mg base Nm qual (defScope st) f cdv A outer s H E).nox C (defBody st) t T ∧
        ∀ (ds : List D) (Q : D → List D → Prop), F.f ds Q → T.f { nx := fun ρ => ∃ outs, outsOf ios ρ = outs.map some ∧ Q .non outs, rt := fun r ρ => ∃ outs, outsOf ios ρ = outs.map some ∧ Q r outs, bk := fun _ => False, ct := fun _ => False } (ds.map some ++ List.replicate (Nm.length - n) none)) :
    ∃ t, PSs (cxOf CX0 P w K mg base Nm qual (defScope st) f cdv A outer s H E).nox (defBody st) t ∧ t { nx := fun _ H' => Q .non H', rt := Q } (L2.start Nm vs) H := by
  obtain ⟨hl, N, A0, ds, r, hA, hN, h⟩ := h
  obtain ⟨t, T, VV, hT⟩ := hbody ⟨H, N, A0, ios.map fun i => (i, (vs[i]?).getD .non)⟩ (fun p hp => by
    obtain ⟨i, hi, e⟩ := List.mem_map.mp hp
    rw [← e]
    exact hi)
  refine ⟨t, VV.ps, ?_⟩
  have prs : ∀ p ∈ ios.map fun i => (i, (vs[i]?).getD .non), (L2.start Nm vs)[p.1]? = some (some p.2) := fun p hp => by
    obtain ⟨i, hi', e⟩ := List.mem_map.mp hp
    subst e
    have il : i < vs.length := by rw [hl]; exact hi i hi'
    show (vs.map some ++ _)[i]? = some (some ((vs[i]?).getD .non))
    rw [List.getElem?_append_left (by rw [List.length_map]; exact il), List.getElem?_map, List.getElem?_eq_getElem il]
    rfl
  have R0 : Rl K ⟨H, N, A0, ios.map fun i => (i, (vs[i]?).getD .non)⟩ N (L2.start Nm vs) (ds.map some ++ List.replicate (Nm.length - n) none) H [] [] [] [] := by
    refine ⟨⟨A0, AS0, AS0, ?_, rfl, rfl, fun _ _ => ⟨fun z => z, fun z => z⟩, fun _ z => z.elim, fun x z => ?_⟩, hN, hN, fun _ z _ => z, fun _ _ _ => rfl, .refl, prs, fun _ z => z⟩
    · unfold L2.start
      rw [← hl]
      exact Sl.start _ r
    · rcases z with z | z | z
      · exact ⟨hA x z, .inl z⟩
      · exact z.elim
      · exact z.elim
  refine VV.ss R0 (hT ds _ h) ?_
  have fin : ∀ {v : V} {d : D} {σ : Sts} {ρ : Ev} {H' : Hp} {N' : AS} {outs : List D}, Rl K ⟨H, N, A0, ios.map fun i => (i, (vs[i]?).getD .non)⟩ N' σ ρ H' [v] [d] [] [] → outsOf ios ρ = outs.map some →
      (∀ v N' H', (∃ A1 A2, Rp K N' H' d v A1 ∧ Outs K N' H' ios vs outs A2 ∧ (∀ x, A1 x → ¬ A2 x) ∧ (∀ x, A1 x ∨ A2 x → N' x ∧ (A0 x ∨ H x = none))) →
        (∀ x, N' x → H' x ≠ none) → (∀ x, N x → ¬ A0 x → N' x) → (∀ x, N x → ¬ A0 x → H' x = H x) → Ext K N H N' H' → (∀ x, H x ≠ none → H' x ≠ none) → Q v H') → Q v H' := fun {v d σ ρ H' N' outs} R ho q => by
    obtain ⟨A, B1, B2, hA', h1, h2, d1, d2, ow⟩ := id R.ex
    obtain ⟨v', vr, A1, A2, e, r1, r2, s1, s2, dj⟩ := h1
    cases e
    obtain ⟨us, A3, f2, r3, s3⟩ := Sl.takes hA' nd ho
    refine q v N' H' ⟨A1, A3, r1, ⟨us, ?_, r3⟩, fun x z w => (d1 x (s3 x w)).1 (s1 x z), fun x z => ?_⟩ R.nh R.n0 R.fr R.xt R.dm
    · rw [← f2]
      refine List.map_congr_left fun i hi' => ?_
      have il : i < vs.length := by rw [hl]; exact hi i hi'
      have e1 := R.pr (i, (vs[i]?).getD .non) (List.mem_map.mpr ⟨i, hi', rfl⟩)
      have e2 : σ[i]? = some (some ((vs[i]?).getD .non)) := e1
      rw [e2, List.getElem?_eq_getElem il]
      rfl
    · rcases z with z | z
      · exact ow x (.inr (.inl (s1 x z)))
      · exact ow x (.inl (s3 x z))
  refine ⟨fun σ ρ H' N' R q => ?_, fun v d σ ρ H' N' R q => ?_, fun _ _ _ _ _ z => z.elim, fun _ _ _ _ _ z => z.elim⟩
  · obtain ⟨outs, ho, q⟩ := q
    exact fin (R.res (v := .non) (d := .non) rfl) ho q
  · obtain ⟨outs, ho, q⟩ := q
    exact fin R ho q
end
/-- the law called at the place where it stands: the script alone is known -/
theorem enter_at {P : Program} {w : World} {K : Fg} {mg mb : Str → Option Value} {fa a : Addr} {t : Shared} {its : List Value} {ms : List Int} (inK : K.In t.heap) (gl : t.heap.Ns mainGlobals mg) (bl : t.heap.Ns builtinsNs mb) (bb : ∀ x : Str, x ≠ "__name__" → mb x = bootBuiltins x) (nl : t.heap.NoLimit)
    (ge : t.gens = #[]) (at_ : t.heap.get? a = some { cls := .type "list", data := .seq its.toArray }) (are : IntsAre its ms) (few : ms.length ≤ sizeLine)
    (run : ∀ (base : Heap) (H : Hp), K.In base → base.Ns mainGlobals mg → Env0 P w K mg base callerA [] t H → SqL K H a (ms.map V.int) → codeAny (model P w) callerA (.call (.ref fa) ⟨[.ref a], []⟩) (CR CX0 [] P w H t (fun v _ => v = .bl true) fun _ _ _ => False) t)
    (shut : ∀ (H : Hp) (e : Value) (t' : Shared), CX0 [] H t (fun _ _ _ => False) e t' → False) :
    codeAny (model P w) callerA (.call (.ref fa) ⟨[.ref a], []⟩) (fun r t' => r = .ok (.ret (.bool true)) ∧ OldK t.heap t'.heap ∧ t'.os = t.os ∧ AllBare t'.gens) t := by
  have rel := vals_ints are
  have cnt := are.length
  have main : ∀ H : Hp, (∀ b, H b = none ∨ (b = a ∧ K.lookup a = none ∧ ∃ o xs, H b = some (.frz o (.lst xs)))) → SqL K H a (ms.map V.int) → HOk P w H t.heap →
      codeAny (model P w) callerA (.call (.ref fa) ⟨[.ref a], []⟩) (fun r t' => r = .ok (.ret (.bool true)) ∧ OldK t.heap t'.heap ∧ t'.os = t.os ∧ AllBare t'.gens) t := fun H sole sq held => by
    have stays : ∀ {b : Addr} {o : Obj}, t.heap.get? b = some o → b ≠ a → (hidT t.heap H).get? b = some o := fun {b o} z ne => hidT_get z ((sole b).elim id fun w => absurd w.1 ne)
    have names : ∀ {b : Addr} {m : Str → Option Value}, t.heap.Ns b m → (hidT t.heap H).Ns b m := fun {b m} ⟨o, es, ep, z, d, r⟩ => ⟨o, es, ep, stays z fun w => by
      subst w
      rw [at_] at z
      cases z
      exact Data.noConfusion (show Data.seq its.toArray _ = Data.dict es ep from d), d, r⟩
    have inB : K.In (hidT t.heap H) := fun b o z => by
      by_cases w : b = a
      · subst w
        rcases sole b with n | ⟨_, n, _⟩
        · exact hidT_get (inK b o z) n
        · rw [n] at z; cases z
      · exact stays (inK b o z) w
    obtain ⟨mc, l1, l2⟩ := nl
    refine codeAny_mono (run (hidT t.heap H) H inB (names gl) ⟨rfl, ⟨inB, names gl, ⟨mb, names bl, bb⟩, mc, names l1, l2⟩, fun _ _ => of_hidT, Nat.le_of_eq (hidT_size _ _), trivial, fun b z => (List.not_mem_nil (a := b) z).elim, held, .of_eq ge⟩ sq) fun r t' res => ?_
    match r, res with
    | .error e, res => exact (shut H e t' res).elim
    | .ok .next, res => exact res.elim
    | .ok .brk, res => exact res.elim
    | .ok .cont, res => exact res.elim
    | .ok (.ret u), ⟨v, H', os, bare, un, held', ru, q⟩ =>
      cases (show v = .bl true from q)
      cases (show u = Value.bool true from ru)
      refine ⟨rfl, OldK.of_keep fun b o z => ?_, os, bare⟩
      rcases sole b with n | ⟨w, ww, ob, xs, n⟩
      · exact un.keep b o z n (List.not_mem_nil (a := b)) (by simp)
      · have e1 := (held b _ n).1
        rw [z] at e1
        cases e1
        exact (held' b _ (un.frzs b _ _ n)).1
  by_cases own : ∃ o, K.lookup a = some o
  · obtain ⟨o, own⟩ := own
    have e := inK a o own
    rw [at_] at e
    cases e
    exact main (fun _ => none) (fun _ => .inl rfl) (.inr ⟨_, its.toArray, _, own, rfl, rfl, rfl, by rw [List.size_toArray, cnt]; exact few, by simpa using rel⟩) fun b u z => by cases (show (none : Option HO) = some u from z)
  · have no : K.lookup a = none := by
      cases e : K.lookup a with
      | none => rfl
      | some o => exact absurd ⟨o, e⟩ own
    let H : Hp := fun b => if b = a then some (.frz { cls := .type "list", data := .seq its.toArray } (.lst (ms.map V.int))) else none
    have Ha : H a = some (.frz { cls := .type "list", data := .seq its.toArray } (.lst (ms.map V.int))) := if_pos rfl
    have Hn : ∀ b, b ≠ a → H b = none := fun b w => if_neg w
    refine main H (fun b => ?_) (.inl (.inr ⟨_, Ha⟩)) fun b u z => ?_
    · by_cases w : b = a
      · exact .inr ⟨w, no, _, _, w ▸ Ha⟩
      · exact .inl (Hn b w)
    · by_cases w : b = a
      · subst w
        rw [Ha] at z
        cases z
        exact ⟨at_, by rw [List.length_map]; exact few, its, _, rel, at_⟩
      · rw [Hn b w] at z
        cases z
end BV

/-! BV, part ZU: running the readings of parts W to ZR. -/
namespace BV
open PySem PySem.Spec PyProof.Rows L2
section
variable {ρ ρ' : Ev} {Q : D → Ev → Prop} {QA : List D → Ev → Prop} {n : Ev → Prop} {r : D → Ev → Prop} {b c : Ev → Prop} {P : Program} {w : World} {Ta Tb : XE} {i j m : Nat} {Cl dx : Addr} {NS : List Str} {ds zs : List D} {d : D} {F : FS} {Tr : XA}
theorem i_set0 (q : Q (.ob (setKd P w (fun _ => false) 0) []) ρ) : (xSet0 P w).f ρ Q := q
theorem i_atSet {S : Key → Bool} {k : Nat} {Z : (Key → Bool) → Nat → Prop} (h : At ρ i (.ob (setKd P w S k) [])) (q : Z S k) : ∃ S k, At ρ i (.ob (setKd P w S k) []) ∧ Z S k := ⟨S, k, h, q⟩
theorem i_sadd {S : Key → Bool} {k : Nat} (h : At ρ i (.ob (setKd P w S k) [])) (q : Ta.f ρ fun y ρ1 => ∃ S k, At ρ1 i (.ob (setKd P w S k) []) ∧ ∃ x ρ2, y.key = some x ∧ k + 1 < scanBound ∧ Put ρ1 i (some (.ob (setKd P w (fun j => S j || decide (j = x)) (if S x = true then k else k + 1)) [])) ρ2 ∧ Q .non ρ2) : (xSAdd P w i Ta).f ρ Q :=
  ⟨⟨S, k, h.get⟩, Ta.mono (fun _ _ ⟨S, k, h, x, ρ2, h1, h2, p, q⟩ => ⟨x, S, k, h.get, h1, h2, by rw [p.eq]; exact q⟩) q⟩
theorem i_sin {neg : Bool} (q : Ta.f ρ fun y ρ1 => ∃ S k, At ρ1 i (.ob (setKd P w S k) []) ∧ ∃ x, y.key = some x ∧ Q (.bl (if neg then !S x else S x)) ρ1) : (xSIn P w neg i Ta).f ρ Q :=
  Ta.mono (fun _ _ ⟨S, k, h, x, h1, q⟩ => ⟨x, S, k, h.get, h1, q⟩) q
theorem i_istr {QI : List D → Ev → Prop} (q : Ta.f ρ fun d ρ1 => ∃ z, d = .str z ∧ QI (signsD z) ρ1) : (xiStr Ta).f ρ QI := q
theorem i_strE {z : Str} {Z : Str → Prop} (q : Z z) : ∃ x, D.str z = .str x ∧ Z x := ⟨z, rfl, q⟩
theorem i_irev {QI : List D → Ev → Prop} (q : Ta.f ρ fun d ρ1 => ∃ zs, d = .tup zs ∧ zs.all D.sh = true ∧ QI zs.reverse ρ1) : (xiRev Ta).f ρ QI := q
theorem i_tplS (h : At ρ i (.own zs)) (hs : zs.all D.sh = true) (q : Q (.fz .tpl zs) ρ) : (xTplS i).f ρ Q := ⟨zs, h.get, hs, q⟩
theorem i_idxZ (q : Ta.f ρ fun d ρ1 => ∃ ys : List Str, d = .fz .tpl (ys.map D.str) ∧ Tb.f ρ1 fun y ρ2 => ∃ (z : Str) (j : Nat), y = .str z ∧ ys[j]? = some z ∧ (∀ m, m < j → ys[m]? ≠ some z) ∧ Q (.int (j : Nat)) ρ2) : (xIdxZ Ta Tb).f ρ Q := q
theorem i_idxL (q : Ta.f ρ fun d ρ1 => ∃ ys : List Str, d = .lst (ys.map D.str) ∧ Tb.f ρ1 fun y ρ2 => ∃ (z : Str) (j : Nat), y = .str z ∧ ys[j]? = some z ∧ (∀ m, m < j → ys[m]? ≠ some z) ∧ Q (.int (j : Nat)) ρ2) : (xIdxL Ta Tb).f ρ Q := q
theorem i_stp {L U W : XO} (q : Ta.f ρ fun d ρ1 => L.f ρ1 fun l ρ2 => U.f ρ2 fun u ρ3 => W.f ρ3 fun w ρ4 => w ≠ some 0 ∧ ∃ zs, (d = .frl zs ∨ d = .lst zs) ∧ (stepL l u w zs).length ≤ sizeLine ∧ Q (.own (stepL l u w zs)) ρ4) : (xStp Ta L U W).f ρ Q := q
theorem i_atIns {Z : Addr → List D → Prop} (h : At ρ i (.ob (.ins Cl dx NS) ds)) (q : Z dx ds) : ∃ dx ds, At ρ i (.ob (.ins Cl dx NS) ds) ∧ Z dx ds := ⟨dx, ds, h, q⟩
theorem i_fld (h : At ρ i (.ob (.ins Cl dx NS) ds)) (hl : ds.length = NS.length) (hd : ds[j]? = some d) (hs : d.sh = true) (q : Q d ρ) : (xFld i Cl NS j).f ρ Q := ⟨dx, ds, d, h.get, hl, hd, hs, q⟩
theorem i_fadd {f : Str} (q : Ta.f ρ fun d ρ1 => ∃ dx ds, At ρ1 i (.ob (.ins Cl dx NS) ds) ∧ ∃ ρ2, ds.length = NS.length ∧ Put ρ1 i (some (.ob (.ins Cl dx (NS ++ [f])) (ds ++ [d]))) ρ2 ∧ n ρ2) : (xFAdd i Cl NS f Ta).f ⟨n, r, b, c⟩ ρ :=
  Ta.mono (fun _ _ ⟨dx, ds, h, ρ2, h1, p, q⟩ => ⟨dx, ds, h.get, h1, by rw [p.eq]; exact q⟩) q
theorem i_fapp (h : At ρ i (.ob (.ins Cl dx NS) ds)) (hl : ds.length = NS.length) (hj : ds[j]? = some (.own zs)) (hn : At ρ m d) (hs : d.sh = true) (hz : zs.length < sizeLine) (p : Put ρ i (some (.ob (.ins Cl dx NS) (ds.set j (.own (zs ++ [d]))))) ρ') (q : Q .non ρ') : (xFApp i Cl NS j m).f ρ Q :=
  ⟨dx, ds, zs, d, h.get, hl, hj, hn.get, hs, hz, by rw [p.eq]; exact q⟩
theorem i_flen (h : At ρ i (.ob (.ins Cl dx NS) ds)) (hl : ds.length = NS.length) (hj : ds[j]? = some (.own zs)) (q : Q (.int (zs.length : Nat)) ρ) : (xFLen i Cl NS j).f ρ Q := ⟨dx, ds, zs, h.get, hl, hj, q⟩
theorem i_ftup (h : At ρ i (.ob (.ins Cl dx NS) ds)) (hl : ds.length = NS.length) (hj : ds[j]? = some (.own zs)) (hs : zs.all D.sh = true) (q : Q (.tup zs) ρ) : (xFTup i Cl NS j).f ρ Q := ⟨dx, ds, zs, h.get, hl, hj, hs, q⟩
theorem i_fset {k : Int} {l : Nat} {QG : Ev → Prop} (h : At ρ i (.ob (.ins Cl dx NS) ds)) (hl : ds.length = NS.length) (hj : ds[j]? = some (.own zs)) (hn : At ρ m (.int k)) (hs : d.sh = true) (hk : ixN zs.length k = some l) (p : Put ρ i (some (.ob (.ins Cl dx NS) (ds.set j (.own (zs.set l d))))) ρ') (q : QG ρ') : (xFSet i Cl NS j m).f d ρ QG :=
  ⟨dx, ds, zs, k, l, h.get, hl, hj, hn.get, hs, hk, by rw [p.eq]; exact q⟩
theorem i_meth {ss : List (Option Nat)} (h : At ρ i (.ob (.ins Cl dx NS) ds)) (q : (xCall F ss (xLendL i Tr)).f ρ Q) : (xMeth F ss i Cl NS Tr).f ρ Q := ⟨⟨dx, ds, h.get⟩, q⟩
theorem i_make (q : Tr.f ρ fun fs ρ1 => ∀ dx, F.f (.ob (.ins Cl dx []) [] :: fs) fun r outs => ∃ z, r = .non ∧ outs = [z] ∧ Q z ρ1) : (xMake F Cl Tr).f ρ Q := q
theorem i_atInt {x : Int} {Z : Int → Prop} (h : At ρ i (.int x)) (q : Z x) : ∃ x : Int, At ρ i (.int x) ∧ Z x := ⟨x, h, q⟩
theorem i_aug {g : Int → Int → Int} {x : Int} (h : At ρ i (.int x)) (q : Ta.f ρ fun d ρ1 => ∃ x : Int, At ρ1 i (.int x) ∧ ∃ y ρ2, d = .int y ∧ Put ρ1 i (some (.int (g x y))) ρ2 ∧ n ρ2) : (xAug g i Ta).f ⟨n, r, b, c⟩ ρ :=
  ⟨⟨x, h.get⟩, Ta.mono (fun _ _ ⟨x, h, y, ρ2, e, p, q⟩ => ⟨x, y, h.get, e, by rw [p.eq]; exact q⟩) q⟩
theorem i_repr (q : Ta.f ρ fun d ρ' => d.pl = true ∧ d.isTup = true ∧ d.py.showable = true ∧ d.py.hasDict = false ∧ d.py.depth ≤ 60 ∧ d.py.shown.length ≤ sizeLine ∧ Q (.str d.py.shown) ρ') : (xRepr Ta).f ρ Q := q
end
end BV

/-! BV, part ZV: name = {.. for ..} on one line. -/
namespace BV
open PySem PySem.Spec PyProof.Rows L2
section
variable {X : Cx}
theorem swd_true {kx vx : Expr} {gs : List Comprehension} {scope : Scope} {pos py : Pos} {y : Str} {l : Nat} {env : Env} (hk : env.scope.kind = .function) (hy : env.scope.names.lookup y = some .local) (hl : (py.line == pos.line) = true)
    (no : (scope.names.any fun (n, k) => n == y && (k == .local || k == .cell)) = false) : swapsWith (.DictComp kx vx gs scope pos) (some (.Name y py)) l env = pure true := by
  have h1 : env.kindOf y = some .local := hy
  have h2 : env.blockKind = .function := by unfold Env.blockKind; rw [hk]; rfl
  unfold swapsWith
  simp only [h2, h1, no, Expr.pos, hl]
  rfl
theorem ps_setDc {i : Nat} {y : Str} {py : Pos} {kx vx tg iter : Expr} {ifs : List Expr} {scope : Scope} {own : List (Str × Nat)} {pos spos : Pos} {wi : TI} {g : TG} {tt : TT} {tk tv : TE} (calm : X.calm = true) (nd : X.N.Nodup) (iy : X.N[i]? = some y) (loc : X.env.scope.names.lookup y = some .local)
    (sw : swapsWith (.DictComp kx vx [⟨tg, iter, ifs, 0⟩] scope pos) (some (.Name y py)) spos.line X.env = pure true) (hi : PI X tg iter wi) (ok : BlkOk X.N X.env.scope scope own)
    (pg : ∀ (s : Shared) (H : Hp) (D : Addr) (cl : List (Str × Addr)) (fp : List Addr), PG (X.blk s H scope (compEnvC scope cl D X.env) fp) tg g) (pt : ∀ (s : Shared) (H : Hp) (D : Addr) (cl : List (Str × Addr)) (fp : List Addr), PTs (X.blk s H scope (compEnvC scope cl D X.env) fp) ifs tt)
    (pk : ∀ (s : Shared) (H : Hp) (D : Addr) (cl : List (Str × Addr)) (fp : List Addr), PE (X.blk s H scope (compEnvC scope cl D X.env) fp) kx tk)
    (pv' : ∀ (s : Shared) (H : Hp) (D : Addr) (cl : List (Str × Addr)) (fp : List Addr), PE (X.blk s H scope (compEnvC scope cl D X.env) fp) vx tv) (fold : ∀ x, foldedSetIterable iter X.env x = pure x) :
    PS X (.Assign [.Name y py] (.DictComp kx vx [⟨tg, iter, ifs, 0⟩] scope pos) spos) (tAsg (tDc wi g tt tk tv (own.map (·.2))) (gName i)) := by
  refine ⟨fun pins s σ H G J hh => ?_⟩
  rw [exec_Assign_Name_used _ _ _ _ sw]
  refine wpAny_bind (wpAny_standAt (wpAny_bind ?_))
  show wpAny _ X.A (do let _ ← comprehension (.DictComp kx vx [⟨tg, iter, ifs, 0⟩] scope pos) scope X.env (firstIterPos [⟨tg, iter, ifs, 0⟩] pos) newDict false (eval iter X.env) (some (assign (.Name y py) X.env))) _ _ s
  have hh : tDc wi g tt tk tv (own.map (·.2)) σ H (fun x H1 => gName i x σ H1 G.nx) := hh
  refine wpAny_bind (thn (dc_core (Qf := fun _ s' => SP X pins G .next s') calm nd J hi ok pg pt pk pv' fold hh fun L D s' m H' J' q ns fp => ?_) fun _ s' done => wpAny_pure (wpAny_pure done))
  show wpAny _ _ (assign (.Name y py) X.env (.ref L)) _ _ _
  refine wpAny_assign_Name (store_ok2 (v := V.ref L) J' nd iy (.inl loc) rfl (fun s2 J2 ⟨a, sb, ha⟩ => ?_) (.inr loc))
  obtain ⟨k0, k1, k2, k3, k4, k5⟩ := fp
  have away : D ≠ a := ha.elim (fun z => z ▸ k1) fun z w => k4 y a z w.symm
  exact ⟨m, ns.sameBut sb away, fun h3 sb3 => ⟨_, H', J2.turned (t' := s2.toks) (fun b o hb e => (sb3.2 b hb).trans e) k0 k1 k3 k4 k5, q⟩⟩
variable {C : Ct} {tg iter kx vx : Expr} {ifs : List Expr} {pos spos py : Pos} {wi : TI} {Ti : XI} {Tg : XG} {Ut : XT} {Tk Tv : XE} {gF : Shared → Hp → Addr → List (Str × Addr) → List Addr → TG} {tF : Shared → Hp → Addr → List (Str × Addr) → List Addr → TT} {kF eF : Shared → Hp → Addr → List (Str × Addr) → List Addr → TE}
theorem vf_setDcF {i : Nat} {y : Str} {scope : Scope} {own : List (Str × Nat)} {us ios : List Nat} (calm : X.calm = true) (nd : X.N.Nodup) (iy : X.N[i]? = some y) (loc : X.env.scope.names.lookup y = some .local) (sw : swapsWith (.DictComp kx vx [⟨tg, iter, ifs, 0⟩] scope pos) (some (.Name y py)) spos.line X.env = pure true)
    (ok : BlkOk X.N X.env.scope scope own) (hC : ∀ p ∈ C.prot, p.1 ∈ ios) (hu : ∀ i ∈ us, i ∉ ios) (hi : VI X C tg iter wi Ti) (gw : ∀ (s : Shared) (H : Hp) (C' : Addr) (cl : List (Str × Addr)) (fp : List Addr), GW us (gF s H C' cl fp))
    (vg : ∀ (s : Shared) (H : Hp) (C' : Addr) (cl : List (Str × Addr)) (fp : List Addr), VG (X.blk s H scope (compEnvC scope cl C' X.env) fp) C tg (gF s H C' cl fp) Tg) (vt : ∀ (s : Shared) (H : Hp) (C' : Addr) (cl : List (Str × Addr)) (fp : List Addr), VTs (X.blk s H scope (compEnvC scope cl C' X.env) fp) C ifs (tF s H C' cl fp) Ut)
    (vk : ∀ (s : Shared) (H : Hp) (C' : Addr) (cl : List (Str × Addr)) (fp : List Addr), VE (X.blk s H scope (compEnvC scope cl C' X.env) fp) C kx (kF s H C' cl fp) Tk)
    (vv : ∀ (s : Shared) (H : Hp) (C' : Addr) (cl : List (Str × Addr)) (fp : List Addr), VE (X.blk s H scope (compEnvC scope cl C' X.env) fp) C vx (eF s H C' cl fp) Tv) (hus : own.map (·.2) = us) (hio : i ∉ ios) (fold : ∀ x, foldedSetIterable iter X.env x = pure x) :
    VS X C (.Assign [.Name y py] (.DictComp kx vx [⟨tg, iter, ifs, 0⟩] scope pos) spos) (tAsg (tDc wi (allG gF) (allT tF) (allE kF) (allE eF) us) (gName i)) (xAsg (xFrz (xDc Ti Tg Ut Tk Tv us)) (xgName i)) := by
  subst hus
  exact vs_set (ps_setDc calm nd iy loc sw hi.pi ok (fun s H D cl fp => pg_imp (vg s H D cl fp).pg fun v σ H2 Q z => z s H D cl fp) (fun s H D cl fp => pts_imp (vt s H D cl fp).pt fun σ H2 Q z => z s H D cl fp) (fun s H D cl fp => pe_imp (vk s H D cl fp).pe fun σ H2 Q z => z s H D cl fp) (fun s H D cl fp => pe_imp (vv s H D cl fp).pe fun σ H2 Q z => z s H D cl fp) fold)
    (ve_frz (vf_dc (pos := pos) calm nd ok hC hu hi gw vg vt vk vv rfl fold)) hC hio
end
end BV

/-! BV, part ZW: tuple(l) of a list that is shared; calls that give two slots back. -/
namespace BV
open PySem PySem.Spec PyProof.Rows L2
section
variable {X : Cx} {C : Ct} {a : Expr} {pos p : Pos} {ρ ρ' ρ'' : Ev} {Q : D → Ev → Prop} {R : XA} {i j : Nat}
def xTplL (i : Nat) : XE := ⟨fun ρ Q => ∃ zs, ρ[i]? = some (some (.lst zs)) ∧ Q (.fz .tpl zs) ρ, fun m ⟨zs, h1, q⟩ => ⟨zs, h1, m _ _ q⟩⟩
theorem ve_tplL (i : Nat) (ha : PE X a (tVar i)) {x : Str} (hg : Gl X x) (hm : X.mg x = none) (hv : bootBuiltins x = some (.type "tuple")) (hn : x ≠ "__name__" := by decide) (hdb : (x == ("__debug__" : Str)) = false := by decide)
    (he : starEach [a] X.env = (false, eval a X.env) :: starEach [] X.env := by rfl) (hpl : (backTo pos (starEach [] X.env)).any (·.1) = false := by rfl) : VE X C (.Call (.Name x p) [a] [] pos) (tCB (rTupZ X.K) (tCons (tVar i) tNil)) (xTplL i) := by
  refine ⟨pe_callTy cr_tupZ hg hm hv (pa_cons ha pa_nil he) hn hdb he hpl, fun {N σ ρ H vs ds Q} R q => ?_⟩
  obtain ⟨zs, h1, q⟩ := q
  obtain ⟨v, A, e1, r⟩ := R.any h1
  obtain ⟨a', us, rfl, ha', _, rr⟩ := r
  exact ⟨_, e1, a', us, rfl, .inl (.inl ha'), fun l o ho nl => q _ _ _ (R.newTpl nl ho rr)⟩
theorem i_tplL {zs : List D} (h : At ρ i (.lst zs)) (q : Q (.fz .tpl zs) ρ) : (xTplL i).f ρ Q := ⟨zs, h.get, q⟩
theorem i_call2 {F : FS} (q : R.f ρ fun fs ρ1 => F.f fs fun r outs => ∃ c d ρ2 ρ3, outs = [c, d] ∧ Put ρ1 i (some c) ρ2 ∧ Put ρ2 j (some d) ρ3 ∧ Q r ρ3) : (xCall F [some i, some j] R).f ρ Q := R.mono (fun fs ρ1 h => F.mono (fun r o z => by
  obtain ⟨c, d, ρ2, ρ3, rfl, p1, p2, z⟩ := z
  refine ⟨rfl, ?_⟩
  show Q r ((ρ1.set i (some c)).set j (some d))
  rw [p1.eq, p2.eq]
  exact z) h) q
theorem i_out2 {c d : D} {P : Ev → Prop} (p1 : Put ρ i (some c) ρ') (p2 : Put ρ' j (some d) ρ'') (q : P ρ'') : ∃ c' d' ρ2 ρ3, [c, d] = [c', d'] ∧ Put ρ i (some c') ρ2 ∧ Put ρ2 j (some d') ρ3 ∧ P ρ3 := ⟨c, d, ρ', ρ'', rfl, p1, p2, q⟩
end
end BV

/-! Programs as data, their layout; plain mathematics. -/
namespace K12
open PySem PySem.Spec PyProof.Rows L2 BV
/-- a statement: do | undo of a letter, a call, a return, a loop, a choice, an ensure with its second body -/
inductive St where
  | act (un : Bool) (x : Str) | call (x : Str) | ret | loop (b : List St) | choose (bs : List (List St)) | ens (b c : List St)
mutual
def St.d : St → D
  | .act un x => .tup [.str (if un then "undo" else "do"), .str x]
  | .call x => .tup [.str "call", .str x]
  | .ret => .tup [.str "return"]
  | .loop b => .tup [.str "loop", .tup (bdD b)]
  | .choose bs => .tup [.str "choose", .tup (bdsD bs)]
  | .ens b c => .tup [.str "ensure", .tup (bdD b), .tup (bdD c)]
def bdD : List St → List D
  | [] => []
  | s :: b => s.d :: bdD b
def bdsD : List (List St) → List D
  | [] => []
  | b :: bs => .tup (bdD b) :: bdsD bs
end
theorem bdD_map : ∀ b : List St, bdD b = b.map St.d
  | [] => by simp only [bdD, List.map_nil]
  | s :: b => by simp only [bdD, List.map_cons, bdD_map b]
theorem bdsD_map : ∀ bs : List (List St), bdsD bs = bs.map fun b => .tup (b.map St.d)
  | [] => by simp only [bdsD, List.map_nil]
  | b :: bs => by simp only [bdsD, List.map_cons, bdsD_map bs, bdD_map b]
theorem d_act {un : Bool} {x : Str} : (St.act un x).d = .tup [.str (if un then "undo" else "do"), .str x] := by simp only [St.d]
theorem d_call {x : Str} : (St.call x).d = .tup [.str "call", .str x] := by simp only [St.d]
theorem d_ret : St.ret.d = .tup [.str "return"] := by simp only [St.d]
theorem d_loop {b : List St} : (St.loop b).d = .tup [.str "loop", .tup (b.map St.d)] := by simp only [St.d, bdD_map]
theorem d_choose {bs : List (List St)} : (St.choose bs).d = .tup [.str "choose", .tup (bs.map fun b => .tup (b.map St.d))] := by simp only [St.d, bdsD_map]
theorem d_ens {b c : List St} : (St.ens b c).d = .tup [.str "ensure", .tup (b.map St.d), .tup (c.map St.d)] := by simp only [St.d, bdD_map]
mutual
/-- how many statements -/
def St.cnt : St → Nat
  | .act _ _ => 1
  | .call _ => 1
  | .ret => 1
  | .loop b => cnt b + 1
  | .choose bs => cnts bs + 1
  | .ens b c => cnt b + cnt c + 1
def cnt : List St → Nat
  | [] => 0
  | s :: b => s.cnt + cnt b
def cnts : List (List St) → Nat
  | [] => 0
  | b :: bs => cnt b + cnts bs
end
mutual
/-- how many returns -/
def St.rts : St → Nat
  | .act _ _ => 0
  | .call _ => 0
  | .ret => 1
  | .loop b => rts b
  | .choose bs => rtss bs
  | .ens b c => rts b + rts c
def rts : List St → Nat
  | [] => 0
  | s :: b => s.rts + rts b
def rtss : List (List St) → Nat
  | [] => 0
  | b :: bs => rts b + rtss bs
end
mutual
/-- how many statements in second bodies (of the outermost ensures each) -/
def St.scs : St → Nat
  | .act _ _ => 0
  | .call _ => 0
  | .ret => 0
  | .loop b => scs b
  | .choose bs => scss bs
  | .ens b c => scs b + cnt c
def scs : List St → Nat
  | [] => 0
  | s :: b => s.scs + scs b
def scss : List (List St) → Nat
  | [] => 0
  | b :: bs => scs b + scss bs
end
mutual
/-- it may stand in a body at most j deep, second: within a second body -/
def St.ok (letters names : List Str) : Nat → Bool → St → Prop
  | _, _, .act _ x => x ∈ letters
  | _, _, .call x => x ∈ names
  | _, second, .ret => second = false
  | 0, _, .loop _ => False
  | 0, _, .choose _ => False
  | 0, _, .ens _ _ => False
  | j + 1, second, .loop b => okB letters names j second b
  | j + 1, second, .choose bs => 2 ≤ bs.length ∧ bs.length ≤ 6 ∧ okBs letters names j second bs
  | j + 1, second, .ens b c => okB letters names j second b ∧ okB letters names j true c
def okB (letters names : List Str) : Nat → Bool → List St → Prop
  | _, _, [] => True
  | j, second, s :: b => s.ok letters names j second ∧ okB letters names j second b
def okBs (letters names : List Str) : Nat → Bool → List (List St) → Prop
  | _, _, [] => True
  | j, second, b :: bs => okB letters names j second b ∧ b.length ≤ 4 ∧ okBs letters names j second bs
end
/-- what is laid: the marks of letters, the numbers of procedures -/
structure Lt where
  mark : Str → Int
  num : Str → Int
mutual
/-- a statement laid ahead of told: its begin, all places then -/
def St.lay (L : Lt) (told : Nat) (secs : List (List D → Nat → Nat × List D)) (found : List D) : St → Nat × List D
  | .act un x => (found.length, found ++ [.tup [.str "letter", .int (if un then -L.mark x else L.mark x), .int told]])
  | .call x => (found.length, found ++ [.tup [.str "call", .int (L.num x), .int told]])
  | .ret => secs.foldl (fun r f => f r.2 r.1) (0, found)
  | .loop b =>
    let r := layB L found.length secs (found ++ [.non]) b
    (found.length, r.2.set found.length (.tup [.str "fork", .tup [.int r.1, .int told]]))
  | .choose bs =>
    let r := layBs L told secs found bs
    (r.2.length, r.2 ++ [.tup [.str "fork", .tup (r.1.map fun n => .int (n : Nat))]])
  | .ens b c =>
    let r := layB L told [] found c
    layB L r.1 (secs ++ [fun found told => layB L told [] found c]) r.2 b
def layB (L : Lt) (told : Nat) (secs : List (List D → Nat → Nat × List D)) (found : List D) : List St → Nat × List D
  | [] => (told, found)
  | s :: b =>
    let r := layB L told secs found b
    s.lay L r.1 secs r.2
def layBs (L : Lt) (told : Nat) (secs : List (List D → Nat → Nat × List D)) (found : List D) : List (List St) → List Nat × List D
  | [] => ([], found)
  | b :: bs =>
    let r := layB L told secs found b
    let q := layBs L told secs r.2 bs
    (r.1 :: q.1, q.2)
end
/-! ### names, programs -/
def SMALL : Str := "abcdefghijklmnopqrstuvwxyz"
def DIGITS : Str := "0123456789"
def kws : List Str := ["call", "choose", "do", "ensure", "finally", "letters", "loop", "or", "proc", "return", "undo"]
/-- a right name -/
structure RN (x : Str) : Prop where
  len : 1 ≤ x.length ∧ x.length ≤ 10
  head : ∀ c, x.cps.toList[0]? = some c → c ∈ SMALL.cps.toList
  all : ∀ c ∈ x.cps.toList, c ∈ SMALL.cps.toList ∨ c ∈ DIGITS.cps.toList
  key : x ∉ kws
/-- the bodies of a statement -/
def St.bodies : St → List (List St)
  | .act _ _ => []
  | .call _ => []
  | .ret => []
  | .loop b => [b]
  | .choose bs => bs
  | .ens b c => [b, c]
/-- its own names are right, its choice is of two to six -/
def St.fit : St → Prop
  | .act _ x => RN x
  | .call x => RN x
  | .choose bs => 2 ≤ bs.length ∧ bs.length ≤ 6
  | _ => True
def bodyD (b : List St) : D := .tup (b.map St.d)
theorem len_cnt : ∀ b : List St, b.length ≤ cnt b
  | [] => Nat.zero_le _
  | s :: b => by
    have h := len_cnt b
    have h1 : 1 ≤ s.cnt := by cases s <;> simp only [St.cnt] <;> omega
    simp only [List.length_cons, cnt]
    omega
theorem cnts_sum : ∀ bs : List (List St), cnts bs = (bs.map cnt).sum
  | [] => by simp only [cnts, List.map_nil, List.sum_nil]
  | b :: bs => by simp only [cnts, List.map_cons, List.sum_cons, cnts_sum bs]
theorem cnt_bodies (s : St) : s.cnt = (s.bodies.map cnt).sum + 1 := by
  cases s <;> simp only [St.cnt, St.bodies, List.map_nil, List.map_cons, List.sum_nil, List.sum_cons, cnts_sum] <;> omega
structure Nms (letters names : List Str) : Prop where
  l : ∀ x ∈ letters, RN x
  n : ∀ x ∈ names, RN x
theorem ok_fit {letters names : List Str} (h : Nms letters names) {j : Nat} {sec : Bool} {s : St} (k : s.ok letters names j sec) : s.fit := by
  cases s with
  | act un x => cases j <;> (simp only [St.ok] at k; exact h.l x k)
  | call x => cases j <;> (simp only [St.ok] at k; exact h.n x k)
  | choose bs =>
    cases j with
    | zero => simp only [St.ok] at k
    | succ j => simp only [St.ok] at k; exact ⟨k.1, k.2.1⟩
  | _ => exact True.intro
/-- the bodies of a right statement are right, one less deep -/
theorem okBs_mem {letters names : List Str} {j : Nat} {sec : Bool} : ∀ {bs : List (List St)}, okBs letters names j sec bs → ∀ b ∈ bs, okB letters names j sec b
  | [], _, b, h => absurd h List.not_mem_nil
  | c :: bs, k, b, h => by
    simp only [okBs] at k
    rcases List.mem_cons.mp h with rfl | h
    · exact k.1
    · exact okBs_mem k.2.2 b h
theorem ok_bodies {letters names : List Str} {j : Nat} {sec : Bool} {s : St} (k : s.ok letters names j sec) : ∀ b ∈ s.bodies, ∃ i sec', i + 1 = j ∧ okB letters names i sec' b := by
  intro b hb
  cases s with
  | act un x => cases hb
  | call x => cases hb
  | ret => cases hb
  | loop c =>
    cases j with
    | zero => simp only [St.ok] at k
    | succ j =>
      simp only [St.ok] at k
      cases List.mem_singleton.mp hb
      exact ⟨j, sec, rfl, k⟩
  | choose bs =>
    cases j with
    | zero => simp only [St.ok] at k
    | succ j =>
      simp only [St.ok] at k
      exact ⟨j, sec, rfl, okBs_mem k.2.2 b hb⟩
  | ens c e =>
    cases j with
    | zero => simp only [St.ok] at k
    | succ j =>
      simp only [St.ok] at k
      rcases List.mem_cons.mp hb with rfl | hb
      · exact ⟨j, sec, rfl, k.1⟩
      · cases List.mem_singleton.mp hb
        exact ⟨j, true, rfl, k.2⟩
theorem okB_mem {letters names : List Str} {j : Nat} {sec : Bool} : ∀ {b : List St}, okB letters names j sec b → ∀ s ∈ b, s.ok letters names j sec
  | [], _, s, h => absurd h List.not_mem_nil
  | c :: b, k, s, h => by
    simp only [okB] at k
    rcases List.mem_cons.mp h with rfl | h
    · exact k.1
    · exact okB_mem k.2 s h
structure Prog where
  letters : List Str
  procs : List (Str × List St)
def Prog.names (p : Prog) : List Str := p.procs.map (·.1)
def Prog.lD (p : Prog) : D := .fz .tpl (p.letters.map D.str)
def Prog.pD (p : Prog) : D := .tup (p.procs.map fun q => .tup [.str q.1, bodyD q.2])
def Prog.d (p : Prog) : D := .tup [p.lD, p.pD]
def Prog.nD (p : Prog) : D := .lst (p.names.map D.str)
structure Prog.WF (p : Prog) : Prop where
  nm : Nms p.letters p.names
  l1 : 1 ≤ p.letters.length ∧ p.letters.length ≤ 20
  p1 : 1 ≤ p.procs.length ∧ p.procs.length ≤ 8
  ln : p.letters.Nodup
  pn : p.names.Nodup
  ok : ∀ q ∈ p.procs, okB p.letters p.names 7 false q.2
  cn : (p.procs.map fun q => cnt q.2).sum ≤ 30
end K12

/-! How many places a layout makes. -/
namespace K12
open PySem PySem.Spec PyProof.Rows L2 BV
abbrev Sec := List D → Nat → Nat × List D
mutual
/-- the places of a statement, W: those of the second bodies around it -/
def St.sz (W : Nat) : St → Nat
  | .act _ _ => 1
  | .call _ => 1
  | .ret => W
  | .loop b => szB W b + 1
  | .choose bs => szBs W bs + 1
  | .ens b c => szB 0 c + szB (W + szB 0 c) b
def szB (W : Nat) : List St → Nat
  | [] => 0
  | s :: b => s.sz W + szB W b
def szBs (W : Nat) : List (List St) → Nat
  | [] => 0
  | b :: bs => szB W b + szBs W bs
end
/-- second bodies that make W places together -/
inductive SecW : List Sec → Nat → Prop where
  | nil : SecW [] 0
  | snoc {fs : List Sec} {W : Nat} {f : Sec} {n : Nat} (h : SecW fs W) (g : ∀ found told, found.all D.sh = true → (f found told).2.length = found.length + n ∧ (f found told).2.all D.sh = true) : SecW (fs ++ [f]) (W + n)
theorem foldl_sec {fs : List Sec} {W : Nat} (h : SecW fs W) : ∀ r : Nat × List D, r.2.all D.sh = true → (fs.foldl (fun (r : Nat × List D) (f : Sec) => f r.2 r.1) r).2.length = r.2.length + W ∧ (fs.foldl (fun (r : Nat × List D) (f : Sec) => f r.2 r.1) r).2.all D.sh = true := by
  induction h with
  | nil => exact fun r e => ⟨rfl, e⟩
  | snoc h g ih =>
    intro r e
    obtain ⟨e1, e2⟩ := ih r e
    rw [List.foldl_append]
    obtain ⟨g1, g2⟩ := g _ (List.foldl (fun (r : Nat × List D) (f : Sec) => f r.2 r.1) r _).1 e2
    exact ⟨by rw [List.foldl_cons, List.foldl_nil, g1, e1]; omega, g2⟩
theorem all_set {xs : List D} {i : Nat} {d : D} (h : xs.all D.sh = true) (e : d.sh = true) : (xs.set i d).all D.sh = true :=
  List.all_eq_true.mpr fun x hx => by
    rcases List.mem_or_eq_of_mem_set hx with q | q
    · exact List.all_eq_true.mp h x q
    · rw [q]; exact e
theorem all_app {xs : List D} {d : D} (h : xs.all D.sh = true) (e : d.sh = true) : (xs ++ [d]).all D.sh = true := by
  rw [List.all_append, h, List.all_cons, e]; rfl
mutual
theorem lay_sz (L : Lt) : ∀ (s : St) (told : Nat) (secs : List Sec) (W : Nat) (found : List D), SecW secs W → found.all D.sh = true → (s.lay L told secs found).2.length = found.length + s.sz W ∧ (s.lay L told secs found).2.all D.sh = true
  | .act un x, told, secs, W, found, h, e => by
    simp only [St.lay, St.sz]
    exact ⟨by rw [List.length_append]; rfl, all_app e rfl⟩
  | .call x, told, secs, W, found, h, e => by
    simp only [St.lay, St.sz]
    exact ⟨by rw [List.length_append]; rfl, all_app e rfl⟩
  | .ret, told, secs, W, found, h, e => by
    simp only [St.lay, St.sz]
    exact foldl_sec h (0, found) e
  | .loop b, told, secs, W, found, h, e => by
    simp only [St.lay, St.sz]
    obtain ⟨e1, e2⟩ := layB_sz L b found.length secs W (found ++ [.non]) h (all_app e rfl)
    refine ⟨?_, all_set e2 rfl⟩
    rw [List.length_set, e1, List.length_append, List.length_singleton]
    omega
  | .choose bs, told, secs, W, found, h, e => by
    simp only [St.lay, St.sz]
    obtain ⟨e1, e2⟩ := layBs_sz L bs told secs W found h e
    refine ⟨?_, all_app e2 rfl⟩
    rw [List.length_append, e1, List.length_singleton]
    omega
  | .ens b c, told, secs, W, found, h, e => by
    simp only [St.lay, St.sz]
    obtain ⟨e1, e2⟩ := layB_sz L c told [] 0 found .nil e
    obtain ⟨g1, g2⟩ := layB_sz L b (layB L told [] found c).1 (secs ++ [fun found told => layB L told [] found c]) (W + szB 0 c) (layB L told [] found c).2 (.snoc h fun f2 t2 e3 => layB_sz L c t2 [] 0 f2 .nil e3) e2
    exact ⟨by rw [g1, e1]; omega, g2⟩
theorem layB_sz (L : Lt) : ∀ (b : List St) (told : Nat) (secs : List Sec) (W : Nat) (found : List D), SecW secs W → found.all D.sh = true → (layB L told secs found b).2.length = found.length + szB W b ∧ (layB L told secs found b).2.all D.sh = true
  | [], told, secs, W, found, h, e => by
    simp only [layB, szB]
    exact ⟨rfl, e⟩
  | s :: b, told, secs, W, found, h, e => by
    simp only [layB, szB]
    obtain ⟨e1, e2⟩ := layB_sz L b told secs W found h e
    obtain ⟨g1, g2⟩ := lay_sz L s (layB L told secs found b).1 secs W (layB L told secs found b).2 h e2
    exact ⟨by rw [g1, e1]; omega, g2⟩
theorem layBs_sz (L : Lt) : ∀ (bs : List (List St)) (told : Nat) (secs : List Sec) (W : Nat) (found : List D), SecW secs W → found.all D.sh = true → (layBs L told secs found bs).2.length = found.length + szBs W bs ∧ (layBs L told secs found bs).2.all D.sh = true
  | [], told, secs, W, found, h, e => by
    simp only [layBs, szBs]
    exact ⟨rfl, e⟩
  | b :: bs, told, secs, W, found, h, e => by
    simp only [layBs, szBs]
    obtain ⟨e1, e2⟩ := layB_sz L b told secs W found h e
    obtain ⟨g1, g2⟩ := layBs_sz L bs told secs W (layB L told secs found b).2 h e2
    exact ⟨by rw [g1, e1]; omega, g2⟩
end
mutual
theorem rts_ok {letters names : List Str} : ∀ (s : St) (j : Nat), s.ok letters names j true → s.rts = 0
  | .act un x, j, h => by simp only [St.rts]
  | .call x, j, h => by simp only [St.rts]
  | .ret, j, h => by cases j <;> (simp only [St.ok] at h; cases h)
  | .loop b, j, h => by
    cases j with
    | zero => simp only [St.ok] at h
    | succ j => simp only [St.ok] at h; simp only [St.rts]; exact rtsB_ok b j h
  | .choose bs, j, h => by
    cases j with
    | zero => simp only [St.ok] at h
    | succ j => simp only [St.ok] at h; simp only [St.rts]; exact rtsBs_ok bs j h.2.2
  | .ens b c, j, h => by
    cases j with
    | zero => simp only [St.ok] at h
    | succ j => simp only [St.ok] at h; simp only [St.rts]; rw [rtsB_ok b j h.1, rtsB_ok c j h.2]
theorem rtsB_ok {letters names : List Str} : ∀ (b : List St) (j : Nat), okB letters names j true b → rts b = 0
  | [], j, h => by simp only [rts]
  | s :: b, j, h => by
    simp only [okB] at h
    simp only [rts]
    rw [rts_ok s j h.1, rtsB_ok b j h.2]
theorem rtsBs_ok {letters names : List Str} : ∀ (bs : List (List St)) (j : Nat), okBs letters names j true bs → rtss bs = 0
  | [], j, h => by simp only [rtss]
  | b :: bs, j, h => by
    simp only [okBs] at h
    simp only [rtss]
    rw [rtsB_ok b j h.1, rtsBs_ok bs j h.2.2]
end
theorem bnd_add {a b r s x y W : Nat} (h1 : a ≤ x + r * (W + s)) {r2 s2 : Nat} (h2 : b ≤ y + r2 * (W + s2)) : a + b ≤ x + y + (r + r2) * (W + (s + s2)) := by
  have e1 : r * (W + s) ≤ r * (W + (s + s2)) := Nat.mul_le_mul_left _ (by omega)
  have e2 : r2 * (W + s2) ≤ r2 * (W + (s + s2)) := Nat.mul_le_mul_left _ (by omega)
  rw [Nat.add_mul]
  omega
mutual
theorem sz_le {letters names : List Str} : ∀ (s : St) (j : Nat) (sec : Bool) (W : Nat), s.ok letters names j sec → s.sz W ≤ s.cnt + s.rts * (W + s.scs) ∧ s.rts + s.scs ≤ s.cnt
  | .act un x, j, sec, W, h => by simp only [St.sz, St.cnt, St.rts, St.scs]; omega
  | .call x, j, sec, W, h => by simp only [St.sz, St.cnt, St.rts, St.scs]; omega
  | .ret, j, sec, W, h => by simp only [St.sz, St.cnt, St.rts, St.scs]; omega
  | .loop b, j, sec, W, h => by
    cases j with
    | zero => simp only [St.ok] at h
    | succ j =>
      simp only [St.ok] at h
      simp only [St.sz, St.cnt, St.rts, St.scs]
      have := szB_le b j sec W h
      omega
  | .choose bs, j, sec, W, h => by
    cases j with
    | zero => simp only [St.ok] at h
    | succ j =>
      simp only [St.ok] at h
      simp only [St.sz, St.cnt, St.rts, St.scs]
      have := szBs_le bs j sec W h.2.2
      omega
  | .ens b c, j, sec, W, h => by
    cases j with
    | zero => simp only [St.ok] at h
    | succ j =>
      simp only [St.ok] at h
      simp only [St.sz, St.cnt, St.rts, St.scs]
      have h0 := rtsB_ok c j h.2
      obtain ⟨c1, c2⟩ := szB_le c j true 0 h.2
      rw [h0, Nat.zero_mul] at c1
      obtain ⟨b1, b2⟩ := szB_le b j sec (W + szB 0 c) h.1
      rw [show rts b + rts c = rts b by omega]
      have e : rts b * (W + szB 0 c + scs b) ≤ rts b * (W + (scs b + cnt c)) := Nat.mul_le_mul_left _ (by omega)
      omega
theorem szB_le {letters names : List Str} : ∀ (b : List St) (j : Nat) (sec : Bool) (W : Nat), okB letters names j sec b → szB W b ≤ cnt b + rts b * (W + scs b) ∧ rts b + scs b ≤ cnt b
  | [], j, sec, W, h => by simp only [szB, cnt, rts, scs]; omega
  | s :: b, j, sec, W, h => by
    simp only [okB] at h
    simp only [szB, cnt, rts, scs]
    obtain ⟨a1, a2⟩ := sz_le s j sec W h.1
    obtain ⟨b1, b2⟩ := szB_le b j sec W h.2
    exact ⟨bnd_add a1 b1, by omega⟩
theorem szBs_le {letters names : List Str} : ∀ (bs : List (List St)) (j : Nat) (sec : Bool) (W : Nat), okBs letters names j sec bs → szBs W bs ≤ cnts bs + rtss bs * (W + scss bs) ∧ rtss bs + scss bs ≤ cnts bs
  | [], j, sec, W, h => by simp only [szBs, cnts, rtss, scss]; omega
  | b :: bs, j, sec, W, h => by
    simp only [okBs] at h
    simp only [szBs, cnts, rtss, scss]
    obtain ⟨a1, a2⟩ := szB_le b j sec W h.1
    obtain ⟨b1, b2⟩ := szBs_le bs j sec W h.2.2
    exact ⟨bnd_add a1 b1, by omega⟩
end
theorem rs_le {r s n : Nat} (h : r + s ≤ n) (hn : n ≤ 30) : n + r * s ≤ 255 := by
  have k : ∀ r, r ≤ 30 → r * (30 - r) ≤ 225 := by decide
  have e : r * s ≤ r * (30 - r) := Nat.mul_le_mul_left _ (by omega)
  have := k r (by omega)
  omega
/-- a body of at most thirty statements: at most 256 places -/
theorem layB_le {letters names : List Str} {L : Lt} {b : List St} {j : Nat} {told : Nat} (h : okB letters names j false b) (hn : cnt b ≤ 30) : (layB L told [] [.tup [.str "end"]] b).2.length ≤ 256 := by
  rw [(layB_sz L b told [] 0 [.tup [.str "end"]] .nil rfl).1]
  obtain ⟨h1, h2⟩ := szB_le b j false 0 h
  rw [Nat.zero_add] at h1
  have := rs_le h2 hn
  show 1 + szB 0 b ≤ 256
  omega
/-! ### the instance of Layer -/
def keysS (xs : List Str) : List Key := xs.map Sum.inr
def valsS (xs : List Str) (g : Nat → D) : List D := (List.range xs.length).map g
def marksD (xs : List Str) : D := .fz (.dic (keysS xs)) (valsS xs fun i => .int ((i : Int) + 1))
def numsD (xs : List Str) : D := .fz (.dic (keysS xs)) (valsS xs fun i => .int (i : Nat))
theorem val_keysS {x : Str} : ∀ {xs : List Str} {g : Nat → D}, x ∈ xs → D.val (keysS xs) (valsS xs g) (.inr x) = some (g (xs.idxOf x))
  | [], g, h => absurd h List.not_mem_nil
  | y :: xs, g, h => by
    have e : valsS (y :: xs) g = g 0 :: valsS xs fun i => g (i + 1) := by
      unfold valsS
      rw [List.length_cons, List.range_succ_eq_map, List.map_cons, List.map_map]
      rfl
    rw [e]
    show (if (Sum.inr y : Key) = .inr x then some (g 0) else D.val (keysS xs) (valsS xs fun i => g (i + 1)) (.inr x)) = _
    by_cases q : y = x
    · rw [if_pos (by rw [q]), q, List.idxOf_cons_self]
    · rw [if_neg (fun w => q (Sum.inr.inj w)), show (y :: xs).idxOf x = xs.idxOf x + 1 from by rw [List.idxOf_cons, cond_eq_if, if_neg (by simpa using q)]]
      exact val_keysS (g := fun i => g (i + 1)) ((List.mem_cons.mp h).resolve_left (Ne.symm q))
def ltOf (letters names : List Str) : Lt := ⟨fun x => (letters.idxOf x : Nat) + 1, fun x => (names.idxOf x : Nat)⟩
abbrev selfD (aLayer dx : Addr) (letters names : List Str) (found : List D) : D := .ob (.ins aLayer dx ["marks", "numbers", "found"]) [marksD letters, numsD names, .own found]
def secs (L : Lt) (cs : List (List St)) : List Sec := cs.map fun c found told => layB L told [] found c
def fuel : Bool → Nat → Nat
  | true, j => j + 1
  | false, j => j + 9
def okSec (letters names : List Str) (cs : List (List St)) : Prop := ∀ c ∈ cs, ∃ i, i ≤ 7 ∧ okB letters names i true c
/-- what is handed to the layout of a body (of a statement) -/
structure LA where
  letters : List Str
  names : List Str
  found : List D
  told : Nat
  cs : List (List St)
def LA.L (x : LA) : Lt := ltOf x.letters x.names
def LA.fit (x : LA) : Prop := okSec x.letters x.names x.cs ∧ x.found.all D.sh = true
def LA.body (x : LA) (b : List St) : Nat × List D := layB x.L x.told (secs x.L x.cs) x.found b
def LA.st (x : LA) (s : St) : Nat × List D := s.lay x.L x.told (secs x.L x.cs) x.found
theorem secs_snoc {L : Lt} {cs : List (List St)} {c : List St} : secs L (cs ++ [c]) = secs L cs ++ [fun found told => layB L told [] found c] := by
  unfold secs
  rw [List.map_append]
  rfl
theorem secs_W {L : Lt} : ∀ (n : Nat) (cs : List (List St)), cs.length = n → ∃ W, SecW (secs L cs) W
  | 0, cs, h => by
    cases List.eq_nil_of_length_eq_zero h
    exact ⟨0, .nil⟩
  | n + 1, cs, h => by
    have hne : cs ≠ [] := fun e => by rw [e] at h; cases h
    obtain ⟨W, hW⟩ := secs_W n cs.dropLast (L := L) (by rw [List.length_dropLast, h]; rfl)
    rw [← List.dropLast_concat_getLast hne, secs_snoc]
    exact ⟨_, .snoc hW fun f t e => layB_sz L _ t [] 0 f .nil e⟩
/-! ### what the law asks -/
def placesD (p : Prog) : D := .tup (p.procs.map fun q => .tup [.int ((layB (ltOf p.letters p.names) 0 [] [.tup [.str "end"]] q.2).1 : Nat), .tup (layB (ltOf p.letters p.names) 0 [] [.tup [.str "end"]] q.2).2])
/-- the draws: the place, then 300 numbers -/
def Sto (d : D) : Prop := ∃ (k : Nat) (ns : List Int), d = .own (.int (k : Nat) :: ns.map D.int) ∧ ns.length = 300 ∧ k ≤ 300 ∧ ∀ n ∈ ns, 0 ≤ n ∧ n < 27720
mutual
/-- data of None, whole numbers, texts and tuples of them -/
def pure1 : Nat → D → Bool
  | _ + 1, .non => true
  | _ + 1, .int _ => true
  | _ + 1, .str _ => true
  | n + 1, .tup xs => decide (xs.length ≤ 1000000) && pures n xs
  | _, _ => false
def pures : Nat → List D → Bool
  | _, [] => true
  | n, d :: ds => pure1 n d && pures n ds
end
/-- what is handed to the drawing of a body (of a statement) -/
structure DA where
  letters : List Str
  names : List Str
  store : D
  room : Nat
  deep : Nat
  sec : Bool
structure DA.fit (x : DA) : Prop where
  sto : Sto x.store
  l1 : 1 ≤ x.letters.length ∧ x.letters.length ≤ 20
  n1 : 1 ≤ x.names.length ∧ x.names.length ≤ 20
  room : x.room ≤ 30
  deep : x.deep ≤ 6
def DA.args (x : DA) : List D := [x.store, .lst (x.letters.map D.str), .lst (x.names.map D.str), .own [.int (x.room : Nat)], .int (x.deep : Nat), .bl x.sec]
end K12

namespace K12
open PySem PySem.Spec PyProof.Rows L2 BV
def top (i : Nat) : Stmt := PySem.Challenge.pw_undoneall_k12_whole_places.main.body.getD i (.Pass ⟨0, 0, 0, 0⟩)
def k_KEYWORDS : List Str := ["call", "choose", "do", "ensure", "finally", "letters", "loop", "or", "proc", "return", "undo"]
def ns_Layer : List Str := ["marks", "numbers", "found"]
/-- what the text's names stand for -/
structure Tx (K : Fg) (mg : Str → Option Value) (aLayer : Addr) : Prop where
  b_abs : mg "abs" = none
  b_all : mg "all" = none
  b_bool : mg "bool" = none
  b_enumerate : mg "enumerate" = none
  b_int : mg "int" = none
  b_isinstance : mg "isinstance" = none
  b_len : mg "len" = none
  b_range : mg "range" = none
  b_reversed : mg "reversed" = none
  b_set : mg "set" = none
  b_str : mg "str" = none
  b_tuple : mg "tuple" = none
  c_DIGITS : ∃ t, mg "DIGITS" = some (.str "0123456789" t)
  c_KEYWORDS : ∃ a, mg "KEYWORDS" = some (.ref a) ∧ ∀ H, SqT K H a (k_KEYWORDS.map V.str)
  c_LONGEST : ∃ t, mg "LONGEST" = some (.int 10 t)
  c_LONGEST_CHAIN : ∃ t, mg "LONGEST_CHAIN" = some (.int 12 t)
  c_MOST_BODIES : ∃ t, mg "MOST_BODIES" = some (.int 6 t)
  c_MOST_IN_BODY : ∃ t, mg "MOST_IN_BODY" = some (.int 60 t)
  c_MOST_LETTERS : ∃ t, mg "MOST_LETTERS" = some (.int 20 t)
  c_MOST_PLACES : ∃ t, mg "MOST_PLACES" = some (.int 300 t)
  c_MOST_PROCEDURES : ∃ t, mg "MOST_PROCEDURES" = some (.int 8 t)
  c_MOST_STATEMENTS : ∃ t, mg "MOST_STATEMENTS" = some (.int 200 t)
  c_SMALL : ∃ t, mg "SMALL" = some (.str "abcdefghijklmnopqrstuvwxyz" t)
  cls_Layer : Cls K aLayer
  mk_Layer : PySem.W.makesIn K aLayer = true
  kp_Layer : PySem.W.keepIn K (.ref aLayer) = true
  g_Layer : mg "Layer" = some (.ref aLayer)
  na_Layer_marks : NoAttr K aLayer "marks"
  na_Layer_numbers : NoAttr K aLayer "numbers"
  na_Layer_found : NoAttr K aLayer "found"
abbrev s_is_row : Stmt := top 10
abbrev nm_is_row : List Str := ["thing", "low", "high"]
theorem sc_is_row : FnScope nm_is_row ["thing", "low", "high"] (defScope s_is_row) := ⟨rfl, rfl, rfl, by decide +kernel, rfl, by decide +kernel, by decide +kernel⟩
abbrev s_is_name : Stmt := top 11
abbrev nm_is_name : List Str := ["thing", "sign"]
theorem sc_is_name : FnScope nm_is_name ["thing"] (defScope s_is_name) := ⟨rfl, rfl, rfl, by decide +kernel, rfl, by decide +kernel, by decide +kernel⟩
abbrev s_first_double : Stmt := top 12
abbrev nm_first_double : List Str := ["names", "seen", "name"]
theorem sc_first_double : FnScope nm_first_double ["names"] (defScope s_first_double) := ⟨rfl, rfl, rfl, by decide +kernel, rfl, by decide +kernel, by decide +kernel⟩
abbrev s_inner_bodies : Stmt := top 20
abbrev nm_inner_bodies : List Str := ["thing", "word"]
theorem sc_inner_bodies : FnScope nm_inner_bodies ["thing"] (defScope s_inner_bodies) := ⟨rfl, rfl, rfl, by decide +kernel, rfl, by decide +kernel, by decide +kernel⟩
abbrev s_bodies_of : Stmt := top 21
abbrev nm_bodies_of : List Str := ["statement"]
theorem sc_bodies_of : FnScope nm_bodies_of ["statement"] (defScope s_bodies_of) := ⟨rfl, rfl, rfl, by decide +kernel, rfl, by decide +kernel, by decide +kernel⟩
abbrev s_count_of : Stmt := top 22
abbrev nm_count_of : List Str := ["thing", "chain", "room", "count", "statement", "bodies", "body"]
theorem sc_count_of : FnScope nm_count_of ["thing", "chain", "room"] (defScope s_count_of) := ⟨rfl, rfl, rfl, by decide +kernel, rfl, by decide +kernel, by decide +kernel⟩
abbrev s_is_program : Stmt := top 23
abbrev nm_is_program : List Str := ["thing", "room", "procedure", "name"]
theorem sc_is_program : FnScope nm_is_program ["thing"] (defScope s_is_program) := ⟨rfl, rfl, rfl, by decide +kernel, rfl, by decide +kernel, by decide +kernel⟩
abbrev s_need_program : Stmt := top 24
abbrev nm_need_program : List Str := ["program"]
theorem sc_need_program : FnScope nm_need_program ["program"] (defScope s_need_program) := ⟨rfl, rfl, rfl, by decide +kernel, rfl, by decide +kernel, by decide +kernel⟩
abbrev s_own_trouble : Stmt := top 26
abbrev nm_own_trouble : List Str := ["statement", "is_second", "letters", "names", "word"]
theorem sc_own_trouble : FnScope nm_own_trouble ["statement", "is_second", "letters", "names"] (defScope s_own_trouble) := ⟨rfl, rfl, rfl, by decide +kernel, rfl, by decide +kernel, by decide +kernel⟩
abbrev s_trouble_in : Stmt := top 27
abbrev nm_trouble_in : List Str := ["body", "is_second", "letters", "names", "statement", "trouble", "at", "inner"]
theorem sc_trouble_in : FnScope nm_trouble_in ["body", "is_second", "letters", "names"] (defScope s_trouble_in) := ⟨rfl, rfl, rfl, by decide +kernel, rfl, by decide +kernel, by decide +kernel⟩
abbrev s_trouble_of : Stmt := top 28
abbrev nm_trouble_of : List Str := ["program", "letters", "procedures", "names", "word", "some", "double", "name", "body", "trouble"]
theorem sc_trouble_of : FnScope nm_trouble_of ["program"] (defScope s_trouble_of) := ⟨rfl, rfl, rfl, by decide +kernel, rfl, by decide +kernel, by decide +kernel⟩
abbrev s_check : Stmt := top 29
abbrev nm_check : List Str := ["program"]
theorem sc_check : FnScope nm_check ["program"] (defScope s_check) := ⟨rfl, rfl, rfl, by decide +kernel, rfl, by decide +kernel, by decide +kernel⟩
abbrev s_need_checked : Stmt := top 30
abbrev nm_need_checked : List Str := ["program", "what"]
theorem sc_need_checked : FnScope nm_need_checked ["program"] (defScope s_need_checked) := ⟨rfl, rfl, rfl, by decide +kernel, rfl, by decide +kernel, by decide +kernel⟩
abbrev s_Layer___init__ : Stmt := inClass (top 33) 0
abbrev nm_Layer___init__ : List Str := ["self", "marks", "numbers"]
theorem sc_Layer___init__ : FnScope nm_Layer___init__ ["self", "marks", "numbers"] (defScope s_Layer___init__) := ⟨rfl, rfl, rfl, by decide +kernel, rfl, by decide +kernel, by decide +kernel⟩
abbrev s_Layer_make : Stmt := inClass (top 33) 1
abbrev nm_Layer_make : List Str := ["self", "place"]
theorem sc_Layer_make : FnScope nm_Layer_make ["self", "place"] (defScope s_Layer_make) := ⟨rfl, rfl, rfl, by decide +kernel, rfl, by decide +kernel, by decide +kernel⟩
abbrev s_Layer_body : Stmt := inClass (top 33) 2
abbrev nm_Layer_body : List Str := ["self", "statements", "told", "seconds", "begin", "statement"]
theorem sc_Layer_body : FnScope nm_Layer_body ["self", "statements", "told", "seconds"] (defScope s_Layer_body) := ⟨rfl, rfl, rfl, by decide +kernel, rfl, by decide +kernel, by decide +kernel⟩
abbrev s_Layer_statement : Stmt := inClass (top 33) 3
abbrev nm_Layer_statement : List Str := ["self", "statement", "told", "seconds", "word", "mark", "nexts", "fork", "begin", "second", "behind", "one"]
theorem sc_Layer_statement : FnScope nm_Layer_statement ["self", "statement", "told", "seconds"] (defScope s_Layer_statement) := ⟨rfl, rfl, rfl, by decide +kernel, rfl, by decide +kernel, by decide +kernel⟩
abbrev s_laid : Stmt := top 34
abbrev nm_laid : List Str := ["program", "letters", "procedures", "marks", "numbers", "found", "name", "body", "layer", "begin", "index"]
theorem sc_laid : FnScope nm_laid ["program"] (defScope s_laid) := ⟨rfl, rfl, rfl, by decide +kernel, rfl, by decide +kernel, by decide +kernel⟩
abbrev s_places : Stmt := top 35
abbrev nm_places : List Str := ["program"]
theorem sc_places : FnScope nm_places ["program"] (defScope s_places) := ⟨rfl, rfl, rfl, by decide +kernel, rfl, by decide +kernel, by decide +kernel⟩
abbrev s__law_store : Stmt := top 37
abbrev nm__law_store : List Str := ["cells", "lot", "many", "mixed", "rest", "at", "store", "turn", "cell", "digit"]
theorem sc__law_store : FnScope nm__law_store ["cells", "lot", "many"] (defScope s__law_store) := ⟨rfl, rfl, rfl, by decide +kernel, rfl, by decide +kernel, by decide +kernel⟩
abbrev s__law_pick : Stmt := top 38
abbrev nm__law_pick : List Str := ["store", "many", "at", "k"]
theorem sc__law_pick : FnScope nm__law_pick ["store", "many"] (defScope s__law_pick) := ⟨rfl, rfl, rfl, by decide +kernel, rfl, by decide +kernel, by decide +kernel⟩
abbrev s__law_same : Stmt := top 39
abbrev nm__law_same : List Str := ["found", "due", "k"]
theorem sc__law_same : FnScope nm__law_same ["found", "due"] (defScope s__law_same) := ⟨rfl, rfl, rfl, by decide +kernel, rfl, by decide +kernel, by decide +kernel⟩
abbrev s__law_names : Stmt := top 40
abbrev nm__law_names : List Str := ["store", "many", "first", "base", "at", "signs", "start", "k"]
theorem sc__law_names : FnScope nm__law_names ["store", "many", "first"] (defScope s__law_names) := ⟨rfl, rfl, rfl, by decide +kernel, rfl, by decide +kernel, by decide +kernel⟩
abbrev s__law_body : Stmt := top 41
abbrev nm__law_body : List Str := ["store", "letters", "names", "room", "deep", "second", "found", "turn"]
theorem sc__law_body : FnScope nm__law_body ["store", "letters", "names", "room", "deep", "second"] (defScope s__law_body) := ⟨rfl, rfl, rfl, by decide +kernel, rfl, by decide +kernel, by decide +kernel⟩
abbrev s__law_statement : Stmt := top 42
abbrev nm__law_statement : List Str := ["store", "letters", "names", "room", "deep", "second", "kind", "many", "body", "k"]
theorem sc__law_statement : FnScope nm__law_statement ["store", "letters", "names", "room", "deep", "second"] (defScope s__law_statement) := ⟨rfl, rfl, rfl, by decide +kernel, rfl, by decide +kernel, by decide +kernel⟩
abbrev s__law_program : Stmt := top 43
abbrev nm__law_program : List Str := ["store", "most", "size", "letters", "names", "room", "procedures", "deep", "name"]
theorem sc__law_program : FnScope nm__law_program ["store", "most", "size"] (defScope s__law_program) := ⟨rfl, rfl, rfl, by decide +kernel, rfl, by decide +kernel, by decide +kernel⟩
abbrev s__law_lay : Stmt := top 44
abbrev nm__law_lay : List Str := ["program", "body", "told", "found", "seconds", "letters", "names", "begin", "statement", "word", "goal", "second", "inner", "behind", "made", "procedure", "one"]
theorem sc__law_lay : FnScope nm__law_lay ["program", "body", "told", "found", "seconds"] (defScope s__law_lay) := ⟨rfl, rfl, rfl, by decide +kernel, rfl, by decide +kernel, by decide +kernel⟩
abbrev s__law_places : Stmt := top 45
abbrev nm__law_places : List Str := ["program", "table", "name", "body", "found", "begin"]
theorem sc__law_places : FnScope nm__law_places ["program"] (defScope s__law_places) := ⟨rfl, rfl, rfl, by decide +kernel, rfl, by decide +kernel, by decide +kernel⟩
def F_is_row : FS := FS.ex (α := D × List D × Int × Int) (fun x => [x.1, .int x.2.2.1, .int x.2.2.2]) (fun x => x.1.isTup = true ∧ x.1.seq = some x.2.1 ∧ x.1.kd = false ∧ x.1.sh = true) (fun x r o => r = .bl (decide (x.2.2.1 ≤ (x.2.1.length : Nat)) && decide (((x.2.1.length : Nat) : Int) ≤ x.2.2.2)) ∧ o = [])
def F_is_name : FS := FS.ex (α := Str) (fun x => [.str x]) RN (fun _ r o => r = .bl true ∧ o = [])
def F_first_double : FS := FS.ex (α := D × List Str) (fun x => [x.1]) (fun x => x.1.seq = some (x.2.map D.str) ∧ x.1.sh = true ∧ x.2.Nodup ∧ x.2.length ≤ 20) (fun _ r o => r = .non ∧ o = [])
def F_inner : FS := FS.ex (α := St) (fun s => [s.d]) St.fit (fun s r o => r = .tup (s.bodies.map bodyD) ∧ o = [])
def F_bodies : FS := FS.ex (α := St) (fun s => [s.d]) St.fit (fun s r o => r = .tup (s.bodies.map bodyD) ∧ o = [])
def F_countJ (f : Nat) : FS := FS.ex (α := List St × Nat × Nat) (fun x => [bodyD x.1, .int (x.2.1 : Nat), .int (x.2.2 : Nat)]) (fun x => (∃ letters names j sec, Nms letters names ∧ okB letters names j sec x.1 ∧ j < f ∧ j < x.2.1) ∧ cnt x.1 ≤ x.2.2 ∧ cnt x.1 ≤ 60) (fun x r o => r = .int (cnt x.1 : Nat) ∧ o = [])
def F_is_program : FS := FS.ex (α := Prog) (fun p => [p.d]) Prog.WF (fun _ r o => r = .bl true ∧ o = [])
def F_need : FS := FS.ex (α := Prog) (fun p => [p.d]) Prog.WF (fun _ r o => r = .non ∧ o = [])
def F_own_trouble : FS := FS.ex (α := St × Bool × Prog) (fun x => [x.1.d, .bl x.2.1, x.2.2.lD, x.2.2.nD]) (fun x => ∃ j, x.1.ok x.2.2.letters x.2.2.names j x.2.1) (fun _ r o => r = .non ∧ o = [])
def F_troubleJ (f : Nat) : FS := FS.ex (α := List St × Bool × Prog) (fun x => [bodyD x.1, .bl x.2.1, x.2.2.lD, x.2.2.nD]) (fun x => Nms x.2.2.letters x.2.2.names ∧ ∃ j, j < f ∧ okB x.2.2.letters x.2.2.names j x.2.1 x.1) (fun _ r o => r = .non ∧ o = [])
def F_trouble_of : FS := FS.ex (α := Prog) (fun p => [p.d]) Prog.WF (fun _ r o => r = .non ∧ o = [])
def F_check : FS := FS.ex (α := Prog) (fun p => [p.d]) Prog.WF (fun _ r o => r = .non ∧ o = [])
def F_need_checked : FS := FS.ex (α := Prog) (fun p => [p.d]) Prog.WF (fun _ r o => r = .non ∧ o = [])
def F_init (aLayer : Addr) : FS := FS.ex (α := Addr × D × D) (fun x => [.ob (.ins aLayer x.1 []) [], x.2.1, x.2.2]) (fun x => x.2.1.sh = true ∧ x.2.2.sh = true) (fun x r o => r = .non ∧ o = [.ob (.ins aLayer x.1 ["marks", "numbers", "found"]) [x.2.1, x.2.2, .own [.tup [.str "end"]]]])
def F_make (aLayer : Addr) : FS := FS.ex (α := Addr × List Str × List Str × List D × D) (fun x => [selfD aLayer x.1 x.2.1 x.2.2.1 x.2.2.2.1, x.2.2.2.2]) (fun x => x.2.2.2.1.length < 300 ∧ x.2.2.2.2.sh = true) (fun x r o => r = .int (x.2.2.2.1.length : Nat) ∧ o = [selfD aLayer x.1 x.2.1 x.2.2.1 (x.2.2.2.1 ++ [x.2.2.2.2])])
def F_lbodyJ (aLayer : Addr) (f : Nat) : FS := FS.ex (α := Addr × LA × List St) (fun x => [selfD aLayer x.1 x.2.1.letters x.2.1.names x.2.1.found, bodyD x.2.2, .int (x.2.1.told : Nat), .tup (x.2.1.cs.map bodyD)]) (fun x => (∃ j sec, okB x.2.1.letters x.2.1.names j sec x.2.2 ∧ fuel sec j ≤ f ∧ j ≤ 7) ∧ x.2.1.fit ∧ (x.2.1.body x.2.2).2.length ≤ 300 ∧ x.2.1.cs.length + f ≤ 100) (fun x r o => r = .int ((x.2.1.body x.2.2).1 : Nat) ∧ o = [selfD aLayer x.1 x.2.1.letters x.2.1.names (x.2.1.body x.2.2).2])
def F_lstmtJ (aLayer : Addr) (f : Nat) : FS := FS.ex (α := Addr × LA × St) (fun x => [selfD aLayer x.1 x.2.1.letters x.2.1.names x.2.1.found, x.2.2.d, .int (x.2.1.told : Nat), .tup (x.2.1.cs.map bodyD)]) (fun x => (∃ j sec, x.2.2.ok x.2.1.letters x.2.1.names j sec ∧ fuel sec j ≤ f ∧ j ≤ 7) ∧ x.2.1.fit ∧ (x.2.1.st x.2.2).2.length ≤ 300 ∧ x.2.1.cs.length + f ≤ 100) (fun x r o => r = .int ((x.2.1.st x.2.2).1 : Nat) ∧ o = [selfD aLayer x.1 x.2.1.letters x.2.1.names (x.2.1.st x.2.2).2])
def F_laid : FS := FS.ex (α := Prog) (fun p => [p.d]) Prog.WF (fun p r o => r = placesD p ∧ o = [])
def F_places : FS := FS.ex (α := Prog) (fun p => [p.d]) Prog.WF (fun p r o => r = placesD p ∧ o = [])
def F_store : FS := FS.ex (α := List Int × Nat) (fun x => [.lst (x.1.map D.int), .int (x.2 : Nat), .int 300]) (fun x => x.2 ≤ 3) (fun _ r o => Sto r ∧ o = [])
def F_pick : FS := FS.ex (α := D × Int) (fun x => [x.1, .int x.2]) (fun x => Sto x.1 ∧ 1 ≤ x.2 ∧ x.2 ≤ 27720) (fun x r o => ∃ (k : Nat) (s : D), r = .int (k : Nat) ∧ (k : Int) < x.2 ∧ o = [s] ∧ Sto s)
def F_sameJ (j : Nat) : FS := FS.ex (α := D) (fun d => [d, d]) (fun d => pure1 j d = true) (fun _ r o => r = .bl true ∧ o = [])
def F_names : FS := FS.ex (α := D × Nat × Str) (fun x => [x.1, .int (x.2.1 : Nat), .str x.2.2]) (fun x => Sto x.1 ∧ 1 ≤ x.2.1 ∧ x.2.1 ≤ 20 ∧ (x.2.2 = "l" ∨ x.2.2 = "p")) (fun x r o => ∃ (ns : List Str) (s : D), r = .own (ns.map D.str) ∧ ns.length = x.2.1 ∧ ns.Nodup ∧ (∀ n ∈ ns, RN n) ∧ o = [s] ∧ Sto s)
def F_dbodyJ (f : Nat) : FS := FS.ex (α := DA) DA.args (fun x => x.fit ∧ x.deep < f) (fun x r o => ∃ (b : List St) (s : D) (m : Nat), r = bodyD b ∧ okB x.letters x.names x.deep x.sec b ∧ b.length ≤ 4 ∧ cnt b + m = x.room ∧ o = [s, .own [.int (m : Nat)]] ∧ Sto s)
def F_dstmtJ (f : Nat) : FS := FS.ex (α := DA) DA.args (fun x => x.fit ∧ x.deep < f) (fun x r o => ∃ (t : St) (s : D) (m : Nat), r = t.d ∧ t.ok x.letters x.names x.deep x.sec ∧ t.cnt + m = x.room + 1 ∧ o = [s, .own [.int (m : Nat)]] ∧ Sto s)
def F_program : FS := FS.ex (α := D × Nat) (fun x => [x.1, .int (x.2 : Nat), .int 30]) (fun x => Sto x.1 ∧ 1 ≤ x.2 ∧ x.2 ≤ 8) (fun x r o => ∃ (p : Prog) (s : D), r = p.d ∧ p.WF ∧ o = [s] ∧ Sto s)
def F_layJ (f : Nat) : FS := FS.ex (α := Prog × LA × List St) (fun x => [x.1.d, bodyD x.2.2, .int (x.2.1.told : Nat), .own x.2.1.found, .lst (x.2.1.cs.map bodyD)]) (fun x => (x.2.1.letters = x.1.letters ∧ x.2.1.names = x.1.names ∧ x.1.procs.length ≤ 8) ∧ (∃ j sec, okB x.2.1.letters x.2.1.names j sec x.2.2 ∧ fuel sec j ≤ f ∧ j ≤ 7) ∧ x.2.1.fit ∧ (x.2.1.body x.2.2).2.length ≤ 300 ∧ x.2.1.cs.length + f ≤ 100) (fun x r o => r = .int ((x.2.1.body x.2.2).1 : Nat) ∧ o = [.own (x.2.1.body x.2.2).2])
def F_lplaces : FS := FS.ex (α := Prog) (fun p => [p.d]) Prog.WF (fun p r o => r = placesD p ∧ o = [])


def x_is_row : XS := (xRet (xAndV (xIsi D.isTup (xName 0)) (xChain (fun i j => decide (i ≤ j)) (fun i j => decide (i ≤ j)) (xName 1) (xCal len1 (xCons (xName 0) xNil)) (xName 2))))
def x_is_name : XS := (xSeq (xIfS (xOr (xNot (xTru (xIsi D.isStr (xName 0)))) (xOr (xNot (xTst (xChain (fun i j => decide (i ≤ j)) (fun i j => decide (i ≤ j)) (xC (.int 1)) (xCal len1 (xCons (xName 0) xNil)) (xC (.int 10))))) (xTst (xBin (inD false) (xName 0) (xC (.tup (k_KEYWORDS.map D.str))))))) (xRet (xC (.bl false))) xNext)
    (xRet (xAndV (xBin (inTD false) (xBin ixD (xName 0) (xC (.int 0))) (xC (.str "abcdefghijklmnopqrstuvwxyz"))) (xCal (allB fun bs => bs.all id) (xCons (xLc (xiStr (xName 0)) (xgName 1) xYes (xOrV (xBin (inTD false) (xName 1) (xC (.str "abcdefghijklmnopqrstuvwxyz"))) (xBin (inTD false) (xName 1) (xC (.str "0123456789")))) [1]) xNil)))))
def x_first_double (P : Program) (w : World) : XS := (xSeq (xAsg (xSet0 P w) (xgName 1))
    (xSeq (xFor (xiSeq (xName 0)) (xgName 2) (xSeq (xIfS (xTst (xSIn P w false 1 (xName 2))) (xRet (xName 2)) xNext)
    (xDo (xSAdd P w 1 (xName 2)))))
    (xRet (xC .non))))
def x_inner_bodies : XS := (xSeq (xIfS (xOr (xNot (xTru (xCall F_is_row [] (xCons (xName 0) (xCons (xC (.int 1)) (xCons (xC (.int 3)) xNil)))))) (xNot (xTru (xIsi D.isStr (xBin ixD (xName 0) (xC (.int 0))))))) (xRet (xC .non)) xNext)
    (xSeq (xAsg (xBin ixD (xName 0) (xC (.int 0))) (xgName 1))
    (xSeq (xIfS (xTst (xBin (inD false) (xName 1) (xTup (xCons (xC (.str "do")) (xCons (xC (.str "undo")) (xCons (xC (.str "call")) xNil)))))) (xRet (xIf (xAnd (xTst (xBin (fun d e => (eqD d e).map D.bl) (xCal len1 (xCons (xName 0) xNil)) (xC (.int 2)))) (xTru (xCall F_is_name [] (xCons (xBin ixD (xName 0) (xC (.int 1))) xNil)))) (xTup xNil) (xC .non))) xNext)
    (xSeq (xIfS (xTst (xBin (fun d e => (eqD d e).map D.bl) (xName 1) (xC (.str "choose")))) (xRet (xIf (xAnd (xTst (xBin (fun d e => (eqD d e).map D.bl) (xCal len1 (xCons (xName 0) xNil)) (xC (.int 2)))) (xTru (xCall F_is_row [] (xCons (xBin ixD (xName 0) (xC (.int 1))) (xCons (xC (.int 2)) (xCons (xC (.int 6)) xNil)))))) (xBin ixD (xName 0) (xC (.int 1))) (xC .non))) xNext)
    (xSeq (xIfS (xTst (xBin (fun d e => (eqD d e).map D.bl) (xName 1) (xC (.str "loop")))) (xRet (xIf (xTst (xBin (fun d e => (eqD d e).map D.bl) (xCal len1 (xCons (xName 0) xNil)) (xC (.int 2)))) (xSl (xName 0) (xoSome (xC (.int 1))) xoNone) (xC .non))) xNext)
    (xSeq (xIfS (xTst (xBin (fun d e => (eqD d e).map D.bl) (xName 1) (xC (.str "return")))) (xRet (xIf (xTst (xBin (fun d e => (eqD d e).map D.bl) (xCal len1 (xCons (xName 0) xNil)) (xC (.int 1)))) (xTup xNil) (xC .non))) xNext)
    (xRet (xIf (xAnd (xTst (xBin (fun d e => (eqD d e).map D.bl) (xName 1) (xC (.str "ensure")))) (xTst (xBin (fun d e => (eqD d e).map D.bl) (xCal len1 (xCons (xName 0) xNil)) (xC (.int 3))))) (xSl (xName 0) (xoSome (xC (.int 1))) xoNone) (xC .non)))))))))
def x_bodies_of : XS := (xRet (xCall F_inner [] (xCons (xName 0) xNil)))
def x_count_of (j : Nat) : XS := (xSeq (xIfS (xOr (xNot (xTru (xCall F_is_row [] (xCons (xName 0) (xCons (xC (.int 0)) (xCons (xC (.int 60)) xNil)))))) (xAnd (xTst (xBin (fun d e => (eqD d e).map fun b => D.bl (!b)) (xName 0) (xTup xNil))) (xTst (xBin (fun d e => (eqD d e).map D.bl) (xName 1) (xC (.int 0)))))) (xRet (xBin addD (xName 2) (xC (.int 1)))) xNext)
    (xSeq (xAsg (xC (.int 0)) (xgName 3))
    (xSeq (xFor (xiSeq (xName 0)) (xgName 4) (xSeq (xAsg (xCall F_inner [] (xCons (xName 4) xNil)) (xgName 5))
    (xSeq (xIfS (xTst (xFn (fun d => .bl d.isNon) (xName 5))) (xRet (xBin addD (xName 2) (xC (.int 1)))) xNext)
    (xSeq (xAug (fun i j => i + j) 3 (xC (.int 1)))
    (xFor (xiSeq (xName 5)) (xgName 6) (xSeq (xAug (fun i j => i + j) 3 (xCall (F_countJ j) [] (xCons (xName 6) (xCons (xBin subD (xName 1) (xC (.int 1))) (xCons (xBin subD (xName 2) (xName 3)) xNil)))))
    (xIfS (xTst (xBin gtD (xName 3) (xName 2))) (xRet (xName 3)) xNext)))))))
    (xRet (xName 3)))))
def x_is_program : XS := (xSeq (xIfS (xOr (xNot (xTru (xCall F_is_row [] (xCons (xName 0) (xCons (xC (.int 2)) (xCons (xC (.int 2)) xNil)))))) (xOr (xNot (xTru (xCall F_is_row [] (xCons (xBin ixD (xName 0) (xC (.int 0))) (xCons (xC (.int 1)) (xCons (xC (.int 20)) xNil)))))) (xNot (xTru (xCall F_is_row [] (xCons (xBin ixD (xName 0) (xC (.int 1))) (xCons (xC (.int 1)) (xCons (xC (.int 8)) xNil)))))))) (xRet (xC (.bl false))) xNext)
    (xSeq (xIfS (xNot (xTru (xCal (allB fun bs => bs.all id) (xCons (xLc (xiSeq (xBin ixD (xName 0) (xC (.int 0)))) (xgName 3) xYes (xCall F_is_name [] (xCons (xName 3) xNil)) [3]) xNil)))) (xRet (xC (.bl false))) xNext)
    (xSeq (xAsg (xC (.int 200)) (xgName 1))
    (xSeq (xFor (xiSeq (xBin ixD (xName 0) (xC (.int 1)))) (xgName 2) (xSeq (xIfS (xOr (xNot (xTru (xCall F_is_row [] (xCons (xName 2) (xCons (xC (.int 2)) (xCons (xC (.int 2)) xNil)))))) (xNot (xTru (xCall F_is_name [] (xCons (xBin ixD (xName 2) (xC (.int 0))) xNil))))) (xRet (xC (.bl false))) xNext)
    (xSeq (xAug (fun i j => i - j) 1 (xCall (F_countJ 13) [] (xCons (xBin ixD (xName 2) (xC (.int 1))) (xCons (xC (.int 12)) (xCons (xName 1) xNil)))))
    (xIfS (xTst (xBin ltD (xName 1) (xC (.int 0)))) (xRet (xC (.bl false))) xNext))))
    (xRet (xC (.bl true)))))))
def x_need_program : XS := (xIfS (xNot (xTru (xCall F_is_program [] (xCons (xName 0) xNil)))) xNever xNext)
def x_own_trouble : XS := (xSeq (xAsg (xBin ixD (xName 0) (xC (.int 0))) (xgName 4))
    (xSeq (xIfS (xAnd (xTst (xBin (inD false) (xName 4) (xTup (xCons (xC (.str "do")) (xCons (xC (.str "undo")) xNil))))) (xTst (xBin (inD true) (xBin ixD (xName 0) (xC (.int 1))) (xName 2)))) (xRet (xC (.str "letter"))) xNext)
    (xSeq (xIfS (xAnd (xTst (xBin (fun d e => (eqD d e).map D.bl) (xName 4) (xC (.str "call")))) (xTst (xBin (inD true) (xBin ixD (xName 0) (xC (.int 1))) (xName 3)))) (xRet (xC (.str "call"))) xNext)
    (xRet (xIf (xAnd (xTst (xBin (fun d e => (eqD d e).map D.bl) (xName 4) (xC (.str "return")))) (xTru (xName 1))) (xC (.str "return")) (xC .non))))))
def x_trouble_in (j : Nat) : XS := (xSeq (xFor (xiSeq (xName 0)) (xgName 4) (xSeq (xAsg (xCall F_own_trouble [] (xCons (xName 4) (xCons (xName 1) (xCons (xName 2) (xCons (xName 3) xNil))))) (xgName 5))
    (xSeq (xIfS (xTst (xFn (fun d => .bl (!d.isNon)) (xName 5))) (xRet (xName 5)) xNext)
    (xFor (xiEnum (xCons (xCall F_bodies [] (xCons (xName 4) xNil)) xNil)) (xgTup 2 (xgCons (xgName 6) (xgCons (xgName 7) xgNil))) (xSeq (xAsg (xCall (F_troubleJ j) [] (xCons (xName 7) (xCons (xOrV (xName 1) (xAndV (xBin (fun d e => (eqD d e).map D.bl) (xBin ixD (xName 4) (xC (.int 0))) (xC (.str "ensure"))) (xBin (fun d e => (eqD d e).map D.bl) (xName 6) (xC (.int 1))))) (xCons (xName 2) (xCons (xName 3) xNil))))) (xgName 5))
    (xIfS (xTst (xFn (fun d => .bl (!d.isNon)) (xName 5))) (xRet (xName 5)) xNext))))))
    (xRet (xC .non)))
def x_trouble_of : XS := (xSeq (xAsg (xName 0) (xgTup 2 (xgCons (xgName 1) (xgCons (xgName 2) xgNil))))
    (xSeq (xAsg (xFrz (xLc (xiSeq (xName 2)) (xgTup 2 (xgCons (xgName 7) (xgCons (xgName 8) xgNil))) xYes (xName 7) [7, 8])) (xgName 3))
    (xSeq (xFor (xiSeq (xTup (xCons (xTup (xCons (xC (.str "letter")) (xCons (xName 1) xNil))) (xCons (xTup (xCons (xC (.str "double")) (xCons (xName 3) xNil))) xNil)))) (xgTup 2 (xgCons (xgName 4) (xgCons (xgName 5) xgNil))) (xSeq (xAsg (xCall F_first_double [] (xCons (xName 5) xNil)) (xgName 6))
    (xIfS (xTst (xFn (fun d => .bl (!d.isNon)) (xName 6))) (xRet (xTup (xCons (xName 4) (xCons (xName 6) xNil)))) xNext)))
    (xSeq (xFor (xiSeq (xName 2)) (xgTup 2 (xgCons (xgName 7) (xgCons (xgName 8) xgNil))) (xSeq (xAsg (xCall (F_troubleJ 13) [] (xCons (xName 8) (xCons (xC (.bl false)) (xCons (xName 1) (xCons (xName 3) xNil))))) (xgName 9))
    (xIfS (xTst (xFn (fun d => .bl (!d.isNon)) (xName 9))) (xRet (xTup (xCons (xName 9) (xCons (xName 7) xNil)))) xNext)))
    (xRet (xC .non))))))
def x_check : XS := (xSeq (xDo (xCall F_need [] (xCons (xName 0) xNil)))
    (xRet (xCall F_trouble_of [] (xCons (xName 0) xNil))))
def x_need_checked : XS := (xSeq (xAsg (xCall F_check [] (xCons (xName 0) xNil)) (xgName 1))
    (xIfS (xTst (xFn (fun d => .bl (!d.isNon)) (xName 1))) xNever xNext))
def x_Layer___init__ (aLayer : Addr) : XS := (xSeq (xFAdd 0 aLayer ([] : List Str) "marks" (xName 1))
    (xSeq (xFAdd 0 aLayer (["marks"] : List Str) "numbers" (xName 2))
    (xFAdd 0 aLayer (["marks", "numbers"] : List Str) "found" (xLst (xCons (xTup (xCons (xC (.str "end")) xNil)) xNil)))))
def x_Layer_make (aLayer : Addr) : XS := (xSeq (xIfS (xTst (xBin (fun d e => (eqD d e).map D.bl) (xFLen 0 aLayer ns_Layer 2) (xC (.int 300)))) xNever xNext)
    (xSeq (xDo (xFApp 0 aLayer ns_Layer 2 1))
    (xRet (xBin subD (xFLen 0 aLayer ns_Layer 2) (xC (.int 1))))))
def x_Layer_body (aLayer : Addr) (j : Nat) : XS := (xSeq (xAsg (xName 2) (xgName 4))
    (xSeq (xFor (xiRev (xName 1)) (xgName 5) (xAsg (xMeth (F_lstmtJ aLayer j) [some 0] 0 aLayer ns_Layer (xCons (xName 5) (xCons (xName 4) (xCons (xName 3) xNil)))) (xgName 4)))
    (xRet (xName 4))))
def x_Layer_statement (aLayer : Addr) (j : Nat) : XS := (xSeq (xAsg (xBin ixD (xName 1) (xC (.int 0))) (xgName 4))
    (xSeq (xIfS (xOr (xTst (xBin (fun d e => (eqD d e).map D.bl) (xName 4) (xC (.str "do")))) (xTst (xBin (fun d e => (eqD d e).map D.bl) (xName 4) (xC (.str "undo"))))) (xSeq (xAsg (xBin dixD (xFld 0 aLayer ns_Layer 0) (xBin ixD (xName 1) (xC (.int 1)))) (xgName 5))
    (xRet (xMeth (F_make aLayer) [some 0] 0 aLayer ns_Layer (xCons (xTup (xCons (xC (.str "letter")) (xCons (xIf (xTst (xBin (fun d e => (eqD d e).map D.bl) (xName 4) (xC (.str "do")))) (xName 5) (xUn negD (xName 5))) (xCons (xName 2) xNil)))) xNil)))) xNext)
    (xSeq (xIfS (xTst (xBin (fun d e => (eqD d e).map D.bl) (xName 4) (xC (.str "call")))) (xRet (xMeth (F_make aLayer) [some 0] 0 aLayer ns_Layer (xCons (xTup (xCons (xC (.str "call")) (xCons (xBin dixD (xFld 0 aLayer ns_Layer 1) (xBin ixD (xName 1) (xC (.int 1)))) (xCons (xName 2) xNil)))) xNil))) xNext)
    (xSeq (xIfS (xTst (xBin (fun d e => (eqD d e).map D.bl) (xName 4) (xC (.str "choose")))) (xSeq (xAsg (xFrz (xLc (xiSeq (xBin ixD (xName 1) (xC (.int 1)))) (xgName 11) xYes (xMeth (F_lbodyJ aLayer j) [some 0] 0 aLayer ns_Layer (xCons (xName 11) (xCons (xName 2) (xCons (xName 3) xNil)))) [11])) (xgName 6))
    (xRet (xMeth (F_make aLayer) [some 0] 0 aLayer ns_Layer (xCons (xTup (xCons (xC (.str "fork")) (xCons (xCal tuple1 (xCons (xName 6) xNil)) xNil))) xNil)))) xNext)
    (xSeq (xIfS (xTst (xBin (fun d e => (eqD d e).map D.bl) (xName 4) (xC (.str "loop")))) (xSeq (xAsg (xMeth (F_make aLayer) [some 0] 0 aLayer ns_Layer (xCons (xC .non) xNil)) (xgName 7))
    (xSeq (xAsg (xTup (xCons (xC (.str "fork")) (xCons (xTup (xCons (xMeth (F_lbodyJ aLayer j) [some 0] 0 aLayer ns_Layer (xCons (xBin ixD (xName 1) (xC (.int 1))) (xCons (xName 7) (xCons (xName 3) xNil)))) (xCons (xName 2) xNil))) xNil))) (xFSet 0 aLayer ns_Layer 2 7))
    (xRet (xName 7)))) xNext)
    (xSeq (xIfS (xTst (xBin (fun d e => (eqD d e).map D.bl) (xName 4) (xC (.str "return")))) (xSeq (xAsg (xC (.int 0)) (xgName 8))
    (xSeq (xFor (xiSeq (xName 3)) (xgName 9) (xAsg (xMeth (F_lbodyJ aLayer j) [some 0] 0 aLayer ns_Layer (xCons (xName 9) (xCons (xName 8) (xCons (xTup xNil) xNil)))) (xgName 8)))
    (xRet (xName 8)))) xNext)
    (xSeq (xAsg (xMeth (F_lbodyJ aLayer j) [some 0] 0 aLayer ns_Layer (xCons (xBin ixD (xName 1) (xC (.int 2))) (xCons (xName 2) (xCons (xTup xNil) xNil)))) (xgName 10))
    (xRet (xMeth (F_lbodyJ aLayer j) [some 0] 0 aLayer ns_Layer (xCons (xBin ixD (xName 1) (xC (.int 1))) (xCons (xName 10) (xCons (xBin addD (xName 3) (xTup (xCons (xBin ixD (xName 1) (xC (.int 2))) xNil))) xNil))))))))))))
def x_laid (aLayer : Addr) : XS := (xSeq (xAsg (xName 0) (xgTup 2 (xgCons (xgName 1) (xgCons (xgName 2) xgNil))))
    (xSeq (xAsg (xFrz (xDc (xiEnum (xCons (xName 1) xNil)) (xgTup 2 (xgCons (xgName 10) (xgCons (xgName 6) xgNil))) xYes (xName 6) (xBin addD (xName 10) (xC (.int 1))) [10, 6])) (xgName 3))
    (xSeq (xAsg (xFrz (xDc (xiEnum (xCons (xName 2) xNil)) (xgTup 2 (xgCons (xgName 10) (xgCons (xgTup 2 (xgCons (xgName 6) (xgCons (xgName 7) xgNil))) xgNil))) xYes (xName 6) (xName 10) [10, 6, 7])) (xgName 4))
    (xSeq (xAsg (xLst xNil) (xgName 5))
    (xSeq (xFor (xiSeq (xName 2)) (xgTup 2 (xgCons (xgName 6) (xgCons (xgName 7) xgNil))) (xSeq (xAsg (xMake (F_init aLayer) aLayer (xCons (xName 3) (xCons (xName 4) xNil))) (xgName 8))
    (xSeq (xAsg (xMeth (F_lbodyJ aLayer 16) [some 8] 8 aLayer ns_Layer (xCons (xName 7) (xCons (xC (.int 0)) (xCons (xTup xNil) xNil)))) (xgName 9))
    (xDo (xApp 5 (xTup (xCons (xName 9) (xCons (xFTup 8 aLayer ns_Layer 2) xNil))))))))
    (xRet (xTupS 5)))))))
def x_places : XS := (xSeq (xDo (xCall F_need_checked [] (xCons (xName 0) xNil)))
    (xRet (xCall F_laid [] (xCons (xName 0) xNil))))
def x__law_store : XS := (xSeq (xTupAsg 4 (xCons (xBin addD (xC (.int 11)) (xBin mulD (xC (.int 97)) (xName 1))) (xCons (xC (.int 0)) (xCons (xC (.int 0)) (xCons (xLst (xCons (xC (.int 0)) xNil)) xNil)))) (xgCons (xgName 3) (xgCons (xgName 4) (xgCons (xgName 5) (xgCons (xgName 6) xgNil)))))
    (xSeq (xFor (xiRng1 (xCons (xName 2) xNil)) (xgName 7) (xSeq (xIfS (xAnd (xTst (xBin (fun d e => (eqD d e).map D.bl) (xName 4) (xC (.int 0)))) (xTst (xBin ltD (xName 5) (xCal len1 (xCons (xName 0) xNil))))) (xSeq (xAsg (xCal abs1 (xCons (xCal int1 (xCons (xBin ixD (xName 0) (xName 5)) xNil)) xNil)) (xgName 8))
    (xSeq (xAsg (xBin addD (xName 5) (xC (.int 1))) (xgName 5))
    (xSeq (xAsg (xBin modD (xCal int1 (xCons (xBin addD (xBin addD (xBin mulD (xName 3) (xC (.int 69621))) (xName 8)) (xBin mulD (xC (.int 13)) (xName 5))) xNil)) (xC (.int 2147483629))) (xgName 3))
    (xAsg (xBin mulD (xName 8) (xCal int1 (xCons (xBin geD (xName 8) (xBin powD (xC (.int 10)) (xC (.int 18)))) xNil))) (xgName 4))))) xNext)
    (xSeq (xAsg (xBin modD (xCal int1 (xCons (xBin addD (xBin addD (xBin mulD (xName 3) (xC (.int 69069))) (xBin mulD (xBin mulD (xName 7) (xName 7)) (xName 7))) (xC (.int 29))) xNil)) (xC (.int 2147483629))) (xgName 3))
    (xSeq (xAsg (xBin modD (xBin divD (xBin modD (xCal int1 (xCons (xBin mulD (xName 3) (xBin addD (xBin divD (xName 3) (xC (.int 32))) (xC (.int 3)))) xNil)) (xC (.int 2147483587))) (xC (.int 13))) (xC (.int 27720))) (xgName 9))
    (xSeq (xIfS (xTst (xBin gtD (xName 4) (xC (.int 0)))) (xSeq (xAsg (xBin modD (xCal int1 (xCons (xName 4) xNil)) (xC (.int 27720))) (xgName 9))
    (xAsg (xBin divD (xName 4) (xC (.int 27720))) (xgName 4))) xNext)
    (xDo (xApp 6 (xName 9))))))))
    (xRet (xMv 6))))
def x__law_pick : XS := (xSeq (xAsg (xBin addD (xIxS 0 (xC (.int 0))) (xC (.int 1))) (xgName 2))
    (xSeq (xIfS (xTst (xBin (fun d e => (eqD d e).map D.bl) (xName 2) (xLenS 0))) (xSeq (xAsg (xC (.int 1)) (xgName 2))
    (xFor (xiRng2 (xCons (xC (.int 1)) (xCons (xLenS 0) xNil))) (xgName 3) (xAsg (xBin modD (xCal int1 (xCons (xBin addD (xBin addD (xBin mulD (xIxS 0 (xName 3)) (xC (.int 31))) (xBin mulD (xName 3) (xC (.int 17)))) (xC (.int 7))) xNil)) (xC (.int 27720))) (xSetS 0 (xName 3))))) xNext)
    (xSeq (xAsg (xName 2) (xSetS 0 (xC (.int 0))))
    (xRet (xBin modD (xCal int1 (xCons (xIxS 0 (xName 2)) xNil)) (xName 1))))))
def x__law_same (j : Nat) : XS := (xSeq (xIfS (xTru (xIsi D.isTup (xName 1))) (xSeq (xIfS (xOr (xNot (xTru (xIsi D.isTup (xName 0)))) (xTst (xBin (fun d e => (eqD d e).map fun b => D.bl (!b)) (xCal len1 (xCons (xName 0) xNil)) (xCal len1 (xCons (xName 1) xNil))))) (xRet (xC (.bl false))) xNext)
    (xRet (xCal (allB fun bs => bs.all id) (xCons (xLc (xiRng1 (xCons (xCal len1 (xCons (xName 1) xNil)) xNil)) (xgName 2) xYes (xCall (F_sameJ j) [] (xCons (xBin ixD (xName 0) (xName 2)) (xCons (xBin ixD (xName 1) (xName 2)) xNil))) [2]) xNil)))) xNext)
    (xSeq (xIfS (xTst (xFn (fun d => .bl d.isNon) (xName 1))) (xRet (xFn (fun d => .bl d.isNon) (xName 0))) xNext)
    (xSeq (xIfS (xTru (xIsi D.isStr (xName 1))) (xRet (xAndV (xIsi D.isStr (xName 0)) (xBin (fun d e => (eqD d e).map D.bl) (xName 0) (xName 1)))) xNext)
    (xSeq (xIfS (xTru (xIsi D.isBl (xName 1))) (xRet (xAndV (xIsi D.isBl (xName 0)) (xBin (fun d e => (eqD d e).map D.bl) (xName 0) (xName 1)))) xNext)
    (xRet (xAndV (xIsi D.isInt (xName 0)) (xAndV (xNotV (xIsi D.isBl (xName 0))) (xBin (fun d e => (eqD d e).map D.bl) (xName 0) (xName 1)))))))))
def x__law_names : XS := (xSeq (xAsg (xBin addD (xName 2) (xBin ixD (xLst (xCons (xC (.str "ab1")) (xCons (xC (.str "q")) (xCons (xC (.str "zz9z")) xNil)))) (xCall F_pick [some 0] (xLend 0 (xCons (xC (.int 3)) xNil))))) (xgName 3))
    (xSeq (xAsg (xBin addD (xC (.int 1)) (xCall F_pick [some 0] (xLend 0 (xCons (xBin subD (xCal len1 (xCons (xName 3) xNil)) (xC (.int 1))) xNil)))) (xgName 4))
    (xSeq (xTupAsg 2 (xCons (xC (.str "abcdefghijklmnopqrstuvwxyz0123456789")) (xCons (xCall F_pick [some 0] (xLend 0 (xCons (xC (.int 36)) xNil))) xNil)) (xgCons (xgName 5) (xgCons (xgName 6) xgNil)))
    (xRet (xLc (xiRng1 (xCons (xName 1) xNil)) (xgName 7) xYes (xBin addD (xBin addD (xSl (xName 3) xoNone (xoSome (xName 4))) (xBin ixD (xName 5) (xBin modD (xCal int1 (xCons (xBin addD (xName 6) (xBin mulD (xName 7) (xC (.int 5)))) xNil)) (xC (.int 36))))) (xSl (xName 3) (xoSome (xBin addD (xName 4) (xC (.int 1)))) xoNone)) [7])))))
def x__law_body (j : Nat) : XS := (xSeq (xAsg (xTup xNil) (xgName 6))
    (xSeq (xFor (xiRng1 (xCons (xCall F_pick [some 0] (xLend 0 (xCons (xC (.int 5)) xNil))) xNil)) (xgName 7) (xIfS (xTst (xBin gtD (xIxS 3 (xC (.int 0))) (xC (.int 0)))) (xSeq (xAsg (xBin subD (xIxS 3 (xC (.int 0))) (xC (.int 1))) (xSetS 3 (xC (.int 0))))
    (xAsg (xBin addD (xName 6) (xTup (xCons (xCall (F_dstmtJ j) [some 0, some 3] (xLend 0 (xCons (xName 1) (xCons (xName 2) (xLend 3 (xCons (xName 4) (xCons (xName 5) xNil))))))) xNil))) (xgName 6))) xNext))
    (xRet (xName 6))))
def x__law_statement (j : Nat) : XS := (xSeq (xAsg (xCall F_pick [some 0] (xLend 0 (xCons (xIf (xTst (xBin gtD (xName 4) (xC (.int 0)))) (xC (.int 12)) (xC (.int 6))) xNil))) (xgName 6))
    (xSeq (xIfS (xTst (xBin (fun d e => (eqD d e).map D.bl) (xName 6) (xC (.int 4)))) (xRet (xTup (xCons (xC (.str "call")) (xCons (xBin ixD (xName 2) (xCall F_pick [some 0] (xLend 0 (xCons (xCal len1 (xCons (xName 2) xNil)) xNil)))) xNil)))) xNext)
    (xSeq (xIfS (xAnd (xTst (xBin (fun d e => (eqD d e).map D.bl) (xName 6) (xC (.int 5)))) (xNot (xTru (xName 5)))) (xRet (xTup (xCons (xC (.str "return")) xNil))) xNext)
    (xSeq (xIfS (xTst (xBin (inD false) (xName 6) (xLst (xCons (xC (.int 6)) (xCons (xC (.int 7)) xNil))))) (xSeq (xAsg (xBin ixD (xLst (xCons (xC (.int 2)) (xCons (xC (.int 2)) (xCons (xC (.int 3)) (xCons (xC (.int 6)) xNil))))) (xCall F_pick [some 0] (xLend 0 (xCons (xC (.int 4)) xNil)))) (xgName 7))
    (xRet (xTup (xCons (xC (.str "choose")) (xCons (xCal tuple1 (xCons (xLc (xiRng1 (xCons (xName 7) xNil)) (xgName 9) xYes (xCall (F_dbodyJ j) [some 0, some 3] (xLend 0 (xCons (xName 1) (xCons (xName 2) (xLend 3 (xCons (xBin subD (xName 4) (xC (.int 1))) (xCons (xName 5) xNil))))))) [9]) xNil)) xNil))))) xNext)
    (xSeq (xIfS (xTst (xBin (inD false) (xName 6) (xLst (xCons (xC (.int 8)) (xCons (xC (.int 9)) (xCons (xC (.int 10)) xNil)))))) (xSeq (xAsg (xCall (F_dbodyJ j) [some 0, some 3] (xLend 0 (xCons (xName 1) (xCons (xName 2) (xLend 3 (xCons (xBin subD (xName 4) (xC (.int 1))) (xCons (xName 5) xNil))))))) (xgName 8))
    (xRet (xTup (xCons (xC (.str "ensure")) (xCons (xName 8) (xCons (xCall (F_dbodyJ j) [some 0, some 3] (xLend 0 (xCons (xName 1) (xCons (xName 2) (xLend 3 (xCons (xBin subD (xName 4) (xC (.int 1))) (xCons (xC (.bl true)) xNil))))))) xNil)))))) xNext)
    (xSeq (xIfS (xTst (xBin (fun d e => (eqD d e).map D.bl) (xName 6) (xC (.int 11)))) (xRet (xTup (xCons (xC (.str "loop")) (xCons (xCall (F_dbodyJ j) [some 0, some 3] (xLend 0 (xCons (xName 1) (xCons (xName 2) (xLend 3 (xCons (xBin subD (xName 4) (xC (.int 1))) (xCons (xName 5) xNil))))))) xNil)))) xNext)
    (xRet (xTup (xCons (xBin ixD (xLst (xCons (xC (.str "do")) (xCons (xC (.str "undo")) xNil))) (xCall F_pick [some 0] (xLend 0 (xCons (xC (.int 2)) xNil)))) (xCons (xBin ixD (xName 1) (xCall F_pick [some 0] (xLend 0 (xCons (xCal len1 (xCons (xName 1) xNil)) xNil)))) xNil))))))))))
def x__law_program : XS := (xSeq (xAsg (xFrz (xCall F_names [some 0] (xLendL 0 (xCons (xBin addD (xC (.int 1)) (xCall F_pick [some 0] (xLendL 0 (xCons (xIf (xTst (xBin gtD (xCall F_pick [some 0] (xLend 0 (xCons (xC (.int 3)) xNil))) (xC (.int 0)))) (xC (.int 4)) (xC (.int 20))) xNil)))) (xCons (xC (.str "l")) xNil))))) (xgName 3))
    (xSeq (xAsg (xFrz (xCall F_names [some 0] (xLendL 0 (xCons (xBin addD (xC (.int 1)) (xCall F_pick [some 0] (xLend 0 (xCons (xName 1) xNil)))) (xCons (xC (.str "p")) xNil))))) (xgName 4))
    (xSeq (xPar [5, 6, 7] (xCons (xLst (xCons (xName 2) xNil)) (xCons (xLst xNil) (xCons (xBin ixD (xLst (xCons (xC (.int 3)) (xCons (xC (.int 6)) xNil))) (xCall F_pick [some 0] (xLend 0 (xCons (xC (.int 2)) xNil)))) xNil))))
    (xSeq (xFor (xiSeq (xName 4)) (xgName 8) (xDo (xApp 6 (xTup (xCons (xName 8) (xCons (xCall (F_dbodyJ 7) [some 0, some 5] (xLend 0 (xCons (xName 3) (xCons (xName 4) (xLend 5 (xCons (xName 7) (xCons (xC (.bl false)) xNil))))))) xNil))))))
    (xRet (xTup (xCons (xTplL 3) (xCons (xTupS 6) xNil))))))))
def x__law_lay (j : Nat) : XS := (xSeq (xPar [5, 6, 7] (xCons (xBin ixD (xName 0) (xC (.int 0))) (xCons (xFrz (xLc (xiSeq (xBin ixD (xName 0) (xC (.int 1)))) (xgName 15) xYes (xBin ixD (xName 15) (xC (.int 0))) [15])) (xCons (xName 2) xNil))))
    (xSeq (xFor (xiSeq (xUn revD (xName 1))) (xgName 8) (xSeq (xTupAsg 2 (xCons (xBin ixD (xName 8) (xC (.int 0))) (xCons (xName 7) xNil)) (xgCons (xgName 9) (xgCons (xgName 10) xgNil)))
    (xIfS (xTst (xBin (fun d e => (eqD d e).map D.bl) (xName 9) (xC (.str "return")))) (xSeq (xAsg (xC (.int 0)) (xgName 7))
    (xFor (xiSeq (xName 4)) (xgName 11) (xAsg (xCall (F_layJ j) [some 3] (xCons (xName 0) (xCons (xName 11) (xCons (xName 7) (xLend 3 (xCons (xFrz (xLst xNil)) xNil)))))) (xgName 7)))) (xIfS (xTst (xBin (fun d e => (eqD d e).map D.bl) (xName 9) (xC (.str "loop")))) (xSeq (xAsg (xLenS 3) (xgName 7))
    (xSeq (xDo (xApp 3 (xC .non)))
    (xSeq (xAsg (xCall (F_layJ j) [some 3] (xCons (xName 0) (xCons (xBin ixD (xName 8) (xC (.int 1))) (xCons (xName 7) (xLend 3 (xCons (xName 4) xNil)))))) (xgName 12))
    (xAsg (xTup (xCons (xC (.str "fork")) (xCons (xTup (xCons (xName 12) (xCons (xName 10) xNil))) xNil))) (xSetS 3 (xName 7)))))) (xIfS (xTst (xBin (fun d e => (eqD d e).map D.bl) (xName 9) (xC (.str "ensure")))) (xSeq (xAsg (xCall (F_layJ j) [some 3] (xCons (xName 0) (xCons (xBin ixD (xName 8) (xC (.int 2))) (xCons (xName 10) (xLend 3 (xCons (xFrz (xLst xNil)) xNil)))))) (xgName 13))
    (xAsg (xCall (F_layJ j) [some 3] (xCons (xName 0) (xCons (xBin ixD (xName 8) (xC (.int 1))) (xCons (xName 13) (xLend 3 (xCons (xFrz (xBin addD (xName 4) (xLst (xCons (xBin ixD (xName 8) (xC (.int 2))) xNil)))) xNil)))))) (xgName 7))) (xSeq (xIfS (xTst (xBin (fun d e => (eqD d e).map D.bl) (xName 9) (xC (.str "choose")))) (xAsg (xTup (xCons (xC (.str "fork")) (xCons (xCal tuple1 (xCons (xLc (xiSeq (xBin ixD (xName 8) (xC (.int 1)))) (xgName 16) xYes (xCall (F_layJ j) [some 3] (xCons (xName 0) (xCons (xName 16) (xCons (xName 10) (xLend 3 (xCons (xName 4) xNil)))))) [16]) xNil)) xNil))) (xgName 14)) (xIfS (xTst (xBin (fun d e => (eqD d e).map D.bl) (xName 9) (xC (.str "call")))) (xAsg (xTup (xCons (xC (.str "call")) (xCons (xIdxL (xName 6) (xBin ixD (xName 8) (xC (.int 1)))) (xCons (xName 10) xNil)))) (xgName 14)) (xAsg (xTup (xCons (xC (.str "letter")) (xCons (xBin mulD (xBin addD (xIdxZ (xName 5) (xBin ixD (xName 8) (xC (.int 1)))) (xC (.int 1))) (xIf (xTst (xBin (fun d e => (eqD d e).map D.bl) (xName 9) (xC (.str "do")))) (xC (.int 1)) (xUn negD (xC (.int 1))))) (xCons (xName 10) xNil)))) (xgName 14))))
    (xSeq (xAsg (xLenS 3) (xgName 7))
    (xDo (xApp 3 (xName 14))))))))))
    (xRet (xName 7))))
def x__law_places : XS := (xSeq (xAsg (xLst xNil) (xgName 1))
    (xSeq (xFor (xiSeq (xBin ixD (xName 0) (xC (.int 1)))) (xgTup 2 (xgCons (xgName 2) (xgCons (xgName 3) xgNil))) (xSeq (xAsg (xLst (xCons (xTup (xCons (xC (.str "end")) xNil)) xNil)) (xgName 4))
    (xSeq (xAsg (xCall (F_layJ 17) [some 4] (xCons (xName 0) (xCons (xName 3) (xCons (xC (.int 0)) (xLend 4 (xCons (xFrz (xLst xNil)) xNil)))))) (xgName 5))
    (xDo (xApp 1 (xTup (xCons (xName 5) (xCons (xTupS 4) xNil))))))))
    (xRet (xTupS 1))))
section
variable {P : Program} {w : World} {K : Fg} {mg : Str → Option Value} {base : Heap} {aLayer : Addr}
set_option maxHeartbeats 8000000 in
theorem ok_is_row {f : Addr} {fd : FuncData} (T : Tx K mg aLayer) (Dn : FnP K "is_row" s_is_row f fd) (g : mg "is_row" = some (.ref f)) (pf : ∀ (ds : List D) (Q : D → List D → Prop), (F_is_row).f ds Q → x_is_row.f { nx := fun ρ => ∃ outs, outsOf [] ρ = outs.map some ∧ Q .non outs, rt := fun r ρ => ∃ outs, outsOf [] ρ = outs.map some ∧ Q r outs, bk := fun _ => False, ct := fun _ => False } (ds.map some ++ List.replicate (3 - 3) none)) : OkF P w K mg base (1) "is_row" ["thing", "low", "high"] 3 [] F_is_row := by
  exact okf_mk (P := P) (w := w) (base := base) (k := (1 - 1)) Dn g sc_is_row rfl (by decide) (by decide) (fun _ _ _ _ _ _ us hl => match us, hl with | [_, _, _], _ => rfl) (fun _ _ _ _ _ _ us hl => match us, hl with | [_, _, _], _ => rfl) (fun _ _ _ _ _ _ p1 p2 u v e => by cases e <;> rfl) fun cdv A outer s H E C hC hr => ⟨_, x_is_row,
    (vb_one (vs_ret (ve_and (ve_isi kit_tup (ve_name 0 (pv 0)) (by rfl) T.b_isinstance (pe_bltn (by rfl) T.b_tuple (by decide +kernel) rfl)) (ve_one (ve_chain (g := fun i j => decide (i ≤ j)) (g' := fun i j => decide (i ≤ j)) op_le op_le (ve_name 1 (pv 1)) (ve_callB call_len cal_len (by rfl) T.b_len PySem.boot_len (va_cons (ve_name 0 (pv 0)) va_nil)) (ve_name 2 (pv 2))))))), pf⟩
set_option maxHeartbeats 8000000 in
theorem ok_is_name {f : Addr} {fd : FuncData} (T : Tx K mg aLayer) (Dn : FnP K "is_name" s_is_name f fd) (g : mg "is_name" = some (.ref f)) (pf : ∀ (ds : List D) (Q : D → List D → Prop), (F_is_name).f ds Q → x_is_name.f { nx := fun ρ => ∃ outs, outsOf [] ρ = outs.map some ∧ Q .non outs, rt := fun r ρ => ∃ outs, outsOf [] ρ = outs.map some ∧ Q r outs, bk := fun _ => False, ct := fun _ => False } (ds.map some ++ List.replicate (2 - 1) none)) : OkF P w K mg base (2) "is_name" ["thing"] 1 [] F_is_name := by
  exact okf_mk (P := P) (w := w) (base := base) (k := (2 - 1)) Dn g sc_is_name rfl (by decide) (by decide) (fun _ _ _ _ _ _ us hl => match us, hl with | [_], _ => rfl) (fun _ _ _ _ _ _ us hl => match us, hl with | [_], _ => rfl) (fun _ _ _ _ _ _ p1 p2 u v e => by cases e <;> rfl) fun cdv A outer s H E C hC hr => ⟨_, x_is_name,
    (vb_cons (vs_if (VW.vt (vw_or (vt_not (vt_truth (ve_isi kit_str (ve_name 0 (pv 0)) (by rfl) T.b_isinstance (pe_bltn (by rfl) T.b_str (by decide +kernel) rfl)))) (vw_or (vt_not (vt_chain (g := fun i j => decide (i ≤ j)) (g' := fun i j => decide (i ≤ j)) op_le op_le ve_int (ve_callB call_len cal_len (by rfl) T.b_len PySem.boot_len (va_cons (ve_name 0 (pv 0)) va_nil)) (ve_globI (by rfl) T.c_LONGEST))) (vw_or1 (vt_cmp op_in_seq (bop_in (neg := false)) (ve_name 0 (pv 0)) (ve_globT (ws := k_KEYWORDS) (by rfl) T.c_KEYWORDS) (by rfl)))))) (vb_one (vs_ret ve_bl)) vb_nil)
      (vb_one (vs_ret (ve_and (ve_cmp op_inT (bop_inT (neg := false)) (ve_ix (ve_name 0 (pv 0)) ve_int (fun _ _ => rfl)) (ve_globS (by rfl) T.c_SMALL) (by rfl)) (ve_one (ve_callB (cr_all rfl) (cal_all (f := fun bs => bs.all id)) (by rfl) T.b_all (by decide +kernel) (va_cons (vf_lc rfl sc_is_name.nd (blkOk_by (own := [("sign", 1)]) (N := nm_is_name) (sc := defScope s_is_name) (by decide +kernel)) hC (by decide) (vi_str (ve_name 0 (pv 0))) (fun _ _ _ _ _ => (gw_name (by decide))) (fun _ _ _ _ _ => (vg_name (pg_name (i := 1) sc_is_name.nd rfl (by first | exact Or.inl rfl | exact Or.inr rfl)) hC (by decide))) (fun _ _ _ _ _ => vts_nil) (fun _ _ _ _ _ => (ve_or (ve_cmp op_inT (bop_inT (neg := false)) (ve_name 1 (pv 1)) (ve_globS (by rfl) T.c_SMALL) (by rfl)) (ve_one (ve_cmp op_inT (bop_inT (neg := false)) (ve_name 1 (pv 1)) (ve_globS (by rfl) T.c_DIGITS) (by rfl))))) rfl (fun _ => rfl)) va_nil))))))), pf⟩
set_option maxHeartbeats 8000000 in
theorem ok_first_double {f : Addr} {fd : FuncData} (T : Tx K mg aLayer) (Dn : FnP K "first_double" s_first_double f fd) (g : mg "first_double" = some (.ref f)) (pf : ∀ (ds : List D) (Q : D → List D → Prop), (F_first_double).f ds Q → (x_first_double P w).f { nx := fun ρ => ∃ outs, outsOf [] ρ = outs.map some ∧ Q .non outs, rt := fun r ρ => ∃ outs, outsOf [] ρ = outs.map some ∧ Q r outs, bk := fun _ => False, ct := fun _ => False } (ds.map some ++ List.replicate (3 - 1) none)) : OkF P w K mg base (2) "first_double" ["names"] 1 [] F_first_double := by
  exact okf_mk (P := P) (w := w) (base := base) (k := (2 - 1)) Dn g sc_first_double rfl (by decide) (by decide) (fun _ _ _ _ _ _ us hl => match us, hl with | [_], _ => rfl) (fun _ _ _ _ _ _ us hl => match us, hl with | [_], _ => rfl) (fun _ _ _ _ _ _ p1 p2 u v e => by cases e <;> rfl) fun cdv A outer s H E C hC hr => ⟨_, (x_first_double P w),
    (vb_cons (vs_setN (i := 1) sc_first_double.nd rfl (by first | exact Or.inl rfl | exact Or.inr rfl) (ve_set0 (by rfl) T.b_set (by decide +kernel)) hC (by decide))
      (vb_cons (vs_for PassesOwn.never rfl (vi_seq (ve_name 0 (pv 0))) (vg_name (pg_name (i := 2) sc_first_double.nd rfl (by first | exact Or.inl rfl | exact Or.inr rfl)) hC (by decide)) (vb_cons (vs_if (vt_sin 1 (ve_name 2 (pv 2)) (pv 1)) (vb_one (vs_ret (ve_name 2 (pv 2)))) vb_nil)
      (vb_one (vs_expr (ve_sadd 1 (pv 1) (ve_name 2 (pv 2)))))) (fun _ => rfl))
      (vb_one (vs_ret ve_non)))), pf⟩
set_option maxHeartbeats 8000000 in
theorem ok_inner_bodies {f : Addr} {fd : FuncData} (T : Tx K mg aLayer) (Dn : FnP K "inner_bodies" s_inner_bodies f fd) (g : mg "inner_bodies" = some (.ref f)) (G_is_name : OkF P w K mg base 2 "is_name" ["thing"] 1 [] F_is_name) (G_is_row : OkF P w K mg base 1 "is_row" ["thing", "low", "high"] 3 [] F_is_row) (pf : ∀ (ds : List D) (Q : D → List D → Prop), (F_inner).f ds Q → x_inner_bodies.f { nx := fun ρ => ∃ outs, outsOf [] ρ = outs.map some ∧ Q .non outs, rt := fun r ρ => ∃ outs, outsOf [] ρ = outs.map some ∧ Q r outs, bk := fun _ => False, ct := fun _ => False } (ds.map some ++ List.replicate (2 - 1) none)) : OkF P w K mg base (3) "inner_bodies" ["thing"] 1 [] F_inner := by
  exact okf_mk (P := P) (w := w) (base := base) (k := (3 - 1)) Dn g sc_inner_bodies rfl (by decide) (by decide) (fun _ _ _ _ _ _ us hl => match us, hl with | [_], _ => rfl) (fun _ _ _ _ _ _ us hl => match us, hl with | [_], _ => rfl) (fun _ _ _ _ _ _ p1 p2 u v e => by cases e <;> rfl) fun cdv A outer s H E C hC hr => ⟨_, x_inner_bodies,
    (vb_cons (vs_if (VW.vt (vw_or (vt_not (vt_truth (vf_call G_is_row (hr.mono (by first | omega | decide)) (by rfl) (va_cons (ve_name 0 (pv 0)) (va_cons ve_int (va_cons ve_int va_nil)))))) (vw_or1 (vt_not (vt_truth (ve_isi kit_str (ve_ix (ve_name 0 (pv 0)) ve_int (fun _ _ => rfl)) (by rfl) T.b_isinstance (pe_bltn (by rfl) T.b_str (by decide +kernel) rfl))))))) (vb_one (vs_ret ve_non)) vb_nil)
      (vb_cons (vs_setN (i := 1) sc_inner_bodies.nd rfl (by first | exact Or.inl rfl | exact Or.inr rfl) (ve_ix (ve_name 0 (pv 0)) ve_int (fun _ _ => rfl)) hC (by decide))
      (vb_cons (vs_if (vt_cmp op_in_seq (bop_in (neg := false)) (ve_name 1 (pv 1)) (ve_tup (va_cons ve_str (va_cons ve_str (va_cons ve_str va_nil)))) (by rfl)) (vb_one (vs_ret (ve_if (VW.vt (vw_and (vt_cmp (op_eqX hr.units) bop_eq (ve_callB call_len cal_len (by rfl) T.b_len PySem.boot_len (va_cons (ve_name 0 (pv 0)) va_nil)) ve_int (nomark _)) (vw_and1 (vt_truth (vf_call G_is_name (hr.mono (by first | omega | decide)) (by rfl) (va_cons (ve_ix (ve_name 0 (pv 0)) ve_int (fun _ _ => rfl)) va_nil)))))) (ve_tup va_nil) ve_non))) vb_nil)
      (vb_cons (vs_if (vt_cmp (op_eqX hr.units) bop_eq (ve_name 1 (pv 1)) ve_str (nomark _)) (vb_one (vs_ret (ve_if (VW.vt (vw_and (vt_cmp (op_eqX hr.units) bop_eq (ve_callB call_len cal_len (by rfl) T.b_len PySem.boot_len (va_cons (ve_name 0 (pv 0)) va_nil)) ve_int (nomark _)) (vw_and1 (vt_truth (vf_call G_is_row (hr.mono (by first | omega | decide)) (by rfl) (va_cons (ve_ix (ve_name 0 (pv 0)) ve_int (fun _ _ => rfl)) (va_cons ve_int (va_cons (ve_globI (by rfl) T.c_MOST_BODIES) va_nil)))))))) (ve_ix (ve_name 0 (pv 0)) ve_int (fun _ _ => rfl)) ve_non))) vb_nil)
      (vb_cons (vs_if (vt_cmp (op_eqX hr.units) bop_eq (ve_name 1 (pv 1)) ve_str (nomark _)) (vb_one (vs_ret (ve_if (vt_cmp (op_eqX hr.units) bop_eq (ve_callB call_len cal_len (by rfl) T.b_len PySem.boot_len (va_cons (ve_name 0 (pv 0)) va_nil)) ve_int (nomark _)) (ve_sl (ve_name 0 (pv 0)) (vo_some ve_int) vo_none) ve_non))) vb_nil)
      (vb_cons (vs_if (vt_cmp (op_eqX hr.units) bop_eq (ve_name 1 (pv 1)) ve_str (nomark _)) (vb_one (vs_ret (ve_if (vt_cmp (op_eqX hr.units) bop_eq (ve_callB call_len cal_len (by rfl) T.b_len PySem.boot_len (va_cons (ve_name 0 (pv 0)) va_nil)) ve_int (nomark _)) (ve_tup va_nil) ve_non))) vb_nil)
      (vb_one (vs_ret (ve_if (VW.vt (vw_and (vt_cmp (op_eqX hr.units) bop_eq (ve_name 1 (pv 1)) ve_str (nomark _)) (vw_and1 (vt_cmp (op_eqX hr.units) bop_eq (ve_callB call_len cal_len (by rfl) T.b_len PySem.boot_len (va_cons (ve_name 0 (pv 0)) va_nil)) ve_int (nomark _))))) (ve_sl (ve_name 0 (pv 0)) (vo_some ve_int) vo_none) ve_non))))))))), pf⟩
set_option maxHeartbeats 8000000 in
theorem ok_bodies_of {f : Addr} {fd : FuncData} (T : Tx K mg aLayer) (Dn : FnP K "bodies_of" s_bodies_of f fd) (g : mg "bodies_of" = some (.ref f)) (G_inner_bodies : OkF P w K mg base 3 "inner_bodies" ["thing"] 1 [] F_inner) (pf : ∀ (ds : List D) (Q : D → List D → Prop), (F_bodies).f ds Q → x_bodies_of.f { nx := fun ρ => ∃ outs, outsOf [] ρ = outs.map some ∧ Q .non outs, rt := fun r ρ => ∃ outs, outsOf [] ρ = outs.map some ∧ Q r outs, bk := fun _ => False, ct := fun _ => False } (ds.map some ++ List.replicate (1 - 1) none)) : OkF P w K mg base (4) "bodies_of" ["statement"] 1 [] F_bodies := by
  exact okf_mk (P := P) (w := w) (base := base) (k := (4 - 1)) Dn g sc_bodies_of rfl (by decide) (by decide) (fun _ _ _ _ _ _ us hl => match us, hl with | [_], _ => rfl) (fun _ _ _ _ _ _ us hl => match us, hl with | [_], _ => rfl) (fun _ _ _ _ _ _ p1 p2 u v e => by cases e <;> rfl) fun cdv A outer s H E C hC hr => ⟨_, x_bodies_of,
    (vb_one (vs_ret (vf_call G_inner_bodies (hr.mono (by first | omega | decide)) (by rfl) (va_cons (ve_name 0 (pv 0)) va_nil)))), pf⟩
set_option maxHeartbeats 8000000 in
theorem ok_count_of {j : Nat} {k : Nat} (hk : 5 ≤ k) {f : Addr} {fd : FuncData} (T : Tx K mg aLayer) (Dn : FnP K "count_of" s_count_of f fd) (g : mg "count_of" = some (.ref f)) (G_count_of : OkF P w K mg base k "count_of" ["thing", "chain", "room"] 3 [] (F_countJ j)) (G_inner_bodies : OkF P w K mg base 3 "inner_bodies" ["thing"] 1 [] F_inner) (G_is_row : OkF P w K mg base 1 "is_row" ["thing", "low", "high"] 3 [] F_is_row) (pf : ∀ (ds : List D) (Q : D → List D → Prop), ((F_countJ (j + 1))).f ds Q → (x_count_of j).f { nx := fun ρ => ∃ outs, outsOf [] ρ = outs.map some ∧ Q .non outs, rt := fun r ρ => ∃ outs, outsOf [] ρ = outs.map some ∧ Q r outs, bk := fun _ => False, ct := fun _ => False } (ds.map some ++ List.replicate (7 - 3) none)) : OkF P w K mg base (k + 1) "count_of" ["thing", "chain", "room"] 3 [] (F_countJ (j + 1)) := by
  exact okf_mk (P := P) (w := w) (base := base) (k := k) Dn g sc_count_of rfl (by decide) (by decide) (fun _ _ _ _ _ _ us hl => match us, hl with | [_, _, _], _ => rfl) (fun _ _ _ _ _ _ us hl => match us, hl with | [_, _, _], _ => rfl) (fun _ _ _ _ _ _ p1 p2 u v e => by cases e <;> rfl) fun cdv A outer s H E C hC hr => ⟨_, (x_count_of j),
    (vb_cons (vs_if (VW.vt (vw_or (vt_not (vt_truth (vf_call G_is_row (hr.mono (by first | omega | decide)) (by rfl) (va_cons (ve_name 0 (pv 0)) (va_cons ve_int (va_cons (ve_globI (by rfl) T.c_MOST_IN_BODY) va_nil)))))) (vw_or1 (VW.vt (vw_and (vt_cmp (op_neX hr.units) bop_ne (ve_name 0 (pv 0)) (ve_tup va_nil) (nomark _)) (vw_and1 (vt_cmp (op_eqX hr.units) bop_eq (ve_name 1 (pv 1)) ve_int (nomark _)))))))) (vb_one (vs_ret (ve_bin op_addX bop_add (ve_name 2 (pv 2)) ve_int))) vb_nil)
      (vb_cons (vs_setN (i := 3) sc_count_of.nd rfl (by first | exact Or.inl rfl | exact Or.inr rfl) ve_int hC (by decide))
      (vb_cons (vs_for PassesOwn.never rfl (vi_seq (ve_name 0 (pv 0))) (vg_name (pg_name (i := 4) sc_count_of.nd rfl (by first | exact Or.inl rfl | exact Or.inr rfl)) hC (by decide)) (vb_cons (vs_setN (i := 5) sc_count_of.nd rfl (by first | exact Or.inl rfl | exact Or.inr rfl) (vf_call G_inner_bodies (hr.mono (by first | omega | decide)) (by rfl) (va_cons (ve_name 4 (pv 4)) va_nil)) hC (by decide))
      (vb_cons (vs_if (vt_isN (ve_name 5 (pv 5))) (vb_one (vs_ret (ve_bin op_addX bop_add (ve_name 2 (pv 2)) ve_int))) vb_nil)
      (vb_cons (vs_aug (i := 3) sc_count_of.nd rfl (by first | exact Or.inl rfl | exact Or.inr rfl) ve_int ip_add hC (by decide))
      (vb_one (vs_for PassesOwn.never rfl (vi_seq (ve_name 5 (pv 5))) (vg_name (pg_name (i := 6) sc_count_of.nd rfl (by first | exact Or.inl rfl | exact Or.inr rfl)) hC (by decide)) (vb_cons (vs_aug (i := 3) sc_count_of.nd rfl (by first | exact Or.inl rfl | exact Or.inr rfl) (vf_call G_count_of hr (by rfl) (va_cons (ve_name 6 (pv 6)) (va_cons (ve_bin op_sub bop_sub (ve_name 1 (pv 1)) ve_int) (va_cons (ve_bin op_sub bop_sub (ve_name 2 (pv 2)) (ve_name 3 (pv 3))) va_nil)))) ip_add hC (by decide))
      (vb_one (vs_if (vt_cmp op_gt bop_gt (ve_name 3 (pv 3)) (ve_name 2 (pv 2)) (nomark _)) (vb_one (vs_ret (ve_name 3 (pv 3)))) vb_nil))) (fun _ => rfl)))))) (fun _ => rfl))
      (vb_one (vs_ret (ve_name 3 (pv 3))))))), pf⟩
set_option maxHeartbeats 8000000 in
theorem ok_is_program {f : Addr} {fd : FuncData} (T : Tx K mg aLayer) (Dn : FnP K "is_program" s_is_program f fd) (g : mg "is_program" = some (.ref f)) (G_count_of : OkF P w K mg base 20 "count_of" ["thing", "chain", "room"] 3 [] (F_countJ 13)) (G_is_name : OkF P w K mg base 2 "is_name" ["thing"] 1 [] F_is_name) (G_is_row : OkF P w K mg base 1 "is_row" ["thing", "low", "high"] 3 [] F_is_row) (pf : ∀ (ds : List D) (Q : D → List D → Prop), (F_is_program).f ds Q → x_is_program.f { nx := fun ρ => ∃ outs, outsOf [] ρ = outs.map some ∧ Q .non outs, rt := fun r ρ => ∃ outs, outsOf [] ρ = outs.map some ∧ Q r outs, bk := fun _ => False, ct := fun _ => False } (ds.map some ++ List.replicate (4 - 1) none)) : OkF P w K mg base (40) "is_program" ["thing"] 1 [] F_is_program := by
  exact okf_mk (P := P) (w := w) (base := base) (k := (40 - 1)) Dn g sc_is_program rfl (by decide) (by decide) (fun _ _ _ _ _ _ us hl => match us, hl with | [_], _ => rfl) (fun _ _ _ _ _ _ us hl => match us, hl with | [_], _ => rfl) (fun _ _ _ _ _ _ p1 p2 u v e => by cases e <;> rfl) fun cdv A outer s H E C hC hr => ⟨_, x_is_program,
    (vb_cons (vs_if (VW.vt (vw_or (vt_not (vt_truth (vf_call G_is_row (hr.mono (by first | omega | decide)) (by rfl) (va_cons (ve_name 0 (pv 0)) (va_cons ve_int (va_cons ve_int va_nil)))))) (vw_or (vt_not (vt_truth (vf_call G_is_row (hr.mono (by first | omega | decide)) (by rfl) (va_cons (ve_ix (ve_name 0 (pv 0)) ve_int (fun _ _ => rfl)) (va_cons ve_int (va_cons (ve_globI (by rfl) T.c_MOST_LETTERS) va_nil)))))) (vw_or1 (vt_not (vt_truth (vf_call G_is_row (hr.mono (by first | omega | decide)) (by rfl) (va_cons (ve_ix (ve_name 0 (pv 0)) ve_int (fun _ _ => rfl)) (va_cons ve_int (va_cons (ve_globI (by rfl) T.c_MOST_PROCEDURES) va_nil)))))))))) (vb_one (vs_ret ve_bl)) vb_nil)
      (vb_cons (vs_if (vt_not (vt_truth (ve_callB (cr_all rfl) (cal_all (f := fun bs => bs.all id)) (by rfl) T.b_all (by decide +kernel) (va_cons (vf_lc rfl sc_is_program.nd (blkOk_by (own := [("name", 3)]) (N := nm_is_program) (sc := defScope s_is_program) (by decide +kernel)) hC (by decide) (vi_seq (ve_ix (ve_name 0 (pv 0)) ve_int (fun _ _ => rfl))) (fun _ _ _ _ _ => (gw_name (by decide))) (fun _ _ _ _ _ => (vg_name (pg_name (i := 3) sc_is_program.nd rfl (by first | exact Or.inl rfl | exact Or.inr rfl)) hC (by decide))) (fun _ _ _ _ _ => vts_nil) (fun _ _ _ _ _ => (vf_call G_is_name (hr.mono (by first | omega | decide)) (by rfl) (va_cons (ve_name 3 (pv 3)) va_nil))) rfl (fun _ => rfl)) va_nil)))) (vb_one (vs_ret ve_bl)) vb_nil)
      (vb_cons (vs_setN (i := 1) sc_is_program.nd rfl (by first | exact Or.inl rfl | exact Or.inr rfl) (ve_globI (by rfl) T.c_MOST_STATEMENTS) hC (by decide))
      (vb_cons (vs_for PassesOwn.never rfl (vi_seq (ve_ix (ve_name 0 (pv 0)) ve_int (fun _ _ => rfl))) (vg_name (pg_name (i := 2) sc_is_program.nd rfl (by first | exact Or.inl rfl | exact Or.inr rfl)) hC (by decide)) (vb_cons (vs_if (VW.vt (vw_or (vt_not (vt_truth (vf_call G_is_row (hr.mono (by first | omega | decide)) (by rfl) (va_cons (ve_name 2 (pv 2)) (va_cons ve_int (va_cons ve_int va_nil)))))) (vw_or1 (vt_not (vt_truth (vf_call G_is_name (hr.mono (by first | omega | decide)) (by rfl) (va_cons (ve_ix (ve_name 2 (pv 2)) ve_int (fun _ _ => rfl)) va_nil))))))) (vb_one (vs_ret ve_bl)) vb_nil)
      (vb_cons (vs_aug (i := 1) sc_is_program.nd rfl (by first | exact Or.inl rfl | exact Or.inr rfl) (vf_call G_count_of (hr.mono (by first | omega | decide)) (by rfl) (va_cons (ve_ix (ve_name 2 (pv 2)) ve_int (fun _ _ => rfl)) (va_cons (ve_globI (by rfl) T.c_LONGEST_CHAIN) (va_cons (ve_name 1 (pv 1)) va_nil)))) ip_sub hC (by decide))
      (vb_one (vs_if (vt_cmp op_lt bop_lt (ve_name 1 (pv 1)) ve_int (nomark _)) (vb_one (vs_ret ve_bl)) vb_nil)))) (fun _ => rfl))
      (vb_one (vs_ret ve_bl)))))), pf⟩
set_option maxHeartbeats 8000000 in
theorem ok_need_program {f : Addr} {fd : FuncData} (T : Tx K mg aLayer) (Dn : FnP K "need_program" s_need_program f fd) (g : mg "need_program" = some (.ref f)) (G_is_program : OkF P w K mg base 40 "is_program" ["thing"] 1 [] F_is_program) (pf : ∀ (ds : List D) (Q : D → List D → Prop), (F_need).f ds Q → x_need_program.f { nx := fun ρ => ∃ outs, outsOf [] ρ = outs.map some ∧ Q .non outs, rt := fun r ρ => ∃ outs, outsOf [] ρ = outs.map some ∧ Q r outs, bk := fun _ => False, ct := fun _ => False } (ds.map some ++ List.replicate (1 - 1) none)) : OkF P w K mg base (41) "need_program" ["program"] 1 [] F_need := by
  exact okf_mk (P := P) (w := w) (base := base) (k := (41 - 1)) Dn g sc_need_program rfl (by decide) (by decide) (fun _ _ _ _ _ _ us hl => match us, hl with | [_], _ => rfl) (fun _ _ _ _ _ _ us hl => match us, hl with | [_], _ => rfl) (fun _ _ _ _ _ _ p1 p2 u v e => by cases e <;> rfl) fun cdv A outer s H E C hC hr => ⟨_, x_need_program,
    (vb_one (vs_if (vt_not (vt_truth (vf_call G_is_program (hr.mono (by first | omega | decide)) (by rfl) (va_cons (ve_name 0 (pv 0)) va_nil)))) vb_never vb_nil)), pf⟩
set_option maxHeartbeats 8000000 in
theorem ok_own_trouble {f : Addr} {fd : FuncData} (T : Tx K mg aLayer) (Dn : FnP K "own_trouble" s_own_trouble f fd) (g : mg "own_trouble" = some (.ref f)) (pf : ∀ (ds : List D) (Q : D → List D → Prop), (F_own_trouble).f ds Q → x_own_trouble.f { nx := fun ρ => ∃ outs, outsOf [] ρ = outs.map some ∧ Q .non outs, rt := fun r ρ => ∃ outs, outsOf [] ρ = outs.map some ∧ Q r outs, bk := fun _ => False, ct := fun _ => False } (ds.map some ++ List.replicate (5 - 4) none)) : OkF P w K mg base (1) "own_trouble" ["statement", "is_second", "letters", "names"] 4 [] F_own_trouble := by
  exact okf_mk (P := P) (w := w) (base := base) (k := (1 - 1)) Dn g sc_own_trouble rfl (by decide) (by decide) (fun _ _ _ _ _ _ us hl => match us, hl with | [_, _, _, _], _ => rfl) (fun _ _ _ _ _ _ us hl => match us, hl with | [_, _, _, _], _ => rfl) (fun _ _ _ _ _ _ p1 p2 u v e => by cases e <;> rfl) fun cdv A outer s H E C hC hr => ⟨_, x_own_trouble,
    (vb_cons (vs_setN (i := 4) sc_own_trouble.nd rfl (by first | exact Or.inl rfl | exact Or.inr rfl) (ve_ix (ve_name 0 (pv 0)) ve_int (fun _ _ => rfl)) hC (by decide))
      (vb_cons (vs_if (VW.vt (vw_and (vt_cmp op_in_seq (bop_in (neg := false)) (ve_name 4 (pv 4)) (ve_tup (va_cons ve_str (va_cons ve_str va_nil))) (by rfl)) (vw_and1 (vt_cmp op_notIn_seq (bop_in (neg := true)) (ve_ix (ve_name 0 (pv 0)) ve_int (fun _ _ => rfl)) (ve_name 2 (pv 2)) (by rfl))))) (vb_one (vs_ret ve_str)) vb_nil)
      (vb_cons (vs_if (VW.vt (vw_and (vt_cmp (op_eqX hr.units) bop_eq (ve_name 4 (pv 4)) ve_str (nomark _)) (vw_and1 (vt_cmp op_notIn_seq (bop_in (neg := true)) (ve_ix (ve_name 0 (pv 0)) ve_int (fun _ _ => rfl)) (ve_name 3 (pv 3)) (by rfl))))) (vb_one (vs_ret ve_str)) vb_nil)
      (vb_one (vs_ret (ve_if (VW.vt (vw_and (vt_cmp (op_eqX hr.units) bop_eq (ve_name 4 (pv 4)) ve_str (nomark _)) (vw_and1 (vt_truth (ve_name 1 (pv 1)))))) ve_str ve_non)))))), pf⟩
set_option maxHeartbeats 8000000 in
theorem ok_trouble_in {j : Nat} {k : Nat} (hk : 5 ≤ k) {f : Addr} {fd : FuncData} (T : Tx K mg aLayer) (Dn : FnP K "trouble_in" s_trouble_in f fd) (g : mg "trouble_in" = some (.ref f)) (G_bodies_of : OkF P w K mg base 4 "bodies_of" ["statement"] 1 [] F_bodies) (G_own_trouble : OkF P w K mg base 1 "own_trouble" ["statement", "is_second", "letters", "names"] 4 [] F_own_trouble) (G_trouble_in : OkF P w K mg base k "trouble_in" ["body", "is_second", "letters", "names"] 4 [] (F_troubleJ j)) (pf : ∀ (ds : List D) (Q : D → List D → Prop), ((F_troubleJ (j + 1))).f ds Q → (x_trouble_in j).f { nx := fun ρ => ∃ outs, outsOf [] ρ = outs.map some ∧ Q .non outs, rt := fun r ρ => ∃ outs, outsOf [] ρ = outs.map some ∧ Q r outs, bk := fun _ => False, ct := fun _ => False } (ds.map some ++ List.replicate (8 - 4) none)) : OkF P w K mg base (k + 1) "trouble_in" ["body", "is_second", "letters", "names"] 4 [] (F_troubleJ (j + 1)) := by
  exact okf_mk (P := P) (w := w) (base := base) (k := k) Dn g sc_trouble_in rfl (by decide) (by decide) (fun _ _ _ _ _ _ us hl => match us, hl with | [_, _, _, _], _ => rfl) (fun _ _ _ _ _ _ us hl => match us, hl with | [_, _, _, _], _ => rfl) (fun _ _ _ _ _ _ p1 p2 u v e => by cases e <;> rfl) fun cdv A outer s H E C hC hr => ⟨_, (x_trouble_in j),
    (vb_cons (vs_for PassesOwn.never rfl (vi_seq (ve_name 0 (pv 0))) (vg_name (pg_name (i := 4) sc_trouble_in.nd rfl (by first | exact Or.inl rfl | exact Or.inr rfl)) hC (by decide)) (vb_cons (vs_setN (i := 5) sc_trouble_in.nd rfl (by first | exact Or.inl rfl | exact Or.inr rfl) (vf_call G_own_trouble (hr.mono (by first | omega | decide)) (by rfl) (va_cons (ve_name 4 (pv 4)) (va_cons (ve_name 1 (pv 1)) (va_cons (ve_name 2 (pv 2)) (va_cons (ve_name 3 (pv 3)) va_nil))))) hC (by decide))
      (vb_cons (vs_if (vt_notN (ve_name 5 (pv 5))) (vb_one (vs_ret (ve_name 5 (pv 5)))) vb_nil)
      (vb_one (vs_for PassesOwn.never rfl (vi_enum (by rfl) T.b_enumerate (va_cons (vf_call G_bodies_of (hr.mono (by first | omega | decide)) (by rfl) (va_cons (ve_name 4 (pv 4)) va_nil)) va_nil)) (vg_tup rfl (vgs_cons (vg_name (pg_name (i := 6) sc_trouble_in.nd rfl (by first | exact Or.inl rfl | exact Or.inr rfl)) hC (by decide)) (vgs_cons (vg_name (pg_name (i := 7) sc_trouble_in.nd rfl (by first | exact Or.inl rfl | exact Or.inr rfl)) hC (by decide)) vgs_nil))) (vb_cons (vs_setN (i := 5) sc_trouble_in.nd rfl (by first | exact Or.inl rfl | exact Or.inr rfl) (vf_call G_trouble_in hr (by rfl) (va_cons (ve_name 7 (pv 7)) (va_cons (ve_or (ve_name 1 (pv 1)) (ve_one (ve_and (ve_cmp (op_eqX hr.units) bop_eq (ve_ix (ve_name 4 (pv 4)) ve_int (fun _ _ => rfl)) ve_str (nomark _)) (ve_one (ve_cmp (op_eqX hr.units) bop_eq (ve_name 6 (pv 6)) ve_int (nomark _)))))) (va_cons (ve_name 2 (pv 2)) (va_cons (ve_name 3 (pv 3)) va_nil))))) hC (by decide))
      (vb_one (vs_if (vt_notN (ve_name 5 (pv 5))) (vb_one (vs_ret (ve_name 5 (pv 5)))) vb_nil))) (fun _ => rfl))))) (fun _ => rfl))
      (vb_one (vs_ret ve_non))), pf⟩
set_option maxHeartbeats 8000000 in
theorem ok_trouble_of {f : Addr} {fd : FuncData} (T : Tx K mg aLayer) (Dn : FnP K "trouble_of" s_trouble_of f fd) (g : mg "trouble_of" = some (.ref f)) (G_first_double : OkF P w K mg base 2 "first_double" ["names"] 1 [] F_first_double) (G_trouble_in : OkF P w K mg base 20 "trouble_in" ["body", "is_second", "letters", "names"] 4 [] (F_troubleJ 13)) (pf : ∀ (ds : List D) (Q : D → List D → Prop), (F_trouble_of).f ds Q → x_trouble_of.f { nx := fun ρ => ∃ outs, outsOf [] ρ = outs.map some ∧ Q .non outs, rt := fun r ρ => ∃ outs, outsOf [] ρ = outs.map some ∧ Q r outs, bk := fun _ => False, ct := fun _ => False } (ds.map some ++ List.replicate (10 - 1) none)) : OkF P w K mg base (40) "trouble_of" ["program"] 1 [] F_trouble_of := by
  exact okf_mk (P := P) (w := w) (base := base) (k := (40 - 1)) Dn g sc_trouble_of rfl (by decide) (by decide) (fun _ _ _ _ _ _ us hl => match us, hl with | [_], _ => rfl) (fun _ _ _ _ _ _ us hl => match us, hl with | [_], _ => rfl) (fun _ _ _ _ _ _ p1 p2 u v e => by cases e <;> rfl) fun cdv A outer s H E C hC hr => ⟨_, x_trouble_of,
    (vb_cons (vs_asg (ve_name 0 (pv 0)) (vg_tup rfl (vgs_cons (vg_name (pg_name (i := 1) sc_trouble_of.nd rfl (by first | exact Or.inl rfl | exact Or.inr rfl)) hC (by decide)) (vgs_cons (vg_name (pg_name (i := 2) sc_trouble_of.nd rfl (by first | exact Or.inl rfl | exact Or.inr rfl)) hC (by decide)) vgs_nil))))
      (vb_cons (vf_setLcF (i := 3) rfl sc_trouble_of.nd rfl rfl (sw_true rfl rfl rfl (by decide +kernel)) (blkOk_by (own := [("name", 7), ("body", 8)]) (N := nm_trouble_of) (sc := defScope s_trouble_of) (by decide +kernel)) hC (by decide) (vi_seq (ve_name 2 (pv 2))) (fun _ _ _ _ _ => (gw_tup (gw_cons (gw_name (by decide)) (gw_cons (gw_name (by decide)) gw_nil)))) (fun _ _ _ _ _ => (vg_tup rfl (vgs_cons (vg_name (pg_name (i := 7) sc_trouble_of.nd rfl (by first | exact Or.inl rfl | exact Or.inr rfl)) hC (by decide)) (vgs_cons (vg_name (pg_name (i := 8) sc_trouble_of.nd rfl (by first | exact Or.inl rfl | exact Or.inr rfl)) hC (by decide)) vgs_nil)))) (fun _ _ _ _ _ => vts_nil) (fun _ _ _ _ _ => (ve_name 7 (pv 7))) rfl (by decide) (fun _ => rfl))
      (vb_cons (vs_for PassesOwn.never rfl (vi_seq (ve_tup (va_cons (ve_tup (va_cons ve_str (va_cons (ve_name 1 (pv 1)) va_nil))) (va_cons (ve_tup (va_cons ve_str (va_cons (ve_name 3 (pv 3)) va_nil))) va_nil)))) (vg_tup rfl (vgs_cons (vg_name (pg_name (i := 4) sc_trouble_of.nd rfl (by first | exact Or.inl rfl | exact Or.inr rfl)) hC (by decide)) (vgs_cons (vg_name (pg_name (i := 5) sc_trouble_of.nd rfl (by first | exact Or.inl rfl | exact Or.inr rfl)) hC (by decide)) vgs_nil))) (vb_cons (vs_setN (i := 6) sc_trouble_of.nd rfl (by first | exact Or.inl rfl | exact Or.inr rfl) (vf_call G_first_double (hr.mono (by first | omega | decide)) (by rfl) (va_cons (ve_name 5 (pv 5)) va_nil)) hC (by decide))
      (vb_one (vs_if (vt_notN (ve_name 6 (pv 6))) (vb_one (vs_ret (ve_tup (va_cons (ve_name 4 (pv 4)) (va_cons (ve_name 6 (pv 6)) va_nil))))) vb_nil))) (fun _ => rfl))
      (vb_cons (vs_for PassesOwn.never rfl (vi_seq (ve_name 2 (pv 2))) (vg_tup rfl (vgs_cons (vg_name (pg_name (i := 7) sc_trouble_of.nd rfl (by first | exact Or.inl rfl | exact Or.inr rfl)) hC (by decide)) (vgs_cons (vg_name (pg_name (i := 8) sc_trouble_of.nd rfl (by first | exact Or.inl rfl | exact Or.inr rfl)) hC (by decide)) vgs_nil))) (vb_cons (vs_setN (i := 9) sc_trouble_of.nd rfl (by first | exact Or.inl rfl | exact Or.inr rfl) (vf_call G_trouble_in (hr.mono (by first | omega | decide)) (by rfl) (va_cons (ve_name 8 (pv 8)) (va_cons ve_bl (va_cons (ve_name 1 (pv 1)) (va_cons (ve_name 3 (pv 3)) va_nil))))) hC (by decide))
      (vb_one (vs_if (vt_notN (ve_name 9 (pv 9))) (vb_one (vs_ret (ve_tup (va_cons (ve_name 9 (pv 9)) (va_cons (ve_name 7 (pv 7)) va_nil))))) vb_nil))) (fun _ => rfl))
      (vb_one (vs_ret ve_non)))))), pf⟩
set_option maxHeartbeats 8000000 in
theorem ok_check {f : Addr} {fd : FuncData} (T : Tx K mg aLayer) (Dn : FnP K "check" s_check f fd) (g : mg "check" = some (.ref f)) (G_need_program : OkF P w K mg base 41 "need_program" ["program"] 1 [] F_need) (G_trouble_of : OkF P w K mg base 40 "trouble_of" ["program"] 1 [] F_trouble_of) (pf : ∀ (ds : List D) (Q : D → List D → Prop), (F_check).f ds Q → x_check.f { nx := fun ρ => ∃ outs, outsOf [] ρ = outs.map some ∧ Q .non outs, rt := fun r ρ => ∃ outs, outsOf [] ρ = outs.map some ∧ Q r outs, bk := fun _ => False, ct := fun _ => False } (ds.map some ++ List.replicate (1 - 1) none)) : OkF P w K mg base (42) "check" ["program"] 1 [] F_check := by
  exact okf_mk (P := P) (w := w) (base := base) (k := (42 - 1)) Dn g sc_check rfl (by decide) (by decide) (fun _ _ _ _ _ _ us hl => match us, hl with | [_], _ => rfl) (fun _ _ _ _ _ _ us hl => match us, hl with | [_], _ => rfl) (fun _ _ _ _ _ _ p1 p2 u v e => by cases e <;> rfl) fun cdv A outer s H E C hC hr => ⟨_, x_check,
    (vb_cons (vs_expr (vf_call G_need_program (hr.mono (by first | omega | decide)) (by rfl) (va_cons (ve_name 0 (pv 0)) va_nil)))
      (vb_one (vs_ret (vf_call G_trouble_of (hr.mono (by first | omega | decide)) (by rfl) (va_cons (ve_name 0 (pv 0)) va_nil))))), pf⟩
set_option maxHeartbeats 8000000 in
theorem ok_need_checked {f : Addr} {fd : FuncData} (T : Tx K mg aLayer) (Dn : FnP K "need_checked" s_need_checked f fd) (g : mg "need_checked" = some (.ref f)) (G_check : OkF P w K mg base 42 "check" ["program"] 1 [] F_check) (pf : ∀ (ds : List D) (Q : D → List D → Prop), (F_need_checked).f ds Q → x_need_checked.f { nx := fun ρ => ∃ outs, outsOf [] ρ = outs.map some ∧ Q .non outs, rt := fun r ρ => ∃ outs, outsOf [] ρ = outs.map some ∧ Q r outs, bk := fun _ => False, ct := fun _ => False } (ds.map some ++ List.replicate (2 - 1) none)) : OkF P w K mg base (43) "need_checked" ["program"] 1 [] F_need_checked := by
  exact okf_mk (P := P) (w := w) (base := base) (k := (43 - 1)) Dn g sc_need_checked rfl (by decide) (by decide) (fun _ _ _ _ _ _ us hl => match us, hl with | [_], _ => rfl) (fun _ _ _ _ _ _ us hl => match us, hl with | [_], _ => rfl) (fun _ _ _ _ _ _ p1 p2 u v e => by cases e <;> rfl) fun cdv A outer s H E C hC hr => ⟨_, x_need_checked,
    (vb_cons (vs_setN (i := 1) sc_need_checked.nd rfl (by first | exact Or.inl rfl | exact Or.inr rfl) (vf_call G_check (hr.mono (by first | omega | decide)) (by rfl) (va_cons (ve_name 0 (pv 0)) va_nil)) hC (by decide))
      (vb_one (vs_if (vt_notN (ve_name 1 (pv 1))) vb_never vb_nil))), pf⟩
set_option maxHeartbeats 8000000 in
theorem ok_Layer___init__ {f : Addr} {fd : FuncData} (T : Tx K mg aLayer) (Dn : FnM K "__init__" "Layer.__init__" s_Layer___init__ f fd) (hm : Meth K aLayer "__init__" f) (pf : ∀ (ds : List D) (Q : D → List D → Prop), ((F_init aLayer)).f ds Q → (x_Layer___init__ aLayer).f { nx := fun ρ => ∃ outs, outsOf [0] ρ = outs.map some ∧ Q .non outs, rt := fun r ρ => ∃ outs, outsOf [0] ρ = outs.map some ∧ Q r outs, bk := fun _ => False, ct := fun _ => False } (ds.map some ++ List.replicate (3 - 3) none)) : OkM P w K mg base (1) aLayer "__init__" ["self", "marks", "numbers"] 3 [0] (F_init aLayer) := by
  exact okm_mk (P := P) (w := w) (base := base) (k := (1 - 1)) Dn hm sc_Layer___init__ rfl (by decide) (by decide) (fun _ _ _ _ _ _ us hl => match us, hl with | [_, _, _], _ => rfl) fun cdv A outer s H E C hC hr => ⟨_, (x_Layer___init__ aLayer),
    (vb_cons (vs_fadd (NS := ([] : List Str)) 0 (pv 0) (ve_name 1 (pv 1)) T.cls_Layer T.na_Layer_marks (by decide +kernel) (by decide))
      (vb_cons (vs_fadd (NS := (["marks"] : List Str)) 0 (pv 0) (ve_name 2 (pv 2)) T.cls_Layer T.na_Layer_numbers (by decide +kernel) (by decide))
      (vb_one (vs_fadd (NS := (["marks", "numbers"] : List Str)) 0 (pv 0) (ve_lst (va_cons (ve_tup (va_cons ve_str va_nil)) va_nil)) T.cls_Layer T.na_Layer_found (by decide +kernel) (by decide))))), pf⟩
set_option maxHeartbeats 8000000 in
theorem ok_Layer_make {f : Addr} {fd : FuncData} (T : Tx K mg aLayer) (Dn : FnM K "make" "Layer.make" s_Layer_make f fd) (hm : Meth K aLayer "make" f) (pf : ∀ (ds : List D) (Q : D → List D → Prop), ((F_make aLayer)).f ds Q → (x_Layer_make aLayer).f { nx := fun ρ => ∃ outs, outsOf [0] ρ = outs.map some ∧ Q .non outs, rt := fun r ρ => ∃ outs, outsOf [0] ρ = outs.map some ∧ Q r outs, bk := fun _ => False, ct := fun _ => False } (ds.map some ++ List.replicate (2 - 2) none)) : OkM P w K mg base (2) aLayer "make" ["self", "place"] 2 [0] (F_make aLayer) := by
  exact okm_mk (P := P) (w := w) (base := base) (k := (2 - 1)) Dn hm sc_Layer_make rfl (by decide) (by decide) (fun _ _ _ _ _ _ us hl => match us, hl with | [_, _], _ => rfl) fun cdv A outer s H E C hC hr => ⟨_, (x_Layer_make aLayer),
    (vb_cons (vs_if (vt_cmp (op_eqX hr.units) bop_eq (ve_flen (NS := ns_Layer) 0 2 (pv 0) T.cls_Layer T.na_Layer_found (by decide +kernel) (by rfl) T.b_len) (ve_globI (by rfl) T.c_MOST_PLACES) (nomark _)) vb_never vb_nil)
      (vb_cons (vs_expr (ve_fapp (NS := ns_Layer) 0 2 1 T.cls_Layer T.na_Layer_found (by decide +kernel) (pe_bm PySem.F.plainAttrs_list PySem.F.slot_list_append PySem.F.type_list_append mt_append (pe_fld (pv 0) rfl) (pa_cons (pv 1) pa_nil))))
      (vb_one (vs_ret (ve_bin op_sub bop_sub (ve_flen (NS := ns_Layer) 0 2 (pv 0) T.cls_Layer T.na_Layer_found (by decide +kernel) (by rfl) T.b_len) ve_int))))), pf⟩
set_option maxHeartbeats 8000000 in
theorem ok_Layer_body {j : Nat} {k : Nat} (hk : 3 ≤ k) {f : Addr} {fd : FuncData} (T : Tx K mg aLayer) (Dn : FnM K "body" "Layer.body" s_Layer_body f fd) (hm : Meth K aLayer "body" f) (G_Layer_statement : OkM P w K mg base k aLayer "statement" ["self", "statement", "told", "seconds"] 4 [0] (F_lstmtJ aLayer j)) (pf : ∀ (ds : List D) (Q : D → List D → Prop), ((F_lbodyJ aLayer j)).f ds Q → (x_Layer_body aLayer j).f { nx := fun ρ => ∃ outs, outsOf [0] ρ = outs.map some ∧ Q .non outs, rt := fun r ρ => ∃ outs, outsOf [0] ρ = outs.map some ∧ Q r outs, bk := fun _ => False, ct := fun _ => False } (ds.map some ++ List.replicate (6 - 4) none)) : OkM P w K mg base (k + 1) aLayer "body" ["self", "statements", "told", "seconds"] 4 [0] (F_lbodyJ aLayer j) := by
  exact okm_mk (P := P) (w := w) (base := base) (k := k) Dn hm sc_Layer_body rfl (by decide) (by decide) (fun _ _ _ _ _ _ us hl => match us, hl with | [_, _, _, _], _ => rfl) fun cdv A outer s H E C hC hr => ⟨_, (x_Layer_body aLayer j),
    (vb_cons (vs_setN (i := 4) sc_Layer_body.nd rfl (by first | exact Or.inl rfl | exact Or.inr rfl) (ve_name 2 (pv 2)) hC (by decide))
      (vb_cons (vs_for PassesOwn.never rfl (vi_rev (by rfl) T.b_reversed (ve_name 1 (pv 1))) (vg_name (pg_name (i := 5) sc_Layer_body.nd rfl (by first | exact Or.inl rfl | exact Or.inr rfl)) hC (by decide)) (vb_one (vs_setN (i := 4) sc_Layer_body.nd rfl (by first | exact Or.inl rfl | exact Or.inr rfl) (vm_call (NS := ns_Layer) 0 G_Layer_statement (by decide +kernel) (va_cons (ve_name 5 (pv 5)) (va_cons (ve_name 4 (pv 4)) (va_cons (ve_name 3 (pv 3)) va_nil))) (fun hm F hb pa => pe_meth (pv 0) T.cls_Layer hm F hr hb .nil pass0 pa)) hC (by decide))) (fun _ => rfl))
      (vb_one (vs_ret (ve_name 4 (pv 4)))))), pf⟩
set_option maxHeartbeats 8000000 in
theorem ok_Layer_statement {j : Nat} {k : Nat} (hk : 3 ≤ k) {f : Addr} {fd : FuncData} (T : Tx K mg aLayer) (Dn : FnM K "statement" "Layer.statement" s_Layer_statement f fd) (hm : Meth K aLayer "statement" f) (G_Layer_body : OkM P w K mg base k aLayer "body" ["self", "statements", "told", "seconds"] 4 [0] (F_lbodyJ aLayer j)) (G_Layer_make : OkM P w K mg base 2 aLayer "make" ["self", "place"] 2 [0] (F_make aLayer)) (pf : ∀ (ds : List D) (Q : D → List D → Prop), ((F_lstmtJ aLayer (j + 1))).f ds Q → (x_Layer_statement aLayer j).f { nx := fun ρ => ∃ outs, outsOf [0] ρ = outs.map some ∧ Q .non outs, rt := fun r ρ => ∃ outs, outsOf [0] ρ = outs.map some ∧ Q r outs, bk := fun _ => False, ct := fun _ => False } (ds.map some ++ List.replicate (12 - 4) none)) : OkM P w K mg base (k + 1) aLayer "statement" ["self", "statement", "told", "seconds"] 4 [0] (F_lstmtJ aLayer (j + 1)) := by
  exact okm_mk (P := P) (w := w) (base := base) (k := k) Dn hm sc_Layer_statement rfl (by decide) (by decide) (fun _ _ _ _ _ _ us hl => match us, hl with | [_, _, _, _], _ => rfl) fun cdv A outer s H E C hC hr => ⟨_, (x_Layer_statement aLayer j),
    (vb_cons (vs_setN (i := 4) sc_Layer_statement.nd rfl (by first | exact Or.inl rfl | exact Or.inr rfl) (ve_ix (ve_name 1 (pv 1)) ve_int (fun _ _ => rfl)) hC (by decide))
      (vb_cons (vs_if (VW.vt (vw_or (vt_cmp (op_eqX hr.units) bop_eq (ve_name 4 (pv 4)) ve_str (nomark _)) (vw_or1 (vt_cmp (op_eqX hr.units) bop_eq (ve_name 4 (pv 4)) ve_str (nomark _))))) (vb_cons (vs_setN (i := 5) sc_Layer_statement.nd rfl (by first | exact Or.inl rfl | exact Or.inr rfl) (ve_dget (un1 hr) (ve_fld (NS := ns_Layer) 0 0 (pv 0) T.cls_Layer T.na_Layer_marks (by decide +kernel)) (ve_ix (ve_name 1 (pv 1)) ve_int (fun _ _ => rfl)) (fun _ _ => rfl)) hC (by decide))
      (vb_one (vs_ret (vm_call (NS := ns_Layer) 0 G_Layer_make (by decide +kernel) (va_cons (ve_tup (va_cons ve_str (va_cons (ve_if (vt_cmp (op_eqX hr.units) bop_eq (ve_name 4 (pv 4)) ve_str (nomark _)) (ve_name 5 (pv 5)) (ve_un un_neg uop_neg (ve_name 5 (pv 5)))) (va_cons (ve_name 2 (pv 2)) va_nil)))) va_nil) (fun hm F hb pa => pe_meth (pv 0) T.cls_Layer hm F (hr.mono (by first | omega | decide)) hb .nil pass0 pa))))) vb_nil)
      (vb_cons (vs_if (vt_cmp (op_eqX hr.units) bop_eq (ve_name 4 (pv 4)) ve_str (nomark _)) (vb_one (vs_ret (vm_call (NS := ns_Layer) 0 G_Layer_make (by decide +kernel) (va_cons (ve_tup (va_cons ve_str (va_cons (ve_dget (un1 hr) (ve_fld (NS := ns_Layer) 0 1 (pv 0) T.cls_Layer T.na_Layer_numbers (by decide +kernel)) (ve_ix (ve_name 1 (pv 1)) ve_int (fun _ _ => rfl)) (fun _ _ => rfl)) (va_cons (ve_name 2 (pv 2)) va_nil)))) va_nil) (fun hm F hb pa => pe_meth (pv 0) T.cls_Layer hm F (hr.mono (by first | omega | decide)) hb .nil pass0 pa)))) vb_nil)
      (vb_cons (vs_if (vt_cmp (op_eqX hr.units) bop_eq (ve_name 4 (pv 4)) ve_str (nomark _)) (vb_cons (vf_setLcF (i := 6) rfl sc_Layer_statement.nd rfl rfl (sw_true rfl rfl rfl (by decide +kernel)) (blkOk_by (own := [("one", 11)]) (N := nm_Layer_statement) (sc := defScope s_Layer_statement) (by decide +kernel)) hC (by decide) (vi_seq (ve_ix (ve_name 1 (pv 1)) ve_int (fun _ _ => rfl))) (fun _ _ _ _ _ => (gw_name (by decide))) (fun _ _ _ _ _ => (vg_name (pg_name (i := 11) sc_Layer_statement.nd rfl (by first | exact Or.inl rfl | exact Or.inr rfl)) hC (by decide))) (fun _ _ _ _ _ => vts_nil) (fun _ _ _ _ _ => (vm_call (NS := ns_Layer) 0 G_Layer_body (by decide +kernel) (va_cons (ve_name 11 (pv 11)) (va_cons (ve_name 2 (pv 2)) (va_cons (ve_name 3 (pv 3)) va_nil))) (fun hm F hb pa => pe_meth (pv 0) T.cls_Layer hm F hr hb .nil pass0 pa))) rfl (by decide) (fun _ => rfl))
      (vb_one (vs_ret (vm_call (NS := ns_Layer) 0 G_Layer_make (by decide +kernel) (va_cons (ve_tup (va_cons ve_str (va_cons (ve_callTy call_tuple_of cal_tuple (by rfl) T.b_tuple (by decide +kernel) (va_cons (ve_name 6 (pv 6)) va_nil)) va_nil))) va_nil) (fun hm F hb pa => pe_meth (pv 0) T.cls_Layer hm F (hr.mono (by first | omega | decide)) hb .nil pass0 pa))))) vb_nil)
      (vb_cons (vs_if (vt_cmp (op_eqX hr.units) bop_eq (ve_name 4 (pv 4)) ve_str (nomark _)) (vb_cons (vs_setN (i := 7) sc_Layer_statement.nd rfl (by first | exact Or.inl rfl | exact Or.inr rfl) (vm_call (NS := ns_Layer) 0 G_Layer_make (by decide +kernel) (va_cons ve_non va_nil) (fun hm F hb pa => pe_meth (pv 0) T.cls_Layer hm F (hr.mono (by first | omega | decide)) hb .nil pass0 pa)) hC (by decide))
      (vb_cons (vs_asg (ve_tup (va_cons ve_str (va_cons (ve_tup (va_cons (vm_call (NS := ns_Layer) 0 G_Layer_body (by decide +kernel) (va_cons (ve_ix (ve_name 1 (pv 1)) ve_int (fun _ _ => rfl)) (va_cons (ve_name 7 (pv 7)) (va_cons (ve_name 3 (pv 3)) va_nil))) (fun hm F hb pa => pe_meth (pv 0) T.cls_Layer hm F hr hb .nil pass0 pa)) (va_cons (ve_name 2 (pv 2)) va_nil))) va_nil))) (vg_fset (NS := ns_Layer) 0 2 7 (pv 0) (pv 7) T.cls_Layer T.na_Layer_found (by decide +kernel)))
      (vb_one (vs_ret (ve_name 7 (pv 7)))))) vb_nil)
      (vb_cons (vs_if (vt_cmp (op_eqX hr.units) bop_eq (ve_name 4 (pv 4)) ve_str (nomark _)) (vb_cons (vs_setN (i := 8) sc_Layer_statement.nd rfl (by first | exact Or.inl rfl | exact Or.inr rfl) ve_int hC (by decide))
      (vb_cons (vs_for PassesOwn.never rfl (vi_seq (ve_name 3 (pv 3))) (vg_name (pg_name (i := 9) sc_Layer_statement.nd rfl (by first | exact Or.inl rfl | exact Or.inr rfl)) hC (by decide)) (vb_one (vs_setN (i := 8) sc_Layer_statement.nd rfl (by first | exact Or.inl rfl | exact Or.inr rfl) (vm_call (NS := ns_Layer) 0 G_Layer_body (by decide +kernel) (va_cons (ve_name 9 (pv 9)) (va_cons (ve_name 8 (pv 8)) (va_cons (ve_tup va_nil) va_nil))) (fun hm F hb pa => pe_meth (pv 0) T.cls_Layer hm F hr hb .nil pass0 pa)) hC (by decide))) (fun _ => rfl))
      (vb_one (vs_ret (ve_name 8 (pv 8)))))) vb_nil)
      (vb_cons (vs_setN (i := 10) sc_Layer_statement.nd rfl (by first | exact Or.inl rfl | exact Or.inr rfl) (vm_call (NS := ns_Layer) 0 G_Layer_body (by decide +kernel) (va_cons (ve_ix (ve_name 1 (pv 1)) ve_int (fun _ _ => rfl)) (va_cons (ve_name 2 (pv 2)) (va_cons (ve_tup va_nil) va_nil))) (fun hm F hb pa => pe_meth (pv 0) T.cls_Layer hm F hr hb .nil pass0 pa)) hC (by decide))
      (vb_one (vs_ret (vm_call (NS := ns_Layer) 0 G_Layer_body (by decide +kernel) (va_cons (ve_ix (ve_name 1 (pv 1)) ve_int (fun _ _ => rfl)) (va_cons (ve_name 10 (pv 10)) (va_cons (ve_bin op_addX bop_add (ve_name 3 (pv 3)) (ve_tup (va_cons (ve_ix (ve_name 1 (pv 1)) ve_int (fun _ _ => rfl)) va_nil))) va_nil))) (fun hm F hb pa => pe_meth (pv 0) T.cls_Layer hm F hr hb .nil pass0 pa))))))))))), pf⟩
set_option maxHeartbeats 8000000 in
theorem ok_laid {f : Addr} {fd : FuncData} (T : Tx K mg aLayer) (Dn : FnP K "laid" s_laid f fd) (g : mg "laid" = some (.ref f)) (G_Layer___init__ : OkM P w K mg base 1 aLayer "__init__" ["self", "marks", "numbers"] 3 [0] (F_init aLayer)) (G_Layer_body : OkM P w K mg base 40 aLayer "body" ["self", "statements", "told", "seconds"] 4 [0] (F_lbodyJ aLayer 16)) (pf : ∀ (ds : List D) (Q : D → List D → Prop), (F_laid).f ds Q → (x_laid aLayer).f { nx := fun ρ => ∃ outs, outsOf [] ρ = outs.map some ∧ Q .non outs, rt := fun r ρ => ∃ outs, outsOf [] ρ = outs.map some ∧ Q r outs, bk := fun _ => False, ct := fun _ => False } (ds.map some ++ List.replicate (11 - 1) none)) : OkF P w K mg base (60) "laid" ["program"] 1 [] F_laid := by
  exact okf_mk (P := P) (w := w) (base := base) (k := (60 - 1)) Dn g sc_laid rfl (by decide) (by decide) (fun _ _ _ _ _ _ us hl => match us, hl with | [_], _ => rfl) (fun _ _ _ _ _ _ us hl => match us, hl with | [_], _ => rfl) (fun _ _ _ _ _ _ p1 p2 u v e => by cases e <;> rfl) fun cdv A outer s H E C hC hr => ⟨_, (x_laid aLayer),
    (vb_cons (vs_asg (ve_name 0 (pv 0)) (vg_tup rfl (vgs_cons (vg_name (pg_name (i := 1) sc_laid.nd rfl (by first | exact Or.inl rfl | exact Or.inr rfl)) hC (by decide)) (vgs_cons (vg_name (pg_name (i := 2) sc_laid.nd rfl (by first | exact Or.inl rfl | exact Or.inr rfl)) hC (by decide)) vgs_nil))))
      (vb_cons (vf_setDcF (i := 3) rfl sc_laid.nd rfl rfl (swd_true rfl rfl rfl (by decide +kernel)) (blkOk_by (own := [("index", 10), ("name", 6)]) (N := nm_laid) (sc := defScope s_laid) (by decide +kernel)) hC (by decide) (vi_enum (by rfl) T.b_enumerate (va_cons (ve_name 1 (pv 1)) va_nil)) (fun _ _ _ _ _ => (gw_tup (gw_cons (gw_name (by decide)) (gw_cons (gw_name (by decide)) gw_nil)))) (fun _ _ _ _ _ => (vg_tup rfl (vgs_cons (vg_name (pg_name (i := 10) sc_laid.nd rfl (by first | exact Or.inl rfl | exact Or.inr rfl)) hC (by decide)) (vgs_cons (vg_name (pg_name (i := 6) sc_laid.nd rfl (by first | exact Or.inl rfl | exact Or.inr rfl)) hC (by decide)) vgs_nil)))) (fun _ _ _ _ _ => vts_nil) (fun _ _ _ _ _ => (ve_name 6 (pv 6))) (fun _ _ _ _ _ => (ve_bin op_addX bop_add (ve_name 10 (pv 10)) ve_int)) rfl (by decide) (fun _ => rfl))
      (vb_cons (vf_setDcF (i := 4) rfl sc_laid.nd rfl rfl (swd_true rfl rfl rfl (by decide +kernel)) (blkOk_by (own := [("index", 10), ("name", 6), ("body", 7)]) (N := nm_laid) (sc := defScope s_laid) (by decide +kernel)) hC (by decide) (vi_enum (by rfl) T.b_enumerate (va_cons (ve_name 2 (pv 2)) va_nil)) (fun _ _ _ _ _ => (gw_tup (gw_cons (gw_name (by decide)) (gw_cons (gw_tup (gw_cons (gw_name (by decide)) (gw_cons (gw_name (by decide)) gw_nil))) gw_nil)))) (fun _ _ _ _ _ => (vg_tup rfl (vgs_cons (vg_name (pg_name (i := 10) sc_laid.nd rfl (by first | exact Or.inl rfl | exact Or.inr rfl)) hC (by decide)) (vgs_cons (vg_tup rfl (vgs_cons (vg_name (pg_name (i := 6) sc_laid.nd rfl (by first | exact Or.inl rfl | exact Or.inr rfl)) hC (by decide)) (vgs_cons (vg_name (pg_name (i := 7) sc_laid.nd rfl (by first | exact Or.inl rfl | exact Or.inr rfl)) hC (by decide)) vgs_nil))) vgs_nil)))) (fun _ _ _ _ _ => vts_nil) (fun _ _ _ _ _ => (ve_name 6 (pv 6))) (fun _ _ _ _ _ => (ve_name 10 (pv 10))) rfl (by decide) (fun _ => rfl))
      (vb_cons (vs_setN (i := 5) sc_laid.nd rfl (by first | exact Or.inl rfl | exact Or.inr rfl) (ve_lst va_nil) hC (by decide))
      (vb_cons (vs_for PassesOwn.never rfl (vi_seq (ve_name 2 (pv 2))) (vg_tup rfl (vgs_cons (vg_name (pg_name (i := 6) sc_laid.nd rfl (by first | exact Or.inl rfl | exact Or.inr rfl)) hC (by decide)) (vgs_cons (vg_name (pg_name (i := 7) sc_laid.nd rfl (by first | exact Or.inl rfl | exact Or.inr rfl)) hC (by decide)) vgs_nil))) (vb_cons (vs_setN (i := 8) sc_laid.nd rfl (by first | exact Or.inl rfl | exact Or.inr rfl) (vm_make G_Layer___init__ (va_cons (ve_name 3 (pv 3)) (va_cons (ve_name 4 (pv 4)) va_nil)) rfl (fun hm F hb pa => pe_make ⟨T.mk_Layer, hm.at_, hm.fn, T.kp_Layer⟩ F (hr.mono (by first | omega | decide)) (by rfl) T.g_Layer hb .nil pass0 pa)) hC (by decide))
      (vb_cons (vs_setN (i := 9) sc_laid.nd rfl (by first | exact Or.inl rfl | exact Or.inr rfl) (vm_call (NS := ns_Layer) 8 G_Layer_body (by decide +kernel) (va_cons (ve_name 7 (pv 7)) (va_cons ve_int (va_cons (ve_tup va_nil) va_nil))) (fun hm F hb pa => pe_meth (pv 8) T.cls_Layer hm F (hr.mono (by first | omega | decide)) hb .nil pass0 pa)) hC (by decide))
      (vb_one (vs_expr (ve_appN 5 (pv 5) (ve_tup (va_cons (ve_name 9 (pv 9)) (va_cons (ve_ftup (NS := ns_Layer) 8 2 (pv 8) T.cls_Layer T.na_Layer_found (by decide +kernel) (by rfl) T.b_tuple) va_nil)))))))) (fun _ => rfl))
      (vb_one (vs_ret (ve_tupS 5 (pv 5) (by rfl) T.b_tuple (by decide +kernel))))))))), pf⟩
set_option maxHeartbeats 8000000 in
theorem ok_places {f : Addr} {fd : FuncData} (T : Tx K mg aLayer) (Dn : FnP K "places" s_places f fd) (g : mg "places" = some (.ref f)) (G_laid : OkF P w K mg base 60 "laid" ["program"] 1 [] F_laid) (G_need_checked : OkF P w K mg base 43 "need_checked" ["program"] 1 [] F_need_checked) (pf : ∀ (ds : List D) (Q : D → List D → Prop), (F_places).f ds Q → x_places.f { nx := fun ρ => ∃ outs, outsOf [] ρ = outs.map some ∧ Q .non outs, rt := fun r ρ => ∃ outs, outsOf [] ρ = outs.map some ∧ Q r outs, bk := fun _ => False, ct := fun _ => False } (ds.map some ++ List.replicate (1 - 1) none)) : OkF P w K mg base (61) "places" ["program"] 1 [] F_places := by
  exact okf_mk (P := P) (w := w) (base := base) (k := (61 - 1)) Dn g sc_places rfl (by decide) (by decide) (fun _ _ _ _ _ _ us hl => match us, hl with | [_], _ => rfl) (fun _ _ _ _ _ _ us hl => match us, hl with | [_], _ => rfl) (fun _ _ _ _ _ _ p1 p2 u v e => by cases e <;> rfl) fun cdv A outer s H E C hC hr => ⟨_, x_places,
    (vb_cons (vs_expr (vf_call G_need_checked (hr.mono (by first | omega | decide)) (by rfl) (va_cons (ve_name 0 (pv 0)) va_nil)))
      (vb_one (vs_ret (vf_call G_laid (hr.mono (by first | omega | decide)) (by rfl) (va_cons (ve_name 0 (pv 0)) va_nil))))), pf⟩
set_option maxHeartbeats 8000000 in
theorem ok__law_store {f : Addr} {fd : FuncData} (T : Tx K mg aLayer) (Dn : FnP K "_law_store" s__law_store f fd) (g : mg "_law_store" = some (.ref f)) (pf : ∀ (ds : List D) (Q : D → List D → Prop), (F_store).f ds Q → x__law_store.f { nx := fun ρ => ∃ outs, outsOf [] ρ = outs.map some ∧ Q .non outs, rt := fun r ρ => ∃ outs, outsOf [] ρ = outs.map some ∧ Q r outs, bk := fun _ => False, ct := fun _ => False } (ds.map some ++ List.replicate (10 - 3) none)) : OkF P w K mg base (1) "_law_store" ["cells", "lot", "many"] 3 [] F_store := by
  exact okf_mk (P := P) (w := w) (base := base) (k := (1 - 1)) Dn g sc__law_store rfl (by decide) (by decide) (fun _ _ _ _ _ _ us hl => match us, hl with | [_, _, _], _ => rfl) (fun _ _ _ _ _ _ us hl => match us, hl with | [_, _, _], _ => rfl) (fun _ _ _ _ _ _ p1 p2 u v e => by cases e <;> rfl) fun cdv A outer s H E C hC hr => ⟨_, x__law_store,
    (vb_cons (vs_tupN rfl (va_cons (ve_bin op_addX bop_add ve_int (ve_bin op_mulX bop_mul ve_int (ve_name 1 (pv 1)))) (va_cons ve_int (va_cons ve_int (va_cons (ve_lst (va_cons ve_int va_nil)) va_nil)))) (vgs_cons (vg_name (pg_name (i := 3) sc__law_store.nd rfl (by first | exact Or.inl rfl | exact Or.inr rfl)) hC (by decide)) (vgs_cons (vg_name (pg_name (i := 4) sc__law_store.nd rfl (by first | exact Or.inl rfl | exact Or.inr rfl)) hC (by decide)) (vgs_cons (vg_name (pg_name (i := 5) sc__law_store.nd rfl (by first | exact Or.inl rfl | exact Or.inr rfl)) hC (by decide)) (vgs_cons (vg_name (pg_name (i := 6) sc__law_store.nd rfl (by first | exact Or.inl rfl | exact Or.inr rfl)) hC (by decide)) vgs_nil)))))
      (vb_cons (vs_for PassesOwn.never rfl (vi_rng1 (by rfl) T.b_range (va_cons (ve_name 2 (pv 2)) va_nil)) (vg_name (pg_name (i := 7) sc__law_store.nd rfl (by first | exact Or.inl rfl | exact Or.inr rfl)) hC (by decide)) (vb_cons (vs_if (VW.vt (vw_and (vt_cmp (op_eqX hr.units) bop_eq (ve_name 4 (pv 4)) ve_int (nomark _)) (vw_and1 (vt_cmp op_lt bop_lt (ve_name 5 (pv 5)) (ve_callB call_len cal_len (by rfl) T.b_len PySem.boot_len (va_cons (ve_name 0 (pv 0)) va_nil)) (nomark _))))) (vb_cons (vs_setN (i := 8) sc__law_store.nd rfl (by first | exact Or.inl rfl | exact Or.inr rfl) (ve_callB call_abs cal_abs (by rfl) T.b_abs (by decide +kernel) (va_cons (ve_callTy call_int1 cal_int (by rfl) T.b_int (by decide +kernel) (va_cons (ve_ix (ve_name 0 (pv 0)) (ve_name 5 (pv 5)) (fun _ _ => rfl)) va_nil)) va_nil)) hC (by decide))
      (vb_cons (vs_setN (i := 5) sc__law_store.nd rfl (by first | exact Or.inl rfl | exact Or.inr rfl) (ve_bin op_addX bop_add (ve_name 5 (pv 5)) ve_int) hC (by decide))
      (vb_cons (vs_setN (i := 3) sc__law_store.nd rfl (by first | exact Or.inl rfl | exact Or.inr rfl) (ve_bin op_mod bop_mod (ve_callTy call_int1 cal_int (by rfl) T.b_int (by decide +kernel) (va_cons (ve_bin op_addX bop_add (ve_bin op_addX bop_add (ve_bin op_mulX bop_mul (ve_name 3 (pv 3)) ve_int) (ve_name 8 (pv 8))) (ve_bin op_mulX bop_mul ve_int (ve_name 5 (pv 5)))) va_nil)) ve_int) hC (by decide))
      (vb_one (vs_setN (i := 4) sc__law_store.nd rfl (by first | exact Or.inl rfl | exact Or.inr rfl) (ve_bin op_mulX bop_mul (ve_name 8 (pv 8)) (ve_callTy call_int1 cal_int (by rfl) T.b_int (by decide +kernel) (va_cons (ve_cmp op_ge bop_ge (ve_name 8 (pv 8)) (ve_bin op_pow bop_pow ve_int ve_int) (nomark _)) va_nil))) hC (by decide)))))) vb_nil)
      (vb_cons (vs_setN (i := 3) sc__law_store.nd rfl (by first | exact Or.inl rfl | exact Or.inr rfl) (ve_bin op_mod bop_mod (ve_callTy call_int1 cal_int (by rfl) T.b_int (by decide +kernel) (va_cons (ve_bin op_addX bop_add (ve_bin op_addX bop_add (ve_bin op_mulX bop_mul (ve_name 3 (pv 3)) ve_int) (ve_bin op_mulX bop_mul (ve_bin op_mulX bop_mul (ve_name 7 (pv 7)) (ve_name 7 (pv 7))) (ve_name 7 (pv 7)))) ve_int) va_nil)) ve_int) hC (by decide))
      (vb_cons (vs_setN (i := 9) sc__law_store.nd rfl (by first | exact Or.inl rfl | exact Or.inr rfl) (ve_bin op_mod bop_mod (ve_bin op_fdivW bop_div (ve_bin op_mod bop_mod (ve_callTy call_int1 cal_int (by rfl) T.b_int (by decide +kernel) (va_cons (ve_bin op_mulX bop_mul (ve_name 3 (pv 3)) (ve_bin op_addX bop_add (ve_bin op_fdivW bop_div (ve_name 3 (pv 3)) ve_int) ve_int)) va_nil)) ve_int) ve_int) ve_int) hC (by decide))
      (vb_cons (vs_if (vt_cmp op_gt bop_gt (ve_name 4 (pv 4)) ve_int (nomark _)) (vb_cons (vs_setN (i := 9) sc__law_store.nd rfl (by first | exact Or.inl rfl | exact Or.inr rfl) (ve_bin op_mod bop_mod (ve_callTy call_int1 cal_int (by rfl) T.b_int (by decide +kernel) (va_cons (ve_name 4 (pv 4)) va_nil)) ve_int) hC (by decide))
      (vb_one (vs_setN (i := 4) sc__law_store.nd rfl (by first | exact Or.inl rfl | exact Or.inr rfl) (ve_bin op_fdivW bop_div (ve_name 4 (pv 4)) ve_int) hC (by decide)))) vb_nil)
      (vb_one (vs_expr (ve_appN 6 (pv 6) (ve_name 9 (pv 9))))))))) (fun _ => rfl))
      (vb_one (vs_ret (ve_mv 6 (pv 6)))))), pf⟩
set_option maxHeartbeats 8000000 in
theorem ok__law_pick {f : Addr} {fd : FuncData} (T : Tx K mg aLayer) (Dn : FnP K "_law_pick" s__law_pick f fd) (g : mg "_law_pick" = some (.ref f)) (pf : ∀ (ds : List D) (Q : D → List D → Prop), (F_pick).f ds Q → x__law_pick.f { nx := fun ρ => ∃ outs, outsOf [0] ρ = outs.map some ∧ Q .non outs, rt := fun r ρ => ∃ outs, outsOf [0] ρ = outs.map some ∧ Q r outs, bk := fun _ => False, ct := fun _ => False } (ds.map some ++ List.replicate (4 - 2) none)) : OkF P w K mg base (1) "_law_pick" ["store", "many"] 2 [0] F_pick := by
  exact okf_mk (P := P) (w := w) (base := base) (k := (1 - 1)) Dn g sc__law_pick rfl (by decide) (by decide) (fun _ _ _ _ _ _ us hl => match us, hl with | [_, _], _ => rfl) (fun _ _ _ _ _ _ us hl => match us, hl with | [_, _], _ => rfl) (fun _ _ _ _ _ _ p1 p2 u v e => by cases e <;> rfl) fun cdv A outer s H E C hC hr => ⟨_, x__law_pick,
    (vb_cons (vs_setN (i := 2) sc__law_pick.nd rfl (by first | exact Or.inl rfl | exact Or.inr rfl) (ve_bin op_addX bop_add (ve_ixS 0 (pv 0) ve_int (fun _ _ => rfl)) ve_int) hC (by decide))
      (vb_cons (vs_if (vt_cmp (op_eqX hr.units) bop_eq (ve_name 2 (pv 2)) (ve_lenS 0 (pv 0) (by rfl) T.b_len PySem.boot_len) (nomark _)) (vb_cons (vs_setN (i := 2) sc__law_pick.nd rfl (by first | exact Or.inl rfl | exact Or.inr rfl) ve_int hC (by decide))
      (vb_one (vs_for PassesOwn.never rfl (vi_rng2 (by rfl) T.b_range (va_cons ve_int (va_cons (ve_lenS 0 (pv 0) (by rfl) T.b_len PySem.boot_len) va_nil))) (vg_name (pg_name (i := 3) sc__law_pick.nd rfl (by first | exact Or.inl rfl | exact Or.inr rfl)) hC (by decide)) (vb_one (vs_asg (ve_bin op_mod bop_mod (ve_callTy call_int1 cal_int (by rfl) T.b_int (by decide +kernel) (va_cons (ve_bin op_addX bop_add (ve_bin op_addX bop_add (ve_bin op_mulX bop_mul (ve_ixS 0 (pv 0) (ve_name 3 (pv 3)) (fun _ _ => rfl)) ve_int) (ve_bin op_mulX bop_mul (ve_name 3 (pv 3)) ve_int)) ve_int) va_nil)) ve_int) (vg_setS 0 (pv 0) (ve_name 3 (pv 3))))) (fun _ => rfl)))) vb_nil)
      (vb_cons (vs_asg (ve_name 2 (pv 2)) (vg_setS 0 (pv 0) ve_int))
      (vb_one (vs_ret (ve_bin op_mod bop_mod (ve_callTy call_int1 cal_int (by rfl) T.b_int (by decide +kernel) (va_cons (ve_ixS 0 (pv 0) (ve_name 2 (pv 2)) (fun _ _ => rfl)) va_nil)) (ve_name 1 (pv 1)))))))), pf⟩
set_option maxHeartbeats 8000000 in
theorem ok__law_same {j : Nat} {k : Nat} (hk : 0 ≤ k) {f : Addr} {fd : FuncData} (T : Tx K mg aLayer) (Dn : FnP K "_law_same" s__law_same f fd) (g : mg "_law_same" = some (.ref f)) (G__law_same : OkF P w K mg base k "_law_same" ["found", "due"] 2 [] (F_sameJ j)) (pf : ∀ (ds : List D) (Q : D → List D → Prop), ((F_sameJ (j + 1))).f ds Q → (x__law_same j).f { nx := fun ρ => ∃ outs, outsOf [] ρ = outs.map some ∧ Q .non outs, rt := fun r ρ => ∃ outs, outsOf [] ρ = outs.map some ∧ Q r outs, bk := fun _ => False, ct := fun _ => False } (ds.map some ++ List.replicate (3 - 2) none)) : OkF P w K mg base (k + 1) "_law_same" ["found", "due"] 2 [] (F_sameJ (j + 1)) := by
  exact okf_mk (P := P) (w := w) (base := base) (k := k) Dn g sc__law_same rfl (by decide) (by decide) (fun _ _ _ _ _ _ us hl => match us, hl with | [_, _], _ => rfl) (fun _ _ _ _ _ _ us hl => match us, hl with | [_, _], _ => rfl) (fun _ _ _ _ _ _ p1 p2 u v e => by cases e <;> rfl) fun cdv A outer s H E C hC hr => ⟨_, (x__law_same j),
    (vb_cons (vs_if (vt_truth (ve_isi kit_tup (ve_name 1 (pv 1)) (by rfl) T.b_isinstance (pe_bltn (by rfl) T.b_tuple (by decide +kernel) rfl))) (vb_cons (vs_if (VW.vt (vw_or (vt_not (vt_truth (ve_isi kit_tup (ve_name 0 (pv 0)) (by rfl) T.b_isinstance (pe_bltn (by rfl) T.b_tuple (by decide +kernel) rfl)))) (vw_or1 (vt_cmp (op_neX hr.units) bop_ne (ve_callB call_len cal_len (by rfl) T.b_len PySem.boot_len (va_cons (ve_name 0 (pv 0)) va_nil)) (ve_callB call_len cal_len (by rfl) T.b_len PySem.boot_len (va_cons (ve_name 1 (pv 1)) va_nil)) (nomark _))))) (vb_one (vs_ret ve_bl)) vb_nil)
      (vb_one (vs_ret (ve_callB (cr_all rfl) (cal_all (f := fun bs => bs.all id)) (by rfl) T.b_all (by decide +kernel) (va_cons (vf_lc rfl sc__law_same.nd (blkOk_by (own := [("k", 2)]) (N := nm__law_same) (sc := defScope s__law_same) (by decide +kernel)) hC (by decide) (vi_rng1 (by rfl) T.b_range (va_cons (ve_callB call_len cal_len (by rfl) T.b_len PySem.boot_len (va_cons (ve_name 1 (pv 1)) va_nil)) va_nil)) (fun _ _ _ _ _ => (gw_name (by decide))) (fun _ _ _ _ _ => (vg_name (pg_name (i := 2) sc__law_same.nd rfl (by first | exact Or.inl rfl | exact Or.inr rfl)) hC (by decide))) (fun _ _ _ _ _ => vts_nil) (fun _ _ _ _ _ => (vf_call G__law_same hr (by rfl) (va_cons (ve_ix (ve_name 0 (pv 0)) (ve_name 2 (pv 2)) (fun _ _ => rfl)) (va_cons (ve_ix (ve_name 1 (pv 1)) (ve_name 2 (pv 2)) (fun _ _ => rfl)) va_nil)))) rfl (fun _ => rfl)) va_nil))))) vb_nil)
      (vb_cons (vs_if (vt_isN (ve_name 1 (pv 1))) (vb_one (vs_ret (ve_isN (ve_name 0 (pv 0))))) vb_nil)
      (vb_cons (vs_if (vt_truth (ve_isi kit_str (ve_name 1 (pv 1)) (by rfl) T.b_isinstance (pe_bltn (by rfl) T.b_str (by decide +kernel) rfl))) (vb_one (vs_ret (ve_and (ve_isi kit_str (ve_name 0 (pv 0)) (by rfl) T.b_isinstance (pe_bltn (by rfl) T.b_str (by decide +kernel) rfl)) (ve_one (ve_cmp (op_eqX hr.units) bop_eq (ve_name 0 (pv 0)) (ve_name 1 (pv 1)) (nomark _)))))) vb_nil)
      (vb_cons (vs_if (vt_truth (ve_isi kit_bl (ve_name 1 (pv 1)) (by rfl) T.b_isinstance (pe_bltn (by rfl) T.b_bool (by decide +kernel) rfl))) (vb_one (vs_ret (ve_and (ve_isi kit_bl (ve_name 0 (pv 0)) (by rfl) T.b_isinstance (pe_bltn (by rfl) T.b_bool (by decide +kernel) rfl)) (ve_one (ve_cmp (op_eqX hr.units) bop_eq (ve_name 0 (pv 0)) (ve_name 1 (pv 1)) (nomark _)))))) vb_nil)
      (vb_one (vs_ret (ve_and (ve_isi kit_int (ve_name 0 (pv 0)) (by rfl) T.b_isinstance (pe_bltn (by rfl) T.b_int (by decide +kernel) rfl)) (ve_and (ve_not (ve_isi kit_bl (ve_name 0 (pv 0)) (by rfl) T.b_isinstance (pe_bltn (by rfl) T.b_bool (by decide +kernel) rfl))) (ve_one (ve_cmp (op_eqX hr.units) bop_eq (ve_name 0 (pv 0)) (ve_name 1 (pv 1)) (nomark _))))))))))), pf⟩
set_option maxHeartbeats 8000000 in
theorem ok__law_names {f : Addr} {fd : FuncData} (T : Tx K mg aLayer) (Dn : FnP K "_law_names" s__law_names f fd) (g : mg "_law_names" = some (.ref f)) (G__law_pick : OkF P w K mg base 1 "_law_pick" ["store", "many"] 2 [0] F_pick) (pf : ∀ (ds : List D) (Q : D → List D → Prop), (F_names).f ds Q → x__law_names.f { nx := fun ρ => ∃ outs, outsOf [0] ρ = outs.map some ∧ Q .non outs, rt := fun r ρ => ∃ outs, outsOf [0] ρ = outs.map some ∧ Q r outs, bk := fun _ => False, ct := fun _ => False } (ds.map some ++ List.replicate (8 - 3) none)) : OkF P w K mg base (2) "_law_names" ["store", "many", "first"] 3 [0] F_names := by
  exact okf_mk (P := P) (w := w) (base := base) (k := (2 - 1)) Dn g sc__law_names rfl (by decide) (by decide) (fun _ _ _ _ _ _ us hl => match us, hl with | [_, _, _], _ => rfl) (fun _ _ _ _ _ _ us hl => match us, hl with | [_, _, _], _ => rfl) (fun _ _ _ _ _ _ p1 p2 u v e => by cases e <;> rfl) fun cdv A outer s H E C hC hr => ⟨_, x__law_names,
    (vb_cons (vs_setN (i := 3) sc__law_names.nd rfl (by first | exact Or.inl rfl | exact Or.inr rfl) (ve_bin op_addX bop_add (ve_name 2 (pv 2)) (ve_ix (ve_lst (va_cons ve_str (va_cons ve_str (va_cons ve_str va_nil)))) (vf_call G__law_pick (hr.mono (by first | omega | decide)) (by rfl) (va_lend 0 (pv 0) (va_cons ve_int va_nil))) (fun _ _ => rfl))) hC (by decide))
      (vb_cons (vs_setN (i := 4) sc__law_names.nd rfl (by first | exact Or.inl rfl | exact Or.inr rfl) (ve_bin op_addX bop_add ve_int (vf_call G__law_pick (hr.mono (by first | omega | decide)) (by rfl) (va_lend 0 (pv 0) (va_cons (ve_bin op_sub bop_sub (ve_callB call_len cal_len (by rfl) T.b_len PySem.boot_len (va_cons (ve_name 3 (pv 3)) va_nil)) ve_int) va_nil)))) hC (by decide))
      (vb_cons (vs_tupN rfl (va_cons ve_str (va_cons (vf_call G__law_pick (hr.mono (by first | omega | decide)) (by rfl) (va_lend 0 (pv 0) (va_cons ve_int va_nil))) va_nil)) (vgs_cons (vg_name (pg_name (i := 5) sc__law_names.nd rfl (by first | exact Or.inl rfl | exact Or.inr rfl)) hC (by decide)) (vgs_cons (vg_name (pg_name (i := 6) sc__law_names.nd rfl (by first | exact Or.inl rfl | exact Or.inr rfl)) hC (by decide)) vgs_nil)))
      (vb_one (vs_ret (vf_lc rfl sc__law_names.nd (blkOk_by (own := [("k", 7)]) (N := nm__law_names) (sc := defScope s__law_names) (by decide +kernel)) hC (by decide) (vi_rng1 (by rfl) T.b_range (va_cons (ve_name 1 (pv 1)) va_nil)) (fun _ _ _ _ _ => (gw_name (by decide))) (fun _ _ _ _ _ => (vg_name (pg_name (i := 7) sc__law_names.nd rfl (by first | exact Or.inl rfl | exact Or.inr rfl)) hC (by decide))) (fun _ _ _ _ _ => vts_nil) (fun _ _ _ _ _ => (ve_bin op_addX bop_add (ve_bin op_addX bop_add (ve_sl (ve_name 3 (pv 3)) vo_none (vo_some (ve_name 4 (pv 4)))) (ve_ix (ve_name 5 (pv 5)) (ve_bin op_mod bop_mod (ve_callTy call_int1 cal_int (by rfl) T.b_int (by decide +kernel) (va_cons (ve_bin op_addX bop_add (ve_name 6 (pv 6)) (ve_bin op_mulX bop_mul (ve_name 7 (pv 7)) ve_int)) va_nil)) ve_int) (fun _ _ => rfl))) (ve_sl (ve_name 3 (pv 3)) (vo_some (ve_bin op_addX bop_add (ve_name 4 (pv 4)) ve_int)) vo_none))) rfl (fun _ => rfl))))))), pf⟩
set_option maxHeartbeats 8000000 in
theorem ok__law_body {j : Nat} {k : Nat} (hk : 3 ≤ k) {f : Addr} {fd : FuncData} (T : Tx K mg aLayer) (Dn : FnP K "_law_body" s__law_body f fd) (g : mg "_law_body" = some (.ref f)) (G__law_pick : OkF P w K mg base 1 "_law_pick" ["store", "many"] 2 [0] F_pick) (G__law_statement : OkF P w K mg base k "_law_statement" ["store", "letters", "names", "room", "deep", "second"] 6 [0, 3] (F_dstmtJ j)) (pf : ∀ (ds : List D) (Q : D → List D → Prop), ((F_dbodyJ j)).f ds Q → (x__law_body j).f { nx := fun ρ => ∃ outs, outsOf [0, 3] ρ = outs.map some ∧ Q .non outs, rt := fun r ρ => ∃ outs, outsOf [0, 3] ρ = outs.map some ∧ Q r outs, bk := fun _ => False, ct := fun _ => False } (ds.map some ++ List.replicate (8 - 6) none)) : OkF P w K mg base (k + 1) "_law_body" ["store", "letters", "names", "room", "deep", "second"] 6 [0, 3] (F_dbodyJ j) := by
  exact okf_mk (P := P) (w := w) (base := base) (k := k) Dn g sc__law_body rfl (by decide) (by decide) (fun _ _ _ _ _ _ us hl => match us, hl with | [_, _, _, _, _, _], _ => rfl) (fun _ _ _ _ _ _ us hl => match us, hl with | [_, _, _, _, _, _], _ => rfl) (fun _ _ _ _ _ _ p1 p2 u v e => by cases e <;> rfl) fun cdv A outer s H E C hC hr => ⟨_, (x__law_body j),
    (vb_cons (vs_setN (i := 6) sc__law_body.nd rfl (by first | exact Or.inl rfl | exact Or.inr rfl) (ve_tup va_nil) hC (by decide))
      (vb_cons (vs_for PassesOwn.never rfl (vi_rng1 (by rfl) T.b_range (va_cons (vf_call G__law_pick (hr.mono (by first | omega | decide)) (by rfl) (va_lend 0 (pv 0) (va_cons ve_int va_nil))) va_nil)) (vg_name (pg_name (i := 7) sc__law_body.nd rfl (by first | exact Or.inl rfl | exact Or.inr rfl)) hC (by decide)) (vb_one (vs_if (vt_cmp op_gt bop_gt (ve_ixS 3 (pv 3) ve_int (fun _ _ => rfl)) ve_int (nomark _)) (vb_cons (vs_asg (ve_bin op_sub bop_sub (ve_ixS 3 (pv 3) ve_int (fun _ _ => rfl)) ve_int) (vg_setS 3 (pv 3) ve_int))
      (vb_one (vs_setN (i := 6) sc__law_body.nd rfl (by first | exact Or.inl rfl | exact Or.inr rfl) (ve_bin op_addX bop_add (ve_name 6 (pv 6)) (ve_tup (va_cons (vf_call G__law_statement hr (by rfl) (va_lend 0 (pv 0) (va_cons (ve_name 1 (pv 1)) (va_cons (ve_name 2 (pv 2)) (va_lend 3 (pv 3) (va_cons (ve_name 4 (pv 4)) (va_cons (ve_name 5 (pv 5)) va_nil))))))) va_nil))) hC (by decide)))) vb_nil)) (fun _ => rfl))
      (vb_one (vs_ret (ve_name 6 (pv 6)))))), pf⟩
set_option maxHeartbeats 8000000 in
theorem ok__law_statement {j : Nat} {k : Nat} (hk : 3 ≤ k) {f : Addr} {fd : FuncData} (T : Tx K mg aLayer) (Dn : FnP K "_law_statement" s__law_statement f fd) (g : mg "_law_statement" = some (.ref f)) (G__law_body : OkF P w K mg base k "_law_body" ["store", "letters", "names", "room", "deep", "second"] 6 [0, 3] (F_dbodyJ j)) (G__law_pick : OkF P w K mg base 1 "_law_pick" ["store", "many"] 2 [0] F_pick) (pf : ∀ (ds : List D) (Q : D → List D → Prop), ((F_dstmtJ (j + 1))).f ds Q → (x__law_statement j).f { nx := fun ρ => ∃ outs, outsOf [0, 3] ρ = outs.map some ∧ Q .non outs, rt := fun r ρ => ∃ outs, outsOf [0, 3] ρ = outs.map some ∧ Q r outs, bk := fun _ => False, ct := fun _ => False } (ds.map some ++ List.replicate (10 - 6) none)) : OkF P w K mg base (k + 1) "_law_statement" ["store", "letters", "names", "room", "deep", "second"] 6 [0, 3] (F_dstmtJ (j + 1)) := by
  exact okf_mk (P := P) (w := w) (base := base) (k := k) Dn g sc__law_statement rfl (by decide) (by decide) (fun _ _ _ _ _ _ us hl => match us, hl with | [_, _, _, _, _, _], _ => rfl) (fun _ _ _ _ _ _ us hl => match us, hl with | [_, _, _, _, _, _], _ => rfl) (fun _ _ _ _ _ _ p1 p2 u v e => by cases e <;> rfl) fun cdv A outer s H E C hC hr => ⟨_, (x__law_statement j),
    (vb_cons (vs_setN (i := 6) sc__law_statement.nd rfl (by first | exact Or.inl rfl | exact Or.inr rfl) (vf_call G__law_pick (hr.mono (by first | omega | decide)) (by rfl) (va_lend 0 (pv 0) (va_cons (ve_if (vt_cmp op_gt bop_gt (ve_name 4 (pv 4)) ve_int (nomark _)) ve_int ve_int) va_nil))) hC (by decide))
      (vb_cons (vs_if (vt_cmp (op_eqX hr.units) bop_eq (ve_name 6 (pv 6)) ve_int (nomark _)) (vb_one (vs_ret (ve_tup (va_cons ve_str (va_cons (ve_ix (ve_name 2 (pv 2)) (vf_call G__law_pick (hr.mono (by first | omega | decide)) (by rfl) (va_lend 0 (pv 0) (va_cons (ve_callB call_len cal_len (by rfl) T.b_len PySem.boot_len (va_cons (ve_name 2 (pv 2)) va_nil)) va_nil))) (fun _ _ => rfl)) va_nil))))) vb_nil)
      (vb_cons (vs_if (VW.vt (vw_and (vt_cmp (op_eqX hr.units) bop_eq (ve_name 6 (pv 6)) ve_int (nomark _)) (vw_and1 (vt_not (vt_truth (ve_name 5 (pv 5))))))) (vb_one (vs_ret (ve_tup (va_cons ve_str va_nil)))) vb_nil)
      (vb_cons (vs_if (vt_cmp op_in_seq (bop_in (neg := false)) (ve_name 6 (pv 6)) (ve_lst (va_cons ve_int (va_cons ve_int va_nil))) (by rfl)) (vb_cons (vs_setN (i := 7) sc__law_statement.nd rfl (by first | exact Or.inl rfl | exact Or.inr rfl) (ve_ix (ve_lst (va_cons ve_int (va_cons ve_int (va_cons ve_int (va_cons ve_int va_nil))))) (vf_call G__law_pick (hr.mono (by first | omega | decide)) (by rfl) (va_lend 0 (pv 0) (va_cons ve_int va_nil))) (fun _ _ => rfl)) hC (by decide))
      (vb_one (vs_ret (ve_tup (va_cons ve_str (va_cons (ve_callTy call_tuple_of cal_tuple (by rfl) T.b_tuple (by decide +kernel) (va_cons (vf_lc rfl sc__law_statement.nd (blkOk_by (own := [("k", 9)]) (N := nm__law_statement) (sc := defScope s__law_statement) (by decide +kernel)) hC (by decide) (vi_rng1 (by rfl) T.b_range (va_cons (ve_name 7 (pv 7)) va_nil)) (fun _ _ _ _ _ => (gw_name (by decide))) (fun _ _ _ _ _ => (vg_name (pg_name (i := 9) sc__law_statement.nd rfl (by first | exact Or.inl rfl | exact Or.inr rfl)) hC (by decide))) (fun _ _ _ _ _ => vts_nil) (fun _ _ _ _ _ => (vf_call G__law_body hr (by rfl) (va_lend 0 (pv 0) (va_cons (ve_name 1 (pv 1)) (va_cons (ve_name 2 (pv 2)) (va_lend 3 (pv 3) (va_cons (ve_bin op_sub bop_sub (ve_name 4 (pv 4)) ve_int) (va_cons (ve_name 5 (pv 5)) va_nil)))))))) rfl (fun _ => rfl)) va_nil)) va_nil)))))) vb_nil)
      (vb_cons (vs_if (vt_cmp op_in_seq (bop_in (neg := false)) (ve_name 6 (pv 6)) (ve_lst (va_cons ve_int (va_cons ve_int (va_cons ve_int va_nil)))) (by rfl)) (vb_cons (vs_setN (i := 8) sc__law_statement.nd rfl (by first | exact Or.inl rfl | exact Or.inr rfl) (vf_call G__law_body hr (by rfl) (va_lend 0 (pv 0) (va_cons (ve_name 1 (pv 1)) (va_cons (ve_name 2 (pv 2)) (va_lend 3 (pv 3) (va_cons (ve_bin op_sub bop_sub (ve_name 4 (pv 4)) ve_int) (va_cons (ve_name 5 (pv 5)) va_nil))))))) hC (by decide))
      (vb_one (vs_ret (ve_tup (va_cons ve_str (va_cons (ve_name 8 (pv 8)) (va_cons (vf_call G__law_body hr (by rfl) (va_lend 0 (pv 0) (va_cons (ve_name 1 (pv 1)) (va_cons (ve_name 2 (pv 2)) (va_lend 3 (pv 3) (va_cons (ve_bin op_sub bop_sub (ve_name 4 (pv 4)) ve_int) (va_cons ve_bl va_nil))))))) va_nil))))))) vb_nil)
      (vb_cons (vs_if (vt_cmp (op_eqX hr.units) bop_eq (ve_name 6 (pv 6)) ve_int (nomark _)) (vb_one (vs_ret (ve_tup (va_cons ve_str (va_cons (vf_call G__law_body hr (by rfl) (va_lend 0 (pv 0) (va_cons (ve_name 1 (pv 1)) (va_cons (ve_name 2 (pv 2)) (va_lend 3 (pv 3) (va_cons (ve_bin op_sub bop_sub (ve_name 4 (pv 4)) ve_int) (va_cons (ve_name 5 (pv 5)) va_nil))))))) va_nil))))) vb_nil)
      (vb_one (vs_ret (ve_tup (va_cons (ve_ix (ve_lst (va_cons ve_str (va_cons ve_str va_nil))) (vf_call G__law_pick (hr.mono (by first | omega | decide)) (by rfl) (va_lend 0 (pv 0) (va_cons ve_int va_nil))) (fun _ _ => rfl)) (va_cons (ve_ix (ve_name 1 (pv 1)) (vf_call G__law_pick (hr.mono (by first | omega | decide)) (by rfl) (va_lend 0 (pv 0) (va_cons (ve_callB call_len cal_len (by rfl) T.b_len PySem.boot_len (va_cons (ve_name 1 (pv 1)) va_nil)) va_nil))) (fun _ _ => rfl)) va_nil))))))))))), pf⟩
set_option maxHeartbeats 8000000 in
theorem ok__law_program {f : Addr} {fd : FuncData} (T : Tx K mg aLayer) (Dn : FnP K "_law_program" s__law_program f fd) (g : mg "_law_program" = some (.ref f)) (G__law_body : OkF P w K mg base 20 "_law_body" ["store", "letters", "names", "room", "deep", "second"] 6 [0, 3] (F_dbodyJ 7)) (G__law_names : OkF P w K mg base 2 "_law_names" ["store", "many", "first"] 3 [0] F_names) (G__law_pick : OkF P w K mg base 1 "_law_pick" ["store", "many"] 2 [0] F_pick) (pf : ∀ (ds : List D) (Q : D → List D → Prop), (F_program).f ds Q → x__law_program.f { nx := fun ρ => ∃ outs, outsOf [0] ρ = outs.map some ∧ Q .non outs, rt := fun r ρ => ∃ outs, outsOf [0] ρ = outs.map some ∧ Q r outs, bk := fun _ => False, ct := fun _ => False } (ds.map some ++ List.replicate (9 - 3) none)) : OkF P w K mg base (40) "_law_program" ["store", "most", "size"] 3 [0] F_program := by
  exact okf_mk (P := P) (w := w) (base := base) (k := (40 - 1)) Dn g sc__law_program rfl (by decide) (by decide) (fun _ _ _ _ _ _ us hl => match us, hl with | [_, _, _], _ => rfl) (fun _ _ _ _ _ _ us hl => match us, hl with | [_, _, _], _ => rfl) (fun _ _ _ _ _ _ p1 p2 u v e => by cases e <;> rfl) fun cdv A outer s H E C hC hr => ⟨_, x__law_program,
    (vb_cons (vs_setN (i := 3) sc__law_program.nd rfl (by first | exact Or.inl rfl | exact Or.inr rfl) (ve_frz (vf_call G__law_names (hr.mono (by first | omega | decide)) (by rfl) (va_lendL 0 (pv 0) (va_cons (ve_bin op_addX bop_add ve_int (vf_call G__law_pick (hr.mono (by first | omega | decide)) (by rfl) (va_lendL 0 (pv 0) (va_cons (ve_if (vt_cmp op_gt bop_gt (vf_call G__law_pick (hr.mono (by first | omega | decide)) (by rfl) (va_lend 0 (pv 0) (va_cons ve_int va_nil))) ve_int (nomark _)) ve_int ve_int) va_nil)))) (va_cons ve_str va_nil))))) hC (by decide))
      (vb_cons (vs_setN (i := 4) sc__law_program.nd rfl (by first | exact Or.inl rfl | exact Or.inr rfl) (ve_frz (vf_call G__law_names (hr.mono (by first | omega | decide)) (by rfl) (va_lendL 0 (pv 0) (va_cons (ve_bin op_addX bop_add ve_int (vf_call G__law_pick (hr.mono (by first | omega | decide)) (by rfl) (va_lend 0 (pv 0) (va_cons (ve_name 1 (pv 1)) va_nil)))) (va_cons ve_str va_nil))))) hC (by decide))
      (vb_cons (vs_par3N (i := 5) (j := 6) (l := 7) rfl sc__law_program.nd rfl rfl rfl (by decide) (by decide) (by decide) rfl rfl rfl (va_cons (ve_lst (va_cons (ve_name 2 (pv 2)) va_nil)) (va_cons (ve_lst va_nil) (va_cons (ve_ix (ve_lst (va_cons ve_int (va_cons ve_int va_nil))) (vf_call G__law_pick (hr.mono (by first | omega | decide)) (by rfl) (va_lend 0 (pv 0) (va_cons ve_int va_nil))) (fun _ _ => rfl)) va_nil))) hC (by rfl) (by decide) (by decide) (by decide))
      (vb_cons (vs_for PassesOwn.never rfl (vi_seq (ve_name 4 (pv 4))) (vg_name (pg_name (i := 8) sc__law_program.nd rfl (by first | exact Or.inl rfl | exact Or.inr rfl)) hC (by decide)) (vb_one (vs_expr (ve_appN 6 (pv 6) (ve_tup (va_cons (ve_name 8 (pv 8)) (va_cons (vf_call G__law_body (hr.mono (by first | omega | decide)) (by rfl) (va_lend 0 (pv 0) (va_cons (ve_name 3 (pv 3)) (va_cons (ve_name 4 (pv 4)) (va_lend 5 (pv 5) (va_cons (ve_name 7 (pv 7)) (va_cons ve_bl va_nil))))))) va_nil)))))) (fun _ => rfl))
      (vb_one (vs_ret (ve_tup (va_cons (ve_tplL 3 (pv 3) (by rfl) T.b_tuple (by decide +kernel)) (va_cons (ve_tupS 6 (pv 6) (by rfl) T.b_tuple (by decide +kernel)) va_nil))))))))), pf⟩
set_option maxHeartbeats 8000000 in
theorem ok__law_lay {j : Nat} {k : Nat} (hk : 0 ≤ k) {f : Addr} {fd : FuncData} (T : Tx K mg aLayer) (Dn : FnP K "_law_lay" s__law_lay f fd) (g : mg "_law_lay" = some (.ref f)) (G__law_lay : OkF P w K mg base k "_law_lay" ["program", "body", "told", "found", "seconds"] 5 [3] (F_layJ j)) (pf : ∀ (ds : List D) (Q : D → List D → Prop), ((F_layJ (j + 1))).f ds Q → (x__law_lay j).f { nx := fun ρ => ∃ outs, outsOf [3] ρ = outs.map some ∧ Q .non outs, rt := fun r ρ => ∃ outs, outsOf [3] ρ = outs.map some ∧ Q r outs, bk := fun _ => False, ct := fun _ => False } (ds.map some ++ List.replicate (17 - 5) none)) : OkF P w K mg base (k + 1) "_law_lay" ["program", "body", "told", "found", "seconds"] 5 [3] (F_layJ (j + 1)) := by
  exact okf_mk (P := P) (w := w) (base := base) (k := k) Dn g sc__law_lay rfl (by decide) (by decide) (fun _ _ _ _ _ _ us hl => match us, hl with | [_, _, _, _, _], _ => rfl) (fun _ _ _ _ _ _ us hl => match us, hl with | [_, _, _, _, _], _ => rfl) (fun _ _ _ _ _ _ p1 p2 u v e => by cases e <;> rfl) fun cdv A outer s H E C hC hr => ⟨_, (x__law_lay j),
    (vb_cons (vs_par3N (i := 5) (j := 6) (l := 7) rfl sc__law_lay.nd rfl rfl rfl (by decide) (by decide) (by decide) rfl rfl rfl (va_cons (ve_ix (ve_name 0 (pv 0)) ve_int (fun _ _ => rfl)) (va_cons (ve_frz (vf_lc rfl sc__law_lay.nd (blkOk_by (own := [("procedure", 15)]) (N := nm__law_lay) (sc := defScope s__law_lay) (by decide +kernel)) hC (by decide) (vi_seq (ve_ix (ve_name 0 (pv 0)) ve_int (fun _ _ => rfl))) (fun _ _ _ _ _ => (gw_name (by decide))) (fun _ _ _ _ _ => (vg_name (pg_name (i := 15) sc__law_lay.nd rfl (by first | exact Or.inl rfl | exact Or.inr rfl)) hC (by decide))) (fun _ _ _ _ _ => vts_nil) (fun _ _ _ _ _ => (ve_ix (ve_name 15 (pv 15)) ve_int (fun _ _ => rfl))) rfl (fun _ => rfl))) (va_cons (ve_name 2 (pv 2)) va_nil))) hC (by rfl) (by decide) (by decide) (by decide))
      (vb_cons (vs_for PassesOwn.never rfl (vi_seq (ve_rev (ve_name 1 (pv 1)))) (vg_name (pg_name (i := 8) sc__law_lay.nd rfl (by first | exact Or.inl rfl | exact Or.inr rfl)) hC (by decide)) (vb_cons (vs_tupN rfl (va_cons (ve_ix (ve_name 8 (pv 8)) ve_int (fun _ _ => rfl)) (va_cons (ve_name 7 (pv 7)) va_nil)) (vgs_cons (vg_name (pg_name (i := 9) sc__law_lay.nd rfl (by first | exact Or.inl rfl | exact Or.inr rfl)) hC (by decide)) (vgs_cons (vg_name (pg_name (i := 10) sc__law_lay.nd rfl (by first | exact Or.inl rfl | exact Or.inr rfl)) hC (by decide)) vgs_nil)))
      (vb_one (vs_if (vt_cmp (op_eqX hr.units) bop_eq (ve_name 9 (pv 9)) ve_str (nomark _)) (vb_cons (vs_setN (i := 7) sc__law_lay.nd rfl (by first | exact Or.inl rfl | exact Or.inr rfl) ve_int hC (by decide))
      (vb_one (vs_for PassesOwn.never rfl (vi_seq (ve_name 4 (pv 4))) (vg_name (pg_name (i := 11) sc__law_lay.nd rfl (by first | exact Or.inl rfl | exact Or.inr rfl)) hC (by decide)) (vb_one (vs_setN (i := 7) sc__law_lay.nd rfl (by first | exact Or.inl rfl | exact Or.inr rfl) (vf_call G__law_lay hr (by rfl) (va_cons (ve_name 0 (pv 0)) (va_cons (ve_name 11 (pv 11)) (va_cons (ve_name 7 (pv 7)) (va_lend 3 (pv 3) (va_cons (ve_frz (ve_lst va_nil)) va_nil)))))) hC (by decide))) (fun _ => rfl)))) (vb_one (vs_if (vt_cmp (op_eqX hr.units) bop_eq (ve_name 9 (pv 9)) ve_str (nomark _)) (vb_cons (vs_setN (i := 7) sc__law_lay.nd rfl (by first | exact Or.inl rfl | exact Or.inr rfl) (ve_lenS 3 (pv 3) (by rfl) T.b_len PySem.boot_len) hC (by decide))
      (vb_cons (vs_expr (ve_appN 3 (pv 3) ve_non))
      (vb_cons (vs_setN (i := 12) sc__law_lay.nd rfl (by first | exact Or.inl rfl | exact Or.inr rfl) (vf_call G__law_lay hr (by rfl) (va_cons (ve_name 0 (pv 0)) (va_cons (ve_ix (ve_name 8 (pv 8)) ve_int (fun _ _ => rfl)) (va_cons (ve_name 7 (pv 7)) (va_lend 3 (pv 3) (va_cons (ve_name 4 (pv 4)) va_nil)))))) hC (by decide))
      (vb_one (vs_asg (ve_tup (va_cons ve_str (va_cons (ve_tup (va_cons (ve_name 12 (pv 12)) (va_cons (ve_name 10 (pv 10)) va_nil))) va_nil))) (vg_setS 3 (pv 3) (ve_name 7 (pv 7)))))))) (vb_one (vs_if (vt_cmp (op_eqX hr.units) bop_eq (ve_name 9 (pv 9)) ve_str (nomark _)) (vb_cons (vs_setN (i := 13) sc__law_lay.nd rfl (by first | exact Or.inl rfl | exact Or.inr rfl) (vf_call G__law_lay hr (by rfl) (va_cons (ve_name 0 (pv 0)) (va_cons (ve_ix (ve_name 8 (pv 8)) ve_int (fun _ _ => rfl)) (va_cons (ve_name 10 (pv 10)) (va_lend 3 (pv 3) (va_cons (ve_frz (ve_lst va_nil)) va_nil)))))) hC (by decide))
      (vb_one (vs_setN (i := 7) sc__law_lay.nd rfl (by first | exact Or.inl rfl | exact Or.inr rfl) (vf_call G__law_lay hr (by rfl) (va_cons (ve_name 0 (pv 0)) (va_cons (ve_ix (ve_name 8 (pv 8)) ve_int (fun _ _ => rfl)) (va_cons (ve_name 13 (pv 13)) (va_lend 3 (pv 3) (va_cons (ve_frz (ve_bin op_addX bop_add (ve_name 4 (pv 4)) (ve_lst (va_cons (ve_ix (ve_name 8 (pv 8)) ve_int (fun _ _ => rfl)) va_nil)))) va_nil)))))) hC (by decide)))) (vb_cons (vs_if (vt_cmp (op_eqX hr.units) bop_eq (ve_name 9 (pv 9)) ve_str (nomark _)) (vb_one (vs_setN (i := 14) sc__law_lay.nd rfl (by first | exact Or.inl rfl | exact Or.inr rfl) (ve_tup (va_cons ve_str (va_cons (ve_callTy call_tuple_of cal_tuple (by rfl) T.b_tuple (by decide +kernel) (va_cons (vf_lc rfl sc__law_lay.nd (blkOk_by (own := [("one", 16)]) (N := nm__law_lay) (sc := defScope s__law_lay) (by decide +kernel)) hC (by decide) (vi_seq (ve_ix (ve_name 8 (pv 8)) ve_int (fun _ _ => rfl))) (fun _ _ _ _ _ => (gw_name (by decide))) (fun _ _ _ _ _ => (vg_name (pg_name (i := 16) sc__law_lay.nd rfl (by first | exact Or.inl rfl | exact Or.inr rfl)) hC (by decide))) (fun _ _ _ _ _ => vts_nil) (fun _ _ _ _ _ => (vf_call G__law_lay hr (by rfl) (va_cons (ve_name 0 (pv 0)) (va_cons (ve_name 16 (pv 16)) (va_cons (ve_name 10 (pv 10)) (va_lend 3 (pv 3) (va_cons (ve_name 4 (pv 4)) va_nil))))))) rfl (fun _ => rfl)) va_nil)) va_nil))) hC (by decide))) (vb_one (vs_if (vt_cmp (op_eqX hr.units) bop_eq (ve_name 9 (pv 9)) ve_str (nomark _)) (vb_one (vs_setN (i := 14) sc__law_lay.nd rfl (by first | exact Or.inl rfl | exact Or.inr rfl) (ve_tup (va_cons ve_str (va_cons (ve_idxL (ve_name 6 (pv 6)) (ve_ix (ve_name 8 (pv 8)) ve_int (fun _ _ => rfl)) (pe_bm PySem.F.plainAttrs_list PySem.F.slot_list_index PySem.F.type_list_index mt_index (VE.pe (C := C) (ve_name 6 (pv 6))) (pa_cons (VE.pe (C := C) (ve_ix (ve_name 8 (pv 8)) ve_int (fun _ _ => rfl))) pa_nil))) (va_cons (ve_name 10 (pv 10)) va_nil)))) hC (by decide))) (vb_one (vs_setN (i := 14) sc__law_lay.nd rfl (by first | exact Or.inl rfl | exact Or.inr rfl) (ve_tup (va_cons ve_str (va_cons (ve_bin op_mulX bop_mul (ve_bin op_addX bop_add (ve_idxZ (ve_name 5 (pv 5)) (ve_ix (ve_name 8 (pv 8)) ve_int (fun _ _ => rfl)) (pe_idxZ (VE.pe (C := C) (ve_name 5 (pv 5))) (pa_cons (VE.pe (C := C) (ve_ix (ve_name 8 (pv 8)) ve_int (fun _ _ => rfl))) pa_nil))) ve_int) (ve_if (vt_cmp (op_eqX hr.units) bop_eq (ve_name 9 (pv 9)) ve_str (nomark _)) ve_int (ve_un un_neg uop_neg ve_int))) (va_cons (ve_name 10 (pv 10)) va_nil)))) hC (by decide))))))
      (vb_cons (vs_setN (i := 7) sc__law_lay.nd rfl (by first | exact Or.inl rfl | exact Or.inr rfl) (ve_lenS 3 (pv 3) (by rfl) T.b_len PySem.boot_len) hC (by decide))
      (vb_one (vs_expr (ve_appN 3 (pv 3) (ve_name 14 (pv 14)))))))))))))) (fun _ => rfl))
      (vb_one (vs_ret (ve_name 7 (pv 7)))))), pf⟩
set_option maxHeartbeats 8000000 in
theorem ok__law_places {f : Addr} {fd : FuncData} (T : Tx K mg aLayer) (Dn : FnP K "_law_places" s__law_places f fd) (g : mg "_law_places" = some (.ref f)) (G__law_lay : OkF P w K mg base 25 "_law_lay" ["program", "body", "told", "found", "seconds"] 5 [3] (F_layJ 17)) (pf : ∀ (ds : List D) (Q : D → List D → Prop), (F_lplaces).f ds Q → x__law_places.f { nx := fun ρ => ∃ outs, outsOf [] ρ = outs.map some ∧ Q .non outs, rt := fun r ρ => ∃ outs, outsOf [] ρ = outs.map some ∧ Q r outs, bk := fun _ => False, ct := fun _ => False } (ds.map some ++ List.replicate (6 - 1) none)) : OkF P w K mg base (60) "_law_places" ["program"] 1 [] F_lplaces := by
  exact okf_mk (P := P) (w := w) (base := base) (k := (60 - 1)) Dn g sc__law_places rfl (by decide) (by decide) (fun _ _ _ _ _ _ us hl => match us, hl with | [_], _ => rfl) (fun _ _ _ _ _ _ us hl => match us, hl with | [_], _ => rfl) (fun _ _ _ _ _ _ p1 p2 u v e => by cases e <;> rfl) fun cdv A outer s H E C hC hr => ⟨_, x__law_places,
    (vb_cons (vs_setN (i := 1) sc__law_places.nd rfl (by first | exact Or.inl rfl | exact Or.inr rfl) (ve_lst va_nil) hC (by decide))
      (vb_cons (vs_for PassesOwn.never rfl (vi_seq (ve_ix (ve_name 0 (pv 0)) ve_int (fun _ _ => rfl))) (vg_tup rfl (vgs_cons (vg_name (pg_name (i := 2) sc__law_places.nd rfl (by first | exact Or.inl rfl | exact Or.inr rfl)) hC (by decide)) (vgs_cons (vg_name (pg_name (i := 3) sc__law_places.nd rfl (by first | exact Or.inl rfl | exact Or.inr rfl)) hC (by decide)) vgs_nil))) (vb_cons (vs_setN (i := 4) sc__law_places.nd rfl (by first | exact Or.inl rfl | exact Or.inr rfl) (ve_lst (va_cons (ve_tup (va_cons ve_str va_nil)) va_nil)) hC (by decide))
      (vb_cons (vs_setN (i := 5) sc__law_places.nd rfl (by first | exact Or.inl rfl | exact Or.inr rfl) (vf_call G__law_lay (hr.mono (by first | omega | decide)) (by rfl) (va_cons (ve_name 0 (pv 0)) (va_cons (ve_name 3 (pv 3)) (va_cons ve_int (va_lend 4 (pv 4) (va_cons (ve_frz (ve_lst va_nil)) va_nil)))))) hC (by decide))
      (vb_one (vs_expr (ve_appN 1 (pv 1) (ve_tup (va_cons (ve_name 5 (pv 5)) (va_cons (ve_tupS 4 (pv 4) (by rfl) T.b_tuple (by decide +kernel)) va_nil)))))))) (fun _ => rfl))
      (vb_one (vs_ret (ve_tupS 1 (pv 1) (by rfl) T.b_tuple (by decide +kernel)))))), pf⟩
end
end K12

open PySem PySem.Spec PyProof.Rows L2 BV
local macro_rules | `(tactic| walk_at "bvs") => `(tactic| first | ((with_reducible apply i_seq)) | ((with_reducible apply i_ret)) | ((with_reducible apply i_next)) | ((with_reducible apply i_ifs)) | ((with_reducible apply i_T); (first | rfl | (with_reducible assumption) | exact not_t (by with_reducible assumption) | exact not_f (by with_reducible assumption))) | ((with_reducible apply i_F); (first | rfl | (with_reducible assumption) | exact not_t (by with_reducible assumption) | exact not_f (by with_reducible assumption))) | ((with_reducible apply i_name); (repeat (first | exact At.z | apply At.s)); ((first | rfl | assumption))) | ((with_reducible apply i_C)) | ((with_reducible apply i_bin)) | ((with_reducible apply i_tst)) | ((with_reducible apply i_tru)) | ((with_reducible apply i_fn)) | ((with_reducible apply i_isi)) | ((with_reducible apply i_kd); (first | rfl | (with_reducible assumption) | exact nice_kd (by with_reducible assumption))) | ((with_reducible apply i_bl)) | ((with_reducible apply i_cons)) | ((with_reducible apply i_nil)) | ((with_reducible apply i_cal)) | ((with_reducible apply i_un)) | ((with_reducible apply i_some); (first | ((with_reducible apply len_t)) | ((with_reducible apply len_l)) | ((with_reducible apply len_o)) | ((with_reducible apply len_f)) | ((with_reducible apply in_f); (rfl); (rfl)) | ((with_reducible apply in_t); (rfl); (rfl)) | ((with_reducible apply eqM); (first | (with_reducible exact eqD_ss) | (with_reducible exact eqD_ii) | (with_reducible exact eqD_bb) | ((with_reducible apply eqD_oe); (first | rfl | assumption)) | ((with_reducible apply eqD_le); (first | rfl | assumption)) | ((with_reducible apply eqD_te); (first | rfl | assumption)))) | ((with_reducible apply list1_seq); (rfl); (first | rfl | assumption)) | ((with_reducible apply tuple1_seq); (rfl); (first | rfl | assumption)) | ((with_reducible apply ix0); (first | rfl | assumption)) | ((with_reducible apply ix1); (first | rfl | assumption)) | ((with_reducible apply ix2); (first | rfl | assumption)) | ((with_reducible apply addLO); (simp only [List.length_cons, List.length_nil, List.length_append, List.length_map, sizeLine_eq]; omega); (repeat (first | (with_reducible assumption) | rfl | apply sh_app | apply sh_cons))) | ((with_reducible apply addL); (simp only [List.length_cons, List.length_nil, List.length_append, List.length_map, sizeLine_eq]; omega)) | ((with_reducible apply addOO); (simp only [List.length_cons, List.length_nil, List.length_append, List.length_map, sizeLine_eq]; omega); (repeat (first | (with_reducible assumption) | rfl | apply sh_app | apply sh_cons)); (repeat (first | (with_reducible assumption) | rfl | apply sh_app | apply sh_cons))) | ((with_reducible apply addOL); (simp only [List.length_cons, List.length_nil, List.length_append, List.length_map, sizeLine_eq]; omega); (repeat (first | (with_reducible assumption) | rfl | apply sh_app | apply sh_cons))) | ((with_reducible apply str_s)) | ((with_reducible apply str_i); (omega); (omega)) | ((with_reducible apply addM2); (repeat (first | (with_reducible assumption) | exact len_nil | exact len_rep | apply len_cut | apply len_app | apply len_cons)); (repeat (first | (with_reducible assumption) | exact len_nil | exact len_rep | apply len_cut | apply len_app | apply len_cons)); (simp only [sizeLine_eq]; omega)) | ((with_reducible apply sub_ii)) | ((with_reducible apply add_ii)) | ((with_reducible apply pow_20)) | ((with_reducible apply pow_30)) | ((with_reducible apply pow_40)) | (first | (with_reducible exact eqD_ss) | (with_reducible exact eqD_ii) | (with_reducible exact eqD_bb) | ((with_reducible apply eqD_oe); (first | rfl | assumption)) | ((with_reducible apply eqD_le); (first | rfl | assumption)) | ((with_reducible apply eqD_te); (first | rfl | assumption))) | ((with_reducible apply mul_t); (omega); (omega)) | ((with_reducible apply mod_ii); (first | (with_reducible assumption) | omega | decide)) | ((with_reducible apply div_b); (first | (with_reducible assumption) | omega | decide); (first | (with_reducible assumption) | omega | decide)) | ((with_reducible apply mul_b); (omega); (omega); (omega); (omega)) | (exact ix_tup rfl (by first | rfl | assumption)) | rfl)) | ((with_reducible apply i_asg)) | ((with_reducible apply i_gname); (repeat (first | exact Put.z | apply Put.s))) | ((with_reducible apply i_not)) | ((with_reducible apply i_and)) | ((with_reducible apply i_or)) | ((with_reducible apply i_andV)) | ((with_reducible apply i_orV)) | ((with_reducible apply i_notV)) | ((with_reducible apply i_xif)) | ((with_reducible apply i_chain)) | ((with_reducible apply i_ints)) | ((with_reducible apply i_int)) | ((with_reducible apply i_call0)) | ((with_reducible apply i_call1)) | ((with_reducible apply i_lend); (repeat (first | exact At.z | apply At.s)); (repeat (first | exact Put.z | apply Put.s))) | ((with_reducible apply i_lendL); (repeat (first | exact At.z | apply At.s))) | ((with_reducible apply i_out0)) | ((with_reducible apply i_out1); (repeat (first | exact Put.z | apply Put.s))) | ((with_reducible apply i_tup)) | ((with_reducible apply i_lst)) | ((with_reducible apply i_frz)) | ((with_reducible apply i_le); (simp only [List.length_cons, List.length_nil, List.length_append, List.length_map, sizeLine_eq]; omega)) | ((with_reducible apply i_lt); (simp only [List.length_cons, List.length_nil, List.length_append, List.length_map, sizeLine_eq]; omega)) | ((with_reducible apply i_sh); (repeat (first | (with_reducible assumption) | rfl | apply sh_app | apply sh_cons))) | ((with_reducible apply i_frzO); (repeat (first | (with_reducible assumption) | rfl | apply sh_app | apply sh_cons))) | ((with_reducible apply i_do)) | ((with_reducible apply i_par)) | ((with_reducible apply i_puts); (repeat (first | exact Puts.n | exact Put.z | apply Put.s | apply Puts.c))) | ((with_reducible apply i_ixS); (repeat (first | exact At.z | apply At.s))) | ((with_reducible apply i_at); (repeat (first | exact At.z | apply At.s))) | ((with_reducible apply i_atO); (repeat (first | exact At.z | apply At.s))) | ((with_reducible apply i_put); (repeat (first | exact Put.z | apply Put.s))) | ((with_reducible apply i_lenS); (repeat (first | exact At.z | apply At.s)); (rfl)) | ((with_reducible apply i_leq); (rfl)) | ((with_reducible apply i_eqS); (repeat (first | exact At.z | apply At.s))) | ((with_reducible apply i_neS); (repeat (first | exact At.z | apply At.s))) | ((with_reducible apply i_app); (repeat (first | exact At.z | apply At.s))) | ((with_reducible apply i_sl)) | ((with_reducible apply i_oN)) | ((with_reducible apply i_oS)) | ((with_reducible apply i_setS); (repeat (first | exact At.z | apply At.s))) | ((with_reducible apply i_set); (rfl); (repeat (first | exact LSet.z | apply LSet.s)); (repeat (first | exact Put.z | apply Put.s))) | ((with_reducible apply i_iseq)) | ((with_reducible apply i_rng1)) | ((with_reducible apply i_range); (omega); (omega)) | ((with_reducible apply i_ienum)) | ((with_reducible apply i_for)) | ((with_reducible apply i_lc)) | ((with_reducible apply i_yes)) | ((with_reducible apply i_gcons)) | ((with_reducible apply i_gnil)) | ((with_reducible apply i_gtup); (rfl)) | ((with_reducible apply i_tupA)) | ((with_reducible apply i_retN)) | ((with_reducible apply i_brk)) | ((with_reducible apply i_cont)) | ((with_reducible apply i_mv); (repeat (first | exact At.z | apply At.s)); (repeat (first | exact Put.z | apply Put.s))) | ((with_reducible apply i_neP); (repeat (first | exact At.z | apply At.s)); (rfl); (first | exact eqD_oe (by first | assumption | rfl))) | ((with_reducible apply i_set0)) | ((with_reducible apply i_sadd); (repeat (first | exact At.z | apply At.s))) | ((with_reducible apply i_sin)) | ((with_reducible apply i_istr)) | ((with_reducible apply i_strE)) | ((with_reducible apply i_irev)) | ((with_reducible apply i_tplS); (repeat (first | exact At.z | apply At.s)); (repeat (first | (with_reducible assumption) | rfl | apply sh_app | apply sh_cons))) | ((with_reducible apply i_tplL); (repeat (first | exact At.z | apply At.s))) | ((with_reducible apply i_call2)) | ((with_reducible apply i_out2); (repeat (first | exact Put.z | apply Put.s)); (repeat (first | exact Put.z | apply Put.s))) | ((with_reducible apply i_rng2)) | ((with_reducible apply i_idxZ)) | ((with_reducible apply i_idxL)) | ((with_reducible apply i_stp)) | ((with_reducible apply i_fld); (repeat (first | exact At.z | apply At.s)); (rfl); (rfl); ((first | rfl | assumption))) | ((with_reducible apply i_fadd)) | ((with_reducible apply i_flen); (repeat (first | exact At.z | apply At.s)); (rfl); (rfl)) | ((with_reducible apply i_ftup); (repeat (first | exact At.z | apply At.s)); (rfl); (rfl); (repeat (first | (with_reducible assumption) | rfl | apply sh_app | apply sh_cons))) | ((with_reducible apply i_fapp); (repeat (first | exact At.z | apply At.s)); (rfl); (rfl); (repeat (first | exact At.z | apply At.s)); ((first | rfl | assumption)); ((simp only [List.length_cons, List.length_nil, List.length_append, List.length_map, sizeLine_eq]; omega)); (repeat (first | exact Put.z | apply Put.s))) | ((with_reducible apply i_meth); (repeat (first | exact At.z | apply At.s))) | ((with_reducible apply i_make)) | ((with_reducible apply i_aug); (repeat (first | exact At.z | apply At.s))) | ((with_reducible apply i_atInt); (repeat (first | exact At.z | apply At.s))) | ((with_reducible apply i_repr)) | ((with_reducible apply i_dict0)) | ((with_reducible apply i_dict1)) | ((with_reducible apply i_get2)) | ((with_reducible apply i_get2S); (repeat (first | exact At.z | apply At.s))) | ((with_reducible apply i_dput)) | ((with_reducible apply i_ikeys)) | ((with_reducible apply i_iitems)) | ((with_reducible apply i_srtS)) | ((with_reducible apply i_srtK)) | ((with_reducible apply i_srtItems)) | ((with_reducible apply i_dc)) | ((with_reducible apply i_frzD); (repeat (first | (with_reducible assumption) | rfl | apply sh_app | apply sh_cons))) | ((with_reducible apply i_tupS); (repeat (first | exact At.z | apply At.s)); (repeat (first | (with_reducible assumption) | rfl | apply sh_app | apply sh_cons))) | ((with_reducible apply i_listS); (repeat (first | exact At.z | apply At.s)); (repeat (first | (with_reducible assumption) | rfl | apply sh_app | apply sh_cons))) | ((with_reducible apply i_popP); (repeat (first | exact At.z | apply At.s)); (rfl); (rfl); (rfl); ((first | rfl | assumption)); (repeat (first | exact LSet.z | apply LSet.s)); (repeat (first | exact Put.z | apply Put.s))))
namespace K12
open PySem PySem.Spec PyProof.Rows L2 BV
theorem i_keyS {x : Str} {P : Key → Prop} (q : P (.inr x)) : ∃ k, (D.str x).key = some k ∧ P k := ⟨_, rfl, q⟩
theorem i_keySA {x : Str} {P : Key → Ev → Prop} (q : ∃ ρ, P (.inr x) ρ) : ∃ k ρ, (D.str x).key = some k ∧ P k ρ := by
  obtain ⟨ρ, q⟩ := q
  exact ⟨_, ρ, rfl, q⟩
theorem bls_rep : ∀ n : Nat, D.bls (List.replicate n (.bl true)) = some (List.replicate n true)
  | 0 => rfl
  | n + 1 => by
    rw [List.replicate_succ]
    show (D.bls (List.replicate n (.bl true))).map (true :: ·) = _
    rw [bls_rep n]
    rfl
theorem all_rep (n : Nat) : allB (fun bs => bs.all id) [.own (List.replicate n (.bl true))] = some (.bl true) := by
  show (D.bls (List.replicate n (.bl true))).map (fun bs => D.bl (bs.all id)) = _
  rw [bls_rep]
  simp
theorem signs_at {x : Str} {k : Nat} {z : D} (h : (signsD x)[k]? = some z) : ∃ c, x.cps.toList[k]? = some c ∧ z = .str ⟨#[c]⟩ := by
  unfold signsD at h
  rw [List.getElem?_map] at h
  cases e : x.cps.toList[k]? with
  | none => rw [e] at h; cases h
  | some c => rw [e] at h; cases h; exact ⟨c, rfl, rfl⟩
theorem fe_is_row {d : D} {xs : List D} {a b : Int} {Q : D → List D → Prop} (h1 : d.isTup = true) (h2 : d.seq = some xs) (h3 : d.kd = false) (h4 : d.sh = true) (q : Q (.bl (decide (a ≤ (xs.length : Nat)) && decide (((xs.length : Nat) : Int) ≤ b))) []) : F_is_row.f [d, .int a, .int b] Q :=
  ⟨(d, xs, a, b), rfl, ⟨h1, h2, h3, h4⟩, fun _ _ ⟨e1, e2⟩ => by rw [e1, e2]; exact q⟩
theorem fe_is_name {x : Str} {Q : D → List D → Prop} (h : RN x) (q : Q (.bl true) []) : F_is_name.f [.str x] Q := ⟨x, rfl, h, fun _ _ ⟨e1, e2⟩ => by rw [e1, e2]; exact q⟩
theorem fe_first_double {d : D} {xs : List Str} {Q : D → List D → Prop} (h1 : d.seq = some (xs.map D.str)) (h2 : d.sh = true) (h3 : xs.Nodup) (h4 : xs.length ≤ 20) (q : Q .non []) : F_first_double.f [d] Q := ⟨(d, xs), rfl, ⟨h1, h2, h3, h4⟩, fun _ _ ⟨e1, e2⟩ => by rw [e1, e2]; exact q⟩
theorem pf_is_row : Pf F_is_row x_is_row [] (3 - 3) := pf_ex fun ⟨d, xs, a, b⟩ h R N ok _ => by
  unfold x_is_row
  simp only [List.map_cons, List.map_nil, List.cons_append, List.nil_append, List.append_nil, List.replicate_succ, List.replicate_zero, Nat.reduceSub]
  obtain ⟨h1, h2, h3, h4⟩ := h
  dsimp only at *
  have hl : len1 [d] = some (.int (xs.length : Nat)) := by
    cases d with
    | tup ys => cases h2; rfl
    | fz k ys =>
      cases k with
      | tpl => cases h2; rfl
      | _ => cases h2
    | _ => cases h1
  (repeat' (first | ((with_reducible apply i_some); ((with_reducible exact hl))) | walk_at "bvs"))
  refine ⟨fun hb => ?_, fun hb => ?_⟩
  · (repeat' (first | walk_at "bvs"))
    exact ok _ _ [] rfl ⟨by rw [hb]; rfl, rfl⟩
  · exact ok _ _ [] rfl ⟨by rw [hb]; rfl, rfl⟩
theorem pf_first_double {P : Program} {w : World} : Pf F_first_double (x_first_double P w) [] (3 - 1) := pf_ex fun ⟨d, xs⟩ h R N ok _ => by
  unfold x_first_double
  simp only [List.map_cons, List.map_nil, List.cons_append, List.nil_append, List.append_nil, List.replicate_succ, List.replicate_zero, Nat.reduceSub]
  obtain ⟨h1, h2, h3, h4⟩ := h
  dsimp only at *
  (repeat' (first | walk_at "bvs"))
  have hsh : (xs.map D.str).all D.sh = true := by simp [D.sh]
  refine ⟨_, h1, hsh, fun k ρ => ∃ (S : Key → Bool) (n : Nat) (s : Option D), n ≤ k ∧ (∀ x, S (.inr x) = true → x ∈ xs.take k) ∧ ρ = [some d, some (.ob (setKd P w S n) []), s], ⟨_, 0, none, Nat.le_refl _, fun x z => Bool.noConfusion z, rfl⟩, ?_, ?_⟩
  · rintro k z _ hz ⟨S, n, s, hn, hS, rfl⟩
    rw [List.getElem?_map] at hz
    cases e : xs[k]? with
    | none => rw [e] at hz; cases hz
    | some x =>
      rw [e] at hz
      cases hz
      obtain ⟨hk, ek⟩ := List.getElem?_eq_some_iff.mp e
      have hno : S (.inr x) = false := by
        cases q : S (.inr x) with
        | false => rfl
        | true =>
          obtain ⟨i, hi, ei⟩ := List.getElem_of_mem (hS x q)
          rw [List.length_take] at hi
          rw [List.getElem_take] at ei
          exact absurd (ei.trans ek.symm) (List.pairwise_iff_getElem.mp h3 i k (by omega) hk (by omega))
      have hsb : n + 1 < scanBound := by
        have : (22 : Nat) < scanBound := by decide
        omega
      have hno2 : (if false = true then !S (.inr x) else S (.inr x)) = false := hno
      (repeat' (first | ((with_reducible apply i_atSet); (repeat (first | exact At.z | apply At.s))) | ((with_reducible apply i_keyS)) | ((with_reducible apply i_keySA)) | walk_at "bvs"))
      refine ⟨[some d, some (.ob (setKd P w (fun j => S j || decide (j = .inr x)) (if S (.inr x) = true then n else n + 1)) []), some (.str x)], hsb, (by repeat (first | exact Put.z | apply Put.s)), _, _, some (.str x), ?_, fun y hy => ?_, rfl⟩
      · rw [hno, if_neg (by decide)]
        omega
      · rw [List.take_add_one, e]
        rcases Bool.or_eq_true_iff.mp hy with h5 | h5
        · exact List.mem_append_left _ (hS y h5)
        · have h6 : (Sum.inr y : Key) = .inr x := of_decide_eq_true h5
          cases h6
          simp
  · rintro _ ⟨S, n, s, hn, hS, rfl⟩
    (repeat' (first | walk_at "bvs"))
    exact ok _ _ [] rfl ⟨rfl, rfl⟩
theorem pf_is_name : Pf F_is_name x_is_name [] (2 - 1) := pf_ex fun x h R N ok _ => by
  unfold x_is_name
  simp only [List.map_cons, List.map_nil, List.cons_append, List.nil_append, List.append_nil, List.replicate_succ, List.replicate_zero, Nat.reduceSub]
  obtain ⟨l1, l2⟩ := h.len
  have hl : len1 [.str x] = some (.int (x.length : Nat)) := by
    have h2 : x.length ≤ PySem.sizeLine := by rw [sizeLine_eq]; omega
    simp only [len1, lenD, if_pos h2, Option.map_some]
    rfl
  have hk : inD false (.str x) (.tup (k_KEYWORDS.map D.str)) = some (.bl false) := by
    rw [in_f rfl (by simp [D.flat])]
    congr 2
    unfold inF
    rw [List.any_eq_false]
    intro y hy
    obtain ⟨z, hz, rfl⟩ := List.mem_map.mp hy
    intro e
    have e2 : z = x := by simpa [eqF] using e
    exact h.key (e2 ▸ (show z ∈ kws from hz))
  have hb1 : decide ((1 : Int) ≤ (x.length : Nat)) = true := decide_eq_true (by omega)
  have hb2 : decide (((x.length : Nat) : Int) ≤ 10) = true := decide_eq_true (by omega)
  obtain ⟨c, hc⟩ : ∃ c, x.cps.toList[0]? = some c := ⟨_, List.getElem?_eq_getElem (by rw [Array.length_toList]; exact l1)⟩
  have hix : ixD (.str x) (.int 0) = some (.str ⟨#[c]⟩) := by
    have h2 : x.length ≤ PySem.sizeLine := by rw [sizeLine_eq]; omega
    show (if x.length ≤ sizeLine then (atI x.cps.toList 0).map (fun c => D.str ⟨#[c]⟩) else none) = _
    rw [if_pos h2, show atI x.cps.toList 0 = some c from atI_nat (j := 0) hc]
    rfl
  have hin : inTD false (.str ⟨#[c]⟩) (.str SMALL) = some (.bl true) := by
    show some (D.bl (decide (c ∈ SMALL.cps.toList))) = _
    rw [decide_eq_true (h.head c hc)]
  (repeat' (first | ((with_reducible apply i_some); ((with_reducible exact hl))) | ((with_reducible apply i_some); ((with_reducible exact hk))) | ((with_reducible apply i_some); ((with_reducible exact hix))) | walk_at "bvs"))
  refine ⟨fun _ => ?_, fun e => absurd (h.head c hc) (of_decide_eq_false e)⟩
  (repeat' (first | walk_at "bvs"))
  refine ⟨fun n acc ρ => n ≤ x.length ∧ acc = List.replicate n (.bl true) ∧ ρ = [some (.str x), none], ⟨Nat.zero_le _, rfl, rfl⟩, ?_, ?_⟩
  · rintro n z acc _ hz ⟨hn, rfl, rfl⟩
    obtain ⟨c', hc', rfl⟩ := signs_at hz
    have hn1 : n < x.length := by
      have := (List.getElem?_eq_some_iff.mp hc').1
      rwa [Array.length_toList] at this
    have hla : (List.replicate n (D.bl true)).length < PySem.sizeLine := by rw [List.length_replicate, sizeLine_eq]; omega
    have fin : List.replicate (n + 1) (D.bl true) = List.replicate n (.bl true) ++ [.bl true] := List.replicate_succ'
    have two := h.all c' (List.mem_of_getElem? hc')
    (repeat' (first | walk_at "bvs"))
    refine ⟨fun e => ?_, fun e => ?_⟩
    · (repeat' (first | ((with_reducible apply i_lt); ((exact hla))) | walk_at "bvs"))
      exact ⟨hn1, by rw [fin], rfl⟩
    · have two : c' ∈ DIGITS.cps.toList := two.resolve_left (of_decide_eq_false e)
      (repeat' (first | ((with_reducible apply i_lt); ((exact hla))) | walk_at "bvs"))
      exact ⟨hn1, by rw [fin]; exact congrArg (fun b => List.replicate n (D.bl true) ++ [D.bl b]) (decide_eq_true two), rfl⟩
  · rintro acc _ ⟨_, rfl, rfl⟩
    refine i_nil (i_some (all_rep _) ?_)
    exact ok _ _ [] rfl ⟨rfl, rfl⟩
end K12

open PySem PySem.Spec PyProof.Rows L2 BV
namespace K12
open PySem PySem.Spec PyProof.Rows L2 BV
theorem fe_inner {s : St} {Q : D → List D → Prop} (h : s.fit) (q : Q (.tup (s.bodies.map bodyD)) []) : F_inner.f [s.d] Q := ⟨s, rfl, h, fun _ _ ⟨e1, e2⟩ => by rw [e1, e2]; exact q⟩
theorem fe_bodies {s : St} {Q : D → List D → Prop} (h : s.fit) (q : Q (.tup (s.bodies.map bodyD)) []) : F_bodies.f [s.d] Q := ⟨s, rfl, h, fun _ _ ⟨e1, e2⟩ => by rw [e1, e2]; exact q⟩
theorem wdec : ∀ x ∈ [("do" : Str), "undo", "call", "choose", "loop", "return", "ensure"], ∀ y ∈ [("do" : Str), "undo", "call", "choose", "loop", "return", "ensure"], decide (x = y) = decide (x.cps.toList = y.cps.toList) := by decide +kernel
theorem w_in : inF (.str "do") [.str "do", .str "undo", .str "call"] = true ∧ inF (.str "undo") [.str "do", .str "undo", .str "call"] = true ∧ inF (.str "call") [.str "do", .str "undo", .str "call"] = true ∧
    inF (.str "choose") [.str "do", .str "undo", .str "call"] = false ∧ inF (.str "loop") [.str "do", .str "undo", .str "call"] = false ∧ inF (.str "return") [.str "do", .str "undo", .str "call"] = false ∧ inF (.str "ensure") [.str "do", .str "undo", .str "call"] = false := by
  simp only [inF, List.any_cons, List.any_nil, eqF]
  decide +kernel
theorem w_eq : decide (Str.ofString "choose" = Str.ofString "choose") = true ∧ decide (Str.ofString "loop" = Str.ofString "choose") = false ∧ decide (Str.ofString "return" = Str.ofString "choose") = false ∧ decide (Str.ofString "ensure" = Str.ofString "choose") = false ∧
    decide (Str.ofString "loop" = Str.ofString "loop") = true ∧ decide (Str.ofString "return" = Str.ofString "loop") = false ∧ decide (Str.ofString "ensure" = Str.ofString "loop") = false ∧ decide (Str.ofString "return" = Str.ofString "return") = true ∧ decide (Str.ofString "ensure" = Str.ofString "return") = false ∧ decide (Str.ofString "ensure" = Str.ofString "ensure") = true := by decide +kernel
theorem pf_inner : Pf F_inner x_inner_bodies [] (2 - 1) := pf_ex fun s h R N ok _ => by
  unfold x_inner_bodies
  simp only [List.map_cons, List.map_nil, List.cons_append, List.nil_append, List.append_nil, List.replicate_succ, List.replicate_zero, Nat.reduceSub]
  obtain ⟨e1, e2, e3, e4, e5, e6, e7, e8, e9, e10⟩ := w_eq
  obtain ⟨f1, f2, f3, f4, f5, f6, f7⟩ := w_in
  cases s with
  | act un x =>
    rw [d_act]
    cases un with
    | true =>
      simp only [if_true]
      (repeat' (first | ((with_reducible apply fe_is_row); (rfl); (rfl); (rfl); (rfl)) | ((with_reducible apply fe_is_name); (exact h)) | walk_at "bvs"))
      exact ok _ _ [] rfl ⟨rfl, rfl⟩
    | false =>
      (repeat' (first | ((with_reducible apply fe_is_row); (rfl); (rfl); (rfl); (rfl)) | ((with_reducible apply fe_is_name); (exact h)) | walk_at "bvs"))
      exact ok _ _ [] rfl ⟨rfl, rfl⟩
  | call x =>
    rw [d_call]
    (repeat' (first | ((with_reducible apply fe_is_row); (rfl); (rfl); (rfl); (rfl)) | ((with_reducible apply fe_is_name); (exact h)) | walk_at "bvs"))
    exact ok _ _ [] rfl ⟨rfl, rfl⟩
  | ret =>
    rw [d_ret]
    (repeat' (first | ((with_reducible apply fe_is_row); (rfl); (rfl); (rfl); (rfl)) | walk_at "bvs"))
    exact ok _ _ [] rfl ⟨rfl, rfl⟩
  | loop b =>
    rw [d_loop]
    (repeat' (first | ((with_reducible apply fe_is_row); (rfl); (rfl); (rfl); (rfl)) | walk_at "bvs"))
    exact ok _ _ [] rfl ⟨rfl, rfl⟩
  | choose bs =>
    rw [d_choose]
    have hn : (bs.map fun b => D.tup (b.map St.d)).length = bs.length := List.length_map _
    have ht : (decide ((2 : Int) ≤ ((bs.map fun b => D.tup (b.map St.d)).length : Nat)) && decide ((((bs.map fun b => D.tup (b.map St.d)).length : Nat) : Int) ≤ 6)) = true := by
      obtain ⟨a1, a2⟩ := h
      rw [hn, decide_eq_true (by omega), decide_eq_true (by omega)]
      rfl
    (repeat' (first | ((with_reducible apply fe_is_row); (rfl); (rfl); (rfl); (rfl)) | walk_at "bvs"))
    exact ok _ _ [] rfl ⟨rfl, rfl⟩
  | ens b c =>
    rw [d_ens]
    (repeat' (first | ((with_reducible apply fe_is_row); (rfl); (rfl); (rfl); (rfl)) | walk_at "bvs"))
    exact ok _ _ [] rfl ⟨rfl, rfl⟩
theorem pf_bodies : Pf F_bodies x_bodies_of [] (1 - 1) := pf_ex fun s h R N ok _ => by
  unfold x_bodies_of
  simp only [List.map_cons, List.map_nil, List.cons_append, List.nil_append, List.append_nil, List.replicate_succ, List.replicate_zero, Nat.reduceSub]
  have hs : s.d.sh = true := by cases s <;> simp only [St.d] <;> rfl
  (repeat' (first | ((with_reducible apply fe_inner); (assumption)) | walk_at "bvs"))
  exact ok _ _ [] rfl ⟨rfl, rfl⟩
end K12

open PySem PySem.Spec PyProof.Rows L2 BV
namespace K12
open PySem PySem.Spec PyProof.Rows L2 BV
theorem small_lt : ∀ c ∈ SMALL.cps.toList, c < 0x110000 := by decide +kernel
theorem digits_lt : ∀ c ∈ DIGITS.cps.toList, c < 0x110000 := by decide +kernel
theorem RN.strOk {x : Str} (h : RN x) : PyData.strOk x = true := by
  unfold PyData.strOk
  rw [← Array.all_toList, List.all_eq_true]
  intro c hc
  exact decide_eq_true ((h.all c hc).elim (small_lt c) (digits_lt c))
theorem nice_ok {letters names : List Str} (h : Nms letters names) : ∀ (j : Nat) (sec : Bool) (s : St), s.ok letters names j sec → nice s.d = true := by
  have body : ∀ (j : Nat), (∀ (sec : Bool) (s : St), s.ok letters names j sec → nice s.d = true) → ∀ (sec : Bool) (b : List St), okB letters names j sec b → nice (bodyD b) = true := fun j ih sec b k => by
    unfold bodyD
    simp only [nice]
    exact nices_of fun z hz => by
      obtain ⟨s, hs, rfl⟩ := List.mem_map.mp hz
      exact ih sec s (okB_mem k s hs)
  intro j
  induction j with
  | zero =>
    intro sec s k
    cases s with
    | act un x => rw [d_act]; simp only [nice, nices, strOk_of, Bool.and_true, Bool.true_and]; simp only [St.ok] at k; cases un <;> simp [strOk_of, (h.l x k).strOk]
    | call x => rw [d_call]; simp only [nice, nices, strOk_of, Bool.and_true, Bool.true_and]; simp only [St.ok] at k; exact (h.n x k).strOk
    | ret => rw [d_ret]; simp only [nice, nices, strOk_of, Bool.and_self]
    | _ => simp only [St.ok] at k
  | succ j ih =>
    intro sec s k
    cases s with
    | act un x => rw [d_act]; simp only [nice, nices, strOk_of, Bool.and_true, Bool.true_and]; simp only [St.ok] at k; cases un <;> simp [strOk_of, (h.l x k).strOk]
    | call x => rw [d_call]; simp only [nice, nices, strOk_of, Bool.and_true, Bool.true_and]; simp only [St.ok] at k; exact (h.n x k).strOk
    | ret => rw [d_ret]; simp only [nice, nices, strOk_of, Bool.and_self]
    | loop b =>
      simp only [St.ok] at k
      have := body j ih sec b k
      rw [d_loop]
      unfold bodyD at this
      simp only [nice, nices, strOk_of, Bool.and_true, Bool.true_and] at this ⊢
      exact this
    | choose bs =>
      simp only [St.ok] at k
      rw [d_choose]
      simp only [nice, nices, strOk_of, Bool.and_true, Bool.true_and]
      exact nices_of fun z hz => by
        obtain ⟨b, hb, rfl⟩ := List.mem_map.mp hz
        exact body j ih sec b (okBs_mem k.2.2 b hb)
    | ens b c =>
      simp only [St.ok] at k
      have t1 := body j ih sec b k.1
      have t2 := body j ih true c k.2
      rw [d_ens]
      unfold bodyD at t1 t2
      simp only [nice, nices, strOk_of, Bool.and_true, Bool.true_and] at t1 t2 ⊢
      rw [t1, t2]
      rfl
theorem nice_body {letters names : List Str} (h : Nms letters names) {j : Nat} {sec : Bool} {b : List St} (k : okB letters names j sec b) : nices (b.map St.d) = true := nices_of fun z hz => by
  obtain ⟨s, hs, rfl⟩ := List.mem_map.mp hz
  exact nice_ok h j sec s (okB_mem k s hs)
theorem cnt_app : ∀ a b : List St, cnt (a ++ b) = cnt a + cnt b
  | [], b => by simp only [List.nil_append, cnt, Nat.zero_add]
  | s :: a, b => by simp only [List.cons_append, cnt, cnt_app a b]; omega
theorem cnt_take {b : List St} {k : Nat} {s : St} (h : b[k]? = some s) : cnt (b.take (k + 1)) = cnt (b.take k) + s.cnt := by
  rw [List.take_add_one, h, Option.toList_some, cnt_app]
  simp only [cnt, Nat.add_zero]
theorem cnt_take_le (b : List St) (k : Nat) : cnt (b.take k) ≤ cnt b := by
  have := cnt_app (b.take k) (b.drop k)
  rw [List.take_append_drop] at this
  omega
theorem st_at {b : List St} {k : Nat} {z : D} (h : (b.map St.d)[k]? = some z) : ∃ s, b[k]? = some s ∧ z = s.d := by
  rw [List.getElem?_map] at h
  cases e : b[k]? with
  | none => rw [e] at h; cases h
  | some s => rw [e] at h; cases h; exact ⟨s, rfl, rfl⟩
theorem bd_at {bs : List (List St)} {k : Nat} {z : D} (h : (bs.map bodyD)[k]? = some z) : ∃ c, bs[k]? = some c ∧ z = bodyD c := by
  rw [List.getElem?_map] at h
  cases e : bs[k]? with
  | none => rw [e] at h; cases h
  | some s => rw [e] at h; cases h; exact ⟨s, rfl, rfl⟩
def sumT (bs : List (List St)) (m : Nat) : Nat := ((bs.take m).map cnt).sum
theorem sumT_succ {bs : List (List St)} {m : Nat} {c : List St} (h : bs[m]? = some c) : sumT bs (m + 1) = sumT bs m + cnt c := by
  unfold sumT
  rw [List.take_add_one, h, Option.toList_some, List.map_append, List.sum_append]
  simp
theorem sumT_le (bs : List (List St)) (m : Nat) : sumT bs m ≤ (bs.map cnt).sum := by
  have : bs.map cnt = (bs.take m).map cnt ++ (bs.drop m).map cnt := by rw [← List.map_append, List.take_append_drop]
  rw [this, List.sum_append]
  exact Nat.le_add_right _ _
theorem i_intP {y : Int} {P : Int → Ev → Prop} (q : ∃ ρ, P y ρ) : ∃ y' ρ, D.int y = .int y' ∧ P y' ρ := by
  obtain ⟨ρ, q⟩ := q
  exact ⟨_, ρ, rfl, q⟩
theorem fe_count {f chain room : Nat} {b : List St} {letters names : List Str} {j : Nat} {sec : Bool} {Q : D → List D → Prop} (h1 : Nms letters names) (h2 : okB letters names j sec b) (h3 : j < f) (h4 : j < chain) (h5 : cnt b ≤ room) (h6 : cnt b ≤ 60) (q : Q (.int (cnt b : Nat)) []) : (F_countJ f).f [bodyD b, .int (chain : Nat), .int (room : Nat)] Q :=
  ⟨(b, chain, room), rfl, ⟨⟨letters, names, j, sec, h1, h2, h3, h4⟩, h5, h6⟩, fun _ _ ⟨e1, e2⟩ => by rw [e1, e2]; exact q⟩
theorem pf_count (f : Nat) : Pf (F_countJ (f + 1)) (x_count_of f) [] (7 - 3) := pf_ex fun ⟨b, chain, room⟩ h R N ok _ => by
  unfold x_count_of
  simp only [List.map_cons, List.map_nil, List.cons_append, List.nil_append, List.append_nil, List.replicate_succ, List.replicate_zero, Nat.reduceSub]
  obtain ⟨⟨letters, names, j, sec, hN, hB, hj, hc⟩, hr, h60⟩ := h
  dsimp only at *
  have hlb := len_cnt b
  have hts : (bodyD b).sh = true := rfl
  have hss : (b.map St.d).all D.sh = true := by
    rw [List.all_map]
    exact List.all_eq_true.mpr fun s _ => by cases s <;> simp only [Function.comp, St.d] <;> rfl
  have hrow : (decide ((0 : Int) ≤ ((b.map St.d).length : Nat)) && decide ((((b.map St.d).length : Nat) : Int) ≤ 60)) = true := by
    rw [List.length_map, decide_eq_true (by omega), decide_eq_true (by omega)]
    rfl
  have hch : decide (((chain : Nat) : Int) = 0) = false := decide_eq_false (by omega)
  have hly := nices_lays (nice_body hN hB)
  have heq : eqD (bodyD b) (.tup []) = some (b.map St.d).isEmpty := eqD_te hly
  have hseq : (bodyD b).seq = some (b.map St.d) := rfl
  refine i_join (fun ρ => ρ = [some (bodyD b), some (.int (chain : Nat)), some (.int (room : Nat)), none, none, none, none]) ?_ ?_
  · (repeat' (first | ((with_reducible apply fe_is_row); (rfl); (rfl); (rfl); (rfl)) | ((with_reducible apply i_some); ((exact congrArg (Option.map fun b => D.bl (!b)) heq))) | walk_at "bvs" | ((with_reducible apply i_B) <;> intro hb)))
    all_goals rfl
  rintro _ rfl
  (repeat' (first | ((with_reducible apply i_some); (exact hseq)) | walk_at "bvs"))
  refine ⟨fun k ρ => ∃ s4 s5 s6, ρ = [some (bodyD b), some (.int (chain : Nat)), some (.int (room : Nat)), some (.int (cnt (b.take k) : Nat)), s4, s5, s6], ⟨none, none, none, rfl⟩, ?_, ?_⟩
  · rintro k z _ hz ⟨s4, s5, s6, rfl⟩
    obtain ⟨s, hs, rfl⟩ := st_at hz
    have hok := okB_mem hB s (List.mem_of_getElem? hs)
    have hfit := ok_fit hN hok
    have hsd : s.d.sh = true := by cases s <;> simp only [St.d] <;> rfl
    have hc1 := cnt_take hs
    have hc2 := cnt_take_le b (k + 1)
    have hc3 := cnt_bodies s
    have hbsh : (s.bodies.map bodyD).all D.sh = true := by
      rw [List.all_map]
      exact List.all_eq_true.mpr fun c _ => rfl
    (repeat' (first | ((with_reducible apply fe_inner); (assumption)) | ((with_reducible apply i_atInt); (repeat (first | exact At.z | apply At.s))) | ((with_reducible apply i_intP)) | walk_at "bvs"))
    refine ⟨fun m ρ => ∃ s6, ρ = [some (bodyD b), some (.int (chain : Nat)), some (.int (room : Nat)), some (.int ((cnt (b.take k) + 1 + sumT s.bodies m : Nat) : Int)), some s.d, some (.tup (s.bodies.map bodyD)), s6], ⟨s6, rfl⟩, ?_, ?_⟩
    · rintro m z _ hz2 ⟨s6, rfl⟩
      obtain ⟨c, hcm, rfl⟩ := bd_at hz2
      obtain ⟨i, sec', hi, hok2⟩ := ok_bodies hok c (List.mem_of_getElem? hcm)
      have hs1 := sumT_succ hcm
      have hs2 := sumT_le s.bodies (m + 1)
      have hcs : (bodyD c).sh = true := rfl
      have e1 : ((chain : Nat) : Int) - 1 = ((chain - 1 : Nat) : Int) := by omega
      have e2 : ((room : Nat) : Int) - ((cnt (b.take k) + 1 + sumT s.bodies m : Nat) : Int) = ((room - (cnt (b.take k) + 1 + sumT s.bodies m) : Nat) : Int) := by omega
      (repeat' (first | ((with_reducible apply i_atInt); (repeat (first | exact At.z | apply At.s))) | ((with_reducible apply i_intP)) | walk_at "bvs"))
      rw [e1, e2]
      have e4 : ((cnt (b.take k) + 1 + sumT s.bodies m : Nat) : Int) + ((cnt c : Nat) : Int) = ((cnt (b.take k) + 1 + sumT s.bodies (m + 1) : Nat) : Int) := by omega
      have hgt : decide (((room : Nat) : Int) < ((cnt (b.take k) + 1 + sumT s.bodies m : Nat) : Int) + ((cnt c : Nat) : Int)) = false := decide_eq_false (by omega)
      (repeat' (first | ((with_reducible apply fe_count); (exact hN); (exact hok2); (omega); (omega); (omega); (omega)) | ((with_reducible apply i_atInt); (repeat (first | exact At.z | apply At.s))) | ((with_reducible apply i_intP)) | walk_at "bvs"))
      exact ⟨some (bodyD c), by rw [e4]⟩
    · rintro _ ⟨s6, rfl⟩
      refine ⟨some s.d, some (.tup (s.bodies.map bodyD)), s6, ?_⟩
      have e3 : cnt (b.take k) + 1 + sumT s.bodies (s.bodies.map bodyD).length = cnt (b.take (k + 1)) := by
        unfold sumT
        rw [List.length_map, List.take_length, hc1, hc3]
        omega
      rw [e3]
  · rintro _ ⟨s4, s5, s6, rfl⟩
    rw [List.length_map, List.take_length]
    (repeat' (first | walk_at "bvs"))
    exact ok _ _ [] rfl ⟨rfl, rfl⟩
end K12

open PySem PySem.Spec PyProof.Rows L2 BV
namespace K12
open PySem PySem.Spec PyProof.Rows L2 BV
theorem fe_own_trouble {s : St} {sec : Bool} {p : Prog} {j : Nat} {Q : D → List D → Prop} (h : s.ok p.letters p.names j sec) (q : Q .non []) : F_own_trouble.f [s.d, .bl sec, p.lD, p.nD] Q := ⟨(s, sec, p), rfl, ⟨j, h⟩, fun _ _ ⟨e1, e2⟩ => by rw [e1, e2]; exact q⟩
theorem w_in2 : inF (.str "do") [.str "do", .str "undo"] = true ∧ inF (.str "undo") [.str "do", .str "undo"] = true ∧ inF (.str "call") [.str "do", .str "undo"] = false ∧
    inF (.str "choose") [.str "do", .str "undo"] = false ∧ inF (.str "loop") [.str "do", .str "undo"] = false ∧ inF (.str "return") [.str "do", .str "undo"] = false ∧ inF (.str "ensure") [.str "do", .str "undo"] = false := by
  simp only [inF, List.any_cons, List.any_nil, eqF]
  decide +kernel
theorem w_eq2 : decide (Str.ofString "do" = Str.ofString "call") = false ∧ decide (Str.ofString "undo" = Str.ofString "call") = false ∧ decide (Str.ofString "call" = Str.ofString "call") = true ∧ decide (Str.ofString "choose" = Str.ofString "call") = false ∧ decide (Str.ofString "loop" = Str.ofString "call") = false ∧ decide (Str.ofString "return" = Str.ofString "call") = false ∧ decide (Str.ofString "ensure" = Str.ofString "call") = false ∧
    decide (Str.ofString "do" = Str.ofString "return") = false ∧ decide (Str.ofString "undo" = Str.ofString "return") = false ∧ decide (Str.ofString "call" = Str.ofString "return") = false ∧ decide (Str.ofString "choose" = Str.ofString "return") = false ∧ decide (Str.ofString "loop" = Str.ofString "return") = false ∧ decide (Str.ofString "return" = Str.ofString "return") = true ∧ decide (Str.ofString "ensure" = Str.ofString "return") = false := by decide +kernel
theorem in_strs {x : Str} {xs : List Str} {d : D} (hd : d.seq = some (xs.map D.str)) (h : x ∈ xs) : inD true (.str x) d = some (.bl false) := by
  unfold inD
  rw [hd]
  show (if _ then _ else _) = _
  rw [if_pos ⟨rfl, by simp [D.flat]⟩]
  have : inF (.str x) (xs.map D.str) = true := by
    unfold inF
    rw [List.any_eq_true]
    exact ⟨.str x, List.mem_map.mpr ⟨x, h, rfl⟩, by simp [eqF]⟩
  rw [this]
  rfl
theorem pf_own_trouble : Pf F_own_trouble x_own_trouble [] (5 - 4) := pf_ex fun ⟨s, sec, p⟩ h R N ok _ => by
  unfold x_own_trouble
  simp only [List.map_cons, List.map_nil, List.cons_append, List.nil_append, List.append_nil, List.replicate_succ, List.replicate_zero, Nat.reduceSub]
  obtain ⟨j, h⟩ := h
  dsimp only at *
  obtain ⟨e1, e2, e3, e4, e5, e6, e7, e8, e9, e10, e11, e12, e13, e14⟩ := w_eq2
  obtain ⟨f1, f2, f3, f4, f5, f6, f7⟩ := w_in2
  have hl : p.lD.sh = true := rfl
  have hn : p.nD.sh = true := rfl
  cases s with
  | act un x =>
    have hx : x ∈ p.letters := by cases j <;> (simp only [St.ok] at h; exact h)
    have hin := in_strs (d := p.lD) rfl hx
    rw [d_act]
    cases un with
    | true =>
      simp only [if_true]
      (repeat' (first | ((with_reducible apply i_some); ((with_reducible exact hin))) | walk_at "bvs"))
      exact ok _ _ [] rfl ⟨rfl, rfl⟩
    | false =>
      simp only [Bool.false_eq_true, if_false]
      (repeat' (first | ((with_reducible apply i_some); ((with_reducible exact hin))) | walk_at "bvs"))
      exact ok _ _ [] rfl ⟨rfl, rfl⟩
  | call x =>
    have hx : x ∈ p.names := by cases j <;> (simp only [St.ok] at h; exact h)
    have hin := in_strs (d := p.nD) rfl hx
    rw [d_call]
    (repeat' (first | ((with_reducible apply i_some); ((with_reducible exact hin))) | walk_at "bvs"))
    exact ok _ _ [] rfl ⟨rfl, rfl⟩
  | ret =>
    have hs : sec = false := by cases j <;> (simp only [St.ok] at h; exact h)
    subst hs
    rw [d_ret]
    (repeat' (first | walk_at "bvs"))
    exact ok _ _ [] rfl ⟨rfl, rfl⟩
  | loop b =>
    rw [d_loop]
    (repeat' (first | walk_at "bvs"))
    exact ok _ _ [] rfl ⟨rfl, rfl⟩
  | choose bs =>
    rw [d_choose]
    (repeat' (first | walk_at "bvs"))
    exact ok _ _ [] rfl ⟨rfl, rfl⟩
  | ens b c =>
    rw [d_ens]
    (repeat' (first | walk_at "bvs"))
    exact ok _ _ [] rfl ⟨rfl, rfl⟩
end K12

open PySem PySem.Spec PyProof.Rows L2 BV
namespace K12
open PySem PySem.Spec PyProof.Rows L2 BV
theorem fe_trouble {f : Nat} {b : List St} {sec : Bool} {p : Prog} {j : Nat} {Q : D → List D → Prop} (hN : Nms p.letters p.names) (hj : j < f) (h : okB p.letters p.names j sec b) (q : Q .non []) : (F_troubleJ f).f [bodyD b, .bl sec, p.lD, p.nD] Q := ⟨(b, sec, p), rfl, ⟨hN, j, hj, h⟩, fun _ _ ⟨e1, e2⟩ => by rw [e1, e2]; exact q⟩
def St.word : St → Str
  | .act un _ => if un then "undo" else "do"
  | .call _ => "call"
  | .ret => "return"
  | .loop _ => "loop"
  | .choose _ => "choose"
  | .ens _ _ => "ensure"
def St.isEns : St → Bool
  | .ens _ _ => true
  | _ => false
theorem ix_word (s : St) : ixD s.d (.int 0) = some (.str s.word) := by
  cases s <;> simp only [St.d, St.word] <;> exact ix_tup (atI_nat (j := 0) rfl) rfl
theorem word_ens (s : St) : decide (s.word = Str.ofString "ensure") = s.isEns := by
  have a : decide (Str.ofString "undo" = Str.ofString "ensure") = false ∧ decide (Str.ofString "do" = Str.ofString "ensure") = false ∧ decide (Str.ofString "call" = Str.ofString "ensure") = false ∧ decide (Str.ofString "return" = Str.ofString "ensure") = false ∧ decide (Str.ofString "loop" = Str.ofString "ensure") = false ∧ decide (Str.ofString "choose" = Str.ofString "ensure") = false := by decide +kernel
  obtain ⟨a1, a2, a3, a4, a5, a6⟩ := a
  cases s with
  | act un x => cases un <;> simp only [St.word, St.isEns, if_true, Bool.false_eq_true, if_false] <;> assumption
  | ens b c => exact decide_eq_true (rfl : (St.ens b c).word = _)
  | _ => simp only [St.word, St.isEns]; assumption
theorem ok_body {letters names : List Str} {j m : Nat} {sec : Bool} {s : St} {c : List St} (k : s.ok letters names j sec) (h : s.bodies[m]? = some c) : ∃ i, i + 1 = j ∧ okB letters names i (sec || (s.isEns && decide (m = 1))) c := by
  cases s with
  | act un x => simp [St.bodies] at h
  | call x => simp [St.bodies] at h
  | ret => simp [St.bodies] at h
  | loop b =>
    cases j with
    | zero => simp only [St.ok] at k
    | succ j =>
      simp only [St.ok] at k
      have hc : c = b := List.mem_singleton.mp (List.mem_of_getElem? (l := [b]) h)
      subst hc
      exact ⟨j, rfl, by simpa [St.isEns] using k⟩
  | choose bs =>
    cases j with
    | zero => simp only [St.ok] at k
    | succ j =>
      simp only [St.ok] at k
      exact ⟨j, rfl, by simpa [St.isEns] using okBs_mem k.2.2 c (List.mem_of_getElem? h)⟩
  | ens b e =>
    cases j with
    | zero => simp only [St.ok] at k
    | succ j =>
      simp only [St.ok] at k
      match m, h with
      | 0, h => cases h; exact ⟨j, rfl, by simpa [St.isEns] using k.1⟩
      | 1, h => cases h; exact ⟨j, rfl, by simpa [St.isEns] using k.2⟩
      | m + 2, h => simp [St.bodies] at h
theorem pf_trouble (f : Nat) : Pf (F_troubleJ (f + 1)) (x_trouble_in f) [] (8 - 4) := pf_ex fun ⟨b, sec, p⟩ h R N ok _ => by
  unfold x_trouble_in
  simp only [List.map_cons, List.map_nil, List.cons_append, List.nil_append, List.append_nil, List.replicate_succ, List.replicate_zero, Nat.reduceSub]
  obtain ⟨hN, j, hj, hB⟩ := h
  dsimp only at *
  have hl : p.lD.sh = true := rfl
  have hn : p.nD.sh = true := rfl
  have hts : (bodyD b).sh = true := rfl
  have hss : (b.map St.d).all D.sh = true := by
    rw [List.all_map]
    exact List.all_eq_true.mpr fun s _ => by cases s <;> simp only [Function.comp, St.d] <;> rfl
  have hseq : (bodyD b).seq = some (b.map St.d) := rfl
  (repeat' (first | ((with_reducible apply i_some); (exact hseq)) | walk_at "bvs"))
  refine ⟨fun k ρ => ∃ s4 s5 s6 s7, ρ = [some (bodyD b), some (.bl sec), some p.lD, some p.nD, s4, s5, s6, s7], ⟨none, none, none, none, rfl⟩, ?_, ?_⟩
  · rintro k z _ hz ⟨s4, s5, s6, s7, rfl⟩
    obtain ⟨s, hs, rfl⟩ := st_at hz
    have hok := okB_mem hB s (List.mem_of_getElem? hs)
    have hfit := ok_fit hN hok
    have hsd : s.d.sh = true := by cases s <;> simp only [St.d] <;> rfl
    have hbsh : (s.bodies.map bodyD).all D.sh = true := by
      rw [List.all_map]
      exact List.all_eq_true.mpr fun c _ => rfl
    (repeat' (first | ((with_reducible apply fe_own_trouble); (assumption)) | ((with_reducible apply fe_bodies); (assumption)) | walk_at "bvs"))
    refine ⟨_, s.bodies.map bodyD, rfl, rfl, hbsh, fun m ρ => ∃ s6 s7, ρ = [some (bodyD b), some (.bl sec), some p.lD, some p.nD, some s.d, some .non, s6, s7], ⟨s6, s7, rfl⟩, ?_, ?_⟩
    · rintro m z _ hz2 ⟨s6, s7, rfl⟩
      obtain ⟨z, hz3, rfl⟩ := enumD_get hz2
      obtain ⟨c, hcm, rfl⟩ := bd_at hz3
      rw [Nat.zero_add]
      obtain ⟨i, hi, hok2⟩ := ok_body hok hcm
      have hcs : (bodyD c).sh = true := rfl
      have hif : i < f := by omega
      have hix := ix_word s
      have hwe := word_ens s
      have hm1 : decide (((m : Nat) : Int) = 1) = decide (m = 1) := by
        by_cases e : m = 1
        · rw [decide_eq_true e, decide_eq_true (by omega)]
        · rw [decide_eq_false e, decide_eq_false (by omega)]
      have fin : ∀ v, v = (sec || (s.isEns && decide (m = 1))) → okB p.letters p.names i v c := fun v e => by rw [e]; exact hok2
      cases sec with
      | true =>
        have hk := fin true rfl
        (repeat' (first | ((with_reducible apply i_some); ((with_reducible exact hix))) | ((with_reducible apply fe_trouble); (exact hN); (exact hif); (assumption)) | walk_at "bvs"))
        exact ⟨_, _, rfl⟩
      | false =>
        cases hE : s.isEns with
        | false =>
          rw [hE] at hwe
          have hk := fin false (by rw [hE]; rfl)
          (repeat' (first | ((with_reducible apply i_some); ((with_reducible exact hix))) | ((with_reducible apply fe_trouble); (exact hN); (exact hif); (assumption)) | walk_at "bvs"))
          exact ⟨_, _, rfl⟩
        | true =>
          rw [hE] at hwe
          have hk := fin (decide (((m : Nat) : Int) = 1)) (by rw [hE, hm1]; rfl)
          (repeat' (first | ((with_reducible apply i_some); ((with_reducible exact hix))) | ((with_reducible apply fe_trouble); (exact hN); (exact hif); (assumption)) | walk_at "bvs"))
          exact ⟨_, _, rfl⟩
    · rintro _ ⟨s6, s7, rfl⟩
      exact ⟨some s.d, some .non, s6, s7, rfl⟩
  · rintro _ ⟨s4, s5, s6, s7, rfl⟩
    (repeat' (first | walk_at "bvs"))
    exact ok _ _ [] rfl ⟨rfl, rfl⟩
end K12

open PySem PySem.Spec PyProof.Rows L2 BV
namespace K12
open PySem PySem.Spec PyProof.Rows L2 BV
theorem fe_is_program {p : Prog} {Q : D → List D → Prop} (h : p.WF) (q : Q (.bl true) []) : F_is_program.f [p.d] Q := ⟨p, rfl, h, fun _ _ ⟨e1, e2⟩ => by rw [e1, e2]; exact q⟩
theorem fe_need {p : Prog} {Q : D → List D → Prop} (h : p.WF) (q : Q .non []) : F_need.f [p.d] Q := ⟨p, rfl, h, fun _ _ ⟨e1, e2⟩ => by rw [e1, e2]; exact q⟩
theorem fe_trouble_of {p : Prog} {Q : D → List D → Prop} (h : p.WF) (q : Q .non []) : F_trouble_of.f [p.d] Q := ⟨p, rfl, h, fun _ _ ⟨e1, e2⟩ => by rw [e1, e2]; exact q⟩
theorem fe_check {p : Prog} {Q : D → List D → Prop} (h : p.WF) (q : Q .non []) : F_check.f [p.d] Q := ⟨p, rfl, h, fun _ _ ⟨e1, e2⟩ => by rw [e1, e2]; exact q⟩
theorem fe_need_checked {p : Prog} {Q : D → List D → Prop} (h : p.WF) (q : Q .non []) : F_need_checked.f [p.d] Q := ⟨p, rfl, h, fun _ _ ⟨e1, e2⟩ => by rw [e1, e2]; exact q⟩
theorem pf_need : Pf F_need x_need_program [] (1 - 1) := pf_ex fun p h R N _ okN => by
  unfold x_need_program
  simp only [List.map_cons, List.map_nil, List.cons_append, List.nil_append, List.append_nil, List.replicate_succ, List.replicate_zero, Nat.reduceSub]
  have hs : p.d.sh = true := rfl
  (repeat' (first | ((with_reducible apply fe_is_program); (assumption)) | walk_at "bvs"))
  exact okN _ [] rfl ⟨rfl, rfl⟩
theorem pf_check : Pf F_check x_check [] (1 - 1) := pf_ex fun p h R N ok _ => by
  unfold x_check
  simp only [List.map_cons, List.map_nil, List.cons_append, List.nil_append, List.append_nil, List.replicate_succ, List.replicate_zero, Nat.reduceSub]
  have hs : p.d.sh = true := rfl
  (repeat' (first | ((with_reducible apply fe_need); (assumption)) | ((with_reducible apply fe_trouble_of); (assumption)) | walk_at "bvs"))
  exact ok _ _ [] rfl ⟨rfl, rfl⟩
theorem pf_need_checked : Pf F_need_checked x_need_checked [] (2 - 1) := pf_ex fun p h R N _ okN => by
  unfold x_need_checked
  simp only [List.map_cons, List.map_nil, List.cons_append, List.nil_append, List.append_nil, List.replicate_succ, List.replicate_zero, Nat.reduceSub]
  have hs : p.d.sh = true := rfl
  (repeat' (first | ((with_reducible apply fe_check); (assumption)) | walk_at "bvs"))
  exact okN _ [] rfl ⟨rfl, rfl⟩
end K12

open PySem PySem.Spec PyProof.Rows L2 BV
namespace K12
open PySem PySem.Spec PyProof.Rows L2 BV
def pcnt (p : Prog) (k : Nat) : Nat := ((p.procs.take k).map fun q => cnt q.2).sum
theorem pcnt_succ {p : Prog} {k : Nat} {q : Str × List St} (h : p.procs[k]? = some q) : pcnt p (k + 1) = pcnt p k + cnt q.2 := by
  unfold pcnt
  rw [List.take_add_one, h, Option.toList_some, List.map_append, List.sum_append]
  simp
theorem pcnt_le (p : Prog) (k : Nat) : pcnt p k ≤ (p.procs.map fun q => cnt q.2).sum := by
  have : (p.procs.map fun q => cnt q.2) = ((p.procs.take k).map fun q => cnt q.2) ++ ((p.procs.drop k).map fun q => cnt q.2) := by rw [← List.map_append, List.take_append_drop]
  rw [this, List.sum_append]
  exact Nat.le_add_right _ _
theorem ixp0 (p : Prog) : ixD p.d (.int 0) = some p.lD := ix_tup (atI_nat (j := 0) rfl) rfl
theorem ixp1 (p : Prog) : ixD p.d (.int 1) = some p.pD := ix_tup (atI_nat (j := 1) rfl) rfl
theorem pf_is_program : Pf F_is_program x_is_program [] (4 - 1) := pf_ex fun p h R N ok _ => by
  unfold x_is_program
  simp only [List.map_cons, List.map_nil, List.cons_append, List.nil_append, List.append_nil, List.replicate_succ, List.replicate_zero, Nat.reduceSub]
  have hs : p.d.sh = true := rfl
  have hl : p.lD.sh = true := rfl
  have h0 := ixp0 p
  have h1 := ixp1 p
  obtain ⟨l1, l2⟩ := h.l1
  obtain ⟨q1, q2⟩ := h.p1
  have hc := h.cn
  have t1 : (decide ((1 : Int) ≤ ((p.letters.map D.str).length : Nat)) && decide ((((p.letters.map D.str).length : Nat) : Int) ≤ 20)) = true := by
    rw [List.length_map, decide_eq_true (by omega), decide_eq_true (by omega)]; rfl
  have t2 : (decide ((1 : Int) ≤ ((p.procs.map fun q => D.tup [.str q.1, bodyD q.2]).length : Nat)) && decide ((((p.procs.map fun q => D.tup [.str q.1, bodyD q.2]).length : Nat) : Int) ≤ 8)) = true := by
    rw [List.length_map, decide_eq_true (by omega), decide_eq_true (by omega)]; rfl
  have sl : (p.letters.map D.str).all D.sh = true := by simp [D.sh]
  have sp : (p.procs.map fun q => D.tup [.str q.1, bodyD q.2]).all D.sh = true := by simp [D.sh]
  have hps : p.pD.seq = some (p.procs.map fun q => D.tup [.str q.1, bodyD q.2]) := rfl
  (repeat' (first | ((with_reducible apply fe_is_row); (rfl); (rfl); (rfl); (rfl)) | ((with_reducible apply i_some); ((with_reducible exact h0))) | ((with_reducible apply i_some); ((with_reducible exact h1))) | walk_at "bvs"))
  refine ⟨fun n acc ρ => n ≤ p.letters.length ∧ acc = List.replicate n (.bl true) ∧ ρ = [some p.d, none, none, none], ⟨Nat.zero_le _, rfl, rfl⟩, ?_, ?_⟩
  · rintro n z acc _ hz ⟨hn, rfl, rfl⟩
    rw [List.getElem?_map] at hz
    cases e : p.letters[n]? with
    | none => rw [e] at hz; cases hz
    | some x =>
      rw [e] at hz
      cases hz
      have hx := h.nm.l x (List.mem_of_getElem? e)
      have hn1 : n < p.letters.length := (List.getElem?_eq_some_iff.mp e).1
      have hla : (List.replicate n (D.bl true)).length < PySem.sizeLine := by rw [List.length_replicate, sizeLine_eq]; omega
      (repeat' (first | ((with_reducible apply fe_is_name); (assumption)) | ((with_reducible apply i_lt); ((exact hla))) | walk_at "bvs"))
      exact ⟨hn1, (List.replicate_succ').symm, rfl⟩
  · rintro acc _ ⟨_, rfl, rfl⟩
    (repeat' (first | ((with_reducible apply i_some); (exact all_rep _)) | ((with_reducible apply i_some); ((with_reducible exact h1))) | ((with_reducible apply i_some); (exact hps)) | walk_at "bvs"))
    refine ⟨fun k ρ => ∃ s2, ρ = [some p.d, some (.int ((200 - pcnt p k : Nat) : Int)), s2, none], ⟨none, rfl⟩, ?_, ?_⟩
    · rintro k z _ hz ⟨s2, rfl⟩
      rw [List.getElem?_map] at hz
      cases e : p.procs[k]? with
      | none => rw [e] at hz; cases hz
      | some q =>
        rw [e] at hz
        cases hz
        have hm := List.mem_of_getElem? e
        have hx := h.nm.n q.1 (List.mem_map.mpr ⟨q, hm, rfl⟩)
        have hB := h.ok q hm
        have c1 := pcnt_succ e
        have c2 := pcnt_le p (k + 1)
        have e1 : ((200 - pcnt p k : Nat) : Int) - ((cnt q.2 : Nat) : Int) = ((200 - pcnt p (k + 1) : Nat) : Int) := by omega
        have hlt : decide (((200 - pcnt p k : Nat) : Int) - ((cnt q.2 : Nat) : Int) < 0) = false := decide_eq_false (by omega)
        have h7 : (7 : Nat) < 13 := by decide
        (repeat' (first | ((with_reducible apply fe_is_row); (rfl); (rfl); (rfl); (rfl)) | ((with_reducible apply fe_is_name); (assumption)) | ((with_reducible apply i_atInt); (repeat (first | exact At.z | apply At.s))) | ((with_reducible apply i_intP)) | walk_at "bvs"))
        refine fe_count (chain := 12) h.nm hB h7 (by decide) (by omega) (by omega) ?_
        (repeat' (first | ((with_reducible apply i_atInt); (repeat (first | exact At.z | apply At.s))) | ((with_reducible apply i_intP)) | walk_at "bvs"))
        exact ⟨_, by rw [e1]⟩
    · rintro _ ⟨s2, rfl⟩
      (repeat' (first | walk_at "bvs"))
      exact ok _ _ [] rfl ⟨rfl, rfl⟩
end K12

open PySem PySem.Spec PyProof.Rows L2 BV
namespace K12
open PySem PySem.Spec PyProof.Rows L2 BV
theorem pr_at {p : Prog} {k : Nat} {z : D} (h : (p.procs.map fun q => D.tup [.str q.1, bodyD q.2])[k]? = some z) : ∃ q, p.procs[k]? = some q ∧ z = .tup [.str q.1, bodyD q.2] := by
  rw [List.getElem?_map] at h
  cases e : p.procs[k]? with
  | none => rw [e] at h; cases h
  | some q => rw [e] at h; cases h; exact ⟨q, rfl, rfl⟩
theorem pf_trouble_of : Pf F_trouble_of x_trouble_of [] (10 - 1) := pf_ex fun p h R N ok _ => by
  unfold x_trouble_of
  simp only [List.map_cons, List.map_nil, List.cons_append, List.nil_append, List.append_nil, List.replicate_succ, List.replicate_zero, Nat.reduceSub]
  have hd : p.d = .tup [p.lD, p.pD] := rfl
  rw [hd]
  have hl : p.lD.sh = true := rfl
  have hp : p.pD.sh = true := rfl
  have hn : p.nD.sh = true := rfl
  have sp : (p.procs.map fun q => D.tup [.str q.1, bodyD q.2]).all D.sh = true := by simp [D.sh]
  have hps : p.pD.seq = some (p.procs.map fun q => D.tup [.str q.1, bodyD q.2]) := rfl
  obtain ⟨q1, q2⟩ := h.p1
  (repeat' (first | ((with_reducible apply i_some); (exact hps)) | walk_at "bvs"))
  refine ⟨fun n acc ρ => n ≤ p.procs.length ∧ acc = (p.names.take n).map D.str ∧ ρ = [some (.tup [p.lD, p.pD]), some p.lD, some p.pD, none, none, none, none, none, none, none], ⟨Nat.zero_le _, rfl, rfl⟩, ?_, ?_⟩
  · rintro n z acc _ hz ⟨hn, rfl, rfl⟩
    obtain ⟨q, e, rfl⟩ := pr_at hz
    have hn1 : n < p.procs.length := (List.getElem?_eq_some_iff.mp e).1
    have e2 : p.names[n]? = some q.1 := by unfold Prog.names; rw [List.getElem?_map, e]; rfl
    have hla : ((p.names.take n).map D.str).length < PySem.sizeLine := by rw [List.length_map, List.length_take, sizeLine_eq]; omega
    (repeat' (first | ((with_reducible apply i_lt); ((exact hla))) | walk_at "bvs"))
    exact ⟨hn1, by rw [List.take_add_one, e2]; simp, rfl⟩
  · rintro acc _ ⟨_, rfl, rfl⟩
    have e3 : (p.names.take (p.procs.map fun q => D.tup [.str q.1, bodyD q.2]).length) = p.names := by
      rw [List.length_map]
      exact List.take_of_length_le (by unfold Prog.names; rw [List.length_map]; exact Nat.le_refl _)
    rw [e3]
    have sn : (p.names.map D.str).all D.sh = true := by simp [D.sh]
    have en : p.nD = .lst (p.names.map D.str) := rfl
    have hnl : p.names.length ≤ 20 := by unfold Prog.names; rw [List.length_map]; omega
    have hll := h.l1.2
    have h1 : p.lD.seq = some (p.letters.map D.str) := rfl
    have h2 : (D.lst (p.names.map D.str)).seq = some (p.names.map D.str) := rfl
    have h3 : (D.lst (p.names.map D.str)).sh = true := hn
    have hln := h.ln
    have hpn := h.pn
    (repeat' (first | walk_at "bvs"))
    refine ⟨fun k ρ => ∃ s4 s5 s6, ρ = [some (.tup [p.lD, p.pD]), some p.lD, some p.pD, some (.lst (p.names.map D.str)), s4, s5, s6, none, none, none], ⟨none, none, none, rfl⟩, ?_, ?_⟩
    · rintro k z _ hz ⟨s4, s5, s6, rfl⟩
      match k, hz with
      | 0, hz =>
        cases hz
        (repeat' (first | ((with_reducible apply fe_first_double); (exact h1); (exact hl); (exact hln); (exact hll)) | walk_at "bvs"))
        exact ⟨_, _, _, rfl⟩
      | 1, hz =>
        cases hz
        (repeat' (first | ((with_reducible apply fe_first_double); (exact h2); (exact h3); (exact hpn); (exact hnl)) | walk_at "bvs"))
        exact ⟨_, _, _, rfl⟩
      | k + 2, hz => cases hz
    · rintro _ ⟨s4, s5, s6, rfl⟩
      (repeat' (first | ((with_reducible apply i_some); (exact hps)) | walk_at "bvs"))
      refine ⟨fun k ρ => ∃ s4 s5 s6 s7 s8 s9, ρ = [some (.tup [p.lD, p.pD]), some p.lD, some p.pD, some (.lst (p.names.map D.str)), s4, s5, s6, s7, s8, s9], ⟨s4, s5, s6, none, none, none, rfl⟩, ?_, ?_⟩
      · rintro k z _ hz ⟨s4, s5, s6, s7, s8, s9, rfl⟩
        obtain ⟨q, e, rfl⟩ := pr_at hz
        have hq := h.ok q (List.mem_of_getElem? e)
        have hN := h.nm
        have h7 : 7 < 13 := by decide
        rw [← en]
        (repeat' (first | ((with_reducible apply fe_trouble); (exact hN); (exact h7); (exact hq)) | walk_at "bvs"))
        exact ⟨_, _, _, _, _, _, rfl⟩
      · rintro _ ⟨s4, s5, s6, s7, s8, s9, rfl⟩
        (repeat' (first | walk_at "bvs"))
        exact ok _ _ [] rfl ⟨rfl, rfl⟩
end K12

open PySem PySem.Spec PyProof.Rows L2 BV
namespace K12
open PySem PySem.Spec PyProof.Rows L2 BV
theorem fe_init {aL dx : Addr} {a b : D} {Q : D → List D → Prop} (h1 : a.sh = true) (h2 : b.sh = true) (q : Q .non [.ob (.ins aL dx ["marks", "numbers", "found"]) [a, b, .own [.tup [.str "end"]]]]) : (F_init aL).f [.ob (.ins aL dx []) [], a, b] Q := ⟨(dx, a, b), rfl, ⟨h1, h2⟩, fun _ _ ⟨e1, e2⟩ => by rw [e1, e2]; exact q⟩
theorem fe_make {aL dx : Addr} {ls ns : List Str} {zs : List D} {d : D} {Q : D → List D → Prop} (h1 : zs.length < 300) (h2 : d.sh = true) (q : Q (.int (zs.length : Nat)) [selfD aL dx ls ns (zs ++ [d])]) : (F_make aL).f [selfD aL dx ls ns zs, d] Q := ⟨(dx, ls, ns, zs, d), rfl, ⟨h1, h2⟩, fun _ _ ⟨e1, e2⟩ => by rw [e1, e2]; exact q⟩
theorem fe_lbody {aL dx : Addr} {f j : Nat} {sec : Bool} {x : LA} {b : List St} {Q : D → List D → Prop} (h1 : okB x.letters x.names j sec b) (h2 : fuel sec j ≤ f ∧ j ≤ 7) (h3 : x.fit) (h4 : (x.body b).2.length ≤ 300) (h5 : x.cs.length + f ≤ 100) (q : Q (.int ((x.body b).1 : Nat)) [selfD aL dx x.letters x.names (x.body b).2]) : (F_lbodyJ aL f).f [selfD aL dx x.letters x.names x.found, bodyD b, .int (x.told : Nat), .tup (x.cs.map bodyD)] Q := ⟨(dx, x, b), rfl, ⟨⟨j, sec, h1, h2⟩, h3, h4, h5⟩, fun _ _ ⟨e1, e2⟩ => by rw [e1, e2]; exact q⟩
theorem fe_lstmt {aL dx : Addr} {f j : Nat} {sec : Bool} {x : LA} {s : St} {Q : D → List D → Prop} (h1 : s.ok x.letters x.names j sec) (h2 : fuel sec j ≤ f ∧ j ≤ 7) (h3 : x.fit) (h4 : (x.st s).2.length ≤ 300) (h5 : x.cs.length + f ≤ 100) (q : Q (.int ((x.st s).1 : Nat)) [selfD aL dx x.letters x.names (x.st s).2]) : (F_lstmtJ aL f).f [selfD aL dx x.letters x.names x.found, s.d, .int (x.told : Nat), .tup (x.cs.map bodyD)] Q := ⟨(dx, x, s), rfl, ⟨⟨j, sec, h1, h2⟩, h3, h4, h5⟩, fun _ _ ⟨e1, e2⟩ => by rw [e1, e2]; exact q⟩
theorem pf_init {aL : Addr} : Pf (F_init aL) (x_Layer___init__ aL) [0] (3 - 3) := pf_ex fun ⟨dx, a, b⟩ h R N ok N' => by
  unfold x_Layer___init__
  simp only [List.map_cons, List.map_nil, List.cons_append, List.nil_append, List.append_nil, List.replicate_succ, List.replicate_zero, Nat.reduceSub]
  obtain ⟨h1, h2⟩ := h
  dsimp only at *
  (repeat' (first | walk_at "bvs"))
  refine ⟨_, _, .z, _, rfl, .z, ?_⟩
  (repeat' (first | walk_at "bvs"))
  refine ⟨_, _, .z, _, rfl, .z, ?_⟩
  (repeat' (first | walk_at "bvs"))
  refine ⟨_, _, .z, _, rfl, .z, ?_⟩
  exact N' _ [_] rfl ⟨rfl, rfl⟩
theorem pf_make {aL : Addr} : Pf (F_make aL) (x_Layer_make aL) [0] (2 - 2) := pf_ex fun ⟨dx, ls, ns, zs, d⟩ h R N ok _ => by
  unfold x_Layer_make selfD
  simp only [List.map_cons, List.map_nil, List.cons_append, List.nil_append, List.append_nil, List.replicate_succ, List.replicate_zero, Nat.reduceSub]
  obtain ⟨h1, h2⟩ := h
  dsimp only at *
  (repeat' (first | walk_at "bvs"))
  have e3 : decide (((zs.length : Nat) : Int) = 300) = false := decide_eq_false (by omega)
  refine ⟨fun hb => ?_, fun hb => ?_⟩
  · rw [e3] at hb; cases hb
  have hz : zs.length < PySem.sizeLine := by rw [sizeLine_eq]; omega
  (repeat' (first | walk_at "bvs"))
  have e : (((zs ++ [d]).length : Nat) : Int) - 1 = (zs.length : Nat) := by rw [List.length_append, List.length_singleton]; omega
  rw [e]
  exact ok _ _ [_] rfl ⟨rfl, rfl⟩
theorem szB_app {W : Nat} : ∀ {b c : List St}, szB W (b ++ c) = szB W b + szB W c
  | [], c => by simp only [List.nil_append, szB]; omega
  | s :: b, c => by simp only [List.cons_append, szB, szB_app (b := b) (c := c)]; omega
theorem szB_drop {W k : Nat} {b : List St} : szB W (b.drop k) ≤ szB W b := by
  have h : szB W (b.take k ++ b.drop k) = szB W b := by rw [List.take_append_drop]
  rw [szB_app] at h
  omega
theorem LA.W (x : LA) (h : x.fit) : ∃ W, SecW (secs x.L x.cs) W := secs_W _ x.cs rfl
/-- the row that is laid behind a part of a body -/
theorem rev_at {b : List St} {k : Nat} {z : D} (h : (b.map St.d).reverse[k]? = some z) : ∃ s, z = s.d ∧ s ∈ b ∧ b.drop (b.length - (k + 1)) = s :: b.drop (b.length - k) ∧ k < b.length := by
  have hk : k < b.length := by
    have := (List.getElem?_eq_some_iff.mp h).1
    rwa [List.length_reverse, List.length_map] at this
  have hi : b.length - (k + 1) < b.length := by omega
  rw [List.getElem?_reverse (by rw [List.length_map]; exact hk), List.length_map, List.getElem?_map, show b.length - 1 - k = b.length - (k + 1) from by omega, List.getElem?_eq_getElem hi] at h
  cases h
  refine ⟨b[b.length - (k + 1)], rfl, List.getElem_mem hi, ?_, hk⟩
  rw [List.drop_eq_getElem_cons hi, show b.length - (k + 1) + 1 = b.length - k from by omega]
theorem pf_lbody {aL : Addr} {f : Nat} : Pf (F_lbodyJ aL f) (x_Layer_body aL f) [0] (6 - 4) := pf_ex fun ⟨dx, x, b⟩ h R N ok _ => by
  unfold x_Layer_body
  simp only [List.map_cons, List.map_nil, List.cons_append, List.nil_append, List.append_nil, List.replicate_succ, List.replicate_zero, Nat.reduceSub]
  obtain ⟨⟨j, sec, h1, h2⟩, h3, h4, h6⟩ := h
  dsimp only at *
  obtain ⟨W, hW⟩ := x.W h3
  have hcs : (D.tup (x.cs.map bodyD)).sh = true := rfl
  have hb : bodyD b = .tup (b.map St.d) := rfl
  have hbs : (b.map St.d).all D.sh = true := by
    rw [List.all_map]
    exact List.all_eq_true.mpr fun s _ => by cases s <;> simp only [Function.comp, St.d] <;> rfl
  have hsz : ∀ c : List St, (x.body c).2.length = x.found.length + szB W c ∧ (x.body c).2.all D.sh = true := fun c => layB_sz x.L c x.told _ W x.found hW h3.2
  rw [hb]
  (repeat' (first | walk_at "bvs"))
  refine ⟨_, rfl, hbs, fun k ρ => ∃ s, ρ = [some (selfD aL dx x.letters x.names (x.body (b.drop (b.length - k))).2), some (.tup (b.map St.d)), some (.int (x.told : Nat)), some (.tup (x.cs.map bodyD)), some (.int ((x.body (b.drop (b.length - k))).1 : Nat)), s], ⟨none, by rw [Nat.sub_zero, List.drop_length]; rfl⟩, ?_, ?_⟩
  · rintro k z _ hz ⟨s5, rfl⟩
    obtain ⟨s, rfl, hs, hd, hk⟩ := rev_at hz
    have hsd : s.d.sh = true := by cases s <;> simp only [St.d] <;> rfl
    have hok := okB_mem h1 s hs
    let y : LA := { x with found := (x.body (b.drop (b.length - k))).2, told := (x.body (b.drop (b.length - k))).1 }
    have hy : y.fit := ⟨h3.1, (hsz _).2⟩
    have e : y.st s = x.body (b.drop (b.length - (k + 1))) := by
      rw [hd]
      unfold LA.body
      simp only [layB]
      rfl
    have h5 : (y.st s).2.length ≤ 300 := by
      rw [e, (hsz _).1]
      have := szB_drop (W := W) (k := b.length - (k + 1)) (b := b)
      have := (hsz b).1
      omega
    (repeat' (first | walk_at "bvs"))
    refine fe_lstmt (x := y) hok h2 hy h5 h6 ?_
    rw [e]
    (repeat' (first | walk_at "bvs"))
    exact ⟨_, rfl⟩
  · rintro _ ⟨s5, rfl⟩
    rw [List.length_reverse, List.length_map, Nat.sub_self, List.drop_zero]
    (repeat' (first | walk_at "bvs"))
    exact ok _ _ [_] rfl ⟨rfl, rfl⟩
end K12

open PySem PySem.Spec PyProof.Rows L2 BV
namespace K12
open PySem PySem.Spec PyProof.Rows L2 BV
theorem layBs_app {L : Lt} {told : Nat} {secs : List Sec} : ∀ (bs cs : List (List St)) (found : List D), layBs L told secs found (bs ++ cs) = ((layBs L told secs found bs).1 ++ (layBs L told secs (layBs L told secs found bs).2 cs).1, (layBs L told secs (layBs L told secs found bs).2 cs).2)
  | [], cs, found => by simp only [List.nil_append, layBs]
  | b :: bs, cs, found => by
    simp only [List.cons_append, layBs]
    rw [layBs_app bs cs]
theorem layBs_take {L : Lt} {told : Nat} {secs : List Sec} {bs : List (List St)} {found : List D} {k : Nat} {b : List St} (h : bs[k]? = some b) : layBs L told secs found (bs.take (k + 1)) = ((layBs L told secs found (bs.take k)).1 ++ [(layB L told secs (layBs L told secs found (bs.take k)).2 b).1], (layB L told secs (layBs L told secs found (bs.take k)).2 b).2) := by
  rw [List.take_add_one, h, Option.toList_some, layBs_app]
  simp only [layBs]
theorem layBs_len {L : Lt} {told : Nat} {secs : List Sec} : ∀ (bs : List (List St)) (found : List D), (layBs L told secs found bs).1.length = bs.length
  | [], found => by simp only [layBs, List.length_nil]
  | b :: bs, found => by simp only [layBs, List.length_cons, layBs_len bs]
theorem szBs_app {W : Nat} : ∀ {b c : List (List St)}, szBs W (b ++ c) = szBs W b + szBs W c
  | [], c => by simp only [List.nil_append, szBs]; omega
  | s :: b, c => by simp only [List.cons_append, szBs, szBs_app (b := b) (c := c)]; omega
theorem szBs_take {W k : Nat} {b : List (List St)} : szBs W (b.take k) ≤ szBs W b := by
  have h : szBs W (b.take k ++ b.drop k) = szBs W b := by rw [List.take_append_drop]
  rw [szBs_app] at h
  omega
theorem ixN_nat {n k : Nat} (h : k < n) : ixN n ((k : Nat) : Int) = some k := by
  unfold ixN
  rw [if_pos (Int.natCast_nonneg _), if_pos (by omega)]
  exact congrArg some (Int.toNat_natCast k)
theorem sh_st (s : St) : s.d.sh = true := by cases s <;> simp only [St.d] <;> rfl
theorem mark_val {ls : List Str} {x : Str} (h : x ∈ ls) : D.val (keysS ls) (valsS ls fun i => .int ((i : Int) + 1)) (.inr x) = some (.int ((ls.idxOf x : Nat) + 1)) := val_keysS h
theorem num_val {ls : List Str} {x : Str} (h : x ∈ ls) : D.val (keysS ls) (valsS ls fun i => .int (i : Nat)) (.inr x) = some (.int (ls.idxOf x : Nat)) := val_keysS h
theorem valsS_len {ls : List Str} {g : Nat → D} : (valsS ls g).length = ls.length := by unfold valsS; rw [List.length_map, List.length_range]
theorem marks_at {ls : List Str} {x : Str} (h : x ∈ ls) : dixD (marksD ls) (.str x) = some (.int ((ls.idxOf x : Nat) + 1)) := by
  show (D.val (keysS ls) (valsS ls fun i => .int ((i : Int) + 1)) (.inr x)).bind _ = _
  rw [mark_val h]
  rfl
theorem nums_at {ls : List Str} {x : Str} (h : x ∈ ls) : dixD (numsD ls) (.str x) = some (.int (ls.idxOf x : Nat)) := by
  show (D.val (keysS ls) (valsS ls fun i => .int (i : Nat)) (.inr x)).bind _ = _
  rw [num_val h]
  rfl
theorem lstmt_act {aL : Addr} {f : Nat} {dx : Addr} {x : LA} {un : Bool} {y : Str} {R : D → Ev → Prop} {N : Ev → Prop} (hy : y ∈ x.letters) (h4 : (x.st (.act un y)).2.length ≤ 300) (h6 : x.cs.length + (f + 1) ≤ 100) (ok : ∀ r ρ o, outsOf [0] ρ = o.map some → r = .int ((x.st (.act un y)).1 : Nat) ∧ o = [selfD aL dx x.letters x.names (x.st (.act un y)).2] → R r ρ) :
    (x_Layer_statement aL f).f ⟨N, R, fun _ => False, fun _ => False⟩ ([selfD aL dx x.letters x.names x.found, (St.act un y).d, .int (x.told : Nat), .tup (x.cs.map bodyD)].map some ++ List.replicate (12 - 4) none) := by
  unfold x_Layer_statement
  simp only [List.map_cons, List.map_nil, List.cons_append, List.nil_append, List.append_nil, List.replicate_succ, List.replicate_zero, Nat.reduceSub]
  have e0 : x.st (.act un y) = (x.found.length, x.found ++ [.tup [.str "letter", .int (if un then -x.L.mark y else x.L.mark y), .int x.told]]) := by unfold LA.st; simp only [St.lay]
  rw [e0] at h4 ok
  have hl : x.found.length < 300 := by rw [List.length_append, List.length_singleton] at h4; omega
  have hm := marks_at hy
  have hms : (marksD x.letters).sh = true := rfl
  rw [d_act]
  cases un with
  | false =>
    (repeat' (first | ((with_reducible apply i_some); ((with_reducible exact hm))) | ((with_reducible apply fe_make); (exact hl); (rfl)) | walk_at "bvs"))
    exact ok _ _ [_] rfl ⟨rfl, rfl⟩
  | true =>
    (repeat' (first | ((with_reducible apply i_some); ((with_reducible exact hm))) | ((with_reducible apply fe_make); (exact hl); (rfl)) | walk_at "bvs"))
    exact ok _ _ [_] rfl ⟨rfl, rfl⟩
theorem lstmt_call {aL : Addr} {f : Nat} {dx : Addr} {x : LA} {y : Str} {R : D → Ev → Prop} {N : Ev → Prop} (hy : y ∈ x.names) (h4 : (x.st (.call y)).2.length ≤ 300) (h6 : x.cs.length + (f + 1) ≤ 100) (ok : ∀ r ρ o, outsOf [0] ρ = o.map some → r = .int ((x.st (.call y)).1 : Nat) ∧ o = [selfD aL dx x.letters x.names (x.st (.call y)).2] → R r ρ) :
    (x_Layer_statement aL f).f ⟨N, R, fun _ => False, fun _ => False⟩ ([selfD aL dx x.letters x.names x.found, (St.call y).d, .int (x.told : Nat), .tup (x.cs.map bodyD)].map some ++ List.replicate (12 - 4) none) := by
  unfold x_Layer_statement
  simp only [List.map_cons, List.map_nil, List.cons_append, List.nil_append, List.append_nil, List.replicate_succ, List.replicate_zero, Nat.reduceSub]
  have e0 : x.st (.call y) = (x.found.length, x.found ++ [.tup [.str "call", .int (x.L.num y), .int x.told]]) := by unfold LA.st; simp only [St.lay]
  rw [e0] at h4 ok
  have hl : x.found.length < 300 := by rw [List.length_append, List.length_singleton] at h4; omega
  have hm := nums_at hy
  have hms : (numsD x.names).sh = true := rfl
  rw [d_call]
  (repeat' (first | ((with_reducible apply i_some); ((with_reducible exact hm))) | ((with_reducible apply fe_make); (exact hl); (rfl)) | walk_at "bvs"))
  exact ok _ _ [_] rfl ⟨rfl, rfl⟩
/-- the second bodies, one behind the other -/
def retK (x : LA) (k : Nat) : Nat × List D := (secs x.L (x.cs.take k)).foldl (fun r f => f r.2 r.1) (0, x.found)
theorem retK_succ {x : LA} {k : Nat} {c : List St} (h : x.cs[k]? = some c) : retK x (k + 1) = ({ x with found := (retK x k).2, told := (retK x k).1, cs := [] } : LA).body c := by
  unfold retK
  rw [List.take_add_one, h, Option.toList_some, secs_snoc, List.foldl_append, List.foldl_cons, List.foldl_nil]
  rfl
theorem retK_sz {x : LA} (h : x.fit) {W : Nat} (hW : SecW (secs x.L x.cs) W) (k : Nat) : (retK x k).2.length ≤ x.found.length + W ∧ (retK x k).2.all D.sh = true := by
  have gen : ∀ (n : Nat) (cs : List (List St)), cs.length = n → ∀ k, ∀ W, SecW (secs x.L cs) W → ((secs x.L (cs.take k)).foldl (fun r f => f r.2 r.1) (0, x.found)).2.length ≤ x.found.length + W ∧ ((secs x.L (cs.take k)).foldl (fun r f => f r.2 r.1) (0, x.found)).2.all D.sh = true := by
    intro n
    induction n with
    | zero =>
      intro cs hn k W hW
      cases List.eq_nil_of_length_eq_zero hn
      rw [List.take_nil]
      exact ⟨Nat.le_add_right _ _, h.2⟩
    | succ n ih =>
      intro cs hn k W hW
      by_cases hk : cs.length ≤ k
      · rw [List.take_of_length_le hk]
        obtain ⟨h1, h2⟩ := foldl_sec hW (0, x.found) h.2
        exact ⟨Nat.le_of_eq h1, h2⟩
      · have hne : cs ≠ [] := fun e => by rw [e] at hn; cases hn
        have e : cs = cs.dropLast ++ [cs.getLast hne] := (List.dropLast_concat_getLast hne).symm
        generalize cs.getLast hne = c at e
        generalize cs.dropLast = cs0 at e
        subst e
        rw [secs_snoc] at hW
        have hl0 : cs0.length = n := by rw [List.length_append, List.length_singleton] at hn; omega
        rw [List.length_append, List.length_singleton] at hk
        rw [List.take_append_of_le_length (by omega)]
        generalize hfs : secs x.L cs0 ++ [fun found told => layB x.L told [] found c] = fs at hW
        cases hW with
        | nil => exact absurd hfs (by simp)
        | @snoc fs0 W0 f0 n0 h0 g0 =>
          have e1 := List.append_inj' hfs rfl
          obtain ⟨q1, q2⟩ := ih cs0 hl0 k W0 (by rw [e1.1]; exact h0)
          exact ⟨by omega, q2⟩
  exact gen _ x.cs rfl k W hW
theorem cs_at {cs : List (List St)} {k : Nat} {z : D} (h : (cs.map bodyD)[k]? = some z) : ∃ c, cs[k]? = some c ∧ z = bodyD c := bd_at h
theorem lstmt_ret {aL : Addr} {f : Nat} {dx : Addr} {x : LA} {R : D → Ev → Prop} {N : Ev → Prop} (hf : 8 ≤ f) (h3 : x.fit) (h4 : (x.st .ret).2.length ≤ 300) (h6 : x.cs.length + (f + 1) ≤ 100) (ok : ∀ r ρ o, outsOf [0] ρ = o.map some → r = .int ((x.st .ret).1 : Nat) ∧ o = [selfD aL dx x.letters x.names (x.st .ret).2] → R r ρ) :
    (x_Layer_statement aL f).f ⟨N, R, fun _ => False, fun _ => False⟩ ([selfD aL dx x.letters x.names x.found, St.ret.d, .int (x.told : Nat), .tup (x.cs.map bodyD)].map some ++ List.replicate (12 - 4) none) := by
  unfold x_Layer_statement
  simp only [List.map_cons, List.map_nil, List.cons_append, List.nil_append, List.append_nil, List.replicate_succ, List.replicate_zero, Nat.reduceSub]
  have e0 : x.st .ret = retK x x.cs.length := by unfold LA.st retK; rw [List.take_length]; simp only [St.lay]
  rw [e0] at h4 ok
  obtain ⟨W, hW⟩ := x.W h3
  have hWl : x.found.length + W ≤ 300 := by
    have h5 := (foldl_sec hW (0, x.found) h3.2).1
    have : (retK x x.cs.length).2.length = x.found.length + W := by unfold retK; rw [List.take_length]; exact h5
    omega
  have hcs : (D.tup (x.cs.map bodyD)).sh = true := rfl
  have hcss : (x.cs.map bodyD).all D.sh = true := by
    rw [List.all_map]
    exact List.all_eq_true.mpr fun c _ => rfl
  rw [d_ret]
  (repeat' (first | walk_at "bvs"))
  refine ⟨fun k ρ => ∃ s9, ρ = [some (selfD aL dx x.letters x.names (retK x k).2), some (.tup [.str "return"]), some (.int (x.told : Nat)), some (.tup (x.cs.map bodyD)), some (.str "return"), none, none, none, some (.int ((retK x k).1 : Nat)), s9, none, none], ⟨none, rfl⟩, ?_, ?_⟩
  · rintro k z _ hz ⟨s9, rfl⟩
    obtain ⟨c, hc, rfl⟩ := cs_at hz
    obtain ⟨i, hi, hok⟩ := h3.1 c (List.mem_of_getElem? hc)
    have hcd : (bodyD c).sh = true := rfl
    have e := retK_succ hc
    obtain ⟨q1, q2⟩ := retK_sz h3 hW k
    obtain ⟨q3, q4⟩ := retK_sz h3 hW (k + 1)
    let y : LA := { x with found := (retK x k).2, told := (retK x k).1, cs := [] }
    have hy : y.fit := ⟨(fun c h => by cases h), q2⟩
    have hlen : (y.body c).2.length ≤ 300 := by rw [← e]; omega
    have hfu : fuel true i ≤ f := by show i + 1 ≤ f; omega
    (repeat' (first | walk_at "bvs"))
    refine fe_lbody (x := y) hok ⟨hfu, hi⟩ hy hlen (by show 0 + f ≤ 100; omega) ?_
    rw [← e]
    (repeat' (first | walk_at "bvs"))
    exact ⟨_, rfl⟩
  · rintro _ ⟨s9, rfl⟩
    rw [List.length_map]
    (repeat' (first | walk_at "bvs"))
    exact ok _ _ [_] rfl ⟨rfl, rfl⟩
theorem lstmt_loop {aL : Addr} {f : Nat} {dx : Addr} {x : LA} {b : List St} {j : Nat} {sec : Bool} {R : D → Ev → Prop} {N : Ev → Prop} (hok : okB x.letters x.names j sec b) (hf : fuel sec j ≤ f ∧ j ≤ 7) (h3 : x.fit) (h4 : (x.st (.loop b)).2.length ≤ 300) (h6 : x.cs.length + (f + 1) ≤ 100) (ok : ∀ r ρ o, outsOf [0] ρ = o.map some → r = .int ((x.st (.loop b)).1 : Nat) ∧ o = [selfD aL dx x.letters x.names (x.st (.loop b)).2] → R r ρ) :
    (x_Layer_statement aL f).f ⟨N, R, fun _ => False, fun _ => False⟩ ([selfD aL dx x.letters x.names x.found, (St.loop b).d, .int (x.told : Nat), .tup (x.cs.map bodyD)].map some ++ List.replicate (12 - 4) none) := by
  unfold x_Layer_statement
  simp only [List.map_cons, List.map_nil, List.cons_append, List.nil_append, List.append_nil, List.replicate_succ, List.replicate_zero, Nat.reduceSub]
  let y : LA := { x with found := x.found ++ [.non], told := x.found.length }
  have e0 : x.st (.loop b) = (x.found.length, (y.body b).2.set x.found.length (.tup [.str "fork", .tup [.int ((y.body b).1 : Nat), .int x.told]])) := by unfold LA.st; simp only [St.lay]; rfl
  rw [e0] at h4 ok
  obtain ⟨W, hW⟩ := x.W h3
  have hy : y.fit := ⟨h3.1, all_app h3.2 rfl⟩
  have hsz := layB_sz x.L b x.found.length _ W (x.found ++ [.non]) hW hy.2
  have hyl : (y.body b).2.length = x.found.length + 1 + szB W b := by
    have := hsz.1
    rw [List.length_append, List.length_singleton] at this
    exact this
  have hys : (y.body b).2.all D.sh = true := hsz.2
  rw [List.length_set] at h4
  have hl : x.found.length < 300 := by omega
  have hcs : (D.tup (x.cs.map bodyD)).sh = true := rfl
  have hbd : (bodyD b).sh = true := rfl
  have hd : (St.loop b).d = .tup [.str "loop", bodyD b] := d_loop
  rw [hd]
  (repeat' (first | ((with_reducible apply fe_make); (exact hl); (rfl)) | walk_at "bvs"))
  refine fe_lbody (x := y) hok hf hy h4 (by show x.cs.length + f ≤ 100; omega) ?_
  have hix : ixN (y.body b).2.length ((x.found.length : Nat) : Int) = some x.found.length := ixN_nat (by omega)
  (repeat' (first | ((with_reducible apply i_fset); (repeat (first | exact At.z | apply At.s)); (rfl); (rfl); (repeat (first | exact At.z | apply At.s)); (rfl); (exact hix); ((repeat (first | exact Put.z | apply Put.s)))) | walk_at "bvs"))
  exact ok _ _ [_] rfl ⟨rfl, rfl⟩
theorem lstmt_choose {aL : Addr} {f : Nat} {dx : Addr} {x : LA} {bs : List (List St)} {j : Nat} {sec : Bool} {R : D → Ev → Prop} {N : Ev → Prop} (hok : okBs x.letters x.names j sec bs) (hb6 : bs.length ≤ 6) (hf : fuel sec j ≤ f ∧ j ≤ 7) (h3 : x.fit) (h4 : (x.st (.choose bs)).2.length ≤ 300) (h6 : x.cs.length + (f + 1) ≤ 100) (ok : ∀ r ρ o, outsOf [0] ρ = o.map some → r = .int ((x.st (.choose bs)).1 : Nat) ∧ o = [selfD aL dx x.letters x.names (x.st (.choose bs)).2] → R r ρ) :
    (x_Layer_statement aL f).f ⟨N, R, fun _ => False, fun _ => False⟩ ([selfD aL dx x.letters x.names x.found, (St.choose bs).d, .int (x.told : Nat), .tup (x.cs.map bodyD)].map some ++ List.replicate (12 - 4) none) := by
  unfold x_Layer_statement
  simp only [List.map_cons, List.map_nil, List.cons_append, List.nil_append, List.append_nil, List.replicate_succ, List.replicate_zero, Nat.reduceSub]
  let r : Nat → List Nat × List D := fun k => layBs x.L x.told (secs x.L x.cs) x.found (bs.take k)
  have er : ∀ k, r k = layBs x.L x.told (secs x.L x.cs) x.found (bs.take k) := fun _ => rfl
  have e0 : x.st (.choose bs) = ((r bs.length).2.length, (r bs.length).2 ++ [.tup [.str "fork", .tup ((r bs.length).1.map fun n => .int (n : Nat))]]) := by
    rw [er, List.take_length]
    unfold LA.st
    simp only [St.lay]
  rw [e0] at h4 ok
  obtain ⟨W, hW⟩ := x.W h3
  have hsz : ∀ k, (r k).2.length = x.found.length + szBs W (bs.take k) ∧ (r k).2.all D.sh = true := fun k => layBs_sz x.L (bs.take k) x.told _ W x.found hW h3.2
  have hmono : ∀ k, (r k).2.length ≤ (r bs.length).2.length := fun k => by
    rw [(hsz k).1, (hsz bs.length).1, List.take_length]
    have := szBs_take (W := W) (k := k) (b := bs)
    omega
  rw [List.length_append, List.length_singleton] at h4
  have hl : (r bs.length).2.length < 300 := by omega
  have hcs : (D.tup (x.cs.map bodyD)).sh = true := rfl
  have hbss : (bs.map bodyD).all D.sh = true := by
    rw [List.all_map]
    exact List.all_eq_true.mpr fun c _ => rfl
  have hd : (St.choose bs).d = .tup [.str "choose", .tup (bs.map bodyD)] := d_choose
  rw [hd]
  (repeat' (first | walk_at "bvs"))
  refine ⟨fun k acc ρ => acc = (r k).1.map (fun n => D.int (n : Nat)) ∧ ρ = [some (selfD aL dx x.letters x.names (r k).2), some (.tup [.str "choose", .tup (bs.map bodyD)]), some (.int (x.told : Nat)), some (.tup (x.cs.map bodyD)), some (.str "choose"), none, none, none, none, none, none, none], ⟨by simp only [er, List.take_zero, layBs]; rfl, by simp only [er, List.take_zero, layBs]; rfl⟩, ?_, ?_⟩
  · rintro k z acc _ hz ⟨rfl, rfl⟩
    obtain ⟨c, hc, rfl⟩ := cs_at hz
    have hcd : (bodyD c).sh = true := rfl
    have hkl : k < bs.length := (List.getElem?_eq_some_iff.mp hc).1
    have e := layBs_take (L := x.L) (told := x.told) (secs := secs x.L x.cs) (found := x.found) hc
    rw [← er, ← er] at e
    let y : LA := { x with found := (r k).2 }
    have hy : y.fit := ⟨h3.1, (hsz k).2⟩
    have e2 : (r (k + 1)).2 = (y.body c).2 := by rw [e]; rfl
    have e1 : (r (k + 1)).1 = (r k).1 ++ [(y.body c).1] := by rw [e]; rfl
    have hlen : (y.body c).2.length ≤ 300 := by rw [← e2]; have := hmono (k + 1); omega
    have hokc := okBs_mem hok c (List.mem_of_getElem? hc)
    (repeat' (first | walk_at "bvs"))
    refine fe_lbody (x := y) hokc hf hy hlen (by show x.cs.length + f ≤ 100; omega) ?_
    have hla : ((r k).1.map fun n => D.int (n : Nat)).length < PySem.sizeLine := by
      rw [List.length_map, er, layBs_len, List.length_take, sizeLine_eq]
      omega
    (repeat' (first | ((with_reducible apply i_lt); ((exact hla))) | walk_at "bvs"))
    exact ⟨by rw [e1, List.map_append]; rfl, by rw [e2]; rfl⟩
  · rintro acc _ ⟨rfl, rfl⟩
    rw [List.length_map]
    have hsh : ((r bs.length).1.map fun n => D.int (n : Nat)).all D.sh = true := by simp [D.sh]
    (repeat' (first | ((with_reducible apply fe_make); (exact hl); (rfl)) | walk_at "bvs"))
    exact ok _ _ [_] rfl ⟨rfl, rfl⟩
theorem lstmt_ens {aL : Addr} {f : Nat} {dx : Addr} {x : LA} {b c : List St} {j : Nat} {sec : Bool} {R : D → Ev → Prop} {N : Ev → Prop} (hok : okB x.letters x.names j sec b) (hok2 : okB x.letters x.names j true c) (hf : fuel sec j ≤ f ∧ j ≤ 7) (hf2 : fuel true j ≤ f ∧ j ≤ 7) (h3 : x.fit) (h4 : (x.st (.ens b c)).2.length ≤ 300) (h6 : x.cs.length + (f + 1) ≤ 100) (ok : ∀ r ρ o, outsOf [0] ρ = o.map some → r = .int ((x.st (.ens b c)).1 : Nat) ∧ o = [selfD aL dx x.letters x.names (x.st (.ens b c)).2] → R r ρ) :
    (x_Layer_statement aL f).f ⟨N, R, fun _ => False, fun _ => False⟩ ([selfD aL dx x.letters x.names x.found, (St.ens b c).d, .int (x.told : Nat), .tup (x.cs.map bodyD)].map some ++ List.replicate (12 - 4) none) := by
  unfold x_Layer_statement
  simp only [List.map_cons, List.map_nil, List.cons_append, List.nil_append, List.append_nil, List.replicate_succ, List.replicate_zero, Nat.reduceSub]
  let y : LA := { x with cs := [] }
  let z : LA := { x with found := (y.body c).2, told := (y.body c).1, cs := x.cs ++ [c] }
  have e0 : x.st (.ens b c) = z.body b := by
    unfold LA.st LA.body
    simp only [St.lay]
    show _ = layB x.L (y.body c).1 (secs x.L (x.cs ++ [c])) (y.body c).2 b
    rw [secs_snoc]
    rfl
  rw [e0] at h4 ok
  obtain ⟨W, hW⟩ := x.W h3
  have hy : y.fit := ⟨(fun c h => by cases h), h3.2⟩
  have hys := layB_sz x.L c x.told [] 0 x.found .nil h3.2
  have hz : z.fit := by
    refine ⟨fun d hd => ?_, hys.2⟩
    rcases List.mem_append.mp hd with hd | hd
    · exact h3.1 d hd
    · cases List.mem_singleton.mp hd
      exact ⟨j, hf.2, hok2⟩
  obtain ⟨V, hV⟩ := z.W hz
  have hzs := layB_sz x.L b z.told _ V z.found hV hz.2
  have hyl : (y.body c).2.length ≤ 300 := by
    have h5 : (z.body b).2.length = (y.body c).2.length + szB V b := hzs.1
    omega
  have hcs : (D.tup (x.cs.map bodyD)).sh = true := rfl
  have hbd : (bodyD b).sh = true := rfl
  have hcd : (bodyD c).sh = true := rfl
  have hadd : addD (.tup (x.cs.map bodyD)) (.tup [bodyD c]) = some (.tup ((x.cs ++ [c]).map bodyD)) := by
    have e : (x.cs ++ [c]).map bodyD = x.cs.map bodyD ++ [bodyD c] := by rw [List.map_append]; rfl
    rw [e]
    exact addM (by rw [List.length_map, List.length_singleton, sizeLine_eq]; omega)
  have hd : (St.ens b c).d = .tup [.str "ensure", bodyD b, bodyD c] := d_ens
  rw [hd]
  (repeat' (first | walk_at "bvs"))
  refine fe_lbody (x := y) hok2 hf2 hy hyl (by show 0 + f ≤ 100; omega) ?_
  (repeat' (first | ((with_reducible apply i_some); ((with_reducible exact hadd))) | walk_at "bvs"))
  refine fe_lbody (x := z) hok hf hz h4 (by show (x.cs ++ [c]).length + f ≤ 100; rw [List.length_append, List.length_singleton]; omega) ?_
  (repeat' (first | walk_at "bvs"))
  exact ok _ _ [_] rfl ⟨rfl, rfl⟩
theorem fuel_dn {sec : Bool} {j f : Nat} (h : fuel sec (j + 1) ≤ f + 1 ∧ j + 1 ≤ 7) : fuel sec j ≤ f ∧ j ≤ 7 := by
  cases sec <;> simp only [fuel] at h ⊢ <;> omega
theorem fuel_sec {sec : Bool} {j f : Nat} (h : fuel sec (j + 1) ≤ f + 1 ∧ j + 1 ≤ 7) : fuel true j ≤ f ∧ j ≤ 7 := by
  cases sec <;> simp only [fuel] at h ⊢ <;> omega
theorem pf_lstmt {aL : Addr} {f : Nat} : Pf (F_lstmtJ aL (f + 1)) (x_Layer_statement aL f) [0] (12 - 4) := pf_ex fun ⟨dx, x, s⟩ h R N ok _ => by
  obtain ⟨⟨j, sec, h1, h2⟩, h3, h4, h6⟩ := h
  dsimp only at h1 h2 h3 h4 h6 ok ⊢
  cases s with
  | act un y => exact lstmt_act (by cases j <;> (simp only [St.ok] at h1; exact h1)) h4 h6 ok
  | call y => exact lstmt_call (by cases j <;> (simp only [St.ok] at h1; exact h1)) h4 h6 ok
  | ret =>
    have hs : sec = false := by cases j <;> (simp only [St.ok] at h1; exact h1)
    subst hs
    have h2' : j + 9 ≤ f + 1 := h2.1
    exact lstmt_ret (by omega) h3 h4 h6 ok
  | loop b =>
    cases j with
    | zero => simp only [St.ok] at h1
    | succ j =>
      simp only [St.ok] at h1
      exact lstmt_loop h1 (fuel_dn h2) h3 h4 h6 ok
  | choose bs =>
    cases j with
    | zero => simp only [St.ok] at h1
    | succ j =>
      simp only [St.ok] at h1
      exact lstmt_choose h1.2.2 h1.2.1 (fuel_dn h2) h3 h4 h6 ok
  | ens b c =>
    cases j with
    | zero => simp only [St.ok] at h1
    | succ j =>
      simp only [St.ok] at h1
      exact lstmt_ens h1.1 h1.2 (fuel_dn h2) (fuel_sec h2) h3 h4 h6 ok
end K12

open PySem PySem.Spec PyProof.Rows L2 BV
namespace BV
theorem i_dc {ρ : Ev} {Q : D → Ev → Prop} {I : XI} {U : XG} {W : XT} {A T : XE} {us : List Nat} (q : I.f ρ fun zs ρ1 => ∃ J : Nat → List L2.Key → List D → Ev → Prop, J 0 [] [] (wipeD ρ1 us) ∧
    (∀ k z ks xs ρ2, zs[k]? = some z → ks.length = xs.length → J k ks xs ρ2 → U.f z ρ2 fun ρ3 => W.f ρ3 fun b ρ4 => (b = true → A.f ρ4 fun y ρ5 => T.f ρ5 fun d ρ6 => ∃ key, y.key = some key ∧ hasK ks key = false ∧ ks.length < PySem.sizeLine ∧ J (k + 1) (ks ++ [key]) (xs ++ [d]) (wipeD ρ6 us)) ∧ (b = false → J (k + 1) ks xs (wipeD ρ4 us))) ∧
    ∀ ks xs ρ', ks.length = xs.length → J zs.length ks xs ρ' → Q (.ob (.dic ks) xs) (backD (heldD ρ1 us) ρ')) : (xDc I U W A T us).f ρ Q := q
end BV
namespace K12
open PySem PySem.Spec PyProof.Rows L2 BV
theorem i_newK {ks : List Key} {key : Key} {P : Prop} (h : hasK ks key = false) (hl : ks.length < PySem.sizeLine) (q : P) : hasK ks key = false ∧ ks.length < PySem.sizeLine ∧ P := ⟨h, hl, q⟩
theorem i_enum1 {d : D} {zs : List D} {P : List D → Prop} (h : d.seq = some zs) (hs : zs.all D.sh = true) (q : P zs) : ∃ d' zs', [d] = [d'] ∧ d'.seq = some zs' ∧ zs'.all D.sh = true ∧ P zs' := ⟨d, zs, rfl, h, hs, q⟩
theorem has_new {ls : List Str} {k : Nat} {x : Str} (hn : ls.Nodup) (h : ls[k]? = some x) : hasK (keysS (ls.take k)) (.inr x) = false := by
  cases e : hasK (keysS (ls.take k)) (.inr x) with
  | false => rfl
  | true =>
    obtain ⟨y, hy, e2⟩ := List.mem_map.mp (hasK_mem.mp e)
    cases e2
    obtain ⟨i, hi⟩ := List.getElem?_of_mem hy
    have hik : i < k := by
      have := (List.getElem?_eq_some_iff.mp hi).1
      rw [List.length_take] at this
      omega
    rw [List.getElem?_take_of_lt hik] at hi
    have hkl := (List.getElem?_eq_some_iff.mp h).1
    have hil := (List.getElem?_eq_some_iff.mp hi).1
    have := List.pairwise_iff_getElem.mp hn i k hil hkl hik
    exact absurd (by rw [(List.getElem?_eq_some_iff.mp h).2, (List.getElem?_eq_some_iff.mp hi).2]) this
theorem valsS_snoc {ls : List Str} {x : Str} {g : Nat → D} : valsS (ls ++ [x]) g = valsS ls g ++ [g ls.length] := by
  unfold valsS
  rw [List.length_append, List.length_singleton, List.range_succ, List.map_append]
  rfl
theorem keysS_snoc {ls : List Str} {x : Str} : keysS (ls ++ [x]) = keysS ls ++ [.inr x] := by
  unfold keysS
  rw [List.map_append]
  rfl
theorem keysS_take {ls : List Str} {k : Nat} {x : Str} (h : ls[k]? = some x) : keysS (ls.take (k + 1)) = keysS (ls.take k) ++ [.inr x] := by
  rw [List.take_add_one, h, Option.toList_some, keysS_snoc]
theorem valsS_take {ls : List Str} {k : Nat} {x : Str} {g : Nat → D} (h : ls[k]? = some x) : valsS (ls.take (k + 1)) g = valsS (ls.take k) g ++ [g k] := by
  rw [List.take_add_one, h, Option.toList_some, valsS_snoc, List.length_take, Nat.min_eq_left (Nat.le_of_lt (List.getElem?_eq_some_iff.mp h).1)]
theorem procs_sh (p : Prog) : (p.procs.map fun q => D.tup [.str q.1, bodyD q.2]).all D.sh = true := by simp [D.sh]
theorem placesD_eq (p : Prog) : placesD p = .tup (p.procs.map fun q => .tup [.int ((layB (ltOf p.letters p.names) 0 [] [.tup [.str "end"]] q.2).1 : Nat), .tup (layB (ltOf p.letters p.names) 0 [] [.tup [.str "end"]] q.2).2]) := rfl
theorem cnt_proc {p : Prog} {q : Str × List St} (h : p.WF) (hq : q ∈ p.procs) : cnt q.2 ≤ 30 := by
  have h1 : ∀ (l : List (Str × List St)), q ∈ l → cnt q.2 ≤ (l.map fun q => cnt q.2).sum := by
    intro l
    induction l with
    | nil => intro h; cases h
    | cons a l ih =>
      intro h
      rw [List.map_cons, List.sum_cons]
      rcases List.mem_cons.mp h with rfl | h
      · omega
      · have := ih h; omega
  have := h1 _ hq
  have := h.cn
  omega
def LA.top (p : Prog) : LA := ⟨p.letters, p.names, [.tup [.str "end"]], 0, []⟩
theorem LA.top_fit (p : Prog) : (LA.top p).fit := ⟨(fun c h => by cases h), rfl⟩
theorem LA.top_len {p : Prog} (h : p.WF) {q : Str × List St} (hq : q ∈ p.procs) : ((LA.top p).body q.2).2.length ≤ 300 := by
  have h1 : ((LA.top p).body q.2).2.length ≤ 256 := layB_le (h.ok q hq) (cnt_proc h hq)
  omega
theorem LA.top_sh {p : Prog} {q : Str × List St} : ((LA.top p).body q.2).2.all D.sh = true := (layB_sz _ q.2 0 [] 0 [.tup [.str "end"]] .nil rfl).2
theorem fe_laid {p : Prog} {Q : D → List D → Prop} (h : p.WF) (q : Q (placesD p) []) : F_laid.f [p.d] Q := ⟨p, rfl, h, fun _ _ ⟨e1, e2⟩ => by rw [e1, e2]; exact q⟩
theorem fe_places {p : Prog} {Q : D → List D → Prop} (h : p.WF) (q : Q (placesD p) []) : F_places.f [p.d] Q := ⟨p, rfl, h, fun _ _ ⟨e1, e2⟩ => by rw [e1, e2]; exact q⟩
theorem fe_lplaces {p : Prog} {Q : D → List D → Prop} (h : p.WF) (q : Q (placesD p) []) : F_lplaces.f [p.d] Q := ⟨p, rfl, h, fun _ _ ⟨e1, e2⟩ => by rw [e1, e2]; exact q⟩
theorem pf_places : Pf F_places x_places [] (1 - 1) := pf_ex fun p h R N ok _ => by
  unfold x_places
  simp only [List.map_cons, List.map_nil, List.cons_append, List.nil_append, List.append_nil, List.replicate_succ, List.replicate_zero, Nat.reduceSub]
  have hs : p.d.sh = true := rfl
  (repeat' (first | ((with_reducible apply fe_need_checked); (exact h)) | ((with_reducible apply fe_laid); (exact h)) | walk_at "bvs"))
  exact ok _ _ [] rfl ⟨rfl, rfl⟩
/-- the places of a procedure -/
def prD (p : Prog) (q : Str × List St) : D := .tup [.int (((LA.top p).body q.2).1 : Nat), .tup ((LA.top p).body q.2).2]
theorem placesD_pr (p : Prog) : placesD p = .tup (p.procs.map (prD p)) := rfl
theorem pr_at2 {p : Prog} {k : Nat} {z : D} (h : (p.procs.map fun q => D.tup [.str q.1, bodyD q.2])[k]? = some z) : ∃ q, p.procs[k]? = some q ∧ p.names[k]? = some q.1 ∧ z = .tup [.str q.1, bodyD q.2] := by
  obtain ⟨q, h1, h2⟩ := pr_at h
  exact ⟨q, h1, by unfold Prog.names; rw [List.getElem?_map, h1]; rfl, h2⟩
theorem pf_laid {aL : Addr} : Pf F_laid (x_laid aL) [] (11 - 1) := pf_ex fun p h R N ok _ => by
  unfold x_laid
  simp only [List.map_cons, List.map_nil, List.cons_append, List.nil_append, List.append_nil, List.replicate_succ, List.replicate_zero, Nat.reduceSub]
  have hd : p.d = .tup [p.lD, p.pD] := rfl
  rw [hd]
  have hl : p.lD.sh = true := rfl
  have hp : p.pD.sh = true := rfl
  have sl : (p.letters.map D.str).all D.sh = true := by simp [D.sh]
  have sp := procs_sh p
  have hls : p.lD.seq = some (p.letters.map D.str) := rfl
  have hps : p.pD.seq = some (p.procs.map fun q => D.tup [.str q.1, bodyD q.2]) := rfl
  have hln := h.ln
  have hpn := h.pn
  have l1 := h.l1
  have p1 := h.p1
  have nl : p.names.length = p.procs.length := by unfold Prog.names; rw [List.length_map]
  (repeat' (first | ((with_reducible apply i_dc)) | ((with_reducible apply i_enum1); (exact hls); (exact sl)) | walk_at "bvs"))
  refine ⟨fun k ks xs ρ => ks = keysS (p.letters.take k) ∧ xs = valsS (p.letters.take k) (fun i => .int ((i : Int) + 1)) ∧ ρ = [some (.tup [p.lD, p.pD]), some p.lD, some p.pD, none, none, none, none, none, none, none, none], ⟨rfl, rfl, rfl⟩, ?_, ?_⟩
  · rintro k z ks xs _ hz _ ⟨rfl, rfl, rfl⟩
    obtain ⟨d, hd, rfl⟩ := enumD_get hz
    rw [List.getElem?_map] at hd
    cases e : p.letters[k]? with
    | none => rw [e] at hd; cases hd
    | some x =>
      rw [e] at hd
      cases hd
      rw [Nat.zero_add]
      have hnew := has_new hln e
      have hlt : (keysS (p.letters.take k)).length < PySem.sizeLine := by
        unfold keysS
        rw [List.length_map, List.length_take, sizeLine_eq]
        omega
      (repeat' (first | ((with_reducible apply i_keyS)) | ((with_reducible apply i_newK); (exact hnew); (exact hlt)) | walk_at "bvs"))
      exact ⟨(keysS_take e).symm, (valsS_take (g := fun i => D.int ((i : Int) + 1)) e).symm, rfl⟩
  · rintro ks xs _ _ ⟨rfl, rfl, rfl⟩
    rw [enumD_length, List.length_map, List.take_length]
    have sv : (valsS p.letters fun i => D.int ((i : Int) + 1)).all D.sh = true := by unfold valsS; simp [D.sh]
    (repeat' (first | ((with_reducible apply i_dc)) | ((with_reducible apply i_frzD); (exact sv)) | ((with_reducible apply i_enum1); (exact hps); (exact sp)) | walk_at "bvs"))
    refine ⟨fun k ks xs ρ => ks = keysS (p.names.take k) ∧ xs = valsS (p.names.take k) (fun i => .int (i : Nat)) ∧ ρ = [some (.tup [p.lD, p.pD]), some p.lD, some p.pD, some (marksD p.letters), none, none, none, none, none, none, none], ⟨rfl, rfl, rfl⟩, ?_, ?_⟩
    · rintro k z ks xs _ hz _ ⟨rfl, rfl, rfl⟩
      obtain ⟨d, hd, rfl⟩ := enumD_get hz
      obtain ⟨q, _, e, rfl⟩ := pr_at2 hd
      rw [Nat.zero_add]
      have hnew := has_new hpn e
      have hlt : (keysS (p.names.take k)).length < PySem.sizeLine := by
        unfold keysS
        rw [List.length_map, List.length_take, sizeLine_eq]
        omega
      (repeat' (first | ((with_reducible apply i_keyS)) | ((with_reducible apply i_newK); (exact hnew); (exact hlt)) | walk_at "bvs"))
      exact ⟨(keysS_take e).symm, (valsS_take (g := fun i => D.int (i : Nat)) e).symm, rfl⟩
    · rintro ks xs _ _ ⟨rfl, rfl, rfl⟩
      rw [enumD_length, List.length_map, ← nl, List.take_length]
      have sv2 : (valsS p.names fun i => D.int (i : Nat)).all D.sh = true := by unfold valsS; simp [D.sh]
      have hm : (marksD p.letters).sh = true := rfl
      have hn : (numsD p.names).sh = true := rfl
      (repeat' (first | ((with_reducible apply i_frzD); (exact sv2)) | ((with_reducible apply i_some); (exact hps)) | walk_at "bvs"))
      refine ⟨fun k ρ => ∃ s6 s7 s8 s9, ρ = [some (.tup [p.lD, p.pD]), some p.lD, some p.pD, some (marksD p.letters), some (numsD p.names), some (.own ((p.procs.take k).map (prD p))), s6, s7, s8, s9, none], ⟨none, none, none, none, rfl⟩, ?_, ?_⟩
      · rintro k z _ hz ⟨s6, s7, s8, s9, rfl⟩
        obtain ⟨q, hq, rfl⟩ := pr_at hz
        have hqm := List.mem_of_getElem? hq
        have hbd : (bodyD q.2).sh = true := rfl
        have hok := h.ok q hqm
        have htf := LA.top_fit p
        have htl := LA.top_len h hqm
        have hts : ((LA.top p).body q.2).2.all D.sh = true := LA.top_sh
        (repeat' (first | walk_at "bvs"))
        intro dx
        refine fe_init hm hn ?_
        refine ⟨_, rfl, rfl, ?_⟩
        (repeat' (first | walk_at "bvs"))
        refine fe_lbody (x := LA.top p) hok (by decide) htf htl (by show 0 + 16 ≤ 100; decide) ?_
        have hla : ((p.procs.take k).map (prD p)).length < PySem.sizeLine := by
          rw [List.length_map, List.length_take, sizeLine_eq]
          omega
        (repeat' (first | ((with_reducible apply i_lt); ((exact hla))) | walk_at "bvs"))
        have e : (p.procs.take (k + 1)).map (prD p) = (p.procs.take k).map (prD p) ++ [prD p q] := by
          rw [List.take_add_one, hq, Option.toList_some, List.map_append]
          rfl
        dsimp only
        rw [e]
        exact ⟨_, _, _, _, rfl⟩
      · rintro _ ⟨s6, s7, s8, s9, rfl⟩
        rw [List.length_map, List.take_length]
        have hsp : (p.procs.map (prD p)).all D.sh = true := by unfold prD; simp [D.sh]
        (repeat' (first | walk_at "bvs"))
        exact ok _ _ [] rfl ⟨rfl, rfl⟩
end K12

open PySem PySem.Spec PyProof.Rows L2 BV
namespace K12
open PySem PySem.Spec PyProof.Rows L2 BV
theorem i_cell {ns : List Int} {a : Nat} {P : D → Prop} (h : decide (((a : Nat) : Int) < (((ns.map D.int).length : Nat) : Int)) = true) (q : ∀ c : Int, P (.int c)) : ∃ z, ixD (.lst (ns.map D.int)) (.int (a : Nat)) = some z ∧ P z := by
  have h1 := of_decide_eq_true h
  rw [List.length_map] at h1
  have h2 : a < ns.length := by omega
  exact ⟨.int ns[a], ix_lst (atI_nat (by rw [List.getElem?_map, List.getElem?_eq_getElem h2]; rfl)) rfl, q _⟩
theorem i_int1B {k : Bool} {P : D → Prop} (q : ∀ n : Int, (n = 0 ∨ n = 1) → P (.int n)) : ∃ z, int1 [.bl k] = some z ∧ P z := by
  cases k
  · exact ⟨.int 0, rfl, q 0 (.inl rfl)⟩
  · exact ⟨.int 1, rfl, q 1 (.inr rfl)⟩
theorem mul_01 {e n : Int} (h : n = 0 ∨ n = 1) : mulD (.int e) (.int n) = some (.int (e * n)) := mul_s (by rcases h with rfl | rfl <;> decide)
theorem own_snoc {v : Int} {zs : List Int} {P : List Int → Prop} (h : P (zs ++ [v])) : ∃ ys : List Int, D.own (.int 0 :: zs.map D.int ++ [.int v]) = .own (.int 0 :: ys.map D.int) ∧ P ys := ⟨zs ++ [v], by rw [List.map_append]; rfl, h⟩
theorem own_set {v : Int} {k i : Nat} {zs : List Int} {P : List Int → Prop} (h : P (zs.set i v)) : ∃ ys : List Int, D.own ((D.int (k : Nat) :: zs.map D.int).set (i + 1) (.int v)) = .own (.int (k : Nat) :: ys.map D.int) ∧ P ys := ⟨zs.set i v, by rw [List.map_set]; rfl, h⟩
theorem pf_store : Pf F_store x__law_store [] (10 - 3) := pf_ex fun ⟨ns, lot⟩ h R N ok _ => by
  unfold x__law_store
  simp only [List.map_cons, List.map_nil, List.cons_append, List.nil_append, List.append_nil, List.replicate_succ, List.replicate_zero, Nat.reduceSub]
  dsimp only at *
  have hns : (D.lst (ns.map D.int)).sh = true := rfl
  (repeat' (first | walk_at "bvs"))
  refine ⟨fun k ρ => ∃ (m r : Int) (a : Nat) (st : D) (s7 s8 s9 : Option D), ρ = [some (.lst (ns.map D.int)), some (.int (lot : Nat)), some (.int 300), some (.int m), some (.int r), some (.int (a : Nat)), some st, s7, s8, s9] ∧ (0 ≤ m ∧ m < 2147483648 ∧ 0 ≤ r ∧ a ≤ k) ∧ ∃ zs : List Int, st = .own (.int 0 :: zs.map D.int) ∧ zs.length = k ∧ ∀ z ∈ zs, 0 ≤ z ∧ z < 27720, ⟨_, 0, 0, _, none, none, none, rfl, ⟨by omega, by omega, by decide, by decide⟩, [], rfl, rfl, fun z hz => by cases hz⟩, ?_, ?_⟩
  · rintro k z _ hz ⟨m, r, a, _, s7, s8, s9, rfl, ⟨m1, m2, r1, ha⟩, zs, rfl, hzl, hzs⟩
    obtain ⟨hk, rfl⟩ := rngD_get hz
    rw [Int.zero_add]
    have hk3 : k < 300 := hk
    have hkk : ((k : Nat) : Int) * (k : Nat) ≤ 300 * 300 := Int.mul_le_mul (by omega) (by omega) (by omega) (by omega)
    have hkk0 : 0 ≤ ((k : Nat) : Int) * (k : Nat) := Int.mul_nonneg (by omega) (by omega)
    refine i_gname (by repeat (first | exact Put.z | apply Put.s)) ?_
    refine i_join (fun ρ => ∃ (m r : Int) (a : Nat) (s8 : Option D), (0 ≤ m ∧ m < 2147483648 ∧ 0 ≤ r ∧ a ≤ k + 1) ∧ ρ = [some (.lst (ns.map D.int)), some (.int (lot : Nat)), some (.int 300), some (.int m), some (.int r), some (.int (a : Nat)), some (.own (.int 0 :: zs.map D.int)), some (.int (k : Nat)), s8, s9]) ?_ ?_
    · (repeat' (first | ((with_reducible apply i_cell); ((with_reducible assumption)); (intro c)) | ((with_reducible apply i_int1B); (intro n hn01)) | ((with_reducible apply i_some); ((exact mul_01 (by with_reducible assumption)))) | walk_at "bvs" | ((with_reducible apply i_B) <;> intro hb)))
      · have e0 : 0 ≤ if c < 0 then -c else c := by split <;> omega
        have e1 : 0 ≤ (if c < 0 then -c else c) * n := Int.mul_nonneg e0 (by omega)
        exact ⟨_, _, a + 1, _, ⟨by omega, by omega, e1, by omega⟩, rfl⟩
      · exact ⟨m, r, a, s8, ⟨m1, m2, r1, by omega⟩, rfl⟩
      · exact ⟨m, r, a, s8, ⟨m1, m2, r1, by omega⟩, rfl⟩
    · rintro _ ⟨m, r, a, s8, ⟨m1, m2, r1, ha⟩, rfl⟩
      have hsz : (D.int 0 :: zs.map D.int).length < PySem.sizeLine := by
        rw [List.length_cons, List.length_map, sizeLine_eq]
        omega
      have hm : m * (m / 32 + 3) < 2 ^ 100 := by
        have : m * (m / 32 + 3) ≤ 2147483648 * 2147483648 := Int.mul_le_mul (by omega) (by omega) (by omega) (by omega)
        omega
      (repeat' (first | ((with_reducible apply i_lt); ((exact hsz))) | walk_at "bvs" | ((with_reducible apply i_B) <;> intro hb)))
      all_goals refine ⟨_, _, a, _, _, _, _, rfl, ⟨?_, ?_, ?_, by omega⟩, own_snoc ⟨by rw [List.length_append, List.length_singleton, hzl], fun z hz => ?_⟩⟩
      all_goals first
        | (rcases List.mem_append.mp hz with hz | hz
           · exact hzs z hz
           · cases List.mem_singleton.mp hz
             omega)
        | exact Int.ediv_nonneg r1 (by decide)
        | omega
  · rintro _ ⟨m, r, a, _, s7, s8, s9, rfl, _, zs, rfl, hzl, hzs⟩
    (repeat' (first | walk_at "bvs"))
    exact ok _ _ [] rfl ⟨⟨0, zs, rfl, hzl, by decide, hzs⟩, rfl⟩
theorem lset_of : ∀ {zs : List D} {i : Nat} {e : D}, i < zs.length → LSet zs i e (zs.set i e)
  | [], _, _, h => absurd h (Nat.not_lt_zero _)
  | z :: zs, 0, e, _ => .z
  | z :: zs, i + 1, e, h => .s (lset_of (Nat.lt_of_succ_lt_succ h))
theorem ixN_nat' {n k : Nat} (h : k < n) : ixN n ((k : Nat) : Int) = some k := by
  unfold ixN
  rw [if_pos (Int.natCast_nonneg _), if_pos (by omega)]
  exact congrArg some (Int.toNat_natCast k)
theorem fe_pick {s : D} {m : Int} {Q : D → List D → Prop} (h : Sto s) (h1 : 1 ≤ m) (h2 : m ≤ 27720) (q : ∀ (k : Nat) (s : D), (k : Int) < m → Sto s → Q (.int (k : Nat)) [s]) : F_pick.f [s, .int m] Q := ⟨(s, m), rfl, ⟨h, h1, h2⟩, fun _ _ ⟨k, s, e1, e2, e3, e4⟩ => by rw [e1, e3]; exact q k s e2 e4⟩
theorem i_rng2' {ρ : Ev} {R : XA} {QI : List D → Ev → Prop} (q : R.f ρ fun fs ρ1 => ∃ i j : Int, fs = [.int i, .int j] ∧ (-(2 ^ 62) ≤ i ∧ i < 2 ^ 62 ∧ -(2 ^ 62) ≤ j ∧ j < 2 ^ 62) ∧ QI (rngD i (j - i).toNat) ρ1) : (xiRng2 R).f ρ QI := q
theorem i_rngP {a b : Int} {P : Int → Int → Prop} (h : -(2 ^ 62) ≤ a ∧ a < 2 ^ 62 ∧ -(2 ^ 62) ≤ b ∧ b < 2 ^ 62) (q : P a b) : ∃ i j : Int, [D.int a, D.int b] = [.int i, .int j] ∧ (-(2 ^ 62) ≤ i ∧ i < 2 ^ 62 ∧ -(2 ^ 62) ≤ j ∧ j < 2 ^ 62) ∧ P i j := ⟨a, b, rfl, h, q⟩
/-- a number of the store -/
theorem sto_at {k i : Nat} {ns : List Int} (h : i < ns.length) : ixD (.own (.int (k : Nat) :: ns.map D.int)) (.int ((i + 1 : Nat) : Int)) = some (.int ns[i]) := ix_own (atI_nat (by rw [List.getElem?_cons_succ, List.getElem?_map, List.getElem?_eq_getElem h]; rfl)) rfl
theorem sto_0 {k : Nat} {ns : List Int} : ixD (.own (.int (k : Nat) :: ns.map D.int)) (.int 0) = some (.int (k : Nat)) := ix_own (atI_nat (j := 0) rfl) rfl
theorem pf_pick : Pf F_pick x__law_pick [0] (4 - 2) := pf_ex fun ⟨d, m⟩ h R N ok _ => by
  unfold x__law_pick
  simp only [List.map_cons, List.map_nil, List.cons_append, List.nil_append, List.append_nil, List.replicate_succ, List.replicate_zero, Nat.reduceSub]
  obtain ⟨⟨k, ns, rfl, hn, hk, hb0⟩, hm1, hm2⟩ := h
  dsimp only at *
  have h0 := sto_0 (k := k) (ns := ns)
  refine i_join (fun ρ => ρ = [some (.own (.int (k : Nat) :: ns.map D.int)), some (.int m), some (.int (((k : Nat) : Int) + 1)), none]) ?_ ?_
  · (repeat' (first | ((with_reducible apply i_some); ((with_reducible exact h0))) | walk_at "bvs"))
    rfl
  rintro _ rfl
  refine i_join (fun ρ => ∃ (a : Nat) (ns : List Int) (s3 : Option D), (1 ≤ a ∧ a ≤ 300) ∧ ns.length = 300 ∧ (∀ n ∈ ns, 0 ≤ n ∧ n < 27720) ∧ ρ = [some (.own (.int (k : Nat) :: ns.map D.int)), some (.int m), some (.int (a : Nat)), s3]) ?_ ?_
  · (repeat' (first | ((with_reducible apply i_rng2')) | ((with_reducible apply i_rngP); ((refine ⟨by decide, by decide, ?_, ?_⟩ <;> simp only [List.length_cons, List.length_map, hn] <;> decide))) | walk_at "bvs" | ((with_reducible apply i_B) <;> intro hb)))
    · refine ⟨fun i ρ => ∃ (st : D) (s3 : Option D), ρ = [some st, some (.int m), some (.int 1), s3] ∧ ∃ ns : List Int, st = .own (.int (k : Nat) :: ns.map D.int) ∧ ns.length = 300 ∧ ∀ n ∈ ns, 0 ≤ n ∧ n < 27720, ⟨_, none, rfl, ns, rfl, hn, hb0⟩, ?_, ?_⟩
      · rintro i z _ hz ⟨_, s3, rfl, ns, rfl, hn, hb0⟩
        obtain ⟨hi, rfl⟩ := rngD_get hz
        have hi3 : i < ns.length := by
          simp only [List.length_cons, List.length_map] at hi
          omega
        have e1 : (1 : Int) + (i : Nat) = ((i + 1 : Nat) : Int) := by omega
        rw [e1]
        have hx := sto_at (k := k) hi3
        obtain ⟨b1, b2⟩ := hb0 _ (List.getElem_mem hi3)
        generalize ns[i] = c at hx b1 b2
        have hix : ixN (D.int (k : Nat) :: ns.map D.int).length ((i + 1 : Nat) : Int) = some (i + 1) := ixN_nat' (by rw [List.length_cons, List.length_map]; omega)
        have hls : ∀ e : D, LSet (D.int (k : Nat) :: ns.map D.int) (i + 1) e ((D.int (k : Nat) :: ns.map D.int).set (i + 1) e) := fun e => lset_of (by rw [List.length_cons, List.length_map]; omega)
        (repeat' (first | ((with_reducible apply i_some); ((with_reducible exact hx))) | ((with_reducible apply i_set); (exact hix); (exact hls _); ((repeat (first | exact Put.z | apply Put.s)))) | walk_at "bvs"))
        refine ⟨_, _, rfl, own_set ⟨by rw [List.length_set]; exact hn, fun n hn' => ?_⟩⟩
        rcases List.mem_or_eq_of_mem_set hn' with q | q
        · exact hb0 n q
        · rw [q]; omega
      · rintro _ ⟨_, s3, rfl, ns, rfl, hn, hb0⟩
        (repeat' (first | walk_at "bvs"))
        exact ⟨1, ns, s3, by decide, hn, hb0, rfl⟩
    · have hb2 := of_decide_eq_false hb
      rw [List.length_cons, List.length_map] at hb2
      exact ⟨k + 1, ns, none, by omega, hn, hb0, rfl⟩
  · rintro _ ⟨a, ns, s3, ⟨a1, a2⟩, hn, hb0, rfl⟩
    have hix : ixN (D.int (k : Nat) :: ns.map D.int).length 0 = some 0 := ixN_nat' (k := 0) (by rw [List.length_cons]; omega)
    obtain ⟨i, rfl⟩ : ∃ i, a = i + 1 := ⟨a - 1, by omega⟩
    have hx := sto_at (k := i + 1) (i := i) (ns := ns) (by omega)
    obtain ⟨b1, b2⟩ := hb0 _ (List.getElem_mem (show i < ns.length by omega))
    generalize ns[i] = c at hx b1 b2
    have hc1 := Int.emod_nonneg c (show m ≠ 0 by omega)
    have hc2 := Int.emod_lt_of_pos c (show 0 < m by omega)
    have hm0 : 0 < m := by omega
    (repeat' (first | ((with_reducible apply i_set); (exact hix); (exact LSet.z); ((repeat (first | exact Put.z | apply Put.s)))) | ((with_reducible apply i_some); ((with_reducible exact hx))) | walk_at "bvs"))
    have e : c % m = ((c % m).toNat : Int) := (Int.toNat_of_nonneg hc1).symm
    rw [e]
    exact ok _ _ [_] rfl ⟨_, _, rfl, by rw [← e]; exact hc2, rfl, i + 1, ns, rfl, hn, a2, hb0⟩
theorem pures_cons {n : Nat} {d : D} {ds : List D} (h : pures n (d :: ds) = true) : pure1 n d = true ∧ pures n ds = true := by
  simpa only [pures, Bool.and_eq_true] using h
theorem pures_get : ∀ {n : Nat} {ds : List D} {k : Nat} {d : D}, pures n ds = true → ds[k]? = some d → pure1 n d = true
  | _, [], _, _, _, h => by cases h
  | n, x :: xs, 0, d, h, e => by cases e; exact (pures_cons h).1
  | n, x :: xs, k + 1, d, h, e => pures_get (pures_cons h).2 (by simpa using e)
theorem pure_sh {n : Nat} {d : D} (h : pure1 n d = true) : d.sh = true := by
  cases n with
  | zero => simp [pure1] at h
  | succ n => cases d <;> first | rfl | (simp [pure1] at h; done)
theorem fe_sameJ {j : Nat} {d : D} {Q : D → List D → Prop} (h : pure1 j d = true) (q : Q (.bl true) []) : (F_sameJ j).f [d, d] Q := ⟨d, rfl, h, fun _ _ ⟨e1, e2⟩ => by rw [e1, e2]; exact q⟩
theorem bls_rep2 : ∀ n : Nat, D.bls (List.replicate n (.bl true)) = some (List.replicate n true)
  | 0 => rfl
  | n + 1 => by
    rw [List.replicate_succ, List.replicate_succ]
    show (D.bls (List.replicate n (.bl true))).map (true :: ·) = _
    rw [bls_rep2 n]
    rfl
theorem pf_same (j : Nat) : Pf (F_sameJ (j + 1)) (x__law_same j) [] (3 - 2) := pf_ex fun d h R N ok _ => by
  unfold x__law_same
  simp only [List.map_cons, List.map_nil, List.cons_append, List.nil_append, List.append_nil, List.replicate_succ, List.replicate_zero, Nat.reduceSub]
  cases d with
  | non =>
    (repeat' (first | walk_at "bvs"))
    exact ok _ _ [] rfl ⟨rfl, rfl⟩
  | int i =>
    (repeat' (first | walk_at "bvs"))
    exact ok _ _ [] rfl ⟨congrArg D.bl (decide_eq_true rfl), rfl⟩
  | str x =>
    (repeat' (first | walk_at "bvs"))
    exact ok _ _ [] rfl ⟨congrArg D.bl (decide_eq_true rfl), rfl⟩
  | tup xs =>
    have h' : (decide (xs.length ≤ 1000000) && pures j xs) = true := h
    rw [Bool.and_eq_true, decide_eq_true_eq] at h'
    obtain ⟨hl, hp⟩ := h'
    have hd : (!decide (((xs.length : Nat) : Int) = ((xs.length : Nat) : Int))) = false := by rw [decide_eq_true rfl]; rfl
    (repeat' (first | walk_at "bvs"))
    refine ⟨fun k acc ρ => k ≤ xs.length ∧ acc = List.replicate k (.bl true) ∧ ρ = [some (.tup xs), some (.tup xs), none], ⟨Nat.zero_le _, rfl, rfl⟩, ?_, ?_⟩
    · rintro k z acc _ hz ⟨hk, rfl, rfl⟩
      obtain ⟨hk1, rfl⟩ := rngD_get hz
      rw [Int.toNat_natCast] at hk1
      obtain ⟨x, hx⟩ : ∃ x, xs[k]? = some x := ⟨xs[k], List.getElem?_eq_getElem hk1⟩
      have hpx := pures_get hp hx
      have hsx := pure_sh hpx
      have hix : ixD (.tup xs) (.int (k : Nat)) = some x := ix_tup (atI_nat hx) hsx
      rw [Int.zero_add]
      have hla : (List.replicate k (D.bl true)).length < PySem.sizeLine := by rw [List.length_replicate, sizeLine_eq]; omega
      (repeat' (first | ((with_reducible apply i_some); ((with_reducible assumption))) | ((with_reducible apply fe_sameJ); (assumption)) | ((with_reducible apply i_lt); ((exact hla))) | walk_at "bvs"))
      exact ⟨hk1, by rw [List.replicate_succ'], rfl⟩
    · rintro acc _ ⟨_, rfl, rfl⟩
      rw [rngD_length, Int.toNat_natCast]
      refine i_some (z := .bl true) ?_ (ok _ _ [] rfl ⟨rfl, rfl⟩)
      show (D.bls (List.replicate xs.length (.bl true))).map (fun bs => D.bl (bs.all id)) = _
      rw [bls_rep2, Option.map_some]
      simp
  | _ => simp [pure1] at h
end K12

open PySem PySem.Spec PyProof.Rows L2 BV
namespace K12
open PySem PySem.Spec PyProof.Rows L2 BV
/-! ### names -/
abbrev SG : Str := "abcdefghijklmnopqrstuvwxyz0123456789"
def bases : List Str := ["lab1", "lq", "lzz9z", "pab1", "pq", "pzz9z"]
def sg (i : Nat) : Str := ⟨#[SG.cps.toList.getD i 0]⟩
def nm (base : Str) (a i : Nat) : Str := cutS base none (some ((a : Nat) : Int)) ++ sg i ++ cutS base (some ((a + 1 : Nat) : Int)) none
def rnB (x : Str) : Bool := decide (1 ≤ x.length) && decide (x.length ≤ 10) && (x.cps.toList.take 1).all (fun c => SMALL.cps.toList.contains c) && x.cps.toList.all (fun c => SMALL.cps.toList.contains c || DIGITS.cps.toList.contains c) && !kws.contains x
theorem rnB_ok {x : Str} (h : rnB x = true) : RN x := by
  unfold rnB at h
  simp only [Bool.and_eq_true, decide_eq_true_eq, List.all_eq_true, Bool.or_eq_true, List.contains_iff_mem, Bool.not_eq_true'] at h
  obtain ⟨⟨⟨⟨h1, h2⟩, h3⟩, h4⟩, h5⟩ := h
  refine ⟨⟨h1, h2⟩, fun c hc => h3 c ?_, h4, fun hk => ?_⟩
  · cases e : x.cps.toList with
    | nil => rw [e] at hc; cases hc
    | cons a l => rw [e] at hc; cases hc; simp
  · rw [List.contains_iff_mem.mpr hk] at h5
    cases h5
theorem nm_all : (bases.all fun b => (List.range (b.length - 1)).all fun a => (List.range 36).all fun i => rnB (nm b (a + 1) i)) = true := by decide +kernel
theorem nm_inj : (bases.all fun b => (List.range (b.length - 1)).all fun a => (List.range 36).all fun i => (List.range 36).all fun j => i == j || nm b (a + 1) i != nm b (a + 1) j) = true := by decide +kernel
theorem base_len : ∀ b ∈ bases, 2 ≤ b.length ∧ b.length ≤ 5 := by decide +kernel
theorem nm_rn {b : Str} {a i : Nat} (hb : b ∈ bases) (ha : a + 1 < b.length) (hi : i < 36) : RN (nm b (a + 1) i) :=
  rnB_ok (List.all_eq_true.mp (List.all_eq_true.mp (List.all_eq_true.mp nm_all b hb) a (List.mem_range.mpr (by omega))) i (List.mem_range.mpr hi))
theorem nm_ne {b : Str} {a i j : Nat} (hb : b ∈ bases) (ha : a + 1 < b.length) (hi : i < 36) (hj : j < 36) (h : nm b (a + 1) i = nm b (a + 1) j) : i = j := by
  have := List.all_eq_true.mp (List.all_eq_true.mp (List.all_eq_true.mp (List.all_eq_true.mp nm_inj b hb) a (List.mem_range.mpr (by omega))) i (List.mem_range.mpr hi)) j (List.mem_range.mpr hj)
  rw [Bool.or_eq_true] at this
  rcases this with w | w
  · exact beq_iff_eq.mp w
  · rw [h] at w
    simp at w
theorem sg_at {i : Nat} (h : i < 36) : ixD (.str SG) (.int (i : Nat)) = some (.str (sg i)) := by
  have hl : SG.cps.toList.length = 36 := by decide +kernel
  have hsz : SG.length ≤ sizeLine := by rw [sizeLine_eq]; decide +kernel
  show (if SG.length ≤ sizeLine then (atI SG.cps.toList (i : Nat)).map fun c => D.str ⟨#[c]⟩ else none) = _
  rw [if_pos hsz, atI_nat (List.getElem?_eq_getElem (by omega))]
  unfold sg
  rw [List.getD_eq_getElem?_getD, List.getElem?_eq_getElem (by omega)]
  rfl
theorem addS {a b : Str} (h : a.length + b.length ≤ 16777216) : addD (.str a) (.str b) = some (.str (a ++ b)) := if_pos (by rw [sizeLine_eq]; exact h)
theorem lenS {a : Str} (h : a.length ≤ 16777216) : len1 [.str a] = some (.int (a.length : Nat)) := by
  have e : lenD (.str a) = some a.length := if_pos (by rw [sizeLine_eq]; exact h)
  unfold len1
  simp only [e]
  rfl
theorem cutSt {a : Str} {l u : Option Int} (h : a.length ≤ 16777216) : cutD (.str a) l u = some (.str (cutS a l u)) := if_pos (by rw [sizeLine_eq]; exact h)
theorem cut_len : ∀ b ∈ bases, ∀ a, a < 6 → (cutS b none (some ((a : Nat) : Int))).length ≤ 10 ∧ (cutS b (some ((a : Nat) : Int)) none).length ≤ 10 := by decide +kernel
theorem fe_names {s : D} {m : Nat} {f : Str} {Q : D → List D → Prop} (h : Sto s) (h1 : 1 ≤ m) (h2 : m ≤ 20) (h3 : f = "l" ∨ f = "p") (q : ∀ (ns : List Str) (s : D), ns.length = m → ns.Nodup → (∀ n ∈ ns, RN n) → Sto s → Q (.own (ns.map D.str)) [s]) : F_names.f [s, .int (m : Nat), .str f] Q := ⟨(s, m, f), rfl, ⟨h, h1, h2, h3⟩, fun _ _ ⟨ns, s, e1, e2, e3, e4, e5, e6⟩ => by rw [e1, e5]; exact q ns s e2 e3 e4 e6⟩
theorem ix3 {a b c : D} {k : Nat} (hk : ((k : Nat) : Int) < 3) (ha : a.sh = true) (hb : b.sh = true) (hc : c.sh = true) : ∃ z, ixD (.own [a, b, c]) (.int (k : Nat)) = some z ∧ (z = a ∨ z = b ∨ z = c) := by
  obtain rfl | rfl | rfl : k = 0 ∨ k = 1 ∨ k = 2 := by omega
  · exact ⟨a, ix_own (atI_nat (j := 0) rfl) ha, .inl rfl⟩
  · exact ⟨b, ix_own (atI_nat (j := 1) rfl) hb, .inr (.inl rfl)⟩
  · exact ⟨c, ix_own (atI_nat (j := 2) rfl) hc, .inr (.inr rfl)⟩
theorem base_of {f : Str} (hf : f = "l" ∨ f = "p") {z : D} (hz : z = .str "ab1" ∨ z = .str "q" ∨ z = .str "zz9z") : ∃ b ∈ bases, addD (.str f) z = some (.str b) := by
  have key : ∀ f ∈ (["l", "p"] : List Str), ∀ z ∈ (["ab1", "q", "zz9z"] : List Str), f.length + z.length ≤ 16777216 ∧ f ++ z ∈ bases := by decide +kernel
  obtain ⟨y, hy, rfl⟩ : ∃ y : Str, y ∈ (["ab1", "q", "zz9z"] : List Str) ∧ z = .str y := by
    rcases hz with rfl | rfl | rfl <;> exact ⟨_, by simp, rfl⟩
  obtain ⟨h1, h2⟩ := key f (by rcases hf with rfl | rfl <;> simp) y hy
  exact ⟨_, h2, addS h1⟩
theorem nodup_map {α β : Type} {f : α → β} : ∀ {l : List α}, l.Nodup → (∀ x ∈ l, ∀ y ∈ l, f x = f y → x = y) → (l.map f).Nodup
  | [], _, _ => List.nodup_nil
  | a :: l, h, i => by
    rw [List.map_cons, List.nodup_cons]
    rw [List.nodup_cons] at h
    refine ⟨fun hm => ?_, nodup_map h.2 fun x hx y hy => i x (List.mem_cons_of_mem _ hx) y (List.mem_cons_of_mem _ hy)⟩
    obtain ⟨y, hy, e⟩ := List.mem_map.mp hm
    have := i y (List.mem_cons_of_mem _ hy) a List.mem_cons_self e
    exact h.1 (this ▸ hy)
theorem pf_names : Pf F_names x__law_names [0] (8 - 3) := pf_ex fun ⟨s, m, f⟩ h R N ok _ => by
  unfold x__law_names
  simp only [List.map_cons, List.map_nil, List.cons_append, List.nil_append, List.append_nil, List.replicate_succ, List.replicate_zero, Nat.reduceSub]
  obtain ⟨hs, hm1, hm2, hf⟩ := h
  dsimp only at *
  have hfs : (D.str f).sh = true := rfl
  refine i_join (fun ρ => ∃ b ∈ bases, ∃ s : D, Sto s ∧ ρ = [some s, some (.int (m : Nat)), some (.str f), some (.str b), none, none, none, none]) ?_ ?_
  · (repeat' (first | ((with_reducible apply fe_pick); ((with_reducible assumption)); (omega); (omega); (intro k s hk hs)) | walk_at "bvs"))
    obtain ⟨z, hz, hzc⟩ := ix3 (a := .str "ab1") (b := .str "q") (c := .str "zz9z") hk rfl rfl rfl
    obtain ⟨b, hb, hadd⟩ := base_of hf hzc
    (repeat' (first | ((with_reducible apply i_some); ((with_reducible exact hz))) | ((with_reducible apply i_some); ((with_reducible exact hadd))) | walk_at "bvs"))
    exact ⟨b, hb, s, hs, rfl⟩
  rintro _ ⟨b, hb, s, hs, rfl⟩
  obtain ⟨b2, b5⟩ := base_len b hb
  have hlen := lenS (a := b) (by omega)
  (repeat' (first | ((with_reducible apply i_some); ((with_reducible exact hlen))) | walk_at "bvs"))
  refine fe_pick hs (by omega) (by omega) fun a s ha hs => ?_
  have e1 : (1 : Int) + ((a : Nat) : Int) = ((a + 1 : Nat) : Int) := by omega
  (repeat' (first | walk_at "bvs"))
  rw [e1]
  refine fe_pick hs (by decide) (by decide) fun st s hst hs => ?_
  have hsg : (D.str SG).sh = true := rfl
  (repeat' (first | walk_at "bvs"))
  refine ⟨fun k acc ρ => acc = ((List.range k).map fun k => nm b (a + 1) ((st + k * 5) % 36)).map D.str ∧ ρ = [some s, some (.int (m : Nat)), some (.str f), some (.str b), some (.int ((a + 1 : Nat) : Int)), some (.str SG), some (.int (st : Nat)), none], ⟨rfl, rfl⟩, ?_, ?_⟩
  · rintro k z acc _ hz ⟨rfl, rfl⟩
    obtain ⟨hk, rfl⟩ := rngD_get hz
    rw [Int.zero_add]
    have hi : (st + k * 5) % 36 < 36 := Nat.mod_lt _ (by decide)
    have e5 : (((st : Nat) : Int) + ((k : Nat) : Int) * 5) % 36 = (((st + k * 5) % 36 : Nat) : Int) := by omega
    have hix : ixD (.str SG) (.int ((((st : Nat) : Int) + ((k : Nat) : Int) * 5) % 36)) = some (.str (sg ((st + k * 5) % 36))) := by rw [e5]; exact sg_at hi
    have c1 := (cut_len b hb (a + 1) (by omega)).1
    have c2 := (cut_len b hb (a + 2) (by omega)).2
    have e6 : ((a + 2 : Nat) : Int) = ((a + 1 : Nat) : Int) + 1 := by omega
    rw [e6] at c2
    have hcl : cutD (.str b) none (some ((a + 1 : Nat) : Int)) = some (.str (cutS b none (some ((a + 1 : Nat) : Int)))) := cutSt (by omega)
    have hcr : cutD (.str b) (some (((a + 1 : Nat) : Int) + 1)) none = some (.str (cutS b (some (((a + 1 : Nat) : Int) + 1)) none)) := cutSt (by omega)
    have hsl : (sg ((st + k * 5) % 36)).length = 1 := rfl
    have ha1 : addD (.str (cutS b none (some ((a + 1 : Nat) : Int)))) (.str (sg ((st + k * 5) % 36))) = some (.str (cutS b none (some ((a + 1 : Nat) : Int)) ++ sg ((st + k * 5) % 36))) := addS (by omega)
    have hal : (cutS b none (some ((a + 1 : Nat) : Int)) ++ sg ((st + k * 5) % 36)).length ≤ 11 := by rw [Str.length_append]; omega
    have ha2 : addD (.str (cutS b none (some ((a + 1 : Nat) : Int)) ++ sg ((st + k * 5) % 36))) (.str (cutS b (some (((a + 1 : Nat) : Int) + 1)) none)) = some (.str (nm b (a + 1) ((st + k * 5) % 36))) := by
      unfold nm
      rw [show ((a + 1 + 1 : Nat) : Int) = ((a + 1 : Nat) : Int) + 1 from e6]
      exact addS (by omega)
    have hk5 : ((k : Nat) : Int) < 100 := by omega
    have hla : (((List.range k).map fun k => nm b (a + 1) ((st + k * 5) % 36)).map D.str).length < PySem.sizeLine := by
      rw [List.length_map, List.length_map, List.length_range, sizeLine_eq]
      omega
    (repeat' (first | ((with_reducible apply i_some); ((with_reducible exact hcl))) | ((with_reducible apply i_some); ((with_reducible exact hcr))) | ((with_reducible apply i_some); ((with_reducible exact hix))) | ((with_reducible apply i_some); ((with_reducible exact ha1))) | ((with_reducible apply i_some); ((with_reducible exact ha2))) | ((with_reducible apply i_lt); ((exact hla))) | walk_at "bvs"))
    exact ⟨by rw [List.range_succ, List.map_append, List.map_append]; rfl, rfl⟩
  · rintro acc _ ⟨rfl, rfl⟩
    rw [rngD_length, Int.toNat_natCast]
    (repeat' (first | walk_at "bvs"))
    refine ok _ _ [_] rfl ⟨_, s, rfl, by rw [List.length_map, List.length_range], nodup_map List.nodup_range fun x hx y hy e => ?_, fun n hn => ?_, rfl, hs⟩
    · have hx' := List.mem_range.mp hx
      have hy' := List.mem_range.mp hy
      have := nm_ne hb (a := a) (by omega) (Nat.mod_lt _ (by decide)) (Nat.mod_lt _ (by decide)) e
      omega
    · obtain ⟨k, _, rfl⟩ := List.mem_map.mp hn
      exact nm_rn hb (by omega) (Nat.mod_lt _ (by decide))
end K12

open PySem PySem.Spec PyProof.Rows L2 BV
namespace K12
open PySem PySem.Spec PyProof.Rows L2 BV
theorem okB_snoc {letters names : List Str} {j : Nat} {sec : Bool} {t : St} (ht : t.ok letters names j sec) : ∀ {b : List St}, okB letters names j sec b → okB letters names j sec (b ++ [t])
  | [], _ => by simp only [List.nil_append, okB]; exact ⟨ht, True.intro⟩
  | s :: b, h => by
    simp only [okB] at h
    simp only [List.cons_append, okB]
    exact ⟨h.1, okB_snoc ht h.2⟩
theorem okBs_snoc {letters names : List Str} {j : Nat} {sec : Bool} {c : List St} (hc : okB letters names j sec c) (hl : c.length ≤ 4) : ∀ {bs : List (List St)}, okBs letters names j sec bs → okBs letters names j sec (bs ++ [c])
  | [], _ => by simp only [List.nil_append, okBs]; exact ⟨hc, hl, True.intro⟩
  | b :: bs, h => by
    simp only [okBs] at h
    simp only [List.cons_append, okBs]
    exact ⟨h.1, h.2.1, okBs_snoc hc hl h.2.2⟩
mutual
theorem ok_up {letters names : List Str} : ∀ (s : St) (j : Nat) (sec : Bool), s.ok letters names j sec → s.ok letters names (j + 1) sec
  | .act un x, j, sec, h => by cases j <;> (simp only [St.ok] at h ⊢; exact h)
  | .call x, j, sec, h => by cases j <;> (simp only [St.ok] at h ⊢; exact h)
  | .ret, j, sec, h => by cases j <;> (simp only [St.ok] at h ⊢; exact h)
  | .loop b, j, sec, h => by
    cases j with
    | zero => simp only [St.ok] at h
    | succ j => simp only [St.ok] at h ⊢; exact okB_up b j sec h
  | .choose bs, j, sec, h => by
    cases j with
    | zero => simp only [St.ok] at h
    | succ j => simp only [St.ok] at h ⊢; exact ⟨h.1, h.2.1, okBs_up bs j sec h.2.2⟩
  | .ens b c, j, sec, h => by
    cases j with
    | zero => simp only [St.ok] at h
    | succ j => simp only [St.ok] at h ⊢; exact ⟨okB_up b j sec h.1, okB_up c j true h.2⟩
theorem okB_up {letters names : List Str} : ∀ (b : List St) (j : Nat) (sec : Bool), okB letters names j sec b → okB letters names (j + 1) sec b
  | [], j, sec, h => by simp only [okB]
  | s :: b, j, sec, h => by
    simp only [okB] at h ⊢
    exact ⟨ok_up s j sec h.1, okB_up b j sec h.2⟩
theorem okBs_up {letters names : List Str} : ∀ (bs : List (List St)) (j : Nat) (sec : Bool), okBs letters names j sec bs → okBs letters names (j + 1) sec bs
  | [], j, sec, h => by simp only [okBs]
  | b :: bs, j, sec, h => by
    simp only [okBs] at h ⊢
    exact ⟨okB_up b j sec h.1, h.2.1, okBs_up bs j sec h.2.2⟩
end
theorem okB_to7 {letters names : List Str} {b : List St} {sec : Bool} : ∀ (n j : Nat), j + n = 7 → okB letters names j sec b → okB letters names 7 sec b
  | 0, j, e, h => by
    have : j = 7 := by omega
    rw [← this]; exact h
  | n + 1, j, e, h => okB_to7 n (j + 1) (by omega) (okB_up b j sec h)
theorem cnt_snoc {t : St} : ∀ {b : List St}, cnt (b ++ [t]) = cnt b + t.cnt
  | [] => by simp only [List.nil_append, cnt]; omega
  | s :: b => by simp only [List.cons_append, cnt, cnt_snoc (b := b)]; omega
theorem cnts_snoc {t : List St} : ∀ {b : List (List St)}, cnts (b ++ [t]) = cnts b + cnt t
  | [] => by simp only [List.nil_append, cnts]; omega
  | s :: b => by simp only [List.cons_append, cnts, cnts_snoc (b := b)]; omega
theorem fe_dstmt {f : Nat} {x : DA} {Q : D → List D → Prop} (h : x.fit) (h2 : x.deep < f) (q : ∀ (t : St) (s : D) (m : Nat), t.ok x.letters x.names x.deep x.sec → t.cnt + m = x.room + 1 → Sto s → Q t.d [s, .own [.int (m : Nat)]]) : (F_dstmtJ f).f [x.store, .lst (x.letters.map D.str), .lst (x.names.map D.str), .own [.int (x.room : Nat)], .int (x.deep : Nat), .bl x.sec] Q :=
  ⟨x, rfl, ⟨h, h2⟩, fun _ _ ⟨t, s, m, e1, e2, e3, e4, e5⟩ => by rw [e1, e4]; exact q t s m e2 e3 e5⟩
theorem fe_dbody {f : Nat} {x : DA} {Q : D → List D → Prop} (h : x.fit) (h2 : x.deep < f) (q : ∀ (b : List St) (s : D) (m : Nat), okB x.letters x.names x.deep x.sec b → b.length ≤ 4 → cnt b + m = x.room → Sto s → Q (bodyD b) [s, .own [.int (m : Nat)]]) : (F_dbodyJ f).f [x.store, .lst (x.letters.map D.str), .lst (x.names.map D.str), .own [.int (x.room : Nat)], .int (x.deep : Nat), .bl x.sec] Q :=
  ⟨x, rfl, ⟨h, h2⟩, fun _ _ ⟨b, s, m, e1, e2, e3, e4, e5, e6⟩ => by rw [e1, e5]; exact q b s m e2 e3 e4 e6⟩
theorem ix_room {m : Nat} : ixD (.own [.int (m : Nat)]) (.int 0) = some (.int (m : Nat)) := ix_own (atI_nat (j := 0) rfl) rfl
theorem pf_dbody (f : Nat) : Pf (F_dbodyJ f) (x__law_body f) [0, 3] (8 - 6) := pf_ex fun x h R N ok _ => by
  unfold x__law_body DA.args
  simp only [List.map_cons, List.map_nil, List.cons_append, List.nil_append, List.append_nil, List.replicate_succ, List.replicate_zero, Nat.reduceSub]
  obtain ⟨h, hf⟩ := h
  have hsto := h.sto
  (repeat' (first | walk_at "bvs"))
  refine fe_pick hsto (by decide) (by decide) fun n s hn hs => ?_
  (repeat' (first | walk_at "bvs"))
  refine ⟨fun k ρ => ∃ (b : List St) (s : D) (m : Nat) (s7 : Option D), Sto s ∧ okB x.letters x.names x.deep x.sec b ∧ b.length ≤ k ∧ cnt b + m = x.room ∧ ρ = [some s, some (.lst (x.letters.map D.str)), some (.lst (x.names.map D.str)), some (.own [.int (m : Nat)]), some (.int (x.deep : Nat)), some (.bl x.sec), some (bodyD b), s7], ⟨[], s, x.room, none, hs, by simp only [okB], by decide, by simp only [cnt]; omega, rfl⟩, ?_, ?_⟩
  · rintro k z _ hz ⟨b, s, m, s7, hs, hb, hbl, hm, rfl⟩
    obtain ⟨hk, rfl⟩ := rngD_get hz
    rw [Int.toNat_natCast] at hk
    have hr := ix_room (m := m)
    have hbd : (bodyD b).sh = true := rfl
    by_cases hm0 : m = 0
    · have hlt : decide ((0 : Int) < ((m : Nat) : Int)) = false := decide_eq_false (by omega)
      (repeat' (first | ((with_reducible apply i_some); ((with_reducible exact hr))) | walk_at "bvs"))
      exact ⟨b, s, m, _, hs, hb, by omega, hm, rfl⟩
    · have hlt : decide ((0 : Int) < ((m : Nat) : Int)) = true := decide_eq_true (by omega)
      have e : ((m : Nat) : Int) - 1 = ((m - 1 : Nat) : Int) := by omega
      (repeat' (first | ((with_reducible apply i_some); ((with_reducible exact hr))) | walk_at "bvs"))
      rw [e]
      refine fe_dstmt (x := { x with store := s, room := m - 1 }) ⟨hs, h.l1, h.n1, by have := h.room; show m - 1 ≤ 30; omega, h.deep⟩ hf fun t s m2 ht hc hs => ?_
      have htd : t.d.sh = true := by cases t <;> simp only [St.d] <;> rfl
      have hadd : addD (bodyD b) (.tup [t.d]) = some (bodyD (b ++ [t])) := by
        unfold bodyD
        rw [List.map_append]
        exact addM (by rw [List.length_map, List.length_singleton, sizeLine_eq]; omega)
      (repeat' (first | ((with_reducible apply i_some); ((with_reducible exact hadd))) | walk_at "bvs"))
      refine ⟨b ++ [t], s, m2, _, hs, okB_snoc ht hb, by rw [List.length_append, List.length_singleton]; omega, ?_, rfl⟩
      rw [cnt_snoc]
      have hc' : t.cnt + m2 = m - 1 + 1 := hc
      omega
  · rintro _ ⟨b, s, m, s7, hs, hb, hbl, hm, rfl⟩
    rw [rngD_length, Int.toNat_natCast] at hbl
    have hbd : (bodyD b).sh = true := rfl
    (repeat' (first | walk_at "bvs"))
    exact ok _ _ [_, _] rfl ⟨b, s, m, rfl, hb, by omega, hm, rfl, hs⟩
end K12

open PySem PySem.Spec PyProof.Rows L2 BV
namespace K12
open PySem PySem.Spec PyProof.Rows L2 BV
theorem ix_nm {ns : List Str} {k n : Nat} (hn : ns.length = n) (h : k < n) : ∃ y, y ∈ ns ∧ ixD (.lst (ns.map D.str)) (.int (k : Nat)) = some (.str y) := by
  have h2 : k < ns.length := by omega
  exact ⟨ns[k], List.getElem_mem h2, ix_lst (atI_nat (by rw [List.getElem?_map, List.getElem?_eq_getElem h2]; rfl)) rfl⟩
theorem len_nm {ns : List Str} {n : Nat} (hn : ns.length = n) : len1 [.lst (ns.map D.str)] = some (.int (n : Nat)) := by
  have e : lenD (.lst (ns.map D.str)) = some n := by
    show some (ns.map D.str).length = _
    rw [List.length_map, hn]
  unfold len1
  simp only [e]
  rfl
theorem ix4 {a b c d : D} {k : Nat} (hk : ((k : Nat) : Int) < 4) (ha : a.sh = true) (hb : b.sh = true) (hc : c.sh = true) (hd : d.sh = true) : ∃ z, ixD (.own [a, b, c, d]) (.int (k : Nat)) = some z ∧ (z = a ∨ z = b ∨ z = c ∨ z = d) := by
  obtain rfl | rfl | rfl | rfl : k = 0 ∨ k = 1 ∨ k = 2 ∨ k = 3 := by omega
  · exact ⟨a, ix_own (atI_nat (j := 0) rfl) ha, .inl rfl⟩
  · exact ⟨b, ix_own (atI_nat (j := 1) rfl) hb, .inr (.inl rfl)⟩
  · exact ⟨c, ix_own (atI_nat (j := 2) rfl) hc, .inr (.inr (.inl rfl))⟩
  · exact ⟨d, ix_own (atI_nat (j := 3) rfl) hd, .inr (.inr (.inr rfl))⟩
theorem ix2 {a b : D} {k : Nat} (hk : ((k : Nat) : Int) < 2) (ha : a.sh = true) (hb : b.sh = true) : ∃ z, ixD (.own [a, b]) (.int (k : Nat)) = some z ∧ (z = a ∨ z = b) := by
  obtain rfl | rfl : k = 0 ∨ k = 1 := by omega
  · exact ⟨a, ix_own (atI_nat (j := 0) rfl) ha, .inl rfl⟩
  · exact ⟨b, ix_own (atI_nat (j := 1) rfl) hb, .inr rfl⟩
/-- the rest of a statement's drawing, its kind known -/
abbrev PostT (x : DA) (r : D) (o : List D) : Prop := ∃ (t : St) (s : D) (m : Nat), r = t.d ∧ t.ok x.letters x.names x.deep x.sec ∧ t.cnt + m = x.room + 1 ∧ o = [s, .own [.int (m : Nat)]] ∧ Sto s
abbrev envT (x : DA) (s : D) (k : Nat) : Ev := [some s, some (.lst (x.letters.map D.str)), some (.lst (x.names.map D.str)), some (.own [.int (x.room : Nat)]), some (.int (x.deep : Nat)), some (.bl x.sec), some (.int (k : Nat)), none, none, none]
theorem DA.fit_dn {x : DA} (h : x.fit) {s : D} (hs : Sto s) {m : Nat} (hm : m ≤ x.room) {d : Nat} (hd : d + 1 = x.deep) (b : Bool) : DA.fit { x with store := s, room := m, deep := d, sec := b } :=
  ⟨hs, h.l1, h.n1, by have := h.room; show m ≤ 30; omega, by have := h.deep; show d ≤ 6; omega⟩
theorem pf_dstmt (f : Nat) : Pf (F_dstmtJ (f + 1)) (x__law_statement f) [0, 3] (10 - 6) := pf_ex fun x h R N ok _ => by
  unfold x__law_statement DA.args
  simp only [List.map_cons, List.map_nil, List.cons_append, List.nil_append, List.append_nil, List.replicate_succ, List.replicate_zero, Nat.reduceSub]
  obtain ⟨h, hf⟩ := h
  have hsto := h.sto
  obtain ⟨l1, l2⟩ := h.l1
  obtain ⟨n1, n2⟩ := h.n1
  have lL := len_nm (ns := x.letters) rfl
  have lN := len_nm (ns := x.names) rfl
  refine i_join (fun ρ => ∃ (k : Nat) (s : D), ((k : Int) < 12 ∧ (x.deep = 0 → k < 6)) ∧ Sto s ∧ ρ = envT x s k) ?_ ?_
  · by_cases hd : x.deep = 0
    · have hg : decide ((0 : Int) < ((x.deep : Nat) : Int)) = false := decide_eq_false (by omega)
      (repeat' (first | walk_at "bvs"))
      refine fe_pick hsto (by decide) (by decide) fun k s hk hs => ?_
      (repeat' (first | walk_at "bvs"))
      exact ⟨k, s, ⟨by omega, fun _ => by omega⟩, hs, rfl⟩
    · have hg : decide ((0 : Int) < ((x.deep : Nat) : Int)) = true := decide_eq_true (by omega)
      (repeat' (first | walk_at "bvs"))
      refine fe_pick hsto (by decide) (by decide) fun k s hk hs => ?_
      (repeat' (first | walk_at "bvs"))
      exact ⟨k, s, ⟨by omega, fun e => absurd e hd⟩, hs, rfl⟩
  rintro _ ⟨k, s, ⟨hk, hk0⟩, hs, rfl⟩
  unfold envT
  by_cases k4 : k = 4
  · subst k4
    (repeat' (first | ((with_reducible apply i_some); ((with_reducible exact lN))) | walk_at "bvs"))
    refine fe_pick hs (by omega) (by omega) fun i s hi hs => ?_
    obtain ⟨y, hy, hiy⟩ := ix_nm (ns := x.names) rfl (k := i) (by omega)
    (repeat' (first | ((with_reducible apply i_some); ((with_reducible exact hiy))) | walk_at "bvs"))
    exact ok _ _ [_, _] rfl ⟨.call y, s, x.room, d_call.symm, by cases x.deep <;> (simp only [St.ok]; exact hy), by simp only [St.cnt]; omega, rfl, hs⟩
  by_cases k5 : k = 5 ∧ x.sec = false
  · obtain ⟨rfl, hsec⟩ := k5
    have hn : (!x.sec) = true := by rw [hsec]; rfl
    (repeat' (first | walk_at "bvs"))
    exact ok _ _ [_, _] rfl ⟨.ret, s, x.room, d_ret.symm, by cases x.deep <;> (simp only [St.ok]; exact hsec), by simp only [St.cnt]; omega, rfl, hs⟩
  have k4d : decide (((k : Nat) : Int) = 4) = false := decide_eq_false (by omega)
  refine i_join (fun ρ => ρ = envT x s k) ?_ ?_
  · (repeat' (first | walk_at "bvs"))
    rfl
  rintro _ rfl
  unfold envT
  refine i_join (fun ρ => ρ = envT x s k) ?_ ?_
  · by_cases k5' : k = 5
    · have h5 : decide (((k : Nat) : Int) = 5) = true := decide_eq_true (by omega)
      have hn : (!x.sec) = false := by
        cases e : x.sec with
        | true => rfl
        | false => exact absurd ⟨k5', e⟩ k5
      (repeat' (first | walk_at "bvs"))
      rfl
    · have h5 : decide (((k : Nat) : Int) = 5) = false := decide_eq_false (by omega)
      (repeat' (first | walk_at "bvs"))
      rfl
  rintro _ rfl
  unfold envT
  by_cases k67 : k = 6 ∨ k = 7
  · have hin : inD false (.int (k : Nat)) (.own [.int 6, .int 7]) = some (.bl true) := by
      rcases k67 with rfl | rfl <;> rfl
    have hdp : x.deep ≠ 0 := fun e => by have := hk0 e; omega
    obtain ⟨d, hd⟩ : ∃ d, d + 1 = x.deep := ⟨x.deep - 1, by omega⟩
    have ed : ((x.deep : Nat) : Int) - 1 = ((d : Nat) : Int) := by omega
    (repeat' (first | ((with_reducible apply i_some); ((with_reducible exact hin))) | walk_at "bvs"))
    refine fe_pick hs (by decide) (by decide) fun i s hi hs => ?_
    obtain ⟨z, hz, hzc⟩ := ix4 (a := .int 2) (b := .int 2) (c := .int 3) (d := .int 6) hi rfl rfl rfl rfl
    obtain ⟨mm, hm1, hm2, rfl⟩ : ∃ mm : Nat, 2 ≤ mm ∧ mm ≤ 6 ∧ z = .int (mm : Nat) := by
      rcases hzc with rfl | rfl | rfl | rfl
      · exact ⟨2, by decide, by decide, rfl⟩
      · exact ⟨2, by decide, by decide, rfl⟩
      · exact ⟨3, by decide, by decide, rfl⟩
      · exact ⟨6, by decide, by decide, rfl⟩
    (repeat' (first | ((with_reducible apply i_some); ((with_reducible exact hz))) | walk_at "bvs"))
    refine ⟨fun j acc ρ => ∃ (bs : List (List St)) (s : D) (m : Nat), Sto s ∧ acc = bs.map bodyD ∧ bs.length = j ∧ okBs x.letters x.names d x.sec bs ∧ cnts bs + m = x.room ∧ ρ = [some s, some (.lst (x.letters.map D.str)), some (.lst (x.names.map D.str)), some (.own [.int (m : Nat)]), some (.int (x.deep : Nat)), some (.bl x.sec), some (.int (k : Nat)), some (.int (mm : Nat)), none, none], ⟨[], s, x.room, hs, rfl, rfl, by simp only [okBs], by simp only [cnts]; omega, rfl⟩, ?_, ?_⟩
    · rintro j z acc _ hz ⟨bs, s, m, hs, rfl, hbl, hbs, hm, rfl⟩
      obtain ⟨hj, rfl⟩ := rngD_get hz
      rw [Int.toNat_natCast] at hj
      (repeat' (first | walk_at "bvs"))
      rw [ed]
      refine fe_dbody (x := { x with store := s, room := m, deep := d }) (DA.fit_dn h hs (by omega) hd x.sec) (by show d < f; omega) fun b s m2 hb hb4 hc hs => ?_
      have hla : (bs.map bodyD).length < PySem.sizeLine := by rw [List.length_map, sizeLine_eq]; omega
      (repeat' (first | ((with_reducible apply i_lt); ((exact hla))) | walk_at "bvs"))
      refine ⟨bs ++ [b], s, m2, hs, by rw [List.map_append]; rfl, by rw [List.length_append, List.length_singleton, hbl], okBs_snoc hb hb4 hbs, ?_, rfl⟩
      rw [cnts_snoc]
      have hc' : cnt b + m2 = m := hc
      omega
    · rintro acc _ ⟨bs, s, m, hs, rfl, hbl, hbs, hm, rfl⟩
      rw [rngD_length, Int.toNat_natCast] at hbl
      have hsb : (bs.map bodyD).all D.sh = true := by
        rw [List.all_map]
        exact List.all_eq_true.mpr fun c _ => rfl
      (repeat' (first | walk_at "bvs"))
      refine ok _ _ [_, _] rfl ⟨.choose bs, s, m, d_choose.symm, ?_, by simp only [St.cnt]; omega, rfl, hs⟩
      rw [← hd]
      simp only [St.ok]
      exact ⟨by omega, by omega, hbs⟩
  have hin1 : inD false (.int (k : Nat)) (.own [.int 6, .int 7]) = some (.bl false) := by
    have hk12 : k < 12 := by omega
    have : ∀ k : Nat, k < 12 → ¬ (k = 6 ∨ k = 7) → inF (.int (k : Nat)) [.int 6, .int 7] = false := by decide
    exact congrArg (fun b => some (D.bl b)) (this k hk12 k67)
  refine i_join (fun ρ => ρ = envT x s k) ?_ ?_
  · (repeat' (first | ((with_reducible apply i_some); ((with_reducible exact hin1))) | walk_at "bvs"))
    rfl
  rintro _ rfl
  unfold envT
  by_cases k8 : k = 8 ∨ k = 9 ∨ k = 10
  · have hin : inD false (.int (k : Nat)) (.own [.int 8, .int 9, .int 10]) = some (.bl true) := by
      rcases k8 with rfl | rfl | rfl <;> rfl
    have hdp : x.deep ≠ 0 := fun e => by have := hk0 e; omega
    obtain ⟨d, hd⟩ : ∃ d, d + 1 = x.deep := ⟨x.deep - 1, by omega⟩
    have ed : ((x.deep : Nat) : Int) - 1 = ((d : Nat) : Int) := by omega
    (repeat' (first | ((with_reducible apply i_some); ((with_reducible exact hin))) | walk_at "bvs"))
    rw [ed]
    refine fe_dbody (x := { x with store := s, deep := d }) (DA.fit_dn h hs (Nat.le_refl _) hd x.sec) (by show d < f; omega) fun b s m hb hb4 hc hs => ?_
    have hbd : (bodyD b).sh = true := rfl
    have hc' : cnt b + m = x.room := hc
    (repeat' (first | walk_at "bvs"))
    rw [ed]
    refine fe_dbody (x := { x with store := s, room := m, deep := d, sec := true }) (DA.fit_dn h hs (by omega) hd true) (by show d < f; omega) fun c s m2 hb2 hb42 hc2 hs => ?_
    have hcd : (bodyD c).sh = true := rfl
    have hc2' : cnt c + m2 = m := hc2
    (repeat' (first | walk_at "bvs"))
    refine ok _ _ [_, _] rfl ⟨.ens b c, s, m2, d_ens.symm, ?_, by simp only [St.cnt]; omega, rfl, hs⟩
    rw [← hd]
    simp only [St.ok]
    exact ⟨hb, hb2⟩
  have hin2 : inD false (.int (k : Nat)) (.own [.int 8, .int 9, .int 10]) = some (.bl false) := by
    have hk12 : k < 12 := by omega
    have : ∀ k : Nat, k < 12 → ¬ (k = 8 ∨ k = 9 ∨ k = 10) → inF (.int (k : Nat)) [.int 8, .int 9, .int 10] = false := by decide
    exact congrArg (fun b => some (D.bl b)) (this k hk12 k8)
  refine i_join (fun ρ => ρ = envT x s k) ?_ ?_
  · (repeat' (first | ((with_reducible apply i_some); ((with_reducible exact hin2))) | walk_at "bvs"))
    rfl
  rintro _ rfl
  unfold envT
  by_cases k11 : k = 11
  · subst k11
    have hdp : x.deep ≠ 0 := fun e => by have := hk0 e; omega
    obtain ⟨d, hd⟩ : ∃ d, d + 1 = x.deep := ⟨x.deep - 1, by omega⟩
    have ed : ((x.deep : Nat) : Int) - 1 = ((d : Nat) : Int) := by omega
    (repeat' (first | walk_at "bvs"))
    rw [ed]
    refine fe_dbody (x := { x with store := s, deep := d }) (DA.fit_dn h hs (Nat.le_refl _) hd x.sec) (by show d < f; omega) fun b s m hb hb4 hc hs => ?_
    have hbd : (bodyD b).sh = true := rfl
    have hc' : cnt b + m = x.room := hc
    (repeat' (first | walk_at "bvs"))
    refine ok _ _ [_, _] rfl ⟨.loop b, s, m, d_loop.symm, ?_, by simp only [St.cnt]; omega, rfl, hs⟩
    rw [← hd]
    simp only [St.ok]
    exact hb
  have k11d : decide (((k : Nat) : Int) = 11) = false := decide_eq_false (by omega)
  (repeat' (first | walk_at "bvs"))
  refine fe_pick hs (by decide) (by decide) fun i s hi hs => ?_
  obtain ⟨z, hz, hzc⟩ := ix2 (a := .str "do") (b := .str "undo") hi rfl rfl
  have hzs : z.sh = true := by rcases hzc with rfl | rfl <;> rfl
  (repeat' (first | ((with_reducible apply i_some); ((with_reducible exact hz))) | ((with_reducible apply i_some); ((with_reducible exact lL))) | walk_at "bvs"))
  refine fe_pick hs (by omega) (by omega) fun i s hi hs => ?_
  obtain ⟨y, hy, hiy⟩ := ix_nm (ns := x.letters) rfl (k := i) (by omega)
  (repeat' (first | ((with_reducible apply i_some); ((with_reducible exact hiy))) | walk_at "bvs"))
  obtain ⟨un, rfl⟩ : ∃ un : Bool, z = .str (if un = true then "undo" else "do") := by
    rcases hzc with rfl | rfl
    · exact ⟨false, rfl⟩
    · exact ⟨true, rfl⟩
  exact ok _ _ [_, _] rfl ⟨.act un y, s, x.room, d_act.symm, by cases x.deep <;> (simp only [St.ok]; exact hy), by simp only [St.cnt]; omega, rfl, hs⟩
end K12

open PySem PySem.Spec PyProof.Rows L2 BV
namespace K12
open PySem PySem.Spec PyProof.Rows L2 BV
theorem strs_sh (ns : List Str) : (ns.map D.str).all D.sh = true := by simp [D.sh]
theorem fe_program {s : D} {m : Nat} {Q : D → List D → Prop} (h : Sto s) (h1 : 1 ≤ m) (h2 : m ≤ 8) (q : ∀ (p : Prog) (s : D), p.WF → Sto s → Q p.d [s]) : F_program.f [s, .int (m : Nat), .int 30] Q := ⟨(s, m), rfl, ⟨h, h1, h2⟩, fun _ _ ⟨p, s, e1, e2, e3, e4⟩ => by rw [e1, e3]; exact q p s e2 e4⟩
def pairD (q : Str × List St) : D := .tup [.str q.1, bodyD q.2]
theorem pf_program : Pf F_program x__law_program [0] (9 - 3) := pf_ex fun ⟨s, m⟩ h R N ok _ => by
  unfold x__law_program
  simp only [List.map_cons, List.map_nil, List.cons_append, List.nil_append, List.append_nil, List.replicate_succ, List.replicate_zero, Nat.reduceSub]
  obtain ⟨hs, hm1, hm2⟩ := h
  dsimp only at *
  refine i_join (fun ρ => ∃ (ls : List Str) (s : D), (1 ≤ ls.length ∧ ls.length ≤ 20) ∧ ls.Nodup ∧ (∀ n ∈ ls, RN n) ∧ Sto s ∧ ρ = [some s, some (.int (m : Nat)), some (.int 30), some (.lst (ls.map D.str)), none, none, none, none, none]) ?_ ?_
  · (repeat' (first | walk_at "bvs"))
    refine fe_pick hs (by decide) (by decide) fun k s hk hs => ?_
    by_cases hk0 : k = 0
    · have hg : decide ((0 : Int) < ((k : Nat) : Int)) = false := decide_eq_false (by omega)
      (repeat' (first | walk_at "bvs"))
      refine fe_pick hs (by decide) (by decide) fun k s hk hs => ?_
      have e : (1 : Int) + ((k : Nat) : Int) = ((1 + k : Nat) : Int) := by omega
      (repeat' (first | walk_at "bvs"))
      rw [e]
      refine fe_names hs (by omega) (by omega) (.inl rfl) fun ls s h1 h2 h3 hs => ?_
      have hsh := strs_sh ls
      (repeat' (first | walk_at "bvs"))
      exact ⟨ls, s, by omega, h2, h3, hs, rfl⟩
    · have hg : decide ((0 : Int) < ((k : Nat) : Int)) = true := decide_eq_true (by omega)
      (repeat' (first | walk_at "bvs"))
      refine fe_pick hs (by decide) (by decide) fun k s hk hs => ?_
      have e : (1 : Int) + ((k : Nat) : Int) = ((1 + k : Nat) : Int) := by omega
      (repeat' (first | walk_at "bvs"))
      rw [e]
      refine fe_names hs (by omega) (by omega) (.inl rfl) fun ls s h1 h2 h3 hs => ?_
      have hsh := strs_sh ls
      (repeat' (first | walk_at "bvs"))
      exact ⟨ls, s, by omega, h2, h3, hs, rfl⟩
  rintro _ ⟨ls, s, hl, hln, hlr, hs, rfl⟩
  refine i_join (fun ρ => ∃ (ns : List Str) (s : D), (1 ≤ ns.length ∧ ns.length ≤ 8) ∧ ns.Nodup ∧ (∀ n ∈ ns, RN n) ∧ Sto s ∧ ρ = [some s, some (.int (m : Nat)), some (.int 30), some (.lst (ls.map D.str)), some (.lst (ns.map D.str)), none, none, none, none]) ?_ ?_
  · (repeat' (first | walk_at "bvs"))
    refine fe_pick hs (by omega) (by omega) fun k s hk hs => ?_
    have e : (1 : Int) + ((k : Nat) : Int) = ((1 + k : Nat) : Int) := by omega
    (repeat' (first | walk_at "bvs"))
    rw [e]
    refine fe_names hs (by omega) (by omega) (.inr rfl) fun ns s h1 h2 h3 hs => ?_
    have hsh := strs_sh ns
    (repeat' (first | walk_at "bvs"))
    exact ⟨ns, s, by omega, h2, h3, hs, rfl⟩
  rintro _ ⟨ns, s, hn, hnn, hnr, hs, rfl⟩
  have hls := strs_sh ls
  have hns := strs_sh ns
  (repeat' (first | walk_at "bvs"))
  refine fe_pick hs (by decide) (by decide) fun k s hk hs => ?_
  obtain ⟨z, hz, hzc⟩ := ix2 (a := .int 3) (b := .int 6) hk rfl rfl
  obtain ⟨d, hd6, rfl⟩ : ∃ d : Nat, d ≤ 6 ∧ z = .int (d : Nat) := by
    rcases hzc with rfl | rfl
    · exact ⟨3, by decide, rfl⟩
    · exact ⟨6, by decide, rfl⟩
  (repeat' (first | ((with_reducible apply i_some); ((with_reducible exact hz))) | walk_at "bvs"))
  refine ⟨fun k ρ => ∃ (ps : List (Str × List St)) (s : D) (r : Nat) (s8 : Option D), Sto s ∧ ps.map (·.1) = ns.take k ∧ (∀ q ∈ ps, okB ls ns 7 false q.2) ∧ (ps.map fun q => cnt q.2).sum + r = 30 ∧ ρ = [some s, some (.int (m : Nat)), some (.int 30), some (.lst (ls.map D.str)), some (.lst (ns.map D.str)), some (.own [.int (r : Nat)]), some (.own (ps.map pairD)), some (.int (d : Nat)), s8], ⟨[], s, 30, none, hs, rfl, fun q hq => (by cases hq), rfl, rfl⟩, ?_, ?_⟩
  · rintro k z _ hz ⟨ps, s, r, s8, hs, hp1, hp2, hp3, rfl⟩
    rw [List.getElem?_map] at hz
    cases e : ns[k]? with
    | none => rw [e] at hz; cases hz
    | some x =>
      rw [e] at hz
      cases hz
      have hk : k < ns.length := (List.getElem?_eq_some_iff.mp e).1
      have hpl : ps.length = k := by
        have := congrArg List.length hp1
        rw [List.length_map, List.length_take] at this
        omega
      (repeat' (first | walk_at "bvs"))
      refine fe_dbody (x := ⟨ls, ns, s, r, d, false⟩) ⟨hs, hl, by show 1 ≤ ns.length ∧ ns.length ≤ 20; omega, by show r ≤ 30; omega, hd6⟩ (by show d < 7; omega) fun b s m2 hb hb4 hc hs => ?_
      have hbd : (bodyD b).sh = true := rfl
      have hc' : cnt b + m2 = r := hc
      have hla : (ps.map pairD).length < PySem.sizeLine := by rw [List.length_map, sizeLine_eq]; omega
      (repeat' (first | ((with_reducible apply i_lt); ((exact hla))) | walk_at "bvs"))
      refine ⟨ps ++ [(x, b)], s, m2, _, hs, ?_, fun q hq => ?_, ?_, by rw [List.map_append]; rfl⟩
      · rw [List.map_append, hp1, List.take_add_one, e]
        rfl
      · rcases List.mem_append.mp hq with hq | hq
        · exact hp2 q hq
        · cases List.mem_singleton.mp hq
          exact okB_to7 (7 - d) d (by omega) hb
      · rw [List.map_append, List.sum_append]
        show _ + (cnt b + 0) + m2 = 30
        omega
  · rintro _ ⟨ps, s, r, s8, hs, hp1, hp2, hp3, rfl⟩
    rw [List.length_map, List.take_length] at hp1
    have hps : (ps.map pairD).all D.sh = true := by unfold pairD; simp [D.sh]
    (repeat' (first | walk_at "bvs"))
    refine ok _ _ [_] rfl ⟨⟨ls, ps⟩, s, rfl, ⟨⟨hlr, fun x hx => ?_⟩, hl, ?_, hln, ?_, fun q hq => ?_, by show (ps.map fun q => cnt q.2).sum ≤ 30; omega⟩, rfl, hs⟩
    · exact hnr x (by rw [← hp1]; exact hx)
    · show 1 ≤ ps.length ∧ ps.length ≤ 8
      have := congrArg List.length hp1
      rw [List.length_map] at this
      omega
    · show (ps.map (·.1)).Nodup
      rw [hp1]; exact hnn
    · show okB ls (ps.map (·.1)) 7 false q.2
      rw [hp1]; exact hp2 q hq
end K12

open PySem PySem.Spec PyProof.Rows L2 BV
namespace K12
open PySem PySem.Spec PyProof.Rows L2 BV
theorem fe_lay {f j : Nat} {sec : Bool} {p : Prog} {x : LA} {b : List St} {Q : D → List D → Prop} (h0 : x.letters = p.letters ∧ x.names = p.names ∧ p.procs.length ≤ 8) (h1 : okB x.letters x.names j sec b) (h2 : fuel sec j ≤ f ∧ j ≤ 7) (h3 : x.fit) (h4 : (x.body b).2.length ≤ 300) (h5 : x.cs.length + f ≤ 100) (q : Q (.int ((x.body b).1 : Nat)) [.own (x.body b).2]) : (F_layJ f).f [p.d, bodyD b, .int (x.told : Nat), .own x.found, .lst (x.cs.map bodyD)] Q := ⟨(p, x, b), rfl, ⟨h0, ⟨j, sec, h1, h2⟩, h3, h4, h5⟩, fun _ _ ⟨e1, e2⟩ => by rw [e1, e2]; exact q⟩
theorem idx_first {ls : List Str} {x : Str} (h : x ∈ ls) : ls[ls.idxOf x]? = some x ∧ ∀ m, m < ls.idxOf x → ls[m]? ≠ some x := by
  have hl := List.idxOf_lt_length_iff.mpr h
  refine ⟨by rw [List.getElem?_eq_getElem hl, List.getElem_idxOf hl], fun m hm e => ?_⟩
  obtain ⟨h1, h2⟩ := List.getElem?_eq_some_iff.mp e
  have := List.not_of_lt_findIdx (p := (· == x)) (xs := ls) (i := m) hm
  rw [h2] at this
  simp at this
theorem i_ixZ {ls : List Str} {x : Str} {P : Nat → Prop} (h : x ∈ ls) (q : P (ls.idxOf x)) : ∃ (z : Str) (j : Nat), D.str x = .str z ∧ ls[j]? = some z ∧ (∀ m, m < j → ls[m]? ≠ some z) ∧ P j := ⟨x, _, rfl, (idx_first h).1, (idx_first h).2, q⟩
theorem i_lsZ {ls : List Str} {P : List Str → Prop} (q : P ls) : ∃ ys : List Str, D.fz .tpl (ls.map D.str) = .fz .tpl (ys.map D.str) ∧ P ys := ⟨ls, rfl, q⟩
theorem i_lsL {ls : List Str} {P : List Str → Prop} (q : P ls) : ∃ ys : List Str, D.lst (ls.map D.str) = .lst (ys.map D.str) ∧ P ys := ⟨ls, rfl, q⟩
abbrev envL (p : Prog) (x : LA) (b : List St) (found : List D) (begin : Nat) (s8 s9 s10 s11 s12 s13 s14 : Option D) : Ev := [some p.d, some (bodyD b), some (.int (x.told : Nat)), some (.own found), some (.lst (x.cs.map bodyD)), some (.fz .tpl (p.letters.map D.str)), some (.lst (p.names.map D.str)), some (.int (begin : Nat)), s8, s9, s10, s11, s12, s13, s14, none, none]
theorem pf_lay (f : Nat) : Pf (F_layJ (f + 1)) (x__law_lay f) [3] (17 - 5) := pf_ex fun ⟨p, x, b⟩ h R N ok _ => by
  unfold x__law_lay
  simp only [List.map_cons, List.map_nil, List.cons_append, List.nil_append, List.append_nil, List.replicate_succ, List.replicate_zero, Nat.reduceSub]
  obtain ⟨⟨hL, hN, hP⟩, ⟨j, sec, h1, h2⟩, h3, h4, h6⟩ := h
  dsimp only at *
  obtain ⟨W, hW⟩ := x.W h3
  have hps : p.d.sh = true := rfl
  have hp0 := ixp0 p
  have hp1 := ixp1 p
  have hpp : p.pD.seq = some (p.procs.map fun q => D.tup [.str q.1, bodyD q.2]) := rfl
  have sp := procs_sh p
  have hbs : (b.map St.d).all D.sh = true := by
    rw [List.all_map]
    exact List.all_eq_true.mpr fun s _ => by cases s <;> simp only [Function.comp, St.d] <;> rfl
  have hcs : (D.lst (x.cs.map bodyD)).sh = true := rfl
  have hcss : (x.cs.map bodyD).all D.sh = true := by
    rw [List.all_map]
    exact List.all_eq_true.mpr fun c _ => rfl
  have hbd : (bodyD b).sh = true := rfl
  have hls : (D.fz .tpl (p.letters.map D.str)).sh = true := rfl
  have hsz : ∀ c : List St, (x.body c).2.length = x.found.length + szB W c ∧ (x.body c).2.all D.sh = true := fun c => layB_sz x.L c x.told _ W x.found hW h3.2
  refine i_join (fun ρ => ρ = envL p x b x.found x.told none none none none none none none) ?_ ?_
  · (repeat' (first | ((with_reducible apply i_some); ((with_reducible exact hp0))) | ((with_reducible apply i_some); ((with_reducible exact hp1))) | ((with_reducible apply i_some); ((with_reducible exact hpp))) | walk_at "bvs"))
    refine ⟨fun k acc ρ => acc = (p.names.take k).map D.str ∧ ρ = [some p.d, some (bodyD b), some (.int (x.told : Nat)), some (.own x.found), some (.lst (x.cs.map bodyD)), none, none, none, none, none, none, none, none, none, none, none, none], ⟨rfl, rfl⟩, ?_, ?_⟩
    · rintro k z acc _ hz ⟨rfl, rfl⟩
      obtain ⟨q, hq, hqn, rfl⟩ := pr_at2 hz
      have hk : k < p.procs.length := (List.getElem?_eq_some_iff.mp hq).1
      have hla : ((p.names.take k).map D.str).length < PySem.sizeLine := by
        rw [List.length_map, List.length_take, sizeLine_eq]
        omega
      (repeat' (first | ((with_reducible apply i_lt); ((exact hla))) | walk_at "bvs"))
      exact ⟨by rw [List.take_add_one, hqn, Option.toList_some, List.map_append]; rfl, rfl⟩
    · rintro acc _ ⟨rfl, rfl⟩
      have hns := strs_sh p.names
      rw [List.length_map, show p.procs.length = p.names.length by unfold Prog.names; rw [List.length_map], List.take_length]
      (repeat' (first | walk_at "bvs"))
      rfl
  rintro _ rfl
  unfold envL
  have hrev : revD (bodyD b) = some (.tup (b.map St.d).reverse) := rfl
  have hrs : (b.map St.d).reverse.all D.sh = true := by rw [List.all_reverse]; exact hbs
  (repeat' (first | ((with_reducible apply i_some); ((with_reducible exact hrev))) | walk_at "bvs"))
  obtain ⟨J, hJ⟩ : ∃ J : Nat → Ev → Prop, J = fun k ρ => ∃ s8 s9 s10 s11 s12 s13 s14, ρ = envL p x b (x.body (b.drop (b.length - k))).2 (x.body (b.drop (b.length - k))).1 s8 s9 s10 s11 s12 s13 s14 := ⟨_, rfl⟩
  refine ⟨J, by rw [hJ]; exact ⟨none, none, none, none, none, none, none, by rw [Nat.sub_zero, List.drop_length]; rfl⟩, ?_, ?_⟩
  · intro k z ρ hz hk0
    rw [hJ] at hk0
    obtain ⟨s8, s9, s10, s11, s12, s13, s14, rfl⟩ := hk0
    obtain ⟨s, rfl, hs, hd, hk⟩ := rev_at hz
    have hsd : s.d.sh = true := by cases s <;> simp only [St.d] <;> rfl
    have hok := okB_mem h1 s hs
    have hstep : ({ x with found := (x.body (b.drop (b.length - k))).2, told := (x.body (b.drop (b.length - k))).1 } : LA).st s = x.body (b.drop (b.length - (k + 1))) := by
      rw [hd]
      unfold LA.body
      simp only [layB]
      rfl
    have hJn : ∀ s8 s9 s10 s11 s12 s13 s14, J (k + 1) (envL p x b (x.body (b.drop (b.length - (k + 1)))).2 (x.body (b.drop (b.length - (k + 1)))).1 s8 s9 s10 s11 s12 s13 s14) := fun s8 s9 s10 s11 s12 s13 s14 => by
      rw [hJ]
      exact ⟨s8, s9, s10, s11, s12, s13, s14, rfl⟩
    have h5 : (x.body (b.drop (b.length - (k + 1)))).2.length ≤ 300 := by
      rw [(hsz _).1]
      have := szB_drop (W := W) (k := b.length - (k + 1)) (b := b)
      have := (hsz b).1
      omega
    rw [← hstep] at h5 hJn
    have hfs := (hsz (b.drop (b.length - k))).2
    generalize (x.body (b.drop (b.length - k))).2 = found at *
    generalize (x.body (b.drop (b.length - k))).1 = begin at *
    clear hstep hd hz
    unfold envL
    refine i_gname (by repeat (first | exact Put.z | apply Put.s)) ?_
    generalize hJ1 : J (k + 1) = J1 at *
    let y : LA := { x with found := found, told := begin }
    have hyf : y.fit := ⟨h3.1, hfs⟩
    cases s with
    | act un c =>
      have hy : c ∈ p.letters := by cases j <;> (simp only [St.ok] at hok; rw [← hL]; exact hok)
      have e0 : ({ x with found := found, told := begin } : LA).st (.act un c) = (found.length, found ++ [.tup [.str "letter", .int (if un then -(((p.letters.idxOf c : Nat) : Int) + 1) else ((p.letters.idxOf c : Nat) : Int) + 1), .int begin]]) := by
        unfold LA.st
        simp only [St.lay]
        rw [← hL]
        rfl
      rw [e0] at h5 hJn
      have hl : found.length < 300 := by rw [List.length_append, List.length_singleton] at h5; omega
      have hm1 : (((p.letters.idxOf c : Nat) : Int) + 1) * 1 = ((p.letters.idxOf c : Nat) : Int) + 1 := Int.mul_one _
      have hm2 : (((p.letters.idxOf c : Nat) : Int) + 1) * -1 = -(((p.letters.idxOf c : Nat) : Int) + 1) := by omega
      have hx1 : mulD (.int (((p.letters.idxOf c : Nat) : Int) + 1)) (.int 1) = some (.int (((p.letters.idxOf c : Nat) : Int) + 1)) := by rw [mul_s (by decide), hm1]
      have hx2 : mulD (.int (((p.letters.idxOf c : Nat) : Int) + 1)) (.int (-1)) = some (.int (-(((p.letters.idxOf c : Nat) : Int) + 1))) := by rw [mul_s (by decide), hm2]
      have hla : found.length < PySem.sizeLine := by rw [sizeLine_eq]; omega
      rw [d_act]
      cases un with
      | false =>
        (repeat' (first | ((with_reducible apply i_lsZ)) | ((with_reducible apply i_ixZ); (exact hy)) | ((with_reducible apply i_some); ((with_reducible exact hx1))) | ((with_reducible apply i_lt); ((exact hla))) | walk_at "bvs"))
        exact hJn _ _ _ _ _ _ _
      | true =>
        (repeat' (first | ((with_reducible apply i_lsZ)) | ((with_reducible apply i_ixZ); (exact hy)) | ((with_reducible apply i_some); ((with_reducible exact hx2))) | ((with_reducible apply i_lt); ((exact hla))) | walk_at "bvs"))
        exact hJn _ _ _ _ _ _ _
    | call c =>
      have hy : c ∈ p.names := by cases j <;> (simp only [St.ok] at hok; rw [← hN]; exact hok)
      have e0 : ({ x with found := found, told := begin } : LA).st (.call c) = (found.length, found ++ [.tup [.str "call", .int (p.names.idxOf c : Nat), .int begin]]) := by
        unfold LA.st
        simp only [St.lay]
        rw [← hN]
        rfl
      rw [e0] at h5 hJn
      have hl : found.length < 300 := by rw [List.length_append, List.length_singleton] at h5; omega
      have hla : found.length < PySem.sizeLine := by rw [sizeLine_eq]; omega
      have hns : (D.lst (p.names.map D.str)).sh = true := rfl
      rw [d_call]
      (repeat' (first | ((with_reducible apply i_lsL)) | ((with_reducible apply i_ixZ); (exact hy)) | ((with_reducible apply i_lt); ((exact hla))) | walk_at "bvs"))
      exact hJn _ _ _ _ _ _ _
    | ret =>
      have hs0 : sec = false := by cases j <;> (simp only [St.ok] at hok; exact hok)
      subst hs0
      have hf8 : 8 ≤ f := by have : j + 9 ≤ f + 1 := h2.1; omega
      have e0 : ({ x with found := found, told := begin } : LA).st .ret = retK y y.cs.length := by unfold LA.st retK; rw [List.take_length]; simp only [St.lay]; rfl
      rw [e0] at h5 hJn
      have hWy : SecW (secs y.L y.cs) W := hW
      have hWl : y.found.length + W ≤ 300 := by
        have h7 := (foldl_sec hWy (0, y.found) hyf.2).1
        have : (retK y y.cs.length).2.length = y.found.length + W := by unfold retK; rw [List.take_length]; exact h7
        omega
      rw [d_ret]
      (repeat' (first | walk_at "bvs"))
      refine ⟨fun k ρ => ∃ s11, ρ = [some p.d, some (bodyD b), some (.int (x.told : Nat)), some (.own (retK y k).2), some (.lst (x.cs.map bodyD)), some (.fz .tpl (p.letters.map D.str)), some (.lst (p.names.map D.str)), some (.int ((retK y k).1 : Nat)), some (.tup [.str "return"]), some (.str "return"), some (.int (begin : Nat)), s11, s12, s13, s14, none, none], ⟨s11, rfl⟩, ?_, ?_⟩
      · rintro m z _ hz ⟨s11, rfl⟩
        obtain ⟨c, hc, rfl⟩ := cs_at hz
        obtain ⟨i, hi, hokc⟩ := h3.1 c (List.mem_of_getElem? hc)
        have hcd : (bodyD c).sh = true := rfl
        have e := retK_succ (x := y) hc
        obtain ⟨q1, q2⟩ := retK_sz hyf hWy m
        obtain ⟨q3, q4⟩ := retK_sz hyf hWy (m + 1)
        let v : LA := { y with found := (retK y m).2, told := (retK y m).1, cs := [] }
        have hv : v.fit := ⟨(fun c h => by cases h), q2⟩
        have hlen : (v.body c).2.length ≤ 300 := by rw [← e]; omega
        have hfu : fuel true i ≤ f := by show i + 1 ≤ f; omega
        (repeat' (first | walk_at "bvs"))
        refine fe_lay (x := v) ⟨hL, hN, hP⟩ hokc ⟨hfu, hi⟩ hv hlen (by show 0 + f ≤ 100; omega) ?_
        rw [← e]
        (repeat' (first | walk_at "bvs"))
        exact ⟨_, rfl⟩
      · rintro _ ⟨s11, rfl⟩
        rw [List.length_map]
        (repeat' (first | walk_at "bvs"))
        exact hJn _ _ _ _ _ _ _
    | loop c =>
      cases j with
      | zero => simp only [St.ok] at hok
      | succ j =>
        simp only [St.ok] at hok
        have hdn := fuel_dn h2
        let v : LA := { x with found := found ++ [.non], told := found.length }
        have e0 : ({ x with found := found, told := begin } : LA).st (.loop c) = (found.length, (v.body c).2.set found.length (.tup [.str "fork", .tup [.int ((v.body c).1 : Nat), .int begin]])) := by unfold LA.st; simp only [St.lay]; rfl
        rw [e0] at h5 hJn
        have hv : v.fit := ⟨h3.1, all_app hyf.2 rfl⟩
        have hvs := layB_sz v.L c v.told _ W v.found hW hv.2
        have hvl : (v.body c).2.length = found.length + 1 + szB W c := by
          have := hvs.1
          rw [show v.found.length = found.length + 1 from List.length_append] at this
          exact this
        have hvsh : (v.body c).2.all D.sh = true := hvs.2
        rw [List.length_set] at h5
        have hla : found.length < PySem.sizeLine := by rw [sizeLine_eq]; omega
        have hbc : (bodyD c).sh = true := rfl
        have hix : ixN (v.body c).2.length ((found.length : Nat) : Int) = some found.length := ixN_nat (by omega)
        have hls' : ∀ e : D, LSet (v.body c).2 found.length e ((v.body c).2.set found.length e) := fun e => lset_of (by omega)
        have hdl : (St.loop c).d = .tup [.str "loop", bodyD c] := d_loop
        rw [hdl]
        (repeat' (first | ((with_reducible apply i_lt); ((exact hla))) | walk_at "bvs"))
        refine fe_lay (x := v) ⟨hL, hN, hP⟩ hok hdn hv h5 (by show x.cs.length + f ≤ 100; omega) ?_
        (repeat' (first | ((with_reducible apply i_set); (exact hix); (exact hls' _); ((repeat (first | exact Put.z | apply Put.s)))) | walk_at "bvs"))
        exact hJn _ _ _ _ _ _ _
    | choose bs =>
      cases j with
      | zero => simp only [St.ok] at hok
      | succ j =>
        simp only [St.ok] at hok
        obtain ⟨hb2, hb6, hok⟩ := hok
        have hdn := fuel_dn h2
        let r : Nat → List Nat × List D := fun k => layBs y.L y.told (secs y.L y.cs) y.found (bs.take k)
        have er : ∀ k, r k = layBs y.L y.told (secs y.L y.cs) y.found (bs.take k) := fun _ => rfl
        have e0 : ({ x with found := found, told := begin } : LA).st (.choose bs) = ((r bs.length).2.length, (r bs.length).2 ++ [.tup [.str "fork", .tup ((r bs.length).1.map fun n => .int (n : Nat))]]) := by
          rw [er, List.take_length]
          unfold LA.st
          simp only [St.lay]
          rfl
        rw [e0] at h5 hJn
        have hsz2 : ∀ k, (r k).2.length = y.found.length + szBs W (bs.take k) ∧ (r k).2.all D.sh = true := fun k => layBs_sz y.L (bs.take k) y.told _ W y.found hW hyf.2
        have hmono : ∀ k, (r k).2.length ≤ (r bs.length).2.length := fun k => by
          rw [(hsz2 k).1, (hsz2 bs.length).1, List.take_length]
          have := szBs_take (W := W) (k := k) (b := bs)
          omega
        rw [List.length_append, List.length_singleton] at h5
        have hl : (r bs.length).2.length < 300 := by omega
        have hlz : (r bs.length).2.length < PySem.sizeLine := by rw [sizeLine_eq]; omega
        have hbss : (bs.map bodyD).all D.sh = true := by
          rw [List.all_map]
          exact List.all_eq_true.mpr fun c _ => rfl
        have hdc : (St.choose bs).d = .tup [.str "choose", .tup (bs.map bodyD)] := d_choose
        rw [hdc]
        (repeat' (first | walk_at "bvs"))
        refine ⟨fun k acc ρ => acc = (r k).1.map (fun n => D.int (n : Nat)) ∧ ρ = [some p.d, some (bodyD b), some (.int (x.told : Nat)), some (.own (r k).2), some (.lst (x.cs.map bodyD)), some (.fz .tpl (p.letters.map D.str)), some (.lst (p.names.map D.str)), some (.int (begin : Nat)), some (.tup [.str "choose", .tup (bs.map bodyD)]), some (.str "choose"), some (.int (begin : Nat)), s11, s12, s13, s14, none, none], ⟨by simp only [er, List.take_zero, layBs]; rfl, by simp only [er, List.take_zero, layBs]; rfl⟩, ?_, ?_⟩
        · rintro k z acc _ hz ⟨rfl, rfl⟩
          obtain ⟨c, hc, rfl⟩ := cs_at hz
          have hcd : (bodyD c).sh = true := rfl
          have hkl : k < bs.length := (List.getElem?_eq_some_iff.mp hc).1
          have e := layBs_take (L := y.L) (told := y.told) (secs := secs y.L y.cs) (found := y.found) hc
          rw [← er, ← er] at e
          let v : LA := { y with found := (r k).2 }
          have hv : v.fit := ⟨h3.1, (hsz2 k).2⟩
          have e2 : (r (k + 1)).2 = (v.body c).2 := by rw [e]; rfl
          have e1 : (r (k + 1)).1 = (r k).1 ++ [(v.body c).1] := by rw [e]; rfl
          have hlen : (v.body c).2.length ≤ 300 := by rw [← e2]; have := hmono (k + 1); omega
          have hokc := okBs_mem hok c (List.mem_of_getElem? hc)
          (repeat' (first | walk_at "bvs"))
          refine fe_lay (x := v) ⟨hL, hN, hP⟩ hokc hdn hv hlen (by show x.cs.length + f ≤ 100; omega) ?_
          have hla : ((r k).1.map fun n => D.int (n : Nat)).length < PySem.sizeLine := by
            rw [List.length_map, er, layBs_len, List.length_take, sizeLine_eq]
            omega
          (repeat' (first | ((with_reducible apply i_lt); ((exact hla))) | walk_at "bvs"))
          exact ⟨by rw [e1, List.map_append]; rfl, by rw [e2]; rfl⟩
        · rintro acc _ ⟨rfl, rfl⟩
          rw [List.length_map]
          have hsh : ((r bs.length).1.map fun n => D.int (n : Nat)).all D.sh = true := by simp [D.sh]
          (repeat' (first | ((with_reducible apply i_lt); ((exact hlz))) | walk_at "bvs"))
          exact hJn _ _ _ _ _ _ _
    | ens c e =>
      cases j with
      | zero => simp only [St.ok] at hok
      | succ j =>
        simp only [St.ok] at hok
        have hdn := fuel_dn h2
        have hds := fuel_sec h2
        let v : LA := { y with cs := [] }
        let u : LA := { y with found := (v.body e).2, told := (v.body e).1, cs := y.cs ++ [e] }
        have e0 : ({ x with found := found, told := begin } : LA).st (.ens c e) = u.body c := by
          unfold LA.st LA.body
          simp only [St.lay]
          show _ = layB x.L (v.body e).1 (secs x.L (x.cs ++ [e])) (v.body e).2 c
          rw [secs_snoc]
          rfl
        rw [e0] at h5 hJn
        have hv : v.fit := ⟨(fun c h => by cases h), hyf.2⟩
        have hvs := layB_sz v.L e v.told [] 0 v.found .nil hyf.2
        have hu : u.fit := by
          refine ⟨fun d hd => ?_, hvs.2⟩
          rcases List.mem_append.mp hd with hd | hd
          · exact h3.1 d hd
          · cases List.mem_singleton.mp hd
            exact ⟨j, hds.2, hok.2⟩
        obtain ⟨V, hV⟩ := u.W hu
        have hus := layB_sz u.L c u.told _ V u.found hV hu.2
        have hvl : (v.body e).2.length ≤ 300 := by
          have h7 : (u.body c).2.length = (v.body e).2.length + szB V c := hus.1
          omega
        have hbc : (bodyD c).sh = true := rfl
        have hbe : (bodyD e).sh = true := rfl
        have hadd : addD (.lst (x.cs.map bodyD)) (.own [bodyD e]) = some (.own ((x.cs ++ [e]).map bodyD)) := by
          rw [List.map_append]
          exact addLO (by rw [List.length_map, List.length_singleton, sizeLine_eq]; omega) rfl
        have hcsh : ((x.cs ++ [e]).map bodyD).all D.sh = true := by
          rw [List.all_map]
          exact List.all_eq_true.mpr fun c _ => rfl
        have hde : (St.ens c e).d = .tup [.str "ensure", bodyD c, bodyD e] := d_ens
        rw [hde]
        (repeat' (first | walk_at "bvs"))
        refine fe_lay (x := v) ⟨hL, hN, hP⟩ hok.2 hds hv hvl (by show 0 + f ≤ 100; omega) ?_
        (repeat' (first | ((with_reducible apply i_some); ((with_reducible exact hadd))) | walk_at "bvs"))
        refine fe_lay (x := u) ⟨hL, hN, hP⟩ hok.1 hdn hu h5 (by show (x.cs ++ [e]).length + f ≤ 100; rw [List.length_append, List.length_singleton]; omega) ?_
        (repeat' (first | walk_at "bvs"))
        exact hJn _ _ _ _ _ _ _
  · intro ρ hk0
    rw [hJ] at hk0
    obtain ⟨s8, s9, s10, s11, s12, s13, s14, rfl⟩ := hk0
    unfold envL
    rw [List.length_reverse, List.length_map, Nat.sub_self, List.drop_zero]
    (repeat' (first | walk_at "bvs"))
    exact ok _ _ [_] rfl ⟨rfl, rfl⟩
end K12

open PySem PySem.Spec PyProof.Rows L2 BV
namespace K12
open PySem PySem.Spec PyProof.Rows L2 BV
theorem pf_lplaces : Pf F_lplaces x__law_places [] (6 - 1) := pf_ex fun p h R N ok _ => by
  unfold x__law_places
  simp only [List.map_cons, List.map_nil, List.cons_append, List.nil_append, List.append_nil, List.replicate_succ, List.replicate_zero, Nat.reduceSub]
  have hs : p.d.sh = true := rfl
  have hp1 := ixp1 p
  have hpp : p.pD.seq = some (p.procs.map fun q => D.tup [.str q.1, bodyD q.2]) := rfl
  have sp := procs_sh p
  have p1 := h.p1
  (repeat' (first | ((with_reducible apply i_some); ((with_reducible exact hp1))) | ((with_reducible apply i_some); ((with_reducible exact hpp))) | walk_at "bvs"))
  refine ⟨fun k ρ => ∃ s2 s3 s4 s5, ρ = [some p.d, some (.own ((p.procs.take k).map (prD p))), s2, s3, s4, s5], ⟨none, none, none, none, rfl⟩, ?_, ?_⟩
  · rintro k z _ hz ⟨s2, s3, s4, s5, rfl⟩
    obtain ⟨q, hq, rfl⟩ := pr_at hz
    have hqm := List.mem_of_getElem? hq
    have hbd : (bodyD q.2).sh = true := rfl
    have hok := h.ok q hqm
    have htf := LA.top_fit p
    have htl := LA.top_len h hqm
    have hts : ((LA.top p).body q.2).2.all D.sh = true := LA.top_sh
    (repeat' (first | walk_at "bvs"))
    refine fe_lay (x := LA.top p) ⟨rfl, rfl, p1.2⟩ hok (by decide) htf htl (by show 0 + 17 ≤ 100; decide) ?_
    have hla : ((p.procs.take k).map (prD p)).length < PySem.sizeLine := by
      rw [List.length_map, List.length_take, sizeLine_eq]
      omega
    (repeat' (first | ((with_reducible apply i_lt); ((exact hla))) | walk_at "bvs"))
    have e : (p.procs.take (k + 1)).map (prD p) = (p.procs.take k).map (prD p) ++ [prD p q] := by
      rw [List.take_add_one, hq, Option.toList_some, List.map_append]
      rfl
    dsimp only
    rw [e]
    exact ⟨_, _, _, _, rfl⟩
  · rintro _ ⟨s2, s3, s4, s5, rfl⟩
    rw [List.length_map, List.take_length]
    have hsp : (p.procs.map (prD p)).all D.sh = true := by unfold prD; simp [D.sh]
    (repeat' (first | walk_at "bvs"))
    exact ok _ _ [] rfl ⟨rfl, rfl⟩
/-! ### what places tells is plain -/
def Pu (found : List D) : Prop := ∀ d ∈ found, pure1 3 d = true
theorem Pu.app {xs : List D} {d : D} (h : Pu xs) (e : pure1 3 d = true) : Pu (xs ++ [d]) := fun z hz => by
  rcases List.mem_append.mp hz with hz | hz
  · exact h z hz
  · cases List.mem_singleton.mp hz; exact e
theorem Pu.set {xs : List D} {i : Nat} {d : D} (h : Pu xs) (e : pure1 3 d = true) : Pu (xs.set i d) := fun z hz => by
  rcases List.mem_or_eq_of_mem_set hz with q | q
  · exact h z q
  · rw [q]; exact e
theorem pures_map {α : Type} {n : Nat} {f : α → D} (h : ∀ x, pure1 n (f x) = true) : ∀ l : List α, pures n (l.map f) = true
  | [] => rfl
  | x :: l => by
    show (pure1 n (f x) && pures n (l.map f)) = true
    rw [h x, pures_map h l]
    rfl
theorem pures_all {n : Nat} : ∀ {l : List D}, (∀ d ∈ l, pure1 n d = true) → pures n l = true
  | [], _ => rfl
  | d :: l, h => by
    show (pure1 n d && pures n l) = true
    rw [h d List.mem_cons_self, pures_all fun z hz => h z (List.mem_cons_of_mem _ hz)]
    rfl
def SecPu (secs : List Sec) : Prop := ∀ f ∈ secs, ∀ found told, Pu found → Pu (f found told).2
theorem foldl_pu : ∀ {fs : List Sec}, SecPu fs → ∀ r : Nat × List D, Pu r.2 → Pu (fs.foldl (fun (r : Nat × List D) (f : Sec) => f r.2 r.1) r).2
  | [], _, r, e => e
  | f :: fs, h, r, e => foldl_pu (fs := fs) (fun g hg => h g (List.mem_cons_of_mem _ hg)) (f r.2 r.1) (h f List.mem_cons_self _ _ e)
mutual
theorem lay_pu (L : Lt) {letters names : List Str} : ∀ (s : St) (j : Nat) (sec : Bool) (told : Nat) (secs : List Sec) (found : List D), s.ok letters names j sec → SecPu secs → Pu found → Pu (s.lay L told secs found).2
  | .act un x, j, sec, told, secs, found, ho, h, e => by
    simp only [St.lay]
    exact e.app rfl
  | .call x, j, sec, told, secs, found, ho, h, e => by
    simp only [St.lay]
    exact e.app rfl
  | .ret, j, sec, told, secs, found, ho, h, e => by
    simp only [St.lay]
    exact foldl_pu h (0, found) e
  | .loop b, j, sec, told, secs, found, ho, h, e => by
    cases j with
    | zero => simp only [St.ok] at ho
    | succ j =>
      simp only [St.ok] at ho
      simp only [St.lay]
      refine Pu.set (layB_pu L b j sec found.length secs (found ++ [.non]) ho h (e.app rfl)) ?_
      rfl
  | .choose bs, j, sec, told, secs, found, ho, h, e => by
    cases j with
    | zero => simp only [St.ok] at ho
    | succ j =>
      simp only [St.ok] at ho
      simp only [St.lay]
      refine (layBs_pu L bs j sec told secs found ho.2.2 h e).app ?_
      have hl := layBs_len (L := L) (told := told) (secs := secs) bs found
      have hp : pures 1 ((layBs L told secs found bs).1.map fun n => D.int (n : Nat)) = true := pures_map (fun _ => rfl) _
      simp only [pure1, pures, Bool.and_true, Bool.true_and, hp, List.length_map, hl]
      rw [decide_eq_true (show bs.length ≤ 1000000 by omega)]
      rfl
  | .ens b c, j, sec, told, secs, found, ho, h, e => by
    cases j with
    | zero => simp only [St.ok] at ho
    | succ j =>
      simp only [St.ok] at ho
      simp only [St.lay]
      have h0 : SecPu [] := fun f hf => by cases hf
      have hc := layB_pu L c j true told [] found ho.2 h0 e
      refine layB_pu L b j sec _ _ _ ho.1 (fun f hf => ?_) hc
      rcases List.mem_append.mp hf with hf | hf
      · exact h f hf
      · cases List.mem_singleton.mp hf
        exact fun f2 t2 e2 => layB_pu L c j true t2 [] f2 ho.2 h0 e2
theorem layB_pu (L : Lt) {letters names : List Str} : ∀ (b : List St) (j : Nat) (sec : Bool) (told : Nat) (secs : List Sec) (found : List D), okB letters names j sec b → SecPu secs → Pu found → Pu (layB L told secs found b).2
  | [], j, sec, told, secs, found, ho, h, e => by
    simp only [layB]
    exact e
  | s :: b, j, sec, told, secs, found, ho, h, e => by
    simp only [okB] at ho
    simp only [layB]
    exact lay_pu L s j sec _ secs _ ho.1 h (layB_pu L b j sec told secs found ho.2 h e)
theorem layBs_pu (L : Lt) {letters names : List Str} : ∀ (bs : List (List St)) (j : Nat) (sec : Bool) (told : Nat) (secs : List Sec) (found : List D), okBs letters names j sec bs → SecPu secs → Pu found → Pu (layBs L told secs found bs).2
  | [], j, sec, told, secs, found, ho, h, e => by
    simp only [layBs]
    exact e
  | b :: bs, j, sec, told, secs, found, ho, h, e => by
    simp only [okBs] at ho
    simp only [layBs]
    exact layBs_pu L bs j sec told secs _ ho.2.2 h (layB_pu L b j sec told secs found ho.1 h e)
end
theorem pure_places {p : Prog} (h : p.WF) : pure1 6 (placesD p) = true := by
  have hq : ∀ q ∈ p.procs, pure1 5 (prD p q) = true := fun q hq => by
    have hp : Pu ((LA.top p).body q.2).2 := layB_pu _ q.2 7 false 0 [] [.tup [.str "end"]] (h.ok q hq) (fun f hf => by cases hf) (fun d hd => by cases List.mem_singleton.mp hd; rfl)
    have hl := LA.top_len h hq
    unfold prD
    simp only [pure1, pures, Bool.and_true, Bool.true_and]
    rw [pures_all (n := 3) hp, decide_eq_true (show ((LA.top p).body q.2).2.length ≤ 1000000 by omega)]
    rfl
  rw [placesD_pr]
  simp only [pure1]
  rw [pures_all (n := 5) (fun d hd => by
    obtain ⟨q, hq2, rfl⟩ := List.mem_map.mp hd
    exact hq q hq2), decide_eq_true (by rw [List.length_map]; have := h.p1; omega)]
  rfl
/-! ### programs are shown -/
structure Shw (d : D) (w k : Nat) : Prop where
  pl : d.pl = true
  sh : d.py.showable = true
  nd : d.py.hasDict = false
  lf : PyData.leavesShort 8 d.py = true
  wt : d.py.weight ≤ w
  dp : d.py.depth ≤ k
structure Shws (ds : List D) (w k : Nat) : Prop where
  pl : D.pls ds = true
  sh : PyData.showableAll (D.pys ds) = true
  nd : PyData.hasDictAll (D.pys ds) = false
  lf : PyData.leavesShortAll 8 (D.pys ds) = true
  wt : PyData.weightAll (D.pys ds) ≤ w
  dp : PyData.depthAll (D.pys ds) ≤ k
theorem Shw.str {x : Str} {w k : Nat} (h : PyData.strOk x = true) (hw : x.length ≤ w) (hk : 1 ≤ k) : Shw (.str x) w k := by
  refine ⟨rfl, ?_, ?_, ?_, ?_, ?_⟩
  · simp only [D.py, PyData.showable]
  · simp only [D.py, PyData.hasDict]
  · simp only [D.py, PyData.leavesShort]
    unfold PyData.strOk at h
    rw [← Array.all_toList, List.all_eq_true] at h
    refine List.all_eq_true.mpr fun c hc => decide_eq_true ?_
    have := of_decide_eq_true (h c hc)
    omega
  · simp only [D.py, PyData.weight]
    exact hw
  · simp only [D.py, PyData.depth]
    omega
theorem Shws.nil {w k : Nat} : Shws [] w k := by
  refine ⟨rfl, ?_, ?_, ?_, ?_, ?_⟩ <;> simp only [D.pys, PyData.showableAll, PyData.hasDictAll, PyData.leavesShortAll, PyData.weightAll, PyData.depthAll] <;> omega
theorem Shws.cons {d : D} {ds : List D} {w w2 k : Nat} (h : Shw d w k) (h2 : Shws ds w2 k) : Shws (d :: ds) (w + 1 + w2) k := by
  refine ⟨?_, ?_, ?_, ?_, ?_, ?_⟩
  · show (d.pl && D.pls ds) = true
    rw [h.pl, h2.pl]; rfl
  · simp only [D.pys, PyData.showableAll]
    rw [h.sh, h2.sh]; rfl
  · simp only [D.pys, PyData.hasDictAll]
    rw [h.nd, h2.nd]; rfl
  · simp only [D.pys, PyData.leavesShortAll]
    rw [h.lf, h2.lf]; rfl
  · simp only [D.pys, PyData.weightAll]
    have := h.wt
    have := h2.wt
    omega
  · simp only [D.pys, PyData.depthAll]
    have := h.dp
    have := h2.dp
    omega
theorem Shws.up {ds : List D} {w w2 k k2 : Nat} (h : Shws ds w k) (hw : w ≤ w2) (hk : k ≤ k2) : Shws ds w2 k2 := ⟨h.pl, h.sh, h.nd, h.lf, Nat.le_trans h.wt hw, Nat.le_trans h.dp hk⟩
theorem Shw.tup {ds : List D} {w k : Nat} (h : Shws ds w k) : Shw (.tup ds) w (k + 1) := by
  refine ⟨h.pl, ?_, ?_, ?_, ?_, ?_⟩ <;> simp only [D.py, PyData.showable, PyData.hasDict, PyData.leavesShort, PyData.weight, PyData.depth]
  · exact h.sh
  · exact h.nd
  · exact h.lf
  · exact h.wt
  · exact Nat.succ_le_succ h.dp
theorem Shw.tpl {ds : List D} {w k : Nat} (h : Shws ds w k) : Shw (.fz .tpl ds) w (k + 1) := by
  refine ⟨h.pl, ?_, ?_, ?_, ?_, ?_⟩ <;> simp only [D.py, PyData.showable, PyData.hasDict, PyData.leavesShort, PyData.weight, PyData.depth]
  · exact h.sh
  · exact h.nd
  · exact h.lf
  · exact h.wt
  · exact Nat.succ_le_succ h.dp
theorem Shw.up {d : D} {w w2 k k2 : Nat} (h : Shw d w k) (hw : w ≤ w2) (hk : k ≤ k2) : Shw d w2 k2 := ⟨h.pl, h.sh, h.nd, h.lf, Nat.le_trans h.wt hw, Nat.le_trans h.dp hk⟩
theorem shw_word {x : Str} (h : x ∈ (["do", "undo", "call", "return", "loop", "choose", "ensure"] : List Str)) {k : Nat} (hk : 1 ≤ k) : Shw (.str x) 6 k := by
  have key : ∀ x ∈ (["do", "undo", "call", "return", "loop", "choose", "ensure"] : List Str), PyData.strOk x = true ∧ x.length ≤ 6 := by decide +kernel
  obtain ⟨h1, h2⟩ := key x h
  exact .str h1 h2 hk
theorem shw_name {x : Str} (h : RN x) {k : Nat} (hk : 1 ≤ k) : Shw (.str x) 10 k := .str h.strOk h.len.2 hk
theorem shw_map {α : Type} {f : α → D} {g : α → Nat} {k : Nat} : ∀ {l : List α}, (∀ x ∈ l, Shw (f x) (g x) k) → Shws (l.map f) (l.map fun x => g x + 1).sum k
  | [], _ => .nil
  | x :: l, h => by
    rw [List.map_cons, List.map_cons, List.sum_cons]
    exact .cons (h x List.mem_cons_self) (shw_map fun y hy => h y (List.mem_cons_of_mem _ hy))
theorem sum_20 {b : List St} : (b.map fun s => 20 * s.cnt - 1 + 1).sum = 20 * cnt b := by
  induction b with
  | nil => rfl
  | cons s b ih =>
    rw [List.map_cons, List.sum_cons, ih]
    have : 1 ≤ s.cnt := by rw [cnt_bodies]; omega
    simp only [cnt]
    omega
theorem sum_bs {bs : List (List St)} : (bs.map fun b => 20 * cnt b + 1).sum = 20 * cnts bs + bs.length := by
  induction bs with
  | nil => rfl
  | cons s b ih =>
    rw [List.map_cons, List.sum_cons, ih]
    simp only [cnts, List.length_cons]
    omega
theorem shw_ok {letters names : List Str} (h : Nms letters names) : ∀ (j : Nat) (sec : Bool) (s : St), s.ok letters names j sec → Shw s.d (20 * s.cnt - 1) (3 * j + 2) := by
  have body : ∀ (j : Nat), (∀ (sec : Bool) (s : St), s.ok letters names j sec → Shw s.d (20 * s.cnt - 1) (3 * j + 2)) → ∀ (sec : Bool) (b : List St), okB letters names j sec b → Shw (bodyD b) (20 * cnt b) (3 * j + 3) := fun j ih sec b k => by
    unfold bodyD
    have := shw_map (f := St.d) (g := fun s => 20 * s.cnt - 1) (l := b) (k := 3 * j + 2) fun s hs => ih sec s (okB_mem k s hs)
    rw [sum_20] at this
    exact .tup this
  have leaf : ∀ (w x : Str) (k : Nat), w ∈ (["do", "undo", "call", "return", "loop", "choose", "ensure"] : List Str) → RN x → 2 ≤ k → Shw (.tup [.str w, .str x]) (20 * 1 - 1) k := fun w x k hw hx hk => by
    refine (Shw.tup (.cons (shw_word hw (k := 1) (by decide)) (.cons (shw_name hx (by decide)) .nil (w2 := 0)))).up (by decide) hk
  have rt : ∀ k, 2 ≤ k → Shw (.tup [.str "return"]) (20 * 1 - 1) k := fun k hk =>
    (Shw.tup (.cons (shw_word (x := "return") (by simp) (k := 1) (by decide)) .nil (w2 := 0))).up (by decide) hk
  intro j
  induction j with
  | zero =>
    intro sec s k
    cases s with
    | act un x => rw [d_act]; simp only [St.ok] at k; simp only [St.cnt]; exact leaf _ x _ (by cases un <;> simp) (h.l x k) (by omega)
    | call x => rw [d_call]; simp only [St.ok] at k; simp only [St.cnt]; exact leaf _ x _ (by simp) (h.n x k) (by omega)
    | ret => rw [d_ret]; simp only [St.cnt]; exact rt _ (by omega)
    | _ => simp only [St.ok] at k
  | succ j ih =>
    intro sec s k
    cases s with
    | act un x => rw [d_act]; simp only [St.ok] at k; simp only [St.cnt]; exact leaf _ x _ (by cases un <;> simp) (h.l x k) (by omega)
    | call x => rw [d_call]; simp only [St.ok] at k; simp only [St.cnt]; exact leaf _ x _ (by simp) (h.n x k) (by omega)
    | ret => rw [d_ret]; simp only [St.cnt]; exact rt _ (by omega)
    | loop b =>
      simp only [St.ok] at k
      have t := body j ih sec b k
      rw [d_loop]
      simp only [St.cnt]
      exact (Shw.tup (.cons (shw_word (x := "loop") (by simp) (k := 3 * j + 3) (by omega)) (.cons t .nil (w2 := 0)))).up (by omega) (by omega)
    | choose bs =>
      simp only [St.ok] at k
      have t := shw_map (f := bodyD) (g := fun b => 20 * cnt b) (l := bs) (k := 3 * j + 3) fun b hb => body j ih sec b (okBs_mem k.2.2 b hb)
      rw [sum_bs] at t
      rw [d_choose]
      simp only [St.cnt]
      exact (Shw.tup (.cons (shw_word (x := "choose") (by simp) (k := 3 * j + 4) (by omega)) (.cons (Shw.tup t) .nil (w2 := 0)))).up (by omega) (by omega)
    | ens b c =>
      simp only [St.ok] at k
      have t1 := body j ih sec b k.1
      have t2 := body j ih true c k.2
      rw [d_ens]
      simp only [St.cnt]
      exact (Shw.tup (.cons (shw_word (x := "ensure") (by simp) (k := 3 * j + 3) (by omega)) (.cons t1 (.cons t2 .nil (w2 := 0))))).up (by omega) (by omega)
theorem shw_body {letters names : List Str} (h : Nms letters names) {j : Nat} {sec : Bool} {b : List St} (k : okB letters names j sec b) : Shw (bodyD b) (20 * cnt b) (3 * j + 3) := by
  unfold bodyD
  have := shw_map (f := St.d) (g := fun s => 20 * s.cnt - 1) (l := b) (k := 3 * j + 2) fun s hs => shw_ok h j sec s (okB_mem k s hs)
  rw [sum_20] at this
  exact .tup this
theorem sum_pr {ps : List (Str × List St)} : (ps.map fun q => 20 * cnt q.2 + 12 + 1).sum = 20 * (ps.map fun q => cnt q.2).sum + 13 * ps.length := by
  induction ps with
  | nil => rfl
  | cons s b ih =>
    rw [List.map_cons, List.sum_cons, ih, List.map_cons, List.sum_cons, List.length_cons]
    omega
theorem sum_ls {ls : List Str} : (ls.map fun _ => 10 + 1).sum = 11 * ls.length := by
  induction ls with
  | nil => rfl
  | cons s b ih =>
    rw [List.map_cons, List.sum_cons, ih, List.length_cons]
    omega
theorem shw_prog {p : Prog} (h : p.WF) : Shw p.d 2000 40 := by
  have t1 := shw_map (f := D.str) (g := fun _ => 10) (l := p.letters) (k := 1) fun x hx => shw_name (h.nm.l x hx) (by decide)
  rw [sum_ls] at t1
  have t2 := shw_map (f := fun q : Str × List St => D.tup [.str q.1, bodyD q.2]) (g := fun q => 20 * cnt q.2 + 12) (l := p.procs) (k := 25) fun q hq =>
    (Shw.tup (.cons (shw_name (h.nm.n q.1 (List.mem_map.mpr ⟨q, hq, rfl⟩)) (k := 24) (by decide)) (.cons (shw_body h.nm (h.ok q hq)) .nil (w2 := 0)))).up (by omega) (by decide)
  rw [sum_pr] at t2
  have h1 := h.l1
  have h2 := h.p1
  have h3 := h.cn
  have a1 : Shw p.lD (11 * p.letters.length) 26 := (Shw.tpl t1).up (Nat.le_refl _) (by decide)
  exact (Shw.tup (.cons a1 (.cons (Shw.tup t2) .nil (w2 := 0)))).up (by omega) (by decide)
theorem shown_prog {p : Prog} (h : p.WF) : p.d.py.shown.length ≤ PySem.sizeLine := by
  have t := shw_prog h
  have := PyData.shown_le 8 (by decide) p.d.py t.lf
  have := t.wt
  rw [sizeLine_eq]
  omega
end K12

open PySem PySem.Spec PyProof.Rows L2 BV
namespace K12
open PySem PySem.Spec PyProof.Rows L2 BV
abbrev s_law : Stmt := top 46
abbrev nm_law : List Str := ["script", "lot", "store", "turn", "program", "due", "kept"]
theorem sc_law : FnScope nm_law ["script"] (defScope s_law) := ⟨rfl, rfl, rfl, by decide +kernel, rfl, by decide +kernel, by decide +kernel⟩
def x_law : XS := (xSeq (xFor (xiRng1 (xCons (xC (.int 3)) xNil)) (xgName 1) (xSeq (xAsg (xCall F_store [] (xCons (xFrz (xStp (xName 0) (xoSome (xName 1)) xoNone (xoSome (xC (.int 3))))) (xCons (xName 1) (xCons (xC (.int 300)) xNil)))) (xgName 2))
    (xFor (xiRng1 (xCons (xC (.int 3)) xNil)) (xgName 3) (xSeq (xAsg (xCall F_program [some 2] (xLend 2 (xCons (xBin ixD (xLst (xCons (xC (.int 2)) (xCons (xC (.int 3)) (xCons (xC (.int 8)) xNil)))) (xName 3)) (xCons (xC (.int 30)) xNil)))) (xgName 4))
    (xSeq (xPar [5, 6] (xCons (xCall F_lplaces [] (xCons (xName 4) xNil)) (xCons (xRepr (xName 4)) xNil)))
    (xIfS (xOr (xNot (xTru (xCall (F_sameJ 6) [] (xCons (xCall F_places [] (xCons (xName 4) xNil)) (xCons (xName 5) xNil))))) (xOr (xNot (xTru (xCall (F_sameJ 6) [] (xCons (xCall F_places [] (xCons (xName 4) xNil)) (xCons (xName 5) xNil))))) (xTst (xBin (fun d e => (eqD d e).map fun b => D.bl (!b)) (xRepr (xName 4)) (xName 6))))) (xRet (xC (.bl false))) xNext))))))
    (xRet (xC (.bl true))))
def F_law : FS := FS.ex (α := List Int) (fun ns => [.frl (ns.map D.int)]) (fun ns => ns.length ≤ 63) (fun _ r o => r = .bl true ∧ o = [])
abbrev cxL (P : Program) (w : World) (K : Fg) (mg : Str → Option Value) (base : Heap) (f : Addr) (cdv : Value) (A : Around) (outer : List Env) (s : Shared) (H : Hp) (E : XK) : Cx := cxOf CX0 P w K mg base nm_law "law" (defScope s_law) f cdv A outer s H E
section
variable {P : Program} {w : World} {K : Fg} {mg : Str → Option Value} {base : Heap} {aLayer : Addr}
theorem law_vb (T : Tx K mg aLayer) (b_repr : mg "repr" = none) (G__law_places : OkF P w K mg base 60 "_law_places" ["program"] 1 [] F_lplaces) (G__law_program : OkF P w K mg base 40 "_law_program" ["store", "most", "size"] 3 [0] F_program) (G__law_same : OkF P w K mg base 10 "_law_same" ["found", "due"] 2 [] (F_sameJ 6)) (G__law_store : OkF P w K mg base 1 "_law_store" ["cells", "lot", "many"] 3 [] F_store) (G_places : OkF P w K mg base 61 "places" ["program"] 1 [] F_places) {f : Addr} {cdv : Value} {A : Around} {outer : List Env} {s : Shared} {H : Hp} {E : XK} (hgd : (cxL P w K mg base f cdv A outer s H E).nox.A.guards = some []) (hr : Room 69 (A.deeper (envOfC "law" (defScope s_law) s.heap.objs.size f cdv))) (C : Ct) (hC : ∀ p ∈ C.prot, p.1 ∈ ([] : List Nat)) :
    ∃ t, VB (cxL P w K mg base f cdv A outer s H E).nox C (defBody s_law) t x_law := ⟨_,
    (vb_cons (vs_for PassesOwn.never rfl (vi_rng1 (by rfl) T.b_range (va_cons ve_int va_nil)) (vg_name (pg_name (i := 1) sc_law.nd rfl (by first | exact Or.inl rfl | exact Or.inr rfl)) hC (by decide)) (vb_cons (vs_setN (i := 2) sc_law.nd rfl (by first | exact Or.inl rfl | exact Or.inr rfl) (vf_call G__law_store (hr.mono (by first | omega | decide)) (by rfl) (va_cons (ve_frz (ve_stp (ve_name 0 (pv 0)) (vo_some (ve_name 1 (pv 1))) vo_none (vo_some ve_int))) (va_cons (ve_name 1 (pv 1)) (va_cons ve_int va_nil)))) hC (by decide))
      (vb_one (vs_for PassesOwn.never rfl (vi_rng1 (by rfl) T.b_range (va_cons ve_int va_nil)) (vg_name (pg_name (i := 3) sc_law.nd rfl (by first | exact Or.inl rfl | exact Or.inr rfl)) hC (by decide)) (vb_cons (vs_setN (i := 4) sc_law.nd rfl (by first | exact Or.inl rfl | exact Or.inr rfl) (vf_call G__law_program (hr.mono (by first | omega | decide)) (by rfl) (va_lend 2 (pv 2) (va_cons (ve_ix (ve_lst (va_cons ve_int (va_cons ve_int (va_cons ve_int va_nil)))) (ve_name 3 (pv 3)) (fun _ _ => rfl)) (va_cons ve_int va_nil)))) hC (by decide))
      (vb_cons (vs_parN (i := 5) (j := 6) rfl sc_law.nd rfl rfl (by decide) rfl rfl (va_cons (vf_call G__law_places (hr.mono (by first | omega | decide)) (by rfl) (va_cons (ve_name 4 (pv 4)) va_nil)) (va_cons (ve_repr hgd hr.units (ve_name 4 (pv 4)) (by rfl) b_repr) va_nil)) hC (by rfl) (by decide) (by decide))
      (vb_one (vs_if (VW.vt (vw_or (vt_not (vt_truth (vf_call G__law_same (hr.mono (by first | omega | decide)) (by rfl) (va_cons (vf_call G_places (hr.mono (by first | omega | decide)) (by rfl) (va_cons (ve_name 4 (pv 4)) va_nil)) (va_cons (ve_name 5 (pv 5)) va_nil))))) (vw_or (vt_not (vt_truth (vf_call G__law_same (hr.mono (by first | omega | decide)) (by rfl) (va_cons (vf_callKw G_places (hr.mono (by first | omega | decide)) (by rfl) (vk_cons (ve_name 4 (pv 4)) vk_nil)) (va_cons (ve_name 5 (pv 5)) va_nil))))) (vw_or1 (vt_cmp (op_neX hr.units) bop_ne (ve_repr hgd hr.units (ve_name 4 (pv 4)) (by rfl) b_repr) (ve_name 6 (pv 6)) (nomark _)))))) (vb_one (vs_ret ve_bl)) vb_nil)))) (fun _ => rfl)))) (fun _ => rfl))
      (vb_one (vs_ret ve_bl)))⟩
end
theorem fe_store {ns : List Int} {lot : Nat} {Q : D → List D → Prop} (h : lot ≤ 3) (q : ∀ s, Sto s → Q s []) : F_store.f [.lst (ns.map D.int), .int (lot : Nat), .int 300] Q := ⟨(ns, lot), rfl, h, fun _ _ ⟨e1, e2⟩ => by rw [e2]; exact q _ e1⟩
theorem step_map {ns : List Int} {l u w : Option Int} : stepL l u w (ns.map D.int) = (stepL l u w ns).map D.int := by
  unfold stepL
  rw [List.length_map, List.map_filterMap]
  congr 1
  funext i
  rw [List.getElem?_map]
theorem step_len {ns : List Int} {lot : Nat} (h : ns.length ≤ 63) (hl : lot < 3) : (stepL (some ((lot : Nat) : Int)) none (some 3) ns).length ≤ 63 := by
  have key : ∀ n, n < 64 → ∀ l, l < 3 → (stepI (some ((l : Nat) : Int)) none (some 3) n).length ≤ 63 := by decide +kernel
  unfold stepL
  exact Nat.le_trans (List.length_filterMap_le _ _) (key _ (by omega) _ hl)
theorem i_shw {p : Prog} {X : Prop} (h : p.WF) (q : X) : p.d.pl = true ∧ p.d.isTup = true ∧ p.d.py.showable = true ∧ p.d.py.hasDict = false ∧ p.d.py.depth ≤ 60 ∧ p.d.py.shown.length ≤ PySem.sizeLine ∧ X := by
  have t := shw_prog h
  exact ⟨t.pl, rfl, t.sh, t.nd, by have := t.dp; omega, shown_prog h, q⟩
theorem pf_law : Pf F_law x_law [] (7 - 1) := pf_ex fun ns h R N ok _ => by
  unfold x_law
  simp only [List.map_cons, List.map_nil, List.cons_append, List.nil_append, List.append_nil, List.replicate_succ, List.replicate_zero, Nat.reduceSub]
  have hns : (D.frl (ns.map D.int)).sh = true := rfl
  (repeat' (first | walk_at "bvs"))
  refine ⟨fun k ρ => ∃ s1 s2 s3 s4 s5 s6, ρ = [some (.frl (ns.map D.int)), s1, s2, s3, s4, s5, s6], ⟨none, none, none, none, none, none, rfl⟩, ?_, ?_⟩
  · rintro lot z _ hz ⟨s1, s2, s3, s4, s5, s6, rfl⟩
    obtain ⟨hk, rfl⟩ := rngD_get hz
    have hk : lot < 3 := hk
    rw [Int.zero_add]
    have hsl := step_len h hk
    have hsl2 : (stepL (some ((lot : Nat) : Int)) none (some 3) (ns.map D.int)).length ≤ PySem.sizeLine := by
      rw [step_map, List.length_map, sizeLine_eq]
      omega
    have hssh : ((stepL (some ((lot : Nat) : Int)) none (some 3) ns).map D.int).all D.sh = true := by simp [D.sh]
    have h30 : (some (3 : Int)) ≠ some 0 := by decide
    (repeat' (first | walk_at "bvs"))
    refine ⟨h30, _, .inl rfl, hsl2, ?_⟩
    rw [step_map]
    (repeat' (first | walk_at "bvs"))
    refine fe_store (by omega) fun s hs => ?_
    (repeat' (first | walk_at "bvs"))
    refine ⟨fun k ρ => ∃ s s3 s4 s5 s6, Sto s ∧ ρ = [some (.frl (ns.map D.int)), some (.int (lot : Nat)), some s, s3, s4, s5, s6], ⟨s, s3, s4, s5, s6, hs, rfl⟩, ?_, ?_⟩
    · rintro turn z _ hz ⟨s, s3, s4, s5, s6, hs, rfl⟩
      obtain ⟨hk2, rfl⟩ := rngD_get hz
      have hk2 : turn < 3 := hk2
      rw [Int.zero_add]
      obtain ⟨z, hz, hzc⟩ := ix3 (a := .int 2) (b := .int 3) (c := .int 8) (k := turn) (by omega) rfl rfl rfl
      obtain ⟨m, hm1, hm8, rfl⟩ : ∃ m : Nat, 1 ≤ m ∧ m ≤ 8 ∧ z = .int (m : Nat) := by
        rcases hzc with rfl | rfl | rfl
        · exact ⟨2, by decide, by decide, rfl⟩
        · exact ⟨3, by decide, by decide, rfl⟩
        · exact ⟨8, by decide, by decide, rfl⟩
      (repeat' (first | ((with_reducible apply i_some); ((with_reducible exact hz))) | walk_at "bvs"))
      refine fe_program hs hm1 hm8 fun p s hp hs => ?_
      have hpd : p.d.sh = true := rfl
      have hpl : (placesD p).sh = true := rfl
      have hpp := pure_places hp
      have hne : (!decide (p.d.py.shown = p.d.py.shown)) = false := by rw [decide_eq_true rfl]; rfl
      (repeat' (first | ((with_reducible apply fe_lplaces); (exact hp)) | ((with_reducible apply fe_places); (exact hp)) | ((with_reducible apply i_shw); (exact hp)) | ((with_reducible apply fe_sameJ); (exact hpp)) | walk_at "bvs"))
      exact ⟨_, _, _, _, _, hs, rfl⟩
    · rintro _ ⟨s, s3, s4, s5, s6, hs, rfl⟩
      (repeat' (first | walk_at "bvs"))
      exact ⟨_, _, _, _, _, _, rfl⟩
  · rintro _ ⟨s1, s2, s3, s4, s5, s6, rfl⟩
    (repeat' (first | walk_at "bvs"))
    exact ok _ _ [] rfl ⟨rfl, rfl⟩
end K12

namespace K12
open PySem PySem.Spec PyProof.Rows L2 BV
def dD (x : Str) (i : Nat) : He.DefD := ⟨(x, none), x, x, defArgs (top i), defBody (top i), defScope (top i), [], []⟩
def dM (C m : Str) (i j : Nat) : He.DefD := ⟨(C, some m), m, C ++ "." ++ m, defArgs (inClass (top i) j), defBody (inClass (top i) j), defScope (inClass (top i) j), [], []⟩
def fn : List He.DefD := [dD "is_row" 10, dD "is_name" 11, dD "first_double" 12, dD "inner_bodies" 20, dD "bodies_of" 21, dD "count_of" 22, dD "is_program" 23, dD "need_program" 24, dD "own_trouble" 26, dD "trouble_in" 27, dD "trouble_of" 28, dD "check" 29, dD "need_checked" 30, dM "Layer" "__init__" 33 0, dM "Layer" "make" 33 1, dM "Layer" "body" 33 2, dM "Layer" "statement" 33 3, dD "laid" 34, dD "places" 35, dD "_law_store" 37, dD "_law_pick" 38, dD "_law_same" 39, dD "_law_names" 40, dD "_law_body" 41, dD "_law_statement" 42, dD "_law_program" 43, dD "_law_lay" 44, dD "_law_places" 45, dD "law" 46]
def fa : List He.Fa := [.glo "is_row", .glo "is_name", .glo "first_double", .glo "inner_bodies", .glo "bodies_of", .glo "count_of", .glo "is_program", .glo "need_program", .glo "own_trouble", .glo "trouble_in", .glo "trouble_of", .glo "check", .glo "need_checked", .glo "laid", .glo "places", .glo "_law_store", .glo "_law_pick", .glo "_law_same", .glo "_law_names", .glo "_law_body", .glo "_law_statement", .glo "_law_program", .glo "_law_lay", .glo "_law_places", .glo "law", .free "abs", .free "all", .free "bool", .free "enumerate", .free "int", .free "isinstance", .free "len", .free "range", .free "reversed", .free "set", .free "str", .free "tuple", .str "DIGITS" "0123456789", .glo "KEYWORDS", .int "LONGEST" 10, .int "LONGEST_CHAIN" 12, .int "MOST_BODIES" 6, .int "MOST_IN_BODY" 60, .int "MOST_LETTERS" 20, .int "MOST_PLACES" 300, .int "MOST_PROCEDURES" 8, .int "MOST_STATEMENTS" 200, .str "SMALL" "abcdefghijklmnopqrstuvwxyz", .cls "Layer", .mkr "Layer", .glo "Layer", .noat "Layer" "marks", .noat "Layer" "numbers", .noat "Layer" "found", .free "repr", .meth "Layer" "__init__", .meth "Layer" "make", .meth "Layer" "body", .meth "Layer" "statement"]
def kwB (K : PySem.W.Frag) : Bool := He.tupB K "KEYWORDS" (k_KEYWORDS.map He.Dv.str)
def KwP (K : PySem.W.Frag) : Prop := He.tupB K "KEYWORDS" (k_KEYWORDS.map He.Dv.str) = true
theorem kwP_of {K : PySem.W.Frag} (h : kwB K = true) : KwP K := by
  unfold kwB at h
  unfold KwP
  simpa only [Bool.and_eq_true] using h
abbrev R : PySem.W.OpenRow := PySem.W.OpenLaw.row PySem.Challenge.rw_undoneall_k12_whole_places
abbrev obT (g : Addr → Option Obj) : Bool × He.AlD := (kwB (He.frG g (He.asD g 5)), He.obsDG 5 fa fn g)
abbrev hk : PySem.W.Hook := { α := Bool × He.AlD, obs := fun s => obT s.heap.get?, val := fun _ => (true, He.valD fn), says := fun _ h => ∃ K, K.In h ∧ KwP K ∧ He.SaysD fa fn K, of := fun _ s e => ⟨He.frG s.heap.get? (He.asD s.heap.get? 5), He.frG_in, kwP_of (congrArg Prod.fst e), congrArg Prod.snd e⟩, keeps := fun _ _ _ ⟨K, hK, c⟩ k => ⟨K, PySem.W.Frag.In.keeps hK k, c⟩ }
def ob (s : PySem.W.SharedT) : Bool × He.AlD := obT (HandSHeadRun.getT s)
theorem ob_eq (s : PySem.W.SharedT) : ob s = hk.obs s.abs := by
  have e : HandSHeadRun.getT s = s.abs.heap.get? := funext (HandSHeadRun.getT_eq s)
  show obT (HandSHeadRun.getT s) = obT s.abs.heap.get?
  rw [e]
def loose : List Str := (["DeedError", "BadProgram", "NotChecked", "TooGreat", "SMALL", "DIGITS", "LONGEST", "KEYWORDS", "is_row", "is_name", "first_double", "MOST_LETTERS", "MOST_PROCEDURES", "MOST_IN_BODY", "MOST_BODIES", "MOST_STATEMENTS"] : List Str) ++ (["LONGEST_CHAIN", "inner_bodies", "bodies_of", "count_of", "is_program", "need_program", "own_trouble", "trouble_in", "trouble_of", "check", "need_checked", "MOST_PLACES", "Layer", "laid", "places", "_law_store"] : List Str) ++ (["_law_pick", "_law_same", "_law_names", "_law_body", "_law_statement", "_law_program", "_law_lay", "_law_places"] : List Str)
theorem run (w : World) : HandSHeadRun.RunEq R (PySem.W.view R.prog [46]) hk ob 4000 loose w := by
  intro os
  kernel_rfl
theorem tabV {K : PySem.W.Frag} : ∀ (l : List Str), (l.map He.Dv.str).map (He.Dv.v K) = l.map V.str
  | [] => rfl
  | x :: l => by rw [List.map_cons, List.map_cons, List.map_cons, tabV l]; rfl
theorem tab_KEYWORDS {K : PySem.W.Frag} (h : He.tupB K "KEYWORDS" (k_KEYWORDS.map He.Dv.str) = true) : ∀ H, SqT K H (He.ga K "KEYWORDS") (k_KEYWORDS.map V.str) := fun H => by
  have := He.tupB_ok h H
  rw [tabV] at this
  exact this
theorem okm_false {P : Program} {w : World} {K : Fg} {mg : Str → Option Value} {base : Heap} {Cl : Addr} {m q : Str} {st : Stmt} {f : Addr} {fd : FuncData} {ps : List Str} {k n : Nat} {ios : List Nat} {F : FS} (Fn : FnM K m q st f fd) (hm : Meth K Cl m f)
    (b1 : ∀ (kV doc pm : Value) (an : Option Addr) (cdv ct : Value) (us : List Value), us.length = ps.length → bindArgs (PySem.W.fnOf m q (defArgs st) (defBody st) (defScope st) .none kV doc pm an cdv ct) ⟨us, []⟩ = pure (ps.zip us)) (hF : ∀ ds Q, ¬ F.f ds Q) : OkM P w K mg base k Cl m ps n ios F := by
  refine ⟨f, fd, hm, Fn.bindsN b1, ⟨fun vs H Q E h => ?_, fun A outer s H args us vs Q E _ _ _ _ h => ?_⟩⟩
  · obtain ⟨_, _, _, _, _, _, _, h⟩ := h
    exact (hF _ _ h).elim
  · obtain ⟨_, _, _, _, _, _, _, h⟩ := h
    exact (hF _ _ h).elim
theorem fun_of {K : Fg} {x q : Str} {st : Stmt} {f : Addr} {fd : FuncData} (Fn : FunD K x q (defArgs st) (defBody st) (defScope st) [] [] f fd) : Fun K x q st f fd := by
  have kp := Fn.kp
  obtain ⟨oc, od, dV, kV, doc, pm, an, cdv, ct, osl, rfl, lk, hcd, hD, hK⟩ := Fn.ex
  rcases hD with ⟨_, rfl⟩ | ⟨e, _⟩
  · exact ⟨⟨oc, od, kV, doc, pm, an, cdv, ct, osl, rfl, lk, hcd⟩, kp⟩
  · exact absurd rfl e
theorem ints_rp {K : PySem.W.Frag} {N : AS} {H : Hp} : ∀ (ns : List Int), Rps K N H (ns.map D.int) (ns.map V.int) AS0
  | [] => rfl
  | n :: ns => ⟨.int n, ns.map V.int, AS0, AS0, rfl, rfl, ints_rp ns, fun x z => z, fun x z => z, fun x z _ => z⟩
theorem F_law_at {K : PySem.W.Frag} {H : Hp} {a : Addr} {ns : List Int} (hl : ns.length ≤ 63) (hS : SqL K H a (ns.map V.int)) : spOf K 1 [] F_law [.ref a] H (fun v _ => v = .bl true) fun _ _ _ => False := by
  refine ⟨rfl, AS0, AS0, [.frl (ns.map D.int)], ?_, fun x z => z, fun x z => z.elim, ns, rfl, hl, ?_⟩
  · exact ⟨.ref a, [], AS0, AS0, rfl, ⟨a, ns.map V.int, rfl, (show SqN K AS0 H a (ns.map V.int) from hS.elim (fun h => .inl ⟨h, fun z => z⟩) fun h => .inr h), ints_rp ns⟩, rfl, fun x z => z, fun x z => z, fun x z _ => z⟩
  · rintro d o ⟨rfl, rfl⟩ v N' H' ⟨A1, A2, r, _⟩ _ _ _ _ _
    exact r
theorem facts {P : Program} {w : World} {K : PySem.W.Frag} {h : Heap} {mg : Str → Option Value} {f : Addr} (X : K.In h) (G : h.Ns mainGlobals mg) (hfa : mg ("law" : Str) = some (.ref f)) (c : He.SaysD fa fn K) (kw : KwP K) :
    ∃ fd : FuncData, (∀ (s : Shared) (v : Value), BindsTo s fd ⟨[v], []⟩ [("script", v)]) ∧ Fun K "law" "law" s_law f fd ∧ Tx K mg (He.ga K "Layer") ∧ mg "repr" = none ∧ ∀ base : Heap, OkF P w K mg base 60 "_law_places" ["program"] 1 [] F_lplaces ∧ OkF P w K mg base 40 "_law_program" ["store", "most", "size"] 3 [0] F_program ∧ OkF P w K mg base 10 "_law_same" ["found", "due"] 2 [] (F_sameJ 6) ∧ OkF P w K mg base 1 "_law_store" ["cells", "lot", "many"] 3 [] F_store ∧ OkF P w K mg base 61 "places" ["program"] 1 [] F_places := by
  obtain ⟨d0, F0⟩ := c.def_ 0 (d := dD "is_row" 10) rfl
  obtain ⟨d1, F1⟩ := c.def_ 1 (d := dD "is_name" 11) rfl
  obtain ⟨d2, F2⟩ := c.def_ 2 (d := dD "first_double" 12) rfl
  obtain ⟨d3, F3⟩ := c.def_ 3 (d := dD "inner_bodies" 20) rfl
  obtain ⟨d4, F4⟩ := c.def_ 4 (d := dD "bodies_of" 21) rfl
  obtain ⟨d5, F5⟩ := c.def_ 5 (d := dD "count_of" 22) rfl
  obtain ⟨d6, F6⟩ := c.def_ 6 (d := dD "is_program" 23) rfl
  obtain ⟨d7, F7⟩ := c.def_ 7 (d := dD "need_program" 24) rfl
  obtain ⟨d8, F8⟩ := c.def_ 8 (d := dD "own_trouble" 26) rfl
  obtain ⟨d9, F9⟩ := c.def_ 9 (d := dD "trouble_in" 27) rfl
  obtain ⟨d10, F10⟩ := c.def_ 10 (d := dD "trouble_of" 28) rfl
  obtain ⟨d11, F11⟩ := c.def_ 11 (d := dD "check" 29) rfl
  obtain ⟨d12, F12⟩ := c.def_ 12 (d := dD "need_checked" 30) rfl
  obtain ⟨d13, F13⟩ := c.def_ 13 (d := dM "Layer" "__init__" 33 0) rfl
  obtain ⟨d14, F14⟩ := c.def_ 14 (d := dM "Layer" "make" 33 1) rfl
  obtain ⟨d15, F15⟩ := c.def_ 15 (d := dM "Layer" "body" 33 2) rfl
  obtain ⟨d16, F16⟩ := c.def_ 16 (d := dM "Layer" "statement" 33 3) rfl
  obtain ⟨d17, F17⟩ := c.def_ 17 (d := dD "laid" 34) rfl
  obtain ⟨d18, F18⟩ := c.def_ 18 (d := dD "places" 35) rfl
  obtain ⟨d19, F19⟩ := c.def_ 19 (d := dD "_law_store" 37) rfl
  obtain ⟨d20, F20⟩ := c.def_ 20 (d := dD "_law_pick" 38) rfl
  obtain ⟨d21, F21⟩ := c.def_ 21 (d := dD "_law_same" 39) rfl
  obtain ⟨d22, F22⟩ := c.def_ 22 (d := dD "_law_names" 40) rfl
  obtain ⟨d23, F23⟩ := c.def_ 23 (d := dD "_law_body" 41) rfl
  obtain ⟨d24, F24⟩ := c.def_ 24 (d := dD "_law_statement" 42) rfl
  obtain ⟨d25, F25⟩ := c.def_ 25 (d := dD "_law_program" 43) rfl
  obtain ⟨d26, F26⟩ := c.def_ 26 (d := dD "_law_lay" 44) rfl
  obtain ⟨d27, F27⟩ := c.def_ 27 (d := dD "_law_places" 45) rfl
  obtain ⟨fd, F⟩ := c.def_ 28 (d := dD "law" 46) rfl
  have e := hfa.symm.trans (He.glo_ok X G (c.fact 24 (f := .glo "law") rfl))
  cases e
  have b := FunD.bindsA (ps := ["script"]) F fun _ _ _ _ _ _ us hl => match us, hl with | [_], _ => rfl
  have T : Tx K mg (He.ga K "Layer") := ⟨He.free_ok X G (c.fact 25 (f := .free "abs") rfl), He.free_ok X G (c.fact 26 (f := .free "all") rfl), He.free_ok X G (c.fact 27 (f := .free "bool") rfl), He.free_ok X G (c.fact 28 (f := .free "enumerate") rfl), He.free_ok X G (c.fact 29 (f := .free "int") rfl), He.free_ok X G (c.fact 30 (f := .free "isinstance") rfl), He.free_ok X G (c.fact 31 (f := .free "len") rfl), He.free_ok X G (c.fact 32 (f := .free "range") rfl), He.free_ok X G (c.fact 33 (f := .free "reversed") rfl), He.free_ok X G (c.fact 34 (f := .free "set") rfl), He.free_ok X G (c.fact 35 (f := .free "str") rfl), He.free_ok X G (c.fact 36 (f := .free "tuple") rfl), He.str_ok X G (c.fact 37 (f := .str "DIGITS" "0123456789") rfl), ⟨_, (He.glo_ok X G (c.fact 38 (f := .glo "KEYWORDS") rfl)), tab_KEYWORDS kw⟩, He.int_ok X G (c.fact 39 (f := .int "LONGEST" 10) rfl), He.int_ok X G (c.fact 40 (f := .int "LONGEST_CHAIN" 12) rfl), He.int_ok X G (c.fact 41 (f := .int "MOST_BODIES" 6) rfl), He.int_ok X G (c.fact 42 (f := .int "MOST_IN_BODY" 60) rfl), He.int_ok X G (c.fact 43 (f := .int "MOST_LETTERS" 20) rfl), He.int_ok X G (c.fact 44 (f := .int "MOST_PLACES" 300) rfl), He.int_ok X G (c.fact 45 (f := .int "MOST_PROCEDURES" 8) rfl), He.int_ok X G (c.fact 46 (f := .int "MOST_STATEMENTS" 200) rfl), He.str_ok X G (c.fact 47 (f := .str "SMALL" "abcdefghijklmnopqrstuvwxyz") rfl), He.cls_ok (c.fact 48 (f := .cls "Layer") rfl), (He.mkr_ok (c.fact 49 (f := .mkr "Layer") rfl)).makes, (He.mkr_ok (c.fact 49 (f := .mkr "Layer") rfl)).kp, (He.glo_ok X G (c.fact 50 (f := .glo "Layer") rfl)), He.noat_ok (c.fact 51 (f := .noat "Layer" "marks") rfl), He.noat_ok (c.fact 52 (f := .noat "Layer" "numbers") rfl), He.noat_ok (c.fact 53 (f := .noat "Layer" "found") rfl)⟩
  refine ⟨fd, fun s v => b s [v] rfl, fun_of F, T, (He.free_ok X G (c.fact 54 (f := .free "repr") rfl)), fun base => ?_⟩
  have g0 := ok_is_row (P := P) (w := w) (base := base) T F0 (He.glo_ok X G (c.fact 0 (f := .glo "is_row") rfl))  pf_is_row
  have g1 := ok_is_name (P := P) (w := w) (base := base) T F1 (He.glo_ok X G (c.fact 1 (f := .glo "is_name") rfl))  pf_is_name
  have g2 := ok_first_double (P := P) (w := w) (base := base) T F2 (He.glo_ok X G (c.fact 2 (f := .glo "first_double") rfl))  pf_first_double
  have g3 := ok_inner_bodies (P := P) (w := w) (base := base) T F3 (He.glo_ok X G (c.fact 3 (f := .glo "inner_bodies") rfl)) g1 g0 pf_inner
  have g4 := ok_bodies_of (P := P) (w := w) (base := base) T F4 (He.glo_ok X G (c.fact 4 (f := .glo "bodies_of") rfl)) g3 pf_bodies
  have m5 := (He.glo_ok X G (c.fact 5 (f := .glo "count_of") rfl))
  have g5_0 : OkF P w K mg base 5 "count_of" ["thing", "chain", "room"] 3 [] (F_countJ 0) := okf_false (st := s_count_of) F5 m5 (fun _ _ _ _ _ _ us hl => match us, hl with | [_, _, _], _ => rfl) (fun _ _ _ _ _ _ us hl => match us, hl with | [_, _, _], _ => rfl) (fun _ _ _ _ _ _ p1 p2 u v e => by cases e <;> rfl) fun ds Q h => by
    obtain ⟨x, _, ⟨⟨_, _, _, _, _, _, h, _⟩, _⟩, _⟩ := h
    exact absurd h (Nat.not_lt_zero _)
  have g5_1 := ok_count_of (by decide) T F5 m5 g5_0 g3 g0 (pf_count 0)
  have g5_2 := ok_count_of (by decide) T F5 m5 g5_1 g3 g0 (pf_count 1)
  have g5_3 := ok_count_of (by decide) T F5 m5 g5_2 g3 g0 (pf_count 2)
  have g5_4 := ok_count_of (by decide) T F5 m5 g5_3 g3 g0 (pf_count 3)
  have g5_5 := ok_count_of (by decide) T F5 m5 g5_4 g3 g0 (pf_count 4)
  have g5_6 := ok_count_of (by decide) T F5 m5 g5_5 g3 g0 (pf_count 5)
  have g5_7 := ok_count_of (by decide) T F5 m5 g5_6 g3 g0 (pf_count 6)
  have g5_8 := ok_count_of (by decide) T F5 m5 g5_7 g3 g0 (pf_count 7)
  have g5_9 := ok_count_of (by decide) T F5 m5 g5_8 g3 g0 (pf_count 8)
  have g5_10 := ok_count_of (by decide) T F5 m5 g5_9 g3 g0 (pf_count 9)
  have g5_11 := ok_count_of (by decide) T F5 m5 g5_10 g3 g0 (pf_count 10)
  have g5_12 := ok_count_of (by decide) T F5 m5 g5_11 g3 g0 (pf_count 11)
  have g5_13 := ok_count_of (by decide) T F5 m5 g5_12 g3 g0 (pf_count 12)
  have g5 := g5_13.mono (show _ ≤ 20 by decide)
  have g6 := ok_is_program (P := P) (w := w) (base := base) T F6 (He.glo_ok X G (c.fact 6 (f := .glo "is_program") rfl)) g5 g1 g0 pf_is_program
  have g7 := ok_need_program (P := P) (w := w) (base := base) T F7 (He.glo_ok X G (c.fact 7 (f := .glo "need_program") rfl)) g6 pf_need
  have g8 := ok_own_trouble (P := P) (w := w) (base := base) T F8 (He.glo_ok X G (c.fact 8 (f := .glo "own_trouble") rfl))  pf_own_trouble
  have m9 := (He.glo_ok X G (c.fact 9 (f := .glo "trouble_in") rfl))
  have g9_0 : OkF P w K mg base 5 "trouble_in" ["body", "is_second", "letters", "names"] 4 [] (F_troubleJ 0) := okf_false (st := s_trouble_in) F9 m9 (fun _ _ _ _ _ _ us hl => match us, hl with | [_, _, _, _], _ => rfl) (fun _ _ _ _ _ _ us hl => match us, hl with | [_, _, _, _], _ => rfl) (fun _ _ _ _ _ _ p1 p2 u v e => by cases e <;> rfl) fun ds Q h => by
    obtain ⟨x, _, ⟨_, _, h, _⟩, _⟩ := h
    exact absurd h (Nat.not_lt_zero _)
  have g9_1 := ok_trouble_in (by decide) T F9 m9 g4 g8 g9_0 (pf_trouble 0)
  have g9_2 := ok_trouble_in (by decide) T F9 m9 g4 g8 g9_1 (pf_trouble 1)
  have g9_3 := ok_trouble_in (by decide) T F9 m9 g4 g8 g9_2 (pf_trouble 2)
  have g9_4 := ok_trouble_in (by decide) T F9 m9 g4 g8 g9_3 (pf_trouble 3)
  have g9_5 := ok_trouble_in (by decide) T F9 m9 g4 g8 g9_4 (pf_trouble 4)
  have g9_6 := ok_trouble_in (by decide) T F9 m9 g4 g8 g9_5 (pf_trouble 5)
  have g9_7 := ok_trouble_in (by decide) T F9 m9 g4 g8 g9_6 (pf_trouble 6)
  have g9_8 := ok_trouble_in (by decide) T F9 m9 g4 g8 g9_7 (pf_trouble 7)
  have g9_9 := ok_trouble_in (by decide) T F9 m9 g4 g8 g9_8 (pf_trouble 8)
  have g9_10 := ok_trouble_in (by decide) T F9 m9 g4 g8 g9_9 (pf_trouble 9)
  have g9_11 := ok_trouble_in (by decide) T F9 m9 g4 g8 g9_10 (pf_trouble 10)
  have g9_12 := ok_trouble_in (by decide) T F9 m9 g4 g8 g9_11 (pf_trouble 11)
  have g9_13 := ok_trouble_in (by decide) T F9 m9 g4 g8 g9_12 (pf_trouble 12)
  have g9 := g9_13.mono (show _ ≤ 20 by decide)
  have g10 := ok_trouble_of (P := P) (w := w) (base := base) T F10 (He.glo_ok X G (c.fact 10 (f := .glo "trouble_of") rfl)) g2 g9 pf_trouble_of
  have g11 := ok_check (P := P) (w := w) (base := base) T F11 (He.glo_ok X G (c.fact 11 (f := .glo "check") rfl)) g7 g10 pf_check
  have g12 := ok_need_checked (P := P) (w := w) (base := base) T F12 (He.glo_ok X G (c.fact 12 (f := .glo "need_checked") rfl)) g11 pf_need_checked
  have g13 := ok_Layer___init__ (P := P) (w := w) (base := base) T F13 (He.meth_ok (c.fact 55 (f := .meth "Layer" "__init__") rfl))  pf_init
  have g14 := ok_Layer_make (P := P) (w := w) (base := base) T F14 (He.meth_ok (c.fact 56 (f := .meth "Layer" "make") rfl))  pf_make
  have m15 := (He.meth_ok (c.fact 57 (f := .meth "Layer" "body") rfl))
  have m16 := (He.meth_ok (c.fact 58 (f := .meth "Layer" "statement") rfl))
  have y15_0 : OkM P w K mg base 3 (He.ga K "Layer") "statement" ["self", "statement", "told", "seconds"] 4 [0] (F_lstmtJ (He.ga K "Layer") 0) := okm_false (st := s_Layer_statement) F16 m16 (fun _ _ _ _ _ _ us hl => match us, hl with | [_, _, _, _], _ => rfl) fun ds Q h => by
    obtain ⟨x, _, ⟨⟨j, sec, _, h, _⟩, _⟩, _⟩ := h
    cases sec <;> simp [fuel] at h
  have x15_0 := ok_Layer_body (j := 0) (by decide) T F15 m15 y15_0 pf_lbody
  have y15_1 := ok_Layer_statement (j := 0) (by decide) T F16 m16 x15_0 g14 pf_lstmt
  have x15_1 := ok_Layer_body (j := 1) (by decide) T F15 m15 y15_1 pf_lbody
  have y15_2 := ok_Layer_statement (j := 1) (by decide) T F16 m16 x15_1 g14 pf_lstmt
  have x15_2 := ok_Layer_body (j := 2) (by decide) T F15 m15 y15_2 pf_lbody
  have y15_3 := ok_Layer_statement (j := 2) (by decide) T F16 m16 x15_2 g14 pf_lstmt
  have x15_3 := ok_Layer_body (j := 3) (by decide) T F15 m15 y15_3 pf_lbody
  have y15_4 := ok_Layer_statement (j := 3) (by decide) T F16 m16 x15_3 g14 pf_lstmt
  have x15_4 := ok_Layer_body (j := 4) (by decide) T F15 m15 y15_4 pf_lbody
  have y15_5 := ok_Layer_statement (j := 4) (by decide) T F16 m16 x15_4 g14 pf_lstmt
  have x15_5 := ok_Layer_body (j := 5) (by decide) T F15 m15 y15_5 pf_lbody
  have y15_6 := ok_Layer_statement (j := 5) (by decide) T F16 m16 x15_5 g14 pf_lstmt
  have x15_6 := ok_Layer_body (j := 6) (by decide) T F15 m15 y15_6 pf_lbody
  have y15_7 := ok_Layer_statement (j := 6) (by decide) T F16 m16 x15_6 g14 pf_lstmt
  have x15_7 := ok_Layer_body (j := 7) (by decide) T F15 m15 y15_7 pf_lbody
  have y15_8 := ok_Layer_statement (j := 7) (by decide) T F16 m16 x15_7 g14 pf_lstmt
  have x15_8 := ok_Layer_body (j := 8) (by decide) T F15 m15 y15_8 pf_lbody
  have y15_9 := ok_Layer_statement (j := 8) (by decide) T F16 m16 x15_8 g14 pf_lstmt
  have x15_9 := ok_Layer_body (j := 9) (by decide) T F15 m15 y15_9 pf_lbody
  have y15_10 := ok_Layer_statement (j := 9) (by decide) T F16 m16 x15_9 g14 pf_lstmt
  have x15_10 := ok_Layer_body (j := 10) (by decide) T F15 m15 y15_10 pf_lbody
  have y15_11 := ok_Layer_statement (j := 10) (by decide) T F16 m16 x15_10 g14 pf_lstmt
  have x15_11 := ok_Layer_body (j := 11) (by decide) T F15 m15 y15_11 pf_lbody
  have y15_12 := ok_Layer_statement (j := 11) (by decide) T F16 m16 x15_11 g14 pf_lstmt
  have x15_12 := ok_Layer_body (j := 12) (by decide) T F15 m15 y15_12 pf_lbody
  have y15_13 := ok_Layer_statement (j := 12) (by decide) T F16 m16 x15_12 g14 pf_lstmt
  have x15_13 := ok_Layer_body (j := 13) (by decide) T F15 m15 y15_13 pf_lbody
  have y15_14 := ok_Layer_statement (j := 13) (by decide) T F16 m16 x15_13 g14 pf_lstmt
  have x15_14 := ok_Layer_body (j := 14) (by decide) T F15 m15 y15_14 pf_lbody
  have y15_15 := ok_Layer_statement (j := 14) (by decide) T F16 m16 x15_14 g14 pf_lstmt
  have x15_15 := ok_Layer_body (j := 15) (by decide) T F15 m15 y15_15 pf_lbody
  have y15_16 := ok_Layer_statement (j := 15) (by decide) T F16 m16 x15_15 g14 pf_lstmt
  have x15_16 := ok_Layer_body (j := 16) (by decide) T F15 m15 y15_16 pf_lbody
  have g15 := x15_16.mono (show _ ≤ 40 by decide)
  have g17 := ok_laid (P := P) (w := w) (base := base) T F17 (He.glo_ok X G (c.fact 13 (f := .glo "laid") rfl)) g13 g15 pf_laid
  have g18 := ok_places (P := P) (w := w) (base := base) T F18 (He.glo_ok X G (c.fact 14 (f := .glo "places") rfl)) g17 g12 pf_places
  have g19 := ok__law_store (P := P) (w := w) (base := base) T F19 (He.glo_ok X G (c.fact 15 (f := .glo "_law_store") rfl))  pf_store
  have g20 := ok__law_pick (P := P) (w := w) (base := base) T F20 (He.glo_ok X G (c.fact 16 (f := .glo "_law_pick") rfl))  pf_pick
  have m21 := (He.glo_ok X G (c.fact 17 (f := .glo "_law_same") rfl))
  have g21_0 : OkF P w K mg base 1 "_law_same" ["found", "due"] 2 [] (F_sameJ 0) := okf_false (st := s__law_same) F21 m21 (fun _ _ _ _ _ _ us hl => match us, hl with | [_, _], _ => rfl) (fun _ _ _ _ _ _ us hl => match us, hl with | [_, _], _ => rfl) (fun _ _ _ _ _ _ p1 p2 u v e => by cases e <;> rfl) fun ds Q h => by
    obtain ⟨x, _, h, _⟩ := h
    simp [pure1] at h
  have g21_1 := ok__law_same (by decide) T F21 m21 g21_0 (pf_same 0)
  have g21_2 := ok__law_same (by decide) T F21 m21 g21_1 (pf_same 1)
  have g21_3 := ok__law_same (by decide) T F21 m21 g21_2 (pf_same 2)
  have g21_4 := ok__law_same (by decide) T F21 m21 g21_3 (pf_same 3)
  have g21_5 := ok__law_same (by decide) T F21 m21 g21_4 (pf_same 4)
  have g21_6 := ok__law_same (by decide) T F21 m21 g21_5 (pf_same 5)
  have g21 := g21_6.mono (show _ ≤ 10 by decide)
  have g22 := ok__law_names (P := P) (w := w) (base := base) T F22 (He.glo_ok X G (c.fact 18 (f := .glo "_law_names") rfl)) g20 pf_names
  have m23 := (He.glo_ok X G (c.fact 19 (f := .glo "_law_body") rfl))
  have m24 := (He.glo_ok X G (c.fact 20 (f := .glo "_law_statement") rfl))
  have y23_0 : OkF P w K mg base 3 "_law_statement" ["store", "letters", "names", "room", "deep", "second"] 6 [0, 3] (F_dstmtJ 0) := okf_false (st := s__law_statement) F24 m24 (fun _ _ _ _ _ _ us hl => match us, hl with | [_, _, _, _, _, _], _ => rfl) (fun _ _ _ _ _ _ us hl => match us, hl with | [_, _, _, _, _, _], _ => rfl) (fun _ _ _ _ _ _ p1 p2 u v e => by cases e <;> rfl) fun ds Q h => by
    obtain ⟨x, _, ⟨_, h⟩, _⟩ := h
    exact absurd h (Nat.not_lt_zero _)
  have x23_0 := ok__law_body (j := 0) (by decide) T F23 m23 g20 y23_0 (pf_dbody 0)
  have y23_1 := ok__law_statement (j := 0) (by decide) T F24 m24 x23_0 g20 (pf_dstmt 0)
  have x23_1 := ok__law_body (j := 1) (by decide) T F23 m23 g20 y23_1 (pf_dbody 1)
  have y23_2 := ok__law_statement (j := 1) (by decide) T F24 m24 x23_1 g20 (pf_dstmt 1)
  have x23_2 := ok__law_body (j := 2) (by decide) T F23 m23 g20 y23_2 (pf_dbody 2)
  have y23_3 := ok__law_statement (j := 2) (by decide) T F24 m24 x23_2 g20 (pf_dstmt 2)
  have x23_3 := ok__law_body (j := 3) (by decide) T F23 m23 g20 y23_3 (pf_dbody 3)
  have y23_4 := ok__law_statement (j := 3) (by decide) T F24 m24 x23_3 g20 (pf_dstmt 3)
  have x23_4 := ok__law_body (j := 4) (by decide) T F23 m23 g20 y23_4 (pf_dbody 4)
  have y23_5 := ok__law_statement (j := 4) (by decide) T F24 m24 x23_4 g20 (pf_dstmt 4)
  have x23_5 := ok__law_body (j := 5) (by decide) T F23 m23 g20 y23_5 (pf_dbody 5)
  have y23_6 := ok__law_statement (j := 5) (by decide) T F24 m24 x23_5 g20 (pf_dstmt 5)
  have x23_6 := ok__law_body (j := 6) (by decide) T F23 m23 g20 y23_6 (pf_dbody 6)
  have y23_7 := ok__law_statement (j := 6) (by decide) T F24 m24 x23_6 g20 (pf_dstmt 6)
  have x23_7 := ok__law_body (j := 7) (by decide) T F23 m23 g20 y23_7 (pf_dbody 7)
  have g23 := x23_7.mono (show _ ≤ 20 by decide)
  have g25 := ok__law_program (P := P) (w := w) (base := base) T F25 (He.glo_ok X G (c.fact 21 (f := .glo "_law_program") rfl)) g23 g22 g20 pf_program
  have m26 := (He.glo_ok X G (c.fact 22 (f := .glo "_law_lay") rfl))
  have g26_0 : OkF P w K mg base 1 "_law_lay" ["program", "body", "told", "found", "seconds"] 5 [3] (F_layJ 0) := okf_false (st := s__law_lay) F26 m26 (fun _ _ _ _ _ _ us hl => match us, hl with | [_, _, _, _, _], _ => rfl) (fun _ _ _ _ _ _ us hl => match us, hl with | [_, _, _, _, _], _ => rfl) (fun _ _ _ _ _ _ p1 p2 u v e => by cases e <;> rfl) fun ds Q h => by
    obtain ⟨x, _, ⟨_, ⟨j, sec, _, h, _⟩, _⟩, _⟩ := h
    cases sec <;> simp [fuel] at h
  have g26_1 := ok__law_lay (by decide) T F26 m26 g26_0 (pf_lay 0)
  have g26_2 := ok__law_lay (by decide) T F26 m26 g26_1 (pf_lay 1)
  have g26_3 := ok__law_lay (by decide) T F26 m26 g26_2 (pf_lay 2)
  have g26_4 := ok__law_lay (by decide) T F26 m26 g26_3 (pf_lay 3)
  have g26_5 := ok__law_lay (by decide) T F26 m26 g26_4 (pf_lay 4)
  have g26_6 := ok__law_lay (by decide) T F26 m26 g26_5 (pf_lay 5)
  have g26_7 := ok__law_lay (by decide) T F26 m26 g26_6 (pf_lay 6)
  have g26_8 := ok__law_lay (by decide) T F26 m26 g26_7 (pf_lay 7)
  have g26_9 := ok__law_lay (by decide) T F26 m26 g26_8 (pf_lay 8)
  have g26_10 := ok__law_lay (by decide) T F26 m26 g26_9 (pf_lay 9)
  have g26_11 := ok__law_lay (by decide) T F26 m26 g26_10 (pf_lay 10)
  have g26_12 := ok__law_lay (by decide) T F26 m26 g26_11 (pf_lay 11)
  have g26_13 := ok__law_lay (by decide) T F26 m26 g26_12 (pf_lay 12)
  have g26_14 := ok__law_lay (by decide) T F26 m26 g26_13 (pf_lay 13)
  have g26_15 := ok__law_lay (by decide) T F26 m26 g26_14 (pf_lay 14)
  have g26_16 := ok__law_lay (by decide) T F26 m26 g26_15 (pf_lay 15)
  have g26_17 := ok__law_lay (by decide) T F26 m26 g26_16 (pf_lay 16)
  have g26 := g26_17.mono (show _ ≤ 25 by decide)
  have g27 := ok__law_places (P := P) (w := w) (base := base) T F27 (He.glo_ok X G (c.fact 23 (f := .glo "_law_places") rfl)) g26 pf_lplaces
  exact ⟨g27, g25, g21, g19, g18⟩
theorem law_runs {P : Program} {w : World} {K : PySem.W.Frag} {h : Heap} {mg : Str → Option Value} {f a : Addr} {ns : List Int} (X : K.In h) (G : h.Ns mainGlobals mg) (hfa : mg ("law" : Str) = some (.ref f)) (c : He.SaysD fa fn K) (kw : KwP K) (hl : ns.length ≤ 63) {t : Shared}
    {base : Heap} {H : Hp} (env : Env0 P w K mg base callerA [] t H) (sq : SqL K H a (ns.map V.int)) : codeAny (model P w) callerA (.call (.ref f) ⟨[.ref a], []⟩) (CR CX0 [] P w H t (fun v _ => v = .bl true) fun _ _ _ => False) t := by
  obtain ⟨fd, hb, Fl, T, b_repr, hg⟩ := facts (P := P) (w := w) X G hfa c kw
  obtain ⟨G__law_places, G__law_program, G__law_same, G__law_store, G_places⟩ := hg base
  refine run_at (k := 69) (vs := [.ref a]) (us := [.ref a]) Fl sc_law ⟨rfl, by decide, by decide⟩ env (hb t (.ref a)) (.cons rfl .nil) rfl fun cdv => ?_
  obtain ⟨u, hu, go⟩ := body_at (P := P) (w := w) (K := K) (mg := mg) (base := base) (qual := "law") (st := s_law) (f := f) (Nm := nm_law) (n := 1) (ios := []) (F := F_law) (cdv := cdv) (A := callerA) (outer := []) (s := t) (H := H) (vs := [.ref a]) (Q := fun v _ => v = .bl true) (E := fun _ _ _ => False) (by decide) (by decide) (F_law_at hl sq) fun C hC => by
    obtain ⟨u, VV⟩ := law_vb (P := P) (w := w) T b_repr G__law_places G__law_program G__law_same G__law_store G_places (f := f) (cdv := cdv) (A := callerA) (outer := []) (s := t) (H := H) (E := fun _ _ _ => False) rfl ((show Room 70 callerA from ⟨rfl, by decide, by decide⟩).deeper _) C hC
    exact ⟨u, x_law, VV, pf_law⟩
  exact ⟨u, PSs.nox hu, go⟩
end K12
open PySem PySem.W PySem.Calls PyProof.Rows
theorem PySem.Challenge.cw_undoneall_k12_whole_places_holds : PySem.Challenge.rw_undoneall_k12_whole_places.Holds := by
  w_on; o_law
  refine HandSHeadRun.head_any (r := OpenLaw.row PySem.Challenge.rw_undoneall_k12_whole_places) (q := view (OpenLaw.row PySem.Challenge.rw_undoneall_k12_whole_places).prog [46]) (H := K12.hk) (ob := K12.ob) (M := 4000) (loose := K12.loose) (d := HandSHeadRun.topDef (OpenLaw.row PySem.Challenge.rw_undoneall_k12_whole_places).prog 46) (kwd := []) K12.ob_eq
    (by kernel_rfl) (fun s => by kernel_rfl) K12.run (by kernel_rfl) (by kernel_rfl) (by kernel_rfl) (by rfl) (by first | assumption | decide +kernel) (by decide +kernel) ⟨rfl, rfl, rfl, rfl, rfl, by decide +kernel⟩ ?hw ?hc
  case hw => w_witness2
  case hc =>
    refine Att.attach_call (l := PySem.Challenge.rw_undoneall_k12_whole_places) (n := 63) rfl (by kernel_rfl) fun w s₀ s₁ mg mb fa o pm cd doc a vs ns G Y ho hd hcd hmg0 hobj hints hlen hg => ?_
    obtain ⟨K, KX, kw, c⟩ := Y
    have hmg : mg ("law" : PySem.Str) = some (.ref fa) := by
      have e : (HandSHeadRun.topDef (OpenLaw.row PySem.Challenge.rw_undoneall_k12_whole_places).prog 46).name = ("law" : PySem.Str) := by kernel_rfl
      rw [← e]
      exact hmg0
    exact BV.enter_at KX G.T.g G.T.b G.T.builtins G.T.nolimit hg hobj hints (Nat.le_trans hlen (by decide)) (fun base H inB gB env sq => K12.law_runs inB gB hmg c kw hlen env sq) fun _ _ _ z => z
