import PyProof.Rows.All
import Wide.All
import OpenK.AllK
import Wide.FinOn
import HandS.ForMost
import HandS.Exc
import HandS.TryOnly
import HandS.ExcOwn
import HandS.WordsExc
import HandS.Wide
import HandS.TupAny
import HandS.IsInst
import HandS.Style
import HandS.TupLe
import HandS.Text
import HandS.Iter
import HandS.Zip
import HandS.Rev
import HandS.RaiseMore
import HandS.Comp
import KE.SortData
import KE.DataCmp
import HandS.SortInts
import HandS.Deep
import HandS.EndBits
import PySem.Challenge.RW_stepsworn_k53_all_plans_of_a_program
set_option Elab.async false
set_option linter.all false
set_option maxRecDepth 100000
noncomputable section
namespace Dv
open PySem L2
inductive D where
  | non
  | bl (b : Bool)
  | int (i : Int)
  | str (x : Str)
  | tup (l : List D)
  | lst (l : List D)
  | dct (ks vs : List D)
  | exc (c : Str) (v : D)
  | ty (n : String)
  | cls (c : Str)
  | scr (l : List D)
  deriving Inhabited
inductive Slot where
  | un
  | val (d : D)
  | own (d : D)
  | par (d : D)
  | pfr (d : D)
  deriving Inhabited
abbrev Sto := List Slot
inductive Opd where
  | val (d : D)
  | own (d : D)
  | slot (i : Nat)
  deriving Inhabited
inductive R (α : Type) where
  | ok (a : α) (s : Sto)
  | exc (c : Str) (v : D) (s : Sto)
  | bad
inductive Out where
  | nxt (s : Sto)
  | ret (o : Opd) (s : Sto)
  | brk (s : Sto)
  | cnt (s : Sto)
  | exc (c : Str) (v : D) (s : Sto)
  | bad
abbrev E := Sto → R Opd
abbrev T := Sto → R Bool
abbrev S := Sto → Out
def kD : Key → D
  | .inl i => .int i
  | .inr x => .str x
mutual
def Rep (K : PySem.W.Frag) (Pr : Hp) : D → V → Prop
  | .non, v => v = V.non
  | .bl b, v => v = V.bl b
  | .int i, v => v = V.int i
  | .str x, v => PyData.strOk x = true ∧ v = V.str x
  | .tup l, v => ∃ a xs, v = V.ref a ∧ SqT K Pr a xs ∧ Reps K Pr l xs
  | .lst l, v => ∃ a xs, v = V.ref a ∧ Rd Pr a (.lst xs) ∧ Reps K Pr l xs
  | .scr l, v => ∃ a xs, v = V.ref a ∧ SqL K Pr a xs ∧ Reps K Pr l xs
  | .dct ks vs, v => ∃ a, v = V.ref a ∧
      ((∃ kvs : List (Key × V), Pr a = some (.dK kvs) ∧ ks = kvs.map (fun p => kD p.1) ∧ Reps K Pr vs (kvs.map (·.2))) ∨
       (∃ kvs : List (List Key × V), Pr a = some (.dT kvs) ∧ ks = kvs.map (fun p => D.tup (p.1.map kD)) ∧ Reps K Pr vs (kvs.map (·.2))))
  | .exc c w, v => ∃ a C dx x, v = V.ref a ∧ PySem.W.nsIn K mainGlobals c = some (some (.ref C)) ∧
      Pr a = some (.ext fun h => ∃ o fv, h.get? a = some o ∧ o.cls = .ref C ∧ o.dict = some dx ∧ o.data = .fields fv) ∧ Pr dx = some (.xd [("value", x)]) ∧ Rep K Pr w x
  | .ty n, v => v = V.ty n
  | .cls c, v => ∃ C, v = V.ref C ∧ PySem.W.nsIn K mainGlobals c = some (some (.ref C))
def Reps (K : PySem.W.Frag) (Pr : Hp) : List D → List V → Prop
  | [], xs => xs = []
  | d :: l, xs => ∃ x r, xs = x :: r ∧ Rep K Pr d x ∧ Reps K Pr l r
end
def Le (A B : Hp) : Prop := ∀ a o, A a = some o → B a = some o
theorem Le.refl (A : Hp) : Le A A := fun _ _ h => h
theorem Le.trans {A B C : Hp} (h : Le A B) (k : Le B C) : Le A C := fun a o q => k a o (h a o q)
theorem Le.upd {A : Hp} {p : Addr} {o : HO} (h : A p = none) : Le A (upd A p o) := fun a u q => by
  rw [upd_ne (ne_of_none q h)]; exact q
theorem Le.sqT {K : PySem.W.Frag} {A B : Hp} {a : Addr} {xs : List V} (h : Le A B) (q : SqT K A a xs) : SqT K B a xs := by
  rcases q with (q | ⟨o, q⟩) | q
  · exact .inl (.inl (h _ _ q))
  · exact .inl (.inr ⟨o, h _ _ q⟩)
  · exact .inr q
theorem Le.rd {A B : Hp} {a : Addr} {o : HO} (h : Le A B) (q : Rd A a o) : Rd B a o := by
  rcases q with q | ⟨u, q⟩
  · exact .inl (h _ _ q)
  · exact .inr ⟨u, h _ _ q⟩
theorem Le.sqL {K : PySem.W.Frag} {A B : Hp} {a : Addr} {xs : List V} (h : Le A B) (q : SqL K A a xs) : SqL K B a xs := by
  rcases q with q | q
  · exact .inl (h.rd q)
  · exact .inr q
mutual
theorem Rep.mono {K : PySem.W.Frag} {A B : Hp} (h : Le A B) : ∀ (d : D) {v : V}, Rep K A d v → Rep K B d v
  | .non, _, q => by simpa [Rep] using q
  | .bl _, _, q => by simpa [Rep] using q
  | .int _, _, q => by simpa [Rep] using q
  | .str _, _, q => by simpa [Rep] using q
  | .tup l, _, q => by
    unfold Rep at q ⊢
    obtain ⟨a, xs, e, s, r⟩ := q
    exact ⟨a, xs, e, h.sqT s, Reps.mono h l r⟩
  | .lst l, _, q => by
    unfold Rep at q ⊢
    obtain ⟨a, xs, e, s, r⟩ := q
    exact ⟨a, xs, e, h.rd s, Reps.mono h l r⟩
  | .scr l, _, q => by
    unfold Rep at q ⊢
    obtain ⟨a, xs, e, s, r⟩ := q
    exact ⟨a, xs, e, h.sqL s, Reps.mono h l r⟩
  | .dct ks vs, _, q => by
    unfold Rep at q ⊢
    obtain ⟨a, e, ⟨kvs, s, ek, r⟩ | ⟨kvs, s, ek, r⟩⟩ := q
    · exact ⟨a, e, .inl ⟨kvs, h _ _ s, ek, Reps.mono h vs r⟩⟩
    · exact ⟨a, e, .inr ⟨kvs, h _ _ s, ek, Reps.mono h vs r⟩⟩
  | .exc c w, _, q => by
    unfold Rep at q ⊢
    obtain ⟨a, C, dx, x, e, n, s1, s2, r⟩ := q
    exact ⟨a, C, dx, x, e, n, h _ _ s1, h _ _ s2, Rep.mono h w r⟩
  | .ty _, _, q => by simpa [Rep] using q
  | .cls _, _, q => by unfold Rep at q ⊢; exact q
theorem Reps.mono {K : PySem.W.Frag} {A B : Hp} (h : Le A B) : ∀ (l : List D) {xs : List V}, Reps K A l xs → Reps K B l xs
  | [], _, q => by simpa [Reps] using q
  | d :: l, _, q => by
    unfold Reps at q ⊢
    obtain ⟨x, r, e, q1, q2⟩ := q
    exact ⟨x, r, e, Rep.mono h d q1, Reps.mono h l q2⟩
end
section
variable {K : PySem.W.Frag} {Pr : Hp}
theorem Reps.nil : Reps K Pr [] [] := by unfold Reps; rfl
theorem Reps.cons {d : D} {l : List D} {x : V} {r : List V} (h : Rep K Pr d x) (q : Reps K Pr l r) : Reps K Pr (d :: l) (x :: r) := by
  unfold Reps; exact ⟨x, r, rfl, h, q⟩
theorem Reps.length : ∀ {l : List D} {xs : List V}, Reps K Pr l xs → xs.length = l.length
  | [], xs, q => by unfold Reps at q; rw [q]; rfl
  | d :: l, xs, q => by
    unfold Reps at q
    obtain ⟨x, r, rfl, _, q2⟩ := q
    simp [Reps.length q2]
theorem Reps.get : ∀ {l : List D} {xs : List V} {i : Nat} {d : D}, Reps K Pr l xs → l[i]? = some d → ∃ x, xs[i]? = some x ∧ Rep K Pr d x
  | [], _, _, _, _, e => by simp at e
  | c :: l, xs, 0, d, q, e => by
    unfold Reps at q
    obtain ⟨x, r, rfl, q1, _⟩ := q
    simp at e; subst e
    exact ⟨x, by simp, q1⟩
  | c :: l, xs, i + 1, d, q, e => by
    unfold Reps at q
    obtain ⟨x, r, rfl, _, q2⟩ := q
    obtain ⟨y, h1, h2⟩ := Reps.get q2 (by simpa using e)
    exact ⟨y, by simpa using h1, h2⟩
theorem Reps.append : ∀ {l m : List D} {xs ys : List V}, Reps K Pr l xs → Reps K Pr m ys → Reps K Pr (l ++ m) (xs ++ ys)
  | [], m, xs, ys, q, r => by unfold Reps at q; subst q; simpa using r
  | d :: l, m, xs, ys, q, r => by
    unfold Reps at q
    obtain ⟨x, t, rfl, q1, q2⟩ := q
    exact Reps.cons q1 (Reps.append q2 r)
theorem Reps.one {d : D} {x : V} (h : Rep K Pr d x) : Reps K Pr [d] [x] := .cons h .nil
theorem Reps.take : ∀ {l : List D} {xs : List V} (n : Nat), Reps K Pr l xs → Reps K Pr (l.take n) (xs.take n)
  | [], xs, n, q => by unfold Reps at q; subst q; simpa using Reps.nil
  | d :: l, xs, 0, q => by simpa using Reps.nil
  | d :: l, xs, n + 1, q => by
    unfold Reps at q
    obtain ⟨x, t, rfl, q1, q2⟩ := q
    exact Reps.cons q1 (Reps.take n q2)
theorem Reps.drop : ∀ {l : List D} {xs : List V} (n : Nat), Reps K Pr l xs → Reps K Pr (l.drop n) (xs.drop n)
  | [], xs, n, q => by unfold Reps at q; subst q; simpa using Reps.nil
  | d :: l, xs, 0, q => by simpa using q
  | d :: l, xs, n + 1, q => by
    unfold Reps at q
    obtain ⟨x, t, rfl, q1, q2⟩ := q
    simpa using Reps.drop n q2
theorem Reps.reverse : ∀ {l : List D} {xs : List V}, Reps K Pr l xs → Reps K Pr l.reverse xs.reverse
  | [], xs, q => by unfold Reps at q; subst q; simpa using Reps.nil
  | d :: l, xs, q => by
    unfold Reps at q
    obtain ⟨x, t, rfl, q1, q2⟩ := q
    rw [List.reverse_cons, List.reverse_cons]
    exact Reps.append (Reps.reverse q2) (Reps.one q1)
theorem Reps.set : ∀ {l : List D} {xs : List V} {d : D} {x : V} (i : Nat), Reps K Pr l xs → Rep K Pr d x → Reps K Pr (l.set i d) (xs.set i x)
  | [], xs, d, x, i, q, r => by unfold Reps at q; subst q; simpa using Reps.nil
  | c :: l, xs, d, x, 0, q, r => by
    unfold Reps at q
    obtain ⟨y, t, rfl, q1, q2⟩ := q
    exact Reps.cons r q2
  | c :: l, xs, d, x, i + 1, q, r => by
    unfold Reps at q
    obtain ⟨y, t, rfl, q1, q2⟩ := q
    exact Reps.cons q1 (Reps.set i q2 r)
theorem Reps.of_map {α : Type} {f : α → D} {g : α → V} (h : ∀ a, Rep K Pr (f a) (g a)) : ∀ l : List α, Reps K Pr (l.map f) (l.map g)
  | [] => Reps.nil
  | a :: l => Reps.cons (h a) (Reps.of_map h l)
theorem Reps.ints_inv : ∀ {ns : List Int} {xs : List V}, Reps K Pr (ns.map D.int) xs → xs = ns.map V.int
  | [], xs, q => by
    have q : Reps K Pr [] xs := q
    unfold Reps at q; simpa using q
  | n :: ns, xs, q => by
    have q : Reps K Pr (D.int n :: ns.map D.int) xs := q
    unfold Reps at q
    obtain ⟨x, r, rfl, q1, q2⟩ := q
    unfold Rep at q1
    rw [q1, Reps.ints_inv q2]; rfl
end
structure Fr0 where
  H0 : Hp
  P0 : Hp
  bs : Nat → Option Addr
  lk : List Addr
def Fr0.Lent (Φ : Fr0) (a : Addr) : Prop := ∃ i, Φ.bs i = some a
def isDict : HO → Prop
  | .dK _ => True
  | .dT _ => True
  | _ => False
def At (lk : List Addr) (H : Hp) (a : Addr) (o : HO) : Prop := H a = some o ∨ (a ∈ lk ∧ isDict o ∧ ∃ ob, H a = some (.frz ob o))
def Cont (K : PySem.W.Frag) (Pr : Hp) : HO → D → Prop
  | .lst xs, .lst l => Reps K Pr l xs
  | .dK kvs, .dct ks vs => ks = kvs.map (fun p => kD p.1) ∧ Reps K Pr vs (kvs.map (·.2))
  | .dT kvs, .dct ks vs => ks = kvs.map (fun p => D.tup (p.1.map kD)) ∧ Reps K Pr vs (kvs.map (·.2))
  | _, _ => False
theorem Cont.mono {K : PySem.W.Frag} {A B : Hp} (h : Le A B) : ∀ {o : HO} {d : D}, Cont K A o d → Cont K B o d := by
  intro o d q
  unfold Cont at q ⊢
  split at q
  · exact Reps.mono h _ q
  · exact ⟨q.1, Reps.mono h _ q.2⟩
  · exact ⟨q.1, Reps.mono h _ q.2⟩
  · exact q.elim
def SlotOk (K : PySem.W.Frag) (Φ : Fr0) (Pr H : Hp) (i : Nat) : Slot → Option V → Prop
  | .un, _ => True
  | .val d, ov => ∃ v, ov = some v ∧ Rep K Pr d v
  | .own d, ov => ∃ a o, ov = some (.ref a) ∧ Pr a = none ∧ Φ.H0 a = none ∧ H a = some o ∧ Cont K Pr o d
  | .par d, ov => ∃ a o, ov = some (.ref a) ∧ Pr a = none ∧ Φ.bs i = some a ∧ H a = some o ∧ Cont K Pr o d
  | .pfr d, ov => ∃ a, ov = some (.ref a) ∧ Φ.bs i = some a ∧ Rep K Pr d (.ref a)
def Slot.mut : Slot → Bool
  | .own _ => true
  | .par _ => true
  | _ => false
structure Sim (K : PySem.W.Frag) (Φ : Fr0) (Pr : Hp) (st : Sto) (σ : St) (H : Hp) : Prop where
  len : st.length = σ.length
  inn : ∀ a o, Pr a = some o → At Φ.lk H a o
  le0 : Le Φ.P0 Pr
  slots : ∀ (i : Nat) s, st[i]? = some s → ∃ ov, σ[i]? = some ov ∧ SlotOk K Φ Pr H i s ov
  apart : ∀ (i j : Nat) s t a, st[i]? = some s → st[j]? = some t → s.mut = true → t.mut = true → σ[i]? = some (some (V.ref a)) → σ[j]? = some (some (V.ref a)) → i = j
  frame : ∀ a o, Φ.H0 a = some o → ¬ Φ.Lent a → At Φ.lk H a o
  newp : ∀ a o, Pr a = some o → Φ.P0 a = some o ∨ Φ.H0 a = none ∨ Φ.Lent a
  locks : ∀ a ob o, H a = some (.frz ob o) → Φ.H0 a = some (.frz ob o) ∨ a ∈ Φ.lk
  lkin : ∀ a ∈ Φ.lk, ∃ o, Pr a = some o
  lent : ∀ a, Φ.Lent a → ∃ o, H a = some o
def RepO (K : PySem.W.Frag) (Φ : Fr0) (Pr H : Hp) (st : Sto) (σ : St) : Opd → V → Prop
  | .val d, v => Rep K Pr d v
  | .own d, v => ∃ a o, v = .ref a ∧ Pr a = none ∧ Φ.H0 a = none ∧ H a = some o ∧ Cont K Pr o d ∧ ∀ (i : Nat) s, st[i]? = some s → s.mut = true → σ[i]? ≠ some (some (V.ref a))
  | .slot i, v => σ[i]? = some (some v) ∧ ∃ s, st[i]? = some s ∧ s.mut = true
end Dv
namespace Dv
open PySem L2
section
variable {K : PySem.W.Frag} {Φ : Fr0} {Pr H : Hp} {st : Sto} {σ : St}
theorem At.there {lk : List Addr} {a : Addr} {o : HO} (h : At lk H a o) : ∃ u, H a = some u := by
  rcases h with h | ⟨_, _, ob, h⟩
  · exact ⟨_, h⟩
  · exact ⟨_, h⟩
theorem At.upd {lk : List Addr} {a p : Addr} {o u : HO} (h : At lk H a o) (hp : a ≠ p) : At lk (upd H p u) a o := by
  rcases h with h | ⟨m, d, ob, h⟩
  · exact .inl (by rw [upd_ne hp]; exact h)
  · exact .inr ⟨m, d, ob, by rw [upd_ne hp]; exact h⟩
theorem At.lst {lk : List Addr} {a : Addr} {xs : List V} (h : At lk H a (.lst xs)) : H a = some (.lst xs) := by
  rcases h with h | ⟨_, d, _⟩
  · exact h
  · exact d.elim
theorem At.tup {lk : List Addr} {a : Addr} {xs : List V} (h : At lk H a (.tup xs)) : H a = some (.tup xs) := by
  rcases h with h | ⟨_, d, _⟩
  · exact h
  · exact d.elim
theorem At.frz {lk : List Addr} {a : Addr} {ob : Obj} {o : HO} (h : At lk H a (.frz ob o)) : H a = some (.frz ob o) := by
  rcases h with h | ⟨_, d, _⟩
  · exact h
  · exact d.elim
theorem At.rd {lk : List Addr} {a : Addr} {o : HO} (h : At lk H a o) : Rd H a o := by
  rcases h with h | ⟨_, _, ob, h⟩
  · exact .inl h
  · exact .inr ⟨ob, h⟩
theorem Sim.sqT (S : Sim K Φ Pr st σ H) {a : Addr} {xs : List V} (q : SqT K Pr a xs) : SqT K H a xs := by
  rcases q with (q | ⟨o, q⟩) | q
  · exact .inl (.inl (S.inn _ _ q).tup)
  · exact .inl (.inr ⟨o, (S.inn _ _ q).frz⟩)
  · exact .inr q
theorem Sim.rdL (S : Sim K Φ Pr st σ H) {a : Addr} {xs : List V} (q : Rd Pr a (.lst xs)) : Rd H a (.lst xs) := by
  rcases q with q | ⟨o, q⟩
  · exact .inl (S.inn _ _ q).lst
  · exact .inr ⟨o, (S.inn _ _ q).frz⟩
theorem Sim.sqL (S : Sim K Φ Pr st σ H) {a : Addr} {xs : List V} (q : SqL K Pr a xs) : SqL K H a xs := by
  rcases q with q | q
  · exact .inl (S.rdL q)
  · exact .inr q
theorem Sim.fresh (S : Sim K Φ Pr st σ H) {p : Addr} (h : H p = none) : Pr p = none ∧ Φ.H0 p = none ∧ ¬ Φ.Lent p := by
  have hl : ¬ Φ.Lent p := fun q => by
    obtain ⟨o, e⟩ := S.lent p q
    rw [h] at e; cases e
  refine ⟨?_, ?_, hl⟩
  · cases e : Pr p with
    | none => rfl
    | some o =>
      obtain ⟨u, q⟩ := (S.inn p o e).there
      rw [h] at q; cases q
  · cases e : Φ.H0 p with
    | none => rfl
    | some o =>
      obtain ⟨u, q⟩ := (S.frame p o e hl).there
      rw [h] at q; cases q
theorem SlotOk.heap {H' : Hp} {i : Nat} {s : Slot} {ov : Option V} (h : SlotOk K Φ Pr H i s ov) (k : ∀ a o, ov = some (.ref a) → s.mut = true → H a = some o → H' a = some o) : SlotOk K Φ Pr H' i s ov := by
  cases s with
  | un => trivial
  | val d => exact h
  | own d =>
    obtain ⟨a, o, e, h1, h2, h3, h4⟩ := h
    exact ⟨a, o, e, h1, h2, k a o e rfl h3, h4⟩
  | par d =>
    obtain ⟨a, o, e, h1, h2, h3, h4⟩ := h
    exact ⟨a, o, e, h1, h2, k a o e rfl h3, h4⟩
  | pfr d => exact h
theorem SlotOk.frozen {Pr' : Hp} {i : Nat} {s : Slot} {ov : Option V} (h : SlotOk K Φ Pr H i s ov) (le : Le Pr Pr') (k : ∀ a, ov = some (.ref a) → s.mut = true → Pr a = none → Pr' a = none) : SlotOk K Φ Pr' H i s ov := by
  cases s with
  | un => trivial
  | val d =>
    obtain ⟨v, e, r⟩ := h
    exact ⟨v, e, r.mono le⟩
  | own d =>
    obtain ⟨a, o, e, h1, h2, h3, h4⟩ := h
    exact ⟨a, o, e, k a e rfl h1, h2, h3, h4.mono le⟩
  | par d =>
    obtain ⟨a, o, e, h1, h2, h3, h4⟩ := h
    exact ⟨a, o, e, k a e rfl h1, h2, h3, h4.mono le⟩
  | pfr d =>
    obtain ⟨a, e, h1, h2⟩ := h
    exact ⟨a, e, h1, h2.mono le⟩
theorem SlotOk.there {i : Nat} {s : Slot} {a : Addr} (h : SlotOk K Φ Pr H i s (some (.ref a))) (m : s.mut = true) : Pr a = none ∧ (∃ o, H a = some o) ∧ (Φ.H0 a = none ∨ Φ.Lent a) := by
  cases s with
  | un => cases m
  | val d => cases m
  | own d =>
    obtain ⟨b, o, e, h1, h2, h3, h4⟩ := h
    cases e
    exact ⟨h1, ⟨o, h3⟩, .inl h2⟩
  | par d =>
    obtain ⟨b, o, e, h1, h2, h3, h4⟩ := h
    cases e
    exact ⟨h1, ⟨o, h3⟩, .inr ⟨_, h2⟩⟩
  | pfr d => cases m
theorem Sim.alloc (S : Sim K Φ Pr st σ H) {p : Addr} {o : HO} (hp : H p = none) (hf : ∀ ob u, o ≠ .frz ob u) : Sim K Φ Pr st σ (upd H p o) where
  len := S.len
  inn := fun a u q => (S.inn a u q).upd fun e => by
    have := (S.fresh hp).1
    rw [← e, q] at this; cases this
  le0 := S.le0
  slots := fun i s e => by
    obtain ⟨ov, h1, h2⟩ := S.slots i s e
    refine ⟨ov, h1, h2.heap fun a u _ _ q => ?_⟩
    rw [upd_ne (ne_of_none q hp)]; exact q
  apart := S.apart
  frame := fun a u q n => (S.frame a u q n).upd fun e => by
    have := (S.fresh hp).2.1
    rw [← e, q] at this; cases this
  newp := S.newp
  locks := fun a ob u q => by
    by_cases e : a = p
    · subst e
      rw [upd_same] at q
      exact absurd (Option.some.inj q) (hf ob u)
    · rw [upd_ne e] at q
      exact S.locks a ob u q
  lkin := S.lkin
  lent := fun a q => by
    obtain ⟨u, e⟩ := S.lent a q
    exact ⟨u, by rw [upd_ne (ne_of_none e hp)]; exact e⟩
theorem Sim.freeze (S : Sim K Φ Pr st σ H) {p : Addr} {o : HO} (hp : H p = some o) (h0 : Φ.H0 p = none) (hn : Pr p = none) (hf : ∀ (i : Nat) s, st[i]? = some s → s.mut = true → σ[i]? ≠ some (some (V.ref p))) :
    Sim K Φ (upd Pr p o) st σ H where
  len := S.len
  inn := fun a u q => by
    by_cases e : a = p
    · subst e; rw [upd_same] at q; cases q; exact .inl hp
    · rw [upd_ne e] at q; exact S.inn a u q
  le0 := S.le0.trans (Le.upd hn)
  slots := fun i s e => by
    obtain ⟨ov, h1, h2⟩ := S.slots i s e
    refine ⟨ov, h1, h2.frozen (Le.upd hn) fun a ea m q => ?_⟩
    rw [upd_ne fun z => hf i s e m (by rw [h1, ea, z])]; exact q
  apart := S.apart
  frame := S.frame
  newp := fun a u q => by
    by_cases e : a = p
    · subst e; exact .inr (.inl h0)
    · rw [upd_ne e] at q; exact S.newp a u q
  locks := S.locks
  lkin := fun a m => by
    obtain ⟨u, q⟩ := S.lkin a m
    exact ⟨u, Le.upd hn _ _ q⟩
  lent := S.lent
theorem Sim.laid (S : Sim K Φ Pr st σ H) {p : Addr} {o : HO} (hp : H p = none) (hf : ∀ ob u, o ≠ .frz ob u) : Sim K Φ (upd Pr p o) st σ (upd H p o) :=
  (S.alloc hp hf).freeze upd_same (S.fresh hp).2.1 (S.fresh hp).1 fun i s e m z => by
    obtain ⟨ov, h1, h2⟩ := S.slots i s e
    rw [h1] at z; cases z
    obtain ⟨_, ⟨u, q⟩, _⟩ := h2.there m
    rw [hp] at q; cases q
theorem cont_rep {a : Addr} {o : HO} {d : D} (h : Cont K Pr o d) (e : Pr a = some o) : Rep K Pr d (.ref a) := by
  unfold Cont at h
  split at h
  · unfold Rep; exact ⟨a, _, rfl, .inl e, h⟩
  · unfold Rep; exact ⟨a, rfl, .inl ⟨_, e, h.1, h.2⟩⟩
  · unfold Rep; exact ⟨a, rfl, .inr ⟨_, e, h.1, h.2⟩⟩
  · exact h.elim
theorem Cont.nofrz {o : HO} {d : D} (h : Cont K Pr o d) : ∀ ob u, o ≠ .frz ob u := by
  intro ob u e
  subst e
  unfold Cont at h
  exact h
theorem Sim.get (S : Sim K Φ Pr st σ H) {i : Nat} {s : Slot} (e : st[i]? = some s) : ∃ ov, σ[i]? = some ov ∧ SlotOk K Φ Pr H i s ov := S.slots i s e
theorem Sim.mutAt (S : Sim K Φ Pr st σ H) {i : Nat} {s : Slot} (e : st[i]? = some s) (m : s.mut = true) : ∃ a, σ[i]? = some (some (V.ref a)) ∧ SlotOk K Φ Pr H i s (some (.ref a)) := by
  obtain ⟨ov, h1, h2⟩ := S.slots i s e
  cases s with
  | un => cases m
  | val d => cases m
  | own d => obtain ⟨a, o, rfl, q⟩ := id h2; exact ⟨a, h1, h2⟩
  | par d => obtain ⟨a, o, rfl, q⟩ := id h2; exact ⟨a, h1, h2⟩
  | pfr d => cases m
def Slot.fz : Slot → Slot
  | .own d => .val d
  | .par d => .pfr d
  | s => s
def Slot.dat : Slot → Option D
  | .un => none
  | .val d => some d
  | .own d => some d
  | .par d => some d
  | .pfr d => some d
theorem Slot.fz_mut (s : Slot) : s.fz.mut = false := by cases s <;> rfl
theorem Sim.fzSlot (S : Sim K Φ Pr st σ H) {i : Nat} {s : Slot} {d : D} (e : st[i]? = some s) (hd : s.dat = some d) :
    ∃ Pr' v, Le Pr Pr' ∧ Sim K Φ Pr' (st.set i s.fz) σ H ∧ σ[i]? = some (some v) ∧ Rep K Pr' d v ∧ (∀ a o, Pr' a = some o → Pr a = some o ∨ (v = .ref a ∧ s.mut = true)) := by
  have hi : i < st.length := (List.getElem?_eq_some_iff.mp e).1
  have same : s.mut = false → st.set i s.fz = st := fun m => by
    have : s.fz = s := by cases s <;> first | rfl | cases m
    rw [this]
    obtain ⟨h, rfl⟩ := List.getElem?_eq_some_iff.mp e
    exact List.set_getElem_self h
  cases hm : s.mut with
  | false =>
    rw [same hm]
    obtain ⟨ov, h1, h2⟩ := S.slots i s e
    cases s with
    | un => cases hd
    | val d' =>
      cases hd
      obtain ⟨v, rfl, r⟩ := h2
      exact ⟨Pr, v, Le.refl _, S, h1, r, fun a o q => .inl q⟩
    | own d' => cases hm
    | par d' => cases hm
    | pfr d' =>
      cases hd
      obtain ⟨a, rfl, _, r⟩ := h2
      exact ⟨Pr, .ref a, Le.refl _, S, h1, r, fun a o q => .inl q⟩
  | true =>
    obtain ⟨a, h1, h2⟩ := S.mutAt e hm
    obtain ⟨hn, ⟨o, ho⟩, hl⟩ := h2.there hm
    have hc : Cont K Pr o d := by
      cases s with
      | own d' =>
        cases hd
        obtain ⟨b, u, eb, _, _, hu, c⟩ := h2
        cases eb
        rw [ho] at hu; cases hu; exact c
      | par d' =>
        cases hd
        obtain ⟨b, u, eb, _, _, hu, c⟩ := h2
        cases eb
        rw [ho] at hu; cases hu; exact c
      | un => cases hm
      | val _ => cases hm
      | pfr _ => cases hm
    have le : Le Pr (upd Pr a o) := Le.upd hn
    have hr : Rep K (upd Pr a o) d (.ref a) := cont_rep (hc.mono le) upd_same
    refine ⟨upd Pr a o, .ref a, le, ⟨by simpa using S.len, fun b u q => ?_, S.le0.trans le, fun j t q => ?_, fun j k t t' b q1 q2 m1 m2 s1 s2 => ?_, S.frame, fun b u q => ?_, S.locks, fun b m => (S.lkin b m).imp fun u q => le _ _ q, S.lent⟩, h1, hr, fun b u q => ?_⟩
    · by_cases eb : b = a
      · subst eb; rw [upd_same] at q; cases q; exact .inl ho
      · rw [upd_ne eb] at q; exact S.inn b u q
    · by_cases ej : j = i
      · subst ej
        rw [List.getElem?_set_self hi] at q
        cases q
        refine ⟨_, h1, ?_⟩
        cases s with
        | own d' => cases hd; exact ⟨_, rfl, hr⟩
        | par d' =>
          cases hd
          obtain ⟨b, u, eb, _, hb, _⟩ := h2
          cases eb
          exact ⟨a, rfl, hb, hr⟩
        | un => cases hm
        | val _ => cases hm
        | pfr _ => cases hm
      · rw [List.getElem?_set_ne (Ne.symm ej)] at q
        obtain ⟨ov, h3, h4⟩ := S.slots j t q
        refine ⟨ov, h3, h4.frozen le fun b eb m z => ?_⟩
        rw [upd_ne fun y => ej (S.apart j i t s a q e m hm (by rw [h3, eb, y]) h1)]; exact z
    · by_cases ej : j = i
      · subst ej
        rw [List.getElem?_set_self hi] at q1
        cases q1
        rw [Slot.fz_mut] at m1; cases m1
      · rw [List.getElem?_set_ne (Ne.symm ej)] at q1
        by_cases ek : k = i
        · subst ek
          rw [List.getElem?_set_self hi] at q2
          cases q2
          rw [Slot.fz_mut] at m2; cases m2
        · rw [List.getElem?_set_ne (Ne.symm ek)] at q2
          exact S.apart j k t t' b q1 q2 m1 m2 s1 s2
    · by_cases eb : b = a
      · subst eb
        rcases hl with hl | hl
        · exact .inr (.inl hl)
        · exact .inr (.inr hl)
      · rw [upd_ne eb] at q; exact S.newp b u q
    · by_cases eb : b = a
      · subst eb; exact .inr ⟨rfl, rfl⟩
      · rw [upd_ne eb] at q; exact .inl q
def Slot.put (d : D) : Slot → Slot
  | .own _ => .own d
  | .par _ => .par d
  | s => s
theorem Slot.put_mut (d : D) (s : Slot) : (s.put d).mut = s.mut := by cases s <;> rfl
theorem Sim.change (S : Sim K Φ Pr st σ H) {i : Nat} {s : Slot} {a : Addr} {o : HO} {d : D} (e : st[i]? = some s) (m : s.mut = true) (ha : σ[i]? = some (some (V.ref a))) (hc : Cont K Pr o d) :
    Sim K Φ Pr (st.set i (s.put d)) σ (upd H a o) := by
  have hi : i < st.length := (List.getElem?_eq_some_iff.mp e).1
  obtain ⟨ov, h1, h2⟩ := S.slots i s e
  rw [ha] at h1; cases h1
  obtain ⟨hn, ⟨u, hu⟩, hl⟩ := h2.there m
  refine ⟨by simpa using S.len, fun b w q => (S.inn b w q).upd fun z => ?_, S.le0, fun j t q => ?_, fun j k t t' b q1 q2 m1 m2 s1 s2 => ?_, fun b w q n => (S.frame b w q n).upd fun z => ?_, S.newp, fun b ob w q => ?_, S.lkin, fun b q => ?_⟩
  · rw [z, hn] at q; cases q
  · by_cases ej : j = i
    · subst ej
      rw [List.getElem?_set_self hi] at q
      cases q
      refine ⟨_, ha, ?_⟩
      cases s with
      | own d' =>
        obtain ⟨b, w, eb, p1, p2, _, _⟩ := h2
        cases eb
        exact ⟨a, o, rfl, p1, p2, upd_same, hc⟩
      | par d' =>
        obtain ⟨b, w, eb, p1, p2, _, _⟩ := h2
        cases eb
        exact ⟨a, o, rfl, p1, p2, upd_same, hc⟩
      | un => cases m
      | val _ => cases m
      | pfr _ => cases m
    · rw [List.getElem?_set_ne (Ne.symm ej)] at q
      obtain ⟨ov, h3, h4⟩ := S.slots j t q
      refine ⟨ov, h3, h4.heap fun b w eb mt hb => ?_⟩
      rw [upd_ne fun y => ej (S.apart j i t s a q e mt m (by rw [h3, eb, y]) ha)]; exact hb
  · have back : ∀ {n : Nat} {r : Slot}, (st.set i (s.put d))[n]? = some r → r.mut = true → ∃ r', st[n]? = some r' ∧ r'.mut = true := fun {n r} q mr => by
      by_cases en : n = i
      · subst en
        exact ⟨s, e, m⟩
      · rw [List.getElem?_set_ne (Ne.symm en)] at q
        exact ⟨r, q, mr⟩
    obtain ⟨r1, b1, b2⟩ := back q1 m1
    obtain ⟨r2, b3, b4⟩ := back q2 m2
    exact S.apart j k r1 r2 b b1 b3 b2 b4 s1 s2
  · rw [z] at q n
    rcases hl with hl | hl
    · rw [hl] at q; cases q
    · exact n hl
  · by_cases eb : b = a
    · subst eb; rw [upd_same] at q
      exact absurd (Option.some.inj q) (hc.nofrz ob w)
    · rw [upd_ne eb] at q; exact S.locks b ob w q
  · by_cases eb : b = a
    · subst eb; exact ⟨o, upd_same⟩
    · obtain ⟨w, z⟩ := S.lent b q
      exact ⟨w, by rw [upd_ne eb]; exact z⟩
def Slot.free : Slot → Bool
  | .par _ => false
  | .pfr _ => false
  | _ => true
theorem Sim.assign (S : Sim K Φ Pr st σ H) {i : Nat} {s t : Slot} {v : V} (e : st[i]? = some s) (ok : SlotOk K Φ Pr H i t (some v))
    (hap : t.mut = true → ∀ (j : Nat) r, st[j]? = some r → r.mut = true → σ[j]? ≠ some (some v)) : Sim K Φ Pr (st.set i t) (σ.set i (some v)) H := by
  have hi : i < st.length := (List.getElem?_eq_some_iff.mp e).1
  have hs : i < σ.length := by rw [← S.len]; exact hi
  refine ⟨by simpa using S.len, S.inn, S.le0, fun j r q => ?_, fun j k r r' b q1 q2 m1 m2 s1 s2 => ?_, S.frame, S.newp, S.locks, S.lkin, S.lent⟩
  · by_cases ej : j = i
    · subst ej
      rw [List.getElem?_set_self hi] at q; cases q
      exact ⟨_, List.getElem?_set_self hs, ok⟩
    · rw [List.getElem?_set_ne (Ne.symm ej)] at q
      rw [List.getElem?_set_ne (Ne.symm ej)]
      exact S.slots j r q
  · by_cases ej : j = i
    · subst ej
      by_cases ek : k = j
      · exact ek.symm
      · rw [List.getElem?_set_self hi] at q1; cases q1
        rw [List.getElem?_set_self hs] at s1
        rw [List.getElem?_set_ne (Ne.symm ek)] at q2 s2
        cases s1
        exact absurd s2 (hap m1 k r' q2 m2)
    · rw [List.getElem?_set_ne (Ne.symm ej)] at q1 s1
      by_cases ek : k = i
      · subst ek
        rw [List.getElem?_set_self hi] at q2; cases q2
        rw [List.getElem?_set_self hs] at s2
        cases s2
        exact absurd s1 (hap m2 j r q1 m1)
      · rw [List.getElem?_set_ne (Ne.symm ek)] at q2 s2
        exact S.apart j k r r' b q1 q2 m1 m2 s1 s2
end
end Dv
namespace Dv
open PySem L2
def R.bind {α β : Type} (r : R α) (f : α → Sto → R β) : R β := match r with
  | .ok a s => f a s
  | .exc c v s => .exc c v s
  | .bad => .bad
@[simp] theorem R.bind_ok {α β : Type} (a : α) (s : Sto) (f : α → Sto → R β) : (R.ok a s).bind f = f a s := rfl
@[simp] theorem R.bind_exc {α β : Type} (c : Str) (v : D) (s : Sto) (f : α → Sto → R β) : (R.exc c v s : R α).bind f = .exc c v s := rfl
@[simp] theorem R.bind_bad {α β : Type} (f : α → Sto → R β) : (R.bad : R α).bind f = .bad := rfl
def datAt (s : Sto) (i : Nat) : Option D := match s[i]? with
  | some t => t.dat
  | none => none
def fzAt (s : Sto) (i : Nat) : R D := match s[i]? with
  | some t => match t.dat with
    | some d => .ok d (s.set i t.fz)
    | none => .bad
  | none => .bad
def peek : Opd → Sto → Option D
  | .val d, _ => some d
  | .own d, _ => some d
  | .slot i, s => datAt s i
def takeO : Opd → Sto → R D
  | .val d, s => .ok d s
  | .own d, s => .ok d s
  | .slot i, s => fzAt s i
section
variable {X : Cx} {Φ : Fr0} {W : WX} {Pr H : Hp} {st : Sto} {σ : St}
def Aft (X : Cx) (Φ : Fr0) (W : WX) (Pr : Hp) (σ : St) {α : Type} (r : R α) (k : α → Sto → Hp → Hp → Prop) : Prop := match r with
  | .ok a st' => ∀ Pr' H', Le Pr Pr' → Sim X.K Φ Pr' st' σ H' → k a st' Pr' H'
  | .exc c d st' => ∀ Pr' H' C dx v, Le Pr Pr' → Sim X.K Φ Pr' st' σ H' → PySem.W.nsIn X.K mainGlobals c = some (some (.ref C)) → Pr' dx = some (.xd [("value", v)]) → Rep X.K Pr' d v → W (.ref C) (some dx) σ H'
  | .bad => False
theorem Aft.mono {α : Type} {r : R α} {k : α → Sto → Hp → Hp → Prop} {Pr' : Hp} (h : Aft X Φ W Pr σ r k) (le : Le Pr Pr') : Aft X Φ W Pr' σ r k := by
  cases r with
  | ok a s => exact fun P' H' l s => h P' H' (le.trans l) s
  | exc c d s => exact fun P' H' C dx v l => h P' H' C dx v (le.trans l)
  | bad => exact h
theorem Aft.bind {α β : Type} {r : R α} {f : α → Sto → R β} {k : β → Sto → Hp → Hp → Prop} (h : Aft X Φ W Pr σ (r.bind f) k) : Aft X Φ W Pr σ r (fun a st1 Pr1 _ => Aft X Φ W Pr1 σ (f a st1) k) := by
  cases r with
  | ok a s => exact fun P' H' l _ => Aft.mono (show Aft X Φ W Pr σ (f a s) k from h) l
  | exc c d s => exact h
  | bad => exact h
theorem Aft.imp {α : Type} {r : R α} {k k' : α → Sto → Hp → Hp → Prop} (h : Aft X Φ W Pr σ r k) (hk : ∀ a s P' H', Le Pr P' → Sim X.K Φ P' s σ H' → k a s P' H' → k' a s P' H') : Aft X Φ W Pr σ r k' := by
  cases r with
  | ok a s => exact fun P' H' l S => hk a s P' H' l S (h P' H' l S)
  | exc c d s => exact h
  | bad => exact h
def tE (X : Cx) (Φ : Fr0) (W : WX) (f : E) : TE := fun σ H Q => ∃ Pr st, Sim X.K Φ Pr st σ H ∧ Aft X Φ W Pr σ (f st) fun o st' Pr' H' => ∀ v, RepO X.K Φ Pr' H' st' σ o v → Q v H'
def tT (X : Cx) (Φ : Fr0) (W : WX) (f : T) : TT := fun σ H Q => ∃ Pr st, Sim X.K Φ Pr st σ H ∧ Aft X Φ W Pr σ (f st) fun b _ _ H' => Q b H'
structure SE (X : Cx) (W : WX) (e : Expr) (f : E) : Prop where
  pe : ∀ Φ, PE X e (tE X Φ W f)
structure ST (X : Cx) (W : WX) (e : Expr) (f : T) : Prop where
  pt : ∀ Φ, PT X e (tT X Φ W f)
structure SW (X : Cx) (W : WX) (e : Expr) (f : T) : Prop where
  pw : ∀ Φ, PW X e (tT X Φ W f)
theorem SW.toT {e : Expr} {f : T} (h : SW X W e f) : ST X W e f := ⟨fun Φ => (h.pw Φ).pt⟩
theorem peImp {e : Expr} {t t' : TE} (h : PE X e t) (k : ∀ σ H Q, t' σ H Q → t σ H Q) : PE X e t' := ⟨fun pins s σ H Q I q => h.run pins s σ H Q I (k σ H Q q)⟩
theorem ptImp {e : Expr} {t t' : TT} (h : PT X e t) (k : ∀ σ H Q, t' σ H Q → t σ H Q) : PT X e t' := ⟨fun pins s σ H Q I q => h.run pins s σ H Q I (k σ H Q q)⟩
theorem pwImp {e : Expr} {t t' : TT} (h : PW X e t) (k : ∀ σ H Q, t' σ H Q → t σ H Q) : PW X e t' := ⟨fun wh pins s σ H Q I q => h.run wh pins s σ H Q I (k σ H Q q)⟩
def Kp (K : PySem.W.Frag) (Pr : Hp) (σ : St) : Opd → V → Prop
  | .val d, v => Rep K Pr d v
  | .own d, v => Rep K Pr d v
  | .slot i, v => σ[i]? = some (some v)
theorem Kp.mono {K : PySem.W.Frag} {Pr' : Hp} {o : Opd} {v : V} (h : Kp K Pr σ o v) (le : Le Pr Pr') : Kp K Pr' σ o v := by
  cases o with
  | val d => exact Rep.mono le d h
  | own d => exact Rep.mono le d h
  | slot i => exact h
theorem settle {K : PySem.W.Frag} {o : Opd} {v : V} (S : Sim K Φ Pr st σ H) (h : RepO K Φ Pr H st σ o v) : ∃ Pr', Le Pr Pr' ∧ Sim K Φ Pr' st σ H ∧ Kp K Pr' σ o v := by
  cases o with
  | val d => exact ⟨Pr, Le.refl _, S, h⟩
  | own d =>
    obtain ⟨a, ob, rfl, hn, h0, ha, hc, hf⟩ := h
    exact ⟨upd Pr a ob, Le.upd hn, S.freeze ha h0 hn hf, cont_rep (hc.mono (Le.upd hn)) upd_same⟩
  | slot i => exact ⟨Pr, Le.refl _, S, h.1⟩
def Pk (K : PySem.W.Frag) (Pr H : Hp) (d : D) (v : V) : Prop := Rep K Pr d v ∨ ∃ a o, v = .ref a ∧ H a = some o ∧ Cont K Pr o d
theorem pk_of {K : PySem.W.Frag} {o : Opd} {v : V} {d : D} (S : Sim K Φ Pr st σ H) (h : Kp K Pr σ o v) (e : peek o st = some d) : Pk K Pr H d v := by
  cases o with
  | val c => cases e; exact .inl h
  | own c => cases e; exact .inl h
  | slot i =>
    have e : datAt st i = some d := e
    unfold datAt at e
    split at e
    · rename_i s hs
      obtain ⟨ov, h1, h2⟩ := S.slots i s hs
      have h' : σ[i]? = some (some v) := h
      rw [h'] at h1; cases h1
      cases s with
      | un => cases e
      | val c =>
        cases e
        obtain ⟨w, q, r⟩ := h2
        cases q; exact .inl r
      | own c =>
        cases e
        obtain ⟨a, ob, q, _, _, ha, hc⟩ := h2
        cases q; exact .inr ⟨a, ob, rfl, ha, hc⟩
      | par c =>
        cases e
        obtain ⟨a, ob, q, _, _, ha, hc⟩ := h2
        cases q; exact .inr ⟨a, ob, rfl, ha, hc⟩
      | pfr c =>
        cases e
        obtain ⟨a, q, _, r⟩ := h2
        cases q; exact .inl r
    · cases e
theorem take_of {K : PySem.W.Frag} {o : Opd} {v : V} {d : D} {st' : Sto} (S : Sim K Φ Pr st σ H) (h : RepO K Φ Pr H st σ o v) (e : takeO o st = .ok d st') :
    ∃ Pr', Le Pr Pr' ∧ Sim K Φ Pr' st' σ H ∧ Rep K Pr' d v := by
  cases o with
  | val c => cases e; exact ⟨Pr, Le.refl _, S, h⟩
  | own c =>
    cases e
    obtain ⟨a, ob, rfl, hn, h0, ha, hc, hf⟩ := h
    exact ⟨upd Pr a ob, Le.upd hn, S.freeze ha h0 hn hf, cont_rep (hc.mono (Le.upd hn)) upd_same⟩
  | slot i =>
    have e : fzAt st i = .ok d st' := e
    unfold fzAt at e
    split at e
    · rename_i s hs
      split at e
      · rename_i c hc
        cases e
        obtain ⟨Pr', w, le, S', hw, r, _⟩ := S.fzSlot hs hc
        have h' : σ[i]? = some (some v) := h.1
        rw [h'] at hw; cases hw
        exact ⟨Pr', le, S', r⟩
      · cases e
    · cases e
theorem take_cases (o : Opd) (s : Sto) : (∃ d s', takeO o s = .ok d s') ∨ takeO o s = .bad := by
  cases o with
  | val d => exact .inl ⟨d, s, rfl⟩
  | own d => exact .inl ⟨d, s, rfl⟩
  | slot i =>
    show (∃ d s', fzAt s i = .ok d s') ∨ fzAt s i = .bad
    unfold fzAt
    split
    · split
      · exact .inl ⟨_, _, rfl⟩
      · exact .inr rfl
    · exact .inr rfl
theorem Aft.take {α : Type} {o : Opd} {v : V} {f : D → Sto → R α} {k : α → Sto → Hp → Hp → Prop} (h : Aft X Φ W Pr σ ((takeO o st).bind f) k) (S : Sim X.K Φ Pr st σ H) (r : RepO X.K Φ Pr H st σ o v) :
    ∃ d st' Pr', Le Pr Pr' ∧ Sim X.K Φ Pr' st' σ H ∧ Rep X.K Pr' d v ∧ Aft X Φ W Pr' σ (f d st') k := by
  rcases take_cases o st with ⟨d, st', e⟩ | e
  · rw [e] at h
    obtain ⟨Pr', le, S', r'⟩ := take_of S r e
    exact ⟨d, st', Pr', le, S', r', Aft.mono (show Aft X Φ W Pr σ (f d st') k from h) le⟩
  · rw [e] at h
    exact h.elim
theorem Pk.non {K : PySem.W.Frag} {v : V} (h : Pk K Pr H .non v) : v = .non := by
  rcases h with h | ⟨a, o, _, _, h⟩
  · unfold Rep at h; exact h
  · unfold Cont at h; split at h <;> first | exact h.elim | contradiction
theorem Pk.bl {K : PySem.W.Frag} {v : V} {b : Bool} (h : Pk K Pr H (.bl b) v) : v = .bl b := by
  rcases h with h | ⟨a, o, _, _, h⟩
  · unfold Rep at h; exact h
  · unfold Cont at h; split at h <;> first | exact h.elim | contradiction
theorem Pk.int {K : PySem.W.Frag} {v : V} {b : Int} (h : Pk K Pr H (.int b) v) : v = .int b := by
  rcases h with h | ⟨a, o, _, _, h⟩
  · unfold Rep at h; exact h
  · unfold Cont at h; split at h <;> first | exact h.elim | contradiction
theorem Pk.str {K : PySem.W.Frag} {v : V} {b : Str} (h : Pk K Pr H (.str b) v) : v = .str b := by
  rcases h with h | ⟨a, o, _, _, h⟩
  · unfold Rep at h; exact h.2
  · unfold Cont at h; split at h <;> first | exact h.elim | contradiction
theorem Pk.strOk {K : PySem.W.Frag} {v : V} {b : Str} (h : Pk K Pr H (.str b) v) : PyData.strOk b = true := by
  rcases h with h | ⟨a, o, _, _, h⟩
  · unfold Rep at h; exact h.1
  · unfold Cont at h; split at h <;> first | exact h.elim | contradiction
theorem Pk.tup {K : PySem.W.Frag} {v : V} {l : List D} (S : Sim K Φ Pr st σ H) (h : Pk K Pr H (.tup l) v) : ∃ a xs, v = .ref a ∧ SqT K H a xs ∧ Reps K Pr l xs := by
  rcases h with h | ⟨a, o, _, _, h⟩
  · unfold Rep at h
    obtain ⟨a, xs, e, q, r⟩ := h
    exact ⟨a, xs, e, S.sqT q, r⟩
  · unfold Cont at h; split at h <;> first | exact h.elim | contradiction
theorem Pk.lst {K : PySem.W.Frag} {v : V} {l : List D} (S : Sim K Φ Pr st σ H) (h : Pk K Pr H (.lst l) v) : ∃ a xs, v = .ref a ∧ Rd H a (.lst xs) ∧ Reps K Pr l xs := by
  rcases h with h | ⟨a, o, e, ho, h⟩
  · unfold Rep at h
    obtain ⟨a, xs, e, q, r⟩ := h
    exact ⟨a, xs, e, S.rdL q, r⟩
  · cases o with
    | lst xs => exact ⟨a, xs, e, .inl ho, h⟩
    | dK kvs => exact absurd h id
    | dT kvs => exact absurd h id
    | _ => exact absurd h id
theorem Pk.scr {K : PySem.W.Frag} {v : V} {l : List D} (S : Sim K Φ Pr st σ H) (h : Pk K Pr H (.scr l) v) : ∃ a xs, v = .ref a ∧ SqL K H a xs ∧ Reps K Pr l xs := by
  rcases h with h | ⟨a, o, _, _, h⟩
  · unfold Rep at h
    obtain ⟨a, xs, e, q, r⟩ := h
    exact ⟨a, xs, e, S.sqL q, r⟩
  · unfold Cont at h; split at h <;> first | exact h.elim | contradiction
theorem Pk.ty {K : PySem.W.Frag} {v : V} {n : String} (h : Pk K Pr H (.ty n) v) : v = .ty n := by
  rcases h with h | ⟨a, o, _, _, h⟩
  · unfold Rep at h; exact h
  · unfold Cont at h; split at h <;> first | exact h.elim | contradiction
theorem Pk.cls {K : PySem.W.Frag} {v : V} {c : Str} (h : Pk K Pr H (.cls c) v) : ∃ C, v = .ref C ∧ PySem.W.nsIn K mainGlobals c = some (some (.ref C)) := by
  rcases h with h | ⟨a, o, _, _, h⟩
  · unfold Rep at h; exact h
  · unfold Cont at h; split at h <;> first | exact h.elim | contradiction
end
end Dv
namespace Dv
open PySem L2
def sC (d : D) : E := fun s => .ok (.val d) s
def rdSlot (i : Nat) (s : Sto) : Slot → R Opd
  | .un => .bad
  | .val d => .ok (.val d) s
  | .pfr d => .ok (.val d) s
  | .own _ => .ok (.slot i) s
  | .par _ => .ok (.slot i) s
def sVar (i : Nat) : E := fun s => match s[i]? with
  | some t => rdSlot i s t
  | none => .bad
def okO {α : Type} (o : Option α) (s : Sto) : R α := match o with
  | some a => .ok a s
  | none => .bad
@[simp] theorem okO_some {α : Type} (a : α) (s : Sto) : okO (some a) s = .ok a s := rfl
@[simp] theorem okO_none {α : Type} (s : Sto) : (okO none s : R α) = .bad := rfl
def op1 (F : D → Option Opd) (oa : Opd) (s : Sto) : R Opd := okO ((peek oa s).bind F) s
def op2 (F : D → D → Option Opd) (oa ob : Opd) (s : Sto) : R Opd := okO ((peek oa s).bind fun x => (peek ob s).bind fun y => F x y) s
def sOp1 (F : D → Option Opd) (a : E) : E := fun s => (a s).bind (op1 F)
def sOp2 (F : D → D → Option Opd) (a b : E) : E := fun s => (a s).bind fun oa s1 => (b s1).bind fun ob s2 => op2 F oa ob s2
abbrev Ar := Sto → R (List Opd)
def aNil : Ar := fun s => .ok [] s
def aCons (a : E) (as : Ar) : Ar := fun s => (a s).bind fun o s1 => (as s1).bind fun os s2 => .ok (o :: os) s2
def takeAll : List Opd → Sto → R (List D)
  | [], s => .ok [] s
  | o :: os, s => (takeO o s).bind fun d s1 => (takeAll os s1).bind fun ds s2 => .ok (d :: ds) s2
def peekAll : List Opd → Sto → Option (List D)
  | [], _ => some []
  | o :: os, s => (peek o s).bind fun d => (peekAll os s).bind fun ds => some (d :: ds)
theorem exL : ∃ n : Nat, n = 16777216 := ⟨_, rfl⟩
def LIM : Nat := Classical.choose exL
theorem LIM_eq : LIM = 16777216 := Classical.choose_spec exL
theorem lim_eq : sizeLine = LIM := by rw [LIM_eq]; exact sizeLine_eq
theorem LIM_le {n : Nat} (h : n ≤ 16777216) : n ≤ LIM := by rw [LIM_eq]; exact h
theorem exB : ∃ n : Int, n = 2 ^ 63 := ⟨_, rfl⟩
def B63 : Int := Classical.choose exB
theorem B63_eq : B63 = 2 ^ 63 := Classical.choose_spec exB
theorem exC : ∃ n : Int, n = 2 ^ 62 := ⟨_, rfl⟩
def B62 : Int := Classical.choose exC
theorem B62_eq : B62 = 2 ^ 62 := Classical.choose_spec exC
def sTup (as : Ar) : E := fun s => (as s).bind fun os s1 => (takeAll os s1).bind fun ds s2 => if ds.length ≤ LIM then .ok (.val (.tup ds)) s2 else .bad
def sLst (as : Ar) : E := fun s => (as s).bind fun os s1 => (takeAll os s1).bind fun ds s2 => if ds.length ≤ LIM then .ok (.own (.lst ds)) s2 else .bad
def sCB (F : List D → Option Opd) (as : Ar) : E := fun s => (as s).bind fun os s1 => okO ((peekAll os s1).bind F) s1
def dB : D → Option Bool
  | .bl b => some b
  | _ => none
def tB (a : E) : T := fun s => (a s).bind fun o s1 => okO ((peek o s1).bind dB) s1
def truD : D → Option Bool
  | .non => some false
  | .bl b => some b
  | .int i => some (i != 0)
  | .str x => if x.length ≤ LIM then some ((x.length : Int) != 0) else none
  | .lst l => some (!l.isEmpty)
  | .tup l => some (!l.isEmpty)
  | _ => none
def tTru (a : E) : T := fun s => (a s).bind fun o s1 => okO ((peek o s1).bind truD) s1
def tNot (t : T) : T := fun s => (t s).bind fun b s1 => .ok (!b) s1
def tAnd (t u : T) : T := fun s => (t s).bind fun b s1 => if b then u s1 else .ok false s1
def tOr (t u : T) : T := fun s => (t s).bind fun b s1 => if b then .ok true s1 else u s1
def sNot (a : E) : E := fun s => (tB a s).bind fun b s1 => .ok (.val (.bl (!b))) s1
def sAnd (a b : E) : E := fun s => (tB a s).bind fun c s1 => if c then b s1 else .ok (.val (.bl false)) s1
def sOr (a b : E) : E := fun s => (tB a s).bind fun c s1 => if c then .ok (.val (.bl true)) s1 else b s1
def sIf (t : T) (a b : E) : E := fun s => (t s).bind fun c s1 => if c then a s1 else b s1
section
variable {X : Cx} {W : WX} {a b c e : Expr} {es : List Expr} {fa fb fc : E} {ft fu : T} {pos : Pos}
theorem se_var {i : Nat} {x : Str} (hN : X.N[i]? = some x) (hv : Vis X.env.scope x) (hd : (x == ("__debug__" : Str)) = false := by decide) (hcd : (x == ("__classdict__" : Str)) = false := by decide) : SE X W (.Name x pos) (sVar i) := by
  refine ⟨fun Φ => peImp (pe_var (i := i) hN hv hd hcd) fun σ H Q h => ?_⟩
  obtain ⟨Pr, st, S, h⟩ := h
  unfold sVar at h
  split at h
  · rename_i t ht
    obtain ⟨ov, h1, h2⟩ := S.slots i t ht
    cases t with
    | un => exact h.elim
    | val d =>
      obtain ⟨v, rfl, r⟩ := h2
      exact ⟨v, h1, h Pr H (Le.refl _) S v r⟩
    | pfr d =>
      obtain ⟨p, rfl, _, r⟩ := h2
      exact ⟨_, h1, h Pr H (Le.refl _) S _ r⟩
    | own d =>
      obtain ⟨p, o, rfl, _⟩ := h2
      exact ⟨_, h1, h Pr H (Le.refl _) S _ ⟨h1, _, ht, rfl⟩⟩
    | par d =>
      obtain ⟨p, o, rfl, _⟩ := h2
      exact ⟨_, h1, h Pr H (Le.refl _) S _ ⟨h1, _, ht, rfl⟩⟩
  · exact h.elim
theorem se_const {d : D} {v : V} (h : PE X e (tC v)) (r : ∀ Pr, Rep X.K Pr d v) : SE X W e (sC d) := by
  refine ⟨fun Φ => peImp h fun σ H Q q => ?_⟩
  obtain ⟨Pr, st, S, q⟩ := q
  exact q Pr H (Le.refl _) S v (r Pr)
theorem rep_int {K : PySem.W.Frag} {Pr : Hp} {i : Int} : Rep K Pr (.int i) (.int i) := by unfold Rep; rfl
theorem rep_str {K : PySem.W.Frag} {Pr : Hp} {i : Str} (h : PyData.strOk i = true) : Rep K Pr (.str i) (.str i) := by unfold Rep; exact ⟨h, rfl⟩
theorem rep_bl {K : PySem.W.Frag} {Pr : Hp} {i : Bool} : Rep K Pr (.bl i) (.bl i) := by unfold Rep; rfl
theorem rep_non {K : PySem.W.Frag} {Pr : Hp} : Rep K Pr .non .non := by unfold Rep; rfl
theorem se_int {i : Int} {j} : SE X W (.Constant (.int i) j pos) (sC (.int i)) := se_const pe_int fun _ => rep_int
theorem se_bl {i : Bool} {j} : SE X W (.Constant (.bool i) j pos) (sC (.bl i)) := se_const pe_bl fun _ => rep_bl
theorem se_non {j} : SE X W (.Constant .none j pos) (sC .non) := se_const pe_non fun _ => rep_non
theorem se_str {x : Str} {j} (h : PyData.strOk x = true := by decide +kernel) : SE X W (.Constant (.str x) j pos) (sC (.str x)) := se_const pe_str fun _ => rep_str h
theorem se_glob {x : Str} {d : D} {v : V} {u : Value} (hg : Gl X x) (hm : X.mg x = some u) (r : RelV v u) (hr : ∀ Pr, Rep X.K Pr d v) (hd : (x == ("__debug__" : Str)) = false := by decide) : SE X W (.Name x pos) (sC d) :=
  se_const (pe_glob hg hm r hd) hr
section
variable {K : PySem.W.Frag} {Φ : Fr0} {Pr H : Hp} {st : Sto} {σ : St}
theorem ro_bl {b : Bool} : RepO K Φ Pr H st σ (.val (.bl b)) (.bl b) := rep_bl (K := K) (Pr := Pr)
theorem ro_int {b : Int} : RepO K Φ Pr H st σ (.val (.int b)) (.int b) := rep_int (K := K) (Pr := Pr)
theorem ro_non : RepO K Φ Pr H st σ (.val .non) .non := rep_non (K := K) (Pr := Pr)
theorem ro_str {b : Str} (h : PyData.strOk b = true) : RepO K Φ Pr H st σ (.val (.str b)) (.str b) := rep_str (K := K) (Pr := Pr) h
end
theorem two_of {Φ : Fr0} {r : R2} {g : Opd → Opd → Sto → R Opd}
    (hr : ∀ Pr st σ H oa ob x y Q, Sim X.K Φ Pr st σ H → Kp X.K Pr σ oa x → Kp X.K Pr σ ob y → Aft X Φ W Pr σ (g oa ob st) (fun o st' Pr' H' => ∀ v, RepO X.K Φ Pr' H' st' σ o v → Q v H') → r x y H Q) :
    ∀ σ H Q, tE X Φ W (fun st => (fa st).bind fun oa s1 => (fb s1).bind fun ob s2 => g oa ob s2) σ H Q → tOp r (tE X Φ W fa) (tE X Φ W fb) σ H Q := by
  intro σ H Q h
  obtain ⟨Pr, st, S, h⟩ := h
  refine ⟨Pr, st, S, h.bind.imp fun oa s1 P1 H1 l1 S1 h1 x hx => ?_⟩
  obtain ⟨P1', l1', S1', k1⟩ := settle S1 hx
  refine ⟨P1', s1, S1', (Aft.bind (h1.mono l1')).imp fun ob s2 P2 H2 l2 S2 h2 y hy => ?_⟩
  obtain ⟨P2', l2', S2', k2⟩ := settle S2 hy
  exact hr P2' s2 σ H2 oa ob x y Q S2' (k1.mono (l2.trans l2')) k2 (h2.mono l2')
def OpS (X : Cx) (f : Value → Value → Sem Value) (F : D → D → Option Opd) : Prop :=
  ∃ r, OpR X f r ∧ ∀ Φ Pr st σ H dx dy x y o Q, Sim X.K Φ Pr st σ H → Pk X.K Pr H dx x → Pk X.K Pr H dy y → F dx dy = some o →
    (∀ Pr' H' v, Le Pr Pr' → Sim X.K Φ Pr' st σ H' → RepO X.K Φ Pr' H' st σ o v → Q v H') → r x y H Q
theorem op2_of {Φ : Fr0} {Pr H : Hp} {st : Sto} {σ : St} {F : D → D → Option Opd} {oa ob : Opd} {x y : V} {k : Opd → Sto → Hp → Hp → Prop} (S : Sim X.K Φ Pr st σ H) (ka : Kp X.K Pr σ oa x) (kb : Kp X.K Pr σ ob y) (h : Aft X Φ W Pr σ (op2 F oa ob st) k) :
    ∃ dx dy o, Pk X.K Pr H dx x ∧ Pk X.K Pr H dy y ∧ F dx dy = some o ∧ Aft X Φ W Pr σ (.ok o st) k := by
  unfold op2 at h
  cases e1 : peek oa st with
  | none => rw [e1] at h; exact h.elim
  | some dx =>
    cases e2 : peek ob st with
    | none => rw [e1, e2] at h; exact h.elim
    | some dy =>
      cases e3 : F dx dy with
      | none => rw [e1, e2] at h; simp only [Option.bind_some, e3] at h; exact h.elim
      | some o =>
        rw [e1, e2] at h
        simp only [Option.bind_some, e3] at h
        exact ⟨dx, dy, o, pk_of S ka e1, pk_of S kb e2, e3, h⟩
theorem se_op {op : Operator} {F : D → D → Option Opd} (ho : OpS X (binaryOp op) F) (ha : SE X W a fa) (hb : SE X W b fb) : SE X W (.BinOp a op b pos) (sOp2 F fa fb) := by
  obtain ⟨r, hr, hq⟩ := ho
  refine ⟨fun Φ => peImp (pe_op hr (ha.pe Φ) (hb.pe Φ)) (two_of fun Pr st σ H oa ob x y Q S k1 k2 h => ?_)⟩
  obtain ⟨dx, dy, o, p1, p2, e, h⟩ := op2_of S k1 k2 h
  exact hq Φ Pr st σ H dx dy x y o Q S p1 p2 e fun Pr' H' v le S' rv => h Pr' H' le S' v rv
theorem se_cmp {op : CmpOp} {F : D → D → Option Opd} (ho : OpS X (compareOp op) F) (ha : SE X W a fa) (hb : SE X W b fb) (hm : behindInMarks op b = false) : SE X W (.Compare a [op] [b] pos) (sOp2 F fa fb) := by
  obtain ⟨r, hr, hq⟩ := ho
  refine ⟨fun Φ => peImp (pe_cmpR hr (ha.pe Φ) (hb.pe Φ) hm) (two_of fun Pr st σ H oa ob x y Q S k1 k2 h => ?_)⟩
  obtain ⟨dx, dy, o, p1, p2, e, h⟩ := op2_of S k1 k2 h
  exact hq Φ Pr st σ H dx dy x y o Q S p1 p2 e fun Pr' H' v le S' rv => h Pr' H' le S' v rv
theorem st_cmp {op : CmpOp} {F : D → D → Option Opd} (ho : OpS X (compareOp op) F) (ha : SE X W a fa) (hb : SE X W b fb) (hm : behindInMarks op b = false) : ST X W (.Compare a [op] [b] pos) (tB (sOp2 F fa fb)) := by
  obtain ⟨r, hr, hq⟩ := ho
  refine ⟨fun Φ => ptImp (pt_cmpR hr (ha.pe Φ) (hb.pe Φ) hm) fun σ H Q h => ?_⟩
  have h' : tE X Φ W (fun st => (fa st).bind fun oa s1 => (fb s1).bind fun ob s2 => op2 F oa ob s2) σ H fun x H' => ∃ k, x = .bl k ∧ Q k H' := by
    obtain ⟨Pr, st, S, h⟩ := h
    refine ⟨Pr, st, S, h.bind.imp fun o s1 P1 H1 l1 S1 h1 v hv => ?_⟩
    obtain ⟨P1', l1', S1', kv⟩ := settle S1 hv
    have h1 := h1.mono l1'
    cases e : peek o s1 with
    | none => rw [e] at h1; exact h1.elim
    | some d =>
      rw [e] at h1
      have pk := pk_of S1' kv e
      cases d with
      | bl b => exact ⟨b, pk.bl, h1 P1' H1 (Le.refl _) S1'⟩
      | _ => exact h1.elim
  exact two_of (r := r) (g := op2 F) (fun Pr st σ H oa ob x y Q S k1 k2 h => by
    obtain ⟨dx, dy, o, p1, p2, e, h⟩ := op2_of S k1 k2 h
    exact hq Φ Pr st σ H dx dy x y o Q S p1 p2 e fun Pr' H' v le S' rv => h Pr' H' le S' v rv) σ H _ h'
theorem st_val (ha : SE X W a fa) (he : ∀ whole, isTrue a X.env whole = (do let v ← whole; standAt a.pos; holding [v] (truthy v)) := by intro _; rfl) : ST X W a (tB fa) := by
  refine ⟨fun Φ => ptImp (pt_val (ha.pe Φ) he) fun σ H Q h => ?_⟩
  obtain ⟨Pr, st, S, h⟩ := h
  refine ⟨Pr, st, S, h.bind.imp fun o s1 P1 H1 l1 S1 h1 v hv => ?_⟩
  obtain ⟨P1', l1', S1', kv⟩ := settle S1 hv
  have h1 := h1.mono l1'
  cases e : peek o s1 with
  | none => rw [e] at h1; exact h1.elim
  | some d =>
    rw [e] at h1
    have pk := pk_of S1' kv e
    cases d with
    | bl b => exact ⟨b, pk.bl, h1 P1' H1 (Le.refl _) S1'⟩
    | _ => exact h1.elim
theorem st_tru (ha : SE X W a fa) (he : ∀ whole, isTrue a X.env whole = (do let v ← whole; standAt a.pos; holding [v] (truthy v)) := by intro _; rfl) : ST X W a (tTru fa) := by
  refine ⟨fun Φ => ptImp (pt_truth (ha.pe Φ) he) fun σ H Q h => ?_⟩
  obtain ⟨Pr, st, S, h⟩ := h
  refine ⟨Pr, st, S, h.bind.imp fun o s1 P1 H1 l1 S1 h1 v hv => ?_⟩
  obtain ⟨P1', l1', S1', kv⟩ := settle S1 hv
  have h1 := h1.mono l1'
  cases e : peek o s1 with
  | none => rw [e] at h1; exact h1.elim
  | some d =>
    rw [e] at h1
    have pk := pk_of S1' kv e
    cases e2 : truD d with
    | none => simp only [Option.bind_some, e2] at h1; exact h1.elim
    | some k =>
      simp only [Option.bind_some, e2] at h1
      refine ⟨k, ?_, h1 P1' H1 (Le.refl _) S1'⟩
      cases d with
      | non => cases pk.non; cases e2; rfl
      | bl b => cases pk.bl; cases e2; rfl
      | int i => cases pk.int; cases e2; rfl
      | str x =>
        cases pk.str
        simp only [truD] at e2
        by_cases hl : x.length ≤ LIM
        · rw [if_pos hl] at e2
          cases e2
          exact ⟨by rw [lim_eq]; exact hl, rfl⟩
        · rw [if_neg hl] at e2; cases e2
      | lst l =>
        obtain ⟨p, xs, rfl, q, r⟩ := pk.lst S1'
        cases e2
        refine .inl ⟨xs, .inl q, ?_⟩
        cases l with
        | nil => unfold Reps at r; subst r; rfl
        | cons _ _ => unfold Reps at r; obtain ⟨_, _, rfl, _⟩ := r; rfl
      | tup l =>
        obtain ⟨p, xs, rfl, q, r⟩ := pk.tup S1'
        cases e2
        refine .inr (.inl ⟨xs, q, ?_⟩)
        cases l with
        | nil => unfold Reps at r; subst r; rfl
        | cons _ _ => unfold Reps at r; obtain ⟨_, _, rfl, _⟩ := r; rfl
      | _ => cases e2
theorem sw_and1 (ha : ST X W a ft) : SW X W (.BoolOp .And [a] pos) ft := ⟨fun Φ => pw_and1 (ha.pt Φ)⟩
theorem sw_or1 (ha : ST X W a ft) : SW X W (.BoolOp .Or [a] pos) ft := ⟨fun Φ => pw_or1 (ha.pt Φ)⟩
theorem sw_and {rest : List Expr} (ha : ST X W a ft) (hb : SW X W (.BoolOp .And (b :: rest) pos) fu) : SW X W (.BoolOp .And (a :: b :: rest) pos) (tAnd ft fu) := by
  refine ⟨fun Φ => pwImp (pw_and (ha.pt Φ) (hb.pw Φ)) fun σ H Q h => ?_⟩
  obtain ⟨Pr, st, S, h⟩ := h
  refine ⟨Pr, st, S, h.bind.imp fun k s1 P1 H1 l1 S1 h1 => ?_⟩
  cases k with
  | true => exact iteT ⟨P1, s1, S1, h1⟩
  | false => exact iteF (h1 P1 H1 (Le.refl _) S1)
theorem sw_or {rest : List Expr} (ha : ST X W a ft) (hb : SW X W (.BoolOp .Or (b :: rest) pos) fu) : SW X W (.BoolOp .Or (a :: b :: rest) pos) (tOr ft fu) := by
  refine ⟨fun Φ => pwImp (pw_or (ha.pt Φ) (hb.pw Φ)) fun σ H Q h => ?_⟩
  obtain ⟨Pr, st, S, h⟩ := h
  refine ⟨Pr, st, S, h.bind.imp fun k s1 P1 H1 l1 S1 h1 => ?_⟩
  cases k with
  | false => exact iteF ⟨P1, s1, S1, h1⟩
  | true => exact iteT (h1 P1 H1 (Le.refl _) S1)
theorem st_not (ha : ST X W a ft) : ST X W (.UnaryOp .Not a pos) (tNot ft) := by
  refine ⟨fun Φ => ptImp (pt_not (ha.pt Φ)) fun σ H Q h => ?_⟩
  obtain ⟨Pr, st, S, h⟩ := h
  exact ⟨Pr, st, S, h.bind.imp fun k s1 P1 H1 l1 S1 h1 => h1 P1 H1 (Le.refl _) S1⟩
theorem tB_of {Φ : Fr0} {Pr : Hp} {st : Sto} {σ : St} {k : Bool → Sto → Hp → Hp → Prop} (h : Aft X Φ W Pr σ (tB fa st) k) :
    Aft X Φ W Pr σ (fa st) fun o st' Pr' H' => ∀ v, RepO X.K Φ Pr' H' st' σ o v → ∃ b, v = .bl b ∧ ∃ Pr2, Le Pr' Pr2 ∧ Sim X.K Φ Pr2 st' σ H' ∧ Aft X Φ W Pr2 σ (.ok b st') k := by
  refine (Aft.bind h).imp fun o s1 P1 H1 l1 S1 h1 v hv => ?_
  obtain ⟨P1', l1', S1', kv⟩ := settle S1 hv
  have h1 := h1.mono l1'
  cases e : peek o s1 with
  | none => rw [e] at h1; exact h1.elim
  | some d =>
    rw [e] at h1
    have pk := pk_of S1' kv e
    cases d with
    | bl b => exact ⟨b, pk.bl, P1', l1', S1', h1⟩
    | _ => exact h1.elim
theorem se_not (ha : SE X W a fa) : SE X W (.UnaryOp .Not a pos) (sNot fa) := by
  refine ⟨fun Φ => peImp (pe_not (ha.pe Φ)) fun σ H Q h => ?_⟩
  obtain ⟨Pr, st, S, h⟩ := h
  refine ⟨Pr, st, S, (tB_of h.bind).imp fun o s1 P1 H1 l1 S1 h1 v hv => ?_⟩
  obtain ⟨b, rfl, P2, l2, S2, h2⟩ := h1 v hv
  exact ⟨b, rfl, h2 P2 H1 (Le.refl _) S2 P2 H1 (Le.refl _) S2 _ (rep_bl (K := X.K) (Pr := P2))⟩
theorem se_one {op} (ha : SE X W a fa) : SE X W (.BoolOp op [a] pos) fa := ⟨fun Φ => pe_one (ha.pe Φ)⟩
theorem se_and {rest : List Expr} (ha : SE X W a fa) (hb : SE X W (.BoolOp .And (b :: rest) pos) fb) : SE X W (.BoolOp .And (a :: b :: rest) pos) (sAnd fa fb) := by
  refine ⟨fun Φ => peImp (pe_and (ha.pe Φ) (hb.pe Φ)) fun σ H Q h => ?_⟩
  obtain ⟨Pr, st, S, h⟩ := h
  refine ⟨Pr, st, S, (tB_of h.bind).imp fun o s1 P1 H1 l1 S1 h1 v hv => ?_⟩
  obtain ⟨b, rfl, P2, l2, S2, h2⟩ := h1 v hv
  have h3 := h2 P2 H1 (Le.refl _) S2
  cases b with
  | true => exact ⟨true, rfl, iteT ⟨P2, s1, S2, h3⟩⟩
  | false => exact ⟨false, rfl, iteF (h3 P2 H1 (Le.refl _) S2 _ (rep_bl (K := X.K) (Pr := P2)))⟩
theorem se_or {rest : List Expr} (ha : SE X W a fa) (hb : SE X W (.BoolOp .Or (b :: rest) pos) fb) : SE X W (.BoolOp .Or (a :: b :: rest) pos) (sOr fa fb) := by
  refine ⟨fun Φ => peImp (pe_or (ha.pe Φ) (hb.pe Φ)) fun σ H Q h => ?_⟩
  obtain ⟨Pr, st, S, h⟩ := h
  refine ⟨Pr, st, S, (tB_of h.bind).imp fun o s1 P1 H1 l1 S1 h1 v hv => ?_⟩
  obtain ⟨b, rfl, P2, l2, S2, h2⟩ := h1 v hv
  have h3 := h2 P2 H1 (Le.refl _) S2
  cases b with
  | false => exact ⟨false, rfl, iteF ⟨P2, s1, S2, h3⟩⟩
  | true => exact ⟨true, rfl, iteT (h3 P2 H1 (Le.refl _) S2 _ (rep_bl (K := X.K) (Pr := P2)))⟩
theorem se_if (ht : ST X W c ft) (ha : SE X W a fa) (hb : SE X W b fb) : SE X W (.IfExp c a b pos) (sIf ft fa fb) := by
  refine ⟨fun Φ => peImp (pe_ifExp (ht.pt Φ) (ha.pe Φ) (hb.pe Φ)) fun σ H Q h => ?_⟩
  obtain ⟨Pr, st, S, h⟩ := h
  refine ⟨Pr, st, S, h.bind.imp fun k s1 P1 H1 l1 S1 h1 => ?_⟩
  cases k with
  | true => exact iteT ⟨P1, s1, S1, h1⟩
  | false => exact iteF ⟨P1, s1, S1, h1⟩
inductive Kps (K : PySem.W.Frag) (Pr : Hp) (σ : St) : List Opd → List V → Prop
  | nil : Kps K Pr σ [] []
  | cons {o : Opd} {os : List Opd} {v : V} {vs : List V} : Kp K Pr σ o v → Kps K Pr σ os vs → Kps K Pr σ (o :: os) (v :: vs)
theorem Kps.mono {K : PySem.W.Frag} {Pr Pr' : Hp} {σ : St} {os : List Opd} {vs : List V} (h : Kps K Pr σ os vs) (le : Le Pr Pr') : Kps K Pr' σ os vs := by
  induction h with
  | nil => exact .nil
  | cons k _ ih => exact .cons (k.mono le) ih
def tAr (X : Cx) (Φ : Fr0) (W : WX) (f : Ar) : TA := fun σ H Q => ∃ Pr st, Sim X.K Φ Pr st σ H ∧ Aft X Φ W Pr σ (f st) fun os st' Pr' H' => ∀ P2 vs, Le Pr' P2 → Sim X.K Φ P2 st' σ H' → Kps X.K P2 σ os vs → Q vs H'
structure SA (X : Cx) (W : WX) (es : List Expr) (f : Ar) : Prop where
  pa : ∀ Φ, PA X es (tAr X Φ W f)
theorem sa_nil : SA X W [] aNil := by
  refine ⟨fun Φ => ⟨fun pos pins s σ H Q I h => ?_⟩⟩
  obtain ⟨Pr, st, S, h⟩ := h
  exact pa_nil.run pos pins s σ H Q I (h Pr H (Le.refl _) S Pr [] (Le.refl _) S .nil)
theorem sa_cons {fs : Ar} (ha : SE X W e fa) (hr : SA X W es fs) (hs : starEach (e :: es) X.env = (false, eval e X.env) :: starEach es X.env := by rfl) : SA X W (e :: es) (aCons fa fs) := by
  refine ⟨fun Φ => ⟨fun pos pins s σ H Q I h => (pa_cons (ha.pe Φ) (hr.pa Φ) hs).run pos pins s σ H Q I ?_⟩⟩
  obtain ⟨Pr, st, S, h⟩ := h
  refine ⟨Pr, st, S, h.bind.imp fun o s1 P1 H1 l1 S1 h1 x hx => ?_⟩
  obtain ⟨P1', l1', S1', k1⟩ := settle S1 hx
  refine ⟨P1', s1, S1', (Aft.bind (h1.mono l1')).imp fun os s2 P2 H2 l2 S2 h2 P3 vs l3 S3 kvs => ?_⟩
  exact h2 P3 H2 l3 S3 P3 (x :: vs) (Le.refl _) S3 (.cons (k1.mono (l2.trans l3)) kvs)
theorem takeAll_of {Φ : Fr0} {H : Hp} {σ : St} : ∀ {os : List Opd} {vs : List V} {Pr : Hp} {st : Sto} {α : Type} {f : List D → Sto → R α} {k : α → Sto → Hp → Hp → Prop}, Sim X.K Φ Pr st σ H → Kps X.K Pr σ os vs → Aft X Φ W Pr σ ((takeAll os st).bind f) k →
    ∃ ds st' Pr', takeAll os st = .ok ds st' ∧ Le Pr Pr' ∧ Sim X.K Φ Pr' st' σ H ∧ Reps X.K Pr' ds vs ∧ Aft X Φ W Pr' σ (f ds st') k
  | [], _, Pr, st, α, f, k, S, .nil, h => ⟨[], st, Pr, rfl, Le.refl _, S, Reps.nil, h⟩
  | o :: os, _, Pr, st, α, f, k, S, .cons (v := v) (vs := vs) ko kos, h => by
    unfold takeAll at h ⊢
    rcases take_cases o st with ⟨d, s1, e⟩ | e
    · rw [e] at h ⊢
      simp only [R.bind_ok] at h ⊢
      have one : ∃ P1, Le Pr P1 ∧ Sim X.K Φ P1 s1 σ H ∧ Rep X.K P1 d v := by
        cases o with
        | val c => cases e; exact ⟨Pr, Le.refl _, S, ko⟩
        | own c => cases e; exact ⟨Pr, Le.refl _, S, ko⟩
        | slot i =>
          have e : fzAt st i = .ok d s1 := e
          unfold fzAt at e
          split at e
          · rename_i s hs
            split at e
            · rename_i c hc
              cases e
              obtain ⟨Pr', w, le, S', hw, r, _⟩ := S.fzSlot hs hc
              have h' : σ[i]? = some (some v) := ko
              rw [h'] at hw; cases hw
              exact ⟨Pr', le, S', r⟩
            · cases e
          · cases e
      obtain ⟨P1, l1, S1, r1⟩ := one
      cases e2 : takeAll os s1 with
      | ok ds s2 =>
        rw [e2] at h
        have h' : Aft X Φ W P1 σ ((takeAll os s1).bind fun ds s2 => f (d :: ds) s2) k := by
          rw [e2]; exact Aft.mono h l1
        obtain ⟨ds', s2', P2, e3, l2, S2, r2, h2⟩ := takeAll_of S1 (kos.mono l1) h'
        rw [e2] at e3; cases e3
        exact ⟨d :: ds, s2, P2, rfl, l1.trans l2, S2, Reps.cons (Rep.mono l2 d r1) r2, h2⟩
      | exc c x s2 =>
        have h' : Aft X Φ W P1 σ ((takeAll os s1).bind fun ds s2 => f (d :: ds) s2) k := by
          rw [e2] at h ⊢; exact Aft.mono h l1
        obtain ⟨ds', s2', P2, e3, _⟩ := takeAll_of S1 (kos.mono l1) h'
        rw [e2] at e3; cases e3
      | bad => rw [e2] at h; exact h.elim
    · rw [e] at h; exact h.elim
theorem se_tup {fs : Ar} {x1} (h : SA X W es fs) : SE X W (.Tuple es x1 pos) (sTup fs) := by
  refine ⟨fun Φ => peImp (pe_tup (h.pa Φ)) fun σ H Q q => ?_⟩
  obtain ⟨Pr, st, S, q⟩ := q
  refine ⟨Pr, st, S, q.bind.imp fun os s1 P1 H1 l1 S1 h1 P2 vs l2 S2 ks => ?_⟩
  obtain ⟨ds, s2, P3, e, l3, S3, r, h2⟩ := takeAll_of S2 ks (h1.mono l2)
  by_cases hl : ds.length ≤ LIM
  · rw [if_pos hl] at h2
    refine ⟨by rw [r.length, lim_eq]; exact hl, fun p hp => ?_⟩
    have le := Le.upd (o := .tup vs) (S3.fresh hp).1
    refine h2 _ _ le (S3.laid hp fun _ _ z => nomatch z) _ ?_
    show Rep _ _ _ _
    unfold Rep
    exact ⟨p, vs, rfl, SqT.of upd_same, Reps.mono le ds r⟩
  · rw [if_neg hl] at h2; exact h2.elim
theorem repO_new {Φ : Fr0} {Pr H : Hp} {st : Sto} {σ : St} {p : Addr} {o : HO} {d : D} (S : Sim X.K Φ Pr st σ H) (hp : H p = none) (hc : Cont X.K Pr o d) : RepO X.K Φ Pr (upd H p o) st σ (.own d) (.ref p) :=
  ⟨p, o, rfl, (S.fresh hp).1, (S.fresh hp).2.1, upd_same, hc, fun i s e m z => by
    obtain ⟨ov, h1, h2⟩ := S.slots i s e
    rw [h1] at z; cases z
    obtain ⟨_, ⟨u, q⟩, _⟩ := h2.there m
    rw [hp] at q; cases q⟩
theorem se_lst {fs : Ar} (h : SA X W es fs) : SE X W (.List es pos) (sLst fs) := by
  refine ⟨fun Φ => peImp (pe_lst (h.pa Φ)) fun σ H Q q => ?_⟩
  obtain ⟨Pr, st, S, q⟩ := q
  refine ⟨Pr, st, S, q.bind.imp fun os s1 P1 H1 l1 S1 h1 P2 vs l2 S2 ks => ?_⟩
  obtain ⟨ds, s2, P3, e, l3, S3, r, h2⟩ := takeAll_of S2 ks (h1.mono l2)
  by_cases hl : ds.length ≤ LIM
  · rw [if_pos hl] at h2
    refine ⟨by rw [r.length, lim_eq]; exact hl, fun p hp => ?_⟩
    exact h2 _ _ (Le.refl _) (S3.alloc (o := .lst vs) hp fun _ _ z => nomatch z) _ (repO_new S3 hp r)
  · rw [if_neg hl] at h2; exact h2.elim
inductive Pks (K : PySem.W.Frag) (Pr H : Hp) : List D → List V → Prop
  | nil : Pks K Pr H [] []
  | cons {d : D} {ds : List D} {v : V} {vs : List V} : Pk K Pr H d v → Pks K Pr H ds vs → Pks K Pr H (d :: ds) (v :: vs)
theorem pks_of {K : PySem.W.Frag} {Φ : Fr0} {Pr H : Hp} {st : Sto} {σ : St} (S : Sim K Φ Pr st σ H) {os : List Opd} {vs : List V} {ds : List D} (ks : Kps K Pr σ os vs) (e : peekAll os st = some ds) : Pks K Pr H ds vs := by
  induction ks generalizing ds with
  | nil => cases e; exact .nil
  | @cons o os v vs ko kos ih =>
    unfold peekAll at e
    cases e1 : peek o st with
    | none => rw [e1] at e; cases e
    | some d =>
      cases e2 : peekAll os st with
      | none => rw [e1, e2] at e; cases e
      | some r =>
        rw [e1, e2] at e
        cases e
        exact .cons (pk_of S ko e1) (ih e2)
def CallS (X : Cx) (f : Value) (F : List D → Option Opd) : Prop :=
  ∃ r, CallR X f r ∧ ∀ Φ Pr st σ H ds vs o Q, Sim X.K Φ Pr st σ H → Pks X.K Pr H ds vs → F ds = some o →
    (∀ Pr' H' v, Le Pr Pr' → Sim X.K Φ Pr' st σ H' → RepO X.K Φ Pr' H' st σ o v → Q v H') → r vs H Q
theorem cb_of {Φ : Fr0} {F : List D → Option Opd} {fs : Ar} {r : List V → Hp → VK → Prop} (hq : ∀ Pr st σ H ds vs o Q, Sim X.K Φ Pr st σ H → Pks X.K Pr H ds vs → F ds = some o →
    (∀ Pr' H' v, Le Pr Pr' → Sim X.K Φ Pr' st σ H' → RepO X.K Φ Pr' H' st σ o v → Q v H') → r vs H Q) : ∀ σ H Q, tE X Φ W (sCB F fs) σ H Q → tCB r (tAr X Φ W fs) σ H Q := by
  intro σ H Q q
  obtain ⟨Pr, st, S, q⟩ := q
  refine ⟨Pr, st, S, q.bind.imp fun os s1 P1 H1 l1 S1 h1 P2 vs l2 S2 ks => ?_⟩
  have h1 := h1.mono l2
  cases e : peekAll os s1 with
  | none => rw [e] at h1; exact h1.elim
  | some ds =>
    rw [e] at h1
    cases e2 : F ds with
    | none => simp only [Option.bind_some, e2] at h1; exact h1.elim
    | some o =>
      simp only [Option.bind_some, e2] at h1
      exact hq P2 s1 σ H1 ds vs o Q S2 (pks_of S2 ks e) e2 fun Pr' H' v le S' rv => h1 Pr' H' le S' v rv
theorem se_callB {x : Str} {p : Pos} {id : String} {F : List D → Option Opd} {fs : Ar} (hc : CallS X (.builtin id) F) (hg : Gl X x) (hm : X.mg x = none) (hv : bootBuiltins x = some (.builtin id)) (ha : SA X W (e :: es) fs) (hn : x ≠ "__name__" := by decide) (hdb : (x == ("__debug__" : Str)) = false := by decide)
    (he : starEach (e :: es) X.env = (false, eval e X.env) :: starEach es X.env := by rfl) (hpl : (backTo pos (starEach es X.env)).any (·.1) = false := by rfl) : SE X W (.Call (.Name x p) (e :: es) [] pos) (sCB F fs) := by
  obtain ⟨r, hr, hq⟩ := hc
  exact ⟨fun Φ => peImp (pe_callB hr hg hm hv (ha.pa Φ) hn hdb he hpl) (cb_of (hq Φ))⟩
theorem se_callTy {x : Str} {p : Pos} {id : String} {F : List D → Option Opd} {fs : Ar} (hc : CallS X (.type id) F) (hg : Gl X x) (hm : X.mg x = none) (hv : bootBuiltins x = some (.type id)) (ha : SA X W (e :: es) fs) (hn : x ≠ "__name__" := by decide) (hdb : (x == ("__debug__" : Str)) = false := by decide)
    (he : starEach (e :: es) X.env = (false, eval e X.env) :: starEach es X.env := by rfl) (hpl : (backTo pos (starEach es X.env)).any (·.1) = false := by rfl) : SE X W (.Call (.Name x p) (e :: es) [] pos) (sCB F fs) := by
  obtain ⟨r, hr, hq⟩ := hc
  exact ⟨fun Φ => peImp (pe_callTy hr hg hm hv (ha.pa Φ) hn hdb he hpl) (cb_of (hq Φ))⟩
end
end Dv
namespace Dv
open PySem L2
mutual
def D.toPy : D → Option PyData
  | .non => some .none
  | .bl b => some (.bool b)
  | .int i => some (.int i)
  | .str x => some (.str x)
  | .tup l => (D.toPyAll l).map .tuple
  | .lst l => (D.toPyAll l).map .list
  | .dct _ _ => none
  | .exc _ _ => none
  | .ty _ => none
  | .cls _ => none
  | .scr _ => none
def D.toPyAll : List D → Option (List PyData)
  | [] => some []
  | d :: l => match D.toPy d, D.toPyAll l with
    | some p, some r => some (p :: r)
    | _, _ => none
end
mutual
def D.dep : D → Nat
  | .tup l => D.depAll l + 1
  | .lst l => D.depAll l + 1
  | _ => 0
def D.depAll : List D → Nat
  | [] => 0
  | d :: l => max (D.dep d) (D.depAll l)
end
mutual
def D.isPy : D → Bool
  | .non => true
  | .bl _ => true
  | .int _ => true
  | .str _ => true
  | .tup l => D.isPyAll l
  | .lst l => D.isPyAll l
  | _ => false
def D.isPyAll : List D → Bool
  | [] => true
  | d :: l => D.isPy d && D.isPyAll l
end
mutual
def eqvD : D → D → Bool
  | .non, .non => true
  | .bl a, .bl b => a == b
  | .bl a, .int j => (if a then 1 else 0) == j
  | .int i, .bl b => i == (if b then 1 else 0)
  | .int i, .int j => i == j
  | .str x, .str y => x == y
  | .lst l, .lst m => eqvL l m
  | .tup l, .tup m => eqvL l m
  | _, _ => false
def eqvL : List D → List D → Bool
  | [], [] => true
  | d :: l, e :: m => eqvD d e && eqvL l m
  | _, _ => false
end
section
variable {X : Cx} {Φ : Fr0} {Pr H : Hp} {st : Sto} {σ : St}
mutual
theorem toPy_of {K : PySem.W.Frag} (S : Sim K Φ Pr st σ H) : ∀ (d : D) {v : V}, D.isPy d = true → Rep K Pr d v → ∃ p, D.toPy d = some p ∧ Dp K H v p ∧ p.canLay0 = true ∧ p.depth = D.dep d
  | .non, _, _, r => by unfold Rep at r; subst r; exact ⟨_, rfl, .non, rfl, rfl⟩
  | .bl b, _, _, r => by unfold Rep at r; subst r; exact ⟨_, rfl, .bl b, rfl, rfl⟩
  | .int i, _, _, r => by unfold Rep at r; subst r; exact ⟨_, rfl, .int i, rfl, rfl⟩
  | .str x, _, _, r => by unfold Rep at r; obtain ⟨h, rfl⟩ := r; exact ⟨_, rfl, .str x, h, rfl⟩
  | .tup l, _, h, r => by
    unfold Rep at r
    obtain ⟨a, xs, rfl, q, r⟩ := r
    obtain ⟨ps, e, dp, cl, dd⟩ := toPyAll_of S l (by unfold D.isPy at h; exact h) r
    refine ⟨.tuple ps, by unfold D.toPy; rw [e]; rfl, .tup (S.sqT q) dp, by unfold PyData.canLay0; exact cl, ?_⟩
    unfold PyData.depth D.dep
    rw [dd]
  | .lst l, _, h, r => by
    unfold Rep at r
    obtain ⟨a, xs, rfl, q, r⟩ := r
    obtain ⟨ps, e, dp, cl, dd⟩ := toPyAll_of S l (by unfold D.isPy at h; exact h) r
    refine ⟨.list ps, by unfold D.toPy; rw [e]; rfl, .lst (.inl (S.rdL q)) dp, by unfold PyData.canLay0; exact cl, ?_⟩
    unfold PyData.depth D.dep
    rw [dd]
  | .dct _ _, _, h, _ => by unfold D.isPy at h; cases h
  | .exc _ _, _, h, _ => by unfold D.isPy at h; cases h
  | .ty _, _, h, _ => by unfold D.isPy at h; cases h
  | .cls _, _, h, _ => by unfold D.isPy at h; cases h
  | .scr _, _, h, _ => by unfold D.isPy at h; cases h
theorem toPyAll_of {K : PySem.W.Frag} (S : Sim K Φ Pr st σ H) : ∀ (l : List D) {xs : List V}, D.isPyAll l = true → Reps K Pr l xs → ∃ ps, D.toPyAll l = some ps ∧ DpAll K H xs ps ∧ PyData.canLayAll0 ps = true ∧ PyData.depthAll ps = D.depAll l
  | [], _, _, r => by unfold Reps at r; subst r; exact ⟨[], rfl, .nil, rfl, rfl⟩
  | d :: l, _, h, r => by
    unfold Reps at r
    obtain ⟨x, t, rfl, r1, r2⟩ := r
    unfold D.isPyAll at h
    rw [Bool.and_eq_true] at h
    obtain ⟨p, e1, d1, c1, n1⟩ := toPy_of S d h.1 r1
    obtain ⟨ps, e2, d2, c2, n2⟩ := toPyAll_of S l h.2 r2
    refine ⟨p :: ps, by unfold D.toPyAll; rw [e1, e2], .cons d1 d2, by unfold PyData.canLayAll0; rw [c1, c2]; rfl, ?_⟩
    unfold PyData.depthAll D.depAll
    rw [n1, n2]
end
theorem pk_py {K : PySem.W.Frag} (S : Sim K Φ Pr st σ H) {d : D} {v : V} (h : D.isPy d = true) (p : Pk K Pr H d v) : ∃ q, D.toPy d = some q ∧ Dp K H v q ∧ q.canLay0 = true ∧ q.depth = D.dep d := by
  rcases p with p | ⟨a, o, rfl, ho, hc⟩
  · exact toPy_of S d h p
  · unfold Cont at hc
    split at hc
    · obtain ⟨ps, e, dp, cl, dd⟩ := toPyAll_of S _ (by unfold D.isPy at h; exact h) hc
      refine ⟨.list ps, by unfold D.toPy; rw [e]; rfl, .lst (.inl (.inl ho)) dp, by unfold PyData.canLay0; exact cl, ?_⟩
      unfold PyData.depth D.dep
      rw [dd]
    · unfold D.isPy at h; cases h
    · unfold D.isPy at h; cases h
    · exact hc.elim
end
mutual
theorem eqv_py : ∀ (d e : D) {p q : PyData}, D.toPy d = some p → D.toPy e = some q → PyData.eqv p q = eqvD d e
  | .non, e, _, _, h, k => by
    cases h
    cases e <;> unfold D.toPy at k <;> (try simp only [Option.map_eq_some_iff] at k) <;> (try (obtain ⟨_, _, rfl⟩ := k)) <;> (try cases k) <;> simp [PyData.eqv, eqvD]
  | .bl b, e, _, _, h, k => by
    cases h
    cases e <;> unfold D.toPy at k <;> (try simp only [Option.map_eq_some_iff] at k) <;> (try (obtain ⟨_, _, rfl⟩ := k)) <;> (try cases k) <;> simp [PyData.eqv, eqvD]
  | .int i, e, _, _, h, k => by
    cases h
    cases e <;> unfold D.toPy at k <;> (try simp only [Option.map_eq_some_iff] at k) <;> (try (obtain ⟨_, _, rfl⟩ := k)) <;> (try cases k) <;> simp [PyData.eqv, eqvD]
  | .str x, e, _, _, h, k => by
    cases h
    cases e <;> unfold D.toPy at k <;> (try simp only [Option.map_eq_some_iff] at k) <;> (try (obtain ⟨_, _, rfl⟩ := k)) <;> (try cases k) <;> simp [PyData.eqv, eqvD]
  | .tup l, e, _, _, h, k => by
    unfold D.toPy at h
    simp only [Option.map_eq_some_iff] at h
    obtain ⟨ps, h, rfl⟩ := h
    cases e with
    | tup m =>
      unfold D.toPy at k
      simp only [Option.map_eq_some_iff] at k
      obtain ⟨qs, k, rfl⟩ := k
      unfold PyData.eqv eqvD
      exact eqvL_py l m h k
    | _ => unfold D.toPy at k <;> (try simp only [Option.map_eq_some_iff] at k) <;> (try (obtain ⟨_, _, rfl⟩ := k)) <;> (try cases k) <;> simp [PyData.eqv, eqvD]
  | .lst l, e, _, _, h, k => by
    unfold D.toPy at h
    simp only [Option.map_eq_some_iff] at h
    obtain ⟨ps, h, rfl⟩ := h
    cases e with
    | lst m =>
      unfold D.toPy at k
      simp only [Option.map_eq_some_iff] at k
      obtain ⟨qs, k, rfl⟩ := k
      unfold PyData.eqv eqvD
      exact eqvL_py l m h k
    | _ => unfold D.toPy at k <;> (try simp only [Option.map_eq_some_iff] at k) <;> (try (obtain ⟨_, _, rfl⟩ := k)) <;> (try cases k) <;> simp [PyData.eqv, eqvD]
  | .dct _ _, _, _, _, h, _ => by unfold D.toPy at h; cases h
  | .exc _ _, _, _, _, h, _ => by unfold D.toPy at h; cases h
  | .ty _, _, _, _, h, _ => by unfold D.toPy at h; cases h
  | .cls _, _, _, _, h, _ => by unfold D.toPy at h; cases h
  | .scr _, _, _, _, h, _ => by unfold D.toPy at h; cases h
theorem eqvL_py : ∀ (l m : List D) {ps qs : List PyData}, D.toPyAll l = some ps → D.toPyAll m = some qs → PyData.eqvAll ps qs = eqvL l m
  | [], m, _, _, h, k => by
    cases h
    cases m with
    | nil => cases k; simp [PyData.eqvAll, eqvL]
    | cons e m =>
      unfold D.toPyAll at k
      split at k
      · cases k; simp [PyData.eqvAll, eqvL]
      · cases k
  | d :: l, m, _, _, h, k => by
    unfold D.toPyAll at h
    split at h
    · rename_i p ps h1 h2
      cases h
      cases m with
      | nil => cases k; simp [PyData.eqvAll, eqvL]
      | cons e m =>
        unfold D.toPyAll at k
        split at k
        · rename_i q qs k1 k2
          cases k
          simp only [PyData.eqvAll, eqvL]
          rw [eqv_py d e h1 k1, eqvL_py l m h2 k2]
        · cases k
    · cases h
end
def DEEP : Nat := 150
def eqOk (d e : D) : Bool := D.isPy d && D.isPy e && decide (min (D.dep d) (D.dep e) ≤ DEEP)
def eqD (d e : D) : Option Opd := if eqOk d e then some (.val (.bl (eqvD d e))) else none
def neD (d e : D) : Option Opd := if eqOk d e then some (.val (.bl (!eqvD d e))) else none
section
variable {X : Cx} {n : Nat}
theorem room200 (hr : Room n X.A) : X.A.units + 200 < cLine := by have := hr.un; omega
theorem eqOk_py {d e : D} (h : eqOk d e = true) : D.isPy d = true ∧ D.isPy e = true ∧ min (D.dep d) (D.dep e) ≤ 150 := by
  unfold eqOk at h
  simp only [Bool.and_eq_true, decide_eq_true_eq] at h
  exact ⟨h.1.1, h.1.2, h.2⟩
theorem os_eq (hr : Room n X.A) : OpS X (compareOp .Eq) eqD := by
  refine ⟨fun x y H Q => ∃ d e, Dp X.K H x d ∧ Dp X.K H y e ∧ d.canLay0 = true ∧ e.canLay0 = true ∧ min d.depth e.depth ≤ 150 ∧ Q (.bl (PyData.eqv d e)) H, ?_, ?_⟩
  · intro pins s σ H x y v u Q I rx ry h
    obtain ⟨d, e, hd, he, sd, se, hm, q⟩ := h
    obtain ⟨as, r1⟩ := Dp.reads I d x v hd rx
    obtain ⟨bs, r2⟩ := Dp.reads I e y u he ry
    exact SeqAt.compareEq_reads r1 r2 sd se (by have := room200 hr; omega) ⟨.bl _, H, I, rfl, q⟩
  · intro Φ Pr st σ H dx dy x y o Q S px py e q
    unfold eqD at e
    split at e
    · rename_i h
      cases e
      obtain ⟨h1, h2, h3⟩ := eqOk_py h
      obtain ⟨p1, e1, d1, c1, n1⟩ := pk_py S h1 px
      obtain ⟨p2, e2, d2, c2, n2⟩ := pk_py S h2 py
      refine ⟨p1, p2, d1, d2, c1, c2, by rw [n1, n2]; exact h3, ?_⟩
      rw [eqv_py dx dy e1 e2]
      exact q Pr H _ (Le.refl _) S ro_bl
    · cases e
theorem os_ne (hr : Room n X.A) : OpS X (compareOp .NotEq) neD := by
  refine ⟨fun x y H Q => ∃ d e, Dp X.K H x d ∧ Dp X.K H y e ∧ d.canLay0 = true ∧ e.canLay0 = true ∧ min d.depth e.depth ≤ 150 ∧ Q (.bl (!PyData.eqv d e)) H, ?_, ?_⟩
  · intro pins s σ H x y v u Q I rx ry h
    obtain ⟨d, e, hd, he, sd, se, hm, q⟩ := h
    obtain ⟨as, r1⟩ := Dp.reads I d x v hd rx
    obtain ⟨bs, r2⟩ := Dp.reads I e y u he ry
    exact SeqAt.compareNe_reads r1 r2 sd se (by have := room200 hr; omega) ⟨.bl _, H, I, rfl, q⟩
  · intro Φ Pr st σ H dx dy x y o Q S px py e q
    unfold neD at e
    split at e
    · rename_i h
      cases e
      obtain ⟨h1, h2, h3⟩ := eqOk_py h
      obtain ⟨p1, e1, d1, c1, n1⟩ := pk_py S h1 px
      obtain ⟨p2, e2, d2, c2, n2⟩ := pk_py S h2 py
      refine ⟨p1, p2, d1, d2, c1, c2, by rw [n1, n2]; exact h3, ?_⟩
      rw [eqv_py dx dy e1 e2]
      exact q Pr H _ (Le.refl _) S ro_bl
    · cases e
theorem op_catL : OpR X (binaryOp .Add) (fun x y H Q => ∃ l b xs zs, x = .ref l ∧ y = .ref b ∧ Rd H l (.lst xs) ∧ Rd H b (.lst zs) ∧ xs.length + zs.length ≤ sizeLine ∧ ∀ p, H p = none → Q (.ref p) (upd H p (.lst (xs ++ zs)))) := by
  intro pins s σ H x y v u Q I rx ry h
  obtain ⟨l, b, xs, zs, rfl, rfl, hH, hB, hz, q⟩ := h
  cases rx
  cases ry
  obtain ⟨z, its, n, r, e⟩ : ObjOk X.prog X.w H s.heap l (.lst xs) := hH.ok I.hok
  obtain ⟨z2, its2, n2, r2, e2⟩ : ObjOk X.prog X.w H s.heap b (.lst zs) := hB.ok I.hok
  have hl := r.length
  have hl2 := r2.length
  refine PySem.P.add_list e e2 ?_ (by rw [List.size_toArray, List.size_toArray]; omega)
  have ea : its.toArray ++ its2.toArray = (its ++ its2).toArray := by simp
  rw [ea]
  exact ⟨.ref _, _, I.lnew (t' := s.toks) (r.append r2) (by rw [List.length_append]; omega), rfl, q _ I.fresh⟩
def addD : D → D → Option Opd
  | .int i, .int j => some (.val (.int (i + j)))
  | .str x, .str y => if x.length + y.length ≤ LIM then some (.val (.str (x ++ y))) else none
  | .tup l, .tup m => if l.length + m.length ≤ LIM then some (.val (.tup (l ++ m))) else none
  | .lst l, .lst m => if l.length + m.length ≤ LIM then some (.own (.lst (l ++ m))) else none
  | _, _ => none
theorem strOk_append {x y : Str} (h : PyData.strOk x = true) (k : PyData.strOk y = true) : PyData.strOk (x ++ y) = true := by
  unfold PyData.strOk at *
  show (x.cps ++ y.cps).all (· < 0x110000) = true
  rw [Array.all_append, h, k]; rfl
theorem os_add : OpS X (binaryOp .Add) addD := by
  refine ⟨_, op_add.or (op_add_str.or (op_catA.or op_catL)), ?_⟩
  intro Φ Pr st σ H dx dy x y o Q S px py e q
  unfold addD at e
  split at e
  · cases e
    cases px.int
    cases py.int
    exact .inl ⟨_, _, rfl, rfl, q Pr H _ (Le.refl _) S ro_int⟩
  · rename_i i j
    by_cases hl : i.length + j.length ≤ LIM
    · rw [if_pos hl] at e; cases e
      have s1 := px.strOk
      have s2 := py.strOk
      cases px.str
      cases py.str
      exact .inr (.inl ⟨_, _, rfl, rfl, by rw [lim_eq]; exact hl, q Pr H _ (Le.refl _) S (ro_str (strOk_append s1 s2))⟩)
    · rw [if_neg hl] at e; cases e
  · rename_i l m
    by_cases hl : l.length + m.length ≤ LIM
    · rw [if_pos hl] at e; cases e
      obtain ⟨a, xs, rfl, q1, r1⟩ := px.tup S
      obtain ⟨b, ys, rfl, q2, r2⟩ := py.tup S
      have l1 := r1.length
      have l2 := r2.length
      have isnil : ∀ {l : List D} {xs : List V}, Reps X.K Pr l xs → xs = [] → l = [] := fun {l xs} r e => by
        have := r.length
        rw [e] at this
        exact List.eq_nil_of_length_eq_zero this.symm
      refine .inr (.inr (.inl ⟨a, b, xs, ys, rfl, rfl, q1, q2, by rw [lim_eq, l1, l2]; exact hl, fun h => ?_, fun _ h => ?_, fun _ _ p hp => ?_⟩))
      · have := isnil r1 h
        subst this
        refine q Pr H _ (Le.refl _) S ?_
        rcases py with py | ⟨_, _, _, _, hc⟩
        · exact py
        · unfold Cont at hc; split at hc <;> first | exact hc.elim | contradiction
      · have := isnil r2 h
        subst this
        refine q Pr H _ (Le.refl _) S ?_
        rw [List.append_nil]
        rcases px with px | ⟨_, _, _, _, hc⟩
        · exact px
        · unfold Cont at hc; split at hc <;> first | exact hc.elim | contradiction
      · have le := Le.upd (o := .tup (xs ++ ys)) (S.fresh hp).1
        refine q _ _ _ le (S.laid hp fun _ _ z => nomatch z) ?_
        show Rep _ _ _ _
        unfold Rep
        exact ⟨p, _, rfl, SqT.of upd_same, Reps.append (Reps.mono le _ r1) (Reps.mono le _ r2)⟩
    · rw [if_neg hl] at e; cases e
  · rename_i l m
    by_cases hl : l.length + m.length ≤ LIM
    · rw [if_pos hl] at e; cases e
      obtain ⟨a, xs, rfl, q1, r1⟩ := px.lst S
      obtain ⟨b, ys, rfl, q2, r2⟩ := py.lst S
      refine .inr (.inr (.inr ⟨a, b, xs, ys, rfl, rfl, q1, q2, by rw [lim_eq, r1.length, r2.length]; exact hl, fun p hp => ?_⟩))
      exact q _ _ _ (Le.refl _) (S.alloc (o := .lst (xs ++ ys)) hp fun _ _ z => nomatch z) (repO_new S hp (Reps.append r1 r2))
    · rw [if_neg hl] at e; cases e
  · cases e
theorem os_int {f : Value → Value → Sem Value} {C : Int → Int → Prop} [∀ i j, Decidable (C i j)] {g : Int → Int → Int} (h : OpR X f (rI C fun i j => .int (g i j))) :
    OpS X f (fun x y => match x, y with
      | .int i, .int j => if C i j then some (.val (.int (g i j))) else none
      | _, _ => none) := by
  refine ⟨_, h, ?_⟩
  intro Φ Pr st σ H dx dy x y o Q S px py e q
  cases dx <;> cases dy <;> first | cases e | skip
  rename_i i j
  by_cases hc : C i j
  · simp only [if_pos hc] at e
    cases e
    cases px.int
    cases py.int
    exact ⟨_, _, rfl, rfl, hc, q Pr H _ (Le.refl _) S ro_int⟩
  · simp only [if_neg hc] at e
    cases e
theorem os_intB {f : Value → Value → Sem Value} {g : Int → Int → Bool} (h : OpR X f (rI0 fun i j => .bl (g i j))) :
    OpS X f (fun x y => match x, y with
      | .int i, .int j => some (.val (.bl (g i j)))
      | _, _ => none) := by
  refine ⟨_, h, ?_⟩
  intro Φ Pr st σ H dx dy x y o Q S px py e q
  cases dx <;> cases dy <;> first | cases e | skip
  cases px.int
  cases py.int
  exact ⟨_, _, rfl, rfl, q Pr H _ (Le.refl _) S ro_bl⟩
def subD : D → D → Option Opd
  | .int i, .int j => some (.val (.int (i - j)))
  | _, _ => none
theorem os_sub : OpS X (binaryOp .Sub) subD := by
  refine ⟨_, op_sub, ?_⟩
  intro Φ Pr st σ H dx dy x y o Q S px py e q
  cases dx <;> cases dy <;> first | cases e | skip
  cases px.int
  cases py.int
  exact ⟨_, _, rfl, rfl, q Pr H _ (Le.refl _) S ro_int⟩
end
end Dv
namespace Dv
open PySem L2 PySem.Spec PyProof.Rows
section
variable {X : Cx} {n : Nat}
def MulOk (i j : Int) : Prop := CMul i j ∨ CMulW i j
open Classical in
noncomputable def mulD : D → D → Option Opd
  | .int i, .int j => if MulOk i j then some (.val (.int (i * j))) else none
  | .lst l, .int k => if -B63 ≤ k ∧ k < B63 ∧ l.length * k.toNat ≤ LIM then some (.own (.lst (List.replicate k.toNat l).flatten)) else none
  | _, _ => none
theorem op_repL : OpR X (binaryOp .Mult) (fun x y H Q => ∃ l k xs, x = .ref l ∧ y = .int k ∧ Rd H l (.lst xs) ∧ -(2 ^ 63) ≤ k ∧ k < 2 ^ 63 ∧ xs.length * k.toNat ≤ sizeLine ∧
  ∀ p, H p = none → Q (.ref p) (upd H p (.lst (List.replicate k.toNat xs).flatten))) := by
  intro pins s σ H x y v u Q I rx ry h
  obtain ⟨l, k, xs, rfl, rfl, hH, h1, h2, hz, q⟩ := h
  cases rx
  obtain ⟨t, rfl⟩ := ry
  obtain ⟨z, its, n, r, e⟩ : ObjOk X.prog X.w H s.heap l (.lst xs) := hH.ok I.hok
  have hl := r.length
  have hlen : its.toArray.size * k.toNat ≤ sizeLine := by rw [List.size_toArray, ← hl]; exact hz
  have hcap : ¬ its.toArray.size * k.toNat > (2 ^ 63 - 1) / 8 := by
    have : (sizeLine : Nat) ≤ (2 ^ 63 - 1) / 8 := by decide
    omega
  have hfit : ¬ (!Builtin.List.listFitsIndex k) = true := by
    rw [fitsIndex_both h1 h2]
    exact Bool.false_ne_true
  have hlong : ¬ Builtin.List.listTooLong (its.toArray.size * k.toNat) = true := by
    rw [notLongL hlen]
    exact Bool.false_ne_true
  have hnew : List.foldl (fun x1 x2 => x1 ++ x2) #[] (List.replicate (if its.toArray.isEmpty = true then 0 else k.toNat) its.toArray) = (List.replicate k.toNat its).flatten.toArray := by
    have f0 : ∀ m : Nat, List.foldl (fun x1 x2 => x1 ++ x2) #[] (List.replicate m its.toArray) = (List.replicate m its).flatten.toArray := fun m => by
      have := L2.foldl_rep its m []
      rw [List.nil_append] at this
      exact this
    rw [f0]
    cases its with
    | nil => simp
    | cons a r' => rw [if_neg (by simp)]
  refine wpAny_binaryOp_repeat_ref (T := "list") (U := "int") (by decide) ⟨_, e, rfl⟩ (fun s' => typeIs_int s' k t) noFill_list_mul F.fills_int_mul F.slot_int_rmul repeat_list F.slot_int_index.lookup
    (call_meets F.slot_int_rmul (typeIs_int s k t) F.entry_int_rmul (F.args_int_rmul_2 _ _) (int___rmul___int_list k t l its.toArray n)
      ⟨e, rfl, ⟨_, e, rfl⟩, call_meets F.slot_list_mul ⟨_, e, rfl⟩ F.entry_list_mul (F.args_list_mul_2 _ _) (AutoListH.list___mul___list_int_3 l its.toArray n k t hfit hcap hlong) ⟨e, ?_⟩⟩)
  rw [hnew]
  exact ⟨.ref _, _, I.lnew (t' := s.toks) (r.rep k.toNat) (by rw [PyProof.Rows.lm_len_rep_flat, Nat.mul_comm]; exact hz), rfl, q _ I.fresh⟩
theorem Reps.rep {K : PySem.W.Frag} {Pr : Hp} {l : List D} {xs : List V} (h : Reps K Pr l xs) : ∀ k : Nat, Reps K Pr (List.replicate k l).flatten (List.replicate k xs).flatten
  | 0 => Reps.nil
  | k + 1 => by
    rw [List.replicate_succ, List.replicate_succ, List.flatten_cons, List.flatten_cons]
    exact Reps.append h (Reps.rep h k)
theorem os_mul : OpS X (binaryOp .Mult) mulD := by
  refine ⟨_, op_mul.or (op_mulW.or op_repL), ?_⟩
  intro Φ Pr st σ H dx dy x y o Q S px py e q
  unfold mulD at e
  split at e
  · rename_i i j
    split at e
    · rename_i h
      cases e
      cases px.int
      cases py.int
      rcases h with h | h
      · exact .inl ⟨_, _, rfl, rfl, h, q Pr H _ (Le.refl _) S ro_int⟩
      · exact .inr (.inl ⟨_, _, rfl, rfl, h, q Pr H _ (Le.refl _) S ro_int⟩)
    · cases e
  · rename_i l k
    split at e
    · rename_i h
      cases e
      obtain ⟨a, xs, rfl, q1, r1⟩ := px.lst S
      cases py.int
      rw [B63_eq] at h
      refine .inr (.inr ⟨a, k, xs, rfl, rfl, q1, h.1, h.2.1, by rw [lim_eq, r1.length]; exact h.2.2, fun p hp => ?_⟩)
      exact q _ _ _ (Le.refl _) (S.alloc (o := .lst _) hp fun _ _ z => nomatch z) (repO_new S hp (Reps.rep r1 _))
    · cases e
  · cases e
def fdivD : D → D → Option Opd
  | .int i, .int j => if 0 < j ∧ j.natAbs.log2 < 9000 then some (.val (.int (i / j))) else none
  | _, _ => none
theorem os_fdiv : OpS X (binaryOp .FloorDiv) fdivD := by
  refine ⟨_, op_fdivW, ?_⟩
  intro Φ Pr st σ H dx dy x y o Q S px py e q
  cases dx <;> cases dy <;> first | cases e | skip
  rename_i i j
  by_cases hc : 0 < j ∧ j.natAbs.log2 < 9000
  · simp only [fdivD, if_pos hc] at e
    cases e
    cases px.int
    cases py.int
    exact ⟨_, _, rfl, rfl, hc, q Pr H _ (Le.refl _) S ro_int⟩
  · simp only [fdivD, if_neg hc] at e
    cases e
def modD : D → D → Option Opd
  | .int i, .int j => if 0 < j then some (.val (.int (i % j))) else none
  | _, _ => none
theorem os_mod : OpS X (binaryOp .Mod) modD := by
  refine ⟨_, op_mod, ?_⟩
  intro Φ Pr st σ H dx dy x y o Q S px py e q
  cases dx <;> cases dy <;> first | cases e | skip
  rename_i i j
  by_cases hc : 0 < j
  · simp only [modD, if_pos hc] at e
    cases e
    cases px.int
    cases py.int
    exact ⟨_, _, rfl, rfl, hc, q Pr H _ (Le.refl _) S ro_int⟩
  · simp only [modD, if_neg hc] at e
    cases e
def powD : D → D → Option Opd
  | .int i, .int j => if 0 ≤ j ∧ j ≤ 1000000 ∧ i.natAbs < 2 ^ 64 then some (.val (.int (i ^ j.toNat))) else none
  | _, _ => none
theorem os_pow : OpS X (binaryOp .Pow) powD := by
  refine ⟨_, op_pow, ?_⟩
  intro Φ Pr st σ H dx dy x y o Q S px py e q
  cases dx <;> cases dy <;> first | cases e | skip
  rename_i i j
  by_cases hc : 0 ≤ j ∧ j ≤ 1000000 ∧ i.natAbs < 2 ^ 64
  · simp only [powD, if_pos hc] at e
    cases e
    cases px.int
    cases py.int
    exact ⟨_, _, rfl, rfl, hc, q Pr H _ (Le.refl _) S ro_int⟩
  · simp only [powD, if_neg hc] at e
    cases e
def UnS (X : Cx) (f : Value → Sem Value) (F : D → Option Opd) : Prop :=
  ∃ r, UnR X f r ∧ ∀ Φ Pr st σ H dx x o Q, Sim X.K Φ Pr st σ H → Pk X.K Pr H dx x → F dx = some o →
    (∀ Pr' H' v, Le Pr Pr' → Sim X.K Φ Pr' st σ H' → RepO X.K Φ Pr' H' st σ o v → Q v H') → r x H Q
theorem one_of {W : WX} {fa : E} {F : D → Option Opd} {Φ : Fr0} {r : V → Hp → VK → Prop} (hq : ∀ Pr st σ H dx x o Q, Sim X.K Φ Pr st σ H → Pk X.K Pr H dx x → F dx = some o →
    (∀ Pr' H' v, Le Pr Pr' → Sim X.K Φ Pr' st σ H' → RepO X.K Φ Pr' H' st σ o v → Q v H') → r x H Q) : ∀ σ H Q, tE X Φ W (sOp1 F fa) σ H Q → tUn r (tE X Φ W fa) σ H Q := by
  intro σ H Q h
  obtain ⟨Pr, st, S, h⟩ := h
  refine ⟨Pr, st, S, h.bind.imp fun oa s1 P1 H1 l1 S1 h1 x hx => ?_⟩
  obtain ⟨P1', l1', S1', k1⟩ := settle S1 hx
  have h1 := h1.mono l1'
  unfold op1 at h1
  cases e1 : peek oa s1 with
  | none => rw [e1] at h1; exact h1.elim
  | some dx =>
    rw [e1] at h1
    cases e3 : F dx with
    | none => simp only [Option.bind_some, e3] at h1; exact h1.elim
    | some o =>
      simp only [Option.bind_some, e3] at h1
      exact hq P1' s1 σ H1 dx x o Q S1' (pk_of S1' k1 e1) e3 fun Pr' H' v le S' rv => h1 Pr' H' le S' v rv
theorem se_un {W : WX} {a : Expr} {fa : E} {pos : Pos} {op : UnaryOp} {F : D → Option Opd} (ho : UnS X (unaryOp op) F) (ha : SE X W a fa) : SE X W (.UnaryOp op a pos) (sOp1 F fa) := by
  obtain ⟨r, hr, hq⟩ := ho
  exact ⟨fun Φ => peImp (pe_un hr (ha.pe Φ)) (one_of (hq Φ))⟩
def negD : D → Option Opd
  | .int i => some (.val (.int (-i)))
  | _ => none
theorem us_neg : UnS X (unaryOp .USub) negD := by
  refine ⟨_, un_neg, ?_⟩
  intro Φ Pr st σ H dx x o Q S px e q
  cases dx <;> first | cases e | skip
  cases px.int
  exact ⟨_, rfl, q Pr H _ (Le.refl _) S ro_int⟩
def isNon : D → Bool
  | .non => true
  | _ => false
theorem pk_isNon {K : PySem.W.Frag} {Pr H : Hp} {d : D} {v : V} (h : Pk K Pr H d v) : decide (v = .non) = isNon d := by
  have no : ∀ a, decide (V.ref a = V.non) = false := fun a => decide_eq_false (fun z => nomatch z)
  rcases h with h | ⟨a, o, rfl, _, hc⟩
  · cases d <;> unfold Rep at h
    · subst h; rfl
    · subst h; rfl
    · subst h; rfl
    · obtain ⟨_, rfl⟩ := h; rfl
    · obtain ⟨a, _, rfl, _⟩ := h; exact no a
    · obtain ⟨a, _, rfl, _⟩ := h; exact no a
    · obtain ⟨a, rfl, _⟩ := h; exact no a
    · obtain ⟨a, _, _, _, rfl, _⟩ := h; exact no a
    · subst h; rfl
    · obtain ⟨a, rfl, _⟩ := h; exact no a
    · obtain ⟨a, _, rfl, _⟩ := h; exact no a
  · rw [no]
    cases d <;> first | rfl | (unfold Cont at hc; split at hc <;> first | exact hc.elim | contradiction)
def isD : D → D → Option Opd
  | x, .non => some (.val (.bl (isNon x)))
  | .bl a, .bl b => some (.val (.bl (a == b)))
  | _, _ => none
def isntD : D → D → Option Opd
  | x, .non => some (.val (.bl (!isNon x)))
  | .bl a, .bl b => some (.val (.bl (!(a == b))))
  | _, _ => none
theorem os_is : OpS X (compareOp .Is) isD := by
  refine ⟨_, op_isN.or op_isBl, ?_⟩
  intro Φ Pr st σ H dx dy x y o Q S px py e q
  unfold isD at e
  split at e
  · cases e
    refine .inl ⟨py.non, ?_⟩
    rw [pk_isNon px]
    exact q Pr H _ (Le.refl _) S ro_bl
  · rename_i a b
    cases e
    refine .inr ⟨a, b, px.bl, py.bl, ?_⟩
    rw [show decide (a = b) = (a == b) from (Bool.beq_eq_decide_eq a b).symm]
    exact q Pr H _ (Le.refl _) S ro_bl
  · cases e
theorem os_isnt : OpS X (compareOp .IsNot) isntD := by
  refine ⟨_, op_notN.or op_notBl, ?_⟩
  intro Φ Pr st σ H dx dy x y o Q S px py e q
  unfold isntD at e
  split at e
  · cases e
    refine .inl ⟨py.non, ?_⟩
    rw [pk_isNon px]
    exact q Pr H _ (Le.refl _) S ro_bl
  · rename_i a b
    cases e
    refine .inr ⟨a, b, px.bl, py.bl, ?_⟩
    rw [show decide (a = b) = (a == b) from (Bool.beq_eq_decide_eq a b).symm]
    exact q Pr H _ (Le.refl _) S ro_bl
  · cases e
def atD (x y : D) : Option Opd := match x, y with
  | .lst l, .int i => (atI l i).map Opd.val
  | .tup l, .int i => (atI l i).map Opd.val
  | .scr l, .int i => (atI l i).map Opd.val
  | .str z, .int i => if z.length ≤ LIM then (atI z.cps.toList i).map fun c => Opd.val (.str ⟨#[c]⟩) else none
  | _, _ => none
theorem atI_reps {K : PySem.W.Frag} {Pr : Hp} {l : List D} {xs : List V} {i : Int} {d : D} (r : Reps K Pr l xs) (h : atI l i = some d) : ∃ v, atI xs i = some v ∧ Rep K Pr d v := by
  unfold atI at h ⊢
  rw [r.length]
  cases e : ixN l.length i with
  | none => rw [e] at h; cases h
  | some j =>
    rw [e] at h
    exact r.get h
theorem strOk_sign {z : Str} {c : Nat} (h : PyData.strOk z = true) (m : c ∈ z.cps.toList) : PyData.strOk ⟨#[c]⟩ = true := by
  unfold PyData.strOk at *
  rw [Array.all_eq_true_iff_forall_mem] at h
  have := h c (by simpa using m)
  simpa using this
theorem atI_mem {α : Type} {l : List α} {i : Int} {a : α} (h : atI l i = some a) : a ∈ l := by
  unfold atI at h
  cases e : ixN l.length i with
  | none => rw [e] at h; cases h
  | some j => rw [e] at h; exact List.mem_of_getElem? h
theorem se_ix {W : WX} {a b : Expr} {fa fb : E} {pos : Pos} (ha : SE X W a fa) (hb : SE X W b fb) (hs : PlainIx b := by intro _ _; rfl) : SE X W (.Subscript a b pos) (sOp2 atD fa fb) := by
  refine ⟨fun Φ => peImp (pe_ix ix_seq (ha.pe Φ) (hb.pe Φ) hs) (two_of fun Pr st σ H oa ob x y Q S k1 k2 h => ?_)⟩
  obtain ⟨dx, dy, o, p1, p2, e, h⟩ := op2_of S k1 k2 h
  have fin : ∀ {d : D} {v : V}, o = .val d → Rep X.K Pr d v → Q v H := fun {d v} eo r => by subst eo; exact h Pr H (Le.refl _) S v r
  unfold atD at e
  split at e
  · rw [Option.map_eq_some_iff] at e
    obtain ⟨d, e, rfl⟩ := e
    obtain ⟨p, xs, rfl, q, r⟩ := p1.lst S
    cases p2.int
    obtain ⟨v, hv, rv⟩ := atI_reps r e
    exact .inl ⟨p, xs, _, v, rfl, rfl, .inl q, hv, fin rfl rv⟩
  · rw [Option.map_eq_some_iff] at e
    obtain ⟨d, e, rfl⟩ := e
    obtain ⟨p, xs, rfl, q, r⟩ := p1.tup S
    cases p2.int
    obtain ⟨v, hv, rv⟩ := atI_reps r e
    exact .inr (.inl ⟨p, xs, _, v, rfl, rfl, q, hv, fin rfl rv⟩)
  · rw [Option.map_eq_some_iff] at e
    obtain ⟨d, e, rfl⟩ := e
    obtain ⟨p, xs, rfl, q, r⟩ := p1.scr S
    cases p2.int
    obtain ⟨v, hv, rv⟩ := atI_reps r e
    exact .inl ⟨p, xs, _, v, rfl, rfl, q, hv, fin rfl rv⟩
  · split at e
    · rename_i hl
      rw [Option.map_eq_some_iff] at e
      obtain ⟨c, e, rfl⟩ := e
      have ok := p1.strOk
      cases p1.str
      cases p2.int
      exact .inr (.inr ⟨_, _, c, rfl, rfl, by rw [lim_eq]; exact hl, e, fin rfl (rep_str (strOk_sign ok (atI_mem e)))⟩)
    · cases e
  · cases e
def cutL {α : Type} (xs : List α) (lo hi : Option Int) : List α := (xs.drop (HT.sIx xs.length 0 lo)).take (HT.sIx xs.length xs.length hi - HT.sIx xs.length 0 lo)
abbrev Po := Sto → R (Option Int)
def pNone : Po := fun s => .ok none s
def dI : D → Option (Option Int)
  | .int i => some (some i)
  | _ => none
def pSome (a : E) : Po := fun s => (a s).bind fun o s1 => okO ((peek o s1).bind dI) s1
def cutD (x : D) (lo hi : Option Int) : Option Opd := match x with
  | .lst l => some (.own (.lst (cutL l lo hi)))
  | .tup l => some (.val (.tup (cutL l lo hi)))
  | .str z => if z.length ≤ LIM then some (.val (.str (cutS z lo hi))) else none
  | _ => none
def sCut (a : E) (lo hi : Po) : E := fun s => (a s).bind fun o s1 => (lo s1).bind fun l s2 => (hi s2).bind fun h s3 => okO ((peek o s3).bind fun d => cutD d l h) s3
def tPo (X : Cx) (Φ : Fr0) (W : WX) (f : Po) : TO := fun σ H Q => ∃ Pr st, Sim X.K Φ Pr st σ H ∧ Aft X Φ W Pr σ (f st) fun o st' Pr' H' => ∀ P2, Le Pr' P2 → Sim X.K Φ P2 st' σ H' → Q o H'
structure SPo (X : Cx) (W : WX) (e : Option Expr) (f : Po) : Prop where
  po : ∀ Φ, PO X e (tPo X Φ W f)
theorem spo_none {W : WX} : SPo X W none pNone := ⟨fun Φ => ⟨fun pins s σ H Q I h => by
  obtain ⟨Pr, st, S, h⟩ := h
  exact po_none.run pins s σ H Q I (h Pr H (Le.refl _) S Pr (Le.refl _) S)⟩⟩
theorem spo_some {W : WX} {a : Expr} {fa : E} (ha : SE X W a fa) : SPo X W (some a) (pSome fa) := ⟨fun Φ => ⟨fun pins s σ H Q I h => by
  refine (po_some (ha.pe Φ)).run pins s σ H Q I ?_
  obtain ⟨Pr, st, S, h⟩ := h
  refine ⟨Pr, st, S, h.bind.imp fun o s1 P1 H1 l1 S1 h1 v hv => ?_⟩
  obtain ⟨P1', l1', S1', kv⟩ := settle S1 hv
  have h1 := h1.mono l1'
  cases e : peek o s1 with
  | none => rw [e] at h1; exact h1.elim
  | some d =>
    rw [e] at h1
    have pk := pk_of S1' kv e
    cases d with
    | int i => exact ⟨i, pk.int, h1 P1' H1 (Le.refl _) S1' P1' (Le.refl _) S1'⟩
    | _ => exact h1.elim⟩⟩
theorem Reps.cut {K : PySem.W.Frag} {Pr : Hp} {l : List D} {xs : List V} (r : Reps K Pr l xs) (lo hi : Option Int) : Reps K Pr (cutL l lo hi) (cutV xs lo hi) := by
  unfold cutL cutV
  rw [r.length]
  exact (Reps.drop _ r).take _
theorem strOk_cut {z : Str} (h : PyData.strOk z = true) (lo hi : Option Int) : PyData.strOk (cutS z lo hi) = true := by
  unfold PyData.strOk at *
  rw [Array.all_eq_true_iff_forall_mem] at h ⊢
  intro c hc
  refine h c ?_
  unfold cutS at hc
  have hc' : c ∈ (z.cps.toList.drop (HT.sIx z.length 0 lo)).take (HT.sIx z.length z.length hi - HT.sIx z.length 0 lo) := by simpa using hc
  have := List.mem_of_mem_drop (List.mem_of_mem_take hc')
  simpa using this
theorem se_cut {W : WX} {a : Expr} {lo hi : Option Expr} {fa : E} {fl fh : Po} {pos p2 : Pos} (ha : SE X W a fa) (hl : SPo X W lo fl) (hh : SPo X W hi fh) : SE X W (.Subscript a (.Slice lo hi none p2) pos) (sCut fa fl fh) := by
  refine ⟨fun Φ => peImp (pe_slice (sl_list.or (sl_tupA.or sl_str)) (ha.pe Φ) (hl.po Φ) (hh.po Φ)) fun σ H Q h => ?_⟩
  obtain ⟨Pr, st, S, h⟩ := h
  refine ⟨Pr, st, S, h.bind.imp fun o s1 P1 H1 l1 S1 h1 x hx => ?_⟩
  obtain ⟨P1', l1', S1', k1⟩ := settle S1 hx
  refine ⟨P1', s1, S1', (Aft.bind (h1.mono l1')).imp fun l s2 P2 H2 l2 S2 h2 P3 l3 S3 => ?_⟩
  refine ⟨P3, s2, S3, (Aft.bind (h2.mono l3)).imp fun u s3 P4 H4 l4 S4 h4 P5 l5 S5 => ?_⟩
  have h5 := h4.mono l5
  have k5 := (k1.mono l2).mono (l3.trans (l4.trans l5))
  cases e : peek o s3 with
  | none => rw [e] at h5; exact h5.elim
  | some d =>
    rw [e] at h5
    have pk := pk_of S5 k5 e
    cases e2 : cutD d l u with
    | none => simp only [Option.bind_some, e2] at h5; exact h5.elim
    | some ob =>
      simp only [Option.bind_some, e2] at h5
      unfold cutD at e2
      split at e2
      · cases e2
        obtain ⟨p, xs, rfl, q, r⟩ := pk.lst S5
        refine .inl ⟨p, xs, rfl, .inl q, fun p' hp => ?_⟩
        exact h5 _ _ (Le.refl _) (S5.alloc (o := .lst _) hp fun _ _ z => nomatch z) _ (repO_new S5 hp (r.cut l u))
      · cases e2
        obtain ⟨p, xs, rfl, q, r⟩ := pk.tup S5
        have hlen := r.length
        refine .inr (.inl ⟨p, xs, rfl, q, fun hw => ?_, fun _ p' hp => ?_⟩)
        · refine h5 _ _ (Le.refl _) S5 _ ?_
          rename_i ds
          have : cutL ds l u = ds := by
            unfold cutL
            rw [← hlen, hw.1, hw.2, hlen]
            simp
          rw [this]
          rcases pk with pk | ⟨_, _, _, _, hc⟩
          · exact pk
          · unfold Cont at hc; split at hc <;> first | exact hc.elim | contradiction
        · have le := Le.upd (o := .tup (cutV xs l u)) (S5.fresh hp).1
          refine h5 _ _ le (S5.laid hp fun _ _ z => nomatch z) _ ?_
          show Rep _ _ _ _
          unfold Rep
          exact ⟨p', _, rfl, SqT.of upd_same, Reps.mono le _ (r.cut l u)⟩
      · split at e2
        · rename_i hl
          cases e2
          have ok := pk.strOk
          cases pk.str
          exact .inr (.inr ⟨_, rfl, by rw [lim_eq]; exact hl, h5 _ _ (Le.refl _) S5 _ (ro_str (strOk_cut ok l u))⟩)
        · cases e2
      · cases e2
def revD : D → Option Opd
  | .lst l => some (.own (.lst l.reverse))
  | _ => none
theorem se_rev {W : WX} {a : Expr} {fa : E} {k : Nat} {p1 p2 p3 pos : Pos} (ha : SE X W a fa) : SE X W (.Subscript a (.Slice none none (some (.UnaryOp .USub (.Constant (.int 1) k p1) p2)) p3) pos) (sOp1 revD fa) := by
  refine ⟨fun Φ => peImp (pe_revL (ha.pe Φ)) (one_of (r := fun x H1 Q => ∃ a xs, x = .ref a ∧ SqL X.K H1 a xs ∧ ∀ p, H1 p = none → Q (.ref p) (upd H1 p (.lst xs.reverse))) fun Pr st σ H dx x o Q S px e q => ?_)⟩
  cases dx <;> first | cases e | skip
  obtain ⟨p, xs, rfl, q1, r⟩ := px.lst S
  exact ⟨p, xs, rfl, .inl q1, fun p' hp => q _ _ _ (Le.refl _) (S.alloc (o := .lst _) hp fun _ _ z => nomatch z) (repO_new S hp r.reverse)⟩
end
end Dv
namespace Dv
open PySem L2
def kR {α : Type} (r : R α) (f : α → Sto → Out) : Out := match r with
  | .ok a s => f a s
  | .exc c v s => .exc c v s
  | .bad => .bad
@[simp] theorem kR_ok {α : Type} (a : α) (s : Sto) (f : α → Sto → Out) : kR (.ok a s) f = f a s := rfl
@[simp] theorem kR_exc {α : Type} (c : Str) (v : D) (s : Sto) (f : α → Sto → Out) : kR (.exc c v s : R α) f = .exc c v s := rfl
@[simp] theorem kR_bad {α : Type} (f : α → Sto → Out) : kR (.bad : R α) f = .bad := rfl
def sSkip : S := fun s => .nxt s
def seqO (o : Out) (g : S) : Out := match o with
  | .nxt s => g s
  | o => o
def sSeq (f g : S) : S := fun s => seqO (f s) g
@[simp] theorem seqO_nxt (s : Sto) (g : S) : seqO (.nxt s) g = g s := rfl
@[simp] theorem seqO_ret (o : Opd) (s : Sto) (g : S) : seqO (.ret o s) g = .ret o s := rfl
@[simp] theorem seqO_brk (s : Sto) (g : S) : seqO (.brk s) g = .brk s := rfl
@[simp] theorem seqO_cnt (s : Sto) (g : S) : seqO (.cnt s) g = .cnt s := rfl
@[simp] theorem seqO_exc (c : Str) (v : D) (s : Sto) (g : S) : seqO (.exc c v s) g = .exc c v s := rfl
@[simp] theorem seqO_bad (g : S) : seqO .bad g = .bad := rfl
def okS (o : Option Sto) : Out := match o with
  | some s => .nxt s
  | none => .bad
@[simp] theorem okS_some (s : Sto) : okS (some s) = .nxt s := rfl
@[simp] theorem okS_none : okS none = .bad := rfl
def putS (i : Nat) (t : Slot) (s : Sto) : Option Sto := if i < s.length then some (s.set i t) else none
def asgO (i : Nat) (o : Opd) (s : Sto) : Out := match o with
  | .own d => okS (putS i (.own d) s)
  | o => kR (takeO o s) fun d s1 => okS (putS i (.val d) s1)
def sAsg (i : Nat) (e : E) : S := fun s => kR (e s) fun o s1 => asgO i o s1
def sDrop (e : E) : S := fun s => kR (e s) fun _ s1 => .nxt s1
def sRet (e : E) : S := fun s => kR (e s) fun o s1 => .ret o s1
def sRetN : S := fun s => .ret (.val .non) s
def sIfS (t : T) (a b : S) : S := fun s => kR (t s) fun c s1 => if c then a s1 else b s1
def sBrk : S := fun s => .brk s
def sCnt : S := fun s => .cnt s
def sBad : S := fun _ => .bad
abbrev G := D → Sto → Option Sto
abbrev Gs := List D → Sto → Option Sto
def gN (i : Nat) : G := fun d s => putS i (.val d) s
def gs0 : Gs := fun ds s => match ds with
  | [] => some s
  | _ => none
def gs1 (g : G) (gs : Gs) : Gs := fun ds s => match ds with
  | d :: r => (g d s).bind fun s1 => gs r s1
  | [] => none
def gT (n : Nat) (gs : Gs) : G := fun d s => match d with
  | .tup ds => if ds.length = n then gs ds s else none
  | _ => none
def sAsgG (g : G) (e : E) : S := fun s => kR (e s) fun o s1 => kR (takeO o s1) fun d s2 => okS (g d s2)
def sAug (i : Nat) (F : D → D → Option Opd) (e : E) : S := fun s => match datAt s i with
  | some x => kR (e s) fun o s1 => match (peek o s1).bind fun y => F x y with
    | some (.val d) => okS (putS i (.val d) s1)
    | _ => .bad
  | none => .bad
abbrev Ws := Sto → R (List D)
def forL (g : G) (b : S) : List D → Sto → Out
  | [], s => .nxt s
  | d :: ds, s => match g d s with
    | none => .bad
    | some s1 => match b s1 with
      | .nxt s2 => forL g b ds s2
      | .cnt s2 => forL g b ds s2
      | .brk s2 => .nxt s2
      | o => o
def sFor (f : Ws) (g : G) (b : S) : S := fun s => kR (f s) fun ds s1 => forL g b ds s1
def whN (t : T) (b : S) : Nat → Sto → Out
  | 0, _ => .bad
  | n + 1, s => kR (t s) fun c s1 => if c then (match b s1 with
      | .nxt s2 => whN t b n s2
      | .cnt s2 => whN t b n s2
      | .brk s2 => .nxt s2
      | o => o) else .nxt s1
def Out.good : Out → Bool
  | .bad => false
  | _ => true
theorem whN_mono {t : T} {b : S} : ∀ {n : Nat} {s : Sto}, (whN t b n s).good = true → whN t b (n + 1) s = whN t b n s
  | 0, s, h => by cases h
  | n + 1, s, h => by
    unfold whN at h ⊢
    cases e : t s with
    | exc c v s' => rfl
    | bad => rw [e] at h; cases h
    | ok c s1 =>
      rw [e] at h
      simp only [kR_ok] at h ⊢
      cases c with
      | false => rfl
      | true =>
        simp only [if_true] at h ⊢
        cases e2 : b s1 with
        | nxt s2 => rw [e2] at h; exact whN_mono h
        | cnt s2 => rw [e2] at h; exact whN_mono h
        | brk s2 => rfl
        | ret o s2 => rfl
        | exc c v s2 => rfl
        | bad => first | (rw [e2] at h; cases h) | rw [e2] at h
theorem whN_le {t : T} {b : S} {n m : Nat} {s : Sto} (h : (whN t b n s).good = true) (k : n ≤ m) : whN t b m s = whN t b n s := by
  induction k with
  | refl => rfl
  | @step m k ih => rw [whN_mono (by rw [ih]; exact h), ih]
open Classical in
noncomputable def sWh (t : T) (b : S) : S := fun s => if h : ∃ n, (whN t b n s).good = true then whN t b h.choose s else .bad
theorem sWh_of {t : T} {b : S} {n : Nat} {s : Sto} (h : (whN t b n s).good = true) : sWh t b s = whN t b n s := by
  unfold sWh
  have hx : ∃ n, (whN t b n s).good = true := ⟨n, h⟩
  rw [dif_pos hx]
  have h2 := hx.choose_spec
  rcases Nat.le_total n hx.choose with k | k
  · exact whN_le h k
  · exact (whN_le h2 k).symm
theorem sWh_some {t : T} {b : S} {s : Sto} (h : (sWh t b s).good = true) : ∃ n, sWh t b s = whN t b n s ∧ (whN t b n s).good = true := by
  by_cases hx : ∃ n, (whN t b n s).good = true
  · obtain ⟨n, k⟩ := hx
    exact ⟨n, sWh_of k, k⟩
  · unfold sWh at h
    rw [dif_neg hx] at h; cases h
def whStep (t : T) (b : S) (k : Sto → Out) (s : Sto) : Out := kR (t s) fun c s1 => if c then (match b s1 with
      | .nxt s2 => k s2
      | .cnt s2 => k s2
      | .brk s2 => .nxt s2
      | o => o) else .nxt s1
theorem sWh_eq (t : T) (b : S) (s : Sto) : sWh t b s = whStep t b (sWh t b) s := by
  cases hg : (sWh t b s).good with
  | true =>
    obtain ⟨n, e, k⟩ := sWh_some hg
    rw [e]
    cases n with
    | zero => cases k
    | succ n =>
      unfold whN at k ⊢
      unfold whStep
      cases e1 : t s with
      | exc c v s' => rfl
      | bad => rfl
      | ok c s1 =>
        rw [e1] at k
        simp only [kR_ok] at k ⊢
        cases c with
        | false => rfl
        | true =>
          simp only [if_true] at k ⊢
          cases e2 : b s1 with
          | nxt s2 => rw [e2] at k; exact (sWh_of k).symm
          | cnt s2 => rw [e2] at k; exact (sWh_of k).symm
          | _ => rfl
  | false =>
    have hb : sWh t b s = .bad := by
      cases e : sWh t b s with
      | bad => rfl
      | _ => rw [e] at hg; cases hg
    rw [hb]
    unfold whStep
    cases e1 : t s with
    | bad => rfl
    | exc c v s' =>
      exfalso
      have : whN t b 1 s = .exc c v s' := by unfold whN; rw [e1]; rfl
      have h2 := sWh_of (t := t) (b := b) (n := 1) (s := s) (by rw [this]; rfl)
      rw [hb, this] at h2; cases h2
    | ok c s1 =>
      simp only [kR_ok]
      have one : ∀ (o : Out), o.good = true → (∀ n, whN t b (n + 1) s = (if c = true then (match b s1 with
          | .nxt s2 => whN t b n s2
          | .cnt s2 => whN t b n s2
          | .brk s2 => Out.nxt s2
          | o => o) else .nxt s1)) := fun o ho n => by
        show kR (t s) _ = _
        rw [e1]; rfl
      have no : ∀ n, (whN t b n s).good = false := fun n => by
        cases hn : (whN t b n s).good with
        | false => rfl
        | true => rw [← sWh_of hn, hb] at hn; cases hn
      have stepn : ∀ n, whN t b (n + 1) s = (if c = true then (match b s1 with
          | .nxt s2 => whN t b n s2
          | .cnt s2 => whN t b n s2
          | .brk s2 => Out.nxt s2
          | o => o) else .nxt s1) := fun n => by
        show kR (t s) _ = _
        rw [e1]; rfl
      cases c with
      | false =>
        have := no 1
        rw [stepn] at this
        cases this
      | true =>
        simp only [if_true] at stepn ⊢
        cases e2 : b s1 with
        | nxt s2 =>
          rw [e2] at stepn
          simp only at stepn ⊢
          cases hg2 : (sWh t b s2).good with
          | true =>
            obtain ⟨n, e3, k3⟩ := sWh_some hg2
            have := no (n + 1)
            rw [stepn, k3] at this; cases this
          | false =>
            cases e : sWh t b s2 with
            | bad => rfl
            | _ => rw [e] at hg2; cases hg2
        | cnt s2 =>
          rw [e2] at stepn
          simp only at stepn ⊢
          cases hg2 : (sWh t b s2).good with
          | true =>
            obtain ⟨n, e3, k3⟩ := sWh_some hg2
            have := no (n + 1)
            rw [stepn, k3] at this; cases this
          | false =>
            cases e : sWh t b s2 with
            | bad => rfl
            | _ => rw [e] at hg2; cases hg2
        | bad => rfl
        | brk s2 => have := no 1; rw [stepn, e2] at this; cases this
        | ret o s2 => have := no 1; rw [stepn, e2] at this; cases this
        | exc c v s2 => have := no 1; rw [stepn, e2] at this; cases this
section
variable {X : Cx} {W : WX}
def OutOk (X : Cx) (Φ : Fr0) (W : WX) (D : Ends) (Pr : Hp) : Out → Prop
  | .nxt st' => ∀ Pr' σ' H', Le Pr Pr' → Sim X.K Φ Pr' st' σ' H' → D.nx σ' H'
  | .ret o st' => ∀ Pr' σ' H' v, Le Pr Pr' → Sim X.K Φ Pr' st' σ' H' → RepO X.K Φ Pr' H' st' σ' o v → D.rt v H'
  | .brk st' => ∀ Pr' σ' H', Le Pr Pr' → Sim X.K Φ Pr' st' σ' H' → D.bk σ' H'
  | .cnt st' => ∀ Pr' σ' H', Le Pr Pr' → Sim X.K Φ Pr' st' σ' H' → D.ct σ' H'
  | .exc c d st' => ∀ Pr' σ' H' C dx v, Le Pr Pr' → Sim X.K Φ Pr' st' σ' H' → PySem.W.nsIn X.K mainGlobals c = some (some (.ref C)) → Pr' dx = some (.xd [("value", v)]) → Rep X.K Pr' d v → W (.ref C) (some dx) σ' H'
  | .bad => False
theorem OutOk.mono {Φ : Fr0} {D : Ends} {Pr Pr' : Hp} {o : Out} (h : OutOk X Φ W D Pr o) (le : Le Pr Pr') : OutOk X Φ W D Pr' o := by
  cases o with
  | nxt s => exact fun P σ H l => h P σ H (le.trans l)
  | ret o s => exact fun P σ H v l => h P σ H v (le.trans l)
  | brk s => exact fun P σ H l => h P σ H (le.trans l)
  | cnt s => exact fun P σ H l => h P σ H (le.trans l)
  | exc c d s => exact fun P σ H C dx v l => h P σ H C dx v (le.trans l)
  | bad => exact h
def tS (X : Cx) (Φ : Fr0) (W : WX) (f : S) : TS := fun D σ H => ∃ Pr st, Sim X.K Φ Pr st σ H ∧ OutOk X Φ W D Pr (f st)
structure SS (X : Cx) (W : WX) (st : Stmt) (f : S) : Prop where
  ps : ∀ Φ, PS X st (tS X Φ W f)
structure SSs (X : Cx) (W : WX) (st : List Stmt) (f : S) : Prop where
  pss : ∀ Φ, PSs X st (tS X Φ W f)
theorem psImp {st : Stmt} {t t' : TS} (h : PS X st t) (k : ∀ D σ H, t' D σ H → t D σ H) : PS X st t' := ⟨fun pins s σ H D I q => h.run pins s σ H D I (k D σ H q)⟩
theorem pssImp {st : List Stmt} {t t' : TS} (h : PSs X st t) (k : ∀ D σ H, t' D σ H → t D σ H) : PSs X st t' := ⟨fun pins s σ H D I q => h.run pins s σ H D I (k D σ H q)⟩
theorem kR_of {Φ : Fr0} {D : Ends} {Pr : Hp} {α : Type} {σ : St} {r : R α} {f : α → Sto → Out} (hW : True) (h : OutOk X Φ W D Pr (kR r f)) : Aft X Φ W Pr σ r fun a st' Pr' _ => OutOk X Φ W D Pr' (f a st') := by
  cases r with
  | ok a s => exact fun P' H' l _ => OutOk.mono (show OutOk X Φ W D Pr (f a s) from h) l
  | exc c d s => exact fun P' H' C dx v l => h P' σ H' C dx v l
  | bad => exact h
theorem sss_nil : SSs X W [] sSkip := ⟨fun Φ => pssImp pss_nil fun D σ H h => by
  obtain ⟨Pr, st, S, h⟩ := h
  exact h Pr σ H (Le.refl _) S⟩
theorem seq_of {Φ : Fr0} {f g : S} : ∀ D σ H, tS X Φ W (sSeq f g) D σ H → tSeq (tS X Φ W f) (tS X Φ W g) D σ H := by
  intro D σ H h
  obtain ⟨Pr, st, S, h⟩ := h
  refine ⟨Pr, st, S, ?_⟩
  unfold sSeq at h
  cases e : f st with
  | nxt s1 => rw [e] at h; exact fun P' σ' H' l S' => ⟨P', s1, S', h.mono l⟩
  | ret o s1 => rw [e] at h; exact h
  | brk s1 => rw [e] at h; exact h
  | cnt s1 => rw [e] at h; exact h
  | exc c d s1 => rw [e] at h; exact h
  | bad => rw [e] at h; exact h
theorem sss_cons {st : Stmt} {rest : List Stmt} {f g : S} (h1 : SS X W st f) (h2 : SSs X W rest g) : SSs X W (st :: rest) (sSeq f g) := ⟨fun Φ => pssImp (pss_cons (h1.ps Φ) (h2.pss Φ)) seq_of⟩
theorem sss_one {st : Stmt} {f : S} (h1 : SS X W st f) : SSs X W [st] f := ⟨fun Φ => pss_one (h1.ps Φ)⟩
theorem ss_pass {pos : Pos} : SS X W (.Pass pos) sSkip := ⟨fun Φ => psImp ps_pass fun D σ H h => by
  obtain ⟨Pr, st, S, h⟩ := h
  exact h Pr σ H (Le.refl _) S⟩
theorem ss_break {pos : Pos} : SS X W (.Break pos) sBrk := ⟨fun Φ => psImp ps_break fun D σ H h => by
  obtain ⟨Pr, st, S, h⟩ := h
  exact h Pr σ H (Le.refl _) S⟩
theorem ss_continue {pos : Pos} : SS X W (.Continue pos) sCnt := ⟨fun Φ => psImp ps_continue fun D σ H h => by
  obtain ⟨Pr, st, S, h⟩ := h
  exact h Pr σ H (Le.refl _) S⟩
theorem ss_never {st : Stmt} : SS X W st sBad := ⟨fun Φ => psImp ps_never fun D σ H h => by
  obtain ⟨Pr, st, S, h⟩ := h
  exact h⟩
theorem ss_expr {e : Expr} {fe : E} {pos : Pos} (he : SE X W e fe) (hs : swapsWith e none pos.line X.env = pure false := by rfl) : SS X W (.Expr e pos) (sDrop fe) := ⟨fun Φ => psImp (ps_expr (he.pe Φ) hs) fun D σ H h => by
  obtain ⟨Pr, st, S, h⟩ := h
  exact ⟨Pr, st, S, (kR_of trivial h).imp fun o s1 P1 H1 l1 S1 h1 v _ => h1 P1 σ H1 (Le.refl _) S1⟩⟩
theorem ss_ret {e : Expr} {fe : E} {pos : Pos} (he : SE X W e fe) : SS X W (.Return (some e) pos) (sRet fe) := ⟨fun Φ => psImp (ps_ret (he.pe Φ)) fun D σ H h => by
  obtain ⟨Pr, st, S, h⟩ := h
  exact ⟨Pr, st, S, (kR_of trivial h).imp fun o s1 P1 H1 l1 S1 h1 v hv => h1 P1 σ H1 v (Le.refl _) S1 hv⟩⟩
theorem ss_retN {pos : Pos} : SS X W (.Return none pos) sRetN := ⟨fun Φ => psImp ps_retN fun D σ H h => by
  obtain ⟨Pr, st, S, h⟩ := h
  exact h Pr σ H _ (Le.refl _) S ro_non⟩
theorem ss_if {c : Expr} {a b : List Stmt} {ft : T} {fa fb : S} {pos : Pos} (hc : ST X W c ft) (ha : SSs X W a fa) (hb : SSs X W b fb) : SS X W (.If c a b pos) (sIfS ft fa fb) := ⟨fun Φ => psImp (ps_if (hc.pt Φ) (ha.pss Φ) (hb.pss Φ)) fun D σ H h => by
  obtain ⟨Pr, st, S, h⟩ := h
  refine ⟨Pr, st, S, (kR_of trivial h).imp fun k s1 P1 H1 l1 S1 h1 => ?_⟩
  cases k with
  | true => exact iteT ⟨P1, s1, S1, h1⟩
  | false => exact iteF ⟨P1, s1, S1, h1⟩⟩
theorem putS_of {i : Nat} {t : Slot} {s s' : Sto} (h : putS i t s = some s') : s' = s.set i t ∧ ∃ r, s[i]? = some r := by
  unfold putS at h
  split at h
  · rename_i hi
    cases h
    exact ⟨rfl, _, List.getElem?_eq_getElem hi⟩
  · cases h
theorem ok_put {Φ : Fr0} {D : Ends} {Pr H : Hp} {st : Sto} {σ : St} {i : Nat} {t : Slot} {v : V} (S : Sim X.K Φ Pr st σ H) (h : OutOk X Φ W D Pr (okS (putS i t st))) (ok : SlotOk X.K Φ Pr H i t (some v))
    (hap : t.mut = true → ∀ (j : Nat) r, st[j]? = some r → r.mut = true → σ[j]? ≠ some (some v)) : D.nx (σ.set i (some v)) H := by
  cases e : putS i t st with
  | none => rw [e] at h; exact h.elim
  | some s' =>
    rw [e] at h
    obtain ⟨rfl, r, hr⟩ := putS_of e
    exact h Pr _ H (Le.refl _) (S.assign hr ok hap)
theorem asgO_of {Φ : Fr0} {D : Ends} {Pr H : Hp} {st : Sto} {σ : St} {i : Nat} {o : Opd} {v : V} (S : Sim X.K Φ Pr st σ H) (r : RepO X.K Φ Pr H st σ o v) (h : OutOk X Φ W D Pr (asgO i o st)) : D.nx (σ.set i (some v)) H := by
  have gen : ∀ {o : Opd}, RepO X.K Φ Pr H st σ o v → OutOk X Φ W D Pr (kR (takeO o st) fun d s1 => okS (putS i (.val d) s1)) → D.nx (σ.set i (some v)) H := fun {o} r h => by
    rcases take_cases o st with ⟨d, st', e⟩ | e
    · rw [e] at h
      obtain ⟨Pr', le, S', r'⟩ := take_of S r e
      exact ok_put S' (OutOk.mono h le) ⟨v, rfl, r'⟩ (fun z => nomatch z)
    · rw [e] at h
      exact h.elim
  cases o with
  | own d =>
    obtain ⟨a, ob, rfl, hn, h0, ha, hc, hf⟩ := r
    exact ok_put S h ⟨a, ob, rfl, hn, h0, ha, hc⟩ fun _ j t e m => hf j t e m
  | val d => exact gen r h
  | slot j => exact gen r h
theorem ss_asg {i : Nat} {x : Str} {e : Expr} {fe : E} {pos pos' : Pos} (hN : X.N.Nodup) (hi : X.N[i]? = some x) (hx : Loc X.env.scope x) (he : SE X W e fe) (hs : swapsWith e (some (.Name x pos')) pos.line X.env = pure false := by rfl) (hf : X.fn x = true ∨ X.env.scope.names.lookup x = some .local := by first | exact .inl rfl | exact .inr rfl | assumption) :
    SS X W (.Assign [.Name x pos'] e pos) (sAsg i fe) := ⟨fun Φ => psImp (ps_set (i := i) hN hi hx (he.pe Φ) hs hf) fun D σ H h => by
  obtain ⟨Pr, st, S, h⟩ := h
  exact ⟨Pr, st, S, (kR_of trivial h).imp fun o s1 P1 H1 l1 S1 h1 v hv => asgO_of S1 hv h1⟩⟩
def Only (is : List Nat) (σ σ' : St) : Prop := σ'.length = σ.length ∧ ∀ (j : Nat), j ∉ is → σ'[j]? = σ[j]?
theorem Only.trans {is js : List Nat} {σ σ' σ2 : St} (h : Only is σ σ') (k : Only js σ' σ2) : Only (is ++ js) σ σ2 :=
  ⟨k.1.trans h.1, fun j hj => (k.2 j fun z => hj (List.mem_append_right _ z)).trans (h.2 j fun z => hj (List.mem_append_left _ z))⟩
def tG (X : Cx) (Φ : Fr0) (g : G) (is : List Nat) : TG := fun v σ H Q => ∃ Pr st d st', Sim X.K Φ Pr st σ H ∧ Rep X.K Pr d v ∧ g d st = some st' ∧ ∀ Pr' σ', Le Pr Pr' → Only is σ σ' → Sim X.K Φ Pr' st' σ' H → Q σ' H
def tGs (X : Cx) (Φ : Fr0) (g : Gs) (is : List Nat) : TGs := fun vs σ H Q => ∃ Pr st ds st', Sim X.K Φ Pr st σ H ∧ Reps X.K Pr ds vs ∧ g ds st = some st' ∧ ∀ Pr' σ', Le Pr Pr' → Only is σ σ' → Sim X.K Φ Pr' st' σ' H → Q σ' H
structure SG (X : Cx) (e : Expr) (g : G) (is : List Nat) : Prop where
  pg : ∀ Φ, PG X e (tG X Φ g is)
structure SGs (X : Cx) (es : List Expr) (g : Gs) (is : List Nat) : Prop where
  pgs : ∀ Φ, PGs X es (tGs X Φ g is)
theorem sg_name {i : Nat} {x : Str} {pos : Pos} (hN : X.N.Nodup) (hi : X.N[i]? = some x) (hx : Loc X.env.scope x) (hf : X.fn x = true ∨ X.env.scope.names.lookup x = some .local := by first | exact .inl rfl | exact .inr rfl | assumption) : SG X (.Name x pos) (gN i) [i] := by
  refine ⟨fun Φ => ⟨fun pins s σ H v u Q I r h => (pg_name hN hi hx hf).run pins s σ H v u Q I r ?_⟩⟩
  obtain ⟨Pr, st, d, st', S, rv, e, h⟩ := h
  obtain ⟨rfl, t, ht⟩ := putS_of e
  exact h Pr _ (Le.refl _) ⟨by simp, fun j hj => List.getElem?_set_ne (fun z => hj (by rw [← z]; exact List.mem_singleton_self _))⟩ (S.assign ht ⟨v, rfl, rv⟩ fun z => nomatch z)
theorem sgs_nil : SGs X [] gs0 [] := by
  refine ⟨fun Φ => ⟨fun pins s σ H vs us Q I r h => pgs_nil.run pins s σ H vs us Q I r ?_⟩⟩
  obtain ⟨Pr, st, ds, st', S, rv, e, h⟩ := h
  cases ds with
  | nil =>
    unfold Reps at rv
    cases e
    exact ⟨rv, h Pr σ (Le.refl _) ⟨rfl, fun _ _ => rfl⟩ S⟩
  | cons _ _ => cases e
theorem sgs_cons {e : Expr} {es : List Expr} {g : G} {gs : Gs} {is js : List Nat} (h1 : SG X e g is) (h2 : SGs X es gs js)
    (hs : (assignEach (e :: es) X.env).map (·.2) = assign e X.env :: (assignEach es X.env).map (·.2) := by rfl) : SGs X (e :: es) (gs1 g gs) (is ++ js) := by
  refine ⟨fun Φ => ⟨fun pins s σ H vs us Q I r h => (pgs_cons (h1.pg Φ) (h2.pgs Φ) hs).run pins s σ H vs us Q I r ?_⟩⟩
  obtain ⟨Pr, st, ds, st', S, rv, e, h⟩ := h
  cases ds with
  | nil => cases e
  | cons d ds =>
    unfold Reps at rv
    obtain ⟨x, t, rfl, r1, r2⟩ := rv
    unfold gs1 at e
    simp only at e
    rw [Option.bind_eq_some_iff] at e
    obtain ⟨s1, e1, e2⟩ := e
    exact ⟨x, t, rfl, Pr, st, d, s1, S, r1, e1, fun Pr' σ' l o1 S' => ⟨Pr', s1, ds, st', S', Reps.mono l ds r2, e2, fun P2 σ2 l2 o2 => h P2 σ2 (l.trans l2) (o1.trans o2)⟩⟩
theorem sg_tup {es : List Expr} {k : Nat} {pos : Pos} {gs : Gs} {n : Nat} {is : List Nat} (hc : X.calm = true) (h : SGs X es gs is)
    (hn : (assignEach es X.env).length = n := by rfl) (hst : (assignEach es X.env).findIdx? (·.1) = none := by rfl) : SG X (.Tuple es k pos) (gT n gs) is := by
  refine ⟨fun Φ => ⟨fun pins s σ H v u Q I r q => (pg_tup hc (h.pgs Φ) hn hst).run pins s σ H v u Q I r ?_⟩⟩
  obtain ⟨Pr, st, d, st', S, rv, e, q⟩ := q
  unfold gT at e
  split at e
  · split at e
    · rename_i ds hl
      unfold Rep at rv
      obtain ⟨a, xs, rfl, qs, r'⟩ := rv
      exact ⟨a, xs, rfl, S.sqT qs, by rw [r'.length]; exact hl, Pr, st, _, st', S, r', e, q⟩
    · cases e
  · cases e
theorem ss_asgG {tg e : Expr} {g : G} {fe : E} {is : List Nat} {pos : Pos} (he : SE X W e fe) (hg : SG X tg g is) (hs : swapsWithSole [tg] e pos.line X.env = pure false := by rfl) (hw : swappedStores [tg] e X.env = pure none := by rfl)
    (h1 : (assignEach [tg] X.env).map (·.2) = [assign tg X.env] := by rfl) : SS X W (.Assign [tg] e pos) (sAsgG g fe) := ⟨fun Φ => psImp (ps_asg (he.pe Φ) (hg.pg Φ) hs hw h1) fun D σ H h => by
  obtain ⟨Pr, st, S, h⟩ := h
  refine ⟨Pr, st, S, (kR_of trivial h).imp fun o s1 P1 H1 l1 S1 h1 v hv => ?_⟩
  rcases take_cases o s1 with ⟨d, s2, e⟩ | e
  · rw [e] at h1
    obtain ⟨P2, le, S2, r2⟩ := take_of S1 hv e
    have h2 := OutOk.mono h1 le
    cases e3 : g d s2 with
    | none => simp only [kR_ok, e3] at h2; exact h2.elim
    | some s3 =>
      simp only [kR_ok, e3] at h2
      exact ⟨P2, s2, d, s3, S2, r2, e3, fun P3 σ3 l3 _ S3 => h2 P3 σ3 H1 l3 S3⟩
  · rw [e] at h1
    exact h1.elim⟩
def augI (f : Int → Int → Int) (x y : D) : Option Opd := match x, y with
  | .int i, .int j => some (.val (.int (f i j)))
  | _, _ => none
theorem ss_augI {i : Nat} {x : Str} {e : Expr} {fe : E} {op : Operator} {f : Int → Int → Int} {pos pos' : Pos} (hN : X.N.Nodup) (hi : X.N[i]? = some x) (hx : Loc X.env.scope x) (ho : PIp X op (ipI f)) (he : SE X W e fe) (hf : X.fn x = true ∨ X.env.scope.names.lookup x = some .local := by first | exact .inl rfl | exact .inr rfl | assumption) :
    SS X W (.AugAssign (.Name x pos') op e pos) (sAug i (augI f) fe) := ⟨fun Φ => psImp (ps_aug (i := i) hN hi hx (he.pe Φ) ho hf) fun D σ H h => by
  obtain ⟨Pr, st, S, h⟩ := h
  unfold sAug at h
  cases e0 : datAt st i with
  | none => rw [e0] at h; exact h.elim
  | some dx =>
    rw [e0] at h
    obtain ⟨v, hv, pv⟩ : ∃ v, σ[i]? = some (some v) ∧ Pk X.K Pr H dx v := by
      unfold datAt at e0
      split at e0
      · rename_i t ht
        obtain ⟨ov, h1, h2⟩ := S.slots i t ht
        cases t with
        | un => cases e0
        | val d => obtain ⟨v, rfl, r⟩ := h2; cases e0; exact ⟨v, h1, .inl r⟩
        | own d => obtain ⟨a, o, rfl, _, _, ha, hc⟩ := h2; cases e0; exact ⟨_, h1, .inr ⟨a, o, rfl, ha, hc⟩⟩
        | par d => obtain ⟨a, o, rfl, _, _, ha, hc⟩ := h2; cases e0; exact ⟨_, h1, .inr ⟨a, o, rfl, ha, hc⟩⟩
        | pfr d => obtain ⟨a, rfl, _, r⟩ := h2; cases e0; exact ⟨_, h1, .inl r⟩
      · cases e0
    refine ⟨v, hv, Pr, st, S, (kR_of trivial h).imp fun o s1 P1 H1 l1 S1 h1 y hy => ?_⟩
    obtain ⟨P1', l1', S1', k1⟩ := settle S1 hy
    have h1 := h1.mono l1'
    cases e1 : peek o s1 with
    | none => rw [e1] at h1; exact h1.elim
    | some dy =>
      rw [e1] at h1
      have pk := pk_of S1' k1 e1
      cases dx with
      | int a =>
        cases dy with
        | int b =>
          cases pv.int
          cases pk.int
          exact ⟨a, b, rfl, rfl, ok_put S1' h1 ⟨_, rfl, rep_int⟩ fun z => nomatch z⟩
        | _ => exact h1.elim
      | _ => exact h1.elim⟩
theorem ss_while {c : Expr} {body : List Stmt} {ft : T} {fb : S} {pos : Pos} (hp : PassesOwn (model X.prog X.w) X.A X.env X.xe) (hc : ST X W c ft) (hb : SSs X W body fb) : SS X W (.While c body [] pos) (sWh ft fb) := ⟨fun Φ => psImp (ps_while hp (hc.pt Φ) (hb.pss Φ)) fun D σ H h => by
  obtain ⟨Pr, st, S, h⟩ := h
  have hg : (sWh ft fb st).good = true := by
    cases e : sWh ft fb st with
    | bad => rw [e] at h; exact h.elim
    | _ => rfl
  obtain ⟨n, e, hn⟩ := sWh_some hg
  rw [e] at h
  refine ⟨fun m σ H => ∃ Pr st, Sim X.K Φ Pr st σ H ∧ OutOk X Φ W D Pr (whN ft fb m st), ⟨n, Pr, st, S, h⟩, ?_⟩
  rintro m σ1 H1 ⟨P1, s1, S1, h1⟩
  cases m with
  | zero => exact h1.elim
  | succ m =>
    unfold whN at h1
    refine ⟨P1, s1, S1, (kR_of trivial h1).imp fun k s2 P2 H2 l2 S2 h2 => ?_⟩
    cases k with
    | false => exact iteF (h2 P2 σ1 H2 (Le.refl _) S2)
    | true =>
      refine iteT ⟨fun σ' H' => ∃ Pr st, Sim X.K Φ Pr st σ' H' ∧ OutOk X Φ W D Pr (whN ft fb m st), fun σ' H' q => ⟨m, Nat.lt_succ_self m, q⟩, P2, s2, S2, ?_⟩
      simp only [if_true] at h2
      cases e2 : fb s2 with
      | nxt s3 => rw [e2] at h2; exact fun P3 σ3 H3 l3 S3 => ⟨P3, s3, S3, h2.mono l3⟩
      | cnt s3 => rw [e2] at h2; exact fun P3 σ3 H3 l3 S3 => ⟨P3, s3, S3, h2.mono l3⟩
      | brk s3 => rw [e2] at h2; exact h2
      | ret o s3 => rw [e2] at h2; exact h2
      | exc c d s3 => rw [e2] at h2; exact h2
      | bad => rw [e2] at h2; exact h2⟩
def Walks (X : Cx) (Φ : Fr0) (J : It) (ds : List D) (Pr : Hp) : Prop := ∀ (i : Nat) Pr1 st σ H, Le Pr Pr1 → Sim X.K Φ Pr1 st σ H →
  (ds.length ≤ i → J.stop i H) ∧ ∀ d, ds[i]? = some d → J.go i H ∧ ∀ x H', J.yld i H x H' → ∃ Pr2, Le Pr1 Pr2 ∧ Sim X.K Φ Pr2 st σ H' ∧ Rep X.K Pr2 d x
def tW (X : Cx) (Φ : Fr0) (W : WX) (f : Ws) : TI := fun σ H R => ∃ Pr st, Sim X.K Φ Pr st σ H ∧ Aft X Φ W Pr σ (f st) fun ds st' Pr' H' => ∀ P2 J, Le Pr' P2 → Sim X.K Φ P2 st' σ H' → (∀ Φ' : Fr0, Φ'.lk = Φ.lk → Walks X Φ' J ds P2) → R J H'
structure SI (X : Cx) (W : WX) (tg e : Expr) (f : Ws) : Prop where
  pi : ∀ Φ, PI X tg e (tW X Φ W f)
theorem piImp {tg e : Expr} {t t' : TI} (h : PI X tg e t) (k : ∀ σ H R, t' σ H R → t σ H R) : PI X tg e t' := ⟨fun pins s σ H R I q => h.run pins s σ H R I (k σ H R q)⟩
theorem ss_for {tg iter : Expr} {body : List Stmt} {fw : Ws} {g : G} {is : List Nat} {fb : S} {pos : Pos} (hp : PassesOwn (model X.prog X.w) X.A X.env X.xe) (hc : X.calm = true) (hi : SI X W tg iter fw) (hg : SG X tg g is) (hb : SSs X W body fb)
    (hs : ∀ x, foldedSetIterable iter X.env x = pure x := by intro _; rfl) : SS X W (.For tg iter body [] pos) (sFor fw g fb) := ⟨fun Φ => psImp (ps_for hp hc (hi.pi Φ) (hg.pg Φ) (hb.pss Φ) hs) fun D σ H h => by
  obtain ⟨Pr, st, S, h⟩ := h
  refine ⟨Pr, st, S, (kR_of trivial h).imp fun ds s1 P1 H1 l1 S1 h1 P2 J l2 S2 wk => ?_⟩
  refine ⟨fun i m σ H => ∃ Pr st, Le P2 Pr ∧ Sim X.K Φ Pr st σ H ∧ m = ds.length - i ∧ OutOk X Φ W D Pr (forL g fb (ds.drop i) st), ⟨_, P2, s1, Le.refl _, S2, rfl, h1.mono l2⟩, ?_⟩
  rintro i m σ3 H3 ⟨P3, s3, l3, S3, rfl, h3⟩
  obtain ⟨w1, w2⟩ := wk Φ rfl i P3 s3 σ3 H3 l3 S3
  by_cases hlt : i < ds.length
  · right
    have hd : ds[i]? = some ds[i] := List.getElem?_eq_getElem hlt
    obtain ⟨g1, g2⟩ := w2 _ hd
    refine ⟨g1, fun σ' H' => ∃ Pr st, Le P2 Pr ∧ Sim X.K Φ Pr st σ' H' ∧ OutOk X Φ W D Pr (forL g fb (ds.drop (i + 1)) st), fun σ' H' q => ?_, fun x H4 hy => ?_⟩
    · obtain ⟨P5, s5, l5, S5, h5⟩ := q
      exact ⟨ds.length - (i + 1), by omega, P5, s5, l5, S5, rfl, h5⟩
    · obtain ⟨P4, l4, S4, r4⟩ := g2 x H4 hy
      rw [List.drop_eq_getElem_cons hlt] at h3
      unfold forL at h3
      cases e : g ds[i] s3 with
      | none => rw [e] at h3; exact h3.elim
      | some s4 =>
        rw [e] at h3
        refine ⟨P4, s3, ds[i], s4, S4, r4, e, fun P5 σ5 l5 _ S5 => ⟨P5, s4, S5, ?_⟩⟩
        simp only at h3
        have l := l3.trans (l4.trans l5)
        cases e2 : fb s4 with
        | nxt s6 => rw [e2] at h3; exact fun P6 σ6 H6 l6 S6 => ⟨P6, s6, l.trans l6, S6, h3.mono (l4.trans (l5.trans l6))⟩
        | cnt s6 => rw [e2] at h3; exact fun P6 σ6 H6 l6 S6 => ⟨P6, s6, l.trans l6, S6, h3.mono (l4.trans (l5.trans l6))⟩
        | brk s6 => rw [e2] at h3; exact OutOk.mono h3 (l4.trans l5)
        | ret o s6 => rw [e2] at h3; exact OutOk.mono h3 (l4.trans l5)
        | exc c d s6 => rw [e2] at h3; exact OutOk.mono h3 (l4.trans l5)
        | bad => rw [e2] at h3; exact h3.elim
  · left
    refine ⟨w1 (by omega), ?_⟩
    rw [List.drop_eq_nil_of_le (by omega)] at h3
    exact h3 P3 σ3 H3 (Le.refl _) S3⟩
end
end Dv
namespace Dv
open PySem L2 RZ RT
def seqOf : D → Option (List D)
  | .lst l => some l
  | .tup l => some l
  | .scr l => some l
  | .str x => some (x.cps.toList.map fun c => .str ⟨#[c]⟩)
  | _ => none
def wSeq (a : E) : Ws := fun s => (a s).bind fun o s1 => (takeO o s1).bind fun d s2 => okO (seqOf d) s2
def inR (i : Int) : Prop := -B62 ≤ i ∧ i < B62
theorem inR_eq {i : Int} : inR i ↔ -(2 ^ 62) ≤ i ∧ i < 2 ^ 62 := by unfold inR; rw [B62_eq]
instance (i : Int) : Decidable (inR i) := by unfold inR; infer_instance
def rng1 : List D → Option (List D)
  | [.int j] => if inR j then some ((List.range j.toNat).map fun k => .int (k : Nat)) else none
  | _ => none
def rng2 : List D → Option (List D)
  | [.int i, .int j] => if inR i ∧ inR j then some ((List.range (j - i).toNat).map fun k => .int (i + (k : Nat))) else none
  | _ => none
def rng3 : List D → Option (List D)
  | [.int i, .int j, .int c] => if c = -1 ∧ inR i ∧ inR j then some ((List.range (i - j).toNat).map fun k => .int (i + (k : Nat) * c)) else none
  | _ => none
def wArgs (F : List D → Option (List D)) (as : Ar) : Ws := fun s => (as s).bind fun os s1 => okO ((peekAll os s1).bind F) s1
def enumL (i : Nat) : List D → List D
  | [] => []
  | d :: l => .tup [.int i, d] :: enumL (i + 1) l
def zipL : List D → List D → List D
  | a :: l, b :: m => .tup [a, b] :: zipL l m
  | _, _ => []
def wEnum (as : Ar) : Ws := fun s => (as s).bind fun os s1 => (takeAll os s1).bind fun ds s2 => match ds with
  | [.lst l] => .ok (enumL 0 l) s2
  | _ => .bad
def wZip (as : Ar) : Ws := fun s => (as s).bind fun os s1 => (takeAll os s1).bind fun ds s2 => match ds with
  | [.lst l, .lst m] => .ok (zipL l m) s2
  | [.tup l, .tup m] => .ok (zipL l m) s2
  | _ => .bad
def seqLT : D → Option (List D)
  | .lst l => some l
  | .tup l => some l
  | _ => none
def wRev (a : E) : Ws := fun s => (a s).bind fun o s1 => (takeO o s1).bind fun d s2 => okO ((seqLT d).map List.reverse) s2
section
variable {X : Cx} {W : WX} {tg : Expr}
theorem pi_seq {l : Expr} {tl : TE} (hl : PE X l tl) : PI X tg l (fun σ H R => tl σ H fun x H1 => (∃ a, x = .ref a ∧ (((∃ xs, SqL X.K H1 a xs) ∧ R (Itl X.K a) H1) ∨ ((∃ xs, SqT X.K H1 a xs) ∧ R (Itt X.K a) H1))) ∨ ∃ z, x = .str z ∧ R (Its z) H1) := by
  refine ⟨fun pins s σ H R I h => ?_⟩
  refine thn (hl.run pins s σ H _ I h) fun v s1 ⟨x, H1, I1, r1, q0⟩ => ?_
  rcases q0.symm with ⟨z, e, q⟩ | q1
  · subst e
    obtain ⟨t, rfl⟩ := r1
    cases ha : z.cps.all (· < 128)
    · exact wpAny_pyIter_wide ha (pi_one (tk := s1.toks) I1 _ (turn_str _ z t "str_iterator" (.inr rfl)) ⟨_, Heap.get?_push_size _ rfl, rfl, rfl⟩ q)
    · exact wpAny_pyIter_ascii ha (pi_one (tk := s1.toks) I1 _ (turn_str _ z t "str_ascii_iterator" (.inl rfl)) ⟨_, Heap.get?_push_size _ rfl, rfl, rfl⟩ q)
  obtain ⟨a, e, q1⟩ := q1
  subst e
  cases r1
  rcases q1 with ⟨⟨xs, hq⟩, q⟩ | ⟨⟨xs, hq⟩, q⟩
  · obtain ⟨its, rv, p, hz⟩ := I1.list hq
    refine wpAny_pyIter_list p.isList ?_
    refine ⟨s1.heap.objs.size, [s1.heap.objs.size], _, _, H1, rfl, I1.kept (t' := s1.toks) fun b o e => Heap.get?_push_of_some _ e, turn_list a _, ⟨_, Heap.get?_push_size _ rfl, rfl, rfl⟩, fun b hb => ?_, q⟩
    have e : b = s1.heap.objs.size := by simpa using hb
    subst e
    exact I1.fpOk (Nat.le_refl _) (I1.hok.fresh (Nat.le_refl _))
  · obtain ⟨its, rv, p, hz⟩ := I1.tuple hq
    refine wpAny_pyIter_tuple (show s1.heap.IsTuple a its.toArray from p) ?_
    refine ⟨s1.heap.objs.size, [s1.heap.objs.size], _, _, H1, rfl, I1.kept (t' := s1.toks) fun b o e => Heap.get?_push_of_some _ e, turn_tuple a _, ⟨_, Heap.get?_push_size _ rfl, rfl, rfl⟩, fun b hb => ?_, q⟩
    have e : b = s1.heap.objs.size := by simpa using hb
    subst e
    exact I1.fpOk (Nat.le_refl _) (I1.hok.fresh (Nat.le_refl _))
theorem walks_L {Φ : Fr0} {Pr : Hp} {a : Addr} {xs : List V} {l : List D} (q : SqL X.K Pr a xs) (r : Reps X.K Pr l xs) : Walks X Φ (Itl X.K a) l Pr := by
  intro i P1 st σ H le S
  have q1 : SqL X.K H a xs := S.sqL (le.sqL q)
  refine ⟨fun h => ⟨xs, q1, by rw [r.length]; exact h⟩, fun d hd => ?_⟩
  obtain ⟨x, hx, rx⟩ := r.get hd
  refine ⟨⟨xs, x, q1, hx⟩, fun y H' hy => ?_⟩
  obtain ⟨rfl, hy⟩ := hy
  have := hy xs q1
  rw [hx] at this; cases this
  exact ⟨P1, Le.refl _, S, rx.mono le⟩
theorem walks_T {Φ : Fr0} {Pr : Hp} {a : Addr} {xs : List V} {l : List D} (q : SqT X.K Pr a xs) (r : Reps X.K Pr l xs) : Walks X Φ (Itt X.K a) l Pr := by
  intro i P1 st σ H le S
  have q1 : SqT X.K H a xs := S.sqT (le.sqT q)
  refine ⟨fun h => ⟨xs, q1, by rw [r.length]; exact h⟩, fun d hd => ?_⟩
  obtain ⟨x, hx, rx⟩ := r.get hd
  refine ⟨⟨xs, x, q1, hx⟩, fun y H' hy => ?_⟩
  obtain ⟨rfl, hy⟩ := hy
  have := hy xs q1
  rw [hx] at this; cases this
  exact ⟨P1, Le.refl _, S, rx.mono le⟩
theorem walks_S {Φ : Fr0} {Pr : Hp} {z : Str} (hz : PyData.strOk z = true) : Walks X Φ (Its z) (z.cps.toList.map fun c => .str ⟨#[c]⟩) Pr := by
  intro i P1 st σ H le S
  have hl : z.cps.toList.length = z.cps.size := by simp
  refine ⟨fun h => by rw [List.length_map] at h; show z.cps.size ≤ i; omega, fun d hd => ?_⟩
  rw [List.getElem?_map, Option.map_eq_some_iff] at hd
  obtain ⟨c, hc, rfl⟩ := hd
  obtain ⟨hi, _⟩ := List.getElem?_eq_some_iff.mp hc
  refine ⟨by show i < z.cps.size; omega, fun y H' hy => ?_⟩
  obtain ⟨rfl, c', hc', rfl⟩ := hy
  rw [← Array.getElem?_toList, hc] at hc'
  cases hc'
  exact ⟨P1, Le.refl _, S, rep_str (strOk_sign hz (List.mem_of_getElem? hc))⟩
theorem take_walk {Φ : Fr0} {Pr H : Hp} {st : Sto} {σ : St} {o : Opd} {v : V} {f : D → Option (List D)} {k : List D → Sto → Hp → Hp → Prop} (S : Sim X.K Φ Pr st σ H) (r : RepO X.K Φ Pr H st σ o v)
    (h : Aft X Φ W Pr σ ((takeO o st).bind fun d s2 => okO (f d) s2) k) : ∃ d ds st' P', Le Pr P' ∧ Sim X.K Φ P' st' σ H ∧ Rep X.K P' d v ∧ f d = some ds ∧ k ds st' P' H := by
  obtain ⟨d, st', P', le, S', r', h'⟩ := Aft.take h S r
  cases e : f d with
  | none => rw [e] at h'; exact h'.elim
  | some ds => rw [e] at h'; exact ⟨d, ds, st', P', le, S', r', e, h' P' H (Le.refl _) S'⟩
theorem si_seq {a : Expr} {fa : E} (ha : SE X W a fa) : SI X W tg a (wSeq fa) := by
  refine ⟨fun Φ => piImp (pi_seq (ha.pe Φ)) fun σ H R h => ?_⟩
  obtain ⟨Pr, st, S, h⟩ := h
  refine ⟨Pr, st, S, h.bind.imp fun o s1 P1 H1 l1 S1 h1 v hv => ?_⟩
  obtain ⟨d, ds, s2, P2, l2, S2, r2, e, h2⟩ := take_walk S1 hv h1
  cases d <;> first | cases e | skip
  · unfold Rep at r2
    obtain ⟨hz, rfl⟩ := r2
    exact .inr ⟨_, rfl, h2 P2 _ (Le.refl _) S2 (fun _ _ => walks_S hz)⟩
  · unfold Rep at r2
    obtain ⟨a, xs, rfl, q, r⟩ := r2
    exact .inl ⟨a, rfl, .inr ⟨⟨xs, S2.sqT q⟩, h2 P2 _ (Le.refl _) S2 (fun _ _ => walks_T q r)⟩⟩
  · unfold Rep at r2
    obtain ⟨a, xs, rfl, q, r⟩ := r2
    exact .inl ⟨a, rfl, .inl ⟨⟨xs, .inl (S2.rdL q)⟩, h2 P2 _ (Le.refl _) S2 (fun _ _ => walks_L (.inl q) r)⟩⟩
  · unfold Rep at r2
    obtain ⟨a, xs, rfl, q, r⟩ := r2
    exact .inl ⟨a, rfl, .inl ⟨⟨xs, S2.sqL q⟩, h2 P2 _ (Le.refl _) S2 (fun _ _ => walks_L q r)⟩⟩
theorem walks_r {Φ : Fr0} {Pr : Hp} {lo : Int} {n : Nat} : Walks X Φ (Itr lo n) ((List.range n).map fun k => D.int (lo + (k : Nat))) Pr := by
  intro i P1 st σ H le S
  have hl : ((List.range n).map fun k => D.int (lo + (k : Nat))).length = n := by simp
  refine ⟨fun h => by rw [hl] at h; exact h, fun d hd => ?_⟩
  have hi : i < n := by
    have := (List.getElem?_eq_some_iff.mp hd).1
    rwa [hl] at this
  refine ⟨hi, fun y H' hy => ?_⟩
  obtain ⟨rfl, rfl⟩ := hy
  have : d = .int (lo + (i : Nat)) := by
    rw [List.getElem?_map, List.getElem?_range hi] at hd
    exact (Option.some.inj hd).symm
  subst this
  exact ⟨P1, Le.refl _, S, rep_int⟩
theorem walks_c {Φ : Fr0} {Pr : Hp} {lo c : Int} {n : Nat} : Walks X Φ (Itc lo c n) ((List.range n).map fun k => D.int (lo + (k : Nat) * c)) Pr := by
  intro i P1 st σ H le S
  have hl : ((List.range n).map fun k => D.int (lo + (k : Nat) * c)).length = n := by simp
  refine ⟨fun h => by rw [hl] at h; exact h, fun d hd => ?_⟩
  have hi : i < n := by
    have := (List.getElem?_eq_some_iff.mp hd).1
    rwa [hl] at this
  refine ⟨hi, fun y H' hy => ?_⟩
  obtain ⟨rfl, rfl⟩ := hy
  have : d = .int (lo + (i : Nat) * c) := by
    rw [List.getElem?_map, List.getElem?_range hi] at hd
    exact (Option.some.inj hd).symm
  subst this
  exact ⟨P1, Le.refl _, S, rep_int⟩
theorem args_walk {Φ : Fr0} {F : List D → Option (List D)} {fs : Ar} {σ : St} {H : Hp} {R : It → Hp → Prop} {r : List V → Hp → Prop}
    (hq : ∀ Pr st H ds vs ws, Sim X.K Φ Pr st σ H → Pks X.K Pr H ds vs → F ds = some ws → (∀ J, (∀ Φ' : Fr0, Φ'.lk = Φ.lk → Walks X Φ' J ws Pr) → R J H) → r vs H) (h : tW X Φ W (wArgs F fs) σ H R) : tAr X Φ W fs σ H r := by
  obtain ⟨Pr, st, S, h⟩ := h
  refine ⟨Pr, st, S, h.bind.imp fun os s1 P1 H1 l1 S1 h1 P2 vs l2 S2 ks => ?_⟩
  have h1 := h1.mono l2
  cases e : peekAll os s1 with
  | none => rw [e] at h1; exact h1.elim
  | some ds =>
    rw [e] at h1
    cases e2 : F ds with
    | none => simp only [Option.bind_some, e2] at h1; exact h1.elim
    | some ws =>
      simp only [Option.bind_some, e2] at h1
      exact hq P2 s1 H1 ds vs ws S2 (pks_of S2 ks e) e2 fun J wk => h1 P2 H1 (Le.refl _) S2 P2 J (Le.refl _) S2 wk
theorem si_range1 {a : Expr} {fs : Ar} {p pos : Pos} (hg : Gl X "range") (hm : X.mg "range" = none) (ha : SA X W [a] fs) (hs : starEach [a] X.env = [(false, eval a X.env)] := by rfl) : SI X W tg (.Call (.Name "range" p) [a] [] pos) (wArgs rng1 fs) := by
  refine ⟨fun Φ => piImp (pi_range1 hg hm (ha.pa Φ) hs) fun σ H R h => args_walk (fun Pr st H ds vs ws S ks e k => ?_) h⟩
  unfold rng1 at e
  split at e
  · split at e
    · rename_i j hj
      cases e
      cases ks with
      | cons p1 ps =>
        cases ps
        cases p1.int
        refine ⟨_, rfl, (inR_eq.mp hj).1, (inR_eq.mp hj).2, k _ fun Φ' _ => ?_⟩
        have := walks_r (X := X) (Φ := Φ') (Pr := Pr) (lo := 0) (n := j.toNat)
        simpa using this
    · cases e
  · cases e
theorem si_range2 {a b : Expr} {fs : Ar} {p pos : Pos} (hg : Gl X "range") (hm : X.mg "range" = none) (ha : SA X W [a, b] fs) (hs : starEach [a, b] X.env = [(false, eval a X.env), (false, eval b X.env)] := by rfl) (hs2 : starEach [b] X.env = [(false, eval b X.env)] := by rfl) : SI X W tg (.Call (.Name "range" p) [a, b] [] pos) (wArgs rng2 fs) := by
  refine ⟨fun Φ => piImp (pi_range2 hg hm (ha.pa Φ) hs hs2) fun σ H R h => args_walk (fun Pr st H ds vs ws S ks e k => ?_) h⟩
  unfold rng2 at e
  split at e
  · split at e
    · rename_i i j hj
      cases e
      cases ks with
      | cons p1 ps =>
        cases ps with
        | cons p2 ps =>
          cases ps
          cases p1.int
          cases p2.int
          exact ⟨_, _, rfl, ⟨(inR_eq.mp hj.1).1, (inR_eq.mp hj.1).2, (inR_eq.mp hj.2).1, (inR_eq.mp hj.2).2⟩, k _ fun _ _ => walks_r⟩
    · cases e
  · cases e
theorem si_range3 {a b c : Expr} {fs : Ar} {p pos : Pos} (hg : Gl X "range") (hm : X.mg "range" = none) (ha : SA X W [a, b, c] fs) (hi : ∀ t, PA X [a, b, c] t → PI X tg (.Call (.Name "range" p) [a, b, c] [] pos) (iRng3 t)) : SI X W tg (.Call (.Name "range" p) [a, b, c] [] pos) (wArgs rng3 fs) := by
  refine ⟨fun Φ => piImp (hi _ (ha.pa Φ)) fun σ H R h => args_walk (fun Pr st H ds vs ws S ks e k => ?_) h⟩
  unfold rng3 at e
  split at e
  · split at e
    · rename_i i j c hj
      cases e
      obtain ⟨rfl, h1, h2⟩ := hj
      cases ks with
      | cons p1 ps =>
        cases ps with
        | cons p2 ps =>
          cases ps with
          | cons p3 ps =>
            cases ps
            cases p1.int
            cases p2.int
            cases p3.int
            exact ⟨_, _, _, _, rfl, RgC.neg (inR_eq.mp h1).1 (inR_eq.mp h1).2 (inR_eq.mp h2).1 (inR_eq.mp h2).2, k _ fun _ _ => walks_c⟩
    · cases e
  · cases e
theorem enumL_get : ∀ {l : List D} {k i : Nat}, (enumL k l)[i]? = l[i]?.map fun d => D.tup [.int ((k + i : Nat)), d]
  | [], _, _ => by simp [enumL]
  | d :: l, k, 0 => by simp [enumL]
  | d :: l, k, i + 1 => by
    unfold enumL
    rw [List.getElem?_cons_succ, List.getElem?_cons_succ, enumL_get]
    have : k + 1 + i = k + (i + 1) := by omega
    rw [this]
theorem enumL_length : ∀ {l : List D} {k : Nat}, (enumL k l).length = l.length
  | [], _ => rfl
  | d :: l, k => by unfold enumL; rw [List.length_cons, List.length_cons, enumL_length]
theorem zipL_get : ∀ {l m : List D} {i : Nat} {d : D}, (zipL l m)[i]? = some d → ∃ a b, l[i]? = some a ∧ m[i]? = some b ∧ d = .tup [a, b]
  | a :: l, b :: m, 0, d, h => by unfold zipL at h; simp at h; exact ⟨a, b, rfl, rfl, h.symm⟩
  | a :: l, b :: m, i + 1, d, h => by
    unfold zipL at h
    rw [List.getElem?_cons_succ] at h
    obtain ⟨x, y, h1, h2, h3⟩ := zipL_get h
    exact ⟨x, y, by simpa using h1, by simpa using h2, h3⟩
  | [], m, i, d, h => by unfold zipL at h; simp at h
  | a :: l, [], i, d, h => by unfold zipL at h; simp at h
theorem zipL_length : ∀ {l m : List D}, (zipL l m).length = min l.length m.length
  | a :: l, b :: m => by unfold zipL; rw [List.length_cons, List.length_cons, List.length_cons, zipL_length]; omega
  | [], m => by unfold zipL; simp
  | a :: l, [] => by unfold zipL; simp
theorem laid_tup {Φ : Fr0} {P1 H : Hp} {st : Sto} {σ : St} {T : Addr} {xs : List V} {l : List D} (S : Sim X.K Φ P1 st σ H) (hT : H T = none) (r : Reps X.K P1 l xs) :
    ∃ P2, Le P1 P2 ∧ Sim X.K Φ P2 st σ (upd H T (.tup xs)) ∧ Rep X.K P2 (.tup l) (.ref T) := by
  have le := Le.upd (o := .tup xs) (S.fresh hT).1
  refine ⟨_, le, S.laid (o := .tup xs) hT (fun _ _ z => nomatch z), ?_⟩
  unfold Rep
  exact ⟨T, xs, rfl, SqT.of upd_same, Reps.mono le _ r⟩
theorem walks_e {Φ : Fr0} {Pr : Hp} {a : Addr} {xs : List V} {l : List D} (q : Rd Pr a (.lst xs)) (r : Reps X.K Pr l xs) : Walks X Φ (Ite X.K a) (enumL 0 l) Pr := by
  intro i P1 st σ H le S
  have q1 : SqL X.K H a xs := .inl (S.rdL (le.rd q))
  refine ⟨fun h => ⟨xs, q1, by rw [r.length]; rw [enumL_length] at h; exact h⟩, fun d hd => ?_⟩
  rw [enumL_get, Option.map_eq_some_iff] at hd
  obtain ⟨d, hd, rfl⟩ := hd
  obtain ⟨x, hx, rx⟩ := r.get hd
  refine ⟨⟨xs, x, q1, hx⟩, fun y H' hy => ?_⟩
  obtain ⟨T, x', rfl, hT, rfl, hy⟩ := hy
  have := hy xs q1
  rw [hx] at this; cases this
  rw [Nat.zero_add]
  exact laid_tup S hT (Reps.cons rep_int (Reps.one (rx.mono le)))
theorem walks_z {Φ : Fr0} {Pr : Hp} {a b : Addr} {xs ys : List V} {l m : List D} (q : Rd Pr a (.lst xs)) (r : Reps X.K Pr l xs) (q' : Rd Pr b (.lst ys)) (r' : Reps X.K Pr m ys) : Walks X Φ (Itz X.K a b) (zipL l m) Pr := by
  intro i P1 st σ H le S
  have q1 : SqL X.K H a xs := .inl (S.rdL (le.rd q))
  have q2 : SqL X.K H b ys := .inl (S.rdL (le.rd q'))
  refine ⟨fun h => ⟨xs, ys, q1, q2, by rw [r.length, r'.length]; rw [zipL_length] at h; omega⟩, fun d hd => ?_⟩
  obtain ⟨c, d, hc, hd', rfl⟩ := zipL_get hd
  obtain ⟨x, hx, rx⟩ := r.get hc
  obtain ⟨y, hy, ry⟩ := r'.get hd'
  refine ⟨⟨xs, ys, x, y, q1, q2, hx, hy⟩, fun v H' hv => ?_⟩
  obtain ⟨T, x', y', rfl, hT, rfl, h1, h2⟩ := hv
  have := h1 xs q1
  rw [hx] at this; cases this
  have := h2 ys q2
  rw [hy] at this; cases this
  exact laid_tup S hT (Reps.cons (rx.mono le) (Reps.one (ry.mono le)))
theorem walks_zT {Φ : Fr0} {Pr : Hp} {a b : Addr} {xs ys : List V} {l m : List D} (q : SqT X.K Pr a xs) (r : Reps X.K Pr l xs) (q' : SqT X.K Pr b ys) (r' : Reps X.K Pr m ys) : Walks X Φ (ItzT X.K a b) (zipL l m) Pr := by
  intro i P1 st σ H le S
  have q1 : SqT X.K H a xs := S.sqT (le.sqT q)
  have q2 : SqT X.K H b ys := S.sqT (le.sqT q')
  refine ⟨fun h => ⟨xs, ys, q1, q2, by rw [r.length, r'.length]; rw [zipL_length] at h; omega⟩, fun d hd => ?_⟩
  obtain ⟨c, d, hc, hd', rfl⟩ := zipL_get hd
  obtain ⟨x, hx, rx⟩ := r.get hc
  obtain ⟨y, hy, ry⟩ := r'.get hd'
  refine ⟨⟨xs, ys, x, y, q1, q2, hx, hy⟩, fun v H' hv => ?_⟩
  obtain ⟨T, x', y', rfl, hT, rfl, h1, h2⟩ := hv
  have := h1 xs q1
  rw [hx] at this; cases this
  have := h2 ys q2
  rw [hy] at this; cases this
  exact laid_tup S hT (Reps.cons (rx.mono le) (Reps.one (ry.mono le)))
theorem takeArgs_walk {Φ : Fr0} {G : List D → Option (List D)} {fs : Ar} {σ : St} {H : Hp} {R : It → Hp → Prop} {r : List V → Hp → Prop} {f : Ws} (hf : f = fun s => (fs s).bind fun os s1 => (takeAll os s1).bind fun ds s2 => okO (G ds) s2)
    (hq : ∀ Pr st H ds vs ws, Sim X.K Φ Pr st σ H → Reps X.K Pr ds vs → G ds = some ws → (∀ J, (∀ Φ' : Fr0, Φ'.lk = Φ.lk → Walks X Φ' J ws Pr) → R J H) → r vs H) (h : tW X Φ W f σ H R) : tAr X Φ W fs σ H r := by
  subst hf
  obtain ⟨Pr, st, S, h⟩ := h
  refine ⟨Pr, st, S, h.bind.imp fun os s1 P1 H1 l1 S1 h1 P2 vs l2 S2 ks => ?_⟩
  obtain ⟨ds, s2, P3, e, l3, S3, r3, h3⟩ := takeAll_of S2 ks (h1.mono l2)
  cases e2 : G ds with
  | none => rw [e2] at h3; exact h3.elim
  | some ws =>
    rw [e2] at h3
    exact hq P3 s2 H1 ds vs ws S3 r3 e2 fun J wk => h3 P3 H1 (Le.refl _) S3 P3 J (Le.refl _) S3 wk
def enumG : List D → Option (List D)
  | [.lst l] => some (enumL 0 l)
  | _ => none
def zipG : List D → Option (List D)
  | [.lst l, .lst m] => some (zipL l m)
  | [.tup l, .tup m] => some (zipL l m)
  | _ => none
theorem si_enum {e : Expr} {fs : Ar} {p pos tpos : Pos} {elts : List Expr} {kk : Nat} (hg : Gl X "enumerate") (hm : X.mg "enumerate" = none) (ha : SA X W [e] fs) (hs : starEach [e] X.env = [(false, eval e X.env)] := by rfl) :
    SI X W (.Tuple elts kk tpos) (.Call (.Name "enumerate" p) [e] [] pos) (wEnum fs) := by
  refine ⟨fun Φ => piImp (pi_enum hg hm (ha.pa Φ) hs) fun σ H R h => takeArgs_walk (G := enumG) (by
    funext s
    unfold wEnum
    congr 1; funext os s1; congr 1; funext ds s2
    unfold enumG
    split <;> first | rfl | (split <;> first | rfl | contradiction)) (fun Pr st H ds vs ws S r e k => ?_) h⟩
  unfold enumG at e
  split at e
  · cases e
    unfold Reps at r
    obtain ⟨x, t, rfl, r1, r2⟩ := r
    unfold Reps at r2
    subst r2
    unfold Rep at r1
    obtain ⟨a, xs, rfl, q, r1⟩ := r1
    exact ⟨a, xs, rfl, .inl (S.rdL q), k _ fun _ _ => walks_e q r1⟩
  · cases e
theorem si_zip {e e2 : Expr} {fs : Ar} {p pos tpos : Pos} {elts : List Expr} {kk : Nat} (hg : Gl X "zip") (hm : X.mg "zip" = none) (ha : SA X W [e, e2] fs) (hi : ∀ t, PA X [e, e2] t → PI X (.Tuple elts kk tpos) (.Call (.Name "zip" p) [e, e2] [] pos) (iZipA X.K t)) :
    SI X W (.Tuple elts kk tpos) (.Call (.Name "zip" p) [e, e2] [] pos) (wZip fs) := by
  refine ⟨fun Φ => piImp (hi _ (ha.pa Φ)) fun σ H R h => takeArgs_walk (G := zipG) (by
    funext s
    unfold wZip
    congr 1; funext os s1; congr 1; funext ds s2
    unfold zipG
    split <;> first | rfl | (split <;> first | rfl | contradiction)) (fun Pr st H ds vs ws S r e k => ?_) h⟩
  unfold zipG at e
  split at e
  · cases e
    unfold Reps at r
    obtain ⟨x, t, rfl, r1, r2⟩ := r
    unfold Reps at r2
    obtain ⟨y, t, rfl, r2, r3⟩ := r2
    unfold Reps at r3
    subst r3
    unfold Rep at r1 r2
    obtain ⟨a, xs, rfl, q, r1⟩ := r1
    obtain ⟨b, ys, rfl, q', r2⟩ := r2
    exact ⟨a, b, xs, ys, rfl, .inl ⟨.inl (S.rdL q), .inl (S.rdL q'), k _ fun _ _ => walks_z q r1 q' r2⟩⟩
  · cases e
    unfold Reps at r
    obtain ⟨x, t, rfl, r1, r2⟩ := r
    unfold Reps at r2
    obtain ⟨y, t, rfl, r2, r3⟩ := r2
    unfold Reps at r3
    subst r3
    unfold Rep at r1 r2
    obtain ⟨a, xs, rfl, q, r1⟩ := r1
    obtain ⟨b, ys, rfl, q', r2⟩ := r2
    exact ⟨a, b, xs, ys, rfl, .inr ⟨S.sqT q, S.sqT q', k _ fun _ _ => walks_zT q r1 q' r2⟩⟩
  · cases e
theorem walks_v {Φ : Fr0} {Pr : Hp} {a : Addr} {xs : List V} {l : List D} (q : Rd Pr a (.lst xs)) (r : Reps X.K Pr l xs) : Walks X Φ (Itv X.K a xs.length) l.reverse Pr := by
  intro i P1 st σ H le S
  have q1 : SqL X.K H a xs := .inl (S.rdL (le.rd q))
  have hl := r.length
  refine ⟨fun h => by show xs.length ≤ i; rw [hl]; rw [List.length_reverse] at h; exact h, fun d hd => ?_⟩
  have hi : i < l.length := by
    have := (List.getElem?_eq_some_iff.mp hd).1
    rwa [List.length_reverse] at this
  rw [List.getElem?_reverse hi] at hd
  obtain ⟨x, hx, rx⟩ := r.get hd
  rw [← hl] at hx
  refine ⟨⟨by rw [hl]; exact hi, xs, x, q1, hx⟩, fun y H' hy => ?_⟩
  obtain ⟨rfl, hy⟩ := hy
  have := hy xs q1
  rw [hx] at this; cases this
  exact ⟨P1, Le.refl _, S, rx.mono le⟩
theorem walks_vT {Φ : Fr0} {Pr : Hp} {a : Addr} {xs : List V} {l : List D} (q : SqT X.K Pr a xs) (r : Reps X.K Pr l xs) : Walks X Φ (ItvT X.K a xs.length) l.reverse Pr := by
  intro i P1 st σ H le S
  have q1 : SqT X.K H a xs := S.sqT (le.sqT q)
  have hl := r.length
  refine ⟨fun h => by show xs.length ≤ i; rw [hl]; rw [List.length_reverse] at h; exact h, fun d hd => ?_⟩
  have hi : i < l.length := by
    have := (List.getElem?_eq_some_iff.mp hd).1
    rwa [List.length_reverse] at this
  rw [List.getElem?_reverse hi] at hd
  obtain ⟨x, hx, rx⟩ := r.get hd
  rw [← hl] at hx
  refine ⟨⟨by rw [hl]; exact hi, xs, x, q1, hx⟩, fun y H' hy => ?_⟩
  obtain ⟨rfl, hy⟩ := hy
  have := hy xs q1
  rw [hx] at this; cases this
  exact ⟨P1, Le.refl _, S, rx.mono le⟩
theorem si_rev {e : Expr} {fe : E} {p pos : Pos} (hg : Gl X "reversed") (hm : X.mg "reversed" = none) (he : SE X W e fe) (hs : starEach [e] X.env = (false, eval e X.env) :: starEach [] X.env := by rfl) : SI X W tg (.Call (.Name "reversed" p) [e] [] pos) (wRev fe) := by
  refine ⟨fun Φ => piImp (pi_revA hg hm (he.pe Φ) hs) fun σ H R h => ?_⟩
  obtain ⟨Pr, st, S, h⟩ := h
  refine ⟨Pr, st, S, h.bind.imp fun o s1 P1 H1 l1 S1 h1 v hv => ?_⟩
  obtain ⟨d, ds, s2, P2, l2, S2, r2, e, h2⟩ := take_walk S1 hv h1
  cases d <;> first | cases e | skip
  · unfold Rep at r2
    obtain ⟨a, xs, rfl, q, r⟩ := r2
    exact ⟨a, xs, rfl, .inr ⟨S2.sqT q, h2 P2 _ (Le.refl _) S2 (fun _ _ => walks_vT q r)⟩⟩
  · unfold Rep at r2
    obtain ⟨a, xs, rfl, q, r⟩ := r2
    exact ⟨a, xs, rfl, .inl ⟨.inl (S2.rdL q), h2 P2 _ (Le.refl _) S2 (fun _ _ => walks_v q r)⟩⟩
end
end Dv
namespace Dv
open PySem L2
inductive COut where
  | ret (o : Opd) (fin : List Slot)
  | exc (c : Str) (v : D) (fin : List Slot)
  | bad
abbrev Fn := List Slot → COut
def run (k n : Nat) (b : S) : Fn := fun args => if args.length = k then match b (args ++ List.replicate (n - k) .un) with
    | .nxt s => .ret (.val .non) (s.take k)
    | .ret (.val d) s => .ret (.val d) (s.take k)
    | .ret (.own d) s => .ret (.own d) (s.take k)
    | .ret (.slot i) s => match s[i]? with
      | some (.own d) => .ret (.own d) ((s.set i .un).take k)
      | some (.par d) => .ret (.val d) ((s.set i (.pfr d)).take k)
      | _ => .bad
    | .exc c v s => .exc c v (s.take k)
    | _ => .bad
  else .bad
section
variable {K : PySem.W.Frag} {Φ : Fr0} {Pr H : Hp} {st : Sto} {σ : L2.St}
theorem Sim.takeN (S : Sim K Φ Pr st σ H) (k : Nat) : Sim K Φ Pr (st.take k) (σ.take k) H where
  len := by rw [List.length_take, List.length_take, S.len]
  inn := S.inn
  le0 := S.le0
  slots := fun i s e => by
    have hi : i < k := by
      by_cases h : i < k
      · exact h
      · rw [List.getElem?_take, if_neg h] at e; cases e
    rw [List.getElem?_take_of_lt hi] at e ⊢
    exact S.slots i s e
  apart := fun i j s t a h1 h2 m1 m2 h3 h4 => by
    have lt : ∀ {i : Nat} {s : Slot}, (st.take k)[i]? = some s → i < k := fun {i s} e => by
      by_cases h : i < k
      · exact h
      · rw [List.getElem?_take, if_neg h] at e; cases e
    have hi := lt h1
    have hj := lt h2
    rw [List.getElem?_take_of_lt hi] at h1 h3
    rw [List.getElem?_take_of_lt hj] at h2 h4
    exact S.apart i j s t a h1 h2 m1 m2 h3 h4
  frame := S.frame
  newp := S.newp
  locks := S.locks
  lkin := S.lkin
  lent := S.lent
theorem Sim.drop (S : Sim K Φ Pr st σ H) (i : Nat) : Sim K Φ Pr (st.set i .un) σ H where
  len := by simpa using S.len
  inn := S.inn
  le0 := S.le0
  slots := fun j s e => by
    by_cases h : j = i
    · subst h
      by_cases hl : j < st.length
      · rw [List.getElem?_set_self hl] at e; cases e
        obtain ⟨ov, h1, _⟩ := S.slots j _ (List.getElem?_eq_getElem hl)
        exact ⟨ov, h1, trivial⟩
      · rw [List.getElem?_eq_none (by simpa using hl)] at e; cases e
    · rw [List.getElem?_set_ne (Ne.symm h)] at e
      exact S.slots j s e
  apart := fun j k s t a h1 h2 m1 m2 h3 h4 => by
    have back : ∀ {j : Nat} {s : Slot}, (st.set i .un)[j]? = some s → s.mut = true → st[j]? = some s := fun {j s} e m => by
      by_cases h : j = i
      · subst h
        by_cases hl : j < st.length
        · rw [List.getElem?_set_self hl] at e; cases e; cases m
        · rw [List.getElem?_eq_none (by simpa using hl)] at e; cases e
      · rwa [List.getElem?_set_ne (Ne.symm h)] at e
    exact S.apart j k s t a (back h1 m1) (back h2 m2) m1 m2 h3 h4
  frame := S.frame
  newp := S.newp
  locks := S.locks
  lkin := S.lkin
  lent := S.lent
theorem Sim.start (S : Sim K Φ Pr st σ H) (m : Nat) : Sim K Φ Pr (st ++ List.replicate m .un) (σ ++ List.replicate m none) H where
  len := by simp [S.len]
  inn := S.inn
  le0 := S.le0
  slots := fun i s e => by
    by_cases hi : i < st.length
    · rw [List.getElem?_append_left hi] at e
      rw [List.getElem?_append_left (by rw [← S.len]; exact hi)]
      exact S.slots i s e
    · rw [List.getElem?_append_right (by omega)] at e
      rw [List.getElem?_append_right (by rw [← S.len]; omega)]
      rw [List.getElem?_replicate] at e
      split at e
      · rename_i h
        cases e
        rw [← S.len, List.getElem?_replicate, if_pos h]
        exact ⟨none, rfl, trivial⟩
      · cases e
  apart := fun i j s t a h1 h2 m1 m2 h3 h4 => by
    have back : ∀ {i : Nat} {s : Slot}, (st ++ List.replicate m .un)[i]? = some s → s.mut = true → st[i]? = some s ∧ i < st.length := fun {i s} e ms => by
      by_cases hi : i < st.length
      · rw [List.getElem?_append_left hi] at e; exact ⟨e, hi⟩
      · rw [List.getElem?_append_right (by omega), List.getElem?_replicate] at e
        split at e
        · cases e; cases ms
        · cases e
    obtain ⟨e1, l1⟩ := back h1 m1
    obtain ⟨e2, l2⟩ := back h2 m2
    rw [List.getElem?_append_left (by rw [← S.len]; exact l1)] at h3
    rw [List.getElem?_append_left (by rw [← S.len]; exact l2)] at h4
    exact S.apart i j s t a e1 e2 m1 m2 h3 h4
  frame := S.frame
  newp := S.newp
  locks := S.locks
  lkin := S.lkin
  lent := S.lent
end
def spF (K : PySem.W.Frag) (F : Fn) : Sp := fun vs H Q X => ∃ (Pr : Hp) (lk : List Addr) (bs : Nat → Option Addr) (args : List Slot), Sim K ⟨H, Pr, bs, lk⟩ Pr args (vs.map some) H ∧
  match F args with
  | .ret o fin => ∀ Pr' H' σ' v, Le Pr Pr' → Sim K ⟨H, Pr, bs, lk⟩ Pr' fin σ' H' → RepO K ⟨H, Pr, bs, lk⟩ Pr' H' fin σ' o v → Q v H'
  | .exc c d fin => ∀ Pr' H' σ' C dx v, Le Pr Pr' → Sim K ⟨H, Pr, bs, lk⟩ Pr' fin σ' H' → PySem.W.nsIn K mainGlobals c = some (some (.ref C)) → Pr' dx = some (.xd [("value", v)]) → Rep K Pr' d v → X (.ref C) (some dx) H'
  | .bad => False
section
variable {P : Program} {w : World} {K : PySem.W.Frag} {mg : Str → Option Value} {base : Heap}
theorem fn_ok {x qual : Str} {st : Stmt} {f : Addr} {fd : FuncData} {N ps : List Str} {n : Nat} {b : S} (F : Fun K x qual st f fd) (Sc : FnScope N ps (defScope st))
    (hb : ∀ X : Cx, ∀ E : XK, X.prog = P → X.w = w → X.K = K → X.mg = mg → X.base = base → X.N = N → X.calm = true → Room n X.A → X.env.scope = defScope st → (∀ y, X.fn y = true) → PassesOwn (model X.prog X.w) X.A X.env X.xe →
      Takes X (fun cls d _ H => E cls d H) → SSs X (fun cls d _ H => E cls d H) (defBody st) b) :
    FnOk P w K mg base (L2.CX P w) (n + 1) f fd ps (spF K (run ps.length N.length b)) := by
  refine F.okX Sc (fun vs H Q E h => ?_) (fun cdv A outer s H vs Q E hr h => ?_)
  · obtain ⟨Pr, lk, bs, args, S, h⟩ := h
    have : args.length = ps.length := by
      unfold run at h
      split at h
      · rename_i e
        split at e
        · assumption
        · cases e
      · rename_i e
        split at e
        · assumption
        · cases e
      · exact h.elim
    rw [← this, S.len, List.length_map]
  · obtain ⟨Pr, lk, bs, args, S, h⟩ := h
    have hlen : args.length = ps.length := by
      unfold run at h
      split at h
      · rename_i e
        split at e
        · assumption
        · cases e
      · rename_i e
        split at e
        · assumption
        · cases e
      · exact h.elim
    have hvs : vs.length = ps.length := by rw [← hlen, S.len, List.length_map]
    have body := hb (cxOf (L2.CX P w) P w K mg base N qual (defScope st) f cdv A outer s H E) E rfl rfl rfl rfl rfl rfl rfl hr rfl (fun _ => rfl) (passes_of (E₁ := fun e' s'' => L2.CX P w outer H s E e' s'') rfl) (takes_of rfl rfl rfl rfl)
    refine ⟨_, body.pss ⟨H, Pr, bs, lk⟩, Pr, args ++ List.replicate (N.length - ps.length) .un, ?_, ?_⟩
    · have := S.start (N.length - ps.length)
      unfold L2.start
      rw [hvs]
      exact this
    · unfold run at h
      rw [if_pos hlen] at h
      have tk : ∀ {Pr' : Hp} {st' : Sto} {σ' : L2.St} {H' : Hp}, Sim K ⟨H, Pr, bs, lk⟩ Pr' st' σ' H' → Sim K ⟨H, Pr, bs, lk⟩ Pr' (st'.take ps.length) (σ'.take ps.length) H' := fun S' => S'.takeN _
      cases e : b (args ++ List.replicate (N.length - ps.length) .un) with
      | nxt s1 =>
        rw [e] at h
        exact fun Pr' σ' H' l S' => h Pr' H' _ _ l (tk S') ro_non
      | ret o s1 =>
        rw [e] at h
        cases o with
        | val d => exact fun Pr' σ' H' v l S' rv => h Pr' H' _ v l (tk S') rv
        | own d =>
          refine fun Pr' σ' H' v l S' rv => h Pr' H' _ v l (tk S') ?_
          obtain ⟨a, ob, rfl, hn, h0, ha, hc, hf⟩ := rv
          refine ⟨a, ob, rfl, hn, h0, ha, hc, fun i t q m z => ?_⟩
          have hi : i < ps.length := by
            by_cases h : i < ps.length
            · exact h
            · rw [List.getElem?_take, if_neg h] at q; cases q
          rw [List.getElem?_take_of_lt hi] at q z
          exact hf i t q m z
        | slot i =>
          intro Pr' σ' H' v l S' rv
          obtain ⟨hv, t, ht, hm⟩ := rv
          simp only at h
          rw [ht] at h
          obtain ⟨ov, h1, h2⟩ := S'.slots i t ht
          rw [hv] at h1; cases h1
          cases t with
          | own d =>
            obtain ⟨a, ob, ea, hn, h0, ha, hc⟩ := h2
            cases ea
            refine h Pr' H' _ _ l (tk (S'.drop i)) ⟨a, ob, rfl, hn, h0, ha, hc, fun j t q m z => ?_⟩
            have hj : j < ps.length := by
              by_cases h : j < ps.length
              · exact h
              · rw [List.getElem?_take, if_neg h] at q; cases q
            rw [List.getElem?_take_of_lt hj] at q z
            by_cases ej : j = i
            · subst ej
              rw [List.getElem?_set_self (List.getElem?_eq_some_iff.mp ht).1] at q
              cases q; cases m
            · rw [List.getElem?_set_ne (Ne.symm ej)] at q
              exact ej (S'.apart j i t _ a q ht m rfl z hv)
          | par d =>
            obtain ⟨P2, w', le, S2, hw, r, _⟩ := S'.fzSlot ht rfl
            rw [hv] at hw; cases hw
            exact h P2 H' _ _ (l.trans le) (tk S2) r
          | un => cases hm
          | val _ => cases hm
          | pfr _ => cases hm
      | exc c d s1 =>
        rw [e] at h
        exact fun Pr' σ' H' C dx v l S' => h Pr' H' _ C dx v l (tk S')
      | brk s1 => rw [e] at h; exact h.elim
      | cnt s1 => rw [e] at h; exact h.elim
      | bad => rw [e] at h; exact h.elim
end
def ph1 : List Bool → List Opd → Sto → R (List Opd)
  | [], [], s => .ok [] s
  | m :: ms, o :: os, s => if m then (ph1 ms os s).bind fun r s1 => .ok (o :: r) s1
      else (takeO o s).bind fun d s1 => (ph1 ms os s1).bind fun r s2 => .ok (.val d :: r) s2
  | _, _, _ => .bad
def argOf (o : Opd) (s : Sto) : Option Slot := match o with
  | .val d => some (.val d)
  | .own d => some (.val d)
  | .slot i => match s[i]? with
    | some (.own d) => some (.par d)
    | some (.par d) => some (.par d)
    | some (.val d) => some (.val d)
    | some (.pfr d) => some (.val d)
    | _ => none
def ph2 : List Opd → Sto → Option (List Slot)
  | [], _ => some []
  | o :: os, s => (argOf o s).bind fun a => (ph2 os s).bind fun as => some (a :: as)
def lentOf : List Opd → List Nat
  | [] => []
  | .slot i :: os => i :: lentOf os
  | _ :: os => lentOf os
def back1 (o : Opd) (a f : Slot) (s : Sto) : Option Sto := match o, a, f with
  | .slot i, .par _, .par d => match s[i]? with
    | some t => some (s.set i (t.put d))
    | none => none
  | .slot i, .par _, .pfr d => match s[i]? with
    | some t => some (s.set i (t.put d).fz)
    | none => none
  | _, .par _, _ => none
  | _, _, _ => some s
def back : List Opd → List Slot → List Slot → Sto → Option Sto
  | [], [], [], s => some s
  | o :: os, a :: as, f :: fs, s => (back1 o a f s).bind fun s1 => back os as fs s1
  | _, _, _, _ => none
def callO (F : Fn) (os : List Opd) (s : Sto) : R Opd := if (lentOf os).Nodup then match ph2 os s with
    | some args => match F args with
      | .ret o fin => match o with
        | .slot _ => .bad
        | o => match back os args fin s with
          | some s1 => .ok o s1
          | none => .bad
      | .exc c v fin => match back os args fin s with
        | some s1 => .exc c v s1
        | none => .bad
      | .bad => .bad
    | none => .bad
  else .bad
def sCall (F : Fn) (ms : List Bool) (as : Ar) : E := fun s => (as s).bind fun os s1 => (ph1 ms os s1).bind fun os' s2 => callO F os' s2
end Dv
namespace Dv
open PySem L2
section
variable {X : Cx} {W : WX} {K : PySem.W.Frag} {Φ : Fr0} {Pr H : Hp} {st : Sto} {σ : L2.St}
def bsOf (args : List Slot) (vs : List V) (i : Nat) : Option Addr := match args[i]?, vs[i]? with
  | some (.par _), some (.ref a) => some a
  | _, _ => none
theorem bsOf_some {args : List Slot} {vs : List V} {i : Nat} {a : Addr} (h : bsOf args vs i = some a) : ∃ d, args[i]? = some (.par d) ∧ vs[i]? = some (.ref a) := by
  unfold bsOf at h
  split at h
  · rename_i h1 h2
    cases h
    exact ⟨_, h1, h2⟩
  · cases h
theorem kps_get {os : List Opd} {vs : List V} (h : Kps K Pr σ os vs) : ∀ {i : Nat} {v : V}, vs[i]? = some v → ∃ o, os[i]? = some o ∧ Kp K Pr σ o v := by
  induction h with
  | nil => intro i v e; simp at e
  | @cons o os v vs k _ ih =>
    intro i u e
    cases i with
    | zero => simp at e; subst e; exact ⟨o, by simp, k⟩
    | succ i => obtain ⟨o', h1, h2⟩ := ih (by simpa using e); exact ⟨o', by simpa using h1, h2⟩
theorem kps_len {os : List Opd} {vs : List V} (h : Kps K Pr σ os vs) : os.length = vs.length := by
  induction h with
  | nil => rfl
  | cons _ _ ih => simp [ih]
theorem ph2_get : ∀ {os : List Opd} {s : Sto} {as : List Slot} {i : Nat} {a : Slot}, ph2 os s = some as → as[i]? = some a → ∃ o, os[i]? = some o ∧ argOf o s = some a
  | [], s, as, i, a, h, e => by cases h; simp at e
  | o :: os, s, as, i, a, h, e => by
    unfold ph2 at h
    rw [Option.bind_eq_some_iff] at h
    obtain ⟨b, h1, h⟩ := h
    rw [Option.bind_eq_some_iff] at h
    obtain ⟨bs, h2, h⟩ := h
    cases h
    cases i with
    | zero => simp at e; subst e; exact ⟨o, by simp, h1⟩
    | succ i => obtain ⟨o', q1, q2⟩ := ph2_get h2 (by simpa using e); exact ⟨o', by simpa using q1, q2⟩
theorem ph2_len : ∀ {os : List Opd} {s : Sto} {as : List Slot}, ph2 os s = some as → as.length = os.length
  | [], s, as, h => by cases h; rfl
  | o :: os, s, as, h => by
    unfold ph2 at h
    rw [Option.bind_eq_some_iff] at h
    obtain ⟨b, h1, h⟩ := h
    rw [Option.bind_eq_some_iff] at h
    obtain ⟨bs, h2, h⟩ := h
    cases h
    simp [ph2_len h2]
theorem argOf_par {o : Opd} {s : Sto} {d : D} (h : argOf o s = some (.par d)) : ∃ i t, o = .slot i ∧ s[i]? = some t ∧ t.mut = true ∧ t.dat = some d := by
  cases o with
  | val _ => cases h
  | own _ => cases h
  | slot i =>
    unfold argOf at h
    simp only at h
    split at h
    · rename_i e; cases h; exact ⟨i, _, rfl, e, rfl, rfl⟩
    · rename_i e; cases h; exact ⟨i, _, rfl, e, rfl, rfl⟩
    · cases h
    · cases h
    · cases h
theorem argOf_kinds {o : Opd} {s : Sto} {a : Slot} (h : argOf o s = some a) : (∃ d, a = .val d) ∨ ∃ d, a = .par d := by
  cases o with
  | val _ => cases h; exact .inl ⟨_, rfl⟩
  | own _ => cases h; exact .inl ⟨_, rfl⟩
  | slot i =>
    unfold argOf at h
    simp only at h
    split at h <;> first | (cases h; exact .inl ⟨_, rfl⟩) | (cases h; exact .inr ⟨_, rfl⟩) | cases h
theorem argOf_val {o : Opd} {v : V} {d : D} (S : Sim K Φ Pr st σ H) (k : Kp K Pr σ o v) (h : argOf o st = some (.val d)) : Rep K Pr d v := by
  cases o with
  | val _ => cases h; exact k
  | own _ => cases h; exact k
  | slot i =>
    unfold argOf at h
    simp only at h
    have k' : σ[i]? = some (some v) := k
    split at h
    · cases h
    · cases h
    · rename_i e
      cases h
      obtain ⟨ov, h1, w, rfl, r⟩ := S.slots i _ e
      rw [k'] at h1; cases h1; exact r
    · rename_i e
      cases h
      obtain ⟨ov, h1, w, rfl, _, r⟩ := S.slots i _ e
      rw [k'] at h1; cases h1; exact r
    · cases h
theorem lentOf_get : ∀ {os : List Opd} {i j n m : Nat}, (lentOf os).Nodup → os[i]? = some (.slot n) → os[j]? = some (.slot n) → i = j
  | [], i, j, n, m, _, h, _ => by simp at h
  | o :: os, i, j, n, m, nd, h1, h2 => by
    have mem : ∀ {os : List Opd} {i n : Nat}, os[i]? = some (.slot n) → n ∈ lentOf os := by
      intro os
      induction os with
      | nil => intro i n h; simp at h
      | cons o os ih =>
        intro i n h
        cases i with
        | zero => simp at h; subst h; exact List.mem_cons_self
        | succ i =>
          have := ih (by simpa using h)
          cases o with
          | slot k => exact List.mem_cons_of_mem _ this
          | val _ => exact this
          | own _ => exact this
    have tl : (lentOf os).Nodup := by
      cases o with
      | slot k => exact (List.nodup_cons.mp nd).2
      | val _ => exact nd
      | own _ => exact nd
    cases i with
    | zero =>
      cases j with
      | zero => rfl
      | succ j =>
        simp at h1
        subst h1
        exact absurd (mem (by simpa using h2)) (List.nodup_cons.mp nd).1
    | succ i =>
      cases j with
      | zero =>
        simp at h2
        subst h2
        exact absurd (mem (by simpa using h1)) (List.nodup_cons.mp nd).1
      | succ j =>
        have := lentOf_get (m := m) tl (by simpa using h1) (by simpa using h2)
        omega
theorem entry {os : List Opd} {vs : List V} {args : List Slot} (S : Sim K Φ Pr st σ H) (ks : Kps K Pr σ os vs) (nd : (lentOf os).Nodup) (h : ph2 os st = some args) : Sim K ⟨H, Pr, bsOf args vs, Φ.lk⟩ Pr args (vs.map some) H where
  len := by rw [List.length_map, ph2_len h, kps_len ks]
  inn := S.inn
  le0 := Le.refl _
  slots := fun i s e => by
    obtain ⟨o, ho, ha⟩ := ph2_get h e
    have hv : ∃ v, vs[i]? = some v := by
      have hi : i < vs.length := by
        rw [← kps_len ks]
        exact (List.getElem?_eq_some_iff.mp ho).1
      exact ⟨_, List.getElem?_eq_getElem hi⟩
    obtain ⟨v, hv⟩ := hv
    obtain ⟨o', ho', k⟩ := kps_get ks hv
    rw [ho] at ho'; cases ho'
    refine ⟨some v, by rw [List.getElem?_map, hv]; rfl, ?_⟩
    rcases argOf_kinds ha with ⟨d, rfl⟩ | ⟨d, rfl⟩
    · exact ⟨v, rfl, argOf_val S k ha⟩
    · obtain ⟨j, t, rfl, ht, hm, hd⟩ := argOf_par ha
      obtain ⟨a, q1, q2⟩ := S.mutAt ht hm
      have k' : σ[j]? = some (some v) := k
      rw [k'] at q1; cases q1
      obtain ⟨hn, ⟨ob, hob⟩, _⟩ := q2.there hm
      refine ⟨a, ob, rfl, hn, (by show bsOf args vs i = some a; unfold bsOf; rw [e, hv]), hob, ?_⟩
      cases t with
      | own d' => cases hd; obtain ⟨b, u, eb, _, _, hu, c⟩ := q2; cases eb; rw [hob] at hu; cases hu; exact c
      | par d' => cases hd; obtain ⟨b, u, eb, _, _, hu, c⟩ := q2; cases eb; rw [hob] at hu; cases hu; exact c
      | un => cases hm
      | val _ => cases hm
      | pfr _ => cases hm
  apart := fun i j s t a h1 h2 m1 m2 h3 h4 => by
    obtain ⟨o1, ho1, ha1⟩ := ph2_get h h1
    obtain ⟨o2, ho2, ha2⟩ := ph2_get h h2
    have par : ∀ {o : Opd} {s : Slot}, argOf o st = some s → s.mut = true → ∃ j t, o = .slot j ∧ st[j]? = some t ∧ t.mut = true := fun {o s} ha m => by
      rcases argOf_kinds ha with ⟨d, rfl⟩ | ⟨d, rfl⟩
      · cases m
      · obtain ⟨j, t, e, ht, hm, _⟩ := argOf_par ha
        exact ⟨j, t, e, ht, hm⟩
    obtain ⟨n1, t1, rfl, ht1, hm1⟩ := par ha1 m1
    obtain ⟨n2, t2, rfl, ht2, hm2⟩ := par ha2 m2
    have val : ∀ {i n : Nat}, os[i]? = some (.slot n) → (vs.map some)[i]? = some (some (V.ref a)) → σ[n]? = some (some (V.ref a)) := fun {i n} ho hv => by
      rw [List.getElem?_map, Option.map_eq_some_iff] at hv
      obtain ⟨v, hv, e⟩ := hv
      cases e
      obtain ⟨o', ho', k⟩ := kps_get ks hv
      rw [ho] at ho'; cases ho'; exact k
    have := S.apart n1 n2 t1 t2 a ht1 ht2 hm1 hm2 (val ho1 h3) (val ho2 h4)
    subst this
    exact lentOf_get (m := 0) nd ho1 ho2
  frame := fun a o q _ => .inl q
  newp := fun a o q => .inl q
  locks := fun a ob o q => .inl q
  lkin := S.lkin
  lent := fun a ⟨i, e⟩ => by
    obtain ⟨d, e1, e2⟩ := bsOf_some e
    obtain ⟨o, ho, ha⟩ := ph2_get h e1
    obtain ⟨j, t, rfl, ht, hm, hd⟩ := argOf_par ha
    obtain ⟨o', ho', k⟩ := kps_get ks e2
    rw [ho] at ho'; cases ho'
    obtain ⟨a', q1, q2⟩ := S.mutAt ht hm
    have k' : σ[j]? = some (some (V.ref a)) := k
    rw [k'] at q1; cases q1
    exact (q2.there hm).2.1
theorem lent_slot {os : List Opd} {vs : List V} {args : List Slot} (S : Sim K Φ Pr st σ H) (ks : Kps K Pr σ os vs) (h : ph2 os st = some args) {i : Nat} {a : Addr} (e : bsOf args vs i = some a) :
    ∃ j t, os[i]? = some (.slot j) ∧ st[j]? = some t ∧ t.mut = true ∧ σ[j]? = some (some (V.ref a)) := by
  obtain ⟨d, e1, e2⟩ := bsOf_some e
  obtain ⟨o, ho, ha⟩ := ph2_get h e1
  obtain ⟨j, t, rfl, ht, hm, hd⟩ := argOf_par ha
  obtain ⟨o', ho', k⟩ := kps_get ks e2
  rw [ho] at ho'; cases ho'
  exact ⟨j, t, ho, ht, hm, k⟩
theorem back1_cases {o : Opd} {a f : Slot} {s s' : Sto} (h : back1 o a f s = some s') :
    ((∀ d, a ≠ .par d) ∧ s' = s) ∨ ∃ i t d0 d, o = .slot i ∧ a = .par d0 ∧ s[i]? = some t ∧ ((f = .par d ∧ s' = s.set i (t.put d)) ∨ (f = .pfr d ∧ s' = s.set i (t.put d).fz)) := by
  cases a with
  | par d0 =>
    right
    cases o with
    | val _ => cases h
    | own _ => cases h
    | slot i =>
      cases f with
      | par d =>
        unfold back1 at h
        simp only at h
        split at h
        · rename_i t ht; cases h; exact ⟨i, t, d0, d, rfl, rfl, ht, .inl ⟨rfl, rfl⟩⟩
        · cases h
      | pfr d =>
        unfold back1 at h
        simp only at h
        split at h
        · rename_i t ht; cases h; exact ⟨i, t, d0, d, rfl, rfl, ht, .inr ⟨rfl, rfl⟩⟩
        · cases h
      | un => cases h
      | val _ => cases h
      | own _ => cases h
  | un => left; exact ⟨(fun d e => (nomatch e)), by cases o <;> (cases h; rfl)⟩
  | val _ => left; exact ⟨(fun d e => (nomatch e)), by cases o <;> (cases h; rfl)⟩
  | own _ => left; exact ⟨(fun d e => (nomatch e)), by cases o <;> (cases h; rfl)⟩
  | pfr _ => left; exact ⟨(fun d e => (nomatch e)), by cases o <;> (cases h; rfl)⟩
theorem put_kind (t : Slot) (d : D) : (t.put d = .un ∧ t = .un) ∨ (∃ e, t = .val e ∧ t.put d = .val e) ∨ (∃ e, t = .own e ∧ t.put d = .own d) ∨ (∃ e, t = .par e ∧ t.put d = .par d) ∨ (∃ e, t = .pfr e ∧ t.put d = .pfr e) := by
  cases t with
  | un => exact .inl ⟨rfl, rfl⟩
  | val e => exact .inr (.inl ⟨e, rfl, rfl⟩)
  | own e => exact .inr (.inr (.inl ⟨e, rfl, rfl⟩))
  | par e => exact .inr (.inr (.inr (.inl ⟨e, rfl, rfl⟩)))
  | pfr e => exact .inr (.inr (.inr (.inr ⟨e, rfl, rfl⟩)))
end
end Dv
namespace Dv
open PySem L2
section
variable {X : Cx} {W : WX} {K : PySem.W.Frag} {Φ : Fr0} {Pr H : Hp} {st : Sto} {σ : L2.St}
structure Behind (os : List Opd) (args fin : List Slot) (s s' : Sto) : Prop where
  len : s'.length = s.length
  slot : ∀ (j : Nat) t', s'[j]? = some t' → ∃ t, s[j]? = some t ∧ ((t' = t ∧ ∀ (i : Nat) d, os[i]? = some (.slot j) → args[i]? ≠ some (.par d)) ∨
    ∃ (i : Nat) (d0 d : D), os[i]? = some (.slot j) ∧ args[i]? = some (.par d0) ∧ ((fin[i]? = some (.par d) ∧ t' = t.put d) ∨ (fin[i]? = some (.pfr d) ∧ t' = (t.put d).fz)))
theorem put_put (t : Slot) (d e : D) : (t.put d).put e = t.put e := by cases t <;> rfl
theorem back_of : ∀ {os : List Opd} {args fin : List Slot} {s s' : Sto}, (lentOf os).Nodup → back os args fin s = some s' → Behind os args fin s s' ∧ args.length = os.length ∧ fin.length = os.length
  | [], [], [], s, s', _, h => by
    cases h
    exact ⟨⟨rfl, fun j t' e => ⟨t', e, .inl ⟨rfl, fun i d q => by simp at q⟩⟩⟩, rfl, rfl⟩
  | o :: os, a :: as, f :: fs, s, s', nd, h => by
    unfold back at h
    rw [Option.bind_eq_some_iff] at h
    obtain ⟨s1, h1, h2⟩ := h
    have nd' : (lentOf os).Nodup := by
      cases o with
      | slot k => exact (List.nodup_cons.mp nd).2
      | val _ => exact nd
      | own _ => exact nd
    have notin : ∀ k, o = .slot k → ∀ i : Nat, os[i]? ≠ some (.slot k) := fun k e i q => by
      subst e
      have := lentOf_get (m := 0) nd (i := 0) (j := i + 1) (n := k) (by simp) (by simpa using q)
      omega
    obtain ⟨B, l1, l2⟩ := back_of nd' h2
    refine ⟨⟨?_, fun j t' e => ?_⟩, by simp [l1], by simp [l2]⟩
    · rw [B.len]
      rcases back1_cases h1 with ⟨_, rfl⟩ | ⟨i, t, d0, d, _, _, _, ⟨_, rfl⟩ | ⟨_, rfl⟩⟩
      · rfl
      · simp
      · simp
    · obtain ⟨t1, e1, hh⟩ := B.slot j t' e
      rcases back1_cases h1 with ⟨np, rfl⟩ | ⟨k, t, d0, d, rfl, rfl, ht, hs⟩
      · refine ⟨t1, e1, ?_⟩
        rcases hh with ⟨rfl, no⟩ | ⟨i, d0, d, q1, q2, q3⟩
        · refine .inl ⟨rfl, fun i d q => ?_⟩
          cases i with
          | zero => simp; exact np d
          | succ i => simpa using no i d (by simpa using q)
        · exact .inr ⟨i + 1, d0, d, by simpa using q1, by simpa using q2, by simpa using q3⟩
      · by_cases ej : j = k
        · subst ej
          have hj : j < s.length := (List.getElem?_eq_some_iff.mp ht).1
          refine ⟨t, ht, .inr ⟨0, d0, d, by simp, by simp, ?_⟩⟩
          have same : t' = t1 := by
            rcases hh with ⟨rfl, _⟩ | ⟨i, _, _, q1, _⟩
            · rfl
            · exact absurd q1 (notin j rfl i)
          subst same
          rcases hs with ⟨rfl, rfl⟩ | ⟨rfl, rfl⟩
          · rw [List.getElem?_set_self hj] at e1; cases e1
            exact .inl ⟨by simp, rfl⟩
          · rw [List.getElem?_set_self hj] at e1; cases e1
            exact .inr ⟨by simp, rfl⟩
        · have e1' : s[j]? = some t1 := by
            rcases hs with ⟨rfl, rfl⟩ | ⟨rfl, rfl⟩
            · rwa [List.getElem?_set_ne (Ne.symm ej)] at e1
            · rwa [List.getElem?_set_ne (Ne.symm ej)] at e1
          refine ⟨t1, e1', ?_⟩
          rcases hh with ⟨rfl, no⟩ | ⟨i, d0', d', q1, q2, q3⟩
          · refine .inl ⟨rfl, fun i d' q => ?_⟩
            cases i with
            | zero => simp at q; exact absurd q.symm ej
            | succ i => simpa using no i d' (by simpa using q)
          · exact .inr ⟨i + 1, d0', d', by simpa using q1, by simpa using q2, by simpa using q3⟩
  | [], [], f :: fs, s, s', _, h => by cases h
  | [], a :: as, fs, s, s', _, h => by cases fs <;> cases h
  | o :: os, [], fs, s, s', _, h => by cases fs <;> cases h
  | o :: os, a :: as, [], s, s', _, h => by cases h
theorem behind {os : List Opd} {vs : List V} {args fin : List Slot} {Pr' H' : Hp} {σ' : L2.St} {st' : Sto} (S : Sim K Φ Pr st σ H) (ks : Kps K Pr σ os vs) (nd : (lentOf os).Nodup) (h : ph2 os st = some args)
    (le : Le Pr Pr') (C : Sim K ⟨H, Pr, bsOf args vs, Φ.lk⟩ Pr' fin σ' H') (B : Behind os args fin st st') : Sim K Φ Pr' st' σ H' := by
  have lentM : ∀ {a : Addr}, (⟨H, Pr, bsOf args vs, Φ.lk⟩ : Fr0).Lent a → Pr a = none ∧ (Φ.H0 a = none ∨ Φ.Lent a) := fun {a} ⟨i, e⟩ => by
    obtain ⟨j, t, _, ht, hm, hj⟩ := lent_slot S ks h e
    obtain ⟨a', q1, q2⟩ := S.mutAt ht hm
    rw [hj] at q1; cases q1
    obtain ⟨q3, _, q4⟩ := q2.there hm
    exact ⟨q3, q4⟩
  -- a slot's own thing that was not lent is as it was
  have kept : ∀ {j : Nat} {t : Slot} {a : Addr} {o : HO}, st[j]? = some t → t.mut = true → σ[j]? = some (some (V.ref a)) → (∀ (i : Nat) d, os[i]? = some (.slot j) → args[i]? ≠ some (.par d)) → H a = some o → (∀ ob u, o ≠ .frz ob u) →
      H' a = some o ∧ Pr' a = none := fun {j t a o} ht hm hj no ho hf => by
    have hn : Pr a = none := by
      obtain ⟨a', q1, q2⟩ := S.mutAt ht hm
      rw [hj] at q1; cases q1
      exact (q2.there hm).1
    have nl : ¬ (⟨H, Pr, bsOf args vs, Φ.lk⟩ : Fr0).Lent a := fun ⟨i, e⟩ => by
      obtain ⟨j', t', ho', ht', hm', hj'⟩ := lent_slot S ks h e
      have := S.apart j j' t t' a ht ht' hm hm' hj hj'
      subst this
      obtain ⟨d, e1, _⟩ := bsOf_some e
      exact no i d ho' e1
    refine ⟨?_, ?_⟩
    · rcases C.frame a o ho nl with q | ⟨m, _, ob, q⟩
      · exact q
      · obtain ⟨u, z⟩ := S.lkin a m
        rw [hn] at z; cases z
    · cases e : Pr' a with
      | none => rfl
      | some u =>
        rcases C.newp a u e with q | q | q
        · rw [show Pr a = some u from q] at hn; cases hn
        · rw [show H a = none from q] at ho; cases ho
        · exact absurd q nl
  -- what was lent, by the callee
  have lentAt : ∀ {j i : Nat} {t : Slot} {d0 : D}, st[j]? = some t → os[i]? = some (.slot j) → args[i]? = some (.par d0) → ∃ a, t.mut = true ∧ σ[j]? = some (some (V.ref a)) ∧ bsOf args vs i = some a ∧ SlotOk K Φ Pr H j t (some (.ref a)) := fun {j i t d0} ht ho ha => by
    obtain ⟨o, ho', hp⟩ := ph2_get h ha
    rw [ho] at ho'; cases ho'
    obtain ⟨j', t', e, ht', hm, hd⟩ := argOf_par hp
    cases e
    rw [ht] at ht'; cases ht'
    obtain ⟨a, q1, q2⟩ := S.mutAt ht hm
    have hv : ∃ v, vs[i]? = some v := ⟨_, List.getElem?_eq_getElem (by rw [← kps_len ks]; exact (List.getElem?_eq_some_iff.mp ho).1)⟩
    obtain ⟨v, hv⟩ := hv
    obtain ⟨o', ho2, k⟩ := kps_get ks hv
    rw [ho] at ho2; cases ho2
    have k' : σ[j]? = some (some v) := k
    rw [q1] at k'; cases k'
    exact ⟨a, hm, q1, by unfold bsOf; rw [ha, hv], q2⟩
  have mutBack : ∀ {j : Nat} {t' : Slot}, st'[j]? = some t' → t'.mut = true → ∃ t, st[j]? = some t ∧ t.mut = true := fun {j t'} e m => by
    obtain ⟨t, ht, hh⟩ := B.slot j t' e
    refine ⟨t, ht, ?_⟩
    rcases hh with ⟨rfl, _⟩ | ⟨i, d0, d, _, _, ⟨_, rfl⟩ | ⟨_, rfl⟩⟩
    · exact m
    · rwa [Slot.put_mut] at m
    · rw [Slot.fz_mut] at m; cases m
  refine ⟨by rw [B.len, S.len], C.inn, S.le0.trans le, fun j t' e => ?_, fun i j s t a h1 h2 m1 m2 h3 h4 => ?_, fun a o q n => ?_, fun a o q => ?_, fun a ob o q => ?_, fun a m => (S.lkin a m).imp fun u q => le _ _ q, fun a q => ?_⟩
  · obtain ⟨t, ht, hh⟩ := B.slot j t' e
    obtain ⟨ov, h1, h2⟩ := S.slots j t ht
    refine ⟨ov, h1, ?_⟩
    rcases hh with ⟨rfl, no⟩ | ⟨i, d0, d, q1, q2, q3⟩
    · cases t' with
      | un => trivial
      | val d =>
        obtain ⟨v, rfl, r⟩ := h2
        exact ⟨v, rfl, r.mono le⟩
      | own d =>
        obtain ⟨a, o, rfl, p1, p2, p3, p4⟩ := h2
        obtain ⟨k1, k2⟩ := kept ht rfl h1 no p3 p4.nofrz
        exact ⟨a, o, rfl, k2, p2, k1, p4.mono le⟩
      | par d =>
        obtain ⟨a, o, rfl, p1, p2, p3, p4⟩ := h2
        obtain ⟨k1, k2⟩ := kept ht rfl h1 no p3 p4.nofrz
        exact ⟨a, o, rfl, k2, p2, k1, p4.mono le⟩
      | pfr d =>
        obtain ⟨a, rfl, p1, p2⟩ := h2
        exact ⟨a, rfl, p1, p2.mono le⟩
    · obtain ⟨a, hm, hj, hb, _⟩ := lentAt ht q1 q2
      rw [hj] at h1; cases h1
      rcases q3 with ⟨hf, rfl⟩ | ⟨hf, rfl⟩
      · obtain ⟨ov2, g1, g2⟩ := C.slots i _ hf
        obtain ⟨a2, o2, rfl, p1, p2, p3, p4⟩ := g2
        have p2' : bsOf args vs i = some a2 := p2
        rw [hb] at p2'; cases p2'
        cases t with
        | own d' =>
          obtain ⟨b, u, eb, r1, r2, _⟩ := h2
          cases eb
          exact ⟨a, o2, rfl, p1, r2, p3, p4⟩
        | par d' =>
          obtain ⟨b, u, eb, r1, r2, _⟩ := h2
          cases eb
          exact ⟨a, o2, rfl, p1, r2, p3, p4⟩
        | un => cases hm
        | val _ => cases hm
        | pfr _ => cases hm
      · obtain ⟨ov2, g1, g2⟩ := C.slots i _ hf
        obtain ⟨a2, rfl, p1, p2⟩ := g2
        have p1' : bsOf args vs i = some a2 := p1
        rw [hb] at p1'; cases p1'
        cases t with
        | own d' => exact ⟨_, rfl, p2⟩
        | par d' =>
          obtain ⟨b, u, eb, r1, r2, _⟩ := h2
          cases eb
          exact ⟨a, rfl, r2, p2⟩
        | un => cases hm
        | val _ => cases hm
        | pfr _ => cases hm
  · obtain ⟨t1, g1, g2⟩ := mutBack h1 m1
    obtain ⟨t2, g3, g4⟩ := mutBack h2 m2
    exact S.apart i j t1 t2 a g1 g3 g2 g4 h3 h4
  · have nl : ¬ (⟨H, Pr, bsOf args vs, Φ.lk⟩ : Fr0).Lent a := fun z => by
      rcases (lentM z).2 with y | y
      · rw [y] at q; cases q
      · exact n y
    rcases S.frame a o q n with y | ⟨m, d, ob, y⟩
    · exact C.frame a o y nl
    · have := C.frame a _ y nl
      exact .inr ⟨m, d, ob, this.frz⟩
  · rcases C.newp a o q with y | y | y
    · exact S.newp a o y
    · refine .inr (.inl ?_)
      cases e : Φ.H0 a with
      | none => rfl
      | some u =>
        have y' : H a = none := y
        by_cases n : Φ.Lent a
        · obtain ⟨u', z⟩ := S.lent a n
          rw [y'] at z; cases z
        · obtain ⟨u', z⟩ := (S.frame a u e n).there
          rw [y'] at z; cases z
    · exact .inr (lentM y).2
  · rcases C.locks a ob o q with y | y
    · exact S.locks a ob o y
    · exact .inr y
  · obtain ⟨o, y⟩ := S.lent a q
    by_cases z : (⟨H, Pr, bsOf args vs, Φ.lk⟩ : Fr0).Lent a
    · exact C.lent a z
    · exact (C.frame a o y z).there
theorem ph1_cases : ∀ (ms : List Bool) (os : List Opd) (s : Sto), (∃ r s', ph1 ms os s = .ok r s') ∨ ph1 ms os s = .bad
  | [], [], s => .inl ⟨_, _, rfl⟩
  | [], o :: os, s => .inr rfl
  | m :: ms, [], s => .inr rfl
  | m :: ms, o :: os, s => by
    unfold ph1
    cases m with
    | true =>
      simp only [if_true]
      rcases ph1_cases ms os s with ⟨r, s', e⟩ | e
      · rw [e]; exact .inl ⟨_, _, rfl⟩
      · rw [e]; exact .inr rfl
    | false =>
      simp only [Bool.false_eq_true, if_false]
      rcases take_cases o s with ⟨d, s1, e1⟩ | e1
      · rw [e1]
        simp only [R.bind_ok]
        rcases ph1_cases ms os s1 with ⟨r, s', e⟩ | e
        · rw [e]; exact .inl ⟨_, _, rfl⟩
        · rw [e]; exact .inr rfl
      · rw [e1]; exact .inr rfl
theorem ph1_of {ms : List Bool} : ∀ {os : List Opd} {vs : List V} {Pr : Hp} {st : Sto} {r : List Opd} {st' : Sto}, Sim K Φ Pr st σ H → Kps K Pr σ os vs → ph1 ms os st = .ok r st' → ∃ Pr', Le Pr Pr' ∧ Sim K Φ Pr' st' σ H ∧ Kps K Pr' σ r vs := by
  induction ms with
  | nil =>
    intro os vs Pr st r st' S ks h
    cases ks with
    | nil => cases h; exact ⟨Pr, Le.refl _, S, .nil⟩
    | cons _ _ => cases h
  | cons m ms ih =>
    intro os vs Pr st r st' S ks h
    cases ks with
    | nil => cases h
    | @cons o os v vs k kos =>
      unfold ph1 at h
      cases m with
      | true =>
        simp only [if_true] at h
        rcases ph1_cases ms os st with ⟨r1, s1, e⟩ | e
        · rw [e] at h; cases h
          obtain ⟨P1, l1, S1, k1⟩ := ih S kos e
          exact ⟨P1, l1, S1, .cons (k.mono l1) k1⟩
        · rw [e] at h; cases h
      | false =>
        simp only [Bool.false_eq_true, if_false] at h
        rcases take_cases o st with ⟨d, s1, e1⟩ | e1
        · rw [e1] at h
          simp only [R.bind_ok] at h
          have one : ∃ P1, Le Pr P1 ∧ Sim K Φ P1 s1 σ H ∧ Rep K P1 d v := by
            cases o with
            | val c => cases e1; exact ⟨Pr, Le.refl _, S, k⟩
            | own c => cases e1; exact ⟨Pr, Le.refl _, S, k⟩
            | slot i =>
              have e : fzAt st i = .ok d s1 := e1
              unfold fzAt at e
              split at e
              · rename_i s hs
                split at e
                · rename_i c hc
                  cases e
                  obtain ⟨Pr', w, le, S', hw, r, _⟩ := S.fzSlot hs hc
                  have h' : σ[i]? = some (some v) := k
                  rw [h'] at hw; cases hw
                  exact ⟨Pr', le, S', r⟩
                · cases e
              · cases e
          obtain ⟨P1, l1, S1, r1⟩ := one
          rcases ph1_cases ms os s1 with ⟨r2, s2, e⟩ | e
          · rw [e] at h; cases h
            obtain ⟨P2, l2, S2, k2⟩ := ih S1 (kos.mono l1) e
            exact ⟨P2, l1.trans l2, S2, .cons (show Kp K P2 σ (.val d) v from Rep.mono l2 d r1) k2⟩
          · rw [e] at h; cases h
        · rw [e1] at h; cases h
theorem call_of {F : Fn} {os : List Opd} {vs : List V} {Q : VK} (S : Sim X.K Φ Pr st σ H) (ks : Kps X.K Pr σ os vs)
    (h : Aft X Φ W Pr σ (callO F os st) fun o st' Pr' H' => ∀ v, RepO X.K Φ Pr' H' st' σ o v → Q v H') : spF X.K F vs H Q (WE W σ) := by
  unfold callO at h
  by_cases nd : (lentOf os).Nodup
  · rw [if_pos nd] at h
    cases e : ph2 os st with
    | none => rw [e] at h; exact h.elim
    | some args =>
      rw [e] at h
      simp only at h
      refine ⟨Pr, Φ.lk, bsOf args vs, args, entry S ks nd e, ?_⟩
      cases e2 : F args with
      | bad => rw [e2] at h; exact h.elim
      | ret o fin =>
        rw [e2] at h
        simp only at h ⊢
        cases o with
        | slot i => exact h.elim
        | val d =>
          simp only at h
          cases e3 : back os args fin st with
          | none => rw [e3] at h; exact h.elim
          | some st' =>
            rw [e3] at h
            exact fun Pr' H' σ' v le C rv => h Pr' H' le (behind S ks nd e le C (back_of nd e3).1) v rv
        | own d =>
          simp only at h
          cases e3 : back os args fin st with
          | none => rw [e3] at h; exact h.elim
          | some st' =>
            rw [e3] at h
            intro Pr' H' σ' v le C rv
            have S' := behind S ks nd e le C (back_of nd e3).1
            refine h Pr' H' le S' v ?_
            obtain ⟨a, ob, rfl, hn, h0, ha, hc, hf⟩ := rv
            have h0' : H a = none := h0
            refine ⟨a, ob, rfl, hn, (S.fresh h0').2.1, ha, hc, fun i t ht m z => ?_⟩
            obtain ⟨t0, q1, q2⟩ := (back_of nd e3).1.slot i t ht
            have hm : t0.mut = true := by
              rcases q2 with ⟨rfl, _⟩ | ⟨_, _, _, _, _, ⟨_, rfl⟩ | ⟨_, rfl⟩⟩
              · exact m
              · rwa [Slot.put_mut] at m
              · rw [Slot.fz_mut] at m; cases m
            obtain ⟨a', g1, g2⟩ := S.mutAt q1 hm
            rw [z] at g1; cases g1
            obtain ⟨_, ⟨u, g3⟩, _⟩ := g2.there hm
            rw [h0'] at g3; cases g3
      | exc c d fin =>
        rw [e2] at h
        simp only at h ⊢
        cases e3 : back os args fin st with
        | none => rw [e3] at h; exact h.elim
        | some st' =>
          rw [e3] at h
          exact fun Pr' H' σ' C dx v le Sc => h Pr' H' C dx v le (behind S ks nd e le Sc (back_of nd e3).1)
  · rw [if_neg nd] at h; exact h.elim
theorem se_call {n : Nat} {f : Addr} {fd : FuncData} {ps : List Str} {F : Fn} {x : Str} {p pos : Pos} {e : Expr} {es : List Expr} {fs : Ar} (ms : List Bool) (Fk : FnOk X.prog X.w X.K X.mg X.base (L2.CX X.prog X.w) n f fd ps (spF X.K F)) (hr : Room n X.A) (hg : Gl X x) (hm : X.mg x = some (.ref f))
    (hk : PySem.W.keepIn X.K (.ref f) = true) (hb : Binds X.K fd ps []) (tk : Takes X W) (ha : SA X W (e :: es) fs) (hdb : (x == ("__debug__" : Str)) = false := by decide)
    (he : starEach (e :: es) X.env = (false, eval e X.env) :: starEach es X.env := by rfl) (hpl : (backTo pos (starEach es X.env)).any (·.1) = false := by rfl) : SE X W (.Call (.Name x p) (e :: es) [] pos) (sCall F ms fs) := by
  refine ⟨fun Φ => peImp (pe_callS Fk hr hg hm hk hb (fun σ => passAt tk σ) (ha.pa Φ) hdb he hpl) fun σ H Q h => ?_⟩
  obtain ⟨Pr, st, S, h⟩ := h
  refine ⟨Pr, st, S, h.bind.imp fun os s1 P1 H1 l1 S1 h1 P2 vs l2 S2 ks => ?_⟩
  have h1 := h1.mono l2
  rcases ph1_cases ms os s1 with ⟨r, s2, e⟩ | e
  · rw [e] at h1
    obtain ⟨P3, l3, S3, k3⟩ := ph1_of S2 ks e
    exact call_of S3 k3 (Aft.mono (show Aft X Φ W P2 σ (callO F r s2) _ from h1) l3)
  · rw [e] at h1; exact h1.elim
end
end Dv
namespace Dv
open PySem L2 PySem.Spec PyProof.Rows
def mutO (i : Nat) (F : D → List D → Option (D × D)) (ds : List D) (s : Sto) : R Opd := match s[i]? with
  | some t => if t.mut then match t.dat.bind fun c => F c ds with
      | some (c, d) => .ok (.val d) (s.set i (t.put c))
      | none => .bad
    else .bad
  | none => .bad
def isL : D → Bool
  | .lst _ => true
  | _ => false
def sMut (i : Nat) (F : D → List D → Option (D × D)) (as : Ar) : E := fun s => match datAt s i with
  | some c => if isL c then (as s).bind fun os s1 => (takeAll os s1).bind fun ds s2 => mutO i F ds s2 else .bad
  | none => .bad
def fAppend : D → List D → Option (D × D)
  | .lst l, [d] => if l.length < LIM then some (.lst (l ++ [d]), .non) else none
  | _, _ => none
def fExtend : D → List D → Option (D × D)
  | .lst l, [.lst m] => if l.length + m.length ≤ LIM then some (.lst (l ++ m), .non) else none
  | _, _ => none
def fPop : D → List D → Option (D × D)
  | .lst l, [] => match l[l.length - 1]? with
    | some d => some (.lst l.dropLast, d)
    | none => none
  | _, _ => none
def fPopAt : D → List D → Option (D × D)
  | .lst l, [.int i] => if -B63 ≤ i ∧ i < B63 then match seqIndex? i l.length with
      | some k => match l[k]? with
        | some d => some (.lst (l.eraseIdx k), d)
        | none => none
      | none => none
    else none
  | _, _ => none
def fReverse : D → List D → Option (D × D)
  | .lst l, [] => some (.lst l.reverse, .non)
  | _, _ => none
def setO (i : Nat) (k : Option D) (d : D) (s : Sto) : Out := match s[i]? with
  | some t => if t.mut then match t.dat, k with
      | some (.lst l), some (.int j) => match ixN l.length j with
        | some m => .nxt (s.set i (t.put (.lst (l.set m d))))
        | none => .bad
      | _, _ => .bad
    else .bad
  | none => .bad
def sSet (i : Nat) (ix e : E) : S := fun s => kR (e s) fun oe s1 => match datAt s1 i with
  | some c => if isL c then kR (ix s1) fun oi s2 => kR (takeO oe s2) fun d s3 => setO i (peek oi s3) d s3 else .bad
  | none => .bad
section
variable {X : Cx} {W : WX}
theorem Reps.dropLast {K : PySem.W.Frag} {Pr : Hp} : ∀ {l : List D} {xs : List V}, Reps K Pr l xs → Reps K Pr l.dropLast xs.dropLast := fun {l xs} r => by
  rw [List.dropLast_eq_take, List.dropLast_eq_take, r.length]
  exact r.take _
theorem Reps.eraseIdx {K : PySem.W.Frag} {Pr : Hp} : ∀ {l : List D} {xs : List V} (k : Nat), Reps K Pr l xs → Reps K Pr (l.eraseIdx k) (xs.eraseIdx k)
  | [], xs, k, r => by unfold Reps at r; subst r; simpa using Reps.nil
  | d :: l, xs, 0, r => by
    unfold Reps at r
    obtain ⟨x, t, rfl, _, r2⟩ := r
    simpa using r2
  | d :: l, xs, k + 1, r => by
    unfold Reps at r
    obtain ⟨x, t, rfl, r1, r2⟩ := r
    simpa using Reps.cons r1 (Reps.eraseIdx k r2)
def MtS (X : Cx) (r : V → List V → Hp → VK → Prop) (F : D → List D → Option (D × D)) : Prop :=
  ∀ Φ Pr st σ H a xs l ds vs c d Q, Sim X.K Φ Pr st σ H → H a = some (.lst xs) → Reps X.K Pr l xs → Reps X.K Pr ds vs → F (.lst l) ds = some (c, d) →
    (∀ o v, Cont X.K Pr o c → Rep X.K Pr d v → Q v (upd H a o)) → r (.ref a) vs H Q
theorem reps1 {K : PySem.W.Frag} {Pr : Hp} {d : D} {vs : List V} (r : Reps K Pr [d] vs) : ∃ v, vs = [v] ∧ Rep K Pr d v := by
  unfold Reps at r
  obtain ⟨x, t, rfl, r1, r2⟩ := r
  unfold Reps at r2
  subst r2
  exact ⟨x, rfl, r1⟩
theorem reps0 {K : PySem.W.Frag} {Pr : Hp} {vs : List V} (r : Reps K Pr [] vs) : vs = [] := by unfold Reps at r; exact r
theorem ms_append : MtS X rAppend fAppend := by
  intro Φ Pr st σ H a xs l ds vs c d Q S ha r rs e q
  unfold fAppend at e
  split at e
  · rename_i l' d' el
    cases el
    split at e
    · rename_i hl
      cases e
      obtain ⟨v, rfl, rv⟩ := reps1 rs
      exact ⟨a, xs, v, rfl, rfl, ha, by rw [lim_eq, r.length]; exact hl, q (.lst _) _ (show Reps _ _ _ _ from Reps.append r (Reps.one rv)) rep_non⟩
    · cases e
  · cases e
theorem ms_pop : MtS X rPop fPop := by
  intro Φ Pr st σ H a xs l ds vs c d Q S ha r rs e q
  unfold fPop at e
  split at e
  · rename_i l' el
    cases el
    split at e
    · rename_i d' hd
      cases e
      have := reps0 rs
      subst this
      rw [← r.length] at hd
      obtain ⟨v, hv, rv⟩ := r.get hd
      exact ⟨a, xs, v, rfl, rfl, ha, hv, q (.lst _) _ (show Reps _ _ _ _ from r.dropLast) rv⟩
    · cases e
  · cases e
theorem ms_popAt : MtS X rPopAt fPopAt := by
  intro Φ Pr st σ H a xs l ds vs c d Q S ha r rs e q
  unfold fPopAt at e
  split at e
  · rename_i l' i el
    cases el
    split at e
    · rename_i hi
      split at e
      · rename_i k hk
        split at e
        · rename_i d' hd
          cases e
          obtain ⟨v, rfl, rv⟩ := reps1 rs
          unfold Rep at rv
          subst rv
          obtain ⟨w, hw, rw'⟩ := r.get hd
          rw [B63_eq] at hi
          exact ⟨a, xs, i, k, w, rfl, rfl, ha, hi.1, hi.2, by rw [r.length]; exact hk, hw, q (.lst _) _ (show Reps _ _ _ _ from r.eraseIdx k) rw'⟩
        · cases e
      · cases e
    · cases e
  · cases e
theorem ms_reverse : MtS X rReverse fReverse := by
  intro Φ Pr st σ H a xs l ds vs c d Q S ha r rs e q
  unfold fReverse at e
  split at e
  · rename_i l' el
    cases el
    cases e
    have := reps0 rs
    subst this
    exact ⟨a, xs, rfl, rfl, ha, q (.lst _) _ (show Reps _ _ _ _ from r.reverse) rep_non⟩
  · cases e
def rExtendR : V → List V → Hp → VK → Prop := fun x vs H Q => ∃ l b xs zs, x = .ref l ∧ vs = [.ref b] ∧ H l = some (.lst xs) ∧ Rd H b (.lst zs) ∧ xs.length + zs.length ≤ sizeLine ∧ Q .non (upd H l (.lst (xs ++ zs)))
theorem mt_extendR : MtM X "list.extend" rExtendR := by
  intro pins s σ H x vs v us Q I rx rv h
  obtain ⟨l, b, xs, zs, rfl, rfl, hH, hB, hz, q⟩ := h
  cases rx
  obtain ⟨u, rfl, ru⟩ := rv.one
  cases ru
  obtain ⟨z, its, n, r, hl, e⟩ := I.lstM hH
  obtain ⟨z2, its2, n2, r2, e2⟩ : ObjOk X.prog X.w H s.heap b (.lst zs) := hB.ok I.hok
  have hl2 := r2.length
  have hsz : its.toArray.size + its2.toArray.size ≤ sizeLine := by rw [List.size_toArray, List.size_toArray]; omega
  have hlong : ¬ (!its.toArray.isEmpty && Builtin.List.listTooLong (its.toArray.size + its2.toArray.size)) = true := by
    rw [notLongL hsz, Bool.and_false]
    exact Bool.false_ne_true
  refine call_meets F.slot_list_extend ⟨_, e, rfl⟩ F.entry_list_extend (F.args_list_extend_2 _ _)
    (AutoSeq1.list_extend_list_list_0 l its.toArray n b its2.toArray n2 hlong (by rw [List.size_toArray]; omega) (by omega)) ⟨e, e2, ?_⟩
  refine ⟨.non, _, I.lset (its' := its ++ its2) hH e (by simp) (r.append r2) ?_, rfl, q⟩
  rw [List.length_append]
  omega
theorem ms_extend : MtS X rExtendR fExtend := by
  intro Φ Pr st σ H a xs l ds vs c d Q S ha r rs e q
  unfold fExtend at e
  split at e
  · rename_i l' m el
    cases el
    split at e
    · rename_i hl
      cases e
      obtain ⟨v, rfl, rv⟩ := reps1 rs
      unfold Rep at rv
      obtain ⟨b, zs, rfl, q2, r2⟩ := rv
      exact ⟨a, b, xs, zs, rfl, rfl, ha, S.rdL q2, by rw [lim_eq, r.length, r2.length]; exact hl, q (.lst _) _ (show Reps _ _ _ _ from Reps.append r r2) rep_non⟩
    · cases e
  · cases e
theorem mutO_of {Φ : Fr0} {Pr H : Hp} {st : Sto} {σ : L2.St} {i : Nat} {F : D → List D → Option (D × D)} {ds : List D} {vs : List V} {a : Addr} {r : V → List V → Hp → VK → Prop} {Q : VK} (S : Sim X.K Φ Pr st σ H) (rs : Reps X.K Pr ds vs)
    (ms : MtS X r F) (ha : σ[i]? = some (some (V.ref a))) (hF : ∀ c ds x, F c ds = some x → isL c = true)
    (h : Aft X Φ W Pr σ (mutO i F ds st) fun o st' Pr' H' => ∀ v, RepO X.K Φ Pr' H' st' σ o v → Q v H') : r (.ref a) vs H Q := by
  unfold mutO at h
  split at h
  · rename_i t ht
    split at h
    · rename_i hm
      split at h
      · rename_i c d hc
        rw [Option.bind_eq_some_iff] at hc
        obtain ⟨c0, h0, hc⟩ := hc
        have hl := hF _ _ _ hc
        obtain ⟨a', q1, q2⟩ := S.mutAt ht hm
        rw [ha] at q1; cases q1
        cases c0 with
        | lst l =>
          have hx : ∃ xs, H a = some (.lst xs) ∧ Reps X.K Pr l xs := by
            cases t with
            | own d' =>
              cases h0
              obtain ⟨b, o, eb, _, _, ho, c1⟩ := q2
              cases eb
              cases o with
              | lst xs => exact ⟨xs, ho, c1⟩
              | _ => exact absurd c1 id
            | par d' =>
              cases h0
              obtain ⟨b, o, eb, _, _, ho, c1⟩ := q2
              cases eb
              cases o with
              | lst xs => exact ⟨xs, ho, c1⟩
              | _ => exact absurd c1 id
            | un => cases hm
            | val _ => cases hm
            | pfr _ => cases hm
          obtain ⟨xs, hx, rx⟩ := hx
          refine ms Φ Pr st σ H a xs l ds vs c d Q S hx rx rs hc fun o v co rv => ?_
          exact h Pr _ (Le.refl _) (S.change ht hm ha co) v rv
        | _ => cases hl
      · exact h.elim
    · exact h.elim
  · exact h.elim
theorem fAppend_l : ∀ c ds x, fAppend c ds = some x → isL c = true := fun c ds x h => by unfold fAppend at h; split at h <;> first | rfl | cases h
theorem fPop_l : ∀ c ds x, fPop c ds = some x → isL c = true := fun c ds x h => by unfold fPop at h; split at h <;> first | rfl | cases h
theorem fPopAt_l : ∀ c ds x, fPopAt c ds = some x → isL c = true := fun c ds x h => by unfold fPopAt at h; split at h <;> first | rfl | cases h
theorem fReverse_l : ∀ c ds x, fReverse c ds = some x → isL c = true := fun c ds x h => by unfold fReverse at h; split at h <;> first | rfl | cases h
theorem fExtend_l : ∀ c ds x, fExtend c ds = some x → isL c = true := fun c ds x h => by unfold fExtend at h; split at h <;> first | rfl | cases h
theorem slotL {Φ : Fr0} {Pr H : Hp} {st : Sto} {σ : L2.St} {i : Nat} {c : D} (S : Sim X.K Φ Pr st σ H) (e : datAt st i = some c) (hl : isL c = true) : ∃ a xs, σ[i]? = some (some (V.ref a)) ∧ SqL X.K H a xs := by
  unfold datAt at e
  split at e
  · rename_i t ht
    obtain ⟨ov, h1, h2⟩ := S.slots i t ht
    cases c with
    | lst l =>
      have pk : ∃ v, ov = some v ∧ Pk X.K Pr H (.lst l) v := by
        cases t with
        | un => cases e
        | val d => obtain ⟨v, rfl, r⟩ := h2; cases e; exact ⟨v, rfl, .inl r⟩
        | own d => obtain ⟨a, o, rfl, _, _, ha, hc⟩ := h2; cases e; exact ⟨_, rfl, .inr ⟨a, o, rfl, ha, hc⟩⟩
        | par d => obtain ⟨a, o, rfl, _, _, ha, hc⟩ := h2; cases e; exact ⟨_, rfl, .inr ⟨a, o, rfl, ha, hc⟩⟩
        | pfr d => obtain ⟨a, rfl, _, r⟩ := h2; cases e; exact ⟨_, rfl, .inl r⟩
      obtain ⟨v, rfl, pk⟩ := pk
      obtain ⟨a, xs, rfl, q, r⟩ := pk.lst S
      exact ⟨a, xs, h1, .inl q⟩
    | _ => cases hl
  · cases e
theorem se_mut {i : Nat} {x name : Str} {id : String} {p apos cpos : Pos} {e : Expr} {es : List Expr} {fs : Ar} {r : V → List V → Hp → VK → Prop} {F : D → List D → Option (D × D)} (hN : X.N[i]? = some x) (hv : Vis X.env.scope x) (pa : PlainAttrs "list") (slot : PySem.Slot "list" name id)
    (hty : typeOf (.builtin id) = pure (.type "method_descriptor")) (hm : MtR X id r) (ms : MtS X r F) (hF : ∀ c ds x, F c ds = some x → isL c = true) (ha : SA X W (e :: es) fs)
    (hpe : ∀ to t, PE X (.Name x p) to → PA X (e :: es) t → PE X (.Call (.Attribute (.Name x p) name apos) (e :: es) [] cpos) (tBM X.K "list" r to t)) (hd : (x == ("__debug__" : Str)) = false := by decide) (hcd : (x == ("__classdict__" : Str)) = false := by decide) :
    SE X W (.Call (.Attribute (.Name x p) name apos) (e :: es) [] cpos) (sMut i F fs) := by
  refine ⟨fun Φ => peImp (hpe _ _ (pe_var (i := i) hN hv hd hcd) (ha.pa Φ)) fun σ H Q h => ?_⟩
  obtain ⟨Pr, st, S, h⟩ := h
  unfold sMut at h
  cases e0 : datAt st i with
  | none => rw [e0] at h; exact h.elim
  | some c =>
    rw [e0] at h
    simp only at h
    by_cases hl : isL c = true
    · rw [if_pos hl] at h
      obtain ⟨a, xs, h1, hq⟩ := slotL S e0 hl
      refine ⟨_, h1, .inl ⟨rfl, xs, hq⟩, Pr, st, S, (Aft.bind h).imp fun os s1 P1 H1 l1 S1 h2 P2 vs l2 S2 ks => ?_⟩
      obtain ⟨ds, s2, P3, e, l3, S3, r3, h3⟩ := takeAll_of S2 ks (h2.mono l2)
      exact mutO_of S3 r3 ms h1 hF h3
    · rw [if_neg hl] at h; exact h.elim
theorem se_mut0 {i : Nat} {x name : Str} {id : String} {p apos cpos : Pos} {r : V → List V → Hp → VK → Prop} {F : D → List D → Option (D × D)} (hN : X.N[i]? = some x) (hv : Vis X.env.scope x) (pa : PlainAttrs "list") (slot : PySem.Slot "list" name id)
    (hty : typeOf (.builtin id) = pure (.type "method_descriptor")) (hm : MtR X id r) (ms : MtS X r F) (hF : ∀ c ds x, F c ds = some x → isL c = true)
    (hbase : attributeBase (.Name x p) name X.env (eval (.Name x p) X.env) = eval (.Name x p) X.env := by rfl) (hline : (apos.endLine == cpos.line) = true := by rfl) (hd : (x == ("__debug__" : Str)) = false := by decide) (hcd : (x == ("__classdict__" : Str)) = false := by decide) :
    SE X W (.Call (.Attribute (.Name x p) name apos) [] [] cpos) (sMut i F aNil) := by
  refine ⟨fun Φ => peImp (pe_bm0 pa slot hty hm (pe_var (i := i) hN hv hd hcd) hbase hline) fun σ H Q h => ?_⟩
  obtain ⟨Pr, st, S, h⟩ := h
  unfold sMut at h
  cases e0 : datAt st i with
  | none => rw [e0] at h; exact h.elim
  | some c =>
    rw [e0] at h
    simp only at h
    by_cases hl : isL c = true
    · rw [if_pos hl] at h
      obtain ⟨a, xs, h1, hq⟩ := slotL S e0 hl
      exact ⟨_, h1, .inl ⟨rfl, xs, hq⟩, mutO_of (ds := []) (vs := []) S Reps.nil ms h1 hF h⟩
    · rw [if_neg hl] at h; exact h.elim
end
end Dv
namespace Dv
open PySem L2
section
variable {X : Cx} {W : WX}
theorem se_append {i : Nat} {x : Str} {p apos cpos : Pos} {e : Expr} {fs : Ar} (hN : X.N[i]? = some x) (hv : Vis X.env.scope x) (ha : SA X W [e] fs)
    (hbase : attributeBase (.Name x p) "append" X.env (eval (.Name x p) X.env) = eval (.Name x p) X.env := by rfl)
    (hfew : ((backTo cpos (starEach [e] X.env)).all (fun x => !x.1) && (backToKw cpos (keywordEach [] X.env)).all (fun x => x.1.isSome)
      && decide (([e] : List Expr).length + ([] : List Keyword).length + (if ([] : List Keyword).isEmpty then 0 else 1) < 30)) = true := by rfl)
    (hline : (apos.endLine == cpos.line) = true := by rfl) (hs : starEach [e] X.env = (false, eval e X.env) :: starEach [] X.env := by rfl) (hd : (x == ("__debug__" : Str)) = false := by decide) (hcd : (x == ("__classdict__" : Str)) = false := by decide) :
    SE X W (.Call (.Attribute (.Name x p) "append" apos) [e] [] cpos) (sMut i fAppend fs) :=
  se_mut hN hv PySem.F.plainAttrs_list PySem.F.slot_list_append PySem.F.type_list_append mt_append ms_append fAppend_l ha (fun _ _ ho ha => pe_bm PySem.F.plainAttrs_list PySem.F.slot_list_append PySem.F.type_list_append mt_append ho ha hbase hfew hline hs) hd hcd
theorem se_extend {i : Nat} {x : Str} {p apos cpos : Pos} {e : Expr} {fs : Ar} (hN : X.N[i]? = some x) (hv : Vis X.env.scope x) (ha : SA X W [e] fs)
    (hbase : attributeBase (.Name x p) "extend" X.env (eval (.Name x p) X.env) = eval (.Name x p) X.env := by rfl)
    (hfew : ((backTo cpos (starEach [e] X.env)).all (fun x => !x.1) && (backToKw cpos (keywordEach [] X.env)).all (fun x => x.1.isSome)
      && decide (([e] : List Expr).length + ([] : List Keyword).length + (if ([] : List Keyword).isEmpty then 0 else 1) < 30)) = true := by rfl)
    (hline : (apos.endLine == cpos.line) = true := by rfl) (hs : starEach [e] X.env = (false, eval e X.env) :: starEach [] X.env := by rfl) (hd : (x == ("__debug__" : Str)) = false := by decide) (hcd : (x == ("__classdict__" : Str)) = false := by decide) :
    SE X W (.Call (.Attribute (.Name x p) "extend" apos) [e] [] cpos) (sMut i fExtend fs) :=
  se_mut hN hv PySem.F.plainAttrs_list PySem.F.slot_list_extend PySem.F.type_list_extend mt_extendR ms_extend fExtend_l ha (fun _ _ ho ha => pe_bm PySem.F.plainAttrs_list PySem.F.slot_list_extend PySem.F.type_list_extend mt_extendR ho ha hbase hfew hline hs) hd hcd
theorem se_popAt {i : Nat} {x : Str} {p apos cpos : Pos} {e : Expr} {fs : Ar} (hN : X.N[i]? = some x) (hv : Vis X.env.scope x) (ha : SA X W [e] fs)
    (hbase : attributeBase (.Name x p) "pop" X.env (eval (.Name x p) X.env) = eval (.Name x p) X.env := by rfl)
    (hfew : ((backTo cpos (starEach [e] X.env)).all (fun x => !x.1) && (backToKw cpos (keywordEach [] X.env)).all (fun x => x.1.isSome)
      && decide (([e] : List Expr).length + ([] : List Keyword).length + (if ([] : List Keyword).isEmpty then 0 else 1) < 30)) = true := by rfl)
    (hline : (apos.endLine == cpos.line) = true := by rfl) (hs : starEach [e] X.env = (false, eval e X.env) :: starEach [] X.env := by rfl) (hd : (x == ("__debug__" : Str)) = false := by decide) (hcd : (x == ("__classdict__" : Str)) = false := by decide) :
    SE X W (.Call (.Attribute (.Name x p) "pop" apos) [e] [] cpos) (sMut i fPopAt fs) :=
  se_mut hN hv PySem.F.plainAttrs_list PySem.F.slot_list_pop PySem.F.type_list_pop mt_popAt ms_popAt fPopAt_l ha (fun _ _ ho ha => pe_bm PySem.F.plainAttrs_list PySem.F.slot_list_pop PySem.F.type_list_pop mt_popAt ho ha hbase hfew hline hs) hd hcd
theorem se_pop {i : Nat} {x : Str} {p apos cpos : Pos} (hN : X.N[i]? = some x) (hv : Vis X.env.scope x)
    (hbase : attributeBase (.Name x p) "pop" X.env (eval (.Name x p) X.env) = eval (.Name x p) X.env := by rfl) (hline : (apos.endLine == cpos.line) = true := by rfl) (hd : (x == ("__debug__" : Str)) = false := by decide) (hcd : (x == ("__classdict__" : Str)) = false := by decide) :
    SE X W (.Call (.Attribute (.Name x p) "pop" apos) [] [] cpos) (sMut i fPop aNil) :=
  se_mut0 hN hv PySem.F.plainAttrs_list PySem.F.slot_list_pop PySem.F.type_list_pop mt_pop ms_pop fPop_l hbase hline hd hcd
theorem se_reverse {i : Nat} {x : Str} {p apos cpos : Pos} (hN : X.N[i]? = some x) (hv : Vis X.env.scope x)
    (hbase : attributeBase (.Name x p) "reverse" X.env (eval (.Name x p) X.env) = eval (.Name x p) X.env := by rfl) (hline : (apos.endLine == cpos.line) = true := by rfl) (hd : (x == ("__debug__" : Str)) = false := by decide) (hcd : (x == ("__classdict__" : Str)) = false := by decide) :
    SE X W (.Call (.Attribute (.Name x p) "reverse" apos) [] [] cpos) (sMut i fReverse aNil) :=
  se_mut0 hN hv PySem.F.plainAttrs_list PySem.F.slot_list_reverse PySem.F.type_list_reverse mt_reverse ms_reverse fReverse_l hbase hline hd hcd
theorem setO_of {Φ : Fr0} {D : Ends} {Pr H : Hp} {st : Sto} {σ : L2.St} {i : Nat} {k : Option Dv.D} {d : Dv.D} {a : Addr} {ix v : V} (S : Sim X.K Φ Pr st σ H) (ha : σ[i]? = some (some (V.ref a))) (hk : ∀ c, k = some c → Pk X.K Pr H c ix) (rv : Rep X.K Pr d v)
    (h : OutOk X Φ W D Pr (setO i k d st)) : rSetL (.ref a) ix v H fun H' => D.nx σ H' := by
  unfold setO at h
  split at h
  · rename_i t ht
    split at h
    · rename_i hm
      split at h
      · rename_i l j hc
        split at h
        · rename_i m hj
          obtain ⟨a', q1, q2⟩ := S.mutAt ht hm
          rw [ha] at q1; cases q1
          have hx : ∃ xs, H a = some (.lst xs) ∧ Reps X.K Pr l xs := by
            cases t with
            | own d' =>
              cases hc
              obtain ⟨b, o, eb, _, _, ho, c1⟩ := q2
              cases eb
              cases o with
              | lst xs => exact ⟨xs, ho, c1⟩
              | _ => exact absurd c1 id
            | par d' =>
              cases hc
              obtain ⟨b, o, eb, _, _, ho, c1⟩ := q2
              cases eb
              cases o with
              | lst xs => exact ⟨xs, ho, c1⟩
              | _ => exact absurd c1 id
            | un => cases hm
            | val _ => cases hm
            | pfr _ => cases hm
          obtain ⟨xs, hx, rx⟩ := hx
          have e1 := (hk _ rfl).int
          subst e1
          refine ⟨a, xs, j, m, rfl, rfl, hx, by rw [rx.length]; exact hj, ?_⟩
          exact h Pr σ _ (Le.refl _) (S.change (o := .lst (xs.set m v)) ht hm ha (show Reps _ _ _ _ from rx.set m rv))
        · exact h.elim
      · exact h.elim
    · exact h.elim
  · exact h.elim
theorem ss_set {i : Nat} {x : Str} {p p2 pos : Pos} {ix e : Expr} {fx fe : E} (hN : X.N[i]? = some x) (hv : Vis X.env.scope x) (hx : SE X W ix fx) (he : SE X W e fe)
    (ha : ∀ v, assign (.Subscript (.Name x p) ix p2) X.env v = (do
      let ov ← holding [v] (eval (.Name x p) X.env)
      let iv ← holding [v, ov] (eval ix X.env)
      standAt p2
      holding [v, ov, iv] (setItem ov iv v)
      release [v, ov, iv] []) := by intro _; rfl)
    (hs : swapsWithSole [.Subscript (.Name x p) ix p2] e pos.line X.env = pure false := by rfl) (hw : swappedStores [.Subscript (.Name x p) ix p2] e X.env = pure none := by rfl)
    (h1 : (assignEach [.Subscript (.Name x p) ix p2] X.env).map (·.2) = [assign (.Subscript (.Name x p) ix p2) X.env] := by rfl) (hd : (x == ("__debug__" : Str)) = false := by decide) (hcd : (x == ("__classdict__" : Str)) = false := by decide) :
    SS X W (.Assign [.Subscript (.Name x p) ix p2] e pos) (sSet i fx fe) := ⟨fun Φ => psImp (ps_asg (he.pe Φ) (pg_sub (pe_var (i := i) hN hv hd hcd) (hx.pe Φ) set_list ha) hs hw h1) fun D σ H h => by
  obtain ⟨Pr, st, S, h⟩ := h
  refine ⟨Pr, st, S, (kR_of trivial h).imp fun oe s1 P1 H1 l1 S1 h1 v hv => ?_⟩
  obtain ⟨P1', l1', S1', k1⟩ := settle S1 hv
  have h1 := h1.mono l1'
  cases e0 : datAt s1 i with
  | none => rw [e0] at h1; exact h1.elim
  | some c =>
    rw [e0] at h1
    simp only at h1
    by_cases hl : isL c = true
    · rw [if_pos hl] at h1
      obtain ⟨a, xs, ha', hq⟩ := slotL S1' e0 hl
      refine ⟨_, ha', P1', s1, S1', (kR_of trivial h1).imp fun oi s2 P2 H2 l2 S2 h2 iv hiv => ?_⟩
      obtain ⟨P2', l2', S2', k2⟩ := settle S2 hiv
      have h2 := h2.mono l2'
      have k1' := k1.mono (l2.trans l2')
      rcases take_cases oe s2 with ⟨d, s3, e⟩ | e
      · rw [e] at h2
        have one : ∃ P3, Le P2' P3 ∧ Sim X.K Φ P3 s3 σ H2 ∧ Rep X.K P3 d v := by
          cases oe with
          | val c => cases e; exact ⟨P2', Le.refl _, S2', k1'⟩
          | own c => cases e; exact ⟨P2', Le.refl _, S2', k1'⟩
          | slot j =>
            have e : fzAt s2 j = .ok d s3 := e
            unfold fzAt at e
            split at e
            · rename_i s hs
              split at e
              · rename_i c hc
                cases e
                obtain ⟨Pr', w, le, S', hw, r, _⟩ := S2'.fzSlot hs hc
                have h' : σ[j]? = some (some v) := k1'
                rw [h'] at hw; cases hw
                exact ⟨Pr', le, S', r⟩
              · cases e
            · cases e
        obtain ⟨P3, l3, S3, r3⟩ := one
        exact setO_of S3 ha' (fun c hc => pk_of S3 (k2.mono l3) hc) r3 (OutOk.mono h2 l3)
      · rw [e] at h2; exact h2.elim
    · rw [if_neg hl] at h1; exact h1.elim⟩
def oB (b : Bool) : Option Opd := some (.val (.bl b))
def oI (i : Int) : Option Opd := some (.val (.int i))
def lenD : List Dv.D → Option Opd
  | [.lst l] => some (.val (.int l.length))
  | [.tup l] => some (.val (.int l.length))
  | [.scr l] => some (.val (.int l.length))
  | [.str z] => if z.length ≤ LIM then some (.val (.int z.length)) else none
  | _ => none
theorem pks1 {K : PySem.W.Frag} {Pr H : Hp} {d : Dv.D} {vs : List V} (h : Pks K Pr H [d] vs) : ∃ v, vs = [v] ∧ Pk K Pr H d v := by
  cases h with
  | cons p ps => cases ps; exact ⟨_, rfl, p⟩
theorem pks2 {K : PySem.W.Frag} {Pr H : Hp} {d e : Dv.D} {vs : List V} (h : Pks K Pr H [d, e] vs) : ∃ v u, vs = [v, u] ∧ Pk K Pr H d v ∧ Pk K Pr H e u := by
  cases h with
  | cons p ps =>
    obtain ⟨u, rfl, q⟩ := pks1 ps
    exact ⟨_, u, rfl, p, q⟩
theorem cs_len : CallS X (.builtin "len") lenD := by
  refine ⟨_, call_len_seq.or call_len_str, ?_⟩
  intro Φ Pr st σ H ds vs o Q S ks e q
  unfold lenD at e
  split at e
  · cases e
    obtain ⟨v, rfl, p⟩ := pks1 ks
    obtain ⟨a, xs, rfl, r, rs⟩ := p.lst S
    refine .inl ⟨a, xs, rfl, .inl (.inl r), ?_⟩
    rw [rs.length]
    exact q Pr H _ (Le.refl _) S ro_int
  · cases e
    obtain ⟨v, rfl, p⟩ := pks1 ks
    obtain ⟨a, xs, rfl, r, rs⟩ := p.tup S
    refine .inl ⟨a, xs, rfl, .inr r, ?_⟩
    rw [rs.length]
    exact q Pr H _ (Le.refl _) S ro_int
  · cases e
    obtain ⟨v, rfl, p⟩ := pks1 ks
    obtain ⟨a, xs, rfl, r, rs⟩ := p.scr S
    refine .inl ⟨a, xs, rfl, .inl r, ?_⟩
    rw [rs.length]
    exact q Pr H _ (Le.refl _) S ro_int
  · split at e
    · rename_i hl
      cases e
      obtain ⟨v, rfl, p⟩ := pks1 ks
      cases p.str
      exact .inr ⟨_, rfl, by rw [lim_eq]; exact hl, q Pr H _ (Le.refl _) S ro_int⟩
    · cases e
  · cases e
def intD : List Dv.D → Option Opd
  | [.int i] => some (.val (.int i))
  | [.bl b] => some (.val (.int (if b then 1 else 0)))
  | _ => none
theorem cs_int : CallS X (.type "int") intD := by
  refine ⟨_, call_int1, ?_⟩
  intro Φ Pr st σ H ds vs o Q S ks e q
  unfold intD at e
  split at e
  · cases e
    obtain ⟨v, rfl, p⟩ := pks1 ks
    cases p.int
    exact .inl ⟨_, rfl, q Pr H _ (Le.refl _) S ro_int⟩
  · cases e
    obtain ⟨v, rfl, p⟩ := pks1 ks
    cases p.bl
    exact .inr ⟨_, rfl, q Pr H _ (Le.refl _) S ro_int⟩
  · cases e
def absD : List Dv.D → Option Opd
  | [.int i] => some (.val (.int (if i < 0 then -i else i)))
  | _ => none
theorem cs_abs : CallS X (.builtin "abs") absD := by
  refine ⟨_, call_abs, ?_⟩
  intro Φ Pr st σ H ds vs o Q S ks e q
  unfold absD at e
  split at e
  · cases e
    obtain ⟨v, rfl, p⟩ := pks1 ks
    cases p.int
    exact ⟨_, rfl, q Pr H _ (Le.refl _) S ro_int⟩
  · cases e
def minD : List Dv.D → Option Opd
  | [.int i, .int j] => some (.val (.int (if j < i then j else i)))
  | _ => none
theorem cs_min (hc : X.calm = true) : CallS X (.builtin "min") minD := by
  refine ⟨_, call_min2 hc, ?_⟩
  intro Φ Pr st σ H ds vs o Q S ks e q
  unfold minD at e
  split at e
  · cases e
    obtain ⟨v, u, rfl, p, p'⟩ := pks2 ks
    cases p.int
    cases p'.int
    exact ⟨_, _, rfl, q Pr H _ (Le.refl _) S ro_int⟩
  · cases e
def tupD : List Dv.D → Option Opd
  | [.lst l] => some (.val (.tup l))
  | [.tup l] => some (.val (.tup l))
  | _ => none
theorem cs_tuple : CallS X (.type "tuple") tupD := by
  refine ⟨_, call_tuple_of, ?_⟩
  intro Φ Pr st σ H ds vs o Q S ks e q
  unfold tupD at e
  split at e
  · cases e
    obtain ⟨v, rfl, p⟩ := pks1 ks
    obtain ⟨a, xs, rfl, r, rs⟩ := p.lst S
    refine ⟨a, xs, rfl, .inl ⟨.inl r, fun p' hp => ?_⟩⟩
    have le := Le.upd (o := .tup xs) (S.fresh hp).1
    refine q _ _ _ le (S.laid hp fun _ _ z => nomatch z) ?_
    show Rep _ _ _ _
    unfold Rep
    exact ⟨p', xs, rfl, SqT.of upd_same, Reps.mono le _ rs⟩
  · cases e
    obtain ⟨v, rfl, p⟩ := pks1 ks
    have p0 := p
    obtain ⟨a, xs, rfl, r, rs⟩ := p.tup S
    refine ⟨a, xs, rfl, .inr ⟨r, q Pr H _ (Le.refl _) S ?_⟩⟩
    rcases p0 with p0 | ⟨_, _, _, _, hc⟩
    · exact p0
    · unfold Cont at hc; split at hc <;> first | exact hc.elim | contradiction
  · cases e
def listD : List Dv.D → Option Opd
  | [.lst l] => some (.own (.lst l))
  | [.tup l] => some (.own (.lst l))
  | [.scr l] => some (.own (.lst l))
  | _ => none
theorem cs_list : CallS X (.type "list") listD := by
  refine ⟨_, call_list_of, ?_⟩
  intro Φ Pr st σ H ds vs o Q S ks e q
  unfold listD at e
  split at e
  · cases e
    obtain ⟨v, rfl, p⟩ := pks1 ks
    obtain ⟨a, xs, rfl, r, rs⟩ := p.lst S
    exact ⟨a, xs, rfl, .inl (.inl r), fun p' hp => q _ _ _ (Le.refl _) (S.alloc (o := .lst xs) hp fun _ _ z => nomatch z) (repO_new S hp rs)⟩
  · cases e
    obtain ⟨v, rfl, p⟩ := pks1 ks
    obtain ⟨a, xs, rfl, r, rs⟩ := p.tup S
    exact ⟨a, xs, rfl, .inr r, fun p' hp => q _ _ _ (Le.refl _) (S.alloc (o := .lst xs) hp fun _ _ z => nomatch z) (repO_new S hp rs)⟩
  · cases e
    obtain ⟨v, rfl, p⟩ := pks1 ks
    obtain ⟨a, xs, rfl, r, rs⟩ := p.scr S
    exact ⟨a, xs, rfl, .inl r, fun p' hp => q _ _ _ (Le.refl _) (S.alloc (o := .lst xs) hp fun _ _ z => nomatch z) (repO_new S hp rs)⟩
  · cases e
def intsD : List Dv.D → Option (List Int)
  | [] => some []
  | .int i :: l => (intsD l).map (i :: ·)
  | _ :: _ => none
def blsD : List Dv.D → Option (List Bool)
  | [] => some []
  | .bl i :: l => (blsD l).map (i :: ·)
  | _ :: _ => none
theorem intsD_of {K : PySem.W.Frag} {Pr : Hp} : ∀ {l : List Dv.D} {xs : List V} {ns : List Int}, Reps K Pr l xs → intsD l = some ns → xs = ns.map V.int
  | [], xs, ns, r, h => by cases h; unfold Reps at r; subst r; rfl
  | d :: l, xs, ns, r, h => by
    unfold Reps at r
    obtain ⟨x, t, rfl, r1, r2⟩ := r
    cases d with
    | int i =>
      unfold intsD at h
      rw [Option.map_eq_some_iff] at h
      obtain ⟨m, h, rfl⟩ := h
      unfold Rep at r1
      subst r1
      rw [intsD_of r2 h]; rfl
    | _ => cases h
theorem blsD_of {K : PySem.W.Frag} {Pr : Hp} : ∀ {l : List Dv.D} {xs : List V} {ns : List Bool}, Reps K Pr l xs → blsD l = some ns → xs = ns.map V.bl
  | [], xs, ns, r, h => by cases h; unfold Reps at r; subst r; rfl
  | d :: l, xs, ns, r, h => by
    unfold Reps at r
    obtain ⟨x, t, rfl, r1, r2⟩ := r
    cases d with
    | bl i =>
      unfold blsD at h
      rw [Option.map_eq_some_iff] at h
      obtain ⟨m, h, rfl⟩ := h
      unfold Rep at r1
      subst r1
      rw [blsD_of r2 h]; rfl
    | _ => cases h
def allD : List Dv.D → Option Opd
  | [.lst l] => (blsD l).map fun bs => .val (.bl (bs.all id))
  | _ => none
def anyD : List Dv.D → Option Opd
  | [.lst l] => (blsD l).map fun bs => .val (.bl (bs.any id))
  | _ => none
def sumD : List Dv.D → Option Opd
  | [.lst l] => (intsD l).map fun ns => .val (.int ns.sum)
  | _ => none
theorem cs_all (hc : X.calm = true) : CallS X (.builtin "all") allD := by
  refine ⟨_, cr_all hc, ?_⟩
  intro Φ Pr st σ H ds vs o Q S ks e q
  unfold allD at e
  split at e
  · rw [Option.map_eq_some_iff] at e
    obtain ⟨bs, e, rfl⟩ := e
    obtain ⟨v, rfl, p⟩ := pks1 ks
    obtain ⟨a, xs, rfl, r, rs⟩ := p.lst S
    exact ⟨a, bs, rfl, .inl (by rw [← blsD_of rs e]; exact r), q Pr H _ (Le.refl _) S ro_bl⟩
  · cases e
theorem cs_any (hc : X.calm = true) : CallS X (.builtin "any") anyD := by
  refine ⟨_, cr_any hc, ?_⟩
  intro Φ Pr st σ H ds vs o Q S ks e q
  unfold anyD at e
  split at e
  · rw [Option.map_eq_some_iff] at e
    obtain ⟨bs, e, rfl⟩ := e
    obtain ⟨v, rfl, p⟩ := pks1 ks
    obtain ⟨a, xs, rfl, r, rs⟩ := p.lst S
    exact ⟨a, bs, rfl, .inl (by rw [← blsD_of rs e]; exact r), q Pr H _ (Le.refl _) S ro_bl⟩
  · cases e
theorem cs_sum (hc : X.calm = true) : CallS X (.builtin "sum") sumD := by
  refine ⟨_, cr_sum hc, ?_⟩
  intro Φ Pr st σ H ds vs o Q S ks e q
  unfold sumD at e
  split at e
  · rw [Option.map_eq_some_iff] at e
    obtain ⟨bs, e, rfl⟩ := e
    obtain ⟨v, rfl, p⟩ := pks1 ks
    obtain ⟨a, xs, rfl, r, rs⟩ := p.lst S
    exact ⟨a, bs, rfl, .inl (by rw [← intsD_of rs e]; exact r), q Pr H _ (Le.refl _) S ro_int⟩
  · cases e
def maxL : Int → List Int → Int
  | m, [] => m
  | m, i :: l => maxL (if i > m then i else m) l
theorem maxL_ge : ∀ {l : List Int} {m : Int}, m ≤ maxL m l ∧ ∀ i ∈ l, i ≤ maxL m l
  | [], m => ⟨Int.le_refl _, fun _ h => by cases h⟩
  | i :: l, m => by
    unfold maxL
    obtain ⟨h1, h2⟩ := maxL_ge (l := l) (m := if i > m then i else m)
    have h3 : m ≤ (if i > m then i else m) ∧ i ≤ (if i > m then i else m) := by
      by_cases h : i > m
      · rw [if_pos h]; omega
      · rw [if_neg h]; omega
    refine ⟨by omega, fun j hj => ?_⟩
    rcases List.mem_cons.mp hj with rfl | hj
    · omega
    · exact h2 j hj
theorem maxL_mem : ∀ {l : List Int} {m : Int}, maxL m l = m ∨ maxL m l ∈ l
  | [], m => .inl rfl
  | i :: l, m => by
    unfold maxL
    rcases maxL_mem (l := l) (m := if i > m then i else m) with h | h
    · by_cases c : i > m
      · rw [if_pos c] at h ⊢; exact .inr (by rw [h]; exact List.mem_cons_self)
      · rw [if_neg c] at h ⊢; exact .inl h
    · exact .inr (List.mem_cons_of_mem _ h)
def maxD : List Dv.D → Option Opd
  | [.int i, .int j] => some (.val (.int (if j > i then j else i)))
  | [.lst l] => match intsD l with
    | some (i :: r) => some (.val (.int (maxL i r)))
    | _ => none
  | _ => none
theorem cs_max (hc : X.calm = true) : CallS X (.builtin "max") maxD := by
  refine ⟨_, (call_max2 hc).or (cr_max hc), ?_⟩
  intro Φ Pr st σ H ds vs o Q S ks e q
  unfold maxD at e
  split at e
  · cases e
    obtain ⟨v, u, rfl, p, p'⟩ := pks2 ks
    cases p.int
    cases p'.int
    exact .inl ⟨_, _, rfl, q Pr H _ (Le.refl _) S ro_int⟩
  · split at e
    · rename_i i r hl
      cases e
      obtain ⟨v, rfl, p⟩ := pks1 ks
      obtain ⟨a, xs, rfl, rd, rs⟩ := p.lst S
      refine .inr ⟨a, i :: r, rfl, .inl (by rw [← intsD_of rs hl]; exact rd), by simp, fun m hm hx => ?_⟩
      have : m = maxL i r := by
        obtain ⟨h1, h2⟩ := maxL_ge (l := r) (m := i)
        have h3 : maxL i r ≤ m := by
          rcases maxL_mem (l := r) (m := i) with h | h
          · rw [h]; exact hx i List.mem_cons_self
          · exact hx _ (List.mem_cons_of_mem _ h)
        rcases List.mem_cons.mp hm with rfl | hm
        · omega
        · have := h2 m hm; omega
      subst this
      exact q Pr H _ (Le.refl _) S ro_int
    · cases e
  · cases e
def kindOf : Dv.D → Option String
  | .non => some "NoneType"
  | .bl _ => some "bool"
  | .int _ => some "int"
  | .str _ => some "str"
  | .tup _ => some "tuple"
  | .lst _ => some "list"
  | _ => none
def isKind (k : String) (n : String) : Option Bool := if n = "int" then some (k == "int" || k == "bool") else if n = "str" then some (k == "str") else if n = "tuple" then some (k == "tuple") else if n = "list" then some (k == "list") else if n = "bool" then some (k == "bool")
  else if n = "dict" then some (k == "dict") else none
def isiD : List Dv.D → Option Opd
  | [x, .ty n] => (kindOf x).bind fun k => (isKind k n).map fun b => .val (.bl b)
  | _ => none
theorem kit_all : ∀ k ∈ ["NoneType", "bool", "int", "str", "tuple", "list", "dict"], ∀ n ∈ ["int", "str", "tuple", "list", "bool", "dict"], kitB k n = isKind k n := by decide +kernel
theorem isKind_n {k n : String} {b : Bool} (h : isKind k n = some b) : n ∈ ["int", "str", "tuple", "list", "bool", "dict"] := by
  unfold isKind at h
  repeat' split at h
  all_goals first | (rename_i e; subst e; decide) | cases h
theorem kindOf_k {x : Dv.D} {k : String} (h : kindOf x = some k) : k ∈ ["NoneType", "bool", "int", "str", "tuple", "list", "dict"] := by
  cases x <;> first | (cases h; decide) | cases h
theorem tyx_of {K : PySem.W.Frag} {Φ : Fr0} {Pr H : Hp} {st : Sto} {σ : L2.St} {x : Dv.D} {v : V} {k : String} (S : Sim K Φ Pr st σ H) (p : Pk K Pr H x v) (h : kindOf x = some k) : TyX K H v (.type k) := by
  cases x with
  | non => cases h; cases p.non; exact .base .non
  | bl b => cases h; cases p.bl; exact .base (.bl b)
  | int i => cases h; cases p.int; exact .base (.int i)
  | str z => cases h; cases p.str; exact .base (.str z)
  | tup l =>
    cases h
    obtain ⟨a, xs, rfl, r, _⟩ := p.tup S
    rcases r with (r | ⟨o, r⟩) | ⟨o, its, n, r, hc, _⟩
    · exact .base (.tup r)
    · exact .fTuple r
    · exact .kTuple r hc
  | lst l =>
    cases h
    obtain ⟨a, xs, rfl, r, _⟩ := p.lst S
    rcases r with r | ⟨o, r⟩
    · exact .base (.lst r)
    · exact .base (.frz r)
  | _ => cases h
theorem cs_isi : CallS X (.builtin "isinstance") isiD := by
  refine ⟨_, call_isi, ?_⟩
  intro Φ Pr st σ H ds vs o Q S ks e q
  unfold isiD at e
  split at e
  · rename_i x n
    rw [Option.bind_eq_some_iff] at e
    obtain ⟨k, hk, e⟩ := e
    rw [Option.map_eq_some_iff] at e
    obtain ⟨b, hb, rfl⟩ := e
    obtain ⟨v, u, rfl, p, p'⟩ := pks2 ks
    cases p'.ty
    exact ⟨v, _, _, _, b, rfl, .ty n, tyx_of S p hk, kit_ty (by rw [kit_all k (kindOf_k hk) n (isKind_n hb)]; exact hb), q Pr H _ (Le.refl _) S ro_bl⟩
  · cases e
end
end Dv
namespace Dv
open PySem L2
def noX {α : Type} : R α → R α
  | .exc _ _ _ => .bad
  | r => r
@[simp] theorem noX_ok {α : Type} (a : α) (s : Sto) : noX (.ok a s) = .ok a s := rfl
@[simp] theorem noX_exc {α : Type} (c : Str) (v : D) (s : Sto) : noX (.exc c v s : R α) = .bad := rfl
@[simp] theorem noX_bad {α : Type} : noX (.bad : R α) = .bad := rfl
def wipeS (s : Sto) : List Nat → Sto
  | [] => s
  | v :: vs => (wipeS s vs).set v .un
def restS (s0 s : Sto) : List Nat → Sto
  | [] => s
  | v :: vs => match s0[v]? with
    | some (.val d) => (restS s0 s vs).set v (.val d)
    | _ => (restS s0 s vs).set v .un
def tYesT : T := fun s => .ok true s
def lcL (g : G) (t : T) (e : E) (vs : List Nat) : List D → List D → Sto → R (List D)
  | [], acc, s => .ok acc s
  | d :: ds, acc, s => match g d (wipeS s vs) with
    | none => .bad
    | some s1 => (noX (t s1)).bind fun b s2 => if b then (noX (e s2)).bind fun o s3 => (takeO o s3).bind fun x s4 => if acc.length < LIM then lcL g t e vs ds (acc ++ [x]) s4 else .bad
      else lcL g t e vs ds acc s2
def lcM (g : G) (t : T) (f1 : Ws) (inner : List D → List D → Sto → R (List D)) (vs : List Nat) : List D → List D → Sto → R (List D)
  | [], acc, s => .ok acc s
  | d :: ds, acc, s => match g d (wipeS s vs) with
    | none => .bad
    | some s1 => (noX (t s1)).bind fun b s2 => if b then (noX (f1 s2)).bind fun ds1 s3 => (inner ds1 acc s3).bind fun acc' s4 => lcM g t f1 inner vs ds acc' s4
      else lcM g t f1 inner vs ds acc s2
def sLc (f : Ws) (g : G) (t : T) (e : E) (vs : List Nat) : E := fun s => (f s).bind fun ds s1 => (lcL g t e vs ds [] s1).bind fun acc s2 => .ok (.own (.lst acc)) (restS s1 s2 vs)
def sLc2 (f : Ws) (g : G) (t : T) (f1 : Ws) (g1 : G) (t1 : T) (e : E) (vs vs1 : List Nat) : E := fun s => (f s).bind fun ds s1 => (lcM g t f1 (lcL g1 t1 e vs1) vs ds [] s1).bind fun acc s2 => .ok (.own (.lst acc)) (restS s1 s2 vs)
section
variable {X : Cx} {W : WX} {K : PySem.W.Frag} {Φ : Fr0} {Pr H : Hp} {st : Sto} {σ : L2.St}
theorem Sim.gone (S : Sim K Φ Pr st σ H) (i : Nat) : Sim K Φ Pr (st.set i .un) (σ.set i none) H where
  len := by simpa using S.len
  inn := S.inn
  le0 := S.le0
  slots := fun j s e => by
    by_cases h : j = i
    · subst h
      by_cases hl : j < st.length
      · rw [List.getElem?_set_self hl] at e; cases e
        exact ⟨none, List.getElem?_set_self (by rw [← S.len]; exact hl), trivial⟩
      · rw [List.getElem?_eq_none (by simpa using hl)] at e; cases e
    · rw [List.getElem?_set_ne (Ne.symm h)] at e ⊢
      exact S.slots j s e
  apart := fun j k s t a h1 h2 m1 m2 h3 h4 => by
    have back : ∀ {j : Nat} {s : Slot}, (st.set i .un)[j]? = some s → s.mut = true → st[j]? = some s ∧ j ≠ i := fun {j s} e m => by
      by_cases h : j = i
      · subst h
        by_cases hl : j < st.length
        · rw [List.getElem?_set_self hl] at e; cases e; cases m
        · rw [List.getElem?_eq_none (by simpa using hl)] at e; cases e
      · rw [List.getElem?_set_ne (Ne.symm h)] at e; exact ⟨e, h⟩
    obtain ⟨e1, n1⟩ := back h1 m1
    obtain ⟨e2, n2⟩ := back h2 m2
    rw [List.getElem?_set_ne (Ne.symm n1)] at h3
    rw [List.getElem?_set_ne (Ne.symm n2)] at h4
    exact S.apart j k s t a e1 e2 m1 m2 h3 h4
  frame := S.frame
  newp := S.newp
  locks := S.locks
  lkin := S.lkin
  lent := S.lent
theorem Sim.wipe (S : Sim K Φ Pr st σ H) : ∀ vs : List Nat, Sim K Φ Pr (wipeS st vs) (L2.wipe σ vs) H
  | [] => S
  | v :: vs => (Sim.wipe S vs).gone v
theorem wipeS_get {s : Sto} {j : Nat} : ∀ {vs : List Nat}, j ∉ vs → (wipeS s vs)[j]? = s[j]?
  | [], _ => rfl
  | v :: vs, h => by
    unfold wipeS
    rw [List.getElem?_set_ne (fun z => h (by rw [← z]; exact List.mem_cons_self)), wipeS_get fun z => h (List.mem_cons_of_mem _ z)]
theorem wipeS_len {s : Sto} : ∀ {vs : List Nat}, (wipeS s vs).length = s.length
  | [] => rfl
  | v :: vs => by unfold wipeS; rw [List.length_set, wipeS_len]
theorem wipeS_in {s : Sto} {j : Nat} {t : Slot} : ∀ {vs : List Nat}, j ∈ vs → (wipeS s vs)[j]? = some t → t = .un
  | v :: vs, h, e => by
    unfold wipeS at e
    by_cases hv : v = j
    · subst hv
      by_cases hl : v < (wipeS s vs).length
      · rw [List.getElem?_set_self hl] at e; cases e; rfl
      · rw [List.getElem?_eq_none (by simpa using hl)] at e; cases e
    · rw [List.getElem?_set_ne hv] at e
      rcases List.mem_cons.mp h with z | z
      · exact absurd z.symm hv
      · exact wipeS_in z e
theorem wipe_get {s : L2.St} {j : Nat} : ∀ {vs : List Nat}, j ∉ vs → (L2.wipe s vs)[j]? = s[j]?
  | [], _ => rfl
  | v :: vs, h => by
    unfold L2.wipe
    rw [List.getElem?_set_ne (fun z => h (by rw [← z]; exact List.mem_cons_self)), wipe_get fun z => h (List.mem_cons_of_mem _ z)]
theorem wipe_in {s : L2.St} {j : Nat} (hj : j < s.length) : ∀ {vs : List Nat}, j ∈ vs → (L2.wipe s vs)[j]? = some none
  | v :: vs, h => by
    unfold L2.wipe
    by_cases hv : v = j
    · subst hv
      exact List.getElem?_set_self (by rw [wipe_length]; exact hj)
    · rw [List.getElem?_set_ne hv]
      rcases List.mem_cons.mp h with z | z
      · exact absurd z.symm hv
      · exact wipe_in hj z
theorem wipe_only {is vs : List Nat} {σ σ' : L2.St} (o : Only is (L2.wipe σ vs) σ') (hs : ∀ i ∈ is, i ∈ vs) : L2.wipe σ' vs = L2.wipe σ vs := by
  have hl : σ'.length = σ.length := by rw [o.1, wipe_length]
  refine List.ext_getElem? fun j => ?_
  by_cases hj : j ∈ vs
  · by_cases hk : j < σ.length
    · rw [wipe_in (by rw [hl]; exact hk) hj, wipe_in hk hj]
    · rw [List.getElem?_eq_none (by rw [wipe_length, hl]; omega), List.getElem?_eq_none (by rw [wipe_length]; omega)]
  · rw [wipe_get hj, o.2 j fun z => hj (hs j z)]
theorem wipe_sub {vs1 vs : List Nat} {σ : L2.St} (hs : ∀ i ∈ vs1, i ∈ vs) : L2.wipe (L2.wipe σ vs1) vs = L2.wipe σ vs := by
  refine List.ext_getElem? fun j => ?_
  by_cases hj : j ∈ vs
  · by_cases hk : j < σ.length
    · rw [wipe_in (by rw [wipe_length]; exact hk) hj, wipe_in hk hj]
    · rw [List.getElem?_eq_none (by rw [wipe_length, wipe_length]; omega), List.getElem?_eq_none (by rw [wipe_length]; omega)]
  · rw [wipe_get hj, wipe_get (fun z => hj (hs j z)), wipe_get hj]
theorem wipeS_sub {vs1 vs : List Nat} {s : Sto} (hs : ∀ i ∈ vs1, i ∈ vs) : wipeS (wipeS s vs1) vs = wipeS s vs := by
  refine List.ext_getElem? fun j => ?_
  by_cases hj : j ∈ vs
  · have a : ∀ {s : Sto}, j < s.length → (wipeS s vs)[j]? = some .un := fun {s} hk => by
      have hl : j < (wipeS s vs).length := by rw [wipeS_len]; exact hk
      rw [List.getElem?_eq_getElem hl, wipeS_in hj (List.getElem?_eq_getElem hl)]
    by_cases hk : j < s.length
    · rw [a (by rw [wipeS_len]; exact hk), a hk]
    · rw [List.getElem?_eq_none (by rw [wipeS_len, wipeS_len]; omega), List.getElem?_eq_none (by rw [wipeS_len]; omega)]
  · rw [wipeS_get hj, wipeS_get (fun z => hj (hs j z)), wipeS_get hj]
theorem Sim.rest {P0 : Hp} {H0 : Hp} {s0 : Sto} (S0 : Sim K Φ P0 s0 σ H0) (le : Le P0 Pr) : ∀ (vs ws : List Nat) {st : Sto} {H : Hp}, (∀ v ∈ vs, v ∈ ws) → Sim K Φ Pr st (L2.wipe σ ws) H → (∀ (j : Nat) t, j ∈ ws → st[j]? = some t → t = .un) →
    ∃ τ, Sim K Φ Pr (restS s0 st vs) τ H ∧ τ.length = σ.length ∧ (∀ (j : Nat), j ∉ ws → τ[j]? = σ[j]?) ∧ (∀ (j : Nat) t, j ∈ ws → (restS s0 st vs)[j]? = some t → t.mut = false ∧ (t = .un ∨ τ[j]? = σ[j]?))
  | [], ws, st, H, _, S, hu => ⟨L2.wipe σ ws, S, wipe_length _ _, fun j hj => wipe_get hj, fun j t hj e => by rw [hu j t hj e]; exact ⟨rfl, .inl rfl⟩⟩
  | v :: vs, ws, st, H, hw, S, hu => by
    obtain ⟨τ, S1, hl, ho, hi⟩ := Sim.rest S0 le vs ws (fun v hv => hw v (List.mem_cons_of_mem _ hv)) S hu
    have hvw := hw v List.mem_cons_self
    have hlen : (restS s0 st vs).length = σ.length := by rw [S1.len, hl]
    have un : ∃ τ', Sim K Φ Pr ((restS s0 st vs).set v .un) τ' H ∧ τ'.length = σ.length ∧ (∀ (j : Nat), j ∉ ws → τ'[j]? = σ[j]?) ∧ (∀ (j : Nat) t, j ∈ ws → ((restS s0 st vs).set v .un)[j]? = some t → t.mut = false ∧ (t = .un ∨ τ'[j]? = σ[j]?)) := by
      refine ⟨τ, S1.drop v, hl, ho, fun j t hj e => ?_⟩
      by_cases hv : v = j
      · subst hv
        by_cases hk : v < (restS s0 st vs).length
        · rw [List.getElem?_set_self hk] at e; cases e; exact ⟨rfl, .inl rfl⟩
        · rw [List.getElem?_eq_none (by simpa using hk)] at e; cases e
      · rw [List.getElem?_set_ne hv] at e
        exact hi j t hj e
    unfold restS
    split
    · rename_i d hd
      obtain ⟨ov, h1, u, rfl, r⟩ := S0.slots v _ hd
      have hk : v < (restS s0 st vs).length := by rw [hlen]; exact (List.getElem?_eq_some_iff.mp h1).1
      refine ⟨τ.set v (some u), S1.assign (List.getElem?_eq_getElem hk) ⟨u, rfl, r.mono le⟩ (fun z => nomatch z), by simpa using hl, fun j hj => ?_, fun j t hj e => ?_⟩
      · rw [List.getElem?_set_ne (fun z => hj (by rw [← z]; exact hvw))]
        exact ho j hj
      · by_cases hv : v = j
        · subst hv
          rw [List.getElem?_set_self hk] at e; cases e
          refine ⟨rfl, .inr ?_⟩
          rw [List.getElem?_set_self (by rw [← S1.len]; exact hk), h1]
        · rw [List.getElem?_set_ne hv] at e ⊢
          exact hi j t hj e
    · exact un
theorem Sim.any {τ : L2.St} (S : Sim K Φ Pr st τ H) (hl : τ.length = σ.length) (h : ∀ (j : Nat) t, st[j]? = some t → t = .un ∨ τ[j]? = σ[j]?) : Sim K Φ Pr st σ H where
  len := by rw [S.len, hl]
  inn := S.inn
  le0 := S.le0
  slots := fun j s e => by
    rcases h j s e with rfl | q
    · have hj : j < σ.length := by rw [← hl, ← S.len]; exact (List.getElem?_eq_some_iff.mp e).1
      exact ⟨_, List.getElem?_eq_getElem hj, trivial⟩
    · rw [← q]; exact S.slots j s e
  apart := fun j k s t a h1 h2 m1 m2 h3 h4 => by
    have g : ∀ {j : Nat} {s : Slot}, st[j]? = some s → s.mut = true → τ[j]? = σ[j]? := fun {j s} e m => by
      rcases h j s e with rfl | q
      · cases m
      · exact q
    rw [← g h1 m1] at h3
    rw [← g h2 m2] at h4
    exact S.apart j k s t a h1 h2 m1 m2 h3 h4
  frame := S.frame
  newp := S.newp
  locks := S.locks
  lkin := S.lkin
  lent := S.lent
theorem Sim.outer {P0 H0 : Hp} {s0 : Sto} {vs : List Nat} (S0 : Sim K Φ P0 s0 σ H0) (le : Le P0 Pr) (S : Sim K Φ Pr (wipeS st vs) (L2.wipe σ vs) H) : Sim K Φ Pr (restS s0 st vs) σ H := by
  have e : restS s0 st vs = restS s0 (wipeS st vs) vs := by
    refine List.ext_getElem? fun j => ?_
    have out : ∀ (us : List Nat) {a b : Sto}, a.length = b.length → (j ∈ us ∨ a[j]? = b[j]?) → (restS s0 a us)[j]? = (restS s0 b us)[j]? := by
      intro us
      have len : ∀ (us : List Nat) (a : Sto), (restS s0 a us).length = a.length := by
        intro us
        induction us with
        | nil => intro a; rfl
        | cons u us ih => intro a; unfold restS; split <;> rw [List.length_set, ih]
      induction us with
      | nil =>
        intro a b _ h
        rcases h with h | h
        · cases h
        · exact h
      | cons u us ih =>
        intro a b hab h
        have hl : (restS s0 a us).length = (restS s0 b us).length := by rw [len, len, hab]
        have gen : ∀ t : Slot, ((restS s0 a us).set u t)[j]? = ((restS s0 b us).set u t)[j]? := fun t => by
          by_cases hu : u = j
          · subst hu
            by_cases hk : u < (restS s0 a us).length
            · rw [List.getElem?_set_self hk, List.getElem?_set_self (by rw [← hl]; exact hk)]
            · rw [List.getElem?_eq_none (by simpa using hk), List.getElem?_eq_none (by rw [List.length_set, ← hl]; omega)]
          · rw [List.getElem?_set_ne hu, List.getElem?_set_ne hu]
            refine ih hab ?_
            rcases h with h | h
            · rcases List.mem_cons.mp h with z | z
              · exact absurd z.symm hu
              · exact .inl z
            · exact .inr h
        unfold restS
        split <;> exact gen _
    refine out vs wipeS_len.symm ?_
    by_cases hj : j ∈ vs
    · exact .inl hj
    · exact .inr (wipeS_get hj).symm
  rw [e]
  obtain ⟨τ, S1, hl, ho, hi⟩ := Sim.rest S0 le vs vs (fun _ h => h) S (fun j t hj e => wipeS_in hj e)
  refine S1.any hl fun j t q => ?_
  by_cases hj : j ∈ vs
  · exact (hi j t hj q).2
  · exact .inr (ho j hj)
structure Aside (Φ : Fr0) (Pr H : Hp) (st : Sto) (σ : L2.St) (D : Addr) : Prop where
  pr : Pr D = none
  h0 : Φ.H0 D = none
  nl : ¬ Φ.Lent D
  no : ∀ (i : Nat) s, st[i]? = some s → s.mut = true → σ[i]? ≠ some (some (V.ref D))
abbrev Fr0.aside (Φ : Fr0) (D : Addr) (acc : List V) : Fr0 := { Φ with H0 := upd Φ.H0 D (.lst acc) }
theorem Sim.toAside {D : Addr} {acc : List V} (S : Sim K Φ Pr st σ H) (A : Aside Φ Pr H st σ D) (h : H D = some (.lst acc)) : Sim K (Φ.aside D acc) Pr st σ H where
  len := S.len
  inn := S.inn
  le0 := S.le0
  slots := fun i s e => by
    obtain ⟨ov, h1, h2⟩ := S.slots i s e
    refine ⟨ov, h1, ?_⟩
    cases s with
    | un => trivial
    | val d => exact h2
    | own d =>
      obtain ⟨a, o, rfl, p1, p2, p3⟩ := h2
      exact ⟨a, o, rfl, p1, by show upd Φ.H0 D (.lst acc) a = none; rw [upd_ne fun z => A.no i _ e rfl (by rw [h1, z])]; exact p2, p3⟩
    | par d => exact h2
    | pfr d => exact h2
  apart := S.apart
  frame := fun a o q n => by
    by_cases e : a = D
    · subst e
      have q' : upd Φ.H0 a (.lst acc) a = some o := q
      rw [upd_same] at q'; cases q'; exact .inl h
    · have q' : upd Φ.H0 D (.lst acc) a = some o := q
      rw [upd_ne e] at q'; exact S.frame a o q' n
  newp := fun a o q => by
    rcases S.newp a o q with h | h | h
    · exact .inl h
    · refine .inr (.inl ?_)
      show upd Φ.H0 D (.lst acc) a = none
      rw [upd_ne fun z => by rw [z, A.pr] at q; cases q]; exact h
    · exact .inr (.inr h)
  locks := fun a ob o q => by
    rcases S.locks a ob o q with z | z
    · refine .inl ?_
      show upd Φ.H0 D (.lst acc) a = _
      rw [upd_ne fun y => by rw [y, A.h0] at z; cases z]; exact z
    · exact .inr z
  lkin := S.lkin
  lent := S.lent
theorem Sim.ofAside {P0 : Hp} {D : Addr} {acc : List V} (S : Sim K (Φ.aside D acc) Pr st σ H) (h0 : Φ.H0 D = none) (hn : P0 D = none) (l0 : Le Φ.P0 P0) (nl : ¬ Φ.Lent D) : Sim K Φ Pr st σ H ∧ Aside Φ Pr H st σ D ∧ H D = some (.lst acc) := by
  have hD : H D = some (.lst acc) := (S.frame D _ upd_same nl).lst
  have pr : Pr D = none := by
    cases e : Pr D with
    | none => rfl
    | some o =>
      rcases S.newp D o e with h | h | h
      · have := l0 _ _ (show Φ.P0 D = some o from h)
        rw [hn] at this; cases this
      · have h' : upd Φ.H0 D (.lst acc) D = none := h
        rw [upd_same] at h'; cases h'
      · exact absurd h nl
  have up : ∀ {a : Addr}, upd Φ.H0 D (.lst acc) a = none → Φ.H0 a = none ∧ a ≠ D := fun {a} h => by
    by_cases e : a = D
    · subst e; rw [upd_same] at h; cases h
    · rw [upd_ne e] at h; exact ⟨h, e⟩
  refine ⟨⟨S.len, S.inn, S.le0, fun i s e => ?_, S.apart, fun a o q n => ?_, fun a o q => ?_, fun a ob o q => ?_, S.lkin, S.lent⟩, ⟨pr, h0, nl, fun i s e m z => ?_⟩, hD⟩
  · obtain ⟨ov, h1, h2⟩ := S.slots i s e
    refine ⟨ov, h1, ?_⟩
    cases s with
    | un => trivial
    | val d => exact h2
    | own d =>
      obtain ⟨a, o, rfl, p1, p2, p3⟩ := h2
      exact ⟨a, o, rfl, p1, (up p2).1, p3⟩
    | par d => exact h2
    | pfr d => exact h2
  · refine S.frame a o ?_ n
    show upd Φ.H0 D (.lst acc) a = some o
    rw [upd_ne fun z => by rw [z, h0] at q; cases q]; exact q
  · rcases S.newp a o q with h | h | h
    · exact .inl h
    · exact .inr (.inl (up h).1)
    · exact .inr (.inr h)
  · rcases S.locks a ob o q with z | z
    · by_cases e : a = D
      · subst e
        have z' : upd Φ.H0 a (.lst acc) a = some (.frz ob o) := z
        rw [upd_same] at z'; cases z'
      · have z' : upd Φ.H0 D (.lst acc) a = some (.frz ob o) := z
        rw [upd_ne e] at z'; exact .inl z'
    · exact .inr z
  · obtain ⟨ov, h1, h2⟩ := S.slots i s e
    rw [z] at h1; cases h1
    cases s with
    | own d =>
      obtain ⟨a, o, ea, p1, p2, p3⟩ := h2
      cases ea
      exact (up p2).2 rfl
    | par d =>
      obtain ⟨a, o, ea, p1, p2, p3⟩ := h2
      cases ea
      exact nl ⟨i, p2⟩
    | un => cases m
    | val _ => cases m
    | pfr _ => cases m
end
end Dv
namespace Dv
open PySem L2
abbrev WF : WX := fun _ _ _ _ => False
section
variable {X : Cx} {W : WX}
def gX (X : Cx) (g : G) (is : List Nat) : TG := fun v σ H Q => ∃ Φ, tG X Φ g is v σ H Q
def tX (X : Cx) (t : T) : TT := fun σ H Q => ∃ Φ, tT X Φ WF t σ H Q
def eX (X : Cx) (e : E) : TE := fun σ H Q => ∃ Φ, tE X Φ WF e σ H Q
def wX (X : Cx) (f : Ws) : TI := fun σ H R => ∃ Φ, tW X Φ WF f σ H R
theorem pg_X {tg : Expr} {g : G} {is : List Nat} (h : SG X tg g is) : PG X tg (gX X g is) := ⟨fun pins s σ H v u Q I r ⟨Φ, q⟩ => (h.pg Φ).run pins s σ H v u Q I r q⟩
theorem pe_X {e : Expr} {fe : E} (h : SE X WF e fe) : PE X e (eX X fe) := ⟨fun pins s σ H Q I ⟨Φ, q⟩ => (h.pe Φ).run pins s σ H Q I q⟩
theorem pi_X {tg e : Expr} {f : Ws} (h : SI X WF tg e f) : PI X tg e (wX X f) := ⟨fun pins s σ H R I ⟨Φ, q⟩ => (h.pi Φ).run pins s σ H R I q⟩
structure STs (X : Cx) (ifs : List Expr) (t : T) : Prop where
  pts : PTs X ifs (tX X t)
theorem sts_nil : STs X [] tYesT := ⟨⟨fun pins s σ H Q I ⟨Φ, Pr, st, S, h⟩ => pts_nil.run pins s σ H Q I (h Pr H (Le.refl _) S)⟩⟩
theorem sts_one {c : Expr} {t : T} (h : ST X WF c t) : STs X [c] t := ⟨⟨fun pins s σ H Q I ⟨Φ, q⟩ => (pts_one (h.pt Φ)).run pins s σ H Q I q⟩⟩
theorem Sim.touch {K : PySem.W.Frag} {Φ : Fr0} {Pr H : Hp} {st : Sto} {σ : L2.St} {D : Addr} {o : HO} (S : Sim K Φ Pr st σ H) (A : Aside Φ Pr H st σ D) (hf : ∀ ob u, o ≠ .frz ob u) : Sim K Φ Pr st σ (upd H D o) where
  len := S.len
  inn := fun a u q => (S.inn a u q).upd fun z => by rw [z, A.pr] at q; cases q
  le0 := S.le0
  slots := fun i s e => by
    obtain ⟨ov, h1, h2⟩ := S.slots i s e
    refine ⟨ov, h1, h2.heap fun a u ea m q => ?_⟩
    rw [upd_ne fun z => A.no i s e m (by rw [h1, ea, z])]; exact q
  apart := S.apart
  frame := fun a u q n => (S.frame a u q n).upd fun z => by rw [z, A.h0] at q; cases q
  newp := S.newp
  locks := fun a ob u q => by
    by_cases e : a = D
    · subst e
      rw [upd_same] at q
      exact absurd (Option.some.inj q) (hf ob u)
    · rw [upd_ne e] at q; exact S.locks a ob u q
  lkin := S.lkin
  lent := fun a q => by
    obtain ⟨u, e⟩ := S.lent a q
    exact ⟨u, by rw [upd_ne fun z => A.nl (by rw [← z]; exact q)]; exact e⟩
structure Bld (K : PySem.W.Frag) (Φ : Fr0) (Pr H : Hp) (s : Sto) (σ : L2.St) (A : Addr) (vs : List Nat) (dacc : List D) (acc : List V) : Prop where
  sim : Sim K Φ Pr (wipeS s vs) (L2.wipe σ vs) H
  aside : Aside Φ Pr H (wipeS s vs) (L2.wipe σ vs) A
  at_ : H A = some (.lst acc)
  reps : Reps K Pr dacc acc
theorem Aside.heap {Φ : Fr0} {Pr H H' : Hp} {s : Sto} {σ : L2.St} {A : Addr} (h : Aside Φ Pr H s σ A) : Aside Φ Pr H' s σ A := ⟨h.pr, h.h0, h.nl, h.no⟩
theorem Aside.wipe {Φ : Fr0} {Pr H H' : Hp} {s : Sto} {σ : L2.St} {D : Addr} (A : Aside Φ Pr H s σ D) (vs : List Nat) : Aside Φ Pr H' (wipeS s vs) (L2.wipe σ vs) D := by
  refine ⟨A.pr, A.h0, A.nl, fun i t e m z => ?_⟩
  by_cases h : i ∈ vs
  · rw [wipeS_in h e] at m; cases m
  · rw [wipeS_get h] at e
    rw [wipe_get h] at z
    exact A.no i t e m z
theorem lcL_cons {g : G} {t : T} {e : E} {vs : List Nat} {d : D} {ds acc accF : List D} {s sF : Sto} (h : lcL g t e vs (d :: ds) acc s = .ok accF sF) :
    ∃ s1 b s2, g d (wipeS s vs) = some s1 ∧ t s1 = .ok b s2 ∧ ((b = true ∧ ∃ o s3 x s4, e s2 = .ok o s3 ∧ takeO o s3 = .ok x s4 ∧ acc.length < LIM ∧ lcL g t e vs ds (acc ++ [x]) s4 = .ok accF sF) ∨ (b = false ∧ lcL g t e vs ds acc s2 = .ok accF sF)) := by
  unfold lcL at h
  split at h
  · cases h
  · rename_i s1 h1
    cases h2 : t s1 with
    | exc c v s' => rw [h2] at h; cases h
    | bad => rw [h2] at h; cases h
    | ok b s2 =>
      rw [h2] at h
      simp only [noX_ok, R.bind_ok] at h
      refine ⟨s1, b, s2, h1, h2, ?_⟩
      cases b with
      | false => exact .inr ⟨rfl, h⟩
      | true =>
        simp only [if_true] at h
        cases h3 : e s2 with
        | exc c v s' => rw [h3] at h; cases h
        | bad => rw [h3] at h; cases h
        | ok o s3 =>
          rw [h3] at h
          simp only [noX_ok, R.bind_ok] at h
          rcases take_cases o s3 with ⟨x, s4, h4⟩ | h4
          · rw [h4] at h
            simp only [R.bind_ok] at h
            by_cases hl : acc.length < LIM
            · rw [if_pos hl] at h
              exact .inl ⟨rfl, o, s3, x, s4, rfl, h4, hl, h⟩
            · rw [if_neg hl] at h; cases h
          · rw [h4] at h; cases h
theorem lcL_res {g : G} {t : T} {e : E} {vs : List Nat} : ∀ (ds acc : List D) (s : Sto), (∃ a s', lcL g t e vs ds acc s = .ok a s') ∨ lcL g t e vs ds acc s = .bad
  | [], acc, s => .inl ⟨_, _, rfl⟩
  | d :: ds, acc, s => by
    unfold lcL
    split
    · exact .inr rfl
    · cases h2 : t _ with
      | exc c v s' => exact .inr rfl
      | bad => exact .inr rfl
      | ok b s2 =>
        simp only [noX_ok, R.bind_ok]
        cases b with
        | false => exact lcL_res ds acc s2
        | true =>
          simp only [if_true]
          cases h3 : e s2 with
          | exc c v s' => exact .inr rfl
          | bad => exact .inr rfl
          | ok o s3 =>
            simp only [noX_ok, R.bind_ok]
            rcases take_cases o s3 with ⟨x, s4, h4⟩ | h4
            · rw [h4]
              simp only [R.bind_ok]
              by_cases hl : acc.length < LIM
              · rw [if_pos hl]; exact lcL_res ds _ s4
              · rw [if_neg hl]; exact .inr rfl
            · rw [h4]; exact .inr rfl
theorem turn_of {Φ : Fr0} {Pr H' : Hp} {g : G} {is vs : List Nat} {t : T} {e : E} {d : D} {ds dacc accF : List D} {s sF : Sto} {σ : L2.St} {A : Addr} {acc : List V} {x : V} {Nx : Hp → Prop} (h : lcL g t e vs (d :: ds) dacc s = .ok accF sF)
    (S : Sim X.K (Φ.aside A acc) Pr (wipeS s vs) (L2.wipe σ vs) H') (h0 : Φ.H0 A = none) (hn : Pr A = none) (nl : ¬ Φ.Lent A) (hi : ∀ i ∈ is, i ∈ vs) (rx : Rep X.K Pr d x) (ra : Reps X.K Pr dacc acc)
    (hNx : ∀ P s' acc' dacc' H2, Le Pr P → Bld X.K Φ P H2 s' σ A vs dacc' acc' → lcL g t e vs ds dacc' s' = .ok accF sF → Nx H2) :
    gX X g is x (L2.wipe σ vs) H' fun σ2 H2 => L2.wipe σ2 vs = L2.wipe σ vs ∧ tX X t σ2 H2 fun b H3 =>
      if b = true then eX X e σ2 H3 fun y H4 => ∃ acc, H4 A = some (.lst acc) ∧ acc.length < sizeLine ∧ Nx (upd H4 A (.lst (acc ++ [y]))) else Nx H3 := by
  obtain ⟨s1, b, s2, h1, h2, hb⟩ := lcL_cons h
  have l0 : Le Φ.P0 Pr := S.le0
  refine ⟨Φ.aside A acc, Pr, wipeS s vs, d, s1, S, rx, h1, fun P3 σ2 l3 only S3 => ?_⟩
  have hw := wipe_only only hi
  refine ⟨hw, Φ.aside A acc, P3, s1, S3, ?_⟩
  rw [h2]
  intro P4 H4 l4 S4
  have fin : ∀ {P5 : Hp} {s5 : Sto} {H5 : Hp}, Le P4 P5 → Sim X.K (Φ.aside A acc) P5 s5 σ2 H5 → Sim X.K Φ P5 (wipeS s5 vs) (L2.wipe σ vs) H5 ∧ Aside Φ P5 H5 (wipeS s5 vs) (L2.wipe σ vs) A ∧ H5 A = some (.lst acc) := fun {P5 s5 H5} l5 S5 => by
    obtain ⟨q1, q2, q3⟩ := S5.ofAside h0 hn l0 nl
    exact ⟨by rw [← hw]; exact q1.wipe vs, by rw [← hw]; exact q2.wipe vs, q3⟩
  have l14 := l3.trans l4
  rcases hb with ⟨rfl, o, s3, y, s4, h3, h4, hl, h5⟩ | ⟨rfl, h5⟩
  · refine iteT ⟨Φ.aside A acc, P4, s2, S4, ?_⟩
    rw [h3]
    intro P5 H5 l5 S5 v hv
    obtain ⟨P6, l6, S6, r6⟩ := take_of S5 hv h4
    obtain ⟨q1, q2, q3⟩ := fin (l5.trans l6) S6
    refine ⟨acc, q3, by rw [ra.length, lim_eq]; exact hl, hNx P6 s4 (acc ++ [v]) (dacc ++ [y]) _ (l14.trans (l5.trans l6)) ⟨q1.touch q2 (fun _ _ z => nomatch z), q2.heap, upd_same, Reps.append (Reps.mono (l14.trans (l5.trans l6)) _ ra) (Reps.one r6)⟩ h5⟩
  · obtain ⟨q1, q2, q3⟩ := fin (Le.refl _) S4
    exact iteF (hNx P4 s2 acc dacc H4 l14 ⟨q1, q2, q3, Reps.mono l14 _ ra⟩ h5)
theorem restS_get {s0 : Sto} {j : Nat} : ∀ {vs : List Nat} {s : Sto}, j ∉ vs → (restS s0 s vs)[j]? = s[j]?
  | [], _, _ => rfl
  | v :: vs, s, h => by
    have ne : v ≠ j := fun z => h (by rw [← z]; exact List.mem_cons_self)
    have ih := restS_get (s0 := s0) (s := s) (vs := vs) fun z => h (List.mem_cons_of_mem _ z)
    unfold restS
    split <;> rw [List.getElem?_set_ne ne, ih]
theorem restS_len {s0 : Sto} : ∀ {vs : List Nat} {s : Sto}, (restS s0 s vs).length = s.length
  | [], _ => rfl
  | v :: vs, s => by unfold restS; split <;> rw [List.length_set, restS_len]
theorem restS_in {s0 : Sto} {j : Nat} {t : Slot} : ∀ {vs : List Nat} {s : Sto}, j ∈ vs → (restS s0 s vs)[j]? = some t → t.mut = false
  | v :: vs, s, h, e => by
    have gen : ∀ {u : Slot}, u.mut = false → ((restS s0 s vs).set v u)[j]? = some t → t.mut = false := fun {u} hu e => by
      by_cases hv : v = j
      · subst hv
        by_cases hl : v < (restS s0 s vs).length
        · rw [List.getElem?_set_self hl] at e; cases e; exact hu
        · rw [List.getElem?_eq_none (by simpa using hl)] at e; cases e
      · rw [List.getElem?_set_ne hv] at e
        rcases List.mem_cons.mp h with z | z
        · exact absurd z.symm hv
        · exact restS_in z e
    unfold restS at e
    split at e
    · exact gen rfl e
    · exact gen rfl e
theorem Bld.done {Φ : Fr0} {P0 Pr H0 H : Hp} {s0 s : Sto} {σ : L2.St} {A : Addr} {vs : List Nat} {dacc : List D} {acc : List V} (B : Bld X.K Φ Pr H s σ A vs dacc acc) (S0 : Sim X.K Φ P0 s0 σ H0) (le : Le P0 Pr) :
    Sim X.K Φ Pr (restS s0 s vs) σ H ∧ RepO X.K Φ Pr H (restS s0 s vs) σ (.own (.lst dacc)) (.ref A) := by
  refine ⟨S0.outer le B.sim, A, .lst acc, rfl, B.aside.pr, B.aside.h0, B.at_, B.reps, fun i t e m z => ?_⟩
  by_cases h : i ∈ vs
  · rw [restS_in h e] at m; cases m
  · rw [restS_get h] at e
    exact B.aside.no i t (by rw [wipeS_get h]; exact e) m (by rw [wipe_get h]; exact z)
theorem Bld.start {Φ : Fr0} {Pr H : Hp} {s : Sto} {σ : L2.St} {A : Addr} (vs : List Nat) (S : Sim X.K Φ Pr s σ H) (hA : H A = none) : Bld X.K Φ Pr (upd H A (.lst [])) s σ A vs [] [] := by
  obtain ⟨f1, f2, f3⟩ := S.fresh hA
  refine ⟨(S.alloc (o := .lst []) hA (fun _ _ z => (nomatch z))).wipe vs, (Aside.wipe (H := H) ⟨f1, f2, f3, fun i t e m z => ?_⟩ vs), upd_same, Reps.nil⟩
  obtain ⟨ov, h1, h2⟩ := S.slots i t e
  rw [h1] at z; cases z
  obtain ⟨_, ⟨u, q⟩, _⟩ := h2.there m
  rw [hA] at q; cases q
theorem se_lc {elt tg iter : Expr} {ifs : List Expr} {scope : Scope} {own : List (Str × Nat)} {pos : Pos} {f : Ws} {g : G} {t : T} {e : E} {is vs : List Nat} (hc : X.calm = true) (hN : X.N.Nodup) (hi : SI X W tg iter f) (ok : BlkOk X.N X.env.scope scope own) (hv : own.map (·.2) = vs) (his : ∀ i ∈ is, i ∈ vs)
    (hg : ∀ (s : Shared) (H : Hp) (C : Addr) (cl : List (Str × Addr)) (fp : List Addr), SG (X.blk s H scope (compEnvC scope cl C X.env) fp) tg g is) (ht : ∀ (s : Shared) (H : Hp) (C : Addr) (cl : List (Str × Addr)) (fp : List Addr), STs (X.blk s H scope (compEnvC scope cl C X.env) fp) ifs t)
    (he : ∀ (s : Shared) (H : Hp) (C : Addr) (cl : List (Str × Addr)) (fp : List Addr), SE (X.blk s H scope (compEnvC scope cl C X.env) fp) WF elt e) (hs : ∀ x, foldedSetIterable iter X.env x = pure x := by intro _; rfl) :
    SE X W (.ListComp elt [⟨tg, iter, ifs, 0⟩] scope pos) (sLc f g t e vs) := by
  subst hv
  refine ⟨fun Φ => peImp (pe_lc (g := gX X g is) (tt := tX X t) (te := eX X e) hc hN (hi.pi Φ) ok (fun s H C cl fp => pg_X (hg s H C cl fp)) (fun s H C cl fp => (ht s H C cl fp).pts) (fun s H C cl fp => pe_X (he s H C cl fp)) hs) fun σ H Q h => ?_⟩
  obtain ⟨Pr, st, S, h⟩ := h
  refine ⟨Pr, st, S, h.bind.imp fun ds s1 P1 H1 l1 S1 h1 P2 J l2 S2 wk A hA => ?_⟩
  rcases lcL_res (g := g) (t := t) (e := e) (vs := own.map (·.2)) ds [] s1 with ⟨accF, sF, hF⟩ | hF
  · rw [hF] at h1
    simp only [R.bind_ok] at h1
    refine ⟨fun i m H => ∃ Pr s acc dacc, Le P2 Pr ∧ Bld X.K Φ Pr H s σ A (own.map (·.2)) dacc acc ∧ m = ds.length - i ∧ lcL g t e (own.map (·.2)) (ds.drop i) dacc s = .ok accF sF, ⟨_, P2, s1, [], [], Le.refl _, Bld.start _ S2 hA, rfl, hF⟩, ?_⟩
    rintro i m H3 ⟨P3, s3, acc, dacc, l3, B, rfl, hl⟩
    obtain ⟨w1, w2⟩ := wk (Φ.aside A acc) rfl i P3 _ _ H3 l3 (B.sim.toAside B.aside B.at_)
    by_cases hlt : i < ds.length
    · right
      obtain ⟨g1, g2⟩ := w2 _ (List.getElem?_eq_getElem hlt)
      rw [List.drop_eq_getElem_cons hlt] at hl
      refine ⟨g1, fun H => ∃ Pr s acc dacc, Le P2 Pr ∧ Bld X.K Φ Pr H s σ A (own.map (·.2)) dacc acc ∧ lcL g t e (own.map (·.2)) (ds.drop (i + 1)) dacc s = .ok accF sF, fun H' ⟨P4, s4, acc4, dacc4, l4, B4, hl4⟩ => ⟨ds.length - (i + 1), by omega, P4, s4, acc4, dacc4, l4, B4, rfl, hl4⟩, fun x H4 hy => ?_⟩
      obtain ⟨P4, l4, S4, r4⟩ := g2 x H4 hy
      have pn : P4 A = none := by
        obtain ⟨q1, q2, q3⟩ := S4.ofAside B.aside.h0 B.aside.pr B.sim.le0 B.aside.nl
        exact q2.pr
      exact turn_of hl S4 B.aside.h0 pn B.aside.nl his r4 (Reps.mono l4 _ B.reps) fun P s' acc' dacc' H2 le B' hl' => ⟨P, s', acc', dacc', l3.trans (l4.trans le), B', hl'⟩
    · left
      refine ⟨w1 (by omega), ?_⟩
      rw [List.drop_eq_nil_of_le (by omega)] at hl
      unfold lcL at hl
      cases hl
      obtain ⟨q1, q2⟩ := B.done S1 (l2.trans l3)
      exact h1 P3 H3 (l2.trans l3) q1 _ q2
  · rw [hF] at h1
    exact h1.elim
theorem ss_setLc {i : Nat} {y : Str} {py : Pos} {elt tg iter : Expr} {ifs : List Expr} {scope : Scope} {own : List (Str × Nat)} {pos spos : Pos} {f : Ws} {g : G} {t : T} {e : E} {is vs : List Nat} (hc : X.calm = true) (hN : X.N.Nodup) (hy : X.N[i]? = some y) (hyl : X.env.scope.names.lookup y = some .local)
    (hsw : swapsWith (.ListComp elt [⟨tg, iter, ifs, 0⟩] scope pos) (some (.Name y py)) spos.line X.env = pure true) (hi : SI X W tg iter f) (ok : BlkOk X.N X.env.scope scope own) (hv : own.map (·.2) = vs) (his : ∀ i ∈ is, i ∈ vs)
    (hg : ∀ (s : Shared) (H : Hp) (C : Addr) (cl : List (Str × Addr)) (fp : List Addr), SG (X.blk s H scope (compEnvC scope cl C X.env) fp) tg g is) (ht : ∀ (s : Shared) (H : Hp) (C : Addr) (cl : List (Str × Addr)) (fp : List Addr), STs (X.blk s H scope (compEnvC scope cl C X.env) fp) ifs t)
    (he : ∀ (s : Shared) (H : Hp) (C : Addr) (cl : List (Str × Addr)) (fp : List Addr), SE (X.blk s H scope (compEnvC scope cl C X.env) fp) WF elt e) (hs : ∀ x, foldedSetIterable iter X.env x = pure x := by intro _; rfl) :
    SS X W (.Assign [.Name y py] (.ListComp elt [⟨tg, iter, ifs, 0⟩] scope pos) spos) (sAsg i (sLc f g t e vs)) := by
  subst hv
  refine ⟨fun Φ => psImp (ps_setLc (i := i) (g := gX X g is) (tt := tX X t) (te := eX X e) hc hN hy hyl hsw (hi.pi Φ) ok (fun s H C cl fp => pg_X (hg s H C cl fp)) (fun s H C cl fp => (ht s H C cl fp).pts) (fun s H C cl fp => pe_X (he s H C cl fp)) hs) fun D σ H h => ?_⟩
  obtain ⟨Pr, st, S, h⟩ := h
  have h : Aft X Φ W Pr σ (sLc f g t e (own.map (·.2)) st) fun o st' Pr' H' => ∀ v, RepO X.K Φ Pr' H' st' σ o v → D.nx (σ.set i (some v)) H' := (kR_of trivial h).imp fun o s1 P1 H1 l1 S1 h1 v hv => asgO_of S1 hv h1
  refine ⟨Pr, st, S, h.bind.imp fun ds s1 P1 H1 l1 S1 h1 P2 J l2 S2 wk A hA => ?_⟩
  rcases lcL_res (g := g) (t := t) (e := e) (vs := own.map (·.2)) ds [] s1 with ⟨accF, sF, hF⟩ | hF
  · rw [hF] at h1
    simp only [R.bind_ok] at h1
    refine ⟨fun i m H => ∃ Pr s acc dacc, Le P2 Pr ∧ Bld X.K Φ Pr H s σ A (own.map (·.2)) dacc acc ∧ m = ds.length - i ∧ lcL g t e (own.map (·.2)) (ds.drop i) dacc s = .ok accF sF, ⟨_, P2, s1, [], [], Le.refl _, Bld.start _ S2 hA, rfl, hF⟩, ?_⟩
    rintro i' m H3 ⟨P3, s3, acc, dacc, l3, B, rfl, hl⟩
    obtain ⟨w1, w2⟩ := wk (Φ.aside A acc) rfl i' P3 _ _ H3 l3 (B.sim.toAside B.aside B.at_)
    by_cases hlt : i' < ds.length
    · right
      obtain ⟨g1, g2⟩ := w2 _ (List.getElem?_eq_getElem hlt)
      rw [List.drop_eq_getElem_cons hlt] at hl
      refine ⟨g1, fun H => ∃ Pr s acc dacc, Le P2 Pr ∧ Bld X.K Φ Pr H s σ A (own.map (·.2)) dacc acc ∧ lcL g t e (own.map (·.2)) (ds.drop (i' + 1)) dacc s = .ok accF sF, fun H' ⟨P4, s4, acc4, dacc4, l4, B4, hl4⟩ => ⟨ds.length - (i' + 1), by omega, P4, s4, acc4, dacc4, l4, B4, rfl, hl4⟩, fun x H4 hy => ?_⟩
      obtain ⟨P4, l4, S4, r4⟩ := g2 x H4 hy
      have pn : P4 A = none := by
        obtain ⟨q1, q2, q3⟩ := S4.ofAside B.aside.h0 B.aside.pr B.sim.le0 B.aside.nl
        exact q2.pr
      exact turn_of hl S4 B.aside.h0 pn B.aside.nl his r4 (Reps.mono l4 _ B.reps) fun P s' acc' dacc' H2 le B' hl' => ⟨P, s', acc', dacc', l3.trans (l4.trans le), B', hl'⟩
    · left
      refine ⟨w1 (by omega), ?_⟩
      rw [List.drop_eq_nil_of_le (by omega)] at hl
      unfold lcL at hl
      cases hl
      obtain ⟨q1, q2⟩ := B.done S1 (l2.trans l3)
      exact h1 P3 H3 (l2.trans l3) q1 _ q2
  · rw [hF] at h1
    exact h1.elim
end
end Dv
namespace Dv
open PySem L2
section
variable {X : Cx} {W : WX}
theorem lcM_cons {g : G} {t : T} {f1 : Ws} {inner : List D → List D → Sto → R (List D)} {vs : List Nat} {d : D} {ds acc accF : List D} {s sF : Sto} (hn : ∀ ds acc s, (∃ a s', inner ds acc s = .ok a s') ∨ inner ds acc s = .bad) (h : lcM g t f1 inner vs (d :: ds) acc s = .ok accF sF) :
    ∃ s1 b s2, g d (wipeS s vs) = some s1 ∧ t s1 = .ok b s2 ∧ ((b = true ∧ ∃ ds1 s3 acc' s4, f1 s2 = .ok ds1 s3 ∧ inner ds1 acc s3 = .ok acc' s4 ∧ lcM g t f1 inner vs ds acc' s4 = .ok accF sF) ∨ (b = false ∧ lcM g t f1 inner vs ds acc s2 = .ok accF sF)) := by
  unfold lcM at h
  split at h
  · cases h
  · rename_i s1 h1
    cases h2 : t s1 with
    | exc c v s' => rw [h2] at h; cases h
    | bad => rw [h2] at h; cases h
    | ok b s2 =>
      rw [h2] at h
      simp only [noX_ok, R.bind_ok] at h
      refine ⟨s1, b, s2, h1, h2, ?_⟩
      cases b with
      | false => exact .inr ⟨rfl, h⟩
      | true =>
        simp only [if_true] at h
        cases h3 : f1 s2 with
        | exc c v s' => rw [h3] at h; cases h
        | bad => rw [h3] at h; cases h
        | ok o s3 =>
          rw [h3] at h
          simp only [noX_ok, R.bind_ok] at h
          rcases hn o acc s3 with ⟨a, s4, h4⟩ | h4
          · rw [h4] at h
            exact .inl ⟨rfl, o, s3, a, s4, rfl, h4, h⟩
          · rw [h4] at h; cases h
theorem lcM_res {g : G} {t : T} {f1 : Ws} {inner : List D → List D → Sto → R (List D)} {vs : List Nat} (hn : ∀ ds acc s, (∃ a s', inner ds acc s = .ok a s') ∨ inner ds acc s = .bad) : ∀ (ds acc : List D) (s : Sto), (∃ a s', lcM g t f1 inner vs ds acc s = .ok a s') ∨ lcM g t f1 inner vs ds acc s = .bad
  | [], acc, s => .inl ⟨_, _, rfl⟩
  | d :: ds, acc, s => by
    unfold lcM
    split
    · exact .inr rfl
    · cases h2 : t _ with
      | exc c v s' => exact .inr rfl
      | bad => exact .inr rfl
      | ok b s2 =>
        simp only [noX_ok, R.bind_ok]
        cases b with
        | false => exact lcM_res hn ds acc s2
        | true =>
          simp only [if_true]
          cases h3 : f1 s2 with
          | exc c v s' => exact .inr rfl
          | bad => exact .inr rfl
          | ok o s3 =>
            simp only [noX_ok, R.bind_ok]
            rcases hn o acc s3 with ⟨a, s4, h4⟩ | h4
            · rw [h4]; exact lcM_res hn ds _ s4
            · rw [h4]; exact .inr rfl
theorem lc2_loop {Φ : Fr0} {P2 H1 : Hp} {s1 sF : Sto} {σ : L2.St} {A : Addr} {J : It} {ds accF : List D} {g g1 : G} {t t1 : T} {f1 : Ws} {e : E} {is is1 vs vs1 : List Nat} {Qr : Hp → Prop} (S2 : Sim X.K Φ P2 s1 σ H1) (hA : H1 A = none) (wk : ∀ Φ' : Fr0, Φ'.lk = Φ.lk → Walks X Φ' J ds P2)
    (hF : lcM g t f1 (lcL g1 t1 e vs1) vs ds [] s1 = .ok accF sF) (his : ∀ i ∈ is, i ∈ vs) (his1 : ∀ i ∈ is1, i ∈ vs1) (hv : ∀ i ∈ vs1, i ∈ vs)
    (hQ : ∀ P3 H3 acc, Le P2 P3 → Bld X.K Φ P3 H3 sF σ A vs accF acc → Qr H3) :
    ∃ W : Nat → Nat → Hp → Prop, (∃ m, W 0 m (upd H1 A (.lst []))) ∧ ∀ i m H, W i m H →
      (J.stop i H ∧ Qr H) ∨ (J.go i H ∧ ∃ Nx : Hp → Prop, (∀ H', Nx H' → ∃ m', m' < m ∧ W (i + 1) m' H') ∧ ∀ x H', J.yld i H x H' → gX X g is x (L2.wipe σ vs) H' fun σ2 H2 => L2.wipe σ2 vs = L2.wipe σ vs ∧ tX X t σ2 H2 fun b H3 =>
        if b = true then wX X f1 σ2 H3 fun J1 H4 => ∃ W1 : Nat → Nat → Hp → Prop, (∃ m, W1 0 m H4) ∧ ∀ j k H, W1 j k H →
          (J1.stop j H ∧ Nx H) ∨ (J1.go j H ∧ ∃ Nx1 : Hp → Prop, (∀ H', Nx1 H' → ∃ k', k' < k ∧ W1 (j + 1) k' H') ∧ ∀ x H', J1.yld j H x H' → gX X g1 is1 x (L2.wipe σ2 vs1) H' fun σ3 H5 => L2.wipe σ3 vs1 = L2.wipe σ2 vs1 ∧ tX X t1 σ3 H5 fun b H6 =>
            if b = true then eX X e σ3 H6 fun y H7 => ∃ acc, H7 A = some (.lst acc) ∧ acc.length < sizeLine ∧ Nx1 (upd H7 A (.lst (acc ++ [y]))) else Nx1 H6)
        else Nx H3) := by
  refine ⟨fun i m H => ∃ Pr s acc dacc, Le P2 Pr ∧ Bld X.K Φ Pr H s σ A vs dacc acc ∧ m = ds.length - i ∧ lcM g t f1 (lcL g1 t1 e vs1) vs (ds.drop i) dacc s = .ok accF sF, ⟨_, P2, s1, [], [], Le.refl _, Bld.start _ S2 hA, rfl, hF⟩, ?_⟩
  rintro i m H3 ⟨P3, s3, acc, dacc, l3, B, rfl, hl⟩
  obtain ⟨w1, w2⟩ := wk (Φ.aside A acc) rfl i P3 _ _ H3 l3 (B.sim.toAside B.aside B.at_)
  by_cases hlt : i < ds.length
  · right
    obtain ⟨g1', g2'⟩ := w2 _ (List.getElem?_eq_getElem hlt)
    rw [List.drop_eq_getElem_cons hlt] at hl
    refine ⟨g1', fun H => ∃ Pr s acc dacc, Le P2 Pr ∧ Bld X.K Φ Pr H s σ A vs dacc acc ∧ lcM g t f1 (lcL g1 t1 e vs1) vs (ds.drop (i + 1)) dacc s = .ok accF sF, fun H' ⟨P4, s4, acc4, dacc4, l4, B4, hl4⟩ => ⟨ds.length - (i + 1), by omega, P4, s4, acc4, dacc4, l4, B4, rfl, hl4⟩, fun x H4 hy => ?_⟩
    obtain ⟨P4, l4, S4, r4⟩ := g2' x H4 hy
    obtain ⟨s5, b, s6, h1, h2, hb⟩ := lcM_cons (fun ds acc s => lcL_res ds acc s) hl
    refine ⟨Φ.aside A acc, P4, wipeS s3 vs, ds[i], s5, S4, r4, h1, fun P5 σ2 l5 only S5 => ?_⟩
    have hw := wipe_only only his
    refine ⟨hw, Φ.aside A acc, P5, s5, S5, ?_⟩
    rw [h2]
    intro P6 H6 l6 S6
    have l36 : Le P3 P6 := l4.trans (l5.trans l6)
    have P3A : P3 A = none := B.aside.pr
    have back : ∀ {Pz : Hp} {sz : Sto} {Hz : Hp} {accz : List V}, Sim X.K (Φ.aside A accz) Pz sz σ2 Hz → Sim X.K Φ Pz sz σ2 Hz ∧ Aside Φ Pz Hz sz σ2 A ∧ Hz A = some (.lst accz) := fun S => S.ofAside B.aside.h0 P3A B.sim.le0 B.aside.nl
    rcases hb with ⟨rfl, ds1, s7, acc', s8, h3, h4, h5⟩ | ⟨rfl, h5⟩
    · refine iteT ⟨Φ.aside A acc, P6, s6, S6, ?_⟩
      rw [h3]
      intro P7 H7 l7 S7 P8 J1 l8 S8 wk1
      have l38 : Le P3 P8 := l36.trans (l7.trans l8)
      obtain ⟨q1, q2, q3⟩ := back S8
      refine ⟨fun j k H => ∃ Pr s acc dacc, Le P8 Pr ∧ Bld X.K Φ Pr H s σ2 A vs1 dacc acc ∧ k = ds1.length - j ∧ lcL g1 t1 e vs1 (ds1.drop j) dacc s = .ok acc' s8, ⟨_, P8, s7, acc, dacc, Le.refl _, ⟨q1.wipe vs1, q2.wipe vs1, q3, Reps.mono l38 _ B.reps⟩, rfl, h4⟩, ?_⟩
      rintro j k H9 ⟨P9, s9, acc9, dacc9, l9, B9, rfl, hl9⟩
      obtain ⟨v1, v2⟩ := wk1 (Φ.aside A acc9) rfl j P9 _ _ H9 l9 (B9.sim.toAside B9.aside B9.at_)
      by_cases hlt1 : j < ds1.length
      · right
        obtain ⟨u1, u2⟩ := v2 _ (List.getElem?_eq_getElem hlt1)
        rw [List.drop_eq_getElem_cons hlt1] at hl9
        refine ⟨u1, fun H => ∃ Pr s acc dacc, Le P8 Pr ∧ Bld X.K Φ Pr H s σ2 A vs1 dacc acc ∧ lcL g1 t1 e vs1 (ds1.drop (j + 1)) dacc s = .ok acc' s8, fun H' ⟨P4, s4, acc4, dacc4, l4, B4, hl4⟩ => ⟨ds1.length - (j + 1), by omega, P4, s4, acc4, dacc4, l4, B4, rfl, hl4⟩, fun x H10 hy1 => ?_⟩
        obtain ⟨P10, l10, S10, r10⟩ := u2 x H10 hy1
        have pn : P10 A = none := by
          obtain ⟨q1, q2, q3⟩ := S10.ofAside B9.aside.h0 B9.aside.pr B9.sim.le0 B9.aside.nl
          exact q2.pr
        exact turn_of hl9 S10 B9.aside.h0 pn B9.aside.nl his1 r10 (Reps.mono l10 _ B9.reps) fun P s' acc' dacc' H2 le B' hl' => ⟨P, s', acc', dacc', l9.trans (l10.trans le), B', hl'⟩
      · left
        refine ⟨v1 (by omega), ?_⟩
        rw [List.drop_eq_nil_of_le (by omega)] at hl9
        unfold lcL at hl9
        cases hl9
        have z1 := B9.sim.wipe vs
        rw [wipeS_sub hv, wipe_sub hv, hw] at z1
        have z2 := B9.aside.wipe (H' := H9) vs
        rw [wipeS_sub hv, wipe_sub hv, hw] at z2
        exact ⟨P9, _, acc9, _, l3.trans (l38.trans l9), ⟨z1, z2, B9.at_, B9.reps⟩, h5⟩
    · obtain ⟨q1, q2, q3⟩ := back S6
      refine iteF ⟨P6, s6, acc, dacc, l3.trans l36, ⟨by rw [← hw]; exact q1.wipe vs, by rw [← hw]; exact q2.wipe vs, q3, Reps.mono l36 _ B.reps⟩, h5⟩
  · left
    refine ⟨w1 (by omega), ?_⟩
    rw [List.drop_eq_nil_of_le (by omega)] at hl
    unfold lcM at hl
    cases hl
    exact hQ P3 H3 acc l3 B
theorem se_lc2 {elt tg iter tg1 iter1 : Expr} {ifs ifs1 : List Expr} {scope : Scope} {own : List (Str × Nat)} {pos : Pos} {f f1 : Ws} {g g1 : G} {t t1 : T} {e : E} {is is1 vs vs1 : List Nat} (hc : X.calm = true) (hN : X.N.Nodup) (hi : SI X W tg iter f) (ok : BlkOk X.N X.env.scope scope own) (hv : own.map (·.2) = vs) (his : ∀ i ∈ is, i ∈ vs) (his1 : ∀ i ∈ is1, i ∈ vs1) (hv1 : ∀ i ∈ vs1, i ∈ vs)
    (hg : ∀ (s : Shared) (H : Hp) (C : Addr) (cl : List (Str × Addr)) (fp : List Addr), SG (X.blk s H scope (compEnvC scope cl C X.env) fp) tg g is) (ht : ∀ (s : Shared) (H : Hp) (C : Addr) (cl : List (Str × Addr)) (fp : List Addr), STs (X.blk s H scope (compEnvC scope cl C X.env) fp) ifs t)
    (hi1 : ∀ (s : Shared) (H : Hp) (C : Addr) (cl : List (Str × Addr)) (fp : List Addr), SI (X.blk s H scope (compEnvC scope cl C X.env) fp) WF tg1 iter1 f1)
    (hg1 : ∀ (s : Shared) (H : Hp) (C : Addr) (cl : List (Str × Addr)) (fp : List Addr), SG (X.blk s H scope (compEnvC scope cl C X.env) fp) tg1 g1 is1) (ht1 : ∀ (s : Shared) (H : Hp) (C : Addr) (cl : List (Str × Addr)) (fp : List Addr), STs (X.blk s H scope (compEnvC scope cl C X.env) fp) ifs1 t1)
    (he : ∀ (s : Shared) (H : Hp) (C : Addr) (cl : List (Str × Addr)) (fp : List Addr), SE (X.blk s H scope (compEnvC scope cl C X.env) fp) WF elt e) (hs : ∀ x, foldedSetIterable iter X.env x = pure x := by intro _; rfl) (hs1 : ∀ env x, foldedSetIterable iter1 env x = pure x := by intro _ _; rfl) :
    SE X W (.ListComp elt [⟨tg, iter, ifs, 0⟩, ⟨tg1, iter1, ifs1, 0⟩] scope pos) (sLc2 f g t f1 g1 t1 e vs vs1) := by
  subst hv
  refine ⟨fun Φ => peImp (pe_lc2 (g := gX X g is) (tt := tX X t) (te := eX X e) (g1 := gX X g1 is1) (tt1 := tX X t1) (wi1 := wX X f1) (vs1 := vs1) hc hN (hi.pi Φ) ok hv1 (fun s H C cl fp => pg_X (hg s H C cl fp)) (fun s H C cl fp => (ht s H C cl fp).pts) (fun s H C cl fp => pi_X (hi1 s H C cl fp)) (fun s H C cl fp => pg_X (hg1 s H C cl fp)) (fun s H C cl fp => (ht1 s H C cl fp).pts) (fun s H C cl fp => pe_X (he s H C cl fp)) hs hs1) fun σ H Q h => ?_⟩
  obtain ⟨Pr, st, S, h⟩ := h
  refine ⟨Pr, st, S, h.bind.imp fun ds s1 P1 H1 l1 S1 h1 P2 J l2 S2 wk A hA => ?_⟩
  rcases lcM_res (g := g) (t := t) (f1 := f1) (vs := own.map (·.2)) (fun ds acc s => lcL_res (g := g1) (t := t1) (e := e) (vs := vs1) ds acc s) ds [] s1 with ⟨accF, sF, hF⟩ | hF
  · rw [hF] at h1
    simp only [R.bind_ok] at h1
    exact lc2_loop S2 hA wk hF his his1 hv1 fun P3 H3 acc l3 B => by
      obtain ⟨q1, q2⟩ := B.done S1 (l2.trans l3)
      exact h1 P3 H3 (l2.trans l3) q1 _ q2
  · rw [hF] at h1
    exact h1.elim
theorem ss_setLc2 {i : Nat} {y : Str} {py : Pos} {elt tg iter tg1 iter1 : Expr} {ifs ifs1 : List Expr} {scope : Scope} {own : List (Str × Nat)} {pos spos : Pos} {f f1 : Ws} {g g1 : G} {t t1 : T} {e : E} {is is1 vs vs1 : List Nat} (hc : X.calm = true) (hN : X.N.Nodup) (hy : X.N[i]? = some y) (hyl : X.env.scope.names.lookup y = some .local)
    (hsw : swapsWith (.ListComp elt [⟨tg, iter, ifs, 0⟩, ⟨tg1, iter1, ifs1, 0⟩] scope pos) (some (.Name y py)) spos.line X.env = pure true) (hi : SI X W tg iter f) (ok : BlkOk X.N X.env.scope scope own) (hv : own.map (·.2) = vs) (his : ∀ i ∈ is, i ∈ vs) (his1 : ∀ i ∈ is1, i ∈ vs1) (hv1 : ∀ i ∈ vs1, i ∈ vs)
    (hg : ∀ (s : Shared) (H : Hp) (C : Addr) (cl : List (Str × Addr)) (fp : List Addr), SG (X.blk s H scope (compEnvC scope cl C X.env) fp) tg g is) (ht : ∀ (s : Shared) (H : Hp) (C : Addr) (cl : List (Str × Addr)) (fp : List Addr), STs (X.blk s H scope (compEnvC scope cl C X.env) fp) ifs t)
    (hi1 : ∀ (s : Shared) (H : Hp) (C : Addr) (cl : List (Str × Addr)) (fp : List Addr), SI (X.blk s H scope (compEnvC scope cl C X.env) fp) WF tg1 iter1 f1)
    (hg1 : ∀ (s : Shared) (H : Hp) (C : Addr) (cl : List (Str × Addr)) (fp : List Addr), SG (X.blk s H scope (compEnvC scope cl C X.env) fp) tg1 g1 is1) (ht1 : ∀ (s : Shared) (H : Hp) (C : Addr) (cl : List (Str × Addr)) (fp : List Addr), STs (X.blk s H scope (compEnvC scope cl C X.env) fp) ifs1 t1)
    (he : ∀ (s : Shared) (H : Hp) (C : Addr) (cl : List (Str × Addr)) (fp : List Addr), SE (X.blk s H scope (compEnvC scope cl C X.env) fp) WF elt e) (hs : ∀ x, foldedSetIterable iter X.env x = pure x := by intro _; rfl) (hs1 : ∀ env x, foldedSetIterable iter1 env x = pure x := by intro _ _; rfl) :
    SS X W (.Assign [.Name y py] (.ListComp elt [⟨tg, iter, ifs, 0⟩, ⟨tg1, iter1, ifs1, 0⟩] scope pos) spos) (sAsg i (sLc2 f g t f1 g1 t1 e vs vs1)) := by
  subst hv
  refine ⟨fun Φ => psImp (ps_setLc2 (i := i) (g := gX X g is) (tt := tX X t) (te := eX X e) (g1 := gX X g1 is1) (tt1 := tX X t1) (wi1 := wX X f1) (vs1 := vs1) hc hN hy hyl hsw (hi.pi Φ) ok hv1 (fun s H C cl fp => pg_X (hg s H C cl fp)) (fun s H C cl fp => (ht s H C cl fp).pts) (fun s H C cl fp => pi_X (hi1 s H C cl fp)) (fun s H C cl fp => pg_X (hg1 s H C cl fp)) (fun s H C cl fp => (ht1 s H C cl fp).pts) (fun s H C cl fp => pe_X (he s H C cl fp)) hs hs1) fun D σ H h => ?_⟩
  obtain ⟨Pr, st, S, h⟩ := h
  have h : Aft X Φ W Pr σ (sLc2 f g t f1 g1 t1 e (own.map (·.2)) vs1 st) fun o st' Pr' H' => ∀ v, RepO X.K Φ Pr' H' st' σ o v → D.nx (σ.set i (some v)) H' := (kR_of trivial h).imp fun o s1 P1 H1 l1 S1 h1 v hv => asgO_of S1 hv h1
  refine ⟨Pr, st, S, h.bind.imp fun ds s1 P1 H1 l1 S1 h1 P2 J l2 S2 wk A hA => ?_⟩
  rcases lcM_res (g := g) (t := t) (f1 := f1) (vs := own.map (·.2)) (fun ds acc s => lcL_res (g := g1) (t := t1) (e := e) (vs := vs1) ds acc s) ds [] s1 with ⟨accF, sF, hF⟩ | hF
  · rw [hF] at h1
    simp only [R.bind_ok] at h1
    exact lc2_loop S2 hA wk hF his his1 hv1 fun P3 H3 acc l3 B => by
      obtain ⟨q1, q2⟩ := B.done S1 (l2.trans l3)
      exact h1 P3 H3 (l2.trans l3) q1 _ q2
  · rw [hF] at h1
    exact h1.elim
end
end Dv
namespace Dv
open PySem L2
def toP (d : D) : PyData := (D.toPy d).getD .none
theorem toP_of {d : D} {p : PyData} (h : D.toPy d = some p) : toP d = p := by unfold toP; rw [h]; rfl
def nonD : D → Bool
  | .non => true
  | _ => false
def ltOk (d e : D) : Bool := D.isPy d && D.isPy e && PySem.W.alike (toP d) (toP e) && !nonD d && !nonD e && decide (min (D.dep d) (D.dep e) ≤ DEEP)
def ltB (d e : D) : Bool := PySem.W.dataLt (toP d) (toP e)
def ltD (d e : D) : Option Opd := if ltOk d e then some (.val (.bl (ltB d e))) else none
def gtD (d e : D) : Option Opd := if ltOk d e then some (.val (.bl (ltB e d))) else none
def leD (d e : D) : Option Opd := if ltOk d e then some (.val (.bl (!ltB e d))) else none
def geD (d e : D) : Option Opd := if ltOk d e then some (.val (.bl (!ltB d e))) else none
theorem toPy_non {d : D} (h : D.toPy d = some .none) : nonD d = true := by
  cases d <;> unfold D.toPy at h <;> first | rfl | (simp only [Option.map_eq_some_iff] at h; obtain ⟨_, _, z⟩ := h; cases z) | cases h
section
variable {X : Cx} {n : Nat}
theorem ltOk_py {K : PySem.W.Frag} {Φ : Fr0} {Pr H : Hp} {st : Sto} {σ : L2.St} {d e : D} {x y : V} (S : Sim K Φ Pr st σ H) (h : ltOk d e = true) (px : Pk K Pr H d x) (py : Pk K Pr H e y) :
    Dp K H x (toP d) ∧ Dp K H y (toP e) ∧ PySem.W.alike (toP d) (toP e) = true ∧ toP d ≠ .none ∧ toP e ≠ .none ∧ min (toP d).depth (toP e).depth ≤ 150 := by
  unfold ltOk at h
  simp only [Bool.and_eq_true, decide_eq_true_eq, Bool.not_eq_true'] at h
  obtain ⟨⟨⟨⟨⟨h1, h2⟩, h3⟩, h4⟩, h5⟩, h6⟩ := h
  obtain ⟨p1, e1, d1, c1, n1⟩ := pk_py S h1 px
  obtain ⟨p2, e2, d2, c2, n2⟩ := pk_py S h2 py
  rw [toP_of e1, toP_of e2] at h3 ⊢
  refine ⟨d1, d2, h3, fun z => ?_, fun z => ?_, by rw [n1, n2]; exact h6⟩
  · rw [z] at e1; rw [toPy_non e1] at h4; cases h4
  · rw [z] at e2; rw [toPy_non e2] at h5; cases h5
theorem os_cmpG {op : CmpOp} {G : PyData → PyData → Bool} {F : D → D → Option Opd} (hF : ∀ d e, F d e = if ltOk d e then some (.val (.bl (G (toP d) (toP e)))) else none)
    (hq : ∀ {s : Shared} {a b : Value} {da db : PyData} {as bs : List Addr} {Q : Value → Shared → Prop}, Reads s.heap a da as → Reads s.heap b db bs → PySem.W.alike da db = true → da ≠ .none → X.A.units + min da.depth db.depth < cLine → Q (.bool (G da db)) s → wpAny (model X.prog X.w) X.A (compareOp op a b) Q X.xe s)
    (hr : Room n X.A) : OpS X (compareOp op) F := by
  refine ⟨fun x y H Q => ∃ d e, Dp X.K H x d ∧ Dp X.K H y e ∧ PySem.W.alike d e = true ∧ d ≠ .none ∧ min d.depth e.depth ≤ 150 ∧ Q (.bl (G d e)) H, ?_, ?_⟩
  · intro pins s σ H x y v u Q I rx ry h
    obtain ⟨d, e, hd, he, ha, hn, hm, q⟩ := h
    obtain ⟨as, r1⟩ := Dp.reads I d x v hd rx
    obtain ⟨bs, r2⟩ := Dp.reads I e y u he ry
    exact hq r1 r2 ha hn (by have := room200 hr; omega) ⟨.bl _, H, I, rfl, q⟩
  · intro Φ Pr st σ H dx dy x y o Q S px py e q
    rw [hF] at e
    split at e
    · rename_i h
      cases e
      obtain ⟨d1, d2, h3, h4, h5, h6⟩ := ltOk_py S h px py
      exact ⟨_, _, d1, d2, h3, h4, h6, q Pr H _ (Le.refl _) S ro_bl⟩
    · cases e
theorem os_lt (hr : Room n X.A) : OpS X (compareOp .Lt) ltD := os_cmpG (G := fun a b => PySem.W.dataLt a b) (fun _ _ => rfl) (fun r1 r2 a h u q => PySem.W.lt_data r1 r2 a h u q) hr
theorem os_gt (hr : Room n X.A) : OpS X (compareOp .Gt) gtD := os_cmpG (G := fun a b => PySem.W.dataLt b a) (fun _ _ => rfl) (fun r1 r2 a h u q => PySem.W.gt_data r1 r2 a h u q) hr
theorem os_le (hr : Room n X.A) : OpS X (compareOp .LtE) leD := os_cmpG (G := fun a b => !PySem.W.dataLt b a) (fun _ _ => rfl) (fun r1 r2 a h u q => PySem.W.le_data r1 r2 a h u q) hr
theorem os_ge (hr : Room n X.A) : OpS X (compareOp .GtE) geD := os_cmpG (G := fun a b => !PySem.W.dataLt a b) (fun _ _ => rfl) (fun r1 r2 a h u q => PySem.W.ge_data r1 r2 a h u q) hr
def inOk (d : D) (l : List D) : Bool := D.isPy d && D.isPyAll l && decide (min (D.depAll l) (D.dep d) ≤ DEEP)
def inB (d : D) (l : List D) : Bool := l.any fun z => eqvD z d
def one? (x : Str) : Option Nat := match x.cps.toList with
  | [c] => some c
  | _ => none
def inG (g : Bool → Bool) (x y : D) : Option Opd := match y with
  | .lst l => if inOk x l then some (.val (.bl (g (inB x l)))) else none
  | .tup l => if inOk x l then some (.val (.bl (g (inB x l)))) else none
  | .str z => match x with
    | .str c => (one? c).bind fun k => some (.val (.bl (g (decide (k ∈ z.cps.toList)))))
    | _ => none
  | _ => none
def inD := inG id
def ninD := inG not
theorem one_str {x : Str} {c : Nat} (h : one? x = some c) : x = ⟨#[c]⟩ := by
  unfold one? at h
  split at h
  · rename_i k e
    cases h
    cases x with
    | mk a => cases a with | mk l => simp only at e; subst e; rfl
  · cases h
theorem any_toPy {d : D} {p : PyData} (h : D.toPy d = some p) : ∀ {l : List D} {ps : List PyData}, D.toPyAll l = some ps → (ps.any fun y => PyData.eqv y p) = inB d l
  | [], _, e => by cases e; rfl
  | x :: l, _, e => by
    unfold D.toPyAll at e
    split at e
    · rename_i q r h1 h2
      cases e
      unfold inB
      rw [List.any_cons, List.any_cons, any_toPy h h2, eqv_py x d h1 h]
      rfl
    · cases e
theorem os_inG {op : CmpOp} {g : Bool → Bool} (hr : Room n X.A) (hs : OpR X (compareOp op) (fun x y H Q => ∃ (c : Nat) (z : Str), x = .str ⟨#[c]⟩ ∧ y = .str z ∧ Q (.bl (g (decide (c ∈ z.cps.toList)))) H))
    (hl : ∀ {s : Shared} {c x : Value} {xs : List PyData} {d : PyData} {as bs : List Addr} {Q : Value → Shared → Prop}, Reads s.heap c (.list xs) as → Reads s.heap x d bs → PyData.canLayAll0 xs = true → d.canLay0 = true → X.A.units + 1 + min (PyData.depthAll xs) d.depth < cLine → Q (.bool (g (xs.any fun y => PyData.eqv y d))) s → wpAny (model X.prog X.w) X.A (compareOp op x c) Q X.xe s)
    (ht : ∀ {s : Shared} {c x : Value} {xs : List PyData} {d : PyData} {as bs : List Addr} {Q : Value → Shared → Prop}, Reads s.heap c (.tuple xs) as → Reads s.heap x d bs → PyData.canLayAll0 xs = true → d.canLay0 = true → X.A.units + 1 + min (PyData.depthAll xs) d.depth < cLine → Q (.bool (g (xs.any fun y => PyData.eqv y d))) s → wpAny (model X.prog X.w) X.A (compareOp op x c) Q X.xe s) :
    OpS X (compareOp op) (inG g) := by
  refine ⟨fun x y H Q => (∃ d ps, Dp X.K H x d ∧ (Dp X.K H y (.list ps) ∨ Dp X.K H y (.tuple ps)) ∧ PyData.canLayAll0 ps = true ∧ d.canLay0 = true ∧ min (PyData.depthAll ps) d.depth ≤ 150 ∧ Q (.bl (g (ps.any fun y => PyData.eqv y d))) H) ∨
    (∃ (c : Nat) (z : Str), x = .str ⟨#[c]⟩ ∧ y = .str z ∧ Q (.bl (g (decide (c ∈ z.cps.toList)))) H), ?_, ?_⟩
  · intro pins s σ H x y v u Q I rx ry h
    rcases h with ⟨d, ps, hd, he, c1, c2, hm, q⟩ | h
    · obtain ⟨as, r1⟩ := Dp.reads I d x v hd rx
      rcases he with he | he
      · obtain ⟨bs, r2⟩ := Dp.reads I _ y u he ry
        exact hl r2 r1 c1 c2 (by have := room200 hr; omega) ⟨.bl _, H, I, rfl, q⟩
      · obtain ⟨bs, r2⟩ := Dp.reads I _ y u he ry
        exact ht r2 r1 c1 c2 (by have := room200 hr; omega) ⟨.bl _, H, I, rfl, q⟩
    · exact hs pins s σ H x y v u Q I rx ry h
  · intro Φ Pr st σ H dx dy x y o Q S px py e q
    have go : ∀ {l : List D} {xs : List V}, Reps X.K Pr l xs → inOk dx l = true → ∃ p ps, D.toPy dx = some p ∧ D.toPyAll l = some ps ∧ Dp X.K H x p ∧ DpAll X.K H xs ps ∧ PyData.canLayAll0 ps = true ∧ p.canLay0 = true ∧ min (PyData.depthAll ps) p.depth ≤ 150 := fun {l xs} rl h => by
      unfold inOk at h
      simp only [Bool.and_eq_true, decide_eq_true_eq] at h
      obtain ⟨p, e1, d1, c1, n1⟩ := pk_py S h.1.1 px
      obtain ⟨ps, e2, d2, c2, n2⟩ := toPyAll_of S l h.1.2 rl
      exact ⟨p, ps, e1, e2, d1, d2, c2, c1, by rw [n1, n2]; exact h.2⟩
    unfold inG at e
    split at e
    · split at e
      · rename_i l h
        cases e
        obtain ⟨a, xs, rfl, r, rs⟩ := py.lst S
        obtain ⟨p, ps, e1, e2, d1, d2, c2, c1, m⟩ := go rs h
        refine .inl ⟨p, ps, d1, .inl (.lst (.inl r) d2), c2, c1, m, ?_⟩
        rw [any_toPy e1 e2]
        exact q Pr H _ (Le.refl _) S ro_bl
      · cases e
    · split at e
      · rename_i l h
        cases e
        obtain ⟨a, xs, rfl, r, rs⟩ := py.tup S
        obtain ⟨p, ps, e1, e2, d1, d2, c2, c1, m⟩ := go rs h
        refine .inl ⟨p, ps, d1, .inr (.tup r d2), c2, c1, m, ?_⟩
        rw [any_toPy e1 e2]
        exact q Pr H _ (Le.refl _) S ro_bl
      · cases e
    · split at e
      · rename_i z _ c
        cases h : one? c with
        | none => rw [h] at e; cases e
        | some k =>
          rw [h] at e
          cases e
          cases py.str
          have := px.str
          rw [one_str h] at this
          subst this
          exact .inr ⟨k, z, rfl, rfl, q Pr H _ (Le.refl _) S ro_bl⟩
      · cases e
    · cases e
theorem os_in (hr : Room n X.A) : OpS X (compareOp .In) inD := os_inG (g := id) hr op_in_sign (fun r1 r2 a h u q => SeqAt.in_list_reads r1 r2 a h u q) (fun r1 r2 a h u q => SeqAt.in_tuple_reads r1 r2 a h u q)
theorem os_nin (hr : Room n X.A) : OpS X (compareOp .NotIn) ninD := os_inG (g := not) hr op_notIn_sign (fun r1 r2 a h u q => SeqAt.notIn_list_reads r1 r2 a h u q) (fun r1 r2 a h u q => SeqAt.notIn_tuple_reads r1 r2 a h u q)
def isNe : D → Bool
  | .tup (_ :: _) => true
  | _ => false
def isTp : D → Bool
  | .tup _ => true
  | _ => false
def sortL (l : List D) : List D := l.mergeSort (PySem.W.dataLe false toP)
def sortOk (l : List D) : Bool := D.isPyAll l && decide (D.depAll l ≤ DEEP) && (l.all fun d => l.all fun e => PySem.W.alike (toP d) (toP e)) && ((l.all isNe) || (l.all fun d => !isTp d && !nonD d)) && decide (l.length ≤ LIM)
def sortD : List D → Option Opd
  | [.lst l] => if sortOk l then some (.own (.lst (sortL l))) else none
  | [.tup _] => none
  | _ => none
theorem dep_mem : ∀ {l : List D} {d : D}, d ∈ l → D.dep d ≤ D.depAll l
  | d :: l, e, h => by
    unfold D.depAll
    rcases List.mem_cons.mp h with rfl | h
    · omega
    · have := dep_mem h; omega
theorem isPy_mem : ∀ {l : List D} {d : D}, D.isPyAll l = true → d ∈ l → D.isPy d = true
  | d :: l, e, h, m => by
    unfold D.isPyAll at h
    rw [Bool.and_eq_true] at h
    rcases List.mem_cons.mp m with rfl | m
    · exact h.1
    · exact isPy_mem h.2 m
theorem toPy_isPy : ∀ {d : D}, D.isPy d = true → D.toPy d = some (toP d) := by
  intro d h
  have : ∀ n, (∀ d : D, sizeOf d < n → D.isPy d = true → ∃ p, D.toPy d = some p) ∧ (∀ l : List D, sizeOf l < n → D.isPyAll l = true → ∃ ps, D.toPyAll l = some ps) := by
    intro n
    induction n with
    | zero => exact ⟨fun _ h => absurd h (Nat.not_lt_zero _), fun _ h => absurd h (Nat.not_lt_zero _)⟩
    | succ n ih =>
      refine ⟨fun d hs h => ?_, fun l hs h => ?_⟩
      · cases d with
        | tup l =>
          obtain ⟨ps, e⟩ := ih.2 l (by simp at hs; omega) (by unfold D.isPy at h; exact h)
          exact ⟨.tuple ps, by unfold D.toPy; rw [e]; rfl⟩
        | lst l =>
          obtain ⟨ps, e⟩ := ih.2 l (by simp at hs; omega) (by unfold D.isPy at h; exact h)
          exact ⟨.list ps, by unfold D.toPy; rw [e]; rfl⟩
        | non => exact ⟨_, rfl⟩
        | bl b => exact ⟨_, rfl⟩
        | int b => exact ⟨_, rfl⟩
        | str b => exact ⟨_, rfl⟩
        | dct a b => unfold D.isPy at h; cases h
        | exc a b => unfold D.isPy at h; cases h
        | ty a => unfold D.isPy at h; cases h
        | cls a => unfold D.isPy at h; cases h
        | scr a => unfold D.isPy at h; cases h
      · cases l with
        | nil => exact ⟨[], rfl⟩
        | cons d l =>
          unfold D.isPyAll at h
          rw [Bool.and_eq_true] at h
          obtain ⟨p, e⟩ := ih.1 d (by simp at hs; omega) h.1
          obtain ⟨ps, e2⟩ := ih.2 l (by simp at hs; omega) h.2
          exact ⟨p :: ps, by unfold D.toPyAll; rw [e, e2]⟩
  obtain ⟨p, e⟩ := (this (sizeOf d + 1)).1 d (by omega) h
  rw [toP_of e]; exact e
theorem dpAll_each {K : PySem.W.Frag} {Φ : Fr0} {Pr H : Hp} {st : Sto} {σ : L2.St} (S : Sim K Φ Pr st σ H) : ∀ {l : List D} {xs : List V}, D.isPyAll l = true → Reps K Pr l xs → DpAll K H xs (l.map toP) := by
  intro l xs h r
  obtain ⟨ps, e, dp, _, _⟩ := toPyAll_of S l h r
  have : ∀ {l : List D} {ps : List PyData}, D.isPyAll l = true → D.toPyAll l = some ps → l.map toP = ps := by
    intro l
    induction l with
    | nil => intro ps _ e; cases e; rfl
    | cons d l ih =>
      intro ps h e
      unfold D.isPyAll at h
      rw [Bool.and_eq_true] at h
      unfold D.toPyAll at e
      split at e
      · rename_i p r h1 h2
        cases e
        rw [List.map_cons, toP_of h1, ih h.2 h2]
      · cases e
  rw [this h e]; exact dp
def StR (K : PySem.W.Frag) (Pr : Hp) (v : Value) (d : D) : Prop := ∃ x, RelV x v ∧ Rep K Pr d x
theorem each_in {K : PySem.W.Frag} {Pr : Hp} : ∀ {l : List D} {xs : List V} {us : List Value}, Reps K Pr l xs → Vals xs us → PySem.W.EachIs (StR K Pr) us l
  | [], _, _, r, v => by unfold Reps at r; subst r; cases v; exact .nil
  | d :: l, _, _, r, v => by
    unfold Reps at r
    obtain ⟨x, t, rfl, r1, r2⟩ := r
    cases v with
    | cons h1 h2 => exact .cons ⟨x, h1, r1⟩ (each_in r2 h2)
theorem each_out {K : PySem.W.Frag} {Pr : Hp} : ∀ {l : List D} {us : List Value}, PySem.W.EachIs (StR K Pr) us l → ∃ xs, Reps K Pr l xs ∧ Vals xs us
  | [], _, h => by cases h; exact ⟨[], Reps.nil, .nil⟩
  | d :: l, _, h => by
    cases h with
    | cons h1 h2 =>
      obtain ⟨x, r1, r2⟩ := h1
      obtain ⟨xs, q1, q2⟩ := each_out h2
      exact ⟨x :: xs, Reps.cons r2 q1, .cons r1 q2⟩
theorem each_reads {s : Shared} {pins : List (Addr × Obj)} {σ : L2.St} {H : Hp} (I : Inv X pins σ H s) : ∀ {l : List D} {xs : List V} {us : List Value}, DpAll X.K H xs (l.map toP) → Vals xs us → PySem.W.EachIs (fun v d => ∃ as, Reads s.heap v (toP d) as) us l
  | [], _, _, r, v => by cases r; cases v; exact .nil
  | d :: l, _, _, r, v => by
    cases r with
    | cons r1 r2 =>
      cases v with
      | cons h1 h2 => exact .cons (Dp.reads I _ _ _ r1 h1) (each_reads I r2 h2)
structure SrtOk (l : List D) : Prop where
  py : D.isPyAll l = true
  dp : ∀ d ∈ l, D.dep d ≤ 150
  al : PySem.W.AllAlike (l.map toP)
  kd : PySem.W.Sortable (l.map toP)
  len : l.length ≤ sizeLine
theorem toP_ne {d : D} (hp : D.isPy d = true) (h : isNe d = true) : ∃ x r, toP d = .tuple (x :: r) := by
  unfold isNe at h
  split at h
  · rename_i a l
    have e := toPy_isPy hp
    unfold D.toPy at e
    simp only [Option.map_eq_some_iff] at e
    obtain ⟨ps, e1, e2⟩ := e
    unfold D.toPyAll at e1
    split at e1
    · cases e1; exact ⟨_, _, e2.symm⟩
    · cases e1
  · cases h
theorem toP_ot {d : D} (hp : D.isPy d = true) (h : (!isTp d && !nonD d) = true) : toP d ≠ .none ∧ ∀ xs, toP d ≠ .tuple xs := by
  have e := toPy_isPy hp
  rw [Bool.and_eq_true] at h
  refine ⟨fun z => ?_, fun xs z => ?_⟩
  · rw [z] at e; rw [toPy_non e] at h; exact absurd h.2 (by decide)
  · rw [z] at e
    cases d with
    | tup l => exact absurd h.1 (by simp [isTp])
    | lst l => unfold D.toPy at e; simp only [Option.map_eq_some_iff] at e; obtain ⟨_, _, z⟩ := e; cases z
    | _ => unfold D.toPy at e; cases e
theorem srtOk_of {l : List D} (h : sortOk l = true) : SrtOk l := by
  unfold sortOk at h
  simp only [Bool.and_eq_true, decide_eq_true_eq] at h
  obtain ⟨⟨⟨⟨h1, h2⟩, h3⟩, h4⟩, h5⟩ := h
  refine ⟨h1, fun d hd => Nat.le_trans (dep_mem hd) h2, fun d hd e he => ?_, ?_, by rw [lim_eq]; exact h5⟩
  · obtain ⟨a, ma, rfl⟩ := List.mem_map.mp hd
    obtain ⟨b, mb, rfl⟩ := List.mem_map.mp he
    exact List.all_eq_true.mp (List.all_eq_true.mp h3 a ma) b mb
  · rw [Bool.or_eq_true] at h4
    rcases h4 with h4 | h4
    · refine .inl fun d hd => ?_
      obtain ⟨a, ma, rfl⟩ := List.mem_map.mp hd
      exact toP_ne (isPy_mem h1 ma) (List.all_eq_true.mp h4 a ma)
    · refine .inr fun d hd => ?_
      obtain ⟨a, ma, rfl⟩ := List.mem_map.mp hd
      exact toP_ot (isPy_mem h1 ma) (List.all_eq_true.mp h4 a ma)
theorem dep_toP {d : D} (h : D.isPy d = true) : (toP d).depth = D.dep d := by
  have : ∀ n, (∀ d : D, sizeOf d < n → ∀ p, D.toPy d = some p → p.depth = D.dep d) ∧ (∀ l : List D, sizeOf l < n → ∀ ps, D.toPyAll l = some ps → PyData.depthAll ps = D.depAll l) := by
    intro n
    induction n with
    | zero => exact ⟨fun _ h => absurd h (Nat.not_lt_zero _), fun _ h => absurd h (Nat.not_lt_zero _)⟩
    | succ n ih =>
      refine ⟨fun d hs p e => ?_, fun l hs ps e => ?_⟩
      · cases d with
        | tup l =>
          unfold D.toPy at e
          simp only [Option.map_eq_some_iff] at e
          obtain ⟨ps, e1, rfl⟩ := e
          unfold PyData.depth D.dep
          rw [ih.2 l (by simp at hs; omega) _ e1]
        | lst l =>
          unfold D.toPy at e
          simp only [Option.map_eq_some_iff] at e
          obtain ⟨ps, e1, rfl⟩ := e
          unfold PyData.depth D.dep
          rw [ih.2 l (by simp at hs; omega) _ e1]
        | non => cases e; rfl
        | bl b => cases e; rfl
        | int b => cases e; rfl
        | str b => cases e; rfl
        | _ => unfold D.toPy at e; cases e
      · cases l with
        | nil => cases e; rfl
        | cons d l =>
          unfold D.toPyAll at e
          split at e
          · rename_i p r h1 h2
            cases e
            unfold PyData.depthAll D.depAll
            rw [ih.1 d (by simp at hs; omega) _ h1, ih.2 l (by simp at hs; omega) _ h2]
          · cases e
  exact (this (sizeOf d + 1)).1 d (by omega) _ (toPy_isPy h)
theorem cs_sorted (hr : Room n X.A) : CallS X (.builtin "sorted") sortD := by
  refine ⟨fun vs H Q => ∃ (a : Addr) (xs : List V) (l : List D) (Pr : Hp), vs = [V.ref a] ∧ (SqL X.K H a xs ∨ False) ∧ SrtOk l ∧ Reps X.K Pr l xs ∧ DpAll X.K H xs (l.map toP) ∧
    ∀ (ys : List V) (p : Addr), Reps X.K Pr (sortL l) ys → H p = none → Q (.ref p) (upd H p (.lst ys)), ?_, ?_⟩
  · intro pins s σ H vs us Q I r h
    obtain ⟨a, xs, l, Pr, rfl, hs, ok, rp, dp, q⟩ := h
    rcases hs with hs | hs
    · obtain ⟨its, rv, hl, hz⟩ := I.list hs
      rw [Vals.ref1 r]
      refine PySem.W.sorted_data (R := StR X.K Pr) (enc := toP) hl.isList (each_in rp rv) (each_reads I dp rv) ok.al ok.kd ok.len (fun d hd => ?_) fun out h1 h2 => ?_
      · rw [dep_toP (isPy_mem ok.py hd)]
        have := ok.dp d hd
        have := room200 hr
        omega
      · obtain ⟨ys, r1, r2⟩ := each_out h2
        obtain ⟨ep, he'⟩ := PyProof.Rows.sortedAll_at s.heap its out.toArray
        refine ⟨.ref _, upd H (s.heap.objs.size + 1) (.lst ys), I.laid (t' := s.toks) (fun _ _ => PyProof.Rows.sortedAll_old) (Nat.le_succ _) ⟨?_, out, ep, r2, he'⟩, rfl, q _ _ r1 (I.hok.fresh (Nat.le_succ _))⟩
        have e1 := r1.length
        unfold sortL at e1
        rw [List.length_mergeSort] at e1
        rw [e1]; exact ok.len
    · exact hs.elim
  · intro Φ Pr st σ H ds vs o Q S ks e q
    unfold sortD at e
    split at e
    · split at e
      · rename_i l h
        cases e
        obtain ⟨v, rfl, p⟩ := pks1 ks
        obtain ⟨a, xs, rfl, r, rs⟩ := p.lst S
        have ok := srtOk_of h
        exact ⟨a, xs, l, Pr, rfl, .inl (.inl r), ok, rs, dpAll_each S ok.py rs, fun ys p' r' hp => q _ _ _ (Le.refl _) (S.alloc (o := .lst ys) hp (fun _ _ z => (nomatch z))) (repO_new S hp r')⟩
      · cases e
    · cases e
    · cases e
end
end Dv
namespace Dv
open PySem L2
section
variable {X : Cx} {W : WX} {sc : Scope} {x : Str}
theorem nx {N : List Str} {i : Nat} (h : X.N = N) (q : N[i]? = some x) : X.N[i]? = some x := by rw [h]; exact q
theorem nxd {N : List Str} (h : X.N = N) (q : N.Nodup) : X.N.Nodup := by rw [h]; exact q
theorem vis (hs : X.env.scope = sc) (h : Vis sc x) : Vis X.env.scope x := by rw [hs]; exact h
theorem loc (hs : X.env.scope = sc) (h : Loc sc x) : Loc X.env.scope x := by rw [hs]; exact h
theorem gl (hs : X.env.scope = sc) (h : sc.names.lookup x = some .globalImplicit) : Gl X x := by unfold Gl; show X.env.scope.names.lookup x = _; rw [hs]; exact h
theorem lkl (hs : X.env.scope = sc) (h : sc.names.lookup x = some .local) : X.env.scope.names.lookup x = some .local := by rw [hs]; exact h
theorem blko {N : List Str} {s2 : Scope} {own : List (Str × Nat)} (hN : X.N = N) (hs : X.env.scope = sc) (h : BlkOk N sc s2 own) : BlkOk X.N X.env.scope s2 own := by rw [hN, hs]; exact h
section
variable {s0 : Shared} {H0 : Hp} {scope : Scope} {C0 : Addr} {cl0 : List (Str × Addr)} {env0 : Env} {fp0 : List Addr}
theorem rel_lookup {env : Env} : ∀ (names : List (Str × NameKind)) (x : Str),
    (names.map fun (n, k) => if (k == NameKind.free && env.scope.kind == .function && env.kindOf n == some .cell) then (n, NameKind.cell) else (n, k)).lookup x = (names.lookup x).map fun k => if (k == NameKind.free && env.scope.kind == .function && env.kindOf x == some .cell) then .cell else k
  | [], x => rfl
  | (n, k) :: r, x => by
    have ih := rel_lookup (env := env) r x
    show List.lookup x ((if (k == NameKind.free && env.scope.kind == .function && env.kindOf n == some .cell) = true then (n, NameKind.cell) else (n, k)) :: _) = _
    cases hx : x == n with
    | true =>
      have e : x = n := by simpa using hx
      subst e
      by_cases hc : (k == NameKind.free && env.scope.kind == .function && env.kindOf x == some .cell) = true
      · rw [if_pos hc]
        rw [List.lookup_cons, List.lookup_cons, hx]
        simp only [Option.map_some]
        rw [if_pos hc]
      · rw [if_neg hc]
        rw [List.lookup_cons, List.lookup_cons, hx]
        simp only [Option.map_some]
        rw [if_neg hc]
    | false =>
      by_cases hc : (k == NameKind.free && env.scope.kind == .function && env.kindOf n == some .cell) = true
      · rw [if_pos hc, List.lookup_cons, List.lookup_cons, hx]; exact ih
      · rw [if_neg hc, List.lookup_cons, List.lookup_cons, hx]; exact ih
theorem rel_l {k : NameKind} (h : scope.names.lookup x = some k) (hk : (k == NameKind.free) = false) : (relabel scope env0).names.lookup x = some k := by
  unfold relabel
  show List.lookup x (List.map _ _) = _
  rw [rel_lookup, h, Option.map_some, hk]
  rfl
theorem rel_f (h : scope.names.lookup x = some .free) : (relabel scope env0).names.lookup x = some .cell ∨ (relabel scope env0).names.lookup x = some .free := by
  unfold relabel
  show List.lookup x (List.map _ _) = _ ∨ List.lookup x (List.map _ _) = _
  rw [rel_lookup, h, Option.map_some]
  by_cases hc : (NameKind.free == NameKind.free && env0.scope.kind == .function && env0.kindOf x == some .cell) = true
  · rw [if_pos hc]; exact .inl rfl
  · rw [if_neg hc]; exact .inr rfl
theorem visB (h : Vis scope x) : Vis (X.blk s0 H0 scope (compEnvC scope cl0 C0 env0) fp0).env.scope x := by
  rcases h with h | h | h
  · exact .inl (rel_l (env0 := env0) h rfl)
  · exact .inr (.inl (rel_l (env0 := env0) h rfl))
  · exact .inr (rel_f (env0 := env0) h)
theorem locB (h : Loc scope x) : Loc (X.blk s0 H0 scope (compEnvC scope cl0 C0 env0) fp0).env.scope x := by
  rcases h with h | h
  · exact .inl (rel_l (env0 := env0) h rfl)
  · exact .inr (rel_l (env0 := env0) h rfl)
theorem glB (h : scope.names.lookup x = some .globalImplicit) : Gl (X.blk s0 H0 scope (compEnvC scope cl0 C0 env0) fp0) x := rel_l (env0 := env0) h rfl
theorem hfB (h : scope.names.lookup x = some .local ∨ (scope.names.lookup x == some .cell) = true) : (X.blk s0 H0 scope (compEnvC scope cl0 C0 env0) fp0).fn x = true ∨ (X.blk s0 H0 scope (compEnvC scope cl0 C0 env0) fp0).env.scope.names.lookup x = some .local := by
  rcases h with h | h
  · exact .inr (rel_l (env0 := env0) h rfl)
  · exact .inl h
theorem blkoB {N : List Str} {s2 : Scope} {own : List (Str × Nat)} (hN : X.N = N) (h : BlkOk N scope s2 own) : BlkOk (X.blk s0 H0 scope (compEnvC scope cl0 C0 env0) fp0).N (X.blk s0 H0 scope (compEnvC scope cl0 C0 env0) fp0).env.scope s2 own := by
  refine ⟨h.kind, h.uniq, fun p hp => nx (X := X) hN (h.ix p hp), fun y hy e => ?_, fun y hy e => ?_⟩
  · rcases h.free y hy e with z | z
    · exact .inl (rel_l (env0 := env0) z rfl)
    · exact rel_f (env0 := env0) z
  · show _ ∨ y.1 ∉ X.N
    rw [hN]; exact h.own y hy e
end
theorem takes_F : Takes X WF := fun u s' ⟨a, B, sI, pins, σ, H, cls, d, e, I, nb, up, sky, na, os, ag, w⟩ => w.elim
theorem se_ty {n : String} {pos : Pos} (hg : Gl X x) (hm : X.mg x = none) (hv : bootBuiltins x = some (.type n)) (hn : x ≠ "__name__" := by decide) (hd : (x == ("__debug__" : Str)) = false := by decide) : SE X W (.Name x pos) (sC (.ty n)) :=
  se_const (pe_bltn (v := V.ty n) hg hm hv (show Value.type n = Value.type n from rfl) hn hd) fun _ => by unfold Rep; rfl
theorem se_gstr {z : Str} {t : Tok} {pos : Pos} (hg : Gl X x) (hm : X.mg x = some (.str z t)) (hz : PyData.strOk z = true) (hd : (x == ("__debug__" : Str)) = false := by decide) : SE X W (.Name x pos) (sC (.str z)) :=
  se_glob hg hm (v := .str z) ⟨t, rfl⟩ (fun _ => rep_str hz) hd
theorem se_gint {z : Int} {t : Tok} {pos : Pos} (hg : Gl X x) (hm : X.mg x = some (.int z t)) (hd : (x == ("__debug__" : Str)) = false := by decide) : SE X W (.Name x pos) (sC (.int z)) :=
  se_glob hg hm (v := .int z) ⟨t, rfl⟩ (fun _ => rep_int) hd
end
theorem bt_len : bootBuiltins "len" = some (.builtin "len") := by decide +kernel
theorem bt_isinstance : bootBuiltins "isinstance" = some (.builtin "isinstance") := by decide +kernel
theorem bt_int : bootBuiltins "int" = some (.type "int") := by decide +kernel
theorem bt_bool : bootBuiltins "bool" = some (.type "bool") := by decide +kernel
theorem bt_str : bootBuiltins "str" = some (.type "str") := by decide +kernel
theorem bt_list : bootBuiltins "list" = some (.type "list") := by decide +kernel
theorem bt_tuple : bootBuiltins "tuple" = some (.type "tuple") := by decide +kernel
theorem bt_dict : bootBuiltins "dict" = some (.type "dict") := by decide +kernel
theorem bt_set : bootBuiltins "set" = some (.type "set") := by decide +kernel
theorem bt_max : bootBuiltins "max" = some (.builtin "max") := by decide +kernel
theorem bt_min : bootBuiltins "min" = some (.builtin "min") := by decide +kernel
theorem bt_sum : bootBuiltins "sum" = some (.builtin "sum") := by decide +kernel
theorem bt_all : bootBuiltins "all" = some (.builtin "all") := by decide +kernel
theorem bt_any : bootBuiltins "any" = some (.builtin "any") := by decide +kernel
theorem bt_abs : bootBuiltins "abs" = some (.builtin "abs") := by decide +kernel
theorem bt_sorted : bootBuiltins "sorted" = some (.builtin "sorted") := by decide +kernel
theorem bt_repr : bootBuiltins "repr" = some (.builtin "repr") := by decide +kernel
structure Df (K : PySem.W.Frag) (mg : Str → Option Value) (x : Str) (st : Stmt) (ps : List Str) where
  f : Addr
  fd : FuncData
  F : Fun K x x st f fd
  b : Binds K fd ps []
  m : mg x = some (.ref f)
abbrev Ok (P : Program) (w : World) {K : PySem.W.Frag} {mg : Str → Option Value} (base : Heap) {x : Str} {st : Stmt} {ps : List Str} (d : Df K mg x st ps) (n : Nat) (F : Fn) : Prop := FnOk P w K mg base (L2.CX P w) n d.f d.fd ps (spF K F)
theorem ok_zero {P : Program} {w : World} {K : PySem.W.Frag} {mg : Str → Option Value} {base : Heap} {x : Str} {st : Stmt} {ps : List Str} {d : Df K mg x st ps} : Ok P w base d 0 fun _ => .bad := by
  have no : ∀ vs H Q E, ¬ spF K (fun _ => .bad) vs H Q E := fun vs H Q E h => by
    obtain ⟨_, _, _, _, _, h⟩ := h
    exact h
  exact ⟨fun vs H Q E h => absurd h (no vs H Q E), fun A outer s H args us vs Q E _ _ _ _ h => absurd h (no vs H Q E)⟩
theorem se_df {X : Cx} {W : WX} {n : Nat} {x : Str} {st : Stmt} {ps : List Str} {F : Fn} {p pos : Pos} {e : Expr} {es : List Expr} {fs : Ar} (ms : List Bool) (d : Df X.K X.mg x st ps) (Fk : Ok X.prog X.w X.base d n F) (hr : Room n X.A) (hg : Gl X x)
    (tk : Takes X W) (ha : SA X W (e :: es) fs) (hdb : (x == ("__debug__" : Str)) = false := by decide)
    (he : starEach (e :: es) X.env = (false, eval e X.env) :: starEach es X.env := by rfl) (hpl : (backTo pos (starEach es X.env)).any (·.1) = false := by rfl) : SE X W (.Call (.Name x p) (e :: es) [] pos) (sCall F ms fs) :=
  se_call ms Fk hr hg d.m d.F.kp d.b tk ha hdb he hpl
theorem spF_law {K : PySem.W.Frag} {F : Fn} {H : Hp} {a : Addr} {ns : List Int} {fin : List Slot} (hS : SqL K H a (ns.map V.int)) (hF : F [.val (.scr (ns.map .int))] = .ret (.val (.bl true)) fin) :
    spF K F [.ref a] H (fun v _ => v = .bl true) fun _ _ _ => False := by
  have r : Reps K H (ns.map D.int) (ns.map V.int) := Reps.of_map (fun _ => rep_int) ns
  refine ⟨H, [], fun _ => none, [.val (.scr (ns.map .int))], ⟨rfl, fun a o h => .inl h, Le.refl _, fun i s e => ?_, fun i j s t a h1 h2 m1 m2 h3 h4 => ?_, fun a o h _ => .inl h, fun a o h => .inl h, fun a ob o h => .inl h, fun a h => (nomatch h), fun a h => ?_⟩, ?_⟩
  · cases i with
    | zero =>
      cases e
      refine ⟨_, rfl, _, rfl, ?_⟩
      unfold Rep
      exact ⟨a, _, rfl, hS, r⟩
    | succ i => cases e
  · cases i with
    | zero => cases h1; cases m1
    | succ i => cases h1
  · obtain ⟨i, z⟩ := h; cases z
  · rw [hF]
    intro Pr' H' σ' v le S rv
    have rv : Rep K Pr' (.bl true) v := rv
    unfold Rep at rv; exact rv
theorem cx_end {P : Program} {w : World} {H : Hp} {s : Shared} {e : Value} {s' : Shared} (h : L2.CX P w [] H s (fun _ _ _ => False) e s') : False := by
  obtain ⟨_, _, _, _, _, _, _, _, _, _, _, _, z⟩ := h
  exact z
theorem walk_dv {l : PySem.W.OpenLaw} {n k : Nat} {q : Program} {loose : List Str} {XP : (Str → Option Value) → Heap → Prop} {YP : World → Heap → Prop} {d : DefRec} {K : Params → PySem.W.Frag} {F : Fn}
    (hn : l.most = some n) (hn2 : n ≤ sizeLine) (hdf : d.params.defaults = []) (hr : Room k callerA) (hY : ∀ (w : World) (h : Heap), YP w h → (K w.params).In h)
    (hF : ∀ (w : World) (mg : Str → Option Value) (fa : Addr) (h : Heap), (K w.params).In h → h.Ns mainGlobals mg → mg d.name = some (.ref fa) →
      ∃ fd : FuncData, (∀ (s : Shared) (u : Value), BindsTo s fd ⟨[u], []⟩ [("script", u)]) ∧ ∀ base : Heap, (K w.params).In base → base.Ns mainGlobals mg → FnOk l.prog w (K w.params) mg base (L2.CX l.prog w) k fa fd ["script"] (spF (K w.params) F))
    (hL : ∀ ns : List Int, ns.length ≤ n → (∀ z ∈ ns, Builtin.Int.intBits z ≤ 1048576) → ∃ fin, F [.val (.scr (ns.map .int))] = .ret (.val (.bl true)) fin) :
    PySem.W.WalkO q loose XP YP l.row.toRowW d [] (fun f vs => PySem.call f vs) :=
  L2.walk_ofB (n := n) (k := k) (x := "script") (CX := fun w => L2.CX l.prog w) (sp := fun w => spF (K w.params) F) hn hn2 hdf hr hY hF (fun w H a ns hl hb _ hS => by
    obtain ⟨fin, h⟩ := hL ns hl hb
    exact spF_law hS h) fun w H s e s' h => cx_end h
end Dv
namespace Dv
open PySem L2
theorem sw_true {X : Cx} {sc : Scope} {elt : Expr} {gens : List Comprehension} {scope : Scope} {p pos : Pos} {t : Str} {line : Nat} (hs : X.env.scope = sc) (hk : sc.kind = .function) (hl : sc.names.lookup t = some .local) (hp : (pos.line == p.line) = true)
    (hn : (scope.names.any fun (n, k) => n == t && (k == .local || k == .cell)) = false) : swapsWith (.ListComp elt gens scope p) (some (.Name t pos)) line X.env = pure true := by
  have e1 : X.env.blockKind = .function := by unfold Env.blockKind; rw [hs, hk]; rfl
  have e2 : X.env.kindOf t = some .local := by unfold Env.kindOf; rw [hs]; exact hl
  show (pure (X.env.blockKind == .function && X.env.kindOf t == some .local && pos.line == p.line && !(scope.names.any fun (n, k) => n == t && (k == .local || k == .cell))) : Sem Bool) = pure true
  rw [e1, e2, hp, hn]
  rfl
theorem sw_cell {X : Cx} {sc : Scope} {elt : Expr} {gens : List Comprehension} {scope : Scope} {p pos : Pos} {t : Str} {line : Nat} (hs : X.env.scope = sc) (hl : sc.names.lookup t = some .cell) : swapsWith (.ListComp elt gens scope p) (some (.Name t pos)) line X.env = pure false := by
  have e2 : X.env.kindOf t = some .cell := by unfold Env.kindOf; rw [hs]; exact hl
  show (pure (X.env.blockKind == .function && X.env.kindOf t == some .local && pos.line == p.line && !(scope.names.any fun (n, k) => n == t && (k == .local || k == .cell))) : Sem Bool) = pure false
  have e3 : (some NameKind.cell == some NameKind.local) = false := rfl
  rw [e2, e3, Bool.and_false]
  rfl
theorem sw_own {X : Cx} {elt : Expr} {gens : List Comprehension} {scope : Scope} {p pos : Pos} {t : Str} {line : Nat} (hn : (scope.names.any fun (n, k) => n == t && (k == .local || k == .cell)) = true) : swapsWith (.ListComp elt gens scope p) (some (.Name t pos)) line X.env = pure false := by
  show (pure (X.env.blockKind == .function && X.env.kindOf t == some .local && pos.line == p.line && !(scope.names.any fun (n, k) => n == t && (k == .local || k == .cell))) : Sem Bool) = pure false
  rw [hn, Bool.not_true, Bool.and_false]
end Dv
namespace Dv
open PySem L2
theorem eqD_str (x y : Str) : eqD (.str x) (.str y) = some (.val (.bl (x == y))) := rfl
theorem neD_str (x y : Str) : neD (.str x) (.str y) = some (.val (.bl (!(x == y)))) := rfl
theorem eqD_int (x y : Int) : eqD (.int x) (.int y) = some (.val (.bl (x == y))) := rfl
theorem neD_int (x y : Int) : neD (.int x) (.int y) = some (.val (.bl (!(x == y)))) := rfl
theorem ltOk_int (x y : Int) : ltOk (.int x) (.int y) = true := rfl
theorem ltB_int (x y : Int) : ltB (.int x) (.int y) = decide (x < y) := PySem.W.dataLt_int x y
theorem ltD_int (x y : Int) : ltD (.int x) (.int y) = some (.val (.bl (decide (x < y)))) := by unfold ltD; rw [ltOk_int, ltB_int]; rfl
theorem gtD_int (x y : Int) : gtD (.int x) (.int y) = some (.val (.bl (decide (y < x)))) := by unfold gtD; rw [ltOk_int, ltB_int]; rfl
theorem leD_int (x y : Int) : leD (.int x) (.int y) = some (.val (.bl (!decide (y < x)))) := by unfold leD; rw [ltOk_int, ltB_int]; rfl
theorem geD_int (x y : Int) : geD (.int x) (.int y) = some (.val (.bl (!decide (x < y)))) := by unfold geD; rw [ltOk_int, ltB_int]; rfl
theorem isi_tup_tuple (l : List D) : isiD [(.tup l), .ty "tuple"] = some (.val (.bl true)) := rfl
theorem isi_tup_list (l : List D) : isiD [(.tup l), .ty "list"] = some (.val (.bl false)) := rfl
theorem isi_tup_str (l : List D) : isiD [(.tup l), .ty "str"] = some (.val (.bl false)) := rfl
theorem isi_tup_int (l : List D) : isiD [(.tup l), .ty "int"] = some (.val (.bl false)) := rfl
theorem isi_tup_bool (l : List D) : isiD [(.tup l), .ty "bool"] = some (.val (.bl false)) := rfl
theorem isi_lst_tuple (l : List D) : isiD [(.lst l), .ty "tuple"] = some (.val (.bl false)) := rfl
theorem isi_lst_list (l : List D) : isiD [(.lst l), .ty "list"] = some (.val (.bl true)) := rfl
theorem isi_lst_str (l : List D) : isiD [(.lst l), .ty "str"] = some (.val (.bl false)) := rfl
theorem isi_lst_int (l : List D) : isiD [(.lst l), .ty "int"] = some (.val (.bl false)) := rfl
theorem isi_lst_bool (l : List D) : isiD [(.lst l), .ty "bool"] = some (.val (.bl false)) := rfl
theorem isi_str_tuple (x : Str) : isiD [(.str x), .ty "tuple"] = some (.val (.bl false)) := rfl
theorem isi_str_list (x : Str) : isiD [(.str x), .ty "list"] = some (.val (.bl false)) := rfl
theorem isi_str_str (x : Str) : isiD [(.str x), .ty "str"] = some (.val (.bl true)) := rfl
theorem isi_str_int (x : Str) : isiD [(.str x), .ty "int"] = some (.val (.bl false)) := rfl
theorem isi_str_bool (x : Str) : isiD [(.str x), .ty "bool"] = some (.val (.bl false)) := rfl
theorem isi_int_tuple (i : Int) : isiD [(.int i), .ty "tuple"] = some (.val (.bl false)) := rfl
theorem isi_int_list (i : Int) : isiD [(.int i), .ty "list"] = some (.val (.bl false)) := rfl
theorem isi_int_str (i : Int) : isiD [(.int i), .ty "str"] = some (.val (.bl false)) := rfl
theorem isi_int_int (i : Int) : isiD [(.int i), .ty "int"] = some (.val (.bl true)) := rfl
theorem isi_int_bool (i : Int) : isiD [(.int i), .ty "bool"] = some (.val (.bl false)) := rfl
theorem isi_bl_tuple (b : Bool) : isiD [(.bl b), .ty "tuple"] = some (.val (.bl false)) := rfl
theorem isi_bl_list (b : Bool) : isiD [(.bl b), .ty "list"] = some (.val (.bl false)) := rfl
theorem isi_bl_str (b : Bool) : isiD [(.bl b), .ty "str"] = some (.val (.bl false)) := rfl
theorem isi_bl_int (b : Bool) : isiD [(.bl b), .ty "int"] = some (.val (.bl true)) := rfl
theorem isi_bl_bool (b : Bool) : isiD [(.bl b), .ty "bool"] = some (.val (.bl true)) := rfl
theorem isi_non_tuple : isiD [.non, .ty "tuple"] = some (.val (.bl false)) := rfl
theorem isi_non_list : isiD [.non, .ty "list"] = some (.val (.bl false)) := rfl
theorem isi_non_str : isiD [.non, .ty "str"] = some (.val (.bl false)) := rfl
theorem isi_non_int : isiD [.non, .ty "int"] = some (.val (.bl false)) := rfl
theorem isi_non_bool : isiD [.non, .ty "bool"] = some (.val (.bl false)) := rfl
theorem len_lst (l : List D) : lenD [.lst l] = some (.val (.int l.length)) := rfl
theorem len_tup (l : List D) : lenD [.tup l] = some (.val (.int l.length)) := rfl
theorem len_scr (l : List D) : lenD [.scr l] = some (.val (.int l.length)) := rfl
theorem at_tup0 (a : D) (l : List D) : atD (.tup (a :: l)) (.int 0) = some (.val a) := by
  show (atI (a :: l) 0).map Opd.val = _
  rw [show (0 : Int) = ((0 : Nat) : Int) from rfl, atI_nat (by rfl)]
  rfl
theorem at_tup1 (a b : D) (l : List D) : atD (.tup (a :: b :: l)) (.int 1) = some (.val b) := by
  show (atI (a :: b :: l) 1).map Opd.val = _
  rw [show (1 : Int) = ((1 : Nat) : Int) from rfl, atI_nat (by rfl)]
  rfl
theorem at_tup2 (a b c : D) (l : List D) : atD (.tup (a :: b :: c :: l)) (.int 2) = some (.val c) := by
  show (atI (a :: b :: c :: l) 2).map Opd.val = _
  rw [show (2 : Int) = ((2 : Nat) : Int) from rfl, atI_nat (by rfl)]
  rfl
theorem at_lst0 (a : D) (l : List D) : atD (.lst (a :: l)) (.int 0) = some (.val a) := by
  show (atI (a :: l) 0).map Opd.val = _
  rw [show (0 : Int) = ((0 : Nat) : Int) from rfl, atI_nat (by rfl)]
  rfl
theorem at_lst1 (a b : D) (l : List D) : atD (.lst (a :: b :: l)) (.int 1) = some (.val b) := by
  show (atI (a :: b :: l) 1).map Opd.val = _
  rw [show (1 : Int) = ((1 : Nat) : Int) from rfl, atI_nat (by rfl)]
  rfl
theorem at_lst2 (a b c : D) (l : List D) : atD (.lst (a :: b :: c :: l)) (.int 2) = some (.val c) := by
  show (atI (a :: b :: c :: l) 2).map Opd.val = _
  rw [show (2 : Int) = ((2 : Nat) : Int) from rfl, atI_nat (by rfl)]
  rfl
theorem run_val {k n : Nat} {b : S} {args s fin : List Slot} {d : D} (hk : args.length = k) (h : b (args ++ List.replicate (n - k) .un) = .ret (.val d) s) (hf : s.take k = fin) : run k n b args = .ret (.val d) fin := by unfold run; rw [if_pos hk, h, ← hf]
theorem run_own {k n : Nat} {b : S} {args s fin : List Slot} {d : D} (hk : args.length = k) (h : b (args ++ List.replicate (n - k) .un) = .ret (.own d) s) (hf : s.take k = fin) : run k n b args = .ret (.own d) fin := by unfold run; rw [if_pos hk, h, ← hf]
theorem run_nxt {k n : Nat} {b : S} {args s fin : List Slot} (hk : args.length = k) (h : b (args ++ List.replicate (n - k) .un) = .nxt s) (hf : s.take k = fin) : run k n b args = .ret (.val .non) fin := by unfold run; rw [if_pos hk, h, ← hf]
theorem run_slot {k n i : Nat} {b : S} {args s fin : List Slot} {d : D} (hk : args.length = k) (h : b (args ++ List.replicate (n - k) .un) = .ret (.slot i) s) (hi : s[i]? = some (.own d)) (hf : (s.set i .un).take k = fin) : run k n b args = .ret (.own d) fin := by unfold run; rw [if_pos hk, h, ← hf]; simp only [hi]
theorem tg_name_fn : (("name" : Str) == ("fn" : Str)) = false := by decide
theorem tg_name_call : (("name" : Str) == ("call" : Str)) = false := by decide
theorem tg_name_at : (("name" : Str) == ("at" : Str)) = false := by decide
theorem tg_name_in : (("name" : Str) == ("in" : Str)) = false := by decide
theorem tg_name_shut : (("name" : Str) == ("shut" : Str)) = false := by decide
theorem tg_name_head : (("name" : Str) == ("head" : Str)) = false := by decide
theorem tg_name_e : (("name" : Str) == ("" : Str)) = false := by decide
theorem tg_fn_name : (("fn" : Str) == ("name" : Str)) = false := by decide
theorem tg_fn_call : (("fn" : Str) == ("call" : Str)) = false := by decide
theorem tg_fn_at : (("fn" : Str) == ("at" : Str)) = false := by decide
theorem tg_fn_in : (("fn" : Str) == ("in" : Str)) = false := by decide
theorem tg_fn_shut : (("fn" : Str) == ("shut" : Str)) = false := by decide
theorem tg_fn_head : (("fn" : Str) == ("head" : Str)) = false := by decide
theorem tg_fn_e : (("fn" : Str) == ("" : Str)) = false := by decide
theorem tg_call_name : (("call" : Str) == ("name" : Str)) = false := by decide
theorem tg_call_fn : (("call" : Str) == ("fn" : Str)) = false := by decide
theorem tg_call_at : (("call" : Str) == ("at" : Str)) = false := by decide
theorem tg_call_in : (("call" : Str) == ("in" : Str)) = false := by decide
theorem tg_call_shut : (("call" : Str) == ("shut" : Str)) = false := by decide
theorem tg_call_head : (("call" : Str) == ("head" : Str)) = false := by decide
theorem tg_call_e : (("call" : Str) == ("" : Str)) = false := by decide
theorem tg_at_name : (("at" : Str) == ("name" : Str)) = false := by decide
theorem tg_at_fn : (("at" : Str) == ("fn" : Str)) = false := by decide
theorem tg_at_call : (("at" : Str) == ("call" : Str)) = false := by decide
theorem tg_at_in : (("at" : Str) == ("in" : Str)) = false := by decide
theorem tg_at_shut : (("at" : Str) == ("shut" : Str)) = false := by decide
theorem tg_at_head : (("at" : Str) == ("head" : Str)) = false := by decide
theorem tg_at_e : (("at" : Str) == ("" : Str)) = false := by decide
theorem tg_in_name : (("in" : Str) == ("name" : Str)) = false := by decide
theorem tg_in_fn : (("in" : Str) == ("fn" : Str)) = false := by decide
theorem tg_in_call : (("in" : Str) == ("call" : Str)) = false := by decide
theorem tg_in_at : (("in" : Str) == ("at" : Str)) = false := by decide
theorem tg_in_shut : (("in" : Str) == ("shut" : Str)) = false := by decide
theorem tg_in_head : (("in" : Str) == ("head" : Str)) = false := by decide
theorem tg_in_e : (("in" : Str) == ("" : Str)) = false := by decide
theorem tg_shut_name : (("shut" : Str) == ("name" : Str)) = false := by decide
theorem tg_shut_fn : (("shut" : Str) == ("fn" : Str)) = false := by decide
theorem tg_shut_call : (("shut" : Str) == ("call" : Str)) = false := by decide
theorem tg_shut_at : (("shut" : Str) == ("at" : Str)) = false := by decide
theorem tg_shut_in : (("shut" : Str) == ("in" : Str)) = false := by decide
theorem tg_shut_head : (("shut" : Str) == ("head" : Str)) = false := by decide
theorem tg_shut_e : (("shut" : Str) == ("" : Str)) = false := by decide
theorem tg_head_name : (("head" : Str) == ("name" : Str)) = false := by decide
theorem tg_head_fn : (("head" : Str) == ("fn" : Str)) = false := by decide
theorem tg_head_call : (("head" : Str) == ("call" : Str)) = false := by decide
theorem tg_head_at : (("head" : Str) == ("at" : Str)) = false := by decide
theorem tg_head_in : (("head" : Str) == ("in" : Str)) = false := by decide
theorem tg_head_shut : (("head" : Str) == ("shut" : Str)) = false := by decide
theorem tg_head_e : (("head" : Str) == ("" : Str)) = false := by decide
theorem tg_e_name : (("" : Str) == ("name" : Str)) = false := by decide
theorem tg_e_fn : (("" : Str) == ("fn" : Str)) = false := by decide
theorem tg_e_call : (("" : Str) == ("call" : Str)) = false := by decide
theorem tg_e_at : (("" : Str) == ("at" : Str)) = false := by decide
theorem tg_e_in : (("" : Str) == ("in" : Str)) = false := by decide
theorem tg_e_shut : (("" : Str) == ("shut" : Str)) = false := by decide
theorem tg_e_head : (("" : Str) == ("head" : Str)) = false := by decide
theorem pop_snoc (l : List D) (d : D) : fPop (.lst (l ++ [d])) [] = some (.lst l, d) := by
  unfold fPop
  simp
theorem append_ok {l : List D} {d : D} (h : l.length < LIM) : fAppend (.lst l) [d] = some (.lst (l ++ [d]), .non) := by unfold fAppend; simp only; rw [if_pos h]
theorem snoc_len (l : List D) (d : D) : (0 : Int) < ((l ++ [d]).length : Int) := by simp
theorem addD_int (x y : Int) : addD (.int x) (.int y) = some (.val (.int (x + y))) := rfl
theorem subD_int (x y : Int) : subD (.int x) (.int y) = some (.val (.int (x - y))) := rfl
theorem negD_int (x : Int) : negD (.int x) = some (.val (.int (-x))) := rfl
theorem maxD_int (x y : Int) : maxD [.int x, .int y] = some (.val (.int (if y > x then y else x))) := rfl
end Dv
open PySem L2 Dv in
local macro_rules
  | `(tactic| simp_arith [$xs,*]) => `(tactic| simp only [sSeq, sIfS, sAsg, asgO, sDrop, sRet, sRetN, sSkip, sBrk, sCnt, sBad, sVar, rdSlot, sC, sOp1, sOp2, op1, op2, sCB, sTup, sLst, sNot, sAnd, sOr, sIf, Dv.tB, Dv.tTru, Dv.tNot, Dv.tAnd, Dv.tOr, aNil, aCons, takeAll, peekAll, peek, takeO, datAt, fzAt, putS, dB, truD, Slot.dat, Slot.put, Slot.fz,
  mutO, Slot.mut, isL, pop_snoc, sCall, ph1, ph2, argOf, lentOf, callO, back, back1, sMut, sCut, pSome, pNone, dI, sSet, sAug, augI, gN, gs0, gs1, gT, sAsgG, wSeq, wArgs, seqOf, Option.bind_some, Option.bind_none, Option.map_some, Option.map_none,
  R.bind_ok, okO_some, kR_ok, seqO_nxt, seqO_ret, seqO_brk, seqO_cnt, okS_some,
  List.getElem?_cons_zero, List.getElem?_cons_succ, List.getElem?_nil, List.set_cons_zero, List.set_cons_succ, List.length_cons, List.length_nil, List.take_succ_cons, List.take_zero, List.cons_append, List.nil_append, List.replicate_succ, List.replicate_zero, List.append_nil,
  Int.cast_ofNat_Int, List.mem_cons, Nat.zero_ne_one, or_self, or_false, false_or, Int.reduceLT, Int.reduceLE, Int.reduceEq, Int.reduceBEq, Int.reduceAdd, Int.reduceSub, decide_true, decide_false, Int.natCast_zero, Int.natCast_one, Nat.reduceBEq, Nat.reduceEqDiff, List.nodup_cons, List.nodup_nil, List.not_mem_nil, not_false_eq_true, and_self, true_and, and_true, Nat.reduceSub, Nat.reduceAdd, Nat.reduceLT, Nat.reduceLeDiff, Nat.lt_add_one, Nat.zero_lt_succ, beq_self_eq_true,
  eqD_str, neD_str, eqD_int, neD_int, ltD_int, gtD_int, leD_int, geD_int, if_true, if_false, Bool.not_true, Bool.not_false, Bool.false_eq_true, ↓reduceIte,
  addD_int, subD_int, negD_int, maxD_int, len_lst, len_tup, len_scr, at_tup0, at_tup1, at_tup2, at_lst0, at_lst1, at_lst2, isi_tup_tuple, isi_tup_list, isi_tup_str, isi_tup_int, isi_tup_bool, isi_lst_tuple, isi_lst_list, isi_lst_str, isi_lst_int, isi_lst_bool, isi_str_tuple, isi_str_list, isi_str_str, isi_str_int, isi_str_bool, isi_int_tuple, isi_int_list, isi_int_str, isi_int_int, isi_int_bool, isi_bl_tuple, isi_bl_list, isi_bl_str, isi_bl_int, isi_bl_bool, isi_non_tuple, isi_non_list, isi_non_str, isi_non_int, isi_non_bool, tg_name_fn, tg_name_call, tg_name_at, tg_name_in, tg_name_shut, tg_name_head, tg_name_e, tg_fn_name, tg_fn_call, tg_fn_at, tg_fn_in, tg_fn_shut, tg_fn_head, tg_fn_e, tg_call_name, tg_call_fn, tg_call_at, tg_call_in, tg_call_shut, tg_call_head, tg_call_e, tg_at_name, tg_at_fn, tg_at_call, tg_at_in, tg_at_shut, tg_at_head, tg_at_e, tg_in_name, tg_in_fn, tg_in_call, tg_in_at, tg_in_shut, tg_in_head, tg_in_e, tg_shut_name, tg_shut_fn, tg_shut_call, tg_shut_at, tg_shut_in, tg_shut_head, tg_shut_e, tg_head_name, tg_head_fn, tg_head_call, tg_head_at, tg_head_in, tg_head_shut, tg_head_e, tg_e_name, tg_e_fn, tg_e_call, tg_e_at, tg_e_in, tg_e_shut, tg_e_head, $xs,*])
namespace Pg
open PySem L2 Dv
abbrev f_is_integer : Nat := 0
abbrev f_is_natural : Nat := 1
abbrev f_anew : Nat := 2
abbrev f_is_plain_name : Nat := 3
abbrev f_is_node : Nat := 4
abbrev f_is_tree : Nat := 5
abbrev f_flat : Nat := 6
abbrev f_ends_of : Nat := 7
abbrev f_levels_of : Nat := 8
abbrev f_weight_of : Nat := 9
abbrev f_merged : Nat := 10
abbrev f_frees_of : Nat := 11
abbrev f_free_in : Nat := 12
abbrev f_is_name : Nat := 13
abbrev f_is_wide : Nat := 14
abbrev f_is_program : Nat := 15
abbrev f_need_wide : Nat := 16
abbrev f_nodes : Nat := 17
abbrev f_levels : Nat := 18
abbrev f_weight : Nat := 19
abbrev f_free_names : Nat := 20
abbrev f_built : Nat := 21
abbrev f_addresses_of : Nat := 22
abbrev f_is_row_of_ways : Nat := 23
abbrev f_index_at : Nat := 24
abbrev f_need_index : Nat := 25
abbrev f_names_in : Nat := 26
abbrev f_places_in : Nat := 27
abbrev f_addresses : Nat := 28
abbrev f_part : Nat := 29
abbrev f_exchanged : Nat := 30
abbrev f_bound_at : Nat := 31
abbrev f_fresh_in : Nat := 32
abbrev f_need_name : Nat := 33
abbrev f_spine : Nat := 34
abbrev f_called : Nat := 35
abbrev f_fresh : Nat := 36
abbrev f_read_signs : Nat := 37
abbrev f_need_string : Nat := 38
abbrev f_fault : Nat := 39
abbrev f_completion : Nat := 40
abbrev f_wall : Nat := 41
abbrev f_added : Nat := 42
abbrev f_close_to : Nat := 43
abbrev f_program_of : Nat := 44
abbrev f_read_program : Nat := 45
abbrev f_item_shown : Nat := 46
abbrev f_show_program : Nat := 47
abbrev f_is_pair : Nat := 48
abbrev f_numbers_of : Nat := 49
abbrev f_numbered_of : Nat := 50
abbrev f_is_numbered_leaf : Nat := 51
abbrev f_is_numbered : Nat := 52
abbrev f_need_numbered : Nat := 53
abbrev f_numbers_in : Nat := 54
abbrev f_outside_of : Nat := 55
abbrev f_names_for : Nat := 56
abbrev f_numbered : Nat := 57
abbrev f_named : Nat := 58
abbrev f_told : Nat := 59
abbrev f_are_like : Nat := 60
abbrev f_parting : Nat := 61
abbrev f_bound_of : Nat := 62
abbrev f_is_caught : Nat := 63
abbrev f_with_name : Nat := 64
abbrev f_renamed : Nat := 65
abbrev f_renamings : Nat := 66
abbrev f_is_renaming : Nat := 67
abbrev f_renamings_hold : Nat := 68
abbrev f_are_ascending : Nat := 69
abbrev f_need_number : Nat := 70
abbrev f_entered : Nat := 71
abbrev f_put_tokens : Nat := 72
abbrev f_put_for : Nat := 73
abbrev f_is_puts : Nat := 74
abbrev f_put_all : Nat := 75
abbrev f_put_in : Nat := 76
abbrev f_put_place : Nat := 77
abbrev f_is_ready : Nat := 78
abbrev f_indexes_ready : Nat := 79
abbrev f_ready : Nat := 80
abbrev f_call_parts : Nat := 81
abbrev f_contracted_at : Nat := 82
abbrev f_need_ready : Nat := 83
abbrev f_contracted : Nat := 84
abbrev f_led : Nat := 85
abbrev f_need_led : Nat := 86
abbrev f_walked : Nat := 87
abbrev f_places_of : Nat := 88
abbrev f_fns_above : Nat := 89
abbrev f_copies_of : Nat := 90
abbrev f_residuals : Nat := 91
abbrev f_developed_by : Nat := 92
abbrev f_is_lot : Nat := 93
abbrev f_developed : Nat := 94
abbrev f_lot_behind : Nat := 95
abbrev f_meeting : Nat := 96
abbrev f_meeting_holds : Nat := 97
abbrev f_is_one_of : Nat := 98
abbrev f_need_program : Nat := 99
abbrev f_calls_ahead : Nat := 100
abbrev f_call_at_head : Nat := 101
abbrev f_rests_in : Nat := 102
abbrev f_next_by_value : Nat := 103
abbrev f_ready_ahead : Nat := 104
abbrev f_argument_to_go : Nat := 105
abbrev f_next_longest : Nat := 106
abbrev f_chain_of : Nat := 107
abbrev f_next_by_need : Nat := 108
abbrev f_next_of : Nat := 109
abbrev f_is_way : Nat := 110
abbrev f_has_places_of : Nat := 111
abbrev f_is_state : Nat := 112
abbrev f_need_way : Nat := 113
abbrev f_need_state : Nat := 114
abbrev f_start : Nat := 115
abbrev f_next_step : Nat := 116
abbrev f_is_at_rest : Nat := 117
abbrev f_tokens_in : Nat := 118
abbrev f_with_tokens : Nat := 119
abbrev f_with_pair : Nat := 120
abbrev f_with_place : Nat := 121
abbrev f_stepped : Nat := 122
abbrev f_step : Nat := 123
abbrev f_dropped_by : Nat := 124
abbrev f_thrown_by : Nat := 125
abbrev f_thrown : Nat := 126
abbrev f_calls_outside : Nat := 127
abbrev f_size_of : Nat := 128
abbrev f_need_rest : Nat := 129
abbrev f_size : Nat := 130
abbrev f_waits_for : Nat := 131
abbrev f_need_any_state : Nat := 132
abbrev f_chain : Nat := 133
abbrev f_unfolded_of : Nat := 134
abbrev f_unfolded : Nat := 135
abbrev f_as_lets : Nat := 136
abbrev f_rows_of : Nat := 137
abbrev f_is_large : Nat := 138
abbrev f_bound_many : Nat := 139
abbrev f_nodes_behind : Nat := 140
abbrev f_gone : Nat := 141
abbrev f_need_run : Nat := 142
abbrev f_run : Nat := 143
abbrev f_counts : Nat := 144
abbrev f_trail : Nat := 145
abbrev f_is_step : Nat := 146
abbrev f_states_by : Nat := 147
abbrev f_played : Nat := 148
abbrev f_trail_holds : Nat := 149
abbrev f_places_by : Nat := 150
abbrev f_path_by : Nat := 151
abbrev f_word_up : Nat := 152
abbrev f_word_of_fn : Nat := 153
abbrev f_move_word : Nat := 154
abbrev f_with_content : Nat := 155
abbrev f_put_pair : Nat := 156
abbrev f_put_argument : Nat := 157
abbrev f_called_by : Nat := 158
abbrev f_looked_by : Nat := 159
abbrev f_walked_by : Nat := 160
abbrev f_moved : Nat := 161
abbrev f_is_item : Nat := 162
abbrev f_is_machine_store : Nat := 163
abbrev f_has_form : Nat := 164
abbrev f_has_works : Nat := 165
abbrev f_folded : Nat := 166
abbrev f_rests : Nat := 167
abbrev f_item_fits : Nat := 168
abbrev f_is_right_longest : Nat := 169
abbrev f_is_machine : Nat := 170
abbrev f_need_machine : Nat := 171
abbrev f_load : Nat := 172
abbrev f_decoded : Nat := 173
abbrev f_next_move : Nat := 174
abbrev f_move : Nat := 175
abbrev f_rows_in : Nat := 176
abbrev f_copies_come : Nat := 177
abbrev f_ride : Nat := 178
abbrev f_bags_in : Nat := 179
abbrev f_level_by : Nat := 180
abbrev f_turned : Nat := 181
abbrev f_moved_bag : Nat := 182
abbrev f_needed_of : Nat := 183
abbrev f_ordered : Nat := 184
abbrev f_is_row : Nat := 185
abbrev f_is_entry : Nat := 186
abbrev f_is_lone : Nat := 187
abbrev f_suits : Nat := 188
abbrev f_are_kinds : Nat := 189
abbrev f_ways_of : Nat := 190
abbrev f_need_kinds : Nat := 191
abbrev f_need_some_kinds : Nat := 192
abbrev f_fits : Nat := 193
abbrev f_comes : Nat := 194
abbrev f_is_kinds : Nat := 195
abbrev f_is_bag : Nat := 196
abbrev f_is_result : Nat := 197
abbrev f_joined : Nat := 198
abbrev f_need_row : Nat := 199
abbrev f_weights_of : Nat := 200
abbrev f_bag_weight : Nat := 201
abbrev f_sum_of : Nat := 202
abbrev f_just : Nat := 203
abbrev f_pieces_of : Nat := 204
abbrev f_read_entries : Nat := 205
abbrev f_text_by : Nat := 206
abbrev f_show_bag : Nat := 207
abbrev f_read_bag : Nat := 208
abbrev f_is_telling : Nat := 209
abbrev f_fit_name : Nat := 210
abbrev f_fit_fn : Nat := 211
abbrev f_fit_rest : Nat := 212
abbrev f_fit_call : Nat := 213
abbrev f_fit_throw : Nat := 214
abbrev f_fit_wait : Nat := 215
abbrev f_fit : Nat := 216
abbrev f_poured : Nat := 217
abbrev f_bound_bags : Nat := 218
abbrev f_binds : Nat := 219
abbrev f_used_by : Nat := 220
abbrev f_uses_in : Nat := 221
abbrev f_counts_of : Nat := 222
abbrev f_told_right : Nat := 223
abbrev f_shaped : Nat := 224
abbrev f_read : Nat := 225
abbrev f_need_reading : Nat := 226
abbrev f_is_derivation : Nat := 227
abbrev f_judged : Nat := 228
abbrev f_all_given : Nat := 229
abbrev f_quiet : Nat := 230
abbrev f_is_quiet : Nat := 231
abbrev f_told_addresses : Nat := 232
abbrev f_subjects : Nat := 233
abbrev f_is_free_at : Nat := 234
abbrev f_taken_out : Nat := 235
abbrev f_called_again : Nat := 236
abbrev f_put_back : Nat := 237
abbrev f_gathered : Nat := 238
abbrev f_shared_back : Nat := 239
abbrev f_looked_back : Nat := 240
abbrev f_quiet_node : Nat := 241
abbrev f_waiting_node : Nat := 242
abbrev f_wanted_node : Nat := 243
abbrev f_rested_by_value : Nat := 244
abbrev f_rested_by_need : Nat := 245
abbrev f_rested_work : Nat := 246
abbrev f_roots_by : Nat := 247
abbrev f_set_roots : Nat := 248
abbrev f_parts_at : Nat := 249
abbrev f_fetched : Nat := 250
abbrev f_is_stored : Nat := 251
abbrev f_against : Nat := 252
abbrev f_found : Nat := 253
abbrev f_rules : Nat := 254
abbrev f_need_derivation : Nat := 255
abbrev f_need_derivations : Nat := 256
abbrev f_together : Nat := 257
abbrev f_finished : Nat := 258
abbrev f_used_with : Nat := 259
abbrev f_name_of : Nat := 260
abbrev f_fn_of : Nat := 261
abbrev f_rest_of : Nat := 262
abbrev f_rule_of : Nat := 263
abbrev f_call_of : Nat := 264
abbrev f_alone : Nat := 265
abbrev f_parted : Nat := 266
abbrev f_goal_at : Nat := 267
abbrev f_goal_by : Nat := 268
abbrev f_goals_at : Nat := 269
abbrev f_put_at : Nat := 270
abbrev f_taken : Nat := 271
abbrev f_members_of : Nat := 272
abbrev f_dealt : Nat := 273
abbrev f_put_into : Nat := 274
abbrev f_shared : Nat := 275
abbrev f_looked : Nat := 276
abbrev f_along : Nat := 277
abbrev f_need_step : Nat := 278
abbrev f_need_work : Nat := 279
abbrev f_forth : Nat := 280
abbrev f_back : Nat := 281
abbrev f_rested : Nat := 282
abbrev f_need_quiet : Nat := 283
abbrev f_subjects_of : Nat := 284
abbrev f_tallied : Nat := 285
abbrev f_fns_called : Nat := 286
abbrev f_calls_stepped : Nat := 287
abbrev f_names_looked : Nat := 288
abbrev f_spared : Nat := 289
abbrev f_sides_of : Nat := 290
abbrev f_with_uses : Nat := 291
abbrev f_sums : Nat := 292
abbrev f_bag_of : Nat := 293
abbrev f_without : Nat := 294
abbrev f_by_result : Nat := 295
abbrev f_woven : Nat := 296
abbrev f_rest_words : Nat := 297
abbrev f_resting : Nat := 298
abbrev f_ways_to_call : Nat := 299
abbrev f_call_entries : Nat := 300
abbrev f_name_entries : Nat := 301
abbrev f_members_by : Nat := 302
abbrev f_shut_entries : Nat := 303
abbrev f_fn_entries : Nat := 304
abbrev f_bags_by_weight : Nat := 305
abbrev f_entries_of : Nat := 306
abbrev f_all_kinds : Nat := 307
abbrev f_part_table : Nat := 308
abbrev f_table : Nat := 309
abbrev f_is_use : Nat := 310
abbrev f_is_table_entry : Nat := 311
abbrev f_are_entries : Nat := 312
abbrev f_need_table : Nat := 313
abbrev f_table_of_name : Nat := 314
abbrev f_table_of_fn : Nat := 315
abbrev f_table_of_call : Nat := 316
abbrev f_prices : Nat := 317
abbrev f_is_quiet_entry : Nat := 318
abbrev f_quiet_entry : Nat := 319
abbrev f_put_at_all : Nat := 320
abbrev f_kept : Nat := 321
abbrev f_kept_back : Nat := 322
abbrev f_taken_up : Nat := 323
abbrev f_poured_in : Nat := 324
abbrev f_uses_of : Nat := 325
abbrev f_read_spread : Nat := 326
abbrev f_along_spread : Nat := 327
abbrev f_against_spread : Nat := 328
abbrev f_rested_spread : Nat := 329
abbrev f_need_any : Nat := 330
abbrev f_need_spread : Nat := 331
abbrev f_is_spread : Nat := 332
abbrev f_judged_spread : Nat := 333
abbrev f_is_quiet_spread : Nat := 334
abbrev f_spread_of : Nat := 335
abbrev f_times : Nat := 336
abbrev f_spread_forth : Nat := 337
abbrev f_spread_back : Nat := 338
abbrev f_spread_of_need : Nat := 339
abbrev f_spread_at_rest : Nat := 340
abbrev f_words_of : Nat := 341
abbrev f_sum_at : Nat := 342
abbrev f_less_by : Nat := 343
abbrev f_vectors_of : Nat := 344
abbrev f_columns_sum : Nat := 345
abbrev f_is_uses : Nat := 346
abbrev f_is_wanted : Nat := 347
abbrev f_bags_of : Nat := 348
abbrev f_is_goal : Nat := 349
abbrev f_need_goal : Nat := 350
abbrev f_need_lot : Nat := 351
abbrev f_led_to : Nat := 352
abbrev f_lot_of : Nat := 353
abbrev f_goals_of : Nat := 354
abbrev f_lot_weight : Nat := 355
abbrev f_unbalanced : Nat := 356
abbrev f_goal_of : Nat := 357
abbrev f_is_even : Nat := 358
abbrev f_are_empty : Nat := 359
abbrev f_less_one : Nat := 360
abbrev f_items_of : Nat := 361
abbrev f_columns_from : Nat := 362
abbrev f_parcels : Nat := 363
abbrev f_shares : Nat := 364
abbrev f_deals : Nat := 365
abbrev f_tidy : Nat := 366
abbrev f_picked : Nat := 367
abbrev f_fn_options : Nat := 368
abbrev f_spine_of : Nat := 369
abbrev f_head_options : Nat := 370
abbrev f_value_options : Nat := 371
abbrev f_need_options : Nat := 372
abbrev f_combined : Nat := 373
abbrev f_are_shut : Nat := 374
abbrev f_step_options : Nat := 375
abbrev f_name_options : Nat := 376
abbrev f_lengths_at : Nat := 377
abbrev f_steps_of : Nat := 378
abbrev f_full_moves : Nat := 379
abbrev f_tidied : Nat := 380
abbrev f_moves_at : Nat := 381
abbrev f_moves_from : Nat := 382
abbrev f_names_of : Nat := 383
abbrev f_bare_of : Nat := 384
abbrev f_bare : Nat := 385
abbrev f_moves : Nat := 386
abbrev f_pool_of : Nat := 387
abbrev f_telling_of : Nat := 388
abbrev f_derivation_of : Nat := 389
abbrev f_bare_weight : Nat := 390
abbrev f_can_go : Nat := 391
abbrev f_chosen_of : Nat := 392
abbrev f_full_of : Nat := 393
abbrev f_fresh_name : Nat := 394
abbrev f_made : Nat := 395
abbrev f_made_fn : Nat := 396
abbrev f_quiet_tree : Nat := 397
abbrev f_made_head : Nat := 398
abbrev f_head_tree : Nat := 399
abbrev f_made_let : Nat := 400
abbrev f_let_tree : Nat := 401
abbrev f_lost_member : Nat := 402
abbrev f_trees_of : Nat := 403
abbrev f_fill : Nat := 404
abbrev f_can_fill : Nat := 405
abbrev f_hopeless : Nat := 406
abbrev f_is_first_row : Nat := 407
abbrev f_is_bare : Nat := 408
abbrev f_is_closed : Nat := 409
abbrev f_fill_holds : Nat := 410
abbrev f_do_fill : Nat := 411
abbrev f_reached : Nat := 412
abbrev f_spine_in : Nat := 413
abbrev f_argument_address : Nat := 414
abbrev f_guided : Nat := 415
abbrev f_guided_fn : Nat := 416
abbrev f_guided_head : Nat := 417
abbrev f_guided_call : Nat := 418
abbrev f_tree_for : Nat := 419
abbrev f_are_arrows : Nat := 420
abbrev f_shapes_at : Nat := 421
abbrev f_shapes_by : Nat := 422
abbrev f_shapes_for : Nat := 423
abbrev f_shapes : Nat := 424
abbrev f_how_many : Nat := 425
abbrev f_completed_in : Nat := 426
abbrev f_completed : Nat := 427
abbrev f_derivations_for : Nat := 428
abbrev f_derived : Nat := 429
abbrev f_heavy_tidy : Nat := 430
abbrev f_heavier : Nat := 431
abbrev f_heavy_parts : Nat := 432
abbrev f_told_rows : Nat := 433
abbrev f_rules_by : Nat := 434
abbrev f_fewest_at : Nat := 435
abbrev f_fewest_program : Nat := 436
abbrev f_cost_of : Nat := 437
abbrev f_least_moves : Nat := 438
abbrev f_least : Nat := 439
abbrev f_fewest : Nat := 440
abbrev f_is_made_so : Nat := 441
abbrev f_rules_together : Nat := 442
abbrev f_is_normal : Nat := 443
abbrev f_need_normal : Nat := 444
abbrev f_letter : Nat := 445
abbrev f_fits_bag : Nat := 446
abbrev f_is_plan : Nat := 447
abbrev f_need_plan : Nat := 448
abbrev f_heads : Nat := 449
abbrev f_general_fn : Nat := 450
abbrev f_general : Nat := 451
abbrev f_general_derivation : Nat := 452
abbrev f_most_general : Nat := 453
abbrev f_tree_from : Nat := 454
abbrev f_read_plan : Nat := 455
abbrev f_plan_read : Nat := 456
abbrev f_plan_of : Nat := 457
abbrev f_puts_of : Nat := 458
abbrev f_put_kinds : Nat := 459
abbrev f_derive : Nat := 460
abbrev f_once_in : Nat := 461
abbrev f_once_plan : Nat := 462
abbrev f_bags_up_to : Nat := 463
abbrev f_plans_in : Nat := 464
abbrev f_plans : Nat := 465
abbrev f_principal : Nat := 466
abbrev f_long_shapes : Nat := 467
abbrev f_has_left : Nat := 468
abbrev f_standings : Nat := 469
abbrev f_are_twice : Nat := 470
abbrev f_is_principal : Nat := 471
abbrev f_parting_goal : Nat := 472
abbrev f_is_short_at : Nat := 473
abbrev f_shorter : Nat := 474
abbrev f_is_lengthened : Nat := 475
abbrev f_shortened : Nat := 476
abbrev f_is_open : Nat := 477
abbrev f_met : Nat := 478
abbrev f_names_at : Nat := 479
abbrev f_laid_on : Nat := 480
abbrev f_is_value_way : Nat := 481
abbrev f_without_places : Nat := 482
abbrev f_are_exchanged : Nat := 483
abbrev f_goes_on : Nat := 484
abbrev f_is_value_paper : Nat := 485
abbrev f_common : Nat := 486
abbrev f_ring_at : Nat := 487
abbrev f_value_paper : Nat := 488
abbrev f_is_bare_program : Nat := 489
abbrev f_is_bare_puts : Nat := 490
abbrev f_ahead : Nat := 491
abbrev f_begins_with : Nat := 492
abbrev f_is_count : Nat := 493
abbrev f_is_name_paper : Nat := 494
abbrev f_is_ring_by_value : Nat := 495
abbrev f_has_part : Nat := 496
abbrev f_is_longest_paper : Nat := 497
abbrev f_paper_holds : Nat := 498
abbrev f_ring_of : Nat := 499
abbrev f_by_name : Nat := 500
abbrev f_name_paper : Nat := 501
abbrev f_name_run : Nat := 502
abbrev f_longest_paper : Nat := 503
abbrev f_never : Nat := 504
abbrev f_how_ends : Nat := 505
abbrev f_are_for : Nat := 506
abbrev f_derivation_for : Nat := 507
abbrev f_show_wanted : Nat := 508
abbrev f_show_goal : Nat := 509
abbrev f_show_lot : Nat := 510
abbrev f_as_places : Nat := 511
abbrev f_show_shape : Nat := 512
abbrev f_bag_or_none : Nat := 513
abbrev f_goal_from : Nat := 514
abbrev f_text_of : Nat := 515
abbrev f_goal_or_none : Nat := 516
abbrev f_read_goal : Nat := 517
abbrev f_read_lot : Nat := 518
abbrev f_program_or_none : Nat := 519
abbrev f_with_left : Nat := 520
abbrev f_free_name_for : Nat := 521
abbrev f_read_shape : Nat := 522
abbrev f_most_of : Nat := 523
abbrev f_is_command : Nat := 524
abbrev f_read_or_none : Nat := 525
abbrev f_principal_text : Nat := 526
abbrev f_run_text : Nat := 527
abbrev f_kind_text : Nat := 528
abbrev f_filled : Nat := 529
abbrev f_calls_more : Nat := 530
abbrev f_wrapped : Nat := 531
abbrev f_law_box : Nat := 532
abbrev f_law_pick : Nat := 533
abbrev f_law_normal : Nat := 534
noncomputable def bd_is_integer (c : Nat → Fn) : S := (sRet (sAnd (sCB isiD (aCons (sVar 0) (aCons (sC (.ty "int")) aNil))) (sNot (sCB isiD (aCons (sVar 0) (aCons (sC (.ty "bool")) aNil))))))
noncomputable abbrev fn_is_integer (c : Nat → Fn) : Fn := run 1 1 (bd_is_integer c)
noncomputable def bd_is_natural (c : Nat → Fn) : S := (sRet (sAnd (sCall (c 0) [true] (aCons (sVar 0) aNil)) (sOp2 geD (sVar 0) (sC (.int 0)))))
noncomputable abbrev fn_is_natural (c : Nat → Fn) : Fn := run 1 1 (bd_is_natural c)
noncomputable def bd_need_number (c : Nat → Fn) : S := (sIfS (tOr (tB (sOp2 ltD (sVar 0) (sVar 1))) (tAnd (tB (sOp2 isntD (sVar 2) (sC .non))) (tB (sOp2 gtD (sVar 0) (sVar 2))))) sBad sSkip)
noncomputable abbrev fn_need_number (c : Nat → Fn) : Fn := run 3 3 (bd_need_number c)
noncomputable def bd_anew (c : Nat → Fn) : S := (sSeq (sIfS (tTru (sCB isiD (aCons (sVar 0) (aCons (sC (.ty "tuple")) aNil)))) (sRet (sCB tupD (aCons (sLc (wSeq (sVar 0)) (gN 1) tYesT (sCall (c 2) [true] (aCons (sVar 1) aNil)) [1]) aNil))) sSkip)
    (sSeq (sIfS (tTru (sCB isiD (aCons (sVar 0) (aCons (sC (.ty "list")) aNil)))) (sRet (sLc (wSeq (sVar 0)) (gN 1) tYesT (sCall (c 2) [true] (aCons (sVar 1) aNil)) [1])) sSkip)
    (sRet (sVar 0))))
noncomputable abbrev fn_anew (c : Nat → Fn) : Fn := run 1 2 (bd_anew c)
noncomputable def bd_is_plain_name (c : Nat → Fn) : S := (sSeq (sIfS (tOr (tNot (tTru (sCB isiD (aCons (sVar 0) (aCons (sC (.ty "str")) aNil))))) (tOr (tB (sOp2 eqD (sVar 0) (sC (.str "")))) (tB (sOp2 ninD (sOp2 atD (sVar 0) (sC (.int 0))) (sC (.str "abcdefghijklmnopqrstuvwxyz")))))) (sRet (sC (.bl false))) sSkip)
    (sSeq (sAsg 1 (sCut (sVar 0) (pSome (sC (.int 1))) pNone))
    (sRet (sOr (sOp2 eqD (sVar 1) (sC (.str ""))) (sAnd (sOp2 leD (sCB lenD (aCons (sVar 1) aNil)) (sC (.int 6))) (sAnd (sOp2 neD (sOp2 atD (sVar 1) (sC (.int 0))) (sC (.str "0"))) (sCB allD (aCons (sLc (wSeq (sVar 1)) (gN 2) tYesT (sOp2 inD (sVar 2) (sC (.str "0123456789"))) [2]) aNil))))))))
noncomputable abbrev fn_is_plain_name (c : Nat → Fn) : Fn := run 1 3 (bd_is_plain_name c)
noncomputable def bd_is_node (c : Nat → Fn) : S := (sSeq (sIfS (tOr (tNot (tTru (sCB isiD (aCons (sVar 0) (aCons (sC (.ty "tuple")) aNil))))) (tOr (tB (sOp2 ltD (sCB lenD (aCons (sVar 0) aNil)) (sC (.int 2)))) (tNot (tTru (sCB isiD (aCons (sOp2 atD (sVar 0) (sC (.int 0))) (aCons (sC (.ty "str")) aNil))))))) (sRet (sC (.bl false))) sSkip)
    (sSeq (sIfS (tB (sOp2 eqD (sOp2 atD (sVar 0) (sC (.int 0))) (sC (.str "name")))) (sRet (sAnd (sOp2 eqD (sCB lenD (aCons (sVar 0) aNil)) (sC (.int 2))) (sCall (c 3) [true] (aCons (sOp2 atD (sVar 0) (sC (.int 1))) aNil)))) sSkip)
    (sSeq (sIfS (tB (sOp2 eqD (sOp2 atD (sVar 0) (sC (.int 0))) (sC (.str "at")))) (sRet (sAnd (sOp2 eqD (sCB lenD (aCons (sVar 0) aNil)) (sC (.int 2))) (sCall (c 1) [true] (aCons (sOp2 atD (sVar 0) (sC (.int 1))) aNil)))) sSkip)
    (sSeq (sIfS (tB (sOp2 eqD (sOp2 atD (sVar 0) (sC (.int 0))) (sC (.str "fn")))) (sRet (sAnd (sOp2 eqD (sCB lenD (aCons (sVar 0) aNil)) (sC (.int 3))) (sCall (c 3) [true] (aCons (sOp2 atD (sVar 0) (sC (.int 1))) aNil)))) sSkip)
    (sRet (sAnd (sOp2 eqD (sOp2 atD (sVar 0) (sC (.int 0))) (sC (.str "call"))) (sOp2 eqD (sCB lenD (aCons (sVar 0) aNil)) (sC (.int 3)))))))))
noncomputable abbrev fn_is_node (c : Nat → Fn) : Fn := run 1 1 (bd_is_node c)
noncomputable def bd_is_tree_t1 (c : Nat → Fn) : T := (tB (sOp2 gtD (sCB lenD (aCons (sVar 1) aNil)) (sC (.int 0))))
noncomputable def bd_is_tree_b1 (c : Nat → Fn) : S := (sSeq (sAsg 2 (sMut 1 fPop aNil))
    (sSeq (sIfS (tNot (tTru (sCall (c 4) [true] (aCons (sVar 2) aNil)))) (sRet (sC (.bl false))) sSkip)
    (sIfS (tB (sOp2 eqD (sOp2 atD (sVar 2) (sC (.int 0))) (sC (.str "fn")))) (sDrop (sMut 1 fAppend (aCons (sOp2 atD (sVar 2) (sC (.int 2))) aNil))) (sIfS (tB (sOp2 eqD (sOp2 atD (sVar 2) (sC (.int 0))) (sC (.str "call")))) (sSeq (sDrop (sMut 1 fAppend (aCons (sOp2 atD (sVar 2) (sC (.int 2))) aNil)))
    (sDrop (sMut 1 fAppend (aCons (sOp2 atD (sVar 2) (sC (.int 1))) aNil)))) sSkip))))
noncomputable def bd_is_tree (c : Nat → Fn) : S := (sSeq (sAsg 1 (sLst (aCons (sVar 0) aNil)))
    (sSeq (sWh (bd_is_tree_t1 c) (bd_is_tree_b1 c))
    (sRet (sC (.bl true)))))
noncomputable abbrev fn_is_tree (c : Nat → Fn) : Fn := run 1 3 (bd_is_tree c)
noncomputable def bd_flat_t1 (c : Nat → Fn) : T := (tB (sOp2 gtD (sCB lenD (aCons (sVar 2) aNil)) (sC (.int 0))))
noncomputable def bd_flat_b1 (c : Nat → Fn) : S := (sSeq (sAsg 3 (sMut 2 fPop aNil))
    (sSeq (sDrop (sMut 1 fAppend (aCons (sTup (aCons (sOp2 atD (sVar 3) (sC (.int 0))) (aCons (sIf (tB (sOp2 eqD (sOp2 atD (sVar 3) (sC (.int 0))) (sC (.str "call")))) (sC .non) (sOp2 atD (sVar 3) (sC (.int 1)))) aNil))) aNil)))
    (sIfS (tB (sOp2 eqD (sOp2 atD (sVar 3) (sC (.int 0))) (sC (.str "fn")))) (sDrop (sMut 2 fAppend (aCons (sOp2 atD (sVar 3) (sC (.int 2))) aNil))) (sIfS (tB (sOp2 eqD (sOp2 atD (sVar 3) (sC (.int 0))) (sC (.str "call")))) (sSeq (sDrop (sMut 2 fAppend (aCons (sOp2 atD (sVar 3) (sC (.int 2))) aNil)))
    (sDrop (sMut 2 fAppend (aCons (sOp2 atD (sVar 3) (sC (.int 1))) aNil)))) sSkip))))
noncomputable def bd_flat (c : Nat → Fn) : S := (sSeq (sAsg 1 (sLst aNil))
    (sSeq (sAsg 2 (sLst (aCons (sVar 0) aNil)))
    (sSeq (sWh (bd_flat_t1 c) (bd_flat_b1 c))
    (sRet (sVar 1)))))
noncomputable abbrev fn_flat (c : Nat → Fn) : Fn := run 1 4 (bd_flat c)
noncomputable def bd_ends_of_g1 : G := (gN 2)
noncomputable def bd_ends_of_b1 (c : Nat → Fn) : S := (sSeq (sAsg 3 (sOp2 atD (sOp2 atD (sVar 0) (sVar 2)) (sC (.int 0))))
    (sIfS (tB (sOp2 eqD (sVar 3) (sC (.str "fn")))) (sSet 1 (sVar 2) (sOp2 atD (sVar 1) (sOp2 addD (sVar 2) (sC (.int 1))))) (sIfS (tB (sOp2 eqD (sVar 3) (sC (.str "call")))) (sSet 1 (sVar 2) (sOp2 atD (sVar 1) (sOp2 atD (sVar 1) (sOp2 addD (sVar 2) (sC (.int 1)))))) (sSet 1 (sVar 2) (sOp2 addD (sVar 2) (sC (.int 1)))))))
noncomputable def bd_ends_of (c : Nat → Fn) : S := (sSeq (sAsg 1 (sOp2 mulD (sLst (aCons (sC (.int 0)) aNil)) (sCB lenD (aCons (sVar 0) aNil))))
    (sSeq (sFor (wArgs rng3 (aCons (sOp2 subD (sCB lenD (aCons (sVar 0) aNil)) (sC (.int 1))) (aCons (sOp1 negD (sC (.int 1))) (aCons (sOp1 negD (sC (.int 1))) aNil)))) bd_ends_of_g1 (bd_ends_of_b1 c))
    (sRet (sVar 1))))
noncomputable abbrev fn_ends_of (c : Nat → Fn) : Fn := run 1 4 (bd_ends_of c)
noncomputable def bd_levels_of_g1 : G := (gN 3)
noncomputable def bd_levels_of_b1 (c : Nat → Fn) : S := (sSeq (sAsg 4 (sOp2 atD (sOp2 atD (sVar 0) (sVar 3)) (sC (.int 0))))
    (sIfS (tB (sOp2 eqD (sVar 4) (sC (.str "fn")))) (sSet 2 (sVar 3) (sOp2 addD (sOp2 atD (sVar 2) (sOp2 addD (sVar 3) (sC (.int 1)))) (sC (.int 1)))) (sIfS (tB (sOp2 eqD (sVar 4) (sC (.str "call")))) (sSet 2 (sVar 3) (sOp2 addD (sCB maxD (aCons (sOp2 atD (sVar 2) (sOp2 addD (sVar 3) (sC (.int 1)))) (aCons (sOp2 atD (sVar 2) (sOp2 atD (sVar 1) (sOp2 addD (sVar 3) (sC (.int 1))))) aNil))) (sC (.int 1)))) sSkip)))
noncomputable def bd_levels_of (c : Nat → Fn) : S := (sSeq (sAsg 1 (sCall (c 7) [true] (aCons (sVar 0) aNil)))
    (sSeq (sAsg 2 (sOp2 mulD (sLst (aCons (sC (.int 1)) aNil)) (sCB lenD (aCons (sVar 0) aNil))))
    (sSeq (sFor (wArgs rng3 (aCons (sOp2 subD (sCB lenD (aCons (sVar 0) aNil)) (sC (.int 1))) (aCons (sOp1 negD (sC (.int 1))) (aCons (sOp1 negD (sC (.int 1))) aNil)))) bd_levels_of_g1 (bd_levels_of_b1 c))
    (sRet (sOp2 atD (sVar 2) (sC (.int 0)))))))
noncomputable abbrev fn_levels_of (c : Nat → Fn) : Fn := run 1 5 (bd_levels_of c)
noncomputable def bd_addresses_of_g1 : G := (gT 2 (gs1 (gN 3) (gs1 (gN 4) gs0)))
noncomputable def bd_addresses_of_b1 (c : Nat → Fn) : S := (sSeq (sAsg 5 (sMut 2 fPop aNil))
    (sSeq (sDrop (sMut 1 fAppend (aCons (sVar 5) aNil)))
    (sSeq (sIfS (tB (sOp2 eqD (sVar 3) (sC (.str "call")))) (sDrop (sMut 2 fAppend (aCons (sOp2 addD (sVar 5) (sTup (aCons (sC (.int 1)) aNil))) aNil))) sSkip)
    (sIfS (tOr (tB (sOp2 eqD (sVar 3) (sC (.str "call")))) (tB (sOp2 eqD (sVar 3) (sC (.str "fn"))))) (sDrop (sMut 2 fAppend (aCons (sOp2 addD (sVar 5) (sTup (aCons (sC (.int 0)) aNil))) aNil))) sSkip))))
noncomputable def bd_addresses_of (c : Nat → Fn) : S := (sSeq (sAsg 1 (sLst aNil))
    (sSeq (sAsg 2 (sLst (aCons (sTup aNil) aNil)))
    (sSeq (sFor (wSeq (sVar 0)) bd_addresses_of_g1 (bd_addresses_of_b1 c))
    (sRet (sVar 1)))))
noncomputable abbrev fn_addresses_of (c : Nat → Fn) : Fn := run 1 6 (bd_addresses_of c)
noncomputable def bd_is_program (c : Nat → Fn) : S := (sSeq (sIfS (tNot (tTru (sCall (c 5) [true] (aCons (sVar 0) aNil)))) (sRet (sC (.bl false))) sSkip)
    (sSeq (sAsg 1 (sCall (c 6) [true] (aCons (sVar 0) aNil)))
    (sSeq (sIfS (tOr (tB (sOp2 gtD (sCB lenD (aCons (sVar 1) aNil)) (sC (.int 200)))) (tTru (sCB anyD (aCons (sLc (wSeq (sVar 1)) (gT 2 (gs1 (gN 2) (gs1 (gN 3) gs0))) tYesT (sOp2 eqD (sVar 2) (sC (.str "at"))) [2, 3]) aNil)))) (sRet (sC (.bl false))) sSkip)
    (sRet (sOp2 leD (sCall (c 8) [true] (aCons (sVar 1) aNil)) (sC (.int 60)))))))
noncomputable abbrev fn_is_program (c : Nat → Fn) : Fn := run 1 4 (bd_is_program c)
noncomputable def bd_need_wide (c : Nat → Fn) : S := (sIfS (tNot (tTru (sCall (c 5) [true] (aCons (sVar 0) aNil)))) sBad sSkip)
noncomputable abbrev fn_need_wide (c : Nat → Fn) : Fn := run 1 1 (bd_need_wide c)
noncomputable def bd_need_program (c : Nat → Fn) : S := (sIfS (tNot (tTru (sCall (c 15) [true] (aCons (sVar 0) aNil)))) sBad sSkip)
noncomputable abbrev fn_need_program (c : Nat → Fn) : Fn := run 1 1 (bd_need_program c)
noncomputable def bd_spine_t1 (c : Nat → Fn) : T := (tB (sOp2 eqD (sOp2 atD (sVar 1) (sC (.int 0))) (sC (.str "call"))))
noncomputable def bd_spine_b1 (c : Nat → Fn) : S := (sSeq (sDrop (sMut 2 fAppend (aCons (sOp2 atD (sVar 1) (sC (.int 2))) aNil)))
    (sAsg 1 (sOp2 atD (sVar 1) (sC (.int 1)))))
noncomputable def bd_spine (c : Nat → Fn) : S := (sSeq (sDrop (sCall (c 16) [true] (aCons (sVar 0) aNil)))
    (sSeq (sAsg 1 (sVar 0))
    (sSeq (sAsg 2 (sLst aNil))
    (sSeq (sWh (bd_spine_t1 c) (bd_spine_b1 c))
    (sRet (sTup (aCons (sVar 1) (aCons (sCB tupD (aCons (sOp1 revD (sVar 2)) aNil)) aNil))))))))
noncomputable abbrev fn_spine (c : Nat → Fn) : Fn := run 1 3 (bd_spine c)
noncomputable def bd_is_ready (c : Nat → Fn) : S := (sRet (sAnd (sOp2 eqD (sOp2 atD (sOp2 atD (sVar 0) (sVar 1)) (sC (.int 0))) (sC (.str "call"))) (sOp2 eqD (sOp2 atD (sOp2 atD (sVar 0) (sOp2 addD (sVar 1) (sC (.int 1)))) (sC (.int 0))) (sC (.str "fn")))))
noncomputable abbrev fn_is_ready (c : Nat → Fn) : Fn := run 2 2 (bd_is_ready c)
noncomputable def bd_indexes_ready (c : Nat → Fn) : S := (sRet (sLc (wArgs rng1 (aCons (sCB lenD (aCons (sVar 0) aNil)) aNil)) (gN 1) (tTru (sCall (c 78) [true, true] (aCons (sVar 0) (aCons (sVar 1) aNil)))) (sVar 1) [1]))
noncomputable abbrev fn_indexes_ready (c : Nat → Fn) : Fn := run 1 2 (bd_indexes_ready c)
noncomputable def bd_ready (c : Nat → Fn) : S := (sSeq (sDrop (sCall (c 16) [true] (aCons (sVar 0) aNil)))
    (sSeq (sAsg 1 (sCall (c 6) [true] (aCons (sVar 0) aNil)))
    (sSeq (sAsg 2 (sCall (c 22) [true] (aCons (sVar 1) aNil)))
    (sRet (sCB tupD (aCons (sLc (wSeq (sCall (c 79) [true] (aCons (sVar 1) aNil))) (gN 3) tYesT (sOp2 atD (sVar 2) (sVar 3)) [3]) aNil))))))
noncomputable abbrev fn_ready (c : Nat → Fn) : Fn := run 1 4 (bd_ready c)
noncomputable def bd_is_normal (c : Nat → Fn) : S := (sSeq (sDrop (sCall (c 99) [true] (aCons (sVar 0) aNil)))
    (sRet (sOp2 eqD (sCall (c 80) [true] (aCons (sVar 0) aNil)) (sTup aNil))))
noncomputable abbrev fn_is_normal (c : Nat → Fn) : Fn := run 1 1 (bd_is_normal c)
noncomputable def bd_need_normal (c : Nat → Fn) : S := (sIfS (tNot (tTru (sCall (c 443) [true] (aCons (sVar 0) aNil)))) sBad sSkip)
noncomputable abbrev fn_need_normal (c : Nat → Fn) : Fn := run 1 1 (bd_need_normal c)
noncomputable def bd_fits (c : Nat → Fn) : S := (sSeq (sIfS (tOr (tNot (tTru (sCB isiD (aCons (sVar 1) (aCons (sC (.ty "tuple")) aNil))))) (tOr (tB (sOp2 eqD (sCB lenD (aCons (sVar 1) aNil)) (sC (.int 0)))) (tNot (tTru (sCB isiD (aCons (sOp2 atD (sVar 1) (sC (.int 0))) (aCons (sC (.ty "str")) aNil))))))) (sRet (sC (.bl false))) sSkip)
    (sSeq (sIfS (tB (sOp2 eqD (sOp2 atD (sVar 0) (sC (.int 0))) (sC (.str "fn")))) (sSeq (sIfS (tB (sOp2 eqD (sOp2 atD (sVar 1) (sC (.int 0))) (sC (.str "in")))) (sRet (sAnd (sOp2 eqD (sCB lenD (aCons (sVar 1) aNil)) (sC (.int 2))) (sCall (c 193) [true, true] (aCons (sOp2 atD (sVar 0) (sC (.int 2))) (aCons (sOp2 atD (sVar 1) (sC (.int 1))) aNil))))) sSkip)
    (sRet (sAnd (sOp2 eqD (sOp2 atD (sVar 1) (sC (.int 0))) (sC (.str "shut"))) (sOp2 eqD (sCB lenD (aCons (sVar 1) aNil)) (sC (.int 1)))))) sSkip)
    (sSeq (sIfS (tOr (tB (sOp2 neD (sOp2 atD (sVar 1) (sC (.int 0))) (sC (.str "head")))) (tOr (tB (sOp2 neD (sCB lenD (aCons (sVar 1) aNil)) (sC (.int 2)))) (tNot (tTru (sCB isiD (aCons (sOp2 atD (sVar 1) (sC (.int 1))) (aCons (sC (.ty "tuple")) aNil))))))) (sRet (sC (.bl false))) sSkip)
    (sSeq (sAsg 2 (sOp2 atD (sCall (c 34) [true] (aCons (sVar 0) aNil)) (sC (.int 1))))
    (sSeq (sIfS (tB (sOp2 gtD (sCB lenD (aCons (sOp2 atD (sVar 1) (sC (.int 1))) aNil)) (sCB lenD (aCons (sVar 2) aNil)))) (sRet (sC (.bl false))) sSkip)
    (sRet (sCB allD (aCons (sLc (wZip (aCons (sVar 2) (aCons (sOp2 atD (sVar 1) (sC (.int 1))) aNil))) (gT 2 (gs1 (gN 3) (gs1 (gN 4) gs0))) tYesT (sCall (c 446) [true, true] (aCons (sVar 3) (aCons (sVar 4) aNil))) [3, 4]) aNil))))))))
noncomputable abbrev fn_fits (c : Nat → Fn) : Fn := run 2 5 (bd_fits c)
noncomputable def bd_fits_bag (c : Nat → Fn) : S := (sSeq (sIfS (tOr (tNot (tTru (sCB isiD (aCons (sVar 1) (aCons (sC (.ty "tuple")) aNil))))) (tNot (tTru (sCB allD (aCons (sLc (wSeq (sVar 1)) (gN 2) tYesT (sCall (c 193) [true, true] (aCons (sVar 0) (aCons (sVar 2) aNil))) [2]) aNil))))) (sRet (sC (.bl false))) sSkip)
    (sRet (sCB allD (aCons (sLc (wZip (aCons (sVar 1) (aCons (sCut (sVar 1) (pSome (sC (.int 1))) pNone) aNil))) (gT 2 (gs1 (gN 2) (gs1 (gN 3) gs0))) tYesT (sNot (sOp2 ltD (sVar 3) (sVar 2))) [2, 3]) aNil))))
noncomputable abbrev fn_fits_bag (c : Nat → Fn) : Fn := run 2 4 (bd_fits_bag c)
noncomputable def bd_is_plan (c : Nat → Fn) : S := (sSeq (sDrop (sCall (c 444) [true] (aCons (sVar 0) aNil)))
    (sRet (sCall (c 193) [true, true] (aCons (sVar 0) (aCons (sVar 1) aNil)))))
noncomputable abbrev fn_is_plan (c : Nat → Fn) : Fn := run 2 2 (bd_is_plan c)
noncomputable def bd_once_in (c : Nat → Fn) : S := (sSeq (sIfS (tB (sOp2 eqD (sOp2 atD (sVar 0) (sC (.int 0))) (sC (.str "fn")))) (sRet (sTup (aCons (sC (.str "in")) (aCons (sCall (c 461) [true] (aCons (sOp2 atD (sVar 0) (sC (.int 2))) aNil)) aNil)))) sSkip)
    (sRet (sTup (aCons (sC (.str "head")) (aCons (sCB tupD (aCons (sLc (wSeq (sOp2 atD (sCall (c 34) [true] (aCons (sVar 0) aNil)) (sC (.int 1)))) (gN 1) tYesT (sTup (aCons (sCall (c 461) [true] (aCons (sVar 1) aNil)) aNil)) [1]) aNil)) aNil)))))
noncomputable abbrev fn_once_in (c : Nat → Fn) : Fn := run 1 2 (bd_once_in c)
noncomputable def bd_once_plan (c : Nat → Fn) : S := (sSeq (sDrop (sCall (c 444) [true] (aCons (sVar 0) aNil)))
    (sRet (sCall (c 461) [true] (aCons (sVar 0) aNil))))
noncomputable abbrev fn_once_plan (c : Nat → Fn) : Fn := run 1 1 (bd_once_plan c)
noncomputable def bd_bags_up_to_g1 : G := (gN 4)
noncomputable def bd_bags_up_to_b1 (c : Nat → Fn) : S := (sSeq (sAsg 3 (sLc2 (wSeq (sVar 3)) (gN 5) tYesT (wSeq (sVar 0)) (gN 6) (tOr (tB (sOp2 eqD (sVar 5) (sTup aNil))) (tNot (tB (sOp2 ltD (sVar 6) (sOp2 atD (sVar 5) (sOp1 negD (sC (.int 1)))))))) (sOp2 addD (sVar 5) (sTup (aCons (sVar 6) aNil))) [5, 6] [6]))
    (sDrop (sMut 2 fExtend (aCons (sVar 3) aNil))))
noncomputable def bd_bags_up_to (c : Nat → Fn) : S := (sSeq (sAsg 2 (sLst (aCons (sTup aNil) aNil)))
    (sSeq (sAsg 3 (sLst (aCons (sTup aNil) aNil)))
    (sSeq (sFor (wArgs rng1 (aCons (sVar 1) aNil)) bd_bags_up_to_g1 (bd_bags_up_to_b1 c))
    (sRet (sVar 2)))))
noncomputable abbrev fn_bags_up_to (c : Nat → Fn) : Fn := run 2 7 (bd_bags_up_to c)
noncomputable def bd_plans_in_g1 : G := (gN 4)
noncomputable def bd_plans_in_b1 (c : Nat → Fn) : S := (sSeq (sAsg 5 (sCall (c 463) [true, true] (aCons (sCall (c 464) [true, true] (aCons (sVar 4) (aCons (sVar 1) aNil))) (aCons (sVar 1) aNil))))
    (sSeq (sAsg 2 (sLc2 (wSeq (sVar 2)) (gN 6) tYesT (wSeq (sVar 5)) (gN 7) tYesT (sOp2 addD (sVar 6) (sTup (aCons (sVar 7) aNil))) [6, 7] [7]))
    (sDrop (sMut 3 fExtend (aCons (sLc (wSeq (sVar 2)) (gN 6) tYesT (sTup (aCons (sC (.str "head")) (aCons (sVar 6) aNil))) [6]) aNil)))))
noncomputable def bd_plans_in (c : Nat → Fn) : S := (sSeq (sIfS (tB (sOp2 eqD (sOp2 atD (sVar 0) (sC (.int 0))) (sC (.str "fn")))) (sRet (sOp2 addD (sCB sortD (aCons (sLc (wSeq (sCall (c 464) [true, true] (aCons (sOp2 atD (sVar 0) (sC (.int 2))) (aCons (sVar 1) aNil)))) (gN 4) tYesT (sTup (aCons (sC (.str "in")) (aCons (sVar 4) aNil))) [4]) aNil)) (sLst (aCons (sTup (aCons (sC (.str "shut")) aNil)) aNil)))) sSkip)
    (sSeq (sAsg 2 (sLst (aCons (sTup aNil) aNil)))
    (sSeq (sAsg 3 (sLst (aCons (sTup (aCons (sC (.str "head")) (aCons (sTup aNil) aNil))) aNil)))
    (sSeq (sFor (wSeq (sOp2 atD (sCall (c 34) [true] (aCons (sVar 0) aNil)) (sC (.int 1)))) bd_plans_in_g1 (bd_plans_in_b1 c))
    (sRet (sCB sortD (aCons (sVar 3) aNil)))))))
noncomputable abbrev fn_plans_in (c : Nat → Fn) : Fn := run 2 8 (bd_plans_in c)
noncomputable def bd_plans (c : Nat → Fn) : S := (sSeq (sDrop (sCall (c 444) [true] (aCons (sVar 0) aNil)))
    (sSeq (sDrop (sCall (c 70) [true, true, true] (aCons (sVar 1) (aCons (sC (.int 0)) (aCons (sC (.int 3)) aNil)))))
    (sRet (sCB tupD (aCons (sCall (c 464) [true, true] (aCons (sVar 0) (aCons (sVar 1) aNil))) aNil)))))
noncomputable abbrev fn_plans (c : Nat → Fn) : Fn := run 2 2 (bd_plans c)
noncomputable def bd_law_box (c : Nat → Fn) : S := (sRet (sLst (aCons (sCB listD (aCons (sVar 0) aNil)) (aCons (sC (.int 0)) (aCons (sC (.int 0)) aNil)))))
noncomputable abbrev fn_law_box (c : Nat → Fn) : Fn := run 1 1 (bd_law_box c)
noncomputable def bd_law_pick (c : Nat → Fn) : S := (sSeq (sIfS (tB (sOp2 ltD (sVar 1) (sC (.int 2)))) (sRet (sC (.int 0))) sSkip)
    (sSeq (sIfS (tB (sOp2 gtD (sOp2 atD (sVar 0) (sC (.int 2))) (sC (.int 0)))) (sSeq (sAsg 2 (sOp2 modD (sCB intD (aCons (sOp2 atD (sVar 0) (sC (.int 2))) aNil)) (sVar 1)))
    (sSeq (sSet 0 (sC (.int 2)) (sOp2 fdivD (sOp2 atD (sVar 0) (sC (.int 2))) (sVar 1)))
    (sRet (sVar 2)))) sSkip)
    (sSeq (sAsg 3 (sOp2 atD (sVar 0) (sC (.int 1))))
    (sSeq (sSet 0 (sC (.int 1)) (sOp2 addD (sVar 3) (sC (.int 1))))
    (sSeq (sAsg 4 (sIf (tB (sOp2 gtD (sCB lenD (aCons (sOp2 atD (sVar 0) (sC (.int 0))) aNil)) (sC (.int 0)))) (sOp2 atD (sOp2 atD (sVar 0) (sC (.int 0))) (sOp2 modD (sVar 3) (sCB lenD (aCons (sOp2 atD (sVar 0) (sC (.int 0))) aNil)))) (sC (.int 0))))
    (sSeq (sIfS (tAnd (tB (sOp2 ltD (sVar 3) (sCB lenD (aCons (sOp2 atD (sVar 0) (sC (.int 0))) aNil)))) (tB (sOp2 geD (sVar 4) (sOp2 powD (sC (.int 10)) (sC (.int 18)))))) (sSeq (sSet 0 (sC (.int 2)) (sOp2 fdivD (sVar 4) (sVar 1)))
    (sRet (sOp2 modD (sCB intD (aCons (sVar 4) aNil)) (sVar 1)))) sSkip)
    (sSeq (sAsg 5 (sOp2 modD (sOp2 mulD (sOp2 addD (sOp2 modD (sCB intD (aCons (sVar 4) aNil)) (sC (.int 2147483629))) (sC (.int 1))) (sC (.int 48271))) (sC (.int 2147483647))))
    (sSeq (sAsg 5 (sOp2 modD (sOp2 addD (sOp2 addD (sVar 5) (sOp2 mulD (sOp2 mulD (sVar 3) (sVar 3)) (sC (.int 30269)))) (sOp2 mulD (sC (.int 977)) (sVar 3))) (sC (.int 2147483629))))
    (sSeq (sAsg 5 (sOp2 modD (sOp2 mulD (sVar 5) (sVar 5)) (sC (.int 2147483587))))
    (sRet (sOp2 modD (sOp2 fdivD (sVar 5) (sC (.int 32))) (sVar 1))))))))))))
noncomputable abbrev fn_law_pick (c : Nat → Fn) : Fn := run 2 6 (bd_law_pick c)
noncomputable def bd_law_normal_g1 : G := (gN 6)
noncomputable def bd_law_normal_b1 (c : Nat → Fn) : S := (sSeq (sIfS (tOr (tB (sOp2 ltD (sVar 5) (sC (.int 2)))) (tB (sOp2 eqD (sCall (c 533) [true, true] (aCons (sVar 0) (aCons (sC (.int 2)) aNil))) (sC (.int 0))))) sBrk sSkip)
    (sSeq (sAsg 7 (sOp2 addD (sC (.int 1)) (sCall (c 533) [true, true] (aCons (sVar 0) (aCons (sOp2 subD (sVar 5) (sC (.int 1))) aNil)))))
    (sSeq (sAsg 4 (sTup (aCons (sC (.str "call")) (aCons (sVar 4) (aCons (sCall (c 534) [true, true, true] (aCons (sVar 0) (aCons (sVar 1) (aCons (sVar 7) aNil)))) aNil)))))
    (sAsg 5 (sOp2 subD (sOp2 subD (sVar 5) (sC (.int 1))) (sVar 7))))))
noncomputable def bd_law_normal (c : Nat → Fn) : S := (sSeq (sIfS (tAnd (tB (sOp2 gtD (sVar 2) (sC (.int 1)))) (tB (sOp2 eqD (sCall (c 533) [true, true] (aCons (sVar 0) (aCons (sC (.int 3)) aNil))) (sC (.int 0))))) (sSeq (sAsg 3 (sOp2 atD (sLst (aCons (sC (.str "x")) (aCons (sC (.str "y")) (aCons (sC (.str "x1")) (aCons (sC (.str "u")) aNil))))) (sCall (c 533) [true, true] (aCons (sVar 0) (aCons (sC (.int 4)) aNil)))))
    (sRet (sTup (aCons (sC (.str "fn")) (aCons (sVar 3) (aCons (sCall (c 534) [true, true, true] (aCons (sVar 0) (aCons (sOp2 addD (sVar 1) (sLst (aCons (sVar 3) aNil))) (aCons (sOp2 subD (sVar 2) (sC (.int 1))) aNil)))) aNil)))))) sSkip)
    (sSeq (sAsg 4 (sTup (aCons (sC (.str "name")) (aCons (sOp2 atD (sVar 1) (sCall (c 533) [true, true] (aCons (sVar 0) (aCons (sCB lenD (aCons (sVar 1) aNil)) aNil)))) aNil))))
    (sSeq (sAsg 5 (sOp2 subD (sVar 2) (sC (.int 1))))
    (sSeq (sFor (wArgs rng1 (aCons (sC (.int 3)) aNil)) bd_law_normal_g1 (bd_law_normal_b1 c))
    (sRet (sVar 4))))))
noncomputable abbrev fn_law_normal (c : Nat → Fn) : Fn := run 3 8 (bd_law_normal c)
end Pg
namespace Dv
open PySem L2
theorem wh_go {t : T} {b : S} {s s1 s2 : Sto} (ht : t s = .ok true s1) (hb : b s1 = .nxt s2) : sWh t b s = sWh t b s2 := by
  rw [sWh_eq]; unfold whStep; rw [ht, kR_ok, if_pos rfl, hb]
theorem wh_stop {t : T} {b : S} {s s1 : Sto} (ht : t s = .ok false s1) : sWh t b s = .nxt s1 := by
  rw [sWh_eq]; unfold whStep; rw [ht, kR_ok, if_neg Bool.false_ne_true]
theorem wh_ret {t : T} {b : S} {s s1 s2 : Sto} {o : Opd} (ht : t s = .ok true s1) (hb : b s1 = .ret o s2) : sWh t b s = .ret o s2 := by
  rw [sWh_eq]; unfold whStep; rw [ht, kR_ok, if_pos rfl, hb]
theorem seq_nxt {f g : S} {s s1 : Sto} (h : f s = .nxt s1) : sSeq f g s = g s1 := by unfold sSeq; rw [h]; rfl
theorem seq_ret {f g : S} {s s1 : Sto} {o : Opd} (h : f s = .ret o s1) : sSeq f g s = .ret o s1 := by unfold sSeq; rw [h]; rfl
end Dv
namespace Pg
open PySem L2 Dv
inductive Tm where
  | nm (x : Str)
  | fn (x : Str) (b : Tm)
  | ca (f a : Tm)
def Tm.D : Tm → Dv.D
  | .nm x => .tup [.str "name", .str x]
  | .fn x b => .tup [.str "fn", .str x, b.D]
  | .ca f a => .tup [.str "call", f.D, a.D]
def Tm.size : Tm → Nat
  | .nm _ => 1
  | .fn _ b => b.size + 1
  | .ca f a => f.size + a.size + 1
def Tm.levels : Tm → Nat
  | .nm _ => 1
  | .fn _ b => b.levels + 1
  | .ca f a => max f.levels a.levels + 1
def Tm.names : Tm → List Str
  | .nm x => [x]
  | .fn x b => x :: b.names
  | .ca f a => f.names ++ a.names
theorem Tm.size_pos : ∀ t : Tm, 1 ≤ t.size
  | .nm _ => Nat.le_refl _
  | .fn _ b => by unfold Tm.size; omega
  | .ca f a => by unfold Tm.size; omega
theorem Tm.levels_le : ∀ t : Tm, t.levels ≤ t.size
  | .nm _ => Nat.le_refl _
  | .fn _ b => by have := levels_le b; unfold Tm.size Tm.levels; omega
  | .ca f a => by have := levels_le f; have := levels_le a; unfold Tm.size Tm.levels; omega
abbrev Pu (F : Fn) (args : List Slot) (v : Dv.D) : Prop := F args = .ret (.val v) args
abbrev PuO (F : Fn) (args : List Slot) (v : Dv.D) : Prop := F args = .ret (.own v) args
def NameOk (F : Fn) (x : Str) : Prop := Pu F [.val (.str x)] (.bl true)
def Good (F : Fn) (t : Tm) : Prop := ∀ x ∈ t.names, NameOk F x
theorem Good.fn {F : Fn} {x : Str} {b : Tm} (h : Good F (.fn x b)) : NameOk F x ∧ Good F b := ⟨h x List.mem_cons_self, fun y hy => h y (List.mem_cons_of_mem _ hy)⟩
theorem Good.ca {F : Fn} {f a : Tm} (h : Good F (.ca f a)) : Good F f ∧ Good F a := ⟨fun y hy => h y (List.mem_append_left _ hy), fun y hy => h y (List.mem_append_right _ hy)⟩
theorem is_node_ok (c : Nat → Fn) (t : Tm) (h : Good (c f_is_plain_name) t) : Pu (fn_is_node c) [.val t.D] (.bl true) := by
  cases t with
  | nm x =>
    have h1 : c f_is_plain_name [.val (.str x)] = .ret (.val (.bl true)) [.val (.str x)] := h x List.mem_cons_self
    unfold Pu fn_is_node bd_is_node Tm.D
    exact run_val rfl (by simp_arith [h1]; rfl) rfl
  | fn x b =>
    have h1 : c f_is_plain_name [.val (.str x)] = .ret (.val (.bl true)) [.val (.str x)] := h x List.mem_cons_self
    unfold Pu fn_is_node bd_is_node Tm.D
    exact run_val rfl (by simp_arith [h1]; rfl) rfl
  | ca f a =>
    unfold Pu fn_is_node bd_is_node Tm.D
    exact run_val rfl (by simp_arith []; rfl) rfl
def sizes : List Tm → Nat
  | [] => 0
  | t :: r => t.size + sizes r
theorem sizes_len : ∀ l : List Tm, l.length ≤ sizes l
  | [] => Nat.le_refl _
  | t :: r => by have := sizes_len r; have := t.size_pos; unfold sizes; rw [List.length_cons]; omega
def GoodAll (F : Fn) (l : List Tm) : Prop := ∀ t ∈ l, Good F t
def pileD (l : List Tm) : List Dv.D := (l.map Tm.D).reverse
theorem pileD_cons (t : Tm) (l : List Tm) : pileD (t :: l) = pileD l ++ [t.D] := by unfold pileD; rw [List.map_cons, List.reverse_cons]
theorem pileD_len (l : List Tm) : (pileD l).length = l.length := by unfold pileD; rw [List.length_reverse, List.length_map]
theorem is_tree_loop (c : Nat → Fn) (v : Slot) (hn : ∀ t : Tm, Good (c f_is_plain_name) t → Pu (c f_is_node) [.val t.D] (.bl true)) : ∀ (n : Nat) (st : List Tm) (u : Slot), sizes st ≤ n → sizes st < LIM → GoodAll (c f_is_plain_name) st →
    ∃ u', sWh (bd_is_tree_t1 c) (bd_is_tree_b1 c) [v, .own (.lst (pileD st)), u] = .nxt [v, .own (.lst []), u']
  | n, [], u, _, _, _ => ⟨u, wh_stop (by unfold bd_is_tree_t1; simp_arith []; rfl)⟩
  | 0, t :: r, u, h, _, _ => by have := t.size_pos; unfold sizes at h; omega
  | n + 1, t :: r, u, h, hl, g => by
    have gt : Good (c f_is_plain_name) t := g t List.mem_cons_self
    have gr : GoodAll (c f_is_plain_name) r := fun x hx => g x (List.mem_cons_of_mem _ hx)
    have h1 : c f_is_node [.val t.D] = .ret (.val (.bl true)) [.val t.D] := hn t gt
    have hlen := sizes_len r
    unfold sizes at h hl
    have hp := t.size_pos
    have tst : bd_is_tree_t1 c [v, .own (.lst (pileD (t :: r))), u] = .ok true [v, .own (.lst (pileD (t :: r))), u] := by
      unfold bd_is_tree_t1
      rw [pileD_cons]
      simp_arith [decide_eq_true (snoc_len (pileD r) t.D)]
    cases t with
    | nm x =>
      obtain ⟨u', e⟩ := is_tree_loop c v hn n r (.val (Tm.nm x).D) (by unfold Tm.size at h; omega) (by omega) gr
      refine ⟨u', (wh_go tst ?_).trans e⟩
      unfold bd_is_tree_b1
      rw [pileD_cons]
      unfold Tm.D at h1 ⊢
      simp_arith [h1]
    | fn x b =>
      obtain ⟨u', e⟩ := is_tree_loop c v hn n (b :: r) (.val (Tm.fn x b).D) (by unfold sizes; unfold Tm.size at h; omega) (by unfold sizes; unfold Tm.size at hl; omega) (fun y hy => by
        rcases List.mem_cons.mp hy with rfl | hy
        · exact (Good.fn gt).2
        · exact gr y hy)
      refine ⟨u', (wh_go tst ?_).trans e⟩
      unfold bd_is_tree_b1
      rw [pileD_cons, pileD_cons]
      unfold Tm.size at hl
      have a1 : fAppend (.lst (pileD r)) [b.D] = some (.lst (pileD r ++ [b.D]), .non) := append_ok (by rw [pileD_len]; omega)
      rw [show (Tm.fn x b).D = .tup [.str "fn", .str x, b.D] from rfl] at h1 ⊢
      simp_arith [h1, a1]
    | ca f a =>
      obtain ⟨u', e⟩ := is_tree_loop c v hn n (f :: a :: r) (.val (Tm.ca f a).D) (by unfold sizes sizes; unfold Tm.size at h; omega) (by unfold sizes sizes; unfold Tm.size at hl; omega) (fun y hy => by
        rcases List.mem_cons.mp hy with rfl | hy
        · exact (Good.ca gt).1
        · rcases List.mem_cons.mp hy with rfl | hy
          · exact (Good.ca gt).2
          · exact gr y hy)
      refine ⟨u', (wh_go tst ?_).trans e⟩
      unfold bd_is_tree_b1
      rw [pileD_cons, pileD_cons, pileD_cons]
      unfold Tm.size at hl
      have := f.size_pos
      have a1 : fAppend (.lst (pileD r)) [a.D] = some (.lst (pileD r ++ [a.D]), .non) := append_ok (by rw [pileD_len]; omega)
      have a2 : fAppend (.lst (pileD r ++ [a.D])) [f.D] = some (.lst (pileD r ++ [a.D] ++ [f.D]), .non) := append_ok (by rw [List.length_append, pileD_len, List.length_singleton]; omega)
      rw [show (Tm.ca f a).D = .tup [.str "call", f.D, a.D] from rfl] at h1 ⊢
      simp_arith [h1, a1, a2]
theorem is_tree_ok (c : Nat → Fn) (hn : ∀ t : Tm, Good (c f_is_plain_name) t → Pu (c f_is_node) [.val t.D] (.bl true)) (t : Tm) (g : Good (c f_is_plain_name) t) (hl : t.size < LIM) : Pu (fn_is_tree c) [.val t.D] (.bl true) := by
  obtain ⟨u', e⟩ := is_tree_loop c (.val t.D) hn (sizes [t]) [t] .un (Nat.le_refl _) (by unfold sizes sizes; omega) (fun y hy => by rw [List.mem_singleton.mp hy]; exact g)
  unfold Pu fn_is_tree
  refine run_val rfl (s := [.val t.D, .own (.lst []), u']) ?_ rfl
  unfold bd_is_tree
  have e : sWh (bd_is_tree_t1 c) (bd_is_tree_b1 c) [.val t.D, .own (.lst [t.D]), .un] = .nxt [.val t.D, .own (.lst []), u'] := e
  have l1 : (1 : Nat) ≤ LIM := LIM_le (by decide)
  simp_arith [e, l1]
end Pg
namespace Dv
open PySem L2
theorem for_list {g : G} {b : S} (I : Nat → Sto → Prop) : ∀ {ds : List D} {s : Sto} (k : Nat), (∀ i (h : i < ds.length) s, I (k + i) s → ∃ s1 s2, g ds[i] s = some s1 ∧ b s1 = .nxt s2 ∧ I (k + i + 1) s2) → I k s → ∃ s', forL g b ds s = .nxt s' ∧ I (k + ds.length) s'
  | [], s, k, _, h => ⟨s, rfl, h⟩
  | d :: ds, s, k, hs, h => by
    obtain ⟨s1, s2, e1, e2, h2⟩ := hs 0 (by simp) s h
    simp only [List.getElem_cons_zero] at e1
    obtain ⟨s', e3, h3⟩ := for_list I (k + 1) (ds := ds) (s := s2) (fun i hi s hI => by
      obtain ⟨s1, s2, q1, q2, q3⟩ := hs (i + 1) (by simpa using hi) s (by rw [show k + (i + 1) = k + 1 + i by omega]; exact hI)
      simp only [List.getElem_cons_succ] at q1
      exact ⟨s1, s2, q1, q2, by rw [show k + 1 + i + 1 = k + (i + 1) + 1 by omega]; exact q3⟩) h2
    refine ⟨s', ?_, by rw [List.length_cons, show k + (ds.length + 1) = k + 1 + ds.length by omega]; exact h3⟩
    unfold forL
    rw [e1]
    simp only
    rw [e2]
    exact e3
theorem for_down {g : G} {b : S} {n : Nat} {s : Sto} (I : Nat → Sto → Prop) (hs : ∀ i, i < n → ∀ s, I (i + 1) s → ∃ s1 s2, g (.int (i : Nat)) s = some s1 ∧ b s1 = .nxt s2 ∧ I i s2) (h : I n s) :
    ∃ s', forL g b ((List.range n).map fun k => .int (((n : Nat) : Int) - 1 + (k : Nat) * (-1))) s = .nxt s' ∧ I 0 s' := by
  obtain ⟨s', e, h'⟩ := for_list (g := g) (b := b) (fun k s => I (n - k) s) (ds := (List.range n).map fun k => .int (((n : Nat) : Int) - 1 + (k : Nat) * (-1))) (s := s) 0 (fun i hi s hI => by
    rw [List.length_map, List.length_range] at hi
    obtain ⟨s1, s2, e1, e2, e3⟩ := hs (n - 1 - i) (by omega) s (by rw [show n - 1 - i + 1 = n - (0 + i) by omega]; exact hI)
    refine ⟨s1, s2, ?_, e2, by rw [show n - (0 + i + 1) = n - 1 - i by omega]; exact e3⟩
    rw [List.getElem_map, List.getElem_range, show ((n : Nat) : Int) - 1 + (i : Nat) * (-1) = ((n - 1 - i : Nat) : Int) by omega]
    exact e1) h
  refine ⟨s', e, ?_⟩
  rw [List.length_map, List.length_range, Nat.zero_add, Nat.sub_self] at h'
  exact h'
theorem at_lst {l : List D} {i : Nat} {d : D} (h : l[i]? = some d) : atD (.lst l) (.int (i : Nat)) = some (.val d) := by
  show (atI l _).map Opd.val = _
  rw [atI_nat h]; rfl
theorem ixN_nat {n i : Nat} (h : i < n) : ixN n (i : Int) = some i := by
  have := atI_nat (xs := List.range n) (j := i) (v := i) (by rw [List.getElem?_range h])
  unfold atI at this
  rw [List.length_range] at this
  cases e : ixN n (i : Int) with
  | none => rw [e] at this; cases this
  | some j =>
    rw [e, Option.bind_some] at this
    have hj : j < n := by
      rcases Nat.lt_or_ge j n with q | q
      · exact q
      · rw [List.getElem?_eq_none (by simpa using q)] at this; cases this
    rw [List.getElem?_range hj] at this
    exact this
theorem setO_own {i m : Nat} {s : Sto} {l : List D} {d : D} (h : s[i]? = some (.own (.lst l))) (hm : m < l.length) : setO i (some (.int (m : Nat))) d s = .nxt (s.set i (.own (.lst (l.set m d)))) := by
  unfold setO
  rw [h]
  simp only [Slot.mut, Slot.dat, Slot.put, if_true, ixN_nat hm]
end Dv
namespace Pg
open PySem L2 Dv
def Tm.tok : Tm → Dv.D
  | .nm x => .tup [.str "name", .str x]
  | .fn x _ => .tup [.str "fn", .str x]
  | .ca _ _ => .tup [.str "call", .non]
def Tm.subs : Tm → List Tm
  | .nm x => [.nm x]
  | .fn x b => .fn x b :: b.subs
  | .ca f a => .ca f a :: (f.subs ++ a.subs)
def Tm.toks (t : Tm) : List Dv.D := t.subs.map Tm.tok
theorem subs_len : ∀ t : Tm, t.subs.length = t.size
  | .nm _ => rfl
  | .fn _ b => by unfold Tm.subs Tm.size; rw [List.length_cons, subs_len b]
  | .ca f a => by unfold Tm.subs Tm.size; rw [List.length_cons, List.length_append, subs_len f, subs_len a]
theorem toks_len (t : Tm) : t.toks.length = t.size := by unfold Tm.toks; rw [List.length_map, subs_len]
theorem subs_head : ∀ t : Tm, t.subs = t :: t.subs.tail
  | .nm _ => rfl
  | .fn _ _ => rfl
  | .ca _ _ => rfl
theorem subs_drop : ∀ (t : Tm) (i : Nat) (s : Tm), t.subs[i]? = some s → ∃ rest, t.subs.drop i = s.subs ++ rest
  | .nm x, 0, s, h => by cases h; exact ⟨[], by simp⟩
  | .nm x, i + 1, s, h => by unfold Tm.subs at h; simp at h
  | .fn x b, 0, s, h => by cases h; exact ⟨[], by simp⟩
  | .fn x b, i + 1, s, h => by
    rw [show (Tm.fn x b).subs = .fn x b :: b.subs from rfl] at h ⊢
    rw [List.getElem?_cons_succ] at h
    rw [List.drop_succ_cons]
    exact subs_drop b i s h
  | .ca f a, 0, s, h => by cases h; exact ⟨[], by simp⟩
  | .ca f a, i + 1, s, h => by
    rw [show (Tm.ca f a).subs = .ca f a :: (f.subs ++ a.subs) from rfl] at h ⊢
    rw [List.getElem?_cons_succ] at h
    rw [List.drop_succ_cons]
    by_cases hi : i < f.subs.length
    · rw [List.getElem?_append_left hi] at h
      obtain ⟨rest, e⟩ := subs_drop f i s h
      exact ⟨rest ++ a.subs, by rw [List.drop_append_of_le_length (by omega), e, List.append_assoc]⟩
    · rw [List.getElem?_append_right (by omega)] at h
      obtain ⟨rest, e⟩ := subs_drop a _ s h
      refine ⟨rest, ?_⟩
      rw [List.drop_append, List.drop_eq_nil_of_le (by omega), List.nil_append, e]
theorem subs_fn {t : Tm} {i : Nat} {x : Str} {b : Tm} (h : t.subs[i]? = some (.fn x b)) : t.subs[i + 1]? = some b := by
  obtain ⟨rest, e⟩ := subs_drop t i _ h
  have : (t.subs.drop i)[1]? = t.subs[i + 1]? := by rw [List.getElem?_drop]
  rw [← this, e]
  unfold Tm.subs
  rw [List.cons_append, List.getElem?_cons_succ, subs_head b]
  rfl
theorem subs_ca1 {t : Tm} {i : Nat} {f a : Tm} (h : t.subs[i]? = some (.ca f a)) : t.subs[i + 1]? = some f := by
  obtain ⟨rest, e⟩ := subs_drop t i _ h
  have : (t.subs.drop i)[1]? = t.subs[i + 1]? := by rw [List.getElem?_drop]
  rw [← this, e]
  unfold Tm.subs
  rw [List.cons_append, List.getElem?_cons_succ, subs_head f]
  rfl
theorem subs_ca2 {t : Tm} {i : Nat} {f a : Tm} (h : t.subs[i]? = some (.ca f a)) : t.subs[i + 1 + f.size]? = some a := by
  obtain ⟨rest, e⟩ := subs_drop t i _ h
  have : (t.subs.drop i)[1 + f.size]? = t.subs[i + 1 + f.size]? := by rw [List.getElem?_drop, Nat.add_assoc]
  rw [← this, e]
  unfold Tm.subs
  rw [List.cons_append, Nat.add_comm 1, List.getElem?_cons_succ, List.append_assoc, List.getElem?_append_right (by rw [subs_len]; exact Nat.le_refl _), subs_len, Nat.sub_self, subs_head a]
  rfl
def toksAll : List Tm → List Dv.D
  | [] => []
  | t :: r => t.toks ++ toksAll r
theorem flat_loop (c : Nat → Fn) (v : Slot) : ∀ (n : Nat) (st : List Tm) (out : List Dv.D) (u : Slot), sizes st ≤ n → out.length + sizes st < LIM →
    ∃ u', sWh (bd_flat_t1 c) (bd_flat_b1 c) [v, .own (.lst out), .own (.lst (pileD st)), u] = .nxt [v, .own (.lst (out ++ toksAll st)), .own (.lst []), u']
  | n, [], out, u, _, _ => ⟨u, by unfold toksAll; rw [List.append_nil]; exact wh_stop (by unfold bd_flat_t1; simp_arith []; rfl)⟩
  | 0, t :: r, out, u, h, _ => by have := t.size_pos; unfold sizes at h; omega
  | n + 1, t :: r, out, u, h, hl => by
    have hlen := sizes_len r
    unfold sizes at h hl
    have hp := t.size_pos
    have tst : bd_flat_t1 c [v, .own (.lst out), .own (.lst (pileD (t :: r))), u] = .ok true [v, .own (.lst out), .own (.lst (pileD (t :: r))), u] := by
      unfold bd_flat_t1
      rw [pileD_cons]
      simp_arith [decide_eq_true (snoc_len (pileD r) t.D)]
    have tl : (2 : Nat) ≤ LIM := LIM_le (by decide)
    cases t with
    | nm x =>
      obtain ⟨u', e⟩ := flat_loop c v n r (out ++ [.tup [.str "name", .str x]]) (.val (Tm.nm x).D) (by unfold Tm.size at h; omega) (by rw [List.length_append, List.length_singleton]; unfold Tm.size at hl; omega)
      refine ⟨u', ?_⟩
      rw [show toksAll (Tm.nm x :: r) = [.tup [.str "name", .str x]] ++ toksAll r from rfl, ← List.append_assoc]
      refine (wh_go tst ?_).trans e
      have a1 : fAppend (.lst out) [.tup [.str "name", .str x]] = some (.lst (out ++ [.tup [.str "name", .str x]]), .non) := append_ok (by omega)
      unfold bd_flat_b1
      rw [pileD_cons]
      unfold Tm.D
      simp_arith [a1, tl]
    | fn x b =>
      obtain ⟨u', e⟩ := flat_loop c v n (b :: r) (out ++ [.tup [.str "fn", .str x]]) (.val (Tm.fn x b).D) (by unfold sizes; unfold Tm.size at h; omega) (by rw [List.length_append, List.length_singleton]; unfold sizes; unfold Tm.size at hl; omega)
      refine ⟨u', ?_⟩
      rw [show toksAll (Tm.fn x b :: r) = [.tup [.str "fn", .str x]] ++ toksAll (b :: r) from rfl, ← List.append_assoc]
      refine (wh_go tst ?_).trans e
      unfold Tm.size at hl
      have a1 : fAppend (.lst out) [.tup [.str "fn", .str x]] = some (.lst (out ++ [.tup [.str "fn", .str x]]), .non) := append_ok (by omega)
      have a2 : fAppend (.lst (pileD r)) [b.D] = some (.lst (pileD r ++ [b.D]), .non) := append_ok (by rw [pileD_len]; omega)
      unfold bd_flat_b1
      rw [pileD_cons, pileD_cons]
      rw [show (Tm.fn x b).D = .tup [.str "fn", .str x, b.D] from rfl]
      simp_arith [a1, a2, tl]
    | ca f a =>
      have hf := f.size_pos
      obtain ⟨u', e⟩ := flat_loop c v n (f :: a :: r) (out ++ [.tup [.str "call", .non]]) (.val (Tm.ca f a).D) (by unfold sizes sizes; unfold Tm.size at h; omega) (by rw [List.length_append, List.length_singleton]; unfold sizes sizes; unfold Tm.size at hl; omega)
      refine ⟨u', ?_⟩
      have et : toksAll (Tm.ca f a :: r) = [.tup [.str "call", .non]] ++ toksAll (f :: a :: r) := by
        show (Tm.ca f a).toks ++ toksAll r = _ ++ (f.toks ++ (a.toks ++ toksAll r))
        unfold Tm.toks
        rw [show (Tm.ca f a).subs = .ca f a :: (f.subs ++ a.subs) from rfl, List.map_cons, List.map_append]
        simp [Tm.tok]
      rw [et, ← List.append_assoc]
      refine (wh_go tst ?_).trans e
      unfold Tm.size at hl
      have a1 : fAppend (.lst out) [.tup [.str "call", .non]] = some (.lst (out ++ [.tup [.str "call", .non]]), .non) := append_ok (by omega)
      have a2 : fAppend (.lst (pileD r)) [a.D] = some (.lst (pileD r ++ [a.D]), .non) := append_ok (by rw [pileD_len]; omega)
      have a3 : fAppend (.lst (pileD r ++ [a.D])) [f.D] = some (.lst (pileD r ++ [a.D] ++ [f.D]), .non) := append_ok (by rw [List.length_append, pileD_len, List.length_singleton]; omega)
      unfold bd_flat_b1
      rw [pileD_cons, pileD_cons, pileD_cons]
      rw [show (Tm.ca f a).D = .tup [.str "call", f.D, a.D] from rfl]
      simp_arith [a1, a2, a3, tl]
theorem flat_ok (c : Nat → Fn) (t : Tm) (hl : t.size < LIM) : PuO (fn_flat c) [.val t.D] (.lst t.toks) := by
  obtain ⟨u', e⟩ := flat_loop c (.val t.D) (sizes [t]) [t] [] .un (Nat.le_refl _) (by unfold sizes sizes; rw [List.length_nil]; omega)
  have e : sWh (bd_flat_t1 c) (bd_flat_b1 c) [.val t.D, .own (.lst []), .own (.lst [t.D]), .un] = .nxt [.val t.D, .own (.lst t.toks), .own (.lst []), u'] := by
    refine e.trans ?_
    rw [show toksAll [t] = t.toks ++ [] from rfl, List.append_nil, List.nil_append]
  unfold PuO fn_flat
  refine run_slot rfl (i := 1) (s := [.val t.D, .own (.lst t.toks), .own (.lst []), u']) ?_ rfl rfl
  unfold bd_flat
  have l1 : (1 : Nat) ≤ LIM := LIM_le (by decide)
  have l0 : (0 : Nat) ≤ LIM := LIM_le (by decide)
  simp_arith [e, l1, l0]
end Pg
namespace Dv
open PySem L2
def part (z : D) (i : Nat) (vals : List D) : List D := List.replicate i z ++ vals.drop i
theorem part_len {z : D} {i : Nat} {vals : List D} (h : i ≤ vals.length) : (part z i vals).length = vals.length := by
  unfold part; rw [List.length_append, List.length_replicate, List.length_drop]; omega
theorem part_get {z : D} {i j : Nat} {vals : List D} (h : i ≤ j) : (part z i vals)[j]? = vals[j]? := by
  unfold part
  rw [List.getElem?_append_right (by rw [List.length_replicate]; exact h), List.length_replicate, List.getElem?_drop, show i + (j - i) = j by omega]
theorem part_set {z d : D} {i : Nat} {vals : List D} (h : vals[i]? = some d) : (part z (i + 1) vals).set i d = part z i vals := by
  unfold part
  obtain ⟨hi, e⟩ := List.getElem?_eq_some_iff.mp h
  rw [List.replicate_succ', List.append_assoc, List.set_append_right _ _ (by rw [List.length_replicate]; exact Nat.le_refl _), List.length_replicate, Nat.sub_self, List.singleton_append, List.set_cons_zero, List.drop_eq_getElem_cons hi, e]
theorem part_zero {z : D} {vals : List D} : part z 0 vals = vals := rfl
theorem part_full {z : D} {vals : List D} : part z vals.length vals = List.replicate vals.length z := by
  unfold part; rw [List.drop_length, List.append_nil]
theorem rep_flat {z : D} : ∀ n : Nat, (List.replicate n [z]).flatten = List.replicate n z
  | 0 => rfl
  | n + 1 => by rw [List.replicate_succ, List.replicate_succ, List.flatten_cons, rep_flat n]; rfl
theorem lim63 : (LIM : Int) < B63 := by rw [LIM_eq, B63_eq]; decide
theorem lim62 : (LIM : Int) < B62 := by rw [LIM_eq, B62_eq]; decide
theorem mul_rep {z : D} {n : Nat} (h : n ≤ LIM) : mulD (.lst [z]) (.int (n : Nat)) = some (.own (.lst (List.replicate n z))) := by
  have hl := lim63
  have c1 : -B63 ≤ ((n : Nat) : Int) := by omega
  have c2 : ((n : Nat) : Int) < B63 := by omega
  have c3 : [z].length * ((n : Nat) : Int).toNat ≤ LIM := by
    rw [Int.toNat_natCast, List.length_singleton, Nat.one_mul]; exact h
  unfold mulD
  simp only
  rw [if_pos ⟨c1, c2, c3⟩, Int.toNat_natCast, rep_flat]
theorem rng_down {n : Nat} (h : n ≤ LIM) : rng3 [.int (((n : Nat) : Int) - 1), .int (-1), .int (-1)] = some ((List.range n).map fun k => .int (((n : Nat) : Int) - 1 + (k : Nat) * (-1))) := by
  have hl := lim62
  show (if (-1 : Int) = -1 ∧ inR (((n : Nat) : Int) - 1) ∧ inR (-1) then some ((List.range ((((n : Nat) : Int) - 1) - (-1)).toNat).map fun k => D.int ((((n : Nat) : Int) - 1) + (k : Nat) * (-1))) else none) = _
  have h1 : 1 ≤ LIM := LIM_le (by decide)
  rw [if_pos ⟨rfl, by unfold inR; omega, by unfold inR; omega⟩]
  rw [show ((((n : Nat) : Int) - 1) - (-1)).toNat = n by omega]
theorem for_of {f : Ws} {g : G} {b : S} {s s1 : Sto} {ds : List D} {o : Out} (hf : f s = .ok ds s1) (h : forL g b ds s1 = o) : sFor f g b s = o := by unfold sFor; rw [hf]; exact h
def Arg (s : Slot) (d : D) : Prop := s = .val d ∨ s = .par d
end Dv
namespace Pg
open PySem L2 Dv
def endsV (t : Tm) : List Dv.D := t.subs.zipIdx.map fun p => .int ((p.2 + p.1.size : Nat))
theorem endsV_len (t : Tm) : (endsV t).length = t.size := by unfold endsV; rw [List.length_map, List.length_zipIdx, subs_len]
theorem endsV_get {t s : Tm} {i : Nat} (h : t.subs[i]? = some s) : (endsV t)[i]? = some (.int ((i + s.size : Nat))) := by
  unfold endsV
  rw [List.getElem?_map, List.getElem?_zipIdx, h]
  simp
theorem toks_get {t s : Tm} {i : Nat} (h : t.subs[i]? = some s) : t.toks[i]? = some s.tok := by
  unfold Tm.toks; rw [List.getElem?_map, h]; rfl
theorem cast1 (i : Nat) : ((i : Nat) : Int) + 1 = ((i + 1 : Nat) : Int) := rfl
theorem ends_step (c : Nat → Fn) {t s : Tm} {i : Nat} {s0 u2 u3 : Slot} (h0 : Arg s0 (.lst t.toks)) (hs : t.subs[i]? = some s) :
    ∃ s2 u, bd_ends_of_b1 c [s0, .own (.lst (part (.int 0) (i + 1) (endsV t))), .val (.int (i : Nat)), u3] = .nxt [s0, .own (.lst (part (.int 0) i (endsV t))), s2, u] := by
  have hi : i < t.size := by rw [← subs_len]; exact (List.getElem?_eq_some_iff.mp hs).1
  have hk : atD (.lst t.toks) (.int (i : Nat)) = some (.val s.tok) := at_lst (toks_get hs)
  have hlen : (part (.int 0) (i + 1) (endsV t)).length = t.size := by rw [part_len (by rw [endsV_len]; omega), endsV_len]
  have put : ∀ (k : Slot) (d : Dv.D), (endsV t)[i]? = some d → setO 1 (some (.int (i : Nat))) d [s0, .own (.lst (part (.int 0) (i + 1) (endsV t))), .val (.int (i : Nat)), k] = .nxt [s0, .own (.lst (part (.int 0) i (endsV t))), .val (.int (i : Nat)), k] := fun k d hd => by
    rw [setO_own (l := part (.int 0) (i + 1) (endsV t)) rfl (by omega), part_set hd]; rfl
  have look : ∀ j d, i < j → (endsV t)[j]? = some d → atD (.lst (part (.int 0) (i + 1) (endsV t))) (.int (j : Nat)) = some (.val d) := fun j d hj hd => at_lst (by rw [part_get (by omega)]; exact hd)
  cases s with
  | nm x =>
    have e := endsV_get hs
    have p := put (.val (.str "name")) _ e
    rw [show (Tm.nm x).size = 1 from rfl] at p
    refine ⟨.val (.int (i : Nat)), .val (.str "name"), ?_⟩
    unfold bd_ends_of_b1
    unfold Tm.tok at hk
    rcases h0 with rfl | rfl
    all_goals simp_arith [hk, cast1, p]
  | fn x b =>
    have e := endsV_get hs
    have p := put (.val (.str "fn")) _ e
    have q := look (i + 1) _ (by omega) (endsV_get (subs_fn hs))
    rw [show i + (Tm.fn x b).size = i + 1 + b.size by rw [show (Tm.fn x b).size = b.size + 1 from rfl]; omega] at p
    refine ⟨.val (.int (i : Nat)), .val (.str "fn"), ?_⟩
    unfold bd_ends_of_b1
    unfold Tm.tok at hk
    rcases h0 with rfl | rfl
    all_goals simp_arith [hk, cast1, q, p]
  | ca f a =>
    have e := endsV_get hs
    have p := put (.val (.str "call")) _ e
    have q := look (i + 1) _ (by omega) (endsV_get (subs_ca1 hs))
    have q2 := look (i + 1 + f.size) _ (by omega) (endsV_get (subs_ca2 hs))
    rw [show i + (Tm.ca f a).size = i + 1 + f.size + a.size by rw [show (Tm.ca f a).size = f.size + a.size + 1 from rfl]; omega] at p
    refine ⟨.val (.int (i : Nat)), .val (.str "call"), ?_⟩
    unfold bd_ends_of_b1
    unfold Tm.tok at hk
    rcases h0 with rfl | rfl
    all_goals simp_arith [hk, cast1, q, q2, p]
theorem lim1 : 1 ≤ LIM := LIM_le (by decide)
theorem fill_step {M : Dv.D → Dv.D → Option Opd} {toks : List Dv.D} {n : Nat} {z r : Dv.D} {s0 u : Slot} {us : List Slot} (l1 : 1 ≤ LIM) (h0 : Arg s0 (.lst toks)) (hn : toks.length = n) (m : M (.lst [z]) (.int (n : Nat)) = some (.own r)) :
    sAsg 1 (sOp2 M (sLst (aCons (sC z) aNil)) (sCB lenD (aCons (sVar 0) aNil))) (s0 :: u :: us) = .nxt (s0 :: .own r :: us) := by
  have hl : 1 < us.length + 1 + 1 := by omega
  rcases h0 with rfl | rfl
  all_goals simp_arith [l1, hn, m, hl]
theorem down_step {R : List Dv.D → Option (List Dv.D)} {toks ds : List Dv.D} {n : Nat} {s0 : Slot} {us : List Slot} (h0 : Arg s0 (.lst toks)) (hn : toks.length = n) (r : R [.int (((n : Nat) : Int) - 1), .int (-1), .int (-1)] = some ds) :
    wArgs R (aCons (sOp2 subD (sCB lenD (aCons (sVar 0) aNil)) (sC (.int 1))) (aCons (sOp1 negD (sC (.int 1))) (aCons (sOp1 negD (sC (.int 1))) aNil))) (s0 :: us) = .ok ds (s0 :: us) := by
  rcases h0 with rfl | rfl
  all_goals simp_arith [hn, r]
theorem ends_of_ok (c : Nat → Fn) (t : Tm) (hl : t.size < LIM) (s0 : Slot) (h0 : Arg s0 (.lst t.toks)) : PuO (fn_ends_of c) [s0] (.lst (endsV t)) := by
  have hn := toks_len t
  obtain ⟨s', e, s2, u, rfl⟩ := for_down (g := bd_ends_of_g1) (b := bd_ends_of_b1 c) (n := t.size) (s := [s0, .own (.lst (List.replicate t.size (.int 0))), .un, .un]) (fun i s => ∃ u2 u3, s = [s0, .own (.lst (part (.int 0) i (endsV t))), u2, u3])
    (fun i hi s ⟨u2, u3, e⟩ => by
      subst e
      obtain ⟨sub, hs⟩ : ∃ sub, t.subs[i]? = some sub := ⟨_, List.getElem?_eq_getElem (by rw [subs_len]; exact hi)⟩
      obtain ⟨s2, u, q⟩ := ends_step c (u2 := u2) (u3 := u3) h0 hs
      exact ⟨_, _, rfl, q, s2, u, rfl⟩)
    ⟨.un, .un, by rw [← endsV_len, part_full]⟩
  unfold PuO fn_ends_of
  refine run_slot rfl (i := 1) (s := [s0, .own (.lst (endsV t)), s2, u]) ?_ rfl rfl
  unfold bd_ends_of
  exact (seq_nxt (fill_step lim1 h0 hn (mul_rep (by omega)))).trans ((seq_nxt (for_of (down_step h0 hn (rng_down (by omega))) e)).trans rfl)
end Pg
namespace Dv
open PySem L2
theorem part_keep {z : D} {i : Nat} {vals : List D} (h : vals[i]? = some z) : part z (i + 1) vals = part z i vals := by
  rw [← part_set (d := z) h]
  obtain ⟨hi, _⟩ := List.getElem?_eq_some_iff.mp h
  unfold part
  refine List.ext_getElem? fun j => ?_
  by_cases hj : i = j
  · subst hj
    rw [List.getElem?_set_self (by rw [List.length_append, List.length_replicate]; omega), List.getElem?_append_left (by rw [List.length_replicate]; omega), List.getElem?_replicate_of_lt (by omega)]
  · rw [List.getElem?_set_ne hj]
theorem lc_run {g : G} {t : T} {e : E} {vs : List Nat} {P : D → Bool} {F : D → D} {w : Sto} : ∀ (ds acc : List D) (s : Sto), wipeS s vs = w → acc.length + ds.length ≤ LIM →
    (∀ d ∈ ds, ∃ u s2, g d w = some u ∧ t u = .ok (P d) s2 ∧ (P d = false → wipeS s2 vs = w) ∧ (P d = true → ∃ o s3 s4, e s2 = .ok o s3 ∧ takeO o s3 = .ok (F d) s4 ∧ wipeS s4 vs = w)) →
    ∃ s', lcL g t e vs ds acc s = .ok (acc ++ (ds.filter P).map F) s' ∧ wipeS s' vs = w
  | [], acc, s, hs, _, _ => ⟨s, by unfold lcL; simp, hs⟩
  | d :: ds, acc, s, hs, hl, h => by
    obtain ⟨u, s2, e1, e2, h1, h2⟩ := h d List.mem_cons_self
    have hr : ∀ d ∈ ds, _ := fun d hd => h d (List.mem_cons_of_mem _ hd)
    rw [List.length_cons] at hl
    unfold lcL
    rw [hs, e1]
    simp only
    rw [e2, noX_ok, R.bind_ok]
    cases hp : P d with
    | false =>
      rw [hp] at h1
      obtain ⟨s', q1, q2⟩ := lc_run ds acc s2 (h1 rfl) (by omega) hr
      refine ⟨s', ?_, q2⟩
      rw [if_neg Bool.false_ne_true, q1, List.filter_cons_of_neg (by rw [hp]; exact Bool.false_ne_true)]
    | true =>
      obtain ⟨o, s3, s4, e3, e4, e5⟩ := h2 hp
      obtain ⟨s', q1, q2⟩ := lc_run ds (acc ++ [F d]) s4 e5 (by rw [List.length_append, List.length_singleton]; omega) hr
      refine ⟨s', ?_, q2⟩
      rw [if_pos rfl, e3, noX_ok, R.bind_ok, e4, R.bind_ok, if_pos (by omega), q1, List.filter_cons_of_pos hp, List.map_cons, List.append_assoc, List.singleton_append]
theorem restS_wipe {s0 : Sto} {vs : List Nat} {s : Sto} : restS s0 s vs = restS s0 (wipeS s vs) vs := by
  refine List.ext_getElem? fun j => ?_
  have gen : ∀ (us : List Nat) {a b : Sto}, a.length = b.length → (j ∈ us ∨ a[j]? = b[j]?) → (restS s0 a us)[j]? = (restS s0 b us)[j]? := by
    intro us
    induction us with
    | nil =>
      intro a b _ h
      rcases h with h | h
      · cases h
      · exact h
    | cons u us ih =>
      intro a b hab h
      have hl : (restS s0 a us).length = (restS s0 b us).length := by rw [restS_len, restS_len, hab]
      have gen : ∀ t : Slot, ((restS s0 a us).set u t)[j]? = ((restS s0 b us).set u t)[j]? := fun t => by
        by_cases hu : u = j
        · subst hu
          by_cases hk : u < (restS s0 a us).length
          · rw [List.getElem?_set_self hk, List.getElem?_set_self (by rw [← hl]; exact hk)]
          · rw [List.getElem?_eq_none (by simpa using hk), List.getElem?_eq_none (by rw [List.length_set, ← hl]; omega)]
        · rw [List.getElem?_set_ne hu, List.getElem?_set_ne hu]
          refine ih hab ?_
          rcases h with h | h
          · rcases List.mem_cons.mp h with z | z
            · exact absurd z.symm hu
            · exact .inl z
          · exact .inr h
      unfold restS
      split <;> exact gen _
  refine gen vs wipeS_len.symm ?_
  by_cases hj : j ∈ vs
  · exact .inl hj
  · exact .inr (wipeS_get hj).symm
theorem lc_of {f : Ws} {g : G} {t : T} {e : E} {vs : List Nat} {P : D → Bool} {F : D → D} {s s1 w fin : Sto} {ds : List D} (hf : f s = .ok ds s1) (hw : wipeS s1 vs = w) (hl : ds.length ≤ LIM)
    (h : ∀ d ∈ ds, ∃ u s2, g d w = some u ∧ t u = .ok (P d) s2 ∧ (P d = false → wipeS s2 vs = w) ∧ (P d = true → ∃ o s3 s4, e s2 = .ok o s3 ∧ takeO o s3 = .ok (F d) s4 ∧ wipeS s4 vs = w)) (hfin : restS s1 w vs = fin) :
    sLc f g t e vs s = .ok (.own (.lst ((ds.filter P).map F))) fin := by
  obtain ⟨s', e1, e2⟩ := lc_run (g := g) (t := t) (e := e) ds [] s1 hw (by simpa using hl) h
  unfold sLc
  rw [hf, R.bind_ok, e1, R.bind_ok, List.nil_append, restS_wipe, e2, hfin]
end Dv
namespace Pg
open PySem L2 Dv
def levsV (t : Tm) : List Dv.D := t.subs.map fun s => .int (s.levels : Nat)
theorem levsV_len (t : Tm) : (levsV t).length = t.size := by unfold levsV; rw [List.length_map, subs_len]
theorem levsV_get {t s : Tm} {i : Nat} (h : t.subs[i]? = some s) : (levsV t)[i]? = some (.int (s.levels : Nat)) := by
  unfold levsV; rw [List.getElem?_map, h]; rfl
theorem max_cast (a b : Nat) : (if ((b : Nat) : Int) > (a : Nat) then ((b : Nat) : Int) else ((a : Nat) : Int)) = ((max a b : Nat) : Int) := by
  split <;> omega
theorem levs_step (c : Nat → Fn) {t s : Tm} {i : Nat} {s0 u4 : Slot} (h0 : Arg s0 (.lst t.toks)) (hs : t.subs[i]? = some s) :
    ∃ u, bd_levels_of_b1 c [s0, .own (.lst (endsV t)), .own (.lst (part (.int 1) (i + 1) (levsV t))), .val (.int (i : Nat)), u4] = .nxt [s0, .own (.lst (endsV t)), .own (.lst (part (.int 1) i (levsV t))), .val (.int (i : Nat)), u] := by
  have hi : i < t.size := by rw [← subs_len]; exact (List.getElem?_eq_some_iff.mp hs).1
  have hk : atD (.lst t.toks) (.int (i : Nat)) = some (.val s.tok) := at_lst (toks_get hs)
  have hlen : (part (.int 1) (i + 1) (levsV t)).length = t.size := by rw [part_len (by rw [levsV_len]; omega), levsV_len]
  have put : ∀ (k : Slot) (d : Dv.D), (levsV t)[i]? = some d → setO 2 (some (.int (i : Nat))) d [s0, .own (.lst (endsV t)), .own (.lst (part (.int 1) (i + 1) (levsV t))), .val (.int (i : Nat)), k] = .nxt [s0, .own (.lst (endsV t)), .own (.lst (part (.int 1) i (levsV t))), .val (.int (i : Nat)), k] := fun k d hd => by
    rw [setO_own (l := part (.int 1) (i + 1) (levsV t)) rfl (by omega), part_set hd]; rfl
  have look : ∀ j d, i < j → (levsV t)[j]? = some d → atD (.lst (part (.int 1) (i + 1) (levsV t))) (.int (j : Nat)) = some (.val d) := fun j d hj hd => at_lst (by rw [part_get (by omega)]; exact hd)
  cases s with
  | nm x =>
    refine ⟨.val (.str "name"), ?_⟩
    rw [part_keep (z := .int 1) (levsV_get hs)]
    unfold bd_levels_of_b1
    unfold Tm.tok at hk
    rcases h0 with rfl | rfl
    all_goals simp_arith [hk]
  | fn x b =>
    have e := levsV_get hs
    have p := put (.val (.str "fn")) _ e
    have q := look (i + 1) _ (by omega) (levsV_get (subs_fn hs))
    rw [show (Tm.fn x b).levels = b.levels + 1 from rfl] at p
    refine ⟨.val (.str "fn"), ?_⟩
    unfold bd_levels_of_b1
    unfold Tm.tok at hk
    rcases h0 with rfl | rfl
    all_goals simp_arith [hk, cast1, q, p]
  | ca f a =>
    have e := levsV_get hs
    have p := put (.val (.str "call")) _ e
    have q := look (i + 1) _ (by omega) (levsV_get (subs_ca1 hs))
    have q1 : atD (.lst (endsV t)) (.int ((i + 1 : Nat) : Int)) = some (.val (.int ((i + 1 + f.size : Nat)))) := at_lst (endsV_get (subs_ca1 hs))
    have q2 := look (i + 1 + f.size) _ (by omega) (levsV_get (subs_ca2 hs))
    rw [show (Tm.ca f a).levels = max f.levels a.levels + 1 from rfl] at p
    refine ⟨.val (.str "call"), ?_⟩
    unfold bd_levels_of_b1
    unfold Tm.tok at hk
    rcases h0 with rfl | rfl
    all_goals simp_arith [hk, cast1, q, q1, q2, max_cast, p]
end Pg
namespace Dv
open PySem L2
theorem any_false : ∀ {l : List D}, (∀ d ∈ l, d = .bl false) → anyD [.lst l] = some (.val (.bl false)) := by
  intro l h
  have : ∀ {l : List D}, (∀ d ∈ l, d = .bl false) → ∃ bs, blsD l = some bs ∧ bs.any id = false := by
    intro l
    induction l with
    | nil => intro _; exact ⟨[], rfl, rfl⟩
    | cons d l ih =>
      intro h
      obtain ⟨bs, e1, e2⟩ := ih fun d hd => h d (List.mem_cons_of_mem _ hd)
      have := h d List.mem_cons_self
      subst this
      exact ⟨false :: bs, by unfold blsD; rw [e1]; rfl, by rw [List.any_cons, e2]; rfl⟩
  obtain ⟨bs, e1, e2⟩ := this h
  unfold anyD
  simp only
  rw [e1, Option.map_some, e2]
end Dv
namespace Pg
open PySem L2 Dv
theorem fill_step2 {M : Dv.D → Dv.D → Option Opd} {toks : List Dv.D} {n : Nat} {z r : Dv.D} {s0 u1 u : Slot} {us : List Slot} (l1 : 1 ≤ LIM) (h0 : Arg s0 (.lst toks)) (hn : toks.length = n) (m : M (.lst [z]) (.int (n : Nat)) = some (.own r)) :
    sAsg 2 (sOp2 M (sLst (aCons (sC z) aNil)) (sCB lenD (aCons (sVar 0) aNil))) (s0 :: u1 :: u :: us) = .nxt (s0 :: u1 :: .own r :: us) := by
  have hl : 2 < us.length + 1 + 1 + 1 := by omega
  rcases h0 with rfl | rfl
  all_goals simp_arith [l1, hn, m, hl]
theorem levels_of_ok (c : Nat → Fn) (t : Tm) (hl : t.size < LIM) (s0 : Slot) (h0 : Arg s0 (.lst t.toks)) (he : PuO (c f_ends_of) [s0] (.lst (endsV t))) : Pu (fn_levels_of c) [s0] (.int (t.levels : Nat)) := by
  have hn := toks_len t
  obtain ⟨s', e, s2, u, rfl⟩ := for_down (g := bd_levels_of_g1) (b := bd_levels_of_b1 c) (n := t.size) (s := [s0, .own (.lst (endsV t)), .own (.lst (List.replicate t.size (.int 1))), .un, .un]) (fun i s => ∃ u2 u3, s = [s0, .own (.lst (endsV t)), .own (.lst (part (.int 1) i (levsV t))), u2, u3])
    (fun i hi s ⟨u2, u3, e⟩ => by
      subst e
      obtain ⟨sub, hs⟩ : ∃ sub, t.subs[i]? = some sub := ⟨_, List.getElem?_eq_getElem (by rw [subs_len]; exact hi)⟩
      obtain ⟨u, q⟩ := levs_step c (u4 := u3) h0 hs
      exact ⟨_, _, rfl, q, _, u, rfl⟩)
    ⟨.un, .un, by rw [← levsV_len, part_full]⟩
  rw [part_zero] at e
  have he : c f_ends_of [s0] = .ret (.own (.lst (endsV t))) [s0] := he
  have h1 : sAsg 1 (sCall (c f_ends_of) [true] (aCons (sVar 0) aNil)) [s0, .un, .un, .un, .un] = .nxt [s0, .own (.lst (endsV t)), .un, .un, .un] := by
    rcases h0 with rfl | rfl
    all_goals simp_arith [he]
  have h4 : sRet (sOp2 atD (sVar 2) (sC (.int 0))) [s0, .own (.lst (endsV t)), .own (.lst (levsV t)), s2, u] = .ret (.val (.int (t.levels : Nat))) [s0, .own (.lst (endsV t)), .own (.lst (levsV t)), s2, u] := by
    have q : atD (.lst (levsV t)) (.int ((0 : Nat) : Int)) = some (.val (.int (t.levels : Nat))) := at_lst (levsV_get (by rw [subs_head]; rfl))
    have q : atD (.lst (levsV t)) (.int 0) = some (.val (.int (t.levels : Nat))) := q
    simp_arith [q]
  unfold Pu fn_levels_of
  refine run_val rfl (s := [s0, .own (.lst (endsV t)), .own (.lst (levsV t)), s2, u]) ?_ rfl
  unfold bd_levels_of
  exact (seq_nxt h1).trans ((seq_nxt (fill_step2 lim1 h0 hn (mul_rep (by omega)))).trans ((seq_nxt (for_of (down_step h0 hn (rng_down (by omega))) e)).trans h4))
theorem tok_tag (s : Tm) : ∃ g v, s.tok = .tup [.str g, v] ∧ ((g : Str) == ("at" : Str)) = false := by
  cases s with
  | nm x => exact ⟨_, _, rfl, by decide⟩
  | fn x b => exact ⟨_, _, rfl, by decide⟩
  | ca f a => exact ⟨_, _, rfl, by decide⟩
theorem is_program_ok (c : Nat → Fn) (t : Tm) (h1 : t.size ≤ 200) (h2 : t.levels ≤ 60) (ht : Pu (c f_is_tree) [.val t.D] (.bl true)) (hf : PuO (c f_flat) [.val t.D] (.lst t.toks)) (hv : Pu (c f_levels_of) [.val (.lst t.toks)] (.int (t.levels : Nat))) : Pu (fn_is_program c) [.val t.D] (.bl true) := by
  have ht : c f_is_tree [.val t.D] = .ret (.val (.bl true)) [.val t.D] := ht
  have hf : c f_flat [.val t.D] = .ret (.own (.lst t.toks)) [.val t.D] := hf
  have hv : c f_levels_of [.val (.lst t.toks)] = .ret (.val (.int (t.levels : Nat))) [.val (.lst t.toks)] := hv
  have hn := toks_len t
  have d1 : decide ((200 : Int) < ((t.size : Nat) : Int)) = false := decide_eq_false (by omega)
  have d2 : decide ((60 : Int) < ((t.levels : Nat) : Int)) = false := decide_eq_false (by omega)
  have hl : 200 ≤ LIM := LIM_le (by decide)
  have lc := lc_of (f := wSeq (sVar 1)) (g := gT 2 (gs1 (gN 2) (gs1 (gN 3) gs0))) (t := tYesT) (e := sOp2 eqD (sVar 2) (sC (.str "at"))) (vs := [2, 3]) (P := fun _ => true) (F := fun _ => .bl false) (s := [.val t.D, .own (.lst t.toks), .un, .un]) (s1 := [.val t.D, .val (.lst t.toks), .un, .un]) (w := [.val t.D, .val (.lst t.toks), .un, .un]) (fin := [.val t.D, .val (.lst t.toks), .un, .un]) (ds := t.toks) rfl rfl (by omega)
    (fun d hd => by
      obtain ⟨s, hs, rfl⟩ := List.mem_map.mp (show d ∈ t.subs.map Tm.tok from hd)
      obtain ⟨g, v, e, hg⟩ := tok_tag s
      rw [e]
      refine ⟨[.val t.D, .val (.lst t.toks), .val (.str g), .val v], [.val t.D, .val (.lst t.toks), .val (.str g), .val v], rfl, rfl, fun z => (nomatch z), fun _ => ⟨.val (.bl false), [.val t.D, .val (.lst t.toks), .val (.str g), .val v], [.val t.D, .val (.lst t.toks), .val (.str g), .val v], ?_, rfl, rfl⟩⟩
      simp_arith [hg]) rfl
  have af : anyD [.lst ((t.toks.filter fun _ => true).map fun _ => .bl false)] = some (.val (.bl false)) := any_false fun d hd => by
    obtain ⟨_, _, rfl⟩ := List.mem_map.mp hd
    rfl
  unfold Pu fn_is_program
  refine run_val rfl (s := [.val t.D, .val (.lst t.toks), .un, .un]) ?_ rfl
  unfold bd_is_program
  simp_arith [ht, hf, hn, d1, lc, af, hv, d2]
theorem need_wide_ok (c : Nat → Fn) (t : Tm) (ht : Pu (c f_is_tree) [.val t.D] (.bl true)) : Pu (fn_need_wide c) [.val t.D] .non := by
  have ht : c f_is_tree [.val t.D] = .ret (.val (.bl true)) [.val t.D] := ht
  unfold Pu fn_need_wide
  refine run_nxt rfl (s := [.val t.D]) ?_ rfl
  unfold bd_need_wide
  simp_arith [ht]
theorem need_program_ok (c : Nat → Fn) (t : Tm) (ht : Pu (c f_is_program) [.val t.D] (.bl true)) : Pu (fn_need_program c) [.val t.D] .non := by
  have ht : c f_is_program [.val t.D] = .ret (.val (.bl true)) [.val t.D] := ht
  unfold Pu fn_need_program
  refine run_nxt rfl (s := [.val t.D]) ?_ rfl
  unfold bd_need_program
  simp_arith [ht]
end Pg
namespace Pg
open PySem L2 Dv
def Tm.head : Tm → Tm
  | .ca f _ => f.head
  | t => t
def Tm.args : Tm → List Tm
  | .ca f a => f.args ++ [a]
  | _ => []
theorem args_len : ∀ t : Tm, t.args.length < t.size
  | .nm _ => by unfold Tm.args Tm.size; exact Nat.lt_succ_self _
  | .fn _ b => by have := b.size_pos; unfold Tm.args Tm.size; rw [List.length_nil]; omega
  | .ca f a => by
    have := args_len f
    have := a.size_pos
    unfold Tm.args Tm.size
    rw [List.length_append, List.length_singleton]; omega
theorem rev_lst (l : List Dv.D) : revD (.lst l) = some (.own (.lst l.reverse)) := rfl
theorem tup_lst (l : List Dv.D) : tupD [.lst l] = some (.val (.tup l)) := rfl
theorem spine_loop (c : Nat → Fn) (v : Slot) : ∀ (cur : Tm) (acc : List Dv.D), acc.length + cur.size < LIM →
    sWh (bd_spine_t1 c) (bd_spine_b1 c) [v, .val cur.D, .own (.lst acc)] = .nxt [v, .val cur.head.D, .own (.lst (acc ++ (cur.args.map Tm.D).reverse))]
  | .nm x, acc, h => by
    refine wh_stop ?_
    unfold bd_spine_t1 Tm.head Tm.args Tm.D
    rw [List.map_nil, List.reverse_nil, List.append_nil]
    simp_arith []
  | .fn x b, acc, h => by
    refine wh_stop ?_
    rw [show (Tm.fn x b).head = .fn x b from rfl, show (Tm.fn x b).args = [] from rfl, List.map_nil, List.reverse_nil, List.append_nil, show (Tm.fn x b).D = .tup [.str "fn", .str x, b.D] from rfl]
    unfold bd_spine_t1
    simp_arith []
  | .ca f a, acc, h => by
    have hs : (Tm.ca f a).size = f.size + a.size + 1 := rfl
    have e := spine_loop c v f (acc ++ [a.D]) (by rw [List.length_append, List.length_singleton]; omega)
    rw [show (Tm.ca f a).head = f.head from rfl, show (Tm.ca f a).args = f.args ++ [a] from rfl, List.map_append, List.reverse_append, show ([a].map Tm.D).reverse = [a.D] from rfl, ← List.append_assoc]
    rw [show (Tm.ca f a).D = .tup [.str "call", f.D, a.D] from rfl]
    refine (wh_go (s1 := [v, .val (.tup [.str "call", f.D, a.D]), .own (.lst acc)]) ?_ ?_).trans e
    · unfold bd_spine_t1
      simp_arith []
    · have a1 : fAppend (.lst acc) [a.D] = some (.lst (acc ++ [a.D]), .non) := append_ok (by omega)
      unfold bd_spine_b1
      simp_arith [a1]
theorem spine_ok (c : Nat → Fn) (t : Tm) (hl : t.size < LIM) (hw : Pu (c f_need_wide) [.val t.D] .non) : Pu (fn_spine c) [.val t.D] (.tup [t.head.D, .tup (t.args.map Tm.D)]) := by
  have hw : c f_need_wide [.val t.D] = .ret (.val .non) [.val t.D] := hw
  have e := spine_loop c (.val t.D) t [] (by rw [List.length_nil]; omega)
  rw [List.nil_append] at e
  have l2 : (2 : Nat) ≤ LIM := LIM_le (by decide)
  have l0 : (0 : Nat) ≤ LIM := LIM_le (by decide)
  unfold Pu fn_spine
  refine run_val rfl (s := [.val t.D, .val t.head.D, .own (.lst ((t.args.map Tm.D).reverse))]) ?_ rfl
  unfold bd_spine
  simp_arith [hw, l0, e, rev_lst, List.reverse_reverse, tup_lst, l2]
def Tm.rdx : Tm → Bool
  | .ca (.fn _ _) _ => true
  | _ => false
theorem is_ready_ok (c : Nat → Fn) {t s : Tm} {i : Nat} {s0 : Slot} (h0 : Arg s0 (.lst t.toks)) (hs : t.subs[i]? = some s) : Pu (fn_is_ready c) [s0, .val (.int (i : Nat))] (.bl s.rdx) := by
  have hk : atD (.lst t.toks) (.int (i : Nat)) = some (.val s.tok) := at_lst (toks_get hs)
  unfold Pu fn_is_ready
  cases s with
  | nm x =>
    unfold Tm.tok at hk
    refine run_val rfl (s := [s0, .val (.int (i : Nat))]) ?_ rfl
    unfold bd_is_ready
    rcases h0 with rfl | rfl
    all_goals (simp_arith [hk]; rfl)
  | fn x b =>
    unfold Tm.tok at hk
    refine run_val rfl (s := [s0, .val (.int (i : Nat))]) ?_ rfl
    unfold bd_is_ready
    rcases h0 with rfl | rfl
    all_goals (simp_arith [hk]; rfl)
  | ca f a =>
    have hk2 : atD (.lst t.toks) (.int ((i + 1 : Nat) : Int)) = some (.val f.tok) := at_lst (toks_get (subs_ca1 hs))
    unfold Tm.tok at hk
    refine run_val rfl (s := [s0, .val (.int (i : Nat))]) ?_ rfl
    unfold bd_is_ready
    cases f <;> unfold Tm.tok at hk2 <;> rcases h0 with rfl | rfl
    all_goals (simp_arith [hk, cast1, hk2]; rfl)
def Tm.still (t : Tm) : Prop := ∀ s ∈ t.subs, s.rdx = false
theorem inR_nat {n : Nat} (h : n ≤ LIM) : inR ((n : Nat) : Int) := by
  have hl := lim62
  unfold inR; omega
theorem rng1_in {n : Nat} (c1 : inR ((n : Nat) : Int)) : rng1 [.int (n : Nat)] = some ((List.range n).map fun k => .int (k : Nat)) := by
  show (if inR ((n : Nat) : Int) then some ((List.range ((n : Nat) : Int).toNat).map fun k => Dv.D.int (k : Nat)) else none) = _
  rw [if_pos c1, Int.toNat_natCast]
theorem rng1_nat {n : Nat} (h : n ≤ LIM) : rng1 [.int (n : Nat)] = some ((List.range n).map fun k => .int (k : Nat)) := rng1_in (inR_nat h)
theorem up_step {R : List Dv.D → Option (List Dv.D)} {toks ds : List Dv.D} {n : Nat} {s0 : Slot} {us : List Slot} (h0 : Arg s0 (.lst toks)) (hn : toks.length = n) (r : R [.int (n : Nat)] = some ds) :
    wArgs R (aCons (sCB lenD (aCons (sVar 0) aNil)) aNil) (s0 :: us) = .ok ds (s0 :: us) := by
  rcases h0 with rfl | rfl
  all_goals simp_arith [hn, r]
def readyI (t : Tm) : List Dv.D := ((List.range t.size).filter fun i => (t.subs.getD i (.nm "x")).rdx).map fun i => .int (i : Nat)
def ixOf : Dv.D → Nat
  | .int i => i.toNat
  | _ => 0
theorem indexes_ready_ok (c : Nat → Fn) (t : Tm) (hl : t.size < LIM) (s0 : Slot) (h0 : Arg s0 (.lst t.toks)) (hr : ∀ i s, t.subs[i]? = some s → Pu (c f_is_ready) [s0, .val (.int (i : Nat))] (.bl s.rdx)) : PuO (fn_indexes_ready c) [s0] (.lst (readyI t)) := by
  have hn := toks_len t
  have fs : wArgs rng1 (aCons (sCB lenD (aCons (sVar 0) aNil)) aNil) [s0, .un] = .ok ((List.range t.size).map fun k => .int (k : Nat)) [s0, .un] := by
    exact up_step h0 hn (rng1_nat (n := t.size) (by omega))
  have lc := lc_of (g := gN 1) (t := tTru (sCall (c f_is_ready) [true, true] (aCons (sVar 0) (aCons (sVar 1) aNil)))) (e := sVar 1) (vs := [1]) (P := fun d => (t.subs.getD (ixOf d) (.nm "x")).rdx) (F := fun d => d) (w := [s0, .un]) (fin := [s0, .un]) fs rfl (by rw [List.length_map, List.length_range]; omega)
    (fun d hd => by
      obtain ⟨i, hi, rfl⟩ := List.mem_map.mp hd
      have hi : i < t.size := List.mem_range.mp hi
      obtain ⟨s, hs⟩ : ∃ s, t.subs[i]? = some s := ⟨_, List.getElem?_eq_getElem (by rw [subs_len]; exact hi)⟩
      have hP : (t.subs.getD (ixOf (.int (i : Nat))) (.nm "x")).rdx = s.rdx := by
        rw [show ixOf (.int (i : Nat)) = i by unfold ixOf; simp, List.getD_eq_getElem?_getD, hs]; rfl
      have h1 : c f_is_ready [s0, .val (.int (i : Nat))] = .ret (.val (.bl s.rdx)) [s0, .val (.int (i : Nat))] := hr i s hs
      refine ⟨[s0, .val (.int (i : Nat))], [s0, .val (.int (i : Nat))], rfl, ?_, fun _ => rfl, fun _ => ⟨.val (.int (i : Nat)), [s0, .val (.int (i : Nat))], [s0, .val (.int (i : Nat))], rfl, rfl, rfl⟩⟩
      rw [hP]
      rcases h0 with rfl | rfl
      all_goals simp_arith [h1]) (by rcases h0 with rfl | rfl <;> rfl)
  unfold PuO fn_indexes_ready
  refine run_own rfl (s := [s0, .un]) ?_ rfl
  unfold bd_indexes_ready
  have er : ((((List.range t.size).map fun k => Dv.D.int (k : Nat)).filter fun d => (t.subs.getD (ixOf d) (.nm "x")).rdx).map fun d => d) = readyI t := by
    unfold readyI
    rw [List.map_id', List.filter_map]
    congr 1
  rw [er] at lc
  simp_arith [lc]
end Pg
namespace Dv
open PySem L2
theorem forL_cons {g : G} {b : S} {d : D} {ds : List D} {s s1 s2 : Sto} (h1 : g d s = some s1) (h2 : b s1 = .nxt s2) : forL g b (d :: ds) s = forL g b ds s2 := by
  show (match g d s with
    | none => Out.bad
    | some s1 => match b s1 with
      | .nxt s2 => forL g b ds s2
      | .cnt s2 => forL g b ds s2
      | .brk s2 => .nxt s2
      | o => o) = _
  rw [h1]
  simp only
  rw [h2]
theorem addD_tup {l m : List D} (h : l.length + m.length ≤ LIM) : addD (.tup l) (.tup m) = some (.val (.tup (l ++ m))) := by
  show (if l.length + m.length ≤ LIM then some (Opd.val (.tup (l ++ m))) else none) = _
  rw [if_pos h]
end Dv
namespace Pg
open PySem L2 Dv
def Tm.addrs (p : List Dv.D) : Tm → List Dv.D
  | .nm _ => [.tup p]
  | .fn _ b => .tup p :: b.addrs (p ++ [.int 0])
  | .ca f a => .tup p :: (f.addrs (p ++ [.int 0]) ++ a.addrs (p ++ [.int 1]))
theorem addrs_len : ∀ (t : Tm) (p : List Dv.D), (t.addrs p).length = t.size
  | .nm _, _ => rfl
  | .fn _ b, p => by unfold Tm.addrs Tm.size; rw [List.length_cons, addrs_len b]
  | .ca f a, p => by unfold Tm.addrs Tm.size; rw [List.length_cons, List.length_append, addrs_len f, addrs_len a]
abbrev Fo := List (Tm × List Dv.D)
def Fo.toks : Fo → List Dv.D
  | [] => []
  | (t, _) :: r => t.toks ++ Fo.toks r
def Fo.addrs : Fo → List Dv.D
  | [] => []
  | (t, p) :: r => t.addrs p ++ Fo.addrs r
def Fo.size : Fo → Nat
  | [] => 0
  | (t, _) :: r => t.size + Fo.size r
def Fo.pile (l : Fo) : List Dv.D := (l.map fun q => Dv.D.tup q.2).reverse
theorem Fo.pile_cons (q : Tm × List Dv.D) (l : Fo) : Fo.pile (q :: l) = Fo.pile l ++ [.tup q.2] := by unfold Fo.pile; rw [List.map_cons, List.reverse_cons]
theorem Fo.pile_len (l : Fo) : (Fo.pile l).length ≤ Fo.size l := by
  unfold Fo.pile
  rw [List.length_reverse, List.length_map]
  induction l with
  | nil => exact Nat.le_refl _
  | cons q r ih => have := q.1.size_pos; unfold Fo.size; rw [List.length_cons]; omega
theorem addr_loop (c : Nat → Fn) (v : Slot) : ∀ (n : Nat) (l : Fo) (out : List Dv.D) (u3 u4 u5 : Slot), Fo.size l ≤ n → out.length + Fo.size l < LIM → (∀ q ∈ l, q.2.length + q.1.size < LIM) →
    ∃ w3 w4 w5, forL bd_addresses_of_g1 (bd_addresses_of_b1 c) (Fo.toks l) [v, .own (.lst out), .own (.lst (Fo.pile l)), u3, u4, u5] = .nxt [v, .own (.lst (out ++ Fo.addrs l)), .own (.lst []), w3, w4, w5]
  | n, [], out, u3, u4, u5, _, _, _ => ⟨u3, u4, u5, by unfold Fo.addrs Fo.toks; rw [List.append_nil]; rfl⟩
  | 0, (t, p) :: r, out, u3, u4, u5, h, _, _ => by have := t.size_pos; unfold Fo.size at h; omega
  | n + 1, (t, p) :: r, out, u3, u4, u5, h, hl, hb => by
    have hr : ∀ q ∈ r, q.2.length + q.1.size < LIM := fun q hq => hb q (List.mem_cons_of_mem _ hq)
    have hp : p.length + t.size < LIM := hb (t, p) List.mem_cons_self
    have hpl := Fo.pile_len r
    unfold Fo.size at h hl
    have a1 : fAppend (.lst out) [.tup p] = some (.lst (out ++ [.tup p]), .non) := append_ok (by have := t.size_pos; omega)
    rw [Fo.pile_cons]
    cases t with
    | nm x =>
      have hz : (Tm.nm x).size = 1 := rfl
      obtain ⟨w3, w4, w5, e⟩ := addr_loop c v n r (out ++ [.tup p]) (.val (.str "name")) (.val (.str x)) (.val (.tup p)) (by omega) (by rw [List.length_append, List.length_singleton]; omega) hr
      refine ⟨w3, w4, w5, ?_⟩
      rw [show Fo.toks ((Tm.nm x, p) :: r) = .tup [.str "name", .str x] :: Fo.toks r from rfl, show Fo.addrs ((Tm.nm x, p) :: r) = [.tup p] ++ Fo.addrs r from rfl, ← List.append_assoc]
      refine (forL_cons (s1 := [v, .own (.lst out), .own (.lst (Fo.pile r ++ [.tup p])), .val (.str "name"), .val (.str x), u5]) rfl ?_).trans e
      unfold bd_addresses_of_b1
      simp_arith [a1]
    | fn x b =>
      have hz : (Tm.fn x b).size = b.size + 1 := rfl
      obtain ⟨w3, w4, w5, e⟩ := addr_loop c v n ((b, p ++ [.int 0]) :: r) (out ++ [.tup p]) (.val (.str "fn")) (.val (.str x)) (.val (.tup p)) (by unfold Fo.size; omega) (by rw [List.length_append, List.length_singleton]; unfold Fo.size; omega) (fun q hq => by
        rcases List.mem_cons.mp hq with rfl | hq
        · show (p ++ [_]).length + b.size < LIM
          rw [List.length_append, List.length_singleton]; omega
        · exact hr q hq)
      refine ⟨w3, w4, w5, ?_⟩
      rw [Fo.pile_cons] at e
      rw [show Fo.toks ((Tm.fn x b, p) :: r) = .tup [.str "fn", .str x] :: Fo.toks ((b, p ++ [.int 0]) :: r) from rfl, show Fo.addrs ((Tm.fn x b, p) :: r) = [.tup p] ++ Fo.addrs ((b, p ++ [.int 0]) :: r) from rfl, ← List.append_assoc]
      refine (forL_cons (s1 := [v, .own (.lst out), .own (.lst (Fo.pile r ++ [.tup p])), .val (.str "fn"), .val (.str x), u5]) rfl ?_).trans e
      have a2 : addD (.tup p) (.tup [.int 0]) = some (.val (.tup (p ++ [.int 0]))) := addD_tup (by rw [List.length_singleton]; omega)
      have a3 : fAppend (.lst (Fo.pile r)) [.tup (p ++ [.int 0])] = some (.lst (Fo.pile r ++ [.tup (p ++ [.int 0])]), .non) := append_ok (by omega)
      have l1 := lim1
      unfold bd_addresses_of_b1
      simp_arith [a1, a2, a3, l1]
    | ca f a =>
      have hz : (Tm.ca f a).size = f.size + a.size + 1 := rfl
      have hf := f.size_pos
      have ha := a.size_pos
      obtain ⟨w3, w4, w5, e⟩ := addr_loop c v n ((f, p ++ [.int 0]) :: (a, p ++ [.int 1]) :: r) (out ++ [.tup p]) (.val (.str "call")) (.val .non) (.val (.tup p)) (by unfold Fo.size Fo.size; omega) (by rw [List.length_append, List.length_singleton]; unfold Fo.size Fo.size; omega) (fun q hq => by
        rcases List.mem_cons.mp hq with rfl | hq
        · show (p ++ [_]).length + f.size < LIM
          rw [List.length_append, List.length_singleton]; omega
        · rcases List.mem_cons.mp hq with rfl | hq
          · show (p ++ [_]).length + a.size < LIM
            rw [List.length_append, List.length_singleton]; omega
          · exact hr q hq)
      refine ⟨w3, w4, w5, ?_⟩
      rw [Fo.pile_cons, Fo.pile_cons] at e
      have et : Fo.toks ((Tm.ca f a, p) :: r) = .tup [.str "call", .non] :: Fo.toks ((f, p ++ [.int 0]) :: (a, p ++ [.int 1]) :: r) := by
        show (Tm.ca f a).toks ++ Fo.toks r = _ :: (f.toks ++ (a.toks ++ Fo.toks r))
        unfold Tm.toks
        rw [show (Tm.ca f a).subs = .ca f a :: (f.subs ++ a.subs) from rfl, List.map_cons, List.map_append]
        simp [Tm.tok]
      have ea : Fo.addrs ((Tm.ca f a, p) :: r) = [.tup p] ++ Fo.addrs ((f, p ++ [.int 0]) :: (a, p ++ [.int 1]) :: r) := by
        show (.tup p :: (f.addrs (p ++ [.int 0]) ++ a.addrs (p ++ [.int 1]))) ++ Fo.addrs r = .tup p :: (f.addrs _ ++ (a.addrs _ ++ Fo.addrs r))
        simp
      rw [et, ea, ← List.append_assoc]
      refine (forL_cons (s1 := [v, .own (.lst out), .own (.lst (Fo.pile r ++ [.tup p])), .val (.str "call"), .val .non, u5]) rfl ?_).trans e
      have a2 : addD (.tup p) (.tup [.int 0]) = some (.val (.tup (p ++ [.int 0]))) := addD_tup (by rw [List.length_singleton]; omega)
      have a2' : addD (.tup p) (.tup [.int 1]) = some (.val (.tup (p ++ [.int 1]))) := addD_tup (by rw [List.length_singleton]; omega)
      have a3 : fAppend (.lst (Fo.pile r)) [.tup (p ++ [.int 1])] = some (.lst (Fo.pile r ++ [.tup (p ++ [.int 1])]), .non) := append_ok (by omega)
      have a4 : fAppend (.lst (Fo.pile r ++ [.tup (p ++ [.int 1])])) [.tup (p ++ [.int 0])] = some (.lst (Fo.pile r ++ [.tup (p ++ [.int 1])] ++ [.tup (p ++ [.int 0])]), .non) := append_ok (by rw [List.length_append, List.length_singleton]; omega)
      have l1 := lim1
      unfold bd_addresses_of_b1
      simp_arith [a1, a2, a2', a3, a4, l1]
theorem addresses_of_ok (c : Nat → Fn) (t : Tm) (hl : t.size < LIM) (s0 : Slot) (h0 : Arg s0 (.lst t.toks)) : ∃ fin, (fn_addresses_of c) [s0] = .ret (.own (.lst (t.addrs []))) fin ∧ (s0 = .val (.lst t.toks) → fin = [.val (.lst t.toks)]) ∧ (s0 = .par (.lst t.toks) → fin = [.pfr (.lst t.toks)]) := by
  have l1 := lim1
  have l0 : (0 : Nat) ≤ LIM := LIM_le (by decide)
  have main : ∀ (s1 : Slot), wSeq (sVar 0) [s0, .own (.lst []), .own (.lst [.tup []]), .un, .un, .un] = .ok t.toks [s1, .own (.lst []), .own (.lst [.tup []]), .un, .un, .un] → (fn_addresses_of c) [s0] = .ret (.own (.lst (t.addrs []))) [s1] := fun s1 hs => by
    obtain ⟨w3, w4, w5, e⟩ := addr_loop c s1 t.size [(t, [])] [] .un .un .un (by unfold Fo.size Fo.size; omega) (by unfold Fo.size Fo.size; rw [List.length_nil]; omega) (fun q hq => by
      rw [List.mem_singleton.mp hq]
      show ([] : List Dv.D).length + t.size < LIM
      rw [List.length_nil]; omega)
    rw [show Fo.toks [(t, [])] = t.toks ++ [] from rfl, show Fo.addrs [(t, [])] = t.addrs [] ++ [] from rfl, List.append_nil, List.append_nil, List.nil_append, show Fo.pile [(t, [])] = [.tup []] from rfl] at e
    have st1 : sAsg 1 (sLst aNil) [s0, .un, .un, .un, .un, .un] = .nxt [s0, .own (.lst []), .un, .un, .un, .un] := by simp_arith [l0]
    have st2 : sAsg 2 (sLst (aCons (sTup aNil) aNil)) [s0, .own (.lst []), .un, .un, .un, .un] = .nxt [s0, .own (.lst []), .own (.lst [.tup []]), .un, .un, .un] := by simp_arith [l0, l1]
    refine run_slot rfl (i := 1) (s := [s1, .own (.lst (t.addrs [])), .own (.lst []), w3, w4, w5]) ?_ rfl rfl
    unfold bd_addresses_of
    exact (seq_nxt st1).trans ((seq_nxt st2).trans ((seq_nxt (for_of hs e)).trans rfl))
  rcases h0 with rfl | rfl
  · exact ⟨[.val (.lst t.toks)], main _ (by simp_arith []), fun _ => rfl, fun z => (nomatch z)⟩
  · exact ⟨[.pfr (.lst t.toks)], main _ (by simp_arith []), fun z => (nomatch z), fun _ => rfl⟩
def readyA (t : Tm) : List Dv.D := (readyI t).map fun d => (t.addrs []).getD (ixOf d) .non
theorem ready_ok (c : Nat → Fn) (t : Tm) (hl : t.size < LIM) (hw : Pu (c f_need_wide) [.val t.D] .non) (hf : PuO (c f_flat) [.val t.D] (.lst t.toks)) (ha : (c f_addresses_of) [.par (.lst t.toks)] = .ret (.own (.lst (t.addrs []))) [.pfr (.lst t.toks)])
    (hi : PuO (c f_indexes_ready) [.val (.lst t.toks)] (.lst (readyI t))) : Pu (fn_ready c) [.val t.D] (.tup (readyA t)) := by
  have hw : c f_need_wide [.val t.D] = .ret (.val .non) [.val t.D] := hw
  have hf : c f_flat [.val t.D] = .ret (.own (.lst t.toks)) [.val t.D] := hf
  have hi : c f_indexes_ready [.val (.lst t.toks)] = .ret (.own (.lst (readyI t))) [.val (.lst t.toks)] := hi
  have st1 : sDrop (sCall (c f_need_wide) [true] (aCons (sVar 0) aNil)) [.val t.D, .un, .un, .un] = .nxt [.val t.D, .un, .un, .un] := by simp_arith [hw]
  have st2 : sAsg 1 (sCall (c f_flat) [true] (aCons (sVar 0) aNil)) [.val t.D, .un, .un, .un] = .nxt [.val t.D, .own (.lst t.toks), .un, .un] := by simp_arith [hf]
  have st3 : sAsg 2 (sCall (c f_addresses_of) [true] (aCons (sVar 1) aNil)) [.val t.D, .own (.lst t.toks), .un, .un] = .nxt [.val t.D, .val (.lst t.toks), .own (.lst (t.addrs [])), .un] := by simp_arith [ha]
  have lf : wSeq (sCall (c f_indexes_ready) [true] (aCons (sVar 1) aNil)) [.val t.D, .val (.lst t.toks), .own (.lst (t.addrs [])), .un] = .ok (readyI t) [.val t.D, .val (.lst t.toks), .own (.lst (t.addrs [])), .un] := by simp_arith [hi]
  have hlen : (readyI t).length ≤ t.size := by
    unfold readyI
    rw [List.length_map]
    exact Nat.le_trans (List.length_filter_le _ _) (by rw [List.length_range]; exact Nat.le_refl _)
  have lc := lc_of (g := gN 3) (t := tYesT) (e := sOp2 atD (sVar 2) (sVar 3)) (vs := [3]) (P := fun _ => true) (F := fun d => (t.addrs []).getD (ixOf d) .non) (w := [.val t.D, .val (.lst t.toks), .own (.lst (t.addrs [])), .un]) (fin := [.val t.D, .val (.lst t.toks), .own (.lst (t.addrs [])), .un]) lf rfl (by omega)
    (fun d hd => by
      unfold readyI at hd
      obtain ⟨i, hi, rfl⟩ := List.mem_map.mp hd
      have hi : i < t.size := List.mem_range.mp (List.mem_filter.mp hi).1
      have q : atD (.lst (t.addrs [])) (.int (i : Nat)) = some (.val ((t.addrs []).getD i .non)) := at_lst (by
        rw [List.getD_eq_getElem?_getD, List.getElem?_eq_getElem (by rw [addrs_len]; exact hi)]; rfl)
      rw [show ixOf (.int (i : Nat)) = i by unfold ixOf; simp]
      refine ⟨[.val t.D, .val (.lst t.toks), .own (.lst (t.addrs [])), .val (.int (i : Nat))], [.val t.D, .val (.lst t.toks), .own (.lst (t.addrs [])), .val (.int (i : Nat))], rfl, rfl, fun z => (nomatch z), fun _ => ⟨.val ((t.addrs []).getD i .non), [.val t.D, .val (.lst t.toks), .own (.lst (t.addrs [])), .val (.int (i : Nat))], [.val t.D, .val (.lst t.toks), .own (.lst (t.addrs [])), .val (.int (i : Nat))], ?_, rfl, rfl⟩⟩
      simp_arith [q]) rfl
  rw [List.filter_eq_self.mpr (fun _ _ => rfl)] at lc
  have st4 : sRet (sCB tupD (aCons (sLc (wSeq (sCall (c f_indexes_ready) [true] (aCons (sVar 1) aNil))) (gN 3) tYesT (sOp2 atD (sVar 2) (sVar 3)) [3]) aNil)) [.val t.D, .val (.lst t.toks), .own (.lst (t.addrs [])), .un] = .ret (.val (.tup (readyA t))) [.val t.D, .val (.lst t.toks), .own (.lst (t.addrs [])), .un] := by
    unfold readyA
    simp_arith [lc, tup_lst]
  unfold Pu fn_ready
  refine run_val rfl (s := [.val t.D, .val (.lst t.toks), .own (.lst (t.addrs [])), .un]) ?_ rfl
  unfold bd_ready
  exact (seq_nxt st1).trans ((seq_nxt st2).trans ((seq_nxt st3).trans st4))
theorem still_ready {t : Tm} (h : t.still) : readyA t = [] := by
  unfold readyA readyI
  rw [List.filter_eq_nil_iff.mpr]
  · rfl
  · intro i hi
    have hi := List.mem_range.mp hi
    rw [List.getD_eq_getElem?_getD, List.getElem?_eq_getElem (by rw [subs_len]; exact hi)]
    have := h _ (List.getElem_mem (l := t.subs) (n := i) (by rw [subs_len]; exact hi))
    simp [this]
theorem is_normal_ok (c : Nat → Fn) (t : Tm) (h : t.still) (hp : Pu (c f_need_program) [.val t.D] .non) (hr : Pu (c f_ready) [.val t.D] (.tup (readyA t))) : Pu (fn_is_normal c) [.val t.D] (.bl true) := by
  have hp : c f_need_program [.val t.D] = .ret (.val .non) [.val t.D] := hp
  have hr : c f_ready [.val t.D] = .ret (.val (.tup (readyA t))) [.val t.D] := hr
  rw [still_ready h] at hr
  have l0 : (0 : Nat) ≤ LIM := LIM_le (by decide)
  have q : eqD (.tup []) (.tup []) = some (.val (.bl true)) := rfl
  unfold Pu fn_is_normal
  refine run_val rfl (s := [.val t.D]) ?_ rfl
  unfold bd_is_normal
  simp_arith [hp, hr, l0, q]
theorem need_normal_ok (c : Nat → Fn) (t : Tm) (hp : Pu (c f_is_normal) [.val t.D] (.bl true)) : Pu (fn_need_normal c) [.val t.D] .non := by
  have hp : c f_is_normal [.val t.D] = .ret (.val (.bl true)) [.val t.D] := hp
  unfold Pu fn_need_normal
  refine run_nxt rfl (s := [.val t.D]) ?_ rfl
  unfold bd_need_normal
  simp_arith [hp]
end Pg
namespace Dv
open PySem L2
theorem modD_pos {a b : Int} (h : 0 < b) : modD (.int a) (.int b) = some (.val (.int (a % b))) := by
  show (if 0 < b then some (Opd.val (.int (a % b))) else none) = _
  rw [if_pos h]
theorem log2_small {n : Nat} (h : n < 2 ^ 32) : n.log2 < 9000 := by
  by_cases h0 : n = 0
  · subst h0; decide
  · have : n.log2 < 32 := (Nat.log2_lt h0).mpr h
    omega
theorem fdivD_pos {a b : Int} (h : 0 < b) (hb : b < 4294967296) : fdivD (.int a) (.int b) = some (.val (.int (a / b))) := by
  have hl : b.natAbs.log2 < 9000 := log2_small (by omega)
  show (if 0 < b ∧ b.natAbs.log2 < 9000 then some (Opd.val (.int (a / b))) else none) = _
  rw [if_pos ⟨h, hl⟩]
theorem mulD_small {i j : Int} (h1 : -4611686018427387904 < i) (h2 : i < 4611686018427387904) : mulD (.int i) (.int j) = some (.val (.int (i * j))) := by
  have h : MulOk i j := .inl (.inl ⟨by omega, by omega⟩)
  unfold mulD
  simp only
  rw [if_pos h]
theorem powD_18 : powD (.int 10) (.int 18) = some (.val (.int 1000000000000000000)) := by
  unfold powD
  simp only
  rw [if_pos (by decide)]
  rfl
theorem set_p1 {a b e d : D} {us : List Slot} : setO 0 (some (.int 1)) d (.par (.lst [a, b, e]) :: us) = .nxt (.par (.lst [a, d, e]) :: us) := by
  have h := ixN_nat (n := 3) (i := 1) (by decide)
  have h : ixN [a, b, e].length 1 = some 1 := h
  unfold setO
  simp only [List.getElem?_cons_zero, Slot.mut, Slot.dat, Slot.put, if_true, h, List.set_cons_zero, List.set_cons_succ]
theorem set_p2 {a b e d : D} {us : List Slot} : setO 0 (some (.int 2)) d (.par (.lst [a, b, e]) :: us) = .nxt (.par (.lst [a, b, d]) :: us) := by
  have h := ixN_nat (n := 3) (i := 2) (by decide)
  have h : ixN [a, b, e].length 2 = some 2 := h
  unfold setO
  simp only [List.getElem?_cons_zero, Slot.mut, Slot.dat, Slot.put, if_true, h, List.set_cons_zero, List.set_cons_succ]
theorem intD_int (i : Int) : intD [.int i] = some (.val (.int i)) := rfl
end Dv
namespace Pg
open PySem L2 Dv
def boxD (cells : List Int) (k : Nat) (q : Int) : Dv.D := .lst [.lst (cells.map .int), .int (k : Nat), .int q]
def Draw (m : Nat) (r : Nat) : Prop := r < m ∨ r = 0
theorem pick_ok (c : Nat → Fn) (cells : List Int) (k : Nat) (q : Int) (m : Nat) (hk : k < 1073741824) (hm : m < 1073741824) :
    ∃ (r k' : Nat) (q' : Int), fn_law_pick c [.par (boxD cells k q), .val (.int (m : Nat))] = .ret (.val (.int (r : Nat))) [.par (boxD cells k' q'), .val (.int (m : Nat))] ∧ Draw m r ∧ k ≤ k' ∧ k' ≤ k + 1 := by
  have t1 : sIfS (tB (sOp2 ltD (sVar 1) (sC (.int 2)))) (sRet (sC (.int 0))) sSkip [.par (boxD cells k q), .val (.int (m : Nat)), .un, .un, .un, .un] = if m < 2 then .ret (.val (.int 0)) [.par (boxD cells k q), .val (.int (m : Nat)), .un, .un, .un, .un] else .nxt [.par (boxD cells k q), .val (.int (m : Nat)), .un, .un, .un, .un] := by
    by_cases h : m < 2
    · rw [if_pos h]
      simp_arith [decide_eq_true (show ((m : Nat) : Int) < 2 by omega)]
    · rw [if_neg h]
      simp_arith [decide_eq_false (show ¬ ((m : Nat) : Int) < 2 by omega)]
  by_cases h : m < 2
  · rw [if_pos h] at t1
    refine ⟨0, k, q, ?_, .inr rfl, Nat.le_refl _, Nat.le_succ _⟩
    refine run_val rfl (s := [.par (boxD cells k q), .val (.int (m : Nat)), .un, .un, .un, .un]) ?_ rfl
    unfold bd_law_pick
    exact seq_ret t1
  rw [if_neg h] at t1
  have m0 : (0 : Int) < ((m : Nat) : Int) := by omega
  have m1 : ((m : Nat) : Int) < 4294967296 := by omega
  have drawn : ∀ x : Int, ∃ r : Nat, x % ((m : Nat) : Int) = ((r : Nat) : Int) ∧ Draw m r := fun x => by
    have a := Int.emod_nonneg x (show ((m : Nat) : Int) ≠ 0 by omega)
    have b := Int.emod_lt_of_pos x m0
    exact ⟨(x % ((m : Nat) : Int)).toNat, by omega, .inl (by omega)⟩
  by_cases hq : 0 < q
  · obtain ⟨r, er, dr⟩ := drawn q
    refine ⟨r, k, q / ((m : Nat) : Int), ?_, dr, Nat.le_refl _, Nat.le_succ _⟩
    refine run_val rfl (s := [.par (boxD cells k (q / ((m : Nat) : Int))), .val (.int (m : Nat)), .val (.int (r : Nat)), .un, .un, .un]) ?_ rfl
    unfold bd_law_pick
    refine (seq_nxt t1).trans (seq_ret ?_)
    have e1 := modD_pos (a := q) m0
    have e2 := fdivD_pos (a := q) m0 m1
    rw [er] at e1
    unfold boxD
    simp_arith [decide_eq_true hq, intD_int, e1, e2, set_p2]
  · -- a fresh draw
    have t2 : sIfS (tB (sOp2 gtD (sOp2 atD (sVar 0) (sC (.int 2))) (sC (.int 0)))) (sSeq (sAsg 2 (sOp2 modD (sCB intD (aCons (sOp2 atD (sVar 0) (sC (.int 2))) aNil)) (sVar 1)))
    (sSeq (sSet 0 (sC (.int 2)) (sOp2 fdivD (sOp2 atD (sVar 0) (sC (.int 2))) (sVar 1)))
    (sRet (sVar 2)))) sSkip [.par (boxD cells k q), .val (.int (m : Nat)), .un, .un, .un, .un] = .nxt [.par (boxD cells k q), .val (.int (m : Nat)), .un, .un, .un, .un] := by
      unfold boxD
      simp_arith [decide_eq_false hq]
    have t3 : sAsg 3 (sOp2 atD (sVar 0) (sC (.int 1))) [.par (boxD cells k q), .val (.int (m : Nat)), .un, .un, .un, .un] = .nxt [.par (boxD cells k q), .val (.int (m : Nat)), .un, .val (.int (k : Nat)), .un, .un] := by
      unfold boxD
      simp_arith []
    have t4 : sSet 0 (sC (.int 1)) (sOp2 addD (sVar 3) (sC (.int 1))) [.par (boxD cells k q), .val (.int (m : Nat)), .un, .val (.int (k : Nat)), .un, .un] = .nxt [.par (boxD cells (k + 1) q), .val (.int (m : Nat)), .un, .val (.int (k : Nat)), .un, .un] := by
      unfold boxD
      simp_arith [cast1, set_p1]
    obtain ⟨cell, t5⟩ : ∃ cell : Int, sAsg 4 (sIf (tB (sOp2 gtD (sCB lenD (aCons (sOp2 atD (sVar 0) (sC (.int 0))) aNil)) (sC (.int 0)))) (sOp2 atD (sOp2 atD (sVar 0) (sC (.int 0))) (sOp2 modD (sVar 3) (sCB lenD (aCons (sOp2 atD (sVar 0) (sC (.int 0))) aNil)))) (sC (.int 0))) [.par (boxD cells (k + 1) q), .val (.int (m : Nat)), .un, .val (.int (k : Nat)), .un, .un]
        = .nxt [.par (boxD cells (k + 1) q), .val (.int (m : Nat)), .un, .val (.int (k : Nat)), .val (.int cell), .un] := by
      by_cases hc : cells.length = 0
      · refine ⟨0, ?_⟩
        have hd : decide ((0 : Int) < (((cells.map Dv.D.int).length : Nat) : Int)) = false := decide_eq_false (by rw [List.length_map, hc]; decide)
        unfold boxD
        simp_arith [hd]
      · have hx : k % cells.length < cells.length := Nat.mod_lt _ (by omega)
        refine ⟨cells[k % cells.length], ?_⟩
        have hd : decide ((0 : Int) < (((cells.map Dv.D.int).length : Nat) : Int)) = true := decide_eq_true (by rw [List.length_map]; omega)
        have e1 : modD (.int ((k : Nat) : Int)) (.int (((cells.map Dv.D.int).length : Nat) : Int)) = some (.val (.int ((k % cells.length : Nat)))) := by
          rw [modD_pos (by rw [List.length_map]; omega), List.length_map]; rfl
        have e2 : atD (.lst (cells.map Dv.D.int)) (.int ((k % cells.length : Nat))) = some (.val (.int cells[k % cells.length])) := at_lst (by rw [List.getElem?_map, List.getElem?_eq_getElem hx]; rfl)
        unfold boxD
        simp_arith [hd, e1, e2]
    have pre : ∀ {g : S} {o : Out}, g [.par (boxD cells (k + 1) q), .val (.int (m : Nat)), .un, .val (.int (k : Nat)), .val (.int cell), .un] = o → _ := fun {g o} h => (seq_nxt t1).trans ((seq_nxt t2).trans ((seq_nxt t3).trans ((seq_nxt t4).trans ((seq_nxt t5).trans h))))
    by_cases hb : k < cells.length ∧ 1000000000000000000 ≤ cell
    · obtain ⟨r, er, dr⟩ := drawn cell
      refine ⟨r, k + 1, cell / ((m : Nat) : Int), ?_, dr, Nat.le_succ _, Nat.le_refl _⟩
      refine run_val rfl (s := [.par (boxD cells (k + 1) (cell / ((m : Nat) : Int))), .val (.int (m : Nat)), .un, .val (.int (k : Nat)), .val (.int cell), .un]) ?_ rfl
      unfold bd_law_pick
      refine pre (seq_ret ?_)
      have d1 : decide (((k : Nat) : Int) < (((cells.map Dv.D.int).length : Nat) : Int)) = true := decide_eq_true (by rw [List.length_map]; omega)
      have d2 : decide (cell < 1000000000000000000) = false := decide_eq_false (by omega)
      have e1 := modD_pos (a := cell) m0
      have e2 := fdivD_pos (a := cell) m0 m1
      rw [er] at e1
      unfold boxD
      simp_arith [d1, d2, powD_18, intD_int, e1, e2, set_p2]
    · have t6 : sIfS (tAnd (tB (sOp2 ltD (sVar 3) (sCB lenD (aCons (sOp2 atD (sVar 0) (sC (.int 0))) aNil)))) (tB (sOp2 geD (sVar 4) (sOp2 powD (sC (.int 10)) (sC (.int 18)))))) (sSeq (sSet 0 (sC (.int 2)) (sOp2 fdivD (sVar 4) (sVar 1)))
    (sRet (sOp2 modD (sCB intD (aCons (sVar 4) aNil)) (sVar 1)))) sSkip [.par (boxD cells (k + 1) q), .val (.int (m : Nat)), .un, .val (.int (k : Nat)), .val (.int cell), .un] = .nxt [.par (boxD cells (k + 1) q), .val (.int (m : Nat)), .un, .val (.int (k : Nat)), .val (.int cell), .un] := by
        unfold boxD
        by_cases h1 : k < cells.length
        · have d1 : decide (((k : Nat) : Int) < (((cells.map Dv.D.int).length : Nat) : Int)) = true := decide_eq_true (by rw [List.length_map]; omega)
          have d2 : decide (cell < 1000000000000000000) = true := decide_eq_true (by omega)
          simp_arith [d1, d2, powD_18]
        · have d1 : decide (((k : Nat) : Int) < (((cells.map Dv.D.int).length : Nat) : Int)) = false := decide_eq_false (by rw [List.length_map]; omega)
          simp_arith [d1]
      have a1 := Int.emod_nonneg cell (show (2147483629 : Int) ≠ 0 by decide)
      have a2 := Int.emod_lt_of_pos cell (show (0 : Int) < 2147483629 by decide)
      obtain ⟨x1, b1, b2, t7⟩ : ∃ x1 : Int, 0 ≤ x1 ∧ x1 < 2147483647 ∧ sAsg 5 (sOp2 modD (sOp2 mulD (sOp2 addD (sOp2 modD (sCB intD (aCons (sVar 4) aNil)) (sC (.int 2147483629))) (sC (.int 1))) (sC (.int 48271))) (sC (.int 2147483647))) [.par (boxD cells (k + 1) q), .val (.int (m : Nat)), .un, .val (.int (k : Nat)), .val (.int cell), .un]
          = .nxt [.par (boxD cells (k + 1) q), .val (.int (m : Nat)), .un, .val (.int (k : Nat)), .val (.int cell), .val (.int x1)] := by
        refine ⟨(cell % 2147483629 + 1) * 48271 % 2147483647, Int.emod_nonneg _ (by decide), Int.emod_lt_of_pos _ (by decide), ?_⟩
        have e1 := modD_pos (a := cell) (b := 2147483629) (by decide)
        have e2 := mulD_small (i := cell % 2147483629 + 1) (j := 48271) (by omega) (by omega)
        have e3 := modD_pos (a := (cell % 2147483629 + 1) * 48271) (b := 2147483647) (by decide)
        simp_arith [intD_int, e1, e2, e3]
      have kk : ((k : Nat) : Int) * ((k : Nat) : Int) ≤ 1073741824 * 1073741824 := Int.mul_le_mul (by omega) (by omega) (by omega) (by decide)
      have kp : 0 ≤ ((k : Nat) : Int) * ((k : Nat) : Int) := Int.mul_nonneg (by omega) (by omega)
      obtain ⟨x2, c1, c2, t8⟩ : ∃ x2 : Int, 0 ≤ x2 ∧ x2 < 2147483629 ∧ sAsg 5 (sOp2 modD (sOp2 addD (sOp2 addD (sVar 5) (sOp2 mulD (sOp2 mulD (sVar 3) (sVar 3)) (sC (.int 30269)))) (sOp2 mulD (sC (.int 977)) (sVar 3))) (sC (.int 2147483629))) [.par (boxD cells (k + 1) q), .val (.int (m : Nat)), .un, .val (.int (k : Nat)), .val (.int cell), .val (.int x1)]
          = .nxt [.par (boxD cells (k + 1) q), .val (.int (m : Nat)), .un, .val (.int (k : Nat)), .val (.int cell), .val (.int x2)] := by
        refine ⟨(x1 + ((k : Nat) : Int) * ((k : Nat) : Int) * 30269 + 977 * ((k : Nat) : Int)) % 2147483629, Int.emod_nonneg _ (by decide), Int.emod_lt_of_pos _ (by decide), ?_⟩
        have e1 := mulD_small (i := ((k : Nat) : Int)) (j := ((k : Nat) : Int)) (by omega) (by omega)
        have e2 := mulD_small (i := ((k : Nat) : Int) * ((k : Nat) : Int)) (j := 30269) (by omega) (by omega)
        have e3 := mulD_small (i := 977) (j := ((k : Nat) : Int)) (by decide) (by decide)
        have e4 := modD_pos (a := x1 + ((k : Nat) : Int) * ((k : Nat) : Int) * 30269 + 977 * ((k : Nat) : Int)) (b := 2147483629) (by decide)
        simp_arith [e1, e2, e3, e4]
      obtain ⟨x3, t9⟩ : ∃ x3 : Int, sAsg 5 (sOp2 modD (sOp2 mulD (sVar 5) (sVar 5)) (sC (.int 2147483587))) [.par (boxD cells (k + 1) q), .val (.int (m : Nat)), .un, .val (.int (k : Nat)), .val (.int cell), .val (.int x2)]
          = .nxt [.par (boxD cells (k + 1) q), .val (.int (m : Nat)), .un, .val (.int (k : Nat)), .val (.int cell), .val (.int x3)] := by
        refine ⟨x2 * x2 % 2147483587, ?_⟩
        have e1 := mulD_small (i := x2) (j := x2) (by omega) (by omega)
        have e2 := modD_pos (a := x2 * x2) (b := 2147483587) (by decide)
        simp_arith [e1, e2]
      obtain ⟨r, er, dr⟩ := drawn (x3 / 32)
      refine ⟨r, k + 1, q, ?_, dr, Nat.le_succ _, Nat.le_refl _⟩
      refine run_val rfl (s := [.par (boxD cells (k + 1) q), .val (.int (m : Nat)), .un, .val (.int (k : Nat)), .val (.int cell), .val (.int x3)]) ?_ rfl
      unfold bd_law_pick
      refine pre ((seq_nxt t6).trans ((seq_nxt t7).trans ((seq_nxt t8).trans ((seq_nxt t9).trans ?_))))
      have e1 := fdivD_pos (a := x3) (b := 32) (by decide) (by decide)
      have e2 := modD_pos (a := x3 / 32) m0
      rw [er] at e2
      simp_arith [e1, e2]
end Pg
namespace Dv
open PySem L2
theorem forL_brk {g : G} {b : S} {d : D} {ds : List D} {s s1 s2 : Sto} (h1 : g d s = some s1) (h2 : b s1 = .brk s2) : forL g b (d :: ds) s = .nxt s2 := by
  show (match g d s with
    | none => Out.bad
    | some s1 => match b s1 with
      | .nxt s2 => forL g b ds s2
      | .cnt s2 => forL g b ds s2
      | .brk s2 => .nxt s2
      | o => o) = _
  rw [h1]
  simp only
  rw [h2]
theorem for_brk {g : G} {b : S} (I F : Sto → Prop) (hIF : ∀ s, I s → F s) : ∀ (ds : List D) (s : Sto), (∀ d ∈ ds, ∀ s, I s → ∃ s1 s2, g d s = some s1 ∧ ((b s1 = .nxt s2 ∧ I s2) ∨ (b s1 = .brk s2 ∧ F s2))) → I s → ∃ s', forL g b ds s = .nxt s' ∧ F s'
  | [], s, _, h => ⟨s, rfl, hIF s h⟩
  | d :: ds, s, hs, h => by
    obtain ⟨s1, s2, e1, e2 | e2⟩ := hs d List.mem_cons_self s h
    · obtain ⟨s', q1, q2⟩ := for_brk I F hIF ds s2 (fun d hd => hs d (List.mem_cons_of_mem _ hd)) e2.2
      exact ⟨s', (forL_cons e1 e2.1).trans q1, q2⟩
    · exact ⟨s2, forL_brk e1 e2.1, e2.2⟩
theorem addD_lst {l m : List D} (h : l.length + m.length ≤ LIM) : addD (.lst l) (.lst m) = some (.own (.lst (l ++ m))) := by
  show (if l.length + m.length ≤ LIM then some (Opd.own (.lst (l ++ m))) else none) = _
  rw [if_pos h]
end Dv
namespace Pg
open PySem L2 Dv
def PickOk (F : Fn) : Prop := ∀ (cells : List Int) (k : Nat) (q : Int) (m : Nat), k < 1073741824 → m < 1073741824 →
    ∃ (r k' : Nat) (q' : Int), F [.par (boxD cells k q), .val (.int (m : Nat))] = .ret (.val (.int (r : Nat))) [.par (boxD cells k' q'), .val (.int (m : Nat))] ∧ Draw m r ∧ k ≤ k' ∧ k' ≤ k + 1
def namesD (ns : List Str) : Dv.D := .lst (ns.map .str)
def NormOk (A : Str → Prop) (F : Fn) (M : Nat) : Prop := ∀ (cells : List Int) (k : Nat) (q : Int) (ns : List Str) (most : Nat), 1 ≤ most → most ≤ M → ns ≠ [] → ns.length + most < 1000000 → (∀ x ∈ ns, A x) → k + 20 * most < 1073741824 →
    ∃ (t : Tm) (k' : Nat) (q' : Int), F [.par (boxD cells k q), .val (namesD ns), .val (.int (most : Nat))] = .ret (.val t.D) [.par (boxD cells k' q'), .val (namesD ns), .val (.int (most : Nat))] ∧ t.size ≤ most ∧ t.still ∧ (∀ x ∈ t.names, A x) ∧ k ≤ k' ∧ k' ≤ k + 20 * most
def Tm.isFn : Tm → Bool
  | .fn _ _ => true
  | _ => false
theorem still_ca {f a : Tm} (h1 : f.still) (h2 : a.still) (h3 : f.isFn = false) : (Tm.ca f a).still := fun s hs => by
  rw [show (Tm.ca f a).subs = .ca f a :: (f.subs ++ a.subs) from rfl] at hs
  rcases List.mem_cons.mp hs with rfl | hs
  · cases f with
    | fn x b => cases h3
    | nm x => rfl
    | ca g b => rfl
  · rcases List.mem_append.mp hs with hs | hs
    · exact h1 s hs
    · exact h2 s hs
theorem still_fn {x : Str} {b : Tm} (h : b.still) : (Tm.fn x b).still := fun s hs => by
  rw [show (Tm.fn x b).subs = .fn x b :: b.subs from rfl] at hs
  rcases List.mem_cons.mp hs with rfl | hs
  · rfl
  · exact h s hs
theorem still_nm {x : Str} : (Tm.nm x).still := fun s hs => by
  rw [show (Tm.nm x).subs = [.nm x] from rfl, List.mem_singleton] at hs
  rw [hs]; rfl
theorem normal_turn (A : Str → Prop) (c : Nat → Fn) (M : Nat) (hp : PickOk (c f_law_pick)) (hn : NormOk A (c f_law_normal) M) {cells : List Int} {k0 : Nat} {ns : List Str} {most : Nat} (h1 : most ≤ M + 1) (hns : ns ≠ []) (hl : ns.length + most < 1000000) (hA : ∀ x ∈ ns, A x) (hk : k0 + 20 * most < 1073741830)
    {found : Tm} {left k : Nat} {q : Int} {u3 u6 u7 : Slot} (i1 : found.size + left ≤ most) (i2 : found.still) (i3 : found.isFn = false) (i4 : ∀ x ∈ found.names, A x) (i5 : k0 ≤ k) (i6 : k + 20 * left ≤ k0 + 2 + 20 * (most - 1)) (hm : 1 ≤ most) :
    (∃ k' q', bd_law_normal_b1 c [.par (boxD cells k q), .val (namesD ns), .val (.int (most : Nat)), u3, .val found.D, .val (.int (left : Nat)), u6, u7] = .brk [.par (boxD cells k' q'), .val (namesD ns), .val (.int (most : Nat)), u3, .val found.D, .val (.int (left : Nat)), u6, u7] ∧ k ≤ k' ∧ k' ≤ k + 1) ∨
    ∃ (f' : Tm) (left' k' : Nat) (q' : Int) (u7' : Slot), bd_law_normal_b1 c [.par (boxD cells k q), .val (namesD ns), .val (.int (most : Nat)), u3, .val found.D, .val (.int (left : Nat)), u6, u7] = .nxt [.par (boxD cells k' q'), .val (namesD ns), .val (.int (most : Nat)), u3, .val f'.D, .val (.int (left' : Nat)), u6, u7'] ∧
      f'.size + left' ≤ most ∧ f'.still ∧ f'.isFn = false ∧ (∀ x ∈ f'.names, A x) ∧ k0 ≤ k' ∧ k' + 20 * left' ≤ k0 + 2 + 20 * (most - 1) := by
  by_cases hlt : left < 2
  · left
    refine ⟨k, q, ?_, Nat.le_refl _, Nat.le_succ _⟩
    have d1 : decide (((left : Nat) : Int) < 2) = true := decide_eq_true (by omega)
    unfold bd_law_normal_b1
    simp_arith [d1]
  · have d1 : decide (((left : Nat) : Int) < 2) = false := decide_eq_false (by omega)
    obtain ⟨r, k1, q1, e1, dr, b1, b2⟩ := hp cells k q 2 (by omega) (by decide)
    have e1 : c f_law_pick [.par (boxD cells k q), .val (.int 2)] = .ret (.val (.int (r : Nat))) [.par (boxD cells k1 q1), .val (.int 2)] := e1
    by_cases hr : r = 0
    · left
      refine ⟨k1, q1, ?_, b1, b2⟩
      subst hr
      have e1 : c f_law_pick [.par (boxD cells k q), .val (.int 2)] = .ret (.val (.int 0)) [.par (boxD cells k1 q1), .val (.int 2)] := e1
      unfold bd_law_normal_b1
      simp_arith [d1, e1]
    · right
      have z : (((r : Nat) : Int) == 0) = false := by simp; omega
      obtain ⟨r2, k2, q2, e2, dr2, b3, b4⟩ := hp cells k1 q1 (left - 1) (by omega) (by omega)
      have hr2 : r2 < left - 1 := by rcases dr2 with h | h <;> omega
      have e2 : c f_law_pick [.par (boxD cells k1 q1), .val (.int (((left : Nat) : Int) - 1))] = .ret (.val (.int (r2 : Nat))) [.par (boxD cells k2 q2), .val (.int (((left : Nat) : Int) - 1))] := by
        rw [show ((left : Nat) : Int) - 1 = ((left - 1 : Nat) : Int) by omega]; exact e2
      obtain ⟨t, k3, q3, e3, s1, s2, s3, b5, b6⟩ := hn cells k2 q2 ns (1 + r2) (by omega) (by omega) hns (by omega) hA (by omega)
      have e3 : c f_law_normal [.par (boxD cells k2 q2), .val (namesD ns), .val (.int (1 + ((r2 : Nat) : Int)))] = .ret (.val t.D) [.par (boxD cells k3 q3), .val (namesD ns), .val (.int (1 + ((r2 : Nat) : Int)))] := e3
      have l3 : (3 : Nat) ≤ LIM := LIM_le (by decide)
      refine ⟨.ca found t, left - 1 - (1 + r2), k3, q3, .val (.int (1 + ((r2 : Nat) : Int))), ?_, ?_, still_ca i2 s2 i3, rfl, ?_, by omega, by omega⟩
      · have ez : ((left : Nat) : Int) - 1 - (1 + ((r2 : Nat) : Int)) = ((left - 1 - (1 + r2) : Nat) : Int) := by omega
        rw [show (Tm.ca found t).D = .tup [.str "call", found.D, t.D] from rfl]
        unfold bd_law_normal_b1
        simp_arith [d1, e1, z, e2, e3, l3, ez]
      · rw [show (Tm.ca found t).size = found.size + t.size + 1 from rfl]; omega
      · intro x hx
        rcases List.mem_append.mp (show x ∈ found.names ++ t.names from hx) with hx | hx
        · exact i4 x hx
        · exact s3 x hx
theorem normal_main (A : Str → Prop) (c : Nat → Fn) (M : Nat) (hp : PickOk (c f_law_pick)) (hn : NormOk A (c f_law_normal) M) {cells : List Int} {k0 : Nat} {q0 : Int} {ns : List Str} {most : Nat} (hm : 1 ≤ most) (h1 : most ≤ M + 1) (hns : ns ≠ []) (hl : ns.length + most < 1000000) (hA : ∀ x ∈ ns, A x) (hk : k0 + 20 * most < 1073741830) :
    ∃ (t : Tm) (s : Sto), (sSeq (sAsg 4 (sTup (aCons (sC (.str "name")) (aCons (sOp2 atD (sVar 1) (sCall (c f_law_pick) [true, true] (aCons (sVar 0) (aCons (sCB lenD (aCons (sVar 1) aNil)) aNil)))) aNil))))
    (sSeq (sAsg 5 (sOp2 subD (sVar 2) (sC (.int 1))))
    (sSeq (sFor (wArgs rng1 (aCons (sC (.int 3)) aNil)) bd_law_normal_g1 (bd_law_normal_b1 c))
    (sRet (sVar 4))))) [.par (boxD cells k0 q0), .val (namesD ns), .val (.int (most : Nat)), .un, .un, .un, .un, .un] = .ret (.val t.D) s ∧ (∃ k' q', s.take 3 = [.par (boxD cells k' q'), .val (namesD ns), .val (.int (most : Nat))] ∧ k0 ≤ k' ∧ k' + 17 ≤ k0 + 20 * most) ∧ t.size ≤ most ∧ t.still ∧ (∀ x ∈ t.names, A x) := by
  have hpos : 0 < ns.length := List.length_pos_iff.mpr hns
  obtain ⟨r, k1, q1, e1, dr, b1, b2⟩ := hp cells k0 q0 ns.length (by omega) (by omega)
  have hr : r < ns.length := by rcases dr with h | h <;> omega
  have e1 : c f_law_pick [.par (boxD cells k0 q0), .val (.int (ns.length : Nat))] = .ret (.val (.int (r : Nat))) [.par (boxD cells k1 q1), .val (.int (ns.length : Nat))] := e1
  have l2 : (2 : Nat) ≤ LIM := LIM_le (by decide)
  have e2 : atD (.lst (ns.map Dv.D.str)) (.int (r : Nat)) = some (.val (.str ns[r])) := at_lst (by rw [List.getElem?_map, List.getElem?_eq_getElem hr]; rfl)
  have hx : A ns[r] := hA _ (List.getElem_mem hr)
  have t1 : sAsg 4 (sTup (aCons (sC (.str "name")) (aCons (sOp2 atD (sVar 1) (sCall (c f_law_pick) [true, true] (aCons (sVar 0) (aCons (sCB lenD (aCons (sVar 1) aNil)) aNil)))) aNil))) [.par (boxD cells k0 q0), .val (namesD ns), .val (.int (most : Nat)), .un, .un, .un, .un, .un]
      = .nxt [.par (boxD cells k1 q1), .val (namesD ns), .val (.int (most : Nat)), .un, .val (Tm.nm ns[r]).D, .un, .un, .un] := by
    rw [show (Tm.nm ns[r]).D = .tup [.str "name", .str ns[r]] from rfl]
    unfold namesD
    simp_arith [List.length_map, e1, e2, l2]
  have em : ((most : Nat) : Int) - 1 = ((most - 1 : Nat) : Int) := by omega
  have t2 : sAsg 5 (sOp2 subD (sVar 2) (sC (.int 1))) [.par (boxD cells k1 q1), .val (namesD ns), .val (.int (most : Nat)), .un, .val (Tm.nm ns[r]).D, .un, .un, .un]
      = .nxt [.par (boxD cells k1 q1), .val (namesD ns), .val (.int (most : Nat)), .un, .val (Tm.nm ns[r]).D, .val (.int ((most - 1 : Nat) : Int)), .un, .un] := by
    simp_arith [em]
  obtain ⟨s', e3, f', left', k', q', u6, u7, rfl, g1, g2, g3, g4, g5⟩ := for_brk (g := bd_law_normal_g1) (b := bd_law_normal_b1 c)
    (fun s => ∃ (f : Tm) (left k : Nat) (q : Int) (u6 u7 : Slot), s = [.par (boxD cells k q), .val (namesD ns), .val (.int (most : Nat)), .un, .val f.D, .val (.int (left : Nat)), u6, u7] ∧ f.size + left ≤ most ∧ f.still ∧ f.isFn = false ∧ (∀ x ∈ f.names, A x) ∧ k0 ≤ k ∧ k + 20 * left ≤ k0 + 2 + 20 * (most - 1))
    (fun s => ∃ (f : Tm) (left k : Nat) (q : Int) (u6 u7 : Slot), s = [.par (boxD cells k q), .val (namesD ns), .val (.int (most : Nat)), .un, .val f.D, .val (.int (left : Nat)), u6, u7] ∧ f.size + left ≤ most ∧ f.still ∧ (∀ x ∈ f.names, A x) ∧ k0 ≤ k ∧ k + 20 * left ≤ k0 + 3 + 20 * (most - 1))
    (fun s ⟨f, left, k, q, u6, u7, e, a1, a2, a3, a4, a5, a6⟩ => ⟨f, left, k, q, u6, u7, e, a1, a2, a4, a5, by omega⟩)
    [.int 0, .int 1, .int 2] [.par (boxD cells k1 q1), .val (namesD ns), .val (.int (most : Nat)), .un, .val (Tm.nm ns[r]).D, .val (.int ((most - 1 : Nat) : Int)), .un, .un]
    (fun d hd s ⟨f, left, k, q, u6, u7, e, a1, a2, a3, a4, a5, a6⟩ => by
      subst e
      rcases normal_turn A c M hp hn (u3 := .un) (u6 := .val d) (u7 := u7) (q := q) h1 hns hl hA hk a1 a2 a3 a4 a5 a6 hm with ⟨k', q', e, c1, c2⟩ | ⟨f', left', k', q', u7', e, c1, c2, c3, c4, c5, c6⟩
      · exact ⟨_, _, rfl, .inr ⟨e, f, left, k', q', .val d, u7, rfl, a1, a2, a4, by omega, by omega⟩⟩
      · exact ⟨_, _, rfl, .inl ⟨e, f', left', k', q', .val d, u7', rfl, c1, c2, c3, c4, c5, c6⟩⟩)
    ⟨.nm ns[r], most - 1, k1, q1, .un, .un, rfl, by rw [show (Tm.nm ns[r]).size = 1 from rfl]; omega, still_nm, rfl, fun x hx' => by rw [List.mem_singleton.mp (show x ∈ [ns[r]] from hx')]; exact hx, b1, by omega⟩
  have r3 := rng1_nat (n := 3) (LIM_le (by decide))
  have r3 : rng1 [.int 3] = some [.int 0, .int 1, .int 2] := r3
  have t3 : sFor (wArgs rng1 (aCons (sC (.int 3)) aNil)) bd_law_normal_g1 (bd_law_normal_b1 c) [.par (boxD cells k1 q1), .val (namesD ns), .val (.int (most : Nat)), .un, .val (Tm.nm ns[r]).D, .val (.int ((most - 1 : Nat) : Int)), .un, .un] = _ := for_of (ds := [.int 0, .int 1, .int 2]) (by simp_arith [r3]) e3
  refine ⟨f', _, (seq_nxt t1).trans ((seq_nxt t2).trans ((seq_nxt t3).trans (by simp_arith []; rfl))), ⟨k', q', rfl, g4, by omega⟩, by omega, g2, g3⟩
theorem normal_ok (A : Str → Prop) (c : Nat → Fn) (M : Nat) (hp : PickOk (c f_law_pick)) (hn : NormOk A (c f_law_normal) M) (hx : A "x") (hy : A "y") (hx1 : A "x1") (hu : A "u") : NormOk A (fn_law_normal c) (M + 1) := by
  intro cells k q ns most hm h1 hns hl hA hk
  have fin : ∀ (k1 : Nat) (q1 : Int), k ≤ k1 → k1 ≤ k + 1 → (sIfS (tAnd (tB (sOp2 gtD (sVar 2) (sC (.int 1)))) (tB (sOp2 eqD (sCall (c f_law_pick) [true, true] (aCons (sVar 0) (aCons (sC (.int 3)) aNil))) (sC (.int 0))))) (sSeq (sAsg 3 (sOp2 atD (sLst (aCons (sC (.str "x")) (aCons (sC (.str "y")) (aCons (sC (.str "x1")) (aCons (sC (.str "u")) aNil))))) (sCall (c f_law_pick) [true, true] (aCons (sVar 0) (aCons (sC (.int 4)) aNil)))))
    (sRet (sTup (aCons (sC (.str "fn")) (aCons (sVar 3) (aCons (sCall (c f_law_normal) [true, true, true] (aCons (sVar 0) (aCons (sOp2 addD (sVar 1) (sLst (aCons (sVar 3) aNil))) (aCons (sOp2 subD (sVar 2) (sC (.int 1))) aNil)))) aNil)))))) sSkip) [.par (boxD cells k q), .val (namesD ns), .val (.int (most : Nat)), .un, .un, .un, .un, .un] = .nxt [.par (boxD cells k1 q1), .val (namesD ns), .val (.int (most : Nat)), .un, .un, .un, .un, .un] →
      (k1 = k ∨ 2 ≤ most) → ∃ (t : Tm) (k' : Nat) (q' : Int), fn_law_normal c [.par (boxD cells k q), .val (namesD ns), .val (.int (most : Nat))] = .ret (.val t.D) [.par (boxD cells k' q'), .val (namesD ns), .val (.int (most : Nat))] ∧ t.size ≤ most ∧ t.still ∧ (∀ x ∈ t.names, A x) ∧ k ≤ k' ∧ k' ≤ k + 20 * most := fun k1 q1 c1 c2 e hk1 => by
    obtain ⟨t, s, e2, ⟨k', q', hs, b1, b2⟩, a1, a2, a3⟩ := normal_main A c M hp hn (cells := cells) (k0 := k1) (q0 := q1) hm h1 hns hl hA (by omega)
    refine ⟨t, k', q', run_val rfl ?_ hs, a1, a2, a3, by omega, by omega⟩
    unfold bd_law_normal
    exact (seq_nxt e).trans e2
  by_cases h2 : most < 2
  · have d1 : decide ((1 : Int) < ((most : Nat) : Int)) = false := decide_eq_false (by omega)
    exact fin k q (Nat.le_refl _) (Nat.le_succ _) (by simp_arith [d1]) (.inl rfl)
  · have d1 : decide ((1 : Int) < ((most : Nat) : Int)) = true := decide_eq_true (by omega)
    obtain ⟨r, k1, q1, e1, dr, b1, b2⟩ := hp cells k q 3 (by omega) (by decide)
    have e1 : c f_law_pick [.par (boxD cells k q), .val (.int 3)] = .ret (.val (.int (r : Nat))) [.par (boxD cells k1 q1), .val (.int 3)] := e1
    by_cases hr : r = 0
    · subst hr
      have e1 : c f_law_pick [.par (boxD cells k q), .val (.int 3)] = .ret (.val (.int 0)) [.par (boxD cells k1 q1), .val (.int 3)] := e1
      obtain ⟨r4, k2, q2, e2, dr4, b3, b4⟩ := hp cells k1 q1 4 (by omega) (by decide)
      have hr4 : r4 < 4 := by rcases dr4 with h | h <;> omega
      have e2 : c f_law_pick [.par (boxD cells k1 q1), .val (.int 4)] = .ret (.val (.int (r4 : Nat))) [.par (boxD cells k2 q2), .val (.int 4)] := e2
      obtain ⟨x, e3, ax⟩ : ∃ x : Str, atD (.lst [.str "x", .str "y", .str "x1", .str "u"]) (.int (r4 : Nat)) = some (.val (.str x)) ∧ A x := by
        rcases (show r4 = 0 ∨ r4 = 1 ∨ r4 = 2 ∨ r4 = 3 by omega) with rfl | rfl | rfl | rfl
        · exact ⟨_, at_lst (by rfl), hx⟩
        · exact ⟨_, at_lst (by rfl), hy⟩
        · exact ⟨_, at_lst (by rfl), hx1⟩
        · exact ⟨_, at_lst (by rfl), hu⟩
      obtain ⟨t, k3, q3, e4, s1, s2, s3, b5, b6⟩ := hn cells k2 q2 (ns ++ [x]) (most - 1) (by omega) (by omega) (by simp) (by rw [List.length_append, List.length_singleton]; omega) (fun y hy' => by
        rcases List.mem_append.mp hy' with h | h
        · exact hA y h
        · rw [List.mem_singleton.mp h]; exact ax) (by omega)
      have en : namesD (ns ++ [x]) = .lst (ns.map Dv.D.str ++ [.str x]) := by unfold namesD; rw [List.map_append]; rfl
      rw [en] at e4
      have e4 : c f_law_normal [.par (boxD cells k2 q2), .val (.lst (ns.map Dv.D.str ++ [.str x])), .val (.int (((most : Nat) : Int) - 1))] = .ret (.val t.D) [.par (boxD cells k3 q3), .val (.lst (ns.map Dv.D.str ++ [.str x])), .val (.int (((most : Nat) : Int) - 1))] := by
        rw [show ((most : Nat) : Int) - 1 = ((most - 1 : Nat) : Int) by omega]; exact e4
      have a1 : addD (.lst (ns.map Dv.D.str)) (.lst [.str x]) = some (.own (.lst (ns.map Dv.D.str ++ [.str x]))) := addD_lst (by rw [List.length_map, List.length_singleton]; exact LIM_le (by omega))
      have l4 : (4 : Nat) ≤ LIM := LIM_le (by decide)
      have l3 : (3 : Nat) ≤ LIM := LIM_le (by decide)
      have l1 := lim1
      refine ⟨.fn x t, k3, q3, run_val rfl (s := [.par (boxD cells k3 q3), .val (namesD ns), .val (.int (most : Nat)), .val (.str x), .un, .un, .un, .un]) ?_ rfl, by rw [show (Tm.fn x t).size = t.size + 1 from rfl]; omega, still_fn s2, fun y hy' => ?_, by omega, by omega⟩
      · unfold bd_law_normal
        refine seq_ret ?_
        rw [show (Tm.fn x t).D = .tup [.str "fn", .str x, t.D] from rfl]
        unfold namesD
        simp_arith [d1, e1, e2, l4, e3, a1, l1, e4, l3]
      · rcases List.mem_cons.mp (show y ∈ x :: t.names from hy') with rfl | h
        · exact ax
        · exact s3 y h
    · have z : (((r : Nat) : Int) == 0) = false := by simp; omega
      exact fin k1 q1 b1 b2 (by simp_arith [d1, e1, z]) (.inr (by omega))
end Pg
namespace Dv
open PySem L2
mutual
def D.ts : D → Bool
  | .str _ => true
  | .tup l => D.tsAll l
  | _ => false
def D.tsAll : List D → Bool
  | [] => true
  | d :: l => D.ts d && D.tsAll l
end
mutual
theorem ts_eqv : ∀ (a b : D), D.ts a = true → D.ts b = true → eqvD a b = true → a = b
  | .str x, b, _, hb, h => by
    cases b with
    | str y => unfold eqvD at h; rw [beq_iff_eq.mp h]
    | tup m => unfold eqvD at h; cases h
    | _ => unfold D.ts at hb; cases hb
  | .tup l, b, ha, hb, h => by
    cases b with
    | str y => unfold eqvD at h; cases h
    | tup m =>
      unfold eqvD at h
      unfold D.ts at ha hb
      rw [ts_eqvL l m ha hb h]
    | _ => unfold D.ts at hb; cases hb
  | .non, _, h, _, _ => by unfold D.ts at h; cases h
  | .bl _, _, h, _, _ => by unfold D.ts at h; cases h
  | .int _, _, h, _, _ => by unfold D.ts at h; cases h
  | .lst _, _, h, _, _ => by unfold D.ts at h; cases h
  | .dct _ _, _, h, _, _ => by unfold D.ts at h; cases h
  | .exc _ _, _, h, _, _ => by unfold D.ts at h; cases h
  | .ty _, _, h, _, _ => by unfold D.ts at h; cases h
  | .cls _, _, h, _, _ => by unfold D.ts at h; cases h
  | .scr _, _, h, _, _ => by unfold D.ts at h; cases h
theorem ts_eqvL : ∀ (l m : List D), D.tsAll l = true → D.tsAll m = true → eqvL l m = true → l = m
  | [], m, _, _, h => by
    cases m with
    | nil => rfl
    | cons e m => unfold eqvL at h; cases h
  | d :: l, m, ha, hb, h => by
    cases m with
    | nil => unfold eqvL at h; cases h
    | cons e m =>
      unfold eqvL at h
      unfold D.tsAll at ha hb
      rw [Bool.and_eq_true] at ha hb h
      rw [ts_eqv d e ha.1 hb.1 h.1, ts_eqvL l m ha.2 hb.2 h.2]
end
mutual
theorem ts_py : ∀ d : D, D.ts d = true → D.isPy d = true
  | .str _, _ => rfl
  | .tup l, h => by unfold D.ts at h; unfold D.isPy; exact ts_pyL l h
  | .non, h => by unfold D.ts at h; cases h
  | .bl _, h => by unfold D.ts at h; cases h
  | .int _, h => by unfold D.ts at h; cases h
  | .lst _, h => by unfold D.ts at h; cases h
  | .dct _ _, h => by unfold D.ts at h; cases h
  | .exc _ _, h => by unfold D.ts at h; cases h
  | .ty _, h => by unfold D.ts at h; cases h
  | .cls _, h => by unfold D.ts at h; cases h
  | .scr _, h => by unfold D.ts at h; cases h
theorem ts_pyL : ∀ l : List D, D.tsAll l = true → D.isPyAll l = true
  | [], _ => rfl
  | d :: l, h => by
    unfold D.tsAll at h
    rw [Bool.and_eq_true] at h
    unfold D.isPyAll
    rw [ts_py d h.1, ts_pyL l h.2]; rfl
end
abbrev leB (a b : D) : Bool := PySem.W.dataLe false toP a b
theorem le_total : PySem.W.TotalLe leB := PySem.W.sortLe_total _ _ _
theorem leB_ltB (a b : D) : leB a b = !ltB b a := rfl
theorem le_antisymm {a b : D} (ha : D.ts a = true) (hb : D.ts b = true) (al : PySem.W.alike (toP a) (toP b) = true) (h1 : leB a b = true) (h2 : leB b a = true) : a = b := by
  have e1 : PyProof.Rows.lexLt PyProof.Rows.itemOrd (PySem.W.keyToks (toP b)) (PySem.W.keyToks (toP a)) = false := by
    have := leB_ltB a b
    rw [h1] at this
    exact (Bool.not_eq_true' _).mp this.symm
  have e2 : PyProof.Rows.lexLt PyProof.Rows.itemOrd (PySem.W.keyToks (toP a)) (PySem.W.keyToks (toP b)) = false := by
    have := leB_ltB b a
    rw [h2] at this
    exact (Bool.not_eq_true' _).mp this.symm
  have et : PySem.W.keyToks (toP a) = PySem.W.keyToks (toP b) := (PyProof.Rows.listOrd PyProof.Rows.itemOrd).total _ _ e2 e1
  cases he : PyData.eqv (toP a) (toP b) with
  | true =>
    rw [eqv_py a b (toPy_isPy (ts_py a ha)) (toPy_isPy (ts_py b hb))] at he
    exact ts_eqv a b ha hb he
  | false =>
    have q := (PySem.W.toks_eqv _ _ al).2 he [] [.inl 0]
    rw [et, PySem.W.lex_pre] at q
    have z := (PyProof.Rows.listOrd PyProof.Rows.itemOrd).irrefl (PySem.W.keyToks (toP b))
    have z : PyProof.Rows.lexLt PyProof.Rows.itemOrd (PySem.W.keyToks (toP b)) (PySem.W.keyToks (toP b)) = false := z
    rw [z] at q
    exact absurd q (by decide)
theorem sort_perm {l m : List D} (hp : l.Perm m) (hts : ∀ d ∈ l, D.ts d = true) (hal : ∀ d ∈ l, ∀ e ∈ l, PySem.W.alike (toP d) (toP e) = true) : sortL l = sortL m := by
  have p1 : (sortL l).Perm (sortL m) := (List.mergeSort_perm l _).trans (hp.trans (List.mergeSort_perm m _).symm)
  refine List.Perm.eq_of_pairwise (le := fun a b => leB a b = true) (fun a b ha hb h1 h2 => ?_) (PySem.W.sort_pairwise le_total l) (PySem.W.sort_pairwise le_total m) p1
  have ma := (List.mergeSort_perm l _).mem_iff.mp ha
  have mb := hp.symm.mem_iff.mp ((List.mergeSort_perm m _).mem_iff.mp hb)
  exact le_antisymm (hts a ma) (hts b mb) (hal a ma b mb) h1 h2
end Dv
namespace Dv
open PySem L2
def Turn (g : G) (t : T) (e : E) (vs : List Nat) (w : Sto) (d : D) (p : Bool) (x : D) : Prop :=
  ∃ u s2, g d w = some u ∧ t u = .ok p s2 ∧ (p = false → wipeS s2 vs = w) ∧ (p = true → ∃ o s3 s4, e s2 = .ok o s3 ∧ takeO o s3 = .ok x s4 ∧ wipeS s4 vs = w)
theorem lcM_run {g g1 : G} {t1 : T} {f1 : Ws} {e : E} {vs vs1 : List Nat} {I : D → List D} {P : D → D → Bool} {F : D → D → D} {w : Sto} (hsub : ∀ i ∈ vs1, i ∈ vs) : ∀ (ds acc : List D) (s : Sto), wipeS s vs = w → acc.length + (ds.map fun d => (I d).length).sum ≤ LIM →
    (∀ d ∈ ds, ∃ u s3, g d w = some u ∧ f1 u = .ok (I d) s3 ∧ wipeS (wipeS s3 vs1) vs = w ∧ ∀ x ∈ I d, Turn g1 t1 e vs1 (wipeS s3 vs1) x (P d x) (F d x)) →
    ∃ s', lcM g tYesT f1 (lcL g1 t1 e vs1) vs ds acc s = .ok (acc ++ ds.flatMap fun d => ((I d).filter (P d)).map (F d)) s' ∧ wipeS s' vs = w
  | [], acc, s, hs, _, _ => ⟨s, by unfold lcM; simp, hs⟩
  | d :: ds, acc, s, hs, hl, h => by
    obtain ⟨u, s3, e1, e2, e3, e4⟩ := h d List.mem_cons_self
    rw [List.map_cons, List.sum_cons] at hl
    obtain ⟨s4, q1, q2⟩ := lc_run (g := g1) (t := t1) (e := e) (vs := vs1) (P := P d) (F := F d) (w := wipeS s3 vs1) (I d) acc s3 rfl (by omega) e4
    have hw : wipeS s4 vs = w := by rw [← wipeS_sub hsub, q2]; exact e3
    have hlen : (acc ++ ((I d).filter (P d)).map (F d)).length ≤ acc.length + (I d).length := by
      rw [List.length_append, List.length_map]
      have := List.length_filter_le (P d) (I d)
      omega
    obtain ⟨s', r1, r2⟩ := lcM_run hsub ds (acc ++ ((I d).filter (P d)).map (F d)) s4 hw (by omega) fun d hd => h d (List.mem_cons_of_mem _ hd)
    refine ⟨s', ?_, r2⟩
    unfold lcM
    rw [hs, e1]
    simp only
    rw [show tYesT u = .ok true u from rfl, noX_ok, R.bind_ok, if_pos rfl, e2, noX_ok, R.bind_ok, q1, R.bind_ok, r1, List.flatMap_cons, List.append_assoc]
theorem lc2_of {f f1 : Ws} {g g1 : G} {t1 : T} {e : E} {vs vs1 : List Nat} {I : D → List D} {P : D → D → Bool} {F : D → D → D} {s s1 w fin : Sto} {ds : List D} (hsub : ∀ i ∈ vs1, i ∈ vs) (hf : f s = .ok ds s1) (hw : wipeS s1 vs = w) (hl : (ds.map fun d => (I d).length).sum ≤ LIM)
    (h : ∀ d ∈ ds, ∃ u s3, g d w = some u ∧ f1 u = .ok (I d) s3 ∧ wipeS (wipeS s3 vs1) vs = w ∧ ∀ x ∈ I d, Turn g1 t1 e vs1 (wipeS s3 vs1) x (P d x) (F d x)) (hfin : restS s1 w vs = fin) :
    sLc2 f g tYesT f1 g1 t1 e vs vs1 s = .ok (.own (.lst (ds.flatMap fun d => ((I d).filter (P d)).map (F d)))) fin := by
  obtain ⟨s', e1, e2⟩ := lcM_run (g := g) (g1 := g1) (t1 := t1) (f1 := f1) (e := e) hsub ds [] s1 hw (by simpa using hl) h
  unfold sLc2
  rw [hf, R.bind_ok, e1, R.bind_ok, List.nil_append, restS_wipe, e2, hfin]
end Dv
namespace Dv
open PySem L2
structure Fam (l : List D) : Prop where
  ts : ∀ d ∈ l, D.ts d = true
  dp : ∀ d ∈ l, D.dep d ≤ 140
  al : ∀ d ∈ l, ∀ e ∈ l, PySem.W.alike (toP d) (toP e) = true
theorem ts_non {d : D} (h : D.ts d = true) : nonD d = false := by
  cases d <;> first | rfl | (unfold D.ts at h; cases h)
theorem Fam.lt {l : List D} (F : Fam l) {d e : D} (hd : d ∈ l) (he : e ∈ l) : ltOk d e = true := by
  unfold ltOk
  rw [ts_py d (F.ts d hd), ts_py e (F.ts e he), F.al d hd e he, ts_non (F.ts d hd), ts_non (F.ts e he)]
  have := F.dp d hd
  have h : min (D.dep d) (D.dep e) ≤ DEEP := Nat.le_trans (Nat.min_le_left _ _) (Nat.le_trans this (by decide))
  rw [decide_eq_true h]
  rfl
theorem Fam.ltD {l : List D} (F : Fam l) {d e : D} (hd : d ∈ l) (he : e ∈ l) : ltD d e = some (.val (.bl (ltB d e))) := by
  unfold Dv.ltD; rw [F.lt hd he]; rfl
theorem Fam.leD {l : List D} (F : Fam l) {d e : D} (hd : d ∈ l) (he : e ∈ l) : leD d e = some (.val (.bl (!ltB e d))) := by
  unfold Dv.leD; rw [F.lt hd he]; rfl
def lastD (l : List D) : D := l.getLastD .non
def okNext (bag : List D) (one : D) : Bool := bag.isEmpty || !ltB one (lastD bag)
def bagStep (ch : List D) (rows : List (List D)) : List (List D) := rows.flatMap fun row => (ch.filter (okNext row)).map fun one => row ++ [one]
def bagsN (ch : List D) : Nat → List (List D) × List (List D)
  | 0 => ([[]], [[]])
  | n + 1 => ((bagsN ch n).1 ++ bagStep ch (bagsN ch n).2, bagStep ch (bagsN ch n).2)
theorem bagStep_mem {ch : List D} {rows : List (List D)} {b : List D} (h : b ∈ bagStep ch rows) : ∃ r one, r ∈ rows ∧ one ∈ ch ∧ b = r ++ [one] := by
  unfold bagStep at h
  obtain ⟨r, hr, hb⟩ := List.mem_flatMap.mp h
  obtain ⟨one, ho, rfl⟩ := List.mem_map.mp hb
  exact ⟨r, one, hr, (List.mem_filter.mp ho).1, rfl⟩
theorem bagsN_mem {ch : List D} : ∀ {n : Nat} {b : List D}, (b ∈ (bagsN ch n).1 ∨ b ∈ (bagsN ch n).2) → b.length ≤ n ∧ ∀ d ∈ b, d ∈ ch
  | 0, b, h => by
    have : b = [] := by
      rcases h with h | h
      · exact List.mem_singleton.mp h
      · exact List.mem_singleton.mp h
    subst this
    exact ⟨Nat.le_refl _, fun d hd => (nomatch hd)⟩
  | n + 1, b, h => by
    have step : b ∈ bagStep ch (bagsN ch n).2 → b.length ≤ n + 1 ∧ ∀ d ∈ b, d ∈ ch := fun h => by
      obtain ⟨r, one, hr, ho, rfl⟩ := bagStep_mem h
      obtain ⟨h1, h2⟩ := bagsN_mem (ch := ch) (.inr hr)
      refine ⟨by rw [List.length_append, List.length_singleton]; omega, fun d hd => ?_⟩
      rcases List.mem_append.mp hd with hd | hd
      · exact h2 d hd
      · rw [List.mem_singleton.mp hd]; exact ho
    rcases h with h | h
    · rcases List.mem_append.mp (show b ∈ (bagsN ch n).1 ++ bagStep ch (bagsN ch n).2 from h) with h | h
      · obtain ⟨h1, h2⟩ := bagsN_mem (.inl h)
        exact ⟨by omega, h2⟩
      · exact step h
    · exact step h
theorem lastD_eq {b : List D} (h : b ≠ []) : lastD b = b.getLast h := by
  unfold lastD
  cases b with
  | nil => exact absurd rfl h
  | cons x r => rw [List.getLastD_cons, ← List.getLast_eq_getLastD]
theorem last_mem {b : List D} (h : b ≠ []) : lastD b ∈ b := by rw [lastD_eq h]; exact List.getLast_mem h
theorem at_last {b : List D} (h : b ≠ []) : atD (.tup b) (.int (-1)) = some (.val (lastD b)) := by
  have hp : 0 < b.length := List.length_pos_iff.mpr h
  show (atI b (-1)).map Opd.val = _
  have e : ixN b.length (-1) = some (b.length - 1) := by
    unfold ixN
    rw [if_neg (by omega), if_pos (by omega)]
    congr 1
    omega
  unfold atI
  rw [e, Option.bind_some, List.getElem?_eq_getElem (by omega), lastD_eq h, List.getLast_eq_getElem]
  rfl
end Dv
namespace Pg
open PySem L2 Dv
def unT : Dv.D → List Dv.D
  | .tup l => l
  | _ => []
theorem eq_nil (bag : List Dv.D) (h : D.isPyAll bag = true) : eqD (.tup bag) (.tup []) = some (.val (.bl bag.isEmpty)) := by
  have e : eqOk (.tup bag) (.tup []) = true := by
    unfold eqOk
    rw [show D.isPy (.tup bag) = D.isPyAll bag from rfl, h, show D.isPy (.tup []) = true from rfl]
    have : min (D.dep (.tup bag)) (D.dep (.tup [])) ≤ DEEP := Nat.le_trans (Nat.min_le_right _ _) (by decide)
    rw [decide_eq_true this]; rfl
  unfold eqD
  rw [e, if_pos rfl]
  cases bag <;> rfl
theorem isPyAll_of {l : List Dv.D} (h : ∀ d ∈ l, D.isPy d = true) : D.isPyAll l = true := by
  induction l with
  | nil => rfl
  | cons d l ih =>
    unfold D.isPyAll
    rw [h d List.mem_cons_self, ih fun d hd => h d (List.mem_cons_of_mem _ hd)]; rfl
theorem ext_ok {l m : List Dv.D} (h : l.length + m.length ≤ LIM) : fExtend (.lst l) [.lst m] = some (.lst (l ++ m), .non) := by
  unfold fExtend; simp only; rw [if_pos h]
theorem flat_bags (ch : List Dv.D) (rows : List (List Dv.D)) : ((rows.map Dv.D.tup).flatMap fun d => (ch.filter (okNext (unT d))).map fun x => Dv.D.tup (unT d ++ [x])) = (bagStep ch rows).map Dv.D.tup := by
  unfold bagStep
  induction rows with
  | nil => rfl
  | cons r rows ih =>
    rw [List.map_cons, List.flatMap_cons, List.flatMap_cons, List.map_append, ih, List.map_map]
    rfl
theorem bags_turn (c : Nat → Fn) {ch : List Dv.D} (F : Fam ch) {n : Nat} {found longest : List (List Dv.D)} {s3 u4 : Slot} (h3 : s3 = .own (.lst (longest.map .tup)) ∨ s3 = .val (.lst (longest.map .tup))) (hin : ∀ b ∈ longest, ∀ d ∈ b, d ∈ ch) (hl : found.length + longest.length * ch.length < LIM) (hb : ∀ b ∈ longest, b.length < LIM) :
    bd_bags_up_to_b1 c [.val (.lst ch), .val (.int (n : Nat)), .own (.lst (found.map .tup)), s3, u4, .un, .un]
      = .nxt [.val (.lst ch), .val (.int (n : Nat)), .own (.lst ((found ++ bagStep ch longest).map .tup)), .val (.lst ((bagStep ch longest).map .tup)), u4, .un, .un] := by
  have e : ∀ b ∈ longest, D.isPyAll b = true := fun b hb => isPyAll_of fun d hd => ts_py d (F.ts d (hin b hb d hd))
  have hlen : (bagStep ch longest).length ≤ longest.length * ch.length := by
    unfold bagStep
    clear hin hl hb e h3
    induction longest with
    | nil => exact Nat.zero_le _
    | cons r rows ih =>
      rw [List.flatMap_cons, List.length_append, List.length_map, List.length_cons, Nat.succ_mul]
      have := List.length_filter_le (okNext r) ch
      omega
  have hlast : ∀ b ∈ longest, ∀ x ∈ ch, ∀ (u : Slot) (st : Sto), st = [.val (.lst ch), .val (.int (n : Nat)), .own (.lst (found.map .tup)), .val (.lst (longest.map .tup)), u4, .val (.tup b), .val x] →
      tOr (tB (sOp2 eqD (sVar 5) (sTup aNil))) (tNot (tB (sOp2 ltD (sVar 6) (sOp2 atD (sVar 5) (sOp1 negD (sC (.int 1))))))) st = .ok (okNext b x) st := fun b hb x hx u st hs => by
    subst hs
    have l0 : (0 : Nat) ≤ LIM := LIM_le (by decide)
    have q := eq_nil b (e b hb)
    cases hbe : b with
    | nil =>
      subst hbe
      have q : eqD (.tup []) (.tup []) = some (.val (.bl true)) := rfl
      simp_arith [l0, q]
      rfl
    | cons y z =>
      have hne : b ≠ [] := by rw [hbe]; exact fun z => (nomatch z)
      have q2 := at_last hne
      have q3 := F.ltD hx (hin b hb _ (last_mem hne))
      have q4 : b.isEmpty = false := by rw [hbe]; rfl
      rw [← hbe]
      rw [q4] at q
      have q5 : okNext b x = !ltB x (lastD b) := by unfold okNext; rw [q4]; rfl
      rw [q5]
      simp_arith [l0, q, q2, q3]
  have lc := lc2_of (f := wSeq (sVar 3)) (g := gN 5) (f1 := wSeq (sVar 0)) (g1 := gN 6) (t1 := tOr (tB (sOp2 eqD (sVar 5) (sTup aNil))) (tNot (tB (sOp2 ltD (sVar 6) (sOp2 atD (sVar 5) (sOp1 negD (sC (.int 1)))))))) (e := sOp2 addD (sVar 5) (sTup (aCons (sVar 6) aNil))) (vs := [5, 6]) (vs1 := [6])
    (I := fun _ => ch) (P := fun d => okNext (unT d)) (F := fun d x => .tup (unT d ++ [x])) (s := [.val (.lst ch), .val (.int (n : Nat)), .own (.lst (found.map .tup)), s3, u4, .un, .un]) (s1 := [.val (.lst ch), .val (.int (n : Nat)), .own (.lst (found.map .tup)), .val (.lst (longest.map .tup)), u4, .un, .un]) (w := [.val (.lst ch), .val (.int (n : Nat)), .own (.lst (found.map .tup)), .val (.lst (longest.map .tup)), u4, .un, .un]) (fin := [.val (.lst ch), .val (.int (n : Nat)), .own (.lst (found.map .tup)), .val (.lst (longest.map .tup)), u4, .un, .un]) (ds := longest.map .tup)
    (by decide) (by rcases h3 with rfl | rfl <;> rfl) rfl (by
      rw [List.map_map, show ((fun _ : Dv.D => ch.length) ∘ Dv.D.tup) = fun _ : List Dv.D => ch.length from rfl]
      have : (longest.map fun _ : List Dv.D => ch.length).sum = longest.length * ch.length := by
        clear hin hl hb e hlen hlast h3
        induction longest with
        | nil => simp
        | cons r rows ih => rw [List.map_cons, List.sum_cons, ih, List.length_cons, Nat.succ_mul]; omega
      omega)
    (fun d hd => by
      obtain ⟨b, hb', rfl⟩ := List.mem_map.mp hd
      refine ⟨[.val (.lst ch), .val (.int (n : Nat)), .own (.lst (found.map .tup)), .val (.lst (longest.map .tup)), u4, .val (.tup b), .un], [.val (.lst ch), .val (.int (n : Nat)), .own (.lst (found.map .tup)), .val (.lst (longest.map .tup)), u4, .val (.tup b), .un], rfl, rfl, rfl, fun x hx => ?_⟩
      refine ⟨[.val (.lst ch), .val (.int (n : Nat)), .own (.lst (found.map .tup)), .val (.lst (longest.map .tup)), u4, .val (.tup b), .val x], [.val (.lst ch), .val (.int (n : Nat)), .own (.lst (found.map .tup)), .val (.lst (longest.map .tup)), u4, .val (.tup b), .val x], rfl, hlast b hb' x hx .un _ rfl, fun _ => rfl, fun _ => ⟨.val (.tup (b ++ [x])), [.val (.lst ch), .val (.int (n : Nat)), .own (.lst (found.map .tup)), .val (.lst (longest.map .tup)), u4, .val (.tup b), .val x], [.val (.lst ch), .val (.int (n : Nat)), .own (.lst (found.map .tup)), .val (.lst (longest.map .tup)), u4, .val (.tup b), .val x], ?_, rfl, rfl⟩⟩
      have l1 := lim1
      have a := addD_tup (l := b) (m := [x]) (by have := hb b hb'; rw [List.length_singleton]; omega)
      simp_arith [l1, a]) rfl
  rw [flat_bags] at lc
  have x := ext_ok (l := found.map Dv.D.tup) (m := (bagStep ch longest).map Dv.D.tup) (by rw [List.length_map, List.length_map]; omega)
  rw [← List.map_append] at x
  unfold bd_bags_up_to_b1
  rcases h3 with rfl | rfl
  all_goals simp_arith [lc, x]
end Pg
namespace Pg
open PySem L2 Dv
theorem bags_up_to_ok (c : Nat → Fn) {ch : List Dv.D} (F : Fam ch) (n : Nat) (hn : n < LIM) (hb : ∀ k, k < n → (bagsN ch k).1.length + (bagsN ch k).2.length * ch.length < LIM) :
    PuO (fn_bags_up_to c) [.val (.lst ch), .val (.int (n : Nat))] (.lst ((bagsN ch n).1.map .tup)) := by
  have l0 : (0 : Nat) ≤ LIM := LIM_le (by decide)
  have l1 := lim1
  have t1 : sAsg 2 (sLst (aCons (sTup aNil) aNil)) [.val (.lst ch), .val (.int (n : Nat)), .un, .un, .un, .un, .un] = .nxt [.val (.lst ch), .val (.int (n : Nat)), .own (.lst [.tup []]), .un, .un, .un, .un] := by simp_arith [l0, l1]
  have t2 : sAsg 3 (sLst (aCons (sTup aNil) aNil)) [.val (.lst ch), .val (.int (n : Nat)), .own (.lst [.tup []]), .un, .un, .un, .un] = .nxt [.val (.lst ch), .val (.int (n : Nat)), .own (.lst [.tup []]), .own (.lst [.tup []]), .un, .un, .un] := by simp_arith [l0, l1]
  have r := rng1_nat (n := n) (by omega)
  have hf : wArgs rng1 (aCons (sVar 1) aNil) [.val (.lst ch), .val (.int (n : Nat)), .own (.lst [.tup []]), .own (.lst [.tup []]), .un, .un, .un] = .ok ((List.range n).map fun k => .int (k : Nat)) [.val (.lst ch), .val (.int (n : Nat)), .own (.lst [.tup []]), .own (.lst [.tup []]), .un, .un, .un] := by simp_arith [r]
  obtain ⟨s', e, s3, u4, h3, rfl⟩ := for_list (g := bd_bags_up_to_g1) (b := bd_bags_up_to_b1 c) (fun k s => ∃ s3 u4, (s3 = .own (.lst ((bagsN ch k).2.map .tup)) ∨ s3 = .val (.lst ((bagsN ch k).2.map .tup))) ∧ s = [.val (.lst ch), .val (.int (n : Nat)), .own (.lst ((bagsN ch k).1.map .tup)), s3, u4, .un, .un])
    (ds := (List.range n).map fun k => .int (k : Nat)) (s := [.val (.lst ch), .val (.int (n : Nat)), .own (.lst [.tup []]), .own (.lst [.tup []]), .un, .un, .un]) 0
    (fun i hi s ⟨s3, u4, h3, e⟩ => by
      subst e
      rw [List.length_map, List.length_range] at hi
      rw [Nat.zero_add] at h3 ⊢
      have q := bags_turn c F (n := n) (found := (bagsN ch i).1) (longest := (bagsN ch i).2) (s3 := s3) (u4 := .val (.int (i : Nat))) h3 (fun b hb d hd => (bagsN_mem (.inr hb)).2 d hd) (hb i hi) (fun b hb => by have := (bagsN_mem (.inr hb)).1; omega)
      refine ⟨[.val (.lst ch), .val (.int (n : Nat)), .own (.lst ((bagsN ch i).1.map .tup)), s3, .val (.int (i : Nat)), .un, .un], _, ?_, q, _, _, .inr rfl, rfl⟩
      rw [List.getElem_map, List.getElem_range]
      rfl)
    ⟨_, _, .inl rfl, rfl⟩
  rw [List.length_map, List.length_range, Nat.zero_add] at e
  unfold PuO fn_bags_up_to
  refine run_slot rfl (i := 2) (s := [.val (.lst ch), .val (.int (n : Nat)), .own (.lst ((bagsN ch n).1.map .tup)), s3, u4, .un, .un]) ?_ rfl rfl
  unfold bd_bags_up_to
  exact (seq_nxt t1).trans ((seq_nxt t2).trans ((seq_nxt (for_of hf e)).trans rfl))
end Pg
namespace Pg
open PySem L2 Dv
def shutD : Dv.D := .tup [.str "shut"]
def innD (p : Dv.D) : Dv.D := .tup [.str "in", p]
def headD (row : List Dv.D) : Dv.D := .tup [.str "head", .tup row]
def bagsOf (n : Nat) (plans : List Dv.D) : List Dv.D := (bagsN (sortL plans) n).1.map .tup
structure PR where
  plans : List Dv.D
  pre : List (List Dv.D)
  rows : List (List Dv.D)
def addRows (rows : List (List Dv.D)) (bags : List Dv.D) : List (List Dv.D) := rows.flatMap fun row => bags.map fun bag => row ++ [bag]
def pr (n : Nat) : Tm → PR
  | .nm _ => ⟨[headD []], [[]], [[]]⟩
  | .fn _ b => ⟨shutD :: (pr n b).plans.map innD, [[]], [[]]⟩
  | .ca f a => ⟨((pr n f).pre ++ addRows (pr n f).rows (bagsOf n (pr n a).plans)).map headD, (pr n f).pre ++ addRows (pr n f).rows (bagsOf n (pr n a).plans), addRows (pr n f).rows (bagsOf n (pr n a).plans)⟩
theorem pr_head (n : Nat) {t : Tm} (h : t.isFn = false) : (pr n t).plans = (pr n t).pre.map headD := by
  cases t with
  | nm x => rfl
  | fn x b => cases h
  | ca f a => rfl
def Alk (r s : List Dv.D) : Prop := PySem.W.alikeAll (r.map toP) (s.map toP) = true
theorem addRows_mem {rows : List (List Dv.D)} {bags : List Dv.D} {r : List Dv.D} (h : r ∈ addRows rows bags) : ∃ r0 b, r0 ∈ rows ∧ b ∈ bags ∧ r = r0 ++ [b] := by
  unfold addRows at h
  obtain ⟨r0, h0, h⟩ := List.mem_flatMap.mp h
  obtain ⟨b, hb, rfl⟩ := List.mem_map.mp h
  exact ⟨r0, b, h0, hb, rfl⟩
theorem toP_tup {l : List Dv.D} (h : D.isPyAll l = true) : toP (.tup l) = .tuple (l.map toP) := by
  have e := toPy_isPy (d := .tup l) (by unfold D.isPy; exact h)
  unfold D.toPy at e
  simp only [Option.map_eq_some_iff] at e
  obtain ⟨ps, e1, e2⟩ := e
  rw [← e2]
  congr 1
  clear e2
  induction l generalizing ps with
  | nil => cases e1; rfl
  | cons d l ih =>
    unfold D.isPyAll at h
    rw [Bool.and_eq_true] at h
    unfold D.toPyAll at e1
    split at e1
    · rename_i p r h1 h2
      cases e1
      rw [List.map_cons, toP_of h1, ih h.2 r h2]
    · cases e1
theorem toP_str (x : Str) : toP (.str x) = .str x := rfl
theorem alike_tup {l m : List Dv.D} (hl : D.isPyAll l = true) (hm : D.isPyAll m = true) : PySem.W.alike (toP (.tup l)) (toP (.tup m)) = PySem.W.alikeAll (l.map toP) (m.map toP) := by
  rw [toP_tup hl, toP_tup hm]
  simp [PySem.W.alike]
theorem alike_str (x y : Str) : PySem.W.alike (toP (.str x)) (toP (.str y)) = true := by
  rw [toP_str, toP_str]
  simp [PySem.W.alike]
theorem alk_cons {a b : Dv.D} {l m : List Dv.D} : Alk (a :: l) (b :: m) ↔ PySem.W.alike (toP a) (toP b) = true ∧ Alk l m := by
  unfold Alk
  rw [List.map_cons, List.map_cons, PySem.W.alikeAll, Bool.and_eq_true]
theorem alk_nil_l {m : List Dv.D} : Alk [] m := by unfold Alk; simp [PySem.W.alikeAll]
theorem alk_nil_r {m : List Dv.D} : Alk m [] := by unfold Alk; cases m <;> simp [PySem.W.alikeAll]
theorem alk_app_r : ∀ {r s x : List Dv.D}, Alk r s → r.length ≤ s.length → Alk r (s ++ x)
  | [], s, x, _, _ => alk_nil_l
  | a :: r, [], x, _, h => by simp at h
  | a :: r, b :: s, x, h, hl => by
    obtain ⟨h1, h2⟩ := alk_cons.mp h
    exact alk_cons.mpr ⟨h1, alk_app_r h2 (by simpa using hl)⟩
theorem alk_comm {r s : List Dv.D} (h : Alk r s) : Alk s r := by
  unfold Alk at h ⊢
  rw [PySem.W.alikeAll_comm]; exact h
theorem alk_snoc : ∀ {r s : List Dv.D} {a b : Dv.D}, Alk r s → r.length = s.length → PySem.W.alike (toP a) (toP b) = true → Alk (r ++ [a]) (s ++ [b])
  | [], [], a, b, _, _, h => alk_cons.mpr ⟨h, alk_nil_l⟩
  | x :: r, y :: s, a, b, h, hl, hab => by
    obtain ⟨h1, h2⟩ := alk_cons.mp h
    exact alk_cons.mpr ⟨h1, alk_snoc h2 (by simpa using hl) hab⟩
theorem alk_all {l m : List Dv.D} (h : ∀ a ∈ l, ∀ b ∈ m, PySem.W.alike (toP a) (toP b) = true) : Alk l m := by
  induction l generalizing m with
  | nil => exact alk_nil_l
  | cons a l ih =>
    cases m with
    | nil => exact alk_nil_r
    | cons b m => exact alk_cons.mpr ⟨h a List.mem_cons_self b List.mem_cons_self, ih fun x hx y hy => h x (List.mem_cons_of_mem _ hx) y (List.mem_cons_of_mem _ hy)⟩
end Pg
namespace Pg
open PySem L2 Dv
theorem sortL_mem {l : List Dv.D} {d : Dv.D} : d ∈ sortL l ↔ d ∈ l := (List.mergeSort_perm l _).mem_iff
theorem sortL_len (l : List Dv.D) : (sortL l).length = l.length := (List.mergeSort_perm l _).length_eq
theorem tsAll_cons (d : Dv.D) (l : List Dv.D) : D.tsAll (d :: l) = (D.ts d && D.tsAll l) := by rw [D.tsAll]
theorem ts_tup (l : List Dv.D) : D.ts (.tup l) = D.tsAll l := by rw [D.ts]
theorem depAll_cons (d : Dv.D) (l : List Dv.D) : D.depAll (d :: l) = max (D.dep d) (D.depAll l) := by rw [D.depAll]
theorem dep_tup (l : List Dv.D) : D.dep (.tup l) = D.depAll l + 1 := by rw [D.dep]
theorem tsAll_of {l : List Dv.D} (h : ∀ d ∈ l, D.ts d = true) : D.tsAll l = true := by
  induction l with
  | nil => rfl
  | cons d l ih =>
    rw [tsAll_cons, h d List.mem_cons_self, ih fun d hd => h d (List.mem_cons_of_mem _ hd)]; rfl
theorem tsAll_snoc {l : List Dv.D} {d : Dv.D} (h : D.tsAll l = true) (hd : D.ts d = true) : D.tsAll (l ++ [d]) = true := by
  induction l with
  | nil => rw [List.nil_append, tsAll_cons, hd]; rfl
  | cons a l ih =>
    rw [tsAll_cons, Bool.and_eq_true] at h
    rw [List.cons_append, tsAll_cons, h.1, ih h.2]; rfl
theorem depAll_of {l : List Dv.D} {k : Nat} (h : ∀ d ∈ l, D.dep d ≤ k) : D.depAll l ≤ k := by
  induction l with
  | nil => exact Nat.zero_le _
  | cons d l ih =>
    have h1 := h d List.mem_cons_self
    have h2 := ih fun d hd => h d (List.mem_cons_of_mem _ hd)
    rw [depAll_cons]; omega
theorem depAll_snoc {l : List Dv.D} {d : Dv.D} : D.depAll (l ++ [d]) = max (D.depAll l) (D.dep d) := by
  induction l with
  | nil => rw [List.nil_append, depAll_cons, show D.depAll [] = 0 from rfl]; omega
  | cons a l ih => rw [List.cons_append, depAll_cons, depAll_cons, ih]; omega
theorem alike_of {l m : List Dv.D} (hl : D.tsAll l = true) (hm : D.tsAll m = true) (h : Alk l m) : PySem.W.alike (toP (.tup l)) (toP (.tup m)) = true := by
  rw [alike_tup (ts_pyL l hl) (ts_pyL m hm)]; exact h
theorem ts_head {r : List Dv.D} (h : D.tsAll r = true) : D.ts (headD r) = true := by
  unfold headD
  rw [ts_tup, tsAll_cons, tsAll_cons, ts_tup, h]; rfl
theorem ts_inn {p : Dv.D} (h : D.ts p = true) : D.ts (innD p) = true := by
  unfold innD
  rw [ts_tup, tsAll_cons, tsAll_cons, h]; rfl
theorem dep_head (r : List Dv.D) : D.dep (headD r) = D.depAll r + 2 := by
  unfold headD
  rw [dep_tup, depAll_cons, depAll_cons, dep_tup, show D.dep (.str "head") = 0 from rfl, show D.depAll [] = 0 from rfl]; omega
theorem dep_inn (p : Dv.D) : D.dep (innD p) = D.dep p + 1 := by
  unfold innD
  rw [dep_tup, depAll_cons, depAll_cons, show D.dep (.str "in") = 0 from rfl, show D.depAll [] = 0 from rfl]; omega
structure PrOk (t : Tm) (q : PR) : Prop where
  pts : ∀ d ∈ q.plans, D.ts d = true
  pdp : ∀ d ∈ q.plans, D.dep d ≤ 4 * t.size
  pal : ∀ d ∈ q.plans, ∀ e ∈ q.plans, PySem.W.alike (toP d) (toP e) = true
  pne : ∀ d ∈ q.plans, isNe d = true
  rts : ∀ r ∈ q.pre, D.tsAll r = true
  rdp : ∀ r ∈ q.pre, D.depAll r + 2 ≤ 4 * t.size
  rlen : ∀ r ∈ q.pre, r.length ≤ t.args.length
  rsub : ∀ r ∈ q.rows, r ∈ q.pre
  rfull : ∀ r ∈ q.rows, r.length = t.args.length
  ral : ∀ r ∈ q.pre, ∀ s ∈ q.pre, Alk r s
theorem bagsOf_mem {n : Nat} {plans : List Dv.D} {b : Dv.D} (h : b ∈ bagsOf n plans) : ∃ l, b = .tup l ∧ l.length ≤ n ∧ l ∈ (bagsN (sortL plans) n).1 ∧ ∀ d ∈ l, d ∈ plans := by
  unfold bagsOf at h
  obtain ⟨l, hl, rfl⟩ := List.mem_map.mp h
  obtain ⟨h1, h2⟩ := bagsN_mem (.inl hl)
  exact ⟨l, rfl, h1, hl, fun d hd => sortL_mem.mp (h2 d hd)⟩
theorem alike_head {r s : List Dv.D} (hr : D.tsAll r = true) (hs : D.tsAll s = true) (h : Alk r s) : PySem.W.alike (toP (headD r)) (toP (headD s)) = true := by
  have q : ∀ {x : List Dv.D}, D.tsAll x = true → D.tsAll [.str "head", .tup x] = true := fun hx => by
    have := ts_head hx
    unfold headD at this; rw [ts_tup] at this; exact this
  exact alike_of (q hr) (q hs) (alk_cons.mpr ⟨alike_str _ _, alk_cons.mpr ⟨alike_of hr hs h, alk_nil_l⟩⟩)
theorem prOk (n : Nat) : ∀ t : Tm, PrOk t (pr n t)
  | .nm x => by
    have m : ∀ d ∈ (pr n (.nm x)).plans, d = headD [] := fun d hd => List.mem_singleton.mp hd
    have r : ∀ d ∈ (pr n (.nm x)).pre, d = [] := fun d hd => List.mem_singleton.mp hd
    have r' : ∀ d ∈ (pr n (.nm x)).rows, d = [] := fun d hd => List.mem_singleton.mp hd
    refine ⟨fun d hd => by rw [m d hd]; exact ts_head rfl, fun d hd => by rw [m d hd, dep_head, show (Tm.nm x).size = 1 from rfl]; decide, fun d hd e he => by rw [m d hd, m e he]; exact alike_head rfl rfl alk_nil_l, fun d hd => by rw [m d hd]; rfl, fun d hd => by rw [r d hd]; rfl, fun d hd => by rw [r d hd, show (Tm.nm x).size = 1 from rfl]; decide, fun d hd => by rw [r d hd]; exact Nat.zero_le _, fun d hd => by rw [r' d hd]; exact List.mem_singleton.mpr rfl, fun d hd => by rw [r' d hd]; rfl, fun d hd e he => by rw [r d hd]; exact alk_nil_l⟩
  | .fn x b => by
    have B := prOk n b
    have sz : (Tm.fn x b).size = b.size + 1 := rfl
    have m : ∀ d ∈ (pr n (.fn x b)).plans, d = shutD ∨ ∃ p, p ∈ (pr n b).plans ∧ d = innD p := fun d hd => by
      rcases List.mem_cons.mp (show d ∈ shutD :: (pr n b).plans.map innD from hd) with h | h
      · exact .inl h
      · obtain ⟨p, hp, rfl⟩ := List.mem_map.mp h
        exact .inr ⟨p, hp, rfl⟩
    have r : ∀ d ∈ (pr n (.fn x b)).pre, d = [] := fun d hd => List.mem_singleton.mp hd
    have r' : ∀ d ∈ (pr n (.fn x b)).rows, d = [] := fun d hd => List.mem_singleton.mp hd
    have t1 : D.tsAll [.str "shut"] = true := rfl
    have t2 : ∀ {p : Dv.D}, D.ts p = true → D.tsAll [.str "in", p] = true := fun hp => by
      have := ts_inn hp
      unfold innD at this; rw [ts_tup] at this; exact this
    refine ⟨fun d hd => ?_, fun d hd => ?_, fun d hd e he => ?_, fun d hd => ?_, fun d hd => by rw [r d hd]; rfl, fun d hd => by rw [r d hd, sz, show D.depAll [] = 0 from rfl]; omega, fun d hd => by rw [r d hd]; exact Nat.zero_le _, fun d hd => by rw [r' d hd]; exact List.mem_singleton.mpr rfl, fun d hd => by rw [r' d hd]; rfl, fun d hd e he => by rw [r d hd]; exact alk_nil_l⟩
    · rcases m d hd with rfl | ⟨p, hp, rfl⟩
      · rfl
      · exact ts_inn (B.pts p hp)
    · rcases m d hd with rfl | ⟨p, hp, rfl⟩
      · rw [sz, show D.dep shutD = 1 from rfl]; omega
      · have := B.pdp p hp
        rw [dep_inn, sz]; omega
    · rcases m d hd with rfl | ⟨p, hp, rfl⟩ <;> rcases m e he with rfl | ⟨p', hp', rfl⟩
      · exact alike_of t1 t1 (alk_cons.mpr ⟨alike_str _ _, alk_nil_l⟩)
      · exact alike_of t1 (t2 (B.pts p' hp')) (alk_cons.mpr ⟨alike_str _ _, alk_nil_l⟩)
      · exact alike_of (t2 (B.pts p hp)) t1 (alk_cons.mpr ⟨alike_str _ _, alk_nil_r⟩)
      · exact alike_of (t2 (B.pts p hp)) (t2 (B.pts p' hp')) (alk_cons.mpr ⟨alike_str _ _, alk_cons.mpr ⟨B.pal p hp p' hp', alk_nil_l⟩⟩)
    · rcases m d hd with rfl | ⟨p, hp, rfl⟩ <;> rfl
  | .ca f a => by
    have F := prOk n f
    have A := prOk n a
    have sz : (Tm.ca f a).size = f.size + a.size + 1 := rfl
    have ar : (Tm.ca f a).args.length = f.args.length + 1 := by rw [show (Tm.ca f a).args = f.args ++ [a] from rfl, List.length_append, List.length_singleton]
    have bg : ∀ b ∈ bagsOf n (pr n a).plans, ∃ l, b = .tup l ∧ D.tsAll l = true ∧ D.depAll l ≤ 4 * a.size ∧ ∀ d ∈ l, d ∈ (pr n a).plans := fun b hb => by
      obtain ⟨l, e, _, _, h⟩ := bagsOf_mem hb
      exact ⟨l, e, tsAll_of fun d hd => A.pts d (h d hd), depAll_of fun d hd => A.pdp d (h d hd), h⟩
    have nw : ∀ r ∈ addRows (pr n f).rows (bagsOf n (pr n a).plans), ∃ r0 l, r = r0 ++ [.tup l] ∧ r0 ∈ (pr n f).rows ∧ D.tsAll l = true ∧ D.depAll l ≤ 4 * a.size ∧ ∀ d ∈ l, d ∈ (pr n a).plans := fun r hr => by
      obtain ⟨r0, b, h0, hb, rfl⟩ := addRows_mem hr
      obtain ⟨l, rfl, h1, h2, h3⟩ := bg b hb
      exact ⟨r0, l, rfl, h0, h1, h2, h3⟩
    have pm : ∀ r ∈ (pr n (.ca f a)).pre, r ∈ (pr n f).pre ∨ ∃ r0 l, r = r0 ++ [.tup l] ∧ r0 ∈ (pr n f).rows ∧ D.tsAll l = true ∧ D.depAll l ≤ 4 * a.size ∧ ∀ d ∈ l, d ∈ (pr n a).plans := fun r hr => by
      rcases List.mem_append.mp (show r ∈ (pr n f).pre ++ addRows (pr n f).rows (bagsOf n (pr n a).plans) from hr) with h | h
      · exact .inl h
      · exact .inr (nw r h)
    have rts : ∀ r ∈ (pr n (.ca f a)).pre, D.tsAll r = true := fun r hr => by
      rcases pm r hr with h | ⟨r0, l, rfl, h0, h1, _, _⟩
      · exact F.rts r h
      · exact tsAll_snoc (F.rts r0 (F.rsub r0 h0)) (by rw [ts_tup]; exact h1)
    have rdp : ∀ r ∈ (pr n (.ca f a)).pre, D.depAll r + 2 ≤ 4 * (Tm.ca f a).size := fun r hr => by
      rw [sz]
      rcases pm r hr with h | ⟨r0, l, rfl, h0, _, h2, _⟩
      · have := F.rdp r h
        omega
      · have := F.rdp r0 (F.rsub r0 h0)
        rw [depAll_snoc, show D.dep (.tup l) = D.depAll l + 1 from rfl]
        omega
    have ral : ∀ r ∈ (pr n (.ca f a)).pre, ∀ s ∈ (pr n (.ca f a)).pre, Alk r s := fun r hr s hs => by
      have half : ∀ r ∈ (pr n f).pre, ∀ (s0 l : List Dv.D), s0 ∈ (pr n f).rows → Alk r (s0 ++ [.tup l]) := fun r h s0 l h0 =>
        alk_app_r (F.ral r h s0 (F.rsub s0 h0)) (by rw [F.rfull s0 h0]; exact F.rlen r h)
      rcases pm r hr with h | ⟨r0, l, rfl, h0, h1, _, h3⟩ <;> rcases pm s hs with k | ⟨s0, m, rfl, k0, k1, _, k3⟩
      · exact F.ral r h s k
      · exact half r h s0 m k0
      · exact alk_comm (half s k r0 l h0)
      · exact alk_snoc (F.ral r0 (F.rsub r0 h0) s0 (F.rsub s0 k0)) (by rw [F.rfull r0 h0, F.rfull s0 k0]) (alike_of h1 k1 (alk_all fun d hd e he => A.pal d (h3 d hd) e (k3 e he)))
    have hm : ∀ d ∈ (pr n (.ca f a)).plans, ∃ r, r ∈ (pr n (.ca f a)).pre ∧ d = headD r := fun d hd => by
      obtain ⟨r, hr, rfl⟩ := List.mem_map.mp (show d ∈ (pr n (.ca f a)).pre.map headD from hd)
      exact ⟨r, hr, rfl⟩
    refine ⟨fun d hd => ?_, fun d hd => ?_, fun d hd e he => ?_, fun d hd => ?_, rts, rdp, fun r hr => ?_, fun r hr => ?_, fun r hr => ?_, ral⟩
    · obtain ⟨r, hr, rfl⟩ := hm d hd
      exact ts_head (rts r hr)
    · obtain ⟨r, hr, rfl⟩ := hm d hd
      rw [dep_head]; exact rdp r hr
    · obtain ⟨r, hr, rfl⟩ := hm d hd
      obtain ⟨s, hs, rfl⟩ := hm e he
      exact alike_head (rts r hr) (rts s hs) (ral r hr s hs)
    · obtain ⟨r, hr, rfl⟩ := hm d hd
      rfl
    · rw [ar]
      rcases pm r hr with h | ⟨r0, l, rfl, h0, _⟩
      · have := F.rlen r h
        omega
      · rw [List.length_append, List.length_singleton, F.rfull r0 h0]; exact Nat.le_refl _
    · exact List.mem_append_right _ hr
    · obtain ⟨r0, l, rfl, h0, _⟩ := nw r hr
      rw [List.length_append, List.length_singleton, F.rfull r0 h0, ar]
end Pg
namespace Dv
open PySem L2
theorem lcM_inv {g g1 : G} {t1 : T} {f1 : Ws} {e : E} {vs vs1 : List Nat} {I : D → List D} {P : D → D → Bool} {F : D → D → D} {J : Sto → Prop} (hsub : ∀ i ∈ vs1, i ∈ vs) : ∀ (ds acc : List D) (s : Sto), J (wipeS s vs) → acc.length + (ds.map fun d => (I d).length).sum ≤ LIM →
    (∀ d ∈ ds, ∀ w, J w → ∃ u s3, g d w = some u ∧ f1 u = .ok (I d) s3 ∧ J (wipeS (wipeS s3 vs1) vs) ∧ ∀ x ∈ I d, Turn g1 t1 e vs1 (wipeS s3 vs1) x (P d x) (F d x)) →
    ∃ s', lcM g tYesT f1 (lcL g1 t1 e vs1) vs ds acc s = .ok (acc ++ ds.flatMap fun d => ((I d).filter (P d)).map (F d)) s' ∧ J (wipeS s' vs)
  | [], acc, s, hs, _, _ => ⟨s, by unfold lcM; simp, hs⟩
  | d :: ds, acc, s, hs, hl, h => by
    obtain ⟨u, s3, e1, e2, e3, e4⟩ := h d List.mem_cons_self _ hs
    rw [List.map_cons, List.sum_cons] at hl
    obtain ⟨s4, q1, q2⟩ := lc_run (g := g1) (t := t1) (e := e) (vs := vs1) (P := P d) (F := F d) (w := wipeS s3 vs1) (I d) acc s3 rfl (by omega) e4
    have hw : J (wipeS s4 vs) := by rw [← wipeS_sub hsub, q2]; exact e3
    have hlen : (acc ++ ((I d).filter (P d)).map (F d)).length ≤ acc.length + (I d).length := by
      rw [List.length_append, List.length_map]
      have := List.length_filter_le (P d) (I d)
      omega
    obtain ⟨s', r1, r2⟩ := lcM_inv hsub ds (acc ++ ((I d).filter (P d)).map (F d)) s4 hw (by omega) fun d hd => h d (List.mem_cons_of_mem _ hd)
    refine ⟨s', ?_, r2⟩
    unfold lcM
    rw [e1]
    simp only
    rw [show tYesT u = .ok true u from rfl, noX_ok, R.bind_ok, if_pos rfl, e2, noX_ok, R.bind_ok, q1, R.bind_ok, r1, List.flatMap_cons, List.append_assoc]
theorem lc2_inv {f f1 : Ws} {g g1 : G} {t1 : T} {e : E} {vs vs1 : List Nat} {I : D → List D} {P : D → D → Bool} {F : D → D → D} {s s1 : Sto} {J : Sto → Prop} {ds : List D} (hsub : ∀ i ∈ vs1, i ∈ vs) (hf : f s = .ok ds s1) (hw : J (wipeS s1 vs)) (hl : (ds.map fun d => (I d).length).sum ≤ LIM)
    (h : ∀ d ∈ ds, ∀ w, J w → ∃ u s3, g d w = some u ∧ f1 u = .ok (I d) s3 ∧ J (wipeS (wipeS s3 vs1) vs) ∧ ∀ x ∈ I d, Turn g1 t1 e vs1 (wipeS s3 vs1) x (P d x) (F d x)) :
    ∃ w, J w ∧ sLc2 f g tYesT f1 g1 t1 e vs vs1 s = .ok (.own (.lst (ds.flatMap fun d => ((I d).filter (P d)).map (F d)))) (restS s1 w vs) := by
  obtain ⟨s', e1, e2⟩ := lcM_inv (g := g) (g1 := g1) (t1 := t1) (f1 := f1) (e := e) hsub ds [] s1 hw (by simpa using hl) h
  refine ⟨_, e2, ?_⟩
  unfold sLc2
  rw [hf, R.bind_ok, e1, R.bind_ok, List.nil_append, restS_wipe]
theorem sort_ok {l : List D} (h1 : ∀ d ∈ l, D.ts d = true) (h2 : ∀ d ∈ l, D.dep d ≤ 140) (h3 : ∀ d ∈ l, ∀ e ∈ l, PySem.W.alike (toP d) (toP e) = true) (h4 : ∀ d ∈ l, isNe d = true) (h5 : l.length ≤ LIM) : sortD [.lst l] = some (.own (.lst (sortL l))) := by
  have e : sortOk l = true := by
    unfold sortOk
    rw [Bool.and_eq_true, Bool.and_eq_true, Bool.and_eq_true, Bool.and_eq_true]
    refine ⟨⟨⟨⟨Pg.isPyAll_of fun d hd => ts_py d (h1 d hd), decide_eq_true ?_⟩, ?_⟩, ?_⟩, decide_eq_true h5⟩
    · have : ∀ {l : List D}, (∀ d ∈ l, D.dep d ≤ 140) → D.depAll l ≤ 140 := fun h => Pg.depAll_of h
      exact Nat.le_trans (this h2) (by decide)
    · rw [List.all_eq_true]
      intro d hd
      rw [List.all_eq_true]
      exact fun e he => h3 d hd e he
    · rw [Bool.or_eq_true]
      exact .inl (List.all_eq_true.mpr h4)
  unfold sortD
  simp only
  rw [e, if_pos rfl]
end Dv
namespace Pg
open PySem L2 Dv
def bnd : Nat → Nat
  | 0 => 0
  | 1 => 1
  | 2 => 2
  | 3 => 4
  | 4 => 8
  | _ => 22
theorem bagStep_len (ch : List Dv.D) : ∀ rows : List (List Dv.D), (bagStep ch rows).length ≤ rows.length * ch.length
  | [] => Nat.zero_le _
  | r :: rows => by
    have ih := bagStep_len ch rows
    unfold bagStep at ih ⊢
    rw [List.flatMap_cons, List.length_append, List.length_map, List.length_cons, Nat.succ_mul]
    have := List.length_filter_le (okNext r) ch
    omega
theorem bags_lens {ch : List Dv.D} {m : Nat} (h : ch.length ≤ m) : ∀ n : Nat, n ≤ 2 → (bagsN ch n).1.length ≤ 1 + m + m * m ∧ (∀ k, k < n → (bagsN ch k).1.length + (bagsN ch k).2.length * ch.length ≤ 1 + m + m * m)
  | 0, _ => ⟨by show 1 ≤ _; omega, fun k hk => by omega⟩
  | 1, _ => by
    have h1 : (bagStep ch [[]]).length ≤ 1 * ch.length := bagStep_len ch [[]]
    refine ⟨?_, fun k hk => ?_⟩
    · show ([[]] ++ bagStep ch [[]]).length ≤ _
      rw [List.length_append, List.length_singleton]; omega
    · rw [show k = 0 by omega]
      show 1 + 1 * ch.length ≤ _
      omega
  | 2, _ => by
    have h1 : (bagStep ch [[]]).length ≤ 1 * ch.length := bagStep_len ch [[]]
    have h2 := bagStep_len ch (bagStep ch [[]])
    have h3 : (bagStep ch [[]]).length * ch.length ≤ m * m := Nat.mul_le_mul (by omega) h
    refine ⟨?_, fun k hk => ?_⟩
    · show ([[]] ++ bagStep ch [[]] ++ bagStep ch (bagStep ch [[]])).length ≤ _
      rw [List.length_append, List.length_append, List.length_singleton]; omega
    · rcases (show k = 0 ∨ k = 1 by omega) with rfl | rfl
      · show 1 + 1 * ch.length ≤ _
        omega
      · show ([[]] ++ bagStep ch [[]]).length + (bagStep ch [[]]).length * ch.length ≤ _
        rw [List.length_append, List.length_singleton]; omega
theorem bagsOf_len {plans : List Dv.D} {m n : Nat} (h : plans.length ≤ m) (hn : n ≤ 2) : (bagsOf n plans).length ≤ 1 + m + m * m := by
  unfold bagsOf
  rw [List.length_map]
  exact (bags_lens (by rw [sortL_len]; exact h) n hn).1
theorem addRows_len (bags : List Dv.D) : ∀ rows : List (List Dv.D), (addRows rows bags).length = rows.length * bags.length
  | [] => by simp [addRows]
  | r :: rows => by
    have ih := addRows_len bags rows
    unfold addRows at ih ⊢
    rw [List.flatMap_cons, List.length_append, List.length_map, ih, List.length_cons, Nat.succ_mul]; omega
theorem pr_len {n : Nat} (hn : n ≤ 2) : ∀ t : Tm, t.size ≤ 5 → (pr n t).plans.length ≤ bnd t.size ∧ (pr n t).pre.length ≤ bnd t.size ∧ (pr n t).rows.length ≤ bnd t.size
  | .nm x, _ => ⟨Nat.le_refl _, Nat.le_refl _, Nat.le_refl _⟩
  | .fn x b, h => by
    have sz : (Tm.fn x b).size = b.size + 1 := rfl
    have hp := b.size_pos
    obtain ⟨b1, _, _⟩ := pr_len hn b (by omega)
    have e1 : (pr n (.fn x b)).plans.length = (pr n b).plans.length + 1 := by
      show (shutD :: (pr n b).plans.map innD).length = _
      rw [List.length_cons, List.length_map]
    have e2 : (pr n (.fn x b)).pre.length = 1 := rfl
    have e3 : (pr n (.fn x b)).rows.length = 1 := rfl
    rw [e1, e2, e3, sz]
    rcases (show b.size = 1 ∨ b.size = 2 ∨ b.size = 3 ∨ b.size = 4 by omega) with z | z | z | z <;> rw [z] at b1 ⊢ <;> simp only [bnd] at b1 ⊢ <;> omega
  | .ca f a, h => by
    have sz : (Tm.ca f a).size = f.size + a.size + 1 := rfl
    have hf := f.size_pos
    have ha := a.size_pos
    obtain ⟨_, f2, f3⟩ := pr_len hn f (by omega)
    obtain ⟨a1, _, _⟩ := pr_len hn a (by omega)
    have e1 : (pr n (.ca f a)).plans.length = (pr n (.ca f a)).pre.length := by
      show ((pr n (.ca f a)).pre.map headD).length = _
      rw [List.length_map]
    have e2 : (pr n (.ca f a)).pre.length = (pr n f).pre.length + (pr n (.ca f a)).rows.length := by
      show ((pr n f).pre ++ (pr n (.ca f a)).rows).length = _
      rw [List.length_append]
    have e3 : (pr n (.ca f a)).rows.length = (pr n f).rows.length * (bagsOf n (pr n a).plans).length := addRows_len _ _
    have e4 := bagsOf_len a1 hn
    have e5 := Nat.mul_le_mul f3 e4
    rw [e1, e2, e3, sz]
    generalize (pr n f).rows.length * (bagsOf n (pr n a).plans).length = z at *
    generalize (pr n f).pre.length = y at *
    rcases (show (f.size = 1 ∧ a.size = 1) ∨ (f.size = 1 ∧ a.size = 2) ∨ (f.size = 1 ∧ a.size = 3) ∨ (f.size = 2 ∧ a.size = 1) ∨ (f.size = 2 ∧ a.size = 2) ∨ (f.size = 3 ∧ a.size = 1) by omega) with ⟨p, q⟩ | ⟨p, q⟩ | ⟨p, q⟩ | ⟨p, q⟩ | ⟨p, q⟩ | ⟨p, q⟩ <;> rw [p] at e5 f2 ⊢ <;> rw [q] at e5 ⊢ <;> simp only [bnd] at e5 f2 ⊢ <;> omega
theorem bnd_le : ∀ k : Nat, bnd k ≤ 22
  | 0 => by decide
  | 1 => by decide
  | 2 => by decide
  | 3 => by decide
  | 4 => by decide
  | _ + 5 => Nat.le_refl _
theorem prFam {n : Nat} {t : Tm} (h : t.size ≤ 5) : Fam (sortL (pr n t).plans) := by
  have P := prOk n t
  exact ⟨fun d hd => P.pts d (sortL_mem.mp hd), fun d hd => by have := P.pdp d (sortL_mem.mp hd); omega, fun d hd e he => P.pal d (sortL_mem.mp hd) e (sortL_mem.mp he)⟩
theorem pr_sort {n : Nat} (hn : n ≤ 2) {t : Tm} (h : t.size ≤ 5) : sortD [.lst (pr n t).plans] = some (.own (.lst (sortL (pr n t).plans))) := by
  have P := prOk n t
  have := (pr_len hn t h).1
  have := bnd_le t.size
  exact sort_ok P.pts (fun d hd => by have := P.pdp d hd; omega) P.pal P.pne (Nat.le_trans (by omega) (LIM_le (n := 22) (by decide)))
theorem lt_shut {p : Dv.D} (h : D.ts p = true) : ltB shutD (innD p) = false := by
  unfold ltB shutD innD
  have t2 : D.tsAll [.str "in", p] = true := by
    have := ts_inn h
    unfold innD at this; rw [ts_tup] at this; exact this
  rw [toP_tup (ts_pyL [.str "shut"] rfl), toP_tup (ts_pyL _ t2), PySem.W.dataLt_tuple, List.map_cons, List.map_cons, toP_str, toP_str, PySem.W.dataLt_all_no (by simp [PySem.W.alike]) (by simp [PyData.eqv]; decide), PySem.W.dataLt_str]
  decide
theorem fn_sort {l : List Dv.D} (h1 : ∀ d ∈ l, D.ts d = true) (h2 : ∀ d ∈ shutD :: l.map innD, ∀ e ∈ shutD :: l.map innD, PySem.W.alike (toP d) (toP e) = true) : sortL ((sortL l).map innD) ++ [shutD] = sortL (shutD :: l.map innD) := by
  have hts : ∀ d ∈ shutD :: l.map innD, D.ts d = true := fun d hd => by
    rcases List.mem_cons.mp hd with rfl | hd
    · rfl
    · obtain ⟨p, hp, rfl⟩ := List.mem_map.mp hd
      exact ts_inn (h1 p hp)
  have p0 : (sortL ((sortL l).map innD)).Perm (l.map innD) := (List.mergeSort_perm _ _).trans ((List.mergeSort_perm l _).map innD)
  have p1 : (sortL ((sortL l).map innD) ++ [shutD]).Perm (sortL (shutD :: l.map innD)) :=
    (p0.append_right [shutD]).trans ((List.perm_append_singleton shutD (l.map innD)).trans (List.mergeSort_perm _ _).symm)
  refine List.Perm.eq_of_pairwise (le := fun a b => leB a b = true) (fun a b ha hb q1 q2 => ?_) ?_ (PySem.W.sort_pairwise le_total _) p1
  · have mb := (List.mergeSort_perm _ _).mem_iff.mp hb
    have ma := (List.mergeSort_perm _ _).mem_iff.mp (p1.mem_iff.mp ha)
    exact le_antisymm (hts a ma) (hts b mb) (h2 a ma b mb) q1 q2
  · rw [List.pairwise_append]
    refine ⟨PySem.W.sort_pairwise le_total _, List.pairwise_singleton _ _, fun a ha b hb => ?_⟩
    rw [List.mem_singleton.mp hb]
    obtain ⟨p, hp, rfl⟩ := List.mem_map.mp (p0.mem_iff.mp ha)
    show leB (innD p) shutD = true
    rw [leB_ltB, lt_shut (h1 p hp)]; rfl
end Pg
namespace Pg
open PySem L2 Dv
theorem flat_rows (rows : List (List Dv.D)) (bags : List Dv.D) : ((rows.map Dv.D.tup).flatMap fun d => (bags.filter fun _ => true).map fun x => Dv.D.tup (unT d ++ [x])) = (addRows rows bags).map Dv.D.tup := by
  unfold addRows
  rw [List.filter_eq_self.mpr (fun _ _ => rfl)]
  induction rows with
  | nil => rfl
  | cons r rows ih =>
    rw [List.map_cons, List.flatMap_cons, List.flatMap_cons, List.map_append, ih, List.map_map]
    rfl
theorem sum_const (k : Nat) : ∀ l : List Dv.D, (l.map fun _ => k).sum = l.length * k
  | [] => by simp
  | d :: l => by rw [List.map_cons, List.sum_cons, sum_const k l, List.length_cons, Nat.succ_mul]; omega
theorem pin_step (c : Nat → Fn) {n : Nat} {v0 u5 s2 : Slot} {a : Dv.D} {ch found bags : List Dv.D} {rows : List (List Dv.D)}
    (hp : PuO (c f_plans_in) [.val a, .val (.int (n : Nat))] (.lst ch)) (hb : PuO (c f_bags_up_to) [.val (.lst ch), .val (.int (n : Nat))] (.lst bags))
    (h2 : s2 = .own (.lst (rows.map .tup)) ∨ s2 = .val (.lst (rows.map .tup))) (hl : found.length + rows.length * bags.length < LIM) (hr : ∀ r ∈ rows, r.length < LIM) :
    ∃ u5', bd_plans_in_b1 c [v0, .val (.int (n : Nat)), s2, .own (.lst found), .val a, u5, .un, .un]
      = .nxt [v0, .val (.int (n : Nat)), .val (.lst ((addRows rows bags).map .tup)), .own (.lst (found ++ (addRows rows bags).map headD)), .val a, u5', .un, .un] := by
  have hp : c f_plans_in [.val a, .val (.int (n : Nat))] = .ret (.own (.lst ch)) [.val a, .val (.int (n : Nat))] := hp
  have hb : c f_bags_up_to [.val (.lst ch), .val (.int (n : Nat))] = .ret (.own (.lst bags)) [.val (.lst ch), .val (.int (n : Nat))] := hb
  have l1 := lim1
  have l2 : (2 : Nat) ≤ LIM := LIM_le (by decide)
  have t1 : sAsg 5 (sCall (c 463) [true, true] (aCons (sCall (c 464) [true, true] (aCons (sVar 4) (aCons (sVar 1) aNil))) (aCons (sVar 1) aNil))) [v0, .val (.int (n : Nat)), s2, .own (.lst found), .val a, u5, .un, .un]
      = .nxt [v0, .val (.int (n : Nat)), s2, .own (.lst found), .val a, .own (.lst bags), .un, .un] := by
    rcases h2 with rfl | rfl
    all_goals simp_arith [hp, hb]
  obtain ⟨w, ⟨s5, h5, rfl⟩, lc⟩ := lc2_inv (f := wSeq (sVar 2)) (g := gN 6) (f1 := wSeq (sVar 5)) (g1 := gN 7) (t1 := tYesT) (e := sOp2 addD (sVar 6) (sTup (aCons (sVar 7) aNil))) (vs := [6, 7]) (vs1 := [7])
    (I := fun _ => bags) (P := fun _ _ => true) (F := fun d x => .tup (unT d ++ [x])) (s := [v0, .val (.int (n : Nat)), s2, .own (.lst found), .val a, .own (.lst bags), .un, .un]) (s1 := [v0, .val (.int (n : Nat)), .val (.lst (rows.map .tup)), .own (.lst found), .val a, .own (.lst bags), .un, .un])
    (J := fun w => ∃ s5, (s5 = .own (.lst bags) ∨ s5 = .val (.lst bags)) ∧ w = [v0, .val (.int (n : Nat)), .val (.lst (rows.map .tup)), .own (.lst found), .val a, s5, .un, .un]) (ds := rows.map .tup)
    (by decide) (by rcases h2 with rfl | rfl <;> rfl) ⟨_, .inl rfl, rfl⟩ (by rw [sum_const, List.length_map]; omega)
    (fun d hd w ⟨s5, h5, e⟩ => by
      subst e
      obtain ⟨b, hb', rfl⟩ := List.mem_map.mp hd
      refine ⟨[v0, .val (.int (n : Nat)), .val (.lst (rows.map .tup)), .own (.lst found), .val a, s5, .val (.tup b), .un], [v0, .val (.int (n : Nat)), .val (.lst (rows.map .tup)), .own (.lst found), .val a, .val (.lst bags), .val (.tup b), .un], rfl, by rcases h5 with rfl | rfl <;> rfl, ⟨_, .inr rfl, rfl⟩, fun x hx => ?_⟩
      refine ⟨[v0, .val (.int (n : Nat)), .val (.lst (rows.map .tup)), .own (.lst found), .val a, .val (.lst bags), .val (.tup b), .val x], [v0, .val (.int (n : Nat)), .val (.lst (rows.map .tup)), .own (.lst found), .val a, .val (.lst bags), .val (.tup b), .val x], rfl, rfl, fun _ => rfl, fun _ => ⟨.val (.tup (b ++ [x])), [v0, .val (.int (n : Nat)), .val (.lst (rows.map .tup)), .own (.lst found), .val a, .val (.lst bags), .val (.tup b), .val x], [v0, .val (.int (n : Nat)), .val (.lst (rows.map .tup)), .own (.lst found), .val a, .val (.lst bags), .val (.tup b), .val x], ?_, rfl, rfl⟩⟩
      have ad := addD_tup (l := b) (m := [x]) (by have := hr b hb'; rw [List.length_singleton]; omega)
      simp_arith [l1, ad])
  rw [flat_rows] at lc
  have hlen := addRows_len bags rows
  have t2 : sAsg 2 (sLc2 (wSeq (sVar 2)) (gN 6) tYesT (wSeq (sVar 5)) (gN 7) tYesT (sOp2 addD (sVar 6) (sTup (aCons (sVar 7) aNil))) [6, 7] [7]) [v0, .val (.int (n : Nat)), s2, .own (.lst found), .val a, .own (.lst bags), .un, .un]
      = .nxt [v0, .val (.int (n : Nat)), .own (.lst ((addRows rows bags).map .tup)), .own (.lst found), .val a, s5, .un, .un] := by
    have lc : sLc2 (wSeq (sVar 2)) (gN 6) tYesT (wSeq (sVar 5)) (gN 7) tYesT (sOp2 addD (sVar 6) (sTup (aCons (sVar 7) aNil))) [6, 7] [7] [v0, .val (.int (n : Nat)), s2, .own (.lst found), .val a, .own (.lst bags), .un, .un] = .ok (.own (.lst ((addRows rows bags).map .tup))) [v0, .val (.int (n : Nat)), .val (.lst (rows.map .tup)), .own (.lst found), .val a, s5, .un, .un] := lc
    simp_arith [lc]
  have lc3 := lc_of (f := wSeq (sVar 2)) (g := gN 6) (t := tYesT) (e := sTup (aCons (sC (.str "head")) (aCons (sVar 6) aNil))) (vs := [6]) (P := fun _ => true) (F := fun d => headD (unT d))
    (s := [v0, .val (.int (n : Nat)), .own (.lst ((addRows rows bags).map .tup)), .own (.lst found), .val a, s5, .un, .un]) (s1 := [v0, .val (.int (n : Nat)), .val (.lst ((addRows rows bags).map .tup)), .own (.lst found), .val a, s5, .un, .un]) (w := [v0, .val (.int (n : Nat)), .val (.lst ((addRows rows bags).map .tup)), .own (.lst found), .val a, s5, .un, .un]) (fin := [v0, .val (.int (n : Nat)), .val (.lst ((addRows rows bags).map .tup)), .own (.lst found), .val a, s5, .un, .un]) (ds := (addRows rows bags).map .tup)
    rfl rfl (by rw [List.length_map]; omega)
    (fun d hd => by
      obtain ⟨b, hb', rfl⟩ := List.mem_map.mp hd
      refine ⟨[v0, .val (.int (n : Nat)), .val (.lst ((addRows rows bags).map .tup)), .own (.lst found), .val a, s5, .val (.tup b), .un], [v0, .val (.int (n : Nat)), .val (.lst ((addRows rows bags).map .tup)), .own (.lst found), .val a, s5, .val (.tup b), .un], rfl, rfl, fun _ => rfl, fun _ => ⟨.val (headD b), [v0, .val (.int (n : Nat)), .val (.lst ((addRows rows bags).map .tup)), .own (.lst found), .val a, s5, .val (.tup b), .un], [v0, .val (.int (n : Nat)), .val (.lst ((addRows rows bags).map .tup)), .own (.lst found), .val a, s5, .val (.tup b), .un], ?_, rfl, rfl⟩⟩
      unfold headD
      simp_arith [l2]) rfl
  rw [List.filter_eq_self.mpr (fun _ _ => rfl), List.map_map, show ((fun d => headD (unT d)) ∘ Dv.D.tup) = headD from rfl] at lc3
  have x := ext_ok (l := found) (m := (addRows rows bags).map headD) (by rw [List.length_map]; omega)
  refine ⟨s5, ?_⟩
  unfold bd_plans_in_b1
  refine (seq_nxt t1).trans ((seq_nxt t2).trans ?_)
  simp_arith [lc3, x]
theorem row_lens {n : Nat} {t : Tm} (h : t.size ≤ 5) : ∀ r ∈ (pr n t).pre, r.length < LIM := fun r hr => by
  have h1 := (prOk n t).rlen r hr
  have h2 := args_len t
  have h3 : (5 : Nat) ≤ LIM := LIM_le (by decide)
  omega
theorem pr_lim {n : Nat} (hn : n ≤ 2) {f a : Tm} (h : (Tm.ca f a).size ≤ 5) : (pr n f).pre.length + (pr n f).rows.length * (bagsOf n (pr n a).plans).length < LIM := by
  have e2 : (pr n (.ca f a)).pre.length = (pr n f).pre.length + (pr n (.ca f a)).rows.length := by
    show ((pr n f).pre ++ (pr n (.ca f a)).rows).length = _
    rw [List.length_append]
  have e3 : (pr n (.ca f a)).rows.length = (pr n f).rows.length * (bagsOf n (pr n a).plans).length := addRows_len _ _
  have h1 := (pr_len hn _ h).2.1
  have h2 := bnd_le (Tm.ca f a).size
  have h3 : (23 : Nat) ≤ LIM := LIM_le (by decide)
  rw [← e3, ← e2]; omega
def BagsOk (F : Fn) (n : Nat) : Prop := ∀ t : Tm, t.size ≤ 5 → PuO F [.val (.lst (sortL (pr n t).plans)), .val (.int (n : Nat))] (.lst (bagsOf n (pr n t).plans))
theorem bagsOk (c : Nat → Fn) {n : Nat} (hn : n ≤ 2) : BagsOk (fn_bags_up_to c) n := fun t h => by
  have h1 := (pr_len hn t h).1
  have h2 := bnd_le t.size
  have h3 : (sortL (pr n t).plans).length ≤ 22 := by rw [sortL_len]; omega
  have h4 : (600 : Nat) ≤ LIM := LIM_le (by decide)
  exact bags_up_to_ok c (prFam h) n (by omega) fun k hk => by
    have := (bags_lens h3 n hn).2 k hk
    omega
theorem pin_loop (c : Nat → Fn) {n : Nat} (hn : n ≤ 2) (hb : BagsOk (c f_bags_up_to) n) (v0 : Slot) : ∀ t : Tm, t.size ≤ 5 → (∀ a ∈ t.args, PuO (c f_plans_in) [.val a.D, .val (.int (n : Nat))] (.lst (sortL (pr n a).plans))) →
    ∃ s2 u4 u5, (s2 = .own (.lst ((pr n t).rows.map .tup)) ∨ s2 = .val (.lst ((pr n t).rows.map .tup))) ∧ ∀ m, forL bd_plans_in_g1 (bd_plans_in_b1 c) (t.args.map Tm.D ++ m) [v0, .val (.int (n : Nat)), .own (.lst [.tup []]), .own (.lst [headD []]), .un, .un, .un, .un]
      = forL bd_plans_in_g1 (bd_plans_in_b1 c) m [v0, .val (.int (n : Nat)), s2, .own (.lst ((pr n t).pre.map headD)), u4, u5, .un, .un]
  | .nm x, _, _ => ⟨_, .un, .un, .inl rfl, fun _ => rfl⟩
  | .fn x b, _, _ => ⟨_, .un, .un, .inl rfl, fun _ => rfl⟩
  | .ca f a, h, hp => by
    have sz : (Tm.ca f a).size = f.size + a.size + 1 := rfl
    have ar : (Tm.ca f a).args = f.args ++ [a] := rfl
    obtain ⟨s2, u4, u5, h2, e⟩ := pin_loop c hn hb v0 f (by omega) (fun x hx => hp x (by rw [ar]; exact List.mem_append_left _ hx))
    have P := prOk n f
    obtain ⟨u5', q⟩ := pin_step c (v0 := v0) (u5 := u5) (found := (pr n f).pre.map headD) (rows := (pr n f).rows) (hp a (by rw [ar]; exact List.mem_append_right _ (List.mem_singleton.mpr rfl))) (hb a (by omega)) h2 (by rw [List.length_map]; exact pr_lim hn h) (fun r hr => row_lens (by omega) r (P.rsub r hr))
    refine ⟨_, .val a.D, u5', .inr rfl, fun m => ?_⟩
    rw [ar, List.map_append, List.append_assoc, e]
    refine (forL_cons (s1 := [v0, .val (.int (n : Nat)), s2, .own (.lst ((pr n f).pre.map headD)), .val a.D, u5, .un, .un]) rfl q).trans ?_
    rw [← List.map_append]
    rfl
theorem args_in : ∀ (t a : Tm), a ∈ t.args → a.size < t.size ∧ ∀ x ∈ a.names, x ∈ t.names
  | .nm _, a, h => nomatch h
  | .fn _ _, a, h => nomatch h
  | .ca f b, a, h => by
    have sz : (Tm.ca f b).size = f.size + b.size + 1 := rfl
    rw [show (Tm.ca f b).args = f.args ++ [b] from rfl] at h
    rcases List.mem_append.mp h with h | h
    · obtain ⟨h1, h2⟩ := args_in f a h
      exact ⟨by omega, fun x hx => List.mem_append_left _ (h2 x hx)⟩
    · rw [List.mem_singleton.mp h]
      exact ⟨by omega, fun x hx => List.mem_append_right _ hx⟩
theorem tag_fn {t : Tm} (h : t.isFn = false) : ∃ g r, t.D = .tup (.str g :: r) ∧ ((g : Str) == ("fn" : Str)) = false := by
  cases t with
  | nm x => exact ⟨_, _, rfl, by decide⟩
  | fn x b => cases h
  | ca f a => exact ⟨_, _, rfl, by decide⟩
theorem plans_in_ok (c : Nat → Fn) {n : Nat} (hn : n ≤ 2) (hb : BagsOk (c f_bags_up_to) n) (t : Tm) (h : t.size ≤ 5) (hs : Pu (c f_spine) [.val t.D] (.tup [t.head.D, .tup (t.args.map Tm.D)]))
    (hp : ∀ a : Tm, a.size < t.size → (∀ x ∈ a.names, x ∈ t.names) → PuO (c f_plans_in) [.val a.D, .val (.int (n : Nat))] (.lst (sortL (pr n a).plans))) : PuO (fn_plans_in c) [.val t.D, .val (.int (n : Nat))] (.lst (sortL (pr n t).plans)) := by
  have hs : c f_spine [.val t.D] = .ret (.val (.tup [t.head.D, .tup (t.args.map Tm.D)])) [.val t.D] := hs
  have l0 : (0 : Nat) ≤ LIM := LIM_le (by decide)
  have l1 := lim1
  have l2 : (2 : Nat) ≤ LIM := LIM_le (by decide)
  have P := prOk n t
  have N := (pr_len hn t h).1
  have B := bnd_le t.size
  have L : (30 : Nat) ≤ LIM := LIM_le (by decide)
  by_cases hf : t.isFn = false
  · obtain ⟨s2, u4, u5, h2, e⟩ := pin_loop c hn hb (.val t.D) t h fun a ha => hp a (args_in t a ha).1 (args_in t a ha).2
    have e := e []
    rw [List.append_nil, ← pr_head n hf] at e
    obtain ⟨g, r, td, hg⟩ := tag_fn hf
    have t0 : sIfS (tB (sOp2 eqD (sOp2 atD (sVar 0) (sC (.int 0))) (sC (.str "fn")))) (sRet (sOp2 addD (sCB sortD (aCons (sLc (wSeq (sCall (c 464) [true, true] (aCons (sOp2 atD (sVar 0) (sC (.int 2))) (aCons (sVar 1) aNil)))) (gN 4) tYesT (sTup (aCons (sC (.str "in")) (aCons (sVar 4) aNil))) [4]) aNil)) (sLst (aCons (sTup (aCons (sC (.str "shut")) aNil)) aNil)))) sSkip [.val t.D, .val (.int (n : Nat)), .un, .un, .un, .un, .un, .un] = .nxt [.val t.D, .val (.int (n : Nat)), .un, .un, .un, .un, .un, .un] := by
      rw [td]
      simp_arith [hg]
    have t1 : sAsg 2 (sLst (aCons (sTup aNil) aNil)) [.val t.D, .val (.int (n : Nat)), .un, .un, .un, .un, .un, .un] = .nxt [.val t.D, .val (.int (n : Nat)), .own (.lst [.tup []]), .un, .un, .un, .un, .un] := by simp_arith [l0, l1]
    have t2 : sAsg 3 (sLst (aCons (sTup (aCons (sC (.str "head")) (aCons (sTup aNil) aNil))) aNil)) [.val t.D, .val (.int (n : Nat)), .own (.lst [.tup []]), .un, .un, .un, .un, .un] = .nxt [.val t.D, .val (.int (n : Nat)), .own (.lst [.tup []]), .own (.lst [headD []]), .un, .un, .un, .un] := by
      unfold headD
      simp_arith [l0, l1, l2]
    have t3 : wSeq (sOp2 atD (sCall (c 34) [true] (aCons (sVar 0) aNil)) (sC (.int 1))) [.val t.D, .val (.int (n : Nat)), .own (.lst [.tup []]), .own (.lst [headD []]), .un, .un, .un, .un] = .ok (t.args.map Tm.D) [.val t.D, .val (.int (n : Nat)), .own (.lst [.tup []]), .own (.lst [headD []]), .un, .un, .un, .un] := by
      simp_arith [hs]
    have so := pr_sort hn h
    unfold PuO fn_plans_in
    refine run_own rfl (s := [.val t.D, .val (.int (n : Nat)), s2, .own (.lst (pr n t).plans), u4, u5, .un, .un]) ?_ rfl
    unfold bd_plans_in
    refine (seq_nxt t0).trans ((seq_nxt t1).trans ((seq_nxt t2).trans ((seq_nxt (for_of t3 e)).trans ?_)))
    simp_arith [so]
  · cases t with
    | nm x => exact absurd rfl hf
    | ca f a => exact absurd rfl hf
    | fn x b =>
      have sz : (Tm.fn x b).size = b.size + 1 := rfl
      have hb' : c f_plans_in [.val b.D, .val (.int (n : Nat))] = .ret (.own (.lst (sortL (pr n b).plans))) [.val b.D, .val (.int (n : Nat))] := hp b (by omega) fun x hx => List.mem_cons_of_mem _ hx
      have PB := prOk n b
      have NB := (pr_len hn b (by omega)).1
      have BB := bnd_le b.size
      have lc := lc_of (f := wSeq (sCall (c 464) [true, true] (aCons (sOp2 atD (sVar 0) (sC (.int 2))) (aCons (sVar 1) aNil)))) (g := gN 4) (t := tYesT) (e := sTup (aCons (sC (.str "in")) (aCons (sVar 4) aNil))) (vs := [4]) (P := fun _ => true) (F := innD)
        (s := [.val (Tm.fn x b).D, .val (.int (n : Nat)), .un, .un, .un, .un, .un, .un]) (s1 := [.val (Tm.fn x b).D, .val (.int (n : Nat)), .un, .un, .un, .un, .un, .un]) (w := [.val (Tm.fn x b).D, .val (.int (n : Nat)), .un, .un, .un, .un, .un, .un]) (fin := [.val (Tm.fn x b).D, .val (.int (n : Nat)), .un, .un, .un, .un, .un, .un]) (ds := sortL (pr n b).plans)
        (by rw [show (Tm.fn x b).D = .tup [.str "fn", .str x, b.D] from rfl]; simp_arith [hb']) rfl (by rw [sortL_len]; omega)
        (fun d hd => by
          refine ⟨[.val (Tm.fn x b).D, .val (.int (n : Nat)), .un, .un, .val d, .un, .un, .un], [.val (Tm.fn x b).D, .val (.int (n : Nat)), .un, .un, .val d, .un, .un, .un], rfl, rfl, fun _ => rfl, fun _ => ⟨.val (innD d), [.val (Tm.fn x b).D, .val (.int (n : Nat)), .un, .un, .val d, .un, .un, .un], [.val (Tm.fn x b).D, .val (.int (n : Nat)), .un, .un, .val d, .un, .un, .un], ?_, rfl, rfl⟩⟩
          unfold innD
          simp_arith [l2]) rfl
      rw [List.filter_eq_self.mpr (fun _ _ => rfl)] at lc
      have mm : ∀ d ∈ (sortL (pr n b).plans).map innD, d ∈ (pr n (.fn x b)).plans := fun d hd => by
        obtain ⟨p, hp, rfl⟩ := List.mem_map.mp hd
        exact List.mem_cons_of_mem _ (List.mem_map_of_mem (sortL_mem.mp hp))
      have so := sort_ok (l := (sortL (pr n b).plans).map innD) (fun d hd => P.pts d (mm d hd)) (fun d hd => by have := P.pdp d (mm d hd); omega) (fun d hd e he => P.pal d (mm d hd) e (mm e he)) (fun d hd => P.pne d (mm d hd)) (by rw [List.length_map, sortL_len]; omega)
      have ad := addD_lst (l := sortL ((sortL (pr n b).plans).map innD)) (m := [shutD]) (by rw [sortL_len, List.length_map, sortL_len, List.length_singleton]; omega)
      rw [fn_sort PB.pts P.pal] at ad
      rw [show shutD :: (pr n b).plans.map innD = (pr n (.fn x b)).plans from rfl] at ad
      unfold PuO fn_plans_in
      refine run_own rfl (s := [.val (Tm.fn x b).D, .val (.int (n : Nat)), .un, .un, .un, .un, .un, .un]) ?_ rfl
      unfold bd_plans_in
      refine seq_ret ?_
      rw [show (Tm.fn x b).D = .tup [.str "fn", .str x, b.D] from rfl] at lc ⊢
      unfold shutD at ad
      simp_arith [lc, so, ad, l1]
end Pg
namespace Dv
open PySem L2
theorem all_true : ∀ {l : List D}, (∀ d ∈ l, d = .bl true) → allD [.lst l] = some (.val (.bl true)) := by
  intro l h
  have : ∀ {l : List D}, (∀ d ∈ l, d = .bl true) → ∃ bs, blsD l = some bs ∧ bs.all id = true := by
    intro l
    induction l with
    | nil => intro _; exact ⟨[], rfl, rfl⟩
    | cons d l ih =>
      intro h
      obtain ⟨bs, e1, e2⟩ := ih fun d hd => h d (List.mem_cons_of_mem _ hd)
      have := h d List.mem_cons_self
      subst this
      exact ⟨true :: bs, by unfold blsD; rw [e1]; rfl, by rw [List.all_cons, e2]; rfl⟩
  obtain ⟨bs, e1, e2⟩ := this h
  unfold allD
  simp only
  rw [e1, Option.map_some, e2]
mutual
theorem eqv_refl : ∀ d : D, D.ts d = true → eqvD d d = true
  | .str x, _ => by unfold eqvD; exact beq_self_eq_true x
  | .tup l, h => by unfold D.ts at h; unfold eqvD; exact eqv_reflL l h
  | .non, h => by unfold D.ts at h; cases h
  | .bl _, h => by unfold D.ts at h; cases h
  | .int _, h => by unfold D.ts at h; cases h
  | .lst _, h => by unfold D.ts at h; cases h
  | .dct _ _, h => by unfold D.ts at h; cases h
  | .exc _ _, h => by unfold D.ts at h; cases h
  | .ty _, h => by unfold D.ts at h; cases h
  | .cls _, h => by unfold D.ts at h; cases h
  | .scr _, h => by unfold D.ts at h; cases h
theorem eqv_reflL : ∀ l : List D, D.tsAll l = true → eqvL l l = true
  | [], _ => rfl
  | d :: l, h => by
    unfold D.tsAll at h
    rw [Bool.and_eq_true] at h
    unfold eqvL
    rw [eqv_refl d h.1, eqv_reflL l h.2]; rfl
end
theorem ne_self {d : D} (h : D.ts d = true) (hd : D.dep d ≤ 150) : neD d d = some (.val (.bl false)) := by
  have e : eqOk d d = true := by
    unfold eqOk
    rw [ts_py d h]
    have : min (D.dep d) (D.dep d) ≤ DEEP := Nat.le_trans (Nat.min_le_left _ _) hd
    rw [decide_eq_true this]; rfl
  unfold neD
  rw [e, if_pos rfl, eqv_refl d h]; rfl
def adj : List D → List D
  | x :: y :: l => .tup [x, y] :: adj (y :: l)
  | _ => []
theorem zip_adj : ∀ l : List D, zipL l (l.drop 1) = adj l
  | [] => rfl
  | [x] => rfl
  | x :: y :: l => by
    have := zip_adj (y :: l)
    show .tup [x, y] :: zipL (y :: l) ((y :: l).drop 1) = .tup [x, y] :: adj (y :: l)
    rw [this]
theorem adj_len : ∀ l : List D, (adj l).length ≤ l.length
  | [] => Nat.le_refl _
  | [x] => Nat.zero_le _
  | x :: y :: l => by
    have := adj_len (y :: l)
    unfold adj
    rw [List.length_cons, List.length_cons]; omega
theorem adj_snoc : ∀ {l : List D} (h : l ≠ []) (z : D), adj (l ++ [z]) = adj l ++ [.tup [lastD l, z]]
  | [], h, z => absurd rfl h
  | [x], _, z => rfl
  | x :: y :: l, _, z => by
    have ih := adj_snoc (l := y :: l) (fun h => (nomatch h)) z
    show .tup [x, y] :: adj (y :: l ++ [z]) = .tup [x, y] :: adj (y :: l) ++ _
    rw [ih]
    rfl
def Asc (b : List D) : Prop := ∀ q ∈ adj b, ∃ x y, q = .tup [x, y] ∧ x ∈ b ∧ y ∈ b ∧ ltB y x = false
theorem asc_step {r : List D} {one : D} (h : Asc r) (ok : okNext r one = true) : Asc (r ++ [one]) := by
  by_cases hr : r = []
  · subst hr
    intro q hq
    cases hq
  · intro q hq
    rw [adj_snoc hr] at hq
    rcases List.mem_append.mp hq with hq | hq
    · obtain ⟨x, y, e, h1, h2, h3⟩ := h q hq
      exact ⟨x, y, e, List.mem_append_left _ h1, List.mem_append_left _ h2, h3⟩
    · refine ⟨lastD r, one, List.mem_singleton.mp hq, List.mem_append_left _ (last_mem hr), List.mem_append_right _ (List.mem_singleton.mpr rfl), ?_⟩
      unfold okNext at ok
      have : r.isEmpty = false := by cases r with
        | nil => exact absurd rfl hr
        | cons _ _ => rfl
      rw [this, Bool.false_or, Bool.not_eq_true'] at ok
      exact ok
theorem bagsN_asc {ch : List D} : ∀ {n : Nat} {b : List D}, (b ∈ (bagsN ch n).1 ∨ b ∈ (bagsN ch n).2) → Asc b
  | 0, b, h => by
    have : b = [] := by
      rcases h with h | h
      · exact List.mem_singleton.mp h
      · exact List.mem_singleton.mp h
    subst this
    exact fun q hq => nomatch hq
  | n + 1, b, h => by
    have step : b ∈ bagStep ch (bagsN ch n).2 → Asc b := fun h => by
      unfold bagStep at h
      obtain ⟨r, hr, hb⟩ := List.mem_flatMap.mp h
      obtain ⟨one, ho, rfl⟩ := List.mem_map.mp hb
      exact asc_step (bagsN_asc (.inr hr)) (List.mem_filter.mp ho).2
    rcases h with h | h
    · rcases List.mem_append.mp (show b ∈ (bagsN ch n).1 ++ bagStep ch (bagsN ch n).2 from h) with h | h
      · exact bagsN_asc (.inl h)
      · exact step h
    · exact step h
theorem cut1 (l : List D) : cutD (.tup l) (some 1) none = some (.val (.tup (l.drop 1))) := by
  show some (Opd.val (.tup (cutL l (some 1) none))) = _
  have : cutL l (some 1) none = l.drop 1 := by
    cases l with
    | nil => rfl
    | cons a l =>
      unfold cutL
      rw [show HT.sIx (a :: l).length 0 (some 1) = min 1 (a :: l).length from HT.sIx_nat _ _ 1, HT.sIx_none, List.length_cons, show min 1 (l.length + 1) = 1 by omega]
      show l.take (l.length + 1 - 1) = l
      rw [Nat.add_sub_cancel, List.take_length]
  rw [this]
theorem zip_app : ∀ {l m : List D} {x y : D}, l.length = m.length → zipL (l ++ [x]) (m ++ [y]) = zipL l m ++ [.tup [x, y]]
  | [], [], x, y, _ => rfl
  | a :: l, b :: m, x, y, h => by
    show .tup [a, b] :: zipL (l ++ [x]) (m ++ [y]) = .tup [a, b] :: zipL l m ++ _
    rw [zip_app (by simpa using h)]; rfl
theorem zip_more : ∀ {l m : List D} {x : List D}, m.length ≤ l.length → zipL (l ++ x) m = zipL l m
  | l, [], x, _ => by cases l <;> cases x <;> rfl
  | [], b :: m, x, h => by simp at h
  | a :: l, b :: m, x, h => by
    show .tup [a, b] :: zipL (l ++ x) m = .tup [a, b] :: zipL l m
    rw [zip_more (by simpa using h)]
theorem zip_len : ∀ (l m : List D), (zipL l m).length ≤ l.length
  | [], m => by cases m <;> exact Nat.le_refl _
  | a :: l, [] => Nat.zero_le _
  | a :: l, b :: m => by
    have := zip_len l m
    show (_ :: zipL l m).length ≤ _
    rw [List.length_cons, List.length_cons]; omega
end Dv
namespace Dv
open PySem L2
theorem lcL_map {α : Type} {g : G} {e : E} {vs : List Nat} {ι κ : α → D} {w : Sto} : ∀ (as : List α) (acc : List D) (s : Sto), wipeS s vs = w → acc.length + as.length ≤ LIM →
    (∀ a ∈ as, ∃ u, g (ι a) w = some u ∧ ∃ o s3 s4, e u = .ok o s3 ∧ takeO o s3 = .ok (κ a) s4 ∧ wipeS s4 vs = w) →
    ∃ s', lcL g tYesT e vs (as.map ι) acc s = .ok (acc ++ as.map κ) s' ∧ wipeS s' vs = w
  | [], acc, s, hs, _, _ => ⟨s, by unfold lcL; simp, hs⟩
  | a :: as, acc, s, hs, hl, h => by
    obtain ⟨u, e1, o, s3, s4, e2, e3, e4⟩ := h a List.mem_cons_self
    rw [List.length_cons] at hl
    obtain ⟨s', q1, q2⟩ := lcL_map as (acc ++ [κ a]) s4 e4 (by rw [List.length_append, List.length_singleton]; omega) fun d hd => h d (List.mem_cons_of_mem _ hd)
    refine ⟨s', ?_, q2⟩
    rw [List.map_cons]
    unfold lcL
    rw [hs, e1]
    simp only
    rw [show tYesT u = .ok true u from rfl, noX_ok, R.bind_ok, if_pos rfl, e2, noX_ok, R.bind_ok, e3, R.bind_ok, if_pos (by omega), q1, List.map_cons, List.append_assoc, List.singleton_append]
theorem lc_map {α : Type} {f : Ws} {g : G} {e : E} {vs : List Nat} {s s1 w fin : Sto} (as : List α) (ι κ : α → D) (hf : f s = .ok (as.map ι) s1) (hw : wipeS s1 vs = w) (hl : as.length ≤ LIM)
    (h : ∀ a ∈ as, ∃ u, g (ι a) w = some u ∧ ∃ o s3 s4, e u = .ok o s3 ∧ takeO o s3 = .ok (κ a) s4 ∧ wipeS s4 vs = w) (hfin : restS s1 w vs = fin) :
    sLc f g tYesT e vs s = .ok (.own (.lst (as.map κ))) fin := by
  obtain ⟨s', e1, e2⟩ := lcL_map (g := g) (e := e) (ι := ι) (κ := κ) as [] s1 hw (by simpa using hl) h
  unfold sLc
  rw [hf, R.bind_ok, e1, R.bind_ok, List.nil_append, restS_wipe, e2, hfin]
end Dv
namespace Pg
open PySem L2 Dv
def once : Tm → Dv.D × List Dv.D
  | .nm _ => (headD [], [])
  | .fn _ b => (innD (once b).1, [])
  | .ca f a => (headD ((once f).2 ++ [.tup [(once a).1]]), (once f).2 ++ [.tup [(once a).1]])
theorem once_row : ∀ t : Tm, (once t).2 = t.args.map fun a => .tup [(once a).1]
  | .nm _ => rfl
  | .fn _ _ => rfl
  | .ca f a => by
    rw [show (Tm.ca f a).args = f.args ++ [a] from rfl, List.map_append, ← once_row f]; rfl
theorem once_head {t : Tm} (h : t.isFn = false) : (once t).1 = headD (t.args.map fun a => .tup [(once a).1]) := by
  rw [← once_row]
  cases t with
  | nm x => rfl
  | fn x b => cases h
  | ca f a => rfl
theorem once_ts : ∀ t : Tm, D.ts (once t).1 = true ∧ D.tsAll (once t).2 = true ∧ D.dep (once t).1 ≤ 4 * t.size ∧ D.depAll (once t).2 + 2 ≤ 4 * t.size
  | .nm x => ⟨rfl, rfl, by show D.dep (headD []) ≤ 4 * 1; decide, by show D.depAll [] + 2 ≤ 4 * 1; decide⟩
  | .fn x b => by
    obtain ⟨h1, _, h3, _⟩ := once_ts b
    have sz : (Tm.fn x b).size = b.size + 1 := rfl
    refine ⟨ts_inn h1, rfl, ?_, ?_⟩
    · show D.dep (innD _) ≤ _
      rw [dep_inn, sz]; omega
    · rw [sz, show D.depAll (once (.fn x b)).2 = 0 from rfl]; omega
  | .ca f a => by
    obtain ⟨_, f2, _, f4⟩ := once_ts f
    obtain ⟨a1, _, a3, _⟩ := once_ts a
    have sz : (Tm.ca f a).size = f.size + a.size + 1 := rfl
    have e2 : D.tsAll ((once f).2 ++ [.tup [(once a).1]]) = true := tsAll_snoc f2 (by
      rw [ts_tup, tsAll_cons, a1]; rfl)
    have e4 : D.depAll ((once f).2 ++ [.tup [(once a).1]]) + 2 ≤ 4 * (Tm.ca f a).size := by
      rw [depAll_snoc, sz, dep_tup, depAll_cons, show D.depAll [] = 0 from rfl]; omega
    refine ⟨ts_head e2, e2, ?_, e4⟩
    show D.dep (headD _) ≤ _
    rw [dep_head]; exact e4
theorem row_zip {n : Nat} : ∀ (t : Tm) (r : List Dv.D), r ∈ (pr n t).pre → ∀ q ∈ zipL (t.args.map Tm.D) r, ∃ a b, a ∈ t.args ∧ q = .tup [a.D, b] ∧ b ∈ bagsOf n (pr n a).plans
  | .nm x, r, hr, q, hq => nomatch hq
  | .fn x b, r, hr, q, hq => nomatch hq
  | .ca f a, r, hr, q, hq => by
    have ar : (Tm.ca f a).args = f.args ++ [a] := rfl
    rw [ar, List.map_append] at hq
    have P := prOk n f
    rcases List.mem_append.mp (show r ∈ (pr n f).pre ++ addRows (pr n f).rows (bagsOf n (pr n a).plans) from hr) with h | h
    · rw [zip_more (by rw [List.length_map]; exact P.rlen r h)] at hq
      obtain ⟨a', b, h1, h2, h3⟩ := row_zip f r h q hq
      exact ⟨a', b, by rw [ar]; exact List.mem_append_left _ h1, h2, h3⟩
    · obtain ⟨r0, b, h0, hb, rfl⟩ := addRows_mem h
      rw [show [a].map Tm.D = [a.D] from rfl, zip_app (by rw [List.length_map]; exact (P.rfull r0 h0).symm)] at hq
      rcases List.mem_append.mp hq with hq | hq
      · obtain ⟨a', b', h1, h2, h3⟩ := row_zip f r0 (P.rsub r0 h0) q hq
        exact ⟨a', b', by rw [ar]; exact List.mem_append_left _ h1, h2, h3⟩
      · exact ⟨a, b, by rw [ar]; exact List.mem_append_right _ (List.mem_singleton.mpr rfl), List.mem_singleton.mp hq, hb⟩
end Pg
namespace Pg
open PySem L2 Dv
theorem tg_left_in : (("left" : Str) == ("in" : Str)) = false := by decide
theorem tg_left_shut : (("left" : Str) == ("shut" : Str)) = false := by decide
theorem tg_left_head : (("left" : Str) == ("head" : Str)) = false := by decide
theorem fits_bag_ok (c : Nat → Fn) {n : Nat} (hn : n ≤ 2) {a : Tm} (h : a.size ≤ 5) {bag : Dv.D} (hb : bag ∈ bagsOf n (pr n a).plans) (hf : ∀ p ∈ (pr n a).plans, Pu (c f_fits) [.val a.D, .val p] (.bl true)) : Pu (fn_fits_bag c) [.val a.D, .val bag] (.bl true) := by
  obtain ⟨l, rfl, hl, hm, hin⟩ := bagsOf_mem hb
  have F := prFam (n := n) h
  have L : (3 : Nat) ≤ LIM := LIM_le (by decide)
  have lc := lc_of (f := wSeq (sVar 1)) (g := gN 2) (t := tYesT) (e := sCall (c 193) [true, true] (aCons (sVar 0) (aCons (sVar 2) aNil))) (vs := [2]) (P := fun _ => true) (F := fun _ => .bl true)
    (s := [.val a.D, .val (.tup l), .un, .un]) (s1 := [.val a.D, .val (.tup l), .un, .un]) (w := [.val a.D, .val (.tup l), .un, .un]) (fin := [.val a.D, .val (.tup l), .un, .un]) (ds := l) rfl rfl (by omega)
    (fun d hd => by
      have hf : c f_fits [.val a.D, .val d] = .ret (.val (.bl true)) [.val a.D, .val d] := hf d (hin d hd)
      refine ⟨[.val a.D, .val (.tup l), .val d, .un], [.val a.D, .val (.tup l), .val d, .un], rfl, rfl, fun _ => rfl, fun _ => ⟨.val (.bl true), [.val a.D, .val (.tup l), .val d, .un], [.val a.D, .val (.tup l), .val d, .un], ?_, rfl, rfl⟩⟩
      simp_arith [hf]) rfl
  have a1 : allD [.lst ((l.filter fun _ => true).map fun _ => .bl true)] = some (.val (.bl true)) := all_true fun d hd => by
    obtain ⟨_, _, rfl⟩ := List.mem_map.mp hd
    rfl
  have ct := cut1 l
  have zp : wZip (aCons (sVar 1) (aCons (sCut (sVar 1) (pSome (sC (.int 1))) pNone) aNil)) [.val a.D, .val (.tup l), .un, .un] = .ok (adj l) [.val a.D, .val (.tup l), .un, .un] := by
    unfold wZip
    simp_arith [ct, zip_adj]
  have as := bagsN_asc (.inl hm)
  have lc2 := lc_of (f := wZip (aCons (sVar 1) (aCons (sCut (sVar 1) (pSome (sC (.int 1))) pNone) aNil))) (g := gT 2 (gs1 (gN 2) (gs1 (gN 3) gs0))) (t := tYesT) (e := sNot (sOp2 ltD (sVar 3) (sVar 2))) (vs := [2, 3]) (P := fun _ => true) (F := fun _ => .bl true)
    (w := [.val a.D, .val (.tup l), .un, .un]) (fin := [.val a.D, .val (.tup l), .un, .un]) zp rfl (Nat.le_trans (adj_len l) (by omega))
    (fun d hd => by
      obtain ⟨x, y, rfl, hx, hy, hxy⟩ := as d hd
      have lt := F.ltD (sortL_mem.mpr (hin y hy)) (sortL_mem.mpr (hin x hx))
      rw [hxy] at lt
      refine ⟨[.val a.D, .val (.tup l), .val x, .val y], [.val a.D, .val (.tup l), .val x, .val y], rfl, rfl, fun _ => rfl, fun _ => ⟨.val (.bl true), [.val a.D, .val (.tup l), .val x, .val y], [.val a.D, .val (.tup l), .val x, .val y], ?_, rfl, rfl⟩⟩
      simp_arith [lt]) rfl
  have a2 : allD [.lst (((adj l).filter fun _ => true).map fun _ => .bl true)] = some (.val (.bl true)) := all_true fun d hd => by
    obtain ⟨_, _, rfl⟩ := List.mem_map.mp hd
    rfl
  unfold Pu fn_fits_bag
  refine run_val rfl (s := [.val a.D, .val (.tup l), .un, .un]) ?_ rfl
  unfold bd_fits_bag
  simp_arith [lc, a1, lc2, a2]
theorem fits_head (c : Nat → Fn) {n : Nat} (hn : n ≤ 2) {t : Tm} (h : t.size ≤ 5) (hf : t.isFn = false) (hs : Pu (c f_spine) [.val t.D] (.tup [t.head.D, .tup (t.args.map Tm.D)])) {r : List Dv.D} (hr : r ∈ (pr n t).pre)
    (hb : ∀ a ∈ t.args, ∀ b ∈ bagsOf n (pr n a).plans, Pu (c f_fits_bag) [.val a.D, .val b] (.bl true)) : Pu (fn_fits c) [.val t.D, .val (headD r)] (.bl true) := by
  have hs : c f_spine [.val t.D] = .ret (.val (.tup [t.head.D, .tup (t.args.map Tm.D)])) [.val t.D] := hs
  have P := prOk n t
  have L : (6 : Nat) ≤ LIM := LIM_le (by decide)
  have al := args_len t
  have rl := P.rlen r hr
  have d1 : decide (((t.args.length : Nat) : Int) < ((r.length : Nat) : Int)) = false := decide_eq_false (by omega)
  obtain ⟨g, rest, td, hg⟩ := tag_fn hf
  have zp : wZip (aCons (sVar 2) (aCons (sOp2 atD (sVar 1) (sC (.int 1))) aNil)) [.val t.D, .val (headD r), .val (.tup (t.args.map Tm.D)), .un, .un] = .ok (zipL (t.args.map Tm.D) r) [.val t.D, .val (headD r), .val (.tup (t.args.map Tm.D)), .un, .un] := by
    unfold wZip headD
    simp_arith []
  have rz := row_zip t r hr
  have lc := lc_of (f := wZip (aCons (sVar 2) (aCons (sOp2 atD (sVar 1) (sC (.int 1))) aNil))) (g := gT 2 (gs1 (gN 3) (gs1 (gN 4) gs0))) (t := tYesT) (e := sCall (c 446) [true, true] (aCons (sVar 3) (aCons (sVar 4) aNil))) (vs := [3, 4]) (P := fun _ => true) (F := fun _ => .bl true)
    (w := [.val t.D, .val (headD r), .val (.tup (t.args.map Tm.D)), .un, .un]) (fin := [.val t.D, .val (headD r), .val (.tup (t.args.map Tm.D)), .un, .un]) zp rfl (Nat.le_trans (zip_len _ _) (by rw [List.length_map]; omega))
    (fun d hd => by
      obtain ⟨a, b, h1, rfl, h3⟩ := rz d hd
      have q : c f_fits_bag [.val a.D, .val b] = .ret (.val (.bl true)) [.val a.D, .val b] := hb a h1 b h3
      refine ⟨[.val t.D, .val (headD r), .val (.tup (t.args.map Tm.D)), .val a.D, .val b], [.val t.D, .val (headD r), .val (.tup (t.args.map Tm.D)), .val a.D, .val b], rfl, rfl, fun _ => rfl, fun _ => ⟨.val (.bl true), [.val t.D, .val (headD r), .val (.tup (t.args.map Tm.D)), .val a.D, .val b], [.val t.D, .val (headD r), .val (.tup (t.args.map Tm.D)), .val a.D, .val b], ?_, rfl, rfl⟩⟩
      simp_arith [q]) rfl
  have a1 : allD [.lst (((zipL (t.args.map Tm.D) r).filter fun _ => true).map fun _ => .bl true)] = some (.val (.bl true)) := all_true fun d hd => by
    obtain ⟨_, _, rfl⟩ := List.mem_map.mp hd
    rfl
  unfold Pu fn_fits
  refine run_val rfl (s := [.val t.D, .val (headD r), .val (.tup (t.args.map Tm.D)), .un, .un]) ?_ rfl
  unfold bd_fits
  unfold headD at lc ⊢
  rw [td] at hs lc ⊢
  simp_arith [hg, hs, d1, lc, a1, List.length_map]
theorem fits_fn (c : Nat → Fn) {n : Nat} {x : Str} {b : Tm} (hb : ∀ p ∈ (pr n b).plans, Pu (c f_fits) [.val b.D, .val p] (.bl true)) {p : Dv.D} (hp : p ∈ (pr n (.fn x b)).plans) : Pu (fn_fits c) [.val (Tm.fn x b).D, .val p] (.bl true) := by
  rcases List.mem_cons.mp (show p ∈ shutD :: (pr n b).plans.map innD from hp) with h | h
  · subst h
    unfold Pu fn_fits
    refine run_val rfl (s := [.val (Tm.fn x b).D, .val shutD, .un, .un, .un]) ?_ rfl
    unfold bd_fits shutD
    rw [show (Tm.fn x b).D = .tup [.str "fn", .str x, b.D] from rfl]
    simp_arith []
  · obtain ⟨q, hq, rfl⟩ := List.mem_map.mp h
    have e : c f_fits [.val b.D, .val q] = .ret (.val (.bl true)) [.val b.D, .val q] := hb q hq
    unfold Pu fn_fits
    refine run_val rfl (s := [.val (Tm.fn x b).D, .val (innD q), .un, .un, .un]) ?_ rfl
    unfold bd_fits innD
    rw [show (Tm.fn x b).D = .tup [.str "fn", .str x, b.D] from rfl]
    simp_arith [e]
theorem fits_left (c : Nat → Fn) (t : Tm) : Pu (fn_fits c) [.val t.D, .val (.tup [.str "left"])] (.bl false) := by
  by_cases hf : t.isFn = false
  · obtain ⟨g, rest, td, hg⟩ := tag_fn hf
    unfold Pu fn_fits
    refine run_val rfl (s := [.val t.D, .val (.tup [.str "left"]), .un, .un, .un]) ?_ rfl
    unfold bd_fits
    rw [td]
    simp_arith [hg, tg_left_head]
  · cases t with
    | nm x => exact absurd rfl hf
    | ca f a => exact absurd rfl hf
    | fn x b =>
      unfold Pu fn_fits
      refine run_val rfl (s := [.val (Tm.fn x b).D, .val (.tup [.str "left"]), .un, .un, .un]) ?_ rfl
      unfold bd_fits
      rw [show (Tm.fn x b).D = .tup [.str "fn", .str x, b.D] from rfl]
      simp_arith [tg_left_in, tg_left_shut]
theorem fits_bad (c : Nat → Fn) (t : Tm) (hb : ∀ b : Tm, Pu (c f_fits) [.val b.D, .val (.tup [.str "left"])] (.bl false)) : Pu (fn_fits c) [.val t.D, .val (.tup [.str "in", .tup [.str "left"]])] (.bl false) := by
  by_cases hf : t.isFn = false
  · obtain ⟨g, rest, td, hg⟩ := tag_fn hf
    unfold Pu fn_fits
    refine run_val rfl (s := [.val t.D, .val (.tup [.str "in", .tup [.str "left"]]), .un, .un, .un]) ?_ rfl
    unfold bd_fits
    rw [td]
    simp_arith [hg]
  · cases t with
    | nm x => exact absurd rfl hf
    | ca f a => exact absurd rfl hf
    | fn x b =>
      have e : c f_fits [.val b.D, .val (.tup [.str "left"])] = .ret (.val (.bl false)) [.val b.D, .val (.tup [.str "left"])] := hb b
      unfold Pu fn_fits
      refine run_val rfl (s := [.val (Tm.fn x b).D, .val (.tup [.str "in", .tup [.str "left"]]), .un, .un, .un]) ?_ rfl
      unfold bd_fits
      rw [show (Tm.fn x b).D = .tup [.str "fn", .str x, b.D] from rfl]
      simp_arith [e]
theorem is_plan_ok (c : Nat → Fn) {t : Tm} {p : Dv.D} {b : Bool} (hn : Pu (c f_need_normal) [.val t.D] .non) (hf : Pu (c f_fits) [.val t.D, .val p] (.bl b)) : Pu (fn_is_plan c) [.val t.D, .val p] (.bl b) := by
  have hn : c f_need_normal [.val t.D] = .ret (.val .non) [.val t.D] := hn
  have hf : c f_fits [.val t.D, .val p] = .ret (.val (.bl b)) [.val t.D, .val p] := hf
  unfold Pu fn_is_plan
  refine run_val rfl (s := [.val t.D, .val p]) ?_ rfl
  unfold bd_is_plan
  simp_arith [hn, hf]
theorem once_in_ok (c : Nat → Fn) (t : Tm) (h : t.size ≤ 5) (hs : Pu (c f_spine) [.val t.D] (.tup [t.head.D, .tup (t.args.map Tm.D)])) (hp : ∀ a : Tm, a.size < t.size → (∀ x ∈ a.names, x ∈ t.names) → Pu (c f_once_in) [.val a.D] (once a).1) : Pu (fn_once_in c) [.val t.D] (once t).1 := by
  have hs : c f_spine [.val t.D] = .ret (.val (.tup [t.head.D, .tup (t.args.map Tm.D)])) [.val t.D] := hs
  have l1 := lim1
  have l2 : (2 : Nat) ≤ LIM := LIM_le (by decide)
  have L : (6 : Nat) ≤ LIM := LIM_le (by decide)
  have al := args_len t
  by_cases hf : t.isFn = false
  · obtain ⟨g, rest, td, hg⟩ := tag_fn hf
    have lc := lc_map (f := wSeq (sOp2 atD (sCall (c 34) [true] (aCons (sVar 0) aNil)) (sC (.int 1)))) (g := gN 1) (e := sTup (aCons (sCall (c 461) [true] (aCons (sVar 1) aNil)) aNil)) (vs := [1]) (s := [.val t.D, .un]) (s1 := [.val t.D, .un]) (w := [.val t.D, .un]) (fin := [.val t.D, .un]) t.args Tm.D (fun a => .tup [(once a).1])
      (by simp_arith [hs]) rfl (by omega) (fun a ha => by
        have q : c f_once_in [.val a.D] = .ret (.val (once a).1) [.val a.D] := hp a (args_in t a ha).1 (args_in t a ha).2
        refine ⟨[.val t.D, .val a.D], rfl, .val (.tup [(once a).1]), [.val t.D, .val a.D], [.val t.D, .val a.D], ?_, rfl, rfl⟩
        simp_arith [q, l1]) rfl
    have oh := once_head hf
    unfold Pu fn_once_in
    refine run_val rfl (s := [.val t.D, .un]) ?_ rfl
    rw [oh]
    unfold bd_once_in headD
    rw [td] at lc ⊢
    simp_arith [hg, lc, l2, tup_lst]
  · cases t with
    | nm x => exact absurd rfl hf
    | ca f a => exact absurd rfl hf
    | fn x b =>
      have sz : (Tm.fn x b).size = b.size + 1 := rfl
      have e : c f_once_in [.val b.D] = .ret (.val (once b).1) [.val b.D] := hp b (by omega) fun x hx => List.mem_cons_of_mem _ hx
      unfold Pu fn_once_in
      refine run_val rfl (s := [.val (Tm.fn x b).D, .un]) ?_ rfl
      rw [show (once (.fn x b)).1 = innD (once b).1 from rfl]
      unfold bd_once_in innD
      rw [show (Tm.fn x b).D = .tup [.str "fn", .str x, b.D] from rfl]
      simp_arith [e, l2]
theorem once_plan_ok (c : Nat → Fn) (t : Tm) (hn : Pu (c f_need_normal) [.val t.D] .non) (hf : Pu (c f_once_in) [.val t.D] (once t).1) : Pu (fn_once_plan c) [.val t.D] (once t).1 := by
  have hn : c f_need_normal [.val t.D] = .ret (.val .non) [.val t.D] := hn
  have hf : c f_once_in [.val t.D] = .ret (.val (once t).1) [.val t.D] := hf
  unfold Pu fn_once_plan
  refine run_val rfl (s := [.val t.D]) ?_ rfl
  unfold bd_once_plan
  simp_arith [hn, hf]
theorem isnt_int (i : Int) : isntD (.int i) .non = some (.val (.bl true)) := rfl
theorem need_number_ok (c : Nat → Fn) (i : Int) (h1 : 0 ≤ i) (h2 : i ≤ 3) : Pu (fn_need_number c) [.val (.int i), .val (.int 0), .val (.int 3)] .non := by
  have d1 : decide (i < 0) = false := decide_eq_false (by omega)
  have d2 : decide ((3 : Int) < i) = false := decide_eq_false (by omega)
  unfold Pu fn_need_number
  refine run_nxt rfl (s := [.val (.int i), .val (.int 0), .val (.int 3)]) ?_ rfl
  unfold bd_need_number
  simp_arith [d1, d2, isnt_int]
theorem plans_ok (c : Nat → Fn) {n : Nat} (h : n ≤ 2) (t : Tm) (hn : Pu (c f_need_normal) [.val t.D] .non) (hm : Pu (c f_need_number) [.val (.int (n : Nat)), .val (.int 0), .val (.int 3)] .non) (hp : PuO (c f_plans_in) [.val t.D, .val (.int (n : Nat))] (.lst (sortL (pr n t).plans))) : Pu (fn_plans c) [.val t.D, .val (.int (n : Nat))] (.tup (sortL (pr n t).plans)) := by
  have hn : c f_need_normal [.val t.D] = .ret (.val .non) [.val t.D] := hn
  have hm : c f_need_number [.val (.int (n : Nat)), .val (.int 0), .val (.int 3)] = .ret (.val .non) [.val (.int (n : Nat)), .val (.int 0), .val (.int 3)] := hm
  have hp : c f_plans_in [.val t.D, .val (.int (n : Nat))] = .ret (.own (.lst (sortL (pr n t).plans))) [.val t.D, .val (.int (n : Nat))] := hp
  unfold Pu fn_plans
  refine run_val rfl (s := [.val t.D, .val (.int (n : Nat))]) ?_ rfl
  unfold bd_plans
  simp_arith [hn, hm, hp, tup_lst]
theorem list_scr (l : List Dv.D) : listD [.scr l] = some (.own (.lst l)) := rfl
theorem law_box_ok (c : Nat → Fn) (ns : List Int) : PuO (fn_law_box c) [.val (.scr (ns.map .int))] (boxD ns 0 0) := by
  have l3 : (3 : Nat) ≤ LIM := LIM_le (by decide)
  unfold PuO fn_law_box
  refine run_own rfl (s := [.val (.scr (ns.map .int))]) ?_ rfl
  unfold bd_law_box boxD
  simp_arith [list_scr, l3]
end Pg
namespace Pg
open PySem L2 Dv
theorem at_str {x : Str} {k : Nat} (hl : x.length ≤ 16777216) (h : atI x.cps.toList 0 = some k) : atD (.str x) (.int 0) = some (.val (.str ⟨#[k]⟩)) := by
  show (if x.length ≤ LIM then (atI x.cps.toList 0).map fun c => Opd.val (.str ⟨#[c]⟩) else none) = _
  rw [if_pos (LIM_le hl), h]; rfl
theorem cut_str {x y : Str} (hl : x.length ≤ 16777216) (h : cutS x (some 1) none = y) : cutD (.str x) (some 1) none = some (.val (.str y)) := by
  show (if x.length ≤ LIM then some (Opd.val (.str (cutS x (some 1) none))) else none) = _
  rw [if_pos (LIM_le hl), h]
theorem nin_letter {k : Nat} (h : k ∈ ("abcdefghijklmnopqrstuvwxyz" : Str).cps.toList) : ninD (.str ⟨#[k]⟩) (.str "abcdefghijklmnopqrstuvwxyz") = some (.val (.bl false)) := by
  show some (Opd.val (.bl (!(decide (k ∈ ("abcdefghijklmnopqrstuvwxyz" : Str).cps.toList))))) = _
  rw [decide_eq_true h]; rfl
theorem in_digit {k : Nat} (h : k ∈ ("0123456789" : Str).cps.toList) : inD (.str ⟨#[k]⟩) (.str "0123456789") = some (.val (.bl true)) := by
  show some (Opd.val (.bl (id (decide (k ∈ ("0123456789" : Str).cps.toList))))) = _
  rw [decide_eq_true h]; rfl
theorem name_one (c : Nat → Fn) {x : Str} {k : Nat} (h0 : (x == ("" : Str)) = false) (hl : x.length ≤ 16777216) (h1 : atI x.cps.toList 0 = some k) (h2 : k ∈ ("abcdefghijklmnopqrstuvwxyz" : Str).cps.toList) (h3 : cutS x (some 1) none = "") : Pu (fn_is_plain_name c) [.val (.str x)] (.bl true) := by
  have e1 := at_str hl h1
  have e2 := nin_letter h2
  have e3 := cut_str hl h3
  unfold Pu fn_is_plain_name
  refine run_val rfl (s := [.val (.str x), .val (.str ""), .un]) ?_ rfl
  unfold bd_is_plain_name
  simp_arith [h0, e1, e2, e3]
theorem name_two (c : Nat → Fn) {x : Str} {k d : Nat} (h0 : (x == ("" : Str)) = false) (hl : x.length ≤ 16777216) (h1 : atI x.cps.toList 0 = some k) (h2 : k ∈ ("abcdefghijklmnopqrstuvwxyz" : Str).cps.toList) (h3 : cutS x (some 1) none = ⟨#[d]⟩) (h4 : d ∈ ("0123456789" : Str).cps.toList) (h5 : d ≠ 48) : Pu (fn_is_plain_name c) [.val (.str x)] (.bl true) := by
  have e1 := at_str hl h1
  have e2 := nin_letter h2
  have e3 := cut_str hl h3
  have e4 : ((⟨#[d]⟩ : Str) == ("" : Str)) = false := by
    rw [beq_eq_false_iff_ne]
    intro z
    have : (⟨#[d]⟩ : Str).cps.toList = ("" : Str).cps.toList := by rw [z]
    have : [d] = [] := this
    cases this
  have e5 : ((⟨#[d]⟩ : Str) == ("0" : Str)) = false := by
    rw [beq_eq_false_iff_ne]
    intro z
    have : (⟨#[d]⟩ : Str).cps.toList = ("0" : Str).cps.toList := by rw [z]
    have : [d] = [48] := this
    simp at this
    exact h5 this
  have e6 : lenD [.str ⟨#[d]⟩] = some (.val (.int 1)) := by
    show (if (⟨#[d]⟩ : Str).length ≤ LIM then some (Opd.val (.int ((⟨#[d]⟩ : Str).length : Nat))) else none) = _
    rw [show (⟨#[d]⟩ : Str).length = 1 from rfl, if_pos (LIM_le (n := 1) (by decide))]; rfl
  have e7 : atD (.str ⟨#[d]⟩) (.int 0) = some (.val (.str ⟨#[d]⟩)) := at_str (by show (1 : Nat) ≤ _; decide) (by rfl)
  have e8 := in_digit h4
  have lc := lc_of (f := wSeq (sVar 1)) (g := gN 2) (t := tYesT) (e := sOp2 inD (sVar 2) (sC (.str "0123456789"))) (vs := [2]) (P := fun _ => true) (F := fun _ => .bl true)
    (s := [.val (.str x), .val (.str ⟨#[d]⟩), .un]) (s1 := [.val (.str x), .val (.str ⟨#[d]⟩), .un]) (w := [.val (.str x), .val (.str ⟨#[d]⟩), .un]) (fin := [.val (.str x), .val (.str ⟨#[d]⟩), .un]) (ds := [.str ⟨#[d]⟩]) (by simp_arith []; rfl) rfl (LIM_le (n := 1) (by decide))
    (fun y hy => by
      rw [List.mem_singleton.mp hy]
      refine ⟨[.val (.str x), .val (.str ⟨#[d]⟩), .val (.str ⟨#[d]⟩)], [.val (.str x), .val (.str ⟨#[d]⟩), .val (.str ⟨#[d]⟩)], rfl, rfl, fun _ => rfl, fun _ => ⟨.val (.bl true), [.val (.str x), .val (.str ⟨#[d]⟩), .val (.str ⟨#[d]⟩)], [.val (.str x), .val (.str ⟨#[d]⟩), .val (.str ⟨#[d]⟩)], ?_, rfl, rfl⟩⟩
      simp_arith [e8]) rfl
  have a1 : allD [.lst (([Dv.D.str ⟨#[d]⟩].filter fun _ => true).map fun _ => .bl true)] = some (.val (.bl true)) := rfl
  unfold Pu fn_is_plain_name
  refine run_val rfl (s := [.val (.str x), .val (.str ⟨#[d]⟩), .un]) ?_ rfl
  unfold bd_is_plain_name
  simp_arith [h0, e1, e2, e3, e4, e5, e6, e7, lc, a1]
end Pg
set_option maxHeartbeats 0
namespace K53
open PySem L2 Dv Pg
def top (i : Nat) : Stmt := PySem.Challenge.pw_stepsworn_k53_all_plans_of_a_program.main.body.getD i (.Pass ⟨0, 0, 0, 0⟩)
noncomputable def b_law (c : Nat → Fn) : S := (sSeq (sAsg 1 (sCall (c 532) [true] (aCons (sVar 0) aNil)))
    (sSeq (sAsg 2 (sCall (c 534) [true, true, true] (aCons (sVar 1) (aCons (sLst (aCons (sC (.str "y")) (aCons (sC (.str "z")) aNil))) (aCons (sC (.int 5)) aNil)))))
    (sSeq (sAsg 3 (sCall (c 533) [true, true] (aCons (sVar 1) (aCons (sC (.int 3)) aNil))))
    (sSeq (sAsg 4 (sCB sortD (aCons (sCall (c 1001) [true, true] (aCons (sVar 2) (aCons (sVar 3) aNil))) aNil)))
    (sSeq (sAsg 5 (sCall (c 465) [true, true] (aCons (sVar 2) (aCons (sVar 3) aNil))))
    (sSeq (sIfS (tOr (tB (sOp2 neD (sVar 5) (sCB tupD (aCons (sVar 4) aNil)))) (tB (sOp2 neD (sCall (c 462) [true] (aCons (sVar 2) aNil)) (sCall (c 1002) [true] (aCons (sVar 2) aNil))))) (sRet (sC (.bl false))) sSkip)
    (sSeq (sIfS (tAnd (tB (sOp2 gtD (sCB lenD (aCons (sVar 4) aNil)) (sC (.int 0)))) (tOr (tB (sOp2 isntD (sCall (c 447) [true, true] (aCons (sVar 2) (aCons (sOp2 atD (sVar 4) (sC (.int 0))) aNil))) (sC (.bl true)))) (tB (sOp2 isntD (sCall (c 447) [true, true] (aCons (sVar 2) (aCons (sOp2 atD (sVar 4) (sOp1 negD (sC (.int 1)))) aNil))) (sC (.bl true)))))) (sRet (sC (.bl false))) sSkip)
    (sRet (sOp2 isD (sCall (c 447) [true, true] (aCons (sVar 2) (aCons (sTup (aCons (sC (.str "in")) (aCons (sTup (aCons (sC (.str "left")) aNil)) aNil))) aNil))) (sC (.bl false)))))))))))
noncomputable def b_law_plans_g1 : G := (gN 7)
noncomputable def b_law_plans_b1 (c : Nat → Fn) : S := (sAsg 6 (sOp2 addD (sVar 6) (sLc (wSeq (sVar 5)) (gN 9) tYesT (sOp2 addD (sVar 7) (sTup (aCons (sVar 9) aNil))) [9])))
noncomputable def b_law_plans_g2 : G := (gN 4)
noncomputable def b_law_plans_b2 (c : Nat → Fn) : S := (sSeq (sAsg 5 (sCall (c 1004) [true, true] (aCons (sCB sortD (aCons (sCall (c 1001) [true, true] (aCons (sVar 4) (aCons (sVar 1) aNil))) aNil)) (aCons (sVar 1) aNil))))
    (sSeq (sAsg 6 (sLst aNil))
    (sSeq (sFor (wSeq (sVar 3)) b_law_plans_g1 (b_law_plans_b1 c))
    (sSeq (sAsg 3 (sVar 6))
    (sAsg 2 (sOp2 addD (sVar 2) (sLc (wSeq (sVar 3)) (gN 7) tYesT (sTup (aCons (sC (.str "head")) (aCons (sVar 7) aNil))) [7])))))))
noncomputable def b_law_plans (c : Nat → Fn) : S := (sSeq (sIfS (tB (sOp2 eqD (sOp2 atD (sVar 0) (sC (.int 0))) (sC (.str "fn")))) (sRet (sOp2 addD (sLst (aCons (sTup (aCons (sC (.str "shut")) aNil)) aNil)) (sLc (wSeq (sCall (c 1001) [true, true] (aCons (sOp2 atD (sVar 0) (sC (.int 2))) (aCons (sVar 1) aNil)))) (gN 8) tYesT (sTup (aCons (sC (.str "in")) (aCons (sVar 8) aNil))) [8]))) sSkip)
    (sSeq (sAsg 2 (sLst (aCons (sTup (aCons (sC (.str "head")) (aCons (sTup aNil) aNil))) aNil)))
    (sSeq (sAsg 3 (sLst (aCons (sTup aNil) aNil)))
    (sSeq (sFor (wSeq (sOp2 atD (sCall (c 1003) [true] (aCons (sVar 0) aNil)) (sC (.int 1)))) b_law_plans_g2 (b_law_plans_b2 c))
    (sRet (sVar 2))))))
noncomputable def b_law_once (c : Nat → Fn) : S := (sSeq (sIfS (tB (sOp2 eqD (sOp2 atD (sVar 0) (sC (.int 0))) (sC (.str "fn")))) (sRet (sTup (aCons (sC (.str "in")) (aCons (sCall (c 1002) [true] (aCons (sOp2 atD (sVar 0) (sC (.int 2))) aNil)) aNil)))) sSkip)
    (sRet (sTup (aCons (sC (.str "head")) (aCons (sCB tupD (aCons (sLc (wSeq (sOp2 atD (sCall (c 1003) [true] (aCons (sVar 0) aNil)) (sC (.int 1)))) (gN 1) tYesT (sTup (aCons (sCall (c 1002) [true] (aCons (sVar 1) aNil)) aNil)) [1]) aNil)) aNil)))))
noncomputable def b_law_spine_t1 (c : Nat → Fn) : T := (tB (sOp2 eqD (sOp2 atD (sVar 1) (sC (.int 0))) (sC (.str "call"))))
noncomputable def b_law_spine_b1 (c : Nat → Fn) : S := (sSeq (sAsg 2 (sOp2 addD (sLst (aCons (sOp2 atD (sVar 1) (sC (.int 2))) aNil)) (sVar 2)))
    (sAsg 1 (sOp2 atD (sVar 1) (sC (.int 1)))))
noncomputable def b_law_spine (c : Nat → Fn) : S := (sSeq (sAsg 1 (sVar 0))
    (sSeq (sAsg 2 (sLst aNil))
    (sSeq (sWh (b_law_spine_t1 c) (b_law_spine_b1 c))
    (sRet (sTup (aCons (sVar 1) (aCons (sVar 2) aNil)))))))
noncomputable def b_law_bags_g1 : G := (gN 7)
noncomputable def b_law_bags_b1 (c : Nat → Fn) : S := (sIfS (tOr (tB (sOp2 eqD (sCB lenD (aCons (sVar 6) aNil)) (sC (.int 0)))) (tB (sOp2 leD (sOp2 atD (sVar 6) (sOp1 negD (sC (.int 1)))) (sVar 7)))) (sDrop (sMut 5 fAppend (aCons (sOp2 addD (sVar 6) (sTup (aCons (sVar 7) aNil))) aNil))) sSkip)
noncomputable def b_law_bags_g2 : G := (gN 6)
noncomputable def b_law_bags_b2 (c : Nat → Fn) : S := (sFor (wSeq (sVar 0)) b_law_bags_g1 (b_law_bags_b1 c))
noncomputable def b_law_bags_g3 : G := (gN 4)
noncomputable def b_law_bags_b3 (c : Nat → Fn) : S := (sSeq (sAsg 5 (sLst aNil))
    (sSeq (sFor (wSeq (sVar 3)) b_law_bags_g2 (b_law_bags_b2 c))
    (sSeq (sAsg 3 (sVar 5))
    (sAsg 2 (sOp2 addD (sVar 2) (sVar 3))))))
noncomputable def b_law_bags (c : Nat → Fn) : S := (sSeq (sAsg 2 (sLst (aCons (sTup aNil) aNil)))
    (sSeq (sAsg 3 (sLst (aCons (sTup aNil) aNil)))
    (sSeq (sFor (wArgs rng1 (aCons (sVar 1) aNil)) b_law_bags_g3 (b_law_bags_b3 c))
    (sRet (sVar 2)))))
noncomputable def fns (c : Nat → Fn) : Nat → Fn
  | 1000 => run 1 6 (b_law c)
  | 532 => run 1 1 (bd_law_box c)
  | 534 => run 3 8 (bd_law_normal c)
  | 533 => run 2 6 (bd_law_pick c)
  | 1001 => run 2 10 (b_law_plans c)
  | 465 => run 2 2 (bd_plans c)
  | 462 => run 1 1 (bd_once_plan c)
  | 1002 => run 1 2 (b_law_once c)
  | 447 => run 2 2 (bd_is_plan c)
  | 1003 => run 1 3 (b_law_spine c)
  | 1004 => run 2 8 (b_law_bags c)
  | 444 => run 1 1 (bd_need_normal c)
  | 70 => run 3 3 (bd_need_number c)
  | 464 => run 2 8 (bd_plans_in c)
  | 461 => run 1 2 (bd_once_in c)
  | 193 => run 2 5 (bd_fits c)
  | 443 => run 1 1 (bd_is_normal c)
  | 34 => run 1 3 (bd_spine c)
  | 463 => run 2 7 (bd_bags_up_to c)
  | 446 => run 2 4 (bd_fits_bag c)
  | 99 => run 1 1 (bd_need_program c)
  | 80 => run 1 4 (bd_ready c)
  | 16 => run 1 1 (bd_need_wide c)
  | 15 => run 1 4 (bd_is_program c)
  | 6 => run 1 4 (bd_flat c)
  | 22 => run 1 6 (bd_addresses_of c)
  | 79 => run 1 2 (bd_indexes_ready c)
  | 5 => run 1 3 (bd_is_tree c)
  | 8 => run 1 5 (bd_levels_of c)
  | 78 => run 2 2 (bd_is_ready c)
  | 4 => run 1 1 (bd_is_node c)
  | 7 => run 1 4 (bd_ends_of c)
  | 3 => run 1 3 (bd_is_plain_name c)
  | 1 => run 1 1 (bd_is_natural c)
  | 0 => run 1 1 (bd_is_integer c)
  | _ => fun _ => .bad
noncomputable def sem : Nat → Nat → Fn
  | 0, _ => fun _ => .bad
  | n + 1, j => fns (sem n) j
section
variable {n : Nat}
theorem sem_law : sem (n + 1) 1000 = run 1 6 (b_law (sem n)) := rfl
theorem sem_law_box : sem (n + 1) 532 = run 1 1 (bd_law_box (sem n)) := rfl
theorem sem_law_normal : sem (n + 1) 534 = run 3 8 (bd_law_normal (sem n)) := rfl
theorem sem_law_pick : sem (n + 1) 533 = run 2 6 (bd_law_pick (sem n)) := rfl
theorem sem_law_plans : sem (n + 1) 1001 = run 2 10 (b_law_plans (sem n)) := rfl
theorem sem_plans : sem (n + 1) 465 = run 2 2 (bd_plans (sem n)) := rfl
theorem sem_once_plan : sem (n + 1) 462 = run 1 1 (bd_once_plan (sem n)) := rfl
theorem sem_law_once : sem (n + 1) 1002 = run 1 2 (b_law_once (sem n)) := rfl
theorem sem_is_plan : sem (n + 1) 447 = run 2 2 (bd_is_plan (sem n)) := rfl
theorem sem_law_spine : sem (n + 1) 1003 = run 1 3 (b_law_spine (sem n)) := rfl
theorem sem_law_bags : sem (n + 1) 1004 = run 2 8 (b_law_bags (sem n)) := rfl
theorem sem_need_normal : sem (n + 1) 444 = run 1 1 (bd_need_normal (sem n)) := rfl
theorem sem_need_number : sem (n + 1) 70 = run 3 3 (bd_need_number (sem n)) := rfl
theorem sem_plans_in : sem (n + 1) 464 = run 2 8 (bd_plans_in (sem n)) := rfl
theorem sem_once_in : sem (n + 1) 461 = run 1 2 (bd_once_in (sem n)) := rfl
theorem sem_fits : sem (n + 1) 193 = run 2 5 (bd_fits (sem n)) := rfl
theorem sem_is_normal : sem (n + 1) 443 = run 1 1 (bd_is_normal (sem n)) := rfl
theorem sem_spine : sem (n + 1) 34 = run 1 3 (bd_spine (sem n)) := rfl
theorem sem_bags_up_to : sem (n + 1) 463 = run 2 7 (bd_bags_up_to (sem n)) := rfl
theorem sem_fits_bag : sem (n + 1) 446 = run 2 4 (bd_fits_bag (sem n)) := rfl
theorem sem_need_program : sem (n + 1) 99 = run 1 1 (bd_need_program (sem n)) := rfl
theorem sem_ready : sem (n + 1) 80 = run 1 4 (bd_ready (sem n)) := rfl
theorem sem_need_wide : sem (n + 1) 16 = run 1 1 (bd_need_wide (sem n)) := rfl
theorem sem_is_program : sem (n + 1) 15 = run 1 4 (bd_is_program (sem n)) := rfl
theorem sem_flat : sem (n + 1) 6 = run 1 4 (bd_flat (sem n)) := rfl
theorem sem_addresses_of : sem (n + 1) 22 = run 1 6 (bd_addresses_of (sem n)) := rfl
theorem sem_indexes_ready : sem (n + 1) 79 = run 1 2 (bd_indexes_ready (sem n)) := rfl
theorem sem_is_tree : sem (n + 1) 5 = run 1 3 (bd_is_tree (sem n)) := rfl
theorem sem_levels_of : sem (n + 1) 8 = run 1 5 (bd_levels_of (sem n)) := rfl
theorem sem_is_ready : sem (n + 1) 78 = run 2 2 (bd_is_ready (sem n)) := rfl
theorem sem_is_node : sem (n + 1) 4 = run 1 1 (bd_is_node (sem n)) := rfl
theorem sem_ends_of : sem (n + 1) 7 = run 1 4 (bd_ends_of (sem n)) := rfl
theorem sem_is_plain_name : sem (n + 1) 3 = run 1 3 (bd_is_plain_name (sem n)) := rfl
theorem sem_is_natural : sem (n + 1) 1 = run 1 1 (bd_is_natural (sem n)) := rfl
theorem sem_is_integer : sem (n + 1) 0 = run 1 1 (bd_is_integer (sem n)) := rfl
end
structure Tab (K : PySem.W.Frag) (mg : Str → Option Value) where
  d1000 : Df K mg "law" (top 52) ["script"]
  d532 : Df K mg "_law_box" (top 45) ["script"]
  d534 : Df K mg "_law_normal" (top 47) ["box", "names", "most"]
  d533 : Df K mg "_law_pick" (top 46) ["box", "many"]
  d1001 : Df K mg "_law_plans" (top 50) ["program", "copies"]
  d465 : Df K mg "plans" (top 43) ["program", "copies"]
  d462 : Df K mg "once_plan" (top 40) ["program"]
  d1002 : Df K mg "_law_once" (top 51) ["program"]
  d447 : Df K mg "is_plan" (top 38) ["program", "value"]
  d1003 : Df K mg "_law_spine" (top 48) ["program"]
  d1004 : Df K mg "_law_bags" (top 49) ["choices", "copies"]
  d444 : Df K mg "need_normal" (top 35) ["program"]
  d70 : Df K mg "need_number" (top 8) ["number", "low", "high"]
  d464 : Df K mg "plans_in" (top 42) ["program", "copies"]
  d461 : Df K mg "once_in" (top 39) ["program"]
  d193 : Df K mg "fits" (top 36) ["program", "value"]
  d443 : Df K mg "is_normal" (top 34) ["program"]
  d34 : Df K mg "spine" (top 27) ["wide"]
  d463 : Df K mg "bags_up_to" (top 41) ["plans", "copies"]
  d446 : Df K mg "fits_bag" (top 37) ["program", "plans"]
  d99 : Df K mg "need_program" (top 26) ["program"]
  d80 : Df K mg "ready" (top 31) ["wide"]
  d16 : Df K mg "need_wide" (top 25) ["wide"]
  d15 : Df K mg "is_program" (top 24) ["value"]
  d6 : Df K mg "flat" (top 17) ["wide"]
  d22 : Df K mg "addresses_of" (top 20) ["tokens"]
  d79 : Df K mg "indexes_ready" (top 30) ["tokens"]
  d5 : Df K mg "is_tree" (top 16) ["value"]
  d8 : Df K mg "levels_of" (top 19) ["tokens"]
  d78 : Df K mg "is_ready" (top 29) ["tokens", "index"]
  d4 : Df K mg "is_node" (top 15) ["value"]
  d7 : Df K mg "ends_of" (top 18) ["tokens"]
  d3 : Df K mg "is_plain_name" (top 14) ["value"]
  d1 : Df K mg "is_natural" (top 7) ["value"]
  d0 : Df K mg "is_integer" (top 6) ["value"]
  z_all : mg "all" = none
  z_any : mg "any" = none
  z_bool : mg "bool" = none
  z_int : mg "int" = none
  z_isinstance : mg "isinstance" = none
  z_len : mg "len" = none
  z_list : mg "list" = none
  z_max : mg "max" = none
  z_range : mg "range" = none
  z_sorted : mg "sorted" = none
  z_str : mg "str" = none
  z_tuple : mg "tuple" = none
  z_zip : mg "zip" = none
  g_DIGITS : ∃ t, mg "DIGITS" = some (Value.str "0123456789" t)
  g_LETTERS : ∃ t, mg "LETTERS" = some (Value.str "abcdefghijklmnopqrstuvwxyz" t)
  g_MOST_COPIES : ∃ t, mg "MOST_COPIES" = some (Value.int (3) t)
  g_MOST_DIGITS : ∃ t, mg "MOST_DIGITS" = some (Value.int (6) t)
  g_MOST_LEVELS : ∃ t, mg "MOST_LEVELS" = some (Value.int (60) t)
  g_MOST_NODES : ∃ t, mg "MOST_NODES" = some (Value.int (200) t)
structure All (P : Program) (w : World) (base : Heap) {K : PySem.W.Frag} {mg : Str → Option Value} (T : Tab K mg) (n : Nat) : Prop where
  o1000 : Ok P w base T.d1000 n (sem n 1000)
  o532 : Ok P w base T.d532 n (sem n 532)
  o534 : Ok P w base T.d534 n (sem n 534)
  o533 : Ok P w base T.d533 n (sem n 533)
  o1001 : Ok P w base T.d1001 n (sem n 1001)
  o465 : Ok P w base T.d465 n (sem n 465)
  o462 : Ok P w base T.d462 n (sem n 462)
  o1002 : Ok P w base T.d1002 n (sem n 1002)
  o447 : Ok P w base T.d447 n (sem n 447)
  o1003 : Ok P w base T.d1003 n (sem n 1003)
  o1004 : Ok P w base T.d1004 n (sem n 1004)
  o444 : Ok P w base T.d444 n (sem n 444)
  o70 : Ok P w base T.d70 n (sem n 70)
  o464 : Ok P w base T.d464 n (sem n 464)
  o461 : Ok P w base T.d461 n (sem n 461)
  o193 : Ok P w base T.d193 n (sem n 193)
  o443 : Ok P w base T.d443 n (sem n 443)
  o34 : Ok P w base T.d34 n (sem n 34)
  o463 : Ok P w base T.d463 n (sem n 463)
  o446 : Ok P w base T.d446 n (sem n 446)
  o99 : Ok P w base T.d99 n (sem n 99)
  o80 : Ok P w base T.d80 n (sem n 80)
  o16 : Ok P w base T.d16 n (sem n 16)
  o15 : Ok P w base T.d15 n (sem n 15)
  o6 : Ok P w base T.d6 n (sem n 6)
  o22 : Ok P w base T.d22 n (sem n 22)
  o79 : Ok P w base T.d79 n (sem n 79)
  o5 : Ok P w base T.d5 n (sem n 5)
  o8 : Ok P w base T.d8 n (sem n 8)
  o78 : Ok P w base T.d78 n (sem n 78)
  o4 : Ok P w base T.d4 n (sem n 4)
  o7 : Ok P w base T.d7 n (sem n 7)
  o3 : Ok P w base T.d3 n (sem n 3)
  o1 : Ok P w base T.d1 n (sem n 1)
  o0 : Ok P w base T.d0 n (sem n 0)
section
variable {P : Program} {w : World} {K : PySem.W.Frag} {mg : Str → Option Value} {base : Heap} {n : Nat}
theorem sc1000 : FnScope ["script", "box", "program", "copies", "due", "found"] ["script"] (defScope (top 52)) := ⟨rfl, rfl, rfl, by decide +kernel, rfl, by decide +kernel, by decide +kernel⟩
theorem ok1000 (T : Tab K mg) (A : All P w base T n) : Ok P w base T.d1000 (n + 1) (run 1 6 (b_law (sem n))) := by
  refine fn_ok (N := ["script", "box", "program", "copies", "due", "found"]) (ps := ["script"]) (n := n) (b := b_law (sem n)) T.d1000.F sc1000 fun X E hP hw hK hmg hbase hN hc hr hs hfn hp tk => ?_
  subst hP hw hK hmg hbase
  have hd : X.N.Nodup := nxd hN (by decide +kernel)
  exact (sss_cons (ss_asg (i := 1) hd (nx hN rfl) (loc hs (by first | exact .inl rfl | exact .inr rfl)) (se_df [true] T.d532 A.o532 hr (gl hs rfl) tk (sa_cons (se_var (i := 0) (nx hN rfl) (vis hs (by first | exact .inl rfl | exact .inr (.inl rfl) | exact .inr (.inr rfl)))) sa_nil)) (hf := .inl (hfn _)))
    (sss_cons (ss_asg (i := 2) hd (nx hN rfl) (loc hs (by first | exact .inl rfl | exact .inr rfl)) (se_df [true, true, true] T.d534 A.o534 hr (gl hs rfl) tk (sa_cons (se_var (i := 1) (nx hN rfl) (vis hs (by first | exact .inl rfl | exact .inr (.inl rfl) | exact .inr (.inr rfl)))) (sa_cons (se_lst (sa_cons se_str (sa_cons se_str sa_nil))) (sa_cons se_int sa_nil)))) (hf := .inl (hfn _)))
    (sss_cons (ss_asg (i := 3) hd (nx hN rfl) (loc hs (by first | exact .inl rfl | exact .inr rfl)) (se_df [true, true] T.d533 A.o533 hr (gl hs rfl) tk (sa_cons (se_var (i := 1) (nx hN rfl) (vis hs (by first | exact .inl rfl | exact .inr (.inl rfl) | exact .inr (.inr rfl)))) (sa_cons se_int sa_nil))) (hf := .inl (hfn _)))
    (sss_cons (ss_asg (i := 4) hd (nx hN rfl) (loc hs (by first | exact .inl rfl | exact .inr rfl)) (se_callB (cs_sorted hr) (gl hs rfl) T.z_sorted bt_sorted (sa_cons (se_df [true, true] T.d1001 A.o1001 hr (gl hs rfl) tk (sa_cons (se_var (i := 2) (nx hN rfl) (vis hs (by first | exact .inl rfl | exact .inr (.inl rfl) | exact .inr (.inr rfl)))) (sa_cons (se_var (i := 3) (nx hN rfl) (vis hs (by first | exact .inl rfl | exact .inr (.inl rfl) | exact .inr (.inr rfl)))) sa_nil))) sa_nil)) (hf := .inl (hfn _)))
    (sss_cons (ss_asg (i := 5) hd (nx hN rfl) (loc hs (by first | exact .inl rfl | exact .inr rfl)) (se_df [true, true] T.d465 A.o465 hr (gl hs rfl) tk (sa_cons (se_var (i := 2) (nx hN rfl) (vis hs (by first | exact .inl rfl | exact .inr (.inl rfl) | exact .inr (.inr rfl)))) (sa_cons (se_var (i := 3) (nx hN rfl) (vis hs (by first | exact .inl rfl | exact .inr (.inl rfl) | exact .inr (.inr rfl)))) sa_nil))) (hf := .inl (hfn _)))
    (sss_cons (ss_if (SW.toT (sw_or (st_cmp (os_ne hr) (se_var (i := 5) (nx hN rfl) (vis hs (by first | exact .inl rfl | exact .inr (.inl rfl) | exact .inr (.inr rfl)))) (se_callTy (cs_tuple) (gl hs rfl) T.z_tuple bt_tuple (sa_cons (se_var (i := 4) (nx hN rfl) (vis hs (by first | exact .inl rfl | exact .inr (.inl rfl) | exact .inr (.inr rfl)))) sa_nil)) rfl) (sw_or1 (st_cmp (os_ne hr) (se_df [true] T.d462 A.o462 hr (gl hs rfl) tk (sa_cons (se_var (i := 2) (nx hN rfl) (vis hs (by first | exact .inl rfl | exact .inr (.inl rfl) | exact .inr (.inr rfl)))) sa_nil)) (se_df [true] T.d1002 A.o1002 hr (gl hs rfl) tk (sa_cons (se_var (i := 2) (nx hN rfl) (vis hs (by first | exact .inl rfl | exact .inr (.inl rfl) | exact .inr (.inr rfl)))) sa_nil)) rfl)))) (sss_one (ss_ret se_bl)) sss_nil)
    (sss_cons (ss_if (SW.toT (sw_and (st_cmp (os_gt hr) (se_callB (cs_len) (gl hs rfl) T.z_len bt_len (sa_cons (se_var (i := 4) (nx hN rfl) (vis hs (by first | exact .inl rfl | exact .inr (.inl rfl) | exact .inr (.inr rfl)))) sa_nil)) se_int rfl) (sw_and1 (SW.toT (sw_or (st_cmp (os_isnt) (se_df [true, true] T.d447 A.o447 hr (gl hs rfl) tk (sa_cons (se_var (i := 2) (nx hN rfl) (vis hs (by first | exact .inl rfl | exact .inr (.inl rfl) | exact .inr (.inr rfl)))) (sa_cons (se_ix (se_var (i := 4) (nx hN rfl) (vis hs (by first | exact .inl rfl | exact .inr (.inl rfl) | exact .inr (.inr rfl)))) se_int) sa_nil))) se_bl rfl) (sw_or1 (st_cmp (os_isnt) (se_df [true, true] T.d447 A.o447 hr (gl hs rfl) tk (sa_cons (se_var (i := 2) (nx hN rfl) (vis hs (by first | exact .inl rfl | exact .inr (.inl rfl) | exact .inr (.inr rfl)))) (sa_cons (se_ix (se_var (i := 4) (nx hN rfl) (vis hs (by first | exact .inl rfl | exact .inr (.inl rfl) | exact .inr (.inr rfl)))) (se_un us_neg se_int)) sa_nil))) se_bl rfl))))))) (sss_one (ss_ret se_bl)) sss_nil)
    (sss_one (ss_ret (se_cmp (os_is) (se_df [true, true] T.d447 A.o447 hr (gl hs rfl) tk (sa_cons (se_var (i := 2) (nx hN rfl) (vis hs (by first | exact .inl rfl | exact .inr (.inl rfl) | exact .inr (.inr rfl)))) (sa_cons (se_tup (sa_cons se_str (sa_cons (se_tup (sa_cons se_str sa_nil)) sa_nil))) sa_nil))) se_bl rfl))))))))))
theorem sc532 : FnScope ["script"] ["script"] (defScope (top 45)) := ⟨rfl, rfl, rfl, by decide +kernel, rfl, by decide +kernel, by decide +kernel⟩
theorem ok532 (T : Tab K mg) (A : All P w base T n) : Ok P w base T.d532 (n + 1) (run 1 1 (bd_law_box (sem n))) := by
  refine fn_ok (N := ["script"]) (ps := ["script"]) (n := n) (b := bd_law_box (sem n)) T.d532.F sc532 fun X E hP hw hK hmg hbase hN hc hr hs hfn hp tk => ?_
  subst hP hw hK hmg hbase
  have hd : X.N.Nodup := nxd hN (by decide +kernel)
  exact (sss_one (ss_ret (se_lst (sa_cons (se_callTy (cs_list) (gl hs rfl) T.z_list bt_list (sa_cons (se_var (i := 0) (nx hN rfl) (vis hs (by first | exact .inl rfl | exact .inr (.inl rfl) | exact .inr (.inr rfl)))) sa_nil)) (sa_cons se_int (sa_cons se_int sa_nil))))))
theorem sc534 : FnScope ["box", "names", "most", "x", "found", "left", "k", "share"] ["box", "names", "most"] (defScope (top 47)) := ⟨rfl, rfl, rfl, by decide +kernel, rfl, by decide +kernel, by decide +kernel⟩
theorem ok534 (T : Tab K mg) (A : All P w base T n) : Ok P w base T.d534 (n + 1) (run 3 8 (bd_law_normal (sem n))) := by
  refine fn_ok (N := ["box", "names", "most", "x", "found", "left", "k", "share"]) (ps := ["box", "names", "most"]) (n := n) (b := bd_law_normal (sem n)) T.d534.F sc534 fun X E hP hw hK hmg hbase hN hc hr hs hfn hp tk => ?_
  subst hP hw hK hmg hbase
  have hd : X.N.Nodup := nxd hN (by decide +kernel)
  exact (sss_cons (ss_if (SW.toT (sw_and (st_cmp (os_gt hr) (se_var (i := 2) (nx hN rfl) (vis hs (by first | exact .inl rfl | exact .inr (.inl rfl) | exact .inr (.inr rfl)))) se_int rfl) (sw_and1 (st_cmp (os_eq hr) (se_df [true, true] T.d533 A.o533 hr (gl hs rfl) tk (sa_cons (se_var (i := 0) (nx hN rfl) (vis hs (by first | exact .inl rfl | exact .inr (.inl rfl) | exact .inr (.inr rfl)))) (sa_cons se_int sa_nil))) se_int rfl)))) (sss_cons (ss_asg (i := 3) hd (nx hN rfl) (loc hs (by first | exact .inl rfl | exact .inr rfl)) (se_ix (se_lst (sa_cons se_str (sa_cons se_str (sa_cons se_str (sa_cons se_str sa_nil))))) (se_df [true, true] T.d533 A.o533 hr (gl hs rfl) tk (sa_cons (se_var (i := 0) (nx hN rfl) (vis hs (by first | exact .inl rfl | exact .inr (.inl rfl) | exact .inr (.inr rfl)))) (sa_cons se_int sa_nil)))) (hf := .inl (hfn _)))
    (sss_one (ss_ret (se_tup (sa_cons se_str (sa_cons (se_var (i := 3) (nx hN rfl) (vis hs (by first | exact .inl rfl | exact .inr (.inl rfl) | exact .inr (.inr rfl)))) (sa_cons (se_df [true, true, true] T.d534 A.o534 hr (gl hs rfl) tk (sa_cons (se_var (i := 0) (nx hN rfl) (vis hs (by first | exact .inl rfl | exact .inr (.inl rfl) | exact .inr (.inr rfl)))) (sa_cons (se_op (os_add) (se_var (i := 1) (nx hN rfl) (vis hs (by first | exact .inl rfl | exact .inr (.inl rfl) | exact .inr (.inr rfl)))) (se_lst (sa_cons (se_var (i := 3) (nx hN rfl) (vis hs (by first | exact .inl rfl | exact .inr (.inl rfl) | exact .inr (.inr rfl)))) sa_nil))) (sa_cons (se_op (os_sub) (se_var (i := 2) (nx hN rfl) (vis hs (by first | exact .inl rfl | exact .inr (.inl rfl) | exact .inr (.inr rfl)))) se_int) sa_nil)))) sa_nil))))))) sss_nil)
    (sss_cons (ss_asg (i := 4) hd (nx hN rfl) (loc hs (by first | exact .inl rfl | exact .inr rfl)) (se_tup (sa_cons se_str (sa_cons (se_ix (se_var (i := 1) (nx hN rfl) (vis hs (by first | exact .inl rfl | exact .inr (.inl rfl) | exact .inr (.inr rfl)))) (se_df [true, true] T.d533 A.o533 hr (gl hs rfl) tk (sa_cons (se_var (i := 0) (nx hN rfl) (vis hs (by first | exact .inl rfl | exact .inr (.inl rfl) | exact .inr (.inr rfl)))) (sa_cons (se_callB (cs_len) (gl hs rfl) T.z_len bt_len (sa_cons (se_var (i := 1) (nx hN rfl) (vis hs (by first | exact .inl rfl | exact .inr (.inl rfl) | exact .inr (.inr rfl)))) sa_nil)) sa_nil)))) sa_nil))) (hf := .inl (hfn _)))
    (sss_cons (ss_asg (i := 5) hd (nx hN rfl) (loc hs (by first | exact .inl rfl | exact .inr rfl)) (se_op (os_sub) (se_var (i := 2) (nx hN rfl) (vis hs (by first | exact .inl rfl | exact .inr (.inl rfl) | exact .inr (.inr rfl)))) se_int) (hf := .inl (hfn _)))
    (sss_cons (ss_for hp hc (si_range1 (gl hs rfl) T.z_range (sa_cons se_int sa_nil)) (sg_name (i := 6) hd (nx hN rfl) (loc hs (by first | exact .inl rfl | exact .inr rfl)) (.inl (hfn _))) (sss_cons (ss_if (SW.toT (sw_or (st_cmp (os_lt hr) (se_var (i := 5) (nx hN rfl) (vis hs (by first | exact .inl rfl | exact .inr (.inl rfl) | exact .inr (.inr rfl)))) se_int rfl) (sw_or1 (st_cmp (os_eq hr) (se_df [true, true] T.d533 A.o533 hr (gl hs rfl) tk (sa_cons (se_var (i := 0) (nx hN rfl) (vis hs (by first | exact .inl rfl | exact .inr (.inl rfl) | exact .inr (.inr rfl)))) (sa_cons se_int sa_nil))) se_int rfl)))) (sss_one ss_break) sss_nil)
    (sss_cons (ss_asg (i := 7) hd (nx hN rfl) (loc hs (by first | exact .inl rfl | exact .inr rfl)) (se_op (os_add) se_int (se_df [true, true] T.d533 A.o533 hr (gl hs rfl) tk (sa_cons (se_var (i := 0) (nx hN rfl) (vis hs (by first | exact .inl rfl | exact .inr (.inl rfl) | exact .inr (.inr rfl)))) (sa_cons (se_op (os_sub) (se_var (i := 5) (nx hN rfl) (vis hs (by first | exact .inl rfl | exact .inr (.inl rfl) | exact .inr (.inr rfl)))) se_int) sa_nil)))) (hf := .inl (hfn _)))
    (sss_cons (ss_asg (i := 4) hd (nx hN rfl) (loc hs (by first | exact .inl rfl | exact .inr rfl)) (se_tup (sa_cons se_str (sa_cons (se_var (i := 4) (nx hN rfl) (vis hs (by first | exact .inl rfl | exact .inr (.inl rfl) | exact .inr (.inr rfl)))) (sa_cons (se_df [true, true, true] T.d534 A.o534 hr (gl hs rfl) tk (sa_cons (se_var (i := 0) (nx hN rfl) (vis hs (by first | exact .inl rfl | exact .inr (.inl rfl) | exact .inr (.inr rfl)))) (sa_cons (se_var (i := 1) (nx hN rfl) (vis hs (by first | exact .inl rfl | exact .inr (.inl rfl) | exact .inr (.inr rfl)))) (sa_cons (se_var (i := 7) (nx hN rfl) (vis hs (by first | exact .inl rfl | exact .inr (.inl rfl) | exact .inr (.inr rfl)))) sa_nil)))) sa_nil)))) (hf := .inl (hfn _)))
    (sss_one (ss_asg (i := 5) hd (nx hN rfl) (loc hs (by first | exact .inl rfl | exact .inr rfl)) (se_op (os_sub) (se_op (os_sub) (se_var (i := 5) (nx hN rfl) (vis hs (by first | exact .inl rfl | exact .inr (.inl rfl) | exact .inr (.inr rfl)))) se_int) (se_var (i := 7) (nx hN rfl) (vis hs (by first | exact .inl rfl | exact .inr (.inl rfl) | exact .inr (.inr rfl))))) (hf := .inl (hfn _))))))))
    (sss_one (ss_ret (se_var (i := 4) (nx hN rfl) (vis hs (by first | exact .inl rfl | exact .inr (.inl rfl) | exact .inr (.inr rfl))))))))))
theorem sc533 : FnScope ["box", "many", "found", "k", "cell", "mixed"] ["box", "many"] (defScope (top 46)) := ⟨rfl, rfl, rfl, by decide +kernel, rfl, by decide +kernel, by decide +kernel⟩
theorem ok533 (T : Tab K mg) (A : All P w base T n) : Ok P w base T.d533 (n + 1) (run 2 6 (bd_law_pick (sem n))) := by
  refine fn_ok (N := ["box", "many", "found", "k", "cell", "mixed"]) (ps := ["box", "many"]) (n := n) (b := bd_law_pick (sem n)) T.d533.F sc533 fun X E hP hw hK hmg hbase hN hc hr hs hfn hp tk => ?_
  subst hP hw hK hmg hbase
  have hd : X.N.Nodup := nxd hN (by decide +kernel)
  exact (sss_cons (ss_if (st_cmp (os_lt hr) (se_var (i := 1) (nx hN rfl) (vis hs (by first | exact .inl rfl | exact .inr (.inl rfl) | exact .inr (.inr rfl)))) se_int rfl) (sss_one (ss_ret se_int)) sss_nil)
    (sss_cons (ss_if (st_cmp (os_gt hr) (se_ix (se_var (i := 0) (nx hN rfl) (vis hs (by first | exact .inl rfl | exact .inr (.inl rfl) | exact .inr (.inr rfl)))) se_int) se_int rfl) (sss_cons (ss_asg (i := 2) hd (nx hN rfl) (loc hs (by first | exact .inl rfl | exact .inr rfl)) (se_op (os_mod) (se_callTy (cs_int) (gl hs rfl) T.z_int bt_int (sa_cons (se_ix (se_var (i := 0) (nx hN rfl) (vis hs (by first | exact .inl rfl | exact .inr (.inl rfl) | exact .inr (.inr rfl)))) se_int) sa_nil)) (se_var (i := 1) (nx hN rfl) (vis hs (by first | exact .inl rfl | exact .inr (.inl rfl) | exact .inr (.inr rfl))))) (hf := .inl (hfn _)))
    (sss_cons (ss_set (i := 0) (nx hN rfl) (vis hs (by first | exact .inl rfl | exact .inr (.inl rfl) | exact .inr (.inr rfl))) se_int (se_op (os_fdiv) (se_ix (se_var (i := 0) (nx hN rfl) (vis hs (by first | exact .inl rfl | exact .inr (.inl rfl) | exact .inr (.inr rfl)))) se_int) (se_var (i := 1) (nx hN rfl) (vis hs (by first | exact .inl rfl | exact .inr (.inl rfl) | exact .inr (.inr rfl))))))
    (sss_one (ss_ret (se_var (i := 2) (nx hN rfl) (vis hs (by first | exact .inl rfl | exact .inr (.inl rfl) | exact .inr (.inr rfl)))))))) sss_nil)
    (sss_cons (ss_asg (i := 3) hd (nx hN rfl) (loc hs (by first | exact .inl rfl | exact .inr rfl)) (se_ix (se_var (i := 0) (nx hN rfl) (vis hs (by first | exact .inl rfl | exact .inr (.inl rfl) | exact .inr (.inr rfl)))) se_int) (hf := .inl (hfn _)))
    (sss_cons (ss_set (i := 0) (nx hN rfl) (vis hs (by first | exact .inl rfl | exact .inr (.inl rfl) | exact .inr (.inr rfl))) se_int (se_op (os_add) (se_var (i := 3) (nx hN rfl) (vis hs (by first | exact .inl rfl | exact .inr (.inl rfl) | exact .inr (.inr rfl)))) se_int))
    (sss_cons (ss_asg (i := 4) hd (nx hN rfl) (loc hs (by first | exact .inl rfl | exact .inr rfl)) (se_if (st_cmp (os_gt hr) (se_callB (cs_len) (gl hs rfl) T.z_len bt_len (sa_cons (se_ix (se_var (i := 0) (nx hN rfl) (vis hs (by first | exact .inl rfl | exact .inr (.inl rfl) | exact .inr (.inr rfl)))) se_int) sa_nil)) se_int rfl) (se_ix (se_ix (se_var (i := 0) (nx hN rfl) (vis hs (by first | exact .inl rfl | exact .inr (.inl rfl) | exact .inr (.inr rfl)))) se_int) (se_op (os_mod) (se_var (i := 3) (nx hN rfl) (vis hs (by first | exact .inl rfl | exact .inr (.inl rfl) | exact .inr (.inr rfl)))) (se_callB (cs_len) (gl hs rfl) T.z_len bt_len (sa_cons (se_ix (se_var (i := 0) (nx hN rfl) (vis hs (by first | exact .inl rfl | exact .inr (.inl rfl) | exact .inr (.inr rfl)))) se_int) sa_nil)))) se_int) (hf := .inl (hfn _)))
    (sss_cons (ss_if (SW.toT (sw_and (st_cmp (os_lt hr) (se_var (i := 3) (nx hN rfl) (vis hs (by first | exact .inl rfl | exact .inr (.inl rfl) | exact .inr (.inr rfl)))) (se_callB (cs_len) (gl hs rfl) T.z_len bt_len (sa_cons (se_ix (se_var (i := 0) (nx hN rfl) (vis hs (by first | exact .inl rfl | exact .inr (.inl rfl) | exact .inr (.inr rfl)))) se_int) sa_nil)) rfl) (sw_and1 (st_cmp (os_ge hr) (se_var (i := 4) (nx hN rfl) (vis hs (by first | exact .inl rfl | exact .inr (.inl rfl) | exact .inr (.inr rfl)))) (se_op (os_pow) se_int se_int) rfl)))) (sss_cons (ss_set (i := 0) (nx hN rfl) (vis hs (by first | exact .inl rfl | exact .inr (.inl rfl) | exact .inr (.inr rfl))) se_int (se_op (os_fdiv) (se_var (i := 4) (nx hN rfl) (vis hs (by first | exact .inl rfl | exact .inr (.inl rfl) | exact .inr (.inr rfl)))) (se_var (i := 1) (nx hN rfl) (vis hs (by first | exact .inl rfl | exact .inr (.inl rfl) | exact .inr (.inr rfl))))))
    (sss_one (ss_ret (se_op (os_mod) (se_callTy (cs_int) (gl hs rfl) T.z_int bt_int (sa_cons (se_var (i := 4) (nx hN rfl) (vis hs (by first | exact .inl rfl | exact .inr (.inl rfl) | exact .inr (.inr rfl)))) sa_nil)) (se_var (i := 1) (nx hN rfl) (vis hs (by first | exact .inl rfl | exact .inr (.inl rfl) | exact .inr (.inr rfl)))))))) sss_nil)
    (sss_cons (ss_asg (i := 5) hd (nx hN rfl) (loc hs (by first | exact .inl rfl | exact .inr rfl)) (se_op (os_mod) (se_op (os_mul) (se_op (os_add) (se_op (os_mod) (se_callTy (cs_int) (gl hs rfl) T.z_int bt_int (sa_cons (se_var (i := 4) (nx hN rfl) (vis hs (by first | exact .inl rfl | exact .inr (.inl rfl) | exact .inr (.inr rfl)))) sa_nil)) se_int) se_int) se_int) se_int) (hf := .inl (hfn _)))
    (sss_cons (ss_asg (i := 5) hd (nx hN rfl) (loc hs (by first | exact .inl rfl | exact .inr rfl)) (se_op (os_mod) (se_op (os_add) (se_op (os_add) (se_var (i := 5) (nx hN rfl) (vis hs (by first | exact .inl rfl | exact .inr (.inl rfl) | exact .inr (.inr rfl)))) (se_op (os_mul) (se_op (os_mul) (se_var (i := 3) (nx hN rfl) (vis hs (by first | exact .inl rfl | exact .inr (.inl rfl) | exact .inr (.inr rfl)))) (se_var (i := 3) (nx hN rfl) (vis hs (by first | exact .inl rfl | exact .inr (.inl rfl) | exact .inr (.inr rfl))))) se_int)) (se_op (os_mul) se_int (se_var (i := 3) (nx hN rfl) (vis hs (by first | exact .inl rfl | exact .inr (.inl rfl) | exact .inr (.inr rfl)))))) se_int) (hf := .inl (hfn _)))
    (sss_cons (ss_asg (i := 5) hd (nx hN rfl) (loc hs (by first | exact .inl rfl | exact .inr rfl)) (se_op (os_mod) (se_op (os_mul) (se_var (i := 5) (nx hN rfl) (vis hs (by first | exact .inl rfl | exact .inr (.inl rfl) | exact .inr (.inr rfl)))) (se_var (i := 5) (nx hN rfl) (vis hs (by first | exact .inl rfl | exact .inr (.inl rfl) | exact .inr (.inr rfl))))) se_int) (hf := .inl (hfn _)))
    (sss_one (ss_ret (se_op (os_mod) (se_op (os_fdiv) (se_var (i := 5) (nx hN rfl) (vis hs (by first | exact .inl rfl | exact .inr (.inl rfl) | exact .inr (.inr rfl)))) se_int) (se_var (i := 1) (nx hN rfl) (vis hs (by first | exact .inl rfl | exact .inr (.inl rfl) | exact .inr (.inr rfl))))))))))))))))
theorem sc1001 : FnScope ["program", "copies", "found", "rows", "argument", "bags", "made", "row", "one", "bag"] ["program", "copies"] (defScope (top 50)) := ⟨rfl, rfl, rfl, by decide +kernel, rfl, by decide +kernel, by decide +kernel⟩
theorem ok1001 (T : Tab K mg) (A : All P w base T n) : Ok P w base T.d1001 (n + 1) (run 2 10 (b_law_plans (sem n))) := by
  refine fn_ok (N := ["program", "copies", "found", "rows", "argument", "bags", "made", "row", "one", "bag"]) (ps := ["program", "copies"]) (n := n) (b := b_law_plans (sem n)) T.d1001.F sc1001 fun X E hP hw hK hmg hbase hN hc hr hs hfn hp tk => ?_
  subst hP hw hK hmg hbase
  have hd : X.N.Nodup := nxd hN (by decide +kernel)
  exact (sss_cons (ss_if (st_cmp (os_eq hr) (se_ix (se_var (i := 0) (nx hN rfl) (vis hs (by first | exact .inl rfl | exact .inr (.inl rfl) | exact .inr (.inr rfl)))) se_int) se_str rfl) (sss_one (ss_ret (se_op (os_add) (se_lst (sa_cons (se_tup (sa_cons se_str sa_nil)) sa_nil)) (se_lc hc hd (si_seq (se_df [true, true] T.d1001 A.o1001 hr (gl hs rfl) tk (sa_cons (se_ix (se_var (i := 0) (nx hN rfl) (vis hs (by first | exact .inl rfl | exact .inr (.inl rfl) | exact .inr (.inr rfl)))) se_int) (sa_cons (se_var (i := 1) (nx hN rfl) (vis hs (by first | exact .inl rfl | exact .inr (.inl rfl) | exact .inr (.inr rfl)))) sa_nil)))) (blko hN hs (own := [("one", 8)]) ⟨rfl, by decide +kernel, by decide +kernel, by decide +kernel, by decide +kernel⟩) rfl (by decide) (fun _ _ _ _ _ => (sg_name (i := 8) hd (nx hN rfl) (locB (by first | exact .inl rfl | exact .inr rfl)) (hfB (by first | exact .inl rfl | exact .inr rfl)))) (fun _ _ _ _ _ => sts_nil) (fun _ _ _ _ _ => (se_tup (sa_cons se_str (sa_cons (se_var (i := 8) (nx hN rfl) (visB (by first | exact .inl rfl | exact .inr (.inl rfl) | exact .inr (.inr rfl)))) sa_nil)))))))) sss_nil)
    (sss_cons (ss_asg (i := 2) hd (nx hN rfl) (loc hs (by first | exact .inl rfl | exact .inr rfl)) (se_lst (sa_cons (se_tup (sa_cons se_str (sa_cons (se_tup sa_nil) sa_nil))) sa_nil)) (hf := .inl (hfn _)))
    (sss_cons (ss_asg (i := 3) hd (nx hN rfl) (loc hs (by first | exact .inl rfl | exact .inr rfl)) (se_lst (sa_cons (se_tup sa_nil) sa_nil)) (hf := .inl (hfn _)))
    (sss_cons (ss_for hp hc (si_seq (se_ix (se_df [true] T.d1003 A.o1003 hr (gl hs rfl) tk (sa_cons (se_var (i := 0) (nx hN rfl) (vis hs (by first | exact .inl rfl | exact .inr (.inl rfl) | exact .inr (.inr rfl)))) sa_nil)) se_int)) (sg_name (i := 4) hd (nx hN rfl) (loc hs (by first | exact .inl rfl | exact .inr rfl)) (.inl (hfn _))) (sss_cons (ss_asg (i := 5) hd (nx hN rfl) (loc hs (by first | exact .inl rfl | exact .inr rfl)) (se_df [true, true] T.d1004 A.o1004 hr (gl hs rfl) tk (sa_cons (se_callB (cs_sorted hr) (gl hs rfl) T.z_sorted bt_sorted (sa_cons (se_df [true, true] T.d1001 A.o1001 hr (gl hs rfl) tk (sa_cons (se_var (i := 4) (nx hN rfl) (vis hs (by first | exact .inl rfl | exact .inr (.inl rfl) | exact .inr (.inr rfl)))) (sa_cons (se_var (i := 1) (nx hN rfl) (vis hs (by first | exact .inl rfl | exact .inr (.inl rfl) | exact .inr (.inr rfl)))) sa_nil))) sa_nil)) (sa_cons (se_var (i := 1) (nx hN rfl) (vis hs (by first | exact .inl rfl | exact .inr (.inl rfl) | exact .inr (.inr rfl)))) sa_nil))) (hf := .inl (hfn _)))
    (sss_cons (ss_asg (i := 6) hd (nx hN rfl) (loc hs (by first | exact .inl rfl | exact .inr rfl)) (se_lst sa_nil) (hf := .inl (hfn _)))
    (sss_cons (ss_for hp hc (si_seq (se_var (i := 3) (nx hN rfl) (vis hs (by first | exact .inl rfl | exact .inr (.inl rfl) | exact .inr (.inr rfl))))) (sg_name (i := 7) hd (nx hN rfl) (loc hs (by first | exact .inl rfl | exact .inr rfl)) (.inl (hfn _))) (sss_one (ss_asg (i := 6) hd (nx hN rfl) (loc hs (by first | exact .inl rfl | exact .inr rfl)) (se_op (os_add) (se_var (i := 6) (nx hN rfl) (vis hs (by first | exact .inl rfl | exact .inr (.inl rfl) | exact .inr (.inr rfl)))) (se_lc hc hd (si_seq (se_var (i := 5) (nx hN rfl) (vis hs (by first | exact .inl rfl | exact .inr (.inl rfl) | exact .inr (.inr rfl))))) (blko hN hs (own := [("bag", 9)]) ⟨rfl, by decide +kernel, by decide +kernel, by decide +kernel, by decide +kernel⟩) rfl (by decide) (fun _ _ _ _ _ => (sg_name (i := 9) hd (nx hN rfl) (locB (by first | exact .inl rfl | exact .inr rfl)) (hfB (by first | exact .inl rfl | exact .inr rfl)))) (fun _ _ _ _ _ => sts_nil) (fun _ _ _ _ _ => (se_op (os_add) (se_var (i := 7) (nx hN rfl) (visB (by first | exact .inl rfl | exact .inr (.inl rfl) | exact .inr (.inr rfl)))) (se_tup (sa_cons (se_var (i := 9) (nx hN rfl) (visB (by first | exact .inl rfl | exact .inr (.inl rfl) | exact .inr (.inr rfl)))) sa_nil)))))) (hf := .inl (hfn _)))))
    (sss_cons (ss_asg (i := 3) hd (nx hN rfl) (loc hs (by first | exact .inl rfl | exact .inr rfl)) (se_var (i := 6) (nx hN rfl) (vis hs (by first | exact .inl rfl | exact .inr (.inl rfl) | exact .inr (.inr rfl)))) (hf := .inl (hfn _)))
    (sss_one (ss_asg (i := 2) hd (nx hN rfl) (loc hs (by first | exact .inl rfl | exact .inr rfl)) (se_op (os_add) (se_var (i := 2) (nx hN rfl) (vis hs (by first | exact .inl rfl | exact .inr (.inl rfl) | exact .inr (.inr rfl)))) (se_lc hc hd (si_seq (se_var (i := 3) (nx hN rfl) (vis hs (by first | exact .inl rfl | exact .inr (.inl rfl) | exact .inr (.inr rfl))))) (blko hN hs (own := [("row", 7)]) ⟨rfl, by decide +kernel, by decide +kernel, by decide +kernel, by decide +kernel⟩) rfl (by decide) (fun _ _ _ _ _ => (sg_name (i := 7) hd (nx hN rfl) (locB (by first | exact .inl rfl | exact .inr rfl)) (hfB (by first | exact .inl rfl | exact .inr rfl)))) (fun _ _ _ _ _ => sts_nil) (fun _ _ _ _ _ => (se_tup (sa_cons se_str (sa_cons (se_var (i := 7) (nx hN rfl) (visB (by first | exact .inl rfl | exact .inr (.inl rfl) | exact .inr (.inr rfl)))) sa_nil)))))) (hf := .inl (hfn _)))))))))
    (sss_one (ss_ret (se_var (i := 2) (nx hN rfl) (vis hs (by first | exact .inl rfl | exact .inr (.inl rfl) | exact .inr (.inr rfl))))))))))
theorem sc465 : FnScope ["program", "copies"] ["program", "copies"] (defScope (top 43)) := ⟨rfl, rfl, rfl, by decide +kernel, rfl, by decide +kernel, by decide +kernel⟩
theorem ok465 (T : Tab K mg) (A : All P w base T n) : Ok P w base T.d465 (n + 1) (run 2 2 (bd_plans (sem n))) := by
  refine fn_ok (N := ["program", "copies"]) (ps := ["program", "copies"]) (n := n) (b := bd_plans (sem n)) T.d465.F sc465 fun X E hP hw hK hmg hbase hN hc hr hs hfn hp tk => ?_
  subst hP hw hK hmg hbase
  have hd : X.N.Nodup := nxd hN (by decide +kernel)
  exact (sss_cons (ss_expr (se_df [true] T.d444 A.o444 hr (gl hs rfl) tk (sa_cons (se_var (i := 0) (nx hN rfl) (vis hs (by first | exact .inl rfl | exact .inr (.inl rfl) | exact .inr (.inr rfl)))) sa_nil)))
    (sss_cons (ss_expr (se_df [true, true, true] T.d70 A.o70 hr (gl hs rfl) tk (sa_cons (se_var (i := 1) (nx hN rfl) (vis hs (by first | exact .inl rfl | exact .inr (.inl rfl) | exact .inr (.inr rfl)))) (sa_cons se_int (sa_cons (se_gint (gl hs rfl) T.g_MOST_COPIES.choose_spec) sa_nil)))))
    (sss_one (ss_ret (se_callTy (cs_tuple) (gl hs rfl) T.z_tuple bt_tuple (sa_cons (se_df [true, true] T.d464 A.o464 hr (gl hs rfl) tk (sa_cons (se_var (i := 0) (nx hN rfl) (vis hs (by first | exact .inl rfl | exact .inr (.inl rfl) | exact .inr (.inr rfl)))) (sa_cons (se_var (i := 1) (nx hN rfl) (vis hs (by first | exact .inl rfl | exact .inr (.inl rfl) | exact .inr (.inr rfl)))) sa_nil))) sa_nil))))))
theorem sc462 : FnScope ["program"] ["program"] (defScope (top 40)) := ⟨rfl, rfl, rfl, by decide +kernel, rfl, by decide +kernel, by decide +kernel⟩
theorem ok462 (T : Tab K mg) (A : All P w base T n) : Ok P w base T.d462 (n + 1) (run 1 1 (bd_once_plan (sem n))) := by
  refine fn_ok (N := ["program"]) (ps := ["program"]) (n := n) (b := bd_once_plan (sem n)) T.d462.F sc462 fun X E hP hw hK hmg hbase hN hc hr hs hfn hp tk => ?_
  subst hP hw hK hmg hbase
  have hd : X.N.Nodup := nxd hN (by decide +kernel)
  exact (sss_cons (ss_expr (se_df [true] T.d444 A.o444 hr (gl hs rfl) tk (sa_cons (se_var (i := 0) (nx hN rfl) (vis hs (by first | exact .inl rfl | exact .inr (.inl rfl) | exact .inr (.inr rfl)))) sa_nil)))
    (sss_one (ss_ret (se_df [true] T.d461 A.o461 hr (gl hs rfl) tk (sa_cons (se_var (i := 0) (nx hN rfl) (vis hs (by first | exact .inl rfl | exact .inr (.inl rfl) | exact .inr (.inr rfl)))) sa_nil)))))
theorem sc1002 : FnScope ["program", "one"] ["program"] (defScope (top 51)) := ⟨rfl, rfl, rfl, by decide +kernel, rfl, by decide +kernel, by decide +kernel⟩
theorem ok1002 (T : Tab K mg) (A : All P w base T n) : Ok P w base T.d1002 (n + 1) (run 1 2 (b_law_once (sem n))) := by
  refine fn_ok (N := ["program", "one"]) (ps := ["program"]) (n := n) (b := b_law_once (sem n)) T.d1002.F sc1002 fun X E hP hw hK hmg hbase hN hc hr hs hfn hp tk => ?_
  subst hP hw hK hmg hbase
  have hd : X.N.Nodup := nxd hN (by decide +kernel)
  exact (sss_cons (ss_if (st_cmp (os_eq hr) (se_ix (se_var (i := 0) (nx hN rfl) (vis hs (by first | exact .inl rfl | exact .inr (.inl rfl) | exact .inr (.inr rfl)))) se_int) se_str rfl) (sss_one (ss_ret (se_tup (sa_cons se_str (sa_cons (se_df [true] T.d1002 A.o1002 hr (gl hs rfl) tk (sa_cons (se_ix (se_var (i := 0) (nx hN rfl) (vis hs (by first | exact .inl rfl | exact .inr (.inl rfl) | exact .inr (.inr rfl)))) se_int) sa_nil)) sa_nil))))) sss_nil)
    (sss_one (ss_ret (se_tup (sa_cons se_str (sa_cons (se_callTy (cs_tuple) (gl hs rfl) T.z_tuple bt_tuple (sa_cons (se_lc hc hd (si_seq (se_ix (se_df [true] T.d1003 A.o1003 hr (gl hs rfl) tk (sa_cons (se_var (i := 0) (nx hN rfl) (vis hs (by first | exact .inl rfl | exact .inr (.inl rfl) | exact .inr (.inr rfl)))) sa_nil)) se_int)) (blko hN hs (own := [("one", 1)]) ⟨rfl, by decide +kernel, by decide +kernel, by decide +kernel, by decide +kernel⟩) rfl (by decide) (fun _ _ _ _ _ => (sg_name (i := 1) hd (nx hN rfl) (locB (by first | exact .inl rfl | exact .inr rfl)) (hfB (by first | exact .inl rfl | exact .inr rfl)))) (fun _ _ _ _ _ => sts_nil) (fun _ _ _ _ _ => (se_tup (sa_cons (se_df [true] T.d1002 A.o1002 hr (glB rfl) takes_F (sa_cons (se_var (i := 1) (nx hN rfl) (visB (by first | exact .inl rfl | exact .inr (.inl rfl) | exact .inr (.inr rfl)))) sa_nil)) sa_nil)))) sa_nil)) sa_nil))))))
theorem sc447 : FnScope ["program", "value"] ["program", "value"] (defScope (top 38)) := ⟨rfl, rfl, rfl, by decide +kernel, rfl, by decide +kernel, by decide +kernel⟩
theorem ok447 (T : Tab K mg) (A : All P w base T n) : Ok P w base T.d447 (n + 1) (run 2 2 (bd_is_plan (sem n))) := by
  refine fn_ok (N := ["program", "value"]) (ps := ["program", "value"]) (n := n) (b := bd_is_plan (sem n)) T.d447.F sc447 fun X E hP hw hK hmg hbase hN hc hr hs hfn hp tk => ?_
  subst hP hw hK hmg hbase
  have hd : X.N.Nodup := nxd hN (by decide +kernel)
  exact (sss_cons (ss_expr (se_df [true] T.d444 A.o444 hr (gl hs rfl) tk (sa_cons (se_var (i := 0) (nx hN rfl) (vis hs (by first | exact .inl rfl | exact .inr (.inl rfl) | exact .inr (.inr rfl)))) sa_nil)))
    (sss_one (ss_ret (se_df [true, true] T.d193 A.o193 hr (gl hs rfl) tk (sa_cons (se_var (i := 0) (nx hN rfl) (vis hs (by first | exact .inl rfl | exact .inr (.inl rfl) | exact .inr (.inr rfl)))) (sa_cons (se_var (i := 1) (nx hN rfl) (vis hs (by first | exact .inl rfl | exact .inr (.inl rfl) | exact .inr (.inr rfl)))) sa_nil))))))
theorem sc1003 : FnScope ["program", "head", "arguments"] ["program"] (defScope (top 48)) := ⟨rfl, rfl, rfl, by decide +kernel, rfl, by decide +kernel, by decide +kernel⟩
theorem ok1003 (T : Tab K mg) (A : All P w base T n) : Ok P w base T.d1003 (n + 1) (run 1 3 (b_law_spine (sem n))) := by
  refine fn_ok (N := ["program", "head", "arguments"]) (ps := ["program"]) (n := n) (b := b_law_spine (sem n)) T.d1003.F sc1003 fun X E hP hw hK hmg hbase hN hc hr hs hfn hp tk => ?_
  subst hP hw hK hmg hbase
  have hd : X.N.Nodup := nxd hN (by decide +kernel)
  exact (sss_cons (ss_asg (i := 1) hd (nx hN rfl) (loc hs (by first | exact .inl rfl | exact .inr rfl)) (se_var (i := 0) (nx hN rfl) (vis hs (by first | exact .inl rfl | exact .inr (.inl rfl) | exact .inr (.inr rfl)))) (hf := .inl (hfn _)))
    (sss_cons (ss_asg (i := 2) hd (nx hN rfl) (loc hs (by first | exact .inl rfl | exact .inr rfl)) (se_lst sa_nil) (hf := .inl (hfn _)))
    (sss_cons (ss_while hp (st_cmp (os_eq hr) (se_ix (se_var (i := 1) (nx hN rfl) (vis hs (by first | exact .inl rfl | exact .inr (.inl rfl) | exact .inr (.inr rfl)))) se_int) se_str rfl) (sss_cons (ss_asg (i := 2) hd (nx hN rfl) (loc hs (by first | exact .inl rfl | exact .inr rfl)) (se_op (os_add) (se_lst (sa_cons (se_ix (se_var (i := 1) (nx hN rfl) (vis hs (by first | exact .inl rfl | exact .inr (.inl rfl) | exact .inr (.inr rfl)))) se_int) sa_nil)) (se_var (i := 2) (nx hN rfl) (vis hs (by first | exact .inl rfl | exact .inr (.inl rfl) | exact .inr (.inr rfl))))) (hf := .inl (hfn _)))
    (sss_one (ss_asg (i := 1) hd (nx hN rfl) (loc hs (by first | exact .inl rfl | exact .inr rfl)) (se_ix (se_var (i := 1) (nx hN rfl) (vis hs (by first | exact .inl rfl | exact .inr (.inl rfl) | exact .inr (.inr rfl)))) se_int) (hf := .inl (hfn _))))))
    (sss_one (ss_ret (se_tup (sa_cons (se_var (i := 1) (nx hN rfl) (vis hs (by first | exact .inl rfl | exact .inr (.inl rfl) | exact .inr (.inr rfl)))) (sa_cons (se_var (i := 2) (nx hN rfl) (vis hs (by first | exact .inl rfl | exact .inr (.inl rfl) | exact .inr (.inr rfl)))) sa_nil))))))))
theorem sc1004 : FnScope ["choices", "copies", "bags", "rows", "k", "made", "row", "one"] ["choices", "copies"] (defScope (top 49)) := ⟨rfl, rfl, rfl, by decide +kernel, rfl, by decide +kernel, by decide +kernel⟩
theorem ok1004 (T : Tab K mg) (A : All P w base T n) : Ok P w base T.d1004 (n + 1) (run 2 8 (b_law_bags (sem n))) := by
  refine fn_ok (N := ["choices", "copies", "bags", "rows", "k", "made", "row", "one"]) (ps := ["choices", "copies"]) (n := n) (b := b_law_bags (sem n)) T.d1004.F sc1004 fun X E hP hw hK hmg hbase hN hc hr hs hfn hp tk => ?_
  subst hP hw hK hmg hbase
  have hd : X.N.Nodup := nxd hN (by decide +kernel)
  exact (sss_cons (ss_asg (i := 2) hd (nx hN rfl) (loc hs (by first | exact .inl rfl | exact .inr rfl)) (se_lst (sa_cons (se_tup sa_nil) sa_nil)) (hf := .inl (hfn _)))
    (sss_cons (ss_asg (i := 3) hd (nx hN rfl) (loc hs (by first | exact .inl rfl | exact .inr rfl)) (se_lst (sa_cons (se_tup sa_nil) sa_nil)) (hf := .inl (hfn _)))
    (sss_cons (ss_for hp hc (si_range1 (gl hs rfl) T.z_range (sa_cons (se_var (i := 1) (nx hN rfl) (vis hs (by first | exact .inl rfl | exact .inr (.inl rfl) | exact .inr (.inr rfl)))) sa_nil)) (sg_name (i := 4) hd (nx hN rfl) (loc hs (by first | exact .inl rfl | exact .inr rfl)) (.inl (hfn _))) (sss_cons (ss_asg (i := 5) hd (nx hN rfl) (loc hs (by first | exact .inl rfl | exact .inr rfl)) (se_lst sa_nil) (hf := .inl (hfn _)))
    (sss_cons (ss_for hp hc (si_seq (se_var (i := 3) (nx hN rfl) (vis hs (by first | exact .inl rfl | exact .inr (.inl rfl) | exact .inr (.inr rfl))))) (sg_name (i := 6) hd (nx hN rfl) (loc hs (by first | exact .inl rfl | exact .inr rfl)) (.inl (hfn _))) (sss_one (ss_for hp hc (si_seq (se_var (i := 0) (nx hN rfl) (vis hs (by first | exact .inl rfl | exact .inr (.inl rfl) | exact .inr (.inr rfl))))) (sg_name (i := 7) hd (nx hN rfl) (loc hs (by first | exact .inl rfl | exact .inr rfl)) (.inl (hfn _))) (sss_one (ss_if (SW.toT (sw_or (st_cmp (os_eq hr) (se_callB (cs_len) (gl hs rfl) T.z_len bt_len (sa_cons (se_var (i := 6) (nx hN rfl) (vis hs (by first | exact .inl rfl | exact .inr (.inl rfl) | exact .inr (.inr rfl)))) sa_nil)) se_int rfl) (sw_or1 (st_cmp (os_le hr) (se_ix (se_var (i := 6) (nx hN rfl) (vis hs (by first | exact .inl rfl | exact .inr (.inl rfl) | exact .inr (.inr rfl)))) (se_un us_neg se_int)) (se_var (i := 7) (nx hN rfl) (vis hs (by first | exact .inl rfl | exact .inr (.inl rfl) | exact .inr (.inr rfl)))) rfl)))) (sss_one (ss_expr (se_append (i := 5) (nx hN rfl) (vis hs (by first | exact .inl rfl | exact .inr (.inl rfl) | exact .inr (.inr rfl))) (sa_cons (se_op (os_add) (se_var (i := 6) (nx hN rfl) (vis hs (by first | exact .inl rfl | exact .inr (.inl rfl) | exact .inr (.inr rfl)))) (se_tup (sa_cons (se_var (i := 7) (nx hN rfl) (vis hs (by first | exact .inl rfl | exact .inr (.inl rfl) | exact .inr (.inr rfl)))) sa_nil))) sa_nil)))) sss_nil)))))
    (sss_cons (ss_asg (i := 3) hd (nx hN rfl) (loc hs (by first | exact .inl rfl | exact .inr rfl)) (se_var (i := 5) (nx hN rfl) (vis hs (by first | exact .inl rfl | exact .inr (.inl rfl) | exact .inr (.inr rfl)))) (hf := .inl (hfn _)))
    (sss_one (ss_asg (i := 2) hd (nx hN rfl) (loc hs (by first | exact .inl rfl | exact .inr rfl)) (se_op (os_add) (se_var (i := 2) (nx hN rfl) (vis hs (by first | exact .inl rfl | exact .inr (.inl rfl) | exact .inr (.inr rfl)))) (se_var (i := 3) (nx hN rfl) (vis hs (by first | exact .inl rfl | exact .inr (.inl rfl) | exact .inr (.inr rfl))))) (hf := .inl (hfn _))))))))
    (sss_one (ss_ret (se_var (i := 2) (nx hN rfl) (vis hs (by first | exact .inl rfl | exact .inr (.inl rfl) | exact .inr (.inr rfl)))))))))
theorem sc444 : FnScope ["program"] ["program"] (defScope (top 35)) := ⟨rfl, rfl, rfl, by decide +kernel, rfl, by decide +kernel, by decide +kernel⟩
theorem ok444 (T : Tab K mg) (A : All P w base T n) : Ok P w base T.d444 (n + 1) (run 1 1 (bd_need_normal (sem n))) := by
  refine fn_ok (N := ["program"]) (ps := ["program"]) (n := n) (b := bd_need_normal (sem n)) T.d444.F sc444 fun X E hP hw hK hmg hbase hN hc hr hs hfn hp tk => ?_
  subst hP hw hK hmg hbase
  have hd : X.N.Nodup := nxd hN (by decide +kernel)
  exact (sss_one (ss_if (st_not (st_tru (se_df [true] T.d443 A.o443 hr (gl hs rfl) tk (sa_cons (se_var (i := 0) (nx hN rfl) (vis hs (by first | exact .inl rfl | exact .inr (.inl rfl) | exact .inr (.inr rfl)))) sa_nil)))) (sss_one ss_never) sss_nil))
theorem sc70 : FnScope ["number", "low", "high"] ["number", "low", "high"] (defScope (top 8)) := ⟨rfl, rfl, rfl, by decide +kernel, rfl, by decide +kernel, by decide +kernel⟩
theorem ok70 (T : Tab K mg) (A : All P w base T n) : Ok P w base T.d70 (n + 1) (run 3 3 (bd_need_number (sem n))) := by
  refine fn_ok (N := ["number", "low", "high"]) (ps := ["number", "low", "high"]) (n := n) (b := bd_need_number (sem n)) T.d70.F sc70 fun X E hP hw hK hmg hbase hN hc hr hs hfn hp tk => ?_
  subst hP hw hK hmg hbase
  have hd : X.N.Nodup := nxd hN (by decide +kernel)
  exact (sss_one (ss_if (SW.toT (sw_or (st_cmp (os_lt hr) (se_var (i := 0) (nx hN rfl) (vis hs (by first | exact .inl rfl | exact .inr (.inl rfl) | exact .inr (.inr rfl)))) (se_var (i := 1) (nx hN rfl) (vis hs (by first | exact .inl rfl | exact .inr (.inl rfl) | exact .inr (.inr rfl)))) rfl) (sw_or1 (SW.toT (sw_and (st_cmp (os_isnt) (se_var (i := 2) (nx hN rfl) (vis hs (by first | exact .inl rfl | exact .inr (.inl rfl) | exact .inr (.inr rfl)))) se_non rfl) (sw_and1 (st_cmp (os_gt hr) (se_var (i := 0) (nx hN rfl) (vis hs (by first | exact .inl rfl | exact .inr (.inl rfl) | exact .inr (.inr rfl)))) (se_var (i := 2) (nx hN rfl) (vis hs (by first | exact .inl rfl | exact .inr (.inl rfl) | exact .inr (.inr rfl)))) rfl))))))) (sss_one ss_never) sss_nil))
theorem sc464 : FnScope ["program", "copies", "rows", "found", "one", "bags", "row", "bag"] ["program", "copies"] (defScope (top 42)) := ⟨rfl, rfl, rfl, by decide +kernel, rfl, by decide +kernel, by decide +kernel⟩
theorem ok464 (T : Tab K mg) (A : All P w base T n) : Ok P w base T.d464 (n + 1) (run 2 8 (bd_plans_in (sem n))) := by
  refine fn_ok (N := ["program", "copies", "rows", "found", "one", "bags", "row", "bag"]) (ps := ["program", "copies"]) (n := n) (b := bd_plans_in (sem n)) T.d464.F sc464 fun X E hP hw hK hmg hbase hN hc hr hs hfn hp tk => ?_
  subst hP hw hK hmg hbase
  have hd : X.N.Nodup := nxd hN (by decide +kernel)
  exact (sss_cons (ss_if (st_cmp (os_eq hr) (se_ix (se_var (i := 0) (nx hN rfl) (vis hs (by first | exact .inl rfl | exact .inr (.inl rfl) | exact .inr (.inr rfl)))) se_int) se_str rfl) (sss_one (ss_ret (se_op (os_add) (se_callB (cs_sorted hr) (gl hs rfl) T.z_sorted bt_sorted (sa_cons (se_lc hc hd (si_seq (se_df [true, true] T.d464 A.o464 hr (gl hs rfl) tk (sa_cons (se_ix (se_var (i := 0) (nx hN rfl) (vis hs (by first | exact .inl rfl | exact .inr (.inl rfl) | exact .inr (.inr rfl)))) se_int) (sa_cons (se_var (i := 1) (nx hN rfl) (vis hs (by first | exact .inl rfl | exact .inr (.inl rfl) | exact .inr (.inr rfl)))) sa_nil)))) (blko hN hs (own := [("one", 4)]) ⟨rfl, by decide +kernel, by decide +kernel, by decide +kernel, by decide +kernel⟩) rfl (by decide) (fun _ _ _ _ _ => (sg_name (i := 4) hd (nx hN rfl) (locB (by first | exact .inl rfl | exact .inr rfl)) (hfB (by first | exact .inl rfl | exact .inr rfl)))) (fun _ _ _ _ _ => sts_nil) (fun _ _ _ _ _ => (se_tup (sa_cons se_str (sa_cons (se_var (i := 4) (nx hN rfl) (visB (by first | exact .inl rfl | exact .inr (.inl rfl) | exact .inr (.inr rfl)))) sa_nil))))) sa_nil)) (se_lst (sa_cons (se_tup (sa_cons se_str sa_nil)) sa_nil))))) sss_nil)
    (sss_cons (ss_asg (i := 2) hd (nx hN rfl) (loc hs (by first | exact .inl rfl | exact .inr rfl)) (se_lst (sa_cons (se_tup sa_nil) sa_nil)) (hf := .inl (hfn _)))
    (sss_cons (ss_asg (i := 3) hd (nx hN rfl) (loc hs (by first | exact .inl rfl | exact .inr rfl)) (se_lst (sa_cons (se_tup (sa_cons se_str (sa_cons (se_tup sa_nil) sa_nil))) sa_nil)) (hf := .inl (hfn _)))
    (sss_cons (ss_for hp hc (si_seq (se_ix (se_df [true] T.d34 A.o34 hr (gl hs rfl) tk (sa_cons (se_var (i := 0) (nx hN rfl) (vis hs (by first | exact .inl rfl | exact .inr (.inl rfl) | exact .inr (.inr rfl)))) sa_nil)) se_int)) (sg_name (i := 4) hd (nx hN rfl) (loc hs (by first | exact .inl rfl | exact .inr rfl)) (.inl (hfn _))) (sss_cons (ss_asg (i := 5) hd (nx hN rfl) (loc hs (by first | exact .inl rfl | exact .inr rfl)) (se_df [true, true] T.d463 A.o463 hr (gl hs rfl) tk (sa_cons (se_df [true, true] T.d464 A.o464 hr (gl hs rfl) tk (sa_cons (se_var (i := 4) (nx hN rfl) (vis hs (by first | exact .inl rfl | exact .inr (.inl rfl) | exact .inr (.inr rfl)))) (sa_cons (se_var (i := 1) (nx hN rfl) (vis hs (by first | exact .inl rfl | exact .inr (.inl rfl) | exact .inr (.inr rfl)))) sa_nil))) (sa_cons (se_var (i := 1) (nx hN rfl) (vis hs (by first | exact .inl rfl | exact .inr (.inl rfl) | exact .inr (.inr rfl)))) sa_nil))) (hf := .inl (hfn _)))
    (sss_cons (ss_setLc2 (i := 2) (vs1 := [7]) hc hd (nx hN rfl) (lkl hs rfl) (sw_true hs rfl rfl rfl (by decide +kernel)) (si_seq (se_var (i := 2) (nx hN rfl) (vis hs (by first | exact .inl rfl | exact .inr (.inl rfl) | exact .inr (.inr rfl))))) (blko hN hs (own := [("row", 6), ("bag", 7)]) ⟨rfl, by decide +kernel, by decide +kernel, by decide +kernel, by decide +kernel⟩) rfl (by decide) (by decide) (by decide) (fun _ _ _ _ _ => (sg_name (i := 6) hd (nx hN rfl) (locB (by first | exact .inl rfl | exact .inr rfl)) (hfB (by first | exact .inl rfl | exact .inr rfl)))) (fun _ _ _ _ _ => sts_nil) (fun _ _ _ _ _ => (si_seq (se_var (i := 5) (nx hN rfl) (visB (by first | exact .inl rfl | exact .inr (.inl rfl) | exact .inr (.inr rfl)))))) (fun _ _ _ _ _ => (sg_name (i := 7) hd (nx hN rfl) (locB (by first | exact .inl rfl | exact .inr rfl)) (hfB (by first | exact .inl rfl | exact .inr rfl)))) (fun _ _ _ _ _ => sts_nil) (fun _ _ _ _ _ => (se_op (os_add) (se_var (i := 6) (nx hN rfl) (visB (by first | exact .inl rfl | exact .inr (.inl rfl) | exact .inr (.inr rfl)))) (se_tup (sa_cons (se_var (i := 7) (nx hN rfl) (visB (by first | exact .inl rfl | exact .inr (.inl rfl) | exact .inr (.inr rfl)))) sa_nil)))))
    (sss_one (ss_expr (se_extend (i := 3) (nx hN rfl) (vis hs (by first | exact .inl rfl | exact .inr (.inl rfl) | exact .inr (.inr rfl))) (sa_cons (se_lc hc hd (si_seq (se_var (i := 2) (nx hN rfl) (vis hs (by first | exact .inl rfl | exact .inr (.inl rfl) | exact .inr (.inr rfl))))) (blko hN hs (own := [("row", 6)]) ⟨rfl, by decide +kernel, by decide +kernel, by decide +kernel, by decide +kernel⟩) rfl (by decide) (fun _ _ _ _ _ => (sg_name (i := 6) hd (nx hN rfl) (locB (by first | exact .inl rfl | exact .inr rfl)) (hfB (by first | exact .inl rfl | exact .inr rfl)))) (fun _ _ _ _ _ => sts_nil) (fun _ _ _ _ _ => (se_tup (sa_cons se_str (sa_cons (se_var (i := 6) (nx hN rfl) (visB (by first | exact .inl rfl | exact .inr (.inl rfl) | exact .inr (.inr rfl)))) sa_nil))))) sa_nil)))))))
    (sss_one (ss_ret (se_callB (cs_sorted hr) (gl hs rfl) T.z_sorted bt_sorted (sa_cons (se_var (i := 3) (nx hN rfl) (vis hs (by first | exact .inl rfl | exact .inr (.inl rfl) | exact .inr (.inr rfl)))) sa_nil))))))))
theorem sc461 : FnScope ["program", "one"] ["program"] (defScope (top 39)) := ⟨rfl, rfl, rfl, by decide +kernel, rfl, by decide +kernel, by decide +kernel⟩
theorem ok461 (T : Tab K mg) (A : All P w base T n) : Ok P w base T.d461 (n + 1) (run 1 2 (bd_once_in (sem n))) := by
  refine fn_ok (N := ["program", "one"]) (ps := ["program"]) (n := n) (b := bd_once_in (sem n)) T.d461.F sc461 fun X E hP hw hK hmg hbase hN hc hr hs hfn hp tk => ?_
  subst hP hw hK hmg hbase
  have hd : X.N.Nodup := nxd hN (by decide +kernel)
  exact (sss_cons (ss_if (st_cmp (os_eq hr) (se_ix (se_var (i := 0) (nx hN rfl) (vis hs (by first | exact .inl rfl | exact .inr (.inl rfl) | exact .inr (.inr rfl)))) se_int) se_str rfl) (sss_one (ss_ret (se_tup (sa_cons se_str (sa_cons (se_df [true] T.d461 A.o461 hr (gl hs rfl) tk (sa_cons (se_ix (se_var (i := 0) (nx hN rfl) (vis hs (by first | exact .inl rfl | exact .inr (.inl rfl) | exact .inr (.inr rfl)))) se_int) sa_nil)) sa_nil))))) sss_nil)
    (sss_one (ss_ret (se_tup (sa_cons se_str (sa_cons (se_callTy (cs_tuple) (gl hs rfl) T.z_tuple bt_tuple (sa_cons (se_lc hc hd (si_seq (se_ix (se_df [true] T.d34 A.o34 hr (gl hs rfl) tk (sa_cons (se_var (i := 0) (nx hN rfl) (vis hs (by first | exact .inl rfl | exact .inr (.inl rfl) | exact .inr (.inr rfl)))) sa_nil)) se_int)) (blko hN hs (own := [("one", 1)]) ⟨rfl, by decide +kernel, by decide +kernel, by decide +kernel, by decide +kernel⟩) rfl (by decide) (fun _ _ _ _ _ => (sg_name (i := 1) hd (nx hN rfl) (locB (by first | exact .inl rfl | exact .inr rfl)) (hfB (by first | exact .inl rfl | exact .inr rfl)))) (fun _ _ _ _ _ => sts_nil) (fun _ _ _ _ _ => (se_tup (sa_cons (se_df [true] T.d461 A.o461 hr (glB rfl) takes_F (sa_cons (se_var (i := 1) (nx hN rfl) (visB (by first | exact .inl rfl | exact .inr (.inl rfl) | exact .inr (.inr rfl)))) sa_nil)) sa_nil)))) sa_nil)) sa_nil))))))
theorem sc193 : FnScope ["program", "value", "arguments", "one", "plans"] ["program", "value"] (defScope (top 36)) := ⟨rfl, rfl, rfl, by decide +kernel, rfl, by decide +kernel, by decide +kernel⟩
theorem ok193 (T : Tab K mg) (A : All P w base T n) : Ok P w base T.d193 (n + 1) (run 2 5 (bd_fits (sem n))) := by
  refine fn_ok (N := ["program", "value", "arguments", "one", "plans"]) (ps := ["program", "value"]) (n := n) (b := bd_fits (sem n)) T.d193.F sc193 fun X E hP hw hK hmg hbase hN hc hr hs hfn hp tk => ?_
  subst hP hw hK hmg hbase
  have hd : X.N.Nodup := nxd hN (by decide +kernel)
  exact (sss_cons (ss_if (SW.toT (sw_or (st_not (st_tru (se_callB (cs_isi) (gl hs rfl) T.z_isinstance bt_isinstance (sa_cons (se_var (i := 1) (nx hN rfl) (vis hs (by first | exact .inl rfl | exact .inr (.inl rfl) | exact .inr (.inr rfl)))) (sa_cons (se_ty (gl hs rfl) T.z_tuple bt_tuple) sa_nil))))) (sw_or (st_cmp (os_eq hr) (se_callB (cs_len) (gl hs rfl) T.z_len bt_len (sa_cons (se_var (i := 1) (nx hN rfl) (vis hs (by first | exact .inl rfl | exact .inr (.inl rfl) | exact .inr (.inr rfl)))) sa_nil)) se_int rfl) (sw_or1 (st_not (st_tru (se_callB (cs_isi) (gl hs rfl) T.z_isinstance bt_isinstance (sa_cons (se_ix (se_var (i := 1) (nx hN rfl) (vis hs (by first | exact .inl rfl | exact .inr (.inl rfl) | exact .inr (.inr rfl)))) se_int) (sa_cons (se_ty (gl hs rfl) T.z_str bt_str) sa_nil))))))))) (sss_one (ss_ret se_bl)) sss_nil)
    (sss_cons (ss_if (st_cmp (os_eq hr) (se_ix (se_var (i := 0) (nx hN rfl) (vis hs (by first | exact .inl rfl | exact .inr (.inl rfl) | exact .inr (.inr rfl)))) se_int) se_str rfl) (sss_cons (ss_if (st_cmp (os_eq hr) (se_ix (se_var (i := 1) (nx hN rfl) (vis hs (by first | exact .inl rfl | exact .inr (.inl rfl) | exact .inr (.inr rfl)))) se_int) se_str rfl) (sss_one (ss_ret (se_and (se_cmp (os_eq hr) (se_callB (cs_len) (gl hs rfl) T.z_len bt_len (sa_cons (se_var (i := 1) (nx hN rfl) (vis hs (by first | exact .inl rfl | exact .inr (.inl rfl) | exact .inr (.inr rfl)))) sa_nil)) se_int rfl) (se_one (se_df [true, true] T.d193 A.o193 hr (gl hs rfl) tk (sa_cons (se_ix (se_var (i := 0) (nx hN rfl) (vis hs (by first | exact .inl rfl | exact .inr (.inl rfl) | exact .inr (.inr rfl)))) se_int) (sa_cons (se_ix (se_var (i := 1) (nx hN rfl) (vis hs (by first | exact .inl rfl | exact .inr (.inl rfl) | exact .inr (.inr rfl)))) se_int) sa_nil))))))) sss_nil)
    (sss_one (ss_ret (se_and (se_cmp (os_eq hr) (se_ix (se_var (i := 1) (nx hN rfl) (vis hs (by first | exact .inl rfl | exact .inr (.inl rfl) | exact .inr (.inr rfl)))) se_int) se_str rfl) (se_one (se_cmp (os_eq hr) (se_callB (cs_len) (gl hs rfl) T.z_len bt_len (sa_cons (se_var (i := 1) (nx hN rfl) (vis hs (by first | exact .inl rfl | exact .inr (.inl rfl) | exact .inr (.inr rfl)))) sa_nil)) se_int rfl)))))) sss_nil)
    (sss_cons (ss_if (SW.toT (sw_or (st_cmp (os_ne hr) (se_ix (se_var (i := 1) (nx hN rfl) (vis hs (by first | exact .inl rfl | exact .inr (.inl rfl) | exact .inr (.inr rfl)))) se_int) se_str rfl) (sw_or (st_cmp (os_ne hr) (se_callB (cs_len) (gl hs rfl) T.z_len bt_len (sa_cons (se_var (i := 1) (nx hN rfl) (vis hs (by first | exact .inl rfl | exact .inr (.inl rfl) | exact .inr (.inr rfl)))) sa_nil)) se_int rfl) (sw_or1 (st_not (st_tru (se_callB (cs_isi) (gl hs rfl) T.z_isinstance bt_isinstance (sa_cons (se_ix (se_var (i := 1) (nx hN rfl) (vis hs (by first | exact .inl rfl | exact .inr (.inl rfl) | exact .inr (.inr rfl)))) se_int) (sa_cons (se_ty (gl hs rfl) T.z_tuple bt_tuple) sa_nil))))))))) (sss_one (ss_ret se_bl)) sss_nil)
    (sss_cons (ss_asg (i := 2) hd (nx hN rfl) (loc hs (by first | exact .inl rfl | exact .inr rfl)) (se_ix (se_df [true] T.d34 A.o34 hr (gl hs rfl) tk (sa_cons (se_var (i := 0) (nx hN rfl) (vis hs (by first | exact .inl rfl | exact .inr (.inl rfl) | exact .inr (.inr rfl)))) sa_nil)) se_int) (hf := .inl (hfn _)))
    (sss_cons (ss_if (st_cmp (os_gt hr) (se_callB (cs_len) (gl hs rfl) T.z_len bt_len (sa_cons (se_ix (se_var (i := 1) (nx hN rfl) (vis hs (by first | exact .inl rfl | exact .inr (.inl rfl) | exact .inr (.inr rfl)))) se_int) sa_nil)) (se_callB (cs_len) (gl hs rfl) T.z_len bt_len (sa_cons (se_var (i := 2) (nx hN rfl) (vis hs (by first | exact .inl rfl | exact .inr (.inl rfl) | exact .inr (.inr rfl)))) sa_nil)) rfl) (sss_one (ss_ret se_bl)) sss_nil)
    (sss_one (ss_ret (se_callB (cs_all hc) (gl hs rfl) T.z_all bt_all (sa_cons (se_lc hc hd (si_zip (gl hs rfl) T.z_zip (sa_cons (se_var (i := 2) (nx hN rfl) (vis hs (by first | exact .inl rfl | exact .inr (.inl rfl) | exact .inr (.inr rfl)))) (sa_cons (se_ix (se_var (i := 1) (nx hN rfl) (vis hs (by first | exact .inl rfl | exact .inr (.inl rfl) | exact .inr (.inr rfl)))) se_int) sa_nil)) (fun _ h => RZ.pi_zipA (gl hs rfl) T.z_zip h)) (blko hN hs (own := [("one", 3), ("plans", 4)]) ⟨rfl, by decide +kernel, by decide +kernel, by decide +kernel, by decide +kernel⟩) rfl (by decide) (fun _ _ _ _ _ => (sg_tup hc (sgs_cons (sg_name (i := 3) hd (nx hN rfl) (locB (by first | exact .inl rfl | exact .inr rfl)) (hfB (by first | exact .inl rfl | exact .inr rfl))) (sgs_cons (sg_name (i := 4) hd (nx hN rfl) (locB (by first | exact .inl rfl | exact .inr rfl)) (hfB (by first | exact .inl rfl | exact .inr rfl))) sgs_nil)))) (fun _ _ _ _ _ => sts_nil) (fun _ _ _ _ _ => (se_df [true, true] T.d446 A.o446 hr (glB rfl) takes_F (sa_cons (se_var (i := 3) (nx hN rfl) (visB (by first | exact .inl rfl | exact .inr (.inl rfl) | exact .inr (.inr rfl)))) (sa_cons (se_var (i := 4) (nx hN rfl) (visB (by first | exact .inl rfl | exact .inr (.inl rfl) | exact .inr (.inr rfl)))) sa_nil))))) sa_nil)))))))))
theorem sc443 : FnScope ["program"] ["program"] (defScope (top 34)) := ⟨rfl, rfl, rfl, by decide +kernel, rfl, by decide +kernel, by decide +kernel⟩
theorem ok443 (T : Tab K mg) (A : All P w base T n) : Ok P w base T.d443 (n + 1) (run 1 1 (bd_is_normal (sem n))) := by
  refine fn_ok (N := ["program"]) (ps := ["program"]) (n := n) (b := bd_is_normal (sem n)) T.d443.F sc443 fun X E hP hw hK hmg hbase hN hc hr hs hfn hp tk => ?_
  subst hP hw hK hmg hbase
  have hd : X.N.Nodup := nxd hN (by decide +kernel)
  exact (sss_cons (ss_expr (se_df [true] T.d99 A.o99 hr (gl hs rfl) tk (sa_cons (se_var (i := 0) (nx hN rfl) (vis hs (by first | exact .inl rfl | exact .inr (.inl rfl) | exact .inr (.inr rfl)))) sa_nil)))
    (sss_one (ss_ret (se_cmp (os_eq hr) (se_df [true] T.d80 A.o80 hr (gl hs rfl) tk (sa_cons (se_var (i := 0) (nx hN rfl) (vis hs (by first | exact .inl rfl | exact .inr (.inl rfl) | exact .inr (.inr rfl)))) sa_nil)) (se_tup sa_nil) rfl))))
theorem sc34 : FnScope ["wide", "head", "arguments"] ["wide"] (defScope (top 27)) := ⟨rfl, rfl, rfl, by decide +kernel, rfl, by decide +kernel, by decide +kernel⟩
theorem ok34 (T : Tab K mg) (A : All P w base T n) : Ok P w base T.d34 (n + 1) (run 1 3 (bd_spine (sem n))) := by
  refine fn_ok (N := ["wide", "head", "arguments"]) (ps := ["wide"]) (n := n) (b := bd_spine (sem n)) T.d34.F sc34 fun X E hP hw hK hmg hbase hN hc hr hs hfn hp tk => ?_
  subst hP hw hK hmg hbase
  have hd : X.N.Nodup := nxd hN (by decide +kernel)
  exact (sss_cons (ss_expr (se_df [true] T.d16 A.o16 hr (gl hs rfl) tk (sa_cons (se_var (i := 0) (nx hN rfl) (vis hs (by first | exact .inl rfl | exact .inr (.inl rfl) | exact .inr (.inr rfl)))) sa_nil)))
    (sss_cons (ss_asg (i := 1) hd (nx hN rfl) (loc hs (by first | exact .inl rfl | exact .inr rfl)) (se_var (i := 0) (nx hN rfl) (vis hs (by first | exact .inl rfl | exact .inr (.inl rfl) | exact .inr (.inr rfl)))) (hf := .inl (hfn _)))
    (sss_cons (ss_asg (i := 2) hd (nx hN rfl) (loc hs (by first | exact .inl rfl | exact .inr rfl)) (se_lst sa_nil) (hf := .inl (hfn _)))
    (sss_cons (ss_while hp (st_cmp (os_eq hr) (se_ix (se_var (i := 1) (nx hN rfl) (vis hs (by first | exact .inl rfl | exact .inr (.inl rfl) | exact .inr (.inr rfl)))) se_int) se_str rfl) (sss_cons (ss_expr (se_append (i := 2) (nx hN rfl) (vis hs (by first | exact .inl rfl | exact .inr (.inl rfl) | exact .inr (.inr rfl))) (sa_cons (se_ix (se_var (i := 1) (nx hN rfl) (vis hs (by first | exact .inl rfl | exact .inr (.inl rfl) | exact .inr (.inr rfl)))) se_int) sa_nil)))
    (sss_one (ss_asg (i := 1) hd (nx hN rfl) (loc hs (by first | exact .inl rfl | exact .inr rfl)) (se_ix (se_var (i := 1) (nx hN rfl) (vis hs (by first | exact .inl rfl | exact .inr (.inl rfl) | exact .inr (.inr rfl)))) se_int) (hf := .inl (hfn _))))))
    (sss_one (ss_ret (se_tup (sa_cons (se_var (i := 1) (nx hN rfl) (vis hs (by first | exact .inl rfl | exact .inr (.inl rfl) | exact .inr (.inr rfl)))) (sa_cons (se_callTy (cs_tuple) (gl hs rfl) T.z_tuple bt_tuple (sa_cons (se_rev (se_var (i := 2) (nx hN rfl) (vis hs (by first | exact .inl rfl | exact .inr (.inl rfl) | exact .inr (.inr rfl))))) sa_nil)) sa_nil)))))))))
theorem sc463 : FnScope ["plans", "copies", "found", "longest", "_", "bag", "one"] ["plans", "copies"] (defScope (top 41)) := ⟨rfl, rfl, rfl, by decide +kernel, rfl, by decide +kernel, by decide +kernel⟩
theorem ok463 (T : Tab K mg) (A : All P w base T n) : Ok P w base T.d463 (n + 1) (run 2 7 (bd_bags_up_to (sem n))) := by
  refine fn_ok (N := ["plans", "copies", "found", "longest", "_", "bag", "one"]) (ps := ["plans", "copies"]) (n := n) (b := bd_bags_up_to (sem n)) T.d463.F sc463 fun X E hP hw hK hmg hbase hN hc hr hs hfn hp tk => ?_
  subst hP hw hK hmg hbase
  have hd : X.N.Nodup := nxd hN (by decide +kernel)
  exact (sss_cons (ss_asg (i := 2) hd (nx hN rfl) (loc hs (by first | exact .inl rfl | exact .inr rfl)) (se_lst (sa_cons (se_tup sa_nil) sa_nil)) (hf := .inl (hfn _)))
    (sss_cons (ss_asg (i := 3) hd (nx hN rfl) (loc hs (by first | exact .inl rfl | exact .inr rfl)) (se_lst (sa_cons (se_tup sa_nil) sa_nil)) (hf := .inl (hfn _)))
    (sss_cons (ss_for hp hc (si_range1 (gl hs rfl) T.z_range (sa_cons (se_var (i := 1) (nx hN rfl) (vis hs (by first | exact .inl rfl | exact .inr (.inl rfl) | exact .inr (.inr rfl)))) sa_nil)) (sg_name (i := 4) hd (nx hN rfl) (loc hs (by first | exact .inl rfl | exact .inr rfl)) (.inl (hfn _))) (sss_cons (ss_setLc2 (i := 3) (vs1 := [6]) hc hd (nx hN rfl) (lkl hs rfl) (sw_true hs rfl rfl rfl (by decide +kernel)) (si_seq (se_var (i := 3) (nx hN rfl) (vis hs (by first | exact .inl rfl | exact .inr (.inl rfl) | exact .inr (.inr rfl))))) (blko hN hs (own := [("bag", 5), ("one", 6)]) ⟨rfl, by decide +kernel, by decide +kernel, by decide +kernel, by decide +kernel⟩) rfl (by decide) (by decide) (by decide) (fun _ _ _ _ _ => (sg_name (i := 5) hd (nx hN rfl) (locB (by first | exact .inl rfl | exact .inr rfl)) (hfB (by first | exact .inl rfl | exact .inr rfl)))) (fun _ _ _ _ _ => sts_nil) (fun _ _ _ _ _ => (si_seq (se_var (i := 0) (nx hN rfl) (visB (by first | exact .inl rfl | exact .inr (.inl rfl) | exact .inr (.inr rfl)))))) (fun _ _ _ _ _ => (sg_name (i := 6) hd (nx hN rfl) (locB (by first | exact .inl rfl | exact .inr rfl)) (hfB (by first | exact .inl rfl | exact .inr rfl)))) (fun _ _ _ _ _ => (sts_one (SW.toT (sw_or (st_cmp (os_eq hr) (se_var (i := 5) (nx hN rfl) (visB (by first | exact .inl rfl | exact .inr (.inl rfl) | exact .inr (.inr rfl)))) (se_tup sa_nil) rfl) (sw_or1 (st_not (st_cmp (os_lt hr) (se_var (i := 6) (nx hN rfl) (visB (by first | exact .inl rfl | exact .inr (.inl rfl) | exact .inr (.inr rfl)))) (se_ix (se_var (i := 5) (nx hN rfl) (visB (by first | exact .inl rfl | exact .inr (.inl rfl) | exact .inr (.inr rfl)))) (se_un us_neg se_int)) rfl))))))) (fun _ _ _ _ _ => (se_op (os_add) (se_var (i := 5) (nx hN rfl) (visB (by first | exact .inl rfl | exact .inr (.inl rfl) | exact .inr (.inr rfl)))) (se_tup (sa_cons (se_var (i := 6) (nx hN rfl) (visB (by first | exact .inl rfl | exact .inr (.inl rfl) | exact .inr (.inr rfl)))) sa_nil)))))
    (sss_one (ss_expr (se_extend (i := 2) (nx hN rfl) (vis hs (by first | exact .inl rfl | exact .inr (.inl rfl) | exact .inr (.inr rfl))) (sa_cons (se_var (i := 3) (nx hN rfl) (vis hs (by first | exact .inl rfl | exact .inr (.inl rfl) | exact .inr (.inr rfl)))) sa_nil))))))
    (sss_one (ss_ret (se_var (i := 2) (nx hN rfl) (vis hs (by first | exact .inl rfl | exact .inr (.inl rfl) | exact .inr (.inr rfl)))))))))
theorem sc446 : FnScope ["program", "plans", "one", "other"] ["program", "plans"] (defScope (top 37)) := ⟨rfl, rfl, rfl, by decide +kernel, rfl, by decide +kernel, by decide +kernel⟩
theorem ok446 (T : Tab K mg) (A : All P w base T n) : Ok P w base T.d446 (n + 1) (run 2 4 (bd_fits_bag (sem n))) := by
  refine fn_ok (N := ["program", "plans", "one", "other"]) (ps := ["program", "plans"]) (n := n) (b := bd_fits_bag (sem n)) T.d446.F sc446 fun X E hP hw hK hmg hbase hN hc hr hs hfn hp tk => ?_
  subst hP hw hK hmg hbase
  have hd : X.N.Nodup := nxd hN (by decide +kernel)
  exact (sss_cons (ss_if (SW.toT (sw_or (st_not (st_tru (se_callB (cs_isi) (gl hs rfl) T.z_isinstance bt_isinstance (sa_cons (se_var (i := 1) (nx hN rfl) (vis hs (by first | exact .inl rfl | exact .inr (.inl rfl) | exact .inr (.inr rfl)))) (sa_cons (se_ty (gl hs rfl) T.z_tuple bt_tuple) sa_nil))))) (sw_or1 (st_not (st_tru (se_callB (cs_all hc) (gl hs rfl) T.z_all bt_all (sa_cons (se_lc hc hd (si_seq (se_var (i := 1) (nx hN rfl) (vis hs (by first | exact .inl rfl | exact .inr (.inl rfl) | exact .inr (.inr rfl))))) (blko hN hs (own := [("one", 2)]) ⟨rfl, by decide +kernel, by decide +kernel, by decide +kernel, by decide +kernel⟩) rfl (by decide) (fun _ _ _ _ _ => (sg_name (i := 2) hd (nx hN rfl) (locB (by first | exact .inl rfl | exact .inr rfl)) (hfB (by first | exact .inl rfl | exact .inr rfl)))) (fun _ _ _ _ _ => sts_nil) (fun _ _ _ _ _ => (se_df [true, true] T.d193 A.o193 hr (glB rfl) takes_F (sa_cons (se_var (i := 0) (nx hN rfl) (visB (by first | exact .inl rfl | exact .inr (.inl rfl) | exact .inr (.inr rfl)))) (sa_cons (se_var (i := 2) (nx hN rfl) (visB (by first | exact .inl rfl | exact .inr (.inl rfl) | exact .inr (.inr rfl)))) sa_nil))))) sa_nil))))))) (sss_one (ss_ret se_bl)) sss_nil)
    (sss_one (ss_ret (se_callB (cs_all hc) (gl hs rfl) T.z_all bt_all (sa_cons (se_lc hc hd (si_zip (gl hs rfl) T.z_zip (sa_cons (se_var (i := 1) (nx hN rfl) (vis hs (by first | exact .inl rfl | exact .inr (.inl rfl) | exact .inr (.inr rfl)))) (sa_cons (se_cut (se_var (i := 1) (nx hN rfl) (vis hs (by first | exact .inl rfl | exact .inr (.inl rfl) | exact .inr (.inr rfl)))) (spo_some se_int) spo_none) sa_nil)) (fun _ h => RZ.pi_zipA (gl hs rfl) T.z_zip h)) (blko hN hs (own := [("one", 2), ("other", 3)]) ⟨rfl, by decide +kernel, by decide +kernel, by decide +kernel, by decide +kernel⟩) rfl (by decide) (fun _ _ _ _ _ => (sg_tup hc (sgs_cons (sg_name (i := 2) hd (nx hN rfl) (locB (by first | exact .inl rfl | exact .inr rfl)) (hfB (by first | exact .inl rfl | exact .inr rfl))) (sgs_cons (sg_name (i := 3) hd (nx hN rfl) (locB (by first | exact .inl rfl | exact .inr rfl)) (hfB (by first | exact .inl rfl | exact .inr rfl))) sgs_nil)))) (fun _ _ _ _ _ => sts_nil) (fun _ _ _ _ _ => (se_not (se_cmp (os_lt hr) (se_var (i := 3) (nx hN rfl) (visB (by first | exact .inl rfl | exact .inr (.inl rfl) | exact .inr (.inr rfl)))) (se_var (i := 2) (nx hN rfl) (visB (by first | exact .inl rfl | exact .inr (.inl rfl) | exact .inr (.inr rfl)))) rfl)))) sa_nil)))))
theorem sc99 : FnScope ["program"] ["program"] (defScope (top 26)) := ⟨rfl, rfl, rfl, by decide +kernel, rfl, by decide +kernel, by decide +kernel⟩
theorem ok99 (T : Tab K mg) (A : All P w base T n) : Ok P w base T.d99 (n + 1) (run 1 1 (bd_need_program (sem n))) := by
  refine fn_ok (N := ["program"]) (ps := ["program"]) (n := n) (b := bd_need_program (sem n)) T.d99.F sc99 fun X E hP hw hK hmg hbase hN hc hr hs hfn hp tk => ?_
  subst hP hw hK hmg hbase
  have hd : X.N.Nodup := nxd hN (by decide +kernel)
  exact (sss_one (ss_if (st_not (st_tru (se_df [true] T.d15 A.o15 hr (gl hs rfl) tk (sa_cons (se_var (i := 0) (nx hN rfl) (vis hs (by first | exact .inl rfl | exact .inr (.inl rfl) | exact .inr (.inr rfl)))) sa_nil)))) (sss_one ss_never) sss_nil))
theorem sc80 : FnScope ["wide", "tokens", "addresses", "index"] ["wide"] (defScope (top 31)) := ⟨rfl, rfl, rfl, by decide +kernel, rfl, by decide +kernel, by decide +kernel⟩
theorem ok80 (T : Tab K mg) (A : All P w base T n) : Ok P w base T.d80 (n + 1) (run 1 4 (bd_ready (sem n))) := by
  refine fn_ok (N := ["wide", "tokens", "addresses", "index"]) (ps := ["wide"]) (n := n) (b := bd_ready (sem n)) T.d80.F sc80 fun X E hP hw hK hmg hbase hN hc hr hs hfn hp tk => ?_
  subst hP hw hK hmg hbase
  have hd : X.N.Nodup := nxd hN (by decide +kernel)
  exact (sss_cons (ss_expr (se_df [true] T.d16 A.o16 hr (gl hs rfl) tk (sa_cons (se_var (i := 0) (nx hN rfl) (vis hs (by first | exact .inl rfl | exact .inr (.inl rfl) | exact .inr (.inr rfl)))) sa_nil)))
    (sss_cons (ss_asg (i := 1) hd (nx hN rfl) (loc hs (by first | exact .inl rfl | exact .inr rfl)) (se_df [true] T.d6 A.o6 hr (gl hs rfl) tk (sa_cons (se_var (i := 0) (nx hN rfl) (vis hs (by first | exact .inl rfl | exact .inr (.inl rfl) | exact .inr (.inr rfl)))) sa_nil)) (hf := .inl (hfn _)))
    (sss_cons (ss_asg (i := 2) hd (nx hN rfl) (loc hs (by first | exact .inl rfl | exact .inr rfl)) (se_df [true] T.d22 A.o22 hr (gl hs rfl) tk (sa_cons (se_var (i := 1) (nx hN rfl) (vis hs (by first | exact .inl rfl | exact .inr (.inl rfl) | exact .inr (.inr rfl)))) sa_nil)) (hf := .inl (hfn _)))
    (sss_one (ss_ret (se_callTy (cs_tuple) (gl hs rfl) T.z_tuple bt_tuple (sa_cons (se_lc hc hd (si_seq (se_df [true] T.d79 A.o79 hr (gl hs rfl) tk (sa_cons (se_var (i := 1) (nx hN rfl) (vis hs (by first | exact .inl rfl | exact .inr (.inl rfl) | exact .inr (.inr rfl)))) sa_nil))) (blko hN hs (own := [("index", 3)]) ⟨rfl, by decide +kernel, by decide +kernel, by decide +kernel, by decide +kernel⟩) rfl (by decide) (fun _ _ _ _ _ => (sg_name (i := 3) hd (nx hN rfl) (locB (by first | exact .inl rfl | exact .inr rfl)) (hfB (by first | exact .inl rfl | exact .inr rfl)))) (fun _ _ _ _ _ => sts_nil) (fun _ _ _ _ _ => (se_ix (se_var (i := 2) (nx hN rfl) (visB (by first | exact .inl rfl | exact .inr (.inl rfl) | exact .inr (.inr rfl)))) (se_var (i := 3) (nx hN rfl) (visB (by first | exact .inl rfl | exact .inr (.inl rfl) | exact .inr (.inr rfl))))))) sa_nil)))))))
theorem sc16 : FnScope ["wide"] ["wide"] (defScope (top 25)) := ⟨rfl, rfl, rfl, by decide +kernel, rfl, by decide +kernel, by decide +kernel⟩
theorem ok16 (T : Tab K mg) (A : All P w base T n) : Ok P w base T.d16 (n + 1) (run 1 1 (bd_need_wide (sem n))) := by
  refine fn_ok (N := ["wide"]) (ps := ["wide"]) (n := n) (b := bd_need_wide (sem n)) T.d16.F sc16 fun X E hP hw hK hmg hbase hN hc hr hs hfn hp tk => ?_
  subst hP hw hK hmg hbase
  have hd : X.N.Nodup := nxd hN (by decide +kernel)
  exact (sss_one (ss_if (st_not (st_tru (se_df [true] T.d5 A.o5 hr (gl hs rfl) tk (sa_cons (se_var (i := 0) (nx hN rfl) (vis hs (by first | exact .inl rfl | exact .inr (.inl rfl) | exact .inr (.inr rfl)))) sa_nil)))) (sss_one ss_never) sss_nil))
theorem sc15 : FnScope ["value", "tokens", "word", "inner"] ["value"] (defScope (top 24)) := ⟨rfl, rfl, rfl, by decide +kernel, rfl, by decide +kernel, by decide +kernel⟩
theorem ok15 (T : Tab K mg) (A : All P w base T n) : Ok P w base T.d15 (n + 1) (run 1 4 (bd_is_program (sem n))) := by
  refine fn_ok (N := ["value", "tokens", "word", "inner"]) (ps := ["value"]) (n := n) (b := bd_is_program (sem n)) T.d15.F sc15 fun X E hP hw hK hmg hbase hN hc hr hs hfn hp tk => ?_
  subst hP hw hK hmg hbase
  have hd : X.N.Nodup := nxd hN (by decide +kernel)
  exact (sss_cons (ss_if (st_not (st_tru (se_df [true] T.d5 A.o5 hr (gl hs rfl) tk (sa_cons (se_var (i := 0) (nx hN rfl) (vis hs (by first | exact .inl rfl | exact .inr (.inl rfl) | exact .inr (.inr rfl)))) sa_nil)))) (sss_one (ss_ret se_bl)) sss_nil)
    (sss_cons (ss_asg (i := 1) hd (nx hN rfl) (loc hs (by first | exact .inl rfl | exact .inr rfl)) (se_df [true] T.d6 A.o6 hr (gl hs rfl) tk (sa_cons (se_var (i := 0) (nx hN rfl) (vis hs (by first | exact .inl rfl | exact .inr (.inl rfl) | exact .inr (.inr rfl)))) sa_nil)) (hf := .inl (hfn _)))
    (sss_cons (ss_if (SW.toT (sw_or (st_cmp (os_gt hr) (se_callB (cs_len) (gl hs rfl) T.z_len bt_len (sa_cons (se_var (i := 1) (nx hN rfl) (vis hs (by first | exact .inl rfl | exact .inr (.inl rfl) | exact .inr (.inr rfl)))) sa_nil)) (se_gint (gl hs rfl) T.g_MOST_NODES.choose_spec) rfl) (sw_or1 (st_tru (se_callB (cs_any hc) (gl hs rfl) T.z_any bt_any (sa_cons (se_lc hc hd (si_seq (se_var (i := 1) (nx hN rfl) (vis hs (by first | exact .inl rfl | exact .inr (.inl rfl) | exact .inr (.inr rfl))))) (blko hN hs (own := [("word", 2), ("inner", 3)]) ⟨rfl, by decide +kernel, by decide +kernel, by decide +kernel, by decide +kernel⟩) rfl (by decide) (fun _ _ _ _ _ => (sg_tup hc (sgs_cons (sg_name (i := 2) hd (nx hN rfl) (locB (by first | exact .inl rfl | exact .inr rfl)) (hfB (by first | exact .inl rfl | exact .inr rfl))) (sgs_cons (sg_name (i := 3) hd (nx hN rfl) (locB (by first | exact .inl rfl | exact .inr rfl)) (hfB (by first | exact .inl rfl | exact .inr rfl))) sgs_nil)))) (fun _ _ _ _ _ => sts_nil) (fun _ _ _ _ _ => (se_cmp (os_eq hr) (se_var (i := 2) (nx hN rfl) (visB (by first | exact .inl rfl | exact .inr (.inl rfl) | exact .inr (.inr rfl)))) se_str rfl))) sa_nil)))))) (sss_one (ss_ret se_bl)) sss_nil)
    (sss_one (ss_ret (se_cmp (os_le hr) (se_df [true] T.d8 A.o8 hr (gl hs rfl) tk (sa_cons (se_var (i := 1) (nx hN rfl) (vis hs (by first | exact .inl rfl | exact .inr (.inl rfl) | exact .inr (.inr rfl)))) sa_nil)) (se_gint (gl hs rfl) T.g_MOST_LEVELS.choose_spec) rfl))))))
theorem sc6 : FnScope ["wide", "tokens", "pile", "one"] ["wide"] (defScope (top 17)) := ⟨rfl, rfl, rfl, by decide +kernel, rfl, by decide +kernel, by decide +kernel⟩
theorem ok6 (T : Tab K mg) (A : All P w base T n) : Ok P w base T.d6 (n + 1) (run 1 4 (bd_flat (sem n))) := by
  refine fn_ok (N := ["wide", "tokens", "pile", "one"]) (ps := ["wide"]) (n := n) (b := bd_flat (sem n)) T.d6.F sc6 fun X E hP hw hK hmg hbase hN hc hr hs hfn hp tk => ?_
  subst hP hw hK hmg hbase
  have hd : X.N.Nodup := nxd hN (by decide +kernel)
  exact (sss_cons (ss_asg (i := 1) hd (nx hN rfl) (loc hs (by first | exact .inl rfl | exact .inr rfl)) (se_lst sa_nil) (hf := .inl (hfn _)))
    (sss_cons (ss_asg (i := 2) hd (nx hN rfl) (loc hs (by first | exact .inl rfl | exact .inr rfl)) (se_lst (sa_cons (se_var (i := 0) (nx hN rfl) (vis hs (by first | exact .inl rfl | exact .inr (.inl rfl) | exact .inr (.inr rfl)))) sa_nil)) (hf := .inl (hfn _)))
    (sss_cons (ss_while hp (st_cmp (os_gt hr) (se_callB (cs_len) (gl hs rfl) T.z_len bt_len (sa_cons (se_var (i := 2) (nx hN rfl) (vis hs (by first | exact .inl rfl | exact .inr (.inl rfl) | exact .inr (.inr rfl)))) sa_nil)) se_int rfl) (sss_cons (ss_asg (i := 3) hd (nx hN rfl) (loc hs (by first | exact .inl rfl | exact .inr rfl)) (se_pop (i := 2) (nx hN rfl) (vis hs (by first | exact .inl rfl | exact .inr (.inl rfl) | exact .inr (.inr rfl)))) (hf := .inl (hfn _)))
    (sss_cons (ss_expr (se_append (i := 1) (nx hN rfl) (vis hs (by first | exact .inl rfl | exact .inr (.inl rfl) | exact .inr (.inr rfl))) (sa_cons (se_tup (sa_cons (se_ix (se_var (i := 3) (nx hN rfl) (vis hs (by first | exact .inl rfl | exact .inr (.inl rfl) | exact .inr (.inr rfl)))) se_int) (sa_cons (se_if (st_cmp (os_eq hr) (se_ix (se_var (i := 3) (nx hN rfl) (vis hs (by first | exact .inl rfl | exact .inr (.inl rfl) | exact .inr (.inr rfl)))) se_int) se_str rfl) se_non (se_ix (se_var (i := 3) (nx hN rfl) (vis hs (by first | exact .inl rfl | exact .inr (.inl rfl) | exact .inr (.inr rfl)))) se_int)) sa_nil))) sa_nil)))
    (sss_one (ss_if (st_cmp (os_eq hr) (se_ix (se_var (i := 3) (nx hN rfl) (vis hs (by first | exact .inl rfl | exact .inr (.inl rfl) | exact .inr (.inr rfl)))) se_int) se_str rfl) (sss_one (ss_expr (se_append (i := 2) (nx hN rfl) (vis hs (by first | exact .inl rfl | exact .inr (.inl rfl) | exact .inr (.inr rfl))) (sa_cons (se_ix (se_var (i := 3) (nx hN rfl) (vis hs (by first | exact .inl rfl | exact .inr (.inl rfl) | exact .inr (.inr rfl)))) se_int) sa_nil)))) (sss_one (ss_if (st_cmp (os_eq hr) (se_ix (se_var (i := 3) (nx hN rfl) (vis hs (by first | exact .inl rfl | exact .inr (.inl rfl) | exact .inr (.inr rfl)))) se_int) se_str rfl) (sss_cons (ss_expr (se_append (i := 2) (nx hN rfl) (vis hs (by first | exact .inl rfl | exact .inr (.inl rfl) | exact .inr (.inr rfl))) (sa_cons (se_ix (se_var (i := 3) (nx hN rfl) (vis hs (by first | exact .inl rfl | exact .inr (.inl rfl) | exact .inr (.inr rfl)))) se_int) sa_nil)))
    (sss_one (ss_expr (se_append (i := 2) (nx hN rfl) (vis hs (by first | exact .inl rfl | exact .inr (.inl rfl) | exact .inr (.inr rfl))) (sa_cons (se_ix (se_var (i := 3) (nx hN rfl) (vis hs (by first | exact .inl rfl | exact .inr (.inl rfl) | exact .inr (.inr rfl)))) se_int) sa_nil))))) sss_nil)))))))
    (sss_one (ss_ret (se_var (i := 1) (nx hN rfl) (vis hs (by first | exact .inl rfl | exact .inr (.inl rfl) | exact .inr (.inr rfl)))))))))
theorem sc22 : FnScope ["tokens", "found", "pile", "word", "value", "address"] ["tokens"] (defScope (top 20)) := ⟨rfl, rfl, rfl, by decide +kernel, rfl, by decide +kernel, by decide +kernel⟩
theorem ok22 (T : Tab K mg) (A : All P w base T n) : Ok P w base T.d22 (n + 1) (run 1 6 (bd_addresses_of (sem n))) := by
  refine fn_ok (N := ["tokens", "found", "pile", "word", "value", "address"]) (ps := ["tokens"]) (n := n) (b := bd_addresses_of (sem n)) T.d22.F sc22 fun X E hP hw hK hmg hbase hN hc hr hs hfn hp tk => ?_
  subst hP hw hK hmg hbase
  have hd : X.N.Nodup := nxd hN (by decide +kernel)
  exact (sss_cons (ss_asg (i := 1) hd (nx hN rfl) (loc hs (by first | exact .inl rfl | exact .inr rfl)) (se_lst sa_nil) (hf := .inl (hfn _)))
    (sss_cons (ss_asg (i := 2) hd (nx hN rfl) (loc hs (by first | exact .inl rfl | exact .inr rfl)) (se_lst (sa_cons (se_tup sa_nil) sa_nil)) (hf := .inl (hfn _)))
    (sss_cons (ss_for hp hc (si_seq (se_var (i := 0) (nx hN rfl) (vis hs (by first | exact .inl rfl | exact .inr (.inl rfl) | exact .inr (.inr rfl))))) (sg_tup hc (sgs_cons (sg_name (i := 3) hd (nx hN rfl) (loc hs (by first | exact .inl rfl | exact .inr rfl)) (.inl (hfn _))) (sgs_cons (sg_name (i := 4) hd (nx hN rfl) (loc hs (by first | exact .inl rfl | exact .inr rfl)) (.inl (hfn _))) sgs_nil))) (sss_cons (ss_asg (i := 5) hd (nx hN rfl) (loc hs (by first | exact .inl rfl | exact .inr rfl)) (se_pop (i := 2) (nx hN rfl) (vis hs (by first | exact .inl rfl | exact .inr (.inl rfl) | exact .inr (.inr rfl)))) (hf := .inl (hfn _)))
    (sss_cons (ss_expr (se_append (i := 1) (nx hN rfl) (vis hs (by first | exact .inl rfl | exact .inr (.inl rfl) | exact .inr (.inr rfl))) (sa_cons (se_var (i := 5) (nx hN rfl) (vis hs (by first | exact .inl rfl | exact .inr (.inl rfl) | exact .inr (.inr rfl)))) sa_nil)))
    (sss_cons (ss_if (st_cmp (os_eq hr) (se_var (i := 3) (nx hN rfl) (vis hs (by first | exact .inl rfl | exact .inr (.inl rfl) | exact .inr (.inr rfl)))) se_str rfl) (sss_one (ss_expr (se_append (i := 2) (nx hN rfl) (vis hs (by first | exact .inl rfl | exact .inr (.inl rfl) | exact .inr (.inr rfl))) (sa_cons (se_op (os_add) (se_var (i := 5) (nx hN rfl) (vis hs (by first | exact .inl rfl | exact .inr (.inl rfl) | exact .inr (.inr rfl)))) (se_tup (sa_cons se_int sa_nil))) sa_nil)))) sss_nil)
    (sss_one (ss_if (SW.toT (sw_or (st_cmp (os_eq hr) (se_var (i := 3) (nx hN rfl) (vis hs (by first | exact .inl rfl | exact .inr (.inl rfl) | exact .inr (.inr rfl)))) se_str rfl) (sw_or1 (st_cmp (os_eq hr) (se_var (i := 3) (nx hN rfl) (vis hs (by first | exact .inl rfl | exact .inr (.inl rfl) | exact .inr (.inr rfl)))) se_str rfl)))) (sss_one (ss_expr (se_append (i := 2) (nx hN rfl) (vis hs (by first | exact .inl rfl | exact .inr (.inl rfl) | exact .inr (.inr rfl))) (sa_cons (se_op (os_add) (se_var (i := 5) (nx hN rfl) (vis hs (by first | exact .inl rfl | exact .inr (.inl rfl) | exact .inr (.inr rfl)))) (se_tup (sa_cons se_int sa_nil))) sa_nil)))) sss_nil))))))
    (sss_one (ss_ret (se_var (i := 1) (nx hN rfl) (vis hs (by first | exact .inl rfl | exact .inr (.inl rfl) | exact .inr (.inr rfl)))))))))
theorem sc79 : FnScope ["tokens", "index"] ["tokens"] (defScope (top 30)) := ⟨rfl, rfl, rfl, by decide +kernel, rfl, by decide +kernel, by decide +kernel⟩
theorem ok79 (T : Tab K mg) (A : All P w base T n) : Ok P w base T.d79 (n + 1) (run 1 2 (bd_indexes_ready (sem n))) := by
  refine fn_ok (N := ["tokens", "index"]) (ps := ["tokens"]) (n := n) (b := bd_indexes_ready (sem n)) T.d79.F sc79 fun X E hP hw hK hmg hbase hN hc hr hs hfn hp tk => ?_
  subst hP hw hK hmg hbase
  have hd : X.N.Nodup := nxd hN (by decide +kernel)
  exact (sss_one (ss_ret (se_lc hc hd (si_range1 (gl hs rfl) T.z_range (sa_cons (se_callB (cs_len) (gl hs rfl) T.z_len bt_len (sa_cons (se_var (i := 0) (nx hN rfl) (vis hs (by first | exact .inl rfl | exact .inr (.inl rfl) | exact .inr (.inr rfl)))) sa_nil)) sa_nil)) (blko hN hs (own := [("index", 1)]) ⟨rfl, by decide +kernel, by decide +kernel, by decide +kernel, by decide +kernel⟩) rfl (by decide) (fun _ _ _ _ _ => (sg_name (i := 1) hd (nx hN rfl) (locB (by first | exact .inl rfl | exact .inr rfl)) (hfB (by first | exact .inl rfl | exact .inr rfl)))) (fun _ _ _ _ _ => (sts_one (st_tru (se_df [true, true] T.d78 A.o78 hr (glB rfl) takes_F (sa_cons (se_var (i := 0) (nx hN rfl) (visB (by first | exact .inl rfl | exact .inr (.inl rfl) | exact .inr (.inr rfl)))) (sa_cons (se_var (i := 1) (nx hN rfl) (visB (by first | exact .inl rfl | exact .inr (.inl rfl) | exact .inr (.inr rfl)))) sa_nil)))))) (fun _ _ _ _ _ => (se_var (i := 1) (nx hN rfl) (visB (by first | exact .inl rfl | exact .inr (.inl rfl) | exact .inr (.inr rfl))))))))
theorem sc5 : FnScope ["value", "pile", "one"] ["value"] (defScope (top 16)) := ⟨rfl, rfl, rfl, by decide +kernel, rfl, by decide +kernel, by decide +kernel⟩
theorem ok5 (T : Tab K mg) (A : All P w base T n) : Ok P w base T.d5 (n + 1) (run 1 3 (bd_is_tree (sem n))) := by
  refine fn_ok (N := ["value", "pile", "one"]) (ps := ["value"]) (n := n) (b := bd_is_tree (sem n)) T.d5.F sc5 fun X E hP hw hK hmg hbase hN hc hr hs hfn hp tk => ?_
  subst hP hw hK hmg hbase
  have hd : X.N.Nodup := nxd hN (by decide +kernel)
  exact (sss_cons (ss_asg (i := 1) hd (nx hN rfl) (loc hs (by first | exact .inl rfl | exact .inr rfl)) (se_lst (sa_cons (se_var (i := 0) (nx hN rfl) (vis hs (by first | exact .inl rfl | exact .inr (.inl rfl) | exact .inr (.inr rfl)))) sa_nil)) (hf := .inl (hfn _)))
    (sss_cons (ss_while hp (st_cmp (os_gt hr) (se_callB (cs_len) (gl hs rfl) T.z_len bt_len (sa_cons (se_var (i := 1) (nx hN rfl) (vis hs (by first | exact .inl rfl | exact .inr (.inl rfl) | exact .inr (.inr rfl)))) sa_nil)) se_int rfl) (sss_cons (ss_asg (i := 2) hd (nx hN rfl) (loc hs (by first | exact .inl rfl | exact .inr rfl)) (se_pop (i := 1) (nx hN rfl) (vis hs (by first | exact .inl rfl | exact .inr (.inl rfl) | exact .inr (.inr rfl)))) (hf := .inl (hfn _)))
    (sss_cons (ss_if (st_not (st_tru (se_df [true] T.d4 A.o4 hr (gl hs rfl) tk (sa_cons (se_var (i := 2) (nx hN rfl) (vis hs (by first | exact .inl rfl | exact .inr (.inl rfl) | exact .inr (.inr rfl)))) sa_nil)))) (sss_one (ss_ret se_bl)) sss_nil)
    (sss_one (ss_if (st_cmp (os_eq hr) (se_ix (se_var (i := 2) (nx hN rfl) (vis hs (by first | exact .inl rfl | exact .inr (.inl rfl) | exact .inr (.inr rfl)))) se_int) se_str rfl) (sss_one (ss_expr (se_append (i := 1) (nx hN rfl) (vis hs (by first | exact .inl rfl | exact .inr (.inl rfl) | exact .inr (.inr rfl))) (sa_cons (se_ix (se_var (i := 2) (nx hN rfl) (vis hs (by first | exact .inl rfl | exact .inr (.inl rfl) | exact .inr (.inr rfl)))) se_int) sa_nil)))) (sss_one (ss_if (st_cmp (os_eq hr) (se_ix (se_var (i := 2) (nx hN rfl) (vis hs (by first | exact .inl rfl | exact .inr (.inl rfl) | exact .inr (.inr rfl)))) se_int) se_str rfl) (sss_cons (ss_expr (se_append (i := 1) (nx hN rfl) (vis hs (by first | exact .inl rfl | exact .inr (.inl rfl) | exact .inr (.inr rfl))) (sa_cons (se_ix (se_var (i := 2) (nx hN rfl) (vis hs (by first | exact .inl rfl | exact .inr (.inl rfl) | exact .inr (.inr rfl)))) se_int) sa_nil)))
    (sss_one (ss_expr (se_append (i := 1) (nx hN rfl) (vis hs (by first | exact .inl rfl | exact .inr (.inl rfl) | exact .inr (.inr rfl))) (sa_cons (se_ix (se_var (i := 2) (nx hN rfl) (vis hs (by first | exact .inl rfl | exact .inr (.inl rfl) | exact .inr (.inr rfl)))) se_int) sa_nil))))) sss_nil)))))))
    (sss_one (ss_ret se_bl))))
theorem sc8 : FnScope ["tokens", "ends", "levels", "index", "word"] ["tokens"] (defScope (top 19)) := ⟨rfl, rfl, rfl, by decide +kernel, rfl, by decide +kernel, by decide +kernel⟩
theorem ok8 (T : Tab K mg) (A : All P w base T n) : Ok P w base T.d8 (n + 1) (run 1 5 (bd_levels_of (sem n))) := by
  refine fn_ok (N := ["tokens", "ends", "levels", "index", "word"]) (ps := ["tokens"]) (n := n) (b := bd_levels_of (sem n)) T.d8.F sc8 fun X E hP hw hK hmg hbase hN hc hr hs hfn hp tk => ?_
  subst hP hw hK hmg hbase
  have hd : X.N.Nodup := nxd hN (by decide +kernel)
  exact (sss_cons (ss_asg (i := 1) hd (nx hN rfl) (loc hs (by first | exact .inl rfl | exact .inr rfl)) (se_df [true] T.d7 A.o7 hr (gl hs rfl) tk (sa_cons (se_var (i := 0) (nx hN rfl) (vis hs (by first | exact .inl rfl | exact .inr (.inl rfl) | exact .inr (.inr rfl)))) sa_nil)) (hf := .inl (hfn _)))
    (sss_cons (ss_asg (i := 2) hd (nx hN rfl) (loc hs (by first | exact .inl rfl | exact .inr rfl)) (se_op (os_mul) (se_lst (sa_cons se_int sa_nil)) (se_callB (cs_len) (gl hs rfl) T.z_len bt_len (sa_cons (se_var (i := 0) (nx hN rfl) (vis hs (by first | exact .inl rfl | exact .inr (.inl rfl) | exact .inr (.inr rfl)))) sa_nil))) (hf := .inl (hfn _)))
    (sss_cons (ss_for hp hc (si_range3 (gl hs rfl) T.z_range (sa_cons (se_op (os_sub) (se_callB (cs_len) (gl hs rfl) T.z_len bt_len (sa_cons (se_var (i := 0) (nx hN rfl) (vis hs (by first | exact .inl rfl | exact .inr (.inl rfl) | exact .inr (.inr rfl)))) sa_nil)) se_int) (sa_cons (se_un us_neg se_int) (sa_cons (se_un us_neg se_int) sa_nil))) (fun _ h => L2.pi_range3 (gl hs rfl) T.z_range h)) (sg_name (i := 3) hd (nx hN rfl) (loc hs (by first | exact .inl rfl | exact .inr rfl)) (.inl (hfn _))) (sss_cons (ss_asg (i := 4) hd (nx hN rfl) (loc hs (by first | exact .inl rfl | exact .inr rfl)) (se_ix (se_ix (se_var (i := 0) (nx hN rfl) (vis hs (by first | exact .inl rfl | exact .inr (.inl rfl) | exact .inr (.inr rfl)))) (se_var (i := 3) (nx hN rfl) (vis hs (by first | exact .inl rfl | exact .inr (.inl rfl) | exact .inr (.inr rfl))))) se_int) (hf := .inl (hfn _)))
    (sss_one (ss_if (st_cmp (os_eq hr) (se_var (i := 4) (nx hN rfl) (vis hs (by first | exact .inl rfl | exact .inr (.inl rfl) | exact .inr (.inr rfl)))) se_str rfl) (sss_one (ss_set (i := 2) (nx hN rfl) (vis hs (by first | exact .inl rfl | exact .inr (.inl rfl) | exact .inr (.inr rfl))) (se_var (i := 3) (nx hN rfl) (vis hs (by first | exact .inl rfl | exact .inr (.inl rfl) | exact .inr (.inr rfl)))) (se_op (os_add) (se_ix (se_var (i := 2) (nx hN rfl) (vis hs (by first | exact .inl rfl | exact .inr (.inl rfl) | exact .inr (.inr rfl)))) (se_op (os_add) (se_var (i := 3) (nx hN rfl) (vis hs (by first | exact .inl rfl | exact .inr (.inl rfl) | exact .inr (.inr rfl)))) se_int)) se_int))) (sss_one (ss_if (st_cmp (os_eq hr) (se_var (i := 4) (nx hN rfl) (vis hs (by first | exact .inl rfl | exact .inr (.inl rfl) | exact .inr (.inr rfl)))) se_str rfl) (sss_one (ss_set (i := 2) (nx hN rfl) (vis hs (by first | exact .inl rfl | exact .inr (.inl rfl) | exact .inr (.inr rfl))) (se_var (i := 3) (nx hN rfl) (vis hs (by first | exact .inl rfl | exact .inr (.inl rfl) | exact .inr (.inr rfl)))) (se_op (os_add) (se_callB (cs_max hc) (gl hs rfl) T.z_max bt_max (sa_cons (se_ix (se_var (i := 2) (nx hN rfl) (vis hs (by first | exact .inl rfl | exact .inr (.inl rfl) | exact .inr (.inr rfl)))) (se_op (os_add) (se_var (i := 3) (nx hN rfl) (vis hs (by first | exact .inl rfl | exact .inr (.inl rfl) | exact .inr (.inr rfl)))) se_int)) (sa_cons (se_ix (se_var (i := 2) (nx hN rfl) (vis hs (by first | exact .inl rfl | exact .inr (.inl rfl) | exact .inr (.inr rfl)))) (se_ix (se_var (i := 1) (nx hN rfl) (vis hs (by first | exact .inl rfl | exact .inr (.inl rfl) | exact .inr (.inr rfl)))) (se_op (os_add) (se_var (i := 3) (nx hN rfl) (vis hs (by first | exact .inl rfl | exact .inr (.inl rfl) | exact .inr (.inr rfl)))) se_int))) sa_nil))) se_int))) sss_nil))))))
    (sss_one (ss_ret (se_ix (se_var (i := 2) (nx hN rfl) (vis hs (by first | exact .inl rfl | exact .inr (.inl rfl) | exact .inr (.inr rfl)))) se_int))))))
theorem sc78 : FnScope ["tokens", "index"] ["tokens", "index"] (defScope (top 29)) := ⟨rfl, rfl, rfl, by decide +kernel, rfl, by decide +kernel, by decide +kernel⟩
theorem ok78 (T : Tab K mg) (A : All P w base T n) : Ok P w base T.d78 (n + 1) (run 2 2 (bd_is_ready (sem n))) := by
  refine fn_ok (N := ["tokens", "index"]) (ps := ["tokens", "index"]) (n := n) (b := bd_is_ready (sem n)) T.d78.F sc78 fun X E hP hw hK hmg hbase hN hc hr hs hfn hp tk => ?_
  subst hP hw hK hmg hbase
  have hd : X.N.Nodup := nxd hN (by decide +kernel)
  exact (sss_one (ss_ret (se_and (se_cmp (os_eq hr) (se_ix (se_ix (se_var (i := 0) (nx hN rfl) (vis hs (by first | exact .inl rfl | exact .inr (.inl rfl) | exact .inr (.inr rfl)))) (se_var (i := 1) (nx hN rfl) (vis hs (by first | exact .inl rfl | exact .inr (.inl rfl) | exact .inr (.inr rfl))))) se_int) se_str rfl) (se_one (se_cmp (os_eq hr) (se_ix (se_ix (se_var (i := 0) (nx hN rfl) (vis hs (by first | exact .inl rfl | exact .inr (.inl rfl) | exact .inr (.inr rfl)))) (se_op (os_add) (se_var (i := 1) (nx hN rfl) (vis hs (by first | exact .inl rfl | exact .inr (.inl rfl) | exact .inr (.inr rfl)))) se_int)) se_int) se_str rfl)))))
theorem sc4 : FnScope ["value"] ["value"] (defScope (top 15)) := ⟨rfl, rfl, rfl, by decide +kernel, rfl, by decide +kernel, by decide +kernel⟩
theorem ok4 (T : Tab K mg) (A : All P w base T n) : Ok P w base T.d4 (n + 1) (run 1 1 (bd_is_node (sem n))) := by
  refine fn_ok (N := ["value"]) (ps := ["value"]) (n := n) (b := bd_is_node (sem n)) T.d4.F sc4 fun X E hP hw hK hmg hbase hN hc hr hs hfn hp tk => ?_
  subst hP hw hK hmg hbase
  have hd : X.N.Nodup := nxd hN (by decide +kernel)
  exact (sss_cons (ss_if (SW.toT (sw_or (st_not (st_tru (se_callB (cs_isi) (gl hs rfl) T.z_isinstance bt_isinstance (sa_cons (se_var (i := 0) (nx hN rfl) (vis hs (by first | exact .inl rfl | exact .inr (.inl rfl) | exact .inr (.inr rfl)))) (sa_cons (se_ty (gl hs rfl) T.z_tuple bt_tuple) sa_nil))))) (sw_or (st_cmp (os_lt hr) (se_callB (cs_len) (gl hs rfl) T.z_len bt_len (sa_cons (se_var (i := 0) (nx hN rfl) (vis hs (by first | exact .inl rfl | exact .inr (.inl rfl) | exact .inr (.inr rfl)))) sa_nil)) se_int rfl) (sw_or1 (st_not (st_tru (se_callB (cs_isi) (gl hs rfl) T.z_isinstance bt_isinstance (sa_cons (se_ix (se_var (i := 0) (nx hN rfl) (vis hs (by first | exact .inl rfl | exact .inr (.inl rfl) | exact .inr (.inr rfl)))) se_int) (sa_cons (se_ty (gl hs rfl) T.z_str bt_str) sa_nil))))))))) (sss_one (ss_ret se_bl)) sss_nil)
    (sss_cons (ss_if (st_cmp (os_eq hr) (se_ix (se_var (i := 0) (nx hN rfl) (vis hs (by first | exact .inl rfl | exact .inr (.inl rfl) | exact .inr (.inr rfl)))) se_int) se_str rfl) (sss_one (ss_ret (se_and (se_cmp (os_eq hr) (se_callB (cs_len) (gl hs rfl) T.z_len bt_len (sa_cons (se_var (i := 0) (nx hN rfl) (vis hs (by first | exact .inl rfl | exact .inr (.inl rfl) | exact .inr (.inr rfl)))) sa_nil)) se_int rfl) (se_one (se_df [true] T.d3 A.o3 hr (gl hs rfl) tk (sa_cons (se_ix (se_var (i := 0) (nx hN rfl) (vis hs (by first | exact .inl rfl | exact .inr (.inl rfl) | exact .inr (.inr rfl)))) se_int) sa_nil)))))) sss_nil)
    (sss_cons (ss_if (st_cmp (os_eq hr) (se_ix (se_var (i := 0) (nx hN rfl) (vis hs (by first | exact .inl rfl | exact .inr (.inl rfl) | exact .inr (.inr rfl)))) se_int) se_str rfl) (sss_one (ss_ret (se_and (se_cmp (os_eq hr) (se_callB (cs_len) (gl hs rfl) T.z_len bt_len (sa_cons (se_var (i := 0) (nx hN rfl) (vis hs (by first | exact .inl rfl | exact .inr (.inl rfl) | exact .inr (.inr rfl)))) sa_nil)) se_int rfl) (se_one (se_df [true] T.d1 A.o1 hr (gl hs rfl) tk (sa_cons (se_ix (se_var (i := 0) (nx hN rfl) (vis hs (by first | exact .inl rfl | exact .inr (.inl rfl) | exact .inr (.inr rfl)))) se_int) sa_nil)))))) sss_nil)
    (sss_cons (ss_if (st_cmp (os_eq hr) (se_ix (se_var (i := 0) (nx hN rfl) (vis hs (by first | exact .inl rfl | exact .inr (.inl rfl) | exact .inr (.inr rfl)))) se_int) se_str rfl) (sss_one (ss_ret (se_and (se_cmp (os_eq hr) (se_callB (cs_len) (gl hs rfl) T.z_len bt_len (sa_cons (se_var (i := 0) (nx hN rfl) (vis hs (by first | exact .inl rfl | exact .inr (.inl rfl) | exact .inr (.inr rfl)))) sa_nil)) se_int rfl) (se_one (se_df [true] T.d3 A.o3 hr (gl hs rfl) tk (sa_cons (se_ix (se_var (i := 0) (nx hN rfl) (vis hs (by first | exact .inl rfl | exact .inr (.inl rfl) | exact .inr (.inr rfl)))) se_int) sa_nil)))))) sss_nil)
    (sss_one (ss_ret (se_and (se_cmp (os_eq hr) (se_ix (se_var (i := 0) (nx hN rfl) (vis hs (by first | exact .inl rfl | exact .inr (.inl rfl) | exact .inr (.inr rfl)))) se_int) se_str rfl) (se_one (se_cmp (os_eq hr) (se_callB (cs_len) (gl hs rfl) T.z_len bt_len (sa_cons (se_var (i := 0) (nx hN rfl) (vis hs (by first | exact .inl rfl | exact .inr (.inl rfl) | exact .inr (.inr rfl)))) sa_nil)) se_int rfl)))))))))
theorem sc7 : FnScope ["tokens", "ends", "index", "word"] ["tokens"] (defScope (top 18)) := ⟨rfl, rfl, rfl, by decide +kernel, rfl, by decide +kernel, by decide +kernel⟩
theorem ok7 (T : Tab K mg) (A : All P w base T n) : Ok P w base T.d7 (n + 1) (run 1 4 (bd_ends_of (sem n))) := by
  refine fn_ok (N := ["tokens", "ends", "index", "word"]) (ps := ["tokens"]) (n := n) (b := bd_ends_of (sem n)) T.d7.F sc7 fun X E hP hw hK hmg hbase hN hc hr hs hfn hp tk => ?_
  subst hP hw hK hmg hbase
  have hd : X.N.Nodup := nxd hN (by decide +kernel)
  exact (sss_cons (ss_asg (i := 1) hd (nx hN rfl) (loc hs (by first | exact .inl rfl | exact .inr rfl)) (se_op (os_mul) (se_lst (sa_cons se_int sa_nil)) (se_callB (cs_len) (gl hs rfl) T.z_len bt_len (sa_cons (se_var (i := 0) (nx hN rfl) (vis hs (by first | exact .inl rfl | exact .inr (.inl rfl) | exact .inr (.inr rfl)))) sa_nil))) (hf := .inl (hfn _)))
    (sss_cons (ss_for hp hc (si_range3 (gl hs rfl) T.z_range (sa_cons (se_op (os_sub) (se_callB (cs_len) (gl hs rfl) T.z_len bt_len (sa_cons (se_var (i := 0) (nx hN rfl) (vis hs (by first | exact .inl rfl | exact .inr (.inl rfl) | exact .inr (.inr rfl)))) sa_nil)) se_int) (sa_cons (se_un us_neg se_int) (sa_cons (se_un us_neg se_int) sa_nil))) (fun _ h => L2.pi_range3 (gl hs rfl) T.z_range h)) (sg_name (i := 2) hd (nx hN rfl) (loc hs (by first | exact .inl rfl | exact .inr rfl)) (.inl (hfn _))) (sss_cons (ss_asg (i := 3) hd (nx hN rfl) (loc hs (by first | exact .inl rfl | exact .inr rfl)) (se_ix (se_ix (se_var (i := 0) (nx hN rfl) (vis hs (by first | exact .inl rfl | exact .inr (.inl rfl) | exact .inr (.inr rfl)))) (se_var (i := 2) (nx hN rfl) (vis hs (by first | exact .inl rfl | exact .inr (.inl rfl) | exact .inr (.inr rfl))))) se_int) (hf := .inl (hfn _)))
    (sss_one (ss_if (st_cmp (os_eq hr) (se_var (i := 3) (nx hN rfl) (vis hs (by first | exact .inl rfl | exact .inr (.inl rfl) | exact .inr (.inr rfl)))) se_str rfl) (sss_one (ss_set (i := 1) (nx hN rfl) (vis hs (by first | exact .inl rfl | exact .inr (.inl rfl) | exact .inr (.inr rfl))) (se_var (i := 2) (nx hN rfl) (vis hs (by first | exact .inl rfl | exact .inr (.inl rfl) | exact .inr (.inr rfl)))) (se_ix (se_var (i := 1) (nx hN rfl) (vis hs (by first | exact .inl rfl | exact .inr (.inl rfl) | exact .inr (.inr rfl)))) (se_op (os_add) (se_var (i := 2) (nx hN rfl) (vis hs (by first | exact .inl rfl | exact .inr (.inl rfl) | exact .inr (.inr rfl)))) se_int)))) (sss_one (ss_if (st_cmp (os_eq hr) (se_var (i := 3) (nx hN rfl) (vis hs (by first | exact .inl rfl | exact .inr (.inl rfl) | exact .inr (.inr rfl)))) se_str rfl) (sss_one (ss_set (i := 1) (nx hN rfl) (vis hs (by first | exact .inl rfl | exact .inr (.inl rfl) | exact .inr (.inr rfl))) (se_var (i := 2) (nx hN rfl) (vis hs (by first | exact .inl rfl | exact .inr (.inl rfl) | exact .inr (.inr rfl)))) (se_ix (se_var (i := 1) (nx hN rfl) (vis hs (by first | exact .inl rfl | exact .inr (.inl rfl) | exact .inr (.inr rfl)))) (se_ix (se_var (i := 1) (nx hN rfl) (vis hs (by first | exact .inl rfl | exact .inr (.inl rfl) | exact .inr (.inr rfl)))) (se_op (os_add) (se_var (i := 2) (nx hN rfl) (vis hs (by first | exact .inl rfl | exact .inr (.inl rfl) | exact .inr (.inr rfl)))) se_int))))) (sss_one (ss_set (i := 1) (nx hN rfl) (vis hs (by first | exact .inl rfl | exact .inr (.inl rfl) | exact .inr (.inr rfl))) (se_var (i := 2) (nx hN rfl) (vis hs (by first | exact .inl rfl | exact .inr (.inl rfl) | exact .inr (.inr rfl)))) (se_op (os_add) (se_var (i := 2) (nx hN rfl) (vis hs (by first | exact .inl rfl | exact .inr (.inl rfl) | exact .inr (.inr rfl)))) se_int)))))))))
    (sss_one (ss_ret (se_var (i := 1) (nx hN rfl) (vis hs (by first | exact .inl rfl | exact .inr (.inl rfl) | exact .inr (.inr rfl))))))))
theorem sc3 : FnScope ["value", "digits", "one"] ["value"] (defScope (top 14)) := ⟨rfl, rfl, rfl, by decide +kernel, rfl, by decide +kernel, by decide +kernel⟩
theorem ok3 (T : Tab K mg) (A : All P w base T n) : Ok P w base T.d3 (n + 1) (run 1 3 (bd_is_plain_name (sem n))) := by
  refine fn_ok (N := ["value", "digits", "one"]) (ps := ["value"]) (n := n) (b := bd_is_plain_name (sem n)) T.d3.F sc3 fun X E hP hw hK hmg hbase hN hc hr hs hfn hp tk => ?_
  subst hP hw hK hmg hbase
  have hd : X.N.Nodup := nxd hN (by decide +kernel)
  exact (sss_cons (ss_if (SW.toT (sw_or (st_not (st_tru (se_callB (cs_isi) (gl hs rfl) T.z_isinstance bt_isinstance (sa_cons (se_var (i := 0) (nx hN rfl) (vis hs (by first | exact .inl rfl | exact .inr (.inl rfl) | exact .inr (.inr rfl)))) (sa_cons (se_ty (gl hs rfl) T.z_str bt_str) sa_nil))))) (sw_or (st_cmp (os_eq hr) (se_var (i := 0) (nx hN rfl) (vis hs (by first | exact .inl rfl | exact .inr (.inl rfl) | exact .inr (.inr rfl)))) se_str rfl) (sw_or1 (st_cmp (os_nin hr) (se_ix (se_var (i := 0) (nx hN rfl) (vis hs (by first | exact .inl rfl | exact .inr (.inl rfl) | exact .inr (.inr rfl)))) se_int) (se_gstr (gl hs rfl) T.g_LETTERS.choose_spec (by decide +kernel)) rfl))))) (sss_one (ss_ret se_bl)) sss_nil)
    (sss_cons (ss_asg (i := 1) hd (nx hN rfl) (loc hs (by first | exact .inl rfl | exact .inr rfl)) (se_cut (se_var (i := 0) (nx hN rfl) (vis hs (by first | exact .inl rfl | exact .inr (.inl rfl) | exact .inr (.inr rfl)))) (spo_some se_int) spo_none) (hf := .inl (hfn _)))
    (sss_one (ss_ret (se_or (se_cmp (os_eq hr) (se_var (i := 1) (nx hN rfl) (vis hs (by first | exact .inl rfl | exact .inr (.inl rfl) | exact .inr (.inr rfl)))) se_str rfl) (se_one (se_and (se_cmp (os_le hr) (se_callB (cs_len) (gl hs rfl) T.z_len bt_len (sa_cons (se_var (i := 1) (nx hN rfl) (vis hs (by first | exact .inl rfl | exact .inr (.inl rfl) | exact .inr (.inr rfl)))) sa_nil)) (se_gint (gl hs rfl) T.g_MOST_DIGITS.choose_spec) rfl) (se_and (se_cmp (os_ne hr) (se_ix (se_var (i := 1) (nx hN rfl) (vis hs (by first | exact .inl rfl | exact .inr (.inl rfl) | exact .inr (.inr rfl)))) se_int) se_str rfl) (se_one (se_callB (cs_all hc) (gl hs rfl) T.z_all bt_all (sa_cons (se_lc hc hd (si_seq (se_var (i := 1) (nx hN rfl) (vis hs (by first | exact .inl rfl | exact .inr (.inl rfl) | exact .inr (.inr rfl))))) (blko hN hs (own := [("one", 2)]) ⟨rfl, by decide +kernel, by decide +kernel, by decide +kernel, by decide +kernel⟩) rfl (by decide) (fun _ _ _ _ _ => (sg_name (i := 2) hd (nx hN rfl) (locB (by first | exact .inl rfl | exact .inr rfl)) (hfB (by first | exact .inl rfl | exact .inr rfl)))) (fun _ _ _ _ _ => sts_nil) (fun _ _ _ _ _ => (se_cmp (os_in hr) (se_var (i := 2) (nx hN rfl) (visB (by first | exact .inl rfl | exact .inr (.inl rfl) | exact .inr (.inr rfl)))) (se_gstr (glB rfl) T.g_DIGITS.choose_spec (by decide +kernel)) rfl))) sa_nil)))))))))))
theorem sc1 : FnScope ["value"] ["value"] (defScope (top 7)) := ⟨rfl, rfl, rfl, by decide +kernel, rfl, by decide +kernel, by decide +kernel⟩
theorem ok1 (T : Tab K mg) (A : All P w base T n) : Ok P w base T.d1 (n + 1) (run 1 1 (bd_is_natural (sem n))) := by
  refine fn_ok (N := ["value"]) (ps := ["value"]) (n := n) (b := bd_is_natural (sem n)) T.d1.F sc1 fun X E hP hw hK hmg hbase hN hc hr hs hfn hp tk => ?_
  subst hP hw hK hmg hbase
  have hd : X.N.Nodup := nxd hN (by decide +kernel)
  exact (sss_one (ss_ret (se_and (se_df [true] T.d0 A.o0 hr (gl hs rfl) tk (sa_cons (se_var (i := 0) (nx hN rfl) (vis hs (by first | exact .inl rfl | exact .inr (.inl rfl) | exact .inr (.inr rfl)))) sa_nil)) (se_one (se_cmp (os_ge hr) (se_var (i := 0) (nx hN rfl) (vis hs (by first | exact .inl rfl | exact .inr (.inl rfl) | exact .inr (.inr rfl)))) se_int rfl)))))
theorem sc0 : FnScope ["value"] ["value"] (defScope (top 6)) := ⟨rfl, rfl, rfl, by decide +kernel, rfl, by decide +kernel, by decide +kernel⟩
theorem ok0 (T : Tab K mg) (A : All P w base T n) : Ok P w base T.d0 (n + 1) (run 1 1 (bd_is_integer (sem n))) := by
  refine fn_ok (N := ["value"]) (ps := ["value"]) (n := n) (b := bd_is_integer (sem n)) T.d0.F sc0 fun X E hP hw hK hmg hbase hN hc hr hs hfn hp tk => ?_
  subst hP hw hK hmg hbase
  have hd : X.N.Nodup := nxd hN (by decide +kernel)
  exact (sss_one (ss_ret (se_and (se_callB (cs_isi) (gl hs rfl) T.z_isinstance bt_isinstance (sa_cons (se_var (i := 0) (nx hN rfl) (vis hs (by first | exact .inl rfl | exact .inr (.inl rfl) | exact .inr (.inr rfl)))) (sa_cons (se_ty (gl hs rfl) T.z_int bt_int) sa_nil))) (se_one (se_not (se_callB (cs_isi) (gl hs rfl) T.z_isinstance bt_isinstance (sa_cons (se_var (i := 0) (nx hN rfl) (vis hs (by first | exact .inl rfl | exact .inr (.inl rfl) | exact .inr (.inr rfl)))) (sa_cons (se_ty (gl hs rfl) T.z_bool bt_bool) sa_nil))))))))
theorem all_ok (T : Tab K mg) : ∀ n, All P w base T n
  | 0 => ⟨ok_zero, ok_zero, ok_zero, ok_zero, ok_zero, ok_zero, ok_zero, ok_zero, ok_zero, ok_zero, ok_zero, ok_zero, ok_zero, ok_zero, ok_zero, ok_zero, ok_zero, ok_zero, ok_zero, ok_zero, ok_zero, ok_zero, ok_zero, ok_zero, ok_zero, ok_zero, ok_zero, ok_zero, ok_zero, ok_zero, ok_zero, ok_zero, ok_zero, ok_zero, ok_zero⟩
  | n + 1 => have A := all_ok T n
    ⟨ok1000 T A, ok532 T A, ok534 T A, ok533 T A, ok1001 T A, ok465 T A, ok462 T A, ok1002 T A, ok447 T A, ok1003 T A, ok1004 T A, ok444 T A, ok70 T A, ok464 T A, ok461 T A, ok193 T A, ok443 T A, ok34 T A, ok463 T A, ok446 T A, ok99 T A, ok80 T A, ok16 T A, ok15 T A, ok6 T A, ok22 T A, ok79 T A, ok5 T A, ok8 T A, ok78 T A, ok4 T A, ok7 T A, ok3 T A, ok1 T A, ok0 T A⟩
end
def tab_mk {K : PySem.W.Frag} {h : Heap} {mg : Str → Option Value} (X : K.In h) (G : h.Ns mainGlobals mg)
    {f1000 : Addr} {od1000 an1000 : Option Addr} {sl1000 : Array (Option Value)} {oc1000 kV1000 dc1000 pm1000 cd1000 ct1000 : Value}
    (a1000 : PySem.W.nsIn K mainGlobals "law" = some (some (.ref f1000))) (l1000 : K.lookup f1000 = some ⟨oc1000, od1000, .func (PySem.W.fnOf "law" "law" (defArgs (top 52)) (defBody (top 52)) (defScope (top 52)) .none kV1000 dc1000 pm1000 an1000 cd1000 ct1000), sl1000⟩) (c1000 : PySem.W.codeIn K cd1000 "law" = true) (k1000 : PySem.W.keepIn K (.ref f1000) = true)
    {f532 : Addr} {od532 an532 : Option Addr} {sl532 : Array (Option Value)} {oc532 kV532 dc532 pm532 cd532 ct532 : Value}
    (a532 : PySem.W.nsIn K mainGlobals "_law_box" = some (some (.ref f532))) (l532 : K.lookup f532 = some ⟨oc532, od532, .func (PySem.W.fnOf "_law_box" "_law_box" (defArgs (top 45)) (defBody (top 45)) (defScope (top 45)) .none kV532 dc532 pm532 an532 cd532 ct532), sl532⟩) (c532 : PySem.W.codeIn K cd532 "_law_box" = true) (k532 : PySem.W.keepIn K (.ref f532) = true)
    {f534 : Addr} {od534 an534 : Option Addr} {sl534 : Array (Option Value)} {oc534 kV534 dc534 pm534 cd534 ct534 : Value}
    (a534 : PySem.W.nsIn K mainGlobals "_law_normal" = some (some (.ref f534))) (l534 : K.lookup f534 = some ⟨oc534, od534, .func (PySem.W.fnOf "_law_normal" "_law_normal" (defArgs (top 47)) (defBody (top 47)) (defScope (top 47)) .none kV534 dc534 pm534 an534 cd534 ct534), sl534⟩) (c534 : PySem.W.codeIn K cd534 "_law_normal" = true) (k534 : PySem.W.keepIn K (.ref f534) = true)
    {f533 : Addr} {od533 an533 : Option Addr} {sl533 : Array (Option Value)} {oc533 kV533 dc533 pm533 cd533 ct533 : Value}
    (a533 : PySem.W.nsIn K mainGlobals "_law_pick" = some (some (.ref f533))) (l533 : K.lookup f533 = some ⟨oc533, od533, .func (PySem.W.fnOf "_law_pick" "_law_pick" (defArgs (top 46)) (defBody (top 46)) (defScope (top 46)) .none kV533 dc533 pm533 an533 cd533 ct533), sl533⟩) (c533 : PySem.W.codeIn K cd533 "_law_pick" = true) (k533 : PySem.W.keepIn K (.ref f533) = true)
    {f1001 : Addr} {od1001 an1001 : Option Addr} {sl1001 : Array (Option Value)} {oc1001 kV1001 dc1001 pm1001 cd1001 ct1001 : Value}
    (a1001 : PySem.W.nsIn K mainGlobals "_law_plans" = some (some (.ref f1001))) (l1001 : K.lookup f1001 = some ⟨oc1001, od1001, .func (PySem.W.fnOf "_law_plans" "_law_plans" (defArgs (top 50)) (defBody (top 50)) (defScope (top 50)) .none kV1001 dc1001 pm1001 an1001 cd1001 ct1001), sl1001⟩) (c1001 : PySem.W.codeIn K cd1001 "_law_plans" = true) (k1001 : PySem.W.keepIn K (.ref f1001) = true)
    {f465 : Addr} {od465 an465 : Option Addr} {sl465 : Array (Option Value)} {oc465 kV465 dc465 pm465 cd465 ct465 : Value}
    (a465 : PySem.W.nsIn K mainGlobals "plans" = some (some (.ref f465))) (l465 : K.lookup f465 = some ⟨oc465, od465, .func (PySem.W.fnOf "plans" "plans" (defArgs (top 43)) (defBody (top 43)) (defScope (top 43)) .none kV465 dc465 pm465 an465 cd465 ct465), sl465⟩) (c465 : PySem.W.codeIn K cd465 "plans" = true) (k465 : PySem.W.keepIn K (.ref f465) = true)
    {f462 : Addr} {od462 an462 : Option Addr} {sl462 : Array (Option Value)} {oc462 kV462 dc462 pm462 cd462 ct462 : Value}
    (a462 : PySem.W.nsIn K mainGlobals "once_plan" = some (some (.ref f462))) (l462 : K.lookup f462 = some ⟨oc462, od462, .func (PySem.W.fnOf "once_plan" "once_plan" (defArgs (top 40)) (defBody (top 40)) (defScope (top 40)) .none kV462 dc462 pm462 an462 cd462 ct462), sl462⟩) (c462 : PySem.W.codeIn K cd462 "once_plan" = true) (k462 : PySem.W.keepIn K (.ref f462) = true)
    {f1002 : Addr} {od1002 an1002 : Option Addr} {sl1002 : Array (Option Value)} {oc1002 kV1002 dc1002 pm1002 cd1002 ct1002 : Value}
    (a1002 : PySem.W.nsIn K mainGlobals "_law_once" = some (some (.ref f1002))) (l1002 : K.lookup f1002 = some ⟨oc1002, od1002, .func (PySem.W.fnOf "_law_once" "_law_once" (defArgs (top 51)) (defBody (top 51)) (defScope (top 51)) .none kV1002 dc1002 pm1002 an1002 cd1002 ct1002), sl1002⟩) (c1002 : PySem.W.codeIn K cd1002 "_law_once" = true) (k1002 : PySem.W.keepIn K (.ref f1002) = true)
    {f447 : Addr} {od447 an447 : Option Addr} {sl447 : Array (Option Value)} {oc447 kV447 dc447 pm447 cd447 ct447 : Value}
    (a447 : PySem.W.nsIn K mainGlobals "is_plan" = some (some (.ref f447))) (l447 : K.lookup f447 = some ⟨oc447, od447, .func (PySem.W.fnOf "is_plan" "is_plan" (defArgs (top 38)) (defBody (top 38)) (defScope (top 38)) .none kV447 dc447 pm447 an447 cd447 ct447), sl447⟩) (c447 : PySem.W.codeIn K cd447 "is_plan" = true) (k447 : PySem.W.keepIn K (.ref f447) = true)
    {f1003 : Addr} {od1003 an1003 : Option Addr} {sl1003 : Array (Option Value)} {oc1003 kV1003 dc1003 pm1003 cd1003 ct1003 : Value}
    (a1003 : PySem.W.nsIn K mainGlobals "_law_spine" = some (some (.ref f1003))) (l1003 : K.lookup f1003 = some ⟨oc1003, od1003, .func (PySem.W.fnOf "_law_spine" "_law_spine" (defArgs (top 48)) (defBody (top 48)) (defScope (top 48)) .none kV1003 dc1003 pm1003 an1003 cd1003 ct1003), sl1003⟩) (c1003 : PySem.W.codeIn K cd1003 "_law_spine" = true) (k1003 : PySem.W.keepIn K (.ref f1003) = true)
    {f1004 : Addr} {od1004 an1004 : Option Addr} {sl1004 : Array (Option Value)} {oc1004 kV1004 dc1004 pm1004 cd1004 ct1004 : Value}
    (a1004 : PySem.W.nsIn K mainGlobals "_law_bags" = some (some (.ref f1004))) (l1004 : K.lookup f1004 = some ⟨oc1004, od1004, .func (PySem.W.fnOf "_law_bags" "_law_bags" (defArgs (top 49)) (defBody (top 49)) (defScope (top 49)) .none kV1004 dc1004 pm1004 an1004 cd1004 ct1004), sl1004⟩) (c1004 : PySem.W.codeIn K cd1004 "_law_bags" = true) (k1004 : PySem.W.keepIn K (.ref f1004) = true)
    {f444 : Addr} {od444 an444 : Option Addr} {sl444 : Array (Option Value)} {oc444 kV444 dc444 pm444 cd444 ct444 : Value}
    (a444 : PySem.W.nsIn K mainGlobals "need_normal" = some (some (.ref f444))) (l444 : K.lookup f444 = some ⟨oc444, od444, .func (PySem.W.fnOf "need_normal" "need_normal" (defArgs (top 35)) (defBody (top 35)) (defScope (top 35)) .none kV444 dc444 pm444 an444 cd444 ct444), sl444⟩) (c444 : PySem.W.codeIn K cd444 "need_normal" = true) (k444 : PySem.W.keepIn K (.ref f444) = true)
    {f70 : Addr} {od70 an70 : Option Addr} {sl70 : Array (Option Value)} {oc70 kV70 dc70 pm70 cd70 ct70 : Value}
    (a70 : PySem.W.nsIn K mainGlobals "need_number" = some (some (.ref f70))) (l70 : K.lookup f70 = some ⟨oc70, od70, .func (PySem.W.fnOf "need_number" "need_number" (defArgs (top 8)) (defBody (top 8)) (defScope (top 8)) .none kV70 dc70 pm70 an70 cd70 ct70), sl70⟩) (c70 : PySem.W.codeIn K cd70 "need_number" = true) (k70 : PySem.W.keepIn K (.ref f70) = true)
    {f464 : Addr} {od464 an464 : Option Addr} {sl464 : Array (Option Value)} {oc464 kV464 dc464 pm464 cd464 ct464 : Value}
    (a464 : PySem.W.nsIn K mainGlobals "plans_in" = some (some (.ref f464))) (l464 : K.lookup f464 = some ⟨oc464, od464, .func (PySem.W.fnOf "plans_in" "plans_in" (defArgs (top 42)) (defBody (top 42)) (defScope (top 42)) .none kV464 dc464 pm464 an464 cd464 ct464), sl464⟩) (c464 : PySem.W.codeIn K cd464 "plans_in" = true) (k464 : PySem.W.keepIn K (.ref f464) = true)
    {f461 : Addr} {od461 an461 : Option Addr} {sl461 : Array (Option Value)} {oc461 kV461 dc461 pm461 cd461 ct461 : Value}
    (a461 : PySem.W.nsIn K mainGlobals "once_in" = some (some (.ref f461))) (l461 : K.lookup f461 = some ⟨oc461, od461, .func (PySem.W.fnOf "once_in" "once_in" (defArgs (top 39)) (defBody (top 39)) (defScope (top 39)) .none kV461 dc461 pm461 an461 cd461 ct461), sl461⟩) (c461 : PySem.W.codeIn K cd461 "once_in" = true) (k461 : PySem.W.keepIn K (.ref f461) = true)
    {f193 : Addr} {od193 an193 : Option Addr} {sl193 : Array (Option Value)} {oc193 kV193 dc193 pm193 cd193 ct193 : Value}
    (a193 : PySem.W.nsIn K mainGlobals "fits" = some (some (.ref f193))) (l193 : K.lookup f193 = some ⟨oc193, od193, .func (PySem.W.fnOf "fits" "fits" (defArgs (top 36)) (defBody (top 36)) (defScope (top 36)) .none kV193 dc193 pm193 an193 cd193 ct193), sl193⟩) (c193 : PySem.W.codeIn K cd193 "fits" = true) (k193 : PySem.W.keepIn K (.ref f193) = true)
    {f443 : Addr} {od443 an443 : Option Addr} {sl443 : Array (Option Value)} {oc443 kV443 dc443 pm443 cd443 ct443 : Value}
    (a443 : PySem.W.nsIn K mainGlobals "is_normal" = some (some (.ref f443))) (l443 : K.lookup f443 = some ⟨oc443, od443, .func (PySem.W.fnOf "is_normal" "is_normal" (defArgs (top 34)) (defBody (top 34)) (defScope (top 34)) .none kV443 dc443 pm443 an443 cd443 ct443), sl443⟩) (c443 : PySem.W.codeIn K cd443 "is_normal" = true) (k443 : PySem.W.keepIn K (.ref f443) = true)
    {f34 : Addr} {od34 an34 : Option Addr} {sl34 : Array (Option Value)} {oc34 kV34 dc34 pm34 cd34 ct34 : Value}
    (a34 : PySem.W.nsIn K mainGlobals "spine" = some (some (.ref f34))) (l34 : K.lookup f34 = some ⟨oc34, od34, .func (PySem.W.fnOf "spine" "spine" (defArgs (top 27)) (defBody (top 27)) (defScope (top 27)) .none kV34 dc34 pm34 an34 cd34 ct34), sl34⟩) (c34 : PySem.W.codeIn K cd34 "spine" = true) (k34 : PySem.W.keepIn K (.ref f34) = true)
    {f463 : Addr} {od463 an463 : Option Addr} {sl463 : Array (Option Value)} {oc463 kV463 dc463 pm463 cd463 ct463 : Value}
    (a463 : PySem.W.nsIn K mainGlobals "bags_up_to" = some (some (.ref f463))) (l463 : K.lookup f463 = some ⟨oc463, od463, .func (PySem.W.fnOf "bags_up_to" "bags_up_to" (defArgs (top 41)) (defBody (top 41)) (defScope (top 41)) .none kV463 dc463 pm463 an463 cd463 ct463), sl463⟩) (c463 : PySem.W.codeIn K cd463 "bags_up_to" = true) (k463 : PySem.W.keepIn K (.ref f463) = true)
    {f446 : Addr} {od446 an446 : Option Addr} {sl446 : Array (Option Value)} {oc446 kV446 dc446 pm446 cd446 ct446 : Value}
    (a446 : PySem.W.nsIn K mainGlobals "fits_bag" = some (some (.ref f446))) (l446 : K.lookup f446 = some ⟨oc446, od446, .func (PySem.W.fnOf "fits_bag" "fits_bag" (defArgs (top 37)) (defBody (top 37)) (defScope (top 37)) .none kV446 dc446 pm446 an446 cd446 ct446), sl446⟩) (c446 : PySem.W.codeIn K cd446 "fits_bag" = true) (k446 : PySem.W.keepIn K (.ref f446) = true)
    {f99 : Addr} {od99 an99 : Option Addr} {sl99 : Array (Option Value)} {oc99 kV99 dc99 pm99 cd99 ct99 : Value}
    (a99 : PySem.W.nsIn K mainGlobals "need_program" = some (some (.ref f99))) (l99 : K.lookup f99 = some ⟨oc99, od99, .func (PySem.W.fnOf "need_program" "need_program" (defArgs (top 26)) (defBody (top 26)) (defScope (top 26)) .none kV99 dc99 pm99 an99 cd99 ct99), sl99⟩) (c99 : PySem.W.codeIn K cd99 "need_program" = true) (k99 : PySem.W.keepIn K (.ref f99) = true)
    {f80 : Addr} {od80 an80 : Option Addr} {sl80 : Array (Option Value)} {oc80 kV80 dc80 pm80 cd80 ct80 : Value}
    (a80 : PySem.W.nsIn K mainGlobals "ready" = some (some (.ref f80))) (l80 : K.lookup f80 = some ⟨oc80, od80, .func (PySem.W.fnOf "ready" "ready" (defArgs (top 31)) (defBody (top 31)) (defScope (top 31)) .none kV80 dc80 pm80 an80 cd80 ct80), sl80⟩) (c80 : PySem.W.codeIn K cd80 "ready" = true) (k80 : PySem.W.keepIn K (.ref f80) = true)
    {f16 : Addr} {od16 an16 : Option Addr} {sl16 : Array (Option Value)} {oc16 kV16 dc16 pm16 cd16 ct16 : Value}
    (a16 : PySem.W.nsIn K mainGlobals "need_wide" = some (some (.ref f16))) (l16 : K.lookup f16 = some ⟨oc16, od16, .func (PySem.W.fnOf "need_wide" "need_wide" (defArgs (top 25)) (defBody (top 25)) (defScope (top 25)) .none kV16 dc16 pm16 an16 cd16 ct16), sl16⟩) (c16 : PySem.W.codeIn K cd16 "need_wide" = true) (k16 : PySem.W.keepIn K (.ref f16) = true)
    {f15 : Addr} {od15 an15 : Option Addr} {sl15 : Array (Option Value)} {oc15 kV15 dc15 pm15 cd15 ct15 : Value}
    (a15 : PySem.W.nsIn K mainGlobals "is_program" = some (some (.ref f15))) (l15 : K.lookup f15 = some ⟨oc15, od15, .func (PySem.W.fnOf "is_program" "is_program" (defArgs (top 24)) (defBody (top 24)) (defScope (top 24)) .none kV15 dc15 pm15 an15 cd15 ct15), sl15⟩) (c15 : PySem.W.codeIn K cd15 "is_program" = true) (k15 : PySem.W.keepIn K (.ref f15) = true)
    {f6 : Addr} {od6 an6 : Option Addr} {sl6 : Array (Option Value)} {oc6 kV6 dc6 pm6 cd6 ct6 : Value}
    (a6 : PySem.W.nsIn K mainGlobals "flat" = some (some (.ref f6))) (l6 : K.lookup f6 = some ⟨oc6, od6, .func (PySem.W.fnOf "flat" "flat" (defArgs (top 17)) (defBody (top 17)) (defScope (top 17)) .none kV6 dc6 pm6 an6 cd6 ct6), sl6⟩) (c6 : PySem.W.codeIn K cd6 "flat" = true) (k6 : PySem.W.keepIn K (.ref f6) = true)
    {f22 : Addr} {od22 an22 : Option Addr} {sl22 : Array (Option Value)} {oc22 kV22 dc22 pm22 cd22 ct22 : Value}
    (a22 : PySem.W.nsIn K mainGlobals "addresses_of" = some (some (.ref f22))) (l22 : K.lookup f22 = some ⟨oc22, od22, .func (PySem.W.fnOf "addresses_of" "addresses_of" (defArgs (top 20)) (defBody (top 20)) (defScope (top 20)) .none kV22 dc22 pm22 an22 cd22 ct22), sl22⟩) (c22 : PySem.W.codeIn K cd22 "addresses_of" = true) (k22 : PySem.W.keepIn K (.ref f22) = true)
    {f79 : Addr} {od79 an79 : Option Addr} {sl79 : Array (Option Value)} {oc79 kV79 dc79 pm79 cd79 ct79 : Value}
    (a79 : PySem.W.nsIn K mainGlobals "indexes_ready" = some (some (.ref f79))) (l79 : K.lookup f79 = some ⟨oc79, od79, .func (PySem.W.fnOf "indexes_ready" "indexes_ready" (defArgs (top 30)) (defBody (top 30)) (defScope (top 30)) .none kV79 dc79 pm79 an79 cd79 ct79), sl79⟩) (c79 : PySem.W.codeIn K cd79 "indexes_ready" = true) (k79 : PySem.W.keepIn K (.ref f79) = true)
    {f5 : Addr} {od5 an5 : Option Addr} {sl5 : Array (Option Value)} {oc5 kV5 dc5 pm5 cd5 ct5 : Value}
    (a5 : PySem.W.nsIn K mainGlobals "is_tree" = some (some (.ref f5))) (l5 : K.lookup f5 = some ⟨oc5, od5, .func (PySem.W.fnOf "is_tree" "is_tree" (defArgs (top 16)) (defBody (top 16)) (defScope (top 16)) .none kV5 dc5 pm5 an5 cd5 ct5), sl5⟩) (c5 : PySem.W.codeIn K cd5 "is_tree" = true) (k5 : PySem.W.keepIn K (.ref f5) = true)
    {f8 : Addr} {od8 an8 : Option Addr} {sl8 : Array (Option Value)} {oc8 kV8 dc8 pm8 cd8 ct8 : Value}
    (a8 : PySem.W.nsIn K mainGlobals "levels_of" = some (some (.ref f8))) (l8 : K.lookup f8 = some ⟨oc8, od8, .func (PySem.W.fnOf "levels_of" "levels_of" (defArgs (top 19)) (defBody (top 19)) (defScope (top 19)) .none kV8 dc8 pm8 an8 cd8 ct8), sl8⟩) (c8 : PySem.W.codeIn K cd8 "levels_of" = true) (k8 : PySem.W.keepIn K (.ref f8) = true)
    {f78 : Addr} {od78 an78 : Option Addr} {sl78 : Array (Option Value)} {oc78 kV78 dc78 pm78 cd78 ct78 : Value}
    (a78 : PySem.W.nsIn K mainGlobals "is_ready" = some (some (.ref f78))) (l78 : K.lookup f78 = some ⟨oc78, od78, .func (PySem.W.fnOf "is_ready" "is_ready" (defArgs (top 29)) (defBody (top 29)) (defScope (top 29)) .none kV78 dc78 pm78 an78 cd78 ct78), sl78⟩) (c78 : PySem.W.codeIn K cd78 "is_ready" = true) (k78 : PySem.W.keepIn K (.ref f78) = true)
    {f4 : Addr} {od4 an4 : Option Addr} {sl4 : Array (Option Value)} {oc4 kV4 dc4 pm4 cd4 ct4 : Value}
    (a4 : PySem.W.nsIn K mainGlobals "is_node" = some (some (.ref f4))) (l4 : K.lookup f4 = some ⟨oc4, od4, .func (PySem.W.fnOf "is_node" "is_node" (defArgs (top 15)) (defBody (top 15)) (defScope (top 15)) .none kV4 dc4 pm4 an4 cd4 ct4), sl4⟩) (c4 : PySem.W.codeIn K cd4 "is_node" = true) (k4 : PySem.W.keepIn K (.ref f4) = true)
    {f7 : Addr} {od7 an7 : Option Addr} {sl7 : Array (Option Value)} {oc7 kV7 dc7 pm7 cd7 ct7 : Value}
    (a7 : PySem.W.nsIn K mainGlobals "ends_of" = some (some (.ref f7))) (l7 : K.lookup f7 = some ⟨oc7, od7, .func (PySem.W.fnOf "ends_of" "ends_of" (defArgs (top 18)) (defBody (top 18)) (defScope (top 18)) .none kV7 dc7 pm7 an7 cd7 ct7), sl7⟩) (c7 : PySem.W.codeIn K cd7 "ends_of" = true) (k7 : PySem.W.keepIn K (.ref f7) = true)
    {f3 : Addr} {od3 an3 : Option Addr} {sl3 : Array (Option Value)} {oc3 kV3 dc3 pm3 cd3 ct3 : Value}
    (a3 : PySem.W.nsIn K mainGlobals "is_plain_name" = some (some (.ref f3))) (l3 : K.lookup f3 = some ⟨oc3, od3, .func (PySem.W.fnOf "is_plain_name" "is_plain_name" (defArgs (top 14)) (defBody (top 14)) (defScope (top 14)) .none kV3 dc3 pm3 an3 cd3 ct3), sl3⟩) (c3 : PySem.W.codeIn K cd3 "is_plain_name" = true) (k3 : PySem.W.keepIn K (.ref f3) = true)
    {f1 : Addr} {od1 an1 : Option Addr} {sl1 : Array (Option Value)} {oc1 kV1 dc1 pm1 cd1 ct1 : Value}
    (a1 : PySem.W.nsIn K mainGlobals "is_natural" = some (some (.ref f1))) (l1 : K.lookup f1 = some ⟨oc1, od1, .func (PySem.W.fnOf "is_natural" "is_natural" (defArgs (top 7)) (defBody (top 7)) (defScope (top 7)) .none kV1 dc1 pm1 an1 cd1 ct1), sl1⟩) (c1 : PySem.W.codeIn K cd1 "is_natural" = true) (k1 : PySem.W.keepIn K (.ref f1) = true)
    {f0 : Addr} {od0 an0 : Option Addr} {sl0 : Array (Option Value)} {oc0 kV0 dc0 pm0 cd0 ct0 : Value}
    (a0 : PySem.W.nsIn K mainGlobals "is_integer" = some (some (.ref f0))) (l0 : K.lookup f0 = some ⟨oc0, od0, .func (PySem.W.fnOf "is_integer" "is_integer" (defArgs (top 6)) (defBody (top 6)) (defScope (top 6)) .none kV0 dc0 pm0 an0 cd0 ct0), sl0⟩) (c0 : PySem.W.codeIn K cd0 "is_integer" = true) (k0 : PySem.W.keepIn K (.ref f0) = true)
    (z_all : PySem.W.nsIn K mainGlobals "all" = some none)
    (z_any : PySem.W.nsIn K mainGlobals "any" = some none)
    (z_bool : PySem.W.nsIn K mainGlobals "bool" = some none)
    (z_int : PySem.W.nsIn K mainGlobals "int" = some none)
    (z_isinstance : PySem.W.nsIn K mainGlobals "isinstance" = some none)
    (z_len : PySem.W.nsIn K mainGlobals "len" = some none)
    (z_list : PySem.W.nsIn K mainGlobals "list" = some none)
    (z_max : PySem.W.nsIn K mainGlobals "max" = some none)
    (z_range : PySem.W.nsIn K mainGlobals "range" = some none)
    (z_sorted : PySem.W.nsIn K mainGlobals "sorted" = some none)
    (z_str : PySem.W.nsIn K mainGlobals "str" = some none)
    (z_tuple : PySem.W.nsIn K mainGlobals "tuple" = some none)
    (z_zip : PySem.W.nsIn K mainGlobals "zip" = some none)
    {t_DIGITS : Tok} (g_DIGITS : PySem.W.nsIn K mainGlobals "DIGITS" = some (some (Value.str "0123456789" t_DIGITS)))
    {t_LETTERS : Tok} (g_LETTERS : PySem.W.nsIn K mainGlobals "LETTERS" = some (some (Value.str "abcdefghijklmnopqrstuvwxyz" t_LETTERS)))
    {t_MOST_COPIES : Tok} (g_MOST_COPIES : PySem.W.nsIn K mainGlobals "MOST_COPIES" = some (some (Value.int (3) t_MOST_COPIES)))
    {t_MOST_DIGITS : Tok} (g_MOST_DIGITS : PySem.W.nsIn K mainGlobals "MOST_DIGITS" = some (some (Value.int (6) t_MOST_DIGITS)))
    {t_MOST_LEVELS : Tok} (g_MOST_LEVELS : PySem.W.nsIn K mainGlobals "MOST_LEVELS" = some (some (Value.int (60) t_MOST_LEVELS)))
    {t_MOST_NODES : Tok} (g_MOST_NODES : PySem.W.nsIn K mainGlobals "MOST_NODES" = some (some (Value.int (200) t_MOST_NODES))) : Tab K mg where
    d1000 := ⟨f1000, _, fun_mk (st := top 52) l1000 c1000 k1000, (fun_mk (st := top 52) l1000 c1000 k1000).binds (ps := ["script"]) (fun _ _ _ _ _ _ us hl => match us, hl with | [_], _ => rfl), PySem.W.mg_of X G a1000⟩
    d532 := ⟨f532, _, fun_mk (st := top 45) l532 c532 k532, (fun_mk (st := top 45) l532 c532 k532).binds (ps := ["script"]) (fun _ _ _ _ _ _ us hl => match us, hl with | [_], _ => rfl), PySem.W.mg_of X G a532⟩
    d534 := ⟨f534, _, fun_mk (st := top 47) l534 c534 k534, (fun_mk (st := top 47) l534 c534 k534).binds (ps := ["box", "names", "most"]) (fun _ _ _ _ _ _ us hl => match us, hl with | [_, _, _], _ => rfl), PySem.W.mg_of X G a534⟩
    d533 := ⟨f533, _, fun_mk (st := top 46) l533 c533 k533, (fun_mk (st := top 46) l533 c533 k533).binds (ps := ["box", "many"]) (fun _ _ _ _ _ _ us hl => match us, hl with | [_, _], _ => rfl), PySem.W.mg_of X G a533⟩
    d1001 := ⟨f1001, _, fun_mk (st := top 50) l1001 c1001 k1001, (fun_mk (st := top 50) l1001 c1001 k1001).binds (ps := ["program", "copies"]) (fun _ _ _ _ _ _ us hl => match us, hl with | [_, _], _ => rfl), PySem.W.mg_of X G a1001⟩
    d465 := ⟨f465, _, fun_mk (st := top 43) l465 c465 k465, (fun_mk (st := top 43) l465 c465 k465).binds (ps := ["program", "copies"]) (fun _ _ _ _ _ _ us hl => match us, hl with | [_, _], _ => rfl), PySem.W.mg_of X G a465⟩
    d462 := ⟨f462, _, fun_mk (st := top 40) l462 c462 k462, (fun_mk (st := top 40) l462 c462 k462).binds (ps := ["program"]) (fun _ _ _ _ _ _ us hl => match us, hl with | [_], _ => rfl), PySem.W.mg_of X G a462⟩
    d1002 := ⟨f1002, _, fun_mk (st := top 51) l1002 c1002 k1002, (fun_mk (st := top 51) l1002 c1002 k1002).binds (ps := ["program"]) (fun _ _ _ _ _ _ us hl => match us, hl with | [_], _ => rfl), PySem.W.mg_of X G a1002⟩
    d447 := ⟨f447, _, fun_mk (st := top 38) l447 c447 k447, (fun_mk (st := top 38) l447 c447 k447).binds (ps := ["program", "value"]) (fun _ _ _ _ _ _ us hl => match us, hl with | [_, _], _ => rfl), PySem.W.mg_of X G a447⟩
    d1003 := ⟨f1003, _, fun_mk (st := top 48) l1003 c1003 k1003, (fun_mk (st := top 48) l1003 c1003 k1003).binds (ps := ["program"]) (fun _ _ _ _ _ _ us hl => match us, hl with | [_], _ => rfl), PySem.W.mg_of X G a1003⟩
    d1004 := ⟨f1004, _, fun_mk (st := top 49) l1004 c1004 k1004, (fun_mk (st := top 49) l1004 c1004 k1004).binds (ps := ["choices", "copies"]) (fun _ _ _ _ _ _ us hl => match us, hl with | [_, _], _ => rfl), PySem.W.mg_of X G a1004⟩
    d444 := ⟨f444, _, fun_mk (st := top 35) l444 c444 k444, (fun_mk (st := top 35) l444 c444 k444).binds (ps := ["program"]) (fun _ _ _ _ _ _ us hl => match us, hl with | [_], _ => rfl), PySem.W.mg_of X G a444⟩
    d70 := ⟨f70, _, fun_mk (st := top 8) l70 c70 k70, (fun_mk (st := top 8) l70 c70 k70).binds (ps := ["number", "low", "high"]) (fun _ _ _ _ _ _ us hl => match us, hl with | [_, _, _], _ => rfl), PySem.W.mg_of X G a70⟩
    d464 := ⟨f464, _, fun_mk (st := top 42) l464 c464 k464, (fun_mk (st := top 42) l464 c464 k464).binds (ps := ["program", "copies"]) (fun _ _ _ _ _ _ us hl => match us, hl with | [_, _], _ => rfl), PySem.W.mg_of X G a464⟩
    d461 := ⟨f461, _, fun_mk (st := top 39) l461 c461 k461, (fun_mk (st := top 39) l461 c461 k461).binds (ps := ["program"]) (fun _ _ _ _ _ _ us hl => match us, hl with | [_], _ => rfl), PySem.W.mg_of X G a461⟩
    d193 := ⟨f193, _, fun_mk (st := top 36) l193 c193 k193, (fun_mk (st := top 36) l193 c193 k193).binds (ps := ["program", "value"]) (fun _ _ _ _ _ _ us hl => match us, hl with | [_, _], _ => rfl), PySem.W.mg_of X G a193⟩
    d443 := ⟨f443, _, fun_mk (st := top 34) l443 c443 k443, (fun_mk (st := top 34) l443 c443 k443).binds (ps := ["program"]) (fun _ _ _ _ _ _ us hl => match us, hl with | [_], _ => rfl), PySem.W.mg_of X G a443⟩
    d34 := ⟨f34, _, fun_mk (st := top 27) l34 c34 k34, (fun_mk (st := top 27) l34 c34 k34).binds (ps := ["wide"]) (fun _ _ _ _ _ _ us hl => match us, hl with | [_], _ => rfl), PySem.W.mg_of X G a34⟩
    d463 := ⟨f463, _, fun_mk (st := top 41) l463 c463 k463, (fun_mk (st := top 41) l463 c463 k463).binds (ps := ["plans", "copies"]) (fun _ _ _ _ _ _ us hl => match us, hl with | [_, _], _ => rfl), PySem.W.mg_of X G a463⟩
    d446 := ⟨f446, _, fun_mk (st := top 37) l446 c446 k446, (fun_mk (st := top 37) l446 c446 k446).binds (ps := ["program", "plans"]) (fun _ _ _ _ _ _ us hl => match us, hl with | [_, _], _ => rfl), PySem.W.mg_of X G a446⟩
    d99 := ⟨f99, _, fun_mk (st := top 26) l99 c99 k99, (fun_mk (st := top 26) l99 c99 k99).binds (ps := ["program"]) (fun _ _ _ _ _ _ us hl => match us, hl with | [_], _ => rfl), PySem.W.mg_of X G a99⟩
    d80 := ⟨f80, _, fun_mk (st := top 31) l80 c80 k80, (fun_mk (st := top 31) l80 c80 k80).binds (ps := ["wide"]) (fun _ _ _ _ _ _ us hl => match us, hl with | [_], _ => rfl), PySem.W.mg_of X G a80⟩
    d16 := ⟨f16, _, fun_mk (st := top 25) l16 c16 k16, (fun_mk (st := top 25) l16 c16 k16).binds (ps := ["wide"]) (fun _ _ _ _ _ _ us hl => match us, hl with | [_], _ => rfl), PySem.W.mg_of X G a16⟩
    d15 := ⟨f15, _, fun_mk (st := top 24) l15 c15 k15, (fun_mk (st := top 24) l15 c15 k15).binds (ps := ["value"]) (fun _ _ _ _ _ _ us hl => match us, hl with | [_], _ => rfl), PySem.W.mg_of X G a15⟩
    d6 := ⟨f6, _, fun_mk (st := top 17) l6 c6 k6, (fun_mk (st := top 17) l6 c6 k6).binds (ps := ["wide"]) (fun _ _ _ _ _ _ us hl => match us, hl with | [_], _ => rfl), PySem.W.mg_of X G a6⟩
    d22 := ⟨f22, _, fun_mk (st := top 20) l22 c22 k22, (fun_mk (st := top 20) l22 c22 k22).binds (ps := ["tokens"]) (fun _ _ _ _ _ _ us hl => match us, hl with | [_], _ => rfl), PySem.W.mg_of X G a22⟩
    d79 := ⟨f79, _, fun_mk (st := top 30) l79 c79 k79, (fun_mk (st := top 30) l79 c79 k79).binds (ps := ["tokens"]) (fun _ _ _ _ _ _ us hl => match us, hl with | [_], _ => rfl), PySem.W.mg_of X G a79⟩
    d5 := ⟨f5, _, fun_mk (st := top 16) l5 c5 k5, (fun_mk (st := top 16) l5 c5 k5).binds (ps := ["value"]) (fun _ _ _ _ _ _ us hl => match us, hl with | [_], _ => rfl), PySem.W.mg_of X G a5⟩
    d8 := ⟨f8, _, fun_mk (st := top 19) l8 c8 k8, (fun_mk (st := top 19) l8 c8 k8).binds (ps := ["tokens"]) (fun _ _ _ _ _ _ us hl => match us, hl with | [_], _ => rfl), PySem.W.mg_of X G a8⟩
    d78 := ⟨f78, _, fun_mk (st := top 29) l78 c78 k78, (fun_mk (st := top 29) l78 c78 k78).binds (ps := ["tokens", "index"]) (fun _ _ _ _ _ _ us hl => match us, hl with | [_, _], _ => rfl), PySem.W.mg_of X G a78⟩
    d4 := ⟨f4, _, fun_mk (st := top 15) l4 c4 k4, (fun_mk (st := top 15) l4 c4 k4).binds (ps := ["value"]) (fun _ _ _ _ _ _ us hl => match us, hl with | [_], _ => rfl), PySem.W.mg_of X G a4⟩
    d7 := ⟨f7, _, fun_mk (st := top 18) l7 c7 k7, (fun_mk (st := top 18) l7 c7 k7).binds (ps := ["tokens"]) (fun _ _ _ _ _ _ us hl => match us, hl with | [_], _ => rfl), PySem.W.mg_of X G a7⟩
    d3 := ⟨f3, _, fun_mk (st := top 14) l3 c3 k3, (fun_mk (st := top 14) l3 c3 k3).binds (ps := ["value"]) (fun _ _ _ _ _ _ us hl => match us, hl with | [_], _ => rfl), PySem.W.mg_of X G a3⟩
    d1 := ⟨f1, _, fun_mk (st := top 7) l1 c1 k1, (fun_mk (st := top 7) l1 c1 k1).binds (ps := ["value"]) (fun _ _ _ _ _ _ us hl => match us, hl with | [_], _ => rfl), PySem.W.mg_of X G a1⟩
    d0 := ⟨f0, _, fun_mk (st := top 6) l0 c0 k0, (fun_mk (st := top 6) l0 c0 k0).binds (ps := ["value"]) (fun _ _ _ _ _ _ us hl => match us, hl with | [_], _ => rfl), PySem.W.mg_of X G a0⟩
    z_all := PySem.W.mg_none_of X G z_all
    z_any := PySem.W.mg_none_of X G z_any
    z_bool := PySem.W.mg_none_of X G z_bool
    z_int := PySem.W.mg_none_of X G z_int
    z_isinstance := PySem.W.mg_none_of X G z_isinstance
    z_len := PySem.W.mg_none_of X G z_len
    z_list := PySem.W.mg_none_of X G z_list
    z_max := PySem.W.mg_none_of X G z_max
    z_range := PySem.W.mg_none_of X G z_range
    z_sorted := PySem.W.mg_none_of X G z_sorted
    z_str := PySem.W.mg_none_of X G z_str
    z_tuple := PySem.W.mg_none_of X G z_tuple
    z_zip := PySem.W.mg_none_of X G z_zip
    g_DIGITS := ⟨t_DIGITS, PySem.W.mg_of X G g_DIGITS⟩
    g_LETTERS := ⟨t_LETTERS, PySem.W.mg_of X G g_LETTERS⟩
    g_MOST_COPIES := ⟨t_MOST_COPIES, PySem.W.mg_of X G g_MOST_COPIES⟩
    g_MOST_DIGITS := ⟨t_MOST_DIGITS, PySem.W.mg_of X G g_MOST_DIGITS⟩
    g_MOST_LEVELS := ⟨t_MOST_LEVELS, PySem.W.mg_of X G g_MOST_LEVELS⟩
    g_MOST_NODES := ⟨t_MOST_NODES, PySem.W.mg_of X G g_MOST_NODES⟩
theorem law_of {P : Program} {w : World} {K : PySem.W.Frag} {mg : Str → Option Value} {fa : Addr} (T : Tab K mg) (hfa : mg "law" = some (.ref fa)) (hfd : ∀ (s : Shared) (v : Value), BindsTo s T.d1000.fd ⟨[v], []⟩ [("script", v)]) :
    ∃ fd : FuncData, (∀ (s : Shared) (v : Value), BindsTo s fd ⟨[v], []⟩ [("script", v)]) ∧ ∀ base : Heap, K.In base → base.Ns mainGlobals mg → FnOk P w K mg base (L2.CX P w) 60 fa fd ["script"] (spF K (sem 60 1000)) := by
  have e := hfa.symm.trans T.d1000.m
  cases e
  exact ⟨T.d1000.fd, hfd, fun base _ _ => (all_ok (P := P) (w := w) (base := base) T 60).o1000⟩
end K53
namespace K53
open PySem L2 Dv Pg
theorem bag_test {ch : List Dv.D} (F : Fam ch) {row : List Dv.D} {x : Dv.D} (hx : x ∈ ch) (hr : ∀ d ∈ row, d ∈ ch) {u0 u1 u2 u3 u4 u5 : Slot} :
    tOr (tB (sOp2 eqD (sCB lenD (aCons (sVar 6) aNil)) (sC (.int 0)))) (tB (sOp2 leD (sOp2 atD (sVar 6) (sOp1 negD (sC (.int 1)))) (sVar 7))) [u0, u1, u2, u3, u4, u5, .val (.tup row), .val x] = .ok (okNext row x) [u0, u1, u2, u3, u4, u5, .val (.tup row), .val x] := by
  cases hb : row with
  | nil => simp_arith []; rfl
  | cons y z =>
    have hne : row ≠ [] := by rw [hb]; exact fun z => (nomatch z)
    have q2 := at_last hne
    have q3 := F.leD (hr _ (last_mem hne)) hx
    have q4 : row.isEmpty = false := by rw [hb]; rfl
    have q5 : okNext row x = !ltB x (lastD row) := by unfold okNext; rw [q4]; rfl
    have q6 : (((row.length : Nat) : Int) == 0) = false := by
      have := List.length_pos_iff.mpr hne
      simp
      exact hne
    rw [← hb, q5]
    simp_arith [q6, q2, q3]
theorem bags_one (c : Nat → Fn) {ch : List Dv.D} (F : Fam ch) {row : List Dv.D} {u0 u1 u2 u3 u4 : Slot} (hr : ∀ d ∈ row, d ∈ ch) (hl : row.length < LIM) : ∀ (l : List Dv.D) (made : List Dv.D) (u7 : Slot), (∀ d ∈ l, d ∈ ch) → made.length + l.length < LIM →
    ∃ w7, forL b_law_bags_g1 (b_law_bags_b1 c) l [u0, u1, u2, u3, u4, .own (.lst made), .val (.tup row), u7] = .nxt [u0, u1, u2, u3, u4, .own (.lst (made ++ (l.filter (okNext row)).map fun x => .tup (row ++ [x]))), .val (.tup row), w7]
  | [], made, u7, _, _ => ⟨u7, by simp; rfl⟩
  | x :: l, made, u7, hx, hm => by
    rw [List.length_cons] at hm
    have hxc := hx x List.mem_cons_self
    have l1 := lim1
    have a1 := addD_tup (l := row) (m := [x]) (by rw [List.length_singleton]; omega)
    have a2 : fAppend (.lst made) [.tup (row ++ [x])] = some (.lst (made ++ [.tup (row ++ [x])]), .non) := append_ok (by omega)
    have q := bag_test F hxc hr (u0 := u0) (u1 := u1) (u2 := u2) (u3 := u3) (u4 := u4) (u5 := .own (.lst made))
    cases hk : okNext row x with
    | true =>
      rw [hk] at q
      obtain ⟨w7, e⟩ := bags_one c F hr hl l (made ++ [.tup (row ++ [x])]) (.val x) (fun d hd => hx d (List.mem_cons_of_mem _ hd)) (by rw [List.length_append, List.length_singleton]; omega)
      refine ⟨w7, ?_⟩
      rw [List.filter_cons_of_pos hk, List.map_cons, show ∀ z : List Dv.D, made ++ (Dv.D.tup (row ++ [x]) :: z) = made ++ [Dv.D.tup (row ++ [x])] ++ z from fun z => by simp]
      refine (forL_cons (s1 := [u0, u1, u2, u3, u4, .own (.lst made), .val (.tup row), .val x]) rfl ?_).trans e
      unfold b_law_bags_b1 sIfS
      rw [q, kR_ok, if_pos rfl]
      simp_arith [a1, a2, l1]
    | false =>
      rw [hk] at q
      obtain ⟨w7, e⟩ := bags_one c F hr hl l made (.val x) (fun d hd => hx d (List.mem_cons_of_mem _ hd)) (by omega)
      refine ⟨w7, ?_⟩
      rw [List.filter_cons_of_neg (by rw [hk]; exact Bool.false_ne_true)]
      refine (forL_cons (s1 := [u0, u1, u2, u3, u4, .own (.lst made), .val (.tup row), .val x]) rfl ?_).trans e
      unfold b_law_bags_b1 sIfS
      rw [q, kR_ok, if_neg Bool.false_ne_true]
      rfl
theorem bags_rows (c : Nat → Fn) {ch : List Dv.D} (F : Fam ch) {u1 u2 u3 u4 : Slot} : ∀ (rows : List (List Dv.D)) (made : List (List Dv.D)) (u6 u7 : Slot), (∀ r ∈ rows, (∀ d ∈ r, d ∈ ch) ∧ r.length < LIM) → made.length + rows.length * ch.length < LIM → ch.length < LIM →
    ∃ w6 w7, forL b_law_bags_g2 (b_law_bags_b2 c) (rows.map .tup) [.val (.lst ch), u1, u2, u3, u4, .own (.lst (made.map .tup)), u6, u7] = .nxt [.val (.lst ch), u1, u2, u3, u4, .own (.lst ((made ++ bagStep ch rows).map .tup)), w6, w7]
  | [], made, u6, u7, _, _, _ => ⟨u6, u7, by unfold bagStep; simp; rfl⟩
  | r :: rows, made, u6, u7, hr, hm, hc => by
    rw [List.length_cons, Nat.succ_mul] at hm
    obtain ⟨h1, h2⟩ := hr r List.mem_cons_self
    obtain ⟨v7, e1⟩ := bags_one c F (row := r) (u0 := .val (.lst ch)) (u1 := u1) (u2 := u2) (u3 := u3) (u4 := u4) h1 h2 ch (made.map .tup) u7 (fun d hd => hd) (by rw [List.length_map]; omega)
    have hf := List.length_filter_le (okNext r) ch
    obtain ⟨w6, w7, e2⟩ := bags_rows c F (u1 := u1) (u2 := u2) (u3 := u3) (u4 := u4) rows (made ++ (ch.filter (okNext r)).map fun x => r ++ [x]) (.val (.tup r)) v7 (fun x hx => hr x (List.mem_cons_of_mem _ hx)) (by rw [List.length_append, List.length_map]; omega) hc
    refine ⟨w6, w7, ?_⟩
    rw [show bagStep ch (r :: rows) = ((ch.filter (okNext r)).map fun x => r ++ [x]) ++ bagStep ch rows from rfl, ← List.append_assoc, List.map_cons]
    refine (forL_cons (s1 := [.val (.lst ch), u1, u2, u3, u4, .own (.lst (made.map .tup)), .val (.tup r), u7]) rfl ?_).trans e2
    unfold b_law_bags_b2
    refine (for_of (ds := ch) (s1 := [.val (.lst ch), u1, u2, u3, u4, .own (.lst (made.map .tup)), .val (.tup r), u7]) (by simp_arith []) e1).trans ?_
    rw [List.map_append, List.map_map]
    rfl
theorem bags_copy (c : Nat → Fn) {ch : List Dv.D} (F : Fam ch) {n : Nat} {bags rows : List (List Dv.D)} {s3 u4 u5 u6 u7 : Slot} (h3 : s3 = .own (.lst (rows.map .tup)) ∨ s3 = .val (.lst (rows.map .tup))) (hr : ∀ r ∈ rows, (∀ d ∈ r, d ∈ ch) ∧ r.length < LIM) (hm : bags.length + rows.length * ch.length < LIM) (hc : ch.length < LIM) :
    ∃ w5 w6 w7, b_law_bags_b3 c [.val (.lst ch), .val (.int (n : Nat)), .own (.lst (bags.map .tup)), s3, u4, u5, u6, u7] = .nxt [.val (.lst ch), .val (.int (n : Nat)), .own (.lst ((bags ++ bagStep ch rows).map .tup)), .val (.lst ((bagStep ch rows).map .tup)), u4, w5, w6, w7] := by
  have l0 : (0 : Nat) ≤ LIM := LIM_le (by decide)
  have hlen : (bagStep ch rows).length ≤ rows.length * ch.length := by
    unfold bagStep
    clear hr hm h3
    induction rows with
    | nil => exact Nat.zero_le _
    | cons r rows ih =>
      rw [List.flatMap_cons, List.length_append, List.length_map, List.length_cons, Nat.succ_mul]
      have := List.length_filter_le (okNext r) ch
      omega
  obtain ⟨w6, w7, e⟩ := bags_rows c F (u1 := .val (.int (n : Nat))) (u2 := .own (.lst (bags.map .tup))) (u3 := .val (.lst (rows.map .tup))) (u4 := u4) rows [] u6 u7 hr (by rw [List.length_nil]; omega) hc
  rw [List.nil_append] at e
  have t1 : sAsg 5 (sLst aNil) [.val (.lst ch), .val (.int (n : Nat)), .own (.lst (bags.map .tup)), s3, u4, u5, u6, u7] = .nxt [.val (.lst ch), .val (.int (n : Nat)), .own (.lst (bags.map .tup)), s3, u4, .own (.lst []), u6, u7] := by simp_arith [l0]
  have t2 : wSeq (sVar 3) [.val (.lst ch), .val (.int (n : Nat)), .own (.lst (bags.map .tup)), s3, u4, .own (.lst []), u6, u7] = .ok (rows.map .tup) [.val (.lst ch), .val (.int (n : Nat)), .own (.lst (bags.map .tup)), .val (.lst (rows.map .tup)), u4, .own (.lst []), u6, u7] := by
    rcases h3 with rfl | rfl <;> rfl
  have a := addD_lst (l := bags.map Dv.D.tup) (m := (bagStep ch rows).map Dv.D.tup) (by rw [List.length_map, List.length_map]; omega)
  rw [← List.map_append] at a
  refine ⟨.val (.lst ((bagStep ch rows).map .tup)), w6, w7, ?_⟩
  unfold b_law_bags_b3
  exact (seq_nxt t1).trans ((seq_nxt (for_of t2 e)).trans (by simp_arith [a]))
theorem law_bags_ok (c : Nat → Fn) {ch : List Dv.D} (F : Fam ch) (n : Nat) (hn : n < LIM) (hc : ch.length < LIM) (hb : ∀ k, k < n → (bagsN ch k).1.length + (bagsN ch k).2.length * ch.length < LIM) :
    PuO (run 2 8 (b_law_bags c)) [.val (.lst ch), .val (.int (n : Nat))] (.lst ((bagsN ch n).1.map .tup)) := by
  have l0 : (0 : Nat) ≤ LIM := LIM_le (by decide)
  have l1 := lim1
  have t1 : sAsg 2 (sLst (aCons (sTup aNil) aNil)) [.val (.lst ch), .val (.int (n : Nat)), .un, .un, .un, .un, .un, .un] = .nxt [.val (.lst ch), .val (.int (n : Nat)), .own (.lst [.tup []]), .un, .un, .un, .un, .un] := by simp_arith [l0, l1]
  have t2 : sAsg 3 (sLst (aCons (sTup aNil) aNil)) [.val (.lst ch), .val (.int (n : Nat)), .own (.lst [.tup []]), .un, .un, .un, .un, .un] = .nxt [.val (.lst ch), .val (.int (n : Nat)), .own (.lst [.tup []]), .own (.lst [.tup []]), .un, .un, .un, .un] := by simp_arith [l0, l1]
  have r := rng1_nat (n := n) (by omega)
  have hf : wArgs rng1 (aCons (sVar 1) aNil) [.val (.lst ch), .val (.int (n : Nat)), .own (.lst [.tup []]), .own (.lst [.tup []]), .un, .un, .un, .un] = .ok ((List.range n).map fun k => .int (k : Nat)) [.val (.lst ch), .val (.int (n : Nat)), .own (.lst [.tup []]), .own (.lst [.tup []]), .un, .un, .un, .un] := by simp_arith [r]
  obtain ⟨s', e, s3, u4, u5, u6, u7, h3, rfl⟩ := for_list (g := b_law_bags_g3) (b := b_law_bags_b3 c) (fun k s => ∃ s3 u4 u5 u6 u7, (s3 = .own (.lst ((bagsN ch k).2.map .tup)) ∨ s3 = .val (.lst ((bagsN ch k).2.map .tup))) ∧ s = [.val (.lst ch), .val (.int (n : Nat)), .own (.lst ((bagsN ch k).1.map .tup)), s3, u4, u5, u6, u7])
    (ds := (List.range n).map fun k => .int (k : Nat)) (s := [.val (.lst ch), .val (.int (n : Nat)), .own (.lst [.tup []]), .own (.lst [.tup []]), .un, .un, .un, .un]) 0
    (fun i hi s ⟨s3, u4, u5, u6, u7, h3, e⟩ => by
      subst e
      rw [List.length_map, List.length_range] at hi
      rw [Nat.zero_add] at h3 ⊢
      obtain ⟨w5, w6, w7, q⟩ := bags_copy c F (n := n) (bags := (bagsN ch i).1) (rows := (bagsN ch i).2) (s3 := s3) (u4 := .val (.int (i : Nat))) (u5 := u5) (u6 := u6) (u7 := u7) h3 (fun b hb => ⟨(bagsN_mem (.inr hb)).2, by have := (bagsN_mem (.inr hb)).1; omega⟩) (hb i hi) hc
      refine ⟨[.val (.lst ch), .val (.int (n : Nat)), .own (.lst ((bagsN ch i).1.map .tup)), s3, .val (.int (i : Nat)), u5, u6, u7], _, ?_, q, _, _, _, _, _, .inr rfl, rfl⟩
      rw [List.getElem_map, List.getElem_range]
      rfl)
    ⟨_, _, _, _, _, .inl rfl, rfl⟩
  rw [List.length_map, List.length_range, Nat.zero_add] at e
  unfold PuO
  refine run_slot rfl (i := 2) (s := [.val (.lst ch), .val (.int (n : Nat)), .own (.lst ((bagsN ch n).1.map .tup)), s3, u4, u5, u6, u7]) ?_ rfl rfl
  unfold b_law_bags
  exact (seq_nxt t1).trans ((seq_nxt t2).trans ((seq_nxt (for_of hf e)).trans rfl))
end K53
namespace K53
open PySem L2 Dv Pg
theorem law_spine_loop (c : Nat → Fn) (v : Slot) : ∀ (cur : Tm) (acc : List Dv.D), acc.length + cur.size < LIM →
    sWh (b_law_spine_t1 c) (b_law_spine_b1 c) [v, .val cur.D, .own (.lst acc)] = .nxt [v, .val cur.head.D, .own (.lst (cur.args.map Tm.D ++ acc))]
  | .nm x, acc, h => by
    refine wh_stop ?_
    unfold b_law_spine_t1 Tm.head Tm.args Tm.D
    rw [List.map_nil, List.nil_append]
    simp_arith []
  | .fn x b, acc, h => by
    refine wh_stop ?_
    rw [show (Tm.fn x b).head = .fn x b from rfl, show (Tm.fn x b).args = [] from rfl, List.map_nil, List.nil_append, show (Tm.fn x b).D = .tup [.str "fn", .str x, b.D] from rfl]
    unfold b_law_spine_t1
    simp_arith []
  | .ca f a, acc, h => by
    have hs : (Tm.ca f a).size = f.size + a.size + 1 := rfl
    have e := law_spine_loop c v f (a.D :: acc) (by rw [List.length_cons]; have := a.size_pos; omega)
    rw [show (Tm.ca f a).head = f.head from rfl, show (Tm.ca f a).args = f.args ++ [a] from rfl, List.map_append, List.append_assoc, show [a].map Tm.D ++ acc = a.D :: acc from rfl]
    rw [show (Tm.ca f a).D = .tup [.str "call", f.D, a.D] from rfl]
    refine (wh_go (s1 := [v, .val (.tup [.str "call", f.D, a.D]), .own (.lst acc)]) ?_ ?_).trans e
    · unfold b_law_spine_t1
      simp_arith []
    · have l1 := lim1
      have a1 := addD_lst (l := [a.D]) (m := acc) (by rw [List.length_singleton]; omega)
      have a1 : addD (.lst [a.D]) (.lst acc) = some (.own (.lst (a.D :: acc))) := a1
      unfold b_law_spine_b1
      simp_arith [a1, l1]
theorem law_spine_ok (c : Nat → Fn) (t : Tm) (hl : t.size < LIM) : Pu (run 1 3 (b_law_spine c)) [.val t.D] (.tup [t.head.D, .lst (t.args.map Tm.D)]) := by
  have e := law_spine_loop c (.val t.D) t [] (by rw [List.length_nil]; omega)
  rw [List.append_nil] at e
  have l2 : (2 : Nat) ≤ LIM := LIM_le (by decide)
  have l0 : (0 : Nat) ≤ LIM := LIM_le (by decide)
  unfold Pu
  refine run_val rfl (s := [.val t.D, .val t.head.D, .val (.lst (t.args.map Tm.D))]) ?_ rfl
  unfold b_law_spine
  simp_arith [l0, e, l2]
theorem law_once_ok (c : Nat → Fn) (t : Tm) (h : t.size ≤ 5) (hs : Pu (c 1003) [.val t.D] (.tup [t.head.D, .lst (t.args.map Tm.D)])) (hp : ∀ a : Tm, a.size < t.size → Pu (c 1002) [.val a.D] (once a).1) : Pu (run 1 2 (b_law_once c)) [.val t.D] (once t).1 := by
  have hs : c 1003 [.val t.D] = .ret (.val (.tup [t.head.D, .lst (t.args.map Tm.D)])) [.val t.D] := hs
  have l1 := lim1
  have l2 : (2 : Nat) ≤ LIM := LIM_le (by decide)
  have L : (6 : Nat) ≤ LIM := LIM_le (by decide)
  have al := args_len t
  by_cases hf : t.isFn = false
  · obtain ⟨g, rest, td, hg⟩ := tag_fn hf
    have lc := lc_map (f := wSeq (sOp2 atD (sCall (c 1003) [true] (aCons (sVar 0) aNil)) (sC (.int 1)))) (g := gN 1) (e := sTup (aCons (sCall (c 1002) [true] (aCons (sVar 1) aNil)) aNil)) (vs := [1]) (s := [.val t.D, .un]) (s1 := [.val t.D, .un]) (w := [.val t.D, .un]) (fin := [.val t.D, .un]) t.args Tm.D (fun a => .tup [(once a).1])
      (by simp_arith [hs]) rfl (by omega) (fun a ha => by
        have q : c 1002 [.val a.D] = .ret (.val (once a).1) [.val a.D] := hp a (args_in t a ha).1
        refine ⟨[.val t.D, .val a.D], rfl, .val (.tup [(once a).1]), [.val t.D, .val a.D], [.val t.D, .val a.D], ?_, rfl, rfl⟩
        simp_arith [q, l1]) rfl
    have oh := once_head hf
    unfold Pu
    refine run_val rfl (s := [.val t.D, .un]) ?_ rfl
    rw [oh]
    unfold b_law_once headD
    rw [td] at lc ⊢
    simp_arith [hg, lc, l2, tup_lst]
  · cases t with
    | nm x => exact absurd rfl hf
    | ca f a => exact absurd rfl hf
    | fn x b =>
      have sz : (Tm.fn x b).size = b.size + 1 := rfl
      have e : c 1002 [.val b.D] = .ret (.val (once b).1) [.val b.D] := hp b (by omega)
      unfold Pu
      refine run_val rfl (s := [.val (Tm.fn x b).D, .un]) ?_ rfl
      rw [show (once (.fn x b)).1 = innD (once b).1 from rfl]
      unfold b_law_once innD
      rw [show (Tm.fn x b).D = .tup [.str "fn", .str x, b.D] from rfl]
      simp_arith [e, l2]
theorem lp_rows (c : Nat → Fn) {bags : List Dv.D} {u0 u1 u2 u3 u4 : Slot} : ∀ (rows acc : List (List Dv.D)) (s5 u7 : Slot), (u7 = .un ∨ ∃ d, u7 = .val d) → (s5 = .own (.lst bags) ∨ s5 = .val (.lst bags)) → acc.length + rows.length * bags.length < LIM → (∀ r ∈ rows, r.length < LIM) → bags.length < LIM →
    ∃ w5 w7, (w7 = .un ∨ ∃ d, w7 = .val d) ∧ forL b_law_plans_g1 (b_law_plans_b1 c) (rows.map .tup) [u0, u1, u2, u3, u4, s5, .own (.lst (acc.map .tup)), u7, .un, .un] = .nxt [u0, u1, u2, u3, u4, w5, .own (.lst ((acc ++ addRows rows bags).map .tup)), w7, .un, .un]
  | [], acc, s5, u7, h7, h5, _, _, _ => ⟨s5, u7, h7, by unfold addRows; simp; rfl⟩
  | r :: rows, acc, s5, u7, h7, h5, hm, hr, hb => by
    rw [List.length_cons, Nat.succ_mul] at hm
    have l1 := lim1
    have hr0 := hr r List.mem_cons_self
    have lc := lc_map (f := wSeq (sVar 5)) (g := gN 9) (e := sOp2 addD (sVar 7) (sTup (aCons (sVar 9) aNil))) (vs := [9]) (s := [u0, u1, u2, u3, u4, s5, .own (.lst (acc.map .tup)), .val (.tup r), .un, .un]) (s1 := [u0, u1, u2, u3, u4, .val (.lst bags), .own (.lst (acc.map .tup)), .val (.tup r), .un, .un]) (w := [u0, u1, u2, u3, u4, .val (.lst bags), .own (.lst (acc.map .tup)), .val (.tup r), .un, .un]) (fin := [u0, u1, u2, u3, u4, .val (.lst bags), .own (.lst (acc.map .tup)), .val (.tup r), .un, .un])
      bags (fun d => d) (fun b => .tup (r ++ [b])) (by rw [List.map_id']; rcases h5 with rfl | rfl <;> rfl) rfl (by omega) (fun b hb => by
        have ad := addD_tup (l := r) (m := [b]) (by rw [List.length_singleton]; omega)
        refine ⟨[u0, u1, u2, u3, u4, .val (.lst bags), .own (.lst (acc.map .tup)), .val (.tup r), .un, .val b], rfl, .val (.tup (r ++ [b])), [u0, u1, u2, u3, u4, .val (.lst bags), .own (.lst (acc.map .tup)), .val (.tup r), .un, .val b], [u0, u1, u2, u3, u4, .val (.lst bags), .own (.lst (acc.map .tup)), .val (.tup r), .un, .val b], ?_, rfl, rfl⟩
        simp_arith [ad, l1]) rfl
    have em : (bags.map fun b => Dv.D.tup (r ++ [b])) = (bags.map fun b => r ++ [b]).map Dv.D.tup := by rw [List.map_map]; rfl
    rw [em] at lc
    have ad := addD_lst (l := acc.map Dv.D.tup) (m := (bags.map fun b => r ++ [b]).map Dv.D.tup) (by rw [List.length_map, List.length_map, List.length_map]; omega)
    rw [← List.map_append] at ad
    obtain ⟨w5, w7, k7, e⟩ := lp_rows c (u0 := u0) (u1 := u1) (u2 := u2) (u3 := u3) (u4 := u4) rows (acc ++ bags.map fun b => r ++ [b]) (.val (.lst bags)) (.val (.tup r)) (.inr ⟨_, rfl⟩) (.inr rfl) (by rw [List.length_append, List.length_map]; omega) (fun x hx => hr x (List.mem_cons_of_mem _ hx)) hb
    refine ⟨w5, w7, k7, ?_⟩
    rw [show addRows (r :: rows) bags = (bags.map fun b => r ++ [b]) ++ addRows rows bags from rfl, ← List.append_assoc, List.map_cons]
    refine (forL_cons (s1 := [u0, u1, u2, u3, u4, s5, .own (.lst (acc.map .tup)), .val (.tup r), .un, .un]) rfl ?_).trans e
    unfold b_law_plans_b1
    simp_arith [lc, ad]
theorem lp_step (c : Nat → Fn) {n : Nat} {v0 u5 u6 u7 s3 : Slot} {a : Dv.D} {ps found bags : List Dv.D} {rows : List (List Dv.D)}
    (hp : PuO (c 1001) [.val a, .val (.int (n : Nat))] (.lst ps)) (so : sortD [.lst ps] = some (.own (.lst (sortL ps)))) (hb : PuO (c 1004) [.val (.lst (sortL ps)), .val (.int (n : Nat))] (.lst bags))
    (h7 : u7 = .un ∨ ∃ d, u7 = .val d) (h3 : s3 = .own (.lst (rows.map .tup)) ∨ s3 = .val (.lst (rows.map .tup))) (hl : found.length + rows.length * bags.length < LIM) (hr : ∀ r ∈ rows, r.length < LIM) (hbl : bags.length < LIM) :
    ∃ w5 w6 w7, (w7 = .un ∨ ∃ d, w7 = .val d) ∧ b_law_plans_b2 c [v0, .val (.int (n : Nat)), .own (.lst found), s3, .val a, u5, u6, u7, .un, .un]
      = .nxt [v0, .val (.int (n : Nat)), .own (.lst (found ++ (addRows rows bags).map headD)), .val (.lst ((addRows rows bags).map .tup)), .val a, w5, w6, w7, .un, .un] := by
  have hp : c 1001 [.val a, .val (.int (n : Nat))] = .ret (.own (.lst ps)) [.val a, .val (.int (n : Nat))] := hp
  have hb : c 1004 [.val (.lst (sortL ps)), .val (.int (n : Nat))] = .ret (.own (.lst bags)) [.val (.lst (sortL ps)), .val (.int (n : Nat))] := hb
  have l0 : (0 : Nat) ≤ LIM := LIM_le (by decide)
  have l1 := lim1
  have l2 : (2 : Nat) ≤ LIM := LIM_le (by decide)
  have hlen := addRows_len bags rows
  have t1 : sAsg 5 (sCall (c 1004) [true, true] (aCons (sCB sortD (aCons (sCall (c 1001) [true, true] (aCons (sVar 4) (aCons (sVar 1) aNil))) aNil)) (aCons (sVar 1) aNil))) [v0, .val (.int (n : Nat)), .own (.lst found), s3, .val a, u5, u6, u7, .un, .un]
      = .nxt [v0, .val (.int (n : Nat)), .own (.lst found), s3, .val a, .own (.lst bags), u6, u7, .un, .un] := by
    simp_arith [hp, so, hb]
  have t2 : sAsg 6 (sLst aNil) [v0, .val (.int (n : Nat)), .own (.lst found), s3, .val a, .own (.lst bags), u6, u7, .un, .un] = .nxt [v0, .val (.int (n : Nat)), .own (.lst found), s3, .val a, .own (.lst bags), .own (.lst []), u7, .un, .un] := by simp_arith [l0]
  have t3 : wSeq (sVar 3) [v0, .val (.int (n : Nat)), .own (.lst found), s3, .val a, .own (.lst bags), .own (.lst []), u7, .un, .un] = .ok (rows.map .tup) [v0, .val (.int (n : Nat)), .own (.lst found), .val (.lst (rows.map .tup)), .val a, .own (.lst bags), .own (.lst []), u7, .un, .un] := by
    rcases h3 with rfl | rfl <;> rfl
  obtain ⟨w5, w7, k7, e⟩ := lp_rows c (u0 := v0) (u1 := .val (.int (n : Nat))) (u2 := .own (.lst found)) (u3 := .val (.lst (rows.map .tup))) (u4 := .val a) rows [] (.own (.lst bags)) u7 h7 (.inl rfl) (by rw [List.length_nil]; omega) hr hbl
  rw [List.nil_append] at e
  have lc := lc_map (f := wSeq (sVar 3)) (g := gN 7) (e := sTup (aCons (sC (.str "head")) (aCons (sVar 7) aNil))) (vs := [7])
    (s := [v0, .val (.int (n : Nat)), .own (.lst found), .val (.lst ((addRows rows bags).map .tup)), .val a, w5, .val (.lst ((addRows rows bags).map .tup)), w7, .un, .un]) (s1 := [v0, .val (.int (n : Nat)), .own (.lst found), .val (.lst ((addRows rows bags).map .tup)), .val a, w5, .val (.lst ((addRows rows bags).map .tup)), w7, .un, .un]) (w := [v0, .val (.int (n : Nat)), .own (.lst found), .val (.lst ((addRows rows bags).map .tup)), .val a, w5, .val (.lst ((addRows rows bags).map .tup)), .un, .un, .un]) (fin := [v0, .val (.int (n : Nat)), .own (.lst found), .val (.lst ((addRows rows bags).map .tup)), .val a, w5, .val (.lst ((addRows rows bags).map .tup)), w7, .un, .un])
    (addRows rows bags) Dv.D.tup headD rfl rfl (by omega) (fun b hb => by
      refine ⟨[v0, .val (.int (n : Nat)), .own (.lst found), .val (.lst ((addRows rows bags).map .tup)), .val a, w5, .val (.lst ((addRows rows bags).map .tup)), .val (.tup b), .un, .un], rfl, .val (headD b), [v0, .val (.int (n : Nat)), .own (.lst found), .val (.lst ((addRows rows bags).map .tup)), .val a, w5, .val (.lst ((addRows rows bags).map .tup)), .val (.tup b), .un, .un], [v0, .val (.int (n : Nat)), .own (.lst found), .val (.lst ((addRows rows bags).map .tup)), .val a, w5, .val (.lst ((addRows rows bags).map .tup)), .val (.tup b), .un, .un], ?_, rfl, rfl⟩
      unfold headD
      simp_arith [l2]) (by rcases k7 with rfl | ⟨d, rfl⟩ <;> rfl)
  have ad := addD_lst (l := found) (m := (addRows rows bags).map headD) (by rw [List.length_map]; omega)
  refine ⟨w5, .val (.lst ((addRows rows bags).map .tup)), w7, k7, ?_⟩
  unfold b_law_plans_b2
  refine (seq_nxt t1).trans ((seq_nxt t2).trans ((seq_nxt (for_of t3 e)).trans ?_))
  simp_arith [lc, ad]
def LawBagsOk (F : Fn) (n : Nat) : Prop := ∀ t : Tm, t.size ≤ 5 → PuO F [.val (.lst (sortL (pr n t).plans)), .val (.int (n : Nat))] (.lst (bagsOf n (pr n t).plans))
theorem lawBagsOk (c : Nat → Fn) {n : Nat} (hn : n ≤ 2) : LawBagsOk (run 2 8 (b_law_bags c)) n := fun t h => by
  have h1 := (pr_len hn t h).1
  have h2 := bnd_le t.size
  have h3 : (sortL (pr n t).plans).length ≤ 22 := by rw [sortL_len]; omega
  have h4 : (600 : Nat) ≤ LIM := LIM_le (by decide)
  exact law_bags_ok c (prFam h) n (by omega) (by omega) fun k hk => by
    have := (bags_lens h3 n hn).2 k hk
    omega
theorem lp_loop (c : Nat → Fn) {n : Nat} (hn : n ≤ 2) (hb : LawBagsOk (c 1004) n) (v0 : Slot) : ∀ t : Tm, t.size ≤ 5 → (∀ a ∈ t.args, PuO (c 1001) [.val a.D, .val (.int (n : Nat))] (.lst (pr n a).plans)) →
    ∃ s3 u4 u5 u6 u7, (s3 = .own (.lst ((pr n t).rows.map .tup)) ∨ s3 = .val (.lst ((pr n t).rows.map .tup))) ∧ (u7 = .un ∨ ∃ d, u7 = .val d) ∧ ∀ m, forL b_law_plans_g2 (b_law_plans_b2 c) (t.args.map Tm.D ++ m) [v0, .val (.int (n : Nat)), .own (.lst [headD []]), .own (.lst [.tup []]), .un, .un, .un, .un, .un, .un]
      = forL b_law_plans_g2 (b_law_plans_b2 c) m [v0, .val (.int (n : Nat)), .own (.lst ((pr n t).pre.map headD)), s3, u4, u5, u6, u7, .un, .un]
  | .nm x, _, _ => ⟨_, .un, .un, .un, .un, .inl rfl, .inl rfl, fun _ => rfl⟩
  | .fn x b, _, _ => ⟨_, .un, .un, .un, .un, .inl rfl, .inl rfl, fun _ => rfl⟩
  | .ca f a, h, hp => by
    have sz : (Tm.ca f a).size = f.size + a.size + 1 := rfl
    have ar : (Tm.ca f a).args = f.args ++ [a] := rfl
    obtain ⟨s3, u4, u5, u6, u7, h3, h7, e⟩ := lp_loop c hn hb v0 f (by omega) (fun x hx => hp x (by rw [ar]; exact List.mem_append_left _ hx))
    have P := prOk n f
    have hbl := bagsOf_len (plans := (pr n a).plans) (m := 22) (n := n) (by have := (pr_len hn a (by omega)).1; have := bnd_le a.size; omega) hn
    have L : (600 : Nat) ≤ LIM := LIM_le (by decide)
    obtain ⟨w5, w6, w7, k7, q⟩ := lp_step c (v0 := v0) (u5 := u5) (u6 := u6) (u7 := u7) (found := (pr n f).pre.map headD) (rows := (pr n f).rows) (hp a (by rw [ar]; exact List.mem_append_right _ (List.mem_singleton.mpr rfl))) (pr_sort hn (by omega)) (hb a (by omega)) h7 h3 (by rw [List.length_map]; exact pr_lim hn h) (fun r hr => row_lens (by omega) r (P.rsub r hr)) (by omega)
    refine ⟨_, .val a.D, w5, w6, w7, .inr rfl, k7, fun m => ?_⟩
    rw [ar, List.map_append, List.append_assoc, e]
    refine (forL_cons (s1 := [v0, .val (.int (n : Nat)), .own (.lst ((pr n f).pre.map headD)), s3, .val a.D, u5, u6, u7, .un, .un]) rfl q).trans ?_
    rw [← List.map_append]
    rfl
theorem law_plans_ok (c : Nat → Fn) {n : Nat} (hn : n ≤ 2) (hb : LawBagsOk (c 1004) n) (t : Tm) (h : t.size ≤ 5) (hs : Pu (c 1003) [.val t.D] (.tup [t.head.D, .lst (t.args.map Tm.D)]))
    (hp : ∀ a : Tm, a.size < t.size → PuO (c 1001) [.val a.D, .val (.int (n : Nat))] (.lst (pr n a).plans)) : PuO (run 2 10 (b_law_plans c)) [.val t.D, .val (.int (n : Nat))] (.lst (pr n t).plans) := by
  have hs : c 1003 [.val t.D] = .ret (.val (.tup [t.head.D, .lst (t.args.map Tm.D)])) [.val t.D] := hs
  have l0 : (0 : Nat) ≤ LIM := LIM_le (by decide)
  have l1 := lim1
  have l2 : (2 : Nat) ≤ LIM := LIM_le (by decide)
  have L : (30 : Nat) ≤ LIM := LIM_le (by decide)
  unfold PuO
  by_cases hf : t.isFn = false
  · obtain ⟨s3, u4, u5, u6, u7, _, _, e⟩ := lp_loop c hn hb (.val t.D) t h fun a ha => hp a (args_in t a ha).1
    have e := e []
    rw [List.append_nil, ← pr_head n hf] at e
    obtain ⟨g, r, td, hg⟩ := tag_fn hf
    have t0 : sIfS (tB (sOp2 eqD (sOp2 atD (sVar 0) (sC (.int 0))) (sC (.str "fn")))) (sRet (sOp2 addD (sLst (aCons (sTup (aCons (sC (.str "shut")) aNil)) aNil)) (sLc (wSeq (sCall (c 1001) [true, true] (aCons (sOp2 atD (sVar 0) (sC (.int 2))) (aCons (sVar 1) aNil)))) (gN 8) tYesT (sTup (aCons (sC (.str "in")) (aCons (sVar 8) aNil))) [8]))) sSkip [.val t.D, .val (.int (n : Nat)), .un, .un, .un, .un, .un, .un, .un, .un] = .nxt [.val t.D, .val (.int (n : Nat)), .un, .un, .un, .un, .un, .un, .un, .un] := by
      rw [td]
      simp_arith [hg]
    have t1 : sAsg 2 (sLst (aCons (sTup (aCons (sC (.str "head")) (aCons (sTup aNil) aNil))) aNil)) [.val t.D, .val (.int (n : Nat)), .un, .un, .un, .un, .un, .un, .un, .un] = .nxt [.val t.D, .val (.int (n : Nat)), .own (.lst [headD []]), .un, .un, .un, .un, .un, .un, .un] := by
      unfold headD
      simp_arith [l0, l1, l2]
    have t2 : sAsg 3 (sLst (aCons (sTup aNil) aNil)) [.val t.D, .val (.int (n : Nat)), .own (.lst [headD []]), .un, .un, .un, .un, .un, .un, .un] = .nxt [.val t.D, .val (.int (n : Nat)), .own (.lst [headD []]), .own (.lst [.tup []]), .un, .un, .un, .un, .un, .un] := by simp_arith [l0, l1]
    have t3 : wSeq (sOp2 atD (sCall (c 1003) [true] (aCons (sVar 0) aNil)) (sC (.int 1))) [.val t.D, .val (.int (n : Nat)), .own (.lst [headD []]), .own (.lst [.tup []]), .un, .un, .un, .un, .un, .un] = .ok (t.args.map Tm.D) [.val t.D, .val (.int (n : Nat)), .own (.lst [headD []]), .own (.lst [.tup []]), .un, .un, .un, .un, .un, .un] := by
      simp_arith [hs]
    refine run_slot rfl (i := 2) (s := [.val t.D, .val (.int (n : Nat)), .own (.lst (pr n t).plans), s3, u4, u5, u6, u7, .un, .un]) ?_ rfl rfl
    unfold b_law_plans
    exact (seq_nxt t0).trans ((seq_nxt t1).trans ((seq_nxt t2).trans ((seq_nxt (for_of t3 e)).trans rfl)))
  · cases t with
    | nm x => exact absurd rfl hf
    | ca f a => exact absurd rfl hf
    | fn x b =>
      have sz : (Tm.fn x b).size = b.size + 1 := rfl
      have hb' : c 1001 [.val b.D, .val (.int (n : Nat))] = .ret (.own (.lst (pr n b).plans)) [.val b.D, .val (.int (n : Nat))] := hp b (by omega)
      have NB := (pr_len hn b (by omega)).1
      have BB := bnd_le b.size
      have lc := lc_map (f := wSeq (sCall (c 1001) [true, true] (aCons (sOp2 atD (sVar 0) (sC (.int 2))) (aCons (sVar 1) aNil)))) (g := gN 8) (e := sTup (aCons (sC (.str "in")) (aCons (sVar 8) aNil))) (vs := [8])
        (s := [.val (Tm.fn x b).D, .val (.int (n : Nat)), .un, .un, .un, .un, .un, .un, .un, .un]) (s1 := [.val (Tm.fn x b).D, .val (.int (n : Nat)), .un, .un, .un, .un, .un, .un, .un, .un]) (w := [.val (Tm.fn x b).D, .val (.int (n : Nat)), .un, .un, .un, .un, .un, .un, .un, .un]) (fin := [.val (Tm.fn x b).D, .val (.int (n : Nat)), .un, .un, .un, .un, .un, .un, .un, .un])
        (pr n b).plans (fun d => d) innD (by rw [List.map_id', show (Tm.fn x b).D = .tup [.str "fn", .str x, b.D] from rfl]; simp_arith [hb']) rfl (by omega)
        (fun d hd => by
          refine ⟨[.val (Tm.fn x b).D, .val (.int (n : Nat)), .un, .un, .un, .un, .un, .un, .val d, .un], rfl, .val (innD d), [.val (Tm.fn x b).D, .val (.int (n : Nat)), .un, .un, .un, .un, .un, .un, .val d, .un], [.val (Tm.fn x b).D, .val (.int (n : Nat)), .un, .un, .un, .un, .un, .un, .val d, .un], ?_, rfl, rfl⟩
          unfold innD
          simp_arith [l2]) rfl
      have ad := addD_lst (l := [shutD]) (m := (pr n b).plans.map innD) (by rw [List.length_map, List.length_singleton]; omega)
      rw [show [shutD] ++ (pr n b).plans.map innD = (pr n (.fn x b)).plans from rfl] at ad
      refine run_own rfl (s := [.val (Tm.fn x b).D, .val (.int (n : Nat)), .un, .un, .un, .un, .un, .un, .un, .un]) ?_ rfl
      unfold b_law_plans
      refine seq_ret ?_
      rw [show (Tm.fn x b).D = .tup [.str "fn", .str x, b.D] from rfl] at lc ⊢
      unfold shutD at ad
      simp_arith [lc, ad, l1]
end K53
namespace K53
open PySem L2 Dv Pg
def A (x : Str) : Prop := x = "x" ∨ x = "y" ∨ x = "x1" ∨ x = "u" ∨ x = "z"
def Nm (t : Tm) : Prop := ∀ x ∈ t.names, A x
theorem name_lv (n : Nat) : ∀ x, A x → NameOk (sem (n + 1) f_is_plain_name) x := fun x h => by
  rcases h with rfl | rfl | rfl | rfl | rfl
  · exact name_one (sem n) (x := "x") (k := 120) (by decide) (by decide) (by decide) (by decide) (by decide)
  · exact name_one (sem n) (x := "y") (k := 121) (by decide) (by decide) (by decide) (by decide) (by decide)
  · exact name_two (sem n) (x := "x1") (k := 120) (d := 49) (by decide) (by decide) (by decide) (by decide) (by decide) (by decide) (by decide)
  · exact name_one (sem n) (x := "u") (k := 117) (by decide) (by decide) (by decide) (by decide) (by decide)
  · exact name_one (sem n) (x := "z") (k := 122) (by decide) (by decide) (by decide) (by decide) (by decide)
section
variable (n : Nat) {t : Tm}
theorem lim5 : (6 : Nat) ≤ LIM := LIM_le (by decide)
theorem good_lv (h : Nm t) : Good (sem (n + 1) f_is_plain_name) t := fun x hx => name_lv n x (h x hx)
theorem plain_indep (c c' : Nat → Fn) : run 1 3 (bd_is_plain_name c) = run 1 3 (bd_is_plain_name c') := rfl
theorem plain_lv : sem (n + 2) f_is_plain_name = sem (n + 1) f_is_plain_name := (sem_is_plain_name (n := n + 1)).trans ((plain_indep _ _).trans (sem_is_plain_name (n := n)).symm)
theorem tree_lv (h : Nm t) (hl : t.size ≤ 5) : Pu (sem (n + 3) f_is_tree) [.val t.D] (.bl true) :=
  is_tree_ok (sem (n + 2)) (fun t g => is_node_ok (sem (n + 1)) t (by rw [plain_lv n] at g; exact g)) t (good_lv (n + 1) h) (by have := lim5; omega)
theorem flat_lv (hl : t.size ≤ 5) : PuO (sem (n + 1) f_flat) [.val t.D] (.lst t.toks) := flat_ok (sem n) t (by have := lim5; omega)
theorem levels_lv (hl : t.size ≤ 5) : Pu (sem (n + 2) f_levels_of) [.val (.lst t.toks)] (.int (t.levels : Nat)) :=
  levels_of_ok (sem (n + 1)) t (by have := lim5; omega) _ (.inl rfl) (ends_of_ok (sem n) t (by have := lim5; omega) _ (.inl rfl))
theorem program_lv (h : Nm t) (hl : t.size ≤ 5) : Pu (sem (n + 4) f_is_program) [.val t.D] (.bl true) :=
  is_program_ok (sem (n + 3)) t (by omega) (by have := t.levels_le; omega) (tree_lv n h hl) (flat_lv (n + 2) hl) (levels_lv (n + 1) hl)
theorem nwide_lv (h : Nm t) (hl : t.size ≤ 5) : Pu (sem (n + 4) f_need_wide) [.val t.D] .non := need_wide_ok (sem (n + 3)) t (tree_lv n h hl)
theorem nprog_lv (h : Nm t) (hl : t.size ≤ 5) : Pu (sem (n + 5) f_need_program) [.val t.D] .non := need_program_ok (sem (n + 4)) t (program_lv n h hl)
theorem spine_lv (h : Nm t) (hl : t.size ≤ 5) : Pu (sem (n + 5) f_spine) [.val t.D] (.tup [t.head.D, .tup (t.args.map Tm.D)]) := spine_ok (sem (n + 4)) t (by have := lim5; omega) (nwide_lv n h hl)
theorem ready_lv (h : Nm t) (hl : t.size ≤ 5) : Pu (sem (n + 5) f_ready) [.val t.D] (.tup (readyA t)) := by
  have l := lim5
  obtain ⟨fin, e, _, e2⟩ := addresses_of_ok (sem (n + 3)) t (by omega) (.par (.lst t.toks)) (.inr rfl)
  rw [e2 rfl] at e
  exact ready_ok (sem (n + 4)) t (by omega) (nwide_lv n h hl) (flat_lv (n + 3) hl) e
    (indexes_ready_ok (sem (n + 3)) t (by omega) _ (.inl rfl) fun i s hs => is_ready_ok (sem (n + 2)) (.inl rfl) hs)
theorem nnormal_lv (h : Nm t) (hl : t.size ≤ 5) (hs : t.still) : Pu (sem (n + 7) f_need_normal) [.val t.D] .non :=
  need_normal_ok (sem (n + 6)) t (is_normal_ok (sem (n + 5)) t hs (nprog_lv n h hl) (ready_lv n h hl))
end
theorem Nm.sub {a t : Tm} (h : Nm t) (hs : ∀ x ∈ a.names, x ∈ t.names) : Nm a := fun x hx => h x (hs x hx)
theorem plans_in_lv {k : Nat} (hk : k ≤ 2) : ∀ (m n : Nat) (t : Tm), t.size ≤ m → t.size ≤ 5 → Nm t → PuO (sem (n + 6 + m) f_plans_in) [.val t.D, .val (.int (k : Nat))] (.lst (sortL (pr k t).plans))
  | 0, _, t, h, _, _ => by have := t.size_pos; omega
  | m + 1, n, t, h, h5, hn => plans_in_ok (sem (n + 6 + m)) hk (by rw [show n + 6 + m = (n + 5 + m) + 1 by omega]; exact bagsOk (sem (n + 5 + m)) hk) t h5 (by rw [show n + 6 + m = (n + m + 1) + 5 by omega]; exact spine_lv (n + m + 1) hn h5)
      fun a ha hs => plans_in_lv hk m n a (by omega) (by omega) (hn.sub hs)
theorem law_plans_lv {k : Nat} (hk : k ≤ 2) : ∀ (m n : Nat) (t : Tm), t.size ≤ m → t.size ≤ 5 → PuO (sem (n + 6 + m) 1001) [.val t.D, .val (.int (k : Nat))] (.lst (pr k t).plans)
  | 0, _, t, h, _ => by have := t.size_pos; omega
  | m + 1, n, t, h, h5 => law_plans_ok (sem (n + 6 + m)) hk (by rw [show n + 6 + m = (n + 5 + m) + 1 by omega]; exact lawBagsOk (sem (n + 5 + m)) hk) t h5 (by rw [show n + 6 + m = (n + 5 + m) + 1 by omega]; exact law_spine_ok (sem (n + 5 + m)) t (by have := lim5; omega))
      fun a ha => law_plans_lv hk m n a (by omega) (by omega)
theorem once_lv : ∀ (m n : Nat) (t : Tm), t.size ≤ m → t.size ≤ 5 → Nm t → Pu (sem (n + 6 + m) f_once_in) [.val t.D] (once t).1
  | 0, _, t, h, _, _ => by have := t.size_pos; omega
  | m + 1, n, t, h, h5, hn => once_in_ok (sem (n + 6 + m)) t h5 (by rw [show n + 6 + m = (n + m + 1) + 5 by omega]; exact spine_lv (n + m + 1) hn h5)
      fun a ha hs => once_lv m n a (by omega) (by omega) (hn.sub hs)
theorem law_once_lv : ∀ (m n : Nat) (t : Tm), t.size ≤ m → t.size ≤ 5 → Pu (sem (n + 6 + m) 1002) [.val t.D] (once t).1
  | 0, _, t, h, _ => by have := t.size_pos; omega
  | m + 1, n, t, h, h5 => law_once_ok (sem (n + 6 + m)) t h5 (by rw [show n + 6 + m = (n + 5 + m) + 1 by omega]; exact law_spine_ok (sem (n + 5 + m)) t (by have := lim5; omega))
      fun a ha => law_once_lv m n a (by omega) (by omega)
theorem fits_lv {k : Nat} (hk : k ≤ 2) : ∀ (m n : Nat) (t : Tm), t.size ≤ m → t.size ≤ 5 → Nm t → ∀ p ∈ (pr k t).plans, Pu (sem (n + 6 + 2 * m) f_fits) [.val t.D, .val p] (.bl true)
  | 0, _, t, h, _, _ => by have := t.size_pos; omega
  | m + 1, n, t, h, h5, hn => fun p hp => by
    rw [show n + 6 + 2 * (m + 1) = (n + 7 + 2 * m) + 1 by omega]
    by_cases hf : t.isFn = false
    · rw [pr_head k hf] at hp
      obtain ⟨r, hr, rfl⟩ := List.mem_map.mp hp
      refine fits_head (sem (n + 7 + 2 * m)) hk h5 hf (by rw [show n + 7 + 2 * m = (n + 2 * m + 2) + 5 by omega]; exact spine_lv _ hn h5) hr fun a ha b hb => ?_
      obtain ⟨s1, s2⟩ := args_in t a ha
      rw [show n + 7 + 2 * m = (n + 6 + 2 * m) + 1 by omega]
      exact fits_bag_ok (sem (n + 6 + 2 * m)) hk (by omega) hb fun q hq => fits_lv hk m n a (by omega) (by omega) (hn.sub s2) q hq
    · cases t with
      | nm x => exact absurd rfl hf
      | ca f a => exact absurd rfl hf
      | fn x b =>
        have sz : (Tm.fn x b).size = b.size + 1 := rfl
        refine fits_fn (sem (n + 7 + 2 * m)) (fun q hq => ?_) hp
        rw [show n + 7 + 2 * m = (n + 1) + 6 + 2 * m by omega]
        exact fits_lv hk m (n + 1) b (by omega) (by omega) (hn.sub fun x hx => List.mem_cons_of_mem _ hx) q hq
theorem pick_lv (n : Nat) : PickOk (sem (n + 1) f_law_pick) := fun cells k q m h1 h2 => pick_ok (sem n) cells k q m h1 h2
theorem normal_lv : ∀ (M n : Nat), NormOk A (sem (n + 1 + M) f_law_normal) M
  | 0, _ => fun cells k q ns most h1 h2 => by omega
  | M + 1, n => normal_ok A (sem (n + 1 + M)) M (by rw [show n + 1 + M = (n + M) + 1 by omega]; exact pick_lv _) (normal_lv M n) (.inl rfl) (.inr (.inl rfl)) (.inr (.inr (.inl rfl))) (.inr (.inr (.inr (.inl rfl))))
end K53
namespace K53
open PySem L2 Dv Pg
theorem is_false (b : Bool) : isD (.bl b) (.bl false) = some (.val (.bl (b == false))) := rfl
theorem isnt_true (b : Bool) : isntD (.bl b) (.bl true) = some (.val (.bl (!(b == true)))) := rfl
theorem law_true (ns : List Int) (h1 : ns.length ≤ 63) (h2 : ∀ z ∈ ns, Builtin.Int.intBits z ≤ 1048576) : ∃ fin, sem 60 1000 [.val (.scr (ns.map .int))] = .ret (.val (.bl true)) fin := by
  have l2 : (2 : Nat) ≤ LIM := LIM_le (by decide)
  have l1 := lim1
  have b1 : sem 59 532 [.val (.scr (ns.map .int))] = .ret (.own (boxD ns 0 0)) [.val (.scr (ns.map .int))] := law_box_ok (sem 58) ns
  obtain ⟨t, k1, q1, e1, sz, st, nm, _, c1⟩ := normal_lv 5 53 ns 0 0 ["y", "z"] 5 (by decide) (by decide) (by simp) (by decide) (fun x hx => by
    rcases List.mem_cons.mp hx with rfl | hx
    · exact .inr (.inl rfl)
    · rw [List.mem_singleton.mp hx]; exact .inr (.inr (.inr (.inr rfl)))) (by decide)
  have e1 : sem 59 534 [.par (boxD ns 0 0), .val (.lst [.str "y", .str "z"]), .val (.int 5)] = .ret (.val t.D) [.par (boxD ns k1 q1), .val (.lst [.str "y", .str "z"]), .val (.int 5)] := e1
  obtain ⟨k, k2, q2, e2, dr, _, _⟩ := pick_lv 58 ns k1 q1 3 (by omega) (by decide)
  have e2 : sem 59 533 [.par (boxD ns k1 q1), .val (.int 3)] = .ret (.val (.int (k : Nat))) [.par (boxD ns k2 q2), .val (.int 3)] := e2
  have hk : k ≤ 2 := by rcases dr with h | h <;> omega
  have hn : Pu (sem 58 f_need_normal) [.val t.D] .non := nnormal_lv 51 nm sz st
  have so := pr_sort hk sz
  have p1 : sem 59 1001 [.val t.D, .val (.int (k : Nat))] = .ret (.own (.lst (pr k t).plans)) [.val t.D, .val (.int (k : Nat))] := law_plans_lv hk 5 48 t sz sz
  have p2 : sem 59 465 [.val t.D, .val (.int (k : Nat))] = .ret (.val (.tup (sortL (pr k t).plans))) [.val t.D, .val (.int (k : Nat))] := plans_ok (sem 58) hk t hn (need_number_ok (sem 57) (k : Nat) (by omega) (by omega)) (plans_in_lv hk 5 47 t sz sz nm)
  have p3 : sem 59 462 [.val t.D] = .ret (.val (once t).1) [.val t.D] := once_plan_ok (sem 58) t hn (once_lv 5 47 t sz sz nm)
  have p4 : sem 59 1002 [.val t.D] = .ret (.val (once t).1) [.val t.D] := law_once_lv 5 48 t sz sz
  have P := prOk k t
  obtain ⟨ot, _, od, _⟩ := once_ts t
  have n1 : neD (.tup (sortL (pr k t).plans)) (.tup (sortL (pr k t).plans)) = some (.val (.bl false)) := ne_self (by rw [ts_tup]; exact tsAll_of fun d hd => P.pts d (sortL_mem.mp hd)) (by
    rw [dep_tup]
    have : D.depAll (sortL (pr k t).plans) ≤ 140 := depAll_of fun d hd => by have := P.pdp d (sortL_mem.mp hd); omega
    omega)
  have n2 : neD (once t).1 (once t).1 = some (.val (.bl false)) := ne_self ot (by omega)
  have due : ∃ a r, sortL (pr k t).plans = a :: r ∧ a ∈ (pr k t).plans := by
    cases e : sortL (pr k t).plans with
    | nil =>
      have := sortL_len (pr k t).plans
      rw [e] at this
      have h : (pr k t).plans = [] := List.eq_nil_of_length_eq_zero this.symm
      cases t with
      | nm x => cases h
      | fn x b => cases h
      | ca f a =>
        have : (pr k (.ca f a)).pre = [] := List.map_eq_nil_iff.mp (show (pr k (.ca f a)).pre.map headD = [] from h)
        have hp : ∀ t : Tm, (pr k t).pre ≠ [] := fun t => by
          induction t with
          | nm x => exact fun z => nomatch z
          | fn x b _ => exact fun z => nomatch z
          | ca f a ih _ => exact fun z => ih (List.append_eq_nil_iff.mp z).1
        exact absurd this (hp _)
    | cons a r => exact ⟨a, r, rfl, sortL_mem.mp (by rw [e]; exact List.mem_cons_self)⟩
  obtain ⟨a, r, ea, ha⟩ := due
  have at0 : atD (.lst (sortL (pr k t).plans)) (.int 0) = some (.val a) := by rw [ea]; exact at_lst0 a r
  have hne : sortL (pr k t).plans ≠ [] := by rw [ea]; exact fun z => nomatch z
  have atl : atD (.lst (sortL (pr k t).plans)) (.int (-1)) = some (.val (lastD (sortL (pr k t).plans))) := at_last hne
  have hlast : lastD (sortL (pr k t).plans) ∈ (pr k t).plans := sortL_mem.mp (last_mem hne)
  have f1 : sem 59 447 [.val t.D, .val a] = .ret (.val (.bl true)) [.val t.D, .val a] := is_plan_ok (sem 58) hn (fits_lv hk 5 42 t sz sz nm a ha)
  have f2 : sem 59 447 [.val t.D, .val (lastD (sortL (pr k t).plans))] = .ret (.val (.bl true)) [.val t.D, .val (lastD (sortL (pr k t).plans))] := is_plan_ok (sem 58) hn (fits_lv hk 5 42 t sz sz nm _ hlast)
  have f3 : sem 59 447 [.val t.D, .val (.tup [.str "in", .tup [.str "left"]])] = .ret (.val (.bl false)) [.val t.D, .val (.tup [.str "in", .tup [.str "left"]])] := is_plan_ok (sem 58) hn (fits_bad (sem 57) t fun b => fits_left (sem 56) b)
  have dl : decide ((0 : Int) < ((sortL (pr k t).plans).length : Nat)) = true := decide_eq_true (by rw [ea, List.length_cons]; omega)
  have t1 : sAsg 1 (sCall (sem 59 532) [true] (aCons (sVar 0) aNil)) [.val (.scr (ns.map .int)), .un, .un, .un, .un, .un] = .nxt [.val (.scr (ns.map .int)), .own (boxD ns 0 0), .un, .un, .un, .un] := by simp_arith [b1]
  have t2 : sAsg 2 (sCall (sem 59 534) [true, true, true] (aCons (sVar 1) (aCons (sLst (aCons (sC (.str "y")) (aCons (sC (.str "z")) aNil))) (aCons (sC (.int 5)) aNil)))) [.val (.scr (ns.map .int)), .own (boxD ns 0 0), .un, .un, .un, .un] = .nxt [.val (.scr (ns.map .int)), .own (boxD ns k1 q1), .val t.D, .un, .un, .un] := by simp_arith [e1, l2]
  have t3 : sAsg 3 (sCall (sem 59 533) [true, true] (aCons (sVar 1) (aCons (sC (.int 3)) aNil))) [.val (.scr (ns.map .int)), .own (boxD ns k1 q1), .val t.D, .un, .un, .un] = .nxt [.val (.scr (ns.map .int)), .own (boxD ns k2 q2), .val t.D, .val (.int (k : Nat)), .un, .un] := by simp_arith [e2]
  have t4 : sAsg 4 (sCB sortD (aCons (sCall (sem 59 1001) [true, true] (aCons (sVar 2) (aCons (sVar 3) aNil))) aNil)) [.val (.scr (ns.map .int)), .own (boxD ns k2 q2), .val t.D, .val (.int (k : Nat)), .un, .un] = .nxt [.val (.scr (ns.map .int)), .own (boxD ns k2 q2), .val t.D, .val (.int (k : Nat)), .own (.lst (sortL (pr k t).plans)), .un] := by simp_arith [p1, so]
  have t5 : sAsg 5 (sCall (sem 59 465) [true, true] (aCons (sVar 2) (aCons (sVar 3) aNil))) [.val (.scr (ns.map .int)), .own (boxD ns k2 q2), .val t.D, .val (.int (k : Nat)), .own (.lst (sortL (pr k t).plans)), .un] = .nxt [.val (.scr (ns.map .int)), .own (boxD ns k2 q2), .val t.D, .val (.int (k : Nat)), .own (.lst (sortL (pr k t).plans)), .val (.tup (sortL (pr k t).plans))] := by simp_arith [p2]
  refine ⟨[.val (.scr (ns.map .int))], ?_⟩
  show run 1 6 (b_law (sem 59)) [.val (.scr (ns.map .int))] = _
  refine run_val rfl (s := [.val (.scr (ns.map .int)), .own (boxD ns k2 q2), .val t.D, .val (.int (k : Nat)), .own (.lst (sortL (pr k t).plans)), .val (.tup (sortL (pr k t).plans))]) ?_ rfl
  unfold b_law
  refine (seq_nxt t1).trans ((seq_nxt t2).trans ((seq_nxt t3).trans ((seq_nxt t4).trans ((seq_nxt t5).trans ?_))))
  simp_arith [tup_lst, n1, p3, p4, n2, dl, at0, f1, atl, f2, f3, l1, l2, is_false, isnt_true]
end K53
end
open PySem PySem.W PyProof.Rows
set_option maxRecDepth 100000 in
set_option maxHeartbeats 0 in
theorem PySem.Challenge.cw_stepsworn_k53_all_plans_of_a_program_holds : PySem.Challenge.rw_stepsworn_k53_all_plans_of_a_program.Holds := by
  w_on; o_law; k_head; (case hw => w_witness2)
  k_fill
  refine Dv.walk_dv (l := PySem.Challenge.rw_stepsworn_k53_all_plans_of_a_program) (n := 63) (k := 60) (F := K53.sem 60 1000) rfl (by decide) rfl ⟨rfl, by decide, by decide⟩ (fun w h Y => PySem.W.kIn_of Y) ?F K53.law_true
  case F =>
    intro w mg fa h KX G hmg
    refine' K53.law_of (K53.tab_mk KX G ?a1000 ?l1000 ?c1000 ?k1000 ?a532 ?l532 ?c532 ?k532 ?a534 ?l534 ?c534 ?k534 ?a533 ?l533 ?c533 ?k533 ?a1001 ?l1001 ?c1001 ?k1001 ?a465 ?l465 ?c465 ?k465 ?a462 ?l462 ?c462 ?k462 ?a1002 ?l1002 ?c1002 ?k1002 ?a447 ?l447 ?c447 ?k447 ?a1003 ?l1003 ?c1003 ?k1003 ?a1004 ?l1004 ?c1004 ?k1004 ?a444 ?l444 ?c444 ?k444 ?a70 ?l70 ?c70 ?k70 ?a464 ?l464 ?c464 ?k464 ?a461 ?l461 ?c461 ?k461 ?a193 ?l193 ?c193 ?k193 ?a443 ?l443 ?c443 ?k443 ?a34 ?l34 ?c34 ?k34 ?a463 ?l463 ?c463 ?k463 ?a446 ?l446 ?c446 ?k446 ?a99 ?l99 ?c99 ?k99 ?a80 ?l80 ?c80 ?k80 ?a16 ?l16 ?c16 ?k16 ?a15 ?l15 ?c15 ?k15 ?a6 ?l6 ?c6 ?k6 ?a22 ?l22 ?c22 ?k22 ?a79 ?l79 ?c79 ?k79 ?a5 ?l5 ?c5 ?k5 ?a8 ?l8 ?c8 ?k8 ?a78 ?l78 ?c78 ?k78 ?a4 ?l4 ?c4 ?k4 ?a7 ?l7 ?c7 ?k7 ?a3 ?l3 ?c3 ?k3 ?a1 ?l1 ?c1 ?k1 ?a0 ?l0 ?c0 ?k0 ?z_all ?z_any ?z_bool ?z_int ?z_isinstance ?z_len ?z_list ?z_max ?z_range ?z_sorted ?z_str ?z_tuple ?z_zip ?g_DIGITS ?g_LETTERS ?g_MOST_COPIES ?g_MOST_DIGITS ?g_MOST_LEVELS ?g_MOST_NODES) hmg (fun s v => .of_eq rfl)
    (case a1000 => k_is)
    (case l1000 => k_is)
    (case c1000 => k_is)
    (case k1000 => k_is)
    (case a532 => k_is)
    (case l532 => k_is)
    (case c532 => k_is)
    (case k532 => k_is)
    (case a534 => k_is)
    (case l534 => k_is)
    (case c534 => k_is)
    (case k534 => k_is)
    (case a533 => k_is)
    (case l533 => k_is)
    (case c533 => k_is)
    (case k533 => k_is)
    (case a1001 => k_is)
    (case l1001 => k_is)
    (case c1001 => k_is)
    (case k1001 => k_is)
    (case a465 => k_is)
    (case l465 => k_is)
    (case c465 => k_is)
    (case k465 => k_is)
    (case a462 => k_is)
    (case l462 => k_is)
    (case c462 => k_is)
    (case k462 => k_is)
    (case a1002 => k_is)
    (case l1002 => k_is)
    (case c1002 => k_is)
    (case k1002 => k_is)
    (case a447 => k_is)
    (case l447 => k_is)
    (case c447 => k_is)
    (case k447 => k_is)
    (case a1003 => k_is)
    (case l1003 => k_is)
    (case c1003 => k_is)
    (case k1003 => k_is)
    (case a1004 => k_is)
    (case l1004 => k_is)
    (case c1004 => k_is)
    (case k1004 => k_is)
    (case a444 => k_is)
    (case l444 => k_is)
    (case c444 => k_is)
    (case k444 => k_is)
    (case a70 => k_is)
    (case l70 => k_is)
    (case c70 => k_is)
    (case k70 => k_is)
    (case a464 => k_is)
    (case l464 => k_is)
    (case c464 => k_is)
    (case k464 => k_is)
    (case a461 => k_is)
    (case l461 => k_is)
    (case c461 => k_is)
    (case k461 => k_is)
    (case a193 => k_is)
    (case l193 => k_is)
    (case c193 => k_is)
    (case k193 => k_is)
    (case a443 => k_is)
    (case l443 => k_is)
    (case c443 => k_is)
    (case k443 => k_is)
    (case a34 => k_is)
    (case l34 => k_is)
    (case c34 => k_is)
    (case k34 => k_is)
    (case a463 => k_is)
    (case l463 => k_is)
    (case c463 => k_is)
    (case k463 => k_is)
    (case a446 => k_is)
    (case l446 => k_is)
    (case c446 => k_is)
    (case k446 => k_is)
    (case a99 => k_is)
    (case l99 => k_is)
    (case c99 => k_is)
    (case k99 => k_is)
    (case a80 => k_is)
    (case l80 => k_is)
    (case c80 => k_is)
    (case k80 => k_is)
    (case a16 => k_is)
    (case l16 => k_is)
    (case c16 => k_is)
    (case k16 => k_is)
    (case a15 => k_is)
    (case l15 => k_is)
    (case c15 => k_is)
    (case k15 => k_is)
    (case a6 => k_is)
    (case l6 => k_is)
    (case c6 => k_is)
    (case k6 => k_is)
    (case a22 => k_is)
    (case l22 => k_is)
    (case c22 => k_is)
    (case k22 => k_is)
    (case a79 => k_is)
    (case l79 => k_is)
    (case c79 => k_is)
    (case k79 => k_is)
    (case a5 => k_is)
    (case l5 => k_is)
    (case c5 => k_is)
    (case k5 => k_is)
    (case a8 => k_is)
    (case l8 => k_is)
    (case c8 => k_is)
    (case k8 => k_is)
    (case a78 => k_is)
    (case l78 => k_is)
    (case c78 => k_is)
    (case k78 => k_is)
    (case a4 => k_is)
    (case l4 => k_is)
    (case c4 => k_is)
    (case k4 => k_is)
    (case a7 => k_is)
    (case l7 => k_is)
    (case c7 => k_is)
    (case k7 => k_is)
    (case a3 => k_is)
    (case l3 => k_is)
    (case c3 => k_is)
    (case k3 => k_is)
    (case a1 => k_is)
    (case l1 => k_is)
    (case c1 => k_is)
    (case k1 => k_is)
    (case a0 => k_is)
    (case l0 => k_is)
    (case c0 => k_is)
    (case k0 => k_is)
    (case z_all => k_is)
    (case z_any => k_is)
    (case z_bool => k_is)
    (case z_int => k_is)
    (case z_isinstance => k_is)
    (case z_len => k_is)
    (case z_list => k_is)
    (case z_max => k_is)
    (case z_range => k_is)
    (case z_sorted => k_is)
    (case z_str => k_is)
    (case z_tuple => k_is)
    (case z_zip => k_is)
    (case g_DIGITS => k_is)
    (case g_LETTERS => k_is)
    (case g_MOST_COPIES => k_is)
    (case g_MOST_DIGITS => k_is)
    (case g_MOST_LEVELS => k_is)
    (case g_MOST_NODES => k_is)
