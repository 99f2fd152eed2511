import PyProof.Rows.All
import Wide.All
import OpenK.AllK
import Wide.FinOn
import HandS.ForMost
import HandS.Exc
import HandS.TryOnly
import HandS.ExcOwn
import HandS.WordsExc
import HandS.Dict
import HandS.DictComp
import HandS.Wide
import HandS.TupAny
import HandS.IsInst
import HandS.Style
import HandS.TupLe
import HandS.Text
import HandS.Iter
import HandS.Zip
import HandS.Rev
import HandS.RaiseMore
import HandS.Comp
import KE.SortData
import KE.DataCmp
import HandS.SortInts
import HandS.Deep
import HandS.EndBits
import KE.KExcSuper
import HandS.ExcInit
import HandS.ExcField
import KE.KExcIs
import PyProof.ReprRoads
import PyProof.ReprLen
import PySem.Challenge.RW_stepsworn_k03_spines_and_calls
set_option Elab.async false
set_option linter.all false
set_option maxRecDepth 100000
noncomputable section
namespace Dv
open PySem L2
structure Room (k : Nat) (A : Around) : Prop where
  rm : L2.Room k A
  gd : A.guards = some []
theorem Room.un {k : Nat} {A : Around} (r : Room k A) : A.units + 16 * k + 200 < cLine := r.rm.un
theorem Room.into {k : Nat} {A : Around} (r : Room (k + 1) A) (env : Env) : Room k (A.deeper env) := ⟨r.rm.deeper env, r.gd⟩
inductive D where
  | non
  | bl (b : Bool)
  | int (i : Int)
  | str (x : Str)
  | tup (l : List D)
  | lst (l : List D)
  | dct (ks vs : List D)
  | exc (c : Str) (v : D)
  | ty (n : String)
  | cls (c : Str)
  | scr (l : List D)
  deriving Inhabited
inductive Slot where
  | un
  | val (d : D)
  | own (d : D)
  | par (d : D)
  | pfr (d : D)
  deriving Inhabited
abbrev Sto := List Slot
inductive Opd where
  | val (d : D)
  | own (d : D)
  | slot (i : Nat)
  deriving Inhabited
inductive R (α : Type) where
  | ok (a : α) (s : Sto)
  | exc (c : Str) (v : D) (s : Sto)
  | bad
inductive Out where
  | nxt (s : Sto)
  | ret (o : Opd) (s : Sto)
  | brk (s : Sto)
  | cnt (s : Sto)
  | exc (c : Str) (v : D) (s : Sto)
  | bad
abbrev E := Sto → R Opd
abbrev T := Sto → R Bool
abbrev S := Sto → Out
def kD : Key → D
  | .inl i => .int i
  | .inr x => .str x
mutual
def Rep (K : PySem.W.Frag) (Pr : Hp) : D → V → Prop
  | .non, v => v = V.non
  | .bl b, v => v = V.bl b
  | .int i, v => v = V.int i
  | .str x, v => PyData.strOk x = true ∧ v = V.str x
  | .tup l, v => ∃ a xs, v = V.ref a ∧ SqT K Pr a xs ∧ Reps K Pr l xs
  | .lst l, v => ∃ a xs, v = V.ref a ∧ Rd Pr a (.lst xs) ∧ Reps K Pr l xs
  | .scr l, v => ∃ a xs, v = V.ref a ∧ SqL K Pr a xs ∧ Reps K Pr l xs
  | .dct ks vs, v => ∃ a, v = V.ref a ∧
      ((∃ kvs : List (Key × V), Pr a = some (.dK kvs) ∧ ks = kvs.map (fun p => kD p.1) ∧ Reps K Pr vs (kvs.map (·.2))) ∨
       (∃ kvs : List (List Key × V), Pr a = some (.dT kvs) ∧ ks = kvs.map (fun p => D.tup (p.1.map kD)) ∧ Reps K Pr vs (kvs.map (·.2))))
  | .exc c w, v => ∃ a C dx x, v = V.ref a ∧ PySem.W.nsIn K mainGlobals c = some (some (.ref C)) ∧
      Pr a = some (.ext fun h => ∃ o fv, h.get? a = some o ∧ o.cls = .ref C ∧ o.dict = some dx ∧ o.data = .fields fv) ∧ Pr dx = some (.xd [("value", x)]) ∧ Rep K Pr w x
  | .ty n, v => v = V.ty n
  | .cls c, v => ∃ C, v = V.ref C ∧ PySem.W.nsIn K mainGlobals c = some (some (.ref C))
def Reps (K : PySem.W.Frag) (Pr : Hp) : List D → List V → Prop
  | [], xs => xs = []
  | d :: l, xs => ∃ x r, xs = x :: r ∧ Rep K Pr d x ∧ Reps K Pr l r
end
def Le (A B : Hp) : Prop := ∀ a o, A a = some o → B a = some o
theorem Le.refl (A : Hp) : Le A A := fun _ _ h => h
theorem Le.trans {A B C : Hp} (h : Le A B) (k : Le B C) : Le A C := fun a o q => k a o (h a o q)
theorem Le.upd {A : Hp} {p : Addr} {o : HO} (h : A p = none) : Le A (upd A p o) := fun a u q => by
  rw [upd_ne (ne_of_none q h)]; exact q
theorem Le.sqT {K : PySem.W.Frag} {A B : Hp} {a : Addr} {xs : List V} (h : Le A B) (q : SqT K A a xs) : SqT K B a xs := by
  rcases q with (q | ⟨o, q⟩) | q
  · exact .inl (.inl (h _ _ q))
  · exact .inl (.inr ⟨o, h _ _ q⟩)
  · exact .inr q
theorem Le.rd {A B : Hp} {a : Addr} {o : HO} (h : Le A B) (q : Rd A a o) : Rd B a o := by
  rcases q with q | ⟨u, q⟩
  · exact .inl (h _ _ q)
  · exact .inr ⟨u, h _ _ q⟩
theorem Le.sqL {K : PySem.W.Frag} {A B : Hp} {a : Addr} {xs : List V} (h : Le A B) (q : SqL K A a xs) : SqL K B a xs := by
  rcases q with q | q
  · exact .inl (h.rd q)
  · exact .inr q
mutual
theorem Rep.mono {K : PySem.W.Frag} {A B : Hp} (h : Le A B) : ∀ (d : D) {v : V}, Rep K A d v → Rep K B d v
  | .non, _, q => by simpa [Rep] using q
  | .bl _, _, q => by simpa [Rep] using q
  | .int _, _, q => by simpa [Rep] using q
  | .str _, _, q => by simpa [Rep] using q
  | .tup l, _, q => by
    unfold Rep at q ⊢
    obtain ⟨a, xs, e, s, r⟩ := q
    exact ⟨a, xs, e, h.sqT s, Reps.mono h l r⟩
  | .lst l, _, q => by
    unfold Rep at q ⊢
    obtain ⟨a, xs, e, s, r⟩ := q
    exact ⟨a, xs, e, h.rd s, Reps.mono h l r⟩
  | .scr l, _, q => by
    unfold Rep at q ⊢
    obtain ⟨a, xs, e, s, r⟩ := q
    exact ⟨a, xs, e, h.sqL s, Reps.mono h l r⟩
  | .dct ks vs, _, q => by
    unfold Rep at q ⊢
    obtain ⟨a, e, ⟨kvs, s, ek, r⟩ | ⟨kvs, s, ek, r⟩⟩ := q
    · exact ⟨a, e, .inl ⟨kvs, h _ _ s, ek, Reps.mono h vs r⟩⟩
    · exact ⟨a, e, .inr ⟨kvs, h _ _ s, ek, Reps.mono h vs r⟩⟩
  | .exc c w, _, q => by
    unfold Rep at q ⊢
    obtain ⟨a, C, dx, x, e, n, s1, s2, r⟩ := q
    exact ⟨a, C, dx, x, e, n, h _ _ s1, h _ _ s2, Rep.mono h w r⟩
  | .ty _, _, q => by simpa [Rep] using q
  | .cls _, _, q => by unfold Rep at q ⊢; exact q
theorem Reps.mono {K : PySem.W.Frag} {A B : Hp} (h : Le A B) : ∀ (l : List D) {xs : List V}, Reps K A l xs → Reps K B l xs
  | [], _, q => by simpa [Reps] using q
  | d :: l, _, q => by
    unfold Reps at q ⊢
    obtain ⟨x, r, e, q1, q2⟩ := q
    exact ⟨x, r, e, Rep.mono h d q1, Reps.mono h l q2⟩
end
section
variable {K : PySem.W.Frag} {Pr : Hp}
theorem Reps.nil : Reps K Pr [] [] := by unfold Reps; rfl
theorem Reps.cons {d : D} {l : List D} {x : V} {r : List V} (h : Rep K Pr d x) (q : Reps K Pr l r) : Reps K Pr (d :: l) (x :: r) := by
  unfold Reps; exact ⟨x, r, rfl, h, q⟩
theorem Reps.length : ∀ {l : List D} {xs : List V}, Reps K Pr l xs → xs.length = l.length
  | [], xs, q => by unfold Reps at q; rw [q]; rfl
  | d :: l, xs, q => by
    unfold Reps at q
    obtain ⟨x, r, rfl, _, q2⟩ := q
    simp [Reps.length q2]
theorem Reps.get : ∀ {l : List D} {xs : List V} {i : Nat} {d : D}, Reps K Pr l xs → l[i]? = some d → ∃ x, xs[i]? = some x ∧ Rep K Pr d x
  | [], _, _, _, _, e => by simp at e
  | c :: l, xs, 0, d, q, e => by
    unfold Reps at q
    obtain ⟨x, r, rfl, q1, _⟩ := q
    simp at e; subst e
    exact ⟨x, by simp, q1⟩
  | c :: l, xs, i + 1, d, q, e => by
    unfold Reps at q
    obtain ⟨x, r, rfl, _, q2⟩ := q
    obtain ⟨y, h1, h2⟩ := Reps.get q2 (by simpa using e)
    exact ⟨y, by simpa using h1, h2⟩
theorem Reps.append : ∀ {l m : List D} {xs ys : List V}, Reps K Pr l xs → Reps K Pr m ys → Reps K Pr (l ++ m) (xs ++ ys)
  | [], m, xs, ys, q, r => by unfold Reps at q; subst q; simpa using r
  | d :: l, m, xs, ys, q, r => by
    unfold Reps at q
    obtain ⟨x, t, rfl, q1, q2⟩ := q
    exact Reps.cons q1 (Reps.append q2 r)
theorem Reps.one {d : D} {x : V} (h : Rep K Pr d x) : Reps K Pr [d] [x] := .cons h .nil
theorem Reps.take : ∀ {l : List D} {xs : List V} (n : Nat), Reps K Pr l xs → Reps K Pr (l.take n) (xs.take n)
  | [], xs, n, q => by unfold Reps at q; subst q; simpa using Reps.nil
  | d :: l, xs, 0, q => by simpa using Reps.nil
  | d :: l, xs, n + 1, q => by
    unfold Reps at q
    obtain ⟨x, t, rfl, q1, q2⟩ := q
    exact Reps.cons q1 (Reps.take n q2)
theorem Reps.drop : ∀ {l : List D} {xs : List V} (n : Nat), Reps K Pr l xs → Reps K Pr (l.drop n) (xs.drop n)
  | [], xs, n, q => by unfold Reps at q; subst q; simpa using Reps.nil
  | d :: l, xs, 0, q => by simpa using q
  | d :: l, xs, n + 1, q => by
    unfold Reps at q
    obtain ⟨x, t, rfl, q1, q2⟩ := q
    simpa using Reps.drop n q2
theorem Reps.reverse : ∀ {l : List D} {xs : List V}, Reps K Pr l xs → Reps K Pr l.reverse xs.reverse
  | [], xs, q => by unfold Reps at q; subst q; simpa using Reps.nil
  | d :: l, xs, q => by
    unfold Reps at q
    obtain ⟨x, t, rfl, q1, q2⟩ := q
    rw [List.reverse_cons, List.reverse_cons]
    exact Reps.append (Reps.reverse q2) (Reps.one q1)
theorem Reps.set : ∀ {l : List D} {xs : List V} {d : D} {x : V} (i : Nat), Reps K Pr l xs → Rep K Pr d x → Reps K Pr (l.set i d) (xs.set i x)
  | [], xs, d, x, i, q, r => by unfold Reps at q; subst q; simpa using Reps.nil
  | c :: l, xs, d, x, 0, q, r => by
    unfold Reps at q
    obtain ⟨y, t, rfl, q1, q2⟩ := q
    exact Reps.cons r q2
  | c :: l, xs, d, x, i + 1, q, r => by
    unfold Reps at q
    obtain ⟨y, t, rfl, q1, q2⟩ := q
    exact Reps.cons q1 (Reps.set i q2 r)
theorem Reps.of_map {α : Type} {f : α → D} {g : α → V} (h : ∀ a, Rep K Pr (f a) (g a)) : ∀ l : List α, Reps K Pr (l.map f) (l.map g)
  | [] => Reps.nil
  | a :: l => Reps.cons (h a) (Reps.of_map h l)
theorem Reps.ints_inv : ∀ {ns : List Int} {xs : List V}, Reps K Pr (ns.map D.int) xs → xs = ns.map V.int
  | [], xs, q => by
    have q : Reps K Pr [] xs := q
    unfold Reps at q; simpa using q
  | n :: ns, xs, q => by
    have q : Reps K Pr (D.int n :: ns.map D.int) xs := q
    unfold Reps at q
    obtain ⟨x, r, rfl, q1, q2⟩ := q
    unfold Rep at q1
    rw [q1, Reps.ints_inv q2]; rfl
end
structure Fr0 where
  H0 : Hp
  P0 : Hp
  bs : Nat → Option Addr
  lk : List Addr
def Fr0.Lent (Φ : Fr0) (a : Addr) : Prop := ∃ i, Φ.bs i = some a
def isDict : HO → Prop
  | .dK _ => True
  | .dT _ => True
  | _ => False
def At (lk : List Addr) (H : Hp) (a : Addr) (o : HO) : Prop := H a = some o ∨ (a ∈ lk ∧ isDict o ∧ ∃ ob, H a = some (.frz ob o))
def Cont (K : PySem.W.Frag) (Pr : Hp) : HO → D → Prop
  | .lst xs, .lst l => Reps K Pr l xs
  | .dK kvs, .dct ks vs => ks = kvs.map (fun p => kD p.1) ∧ Reps K Pr vs (kvs.map (·.2))
  | .dT kvs, .dct ks vs => ks = kvs.map (fun p => D.tup (p.1.map kD)) ∧ Reps K Pr vs (kvs.map (·.2))
  | _, _ => False
theorem Cont.mono {K : PySem.W.Frag} {A B : Hp} (h : Le A B) : ∀ {o : HO} {d : D}, Cont K A o d → Cont K B o d := by
  intro o d q
  unfold Cont at q ⊢
  split at q
  · exact Reps.mono h _ q
  · exact ⟨q.1, Reps.mono h _ q.2⟩
  · exact ⟨q.1, Reps.mono h _ q.2⟩
  · exact q.elim
def SlotOk (K : PySem.W.Frag) (Φ : Fr0) (Pr H : Hp) (i : Nat) : Slot → Option V → Prop
  | .un, _ => True
  | .val d, ov => ∃ v, ov = some v ∧ Rep K Pr d v
  | .own d, ov => ∃ a o, ov = some (.ref a) ∧ Pr a = none ∧ Φ.H0 a = none ∧ H a = some o ∧ Cont K Pr o d
  | .par d, ov => ∃ a o, ov = some (.ref a) ∧ Pr a = none ∧ Φ.bs i = some a ∧ H a = some o ∧ Cont K Pr o d
  | .pfr d, ov => ∃ a, ov = some (.ref a) ∧ Φ.bs i = some a ∧ Rep K Pr d (.ref a)
def Slot.mut : Slot → Bool
  | .own _ => true
  | .par _ => true
  | _ => false
structure Sim (K : PySem.W.Frag) (Φ : Fr0) (Pr : Hp) (st : Sto) (σ : St) (H : Hp) : Prop where
  len : st.length = σ.length
  inn : ∀ a o, Pr a = some o → At Φ.lk H a o
  le0 : Le Φ.P0 Pr
  slots : ∀ (i : Nat) s, st[i]? = some s → ∃ ov, σ[i]? = some ov ∧ SlotOk K Φ Pr H i s ov
  apart : ∀ (i j : Nat) s t a, st[i]? = some s → st[j]? = some t → s.mut = true → t.mut = true → σ[i]? = some (some (V.ref a)) → σ[j]? = some (some (V.ref a)) → i = j
  frame : ∀ a o, Φ.H0 a = some o → ¬ Φ.Lent a → At Φ.lk H a o
  newp : ∀ a o, Pr a = some o → Φ.P0 a = some o ∨ Φ.H0 a = none ∨ Φ.Lent a
  locks : ∀ a ob o, H a = some (.frz ob o) → Φ.H0 a = some (.frz ob o) ∨ a ∈ Φ.lk
  lkin : ∀ a ∈ Φ.lk, ∃ o, Pr a = some o
  lent : ∀ a, Φ.Lent a → ∃ o, H a = some o
def RepO (K : PySem.W.Frag) (Φ : Fr0) (Pr H : Hp) (st : Sto) (σ : St) : Opd → V → Prop
  | .val d, v => Rep K Pr d v
  | .own d, v => ∃ a o, v = .ref a ∧ Pr a = none ∧ Φ.H0 a = none ∧ H a = some o ∧ Cont K Pr o d ∧ ∀ (i : Nat) s, st[i]? = some s → s.mut = true → σ[i]? ≠ some (some (V.ref a))
  | .slot i, v => σ[i]? = some (some v) ∧ ∃ s, st[i]? = some s ∧ s.mut = true
end Dv
namespace Dv
open PySem L2
section
variable {K : PySem.W.Frag} {Φ : Fr0} {Pr H : Hp} {st : Sto} {σ : St}
theorem At.there {lk : List Addr} {a : Addr} {o : HO} (h : At lk H a o) : ∃ u, H a = some u := by
  rcases h with h | ⟨_, _, ob, h⟩
  · exact ⟨_, h⟩
  · exact ⟨_, h⟩
theorem At.upd {lk : List Addr} {a p : Addr} {o u : HO} (h : At lk H a o) (hp : a ≠ p) : At lk (upd H p u) a o := by
  rcases h with h | ⟨m, d, ob, h⟩
  · exact .inl (by rw [upd_ne hp]; exact h)
  · exact .inr ⟨m, d, ob, by rw [upd_ne hp]; exact h⟩
theorem At.lst {lk : List Addr} {a : Addr} {xs : List V} (h : At lk H a (.lst xs)) : H a = some (.lst xs) := by
  rcases h with h | ⟨_, d, _⟩
  · exact h
  · exact d.elim
theorem At.tup {lk : List Addr} {a : Addr} {xs : List V} (h : At lk H a (.tup xs)) : H a = some (.tup xs) := by
  rcases h with h | ⟨_, d, _⟩
  · exact h
  · exact d.elim
theorem At.frz {lk : List Addr} {a : Addr} {ob : Obj} {o : HO} (h : At lk H a (.frz ob o)) : H a = some (.frz ob o) := by
  rcases h with h | ⟨_, d, _⟩
  · exact h
  · exact d.elim
theorem At.rd {lk : List Addr} {a : Addr} {o : HO} (h : At lk H a o) : Rd H a o := by
  rcases h with h | ⟨_, _, ob, h⟩
  · exact .inl h
  · exact .inr ⟨ob, h⟩
theorem Sim.sqT (S : Sim K Φ Pr st σ H) {a : Addr} {xs : List V} (q : SqT K Pr a xs) : SqT K H a xs := by
  rcases q with (q | ⟨o, q⟩) | q
  · exact .inl (.inl (S.inn _ _ q).tup)
  · exact .inl (.inr ⟨o, (S.inn _ _ q).frz⟩)
  · exact .inr q
theorem Sim.rdL (S : Sim K Φ Pr st σ H) {a : Addr} {xs : List V} (q : Rd Pr a (.lst xs)) : Rd H a (.lst xs) := by
  rcases q with q | ⟨o, q⟩
  · exact .inl (S.inn _ _ q).lst
  · exact .inr ⟨o, (S.inn _ _ q).frz⟩
theorem Sim.sqL (S : Sim K Φ Pr st σ H) {a : Addr} {xs : List V} (q : SqL K Pr a xs) : SqL K H a xs := by
  rcases q with q | q
  · exact .inl (S.rdL q)
  · exact .inr q
theorem Sim.fresh (S : Sim K Φ Pr st σ H) {p : Addr} (h : H p = none) : Pr p = none ∧ Φ.H0 p = none ∧ ¬ Φ.Lent p := by
  have hl : ¬ Φ.Lent p := fun q => by
    obtain ⟨o, e⟩ := S.lent p q
    rw [h] at e; cases e
  refine ⟨?_, ?_, hl⟩
  · cases e : Pr p with
    | none => rfl
    | some o =>
      obtain ⟨u, q⟩ := (S.inn p o e).there
      rw [h] at q; cases q
  · cases e : Φ.H0 p with
    | none => rfl
    | some o =>
      obtain ⟨u, q⟩ := (S.frame p o e hl).there
      rw [h] at q; cases q
theorem SlotOk.heap {H' : Hp} {i : Nat} {s : Slot} {ov : Option V} (h : SlotOk K Φ Pr H i s ov) (k : ∀ a o, ov = some (.ref a) → s.mut = true → H a = some o → H' a = some o) : SlotOk K Φ Pr H' i s ov := by
  cases s with
  | un => trivial
  | val d => exact h
  | own d =>
    obtain ⟨a, o, e, h1, h2, h3, h4⟩ := h
    exact ⟨a, o, e, h1, h2, k a o e rfl h3, h4⟩
  | par d =>
    obtain ⟨a, o, e, h1, h2, h3, h4⟩ := h
    exact ⟨a, o, e, h1, h2, k a o e rfl h3, h4⟩
  | pfr d => exact h
theorem SlotOk.frozen {Pr' : Hp} {i : Nat} {s : Slot} {ov : Option V} (h : SlotOk K Φ Pr H i s ov) (le : Le Pr Pr') (k : ∀ a, ov = some (.ref a) → s.mut = true → Pr a = none → Pr' a = none) : SlotOk K Φ Pr' H i s ov := by
  cases s with
  | un => trivial
  | val d =>
    obtain ⟨v, e, r⟩ := h
    exact ⟨v, e, r.mono le⟩
  | own d =>
    obtain ⟨a, o, e, h1, h2, h3, h4⟩ := h
    exact ⟨a, o, e, k a e rfl h1, h2, h3, h4.mono le⟩
  | par d =>
    obtain ⟨a, o, e, h1, h2, h3, h4⟩ := h
    exact ⟨a, o, e, k a e rfl h1, h2, h3, h4.mono le⟩
  | pfr d =>
    obtain ⟨a, e, h1, h2⟩ := h
    exact ⟨a, e, h1, h2.mono le⟩
theorem SlotOk.there {i : Nat} {s : Slot} {a : Addr} (h : SlotOk K Φ Pr H i s (some (.ref a))) (m : s.mut = true) : Pr a = none ∧ (∃ o, H a = some o) ∧ (Φ.H0 a = none ∨ Φ.Lent a) := by
  cases s with
  | un => cases m
  | val d => cases m
  | own d =>
    obtain ⟨b, o, e, h1, h2, h3, h4⟩ := h
    cases e
    exact ⟨h1, ⟨o, h3⟩, .inl h2⟩
  | par d =>
    obtain ⟨b, o, e, h1, h2, h3, h4⟩ := h
    cases e
    exact ⟨h1, ⟨o, h3⟩, .inr ⟨_, h2⟩⟩
  | pfr d => cases m
theorem Sim.alloc (S : Sim K Φ Pr st σ H) {p : Addr} {o : HO} (hp : H p = none) (hf : ∀ ob u, o ≠ .frz ob u) : Sim K Φ Pr st σ (upd H p o) where
  len := S.len
  inn := fun a u q => (S.inn a u q).upd fun e => by
    have := (S.fresh hp).1
    rw [← e, q] at this; cases this
  le0 := S.le0
  slots := fun i s e => by
    obtain ⟨ov, h1, h2⟩ := S.slots i s e
    refine ⟨ov, h1, h2.heap fun a u _ _ q => ?_⟩
    rw [upd_ne (ne_of_none q hp)]; exact q
  apart := S.apart
  frame := fun a u q n => (S.frame a u q n).upd fun e => by
    have := (S.fresh hp).2.1
    rw [← e, q] at this; cases this
  newp := S.newp
  locks := fun a ob u q => by
    by_cases e : a = p
    · subst e
      rw [upd_same] at q
      exact absurd (Option.some.inj q) (hf ob u)
    · rw [upd_ne e] at q
      exact S.locks a ob u q
  lkin := S.lkin
  lent := fun a q => by
    obtain ⟨u, e⟩ := S.lent a q
    exact ⟨u, by rw [upd_ne (ne_of_none e hp)]; exact e⟩
theorem Sim.freeze (S : Sim K Φ Pr st σ H) {p : Addr} {o : HO} (hp : H p = some o) (h0 : Φ.H0 p = none) (hn : Pr p = none) (hf : ∀ (i : Nat) s, st[i]? = some s → s.mut = true → σ[i]? ≠ some (some (V.ref p))) :
    Sim K Φ (upd Pr p o) st σ H where
  len := S.len
  inn := fun a u q => by
    by_cases e : a = p
    · subst e; rw [upd_same] at q; cases q; exact .inl hp
    · rw [upd_ne e] at q; exact S.inn a u q
  le0 := S.le0.trans (Le.upd hn)
  slots := fun i s e => by
    obtain ⟨ov, h1, h2⟩ := S.slots i s e
    refine ⟨ov, h1, h2.frozen (Le.upd hn) fun a ea m q => ?_⟩
    rw [upd_ne fun z => hf i s e m (by rw [h1, ea, z])]; exact q
  apart := S.apart
  frame := S.frame
  newp := fun a u q => by
    by_cases e : a = p
    · subst e; exact .inr (.inl h0)
    · rw [upd_ne e] at q; exact S.newp a u q
  locks := S.locks
  lkin := fun a m => by
    obtain ⟨u, q⟩ := S.lkin a m
    exact ⟨u, Le.upd hn _ _ q⟩
  lent := S.lent
theorem Sim.laid (S : Sim K Φ Pr st σ H) {p : Addr} {o : HO} (hp : H p = none) (hf : ∀ ob u, o ≠ .frz ob u) : Sim K Φ (upd Pr p o) st σ (upd H p o) :=
  (S.alloc hp hf).freeze upd_same (S.fresh hp).2.1 (S.fresh hp).1 fun i s e m z => by
    obtain ⟨ov, h1, h2⟩ := S.slots i s e
    rw [h1] at z; cases z
    obtain ⟨_, ⟨u, q⟩, _⟩ := h2.there m
    rw [hp] at q; cases q
theorem cont_rep {a : Addr} {o : HO} {d : D} (h : Cont K Pr o d) (e : Pr a = some o) : Rep K Pr d (.ref a) := by
  unfold Cont at h
  split at h
  · unfold Rep; exact ⟨a, _, rfl, .inl e, h⟩
  · unfold Rep; exact ⟨a, rfl, .inl ⟨_, e, h.1, h.2⟩⟩
  · unfold Rep; exact ⟨a, rfl, .inr ⟨_, e, h.1, h.2⟩⟩
  · exact h.elim
theorem Cont.nofrz {o : HO} {d : D} (h : Cont K Pr o d) : ∀ ob u, o ≠ .frz ob u := by
  intro ob u e
  subst e
  unfold Cont at h
  exact h
theorem Sim.get (S : Sim K Φ Pr st σ H) {i : Nat} {s : Slot} (e : st[i]? = some s) : ∃ ov, σ[i]? = some ov ∧ SlotOk K Φ Pr H i s ov := S.slots i s e
theorem Sim.mutAt (S : Sim K Φ Pr st σ H) {i : Nat} {s : Slot} (e : st[i]? = some s) (m : s.mut = true) : ∃ a, σ[i]? = some (some (V.ref a)) ∧ SlotOk K Φ Pr H i s (some (.ref a)) := by
  obtain ⟨ov, h1, h2⟩ := S.slots i s e
  cases s with
  | un => cases m
  | val d => cases m
  | own d => obtain ⟨a, o, rfl, q⟩ := id h2; exact ⟨a, h1, h2⟩
  | par d => obtain ⟨a, o, rfl, q⟩ := id h2; exact ⟨a, h1, h2⟩
  | pfr d => cases m
def Slot.fz : Slot → Slot
  | .own d => .val d
  | .par d => .pfr d
  | s => s
def Slot.dat : Slot → Option D
  | .un => none
  | .val d => some d
  | .own d => some d
  | .par d => some d
  | .pfr d => some d
theorem Slot.fz_mut (s : Slot) : s.fz.mut = false := by cases s <;> rfl
theorem Sim.fzSlot (S : Sim K Φ Pr st σ H) {i : Nat} {s : Slot} {d : D} (e : st[i]? = some s) (hd : s.dat = some d) :
    ∃ Pr' v, Le Pr Pr' ∧ Sim K Φ Pr' (st.set i s.fz) σ H ∧ σ[i]? = some (some v) ∧ Rep K Pr' d v ∧ (∀ a o, Pr' a = some o → Pr a = some o ∨ (v = .ref a ∧ s.mut = true)) := by
  have hi : i < st.length := (List.getElem?_eq_some_iff.mp e).1
  have same : s.mut = false → st.set i s.fz = st := fun m => by
    have : s.fz = s := by cases s <;> first | rfl | cases m
    rw [this]
    obtain ⟨h, rfl⟩ := List.getElem?_eq_some_iff.mp e
    exact List.set_getElem_self h
  cases hm : s.mut with
  | false =>
    rw [same hm]
    obtain ⟨ov, h1, h2⟩ := S.slots i s e
    cases s with
    | un => cases hd
    | val d' =>
      cases hd
      obtain ⟨v, rfl, r⟩ := h2
      exact ⟨Pr, v, Le.refl _, S, h1, r, fun a o q => .inl q⟩
    | own d' => cases hm
    | par d' => cases hm
    | pfr d' =>
      cases hd
      obtain ⟨a, rfl, _, r⟩ := h2
      exact ⟨Pr, .ref a, Le.refl _, S, h1, r, fun a o q => .inl q⟩
  | true =>
    obtain ⟨a, h1, h2⟩ := S.mutAt e hm
    obtain ⟨hn, ⟨o, ho⟩, hl⟩ := h2.there hm
    have hc : Cont K Pr o d := by
      cases s with
      | own d' =>
        cases hd
        obtain ⟨b, u, eb, _, _, hu, c⟩ := h2
        cases eb
        rw [ho] at hu; cases hu; exact c
      | par d' =>
        cases hd
        obtain ⟨b, u, eb, _, _, hu, c⟩ := h2
        cases eb
        rw [ho] at hu; cases hu; exact c
      | un => cases hm
      | val _ => cases hm
      | pfr _ => cases hm
    have le : Le Pr (upd Pr a o) := Le.upd hn
    have hr : Rep K (upd Pr a o) d (.ref a) := cont_rep (hc.mono le) upd_same
    refine ⟨upd Pr a o, .ref a, le, ⟨by simpa using S.len, fun b u q => ?_, S.le0.trans le, fun j t q => ?_, fun j k t t' b q1 q2 m1 m2 s1 s2 => ?_, S.frame, fun b u q => ?_, S.locks, fun b m => (S.lkin b m).imp fun u q => le _ _ q, S.lent⟩, h1, hr, fun b u q => ?_⟩
    · by_cases eb : b = a
      · subst eb; rw [upd_same] at q; cases q; exact .inl ho
      · rw [upd_ne eb] at q; exact S.inn b u q
    · by_cases ej : j = i
      · subst ej
        rw [List.getElem?_set_self hi] at q
        cases q
        refine ⟨_, h1, ?_⟩
        cases s with
        | own d' => cases hd; exact ⟨_, rfl, hr⟩
        | par d' =>
          cases hd
          obtain ⟨b, u, eb, _, hb, _⟩ := h2
          cases eb
          exact ⟨a, rfl, hb, hr⟩
        | un => cases hm
        | val _ => cases hm
        | pfr _ => cases hm
      · rw [List.getElem?_set_ne (Ne.symm ej)] at q
        obtain ⟨ov, h3, h4⟩ := S.slots j t q
        refine ⟨ov, h3, h4.frozen le fun b eb m z => ?_⟩
        rw [upd_ne fun y => ej (S.apart j i t s a q e m hm (by rw [h3, eb, y]) h1)]; exact z
    · by_cases ej : j = i
      · subst ej
        rw [List.getElem?_set_self hi] at q1
        cases q1
        rw [Slot.fz_mut] at m1; cases m1
      · rw [List.getElem?_set_ne (Ne.symm ej)] at q1
        by_cases ek : k = i
        · subst ek
          rw [List.getElem?_set_self hi] at q2
          cases q2
          rw [Slot.fz_mut] at m2; cases m2
        · rw [List.getElem?_set_ne (Ne.symm ek)] at q2
          exact S.apart j k t t' b q1 q2 m1 m2 s1 s2
    · by_cases eb : b = a
      · subst eb
        rcases hl with hl | hl
        · exact .inr (.inl hl)
        · exact .inr (.inr hl)
      · rw [upd_ne eb] at q; exact S.newp b u q
    · by_cases eb : b = a
      · subst eb; exact .inr ⟨rfl, rfl⟩
      · rw [upd_ne eb] at q; exact .inl q
def Slot.put (d : D) : Slot → Slot
  | .own _ => .own d
  | .par _ => .par d
  | s => s
theorem Slot.put_mut (d : D) (s : Slot) : (s.put d).mut = s.mut := by cases s <;> rfl
theorem Sim.change (S : Sim K Φ Pr st σ H) {i : Nat} {s : Slot} {a : Addr} {o : HO} {d : D} (e : st[i]? = some s) (m : s.mut = true) (ha : σ[i]? = some (some (V.ref a))) (hc : Cont K Pr o d) :
    Sim K Φ Pr (st.set i (s.put d)) σ (upd H a o) := by
  have hi : i < st.length := (List.getElem?_eq_some_iff.mp e).1
  obtain ⟨ov, h1, h2⟩ := S.slots i s e
  rw [ha] at h1; cases h1
  obtain ⟨hn, ⟨u, hu⟩, hl⟩ := h2.there m
  refine ⟨by simpa using S.len, fun b w q => (S.inn b w q).upd fun z => ?_, S.le0, fun j t q => ?_, fun j k t t' b q1 q2 m1 m2 s1 s2 => ?_, fun b w q n => (S.frame b w q n).upd fun z => ?_, S.newp, fun b ob w q => ?_, S.lkin, fun b q => ?_⟩
  · rw [z, hn] at q; cases q
  · by_cases ej : j = i
    · subst ej
      rw [List.getElem?_set_self hi] at q
      cases q
      refine ⟨_, ha, ?_⟩
      cases s with
      | own d' =>
        obtain ⟨b, w, eb, p1, p2, _, _⟩ := h2
        cases eb
        exact ⟨a, o, rfl, p1, p2, upd_same, hc⟩
      | par d' =>
        obtain ⟨b, w, eb, p1, p2, _, _⟩ := h2
        cases eb
        exact ⟨a, o, rfl, p1, p2, upd_same, hc⟩
      | un => cases m
      | val _ => cases m
      | pfr _ => cases m
    · rw [List.getElem?_set_ne (Ne.symm ej)] at q
      obtain ⟨ov, h3, h4⟩ := S.slots j t q
      refine ⟨ov, h3, h4.heap fun b w eb mt hb => ?_⟩
      rw [upd_ne fun y => ej (S.apart j i t s a q e mt m (by rw [h3, eb, y]) ha)]; exact hb
  · have back : ∀ {n : Nat} {r : Slot}, (st.set i (s.put d))[n]? = some r → r.mut = true → ∃ r', st[n]? = some r' ∧ r'.mut = true := fun {n r} q mr => by
      by_cases en : n = i
      · subst en
        exact ⟨s, e, m⟩
      · rw [List.getElem?_set_ne (Ne.symm en)] at q
        exact ⟨r, q, mr⟩
    obtain ⟨r1, b1, b2⟩ := back q1 m1
    obtain ⟨r2, b3, b4⟩ := back q2 m2
    exact S.apart j k r1 r2 b b1 b3 b2 b4 s1 s2
  · rw [z] at q n
    rcases hl with hl | hl
    · rw [hl] at q; cases q
    · exact n hl
  · by_cases eb : b = a
    · subst eb; rw [upd_same] at q
      exact absurd (Option.some.inj q) (hc.nofrz ob w)
    · rw [upd_ne eb] at q; exact S.locks b ob w q
  · by_cases eb : b = a
    · subst eb; exact ⟨o, upd_same⟩
    · obtain ⟨w, z⟩ := S.lent b q
      exact ⟨w, by rw [upd_ne eb]; exact z⟩
def Slot.free : Slot → Bool
  | .par _ => false
  | .pfr _ => false
  | _ => true
theorem Sim.assign (S : Sim K Φ Pr st σ H) {i : Nat} {s t : Slot} {v : V} (e : st[i]? = some s) (ok : SlotOk K Φ Pr H i t (some v))
    (hap : t.mut = true → ∀ (j : Nat) r, st[j]? = some r → r.mut = true → σ[j]? ≠ some (some v)) : Sim K Φ Pr (st.set i t) (σ.set i (some v)) H := by
  have hi : i < st.length := (List.getElem?_eq_some_iff.mp e).1
  have hs : i < σ.length := by rw [← S.len]; exact hi
  refine ⟨by simpa using S.len, S.inn, S.le0, fun j r q => ?_, fun j k r r' b q1 q2 m1 m2 s1 s2 => ?_, S.frame, S.newp, S.locks, S.lkin, S.lent⟩
  · by_cases ej : j = i
    · subst ej
      rw [List.getElem?_set_self hi] at q; cases q
      exact ⟨_, List.getElem?_set_self hs, ok⟩
    · rw [List.getElem?_set_ne (Ne.symm ej)] at q
      rw [List.getElem?_set_ne (Ne.symm ej)]
      exact S.slots j r q
  · by_cases ej : j = i
    · subst ej
      by_cases ek : k = j
      · exact ek.symm
      · rw [List.getElem?_set_self hi] at q1; cases q1
        rw [List.getElem?_set_self hs] at s1
        rw [List.getElem?_set_ne (Ne.symm ek)] at q2 s2
        cases s1
        exact absurd s2 (hap m1 k r' q2 m2)
    · rw [List.getElem?_set_ne (Ne.symm ej)] at q1 s1
      by_cases ek : k = i
      · subst ek
        rw [List.getElem?_set_self hi] at q2; cases q2
        rw [List.getElem?_set_self hs] at s2
        cases s2
        exact absurd s1 (hap m2 j r q1 m1)
      · rw [List.getElem?_set_ne (Ne.symm ek)] at q2 s2
        exact S.apart j k r r' b q1 q2 m1 m2 s1 s2
end
end Dv
namespace Dv
open PySem L2
def R.bind {α β : Type} (r : R α) (f : α → Sto → R β) : R β := match r with
  | .ok a s => f a s
  | .exc c v s => .exc c v s
  | .bad => .bad
@[simp] theorem R.bind_ok {α β : Type} (a : α) (s : Sto) (f : α → Sto → R β) : (R.ok a s).bind f = f a s := rfl
@[simp] theorem R.bind_exc {α β : Type} (c : Str) (v : D) (s : Sto) (f : α → Sto → R β) : (R.exc c v s : R α).bind f = .exc c v s := rfl
@[simp] theorem R.bind_bad {α β : Type} (f : α → Sto → R β) : (R.bad : R α).bind f = .bad := rfl
def datAt (s : Sto) (i : Nat) : Option D := match s[i]? with
  | some t => t.dat
  | none => none
def fzAt (s : Sto) (i : Nat) : R D := match s[i]? with
  | some t => match t.dat with
    | some d => .ok d (s.set i t.fz)
    | none => .bad
  | none => .bad
def peek : Opd → Sto → Option D
  | .val d, _ => some d
  | .own d, _ => some d
  | .slot i, s => datAt s i
def takeO : Opd → Sto → R D
  | .val d, s => .ok d s
  | .own d, s => .ok d s
  | .slot i, s => fzAt s i
section
variable {X : Cx} {Φ : Fr0} {W : WX} {Pr H : Hp} {st : Sto} {σ : St}
def Aft (X : Cx) (Φ : Fr0) (W : WX) (Pr : Hp) (σ : St) {α : Type} (r : R α) (k : α → Sto → Hp → Hp → Prop) : Prop := match r with
  | .ok a st' => ∀ Pr' H', Le Pr Pr' → Sim X.K Φ Pr' st' σ H' → k a st' Pr' H'
  | .exc c d st' => ∀ Pr' H' C dx v, Le Pr Pr' → Sim X.K Φ Pr' st' σ H' → PySem.W.nsIn X.K mainGlobals c = some (some (.ref C)) → Pr' dx = some (.xd [("value", v)]) → Rep X.K Pr' d v → W (.ref C) (some dx) σ H'
  | .bad => False
theorem Aft.mono {α : Type} {r : R α} {k : α → Sto → Hp → Hp → Prop} {Pr' : Hp} (h : Aft X Φ W Pr σ r k) (le : Le Pr Pr') : Aft X Φ W Pr' σ r k := by
  cases r with
  | ok a s => exact fun P' H' l s => h P' H' (le.trans l) s
  | exc c d s => exact fun P' H' C dx v l => h P' H' C dx v (le.trans l)
  | bad => exact h
theorem Aft.bind {α β : Type} {r : R α} {f : α → Sto → R β} {k : β → Sto → Hp → Hp → Prop} (h : Aft X Φ W Pr σ (r.bind f) k) : Aft X Φ W Pr σ r (fun a st1 Pr1 _ => Aft X Φ W Pr1 σ (f a st1) k) := by
  cases r with
  | ok a s => exact fun P' H' l _ => Aft.mono (show Aft X Φ W Pr σ (f a s) k from h) l
  | exc c d s => exact h
  | bad => exact h
theorem Aft.imp {α : Type} {r : R α} {k k' : α → Sto → Hp → Hp → Prop} (h : Aft X Φ W Pr σ r k) (hk : ∀ a s P' H', Le Pr P' → Sim X.K Φ P' s σ H' → k a s P' H' → k' a s P' H') : Aft X Φ W Pr σ r k' := by
  cases r with
  | ok a s => exact fun P' H' l S => hk a s P' H' l S (h P' H' l S)
  | exc c d s => exact h
  | bad => exact h
def tE (X : Cx) (Φ : Fr0) (W : WX) (f : E) : TE := fun σ H Q => ∃ Pr st, Sim X.K Φ Pr st σ H ∧ Aft X Φ W Pr σ (f st) fun o st' Pr' H' => ∀ v, RepO X.K Φ Pr' H' st' σ o v → Q v H'
def tT (X : Cx) (Φ : Fr0) (W : WX) (f : T) : TT := fun σ H Q => ∃ Pr st, Sim X.K Φ Pr st σ H ∧ Aft X Φ W Pr σ (f st) fun b _ _ H' => Q b H'
structure SE (X : Cx) (W : WX) (e : Expr) (f : E) : Prop where
  pe : ∀ Φ, PE X e (tE X Φ W f)
structure ST (X : Cx) (W : WX) (e : Expr) (f : T) : Prop where
  pt : ∀ Φ, PT X e (tT X Φ W f)
structure SW (X : Cx) (W : WX) (e : Expr) (f : T) : Prop where
  pw : ∀ Φ, PW X e (tT X Φ W f)
theorem SW.toT {e : Expr} {f : T} (h : SW X W e f) : ST X W e f := ⟨fun Φ => (h.pw Φ).pt⟩
theorem peImp {e : Expr} {t t' : TE} (h : PE X e t) (k : ∀ σ H Q, t' σ H Q → t σ H Q) : PE X e t' := ⟨fun pins s σ H Q I q => h.run pins s σ H Q I (k σ H Q q)⟩
theorem ptImp {e : Expr} {t t' : TT} (h : PT X e t) (k : ∀ σ H Q, t' σ H Q → t σ H Q) : PT X e t' := ⟨fun pins s σ H Q I q => h.run pins s σ H Q I (k σ H Q q)⟩
theorem pwImp {e : Expr} {t t' : TT} (h : PW X e t) (k : ∀ σ H Q, t' σ H Q → t σ H Q) : PW X e t' := ⟨fun wh pins s σ H Q I q => h.run wh pins s σ H Q I (k σ H Q q)⟩
def Kp (K : PySem.W.Frag) (Pr : Hp) (σ : St) : Opd → V → Prop
  | .val d, v => Rep K Pr d v
  | .own d, v => Rep K Pr d v
  | .slot i, v => σ[i]? = some (some v)
theorem Kp.mono {K : PySem.W.Frag} {Pr' : Hp} {o : Opd} {v : V} (h : Kp K Pr σ o v) (le : Le Pr Pr') : Kp K Pr' σ o v := by
  cases o with
  | val d => exact Rep.mono le d h
  | own d => exact Rep.mono le d h
  | slot i => exact h
theorem settle {K : PySem.W.Frag} {o : Opd} {v : V} (S : Sim K Φ Pr st σ H) (h : RepO K Φ Pr H st σ o v) : ∃ Pr', Le Pr Pr' ∧ Sim K Φ Pr' st σ H ∧ Kp K Pr' σ o v := by
  cases o with
  | val d => exact ⟨Pr, Le.refl _, S, h⟩
  | own d =>
    obtain ⟨a, ob, rfl, hn, h0, ha, hc, hf⟩ := h
    exact ⟨upd Pr a ob, Le.upd hn, S.freeze ha h0 hn hf, cont_rep (hc.mono (Le.upd hn)) upd_same⟩
  | slot i => exact ⟨Pr, Le.refl _, S, h.1⟩
def Pk (K : PySem.W.Frag) (Pr H : Hp) (d : D) (v : V) : Prop := Rep K Pr d v ∨ ∃ a o, v = .ref a ∧ H a = some o ∧ Cont K Pr o d
theorem pk_of {K : PySem.W.Frag} {o : Opd} {v : V} {d : D} (S : Sim K Φ Pr st σ H) (h : Kp K Pr σ o v) (e : peek o st = some d) : Pk K Pr H d v := by
  cases o with
  | val c => cases e; exact .inl h
  | own c => cases e; exact .inl h
  | slot i =>
    have e : datAt st i = some d := e
    unfold datAt at e
    split at e
    · rename_i s hs
      obtain ⟨ov, h1, h2⟩ := S.slots i s hs
      have h' : σ[i]? = some (some v) := h
      rw [h'] at h1; cases h1
      cases s with
      | un => cases e
      | val c =>
        cases e
        obtain ⟨w, q, r⟩ := h2
        cases q; exact .inl r
      | own c =>
        cases e
        obtain ⟨a, ob, q, _, _, ha, hc⟩ := h2
        cases q; exact .inr ⟨a, ob, rfl, ha, hc⟩
      | par c =>
        cases e
        obtain ⟨a, ob, q, _, _, ha, hc⟩ := h2
        cases q; exact .inr ⟨a, ob, rfl, ha, hc⟩
      | pfr c =>
        cases e
        obtain ⟨a, q, _, r⟩ := h2
        cases q; exact .inl r
    · cases e
theorem take_of {K : PySem.W.Frag} {o : Opd} {v : V} {d : D} {st' : Sto} (S : Sim K Φ Pr st σ H) (h : RepO K Φ Pr H st σ o v) (e : takeO o st = .ok d st') :
    ∃ Pr', Le Pr Pr' ∧ Sim K Φ Pr' st' σ H ∧ Rep K Pr' d v := by
  cases o with
  | val c => cases e; exact ⟨Pr, Le.refl _, S, h⟩
  | own c =>
    cases e
    obtain ⟨a, ob, rfl, hn, h0, ha, hc, hf⟩ := h
    exact ⟨upd Pr a ob, Le.upd hn, S.freeze ha h0 hn hf, cont_rep (hc.mono (Le.upd hn)) upd_same⟩
  | slot i =>
    have e : fzAt st i = .ok d st' := e
    unfold fzAt at e
    split at e
    · rename_i s hs
      split at e
      · rename_i c hc
        cases e
        obtain ⟨Pr', w, le, S', hw, r, _⟩ := S.fzSlot hs hc
        have h' : σ[i]? = some (some v) := h.1
        rw [h'] at hw; cases hw
        exact ⟨Pr', le, S', r⟩
      · cases e
    · cases e
theorem take_cases (o : Opd) (s : Sto) : (∃ d s', takeO o s = .ok d s') ∨ takeO o s = .bad := by
  cases o with
  | val d => exact .inl ⟨d, s, rfl⟩
  | own d => exact .inl ⟨d, s, rfl⟩
  | slot i =>
    show (∃ d s', fzAt s i = .ok d s') ∨ fzAt s i = .bad
    unfold fzAt
    split
    · split
      · exact .inl ⟨_, _, rfl⟩
      · exact .inr rfl
    · exact .inr rfl
theorem Aft.take {α : Type} {o : Opd} {v : V} {f : D → Sto → R α} {k : α → Sto → Hp → Hp → Prop} (h : Aft X Φ W Pr σ ((takeO o st).bind f) k) (S : Sim X.K Φ Pr st σ H) (r : RepO X.K Φ Pr H st σ o v) :
    ∃ d st' Pr', Le Pr Pr' ∧ Sim X.K Φ Pr' st' σ H ∧ Rep X.K Pr' d v ∧ Aft X Φ W Pr' σ (f d st') k := by
  rcases take_cases o st with ⟨d, st', e⟩ | e
  · rw [e] at h
    obtain ⟨Pr', le, S', r'⟩ := take_of S r e
    exact ⟨d, st', Pr', le, S', r', Aft.mono (show Aft X Φ W Pr σ (f d st') k from h) le⟩
  · rw [e] at h
    exact h.elim
theorem Pk.non {K : PySem.W.Frag} {v : V} (h : Pk K Pr H .non v) : v = .non := by
  rcases h with h | ⟨a, o, _, _, h⟩
  · unfold Rep at h; exact h
  · unfold Cont at h; split at h <;> first | exact h.elim | contradiction
theorem Pk.bl {K : PySem.W.Frag} {v : V} {b : Bool} (h : Pk K Pr H (.bl b) v) : v = .bl b := by
  rcases h with h | ⟨a, o, _, _, h⟩
  · unfold Rep at h; exact h
  · unfold Cont at h; split at h <;> first | exact h.elim | contradiction
theorem Pk.int {K : PySem.W.Frag} {v : V} {b : Int} (h : Pk K Pr H (.int b) v) : v = .int b := by
  rcases h with h | ⟨a, o, _, _, h⟩
  · unfold Rep at h; exact h
  · unfold Cont at h; split at h <;> first | exact h.elim | contradiction
theorem Pk.str {K : PySem.W.Frag} {v : V} {b : Str} (h : Pk K Pr H (.str b) v) : v = .str b := by
  rcases h with h | ⟨a, o, _, _, h⟩
  · unfold Rep at h; exact h.2
  · unfold Cont at h; split at h <;> first | exact h.elim | contradiction
theorem Pk.strOk {K : PySem.W.Frag} {v : V} {b : Str} (h : Pk K Pr H (.str b) v) : PyData.strOk b = true := by
  rcases h with h | ⟨a, o, _, _, h⟩
  · unfold Rep at h; exact h.1
  · unfold Cont at h; split at h <;> first | exact h.elim | contradiction
theorem Pk.tup {K : PySem.W.Frag} {v : V} {l : List D} (S : Sim K Φ Pr st σ H) (h : Pk K Pr H (.tup l) v) : ∃ a xs, v = .ref a ∧ SqT K H a xs ∧ Reps K Pr l xs := by
  rcases h with h | ⟨a, o, _, _, h⟩
  · unfold Rep at h
    obtain ⟨a, xs, e, q, r⟩ := h
    exact ⟨a, xs, e, S.sqT q, r⟩
  · unfold Cont at h; split at h <;> first | exact h.elim | contradiction
theorem Pk.lst {K : PySem.W.Frag} {v : V} {l : List D} (S : Sim K Φ Pr st σ H) (h : Pk K Pr H (.lst l) v) : ∃ a xs, v = .ref a ∧ Rd H a (.lst xs) ∧ Reps K Pr l xs := by
  rcases h with h | ⟨a, o, e, ho, h⟩
  · unfold Rep at h
    obtain ⟨a, xs, e, q, r⟩ := h
    exact ⟨a, xs, e, S.rdL q, r⟩
  · cases o with
    | lst xs => exact ⟨a, xs, e, .inl ho, h⟩
    | dK kvs => exact absurd h id
    | dT kvs => exact absurd h id
    | _ => exact absurd h id
theorem Pk.scr {K : PySem.W.Frag} {v : V} {l : List D} (S : Sim K Φ Pr st σ H) (h : Pk K Pr H (.scr l) v) : ∃ a xs, v = .ref a ∧ SqL K H a xs ∧ Reps K Pr l xs := by
  rcases h with h | ⟨a, o, _, _, h⟩
  · unfold Rep at h
    obtain ⟨a, xs, e, q, r⟩ := h
    exact ⟨a, xs, e, S.sqL q, r⟩
  · unfold Cont at h; split at h <;> first | exact h.elim | contradiction
theorem Pk.ty {K : PySem.W.Frag} {v : V} {n : String} (h : Pk K Pr H (.ty n) v) : v = .ty n := by
  rcases h with h | ⟨a, o, _, _, h⟩
  · unfold Rep at h; exact h
  · unfold Cont at h; split at h <;> first | exact h.elim | contradiction
theorem Pk.cls {K : PySem.W.Frag} {v : V} {c : Str} (h : Pk K Pr H (.cls c) v) : ∃ C, v = .ref C ∧ PySem.W.nsIn K mainGlobals c = some (some (.ref C)) := by
  rcases h with h | ⟨a, o, _, _, h⟩
  · unfold Rep at h; exact h
  · unfold Cont at h; split at h <;> first | exact h.elim | contradiction
end
end Dv
namespace Dv
open PySem L2
def keyD : D → Option Key
  | .int i => some (.inl i)
  | .str x => some (.inr x)
  | _ => none
def keysD : List D → Option (List Key)
  | [] => some []
  | d :: l => match keyD d, keysD l with
    | some k, some r => some (k :: r)
    | _, _ => none
def keyT : D → Option (List Key)
  | .tup l => keysD l
  | _ => none
def keysT : List D → Option (List (List Key))
  | [] => some []
  | d :: l => match keyT d, keysT l with
    | some k, some r => some (k :: r)
    | _, _ => none
theorem keyD_kD (k : Key) : keyD (kD k) = some k := by cases k <;> rfl
theorem keyD_eq {d : D} {k : Key} (h : keyD d = some k) : d = kD k := by
  cases d <;> first | (cases h; rfl) | cases h
theorem keysD_kD : ∀ ks : List Key, keysD (ks.map kD) = some ks
  | [] => rfl
  | k :: ks => by
    show (match keyD (kD k), keysD (ks.map kD) with
      | some k, some r => some (k :: r)
      | _, _ => none) = _
    rw [keyD_kD, keysD_kD ks]
theorem keysD_eq : ∀ {l : List D} {ks : List Key}, keysD l = some ks → l = ks.map kD
  | [], _, h => by cases h; rfl
  | d :: l, ks, h => by
    unfold keysD at h
    split at h
    · rename_i k r h1 h2
      cases h
      rw [List.map_cons, ← keyD_eq h1, ← keysD_eq h2]
    · cases h
theorem keyT_eq {d : D} {ks : List Key} (h : keyT d = some ks) : d = .tup (ks.map kD) := by
  cases d with
  | tup l => rw [keysD_eq (show keysD l = some ks from h)]
  | _ => cases h
theorem keyT_kD (ks : List Key) : keyT (.tup (ks.map kD)) = some ks := keysD_kD ks
theorem keysT_map : ∀ kss : List (List Key), keysT (kss.map fun ks => .tup (ks.map kD)) = some kss
  | [] => rfl
  | k :: ks => by
    show (match keyT (.tup (k.map kD)), keysT (ks.map fun ks => .tup (ks.map kD)) with
      | some k, some r => some (k :: r)
      | _, _ => none) = _
    rw [keyT_kD, keysT_map ks]
def inKs (x : D) (ks : List D) : Option Bool := match keyD x with
  | some k => (keysD ks).map fun l => l.any fun q => decide (q = k)
  | none => match keyT x with
    | some t => (keysT ks).map fun l => l.any fun q => decide (q = t)
    | none => none
theorem reps_keys {K : PySem.W.Frag} {Pr : Hp} : ∀ {ks : List Key} {xs : List V}, Reps K Pr (ks.map kD) xs → xs = ks.map kV
  | [], xs, h => by
    rw [List.map_nil] at h
    unfold Reps at h; exact h
  | k :: ks, xs, h => by
    rw [List.map_cons] at h
    unfold Reps at h
    obtain ⟨x, r, rfl, h1, h2⟩ := h
    rw [List.map_cons, reps_keys h2]
    congr 1
    cases k with
    | inl i => unfold kD Rep at h1; exact h1
    | inr z => unfold kD Rep at h1; exact h1.2
theorem valV_mem {κ : Type} [DecidableEq κ] : ∀ {kvs : List (κ × V)} {k : κ}, (valV kvs k).isSome = (kvs.map (·.1)).any fun q => decide (q = k)
  | [], k => by rw [valV_nil]; rfl
  | p :: r, k => by
    by_cases e : p.1 = k
    · rw [valV_pos e]; simp [e]
    · rw [valV_neg e, valV_mem (kvs := r)]
      simp [e]
section
variable {X : Cx} {Φ : Fr0} {Pr H : Hp} {st : Sto} {σ : L2.St}
def DctAt (K : PySem.W.Frag) (Pr H : Hp) (a : Addr) (ks vs : List D) : Prop :=
  (∃ kvs : List (Key × V), Rd H a (.dK kvs) ∧ ks = kvs.map (fun p => kD p.1) ∧ Reps K Pr vs (kvs.map (·.2))) ∨
  (∃ kvs : List (List Key × V), Rd H a (.dT kvs) ∧ ks = kvs.map (fun p => D.tup (p.1.map kD)) ∧ Reps K Pr vs (kvs.map (·.2)))
theorem Pk.dct {K : PySem.W.Frag} {v : V} {ks vs : List D} (S : Sim K Φ Pr st σ H) (h : Pk K Pr H (.dct ks vs) v) : ∃ a, v = .ref a ∧ DctAt K Pr H a ks vs := by
  rcases h with h | ⟨a, o, e, ho, h⟩
  · unfold Rep at h
    obtain ⟨a, e, ⟨kvs, q, e1, r⟩ | ⟨kvs, q, e1, r⟩⟩ := h
    · exact ⟨a, e, .inl ⟨kvs, (S.inn a _ q).rd, e1, r⟩⟩
    · exact ⟨a, e, .inr ⟨kvs, (S.inn a _ q).rd, e1, r⟩⟩
  · cases o with
    | dK kvs => exact ⟨a, e, .inl ⟨kvs, .inl ho, h.1, h.2⟩⟩
    | dT kvs => exact ⟨a, e, .inr ⟨kvs, .inl ho, h.1, h.2⟩⟩
    | lst xs => exact absurd h id
    | _ => exact absurd h id
theorem key_at {pins : List (Addr × Obj)} {s : Shared} {b : Addr} {ks : List Key} (I : Inv X pins σ H s) (h : SqT X.K H b (ks.map kV)) : (tupleKind (mixKind X.prog X.w)).is s.heap ks b := by
  obtain ⟨its, r, ⟨o, e, c, n, d⟩, _⟩ := I.tuple h
  exact ⟨o, its.toArray, n, e, c, d, by simpa using items_are r⟩
theorem empty_T {P : Program} {w : World} {h : Heap} {a : Addr} (q : h.DictOf (mixKind P w) a []) : h.DictOfH (tupleKind (mixKind P w)) a [] := by
  obtain ⟨o, es, ep, ho, hc, hd, he, hp, hn⟩ := q
  have : es.toList = [] := by
    generalize es.toList = l at hp
    cases hp; rfl
  exact ⟨o, es, ep, ho, hc, hd, this, (fun x (z : x ∈ []) => nomatch z), List.nodup_nil⟩
theorem empty_K {P : Program} {w : World} {h : Heap} {a : Addr} (q : h.DictOfH (tupleKind (mixKind P w)) a []) : h.DictOf (mixKind P w) a [] := by
  obtain ⟨o, es, ep, ho, hc, hd, he, _, hn⟩ := q
  have he : es.toList = [] := he
  have : es = #[] := by simpa using he
  subst this
  exact ⟨o, #[], ep, ho, hc, hd, fun _ z => by simp at z, .nil, List.nodup_nil⟩
def rDIn (g : Bool → Bool) (K : PySem.W.Frag) : R2 := fun x y H Q => ∃ (a : Addr) (b : Bool), y = .ref a ∧
  ((∃ kvs k, Rd H a (.dK kvs) ∧ x = kV k ∧ b = (valV kvs k).isSome) ∨ (∃ kvs k p, Rd H a (.dT kvs) ∧ x = .ref p ∧ SqT K H p (k.map kV) ∧ b = (valV kvs k).isSome) ∨
   (∃ k, Rd H a (.dT []) ∧ x = kV k ∧ b = false) ∨ (∃ (k : List Key) (p : Addr), Rd H a (.dK []) ∧ x = .ref p ∧ SqT K H p (k.map kV) ∧ b = false)) ∧ Q (.bl (g b)) H
theorem op_dIn (hu : X.A.units + 1 < cLine) : OpR X (compareOp .In) (rDIn id X.K) := by
  intro pins s σ H x y v u Q I rx ry h
  obtain ⟨a, b, rfl, c, q⟩ := h
  cases (show u = Value.ref a from ry)
  rcases c with ⟨kvs, k, e, rfl, rfl⟩ | ⟨kvs, k, p, e, rfl, sq, rfl⟩ | ⟨k, e, rfl, rfl⟩ | ⟨k, p, e, rfl, sq, rfl⟩
  · obtain ⟨z, hd, vs, rel, dd⟩ := dk_rd I.hok e
    refine wpAny_in_of (kV_is rx) hd dd.mapOf ?_
    rw [← (rel.val k).isSome_eq]
    exact ⟨.bl _, H, I.tok _, rfl, q⟩
  · cases (show v = Value.ref p from rx)
    obtain ⟨z, hd, xs, rel, dd⟩ := dt_rd I.hok e
    refine wpAny_in_heap (tupleKind_room_in1 hu) (key_at I sq) hd dd ?_
    have w := (rel.val k).isSome_eq
    rw [Option.isSome_map] at w
    rw [← w]
    exact ⟨.bl _, H, I.tok _, rfl, q⟩
  · obtain ⟨z, hd, xs, rel, dd⟩ := dt_rd I.hok e
    cases rel
    refine wpAny_in_of (kV_is rx) hd (empty_K dd).mapOf ?_
    exact ⟨.bl _, H, I.tok _, rfl, q⟩
  · cases (show v = Value.ref p from rx)
    obtain ⟨z, hd, xs, rel, dd⟩ := dk_rd I.hok e
    cases rel
    refine wpAny_in_heap (tupleKind_room_in1 hu) (key_at I sq) hd (empty_T dd) ?_
    exact ⟨.bl _, H, I.tok _, rfl, q⟩
theorem op_dNin (hu : X.A.units + 1 < cLine) : OpR X (compareOp .NotIn) (rDIn not X.K) := by
  intro pins s σ H x y v u Q I rx ry h
  obtain ⟨a, b, rfl, c, q⟩ := h
  cases (show u = Value.ref a from ry)
  rcases c with ⟨kvs, k, e, rfl, rfl⟩ | ⟨kvs, k, p, e, rfl, sq, rfl⟩ | ⟨k, e, rfl, rfl⟩ | ⟨k, p, e, rfl, sq, rfl⟩
  · obtain ⟨z, hd, vs, rel, dd⟩ := dk_rd I.hok e
    refine wpAny_notIn_of (kV_is rx) hd dd.mapOf ?_
    rw [← (rel.val k).isSome_eq]
    exact ⟨.bl _, H, I.tok _, rfl, q⟩
  · cases (show v = Value.ref p from rx)
    obtain ⟨z, hd, xs, rel, dd⟩ := dt_rd I.hok e
    refine PyProof.Rows.wpAny_notIn_heap (tupleKind_room_in1 hu) (key_at I sq) hd dd ?_
    have w := (rel.val k).isSome_eq
    rw [Option.isSome_map] at w
    rw [← w]
    exact ⟨.bl _, H, I.tok _, rfl, q⟩
  · obtain ⟨z, hd, xs, rel, dd⟩ := dt_rd I.hok e
    cases rel
    refine wpAny_notIn_of (kV_is rx) hd (empty_K dd).mapOf ?_
    exact ⟨.bl _, H, I.tok _, rfl, q⟩
  · cases (show v = Value.ref p from rx)
    obtain ⟨z, hd, xs, rel, dd⟩ := dk_rd I.hok e
    cases rel
    refine PyProof.Rows.wpAny_notIn_heap (tupleKind_room_in1 hu) (key_at I sq) hd (empty_T dd) ?_
    exact ⟨.bl _, H, I.tok _, rfl, q⟩
theorem keysD_map (kvs : List (Key × V)) : keysD (kvs.map fun p => kD p.1) = some (kvs.map (·.1)) := by
  have := keysD_kD (kvs.map (·.1))
  rwa [List.map_map] at this
theorem keysT_map' (kvs : List (List Key × V)) : keysT (kvs.map fun p => D.tup (p.1.map kD)) = some (kvs.map (·.1)) := by
  have := keysT_map (kvs.map (·.1))
  rwa [List.map_map] at this
theorem keysD_tup {kvs : List (List Key × V)} {l : List Key} (h : keysD (kvs.map fun p => D.tup (p.1.map kD)) = some l) : kvs = [] := by
  cases kvs with
  | nil => rfl
  | cons p r => exact nomatch h
theorem keysT_plain {kvs : List (Key × V)} {l : List (List Key)} (h : keysT (kvs.map fun p => kD p.1) = some l) : kvs = [] := by
  cases kvs with
  | nil => rfl
  | cons p r =>
    obtain ⟨k, v⟩ := p
    cases k <;> exact nomatch h
theorem dIn_of {g : Bool → Bool} {dx : D} {ks vs : List D} {x y : V} {b : Bool} {Q : VK} (S : Sim X.K Φ Pr st σ H) (px : Pk X.K Pr H dx x) (py : Pk X.K Pr H (.dct ks vs) y) (h : inKs dx ks = some b) (q : Q (.bl (g b)) H) : rDIn g X.K x y H Q := by
  obtain ⟨a, rfl, da⟩ := py.dct S
  refine ⟨a, b, rfl, ?_, q⟩
  unfold inKs at h
  split at h
  · rename_i k hk
    have ex : x = kV k := by
      have := keyD_eq hk
      subst this
      cases k with
      | inl i => exact px.int
      | inr z => exact px.str
    simp only [Option.map_eq_some_iff] at h
    obtain ⟨l, hl, rfl⟩ := h
    rcases da with ⟨kvs, r, rfl, _⟩ | ⟨kvs, r, rfl, _⟩
    · rw [keysD_map] at hl; cases hl
      exact .inl ⟨kvs, k, r, ex, valV_mem.symm⟩
    · have := keysD_tup hl
      subst this
      cases hl
      exact .inr (.inr (.inl ⟨k, r, ex, rfl⟩))
  · split at h
    · rename_i t ht
      have := keyT_eq ht
      subst this
      obtain ⟨p, xs, rfl, sq, rs⟩ := px.tup S
      rw [reps_keys rs] at sq
      simp only [Option.map_eq_some_iff] at h
      obtain ⟨l, hl, rfl⟩ := h
      rcases da with ⟨kvs, r, rfl, _⟩ | ⟨kvs, r, rfl, _⟩
      · have := keysT_plain hl
        subst this
        cases hl
        exact .inr (.inr (.inr ⟨t, p, r, rfl, sq, rfl⟩))
      · rw [keysT_map'] at hl; cases hl
        exact .inr (.inl ⟨kvs, t, p, r, rfl, sq, valV_mem.symm⟩)
    · cases h
end
end Dv
namespace Dv
open PySem L2
def sC (d : D) : E := fun s => .ok (.val d) s
def rdSlot (i : Nat) (s : Sto) : Slot → R Opd
  | .un => .bad
  | .val d => .ok (.val d) s
  | .pfr d => .ok (.val d) s
  | .own _ => .ok (.slot i) s
  | .par _ => .ok (.slot i) s
def sVar (i : Nat) : E := fun s => match s[i]? with
  | some t => rdSlot i s t
  | none => .bad
def okO {α : Type} (o : Option α) (s : Sto) : R α := match o with
  | some a => .ok a s
  | none => .bad
@[simp] theorem okO_some {α : Type} (a : α) (s : Sto) : okO (some a) s = .ok a s := rfl
@[simp] theorem okO_none {α : Type} (s : Sto) : (okO none s : R α) = .bad := rfl
def op1 (F : D → Option Opd) (oa : Opd) (s : Sto) : R Opd := okO ((peek oa s).bind F) s
def op2 (F : D → D → Option Opd) (oa ob : Opd) (s : Sto) : R Opd := okO ((peek oa s).bind fun x => (peek ob s).bind fun y => F x y) s
def sOp1 (F : D → Option Opd) (a : E) : E := fun s => (a s).bind (op1 F)
def sOp2 (F : D → D → Option Opd) (a b : E) : E := fun s => (a s).bind fun oa s1 => (b s1).bind fun ob s2 => op2 F oa ob s2
abbrev Ar := Sto → R (List Opd)
def aNil : Ar := fun s => .ok [] s
def aCons (a : E) (as : Ar) : Ar := fun s => (a s).bind fun o s1 => (as s1).bind fun os s2 => .ok (o :: os) s2
def takeAll : List Opd → Sto → R (List D)
  | [], s => .ok [] s
  | o :: os, s => (takeO o s).bind fun d s1 => (takeAll os s1).bind fun ds s2 => .ok (d :: ds) s2
def peekAll : List Opd → Sto → Option (List D)
  | [], _ => some []
  | o :: os, s => (peek o s).bind fun d => (peekAll os s).bind fun ds => some (d :: ds)
theorem exL : ∃ n : Nat, n = 16777216 := ⟨_, rfl⟩
def LIM : Nat := Classical.choose exL
theorem LIM_eq : LIM = 16777216 := Classical.choose_spec exL
theorem lim_eq : sizeLine = LIM := by rw [LIM_eq]; exact sizeLine_eq
theorem LIM_le {n : Nat} (h : n ≤ 16777216) : n ≤ LIM := by rw [LIM_eq]; exact h
theorem exB : ∃ n : Int, n = 2 ^ 63 := ⟨_, rfl⟩
def B63 : Int := Classical.choose exB
theorem B63_eq : B63 = 2 ^ 63 := Classical.choose_spec exB
theorem exC : ∃ n : Int, n = 2 ^ 62 := ⟨_, rfl⟩
def B62 : Int := Classical.choose exC
theorem B62_eq : B62 = 2 ^ 62 := Classical.choose_spec exC
def sTup (as : Ar) : E := fun s => (as s).bind fun os s1 => (takeAll os s1).bind fun ds s2 => if ds.length ≤ LIM then .ok (.val (.tup ds)) s2 else .bad
def sLst (as : Ar) : E := fun s => (as s).bind fun os s1 => (takeAll os s1).bind fun ds s2 => if ds.length ≤ LIM then .ok (.own (.lst ds)) s2 else .bad
def sCB (F : List D → Option Opd) (as : Ar) : E := fun s => (as s).bind fun os s1 => okO ((peekAll os s1).bind F) s1
def dB : D → Option Bool
  | .bl b => some b
  | _ => none
def tB (a : E) : T := fun s => (a s).bind fun o s1 => okO ((peek o s1).bind dB) s1
def truD : D → Option Bool
  | .non => some false
  | .bl b => some b
  | .int i => some (i != 0)
  | .str x => if x.length ≤ LIM then some ((x.length : Int) != 0) else none
  | .lst l => some (!l.isEmpty)
  | .tup l => some (!l.isEmpty)
  | _ => none
def tTru (a : E) : T := fun s => (a s).bind fun o s1 => okO ((peek o s1).bind truD) s1
def tNot (t : T) : T := fun s => (t s).bind fun b s1 => .ok (!b) s1
def tAnd (t u : T) : T := fun s => (t s).bind fun b s1 => if b then u s1 else .ok false s1
def tOr (t u : T) : T := fun s => (t s).bind fun b s1 => if b then .ok true s1 else u s1
def sNot (a : E) : E := fun s => (tB a s).bind fun b s1 => .ok (.val (.bl (!b))) s1
def sAnd (a b : E) : E := fun s => (tB a s).bind fun c s1 => if c then b s1 else .ok (.val (.bl false)) s1
def sOr (a b : E) : E := fun s => (tB a s).bind fun c s1 => if c then .ok (.val (.bl true)) s1 else b s1
def sIf (t : T) (a b : E) : E := fun s => (t s).bind fun c s1 => if c then a s1 else b s1
section
variable {X : Cx} {W : WX} {a b c e : Expr} {es : List Expr} {fa fb fc : E} {ft fu : T} {pos : Pos}
theorem se_var {i : Nat} {x : Str} (hN : X.N[i]? = some x) (hv : Vis X.env.scope x) (hd : (x == ("__debug__" : Str)) = false := by decide) (hcd : (x == ("__classdict__" : Str)) = false := by decide) : SE X W (.Name x pos) (sVar i) := by
  refine ⟨fun Φ => peImp (pe_var (i := i) hN hv hd hcd) fun σ H Q h => ?_⟩
  obtain ⟨Pr, st, S, h⟩ := h
  unfold sVar at h
  split at h
  · rename_i t ht
    obtain ⟨ov, h1, h2⟩ := S.slots i t ht
    cases t with
    | un => exact h.elim
    | val d =>
      obtain ⟨v, rfl, r⟩ := h2
      exact ⟨v, h1, h Pr H (Le.refl _) S v r⟩
    | pfr d =>
      obtain ⟨p, rfl, _, r⟩ := h2
      exact ⟨_, h1, h Pr H (Le.refl _) S _ r⟩
    | own d =>
      obtain ⟨p, o, rfl, _⟩ := h2
      exact ⟨_, h1, h Pr H (Le.refl _) S _ ⟨h1, _, ht, rfl⟩⟩
    | par d =>
      obtain ⟨p, o, rfl, _⟩ := h2
      exact ⟨_, h1, h Pr H (Le.refl _) S _ ⟨h1, _, ht, rfl⟩⟩
  · exact h.elim
theorem se_const {d : D} {v : V} (h : PE X e (tC v)) (r : ∀ Pr, Rep X.K Pr d v) : SE X W e (sC d) := by
  refine ⟨fun Φ => peImp h fun σ H Q q => ?_⟩
  obtain ⟨Pr, st, S, q⟩ := q
  exact q Pr H (Le.refl _) S v (r Pr)
theorem rep_int {K : PySem.W.Frag} {Pr : Hp} {i : Int} : Rep K Pr (.int i) (.int i) := by unfold Rep; rfl
theorem rep_str {K : PySem.W.Frag} {Pr : Hp} {i : Str} (h : PyData.strOk i = true) : Rep K Pr (.str i) (.str i) := by unfold Rep; exact ⟨h, rfl⟩
theorem rep_bl {K : PySem.W.Frag} {Pr : Hp} {i : Bool} : Rep K Pr (.bl i) (.bl i) := by unfold Rep; rfl
theorem rep_non {K : PySem.W.Frag} {Pr : Hp} : Rep K Pr .non .non := by unfold Rep; rfl
theorem se_int {i : Int} {j} : SE X W (.Constant (.int i) j pos) (sC (.int i)) := se_const pe_int fun _ => rep_int
theorem se_bl {i : Bool} {j} : SE X W (.Constant (.bool i) j pos) (sC (.bl i)) := se_const pe_bl fun _ => rep_bl
theorem se_non {j} : SE X W (.Constant .none j pos) (sC .non) := se_const pe_non fun _ => rep_non
theorem se_str {x : Str} {j} (h : PyData.strOk x = true := by decide +kernel) : SE X W (.Constant (.str x) j pos) (sC (.str x)) := se_const pe_str fun _ => rep_str h
theorem se_glob {x : Str} {d : D} {v : V} {u : Value} (hg : Gl X x) (hm : X.mg x = some u) (r : RelV v u) (hr : ∀ Pr, Rep X.K Pr d v) (hd : (x == ("__debug__" : Str)) = false := by decide) : SE X W (.Name x pos) (sC d) :=
  se_const (pe_glob hg hm r hd) hr
section
variable {K : PySem.W.Frag} {Φ : Fr0} {Pr H : Hp} {st : Sto} {σ : St}
theorem ro_bl {b : Bool} : RepO K Φ Pr H st σ (.val (.bl b)) (.bl b) := rep_bl (K := K) (Pr := Pr)
theorem ro_int {b : Int} : RepO K Φ Pr H st σ (.val (.int b)) (.int b) := rep_int (K := K) (Pr := Pr)
theorem ro_non : RepO K Φ Pr H st σ (.val .non) .non := rep_non (K := K) (Pr := Pr)
theorem ro_str {b : Str} (h : PyData.strOk b = true) : RepO K Φ Pr H st σ (.val (.str b)) (.str b) := rep_str (K := K) (Pr := Pr) h
end
theorem two_of {Φ : Fr0} {r : R2} {g : Opd → Opd → Sto → R Opd}
    (hr : ∀ Pr st σ H oa ob x y Q, Sim X.K Φ Pr st σ H → Kp X.K Pr σ oa x → Kp X.K Pr σ ob y → Aft X Φ W Pr σ (g oa ob st) (fun o st' Pr' H' => ∀ v, RepO X.K Φ Pr' H' st' σ o v → Q v H') → r x y H Q) :
    ∀ σ H Q, tE X Φ W (fun st => (fa st).bind fun oa s1 => (fb s1).bind fun ob s2 => g oa ob s2) σ H Q → tOp r (tE X Φ W fa) (tE X Φ W fb) σ H Q := by
  intro σ H Q h
  obtain ⟨Pr, st, S, h⟩ := h
  refine ⟨Pr, st, S, h.bind.imp fun oa s1 P1 H1 l1 S1 h1 x hx => ?_⟩
  obtain ⟨P1', l1', S1', k1⟩ := settle S1 hx
  refine ⟨P1', s1, S1', (Aft.bind (h1.mono l1')).imp fun ob s2 P2 H2 l2 S2 h2 y hy => ?_⟩
  obtain ⟨P2', l2', S2', k2⟩ := settle S2 hy
  exact hr P2' s2 σ H2 oa ob x y Q S2' (k1.mono (l2.trans l2')) k2 (h2.mono l2')
def OpS (X : Cx) (f : Value → Value → Sem Value) (F : D → D → Option Opd) : Prop :=
  ∃ r, OpR X f r ∧ ∀ Φ Pr st σ H dx dy x y o Q, Sim X.K Φ Pr st σ H → Pk X.K Pr H dx x → Pk X.K Pr H dy y → F dx dy = some o →
    (∀ Pr' H' v, Le Pr Pr' → Sim X.K Φ Pr' st σ H' → RepO X.K Φ Pr' H' st σ o v → Q v H') → r x y H Q
theorem op2_of {Φ : Fr0} {Pr H : Hp} {st : Sto} {σ : St} {F : D → D → Option Opd} {oa ob : Opd} {x y : V} {k : Opd → Sto → Hp → Hp → Prop} (S : Sim X.K Φ Pr st σ H) (ka : Kp X.K Pr σ oa x) (kb : Kp X.K Pr σ ob y) (h : Aft X Φ W Pr σ (op2 F oa ob st) k) :
    ∃ dx dy o, Pk X.K Pr H dx x ∧ Pk X.K Pr H dy y ∧ F dx dy = some o ∧ Aft X Φ W Pr σ (.ok o st) k := by
  unfold op2 at h
  cases e1 : peek oa st with
  | none => rw [e1] at h; exact h.elim
  | some dx =>
    cases e2 : peek ob st with
    | none => rw [e1, e2] at h; exact h.elim
    | some dy =>
      cases e3 : F dx dy with
      | none => rw [e1, e2] at h; simp only [Option.bind_some, e3] at h; exact h.elim
      | some o =>
        rw [e1, e2] at h
        simp only [Option.bind_some, e3] at h
        exact ⟨dx, dy, o, pk_of S ka e1, pk_of S kb e2, e3, h⟩
theorem se_op {op : Operator} {F : D → D → Option Opd} (ho : OpS X (binaryOp op) F) (ha : SE X W a fa) (hb : SE X W b fb) : SE X W (.BinOp a op b pos) (sOp2 F fa fb) := by
  obtain ⟨r, hr, hq⟩ := ho
  refine ⟨fun Φ => peImp (pe_op hr (ha.pe Φ) (hb.pe Φ)) (two_of fun Pr st σ H oa ob x y Q S k1 k2 h => ?_)⟩
  obtain ⟨dx, dy, o, p1, p2, e, h⟩ := op2_of S k1 k2 h
  exact hq Φ Pr st σ H dx dy x y o Q S p1 p2 e fun Pr' H' v le S' rv => h Pr' H' le S' v rv
theorem se_cmp {op : CmpOp} {F : D → D → Option Opd} (ho : OpS X (compareOp op) F) (ha : SE X W a fa) (hb : SE X W b fb) (hm : behindInMarks op b = false) : SE X W (.Compare a [op] [b] pos) (sOp2 F fa fb) := by
  obtain ⟨r, hr, hq⟩ := ho
  refine ⟨fun Φ => peImp (pe_cmpR hr (ha.pe Φ) (hb.pe Φ) hm) (two_of fun Pr st σ H oa ob x y Q S k1 k2 h => ?_)⟩
  obtain ⟨dx, dy, o, p1, p2, e, h⟩ := op2_of S k1 k2 h
  exact hq Φ Pr st σ H dx dy x y o Q S p1 p2 e fun Pr' H' v le S' rv => h Pr' H' le S' v rv
theorem st_cmp {op : CmpOp} {F : D → D → Option Opd} (ho : OpS X (compareOp op) F) (ha : SE X W a fa) (hb : SE X W b fb) (hm : behindInMarks op b = false) : ST X W (.Compare a [op] [b] pos) (tB (sOp2 F fa fb)) := by
  obtain ⟨r, hr, hq⟩ := ho
  refine ⟨fun Φ => ptImp (pt_cmpR hr (ha.pe Φ) (hb.pe Φ) hm) fun σ H Q h => ?_⟩
  have h' : tE X Φ W (fun st => (fa st).bind fun oa s1 => (fb s1).bind fun ob s2 => op2 F oa ob s2) σ H fun x H' => ∃ k, x = .bl k ∧ Q k H' := by
    obtain ⟨Pr, st, S, h⟩ := h
    refine ⟨Pr, st, S, h.bind.imp fun o s1 P1 H1 l1 S1 h1 v hv => ?_⟩
    obtain ⟨P1', l1', S1', kv⟩ := settle S1 hv
    have h1 := h1.mono l1'
    cases e : peek o s1 with
    | none => rw [e] at h1; exact h1.elim
    | some d =>
      rw [e] at h1
      have pk := pk_of S1' kv e
      cases d with
      | bl b => exact ⟨b, pk.bl, h1 P1' H1 (Le.refl _) S1'⟩
      | _ => exact h1.elim
  exact two_of (r := r) (g := op2 F) (fun Pr st σ H oa ob x y Q S k1 k2 h => by
    obtain ⟨dx, dy, o, p1, p2, e, h⟩ := op2_of S k1 k2 h
    exact hq Φ Pr st σ H dx dy x y o Q S p1 p2 e fun Pr' H' v le S' rv => h Pr' H' le S' v rv) σ H _ h'
theorem st_val (ha : SE X W a fa) (he : ∀ whole, isTrue a X.env whole = (do let v ← whole; standAt a.pos; holding [v] (truthy v)) := by intro _; rfl) : ST X W a (tB fa) := by
  refine ⟨fun Φ => ptImp (pt_val (ha.pe Φ) he) fun σ H Q h => ?_⟩
  obtain ⟨Pr, st, S, h⟩ := h
  refine ⟨Pr, st, S, h.bind.imp fun o s1 P1 H1 l1 S1 h1 v hv => ?_⟩
  obtain ⟨P1', l1', S1', kv⟩ := settle S1 hv
  have h1 := h1.mono l1'
  cases e : peek o s1 with
  | none => rw [e] at h1; exact h1.elim
  | some d =>
    rw [e] at h1
    have pk := pk_of S1' kv e
    cases d with
    | bl b => exact ⟨b, pk.bl, h1 P1' H1 (Le.refl _) S1'⟩
    | _ => exact h1.elim
theorem st_tru (ha : SE X W a fa) (he : ∀ whole, isTrue a X.env whole = (do let v ← whole; standAt a.pos; holding [v] (truthy v)) := by intro _; rfl) : ST X W a (tTru fa) := by
  refine ⟨fun Φ => ptImp (pt_truth (ha.pe Φ) he) fun σ H Q h => ?_⟩
  obtain ⟨Pr, st, S, h⟩ := h
  refine ⟨Pr, st, S, h.bind.imp fun o s1 P1 H1 l1 S1 h1 v hv => ?_⟩
  obtain ⟨P1', l1', S1', kv⟩ := settle S1 hv
  have h1 := h1.mono l1'
  cases e : peek o s1 with
  | none => rw [e] at h1; exact h1.elim
  | some d =>
    rw [e] at h1
    have pk := pk_of S1' kv e
    cases e2 : truD d with
    | none => simp only [Option.bind_some, e2] at h1; exact h1.elim
    | some k =>
      simp only [Option.bind_some, e2] at h1
      refine ⟨k, ?_, h1 P1' H1 (Le.refl _) S1'⟩
      cases d with
      | non => cases pk.non; cases e2; rfl
      | bl b => cases pk.bl; cases e2; rfl
      | int i => cases pk.int; cases e2; rfl
      | str x =>
        cases pk.str
        simp only [truD] at e2
        by_cases hl : x.length ≤ LIM
        · rw [if_pos hl] at e2
          cases e2
          exact ⟨by rw [lim_eq]; exact hl, rfl⟩
        · rw [if_neg hl] at e2; cases e2
      | lst l =>
        obtain ⟨p, xs, rfl, q, r⟩ := pk.lst S1'
        cases e2
        refine .inl ⟨xs, .inl q, ?_⟩
        cases l with
        | nil => unfold Reps at r; subst r; rfl
        | cons _ _ => unfold Reps at r; obtain ⟨_, _, rfl, _⟩ := r; rfl
      | tup l =>
        obtain ⟨p, xs, rfl, q, r⟩ := pk.tup S1'
        cases e2
        refine .inr (.inl ⟨xs, q, ?_⟩)
        cases l with
        | nil => unfold Reps at r; subst r; rfl
        | cons _ _ => unfold Reps at r; obtain ⟨_, _, rfl, _⟩ := r; rfl
      | _ => cases e2
theorem sw_and1 (ha : ST X W a ft) : SW X W (.BoolOp .And [a] pos) ft := ⟨fun Φ => pw_and1 (ha.pt Φ)⟩
theorem sw_or1 (ha : ST X W a ft) : SW X W (.BoolOp .Or [a] pos) ft := ⟨fun Φ => pw_or1 (ha.pt Φ)⟩
theorem sw_and {rest : List Expr} (ha : ST X W a ft) (hb : SW X W (.BoolOp .And (b :: rest) pos) fu) : SW X W (.BoolOp .And (a :: b :: rest) pos) (tAnd ft fu) := by
  refine ⟨fun Φ => pwImp (pw_and (ha.pt Φ) (hb.pw Φ)) fun σ H Q h => ?_⟩
  obtain ⟨Pr, st, S, h⟩ := h
  refine ⟨Pr, st, S, h.bind.imp fun k s1 P1 H1 l1 S1 h1 => ?_⟩
  cases k with
  | true => exact iteT ⟨P1, s1, S1, h1⟩
  | false => exact iteF (h1 P1 H1 (Le.refl _) S1)
theorem sw_or {rest : List Expr} (ha : ST X W a ft) (hb : SW X W (.BoolOp .Or (b :: rest) pos) fu) : SW X W (.BoolOp .Or (a :: b :: rest) pos) (tOr ft fu) := by
  refine ⟨fun Φ => pwImp (pw_or (ha.pt Φ) (hb.pw Φ)) fun σ H Q h => ?_⟩
  obtain ⟨Pr, st, S, h⟩ := h
  refine ⟨Pr, st, S, h.bind.imp fun k s1 P1 H1 l1 S1 h1 => ?_⟩
  cases k with
  | false => exact iteF ⟨P1, s1, S1, h1⟩
  | true => exact iteT (h1 P1 H1 (Le.refl _) S1)
theorem st_not (ha : ST X W a ft) : ST X W (.UnaryOp .Not a pos) (tNot ft) := by
  refine ⟨fun Φ => ptImp (pt_not (ha.pt Φ)) fun σ H Q h => ?_⟩
  obtain ⟨Pr, st, S, h⟩ := h
  exact ⟨Pr, st, S, h.bind.imp fun k s1 P1 H1 l1 S1 h1 => h1 P1 H1 (Le.refl _) S1⟩
theorem tB_of {Φ : Fr0} {Pr : Hp} {st : Sto} {σ : St} {k : Bool → Sto → Hp → Hp → Prop} (h : Aft X Φ W Pr σ (tB fa st) k) :
    Aft X Φ W Pr σ (fa st) fun o st' Pr' H' => ∀ v, RepO X.K Φ Pr' H' st' σ o v → ∃ b, v = .bl b ∧ ∃ Pr2, Le Pr' Pr2 ∧ Sim X.K Φ Pr2 st' σ H' ∧ Aft X Φ W Pr2 σ (.ok b st') k := by
  refine (Aft.bind h).imp fun o s1 P1 H1 l1 S1 h1 v hv => ?_
  obtain ⟨P1', l1', S1', kv⟩ := settle S1 hv
  have h1 := h1.mono l1'
  cases e : peek o s1 with
  | none => rw [e] at h1; exact h1.elim
  | some d =>
    rw [e] at h1
    have pk := pk_of S1' kv e
    cases d with
    | bl b => exact ⟨b, pk.bl, P1', l1', S1', h1⟩
    | _ => exact h1.elim
theorem se_not (ha : SE X W a fa) : SE X W (.UnaryOp .Not a pos) (sNot fa) := by
  refine ⟨fun Φ => peImp (pe_not (ha.pe Φ)) fun σ H Q h => ?_⟩
  obtain ⟨Pr, st, S, h⟩ := h
  refine ⟨Pr, st, S, (tB_of h.bind).imp fun o s1 P1 H1 l1 S1 h1 v hv => ?_⟩
  obtain ⟨b, rfl, P2, l2, S2, h2⟩ := h1 v hv
  exact ⟨b, rfl, h2 P2 H1 (Le.refl _) S2 P2 H1 (Le.refl _) S2 _ (rep_bl (K := X.K) (Pr := P2))⟩
theorem se_one {op} (ha : SE X W a fa) : SE X W (.BoolOp op [a] pos) fa := ⟨fun Φ => pe_one (ha.pe Φ)⟩
theorem se_and {rest : List Expr} (ha : SE X W a fa) (hb : SE X W (.BoolOp .And (b :: rest) pos) fb) : SE X W (.BoolOp .And (a :: b :: rest) pos) (sAnd fa fb) := by
  refine ⟨fun Φ => peImp (pe_and (ha.pe Φ) (hb.pe Φ)) fun σ H Q h => ?_⟩
  obtain ⟨Pr, st, S, h⟩ := h
  refine ⟨Pr, st, S, (tB_of h.bind).imp fun o s1 P1 H1 l1 S1 h1 v hv => ?_⟩
  obtain ⟨b, rfl, P2, l2, S2, h2⟩ := h1 v hv
  have h3 := h2 P2 H1 (Le.refl _) S2
  cases b with
  | true => exact ⟨true, rfl, iteT ⟨P2, s1, S2, h3⟩⟩
  | false => exact ⟨false, rfl, iteF (h3 P2 H1 (Le.refl _) S2 _ (rep_bl (K := X.K) (Pr := P2)))⟩
theorem se_or {rest : List Expr} (ha : SE X W a fa) (hb : SE X W (.BoolOp .Or (b :: rest) pos) fb) : SE X W (.BoolOp .Or (a :: b :: rest) pos) (sOr fa fb) := by
  refine ⟨fun Φ => peImp (pe_or (ha.pe Φ) (hb.pe Φ)) fun σ H Q h => ?_⟩
  obtain ⟨Pr, st, S, h⟩ := h
  refine ⟨Pr, st, S, (tB_of h.bind).imp fun o s1 P1 H1 l1 S1 h1 v hv => ?_⟩
  obtain ⟨b, rfl, P2, l2, S2, h2⟩ := h1 v hv
  have h3 := h2 P2 H1 (Le.refl _) S2
  cases b with
  | false => exact ⟨false, rfl, iteF ⟨P2, s1, S2, h3⟩⟩
  | true => exact ⟨true, rfl, iteT (h3 P2 H1 (Le.refl _) S2 _ (rep_bl (K := X.K) (Pr := P2)))⟩
theorem se_if (ht : ST X W c ft) (ha : SE X W a fa) (hb : SE X W b fb) : SE X W (.IfExp c a b pos) (sIf ft fa fb) := by
  refine ⟨fun Φ => peImp (pe_ifExp (ht.pt Φ) (ha.pe Φ) (hb.pe Φ)) fun σ H Q h => ?_⟩
  obtain ⟨Pr, st, S, h⟩ := h
  refine ⟨Pr, st, S, h.bind.imp fun k s1 P1 H1 l1 S1 h1 => ?_⟩
  cases k with
  | true => exact iteT ⟨P1, s1, S1, h1⟩
  | false => exact iteF ⟨P1, s1, S1, h1⟩
inductive Kps (K : PySem.W.Frag) (Pr : Hp) (σ : St) : List Opd → List V → Prop
  | nil : Kps K Pr σ [] []
  | cons {o : Opd} {os : List Opd} {v : V} {vs : List V} : Kp K Pr σ o v → Kps K Pr σ os vs → Kps K Pr σ (o :: os) (v :: vs)
theorem Kps.mono {K : PySem.W.Frag} {Pr Pr' : Hp} {σ : St} {os : List Opd} {vs : List V} (h : Kps K Pr σ os vs) (le : Le Pr Pr') : Kps K Pr' σ os vs := by
  induction h with
  | nil => exact .nil
  | cons k _ ih => exact .cons (k.mono le) ih
def tAr (X : Cx) (Φ : Fr0) (W : WX) (f : Ar) : TA := fun σ H Q => ∃ Pr st, Sim X.K Φ Pr st σ H ∧ Aft X Φ W Pr σ (f st) fun os st' Pr' H' => ∀ P2 vs, Le Pr' P2 → Sim X.K Φ P2 st' σ H' → Kps X.K P2 σ os vs → Q vs H'
structure SA (X : Cx) (W : WX) (es : List Expr) (f : Ar) : Prop where
  pa : ∀ Φ, PA X es (tAr X Φ W f)
theorem sa_nil : SA X W [] aNil := by
  refine ⟨fun Φ => ⟨fun pos pins s σ H Q I h => ?_⟩⟩
  obtain ⟨Pr, st, S, h⟩ := h
  exact pa_nil.run pos pins s σ H Q I (h Pr H (Le.refl _) S Pr [] (Le.refl _) S .nil)
theorem sa_cons {fs : Ar} (ha : SE X W e fa) (hr : SA X W es fs) (hs : starEach (e :: es) X.env = (false, eval e X.env) :: starEach es X.env := by rfl) : SA X W (e :: es) (aCons fa fs) := by
  refine ⟨fun Φ => ⟨fun pos pins s σ H Q I h => (pa_cons (ha.pe Φ) (hr.pa Φ) hs).run pos pins s σ H Q I ?_⟩⟩
  obtain ⟨Pr, st, S, h⟩ := h
  refine ⟨Pr, st, S, h.bind.imp fun o s1 P1 H1 l1 S1 h1 x hx => ?_⟩
  obtain ⟨P1', l1', S1', k1⟩ := settle S1 hx
  refine ⟨P1', s1, S1', (Aft.bind (h1.mono l1')).imp fun os s2 P2 H2 l2 S2 h2 P3 vs l3 S3 kvs => ?_⟩
  exact h2 P3 H2 l3 S3 P3 (x :: vs) (Le.refl _) S3 (.cons (k1.mono (l2.trans l3)) kvs)
theorem takeAll_of {Φ : Fr0} {H : Hp} {σ : St} : ∀ {os : List Opd} {vs : List V} {Pr : Hp} {st : Sto} {α : Type} {f : List D → Sto → R α} {k : α → Sto → Hp → Hp → Prop}, Sim X.K Φ Pr st σ H → Kps X.K Pr σ os vs → Aft X Φ W Pr σ ((takeAll os st).bind f) k →
    ∃ ds st' Pr', takeAll os st = .ok ds st' ∧ Le Pr Pr' ∧ Sim X.K Φ Pr' st' σ H ∧ Reps X.K Pr' ds vs ∧ Aft X Φ W Pr' σ (f ds st') k
  | [], _, Pr, st, α, f, k, S, .nil, h => ⟨[], st, Pr, rfl, Le.refl _, S, Reps.nil, h⟩
  | o :: os, _, Pr, st, α, f, k, S, .cons (v := v) (vs := vs) ko kos, h => by
    unfold takeAll at h ⊢
    rcases take_cases o st with ⟨d, s1, e⟩ | e
    · rw [e] at h ⊢
      simp only [R.bind_ok] at h ⊢
      have one : ∃ P1, Le Pr P1 ∧ Sim X.K Φ P1 s1 σ H ∧ Rep X.K P1 d v := by
        cases o with
        | val c => cases e; exact ⟨Pr, Le.refl _, S, ko⟩
        | own c => cases e; exact ⟨Pr, Le.refl _, S, ko⟩
        | slot i =>
          have e : fzAt st i = .ok d s1 := e
          unfold fzAt at e
          split at e
          · rename_i s hs
            split at e
            · rename_i c hc
              cases e
              obtain ⟨Pr', w, le, S', hw, r, _⟩ := S.fzSlot hs hc
              have h' : σ[i]? = some (some v) := ko
              rw [h'] at hw; cases hw
              exact ⟨Pr', le, S', r⟩
            · cases e
          · cases e
      obtain ⟨P1, l1, S1, r1⟩ := one
      cases e2 : takeAll os s1 with
      | ok ds s2 =>
        rw [e2] at h
        have h' : Aft X Φ W P1 σ ((takeAll os s1).bind fun ds s2 => f (d :: ds) s2) k := by
          rw [e2]; exact Aft.mono h l1
        obtain ⟨ds', s2', P2, e3, l2, S2, r2, h2⟩ := takeAll_of S1 (kos.mono l1) h'
        rw [e2] at e3; cases e3
        exact ⟨d :: ds, s2, P2, rfl, l1.trans l2, S2, Reps.cons (Rep.mono l2 d r1) r2, h2⟩
      | exc c x s2 =>
        have h' : Aft X Φ W P1 σ ((takeAll os s1).bind fun ds s2 => f (d :: ds) s2) k := by
          rw [e2] at h ⊢; exact Aft.mono h l1
        obtain ⟨ds', s2', P2, e3, _⟩ := takeAll_of S1 (kos.mono l1) h'
        rw [e2] at e3; cases e3
      | bad => rw [e2] at h; exact h.elim
    · rw [e] at h; exact h.elim
theorem se_tup {fs : Ar} {x1} (h : SA X W es fs) : SE X W (.Tuple es x1 pos) (sTup fs) := by
  refine ⟨fun Φ => peImp (pe_tup (h.pa Φ)) fun σ H Q q => ?_⟩
  obtain ⟨Pr, st, S, q⟩ := q
  refine ⟨Pr, st, S, q.bind.imp fun os s1 P1 H1 l1 S1 h1 P2 vs l2 S2 ks => ?_⟩
  obtain ⟨ds, s2, P3, e, l3, S3, r, h2⟩ := takeAll_of S2 ks (h1.mono l2)
  by_cases hl : ds.length ≤ LIM
  · rw [if_pos hl] at h2
    refine ⟨by rw [r.length, lim_eq]; exact hl, fun p hp => ?_⟩
    have le := Le.upd (o := .tup vs) (S3.fresh hp).1
    refine h2 _ _ le (S3.laid hp fun _ _ z => nomatch z) _ ?_
    show Rep _ _ _ _
    unfold Rep
    exact ⟨p, vs, rfl, SqT.of upd_same, Reps.mono le ds r⟩
  · rw [if_neg hl] at h2; exact h2.elim
theorem repO_new {Φ : Fr0} {Pr H : Hp} {st : Sto} {σ : St} {p : Addr} {o : HO} {d : D} (S : Sim X.K Φ Pr st σ H) (hp : H p = none) (hc : Cont X.K Pr o d) : RepO X.K Φ Pr (upd H p o) st σ (.own d) (.ref p) :=
  ⟨p, o, rfl, (S.fresh hp).1, (S.fresh hp).2.1, upd_same, hc, fun i s e m z => by
    obtain ⟨ov, h1, h2⟩ := S.slots i s e
    rw [h1] at z; cases z
    obtain ⟨_, ⟨u, q⟩, _⟩ := h2.there m
    rw [hp] at q; cases q⟩
theorem se_lst {fs : Ar} (h : SA X W es fs) : SE X W (.List es pos) (sLst fs) := by
  refine ⟨fun Φ => peImp (pe_lst (h.pa Φ)) fun σ H Q q => ?_⟩
  obtain ⟨Pr, st, S, q⟩ := q
  refine ⟨Pr, st, S, q.bind.imp fun os s1 P1 H1 l1 S1 h1 P2 vs l2 S2 ks => ?_⟩
  obtain ⟨ds, s2, P3, e, l3, S3, r, h2⟩ := takeAll_of S2 ks (h1.mono l2)
  by_cases hl : ds.length ≤ LIM
  · rw [if_pos hl] at h2
    refine ⟨by rw [r.length, lim_eq]; exact hl, fun p hp => ?_⟩
    exact h2 _ _ (Le.refl _) (S3.alloc (o := .lst vs) hp fun _ _ z => nomatch z) _ (repO_new S3 hp r)
  · rw [if_neg hl] at h2; exact h2.elim
inductive Pks (K : PySem.W.Frag) (Pr H : Hp) : List D → List V → Prop
  | nil : Pks K Pr H [] []
  | cons {d : D} {ds : List D} {v : V} {vs : List V} : Pk K Pr H d v → Pks K Pr H ds vs → Pks K Pr H (d :: ds) (v :: vs)
theorem pks_of {K : PySem.W.Frag} {Φ : Fr0} {Pr H : Hp} {st : Sto} {σ : St} (S : Sim K Φ Pr st σ H) {os : List Opd} {vs : List V} {ds : List D} (ks : Kps K Pr σ os vs) (e : peekAll os st = some ds) : Pks K Pr H ds vs := by
  induction ks generalizing ds with
  | nil => cases e; exact .nil
  | @cons o os v vs ko kos ih =>
    unfold peekAll at e
    cases e1 : peek o st with
    | none => rw [e1] at e; cases e
    | some d =>
      cases e2 : peekAll os st with
      | none => rw [e1, e2] at e; cases e
      | some r =>
        rw [e1, e2] at e
        cases e
        exact .cons (pk_of S ko e1) (ih e2)
def CallS (X : Cx) (f : Value) (F : List D → Option Opd) : Prop :=
  ∃ r, CallR X f r ∧ ∀ Φ Pr st σ H ds vs o Q, Sim X.K Φ Pr st σ H → Pks X.K Pr H ds vs → F ds = some o →
    (∀ Pr' H' v, Le Pr Pr' → Sim X.K Φ Pr' st σ H' → RepO X.K Φ Pr' H' st σ o v → Q v H') → r vs H Q
theorem cb_of {Φ : Fr0} {F : List D → Option Opd} {fs : Ar} {r : List V → Hp → VK → Prop} (hq : ∀ Pr st σ H ds vs o Q, Sim X.K Φ Pr st σ H → Pks X.K Pr H ds vs → F ds = some o →
    (∀ Pr' H' v, Le Pr Pr' → Sim X.K Φ Pr' st σ H' → RepO X.K Φ Pr' H' st σ o v → Q v H') → r vs H Q) : ∀ σ H Q, tE X Φ W (sCB F fs) σ H Q → tCB r (tAr X Φ W fs) σ H Q := by
  intro σ H Q q
  obtain ⟨Pr, st, S, q⟩ := q
  refine ⟨Pr, st, S, q.bind.imp fun os s1 P1 H1 l1 S1 h1 P2 vs l2 S2 ks => ?_⟩
  have h1 := h1.mono l2
  cases e : peekAll os s1 with
  | none => rw [e] at h1; exact h1.elim
  | some ds =>
    rw [e] at h1
    cases e2 : F ds with
    | none => simp only [Option.bind_some, e2] at h1; exact h1.elim
    | some o =>
      simp only [Option.bind_some, e2] at h1
      exact hq P2 s1 σ H1 ds vs o Q S2 (pks_of S2 ks e) e2 fun Pr' H' v le S' rv => h1 Pr' H' le S' v rv
theorem se_callB {x : Str} {p : Pos} {id : String} {F : List D → Option Opd} {fs : Ar} (hc : CallS X (.builtin id) F) (hg : Gl X x) (hm : X.mg x = none) (hv : bootBuiltins x = some (.builtin id)) (ha : SA X W (e :: es) fs) (hn : x ≠ "__name__" := by decide) (hdb : (x == ("__debug__" : Str)) = false := by decide)
    (he : starEach (e :: es) X.env = (false, eval e X.env) :: starEach es X.env := by rfl) (hpl : (backTo pos (starEach es X.env)).any (·.1) = false := by rfl) : SE X W (.Call (.Name x p) (e :: es) [] pos) (sCB F fs) := by
  obtain ⟨r, hr, hq⟩ := hc
  exact ⟨fun Φ => peImp (pe_callB hr hg hm hv (ha.pa Φ) hn hdb he hpl) (cb_of (hq Φ))⟩
theorem se_callTy {x : Str} {p : Pos} {id : String} {F : List D → Option Opd} {fs : Ar} (hc : CallS X (.type id) F) (hg : Gl X x) (hm : X.mg x = none) (hv : bootBuiltins x = some (.type id)) (ha : SA X W (e :: es) fs) (hn : x ≠ "__name__" := by decide) (hdb : (x == ("__debug__" : Str)) = false := by decide)
    (he : starEach (e :: es) X.env = (false, eval e X.env) :: starEach es X.env := by rfl) (hpl : (backTo pos (starEach es X.env)).any (·.1) = false := by rfl) : SE X W (.Call (.Name x p) (e :: es) [] pos) (sCB F fs) := by
  obtain ⟨r, hr, hq⟩ := hc
  exact ⟨fun Φ => peImp (pe_callTy hr hg hm hv (ha.pa Φ) hn hdb he hpl) (cb_of (hq Φ))⟩
end
end Dv
namespace Dv
open PySem L2
mutual
def D.toPy : D → Option PyData
  | .non => some .none
  | .bl b => some (.bool b)
  | .int i => some (.int i)
  | .str x => some (.str x)
  | .tup l => (D.toPyAll l).map .tuple
  | .lst l => (D.toPyAll l).map .list
  | .dct _ _ => none
  | .exc _ _ => none
  | .ty _ => none
  | .cls _ => none
  | .scr _ => none
def D.toPyAll : List D → Option (List PyData)
  | [] => some []
  | d :: l => match D.toPy d, D.toPyAll l with
    | some p, some r => some (p :: r)
    | _, _ => none
end
mutual
def D.dep : D → Nat
  | .tup l => D.depAll l + 1
  | .lst l => D.depAll l + 1
  | _ => 0
def D.depAll : List D → Nat
  | [] => 0
  | d :: l => max (D.dep d) (D.depAll l)
end
mutual
def D.isPy : D → Bool
  | .non => true
  | .bl _ => true
  | .int _ => true
  | .str _ => true
  | .tup l => D.isPyAll l
  | .lst l => D.isPyAll l
  | _ => false
def D.isPyAll : List D → Bool
  | [] => true
  | d :: l => D.isPy d && D.isPyAll l
end
mutual
def eqvD : D → D → Bool
  | .non, .non => true
  | .bl a, .bl b => a == b
  | .bl a, .int j => (if a then 1 else 0) == j
  | .int i, .bl b => i == (if b then 1 else 0)
  | .int i, .int j => i == j
  | .str x, .str y => x == y
  | .lst l, .lst m => eqvL l m
  | .tup l, .tup m => eqvL l m
  | _, _ => false
def eqvL : List D → List D → Bool
  | [], [] => true
  | d :: l, e :: m => eqvD d e && eqvL l m
  | _, _ => false
end
section
variable {X : Cx} {Φ : Fr0} {Pr H : Hp} {st : Sto} {σ : St}
mutual
theorem toPy_of {K : PySem.W.Frag} (S : Sim K Φ Pr st σ H) : ∀ (d : D) {v : V}, D.isPy d = true → Rep K Pr d v → ∃ p, D.toPy d = some p ∧ Dp K H v p ∧ p.canLay0 = true ∧ p.depth = D.dep d
  | .non, _, _, r => by unfold Rep at r; subst r; exact ⟨_, rfl, .non, rfl, rfl⟩
  | .bl b, _, _, r => by unfold Rep at r; subst r; exact ⟨_, rfl, .bl b, rfl, rfl⟩
  | .int i, _, _, r => by unfold Rep at r; subst r; exact ⟨_, rfl, .int i, rfl, rfl⟩
  | .str x, _, _, r => by unfold Rep at r; obtain ⟨h, rfl⟩ := r; exact ⟨_, rfl, .str x, h, rfl⟩
  | .tup l, _, h, r => by
    unfold Rep at r
    obtain ⟨a, xs, rfl, q, r⟩ := r
    obtain ⟨ps, e, dp, cl, dd⟩ := toPyAll_of S l (by unfold D.isPy at h; exact h) r
    refine ⟨.tuple ps, by unfold D.toPy; rw [e]; rfl, .tup (S.sqT q) dp, by unfold PyData.canLay0; exact cl, ?_⟩
    unfold PyData.depth D.dep
    rw [dd]
  | .lst l, _, h, r => by
    unfold Rep at r
    obtain ⟨a, xs, rfl, q, r⟩ := r
    obtain ⟨ps, e, dp, cl, dd⟩ := toPyAll_of S l (by unfold D.isPy at h; exact h) r
    refine ⟨.list ps, by unfold D.toPy; rw [e]; rfl, .lst (.inl (S.rdL q)) dp, by unfold PyData.canLay0; exact cl, ?_⟩
    unfold PyData.depth D.dep
    rw [dd]
  | .dct _ _, _, h, _ => by unfold D.isPy at h; cases h
  | .exc _ _, _, h, _ => by unfold D.isPy at h; cases h
  | .ty _, _, h, _ => by unfold D.isPy at h; cases h
  | .cls _, _, h, _ => by unfold D.isPy at h; cases h
  | .scr _, _, h, _ => by unfold D.isPy at h; cases h
theorem toPyAll_of {K : PySem.W.Frag} (S : Sim K Φ Pr st σ H) : ∀ (l : List D) {xs : List V}, D.isPyAll l = true → Reps K Pr l xs → ∃ ps, D.toPyAll l = some ps ∧ DpAll K H xs ps ∧ PyData.canLayAll0 ps = true ∧ PyData.depthAll ps = D.depAll l
  | [], _, _, r => by unfold Reps at r; subst r; exact ⟨[], rfl, .nil, rfl, rfl⟩
  | d :: l, _, h, r => by
    unfold Reps at r
    obtain ⟨x, t, rfl, r1, r2⟩ := r
    unfold D.isPyAll at h
    rw [Bool.and_eq_true] at h
    obtain ⟨p, e1, d1, c1, n1⟩ := toPy_of S d h.1 r1
    obtain ⟨ps, e2, d2, c2, n2⟩ := toPyAll_of S l h.2 r2
    refine ⟨p :: ps, by unfold D.toPyAll; rw [e1, e2], .cons d1 d2, by unfold PyData.canLayAll0; rw [c1, c2]; rfl, ?_⟩
    unfold PyData.depthAll D.depAll
    rw [n1, n2]
end
theorem pk_py {K : PySem.W.Frag} (S : Sim K Φ Pr st σ H) {d : D} {v : V} (h : D.isPy d = true) (p : Pk K Pr H d v) : ∃ q, D.toPy d = some q ∧ Dp K H v q ∧ q.canLay0 = true ∧ q.depth = D.dep d := by
  rcases p with p | ⟨a, o, rfl, ho, hc⟩
  · exact toPy_of S d h p
  · unfold Cont at hc
    split at hc
    · obtain ⟨ps, e, dp, cl, dd⟩ := toPyAll_of S _ (by unfold D.isPy at h; exact h) hc
      refine ⟨.list ps, by unfold D.toPy; rw [e]; rfl, .lst (.inl (.inl ho)) dp, by unfold PyData.canLay0; exact cl, ?_⟩
      unfold PyData.depth D.dep
      rw [dd]
    · unfold D.isPy at h; cases h
    · unfold D.isPy at h; cases h
    · exact hc.elim
end
mutual
theorem eqv_py : ∀ (d e : D) {p q : PyData}, D.toPy d = some p → D.toPy e = some q → PyData.eqv p q = eqvD d e
  | .non, e, _, _, h, k => by
    cases h
    cases e <;> unfold D.toPy at k <;> (try simp only [Option.map_eq_some_iff] at k) <;> (try (obtain ⟨_, _, rfl⟩ := k)) <;> (try cases k) <;> simp [PyData.eqv, eqvD]
  | .bl b, e, _, _, h, k => by
    cases h
    cases e <;> unfold D.toPy at k <;> (try simp only [Option.map_eq_some_iff] at k) <;> (try (obtain ⟨_, _, rfl⟩ := k)) <;> (try cases k) <;> simp [PyData.eqv, eqvD]
  | .int i, e, _, _, h, k => by
    cases h
    cases e <;> unfold D.toPy at k <;> (try simp only [Option.map_eq_some_iff] at k) <;> (try (obtain ⟨_, _, rfl⟩ := k)) <;> (try cases k) <;> simp [PyData.eqv, eqvD]
  | .str x, e, _, _, h, k => by
    cases h
    cases e <;> unfold D.toPy at k <;> (try simp only [Option.map_eq_some_iff] at k) <;> (try (obtain ⟨_, _, rfl⟩ := k)) <;> (try cases k) <;> simp [PyData.eqv, eqvD]
  | .tup l, e, _, _, h, k => by
    unfold D.toPy at h
    simp only [Option.map_eq_some_iff] at h
    obtain ⟨ps, h, rfl⟩ := h
    cases e with
    | tup m =>
      unfold D.toPy at k
      simp only [Option.map_eq_some_iff] at k
      obtain ⟨qs, k, rfl⟩ := k
      unfold PyData.eqv eqvD
      exact eqvL_py l m h k
    | _ => unfold D.toPy at k <;> (try simp only [Option.map_eq_some_iff] at k) <;> (try (obtain ⟨_, _, rfl⟩ := k)) <;> (try cases k) <;> simp [PyData.eqv, eqvD]
  | .lst l, e, _, _, h, k => by
    unfold D.toPy at h
    simp only [Option.map_eq_some_iff] at h
    obtain ⟨ps, h, rfl⟩ := h
    cases e with
    | lst m =>
      unfold D.toPy at k
      simp only [Option.map_eq_some_iff] at k
      obtain ⟨qs, k, rfl⟩ := k
      unfold PyData.eqv eqvD
      exact eqvL_py l m h k
    | _ => unfold D.toPy at k <;> (try simp only [Option.map_eq_some_iff] at k) <;> (try (obtain ⟨_, _, rfl⟩ := k)) <;> (try cases k) <;> simp [PyData.eqv, eqvD]
  | .dct _ _, _, _, _, h, _ => by unfold D.toPy at h; cases h
  | .exc _ _, _, _, _, h, _ => by unfold D.toPy at h; cases h
  | .ty _, _, _, _, h, _ => by unfold D.toPy at h; cases h
  | .cls _, _, _, _, h, _ => by unfold D.toPy at h; cases h
  | .scr _, _, _, _, h, _ => by unfold D.toPy at h; cases h
theorem eqvL_py : ∀ (l m : List D) {ps qs : List PyData}, D.toPyAll l = some ps → D.toPyAll m = some qs → PyData.eqvAll ps qs = eqvL l m
  | [], m, _, _, h, k => by
    cases h
    cases m with
    | nil => cases k; simp [PyData.eqvAll, eqvL]
    | cons e m =>
      unfold D.toPyAll at k
      split at k
      · cases k; simp [PyData.eqvAll, eqvL]
      · cases k
  | d :: l, m, _, _, h, k => by
    unfold D.toPyAll at h
    split at h
    · rename_i p ps h1 h2
      cases h
      cases m with
      | nil => cases k; simp [PyData.eqvAll, eqvL]
      | cons e m =>
        unfold D.toPyAll at k
        split at k
        · rename_i q qs k1 k2
          cases k
          simp only [PyData.eqvAll, eqvL]
          rw [eqv_py d e h1 k1, eqvL_py l m h2 k2]
        · cases k
    · cases h
end
def DEEP : Nat := 150
def eqOk (d e : D) : Bool := D.isPy d && D.isPy e && decide (min (D.dep d) (D.dep e) ≤ DEEP)
def eqD (d e : D) : Option Opd := if eqOk d e then some (.val (.bl (eqvD d e))) else none
def neD (d e : D) : Option Opd := if eqOk d e then some (.val (.bl (!eqvD d e))) else none
section
variable {X : Cx} {n : Nat}
theorem room200 (hr : Room n X.A) : X.A.units + 200 < cLine := by have := hr.un; omega
theorem eqOk_py {d e : D} (h : eqOk d e = true) : D.isPy d = true ∧ D.isPy e = true ∧ min (D.dep d) (D.dep e) ≤ 150 := by
  unfold eqOk at h
  simp only [Bool.and_eq_true, decide_eq_true_eq] at h
  exact ⟨h.1.1, h.1.2, h.2⟩
theorem os_eq (hr : Room n X.A) : OpS X (compareOp .Eq) eqD := by
  refine ⟨fun x y H Q => ∃ d e, Dp X.K H x d ∧ Dp X.K H y e ∧ d.canLay0 = true ∧ e.canLay0 = true ∧ min d.depth e.depth ≤ 150 ∧ Q (.bl (PyData.eqv d e)) H, ?_, ?_⟩
  · intro pins s σ H x y v u Q I rx ry h
    obtain ⟨d, e, hd, he, sd, se, hm, q⟩ := h
    obtain ⟨as, r1⟩ := Dp.reads I d x v hd rx
    obtain ⟨bs, r2⟩ := Dp.reads I e y u he ry
    exact SeqAt.compareEq_reads r1 r2 sd se (by have := room200 hr; omega) ⟨.bl _, H, I, rfl, q⟩
  · intro Φ Pr st σ H dx dy x y o Q S px py e q
    unfold eqD at e
    split at e
    · rename_i h
      cases e
      obtain ⟨h1, h2, h3⟩ := eqOk_py h
      obtain ⟨p1, e1, d1, c1, n1⟩ := pk_py S h1 px
      obtain ⟨p2, e2, d2, c2, n2⟩ := pk_py S h2 py
      refine ⟨p1, p2, d1, d2, c1, c2, by rw [n1, n2]; exact h3, ?_⟩
      rw [eqv_py dx dy e1 e2]
      exact q Pr H _ (Le.refl _) S ro_bl
    · cases e
theorem os_ne (hr : Room n X.A) : OpS X (compareOp .NotEq) neD := by
  refine ⟨fun x y H Q => ∃ d e, Dp X.K H x d ∧ Dp X.K H y e ∧ d.canLay0 = true ∧ e.canLay0 = true ∧ min d.depth e.depth ≤ 150 ∧ Q (.bl (!PyData.eqv d e)) H, ?_, ?_⟩
  · intro pins s σ H x y v u Q I rx ry h
    obtain ⟨d, e, hd, he, sd, se, hm, q⟩ := h
    obtain ⟨as, r1⟩ := Dp.reads I d x v hd rx
    obtain ⟨bs, r2⟩ := Dp.reads I e y u he ry
    exact SeqAt.compareNe_reads r1 r2 sd se (by have := room200 hr; omega) ⟨.bl _, H, I, rfl, q⟩
  · intro Φ Pr st σ H dx dy x y o Q S px py e q
    unfold neD at e
    split at e
    · rename_i h
      cases e
      obtain ⟨h1, h2, h3⟩ := eqOk_py h
      obtain ⟨p1, e1, d1, c1, n1⟩ := pk_py S h1 px
      obtain ⟨p2, e2, d2, c2, n2⟩ := pk_py S h2 py
      refine ⟨p1, p2, d1, d2, c1, c2, by rw [n1, n2]; exact h3, ?_⟩
      rw [eqv_py dx dy e1 e2]
      exact q Pr H _ (Le.refl _) S ro_bl
    · cases e
theorem op_catL : OpR X (binaryOp .Add) (fun x y H Q => ∃ l b xs zs, x = .ref l ∧ y = .ref b ∧ Rd H l (.lst xs) ∧ Rd H b (.lst zs) ∧ xs.length + zs.length ≤ sizeLine ∧ ∀ p, H p = none → Q (.ref p) (upd H p (.lst (xs ++ zs)))) := by
  intro pins s σ H x y v u Q I rx ry h
  obtain ⟨l, b, xs, zs, rfl, rfl, hH, hB, hz, q⟩ := h
  cases rx
  cases ry
  obtain ⟨z, its, n, r, e⟩ : ObjOk X.prog X.w H s.heap l (.lst xs) := hH.ok I.hok
  obtain ⟨z2, its2, n2, r2, e2⟩ : ObjOk X.prog X.w H s.heap b (.lst zs) := hB.ok I.hok
  have hl := r.length
  have hl2 := r2.length
  refine PySem.P.add_list e e2 ?_ (by rw [List.size_toArray, List.size_toArray]; omega)
  have ea : its.toArray ++ its2.toArray = (its ++ its2).toArray := by simp
  rw [ea]
  exact ⟨.ref _, _, I.lnew (t' := s.toks) (r.append r2) (by rw [List.length_append]; omega), rfl, q _ I.fresh⟩
def addD : D → D → Option Opd
  | .int i, .int j => some (.val (.int (i + j)))
  | .str x, .str y => if x.length + y.length ≤ LIM then some (.val (.str (x ++ y))) else none
  | .tup l, .tup m => if l.length + m.length ≤ LIM then some (.val (.tup (l ++ m))) else none
  | .lst l, .lst m => if l.length + m.length ≤ LIM then some (.own (.lst (l ++ m))) else none
  | _, _ => none
theorem strOk_append {x y : Str} (h : PyData.strOk x = true) (k : PyData.strOk y = true) : PyData.strOk (x ++ y) = true := by
  unfold PyData.strOk at *
  show (x.cps ++ y.cps).all (· < 0x110000) = true
  rw [Array.all_append, h, k]; rfl
theorem os_add : OpS X (binaryOp .Add) addD := by
  refine ⟨_, op_add.or (op_add_str.or (op_catA.or op_catL)), ?_⟩
  intro Φ Pr st σ H dx dy x y o Q S px py e q
  unfold addD at e
  split at e
  · cases e
    cases px.int
    cases py.int
    exact .inl ⟨_, _, rfl, rfl, q Pr H _ (Le.refl _) S ro_int⟩
  · rename_i i j
    by_cases hl : i.length + j.length ≤ LIM
    · rw [if_pos hl] at e; cases e
      have s1 := px.strOk
      have s2 := py.strOk
      cases px.str
      cases py.str
      exact .inr (.inl ⟨_, _, rfl, rfl, by rw [lim_eq]; exact hl, q Pr H _ (Le.refl _) S (ro_str (strOk_append s1 s2))⟩)
    · rw [if_neg hl] at e; cases e
  · rename_i l m
    by_cases hl : l.length + m.length ≤ LIM
    · rw [if_pos hl] at e; cases e
      obtain ⟨a, xs, rfl, q1, r1⟩ := px.tup S
      obtain ⟨b, ys, rfl, q2, r2⟩ := py.tup S
      have l1 := r1.length
      have l2 := r2.length
      have isnil : ∀ {l : List D} {xs : List V}, Reps X.K Pr l xs → xs = [] → l = [] := fun {l xs} r e => by
        have := r.length
        rw [e] at this
        exact List.eq_nil_of_length_eq_zero this.symm
      refine .inr (.inr (.inl ⟨a, b, xs, ys, rfl, rfl, q1, q2, by rw [lim_eq, l1, l2]; exact hl, fun h => ?_, fun _ h => ?_, fun _ _ p hp => ?_⟩))
      · have := isnil r1 h
        subst this
        refine q Pr H _ (Le.refl _) S ?_
        rcases py with py | ⟨_, _, _, _, hc⟩
        · exact py
        · unfold Cont at hc; split at hc <;> first | exact hc.elim | contradiction
      · have := isnil r2 h
        subst this
        refine q Pr H _ (Le.refl _) S ?_
        rw [List.append_nil]
        rcases px with px | ⟨_, _, _, _, hc⟩
        · exact px
        · unfold Cont at hc; split at hc <;> first | exact hc.elim | contradiction
      · have le := Le.upd (o := .tup (xs ++ ys)) (S.fresh hp).1
        refine q _ _ _ le (S.laid hp fun _ _ z => nomatch z) ?_
        show Rep _ _ _ _
        unfold Rep
        exact ⟨p, _, rfl, SqT.of upd_same, Reps.append (Reps.mono le _ r1) (Reps.mono le _ r2)⟩
    · rw [if_neg hl] at e; cases e
  · rename_i l m
    by_cases hl : l.length + m.length ≤ LIM
    · rw [if_pos hl] at e; cases e
      obtain ⟨a, xs, rfl, q1, r1⟩ := px.lst S
      obtain ⟨b, ys, rfl, q2, r2⟩ := py.lst S
      refine .inr (.inr (.inr ⟨a, b, xs, ys, rfl, rfl, q1, q2, by rw [lim_eq, r1.length, r2.length]; exact hl, fun p hp => ?_⟩))
      exact q _ _ _ (Le.refl _) (S.alloc (o := .lst (xs ++ ys)) hp fun _ _ z => nomatch z) (repO_new S hp (Reps.append r1 r2))
    · rw [if_neg hl] at e; cases e
  · cases e
theorem os_int {f : Value → Value → Sem Value} {C : Int → Int → Prop} [∀ i j, Decidable (C i j)] {g : Int → Int → Int} (h : OpR X f (rI C fun i j => .int (g i j))) :
    OpS X f (fun x y => match x, y with
      | .int i, .int j => if C i j then some (.val (.int (g i j))) else none
      | _, _ => none) := by
  refine ⟨_, h, ?_⟩
  intro Φ Pr st σ H dx dy x y o Q S px py e q
  cases dx <;> cases dy <;> first | cases e | skip
  rename_i i j
  by_cases hc : C i j
  · simp only [if_pos hc] at e
    cases e
    cases px.int
    cases py.int
    exact ⟨_, _, rfl, rfl, hc, q Pr H _ (Le.refl _) S ro_int⟩
  · simp only [if_neg hc] at e
    cases e
theorem os_intB {f : Value → Value → Sem Value} {g : Int → Int → Bool} (h : OpR X f (rI0 fun i j => .bl (g i j))) :
    OpS X f (fun x y => match x, y with
      | .int i, .int j => some (.val (.bl (g i j)))
      | _, _ => none) := by
  refine ⟨_, h, ?_⟩
  intro Φ Pr st σ H dx dy x y o Q S px py e q
  cases dx <;> cases dy <;> first | cases e | skip
  cases px.int
  cases py.int
  exact ⟨_, _, rfl, rfl, q Pr H _ (Le.refl _) S ro_bl⟩
def subD : D → D → Option Opd
  | .int i, .int j => some (.val (.int (i - j)))
  | _, _ => none
theorem os_sub : OpS X (binaryOp .Sub) subD := by
  refine ⟨_, op_sub, ?_⟩
  intro Φ Pr st σ H dx dy x y o Q S px py e q
  cases dx <;> cases dy <;> first | cases e | skip
  cases px.int
  cases py.int
  exact ⟨_, _, rfl, rfl, q Pr H _ (Le.refl _) S ro_int⟩
end
end Dv
namespace Dv
open PySem L2 PySem.Spec PyProof.Rows
section
variable {X : Cx} {n : Nat}
def MulOk (i j : Int) : Prop := CMul i j ∨ CMulW i j
open Classical in
noncomputable def mulD : D → D → Option Opd
  | .int i, .int j => if MulOk i j then some (.val (.int (i * j))) else none
  | .lst l, .int k => if -B63 ≤ k ∧ k < B63 ∧ l.length * k.toNat ≤ LIM then some (.own (.lst (List.replicate k.toNat l).flatten)) else none
  | _, _ => none
theorem op_repL : OpR X (binaryOp .Mult) (fun x y H Q => ∃ l k xs, x = .ref l ∧ y = .int k ∧ Rd H l (.lst xs) ∧ -(2 ^ 63) ≤ k ∧ k < 2 ^ 63 ∧ xs.length * k.toNat ≤ sizeLine ∧
  ∀ p, H p = none → Q (.ref p) (upd H p (.lst (List.replicate k.toNat xs).flatten))) := by
  intro pins s σ H x y v u Q I rx ry h
  obtain ⟨l, k, xs, rfl, rfl, hH, h1, h2, hz, q⟩ := h
  cases rx
  obtain ⟨t, rfl⟩ := ry
  obtain ⟨z, its, n, r, e⟩ : ObjOk X.prog X.w H s.heap l (.lst xs) := hH.ok I.hok
  have hl := r.length
  have hlen : its.toArray.size * k.toNat ≤ sizeLine := by rw [List.size_toArray, ← hl]; exact hz
  have hcap : ¬ its.toArray.size * k.toNat > (2 ^ 63 - 1) / 8 := by
    have : (sizeLine : Nat) ≤ (2 ^ 63 - 1) / 8 := by decide
    omega
  have hfit : ¬ (!Builtin.List.listFitsIndex k) = true := by
    rw [fitsIndex_both h1 h2]
    exact Bool.false_ne_true
  have hlong : ¬ Builtin.List.listTooLong (its.toArray.size * k.toNat) = true := by
    rw [notLongL hlen]
    exact Bool.false_ne_true
  have hnew : List.foldl (fun x1 x2 => x1 ++ x2) #[] (List.replicate (if its.toArray.isEmpty = true then 0 else k.toNat) its.toArray) = (List.replicate k.toNat its).flatten.toArray := by
    have f0 : ∀ m : Nat, List.foldl (fun x1 x2 => x1 ++ x2) #[] (List.replicate m its.toArray) = (List.replicate m its).flatten.toArray := fun m => by
      have := L2.foldl_rep its m []
      rw [List.nil_append] at this
      exact this
    rw [f0]
    cases its with
    | nil => simp
    | cons a r' => rw [if_neg (by simp)]
  refine wpAny_binaryOp_repeat_ref (T := "list") (U := "int") (by decide) ⟨_, e, rfl⟩ (fun s' => typeIs_int s' k t) noFill_list_mul F.fills_int_mul F.slot_int_rmul repeat_list F.slot_int_index.lookup
    (call_meets F.slot_int_rmul (typeIs_int s k t) F.entry_int_rmul (F.args_int_rmul_2 _ _) (int___rmul___int_list k t l its.toArray n)
      ⟨e, rfl, ⟨_, e, rfl⟩, call_meets F.slot_list_mul ⟨_, e, rfl⟩ F.entry_list_mul (F.args_list_mul_2 _ _) (AutoListH.list___mul___list_int_3 l its.toArray n k t hfit hcap hlong) ⟨e, ?_⟩⟩)
  rw [hnew]
  exact ⟨.ref _, _, I.lnew (t' := s.toks) (r.rep k.toNat) (by rw [PyProof.Rows.lm_len_rep_flat, Nat.mul_comm]; exact hz), rfl, q _ I.fresh⟩
theorem Reps.rep {K : PySem.W.Frag} {Pr : Hp} {l : List D} {xs : List V} (h : Reps K Pr l xs) : ∀ k : Nat, Reps K Pr (List.replicate k l).flatten (List.replicate k xs).flatten
  | 0 => Reps.nil
  | k + 1 => by
    rw [List.replicate_succ, List.replicate_succ, List.flatten_cons, List.flatten_cons]
    exact Reps.append h (Reps.rep h k)
theorem os_mul : OpS X (binaryOp .Mult) mulD := by
  refine ⟨_, op_mul.or (op_mulW.or op_repL), ?_⟩
  intro Φ Pr st σ H dx dy x y o Q S px py e q
  unfold mulD at e
  split at e
  · rename_i i j
    split at e
    · rename_i h
      cases e
      cases px.int
      cases py.int
      rcases h with h | h
      · exact .inl ⟨_, _, rfl, rfl, h, q Pr H _ (Le.refl _) S ro_int⟩
      · exact .inr (.inl ⟨_, _, rfl, rfl, h, q Pr H _ (Le.refl _) S ro_int⟩)
    · cases e
  · rename_i l k
    split at e
    · rename_i h
      cases e
      obtain ⟨a, xs, rfl, q1, r1⟩ := px.lst S
      cases py.int
      rw [B63_eq] at h
      refine .inr (.inr ⟨a, k, xs, rfl, rfl, q1, h.1, h.2.1, by rw [lim_eq, r1.length]; exact h.2.2, fun p hp => ?_⟩)
      exact q _ _ _ (Le.refl _) (S.alloc (o := .lst _) hp fun _ _ z => nomatch z) (repO_new S hp (Reps.rep r1 _))
    · cases e
  · cases e
def fdivD : D → D → Option Opd
  | .int i, .int j => if 0 < j ∧ j.natAbs.log2 < 9000 then some (.val (.int (i / j))) else none
  | _, _ => none
theorem os_fdiv : OpS X (binaryOp .FloorDiv) fdivD := by
  refine ⟨_, op_fdivW, ?_⟩
  intro Φ Pr st σ H dx dy x y o Q S px py e q
  cases dx <;> cases dy <;> first | cases e | skip
  rename_i i j
  by_cases hc : 0 < j ∧ j.natAbs.log2 < 9000
  · simp only [fdivD, if_pos hc] at e
    cases e
    cases px.int
    cases py.int
    exact ⟨_, _, rfl, rfl, hc, q Pr H _ (Le.refl _) S ro_int⟩
  · simp only [fdivD, if_neg hc] at e
    cases e
def modD : D → D → Option Opd
  | .int i, .int j => if 0 < j then some (.val (.int (i % j))) else none
  | _, _ => none
theorem os_mod : OpS X (binaryOp .Mod) modD := by
  refine ⟨_, op_mod, ?_⟩
  intro Φ Pr st σ H dx dy x y o Q S px py e q
  cases dx <;> cases dy <;> first | cases e | skip
  rename_i i j
  by_cases hc : 0 < j
  · simp only [modD, if_pos hc] at e
    cases e
    cases px.int
    cases py.int
    exact ⟨_, _, rfl, rfl, hc, q Pr H _ (Le.refl _) S ro_int⟩
  · simp only [modD, if_neg hc] at e
    cases e
def powD : D → D → Option Opd
  | .int i, .int j => if 0 ≤ j ∧ j ≤ 1000000 ∧ i.natAbs < 2 ^ 64 then some (.val (.int (i ^ j.toNat))) else none
  | _, _ => none
theorem os_pow : OpS X (binaryOp .Pow) powD := by
  refine ⟨_, op_pow, ?_⟩
  intro Φ Pr st σ H dx dy x y o Q S px py e q
  cases dx <;> cases dy <;> first | cases e | skip
  rename_i i j
  by_cases hc : 0 ≤ j ∧ j ≤ 1000000 ∧ i.natAbs < 2 ^ 64
  · simp only [powD, if_pos hc] at e
    cases e
    cases px.int
    cases py.int
    exact ⟨_, _, rfl, rfl, hc, q Pr H _ (Le.refl _) S ro_int⟩
  · simp only [powD, if_neg hc] at e
    cases e
def UnS (X : Cx) (f : Value → Sem Value) (F : D → Option Opd) : Prop :=
  ∃ r, UnR X f r ∧ ∀ Φ Pr st σ H dx x o Q, Sim X.K Φ Pr st σ H → Pk X.K Pr H dx x → F dx = some o →
    (∀ Pr' H' v, Le Pr Pr' → Sim X.K Φ Pr' st σ H' → RepO X.K Φ Pr' H' st σ o v → Q v H') → r x H Q
theorem one_of {W : WX} {fa : E} {F : D → Option Opd} {Φ : Fr0} {r : V → Hp → VK → Prop} (hq : ∀ Pr st σ H dx x o Q, Sim X.K Φ Pr st σ H → Pk X.K Pr H dx x → F dx = some o →
    (∀ Pr' H' v, Le Pr Pr' → Sim X.K Φ Pr' st σ H' → RepO X.K Φ Pr' H' st σ o v → Q v H') → r x H Q) : ∀ σ H Q, tE X Φ W (sOp1 F fa) σ H Q → tUn r (tE X Φ W fa) σ H Q := by
  intro σ H Q h
  obtain ⟨Pr, st, S, h⟩ := h
  refine ⟨Pr, st, S, h.bind.imp fun oa s1 P1 H1 l1 S1 h1 x hx => ?_⟩
  obtain ⟨P1', l1', S1', k1⟩ := settle S1 hx
  have h1 := h1.mono l1'
  unfold op1 at h1
  cases e1 : peek oa s1 with
  | none => rw [e1] at h1; exact h1.elim
  | some dx =>
    rw [e1] at h1
    cases e3 : F dx with
    | none => simp only [Option.bind_some, e3] at h1; exact h1.elim
    | some o =>
      simp only [Option.bind_some, e3] at h1
      exact hq P1' s1 σ H1 dx x o Q S1' (pk_of S1' k1 e1) e3 fun Pr' H' v le S' rv => h1 Pr' H' le S' v rv
theorem se_un {W : WX} {a : Expr} {fa : E} {pos : Pos} {op : UnaryOp} {F : D → Option Opd} (ho : UnS X (unaryOp op) F) (ha : SE X W a fa) : SE X W (.UnaryOp op a pos) (sOp1 F fa) := by
  obtain ⟨r, hr, hq⟩ := ho
  exact ⟨fun Φ => peImp (pe_un hr (ha.pe Φ)) (one_of (hq Φ))⟩
def negD : D → Option Opd
  | .int i => some (.val (.int (-i)))
  | _ => none
theorem us_neg : UnS X (unaryOp .USub) negD := by
  refine ⟨_, un_neg, ?_⟩
  intro Φ Pr st σ H dx x o Q S px e q
  cases dx <;> first | cases e | skip
  cases px.int
  exact ⟨_, rfl, q Pr H _ (Le.refl _) S ro_int⟩
def isNon : D → Bool
  | .non => true
  | _ => false
theorem pk_isNon {K : PySem.W.Frag} {Pr H : Hp} {d : D} {v : V} (h : Pk K Pr H d v) : decide (v = .non) = isNon d := by
  have no : ∀ a, decide (V.ref a = V.non) = false := fun a => decide_eq_false (fun z => nomatch z)
  rcases h with h | ⟨a, o, rfl, _, hc⟩
  · cases d <;> unfold Rep at h
    · subst h; rfl
    · subst h; rfl
    · subst h; rfl
    · obtain ⟨_, rfl⟩ := h; rfl
    · obtain ⟨a, _, rfl, _⟩ := h; exact no a
    · obtain ⟨a, _, rfl, _⟩ := h; exact no a
    · obtain ⟨a, rfl, _⟩ := h; exact no a
    · obtain ⟨a, _, _, _, rfl, _⟩ := h; exact no a
    · subst h; rfl
    · obtain ⟨a, rfl, _⟩ := h; exact no a
    · obtain ⟨a, _, rfl, _⟩ := h; exact no a
  · rw [no]
    cases d <;> first | rfl | (unfold Cont at hc; split at hc <;> first | exact hc.elim | contradiction)
def isD : D → D → Option Opd
  | x, .non => some (.val (.bl (isNon x)))
  | .bl a, .bl b => some (.val (.bl (a == b)))
  | _, _ => none
def isntD : D → D → Option Opd
  | x, .non => some (.val (.bl (!isNon x)))
  | .bl a, .bl b => some (.val (.bl (!(a == b))))
  | _, _ => none
theorem os_is : OpS X (compareOp .Is) isD := by
  refine ⟨_, op_isN.or op_isBl, ?_⟩
  intro Φ Pr st σ H dx dy x y o Q S px py e q
  unfold isD at e
  split at e
  · cases e
    refine .inl ⟨py.non, ?_⟩
    rw [pk_isNon px]
    exact q Pr H _ (Le.refl _) S ro_bl
  · rename_i a b
    cases e
    refine .inr ⟨a, b, px.bl, py.bl, ?_⟩
    rw [show decide (a = b) = (a == b) from (Bool.beq_eq_decide_eq a b).symm]
    exact q Pr H _ (Le.refl _) S ro_bl
  · cases e
theorem os_isnt : OpS X (compareOp .IsNot) isntD := by
  refine ⟨_, op_notN.or op_notBl, ?_⟩
  intro Φ Pr st σ H dx dy x y o Q S px py e q
  unfold isntD at e
  split at e
  · cases e
    refine .inl ⟨py.non, ?_⟩
    rw [pk_isNon px]
    exact q Pr H _ (Le.refl _) S ro_bl
  · rename_i a b
    cases e
    refine .inr ⟨a, b, px.bl, py.bl, ?_⟩
    rw [show decide (a = b) = (a == b) from (Bool.beq_eq_decide_eq a b).symm]
    exact q Pr H _ (Le.refl _) S ro_bl
  · cases e
def atD (x y : D) : Option Opd := match x, y with
  | .lst l, .int i => (atI l i).map Opd.val
  | .tup l, .int i => (atI l i).map Opd.val
  | .scr l, .int i => (atI l i).map Opd.val
  | .str z, .int i => if z.length ≤ LIM then (atI z.cps.toList i).map fun c => Opd.val (.str ⟨#[c]⟩) else none
  | _, _ => none
theorem atI_reps {K : PySem.W.Frag} {Pr : Hp} {l : List D} {xs : List V} {i : Int} {d : D} (r : Reps K Pr l xs) (h : atI l i = some d) : ∃ v, atI xs i = some v ∧ Rep K Pr d v := by
  unfold atI at h ⊢
  rw [r.length]
  cases e : ixN l.length i with
  | none => rw [e] at h; cases h
  | some j =>
    rw [e] at h
    exact r.get h
theorem strOk_sign {z : Str} {c : Nat} (h : PyData.strOk z = true) (m : c ∈ z.cps.toList) : PyData.strOk ⟨#[c]⟩ = true := by
  unfold PyData.strOk at *
  rw [Array.all_eq_true_iff_forall_mem] at h
  have := h c (by simpa using m)
  simpa using this
theorem atI_mem {α : Type} {l : List α} {i : Int} {a : α} (h : atI l i = some a) : a ∈ l := by
  unfold atI at h
  cases e : ixN l.length i with
  | none => rw [e] at h; cases h
  | some j => rw [e] at h; exact List.mem_of_getElem? h
theorem se_ix {W : WX} {a b : Expr} {fa fb : E} {pos : Pos} (ha : SE X W a fa) (hb : SE X W b fb) (hs : PlainIx b := by intro _ _; rfl) : SE X W (.Subscript a b pos) (sOp2 atD fa fb) := by
  refine ⟨fun Φ => peImp (pe_ix ix_seq (ha.pe Φ) (hb.pe Φ) hs) (two_of fun Pr st σ H oa ob x y Q S k1 k2 h => ?_)⟩
  obtain ⟨dx, dy, o, p1, p2, e, h⟩ := op2_of S k1 k2 h
  have fin : ∀ {d : D} {v : V}, o = .val d → Rep X.K Pr d v → Q v H := fun {d v} eo r => by subst eo; exact h Pr H (Le.refl _) S v r
  unfold atD at e
  split at e
  · rw [Option.map_eq_some_iff] at e
    obtain ⟨d, e, rfl⟩ := e
    obtain ⟨p, xs, rfl, q, r⟩ := p1.lst S
    cases p2.int
    obtain ⟨v, hv, rv⟩ := atI_reps r e
    exact .inl ⟨p, xs, _, v, rfl, rfl, .inl q, hv, fin rfl rv⟩
  · rw [Option.map_eq_some_iff] at e
    obtain ⟨d, e, rfl⟩ := e
    obtain ⟨p, xs, rfl, q, r⟩ := p1.tup S
    cases p2.int
    obtain ⟨v, hv, rv⟩ := atI_reps r e
    exact .inr (.inl ⟨p, xs, _, v, rfl, rfl, q, hv, fin rfl rv⟩)
  · rw [Option.map_eq_some_iff] at e
    obtain ⟨d, e, rfl⟩ := e
    obtain ⟨p, xs, rfl, q, r⟩ := p1.scr S
    cases p2.int
    obtain ⟨v, hv, rv⟩ := atI_reps r e
    exact .inl ⟨p, xs, _, v, rfl, rfl, q, hv, fin rfl rv⟩
  · split at e
    · rename_i hl
      rw [Option.map_eq_some_iff] at e
      obtain ⟨c, e, rfl⟩ := e
      have ok := p1.strOk
      cases p1.str
      cases p2.int
      exact .inr (.inr ⟨_, _, c, rfl, rfl, by rw [lim_eq]; exact hl, e, fin rfl (rep_str (strOk_sign ok (atI_mem e)))⟩)
    · cases e
  · cases e
def cutL {α : Type} (xs : List α) (lo hi : Option Int) : List α := (xs.drop (HT.sIx xs.length 0 lo)).take (HT.sIx xs.length xs.length hi - HT.sIx xs.length 0 lo)
abbrev Po := Sto → R (Option Int)
def pNone : Po := fun s => .ok none s
def dI : D → Option (Option Int)
  | .int i => some (some i)
  | _ => none
def pSome (a : E) : Po := fun s => (a s).bind fun o s1 => okO ((peek o s1).bind dI) s1
def cutD (x : D) (lo hi : Option Int) : Option Opd := match x with
  | .lst l => some (.own (.lst (cutL l lo hi)))
  | .tup l => some (.val (.tup (cutL l lo hi)))
  | .str z => if z.length ≤ LIM then some (.val (.str (cutS z lo hi))) else none
  | _ => none
def sCut (a : E) (lo hi : Po) : E := fun s => (a s).bind fun o s1 => (lo s1).bind fun l s2 => (hi s2).bind fun h s3 => okO ((peek o s3).bind fun d => cutD d l h) s3
def tPo (X : Cx) (Φ : Fr0) (W : WX) (f : Po) : TO := fun σ H Q => ∃ Pr st, Sim X.K Φ Pr st σ H ∧ Aft X Φ W Pr σ (f st) fun o st' Pr' H' => ∀ P2, Le Pr' P2 → Sim X.K Φ P2 st' σ H' → Q o H'
structure SPo (X : Cx) (W : WX) (e : Option Expr) (f : Po) : Prop where
  po : ∀ Φ, PO X e (tPo X Φ W f)
theorem spo_none {W : WX} : SPo X W none pNone := ⟨fun Φ => ⟨fun pins s σ H Q I h => by
  obtain ⟨Pr, st, S, h⟩ := h
  exact po_none.run pins s σ H Q I (h Pr H (Le.refl _) S Pr (Le.refl _) S)⟩⟩
theorem spo_some {W : WX} {a : Expr} {fa : E} (ha : SE X W a fa) : SPo X W (some a) (pSome fa) := ⟨fun Φ => ⟨fun pins s σ H Q I h => by
  refine (po_some (ha.pe Φ)).run pins s σ H Q I ?_
  obtain ⟨Pr, st, S, h⟩ := h
  refine ⟨Pr, st, S, h.bind.imp fun o s1 P1 H1 l1 S1 h1 v hv => ?_⟩
  obtain ⟨P1', l1', S1', kv⟩ := settle S1 hv
  have h1 := h1.mono l1'
  cases e : peek o s1 with
  | none => rw [e] at h1; exact h1.elim
  | some d =>
    rw [e] at h1
    have pk := pk_of S1' kv e
    cases d with
    | int i => exact ⟨i, pk.int, h1 P1' H1 (Le.refl _) S1' P1' (Le.refl _) S1'⟩
    | _ => exact h1.elim⟩⟩
theorem Reps.cut {K : PySem.W.Frag} {Pr : Hp} {l : List D} {xs : List V} (r : Reps K Pr l xs) (lo hi : Option Int) : Reps K Pr (cutL l lo hi) (cutV xs lo hi) := by
  unfold cutL cutV
  rw [r.length]
  exact (Reps.drop _ r).take _
theorem strOk_cut {z : Str} (h : PyData.strOk z = true) (lo hi : Option Int) : PyData.strOk (cutS z lo hi) = true := by
  unfold PyData.strOk at *
  rw [Array.all_eq_true_iff_forall_mem] at h ⊢
  intro c hc
  refine h c ?_
  unfold cutS at hc
  have hc' : c ∈ (z.cps.toList.drop (HT.sIx z.length 0 lo)).take (HT.sIx z.length z.length hi - HT.sIx z.length 0 lo) := by simpa using hc
  have := List.mem_of_mem_drop (List.mem_of_mem_take hc')
  simpa using this
theorem se_cut {W : WX} {a : Expr} {lo hi : Option Expr} {fa : E} {fl fh : Po} {pos p2 : Pos} (ha : SE X W a fa) (hl : SPo X W lo fl) (hh : SPo X W hi fh) : SE X W (.Subscript a (.Slice lo hi none p2) pos) (sCut fa fl fh) := by
  refine ⟨fun Φ => peImp (pe_slice (sl_list.or (sl_tupA.or sl_str)) (ha.pe Φ) (hl.po Φ) (hh.po Φ)) fun σ H Q h => ?_⟩
  obtain ⟨Pr, st, S, h⟩ := h
  refine ⟨Pr, st, S, h.bind.imp fun o s1 P1 H1 l1 S1 h1 x hx => ?_⟩
  obtain ⟨P1', l1', S1', k1⟩ := settle S1 hx
  refine ⟨P1', s1, S1', (Aft.bind (h1.mono l1')).imp fun l s2 P2 H2 l2 S2 h2 P3 l3 S3 => ?_⟩
  refine ⟨P3, s2, S3, (Aft.bind (h2.mono l3)).imp fun u s3 P4 H4 l4 S4 h4 P5 l5 S5 => ?_⟩
  have h5 := h4.mono l5
  have k5 := (k1.mono l2).mono (l3.trans (l4.trans l5))
  cases e : peek o s3 with
  | none => rw [e] at h5; exact h5.elim
  | some d =>
    rw [e] at h5
    have pk := pk_of S5 k5 e
    cases e2 : cutD d l u with
    | none => simp only [Option.bind_some, e2] at h5; exact h5.elim
    | some ob =>
      simp only [Option.bind_some, e2] at h5
      unfold cutD at e2
      split at e2
      · cases e2
        obtain ⟨p, xs, rfl, q, r⟩ := pk.lst S5
        refine .inl ⟨p, xs, rfl, .inl q, fun p' hp => ?_⟩
        exact h5 _ _ (Le.refl _) (S5.alloc (o := .lst _) hp fun _ _ z => nomatch z) _ (repO_new S5 hp (r.cut l u))
      · cases e2
        obtain ⟨p, xs, rfl, q, r⟩ := pk.tup S5
        have hlen := r.length
        refine .inr (.inl ⟨p, xs, rfl, q, fun hw => ?_, fun _ p' hp => ?_⟩)
        · refine h5 _ _ (Le.refl _) S5 _ ?_
          rename_i ds
          have : cutL ds l u = ds := by
            unfold cutL
            rw [← hlen, hw.1, hw.2, hlen]
            simp
          rw [this]
          rcases pk with pk | ⟨_, _, _, _, hc⟩
          · exact pk
          · unfold Cont at hc; split at hc <;> first | exact hc.elim | contradiction
        · have le := Le.upd (o := .tup (cutV xs l u)) (S5.fresh hp).1
          refine h5 _ _ le (S5.laid hp fun _ _ z => nomatch z) _ ?_
          show Rep _ _ _ _
          unfold Rep
          exact ⟨p', _, rfl, SqT.of upd_same, Reps.mono le _ (r.cut l u)⟩
      · split at e2
        · rename_i hl
          cases e2
          have ok := pk.strOk
          cases pk.str
          exact .inr (.inr ⟨_, rfl, by rw [lim_eq]; exact hl, h5 _ _ (Le.refl _) S5 _ (ro_str (strOk_cut ok l u))⟩)
        · cases e2
      · cases e2
def revD : D → Option Opd
  | .lst l => some (.own (.lst l.reverse))
  | _ => none
theorem se_rev {W : WX} {a : Expr} {fa : E} {k : Nat} {p1 p2 p3 pos : Pos} (ha : SE X W a fa) : SE X W (.Subscript a (.Slice none none (some (.UnaryOp .USub (.Constant (.int 1) k p1) p2)) p3) pos) (sOp1 revD fa) := by
  refine ⟨fun Φ => peImp (pe_revL (ha.pe Φ)) (one_of (r := fun x H1 Q => ∃ a xs, x = .ref a ∧ SqL X.K H1 a xs ∧ ∀ p, H1 p = none → Q (.ref p) (upd H1 p (.lst xs.reverse))) fun Pr st σ H dx x o Q S px e q => ?_)⟩
  cases dx <;> first | cases e | skip
  obtain ⟨p, xs, rfl, q1, r⟩ := px.lst S
  exact ⟨p, xs, rfl, .inl q1, fun p' hp => q _ _ _ (Le.refl _) (S.alloc (o := .lst _) hp fun _ _ z => nomatch z) (repO_new S hp r.reverse)⟩
end
end Dv
namespace Dv
open PySem L2
def kR {α : Type} (r : R α) (f : α → Sto → Out) : Out := match r with
  | .ok a s => f a s
  | .exc c v s => .exc c v s
  | .bad => .bad
@[simp] theorem kR_ok {α : Type} (a : α) (s : Sto) (f : α → Sto → Out) : kR (.ok a s) f = f a s := rfl
@[simp] theorem kR_exc {α : Type} (c : Str) (v : D) (s : Sto) (f : α → Sto → Out) : kR (.exc c v s : R α) f = .exc c v s := rfl
@[simp] theorem kR_bad {α : Type} (f : α → Sto → Out) : kR (.bad : R α) f = .bad := rfl
def sSkip : S := fun s => .nxt s
def seqO (o : Out) (g : S) : Out := match o with
  | .nxt s => g s
  | o => o
def sSeq (f g : S) : S := fun s => seqO (f s) g
@[simp] theorem seqO_nxt (s : Sto) (g : S) : seqO (.nxt s) g = g s := rfl
@[simp] theorem seqO_ret (o : Opd) (s : Sto) (g : S) : seqO (.ret o s) g = .ret o s := rfl
@[simp] theorem seqO_brk (s : Sto) (g : S) : seqO (.brk s) g = .brk s := rfl
@[simp] theorem seqO_cnt (s : Sto) (g : S) : seqO (.cnt s) g = .cnt s := rfl
@[simp] theorem seqO_exc (c : Str) (v : D) (s : Sto) (g : S) : seqO (.exc c v s) g = .exc c v s := rfl
@[simp] theorem seqO_bad (g : S) : seqO .bad g = .bad := rfl
def okS (o : Option Sto) : Out := match o with
  | some s => .nxt s
  | none => .bad
@[simp] theorem okS_some (s : Sto) : okS (some s) = .nxt s := rfl
@[simp] theorem okS_none : okS none = .bad := rfl
def putS (i : Nat) (t : Slot) (s : Sto) : Option Sto := if i < s.length then some (s.set i t) else none
def asgO (i : Nat) (o : Opd) (s : Sto) : Out := match o with
  | .own d => okS (putS i (.own d) s)
  | o => kR (takeO o s) fun d s1 => okS (putS i (.val d) s1)
def sAsg (i : Nat) (e : E) : S := fun s => kR (e s) fun o s1 => asgO i o s1
def sDrop (e : E) : S := fun s => kR (e s) fun _ s1 => .nxt s1
def sRet (e : E) : S := fun s => kR (e s) fun o s1 => .ret o s1
def sRetN : S := fun s => .ret (.val .non) s
def sIfS (t : T) (a b : S) : S := fun s => kR (t s) fun c s1 => if c then a s1 else b s1
def sBrk : S := fun s => .brk s
def sCnt : S := fun s => .cnt s
def sBad : S := fun _ => .bad
abbrev G := D → Sto → Option Sto
abbrev Gs := List D → Sto → Option Sto
def gN (i : Nat) : G := fun d s => putS i (.val d) s
def gs0 : Gs := fun ds s => match ds with
  | [] => some s
  | _ => none
def gs1 (g : G) (gs : Gs) : Gs := fun ds s => match ds with
  | d :: r => (g d s).bind fun s1 => gs r s1
  | [] => none
def gT (n : Nat) (gs : Gs) : G := fun d s => match d with
  | .tup ds => if ds.length = n then gs ds s else none
  | _ => none
def sAsgG (g : G) (e : E) : S := fun s => kR (e s) fun o s1 => kR (takeO o s1) fun d s2 => okS (g d s2)
def sAug (i : Nat) (F : D → D → Option Opd) (e : E) : S := fun s => match datAt s i with
  | some x => kR (e s) fun o s1 => match (peek o s1).bind fun y => F x y with
    | some (.val d) => okS (putS i (.val d) s1)
    | _ => .bad
  | none => .bad
abbrev Ws := Sto → R (List D)
def forL (g : G) (b : S) : List D → Sto → Out
  | [], s => .nxt s
  | d :: ds, s => match g d s with
    | none => .bad
    | some s1 => match b s1 with
      | .nxt s2 => forL g b ds s2
      | .cnt s2 => forL g b ds s2
      | .brk s2 => .nxt s2
      | o => o
def sFor (f : Ws) (g : G) (b : S) : S := fun s => kR (f s) fun ds s1 => forL g b ds s1
def whN (t : T) (b : S) : Nat → Sto → Out
  | 0, _ => .bad
  | n + 1, s => kR (t s) fun c s1 => if c then (match b s1 with
      | .nxt s2 => whN t b n s2
      | .cnt s2 => whN t b n s2
      | .brk s2 => .nxt s2
      | o => o) else .nxt s1
def Out.good : Out → Bool
  | .bad => false
  | _ => true
theorem whN_mono {t : T} {b : S} : ∀ {n : Nat} {s : Sto}, (whN t b n s).good = true → whN t b (n + 1) s = whN t b n s
  | 0, s, h => by cases h
  | n + 1, s, h => by
    unfold whN at h ⊢
    cases e : t s with
    | exc c v s' => rfl
    | bad => rw [e] at h; cases h
    | ok c s1 =>
      rw [e] at h
      simp only [kR_ok] at h ⊢
      cases c with
      | false => rfl
      | true =>
        simp only [if_true] at h ⊢
        cases e2 : b s1 with
        | nxt s2 => rw [e2] at h; exact whN_mono h
        | cnt s2 => rw [e2] at h; exact whN_mono h
        | brk s2 => rfl
        | ret o s2 => rfl
        | exc c v s2 => rfl
        | bad => first | (rw [e2] at h; cases h) | rw [e2] at h
theorem whN_le {t : T} {b : S} {n m : Nat} {s : Sto} (h : (whN t b n s).good = true) (k : n ≤ m) : whN t b m s = whN t b n s := by
  induction k with
  | refl => rfl
  | @step m k ih => rw [whN_mono (by rw [ih]; exact h), ih]
open Classical in
noncomputable def sWh (t : T) (b : S) : S := fun s => if h : ∃ n, (whN t b n s).good = true then whN t b h.choose s else .bad
theorem sWh_of {t : T} {b : S} {n : Nat} {s : Sto} (h : (whN t b n s).good = true) : sWh t b s = whN t b n s := by
  unfold sWh
  have hx : ∃ n, (whN t b n s).good = true := ⟨n, h⟩
  rw [dif_pos hx]
  have h2 := hx.choose_spec
  rcases Nat.le_total n hx.choose with k | k
  · exact whN_le h k
  · exact (whN_le h2 k).symm
theorem sWh_some {t : T} {b : S} {s : Sto} (h : (sWh t b s).good = true) : ∃ n, sWh t b s = whN t b n s ∧ (whN t b n s).good = true := by
  by_cases hx : ∃ n, (whN t b n s).good = true
  · obtain ⟨n, k⟩ := hx
    exact ⟨n, sWh_of k, k⟩
  · unfold sWh at h
    rw [dif_neg hx] at h; cases h
def whStep (t : T) (b : S) (k : Sto → Out) (s : Sto) : Out := kR (t s) fun c s1 => if c then (match b s1 with
      | .nxt s2 => k s2
      | .cnt s2 => k s2
      | .brk s2 => .nxt s2
      | o => o) else .nxt s1
theorem sWh_eq (t : T) (b : S) (s : Sto) : sWh t b s = whStep t b (sWh t b) s := by
  cases hg : (sWh t b s).good with
  | true =>
    obtain ⟨n, e, k⟩ := sWh_some hg
    rw [e]
    cases n with
    | zero => cases k
    | succ n =>
      unfold whN at k ⊢
      unfold whStep
      cases e1 : t s with
      | exc c v s' => rfl
      | bad => rfl
      | ok c s1 =>
        rw [e1] at k
        simp only [kR_ok] at k ⊢
        cases c with
        | false => rfl
        | true =>
          simp only [if_true] at k ⊢
          cases e2 : b s1 with
          | nxt s2 => rw [e2] at k; exact (sWh_of k).symm
          | cnt s2 => rw [e2] at k; exact (sWh_of k).symm
          | _ => rfl
  | false =>
    have hb : sWh t b s = .bad := by
      cases e : sWh t b s with
      | bad => rfl
      | _ => rw [e] at hg; cases hg
    rw [hb]
    unfold whStep
    cases e1 : t s with
    | bad => rfl
    | exc c v s' =>
      exfalso
      have : whN t b 1 s = .exc c v s' := by unfold whN; rw [e1]; rfl
      have h2 := sWh_of (t := t) (b := b) (n := 1) (s := s) (by rw [this]; rfl)
      rw [hb, this] at h2; cases h2
    | ok c s1 =>
      simp only [kR_ok]
      have one : ∀ (o : Out), o.good = true → (∀ n, whN t b (n + 1) s = (if c = true then (match b s1 with
          | .nxt s2 => whN t b n s2
          | .cnt s2 => whN t b n s2
          | .brk s2 => Out.nxt s2
          | o => o) else .nxt s1)) := fun o ho n => by
        show kR (t s) _ = _
        rw [e1]; rfl
      have no : ∀ n, (whN t b n s).good = false := fun n => by
        cases hn : (whN t b n s).good with
        | false => rfl
        | true => rw [← sWh_of hn, hb] at hn; cases hn
      have stepn : ∀ n, whN t b (n + 1) s = (if c = true then (match b s1 with
          | .nxt s2 => whN t b n s2
          | .cnt s2 => whN t b n s2
          | .brk s2 => Out.nxt s2
          | o => o) else .nxt s1) := fun n => by
        show kR (t s) _ = _
        rw [e1]; rfl
      cases c with
      | false =>
        have := no 1
        rw [stepn] at this
        cases this
      | true =>
        simp only [if_true] at stepn ⊢
        cases e2 : b s1 with
        | nxt s2 =>
          rw [e2] at stepn
          simp only at stepn ⊢
          cases hg2 : (sWh t b s2).good with
          | true =>
            obtain ⟨n, e3, k3⟩ := sWh_some hg2
            have := no (n + 1)
            rw [stepn, k3] at this; cases this
          | false =>
            cases e : sWh t b s2 with
            | bad => rfl
            | _ => rw [e] at hg2; cases hg2
        | cnt s2 =>
          rw [e2] at stepn
          simp only at stepn ⊢
          cases hg2 : (sWh t b s2).good with
          | true =>
            obtain ⟨n, e3, k3⟩ := sWh_some hg2
            have := no (n + 1)
            rw [stepn, k3] at this; cases this
          | false =>
            cases e : sWh t b s2 with
            | bad => rfl
            | _ => rw [e] at hg2; cases hg2
        | bad => rfl
        | brk s2 => have := no 1; rw [stepn, e2] at this; cases this
        | ret o s2 => have := no 1; rw [stepn, e2] at this; cases this
        | exc c v s2 => have := no 1; rw [stepn, e2] at this; cases this
section
variable {X : Cx} {W : WX}
def OutOk (X : Cx) (Φ : Fr0) (W : WX) (D : Ends) (Pr : Hp) : Out → Prop
  | .nxt st' => ∀ Pr' σ' H', Le Pr Pr' → Sim X.K Φ Pr' st' σ' H' → D.nx σ' H'
  | .ret o st' => ∀ Pr' σ' H' v, Le Pr Pr' → Sim X.K Φ Pr' st' σ' H' → RepO X.K Φ Pr' H' st' σ' o v → D.rt v H'
  | .brk st' => ∀ Pr' σ' H', Le Pr Pr' → Sim X.K Φ Pr' st' σ' H' → D.bk σ' H'
  | .cnt st' => ∀ Pr' σ' H', Le Pr Pr' → Sim X.K Φ Pr' st' σ' H' → D.ct σ' H'
  | .exc c d st' => ∀ Pr' σ' H' C dx v, Le Pr Pr' → Sim X.K Φ Pr' st' σ' H' → PySem.W.nsIn X.K mainGlobals c = some (some (.ref C)) → Pr' dx = some (.xd [("value", v)]) → Rep X.K Pr' d v → W (.ref C) (some dx) σ' H'
  | .bad => False
theorem OutOk.mono {Φ : Fr0} {D : Ends} {Pr Pr' : Hp} {o : Out} (h : OutOk X Φ W D Pr o) (le : Le Pr Pr') : OutOk X Φ W D Pr' o := by
  cases o with
  | nxt s => exact fun P σ H l => h P σ H (le.trans l)
  | ret o s => exact fun P σ H v l => h P σ H v (le.trans l)
  | brk s => exact fun P σ H l => h P σ H (le.trans l)
  | cnt s => exact fun P σ H l => h P σ H (le.trans l)
  | exc c d s => exact fun P σ H C dx v l => h P σ H C dx v (le.trans l)
  | bad => exact h
def tS (X : Cx) (Φ : Fr0) (W : WX) (f : S) : TS := fun D σ H => ∃ Pr st, Sim X.K Φ Pr st σ H ∧ OutOk X Φ W D Pr (f st)
structure SS (X : Cx) (W : WX) (st : Stmt) (f : S) : Prop where
  ps : ∀ Φ, PS X st (tS X Φ W f)
structure SSs (X : Cx) (W : WX) (st : List Stmt) (f : S) : Prop where
  pss : ∀ Φ, PSs X st (tS X Φ W f)
theorem psImp {st : Stmt} {t t' : TS} (h : PS X st t) (k : ∀ D σ H, t' D σ H → t D σ H) : PS X st t' := ⟨fun pins s σ H D I q => h.run pins s σ H D I (k D σ H q)⟩
theorem pssImp {st : List Stmt} {t t' : TS} (h : PSs X st t) (k : ∀ D σ H, t' D σ H → t D σ H) : PSs X st t' := ⟨fun pins s σ H D I q => h.run pins s σ H D I (k D σ H q)⟩
theorem kR_of {Φ : Fr0} {D : Ends} {Pr : Hp} {α : Type} {σ : St} {r : R α} {f : α → Sto → Out} (hW : True) (h : OutOk X Φ W D Pr (kR r f)) : Aft X Φ W Pr σ r fun a st' Pr' _ => OutOk X Φ W D Pr' (f a st') := by
  cases r with
  | ok a s => exact fun P' H' l _ => OutOk.mono (show OutOk X Φ W D Pr (f a s) from h) l
  | exc c d s => exact fun P' H' C dx v l => h P' σ H' C dx v l
  | bad => exact h
theorem sss_nil : SSs X W [] sSkip := ⟨fun Φ => pssImp pss_nil fun D σ H h => by
  obtain ⟨Pr, st, S, h⟩ := h
  exact h Pr σ H (Le.refl _) S⟩
theorem seq_of {Φ : Fr0} {f g : S} : ∀ D σ H, tS X Φ W (sSeq f g) D σ H → tSeq (tS X Φ W f) (tS X Φ W g) D σ H := by
  intro D σ H h
  obtain ⟨Pr, st, S, h⟩ := h
  refine ⟨Pr, st, S, ?_⟩
  unfold sSeq at h
  cases e : f st with
  | nxt s1 => rw [e] at h; exact fun P' σ' H' l S' => ⟨P', s1, S', h.mono l⟩
  | ret o s1 => rw [e] at h; exact h
  | brk s1 => rw [e] at h; exact h
  | cnt s1 => rw [e] at h; exact h
  | exc c d s1 => rw [e] at h; exact h
  | bad => rw [e] at h; exact h
theorem sss_cons {st : Stmt} {rest : List Stmt} {f g : S} (h1 : SS X W st f) (h2 : SSs X W rest g) : SSs X W (st :: rest) (sSeq f g) := ⟨fun Φ => pssImp (pss_cons (h1.ps Φ) (h2.pss Φ)) seq_of⟩
theorem sss_one {st : Stmt} {f : S} (h1 : SS X W st f) : SSs X W [st] f := ⟨fun Φ => pss_one (h1.ps Φ)⟩
theorem ss_pass {pos : Pos} : SS X W (.Pass pos) sSkip := ⟨fun Φ => psImp ps_pass fun D σ H h => by
  obtain ⟨Pr, st, S, h⟩ := h
  exact h Pr σ H (Le.refl _) S⟩
theorem ss_break {pos : Pos} : SS X W (.Break pos) sBrk := ⟨fun Φ => psImp ps_break fun D σ H h => by
  obtain ⟨Pr, st, S, h⟩ := h
  exact h Pr σ H (Le.refl _) S⟩
theorem ss_continue {pos : Pos} : SS X W (.Continue pos) sCnt := ⟨fun Φ => psImp ps_continue fun D σ H h => by
  obtain ⟨Pr, st, S, h⟩ := h
  exact h Pr σ H (Le.refl _) S⟩
theorem ss_never {st : Stmt} : SS X W st sBad := ⟨fun Φ => psImp ps_never fun D σ H h => by
  obtain ⟨Pr, st, S, h⟩ := h
  exact h⟩
theorem ss_expr {e : Expr} {fe : E} {pos : Pos} (he : SE X W e fe) (hs : swapsWith e none pos.line X.env = pure false := by rfl) : SS X W (.Expr e pos) (sDrop fe) := ⟨fun Φ => psImp (ps_expr (he.pe Φ) hs) fun D σ H h => by
  obtain ⟨Pr, st, S, h⟩ := h
  exact ⟨Pr, st, S, (kR_of trivial h).imp fun o s1 P1 H1 l1 S1 h1 v _ => h1 P1 σ H1 (Le.refl _) S1⟩⟩
theorem ss_ret {e : Expr} {fe : E} {pos : Pos} (he : SE X W e fe) : SS X W (.Return (some e) pos) (sRet fe) := ⟨fun Φ => psImp (ps_ret (he.pe Φ)) fun D σ H h => by
  obtain ⟨Pr, st, S, h⟩ := h
  exact ⟨Pr, st, S, (kR_of trivial h).imp fun o s1 P1 H1 l1 S1 h1 v hv => h1 P1 σ H1 v (Le.refl _) S1 hv⟩⟩
theorem ss_retN {pos : Pos} : SS X W (.Return none pos) sRetN := ⟨fun Φ => psImp ps_retN fun D σ H h => by
  obtain ⟨Pr, st, S, h⟩ := h
  exact h Pr σ H _ (Le.refl _) S ro_non⟩
theorem ss_if {c : Expr} {a b : List Stmt} {ft : T} {fa fb : S} {pos : Pos} (hc : ST X W c ft) (ha : SSs X W a fa) (hb : SSs X W b fb) : SS X W (.If c a b pos) (sIfS ft fa fb) := ⟨fun Φ => psImp (ps_if (hc.pt Φ) (ha.pss Φ) (hb.pss Φ)) fun D σ H h => by
  obtain ⟨Pr, st, S, h⟩ := h
  refine ⟨Pr, st, S, (kR_of trivial h).imp fun k s1 P1 H1 l1 S1 h1 => ?_⟩
  cases k with
  | true => exact iteT ⟨P1, s1, S1, h1⟩
  | false => exact iteF ⟨P1, s1, S1, h1⟩⟩
theorem putS_of {i : Nat} {t : Slot} {s s' : Sto} (h : putS i t s = some s') : s' = s.set i t ∧ ∃ r, s[i]? = some r := by
  unfold putS at h
  split at h
  · rename_i hi
    cases h
    exact ⟨rfl, _, List.getElem?_eq_getElem hi⟩
  · cases h
theorem ok_put {Φ : Fr0} {D : Ends} {Pr H : Hp} {st : Sto} {σ : St} {i : Nat} {t : Slot} {v : V} (S : Sim X.K Φ Pr st σ H) (h : OutOk X Φ W D Pr (okS (putS i t st))) (ok : SlotOk X.K Φ Pr H i t (some v))
    (hap : t.mut = true → ∀ (j : Nat) r, st[j]? = some r → r.mut = true → σ[j]? ≠ some (some v)) : D.nx (σ.set i (some v)) H := by
  cases e : putS i t st with
  | none => rw [e] at h; exact h.elim
  | some s' =>
    rw [e] at h
    obtain ⟨rfl, r, hr⟩ := putS_of e
    exact h Pr _ H (Le.refl _) (S.assign hr ok hap)
theorem asgO_of {Φ : Fr0} {D : Ends} {Pr H : Hp} {st : Sto} {σ : St} {i : Nat} {o : Opd} {v : V} (S : Sim X.K Φ Pr st σ H) (r : RepO X.K Φ Pr H st σ o v) (h : OutOk X Φ W D Pr (asgO i o st)) : D.nx (σ.set i (some v)) H := by
  have gen : ∀ {o : Opd}, RepO X.K Φ Pr H st σ o v → OutOk X Φ W D Pr (kR (takeO o st) fun d s1 => okS (putS i (.val d) s1)) → D.nx (σ.set i (some v)) H := fun {o} r h => by
    rcases take_cases o st with ⟨d, st', e⟩ | e
    · rw [e] at h
      obtain ⟨Pr', le, S', r'⟩ := take_of S r e
      exact ok_put S' (OutOk.mono h le) ⟨v, rfl, r'⟩ (fun z => nomatch z)
    · rw [e] at h
      exact h.elim
  cases o with
  | own d =>
    obtain ⟨a, ob, rfl, hn, h0, ha, hc, hf⟩ := r
    exact ok_put S h ⟨a, ob, rfl, hn, h0, ha, hc⟩ fun _ j t e m => hf j t e m
  | val d => exact gen r h
  | slot j => exact gen r h
theorem ss_asg {i : Nat} {x : Str} {e : Expr} {fe : E} {pos pos' : Pos} (hN : X.N.Nodup) (hi : X.N[i]? = some x) (hx : Loc X.env.scope x) (he : SE X W e fe) (hs : swapsWith e (some (.Name x pos')) pos.line X.env = pure false := by rfl) (hf : X.fn x = true ∨ X.env.scope.names.lookup x = some .local := by first | exact .inl rfl | exact .inr rfl | assumption) :
    SS X W (.Assign [.Name x pos'] e pos) (sAsg i fe) := ⟨fun Φ => psImp (ps_set (i := i) hN hi hx (he.pe Φ) hs hf) fun D σ H h => by
  obtain ⟨Pr, st, S, h⟩ := h
  exact ⟨Pr, st, S, (kR_of trivial h).imp fun o s1 P1 H1 l1 S1 h1 v hv => asgO_of S1 hv h1⟩⟩
def Only (is : List Nat) (σ σ' : St) : Prop := σ'.length = σ.length ∧ ∀ (j : Nat), j ∉ is → σ'[j]? = σ[j]?
theorem Only.trans {is js : List Nat} {σ σ' σ2 : St} (h : Only is σ σ') (k : Only js σ' σ2) : Only (is ++ js) σ σ2 :=
  ⟨k.1.trans h.1, fun j hj => (k.2 j fun z => hj (List.mem_append_right _ z)).trans (h.2 j fun z => hj (List.mem_append_left _ z))⟩
def tG (X : Cx) (Φ : Fr0) (g : G) (is : List Nat) : TG := fun v σ H Q => ∃ Pr st d st', Sim X.K Φ Pr st σ H ∧ Rep X.K Pr d v ∧ g d st = some st' ∧ ∀ Pr' σ', Le Pr Pr' → Only is σ σ' → Sim X.K Φ Pr' st' σ' H → Q σ' H
def tGs (X : Cx) (Φ : Fr0) (g : Gs) (is : List Nat) : TGs := fun vs σ H Q => ∃ Pr st ds st', Sim X.K Φ Pr st σ H ∧ Reps X.K Pr ds vs ∧ g ds st = some st' ∧ ∀ Pr' σ', Le Pr Pr' → Only is σ σ' → Sim X.K Φ Pr' st' σ' H → Q σ' H
structure SG (X : Cx) (e : Expr) (g : G) (is : List Nat) : Prop where
  pg : ∀ Φ, PG X e (tG X Φ g is)
structure SGs (X : Cx) (es : List Expr) (g : Gs) (is : List Nat) : Prop where
  pgs : ∀ Φ, PGs X es (tGs X Φ g is)
theorem sg_name {i : Nat} {x : Str} {pos : Pos} (hN : X.N.Nodup) (hi : X.N[i]? = some x) (hx : Loc X.env.scope x) (hf : X.fn x = true ∨ X.env.scope.names.lookup x = some .local := by first | exact .inl rfl | exact .inr rfl | assumption) : SG X (.Name x pos) (gN i) [i] := by
  refine ⟨fun Φ => ⟨fun pins s σ H v u Q I r h => (pg_name hN hi hx hf).run pins s σ H v u Q I r ?_⟩⟩
  obtain ⟨Pr, st, d, st', S, rv, e, h⟩ := h
  obtain ⟨rfl, t, ht⟩ := putS_of e
  exact h Pr _ (Le.refl _) ⟨by simp, fun j hj => List.getElem?_set_ne (fun z => hj (by rw [← z]; exact List.mem_singleton_self _))⟩ (S.assign ht ⟨v, rfl, rv⟩ fun z => nomatch z)
theorem sgs_nil : SGs X [] gs0 [] := by
  refine ⟨fun Φ => ⟨fun pins s σ H vs us Q I r h => pgs_nil.run pins s σ H vs us Q I r ?_⟩⟩
  obtain ⟨Pr, st, ds, st', S, rv, e, h⟩ := h
  cases ds with
  | nil =>
    unfold Reps at rv
    cases e
    exact ⟨rv, h Pr σ (Le.refl _) ⟨rfl, fun _ _ => rfl⟩ S⟩
  | cons _ _ => cases e
theorem sgs_cons {e : Expr} {es : List Expr} {g : G} {gs : Gs} {is js : List Nat} (h1 : SG X e g is) (h2 : SGs X es gs js)
    (hs : (assignEach (e :: es) X.env).map (·.2) = assign e X.env :: (assignEach es X.env).map (·.2) := by rfl) : SGs X (e :: es) (gs1 g gs) (is ++ js) := by
  refine ⟨fun Φ => ⟨fun pins s σ H vs us Q I r h => (pgs_cons (h1.pg Φ) (h2.pgs Φ) hs).run pins s σ H vs us Q I r ?_⟩⟩
  obtain ⟨Pr, st, ds, st', S, rv, e, h⟩ := h
  cases ds with
  | nil => cases e
  | cons d ds =>
    unfold Reps at rv
    obtain ⟨x, t, rfl, r1, r2⟩ := rv
    unfold gs1 at e
    simp only at e
    rw [Option.bind_eq_some_iff] at e
    obtain ⟨s1, e1, e2⟩ := e
    exact ⟨x, t, rfl, Pr, st, d, s1, S, r1, e1, fun Pr' σ' l o1 S' => ⟨Pr', s1, ds, st', S', Reps.mono l ds r2, e2, fun P2 σ2 l2 o2 => h P2 σ2 (l.trans l2) (o1.trans o2)⟩⟩
theorem sg_tup {es : List Expr} {k : Nat} {pos : Pos} {gs : Gs} {n : Nat} {is : List Nat} (hc : X.calm = true) (h : SGs X es gs is)
    (hn : (assignEach es X.env).length = n := by rfl) (hst : (assignEach es X.env).findIdx? (·.1) = none := by rfl) : SG X (.Tuple es k pos) (gT n gs) is := by
  refine ⟨fun Φ => ⟨fun pins s σ H v u Q I r q => (pg_tup hc (h.pgs Φ) hn hst).run pins s σ H v u Q I r ?_⟩⟩
  obtain ⟨Pr, st, d, st', S, rv, e, q⟩ := q
  unfold gT at e
  split at e
  · split at e
    · rename_i ds hl
      unfold Rep at rv
      obtain ⟨a, xs, rfl, qs, r'⟩ := rv
      exact ⟨a, xs, rfl, S.sqT qs, by rw [r'.length]; exact hl, Pr, st, _, st', S, r', e, q⟩
    · cases e
  · cases e
theorem ss_asgG {tg e : Expr} {g : G} {fe : E} {is : List Nat} {pos : Pos} (he : SE X W e fe) (hg : SG X tg g is) (hs : swapsWithSole [tg] e pos.line X.env = pure false := by rfl) (hw : swappedStores [tg] e X.env = pure none := by rfl)
    (h1 : (assignEach [tg] X.env).map (·.2) = [assign tg X.env] := by rfl) : SS X W (.Assign [tg] e pos) (sAsgG g fe) := ⟨fun Φ => psImp (ps_asg (he.pe Φ) (hg.pg Φ) hs hw h1) fun D σ H h => by
  obtain ⟨Pr, st, S, h⟩ := h
  refine ⟨Pr, st, S, (kR_of trivial h).imp fun o s1 P1 H1 l1 S1 h1 v hv => ?_⟩
  rcases take_cases o s1 with ⟨d, s2, e⟩ | e
  · rw [e] at h1
    obtain ⟨P2, le, S2, r2⟩ := take_of S1 hv e
    have h2 := OutOk.mono h1 le
    cases e3 : g d s2 with
    | none => simp only [kR_ok, e3] at h2; exact h2.elim
    | some s3 =>
      simp only [kR_ok, e3] at h2
      exact ⟨P2, s2, d, s3, S2, r2, e3, fun P3 σ3 l3 _ S3 => h2 P3 σ3 H1 l3 S3⟩
  · rw [e] at h1
    exact h1.elim⟩
def augI (f : Int → Int → Int) (x y : D) : Option Opd := match x, y with
  | .int i, .int j => some (.val (.int (f i j)))
  | _, _ => none
theorem ss_augI {i : Nat} {x : Str} {e : Expr} {fe : E} {op : Operator} {f : Int → Int → Int} {pos pos' : Pos} (hN : X.N.Nodup) (hi : X.N[i]? = some x) (hx : Loc X.env.scope x) (ho : PIp X op (ipI f)) (he : SE X W e fe) (hf : X.fn x = true ∨ X.env.scope.names.lookup x = some .local := by first | exact .inl rfl | exact .inr rfl | assumption) :
    SS X W (.AugAssign (.Name x pos') op e pos) (sAug i (augI f) fe) := ⟨fun Φ => psImp (ps_aug (i := i) hN hi hx (he.pe Φ) ho hf) fun D σ H h => by
  obtain ⟨Pr, st, S, h⟩ := h
  unfold sAug at h
  cases e0 : datAt st i with
  | none => rw [e0] at h; exact h.elim
  | some dx =>
    rw [e0] at h
    obtain ⟨v, hv, pv⟩ : ∃ v, σ[i]? = some (some v) ∧ Pk X.K Pr H dx v := by
      unfold datAt at e0
      split at e0
      · rename_i t ht
        obtain ⟨ov, h1, h2⟩ := S.slots i t ht
        cases t with
        | un => cases e0
        | val d => obtain ⟨v, rfl, r⟩ := h2; cases e0; exact ⟨v, h1, .inl r⟩
        | own d => obtain ⟨a, o, rfl, _, _, ha, hc⟩ := h2; cases e0; exact ⟨_, h1, .inr ⟨a, o, rfl, ha, hc⟩⟩
        | par d => obtain ⟨a, o, rfl, _, _, ha, hc⟩ := h2; cases e0; exact ⟨_, h1, .inr ⟨a, o, rfl, ha, hc⟩⟩
        | pfr d => obtain ⟨a, rfl, _, r⟩ := h2; cases e0; exact ⟨_, h1, .inl r⟩
      · cases e0
    refine ⟨v, hv, Pr, st, S, (kR_of trivial h).imp fun o s1 P1 H1 l1 S1 h1 y hy => ?_⟩
    obtain ⟨P1', l1', S1', k1⟩ := settle S1 hy
    have h1 := h1.mono l1'
    cases e1 : peek o s1 with
    | none => rw [e1] at h1; exact h1.elim
    | some dy =>
      rw [e1] at h1
      have pk := pk_of S1' k1 e1
      cases dx with
      | int a =>
        cases dy with
        | int b =>
          cases pv.int
          cases pk.int
          exact ⟨a, b, rfl, rfl, ok_put S1' h1 ⟨_, rfl, rep_int⟩ fun z => nomatch z⟩
        | _ => exact h1.elim
      | _ => exact h1.elim⟩
theorem ss_while {c : Expr} {body : List Stmt} {ft : T} {fb : S} {pos : Pos} (hp : PassesOwn (model X.prog X.w) X.A X.env X.xe) (hc : ST X W c ft) (hb : SSs X W body fb) : SS X W (.While c body [] pos) (sWh ft fb) := ⟨fun Φ => psImp (ps_while hp (hc.pt Φ) (hb.pss Φ)) fun D σ H h => by
  obtain ⟨Pr, st, S, h⟩ := h
  have hg : (sWh ft fb st).good = true := by
    cases e : sWh ft fb st with
    | bad => rw [e] at h; exact h.elim
    | _ => rfl
  obtain ⟨n, e, hn⟩ := sWh_some hg
  rw [e] at h
  refine ⟨fun m σ H => ∃ Pr st, Sim X.K Φ Pr st σ H ∧ OutOk X Φ W D Pr (whN ft fb m st), ⟨n, Pr, st, S, h⟩, ?_⟩
  rintro m σ1 H1 ⟨P1, s1, S1, h1⟩
  cases m with
  | zero => exact h1.elim
  | succ m =>
    unfold whN at h1
    refine ⟨P1, s1, S1, (kR_of trivial h1).imp fun k s2 P2 H2 l2 S2 h2 => ?_⟩
    cases k with
    | false => exact iteF (h2 P2 σ1 H2 (Le.refl _) S2)
    | true =>
      refine iteT ⟨fun σ' H' => ∃ Pr st, Sim X.K Φ Pr st σ' H' ∧ OutOk X Φ W D Pr (whN ft fb m st), fun σ' H' q => ⟨m, Nat.lt_succ_self m, q⟩, P2, s2, S2, ?_⟩
      simp only [if_true] at h2
      cases e2 : fb s2 with
      | nxt s3 => rw [e2] at h2; exact fun P3 σ3 H3 l3 S3 => ⟨P3, s3, S3, h2.mono l3⟩
      | cnt s3 => rw [e2] at h2; exact fun P3 σ3 H3 l3 S3 => ⟨P3, s3, S3, h2.mono l3⟩
      | brk s3 => rw [e2] at h2; exact h2
      | ret o s3 => rw [e2] at h2; exact h2
      | exc c d s3 => rw [e2] at h2; exact h2
      | bad => rw [e2] at h2; exact h2⟩
def Walks (X : Cx) (Φ : Fr0) (J : It) (ds : List D) (Pr : Hp) : Prop := ∀ (i : Nat) Pr1 st σ H, Le Pr Pr1 → Sim X.K Φ Pr1 st σ H →
  (ds.length ≤ i → J.stop i H) ∧ ∀ d, ds[i]? = some d → J.go i H ∧ ∀ x H', J.yld i H x H' → ∃ Pr2, Le Pr1 Pr2 ∧ Sim X.K Φ Pr2 st σ H' ∧ Rep X.K Pr2 d x
def tW (X : Cx) (Φ : Fr0) (W : WX) (f : Ws) : TI := fun σ H R => ∃ Pr st, Sim X.K Φ Pr st σ H ∧ Aft X Φ W Pr σ (f st) fun ds st' Pr' H' => ∀ P2 J, Le Pr' P2 → Sim X.K Φ P2 st' σ H' → (∀ Φ' : Fr0, Φ'.lk = Φ.lk → Walks X Φ' J ds P2) → R J H'
structure SI (X : Cx) (W : WX) (tg e : Expr) (f : Ws) : Prop where
  pi : ∀ Φ, PI X tg e (tW X Φ W f)
theorem piImp {tg e : Expr} {t t' : TI} (h : PI X tg e t) (k : ∀ σ H R, t' σ H R → t σ H R) : PI X tg e t' := ⟨fun pins s σ H R I q => h.run pins s σ H R I (k σ H R q)⟩
theorem ss_for {tg iter : Expr} {body : List Stmt} {fw : Ws} {g : G} {is : List Nat} {fb : S} {pos : Pos} (hp : PassesOwn (model X.prog X.w) X.A X.env X.xe) (hc : X.calm = true) (hi : SI X W tg iter fw) (hg : SG X tg g is) (hb : SSs X W body fb)
    (hs : ∀ x, foldedSetIterable iter X.env x = pure x := by intro _; rfl) : SS X W (.For tg iter body [] pos) (sFor fw g fb) := ⟨fun Φ => psImp (ps_for hp hc (hi.pi Φ) (hg.pg Φ) (hb.pss Φ) hs) fun D σ H h => by
  obtain ⟨Pr, st, S, h⟩ := h
  refine ⟨Pr, st, S, (kR_of trivial h).imp fun ds s1 P1 H1 l1 S1 h1 P2 J l2 S2 wk => ?_⟩
  refine ⟨fun i m σ H => ∃ Pr st, Le P2 Pr ∧ Sim X.K Φ Pr st σ H ∧ m = ds.length - i ∧ OutOk X Φ W D Pr (forL g fb (ds.drop i) st), ⟨_, P2, s1, Le.refl _, S2, rfl, h1.mono l2⟩, ?_⟩
  rintro i m σ3 H3 ⟨P3, s3, l3, S3, rfl, h3⟩
  obtain ⟨w1, w2⟩ := wk Φ rfl i P3 s3 σ3 H3 l3 S3
  by_cases hlt : i < ds.length
  · right
    have hd : ds[i]? = some ds[i] := List.getElem?_eq_getElem hlt
    obtain ⟨g1, g2⟩ := w2 _ hd
    refine ⟨g1, fun σ' H' => ∃ Pr st, Le P2 Pr ∧ Sim X.K Φ Pr st σ' H' ∧ OutOk X Φ W D Pr (forL g fb (ds.drop (i + 1)) st), fun σ' H' q => ?_, fun x H4 hy => ?_⟩
    · obtain ⟨P5, s5, l5, S5, h5⟩ := q
      exact ⟨ds.length - (i + 1), by omega, P5, s5, l5, S5, rfl, h5⟩
    · obtain ⟨P4, l4, S4, r4⟩ := g2 x H4 hy
      rw [List.drop_eq_getElem_cons hlt] at h3
      unfold forL at h3
      cases e : g ds[i] s3 with
      | none => rw [e] at h3; exact h3.elim
      | some s4 =>
        rw [e] at h3
        refine ⟨P4, s3, ds[i], s4, S4, r4, e, fun P5 σ5 l5 _ S5 => ⟨P5, s4, S5, ?_⟩⟩
        simp only at h3
        have l := l3.trans (l4.trans l5)
        cases e2 : fb s4 with
        | nxt s6 => rw [e2] at h3; exact fun P6 σ6 H6 l6 S6 => ⟨P6, s6, l.trans l6, S6, h3.mono (l4.trans (l5.trans l6))⟩
        | cnt s6 => rw [e2] at h3; exact fun P6 σ6 H6 l6 S6 => ⟨P6, s6, l.trans l6, S6, h3.mono (l4.trans (l5.trans l6))⟩
        | brk s6 => rw [e2] at h3; exact OutOk.mono h3 (l4.trans l5)
        | ret o s6 => rw [e2] at h3; exact OutOk.mono h3 (l4.trans l5)
        | exc c d s6 => rw [e2] at h3; exact OutOk.mono h3 (l4.trans l5)
        | bad => rw [e2] at h3; exact h3.elim
  · left
    refine ⟨w1 (by omega), ?_⟩
    rw [List.drop_eq_nil_of_le (by omega)] at h3
    exact h3 P3 σ3 H3 (Le.refl _) S3⟩
end
end Dv
namespace Dv
open PySem L2 RZ RT
def seqOf : D → Option (List D)
  | .lst l => some l
  | .tup l => some l
  | .scr l => some l
  | .str x => some (x.cps.toList.map fun c => .str ⟨#[c]⟩)
  | _ => none
def wSeq (a : E) : Ws := fun s => (a s).bind fun o s1 => (takeO o s1).bind fun d s2 => okO (seqOf d) s2
def inR (i : Int) : Prop := -B62 ≤ i ∧ i < B62
theorem inR_eq {i : Int} : inR i ↔ -(2 ^ 62) ≤ i ∧ i < 2 ^ 62 := by unfold inR; rw [B62_eq]
instance (i : Int) : Decidable (inR i) := by unfold inR; infer_instance
def rng1 : List D → Option (List D)
  | [.int j] => if inR j then some ((List.range j.toNat).map fun k => .int (k : Nat)) else none
  | _ => none
def rng2 : List D → Option (List D)
  | [.int i, .int j] => if inR i ∧ inR j then some ((List.range (j - i).toNat).map fun k => .int (i + (k : Nat))) else none
  | _ => none
def rng3 : List D → Option (List D)
  | [.int i, .int j, .int c] => if c = -1 ∧ inR i ∧ inR j then some ((List.range (i - j).toNat).map fun k => .int (i + (k : Nat) * c)) else none
  | _ => none
def wArgs (F : List D → Option (List D)) (as : Ar) : Ws := fun s => (as s).bind fun os s1 => okO ((peekAll os s1).bind F) s1
def enumL (i : Nat) : List D → List D
  | [] => []
  | d :: l => .tup [.int i, d] :: enumL (i + 1) l
def zipL : List D → List D → List D
  | a :: l, b :: m => .tup [a, b] :: zipL l m
  | _, _ => []
def wEnum (as : Ar) : Ws := fun s => (as s).bind fun os s1 => (takeAll os s1).bind fun ds s2 => match ds with
  | [.lst l] => .ok (enumL 0 l) s2
  | _ => .bad
def wZip (as : Ar) : Ws := fun s => (as s).bind fun os s1 => (takeAll os s1).bind fun ds s2 => match ds with
  | [.lst l, .lst m] => .ok (zipL l m) s2
  | [.tup l, .tup m] => .ok (zipL l m) s2
  | _ => .bad
def seqLT : D → Option (List D)
  | .lst l => some l
  | .tup l => some l
  | _ => none
def wRev (a : E) : Ws := fun s => (a s).bind fun o s1 => (takeO o s1).bind fun d s2 => okO ((seqLT d).map List.reverse) s2
section
variable {X : Cx} {W : WX} {tg : Expr}
theorem pi_seq {l : Expr} {tl : TE} (hl : PE X l tl) : PI X tg l (fun σ H R => tl σ H fun x H1 => (∃ a, x = .ref a ∧ (((∃ xs, SqL X.K H1 a xs) ∧ R (Itl X.K a) H1) ∨ ((∃ xs, SqT X.K H1 a xs) ∧ R (Itt X.K a) H1))) ∨ ∃ z, x = .str z ∧ R (Its z) H1) := by
  refine ⟨fun pins s σ H R I h => ?_⟩
  refine thn (hl.run pins s σ H _ I h) fun v s1 ⟨x, H1, I1, r1, q0⟩ => ?_
  rcases q0.symm with ⟨z, e, q⟩ | q1
  · subst e
    obtain ⟨t, rfl⟩ := r1
    cases ha : z.cps.all (· < 128)
    · exact wpAny_pyIter_wide ha (pi_one (tk := s1.toks) I1 _ (turn_str _ z t "str_iterator" (.inr rfl)) ⟨_, Heap.get?_push_size _ rfl, rfl, rfl⟩ q)
    · exact wpAny_pyIter_ascii ha (pi_one (tk := s1.toks) I1 _ (turn_str _ z t "str_ascii_iterator" (.inl rfl)) ⟨_, Heap.get?_push_size _ rfl, rfl, rfl⟩ q)
  obtain ⟨a, e, q1⟩ := q1
  subst e
  cases r1
  rcases q1 with ⟨⟨xs, hq⟩, q⟩ | ⟨⟨xs, hq⟩, q⟩
  · obtain ⟨its, rv, p, hz⟩ := I1.list hq
    refine wpAny_pyIter_list p.isList ?_
    refine ⟨s1.heap.objs.size, [s1.heap.objs.size], _, _, H1, rfl, I1.kept (t' := s1.toks) fun b o e => Heap.get?_push_of_some _ e, turn_list a _, ⟨_, Heap.get?_push_size _ rfl, rfl, rfl⟩, fun b hb => ?_, q⟩
    have e : b = s1.heap.objs.size := by simpa using hb
    subst e
    exact I1.fpOk (Nat.le_refl _) (I1.hok.fresh (Nat.le_refl _))
  · obtain ⟨its, rv, p, hz⟩ := I1.tuple hq
    refine wpAny_pyIter_tuple (show s1.heap.IsTuple a its.toArray from p) ?_
    refine ⟨s1.heap.objs.size, [s1.heap.objs.size], _, _, H1, rfl, I1.kept (t' := s1.toks) fun b o e => Heap.get?_push_of_some _ e, turn_tuple a _, ⟨_, Heap.get?_push_size _ rfl, rfl, rfl⟩, fun b hb => ?_, q⟩
    have e : b = s1.heap.objs.size := by simpa using hb
    subst e
    exact I1.fpOk (Nat.le_refl _) (I1.hok.fresh (Nat.le_refl _))
theorem walks_L {Φ : Fr0} {Pr : Hp} {a : Addr} {xs : List V} {l : List D} (q : SqL X.K Pr a xs) (r : Reps X.K Pr l xs) : Walks X Φ (Itl X.K a) l Pr := by
  intro i P1 st σ H le S
  have q1 : SqL X.K H a xs := S.sqL (le.sqL q)
  refine ⟨fun h => ⟨xs, q1, by rw [r.length]; exact h⟩, fun d hd => ?_⟩
  obtain ⟨x, hx, rx⟩ := r.get hd
  refine ⟨⟨xs, x, q1, hx⟩, fun y H' hy => ?_⟩
  obtain ⟨rfl, hy⟩ := hy
  have := hy xs q1
  rw [hx] at this; cases this
  exact ⟨P1, Le.refl _, S, rx.mono le⟩
theorem walks_T {Φ : Fr0} {Pr : Hp} {a : Addr} {xs : List V} {l : List D} (q : SqT X.K Pr a xs) (r : Reps X.K Pr l xs) : Walks X Φ (Itt X.K a) l Pr := by
  intro i P1 st σ H le S
  have q1 : SqT X.K H a xs := S.sqT (le.sqT q)
  refine ⟨fun h => ⟨xs, q1, by rw [r.length]; exact h⟩, fun d hd => ?_⟩
  obtain ⟨x, hx, rx⟩ := r.get hd
  refine ⟨⟨xs, x, q1, hx⟩, fun y H' hy => ?_⟩
  obtain ⟨rfl, hy⟩ := hy
  have := hy xs q1
  rw [hx] at this; cases this
  exact ⟨P1, Le.refl _, S, rx.mono le⟩
theorem walks_S {Φ : Fr0} {Pr : Hp} {z : Str} (hz : PyData.strOk z = true) : Walks X Φ (Its z) (z.cps.toList.map fun c => .str ⟨#[c]⟩) Pr := by
  intro i P1 st σ H le S
  have hl : z.cps.toList.length = z.cps.size := by simp
  refine ⟨fun h => by rw [List.length_map] at h; show z.cps.size ≤ i; omega, fun d hd => ?_⟩
  rw [List.getElem?_map, Option.map_eq_some_iff] at hd
  obtain ⟨c, hc, rfl⟩ := hd
  obtain ⟨hi, _⟩ := List.getElem?_eq_some_iff.mp hc
  refine ⟨by show i < z.cps.size; omega, fun y H' hy => ?_⟩
  obtain ⟨rfl, c', hc', rfl⟩ := hy
  rw [← Array.getElem?_toList, hc] at hc'
  cases hc'
  exact ⟨P1, Le.refl _, S, rep_str (strOk_sign hz (List.mem_of_getElem? hc))⟩
theorem take_walk {Φ : Fr0} {Pr H : Hp} {st : Sto} {σ : St} {o : Opd} {v : V} {f : D → Option (List D)} {k : List D → Sto → Hp → Hp → Prop} (S : Sim X.K Φ Pr st σ H) (r : RepO X.K Φ Pr H st σ o v)
    (h : Aft X Φ W Pr σ ((takeO o st).bind fun d s2 => okO (f d) s2) k) : ∃ d ds st' P', Le Pr P' ∧ Sim X.K Φ P' st' σ H ∧ Rep X.K P' d v ∧ f d = some ds ∧ k ds st' P' H := by
  obtain ⟨d, st', P', le, S', r', h'⟩ := Aft.take h S r
  cases e : f d with
  | none => rw [e] at h'; exact h'.elim
  | some ds => rw [e] at h'; exact ⟨d, ds, st', P', le, S', r', e, h' P' H (Le.refl _) S'⟩
theorem si_seq {a : Expr} {fa : E} (ha : SE X W a fa) : SI X W tg a (wSeq fa) := by
  refine ⟨fun Φ => piImp (pi_seq (ha.pe Φ)) fun σ H R h => ?_⟩
  obtain ⟨Pr, st, S, h⟩ := h
  refine ⟨Pr, st, S, h.bind.imp fun o s1 P1 H1 l1 S1 h1 v hv => ?_⟩
  obtain ⟨d, ds, s2, P2, l2, S2, r2, e, h2⟩ := take_walk S1 hv h1
  cases d <;> first | cases e | skip
  · unfold Rep at r2
    obtain ⟨hz, rfl⟩ := r2
    exact .inr ⟨_, rfl, h2 P2 _ (Le.refl _) S2 (fun _ _ => walks_S hz)⟩
  · unfold Rep at r2
    obtain ⟨a, xs, rfl, q, r⟩ := r2
    exact .inl ⟨a, rfl, .inr ⟨⟨xs, S2.sqT q⟩, h2 P2 _ (Le.refl _) S2 (fun _ _ => walks_T q r)⟩⟩
  · unfold Rep at r2
    obtain ⟨a, xs, rfl, q, r⟩ := r2
    exact .inl ⟨a, rfl, .inl ⟨⟨xs, .inl (S2.rdL q)⟩, h2 P2 _ (Le.refl _) S2 (fun _ _ => walks_L (.inl q) r)⟩⟩
  · unfold Rep at r2
    obtain ⟨a, xs, rfl, q, r⟩ := r2
    exact .inl ⟨a, rfl, .inl ⟨⟨xs, S2.sqL q⟩, h2 P2 _ (Le.refl _) S2 (fun _ _ => walks_L q r)⟩⟩
theorem walks_r {Φ : Fr0} {Pr : Hp} {lo : Int} {n : Nat} : Walks X Φ (Itr lo n) ((List.range n).map fun k => D.int (lo + (k : Nat))) Pr := by
  intro i P1 st σ H le S
  have hl : ((List.range n).map fun k => D.int (lo + (k : Nat))).length = n := by simp
  refine ⟨fun h => by rw [hl] at h; exact h, fun d hd => ?_⟩
  have hi : i < n := by
    have := (List.getElem?_eq_some_iff.mp hd).1
    rwa [hl] at this
  refine ⟨hi, fun y H' hy => ?_⟩
  obtain ⟨rfl, rfl⟩ := hy
  have : d = .int (lo + (i : Nat)) := by
    rw [List.getElem?_map, List.getElem?_range hi] at hd
    exact (Option.some.inj hd).symm
  subst this
  exact ⟨P1, Le.refl _, S, rep_int⟩
theorem walks_c {Φ : Fr0} {Pr : Hp} {lo c : Int} {n : Nat} : Walks X Φ (Itc lo c n) ((List.range n).map fun k => D.int (lo + (k : Nat) * c)) Pr := by
  intro i P1 st σ H le S
  have hl : ((List.range n).map fun k => D.int (lo + (k : Nat) * c)).length = n := by simp
  refine ⟨fun h => by rw [hl] at h; exact h, fun d hd => ?_⟩
  have hi : i < n := by
    have := (List.getElem?_eq_some_iff.mp hd).1
    rwa [hl] at this
  refine ⟨hi, fun y H' hy => ?_⟩
  obtain ⟨rfl, rfl⟩ := hy
  have : d = .int (lo + (i : Nat) * c) := by
    rw [List.getElem?_map, List.getElem?_range hi] at hd
    exact (Option.some.inj hd).symm
  subst this
  exact ⟨P1, Le.refl _, S, rep_int⟩
theorem args_walk {Φ : Fr0} {F : List D → Option (List D)} {fs : Ar} {σ : St} {H : Hp} {R : It → Hp → Prop} {r : List V → Hp → Prop}
    (hq : ∀ Pr st H ds vs ws, Sim X.K Φ Pr st σ H → Pks X.K Pr H ds vs → F ds = some ws → (∀ J, (∀ Φ' : Fr0, Φ'.lk = Φ.lk → Walks X Φ' J ws Pr) → R J H) → r vs H) (h : tW X Φ W (wArgs F fs) σ H R) : tAr X Φ W fs σ H r := by
  obtain ⟨Pr, st, S, h⟩ := h
  refine ⟨Pr, st, S, h.bind.imp fun os s1 P1 H1 l1 S1 h1 P2 vs l2 S2 ks => ?_⟩
  have h1 := h1.mono l2
  cases e : peekAll os s1 with
  | none => rw [e] at h1; exact h1.elim
  | some ds =>
    rw [e] at h1
    cases e2 : F ds with
    | none => simp only [Option.bind_some, e2] at h1; exact h1.elim
    | some ws =>
      simp only [Option.bind_some, e2] at h1
      exact hq P2 s1 H1 ds vs ws S2 (pks_of S2 ks e) e2 fun J wk => h1 P2 H1 (Le.refl _) S2 P2 J (Le.refl _) S2 wk
theorem si_range1 {a : Expr} {fs : Ar} {p pos : Pos} (hg : Gl X "range") (hm : X.mg "range" = none) (ha : SA X W [a] fs) (hs : starEach [a] X.env = [(false, eval a X.env)] := by rfl) : SI X W tg (.Call (.Name "range" p) [a] [] pos) (wArgs rng1 fs) := by
  refine ⟨fun Φ => piImp (pi_range1 hg hm (ha.pa Φ) hs) fun σ H R h => args_walk (fun Pr st H ds vs ws S ks e k => ?_) h⟩
  unfold rng1 at e
  split at e
  · split at e
    · rename_i j hj
      cases e
      cases ks with
      | cons p1 ps =>
        cases ps
        cases p1.int
        refine ⟨_, rfl, (inR_eq.mp hj).1, (inR_eq.mp hj).2, k _ fun Φ' _ => ?_⟩
        have := walks_r (X := X) (Φ := Φ') (Pr := Pr) (lo := 0) (n := j.toNat)
        simpa using this
    · cases e
  · cases e
theorem si_range2 {a b : Expr} {fs : Ar} {p pos : Pos} (hg : Gl X "range") (hm : X.mg "range" = none) (ha : SA X W [a, b] fs) (hs : starEach [a, b] X.env = [(false, eval a X.env), (false, eval b X.env)] := by rfl) (hs2 : starEach [b] X.env = [(false, eval b X.env)] := by rfl) : SI X W tg (.Call (.Name "range" p) [a, b] [] pos) (wArgs rng2 fs) := by
  refine ⟨fun Φ => piImp (pi_range2 hg hm (ha.pa Φ) hs hs2) fun σ H R h => args_walk (fun Pr st H ds vs ws S ks e k => ?_) h⟩
  unfold rng2 at e
  split at e
  · split at e
    · rename_i i j hj
      cases e
      cases ks with
      | cons p1 ps =>
        cases ps with
        | cons p2 ps =>
          cases ps
          cases p1.int
          cases p2.int
          exact ⟨_, _, rfl, ⟨(inR_eq.mp hj.1).1, (inR_eq.mp hj.1).2, (inR_eq.mp hj.2).1, (inR_eq.mp hj.2).2⟩, k _ fun _ _ => walks_r⟩
    · cases e
  · cases e
theorem si_range3 {a b c : Expr} {fs : Ar} {p pos : Pos} (hg : Gl X "range") (hm : X.mg "range" = none) (ha : SA X W [a, b, c] fs) (hi : ∀ t, PA X [a, b, c] t → PI X tg (.Call (.Name "range" p) [a, b, c] [] pos) (iRng3 t)) : SI X W tg (.Call (.Name "range" p) [a, b, c] [] pos) (wArgs rng3 fs) := by
  refine ⟨fun Φ => piImp (hi _ (ha.pa Φ)) fun σ H R h => args_walk (fun Pr st H ds vs ws S ks e k => ?_) h⟩
  unfold rng3 at e
  split at e
  · split at e
    · rename_i i j c hj
      cases e
      obtain ⟨rfl, h1, h2⟩ := hj
      cases ks with
      | cons p1 ps =>
        cases ps with
        | cons p2 ps =>
          cases ps with
          | cons p3 ps =>
            cases ps
            cases p1.int
            cases p2.int
            cases p3.int
            exact ⟨_, _, _, _, rfl, RgC.neg (inR_eq.mp h1).1 (inR_eq.mp h1).2 (inR_eq.mp h2).1 (inR_eq.mp h2).2, k _ fun _ _ => walks_c⟩
    · cases e
  · cases e
theorem enumL_get : ∀ {l : List D} {k i : Nat}, (enumL k l)[i]? = l[i]?.map fun d => D.tup [.int ((k + i : Nat)), d]
  | [], _, _ => by simp [enumL]
  | d :: l, k, 0 => by simp [enumL]
  | d :: l, k, i + 1 => by
    unfold enumL
    rw [List.getElem?_cons_succ, List.getElem?_cons_succ, enumL_get]
    have : k + 1 + i = k + (i + 1) := by omega
    rw [this]
theorem enumL_length : ∀ {l : List D} {k : Nat}, (enumL k l).length = l.length
  | [], _ => rfl
  | d :: l, k => by unfold enumL; rw [List.length_cons, List.length_cons, enumL_length]
theorem zipL_get : ∀ {l m : List D} {i : Nat} {d : D}, (zipL l m)[i]? = some d → ∃ a b, l[i]? = some a ∧ m[i]? = some b ∧ d = .tup [a, b]
  | a :: l, b :: m, 0, d, h => by unfold zipL at h; simp at h; exact ⟨a, b, rfl, rfl, h.symm⟩
  | a :: l, b :: m, i + 1, d, h => by
    unfold zipL at h
    rw [List.getElem?_cons_succ] at h
    obtain ⟨x, y, h1, h2, h3⟩ := zipL_get h
    exact ⟨x, y, by simpa using h1, by simpa using h2, h3⟩
  | [], m, i, d, h => by unfold zipL at h; simp at h
  | a :: l, [], i, d, h => by unfold zipL at h; simp at h
theorem zipL_length : ∀ {l m : List D}, (zipL l m).length = min l.length m.length
  | a :: l, b :: m => by unfold zipL; rw [List.length_cons, List.length_cons, List.length_cons, zipL_length]; omega
  | [], m => by unfold zipL; simp
  | a :: l, [] => by unfold zipL; simp
theorem laid_tup {Φ : Fr0} {P1 H : Hp} {st : Sto} {σ : St} {T : Addr} {xs : List V} {l : List D} (S : Sim X.K Φ P1 st σ H) (hT : H T = none) (r : Reps X.K P1 l xs) :
    ∃ P2, Le P1 P2 ∧ Sim X.K Φ P2 st σ (upd H T (.tup xs)) ∧ Rep X.K P2 (.tup l) (.ref T) := by
  have le := Le.upd (o := .tup xs) (S.fresh hT).1
  refine ⟨_, le, S.laid (o := .tup xs) hT (fun _ _ z => nomatch z), ?_⟩
  unfold Rep
  exact ⟨T, xs, rfl, SqT.of upd_same, Reps.mono le _ r⟩
theorem walks_e {Φ : Fr0} {Pr : Hp} {a : Addr} {xs : List V} {l : List D} (q : Rd Pr a (.lst xs)) (r : Reps X.K Pr l xs) : Walks X Φ (Ite X.K a) (enumL 0 l) Pr := by
  intro i P1 st σ H le S
  have q1 : SqL X.K H a xs := .inl (S.rdL (le.rd q))
  refine ⟨fun h => ⟨xs, q1, by rw [r.length]; rw [enumL_length] at h; exact h⟩, fun d hd => ?_⟩
  rw [enumL_get, Option.map_eq_some_iff] at hd
  obtain ⟨d, hd, rfl⟩ := hd
  obtain ⟨x, hx, rx⟩ := r.get hd
  refine ⟨⟨xs, x, q1, hx⟩, fun y H' hy => ?_⟩
  obtain ⟨T, x', rfl, hT, rfl, hy⟩ := hy
  have := hy xs q1
  rw [hx] at this; cases this
  rw [Nat.zero_add]
  exact laid_tup S hT (Reps.cons rep_int (Reps.one (rx.mono le)))
theorem walks_z {Φ : Fr0} {Pr : Hp} {a b : Addr} {xs ys : List V} {l m : List D} (q : Rd Pr a (.lst xs)) (r : Reps X.K Pr l xs) (q' : Rd Pr b (.lst ys)) (r' : Reps X.K Pr m ys) : Walks X Φ (Itz X.K a b) (zipL l m) Pr := by
  intro i P1 st σ H le S
  have q1 : SqL X.K H a xs := .inl (S.rdL (le.rd q))
  have q2 : SqL X.K H b ys := .inl (S.rdL (le.rd q'))
  refine ⟨fun h => ⟨xs, ys, q1, q2, by rw [r.length, r'.length]; rw [zipL_length] at h; omega⟩, fun d hd => ?_⟩
  obtain ⟨c, d, hc, hd', rfl⟩ := zipL_get hd
  obtain ⟨x, hx, rx⟩ := r.get hc
  obtain ⟨y, hy, ry⟩ := r'.get hd'
  refine ⟨⟨xs, ys, x, y, q1, q2, hx, hy⟩, fun v H' hv => ?_⟩
  obtain ⟨T, x', y', rfl, hT, rfl, h1, h2⟩ := hv
  have := h1 xs q1
  rw [hx] at this; cases this
  have := h2 ys q2
  rw [hy] at this; cases this
  exact laid_tup S hT (Reps.cons (rx.mono le) (Reps.one (ry.mono le)))
theorem walks_zT {Φ : Fr0} {Pr : Hp} {a b : Addr} {xs ys : List V} {l m : List D} (q : SqT X.K Pr a xs) (r : Reps X.K Pr l xs) (q' : SqT X.K Pr b ys) (r' : Reps X.K Pr m ys) : Walks X Φ (ItzT X.K a b) (zipL l m) Pr := by
  intro i P1 st σ H le S
  have q1 : SqT X.K H a xs := S.sqT (le.sqT q)
  have q2 : SqT X.K H b ys := S.sqT (le.sqT q')
  refine ⟨fun h => ⟨xs, ys, q1, q2, by rw [r.length, r'.length]; rw [zipL_length] at h; omega⟩, fun d hd => ?_⟩
  obtain ⟨c, d, hc, hd', rfl⟩ := zipL_get hd
  obtain ⟨x, hx, rx⟩ := r.get hc
  obtain ⟨y, hy, ry⟩ := r'.get hd'
  refine ⟨⟨xs, ys, x, y, q1, q2, hx, hy⟩, fun v H' hv => ?_⟩
  obtain ⟨T, x', y', rfl, hT, rfl, h1, h2⟩ := hv
  have := h1 xs q1
  rw [hx] at this; cases this
  have := h2 ys q2
  rw [hy] at this; cases this
  exact laid_tup S hT (Reps.cons (rx.mono le) (Reps.one (ry.mono le)))
theorem takeArgs_walk {Φ : Fr0} {G : List D → Option (List D)} {fs : Ar} {σ : St} {H : Hp} {R : It → Hp → Prop} {r : List V → Hp → Prop} {f : Ws} (hf : f = fun s => (fs s).bind fun os s1 => (takeAll os s1).bind fun ds s2 => okO (G ds) s2)
    (hq : ∀ Pr st H ds vs ws, Sim X.K Φ Pr st σ H → Reps X.K Pr ds vs → G ds = some ws → (∀ J, (∀ Φ' : Fr0, Φ'.lk = Φ.lk → Walks X Φ' J ws Pr) → R J H) → r vs H) (h : tW X Φ W f σ H R) : tAr X Φ W fs σ H r := by
  subst hf
  obtain ⟨Pr, st, S, h⟩ := h
  refine ⟨Pr, st, S, h.bind.imp fun os s1 P1 H1 l1 S1 h1 P2 vs l2 S2 ks => ?_⟩
  obtain ⟨ds, s2, P3, e, l3, S3, r3, h3⟩ := takeAll_of S2 ks (h1.mono l2)
  cases e2 : G ds with
  | none => rw [e2] at h3; exact h3.elim
  | some ws =>
    rw [e2] at h3
    exact hq P3 s2 H1 ds vs ws S3 r3 e2 fun J wk => h3 P3 H1 (Le.refl _) S3 P3 J (Le.refl _) S3 wk
def enumG : List D → Option (List D)
  | [.lst l] => some (enumL 0 l)
  | _ => none
def zipG : List D → Option (List D)
  | [.lst l, .lst m] => some (zipL l m)
  | [.tup l, .tup m] => some (zipL l m)
  | _ => none
theorem si_enum {e : Expr} {fs : Ar} {p pos tpos : Pos} {elts : List Expr} {kk : Nat} (hg : Gl X "enumerate") (hm : X.mg "enumerate" = none) (ha : SA X W [e] fs) (hs : starEach [e] X.env = [(false, eval e X.env)] := by rfl) :
    SI X W (.Tuple elts kk tpos) (.Call (.Name "enumerate" p) [e] [] pos) (wEnum fs) := by
  refine ⟨fun Φ => piImp (pi_enum hg hm (ha.pa Φ) hs) fun σ H R h => takeArgs_walk (G := enumG) (by
    funext s
    unfold wEnum
    congr 1; funext os s1; congr 1; funext ds s2
    unfold enumG
    split <;> first | rfl | (split <;> first | rfl | contradiction)) (fun Pr st H ds vs ws S r e k => ?_) h⟩
  unfold enumG at e
  split at e
  · cases e
    unfold Reps at r
    obtain ⟨x, t, rfl, r1, r2⟩ := r
    unfold Reps at r2
    subst r2
    unfold Rep at r1
    obtain ⟨a, xs, rfl, q, r1⟩ := r1
    exact ⟨a, xs, rfl, .inl (S.rdL q), k _ fun _ _ => walks_e q r1⟩
  · cases e
theorem si_zip {e e2 : Expr} {fs : Ar} {p pos tpos : Pos} {elts : List Expr} {kk : Nat} (hg : Gl X "zip") (hm : X.mg "zip" = none) (ha : SA X W [e, e2] fs) (hi : ∀ t, PA X [e, e2] t → PI X (.Tuple elts kk tpos) (.Call (.Name "zip" p) [e, e2] [] pos) (iZipA X.K t)) :
    SI X W (.Tuple elts kk tpos) (.Call (.Name "zip" p) [e, e2] [] pos) (wZip fs) := by
  refine ⟨fun Φ => piImp (hi _ (ha.pa Φ)) fun σ H R h => takeArgs_walk (G := zipG) (by
    funext s
    unfold wZip
    congr 1; funext os s1; congr 1; funext ds s2
    unfold zipG
    split <;> first | rfl | (split <;> first | rfl | contradiction)) (fun Pr st H ds vs ws S r e k => ?_) h⟩
  unfold zipG at e
  split at e
  · cases e
    unfold Reps at r
    obtain ⟨x, t, rfl, r1, r2⟩ := r
    unfold Reps at r2
    obtain ⟨y, t, rfl, r2, r3⟩ := r2
    unfold Reps at r3
    subst r3
    unfold Rep at r1 r2
    obtain ⟨a, xs, rfl, q, r1⟩ := r1
    obtain ⟨b, ys, rfl, q', r2⟩ := r2
    exact ⟨a, b, xs, ys, rfl, .inl ⟨.inl (S.rdL q), .inl (S.rdL q'), k _ fun _ _ => walks_z q r1 q' r2⟩⟩
  · cases e
    unfold Reps at r
    obtain ⟨x, t, rfl, r1, r2⟩ := r
    unfold Reps at r2
    obtain ⟨y, t, rfl, r2, r3⟩ := r2
    unfold Reps at r3
    subst r3
    unfold Rep at r1 r2
    obtain ⟨a, xs, rfl, q, r1⟩ := r1
    obtain ⟨b, ys, rfl, q', r2⟩ := r2
    exact ⟨a, b, xs, ys, rfl, .inr ⟨S.sqT q, S.sqT q', k _ fun _ _ => walks_zT q r1 q' r2⟩⟩
  · cases e
theorem walks_v {Φ : Fr0} {Pr : Hp} {a : Addr} {xs : List V} {l : List D} (q : Rd Pr a (.lst xs)) (r : Reps X.K Pr l xs) : Walks X Φ (Itv X.K a xs.length) l.reverse Pr := by
  intro i P1 st σ H le S
  have q1 : SqL X.K H a xs := .inl (S.rdL (le.rd q))
  have hl := r.length
  refine ⟨fun h => by show xs.length ≤ i; rw [hl]; rw [List.length_reverse] at h; exact h, fun d hd => ?_⟩
  have hi : i < l.length := by
    have := (List.getElem?_eq_some_iff.mp hd).1
    rwa [List.length_reverse] at this
  rw [List.getElem?_reverse hi] at hd
  obtain ⟨x, hx, rx⟩ := r.get hd
  rw [← hl] at hx
  refine ⟨⟨by rw [hl]; exact hi, xs, x, q1, hx⟩, fun y H' hy => ?_⟩
  obtain ⟨rfl, hy⟩ := hy
  have := hy xs q1
  rw [hx] at this; cases this
  exact ⟨P1, Le.refl _, S, rx.mono le⟩
theorem walks_vT {Φ : Fr0} {Pr : Hp} {a : Addr} {xs : List V} {l : List D} (q : SqT X.K Pr a xs) (r : Reps X.K Pr l xs) : Walks X Φ (ItvT X.K a xs.length) l.reverse Pr := by
  intro i P1 st σ H le S
  have q1 : SqT X.K H a xs := S.sqT (le.sqT q)
  have hl := r.length
  refine ⟨fun h => by show xs.length ≤ i; rw [hl]; rw [List.length_reverse] at h; exact h, fun d hd => ?_⟩
  have hi : i < l.length := by
    have := (List.getElem?_eq_some_iff.mp hd).1
    rwa [List.length_reverse] at this
  rw [List.getElem?_reverse hi] at hd
  obtain ⟨x, hx, rx⟩ := r.get hd
  rw [← hl] at hx
  refine ⟨⟨by rw [hl]; exact hi, xs, x, q1, hx⟩, fun y H' hy => ?_⟩
  obtain ⟨rfl, hy⟩ := hy
  have := hy xs q1
  rw [hx] at this; cases this
  exact ⟨P1, Le.refl _, S, rx.mono le⟩
theorem si_rev {e : Expr} {fe : E} {p pos : Pos} (hg : Gl X "reversed") (hm : X.mg "reversed" = none) (he : SE X W e fe) (hs : starEach [e] X.env = (false, eval e X.env) :: starEach [] X.env := by rfl) : SI X W tg (.Call (.Name "reversed" p) [e] [] pos) (wRev fe) := by
  refine ⟨fun Φ => piImp (pi_revA hg hm (he.pe Φ) hs) fun σ H R h => ?_⟩
  obtain ⟨Pr, st, S, h⟩ := h
  refine ⟨Pr, st, S, h.bind.imp fun o s1 P1 H1 l1 S1 h1 v hv => ?_⟩
  obtain ⟨d, ds, s2, P2, l2, S2, r2, e, h2⟩ := take_walk S1 hv h1
  cases d <;> first | cases e | skip
  · unfold Rep at r2
    obtain ⟨a, xs, rfl, q, r⟩ := r2
    exact ⟨a, xs, rfl, .inr ⟨S2.sqT q, h2 P2 _ (Le.refl _) S2 (fun _ _ => walks_vT q r)⟩⟩
  · unfold Rep at r2
    obtain ⟨a, xs, rfl, q, r⟩ := r2
    exact ⟨a, xs, rfl, .inl ⟨.inl (S2.rdL q), h2 P2 _ (Le.refl _) S2 (fun _ _ => walks_v q r)⟩⟩
end
end Dv
namespace Dv
open PySem L2
inductive COut where
  | ret (o : Opd) (fin : List Slot)
  | exc (c : Str) (v : D) (fin : List Slot)
  | bad
abbrev Fn := List Slot → COut
def run (k n : Nat) (b : S) : Fn := fun args => if args.length = k then match b (args ++ List.replicate (n - k) .un) with
    | .nxt s => .ret (.val .non) (s.take k)
    | .ret (.val d) s => .ret (.val d) (s.take k)
    | .ret (.own d) s => .ret (.own d) (s.take k)
    | .ret (.slot i) s => match s[i]? with
      | some (.own d) => .ret (.own d) ((s.set i .un).take k)
      | some (.par d) => .ret (.val d) ((s.set i (.pfr d)).take k)
      | _ => .bad
    | .exc c v s => .exc c v (s.take k)
    | _ => .bad
  else .bad
section
variable {K : PySem.W.Frag} {Φ : Fr0} {Pr H : Hp} {st : Sto} {σ : L2.St}
theorem Sim.takeN (S : Sim K Φ Pr st σ H) (k : Nat) : Sim K Φ Pr (st.take k) (σ.take k) H where
  len := by rw [List.length_take, List.length_take, S.len]
  inn := S.inn
  le0 := S.le0
  slots := fun i s e => by
    have hi : i < k := by
      by_cases h : i < k
      · exact h
      · rw [List.getElem?_take, if_neg h] at e; cases e
    rw [List.getElem?_take_of_lt hi] at e ⊢
    exact S.slots i s e
  apart := fun i j s t a h1 h2 m1 m2 h3 h4 => by
    have lt : ∀ {i : Nat} {s : Slot}, (st.take k)[i]? = some s → i < k := fun {i s} e => by
      by_cases h : i < k
      · exact h
      · rw [List.getElem?_take, if_neg h] at e; cases e
    have hi := lt h1
    have hj := lt h2
    rw [List.getElem?_take_of_lt hi] at h1 h3
    rw [List.getElem?_take_of_lt hj] at h2 h4
    exact S.apart i j s t a h1 h2 m1 m2 h3 h4
  frame := S.frame
  newp := S.newp
  locks := S.locks
  lkin := S.lkin
  lent := S.lent
theorem Sim.drop (S : Sim K Φ Pr st σ H) (i : Nat) : Sim K Φ Pr (st.set i .un) σ H where
  len := by simpa using S.len
  inn := S.inn
  le0 := S.le0
  slots := fun j s e => by
    by_cases h : j = i
    · subst h
      by_cases hl : j < st.length
      · rw [List.getElem?_set_self hl] at e; cases e
        obtain ⟨ov, h1, _⟩ := S.slots j _ (List.getElem?_eq_getElem hl)
        exact ⟨ov, h1, trivial⟩
      · rw [List.getElem?_eq_none (by simpa using hl)] at e; cases e
    · rw [List.getElem?_set_ne (Ne.symm h)] at e
      exact S.slots j s e
  apart := fun j k s t a h1 h2 m1 m2 h3 h4 => by
    have back : ∀ {j : Nat} {s : Slot}, (st.set i .un)[j]? = some s → s.mut = true → st[j]? = some s := fun {j s} e m => by
      by_cases h : j = i
      · subst h
        by_cases hl : j < st.length
        · rw [List.getElem?_set_self hl] at e; cases e; cases m
        · rw [List.getElem?_eq_none (by simpa using hl)] at e; cases e
      · rwa [List.getElem?_set_ne (Ne.symm h)] at e
    exact S.apart j k s t a (back h1 m1) (back h2 m2) m1 m2 h3 h4
  frame := S.frame
  newp := S.newp
  locks := S.locks
  lkin := S.lkin
  lent := S.lent
theorem Sim.start (S : Sim K Φ Pr st σ H) (m : Nat) : Sim K Φ Pr (st ++ List.replicate m .un) (σ ++ List.replicate m none) H where
  len := by simp [S.len]
  inn := S.inn
  le0 := S.le0
  slots := fun i s e => by
    by_cases hi : i < st.length
    · rw [List.getElem?_append_left hi] at e
      rw [List.getElem?_append_left (by rw [← S.len]; exact hi)]
      exact S.slots i s e
    · rw [List.getElem?_append_right (by omega)] at e
      rw [List.getElem?_append_right (by rw [← S.len]; omega)]
      rw [List.getElem?_replicate] at e
      split at e
      · rename_i h
        cases e
        rw [← S.len, List.getElem?_replicate, if_pos h]
        exact ⟨none, rfl, trivial⟩
      · cases e
  apart := fun i j s t a h1 h2 m1 m2 h3 h4 => by
    have back : ∀ {i : Nat} {s : Slot}, (st ++ List.replicate m .un)[i]? = some s → s.mut = true → st[i]? = some s ∧ i < st.length := fun {i s} e ms => by
      by_cases hi : i < st.length
      · rw [List.getElem?_append_left hi] at e; exact ⟨e, hi⟩
      · rw [List.getElem?_append_right (by omega), List.getElem?_replicate] at e
        split at e
        · cases e; cases ms
        · cases e
    obtain ⟨e1, l1⟩ := back h1 m1
    obtain ⟨e2, l2⟩ := back h2 m2
    rw [List.getElem?_append_left (by rw [← S.len]; exact l1)] at h3
    rw [List.getElem?_append_left (by rw [← S.len]; exact l2)] at h4
    exact S.apart i j s t a e1 e2 m1 m2 h3 h4
  frame := S.frame
  newp := S.newp
  locks := S.locks
  lkin := S.lkin
  lent := S.lent
end
def spF (K : PySem.W.Frag) (F : Fn) : Sp := fun vs H Q X => ∃ (Pr : Hp) (lk : List Addr) (bs : Nat → Option Addr) (args : List Slot), Sim K ⟨H, Pr, bs, lk⟩ Pr args (vs.map some) H ∧
  match F args with
  | .ret o fin => ∀ Pr' H' σ' v, Le Pr Pr' → Sim K ⟨H, Pr, bs, lk⟩ Pr' fin σ' H' → RepO K ⟨H, Pr, bs, lk⟩ Pr' H' fin σ' o v → Q v H'
  | .exc c d fin => ∀ Pr' H' σ' C dx v, Le Pr Pr' → Sim K ⟨H, Pr, bs, lk⟩ Pr' fin σ' H' → PySem.W.nsIn K mainGlobals c = some (some (.ref C)) → Pr' dx = some (.xd [("value", v)]) → Rep K Pr' d v → X (.ref C) (some dx) H'
  | .bad => False
structure FnOk (P : Program) (w : World) (K : PySem.W.Frag) (mg : Str → Option Value) (base : Heap) (k : Nat) (f : Addr) (fd : FuncData) (ps : List Str) (sp : Sp) : Prop where
  len : ∀ vs H Q E, sp vs H Q E → vs.length = ps.length
  run : ∀ {A : Around} {outer : List Env} {s : Shared} {H : Hp} {args : Args} {us : List Value} {vs : List V} {Q : VK} {E : XK}, Room k A → Env0 P w K mg base A outer s H → BindsTo s fd args (ps.zip us) → Vals vs us → sp vs H Q E →
    codeAny (model P w) A (.call (.ref f) args) (CR (L2.CX P w) outer P w H s Q E) s
section
variable {P : Program} {w : World} {K : PySem.W.Frag} {mg : Str → Option Value} {base : Heap}
theorem body_end {N : List Str} {qual : Str} {scope : Scope} {f : Addr} {cdv : Value} {A : Around} {outer : List Env} {s s' : Shared} {H : Hp} {Q : VK} {E : XK} :
    ∀ fl : Flow, SP (cxOf (L2.CX P w) P w K mg base N qual scope f cdv A outer s H E) [] { nx := fun _ H' => Q .non H', rt := Q } fl s' → CR (L2.CX P w) outer P w H s Q E (.ok (.ret (match fl with | .ret v => v | _ => .none))) s'
  | .ret _, h => by obtain ⟨v, _, H2, J, rv, q⟩ := h; exact ⟨v, H2, J.os, J.bare, J.base, J.hok, rv, q⟩
  | .next, h => by obtain ⟨_, H2, J, q⟩ := h; exact ⟨.non, H2, J.os, J.bare, J.base, J.hok, rfl, q⟩
  | .brk, h => by obtain ⟨_, _, _, q⟩ := h; exact q.elim
  | .cont, h => by obtain ⟨_, _, _, q⟩ := h; exact q.elim
theorem enter {x qual : Str} {st : Stmt} {f : Addr} {fd : FuncData} {N ps : List Str} {k : Nat} {sp : Sp} (F : Fun K x qual st f fd) (Sc : FnScope N ps (defScope st)) (len : ∀ vs H Q E, sp vs H Q E → vs.length = ps.length)
    (hb : ∀ (cdv : Value) (A : Around) (outer : List Env) (s : Shared) (H : Hp) (vs : List V) (Q : VK) (E : XK), Room k (A.deeper (PyProof.Rows.envOfC qual (defScope st) s.heap.objs.size f cdv)) → sp vs H Q E →
      ∃ t, PSs (cxOf (L2.CX P w) P w K mg base N qual (defScope st) f cdv A outer s H E) (defBody st) t ∧ t { nx := fun _ H' => Q .non H', rt := Q } (start N vs) H) : FnOk P w K mg base (k + 1) f fd ps sp where
  len := len
  run {A outer s H args us vs Q E} hr e0 bnd rv hsp := by
    obtain ⟨oc, od, kV, doc, pm, an, cdv, ct, osl, rfl, lk, hcd⟩ := F.ex
    have up : ∀ b o, base.get? b = some o → s.heap.get? b = some o := fun b o e => (e0.bs b o e).1
    have KX := e0.mod.kin.keeps up
    have kinds : ∀ y ∈ ps.zip us, (defScope st).names.lookup y.1 = some .local ∨ ((defScope st).names.lookup y.1 = some .cell ∧ ((cellsFrom (s.heap.objs.size + 1) (defScope st).names []).lookup y.1).isSome = true) := fun y hy =>
      (Sc.par y.1 (List.of_mem_zip hy).1).imp id fun q => ⟨q, PySem.W.cellsFrom_some _ _ _ (.inl q)⟩
    have into : ∀ (env : Env) (s1 : Shared), env = PyProof.Rows.envOfC qual (defScope st) s.heap.objs.size f cdv → InCallC s env.locals (bindL env.kindOf (ps.zip us) fun _ => none) env.cells (bindC env.kindOf (ps.zip us) fun _ => none) s1 →
        s1.heap.NoLimit ∧ codeAny (model P w) A (.func (defBody st) env) (CR (L2.CX P w) outer P w H s Q E) s1 := fun env s1 ee x => by
      subst ee
      obtain ⟨t, ht, hq⟩ := hb cdv A outer s H vs Q E (hr.into _) hsp
      have I := inv_start (CX := L2.CX P w) (E := E) Sc hr.rm.hd e0 (len _ _ _ _ hsp) rv x
      exact ⟨(e0.mod.nolimit.keeps up).keeps x.toInCall.keep, codeAny_func (wpAny_mono (ht.run [] s1 _ H _ I hq) (fun fl s2 h2 => body_end fl h2) fun _ _ z => z)⟩
    exact codeAny_call_function hr.rm.depth (KX _ _ lk) rfl Sc.co Sc.gen rfl (PySem.W.codeRec_of KX hcd) (bnd _ _ _ _ (wpAny_newFunctionEnv_cells Sc.kind kinds fun env ee s1 x => into env s1 ee x))
theorem fn_okT {x qual : Str} {st : Stmt} {f : Addr} {fd : FuncData} {N ps : List Str} {n : Nat} {b : S} (F : Fun K x qual st f fd) (Sc : FnScope N ps (defScope st))
    (hb : ∀ X : Cx, ∀ E : XK, X.prog = P → X.w = w → X.K = K → X.mg = mg → X.base = base → X.N = N → X.calm = true → Room n X.A → X.env.scope = defScope st → (∀ y, X.fn y = true) → PassesOwn (model X.prog X.w) X.A X.env X.xe →
      Takes X (fun cls d _ H => E cls d H) → (X.stack = X.env :: X.outer ∧ X.ex = [] ∧ X.env.frame = some X.env.locals) → SSs X (fun cls d _ H => E cls d H) (defBody st) b) :
    FnOk P w K mg base (n + 1) f fd ps (spF K (run ps.length N.length b)) := by
  refine enter F Sc (fun vs H Q E h => ?_) (fun cdv A outer s H vs Q E hr h => ?_)
  · obtain ⟨Pr, lk, bs, args, S, h⟩ := h
    have : args.length = ps.length := by
      unfold run at h
      split at h
      · rename_i e
        split at e
        · assumption
        · cases e
      · rename_i e
        split at e
        · assumption
        · cases e
      · exact h.elim
    rw [← this, S.len, List.length_map]
  · obtain ⟨Pr, lk, bs, args, S, h⟩ := h
    have hlen : args.length = ps.length := by
      unfold run at h
      split at h
      · rename_i e
        split at e
        · assumption
        · cases e
      · rename_i e
        split at e
        · assumption
        · cases e
      · exact h.elim
    have hvs : vs.length = ps.length := by rw [← hlen, S.len, List.length_map]
    have body := hb (cxOf (L2.CX P w) P w K mg base N qual (defScope st) f cdv A outer s H E) E rfl rfl rfl rfl rfl rfl rfl hr rfl (fun _ => rfl) (passes_of (E₁ := fun e' s'' => L2.CX P w outer H s E e' s'') rfl) (takes_of rfl rfl rfl rfl) ⟨rfl, rfl, rfl⟩
    refine ⟨_, body.pss ⟨H, Pr, bs, lk⟩, Pr, args ++ List.replicate (N.length - ps.length) .un, ?_, ?_⟩
    · have := S.start (N.length - ps.length)
      unfold L2.start
      rw [hvs]
      exact this
    · unfold run at h
      rw [if_pos hlen] at h
      have tk : ∀ {Pr' : Hp} {st' : Sto} {σ' : L2.St} {H' : Hp}, Sim K ⟨H, Pr, bs, lk⟩ Pr' st' σ' H' → Sim K ⟨H, Pr, bs, lk⟩ Pr' (st'.take ps.length) (σ'.take ps.length) H' := fun S' => S'.takeN _
      cases e : b (args ++ List.replicate (N.length - ps.length) .un) with
      | nxt s1 =>
        rw [e] at h
        exact fun Pr' σ' H' l S' => h Pr' H' _ _ l (tk S') ro_non
      | ret o s1 =>
        rw [e] at h
        cases o with
        | val d => exact fun Pr' σ' H' v l S' rv => h Pr' H' _ v l (tk S') rv
        | own d =>
          refine fun Pr' σ' H' v l S' rv => h Pr' H' _ v l (tk S') ?_
          obtain ⟨a, ob, rfl, hn, h0, ha, hc, hf⟩ := rv
          refine ⟨a, ob, rfl, hn, h0, ha, hc, fun i t q m z => ?_⟩
          have hi : i < ps.length := by
            by_cases h : i < ps.length
            · exact h
            · rw [List.getElem?_take, if_neg h] at q; cases q
          rw [List.getElem?_take_of_lt hi] at q z
          exact hf i t q m z
        | slot i =>
          intro Pr' σ' H' v l S' rv
          obtain ⟨hv, t, ht, hm⟩ := rv
          simp only at h
          rw [ht] at h
          obtain ⟨ov, h1, h2⟩ := S'.slots i t ht
          rw [hv] at h1; cases h1
          cases t with
          | own d =>
            obtain ⟨a, ob, ea, hn, h0, ha, hc⟩ := h2
            cases ea
            refine h Pr' H' _ _ l (tk (S'.drop i)) ⟨a, ob, rfl, hn, h0, ha, hc, fun j t q m z => ?_⟩
            have hj : j < ps.length := by
              by_cases h : j < ps.length
              · exact h
              · rw [List.getElem?_take, if_neg h] at q; cases q
            rw [List.getElem?_take_of_lt hj] at q z
            by_cases ej : j = i
            · subst ej
              rw [List.getElem?_set_self (List.getElem?_eq_some_iff.mp ht).1] at q
              cases q; cases m
            · rw [List.getElem?_set_ne (Ne.symm ej)] at q
              exact ej (S'.apart j i t _ a q ht m rfl z hv)
          | par d =>
            obtain ⟨P2, w', le, S2, hw, r, _⟩ := S'.fzSlot ht rfl
            rw [hv] at hw; cases hw
            exact h P2 H' _ _ (l.trans le) (tk S2) r
          | un => cases hm
          | val _ => cases hm
          | pfr _ => cases hm
      | exc c d s1 =>
        rw [e] at h
        exact fun Pr' σ' H' C dx v l S' => h Pr' H' _ C dx v l (tk S')
      | brk s1 => rw [e] at h; exact h.elim
      | cnt s1 => rw [e] at h; exact h.elim
      | bad => rw [e] at h; exact h.elim
theorem fn_ok {x qual : Str} {st : Stmt} {f : Addr} {fd : FuncData} {N ps : List Str} {n : Nat} {b : S} (F : Fun K x qual st f fd) (Sc : FnScope N ps (defScope st))
    (hb : ∀ X : Cx, ∀ E : XK, X.prog = P → X.w = w → X.K = K → X.mg = mg → X.base = base → X.N = N → X.calm = true → Room n X.A → X.env.scope = defScope st → (∀ y, X.fn y = true) → PassesOwn (model X.prog X.w) X.A X.env X.xe →
      Takes X (fun cls d _ H => E cls d H) → SSs X (fun cls d _ H => E cls d H) (defBody st) b) :
    FnOk P w K mg base (n + 1) f fd ps (spF K (run ps.length N.length b)) :=
  fn_okT F Sc fun X E hP hw hK hmg hbase hN hc hr hs hfn hp tk _ => hb X E hP hw hK hmg hbase hN hc hr hs hfn hp tk
end
def ph1 : List Bool → List Opd → Sto → R (List Opd)
  | [], [], s => .ok [] s
  | m :: ms, o :: os, s => if m then (ph1 ms os s).bind fun r s1 => .ok (o :: r) s1
      else (takeO o s).bind fun d s1 => (ph1 ms os s1).bind fun r s2 => .ok (.val d :: r) s2
  | _, _, _ => .bad
def argOf (o : Opd) (s : Sto) : Option Slot := match o with
  | .val d => some (.val d)
  | .own d => some (.val d)
  | .slot i => match s[i]? with
    | some (.own d) => some (.par d)
    | some (.par d) => some (.par d)
    | some (.val d) => some (.val d)
    | some (.pfr d) => some (.val d)
    | _ => none
def ph2 : List Opd → Sto → Option (List Slot)
  | [], _ => some []
  | o :: os, s => (argOf o s).bind fun a => (ph2 os s).bind fun as => some (a :: as)
def lentOf : List Opd → List Nat
  | [] => []
  | .slot i :: os => i :: lentOf os
  | _ :: os => lentOf os
def back1 (o : Opd) (a f : Slot) (s : Sto) : Option Sto := match o, a, f with
  | .slot i, .par _, .par d => match s[i]? with
    | some t => some (s.set i (t.put d))
    | none => none
  | .slot i, .par _, .pfr d => match s[i]? with
    | some t => some (s.set i (t.put d).fz)
    | none => none
  | _, .par _, _ => none
  | _, _, _ => some s
def back : List Opd → List Slot → List Slot → Sto → Option Sto
  | [], [], [], s => some s
  | o :: os, a :: as, f :: fs, s => (back1 o a f s).bind fun s1 => back os as fs s1
  | _, _, _, _ => none
def callO (F : Fn) (os : List Opd) (s : Sto) : R Opd := if (lentOf os).Nodup then match ph2 os s with
    | some args => match F args with
      | .ret o fin => match o with
        | .slot _ => .bad
        | o => match back os args fin s with
          | some s1 => .ok o s1
          | none => .bad
      | .exc c v fin => match back os args fin s with
        | some s1 => .exc c v s1
        | none => .bad
      | .bad => .bad
    | none => .bad
  else .bad
def sCall (F : Fn) (ms : List Bool) (as : Ar) : E := fun s => (as s).bind fun os s1 => (ph1 ms os s1).bind fun os' s2 => callO F os' s2
end Dv
namespace Dv
open PySem L2
section
variable {X : Cx} {W : WX} {K : PySem.W.Frag} {Φ : Fr0} {Pr H : Hp} {st : Sto} {σ : L2.St}
def bsOf (args : List Slot) (vs : List V) (i : Nat) : Option Addr := match args[i]?, vs[i]? with
  | some (.par _), some (.ref a) => some a
  | _, _ => none
theorem bsOf_some {args : List Slot} {vs : List V} {i : Nat} {a : Addr} (h : bsOf args vs i = some a) : ∃ d, args[i]? = some (.par d) ∧ vs[i]? = some (.ref a) := by
  unfold bsOf at h
  split at h
  · rename_i h1 h2
    cases h
    exact ⟨_, h1, h2⟩
  · cases h
theorem kps_get {os : List Opd} {vs : List V} (h : Kps K Pr σ os vs) : ∀ {i : Nat} {v : V}, vs[i]? = some v → ∃ o, os[i]? = some o ∧ Kp K Pr σ o v := by
  induction h with
  | nil => intro i v e; simp at e
  | @cons o os v vs k _ ih =>
    intro i u e
    cases i with
    | zero => simp at e; subst e; exact ⟨o, by simp, k⟩
    | succ i => obtain ⟨o', h1, h2⟩ := ih (by simpa using e); exact ⟨o', by simpa using h1, h2⟩
theorem kps_len {os : List Opd} {vs : List V} (h : Kps K Pr σ os vs) : os.length = vs.length := by
  induction h with
  | nil => rfl
  | cons _ _ ih => simp [ih]
theorem ph2_get : ∀ {os : List Opd} {s : Sto} {as : List Slot} {i : Nat} {a : Slot}, ph2 os s = some as → as[i]? = some a → ∃ o, os[i]? = some o ∧ argOf o s = some a
  | [], s, as, i, a, h, e => by cases h; simp at e
  | o :: os, s, as, i, a, h, e => by
    unfold ph2 at h
    rw [Option.bind_eq_some_iff] at h
    obtain ⟨b, h1, h⟩ := h
    rw [Option.bind_eq_some_iff] at h
    obtain ⟨bs, h2, h⟩ := h
    cases h
    cases i with
    | zero => simp at e; subst e; exact ⟨o, by simp, h1⟩
    | succ i => obtain ⟨o', q1, q2⟩ := ph2_get h2 (by simpa using e); exact ⟨o', by simpa using q1, q2⟩
theorem ph2_len : ∀ {os : List Opd} {s : Sto} {as : List Slot}, ph2 os s = some as → as.length = os.length
  | [], s, as, h => by cases h; rfl
  | o :: os, s, as, h => by
    unfold ph2 at h
    rw [Option.bind_eq_some_iff] at h
    obtain ⟨b, h1, h⟩ := h
    rw [Option.bind_eq_some_iff] at h
    obtain ⟨bs, h2, h⟩ := h
    cases h
    simp [ph2_len h2]
theorem argOf_par {o : Opd} {s : Sto} {d : D} (h : argOf o s = some (.par d)) : ∃ i t, o = .slot i ∧ s[i]? = some t ∧ t.mut = true ∧ t.dat = some d := by
  cases o with
  | val _ => cases h
  | own _ => cases h
  | slot i =>
    unfold argOf at h
    simp only at h
    split at h
    · rename_i e; cases h; exact ⟨i, _, rfl, e, rfl, rfl⟩
    · rename_i e; cases h; exact ⟨i, _, rfl, e, rfl, rfl⟩
    · cases h
    · cases h
    · cases h
theorem argOf_kinds {o : Opd} {s : Sto} {a : Slot} (h : argOf o s = some a) : (∃ d, a = .val d) ∨ ∃ d, a = .par d := by
  cases o with
  | val _ => cases h; exact .inl ⟨_, rfl⟩
  | own _ => cases h; exact .inl ⟨_, rfl⟩
  | slot i =>
    unfold argOf at h
    simp only at h
    split at h <;> first | (cases h; exact .inl ⟨_, rfl⟩) | (cases h; exact .inr ⟨_, rfl⟩) | cases h
theorem argOf_val {o : Opd} {v : V} {d : D} (S : Sim K Φ Pr st σ H) (k : Kp K Pr σ o v) (h : argOf o st = some (.val d)) : Rep K Pr d v := by
  cases o with
  | val _ => cases h; exact k
  | own _ => cases h; exact k
  | slot i =>
    unfold argOf at h
    simp only at h
    have k' : σ[i]? = some (some v) := k
    split at h
    · cases h
    · cases h
    · rename_i e
      cases h
      obtain ⟨ov, h1, w, rfl, r⟩ := S.slots i _ e
      rw [k'] at h1; cases h1; exact r
    · rename_i e
      cases h
      obtain ⟨ov, h1, w, rfl, _, r⟩ := S.slots i _ e
      rw [k'] at h1; cases h1; exact r
    · cases h
theorem lentOf_get : ∀ {os : List Opd} {i j n m : Nat}, (lentOf os).Nodup → os[i]? = some (.slot n) → os[j]? = some (.slot n) → i = j
  | [], i, j, n, m, _, h, _ => by simp at h
  | o :: os, i, j, n, m, nd, h1, h2 => by
    have mem : ∀ {os : List Opd} {i n : Nat}, os[i]? = some (.slot n) → n ∈ lentOf os := by
      intro os
      induction os with
      | nil => intro i n h; simp at h
      | cons o os ih =>
        intro i n h
        cases i with
        | zero => simp at h; subst h; exact List.mem_cons_self
        | succ i =>
          have := ih (by simpa using h)
          cases o with
          | slot k => exact List.mem_cons_of_mem _ this
          | val _ => exact this
          | own _ => exact this
    have tl : (lentOf os).Nodup := by
      cases o with
      | slot k => exact (List.nodup_cons.mp nd).2
      | val _ => exact nd
      | own _ => exact nd
    cases i with
    | zero =>
      cases j with
      | zero => rfl
      | succ j =>
        simp at h1
        subst h1
        exact absurd (mem (by simpa using h2)) (List.nodup_cons.mp nd).1
    | succ i =>
      cases j with
      | zero =>
        simp at h2
        subst h2
        exact absurd (mem (by simpa using h1)) (List.nodup_cons.mp nd).1
      | succ j =>
        have := lentOf_get (m := m) tl (by simpa using h1) (by simpa using h2)
        omega
theorem entry {os : List Opd} {vs : List V} {args : List Slot} (S : Sim K Φ Pr st σ H) (ks : Kps K Pr σ os vs) (nd : (lentOf os).Nodup) (h : ph2 os st = some args) : Sim K ⟨H, Pr, bsOf args vs, Φ.lk⟩ Pr args (vs.map some) H where
  len := by rw [List.length_map, ph2_len h, kps_len ks]
  inn := S.inn
  le0 := Le.refl _
  slots := fun i s e => by
    obtain ⟨o, ho, ha⟩ := ph2_get h e
    have hv : ∃ v, vs[i]? = some v := by
      have hi : i < vs.length := by
        rw [← kps_len ks]
        exact (List.getElem?_eq_some_iff.mp ho).1
      exact ⟨_, List.getElem?_eq_getElem hi⟩
    obtain ⟨v, hv⟩ := hv
    obtain ⟨o', ho', k⟩ := kps_get ks hv
    rw [ho] at ho'; cases ho'
    refine ⟨some v, by rw [List.getElem?_map, hv]; rfl, ?_⟩
    rcases argOf_kinds ha with ⟨d, rfl⟩ | ⟨d, rfl⟩
    · exact ⟨v, rfl, argOf_val S k ha⟩
    · obtain ⟨j, t, rfl, ht, hm, hd⟩ := argOf_par ha
      obtain ⟨a, q1, q2⟩ := S.mutAt ht hm
      have k' : σ[j]? = some (some v) := k
      rw [k'] at q1; cases q1
      obtain ⟨hn, ⟨ob, hob⟩, _⟩ := q2.there hm
      refine ⟨a, ob, rfl, hn, (by show bsOf args vs i = some a; unfold bsOf; rw [e, hv]), hob, ?_⟩
      cases t with
      | own d' => cases hd; obtain ⟨b, u, eb, _, _, hu, c⟩ := q2; cases eb; rw [hob] at hu; cases hu; exact c
      | par d' => cases hd; obtain ⟨b, u, eb, _, _, hu, c⟩ := q2; cases eb; rw [hob] at hu; cases hu; exact c
      | un => cases hm
      | val _ => cases hm
      | pfr _ => cases hm
  apart := fun i j s t a h1 h2 m1 m2 h3 h4 => by
    obtain ⟨o1, ho1, ha1⟩ := ph2_get h h1
    obtain ⟨o2, ho2, ha2⟩ := ph2_get h h2
    have par : ∀ {o : Opd} {s : Slot}, argOf o st = some s → s.mut = true → ∃ j t, o = .slot j ∧ st[j]? = some t ∧ t.mut = true := fun {o s} ha m => by
      rcases argOf_kinds ha with ⟨d, rfl⟩ | ⟨d, rfl⟩
      · cases m
      · obtain ⟨j, t, e, ht, hm, _⟩ := argOf_par ha
        exact ⟨j, t, e, ht, hm⟩
    obtain ⟨n1, t1, rfl, ht1, hm1⟩ := par ha1 m1
    obtain ⟨n2, t2, rfl, ht2, hm2⟩ := par ha2 m2
    have val : ∀ {i n : Nat}, os[i]? = some (.slot n) → (vs.map some)[i]? = some (some (V.ref a)) → σ[n]? = some (some (V.ref a)) := fun {i n} ho hv => by
      rw [List.getElem?_map, Option.map_eq_some_iff] at hv
      obtain ⟨v, hv, e⟩ := hv
      cases e
      obtain ⟨o', ho', k⟩ := kps_get ks hv
      rw [ho] at ho'; cases ho'; exact k
    have := S.apart n1 n2 t1 t2 a ht1 ht2 hm1 hm2 (val ho1 h3) (val ho2 h4)
    subst this
    exact lentOf_get (m := 0) nd ho1 ho2
  frame := fun a o q _ => .inl q
  newp := fun a o q => .inl q
  locks := fun a ob o q => .inl q
  lkin := S.lkin
  lent := fun a ⟨i, e⟩ => by
    obtain ⟨d, e1, e2⟩ := bsOf_some e
    obtain ⟨o, ho, ha⟩ := ph2_get h e1
    obtain ⟨j, t, rfl, ht, hm, hd⟩ := argOf_par ha
    obtain ⟨o', ho', k⟩ := kps_get ks e2
    rw [ho] at ho'; cases ho'
    obtain ⟨a', q1, q2⟩ := S.mutAt ht hm
    have k' : σ[j]? = some (some (V.ref a)) := k
    rw [k'] at q1; cases q1
    exact (q2.there hm).2.1
theorem lent_slot {os : List Opd} {vs : List V} {args : List Slot} (S : Sim K Φ Pr st σ H) (ks : Kps K Pr σ os vs) (h : ph2 os st = some args) {i : Nat} {a : Addr} (e : bsOf args vs i = some a) :
    ∃ j t, os[i]? = some (.slot j) ∧ st[j]? = some t ∧ t.mut = true ∧ σ[j]? = some (some (V.ref a)) := by
  obtain ⟨d, e1, e2⟩ := bsOf_some e
  obtain ⟨o, ho, ha⟩ := ph2_get h e1
  obtain ⟨j, t, rfl, ht, hm, hd⟩ := argOf_par ha
  obtain ⟨o', ho', k⟩ := kps_get ks e2
  rw [ho] at ho'; cases ho'
  exact ⟨j, t, ho, ht, hm, k⟩
theorem back1_cases {o : Opd} {a f : Slot} {s s' : Sto} (h : back1 o a f s = some s') :
    ((∀ d, a ≠ .par d) ∧ s' = s) ∨ ∃ i t d0 d, o = .slot i ∧ a = .par d0 ∧ s[i]? = some t ∧ ((f = .par d ∧ s' = s.set i (t.put d)) ∨ (f = .pfr d ∧ s' = s.set i (t.put d).fz)) := by
  cases a with
  | par d0 =>
    right
    cases o with
    | val _ => cases h
    | own _ => cases h
    | slot i =>
      cases f with
      | par d =>
        unfold back1 at h
        simp only at h
        split at h
        · rename_i t ht; cases h; exact ⟨i, t, d0, d, rfl, rfl, ht, .inl ⟨rfl, rfl⟩⟩
        · cases h
      | pfr d =>
        unfold back1 at h
        simp only at h
        split at h
        · rename_i t ht; cases h; exact ⟨i, t, d0, d, rfl, rfl, ht, .inr ⟨rfl, rfl⟩⟩
        · cases h
      | un => cases h
      | val _ => cases h
      | own _ => cases h
  | un => left; exact ⟨(fun d e => (nomatch e)), by cases o <;> (cases h; rfl)⟩
  | val _ => left; exact ⟨(fun d e => (nomatch e)), by cases o <;> (cases h; rfl)⟩
  | own _ => left; exact ⟨(fun d e => (nomatch e)), by cases o <;> (cases h; rfl)⟩
  | pfr _ => left; exact ⟨(fun d e => (nomatch e)), by cases o <;> (cases h; rfl)⟩
theorem put_kind (t : Slot) (d : D) : (t.put d = .un ∧ t = .un) ∨ (∃ e, t = .val e ∧ t.put d = .val e) ∨ (∃ e, t = .own e ∧ t.put d = .own d) ∨ (∃ e, t = .par e ∧ t.put d = .par d) ∨ (∃ e, t = .pfr e ∧ t.put d = .pfr e) := by
  cases t with
  | un => exact .inl ⟨rfl, rfl⟩
  | val e => exact .inr (.inl ⟨e, rfl, rfl⟩)
  | own e => exact .inr (.inr (.inl ⟨e, rfl, rfl⟩))
  | par e => exact .inr (.inr (.inr (.inl ⟨e, rfl, rfl⟩)))
  | pfr e => exact .inr (.inr (.inr (.inr ⟨e, rfl, rfl⟩)))
end
end Dv
namespace Dv
open PySem L2
section
variable {X : Cx} {W : WX} {K : PySem.W.Frag} {Φ : Fr0} {Pr H : Hp} {st : Sto} {σ : L2.St}
structure Behind (os : List Opd) (args fin : List Slot) (s s' : Sto) : Prop where
  len : s'.length = s.length
  slot : ∀ (j : Nat) t', s'[j]? = some t' → ∃ t, s[j]? = some t ∧ ((t' = t ∧ ∀ (i : Nat) d, os[i]? = some (.slot j) → args[i]? ≠ some (.par d)) ∨
    ∃ (i : Nat) (d0 d : D), os[i]? = some (.slot j) ∧ args[i]? = some (.par d0) ∧ ((fin[i]? = some (.par d) ∧ t' = t.put d) ∨ (fin[i]? = some (.pfr d) ∧ t' = (t.put d).fz)))
theorem put_put (t : Slot) (d e : D) : (t.put d).put e = t.put e := by cases t <;> rfl
theorem back_of : ∀ {os : List Opd} {args fin : List Slot} {s s' : Sto}, (lentOf os).Nodup → back os args fin s = some s' → Behind os args fin s s' ∧ args.length = os.length ∧ fin.length = os.length
  | [], [], [], s, s', _, h => by
    cases h
    exact ⟨⟨rfl, fun j t' e => ⟨t', e, .inl ⟨rfl, fun i d q => by simp at q⟩⟩⟩, rfl, rfl⟩
  | o :: os, a :: as, f :: fs, s, s', nd, h => by
    unfold back at h
    rw [Option.bind_eq_some_iff] at h
    obtain ⟨s1, h1, h2⟩ := h
    have nd' : (lentOf os).Nodup := by
      cases o with
      | slot k => exact (List.nodup_cons.mp nd).2
      | val _ => exact nd
      | own _ => exact nd
    have notin : ∀ k, o = .slot k → ∀ i : Nat, os[i]? ≠ some (.slot k) := fun k e i q => by
      subst e
      have := lentOf_get (m := 0) nd (i := 0) (j := i + 1) (n := k) (by simp) (by simpa using q)
      omega
    obtain ⟨B, l1, l2⟩ := back_of nd' h2
    refine ⟨⟨?_, fun j t' e => ?_⟩, by simp [l1], by simp [l2]⟩
    · rw [B.len]
      rcases back1_cases h1 with ⟨_, rfl⟩ | ⟨i, t, d0, d, _, _, _, ⟨_, rfl⟩ | ⟨_, rfl⟩⟩
      · rfl
      · simp
      · simp
    · obtain ⟨t1, e1, hh⟩ := B.slot j t' e
      rcases back1_cases h1 with ⟨np, rfl⟩ | ⟨k, t, d0, d, rfl, rfl, ht, hs⟩
      · refine ⟨t1, e1, ?_⟩
        rcases hh with ⟨rfl, no⟩ | ⟨i, d0, d, q1, q2, q3⟩
        · refine .inl ⟨rfl, fun i d q => ?_⟩
          cases i with
          | zero => simp; exact np d
          | succ i => simpa using no i d (by simpa using q)
        · exact .inr ⟨i + 1, d0, d, by simpa using q1, by simpa using q2, by simpa using q3⟩
      · by_cases ej : j = k
        · subst ej
          have hj : j < s.length := (List.getElem?_eq_some_iff.mp ht).1
          refine ⟨t, ht, .inr ⟨0, d0, d, by simp, by simp, ?_⟩⟩
          have same : t' = t1 := by
            rcases hh with ⟨rfl, _⟩ | ⟨i, _, _, q1, _⟩
            · rfl
            · exact absurd q1 (notin j rfl i)
          subst same
          rcases hs with ⟨rfl, rfl⟩ | ⟨rfl, rfl⟩
          · rw [List.getElem?_set_self hj] at e1; cases e1
            exact .inl ⟨by simp, rfl⟩
          · rw [List.getElem?_set_self hj] at e1; cases e1
            exact .inr ⟨by simp, rfl⟩
        · have e1' : s[j]? = some t1 := by
            rcases hs with ⟨rfl, rfl⟩ | ⟨rfl, rfl⟩
            · rwa [List.getElem?_set_ne (Ne.symm ej)] at e1
            · rwa [List.getElem?_set_ne (Ne.symm ej)] at e1
          refine ⟨t1, e1', ?_⟩
          rcases hh with ⟨rfl, no⟩ | ⟨i, d0', d', q1, q2, q3⟩
          · refine .inl ⟨rfl, fun i d' q => ?_⟩
            cases i with
            | zero => simp at q; exact absurd q.symm ej
            | succ i => simpa using no i d' (by simpa using q)
          · exact .inr ⟨i + 1, d0', d', by simpa using q1, by simpa using q2, by simpa using q3⟩
  | [], [], f :: fs, s, s', _, h => by cases h
  | [], a :: as, fs, s, s', _, h => by cases fs <;> cases h
  | o :: os, [], fs, s, s', _, h => by cases fs <;> cases h
  | o :: os, a :: as, [], s, s', _, h => by cases h
theorem behind {os : List Opd} {vs : List V} {args fin : List Slot} {Pr' H' : Hp} {σ' : L2.St} {st' : Sto} (S : Sim K Φ Pr st σ H) (ks : Kps K Pr σ os vs) (nd : (lentOf os).Nodup) (h : ph2 os st = some args)
    (le : Le Pr Pr') (C : Sim K ⟨H, Pr, bsOf args vs, Φ.lk⟩ Pr' fin σ' H') (B : Behind os args fin st st') : Sim K Φ Pr' st' σ H' := by
  have lentM : ∀ {a : Addr}, (⟨H, Pr, bsOf args vs, Φ.lk⟩ : Fr0).Lent a → Pr a = none ∧ (Φ.H0 a = none ∨ Φ.Lent a) := fun {a} ⟨i, e⟩ => by
    obtain ⟨j, t, _, ht, hm, hj⟩ := lent_slot S ks h e
    obtain ⟨a', q1, q2⟩ := S.mutAt ht hm
    rw [hj] at q1; cases q1
    obtain ⟨q3, _, q4⟩ := q2.there hm
    exact ⟨q3, q4⟩
  -- a slot's own thing that was not lent is as it was
  have kept : ∀ {j : Nat} {t : Slot} {a : Addr} {o : HO}, st[j]? = some t → t.mut = true → σ[j]? = some (some (V.ref a)) → (∀ (i : Nat) d, os[i]? = some (.slot j) → args[i]? ≠ some (.par d)) → H a = some o → (∀ ob u, o ≠ .frz ob u) →
      H' a = some o ∧ Pr' a = none := fun {j t a o} ht hm hj no ho hf => by
    have hn : Pr a = none := by
      obtain ⟨a', q1, q2⟩ := S.mutAt ht hm
      rw [hj] at q1; cases q1
      exact (q2.there hm).1
    have nl : ¬ (⟨H, Pr, bsOf args vs, Φ.lk⟩ : Fr0).Lent a := fun ⟨i, e⟩ => by
      obtain ⟨j', t', ho', ht', hm', hj'⟩ := lent_slot S ks h e
      have := S.apart j j' t t' a ht ht' hm hm' hj hj'
      subst this
      obtain ⟨d, e1, _⟩ := bsOf_some e
      exact no i d ho' e1
    refine ⟨?_, ?_⟩
    · rcases C.frame a o ho nl with q | ⟨m, _, ob, q⟩
      · exact q
      · obtain ⟨u, z⟩ := S.lkin a m
        rw [hn] at z; cases z
    · cases e : Pr' a with
      | none => rfl
      | some u =>
        rcases C.newp a u e with q | q | q
        · rw [show Pr a = some u from q] at hn; cases hn
        · rw [show H a = none from q] at ho; cases ho
        · exact absurd q nl
  -- what was lent, by the callee
  have lentAt : ∀ {j i : Nat} {t : Slot} {d0 : D}, st[j]? = some t → os[i]? = some (.slot j) → args[i]? = some (.par d0) → ∃ a, t.mut = true ∧ σ[j]? = some (some (V.ref a)) ∧ bsOf args vs i = some a ∧ SlotOk K Φ Pr H j t (some (.ref a)) := fun {j i t d0} ht ho ha => by
    obtain ⟨o, ho', hp⟩ := ph2_get h ha
    rw [ho] at ho'; cases ho'
    obtain ⟨j', t', e, ht', hm, hd⟩ := argOf_par hp
    cases e
    rw [ht] at ht'; cases ht'
    obtain ⟨a, q1, q2⟩ := S.mutAt ht hm
    have hv : ∃ v, vs[i]? = some v := ⟨_, List.getElem?_eq_getElem (by rw [← kps_len ks]; exact (List.getElem?_eq_some_iff.mp ho).1)⟩
    obtain ⟨v, hv⟩ := hv
    obtain ⟨o', ho2, k⟩ := kps_get ks hv
    rw [ho] at ho2; cases ho2
    have k' : σ[j]? = some (some v) := k
    rw [q1] at k'; cases k'
    exact ⟨a, hm, q1, by unfold bsOf; rw [ha, hv], q2⟩
  have mutBack : ∀ {j : Nat} {t' : Slot}, st'[j]? = some t' → t'.mut = true → ∃ t, st[j]? = some t ∧ t.mut = true := fun {j t'} e m => by
    obtain ⟨t, ht, hh⟩ := B.slot j t' e
    refine ⟨t, ht, ?_⟩
    rcases hh with ⟨rfl, _⟩ | ⟨i, d0, d, _, _, ⟨_, rfl⟩ | ⟨_, rfl⟩⟩
    · exact m
    · rwa [Slot.put_mut] at m
    · rw [Slot.fz_mut] at m; cases m
  refine ⟨by rw [B.len, S.len], C.inn, S.le0.trans le, fun j t' e => ?_, fun i j s t a h1 h2 m1 m2 h3 h4 => ?_, fun a o q n => ?_, fun a o q => ?_, fun a ob o q => ?_, fun a m => (S.lkin a m).imp fun u q => le _ _ q, fun a q => ?_⟩
  · obtain ⟨t, ht, hh⟩ := B.slot j t' e
    obtain ⟨ov, h1, h2⟩ := S.slots j t ht
    refine ⟨ov, h1, ?_⟩
    rcases hh with ⟨rfl, no⟩ | ⟨i, d0, d, q1, q2, q3⟩
    · cases t' with
      | un => trivial
      | val d =>
        obtain ⟨v, rfl, r⟩ := h2
        exact ⟨v, rfl, r.mono le⟩
      | own d =>
        obtain ⟨a, o, rfl, p1, p2, p3, p4⟩ := h2
        obtain ⟨k1, k2⟩ := kept ht rfl h1 no p3 p4.nofrz
        exact ⟨a, o, rfl, k2, p2, k1, p4.mono le⟩
      | par d =>
        obtain ⟨a, o, rfl, p1, p2, p3, p4⟩ := h2
        obtain ⟨k1, k2⟩ := kept ht rfl h1 no p3 p4.nofrz
        exact ⟨a, o, rfl, k2, p2, k1, p4.mono le⟩
      | pfr d =>
        obtain ⟨a, rfl, p1, p2⟩ := h2
        exact ⟨a, rfl, p1, p2.mono le⟩
    · obtain ⟨a, hm, hj, hb, _⟩ := lentAt ht q1 q2
      rw [hj] at h1; cases h1
      rcases q3 with ⟨hf, rfl⟩ | ⟨hf, rfl⟩
      · obtain ⟨ov2, g1, g2⟩ := C.slots i _ hf
        obtain ⟨a2, o2, rfl, p1, p2, p3, p4⟩ := g2
        have p2' : bsOf args vs i = some a2 := p2
        rw [hb] at p2'; cases p2'
        cases t with
        | own d' =>
          obtain ⟨b, u, eb, r1, r2, _⟩ := h2
          cases eb
          exact ⟨a, o2, rfl, p1, r2, p3, p4⟩
        | par d' =>
          obtain ⟨b, u, eb, r1, r2, _⟩ := h2
          cases eb
          exact ⟨a, o2, rfl, p1, r2, p3, p4⟩
        | un => cases hm
        | val _ => cases hm
        | pfr _ => cases hm
      · obtain ⟨ov2, g1, g2⟩ := C.slots i _ hf
        obtain ⟨a2, rfl, p1, p2⟩ := g2
        have p1' : bsOf args vs i = some a2 := p1
        rw [hb] at p1'; cases p1'
        cases t with
        | own d' => exact ⟨_, rfl, p2⟩
        | par d' =>
          obtain ⟨b, u, eb, r1, r2, _⟩ := h2
          cases eb
          exact ⟨a, rfl, r2, p2⟩
        | un => cases hm
        | val _ => cases hm
        | pfr _ => cases hm
  · obtain ⟨t1, g1, g2⟩ := mutBack h1 m1
    obtain ⟨t2, g3, g4⟩ := mutBack h2 m2
    exact S.apart i j t1 t2 a g1 g3 g2 g4 h3 h4
  · have nl : ¬ (⟨H, Pr, bsOf args vs, Φ.lk⟩ : Fr0).Lent a := fun z => by
      rcases (lentM z).2 with y | y
      · rw [y] at q; cases q
      · exact n y
    rcases S.frame a o q n with y | ⟨m, d, ob, y⟩
    · exact C.frame a o y nl
    · have := C.frame a _ y nl
      exact .inr ⟨m, d, ob, this.frz⟩
  · rcases C.newp a o q with y | y | y
    · exact S.newp a o y
    · refine .inr (.inl ?_)
      cases e : Φ.H0 a with
      | none => rfl
      | some u =>
        have y' : H a = none := y
        by_cases n : Φ.Lent a
        · obtain ⟨u', z⟩ := S.lent a n
          rw [y'] at z; cases z
        · obtain ⟨u', z⟩ := (S.frame a u e n).there
          rw [y'] at z; cases z
    · exact .inr (lentM y).2
  · rcases C.locks a ob o q with y | y
    · exact S.locks a ob o y
    · exact .inr y
  · obtain ⟨o, y⟩ := S.lent a q
    by_cases z : (⟨H, Pr, bsOf args vs, Φ.lk⟩ : Fr0).Lent a
    · exact C.lent a z
    · exact (C.frame a o y z).there
theorem ph1_cases : ∀ (ms : List Bool) (os : List Opd) (s : Sto), (∃ r s', ph1 ms os s = .ok r s') ∨ ph1 ms os s = .bad
  | [], [], s => .inl ⟨_, _, rfl⟩
  | [], o :: os, s => .inr rfl
  | m :: ms, [], s => .inr rfl
  | m :: ms, o :: os, s => by
    unfold ph1
    cases m with
    | true =>
      simp only [if_true]
      rcases ph1_cases ms os s with ⟨r, s', e⟩ | e
      · rw [e]; exact .inl ⟨_, _, rfl⟩
      · rw [e]; exact .inr rfl
    | false =>
      simp only [Bool.false_eq_true, if_false]
      rcases take_cases o s with ⟨d, s1, e1⟩ | e1
      · rw [e1]
        simp only [R.bind_ok]
        rcases ph1_cases ms os s1 with ⟨r, s', e⟩ | e
        · rw [e]; exact .inl ⟨_, _, rfl⟩
        · rw [e]; exact .inr rfl
      · rw [e1]; exact .inr rfl
theorem ph1_of {ms : List Bool} : ∀ {os : List Opd} {vs : List V} {Pr : Hp} {st : Sto} {r : List Opd} {st' : Sto}, Sim K Φ Pr st σ H → Kps K Pr σ os vs → ph1 ms os st = .ok r st' → ∃ Pr', Le Pr Pr' ∧ Sim K Φ Pr' st' σ H ∧ Kps K Pr' σ r vs := by
  induction ms with
  | nil =>
    intro os vs Pr st r st' S ks h
    cases ks with
    | nil => cases h; exact ⟨Pr, Le.refl _, S, .nil⟩
    | cons _ _ => cases h
  | cons m ms ih =>
    intro os vs Pr st r st' S ks h
    cases ks with
    | nil => cases h
    | @cons o os v vs k kos =>
      unfold ph1 at h
      cases m with
      | true =>
        simp only [if_true] at h
        rcases ph1_cases ms os st with ⟨r1, s1, e⟩ | e
        · rw [e] at h; cases h
          obtain ⟨P1, l1, S1, k1⟩ := ih S kos e
          exact ⟨P1, l1, S1, .cons (k.mono l1) k1⟩
        · rw [e] at h; cases h
      | false =>
        simp only [Bool.false_eq_true, if_false] at h
        rcases take_cases o st with ⟨d, s1, e1⟩ | e1
        · rw [e1] at h
          simp only [R.bind_ok] at h
          have one : ∃ P1, Le Pr P1 ∧ Sim K Φ P1 s1 σ H ∧ Rep K P1 d v := by
            cases o with
            | val c => cases e1; exact ⟨Pr, Le.refl _, S, k⟩
            | own c => cases e1; exact ⟨Pr, Le.refl _, S, k⟩
            | slot i =>
              have e : fzAt st i = .ok d s1 := e1
              unfold fzAt at e
              split at e
              · rename_i s hs
                split at e
                · rename_i c hc
                  cases e
                  obtain ⟨Pr', w, le, S', hw, r, _⟩ := S.fzSlot hs hc
                  have h' : σ[i]? = some (some v) := k
                  rw [h'] at hw; cases hw
                  exact ⟨Pr', le, S', r⟩
                · cases e
              · cases e
          obtain ⟨P1, l1, S1, r1⟩ := one
          rcases ph1_cases ms os s1 with ⟨r2, s2, e⟩ | e
          · rw [e] at h; cases h
            obtain ⟨P2, l2, S2, k2⟩ := ih S1 (kos.mono l1) e
            exact ⟨P2, l1.trans l2, S2, .cons (show Kp K P2 σ (.val d) v from Rep.mono l2 d r1) k2⟩
          · rw [e] at h; cases h
        · rw [e1] at h; cases h
theorem call_of {F : Fn} {os : List Opd} {vs : List V} {Q : VK} (S : Sim X.K Φ Pr st σ H) (ks : Kps X.K Pr σ os vs)
    (h : Aft X Φ W Pr σ (callO F os st) fun o st' Pr' H' => ∀ v, RepO X.K Φ Pr' H' st' σ o v → Q v H') : spF X.K F vs H Q (WE W σ) := by
  unfold callO at h
  by_cases nd : (lentOf os).Nodup
  · rw [if_pos nd] at h
    cases e : ph2 os st with
    | none => rw [e] at h; exact h.elim
    | some args =>
      rw [e] at h
      simp only at h
      refine ⟨Pr, Φ.lk, bsOf args vs, args, entry S ks nd e, ?_⟩
      cases e2 : F args with
      | bad => rw [e2] at h; exact h.elim
      | ret o fin =>
        rw [e2] at h
        simp only at h ⊢
        cases o with
        | slot i => exact h.elim
        | val d =>
          simp only at h
          cases e3 : back os args fin st with
          | none => rw [e3] at h; exact h.elim
          | some st' =>
            rw [e3] at h
            exact fun Pr' H' σ' v le C rv => h Pr' H' le (behind S ks nd e le C (back_of nd e3).1) v rv
        | own d =>
          simp only at h
          cases e3 : back os args fin st with
          | none => rw [e3] at h; exact h.elim
          | some st' =>
            rw [e3] at h
            intro Pr' H' σ' v le C rv
            have S' := behind S ks nd e le C (back_of nd e3).1
            refine h Pr' H' le S' v ?_
            obtain ⟨a, ob, rfl, hn, h0, ha, hc, hf⟩ := rv
            have h0' : H a = none := h0
            refine ⟨a, ob, rfl, hn, (S.fresh h0').2.1, ha, hc, fun i t ht m z => ?_⟩
            obtain ⟨t0, q1, q2⟩ := (back_of nd e3).1.slot i t ht
            have hm : t0.mut = true := by
              rcases q2 with ⟨rfl, _⟩ | ⟨_, _, _, _, _, ⟨_, rfl⟩ | ⟨_, rfl⟩⟩
              · exact m
              · rwa [Slot.put_mut] at m
              · rw [Slot.fz_mut] at m; cases m
            obtain ⟨a', g1, g2⟩ := S.mutAt q1 hm
            rw [z] at g1; cases g1
            obtain ⟨_, ⟨u, g3⟩, _⟩ := g2.there hm
            rw [h0'] at g3; cases g3
      | exc c d fin =>
        rw [e2] at h
        simp only at h ⊢
        cases e3 : back os args fin st with
        | none => rw [e3] at h; exact h.elim
        | some st' =>
          rw [e3] at h
          exact fun Pr' H' σ' C dx v le Sc => h Pr' H' C dx v le (behind S ks nd e le Sc (back_of nd e3).1)
  · rw [if_neg nd] at h; exact h.elim
theorem run_by {n : Nat} {f : Addr} {fd : FuncData} {ps ks : List Str} {F : Fn} {pins : List (Addr × Obj)} {s : Shared} {Q : VK} {us zs ws : List Value} {vs : List V} (Fk : FnOk X.prog X.w X.K X.mg X.base n f fd ps (spF X.K F)) (hr : Room n X.A) (tk : Takes X W)
    (I : Inv X pins σ H s) (hb : BindsTo s fd ⟨us, ks.zip ws⟩ (ps.zip zs)) (r : Vals vs zs) (h : spF X.K F vs H Q (WE W σ)) : wpAny (model X.prog X.w) X.A (call (.ref f) us (ks.zip ws)) (EP X pins σ Q) X.xe s := by
  refine wpAny_call (codeAny_mono (Fk.run hr I.env0 hb r h) fun r s' hq => ?_)
  match r, hq with
  | .error e, hq => exact passAt tk σ pins H s e s' I hq
  | .ok (.ret u), hq => exact I.after hq
def tBy (K : PySem.W.Frag) (F : Fn) (E : L2.St → XK) (t : TA) : TE := fun σ H Q => t σ H fun vs H1 => spF K F vs H1 Q (E σ)
theorem se_call {n : Nat} {f : Addr} {fd : FuncData} {ps : List Str} {F : Fn} {x : Str} {p pos : Pos} {e : Expr} {es : List Expr} {fs : Ar} (ms : List Bool) (Fk : FnOk X.prog X.w X.K X.mg X.base n f fd ps (spF X.K F)) (hr : Room n X.A) (hg : Gl X x) (hm : X.mg x = some (.ref f))
    (hk : PySem.W.keepIn X.K (.ref f) = true) (hb : Binds X.K fd ps []) (tk : Takes X W) (ha : SA X W (e :: es) fs) (hdb : (x == ("__debug__" : Str)) = false := by decide)
    (he : starEach (e :: es) X.env = (false, eval e X.env) :: starEach es X.env := by rfl) (hpl : (backTo pos (starEach es X.env)).any (·.1) = false := by rfl) : SE X W (.Call (.Name x p) (e :: es) [] pos) (sCall F ms fs) := by
  have base : ∀ Φ, PE X (.Call (.Name x p) (e :: es) [] pos) (tBy X.K F (WE W) (tAr X Φ W fs)) := fun Φ => ⟨fun pins s σ H Q I h => wpAny_Call_Name_kw (ld_glob I hg hm (PySem.W.callWith_K (h₀ := X.base) I.ok.mod.kin hk (thn ((ha.pa Φ).run pos pins s σ H _ I h) fun us s1 ⟨vs, H1, I1, r, q⟩ => ⟨I1.kIn, by
    have hl : us.length = ps.length := r.length.symm.trans (Fk.len _ _ _ _ q)
    have b := hb s1 us I1.kIn (by rw [List.append_nil]; exact hl)
    rw [List.append_nil] at b
    exact run_by (ks := []) (ws := []) Fk hr tk I1 b r q⟩) he hpl) hdb)⟩
  refine ⟨fun Φ => peImp (base Φ) fun σ H Q h => ?_⟩
  obtain ⟨Pr, st, S, h⟩ := h
  refine ⟨Pr, st, S, h.bind.imp fun os s1 P1 H1 l1 S1 h1 P2 vs l2 S2 ks => ?_⟩
  have h1 := h1.mono l2
  rcases ph1_cases ms os s1 with ⟨r, s2, e⟩ | e
  · rw [e] at h1
    obtain ⟨P3, l3, S3, k3⟩ := ph1_of S2 ks e
    exact call_of S3 k3 (Aft.mono (show Aft X Φ W P2 σ (callO F r s2) _ from h1) l3)
  · rw [e] at h1; exact h1.elim
structure SK (X : Cx) (W : WX) (kws : List Keyword) (f : Ar) : Prop where
  pk : ∀ Φ, PK X kws (tAr X Φ W f)
theorem sk_nil : SK X W [] aNil := ⟨fun Φ => ⟨fun pos pins s σ H Q I h => by
  obtain ⟨Pr, st, S, h⟩ := h
  exact pk_nil.run pos pins s σ H Q I (h Pr H (Le.refl _) S Pr [] (Le.refl _) S .nil)⟩⟩
theorem sk_cons {e : Expr} {kws : List Keyword} {nm : Option Str} {kpos : Pos} {fa : E} {fs : Ar} (ha : SE X W e fa) (hr : SK X W kws fs) : SK X W (⟨nm, e, kpos⟩ :: kws) (aCons fa fs) := ⟨fun Φ => ⟨fun pos pins s σ H Q I h => (pk_cons (nm := nm) (ha.pe Φ) (hr.pk Φ)).run pos pins s σ H Q I (by
  obtain ⟨Pr, st, S, h⟩ := h
  refine ⟨Pr, st, S, h.bind.imp fun o s1 P1 H1 l1 S1 h1 x hx => ?_⟩
  obtain ⟨P1', l1', S1', k1⟩ := settle S1 hx
  exact ⟨P1', s1, S1', (Aft.bind (h1.mono l1')).imp fun os s2 P2 H2 l2 S2 h2 P3 vs l3 S3 kvs => h2 P3 H2 l3 S3 P3 (x :: vs) (Le.refl _) S3 (.cons (k1.mono (l2.trans l3)) kvs)⟩)⟩⟩
def pickL {α : Type} : List Nat → List α → Option (List α)
  | [], _ => some []
  | i :: ix, l => (l[i]?).bind fun a => (pickL ix l).bind fun r => some (a :: r)
theorem kps_at {K : PySem.W.Frag} {Pr : Hp} {os : List Opd} {vs : List V} (h : Kps K Pr σ os vs) : ∀ {i : Nat} {o : Opd}, os[i]? = some o → ∃ v, vs[i]? = some v ∧ Kp K Pr σ o v := by
  induction h with
  | nil => intro i o e; cases e
  | @cons o os v vs k _ ih =>
    intro i u e
    cases i with
    | zero => cases e; exact ⟨v, rfl, k⟩
    | succ i => exact ih e
theorem kps_pick {K : PySem.W.Frag} {Pr : Hp} {os : List Opd} {vs : List V} (h : Kps K Pr σ os vs) : ∀ {ix : List Nat} {r : List Opd}, pickL ix os = some r → ∃ q, pickL ix vs = some q ∧ Kps K Pr σ r q
  | [], r, e => by cases e; exact ⟨[], rfl, .nil⟩
  | i :: ix, r, e => by
    unfold pickL at e
    cases e1 : os[i]? with
    | none => rw [e1] at e; cases e
    | some o =>
      cases e2 : pickL ix os with
      | none => rw [e1, e2] at e; cases e
      | some r2 =>
        rw [e1, e2] at e
        cases e
        obtain ⟨v, h1, k1⟩ := kps_at h e1
        obtain ⟨q, h2, k2⟩ := kps_pick h e2
        exact ⟨v :: q, by unfold pickL; rw [h1, h2]; rfl, .cons k1 k2⟩
theorem vals_at {vs : List V} {us : List Value} (h : Vals vs us) : ∀ {ix : List Nat} {q : List V}, pickL ix vs = some q → ∃ z, pickL ix us = some z ∧ Vals q z
  | [], q, e => by cases e; exact ⟨[], rfl, .nil⟩
  | i :: ix, q, e => by
    unfold pickL at e
    cases e1 : vs[i]? with
    | none => rw [e1] at e; cases e
    | some v =>
      cases e2 : pickL ix vs with
      | none => rw [e1, e2] at e; cases e
      | some r2 =>
        rw [e1, e2] at e
        cases e
        obtain ⟨u, h1, k1⟩ := h.get e1
        obtain ⟨z, h2, k2⟩ := vals_at h e2
        exact ⟨u :: z, by unfold pickL; rw [h1, h2]; rfl, .cons k1 k2⟩
def BindsK (K : PySem.W.Frag) (fd : FuncData) (ps ks : List Str) (ix : List Nat) : Prop := ∀ (s : Shared) (ws zs : List Value), pickL ix ws = some zs → ws.length = ks.length → BindsTo s fd ⟨[], ks.zip ws⟩ (ps.zip zs)
theorem bindsK_of {K : PySem.W.Frag} {x qual : Str} {st : Stmt} {f : Addr} {fd : FuncData} {ps ks : List Str} {ix : List Nat} (F : Fun K x qual st f fd)
    (h : ∀ (kV doc pm : Value) (an : Option Addr) (cdv ct : Value) (ws : List Value), ws.length = ks.length → ∀ zs, pickL ix ws = some zs → bindArgs (PySem.W.fnOf x qual (defArgs st) (defBody st) (defScope st) .none kV doc pm an cdv ct) ⟨[], ks.zip ws⟩ = pure (ps.zip zs)) : BindsK K fd ps ks ix := by
  obtain ⟨oc, od, kV, doc, pm, an, cdv, ct, osl, rfl, lk, hcd⟩ := F.ex
  exact fun s ws zs e hl => BindsTo.of_eq (h kV doc pm an cdv ct ws hl zs e)
def sCallK (F : Fn) (ix : List Nat) (ms : List Bool) (as : Ar) : E := fun s => (as s).bind fun os s1 => (okO (if os.length = ix.length then pickL ix os else none) s1).bind fun r s2 => (ph1 ms r s2).bind fun r2 s3 => callO F r2 s3
theorem se_callK {n : Nat} {f : Addr} {fd : FuncData} {ps ks : List Str} {ix : List Nat} {F : Fn} {x : Str} {p pos : Pos} {kws : List Keyword} {fs : Ar} (ms : List Bool) (Fk : FnOk X.prog X.w X.K X.mg X.base n f fd ps (spF X.K F)) (hr : Room n X.A) (hg : Gl X x) (hm : X.mg x = some (.ref f))
    (hk : PySem.W.keepIn X.K (.ref f) = true) (hb : BindsK X.K fd ps ks ix) (tk : Takes X W) (ha : SK X W kws fs) (hn : ix.length = ks.length)
    (hall : (backToKw pos (keywordEach kws X.env)).all (·.1.isSome) = true := by rfl) (hks : (backToKw pos (keywordEach kws X.env)).filterMap (·.1) = ks := by rfl) (hdb : (x == ("__debug__" : Str)) = false := by decide)
    (hpl : ((backTo pos (starEach [] X.env)).any (·.1) || (backToKw pos (keywordEach kws X.env)).any (·.1.isNone)) = false := by rfl) : SE X W (.Call (.Name x p) [] kws pos) (sCallK F ix ms fs) := by
  have base : ∀ Φ, PE X (.Call (.Name x p) [] kws pos) (fun σ H Q => tAr X Φ W fs σ H fun vs H1 => vs.length = ks.length ∧ ∃ q, pickL ix vs = some q ∧ spF X.K F q H1 Q (WE W σ)) := fun Φ => ⟨fun pins s σ H Q I h => wpAny_Call_Name_kw (ld_glob I hg hm (PySem.W.callWith_KW0 (h₀ := X.base) I.ok.mod.kin hk hall (thn ((ha.pk Φ).run pos pins s σ H _ I h) fun ws s1 ⟨vs, H1, I1, r, hl, q, hq, hsp⟩ => ⟨I1.kIn, by
    rw [hks]
    obtain ⟨z, hz, rz⟩ := vals_at r hq
    exact run_by Fk hr tk I1 (hb s1 ws z hz (r.length.symm.trans hl)) rz hsp⟩) hpl) hdb)⟩
  refine ⟨fun Φ => peImp (base Φ) fun σ H Q h => ?_⟩
  obtain ⟨Pr, st, S, h⟩ := h
  refine ⟨Pr, st, S, h.bind.imp fun os s1 P1 H1 l1 S1 h1 P2 vs l2 S2 kk => ?_⟩
  have h1 := h1.mono l2
  by_cases hl : os.length = ix.length
  case neg => rw [if_neg hl] at h1; exact h1.elim
  rw [if_pos hl] at h1
  cases e1 : pickL ix os with
  | none => rw [e1] at h1; exact h1.elim
  | some r0 =>
    rw [e1] at h1
    simp only [okO_some, R.bind_ok] at h1
    obtain ⟨q, hq, kq⟩ := kps_pick kk e1
    rcases ph1_cases ms r0 s1 with ⟨r, s2, e⟩ | e
    · rw [e] at h1
      obtain ⟨P3, l3, S3, k3⟩ := ph1_of S2 kq e
      exact ⟨by have := kps_len kk; omega, q, hq, call_of S3 k3 (Aft.mono (show Aft X Φ W P2 σ (callO F r s2) _ from h1) l3)⟩
    · rw [e] at h1; exact h1.elim
end
end Dv
namespace Dv
open PySem L2 PySem.Spec PyProof.Rows
def mutO (i : Nat) (F : D → List D → Option (D × D)) (ds : List D) (s : Sto) : R Opd := match s[i]? with
  | some t => if t.mut then match t.dat.bind fun c => F c ds with
      | some (c, d) => .ok (.val d) (s.set i (t.put c))
      | none => .bad
    else .bad
  | none => .bad
def isL : D → Bool
  | .lst _ => true
  | _ => false
def sMut (i : Nat) (F : D → List D → Option (D × D)) (as : Ar) : E := fun s => match datAt s i with
  | some c => if isL c then (as s).bind fun os s1 => (takeAll os s1).bind fun ds s2 => mutO i F ds s2 else .bad
  | none => .bad
def fAppend : D → List D → Option (D × D)
  | .lst l, [d] => if l.length < LIM then some (.lst (l ++ [d]), .non) else none
  | _, _ => none
def fExtend : D → List D → Option (D × D)
  | .lst l, [.lst m] => if l.length + m.length ≤ LIM then some (.lst (l ++ m), .non) else none
  | _, _ => none
def fPop : D → List D → Option (D × D)
  | .lst l, [] => match l[l.length - 1]? with
    | some d => some (.lst l.dropLast, d)
    | none => none
  | _, _ => none
def fPopAt : D → List D → Option (D × D)
  | .lst l, [.int i] => if -B63 ≤ i ∧ i < B63 then match seqIndex? i l.length with
      | some k => match l[k]? with
        | some d => some (.lst (l.eraseIdx k), d)
        | none => none
      | none => none
    else none
  | _, _ => none
def fReverse : D → List D → Option (D × D)
  | .lst l, [] => some (.lst l.reverse, .non)
  | _, _ => none
def setO (i : Nat) (k : Option D) (d : D) (s : Sto) : Out := match s[i]? with
  | some t => if t.mut then match t.dat, k with
      | some (.lst l), some (.int j) => match ixN l.length j with
        | some m => .nxt (s.set i (t.put (.lst (l.set m d))))
        | none => .bad
      | _, _ => .bad
    else .bad
  | none => .bad
def sSet (i : Nat) (ix e : E) : S := fun s => kR (e s) fun oe s1 => match datAt s1 i with
  | some c => if isL c then kR (ix s1) fun oi s2 => kR (takeO oe s2) fun d s3 => setO i (peek oi s3) d s3 else .bad
  | none => .bad
section
variable {X : Cx} {W : WX}
theorem Reps.dropLast {K : PySem.W.Frag} {Pr : Hp} : ∀ {l : List D} {xs : List V}, Reps K Pr l xs → Reps K Pr l.dropLast xs.dropLast := fun {l xs} r => by
  rw [List.dropLast_eq_take, List.dropLast_eq_take, r.length]
  exact r.take _
theorem Reps.eraseIdx {K : PySem.W.Frag} {Pr : Hp} : ∀ {l : List D} {xs : List V} (k : Nat), Reps K Pr l xs → Reps K Pr (l.eraseIdx k) (xs.eraseIdx k)
  | [], xs, k, r => by unfold Reps at r; subst r; simpa using Reps.nil
  | d :: l, xs, 0, r => by
    unfold Reps at r
    obtain ⟨x, t, rfl, _, r2⟩ := r
    simpa using r2
  | d :: l, xs, k + 1, r => by
    unfold Reps at r
    obtain ⟨x, t, rfl, r1, r2⟩ := r
    simpa using Reps.cons r1 (Reps.eraseIdx k r2)
def MtS (X : Cx) (r : V → List V → Hp → VK → Prop) (F : D → List D → Option (D × D)) : Prop :=
  ∀ Φ Pr st σ H a xs l ds vs c d Q, Sim X.K Φ Pr st σ H → H a = some (.lst xs) → Reps X.K Pr l xs → Reps X.K Pr ds vs → F (.lst l) ds = some (c, d) →
    (∀ o v, Cont X.K Pr o c → Rep X.K Pr d v → Q v (upd H a o)) → r (.ref a) vs H Q
theorem reps1 {K : PySem.W.Frag} {Pr : Hp} {d : D} {vs : List V} (r : Reps K Pr [d] vs) : ∃ v, vs = [v] ∧ Rep K Pr d v := by
  unfold Reps at r
  obtain ⟨x, t, rfl, r1, r2⟩ := r
  unfold Reps at r2
  subst r2
  exact ⟨x, rfl, r1⟩
theorem reps0 {K : PySem.W.Frag} {Pr : Hp} {vs : List V} (r : Reps K Pr [] vs) : vs = [] := by unfold Reps at r; exact r
theorem ms_append : MtS X rAppend fAppend := by
  intro Φ Pr st σ H a xs l ds vs c d Q S ha r rs e q
  unfold fAppend at e
  split at e
  · rename_i l' d' el
    cases el
    split at e
    · rename_i hl
      cases e
      obtain ⟨v, rfl, rv⟩ := reps1 rs
      exact ⟨a, xs, v, rfl, rfl, ha, by rw [lim_eq, r.length]; exact hl, q (.lst _) _ (show Reps _ _ _ _ from Reps.append r (Reps.one rv)) rep_non⟩
    · cases e
  · cases e
theorem ms_pop : MtS X rPop fPop := by
  intro Φ Pr st σ H a xs l ds vs c d Q S ha r rs e q
  unfold fPop at e
  split at e
  · rename_i l' el
    cases el
    split at e
    · rename_i d' hd
      cases e
      have := reps0 rs
      subst this
      rw [← r.length] at hd
      obtain ⟨v, hv, rv⟩ := r.get hd
      exact ⟨a, xs, v, rfl, rfl, ha, hv, q (.lst _) _ (show Reps _ _ _ _ from r.dropLast) rv⟩
    · cases e
  · cases e
theorem ms_popAt : MtS X rPopAt fPopAt := by
  intro Φ Pr st σ H a xs l ds vs c d Q S ha r rs e q
  unfold fPopAt at e
  split at e
  · rename_i l' i el
    cases el
    split at e
    · rename_i hi
      split at e
      · rename_i k hk
        split at e
        · rename_i d' hd
          cases e
          obtain ⟨v, rfl, rv⟩ := reps1 rs
          unfold Rep at rv
          subst rv
          obtain ⟨w, hw, rw'⟩ := r.get hd
          rw [B63_eq] at hi
          exact ⟨a, xs, i, k, w, rfl, rfl, ha, hi.1, hi.2, by rw [r.length]; exact hk, hw, q (.lst _) _ (show Reps _ _ _ _ from r.eraseIdx k) rw'⟩
        · cases e
      · cases e
    · cases e
  · cases e
theorem ms_reverse : MtS X rReverse fReverse := by
  intro Φ Pr st σ H a xs l ds vs c d Q S ha r rs e q
  unfold fReverse at e
  split at e
  · rename_i l' el
    cases el
    cases e
    have := reps0 rs
    subst this
    exact ⟨a, xs, rfl, rfl, ha, q (.lst _) _ (show Reps _ _ _ _ from r.reverse) rep_non⟩
  · cases e
def rExtendR : V → List V → Hp → VK → Prop := fun x vs H Q => ∃ l b xs zs, x = .ref l ∧ vs = [.ref b] ∧ H l = some (.lst xs) ∧ Rd H b (.lst zs) ∧ xs.length + zs.length ≤ sizeLine ∧ Q .non (upd H l (.lst (xs ++ zs)))
theorem mt_extendR : MtM X "list.extend" rExtendR := by
  intro pins s σ H x vs v us Q I rx rv h
  obtain ⟨l, b, xs, zs, rfl, rfl, hH, hB, hz, q⟩ := h
  cases rx
  obtain ⟨u, rfl, ru⟩ := rv.one
  cases ru
  obtain ⟨z, its, n, r, hl, e⟩ := I.lstM hH
  obtain ⟨z2, its2, n2, r2, e2⟩ : ObjOk X.prog X.w H s.heap b (.lst zs) := hB.ok I.hok
  have hl2 := r2.length
  have hsz : its.toArray.size + its2.toArray.size ≤ sizeLine := by rw [List.size_toArray, List.size_toArray]; omega
  have hlong : ¬ (!its.toArray.isEmpty && Builtin.List.listTooLong (its.toArray.size + its2.toArray.size)) = true := by
    rw [notLongL hsz, Bool.and_false]
    exact Bool.false_ne_true
  refine call_meets F.slot_list_extend ⟨_, e, rfl⟩ F.entry_list_extend (F.args_list_extend_2 _ _)
    (AutoSeq1.list_extend_list_list_0 l its.toArray n b its2.toArray n2 hlong (by rw [List.size_toArray]; omega) (by omega)) ⟨e, e2, ?_⟩
  refine ⟨.non, _, I.lset (its' := its ++ its2) hH e (by simp) (r.append r2) ?_, rfl, q⟩
  rw [List.length_append]
  omega
theorem ms_extend : MtS X rExtendR fExtend := by
  intro Φ Pr st σ H a xs l ds vs c d Q S ha r rs e q
  unfold fExtend at e
  split at e
  · rename_i l' m el
    cases el
    split at e
    · rename_i hl
      cases e
      obtain ⟨v, rfl, rv⟩ := reps1 rs
      unfold Rep at rv
      obtain ⟨b, zs, rfl, q2, r2⟩ := rv
      exact ⟨a, b, xs, zs, rfl, rfl, ha, S.rdL q2, by rw [lim_eq, r.length, r2.length]; exact hl, q (.lst _) _ (show Reps _ _ _ _ from Reps.append r r2) rep_non⟩
    · cases e
  · cases e
theorem mutO_of {Φ : Fr0} {Pr H : Hp} {st : Sto} {σ : L2.St} {i : Nat} {F : D → List D → Option (D × D)} {ds : List D} {vs : List V} {a : Addr} {r : V → List V → Hp → VK → Prop} {Q : VK} (S : Sim X.K Φ Pr st σ H) (rs : Reps X.K Pr ds vs)
    (ms : MtS X r F) (ha : σ[i]? = some (some (V.ref a))) (hF : ∀ c ds x, F c ds = some x → isL c = true)
    (h : Aft X Φ W Pr σ (mutO i F ds st) fun o st' Pr' H' => ∀ v, RepO X.K Φ Pr' H' st' σ o v → Q v H') : r (.ref a) vs H Q := by
  unfold mutO at h
  split at h
  · rename_i t ht
    split at h
    · rename_i hm
      split at h
      · rename_i c d hc
        rw [Option.bind_eq_some_iff] at hc
        obtain ⟨c0, h0, hc⟩ := hc
        have hl := hF _ _ _ hc
        obtain ⟨a', q1, q2⟩ := S.mutAt ht hm
        rw [ha] at q1; cases q1
        cases c0 with
        | lst l =>
          have hx : ∃ xs, H a = some (.lst xs) ∧ Reps X.K Pr l xs := by
            cases t with
            | own d' =>
              cases h0
              obtain ⟨b, o, eb, _, _, ho, c1⟩ := q2
              cases eb
              cases o with
              | lst xs => exact ⟨xs, ho, c1⟩
              | _ => exact absurd c1 id
            | par d' =>
              cases h0
              obtain ⟨b, o, eb, _, _, ho, c1⟩ := q2
              cases eb
              cases o with
              | lst xs => exact ⟨xs, ho, c1⟩
              | _ => exact absurd c1 id
            | un => cases hm
            | val _ => cases hm
            | pfr _ => cases hm
          obtain ⟨xs, hx, rx⟩ := hx
          refine ms Φ Pr st σ H a xs l ds vs c d Q S hx rx rs hc fun o v co rv => ?_
          exact h Pr _ (Le.refl _) (S.change ht hm ha co) v rv
        | _ => cases hl
      · exact h.elim
    · exact h.elim
  · exact h.elim
theorem fAppend_l : ∀ c ds x, fAppend c ds = some x → isL c = true := fun c ds x h => by unfold fAppend at h; split at h <;> first | rfl | cases h
theorem fPop_l : ∀ c ds x, fPop c ds = some x → isL c = true := fun c ds x h => by unfold fPop at h; split at h <;> first | rfl | cases h
theorem fPopAt_l : ∀ c ds x, fPopAt c ds = some x → isL c = true := fun c ds x h => by unfold fPopAt at h; split at h <;> first | rfl | cases h
theorem fReverse_l : ∀ c ds x, fReverse c ds = some x → isL c = true := fun c ds x h => by unfold fReverse at h; split at h <;> first | rfl | cases h
theorem fExtend_l : ∀ c ds x, fExtend c ds = some x → isL c = true := fun c ds x h => by unfold fExtend at h; split at h <;> first | rfl | cases h
theorem slotL {Φ : Fr0} {Pr H : Hp} {st : Sto} {σ : L2.St} {i : Nat} {c : D} (S : Sim X.K Φ Pr st σ H) (e : datAt st i = some c) (hl : isL c = true) : ∃ a xs, σ[i]? = some (some (V.ref a)) ∧ SqL X.K H a xs := by
  unfold datAt at e
  split at e
  · rename_i t ht
    obtain ⟨ov, h1, h2⟩ := S.slots i t ht
    cases c with
    | lst l =>
      have pk : ∃ v, ov = some v ∧ Pk X.K Pr H (.lst l) v := by
        cases t with
        | un => cases e
        | val d => obtain ⟨v, rfl, r⟩ := h2; cases e; exact ⟨v, rfl, .inl r⟩
        | own d => obtain ⟨a, o, rfl, _, _, ha, hc⟩ := h2; cases e; exact ⟨_, rfl, .inr ⟨a, o, rfl, ha, hc⟩⟩
        | par d => obtain ⟨a, o, rfl, _, _, ha, hc⟩ := h2; cases e; exact ⟨_, rfl, .inr ⟨a, o, rfl, ha, hc⟩⟩
        | pfr d => obtain ⟨a, rfl, _, r⟩ := h2; cases e; exact ⟨_, rfl, .inl r⟩
      obtain ⟨v, rfl, pk⟩ := pk
      obtain ⟨a, xs, rfl, q, r⟩ := pk.lst S
      exact ⟨a, xs, h1, .inl q⟩
    | _ => cases hl
  · cases e
theorem se_mut {i : Nat} {x name : Str} {id : String} {p apos cpos : Pos} {e : Expr} {es : List Expr} {fs : Ar} {r : V → List V → Hp → VK → Prop} {F : D → List D → Option (D × D)} (hN : X.N[i]? = some x) (hv : Vis X.env.scope x) (pa : PlainAttrs "list") (slot : PySem.Slot "list" name id)
    (hty : typeOf (.builtin id) = pure (.type "method_descriptor")) (hm : MtR X id r) (ms : MtS X r F) (hF : ∀ c ds x, F c ds = some x → isL c = true) (ha : SA X W (e :: es) fs)
    (hpe : ∀ to t, PE X (.Name x p) to → PA X (e :: es) t → PE X (.Call (.Attribute (.Name x p) name apos) (e :: es) [] cpos) (tBM X.K "list" r to t)) (hd : (x == ("__debug__" : Str)) = false := by decide) (hcd : (x == ("__classdict__" : Str)) = false := by decide) :
    SE X W (.Call (.Attribute (.Name x p) name apos) (e :: es) [] cpos) (sMut i F fs) := by
  refine ⟨fun Φ => peImp (hpe _ _ (pe_var (i := i) hN hv hd hcd) (ha.pa Φ)) fun σ H Q h => ?_⟩
  obtain ⟨Pr, st, S, h⟩ := h
  unfold sMut at h
  cases e0 : datAt st i with
  | none => rw [e0] at h; exact h.elim
  | some c =>
    rw [e0] at h
    simp only at h
    by_cases hl : isL c = true
    · rw [if_pos hl] at h
      obtain ⟨a, xs, h1, hq⟩ := slotL S e0 hl
      refine ⟨_, h1, .inl ⟨rfl, xs, hq⟩, Pr, st, S, (Aft.bind h).imp fun os s1 P1 H1 l1 S1 h2 P2 vs l2 S2 ks => ?_⟩
      obtain ⟨ds, s2, P3, e, l3, S3, r3, h3⟩ := takeAll_of S2 ks (h2.mono l2)
      exact mutO_of S3 r3 ms h1 hF h3
    · rw [if_neg hl] at h; exact h.elim
theorem se_mut0 {i : Nat} {x name : Str} {id : String} {p apos cpos : Pos} {r : V → List V → Hp → VK → Prop} {F : D → List D → Option (D × D)} (hN : X.N[i]? = some x) (hv : Vis X.env.scope x) (pa : PlainAttrs "list") (slot : PySem.Slot "list" name id)
    (hty : typeOf (.builtin id) = pure (.type "method_descriptor")) (hm : MtR X id r) (ms : MtS X r F) (hF : ∀ c ds x, F c ds = some x → isL c = true)
    (hbase : attributeBase (.Name x p) name X.env (eval (.Name x p) X.env) = eval (.Name x p) X.env := by rfl) (hline : (apos.endLine == cpos.line) = true := by rfl) (hd : (x == ("__debug__" : Str)) = false := by decide) (hcd : (x == ("__classdict__" : Str)) = false := by decide) :
    SE X W (.Call (.Attribute (.Name x p) name apos) [] [] cpos) (sMut i F aNil) := by
  refine ⟨fun Φ => peImp (pe_bm0 pa slot hty hm (pe_var (i := i) hN hv hd hcd) hbase hline) fun σ H Q h => ?_⟩
  obtain ⟨Pr, st, S, h⟩ := h
  unfold sMut at h
  cases e0 : datAt st i with
  | none => rw [e0] at h; exact h.elim
  | some c =>
    rw [e0] at h
    simp only at h
    by_cases hl : isL c = true
    · rw [if_pos hl] at h
      obtain ⟨a, xs, h1, hq⟩ := slotL S e0 hl
      exact ⟨_, h1, .inl ⟨rfl, xs, hq⟩, mutO_of (ds := []) (vs := []) S Reps.nil ms h1 hF h⟩
    · rw [if_neg hl] at h; exact h.elim
end
end Dv
namespace Dv
open PySem L2
section
variable {X : Cx} {W : WX}
theorem se_append {i : Nat} {x : Str} {p apos cpos : Pos} {e : Expr} {fs : Ar} (hN : X.N[i]? = some x) (hv : Vis X.env.scope x) (ha : SA X W [e] fs)
    (hbase : attributeBase (.Name x p) "append" X.env (eval (.Name x p) X.env) = eval (.Name x p) X.env := by rfl)
    (hfew : ((backTo cpos (starEach [e] X.env)).all (fun x => !x.1) && (backToKw cpos (keywordEach [] X.env)).all (fun x => x.1.isSome)
      && decide (([e] : List Expr).length + ([] : List Keyword).length + (if ([] : List Keyword).isEmpty then 0 else 1) < 30)) = true := by rfl)
    (hline : (apos.endLine == cpos.line) = true := by rfl) (hs : starEach [e] X.env = (false, eval e X.env) :: starEach [] X.env := by rfl) (hd : (x == ("__debug__" : Str)) = false := by decide) (hcd : (x == ("__classdict__" : Str)) = false := by decide) :
    SE X W (.Call (.Attribute (.Name x p) "append" apos) [e] [] cpos) (sMut i fAppend fs) :=
  se_mut hN hv PySem.F.plainAttrs_list PySem.F.slot_list_append PySem.F.type_list_append mt_append ms_append fAppend_l ha (fun _ _ ho ha => pe_bm PySem.F.plainAttrs_list PySem.F.slot_list_append PySem.F.type_list_append mt_append ho ha hbase hfew hline hs) hd hcd
theorem se_extend {i : Nat} {x : Str} {p apos cpos : Pos} {e : Expr} {fs : Ar} (hN : X.N[i]? = some x) (hv : Vis X.env.scope x) (ha : SA X W [e] fs)
    (hbase : attributeBase (.Name x p) "extend" X.env (eval (.Name x p) X.env) = eval (.Name x p) X.env := by rfl)
    (hfew : ((backTo cpos (starEach [e] X.env)).all (fun x => !x.1) && (backToKw cpos (keywordEach [] X.env)).all (fun x => x.1.isSome)
      && decide (([e] : List Expr).length + ([] : List Keyword).length + (if ([] : List Keyword).isEmpty then 0 else 1) < 30)) = true := by rfl)
    (hline : (apos.endLine == cpos.line) = true := by rfl) (hs : starEach [e] X.env = (false, eval e X.env) :: starEach [] X.env := by rfl) (hd : (x == ("__debug__" : Str)) = false := by decide) (hcd : (x == ("__classdict__" : Str)) = false := by decide) :
    SE X W (.Call (.Attribute (.Name x p) "extend" apos) [e] [] cpos) (sMut i fExtend fs) :=
  se_mut hN hv PySem.F.plainAttrs_list PySem.F.slot_list_extend PySem.F.type_list_extend mt_extendR ms_extend fExtend_l ha (fun _ _ ho ha => pe_bm PySem.F.plainAttrs_list PySem.F.slot_list_extend PySem.F.type_list_extend mt_extendR ho ha hbase hfew hline hs) hd hcd
theorem se_popAt {i : Nat} {x : Str} {p apos cpos : Pos} {e : Expr} {fs : Ar} (hN : X.N[i]? = some x) (hv : Vis X.env.scope x) (ha : SA X W [e] fs)
    (hbase : attributeBase (.Name x p) "pop" X.env (eval (.Name x p) X.env) = eval (.Name x p) X.env := by rfl)
    (hfew : ((backTo cpos (starEach [e] X.env)).all (fun x => !x.1) && (backToKw cpos (keywordEach [] X.env)).all (fun x => x.1.isSome)
      && decide (([e] : List Expr).length + ([] : List Keyword).length + (if ([] : List Keyword).isEmpty then 0 else 1) < 30)) = true := by rfl)
    (hline : (apos.endLine == cpos.line) = true := by rfl) (hs : starEach [e] X.env = (false, eval e X.env) :: starEach [] X.env := by rfl) (hd : (x == ("__debug__" : Str)) = false := by decide) (hcd : (x == ("__classdict__" : Str)) = false := by decide) :
    SE X W (.Call (.Attribute (.Name x p) "pop" apos) [e] [] cpos) (sMut i fPopAt fs) :=
  se_mut hN hv PySem.F.plainAttrs_list PySem.F.slot_list_pop PySem.F.type_list_pop mt_popAt ms_popAt fPopAt_l ha (fun _ _ ho ha => pe_bm PySem.F.plainAttrs_list PySem.F.slot_list_pop PySem.F.type_list_pop mt_popAt ho ha hbase hfew hline hs) hd hcd
theorem se_pop {i : Nat} {x : Str} {p apos cpos : Pos} (hN : X.N[i]? = some x) (hv : Vis X.env.scope x)
    (hbase : attributeBase (.Name x p) "pop" X.env (eval (.Name x p) X.env) = eval (.Name x p) X.env := by rfl) (hline : (apos.endLine == cpos.line) = true := by rfl) (hd : (x == ("__debug__" : Str)) = false := by decide) (hcd : (x == ("__classdict__" : Str)) = false := by decide) :
    SE X W (.Call (.Attribute (.Name x p) "pop" apos) [] [] cpos) (sMut i fPop aNil) :=
  se_mut0 hN hv PySem.F.plainAttrs_list PySem.F.slot_list_pop PySem.F.type_list_pop mt_pop ms_pop fPop_l hbase hline hd hcd
theorem se_reverse {i : Nat} {x : Str} {p apos cpos : Pos} (hN : X.N[i]? = some x) (hv : Vis X.env.scope x)
    (hbase : attributeBase (.Name x p) "reverse" X.env (eval (.Name x p) X.env) = eval (.Name x p) X.env := by rfl) (hline : (apos.endLine == cpos.line) = true := by rfl) (hd : (x == ("__debug__" : Str)) = false := by decide) (hcd : (x == ("__classdict__" : Str)) = false := by decide) :
    SE X W (.Call (.Attribute (.Name x p) "reverse" apos) [] [] cpos) (sMut i fReverse aNil) :=
  se_mut0 hN hv PySem.F.plainAttrs_list PySem.F.slot_list_reverse PySem.F.type_list_reverse mt_reverse ms_reverse fReverse_l hbase hline hd hcd
theorem setO_of {Φ : Fr0} {D : Ends} {Pr H : Hp} {st : Sto} {σ : L2.St} {i : Nat} {k : Option Dv.D} {d : Dv.D} {a : Addr} {ix v : V} (S : Sim X.K Φ Pr st σ H) (ha : σ[i]? = some (some (V.ref a))) (hk : ∀ c, k = some c → Pk X.K Pr H c ix) (rv : Rep X.K Pr d v)
    (h : OutOk X Φ W D Pr (setO i k d st)) : rSetL (.ref a) ix v H fun H' => D.nx σ H' := by
  unfold setO at h
  split at h
  · rename_i t ht
    split at h
    · rename_i hm
      split at h
      · rename_i l j hc
        split at h
        · rename_i m hj
          obtain ⟨a', q1, q2⟩ := S.mutAt ht hm
          rw [ha] at q1; cases q1
          have hx : ∃ xs, H a = some (.lst xs) ∧ Reps X.K Pr l xs := by
            cases t with
            | own d' =>
              cases hc
              obtain ⟨b, o, eb, _, _, ho, c1⟩ := q2
              cases eb
              cases o with
              | lst xs => exact ⟨xs, ho, c1⟩
              | _ => exact absurd c1 id
            | par d' =>
              cases hc
              obtain ⟨b, o, eb, _, _, ho, c1⟩ := q2
              cases eb
              cases o with
              | lst xs => exact ⟨xs, ho, c1⟩
              | _ => exact absurd c1 id
            | un => cases hm
            | val _ => cases hm
            | pfr _ => cases hm
          obtain ⟨xs, hx, rx⟩ := hx
          have e1 := (hk _ rfl).int
          subst e1
          refine ⟨a, xs, j, m, rfl, rfl, hx, by rw [rx.length]; exact hj, ?_⟩
          exact h Pr σ _ (Le.refl _) (S.change (o := .lst (xs.set m v)) ht hm ha (show Reps _ _ _ _ from rx.set m rv))
        · exact h.elim
      · exact h.elim
    · exact h.elim
  · exact h.elim
theorem ss_set {i : Nat} {x : Str} {p p2 pos : Pos} {ix e : Expr} {fx fe : E} (hN : X.N[i]? = some x) (hv : Vis X.env.scope x) (hx : SE X W ix fx) (he : SE X W e fe)
    (ha : ∀ v, assign (.Subscript (.Name x p) ix p2) X.env v = (do
      let ov ← holding [v] (eval (.Name x p) X.env)
      let iv ← holding [v, ov] (eval ix X.env)
      standAt p2
      holding [v, ov, iv] (setItem ov iv v)
      release [v, ov, iv] []) := by intro _; rfl)
    (hs : swapsWithSole [.Subscript (.Name x p) ix p2] e pos.line X.env = pure false := by rfl) (hw : swappedStores [.Subscript (.Name x p) ix p2] e X.env = pure none := by rfl)
    (h1 : (assignEach [.Subscript (.Name x p) ix p2] X.env).map (·.2) = [assign (.Subscript (.Name x p) ix p2) X.env] := by rfl) (hd : (x == ("__debug__" : Str)) = false := by decide) (hcd : (x == ("__classdict__" : Str)) = false := by decide) :
    SS X W (.Assign [.Subscript (.Name x p) ix p2] e pos) (sSet i fx fe) := ⟨fun Φ => psImp (ps_asg (he.pe Φ) (pg_sub (pe_var (i := i) hN hv hd hcd) (hx.pe Φ) set_list ha) hs hw h1) fun D σ H h => by
  obtain ⟨Pr, st, S, h⟩ := h
  refine ⟨Pr, st, S, (kR_of trivial h).imp fun oe s1 P1 H1 l1 S1 h1 v hv => ?_⟩
  obtain ⟨P1', l1', S1', k1⟩ := settle S1 hv
  have h1 := h1.mono l1'
  cases e0 : datAt s1 i with
  | none => rw [e0] at h1; exact h1.elim
  | some c =>
    rw [e0] at h1
    simp only at h1
    by_cases hl : isL c = true
    · rw [if_pos hl] at h1
      obtain ⟨a, xs, ha', hq⟩ := slotL S1' e0 hl
      refine ⟨_, ha', P1', s1, S1', (kR_of trivial h1).imp fun oi s2 P2 H2 l2 S2 h2 iv hiv => ?_⟩
      obtain ⟨P2', l2', S2', k2⟩ := settle S2 hiv
      have h2 := h2.mono l2'
      have k1' := k1.mono (l2.trans l2')
      rcases take_cases oe s2 with ⟨d, s3, e⟩ | e
      · rw [e] at h2
        have one : ∃ P3, Le P2' P3 ∧ Sim X.K Φ P3 s3 σ H2 ∧ Rep X.K P3 d v := by
          cases oe with
          | val c => cases e; exact ⟨P2', Le.refl _, S2', k1'⟩
          | own c => cases e; exact ⟨P2', Le.refl _, S2', k1'⟩
          | slot j =>
            have e : fzAt s2 j = .ok d s3 := e
            unfold fzAt at e
            split at e
            · rename_i s hs
              split at e
              · rename_i c hc
                cases e
                obtain ⟨Pr', w, le, S', hw, r, _⟩ := S2'.fzSlot hs hc
                have h' : σ[j]? = some (some v) := k1'
                rw [h'] at hw; cases hw
                exact ⟨Pr', le, S', r⟩
              · cases e
            · cases e
        obtain ⟨P3, l3, S3, r3⟩ := one
        exact setO_of S3 ha' (fun c hc => pk_of S3 (k2.mono l3) hc) r3 (OutOk.mono h2 l3)
      · rw [e] at h2; exact h2.elim
    · rw [if_neg hl] at h1; exact h1.elim⟩
def oB (b : Bool) : Option Opd := some (.val (.bl b))
def oI (i : Int) : Option Opd := some (.val (.int i))
def lenD : List Dv.D → Option Opd
  | [.lst l] => some (.val (.int l.length))
  | [.tup l] => some (.val (.int l.length))
  | [.scr l] => some (.val (.int l.length))
  | [.str z] => if z.length ≤ LIM then some (.val (.int z.length)) else none
  | _ => none
theorem pks1 {K : PySem.W.Frag} {Pr H : Hp} {d : Dv.D} {vs : List V} (h : Pks K Pr H [d] vs) : ∃ v, vs = [v] ∧ Pk K Pr H d v := by
  cases h with
  | cons p ps => cases ps; exact ⟨_, rfl, p⟩
theorem pks2 {K : PySem.W.Frag} {Pr H : Hp} {d e : Dv.D} {vs : List V} (h : Pks K Pr H [d, e] vs) : ∃ v u, vs = [v, u] ∧ Pk K Pr H d v ∧ Pk K Pr H e u := by
  cases h with
  | cons p ps =>
    obtain ⟨u, rfl, q⟩ := pks1 ps
    exact ⟨_, u, rfl, p, q⟩
theorem cs_len : CallS X (.builtin "len") lenD := by
  refine ⟨_, call_len_seq.or call_len_str, ?_⟩
  intro Φ Pr st σ H ds vs o Q S ks e q
  unfold lenD at e
  split at e
  · cases e
    obtain ⟨v, rfl, p⟩ := pks1 ks
    obtain ⟨a, xs, rfl, r, rs⟩ := p.lst S
    refine .inl ⟨a, xs, rfl, .inl (.inl r), ?_⟩
    rw [rs.length]
    exact q Pr H _ (Le.refl _) S ro_int
  · cases e
    obtain ⟨v, rfl, p⟩ := pks1 ks
    obtain ⟨a, xs, rfl, r, rs⟩ := p.tup S
    refine .inl ⟨a, xs, rfl, .inr r, ?_⟩
    rw [rs.length]
    exact q Pr H _ (Le.refl _) S ro_int
  · cases e
    obtain ⟨v, rfl, p⟩ := pks1 ks
    obtain ⟨a, xs, rfl, r, rs⟩ := p.scr S
    refine .inl ⟨a, xs, rfl, .inl r, ?_⟩
    rw [rs.length]
    exact q Pr H _ (Le.refl _) S ro_int
  · split at e
    · rename_i hl
      cases e
      obtain ⟨v, rfl, p⟩ := pks1 ks
      cases p.str
      exact .inr ⟨_, rfl, by rw [lim_eq]; exact hl, q Pr H _ (Le.refl _) S ro_int⟩
    · cases e
  · cases e
def intD : List Dv.D → Option Opd
  | [.int i] => some (.val (.int i))
  | [.bl b] => some (.val (.int (if b then 1 else 0)))
  | _ => none
theorem cs_int : CallS X (.type "int") intD := by
  refine ⟨_, call_int1, ?_⟩
  intro Φ Pr st σ H ds vs o Q S ks e q
  unfold intD at e
  split at e
  · cases e
    obtain ⟨v, rfl, p⟩ := pks1 ks
    cases p.int
    exact .inl ⟨_, rfl, q Pr H _ (Le.refl _) S ro_int⟩
  · cases e
    obtain ⟨v, rfl, p⟩ := pks1 ks
    cases p.bl
    exact .inr ⟨_, rfl, q Pr H _ (Le.refl _) S ro_int⟩
  · cases e
def absD : List Dv.D → Option Opd
  | [.int i] => some (.val (.int (if i < 0 then -i else i)))
  | _ => none
theorem cs_abs : CallS X (.builtin "abs") absD := by
  refine ⟨_, call_abs, ?_⟩
  intro Φ Pr st σ H ds vs o Q S ks e q
  unfold absD at e
  split at e
  · cases e
    obtain ⟨v, rfl, p⟩ := pks1 ks
    cases p.int
    exact ⟨_, rfl, q Pr H _ (Le.refl _) S ro_int⟩
  · cases e
def minD : List Dv.D → Option Opd
  | [.int i, .int j] => some (.val (.int (if j < i then j else i)))
  | _ => none
theorem cs_min (hc : X.calm = true) : CallS X (.builtin "min") minD := by
  refine ⟨_, call_min2 hc, ?_⟩
  intro Φ Pr st σ H ds vs o Q S ks e q
  unfold minD at e
  split at e
  · cases e
    obtain ⟨v, u, rfl, p, p'⟩ := pks2 ks
    cases p.int
    cases p'.int
    exact ⟨_, _, rfl, q Pr H _ (Le.refl _) S ro_int⟩
  · cases e
def tupD : List Dv.D → Option Opd
  | [.lst l] => some (.val (.tup l))
  | [.tup l] => some (.val (.tup l))
  | _ => none
theorem cs_tuple : CallS X (.type "tuple") tupD := by
  refine ⟨_, call_tuple_of, ?_⟩
  intro Φ Pr st σ H ds vs o Q S ks e q
  unfold tupD at e
  split at e
  · cases e
    obtain ⟨v, rfl, p⟩ := pks1 ks
    obtain ⟨a, xs, rfl, r, rs⟩ := p.lst S
    refine ⟨a, xs, rfl, .inl ⟨.inl r, fun p' hp => ?_⟩⟩
    have le := Le.upd (o := .tup xs) (S.fresh hp).1
    refine q _ _ _ le (S.laid hp fun _ _ z => nomatch z) ?_
    show Rep _ _ _ _
    unfold Rep
    exact ⟨p', xs, rfl, SqT.of upd_same, Reps.mono le _ rs⟩
  · cases e
    obtain ⟨v, rfl, p⟩ := pks1 ks
    have p0 := p
    obtain ⟨a, xs, rfl, r, rs⟩ := p.tup S
    refine ⟨a, xs, rfl, .inr ⟨r, q Pr H _ (Le.refl _) S ?_⟩⟩
    rcases p0 with p0 | ⟨_, _, _, _, hc⟩
    · exact p0
    · unfold Cont at hc; split at hc <;> first | exact hc.elim | contradiction
  · cases e
def listD : List Dv.D → Option Opd
  | [.lst l] => some (.own (.lst l))
  | [.tup l] => some (.own (.lst l))
  | [.scr l] => some (.own (.lst l))
  | _ => none
theorem cs_list : CallS X (.type "list") listD := by
  refine ⟨_, call_list_of, ?_⟩
  intro Φ Pr st σ H ds vs o Q S ks e q
  unfold listD at e
  split at e
  · cases e
    obtain ⟨v, rfl, p⟩ := pks1 ks
    obtain ⟨a, xs, rfl, r, rs⟩ := p.lst S
    exact ⟨a, xs, rfl, .inl (.inl r), fun p' hp => q _ _ _ (Le.refl _) (S.alloc (o := .lst xs) hp fun _ _ z => nomatch z) (repO_new S hp rs)⟩
  · cases e
    obtain ⟨v, rfl, p⟩ := pks1 ks
    obtain ⟨a, xs, rfl, r, rs⟩ := p.tup S
    exact ⟨a, xs, rfl, .inr r, fun p' hp => q _ _ _ (Le.refl _) (S.alloc (o := .lst xs) hp fun _ _ z => nomatch z) (repO_new S hp rs)⟩
  · cases e
    obtain ⟨v, rfl, p⟩ := pks1 ks
    obtain ⟨a, xs, rfl, r, rs⟩ := p.scr S
    exact ⟨a, xs, rfl, .inl r, fun p' hp => q _ _ _ (Le.refl _) (S.alloc (o := .lst xs) hp fun _ _ z => nomatch z) (repO_new S hp rs)⟩
  · cases e
def intsD : List Dv.D → Option (List Int)
  | [] => some []
  | .int i :: l => (intsD l).map (i :: ·)
  | _ :: _ => none
def blsD : List Dv.D → Option (List Bool)
  | [] => some []
  | .bl i :: l => (blsD l).map (i :: ·)
  | _ :: _ => none
theorem intsD_of {K : PySem.W.Frag} {Pr : Hp} : ∀ {l : List Dv.D} {xs : List V} {ns : List Int}, Reps K Pr l xs → intsD l = some ns → xs = ns.map V.int
  | [], xs, ns, r, h => by cases h; unfold Reps at r; subst r; rfl
  | d :: l, xs, ns, r, h => by
    unfold Reps at r
    obtain ⟨x, t, rfl, r1, r2⟩ := r
    cases d with
    | int i =>
      unfold intsD at h
      rw [Option.map_eq_some_iff] at h
      obtain ⟨m, h, rfl⟩ := h
      unfold Rep at r1
      subst r1
      rw [intsD_of r2 h]; rfl
    | _ => cases h
theorem blsD_of {K : PySem.W.Frag} {Pr : Hp} : ∀ {l : List Dv.D} {xs : List V} {ns : List Bool}, Reps K Pr l xs → blsD l = some ns → xs = ns.map V.bl
  | [], xs, ns, r, h => by cases h; unfold Reps at r; subst r; rfl
  | d :: l, xs, ns, r, h => by
    unfold Reps at r
    obtain ⟨x, t, rfl, r1, r2⟩ := r
    cases d with
    | bl i =>
      unfold blsD at h
      rw [Option.map_eq_some_iff] at h
      obtain ⟨m, h, rfl⟩ := h
      unfold Rep at r1
      subst r1
      rw [blsD_of r2 h]; rfl
    | _ => cases h
def allD : List Dv.D → Option Opd
  | [.lst l] => (blsD l).map fun bs => .val (.bl (bs.all id))
  | _ => none
def anyD : List Dv.D → Option Opd
  | [.lst l] => (blsD l).map fun bs => .val (.bl (bs.any id))
  | _ => none
def sumD : List Dv.D → Option Opd
  | [.lst l] => (intsD l).map fun ns => .val (.int ns.sum)
  | _ => none
theorem cs_all (hc : X.calm = true) : CallS X (.builtin "all") allD := by
  refine ⟨_, cr_all hc, ?_⟩
  intro Φ Pr st σ H ds vs o Q S ks e q
  unfold allD at e
  split at e
  · rw [Option.map_eq_some_iff] at e
    obtain ⟨bs, e, rfl⟩ := e
    obtain ⟨v, rfl, p⟩ := pks1 ks
    obtain ⟨a, xs, rfl, r, rs⟩ := p.lst S
    exact ⟨a, bs, rfl, .inl (by rw [← blsD_of rs e]; exact r), q Pr H _ (Le.refl _) S ro_bl⟩
  · cases e
theorem cs_any (hc : X.calm = true) : CallS X (.builtin "any") anyD := by
  refine ⟨_, cr_any hc, ?_⟩
  intro Φ Pr st σ H ds vs o Q S ks e q
  unfold anyD at e
  split at e
  · rw [Option.map_eq_some_iff] at e
    obtain ⟨bs, e, rfl⟩ := e
    obtain ⟨v, rfl, p⟩ := pks1 ks
    obtain ⟨a, xs, rfl, r, rs⟩ := p.lst S
    exact ⟨a, bs, rfl, .inl (by rw [← blsD_of rs e]; exact r), q Pr H _ (Le.refl _) S ro_bl⟩
  · cases e
theorem cs_sum (hc : X.calm = true) : CallS X (.builtin "sum") sumD := by
  refine ⟨_, cr_sum hc, ?_⟩
  intro Φ Pr st σ H ds vs o Q S ks e q
  unfold sumD at e
  split at e
  · rw [Option.map_eq_some_iff] at e
    obtain ⟨bs, e, rfl⟩ := e
    obtain ⟨v, rfl, p⟩ := pks1 ks
    obtain ⟨a, xs, rfl, r, rs⟩ := p.lst S
    exact ⟨a, bs, rfl, .inl (by rw [← intsD_of rs e]; exact r), q Pr H _ (Le.refl _) S ro_int⟩
  · cases e
def maxL : Int → List Int → Int
  | m, [] => m
  | m, i :: l => maxL (if i > m then i else m) l
theorem maxL_ge : ∀ {l : List Int} {m : Int}, m ≤ maxL m l ∧ ∀ i ∈ l, i ≤ maxL m l
  | [], m => ⟨Int.le_refl _, fun _ h => by cases h⟩
  | i :: l, m => by
    unfold maxL
    obtain ⟨h1, h2⟩ := maxL_ge (l := l) (m := if i > m then i else m)
    have h3 : m ≤ (if i > m then i else m) ∧ i ≤ (if i > m then i else m) := by
      by_cases h : i > m
      · rw [if_pos h]; omega
      · rw [if_neg h]; omega
    refine ⟨by omega, fun j hj => ?_⟩
    rcases List.mem_cons.mp hj with rfl | hj
    · omega
    · exact h2 j hj
theorem maxL_mem : ∀ {l : List Int} {m : Int}, maxL m l = m ∨ maxL m l ∈ l
  | [], m => .inl rfl
  | i :: l, m => by
    unfold maxL
    rcases maxL_mem (l := l) (m := if i > m then i else m) with h | h
    · by_cases c : i > m
      · rw [if_pos c] at h ⊢; exact .inr (by rw [h]; exact List.mem_cons_self)
      · rw [if_neg c] at h ⊢; exact .inl h
    · exact .inr (List.mem_cons_of_mem _ h)
def maxD : List Dv.D → Option Opd
  | [.int i, .int j] => some (.val (.int (if j > i then j else i)))
  | [.lst l] => match intsD l with
    | some (i :: r) => some (.val (.int (maxL i r)))
    | _ => none
  | _ => none
theorem cs_max (hc : X.calm = true) : CallS X (.builtin "max") maxD := by
  refine ⟨_, (call_max2 hc).or (cr_max hc), ?_⟩
  intro Φ Pr st σ H ds vs o Q S ks e q
  unfold maxD at e
  split at e
  · cases e
    obtain ⟨v, u, rfl, p, p'⟩ := pks2 ks
    cases p.int
    cases p'.int
    exact .inl ⟨_, _, rfl, q Pr H _ (Le.refl _) S ro_int⟩
  · split at e
    · rename_i i r hl
      cases e
      obtain ⟨v, rfl, p⟩ := pks1 ks
      obtain ⟨a, xs, rfl, rd, rs⟩ := p.lst S
      refine .inr ⟨a, i :: r, rfl, .inl (by rw [← intsD_of rs hl]; exact rd), by simp, fun m hm hx => ?_⟩
      have : m = maxL i r := by
        obtain ⟨h1, h2⟩ := maxL_ge (l := r) (m := i)
        have h3 : maxL i r ≤ m := by
          rcases maxL_mem (l := r) (m := i) with h | h
          · rw [h]; exact hx i List.mem_cons_self
          · exact hx _ (List.mem_cons_of_mem _ h)
        rcases List.mem_cons.mp hm with rfl | hm
        · omega
        · have := h2 m hm; omega
      subst this
      exact q Pr H _ (Le.refl _) S ro_int
    · cases e
  · cases e
def kindOf : Dv.D → Option String
  | .non => some "NoneType"
  | .bl _ => some "bool"
  | .int _ => some "int"
  | .str _ => some "str"
  | .tup _ => some "tuple"
  | .lst _ => some "list"
  | _ => none
def isKind (k : String) (n : String) : Option Bool := if n = "int" then some (k == "int" || k == "bool") else if n = "str" then some (k == "str") else if n = "tuple" then some (k == "tuple") else if n = "list" then some (k == "list") else if n = "bool" then some (k == "bool")
  else if n = "dict" then some (k == "dict") else none
def isiD : List Dv.D → Option Opd
  | [x, .ty n] => (kindOf x).bind fun k => (isKind k n).map fun b => .val (.bl b)
  | _ => none
theorem kit_all : ∀ k ∈ ["NoneType", "bool", "int", "str", "tuple", "list", "dict"], ∀ n ∈ ["int", "str", "tuple", "list", "bool", "dict"], kitB k n = isKind k n := by decide +kernel
theorem isKind_n {k n : String} {b : Bool} (h : isKind k n = some b) : n ∈ ["int", "str", "tuple", "list", "bool", "dict"] := by
  unfold isKind at h
  repeat' split at h
  all_goals first | (rename_i e; subst e; decide) | cases h
theorem kindOf_k {x : Dv.D} {k : String} (h : kindOf x = some k) : k ∈ ["NoneType", "bool", "int", "str", "tuple", "list", "dict"] := by
  cases x <;> first | (cases h; decide) | cases h
theorem tyx_of {K : PySem.W.Frag} {Φ : Fr0} {Pr H : Hp} {st : Sto} {σ : L2.St} {x : Dv.D} {v : V} {k : String} (S : Sim K Φ Pr st σ H) (p : Pk K Pr H x v) (h : kindOf x = some k) : TyX K H v (.type k) := by
  cases x with
  | non => cases h; cases p.non; exact .base .non
  | bl b => cases h; cases p.bl; exact .base (.bl b)
  | int i => cases h; cases p.int; exact .base (.int i)
  | str z => cases h; cases p.str; exact .base (.str z)
  | tup l =>
    cases h
    obtain ⟨a, xs, rfl, r, _⟩ := p.tup S
    rcases r with (r | ⟨o, r⟩) | ⟨o, its, n, r, hc, _⟩
    · exact .base (.tup r)
    · exact .fTuple r
    · exact .kTuple r hc
  | lst l =>
    cases h
    obtain ⟨a, xs, rfl, r, _⟩ := p.lst S
    rcases r with r | ⟨o, r⟩
    · exact .base (.lst r)
    · exact .base (.frz r)
  | _ => cases h
theorem cs_isi : CallS X (.builtin "isinstance") isiD := by
  refine ⟨_, call_isi, ?_⟩
  intro Φ Pr st σ H ds vs o Q S ks e q
  unfold isiD at e
  split at e
  · rename_i x n
    rw [Option.bind_eq_some_iff] at e
    obtain ⟨k, hk, e⟩ := e
    rw [Option.map_eq_some_iff] at e
    obtain ⟨b, hb, rfl⟩ := e
    obtain ⟨v, u, rfl, p, p'⟩ := pks2 ks
    cases p'.ty
    exact ⟨v, _, _, _, b, rfl, .ty n, tyx_of S p hk, kit_ty (by rw [kit_all k (kindOf_k hk) n (isKind_n hb)]; exact hb), q Pr H _ (Le.refl _) S ro_bl⟩
  · cases e
end
end Dv
namespace Dv
open PySem L2
def noX {α : Type} : R α → R α
  | .exc _ _ _ => .bad
  | r => r
@[simp] theorem noX_ok {α : Type} (a : α) (s : Sto) : noX (.ok a s) = .ok a s := rfl
@[simp] theorem noX_exc {α : Type} (c : Str) (v : D) (s : Sto) : noX (.exc c v s : R α) = .bad := rfl
@[simp] theorem noX_bad {α : Type} : noX (.bad : R α) = .bad := rfl
def wipeS (s : Sto) : List Nat → Sto
  | [] => s
  | v :: vs => (wipeS s vs).set v .un
def restS (s0 s : Sto) : List Nat → Sto
  | [] => s
  | v :: vs => match s0[v]? with
    | some (.val d) => (restS s0 s vs).set v (.val d)
    | _ => (restS s0 s vs).set v .un
def tYesT : T := fun s => .ok true s
def lcL (g : G) (t : T) (e : E) (vs : List Nat) : List D → List D → Sto → R (List D)
  | [], acc, s => .ok acc s
  | d :: ds, acc, s => match g d (wipeS s vs) with
    | none => .bad
    | some s1 => (noX (t s1)).bind fun b s2 => if b then (noX (e s2)).bind fun o s3 => (takeO o s3).bind fun x s4 => if acc.length < LIM then lcL g t e vs ds (acc ++ [x]) s4 else .bad
      else lcL g t e vs ds acc s2
def lcM (g : G) (t : T) (f1 : Ws) (inner : List D → List D → Sto → R (List D)) (vs : List Nat) : List D → List D → Sto → R (List D)
  | [], acc, s => .ok acc s
  | d :: ds, acc, s => match g d (wipeS s vs) with
    | none => .bad
    | some s1 => (noX (t s1)).bind fun b s2 => if b then (noX (f1 s2)).bind fun ds1 s3 => (inner ds1 acc s3).bind fun acc' s4 => lcM g t f1 inner vs ds acc' s4
      else lcM g t f1 inner vs ds acc s2
def sLc (f : Ws) (g : G) (t : T) (e : E) (vs : List Nat) : E := fun s => (f s).bind fun ds s1 => (lcL g t e vs ds [] s1).bind fun acc s2 => .ok (.own (.lst acc)) (restS s1 s2 vs)
def sLc2 (f : Ws) (g : G) (t : T) (f1 : Ws) (g1 : G) (t1 : T) (e : E) (vs vs1 : List Nat) : E := fun s => (f s).bind fun ds s1 => (lcM g t f1 (lcL g1 t1 e vs1) vs ds [] s1).bind fun acc s2 => .ok (.own (.lst acc)) (restS s1 s2 vs)
section
variable {X : Cx} {W : WX} {K : PySem.W.Frag} {Φ : Fr0} {Pr H : Hp} {st : Sto} {σ : L2.St}
theorem Sim.gone (S : Sim K Φ Pr st σ H) (i : Nat) : Sim K Φ Pr (st.set i .un) (σ.set i none) H where
  len := by simpa using S.len
  inn := S.inn
  le0 := S.le0
  slots := fun j s e => by
    by_cases h : j = i
    · subst h
      by_cases hl : j < st.length
      · rw [List.getElem?_set_self hl] at e; cases e
        exact ⟨none, List.getElem?_set_self (by rw [← S.len]; exact hl), trivial⟩
      · rw [List.getElem?_eq_none (by simpa using hl)] at e; cases e
    · rw [List.getElem?_set_ne (Ne.symm h)] at e ⊢
      exact S.slots j s e
  apart := fun j k s t a h1 h2 m1 m2 h3 h4 => by
    have back : ∀ {j : Nat} {s : Slot}, (st.set i .un)[j]? = some s → s.mut = true → st[j]? = some s ∧ j ≠ i := fun {j s} e m => by
      by_cases h : j = i
      · subst h
        by_cases hl : j < st.length
        · rw [List.getElem?_set_self hl] at e; cases e; cases m
        · rw [List.getElem?_eq_none (by simpa using hl)] at e; cases e
      · rw [List.getElem?_set_ne (Ne.symm h)] at e; exact ⟨e, h⟩
    obtain ⟨e1, n1⟩ := back h1 m1
    obtain ⟨e2, n2⟩ := back h2 m2
    rw [List.getElem?_set_ne (Ne.symm n1)] at h3
    rw [List.getElem?_set_ne (Ne.symm n2)] at h4
    exact S.apart j k s t a e1 e2 m1 m2 h3 h4
  frame := S.frame
  newp := S.newp
  locks := S.locks
  lkin := S.lkin
  lent := S.lent
theorem Sim.wipe (S : Sim K Φ Pr st σ H) : ∀ vs : List Nat, Sim K Φ Pr (wipeS st vs) (L2.wipe σ vs) H
  | [] => S
  | v :: vs => (Sim.wipe S vs).gone v
theorem wipeS_get {s : Sto} {j : Nat} : ∀ {vs : List Nat}, j ∉ vs → (wipeS s vs)[j]? = s[j]?
  | [], _ => rfl
  | v :: vs, h => by
    unfold wipeS
    rw [List.getElem?_set_ne (fun z => h (by rw [← z]; exact List.mem_cons_self)), wipeS_get fun z => h (List.mem_cons_of_mem _ z)]
theorem wipeS_len {s : Sto} : ∀ {vs : List Nat}, (wipeS s vs).length = s.length
  | [] => rfl
  | v :: vs => by unfold wipeS; rw [List.length_set, wipeS_len]
theorem wipeS_in {s : Sto} {j : Nat} {t : Slot} : ∀ {vs : List Nat}, j ∈ vs → (wipeS s vs)[j]? = some t → t = .un
  | v :: vs, h, e => by
    unfold wipeS at e
    by_cases hv : v = j
    · subst hv
      by_cases hl : v < (wipeS s vs).length
      · rw [List.getElem?_set_self hl] at e; cases e; rfl
      · rw [List.getElem?_eq_none (by simpa using hl)] at e; cases e
    · rw [List.getElem?_set_ne hv] at e
      rcases List.mem_cons.mp h with z | z
      · exact absurd z.symm hv
      · exact wipeS_in z e
theorem wipe_get {s : L2.St} {j : Nat} : ∀ {vs : List Nat}, j ∉ vs → (L2.wipe s vs)[j]? = s[j]?
  | [], _ => rfl
  | v :: vs, h => by
    unfold L2.wipe
    rw [List.getElem?_set_ne (fun z => h (by rw [← z]; exact List.mem_cons_self)), wipe_get fun z => h (List.mem_cons_of_mem _ z)]
theorem wipe_in {s : L2.St} {j : Nat} (hj : j < s.length) : ∀ {vs : List Nat}, j ∈ vs → (L2.wipe s vs)[j]? = some none
  | v :: vs, h => by
    unfold L2.wipe
    by_cases hv : v = j
    · subst hv
      exact List.getElem?_set_self (by rw [wipe_length]; exact hj)
    · rw [List.getElem?_set_ne hv]
      rcases List.mem_cons.mp h with z | z
      · exact absurd z.symm hv
      · exact wipe_in hj z
theorem wipe_only {is vs : List Nat} {σ σ' : L2.St} (o : Only is (L2.wipe σ vs) σ') (hs : ∀ i ∈ is, i ∈ vs) : L2.wipe σ' vs = L2.wipe σ vs := by
  have hl : σ'.length = σ.length := by rw [o.1, wipe_length]
  refine List.ext_getElem? fun j => ?_
  by_cases hj : j ∈ vs
  · by_cases hk : j < σ.length
    · rw [wipe_in (by rw [hl]; exact hk) hj, wipe_in hk hj]
    · rw [List.getElem?_eq_none (by rw [wipe_length, hl]; omega), List.getElem?_eq_none (by rw [wipe_length]; omega)]
  · rw [wipe_get hj, o.2 j fun z => hj (hs j z)]
theorem wipe_sub {vs1 vs : List Nat} {σ : L2.St} (hs : ∀ i ∈ vs1, i ∈ vs) : L2.wipe (L2.wipe σ vs1) vs = L2.wipe σ vs := by
  refine List.ext_getElem? fun j => ?_
  by_cases hj : j ∈ vs
  · by_cases hk : j < σ.length
    · rw [wipe_in (by rw [wipe_length]; exact hk) hj, wipe_in hk hj]
    · rw [List.getElem?_eq_none (by rw [wipe_length, wipe_length]; omega), List.getElem?_eq_none (by rw [wipe_length]; omega)]
  · rw [wipe_get hj, wipe_get (fun z => hj (hs j z)), wipe_get hj]
theorem wipeS_sub {vs1 vs : List Nat} {s : Sto} (hs : ∀ i ∈ vs1, i ∈ vs) : wipeS (wipeS s vs1) vs = wipeS s vs := by
  refine List.ext_getElem? fun j => ?_
  by_cases hj : j ∈ vs
  · have a : ∀ {s : Sto}, j < s.length → (wipeS s vs)[j]? = some .un := fun {s} hk => by
      have hl : j < (wipeS s vs).length := by rw [wipeS_len]; exact hk
      rw [List.getElem?_eq_getElem hl, wipeS_in hj (List.getElem?_eq_getElem hl)]
    by_cases hk : j < s.length
    · rw [a (by rw [wipeS_len]; exact hk), a hk]
    · rw [List.getElem?_eq_none (by rw [wipeS_len, wipeS_len]; omega), List.getElem?_eq_none (by rw [wipeS_len]; omega)]
  · rw [wipeS_get hj, wipeS_get (fun z => hj (hs j z)), wipeS_get hj]
theorem Sim.rest {P0 : Hp} {H0 : Hp} {s0 : Sto} (S0 : Sim K Φ P0 s0 σ H0) (le : Le P0 Pr) : ∀ (vs ws : List Nat) {st : Sto} {H : Hp}, (∀ v ∈ vs, v ∈ ws) → Sim K Φ Pr st (L2.wipe σ ws) H → (∀ (j : Nat) t, j ∈ ws → st[j]? = some t → t = .un) →
    ∃ τ, Sim K Φ Pr (restS s0 st vs) τ H ∧ τ.length = σ.length ∧ (∀ (j : Nat), j ∉ ws → τ[j]? = σ[j]?) ∧ (∀ (j : Nat) t, j ∈ ws → (restS s0 st vs)[j]? = some t → t.mut = false ∧ (t = .un ∨ τ[j]? = σ[j]?))
  | [], ws, st, H, _, S, hu => ⟨L2.wipe σ ws, S, wipe_length _ _, fun j hj => wipe_get hj, fun j t hj e => by rw [hu j t hj e]; exact ⟨rfl, .inl rfl⟩⟩
  | v :: vs, ws, st, H, hw, S, hu => by
    obtain ⟨τ, S1, hl, ho, hi⟩ := Sim.rest S0 le vs ws (fun v hv => hw v (List.mem_cons_of_mem _ hv)) S hu
    have hvw := hw v List.mem_cons_self
    have hlen : (restS s0 st vs).length = σ.length := by rw [S1.len, hl]
    have un : ∃ τ', Sim K Φ Pr ((restS s0 st vs).set v .un) τ' H ∧ τ'.length = σ.length ∧ (∀ (j : Nat), j ∉ ws → τ'[j]? = σ[j]?) ∧ (∀ (j : Nat) t, j ∈ ws → ((restS s0 st vs).set v .un)[j]? = some t → t.mut = false ∧ (t = .un ∨ τ'[j]? = σ[j]?)) := by
      refine ⟨τ, S1.drop v, hl, ho, fun j t hj e => ?_⟩
      by_cases hv : v = j
      · subst hv
        by_cases hk : v < (restS s0 st vs).length
        · rw [List.getElem?_set_self hk] at e; cases e; exact ⟨rfl, .inl rfl⟩
        · rw [List.getElem?_eq_none (by simpa using hk)] at e; cases e
      · rw [List.getElem?_set_ne hv] at e
        exact hi j t hj e
    unfold restS
    split
    · rename_i d hd
      obtain ⟨ov, h1, u, rfl, r⟩ := S0.slots v _ hd
      have hk : v < (restS s0 st vs).length := by rw [hlen]; exact (List.getElem?_eq_some_iff.mp h1).1
      refine ⟨τ.set v (some u), S1.assign (List.getElem?_eq_getElem hk) ⟨u, rfl, r.mono le⟩ (fun z => nomatch z), by simpa using hl, fun j hj => ?_, fun j t hj e => ?_⟩
      · rw [List.getElem?_set_ne (fun z => hj (by rw [← z]; exact hvw))]
        exact ho j hj
      · by_cases hv : v = j
        · subst hv
          rw [List.getElem?_set_self hk] at e; cases e
          refine ⟨rfl, .inr ?_⟩
          rw [List.getElem?_set_self (by rw [← S1.len]; exact hk), h1]
        · rw [List.getElem?_set_ne hv] at e ⊢
          exact hi j t hj e
    · exact un
theorem Sim.any {τ : L2.St} (S : Sim K Φ Pr st τ H) (hl : τ.length = σ.length) (h : ∀ (j : Nat) t, st[j]? = some t → t = .un ∨ τ[j]? = σ[j]?) : Sim K Φ Pr st σ H where
  len := by rw [S.len, hl]
  inn := S.inn
  le0 := S.le0
  slots := fun j s e => by
    rcases h j s e with rfl | q
    · have hj : j < σ.length := by rw [← hl, ← S.len]; exact (List.getElem?_eq_some_iff.mp e).1
      exact ⟨_, List.getElem?_eq_getElem hj, trivial⟩
    · rw [← q]; exact S.slots j s e
  apart := fun j k s t a h1 h2 m1 m2 h3 h4 => by
    have g : ∀ {j : Nat} {s : Slot}, st[j]? = some s → s.mut = true → τ[j]? = σ[j]? := fun {j s} e m => by
      rcases h j s e with rfl | q
      · cases m
      · exact q
    rw [← g h1 m1] at h3
    rw [← g h2 m2] at h4
    exact S.apart j k s t a h1 h2 m1 m2 h3 h4
  frame := S.frame
  newp := S.newp
  locks := S.locks
  lkin := S.lkin
  lent := S.lent
theorem Sim.outer {P0 H0 : Hp} {s0 : Sto} {vs : List Nat} (S0 : Sim K Φ P0 s0 σ H0) (le : Le P0 Pr) (S : Sim K Φ Pr (wipeS st vs) (L2.wipe σ vs) H) : Sim K Φ Pr (restS s0 st vs) σ H := by
  have e : restS s0 st vs = restS s0 (wipeS st vs) vs := by
    refine List.ext_getElem? fun j => ?_
    have out : ∀ (us : List Nat) {a b : Sto}, a.length = b.length → (j ∈ us ∨ a[j]? = b[j]?) → (restS s0 a us)[j]? = (restS s0 b us)[j]? := by
      intro us
      have len : ∀ (us : List Nat) (a : Sto), (restS s0 a us).length = a.length := by
        intro us
        induction us with
        | nil => intro a; rfl
        | cons u us ih => intro a; unfold restS; split <;> rw [List.length_set, ih]
      induction us with
      | nil =>
        intro a b _ h
        rcases h with h | h
        · cases h
        · exact h
      | cons u us ih =>
        intro a b hab h
        have hl : (restS s0 a us).length = (restS s0 b us).length := by rw [len, len, hab]
        have gen : ∀ t : Slot, ((restS s0 a us).set u t)[j]? = ((restS s0 b us).set u t)[j]? := fun t => by
          by_cases hu : u = j
          · subst hu
            by_cases hk : u < (restS s0 a us).length
            · rw [List.getElem?_set_self hk, List.getElem?_set_self (by rw [← hl]; exact hk)]
            · rw [List.getElem?_eq_none (by simpa using hk), List.getElem?_eq_none (by rw [List.length_set, ← hl]; omega)]
          · rw [List.getElem?_set_ne hu, List.getElem?_set_ne hu]
            refine ih hab ?_
            rcases h with h | h
            · rcases List.mem_cons.mp h with z | z
              · exact absurd z.symm hu
              · exact .inl z
            · exact .inr h
        unfold restS
        split <;> exact gen _
    refine out vs wipeS_len.symm ?_
    by_cases hj : j ∈ vs
    · exact .inl hj
    · exact .inr (wipeS_get hj).symm
  rw [e]
  obtain ⟨τ, S1, hl, ho, hi⟩ := Sim.rest S0 le vs vs (fun _ h => h) S (fun j t hj e => wipeS_in hj e)
  refine S1.any hl fun j t q => ?_
  by_cases hj : j ∈ vs
  · exact (hi j t hj q).2
  · exact .inr (ho j hj)
structure Aside (Φ : Fr0) (Pr H : Hp) (st : Sto) (σ : L2.St) (D : Addr) : Prop where
  pr : Pr D = none
  h0 : Φ.H0 D = none
  nl : ¬ Φ.Lent D
  no : ∀ (i : Nat) s, st[i]? = some s → s.mut = true → σ[i]? ≠ some (some (V.ref D))
abbrev Fr0.asideO (Φ : Fr0) (D : Addr) (ho : HO) : Fr0 := { Φ with H0 := upd Φ.H0 D ho }
theorem Sim.toAsideO {D : Addr} {ho : HO} (S : Sim K Φ Pr st σ H) (A : Aside Φ Pr H st σ D) (h : H D = some ho) : Sim K (Φ.asideO D ho) Pr st σ H where
  len := S.len
  inn := S.inn
  le0 := S.le0
  slots := fun i s e => by
    obtain ⟨ov, h1, h2⟩ := S.slots i s e
    refine ⟨ov, h1, ?_⟩
    cases s with
    | un => trivial
    | val d => exact h2
    | own d =>
      obtain ⟨a, o, rfl, p1, p2, p3⟩ := h2
      exact ⟨a, o, rfl, p1, by show upd Φ.H0 D ho a = none; rw [upd_ne fun z => A.no i _ e rfl (by rw [h1, z])]; exact p2, p3⟩
    | par d => exact h2
    | pfr d => exact h2
  apart := S.apart
  frame := fun a o q n => by
    by_cases e : a = D
    · subst e
      have q' : upd Φ.H0 a ho a = some o := q
      rw [upd_same] at q'; cases q'; exact .inl h
    · have q' : upd Φ.H0 D ho a = some o := q
      rw [upd_ne e] at q'; exact S.frame a o q' n
  newp := fun a o q => by
    rcases S.newp a o q with h | h | h
    · exact .inl h
    · refine .inr (.inl ?_)
      show upd Φ.H0 D ho a = none
      rw [upd_ne fun z => by rw [z, A.pr] at q; cases q]; exact h
    · exact .inr (.inr h)
  locks := fun a ob o q => by
    rcases S.locks a ob o q with z | z
    · refine .inl ?_
      show upd Φ.H0 D ho a = _
      rw [upd_ne fun y => by rw [y, A.h0] at z; cases z]; exact z
    · exact .inr z
  lkin := S.lkin
  lent := S.lent
theorem Sim.ofAsideO {P0 : Hp} {D : Addr} {ho : HO} (nf : ∀ ob u, ho ≠ .frz ob u) (S : Sim K (Φ.asideO D ho) Pr st σ H) (h0 : Φ.H0 D = none) (hn : P0 D = none) (l0 : Le Φ.P0 P0) (nl : ¬ Φ.Lent D) : Sim K Φ Pr st σ H ∧ Aside Φ Pr H st σ D ∧ H D = some ho := by
  have pr : Pr D = none := by
    cases e : Pr D with
    | none => rfl
    | some o =>
      rcases S.newp D o e with h | h | h
      · have := l0 _ _ (show Φ.P0 D = some o from h)
        rw [hn] at this; cases this
      · have h' : upd Φ.H0 D ho D = none := h
        rw [upd_same] at h'; cases h'
      · exact absurd h nl
  have hD : H D = some ho := by
    rcases S.frame D _ upd_same nl with q | ⟨m, _⟩
    · exact q
    · obtain ⟨u, q⟩ := S.lkin D m
      rw [pr] at q; cases q
  have up : ∀ {a : Addr}, upd Φ.H0 D ho a = none → Φ.H0 a = none ∧ a ≠ D := fun {a} h => by
    by_cases e : a = D
    · subst e; rw [upd_same] at h; cases h
    · rw [upd_ne e] at h; exact ⟨h, e⟩
  refine ⟨⟨S.len, S.inn, S.le0, fun i s e => ?_, S.apart, fun a o q n => ?_, fun a o q => ?_, fun a ob o q => ?_, S.lkin, S.lent⟩, ⟨pr, h0, nl, fun i s e m z => ?_⟩, hD⟩
  · obtain ⟨ov, h1, h2⟩ := S.slots i s e
    refine ⟨ov, h1, ?_⟩
    cases s with
    | un => trivial
    | val d => exact h2
    | own d =>
      obtain ⟨a, o, rfl, p1, p2, p3⟩ := h2
      exact ⟨a, o, rfl, p1, (up p2).1, p3⟩
    | par d => exact h2
    | pfr d => exact h2
  · refine S.frame a o ?_ n
    show upd Φ.H0 D ho a = some o
    rw [upd_ne fun z => by rw [z, h0] at q; cases q]; exact q
  · rcases S.newp a o q with h | h | h
    · exact .inl h
    · exact .inr (.inl (up h).1)
    · exact .inr (.inr h)
  · rcases S.locks a ob o q with z | z
    · by_cases e : a = D
      · subst e
        have z' : upd Φ.H0 a ho a = some (.frz ob o) := z
        rw [upd_same] at z'; exact absurd (Option.some.inj z') (nf ob o)
      · have z' : upd Φ.H0 D ho a = some (.frz ob o) := z
        rw [upd_ne e] at z'; exact .inl z'
    · exact .inr z
  · obtain ⟨ov, h1, h2⟩ := S.slots i s e
    rw [z] at h1; cases h1
    cases s with
    | own d =>
      obtain ⟨a, o, ea, p1, p2, p3⟩ := h2
      cases ea
      exact (up p2).2 rfl
    | par d =>
      obtain ⟨a, o, ea, p1, p2, p3⟩ := h2
      cases ea
      exact nl ⟨i, p2⟩
    | un => cases m
    | val _ => cases m
    | pfr _ => cases m
abbrev Fr0.aside (Φ : Fr0) (D : Addr) (acc : List V) : Fr0 := Φ.asideO D (.lst acc)
theorem Sim.toAside {D : Addr} {acc : List V} (S : Sim K Φ Pr st σ H) (A : Aside Φ Pr H st σ D) (h : H D = some (.lst acc)) : Sim K (Φ.aside D acc) Pr st σ H := S.toAsideO A h
theorem Sim.ofAside {P0 : Hp} {D : Addr} {acc : List V} (S : Sim K (Φ.aside D acc) Pr st σ H) (h0 : Φ.H0 D = none) (hn : P0 D = none) (l0 : Le Φ.P0 P0) (nl : ¬ Φ.Lent D) : Sim K Φ Pr st σ H ∧ Aside Φ Pr H st σ D ∧ H D = some (.lst acc) := S.ofAsideO (fun _ _ z => nomatch z) h0 hn l0 nl
end
end Dv
namespace Dv
open PySem L2
abbrev WF : WX := fun _ _ _ _ => False
section
variable {X : Cx} {W : WX}
def gX (X : Cx) (g : G) (is : List Nat) : TG := fun v σ H Q => ∃ Φ, tG X Φ g is v σ H Q
def tX (X : Cx) (t : T) : TT := fun σ H Q => ∃ Φ, tT X Φ WF t σ H Q
def eX (X : Cx) (e : E) : TE := fun σ H Q => ∃ Φ, tE X Φ WF e σ H Q
def wX (X : Cx) (f : Ws) : TI := fun σ H R => ∃ Φ, tW X Φ WF f σ H R
theorem pg_X {tg : Expr} {g : G} {is : List Nat} (h : SG X tg g is) : PG X tg (gX X g is) := ⟨fun pins s σ H v u Q I r ⟨Φ, q⟩ => (h.pg Φ).run pins s σ H v u Q I r q⟩
theorem pe_X {e : Expr} {fe : E} (h : SE X WF e fe) : PE X e (eX X fe) := ⟨fun pins s σ H Q I ⟨Φ, q⟩ => (h.pe Φ).run pins s σ H Q I q⟩
theorem pi_X {tg e : Expr} {f : Ws} (h : SI X WF tg e f) : PI X tg e (wX X f) := ⟨fun pins s σ H R I ⟨Φ, q⟩ => (h.pi Φ).run pins s σ H R I q⟩
structure STs (X : Cx) (ifs : List Expr) (t : T) : Prop where
  pts : PTs X ifs (tX X t)
theorem sts_nil : STs X [] tYesT := ⟨⟨fun pins s σ H Q I ⟨Φ, Pr, st, S, h⟩ => pts_nil.run pins s σ H Q I (h Pr H (Le.refl _) S)⟩⟩
theorem sts_one {c : Expr} {t : T} (h : ST X WF c t) : STs X [c] t := ⟨⟨fun pins s σ H Q I ⟨Φ, q⟩ => (pts_one (h.pt Φ)).run pins s σ H Q I q⟩⟩
theorem Sim.touch {K : PySem.W.Frag} {Φ : Fr0} {Pr H : Hp} {st : Sto} {σ : L2.St} {D : Addr} {o : HO} (S : Sim K Φ Pr st σ H) (A : Aside Φ Pr H st σ D) (hf : ∀ ob u, o ≠ .frz ob u) : Sim K Φ Pr st σ (upd H D o) where
  len := S.len
  inn := fun a u q => (S.inn a u q).upd fun z => by rw [z, A.pr] at q; cases q
  le0 := S.le0
  slots := fun i s e => by
    obtain ⟨ov, h1, h2⟩ := S.slots i s e
    refine ⟨ov, h1, h2.heap fun a u ea m q => ?_⟩
    rw [upd_ne fun z => A.no i s e m (by rw [h1, ea, z])]; exact q
  apart := S.apart
  frame := fun a u q n => (S.frame a u q n).upd fun z => by rw [z, A.h0] at q; cases q
  newp := S.newp
  locks := fun a ob u q => by
    by_cases e : a = D
    · subst e
      rw [upd_same] at q
      exact absurd (Option.some.inj q) (hf ob u)
    · rw [upd_ne e] at q; exact S.locks a ob u q
  lkin := S.lkin
  lent := fun a q => by
    obtain ⟨u, e⟩ := S.lent a q
    exact ⟨u, by rw [upd_ne fun z => A.nl (by rw [← z]; exact q)]; exact e⟩
structure Bld (K : PySem.W.Frag) (Φ : Fr0) (Pr H : Hp) (s : Sto) (σ : L2.St) (A : Addr) (vs : List Nat) (dacc : List D) (acc : List V) : Prop where
  sim : Sim K Φ Pr (wipeS s vs) (L2.wipe σ vs) H
  aside : Aside Φ Pr H (wipeS s vs) (L2.wipe σ vs) A
  at_ : H A = some (.lst acc)
  reps : Reps K Pr dacc acc
theorem Aside.heap {Φ : Fr0} {Pr H H' : Hp} {s : Sto} {σ : L2.St} {A : Addr} (h : Aside Φ Pr H s σ A) : Aside Φ Pr H' s σ A := ⟨h.pr, h.h0, h.nl, h.no⟩
theorem Aside.wipe {Φ : Fr0} {Pr H H' : Hp} {s : Sto} {σ : L2.St} {D : Addr} (A : Aside Φ Pr H s σ D) (vs : List Nat) : Aside Φ Pr H' (wipeS s vs) (L2.wipe σ vs) D := by
  refine ⟨A.pr, A.h0, A.nl, fun i t e m z => ?_⟩
  by_cases h : i ∈ vs
  · rw [wipeS_in h e] at m; cases m
  · rw [wipeS_get h] at e
    rw [wipe_get h] at z
    exact A.no i t e m z
theorem lcL_cons {g : G} {t : T} {e : E} {vs : List Nat} {d : D} {ds acc accF : List D} {s sF : Sto} (h : lcL g t e vs (d :: ds) acc s = .ok accF sF) :
    ∃ s1 b s2, g d (wipeS s vs) = some s1 ∧ t s1 = .ok b s2 ∧ ((b = true ∧ ∃ o s3 x s4, e s2 = .ok o s3 ∧ takeO o s3 = .ok x s4 ∧ acc.length < LIM ∧ lcL g t e vs ds (acc ++ [x]) s4 = .ok accF sF) ∨ (b = false ∧ lcL g t e vs ds acc s2 = .ok accF sF)) := by
  unfold lcL at h
  split at h
  · cases h
  · rename_i s1 h1
    cases h2 : t s1 with
    | exc c v s' => rw [h2] at h; cases h
    | bad => rw [h2] at h; cases h
    | ok b s2 =>
      rw [h2] at h
      simp only [noX_ok, R.bind_ok] at h
      refine ⟨s1, b, s2, h1, h2, ?_⟩
      cases b with
      | false => exact .inr ⟨rfl, h⟩
      | true =>
        simp only [if_true] at h
        cases h3 : e s2 with
        | exc c v s' => rw [h3] at h; cases h
        | bad => rw [h3] at h; cases h
        | ok o s3 =>
          rw [h3] at h
          simp only [noX_ok, R.bind_ok] at h
          rcases take_cases o s3 with ⟨x, s4, h4⟩ | h4
          · rw [h4] at h
            simp only [R.bind_ok] at h
            by_cases hl : acc.length < LIM
            · rw [if_pos hl] at h
              exact .inl ⟨rfl, o, s3, x, s4, rfl, h4, hl, h⟩
            · rw [if_neg hl] at h; cases h
          · rw [h4] at h; cases h
theorem lcL_res {g : G} {t : T} {e : E} {vs : List Nat} : ∀ (ds acc : List D) (s : Sto), (∃ a s', lcL g t e vs ds acc s = .ok a s') ∨ lcL g t e vs ds acc s = .bad
  | [], acc, s => .inl ⟨_, _, rfl⟩
  | d :: ds, acc, s => by
    unfold lcL
    split
    · exact .inr rfl
    · cases h2 : t _ with
      | exc c v s' => exact .inr rfl
      | bad => exact .inr rfl
      | ok b s2 =>
        simp only [noX_ok, R.bind_ok]
        cases b with
        | false => exact lcL_res ds acc s2
        | true =>
          simp only [if_true]
          cases h3 : e s2 with
          | exc c v s' => exact .inr rfl
          | bad => exact .inr rfl
          | ok o s3 =>
            simp only [noX_ok, R.bind_ok]
            rcases take_cases o s3 with ⟨x, s4, h4⟩ | h4
            · rw [h4]
              simp only [R.bind_ok]
              by_cases hl : acc.length < LIM
              · rw [if_pos hl]; exact lcL_res ds _ s4
              · rw [if_neg hl]; exact .inr rfl
            · rw [h4]; exact .inr rfl
theorem turn_of {Φ : Fr0} {Pr H' : Hp} {g : G} {is vs : List Nat} {t : T} {e : E} {d : D} {ds dacc accF : List D} {s sF : Sto} {σ : L2.St} {A : Addr} {acc : List V} {x : V} {Nx : Hp → Prop} (h : lcL g t e vs (d :: ds) dacc s = .ok accF sF)
    (S : Sim X.K (Φ.aside A acc) Pr (wipeS s vs) (L2.wipe σ vs) H') (h0 : Φ.H0 A = none) (hn : Pr A = none) (nl : ¬ Φ.Lent A) (hi : ∀ i ∈ is, i ∈ vs) (rx : Rep X.K Pr d x) (ra : Reps X.K Pr dacc acc)
    (hNx : ∀ P s' acc' dacc' H2, Le Pr P → Bld X.K Φ P H2 s' σ A vs dacc' acc' → lcL g t e vs ds dacc' s' = .ok accF sF → Nx H2) :
    gX X g is x (L2.wipe σ vs) H' fun σ2 H2 => L2.wipe σ2 vs = L2.wipe σ vs ∧ tX X t σ2 H2 fun b H3 =>
      if b = true then eX X e σ2 H3 fun y H4 => ∃ acc, H4 A = some (.lst acc) ∧ acc.length < sizeLine ∧ Nx (upd H4 A (.lst (acc ++ [y]))) else Nx H3 := by
  obtain ⟨s1, b, s2, h1, h2, hb⟩ := lcL_cons h
  have l0 : Le Φ.P0 Pr := S.le0
  refine ⟨Φ.aside A acc, Pr, wipeS s vs, d, s1, S, rx, h1, fun P3 σ2 l3 only S3 => ?_⟩
  have hw := wipe_only only hi
  refine ⟨hw, Φ.aside A acc, P3, s1, S3, ?_⟩
  rw [h2]
  intro P4 H4 l4 S4
  have fin : ∀ {P5 : Hp} {s5 : Sto} {H5 : Hp}, Le P4 P5 → Sim X.K (Φ.aside A acc) P5 s5 σ2 H5 → Sim X.K Φ P5 (wipeS s5 vs) (L2.wipe σ vs) H5 ∧ Aside Φ P5 H5 (wipeS s5 vs) (L2.wipe σ vs) A ∧ H5 A = some (.lst acc) := fun {P5 s5 H5} l5 S5 => by
    obtain ⟨q1, q2, q3⟩ := S5.ofAside h0 hn l0 nl
    exact ⟨by rw [← hw]; exact q1.wipe vs, by rw [← hw]; exact q2.wipe vs, q3⟩
  have l14 := l3.trans l4
  rcases hb with ⟨rfl, o, s3, y, s4, h3, h4, hl, h5⟩ | ⟨rfl, h5⟩
  · refine iteT ⟨Φ.aside A acc, P4, s2, S4, ?_⟩
    rw [h3]
    intro P5 H5 l5 S5 v hv
    obtain ⟨P6, l6, S6, r6⟩ := take_of S5 hv h4
    obtain ⟨q1, q2, q3⟩ := fin (l5.trans l6) S6
    refine ⟨acc, q3, by rw [ra.length, lim_eq]; exact hl, hNx P6 s4 (acc ++ [v]) (dacc ++ [y]) _ (l14.trans (l5.trans l6)) ⟨q1.touch q2 (fun _ _ z => nomatch z), q2.heap, upd_same, Reps.append (Reps.mono (l14.trans (l5.trans l6)) _ ra) (Reps.one r6)⟩ h5⟩
  · obtain ⟨q1, q2, q3⟩ := fin (Le.refl _) S4
    exact iteF (hNx P4 s2 acc dacc H4 l14 ⟨q1, q2, q3, Reps.mono l14 _ ra⟩ h5)
theorem restS_get {s0 : Sto} {j : Nat} : ∀ {vs : List Nat} {s : Sto}, j ∉ vs → (restS s0 s vs)[j]? = s[j]?
  | [], _, _ => rfl
  | v :: vs, s, h => by
    have ne : v ≠ j := fun z => h (by rw [← z]; exact List.mem_cons_self)
    have ih := restS_get (s0 := s0) (s := s) (vs := vs) fun z => h (List.mem_cons_of_mem _ z)
    unfold restS
    split <;> rw [List.getElem?_set_ne ne, ih]
theorem restS_len {s0 : Sto} : ∀ {vs : List Nat} {s : Sto}, (restS s0 s vs).length = s.length
  | [], _ => rfl
  | v :: vs, s => by unfold restS; split <;> rw [List.length_set, restS_len]
theorem restS_in {s0 : Sto} {j : Nat} {t : Slot} : ∀ {vs : List Nat} {s : Sto}, j ∈ vs → (restS s0 s vs)[j]? = some t → t.mut = false
  | v :: vs, s, h, e => by
    have gen : ∀ {u : Slot}, u.mut = false → ((restS s0 s vs).set v u)[j]? = some t → t.mut = false := fun {u} hu e => by
      by_cases hv : v = j
      · subst hv
        by_cases hl : v < (restS s0 s vs).length
        · rw [List.getElem?_set_self hl] at e; cases e; exact hu
        · rw [List.getElem?_eq_none (by simpa using hl)] at e; cases e
      · rw [List.getElem?_set_ne hv] at e
        rcases List.mem_cons.mp h with z | z
        · exact absurd z.symm hv
        · exact restS_in z e
    unfold restS at e
    split at e
    · exact gen rfl e
    · exact gen rfl e
theorem Bld.done {Φ : Fr0} {P0 Pr H0 H : Hp} {s0 s : Sto} {σ : L2.St} {A : Addr} {vs : List Nat} {dacc : List D} {acc : List V} (B : Bld X.K Φ Pr H s σ A vs dacc acc) (S0 : Sim X.K Φ P0 s0 σ H0) (le : Le P0 Pr) :
    Sim X.K Φ Pr (restS s0 s vs) σ H ∧ RepO X.K Φ Pr H (restS s0 s vs) σ (.own (.lst dacc)) (.ref A) := by
  refine ⟨S0.outer le B.sim, A, .lst acc, rfl, B.aside.pr, B.aside.h0, B.at_, B.reps, fun i t e m z => ?_⟩
  by_cases h : i ∈ vs
  · rw [restS_in h e] at m; cases m
  · rw [restS_get h] at e
    exact B.aside.no i t (by rw [wipeS_get h]; exact e) m (by rw [wipe_get h]; exact z)
theorem Bld.start {Φ : Fr0} {Pr H : Hp} {s : Sto} {σ : L2.St} {A : Addr} (vs : List Nat) (S : Sim X.K Φ Pr s σ H) (hA : H A = none) : Bld X.K Φ Pr (upd H A (.lst [])) s σ A vs [] [] := by
  obtain ⟨f1, f2, f3⟩ := S.fresh hA
  refine ⟨(S.alloc (o := .lst []) hA (fun _ _ z => (nomatch z))).wipe vs, (Aside.wipe (H := H) ⟨f1, f2, f3, fun i t e m z => ?_⟩ vs), upd_same, Reps.nil⟩
  obtain ⟨ov, h1, h2⟩ := S.slots i t e
  rw [h1] at z; cases z
  obtain ⟨_, ⟨u, q⟩, _⟩ := h2.there m
  rw [hA] at q; cases q
theorem se_lc {elt tg iter : Expr} {ifs : List Expr} {scope : Scope} {own : List (Str × Nat)} {pos : Pos} {f : Ws} {g : G} {t : T} {e : E} {is vs : List Nat} (hc : X.calm = true) (hN : X.N.Nodup) (hi : SI X W tg iter f) (ok : BlkOk X.N X.env.scope scope own) (hv : own.map (·.2) = vs) (his : ∀ i ∈ is, i ∈ vs)
    (hg : ∀ (s : Shared) (H : Hp) (C : Addr) (cl : List (Str × Addr)) (fp : List Addr), SG (X.blk s H scope (compEnvC scope cl C X.env) fp) tg g is) (ht : ∀ (s : Shared) (H : Hp) (C : Addr) (cl : List (Str × Addr)) (fp : List Addr), STs (X.blk s H scope (compEnvC scope cl C X.env) fp) ifs t)
    (he : ∀ (s : Shared) (H : Hp) (C : Addr) (cl : List (Str × Addr)) (fp : List Addr), SE (X.blk s H scope (compEnvC scope cl C X.env) fp) WF elt e) (hs : ∀ x, foldedSetIterable iter X.env x = pure x := by intro _; rfl) :
    SE X W (.ListComp elt [⟨tg, iter, ifs, 0⟩] scope pos) (sLc f g t e vs) := by
  subst hv
  refine ⟨fun Φ => peImp (pe_lc (g := gX X g is) (tt := tX X t) (te := eX X e) hc hN (hi.pi Φ) ok (fun s H C cl fp => pg_X (hg s H C cl fp)) (fun s H C cl fp => (ht s H C cl fp).pts) (fun s H C cl fp => pe_X (he s H C cl fp)) hs) fun σ H Q h => ?_⟩
  obtain ⟨Pr, st, S, h⟩ := h
  refine ⟨Pr, st, S, h.bind.imp fun ds s1 P1 H1 l1 S1 h1 P2 J l2 S2 wk A hA => ?_⟩
  rcases lcL_res (g := g) (t := t) (e := e) (vs := own.map (·.2)) ds [] s1 with ⟨accF, sF, hF⟩ | hF
  · rw [hF] at h1
    simp only [R.bind_ok] at h1
    refine ⟨fun i m H => ∃ Pr s acc dacc, Le P2 Pr ∧ Bld X.K Φ Pr H s σ A (own.map (·.2)) dacc acc ∧ m = ds.length - i ∧ lcL g t e (own.map (·.2)) (ds.drop i) dacc s = .ok accF sF, ⟨_, P2, s1, [], [], Le.refl _, Bld.start _ S2 hA, rfl, hF⟩, ?_⟩
    rintro i m H3 ⟨P3, s3, acc, dacc, l3, B, rfl, hl⟩
    obtain ⟨w1, w2⟩ := wk (Φ.aside A acc) rfl i P3 _ _ H3 l3 (B.sim.toAside B.aside B.at_)
    by_cases hlt : i < ds.length
    · right
      obtain ⟨g1, g2⟩ := w2 _ (List.getElem?_eq_getElem hlt)
      rw [List.drop_eq_getElem_cons hlt] at hl
      refine ⟨g1, fun H => ∃ Pr s acc dacc, Le P2 Pr ∧ Bld X.K Φ Pr H s σ A (own.map (·.2)) dacc acc ∧ lcL g t e (own.map (·.2)) (ds.drop (i + 1)) dacc s = .ok accF sF, fun H' ⟨P4, s4, acc4, dacc4, l4, B4, hl4⟩ => ⟨ds.length - (i + 1), by omega, P4, s4, acc4, dacc4, l4, B4, rfl, hl4⟩, fun x H4 hy => ?_⟩
      obtain ⟨P4, l4, S4, r4⟩ := g2 x H4 hy
      have pn : P4 A = none := by
        obtain ⟨q1, q2, q3⟩ := S4.ofAside B.aside.h0 B.aside.pr B.sim.le0 B.aside.nl
        exact q2.pr
      exact turn_of hl S4 B.aside.h0 pn B.aside.nl his r4 (Reps.mono l4 _ B.reps) fun P s' acc' dacc' H2 le B' hl' => ⟨P, s', acc', dacc', l3.trans (l4.trans le), B', hl'⟩
    · left
      refine ⟨w1 (by omega), ?_⟩
      rw [List.drop_eq_nil_of_le (by omega)] at hl
      unfold lcL at hl
      cases hl
      obtain ⟨q1, q2⟩ := B.done S1 (l2.trans l3)
      exact h1 P3 H3 (l2.trans l3) q1 _ q2
  · rw [hF] at h1
    exact h1.elim
theorem ss_setLc {i : Nat} {y : Str} {py : Pos} {elt tg iter : Expr} {ifs : List Expr} {scope : Scope} {own : List (Str × Nat)} {pos spos : Pos} {f : Ws} {g : G} {t : T} {e : E} {is vs : List Nat} (hc : X.calm = true) (hN : X.N.Nodup) (hy : X.N[i]? = some y) (hyl : X.env.scope.names.lookup y = some .local)
    (hsw : swapsWith (.ListComp elt [⟨tg, iter, ifs, 0⟩] scope pos) (some (.Name y py)) spos.line X.env = pure true) (hi : SI X W tg iter f) (ok : BlkOk X.N X.env.scope scope own) (hv : own.map (·.2) = vs) (his : ∀ i ∈ is, i ∈ vs)
    (hg : ∀ (s : Shared) (H : Hp) (C : Addr) (cl : List (Str × Addr)) (fp : List Addr), SG (X.blk s H scope (compEnvC scope cl C X.env) fp) tg g is) (ht : ∀ (s : Shared) (H : Hp) (C : Addr) (cl : List (Str × Addr)) (fp : List Addr), STs (X.blk s H scope (compEnvC scope cl C X.env) fp) ifs t)
    (he : ∀ (s : Shared) (H : Hp) (C : Addr) (cl : List (Str × Addr)) (fp : List Addr), SE (X.blk s H scope (compEnvC scope cl C X.env) fp) WF elt e) (hs : ∀ x, foldedSetIterable iter X.env x = pure x := by intro _; rfl) :
    SS X W (.Assign [.Name y py] (.ListComp elt [⟨tg, iter, ifs, 0⟩] scope pos) spos) (sAsg i (sLc f g t e vs)) := by
  subst hv
  refine ⟨fun Φ => psImp (ps_setLc (i := i) (g := gX X g is) (tt := tX X t) (te := eX X e) hc hN hy hyl hsw (hi.pi Φ) ok (fun s H C cl fp => pg_X (hg s H C cl fp)) (fun s H C cl fp => (ht s H C cl fp).pts) (fun s H C cl fp => pe_X (he s H C cl fp)) hs) fun D σ H h => ?_⟩
  obtain ⟨Pr, st, S, h⟩ := h
  have h : Aft X Φ W Pr σ (sLc f g t e (own.map (·.2)) st) fun o st' Pr' H' => ∀ v, RepO X.K Φ Pr' H' st' σ o v → D.nx (σ.set i (some v)) H' := (kR_of trivial h).imp fun o s1 P1 H1 l1 S1 h1 v hv => asgO_of S1 hv h1
  refine ⟨Pr, st, S, h.bind.imp fun ds s1 P1 H1 l1 S1 h1 P2 J l2 S2 wk A hA => ?_⟩
  rcases lcL_res (g := g) (t := t) (e := e) (vs := own.map (·.2)) ds [] s1 with ⟨accF, sF, hF⟩ | hF
  · rw [hF] at h1
    simp only [R.bind_ok] at h1
    refine ⟨fun i m H => ∃ Pr s acc dacc, Le P2 Pr ∧ Bld X.K Φ Pr H s σ A (own.map (·.2)) dacc acc ∧ m = ds.length - i ∧ lcL g t e (own.map (·.2)) (ds.drop i) dacc s = .ok accF sF, ⟨_, P2, s1, [], [], Le.refl _, Bld.start _ S2 hA, rfl, hF⟩, ?_⟩
    rintro i' m H3 ⟨P3, s3, acc, dacc, l3, B, rfl, hl⟩
    obtain ⟨w1, w2⟩ := wk (Φ.aside A acc) rfl i' P3 _ _ H3 l3 (B.sim.toAside B.aside B.at_)
    by_cases hlt : i' < ds.length
    · right
      obtain ⟨g1, g2⟩ := w2 _ (List.getElem?_eq_getElem hlt)
      rw [List.drop_eq_getElem_cons hlt] at hl
      refine ⟨g1, fun H => ∃ Pr s acc dacc, Le P2 Pr ∧ Bld X.K Φ Pr H s σ A (own.map (·.2)) dacc acc ∧ lcL g t e (own.map (·.2)) (ds.drop (i' + 1)) dacc s = .ok accF sF, fun H' ⟨P4, s4, acc4, dacc4, l4, B4, hl4⟩ => ⟨ds.length - (i' + 1), by omega, P4, s4, acc4, dacc4, l4, B4, rfl, hl4⟩, fun x H4 hy => ?_⟩
      obtain ⟨P4, l4, S4, r4⟩ := g2 x H4 hy
      have pn : P4 A = none := by
        obtain ⟨q1, q2, q3⟩ := S4.ofAside B.aside.h0 B.aside.pr B.sim.le0 B.aside.nl
        exact q2.pr
      exact turn_of hl S4 B.aside.h0 pn B.aside.nl his r4 (Reps.mono l4 _ B.reps) fun P s' acc' dacc' H2 le B' hl' => ⟨P, s', acc', dacc', l3.trans (l4.trans le), B', hl'⟩
    · left
      refine ⟨w1 (by omega), ?_⟩
      rw [List.drop_eq_nil_of_le (by omega)] at hl
      unfold lcL at hl
      cases hl
      obtain ⟨q1, q2⟩ := B.done S1 (l2.trans l3)
      exact h1 P3 H3 (l2.trans l3) q1 _ q2
  · rw [hF] at h1
    exact h1.elim
end
end Dv
namespace Dv
open PySem L2
section
variable {X : Cx} {W : WX}
theorem lcM_cons {g : G} {t : T} {f1 : Ws} {inner : List D → List D → Sto → R (List D)} {vs : List Nat} {d : D} {ds acc accF : List D} {s sF : Sto} (hn : ∀ ds acc s, (∃ a s', inner ds acc s = .ok a s') ∨ inner ds acc s = .bad) (h : lcM g t f1 inner vs (d :: ds) acc s = .ok accF sF) :
    ∃ s1 b s2, g d (wipeS s vs) = some s1 ∧ t s1 = .ok b s2 ∧ ((b = true ∧ ∃ ds1 s3 acc' s4, f1 s2 = .ok ds1 s3 ∧ inner ds1 acc s3 = .ok acc' s4 ∧ lcM g t f1 inner vs ds acc' s4 = .ok accF sF) ∨ (b = false ∧ lcM g t f1 inner vs ds acc s2 = .ok accF sF)) := by
  unfold lcM at h
  split at h
  · cases h
  · rename_i s1 h1
    cases h2 : t s1 with
    | exc c v s' => rw [h2] at h; cases h
    | bad => rw [h2] at h; cases h
    | ok b s2 =>
      rw [h2] at h
      simp only [noX_ok, R.bind_ok] at h
      refine ⟨s1, b, s2, h1, h2, ?_⟩
      cases b with
      | false => exact .inr ⟨rfl, h⟩
      | true =>
        simp only [if_true] at h
        cases h3 : f1 s2 with
        | exc c v s' => rw [h3] at h; cases h
        | bad => rw [h3] at h; cases h
        | ok o s3 =>
          rw [h3] at h
          simp only [noX_ok, R.bind_ok] at h
          rcases hn o acc s3 with ⟨a, s4, h4⟩ | h4
          · rw [h4] at h
            exact .inl ⟨rfl, o, s3, a, s4, rfl, h4, h⟩
          · rw [h4] at h; cases h
theorem lcM_res {g : G} {t : T} {f1 : Ws} {inner : List D → List D → Sto → R (List D)} {vs : List Nat} (hn : ∀ ds acc s, (∃ a s', inner ds acc s = .ok a s') ∨ inner ds acc s = .bad) : ∀ (ds acc : List D) (s : Sto), (∃ a s', lcM g t f1 inner vs ds acc s = .ok a s') ∨ lcM g t f1 inner vs ds acc s = .bad
  | [], acc, s => .inl ⟨_, _, rfl⟩
  | d :: ds, acc, s => by
    unfold lcM
    split
    · exact .inr rfl
    · cases h2 : t _ with
      | exc c v s' => exact .inr rfl
      | bad => exact .inr rfl
      | ok b s2 =>
        simp only [noX_ok, R.bind_ok]
        cases b with
        | false => exact lcM_res hn ds acc s2
        | true =>
          simp only [if_true]
          cases h3 : f1 s2 with
          | exc c v s' => exact .inr rfl
          | bad => exact .inr rfl
          | ok o s3 =>
            simp only [noX_ok, R.bind_ok]
            rcases hn o acc s3 with ⟨a, s4, h4⟩ | h4
            · rw [h4]; exact lcM_res hn ds _ s4
            · rw [h4]; exact .inr rfl
theorem lc2_loop {Φ : Fr0} {P2 H1 : Hp} {s1 sF : Sto} {σ : L2.St} {A : Addr} {J : It} {ds accF : List D} {g g1 : G} {t t1 : T} {f1 : Ws} {e : E} {is is1 vs vs1 : List Nat} {Qr : Hp → Prop} (S2 : Sim X.K Φ P2 s1 σ H1) (hA : H1 A = none) (wk : ∀ Φ' : Fr0, Φ'.lk = Φ.lk → Walks X Φ' J ds P2)
    (hF : lcM g t f1 (lcL g1 t1 e vs1) vs ds [] s1 = .ok accF sF) (his : ∀ i ∈ is, i ∈ vs) (his1 : ∀ i ∈ is1, i ∈ vs1) (hv : ∀ i ∈ vs1, i ∈ vs)
    (hQ : ∀ P3 H3 acc, Le P2 P3 → Bld X.K Φ P3 H3 sF σ A vs accF acc → Qr H3) :
    ∃ W : Nat → Nat → Hp → Prop, (∃ m, W 0 m (upd H1 A (.lst []))) ∧ ∀ i m H, W i m H →
      (J.stop i H ∧ Qr H) ∨ (J.go i H ∧ ∃ Nx : Hp → Prop, (∀ H', Nx H' → ∃ m', m' < m ∧ W (i + 1) m' H') ∧ ∀ x H', J.yld i H x H' → gX X g is x (L2.wipe σ vs) H' fun σ2 H2 => L2.wipe σ2 vs = L2.wipe σ vs ∧ tX X t σ2 H2 fun b H3 =>
        if b = true then wX X f1 σ2 H3 fun J1 H4 => ∃ W1 : Nat → Nat → Hp → Prop, (∃ m, W1 0 m H4) ∧ ∀ j k H, W1 j k H →
          (J1.stop j H ∧ Nx H) ∨ (J1.go j H ∧ ∃ Nx1 : Hp → Prop, (∀ H', Nx1 H' → ∃ k', k' < k ∧ W1 (j + 1) k' H') ∧ ∀ x H', J1.yld j H x H' → gX X g1 is1 x (L2.wipe σ2 vs1) H' fun σ3 H5 => L2.wipe σ3 vs1 = L2.wipe σ2 vs1 ∧ tX X t1 σ3 H5 fun b H6 =>
            if b = true then eX X e σ3 H6 fun y H7 => ∃ acc, H7 A = some (.lst acc) ∧ acc.length < sizeLine ∧ Nx1 (upd H7 A (.lst (acc ++ [y]))) else Nx1 H6)
        else Nx H3) := by
  refine ⟨fun i m H => ∃ Pr s acc dacc, Le P2 Pr ∧ Bld X.K Φ Pr H s σ A vs dacc acc ∧ m = ds.length - i ∧ lcM g t f1 (lcL g1 t1 e vs1) vs (ds.drop i) dacc s = .ok accF sF, ⟨_, P2, s1, [], [], Le.refl _, Bld.start _ S2 hA, rfl, hF⟩, ?_⟩
  rintro i m H3 ⟨P3, s3, acc, dacc, l3, B, rfl, hl⟩
  obtain ⟨w1, w2⟩ := wk (Φ.aside A acc) rfl i P3 _ _ H3 l3 (B.sim.toAside B.aside B.at_)
  by_cases hlt : i < ds.length
  · right
    obtain ⟨g1', g2'⟩ := w2 _ (List.getElem?_eq_getElem hlt)
    rw [List.drop_eq_getElem_cons hlt] at hl
    refine ⟨g1', fun H => ∃ Pr s acc dacc, Le P2 Pr ∧ Bld X.K Φ Pr H s σ A vs dacc acc ∧ lcM g t f1 (lcL g1 t1 e vs1) vs (ds.drop (i + 1)) dacc s = .ok accF sF, fun H' ⟨P4, s4, acc4, dacc4, l4, B4, hl4⟩ => ⟨ds.length - (i + 1), by omega, P4, s4, acc4, dacc4, l4, B4, rfl, hl4⟩, fun x H4 hy => ?_⟩
    obtain ⟨P4, l4, S4, r4⟩ := g2' x H4 hy
    obtain ⟨s5, b, s6, h1, h2, hb⟩ := lcM_cons (fun ds acc s => lcL_res ds acc s) hl
    refine ⟨Φ.aside A acc, P4, wipeS s3 vs, ds[i], s5, S4, r4, h1, fun P5 σ2 l5 only S5 => ?_⟩
    have hw := wipe_only only his
    refine ⟨hw, Φ.aside A acc, P5, s5, S5, ?_⟩
    rw [h2]
    intro P6 H6 l6 S6
    have l36 : Le P3 P6 := l4.trans (l5.trans l6)
    have P3A : P3 A = none := B.aside.pr
    have back : ∀ {Pz : Hp} {sz : Sto} {Hz : Hp} {accz : List V}, Sim X.K (Φ.aside A accz) Pz sz σ2 Hz → Sim X.K Φ Pz sz σ2 Hz ∧ Aside Φ Pz Hz sz σ2 A ∧ Hz A = some (.lst accz) := fun S => S.ofAside B.aside.h0 P3A B.sim.le0 B.aside.nl
    rcases hb with ⟨rfl, ds1, s7, acc', s8, h3, h4, h5⟩ | ⟨rfl, h5⟩
    · refine iteT ⟨Φ.aside A acc, P6, s6, S6, ?_⟩
      rw [h3]
      intro P7 H7 l7 S7 P8 J1 l8 S8 wk1
      have l38 : Le P3 P8 := l36.trans (l7.trans l8)
      obtain ⟨q1, q2, q3⟩ := back S8
      refine ⟨fun j k H => ∃ Pr s acc dacc, Le P8 Pr ∧ Bld X.K Φ Pr H s σ2 A vs1 dacc acc ∧ k = ds1.length - j ∧ lcL g1 t1 e vs1 (ds1.drop j) dacc s = .ok acc' s8, ⟨_, P8, s7, acc, dacc, Le.refl _, ⟨q1.wipe vs1, q2.wipe vs1, q3, Reps.mono l38 _ B.reps⟩, rfl, h4⟩, ?_⟩
      rintro j k H9 ⟨P9, s9, acc9, dacc9, l9, B9, rfl, hl9⟩
      obtain ⟨v1, v2⟩ := wk1 (Φ.aside A acc9) rfl j P9 _ _ H9 l9 (B9.sim.toAside B9.aside B9.at_)
      by_cases hlt1 : j < ds1.length
      · right
        obtain ⟨u1, u2⟩ := v2 _ (List.getElem?_eq_getElem hlt1)
        rw [List.drop_eq_getElem_cons hlt1] at hl9
        refine ⟨u1, fun H => ∃ Pr s acc dacc, Le P8 Pr ∧ Bld X.K Φ Pr H s σ2 A vs1 dacc acc ∧ lcL g1 t1 e vs1 (ds1.drop (j + 1)) dacc s = .ok acc' s8, fun H' ⟨P4, s4, acc4, dacc4, l4, B4, hl4⟩ => ⟨ds1.length - (j + 1), by omega, P4, s4, acc4, dacc4, l4, B4, rfl, hl4⟩, fun x H10 hy1 => ?_⟩
        obtain ⟨P10, l10, S10, r10⟩ := u2 x H10 hy1
        have pn : P10 A = none := by
          obtain ⟨q1, q2, q3⟩ := S10.ofAside B9.aside.h0 B9.aside.pr B9.sim.le0 B9.aside.nl
          exact q2.pr
        exact turn_of hl9 S10 B9.aside.h0 pn B9.aside.nl his1 r10 (Reps.mono l10 _ B9.reps) fun P s' acc' dacc' H2 le B' hl' => ⟨P, s', acc', dacc', l9.trans (l10.trans le), B', hl'⟩
      · left
        refine ⟨v1 (by omega), ?_⟩
        rw [List.drop_eq_nil_of_le (by omega)] at hl9
        unfold lcL at hl9
        cases hl9
        have z1 := B9.sim.wipe vs
        rw [wipeS_sub hv, wipe_sub hv, hw] at z1
        have z2 := B9.aside.wipe (H' := H9) vs
        rw [wipeS_sub hv, wipe_sub hv, hw] at z2
        exact ⟨P9, _, acc9, _, l3.trans (l38.trans l9), ⟨z1, z2, B9.at_, B9.reps⟩, h5⟩
    · obtain ⟨q1, q2, q3⟩ := back S6
      refine iteF ⟨P6, s6, acc, dacc, l3.trans l36, ⟨by rw [← hw]; exact q1.wipe vs, by rw [← hw]; exact q2.wipe vs, q3, Reps.mono l36 _ B.reps⟩, h5⟩
  · left
    refine ⟨w1 (by omega), ?_⟩
    rw [List.drop_eq_nil_of_le (by omega)] at hl
    unfold lcM at hl
    cases hl
    exact hQ P3 H3 acc l3 B
theorem se_lc2 {elt tg iter tg1 iter1 : Expr} {ifs ifs1 : List Expr} {scope : Scope} {own : List (Str × Nat)} {pos : Pos} {f f1 : Ws} {g g1 : G} {t t1 : T} {e : E} {is is1 vs vs1 : List Nat} (hc : X.calm = true) (hN : X.N.Nodup) (hi : SI X W tg iter f) (ok : BlkOk X.N X.env.scope scope own) (hv : own.map (·.2) = vs) (his : ∀ i ∈ is, i ∈ vs) (his1 : ∀ i ∈ is1, i ∈ vs1) (hv1 : ∀ i ∈ vs1, i ∈ vs)
    (hg : ∀ (s : Shared) (H : Hp) (C : Addr) (cl : List (Str × Addr)) (fp : List Addr), SG (X.blk s H scope (compEnvC scope cl C X.env) fp) tg g is) (ht : ∀ (s : Shared) (H : Hp) (C : Addr) (cl : List (Str × Addr)) (fp : List Addr), STs (X.blk s H scope (compEnvC scope cl C X.env) fp) ifs t)
    (hi1 : ∀ (s : Shared) (H : Hp) (C : Addr) (cl : List (Str × Addr)) (fp : List Addr), SI (X.blk s H scope (compEnvC scope cl C X.env) fp) WF tg1 iter1 f1)
    (hg1 : ∀ (s : Shared) (H : Hp) (C : Addr) (cl : List (Str × Addr)) (fp : List Addr), SG (X.blk s H scope (compEnvC scope cl C X.env) fp) tg1 g1 is1) (ht1 : ∀ (s : Shared) (H : Hp) (C : Addr) (cl : List (Str × Addr)) (fp : List Addr), STs (X.blk s H scope (compEnvC scope cl C X.env) fp) ifs1 t1)
    (he : ∀ (s : Shared) (H : Hp) (C : Addr) (cl : List (Str × Addr)) (fp : List Addr), SE (X.blk s H scope (compEnvC scope cl C X.env) fp) WF elt e) (hs : ∀ x, foldedSetIterable iter X.env x = pure x := by intro _; rfl) (hs1 : ∀ env x, foldedSetIterable iter1 env x = pure x := by intro _ _; rfl) :
    SE X W (.ListComp elt [⟨tg, iter, ifs, 0⟩, ⟨tg1, iter1, ifs1, 0⟩] scope pos) (sLc2 f g t f1 g1 t1 e vs vs1) := by
  subst hv
  refine ⟨fun Φ => peImp (pe_lc2 (g := gX X g is) (tt := tX X t) (te := eX X e) (g1 := gX X g1 is1) (tt1 := tX X t1) (wi1 := wX X f1) (vs1 := vs1) hc hN (hi.pi Φ) ok hv1 (fun s H C cl fp => pg_X (hg s H C cl fp)) (fun s H C cl fp => (ht s H C cl fp).pts) (fun s H C cl fp => pi_X (hi1 s H C cl fp)) (fun s H C cl fp => pg_X (hg1 s H C cl fp)) (fun s H C cl fp => (ht1 s H C cl fp).pts) (fun s H C cl fp => pe_X (he s H C cl fp)) hs hs1) fun σ H Q h => ?_⟩
  obtain ⟨Pr, st, S, h⟩ := h
  refine ⟨Pr, st, S, h.bind.imp fun ds s1 P1 H1 l1 S1 h1 P2 J l2 S2 wk A hA => ?_⟩
  rcases lcM_res (g := g) (t := t) (f1 := f1) (vs := own.map (·.2)) (fun ds acc s => lcL_res (g := g1) (t := t1) (e := e) (vs := vs1) ds acc s) ds [] s1 with ⟨accF, sF, hF⟩ | hF
  · rw [hF] at h1
    simp only [R.bind_ok] at h1
    exact lc2_loop S2 hA wk hF his his1 hv1 fun P3 H3 acc l3 B => by
      obtain ⟨q1, q2⟩ := B.done S1 (l2.trans l3)
      exact h1 P3 H3 (l2.trans l3) q1 _ q2
  · rw [hF] at h1
    exact h1.elim
theorem ss_setLc2 {i : Nat} {y : Str} {py : Pos} {elt tg iter tg1 iter1 : Expr} {ifs ifs1 : List Expr} {scope : Scope} {own : List (Str × Nat)} {pos spos : Pos} {f f1 : Ws} {g g1 : G} {t t1 : T} {e : E} {is is1 vs vs1 : List Nat} (hc : X.calm = true) (hN : X.N.Nodup) (hy : X.N[i]? = some y) (hyl : X.env.scope.names.lookup y = some .local)
    (hsw : swapsWith (.ListComp elt [⟨tg, iter, ifs, 0⟩, ⟨tg1, iter1, ifs1, 0⟩] scope pos) (some (.Name y py)) spos.line X.env = pure true) (hi : SI X W tg iter f) (ok : BlkOk X.N X.env.scope scope own) (hv : own.map (·.2) = vs) (his : ∀ i ∈ is, i ∈ vs) (his1 : ∀ i ∈ is1, i ∈ vs1) (hv1 : ∀ i ∈ vs1, i ∈ vs)
    (hg : ∀ (s : Shared) (H : Hp) (C : Addr) (cl : List (Str × Addr)) (fp : List Addr), SG (X.blk s H scope (compEnvC scope cl C X.env) fp) tg g is) (ht : ∀ (s : Shared) (H : Hp) (C : Addr) (cl : List (Str × Addr)) (fp : List Addr), STs (X.blk s H scope (compEnvC scope cl C X.env) fp) ifs t)
    (hi1 : ∀ (s : Shared) (H : Hp) (C : Addr) (cl : List (Str × Addr)) (fp : List Addr), SI (X.blk s H scope (compEnvC scope cl C X.env) fp) WF tg1 iter1 f1)
    (hg1 : ∀ (s : Shared) (H : Hp) (C : Addr) (cl : List (Str × Addr)) (fp : List Addr), SG (X.blk s H scope (compEnvC scope cl C X.env) fp) tg1 g1 is1) (ht1 : ∀ (s : Shared) (H : Hp) (C : Addr) (cl : List (Str × Addr)) (fp : List Addr), STs (X.blk s H scope (compEnvC scope cl C X.env) fp) ifs1 t1)
    (he : ∀ (s : Shared) (H : Hp) (C : Addr) (cl : List (Str × Addr)) (fp : List Addr), SE (X.blk s H scope (compEnvC scope cl C X.env) fp) WF elt e) (hs : ∀ x, foldedSetIterable iter X.env x = pure x := by intro _; rfl) (hs1 : ∀ env x, foldedSetIterable iter1 env x = pure x := by intro _ _; rfl) :
    SS X W (.Assign [.Name y py] (.ListComp elt [⟨tg, iter, ifs, 0⟩, ⟨tg1, iter1, ifs1, 0⟩] scope pos) spos) (sAsg i (sLc2 f g t f1 g1 t1 e vs vs1)) := by
  subst hv
  refine ⟨fun Φ => psImp (ps_setLc2 (i := i) (g := gX X g is) (tt := tX X t) (te := eX X e) (g1 := gX X g1 is1) (tt1 := tX X t1) (wi1 := wX X f1) (vs1 := vs1) hc hN hy hyl hsw (hi.pi Φ) ok hv1 (fun s H C cl fp => pg_X (hg s H C cl fp)) (fun s H C cl fp => (ht s H C cl fp).pts) (fun s H C cl fp => pi_X (hi1 s H C cl fp)) (fun s H C cl fp => pg_X (hg1 s H C cl fp)) (fun s H C cl fp => (ht1 s H C cl fp).pts) (fun s H C cl fp => pe_X (he s H C cl fp)) hs hs1) fun D σ H h => ?_⟩
  obtain ⟨Pr, st, S, h⟩ := h
  have h : Aft X Φ W Pr σ (sLc2 f g t f1 g1 t1 e (own.map (·.2)) vs1 st) fun o st' Pr' H' => ∀ v, RepO X.K Φ Pr' H' st' σ o v → D.nx (σ.set i (some v)) H' := (kR_of trivial h).imp fun o s1 P1 H1 l1 S1 h1 v hv => asgO_of S1 hv h1
  refine ⟨Pr, st, S, h.bind.imp fun ds s1 P1 H1 l1 S1 h1 P2 J l2 S2 wk A hA => ?_⟩
  rcases lcM_res (g := g) (t := t) (f1 := f1) (vs := own.map (·.2)) (fun ds acc s => lcL_res (g := g1) (t := t1) (e := e) (vs := vs1) ds acc s) ds [] s1 with ⟨accF, sF, hF⟩ | hF
  · rw [hF] at h1
    simp only [R.bind_ok] at h1
    exact lc2_loop S2 hA wk hF his his1 hv1 fun P3 H3 acc l3 B => by
      obtain ⟨q1, q2⟩ := B.done S1 (l2.trans l3)
      exact h1 P3 H3 (l2.trans l3) q1 _ q2
  · rw [hF] at h1
    exact h1.elim
end
end Dv
namespace Dv
open PySem L2
def toP (d : D) : PyData := (D.toPy d).getD .none
theorem toP_of {d : D} {p : PyData} (h : D.toPy d = some p) : toP d = p := by unfold toP; rw [h]; rfl
def nonD : D → Bool
  | .non => true
  | _ => false
def ltOk (d e : D) : Bool := D.isPy d && D.isPy e && PySem.W.alike (toP d) (toP e) && !nonD d && !nonD e && decide (min (D.dep d) (D.dep e) ≤ DEEP)
def ltB (d e : D) : Bool := PySem.W.dataLt (toP d) (toP e)
def ltD (d e : D) : Option Opd := if ltOk d e then some (.val (.bl (ltB d e))) else none
def gtD (d e : D) : Option Opd := if ltOk d e then some (.val (.bl (ltB e d))) else none
def leD (d e : D) : Option Opd := if ltOk d e then some (.val (.bl (!ltB e d))) else none
def geD (d e : D) : Option Opd := if ltOk d e then some (.val (.bl (!ltB d e))) else none
theorem toPy_non {d : D} (h : D.toPy d = some .none) : nonD d = true := by
  cases d <;> unfold D.toPy at h <;> first | rfl | (simp only [Option.map_eq_some_iff] at h; obtain ⟨_, _, z⟩ := h; cases z) | cases h
section
variable {X : Cx} {n : Nat}
theorem ltOk_py {K : PySem.W.Frag} {Φ : Fr0} {Pr H : Hp} {st : Sto} {σ : L2.St} {d e : D} {x y : V} (S : Sim K Φ Pr st σ H) (h : ltOk d e = true) (px : Pk K Pr H d x) (py : Pk K Pr H e y) :
    Dp K H x (toP d) ∧ Dp K H y (toP e) ∧ PySem.W.alike (toP d) (toP e) = true ∧ toP d ≠ .none ∧ toP e ≠ .none ∧ min (toP d).depth (toP e).depth ≤ 150 := by
  unfold ltOk at h
  simp only [Bool.and_eq_true, decide_eq_true_eq, Bool.not_eq_true'] at h
  obtain ⟨⟨⟨⟨⟨h1, h2⟩, h3⟩, h4⟩, h5⟩, h6⟩ := h
  obtain ⟨p1, e1, d1, c1, n1⟩ := pk_py S h1 px
  obtain ⟨p2, e2, d2, c2, n2⟩ := pk_py S h2 py
  rw [toP_of e1, toP_of e2] at h3 ⊢
  refine ⟨d1, d2, h3, fun z => ?_, fun z => ?_, by rw [n1, n2]; exact h6⟩
  · rw [z] at e1; rw [toPy_non e1] at h4; cases h4
  · rw [z] at e2; rw [toPy_non e2] at h5; cases h5
theorem os_cmpG {op : CmpOp} {G : PyData → PyData → Bool} {F : D → D → Option Opd} (hF : ∀ d e, F d e = if ltOk d e then some (.val (.bl (G (toP d) (toP e)))) else none)
    (hq : ∀ {s : Shared} {a b : Value} {da db : PyData} {as bs : List Addr} {Q : Value → Shared → Prop}, Reads s.heap a da as → Reads s.heap b db bs → PySem.W.alike da db = true → da ≠ .none → X.A.units + min da.depth db.depth < cLine → Q (.bool (G da db)) s → wpAny (model X.prog X.w) X.A (compareOp op a b) Q X.xe s)
    (hr : Room n X.A) : OpS X (compareOp op) F := by
  refine ⟨fun x y H Q => ∃ d e, Dp X.K H x d ∧ Dp X.K H y e ∧ PySem.W.alike d e = true ∧ d ≠ .none ∧ min d.depth e.depth ≤ 150 ∧ Q (.bl (G d e)) H, ?_, ?_⟩
  · intro pins s σ H x y v u Q I rx ry h
    obtain ⟨d, e, hd, he, ha, hn, hm, q⟩ := h
    obtain ⟨as, r1⟩ := Dp.reads I d x v hd rx
    obtain ⟨bs, r2⟩ := Dp.reads I e y u he ry
    exact hq r1 r2 ha hn (by have := room200 hr; omega) ⟨.bl _, H, I, rfl, q⟩
  · intro Φ Pr st σ H dx dy x y o Q S px py e q
    rw [hF] at e
    split at e
    · rename_i h
      cases e
      obtain ⟨d1, d2, h3, h4, h5, h6⟩ := ltOk_py S h px py
      exact ⟨_, _, d1, d2, h3, h4, h6, q Pr H _ (Le.refl _) S ro_bl⟩
    · cases e
theorem os_lt (hr : Room n X.A) : OpS X (compareOp .Lt) ltD := os_cmpG (G := fun a b => PySem.W.dataLt a b) (fun _ _ => rfl) (fun r1 r2 a h u q => PySem.W.lt_data r1 r2 a h u q) hr
theorem os_gt (hr : Room n X.A) : OpS X (compareOp .Gt) gtD := os_cmpG (G := fun a b => PySem.W.dataLt b a) (fun _ _ => rfl) (fun r1 r2 a h u q => PySem.W.gt_data r1 r2 a h u q) hr
theorem os_le (hr : Room n X.A) : OpS X (compareOp .LtE) leD := os_cmpG (G := fun a b => !PySem.W.dataLt b a) (fun _ _ => rfl) (fun r1 r2 a h u q => PySem.W.le_data r1 r2 a h u q) hr
theorem os_ge (hr : Room n X.A) : OpS X (compareOp .GtE) geD := os_cmpG (G := fun a b => !PySem.W.dataLt a b) (fun _ _ => rfl) (fun r1 r2 a h u q => PySem.W.ge_data r1 r2 a h u q) hr
def inOk (d : D) (l : List D) : Bool := D.isPy d && D.isPyAll l && decide (min (D.depAll l) (D.dep d) ≤ DEEP)
def inB (d : D) (l : List D) : Bool := l.any fun z => eqvD z d
def one? (x : Str) : Option Nat := match x.cps.toList with
  | [c] => some c
  | _ => none
def inG (g : Bool → Bool) (x y : D) : Option Opd := match y with
  | .lst l => if inOk x l then some (.val (.bl (g (inB x l)))) else none
  | .tup l => if inOk x l then some (.val (.bl (g (inB x l)))) else none
  | .str z => match x with
    | .str c => (one? c).bind fun k => some (.val (.bl (g (decide (k ∈ z.cps.toList)))))
    | _ => none
  | .dct ks _ => (inKs x ks).map fun b => .val (.bl (g b))
  | _ => none
def inD := inG id
def ninD := inG not
theorem one_str {x : Str} {c : Nat} (h : one? x = some c) : x = ⟨#[c]⟩ := by
  unfold one? at h
  split at h
  · rename_i k e
    cases h
    cases x with
    | mk a => cases a with | mk l => simp only at e; subst e; rfl
  · cases h
theorem any_toPy {d : D} {p : PyData} (h : D.toPy d = some p) : ∀ {l : List D} {ps : List PyData}, D.toPyAll l = some ps → (ps.any fun y => PyData.eqv y p) = inB d l
  | [], _, e => by cases e; rfl
  | x :: l, _, e => by
    unfold D.toPyAll at e
    split at e
    · rename_i q r h1 h2
      cases e
      unfold inB
      rw [List.any_cons, List.any_cons, any_toPy h h2, eqv_py x d h1 h]
      rfl
    · cases e
theorem os_inG {op : CmpOp} {g : Bool → Bool} (hr : Room n X.A) (hk : OpR X (compareOp op) (rDIn g X.K)) (hs : OpR X (compareOp op) (fun x y H Q => ∃ (c : Nat) (z : Str), x = .str ⟨#[c]⟩ ∧ y = .str z ∧ Q (.bl (g (decide (c ∈ z.cps.toList)))) H))
    (hl : ∀ {s : Shared} {c x : Value} {xs : List PyData} {d : PyData} {as bs : List Addr} {Q : Value → Shared → Prop}, Reads s.heap c (.list xs) as → Reads s.heap x d bs → PyData.canLayAll0 xs = true → d.canLay0 = true → X.A.units + 1 + min (PyData.depthAll xs) d.depth < cLine → Q (.bool (g (xs.any fun y => PyData.eqv y d))) s → wpAny (model X.prog X.w) X.A (compareOp op x c) Q X.xe s)
    (ht : ∀ {s : Shared} {c x : Value} {xs : List PyData} {d : PyData} {as bs : List Addr} {Q : Value → Shared → Prop}, Reads s.heap c (.tuple xs) as → Reads s.heap x d bs → PyData.canLayAll0 xs = true → d.canLay0 = true → X.A.units + 1 + min (PyData.depthAll xs) d.depth < cLine → Q (.bool (g (xs.any fun y => PyData.eqv y d))) s → wpAny (model X.prog X.w) X.A (compareOp op x c) Q X.xe s) :
    OpS X (compareOp op) (inG g) := by
  refine ⟨fun x y H Q => (∃ d ps, Dp X.K H x d ∧ (Dp X.K H y (.list ps) ∨ Dp X.K H y (.tuple ps)) ∧ PyData.canLayAll0 ps = true ∧ d.canLay0 = true ∧ min (PyData.depthAll ps) d.depth ≤ 150 ∧ Q (.bl (g (ps.any fun y => PyData.eqv y d))) H) ∨
    (∃ (c : Nat) (z : Str), x = .str ⟨#[c]⟩ ∧ y = .str z ∧ Q (.bl (g (decide (c ∈ z.cps.toList)))) H) ∨ rDIn g X.K x y H Q, ?_, ?_⟩
  · intro pins s σ H x y v u Q I rx ry h
    rcases h with ⟨d, ps, hd, he, c1, c2, hm, q⟩ | h | h
    · obtain ⟨as, r1⟩ := Dp.reads I d x v hd rx
      rcases he with he | he
      · obtain ⟨bs, r2⟩ := Dp.reads I _ y u he ry
        exact hl r2 r1 c1 c2 (by have := room200 hr; omega) ⟨.bl _, H, I, rfl, q⟩
      · obtain ⟨bs, r2⟩ := Dp.reads I _ y u he ry
        exact ht r2 r1 c1 c2 (by have := room200 hr; omega) ⟨.bl _, H, I, rfl, q⟩
    · exact hs pins s σ H x y v u Q I rx ry h
    · exact hk pins s σ H x y v u Q I rx ry h
  · intro Φ Pr st σ H dx dy x y o Q S px py e q
    have go : ∀ {l : List D} {xs : List V}, Reps X.K Pr l xs → inOk dx l = true → ∃ p ps, D.toPy dx = some p ∧ D.toPyAll l = some ps ∧ Dp X.K H x p ∧ DpAll X.K H xs ps ∧ PyData.canLayAll0 ps = true ∧ p.canLay0 = true ∧ min (PyData.depthAll ps) p.depth ≤ 150 := fun {l xs} rl h => by
      unfold inOk at h
      simp only [Bool.and_eq_true, decide_eq_true_eq] at h
      obtain ⟨p, e1, d1, c1, n1⟩ := pk_py S h.1.1 px
      obtain ⟨ps, e2, d2, c2, n2⟩ := toPyAll_of S l h.1.2 rl
      exact ⟨p, ps, e1, e2, d1, d2, c2, c1, by rw [n1, n2]; exact h.2⟩
    unfold inG at e
    split at e
    · split at e
      · rename_i l h
        cases e
        obtain ⟨a, xs, rfl, r, rs⟩ := py.lst S
        obtain ⟨p, ps, e1, e2, d1, d2, c2, c1, m⟩ := go rs h
        refine .inl ⟨p, ps, d1, .inl (.lst (.inl r) d2), c2, c1, m, ?_⟩
        rw [any_toPy e1 e2]
        exact q Pr H _ (Le.refl _) S ro_bl
      · cases e
    · split at e
      · rename_i l h
        cases e
        obtain ⟨a, xs, rfl, r, rs⟩ := py.tup S
        obtain ⟨p, ps, e1, e2, d1, d2, c2, c1, m⟩ := go rs h
        refine .inl ⟨p, ps, d1, .inr (.tup r d2), c2, c1, m, ?_⟩
        rw [any_toPy e1 e2]
        exact q Pr H _ (Le.refl _) S ro_bl
      · cases e
    · split at e
      · rename_i z _ c
        cases h : one? c with
        | none => rw [h] at e; cases e
        | some k =>
          rw [h] at e
          cases e
          cases py.str
          have := px.str
          rw [one_str h] at this
          subst this
          exact .inr (.inl ⟨k, z, rfl, rfl, q Pr H _ (Le.refl _) S ro_bl⟩)
      · cases e
    · rename_i ks vs
      simp only [Option.map_eq_some_iff] at e
      obtain ⟨b, h, rfl⟩ := e
      exact .inr (.inr (dIn_of S px py h (q Pr H _ (Le.refl _) S ro_bl)))
    · cases e
theorem os_in (hr : Room n X.A) : OpS X (compareOp .In) inD := os_inG (g := id) hr (op_dIn (by have := room200 hr; omega)) op_in_sign (fun r1 r2 a h u q => SeqAt.in_list_reads r1 r2 a h u q) (fun r1 r2 a h u q => SeqAt.in_tuple_reads r1 r2 a h u q)
theorem os_nin (hr : Room n X.A) : OpS X (compareOp .NotIn) ninD := os_inG (g := not) hr (op_dNin (by have := room200 hr; omega)) op_notIn_sign (fun r1 r2 a h u q => SeqAt.notIn_list_reads r1 r2 a h u q) (fun r1 r2 a h u q => SeqAt.notIn_tuple_reads r1 r2 a h u q)
def isNe : D → Bool
  | .tup (_ :: _) => true
  | _ => false
def isTp : D → Bool
  | .tup _ => true
  | _ => false
def sortL (l : List D) : List D := l.mergeSort (PySem.W.dataLe false toP)
def sortOk (l : List D) : Bool := D.isPyAll l && decide (D.depAll l ≤ DEEP) && (l.all fun d => l.all fun e => PySem.W.alike (toP d) (toP e)) && ((l.all isNe) || (l.all fun d => !isTp d && !nonD d)) && decide (l.length ≤ LIM)
def sortD : List D → Option Opd
  | [.lst l] => if sortOk l then some (.own (.lst (sortL l))) else none
  | [.tup _] => none
  | _ => none
theorem dep_mem : ∀ {l : List D} {d : D}, d ∈ l → D.dep d ≤ D.depAll l
  | d :: l, e, h => by
    unfold D.depAll
    rcases List.mem_cons.mp h with rfl | h
    · omega
    · have := dep_mem h; omega
theorem isPy_mem : ∀ {l : List D} {d : D}, D.isPyAll l = true → d ∈ l → D.isPy d = true
  | d :: l, e, h, m => by
    unfold D.isPyAll at h
    rw [Bool.and_eq_true] at h
    rcases List.mem_cons.mp m with rfl | m
    · exact h.1
    · exact isPy_mem h.2 m
theorem toPy_isPy : ∀ {d : D}, D.isPy d = true → D.toPy d = some (toP d) := by
  intro d h
  have : ∀ n, (∀ d : D, sizeOf d < n → D.isPy d = true → ∃ p, D.toPy d = some p) ∧ (∀ l : List D, sizeOf l < n → D.isPyAll l = true → ∃ ps, D.toPyAll l = some ps) := by
    intro n
    induction n with
    | zero => exact ⟨fun _ h => absurd h (Nat.not_lt_zero _), fun _ h => absurd h (Nat.not_lt_zero _)⟩
    | succ n ih =>
      refine ⟨fun d hs h => ?_, fun l hs h => ?_⟩
      · cases d with
        | tup l =>
          obtain ⟨ps, e⟩ := ih.2 l (by simp at hs; omega) (by unfold D.isPy at h; exact h)
          exact ⟨.tuple ps, by unfold D.toPy; rw [e]; rfl⟩
        | lst l =>
          obtain ⟨ps, e⟩ := ih.2 l (by simp at hs; omega) (by unfold D.isPy at h; exact h)
          exact ⟨.list ps, by unfold D.toPy; rw [e]; rfl⟩
        | non => exact ⟨_, rfl⟩
        | bl b => exact ⟨_, rfl⟩
        | int b => exact ⟨_, rfl⟩
        | str b => exact ⟨_, rfl⟩
        | dct a b => unfold D.isPy at h; cases h
        | exc a b => unfold D.isPy at h; cases h
        | ty a => unfold D.isPy at h; cases h
        | cls a => unfold D.isPy at h; cases h
        | scr a => unfold D.isPy at h; cases h
      · cases l with
        | nil => exact ⟨[], rfl⟩
        | cons d l =>
          unfold D.isPyAll at h
          rw [Bool.and_eq_true] at h
          obtain ⟨p, e⟩ := ih.1 d (by simp at hs; omega) h.1
          obtain ⟨ps, e2⟩ := ih.2 l (by simp at hs; omega) h.2
          exact ⟨p :: ps, by unfold D.toPyAll; rw [e, e2]⟩
  obtain ⟨p, e⟩ := (this (sizeOf d + 1)).1 d (by omega) h
  rw [toP_of e]; exact e
theorem dpAll_each {K : PySem.W.Frag} {Φ : Fr0} {Pr H : Hp} {st : Sto} {σ : L2.St} (S : Sim K Φ Pr st σ H) : ∀ {l : List D} {xs : List V}, D.isPyAll l = true → Reps K Pr l xs → DpAll K H xs (l.map toP) := by
  intro l xs h r
  obtain ⟨ps, e, dp, _, _⟩ := toPyAll_of S l h r
  have : ∀ {l : List D} {ps : List PyData}, D.isPyAll l = true → D.toPyAll l = some ps → l.map toP = ps := by
    intro l
    induction l with
    | nil => intro ps _ e; cases e; rfl
    | cons d l ih =>
      intro ps h e
      unfold D.isPyAll at h
      rw [Bool.and_eq_true] at h
      unfold D.toPyAll at e
      split at e
      · rename_i p r h1 h2
        cases e
        rw [List.map_cons, toP_of h1, ih h.2 h2]
      · cases e
  rw [this h e]; exact dp
def StR (K : PySem.W.Frag) (Pr : Hp) (v : Value) (d : D) : Prop := ∃ x, RelV x v ∧ Rep K Pr d x
theorem each_in {K : PySem.W.Frag} {Pr : Hp} : ∀ {l : List D} {xs : List V} {us : List Value}, Reps K Pr l xs → Vals xs us → PySem.W.EachIs (StR K Pr) us l
  | [], _, _, r, v => by unfold Reps at r; subst r; cases v; exact .nil
  | d :: l, _, _, r, v => by
    unfold Reps at r
    obtain ⟨x, t, rfl, r1, r2⟩ := r
    cases v with
    | cons h1 h2 => exact .cons ⟨x, h1, r1⟩ (each_in r2 h2)
theorem each_out {K : PySem.W.Frag} {Pr : Hp} : ∀ {l : List D} {us : List Value}, PySem.W.EachIs (StR K Pr) us l → ∃ xs, Reps K Pr l xs ∧ Vals xs us
  | [], _, h => by cases h; exact ⟨[], Reps.nil, .nil⟩
  | d :: l, _, h => by
    cases h with
    | cons h1 h2 =>
      obtain ⟨x, r1, r2⟩ := h1
      obtain ⟨xs, q1, q2⟩ := each_out h2
      exact ⟨x :: xs, Reps.cons r2 q1, .cons r1 q2⟩
theorem each_reads {s : Shared} {pins : List (Addr × Obj)} {σ : L2.St} {H : Hp} (I : Inv X pins σ H s) : ∀ {l : List D} {xs : List V} {us : List Value}, DpAll X.K H xs (l.map toP) → Vals xs us → PySem.W.EachIs (fun v d => ∃ as, Reads s.heap v (toP d) as) us l
  | [], _, _, r, v => by cases r; cases v; exact .nil
  | d :: l, _, _, r, v => by
    cases r with
    | cons r1 r2 =>
      cases v with
      | cons h1 h2 => exact .cons (Dp.reads I _ _ _ r1 h1) (each_reads I r2 h2)
structure SrtOk (l : List D) : Prop where
  py : D.isPyAll l = true
  dp : ∀ d ∈ l, D.dep d ≤ 150
  al : PySem.W.AllAlike (l.map toP)
  kd : PySem.W.Sortable (l.map toP)
  len : l.length ≤ sizeLine
theorem toP_ne {d : D} (hp : D.isPy d = true) (h : isNe d = true) : ∃ x r, toP d = .tuple (x :: r) := by
  unfold isNe at h
  split at h
  · rename_i a l
    have e := toPy_isPy hp
    unfold D.toPy at e
    simp only [Option.map_eq_some_iff] at e
    obtain ⟨ps, e1, e2⟩ := e
    unfold D.toPyAll at e1
    split at e1
    · cases e1; exact ⟨_, _, e2.symm⟩
    · cases e1
  · cases h
theorem toP_ot {d : D} (hp : D.isPy d = true) (h : (!isTp d && !nonD d) = true) : toP d ≠ .none ∧ ∀ xs, toP d ≠ .tuple xs := by
  have e := toPy_isPy hp
  rw [Bool.and_eq_true] at h
  refine ⟨fun z => ?_, fun xs z => ?_⟩
  · rw [z] at e; rw [toPy_non e] at h; exact absurd h.2 (by decide)
  · rw [z] at e
    cases d with
    | tup l => exact absurd h.1 (by simp [isTp])
    | lst l => unfold D.toPy at e; simp only [Option.map_eq_some_iff] at e; obtain ⟨_, _, z⟩ := e; cases z
    | _ => unfold D.toPy at e; cases e
theorem srtOk_of {l : List D} (h : sortOk l = true) : SrtOk l := by
  unfold sortOk at h
  simp only [Bool.and_eq_true, decide_eq_true_eq] at h
  obtain ⟨⟨⟨⟨h1, h2⟩, h3⟩, h4⟩, h5⟩ := h
  refine ⟨h1, fun d hd => Nat.le_trans (dep_mem hd) h2, fun d hd e he => ?_, ?_, by rw [lim_eq]; exact h5⟩
  · obtain ⟨a, ma, rfl⟩ := List.mem_map.mp hd
    obtain ⟨b, mb, rfl⟩ := List.mem_map.mp he
    exact List.all_eq_true.mp (List.all_eq_true.mp h3 a ma) b mb
  · rw [Bool.or_eq_true] at h4
    rcases h4 with h4 | h4
    · refine .inl fun d hd => ?_
      obtain ⟨a, ma, rfl⟩ := List.mem_map.mp hd
      exact toP_ne (isPy_mem h1 ma) (List.all_eq_true.mp h4 a ma)
    · refine .inr fun d hd => ?_
      obtain ⟨a, ma, rfl⟩ := List.mem_map.mp hd
      exact toP_ot (isPy_mem h1 ma) (List.all_eq_true.mp h4 a ma)
theorem dep_toP {d : D} (h : D.isPy d = true) : (toP d).depth = D.dep d := by
  have : ∀ n, (∀ d : D, sizeOf d < n → ∀ p, D.toPy d = some p → p.depth = D.dep d) ∧ (∀ l : List D, sizeOf l < n → ∀ ps, D.toPyAll l = some ps → PyData.depthAll ps = D.depAll l) := by
    intro n
    induction n with
    | zero => exact ⟨fun _ h => absurd h (Nat.not_lt_zero _), fun _ h => absurd h (Nat.not_lt_zero _)⟩
    | succ n ih =>
      refine ⟨fun d hs p e => ?_, fun l hs ps e => ?_⟩
      · cases d with
        | tup l =>
          unfold D.toPy at e
          simp only [Option.map_eq_some_iff] at e
          obtain ⟨ps, e1, rfl⟩ := e
          unfold PyData.depth D.dep
          rw [ih.2 l (by simp at hs; omega) _ e1]
        | lst l =>
          unfold D.toPy at e
          simp only [Option.map_eq_some_iff] at e
          obtain ⟨ps, e1, rfl⟩ := e
          unfold PyData.depth D.dep
          rw [ih.2 l (by simp at hs; omega) _ e1]
        | non => cases e; rfl
        | bl b => cases e; rfl
        | int b => cases e; rfl
        | str b => cases e; rfl
        | _ => unfold D.toPy at e; cases e
      · cases l with
        | nil => cases e; rfl
        | cons d l =>
          unfold D.toPyAll at e
          split at e
          · rename_i p r h1 h2
            cases e
            unfold PyData.depthAll D.depAll
            rw [ih.1 d (by simp at hs; omega) _ h1, ih.2 l (by simp at hs; omega) _ h2]
          · cases e
  exact (this (sizeOf d + 1)).1 d (by omega) _ (toPy_isPy h)
theorem cs_sorted (hr : Room n X.A) : CallS X (.builtin "sorted") sortD := by
  refine ⟨fun vs H Q => ∃ (a : Addr) (xs : List V) (l : List D) (Pr : Hp), vs = [V.ref a] ∧ (SqL X.K H a xs ∨ False) ∧ SrtOk l ∧ Reps X.K Pr l xs ∧ DpAll X.K H xs (l.map toP) ∧
    ∀ (ys : List V) (p : Addr), Reps X.K Pr (sortL l) ys → H p = none → Q (.ref p) (upd H p (.lst ys)), ?_, ?_⟩
  · intro pins s σ H vs us Q I r h
    obtain ⟨a, xs, l, Pr, rfl, hs, ok, rp, dp, q⟩ := h
    rcases hs with hs | hs
    · obtain ⟨its, rv, hl, hz⟩ := I.list hs
      rw [Vals.ref1 r]
      refine PySem.W.sorted_data (R := StR X.K Pr) (enc := toP) hl.isList (each_in rp rv) (each_reads I dp rv) ok.al ok.kd ok.len (fun d hd => ?_) fun out h1 h2 => ?_
      · rw [dep_toP (isPy_mem ok.py hd)]
        have := ok.dp d hd
        have := room200 hr
        omega
      · obtain ⟨ys, r1, r2⟩ := each_out h2
        obtain ⟨ep, he'⟩ := PyProof.Rows.sortedAll_at s.heap its out.toArray
        refine ⟨.ref _, upd H (s.heap.objs.size + 1) (.lst ys), I.laid (t' := s.toks) (fun _ _ => PyProof.Rows.sortedAll_old) (Nat.le_succ _) ⟨?_, out, ep, r2, he'⟩, rfl, q _ _ r1 (I.hok.fresh (Nat.le_succ _))⟩
        have e1 := r1.length
        unfold sortL at e1
        rw [List.length_mergeSort] at e1
        rw [e1]; exact ok.len
    · exact hs.elim
  · intro Φ Pr st σ H ds vs o Q S ks e q
    unfold sortD at e
    split at e
    · split at e
      · rename_i l h
        cases e
        obtain ⟨v, rfl, p⟩ := pks1 ks
        obtain ⟨a, xs, rfl, r, rs⟩ := p.lst S
        have ok := srtOk_of h
        exact ⟨a, xs, l, Pr, rfl, .inl (.inl r), ok, rs, dpAll_each S ok.py rs, fun ys p' r' hp => q _ _ _ (Le.refl _) (S.alloc (o := .lst ys) hp (fun _ _ z => (nomatch z))) (repO_new S hp r')⟩
      · cases e
    · cases e
    · cases e
end
end Dv
namespace Dv
open PySem L2
section
variable {X : Cx} {W : WX} {sc : Scope} {x : Str}
theorem nx {N : List Str} {i : Nat} (h : X.N = N) (q : N[i]? = some x) : X.N[i]? = some x := by rw [h]; exact q
theorem nxd {N : List Str} (h : X.N = N) (q : N.Nodup) : X.N.Nodup := by rw [h]; exact q
theorem vis (hs : X.env.scope = sc) (h : Vis sc x) : Vis X.env.scope x := by rw [hs]; exact h
theorem loc (hs : X.env.scope = sc) (h : Loc sc x) : Loc X.env.scope x := by rw [hs]; exact h
theorem gl (hs : X.env.scope = sc) (h : sc.names.lookup x = some .globalImplicit) : Gl X x := by unfold Gl; show X.env.scope.names.lookup x = _; rw [hs]; exact h
theorem lkl (hs : X.env.scope = sc) (h : sc.names.lookup x = some .local) : X.env.scope.names.lookup x = some .local := by rw [hs]; exact h
theorem blko {N : List Str} {s2 : Scope} {own : List (Str × Nat)} (hN : X.N = N) (hs : X.env.scope = sc) (h : BlkOk N sc s2 own) : BlkOk X.N X.env.scope s2 own := by rw [hN, hs]; exact h
section
variable {s0 : Shared} {H0 : Hp} {scope : Scope} {C0 : Addr} {cl0 : List (Str × Addr)} {env0 : Env} {fp0 : List Addr}
theorem rel_lookup {env : Env} : ∀ (names : List (Str × NameKind)) (x : Str),
    (names.map fun (n, k) => if (k == NameKind.free && env.scope.kind == .function && env.kindOf n == some .cell) then (n, NameKind.cell) else (n, k)).lookup x = (names.lookup x).map fun k => if (k == NameKind.free && env.scope.kind == .function && env.kindOf x == some .cell) then .cell else k
  | [], x => rfl
  | (n, k) :: r, x => by
    have ih := rel_lookup (env := env) r x
    show List.lookup x ((if (k == NameKind.free && env.scope.kind == .function && env.kindOf n == some .cell) = true then (n, NameKind.cell) else (n, k)) :: _) = _
    cases hx : x == n with
    | true =>
      have e : x = n := by simpa using hx
      subst e
      by_cases hc : (k == NameKind.free && env.scope.kind == .function && env.kindOf x == some .cell) = true
      · rw [if_pos hc]
        rw [List.lookup_cons, List.lookup_cons, hx]
        simp only [Option.map_some]
        rw [if_pos hc]
      · rw [if_neg hc]
        rw [List.lookup_cons, List.lookup_cons, hx]
        simp only [Option.map_some]
        rw [if_neg hc]
    | false =>
      by_cases hc : (k == NameKind.free && env.scope.kind == .function && env.kindOf n == some .cell) = true
      · rw [if_pos hc, List.lookup_cons, List.lookup_cons, hx]; exact ih
      · rw [if_neg hc, List.lookup_cons, List.lookup_cons, hx]; exact ih
theorem rel_l {k : NameKind} (h : scope.names.lookup x = some k) (hk : (k == NameKind.free) = false) : (relabel scope env0).names.lookup x = some k := by
  unfold relabel
  show List.lookup x (List.map _ _) = _
  rw [rel_lookup, h, Option.map_some, hk]
  rfl
theorem rel_f (h : scope.names.lookup x = some .free) : (relabel scope env0).names.lookup x = some .cell ∨ (relabel scope env0).names.lookup x = some .free := by
  unfold relabel
  show List.lookup x (List.map _ _) = _ ∨ List.lookup x (List.map _ _) = _
  rw [rel_lookup, h, Option.map_some]
  by_cases hc : (NameKind.free == NameKind.free && env0.scope.kind == .function && env0.kindOf x == some .cell) = true
  · rw [if_pos hc]; exact .inl rfl
  · rw [if_neg hc]; exact .inr rfl
theorem visB (h : Vis scope x) : Vis (X.blk s0 H0 scope (compEnvC scope cl0 C0 env0) fp0).env.scope x := by
  rcases h with h | h | h
  · exact .inl (rel_l (env0 := env0) h rfl)
  · exact .inr (.inl (rel_l (env0 := env0) h rfl))
  · exact .inr (rel_f (env0 := env0) h)
theorem locB (h : Loc scope x) : Loc (X.blk s0 H0 scope (compEnvC scope cl0 C0 env0) fp0).env.scope x := by
  rcases h with h | h
  · exact .inl (rel_l (env0 := env0) h rfl)
  · exact .inr (rel_l (env0 := env0) h rfl)
theorem glB (h : scope.names.lookup x = some .globalImplicit) : Gl (X.blk s0 H0 scope (compEnvC scope cl0 C0 env0) fp0) x := rel_l (env0 := env0) h rfl
theorem hfB (h : scope.names.lookup x = some .local ∨ (scope.names.lookup x == some .cell) = true) : (X.blk s0 H0 scope (compEnvC scope cl0 C0 env0) fp0).fn x = true ∨ (X.blk s0 H0 scope (compEnvC scope cl0 C0 env0) fp0).env.scope.names.lookup x = some .local := by
  rcases h with h | h
  · exact .inr (rel_l (env0 := env0) h rfl)
  · exact .inl h
theorem blkoB {N : List Str} {s2 : Scope} {own : List (Str × Nat)} (hN : X.N = N) (h : BlkOk N scope s2 own) : BlkOk (X.blk s0 H0 scope (compEnvC scope cl0 C0 env0) fp0).N (X.blk s0 H0 scope (compEnvC scope cl0 C0 env0) fp0).env.scope s2 own := by
  refine ⟨h.kind, h.uniq, fun p hp => nx (X := X) hN (h.ix p hp), fun y hy e => ?_, fun y hy e => ?_⟩
  · rcases h.free y hy e with z | z
    · exact .inl (rel_l (env0 := env0) z rfl)
    · exact rel_f (env0 := env0) z
  · show _ ∨ y.1 ∉ X.N
    rw [hN]; exact h.own y hy e
end
theorem takes_F : Takes X WF := fun u s' ⟨a, B, sI, pins, σ, H, cls, d, e, I, nb, up, sky, na, os, ag, w⟩ => w.elim
theorem se_ty {n : String} {pos : Pos} (hg : Gl X x) (hm : X.mg x = none) (hv : bootBuiltins x = some (.type n)) (hn : x ≠ "__name__" := by decide) (hd : (x == ("__debug__" : Str)) = false := by decide) : SE X W (.Name x pos) (sC (.ty n)) :=
  se_const (pe_bltn (v := V.ty n) hg hm hv (show Value.type n = Value.type n from rfl) hn hd) fun _ => by unfold Rep; rfl
theorem se_gstr {z : Str} {t : Tok} {pos : Pos} (hg : Gl X x) (hm : X.mg x = some (.str z t)) (hz : PyData.strOk z = true) (hd : (x == ("__debug__" : Str)) = false := by decide) : SE X W (.Name x pos) (sC (.str z)) :=
  se_glob hg hm (v := .str z) ⟨t, rfl⟩ (fun _ => rep_str hz) hd
theorem se_gint {z : Int} {t : Tok} {pos : Pos} (hg : Gl X x) (hm : X.mg x = some (.int z t)) (hd : (x == ("__debug__" : Str)) = false := by decide) : SE X W (.Name x pos) (sC (.int z)) :=
  se_glob hg hm (v := .int z) ⟨t, rfl⟩ (fun _ => rep_int) hd
end
theorem bt_len : bootBuiltins "len" = some (.builtin "len") := by decide +kernel
theorem bt_isinstance : bootBuiltins "isinstance" = some (.builtin "isinstance") := by decide +kernel
theorem bt_int : bootBuiltins "int" = some (.type "int") := by decide +kernel
theorem bt_bool : bootBuiltins "bool" = some (.type "bool") := by decide +kernel
theorem bt_str : bootBuiltins "str" = some (.type "str") := by decide +kernel
theorem bt_list : bootBuiltins "list" = some (.type "list") := by decide +kernel
theorem bt_tuple : bootBuiltins "tuple" = some (.type "tuple") := by decide +kernel
theorem bt_dict : bootBuiltins "dict" = some (.type "dict") := by decide +kernel
theorem bt_set : bootBuiltins "set" = some (.type "set") := by decide +kernel
theorem bt_max : bootBuiltins "max" = some (.builtin "max") := by decide +kernel
theorem bt_min : bootBuiltins "min" = some (.builtin "min") := by decide +kernel
theorem bt_sum : bootBuiltins "sum" = some (.builtin "sum") := by decide +kernel
theorem bt_all : bootBuiltins "all" = some (.builtin "all") := by decide +kernel
theorem bt_any : bootBuiltins "any" = some (.builtin "any") := by decide +kernel
theorem bt_abs : bootBuiltins "abs" = some (.builtin "abs") := by decide +kernel
theorem bt_sorted : bootBuiltins "sorted" = some (.builtin "sorted") := by decide +kernel
theorem bt_repr : bootBuiltins "repr" = some (.builtin "repr") := by decide +kernel
structure Df (K : PySem.W.Frag) (mg : Str → Option Value) (x : Str) (st : Stmt) (ps : List Str) where
  f : Addr
  fd : FuncData
  F : Fun K x x st f fd
  b : Binds K fd ps []
  m : mg x = some (.ref f)
abbrev Ok (P : Program) (w : World) {K : PySem.W.Frag} {mg : Str → Option Value} (base : Heap) {x : Str} {st : Stmt} {ps : List Str} (d : Df K mg x st ps) (n : Nat) (F : Fn) : Prop := FnOk P w K mg base n d.f d.fd ps (spF K F)
theorem ok_zero {P : Program} {w : World} {K : PySem.W.Frag} {mg : Str → Option Value} {base : Heap} {x : Str} {st : Stmt} {ps : List Str} {d : Df K mg x st ps} : Ok P w base d 0 fun _ => .bad := by
  have no : ∀ vs H Q E, ¬ spF K (fun _ => .bad) vs H Q E := fun vs H Q E h => by
    obtain ⟨_, _, _, _, _, h⟩ := h
    exact h
  exact ⟨fun vs H Q E h => absurd h (no vs H Q E), fun _ _ _ _ h => absurd h (no _ _ _ _)⟩
theorem se_df {X : Cx} {W : WX} {n : Nat} {x : Str} {st : Stmt} {ps : List Str} {F : Fn} {p pos : Pos} {e : Expr} {es : List Expr} {fs : Ar} (ms : List Bool) (d : Df X.K X.mg x st ps) (Fk : Ok X.prog X.w X.base d n F) (hr : Room n X.A) (hg : Gl X x)
    (tk : Takes X W) (ha : SA X W (e :: es) fs) (hdb : (x == ("__debug__" : Str)) = false := by decide)
    (he : starEach (e :: es) X.env = (false, eval e X.env) :: starEach es X.env := by rfl) (hpl : (backTo pos (starEach es X.env)).any (·.1) = false := by rfl) : SE X W (.Call (.Name x p) (e :: es) [] pos) (sCall F ms fs) :=
  se_call ms Fk hr hg d.m d.F.kp d.b tk ha hdb he hpl
theorem spF_law {K : PySem.W.Frag} {F : Fn} {H : Hp} {a : Addr} {ns : List Int} {fin : List Slot} (hS : SqL K H a (ns.map V.int)) (hF : F [.val (.scr (ns.map .int))] = .ret (.val (.bl true)) fin) :
    spF K F [.ref a] H (fun v _ => v = .bl true) fun _ _ _ => False := by
  have r : Reps K H (ns.map D.int) (ns.map V.int) := Reps.of_map (fun _ => rep_int) ns
  refine ⟨H, [], fun _ => none, [.val (.scr (ns.map .int))], ⟨rfl, fun a o h => .inl h, Le.refl _, fun i s e => ?_, fun i j s t a h1 h2 m1 m2 h3 h4 => ?_, fun a o h _ => .inl h, fun a o h => .inl h, fun a ob o h => .inl h, fun a h => (nomatch h), fun a h => ?_⟩, ?_⟩
  · cases i with
    | zero =>
      cases e
      refine ⟨_, rfl, _, rfl, ?_⟩
      unfold Rep
      exact ⟨a, _, rfl, hS, r⟩
    | succ i => cases e
  · cases i with
    | zero => cases h1; cases m1
    | succ i => cases h1
  · obtain ⟨i, z⟩ := h; cases z
  · rw [hF]
    intro Pr' H' σ' v le S rv
    have rv : Rep K Pr' (.bl true) v := rv
    unfold Rep at rv; exact rv
theorem cx_end {P : Program} {w : World} {H : Hp} {s : Shared} {e : Value} {s' : Shared} (h : L2.CX P w [] H s (fun _ _ _ => False) e s') : False := by
  obtain ⟨_, _, _, _, _, _, _, _, _, _, _, _, z⟩ := h
  exact z
theorem law_at {P : Program} {w : World} {K : PySem.W.Frag} {mg : Str → Option Value} {base : Heap} {k : Nat} {fa a : Addr} {fd : FuncData} {F : Fn} {s : Shared} {H : Hp} {ns : List Int} (md : Mod K mg base) (hb : ∀ b o, base.get? b = some o → s.heap.get? b = some o ∧ H b = none) (sz : base.objs.size ≤ s.heap.objs.size) (hok : HOk P w H s.heap)
    (hH : ∀ b, H b = none ∨ ∃ ob xs, H b = some (.frz ob (.lst xs))) (hS : SqL K H a (ns.map V.int)) (hg : s.gens = #[]) (hr : Room k callerA) (Fk : FnOk P w K mg base k fa fd ["script"] (spF K F)) (bnd : BindsTo s fd ⟨[.ref a], []⟩ [("script", .ref a)]) (hF : ∃ fin, F [.val (.scr (ns.map .int))] = .ret (.val (.bl true)) fin) :
    codeAny (model P w) callerA (.call (.ref fa) ⟨[.ref a], []⟩) (fun r s' => r = .ok (.ret (.bool true)) ∧ OldK s.heap s'.heap ∧ s'.os = s.os ∧ PyProof.Rows.AllBare s'.gens) s := by
  obtain ⟨fin, hF⟩ := hF
  have e0 : Env0 P w K mg base callerA [] s H := { frames := rfl, mod := md, bs := hb, bsz := sz, funs := trivial, frf := fun b z => (nomatch (show b ∈ ([] : List Addr) from z)), hok := hok, bare := .of_eq hg }
  have run := Fk.run (vs := [.ref a]) (us := [.ref a]) hr e0 bnd (.cons rfl .nil) (spF_law hS hF)
  refine codeAny_mono run fun r s' h => ?_
  match r, h with
  | .error e, h => exact (cx_end h).elim
  | .ok (.ret u), ⟨v, H', os, bare, un, hok', rv, q⟩ =>
    have q : v = .bl true := q
    subst q
    have rv : u = Value.bool true := rv
    subst rv
    refine ⟨rfl, OldK.of_keep fun b o e => ?_, os, bare⟩
    rcases hH b with z | ⟨ob, xs, z⟩
    · exact un.keep b o e z (fun y => nomatch (show b ∈ ([] : List Addr) from y)) (fun y => nomatch y)
    · have h1 := (hok b _ z).1
      have h2 := (hok' b _ (un.frzs b ob _ z)).1
      have : o = ob := Option.some.inj (e.symm.trans h1)
      rw [this]; exact h2
theorem walk_dv {l : PySem.W.OpenLaw} {n k : Nat} {q : Program} {loose : List Str} {XP : (Str → Option Value) → Heap → Prop} {YP : World → Heap → Prop} {d : DefRec} {K : Params → PySem.W.Frag} {F : Fn}
    (hn : l.most = some n) (hn2 : n ≤ sizeLine) (hdf : d.params.defaults = []) (hr : Room k callerA) (hY : ∀ (w : World) (h : Heap), YP w h → (K w.params).In h)
    (hF : ∀ (w : World) (mg : Str → Option Value) (fa : Addr) (h : Heap), (K w.params).In h → h.Ns mainGlobals mg → mg d.name = some (.ref fa) →
      ∃ fd : FuncData, (∀ (s : Shared) (u : Value), BindsTo s fd ⟨[u], []⟩ [("script", u)]) ∧ ∀ base : Heap, (K w.params).In base → base.Ns mainGlobals mg → FnOk l.prog w (K w.params) mg base k fa fd ["script"] (spF (K w.params) F))
    (hL : ∀ ns : List Int, ns.length ≤ n → (∀ z ∈ ns, Builtin.Int.intBits z ≤ 1048576) → ∃ fin, F [.val (.scr (ns.map .int))] = .ret (.val (.bl true)) fin) :
    PySem.W.WalkO q loose XP YP l.row.toRowW d [] (fun f vs => PySem.call f vs) := by
  refine Att.attach_callB hn hdf fun w s0 s1 mg mb fa o pm cd doc a vs ns G Y ho hd hcd hmg hobj hints hlen hbits hg => ?_
  have KX := hY w _ Y
  obtain ⟨fd, hbind, hFk⟩ := hF w mg fa _ KX G.T.g hmg
  have rv := L2.vals_ints hints
  have len := hints.length
  cases hk : (K w.params).lookup a with
  | some oa =>
    have ea := KX a oa hk
    have ea : oa = { cls := .type "list", data := .seq vs.toArray } := Option.some.inj (ea.symm.trans hobj)
    subst ea
    exact law_at (H := fun _ => none) (base := s1.heap) ⟨KX, G.T.g, ⟨mb, G.T.b, G.T.builtins⟩, G.T.nolimit⟩ (fun b o e => ⟨e, rfl⟩) (Nat.le_refl _) (fun b u z => nomatch z) (fun b => .inl rfl)
      (.inr ⟨_, vs.toArray, _, hk, rfl, rfl, rfl, by rw [List.size_toArray, len]; exact Nat.le_trans hlen hn2, by simpa using rv⟩) hg hr (hFk _ KX G.T.g) (hbind s1 (.ref a)) (hL ns hlen hbits)
  | none =>
    let ob : Obj := { cls := .type "list", data := .seq vs.toArray }
    let H : Hp := fun b => if b = a then some (.frz ob (.lst (ns.map V.int))) else none
    have Ha : H a = some (.frz ob (.lst (ns.map V.int))) := if_pos rfl
    have Hn : ∀ {b : Addr}, b ≠ a → H b = none := fun n => if_neg n
    have keep : ∀ {b : Addr} {o : Obj}, s1.heap.get? b = some o → b ≠ a → (PySem.W.hideAll s1.heap [a]).get? b = some o := fun e n => PySem.W.hideAll_get _ e fun z => n (List.mem_singleton.mp z)
    have back : ∀ b o, (PySem.W.hideAll s1.heap [a]).get? b = some o → s1.heap.get? b = some o ∧ H b = none := fun b o e => by
      refine ⟨PySem.W.of_hideAll _ e, Hn fun z => ?_⟩
      rw [PySem.W.hideAll_none _ (List.mem_singleton.mpr z)] at e
      cases e
    have names : ∀ {b : Addr} {m : Str → Option Value}, s1.heap.Ns b m → (PySem.W.hideAll s1.heap [a]).Ns b m := fun {b m} ⟨o, es, ep, e, d, r⟩ => ⟨o, es, ep, keep e (fun z => by
      rw [z, hobj] at e
      cases e
      cases d), d, r⟩
    have KB : (K w.params).In (PySem.W.hideAll s1.heap [a]) := fun b o e => keep (KX b o e) fun z => by
      rw [z, hk] at e
      cases e
    obtain ⟨mc, n1, n2⟩ := G.T.nolimit
    exact law_at (H := H) (base := PySem.W.hideAll s1.heap [a]) ⟨KB, names G.T.g, ⟨mb, names G.T.b, G.T.builtins⟩, ⟨mc, names n1, n2⟩⟩ back (Nat.le_of_eq (PySem.W.hideAll_size _ _)) (fun b u z => by
      by_cases hb : b = a
      · subst hb
        rw [Ha] at z
        cases z
        exact ⟨hobj, by rw [List.length_map]; exact Nat.le_trans hlen hn2, vs, _, rv, hobj⟩
      · rw [Hn hb] at z
        cases z) (fun b => by
      by_cases hb : b = a
      · exact .inr ⟨ob, _, by rw [hb]; exact Ha⟩
      · exact .inl (Hn hb)) (.inl (.inr ⟨ob, Ha⟩)) hg hr (hFk _ KB (names G.T.g)) (hbind s1 (.ref a)) (hL ns hlen hbits)
end Dv
namespace Dv
open PySem L2
theorem sw_true {X : Cx} {sc : Scope} {elt : Expr} {gens : List Comprehension} {scope : Scope} {p pos : Pos} {t : Str} {line : Nat} (hs : X.env.scope = sc) (hk : sc.kind = .function) (hl : sc.names.lookup t = some .local) (hp : (pos.line == p.line) = true)
    (hn : (scope.names.any fun (n, k) => n == t && (k == .local || k == .cell)) = false) : swapsWith (.ListComp elt gens scope p) (some (.Name t pos)) line X.env = pure true := by
  have e1 : X.env.blockKind = .function := by unfold Env.blockKind; rw [hs, hk]; rfl
  have e2 : X.env.kindOf t = some .local := by unfold Env.kindOf; rw [hs]; exact hl
  show (pure (X.env.blockKind == .function && X.env.kindOf t == some .local && pos.line == p.line && !(scope.names.any fun (n, k) => n == t && (k == .local || k == .cell))) : Sem Bool) = pure true
  rw [e1, e2, hp, hn]
  rfl
theorem sw_cell {X : Cx} {sc : Scope} {elt : Expr} {gens : List Comprehension} {scope : Scope} {p pos : Pos} {t : Str} {line : Nat} (hs : X.env.scope = sc) (hl : sc.names.lookup t = some .cell) : swapsWith (.ListComp elt gens scope p) (some (.Name t pos)) line X.env = pure false := by
  have e2 : X.env.kindOf t = some .cell := by unfold Env.kindOf; rw [hs]; exact hl
  show (pure (X.env.blockKind == .function && X.env.kindOf t == some .local && pos.line == p.line && !(scope.names.any fun (n, k) => n == t && (k == .local || k == .cell))) : Sem Bool) = pure false
  have e3 : (some NameKind.cell == some NameKind.local) = false := rfl
  rw [e2, e3, Bool.and_false]
  rfl
theorem sw_own {X : Cx} {elt : Expr} {gens : List Comprehension} {scope : Scope} {p pos : Pos} {t : Str} {line : Nat} (hn : (scope.names.any fun (n, k) => n == t && (k == .local || k == .cell)) = true) : swapsWith (.ListComp elt gens scope p) (some (.Name t pos)) line X.env = pure false := by
  show (pure (X.env.blockKind == .function && X.env.kindOf t == some .local && pos.line == p.line && !(scope.names.any fun (n, k) => n == t && (k == .local || k == .cell))) : Sem Bool) = pure false
  rw [hn, Bool.not_true, Bool.and_false]
end Dv
namespace Dv
open PySem L2 PyProof.Rows
section
variable {X : Cx}
theorem put_tup {pins : List (Addr × Obj)} {σ : L2.St} {H : Hp} {s : Shared} {E : Value → Shared → Prop} {D b : Addr} {kvs : List (List Key × V)} {k : List Key} {v : V} {r : Value} {Q : Unit → Shared → Prop} (hu : X.A.units < cLine) (I : Inv X pins σ H s) (hD : H D = some (.dT kvs)) (hb : H b = some (.tup (k.map kV))) (hz : kvs.length < sizeLine)
    (rv : RelV v r) (h : ∀ s', Inv X pins σ (upd H D (.dT (putK kvs k v))) s' → Q () s') : wpAny (model X.prog X.w) X.A (dictSet D (.ref b) r) Q E s := by
  obtain ⟨_, hd, xs, rel, dd⟩ := dt_of I.hok hD
  have lx : xs.length ≤ sizeLine := by have := Paired.length rel; omega
  have lp := length_putK kvs k v
  refine wpAny_dictSet_heap (hsz := lx) hu (key_of I.hok hb) dd fun h' dd' sb => h _ ?_
  obtain ⟨o', es, ep, ho', c1, c2, c3, _, c5⟩ := dd'
  have kp : ∀ c ys, H c = some (.tup ys) → upd H D (.dT (putK kvs k v)) c = some (.tup ys) := fun c ys ec => by
    rw [upd_ne (ne_of ec hD fun z => nomatch z)]; exact ec
  exact d_write I (by rw [hD]; exact True.intro) sb ⟨o', ho'⟩ ⟨by omega, hd, _, (rel.put k hb rv).keeps kp, o', es, ep, ho', c1, c2, c3, c5⟩
def dcTurn (g : TG) (tt : TT) (tk tv : TE) (vs : List Nat) (D : Addr) (σ : L2.St) (Nx : Hp → Prop) (x : V) (H' : Hp) : Prop :=
  g x (wipe σ vs) H' fun σ2 H2 => wipe σ2 vs = wipe σ vs ∧ tt σ2 H2 fun b H3 => if b = true then tk σ2 H3 fun y H4 => tv σ2 H4 fun z H5 =>
    ∃ kvs k p, y = .ref p ∧ H5 p = some (.tup (k.map kV)) ∧ H5 D = some (.dT kvs) ∧ kvs.length < sizeLine ∧ Nx (upd H5 D (.dT (putK kvs k z))) else Nx H3
def tDcT (wi : TI) (g : TG) (tt : TT) (tk tv : TE) (vs : List Nat) : TE := fun σ H Q => wi σ H fun J H1 => ∀ D, H1 D = none → ∃ W : Nat → Nat → Hp → Prop, (∃ m, W 0 m (upd H1 D (.dT []))) ∧ ∀ i m H, W i m H →
  (J.stop i H ∧ Q (.ref D) H) ∨ (J.go i H ∧ ∃ Nx : Hp → Prop, (∀ H', Nx H' → ∃ m', m' < m ∧ W (i + 1) m' H') ∧ ∀ x H', J.yld i H x H' → dcTurn g tt tk tv vs D σ Nx x H')
theorem thnG {α : Type} {t : Sem α} {Q Q' : α → Shared → Prop} {M : Model} {A : Around} {E E0 : Value → Shared → Prop} {s : Shared} (hx : E0 = fun _ _ => False) (h : wpAny M A t Q E0 s) (hQ : ∀ a s, Q a s → Q' a s) : wpAny M A t Q' E s := by
  subst hx
  exact thnF h hQ
theorem dc_inside {Y : Cx} {fp : List Addr} {kx vx tg iter : Expr} {ifs : List Expr} {scope : Scope} {pos : Pos} {g : TG} {tt : TT} {tk tv : TE} {vs : List Nat} {σ : L2.St} {J : It} {it D : Addr} {W : Nat → Nat → Hp → Prop} {s : Shared} {H0 : Hp} {m0 : Nat} {R : Result → Shared → Prop} {tn : Nat → Heap → Prop} {Qs : Hp → Prop}
    (hu : Y.A.units < cLine) (hx : Y.xe = fun _ _ => False) (pg : PG Y tg g) (pt : PTs Y ifs tt) (pk : PE Y kx tk) (pe : PE Y vx tv)
    (obj : ∀ i h, tn i h → ∀ b ∈ fp, ∃ o, h.get? b = some o ∧ True)
    (keep : ∀ i h h', tn i h → (∀ b ∈ fp, ∀ o, h.get? b = some o → h'.get? b = some o) → tn i h')
    (stat : ∀ {σ' : L2.St} {H' : Hp} {s' : Shared}, Inv Y [] σ' H' s' → (∀ b ∈ fp, H' b = none) → ∀ b ∈ fp, FpOk Y [] H' b)
    (pin : ∀ {σ' : L2.St} {H' : Hp} {s' : Shared} {i : Nat}, Inv Y [] σ' H' s' → (∀ b ∈ fp, H' b = none) → tn i s'.heap → Inv Y ([] ++ pinsAt fp s'.heap) σ' H' s')
    (done : ∀ i s' H', Inv Y [] (wipe σ vs) H' s' → (∀ b ∈ fp, H' b = none) → tn i s'.heap → J.stop i H' → wpAny (model Y.prog Y.w) Y.A (pyNext (.ref it)) (fun r s6 => r = none ∧ Inv Y [] (wipe σ vs) H' s6) (fun _ _ => False) s')
    (item : ∀ i s' H', Inv Y [] (wipe σ vs) H' s' → (∀ b ∈ fp, H' b = none) → tn i s'.heap → J.go i H' → wpAny (model Y.prog Y.w) Y.A (pyNext (.ref it)) (fun r s6 => ∃ u, r = some u ∧ wpAny (model Y.prog Y.w) Y.A (letOwnedTupleGo tg (.ref it) u) (fun _ s7 => ∃ x H7, Inv Y [] (wipe σ vs) H7 s7 ∧ RelV x u ∧ J.yld i H' x H7 ∧ tn (i + 1) s7.heap ∧ ∀ b ∈ fp, H7 b = none) (fun _ _ => False) s6) (fun _ _ => False) s')
    (turn : ∀ i m H, W i m H → (J.stop i H ∧ Qs H) ∨ (J.go i H ∧ ∃ Nx : Hp → Prop, (∀ H', Nx H' → ∃ m', m' < m ∧ W (i + 1) m' H') ∧ ∀ x H', J.yld i H x H' → dcTurn g tt tk tv vs D σ Nx x H'))
    (hR : ∀ s' H', Inv Y [] (wipe σ vs) H' s' → Qs H' → R (.ok .next) s')
    (I0 : Inv Y [] (wipe σ vs) H0 s) (t0 : tn 0 s.heap) (n0 : ∀ b ∈ fp, H0 b = none) (w0 : W 0 m0 H0) :
    codeAny (model Y.prog Y.w) Y.A (.compLoop (.DictComp kx vx [⟨tg, iter, ifs, 0⟩] scope pos) 0 (.ref it) (.ref D) Y.env) R s := by
  have again : ∀ {i m m1 : Nat} {σ8 : L2.St} {s7 s' : Shared} {H' : Hp} {Nx : Hp → Prop}, wipe σ8 vs = wipe σ vs → tn (i + 1) s7.heap → (∀ H', Nx H' → ∃ m', m' < m ∧ W (i + 1) m' H') → Inv Y ([] ++ pinsAt fp s7.heap) σ8 H' s' → Nx H' →
      ∃ m', m' < m ∧ ∃ i H', Inv Y [] (wipe σ vs) H' s' ∧ tn i s'.heap ∧ (∀ b ∈ fp, H' b = none) ∧ W i m' H' := by
    intro i m m1 σ8 s7 s' H' Nx hw st7 hN I' nx
    obtain ⟨m', hm, w'⟩ := hN H' nx
    have at' : ∀ b ∈ fp, ∀ o, s7.heap.get? b = some o → s'.heap.get? b = some o ∧ H' b = none := fun b hb o e => by
      have z := I'.pin (b, o) (List.mem_append_right _ (List.mem_append_right _ (mem_pinsAt hb e)))
      exact ⟨z.1, z.2.1⟩
    refine ⟨m', hm, i + 1, H', (I'.unpinned (pins := [])).weak (by rw [← hw, wipe_length]) (fun j v e => (wipe_some (by rw [← hw] at e; exact e)).1), keep _ _ _ st7 fun b hb o e => (at' b hb o e).1, fun b hb => ?_, w'⟩
    obtain ⟨o, e, _⟩ := obj _ _ st7 b hb
    exact (at' b hb o e).2
  refine compLoop_anyD (fun n s' => ∃ i H', Inv Y [] (wipe σ vs) H' s' ∧ tn i s'.heap ∧ (∀ b ∈ fp, H' b = none) ∧ W i n H') ?_ m0 ⟨0, H0, I0, t0, n0, w0⟩
  rintro n s5 ⟨i, H5, I5, st5, n5, w5⟩
  rcases turn i n H5 w5 with ⟨stop, qq⟩ | ⟨go, Nx, hN, step⟩
  · refine thnF (done i s5 H5 I5 n5 st5 stop) fun r s6 ⟨hr, I6⟩ => ?_
    rw [hr]
    exact hR s6 H5 I6 qq
  · refine thnF (item i s5 H5 I5 n5 st5 go) fun r s6 ⟨u, hr, h6⟩ => ?_
    rw [hr]
    refine thnF h6 fun _ s7 ⟨x, H7, I7, r7, y7, st7, n7⟩ => thnG hx (pg.run _ s7 _ H7 x u _ (pin I7 n7 st7) r7 (step x H7 y7)) fun _ s8 ⟨σ8, H8, I8, hw, q8⟩ => thnG hx (pt.run _ s8 σ8 H8 _ I8 q8) fun b s9 ⟨H9, I9, q9⟩ => ?_
    cases b with
    | false =>
      simp only [Bool.false_eq_true, if_false] at q9 ⊢
      exact again (m1 := 0) hw st7 hN I9 q9
    | true =>
      simp only [if_true] at q9 ⊢
      refine thnG hx (pk.run _ s9 σ8 H9 _ I9 q9) fun z s10 ⟨yk, H10, I10, r10, q10⟩ => thnG hx (pe.run _ s10 σ8 H10 _ I10 q10) fun z2 s11 ⟨yv, H11, I11, r11, kvs, k, p, ek, hp, hD, hz, nx⟩ => ?_
      subst ek
      cases (show z = Value.ref p from r10)
      exact put_tup (X := Y) hu I11 hD hp hz r11 fun s12 I12 => again (m1 := 0) hw st7 hN I12 nx
theorem dcT_core {pins : List (Addr × Obj)} {s : Shared} {σ : L2.St} {H : Hp} {Q : VK} {kx vx tg iter : Expr} {ifs : List Expr} {scope : Scope} {own : List (Str × Nat)} {pos pos' : Pos} {wi : TI} {g : TG} {tt : TT} {tk tv : TE} {use : Option (Value → Sem Unit)} {Qf : Value → Shared → Prop}
    (hu : X.A.units < cLine) (hc : X.calm = true) (hN : X.N.Nodup) (I : Inv X pins σ H s) (hi : PI X tg iter wi) (ok : BlkOk X.N X.env.scope scope own)
    (hg : ∀ (s : Shared) (H : Hp) (C : Addr) (cl : List (Str × Addr)) (fp : List Addr), PG (X.blk s H scope (compEnvC scope cl C X.env) fp) tg g) (ht : ∀ (s : Shared) (H : Hp) (C : Addr) (cl : List (Str × Addr)) (fp : List Addr), PTs (X.blk s H scope (compEnvC scope cl C X.env) fp) ifs tt)
    (hk : ∀ (s : Shared) (H : Hp) (C : Addr) (cl : List (Str × Addr)) (fp : List Addr), PE (X.blk s H scope (compEnvC scope cl C X.env) fp) kx tk)
    (he : ∀ (s : Shared) (H : Hp) (C : Addr) (cl : List (Str × Addr)) (fp : List Addr), PE (X.blk s H scope (compEnvC scope cl C X.env) fp) vx tv) (hs : ∀ x, foldedSetIterable iter X.env x = pure x)
    (h : tDcT wi g tt tk tv (own.map (·.2)) σ H Q)
    (hRR : ∀ D C s' m H', Inv X pins σ H' s' → Q (.ref D) H' → s'.heap.Ns C m → FpOk X pins H' C → compPost (model X.prog X.w) X.A X.xe use Qf (.ref D) C (.ok .next) s') :
    wpAny (model X.prog X.w) X.A (comprehension (.DictComp kx vx [⟨tg, iter, ifs, 0⟩] scope pos) scope X.env pos' newDict false (eval iter X.env) use) Qf X.xe s := by
  have clo : ∀ y ∈ scope.names, y.2 = .free → ∃ c, X.env.cells.lookup y.1 = some c := fun y hy e => (ok.free y hy e).elim (fun k => I.ok.has _ (.inl k)) fun k => I.ok.has _ (.inr k)
  refine wpAny_comprehension_free (use := use) rfl hs (closure_ok clo) ok.kind (fun y hy e => by rw [ok.uniq y hy, e]) (thn (hi.run pins s σ H _ I h) fun xv s1 hx => thn hx fun itv s2 h2 => ?_)
  obtain ⟨it, fp, tn, J, H2, rfl, I2, T, st2, f2, q⟩ := h2
  refine wpAny_newObj_type (newEnv_comp ?_)
  have hDn : H2 s2.heap.objs.size = none := I2.hok.fresh (Nat.le_refl _)
  obtain ⟨W, ⟨m0, w0⟩, turn⟩ := q _ hDn
  generalize hD : s2.heap.objs.size = D at *
  generalize hs3 : ({ s2 with heap := s2.heap.push { cls := .type "dict", data := .dict #[] } } : Shared) = s3
  have h3 : s3.heap = s2.heap.push { cls := .type "dict", data := .dict #[] } := by rw [← hs3]
  have up : ∀ b o, s2.heap.get? b = some o → s3.heap.get? b = some o := fun b o e => by rw [h3]; exact Heap.get?_push_of_some _ e
  have I3 : Inv X pins σ (upd H2 D (.dT [])) s3 := by
    rw [← hs3]
    refine I2.laid (t' := s2.toks) (fun b o e => Heap.get?_push_of_some _ e) (Nat.le_of_eq hD) ?_
    rw [← hD]
    exact dt_empty s2.heap I2.big
  have st3 : tn 0 s3.heap := T.keep _ _ _ st2 fun b _ o e => up b o e
  have f3 : ∀ b ∈ fp, FpOk X pins (upd H2 D (.dT [])) b ∧ b < s3.heap.objs.size := fun b hb => by
    obtain ⟨o, e, _⟩ := T.obj _ _ st2 b hb
    have lt := Heap.lt_size e
    refine ⟨⟨?_, (f2 b hb).2⟩, Nat.lt_of_lt_of_le lt (by rw [h3, Heap.size_push]; exact Nat.le_succ _)⟩
    rw [upd_ne (by rw [← hD]; exact Nat.ne_of_lt lt)]
    exact (f2 b hb).1
  have I4 := block_start I3 ok hN f3
  have nfp : ∀ b ∈ fp, (upd H2 D (.dT [])) b = none := fun b hb => (f3 b hb).1.1
  generalize hcl : cellsFrom (s3.heap.objs.size + 1) scope.names (cloFrom X.env.cells scope.names []) = cl at I4 ⊢
  have pg := hg s3 (upd H2 D (.dT [])) s3.heap.objs.size cl fp
  have pt := ht s3 (upd H2 D (.dT [])) s3.heap.objs.size cl fp
  have pk := hk s3 (upd H2 D (.dT [])) s3.heap.objs.size cl fp
  have pe := he s3 (upd H2 D (.dT [])) s3.heap.objs.size cl fp
  show codeAny _ _ (.compStart (.DictComp kx vx [⟨tg, iter, ifs, 0⟩] scope pos) 0 (.ref it) (.ref D) (compEnvC scope cl s3.heap.objs.size X.env)) (compPost (model X.prog X.w) X.A X.xe use Qf (.ref D) s3.heap.objs.size) { s3 with heap := pushCells (s3.heap.push { cls := .type "dict", data := .dict #[] }) scope.names }
  generalize hce : compEnvC scope cl s3.heap.objs.size X.env = ce at I4 pg pt pk pe ⊢
  have cL : ce.locals = s3.heap.objs.size := by subst hce; rfl
  generalize hH3 : upd H2 D (.dT []) = H3 at I3 I4 pg pt pk pe w0 nfp f3
  generalize hs4 : ({ s3 with heap := pushCells (s3.heap.push { cls := .type "dict", data := .dict #[] }) scope.names } : Shared) = s4 at I4 ⊢
  have st4 : tn 0 s4.heap := T.keep _ _ _ st3 fun b _ o e => by rw [← hs4]; exact pushCells_keeps _ _ _ _ (Heap.get?_push_of_some _ e)
  have stat : ∀ {σ' : L2.St} {H' : Hp} {s' : Shared}, Inv (X.blk s3 H3 scope ce fp) [] σ' H' s' → (∀ b ∈ fp, H' b = none) → ∀ b ∈ fp, FpOk (X.blk s3 H3 scope ce fp) [] H' b := fun {σ' H' s'} I' hn b hb =>
    ⟨hn b hb, (I'.ok.exf b hb).1, I'.ok.exfs b hb, .inl hb, fun x c e => (I'.ok.exf b hb).2 x c e, fun p hp => absurd (show p ∈ ([] : List (Addr × Obj)) ++ [] from hp) (by simp)⟩
  have loop : codeAny (model X.prog X.w) X.A (.compLoop (.DictComp kx vx [⟨tg, iter, ifs, 0⟩] scope pos) 0 (.ref it) (.ref D) ce) (compPost (model X.prog X.w) X.A X.xe use Qf (.ref D) s3.heap.objs.size) s4 := by
    refine dc_inside (Y := X.blk s3 H3 scope ce fp) (fp := fp) (vs := own.map (·.2)) (σ := σ) (J := J) (W := W) (tn := tn) (Qs := fun H => Q (.ref D) H) hu rfl pg pt pk pe (fun i h st b hb => ?_) (fun i h h' st k => T.keep _ _ _ st k) stat ?_ ?_ ?_ turn ?_ I4 st4 nfp w0
    · obtain ⟨o, e, _⟩ := T.obj _ _ st b hb
      exact ⟨o, e, trivial⟩
    · exact fun {σ' H' s' i} I' n st => I'.pinned (stat I' n) (T.obj _ _ st)
    · exact fun i s' H' I' n st stop => T.done (X.blk s3 H3 scope ce fp) rfl rfl rfl hc i [] s' _ H' (fun _ _ => False) I' (stat I' n) st stop
    · exact fun i s' H' I' n st go => T.item (X.blk s3 H3 scope ce fp) rfl rfl rfl hc i [] s' _ H' (fun _ _ => False) I' (stat I' n) st go
    · intro s6 H6 I6 qq
      have back : Inv X pins σ H6 s6 := I3.call' (ch := fp) I6.os I6.base I6.hok I6.bare fun b hb => ⟨(f3 b hb).1.2.2.2.1, (f3 b hb).1.2.1, (f3 b hb).1.2.2.2.2.1, (f3 b hb).1.2.2.2.2.2⟩
      have fr : H6 ce.locals = none := I6.free
      obtain ⟨m, ns, _⟩ := I6.loc
      have ns : s6.heap.Ns ce.locals m := ns
      rw [cL] at fr ns
      exact hRR D s3.heap.objs.size s6 m H6 back qq ns (I3.fpOk (Nat.le_refl _) fr)
  exact codeAny_compStart_dict loop (T.self X.A 0 _ _ _ st4 loop)
theorem pe_dcT {kx vx tg iter : Expr} {ifs : List Expr} {scope : Scope} {own : List (Str × Nat)} {pos : Pos} {wi : TI} {g : TG} {tt : TT} {tk tv : TE} (hu : X.A.units < cLine) (hc : X.calm = true) (hN : X.N.Nodup) (hi : PI X tg iter wi) (ok : BlkOk X.N X.env.scope scope own)
    (hg : ∀ (s : Shared) (H : Hp) (C : Addr) (cl : List (Str × Addr)) (fp : List Addr), PG (X.blk s H scope (compEnvC scope cl C X.env) fp) tg g) (ht : ∀ (s : Shared) (H : Hp) (C : Addr) (cl : List (Str × Addr)) (fp : List Addr), PTs (X.blk s H scope (compEnvC scope cl C X.env) fp) ifs tt)
    (hk : ∀ (s : Shared) (H : Hp) (C : Addr) (cl : List (Str × Addr)) (fp : List Addr), PE (X.blk s H scope (compEnvC scope cl C X.env) fp) kx tk)
    (he : ∀ (s : Shared) (H : Hp) (C : Addr) (cl : List (Str × Addr)) (fp : List Addr), PE (X.blk s H scope (compEnvC scope cl C X.env) fp) vx tv) (hs : ∀ x, foldedSetIterable iter X.env x = pure x := by intro _; rfl) :
    PE X (.DictComp kx vx [⟨tg, iter, ifs, 0⟩] scope pos) (tDcT wi g tt tk tv (own.map (·.2))) := by
  constructor
  intro pins s σ H Q I h
  rw [arm_eval_DictComp]
  refine dcT_core hu hc hN I hi ok hg ht hk he hs h fun D C s' m H' I' q ns f => ⟨m, ns, fun h'' sb => ⟨.ref D, H', ?_, rfl, q⟩⟩
  exact I'.turned (t' := s'.toks) (fun b o hb e => (sb.2 b hb).trans e) f.1 f.2.1 f.2.2.2.1 f.2.2.2.2.1 f.2.2.2.2.2
end
def putD {α : Type} (kvs : List (List Key × α)) (k : List Key) (v : α) : List (List Key × α) :=
  if (kvs.any fun kv => decide (kv.1 = k)) = true then kvs.map (fun kv => if kv.1 = k then (kv.1, v) else kv) else kvs ++ [(k, v)]
def keyG (as : Ar) : Sto → R (List Key) := fun s => (noX (as s)).bind fun os s1 => (takeAll os s1).bind fun ds s2 => match keysD ds with
  | some k => if ds.length ≤ LIM then .ok k s2 else .bad
  | none => .bad
def dcL (g : G) (t : T) (a : Ar) (e : E) (vs : List Nat) : List D → List (List Key × D) → Sto → R (List (List Key × D))
  | [], acc, s => .ok acc s
  | d :: ds, acc, s => match g d (wipeS s vs) with
    | none => .bad
    | some s1 => (noX (t s1)).bind fun b s2 => if b then (keyG a s2).bind fun k s3 => (noX (e s3)).bind fun o s4 => (takeO o s4).bind fun x s5 => if acc.length < LIM then dcL g t a e vs ds (putD acc k x) s5 else .bad
      else dcL g t a e vs ds acc s2
def dctOf (kvs : List (List Key × D)) : D := .dct (kvs.map fun p => .tup (p.1.map kD)) (kvs.map (·.2))
def sDc (f : Ws) (g : G) (t : T) (a : Ar) (e : E) (vs : List Nat) : E := fun s => (f s).bind fun ds s1 => (dcL g t a e vs ds [] s1).bind fun acc s2 => .ok (.own (dctOf acc)) (restS s1 s2 vs)
theorem takeAll_cases : ∀ (os : List Opd) (s : Sto), (∃ ds s', takeAll os s = .ok ds s') ∨ takeAll os s = .bad
  | [], s => .inl ⟨_, _, rfl⟩
  | o :: os, s => by
    unfold takeAll
    rcases take_cases o s with ⟨d, s1, e⟩ | e
    · rw [e]
      simp only [R.bind_ok]
      rcases takeAll_cases os s1 with ⟨ds, s2, e2⟩ | e2
      · rw [e2]; exact .inl ⟨_, _, rfl⟩
      · rw [e2]; exact .inr rfl
    · rw [e]; exact .inr rfl
theorem keyG_ok {a : Ar} {s : Sto} : (∃ os s1 ds s2 k, a s = .ok os s1 ∧ takeAll os s1 = .ok ds s2 ∧ keysD ds = some k ∧ ds.length ≤ LIM ∧ keyG a s = .ok k s2) ∨ keyG a s = .bad := by
  unfold keyG
  cases h1 : a s with
  | exc c v s' => exact .inr rfl
  | bad => exact .inr rfl
  | ok os s1 =>
    simp only [noX_ok, R.bind_ok]
    rcases takeAll_cases os s1 with ⟨ds, s2, h2⟩ | h2
    · rw [h2]
      simp only [R.bind_ok]
      cases h3 : keysD ds with
      | none => exact .inr rfl
      | some k =>
        by_cases hl : ds.length ≤ LIM
        · exact .inl ⟨os, s1, ds, s2, k, rfl, h2, h3, hl, if_pos hl⟩
        · exact .inr (if_neg hl)
    · rw [h2]; exact .inr rfl
theorem dcL_cons {g : G} {t : T} {a : Ar} {e : E} {vs : List Nat} {d : D} {ds : List D} {acc accF : List (List Key × D)} {s sF : Sto} (h : dcL g t a e vs (d :: ds) acc s = .ok accF sF) :
    ∃ s1 b s2, g d (wipeS s vs) = some s1 ∧ t s1 = .ok b s2 ∧ ((b = true ∧ ∃ os s3 ks s4 k o s5 x s6, a s2 = .ok os s3 ∧ takeAll os s3 = .ok ks s4 ∧ keysD ks = some k ∧ ks.length ≤ LIM ∧ e s4 = .ok o s5 ∧ takeO o s5 = .ok x s6 ∧ acc.length < LIM ∧ dcL g t a e vs ds (putD acc k x) s6 = .ok accF sF) ∨ (b = false ∧ dcL g t a e vs ds acc s2 = .ok accF sF)) := by
  unfold dcL at h
  cases h1 : g d (wipeS s vs) with
  | none => rw [h1] at h; cases h
  | some s1 =>
    rw [h1] at h
    simp only at h
    cases h2 : t s1 with
    | exc c v s' => rw [h2] at h; cases h
    | bad => rw [h2] at h; cases h
    | ok b s2 =>
      rw [h2] at h
      simp only [noX_ok, R.bind_ok] at h
      refine ⟨s1, b, s2, rfl, h2, ?_⟩
      cases b with
      | false => exact .inr ⟨rfl, h⟩
      | true =>
        simp only [if_true] at h
        rcases keyG_ok (a := a) (s := s2) with ⟨os, s3, ks, s4, k, q1, q2, q3, ql, q4⟩ | q
        · rw [q4] at h
          simp only [R.bind_ok] at h
          cases h3 : e s4 with
          | exc c v s' => rw [h3] at h; cases h
          | bad => rw [h3] at h; cases h
          | ok o s5 =>
            rw [h3] at h
            simp only [noX_ok, R.bind_ok] at h
            rcases take_cases o s5 with ⟨x, s6, h4⟩ | h4
            · rw [h4] at h
              simp only [R.bind_ok] at h
              by_cases hl : acc.length < LIM
              · rw [if_pos hl] at h
                exact .inl ⟨rfl, os, s3, ks, s4, k, o, s5, x, s6, q1, q2, q3, ql, h3, h4, hl, h⟩
              · rw [if_neg hl] at h; cases h
            · rw [h4] at h; cases h
        · rw [q] at h; cases h
theorem dcL_res {g : G} {t : T} {a : Ar} {e : E} {vs : List Nat} : ∀ (ds : List D) (acc : List (List Key × D)) (s : Sto), (∃ r s', dcL g t a e vs ds acc s = .ok r s') ∨ dcL g t a e vs ds acc s = .bad
  | [], acc, s => .inl ⟨_, _, rfl⟩
  | d :: ds, acc, s => by
    unfold dcL
    cases g d (wipeS s vs) with
    | none => exact .inr rfl
    | some s1 =>
      simp only
      cases t s1 with
      | exc c v s' => exact .inr rfl
      | bad => exact .inr rfl
      | ok b s2 =>
        simp only [noX_ok, R.bind_ok]
        cases b with
        | false => exact dcL_res ds acc s2
        | true =>
          simp only [if_true]
          rcases keyG_ok (a := a) (s := s2) with ⟨os, s3, ks, s4, k, _, _, _, _, q4⟩ | q
          · rw [q4]
            simp only [R.bind_ok]
            cases e s4 with
            | exc c v s' => exact .inr rfl
            | bad => exact .inr rfl
            | ok o s5 =>
              simp only [noX_ok, R.bind_ok]
              rcases take_cases o s5 with ⟨x, s6, h4⟩ | h4
              · rw [h4]
                simp only [R.bind_ok]
                by_cases hl : acc.length < LIM
                · rw [if_pos hl]; exact dcL_res ds _ s6
                · rw [if_neg hl]; exact .inr rfl
              · rw [h4]; exact .inr rfl
          · rw [q]; exact .inr rfl
def Prs (K : PySem.W.Frag) (Pr : Hp) (ds : List (List Key × D)) (vs : List (List Key × V)) : Prop := Paired (fun p q => p.1 = q.1 ∧ Rep K Pr p.2 q.2) ds vs
section
variable {K : PySem.W.Frag} {Pr : Hp}
theorem Prs.mono {Pr' : Hp} {ds : List (List Key × D)} {vs : List (List Key × V)} (h : Prs K Pr ds vs) (le : Le Pr Pr') : Prs K Pr' ds vs := by
  unfold Prs at h ⊢
  induction h with
  | nil => exact .nil
  | cons a t ih => exact .cons ⟨a.1, Rep.mono le _ a.2⟩ ih
theorem Prs.keys {ds : List (List Key × D)} {vs : List (List Key × V)} (h : Prs K Pr ds vs) : ds.map (·.1) = vs.map (·.1) := by
  unfold Prs at h
  induction h with
  | nil => rfl
  | cons a t ih => rw [List.map_cons, List.map_cons, ih, a.1]
theorem Prs.len {ds : List (List Key × D)} {vs : List (List Key × V)} (h : Prs K Pr ds vs) : ds.length = vs.length := Paired.length h
theorem Prs.reps {ds : List (List Key × D)} {vs : List (List Key × V)} (h : Prs K Pr ds vs) : Reps K Pr (ds.map (·.2)) (vs.map (·.2)) := by
  unfold Prs at h
  induction h with
  | nil => exact Reps.nil
  | cons a t ih => exact Reps.cons a.2 ih
theorem Prs.any {ds : List (List Key × D)} {vs : List (List Key × V)} (h : Prs K Pr ds vs) (k : List Key) : (ds.any fun kv => decide (kv.1 = k)) = vs.any fun kv => decide (kv.1 = k) := by
  unfold Prs at h
  induction h with
  | nil => rfl
  | cons a t ih => rw [List.any_cons, List.any_cons, ih, a.1]
theorem Prs.repl {ds : List (List Key × D)} {vs : List (List Key × V)} (h : Prs K Pr ds vs) (k : List Key) {d : D} {v : V} (r : Rep K Pr d v) : Prs K Pr (ds.map fun kv => if kv.1 = k then (kv.1, d) else kv) (vs.map fun kv => if kv.1 = k then (kv.1, v) else kv) := by
  unfold Prs at h ⊢
  induction h with
  | nil => exact .nil
  | @cons p q ps qs a t ih =>
    rw [List.map_cons, List.map_cons]
    refine .cons ?_ ih
    by_cases e : p.1 = k
    · rw [if_pos e, if_pos (a.1.symm.trans e)]; exact ⟨a.1, r⟩
    · rw [if_neg e, if_neg fun z => e (a.1.trans z)]; exact a
theorem Prs.put {ds : List (List Key × D)} {vs : List (List Key × V)} (h : Prs K Pr ds vs) (k : List Key) {d : D} {v : V} (r : Rep K Pr d v) : Prs K Pr (putD ds k d) (putK vs k v) := by
  unfold putD putK
  rw [h.any k]
  split
  · exact h.repl k r
  · exact Paired.snoc h ⟨rfl, r⟩
theorem Prs.cont {ds : List (List Key × D)} {vs : List (List Key × V)} (h : Prs K Pr ds vs) : Cont K Pr (.dT vs) (dctOf ds) := by
  refine ⟨?_, h.reps⟩
  have : ds.map (fun p => D.tup (p.1.map kD)) = (ds.map (·.1)).map fun k => D.tup (k.map kD) := by rw [List.map_map]; rfl
  rw [this, h.keys, List.map_map]; rfl
end
section
variable {X : Cx} {W : WX}
structure BldT (K : PySem.W.Frag) (Φ : Fr0) (Pr H : Hp) (s : Sto) (σ : L2.St) (A : Addr) (vs : List Nat) (dacc : List (List Key × D)) (acc : List (List Key × V)) : Prop where
  sim : Sim K Φ Pr (wipeS s vs) (L2.wipe σ vs) H
  aside : Aside Φ Pr H (wipeS s vs) (L2.wipe σ vs) A
  at_ : H A = some (.dT acc)
  prs : Prs K Pr dacc acc
theorem nfT {acc : List (List Key × V)} : ∀ ob u, (HO.dT acc) ≠ .frz ob u := fun _ _ z => nomatch z
theorem turnT_of {Φ : Fr0} {Pr H' : Hp} {g : G} {is vs : List Nat} {t : T} {a : Ar} {e : E} {d : D} {ds : List D} {dacc accF : List (List Key × D)} {s sF : Sto} {σ : L2.St} {A : Addr} {acc : List (List Key × V)} {x : V} {Nx : Hp → Prop} (h : dcL g t a e vs (d :: ds) dacc s = .ok accF sF)
    (S : Sim X.K (Φ.asideO A (.dT acc)) Pr (wipeS s vs) (L2.wipe σ vs) H') (h0 : Φ.H0 A = none) (hn : Pr A = none) (nl : ¬ Φ.Lent A) (hi : ∀ i ∈ is, i ∈ vs) (rx : Rep X.K Pr d x) (ra : Prs X.K Pr dacc acc)
    (hNx : ∀ P s' acc' dacc' H2, Le Pr P → BldT X.K Φ P H2 s' σ A vs dacc' acc' → dcL g t a e vs ds dacc' s' = .ok accF sF → Nx H2) :
    dcTurn (gX X g is) (tX X t) (fun σ H Q => ∃ Φ, tTup (tAr X Φ WF a) σ H Q) (eX X e) vs A σ Nx x H' := by
  obtain ⟨s1, b, s2, h1, h2, hb⟩ := dcL_cons h
  have l0 : Le Φ.P0 Pr := S.le0
  refine ⟨Φ.asideO A (.dT acc), Pr, wipeS s vs, d, s1, S, rx, h1, fun P3 σ2 l3 only S3 => ?_⟩
  have hw := wipe_only only hi
  refine ⟨hw, Φ.asideO A (.dT acc), P3, s1, S3, ?_⟩
  rw [h2]
  intro P4 H4 l4 S4
  have fin : ∀ {P5 : Hp} {s5 : Sto} {H5 : Hp}, Le P4 P5 → Sim X.K (Φ.asideO A (.dT acc)) P5 s5 σ2 H5 → Sim X.K Φ P5 (wipeS s5 vs) (L2.wipe σ vs) H5 ∧ Aside Φ P5 H5 (wipeS s5 vs) (L2.wipe σ vs) A ∧ H5 A = some (.dT acc) := fun {P5 s5 H5} l5 S5 => by
    obtain ⟨q1, q2, q3⟩ := S5.ofAsideO nfT h0 hn l0 nl
    exact ⟨by rw [← hw]; exact q1.wipe vs, by rw [← hw]; exact q2.wipe vs, q3⟩
  have l14 := l3.trans l4
  rcases hb with ⟨rfl, os, s3, ks, s4, k, o, s5, y, s6, e1, e2, e3, el, e4, e5, hl, e6⟩ | ⟨rfl, h5⟩
  · refine iteT ⟨Φ.asideO A (.dT acc), P4, s2, S4, ?_⟩
    rw [e1]
    intro P5 H5 l5 S5 P6 vs6 l6 S6 kp
    have tk : Aft X (Φ.asideO A (.dT acc)) WF P6 σ2 ((takeAll os s3).bind fun ds s => .ok ds s) (fun _ _ _ _ => True) := by
      rw [e2]; exact fun _ _ _ _ => trivial
    obtain ⟨ds', s4', P7, z, l7, S7, r7, _⟩ := takeAll_of S6 kp tk
    rw [e2] at z; cases z
    have ek : vs6 = k.map kV := by
      have := keysD_eq e3
      subst this
      exact reps_keys r7
    refine ⟨by rw [r7.length, lim_eq]; exact el, fun p hp => ?_⟩
    have l8 : Le P7 (upd P7 p (.tup vs6)) := Le.upd (S7.fresh hp).1
    refine ⟨Φ.asideO A (.dT acc), upd P7 p (.tup vs6), s4, S7.laid hp (fun _ _ z => nomatch z), ?_⟩
    rw [e4]
    intro P9 H9 l9 S9 v hv
    obtain ⟨P10, l10, S10, r10⟩ := take_of S9 hv e5
    have l4x : Le P4 P10 := l5.trans (l6.trans (l7.trans (l8.trans (l9.trans l10))))
    obtain ⟨q1, q2, q3⟩ := fin l4x S10
    have hp9 : H9 p = some (.tup (k.map kV)) := by
      have := (S10.inn p _ (l10 _ _ (l9 _ _ upd_same))).tup
      rw [← ek]; exact this
    refine ⟨acc, k, p, rfl, hp9, q3, by rw [← ra.len, lim_eq]; exact hl, hNx P10 s6 (putK acc k v) (putD dacc k y) _ (l14.trans l4x) ⟨q1.touch q2 nfT, q2.heap, upd_same, (ra.mono (l14.trans l4x)).put k r10⟩ e6⟩
  · obtain ⟨q1, q2, q3⟩ := fin (Le.refl _) S4
    exact iteF (hNx P4 s2 acc dacc H4 l14 ⟨q1, q2, q3, ra.mono l14⟩ h5)
theorem BldT.done {Φ : Fr0} {P0 Pr H0 H : Hp} {s0 s : Sto} {σ : L2.St} {A : Addr} {vs : List Nat} {dacc : List (List Key × D)} {acc : List (List Key × V)} (B : BldT X.K Φ Pr H s σ A vs dacc acc) (S0 : Sim X.K Φ P0 s0 σ H0) (le : Le P0 Pr) :
    Sim X.K Φ Pr (restS s0 s vs) σ H ∧ RepO X.K Φ Pr H (restS s0 s vs) σ (.own (dctOf dacc)) (.ref A) := by
  refine ⟨S0.outer le B.sim, A, .dT acc, rfl, B.aside.pr, B.aside.h0, B.at_, B.prs.cont, fun i t e m z => ?_⟩
  by_cases h : i ∈ vs
  · rw [restS_in h e] at m; cases m
  · rw [restS_get h] at e
    exact B.aside.no i t (by rw [wipeS_get h]; exact e) m (by rw [wipe_get h]; exact z)
theorem BldT.start {Φ : Fr0} {Pr H : Hp} {s : Sto} {σ : L2.St} {A : Addr} (vs : List Nat) (S : Sim X.K Φ Pr s σ H) (hA : H A = none) : BldT X.K Φ Pr (upd H A (.dT [])) s σ A vs [] [] := by
  obtain ⟨f1, f2, f3⟩ := S.fresh hA
  refine ⟨(S.alloc (o := .dT []) hA nfT).wipe vs, (Aside.wipe (H := H) ⟨f1, f2, f3, fun i t e m z => ?_⟩ vs), upd_same, .nil⟩
  obtain ⟨ov, h1, h2⟩ := S.slots i t e
  rw [h1] at z; cases z
  obtain ⟨_, ⟨u, q⟩, _⟩ := h2.there m
  rw [hA] at q; cases q
theorem pe_tupX {es : List Expr} {a : Ar} {x1 : Nat} {tp : Pos} (h : SA X WF es a) : PE X (.Tuple es x1 tp) (fun σ H Q => ∃ Φ, tTup (tAr X Φ WF a) σ H Q) := ⟨fun pins s σ H Q I ⟨Φ, q⟩ => (pe_tup (h.pa Φ)).run pins s σ H Q I q⟩
theorem se_dcT {es : List Expr} {x1 : Nat} {tp : Pos} {vx tg iter : Expr} {ifs : List Expr} {scope : Scope} {own : List (Str × Nat)} {pos : Pos} {f : Ws} {g : G} {t : T} {a : Ar} {e : E} {is vs : List Nat} {n : Nat} (hr : Room n X.A) (hc : X.calm = true) (hN : X.N.Nodup) (hi : SI X W tg iter f) (ok : BlkOk X.N X.env.scope scope own) (hv : own.map (·.2) = vs) (his : ∀ i ∈ is, i ∈ vs)
    (hg : ∀ (s : Shared) (H : Hp) (C : Addr) (cl : List (Str × Addr)) (fp : List Addr), SG (X.blk s H scope (compEnvC scope cl C X.env) fp) tg g is) (ht : ∀ (s : Shared) (H : Hp) (C : Addr) (cl : List (Str × Addr)) (fp : List Addr), STs (X.blk s H scope (compEnvC scope cl C X.env) fp) ifs t)
    (hk : ∀ (s : Shared) (H : Hp) (C : Addr) (cl : List (Str × Addr)) (fp : List Addr), SA (X.blk s H scope (compEnvC scope cl C X.env) fp) WF es a)
    (he : ∀ (s : Shared) (H : Hp) (C : Addr) (cl : List (Str × Addr)) (fp : List Addr), SE (X.blk s H scope (compEnvC scope cl C X.env) fp) WF vx e) (hs : ∀ x, foldedSetIterable iter X.env x = pure x := by intro _; rfl) :
    SE X W (.DictComp (.Tuple es x1 tp) vx [⟨tg, iter, ifs, 0⟩] scope pos) (sDc f g t a e vs) := by
  subst hv
  refine ⟨fun Φ => peImp (pe_dcT (g := gX X g is) (tt := tX X t) (tk := fun σ H Q => ∃ Φ, tTup (tAr X Φ WF a) σ H Q) (tv := eX X e) (by have := hr.un; omega) hc hN (hi.pi Φ) ok (fun s H C cl fp => pg_X (hg s H C cl fp)) (fun s H C cl fp => (ht s H C cl fp).pts) (fun s H C cl fp => pe_tupX (hk s H C cl fp)) (fun s H C cl fp => pe_X (he s H C cl fp)) hs) fun σ H Q h => ?_⟩
  obtain ⟨Pr, st, S, h⟩ := h
  refine ⟨Pr, st, S, h.bind.imp fun ds s1 P1 H1 l1 S1 h1 P2 J l2 S2 wk A hA => ?_⟩
  rcases dcL_res (g := g) (t := t) (a := a) (e := e) (vs := own.map (·.2)) ds [] s1 with ⟨accF, sF, hF⟩ | hF
  · rw [hF] at h1
    simp only [R.bind_ok] at h1
    refine ⟨fun i m H => ∃ Pr s acc dacc, Le P2 Pr ∧ BldT X.K Φ Pr H s σ A (own.map (·.2)) dacc acc ∧ m = ds.length - i ∧ dcL g t a e (own.map (·.2)) (ds.drop i) dacc s = .ok accF sF, ⟨_, P2, s1, [], [], Le.refl _, BldT.start _ S2 hA, rfl, hF⟩, ?_⟩
    rintro i m H3 ⟨P3, s3, acc, dacc, l3, B, rfl, hl⟩
    obtain ⟨w1, w2⟩ := wk (Φ.asideO A (.dT acc)) rfl i P3 _ _ H3 l3 (B.sim.toAsideO B.aside B.at_)
    by_cases hlt : i < ds.length
    · right
      obtain ⟨g1, g2⟩ := w2 _ (List.getElem?_eq_getElem hlt)
      rw [List.drop_eq_getElem_cons hlt] at hl
      refine ⟨g1, fun H => ∃ Pr s acc dacc, Le P2 Pr ∧ BldT X.K Φ Pr H s σ A (own.map (·.2)) dacc acc ∧ dcL g t a e (own.map (·.2)) (ds.drop (i + 1)) dacc s = .ok accF sF, fun H' ⟨P4, s4, acc4, dacc4, l4, B4, hl4⟩ => ⟨ds.length - (i + 1), by omega, P4, s4, acc4, dacc4, l4, B4, rfl, hl4⟩, fun x H4 hy => ?_⟩
      obtain ⟨P4, l4, S4, r4⟩ := g2 x H4 hy
      have pn : P4 A = none := (S4.ofAsideO nfT B.aside.h0 B.aside.pr B.sim.le0 B.aside.nl).2.1.pr
      exact turnT_of hl S4 B.aside.h0 pn B.aside.nl his r4 (B.prs.mono l4) fun P s' acc' dacc' H2 le B' hl' => ⟨P, s', acc', dacc', l3.trans (l4.trans le), B', hl'⟩
    · left
      refine ⟨w1 (by omega), ?_⟩
      rw [List.drop_eq_nil_of_le (by omega)] at hl
      unfold dcL at hl
      cases hl
      obtain ⟨q1, q2⟩ := B.done S1 (l2.trans l3)
      exact h1 P3 H3 (l2.trans l3) q1 _ q2
  · rw [hF] at h1
    exact h1.elim
end
end Dv
namespace Xe
open PySem PySem.W PySem.Calls PyProof.Rows
structure Fa (prog : Program) (K : Frag) (C D fI cc cda : Addr) (qual : Str) (params : Arguments) (body : List Stmt) (scope : Scope) (m : Str) : Prop where
  fn : ∃ (oc : Value) (od : Option Addr) (dV kV doc pm : Value) (an : Option Addr) (ct : Value) (osl : Array (Option Value)), K.lookup fI = some ⟨oc, od, .func (fnX "__init__" qual params body scope [("__class__", cc)] dV kV doc pm an (.ref cda) ct), osl⟩ ∧
    ∀ a b : Value, bindArgs (fnX "__init__" qual params body scope [("__class__", cc)] dV kV doc pm an (.ref cda) ct) ⟨[a, b], []⟩ = pure [(("self" : Str), a), (("value" : Str), b)]
  bd : ∃ p0 p1 p2 p3 p4 p5 p6 p7 p8 p9 j, body = [.Expr (.Call (.Attribute (.Call (.Name "super" p0) [] [] p1) "__init__" p2) [.Constant (.str m) j p3] [] p4) p5, .Assign [.Attribute (.Name "self" p6) "value" p7] (.Name "value" p8) p9] ∧
    (∃ pl, ∀ L, eval (.Call (.Attribute (.Call (.Name "super" p0) [] [] p1) "__init__" p2) [.Constant (.str m) j p3] [] p4) (ksEnv qual scope L fI (.ref cda) cc) = (do
      let ov ← attributeBase (.Call (.Name "super" p0) [] [] p1) "__init__" (ksEnv qual scope L fI (.ref cda) cc) (eval (.Call (.Name "super" p0) [] [] p1) (ksEnv qual scope L fI (.ref cda) cc))
      standAt p2.atName
      let (f, first) ← holding [ov] (getMethod ov "__init__" pl)
      callWith p4 f first (backTo p4 (starEach [.Constant (.str m) j p3] (ksEnv qual scope L fI (.ref cda) cc))) [])) ∧
    (∀ L, interactive (ksEnv qual scope L fI (.ref cda) cc) = false)
  cd : codeIn K (.ref cda) qual = true
  code : ∃ (ccl : Value) (cdd : Option Addr) (vs : Array Value) (ccs : Array (Option Value)) (file : Str) (tf : Tok), K.lookup cda = some ⟨ccl, cdd, .fields vs, ccs⟩ ∧ vs[2]? = some (.str file tf) ∧ ((prog.main.file : Str) == file) = true
  cell : ∃ (cl : Value) (cld : Option Addr) (csl : Array (Option Value)), K.lookup cc = some ⟨cl, cld, .cell (some (.ref D)), csl⟩
  cls : ∃ cdD, clsIn K D = some cdD
  sub : mroIn K C (.ref D) = some true
  sup : ks_superIn K C D "__init__" = some (some (.builtin "ValueError.__init__"))
  val : subIn K (.ref C) (.type "ValueError") = some true
  opq : nsIn K cStatics "thirdparty.any" = some none
  noA : findIn K (.ref C) "value" = some none
  nsup : nsIn K mainGlobals "super" = some none
  arg : ∃ ar r, params.posonlyargs ++ params.args = ar :: r ∧ ar.arg = "self"
  s1 : scope.names.lookup ("super" : Str) = some .globalImplicit
  s2 : scope.names.lookup ("__class__" : Str) = some .free
  s3 : scope.names.lookup ("self" : Str) = some .local
  s4 : scope.names.lookup ("value" : Str) = some .local
  s5 : ∀ x ∈ scope.names, x.2 ≠ .cell
  s6 : scope.isCoroutine = false
  s7 : scope.isGenerator = false
  s8 : scope.kind = .function
  top : (prog.main.scope.names.lookup ("super" : Str)).isSome = false
section
variable {prog : Program} {w : World} {A : Around} {E : Value → Shared → Prop} {h : Heap} {g : Array GenState} {d : Drawn} {t : Nat} {os : OsState}
variable {nm q : Str} {C N : Addr} {bs bm : List Value} {hdct : Bool} {sn : List Str} {sub : List Value} {ab : Bool} {col : Option Bool} {dd : Option Addr} {k0 k1 k2 k3 k5 : Option Value}
theorem call_mw {u e t0 : Addr} {rest : List Value} {Q : Value → Shared → Prop}
    (hC : h.get? C = some (excClassObj nm q C N bs bm hdct sn sub ab col dd k0 k1 k2 k3 k5 "ValueError.__new__")) (he : h.get? e = some (excObj C t0 none .none)) (hu : h.get? u = some (kxs_mw "ValueError.__init__" e)) (hz : rest.length ≤ sizeLine)
    (hq : ∀ h' t1, (∀ b o, b ≠ e → h.get? b = some o → h'.get? b = some o) → h'.get? e = some (excObj C t1 none .none) → Q .none ⟨h', g, d, t, os⟩) :
    wpAny (model prog w) A (call (.ref u) rest) Q E ⟨h, g, d, t, os⟩ := by
  refine wpAny_call (codeAny_of_tree ?_)
  show wpAny _ A.in1 (callAny (.ref u) ⟨rest, []⟩) _ _ _
  simp only [callAny]
  refine wpAny_bind (wpAny_load hu ?_)
  simp only [kxs_mw, show (Value.type "method-wrapper" == Value.type "method" || Value.type "method-wrapper" == Value.type "builtin_function_or_method" || Value.type "method-wrapper" == Value.type "method-wrapper") = true by decide, if_true]
  refine KFB.if_so (by decide) ?_
  refine wpAny_bind (check_bound_init PySem.F.excBase_ValueError.toExcCallFacts hC he rfl ?_)
  refine wpAny_bind (wpAny_pure (wpAny_pure ?_))
  refine ⟨plainId_quiet PySem.F.excBase_ValueError.init.plain _, codeAny_builtin PySem.F.excBase_ValueError.initEntry ?_⟩
  exact exc_init_tree (cls := .ref C) (t0 := t0) (dv := none) (c2 := .none) (c3 := .none) (b4 := .bool false) he hz fun h' k e' t' => hq h' _ k e'
end
section
variable {prog : Program} {w : World} {A : Around} {h : Heap} {g : Array GenState} {d : Drawn} {t : Nat} {os : OsState} {K : Frag} {mg : Str → Option Value} {base : Heap} {R : Result → Shared → Prop}
variable {C D fI cc cda : Addr} {qual : Str} {params : Arguments} {body : List Stmt} {scope : Scope} {m : Str}
theorem ldL {M : Model} {E : Value → Shared → Prop} {s : Shared} {env : Env} {m : Str → Option Value} {x : Str} {pos : Pos} {v : Value} {Q : Value → Shared → Prop} (hn : s.heap.Ns env.locals m) (hv : m x = some v) (h : Q v s)
    (hk : env.scope.kind = .function) (hl : env.kindOf x = some .local) (hd : (x == ("__debug__" : Str)) = false := by decide) : wpAny M A (eval (.Name x pos) env) Q E s := wpAny_Name (wpAny_loadName_local hk hl hn hv h) hd
theorem init_val (T : L2.OexC K C) (Y : Fa prog K C D fI cc cda qual params body scope m) (md : L2.Mod K mg base) (hm : mg "super" = none) (hb : ∀ b o, base.get? b = some o → h.get? b = some o) {e t0 : Addr} {u : Value} (hfe : base.get? e = none)
    (he : h.get? e = some (excObj C t0 none .none)) (hr : A.depth < recursionLimit)
    (hq : ∀ h' tk t1 dx, (∀ b o, b ≠ e → h.get? b = some o → h'.get? b = some o) → h.objs.size ≤ dx → dx ≠ e → h'.get? e = some (excObj C t1 (some dx) .none) → h'.Ns1 dx (fun y => if y = ("value" : Str) then some u else none) → R (.ok (.ret .none)) ⟨h', g, d, tk, os⟩) :
    codeAny (model prog w) A (.call (.ref fI) ⟨[.ref e, u], []⟩) R ⟨h, g, d, t, os⟩ := by
  have X : K.In h := md.kin.keeps hb
  obtain ⟨nm, q, N, bs, bm, sn, sub, ab, col, dd, k0, k1, k2, k3, k5, hC, hbm⟩ := T.cls
  obtain ⟨oc, od, dV, kV, doc, pm, an, ct, osl, lk, hbind⟩ := Y.fn
  obtain ⟨p0, p1, p2, p3, p4, p5, p6, p7, p8, p9, j, rfl, ⟨pl, hev⟩, hint⟩ := Y.bd
  obtain ⟨ccl, cdd, vs, ccs, file, tf, hcode, hvs, hfile⟩ := Y.code
  obtain ⟨cl, cld, csl, hcell⟩ := Y.cell
  obtain ⟨cdD, hD⟩ := Y.cls
  obtain ⟨ar, arr, harg, harn⟩ := Y.arg
  obtain ⟨mb, hb1, hb2⟩ := md.blt
  have ne : e ≠ C := fun z => by
    rw [z, X _ _ hC] at he
    cases he
  refine ks_codeAny_call_defAt (fd := fnX "__init__" qual params _ scope [("__class__", cc)] dV kV doc pm an (.ref cda) ct) (binds := [(("self" : Str), .ref e), (("value" : Str), u)]) hr (X _ _ lk) rfl (md.nolimit.keeps hb) (codeRec_of X Y.cd) rfl (BindsTo.of_eq (hbind _ _)) Y.s5 ?_ (fun h1 hns hk => ?_) Y.s6 Y.s7 Y.s8
  · intro x hx
    rcases List.mem_cons.mp hx with rfl | hx
    · exact Y.s3
    · rw [List.mem_singleton.mp hx]; exact Y.s4
  have hns : h1.Ns (ksEnv qual scope h.objs.size fI (.ref cda) cc).locals (fun x => [(("self" : Str), Value.ref e), (("value" : Str), u)].reverse.lookup x) := hns
  have X1 : K.In h1 := X.keeps hk
  have he1 := hk _ _ he
  have hb1' : ∀ b o, base.get? b = some o → h1.get? b = some o := fun b o z => hk _ _ (hb b o z)
  have hp : (params.posonlyargs ++ params.args).head? = some ar := by rw [harg]; rfl
  have v1 : ([(("self" : Str), Value.ref e), (("value" : Str), u)].reverse.lookup ("self" : Str)) = some (.ref e) := by rfl
  have v2 : ([(("self" : Str), Value.ref e), (("value" : Str), u)].reverse.lookup ("value" : Str)) = some u := by rfl
  have hcl : clsIn K C = some { name := nm, bases := bs, mro := .ref C :: bm, ns := N, qualname := q, hasDict := true, slotNames := sn, subclasses := sub, abstract := ab, collection := col, hasDel := false } := by unfold clsIn; rw [hC] <;> rfl
  have hsup := Y.sup
  unfold ks_superIn at hsup
  rw [hcl, Option.bind_some] at hsup
  obtain ⟨oD, hD1, hD2⟩ : ∃ oD, K.lookup D = some oD ∧ oD.data = .cls cdD := by
    unfold clsIn at hD
    split at hD
    · rename_i c d cd' sl ho
      cases hD
      exact ⟨_, ho, rfl⟩
    · cases hD
  show _root_.PySem.wpAt (model prog w) (A.deeper (ksEnv qual scope h.objs.size fI (.ref cda) cc)) (.func _ (ksEnv qual scope h.objs.size fI (.ref cda) cc)) (execs _ (ksEnv qual scope h.objs.size fI (.ref cda) cc)) _ _ _
  refine ks_wpAt_execs_cons (ks_wpAt_Expr_any (ks_wpAt_MethodCall (pl := pl) ?_ (hev _)) (hint _))
  refine ks_wpAt_super_base (env := ksEnv qual scope h.objs.size fI (.ref cda) cc) Y.s1 Y.s2 (by decide) rfl (X1 _ _ lk) rfl hp rfl (X1 _ _ hcode) rfl hvs hfile Y.top ?_
  refine ks_loadName_global Y.s8 Y.s1 (loadGlobal_builtin (env := ksEnv qual scope h.objs.size fI (.ref cda) cc) (md.glob.keeps hb1') hm (hb1.keeps hb1') ((hb2 _ (by decide +kernel)).trans (show bootBuiltins "super" = some (.type "super") by decide +kernel)) ⟨rfl, ?_⟩)
  refine wpAny_loadName_free Y.s8 Y.s2 rfl ⟨_, X1 _ _ hcell, rfl⟩ ?_
  rw [harn]
  refine wpAny_loadName_local Y.s8 Y.s3 hns v1 ?_
  refine ks_wpAny_isType_cls (X1 _ _ hD1) hD2 ⟨rfl, ?_⟩
  refine ks_wpAny_call_super (X1 _ _ hD1) hD2 he1 rfl (fun c z => by cases z) (looks_mroIn X1 Y.sub) (fun h2 e2 k2 => ?_)
  have X2 : K.In h2 := X1.keeps k2
  have he2 := k2 _ _ he1
  have I2 : InstAt h2 e (excObj C t0 none .none) C none := ⟨he2, rfl, rfl, trivial⟩
  refine kxs_getMethod kxs_ValueError e2 (looks_opaque X2 Y.opq) (l₀ := .ref C :: bm) ?_ rfl X2 hsup (I2.type.andThen (looks_subIn X2 Y.val)) ne (by decide) ?_
  · exact fun A Q E s k q => wpAny_bind ((looks_clsIn X2 hcl) A _ E s k (wpAny_pure q))
  have k3 : ∀ b o, h2.get? b = some o → (h2.push (kxs_mw "ValueError.__init__" e)).get? b = some o := fun b o z => Heap.get?_push_of_some _ z
  have X3 : K.In (h2.push (kxs_mw "ValueError.__init__" e)) := X2.keeps k3
  have hu3 : (h2.push (kxs_mw "ValueError.__init__" e)).get? h2.objs.size = some (kxs_mw "ValueError.__init__" e) := Heap.get?_push_at rfl rfl
  rw [show starEach [.Constant (.str m) j p3] (ksEnv qual scope h.objs.size fI (.ref cda) cc) = (false, eval (.Constant (.str m) j p3) (ksEnv qual scope h.objs.size fI (.ref cda) cc)) :: starEach [] (ksEnv qual scope h.objs.size fI (.ref cda) cc) from rfl]
  refine kxs_callWith (i := "ValueError.__init__") (x := e) rfl ?_
  refine evalArgs_plain (spliced_cons (Constant_str (k := j) (pos := p3) (spliced_nil ⟨hu3, ?_⟩)))
  refine call_mw (X3 _ _ hC) (k3 _ _ he2) hu3 (by show 1 ≤ sizeLine; rw [sizeLine_eq]; omega) fun h4 t1 k4 e4 => ?_
  have nK : ∀ {b : Addr} {o : Obj}, K.lookup b = some o → b ≠ e := fun {b o} z y => by
    have := md.kin _ _ z
    rw [y, hfe] at this
    cases this
  have X4 : K.In h4 := fun b o z => k4 b o (nK z) (X3 b o z)
  have eL : h.objs.size ≠ e := Nat.ne_of_gt (Heap.lt_size he)
  have hns4 : h4.Ns (ksEnv qual scope h.objs.size fI (.ref cda) cc).locals (fun x => [(("self" : Str), Value.ref e), (("value" : Str), u)].reverse.lookup x) := by
    obtain ⟨oL, es, ep, hL, r⟩ := hns
    exact ⟨oL, es, ep, k4 _ _ eL (k3 _ _ (k2 _ _ hL)), r⟩
  refine ks_wpAt_execs_cons (ks_wpAt_Assign_Attr (wpAt_of_wpAny ?_))
  refine ldL (env := ksEnv qual scope h.objs.size fI (.ref cda) cc) (m := fun x => [(("self" : Str), Value.ref e), (("value" : Str), u)].reverse.lookup x) (x := "value") ?_ v2 ?_ Y.s8 Y.s4
  · exact hns4
  refine ldL (env := ksEnv qual scope h.objs.size fI (.ref cda) cc) (m := fun x => [(("self" : Str), Value.ref e), (("value" : Str), u)].reverse.lookup x) (x := "self") ?_ v1 ?_ Y.s8 Y.s3
  · exact hns4
  refine set_plain X4 (ox := excObj C t1 none .none) (od := none) ⟨e4, rfl, rfl, trivial⟩ T.sa ?_
  refine HandSPX.exc_osa X4 e4 hcl (show HandSPX.refsVE (.ref C :: bm) = true from hbm) rfl Y.noA (fun h5 tk dx k5 dn dne hx hn => ?_)
  refine wpAt_of_wpAny (wpAny_pure ?_)
  have sz : h.objs.size ≤ h4.objs.size := by
    obtain ⟨oL, _, _, hL, _⟩ := hns4
    exact Nat.le_of_lt (Heap.lt_size (show h4.get? h.objs.size = some oL from hL))
  exact hq h5 tk t1 dx (fun b o hb' z => k5 b o hb' (k4 b o hb' (k3 _ _ (k2 _ _ (hk _ _ z))))) (Nat.le_trans sz dn) dne hx hn
end
end Xe
namespace L2
open PySem PySem.Spec PyProof.Rows
structure XeCl (prog : Program) (K : PySem.W.Frag) (mg : Str → Option Value) (x : Str) where
  C : Addr
  D : Addr
  fI : Addr
  cc : Addr
  cda : Addr
  qual : Str
  params : Arguments
  body : List Stmt
  scope : Scope
  m : Str
  T : OexC K C
  Y : Xe.Fa prog K C D fI cc cda qual params body scope m
  iC : PySem.W.findIn K (.ref C) "__init__" = some (some (.ref fI))
  tI : PySem.W.typeIn K (.ref fI) = some (.type "function")
  mx : mg x = some (.ref C)
  nsI : PySem.W.nsIn K mainGlobals x = some (some (.ref C))
  ms : mg "super" = none
def tMkV (C : Addr) (te : TA) : St → Hp → XK → Prop := fun σ H Q => te σ H fun vs H1 => ∃ y, vs = [y] ∧ ∀ dx, H1 dx = none → Q (.ref C) (some dx) (upd H1 dx (.xd [("value", y)]))
section
variable {X : Cx} {x : Str} {e : Expr} {p pos : Pos} {te : TA} {n : Nat}
theorem pmk_val (L : XeCl X.prog X.K X.mg x) (hr : Room n X.A) (hg : Gl X x) (ha : PA X [e] te)
    (hdb : (x == ("__debug__" : Str)) = false := by decide) (he : starEach [e] X.env = (false, eval e X.env) :: starEach [] X.env := by rfl) (hpl : (backTo pos (starEach [] X.env)).any (·.1) = false := by rfl) :
    PMk X (.Call (.Name x p) [e] [] pos) (tMkV L.C te) := by
  intro pins s σ H Q I h
  obtain ⟨nm, q, N, bs, bm, sn, sub, ab, col, dd, k0, k1, k2, k3, k5, hC, hbm⟩ := L.T.cls
  refine wpAny_Call_Name_kw (ld_glob I hg L.mx ?_ hdb)
  refine PySem.W.callWith_K (h₀ := X.base) I.ok.mod.kin L.T.kC (thn (ha.run pos pins s σ H _ I h) fun us s1 ⟨vs, H1, I1, r1, y, ev, q1⟩ => ⟨I1.kIn, ?_⟩) he hpl
  subst ev
  cases r1 with
  | @cons _ u _ us' ru rn =>
  cases rn
  show wpAny _ _ (call (.ref L.C) [u]) _ _ _
  have bsz := I1.env0.bsz
  have bk := I1.bk
  obtain ⟨hp, g, dr, tk, os⟩ := s1
  have kk : ∀ b o, hp.get? b = some o → ((hp.push (PySem.W.kdv_tup [u])).push (PySem.HandSPX.excO L.C hp.objs.size)).get? b = some o := fun b o e => Heap.get?_push_of_some _ (Heap.get?_push_of_some _ e)
  have hget : ((hp.push (PySem.W.kdv_tup [u])).push (PySem.HandSPX.excO L.C hp.objs.size)).get? (hp.objs.size + 1) = some (PySem.HandSPX.excO L.C hp.objs.size) := by heap_get
  have hfe : X.base.get? (hp.objs.size + 1) = none := by
    cases z : X.base.get? (hp.objs.size + 1) with
    | none => rfl
    | some o =>
      have h1 : (hp.objs.size + 1 : Nat) < X.base.objs.size := Heap.lt_size z
      have h2 : X.base.objs.size ≤ hp.objs.size := bsz
      exact absurd (Nat.lt_of_lt_of_le h1 h2) (by omega)
  have hn : H1 (hp.objs.size + 1) = none := I1.hok.fresh (Nat.le_succ _)
  refine wpAny_call (PySem.HandSPX.call_own F.excBase_ValueError (fun Y => PySem.HandSPX.refsVE_contains Y bm hbm) (I1.kIn _ _ hC) (PySem.W.looks_findIn I1.kIn L.iC) (fun self => PySem.W.bind_fn I1.kIn self L.tI) (by show 1 ≤ sizeLine; rw [sizeLine_eq]; omega)
    (Xe.init_val (e := hp.objs.size + 1) (t0 := hp.objs.size) L.T L.Y I1.ok.mod L.ms (fun b o z => kk b o (bk b o z)) hfe hget (by rw [make_depth]; have := hr.dp; omega) fun h' tk' t1 dx k dn dne hx hns => ?_))
  refine ⟨rfl, ?_⟩
  obtain ⟨G, g1', g2'⟩ := restrict h' fun b => decide (b ≠ hp.objs.size + 1)
  have gk : ∀ b, b ≠ hp.objs.size + 1 → G.get? b = h'.get? b := fun b hb => g1' b (decide_eq_true hb)
  have ge : G.get? (hp.objs.size + 1) = none := g2' _ (by simp)
  have nha : ∀ {b : Addr} {o : Obj}, hp.get? b = some o → b ≠ hp.objs.size + 1 := fun {b o} z => Nat.ne_of_lt (Nat.lt_succ_of_lt (Heap.lt_size z))
  have sz : hp.objs.size ≤ dx := by
    have : ((hp.push (PySem.W.kdv_tup [u])).push (PySem.HandSPX.excO L.C hp.objs.size)).objs.size ≤ dx := dn
    have h2 : (hp.objs.size + 1 : Nat) < ((hp.push (PySem.W.kdv_tup [u])).push (PySem.HandSPX.excO L.C hp.objs.size)).objs.size := Heap.lt_size hget
    exact Nat.le_trans (Nat.le_of_lt (Nat.lt_of_le_of_lt (Nat.le_succ _) h2)) this
  have hdx : H1 dx = none := I1.hok.fresh sz
  have J : Inv X pins σ (upd H1 dx (.xd [("value", y)])) ⟨G, g, dr, tk', os⟩ := I1.laid (t' := tk') (a := dx) (o := .xd [("value", y)]) (h' := G) (fun b o z => (gk b (nha z)).trans (k b o (nha z) (kk b o z))) sz
    ⟨_, hns.at fun o z => (gk dx dne).trans z, relO_put (fs := []) ru fun g => True.intro⟩
  refine ⟨hp.objs.size + 1, _, _, ⟨G, g, dr, tk', os⟩, _, .ref L.C, some dx, rfl, J, fun b o z => ?_, ge, hx, ⟨rfl, rfl⟩, rfl, rfl, ?_, rfl, I1.bare, raises_own L.T.exC L.T.tyC, q1 dx hdx⟩
  · by_cases hb : b = hp.objs.size + 1
    · rw [hb, ge] at z; cases z
    · exact (gk b hb).symm.trans z
  · rw [upd_ne (Ne.symm dne)]; exact hn
end
end L2
namespace L2
open PySem PySem.Spec PyProof.Rows
def ExT (cls : Value) (d : Option Addr) (a : Addr) : HO := .ext fun h => ∃ o fv, h.get? a = some o ∧ o.cls = cls ∧ o.dict = d ∧ o.data = .fields fv
theorem exT_ok {P : Program} {w : World} {H : Hp} {h : Heap} {a : Addr} {cls : Value} {d : Option Addr} {oe : Obj} {vs : Array Value} (e : h.get? a = some oe) (z : Zc cls d oe) (hd : oe.data = .fields vs) : ObjOk P w H h a (ExT cls d a) :=
  ⟨⟨oe, vs, e, z.1, z.2, hd⟩, ⟨_, e⟩, fun h1 h2 z k => by
    obtain ⟨o, fv, e1, e2, e3, e4⟩ := z
    exact ⟨o, fv, k _ e1, e2, e3, e4⟩⟩
section
variable {X : Cx} {pins : List (Addr × Obj)} {σ : St} {H : Hp} {s : Shared}
theorem Inv.track {a : Addr} {o : HO} (I : Inv X pins σ H s) (na : H a = none) (h0 : X.s_0.heap.get? a = none) (np : ∀ p ∈ X.pn ++ pins, p.1 ≠ a) (nL : X.env.locals ≠ a) (nc : ∀ x c, X.env.cells.lookup x = some c → c ≠ a) (new : ObjOk X.prog X.w (upd H a o) s.heap a o) : Inv X pins σ (upd H a o) s :=
  ⟨I.ok, I.os, I.bare, ⟨I.base.keep, I.base.slot, fun b u e n hb => by
      rw [upd_ne (fun z => by rw [z, h0] at e; cases e)]
      exact I.base.free b u e n hb, I.base.there, fun b xs e => by
      have q := I.base.tups b xs e
      rw [upd_ne (ne_of_none q na)]; exact q, fun b o' v e => by
      have q := I.base.frzs b o' v e
      rw [upd_ne (ne_of_none q na)]; exact q, fun b ps e => by
      obtain ⟨more, q⟩ := I.base.tbls b ps e
      exact ⟨more, by rw [upd_ne (ne_of_none q na)]; exact q⟩⟩, I.loc, I.cell, by rw [upd_ne nL]; exact I.free, fun x c e => by rw [upd_ne (nc x c e)]; exact I.freeC x c e,
    fun p hp => by
      obtain ⟨p1, p2, p3⟩ := I.pin p hp
      exact ⟨p1, by rw [upd_ne (np p hp)]; exact p2, p3⟩, fun b u e => by
      by_cases hb : b = a
      · subst hb
        rw [upd_same] at e
        cases e
        exact new
      · rw [upd_ne hb] at e
        exact (I.hok b u e).stay (fun c v _ q => q) (fun c q => by rw [upd_ne (ne_of_none q na)]; exact q) (fun c xs q => by rw [upd_ne (ne_of_none q na)]; exact q), I.len⟩
theorem Inv.suiteT (I : Inv X pins σ H s) (a : Addr) : Inv (X.suite a (X.pn ++ pins)) [] σ H s :=
  ⟨I.ok.suite _ _, I.os, I.bare, I.base, I.loc, I.cell, I.free, I.freeC, fun p hp => I.pin p (by rw [List.append_nil] at hp; exact hp), I.hok, I.len⟩
theorem Inv.unsuiteT {a : Addr} {pn' : List (Addr × Obj)} (I : Inv (X.suite a (X.pn ++ pins)) pn' σ H s) (ok : X.Ok) : Inv X pins σ H s :=
  ⟨ok, I.os, I.bare, I.base, I.loc, I.cell, I.free, I.freeC, fun p hp => I.pin p (List.mem_append_left _ hp), I.hok, I.len⟩
end
def wTrk (K : PySem.W.Frag) (c : Value) (i : Nat) (ts : TS) (Wout : WX) (D : Ends) : WX := fun cls d σ H =>
  ∃ b, PySem.W.exmOne K cls c = some b ∧ (b = true → ∀ a, H a = none → ts { nx := fun σ' H' => D.nx (σ'.set i none) H', rt := D.rt, bk := fun σ' H' => D.bk (σ'.set i none) H', ct := fun σ' H' => D.ct (σ'.set i none) H' } (σ.set i (some (.ref a))) (upd H a (ExT cls d a))) ∧
    (b = false → Wout cls d σ H)
section
variable {X : Cx} {pins pins' : List (Addr × Obj)} {σ : St} {H : Hp} {B : Heap} {a : Addr} {cls : Value} {d : Option Addr} {x n : Str} {c : Value} {i : Nat} {np pos pos' : Pos} {suite : List Stmt} {b₀ : Stmt} {ts : TS} {Wout : WX} {D : Ends}
structure Strange (X : Cx) (pins : List (Addr × Obj)) (a : Addr) : Prop where
  loc : X.env.locals ≠ a
  old : X.s_0.heap.get? a = none
  pin : ∀ p ∈ X.pn ++ pins, p.1 ≠ a
  cell : ∀ y k, X.env.cells.lookup y = some k → k ≠ a
theorem strange_of {sI : Shared} {h : Heap} {Z : Obj → Prop} (hs : X.stack = X.env :: X.outer) (hex : X.ex = []) (hf : X.env.frame = some X.env.locals) (J : Inv X pins σ H sI) (nb : ∀ b o, sI.heap.get? b = some o → b ∉ frs X.stack → B.get? b = some o) (fl : HandSPX.FlyingZ B (X.env :: X.outer) a Z h) : Strange X pins a := by
  obtain ⟨_, new, ff, _⟩ := id fl
  obtain ⟨o, vs, e, _, dd⟩ := fl.there
  have notFrame : a ∉ frs (X.env :: X.outer) := fun m => by
    obtain ⟨_, o', e', no⟩ := ff.mem m
    rw [e] at e'
    injection e' with e'
    exact no vs (by rw [← e']; exact dd)
  have none_ : sI.heap.get? a = none := Option.eq_none_iff_forall_ne_some.mpr fun o z => by
    have := nb a o z (by rw [hs]; exact notFrame)
    rw [new] at this; cases this
  have absent : ∀ {b : Addr} {o : Obj}, sI.heap.get? b = some o → b ≠ a := fun {b o} q z => by
    rw [z, none_] at q; cases q
  refine ⟨fun z => ?_, ?_, fun p hp => absent (J.pin p hp).1, fun y k q => ?_⟩
  · exact notFrame (List.mem_filterMap.mpr ⟨X.env, List.mem_cons_self, by rw [hf, z]⟩)
  · cases z : X.s_0.heap.get? a with
    | none => rfl
    | some o =>
      obtain ⟨o', q⟩ := J.base.there a o z (by rw [hex]; exact fun y => nomatch y)
      exact absurd rfl (absent q)
  · obtain ⟨v, o, q', _⟩ := J.cell y k q
    exact absent q'
theorem clause_name {s : Shared} (J : Inv X pins σ H s) (hc : Names X x c) {Q : Value → Shared → Prop} {E : Value → Shared → Prop} (q : Q c s) : wpAny (model X.prog X.w) (X.A.mark (some (.ref a))) (eval (.Name x np) X.env) Q E s := by
  have S := J.suiteT a
  obtain ⟨g, db, m | ⟨m, hv, nn⟩⟩ := hc
  · exact ld_glob (X := X.suite a (X.pn ++ pins)) S g m q db
  · exact ld_blt (X := X.suite a (X.pn ++ pins)) S g m hv q nn db
theorem clause_end {s : Shared} {σ6 : St} {H6 : Hp} (ok : X.Ok) (hN : X.N.Nodup) (hi : X.N[i]? = some n) (hln : X.env.kindOf n = some .local) (S : Inv (X.suite a (X.pn ++ pins)) [] σ6 H6 s) {Q : Shared → Prop} (q : ∀ s7, Inv X pins (σ6.set i none) H6 s7 → Q s7) :
    wpAny (model X.prog X.w) X.A (do bindName X.env n .none; unbindBehindTheSuite X.env n pos') (fun _ s7 => Q s7) X.xe s := gone_ok (S.unsuiteT ok) hN hi hln q
theorem clause_flow {s : Shared} {f : Flow} (ok : X.Ok) (hN : X.N.Nodup) (hi : X.N[i]? = some n) (hln : X.env.kindOf n = some .local)
    (h : SP (X.suite a (X.pn ++ pins)) [] { nx := fun σ' H' => D.nx (σ'.set i none) H', rt := D.rt, bk := fun σ' H' => D.bk (σ'.set i none) H', ct := fun σ' H' => D.ct (σ'.set i none) H' } f s) :
    wpAny (model X.prog X.w) X.A (do bindName X.env n .none; unbindBehindTheSuite X.env n pos') (fun _ s7 => SP X pins D f s7) X.xe s := by
  cases f with
  | next => obtain ⟨_, _, S, q⟩ := h; exact clause_end ok hN hi hln S fun s7 J7 => ⟨_, _, J7, q⟩
  | brk => obtain ⟨_, _, S, q⟩ := h; exact clause_end ok hN hi hln S fun s7 J7 => ⟨_, _, J7, q⟩
  | cont => obtain ⟨_, _, S, q⟩ := h; exact clause_end ok hN hi hln S fun s7 J7 => ⟨_, _, J7, q⟩
  | ret u => obtain ⟨_, _, _, S, r, q⟩ := h; exact clause_end ok hN hi hln S fun s7 J7 => ⟨_, _, _, J7, r, q⟩
theorem body_flow {s : Shared} {f : Flow} {pn' : List (Addr × Obj)} {xe : Value → Shared → Prop} (ok : X.Ok) (h : SP (X.tr (X.pn ++ pins) xe) [] D f s) :
    SP X pins D f s := by
  cases f with
  | next => obtain ⟨_, _, J, q⟩ := h; exact ⟨_, _, J.ofTry ok, q⟩
  | brk => obtain ⟨_, _, J, q⟩ := h; exact ⟨_, _, J.ofTry ok, q⟩
  | cont => obtain ⟨_, _, J, q⟩ := h; exact ⟨_, _, J.ofTry ok, q⟩
  | ret u => obtain ⟨_, _, _, J, r, q⟩ := h; exact ⟨_, _, _, J.ofTry ok, r, q⟩
end
section
variable {X : Cx} {x n : Str} {c : Value} {i : Nat} {body suite : List Stmt} {b₀ : Stmt} {np pos pos' : Pos} {tb : WX → TS} {ts : TS} {Wout : WX}
theorem ps_try_trk (hs : X.stack = X.env :: X.outer) (hex : X.ex = []) (hf : X.env.frame = some X.env.locals) (hN : X.N.Nodup) (hi : X.N[i]? = some n) (hln : X.env.kindOf n = some .local) (hc : Names X x c) (tk : Takes X Wout)
    (hb : ∀ (W : WX) (pn : List (Addr × Obj)) (xe : Value → Shared → Prop), Takes (X.tr pn xe) W → PassesOwn (model X.prog X.w) X.A X.env xe → PSs (X.tr pn xe) body (tb W))
    (hsu : ∀ (a : Addr) (pn : List (Addr × Obj)), PSs (X.suite a pn) (b₀ :: suite) ts) :
    PS X (.Try body [.ExceptHandler (some (.Name x np)) (some n) (b₀ :: suite) pos'] [] [] pos) (fun D σ H => tb (wTrk X.K c i ts Wout D) D σ H) := by
  constructor
  intro pins s0 σ0 H0 D I wish
  have ok := I.ok
  -- what the body's exceptions meet
  have meets : Takes (X.tr (X.pn ++ pins) fun e s₁ => wpAny (model X.prog X.w) X.A (noteFrame e X.env) (fun _ s₂ => wpAny (model X.prog X.w) X.A (setFlight e none) (fun _ s₃ =>
      wpAny (model X.prog X.w) X.A (handleBy e X.env [.ExceptHandler (some (.Name x np)) (some n) (b₀ :: suite) pos']) (SP X pins D) X.xe s₃) X.xe s₂) X.xe s₁) (wTrk X.K c i ts Wout D) := by
    intro u s met
    obtain ⟨a, B, sI, pins', σ, H, cls, d, rfl, tried, nb, up, sky, na, os, ag, yes, one, onYes, onNo⟩ := met
    have J : Inv X pins σ H sI := tried.ofTry ok
    refine Sky.land Zc.steady (by rw [ok.frames, hs]) hf (by rw [← hs]; exact sky) fun h1 fl1 up1 => ?_
    have st := strange_of hs hex hf J nb fl1
    have J1 : Inv X pins σ H { s with heap := h1 } := J.landed nb fl1.1 (up.trans up1) os ag
    obtain ⟨o1, _, there1, z1, _⟩ := fl1.there
    refine wpAny_handleBy_cons (codeAny_handlers_test (clause_name J1 hc ((PySem.W.exm_one (M := model X.prog X.w) J1.kIn (fun A Q E s k q => wpAny_typeOf_ref (k _ _ there1) (by rw [z1.1]; exact q)) one).here ?_))) (fun q => nomatch q)
    cases yes with
    | false =>
      refine wpAny_handleBy_nil ?_
      obtain ⟨_, _, _, o2, vs2, T, _, _, there2, _, data2, link, _⟩ := id fl1
      unfold PySem.passOn
      refine wpAny_bind (wpAny_field there2 data2 link ?_)
      rw [if_neg (by simp)]
      have on : wpAny (model X.prog X.w) X.A (setFlight (.ref a) X.env.frame) (fun _ s4 => wpAny (model X.prog X.w) X.A (throw (.ref a) : Sem Flow) (SP X pins D) X.xe s4) X.xe { s with heap := h1 } := by
        rw [hf]
        exact HandSPX.setFlight_upZ fl1 fun h2 held up2 => wpAny_throw (tk _ _ ⟨a, B, sI, pins, σ, H, cls, d, rfl, J, nb, (up.trans up1).trans up2, .inr (.inr (by rw [hs]; exact held)), na, os, ag, onNo rfl⟩)
      first
        | exact wpAny_bind (wpAny_pure (wpAny_bind on))
        | exact wpAny_bind on
    | true =>
      refine codeAny_handlers_suite_as (HandSPX.lands_againZ fl1 fun h2 fl2 up2 => ?_)
      obtain ⟨o2, _, there2, z2, data2⟩ := fl2.there
      have J2 : Inv X pins σ H { s with heap := h2 } := J.landed nb fl2.1 ((up.trans up1).trans up2) os ag
      have T2 := J2.track na st.old st.pin st.loc st.cell (exT_ok there2 z2 data2)
      exact store_ok (X := X.suite a (X.pn ++ pins)) (v := .ref a) (T2.suiteT a) hN hi (.inl hln) rfl (fun s3 S3 =>
        wpAny_mono ((hsu a (X.pn ++ pins)).run [] s3 _ _ _ S3 (onYes rfl a na)) (fun f s4 h4 => clause_flow ok hN hi hln h4) fun _ _ z => z.elim) (.inr hln)
  refine wpAny_Try_except (wpAny_mono ((hb _ _ _ meets PassesOwn.looking).run [] s0 σ0 H0 D (I.toTry _) wish) (fun f s1 h1 => ?_) fun e s1 h1 => h1)
  have h2 := body_flow (pn' := []) ok h1
  cases f with
  | next => exact wpAny_execs_nil h2
  | brk => exact h2
  | cont => exact h2
  | ret u => exact h2
end
end L2
namespace Dv
open PySem L2
def exc1 (c : Str) (ds : List D) (s : Sto) : R Unit := match ds with
  | [d] => .exc c d s
  | _ => .bad
def sRaise (c : Str) (as : Ar) : S := fun s => kR ((as s).bind fun os s1 => (takeAll os s1).bind fun ds s2 => exc1 c ds s2) fun _ _ => .bad
section
variable {X : Cx} {W : WX}
theorem ss_raise {x : Str} {p pos pos' : Pos} {e : Expr} {fs : Ar} {n : Nat} (L : XeCl X.prog X.K X.mg x) (hc : X.calm = true) (tk : Takes X W) (hr : Room n X.A) (hg : Gl X x) (ha : SA X W [e] fs)
    (hdb : (x == ("__debug__" : Str)) = false := by decide) (he : starEach [e] X.env = (false, eval e X.env) :: starEach [] X.env := by rfl) (hpl : (backTo pos (starEach [] X.env)).any (·.1) = false := by rfl) :
    SS X W (.Raise (some (.Call (.Name x p) [e] [] pos)) none pos') (sRaise x fs) := by
  refine ⟨fun Φ => psImp (ps_raise hc tk (pmk_val L hr.rm hg (ha.pa Φ) hdb he hpl)) fun D σ H h => ?_⟩
  obtain ⟨Pr, st, S, h⟩ := h
  refine ⟨Pr, st, S, (Aft.bind (kR_of trivial h)).imp fun os s1 P1 H1 l1 S1 h1 P2 vs l2 S2 ks => ?_⟩
  obtain ⟨ds, s2, P3, et, l3, S3, r, h2⟩ := takeAll_of S2 ks (h1.mono l2)
  cases ds with
  | nil => exact h2.elim
  | cons d ds =>
    cases ds with
    | cons _ _ => exact h2.elim
    | nil =>
      unfold Reps at r
      obtain ⟨y, r0, rfl, r1, r2⟩ := r
      unfold Reps at r2
      subst r2
      refine ⟨y, rfl, fun dx hdx => ?_⟩
      have le := Le.upd (o := .xd [("value", y)]) (S3.fresh hdx).1
      exact h2 _ _ L.C dx y le (S3.laid hdx fun _ _ z => nomatch z) L.nsI upd_same (Rep.mono le d r1)
def goneO (i : Nat) : Out → Out
  | .nxt s => .nxt (s.set i .un)
  | .brk s => .brk (s.set i .un)
  | .cnt s => .cnt (s.set i .un)
  | .ret (.val d) s => .ret (.val d) s
  | _ => .bad
def sTry (cat : Str → Option Bool) (i : Nat) (body suite : S) : S := fun s => match body s with
  | .exc c v s1 => match cat c with
    | some true => if i < s1.length then goneO i (suite (s1.set i (.val (.exc c v)))) else .bad
    | some false => .exc c v s1
    | none => .bad
  | o => o
theorem Sim.forget {K : PySem.W.Frag} {Φ : Fr0} {Pr H : Hp} {st : Sto} {σ : L2.St} (S : Sim K Φ Pr st σ H) (i : Nat) : Sim K Φ Pr (st.set i .un) (σ.set i none) H := by
  refine ⟨by simpa using S.len, S.inn, S.le0, fun j r q => ?_, fun j k r r' b q1 q2 m1 m2 s1 s2 => ?_, S.frame, S.newp, S.locks, S.lkin, S.lent⟩
  · by_cases ej : j = i
    · subst ej
      have hj : j < st.length := by
        have := (List.getElem?_eq_some_iff.mp q).1
        rwa [List.length_set] at this
      rw [List.getElem?_set_self hj] at q
      cases q
      exact ⟨_, List.getElem?_set_self (by rw [← S.len]; exact hj), trivial⟩
    · rw [List.getElem?_set_ne (Ne.symm ej)] at q
      rw [List.getElem?_set_ne (Ne.symm ej)]
      exact S.slots j r q
  · have nj : ∀ {j : Nat} {r : Slot}, (st.set i .un)[j]? = some r → r.mut = true → j ≠ i ∧ st[j]? = some r := fun {j r} q m => by
      by_cases ej : j = i
      · subst ej
        have hj : j < st.length := by
          have := (List.getElem?_eq_some_iff.mp q).1
          rwa [List.length_set] at this
        rw [List.getElem?_set_self hj] at q
        cases q; cases m
      · rw [List.getElem?_set_ne (Ne.symm ej)] at q
        exact ⟨ej, q⟩
    obtain ⟨n1, q1⟩ := nj q1 m1
    obtain ⟨n2, q2⟩ := nj q2 m2
    rw [List.getElem?_set_ne (Ne.symm n1)] at s1
    rw [List.getElem?_set_ne (Ne.symm n2)] at s2
    exact S.apart j k r r' b q1 q2 m1 m2 s1 s2
theorem gone_of {Φ : Fr0} {D : Ends} {Pr : Hp} {i : Nat} {o : Out} (h : OutOk X Φ W D Pr (goneO i o)) :
    OutOk X Φ (fun _ _ _ _ => False) { nx := fun σ' H' => D.nx (σ'.set i none) H', rt := D.rt, bk := fun σ' H' => D.bk (σ'.set i none) H', ct := fun σ' H' => D.ct (σ'.set i none) H' } Pr o := by
  cases o with
  | nxt s => exact fun Pr' σ' H' le S => h Pr' _ H' le (S.forget i)
  | brk s => exact fun Pr' σ' H' le S => h Pr' _ H' le (S.forget i)
  | cnt s => exact fun Pr' σ' H' le S => h Pr' _ H' le (S.forget i)
  | ret o s =>
    cases o with
    | val d => exact fun Pr' σ' H' v le S rv => h Pr' σ' H' v le S rv
    | _ => exact h.elim
  | exc c v s => exact h.elim
  | bad => exact h.elim
theorem ss_try {x n : Str} {i : Nat} {body suite : List Stmt} {b₀ : Stmt} {np pos pos' : Pos} {cat : Str → Option Bool} {fb fu : S} {C : Addr}
    (fx : X.stack = X.env :: X.outer ∧ X.ex = [] ∧ X.env.frame = some X.env.locals) (hN : X.N.Nodup) (hi : X.N[i]? = some n) (hln : X.env.kindOf n = some .local) (hc : Names X x (.ref C)) (tk : Takes X W)
    (hcat : ∀ c b D, cat c = some b → PySem.W.nsIn X.K mainGlobals c = some (some (.ref D)) → PySem.W.exmOne X.K (.ref D) (.ref C) = some b)
    (hb : ∀ (V : WX) (pn : List (Addr × Obj)) (xe : Value → Shared → Prop), Takes (X.tr pn xe) V → PassesOwn (model X.prog X.w) X.A X.env xe → SSs (X.tr pn xe) V body fb)
    (hu : ∀ (a : Addr) (pn : List (Addr × Obj)), SSs (X.suite a pn) (fun _ _ _ _ => False) (b₀ :: suite) fu) :
    SS X W (.Try body [.ExceptHandler (some (.Name x np)) (some n) (b₀ :: suite) pos'] [] [] pos) (sTry cat i fb fu) := by
  refine ⟨fun Φ => psImp (ps_try_trk (tb := fun V => tS X Φ V fb) (ts := tS X Φ (fun _ _ _ _ => False) fu) (i := i) (Wout := W) fx.1 fx.2.1 fx.2.2 hN hi hln hc tk (fun V pn xe t p => (hb V pn xe t p).pss Φ) (fun a pn => (hu a pn).pss Φ)) fun D σ H h => ?_⟩
  obtain ⟨Pr, st, S, h⟩ := h
  refine ⟨Pr, st, S, ?_⟩
  unfold sTry at h
  cases eb : fb st with
  | nxt s => rw [eb] at h; exact h
  | ret o s => rw [eb] at h; exact h
  | brk s => rw [eb] at h; exact h
  | cnt s => rw [eb] at h; exact h
  | bad => rw [eb] at h; exact h
  | exc c v s1 =>
    rw [eb] at h
    simp only at h
    intro Pr' σ' H' C' dx y le S' ns xd rv
    cases ec : cat c with
    | none => rw [ec] at h; exact h.elim
    | some b =>
      rw [ec] at h
      refine ⟨b, hcat c b C' ec ns, fun hb' a na => ?_, fun hb' => ?_⟩
      · subst hb'
        simp only at h
        by_cases hl : i < s1.length
        · rw [if_pos hl] at h
          have nP : Pr' a = none := (S'.fresh na).1
          have le2 := Le.upd (o := ExT (.ref C') (some dx) a) nP
          have S2 := S'.laid (o := ExT (.ref C') (some dx) a) na fun _ _ z => by
            have z' : HO.ext _ = HO.frz _ _ := z
            cases z'
          have rx : Rep X.K (upd Pr' a (ExT (.ref C') (some dx) a)) (.exc c v) (.ref a) := by
            unfold Rep
            exact ⟨a, C', dx, y, rfl, ns, upd_same, by rw [upd_ne (ne_of_none xd nP)]; exact xd, Rep.mono le2 v rv⟩
          refine ⟨_, _, S2.assign (i := i) (t := .val (.exc c v)) (List.getElem?_eq_getElem hl) ⟨_, rfl, rx⟩ fun m => ?_, gone_of (h.mono (le.trans le2))⟩
          cases m
        · rw [if_neg hl] at h; exact h.elim
      · subst hb'
        exact h Pr' σ' H' C' dx y le S' ns xd rv
end
end Dv
namespace Dv
open PySem L2
def subC (c x : Str) : Bool := c == x || x == ("StepError" : Str)
def xaB (K : PySem.W.Frag) (C : Addr) : Bool := xfB K C && (decide (PySem.W.findIn K (.ref C) "value" = some none) && ((PySem.W.clsIn K C).isSome && (decide (PySem.W.findIn K (.ref C) "__class__" = some (some (.builtin "object.__class__"))) &&
  (decide (PySem.W.specialIn K (.builtin "object.__class__") "__get__" = some (some (.builtin "getset_descriptor.__get__"))) && (decide (PySem.W.takesIn K (.builtin "object.__class__") = some true) && decide (PySem.W.mroIn K C (.type "object") = some true))))))
structure Xa (K : PySem.W.Frag) (C : Addr) : Prop where
  f : XfC K C
  v : PySem.W.findIn K (.ref C) "value" = some none
  c : (PySem.W.clsIn K C).isSome = true
  a : PySem.W.findIn K (.ref C) "__class__" = some (some (.builtin "object.__class__"))
  n : PySem.W.specialIn K (.builtin "object.__class__") "__get__" = some (some (.builtin "getset_descriptor.__get__"))
  t : PySem.W.takesIn K (.builtin "object.__class__") = some true
  m : PySem.W.mroIn K C (.type "object") = some true
theorem xa_of {K : PySem.W.Frag} {C : Addr} (h : xaB K C = true) : Xa K C := by
  unfold xaB at h
  simp only [Bool.and_eq_true, decide_eq_true_eq] at h
  obtain ⟨h1, h2, h3, h4, h5, h6, h7⟩ := h
  exact ⟨xfB_ok h1, h2, h3, h4, h5, h6, h7⟩
def addrB (K : PySem.W.Frag) (c : Str) : Option Addr := match PySem.W.nsIn K mainGlobals c with
  | some (some (.ref C)) => some C
  | _ => none
theorem addr_of {K : PySem.W.Frag} {c : Str} {C : Addr} (h : PySem.W.nsIn K mainGlobals c = some (some (.ref C))) : addrB K c = some C := by unfold addrB; rw [h]
def xsB (K : PySem.W.Frag) (names : List Str) : Bool := (names.all fun c => match addrB K c with
  | some C => xaB K C && (names.all fun x => match addrB K x with
    | some D => decide (PySem.W.kitOne K (.ref C) (.ref D) = some (subC c x)) && decide (PySem.W.exmOne K (.ref C) (.ref D) = some (subC c x))
    | none => false)
  | none => false)
structure Xs (K : PySem.W.Frag) (names : List Str) : Prop where
  one : ∀ c ∈ names, ∀ C, PySem.W.nsIn K mainGlobals c = some (some (.ref C)) → Xa K C
  two : ∀ c ∈ names, ∀ x ∈ names, ∀ C D, PySem.W.nsIn K mainGlobals c = some (some (.ref C)) → PySem.W.nsIn K mainGlobals x = some (some (.ref D)) →
    PySem.W.kitOne K (.ref C) (.ref D) = some (subC c x) ∧ PySem.W.exmOne K (.ref C) (.ref D) = some (subC c x)
theorem xs_of {K : PySem.W.Frag} {names : List Str} (h : xsB K names = true) : Xs K names := by
  have h1 : ∀ c ∈ names, ∀ C, PySem.W.nsIn K mainGlobals c = some (some (.ref C)) → xaB K C = true ∧ (names.all fun x => match addrB K x with
    | some D => decide (PySem.W.kitOne K (.ref C) (.ref D) = some (subC c x)) && decide (PySem.W.exmOne K (.ref C) (.ref D) = some (subC c x))
    | none => false) = true := fun c hc C hC => by
    have := List.all_eq_true.mp h c hc
    rw [addr_of hC] at this
    exact Bool.and_eq_true_iff.mp this
  refine ⟨fun c hc C hC => xa_of (h1 c hc C hC).1, fun c hc x hx C D hC hD => ?_⟩
  have := List.all_eq_true.mp (h1 c hc C hC).2 x hx
  rw [addr_of hD] at this
  obtain ⟨q1, q2⟩ := Bool.and_eq_true_iff.mp this
  exact ⟨of_decide_eq_true q1, of_decide_eq_true q2⟩
def catB (names : List Str) (x : Str) (c : Str) : Option Bool := if c ∈ names ∧ x ∈ names then some (subC c x) else none
def isiX (names : List Str) : List D → Option Opd
  | [.exc c _, .cls x] => if c ∈ names ∧ x ∈ names then some (.val (.bl (subC c x))) else none
  | _ => none
def valX (names : List Str) : D → Option Opd
  | .exc c v => if c ∈ names then some (.val v) else none
  | _ => none
section
variable {X : Cx} {W : WX} {names : List Str}
theorem pk_exc {K : PySem.W.Frag} {Φ : Fr0} {Pr H : Hp} {st : Sto} {σ : L2.St} {c : Str} {w : D} {v : V} (S : Sim K Φ Pr st σ H) (h : Pk K Pr H (.exc c w) v) : ∃ a C dx y, v = .ref a ∧ PySem.W.nsIn K mainGlobals c = some (some (.ref C)) ∧ H a = some (ExT (.ref C) (some dx) a) ∧ H dx = some (.xd [("value", y)]) ∧ Rep K Pr w y := by
  have nd : ∀ {b : Addr} {o : HO}, Pr b = some o → ¬ isDict o → H b = some o := fun {b o} e n => by
    rcases S.inn b o e with z | ⟨_, z, _⟩
    · exact z
    · exact absurd z n
  rcases h with h | ⟨a, o, _, _, h⟩
  · unfold Rep at h
    obtain ⟨a, C, dx, y, e, ns, h1, h2, r⟩ := h
    exact ⟨a, C, dx, y, e, ns, nd h1 id, nd h2 id, r⟩
  · unfold Cont at h; split at h <;> first | exact h.elim | contradiction
theorem exT_at {P : Program} {w : World} {H : Hp} {h : Heap} {a C dx : Addr} {y : V} (hok : HOk P w H h) (h1 : H a = some (ExT (.ref C) (some dx) a)) (h2 : H dx = some (.xd [("value", y)])) :
    ∃ (oe od : Obj) (u : Value), PySem.W.InstAt h a oe C (some od) ∧ PySem.W.lookIn "value" od = some (some u) ∧ RelV y u := by
  have x1 : ObjOk P w H h a (.ext fun h => ∃ o fv, h.get? a = some o ∧ o.cls = .ref C ∧ o.dict = some dx ∧ o.data = .fields fv) := hok a _ h1
  obtain ⟨o, fv, e1, e2, e3, e4⟩ := x1.1
  have x2 : ObjOk P w H h dx (.xd [("value", y)]) := hok dx _ h2
  obtain ⟨mA, hns, hr⟩ := x2
  obtain ⟨od, ho, hl⟩ := lookIn_ns hns
  obtain ⟨u, hu, ru⟩ := RelO.some_of (v := y) (o := mA "value") (hr "value")
  exact ⟨o, od, u, ⟨e1, e2, by unfold PySem.W.notCls; rw [e4] <;> rfl, by rw [e3]; exact ho⟩, by rw [hl, hu], ru⟩
theorem call_isX : CallR X (.builtin "isinstance") (fun xs H Q => ∃ (a C D dx : Addr) (y : V) (b : Bool), xs = [.ref a, .ref D] ∧ H a = some (ExT (.ref C) (some dx) a) ∧ H dx = some (.xd [("value", y)]) ∧ Xa X.K C ∧ PySem.W.kitOne X.K (.ref C) (.ref D) = some b ∧ Q (.bl b) H) := by
  intro pins s σ H xs us Q I r h
  obtain ⟨a, C, D, dx, y, b, rfl, h1, h2, xa, e, q⟩ := h
  cases r with
  | cons rx rr =>
    cases rr with
    | cons rt rr =>
      cases rr
      cases rx
      cases rt
      obtain ⟨oe, od, u, J, _, _⟩ := exT_at I.hok h1 h2
      exact PySem.W.kia_one (PySem.W.kitx_exc xa.c xa.f.ga xa.f.gg xa.f.exC xa.a xa.n xa.t xa.m) I.kIn J e (fun z => nomatch z) fun tk => ⟨.bl b, H, I.kept (t' := tk) fun _ _ z => z, rfl, q⟩
theorem cs_isX (x : Xs X.K names) : CallS X (.builtin "isinstance") (isiX names) := by
  refine ⟨_, call_isX, ?_⟩
  intro Φ Pr st σ H ds vs o Q S ks e q
  unfold isiX at e
  split at e
  · split at e
    · rename_i hm
      cases e
      cases ks with
      | cons k1 ks =>
        cases ks with
        | cons k2 ks =>
          cases ks
          obtain ⟨a, C, dx, y, rfl, ns, h1, h2, r⟩ := pk_exc S k1
          obtain ⟨D, rfl, nd⟩ := k2.cls
          exact ⟨a, C, D, dx, y, _, rfl, h1, h2, x.one _ hm.1 C ns, (x.two _ hm.1 _ hm.2 C D ns nd).1, q Pr H _ (Le.refl _) S ro_bl⟩
    · cases e
  · cases e
def tVal (K : PySem.W.Frag) (te : TE) : TE := fun σ H Q => te σ H fun x H1 => ∃ (a C dx : Addr) (y : V), x = .ref a ∧ H1 a = some (ExT (.ref C) (some dx) a) ∧ H1 dx = some (.xd [("value", y)]) ∧ Xa K C ∧ Q y H1
theorem pe_val {e : Expr} {te : TE} {pos : Pos} (he : PE X e te) (hb : attributeBase e "value" X.env (eval e X.env) = eval e X.env := by rfl) : PE X (.Attribute e "value" pos) (tVal X.K te) := by
  refine ⟨fun pins s σ H Q I h => ?_⟩
  refine attr_of hb (thn (he.run pins s σ H _ I h) fun u s1 hh => ?_)
  obtain ⟨x, H1, I1, rx, a, C, dx, y, ex, h1, h2, xa, q⟩ := hh
  subst ex
  obtain rfl : u = Value.ref a := rx
  obtain ⟨oe, od, w, J, hl, ru⟩ := exT_at I1.hok h1 h2
  exact HandSPX.exc_get I1.kIn J xa.f.ga xa.f.gg xa.f.exC (PySem.W.findObj_own xa.f.hdC xa.v rfl hl) (handed_of ru) ⟨y, H1, I1.tok _, ru, q⟩
theorem se_val (x : Xs X.K names) {e : Expr} {fe : E} {pos : Pos} (he : SE X W e fe) (hb : attributeBase e "value" X.env (eval e X.env) = eval e X.env := by rfl) : SE X W (.Attribute e "value" pos) (sOp1 (valX names) fe) := by
  refine ⟨fun Φ => peImp (pe_val (he.pe Φ) hb) fun σ H Q h => ?_⟩
  obtain ⟨Pr, st, S, h⟩ := h
  refine ⟨Pr, st, S, h.bind.imp fun o s1 P1 H1 l1 S1 h1 v hv => ?_⟩
  obtain ⟨P1', l1', S1', kv⟩ := settle S1 hv
  have h1 := h1.mono l1'
  unfold op1 at h1
  cases ed : peek o s1 with
  | none => rw [ed] at h1; exact h1.elim
  | some d =>
    rw [ed, Option.bind_some] at h1
    have pk := pk_of S1' kv ed
    cases d with
    | exc c w =>
      simp only [valX] at h1
      by_cases hm : c ∈ names
      · rw [if_pos hm] at h1
        obtain ⟨a, C, dx, y, rfl, ns, q1, q2, r⟩ := pk_exc S1' pk
        exact ⟨a, C, dx, y, rfl, q1, q2, x.one _ hm C ns, h1 P1' H1 (Le.refl _) S1' y r⟩
      · rw [if_neg hm] at h1; exact h1.elim
    | _ => exact h1.elim
theorem se_cls {x : Str} {pos : Pos} (L : XeCl X.prog X.K X.mg x) (hg : Gl X x) (hd : (x == ("__debug__" : Str)) = false := by decide) : SE X W (.Name x pos) (sC (.cls x)) :=
  se_glob (v := .ref L.C) (u := .ref L.C) hg L.mx rfl (fun Pr => by unfold Rep; exact ⟨L.C, rfl, L.nsI⟩) hd
theorem names_of {x : Str} (L : XeCl X.prog X.K X.mg x) (hg : Gl X x) (hd : (x == ("__debug__" : Str)) = false := by decide) : Names X x (.ref L.C) := ⟨hg, hd, .inl L.mx⟩
theorem cat_of (y : Xs X.K names) {x : Str} (L : XeCl X.prog X.K X.mg x) : ∀ c b D, catB names x c = some b → PySem.W.nsIn X.K mainGlobals c = some (some (.ref D)) → PySem.W.exmOne X.K (.ref D) (.ref L.C) = some b := fun c b D h ns => by
  unfold catB at h
  split at h
  · rename_i hm
    cases h
    exact (y.two c hm.1 x hm.2 D L.C ns L.nsI).2
  · cases h
end
end Dv
namespace Dv
open PySem L2
def shownD (d : D) : Str := (toP d).shown
def reprOk (d : D) : Bool := D.isPy d && (toP d).showable && decide (D.dep d ≤ DEEP) && decide ((shownD d).length ≤ LIM) && PyData.strOk (shownD d)
def reprD : List D → Option Opd
  | [d] => if reprOk d then some (.val (.str (shownD d))) else none
  | _ => none
section
variable {X : Cx} {n : Nat}
theorem call_repr (hr : Room n X.A) : CallR X (.builtin "repr") (fun xs H Q => ∃ x p, xs = [x] ∧ Dp X.K H x p ∧ p.canLay0 = true ∧ p.showable = true ∧ p.depth ≤ 150 ∧ p.shown.length ≤ sizeLine ∧ Q (.str p.shown) H) := by
  intro pins s σ H xs us Q I r h
  obtain ⟨x, p, rfl, dp, cl, sh, dd, ll, q⟩ := h
  obtain ⟨u, rfl, ru⟩ := vals1 r
  have un := hr.un
  have big : ∀ {a : Addr} {as : List Addr}, u = .ref a → Reads s.heap (.ref a) p as → wpAny (model X.prog X.w) X.A (call (.builtin "repr") [u]) (EP X pins σ Q) X.xe s := fun {a as} e rd => by
    subst e
    exact repr_of_reads' rd sh (PyData.noDict_hsm (PyData.hasDict_of_canLay p cl)) hr.gd (by omega) (fun _ _ z => z) (fun h' v tk k => ⟨.str _, H, I.kept (t' := tk) k, ⟨_, rfl⟩, q⟩) ll
  cases p with
  | none => cases dp; cases ru; exact P.repr_of_none ⟨.str _, H, I.tok _, ⟨_, rfl⟩, q⟩
  | bool b => cases dp; cases ru; exact P.repr_of_bool ⟨.str _, H, I.tok _, ⟨_, rfl⟩, q⟩
  | int i =>
    cases dp
    obtain ⟨t, rfl⟩ := ru
    exact P.repr_of_int (of_decide_eq_true sh) ⟨.str _, H, I.tok _, ⟨_, rfl⟩, q⟩
  | str z =>
    cases dp
    obtain ⟨t, rfl⟩ := ru
    exact P.repr_of_str ⟨.str _, H, I.tok _, ⟨_, rfl⟩, q⟩ ll
  | list ps =>
    obtain ⟨as, rd⟩ := Dp.reads I _ _ u dp ru
    cases dp
    cases ru
    exact big rfl rd
  | tuple ps =>
    obtain ⟨as, rd⟩ := Dp.reads I _ _ u dp ru
    cases dp
    cases ru
    exact big rfl rd
  | dict kvs => cases dp
theorem cs_repr (hr : Room n X.A) : CallS X (.builtin "repr") reprD := by
  refine ⟨_, call_repr hr, ?_⟩
  intro Φ Pr st σ H ds vs o Q S ks e q
  unfold reprD at e
  split at e
  · split at e
    · rename_i d h
      cases e
      obtain ⟨v, rfl, pk⟩ := pks1 ks
      unfold reprOk at h
      simp only [Bool.and_eq_true, decide_eq_true_eq] at h
      obtain ⟨⟨⟨⟨h1, h2⟩, h3⟩, h4⟩, h5⟩ := h
      obtain ⟨p, ep, dp, cl, dd⟩ := pk_py S h1 pk
      have et := toP_of ep
      unfold shownD at h4 h5
      unfold shownD at q
      rw [et] at h2 h4 h5
      rw [et] at q
      exact ⟨v, p, rfl, dp, cl, h2, by rw [dd]; exact h3, by rw [lim_eq]; exact h4, q Pr H _ (Le.refl _) S (ro_str h5)⟩
    · cases e
  · cases e
end
end Dv
namespace Dv
open PySem L2
def strD : List D → Option Opd
  | [.int i] => if i.natAbs.log2 < 1920 ∧ PyData.strOk (toString i : Str) = true then some (.val (.str (toString i : Str))) else none
  | _ => none
section
variable {X : Cx}
theorem call_str_i : CallR X (.type "str") (fun xs H Q => ∃ i, xs = [.int i] ∧ i.natAbs.log2 < 1920 ∧ Q (.str (toString i)) H) := by
  intro pins s σ H xs us Q I r h
  obtain ⟨i, rfl, hz, q⟩ := h
  obtain ⟨u, rfl, t, rfl⟩ := vals1 r
  exact PySem.P.str_of_int hz ⟨.str _, H, I.tok _, ⟨_, rfl⟩, q⟩
theorem cs_str : CallS X (.type "str") strD := by
  refine ⟨_, call_str_i, ?_⟩
  intro Φ Pr st σ H ds vs o Q S ks e q
  unfold strD at e
  split at e
  · split at e
    · rename_i i h
      cases e
      obtain ⟨v, rfl, pk⟩ := pks1 ks
      cases pk.int
      exact ⟨i, rfl, h.1, q Pr H _ (Le.refl _) S (ro_str h.2)⟩
    · cases e
  · cases e
end
end Dv
namespace Dv
open PySem L2
open PySem.W (Frag fnX ksEnv)
structure Ini (ini : Stmt) : Prop where
  bd : ∃ m p0 p1 p2 p3 p4 p5 p6 p7 p8 p9 j, defBody ini = [.Expr (.Call (.Attribute (.Call (.Name "super" p0) [] [] p1) "__init__" p2) [.Constant (.str m) j p3] [] p4) p5, .Assign [.Attribute (.Name "self" p6) "value" p7] (.Name "value" p8) p9] ∧
    (∃ pl, ∀ qual L fI cda cc, eval (.Call (.Attribute (.Call (.Name "super" p0) [] [] p1) "__init__" p2) [.Constant (.str m) j p3] [] p4) (ksEnv qual (defScope ini) L fI (.ref cda) cc) = (do
      let ov ← attributeBase (.Call (.Name "super" p0) [] [] p1) "__init__" (ksEnv qual (defScope ini) L fI (.ref cda) cc) (eval (.Call (.Name "super" p0) [] [] p1) (ksEnv qual (defScope ini) L fI (.ref cda) cc))
      standAt p2.atName
      let (f, first) ← holding [ov] (getMethod ov "__init__" pl)
      callWith p4 f first (backTo p4 (starEach [.Constant (.str m) j p3] (ksEnv qual (defScope ini) L fI (.ref cda) cc))) [])) ∧
    (∀ qual L fI cda cc, interactive (ksEnv qual (defScope ini) L fI (.ref cda) cc) = false)
  bind : ∀ (qual : Str) (kV doc pm : Value) (an : Option Addr) (cda cc : Addr) (ct a b : Value), bindArgs (fnX "__init__" qual (defArgs ini) (defBody ini) (defScope ini) [("__class__", cc)] .none kV doc pm an (.ref cda) ct) ⟨[a, b], []⟩ = pure [(("self" : Str), a), (("value" : Str), b)]
  arg : ∃ ar r, (defArgs ini).posonlyargs ++ (defArgs ini).args = ar :: r ∧ ar.arg = "self"
  s1 : (defScope ini).names.lookup ("super" : Str) = some .globalImplicit
  s2 : (defScope ini).names.lookup ("__class__" : Str) = some .free
  s3 : (defScope ini).names.lookup ("self" : Str) = some .local
  s4 : (defScope ini).names.lookup ("value" : Str) = some .local
  s5 : ∀ x ∈ (defScope ini).names, x.2 ≠ .cell
  s6 : (defScope ini).isCoroutine = false
  s7 : (defScope ini).isGenerator = false
  s8 : (defScope ini).kind = .function
structure Xb (P : Program) (K : Frag) (mg : Str → Option Value) (ini : Stmt) where
  D : Addr
  fI : Addr
  cc : Addr
  cda : Addr
  lI : ∃ (oc : Value) (od : Option Addr) (kV doc pm : Value) (an : Option Addr) (ct : Value) (osl : Array (Option Value)), K.lookup fI = some ⟨oc, od, .func (fnX "__init__" "StepError.__init__" (defArgs ini) (defBody ini) (defScope ini) [("__class__", cc)] .none kV doc pm an (.ref cda) ct), osl⟩
  cI : PySem.W.codeIn K (.ref cda) "StepError.__init__" = true
  tI : PySem.W.typeIn K (.ref fI) = some (.type "function")
  code : ∃ (ccl : Value) (cdd : Option Addr) (vs : Array Value) (ccs : Array (Option Value)) (file : Str) (tf : Tok), K.lookup cda = some ⟨ccl, cdd, .fields vs, ccs⟩ ∧ vs[2]? = some (.str file tf) ∧ ((P.main.file : Str) == file) = true
  cell : ∃ (cl : Value) (cld : Option Addr) (csl : Array (Option Value)), K.lookup cc = some ⟨cl, cld, .cell (some (.ref D)), csl⟩
  cD : ∃ cdD, PySem.W.clsIn K D = some cdD
  zs : PySem.W.nsIn K mainGlobals "super" = some none
  ms : mg "super" = none
  zo : PySem.W.nsIn K cStatics "thirdparty.any" = some none
  top : (P.main.scope.names.lookup ("super" : Str)).isSome = false
def xcB (K : Frag) (C D fI : Addr) : Bool := decide (PySem.W.findIn K (.ref C) "__setattr__" = some (some (.builtin "object.__setattr__"))) && (decide (PySem.W.subIn K (.ref C) (.type "BaseException") = some true) && (decide (PySem.W.typeIn K (.ref C) = some (.type "type")) && (PySem.W.keepIn K (.ref C) &&
  (decide (PySem.W.mroIn K C (.ref D) = some true) && (decide (PySem.W.ks_superIn K C D "__init__" = some (some (.builtin "ValueError.__init__"))) && (decide (PySem.W.subIn K (.ref C) (.type "ValueError") = some true) && (decide (PySem.W.findIn K (.ref C) "value" = some none) &&
  decide (PySem.W.findIn K (.ref C) "__init__" = some (some (.ref fI))))))))))
def xcl {P : Program} {K : Frag} {mg : Str → Option Value} {ini : Stmt} {x : Str} (B : Xb P K mg ini) (I : Ini ini) {nm q : Str} {C N : Addr} {bs bm : List Value} {sn : List Str} {sub : List Value} {ab : Bool} {col : Option Bool} {dd : Option Addr} {k0 k1 k2 k3 k5 : Option Value}
    (a : PySem.W.nsIn K mainGlobals x = some (some (.ref C))) (m : mg x = some (.ref C)) (l : K.lookup C = some (excClassObj nm q C N bs bm true sn sub ab col dd k0 k1 k2 k3 k5 "ValueError.__new__")) (r : PySem.HandSPX.refsVE bm = true) (b : xcB K C B.D B.fI = true) : XeCl P K mg x := by
  unfold xcB at b
  simp only [Bool.and_eq_true, decide_eq_true_eq] at b
  have b1 := b.1
  have b2 := b.2.1
  have b3 := b.2.2.1
  have b4 := b.2.2.2.1
  have b5 := b.2.2.2.2.1
  have b6 := b.2.2.2.2.2.1
  have b7 := b.2.2.2.2.2.2.1
  have b8 := b.2.2.2.2.2.2.2.1
  have b9 := b.2.2.2.2.2.2.2.2
  exact { C := C, D := B.D, fI := B.fI, cc := B.cc, cda := B.cda, qual := "StepError.__init__", params := defArgs ini, body := defBody ini, scope := defScope ini, m := I.bd.choose
          T := ⟨⟨nm, q, N, bs, bm, sn, sub, ab, col, dd, k0, k1, k2, k3, k5, l, r⟩, b1, b2, b3, b4⟩
          Y := { fn := by
                   obtain ⟨oc, od, kV, doc, pm, an, ct, osl, e⟩ := B.lI
                   exact ⟨oc, od, .none, kV, doc, pm, an, ct, osl, e, fun u v => I.bind _ _ _ _ _ _ _ _ u v⟩
                 bd := by
                   obtain ⟨p0, p1, p2, p3, p4, p5, p6, p7, p8, p9, j, e1, ⟨pl, e2⟩, e3⟩ := I.bd.choose_spec
                   exact ⟨p0, p1, p2, p3, p4, p5, p6, p7, p8, p9, j, e1, ⟨pl, fun L => e2 _ L _ _ _⟩, fun L => e3 _ L _ _ _⟩
                 cd := B.cI, code := B.code, cell := B.cell, cls := B.cD, sub := b5, sup := b6, val := b7, opq := B.zo, noA := b8, nsup := B.zs, arg := I.arg
                 s1 := I.s1, s2 := I.s2, s3 := I.s3, s4 := I.s4, s5 := I.s5, s6 := I.s6, s7 := I.s7, s8 := I.s8, top := B.top }
          iC := b9, tI := B.tI, mx := m, nsI := a, ms := B.ms }
theorem se_dfK {X : Cx} {W : WX} {n : Nat} {x : Str} {st : Stmt} {ps ks : List Str} {ix : List Nat} {F : Fn} {p pos : Pos} {kws : List Keyword} {fs : Ar} (ms : List Bool) (d : Df X.K X.mg x st ps) (Fk : Ok X.prog X.w X.base d n F) (hr : Room n X.A) (hg : Gl X x)
    (hb : BindsK X.K d.fd ps ks ix) (tk : Takes X W) (ha : SK X W kws fs) (hn : ix.length = ks.length)
    (hall : (backToKw pos (keywordEach kws X.env)).all (·.1.isSome) = true := by rfl) (hks : (backToKw pos (keywordEach kws X.env)).filterMap (·.1) = ks := by rfl) (hdb : (x == ("__debug__" : Str)) = false := by decide)
    (hpl : ((backTo pos (starEach [] X.env)).any (·.1) || (backToKw pos (keywordEach kws X.env)).any (·.1.isNone)) = false := by rfl) : SE X W (.Call (.Name x p) [] kws pos) (sCallK F ix ms fs) :=
  se_callK ms Fk hr hg d.m d.F.kp hb tk ha hn hall hks hdb hpl
end Dv
namespace Dv
open PySem L2
def leafOk (d : D) : Prop := ∃ p, D.toPy d = some p ∧ PyData.strOk p.shown = true ∧ p.shown.length ≤ 30 ∧ p.showable = true ∧ D.isPy d = true ∧ eqvD d d = true ∧ D.dep d = 0
mutual
def niceD : D → Prop
  | .tup l => niceL l
  | .lst l => niceL l
  | d => leafOk d
def niceL : List D → Prop
  | [] => True
  | d :: l => niceD d ∧ niceL l
end
mutual
def wtD : D → Nat
  | .tup l => wtL l + 1
  | .lst l => wtL l + 1
  | _ => 1
def wtL : List D → Nat
  | [] => 0
  | d :: l => wtD d + wtL l
end
theorem strOk_pre {a : Str} : PyData.strOk a = a.cps.all (· < 0x110000) := rfl
theorem strOk_from : ∀ (ts : List Str) (k : Nat) (acc : Str), PyData.strOk acc = true → (∀ t ∈ ts, PyData.strOk t = true) → PyData.strOk (textFrom k acc ts) = true
  | [], _, _, h, _ => h
  | t :: r, k, acc, h, ht => by
    unfold textFrom
    refine strOk_from r (k + 1) _ (strOk_append (strOk_append h ?_) (ht t List.mem_cons_self)) fun x hx => ht x (List.mem_cons_of_mem _ hx)
    split <;> decide +kernel
theorem strOk_list {ts : List Str} (ht : ∀ t ∈ ts, PyData.strOk t = true) : PyData.strOk (listText ts) = true := strOk_append (strOk_from ts 0 "[" (by decide +kernel) ht) (by decide +kernel)
theorem strOk_join {s : Str} (hs : PyData.strOk s = true) : ∀ ts : List Str, (∀ t ∈ ts, PyData.strOk t = true) → PyData.strOk (Str.join s ts) = true
  | [], _ => (by decide +kernel : PyData.strOk Str.empty = true)
  | [x], h => h x List.mem_cons_self
  | x :: y :: r, h => strOk_append (strOk_append (h x List.mem_cons_self) hs) (strOk_join hs (y :: r) fun t ht => h t (List.mem_cons_of_mem _ ht))
theorem strOk_tup {ts : List Str} (ht : ∀ t ∈ ts, PyData.strOk t = true) : PyData.strOk (tupleText ts) = true := by
  unfold tupleText
  refine strOk_append (strOk_append (by decide +kernel) (strOk_join (by decide +kernel) ts ht)) ?_
  split <;> decide +kernel
theorem nice_leaf {d : D} (hw : wtD d = 1) (h : leafOk d) : ∃ p, D.toPy d = some p ∧ PyData.strOk p.shown = true ∧ p.shown.length + 2 ≤ 40 * wtD d ∧ p.showable = true ∧ D.isPy d = true ∧ eqvD d d = true := by
  obtain ⟨p, e, s, n, w, y, q, _⟩ := h
  exact ⟨p, e, s, by rw [hw]; omega, w, y, q⟩
mutual
theorem nice_ok : ∀ d : D, niceD d → ∃ p, D.toPy d = some p ∧ PyData.strOk p.shown = true ∧ p.shown.length + 2 ≤ 40 * wtD d ∧ p.showable = true ∧ D.isPy d = true ∧ eqvD d d = true
  | .tup l, h => by
    obtain ⟨ps, e, s, n, w, y, q⟩ := nice_all l (by unfold niceD at h; exact h)
    refine ⟨.tuple ps, by unfold D.toPy; rw [e]; rfl, ?_, ?_, ?_, ?_, ?_⟩
    · unfold PyData.shown; exact strOk_tup s
    · unfold PyData.shown wtD
      have := tupleText_len_le (PyData.shownAll ps)
      have e2 := PyData.shownAll_length ps
      omega
    · unfold PyData.showable; exact w
    · unfold D.isPy; exact y
    · unfold eqvD; exact q
  | .lst l, h => by
    obtain ⟨ps, e, s, n, w, y, q⟩ := nice_all l (by unfold niceD at h; exact h)
    refine ⟨.list ps, by unfold D.toPy; rw [e]; rfl, ?_, ?_, ?_, ?_, ?_⟩
    · unfold PyData.shown; exact strOk_list s
    · unfold PyData.shown wtD
      have := listText_len_le (PyData.shownAll ps)
      have e2 := PyData.shownAll_length ps
      omega
    · unfold PyData.showable; exact w
    · unfold D.isPy; exact y
    · unfold eqvD; exact q
  | .non, h => nice_leaf rfl (by unfold niceD at h; exact h)
  | .bl b, h => nice_leaf rfl (by unfold niceD at h; exact h)
  | .int i, h => nice_leaf rfl (by unfold niceD at h; exact h)
  | .str x, h => nice_leaf rfl (by unfold niceD at h; exact h)
  | .dct _ _, h => nice_leaf rfl (by unfold niceD at h; exact h)
  | .exc _ _, h => nice_leaf rfl (by unfold niceD at h; exact h)
  | .ty _, h => nice_leaf rfl (by unfold niceD at h; exact h)
  | .cls _, h => nice_leaf rfl (by unfold niceD at h; exact h)
  | .scr _, h => nice_leaf rfl (by unfold niceD at h; exact h)
theorem nice_all : ∀ l : List D, niceL l → ∃ ps, D.toPyAll l = some ps ∧ (∀ t ∈ PyData.shownAll ps, PyData.strOk t = true) ∧ ((PyData.shownAll ps).map (·.length)).sum + 2 * ps.length ≤ 40 * wtL l ∧ PyData.showableAll ps = true ∧ D.isPyAll l = true ∧ eqvL l l = true
  | [], _ => ⟨[], rfl, (fun t h => nomatch h), Nat.le_refl _, rfl, rfl, by unfold eqvL; rfl⟩
  | d :: l, h => by
    unfold niceL at h
    obtain ⟨p, e, s, n, w, y, q⟩ := nice_ok d h.1
    obtain ⟨ps, e', s', n', w', y', q'⟩ := nice_all l h.2
    refine ⟨p :: ps, by unfold D.toPyAll; rw [e, e'], ?_, ?_, ?_, ?_, ?_⟩
    · intro t ht
      unfold PyData.shownAll at ht
      rcases List.mem_cons.mp ht with rfl | ht
      · exact s
      · exact s' t ht
    · unfold PyData.shownAll wtL
      rw [List.map_cons, List.sum_cons, List.length_cons]
      omega
    · unfold PyData.showableAll; rw [w, w']; rfl
    · unfold D.isPyAll; rw [y, y']; rfl
    · unfold eqvL; rw [q, q']; rfl
end
theorem repr_nice {d : D} (h : niceD d) (hd : D.dep d ≤ 100) (hw : wtD d ≤ 100000) : reprD [d] = some (.val (.str (shownD d))) := by
  obtain ⟨p, e, s, n, w, y, _⟩ := nice_ok d h
  have et := toP_of e
  have ok : reprOk d = true := by
    unfold reprOk shownD
    rw [et, y, w, s, decide_eq_true (show D.dep d ≤ DEEP by show D.dep d ≤ 150; omega), decide_eq_true (show p.shown.length ≤ LIM from LIM_le (by omega))]
    rfl
  unfold reprD
  simp only
  rw [if_pos ok]
theorem eqOk_nice {d e : D} (h : niceD d) (h' : niceD e) (hd : D.dep d ≤ 100) : eqOk d e = true := by
  obtain ⟨_, _, _, _, _, y, _⟩ := nice_ok d h
  obtain ⟨_, _, _, _, _, y', _⟩ := nice_ok e h'
  unfold eqOk
  rw [y, y', Bool.true_and, Bool.true_and]
  exact decide_eq_true (show min (D.dep d) (D.dep e) ≤ 150 by omega)
theorem eqD_nice {d : D} (h : niceD d) (hd : D.dep d ≤ 100) : eqD d d = some (.val (.bl true)) := by
  obtain ⟨_, _, _, _, _, _, q⟩ := nice_ok d h
  unfold eqD
  rw [if_pos (eqOk_nice h h hd), q]
theorem neD_nice {d : D} (h : niceD d) (hd : D.dep d ≤ 100) : neD d d = some (.val (.bl false)) := by
  obtain ⟨_, _, _, _, _, _, q⟩ := nice_ok d h
  unfold neD
  rw [if_pos (eqOk_nice h h hd), q]; rfl
end Dv
namespace Dv
open PySem L2
theorem eqD_str (x y : Str) : eqD (.str x) (.str y) = some (.val (.bl (x == y))) := rfl
theorem neD_str (x y : Str) : neD (.str x) (.str y) = some (.val (.bl (!(x == y)))) := rfl
theorem eqD_int (x y : Int) : eqD (.int x) (.int y) = some (.val (.bl (x == y))) := rfl
theorem neD_int (x y : Int) : neD (.int x) (.int y) = some (.val (.bl (!(x == y)))) := rfl
theorem ltOk_int (x y : Int) : ltOk (.int x) (.int y) = true := rfl
theorem ltB_int (x y : Int) : ltB (.int x) (.int y) = decide (x < y) := PySem.W.dataLt_int x y
theorem ltD_int (x y : Int) : ltD (.int x) (.int y) = some (.val (.bl (decide (x < y)))) := by unfold ltD; rw [ltOk_int, ltB_int]; rfl
theorem gtD_int (x y : Int) : gtD (.int x) (.int y) = some (.val (.bl (decide (y < x)))) := by unfold gtD; rw [ltOk_int, ltB_int]; rfl
theorem leD_int (x y : Int) : leD (.int x) (.int y) = some (.val (.bl (!decide (y < x)))) := by unfold leD; rw [ltOk_int, ltB_int]; rfl
theorem geD_int (x y : Int) : geD (.int x) (.int y) = some (.val (.bl (!decide (x < y)))) := by unfold geD; rw [ltOk_int, ltB_int]; rfl
theorem isi_tup_tuple (l : List D) : isiD [(.tup l), .ty "tuple"] = some (.val (.bl true)) := rfl
theorem isi_tup_list (l : List D) : isiD [(.tup l), .ty "list"] = some (.val (.bl false)) := rfl
theorem isi_tup_str (l : List D) : isiD [(.tup l), .ty "str"] = some (.val (.bl false)) := rfl
theorem isi_tup_int (l : List D) : isiD [(.tup l), .ty "int"] = some (.val (.bl false)) := rfl
theorem isi_tup_bool (l : List D) : isiD [(.tup l), .ty "bool"] = some (.val (.bl false)) := rfl
theorem isi_lst_tuple (l : List D) : isiD [(.lst l), .ty "tuple"] = some (.val (.bl false)) := rfl
theorem isi_lst_list (l : List D) : isiD [(.lst l), .ty "list"] = some (.val (.bl true)) := rfl
theorem isi_lst_str (l : List D) : isiD [(.lst l), .ty "str"] = some (.val (.bl false)) := rfl
theorem isi_lst_int (l : List D) : isiD [(.lst l), .ty "int"] = some (.val (.bl false)) := rfl
theorem isi_lst_bool (l : List D) : isiD [(.lst l), .ty "bool"] = some (.val (.bl false)) := rfl
theorem isi_str_tuple (x : Str) : isiD [(.str x), .ty "tuple"] = some (.val (.bl false)) := rfl
theorem isi_str_list (x : Str) : isiD [(.str x), .ty "list"] = some (.val (.bl false)) := rfl
theorem isi_str_str (x : Str) : isiD [(.str x), .ty "str"] = some (.val (.bl true)) := rfl
theorem isi_str_int (x : Str) : isiD [(.str x), .ty "int"] = some (.val (.bl false)) := rfl
theorem isi_str_bool (x : Str) : isiD [(.str x), .ty "bool"] = some (.val (.bl false)) := rfl
theorem isi_int_tuple (i : Int) : isiD [(.int i), .ty "tuple"] = some (.val (.bl false)) := rfl
theorem isi_int_list (i : Int) : isiD [(.int i), .ty "list"] = some (.val (.bl false)) := rfl
theorem isi_int_str (i : Int) : isiD [(.int i), .ty "str"] = some (.val (.bl false)) := rfl
theorem isi_int_int (i : Int) : isiD [(.int i), .ty "int"] = some (.val (.bl true)) := rfl
theorem isi_int_bool (i : Int) : isiD [(.int i), .ty "bool"] = some (.val (.bl false)) := rfl
theorem isi_bl_tuple (b : Bool) : isiD [(.bl b), .ty "tuple"] = some (.val (.bl false)) := rfl
theorem isi_bl_list (b : Bool) : isiD [(.bl b), .ty "list"] = some (.val (.bl false)) := rfl
theorem isi_bl_str (b : Bool) : isiD [(.bl b), .ty "str"] = some (.val (.bl false)) := rfl
theorem isi_bl_int (b : Bool) : isiD [(.bl b), .ty "int"] = some (.val (.bl true)) := rfl
theorem isi_bl_bool (b : Bool) : isiD [(.bl b), .ty "bool"] = some (.val (.bl true)) := rfl
theorem isi_non_tuple : isiD [.non, .ty "tuple"] = some (.val (.bl false)) := rfl
theorem isi_non_list : isiD [.non, .ty "list"] = some (.val (.bl false)) := rfl
theorem isi_non_str : isiD [.non, .ty "str"] = some (.val (.bl false)) := rfl
theorem isi_non_int : isiD [.non, .ty "int"] = some (.val (.bl false)) := rfl
theorem isi_non_bool : isiD [.non, .ty "bool"] = some (.val (.bl false)) := rfl
theorem len_lst (l : List D) : lenD [.lst l] = some (.val (.int l.length)) := rfl
theorem len_tup (l : List D) : lenD [.tup l] = some (.val (.int l.length)) := rfl
theorem len_scr (l : List D) : lenD [.scr l] = some (.val (.int l.length)) := rfl
theorem at_tup0 (a : D) (l : List D) : atD (.tup (a :: l)) (.int 0) = some (.val a) := by
  show (atI (a :: l) 0).map Opd.val = _
  rw [show (0 : Int) = ((0 : Nat) : Int) from rfl, atI_nat (by rfl)]
  rfl
theorem at_tup1 (a b : D) (l : List D) : atD (.tup (a :: b :: l)) (.int 1) = some (.val b) := by
  show (atI (a :: b :: l) 1).map Opd.val = _
  rw [show (1 : Int) = ((1 : Nat) : Int) from rfl, atI_nat (by rfl)]
  rfl
theorem at_tup2 (a b c : D) (l : List D) : atD (.tup (a :: b :: c :: l)) (.int 2) = some (.val c) := by
  show (atI (a :: b :: c :: l) 2).map Opd.val = _
  rw [show (2 : Int) = ((2 : Nat) : Int) from rfl, atI_nat (by rfl)]
  rfl
theorem at_lst0 (a : D) (l : List D) : atD (.lst (a :: l)) (.int 0) = some (.val a) := by
  show (atI (a :: l) 0).map Opd.val = _
  rw [show (0 : Int) = ((0 : Nat) : Int) from rfl, atI_nat (by rfl)]
  rfl
theorem at_lst1 (a b : D) (l : List D) : atD (.lst (a :: b :: l)) (.int 1) = some (.val b) := by
  show (atI (a :: b :: l) 1).map Opd.val = _
  rw [show (1 : Int) = ((1 : Nat) : Int) from rfl, atI_nat (by rfl)]
  rfl
theorem at_lst2 (a b c : D) (l : List D) : atD (.lst (a :: b :: c :: l)) (.int 2) = some (.val c) := by
  show (atI (a :: b :: c :: l) 2).map Opd.val = _
  rw [show (2 : Int) = ((2 : Nat) : Int) from rfl, atI_nat (by rfl)]
  rfl
theorem run_val {k n : Nat} {b : S} {args s fin : List Slot} {d : D} (hk : args.length = k) (h : b (args ++ List.replicate (n - k) .un) = .ret (.val d) s) (hf : s.take k = fin) : run k n b args = .ret (.val d) fin := by unfold run; rw [if_pos hk, h, ← hf]
theorem run_own {k n : Nat} {b : S} {args s fin : List Slot} {d : D} (hk : args.length = k) (h : b (args ++ List.replicate (n - k) .un) = .ret (.own d) s) (hf : s.take k = fin) : run k n b args = .ret (.own d) fin := by unfold run; rw [if_pos hk, h, ← hf]
theorem run_nxt {k n : Nat} {b : S} {args s fin : List Slot} (hk : args.length = k) (h : b (args ++ List.replicate (n - k) .un) = .nxt s) (hf : s.take k = fin) : run k n b args = .ret (.val .non) fin := by unfold run; rw [if_pos hk, h, ← hf]
theorem run_slot {k n i : Nat} {b : S} {args s fin : List Slot} {d : D} (hk : args.length = k) (h : b (args ++ List.replicate (n - k) .un) = .ret (.slot i) s) (hi : s[i]? = some (.own d)) (hf : (s.set i .un).take k = fin) : run k n b args = .ret (.own d) fin := by unfold run; rw [if_pos hk, h, ← hf]; simp only [hi]
theorem tg_name_fn : (("name" : Str) == ("fn" : Str)) = false := by decide
theorem tg_name_call : (("name" : Str) == ("call" : Str)) = false := by decide
theorem tg_name_at : (("name" : Str) == ("at" : Str)) = false := by decide
theorem tg_name_in : (("name" : Str) == ("in" : Str)) = false := by decide
theorem tg_name_shut : (("name" : Str) == ("shut" : Str)) = false := by decide
theorem tg_name_head : (("name" : Str) == ("head" : Str)) = false := by decide
theorem tg_name_e : (("name" : Str) == ("" : Str)) = false := by decide
theorem tg_fn_name : (("fn" : Str) == ("name" : Str)) = false := by decide
theorem tg_fn_call : (("fn" : Str) == ("call" : Str)) = false := by decide
theorem tg_fn_at : (("fn" : Str) == ("at" : Str)) = false := by decide
theorem tg_fn_in : (("fn" : Str) == ("in" : Str)) = false := by decide
theorem tg_fn_shut : (("fn" : Str) == ("shut" : Str)) = false := by decide
theorem tg_fn_head : (("fn" : Str) == ("head" : Str)) = false := by decide
theorem tg_fn_e : (("fn" : Str) == ("" : Str)) = false := by decide
theorem tg_call_name : (("call" : Str) == ("name" : Str)) = false := by decide
theorem tg_call_fn : (("call" : Str) == ("fn" : Str)) = false := by decide
theorem tg_call_at : (("call" : Str) == ("at" : Str)) = false := by decide
theorem tg_call_in : (("call" : Str) == ("in" : Str)) = false := by decide
theorem tg_call_shut : (("call" : Str) == ("shut" : Str)) = false := by decide
theorem tg_call_head : (("call" : Str) == ("head" : Str)) = false := by decide
theorem tg_call_e : (("call" : Str) == ("" : Str)) = false := by decide
theorem tg_at_name : (("at" : Str) == ("name" : Str)) = false := by decide
theorem tg_at_fn : (("at" : Str) == ("fn" : Str)) = false := by decide
theorem tg_at_call : (("at" : Str) == ("call" : Str)) = false := by decide
theorem tg_at_in : (("at" : Str) == ("in" : Str)) = false := by decide
theorem tg_at_shut : (("at" : Str) == ("shut" : Str)) = false := by decide
theorem tg_at_head : (("at" : Str) == ("head" : Str)) = false := by decide
theorem tg_at_e : (("at" : Str) == ("" : Str)) = false := by decide
theorem tg_in_name : (("in" : Str) == ("name" : Str)) = false := by decide
theorem tg_in_fn : (("in" : Str) == ("fn" : Str)) = false := by decide
theorem tg_in_call : (("in" : Str) == ("call" : Str)) = false := by decide
theorem tg_in_at : (("in" : Str) == ("at" : Str)) = false := by decide
theorem tg_in_shut : (("in" : Str) == ("shut" : Str)) = false := by decide
theorem tg_in_head : (("in" : Str) == ("head" : Str)) = false := by decide
theorem tg_in_e : (("in" : Str) == ("" : Str)) = false := by decide
theorem tg_shut_name : (("shut" : Str) == ("name" : Str)) = false := by decide
theorem tg_shut_fn : (("shut" : Str) == ("fn" : Str)) = false := by decide
theorem tg_shut_call : (("shut" : Str) == ("call" : Str)) = false := by decide
theorem tg_shut_at : (("shut" : Str) == ("at" : Str)) = false := by decide
theorem tg_shut_in : (("shut" : Str) == ("in" : Str)) = false := by decide
theorem tg_shut_head : (("shut" : Str) == ("head" : Str)) = false := by decide
theorem tg_shut_e : (("shut" : Str) == ("" : Str)) = false := by decide
theorem tg_head_name : (("head" : Str) == ("name" : Str)) = false := by decide
theorem tg_head_fn : (("head" : Str) == ("fn" : Str)) = false := by decide
theorem tg_head_call : (("head" : Str) == ("call" : Str)) = false := by decide
theorem tg_head_at : (("head" : Str) == ("at" : Str)) = false := by decide
theorem tg_head_in : (("head" : Str) == ("in" : Str)) = false := by decide
theorem tg_head_shut : (("head" : Str) == ("shut" : Str)) = false := by decide
theorem tg_head_e : (("head" : Str) == ("" : Str)) = false := by decide
theorem tg_e_name : (("" : Str) == ("name" : Str)) = false := by decide
theorem tg_e_fn : (("" : Str) == ("fn" : Str)) = false := by decide
theorem tg_e_call : (("" : Str) == ("call" : Str)) = false := by decide
theorem tg_e_at : (("" : Str) == ("at" : Str)) = false := by decide
theorem tg_e_in : (("" : Str) == ("in" : Str)) = false := by decide
theorem tg_e_shut : (("" : Str) == ("shut" : Str)) = false := by decide
theorem tg_e_head : (("" : Str) == ("head" : Str)) = false := by decide
theorem pop_snoc (l : List D) (d : D) : fPop (.lst (l ++ [d])) [] = some (.lst l, d) := by
  unfold fPop
  simp
theorem append_ok {l : List D} {d : D} (h : l.length < LIM) : fAppend (.lst l) [d] = some (.lst (l ++ [d]), .non) := by unfold fAppend; simp only; rw [if_pos h]
theorem snoc_len (l : List D) (d : D) : (0 : Int) < ((l ++ [d]).length : Int) := by simp
theorem addD_int (x y : Int) : addD (.int x) (.int y) = some (.val (.int (x + y))) := rfl
theorem subD_int (x y : Int) : subD (.int x) (.int y) = some (.val (.int (x - y))) := rfl
theorem negD_int (x : Int) : negD (.int x) = some (.val (.int (-x))) := rfl
theorem maxD_int (x y : Int) : maxD [.int x, .int y] = some (.val (.int (if y > x then y else x))) := rfl
end Dv
open PySem L2 Dv in
local macro_rules
  | `(tactic| simp_arith [$xs,*]) => `(tactic| simp only [sSeq, sIfS, sAsg, asgO, sDrop, sRet, sRetN, sSkip, sBrk, sCnt, sBad, sVar, rdSlot, sC, sOp1, sOp2, op1, op2, sCB, sTup, sLst, sNot, sAnd, sOr, sIf, Dv.tB, Dv.tTru, Dv.tNot, Dv.tAnd, Dv.tOr, aNil, aCons, takeAll, peekAll, peek, takeO, datAt, fzAt, putS, dB, truD, Slot.dat, Slot.put, Slot.fz,
  mutO, Slot.mut, isL, pop_snoc, sCall, ph1, ph2, argOf, lentOf, callO, back, back1, sMut, sCut, pSome, pNone, dI, sSet, sAug, augI, gN, gs0, gs1, gT, sAsgG, wSeq, wArgs, seqOf, Option.bind_some, Option.bind_none, Option.map_some, Option.map_none,
  R.bind_ok, okO_some, kR_ok, seqO_nxt, seqO_ret, seqO_brk, seqO_cnt, okS_some,
  List.getElem?_cons_zero, List.getElem?_cons_succ, List.getElem?_nil, List.set_cons_zero, List.set_cons_succ, List.length_cons, List.length_nil, List.take_succ_cons, List.take_zero, List.cons_append, List.nil_append, List.replicate_succ, List.replicate_zero, List.append_nil,
  Int.cast_ofNat_Int, List.mem_cons, Nat.zero_ne_one, or_self, or_false, false_or, Int.reduceLT, Int.reduceLE, Int.reduceEq, Int.reduceBEq, Int.reduceAdd, Int.reduceSub, decide_true, decide_false, Int.natCast_zero, Int.natCast_one, Nat.reduceBEq, Nat.reduceEqDiff, List.nodup_cons, List.nodup_nil, List.not_mem_nil, not_false_eq_true, and_self, true_and, and_true, Nat.reduceSub, Nat.reduceAdd, Nat.reduceLT, Nat.reduceLeDiff, Nat.lt_add_one, Nat.zero_lt_succ, beq_self_eq_true,
  eqD_str, neD_str, eqD_int, neD_int, ltD_int, gtD_int, leD_int, geD_int, if_true, if_false, Bool.not_true, Bool.not_false, Bool.false_eq_true, ↓reduceIte,
  addD_int, subD_int, negD_int, maxD_int, len_lst, len_tup, len_scr, at_tup0, at_tup1, at_tup2, at_lst0, at_lst1, at_lst2, isi_tup_tuple, isi_tup_list, isi_tup_str, isi_tup_int, isi_tup_bool, isi_lst_tuple, isi_lst_list, isi_lst_str, isi_lst_int, isi_lst_bool, isi_str_tuple, isi_str_list, isi_str_str, isi_str_int, isi_str_bool, isi_int_tuple, isi_int_list, isi_int_str, isi_int_int, isi_int_bool, isi_bl_tuple, isi_bl_list, isi_bl_str, isi_bl_int, isi_bl_bool, isi_non_tuple, isi_non_list, isi_non_str, isi_non_int, isi_non_bool, tg_name_fn, tg_name_call, tg_name_at, tg_name_in, tg_name_shut, tg_name_head, tg_name_e, tg_fn_name, tg_fn_call, tg_fn_at, tg_fn_in, tg_fn_shut, tg_fn_head, tg_fn_e, tg_call_name, tg_call_fn, tg_call_at, tg_call_in, tg_call_shut, tg_call_head, tg_call_e, tg_at_name, tg_at_fn, tg_at_call, tg_at_in, tg_at_shut, tg_at_head, tg_at_e, tg_in_name, tg_in_fn, tg_in_call, tg_in_at, tg_in_shut, tg_in_head, tg_in_e, tg_shut_name, tg_shut_fn, tg_shut_call, tg_shut_at, tg_shut_in, tg_shut_head, tg_shut_e, tg_head_name, tg_head_fn, tg_head_call, tg_head_at, tg_head_in, tg_head_shut, tg_head_e, tg_e_name, tg_e_fn, tg_e_call, tg_e_at, tg_e_in, tg_e_shut, tg_e_head, $xs,*])
namespace Pg
open PySem L2 Dv
abbrev f_is_integer : Nat := 0
abbrev f_is_natural : Nat := 1
abbrev f_anew : Nat := 2
abbrev f_is_plain_name : Nat := 3
abbrev f_is_node : Nat := 4
abbrev f_is_tree : Nat := 5
abbrev f_flat : Nat := 6
abbrev f_ends_of : Nat := 7
abbrev f_levels_of : Nat := 8
abbrev f_weight_of : Nat := 9
abbrev f_merged : Nat := 10
abbrev f_frees_of : Nat := 11
abbrev f_free_in : Nat := 12
abbrev f_is_name : Nat := 13
abbrev f_is_wide : Nat := 14
abbrev f_is_program : Nat := 15
abbrev f_need_wide : Nat := 16
abbrev f_nodes : Nat := 17
abbrev f_levels : Nat := 18
abbrev f_weight : Nat := 19
abbrev f_free_names : Nat := 20
abbrev f_built : Nat := 21
abbrev f_addresses_of : Nat := 22
abbrev f_is_row_of_ways : Nat := 23
abbrev f_index_at : Nat := 24
abbrev f_need_index : Nat := 25
abbrev f_names_in : Nat := 26
abbrev f_places_in : Nat := 27
abbrev f_addresses : Nat := 28
abbrev f_part : Nat := 29
abbrev f_exchanged : Nat := 30
abbrev f_bound_at : Nat := 31
abbrev f_fresh_in : Nat := 32
abbrev f_need_name : Nat := 33
abbrev f_spine : Nat := 34
abbrev f_called : Nat := 35
abbrev f_fresh : Nat := 36
abbrev f_read_signs : Nat := 37
abbrev f_need_string : Nat := 38
abbrev f_fault : Nat := 39
abbrev f_completion : Nat := 40
abbrev f_wall : Nat := 41
abbrev f_added : Nat := 42
abbrev f_close_to : Nat := 43
abbrev f_program_of : Nat := 44
abbrev f_read_program : Nat := 45
abbrev f_item_shown : Nat := 46
abbrev f_show_program : Nat := 47
abbrev f_is_pair : Nat := 48
abbrev f_numbers_of : Nat := 49
abbrev f_numbered_of : Nat := 50
abbrev f_is_numbered_leaf : Nat := 51
abbrev f_is_numbered : Nat := 52
abbrev f_need_numbered : Nat := 53
abbrev f_numbers_in : Nat := 54
abbrev f_outside_of : Nat := 55
abbrev f_names_for : Nat := 56
abbrev f_numbered : Nat := 57
abbrev f_named : Nat := 58
abbrev f_told : Nat := 59
abbrev f_are_like : Nat := 60
abbrev f_parting : Nat := 61
abbrev f_bound_of : Nat := 62
abbrev f_is_caught : Nat := 63
abbrev f_with_name : Nat := 64
abbrev f_renamed : Nat := 65
abbrev f_renamings : Nat := 66
abbrev f_is_renaming : Nat := 67
abbrev f_renamings_hold : Nat := 68
abbrev f_are_ascending : Nat := 69
abbrev f_need_number : Nat := 70
abbrev f_entered : Nat := 71
abbrev f_put_tokens : Nat := 72
abbrev f_put_for : Nat := 73
abbrev f_is_puts : Nat := 74
abbrev f_put_all : Nat := 75
abbrev f_put_in : Nat := 76
abbrev f_put_place : Nat := 77
abbrev f_is_ready : Nat := 78
abbrev f_indexes_ready : Nat := 79
abbrev f_ready : Nat := 80
abbrev f_call_parts : Nat := 81
abbrev f_contracted_at : Nat := 82
abbrev f_need_ready : Nat := 83
abbrev f_contracted : Nat := 84
abbrev f_led : Nat := 85
abbrev f_need_led : Nat := 86
abbrev f_walked : Nat := 87
abbrev f_places_of : Nat := 88
abbrev f_fns_above : Nat := 89
abbrev f_copies_of : Nat := 90
abbrev f_residuals : Nat := 91
abbrev f_developed_by : Nat := 92
abbrev f_is_lot : Nat := 93
abbrev f_developed : Nat := 94
abbrev f_lot_behind : Nat := 95
abbrev f_meeting : Nat := 96
abbrev f_meeting_holds : Nat := 97
abbrev f_is_one_of : Nat := 98
abbrev f_need_program : Nat := 99
abbrev f_calls_ahead : Nat := 100
abbrev f_call_at_head : Nat := 101
abbrev f_rests_in : Nat := 102
abbrev f_next_by_value : Nat := 103
abbrev f_ready_ahead : Nat := 104
abbrev f_argument_to_go : Nat := 105
abbrev f_next_longest : Nat := 106
abbrev f_chain_of : Nat := 107
abbrev f_next_by_need : Nat := 108
abbrev f_next_of : Nat := 109
abbrev f_is_way : Nat := 110
abbrev f_has_places_of : Nat := 111
abbrev f_is_state : Nat := 112
abbrev f_need_way : Nat := 113
abbrev f_need_state : Nat := 114
abbrev f_start : Nat := 115
abbrev f_next_step : Nat := 116
abbrev f_is_at_rest : Nat := 117
abbrev f_tokens_in : Nat := 118
abbrev f_with_tokens : Nat := 119
abbrev f_with_pair : Nat := 120
abbrev f_with_place : Nat := 121
abbrev f_stepped : Nat := 122
abbrev f_step : Nat := 123
abbrev f_dropped_by : Nat := 124
abbrev f_thrown_by : Nat := 125
abbrev f_thrown : Nat := 126
abbrev f_calls_outside : Nat := 127
abbrev f_size_of : Nat := 128
abbrev f_need_rest : Nat := 129
abbrev f_size : Nat := 130
abbrev f_waits_for : Nat := 131
abbrev f_need_any_state : Nat := 132
abbrev f_chain : Nat := 133
abbrev f_unfolded_of : Nat := 134
abbrev f_unfolded : Nat := 135
abbrev f_as_lets : Nat := 136
abbrev f_rows_of : Nat := 137
abbrev f_is_large : Nat := 138
abbrev f_bound_many : Nat := 139
abbrev f_nodes_behind : Nat := 140
abbrev f_gone : Nat := 141
abbrev f_need_run : Nat := 142
abbrev f_run : Nat := 143
abbrev f_counts : Nat := 144
abbrev f_trail : Nat := 145
abbrev f_is_step : Nat := 146
abbrev f_states_by : Nat := 147
abbrev f_played : Nat := 148
abbrev f_trail_holds : Nat := 149
abbrev f_places_by : Nat := 150
abbrev f_path_by : Nat := 151
abbrev f_word_up : Nat := 152
abbrev f_word_of_fn : Nat := 153
abbrev f_move_word : Nat := 154
abbrev f_with_content : Nat := 155
abbrev f_put_pair : Nat := 156
abbrev f_put_argument : Nat := 157
abbrev f_called_by : Nat := 158
abbrev f_looked_by : Nat := 159
abbrev f_walked_by : Nat := 160
abbrev f_moved : Nat := 161
abbrev f_is_item : Nat := 162
abbrev f_is_machine_store : Nat := 163
abbrev f_has_form : Nat := 164
abbrev f_has_works : Nat := 165
abbrev f_folded : Nat := 166
abbrev f_rests : Nat := 167
abbrev f_item_fits : Nat := 168
abbrev f_is_right_longest : Nat := 169
abbrev f_is_machine : Nat := 170
abbrev f_need_machine : Nat := 171
abbrev f_load : Nat := 172
abbrev f_decoded : Nat := 173
abbrev f_next_move : Nat := 174
abbrev f_move : Nat := 175
abbrev f_rows_in : Nat := 176
abbrev f_copies_come : Nat := 177
abbrev f_ride : Nat := 178
abbrev f_bags_in : Nat := 179
abbrev f_level_by : Nat := 180
abbrev f_turned : Nat := 181
abbrev f_moved_bag : Nat := 182
abbrev f_needed_of : Nat := 183
abbrev f_ordered : Nat := 184
abbrev f_is_row : Nat := 185
abbrev f_is_entry : Nat := 186
abbrev f_is_lone : Nat := 187
abbrev f_suits : Nat := 188
abbrev f_are_kinds : Nat := 189
abbrev f_ways_of : Nat := 190
abbrev f_need_kinds : Nat := 191
abbrev f_need_some_kinds : Nat := 192
abbrev f_fits : Nat := 193
abbrev f_comes : Nat := 194
abbrev f_is_kinds : Nat := 195
abbrev f_is_bag : Nat := 196
abbrev f_is_result : Nat := 197
abbrev f_joined : Nat := 198
abbrev f_need_row : Nat := 199
abbrev f_weights_of : Nat := 200
abbrev f_bag_weight : Nat := 201
abbrev f_sum_of : Nat := 202
abbrev f_just : Nat := 203
abbrev f_pieces_of : Nat := 204
abbrev f_read_entries : Nat := 205
abbrev f_text_by : Nat := 206
abbrev f_show_bag : Nat := 207
abbrev f_read_bag : Nat := 208
abbrev f_is_telling : Nat := 209
abbrev f_fit_name : Nat := 210
abbrev f_fit_fn : Nat := 211
abbrev f_fit_rest : Nat := 212
abbrev f_fit_call : Nat := 213
abbrev f_fit_throw : Nat := 214
abbrev f_fit_wait : Nat := 215
abbrev f_fit : Nat := 216
abbrev f_poured : Nat := 217
abbrev f_bound_bags : Nat := 218
abbrev f_binds : Nat := 219
abbrev f_used_by : Nat := 220
abbrev f_uses_in : Nat := 221
abbrev f_counts_of : Nat := 222
abbrev f_told_right : Nat := 223
abbrev f_shaped : Nat := 224
abbrev f_read : Nat := 225
abbrev f_need_reading : Nat := 226
abbrev f_is_derivation : Nat := 227
abbrev f_judged : Nat := 228
abbrev f_all_given : Nat := 229
abbrev f_quiet : Nat := 230
abbrev f_is_quiet : Nat := 231
abbrev f_told_addresses : Nat := 232
abbrev f_subjects : Nat := 233
abbrev f_is_free_at : Nat := 234
abbrev f_taken_out : Nat := 235
abbrev f_called_again : Nat := 236
abbrev f_put_back : Nat := 237
abbrev f_gathered : Nat := 238
abbrev f_shared_back : Nat := 239
abbrev f_looked_back : Nat := 240
abbrev f_quiet_node : Nat := 241
abbrev f_waiting_node : Nat := 242
abbrev f_wanted_node : Nat := 243
abbrev f_rested_by_value : Nat := 244
abbrev f_rested_by_need : Nat := 245
abbrev f_rested_work : Nat := 246
abbrev f_roots_by : Nat := 247
abbrev f_set_roots : Nat := 248
abbrev f_parts_at : Nat := 249
abbrev f_fetched : Nat := 250
abbrev f_is_stored : Nat := 251
abbrev f_against : Nat := 252
abbrev f_found : Nat := 253
abbrev f_rules : Nat := 254
abbrev f_need_derivation : Nat := 255
abbrev f_need_derivations : Nat := 256
abbrev f_together : Nat := 257
abbrev f_finished : Nat := 258
abbrev f_used_with : Nat := 259
abbrev f_name_of : Nat := 260
abbrev f_fn_of : Nat := 261
abbrev f_rest_of : Nat := 262
abbrev f_rule_of : Nat := 263
abbrev f_call_of : Nat := 264
abbrev f_alone : Nat := 265
abbrev f_parted : Nat := 266
abbrev f_goal_at : Nat := 267
abbrev f_goal_by : Nat := 268
abbrev f_goals_at : Nat := 269
abbrev f_put_at : Nat := 270
abbrev f_taken : Nat := 271
abbrev f_members_of : Nat := 272
abbrev f_dealt : Nat := 273
abbrev f_put_into : Nat := 274
abbrev f_shared : Nat := 275
abbrev f_looked : Nat := 276
abbrev f_along : Nat := 277
abbrev f_need_step : Nat := 278
abbrev f_need_work : Nat := 279
abbrev f_forth : Nat := 280
abbrev f_back : Nat := 281
abbrev f_rested : Nat := 282
abbrev f_need_quiet : Nat := 283
abbrev f_subjects_of : Nat := 284
abbrev f_tallied : Nat := 285
abbrev f_fns_called : Nat := 286
abbrev f_calls_stepped : Nat := 287
abbrev f_names_looked : Nat := 288
abbrev f_spared : Nat := 289
abbrev f_sides_of : Nat := 290
abbrev f_with_uses : Nat := 291
abbrev f_sums : Nat := 292
abbrev f_bag_of : Nat := 293
abbrev f_without : Nat := 294
abbrev f_by_result : Nat := 295
abbrev f_woven : Nat := 296
abbrev f_rest_words : Nat := 297
abbrev f_resting : Nat := 298
abbrev f_ways_to_call : Nat := 299
abbrev f_call_entries : Nat := 300
abbrev f_name_entries : Nat := 301
abbrev f_members_by : Nat := 302
abbrev f_shut_entries : Nat := 303
abbrev f_fn_entries : Nat := 304
abbrev f_bags_by_weight : Nat := 305
abbrev f_entries_of : Nat := 306
abbrev f_all_kinds : Nat := 307
abbrev f_part_table : Nat := 308
abbrev f_table : Nat := 309
abbrev f_is_use : Nat := 310
abbrev f_is_table_entry : Nat := 311
abbrev f_are_entries : Nat := 312
abbrev f_need_table : Nat := 313
abbrev f_table_of_name : Nat := 314
abbrev f_table_of_fn : Nat := 315
abbrev f_table_of_call : Nat := 316
abbrev f_prices : Nat := 317
abbrev f_is_quiet_entry : Nat := 318
abbrev f_quiet_entry : Nat := 319
abbrev f_put_at_all : Nat := 320
abbrev f_kept : Nat := 321
abbrev f_kept_back : Nat := 322
abbrev f_taken_up : Nat := 323
abbrev f_poured_in : Nat := 324
abbrev f_uses_of : Nat := 325
abbrev f_read_spread : Nat := 326
abbrev f_along_spread : Nat := 327
abbrev f_against_spread : Nat := 328
abbrev f_rested_spread : Nat := 329
abbrev f_need_any : Nat := 330
abbrev f_need_spread : Nat := 331
abbrev f_is_spread : Nat := 332
abbrev f_judged_spread : Nat := 333
abbrev f_is_quiet_spread : Nat := 334
abbrev f_spread_of : Nat := 335
abbrev f_times : Nat := 336
abbrev f_spread_forth : Nat := 337
abbrev f_spread_back : Nat := 338
abbrev f_spread_of_need : Nat := 339
abbrev f_spread_at_rest : Nat := 340
abbrev f_words_of : Nat := 341
abbrev f_sum_at : Nat := 342
abbrev f_less_by : Nat := 343
abbrev f_vectors_of : Nat := 344
abbrev f_columns_sum : Nat := 345
abbrev f_is_uses : Nat := 346
abbrev f_is_wanted : Nat := 347
abbrev f_bags_of : Nat := 348
abbrev f_is_goal : Nat := 349
abbrev f_need_goal : Nat := 350
abbrev f_need_lot : Nat := 351
abbrev f_led_to : Nat := 352
abbrev f_lot_of : Nat := 353
abbrev f_goals_of : Nat := 354
abbrev f_lot_weight : Nat := 355
abbrev f_unbalanced : Nat := 356
abbrev f_goal_of : Nat := 357
abbrev f_is_even : Nat := 358
abbrev f_are_empty : Nat := 359
abbrev f_less_one : Nat := 360
abbrev f_items_of : Nat := 361
abbrev f_columns_from : Nat := 362
abbrev f_parcels : Nat := 363
abbrev f_shares : Nat := 364
abbrev f_deals : Nat := 365
abbrev f_tidy : Nat := 366
abbrev f_picked : Nat := 367
abbrev f_fn_options : Nat := 368
abbrev f_spine_of : Nat := 369
abbrev f_head_options : Nat := 370
abbrev f_value_options : Nat := 371
abbrev f_need_options : Nat := 372
abbrev f_combined : Nat := 373
abbrev f_are_shut : Nat := 374
abbrev f_step_options : Nat := 375
abbrev f_name_options : Nat := 376
abbrev f_lengths_at : Nat := 377
abbrev f_steps_of : Nat := 378
abbrev f_full_moves : Nat := 379
abbrev f_tidied : Nat := 380
abbrev f_moves_at : Nat := 381
abbrev f_moves_from : Nat := 382
abbrev f_names_of : Nat := 383
abbrev f_bare_of : Nat := 384
abbrev f_bare : Nat := 385
abbrev f_moves : Nat := 386
abbrev f_pool_of : Nat := 387
abbrev f_telling_of : Nat := 388
abbrev f_derivation_of : Nat := 389
abbrev f_bare_weight : Nat := 390
abbrev f_can_go : Nat := 391
abbrev f_chosen_of : Nat := 392
abbrev f_full_of : Nat := 393
abbrev f_fresh_name : Nat := 394
abbrev f_made : Nat := 395
abbrev f_made_fn : Nat := 396
abbrev f_quiet_tree : Nat := 397
abbrev f_made_head : Nat := 398
abbrev f_head_tree : Nat := 399
abbrev f_made_let : Nat := 400
abbrev f_let_tree : Nat := 401
abbrev f_lost_member : Nat := 402
abbrev f_trees_of : Nat := 403
abbrev f_fill : Nat := 404
abbrev f_can_fill : Nat := 405
abbrev f_hopeless : Nat := 406
abbrev f_is_first_row : Nat := 407
abbrev f_is_bare : Nat := 408
abbrev f_is_closed : Nat := 409
abbrev f_fill_holds : Nat := 410
abbrev f_do_fill : Nat := 411
abbrev f_reached : Nat := 412
abbrev f_spine_in : Nat := 413
abbrev f_argument_address : Nat := 414
abbrev f_guided : Nat := 415
abbrev f_guided_fn : Nat := 416
abbrev f_guided_head : Nat := 417
abbrev f_guided_call : Nat := 418
abbrev f_tree_for : Nat := 419
abbrev f_are_arrows : Nat := 420
abbrev f_shapes_at : Nat := 421
abbrev f_shapes_by : Nat := 422
abbrev f_shapes_for : Nat := 423
abbrev f_shapes : Nat := 424
abbrev f_how_many : Nat := 425
abbrev f_completed_in : Nat := 426
abbrev f_completed : Nat := 427
abbrev f_derivations_for : Nat := 428
abbrev f_derived : Nat := 429
abbrev f_heavy_tidy : Nat := 430
abbrev f_heavier : Nat := 431
abbrev f_heavy_parts : Nat := 432
abbrev f_told_rows : Nat := 433
abbrev f_rules_by : Nat := 434
abbrev f_fewest_at : Nat := 435
abbrev f_fewest_program : Nat := 436
abbrev f_cost_of : Nat := 437
abbrev f_least_moves : Nat := 438
abbrev f_least : Nat := 439
abbrev f_fewest : Nat := 440
abbrev f_is_made_so : Nat := 441
abbrev f_rules_together : Nat := 442
abbrev f_is_normal : Nat := 443
abbrev f_need_normal : Nat := 444
abbrev f_letter : Nat := 445
abbrev f_fits_bag : Nat := 446
abbrev f_is_plan : Nat := 447
abbrev f_need_plan : Nat := 448
abbrev f_heads : Nat := 449
abbrev f_general_fn : Nat := 450
abbrev f_general : Nat := 451
abbrev f_general_derivation : Nat := 452
abbrev f_most_general : Nat := 453
abbrev f_tree_from : Nat := 454
abbrev f_read_plan : Nat := 455
abbrev f_plan_read : Nat := 456
abbrev f_plan_of : Nat := 457
abbrev f_puts_of : Nat := 458
abbrev f_put_kinds : Nat := 459
abbrev f_derive : Nat := 460
abbrev f_once_in : Nat := 461
abbrev f_once_plan : Nat := 462
abbrev f_bags_up_to : Nat := 463
abbrev f_plans_in : Nat := 464
abbrev f_plans : Nat := 465
abbrev f_principal : Nat := 466
abbrev f_long_shapes : Nat := 467
abbrev f_has_left : Nat := 468
abbrev f_standings : Nat := 469
abbrev f_are_twice : Nat := 470
abbrev f_is_principal : Nat := 471
abbrev f_parting_goal : Nat := 472
abbrev f_is_short_at : Nat := 473
abbrev f_shorter : Nat := 474
abbrev f_is_lengthened : Nat := 475
abbrev f_shortened : Nat := 476
abbrev f_is_open : Nat := 477
abbrev f_met : Nat := 478
abbrev f_names_at : Nat := 479
abbrev f_laid_on : Nat := 480
abbrev f_is_value_way : Nat := 481
abbrev f_without_places : Nat := 482
abbrev f_are_exchanged : Nat := 483
abbrev f_goes_on : Nat := 484
abbrev f_is_value_paper : Nat := 485
abbrev f_common : Nat := 486
abbrev f_ring_at : Nat := 487
abbrev f_value_paper : Nat := 488
abbrev f_is_bare_program : Nat := 489
abbrev f_is_bare_puts : Nat := 490
abbrev f_ahead : Nat := 491
abbrev f_begins_with : Nat := 492
abbrev f_is_count : Nat := 493
abbrev f_is_name_paper : Nat := 494
abbrev f_is_ring_by_value : Nat := 495
abbrev f_has_part : Nat := 496
abbrev f_is_longest_paper : Nat := 497
abbrev f_paper_holds : Nat := 498
abbrev f_ring_of : Nat := 499
abbrev f_by_name : Nat := 500
abbrev f_name_paper : Nat := 501
abbrev f_name_run : Nat := 502
abbrev f_longest_paper : Nat := 503
abbrev f_never : Nat := 504
abbrev f_how_ends : Nat := 505
abbrev f_are_for : Nat := 506
abbrev f_derivation_for : Nat := 507
abbrev f_show_wanted : Nat := 508
abbrev f_show_goal : Nat := 509
abbrev f_show_lot : Nat := 510
abbrev f_as_places : Nat := 511
abbrev f_show_shape : Nat := 512
abbrev f_bag_or_none : Nat := 513
abbrev f_goal_from : Nat := 514
abbrev f_text_of : Nat := 515
abbrev f_goal_or_none : Nat := 516
abbrev f_read_goal : Nat := 517
abbrev f_read_lot : Nat := 518
abbrev f_program_or_none : Nat := 519
abbrev f_with_left : Nat := 520
abbrev f_free_name_for : Nat := 521
abbrev f_read_shape : Nat := 522
abbrev f_most_of : Nat := 523
abbrev f_is_command : Nat := 524
abbrev f_read_or_none : Nat := 525
abbrev f_principal_text : Nat := 526
abbrev f_run_text : Nat := 527
abbrev f_kind_text : Nat := 528
abbrev f_filled : Nat := 529
abbrev f_calls_more : Nat := 530
abbrev f_wrapped : Nat := 531
abbrev f_law_box : Nat := 532
abbrev f_law_pick : Nat := 533
abbrev f_law_normal : Nat := 534
noncomputable def bd_is_integer (c : Nat → Fn) : S := (sRet (sAnd (sCB isiD (aCons (sVar 0) (aCons (sC (.ty "int")) aNil))) (sNot (sCB isiD (aCons (sVar 0) (aCons (sC (.ty "bool")) aNil))))))
noncomputable abbrev fn_is_integer (c : Nat → Fn) : Fn := run 1 1 (bd_is_integer c)
noncomputable def bd_is_natural (c : Nat → Fn) : S := (sRet (sAnd (sCall (c 0) [true] (aCons (sVar 0) aNil)) (sOp2 geD (sVar 0) (sC (.int 0)))))
noncomputable abbrev fn_is_natural (c : Nat → Fn) : Fn := run 1 1 (bd_is_natural c)
noncomputable def bd_need_number (c : Nat → Fn) : S := (sIfS (tOr (tB (sOp2 ltD (sVar 0) (sVar 1))) (tAnd (tB (sOp2 isntD (sVar 2) (sC .non))) (tB (sOp2 gtD (sVar 0) (sVar 2))))) (sRaise "InvalidNumber" (aCons (sVar 0) aNil)) sSkip)
noncomputable abbrev fn_need_number (c : Nat → Fn) : Fn := run 3 3 (bd_need_number c)
noncomputable def bd_anew (c : Nat → Fn) : S := (sSeq (sIfS (tTru (sCB isiD (aCons (sVar 0) (aCons (sC (.ty "tuple")) aNil)))) (sRet (sCB tupD (aCons (sLc (wSeq (sVar 0)) (gN 1) tYesT (sCall (c 2) [true] (aCons (sVar 1) aNil)) [1]) aNil))) sSkip)
    (sSeq (sIfS (tTru (sCB isiD (aCons (sVar 0) (aCons (sC (.ty "list")) aNil)))) (sRet (sLc (wSeq (sVar 0)) (gN 1) tYesT (sCall (c 2) [true] (aCons (sVar 1) aNil)) [1])) sSkip)
    (sRet (sVar 0))))
noncomputable abbrev fn_anew (c : Nat → Fn) : Fn := run 1 2 (bd_anew c)
noncomputable def bd_is_plain_name (c : Nat → Fn) : S := (sSeq (sIfS (tOr (tNot (tTru (sCB isiD (aCons (sVar 0) (aCons (sC (.ty "str")) aNil))))) (tOr (tB (sOp2 eqD (sVar 0) (sC (.str "")))) (tB (sOp2 ninD (sOp2 atD (sVar 0) (sC (.int 0))) (sC (.str "abcdefghijklmnopqrstuvwxyz")))))) (sRet (sC (.bl false))) sSkip)
    (sSeq (sAsg 1 (sCut (sVar 0) (pSome (sC (.int 1))) pNone))
    (sRet (sOr (sOp2 eqD (sVar 1) (sC (.str ""))) (sAnd (sOp2 leD (sCB lenD (aCons (sVar 1) aNil)) (sC (.int 6))) (sAnd (sOp2 neD (sOp2 atD (sVar 1) (sC (.int 0))) (sC (.str "0"))) (sCB allD (aCons (sLc (wSeq (sVar 1)) (gN 2) tYesT (sOp2 inD (sVar 2) (sC (.str "0123456789"))) [2]) aNil))))))))
noncomputable abbrev fn_is_plain_name (c : Nat → Fn) : Fn := run 1 3 (bd_is_plain_name c)
noncomputable def bd_is_node (c : Nat → Fn) : S := (sSeq (sIfS (tOr (tNot (tTru (sCB isiD (aCons (sVar 0) (aCons (sC (.ty "tuple")) aNil))))) (tOr (tB (sOp2 ltD (sCB lenD (aCons (sVar 0) aNil)) (sC (.int 2)))) (tNot (tTru (sCB isiD (aCons (sOp2 atD (sVar 0) (sC (.int 0))) (aCons (sC (.ty "str")) aNil))))))) (sRet (sC (.bl false))) sSkip)
    (sSeq (sIfS (tB (sOp2 eqD (sOp2 atD (sVar 0) (sC (.int 0))) (sC (.str "name")))) (sRet (sAnd (sOp2 eqD (sCB lenD (aCons (sVar 0) aNil)) (sC (.int 2))) (sCall (c 3) [true] (aCons (sOp2 atD (sVar 0) (sC (.int 1))) aNil)))) sSkip)
    (sSeq (sIfS (tB (sOp2 eqD (sOp2 atD (sVar 0) (sC (.int 0))) (sC (.str "at")))) (sRet (sAnd (sOp2 eqD (sCB lenD (aCons (sVar 0) aNil)) (sC (.int 2))) (sCall (c 1) [true] (aCons (sOp2 atD (sVar 0) (sC (.int 1))) aNil)))) sSkip)
    (sSeq (sIfS (tB (sOp2 eqD (sOp2 atD (sVar 0) (sC (.int 0))) (sC (.str "fn")))) (sRet (sAnd (sOp2 eqD (sCB lenD (aCons (sVar 0) aNil)) (sC (.int 3))) (sCall (c 3) [true] (aCons (sOp2 atD (sVar 0) (sC (.int 1))) aNil)))) sSkip)
    (sRet (sAnd (sOp2 eqD (sOp2 atD (sVar 0) (sC (.int 0))) (sC (.str "call"))) (sOp2 eqD (sCB lenD (aCons (sVar 0) aNil)) (sC (.int 3)))))))))
noncomputable abbrev fn_is_node (c : Nat → Fn) : Fn := run 1 1 (bd_is_node c)
noncomputable def bd_is_tree_t1 (c : Nat → Fn) : T := (tB (sOp2 gtD (sCB lenD (aCons (sVar 1) aNil)) (sC (.int 0))))
noncomputable def bd_is_tree_b1 (c : Nat → Fn) : S := (sSeq (sAsg 2 (sMut 1 fPop aNil))
    (sSeq (sIfS (tNot (tTru (sCall (c 4) [true] (aCons (sVar 2) aNil)))) (sRet (sC (.bl false))) sSkip)
    (sIfS (tB (sOp2 eqD (sOp2 atD (sVar 2) (sC (.int 0))) (sC (.str "fn")))) (sDrop (sMut 1 fAppend (aCons (sOp2 atD (sVar 2) (sC (.int 2))) aNil))) (sIfS (tB (sOp2 eqD (sOp2 atD (sVar 2) (sC (.int 0))) (sC (.str "call")))) (sSeq (sDrop (sMut 1 fAppend (aCons (sOp2 atD (sVar 2) (sC (.int 2))) aNil)))
    (sDrop (sMut 1 fAppend (aCons (sOp2 atD (sVar 2) (sC (.int 1))) aNil)))) sSkip))))
noncomputable def bd_is_tree (c : Nat → Fn) : S := (sSeq (sAsg 1 (sLst (aCons (sVar 0) aNil)))
    (sSeq (sWh (bd_is_tree_t1 c) (bd_is_tree_b1 c))
    (sRet (sC (.bl true)))))
noncomputable abbrev fn_is_tree (c : Nat → Fn) : Fn := run 1 3 (bd_is_tree c)
noncomputable def bd_flat_t1 (c : Nat → Fn) : T := (tB (sOp2 gtD (sCB lenD (aCons (sVar 2) aNil)) (sC (.int 0))))
noncomputable def bd_flat_b1 (c : Nat → Fn) : S := (sSeq (sAsg 3 (sMut 2 fPop aNil))
    (sSeq (sDrop (sMut 1 fAppend (aCons (sTup (aCons (sOp2 atD (sVar 3) (sC (.int 0))) (aCons (sIf (tB (sOp2 eqD (sOp2 atD (sVar 3) (sC (.int 0))) (sC (.str "call")))) (sC .non) (sOp2 atD (sVar 3) (sC (.int 1)))) aNil))) aNil)))
    (sIfS (tB (sOp2 eqD (sOp2 atD (sVar 3) (sC (.int 0))) (sC (.str "fn")))) (sDrop (sMut 2 fAppend (aCons (sOp2 atD (sVar 3) (sC (.int 2))) aNil))) (sIfS (tB (sOp2 eqD (sOp2 atD (sVar 3) (sC (.int 0))) (sC (.str "call")))) (sSeq (sDrop (sMut 2 fAppend (aCons (sOp2 atD (sVar 3) (sC (.int 2))) aNil)))
    (sDrop (sMut 2 fAppend (aCons (sOp2 atD (sVar 3) (sC (.int 1))) aNil)))) sSkip))))
noncomputable def bd_flat (c : Nat → Fn) : S := (sSeq (sAsg 1 (sLst aNil))
    (sSeq (sAsg 2 (sLst (aCons (sVar 0) aNil)))
    (sSeq (sWh (bd_flat_t1 c) (bd_flat_b1 c))
    (sRet (sVar 1)))))
noncomputable abbrev fn_flat (c : Nat → Fn) : Fn := run 1 4 (bd_flat c)
noncomputable def bd_ends_of_g1 : G := (gN 2)
noncomputable def bd_ends_of_b1 (c : Nat → Fn) : S := (sSeq (sAsg 3 (sOp2 atD (sOp2 atD (sVar 0) (sVar 2)) (sC (.int 0))))
    (sIfS (tB (sOp2 eqD (sVar 3) (sC (.str "fn")))) (sSet 1 (sVar 2) (sOp2 atD (sVar 1) (sOp2 addD (sVar 2) (sC (.int 1))))) (sIfS (tB (sOp2 eqD (sVar 3) (sC (.str "call")))) (sSet 1 (sVar 2) (sOp2 atD (sVar 1) (sOp2 atD (sVar 1) (sOp2 addD (sVar 2) (sC (.int 1)))))) (sSet 1 (sVar 2) (sOp2 addD (sVar 2) (sC (.int 1)))))))
noncomputable def bd_ends_of (c : Nat → Fn) : S := (sSeq (sAsg 1 (sOp2 mulD (sLst (aCons (sC (.int 0)) aNil)) (sCB lenD (aCons (sVar 0) aNil))))
    (sSeq (sFor (wArgs rng3 (aCons (sOp2 subD (sCB lenD (aCons (sVar 0) aNil)) (sC (.int 1))) (aCons (sOp1 negD (sC (.int 1))) (aCons (sOp1 negD (sC (.int 1))) aNil)))) bd_ends_of_g1 (bd_ends_of_b1 c))
    (sRet (sVar 1))))
noncomputable abbrev fn_ends_of (c : Nat → Fn) : Fn := run 1 4 (bd_ends_of c)
noncomputable def bd_levels_of_g1 : G := (gN 3)
noncomputable def bd_levels_of_b1 (c : Nat → Fn) : S := (sSeq (sAsg 4 (sOp2 atD (sOp2 atD (sVar 0) (sVar 3)) (sC (.int 0))))
    (sIfS (tB (sOp2 eqD (sVar 4) (sC (.str "fn")))) (sSet 2 (sVar 3) (sOp2 addD (sOp2 atD (sVar 2) (sOp2 addD (sVar 3) (sC (.int 1)))) (sC (.int 1)))) (sIfS (tB (sOp2 eqD (sVar 4) (sC (.str "call")))) (sSet 2 (sVar 3) (sOp2 addD (sCB maxD (aCons (sOp2 atD (sVar 2) (sOp2 addD (sVar 3) (sC (.int 1)))) (aCons (sOp2 atD (sVar 2) (sOp2 atD (sVar 1) (sOp2 addD (sVar 3) (sC (.int 1))))) aNil))) (sC (.int 1)))) sSkip)))
noncomputable def bd_levels_of (c : Nat → Fn) : S := (sSeq (sAsg 1 (sCall (c 7) [true] (aCons (sVar 0) aNil)))
    (sSeq (sAsg 2 (sOp2 mulD (sLst (aCons (sC (.int 1)) aNil)) (sCB lenD (aCons (sVar 0) aNil))))
    (sSeq (sFor (wArgs rng3 (aCons (sOp2 subD (sCB lenD (aCons (sVar 0) aNil)) (sC (.int 1))) (aCons (sOp1 negD (sC (.int 1))) (aCons (sOp1 negD (sC (.int 1))) aNil)))) bd_levels_of_g1 (bd_levels_of_b1 c))
    (sRet (sOp2 atD (sVar 2) (sC (.int 0)))))))
noncomputable abbrev fn_levels_of (c : Nat → Fn) : Fn := run 1 5 (bd_levels_of c)
noncomputable def bd_addresses_of_g1 : G := (gT 2 (gs1 (gN 3) (gs1 (gN 4) gs0)))
noncomputable def bd_addresses_of_b1 (c : Nat → Fn) : S := (sSeq (sAsg 5 (sMut 2 fPop aNil))
    (sSeq (sDrop (sMut 1 fAppend (aCons (sVar 5) aNil)))
    (sSeq (sIfS (tB (sOp2 eqD (sVar 3) (sC (.str "call")))) (sDrop (sMut 2 fAppend (aCons (sOp2 addD (sVar 5) (sTup (aCons (sC (.int 1)) aNil))) aNil))) sSkip)
    (sIfS (tOr (tB (sOp2 eqD (sVar 3) (sC (.str "call")))) (tB (sOp2 eqD (sVar 3) (sC (.str "fn"))))) (sDrop (sMut 2 fAppend (aCons (sOp2 addD (sVar 5) (sTup (aCons (sC (.int 0)) aNil))) aNil))) sSkip))))
noncomputable def bd_addresses_of (c : Nat → Fn) : S := (sSeq (sAsg 1 (sLst aNil))
    (sSeq (sAsg 2 (sLst (aCons (sTup aNil) aNil)))
    (sSeq (sFor (wSeq (sVar 0)) bd_addresses_of_g1 (bd_addresses_of_b1 c))
    (sRet (sVar 1)))))
noncomputable abbrev fn_addresses_of (c : Nat → Fn) : Fn := run 1 6 (bd_addresses_of c)
noncomputable def bd_is_program (c : Nat → Fn) : S := (sSeq (sIfS (tNot (tTru (sCall (c 5) [true] (aCons (sVar 0) aNil)))) (sRet (sC (.bl false))) sSkip)
    (sSeq (sAsg 1 (sCall (c 6) [true] (aCons (sVar 0) aNil)))
    (sSeq (sIfS (tOr (tB (sOp2 gtD (sCB lenD (aCons (sVar 1) aNil)) (sC (.int 200)))) (tTru (sCB anyD (aCons (sLc (wSeq (sVar 1)) (gT 2 (gs1 (gN 2) (gs1 (gN 3) gs0))) tYesT (sOp2 eqD (sVar 2) (sC (.str "at"))) [2, 3]) aNil)))) (sRet (sC (.bl false))) sSkip)
    (sRet (sOp2 leD (sCall (c 8) [true] (aCons (sVar 1) aNil)) (sC (.int 60)))))))
noncomputable abbrev fn_is_program (c : Nat → Fn) : Fn := run 1 4 (bd_is_program c)
noncomputable def bd_need_wide (c : Nat → Fn) : S := (sIfS (tNot (tTru (sCall (c 5) [true] (aCons (sVar 0) aNil)))) (sRaise "InvalidProgram" (aCons (sCall (c 2) [true] (aCons (sVar 0) aNil)) aNil)) sSkip)
noncomputable abbrev fn_need_wide (c : Nat → Fn) : Fn := run 1 1 (bd_need_wide c)
noncomputable def bd_need_program (c : Nat → Fn) : S := (sIfS (tNot (tTru (sCall (c 15) [true] (aCons (sVar 0) aNil)))) (sRaise "InvalidProgram" (aCons (sCall (c 2) [true] (aCons (sVar 0) aNil)) aNil)) sSkip)
noncomputable abbrev fn_need_program (c : Nat → Fn) : Fn := run 1 1 (bd_need_program c)
noncomputable def bd_spine_t1 (c : Nat → Fn) : T := (tB (sOp2 eqD (sOp2 atD (sVar 1) (sC (.int 0))) (sC (.str "call"))))
noncomputable def bd_spine_b1 (c : Nat → Fn) : S := (sSeq (sDrop (sMut 2 fAppend (aCons (sOp2 atD (sVar 1) (sC (.int 2))) aNil)))
    (sAsg 1 (sOp2 atD (sVar 1) (sC (.int 1)))))
noncomputable def bd_spine (c : Nat → Fn) : S := (sSeq (sDrop (sCall (c 16) [true] (aCons (sVar 0) aNil)))
    (sSeq (sAsg 1 (sVar 0))
    (sSeq (sAsg 2 (sLst aNil))
    (sSeq (sWh (bd_spine_t1 c) (bd_spine_b1 c))
    (sRet (sTup (aCons (sVar 1) (aCons (sCB tupD (aCons (sOp1 revD (sVar 2)) aNil)) aNil))))))))
noncomputable abbrev fn_spine (c : Nat → Fn) : Fn := run 1 3 (bd_spine c)
noncomputable def bd_is_ready (c : Nat → Fn) : S := (sRet (sAnd (sOp2 eqD (sOp2 atD (sOp2 atD (sVar 0) (sVar 1)) (sC (.int 0))) (sC (.str "call"))) (sOp2 eqD (sOp2 atD (sOp2 atD (sVar 0) (sOp2 addD (sVar 1) (sC (.int 1)))) (sC (.int 0))) (sC (.str "fn")))))
noncomputable abbrev fn_is_ready (c : Nat → Fn) : Fn := run 2 2 (bd_is_ready c)
noncomputable def bd_indexes_ready (c : Nat → Fn) : S := (sRet (sLc (wArgs rng1 (aCons (sCB lenD (aCons (sVar 0) aNil)) aNil)) (gN 1) (tTru (sCall (c 78) [true, true] (aCons (sVar 0) (aCons (sVar 1) aNil)))) (sVar 1) [1]))
noncomputable abbrev fn_indexes_ready (c : Nat → Fn) : Fn := run 1 2 (bd_indexes_ready c)
noncomputable def bd_ready (c : Nat → Fn) : S := (sSeq (sDrop (sCall (c 16) [true] (aCons (sVar 0) aNil)))
    (sSeq (sAsg 1 (sCall (c 6) [true] (aCons (sVar 0) aNil)))
    (sSeq (sAsg 2 (sCall (c 22) [true] (aCons (sVar 1) aNil)))
    (sRet (sCB tupD (aCons (sLc (wSeq (sCall (c 79) [true] (aCons (sVar 1) aNil))) (gN 3) tYesT (sOp2 atD (sVar 2) (sVar 3)) [3]) aNil))))))
noncomputable abbrev fn_ready (c : Nat → Fn) : Fn := run 1 4 (bd_ready c)
noncomputable def bd_is_normal (c : Nat → Fn) : S := (sSeq (sDrop (sCall (c 99) [true] (aCons (sVar 0) aNil)))
    (sRet (sOp2 eqD (sCall (c 80) [true] (aCons (sVar 0) aNil)) (sTup aNil))))
noncomputable abbrev fn_is_normal (c : Nat → Fn) : Fn := run 1 1 (bd_is_normal c)
noncomputable def bd_need_normal (c : Nat → Fn) : S := (sIfS (tNot (tTru (sCall (c 443) [true] (aCons (sVar 0) aNil)))) (sRaise "NotNormal" (aCons (sCall (c 2) [true] (aCons (sVar 0) aNil)) aNil)) sSkip)
noncomputable abbrev fn_need_normal (c : Nat → Fn) : Fn := run 1 1 (bd_need_normal c)
noncomputable def bd_fits (c : Nat → Fn) : S := (sSeq (sIfS (tOr (tNot (tTru (sCB isiD (aCons (sVar 1) (aCons (sC (.ty "tuple")) aNil))))) (tOr (tB (sOp2 eqD (sCB lenD (aCons (sVar 1) aNil)) (sC (.int 0)))) (tNot (tTru (sCB isiD (aCons (sOp2 atD (sVar 1) (sC (.int 0))) (aCons (sC (.ty "str")) aNil))))))) (sRet (sC (.bl false))) sSkip)
    (sSeq (sIfS (tB (sOp2 eqD (sOp2 atD (sVar 0) (sC (.int 0))) (sC (.str "fn")))) (sSeq (sIfS (tB (sOp2 eqD (sOp2 atD (sVar 1) (sC (.int 0))) (sC (.str "in")))) (sRet (sAnd (sOp2 eqD (sCB lenD (aCons (sVar 1) aNil)) (sC (.int 2))) (sCall (c 193) [true, true] (aCons (sOp2 atD (sVar 0) (sC (.int 2))) (aCons (sOp2 atD (sVar 1) (sC (.int 1))) aNil))))) sSkip)
    (sRet (sAnd (sOp2 eqD (sOp2 atD (sVar 1) (sC (.int 0))) (sC (.str "shut"))) (sOp2 eqD (sCB lenD (aCons (sVar 1) aNil)) (sC (.int 1)))))) sSkip)
    (sSeq (sIfS (tOr (tB (sOp2 neD (sOp2 atD (sVar 1) (sC (.int 0))) (sC (.str "head")))) (tOr (tB (sOp2 neD (sCB lenD (aCons (sVar 1) aNil)) (sC (.int 2)))) (tNot (tTru (sCB isiD (aCons (sOp2 atD (sVar 1) (sC (.int 1))) (aCons (sC (.ty "tuple")) aNil))))))) (sRet (sC (.bl false))) sSkip)
    (sSeq (sAsg 2 (sOp2 atD (sCall (c 34) [true] (aCons (sVar 0) aNil)) (sC (.int 1))))
    (sSeq (sIfS (tB (sOp2 gtD (sCB lenD (aCons (sOp2 atD (sVar 1) (sC (.int 1))) aNil)) (sCB lenD (aCons (sVar 2) aNil)))) (sRet (sC (.bl false))) sSkip)
    (sRet (sCB allD (aCons (sLc (wZip (aCons (sVar 2) (aCons (sOp2 atD (sVar 1) (sC (.int 1))) aNil))) (gT 2 (gs1 (gN 3) (gs1 (gN 4) gs0))) tYesT (sCall (c 446) [true, true] (aCons (sVar 3) (aCons (sVar 4) aNil))) [3, 4]) aNil))))))))
noncomputable abbrev fn_fits (c : Nat → Fn) : Fn := run 2 5 (bd_fits c)
noncomputable def bd_fits_bag (c : Nat → Fn) : S := (sSeq (sIfS (tOr (tNot (tTru (sCB isiD (aCons (sVar 1) (aCons (sC (.ty "tuple")) aNil))))) (tNot (tTru (sCB allD (aCons (sLc (wSeq (sVar 1)) (gN 2) tYesT (sCall (c 193) [true, true] (aCons (sVar 0) (aCons (sVar 2) aNil))) [2]) aNil))))) (sRet (sC (.bl false))) sSkip)
    (sRet (sCB allD (aCons (sLc (wZip (aCons (sVar 1) (aCons (sCut (sVar 1) (pSome (sC (.int 1))) pNone) aNil))) (gT 2 (gs1 (gN 2) (gs1 (gN 3) gs0))) tYesT (sNot (sOp2 ltD (sVar 3) (sVar 2))) [2, 3]) aNil))))
noncomputable abbrev fn_fits_bag (c : Nat → Fn) : Fn := run 2 4 (bd_fits_bag c)
noncomputable def bd_is_plan (c : Nat → Fn) : S := (sSeq (sDrop (sCall (c 444) [true] (aCons (sVar 0) aNil)))
    (sRet (sCall (c 193) [true, true] (aCons (sVar 0) (aCons (sVar 1) aNil)))))
noncomputable abbrev fn_is_plan (c : Nat → Fn) : Fn := run 2 2 (bd_is_plan c)
noncomputable def bd_once_in (c : Nat → Fn) : S := (sSeq (sIfS (tB (sOp2 eqD (sOp2 atD (sVar 0) (sC (.int 0))) (sC (.str "fn")))) (sRet (sTup (aCons (sC (.str "in")) (aCons (sCall (c 461) [true] (aCons (sOp2 atD (sVar 0) (sC (.int 2))) aNil)) aNil)))) sSkip)
    (sRet (sTup (aCons (sC (.str "head")) (aCons (sCB tupD (aCons (sLc (wSeq (sOp2 atD (sCall (c 34) [true] (aCons (sVar 0) aNil)) (sC (.int 1)))) (gN 1) tYesT (sTup (aCons (sCall (c 461) [true] (aCons (sVar 1) aNil)) aNil)) [1]) aNil)) aNil)))))
noncomputable abbrev fn_once_in (c : Nat → Fn) : Fn := run 1 2 (bd_once_in c)
noncomputable def bd_once_plan (c : Nat → Fn) : S := (sSeq (sDrop (sCall (c 444) [true] (aCons (sVar 0) aNil)))
    (sRet (sCall (c 461) [true] (aCons (sVar 0) aNil))))
noncomputable abbrev fn_once_plan (c : Nat → Fn) : Fn := run 1 1 (bd_once_plan c)
noncomputable def bd_bags_up_to_g1 : G := (gN 4)
noncomputable def bd_bags_up_to_b1 (c : Nat → Fn) : S := (sSeq (sAsg 3 (sLc2 (wSeq (sVar 3)) (gN 5) tYesT (wSeq (sVar 0)) (gN 6) (tOr (tB (sOp2 eqD (sVar 5) (sTup aNil))) (tNot (tB (sOp2 ltD (sVar 6) (sOp2 atD (sVar 5) (sOp1 negD (sC (.int 1)))))))) (sOp2 addD (sVar 5) (sTup (aCons (sVar 6) aNil))) [5, 6] [6]))
    (sDrop (sMut 2 fExtend (aCons (sVar 3) aNil))))
noncomputable def bd_bags_up_to (c : Nat → Fn) : S := (sSeq (sAsg 2 (sLst (aCons (sTup aNil) aNil)))
    (sSeq (sAsg 3 (sLst (aCons (sTup aNil) aNil)))
    (sSeq (sFor (wArgs rng1 (aCons (sVar 1) aNil)) bd_bags_up_to_g1 (bd_bags_up_to_b1 c))
    (sRet (sVar 2)))))
noncomputable abbrev fn_bags_up_to (c : Nat → Fn) : Fn := run 2 7 (bd_bags_up_to c)
noncomputable def bd_plans_in_g1 : G := (gN 4)
noncomputable def bd_plans_in_b1 (c : Nat → Fn) : S := (sSeq (sAsg 5 (sCall (c 463) [true, true] (aCons (sCall (c 464) [true, true] (aCons (sVar 4) (aCons (sVar 1) aNil))) (aCons (sVar 1) aNil))))
    (sSeq (sAsg 2 (sLc2 (wSeq (sVar 2)) (gN 6) tYesT (wSeq (sVar 5)) (gN 7) tYesT (sOp2 addD (sVar 6) (sTup (aCons (sVar 7) aNil))) [6, 7] [7]))
    (sDrop (sMut 3 fExtend (aCons (sLc (wSeq (sVar 2)) (gN 6) tYesT (sTup (aCons (sC (.str "head")) (aCons (sVar 6) aNil))) [6]) aNil)))))
noncomputable def bd_plans_in (c : Nat → Fn) : S := (sSeq (sIfS (tB (sOp2 eqD (sOp2 atD (sVar 0) (sC (.int 0))) (sC (.str "fn")))) (sRet (sOp2 addD (sCB sortD (aCons (sLc (wSeq (sCall (c 464) [true, true] (aCons (sOp2 atD (sVar 0) (sC (.int 2))) (aCons (sVar 1) aNil)))) (gN 4) tYesT (sTup (aCons (sC (.str "in")) (aCons (sVar 4) aNil))) [4]) aNil)) (sLst (aCons (sTup (aCons (sC (.str "shut")) aNil)) aNil)))) sSkip)
    (sSeq (sAsg 2 (sLst (aCons (sTup aNil) aNil)))
    (sSeq (sAsg 3 (sLst (aCons (sTup (aCons (sC (.str "head")) (aCons (sTup aNil) aNil))) aNil)))
    (sSeq (sFor (wSeq (sOp2 atD (sCall (c 34) [true] (aCons (sVar 0) aNil)) (sC (.int 1)))) bd_plans_in_g1 (bd_plans_in_b1 c))
    (sRet (sCB sortD (aCons (sVar 3) aNil)))))))
noncomputable abbrev fn_plans_in (c : Nat → Fn) : Fn := run 2 8 (bd_plans_in c)
noncomputable def bd_plans (c : Nat → Fn) : S := (sSeq (sDrop (sCall (c 444) [true] (aCons (sVar 0) aNil)))
    (sSeq (sDrop (sCall (c 70) [true, true, true] (aCons (sVar 1) (aCons (sC (.int 0)) (aCons (sC (.int 3)) aNil)))))
    (sRet (sCB tupD (aCons (sCall (c 464) [true, true] (aCons (sVar 0) (aCons (sVar 1) aNil))) aNil)))))
noncomputable abbrev fn_plans (c : Nat → Fn) : Fn := run 2 2 (bd_plans c)
noncomputable def bd_law_box (c : Nat → Fn) : S := (sRet (sLst (aCons (sCB listD (aCons (sVar 0) aNil)) (aCons (sC (.int 0)) (aCons (sC (.int 0)) aNil)))))
noncomputable abbrev fn_law_box (c : Nat → Fn) : Fn := run 1 1 (bd_law_box c)
noncomputable def bd_law_pick (c : Nat → Fn) : S := (sSeq (sIfS (tB (sOp2 ltD (sVar 1) (sC (.int 2)))) (sRet (sC (.int 0))) sSkip)
    (sSeq (sIfS (tB (sOp2 gtD (sOp2 atD (sVar 0) (sC (.int 2))) (sC (.int 0)))) (sSeq (sAsg 2 (sOp2 modD (sCB intD (aCons (sOp2 atD (sVar 0) (sC (.int 2))) aNil)) (sVar 1)))
    (sSeq (sSet 0 (sC (.int 2)) (sOp2 fdivD (sOp2 atD (sVar 0) (sC (.int 2))) (sVar 1)))
    (sRet (sVar 2)))) sSkip)
    (sSeq (sAsg 3 (sOp2 atD (sVar 0) (sC (.int 1))))
    (sSeq (sSet 0 (sC (.int 1)) (sOp2 addD (sVar 3) (sC (.int 1))))
    (sSeq (sAsg 4 (sIf (tB (sOp2 gtD (sCB lenD (aCons (sOp2 atD (sVar 0) (sC (.int 0))) aNil)) (sC (.int 0)))) (sOp2 atD (sOp2 atD (sVar 0) (sC (.int 0))) (sOp2 modD (sVar 3) (sCB lenD (aCons (sOp2 atD (sVar 0) (sC (.int 0))) aNil)))) (sC (.int 0))))
    (sSeq (sIfS (tAnd (tB (sOp2 ltD (sVar 3) (sCB lenD (aCons (sOp2 atD (sVar 0) (sC (.int 0))) aNil)))) (tB (sOp2 geD (sVar 4) (sOp2 powD (sC (.int 10)) (sC (.int 18)))))) (sSeq (sSet 0 (sC (.int 2)) (sOp2 fdivD (sVar 4) (sVar 1)))
    (sRet (sOp2 modD (sCB intD (aCons (sVar 4) aNil)) (sVar 1)))) sSkip)
    (sSeq (sAsg 5 (sOp2 modD (sOp2 mulD (sOp2 addD (sOp2 modD (sCB intD (aCons (sVar 4) aNil)) (sC (.int 2147483629))) (sC (.int 1))) (sC (.int 48271))) (sC (.int 2147483647))))
    (sSeq (sAsg 5 (sOp2 modD (sOp2 addD (sOp2 addD (sVar 5) (sOp2 mulD (sOp2 mulD (sVar 3) (sVar 3)) (sC (.int 30269)))) (sOp2 mulD (sC (.int 977)) (sVar 3))) (sC (.int 2147483629))))
    (sSeq (sAsg 5 (sOp2 modD (sOp2 mulD (sVar 5) (sVar 5)) (sC (.int 2147483587))))
    (sRet (sOp2 modD (sOp2 fdivD (sVar 5) (sC (.int 32))) (sVar 1))))))))))))
noncomputable abbrev fn_law_pick (c : Nat → Fn) : Fn := run 2 6 (bd_law_pick c)
noncomputable def bd_law_normal_g1 : G := (gN 6)
noncomputable def bd_law_normal_b1 (c : Nat → Fn) : S := (sSeq (sIfS (tOr (tB (sOp2 ltD (sVar 5) (sC (.int 2)))) (tB (sOp2 eqD (sCall (c 533) [true, true] (aCons (sVar 0) (aCons (sC (.int 2)) aNil))) (sC (.int 0))))) sBrk sSkip)
    (sSeq (sAsg 7 (sOp2 addD (sC (.int 1)) (sCall (c 533) [true, true] (aCons (sVar 0) (aCons (sOp2 subD (sVar 5) (sC (.int 1))) aNil)))))
    (sSeq (sAsg 4 (sTup (aCons (sC (.str "call")) (aCons (sVar 4) (aCons (sCall (c 534) [true, true, true] (aCons (sVar 0) (aCons (sVar 1) (aCons (sVar 7) aNil)))) aNil)))))
    (sAsg 5 (sOp2 subD (sOp2 subD (sVar 5) (sC (.int 1))) (sVar 7))))))
noncomputable def bd_law_normal (c : Nat → Fn) : S := (sSeq (sIfS (tAnd (tB (sOp2 gtD (sVar 2) (sC (.int 1)))) (tB (sOp2 eqD (sCall (c 533) [true, true] (aCons (sVar 0) (aCons (sC (.int 3)) aNil))) (sC (.int 0))))) (sSeq (sAsg 3 (sOp2 atD (sLst (aCons (sC (.str "x")) (aCons (sC (.str "y")) (aCons (sC (.str "x1")) (aCons (sC (.str "u")) aNil))))) (sCall (c 533) [true, true] (aCons (sVar 0) (aCons (sC (.int 4)) aNil)))))
    (sRet (sTup (aCons (sC (.str "fn")) (aCons (sVar 3) (aCons (sCall (c 534) [true, true, true] (aCons (sVar 0) (aCons (sOp2 addD (sVar 1) (sLst (aCons (sVar 3) aNil))) (aCons (sOp2 subD (sVar 2) (sC (.int 1))) aNil)))) aNil)))))) sSkip)
    (sSeq (sAsg 4 (sTup (aCons (sC (.str "name")) (aCons (sOp2 atD (sVar 1) (sCall (c 533) [true, true] (aCons (sVar 0) (aCons (sCB lenD (aCons (sVar 1) aNil)) aNil)))) aNil))))
    (sSeq (sAsg 5 (sOp2 subD (sVar 2) (sC (.int 1))))
    (sSeq (sFor (wArgs rng1 (aCons (sC (.int 3)) aNil)) bd_law_normal_g1 (bd_law_normal_b1 c))
    (sRet (sVar 4))))))
noncomputable abbrev fn_law_normal (c : Nat → Fn) : Fn := run 3 8 (bd_law_normal c)
noncomputable def bd_built_g1 : G := (gT 2 (gs1 (gN 2) (gs1 (gN 3) gs0)))
noncomputable def bd_built_b1 (c : Nat → Fn) : S := (sIfS (tB (sOp2 eqD (sVar 2) (sC (.str "fn")))) (sSeq (sAsg 4 (sMut 1 fPop aNil))
    (sDrop (sMut 1 fAppend (aCons (sTup (aCons (sC (.str "fn")) (aCons (sVar 3) (aCons (sVar 4) aNil)))) aNil)))) (sIfS (tB (sOp2 eqD (sVar 2) (sC (.str "call")))) (sSeq (sAsg 5 (sMut 1 fPop aNil))
    (sSeq (sAsg 6 (sMut 1 fPop aNil))
    (sDrop (sMut 1 fAppend (aCons (sTup (aCons (sC (.str "call")) (aCons (sVar 5) (aCons (sVar 6) aNil)))) aNil))))) (sDrop (sMut 1 fAppend (aCons (sTup (aCons (sVar 2) (aCons (sVar 3) aNil))) aNil)))))
noncomputable def bd_built (c : Nat → Fn) : S := (sSeq (sAsg 1 (sLst aNil))
    (sSeq (sFor (wRev (sVar 0)) bd_built_g1 (bd_built_b1 c))
    (sRet (sOp2 atD (sVar 1) (sC (.int 0))))))
noncomputable abbrev fn_built (c : Nat → Fn) : Fn := run 1 7 (bd_built c)
noncomputable def bd_is_row_of_ways (c : Nat → Fn) : S := (sRet (sAnd (sCB isiD (aCons (sVar 0) (aCons (sC (.ty "tuple")) aNil))) (sCB allD (aCons (sLc (wSeq (sVar 0)) (gN 1) tYesT (sAnd (sCall (c 1) [true] (aCons (sVar 1) aNil)) (sOp2 ltD (sVar 1) (sC (.int 2)))) [1]) aNil))))
noncomputable abbrev fn_is_row_of_ways (c : Nat → Fn) : Fn := run 1 2 (bd_is_row_of_ways c)
noncomputable def bd_index_at_g1 : G := (gN 4)
noncomputable def bd_index_at_b1 (c : Nat → Fn) : S := (sSeq (sAsg 5 (sOp2 atD (sOp2 atD (sVar 0) (sVar 3)) (sC (.int 0))))
    (sIfS (tAnd (tB (sOp2 eqD (sVar 5) (sC (.str "fn")))) (tB (sOp2 eqD (sVar 4) (sC (.int 0))))) (sAug 3 (augI (· + ·)) (sC (.int 1))) (sIfS (tB (sOp2 eqD (sVar 5) (sC (.str "call")))) (sAsg 3 (sIf (tB (sOp2 eqD (sVar 4) (sC (.int 0)))) (sOp2 addD (sVar 3) (sC (.int 1))) (sOp2 atD (sVar 2) (sOp2 addD (sVar 3) (sC (.int 1)))))) (sRet (sC .non)))))
noncomputable def bd_index_at (c : Nat → Fn) : S := (sSeq (sAsg 2 (sCall (c 7) [true] (aCons (sVar 0) aNil)))
    (sSeq (sAsg 3 (sC (.int 0)))
    (sSeq (sFor (wSeq (sVar 1)) bd_index_at_g1 (bd_index_at_b1 c))
    (sRet (sVar 3)))))
noncomputable abbrev fn_index_at (c : Nat → Fn) : Fn := run 2 6 (bd_index_at c)
noncomputable def bd_merged (c : Nat → Fn) : S := sBad
noncomputable abbrev fn_merged (c : Nat → Fn) : Fn := run 2 3 (bd_merged c)
noncomputable def bd_frees_of (c : Nat → Fn) : S := sBad
noncomputable abbrev fn_frees_of (c : Nat → Fn) : Fn := run 2 8 (bd_frees_of c)
noncomputable def bd_free_in (c : Nat → Fn) : S := (sRet (sOp2 atD (sCall (c 11) [true, true] (aCons (sVar 0) (aCons (sCall (c 7) [true] (aCons (sVar 0) aNil)) aNil))) (sC (.int 0))))
noncomputable abbrev fn_free_in (c : Nat → Fn) : Fn := run 1 1 (bd_free_in c)
noncomputable def bd_need_index (c : Nat → Fn) : S := (sSeq (sAsg 2 (sIf (tTru (sCall (c 23) [true] (aCons (sVar 1) aNil))) (sCall (c 24) [true, true] (aCons (sVar 0) (aCons (sVar 1) aNil))) (sC .non)))
    (sSeq (sIfS (tB (sOp2 isD (sVar 2) (sC .non))) (sRaise "InvalidAddress" (aCons (sCall (c 2) [true] (aCons (sVar 1) aNil)) aNil)) sSkip)
    (sRet (sVar 2))))
noncomputable abbrev fn_need_index (c : Nat → Fn) : Fn := run 2 3 (bd_need_index c)
noncomputable def bd_free_names (c : Nat → Fn) : S := (sSeq (sDrop (sCall (c 16) [true] (aCons (sVar 0) aNil)))
    (sRet (sCB tupD (aCons (sCB sortD (aCons (sLc (wSeq (sCall (c 12) [true] (aCons (sCall (c 6) [true] (aCons (sVar 0) aNil)) aNil))) (gT 2 (gs1 (gN 1) (gs1 (gN 2) gs0))) (tB (sOp2 eqD (sVar 1) (sC (.str "name")))) (sVar 2) [1, 2]) aNil)) aNil))))
noncomputable abbrev fn_free_names (c : Nat → Fn) : Fn := run 1 3 (bd_free_names c)
noncomputable def bd_addresses (c : Nat → Fn) : S := (sSeq (sDrop (sCall (c 16) [true] (aCons (sVar 0) aNil)))
    (sRet (sCB tupD (aCons (sCall (c 22) [true] (aCons (sCall (c 6) [true] (aCons (sVar 0) aNil)) aNil)) aNil))))
noncomputable abbrev fn_addresses (c : Nat → Fn) : Fn := run 1 1 (bd_addresses c)
noncomputable def bd_part (c : Nat → Fn) : S := (sSeq (sDrop (sCall (c 16) [true] (aCons (sVar 0) aNil)))
    (sSeq (sAsg 2 (sCall (c 6) [true] (aCons (sVar 0) aNil)))
    (sSeq (sAsg 3 (sCall (c 25) [true, true] (aCons (sVar 2) (aCons (sVar 1) aNil))))
    (sRet (sCall (c 21) [true] (aCons (sCut (sVar 2) (pSome (sVar 3)) (pSome (sOp2 atD (sCall (c 7) [true] (aCons (sVar 2) aNil)) (sVar 3)))) aNil))))))
noncomputable abbrev fn_part (c : Nat → Fn) : Fn := run 2 4 (bd_part c)
noncomputable def bd_exchanged (c : Nat → Fn) : S := (sSeq (sDrop (sCall (c 16) [true] (aCons (sVar 0) aNil)))
    (sSeq (sAsg 3 (sCall (c 6) [true] (aCons (sVar 0) aNil)))
    (sSeq (sAsg 4 (sCall (c 25) [true, true] (aCons (sVar 3) (aCons (sVar 1) aNil))))
    (sSeq (sDrop (sCall (c 16) [true] (aCons (sVar 2) aNil)))
    (sRet (sCall (c 21) [true] (aCons (sOp2 addD (sOp2 addD (sCut (sVar 3) pNone (pSome (sVar 4))) (sCall (c 6) [true] (aCons (sVar 2) aNil))) (sCut (sVar 3) (pSome (sOp2 atD (sCall (c 7) [true] (aCons (sVar 3) aNil)) (sVar 4))) pNone)) aNil)))))))
noncomputable abbrev fn_exchanged (c : Nat → Fn) : Fn := run 3 5 (bd_exchanged c)
noncomputable def bd_numbers_of (c : Nat → Fn) : S := sBad
noncomputable abbrev fn_numbers_of (c : Nat → Fn) : Fn := run 1 6 (bd_numbers_of c)
noncomputable def bd_are_like (c : Nat → Fn) : S := (sSeq (sDrop (sCall (c 16) [true] (aCons (sVar 0) aNil)))
    (sSeq (sDrop (sCall (c 16) [true] (aCons (sVar 1) aNil)))
    (sRet (sOp2 eqD (sCall (c 49) [true] (aCons (sCall (c 6) [true] (aCons (sVar 0) aNil)) aNil)) (sCall (c 49) [true] (aCons (sCall (c 6) [true] (aCons (sVar 1) aNil)) aNil))))))
noncomputable abbrev fn_are_like (c : Nat → Fn) : Fn := run 2 2 (bd_are_like c)
noncomputable def bd_is_short_at (c : Nat → Fn) : S := (sSeq (sIfS (tOr (tB (sOp2 neD (sOp2 atD (sVar 0) (sC (.int 0))) (sC (.str "fn")))) (tOr (tB (sOp2 neD (sOp2 atD (sOp2 atD (sVar 0) (sC (.int 2))) (sC (.int 0))) (sC (.str "call")))) (tB (sOp2 neD (sOp2 atD (sOp2 atD (sVar 0) (sC (.int 2))) (sC (.int 2))) (sTup (aCons (sC (.str "name")) (aCons (sOp2 atD (sVar 0) (sC (.int 1))) aNil))))))) (sRet (sC (.bl false))) sSkip)
    (sRet (sOp2 ninD (sOp2 atD (sVar 0) (sC (.int 1))) (sCall (c 20) [true] (aCons (sOp2 atD (sOp2 atD (sVar 0) (sC (.int 2))) (sC (.int 1))) aNil)))))
noncomputable abbrev fn_is_short_at (c : Nat → Fn) : Fn := run 1 1 (bd_is_short_at c)
noncomputable def bd_shorter_g1 : G := (gN 2)
noncomputable def bd_shorter_b1 (c : Nat → Fn) : S := (sSeq (sAsg 3 (sCall (c 29) [true, true] (aCons (sVar 0) (aCons (sVar 2) aNil))))
    (sIfS (tTru (sCall (c 473) [true] (aCons (sVar 3) aNil))) (sDrop (sMut 1 fAppend (aCons (sCall (c 30) [true, true, true] (aCons (sVar 0) (aCons (sVar 2) (aCons (sOp2 atD (sOp2 atD (sVar 3) (sC (.int 2))) (sC (.int 1))) aNil)))) aNil))) sSkip))
noncomputable def bd_shorter (c : Nat → Fn) : S := (sSeq (sAsg 1 (sLst aNil))
    (sSeq (sFor (wSeq (sCall (c 28) [true] (aCons (sVar 0) aNil))) bd_shorter_g1 (bd_shorter_b1 c))
    (sRet (sVar 1))))
noncomputable abbrev fn_shorter (c : Nat → Fn) : Fn := run 1 4 (bd_shorter c)
noncomputable def bd_is_lengthened_g1 : G := (gN 4)
noncomputable def bd_is_lengthened_b1 (c : Nat → Fn) : S := (sSeq (sIfS (tTru (sCall (c 60) [true, true] (aCons (sVar 0) (aCons (sVar 4) aNil)))) (sRet (sC (.bl true))) sSkip)
    (sIfS (tB (sOp2 ninD (sVar 4) (sVar 2))) (sDrop (sMut 2 fAppend (aCons (sVar 4) aNil))) sSkip))
noncomputable def bd_is_lengthened_t2 (c : Nat → Fn) : T := (tB (sOp2 ltD (sVar 3) (sCB lenD (aCons (sVar 2) aNil))))
noncomputable def bd_is_lengthened_b2 (c : Nat → Fn) : S := (sSeq (sFor (wSeq (sCall (c 474) [true] (aCons (sOp2 atD (sVar 2) (sVar 3)) aNil))) bd_is_lengthened_g1 (bd_is_lengthened_b1 c))
    (sAug 3 (augI (· + ·)) (sC (.int 1))))
noncomputable def bd_is_lengthened (c : Nat → Fn) : S := (sSeq (sDrop (sCall (c 444) [true] (aCons (sVar 0) aNil)))
    (sSeq (sDrop (sCall (c 444) [true] (aCons (sVar 1) aNil)))
    (sSeq (sIfS (tTru (sCall (c 60) [true, true] (aCons (sVar 0) (aCons (sVar 1) aNil)))) (sRet (sC (.bl true))) sSkip)
    (sSeq (sAsg 2 (sLst (aCons (sVar 1) aNil)))
    (sSeq (sAsg 3 (sC (.int 0)))
    (sSeq (sWh (bd_is_lengthened_t2 c) (bd_is_lengthened_b2 c))
    (sRet (sC (.bl false)))))))))
noncomputable abbrev fn_is_lengthened (c : Nat → Fn) : Fn := run 2 5 (bd_is_lengthened c)
noncomputable def bd_shortened_t1 (c : Nat → Fn) : T := (tB (sOp2 gtD (sCB lenD (aCons (sVar 2) aNil)) (sC (.int 0))))
noncomputable def bd_shortened_b1 (c : Nat → Fn) : S := (sSeq (sAsg 1 (sOp2 atD (sVar 2) (sC (.int 0))))
    (sAsg 2 (sCall (c 474) [true] (aCons (sVar 1) aNil))))
noncomputable def bd_shortened (c : Nat → Fn) : S := (sSeq (sDrop (sCall (c 444) [true] (aCons (sVar 0) aNil)))
    (sSeq (sAsg 1 (sVar 0))
    (sSeq (sAsg 2 (sCall (c 474) [true] (aCons (sVar 1) aNil)))
    (sSeq (sWh (bd_shortened_t1 c) (bd_shortened_b1 c))
    (sRet (sVar 1))))))
noncomputable abbrev fn_shortened (c : Nat → Fn) : Fn := run 1 3 (bd_shortened c)
noncomputable def bd_fresh_in_t1 (c : Nat → Fn) : T := (tB (sOp2 inD (sTup (aCons (sC (.str "name")) (aCons (sVar 2) aNil))) (sVar 1)))
noncomputable def bd_fresh_in_b1 (c : Nat → Fn) : S := (sSeq (sAug 3 (augI (· + ·)) (sC (.int 1)))
    (sAsg 2 (sOp2 addD (sOp2 atD (sVar 0) (sC (.int 0))) (sCB strD (aCons (sVar 3) aNil)))))
noncomputable def bd_fresh_in (c : Nat → Fn) : S := (sSeq (sAsg 2 (sOp2 atD (sVar 0) (sC (.int 0))))
    (sSeq (sAsg 3 (sC (.int 0)))
    (sSeq (sWh (bd_fresh_in_t1 c) (bd_fresh_in_b1 c))
    (sRet (sVar 2)))))
noncomputable abbrev fn_fresh_in (c : Nat → Fn) : Fn := run 2 4 (bd_fresh_in c)
noncomputable def bd_need_name (c : Nat → Fn) : S := (sIfS (tNot (tTru (sCall (c 3) [true] (aCons (sVar 0) aNil)))) (sRaise "InvalidName" (aCons (sCall (c 2) [true] (aCons (sVar 0) aNil)) aNil)) sSkip)
noncomputable abbrev fn_need_name (c : Nat → Fn) : Fn := run 1 1 (bd_need_name c)
noncomputable def bd_called_g1 : G := (gN 3)
noncomputable def bd_called_b1 (c : Nat → Fn) : S := (sAsg 2 (sTup (aCons (sC (.str "call")) (aCons (sVar 2) (aCons (sVar 3) aNil)))))
noncomputable def bd_called (c : Nat → Fn) : S := (sSeq (sDrop (sCall (c 16) [true] (aCons (sVar 0) aNil)))
    (sSeq (sIfS (tOr (tNot (tTru (sCB isiD (aCons (sVar 1) (aCons (sC (.ty "tuple")) aNil))))) (tNot (tTru (sCB allD (aCons (sLc (wSeq (sVar 1)) (gN 3) tYesT (sCall (c 5) [true] (aCons (sVar 3) aNil)) [3]) aNil))))) (sRaise "InvalidWides" (aCons (sCall (c 2) [true] (aCons (sVar 1) aNil)) aNil)) sSkip)
    (sSeq (sAsg 2 (sVar 0))
    (sSeq (sFor (wSeq (sVar 1)) bd_called_g1 (bd_called_b1 c))
    (sRet (sVar 2))))))
noncomputable abbrev fn_called (c : Nat → Fn) : Fn := run 2 4 (bd_called c)
noncomputable def bd_fresh (c : Nat → Fn) : S := (sSeq (sDrop (sCall (c 33) [true] (aCons (sVar 0) aNil)))
    (sSeq (sIfS (tOr (tNot (tTru (sCB isiD (aCons (sVar 1) (aCons (sC (.ty "tuple")) aNil))))) (tNot (tTru (sCB allD (aCons (sLc (wSeq (sVar 1)) (gN 2) tYesT (sCall (c 3) [true] (aCons (sVar 2) aNil)) [2]) aNil))))) (sRaise "InvalidNames" (aCons (sCall (c 2) [true] (aCons (sVar 1) aNil)) aNil)) sSkip)
    (sRet (sCall (c 32) [true, true] (aCons (sVar 0) (aCons (sDc (wSeq (sVar 1)) (gN 2) tYesT (aCons (sC (.str "name")) (aCons (sVar 2) aNil)) (sC (.bl true)) [2]) aNil))))))
noncomputable abbrev fn_fresh (c : Nat → Fn) : Fn := run 2 3 (bd_fresh c)
end Pg
namespace Dv
open PySem L2
theorem wh_go {t : T} {b : S} {s s1 s2 : Sto} (ht : t s = .ok true s1) (hb : b s1 = .nxt s2) : sWh t b s = sWh t b s2 := by
  rw [sWh_eq]; unfold whStep; rw [ht, kR_ok, if_pos rfl, hb]
theorem wh_stop {t : T} {b : S} {s s1 : Sto} (ht : t s = .ok false s1) : sWh t b s = .nxt s1 := by
  rw [sWh_eq]; unfold whStep; rw [ht, kR_ok, if_neg Bool.false_ne_true]
theorem wh_ret {t : T} {b : S} {s s1 s2 : Sto} {o : Opd} (ht : t s = .ok true s1) (hb : b s1 = .ret o s2) : sWh t b s = .ret o s2 := by
  rw [sWh_eq]; unfold whStep; rw [ht, kR_ok, if_pos rfl, hb]
theorem seq_nxt {f g : S} {s s1 : Sto} (h : f s = .nxt s1) : sSeq f g s = g s1 := by unfold sSeq; rw [h]; rfl
theorem seq_ret {f g : S} {s s1 : Sto} {o : Opd} (h : f s = .ret o s1) : sSeq f g s = .ret o s1 := by unfold sSeq; rw [h]; rfl
end Dv
namespace Pg
open PySem L2 Dv
inductive Tm where
  | nm (x : Str)
  | fn (x : Str) (b : Tm)
  | ca (f a : Tm)
def Tm.D : Tm → Dv.D
  | .nm x => .tup [.str "name", .str x]
  | .fn x b => .tup [.str "fn", .str x, b.D]
  | .ca f a => .tup [.str "call", f.D, a.D]
def Tm.size : Tm → Nat
  | .nm _ => 1
  | .fn _ b => b.size + 1
  | .ca f a => f.size + a.size + 1
def Tm.levels : Tm → Nat
  | .nm _ => 1
  | .fn _ b => b.levels + 1
  | .ca f a => max f.levels a.levels + 1
def Tm.names : Tm → List Str
  | .nm x => [x]
  | .fn x b => x :: b.names
  | .ca f a => f.names ++ a.names
theorem Tm.size_pos : ∀ t : Tm, 1 ≤ t.size
  | .nm _ => Nat.le_refl _
  | .fn _ b => by unfold Tm.size; omega
  | .ca f a => by unfold Tm.size; omega
theorem Tm.levels_le : ∀ t : Tm, t.levels ≤ t.size
  | .nm _ => Nat.le_refl _
  | .fn _ b => by have := levels_le b; unfold Tm.size Tm.levels; omega
  | .ca f a => by have := levels_le f; have := levels_le a; unfold Tm.size Tm.levels; omega
abbrev Pu (F : Fn) (args : List Slot) (v : Dv.D) : Prop := F args = .ret (.val v) args
abbrev PuO (F : Fn) (args : List Slot) (v : Dv.D) : Prop := F args = .ret (.own v) args
def NameOk (F : Fn) (x : Str) : Prop := Pu F [.val (.str x)] (.bl true)
def Good (F : Fn) (t : Tm) : Prop := ∀ x ∈ t.names, NameOk F x
theorem Good.fn {F : Fn} {x : Str} {b : Tm} (h : Good F (.fn x b)) : NameOk F x ∧ Good F b := ⟨h x List.mem_cons_self, fun y hy => h y (List.mem_cons_of_mem _ hy)⟩
theorem Good.ca {F : Fn} {f a : Tm} (h : Good F (.ca f a)) : Good F f ∧ Good F a := ⟨fun y hy => h y (List.mem_append_left _ hy), fun y hy => h y (List.mem_append_right _ hy)⟩
theorem is_node_ok (c : Nat → Fn) (t : Tm) (h : Good (c f_is_plain_name) t) : Pu (fn_is_node c) [.val t.D] (.bl true) := by
  cases t with
  | nm x =>
    have h1 : c f_is_plain_name [.val (.str x)] = .ret (.val (.bl true)) [.val (.str x)] := h x List.mem_cons_self
    unfold Pu fn_is_node bd_is_node Tm.D
    exact run_val rfl (by simp_arith [h1]; rfl) rfl
  | fn x b =>
    have h1 : c f_is_plain_name [.val (.str x)] = .ret (.val (.bl true)) [.val (.str x)] := h x List.mem_cons_self
    unfold Pu fn_is_node bd_is_node Tm.D
    exact run_val rfl (by simp_arith [h1]; rfl) rfl
  | ca f a =>
    unfold Pu fn_is_node bd_is_node Tm.D
    exact run_val rfl (by simp_arith []; rfl) rfl
def sizes : List Tm → Nat
  | [] => 0
  | t :: r => t.size + sizes r
theorem sizes_len : ∀ l : List Tm, l.length ≤ sizes l
  | [] => Nat.le_refl _
  | t :: r => by have := sizes_len r; have := t.size_pos; unfold sizes; rw [List.length_cons]; omega
def GoodAll (F : Fn) (l : List Tm) : Prop := ∀ t ∈ l, Good F t
def pileD (l : List Tm) : List Dv.D := (l.map Tm.D).reverse
theorem pileD_cons (t : Tm) (l : List Tm) : pileD (t :: l) = pileD l ++ [t.D] := by unfold pileD; rw [List.map_cons, List.reverse_cons]
theorem pileD_len (l : List Tm) : (pileD l).length = l.length := by unfold pileD; rw [List.length_reverse, List.length_map]
theorem is_tree_loop (c : Nat → Fn) (v : Slot) (hn : ∀ t : Tm, Good (c f_is_plain_name) t → Pu (c f_is_node) [.val t.D] (.bl true)) : ∀ (n : Nat) (st : List Tm) (u : Slot), sizes st ≤ n → sizes st < LIM → GoodAll (c f_is_plain_name) st →
    ∃ u', sWh (bd_is_tree_t1 c) (bd_is_tree_b1 c) [v, .own (.lst (pileD st)), u] = .nxt [v, .own (.lst []), u']
  | n, [], u, _, _, _ => ⟨u, wh_stop (by unfold bd_is_tree_t1; simp_arith []; rfl)⟩
  | 0, t :: r, u, h, _, _ => by have := t.size_pos; unfold sizes at h; omega
  | n + 1, t :: r, u, h, hl, g => by
    have gt : Good (c f_is_plain_name) t := g t List.mem_cons_self
    have gr : GoodAll (c f_is_plain_name) r := fun x hx => g x (List.mem_cons_of_mem _ hx)
    have h1 : c f_is_node [.val t.D] = .ret (.val (.bl true)) [.val t.D] := hn t gt
    have hlen := sizes_len r
    unfold sizes at h hl
    have hp := t.size_pos
    have tst : bd_is_tree_t1 c [v, .own (.lst (pileD (t :: r))), u] = .ok true [v, .own (.lst (pileD (t :: r))), u] := by
      unfold bd_is_tree_t1
      rw [pileD_cons]
      simp_arith [decide_eq_true (snoc_len (pileD r) t.D)]
    cases t with
    | nm x =>
      obtain ⟨u', e⟩ := is_tree_loop c v hn n r (.val (Tm.nm x).D) (by unfold Tm.size at h; omega) (by omega) gr
      refine ⟨u', (wh_go tst ?_).trans e⟩
      unfold bd_is_tree_b1
      rw [pileD_cons]
      unfold Tm.D at h1 ⊢
      simp_arith [h1]
    | fn x b =>
      obtain ⟨u', e⟩ := is_tree_loop c v hn n (b :: r) (.val (Tm.fn x b).D) (by unfold sizes; unfold Tm.size at h; omega) (by unfold sizes; unfold Tm.size at hl; omega) (fun y hy => by
        rcases List.mem_cons.mp hy with rfl | hy
        · exact (Good.fn gt).2
        · exact gr y hy)
      refine ⟨u', (wh_go tst ?_).trans e⟩
      unfold bd_is_tree_b1
      rw [pileD_cons, pileD_cons]
      unfold Tm.size at hl
      have a1 : fAppend (.lst (pileD r)) [b.D] = some (.lst (pileD r ++ [b.D]), .non) := append_ok (by rw [pileD_len]; omega)
      rw [show (Tm.fn x b).D = .tup [.str "fn", .str x, b.D] from rfl] at h1 ⊢
      simp_arith [h1, a1]
    | ca f a =>
      obtain ⟨u', e⟩ := is_tree_loop c v hn n (f :: a :: r) (.val (Tm.ca f a).D) (by unfold sizes sizes; unfold Tm.size at h; omega) (by unfold sizes sizes; unfold Tm.size at hl; omega) (fun y hy => by
        rcases List.mem_cons.mp hy with rfl | hy
        · exact (Good.ca gt).1
        · rcases List.mem_cons.mp hy with rfl | hy
          · exact (Good.ca gt).2
          · exact gr y hy)
      refine ⟨u', (wh_go tst ?_).trans e⟩
      unfold bd_is_tree_b1
      rw [pileD_cons, pileD_cons, pileD_cons]
      unfold Tm.size at hl
      have := f.size_pos
      have a1 : fAppend (.lst (pileD r)) [a.D] = some (.lst (pileD r ++ [a.D]), .non) := append_ok (by rw [pileD_len]; omega)
      have a2 : fAppend (.lst (pileD r ++ [a.D])) [f.D] = some (.lst (pileD r ++ [a.D] ++ [f.D]), .non) := append_ok (by rw [List.length_append, pileD_len, List.length_singleton]; omega)
      rw [show (Tm.ca f a).D = .tup [.str "call", f.D, a.D] from rfl] at h1 ⊢
      simp_arith [h1, a1, a2]
theorem is_tree_ok (c : Nat → Fn) (hn : ∀ t : Tm, Good (c f_is_plain_name) t → Pu (c f_is_node) [.val t.D] (.bl true)) (t : Tm) (g : Good (c f_is_plain_name) t) (hl : t.size < LIM) : Pu (fn_is_tree c) [.val t.D] (.bl true) := by
  obtain ⟨u', e⟩ := is_tree_loop c (.val t.D) hn (sizes [t]) [t] .un (Nat.le_refl _) (by unfold sizes sizes; omega) (fun y hy => by rw [List.mem_singleton.mp hy]; exact g)
  unfold Pu fn_is_tree
  refine run_val rfl (s := [.val t.D, .own (.lst []), u']) ?_ rfl
  unfold bd_is_tree
  have e : sWh (bd_is_tree_t1 c) (bd_is_tree_b1 c) [.val t.D, .own (.lst [t.D]), .un] = .nxt [.val t.D, .own (.lst []), u'] := e
  have l1 : (1 : Nat) ≤ LIM := LIM_le (by decide)
  simp_arith [e, l1]
end Pg
namespace Dv
open PySem L2
theorem for_list {g : G} {b : S} (I : Nat → Sto → Prop) : ∀ {ds : List D} {s : Sto} (k : Nat), (∀ i (h : i < ds.length) s, I (k + i) s → ∃ s1 s2, g ds[i] s = some s1 ∧ b s1 = .nxt s2 ∧ I (k + i + 1) s2) → I k s → ∃ s', forL g b ds s = .nxt s' ∧ I (k + ds.length) s'
  | [], s, k, _, h => ⟨s, rfl, h⟩
  | d :: ds, s, k, hs, h => by
    obtain ⟨s1, s2, e1, e2, h2⟩ := hs 0 (by simp) s h
    simp only [List.getElem_cons_zero] at e1
    obtain ⟨s', e3, h3⟩ := for_list I (k + 1) (ds := ds) (s := s2) (fun i hi s hI => by
      obtain ⟨s1, s2, q1, q2, q3⟩ := hs (i + 1) (by simpa using hi) s (by rw [show k + (i + 1) = k + 1 + i by omega]; exact hI)
      simp only [List.getElem_cons_succ] at q1
      exact ⟨s1, s2, q1, q2, by rw [show k + 1 + i + 1 = k + (i + 1) + 1 by omega]; exact q3⟩) h2
    refine ⟨s', ?_, by rw [List.length_cons, show k + (ds.length + 1) = k + 1 + ds.length by omega]; exact h3⟩
    unfold forL
    rw [e1]
    simp only
    rw [e2]
    exact e3
theorem for_down {g : G} {b : S} {n : Nat} {s : Sto} (I : Nat → Sto → Prop) (hs : ∀ i, i < n → ∀ s, I (i + 1) s → ∃ s1 s2, g (.int (i : Nat)) s = some s1 ∧ b s1 = .nxt s2 ∧ I i s2) (h : I n s) :
    ∃ s', forL g b ((List.range n).map fun k => .int (((n : Nat) : Int) - 1 + (k : Nat) * (-1))) s = .nxt s' ∧ I 0 s' := by
  obtain ⟨s', e, h'⟩ := for_list (g := g) (b := b) (fun k s => I (n - k) s) (ds := (List.range n).map fun k => .int (((n : Nat) : Int) - 1 + (k : Nat) * (-1))) (s := s) 0 (fun i hi s hI => by
    rw [List.length_map, List.length_range] at hi
    obtain ⟨s1, s2, e1, e2, e3⟩ := hs (n - 1 - i) (by omega) s (by rw [show n - 1 - i + 1 = n - (0 + i) by omega]; exact hI)
    refine ⟨s1, s2, ?_, e2, by rw [show n - (0 + i + 1) = n - 1 - i by omega]; exact e3⟩
    rw [List.getElem_map, List.getElem_range, show ((n : Nat) : Int) - 1 + (i : Nat) * (-1) = ((n - 1 - i : Nat) : Int) by omega]
    exact e1) h
  refine ⟨s', e, ?_⟩
  rw [List.length_map, List.length_range, Nat.zero_add, Nat.sub_self] at h'
  exact h'
theorem at_lst {l : List D} {i : Nat} {d : D} (h : l[i]? = some d) : atD (.lst l) (.int (i : Nat)) = some (.val d) := by
  show (atI l _).map Opd.val = _
  rw [atI_nat h]; rfl
theorem ixN_nat {n i : Nat} (h : i < n) : ixN n (i : Int) = some i := by
  have := atI_nat (xs := List.range n) (j := i) (v := i) (by rw [List.getElem?_range h])
  unfold atI at this
  rw [List.length_range] at this
  cases e : ixN n (i : Int) with
  | none => rw [e] at this; cases this
  | some j =>
    rw [e, Option.bind_some] at this
    have hj : j < n := by
      rcases Nat.lt_or_ge j n with q | q
      · exact q
      · rw [List.getElem?_eq_none (by simpa using q)] at this; cases this
    rw [List.getElem?_range hj] at this
    exact this
theorem setO_own {i m : Nat} {s : Sto} {l : List D} {d : D} (h : s[i]? = some (.own (.lst l))) (hm : m < l.length) : setO i (some (.int (m : Nat))) d s = .nxt (s.set i (.own (.lst (l.set m d)))) := by
  unfold setO
  rw [h]
  simp only [Slot.mut, Slot.dat, Slot.put, if_true, ixN_nat hm]
end Dv
namespace Pg
open PySem L2 Dv
def Tm.tok : Tm → Dv.D
  | .nm x => .tup [.str "name", .str x]
  | .fn x _ => .tup [.str "fn", .str x]
  | .ca _ _ => .tup [.str "call", .non]
def Tm.subs : Tm → List Tm
  | .nm x => [.nm x]
  | .fn x b => .fn x b :: b.subs
  | .ca f a => .ca f a :: (f.subs ++ a.subs)
def Tm.toks (t : Tm) : List Dv.D := t.subs.map Tm.tok
theorem subs_len : ∀ t : Tm, t.subs.length = t.size
  | .nm _ => rfl
  | .fn _ b => by unfold Tm.subs Tm.size; rw [List.length_cons, subs_len b]
  | .ca f a => by unfold Tm.subs Tm.size; rw [List.length_cons, List.length_append, subs_len f, subs_len a]
theorem toks_len (t : Tm) : t.toks.length = t.size := by unfold Tm.toks; rw [List.length_map, subs_len]
theorem subs_head : ∀ t : Tm, t.subs = t :: t.subs.tail
  | .nm _ => rfl
  | .fn _ _ => rfl
  | .ca _ _ => rfl
theorem subs_drop : ∀ (t : Tm) (i : Nat) (s : Tm), t.subs[i]? = some s → ∃ rest, t.subs.drop i = s.subs ++ rest
  | .nm x, 0, s, h => by cases h; exact ⟨[], by simp⟩
  | .nm x, i + 1, s, h => by unfold Tm.subs at h; simp at h
  | .fn x b, 0, s, h => by cases h; exact ⟨[], by simp⟩
  | .fn x b, i + 1, s, h => by
    rw [show (Tm.fn x b).subs = .fn x b :: b.subs from rfl] at h ⊢
    rw [List.getElem?_cons_succ] at h
    rw [List.drop_succ_cons]
    exact subs_drop b i s h
  | .ca f a, 0, s, h => by cases h; exact ⟨[], by simp⟩
  | .ca f a, i + 1, s, h => by
    rw [show (Tm.ca f a).subs = .ca f a :: (f.subs ++ a.subs) from rfl] at h ⊢
    rw [List.getElem?_cons_succ] at h
    rw [List.drop_succ_cons]
    by_cases hi : i < f.subs.length
    · rw [List.getElem?_append_left hi] at h
      obtain ⟨rest, e⟩ := subs_drop f i s h
      exact ⟨rest ++ a.subs, by rw [List.drop_append_of_le_length (by omega), e, List.append_assoc]⟩
    · rw [List.getElem?_append_right (by omega)] at h
      obtain ⟨rest, e⟩ := subs_drop a _ s h
      refine ⟨rest, ?_⟩
      rw [List.drop_append, List.drop_eq_nil_of_le (by omega), List.nil_append, e]
theorem subs_fn {t : Tm} {i : Nat} {x : Str} {b : Tm} (h : t.subs[i]? = some (.fn x b)) : t.subs[i + 1]? = some b := by
  obtain ⟨rest, e⟩ := subs_drop t i _ h
  have : (t.subs.drop i)[1]? = t.subs[i + 1]? := by rw [List.getElem?_drop]
  rw [← this, e]
  unfold Tm.subs
  rw [List.cons_append, List.getElem?_cons_succ, subs_head b]
  rfl
theorem subs_ca1 {t : Tm} {i : Nat} {f a : Tm} (h : t.subs[i]? = some (.ca f a)) : t.subs[i + 1]? = some f := by
  obtain ⟨rest, e⟩ := subs_drop t i _ h
  have : (t.subs.drop i)[1]? = t.subs[i + 1]? := by rw [List.getElem?_drop]
  rw [← this, e]
  unfold Tm.subs
  rw [List.cons_append, List.getElem?_cons_succ, subs_head f]
  rfl
theorem subs_ca2 {t : Tm} {i : Nat} {f a : Tm} (h : t.subs[i]? = some (.ca f a)) : t.subs[i + 1 + f.size]? = some a := by
  obtain ⟨rest, e⟩ := subs_drop t i _ h
  have : (t.subs.drop i)[1 + f.size]? = t.subs[i + 1 + f.size]? := by rw [List.getElem?_drop, Nat.add_assoc]
  rw [← this, e]
  unfold Tm.subs
  rw [List.cons_append, Nat.add_comm 1, List.getElem?_cons_succ, List.append_assoc, List.getElem?_append_right (by rw [subs_len]; exact Nat.le_refl _), subs_len, Nat.sub_self, subs_head a]
  rfl
def toksAll : List Tm → List Dv.D
  | [] => []
  | t :: r => t.toks ++ toksAll r
theorem flat_loop (c : Nat → Fn) (v : Slot) : ∀ (n : Nat) (st : List Tm) (out : List Dv.D) (u : Slot), sizes st ≤ n → out.length + sizes st < LIM →
    ∃ u', sWh (bd_flat_t1 c) (bd_flat_b1 c) [v, .own (.lst out), .own (.lst (pileD st)), u] = .nxt [v, .own (.lst (out ++ toksAll st)), .own (.lst []), u']
  | n, [], out, u, _, _ => ⟨u, by unfold toksAll; rw [List.append_nil]; exact wh_stop (by unfold bd_flat_t1; simp_arith []; rfl)⟩
  | 0, t :: r, out, u, h, _ => by have := t.size_pos; unfold sizes at h; omega
  | n + 1, t :: r, out, u, h, hl => by
    have hlen := sizes_len r
    unfold sizes at h hl
    have hp := t.size_pos
    have tst : bd_flat_t1 c [v, .own (.lst out), .own (.lst (pileD (t :: r))), u] = .ok true [v, .own (.lst out), .own (.lst (pileD (t :: r))), u] := by
      unfold bd_flat_t1
      rw [pileD_cons]
      simp_arith [decide_eq_true (snoc_len (pileD r) t.D)]
    have tl : (2 : Nat) ≤ LIM := LIM_le (by decide)
    cases t with
    | nm x =>
      obtain ⟨u', e⟩ := flat_loop c v n r (out ++ [.tup [.str "name", .str x]]) (.val (Tm.nm x).D) (by unfold Tm.size at h; omega) (by rw [List.length_append, List.length_singleton]; unfold Tm.size at hl; omega)
      refine ⟨u', ?_⟩
      rw [show toksAll (Tm.nm x :: r) = [.tup [.str "name", .str x]] ++ toksAll r from rfl, ← List.append_assoc]
      refine (wh_go tst ?_).trans e
      have a1 : fAppend (.lst out) [.tup [.str "name", .str x]] = some (.lst (out ++ [.tup [.str "name", .str x]]), .non) := append_ok (by omega)
      unfold bd_flat_b1
      rw [pileD_cons]
      unfold Tm.D
      simp_arith [a1, tl]
    | fn x b =>
      obtain ⟨u', e⟩ := flat_loop c v n (b :: r) (out ++ [.tup [.str "fn", .str x]]) (.val (Tm.fn x b).D) (by unfold sizes; unfold Tm.size at h; omega) (by rw [List.length_append, List.length_singleton]; unfold sizes; unfold Tm.size at hl; omega)
      refine ⟨u', ?_⟩
      rw [show toksAll (Tm.fn x b :: r) = [.tup [.str "fn", .str x]] ++ toksAll (b :: r) from rfl, ← List.append_assoc]
      refine (wh_go tst ?_).trans e
      unfold Tm.size at hl
      have a1 : fAppend (.lst out) [.tup [.str "fn", .str x]] = some (.lst (out ++ [.tup [.str "fn", .str x]]), .non) := append_ok (by omega)
      have a2 : fAppend (.lst (pileD r)) [b.D] = some (.lst (pileD r ++ [b.D]), .non) := append_ok (by rw [pileD_len]; omega)
      unfold bd_flat_b1
      rw [pileD_cons, pileD_cons]
      rw [show (Tm.fn x b).D = .tup [.str "fn", .str x, b.D] from rfl]
      simp_arith [a1, a2, tl]
    | ca f a =>
      have hf := f.size_pos
      obtain ⟨u', e⟩ := flat_loop c v n (f :: a :: r) (out ++ [.tup [.str "call", .non]]) (.val (Tm.ca f a).D) (by unfold sizes sizes; unfold Tm.size at h; omega) (by rw [List.length_append, List.length_singleton]; unfold sizes sizes; unfold Tm.size at hl; omega)
      refine ⟨u', ?_⟩
      have et : toksAll (Tm.ca f a :: r) = [.tup [.str "call", .non]] ++ toksAll (f :: a :: r) := by
        show (Tm.ca f a).toks ++ toksAll r = _ ++ (f.toks ++ (a.toks ++ toksAll r))
        unfold Tm.toks
        rw [show (Tm.ca f a).subs = .ca f a :: (f.subs ++ a.subs) from rfl, List.map_cons, List.map_append]
        simp [Tm.tok]
      rw [et, ← List.append_assoc]
      refine (wh_go tst ?_).trans e
      unfold Tm.size at hl
      have a1 : fAppend (.lst out) [.tup [.str "call", .non]] = some (.lst (out ++ [.tup [.str "call", .non]]), .non) := append_ok (by omega)
      have a2 : fAppend (.lst (pileD r)) [a.D] = some (.lst (pileD r ++ [a.D]), .non) := append_ok (by rw [pileD_len]; omega)
      have a3 : fAppend (.lst (pileD r ++ [a.D])) [f.D] = some (.lst (pileD r ++ [a.D] ++ [f.D]), .non) := append_ok (by rw [List.length_append, pileD_len, List.length_singleton]; omega)
      unfold bd_flat_b1
      rw [pileD_cons, pileD_cons, pileD_cons]
      rw [show (Tm.ca f a).D = .tup [.str "call", f.D, a.D] from rfl]
      simp_arith [a1, a2, a3, tl]
theorem flat_ok (c : Nat → Fn) (t : Tm) (hl : t.size < LIM) : PuO (fn_flat c) [.val t.D] (.lst t.toks) := by
  obtain ⟨u', e⟩ := flat_loop c (.val t.D) (sizes [t]) [t] [] .un (Nat.le_refl _) (by unfold sizes sizes; rw [List.length_nil]; omega)
  have e : sWh (bd_flat_t1 c) (bd_flat_b1 c) [.val t.D, .own (.lst []), .own (.lst [t.D]), .un] = .nxt [.val t.D, .own (.lst t.toks), .own (.lst []), u'] := by
    refine e.trans ?_
    rw [show toksAll [t] = t.toks ++ [] from rfl, List.append_nil, List.nil_append]
  unfold PuO fn_flat
  refine run_slot rfl (i := 1) (s := [.val t.D, .own (.lst t.toks), .own (.lst []), u']) ?_ rfl rfl
  unfold bd_flat
  have l1 : (1 : Nat) ≤ LIM := LIM_le (by decide)
  have l0 : (0 : Nat) ≤ LIM := LIM_le (by decide)
  simp_arith [e, l1, l0]
end Pg
namespace Dv
open PySem L2
def part (z : D) (i : Nat) (vals : List D) : List D := List.replicate i z ++ vals.drop i
theorem part_len {z : D} {i : Nat} {vals : List D} (h : i ≤ vals.length) : (part z i vals).length = vals.length := by
  unfold part; rw [List.length_append, List.length_replicate, List.length_drop]; omega
theorem part_get {z : D} {i j : Nat} {vals : List D} (h : i ≤ j) : (part z i vals)[j]? = vals[j]? := by
  unfold part
  rw [List.getElem?_append_right (by rw [List.length_replicate]; exact h), List.length_replicate, List.getElem?_drop, show i + (j - i) = j by omega]
theorem part_set {z d : D} {i : Nat} {vals : List D} (h : vals[i]? = some d) : (part z (i + 1) vals).set i d = part z i vals := by
  unfold part
  obtain ⟨hi, e⟩ := List.getElem?_eq_some_iff.mp h
  rw [List.replicate_succ', List.append_assoc, List.set_append_right _ _ (by rw [List.length_replicate]; exact Nat.le_refl _), List.length_replicate, Nat.sub_self, List.singleton_append, List.set_cons_zero, List.drop_eq_getElem_cons hi, e]
theorem part_zero {z : D} {vals : List D} : part z 0 vals = vals := rfl
theorem part_full {z : D} {vals : List D} : part z vals.length vals = List.replicate vals.length z := by
  unfold part; rw [List.drop_length, List.append_nil]
theorem rep_flat {z : D} : ∀ n : Nat, (List.replicate n [z]).flatten = List.replicate n z
  | 0 => rfl
  | n + 1 => by rw [List.replicate_succ, List.replicate_succ, List.flatten_cons, rep_flat n]; rfl
theorem lim63 : (LIM : Int) < B63 := by rw [LIM_eq, B63_eq]; decide
theorem lim62 : (LIM : Int) < B62 := by rw [LIM_eq, B62_eq]; decide
theorem mul_rep {z : D} {n : Nat} (h : n ≤ LIM) : mulD (.lst [z]) (.int (n : Nat)) = some (.own (.lst (List.replicate n z))) := by
  have hl := lim63
  have c1 : -B63 ≤ ((n : Nat) : Int) := by omega
  have c2 : ((n : Nat) : Int) < B63 := by omega
  have c3 : [z].length * ((n : Nat) : Int).toNat ≤ LIM := by
    rw [Int.toNat_natCast, List.length_singleton, Nat.one_mul]; exact h
  unfold mulD
  simp only
  rw [if_pos ⟨c1, c2, c3⟩, Int.toNat_natCast, rep_flat]
theorem rng_down {n : Nat} (h : n ≤ LIM) : rng3 [.int (((n : Nat) : Int) - 1), .int (-1), .int (-1)] = some ((List.range n).map fun k => .int (((n : Nat) : Int) - 1 + (k : Nat) * (-1))) := by
  have hl := lim62
  show (if (-1 : Int) = -1 ∧ inR (((n : Nat) : Int) - 1) ∧ inR (-1) then some ((List.range ((((n : Nat) : Int) - 1) - (-1)).toNat).map fun k => D.int ((((n : Nat) : Int) - 1) + (k : Nat) * (-1))) else none) = _
  have h1 : 1 ≤ LIM := LIM_le (by decide)
  rw [if_pos ⟨rfl, by unfold inR; omega, by unfold inR; omega⟩]
  rw [show ((((n : Nat) : Int) - 1) - (-1)).toNat = n by omega]
theorem for_of {f : Ws} {g : G} {b : S} {s s1 : Sto} {ds : List D} {o : Out} (hf : f s = .ok ds s1) (h : forL g b ds s1 = o) : sFor f g b s = o := by unfold sFor; rw [hf]; exact h
def Arg (s : Slot) (d : D) : Prop := s = .val d ∨ s = .par d
end Dv
namespace Pg
open PySem L2 Dv
def endsV (t : Tm) : List Dv.D := t.subs.zipIdx.map fun p => .int ((p.2 + p.1.size : Nat))
theorem endsV_len (t : Tm) : (endsV t).length = t.size := by unfold endsV; rw [List.length_map, List.length_zipIdx, subs_len]
theorem endsV_get {t s : Tm} {i : Nat} (h : t.subs[i]? = some s) : (endsV t)[i]? = some (.int ((i + s.size : Nat))) := by
  unfold endsV
  rw [List.getElem?_map, List.getElem?_zipIdx, h]
  simp
theorem toks_get {t s : Tm} {i : Nat} (h : t.subs[i]? = some s) : t.toks[i]? = some s.tok := by
  unfold Tm.toks; rw [List.getElem?_map, h]; rfl
theorem cast1 (i : Nat) : ((i : Nat) : Int) + 1 = ((i + 1 : Nat) : Int) := rfl
theorem ends_step (c : Nat → Fn) {t s : Tm} {i : Nat} {s0 u2 u3 : Slot} (h0 : Arg s0 (.lst t.toks)) (hs : t.subs[i]? = some s) :
    ∃ s2 u, bd_ends_of_b1 c [s0, .own (.lst (part (.int 0) (i + 1) (endsV t))), .val (.int (i : Nat)), u3] = .nxt [s0, .own (.lst (part (.int 0) i (endsV t))), s2, u] := by
  have hi : i < t.size := by rw [← subs_len]; exact (List.getElem?_eq_some_iff.mp hs).1
  have hk : atD (.lst t.toks) (.int (i : Nat)) = some (.val s.tok) := at_lst (toks_get hs)
  have hlen : (part (.int 0) (i + 1) (endsV t)).length = t.size := by rw [part_len (by rw [endsV_len]; omega), endsV_len]
  have put : ∀ (k : Slot) (d : Dv.D), (endsV t)[i]? = some d → setO 1 (some (.int (i : Nat))) d [s0, .own (.lst (part (.int 0) (i + 1) (endsV t))), .val (.int (i : Nat)), k] = .nxt [s0, .own (.lst (part (.int 0) i (endsV t))), .val (.int (i : Nat)), k] := fun k d hd => by
    rw [setO_own (l := part (.int 0) (i + 1) (endsV t)) rfl (by omega), part_set hd]; rfl
  have look : ∀ j d, i < j → (endsV t)[j]? = some d → atD (.lst (part (.int 0) (i + 1) (endsV t))) (.int (j : Nat)) = some (.val d) := fun j d hj hd => at_lst (by rw [part_get (by omega)]; exact hd)
  cases s with
  | nm x =>
    have e := endsV_get hs
    have p := put (.val (.str "name")) _ e
    rw [show (Tm.nm x).size = 1 from rfl] at p
    refine ⟨.val (.int (i : Nat)), .val (.str "name"), ?_⟩
    unfold bd_ends_of_b1
    unfold Tm.tok at hk
    rcases h0 with rfl | rfl
    all_goals simp_arith [hk, cast1, p]
  | fn x b =>
    have e := endsV_get hs
    have p := put (.val (.str "fn")) _ e
    have q := look (i + 1) _ (by omega) (endsV_get (subs_fn hs))
    rw [show i + (Tm.fn x b).size = i + 1 + b.size by rw [show (Tm.fn x b).size = b.size + 1 from rfl]; omega] at p
    refine ⟨.val (.int (i : Nat)), .val (.str "fn"), ?_⟩
    unfold bd_ends_of_b1
    unfold Tm.tok at hk
    rcases h0 with rfl | rfl
    all_goals simp_arith [hk, cast1, q, p]
  | ca f a =>
    have e := endsV_get hs
    have p := put (.val (.str "call")) _ e
    have q := look (i + 1) _ (by omega) (endsV_get (subs_ca1 hs))
    have q2 := look (i + 1 + f.size) _ (by omega) (endsV_get (subs_ca2 hs))
    rw [show i + (Tm.ca f a).size = i + 1 + f.size + a.size by rw [show (Tm.ca f a).size = f.size + a.size + 1 from rfl]; omega] at p
    refine ⟨.val (.int (i : Nat)), .val (.str "call"), ?_⟩
    unfold bd_ends_of_b1
    unfold Tm.tok at hk
    rcases h0 with rfl | rfl
    all_goals simp_arith [hk, cast1, q, q2, p]
theorem lim1 : 1 ≤ LIM := LIM_le (by decide)
theorem fill_step {M : Dv.D → Dv.D → Option Opd} {toks : List Dv.D} {n : Nat} {z r : Dv.D} {s0 u : Slot} {us : List Slot} (l1 : 1 ≤ LIM) (h0 : Arg s0 (.lst toks)) (hn : toks.length = n) (m : M (.lst [z]) (.int (n : Nat)) = some (.own r)) :
    sAsg 1 (sOp2 M (sLst (aCons (sC z) aNil)) (sCB lenD (aCons (sVar 0) aNil))) (s0 :: u :: us) = .nxt (s0 :: .own r :: us) := by
  have hl : 1 < us.length + 1 + 1 := by omega
  rcases h0 with rfl | rfl
  all_goals simp_arith [l1, hn, m, hl]
theorem down_step {R : List Dv.D → Option (List Dv.D)} {toks ds : List Dv.D} {n : Nat} {s0 : Slot} {us : List Slot} (h0 : Arg s0 (.lst toks)) (hn : toks.length = n) (r : R [.int (((n : Nat) : Int) - 1), .int (-1), .int (-1)] = some ds) :
    wArgs R (aCons (sOp2 subD (sCB lenD (aCons (sVar 0) aNil)) (sC (.int 1))) (aCons (sOp1 negD (sC (.int 1))) (aCons (sOp1 negD (sC (.int 1))) aNil))) (s0 :: us) = .ok ds (s0 :: us) := by
  rcases h0 with rfl | rfl
  all_goals simp_arith [hn, r]
theorem ends_of_ok (c : Nat → Fn) (t : Tm) (hl : t.size < LIM) (s0 : Slot) (h0 : Arg s0 (.lst t.toks)) : PuO (fn_ends_of c) [s0] (.lst (endsV t)) := by
  have hn := toks_len t
  obtain ⟨s', e, s2, u, rfl⟩ := for_down (g := bd_ends_of_g1) (b := bd_ends_of_b1 c) (n := t.size) (s := [s0, .own (.lst (List.replicate t.size (.int 0))), .un, .un]) (fun i s => ∃ u2 u3, s = [s0, .own (.lst (part (.int 0) i (endsV t))), u2, u3])
    (fun i hi s ⟨u2, u3, e⟩ => by
      subst e
      obtain ⟨sub, hs⟩ : ∃ sub, t.subs[i]? = some sub := ⟨_, List.getElem?_eq_getElem (by rw [subs_len]; exact hi)⟩
      obtain ⟨s2, u, q⟩ := ends_step c (u2 := u2) (u3 := u3) h0 hs
      exact ⟨_, _, rfl, q, s2, u, rfl⟩)
    ⟨.un, .un, by rw [← endsV_len, part_full]⟩
  unfold PuO fn_ends_of
  refine run_slot rfl (i := 1) (s := [s0, .own (.lst (endsV t)), s2, u]) ?_ rfl rfl
  unfold bd_ends_of
  exact (seq_nxt (fill_step lim1 h0 hn (mul_rep (by omega)))).trans ((seq_nxt (for_of (down_step h0 hn (rng_down (by omega))) e)).trans rfl)
end Pg
namespace Dv
open PySem L2
theorem part_keep {z : D} {i : Nat} {vals : List D} (h : vals[i]? = some z) : part z (i + 1) vals = part z i vals := by
  rw [← part_set (d := z) h]
  obtain ⟨hi, _⟩ := List.getElem?_eq_some_iff.mp h
  unfold part
  refine List.ext_getElem? fun j => ?_
  by_cases hj : i = j
  · subst hj
    rw [List.getElem?_set_self (by rw [List.length_append, List.length_replicate]; omega), List.getElem?_append_left (by rw [List.length_replicate]; omega), List.getElem?_replicate_of_lt (by omega)]
  · rw [List.getElem?_set_ne hj]
theorem lc_run {g : G} {t : T} {e : E} {vs : List Nat} {P : D → Bool} {F : D → D} {w : Sto} : ∀ (ds acc : List D) (s : Sto), wipeS s vs = w → acc.length + ds.length ≤ LIM →
    (∀ d ∈ ds, ∃ u s2, g d w = some u ∧ t u = .ok (P d) s2 ∧ (P d = false → wipeS s2 vs = w) ∧ (P d = true → ∃ o s3 s4, e s2 = .ok o s3 ∧ takeO o s3 = .ok (F d) s4 ∧ wipeS s4 vs = w)) →
    ∃ s', lcL g t e vs ds acc s = .ok (acc ++ (ds.filter P).map F) s' ∧ wipeS s' vs = w
  | [], acc, s, hs, _, _ => ⟨s, by unfold lcL; simp, hs⟩
  | d :: ds, acc, s, hs, hl, h => by
    obtain ⟨u, s2, e1, e2, h1, h2⟩ := h d List.mem_cons_self
    have hr : ∀ d ∈ ds, _ := fun d hd => h d (List.mem_cons_of_mem _ hd)
    rw [List.length_cons] at hl
    unfold lcL
    rw [hs, e1]
    simp only
    rw [e2, noX_ok, R.bind_ok]
    cases hp : P d with
    | false =>
      rw [hp] at h1
      obtain ⟨s', q1, q2⟩ := lc_run ds acc s2 (h1 rfl) (by omega) hr
      refine ⟨s', ?_, q2⟩
      rw [if_neg Bool.false_ne_true, q1, List.filter_cons_of_neg (by rw [hp]; exact Bool.false_ne_true)]
    | true =>
      obtain ⟨o, s3, s4, e3, e4, e5⟩ := h2 hp
      obtain ⟨s', q1, q2⟩ := lc_run ds (acc ++ [F d]) s4 e5 (by rw [List.length_append, List.length_singleton]; omega) hr
      refine ⟨s', ?_, q2⟩
      rw [if_pos rfl, e3, noX_ok, R.bind_ok, e4, R.bind_ok, if_pos (by omega), q1, List.filter_cons_of_pos hp, List.map_cons, List.append_assoc, List.singleton_append]
theorem restS_wipe {s0 : Sto} {vs : List Nat} {s : Sto} : restS s0 s vs = restS s0 (wipeS s vs) vs := by
  refine List.ext_getElem? fun j => ?_
  have gen : ∀ (us : List Nat) {a b : Sto}, a.length = b.length → (j ∈ us ∨ a[j]? = b[j]?) → (restS s0 a us)[j]? = (restS s0 b us)[j]? := by
    intro us
    induction us with
    | nil =>
      intro a b _ h
      rcases h with h | h
      · cases h
      · exact h
    | cons u us ih =>
      intro a b hab h
      have hl : (restS s0 a us).length = (restS s0 b us).length := by rw [restS_len, restS_len, hab]
      have gen : ∀ t : Slot, ((restS s0 a us).set u t)[j]? = ((restS s0 b us).set u t)[j]? := fun t => by
        by_cases hu : u = j
        · subst hu
          by_cases hk : u < (restS s0 a us).length
          · rw [List.getElem?_set_self hk, List.getElem?_set_self (by rw [← hl]; exact hk)]
          · rw [List.getElem?_eq_none (by simpa using hk), List.getElem?_eq_none (by rw [List.length_set, ← hl]; omega)]
        · rw [List.getElem?_set_ne hu, List.getElem?_set_ne hu]
          refine ih hab ?_
          rcases h with h | h
          · rcases List.mem_cons.mp h with z | z
            · exact absurd z.symm hu
            · exact .inl z
          · exact .inr h
      unfold restS
      split <;> exact gen _
  refine gen vs wipeS_len.symm ?_
  by_cases hj : j ∈ vs
  · exact .inl hj
  · exact .inr (wipeS_get hj).symm
theorem lc_of {f : Ws} {g : G} {t : T} {e : E} {vs : List Nat} {P : D → Bool} {F : D → D} {s s1 w fin : Sto} {ds : List D} (hf : f s = .ok ds s1) (hw : wipeS s1 vs = w) (hl : ds.length ≤ LIM)
    (h : ∀ d ∈ ds, ∃ u s2, g d w = some u ∧ t u = .ok (P d) s2 ∧ (P d = false → wipeS s2 vs = w) ∧ (P d = true → ∃ o s3 s4, e s2 = .ok o s3 ∧ takeO o s3 = .ok (F d) s4 ∧ wipeS s4 vs = w)) (hfin : restS s1 w vs = fin) :
    sLc f g t e vs s = .ok (.own (.lst ((ds.filter P).map F))) fin := by
  obtain ⟨s', e1, e2⟩ := lc_run (g := g) (t := t) (e := e) ds [] s1 hw (by simpa using hl) h
  unfold sLc
  rw [hf, R.bind_ok, e1, R.bind_ok, List.nil_append, restS_wipe, e2, hfin]
end Dv
namespace Pg
open PySem L2 Dv
def levsV (t : Tm) : List Dv.D := t.subs.map fun s => .int (s.levels : Nat)
theorem levsV_len (t : Tm) : (levsV t).length = t.size := by unfold levsV; rw [List.length_map, subs_len]
theorem levsV_get {t s : Tm} {i : Nat} (h : t.subs[i]? = some s) : (levsV t)[i]? = some (.int (s.levels : Nat)) := by
  unfold levsV; rw [List.getElem?_map, h]; rfl
theorem max_cast (a b : Nat) : (if ((b : Nat) : Int) > (a : Nat) then ((b : Nat) : Int) else ((a : Nat) : Int)) = ((max a b : Nat) : Int) := by
  split <;> omega
theorem levs_step (c : Nat → Fn) {t s : Tm} {i : Nat} {s0 u4 : Slot} (h0 : Arg s0 (.lst t.toks)) (hs : t.subs[i]? = some s) :
    ∃ u, bd_levels_of_b1 c [s0, .own (.lst (endsV t)), .own (.lst (part (.int 1) (i + 1) (levsV t))), .val (.int (i : Nat)), u4] = .nxt [s0, .own (.lst (endsV t)), .own (.lst (part (.int 1) i (levsV t))), .val (.int (i : Nat)), u] := by
  have hi : i < t.size := by rw [← subs_len]; exact (List.getElem?_eq_some_iff.mp hs).1
  have hk : atD (.lst t.toks) (.int (i : Nat)) = some (.val s.tok) := at_lst (toks_get hs)
  have hlen : (part (.int 1) (i + 1) (levsV t)).length = t.size := by rw [part_len (by rw [levsV_len]; omega), levsV_len]
  have put : ∀ (k : Slot) (d : Dv.D), (levsV t)[i]? = some d → setO 2 (some (.int (i : Nat))) d [s0, .own (.lst (endsV t)), .own (.lst (part (.int 1) (i + 1) (levsV t))), .val (.int (i : Nat)), k] = .nxt [s0, .own (.lst (endsV t)), .own (.lst (part (.int 1) i (levsV t))), .val (.int (i : Nat)), k] := fun k d hd => by
    rw [setO_own (l := part (.int 1) (i + 1) (levsV t)) rfl (by omega), part_set hd]; rfl
  have look : ∀ j d, i < j → (levsV t)[j]? = some d → atD (.lst (part (.int 1) (i + 1) (levsV t))) (.int (j : Nat)) = some (.val d) := fun j d hj hd => at_lst (by rw [part_get (by omega)]; exact hd)
  cases s with
  | nm x =>
    refine ⟨.val (.str "name"), ?_⟩
    rw [part_keep (z := .int 1) (levsV_get hs)]
    unfold bd_levels_of_b1
    unfold Tm.tok at hk
    rcases h0 with rfl | rfl
    all_goals simp_arith [hk]
  | fn x b =>
    have e := levsV_get hs
    have p := put (.val (.str "fn")) _ e
    have q := look (i + 1) _ (by omega) (levsV_get (subs_fn hs))
    rw [show (Tm.fn x b).levels = b.levels + 1 from rfl] at p
    refine ⟨.val (.str "fn"), ?_⟩
    unfold bd_levels_of_b1
    unfold Tm.tok at hk
    rcases h0 with rfl | rfl
    all_goals simp_arith [hk, cast1, q, p]
  | ca f a =>
    have e := levsV_get hs
    have p := put (.val (.str "call")) _ e
    have q := look (i + 1) _ (by omega) (levsV_get (subs_ca1 hs))
    have q1 : atD (.lst (endsV t)) (.int ((i + 1 : Nat) : Int)) = some (.val (.int ((i + 1 + f.size : Nat)))) := at_lst (endsV_get (subs_ca1 hs))
    have q2 := look (i + 1 + f.size) _ (by omega) (levsV_get (subs_ca2 hs))
    rw [show (Tm.ca f a).levels = max f.levels a.levels + 1 from rfl] at p
    refine ⟨.val (.str "call"), ?_⟩
    unfold bd_levels_of_b1
    unfold Tm.tok at hk
    rcases h0 with rfl | rfl
    all_goals simp_arith [hk, cast1, q, q1, q2, max_cast, p]
end Pg
namespace Dv
open PySem L2
theorem any_false : ∀ {l : List D}, (∀ d ∈ l, d = .bl false) → anyD [.lst l] = some (.val (.bl false)) := by
  intro l h
  have : ∀ {l : List D}, (∀ d ∈ l, d = .bl false) → ∃ bs, blsD l = some bs ∧ bs.any id = false := by
    intro l
    induction l with
    | nil => intro _; exact ⟨[], rfl, rfl⟩
    | cons d l ih =>
      intro h
      obtain ⟨bs, e1, e2⟩ := ih fun d hd => h d (List.mem_cons_of_mem _ hd)
      have := h d List.mem_cons_self
      subst this
      exact ⟨false :: bs, by unfold blsD; rw [e1]; rfl, by rw [List.any_cons, e2]; rfl⟩
  obtain ⟨bs, e1, e2⟩ := this h
  unfold anyD
  simp only
  rw [e1, Option.map_some, e2]
end Dv
namespace Pg
open PySem L2 Dv
theorem fill_step2 {M : Dv.D → Dv.D → Option Opd} {toks : List Dv.D} {n : Nat} {z r : Dv.D} {s0 u1 u : Slot} {us : List Slot} (l1 : 1 ≤ LIM) (h0 : Arg s0 (.lst toks)) (hn : toks.length = n) (m : M (.lst [z]) (.int (n : Nat)) = some (.own r)) :
    sAsg 2 (sOp2 M (sLst (aCons (sC z) aNil)) (sCB lenD (aCons (sVar 0) aNil))) (s0 :: u1 :: u :: us) = .nxt (s0 :: u1 :: .own r :: us) := by
  have hl : 2 < us.length + 1 + 1 + 1 := by omega
  rcases h0 with rfl | rfl
  all_goals simp_arith [l1, hn, m, hl]
theorem levels_of_ok (c : Nat → Fn) (t : Tm) (hl : t.size < LIM) (s0 : Slot) (h0 : Arg s0 (.lst t.toks)) (he : PuO (c f_ends_of) [s0] (.lst (endsV t))) : Pu (fn_levels_of c) [s0] (.int (t.levels : Nat)) := by
  have hn := toks_len t
  obtain ⟨s', e, s2, u, rfl⟩ := for_down (g := bd_levels_of_g1) (b := bd_levels_of_b1 c) (n := t.size) (s := [s0, .own (.lst (endsV t)), .own (.lst (List.replicate t.size (.int 1))), .un, .un]) (fun i s => ∃ u2 u3, s = [s0, .own (.lst (endsV t)), .own (.lst (part (.int 1) i (levsV t))), u2, u3])
    (fun i hi s ⟨u2, u3, e⟩ => by
      subst e
      obtain ⟨sub, hs⟩ : ∃ sub, t.subs[i]? = some sub := ⟨_, List.getElem?_eq_getElem (by rw [subs_len]; exact hi)⟩
      obtain ⟨u, q⟩ := levs_step c (u4 := u3) h0 hs
      exact ⟨_, _, rfl, q, _, u, rfl⟩)
    ⟨.un, .un, by rw [← levsV_len, part_full]⟩
  rw [part_zero] at e
  have he : c f_ends_of [s0] = .ret (.own (.lst (endsV t))) [s0] := he
  have h1 : sAsg 1 (sCall (c f_ends_of) [true] (aCons (sVar 0) aNil)) [s0, .un, .un, .un, .un] = .nxt [s0, .own (.lst (endsV t)), .un, .un, .un] := by
    rcases h0 with rfl | rfl
    all_goals simp_arith [he]
  have h4 : sRet (sOp2 atD (sVar 2) (sC (.int 0))) [s0, .own (.lst (endsV t)), .own (.lst (levsV t)), s2, u] = .ret (.val (.int (t.levels : Nat))) [s0, .own (.lst (endsV t)), .own (.lst (levsV t)), s2, u] := by
    have q : atD (.lst (levsV t)) (.int ((0 : Nat) : Int)) = some (.val (.int (t.levels : Nat))) := at_lst (levsV_get (by rw [subs_head]; rfl))
    have q : atD (.lst (levsV t)) (.int 0) = some (.val (.int (t.levels : Nat))) := q
    simp_arith [q]
  unfold Pu fn_levels_of
  refine run_val rfl (s := [s0, .own (.lst (endsV t)), .own (.lst (levsV t)), s2, u]) ?_ rfl
  unfold bd_levels_of
  exact (seq_nxt h1).trans ((seq_nxt (fill_step2 lim1 h0 hn (mul_rep (by omega)))).trans ((seq_nxt (for_of (down_step h0 hn (rng_down (by omega))) e)).trans h4))
theorem tok_tag (s : Tm) : ∃ g v, s.tok = .tup [.str g, v] ∧ ((g : Str) == ("at" : Str)) = false := by
  cases s with
  | nm x => exact ⟨_, _, rfl, by decide⟩
  | fn x b => exact ⟨_, _, rfl, by decide⟩
  | ca f a => exact ⟨_, _, rfl, by decide⟩
theorem is_program_ok (c : Nat → Fn) (t : Tm) (h1 : t.size ≤ 200) (h2 : t.levels ≤ 60) (ht : Pu (c f_is_tree) [.val t.D] (.bl true)) (hf : PuO (c f_flat) [.val t.D] (.lst t.toks)) (hv : Pu (c f_levels_of) [.val (.lst t.toks)] (.int (t.levels : Nat))) : Pu (fn_is_program c) [.val t.D] (.bl true) := by
  have ht : c f_is_tree [.val t.D] = .ret (.val (.bl true)) [.val t.D] := ht
  have hf : c f_flat [.val t.D] = .ret (.own (.lst t.toks)) [.val t.D] := hf
  have hv : c f_levels_of [.val (.lst t.toks)] = .ret (.val (.int (t.levels : Nat))) [.val (.lst t.toks)] := hv
  have hn := toks_len t
  have d1 : decide ((200 : Int) < ((t.size : Nat) : Int)) = false := decide_eq_false (by omega)
  have d2 : decide ((60 : Int) < ((t.levels : Nat) : Int)) = false := decide_eq_false (by omega)
  have hl : 200 ≤ LIM := LIM_le (by decide)
  have lc := lc_of (f := wSeq (sVar 1)) (g := gT 2 (gs1 (gN 2) (gs1 (gN 3) gs0))) (t := tYesT) (e := sOp2 eqD (sVar 2) (sC (.str "at"))) (vs := [2, 3]) (P := fun _ => true) (F := fun _ => .bl false) (s := [.val t.D, .own (.lst t.toks), .un, .un]) (s1 := [.val t.D, .val (.lst t.toks), .un, .un]) (w := [.val t.D, .val (.lst t.toks), .un, .un]) (fin := [.val t.D, .val (.lst t.toks), .un, .un]) (ds := t.toks) rfl rfl (by omega)
    (fun d hd => by
      obtain ⟨s, hs, rfl⟩ := List.mem_map.mp (show d ∈ t.subs.map Tm.tok from hd)
      obtain ⟨g, v, e, hg⟩ := tok_tag s
      rw [e]
      refine ⟨[.val t.D, .val (.lst t.toks), .val (.str g), .val v], [.val t.D, .val (.lst t.toks), .val (.str g), .val v], rfl, rfl, fun z => (nomatch z), fun _ => ⟨.val (.bl false), [.val t.D, .val (.lst t.toks), .val (.str g), .val v], [.val t.D, .val (.lst t.toks), .val (.str g), .val v], ?_, rfl, rfl⟩⟩
      simp_arith [hg]) rfl
  have af : anyD [.lst ((t.toks.filter fun _ => true).map fun _ => .bl false)] = some (.val (.bl false)) := any_false fun d hd => by
    obtain ⟨_, _, rfl⟩ := List.mem_map.mp hd
    rfl
  unfold Pu fn_is_program
  refine run_val rfl (s := [.val t.D, .val (.lst t.toks), .un, .un]) ?_ rfl
  unfold bd_is_program
  simp_arith [ht, hf, hn, d1, lc, af, hv, d2]
theorem need_wide_ok (c : Nat → Fn) (t : Tm) (ht : Pu (c f_is_tree) [.val t.D] (.bl true)) : Pu (fn_need_wide c) [.val t.D] .non := by
  have ht : c f_is_tree [.val t.D] = .ret (.val (.bl true)) [.val t.D] := ht
  unfold Pu fn_need_wide
  refine run_nxt rfl (s := [.val t.D]) ?_ rfl
  unfold bd_need_wide
  simp_arith [ht]
theorem need_program_ok (c : Nat → Fn) (t : Tm) (ht : Pu (c f_is_program) [.val t.D] (.bl true)) : Pu (fn_need_program c) [.val t.D] .non := by
  have ht : c f_is_program [.val t.D] = .ret (.val (.bl true)) [.val t.D] := ht
  unfold Pu fn_need_program
  refine run_nxt rfl (s := [.val t.D]) ?_ rfl
  unfold bd_need_program
  simp_arith [ht]
end Pg
namespace Pg
open PySem L2 Dv
def Tm.head : Tm → Tm
  | .ca f _ => f.head
  | t => t
def Tm.args : Tm → List Tm
  | .ca f a => f.args ++ [a]
  | _ => []
theorem args_len : ∀ t : Tm, t.args.length < t.size
  | .nm _ => by unfold Tm.args Tm.size; exact Nat.lt_succ_self _
  | .fn _ b => by have := b.size_pos; unfold Tm.args Tm.size; rw [List.length_nil]; omega
  | .ca f a => by
    have := args_len f
    have := a.size_pos
    unfold Tm.args Tm.size
    rw [List.length_append, List.length_singleton]; omega
theorem rev_lst (l : List Dv.D) : revD (.lst l) = some (.own (.lst l.reverse)) := rfl
theorem tup_lst (l : List Dv.D) : tupD [.lst l] = some (.val (.tup l)) := rfl
theorem spine_loop (c : Nat → Fn) (v : Slot) : ∀ (cur : Tm) (acc : List Dv.D), acc.length + cur.size < LIM →
    sWh (bd_spine_t1 c) (bd_spine_b1 c) [v, .val cur.D, .own (.lst acc)] = .nxt [v, .val cur.head.D, .own (.lst (acc ++ (cur.args.map Tm.D).reverse))]
  | .nm x, acc, h => by
    refine wh_stop ?_
    unfold bd_spine_t1 Tm.head Tm.args Tm.D
    rw [List.map_nil, List.reverse_nil, List.append_nil]
    simp_arith []
  | .fn x b, acc, h => by
    refine wh_stop ?_
    rw [show (Tm.fn x b).head = .fn x b from rfl, show (Tm.fn x b).args = [] from rfl, List.map_nil, List.reverse_nil, List.append_nil, show (Tm.fn x b).D = .tup [.str "fn", .str x, b.D] from rfl]
    unfold bd_spine_t1
    simp_arith []
  | .ca f a, acc, h => by
    have hs : (Tm.ca f a).size = f.size + a.size + 1 := rfl
    have e := spine_loop c v f (acc ++ [a.D]) (by rw [List.length_append, List.length_singleton]; omega)
    rw [show (Tm.ca f a).head = f.head from rfl, show (Tm.ca f a).args = f.args ++ [a] from rfl, List.map_append, List.reverse_append, show ([a].map Tm.D).reverse = [a.D] from rfl, ← List.append_assoc]
    rw [show (Tm.ca f a).D = .tup [.str "call", f.D, a.D] from rfl]
    refine (wh_go (s1 := [v, .val (.tup [.str "call", f.D, a.D]), .own (.lst acc)]) ?_ ?_).trans e
    · unfold bd_spine_t1
      simp_arith []
    · have a1 : fAppend (.lst acc) [a.D] = some (.lst (acc ++ [a.D]), .non) := append_ok (by omega)
      unfold bd_spine_b1
      simp_arith [a1]
theorem spine_ok (c : Nat → Fn) (t : Tm) (hl : t.size < LIM) (hw : Pu (c f_need_wide) [.val t.D] .non) : Pu (fn_spine c) [.val t.D] (.tup [t.head.D, .tup (t.args.map Tm.D)]) := by
  have hw : c f_need_wide [.val t.D] = .ret (.val .non) [.val t.D] := hw
  have e := spine_loop c (.val t.D) t [] (by rw [List.length_nil]; omega)
  rw [List.nil_append] at e
  have l2 : (2 : Nat) ≤ LIM := LIM_le (by decide)
  have l0 : (0 : Nat) ≤ LIM := LIM_le (by decide)
  unfold Pu fn_spine
  refine run_val rfl (s := [.val t.D, .val t.head.D, .own (.lst ((t.args.map Tm.D).reverse))]) ?_ rfl
  unfold bd_spine
  simp_arith [hw, l0, e, rev_lst, List.reverse_reverse, tup_lst, l2]
def Tm.rdx : Tm → Bool
  | .ca (.fn _ _) _ => true
  | _ => false
theorem is_ready_ok (c : Nat → Fn) {t s : Tm} {i : Nat} {s0 : Slot} (h0 : Arg s0 (.lst t.toks)) (hs : t.subs[i]? = some s) : Pu (fn_is_ready c) [s0, .val (.int (i : Nat))] (.bl s.rdx) := by
  have hk : atD (.lst t.toks) (.int (i : Nat)) = some (.val s.tok) := at_lst (toks_get hs)
  unfold Pu fn_is_ready
  cases s with
  | nm x =>
    unfold Tm.tok at hk
    refine run_val rfl (s := [s0, .val (.int (i : Nat))]) ?_ rfl
    unfold bd_is_ready
    rcases h0 with rfl | rfl
    all_goals (simp_arith [hk]; rfl)
  | fn x b =>
    unfold Tm.tok at hk
    refine run_val rfl (s := [s0, .val (.int (i : Nat))]) ?_ rfl
    unfold bd_is_ready
    rcases h0 with rfl | rfl
    all_goals (simp_arith [hk]; rfl)
  | ca f a =>
    have hk2 : atD (.lst t.toks) (.int ((i + 1 : Nat) : Int)) = some (.val f.tok) := at_lst (toks_get (subs_ca1 hs))
    unfold Tm.tok at hk
    refine run_val rfl (s := [s0, .val (.int (i : Nat))]) ?_ rfl
    unfold bd_is_ready
    cases f <;> unfold Tm.tok at hk2 <;> rcases h0 with rfl | rfl
    all_goals (simp_arith [hk, cast1, hk2]; rfl)
def Tm.still (t : Tm) : Prop := ∀ s ∈ t.subs, s.rdx = false
theorem inR_nat {n : Nat} (h : n ≤ LIM) : inR ((n : Nat) : Int) := by
  have hl := lim62
  unfold inR; omega
theorem rng1_in {n : Nat} (c1 : inR ((n : Nat) : Int)) : rng1 [.int (n : Nat)] = some ((List.range n).map fun k => .int (k : Nat)) := by
  show (if inR ((n : Nat) : Int) then some ((List.range ((n : Nat) : Int).toNat).map fun k => Dv.D.int (k : Nat)) else none) = _
  rw [if_pos c1, Int.toNat_natCast]
theorem rng1_nat {n : Nat} (h : n ≤ LIM) : rng1 [.int (n : Nat)] = some ((List.range n).map fun k => .int (k : Nat)) := rng1_in (inR_nat h)
theorem up_step {R : List Dv.D → Option (List Dv.D)} {toks ds : List Dv.D} {n : Nat} {s0 : Slot} {us : List Slot} (h0 : Arg s0 (.lst toks)) (hn : toks.length = n) (r : R [.int (n : Nat)] = some ds) :
    wArgs R (aCons (sCB lenD (aCons (sVar 0) aNil)) aNil) (s0 :: us) = .ok ds (s0 :: us) := by
  rcases h0 with rfl | rfl
  all_goals simp_arith [hn, r]
def readyI (t : Tm) : List Dv.D := ((List.range t.size).filter fun i => (t.subs.getD i (.nm "x")).rdx).map fun i => .int (i : Nat)
def ixOf : Dv.D → Nat
  | .int i => i.toNat
  | _ => 0
theorem indexes_ready_ok (c : Nat → Fn) (t : Tm) (hl : t.size < LIM) (s0 : Slot) (h0 : Arg s0 (.lst t.toks)) (hr : ∀ i s, t.subs[i]? = some s → Pu (c f_is_ready) [s0, .val (.int (i : Nat))] (.bl s.rdx)) : PuO (fn_indexes_ready c) [s0] (.lst (readyI t)) := by
  have hn := toks_len t
  have fs : wArgs rng1 (aCons (sCB lenD (aCons (sVar 0) aNil)) aNil) [s0, .un] = .ok ((List.range t.size).map fun k => .int (k : Nat)) [s0, .un] := by
    exact up_step h0 hn (rng1_nat (n := t.size) (by omega))
  have lc := lc_of (g := gN 1) (t := tTru (sCall (c f_is_ready) [true, true] (aCons (sVar 0) (aCons (sVar 1) aNil)))) (e := sVar 1) (vs := [1]) (P := fun d => (t.subs.getD (ixOf d) (.nm "x")).rdx) (F := fun d => d) (w := [s0, .un]) (fin := [s0, .un]) fs rfl (by rw [List.length_map, List.length_range]; omega)
    (fun d hd => by
      obtain ⟨i, hi, rfl⟩ := List.mem_map.mp hd
      have hi : i < t.size := List.mem_range.mp hi
      obtain ⟨s, hs⟩ : ∃ s, t.subs[i]? = some s := ⟨_, List.getElem?_eq_getElem (by rw [subs_len]; exact hi)⟩
      have hP : (t.subs.getD (ixOf (.int (i : Nat))) (.nm "x")).rdx = s.rdx := by
        rw [show ixOf (.int (i : Nat)) = i by unfold ixOf; simp, List.getD_eq_getElem?_getD, hs]; rfl
      have h1 : c f_is_ready [s0, .val (.int (i : Nat))] = .ret (.val (.bl s.rdx)) [s0, .val (.int (i : Nat))] := hr i s hs
      refine ⟨[s0, .val (.int (i : Nat))], [s0, .val (.int (i : Nat))], rfl, ?_, fun _ => rfl, fun _ => ⟨.val (.int (i : Nat)), [s0, .val (.int (i : Nat))], [s0, .val (.int (i : Nat))], rfl, rfl, rfl⟩⟩
      rw [hP]
      rcases h0 with rfl | rfl
      all_goals simp_arith [h1]) (by rcases h0 with rfl | rfl <;> rfl)
  unfold PuO fn_indexes_ready
  refine run_own rfl (s := [s0, .un]) ?_ rfl
  unfold bd_indexes_ready
  have er : ((((List.range t.size).map fun k => Dv.D.int (k : Nat)).filter fun d => (t.subs.getD (ixOf d) (.nm "x")).rdx).map fun d => d) = readyI t := by
    unfold readyI
    rw [List.map_id', List.filter_map]
    congr 1
  rw [er] at lc
  simp_arith [lc]
end Pg
namespace Dv
open PySem L2
theorem forL_cons {g : G} {b : S} {d : D} {ds : List D} {s s1 s2 : Sto} (h1 : g d s = some s1) (h2 : b s1 = .nxt s2) : forL g b (d :: ds) s = forL g b ds s2 := by
  show (match g d s with
    | none => Out.bad
    | some s1 => match b s1 with
      | .nxt s2 => forL g b ds s2
      | .cnt s2 => forL g b ds s2
      | .brk s2 => .nxt s2
      | o => o) = _
  rw [h1]
  simp only
  rw [h2]
theorem addD_tup {l m : List D} (h : l.length + m.length ≤ LIM) : addD (.tup l) (.tup m) = some (.val (.tup (l ++ m))) := by
  show (if l.length + m.length ≤ LIM then some (Opd.val (.tup (l ++ m))) else none) = _
  rw [if_pos h]
end Dv
namespace Pg
open PySem L2 Dv
def Tm.addrs (p : List Dv.D) : Tm → List Dv.D
  | .nm _ => [.tup p]
  | .fn _ b => .tup p :: b.addrs (p ++ [.int 0])
  | .ca f a => .tup p :: (f.addrs (p ++ [.int 0]) ++ a.addrs (p ++ [.int 1]))
theorem addrs_len : ∀ (t : Tm) (p : List Dv.D), (t.addrs p).length = t.size
  | .nm _, _ => rfl
  | .fn _ b, p => by unfold Tm.addrs Tm.size; rw [List.length_cons, addrs_len b]
  | .ca f a, p => by unfold Tm.addrs Tm.size; rw [List.length_cons, List.length_append, addrs_len f, addrs_len a]
abbrev Fo := List (Tm × List Dv.D)
def Fo.toks : Fo → List Dv.D
  | [] => []
  | (t, _) :: r => t.toks ++ Fo.toks r
def Fo.addrs : Fo → List Dv.D
  | [] => []
  | (t, p) :: r => t.addrs p ++ Fo.addrs r
def Fo.size : Fo → Nat
  | [] => 0
  | (t, _) :: r => t.size + Fo.size r
def Fo.pile (l : Fo) : List Dv.D := (l.map fun q => Dv.D.tup q.2).reverse
theorem Fo.pile_cons (q : Tm × List Dv.D) (l : Fo) : Fo.pile (q :: l) = Fo.pile l ++ [.tup q.2] := by unfold Fo.pile; rw [List.map_cons, List.reverse_cons]
theorem Fo.pile_len (l : Fo) : (Fo.pile l).length ≤ Fo.size l := by
  unfold Fo.pile
  rw [List.length_reverse, List.length_map]
  induction l with
  | nil => exact Nat.le_refl _
  | cons q r ih => have := q.1.size_pos; unfold Fo.size; rw [List.length_cons]; omega
theorem addr_loop (c : Nat → Fn) (v : Slot) : ∀ (n : Nat) (l : Fo) (out : List Dv.D) (u3 u4 u5 : Slot), Fo.size l ≤ n → out.length + Fo.size l < LIM → (∀ q ∈ l, q.2.length + q.1.size < LIM) →
    ∃ w3 w4 w5, forL bd_addresses_of_g1 (bd_addresses_of_b1 c) (Fo.toks l) [v, .own (.lst out), .own (.lst (Fo.pile l)), u3, u4, u5] = .nxt [v, .own (.lst (out ++ Fo.addrs l)), .own (.lst []), w3, w4, w5]
  | n, [], out, u3, u4, u5, _, _, _ => ⟨u3, u4, u5, by unfold Fo.addrs Fo.toks; rw [List.append_nil]; rfl⟩
  | 0, (t, p) :: r, out, u3, u4, u5, h, _, _ => by have := t.size_pos; unfold Fo.size at h; omega
  | n + 1, (t, p) :: r, out, u3, u4, u5, h, hl, hb => by
    have hr : ∀ q ∈ r, q.2.length + q.1.size < LIM := fun q hq => hb q (List.mem_cons_of_mem _ hq)
    have hp : p.length + t.size < LIM := hb (t, p) List.mem_cons_self
    have hpl := Fo.pile_len r
    unfold Fo.size at h hl
    have a1 : fAppend (.lst out) [.tup p] = some (.lst (out ++ [.tup p]), .non) := append_ok (by have := t.size_pos; omega)
    rw [Fo.pile_cons]
    cases t with
    | nm x =>
      have hz : (Tm.nm x).size = 1 := rfl
      obtain ⟨w3, w4, w5, e⟩ := addr_loop c v n r (out ++ [.tup p]) (.val (.str "name")) (.val (.str x)) (.val (.tup p)) (by omega) (by rw [List.length_append, List.length_singleton]; omega) hr
      refine ⟨w3, w4, w5, ?_⟩
      rw [show Fo.toks ((Tm.nm x, p) :: r) = .tup [.str "name", .str x] :: Fo.toks r from rfl, show Fo.addrs ((Tm.nm x, p) :: r) = [.tup p] ++ Fo.addrs r from rfl, ← List.append_assoc]
      refine (forL_cons (s1 := [v, .own (.lst out), .own (.lst (Fo.pile r ++ [.tup p])), .val (.str "name"), .val (.str x), u5]) rfl ?_).trans e
      unfold bd_addresses_of_b1
      simp_arith [a1]
    | fn x b =>
      have hz : (Tm.fn x b).size = b.size + 1 := rfl
      obtain ⟨w3, w4, w5, e⟩ := addr_loop c v n ((b, p ++ [.int 0]) :: r) (out ++ [.tup p]) (.val (.str "fn")) (.val (.str x)) (.val (.tup p)) (by unfold Fo.size; omega) (by rw [List.length_append, List.length_singleton]; unfold Fo.size; omega) (fun q hq => by
        rcases List.mem_cons.mp hq with rfl | hq
        · show (p ++ [_]).length + b.size < LIM
          rw [List.length_append, List.length_singleton]; omega
        · exact hr q hq)
      refine ⟨w3, w4, w5, ?_⟩
      rw [Fo.pile_cons] at e
      rw [show Fo.toks ((Tm.fn x b, p) :: r) = .tup [.str "fn", .str x] :: Fo.toks ((b, p ++ [.int 0]) :: r) from rfl, show Fo.addrs ((Tm.fn x b, p) :: r) = [.tup p] ++ Fo.addrs ((b, p ++ [.int 0]) :: r) from rfl, ← List.append_assoc]
      refine (forL_cons (s1 := [v, .own (.lst out), .own (.lst (Fo.pile r ++ [.tup p])), .val (.str "fn"), .val (.str x), u5]) rfl ?_).trans e
      have a2 : addD (.tup p) (.tup [.int 0]) = some (.val (.tup (p ++ [.int 0]))) := addD_tup (by rw [List.length_singleton]; omega)
      have a3 : fAppend (.lst (Fo.pile r)) [.tup (p ++ [.int 0])] = some (.lst (Fo.pile r ++ [.tup (p ++ [.int 0])]), .non) := append_ok (by omega)
      have l1 := lim1
      unfold bd_addresses_of_b1
      simp_arith [a1, a2, a3, l1]
    | ca f a =>
      have hz : (Tm.ca f a).size = f.size + a.size + 1 := rfl
      have hf := f.size_pos
      have ha := a.size_pos
      obtain ⟨w3, w4, w5, e⟩ := addr_loop c v n ((f, p ++ [.int 0]) :: (a, p ++ [.int 1]) :: r) (out ++ [.tup p]) (.val (.str "call")) (.val .non) (.val (.tup p)) (by unfold Fo.size Fo.size; omega) (by rw [List.length_append, List.length_singleton]; unfold Fo.size Fo.size; omega) (fun q hq => by
        rcases List.mem_cons.mp hq with rfl | hq
        · show (p ++ [_]).length + f.size < LIM
          rw [List.length_append, List.length_singleton]; omega
        · rcases List.mem_cons.mp hq with rfl | hq
          · show (p ++ [_]).length + a.size < LIM
            rw [List.length_append, List.length_singleton]; omega
          · exact hr q hq)
      refine ⟨w3, w4, w5, ?_⟩
      rw [Fo.pile_cons, Fo.pile_cons] at e
      have et : Fo.toks ((Tm.ca f a, p) :: r) = .tup [.str "call", .non] :: Fo.toks ((f, p ++ [.int 0]) :: (a, p ++ [.int 1]) :: r) := by
        show (Tm.ca f a).toks ++ Fo.toks r = _ :: (f.toks ++ (a.toks ++ Fo.toks r))
        unfold Tm.toks
        rw [show (Tm.ca f a).subs = .ca f a :: (f.subs ++ a.subs) from rfl, List.map_cons, List.map_append]
        simp [Tm.tok]
      have ea : Fo.addrs ((Tm.ca f a, p) :: r) = [.tup p] ++ Fo.addrs ((f, p ++ [.int 0]) :: (a, p ++ [.int 1]) :: r) := by
        show (.tup p :: (f.addrs (p ++ [.int 0]) ++ a.addrs (p ++ [.int 1]))) ++ Fo.addrs r = .tup p :: (f.addrs _ ++ (a.addrs _ ++ Fo.addrs r))
        simp
      rw [et, ea, ← List.append_assoc]
      refine (forL_cons (s1 := [v, .own (.lst out), .own (.lst (Fo.pile r ++ [.tup p])), .val (.str "call"), .val .non, u5]) rfl ?_).trans e
      have a2 : addD (.tup p) (.tup [.int 0]) = some (.val (.tup (p ++ [.int 0]))) := addD_tup (by rw [List.length_singleton]; omega)
      have a2' : addD (.tup p) (.tup [.int 1]) = some (.val (.tup (p ++ [.int 1]))) := addD_tup (by rw [List.length_singleton]; omega)
      have a3 : fAppend (.lst (Fo.pile r)) [.tup (p ++ [.int 1])] = some (.lst (Fo.pile r ++ [.tup (p ++ [.int 1])]), .non) := append_ok (by omega)
      have a4 : fAppend (.lst (Fo.pile r ++ [.tup (p ++ [.int 1])])) [.tup (p ++ [.int 0])] = some (.lst (Fo.pile r ++ [.tup (p ++ [.int 1])] ++ [.tup (p ++ [.int 0])]), .non) := append_ok (by rw [List.length_append, List.length_singleton]; omega)
      have l1 := lim1
      unfold bd_addresses_of_b1
      simp_arith [a1, a2, a2', a3, a4, l1]
theorem addresses_of_ok (c : Nat → Fn) (t : Tm) (hl : t.size < LIM) (s0 : Slot) (h0 : Arg s0 (.lst t.toks)) : ∃ fin, (fn_addresses_of c) [s0] = .ret (.own (.lst (t.addrs []))) fin ∧ (s0 = .val (.lst t.toks) → fin = [.val (.lst t.toks)]) ∧ (s0 = .par (.lst t.toks) → fin = [.pfr (.lst t.toks)]) := by
  have l1 := lim1
  have l0 : (0 : Nat) ≤ LIM := LIM_le (by decide)
  have main : ∀ (s1 : Slot), wSeq (sVar 0) [s0, .own (.lst []), .own (.lst [.tup []]), .un, .un, .un] = .ok t.toks [s1, .own (.lst []), .own (.lst [.tup []]), .un, .un, .un] → (fn_addresses_of c) [s0] = .ret (.own (.lst (t.addrs []))) [s1] := fun s1 hs => by
    obtain ⟨w3, w4, w5, e⟩ := addr_loop c s1 t.size [(t, [])] [] .un .un .un (by unfold Fo.size Fo.size; omega) (by unfold Fo.size Fo.size; rw [List.length_nil]; omega) (fun q hq => by
      rw [List.mem_singleton.mp hq]
      show ([] : List Dv.D).length + t.size < LIM
      rw [List.length_nil]; omega)
    rw [show Fo.toks [(t, [])] = t.toks ++ [] from rfl, show Fo.addrs [(t, [])] = t.addrs [] ++ [] from rfl, List.append_nil, List.append_nil, List.nil_append, show Fo.pile [(t, [])] = [.tup []] from rfl] at e
    have st1 : sAsg 1 (sLst aNil) [s0, .un, .un, .un, .un, .un] = .nxt [s0, .own (.lst []), .un, .un, .un, .un] := by simp_arith [l0]
    have st2 : sAsg 2 (sLst (aCons (sTup aNil) aNil)) [s0, .own (.lst []), .un, .un, .un, .un] = .nxt [s0, .own (.lst []), .own (.lst [.tup []]), .un, .un, .un] := by simp_arith [l0, l1]
    refine run_slot rfl (i := 1) (s := [s1, .own (.lst (t.addrs [])), .own (.lst []), w3, w4, w5]) ?_ rfl rfl
    unfold bd_addresses_of
    exact (seq_nxt st1).trans ((seq_nxt st2).trans ((seq_nxt (for_of hs e)).trans rfl))
  rcases h0 with rfl | rfl
  · exact ⟨[.val (.lst t.toks)], main _ (by simp_arith []), fun _ => rfl, fun z => (nomatch z)⟩
  · exact ⟨[.pfr (.lst t.toks)], main _ (by simp_arith []), fun z => (nomatch z), fun _ => rfl⟩
def readyA (t : Tm) : List Dv.D := (readyI t).map fun d => (t.addrs []).getD (ixOf d) .non
theorem ready_ok (c : Nat → Fn) (t : Tm) (hl : t.size < LIM) (hw : Pu (c f_need_wide) [.val t.D] .non) (hf : PuO (c f_flat) [.val t.D] (.lst t.toks)) (ha : (c f_addresses_of) [.par (.lst t.toks)] = .ret (.own (.lst (t.addrs []))) [.pfr (.lst t.toks)])
    (hi : PuO (c f_indexes_ready) [.val (.lst t.toks)] (.lst (readyI t))) : Pu (fn_ready c) [.val t.D] (.tup (readyA t)) := by
  have hw : c f_need_wide [.val t.D] = .ret (.val .non) [.val t.D] := hw
  have hf : c f_flat [.val t.D] = .ret (.own (.lst t.toks)) [.val t.D] := hf
  have hi : c f_indexes_ready [.val (.lst t.toks)] = .ret (.own (.lst (readyI t))) [.val (.lst t.toks)] := hi
  have st1 : sDrop (sCall (c f_need_wide) [true] (aCons (sVar 0) aNil)) [.val t.D, .un, .un, .un] = .nxt [.val t.D, .un, .un, .un] := by simp_arith [hw]
  have st2 : sAsg 1 (sCall (c f_flat) [true] (aCons (sVar 0) aNil)) [.val t.D, .un, .un, .un] = .nxt [.val t.D, .own (.lst t.toks), .un, .un] := by simp_arith [hf]
  have st3 : sAsg 2 (sCall (c f_addresses_of) [true] (aCons (sVar 1) aNil)) [.val t.D, .own (.lst t.toks), .un, .un] = .nxt [.val t.D, .val (.lst t.toks), .own (.lst (t.addrs [])), .un] := by simp_arith [ha]
  have lf : wSeq (sCall (c f_indexes_ready) [true] (aCons (sVar 1) aNil)) [.val t.D, .val (.lst t.toks), .own (.lst (t.addrs [])), .un] = .ok (readyI t) [.val t.D, .val (.lst t.toks), .own (.lst (t.addrs [])), .un] := by simp_arith [hi]
  have hlen : (readyI t).length ≤ t.size := by
    unfold readyI
    rw [List.length_map]
    exact Nat.le_trans (List.length_filter_le _ _) (by rw [List.length_range]; exact Nat.le_refl _)
  have lc := lc_of (g := gN 3) (t := tYesT) (e := sOp2 atD (sVar 2) (sVar 3)) (vs := [3]) (P := fun _ => true) (F := fun d => (t.addrs []).getD (ixOf d) .non) (w := [.val t.D, .val (.lst t.toks), .own (.lst (t.addrs [])), .un]) (fin := [.val t.D, .val (.lst t.toks), .own (.lst (t.addrs [])), .un]) lf rfl (by omega)
    (fun d hd => by
      unfold readyI at hd
      obtain ⟨i, hi, rfl⟩ := List.mem_map.mp hd
      have hi : i < t.size := List.mem_range.mp (List.mem_filter.mp hi).1
      have q : atD (.lst (t.addrs [])) (.int (i : Nat)) = some (.val ((t.addrs []).getD i .non)) := at_lst (by
        rw [List.getD_eq_getElem?_getD, List.getElem?_eq_getElem (by rw [addrs_len]; exact hi)]; rfl)
      rw [show ixOf (.int (i : Nat)) = i by unfold ixOf; simp]
      refine ⟨[.val t.D, .val (.lst t.toks), .own (.lst (t.addrs [])), .val (.int (i : Nat))], [.val t.D, .val (.lst t.toks), .own (.lst (t.addrs [])), .val (.int (i : Nat))], rfl, rfl, fun z => (nomatch z), fun _ => ⟨.val ((t.addrs []).getD i .non), [.val t.D, .val (.lst t.toks), .own (.lst (t.addrs [])), .val (.int (i : Nat))], [.val t.D, .val (.lst t.toks), .own (.lst (t.addrs [])), .val (.int (i : Nat))], ?_, rfl, rfl⟩⟩
      simp_arith [q]) rfl
  rw [List.filter_eq_self.mpr (fun _ _ => rfl)] at lc
  have st4 : sRet (sCB tupD (aCons (sLc (wSeq (sCall (c f_indexes_ready) [true] (aCons (sVar 1) aNil))) (gN 3) tYesT (sOp2 atD (sVar 2) (sVar 3)) [3]) aNil)) [.val t.D, .val (.lst t.toks), .own (.lst (t.addrs [])), .un] = .ret (.val (.tup (readyA t))) [.val t.D, .val (.lst t.toks), .own (.lst (t.addrs [])), .un] := by
    unfold readyA
    simp_arith [lc, tup_lst]
  unfold Pu fn_ready
  refine run_val rfl (s := [.val t.D, .val (.lst t.toks), .own (.lst (t.addrs [])), .un]) ?_ rfl
  unfold bd_ready
  exact (seq_nxt st1).trans ((seq_nxt st2).trans ((seq_nxt st3).trans st4))
theorem still_ready {t : Tm} (h : t.still) : readyA t = [] := by
  unfold readyA readyI
  rw [List.filter_eq_nil_iff.mpr]
  · rfl
  · intro i hi
    have hi := List.mem_range.mp hi
    rw [List.getD_eq_getElem?_getD, List.getElem?_eq_getElem (by rw [subs_len]; exact hi)]
    have := h _ (List.getElem_mem (l := t.subs) (n := i) (by rw [subs_len]; exact hi))
    simp [this]
theorem is_normal_ok (c : Nat → Fn) (t : Tm) (h : t.still) (hp : Pu (c f_need_program) [.val t.D] .non) (hr : Pu (c f_ready) [.val t.D] (.tup (readyA t))) : Pu (fn_is_normal c) [.val t.D] (.bl true) := by
  have hp : c f_need_program [.val t.D] = .ret (.val .non) [.val t.D] := hp
  have hr : c f_ready [.val t.D] = .ret (.val (.tup (readyA t))) [.val t.D] := hr
  rw [still_ready h] at hr
  have l0 : (0 : Nat) ≤ LIM := LIM_le (by decide)
  have q : eqD (.tup []) (.tup []) = some (.val (.bl true)) := rfl
  unfold Pu fn_is_normal
  refine run_val rfl (s := [.val t.D]) ?_ rfl
  unfold bd_is_normal
  simp_arith [hp, hr, l0, q]
theorem need_normal_ok (c : Nat → Fn) (t : Tm) (hp : Pu (c f_is_normal) [.val t.D] (.bl true)) : Pu (fn_need_normal c) [.val t.D] .non := by
  have hp : c f_is_normal [.val t.D] = .ret (.val (.bl true)) [.val t.D] := hp
  unfold Pu fn_need_normal
  refine run_nxt rfl (s := [.val t.D]) ?_ rfl
  unfold bd_need_normal
  simp_arith [hp]
end Pg
namespace Dv
open PySem L2
theorem modD_pos {a b : Int} (h : 0 < b) : modD (.int a) (.int b) = some (.val (.int (a % b))) := by
  show (if 0 < b then some (Opd.val (.int (a % b))) else none) = _
  rw [if_pos h]
theorem log2_small {n : Nat} (h : n < 2 ^ 32) : n.log2 < 9000 := by
  by_cases h0 : n = 0
  · subst h0; decide
  · have : n.log2 < 32 := (Nat.log2_lt h0).mpr h
    omega
theorem fdivD_pos {a b : Int} (h : 0 < b) (hb : b < 4294967296) : fdivD (.int a) (.int b) = some (.val (.int (a / b))) := by
  have hl : b.natAbs.log2 < 9000 := log2_small (by omega)
  show (if 0 < b ∧ b.natAbs.log2 < 9000 then some (Opd.val (.int (a / b))) else none) = _
  rw [if_pos ⟨h, hl⟩]
theorem mulD_small {i j : Int} (h1 : -4611686018427387904 < i) (h2 : i < 4611686018427387904) : mulD (.int i) (.int j) = some (.val (.int (i * j))) := by
  have h : MulOk i j := .inl (.inl ⟨by omega, by omega⟩)
  unfold mulD
  simp only
  rw [if_pos h]
theorem powD_18 : powD (.int 10) (.int 18) = some (.val (.int 1000000000000000000)) := by
  unfold powD
  simp only
  rw [if_pos (by decide)]
  rfl
theorem set_p1 {a b e d : D} {us : List Slot} : setO 0 (some (.int 1)) d (.par (.lst [a, b, e]) :: us) = .nxt (.par (.lst [a, d, e]) :: us) := by
  have h := ixN_nat (n := 3) (i := 1) (by decide)
  have h : ixN [a, b, e].length 1 = some 1 := h
  unfold setO
  simp only [List.getElem?_cons_zero, Slot.mut, Slot.dat, Slot.put, if_true, h, List.set_cons_zero, List.set_cons_succ]
theorem set_p2 {a b e d : D} {us : List Slot} : setO 0 (some (.int 2)) d (.par (.lst [a, b, e]) :: us) = .nxt (.par (.lst [a, b, d]) :: us) := by
  have h := ixN_nat (n := 3) (i := 2) (by decide)
  have h : ixN [a, b, e].length 2 = some 2 := h
  unfold setO
  simp only [List.getElem?_cons_zero, Slot.mut, Slot.dat, Slot.put, if_true, h, List.set_cons_zero, List.set_cons_succ]
theorem intD_int (i : Int) : intD [.int i] = some (.val (.int i)) := rfl
end Dv
namespace Pg
open PySem L2 Dv
def boxD (cells : List Int) (k : Nat) (q : Int) : Dv.D := .lst [.lst (cells.map .int), .int (k : Nat), .int q]
def Draw (m : Nat) (r : Nat) : Prop := r < m ∨ r = 0
theorem pick_ok (c : Nat → Fn) (cells : List Int) (k : Nat) (q : Int) (m : Nat) (hk : k < 1073741824) (hm : m < 1073741824) :
    ∃ (r k' : Nat) (q' : Int), fn_law_pick c [.par (boxD cells k q), .val (.int (m : Nat))] = .ret (.val (.int (r : Nat))) [.par (boxD cells k' q'), .val (.int (m : Nat))] ∧ Draw m r ∧ k ≤ k' ∧ k' ≤ k + 1 := by
  have t1 : sIfS (tB (sOp2 ltD (sVar 1) (sC (.int 2)))) (sRet (sC (.int 0))) sSkip [.par (boxD cells k q), .val (.int (m : Nat)), .un, .un, .un, .un] = if m < 2 then .ret (.val (.int 0)) [.par (boxD cells k q), .val (.int (m : Nat)), .un, .un, .un, .un] else .nxt [.par (boxD cells k q), .val (.int (m : Nat)), .un, .un, .un, .un] := by
    by_cases h : m < 2
    · rw [if_pos h]
      simp_arith [decide_eq_true (show ((m : Nat) : Int) < 2 by omega)]
    · rw [if_neg h]
      simp_arith [decide_eq_false (show ¬ ((m : Nat) : Int) < 2 by omega)]
  by_cases h : m < 2
  · rw [if_pos h] at t1
    refine ⟨0, k, q, ?_, .inr rfl, Nat.le_refl _, Nat.le_succ _⟩
    refine run_val rfl (s := [.par (boxD cells k q), .val (.int (m : Nat)), .un, .un, .un, .un]) ?_ rfl
    unfold bd_law_pick
    exact seq_ret t1
  rw [if_neg h] at t1
  have m0 : (0 : Int) < ((m : Nat) : Int) := by omega
  have m1 : ((m : Nat) : Int) < 4294967296 := by omega
  have drawn : ∀ x : Int, ∃ r : Nat, x % ((m : Nat) : Int) = ((r : Nat) : Int) ∧ Draw m r := fun x => by
    have a := Int.emod_nonneg x (show ((m : Nat) : Int) ≠ 0 by omega)
    have b := Int.emod_lt_of_pos x m0
    exact ⟨(x % ((m : Nat) : Int)).toNat, by omega, .inl (by omega)⟩
  by_cases hq : 0 < q
  · obtain ⟨r, er, dr⟩ := drawn q
    refine ⟨r, k, q / ((m : Nat) : Int), ?_, dr, Nat.le_refl _, Nat.le_succ _⟩
    refine run_val rfl (s := [.par (boxD cells k (q / ((m : Nat) : Int))), .val (.int (m : Nat)), .val (.int (r : Nat)), .un, .un, .un]) ?_ rfl
    unfold bd_law_pick
    refine (seq_nxt t1).trans (seq_ret ?_)
    have e1 := modD_pos (a := q) m0
    have e2 := fdivD_pos (a := q) m0 m1
    rw [er] at e1
    unfold boxD
    simp_arith [decide_eq_true hq, intD_int, e1, e2, set_p2]
  · -- a fresh draw
    have t2 : sIfS (tB (sOp2 gtD (sOp2 atD (sVar 0) (sC (.int 2))) (sC (.int 0)))) (sSeq (sAsg 2 (sOp2 modD (sCB intD (aCons (sOp2 atD (sVar 0) (sC (.int 2))) aNil)) (sVar 1)))
    (sSeq (sSet 0 (sC (.int 2)) (sOp2 fdivD (sOp2 atD (sVar 0) (sC (.int 2))) (sVar 1)))
    (sRet (sVar 2)))) sSkip [.par (boxD cells k q), .val (.int (m : Nat)), .un, .un, .un, .un] = .nxt [.par (boxD cells k q), .val (.int (m : Nat)), .un, .un, .un, .un] := by
      unfold boxD
      simp_arith [decide_eq_false hq]
    have t3 : sAsg 3 (sOp2 atD (sVar 0) (sC (.int 1))) [.par (boxD cells k q), .val (.int (m : Nat)), .un, .un, .un, .un] = .nxt [.par (boxD cells k q), .val (.int (m : Nat)), .un, .val (.int (k : Nat)), .un, .un] := by
      unfold boxD
      simp_arith []
    have t4 : sSet 0 (sC (.int 1)) (sOp2 addD (sVar 3) (sC (.int 1))) [.par (boxD cells k q), .val (.int (m : Nat)), .un, .val (.int (k : Nat)), .un, .un] = .nxt [.par (boxD cells (k + 1) q), .val (.int (m : Nat)), .un, .val (.int (k : Nat)), .un, .un] := by
      unfold boxD
      simp_arith [cast1, set_p1]
    obtain ⟨cell, t5⟩ : ∃ cell : Int, sAsg 4 (sIf (tB (sOp2 gtD (sCB lenD (aCons (sOp2 atD (sVar 0) (sC (.int 0))) aNil)) (sC (.int 0)))) (sOp2 atD (sOp2 atD (sVar 0) (sC (.int 0))) (sOp2 modD (sVar 3) (sCB lenD (aCons (sOp2 atD (sVar 0) (sC (.int 0))) aNil)))) (sC (.int 0))) [.par (boxD cells (k + 1) q), .val (.int (m : Nat)), .un, .val (.int (k : Nat)), .un, .un]
        = .nxt [.par (boxD cells (k + 1) q), .val (.int (m : Nat)), .un, .val (.int (k : Nat)), .val (.int cell), .un] := by
      by_cases hc : cells.length = 0
      · refine ⟨0, ?_⟩
        have hd : decide ((0 : Int) < (((cells.map Dv.D.int).length : Nat) : Int)) = false := decide_eq_false (by rw [List.length_map, hc]; decide)
        unfold boxD
        simp_arith [hd]
      · have hx : k % cells.length < cells.length := Nat.mod_lt _ (by omega)
        refine ⟨cells[k % cells.length], ?_⟩
        have hd : decide ((0 : Int) < (((cells.map Dv.D.int).length : Nat) : Int)) = true := decide_eq_true (by rw [List.length_map]; omega)
        have e1 : modD (.int ((k : Nat) : Int)) (.int (((cells.map Dv.D.int).length : Nat) : Int)) = some (.val (.int ((k % cells.length : Nat)))) := by
          rw [modD_pos (by rw [List.length_map]; omega), List.length_map]; rfl
        have e2 : atD (.lst (cells.map Dv.D.int)) (.int ((k % cells.length : Nat))) = some (.val (.int cells[k % cells.length])) := at_lst (by rw [List.getElem?_map, List.getElem?_eq_getElem hx]; rfl)
        unfold boxD
        simp_arith [hd, e1, e2]
    have pre : ∀ {g : S} {o : Out}, g [.par (boxD cells (k + 1) q), .val (.int (m : Nat)), .un, .val (.int (k : Nat)), .val (.int cell), .un] = o → _ := fun {g o} h => (seq_nxt t1).trans ((seq_nxt t2).trans ((seq_nxt t3).trans ((seq_nxt t4).trans ((seq_nxt t5).trans h))))
    by_cases hb : k < cells.length ∧ 1000000000000000000 ≤ cell
    · obtain ⟨r, er, dr⟩ := drawn cell
      refine ⟨r, k + 1, cell / ((m : Nat) : Int), ?_, dr, Nat.le_succ _, Nat.le_refl _⟩
      refine run_val rfl (s := [.par (boxD cells (k + 1) (cell / ((m : Nat) : Int))), .val (.int (m : Nat)), .un, .val (.int (k : Nat)), .val (.int cell), .un]) ?_ rfl
      unfold bd_law_pick
      refine pre (seq_ret ?_)
      have d1 : decide (((k : Nat) : Int) < (((cells.map Dv.D.int).length : Nat) : Int)) = true := decide_eq_true (by rw [List.length_map]; omega)
      have d2 : decide (cell < 1000000000000000000) = false := decide_eq_false (by omega)
      have e1 := modD_pos (a := cell) m0
      have e2 := fdivD_pos (a := cell) m0 m1
      rw [er] at e1
      unfold boxD
      simp_arith [d1, d2, powD_18, intD_int, e1, e2, set_p2]
    · have t6 : sIfS (tAnd (tB (sOp2 ltD (sVar 3) (sCB lenD (aCons (sOp2 atD (sVar 0) (sC (.int 0))) aNil)))) (tB (sOp2 geD (sVar 4) (sOp2 powD (sC (.int 10)) (sC (.int 18)))))) (sSeq (sSet 0 (sC (.int 2)) (sOp2 fdivD (sVar 4) (sVar 1)))
    (sRet (sOp2 modD (sCB intD (aCons (sVar 4) aNil)) (sVar 1)))) sSkip [.par (boxD cells (k + 1) q), .val (.int (m : Nat)), .un, .val (.int (k : Nat)), .val (.int cell), .un] = .nxt [.par (boxD cells (k + 1) q), .val (.int (m : Nat)), .un, .val (.int (k : Nat)), .val (.int cell), .un] := by
        unfold boxD
        by_cases h1 : k < cells.length
        · have d1 : decide (((k : Nat) : Int) < (((cells.map Dv.D.int).length : Nat) : Int)) = true := decide_eq_true (by rw [List.length_map]; omega)
          have d2 : decide (cell < 1000000000000000000) = true := decide_eq_true (by omega)
          simp_arith [d1, d2, powD_18]
        · have d1 : decide (((k : Nat) : Int) < (((cells.map Dv.D.int).length : Nat) : Int)) = false := decide_eq_false (by rw [List.length_map]; omega)
          simp_arith [d1]
      have a1 := Int.emod_nonneg cell (show (2147483629 : Int) ≠ 0 by decide)
      have a2 := Int.emod_lt_of_pos cell (show (0 : Int) < 2147483629 by decide)
      obtain ⟨x1, b1, b2, t7⟩ : ∃ x1 : Int, 0 ≤ x1 ∧ x1 < 2147483647 ∧ sAsg 5 (sOp2 modD (sOp2 mulD (sOp2 addD (sOp2 modD (sCB intD (aCons (sVar 4) aNil)) (sC (.int 2147483629))) (sC (.int 1))) (sC (.int 48271))) (sC (.int 2147483647))) [.par (boxD cells (k + 1) q), .val (.int (m : Nat)), .un, .val (.int (k : Nat)), .val (.int cell), .un]
          = .nxt [.par (boxD cells (k + 1) q), .val (.int (m : Nat)), .un, .val (.int (k : Nat)), .val (.int cell), .val (.int x1)] := by
        refine ⟨(cell % 2147483629 + 1) * 48271 % 2147483647, Int.emod_nonneg _ (by decide), Int.emod_lt_of_pos _ (by decide), ?_⟩
        have e1 := modD_pos (a := cell) (b := 2147483629) (by decide)
        have e2 := mulD_small (i := cell % 2147483629 + 1) (j := 48271) (by omega) (by omega)
        have e3 := modD_pos (a := (cell % 2147483629 + 1) * 48271) (b := 2147483647) (by decide)
        simp_arith [intD_int, e1, e2, e3]
      have kk : ((k : Nat) : Int) * ((k : Nat) : Int) ≤ 1073741824 * 1073741824 := Int.mul_le_mul (by omega) (by omega) (by omega) (by decide)
      have kp : 0 ≤ ((k : Nat) : Int) * ((k : Nat) : Int) := Int.mul_nonneg (by omega) (by omega)
      obtain ⟨x2, c1, c2, t8⟩ : ∃ x2 : Int, 0 ≤ x2 ∧ x2 < 2147483629 ∧ sAsg 5 (sOp2 modD (sOp2 addD (sOp2 addD (sVar 5) (sOp2 mulD (sOp2 mulD (sVar 3) (sVar 3)) (sC (.int 30269)))) (sOp2 mulD (sC (.int 977)) (sVar 3))) (sC (.int 2147483629))) [.par (boxD cells (k + 1) q), .val (.int (m : Nat)), .un, .val (.int (k : Nat)), .val (.int cell), .val (.int x1)]
          = .nxt [.par (boxD cells (k + 1) q), .val (.int (m : Nat)), .un, .val (.int (k : Nat)), .val (.int cell), .val (.int x2)] := by
        refine ⟨(x1 + ((k : Nat) : Int) * ((k : Nat) : Int) * 30269 + 977 * ((k : Nat) : Int)) % 2147483629, Int.emod_nonneg _ (by decide), Int.emod_lt_of_pos _ (by decide), ?_⟩
        have e1 := mulD_small (i := ((k : Nat) : Int)) (j := ((k : Nat) : Int)) (by omega) (by omega)
        have e2 := mulD_small (i := ((k : Nat) : Int) * ((k : Nat) : Int)) (j := 30269) (by omega) (by omega)
        have e3 := mulD_small (i := 977) (j := ((k : Nat) : Int)) (by decide) (by decide)
        have e4 := modD_pos (a := x1 + ((k : Nat) : Int) * ((k : Nat) : Int) * 30269 + 977 * ((k : Nat) : Int)) (b := 2147483629) (by decide)
        simp_arith [e1, e2, e3, e4]
      obtain ⟨x3, t9⟩ : ∃ x3 : Int, sAsg 5 (sOp2 modD (sOp2 mulD (sVar 5) (sVar 5)) (sC (.int 2147483587))) [.par (boxD cells (k + 1) q), .val (.int (m : Nat)), .un, .val (.int (k : Nat)), .val (.int cell), .val (.int x2)]
          = .nxt [.par (boxD cells (k + 1) q), .val (.int (m : Nat)), .un, .val (.int (k : Nat)), .val (.int cell), .val (.int x3)] := by
        refine ⟨x2 * x2 % 2147483587, ?_⟩
        have e1 := mulD_small (i := x2) (j := x2) (by omega) (by omega)
        have e2 := modD_pos (a := x2 * x2) (b := 2147483587) (by decide)
        simp_arith [e1, e2]
      obtain ⟨r, er, dr⟩ := drawn (x3 / 32)
      refine ⟨r, k + 1, q, ?_, dr, Nat.le_succ _, Nat.le_refl _⟩
      refine run_val rfl (s := [.par (boxD cells (k + 1) q), .val (.int (m : Nat)), .un, .val (.int (k : Nat)), .val (.int cell), .val (.int x3)]) ?_ rfl
      unfold bd_law_pick
      refine pre ((seq_nxt t6).trans ((seq_nxt t7).trans ((seq_nxt t8).trans ((seq_nxt t9).trans ?_))))
      have e1 := fdivD_pos (a := x3) (b := 32) (by decide) (by decide)
      have e2 := modD_pos (a := x3 / 32) m0
      rw [er] at e2
      simp_arith [e1, e2]
end Pg
namespace Dv
open PySem L2
theorem forL_brk {g : G} {b : S} {d : D} {ds : List D} {s s1 s2 : Sto} (h1 : g d s = some s1) (h2 : b s1 = .brk s2) : forL g b (d :: ds) s = .nxt s2 := by
  show (match g d s with
    | none => Out.bad
    | some s1 => match b s1 with
      | .nxt s2 => forL g b ds s2
      | .cnt s2 => forL g b ds s2
      | .brk s2 => .nxt s2
      | o => o) = _
  rw [h1]
  simp only
  rw [h2]
theorem for_brk {g : G} {b : S} (I F : Sto → Prop) (hIF : ∀ s, I s → F s) : ∀ (ds : List D) (s : Sto), (∀ d ∈ ds, ∀ s, I s → ∃ s1 s2, g d s = some s1 ∧ ((b s1 = .nxt s2 ∧ I s2) ∨ (b s1 = .brk s2 ∧ F s2))) → I s → ∃ s', forL g b ds s = .nxt s' ∧ F s'
  | [], s, _, h => ⟨s, rfl, hIF s h⟩
  | d :: ds, s, hs, h => by
    obtain ⟨s1, s2, e1, e2 | e2⟩ := hs d List.mem_cons_self s h
    · obtain ⟨s', q1, q2⟩ := for_brk I F hIF ds s2 (fun d hd => hs d (List.mem_cons_of_mem _ hd)) e2.2
      exact ⟨s', (forL_cons e1 e2.1).trans q1, q2⟩
    · exact ⟨s2, forL_brk e1 e2.1, e2.2⟩
theorem addD_lst {l m : List D} (h : l.length + m.length ≤ LIM) : addD (.lst l) (.lst m) = some (.own (.lst (l ++ m))) := by
  show (if l.length + m.length ≤ LIM then some (Opd.own (.lst (l ++ m))) else none) = _
  rw [if_pos h]
end Dv
namespace Pg
open PySem L2 Dv
def PickOk (F : Fn) : Prop := ∀ (cells : List Int) (k : Nat) (q : Int) (m : Nat), k < 1073741824 → m < 1073741824 →
    ∃ (r k' : Nat) (q' : Int), F [.par (boxD cells k q), .val (.int (m : Nat))] = .ret (.val (.int (r : Nat))) [.par (boxD cells k' q'), .val (.int (m : Nat))] ∧ Draw m r ∧ k ≤ k' ∧ k' ≤ k + 1
def namesD (ns : List Str) : Dv.D := .lst (ns.map .str)
def NormOk (A : Str → Prop) (F : Fn) (M : Nat) : Prop := ∀ (cells : List Int) (k : Nat) (q : Int) (ns : List Str) (most : Nat), 1 ≤ most → most ≤ M → ns ≠ [] → ns.length + most < 1000000 → (∀ x ∈ ns, A x) → k + 20 * most < 1073741824 →
    ∃ (t : Tm) (k' : Nat) (q' : Int), F [.par (boxD cells k q), .val (namesD ns), .val (.int (most : Nat))] = .ret (.val t.D) [.par (boxD cells k' q'), .val (namesD ns), .val (.int (most : Nat))] ∧ t.size ≤ most ∧ t.still ∧ (∀ x ∈ t.names, A x) ∧ k ≤ k' ∧ k' ≤ k + 20 * most
def Tm.isFn : Tm → Bool
  | .fn _ _ => true
  | _ => false
theorem still_ca {f a : Tm} (h1 : f.still) (h2 : a.still) (h3 : f.isFn = false) : (Tm.ca f a).still := fun s hs => by
  rw [show (Tm.ca f a).subs = .ca f a :: (f.subs ++ a.subs) from rfl] at hs
  rcases List.mem_cons.mp hs with rfl | hs
  · cases f with
    | fn x b => cases h3
    | nm x => rfl
    | ca g b => rfl
  · rcases List.mem_append.mp hs with hs | hs
    · exact h1 s hs
    · exact h2 s hs
theorem still_fn {x : Str} {b : Tm} (h : b.still) : (Tm.fn x b).still := fun s hs => by
  rw [show (Tm.fn x b).subs = .fn x b :: b.subs from rfl] at hs
  rcases List.mem_cons.mp hs with rfl | hs
  · rfl
  · exact h s hs
theorem still_nm {x : Str} : (Tm.nm x).still := fun s hs => by
  rw [show (Tm.nm x).subs = [.nm x] from rfl, List.mem_singleton] at hs
  rw [hs]; rfl
theorem normal_turn (A : Str → Prop) (c : Nat → Fn) (M : Nat) (hp : PickOk (c f_law_pick)) (hn : NormOk A (c f_law_normal) M) {cells : List Int} {k0 : Nat} {ns : List Str} {most : Nat} (h1 : most ≤ M + 1) (hns : ns ≠ []) (hl : ns.length + most < 1000000) (hA : ∀ x ∈ ns, A x) (hk : k0 + 20 * most < 1073741830)
    {found : Tm} {left k : Nat} {q : Int} {u3 u6 u7 : Slot} (i1 : found.size + left ≤ most) (i2 : found.still) (i3 : found.isFn = false) (i4 : ∀ x ∈ found.names, A x) (i5 : k0 ≤ k) (i6 : k + 20 * left ≤ k0 + 2 + 20 * (most - 1)) (hm : 1 ≤ most) :
    (∃ k' q', bd_law_normal_b1 c [.par (boxD cells k q), .val (namesD ns), .val (.int (most : Nat)), u3, .val found.D, .val (.int (left : Nat)), u6, u7] = .brk [.par (boxD cells k' q'), .val (namesD ns), .val (.int (most : Nat)), u3, .val found.D, .val (.int (left : Nat)), u6, u7] ∧ k ≤ k' ∧ k' ≤ k + 1) ∨
    ∃ (f' : Tm) (left' k' : Nat) (q' : Int) (u7' : Slot), bd_law_normal_b1 c [.par (boxD cells k q), .val (namesD ns), .val (.int (most : Nat)), u3, .val found.D, .val (.int (left : Nat)), u6, u7] = .nxt [.par (boxD cells k' q'), .val (namesD ns), .val (.int (most : Nat)), u3, .val f'.D, .val (.int (left' : Nat)), u6, u7'] ∧
      f'.size + left' ≤ most ∧ f'.still ∧ f'.isFn = false ∧ (∀ x ∈ f'.names, A x) ∧ k0 ≤ k' ∧ k' + 20 * left' ≤ k0 + 2 + 20 * (most - 1) := by
  by_cases hlt : left < 2
  · left
    refine ⟨k, q, ?_, Nat.le_refl _, Nat.le_succ _⟩
    have d1 : decide (((left : Nat) : Int) < 2) = true := decide_eq_true (by omega)
    unfold bd_law_normal_b1
    simp_arith [d1]
  · have d1 : decide (((left : Nat) : Int) < 2) = false := decide_eq_false (by omega)
    obtain ⟨r, k1, q1, e1, dr, b1, b2⟩ := hp cells k q 2 (by omega) (by decide)
    have e1 : c f_law_pick [.par (boxD cells k q), .val (.int 2)] = .ret (.val (.int (r : Nat))) [.par (boxD cells k1 q1), .val (.int 2)] := e1
    by_cases hr : r = 0
    · left
      refine ⟨k1, q1, ?_, b1, b2⟩
      subst hr
      have e1 : c f_law_pick [.par (boxD cells k q), .val (.int 2)] = .ret (.val (.int 0)) [.par (boxD cells k1 q1), .val (.int 2)] := e1
      unfold bd_law_normal_b1
      simp_arith [d1, e1]
    · right
      have z : (((r : Nat) : Int) == 0) = false := by simp; omega
      obtain ⟨r2, k2, q2, e2, dr2, b3, b4⟩ := hp cells k1 q1 (left - 1) (by omega) (by omega)
      have hr2 : r2 < left - 1 := by rcases dr2 with h | h <;> omega
      have e2 : c f_law_pick [.par (boxD cells k1 q1), .val (.int (((left : Nat) : Int) - 1))] = .ret (.val (.int (r2 : Nat))) [.par (boxD cells k2 q2), .val (.int (((left : Nat) : Int) - 1))] := by
        rw [show ((left : Nat) : Int) - 1 = ((left - 1 : Nat) : Int) by omega]; exact e2
      obtain ⟨t, k3, q3, e3, s1, s2, s3, b5, b6⟩ := hn cells k2 q2 ns (1 + r2) (by omega) (by omega) hns (by omega) hA (by omega)
      have e3 : c f_law_normal [.par (boxD cells k2 q2), .val (namesD ns), .val (.int (1 + ((r2 : Nat) : Int)))] = .ret (.val t.D) [.par (boxD cells k3 q3), .val (namesD ns), .val (.int (1 + ((r2 : Nat) : Int)))] := e3
      have l3 : (3 : Nat) ≤ LIM := LIM_le (by decide)
      refine ⟨.ca found t, left - 1 - (1 + r2), k3, q3, .val (.int (1 + ((r2 : Nat) : Int))), ?_, ?_, still_ca i2 s2 i3, rfl, ?_, by omega, by omega⟩
      · have ez : ((left : Nat) : Int) - 1 - (1 + ((r2 : Nat) : Int)) = ((left - 1 - (1 + r2) : Nat) : Int) := by omega
        rw [show (Tm.ca found t).D = .tup [.str "call", found.D, t.D] from rfl]
        unfold bd_law_normal_b1
        simp_arith [d1, e1, z, e2, e3, l3, ez]
      · rw [show (Tm.ca found t).size = found.size + t.size + 1 from rfl]; omega
      · intro x hx
        rcases List.mem_append.mp (show x ∈ found.names ++ t.names from hx) with hx | hx
        · exact i4 x hx
        · exact s3 x hx
theorem normal_main (A : Str → Prop) (c : Nat → Fn) (M : Nat) (hp : PickOk (c f_law_pick)) (hn : NormOk A (c f_law_normal) M) {cells : List Int} {k0 : Nat} {q0 : Int} {ns : List Str} {most : Nat} (hm : 1 ≤ most) (h1 : most ≤ M + 1) (hns : ns ≠ []) (hl : ns.length + most < 1000000) (hA : ∀ x ∈ ns, A x) (hk : k0 + 20 * most < 1073741830) :
    ∃ (t : Tm) (s : Sto), (sSeq (sAsg 4 (sTup (aCons (sC (.str "name")) (aCons (sOp2 atD (sVar 1) (sCall (c f_law_pick) [true, true] (aCons (sVar 0) (aCons (sCB lenD (aCons (sVar 1) aNil)) aNil)))) aNil))))
    (sSeq (sAsg 5 (sOp2 subD (sVar 2) (sC (.int 1))))
    (sSeq (sFor (wArgs rng1 (aCons (sC (.int 3)) aNil)) bd_law_normal_g1 (bd_law_normal_b1 c))
    (sRet (sVar 4))))) [.par (boxD cells k0 q0), .val (namesD ns), .val (.int (most : Nat)), .un, .un, .un, .un, .un] = .ret (.val t.D) s ∧ (∃ k' q', s.take 3 = [.par (boxD cells k' q'), .val (namesD ns), .val (.int (most : Nat))] ∧ k0 ≤ k' ∧ k' + 17 ≤ k0 + 20 * most) ∧ t.size ≤ most ∧ t.still ∧ (∀ x ∈ t.names, A x) := by
  have hpos : 0 < ns.length := List.length_pos_iff.mpr hns
  obtain ⟨r, k1, q1, e1, dr, b1, b2⟩ := hp cells k0 q0 ns.length (by omega) (by omega)
  have hr : r < ns.length := by rcases dr with h | h <;> omega
  have e1 : c f_law_pick [.par (boxD cells k0 q0), .val (.int (ns.length : Nat))] = .ret (.val (.int (r : Nat))) [.par (boxD cells k1 q1), .val (.int (ns.length : Nat))] := e1
  have l2 : (2 : Nat) ≤ LIM := LIM_le (by decide)
  have e2 : atD (.lst (ns.map Dv.D.str)) (.int (r : Nat)) = some (.val (.str ns[r])) := at_lst (by rw [List.getElem?_map, List.getElem?_eq_getElem hr]; rfl)
  have hx : A ns[r] := hA _ (List.getElem_mem hr)
  have t1 : sAsg 4 (sTup (aCons (sC (.str "name")) (aCons (sOp2 atD (sVar 1) (sCall (c f_law_pick) [true, true] (aCons (sVar 0) (aCons (sCB lenD (aCons (sVar 1) aNil)) aNil)))) aNil))) [.par (boxD cells k0 q0), .val (namesD ns), .val (.int (most : Nat)), .un, .un, .un, .un, .un]
      = .nxt [.par (boxD cells k1 q1), .val (namesD ns), .val (.int (most : Nat)), .un, .val (Tm.nm ns[r]).D, .un, .un, .un] := by
    rw [show (Tm.nm ns[r]).D = .tup [.str "name", .str ns[r]] from rfl]
    unfold namesD
    simp_arith [List.length_map, e1, e2, l2]
  have em : ((most : Nat) : Int) - 1 = ((most - 1 : Nat) : Int) := by omega
  have t2 : sAsg 5 (sOp2 subD (sVar 2) (sC (.int 1))) [.par (boxD cells k1 q1), .val (namesD ns), .val (.int (most : Nat)), .un, .val (Tm.nm ns[r]).D, .un, .un, .un]
      = .nxt [.par (boxD cells k1 q1), .val (namesD ns), .val (.int (most : Nat)), .un, .val (Tm.nm ns[r]).D, .val (.int ((most - 1 : Nat) : Int)), .un, .un] := by
    simp_arith [em]
  obtain ⟨s', e3, f', left', k', q', u6, u7, rfl, g1, g2, g3, g4, g5⟩ := for_brk (g := bd_law_normal_g1) (b := bd_law_normal_b1 c)
    (fun s => ∃ (f : Tm) (left k : Nat) (q : Int) (u6 u7 : Slot), s = [.par (boxD cells k q), .val (namesD ns), .val (.int (most : Nat)), .un, .val f.D, .val (.int (left : Nat)), u6, u7] ∧ f.size + left ≤ most ∧ f.still ∧ f.isFn = false ∧ (∀ x ∈ f.names, A x) ∧ k0 ≤ k ∧ k + 20 * left ≤ k0 + 2 + 20 * (most - 1))
    (fun s => ∃ (f : Tm) (left k : Nat) (q : Int) (u6 u7 : Slot), s = [.par (boxD cells k q), .val (namesD ns), .val (.int (most : Nat)), .un, .val f.D, .val (.int (left : Nat)), u6, u7] ∧ f.size + left ≤ most ∧ f.still ∧ (∀ x ∈ f.names, A x) ∧ k0 ≤ k ∧ k + 20 * left ≤ k0 + 3 + 20 * (most - 1))
    (fun s ⟨f, left, k, q, u6, u7, e, a1, a2, a3, a4, a5, a6⟩ => ⟨f, left, k, q, u6, u7, e, a1, a2, a4, a5, by omega⟩)
    [.int 0, .int 1, .int 2] [.par (boxD cells k1 q1), .val (namesD ns), .val (.int (most : Nat)), .un, .val (Tm.nm ns[r]).D, .val (.int ((most - 1 : Nat) : Int)), .un, .un]
    (fun d hd s ⟨f, left, k, q, u6, u7, e, a1, a2, a3, a4, a5, a6⟩ => by
      subst e
      rcases normal_turn A c M hp hn (u3 := .un) (u6 := .val d) (u7 := u7) (q := q) h1 hns hl hA hk a1 a2 a3 a4 a5 a6 hm with ⟨k', q', e, c1, c2⟩ | ⟨f', left', k', q', u7', e, c1, c2, c3, c4, c5, c6⟩
      · exact ⟨_, _, rfl, .inr ⟨e, f, left, k', q', .val d, u7, rfl, a1, a2, a4, by omega, by omega⟩⟩
      · exact ⟨_, _, rfl, .inl ⟨e, f', left', k', q', .val d, u7', rfl, c1, c2, c3, c4, c5, c6⟩⟩)
    ⟨.nm ns[r], most - 1, k1, q1, .un, .un, rfl, by rw [show (Tm.nm ns[r]).size = 1 from rfl]; omega, still_nm, rfl, fun x hx' => by rw [List.mem_singleton.mp (show x ∈ [ns[r]] from hx')]; exact hx, b1, by omega⟩
  have r3 := rng1_nat (n := 3) (LIM_le (by decide))
  have r3 : rng1 [.int 3] = some [.int 0, .int 1, .int 2] := r3
  have t3 : sFor (wArgs rng1 (aCons (sC (.int 3)) aNil)) bd_law_normal_g1 (bd_law_normal_b1 c) [.par (boxD cells k1 q1), .val (namesD ns), .val (.int (most : Nat)), .un, .val (Tm.nm ns[r]).D, .val (.int ((most - 1 : Nat) : Int)), .un, .un] = _ := for_of (ds := [.int 0, .int 1, .int 2]) (by simp_arith [r3]) e3
  refine ⟨f', _, (seq_nxt t1).trans ((seq_nxt t2).trans ((seq_nxt t3).trans (by simp_arith []; rfl))), ⟨k', q', rfl, g4, by omega⟩, by omega, g2, g3⟩
theorem normal_ok (A : Str → Prop) (c : Nat → Fn) (M : Nat) (hp : PickOk (c f_law_pick)) (hn : NormOk A (c f_law_normal) M) (hx : A "x") (hy : A "y") (hx1 : A "x1") (hu : A "u") : NormOk A (fn_law_normal c) (M + 1) := by
  intro cells k q ns most hm h1 hns hl hA hk
  have fin : ∀ (k1 : Nat) (q1 : Int), k ≤ k1 → k1 ≤ k + 1 → (sIfS (tAnd (tB (sOp2 gtD (sVar 2) (sC (.int 1)))) (tB (sOp2 eqD (sCall (c f_law_pick) [true, true] (aCons (sVar 0) (aCons (sC (.int 3)) aNil))) (sC (.int 0))))) (sSeq (sAsg 3 (sOp2 atD (sLst (aCons (sC (.str "x")) (aCons (sC (.str "y")) (aCons (sC (.str "x1")) (aCons (sC (.str "u")) aNil))))) (sCall (c f_law_pick) [true, true] (aCons (sVar 0) (aCons (sC (.int 4)) aNil)))))
    (sRet (sTup (aCons (sC (.str "fn")) (aCons (sVar 3) (aCons (sCall (c f_law_normal) [true, true, true] (aCons (sVar 0) (aCons (sOp2 addD (sVar 1) (sLst (aCons (sVar 3) aNil))) (aCons (sOp2 subD (sVar 2) (sC (.int 1))) aNil)))) aNil)))))) sSkip) [.par (boxD cells k q), .val (namesD ns), .val (.int (most : Nat)), .un, .un, .un, .un, .un] = .nxt [.par (boxD cells k1 q1), .val (namesD ns), .val (.int (most : Nat)), .un, .un, .un, .un, .un] →
      (k1 = k ∨ 2 ≤ most) → ∃ (t : Tm) (k' : Nat) (q' : Int), fn_law_normal c [.par (boxD cells k q), .val (namesD ns), .val (.int (most : Nat))] = .ret (.val t.D) [.par (boxD cells k' q'), .val (namesD ns), .val (.int (most : Nat))] ∧ t.size ≤ most ∧ t.still ∧ (∀ x ∈ t.names, A x) ∧ k ≤ k' ∧ k' ≤ k + 20 * most := fun k1 q1 c1 c2 e hk1 => by
    obtain ⟨t, s, e2, ⟨k', q', hs, b1, b2⟩, a1, a2, a3⟩ := normal_main A c M hp hn (cells := cells) (k0 := k1) (q0 := q1) hm h1 hns hl hA (by omega)
    refine ⟨t, k', q', run_val rfl ?_ hs, a1, a2, a3, by omega, by omega⟩
    unfold bd_law_normal
    exact (seq_nxt e).trans e2
  by_cases h2 : most < 2
  · have d1 : decide ((1 : Int) < ((most : Nat) : Int)) = false := decide_eq_false (by omega)
    exact fin k q (Nat.le_refl _) (Nat.le_succ _) (by simp_arith [d1]) (.inl rfl)
  · have d1 : decide ((1 : Int) < ((most : Nat) : Int)) = true := decide_eq_true (by omega)
    obtain ⟨r, k1, q1, e1, dr, b1, b2⟩ := hp cells k q 3 (by omega) (by decide)
    have e1 : c f_law_pick [.par (boxD cells k q), .val (.int 3)] = .ret (.val (.int (r : Nat))) [.par (boxD cells k1 q1), .val (.int 3)] := e1
    by_cases hr : r = 0
    · subst hr
      have e1 : c f_law_pick [.par (boxD cells k q), .val (.int 3)] = .ret (.val (.int 0)) [.par (boxD cells k1 q1), .val (.int 3)] := e1
      obtain ⟨r4, k2, q2, e2, dr4, b3, b4⟩ := hp cells k1 q1 4 (by omega) (by decide)
      have hr4 : r4 < 4 := by rcases dr4 with h | h <;> omega
      have e2 : c f_law_pick [.par (boxD cells k1 q1), .val (.int 4)] = .ret (.val (.int (r4 : Nat))) [.par (boxD cells k2 q2), .val (.int 4)] := e2
      obtain ⟨x, e3, ax⟩ : ∃ x : Str, atD (.lst [.str "x", .str "y", .str "x1", .str "u"]) (.int (r4 : Nat)) = some (.val (.str x)) ∧ A x := by
        rcases (show r4 = 0 ∨ r4 = 1 ∨ r4 = 2 ∨ r4 = 3 by omega) with rfl | rfl | rfl | rfl
        · exact ⟨_, at_lst (by rfl), hx⟩
        · exact ⟨_, at_lst (by rfl), hy⟩
        · exact ⟨_, at_lst (by rfl), hx1⟩
        · exact ⟨_, at_lst (by rfl), hu⟩
      obtain ⟨t, k3, q3, e4, s1, s2, s3, b5, b6⟩ := hn cells k2 q2 (ns ++ [x]) (most - 1) (by omega) (by omega) (by simp) (by rw [List.length_append, List.length_singleton]; omega) (fun y hy' => by
        rcases List.mem_append.mp hy' with h | h
        · exact hA y h
        · rw [List.mem_singleton.mp h]; exact ax) (by omega)
      have en : namesD (ns ++ [x]) = .lst (ns.map Dv.D.str ++ [.str x]) := by unfold namesD; rw [List.map_append]; rfl
      rw [en] at e4
      have e4 : c f_law_normal [.par (boxD cells k2 q2), .val (.lst (ns.map Dv.D.str ++ [.str x])), .val (.int (((most : Nat) : Int) - 1))] = .ret (.val t.D) [.par (boxD cells k3 q3), .val (.lst (ns.map Dv.D.str ++ [.str x])), .val (.int (((most : Nat) : Int) - 1))] := by
        rw [show ((most : Nat) : Int) - 1 = ((most - 1 : Nat) : Int) by omega]; exact e4
      have a1 : addD (.lst (ns.map Dv.D.str)) (.lst [.str x]) = some (.own (.lst (ns.map Dv.D.str ++ [.str x]))) := addD_lst (by rw [List.length_map, List.length_singleton]; exact LIM_le (by omega))
      have l4 : (4 : Nat) ≤ LIM := LIM_le (by decide)
      have l3 : (3 : Nat) ≤ LIM := LIM_le (by decide)
      have l1 := lim1
      refine ⟨.fn x t, k3, q3, run_val rfl (s := [.par (boxD cells k3 q3), .val (namesD ns), .val (.int (most : Nat)), .val (.str x), .un, .un, .un, .un]) ?_ rfl, by rw [show (Tm.fn x t).size = t.size + 1 from rfl]; omega, still_fn s2, fun y hy' => ?_, by omega, by omega⟩
      · unfold bd_law_normal
        refine seq_ret ?_
        rw [show (Tm.fn x t).D = .tup [.str "fn", .str x, t.D] from rfl]
        unfold namesD
        simp_arith [d1, e1, e2, l4, e3, a1, l1, e4, l3]
      · rcases List.mem_cons.mp (show y ∈ x :: t.names from hy') with rfl | h
        · exact ax
        · exact s3 y h
    · have z : (((r : Nat) : Int) == 0) = false := by simp; omega
      exact fin k1 q1 b1 b2 (by simp_arith [d1, e1, z]) (.inr (by omega))
end Pg
namespace Dv
open PySem L2
mutual
def D.ts : D → Bool
  | .str _ => true
  | .tup l => D.tsAll l
  | _ => false
def D.tsAll : List D → Bool
  | [] => true
  | d :: l => D.ts d && D.tsAll l
end
mutual
theorem ts_eqv : ∀ (a b : D), D.ts a = true → D.ts b = true → eqvD a b = true → a = b
  | .str x, b, _, hb, h => by
    cases b with
    | str y => unfold eqvD at h; rw [beq_iff_eq.mp h]
    | tup m => unfold eqvD at h; cases h
    | _ => unfold D.ts at hb; cases hb
  | .tup l, b, ha, hb, h => by
    cases b with
    | str y => unfold eqvD at h; cases h
    | tup m =>
      unfold eqvD at h
      unfold D.ts at ha hb
      rw [ts_eqvL l m ha hb h]
    | _ => unfold D.ts at hb; cases hb
  | .non, _, h, _, _ => by unfold D.ts at h; cases h
  | .bl _, _, h, _, _ => by unfold D.ts at h; cases h
  | .int _, _, h, _, _ => by unfold D.ts at h; cases h
  | .lst _, _, h, _, _ => by unfold D.ts at h; cases h
  | .dct _ _, _, h, _, _ => by unfold D.ts at h; cases h
  | .exc _ _, _, h, _, _ => by unfold D.ts at h; cases h
  | .ty _, _, h, _, _ => by unfold D.ts at h; cases h
  | .cls _, _, h, _, _ => by unfold D.ts at h; cases h
  | .scr _, _, h, _, _ => by unfold D.ts at h; cases h
theorem ts_eqvL : ∀ (l m : List D), D.tsAll l = true → D.tsAll m = true → eqvL l m = true → l = m
  | [], m, _, _, h => by
    cases m with
    | nil => rfl
    | cons e m => unfold eqvL at h; cases h
  | d :: l, m, ha, hb, h => by
    cases m with
    | nil => unfold eqvL at h; cases h
    | cons e m =>
      unfold eqvL at h
      unfold D.tsAll at ha hb
      rw [Bool.and_eq_true] at ha hb h
      rw [ts_eqv d e ha.1 hb.1 h.1, ts_eqvL l m ha.2 hb.2 h.2]
end
mutual
theorem ts_py : ∀ d : D, D.ts d = true → D.isPy d = true
  | .str _, _ => rfl
  | .tup l, h => by unfold D.ts at h; unfold D.isPy; exact ts_pyL l h
  | .non, h => by unfold D.ts at h; cases h
  | .bl _, h => by unfold D.ts at h; cases h
  | .int _, h => by unfold D.ts at h; cases h
  | .lst _, h => by unfold D.ts at h; cases h
  | .dct _ _, h => by unfold D.ts at h; cases h
  | .exc _ _, h => by unfold D.ts at h; cases h
  | .ty _, h => by unfold D.ts at h; cases h
  | .cls _, h => by unfold D.ts at h; cases h
  | .scr _, h => by unfold D.ts at h; cases h
theorem ts_pyL : ∀ l : List D, D.tsAll l = true → D.isPyAll l = true
  | [], _ => rfl
  | d :: l, h => by
    unfold D.tsAll at h
    rw [Bool.and_eq_true] at h
    unfold D.isPyAll
    rw [ts_py d h.1, ts_pyL l h.2]; rfl
end
abbrev leB (a b : D) : Bool := PySem.W.dataLe false toP a b
theorem le_total : PySem.W.TotalLe leB := PySem.W.sortLe_total _ _ _
theorem leB_ltB (a b : D) : leB a b = !ltB b a := rfl
theorem le_antisymm {a b : D} (ha : D.ts a = true) (hb : D.ts b = true) (al : PySem.W.alike (toP a) (toP b) = true) (h1 : leB a b = true) (h2 : leB b a = true) : a = b := by
  have e1 : PyProof.Rows.lexLt PyProof.Rows.itemOrd (PySem.W.keyToks (toP b)) (PySem.W.keyToks (toP a)) = false := by
    have := leB_ltB a b
    rw [h1] at this
    exact (Bool.not_eq_true' _).mp this.symm
  have e2 : PyProof.Rows.lexLt PyProof.Rows.itemOrd (PySem.W.keyToks (toP a)) (PySem.W.keyToks (toP b)) = false := by
    have := leB_ltB b a
    rw [h2] at this
    exact (Bool.not_eq_true' _).mp this.symm
  have et : PySem.W.keyToks (toP a) = PySem.W.keyToks (toP b) := (PyProof.Rows.listOrd PyProof.Rows.itemOrd).total _ _ e2 e1
  cases he : PyData.eqv (toP a) (toP b) with
  | true =>
    rw [eqv_py a b (toPy_isPy (ts_py a ha)) (toPy_isPy (ts_py b hb))] at he
    exact ts_eqv a b ha hb he
  | false =>
    have q := (PySem.W.toks_eqv _ _ al).2 he [] [.inl 0]
    rw [et, PySem.W.lex_pre] at q
    have z := (PyProof.Rows.listOrd PyProof.Rows.itemOrd).irrefl (PySem.W.keyToks (toP b))
    have z : PyProof.Rows.lexLt PyProof.Rows.itemOrd (PySem.W.keyToks (toP b)) (PySem.W.keyToks (toP b)) = false := z
    rw [z] at q
    exact absurd q (by decide)
theorem sort_perm {l m : List D} (hp : l.Perm m) (hts : ∀ d ∈ l, D.ts d = true) (hal : ∀ d ∈ l, ∀ e ∈ l, PySem.W.alike (toP d) (toP e) = true) : sortL l = sortL m := by
  have p1 : (sortL l).Perm (sortL m) := (List.mergeSort_perm l _).trans (hp.trans (List.mergeSort_perm m _).symm)
  refine List.Perm.eq_of_pairwise (le := fun a b => leB a b = true) (fun a b ha hb h1 h2 => ?_) (PySem.W.sort_pairwise le_total l) (PySem.W.sort_pairwise le_total m) p1
  have ma := (List.mergeSort_perm l _).mem_iff.mp ha
  have mb := hp.symm.mem_iff.mp ((List.mergeSort_perm m _).mem_iff.mp hb)
  exact le_antisymm (hts a ma) (hts b mb) (hal a ma b mb) h1 h2
end Dv
namespace Dv
open PySem L2
def Turn (g : G) (t : T) (e : E) (vs : List Nat) (w : Sto) (d : D) (p : Bool) (x : D) : Prop :=
  ∃ u s2, g d w = some u ∧ t u = .ok p s2 ∧ (p = false → wipeS s2 vs = w) ∧ (p = true → ∃ o s3 s4, e s2 = .ok o s3 ∧ takeO o s3 = .ok x s4 ∧ wipeS s4 vs = w)
theorem lcM_run {g g1 : G} {t1 : T} {f1 : Ws} {e : E} {vs vs1 : List Nat} {I : D → List D} {P : D → D → Bool} {F : D → D → D} {w : Sto} (hsub : ∀ i ∈ vs1, i ∈ vs) : ∀ (ds acc : List D) (s : Sto), wipeS s vs = w → acc.length + (ds.map fun d => (I d).length).sum ≤ LIM →
    (∀ d ∈ ds, ∃ u s3, g d w = some u ∧ f1 u = .ok (I d) s3 ∧ wipeS (wipeS s3 vs1) vs = w ∧ ∀ x ∈ I d, Turn g1 t1 e vs1 (wipeS s3 vs1) x (P d x) (F d x)) →
    ∃ s', lcM g tYesT f1 (lcL g1 t1 e vs1) vs ds acc s = .ok (acc ++ ds.flatMap fun d => ((I d).filter (P d)).map (F d)) s' ∧ wipeS s' vs = w
  | [], acc, s, hs, _, _ => ⟨s, by unfold lcM; simp, hs⟩
  | d :: ds, acc, s, hs, hl, h => by
    obtain ⟨u, s3, e1, e2, e3, e4⟩ := h d List.mem_cons_self
    rw [List.map_cons, List.sum_cons] at hl
    obtain ⟨s4, q1, q2⟩ := lc_run (g := g1) (t := t1) (e := e) (vs := vs1) (P := P d) (F := F d) (w := wipeS s3 vs1) (I d) acc s3 rfl (by omega) e4
    have hw : wipeS s4 vs = w := by rw [← wipeS_sub hsub, q2]; exact e3
    have hlen : (acc ++ ((I d).filter (P d)).map (F d)).length ≤ acc.length + (I d).length := by
      rw [List.length_append, List.length_map]
      have := List.length_filter_le (P d) (I d)
      omega
    obtain ⟨s', r1, r2⟩ := lcM_run hsub ds (acc ++ ((I d).filter (P d)).map (F d)) s4 hw (by omega) fun d hd => h d (List.mem_cons_of_mem _ hd)
    refine ⟨s', ?_, r2⟩
    unfold lcM
    rw [hs, e1]
    simp only
    rw [show tYesT u = .ok true u from rfl, noX_ok, R.bind_ok, if_pos rfl, e2, noX_ok, R.bind_ok, q1, R.bind_ok, r1, List.flatMap_cons, List.append_assoc]
theorem lc2_of {f f1 : Ws} {g g1 : G} {t1 : T} {e : E} {vs vs1 : List Nat} {I : D → List D} {P : D → D → Bool} {F : D → D → D} {s s1 w fin : Sto} {ds : List D} (hsub : ∀ i ∈ vs1, i ∈ vs) (hf : f s = .ok ds s1) (hw : wipeS s1 vs = w) (hl : (ds.map fun d => (I d).length).sum ≤ LIM)
    (h : ∀ d ∈ ds, ∃ u s3, g d w = some u ∧ f1 u = .ok (I d) s3 ∧ wipeS (wipeS s3 vs1) vs = w ∧ ∀ x ∈ I d, Turn g1 t1 e vs1 (wipeS s3 vs1) x (P d x) (F d x)) (hfin : restS s1 w vs = fin) :
    sLc2 f g tYesT f1 g1 t1 e vs vs1 s = .ok (.own (.lst (ds.flatMap fun d => ((I d).filter (P d)).map (F d)))) fin := by
  obtain ⟨s', e1, e2⟩ := lcM_run (g := g) (g1 := g1) (t1 := t1) (f1 := f1) (e := e) hsub ds [] s1 hw (by simpa using hl) h
  unfold sLc2
  rw [hf, R.bind_ok, e1, R.bind_ok, List.nil_append, restS_wipe, e2, hfin]
end Dv
namespace Dv
open PySem L2
structure Fam (l : List D) : Prop where
  ts : ∀ d ∈ l, D.ts d = true
  dp : ∀ d ∈ l, D.dep d ≤ 140
  al : ∀ d ∈ l, ∀ e ∈ l, PySem.W.alike (toP d) (toP e) = true
theorem ts_non {d : D} (h : D.ts d = true) : nonD d = false := by
  cases d <;> first | rfl | (unfold D.ts at h; cases h)
theorem Fam.lt {l : List D} (F : Fam l) {d e : D} (hd : d ∈ l) (he : e ∈ l) : ltOk d e = true := by
  unfold ltOk
  rw [ts_py d (F.ts d hd), ts_py e (F.ts e he), F.al d hd e he, ts_non (F.ts d hd), ts_non (F.ts e he)]
  have := F.dp d hd
  have h : min (D.dep d) (D.dep e) ≤ DEEP := Nat.le_trans (Nat.min_le_left _ _) (Nat.le_trans this (by decide))
  rw [decide_eq_true h]
  rfl
theorem Fam.ltD {l : List D} (F : Fam l) {d e : D} (hd : d ∈ l) (he : e ∈ l) : ltD d e = some (.val (.bl (ltB d e))) := by
  unfold Dv.ltD; rw [F.lt hd he]; rfl
theorem Fam.leD {l : List D} (F : Fam l) {d e : D} (hd : d ∈ l) (he : e ∈ l) : leD d e = some (.val (.bl (!ltB e d))) := by
  unfold Dv.leD; rw [F.lt hd he]; rfl
def lastD (l : List D) : D := l.getLastD .non
def okNext (bag : List D) (one : D) : Bool := bag.isEmpty || !ltB one (lastD bag)
def bagStep (ch : List D) (rows : List (List D)) : List (List D) := rows.flatMap fun row => (ch.filter (okNext row)).map fun one => row ++ [one]
def bagsN (ch : List D) : Nat → List (List D) × List (List D)
  | 0 => ([[]], [[]])
  | n + 1 => ((bagsN ch n).1 ++ bagStep ch (bagsN ch n).2, bagStep ch (bagsN ch n).2)
theorem bagStep_mem {ch : List D} {rows : List (List D)} {b : List D} (h : b ∈ bagStep ch rows) : ∃ r one, r ∈ rows ∧ one ∈ ch ∧ b = r ++ [one] := by
  unfold bagStep at h
  obtain ⟨r, hr, hb⟩ := List.mem_flatMap.mp h
  obtain ⟨one, ho, rfl⟩ := List.mem_map.mp hb
  exact ⟨r, one, hr, (List.mem_filter.mp ho).1, rfl⟩
theorem bagsN_mem {ch : List D} : ∀ {n : Nat} {b : List D}, (b ∈ (bagsN ch n).1 ∨ b ∈ (bagsN ch n).2) → b.length ≤ n ∧ ∀ d ∈ b, d ∈ ch
  | 0, b, h => by
    have : b = [] := by
      rcases h with h | h
      · exact List.mem_singleton.mp h
      · exact List.mem_singleton.mp h
    subst this
    exact ⟨Nat.le_refl _, fun d hd => (nomatch hd)⟩
  | n + 1, b, h => by
    have step : b ∈ bagStep ch (bagsN ch n).2 → b.length ≤ n + 1 ∧ ∀ d ∈ b, d ∈ ch := fun h => by
      obtain ⟨r, one, hr, ho, rfl⟩ := bagStep_mem h
      obtain ⟨h1, h2⟩ := bagsN_mem (ch := ch) (.inr hr)
      refine ⟨by rw [List.length_append, List.length_singleton]; omega, fun d hd => ?_⟩
      rcases List.mem_append.mp hd with hd | hd
      · exact h2 d hd
      · rw [List.mem_singleton.mp hd]; exact ho
    rcases h with h | h
    · rcases List.mem_append.mp (show b ∈ (bagsN ch n).1 ++ bagStep ch (bagsN ch n).2 from h) with h | h
      · obtain ⟨h1, h2⟩ := bagsN_mem (.inl h)
        exact ⟨by omega, h2⟩
      · exact step h
    · exact step h
theorem lastD_eq {b : List D} (h : b ≠ []) : lastD b = b.getLast h := by
  unfold lastD
  cases b with
  | nil => exact absurd rfl h
  | cons x r => rw [List.getLastD_cons, ← List.getLast_eq_getLastD]
theorem last_mem {b : List D} (h : b ≠ []) : lastD b ∈ b := by rw [lastD_eq h]; exact List.getLast_mem h
theorem at_last {b : List D} (h : b ≠ []) : atD (.tup b) (.int (-1)) = some (.val (lastD b)) := by
  have hp : 0 < b.length := List.length_pos_iff.mpr h
  show (atI b (-1)).map Opd.val = _
  have e : ixN b.length (-1) = some (b.length - 1) := by
    unfold ixN
    rw [if_neg (by omega), if_pos (by omega)]
    congr 1
    omega
  unfold atI
  rw [e, Option.bind_some, List.getElem?_eq_getElem (by omega), lastD_eq h, List.getLast_eq_getElem]
  rfl
end Dv
namespace Pg
open PySem L2 Dv
def unT : Dv.D → List Dv.D
  | .tup l => l
  | _ => []
theorem eq_nil (bag : List Dv.D) (h : D.isPyAll bag = true) : eqD (.tup bag) (.tup []) = some (.val (.bl bag.isEmpty)) := by
  have e : eqOk (.tup bag) (.tup []) = true := by
    unfold eqOk
    rw [show D.isPy (.tup bag) = D.isPyAll bag from rfl, h, show D.isPy (.tup []) = true from rfl]
    have : min (D.dep (.tup bag)) (D.dep (.tup [])) ≤ DEEP := Nat.le_trans (Nat.min_le_right _ _) (by decide)
    rw [decide_eq_true this]; rfl
  unfold eqD
  rw [e, if_pos rfl]
  cases bag <;> rfl
theorem isPyAll_of {l : List Dv.D} (h : ∀ d ∈ l, D.isPy d = true) : D.isPyAll l = true := by
  induction l with
  | nil => rfl
  | cons d l ih =>
    unfold D.isPyAll
    rw [h d List.mem_cons_self, ih fun d hd => h d (List.mem_cons_of_mem _ hd)]; rfl
theorem ext_ok {l m : List Dv.D} (h : l.length + m.length ≤ LIM) : fExtend (.lst l) [.lst m] = some (.lst (l ++ m), .non) := by
  unfold fExtend; simp only; rw [if_pos h]
theorem flat_bags (ch : List Dv.D) (rows : List (List Dv.D)) : ((rows.map Dv.D.tup).flatMap fun d => (ch.filter (okNext (unT d))).map fun x => Dv.D.tup (unT d ++ [x])) = (bagStep ch rows).map Dv.D.tup := by
  unfold bagStep
  induction rows with
  | nil => rfl
  | cons r rows ih =>
    rw [List.map_cons, List.flatMap_cons, List.flatMap_cons, List.map_append, ih, List.map_map]
    rfl
theorem bags_turn (c : Nat → Fn) {ch : List Dv.D} (F : Fam ch) {n : Nat} {found longest : List (List Dv.D)} {s3 u4 : Slot} (h3 : s3 = .own (.lst (longest.map .tup)) ∨ s3 = .val (.lst (longest.map .tup))) (hin : ∀ b ∈ longest, ∀ d ∈ b, d ∈ ch) (hl : found.length + longest.length * ch.length < LIM) (hb : ∀ b ∈ longest, b.length < LIM) :
    bd_bags_up_to_b1 c [.val (.lst ch), .val (.int (n : Nat)), .own (.lst (found.map .tup)), s3, u4, .un, .un]
      = .nxt [.val (.lst ch), .val (.int (n : Nat)), .own (.lst ((found ++ bagStep ch longest).map .tup)), .val (.lst ((bagStep ch longest).map .tup)), u4, .un, .un] := by
  have e : ∀ b ∈ longest, D.isPyAll b = true := fun b hb => isPyAll_of fun d hd => ts_py d (F.ts d (hin b hb d hd))
  have hlen : (bagStep ch longest).length ≤ longest.length * ch.length := by
    unfold bagStep
    clear hin hl hb e h3
    induction longest with
    | nil => exact Nat.zero_le _
    | cons r rows ih =>
      rw [List.flatMap_cons, List.length_append, List.length_map, List.length_cons, Nat.succ_mul]
      have := List.length_filter_le (okNext r) ch
      omega
  have hlast : ∀ b ∈ longest, ∀ x ∈ ch, ∀ (u : Slot) (st : Sto), st = [.val (.lst ch), .val (.int (n : Nat)), .own (.lst (found.map .tup)), .val (.lst (longest.map .tup)), u4, .val (.tup b), .val x] →
      tOr (tB (sOp2 eqD (sVar 5) (sTup aNil))) (tNot (tB (sOp2 ltD (sVar 6) (sOp2 atD (sVar 5) (sOp1 negD (sC (.int 1))))))) st = .ok (okNext b x) st := fun b hb x hx u st hs => by
    subst hs
    have l0 : (0 : Nat) ≤ LIM := LIM_le (by decide)
    have q := eq_nil b (e b hb)
    cases hbe : b with
    | nil =>
      subst hbe
      have q : eqD (.tup []) (.tup []) = some (.val (.bl true)) := rfl
      simp_arith [l0, q]
      rfl
    | cons y z =>
      have hne : b ≠ [] := by rw [hbe]; exact fun z => (nomatch z)
      have q2 := at_last hne
      have q3 := F.ltD hx (hin b hb _ (last_mem hne))
      have q4 : b.isEmpty = false := by rw [hbe]; rfl
      rw [← hbe]
      rw [q4] at q
      have q5 : okNext b x = !ltB x (lastD b) := by unfold okNext; rw [q4]; rfl
      rw [q5]
      simp_arith [l0, q, q2, q3]
  have lc := lc2_of (f := wSeq (sVar 3)) (g := gN 5) (f1 := wSeq (sVar 0)) (g1 := gN 6) (t1 := tOr (tB (sOp2 eqD (sVar 5) (sTup aNil))) (tNot (tB (sOp2 ltD (sVar 6) (sOp2 atD (sVar 5) (sOp1 negD (sC (.int 1)))))))) (e := sOp2 addD (sVar 5) (sTup (aCons (sVar 6) aNil))) (vs := [5, 6]) (vs1 := [6])
    (I := fun _ => ch) (P := fun d => okNext (unT d)) (F := fun d x => .tup (unT d ++ [x])) (s := [.val (.lst ch), .val (.int (n : Nat)), .own (.lst (found.map .tup)), s3, u4, .un, .un]) (s1 := [.val (.lst ch), .val (.int (n : Nat)), .own (.lst (found.map .tup)), .val (.lst (longest.map .tup)), u4, .un, .un]) (w := [.val (.lst ch), .val (.int (n : Nat)), .own (.lst (found.map .tup)), .val (.lst (longest.map .tup)), u4, .un, .un]) (fin := [.val (.lst ch), .val (.int (n : Nat)), .own (.lst (found.map .tup)), .val (.lst (longest.map .tup)), u4, .un, .un]) (ds := longest.map .tup)
    (by decide) (by rcases h3 with rfl | rfl <;> rfl) rfl (by
      rw [List.map_map, show ((fun _ : Dv.D => ch.length) ∘ Dv.D.tup) = fun _ : List Dv.D => ch.length from rfl]
      have : (longest.map fun _ : List Dv.D => ch.length).sum = longest.length * ch.length := by
        clear hin hl hb e hlen hlast h3
        induction longest with
        | nil => simp
        | cons r rows ih => rw [List.map_cons, List.sum_cons, ih, List.length_cons, Nat.succ_mul]; omega
      omega)
    (fun d hd => by
      obtain ⟨b, hb', rfl⟩ := List.mem_map.mp hd
      refine ⟨[.val (.lst ch), .val (.int (n : Nat)), .own (.lst (found.map .tup)), .val (.lst (longest.map .tup)), u4, .val (.tup b), .un], [.val (.lst ch), .val (.int (n : Nat)), .own (.lst (found.map .tup)), .val (.lst (longest.map .tup)), u4, .val (.tup b), .un], rfl, rfl, rfl, fun x hx => ?_⟩
      refine ⟨[.val (.lst ch), .val (.int (n : Nat)), .own (.lst (found.map .tup)), .val (.lst (longest.map .tup)), u4, .val (.tup b), .val x], [.val (.lst ch), .val (.int (n : Nat)), .own (.lst (found.map .tup)), .val (.lst (longest.map .tup)), u4, .val (.tup b), .val x], rfl, hlast b hb' x hx .un _ rfl, fun _ => rfl, fun _ => ⟨.val (.tup (b ++ [x])), [.val (.lst ch), .val (.int (n : Nat)), .own (.lst (found.map .tup)), .val (.lst (longest.map .tup)), u4, .val (.tup b), .val x], [.val (.lst ch), .val (.int (n : Nat)), .own (.lst (found.map .tup)), .val (.lst (longest.map .tup)), u4, .val (.tup b), .val x], ?_, rfl, rfl⟩⟩
      have l1 := lim1
      have a := addD_tup (l := b) (m := [x]) (by have := hb b hb'; rw [List.length_singleton]; omega)
      simp_arith [l1, a]) rfl
  rw [flat_bags] at lc
  have x := ext_ok (l := found.map Dv.D.tup) (m := (bagStep ch longest).map Dv.D.tup) (by rw [List.length_map, List.length_map]; omega)
  rw [← List.map_append] at x
  unfold bd_bags_up_to_b1
  rcases h3 with rfl | rfl
  all_goals simp_arith [lc, x]
end Pg
namespace Pg
open PySem L2 Dv
theorem bags_up_to_ok (c : Nat → Fn) {ch : List Dv.D} (F : Fam ch) (n : Nat) (hn : n < LIM) (hb : ∀ k, k < n → (bagsN ch k).1.length + (bagsN ch k).2.length * ch.length < LIM) :
    PuO (fn_bags_up_to c) [.val (.lst ch), .val (.int (n : Nat))] (.lst ((bagsN ch n).1.map .tup)) := by
  have l0 : (0 : Nat) ≤ LIM := LIM_le (by decide)
  have l1 := lim1
  have t1 : sAsg 2 (sLst (aCons (sTup aNil) aNil)) [.val (.lst ch), .val (.int (n : Nat)), .un, .un, .un, .un, .un] = .nxt [.val (.lst ch), .val (.int (n : Nat)), .own (.lst [.tup []]), .un, .un, .un, .un] := by simp_arith [l0, l1]
  have t2 : sAsg 3 (sLst (aCons (sTup aNil) aNil)) [.val (.lst ch), .val (.int (n : Nat)), .own (.lst [.tup []]), .un, .un, .un, .un] = .nxt [.val (.lst ch), .val (.int (n : Nat)), .own (.lst [.tup []]), .own (.lst [.tup []]), .un, .un, .un] := by simp_arith [l0, l1]
  have r := rng1_nat (n := n) (by omega)
  have hf : wArgs rng1 (aCons (sVar 1) aNil) [.val (.lst ch), .val (.int (n : Nat)), .own (.lst [.tup []]), .own (.lst [.tup []]), .un, .un, .un] = .ok ((List.range n).map fun k => .int (k : Nat)) [.val (.lst ch), .val (.int (n : Nat)), .own (.lst [.tup []]), .own (.lst [.tup []]), .un, .un, .un] := by simp_arith [r]
  obtain ⟨s', e, s3, u4, h3, rfl⟩ := for_list (g := bd_bags_up_to_g1) (b := bd_bags_up_to_b1 c) (fun k s => ∃ s3 u4, (s3 = .own (.lst ((bagsN ch k).2.map .tup)) ∨ s3 = .val (.lst ((bagsN ch k).2.map .tup))) ∧ s = [.val (.lst ch), .val (.int (n : Nat)), .own (.lst ((bagsN ch k).1.map .tup)), s3, u4, .un, .un])
    (ds := (List.range n).map fun k => .int (k : Nat)) (s := [.val (.lst ch), .val (.int (n : Nat)), .own (.lst [.tup []]), .own (.lst [.tup []]), .un, .un, .un]) 0
    (fun i hi s ⟨s3, u4, h3, e⟩ => by
      subst e
      rw [List.length_map, List.length_range] at hi
      rw [Nat.zero_add] at h3 ⊢
      have q := bags_turn c F (n := n) (found := (bagsN ch i).1) (longest := (bagsN ch i).2) (s3 := s3) (u4 := .val (.int (i : Nat))) h3 (fun b hb d hd => (bagsN_mem (.inr hb)).2 d hd) (hb i hi) (fun b hb => by have := (bagsN_mem (.inr hb)).1; omega)
      refine ⟨[.val (.lst ch), .val (.int (n : Nat)), .own (.lst ((bagsN ch i).1.map .tup)), s3, .val (.int (i : Nat)), .un, .un], _, ?_, q, _, _, .inr rfl, rfl⟩
      rw [List.getElem_map, List.getElem_range]
      rfl)
    ⟨_, _, .inl rfl, rfl⟩
  rw [List.length_map, List.length_range, Nat.zero_add] at e
  unfold PuO fn_bags_up_to
  refine run_slot rfl (i := 2) (s := [.val (.lst ch), .val (.int (n : Nat)), .own (.lst ((bagsN ch n).1.map .tup)), s3, u4, .un, .un]) ?_ rfl rfl
  unfold bd_bags_up_to
  exact (seq_nxt t1).trans ((seq_nxt t2).trans ((seq_nxt (for_of hf e)).trans rfl))
end Pg
namespace Pg
open PySem L2 Dv
def shutD : Dv.D := .tup [.str "shut"]
def innD (p : Dv.D) : Dv.D := .tup [.str "in", p]
def headD (row : List Dv.D) : Dv.D := .tup [.str "head", .tup row]
def bagsOf (n : Nat) (plans : List Dv.D) : List Dv.D := (bagsN (sortL plans) n).1.map .tup
structure PR where
  plans : List Dv.D
  pre : List (List Dv.D)
  rows : List (List Dv.D)
def addRows (rows : List (List Dv.D)) (bags : List Dv.D) : List (List Dv.D) := rows.flatMap fun row => bags.map fun bag => row ++ [bag]
def pr (n : Nat) : Tm → PR
  | .nm _ => ⟨[headD []], [[]], [[]]⟩
  | .fn _ b => ⟨shutD :: (pr n b).plans.map innD, [[]], [[]]⟩
  | .ca f a => ⟨((pr n f).pre ++ addRows (pr n f).rows (bagsOf n (pr n a).plans)).map headD, (pr n f).pre ++ addRows (pr n f).rows (bagsOf n (pr n a).plans), addRows (pr n f).rows (bagsOf n (pr n a).plans)⟩
theorem pr_head (n : Nat) {t : Tm} (h : t.isFn = false) : (pr n t).plans = (pr n t).pre.map headD := by
  cases t with
  | nm x => rfl
  | fn x b => cases h
  | ca f a => rfl
def Alk (r s : List Dv.D) : Prop := PySem.W.alikeAll (r.map toP) (s.map toP) = true
theorem addRows_mem {rows : List (List Dv.D)} {bags : List Dv.D} {r : List Dv.D} (h : r ∈ addRows rows bags) : ∃ r0 b, r0 ∈ rows ∧ b ∈ bags ∧ r = r0 ++ [b] := by
  unfold addRows at h
  obtain ⟨r0, h0, h⟩ := List.mem_flatMap.mp h
  obtain ⟨b, hb, rfl⟩ := List.mem_map.mp h
  exact ⟨r0, b, h0, hb, rfl⟩
theorem toP_tup {l : List Dv.D} (h : D.isPyAll l = true) : toP (.tup l) = .tuple (l.map toP) := by
  have e := toPy_isPy (d := .tup l) (by unfold D.isPy; exact h)
  unfold D.toPy at e
  simp only [Option.map_eq_some_iff] at e
  obtain ⟨ps, e1, e2⟩ := e
  rw [← e2]
  congr 1
  clear e2
  induction l generalizing ps with
  | nil => cases e1; rfl
  | cons d l ih =>
    unfold D.isPyAll at h
    rw [Bool.and_eq_true] at h
    unfold D.toPyAll at e1
    split at e1
    · rename_i p r h1 h2
      cases e1
      rw [List.map_cons, toP_of h1, ih h.2 r h2]
    · cases e1
theorem toP_str (x : Str) : toP (.str x) = .str x := rfl
theorem alike_tup {l m : List Dv.D} (hl : D.isPyAll l = true) (hm : D.isPyAll m = true) : PySem.W.alike (toP (.tup l)) (toP (.tup m)) = PySem.W.alikeAll (l.map toP) (m.map toP) := by
  rw [toP_tup hl, toP_tup hm]
  simp [PySem.W.alike]
theorem alike_str (x y : Str) : PySem.W.alike (toP (.str x)) (toP (.str y)) = true := by
  rw [toP_str, toP_str]
  simp [PySem.W.alike]
theorem alk_cons {a b : Dv.D} {l m : List Dv.D} : Alk (a :: l) (b :: m) ↔ PySem.W.alike (toP a) (toP b) = true ∧ Alk l m := by
  unfold Alk
  rw [List.map_cons, List.map_cons, PySem.W.alikeAll, Bool.and_eq_true]
theorem alk_nil_l {m : List Dv.D} : Alk [] m := by unfold Alk; simp [PySem.W.alikeAll]
theorem alk_nil_r {m : List Dv.D} : Alk m [] := by unfold Alk; cases m <;> simp [PySem.W.alikeAll]
theorem alk_app_r : ∀ {r s x : List Dv.D}, Alk r s → r.length ≤ s.length → Alk r (s ++ x)
  | [], s, x, _, _ => alk_nil_l
  | a :: r, [], x, _, h => by simp at h
  | a :: r, b :: s, x, h, hl => by
    obtain ⟨h1, h2⟩ := alk_cons.mp h
    exact alk_cons.mpr ⟨h1, alk_app_r h2 (by simpa using hl)⟩
theorem alk_comm {r s : List Dv.D} (h : Alk r s) : Alk s r := by
  unfold Alk at h ⊢
  rw [PySem.W.alikeAll_comm]; exact h
theorem alk_snoc : ∀ {r s : List Dv.D} {a b : Dv.D}, Alk r s → r.length = s.length → PySem.W.alike (toP a) (toP b) = true → Alk (r ++ [a]) (s ++ [b])
  | [], [], a, b, _, _, h => alk_cons.mpr ⟨h, alk_nil_l⟩
  | x :: r, y :: s, a, b, h, hl, hab => by
    obtain ⟨h1, h2⟩ := alk_cons.mp h
    exact alk_cons.mpr ⟨h1, alk_snoc h2 (by simpa using hl) hab⟩
theorem alk_all {l m : List Dv.D} (h : ∀ a ∈ l, ∀ b ∈ m, PySem.W.alike (toP a) (toP b) = true) : Alk l m := by
  induction l generalizing m with
  | nil => exact alk_nil_l
  | cons a l ih =>
    cases m with
    | nil => exact alk_nil_r
    | cons b m => exact alk_cons.mpr ⟨h a List.mem_cons_self b List.mem_cons_self, ih fun x hx y hy => h x (List.mem_cons_of_mem _ hx) y (List.mem_cons_of_mem _ hy)⟩
end Pg
namespace Pg
open PySem L2 Dv
theorem sortL_mem {l : List Dv.D} {d : Dv.D} : d ∈ sortL l ↔ d ∈ l := (List.mergeSort_perm l _).mem_iff
theorem sortL_len (l : List Dv.D) : (sortL l).length = l.length := (List.mergeSort_perm l _).length_eq
theorem tsAll_cons (d : Dv.D) (l : List Dv.D) : D.tsAll (d :: l) = (D.ts d && D.tsAll l) := by rw [D.tsAll]
theorem ts_tup (l : List Dv.D) : D.ts (.tup l) = D.tsAll l := by rw [D.ts]
theorem depAll_cons (d : Dv.D) (l : List Dv.D) : D.depAll (d :: l) = max (D.dep d) (D.depAll l) := by rw [D.depAll]
theorem dep_tup (l : List Dv.D) : D.dep (.tup l) = D.depAll l + 1 := by rw [D.dep]
theorem tsAll_of {l : List Dv.D} (h : ∀ d ∈ l, D.ts d = true) : D.tsAll l = true := by
  induction l with
  | nil => rfl
  | cons d l ih =>
    rw [tsAll_cons, h d List.mem_cons_self, ih fun d hd => h d (List.mem_cons_of_mem _ hd)]; rfl
theorem tsAll_snoc {l : List Dv.D} {d : Dv.D} (h : D.tsAll l = true) (hd : D.ts d = true) : D.tsAll (l ++ [d]) = true := by
  induction l with
  | nil => rw [List.nil_append, tsAll_cons, hd]; rfl
  | cons a l ih =>
    rw [tsAll_cons, Bool.and_eq_true] at h
    rw [List.cons_append, tsAll_cons, h.1, ih h.2]; rfl
theorem depAll_of {l : List Dv.D} {k : Nat} (h : ∀ d ∈ l, D.dep d ≤ k) : D.depAll l ≤ k := by
  induction l with
  | nil => exact Nat.zero_le _
  | cons d l ih =>
    have h1 := h d List.mem_cons_self
    have h2 := ih fun d hd => h d (List.mem_cons_of_mem _ hd)
    rw [depAll_cons]; omega
theorem depAll_snoc {l : List Dv.D} {d : Dv.D} : D.depAll (l ++ [d]) = max (D.depAll l) (D.dep d) := by
  induction l with
  | nil => rw [List.nil_append, depAll_cons, show D.depAll [] = 0 from rfl]; omega
  | cons a l ih => rw [List.cons_append, depAll_cons, depAll_cons, ih]; omega
theorem alike_of {l m : List Dv.D} (hl : D.tsAll l = true) (hm : D.tsAll m = true) (h : Alk l m) : PySem.W.alike (toP (.tup l)) (toP (.tup m)) = true := by
  rw [alike_tup (ts_pyL l hl) (ts_pyL m hm)]; exact h
theorem ts_head {r : List Dv.D} (h : D.tsAll r = true) : D.ts (headD r) = true := by
  unfold headD
  rw [ts_tup, tsAll_cons, tsAll_cons, ts_tup, h]; rfl
theorem ts_inn {p : Dv.D} (h : D.ts p = true) : D.ts (innD p) = true := by
  unfold innD
  rw [ts_tup, tsAll_cons, tsAll_cons, h]; rfl
theorem dep_head (r : List Dv.D) : D.dep (headD r) = D.depAll r + 2 := by
  unfold headD
  rw [dep_tup, depAll_cons, depAll_cons, dep_tup, show D.dep (.str "head") = 0 from rfl, show D.depAll [] = 0 from rfl]; omega
theorem dep_inn (p : Dv.D) : D.dep (innD p) = D.dep p + 1 := by
  unfold innD
  rw [dep_tup, depAll_cons, depAll_cons, show D.dep (.str "in") = 0 from rfl, show D.depAll [] = 0 from rfl]; omega
structure PrOk (t : Tm) (q : PR) : Prop where
  pts : ∀ d ∈ q.plans, D.ts d = true
  pdp : ∀ d ∈ q.plans, D.dep d ≤ 4 * t.size
  pal : ∀ d ∈ q.plans, ∀ e ∈ q.plans, PySem.W.alike (toP d) (toP e) = true
  pne : ∀ d ∈ q.plans, isNe d = true
  rts : ∀ r ∈ q.pre, D.tsAll r = true
  rdp : ∀ r ∈ q.pre, D.depAll r + 2 ≤ 4 * t.size
  rlen : ∀ r ∈ q.pre, r.length ≤ t.args.length
  rsub : ∀ r ∈ q.rows, r ∈ q.pre
  rfull : ∀ r ∈ q.rows, r.length = t.args.length
  ral : ∀ r ∈ q.pre, ∀ s ∈ q.pre, Alk r s
theorem bagsOf_mem {n : Nat} {plans : List Dv.D} {b : Dv.D} (h : b ∈ bagsOf n plans) : ∃ l, b = .tup l ∧ l.length ≤ n ∧ l ∈ (bagsN (sortL plans) n).1 ∧ ∀ d ∈ l, d ∈ plans := by
  unfold bagsOf at h
  obtain ⟨l, hl, rfl⟩ := List.mem_map.mp h
  obtain ⟨h1, h2⟩ := bagsN_mem (.inl hl)
  exact ⟨l, rfl, h1, hl, fun d hd => sortL_mem.mp (h2 d hd)⟩
theorem alike_head {r s : List Dv.D} (hr : D.tsAll r = true) (hs : D.tsAll s = true) (h : Alk r s) : PySem.W.alike (toP (headD r)) (toP (headD s)) = true := by
  have q : ∀ {x : List Dv.D}, D.tsAll x = true → D.tsAll [.str "head", .tup x] = true := fun hx => by
    have := ts_head hx
    unfold headD at this; rw [ts_tup] at this; exact this
  exact alike_of (q hr) (q hs) (alk_cons.mpr ⟨alike_str _ _, alk_cons.mpr ⟨alike_of hr hs h, alk_nil_l⟩⟩)
theorem prOk (n : Nat) : ∀ t : Tm, PrOk t (pr n t)
  | .nm x => by
    have m : ∀ d ∈ (pr n (.nm x)).plans, d = headD [] := fun d hd => List.mem_singleton.mp hd
    have r : ∀ d ∈ (pr n (.nm x)).pre, d = [] := fun d hd => List.mem_singleton.mp hd
    have r' : ∀ d ∈ (pr n (.nm x)).rows, d = [] := fun d hd => List.mem_singleton.mp hd
    refine ⟨fun d hd => by rw [m d hd]; exact ts_head rfl, fun d hd => by rw [m d hd, dep_head, show (Tm.nm x).size = 1 from rfl]; decide, fun d hd e he => by rw [m d hd, m e he]; exact alike_head rfl rfl alk_nil_l, fun d hd => by rw [m d hd]; rfl, fun d hd => by rw [r d hd]; rfl, fun d hd => by rw [r d hd, show (Tm.nm x).size = 1 from rfl]; decide, fun d hd => by rw [r d hd]; exact Nat.zero_le _, fun d hd => by rw [r' d hd]; exact List.mem_singleton.mpr rfl, fun d hd => by rw [r' d hd]; rfl, fun d hd e he => by rw [r d hd]; exact alk_nil_l⟩
  | .fn x b => by
    have B := prOk n b
    have sz : (Tm.fn x b).size = b.size + 1 := rfl
    have m : ∀ d ∈ (pr n (.fn x b)).plans, d = shutD ∨ ∃ p, p ∈ (pr n b).plans ∧ d = innD p := fun d hd => by
      rcases List.mem_cons.mp (show d ∈ shutD :: (pr n b).plans.map innD from hd) with h | h
      · exact .inl h
      · obtain ⟨p, hp, rfl⟩ := List.mem_map.mp h
        exact .inr ⟨p, hp, rfl⟩
    have r : ∀ d ∈ (pr n (.fn x b)).pre, d = [] := fun d hd => List.mem_singleton.mp hd
    have r' : ∀ d ∈ (pr n (.fn x b)).rows, d = [] := fun d hd => List.mem_singleton.mp hd
    have t1 : D.tsAll [.str "shut"] = true := rfl
    have t2 : ∀ {p : Dv.D}, D.ts p = true → D.tsAll [.str "in", p] = true := fun hp => by
      have := ts_inn hp
      unfold innD at this; rw [ts_tup] at this; exact this
    refine ⟨fun d hd => ?_, fun d hd => ?_, fun d hd e he => ?_, fun d hd => ?_, fun d hd => by rw [r d hd]; rfl, fun d hd => by rw [r d hd, sz, show D.depAll [] = 0 from rfl]; omega, fun d hd => by rw [r d hd]; exact Nat.zero_le _, fun d hd => by rw [r' d hd]; exact List.mem_singleton.mpr rfl, fun d hd => by rw [r' d hd]; rfl, fun d hd e he => by rw [r d hd]; exact alk_nil_l⟩
    · rcases m d hd with rfl | ⟨p, hp, rfl⟩
      · rfl
      · exact ts_inn (B.pts p hp)
    · rcases m d hd with rfl | ⟨p, hp, rfl⟩
      · rw [sz, show D.dep shutD = 1 from rfl]; omega
      · have := B.pdp p hp
        rw [dep_inn, sz]; omega
    · rcases m d hd with rfl | ⟨p, hp, rfl⟩ <;> rcases m e he with rfl | ⟨p', hp', rfl⟩
      · exact alike_of t1 t1 (alk_cons.mpr ⟨alike_str _ _, alk_nil_l⟩)
      · exact alike_of t1 (t2 (B.pts p' hp')) (alk_cons.mpr ⟨alike_str _ _, alk_nil_l⟩)
      · exact alike_of (t2 (B.pts p hp)) t1 (alk_cons.mpr ⟨alike_str _ _, alk_nil_r⟩)
      · exact alike_of (t2 (B.pts p hp)) (t2 (B.pts p' hp')) (alk_cons.mpr ⟨alike_str _ _, alk_cons.mpr ⟨B.pal p hp p' hp', alk_nil_l⟩⟩)
    · rcases m d hd with rfl | ⟨p, hp, rfl⟩ <;> rfl
  | .ca f a => by
    have F := prOk n f
    have A := prOk n a
    have sz : (Tm.ca f a).size = f.size + a.size + 1 := rfl
    have ar : (Tm.ca f a).args.length = f.args.length + 1 := by rw [show (Tm.ca f a).args = f.args ++ [a] from rfl, List.length_append, List.length_singleton]
    have bg : ∀ b ∈ bagsOf n (pr n a).plans, ∃ l, b = .tup l ∧ D.tsAll l = true ∧ D.depAll l ≤ 4 * a.size ∧ ∀ d ∈ l, d ∈ (pr n a).plans := fun b hb => by
      obtain ⟨l, e, _, _, h⟩ := bagsOf_mem hb
      exact ⟨l, e, tsAll_of fun d hd => A.pts d (h d hd), depAll_of fun d hd => A.pdp d (h d hd), h⟩
    have nw : ∀ r ∈ addRows (pr n f).rows (bagsOf n (pr n a).plans), ∃ r0 l, r = r0 ++ [.tup l] ∧ r0 ∈ (pr n f).rows ∧ D.tsAll l = true ∧ D.depAll l ≤ 4 * a.size ∧ ∀ d ∈ l, d ∈ (pr n a).plans := fun r hr => by
      obtain ⟨r0, b, h0, hb, rfl⟩ := addRows_mem hr
      obtain ⟨l, rfl, h1, h2, h3⟩ := bg b hb
      exact ⟨r0, l, rfl, h0, h1, h2, h3⟩
    have pm : ∀ r ∈ (pr n (.ca f a)).pre, r ∈ (pr n f).pre ∨ ∃ r0 l, r = r0 ++ [.tup l] ∧ r0 ∈ (pr n f).rows ∧ D.tsAll l = true ∧ D.depAll l ≤ 4 * a.size ∧ ∀ d ∈ l, d ∈ (pr n a).plans := fun r hr => by
      rcases List.mem_append.mp (show r ∈ (pr n f).pre ++ addRows (pr n f).rows (bagsOf n (pr n a).plans) from hr) with h | h
      · exact .inl h
      · exact .inr (nw r h)
    have rts : ∀ r ∈ (pr n (.ca f a)).pre, D.tsAll r = true := fun r hr => by
      rcases pm r hr with h | ⟨r0, l, rfl, h0, h1, _, _⟩
      · exact F.rts r h
      · exact tsAll_snoc (F.rts r0 (F.rsub r0 h0)) (by rw [ts_tup]; exact h1)
    have rdp : ∀ r ∈ (pr n (.ca f a)).pre, D.depAll r + 2 ≤ 4 * (Tm.ca f a).size := fun r hr => by
      rw [sz]
      rcases pm r hr with h | ⟨r0, l, rfl, h0, _, h2, _⟩
      · have := F.rdp r h
        omega
      · have := F.rdp r0 (F.rsub r0 h0)
        rw [depAll_snoc, show D.dep (.tup l) = D.depAll l + 1 from rfl]
        omega
    have ral : ∀ r ∈ (pr n (.ca f a)).pre, ∀ s ∈ (pr n (.ca f a)).pre, Alk r s := fun r hr s hs => by
      have half : ∀ r ∈ (pr n f).pre, ∀ (s0 l : List Dv.D), s0 ∈ (pr n f).rows → Alk r (s0 ++ [.tup l]) := fun r h s0 l h0 =>
        alk_app_r (F.ral r h s0 (F.rsub s0 h0)) (by rw [F.rfull s0 h0]; exact F.rlen r h)
      rcases pm r hr with h | ⟨r0, l, rfl, h0, h1, _, h3⟩ <;> rcases pm s hs with k | ⟨s0, m, rfl, k0, k1, _, k3⟩
      · exact F.ral r h s k
      · exact half r h s0 m k0
      · exact alk_comm (half s k r0 l h0)
      · exact alk_snoc (F.ral r0 (F.rsub r0 h0) s0 (F.rsub s0 k0)) (by rw [F.rfull r0 h0, F.rfull s0 k0]) (alike_of h1 k1 (alk_all fun d hd e he => A.pal d (h3 d hd) e (k3 e he)))
    have hm : ∀ d ∈ (pr n (.ca f a)).plans, ∃ r, r ∈ (pr n (.ca f a)).pre ∧ d = headD r := fun d hd => by
      obtain ⟨r, hr, rfl⟩ := List.mem_map.mp (show d ∈ (pr n (.ca f a)).pre.map headD from hd)
      exact ⟨r, hr, rfl⟩
    refine ⟨fun d hd => ?_, fun d hd => ?_, fun d hd e he => ?_, fun d hd => ?_, rts, rdp, fun r hr => ?_, fun r hr => ?_, fun r hr => ?_, ral⟩
    · obtain ⟨r, hr, rfl⟩ := hm d hd
      exact ts_head (rts r hr)
    · obtain ⟨r, hr, rfl⟩ := hm d hd
      rw [dep_head]; exact rdp r hr
    · obtain ⟨r, hr, rfl⟩ := hm d hd
      obtain ⟨s, hs, rfl⟩ := hm e he
      exact alike_head (rts r hr) (rts s hs) (ral r hr s hs)
    · obtain ⟨r, hr, rfl⟩ := hm d hd
      rfl
    · rw [ar]
      rcases pm r hr with h | ⟨r0, l, rfl, h0, _⟩
      · have := F.rlen r h
        omega
      · rw [List.length_append, List.length_singleton, F.rfull r0 h0]; exact Nat.le_refl _
    · exact List.mem_append_right _ hr
    · obtain ⟨r0, l, rfl, h0, _⟩ := nw r hr
      rw [List.length_append, List.length_singleton, F.rfull r0 h0, ar]
end Pg
namespace Dv
open PySem L2
theorem lcM_inv {g g1 : G} {t1 : T} {f1 : Ws} {e : E} {vs vs1 : List Nat} {I : D → List D} {P : D → D → Bool} {F : D → D → D} {J : Sto → Prop} (hsub : ∀ i ∈ vs1, i ∈ vs) : ∀ (ds acc : List D) (s : Sto), J (wipeS s vs) → acc.length + (ds.map fun d => (I d).length).sum ≤ LIM →
    (∀ d ∈ ds, ∀ w, J w → ∃ u s3, g d w = some u ∧ f1 u = .ok (I d) s3 ∧ J (wipeS (wipeS s3 vs1) vs) ∧ ∀ x ∈ I d, Turn g1 t1 e vs1 (wipeS s3 vs1) x (P d x) (F d x)) →
    ∃ s', lcM g tYesT f1 (lcL g1 t1 e vs1) vs ds acc s = .ok (acc ++ ds.flatMap fun d => ((I d).filter (P d)).map (F d)) s' ∧ J (wipeS s' vs)
  | [], acc, s, hs, _, _ => ⟨s, by unfold lcM; simp, hs⟩
  | d :: ds, acc, s, hs, hl, h => by
    obtain ⟨u, s3, e1, e2, e3, e4⟩ := h d List.mem_cons_self _ hs
    rw [List.map_cons, List.sum_cons] at hl
    obtain ⟨s4, q1, q2⟩ := lc_run (g := g1) (t := t1) (e := e) (vs := vs1) (P := P d) (F := F d) (w := wipeS s3 vs1) (I d) acc s3 rfl (by omega) e4
    have hw : J (wipeS s4 vs) := by rw [← wipeS_sub hsub, q2]; exact e3
    have hlen : (acc ++ ((I d).filter (P d)).map (F d)).length ≤ acc.length + (I d).length := by
      rw [List.length_append, List.length_map]
      have := List.length_filter_le (P d) (I d)
      omega
    obtain ⟨s', r1, r2⟩ := lcM_inv hsub ds (acc ++ ((I d).filter (P d)).map (F d)) s4 hw (by omega) fun d hd => h d (List.mem_cons_of_mem _ hd)
    refine ⟨s', ?_, r2⟩
    unfold lcM
    rw [e1]
    simp only
    rw [show tYesT u = .ok true u from rfl, noX_ok, R.bind_ok, if_pos rfl, e2, noX_ok, R.bind_ok, q1, R.bind_ok, r1, List.flatMap_cons, List.append_assoc]
theorem lc2_inv {f f1 : Ws} {g g1 : G} {t1 : T} {e : E} {vs vs1 : List Nat} {I : D → List D} {P : D → D → Bool} {F : D → D → D} {s s1 : Sto} {J : Sto → Prop} {ds : List D} (hsub : ∀ i ∈ vs1, i ∈ vs) (hf : f s = .ok ds s1) (hw : J (wipeS s1 vs)) (hl : (ds.map fun d => (I d).length).sum ≤ LIM)
    (h : ∀ d ∈ ds, ∀ w, J w → ∃ u s3, g d w = some u ∧ f1 u = .ok (I d) s3 ∧ J (wipeS (wipeS s3 vs1) vs) ∧ ∀ x ∈ I d, Turn g1 t1 e vs1 (wipeS s3 vs1) x (P d x) (F d x)) :
    ∃ w, J w ∧ sLc2 f g tYesT f1 g1 t1 e vs vs1 s = .ok (.own (.lst (ds.flatMap fun d => ((I d).filter (P d)).map (F d)))) (restS s1 w vs) := by
  obtain ⟨s', e1, e2⟩ := lcM_inv (g := g) (g1 := g1) (t1 := t1) (f1 := f1) (e := e) hsub ds [] s1 hw (by simpa using hl) h
  refine ⟨_, e2, ?_⟩
  unfold sLc2
  rw [hf, R.bind_ok, e1, R.bind_ok, List.nil_append, restS_wipe]
theorem sort_ok {l : List D} (h1 : ∀ d ∈ l, D.ts d = true) (h2 : ∀ d ∈ l, D.dep d ≤ 140) (h3 : ∀ d ∈ l, ∀ e ∈ l, PySem.W.alike (toP d) (toP e) = true) (h4 : ∀ d ∈ l, isNe d = true) (h5 : l.length ≤ LIM) : sortD [.lst l] = some (.own (.lst (sortL l))) := by
  have e : sortOk l = true := by
    unfold sortOk
    rw [Bool.and_eq_true, Bool.and_eq_true, Bool.and_eq_true, Bool.and_eq_true]
    refine ⟨⟨⟨⟨Pg.isPyAll_of fun d hd => ts_py d (h1 d hd), decide_eq_true ?_⟩, ?_⟩, ?_⟩, decide_eq_true h5⟩
    · have : ∀ {l : List D}, (∀ d ∈ l, D.dep d ≤ 140) → D.depAll l ≤ 140 := fun h => Pg.depAll_of h
      exact Nat.le_trans (this h2) (by decide)
    · rw [List.all_eq_true]
      intro d hd
      rw [List.all_eq_true]
      exact fun e he => h3 d hd e he
    · rw [Bool.or_eq_true]
      exact .inl (List.all_eq_true.mpr h4)
  unfold sortD
  simp only
  rw [e, if_pos rfl]
end Dv
namespace Pg
open PySem L2 Dv
def bnd : Nat → Nat
  | 0 => 0
  | 1 => 1
  | 2 => 2
  | 3 => 4
  | 4 => 8
  | _ => 22
theorem bagStep_len (ch : List Dv.D) : ∀ rows : List (List Dv.D), (bagStep ch rows).length ≤ rows.length * ch.length
  | [] => Nat.zero_le _
  | r :: rows => by
    have ih := bagStep_len ch rows
    unfold bagStep at ih ⊢
    rw [List.flatMap_cons, List.length_append, List.length_map, List.length_cons, Nat.succ_mul]
    have := List.length_filter_le (okNext r) ch
    omega
theorem bags_lens {ch : List Dv.D} {m : Nat} (h : ch.length ≤ m) : ∀ n : Nat, n ≤ 2 → (bagsN ch n).1.length ≤ 1 + m + m * m ∧ (∀ k, k < n → (bagsN ch k).1.length + (bagsN ch k).2.length * ch.length ≤ 1 + m + m * m)
  | 0, _ => ⟨by show 1 ≤ _; omega, fun k hk => by omega⟩
  | 1, _ => by
    have h1 : (bagStep ch [[]]).length ≤ 1 * ch.length := bagStep_len ch [[]]
    refine ⟨?_, fun k hk => ?_⟩
    · show ([[]] ++ bagStep ch [[]]).length ≤ _
      rw [List.length_append, List.length_singleton]; omega
    · rw [show k = 0 by omega]
      show 1 + 1 * ch.length ≤ _
      omega
  | 2, _ => by
    have h1 : (bagStep ch [[]]).length ≤ 1 * ch.length := bagStep_len ch [[]]
    have h2 := bagStep_len ch (bagStep ch [[]])
    have h3 : (bagStep ch [[]]).length * ch.length ≤ m * m := Nat.mul_le_mul (by omega) h
    refine ⟨?_, fun k hk => ?_⟩
    · show ([[]] ++ bagStep ch [[]] ++ bagStep ch (bagStep ch [[]])).length ≤ _
      rw [List.length_append, List.length_append, List.length_singleton]; omega
    · rcases (show k = 0 ∨ k = 1 by omega) with rfl | rfl
      · show 1 + 1 * ch.length ≤ _
        omega
      · show ([[]] ++ bagStep ch [[]]).length + (bagStep ch [[]]).length * ch.length ≤ _
        rw [List.length_append, List.length_singleton]; omega
theorem bagsOf_len {plans : List Dv.D} {m n : Nat} (h : plans.length ≤ m) (hn : n ≤ 2) : (bagsOf n plans).length ≤ 1 + m + m * m := by
  unfold bagsOf
  rw [List.length_map]
  exact (bags_lens (by rw [sortL_len]; exact h) n hn).1
theorem addRows_len (bags : List Dv.D) : ∀ rows : List (List Dv.D), (addRows rows bags).length = rows.length * bags.length
  | [] => by simp [addRows]
  | r :: rows => by
    have ih := addRows_len bags rows
    unfold addRows at ih ⊢
    rw [List.flatMap_cons, List.length_append, List.length_map, ih, List.length_cons, Nat.succ_mul]; omega
theorem pr_len {n : Nat} (hn : n ≤ 2) : ∀ t : Tm, t.size ≤ 5 → (pr n t).plans.length ≤ bnd t.size ∧ (pr n t).pre.length ≤ bnd t.size ∧ (pr n t).rows.length ≤ bnd t.size
  | .nm x, _ => ⟨Nat.le_refl _, Nat.le_refl _, Nat.le_refl _⟩
  | .fn x b, h => by
    have sz : (Tm.fn x b).size = b.size + 1 := rfl
    have hp := b.size_pos
    obtain ⟨b1, _, _⟩ := pr_len hn b (by omega)
    have e1 : (pr n (.fn x b)).plans.length = (pr n b).plans.length + 1 := by
      show (shutD :: (pr n b).plans.map innD).length = _
      rw [List.length_cons, List.length_map]
    have e2 : (pr n (.fn x b)).pre.length = 1 := rfl
    have e3 : (pr n (.fn x b)).rows.length = 1 := rfl
    rw [e1, e2, e3, sz]
    rcases (show b.size = 1 ∨ b.size = 2 ∨ b.size = 3 ∨ b.size = 4 by omega) with z | z | z | z <;> rw [z] at b1 ⊢ <;> simp only [bnd] at b1 ⊢ <;> omega
  | .ca f a, h => by
    have sz : (Tm.ca f a).size = f.size + a.size + 1 := rfl
    have hf := f.size_pos
    have ha := a.size_pos
    obtain ⟨_, f2, f3⟩ := pr_len hn f (by omega)
    obtain ⟨a1, _, _⟩ := pr_len hn a (by omega)
    have e1 : (pr n (.ca f a)).plans.length = (pr n (.ca f a)).pre.length := by
      show ((pr n (.ca f a)).pre.map headD).length = _
      rw [List.length_map]
    have e2 : (pr n (.ca f a)).pre.length = (pr n f).pre.length + (pr n (.ca f a)).rows.length := by
      show ((pr n f).pre ++ (pr n (.ca f a)).rows).length = _
      rw [List.length_append]
    have e3 : (pr n (.ca f a)).rows.length = (pr n f).rows.length * (bagsOf n (pr n a).plans).length := addRows_len _ _
    have e4 := bagsOf_len a1 hn
    have e5 := Nat.mul_le_mul f3 e4
    rw [e1, e2, e3, sz]
    generalize (pr n f).rows.length * (bagsOf n (pr n a).plans).length = z at *
    generalize (pr n f).pre.length = y at *
    rcases (show (f.size = 1 ∧ a.size = 1) ∨ (f.size = 1 ∧ a.size = 2) ∨ (f.size = 1 ∧ a.size = 3) ∨ (f.size = 2 ∧ a.size = 1) ∨ (f.size = 2 ∧ a.size = 2) ∨ (f.size = 3 ∧ a.size = 1) by omega) with ⟨p, q⟩ | ⟨p, q⟩ | ⟨p, q⟩ | ⟨p, q⟩ | ⟨p, q⟩ | ⟨p, q⟩ <;> rw [p] at e5 f2 ⊢ <;> rw [q] at e5 ⊢ <;> simp only [bnd] at e5 f2 ⊢ <;> omega
theorem bnd_le : ∀ k : Nat, bnd k ≤ 22
  | 0 => by decide
  | 1 => by decide
  | 2 => by decide
  | 3 => by decide
  | 4 => by decide
  | _ + 5 => Nat.le_refl _
theorem prFam {n : Nat} {t : Tm} (h : t.size ≤ 5) : Fam (sortL (pr n t).plans) := by
  have P := prOk n t
  exact ⟨fun d hd => P.pts d (sortL_mem.mp hd), fun d hd => by have := P.pdp d (sortL_mem.mp hd); omega, fun d hd e he => P.pal d (sortL_mem.mp hd) e (sortL_mem.mp he)⟩
theorem pr_sort {n : Nat} (hn : n ≤ 2) {t : Tm} (h : t.size ≤ 5) : sortD [.lst (pr n t).plans] = some (.own (.lst (sortL (pr n t).plans))) := by
  have P := prOk n t
  have := (pr_len hn t h).1
  have := bnd_le t.size
  exact sort_ok P.pts (fun d hd => by have := P.pdp d hd; omega) P.pal P.pne (Nat.le_trans (by omega) (LIM_le (n := 22) (by decide)))
theorem lt_shut {p : Dv.D} (h : D.ts p = true) : ltB shutD (innD p) = false := by
  unfold ltB shutD innD
  have t2 : D.tsAll [.str "in", p] = true := by
    have := ts_inn h
    unfold innD at this; rw [ts_tup] at this; exact this
  rw [toP_tup (ts_pyL [.str "shut"] rfl), toP_tup (ts_pyL _ t2), PySem.W.dataLt_tuple, List.map_cons, List.map_cons, toP_str, toP_str, PySem.W.dataLt_all_no (by simp [PySem.W.alike]) (by simp [PyData.eqv]; decide), PySem.W.dataLt_str]
  decide
theorem fn_sort {l : List Dv.D} (h1 : ∀ d ∈ l, D.ts d = true) (h2 : ∀ d ∈ shutD :: l.map innD, ∀ e ∈ shutD :: l.map innD, PySem.W.alike (toP d) (toP e) = true) : sortL ((sortL l).map innD) ++ [shutD] = sortL (shutD :: l.map innD) := by
  have hts : ∀ d ∈ shutD :: l.map innD, D.ts d = true := fun d hd => by
    rcases List.mem_cons.mp hd with rfl | hd
    · rfl
    · obtain ⟨p, hp, rfl⟩ := List.mem_map.mp hd
      exact ts_inn (h1 p hp)
  have p0 : (sortL ((sortL l).map innD)).Perm (l.map innD) := (List.mergeSort_perm _ _).trans ((List.mergeSort_perm l _).map innD)
  have p1 : (sortL ((sortL l).map innD) ++ [shutD]).Perm (sortL (shutD :: l.map innD)) :=
    (p0.append_right [shutD]).trans ((List.perm_append_singleton shutD (l.map innD)).trans (List.mergeSort_perm _ _).symm)
  refine List.Perm.eq_of_pairwise (le := fun a b => leB a b = true) (fun a b ha hb q1 q2 => ?_) ?_ (PySem.W.sort_pairwise le_total _) p1
  · have mb := (List.mergeSort_perm _ _).mem_iff.mp hb
    have ma := (List.mergeSort_perm _ _).mem_iff.mp (p1.mem_iff.mp ha)
    exact le_antisymm (hts a ma) (hts b mb) (h2 a ma b mb) q1 q2
  · rw [List.pairwise_append]
    refine ⟨PySem.W.sort_pairwise le_total _, List.pairwise_singleton _ _, fun a ha b hb => ?_⟩
    rw [List.mem_singleton.mp hb]
    obtain ⟨p, hp, rfl⟩ := List.mem_map.mp (p0.mem_iff.mp ha)
    show leB (innD p) shutD = true
    rw [leB_ltB, lt_shut (h1 p hp)]; rfl
end Pg
namespace Pg
open PySem L2 Dv
theorem flat_rows (rows : List (List Dv.D)) (bags : List Dv.D) : ((rows.map Dv.D.tup).flatMap fun d => (bags.filter fun _ => true).map fun x => Dv.D.tup (unT d ++ [x])) = (addRows rows bags).map Dv.D.tup := by
  unfold addRows
  rw [List.filter_eq_self.mpr (fun _ _ => rfl)]
  induction rows with
  | nil => rfl
  | cons r rows ih =>
    rw [List.map_cons, List.flatMap_cons, List.flatMap_cons, List.map_append, ih, List.map_map]
    rfl
theorem sum_const (k : Nat) : ∀ l : List Dv.D, (l.map fun _ => k).sum = l.length * k
  | [] => by simp
  | d :: l => by rw [List.map_cons, List.sum_cons, sum_const k l, List.length_cons, Nat.succ_mul]; omega
theorem pin_step (c : Nat → Fn) {n : Nat} {v0 u5 s2 : Slot} {a : Dv.D} {ch found bags : List Dv.D} {rows : List (List Dv.D)}
    (hp : PuO (c f_plans_in) [.val a, .val (.int (n : Nat))] (.lst ch)) (hb : PuO (c f_bags_up_to) [.val (.lst ch), .val (.int (n : Nat))] (.lst bags))
    (h2 : s2 = .own (.lst (rows.map .tup)) ∨ s2 = .val (.lst (rows.map .tup))) (hl : found.length + rows.length * bags.length < LIM) (hr : ∀ r ∈ rows, r.length < LIM) :
    ∃ u5', bd_plans_in_b1 c [v0, .val (.int (n : Nat)), s2, .own (.lst found), .val a, u5, .un, .un]
      = .nxt [v0, .val (.int (n : Nat)), .val (.lst ((addRows rows bags).map .tup)), .own (.lst (found ++ (addRows rows bags).map headD)), .val a, u5', .un, .un] := by
  have hp : c f_plans_in [.val a, .val (.int (n : Nat))] = .ret (.own (.lst ch)) [.val a, .val (.int (n : Nat))] := hp
  have hb : c f_bags_up_to [.val (.lst ch), .val (.int (n : Nat))] = .ret (.own (.lst bags)) [.val (.lst ch), .val (.int (n : Nat))] := hb
  have l1 := lim1
  have l2 : (2 : Nat) ≤ LIM := LIM_le (by decide)
  have t1 : sAsg 5 (sCall (c 463) [true, true] (aCons (sCall (c 464) [true, true] (aCons (sVar 4) (aCons (sVar 1) aNil))) (aCons (sVar 1) aNil))) [v0, .val (.int (n : Nat)), s2, .own (.lst found), .val a, u5, .un, .un]
      = .nxt [v0, .val (.int (n : Nat)), s2, .own (.lst found), .val a, .own (.lst bags), .un, .un] := by
    rcases h2 with rfl | rfl
    all_goals simp_arith [hp, hb]
  obtain ⟨w, ⟨s5, h5, rfl⟩, lc⟩ := lc2_inv (f := wSeq (sVar 2)) (g := gN 6) (f1 := wSeq (sVar 5)) (g1 := gN 7) (t1 := tYesT) (e := sOp2 addD (sVar 6) (sTup (aCons (sVar 7) aNil))) (vs := [6, 7]) (vs1 := [7])
    (I := fun _ => bags) (P := fun _ _ => true) (F := fun d x => .tup (unT d ++ [x])) (s := [v0, .val (.int (n : Nat)), s2, .own (.lst found), .val a, .own (.lst bags), .un, .un]) (s1 := [v0, .val (.int (n : Nat)), .val (.lst (rows.map .tup)), .own (.lst found), .val a, .own (.lst bags), .un, .un])
    (J := fun w => ∃ s5, (s5 = .own (.lst bags) ∨ s5 = .val (.lst bags)) ∧ w = [v0, .val (.int (n : Nat)), .val (.lst (rows.map .tup)), .own (.lst found), .val a, s5, .un, .un]) (ds := rows.map .tup)
    (by decide) (by rcases h2 with rfl | rfl <;> rfl) ⟨_, .inl rfl, rfl⟩ (by rw [sum_const, List.length_map]; omega)
    (fun d hd w ⟨s5, h5, e⟩ => by
      subst e
      obtain ⟨b, hb', rfl⟩ := List.mem_map.mp hd
      refine ⟨[v0, .val (.int (n : Nat)), .val (.lst (rows.map .tup)), .own (.lst found), .val a, s5, .val (.tup b), .un], [v0, .val (.int (n : Nat)), .val (.lst (rows.map .tup)), .own (.lst found), .val a, .val (.lst bags), .val (.tup b), .un], rfl, by rcases h5 with rfl | rfl <;> rfl, ⟨_, .inr rfl, rfl⟩, fun x hx => ?_⟩
      refine ⟨[v0, .val (.int (n : Nat)), .val (.lst (rows.map .tup)), .own (.lst found), .val a, .val (.lst bags), .val (.tup b), .val x], [v0, .val (.int (n : Nat)), .val (.lst (rows.map .tup)), .own (.lst found), .val a, .val (.lst bags), .val (.tup b), .val x], rfl, rfl, fun _ => rfl, fun _ => ⟨.val (.tup (b ++ [x])), [v0, .val (.int (n : Nat)), .val (.lst (rows.map .tup)), .own (.lst found), .val a, .val (.lst bags), .val (.tup b), .val x], [v0, .val (.int (n : Nat)), .val (.lst (rows.map .tup)), .own (.lst found), .val a, .val (.lst bags), .val (.tup b), .val x], ?_, rfl, rfl⟩⟩
      have ad := addD_tup (l := b) (m := [x]) (by have := hr b hb'; rw [List.length_singleton]; omega)
      simp_arith [l1, ad])
  rw [flat_rows] at lc
  have hlen := addRows_len bags rows
  have t2 : sAsg 2 (sLc2 (wSeq (sVar 2)) (gN 6) tYesT (wSeq (sVar 5)) (gN 7) tYesT (sOp2 addD (sVar 6) (sTup (aCons (sVar 7) aNil))) [6, 7] [7]) [v0, .val (.int (n : Nat)), s2, .own (.lst found), .val a, .own (.lst bags), .un, .un]
      = .nxt [v0, .val (.int (n : Nat)), .own (.lst ((addRows rows bags).map .tup)), .own (.lst found), .val a, s5, .un, .un] := by
    have lc : sLc2 (wSeq (sVar 2)) (gN 6) tYesT (wSeq (sVar 5)) (gN 7) tYesT (sOp2 addD (sVar 6) (sTup (aCons (sVar 7) aNil))) [6, 7] [7] [v0, .val (.int (n : Nat)), s2, .own (.lst found), .val a, .own (.lst bags), .un, .un] = .ok (.own (.lst ((addRows rows bags).map .tup))) [v0, .val (.int (n : Nat)), .val (.lst (rows.map .tup)), .own (.lst found), .val a, s5, .un, .un] := lc
    simp_arith [lc]
  have lc3 := lc_of (f := wSeq (sVar 2)) (g := gN 6) (t := tYesT) (e := sTup (aCons (sC (.str "head")) (aCons (sVar 6) aNil))) (vs := [6]) (P := fun _ => true) (F := fun d => headD (unT d))
    (s := [v0, .val (.int (n : Nat)), .own (.lst ((addRows rows bags).map .tup)), .own (.lst found), .val a, s5, .un, .un]) (s1 := [v0, .val (.int (n : Nat)), .val (.lst ((addRows rows bags).map .tup)), .own (.lst found), .val a, s5, .un, .un]) (w := [v0, .val (.int (n : Nat)), .val (.lst ((addRows rows bags).map .tup)), .own (.lst found), .val a, s5, .un, .un]) (fin := [v0, .val (.int (n : Nat)), .val (.lst ((addRows rows bags).map .tup)), .own (.lst found), .val a, s5, .un, .un]) (ds := (addRows rows bags).map .tup)
    rfl rfl (by rw [List.length_map]; omega)
    (fun d hd => by
      obtain ⟨b, hb', rfl⟩ := List.mem_map.mp hd
      refine ⟨[v0, .val (.int (n : Nat)), .val (.lst ((addRows rows bags).map .tup)), .own (.lst found), .val a, s5, .val (.tup b), .un], [v0, .val (.int (n : Nat)), .val (.lst ((addRows rows bags).map .tup)), .own (.lst found), .val a, s5, .val (.tup b), .un], rfl, rfl, fun _ => rfl, fun _ => ⟨.val (headD b), [v0, .val (.int (n : Nat)), .val (.lst ((addRows rows bags).map .tup)), .own (.lst found), .val a, s5, .val (.tup b), .un], [v0, .val (.int (n : Nat)), .val (.lst ((addRows rows bags).map .tup)), .own (.lst found), .val a, s5, .val (.tup b), .un], ?_, rfl, rfl⟩⟩
      unfold headD
      simp_arith [l2]) rfl
  rw [List.filter_eq_self.mpr (fun _ _ => rfl), List.map_map, show ((fun d => headD (unT d)) ∘ Dv.D.tup) = headD from rfl] at lc3
  have x := ext_ok (l := found) (m := (addRows rows bags).map headD) (by rw [List.length_map]; omega)
  refine ⟨s5, ?_⟩
  unfold bd_plans_in_b1
  refine (seq_nxt t1).trans ((seq_nxt t2).trans ?_)
  simp_arith [lc3, x]
theorem row_lens {n : Nat} {t : Tm} (h : t.size ≤ 5) : ∀ r ∈ (pr n t).pre, r.length < LIM := fun r hr => by
  have h1 := (prOk n t).rlen r hr
  have h2 := args_len t
  have h3 : (5 : Nat) ≤ LIM := LIM_le (by decide)
  omega
theorem pr_lim {n : Nat} (hn : n ≤ 2) {f a : Tm} (h : (Tm.ca f a).size ≤ 5) : (pr n f).pre.length + (pr n f).rows.length * (bagsOf n (pr n a).plans).length < LIM := by
  have e2 : (pr n (.ca f a)).pre.length = (pr n f).pre.length + (pr n (.ca f a)).rows.length := by
    show ((pr n f).pre ++ (pr n (.ca f a)).rows).length = _
    rw [List.length_append]
  have e3 : (pr n (.ca f a)).rows.length = (pr n f).rows.length * (bagsOf n (pr n a).plans).length := addRows_len _ _
  have h1 := (pr_len hn _ h).2.1
  have h2 := bnd_le (Tm.ca f a).size
  have h3 : (23 : Nat) ≤ LIM := LIM_le (by decide)
  rw [← e3, ← e2]; omega
def BagsOk (F : Fn) (n : Nat) : Prop := ∀ t : Tm, t.size ≤ 5 → PuO F [.val (.lst (sortL (pr n t).plans)), .val (.int (n : Nat))] (.lst (bagsOf n (pr n t).plans))
theorem bagsOk (c : Nat → Fn) {n : Nat} (hn : n ≤ 2) : BagsOk (fn_bags_up_to c) n := fun t h => by
  have h1 := (pr_len hn t h).1
  have h2 := bnd_le t.size
  have h3 : (sortL (pr n t).plans).length ≤ 22 := by rw [sortL_len]; omega
  have h4 : (600 : Nat) ≤ LIM := LIM_le (by decide)
  exact bags_up_to_ok c (prFam h) n (by omega) fun k hk => by
    have := (bags_lens h3 n hn).2 k hk
    omega
theorem pin_loop (c : Nat → Fn) {n : Nat} (hn : n ≤ 2) (hb : BagsOk (c f_bags_up_to) n) (v0 : Slot) : ∀ t : Tm, t.size ≤ 5 → (∀ a ∈ t.args, PuO (c f_plans_in) [.val a.D, .val (.int (n : Nat))] (.lst (sortL (pr n a).plans))) →
    ∃ s2 u4 u5, (s2 = .own (.lst ((pr n t).rows.map .tup)) ∨ s2 = .val (.lst ((pr n t).rows.map .tup))) ∧ ∀ m, forL bd_plans_in_g1 (bd_plans_in_b1 c) (t.args.map Tm.D ++ m) [v0, .val (.int (n : Nat)), .own (.lst [.tup []]), .own (.lst [headD []]), .un, .un, .un, .un]
      = forL bd_plans_in_g1 (bd_plans_in_b1 c) m [v0, .val (.int (n : Nat)), s2, .own (.lst ((pr n t).pre.map headD)), u4, u5, .un, .un]
  | .nm x, _, _ => ⟨_, .un, .un, .inl rfl, fun _ => rfl⟩
  | .fn x b, _, _ => ⟨_, .un, .un, .inl rfl, fun _ => rfl⟩
  | .ca f a, h, hp => by
    have sz : (Tm.ca f a).size = f.size + a.size + 1 := rfl
    have ar : (Tm.ca f a).args = f.args ++ [a] := rfl
    obtain ⟨s2, u4, u5, h2, e⟩ := pin_loop c hn hb v0 f (by omega) (fun x hx => hp x (by rw [ar]; exact List.mem_append_left _ hx))
    have P := prOk n f
    obtain ⟨u5', q⟩ := pin_step c (v0 := v0) (u5 := u5) (found := (pr n f).pre.map headD) (rows := (pr n f).rows) (hp a (by rw [ar]; exact List.mem_append_right _ (List.mem_singleton.mpr rfl))) (hb a (by omega)) h2 (by rw [List.length_map]; exact pr_lim hn h) (fun r hr => row_lens (by omega) r (P.rsub r hr))
    refine ⟨_, .val a.D, u5', .inr rfl, fun m => ?_⟩
    rw [ar, List.map_append, List.append_assoc, e]
    refine (forL_cons (s1 := [v0, .val (.int (n : Nat)), s2, .own (.lst ((pr n f).pre.map headD)), .val a.D, u5, .un, .un]) rfl q).trans ?_
    rw [← List.map_append]
    rfl
theorem args_in : ∀ (t a : Tm), a ∈ t.args → a.size < t.size ∧ ∀ x ∈ a.names, x ∈ t.names
  | .nm _, a, h => nomatch h
  | .fn _ _, a, h => nomatch h
  | .ca f b, a, h => by
    have sz : (Tm.ca f b).size = f.size + b.size + 1 := rfl
    rw [show (Tm.ca f b).args = f.args ++ [b] from rfl] at h
    rcases List.mem_append.mp h with h | h
    · obtain ⟨h1, h2⟩ := args_in f a h
      exact ⟨by omega, fun x hx => List.mem_append_left _ (h2 x hx)⟩
    · rw [List.mem_singleton.mp h]
      exact ⟨by omega, fun x hx => List.mem_append_right _ hx⟩
theorem tag_fn {t : Tm} (h : t.isFn = false) : ∃ g r, t.D = .tup (.str g :: r) ∧ ((g : Str) == ("fn" : Str)) = false := by
  cases t with
  | nm x => exact ⟨_, _, rfl, by decide⟩
  | fn x b => cases h
  | ca f a => exact ⟨_, _, rfl, by decide⟩
theorem plans_in_ok (c : Nat → Fn) {n : Nat} (hn : n ≤ 2) (hb : BagsOk (c f_bags_up_to) n) (t : Tm) (h : t.size ≤ 5) (hs : Pu (c f_spine) [.val t.D] (.tup [t.head.D, .tup (t.args.map Tm.D)]))
    (hp : ∀ a : Tm, a.size < t.size → (∀ x ∈ a.names, x ∈ t.names) → PuO (c f_plans_in) [.val a.D, .val (.int (n : Nat))] (.lst (sortL (pr n a).plans))) : PuO (fn_plans_in c) [.val t.D, .val (.int (n : Nat))] (.lst (sortL (pr n t).plans)) := by
  have hs : c f_spine [.val t.D] = .ret (.val (.tup [t.head.D, .tup (t.args.map Tm.D)])) [.val t.D] := hs
  have l0 : (0 : Nat) ≤ LIM := LIM_le (by decide)
  have l1 := lim1
  have l2 : (2 : Nat) ≤ LIM := LIM_le (by decide)
  have P := prOk n t
  have N := (pr_len hn t h).1
  have B := bnd_le t.size
  have L : (30 : Nat) ≤ LIM := LIM_le (by decide)
  by_cases hf : t.isFn = false
  · obtain ⟨s2, u4, u5, h2, e⟩ := pin_loop c hn hb (.val t.D) t h fun a ha => hp a (args_in t a ha).1 (args_in t a ha).2
    have e := e []
    rw [List.append_nil, ← pr_head n hf] at e
    obtain ⟨g, r, td, hg⟩ := tag_fn hf
    have t0 : sIfS (tB (sOp2 eqD (sOp2 atD (sVar 0) (sC (.int 0))) (sC (.str "fn")))) (sRet (sOp2 addD (sCB sortD (aCons (sLc (wSeq (sCall (c 464) [true, true] (aCons (sOp2 atD (sVar 0) (sC (.int 2))) (aCons (sVar 1) aNil)))) (gN 4) tYesT (sTup (aCons (sC (.str "in")) (aCons (sVar 4) aNil))) [4]) aNil)) (sLst (aCons (sTup (aCons (sC (.str "shut")) aNil)) aNil)))) sSkip [.val t.D, .val (.int (n : Nat)), .un, .un, .un, .un, .un, .un] = .nxt [.val t.D, .val (.int (n : Nat)), .un, .un, .un, .un, .un, .un] := by
      rw [td]
      simp_arith [hg]
    have t1 : sAsg 2 (sLst (aCons (sTup aNil) aNil)) [.val t.D, .val (.int (n : Nat)), .un, .un, .un, .un, .un, .un] = .nxt [.val t.D, .val (.int (n : Nat)), .own (.lst [.tup []]), .un, .un, .un, .un, .un] := by simp_arith [l0, l1]
    have t2 : sAsg 3 (sLst (aCons (sTup (aCons (sC (.str "head")) (aCons (sTup aNil) aNil))) aNil)) [.val t.D, .val (.int (n : Nat)), .own (.lst [.tup []]), .un, .un, .un, .un, .un] = .nxt [.val t.D, .val (.int (n : Nat)), .own (.lst [.tup []]), .own (.lst [headD []]), .un, .un, .un, .un] := by
      unfold headD
      simp_arith [l0, l1, l2]
    have t3 : wSeq (sOp2 atD (sCall (c 34) [true] (aCons (sVar 0) aNil)) (sC (.int 1))) [.val t.D, .val (.int (n : Nat)), .own (.lst [.tup []]), .own (.lst [headD []]), .un, .un, .un, .un] = .ok (t.args.map Tm.D) [.val t.D, .val (.int (n : Nat)), .own (.lst [.tup []]), .own (.lst [headD []]), .un, .un, .un, .un] := by
      simp_arith [hs]
    have so := pr_sort hn h
    unfold PuO fn_plans_in
    refine run_own rfl (s := [.val t.D, .val (.int (n : Nat)), s2, .own (.lst (pr n t).plans), u4, u5, .un, .un]) ?_ rfl
    unfold bd_plans_in
    refine (seq_nxt t0).trans ((seq_nxt t1).trans ((seq_nxt t2).trans ((seq_nxt (for_of t3 e)).trans ?_)))
    simp_arith [so]
  · cases t with
    | nm x => exact absurd rfl hf
    | ca f a => exact absurd rfl hf
    | fn x b =>
      have sz : (Tm.fn x b).size = b.size + 1 := rfl
      have hb' : c f_plans_in [.val b.D, .val (.int (n : Nat))] = .ret (.own (.lst (sortL (pr n b).plans))) [.val b.D, .val (.int (n : Nat))] := hp b (by omega) fun x hx => List.mem_cons_of_mem _ hx
      have PB := prOk n b
      have NB := (pr_len hn b (by omega)).1
      have BB := bnd_le b.size
      have lc := lc_of (f := wSeq (sCall (c 464) [true, true] (aCons (sOp2 atD (sVar 0) (sC (.int 2))) (aCons (sVar 1) aNil)))) (g := gN 4) (t := tYesT) (e := sTup (aCons (sC (.str "in")) (aCons (sVar 4) aNil))) (vs := [4]) (P := fun _ => true) (F := innD)
        (s := [.val (Tm.fn x b).D, .val (.int (n : Nat)), .un, .un, .un, .un, .un, .un]) (s1 := [.val (Tm.fn x b).D, .val (.int (n : Nat)), .un, .un, .un, .un, .un, .un]) (w := [.val (Tm.fn x b).D, .val (.int (n : Nat)), .un, .un, .un, .un, .un, .un]) (fin := [.val (Tm.fn x b).D, .val (.int (n : Nat)), .un, .un, .un, .un, .un, .un]) (ds := sortL (pr n b).plans)
        (by rw [show (Tm.fn x b).D = .tup [.str "fn", .str x, b.D] from rfl]; simp_arith [hb']) rfl (by rw [sortL_len]; omega)
        (fun d hd => by
          refine ⟨[.val (Tm.fn x b).D, .val (.int (n : Nat)), .un, .un, .val d, .un, .un, .un], [.val (Tm.fn x b).D, .val (.int (n : Nat)), .un, .un, .val d, .un, .un, .un], rfl, rfl, fun _ => rfl, fun _ => ⟨.val (innD d), [.val (Tm.fn x b).D, .val (.int (n : Nat)), .un, .un, .val d, .un, .un, .un], [.val (Tm.fn x b).D, .val (.int (n : Nat)), .un, .un, .val d, .un, .un, .un], ?_, rfl, rfl⟩⟩
          unfold innD
          simp_arith [l2]) rfl
      rw [List.filter_eq_self.mpr (fun _ _ => rfl)] at lc
      have mm : ∀ d ∈ (sortL (pr n b).plans).map innD, d ∈ (pr n (.fn x b)).plans := fun d hd => by
        obtain ⟨p, hp, rfl⟩ := List.mem_map.mp hd
        exact List.mem_cons_of_mem _ (List.mem_map_of_mem (sortL_mem.mp hp))
      have so := sort_ok (l := (sortL (pr n b).plans).map innD) (fun d hd => P.pts d (mm d hd)) (fun d hd => by have := P.pdp d (mm d hd); omega) (fun d hd e he => P.pal d (mm d hd) e (mm e he)) (fun d hd => P.pne d (mm d hd)) (by rw [List.length_map, sortL_len]; omega)
      have ad := addD_lst (l := sortL ((sortL (pr n b).plans).map innD)) (m := [shutD]) (by rw [sortL_len, List.length_map, sortL_len, List.length_singleton]; omega)
      rw [fn_sort PB.pts P.pal] at ad
      rw [show shutD :: (pr n b).plans.map innD = (pr n (.fn x b)).plans from rfl] at ad
      unfold PuO fn_plans_in
      refine run_own rfl (s := [.val (Tm.fn x b).D, .val (.int (n : Nat)), .un, .un, .un, .un, .un, .un]) ?_ rfl
      unfold bd_plans_in
      refine seq_ret ?_
      rw [show (Tm.fn x b).D = .tup [.str "fn", .str x, b.D] from rfl] at lc ⊢
      unfold shutD at ad
      simp_arith [lc, so, ad, l1]
end Pg
namespace Dv
open PySem L2
theorem all_true : ∀ {l : List D}, (∀ d ∈ l, d = .bl true) → allD [.lst l] = some (.val (.bl true)) := by
  intro l h
  have : ∀ {l : List D}, (∀ d ∈ l, d = .bl true) → ∃ bs, blsD l = some bs ∧ bs.all id = true := by
    intro l
    induction l with
    | nil => intro _; exact ⟨[], rfl, rfl⟩
    | cons d l ih =>
      intro h
      obtain ⟨bs, e1, e2⟩ := ih fun d hd => h d (List.mem_cons_of_mem _ hd)
      have := h d List.mem_cons_self
      subst this
      exact ⟨true :: bs, by unfold blsD; rw [e1]; rfl, by rw [List.all_cons, e2]; rfl⟩
  obtain ⟨bs, e1, e2⟩ := this h
  unfold allD
  simp only
  rw [e1, Option.map_some, e2]
mutual
theorem eqv_refl : ∀ d : D, D.ts d = true → eqvD d d = true
  | .str x, _ => by unfold eqvD; exact beq_self_eq_true x
  | .tup l, h => by unfold D.ts at h; unfold eqvD; exact eqv_reflL l h
  | .non, h => by unfold D.ts at h; cases h
  | .bl _, h => by unfold D.ts at h; cases h
  | .int _, h => by unfold D.ts at h; cases h
  | .lst _, h => by unfold D.ts at h; cases h
  | .dct _ _, h => by unfold D.ts at h; cases h
  | .exc _ _, h => by unfold D.ts at h; cases h
  | .ty _, h => by unfold D.ts at h; cases h
  | .cls _, h => by unfold D.ts at h; cases h
  | .scr _, h => by unfold D.ts at h; cases h
theorem eqv_reflL : ∀ l : List D, D.tsAll l = true → eqvL l l = true
  | [], _ => rfl
  | d :: l, h => by
    unfold D.tsAll at h
    rw [Bool.and_eq_true] at h
    unfold eqvL
    rw [eqv_refl d h.1, eqv_reflL l h.2]; rfl
end
theorem ne_self {d : D} (h : D.ts d = true) (hd : D.dep d ≤ 150) : neD d d = some (.val (.bl false)) := by
  have e : eqOk d d = true := by
    unfold eqOk
    rw [ts_py d h]
    have : min (D.dep d) (D.dep d) ≤ DEEP := Nat.le_trans (Nat.min_le_left _ _) hd
    rw [decide_eq_true this]; rfl
  unfold neD
  rw [e, if_pos rfl, eqv_refl d h]; rfl
def adj : List D → List D
  | x :: y :: l => .tup [x, y] :: adj (y :: l)
  | _ => []
theorem zip_adj : ∀ l : List D, zipL l (l.drop 1) = adj l
  | [] => rfl
  | [x] => rfl
  | x :: y :: l => by
    have := zip_adj (y :: l)
    show .tup [x, y] :: zipL (y :: l) ((y :: l).drop 1) = .tup [x, y] :: adj (y :: l)
    rw [this]
theorem adj_len : ∀ l : List D, (adj l).length ≤ l.length
  | [] => Nat.le_refl _
  | [x] => Nat.zero_le _
  | x :: y :: l => by
    have := adj_len (y :: l)
    unfold adj
    rw [List.length_cons, List.length_cons]; omega
theorem adj_snoc : ∀ {l : List D} (h : l ≠ []) (z : D), adj (l ++ [z]) = adj l ++ [.tup [lastD l, z]]
  | [], h, z => absurd rfl h
  | [x], _, z => rfl
  | x :: y :: l, _, z => by
    have ih := adj_snoc (l := y :: l) (fun h => (nomatch h)) z
    show .tup [x, y] :: adj (y :: l ++ [z]) = .tup [x, y] :: adj (y :: l) ++ _
    rw [ih]
    rfl
def Asc (b : List D) : Prop := ∀ q ∈ adj b, ∃ x y, q = .tup [x, y] ∧ x ∈ b ∧ y ∈ b ∧ ltB y x = false
theorem asc_step {r : List D} {one : D} (h : Asc r) (ok : okNext r one = true) : Asc (r ++ [one]) := by
  by_cases hr : r = []
  · subst hr
    intro q hq
    cases hq
  · intro q hq
    rw [adj_snoc hr] at hq
    rcases List.mem_append.mp hq with hq | hq
    · obtain ⟨x, y, e, h1, h2, h3⟩ := h q hq
      exact ⟨x, y, e, List.mem_append_left _ h1, List.mem_append_left _ h2, h3⟩
    · refine ⟨lastD r, one, List.mem_singleton.mp hq, List.mem_append_left _ (last_mem hr), List.mem_append_right _ (List.mem_singleton.mpr rfl), ?_⟩
      unfold okNext at ok
      have : r.isEmpty = false := by cases r with
        | nil => exact absurd rfl hr
        | cons _ _ => rfl
      rw [this, Bool.false_or, Bool.not_eq_true'] at ok
      exact ok
theorem bagsN_asc {ch : List D} : ∀ {n : Nat} {b : List D}, (b ∈ (bagsN ch n).1 ∨ b ∈ (bagsN ch n).2) → Asc b
  | 0, b, h => by
    have : b = [] := by
      rcases h with h | h
      · exact List.mem_singleton.mp h
      · exact List.mem_singleton.mp h
    subst this
    exact fun q hq => nomatch hq
  | n + 1, b, h => by
    have step : b ∈ bagStep ch (bagsN ch n).2 → Asc b := fun h => by
      unfold bagStep at h
      obtain ⟨r, hr, hb⟩ := List.mem_flatMap.mp h
      obtain ⟨one, ho, rfl⟩ := List.mem_map.mp hb
      exact asc_step (bagsN_asc (.inr hr)) (List.mem_filter.mp ho).2
    rcases h with h | h
    · rcases List.mem_append.mp (show b ∈ (bagsN ch n).1 ++ bagStep ch (bagsN ch n).2 from h) with h | h
      · exact bagsN_asc (.inl h)
      · exact step h
    · exact step h
theorem cut1 (l : List D) : cutD (.tup l) (some 1) none = some (.val (.tup (l.drop 1))) := by
  show some (Opd.val (.tup (cutL l (some 1) none))) = _
  have : cutL l (some 1) none = l.drop 1 := by
    cases l with
    | nil => rfl
    | cons a l =>
      unfold cutL
      rw [show HT.sIx (a :: l).length 0 (some 1) = min 1 (a :: l).length from HT.sIx_nat _ _ 1, HT.sIx_none, List.length_cons, show min 1 (l.length + 1) = 1 by omega]
      show l.take (l.length + 1 - 1) = l
      rw [Nat.add_sub_cancel, List.take_length]
  rw [this]
theorem zip_app : ∀ {l m : List D} {x y : D}, l.length = m.length → zipL (l ++ [x]) (m ++ [y]) = zipL l m ++ [.tup [x, y]]
  | [], [], x, y, _ => rfl
  | a :: l, b :: m, x, y, h => by
    show .tup [a, b] :: zipL (l ++ [x]) (m ++ [y]) = .tup [a, b] :: zipL l m ++ _
    rw [zip_app (by simpa using h)]; rfl
theorem zip_more : ∀ {l m : List D} {x : List D}, m.length ≤ l.length → zipL (l ++ x) m = zipL l m
  | l, [], x, _ => by cases l <;> cases x <;> rfl
  | [], b :: m, x, h => by simp at h
  | a :: l, b :: m, x, h => by
    show .tup [a, b] :: zipL (l ++ x) m = .tup [a, b] :: zipL l m
    rw [zip_more (by simpa using h)]
theorem zip_len : ∀ (l m : List D), (zipL l m).length ≤ l.length
  | [], m => by cases m <;> exact Nat.le_refl _
  | a :: l, [] => Nat.zero_le _
  | a :: l, b :: m => by
    have := zip_len l m
    show (_ :: zipL l m).length ≤ _
    rw [List.length_cons, List.length_cons]; omega
end Dv
namespace Dv
open PySem L2
theorem lcL_map {α : Type} {g : G} {e : E} {vs : List Nat} {ι κ : α → D} {w : Sto} : ∀ (as : List α) (acc : List D) (s : Sto), wipeS s vs = w → acc.length + as.length ≤ LIM →
    (∀ a ∈ as, ∃ u, g (ι a) w = some u ∧ ∃ o s3 s4, e u = .ok o s3 ∧ takeO o s3 = .ok (κ a) s4 ∧ wipeS s4 vs = w) →
    ∃ s', lcL g tYesT e vs (as.map ι) acc s = .ok (acc ++ as.map κ) s' ∧ wipeS s' vs = w
  | [], acc, s, hs, _, _ => ⟨s, by unfold lcL; simp, hs⟩
  | a :: as, acc, s, hs, hl, h => by
    obtain ⟨u, e1, o, s3, s4, e2, e3, e4⟩ := h a List.mem_cons_self
    rw [List.length_cons] at hl
    obtain ⟨s', q1, q2⟩ := lcL_map as (acc ++ [κ a]) s4 e4 (by rw [List.length_append, List.length_singleton]; omega) fun d hd => h d (List.mem_cons_of_mem _ hd)
    refine ⟨s', ?_, q2⟩
    rw [List.map_cons]
    unfold lcL
    rw [hs, e1]
    simp only
    rw [show tYesT u = .ok true u from rfl, noX_ok, R.bind_ok, if_pos rfl, e2, noX_ok, R.bind_ok, e3, R.bind_ok, if_pos (by omega), q1, List.map_cons, List.append_assoc, List.singleton_append]
theorem lc_map {α : Type} {f : Ws} {g : G} {e : E} {vs : List Nat} {s s1 w fin : Sto} (as : List α) (ι κ : α → D) (hf : f s = .ok (as.map ι) s1) (hw : wipeS s1 vs = w) (hl : as.length ≤ LIM)
    (h : ∀ a ∈ as, ∃ u, g (ι a) w = some u ∧ ∃ o s3 s4, e u = .ok o s3 ∧ takeO o s3 = .ok (κ a) s4 ∧ wipeS s4 vs = w) (hfin : restS s1 w vs = fin) :
    sLc f g tYesT e vs s = .ok (.own (.lst (as.map κ))) fin := by
  obtain ⟨s', e1, e2⟩ := lcL_map (g := g) (e := e) (ι := ι) (κ := κ) as [] s1 hw (by simpa using hl) h
  unfold sLc
  rw [hf, R.bind_ok, e1, R.bind_ok, List.nil_append, restS_wipe, e2, hfin]
end Dv
namespace Pg
open PySem L2 Dv
def once : Tm → Dv.D × List Dv.D
  | .nm _ => (headD [], [])
  | .fn _ b => (innD (once b).1, [])
  | .ca f a => (headD ((once f).2 ++ [.tup [(once a).1]]), (once f).2 ++ [.tup [(once a).1]])
theorem once_row : ∀ t : Tm, (once t).2 = t.args.map fun a => .tup [(once a).1]
  | .nm _ => rfl
  | .fn _ _ => rfl
  | .ca f a => by
    rw [show (Tm.ca f a).args = f.args ++ [a] from rfl, List.map_append, ← once_row f]; rfl
theorem once_head {t : Tm} (h : t.isFn = false) : (once t).1 = headD (t.args.map fun a => .tup [(once a).1]) := by
  rw [← once_row]
  cases t with
  | nm x => rfl
  | fn x b => cases h
  | ca f a => rfl
theorem once_ts : ∀ t : Tm, D.ts (once t).1 = true ∧ D.tsAll (once t).2 = true ∧ D.dep (once t).1 ≤ 4 * t.size ∧ D.depAll (once t).2 + 2 ≤ 4 * t.size
  | .nm x => ⟨rfl, rfl, by show D.dep (headD []) ≤ 4 * 1; decide, by show D.depAll [] + 2 ≤ 4 * 1; decide⟩
  | .fn x b => by
    obtain ⟨h1, _, h3, _⟩ := once_ts b
    have sz : (Tm.fn x b).size = b.size + 1 := rfl
    refine ⟨ts_inn h1, rfl, ?_, ?_⟩
    · show D.dep (innD _) ≤ _
      rw [dep_inn, sz]; omega
    · rw [sz, show D.depAll (once (.fn x b)).2 = 0 from rfl]; omega
  | .ca f a => by
    obtain ⟨_, f2, _, f4⟩ := once_ts f
    obtain ⟨a1, _, a3, _⟩ := once_ts a
    have sz : (Tm.ca f a).size = f.size + a.size + 1 := rfl
    have e2 : D.tsAll ((once f).2 ++ [.tup [(once a).1]]) = true := tsAll_snoc f2 (by
      rw [ts_tup, tsAll_cons, a1]; rfl)
    have e4 : D.depAll ((once f).2 ++ [.tup [(once a).1]]) + 2 ≤ 4 * (Tm.ca f a).size := by
      rw [depAll_snoc, sz, dep_tup, depAll_cons, show D.depAll [] = 0 from rfl]; omega
    refine ⟨ts_head e2, e2, ?_, e4⟩
    show D.dep (headD _) ≤ _
    rw [dep_head]; exact e4
theorem row_zip {n : Nat} : ∀ (t : Tm) (r : List Dv.D), r ∈ (pr n t).pre → ∀ q ∈ zipL (t.args.map Tm.D) r, ∃ a b, a ∈ t.args ∧ q = .tup [a.D, b] ∧ b ∈ bagsOf n (pr n a).plans
  | .nm x, r, hr, q, hq => nomatch hq
  | .fn x b, r, hr, q, hq => nomatch hq
  | .ca f a, r, hr, q, hq => by
    have ar : (Tm.ca f a).args = f.args ++ [a] := rfl
    rw [ar, List.map_append] at hq
    have P := prOk n f
    rcases List.mem_append.mp (show r ∈ (pr n f).pre ++ addRows (pr n f).rows (bagsOf n (pr n a).plans) from hr) with h | h
    · rw [zip_more (by rw [List.length_map]; exact P.rlen r h)] at hq
      obtain ⟨a', b, h1, h2, h3⟩ := row_zip f r h q hq
      exact ⟨a', b, by rw [ar]; exact List.mem_append_left _ h1, h2, h3⟩
    · obtain ⟨r0, b, h0, hb, rfl⟩ := addRows_mem h
      rw [show [a].map Tm.D = [a.D] from rfl, zip_app (by rw [List.length_map]; exact (P.rfull r0 h0).symm)] at hq
      rcases List.mem_append.mp hq with hq | hq
      · obtain ⟨a', b', h1, h2, h3⟩ := row_zip f r0 (P.rsub r0 h0) q hq
        exact ⟨a', b', by rw [ar]; exact List.mem_append_left _ h1, h2, h3⟩
      · exact ⟨a, b, by rw [ar]; exact List.mem_append_right _ (List.mem_singleton.mpr rfl), List.mem_singleton.mp hq, hb⟩
end Pg
namespace Pg
open PySem L2 Dv
theorem tg_left_in : (("left" : Str) == ("in" : Str)) = false := by decide
theorem tg_left_shut : (("left" : Str) == ("shut" : Str)) = false := by decide
theorem tg_left_head : (("left" : Str) == ("head" : Str)) = false := by decide
theorem fits_bag_ok (c : Nat → Fn) {n : Nat} (hn : n ≤ 2) {a : Tm} (h : a.size ≤ 5) {bag : Dv.D} (hb : bag ∈ bagsOf n (pr n a).plans) (hf : ∀ p ∈ (pr n a).plans, Pu (c f_fits) [.val a.D, .val p] (.bl true)) : Pu (fn_fits_bag c) [.val a.D, .val bag] (.bl true) := by
  obtain ⟨l, rfl, hl, hm, hin⟩ := bagsOf_mem hb
  have F := prFam (n := n) h
  have L : (3 : Nat) ≤ LIM := LIM_le (by decide)
  have lc := lc_of (f := wSeq (sVar 1)) (g := gN 2) (t := tYesT) (e := sCall (c 193) [true, true] (aCons (sVar 0) (aCons (sVar 2) aNil))) (vs := [2]) (P := fun _ => true) (F := fun _ => .bl true)
    (s := [.val a.D, .val (.tup l), .un, .un]) (s1 := [.val a.D, .val (.tup l), .un, .un]) (w := [.val a.D, .val (.tup l), .un, .un]) (fin := [.val a.D, .val (.tup l), .un, .un]) (ds := l) rfl rfl (by omega)
    (fun d hd => by
      have hf : c f_fits [.val a.D, .val d] = .ret (.val (.bl true)) [.val a.D, .val d] := hf d (hin d hd)
      refine ⟨[.val a.D, .val (.tup l), .val d, .un], [.val a.D, .val (.tup l), .val d, .un], rfl, rfl, fun _ => rfl, fun _ => ⟨.val (.bl true), [.val a.D, .val (.tup l), .val d, .un], [.val a.D, .val (.tup l), .val d, .un], ?_, rfl, rfl⟩⟩
      simp_arith [hf]) rfl
  have a1 : allD [.lst ((l.filter fun _ => true).map fun _ => .bl true)] = some (.val (.bl true)) := all_true fun d hd => by
    obtain ⟨_, _, rfl⟩ := List.mem_map.mp hd
    rfl
  have ct := cut1 l
  have zp : wZip (aCons (sVar 1) (aCons (sCut (sVar 1) (pSome (sC (.int 1))) pNone) aNil)) [.val a.D, .val (.tup l), .un, .un] = .ok (adj l) [.val a.D, .val (.tup l), .un, .un] := by
    unfold wZip
    simp_arith [ct, zip_adj]
  have as := bagsN_asc (.inl hm)
  have lc2 := lc_of (f := wZip (aCons (sVar 1) (aCons (sCut (sVar 1) (pSome (sC (.int 1))) pNone) aNil))) (g := gT 2 (gs1 (gN 2) (gs1 (gN 3) gs0))) (t := tYesT) (e := sNot (sOp2 ltD (sVar 3) (sVar 2))) (vs := [2, 3]) (P := fun _ => true) (F := fun _ => .bl true)
    (w := [.val a.D, .val (.tup l), .un, .un]) (fin := [.val a.D, .val (.tup l), .un, .un]) zp rfl (Nat.le_trans (adj_len l) (by omega))
    (fun d hd => by
      obtain ⟨x, y, rfl, hx, hy, hxy⟩ := as d hd
      have lt := F.ltD (sortL_mem.mpr (hin y hy)) (sortL_mem.mpr (hin x hx))
      rw [hxy] at lt
      refine ⟨[.val a.D, .val (.tup l), .val x, .val y], [.val a.D, .val (.tup l), .val x, .val y], rfl, rfl, fun _ => rfl, fun _ => ⟨.val (.bl true), [.val a.D, .val (.tup l), .val x, .val y], [.val a.D, .val (.tup l), .val x, .val y], ?_, rfl, rfl⟩⟩
      simp_arith [lt]) rfl
  have a2 : allD [.lst (((adj l).filter fun _ => true).map fun _ => .bl true)] = some (.val (.bl true)) := all_true fun d hd => by
    obtain ⟨_, _, rfl⟩ := List.mem_map.mp hd
    rfl
  unfold Pu fn_fits_bag
  refine run_val rfl (s := [.val a.D, .val (.tup l), .un, .un]) ?_ rfl
  unfold bd_fits_bag
  simp_arith [lc, a1, lc2, a2]
theorem fits_head (c : Nat → Fn) {n : Nat} (hn : n ≤ 2) {t : Tm} (h : t.size ≤ 5) (hf : t.isFn = false) (hs : Pu (c f_spine) [.val t.D] (.tup [t.head.D, .tup (t.args.map Tm.D)])) {r : List Dv.D} (hr : r ∈ (pr n t).pre)
    (hb : ∀ a ∈ t.args, ∀ b ∈ bagsOf n (pr n a).plans, Pu (c f_fits_bag) [.val a.D, .val b] (.bl true)) : Pu (fn_fits c) [.val t.D, .val (headD r)] (.bl true) := by
  have hs : c f_spine [.val t.D] = .ret (.val (.tup [t.head.D, .tup (t.args.map Tm.D)])) [.val t.D] := hs
  have P := prOk n t
  have L : (6 : Nat) ≤ LIM := LIM_le (by decide)
  have al := args_len t
  have rl := P.rlen r hr
  have d1 : decide (((t.args.length : Nat) : Int) < ((r.length : Nat) : Int)) = false := decide_eq_false (by omega)
  obtain ⟨g, rest, td, hg⟩ := tag_fn hf
  have zp : wZip (aCons (sVar 2) (aCons (sOp2 atD (sVar 1) (sC (.int 1))) aNil)) [.val t.D, .val (headD r), .val (.tup (t.args.map Tm.D)), .un, .un] = .ok (zipL (t.args.map Tm.D) r) [.val t.D, .val (headD r), .val (.tup (t.args.map Tm.D)), .un, .un] := by
    unfold wZip headD
    simp_arith []
  have rz := row_zip t r hr
  have lc := lc_of (f := wZip (aCons (sVar 2) (aCons (sOp2 atD (sVar 1) (sC (.int 1))) aNil))) (g := gT 2 (gs1 (gN 3) (gs1 (gN 4) gs0))) (t := tYesT) (e := sCall (c 446) [true, true] (aCons (sVar 3) (aCons (sVar 4) aNil))) (vs := [3, 4]) (P := fun _ => true) (F := fun _ => .bl true)
    (w := [.val t.D, .val (headD r), .val (.tup (t.args.map Tm.D)), .un, .un]) (fin := [.val t.D, .val (headD r), .val (.tup (t.args.map Tm.D)), .un, .un]) zp rfl (Nat.le_trans (zip_len _ _) (by rw [List.length_map]; omega))
    (fun d hd => by
      obtain ⟨a, b, h1, rfl, h3⟩ := rz d hd
      have q : c f_fits_bag [.val a.D, .val b] = .ret (.val (.bl true)) [.val a.D, .val b] := hb a h1 b h3
      refine ⟨[.val t.D, .val (headD r), .val (.tup (t.args.map Tm.D)), .val a.D, .val b], [.val t.D, .val (headD r), .val (.tup (t.args.map Tm.D)), .val a.D, .val b], rfl, rfl, fun _ => rfl, fun _ => ⟨.val (.bl true), [.val t.D, .val (headD r), .val (.tup (t.args.map Tm.D)), .val a.D, .val b], [.val t.D, .val (headD r), .val (.tup (t.args.map Tm.D)), .val a.D, .val b], ?_, rfl, rfl⟩⟩
      simp_arith [q]) rfl
  have a1 : allD [.lst (((zipL (t.args.map Tm.D) r).filter fun _ => true).map fun _ => .bl true)] = some (.val (.bl true)) := all_true fun d hd => by
    obtain ⟨_, _, rfl⟩ := List.mem_map.mp hd
    rfl
  unfold Pu fn_fits
  refine run_val rfl (s := [.val t.D, .val (headD r), .val (.tup (t.args.map Tm.D)), .un, .un]) ?_ rfl
  unfold bd_fits
  unfold headD at lc ⊢
  rw [td] at hs lc ⊢
  simp_arith [hg, hs, d1, lc, a1, List.length_map]
theorem fits_fn (c : Nat → Fn) {n : Nat} {x : Str} {b : Tm} (hb : ∀ p ∈ (pr n b).plans, Pu (c f_fits) [.val b.D, .val p] (.bl true)) {p : Dv.D} (hp : p ∈ (pr n (.fn x b)).plans) : Pu (fn_fits c) [.val (Tm.fn x b).D, .val p] (.bl true) := by
  rcases List.mem_cons.mp (show p ∈ shutD :: (pr n b).plans.map innD from hp) with h | h
  · subst h
    unfold Pu fn_fits
    refine run_val rfl (s := [.val (Tm.fn x b).D, .val shutD, .un, .un, .un]) ?_ rfl
    unfold bd_fits shutD
    rw [show (Tm.fn x b).D = .tup [.str "fn", .str x, b.D] from rfl]
    simp_arith []
  · obtain ⟨q, hq, rfl⟩ := List.mem_map.mp h
    have e : c f_fits [.val b.D, .val q] = .ret (.val (.bl true)) [.val b.D, .val q] := hb q hq
    unfold Pu fn_fits
    refine run_val rfl (s := [.val (Tm.fn x b).D, .val (innD q), .un, .un, .un]) ?_ rfl
    unfold bd_fits innD
    rw [show (Tm.fn x b).D = .tup [.str "fn", .str x, b.D] from rfl]
    simp_arith [e]
theorem fits_left (c : Nat → Fn) (t : Tm) : Pu (fn_fits c) [.val t.D, .val (.tup [.str "left"])] (.bl false) := by
  by_cases hf : t.isFn = false
  · obtain ⟨g, rest, td, hg⟩ := tag_fn hf
    unfold Pu fn_fits
    refine run_val rfl (s := [.val t.D, .val (.tup [.str "left"]), .un, .un, .un]) ?_ rfl
    unfold bd_fits
    rw [td]
    simp_arith [hg, tg_left_head]
  · cases t with
    | nm x => exact absurd rfl hf
    | ca f a => exact absurd rfl hf
    | fn x b =>
      unfold Pu fn_fits
      refine run_val rfl (s := [.val (Tm.fn x b).D, .val (.tup [.str "left"]), .un, .un, .un]) ?_ rfl
      unfold bd_fits
      rw [show (Tm.fn x b).D = .tup [.str "fn", .str x, b.D] from rfl]
      simp_arith [tg_left_in, tg_left_shut]
theorem fits_bad (c : Nat → Fn) (t : Tm) (hb : ∀ b : Tm, Pu (c f_fits) [.val b.D, .val (.tup [.str "left"])] (.bl false)) : Pu (fn_fits c) [.val t.D, .val (.tup [.str "in", .tup [.str "left"]])] (.bl false) := by
  by_cases hf : t.isFn = false
  · obtain ⟨g, rest, td, hg⟩ := tag_fn hf
    unfold Pu fn_fits
    refine run_val rfl (s := [.val t.D, .val (.tup [.str "in", .tup [.str "left"]]), .un, .un, .un]) ?_ rfl
    unfold bd_fits
    rw [td]
    simp_arith [hg]
  · cases t with
    | nm x => exact absurd rfl hf
    | ca f a => exact absurd rfl hf
    | fn x b =>
      have e : c f_fits [.val b.D, .val (.tup [.str "left"])] = .ret (.val (.bl false)) [.val b.D, .val (.tup [.str "left"])] := hb b
      unfold Pu fn_fits
      refine run_val rfl (s := [.val (Tm.fn x b).D, .val (.tup [.str "in", .tup [.str "left"]]), .un, .un, .un]) ?_ rfl
      unfold bd_fits
      rw [show (Tm.fn x b).D = .tup [.str "fn", .str x, b.D] from rfl]
      simp_arith [e]
theorem is_plan_ok (c : Nat → Fn) {t : Tm} {p : Dv.D} {b : Bool} (hn : Pu (c f_need_normal) [.val t.D] .non) (hf : Pu (c f_fits) [.val t.D, .val p] (.bl b)) : Pu (fn_is_plan c) [.val t.D, .val p] (.bl b) := by
  have hn : c f_need_normal [.val t.D] = .ret (.val .non) [.val t.D] := hn
  have hf : c f_fits [.val t.D, .val p] = .ret (.val (.bl b)) [.val t.D, .val p] := hf
  unfold Pu fn_is_plan
  refine run_val rfl (s := [.val t.D, .val p]) ?_ rfl
  unfold bd_is_plan
  simp_arith [hn, hf]
theorem once_in_ok (c : Nat → Fn) (t : Tm) (h : t.size ≤ 5) (hs : Pu (c f_spine) [.val t.D] (.tup [t.head.D, .tup (t.args.map Tm.D)])) (hp : ∀ a : Tm, a.size < t.size → (∀ x ∈ a.names, x ∈ t.names) → Pu (c f_once_in) [.val a.D] (once a).1) : Pu (fn_once_in c) [.val t.D] (once t).1 := by
  have hs : c f_spine [.val t.D] = .ret (.val (.tup [t.head.D, .tup (t.args.map Tm.D)])) [.val t.D] := hs
  have l1 := lim1
  have l2 : (2 : Nat) ≤ LIM := LIM_le (by decide)
  have L : (6 : Nat) ≤ LIM := LIM_le (by decide)
  have al := args_len t
  by_cases hf : t.isFn = false
  · obtain ⟨g, rest, td, hg⟩ := tag_fn hf
    have lc := lc_map (f := wSeq (sOp2 atD (sCall (c 34) [true] (aCons (sVar 0) aNil)) (sC (.int 1)))) (g := gN 1) (e := sTup (aCons (sCall (c 461) [true] (aCons (sVar 1) aNil)) aNil)) (vs := [1]) (s := [.val t.D, .un]) (s1 := [.val t.D, .un]) (w := [.val t.D, .un]) (fin := [.val t.D, .un]) t.args Tm.D (fun a => .tup [(once a).1])
      (by simp_arith [hs]) rfl (by omega) (fun a ha => by
        have q : c f_once_in [.val a.D] = .ret (.val (once a).1) [.val a.D] := hp a (args_in t a ha).1 (args_in t a ha).2
        refine ⟨[.val t.D, .val a.D], rfl, .val (.tup [(once a).1]), [.val t.D, .val a.D], [.val t.D, .val a.D], ?_, rfl, rfl⟩
        simp_arith [q, l1]) rfl
    have oh := once_head hf
    unfold Pu fn_once_in
    refine run_val rfl (s := [.val t.D, .un]) ?_ rfl
    rw [oh]
    unfold bd_once_in headD
    rw [td] at lc ⊢
    simp_arith [hg, lc, l2, tup_lst]
  · cases t with
    | nm x => exact absurd rfl hf
    | ca f a => exact absurd rfl hf
    | fn x b =>
      have sz : (Tm.fn x b).size = b.size + 1 := rfl
      have e : c f_once_in [.val b.D] = .ret (.val (once b).1) [.val b.D] := hp b (by omega) fun x hx => List.mem_cons_of_mem _ hx
      unfold Pu fn_once_in
      refine run_val rfl (s := [.val (Tm.fn x b).D, .un]) ?_ rfl
      rw [show (once (.fn x b)).1 = innD (once b).1 from rfl]
      unfold bd_once_in innD
      rw [show (Tm.fn x b).D = .tup [.str "fn", .str x, b.D] from rfl]
      simp_arith [e, l2]
theorem once_plan_ok (c : Nat → Fn) (t : Tm) (hn : Pu (c f_need_normal) [.val t.D] .non) (hf : Pu (c f_once_in) [.val t.D] (once t).1) : Pu (fn_once_plan c) [.val t.D] (once t).1 := by
  have hn : c f_need_normal [.val t.D] = .ret (.val .non) [.val t.D] := hn
  have hf : c f_once_in [.val t.D] = .ret (.val (once t).1) [.val t.D] := hf
  unfold Pu fn_once_plan
  refine run_val rfl (s := [.val t.D]) ?_ rfl
  unfold bd_once_plan
  simp_arith [hn, hf]
theorem isnt_int (i : Int) : isntD (.int i) .non = some (.val (.bl true)) := rfl
theorem need_number_ok (c : Nat → Fn) (i : Int) (h1 : 0 ≤ i) (h2 : i ≤ 3) : Pu (fn_need_number c) [.val (.int i), .val (.int 0), .val (.int 3)] .non := by
  have d1 : decide (i < 0) = false := decide_eq_false (by omega)
  have d2 : decide ((3 : Int) < i) = false := decide_eq_false (by omega)
  unfold Pu fn_need_number
  refine run_nxt rfl (s := [.val (.int i), .val (.int 0), .val (.int 3)]) ?_ rfl
  unfold bd_need_number
  simp_arith [d1, d2, isnt_int]
theorem plans_ok (c : Nat → Fn) {n : Nat} (h : n ≤ 2) (t : Tm) (hn : Pu (c f_need_normal) [.val t.D] .non) (hm : Pu (c f_need_number) [.val (.int (n : Nat)), .val (.int 0), .val (.int 3)] .non) (hp : PuO (c f_plans_in) [.val t.D, .val (.int (n : Nat))] (.lst (sortL (pr n t).plans))) : Pu (fn_plans c) [.val t.D, .val (.int (n : Nat))] (.tup (sortL (pr n t).plans)) := by
  have hn : c f_need_normal [.val t.D] = .ret (.val .non) [.val t.D] := hn
  have hm : c f_need_number [.val (.int (n : Nat)), .val (.int 0), .val (.int 3)] = .ret (.val .non) [.val (.int (n : Nat)), .val (.int 0), .val (.int 3)] := hm
  have hp : c f_plans_in [.val t.D, .val (.int (n : Nat))] = .ret (.own (.lst (sortL (pr n t).plans))) [.val t.D, .val (.int (n : Nat))] := hp
  unfold Pu fn_plans
  refine run_val rfl (s := [.val t.D, .val (.int (n : Nat))]) ?_ rfl
  unfold bd_plans
  simp_arith [hn, hm, hp, tup_lst]
theorem list_scr (l : List Dv.D) : listD [.scr l] = some (.own (.lst l)) := rfl
theorem law_box_ok (c : Nat → Fn) (ns : List Int) : PuO (fn_law_box c) [.val (.scr (ns.map .int))] (boxD ns 0 0) := by
  have l3 : (3 : Nat) ≤ LIM := LIM_le (by decide)
  unfold PuO fn_law_box
  refine run_own rfl (s := [.val (.scr (ns.map .int))]) ?_ rfl
  unfold bd_law_box boxD
  simp_arith [list_scr, l3]
end Pg
namespace Pg
open PySem L2 Dv
theorem at_str {x : Str} {k : Nat} (hl : x.length ≤ 16777216) (h : atI x.cps.toList 0 = some k) : atD (.str x) (.int 0) = some (.val (.str ⟨#[k]⟩)) := by
  show (if x.length ≤ LIM then (atI x.cps.toList 0).map fun c => Opd.val (.str ⟨#[c]⟩) else none) = _
  rw [if_pos (LIM_le hl), h]; rfl
theorem cut_str {x y : Str} (hl : x.length ≤ 16777216) (h : cutS x (some 1) none = y) : cutD (.str x) (some 1) none = some (.val (.str y)) := by
  show (if x.length ≤ LIM then some (Opd.val (.str (cutS x (some 1) none))) else none) = _
  rw [if_pos (LIM_le hl), h]
theorem nin_letter {k : Nat} (h : k ∈ ("abcdefghijklmnopqrstuvwxyz" : Str).cps.toList) : ninD (.str ⟨#[k]⟩) (.str "abcdefghijklmnopqrstuvwxyz") = some (.val (.bl false)) := by
  show some (Opd.val (.bl (!(decide (k ∈ ("abcdefghijklmnopqrstuvwxyz" : Str).cps.toList))))) = _
  rw [decide_eq_true h]; rfl
theorem in_digit {k : Nat} (h : k ∈ ("0123456789" : Str).cps.toList) : inD (.str ⟨#[k]⟩) (.str "0123456789") = some (.val (.bl true)) := by
  show some (Opd.val (.bl (id (decide (k ∈ ("0123456789" : Str).cps.toList))))) = _
  rw [decide_eq_true h]; rfl
theorem name_one (c : Nat → Fn) {x : Str} {k : Nat} (h0 : (x == ("" : Str)) = false) (hl : x.length ≤ 16777216) (h1 : atI x.cps.toList 0 = some k) (h2 : k ∈ ("abcdefghijklmnopqrstuvwxyz" : Str).cps.toList) (h3 : cutS x (some 1) none = "") : Pu (fn_is_plain_name c) [.val (.str x)] (.bl true) := by
  have e1 := at_str hl h1
  have e2 := nin_letter h2
  have e3 := cut_str hl h3
  unfold Pu fn_is_plain_name
  refine run_val rfl (s := [.val (.str x), .val (.str ""), .un]) ?_ rfl
  unfold bd_is_plain_name
  simp_arith [h0, e1, e2, e3]
theorem name_two (c : Nat → Fn) {x : Str} {k d : Nat} (h0 : (x == ("" : Str)) = false) (hl : x.length ≤ 16777216) (h1 : atI x.cps.toList 0 = some k) (h2 : k ∈ ("abcdefghijklmnopqrstuvwxyz" : Str).cps.toList) (h3 : cutS x (some 1) none = ⟨#[d]⟩) (h4 : d ∈ ("0123456789" : Str).cps.toList) (h5 : d ≠ 48) : Pu (fn_is_plain_name c) [.val (.str x)] (.bl true) := by
  have e1 := at_str hl h1
  have e2 := nin_letter h2
  have e3 := cut_str hl h3
  have e4 : ((⟨#[d]⟩ : Str) == ("" : Str)) = false := by
    rw [beq_eq_false_iff_ne]
    intro z
    have : (⟨#[d]⟩ : Str).cps.toList = ("" : Str).cps.toList := by rw [z]
    have : [d] = [] := this
    cases this
  have e5 : ((⟨#[d]⟩ : Str) == ("0" : Str)) = false := by
    rw [beq_eq_false_iff_ne]
    intro z
    have : (⟨#[d]⟩ : Str).cps.toList = ("0" : Str).cps.toList := by rw [z]
    have : [d] = [48] := this
    simp at this
    exact h5 this
  have e6 : lenD [.str ⟨#[d]⟩] = some (.val (.int 1)) := by
    show (if (⟨#[d]⟩ : Str).length ≤ LIM then some (Opd.val (.int ((⟨#[d]⟩ : Str).length : Nat))) else none) = _
    rw [show (⟨#[d]⟩ : Str).length = 1 from rfl, if_pos (LIM_le (n := 1) (by decide))]; rfl
  have e7 : atD (.str ⟨#[d]⟩) (.int 0) = some (.val (.str ⟨#[d]⟩)) := at_str (by show (1 : Nat) ≤ _; decide) (by rfl)
  have e8 := in_digit h4
  have lc := lc_of (f := wSeq (sVar 1)) (g := gN 2) (t := tYesT) (e := sOp2 inD (sVar 2) (sC (.str "0123456789"))) (vs := [2]) (P := fun _ => true) (F := fun _ => .bl true)
    (s := [.val (.str x), .val (.str ⟨#[d]⟩), .un]) (s1 := [.val (.str x), .val (.str ⟨#[d]⟩), .un]) (w := [.val (.str x), .val (.str ⟨#[d]⟩), .un]) (fin := [.val (.str x), .val (.str ⟨#[d]⟩), .un]) (ds := [.str ⟨#[d]⟩]) (by simp_arith []; rfl) rfl (LIM_le (n := 1) (by decide))
    (fun y hy => by
      rw [List.mem_singleton.mp hy]
      refine ⟨[.val (.str x), .val (.str ⟨#[d]⟩), .val (.str ⟨#[d]⟩)], [.val (.str x), .val (.str ⟨#[d]⟩), .val (.str ⟨#[d]⟩)], rfl, rfl, fun _ => rfl, fun _ => ⟨.val (.bl true), [.val (.str x), .val (.str ⟨#[d]⟩), .val (.str ⟨#[d]⟩)], [.val (.str x), .val (.str ⟨#[d]⟩), .val (.str ⟨#[d]⟩)], ?_, rfl, rfl⟩⟩
      simp_arith [e8]) rfl
  have a1 : allD [.lst (([Dv.D.str ⟨#[d]⟩].filter fun _ => true).map fun _ => .bl true)] = some (.val (.bl true)) := rfl
  unfold Pu fn_is_plain_name
  refine run_val rfl (s := [.val (.str x), .val (.str ⟨#[d]⟩), .un]) ?_ rfl
  unfold bd_is_plain_name
  simp_arith [h0, e1, e2, e3, e4, e5, e6, e7, lc, a1]
end Pg
set_option maxHeartbeats 0
namespace K03
open PySem L2 Dv Pg
abbrev PR : Program := PySem.Challenge.pw_stepsworn_k03_spines_and_calls
def top (i : Nat) : Stmt := PySem.Challenge.pw_stepsworn_k03_spines_and_calls.main.body.getD i (.Pass ⟨0, 0, 0, 0⟩)
def xn : List Str := ["InvalidName", "InvalidNames", "InvalidProgram", "InvalidWides", "StepError"]
def ini : Stmt := match top 1 with
  | .ClassDef _ _ _ b _ _ _ _ _ _ _ => b.getD 0 (.Pass ⟨0, 0, 0, 0⟩)
  | s => s
theorem ini_ok : Ini ini := ⟨⟨_, _, _, _, _, _, _, _, _, _, _, _, rfl, ⟨_, fun _ _ _ _ _ => rfl⟩, fun _ _ _ _ _ => rfl⟩, fun _ _ _ _ _ _ _ _ _ _ => rfl, ⟨_, _, rfl, rfl⟩, rfl, rfl, rfl, rfl, by decide +kernel, rfl, rfl, rfl⟩
noncomputable def b_law_g1 : G := (gN 3)
noncomputable def b_law_b1 (c : Nat → Fn) : S := (sIfS (tNot (tTru (sCall (c 1002) [true] (aCons (sVar 2) aNil)))) (sRet (sC (.bl false))) sSkip)
noncomputable def b_law_g2 : G := (gN 1)
noncomputable def b_law_b2 (c : Nat → Fn) : S := (sSeq (sAsg 2 (sCall (c 1001) [true, true] (aCons (sVar 0) (aCons (sVar 1) aNil))))
    (sFor (wArgs rng1 (aCons (sC (.int 6)) aNil)) b_law_g1 (b_law_b1 c)))
noncomputable def b_law (c : Nat → Fn) : S := (sSeq (sFor (wArgs rng1 (aCons (sCB maxD (aCons (sC (.int 1)) (aCons (sCB minD (aCons (sC (.int 3)) (aCons (sCB lenD (aCons (sVar 0) aNil)) aNil))) aNil))) aNil)) b_law_g2 (b_law_b2 c))
    (sRet (sC (.bl true))))
noncomputable def b_law_spring_g1 : G := (gN 4)
noncomputable def b_law_spring_b1 (c : Nat → Fn) : S := (sAsg 3 (sOp2 modD (sCB intD (aCons (sOp2 addD (sOp2 mulD (sVar 3) (sC (.int 60013))) (sOp2 modD (sCB intD (aCons (sVar 4) aNil)) (sOp2 addD (sOp2 powD (sC (.int 10)) (sC (.int 18))) (sC (.int 9))))) aNil)) (sOp2 addD (sOp2 powD (sC (.int 10)) (sC (.int 24))) (sC (.int 7)))))
noncomputable def b_law_spring (c : Nat → Fn) : S := (sSeq (sAsg 2 (sIf (tB (sOp2 ltD (sVar 1) (sCB lenD (aCons (sVar 0) aNil)))) (sCB intD (aCons (sOp2 atD (sVar 0) (sVar 1)) aNil)) (sOp2 addD (sC (.int 41)) (sOp2 mulD (sC (.int 29)) (sVar 1)))))
    (sSeq (sAsg 3 (sOp2 addD (sC (.int 23)) (sOp2 mulD (sC (.int 7)) (sCB lenD (aCons (sVar 0) aNil)))))
    (sSeq (sFor (wSeq (sVar 0)) b_law_spring_g1 (b_law_spring_b1 c))
    (sSeq (sAsg 5 (sOp2 modD (sCB intD (aCons (sOp2 addD (sOp2 addD (sOp2 addD (sOp2 mulD (sCB absD (aCons (sVar 2) aNil)) (sC (.int 12289))) (sOp2 mulD (sVar 3) (sC (.int 97)))) (sOp2 mulD (sC (.int 5)) (sCB intD (aCons (sOp2 ltD (sVar 2) (sC (.int 0))) aNil)))) (sOp2 mulD (sC (.int 71)) (sVar 1))) aNil)) (sOp2 addD (sOp2 powD (sC (.int 10)) (sC (.int 27))) (sC (.int 103)))))
    (sRet (sLst (aCons (sCB maxD (aCons (sC (.int 0)) (aCons (sOp2 subD (sCB absD (aCons (sVar 2) aNil)) (sOp2 powD (sC (.int 10)) (sC (.int 18)))) aNil))) (aCons (sVar 5) (aCons (sC (.int 0)) aNil)))))))))
noncomputable def b_law_right_g1 : G := (gN 3)
noncomputable def b_law_right_b1 (c : Nat → Fn) : S := (sDrop (sMut 2 fAppend (aCons (sIf (tB (sOp2 eqD (sCall (c 1003) [true, true] (aCons (sVar 0) (aCons (sC (.int 4)) aNil))) (sC (.int 0)))) (sTup (aCons (sC (.str "at")) (aCons (sVar 3) aNil))) (sCall (c 1004) [true, true, true] (aCons (sVar 0) (aCons (sOp2 addD (sC (.int 1)) (sCall (c 1003) [true, true] (aCons (sVar 0) (aCons (sC (.int 6)) aNil)))) (aCons (sLst (aCons (sC (.str "x")) (aCons (sC (.str "y")) (aCons (sC (.str "z")) aNil)))) aNil))))) aNil)))
noncomputable def b_law_right_g2 : G := (gN 5)
noncomputable def b_law_right_b2 (c : Nat → Fn) : S := (sAsg 4 (sTup (aCons (sC (.str "call")) (aCons (sVar 4) (aCons (sVar 5) aNil)))))
noncomputable def b_law_right_g3 : G := (gN 3)
noncomputable def b_law_right_b3 (c : Nat → Fn) : S := (sDrop (sMut 8 fAppend (aCons (sOp2 atD (sLst (aCons (sC (.str "x")) (aCons (sC (.str "x1")) (aCons (sC (.str "x2")) (aCons (sC (.str "x3")) (aCons (sC (.str "y")) (aCons (sC (.str "z")) (aCons (sC (.str "z1")) (aCons (sC (.str "z2")) (aCons (sC (.str "f")) (aCons (sC (.str "f1")) aNil))))))))))) (sCall (c 1003) [true, true] (aCons (sVar 0) (aCons (sC (.int 10)) aNil)))) aNil)))
noncomputable def b_law_right (c : Nat → Fn) : S := (sSeq (sAsg 1 (sOp2 atD (sLst (aCons (sTup (aCons (sC (.str "name")) (aCons (sC (.str "x")) aNil))) (aCons (sTup (aCons (sC (.str "at")) (aCons (sC (.int 3)) aNil))) (aCons (sTup (aCons (sC (.str "fn")) (aCons (sC (.str "y")) (aCons (sTup (aCons (sC (.str "call")) (aCons (sTup (aCons (sC (.str "name")) (aCons (sC (.str "y")) aNil))) (aCons (sTup (aCons (sC (.str "name")) (aCons (sC (.str "x")) aNil))) aNil)))) aNil)))) (aCons (sTup (aCons (sC (.str "name")) (aCons (sC (.str "l4")) aNil))) aNil))))) (sCall (c 1003) [true, true] (aCons (sVar 0) (aCons (sC (.int 4)) aNil)))))
    (sSeq (sAsg 2 (sLst aNil))
    (sSeq (sFor (wArgs rng1 (aCons (sCall (c 1003) [true, true] (aCons (sVar 0) (aCons (sC (.int 7)) aNil))) aNil)) b_law_right_g1 (b_law_right_b1 c))
    (sSeq (sAsg 4 (sVar 1))
    (sSeq (sFor (wSeq (sVar 2)) b_law_right_g2 (b_law_right_b2 c))
    (sSeq (sAsg 2 (sCB tupD (aCons (sVar 2) aNil)))
    (sSeq (sAsg 6 (sLst (aCons (sCall (c 35) [true, true] (aCons (sVar 1) (aCons (sVar 2) aNil))) (aCons (sCallK (c 35) [1, 0] [true, true] (aCons (sVar 2) (aCons (sVar 1) aNil))) (aCons (sCall (c 34) [true] (aCons (sVar 4) aNil)) (aCons (sCallK (c 34) [0] [true] (aCons (sVar 4) aNil)) aNil))))))
    (sSeq (sIfS (tB (sOp2 neD (sCB reprD (aCons (sVar 6) aNil)) (sCB reprD (aCons (sLst (aCons (sVar 4) (aCons (sVar 4) (aCons (sTup (aCons (sVar 1) (aCons (sVar 2) aNil))) (aCons (sTup (aCons (sVar 1) (aCons (sVar 2) aNil))) aNil))))) aNil)))) (sRet (sC (.bl false))) sSkip)
    (sSeq (sAsg 7 (sTup (aCons (sTup (aCons (sC (.str "name")) (aCons (sC (.str "w")) aNil))) (aCons (sVar 4) aNil))))
    (sSeq (sIfS (tOr (tB (sOp2 neD (sCB reprD (aCons (sCall (c 35) [true, true] (aCons (sVar 4) (aCons (sVar 7) aNil))) aNil)) (sCB reprD (aCons (sTup (aCons (sC (.str "call")) (aCons (sTup (aCons (sC (.str "call")) (aCons (sVar 4) (aCons (sTup (aCons (sC (.str "name")) (aCons (sC (.str "w")) aNil))) aNil)))) (aCons (sVar 4) aNil)))) aNil)))) (tB (sOp2 neD (sCall (c 34) [true] (aCons (sCall (c 35) [true, true] (aCons (sVar 4) (aCons (sVar 7) aNil))) aNil)) (sTup (aCons (sVar 1) (aCons (sOp2 addD (sVar 2) (sVar 7)) aNil)))))) (sRet (sC (.bl false))) sSkip)
    (sSeq (sAsg 8 (sLst aNil))
    (sSeq (sFor (wArgs rng1 (aCons (sCall (c 1003) [true, true] (aCons (sVar 0) (aCons (sC (.int 7)) aNil))) aNil)) b_law_right_g3 (b_law_right_b3 c))
    (sRet (sAnd (sCall (c 1006) [true, true] (aCons (sVar 0) (aCons (sCB tupD (aCons (sVar 8) aNil)) aNil))) (sCall (c 1005) [true, true, true] (aCons (sVar 0) (aCons (sVar 2) (aCons (sCB tupD (aCons (sVar 8) aNil)) aNil))))))))))))))))))
noncomputable def b_law_take (c : Nat → Fn) : S := (sSeq (sIfS (tB (sOp2 gtD (sOp2 atD (sVar 0) (sC (.int 0))) (sC (.int 0)))) (sSeq (sAsg 2 (sOp2 modD (sCB intD (aCons (sOp2 atD (sVar 0) (sC (.int 0))) aNil)) (sVar 1)))
    (sSeq (sSet 0 (sC (.int 0)) (sOp2 fdivD (sOp2 atD (sVar 0) (sC (.int 0))) (sVar 1)))
    (sRet (sVar 2)))) sSkip)
    (sSeq (sSet 0 (sC (.int 2)) (sOp2 addD (sOp2 atD (sVar 0) (sC (.int 2))) (sC (.int 1))))
    (sSeq (sAsg 3 (sOp2 atD (sVar 0) (sC (.int 2))))
    (sSeq (sAsg 4 (sOp2 modD (sCB intD (aCons (sOp2 addD (sOp2 addD (sOp2 mulD (sOp2 mulD (sOp2 addD (sOp2 atD (sVar 0) (sC (.int 1))) (sC (.int 19))) (sOp2 addD (sVar 3) (sC (.int 3)))) (sC (.int 1000000007))) (sOp2 mulD (sOp2 mulD (sOp2 mulD (sVar 3) (sVar 3)) (sVar 3)) (sC (.int 777767777)))) (sC (.int 29))) aNil)) (sOp2 addD (sOp2 powD (sC (.int 10)) (sC (.int 28))) (sC (.int 331)))))
    (sSeq (sAsg 4 (sOp2 modD (sCB intD (aCons (sOp2 addD (sOp2 addD (sOp2 mulD (sVar 4) (sVar 4)) (sOp2 mulD (sOp2 atD (sVar 0) (sC (.int 1))) (sC (.int 11)))) (sVar 3)) aNil)) (sOp2 addD (sOp2 powD (sC (.int 10)) (sC (.int 30))) (sC (.int 57)))))
    (sSeq (sAsg 4 (sOp2 modD (sCB intD (aCons (sOp2 addD (sOp2 mulD (sOp2 mulD (sVar 4) (sVar 4)) (sC (.int 7))) (sOp2 mulD (sVar 4) (sC (.int 13)))) aNil)) (sOp2 addD (sOp2 powD (sC (.int 10)) (sC (.int 32))) (sC (.int 49)))))
    (sRet (sOp2 modD (sCB intD (aCons (sOp2 fdivD (sVar 4) (sC (.int 30011))) aNil)) (sVar 1)))))))))
noncomputable def b_law_grown (c : Nat → Fn) : S := (sSeq (sIfS (tB (sOp2 eqD (sVar 1) (sC (.int 1)))) (sRet (sTup (aCons (sC (.str "name")) (aCons (sOp2 atD (sVar 2) (sCall (c 1003) [true, true] (aCons (sVar 0) (aCons (sCB lenD (aCons (sVar 2) aNil)) aNil)))) aNil)))) sSkip)
    (sSeq (sIfS (tOr (tB (sOp2 eqD (sVar 1) (sC (.int 2)))) (tB (sOp2 ltD (sCall (c 1003) [true, true] (aCons (sVar 0) (aCons (sC (.int 5)) aNil))) (sC (.int 2))))) (sSeq (sAsg 3 (sOp2 atD (sVar 2) (sCall (c 1003) [true, true] (aCons (sVar 0) (aCons (sCB lenD (aCons (sVar 2) aNil)) aNil)))))
    (sRet (sTup (aCons (sC (.str "fn")) (aCons (sVar 3) (aCons (sCall (c 1004) [true, true, true] (aCons (sVar 0) (aCons (sOp2 subD (sVar 1) (sC (.int 1))) (aCons (sVar 2) aNil)))) aNil)))))) sSkip)
    (sSeq (sAsg 4 (sOp2 addD (sC (.int 1)) (sCall (c 1003) [true, true] (aCons (sVar 0) (aCons (sOp2 subD (sVar 1) (sC (.int 2))) aNil)))))
    (sRet (sTup (aCons (sC (.str "call")) (aCons (sCall (c 1004) [true, true, true] (aCons (sVar 0) (aCons (sVar 4) (aCons (sVar 2) aNil)))) (aCons (sCall (c 1004) [true, true, true] (aCons (sVar 0) (aCons (sOp2 subD (sOp2 subD (sVar 1) (sC (.int 1))) (sVar 4)) (aCons (sVar 2) aNil)))) aNil))))))))
noncomputable def b_law_refused (c : Nat → Fn) : S := (sSeq (sAsg 3 (sTup (aCons (sC (.str "name")) (aCons (sC (.str "x")) aNil))))
    (sSeq (sAsg 4 (sOp2 atD (sLst (aCons (sC .non) (aCons (sTup (aCons (sC (.str "at")) (aCons (sOp1 negD (sC (.int 1))) aNil))) (aCons (sTup (aCons (sC (.str "name")) (aCons (sC (.str "x")) (aCons (sC (.str "y")) aNil)))) (aCons (sC (.str "x")) (aCons (sTup (aCons (sC (.str "fn")) (aCons (sC (.str "x")) aNil))) aNil)))))) (sCall (c 1003) [true, true] (aCons (sVar 0) (aCons (sC (.int 5)) aNil)))))
    (sSeq (sAsg 5 (sOp2 atD (sLst (aCons (sCB listD (aCons (sVar 1) aNil)) (aCons (sOp2 addD (sVar 1) (sTup (aCons (sVar 4) aNil))) (aCons (sOp2 addD (sTup (aCons (sVar 4) aNil)) (sVar 1)) (aCons (sVar 3) (aCons (sC .non) aNil)))))) (sCall (c 1003) [true, true] (aCons (sVar 0) (aCons (sC (.int 5)) aNil)))))
    (sSeq (sAsg 6 (sOp2 atD (sLst (aCons (sC (.str "")) (aCons (sC (.str "X")) (aCons (sC (.str "x01")) (aCons (sC .non) (aCons (sC (.int 7)) (aCons (sTup (aCons (sC (.str "x")) aNil)) (aCons (sC (.str "fn")) aNil)))))))) (sCall (c 1003) [true, true] (aCons (sVar 0) (aCons (sC (.int 7)) aNil)))))
    (sSeq (sAsg 7 (sOp2 atD (sLst (aCons (sCB listD (aCons (sVar 2) aNil)) (aCons (sOp2 addD (sVar 2) (sTup (aCons (sVar 6) aNil))) (aCons (sOp2 addD (sTup (aCons (sVar 6) aNil)) (sVar 2)) (aCons (sC (.str "xy")) (aCons (sC .non) aNil)))))) (sCall (c 1003) [true, true] (aCons (sVar 0) (aCons (sC (.int 5)) aNil)))))
    (sSeq (sIfS (tB (sOp2 neD (sCall (c 1007) [true, true, true] (aCons (sC (.int 4)) (aCons (sVar 4) (aCons (sC .non) aNil)))) (sTup (aCons (sLst (aCons (sC (.int 0)) aNil)) (aCons (sCB reprD (aCons (sVar 4) aNil)) aNil))))) (sRet (sC (.bl false))) sSkip)
    (sSeq (sIfS (tB (sOp2 neD (sLc (wArgs rng1 (aCons (sC (.int 2)) aNil)) (gN 8) tYesT (sCall (c 1007) [true, true, true] (aCons (sVar 8) (aCons (sVar 4) (aCons (sVar 5) aNil)))) [8]) (sOp2 mulD (sLst (aCons (sTup (aCons (sLst (aCons (sC (.int 0)) aNil)) (aCons (sCB reprD (aCons (sVar 4) aNil)) aNil))) aNil)) (sC (.int 2))))) (sRet (sC (.bl false))) sSkip)
    (sSeq (sIfS (tB (sOp2 neD (sLc (wArgs rng1 (aCons (sC (.int 2)) aNil)) (gN 8) tYesT (sCall (c 1007) [true, true, true] (aCons (sVar 8) (aCons (sVar 3) (aCons (sVar 5) aNil)))) [8]) (sOp2 mulD (sLst (aCons (sTup (aCons (sLst (aCons (sC (.int 1)) aNil)) (aCons (sCB reprD (aCons (sVar 5) aNil)) aNil))) aNil)) (sC (.int 2))))) (sRet (sC (.bl false))) sSkip)
    (sSeq (sIfS (tB (sOp2 neD (sLc (wArgs rng2 (aCons (sC (.int 2)) (aCons (sC (.int 4)) aNil))) (gN 8) tYesT (sCall (c 1007) [true, true, true] (aCons (sVar 8) (aCons (sVar 6) (aCons (sVar 7) aNil)))) [8]) (sOp2 mulD (sLst (aCons (sTup (aCons (sLst (aCons (sC (.int 2)) aNil)) (aCons (sCB reprD (aCons (sVar 6) aNil)) aNil))) aNil)) (sC (.int 2))))) (sRet (sC (.bl false))) sSkip)
    (sRet (sOp2 eqD (sLc (wArgs rng2 (aCons (sC (.int 2)) (aCons (sC (.int 4)) aNil))) (gN 8) tYesT (sCall (c 1007) [true, true, true] (aCons (sVar 8) (aCons (sC (.str "x")) (aCons (sVar 7) aNil)))) [8]) (sOp2 mulD (sLst (aCons (sTup (aCons (sLst (aCons (sC (.int 3)) aNil)) (aCons (sCB reprD (aCons (sVar 7) aNil)) aNil))) aNil)) (sC (.int 2))))))))))))))
noncomputable def b_law_fresh_right (c : Nat → Fn) : S := (sSeq (sAsg 2 (sOp2 atD (sLst (aCons (sC (.str "x")) (aCons (sC (.str "x1")) (aCons (sC (.str "x7")) (aCons (sC (.str "y")) (aCons (sC (.str "z2")) (aCons (sC (.str "f")) aNil))))))) (sCall (c 1003) [true, true] (aCons (sVar 0) (aCons (sC (.int 6)) aNil)))))
    (sSeq (sAsg 3 (sCall (c 1008) [true, true] (aCons (sVar 2) (aCons (sCB listD (aCons (sVar 1) aNil)) aNil))))
    (sRet (sOp2 eqD (sCB reprD (aCons (sLst (aCons (sCall (c 36) [true, true] (aCons (sVar 2) (aCons (sVar 1) aNil))) (aCons (sCallK (c 36) [1, 0] [true, true] (aCons (sVar 1) (aCons (sVar 2) aNil))) aNil))) aNil)) (sCB reprD (aCons (sLst (aCons (sVar 3) (aCons (sVar 3) aNil))) aNil))))))
noncomputable def b_law_caught (c : Nat → Fn) : S := (sSeq (sAsg 3 (sC .non))
    (sSeq (sTry (catB xn "StepError") 4 (sIfS (tB (sOp2 eqD (sVar 0) (sC (.int 0)))) (sDrop (sCall (c 35) [true, true] (aCons (sVar 1) (aCons (sVar 2) aNil)))) (sIfS (tB (sOp2 eqD (sVar 0) (sC (.int 1)))) (sDrop (sCallK (c 35) [1, 0] [true, true] (aCons (sVar 2) (aCons (sVar 1) aNil)))) (sIfS (tB (sOp2 eqD (sVar 0) (sC (.int 2)))) (sDrop (sCall (c 36) [true, true] (aCons (sVar 1) (aCons (sVar 2) aNil)))) (sIfS (tB (sOp2 eqD (sVar 0) (sC (.int 3)))) (sDrop (sCallK (c 36) [1, 0] [true, true] (aCons (sVar 2) (aCons (sVar 1) aNil)))) (sDrop (sCall (c 34) [true] (aCons (sVar 1) aNil))))))) (sAsg 3 (sVar 4)))
    (sSeq (sIfS (tB (sOp2 isD (sVar 3) (sC .non))) (sRet (sC .non)) sSkip)
    (sSeq (sAsg 5 (sLst (aCons (sCB (isiX xn) (aCons (sVar 3) (aCons (sC (.cls "InvalidProgram")) aNil))) (aCons (sCB (isiX xn) (aCons (sVar 3) (aCons (sC (.cls "InvalidWides")) aNil))) (aCons (sCB (isiX xn) (aCons (sVar 3) (aCons (sC (.cls "InvalidName")) aNil))) (aCons (sCB (isiX xn) (aCons (sVar 3) (aCons (sC (.cls "InvalidNames")) aNil))) aNil))))))
    (sRet (sTup (aCons (sLc (wArgs rng1 (aCons (sC (.int 4)) aNil)) (gN 6) (tTru (sOp2 atD (sVar 5) (sVar 6))) (sVar 6) [6]) (aCons (sCB reprD (aCons (sOp1 (valX xn) (sVar 3)) aNil)) aNil))))))))
noncomputable def b_law_fresh_g1 : G := (gN 2)
noncomputable def b_law_fresh_b1 (c : Nat → Fn) : S := (sSeq (sAsg 3 (sOp2 addD (sOp2 atD (sVar 0) (sC (.int 0))) (sIf (tB (sOp2 gtD (sVar 2) (sC (.int 0)))) (sCB strD (aCons (sVar 2) aNil)) (sC (.str "")))))
    (sIfS (tB (sOp2 ninD (sVar 3) (sVar 1))) (sRet (sVar 3)) sSkip))
noncomputable def b_law_fresh (c : Nat → Fn) : S := (sSeq (sFor (wArgs rng1 (aCons (sOp2 addD (sCB lenD (aCons (sVar 1) aNil)) (sC (.int 1))) aNil)) b_law_fresh_g1 (b_law_fresh_b1 c))
    (sRet (sVar 0)))
noncomputable def fns (c : Nat → Fn) : Nat → Fn
  | 1000 => run 1 4 (b_law c)
  | 1001 => run 2 6 (b_law_spring c)
  | 1002 => run 1 9 (b_law_right c)
  | 1003 => run 2 5 (b_law_take c)
  | 1004 => run 3 5 (b_law_grown c)
  | 34 => run 1 3 (bd_spine c)
  | 35 => run 2 4 (bd_called c)
  | 1005 => run 3 9 (b_law_refused c)
  | 1006 => run 2 4 (b_law_fresh_right c)
  | 16 => run 1 1 (bd_need_wide c)
  | 5 => run 1 3 (bd_is_tree c)
  | 2 => run 1 2 (bd_anew c)
  | 1007 => run 3 7 (b_law_caught c)
  | 1008 => run 2 4 (b_law_fresh c)
  | 36 => run 2 3 (bd_fresh c)
  | 4 => run 1 1 (bd_is_node c)
  | 33 => run 1 1 (bd_need_name c)
  | 3 => run 1 3 (bd_is_plain_name c)
  | 32 => run 2 4 (bd_fresh_in c)
  | 1 => run 1 1 (bd_is_natural c)
  | 0 => run 1 1 (bd_is_integer c)
  | _ => fun _ => .bad
noncomputable def sem : Nat → Nat → Fn
  | 0, _ => fun _ => .bad
  | n + 1, j => fns (sem n) j
section
variable {n : Nat}
theorem sem_law : sem (n + 1) 1000 = run 1 4 (b_law (sem n)) := rfl
theorem sem_law_spring : sem (n + 1) 1001 = run 2 6 (b_law_spring (sem n)) := rfl
theorem sem_law_right : sem (n + 1) 1002 = run 1 9 (b_law_right (sem n)) := rfl
theorem sem_law_take : sem (n + 1) 1003 = run 2 5 (b_law_take (sem n)) := rfl
theorem sem_law_grown : sem (n + 1) 1004 = run 3 5 (b_law_grown (sem n)) := rfl
theorem sem_spine : sem (n + 1) 34 = run 1 3 (bd_spine (sem n)) := rfl
theorem sem_called : sem (n + 1) 35 = run 2 4 (bd_called (sem n)) := rfl
theorem sem_law_refused : sem (n + 1) 1005 = run 3 9 (b_law_refused (sem n)) := rfl
theorem sem_law_fresh_right : sem (n + 1) 1006 = run 2 4 (b_law_fresh_right (sem n)) := rfl
theorem sem_need_wide : sem (n + 1) 16 = run 1 1 (bd_need_wide (sem n)) := rfl
theorem sem_is_tree : sem (n + 1) 5 = run 1 3 (bd_is_tree (sem n)) := rfl
theorem sem_anew : sem (n + 1) 2 = run 1 2 (bd_anew (sem n)) := rfl
theorem sem_law_caught : sem (n + 1) 1007 = run 3 7 (b_law_caught (sem n)) := rfl
theorem sem_law_fresh : sem (n + 1) 1008 = run 2 4 (b_law_fresh (sem n)) := rfl
theorem sem_fresh : sem (n + 1) 36 = run 2 3 (bd_fresh (sem n)) := rfl
theorem sem_is_node : sem (n + 1) 4 = run 1 1 (bd_is_node (sem n)) := rfl
theorem sem_need_name : sem (n + 1) 33 = run 1 1 (bd_need_name (sem n)) := rfl
theorem sem_is_plain_name : sem (n + 1) 3 = run 1 3 (bd_is_plain_name (sem n)) := rfl
theorem sem_fresh_in : sem (n + 1) 32 = run 2 4 (bd_fresh_in (sem n)) := rfl
theorem sem_is_natural : sem (n + 1) 1 = run 1 1 (bd_is_natural (sem n)) := rfl
theorem sem_is_integer : sem (n + 1) 0 = run 1 1 (bd_is_integer (sem n)) := rfl
end
structure Tab (P : Program) (K : PySem.W.Frag) (mg : Str → Option Value) where
  d1000 : Df K mg "law" (top 33) ["script"]
  d1001 : Df K mg "_law_spring" (top 25) ["script", "k"]
  d1002 : Df K mg "_law_right" (top 32) ["spring"]
  d1003 : Df K mg "_law_take" (top 26) ["spring", "many"]
  d1004 : Df K mg "_law_grown" (top 27) ["spring", "many", "names"]
  d34 : Df K mg "spine" (top 21) ["wide"]
  d35 : Df K mg "called" (top 22) ["wide", "wides"]
  d1005 : Df K mg "_law_refused" (top 30) ["spring", "wides", "names"]
  d1006 : Df K mg "_law_fresh_right" (top 31) ["spring", "names"]
  d16 : Df K mg "need_wide" (top 19) ["wide"]
  d5 : Df K mg "is_tree" (top 16) ["value"]
  d2 : Df K mg "anew" (top 9) ["value"]
  d1007 : Df K mg "_law_caught" (top 29) ["which", "one", "other"]
  d1008 : Df K mg "_law_fresh" (top 28) ["name", "taken"]
  d36 : Df K mg "fresh" (top 23) ["name", "names"]
  d4 : Df K mg "is_node" (top 15) ["value"]
  d33 : Df K mg "need_name" (top 20) ["name"]
  d3 : Df K mg "is_plain_name" (top 14) ["value"]
  d32 : Df K mg "fresh_in" (top 17) ["name", "taken"]
  d1 : Df K mg "is_natural" (top 8) ["value"]
  d0 : Df K mg "is_integer" (top 7) ["value"]
  z_abs : mg "abs" = none
  z_all : mg "all" = none
  z_bool : mg "bool" = none
  z_int : mg "int" = none
  z_isinstance : mg "isinstance" = none
  z_len : mg "len" = none
  z_list : mg "list" = none
  z_max : mg "max" = none
  z_min : mg "min" = none
  z_range : mg "range" = none
  z_repr : mg "repr" = none
  z_str : mg "str" = none
  z_tuple : mg "tuple" = none
  g_DIGITS : ∃ t, mg "DIGITS" = some (Value.str "0123456789" t)
  g_LETTERS : ∃ t, mg "LETTERS" = some (Value.str "abcdefghijklmnopqrstuvwxyz" t)
  g_MOST_DIGITS : ∃ t, mg "MOST_DIGITS" = some (Value.int (6) t)
  xb : Xb P K mg ini
  x_InvalidName : XeCl P K mg "InvalidName"
  x_InvalidNames : XeCl P K mg "InvalidNames"
  x_InvalidProgram : XeCl P K mg "InvalidProgram"
  x_InvalidWides : XeCl P K mg "InvalidWides"
  x_StepError : XeCl P K mg "StepError"
  xs : Xs K xn
structure All (P : Program) (w : World) (base : Heap) {K : PySem.W.Frag} {mg : Str → Option Value} (T : Tab P K mg) (n : Nat) : Prop where
  o1000 : Ok P w base T.d1000 n (sem n 1000)
  o1001 : Ok P w base T.d1001 n (sem n 1001)
  o1002 : Ok P w base T.d1002 n (sem n 1002)
  o1003 : Ok P w base T.d1003 n (sem n 1003)
  o1004 : Ok P w base T.d1004 n (sem n 1004)
  o34 : Ok P w base T.d34 n (sem n 34)
  o35 : Ok P w base T.d35 n (sem n 35)
  o1005 : Ok P w base T.d1005 n (sem n 1005)
  o1006 : Ok P w base T.d1006 n (sem n 1006)
  o16 : Ok P w base T.d16 n (sem n 16)
  o5 : Ok P w base T.d5 n (sem n 5)
  o2 : Ok P w base T.d2 n (sem n 2)
  o1007 : Ok P w base T.d1007 n (sem n 1007)
  o1008 : Ok P w base T.d1008 n (sem n 1008)
  o36 : Ok P w base T.d36 n (sem n 36)
  o4 : Ok P w base T.d4 n (sem n 4)
  o33 : Ok P w base T.d33 n (sem n 33)
  o3 : Ok P w base T.d3 n (sem n 3)
  o32 : Ok P w base T.d32 n (sem n 32)
  o1 : Ok P w base T.d1 n (sem n 1)
  o0 : Ok P w base T.d0 n (sem n 0)
section
variable {P : Program} {w : World} {K : PySem.W.Frag} {mg : Str → Option Value} {base : Heap} {n : Nat}
theorem sc1000 : FnScope ["script", "k", "spring", "turn"] ["script"] (defScope (top 33)) := ⟨rfl, rfl, rfl, by decide +kernel, rfl, by decide +kernel, by decide +kernel⟩
theorem ok1000 (T : Tab P K mg) (A : All P w base T n) : Ok P w base T.d1000 (n + 1) (run 1 4 (b_law (sem n))) := by
  refine fn_ok (N := ["script", "k", "spring", "turn"]) (ps := ["script"]) (n := n) (b := b_law (sem n)) T.d1000.F sc1000 fun X E hP hw hK hmg hbase hN hc hr hs hfn hp tk => ?_
  subst hP hw hK hmg hbase
  have hd : X.N.Nodup := nxd hN (by decide +kernel)
  exact (sss_cons (ss_for hp hc (si_range1 (gl hs rfl) T.z_range (sa_cons (se_callB (cs_max hc) (gl hs rfl) T.z_max bt_max (sa_cons se_int (sa_cons (se_callB (cs_min hc) (gl hs rfl) T.z_min bt_min (sa_cons se_int (sa_cons (se_callB (cs_len) (gl hs rfl) T.z_len bt_len (sa_cons (se_var (i := 0) (nx hN rfl) (vis hs (by first | exact .inl rfl | exact .inr (.inl rfl) | exact .inr (.inr rfl)))) sa_nil)) sa_nil))) sa_nil))) sa_nil)) (sg_name (i := 1) hd (nx hN rfl) (loc hs (by first | exact .inl rfl | exact .inr rfl)) (.inl (hfn _))) (sss_cons (ss_asg (i := 2) hd (nx hN rfl) (loc hs (by first | exact .inl rfl | exact .inr rfl)) (se_df [true, true] T.d1001 A.o1001 hr (gl hs rfl) tk (sa_cons (se_var (i := 0) (nx hN rfl) (vis hs (by first | exact .inl rfl | exact .inr (.inl rfl) | exact .inr (.inr rfl)))) (sa_cons (se_var (i := 1) (nx hN rfl) (vis hs (by first | exact .inl rfl | exact .inr (.inl rfl) | exact .inr (.inr rfl)))) sa_nil))) (hf := .inl (hfn _)))
    (sss_one (ss_for hp hc (si_range1 (gl hs rfl) T.z_range (sa_cons se_int sa_nil)) (sg_name (i := 3) hd (nx hN rfl) (loc hs (by first | exact .inl rfl | exact .inr rfl)) (.inl (hfn _))) (sss_one (ss_if (st_not (st_tru (se_df [true] T.d1002 A.o1002 hr (gl hs rfl) tk (sa_cons (se_var (i := 2) (nx hN rfl) (vis hs (by first | exact .inl rfl | exact .inr (.inl rfl) | exact .inr (.inr rfl)))) sa_nil)))) (sss_one (ss_ret se_bl)) sss_nil))))))
    (sss_one (ss_ret se_bl)))
theorem sc1001 : FnScope ["script", "k", "cell", "blend", "one", "begin"] ["script", "k"] (defScope (top 25)) := ⟨rfl, rfl, rfl, by decide +kernel, rfl, by decide +kernel, by decide +kernel⟩
theorem ok1001 (T : Tab P K mg) (A : All P w base T n) : Ok P w base T.d1001 (n + 1) (run 2 6 (b_law_spring (sem n))) := by
  refine fn_ok (N := ["script", "k", "cell", "blend", "one", "begin"]) (ps := ["script", "k"]) (n := n) (b := b_law_spring (sem n)) T.d1001.F sc1001 fun X E hP hw hK hmg hbase hN hc hr hs hfn hp tk => ?_
  subst hP hw hK hmg hbase
  have hd : X.N.Nodup := nxd hN (by decide +kernel)
  exact (sss_cons (ss_asg (i := 2) hd (nx hN rfl) (loc hs (by first | exact .inl rfl | exact .inr rfl)) (se_if (st_cmp (os_lt hr) (se_var (i := 1) (nx hN rfl) (vis hs (by first | exact .inl rfl | exact .inr (.inl rfl) | exact .inr (.inr rfl)))) (se_callB (cs_len) (gl hs rfl) T.z_len bt_len (sa_cons (se_var (i := 0) (nx hN rfl) (vis hs (by first | exact .inl rfl | exact .inr (.inl rfl) | exact .inr (.inr rfl)))) sa_nil)) rfl) (se_callTy (cs_int) (gl hs rfl) T.z_int bt_int (sa_cons (se_ix (se_var (i := 0) (nx hN rfl) (vis hs (by first | exact .inl rfl | exact .inr (.inl rfl) | exact .inr (.inr rfl)))) (se_var (i := 1) (nx hN rfl) (vis hs (by first | exact .inl rfl | exact .inr (.inl rfl) | exact .inr (.inr rfl))))) sa_nil)) (se_op (os_add) se_int (se_op (os_mul) se_int (se_var (i := 1) (nx hN rfl) (vis hs (by first | exact .inl rfl | exact .inr (.inl rfl) | exact .inr (.inr rfl))))))) (hf := .inl (hfn _)))
    (sss_cons (ss_asg (i := 3) hd (nx hN rfl) (loc hs (by first | exact .inl rfl | exact .inr rfl)) (se_op (os_add) se_int (se_op (os_mul) se_int (se_callB (cs_len) (gl hs rfl) T.z_len bt_len (sa_cons (se_var (i := 0) (nx hN rfl) (vis hs (by first | exact .inl rfl | exact .inr (.inl rfl) | exact .inr (.inr rfl)))) sa_nil)))) (hf := .inl (hfn _)))
    (sss_cons (ss_for hp hc (si_seq (se_var (i := 0) (nx hN rfl) (vis hs (by first | exact .inl rfl | exact .inr (.inl rfl) | exact .inr (.inr rfl))))) (sg_name (i := 4) hd (nx hN rfl) (loc hs (by first | exact .inl rfl | exact .inr rfl)) (.inl (hfn _))) (sss_one (ss_asg (i := 3) hd (nx hN rfl) (loc hs (by first | exact .inl rfl | exact .inr rfl)) (se_op (os_mod) (se_callTy (cs_int) (gl hs rfl) T.z_int bt_int (sa_cons (se_op (os_add) (se_op (os_mul) (se_var (i := 3) (nx hN rfl) (vis hs (by first | exact .inl rfl | exact .inr (.inl rfl) | exact .inr (.inr rfl)))) se_int) (se_op (os_mod) (se_callTy (cs_int) (gl hs rfl) T.z_int bt_int (sa_cons (se_var (i := 4) (nx hN rfl) (vis hs (by first | exact .inl rfl | exact .inr (.inl rfl) | exact .inr (.inr rfl)))) sa_nil)) (se_op (os_add) (se_op (os_pow) se_int se_int) se_int))) sa_nil)) (se_op (os_add) (se_op (os_pow) se_int se_int) se_int)) (hf := .inl (hfn _)))))
    (sss_cons (ss_asg (i := 5) hd (nx hN rfl) (loc hs (by first | exact .inl rfl | exact .inr rfl)) (se_op (os_mod) (se_callTy (cs_int) (gl hs rfl) T.z_int bt_int (sa_cons (se_op (os_add) (se_op (os_add) (se_op (os_add) (se_op (os_mul) (se_callB (cs_abs) (gl hs rfl) T.z_abs bt_abs (sa_cons (se_var (i := 2) (nx hN rfl) (vis hs (by first | exact .inl rfl | exact .inr (.inl rfl) | exact .inr (.inr rfl)))) sa_nil)) se_int) (se_op (os_mul) (se_var (i := 3) (nx hN rfl) (vis hs (by first | exact .inl rfl | exact .inr (.inl rfl) | exact .inr (.inr rfl)))) se_int)) (se_op (os_mul) se_int (se_callTy (cs_int) (gl hs rfl) T.z_int bt_int (sa_cons (se_cmp (os_lt hr) (se_var (i := 2) (nx hN rfl) (vis hs (by first | exact .inl rfl | exact .inr (.inl rfl) | exact .inr (.inr rfl)))) se_int rfl) sa_nil)))) (se_op (os_mul) se_int (se_var (i := 1) (nx hN rfl) (vis hs (by first | exact .inl rfl | exact .inr (.inl rfl) | exact .inr (.inr rfl)))))) sa_nil)) (se_op (os_add) (se_op (os_pow) se_int se_int) se_int)) (hf := .inl (hfn _)))
    (sss_one (ss_ret (se_lst (sa_cons (se_callB (cs_max hc) (gl hs rfl) T.z_max bt_max (sa_cons se_int (sa_cons (se_op (os_sub) (se_callB (cs_abs) (gl hs rfl) T.z_abs bt_abs (sa_cons (se_var (i := 2) (nx hN rfl) (vis hs (by first | exact .inl rfl | exact .inr (.inl rfl) | exact .inr (.inr rfl)))) sa_nil)) (se_op (os_pow) se_int se_int)) sa_nil))) (sa_cons (se_var (i := 5) (nx hN rfl) (vis hs (by first | exact .inl rfl | exact .inr (.inl rfl) | exact .inr (.inr rfl)))) (sa_cons se_int sa_nil))))))))))
theorem sc1002 : FnScope ["spring", "head", "wides", "turn", "whole", "one", "told", "more", "names"] ["spring"] (defScope (top 32)) := ⟨rfl, rfl, rfl, by decide +kernel, rfl, by decide +kernel, by decide +kernel⟩
theorem ok1002 (T : Tab P K mg) (A : All P w base T n) : Ok P w base T.d1002 (n + 1) (run 1 9 (b_law_right (sem n))) := by
  refine fn_ok (N := ["spring", "head", "wides", "turn", "whole", "one", "told", "more", "names"]) (ps := ["spring"]) (n := n) (b := b_law_right (sem n)) T.d1002.F sc1002 fun X E hP hw hK hmg hbase hN hc hr hs hfn hp tk => ?_
  subst hP hw hK hmg hbase
  have hd : X.N.Nodup := nxd hN (by decide +kernel)
  exact (sss_cons (ss_asg (i := 1) hd (nx hN rfl) (loc hs (by first | exact .inl rfl | exact .inr rfl)) (se_ix (se_lst (sa_cons (se_tup (sa_cons se_str (sa_cons se_str sa_nil))) (sa_cons (se_tup (sa_cons se_str (sa_cons se_int sa_nil))) (sa_cons (se_tup (sa_cons se_str (sa_cons se_str (sa_cons (se_tup (sa_cons se_str (sa_cons (se_tup (sa_cons se_str (sa_cons se_str sa_nil))) (sa_cons (se_tup (sa_cons se_str (sa_cons se_str sa_nil))) sa_nil)))) sa_nil)))) (sa_cons (se_tup (sa_cons se_str (sa_cons se_str sa_nil))) sa_nil))))) (se_df [true, true] T.d1003 A.o1003 hr (gl hs rfl) tk (sa_cons (se_var (i := 0) (nx hN rfl) (vis hs (by first | exact .inl rfl | exact .inr (.inl rfl) | exact .inr (.inr rfl)))) (sa_cons se_int sa_nil)))) (hf := .inl (hfn _)))
    (sss_cons (ss_asg (i := 2) hd (nx hN rfl) (loc hs (by first | exact .inl rfl | exact .inr rfl)) (se_lst sa_nil) (hf := .inl (hfn _)))
    (sss_cons (ss_for hp hc (si_range1 (gl hs rfl) T.z_range (sa_cons (se_df [true, true] T.d1003 A.o1003 hr (gl hs rfl) tk (sa_cons (se_var (i := 0) (nx hN rfl) (vis hs (by first | exact .inl rfl | exact .inr (.inl rfl) | exact .inr (.inr rfl)))) (sa_cons se_int sa_nil))) sa_nil)) (sg_name (i := 3) hd (nx hN rfl) (loc hs (by first | exact .inl rfl | exact .inr rfl)) (.inl (hfn _))) (sss_one (ss_expr (se_append (i := 2) (nx hN rfl) (vis hs (by first | exact .inl rfl | exact .inr (.inl rfl) | exact .inr (.inr rfl))) (sa_cons (se_if (st_cmp (os_eq hr) (se_df [true, true] T.d1003 A.o1003 hr (gl hs rfl) tk (sa_cons (se_var (i := 0) (nx hN rfl) (vis hs (by first | exact .inl rfl | exact .inr (.inl rfl) | exact .inr (.inr rfl)))) (sa_cons se_int sa_nil))) se_int rfl) (se_tup (sa_cons se_str (sa_cons (se_var (i := 3) (nx hN rfl) (vis hs (by first | exact .inl rfl | exact .inr (.inl rfl) | exact .inr (.inr rfl)))) sa_nil))) (se_df [true, true, true] T.d1004 A.o1004 hr (gl hs rfl) tk (sa_cons (se_var (i := 0) (nx hN rfl) (vis hs (by first | exact .inl rfl | exact .inr (.inl rfl) | exact .inr (.inr rfl)))) (sa_cons (se_op (os_add) se_int (se_df [true, true] T.d1003 A.o1003 hr (gl hs rfl) tk (sa_cons (se_var (i := 0) (nx hN rfl) (vis hs (by first | exact .inl rfl | exact .inr (.inl rfl) | exact .inr (.inr rfl)))) (sa_cons se_int sa_nil)))) (sa_cons (se_lst (sa_cons se_str (sa_cons se_str (sa_cons se_str sa_nil)))) sa_nil))))) sa_nil)))))
    (sss_cons (ss_asg (i := 4) hd (nx hN rfl) (loc hs (by first | exact .inl rfl | exact .inr rfl)) (se_var (i := 1) (nx hN rfl) (vis hs (by first | exact .inl rfl | exact .inr (.inl rfl) | exact .inr (.inr rfl)))) (hf := .inl (hfn _)))
    (sss_cons (ss_for hp hc (si_seq (se_var (i := 2) (nx hN rfl) (vis hs (by first | exact .inl rfl | exact .inr (.inl rfl) | exact .inr (.inr rfl))))) (sg_name (i := 5) hd (nx hN rfl) (loc hs (by first | exact .inl rfl | exact .inr rfl)) (.inl (hfn _))) (sss_one (ss_asg (i := 4) hd (nx hN rfl) (loc hs (by first | exact .inl rfl | exact .inr rfl)) (se_tup (sa_cons se_str (sa_cons (se_var (i := 4) (nx hN rfl) (vis hs (by first | exact .inl rfl | exact .inr (.inl rfl) | exact .inr (.inr rfl)))) (sa_cons (se_var (i := 5) (nx hN rfl) (vis hs (by first | exact .inl rfl | exact .inr (.inl rfl) | exact .inr (.inr rfl)))) sa_nil)))) (hf := .inl (hfn _)))))
    (sss_cons (ss_asg (i := 2) hd (nx hN rfl) (loc hs (by first | exact .inl rfl | exact .inr rfl)) (se_callTy (cs_tuple) (gl hs rfl) T.z_tuple bt_tuple (sa_cons (se_var (i := 2) (nx hN rfl) (vis hs (by first | exact .inl rfl | exact .inr (.inl rfl) | exact .inr (.inr rfl)))) sa_nil)) (hf := .inl (hfn _)))
    (sss_cons (ss_asg (i := 6) hd (nx hN rfl) (loc hs (by first | exact .inl rfl | exact .inr rfl)) (se_lst (sa_cons (se_df [true, true] T.d35 A.o35 hr (gl hs rfl) tk (sa_cons (se_var (i := 1) (nx hN rfl) (vis hs (by first | exact .inl rfl | exact .inr (.inl rfl) | exact .inr (.inr rfl)))) (sa_cons (se_var (i := 2) (nx hN rfl) (vis hs (by first | exact .inl rfl | exact .inr (.inl rfl) | exact .inr (.inr rfl)))) sa_nil))) (sa_cons (se_dfK (ks := ["wides", "wide"]) (ix := [1, 0]) [true, true] T.d35 A.o35 hr (gl hs rfl) (bindsK_of T.d35.F fun _ _ _ _ _ _ ws hl => match ws, hl with | [_, _], _ => fun zs hz => by cases hz; rfl) tk (sk_cons (se_var (i := 2) (nx hN rfl) (vis hs (by first | exact .inl rfl | exact .inr (.inl rfl) | exact .inr (.inr rfl)))) (sk_cons (se_var (i := 1) (nx hN rfl) (vis hs (by first | exact .inl rfl | exact .inr (.inl rfl) | exact .inr (.inr rfl)))) sk_nil)) rfl) (sa_cons (se_df [true] T.d34 A.o34 hr (gl hs rfl) tk (sa_cons (se_var (i := 4) (nx hN rfl) (vis hs (by first | exact .inl rfl | exact .inr (.inl rfl) | exact .inr (.inr rfl)))) sa_nil)) (sa_cons (se_dfK (ks := ["wide"]) (ix := [0]) [true] T.d34 A.o34 hr (gl hs rfl) (bindsK_of T.d34.F fun _ _ _ _ _ _ ws hl => match ws, hl with | [_], _ => fun zs hz => by cases hz; rfl) tk (sk_cons (se_var (i := 4) (nx hN rfl) (vis hs (by first | exact .inl rfl | exact .inr (.inl rfl) | exact .inr (.inr rfl)))) sk_nil) rfl) sa_nil))))) (hf := .inl (hfn _)))
    (sss_cons (ss_if (st_cmp (os_ne hr) (se_callB (cs_repr hr) (gl hs rfl) T.z_repr bt_repr (sa_cons (se_var (i := 6) (nx hN rfl) (vis hs (by first | exact .inl rfl | exact .inr (.inl rfl) | exact .inr (.inr rfl)))) sa_nil)) (se_callB (cs_repr hr) (gl hs rfl) T.z_repr bt_repr (sa_cons (se_lst (sa_cons (se_var (i := 4) (nx hN rfl) (vis hs (by first | exact .inl rfl | exact .inr (.inl rfl) | exact .inr (.inr rfl)))) (sa_cons (se_var (i := 4) (nx hN rfl) (vis hs (by first | exact .inl rfl | exact .inr (.inl rfl) | exact .inr (.inr rfl)))) (sa_cons (se_tup (sa_cons (se_var (i := 1) (nx hN rfl) (vis hs (by first | exact .inl rfl | exact .inr (.inl rfl) | exact .inr (.inr rfl)))) (sa_cons (se_var (i := 2) (nx hN rfl) (vis hs (by first | exact .inl rfl | exact .inr (.inl rfl) | exact .inr (.inr rfl)))) sa_nil))) (sa_cons (se_tup (sa_cons (se_var (i := 1) (nx hN rfl) (vis hs (by first | exact .inl rfl | exact .inr (.inl rfl) | exact .inr (.inr rfl)))) (sa_cons (se_var (i := 2) (nx hN rfl) (vis hs (by first | exact .inl rfl | exact .inr (.inl rfl) | exact .inr (.inr rfl)))) sa_nil))) sa_nil))))) sa_nil)) rfl) (sss_one (ss_ret se_bl)) sss_nil)
    (sss_cons (ss_asg (i := 7) hd (nx hN rfl) (loc hs (by first | exact .inl rfl | exact .inr rfl)) (se_tup (sa_cons (se_tup (sa_cons se_str (sa_cons se_str sa_nil))) (sa_cons (se_var (i := 4) (nx hN rfl) (vis hs (by first | exact .inl rfl | exact .inr (.inl rfl) | exact .inr (.inr rfl)))) sa_nil))) (hf := .inl (hfn _)))
    (sss_cons (ss_if (SW.toT (sw_or (st_cmp (os_ne hr) (se_callB (cs_repr hr) (gl hs rfl) T.z_repr bt_repr (sa_cons (se_df [true, true] T.d35 A.o35 hr (gl hs rfl) tk (sa_cons (se_var (i := 4) (nx hN rfl) (vis hs (by first | exact .inl rfl | exact .inr (.inl rfl) | exact .inr (.inr rfl)))) (sa_cons (se_var (i := 7) (nx hN rfl) (vis hs (by first | exact .inl rfl | exact .inr (.inl rfl) | exact .inr (.inr rfl)))) sa_nil))) sa_nil)) (se_callB (cs_repr hr) (gl hs rfl) T.z_repr bt_repr (sa_cons (se_tup (sa_cons se_str (sa_cons (se_tup (sa_cons se_str (sa_cons (se_var (i := 4) (nx hN rfl) (vis hs (by first | exact .inl rfl | exact .inr (.inl rfl) | exact .inr (.inr rfl)))) (sa_cons (se_tup (sa_cons se_str (sa_cons se_str sa_nil))) sa_nil)))) (sa_cons (se_var (i := 4) (nx hN rfl) (vis hs (by first | exact .inl rfl | exact .inr (.inl rfl) | exact .inr (.inr rfl)))) sa_nil)))) sa_nil)) rfl) (sw_or1 (st_cmp (os_ne hr) (se_df [true] T.d34 A.o34 hr (gl hs rfl) tk (sa_cons (se_df [true, true] T.d35 A.o35 hr (gl hs rfl) tk (sa_cons (se_var (i := 4) (nx hN rfl) (vis hs (by first | exact .inl rfl | exact .inr (.inl rfl) | exact .inr (.inr rfl)))) (sa_cons (se_var (i := 7) (nx hN rfl) (vis hs (by first | exact .inl rfl | exact .inr (.inl rfl) | exact .inr (.inr rfl)))) sa_nil))) sa_nil)) (se_tup (sa_cons (se_var (i := 1) (nx hN rfl) (vis hs (by first | exact .inl rfl | exact .inr (.inl rfl) | exact .inr (.inr rfl)))) (sa_cons (se_op (os_add) (se_var (i := 2) (nx hN rfl) (vis hs (by first | exact .inl rfl | exact .inr (.inl rfl) | exact .inr (.inr rfl)))) (se_var (i := 7) (nx hN rfl) (vis hs (by first | exact .inl rfl | exact .inr (.inl rfl) | exact .inr (.inr rfl))))) sa_nil))) rfl)))) (sss_one (ss_ret se_bl)) sss_nil)
    (sss_cons (ss_asg (i := 8) hd (nx hN rfl) (loc hs (by first | exact .inl rfl | exact .inr rfl)) (se_lst sa_nil) (hf := .inl (hfn _)))
    (sss_cons (ss_for hp hc (si_range1 (gl hs rfl) T.z_range (sa_cons (se_df [true, true] T.d1003 A.o1003 hr (gl hs rfl) tk (sa_cons (se_var (i := 0) (nx hN rfl) (vis hs (by first | exact .inl rfl | exact .inr (.inl rfl) | exact .inr (.inr rfl)))) (sa_cons se_int sa_nil))) sa_nil)) (sg_name (i := 3) hd (nx hN rfl) (loc hs (by first | exact .inl rfl | exact .inr rfl)) (.inl (hfn _))) (sss_one (ss_expr (se_append (i := 8) (nx hN rfl) (vis hs (by first | exact .inl rfl | exact .inr (.inl rfl) | exact .inr (.inr rfl))) (sa_cons (se_ix (se_lst (sa_cons se_str (sa_cons se_str (sa_cons se_str (sa_cons se_str (sa_cons se_str (sa_cons se_str (sa_cons se_str (sa_cons se_str (sa_cons se_str (sa_cons se_str sa_nil))))))))))) (se_df [true, true] T.d1003 A.o1003 hr (gl hs rfl) tk (sa_cons (se_var (i := 0) (nx hN rfl) (vis hs (by first | exact .inl rfl | exact .inr (.inl rfl) | exact .inr (.inr rfl)))) (sa_cons se_int sa_nil)))) sa_nil)))))
    (sss_one (ss_ret (se_and (se_df [true, true] T.d1006 A.o1006 hr (gl hs rfl) tk (sa_cons (se_var (i := 0) (nx hN rfl) (vis hs (by first | exact .inl rfl | exact .inr (.inl rfl) | exact .inr (.inr rfl)))) (sa_cons (se_callTy (cs_tuple) (gl hs rfl) T.z_tuple bt_tuple (sa_cons (se_var (i := 8) (nx hN rfl) (vis hs (by first | exact .inl rfl | exact .inr (.inl rfl) | exact .inr (.inr rfl)))) sa_nil)) sa_nil))) (se_one (se_df [true, true, true] T.d1005 A.o1005 hr (gl hs rfl) tk (sa_cons (se_var (i := 0) (nx hN rfl) (vis hs (by first | exact .inl rfl | exact .inr (.inl rfl) | exact .inr (.inr rfl)))) (sa_cons (se_var (i := 2) (nx hN rfl) (vis hs (by first | exact .inl rfl | exact .inr (.inl rfl) | exact .inr (.inr rfl)))) (sa_cons (se_callTy (cs_tuple) (gl hs rfl) T.z_tuple bt_tuple (sa_cons (se_var (i := 8) (nx hN rfl) (vis hs (by first | exact .inl rfl | exact .inr (.inl rfl) | exact .inr (.inr rfl)))) sa_nil)) sa_nil))))))))))))))))))))
theorem sc1003 : FnScope ["spring", "many", "digit", "turn", "blend"] ["spring", "many"] (defScope (top 26)) := ⟨rfl, rfl, rfl, by decide +kernel, rfl, by decide +kernel, by decide +kernel⟩
theorem ok1003 (T : Tab P K mg) (A : All P w base T n) : Ok P w base T.d1003 (n + 1) (run 2 5 (b_law_take (sem n))) := by
  refine fn_ok (N := ["spring", "many", "digit", "turn", "blend"]) (ps := ["spring", "many"]) (n := n) (b := b_law_take (sem n)) T.d1003.F sc1003 fun X E hP hw hK hmg hbase hN hc hr hs hfn hp tk => ?_
  subst hP hw hK hmg hbase
  have hd : X.N.Nodup := nxd hN (by decide +kernel)
  exact (sss_cons (ss_if (st_cmp (os_gt hr) (se_ix (se_var (i := 0) (nx hN rfl) (vis hs (by first | exact .inl rfl | exact .inr (.inl rfl) | exact .inr (.inr rfl)))) se_int) se_int rfl) (sss_cons (ss_asg (i := 2) hd (nx hN rfl) (loc hs (by first | exact .inl rfl | exact .inr rfl)) (se_op (os_mod) (se_callTy (cs_int) (gl hs rfl) T.z_int bt_int (sa_cons (se_ix (se_var (i := 0) (nx hN rfl) (vis hs (by first | exact .inl rfl | exact .inr (.inl rfl) | exact .inr (.inr rfl)))) se_int) sa_nil)) (se_var (i := 1) (nx hN rfl) (vis hs (by first | exact .inl rfl | exact .inr (.inl rfl) | exact .inr (.inr rfl))))) (hf := .inl (hfn _)))
    (sss_cons (ss_set (i := 0) (nx hN rfl) (vis hs (by first | exact .inl rfl | exact .inr (.inl rfl) | exact .inr (.inr rfl))) se_int (se_op (os_fdiv) (se_ix (se_var (i := 0) (nx hN rfl) (vis hs (by first | exact .inl rfl | exact .inr (.inl rfl) | exact .inr (.inr rfl)))) se_int) (se_var (i := 1) (nx hN rfl) (vis hs (by first | exact .inl rfl | exact .inr (.inl rfl) | exact .inr (.inr rfl))))))
    (sss_one (ss_ret (se_var (i := 2) (nx hN rfl) (vis hs (by first | exact .inl rfl | exact .inr (.inl rfl) | exact .inr (.inr rfl)))))))) sss_nil)
    (sss_cons (ss_set (i := 0) (nx hN rfl) (vis hs (by first | exact .inl rfl | exact .inr (.inl rfl) | exact .inr (.inr rfl))) se_int (se_op (os_add) (se_ix (se_var (i := 0) (nx hN rfl) (vis hs (by first | exact .inl rfl | exact .inr (.inl rfl) | exact .inr (.inr rfl)))) se_int) se_int))
    (sss_cons (ss_asg (i := 3) hd (nx hN rfl) (loc hs (by first | exact .inl rfl | exact .inr rfl)) (se_ix (se_var (i := 0) (nx hN rfl) (vis hs (by first | exact .inl rfl | exact .inr (.inl rfl) | exact .inr (.inr rfl)))) se_int) (hf := .inl (hfn _)))
    (sss_cons (ss_asg (i := 4) hd (nx hN rfl) (loc hs (by first | exact .inl rfl | exact .inr rfl)) (se_op (os_mod) (se_callTy (cs_int) (gl hs rfl) T.z_int bt_int (sa_cons (se_op (os_add) (se_op (os_add) (se_op (os_mul) (se_op (os_mul) (se_op (os_add) (se_ix (se_var (i := 0) (nx hN rfl) (vis hs (by first | exact .inl rfl | exact .inr (.inl rfl) | exact .inr (.inr rfl)))) se_int) se_int) (se_op (os_add) (se_var (i := 3) (nx hN rfl) (vis hs (by first | exact .inl rfl | exact .inr (.inl rfl) | exact .inr (.inr rfl)))) se_int)) se_int) (se_op (os_mul) (se_op (os_mul) (se_op (os_mul) (se_var (i := 3) (nx hN rfl) (vis hs (by first | exact .inl rfl | exact .inr (.inl rfl) | exact .inr (.inr rfl)))) (se_var (i := 3) (nx hN rfl) (vis hs (by first | exact .inl rfl | exact .inr (.inl rfl) | exact .inr (.inr rfl))))) (se_var (i := 3) (nx hN rfl) (vis hs (by first | exact .inl rfl | exact .inr (.inl rfl) | exact .inr (.inr rfl))))) se_int)) se_int) sa_nil)) (se_op (os_add) (se_op (os_pow) se_int se_int) se_int)) (hf := .inl (hfn _)))
    (sss_cons (ss_asg (i := 4) hd (nx hN rfl) (loc hs (by first | exact .inl rfl | exact .inr rfl)) (se_op (os_mod) (se_callTy (cs_int) (gl hs rfl) T.z_int bt_int (sa_cons (se_op (os_add) (se_op (os_add) (se_op (os_mul) (se_var (i := 4) (nx hN rfl) (vis hs (by first | exact .inl rfl | exact .inr (.inl rfl) | exact .inr (.inr rfl)))) (se_var (i := 4) (nx hN rfl) (vis hs (by first | exact .inl rfl | exact .inr (.inl rfl) | exact .inr (.inr rfl))))) (se_op (os_mul) (se_ix (se_var (i := 0) (nx hN rfl) (vis hs (by first | exact .inl rfl | exact .inr (.inl rfl) | exact .inr (.inr rfl)))) se_int) se_int)) (se_var (i := 3) (nx hN rfl) (vis hs (by first | exact .inl rfl | exact .inr (.inl rfl) | exact .inr (.inr rfl))))) sa_nil)) (se_op (os_add) (se_op (os_pow) se_int se_int) se_int)) (hf := .inl (hfn _)))
    (sss_cons (ss_asg (i := 4) hd (nx hN rfl) (loc hs (by first | exact .inl rfl | exact .inr rfl)) (se_op (os_mod) (se_callTy (cs_int) (gl hs rfl) T.z_int bt_int (sa_cons (se_op (os_add) (se_op (os_mul) (se_op (os_mul) (se_var (i := 4) (nx hN rfl) (vis hs (by first | exact .inl rfl | exact .inr (.inl rfl) | exact .inr (.inr rfl)))) (se_var (i := 4) (nx hN rfl) (vis hs (by first | exact .inl rfl | exact .inr (.inl rfl) | exact .inr (.inr rfl))))) se_int) (se_op (os_mul) (se_var (i := 4) (nx hN rfl) (vis hs (by first | exact .inl rfl | exact .inr (.inl rfl) | exact .inr (.inr rfl)))) se_int)) sa_nil)) (se_op (os_add) (se_op (os_pow) se_int se_int) se_int)) (hf := .inl (hfn _)))
    (sss_one (ss_ret (se_op (os_mod) (se_callTy (cs_int) (gl hs rfl) T.z_int bt_int (sa_cons (se_op (os_fdiv) (se_var (i := 4) (nx hN rfl) (vis hs (by first | exact .inl rfl | exact .inr (.inl rfl) | exact .inr (.inr rfl)))) se_int) sa_nil)) (se_var (i := 1) (nx hN rfl) (vis hs (by first | exact .inl rfl | exact .inr (.inl rfl) | exact .inr (.inr rfl)))))))))))))
theorem sc1004 : FnScope ["spring", "many", "names", "name", "left"] ["spring", "many", "names"] (defScope (top 27)) := ⟨rfl, rfl, rfl, by decide +kernel, rfl, by decide +kernel, by decide +kernel⟩
theorem ok1004 (T : Tab P K mg) (A : All P w base T n) : Ok P w base T.d1004 (n + 1) (run 3 5 (b_law_grown (sem n))) := by
  refine fn_ok (N := ["spring", "many", "names", "name", "left"]) (ps := ["spring", "many", "names"]) (n := n) (b := b_law_grown (sem n)) T.d1004.F sc1004 fun X E hP hw hK hmg hbase hN hc hr hs hfn hp tk => ?_
  subst hP hw hK hmg hbase
  have hd : X.N.Nodup := nxd hN (by decide +kernel)
  exact (sss_cons (ss_if (st_cmp (os_eq hr) (se_var (i := 1) (nx hN rfl) (vis hs (by first | exact .inl rfl | exact .inr (.inl rfl) | exact .inr (.inr rfl)))) se_int rfl) (sss_one (ss_ret (se_tup (sa_cons se_str (sa_cons (se_ix (se_var (i := 2) (nx hN rfl) (vis hs (by first | exact .inl rfl | exact .inr (.inl rfl) | exact .inr (.inr rfl)))) (se_df [true, true] T.d1003 A.o1003 hr (gl hs rfl) tk (sa_cons (se_var (i := 0) (nx hN rfl) (vis hs (by first | exact .inl rfl | exact .inr (.inl rfl) | exact .inr (.inr rfl)))) (sa_cons (se_callB (cs_len) (gl hs rfl) T.z_len bt_len (sa_cons (se_var (i := 2) (nx hN rfl) (vis hs (by first | exact .inl rfl | exact .inr (.inl rfl) | exact .inr (.inr rfl)))) sa_nil)) sa_nil)))) sa_nil))))) sss_nil)
    (sss_cons (ss_if (SW.toT (sw_or (st_cmp (os_eq hr) (se_var (i := 1) (nx hN rfl) (vis hs (by first | exact .inl rfl | exact .inr (.inl rfl) | exact .inr (.inr rfl)))) se_int rfl) (sw_or1 (st_cmp (os_lt hr) (se_df [true, true] T.d1003 A.o1003 hr (gl hs rfl) tk (sa_cons (se_var (i := 0) (nx hN rfl) (vis hs (by first | exact .inl rfl | exact .inr (.inl rfl) | exact .inr (.inr rfl)))) (sa_cons se_int sa_nil))) se_int rfl)))) (sss_cons (ss_asg (i := 3) hd (nx hN rfl) (loc hs (by first | exact .inl rfl | exact .inr rfl)) (se_ix (se_var (i := 2) (nx hN rfl) (vis hs (by first | exact .inl rfl | exact .inr (.inl rfl) | exact .inr (.inr rfl)))) (se_df [true, true] T.d1003 A.o1003 hr (gl hs rfl) tk (sa_cons (se_var (i := 0) (nx hN rfl) (vis hs (by first | exact .inl rfl | exact .inr (.inl rfl) | exact .inr (.inr rfl)))) (sa_cons (se_callB (cs_len) (gl hs rfl) T.z_len bt_len (sa_cons (se_var (i := 2) (nx hN rfl) (vis hs (by first | exact .inl rfl | exact .inr (.inl rfl) | exact .inr (.inr rfl)))) sa_nil)) sa_nil)))) (hf := .inl (hfn _)))
    (sss_one (ss_ret (se_tup (sa_cons se_str (sa_cons (se_var (i := 3) (nx hN rfl) (vis hs (by first | exact .inl rfl | exact .inr (.inl rfl) | exact .inr (.inr rfl)))) (sa_cons (se_df [true, true, true] T.d1004 A.o1004 hr (gl hs rfl) tk (sa_cons (se_var (i := 0) (nx hN rfl) (vis hs (by first | exact .inl rfl | exact .inr (.inl rfl) | exact .inr (.inr rfl)))) (sa_cons (se_op (os_sub) (se_var (i := 1) (nx hN rfl) (vis hs (by first | exact .inl rfl | exact .inr (.inl rfl) | exact .inr (.inr rfl)))) se_int) (sa_cons (se_var (i := 2) (nx hN rfl) (vis hs (by first | exact .inl rfl | exact .inr (.inl rfl) | exact .inr (.inr rfl)))) sa_nil)))) sa_nil))))))) sss_nil)
    (sss_cons (ss_asg (i := 4) hd (nx hN rfl) (loc hs (by first | exact .inl rfl | exact .inr rfl)) (se_op (os_add) se_int (se_df [true, true] T.d1003 A.o1003 hr (gl hs rfl) tk (sa_cons (se_var (i := 0) (nx hN rfl) (vis hs (by first | exact .inl rfl | exact .inr (.inl rfl) | exact .inr (.inr rfl)))) (sa_cons (se_op (os_sub) (se_var (i := 1) (nx hN rfl) (vis hs (by first | exact .inl rfl | exact .inr (.inl rfl) | exact .inr (.inr rfl)))) se_int) sa_nil)))) (hf := .inl (hfn _)))
    (sss_one (ss_ret (se_tup (sa_cons se_str (sa_cons (se_df [true, true, true] T.d1004 A.o1004 hr (gl hs rfl) tk (sa_cons (se_var (i := 0) (nx hN rfl) (vis hs (by first | exact .inl rfl | exact .inr (.inl rfl) | exact .inr (.inr rfl)))) (sa_cons (se_var (i := 4) (nx hN rfl) (vis hs (by first | exact .inl rfl | exact .inr (.inl rfl) | exact .inr (.inr rfl)))) (sa_cons (se_var (i := 2) (nx hN rfl) (vis hs (by first | exact .inl rfl | exact .inr (.inl rfl) | exact .inr (.inr rfl)))) sa_nil)))) (sa_cons (se_df [true, true, true] T.d1004 A.o1004 hr (gl hs rfl) tk (sa_cons (se_var (i := 0) (nx hN rfl) (vis hs (by first | exact .inl rfl | exact .inr (.inl rfl) | exact .inr (.inr rfl)))) (sa_cons (se_op (os_sub) (se_op (os_sub) (se_var (i := 1) (nx hN rfl) (vis hs (by first | exact .inl rfl | exact .inr (.inl rfl) | exact .inr (.inr rfl)))) se_int) (se_var (i := 4) (nx hN rfl) (vis hs (by first | exact .inl rfl | exact .inr (.inl rfl) | exact .inr (.inr rfl))))) (sa_cons (se_var (i := 2) (nx hN rfl) (vis hs (by first | exact .inl rfl | exact .inr (.inl rfl) | exact .inr (.inr rfl)))) sa_nil)))) sa_nil)))))))))
theorem sc34 : FnScope ["wide", "head", "arguments"] ["wide"] (defScope (top 21)) := ⟨rfl, rfl, rfl, by decide +kernel, rfl, by decide +kernel, by decide +kernel⟩
theorem ok34 (T : Tab P K mg) (A : All P w base T n) : Ok P w base T.d34 (n + 1) (run 1 3 (bd_spine (sem n))) := by
  refine fn_ok (N := ["wide", "head", "arguments"]) (ps := ["wide"]) (n := n) (b := bd_spine (sem n)) T.d34.F sc34 fun X E hP hw hK hmg hbase hN hc hr hs hfn hp tk => ?_
  subst hP hw hK hmg hbase
  have hd : X.N.Nodup := nxd hN (by decide +kernel)
  exact (sss_cons (ss_expr (se_df [true] T.d16 A.o16 hr (gl hs rfl) tk (sa_cons (se_var (i := 0) (nx hN rfl) (vis hs (by first | exact .inl rfl | exact .inr (.inl rfl) | exact .inr (.inr rfl)))) sa_nil)))
    (sss_cons (ss_asg (i := 1) hd (nx hN rfl) (loc hs (by first | exact .inl rfl | exact .inr rfl)) (se_var (i := 0) (nx hN rfl) (vis hs (by first | exact .inl rfl | exact .inr (.inl rfl) | exact .inr (.inr rfl)))) (hf := .inl (hfn _)))
    (sss_cons (ss_asg (i := 2) hd (nx hN rfl) (loc hs (by first | exact .inl rfl | exact .inr rfl)) (se_lst sa_nil) (hf := .inl (hfn _)))
    (sss_cons (ss_while hp (st_cmp (os_eq hr) (se_ix (se_var (i := 1) (nx hN rfl) (vis hs (by first | exact .inl rfl | exact .inr (.inl rfl) | exact .inr (.inr rfl)))) se_int) se_str rfl) (sss_cons (ss_expr (se_append (i := 2) (nx hN rfl) (vis hs (by first | exact .inl rfl | exact .inr (.inl rfl) | exact .inr (.inr rfl))) (sa_cons (se_ix (se_var (i := 1) (nx hN rfl) (vis hs (by first | exact .inl rfl | exact .inr (.inl rfl) | exact .inr (.inr rfl)))) se_int) sa_nil)))
    (sss_one (ss_asg (i := 1) hd (nx hN rfl) (loc hs (by first | exact .inl rfl | exact .inr rfl)) (se_ix (se_var (i := 1) (nx hN rfl) (vis hs (by first | exact .inl rfl | exact .inr (.inl rfl) | exact .inr (.inr rfl)))) se_int) (hf := .inl (hfn _))))))
    (sss_one (ss_ret (se_tup (sa_cons (se_var (i := 1) (nx hN rfl) (vis hs (by first | exact .inl rfl | exact .inr (.inl rfl) | exact .inr (.inr rfl)))) (sa_cons (se_callTy (cs_tuple) (gl hs rfl) T.z_tuple bt_tuple (sa_cons (se_rev (se_var (i := 2) (nx hN rfl) (vis hs (by first | exact .inl rfl | exact .inr (.inl rfl) | exact .inr (.inr rfl))))) sa_nil)) sa_nil)))))))))
theorem sc35 : FnScope ["wide", "wides", "found", "one"] ["wide", "wides"] (defScope (top 22)) := ⟨rfl, rfl, rfl, by decide +kernel, rfl, by decide +kernel, by decide +kernel⟩
theorem ok35 (T : Tab P K mg) (A : All P w base T n) : Ok P w base T.d35 (n + 1) (run 2 4 (bd_called (sem n))) := by
  refine fn_ok (N := ["wide", "wides", "found", "one"]) (ps := ["wide", "wides"]) (n := n) (b := bd_called (sem n)) T.d35.F sc35 fun X E hP hw hK hmg hbase hN hc hr hs hfn hp tk => ?_
  subst hP hw hK hmg hbase
  have hd : X.N.Nodup := nxd hN (by decide +kernel)
  exact (sss_cons (ss_expr (se_df [true] T.d16 A.o16 hr (gl hs rfl) tk (sa_cons (se_var (i := 0) (nx hN rfl) (vis hs (by first | exact .inl rfl | exact .inr (.inl rfl) | exact .inr (.inr rfl)))) sa_nil)))
    (sss_cons (ss_if (SW.toT (sw_or (st_not (st_tru (se_callB (cs_isi) (gl hs rfl) T.z_isinstance bt_isinstance (sa_cons (se_var (i := 1) (nx hN rfl) (vis hs (by first | exact .inl rfl | exact .inr (.inl rfl) | exact .inr (.inr rfl)))) (sa_cons (se_ty (gl hs rfl) T.z_tuple bt_tuple) sa_nil))))) (sw_or1 (st_not (st_tru (se_callB (cs_all hc) (gl hs rfl) T.z_all bt_all (sa_cons (se_lc hc hd (si_seq (se_var (i := 1) (nx hN rfl) (vis hs (by first | exact .inl rfl | exact .inr (.inl rfl) | exact .inr (.inr rfl))))) (blko hN hs (own := [("one", 3)]) ⟨rfl, by decide +kernel, by decide +kernel, by decide +kernel, by decide +kernel⟩) rfl (by decide) (fun _ _ _ _ _ => (sg_name (i := 3) hd (nx hN rfl) (locB (by first | exact .inl rfl | exact .inr rfl)) (hfB (by first | exact .inl rfl | exact .inr rfl)))) (fun _ _ _ _ _ => sts_nil) (fun _ _ _ _ _ => (se_df [true] T.d5 A.o5 hr (glB rfl) takes_F (sa_cons (se_var (i := 3) (nx hN rfl) (visB (by first | exact .inl rfl | exact .inr (.inl rfl) | exact .inr (.inr rfl)))) sa_nil)))) sa_nil))))))) (sss_one (ss_raise T.x_InvalidWides hc tk hr (gl hs rfl) (sa_cons (se_df [true] T.d2 A.o2 hr (gl hs rfl) tk (sa_cons (se_var (i := 1) (nx hN rfl) (vis hs (by first | exact .inl rfl | exact .inr (.inl rfl) | exact .inr (.inr rfl)))) sa_nil)) sa_nil))) sss_nil)
    (sss_cons (ss_asg (i := 2) hd (nx hN rfl) (loc hs (by first | exact .inl rfl | exact .inr rfl)) (se_var (i := 0) (nx hN rfl) (vis hs (by first | exact .inl rfl | exact .inr (.inl rfl) | exact .inr (.inr rfl)))) (hf := .inl (hfn _)))
    (sss_cons (ss_for hp hc (si_seq (se_var (i := 1) (nx hN rfl) (vis hs (by first | exact .inl rfl | exact .inr (.inl rfl) | exact .inr (.inr rfl))))) (sg_name (i := 3) hd (nx hN rfl) (loc hs (by first | exact .inl rfl | exact .inr rfl)) (.inl (hfn _))) (sss_one (ss_asg (i := 2) hd (nx hN rfl) (loc hs (by first | exact .inl rfl | exact .inr rfl)) (se_tup (sa_cons se_str (sa_cons (se_var (i := 2) (nx hN rfl) (vis hs (by first | exact .inl rfl | exact .inr (.inl rfl) | exact .inr (.inr rfl)))) (sa_cons (se_var (i := 3) (nx hN rfl) (vis hs (by first | exact .inl rfl | exact .inr (.inl rfl) | exact .inr (.inr rfl)))) sa_nil)))) (hf := .inl (hfn _)))))
    (sss_one (ss_ret (se_var (i := 2) (nx hN rfl) (vis hs (by first | exact .inl rfl | exact .inr (.inl rfl) | exact .inr (.inr rfl))))))))))
theorem sc1005 : FnScope ["spring", "wides", "names", "t", "bad", "row", "name", "some", "which"] ["spring", "wides", "names"] (defScope (top 30)) := ⟨rfl, rfl, rfl, by decide +kernel, rfl, by decide +kernel, by decide +kernel⟩
theorem ok1005 (T : Tab P K mg) (A : All P w base T n) : Ok P w base T.d1005 (n + 1) (run 3 9 (b_law_refused (sem n))) := by
  refine fn_ok (N := ["spring", "wides", "names", "t", "bad", "row", "name", "some", "which"]) (ps := ["spring", "wides", "names"]) (n := n) (b := b_law_refused (sem n)) T.d1005.F sc1005 fun X E hP hw hK hmg hbase hN hc hr hs hfn hp tk => ?_
  subst hP hw hK hmg hbase
  have hd : X.N.Nodup := nxd hN (by decide +kernel)
  exact (sss_cons (ss_asg (i := 3) hd (nx hN rfl) (loc hs (by first | exact .inl rfl | exact .inr rfl)) (se_tup (sa_cons se_str (sa_cons se_str sa_nil))) (hf := .inl (hfn _)))
    (sss_cons (ss_asg (i := 4) hd (nx hN rfl) (loc hs (by first | exact .inl rfl | exact .inr rfl)) (se_ix (se_lst (sa_cons se_non (sa_cons (se_tup (sa_cons se_str (sa_cons (se_un us_neg se_int) sa_nil))) (sa_cons (se_tup (sa_cons se_str (sa_cons se_str (sa_cons se_str sa_nil)))) (sa_cons se_str (sa_cons (se_tup (sa_cons se_str (sa_cons se_str sa_nil))) sa_nil)))))) (se_df [true, true] T.d1003 A.o1003 hr (gl hs rfl) tk (sa_cons (se_var (i := 0) (nx hN rfl) (vis hs (by first | exact .inl rfl | exact .inr (.inl rfl) | exact .inr (.inr rfl)))) (sa_cons se_int sa_nil)))) (hf := .inl (hfn _)))
    (sss_cons (ss_asg (i := 5) hd (nx hN rfl) (loc hs (by first | exact .inl rfl | exact .inr rfl)) (se_ix (se_lst (sa_cons (se_callTy (cs_list) (gl hs rfl) T.z_list bt_list (sa_cons (se_var (i := 1) (nx hN rfl) (vis hs (by first | exact .inl rfl | exact .inr (.inl rfl) | exact .inr (.inr rfl)))) sa_nil)) (sa_cons (se_op (os_add) (se_var (i := 1) (nx hN rfl) (vis hs (by first | exact .inl rfl | exact .inr (.inl rfl) | exact .inr (.inr rfl)))) (se_tup (sa_cons (se_var (i := 4) (nx hN rfl) (vis hs (by first | exact .inl rfl | exact .inr (.inl rfl) | exact .inr (.inr rfl)))) sa_nil))) (sa_cons (se_op (os_add) (se_tup (sa_cons (se_var (i := 4) (nx hN rfl) (vis hs (by first | exact .inl rfl | exact .inr (.inl rfl) | exact .inr (.inr rfl)))) sa_nil)) (se_var (i := 1) (nx hN rfl) (vis hs (by first | exact .inl rfl | exact .inr (.inl rfl) | exact .inr (.inr rfl))))) (sa_cons (se_var (i := 3) (nx hN rfl) (vis hs (by first | exact .inl rfl | exact .inr (.inl rfl) | exact .inr (.inr rfl)))) (sa_cons se_non sa_nil)))))) (se_df [true, true] T.d1003 A.o1003 hr (gl hs rfl) tk (sa_cons (se_var (i := 0) (nx hN rfl) (vis hs (by first | exact .inl rfl | exact .inr (.inl rfl) | exact .inr (.inr rfl)))) (sa_cons se_int sa_nil)))) (hf := .inl (hfn _)))
    (sss_cons (ss_asg (i := 6) hd (nx hN rfl) (loc hs (by first | exact .inl rfl | exact .inr rfl)) (se_ix (se_lst (sa_cons se_str (sa_cons se_str (sa_cons se_str (sa_cons se_non (sa_cons se_int (sa_cons (se_tup (sa_cons se_str sa_nil)) (sa_cons se_str sa_nil)))))))) (se_df [true, true] T.d1003 A.o1003 hr (gl hs rfl) tk (sa_cons (se_var (i := 0) (nx hN rfl) (vis hs (by first | exact .inl rfl | exact .inr (.inl rfl) | exact .inr (.inr rfl)))) (sa_cons se_int sa_nil)))) (hf := .inl (hfn _)))
    (sss_cons (ss_asg (i := 7) hd (nx hN rfl) (loc hs (by first | exact .inl rfl | exact .inr rfl)) (se_ix (se_lst (sa_cons (se_callTy (cs_list) (gl hs rfl) T.z_list bt_list (sa_cons (se_var (i := 2) (nx hN rfl) (vis hs (by first | exact .inl rfl | exact .inr (.inl rfl) | exact .inr (.inr rfl)))) sa_nil)) (sa_cons (se_op (os_add) (se_var (i := 2) (nx hN rfl) (vis hs (by first | exact .inl rfl | exact .inr (.inl rfl) | exact .inr (.inr rfl)))) (se_tup (sa_cons (se_var (i := 6) (nx hN rfl) (vis hs (by first | exact .inl rfl | exact .inr (.inl rfl) | exact .inr (.inr rfl)))) sa_nil))) (sa_cons (se_op (os_add) (se_tup (sa_cons (se_var (i := 6) (nx hN rfl) (vis hs (by first | exact .inl rfl | exact .inr (.inl rfl) | exact .inr (.inr rfl)))) sa_nil)) (se_var (i := 2) (nx hN rfl) (vis hs (by first | exact .inl rfl | exact .inr (.inl rfl) | exact .inr (.inr rfl))))) (sa_cons se_str (sa_cons se_non sa_nil)))))) (se_df [true, true] T.d1003 A.o1003 hr (gl hs rfl) tk (sa_cons (se_var (i := 0) (nx hN rfl) (vis hs (by first | exact .inl rfl | exact .inr (.inl rfl) | exact .inr (.inr rfl)))) (sa_cons se_int sa_nil)))) (hf := .inl (hfn _)))
    (sss_cons (ss_if (st_cmp (os_ne hr) (se_df [true, true, true] T.d1007 A.o1007 hr (gl hs rfl) tk (sa_cons se_int (sa_cons (se_var (i := 4) (nx hN rfl) (vis hs (by first | exact .inl rfl | exact .inr (.inl rfl) | exact .inr (.inr rfl)))) (sa_cons se_non sa_nil)))) (se_tup (sa_cons (se_lst (sa_cons se_int sa_nil)) (sa_cons (se_callB (cs_repr hr) (gl hs rfl) T.z_repr bt_repr (sa_cons (se_var (i := 4) (nx hN rfl) (vis hs (by first | exact .inl rfl | exact .inr (.inl rfl) | exact .inr (.inr rfl)))) sa_nil)) sa_nil))) rfl) (sss_one (ss_ret se_bl)) sss_nil)
    (sss_cons (ss_if (st_cmp (os_ne hr) (se_lc hc hd (si_range1 (gl hs rfl) T.z_range (sa_cons se_int sa_nil)) (blko hN hs (own := [("which", 8)]) ⟨rfl, by decide +kernel, by decide +kernel, by decide +kernel, by decide +kernel⟩) rfl (by decide) (fun _ _ _ _ _ => (sg_name (i := 8) hd (nx hN rfl) (locB (by first | exact .inl rfl | exact .inr rfl)) (hfB (by first | exact .inl rfl | exact .inr rfl)))) (fun _ _ _ _ _ => sts_nil) (fun _ _ _ _ _ => (se_df [true, true, true] T.d1007 A.o1007 hr (glB rfl) takes_F (sa_cons (se_var (i := 8) (nx hN rfl) (visB (by first | exact .inl rfl | exact .inr (.inl rfl) | exact .inr (.inr rfl)))) (sa_cons (se_var (i := 4) (nx hN rfl) (visB (by first | exact .inl rfl | exact .inr (.inl rfl) | exact .inr (.inr rfl)))) (sa_cons (se_var (i := 5) (nx hN rfl) (visB (by first | exact .inl rfl | exact .inr (.inl rfl) | exact .inr (.inr rfl)))) sa_nil)))))) (se_op (os_mul) (se_lst (sa_cons (se_tup (sa_cons (se_lst (sa_cons se_int sa_nil)) (sa_cons (se_callB (cs_repr hr) (gl hs rfl) T.z_repr bt_repr (sa_cons (se_var (i := 4) (nx hN rfl) (vis hs (by first | exact .inl rfl | exact .inr (.inl rfl) | exact .inr (.inr rfl)))) sa_nil)) sa_nil))) sa_nil)) se_int) rfl) (sss_one (ss_ret se_bl)) sss_nil)
    (sss_cons (ss_if (st_cmp (os_ne hr) (se_lc hc hd (si_range1 (gl hs rfl) T.z_range (sa_cons se_int sa_nil)) (blko hN hs (own := [("which", 8)]) ⟨rfl, by decide +kernel, by decide +kernel, by decide +kernel, by decide +kernel⟩) rfl (by decide) (fun _ _ _ _ _ => (sg_name (i := 8) hd (nx hN rfl) (locB (by first | exact .inl rfl | exact .inr rfl)) (hfB (by first | exact .inl rfl | exact .inr rfl)))) (fun _ _ _ _ _ => sts_nil) (fun _ _ _ _ _ => (se_df [true, true, true] T.d1007 A.o1007 hr (glB rfl) takes_F (sa_cons (se_var (i := 8) (nx hN rfl) (visB (by first | exact .inl rfl | exact .inr (.inl rfl) | exact .inr (.inr rfl)))) (sa_cons (se_var (i := 3) (nx hN rfl) (visB (by first | exact .inl rfl | exact .inr (.inl rfl) | exact .inr (.inr rfl)))) (sa_cons (se_var (i := 5) (nx hN rfl) (visB (by first | exact .inl rfl | exact .inr (.inl rfl) | exact .inr (.inr rfl)))) sa_nil)))))) (se_op (os_mul) (se_lst (sa_cons (se_tup (sa_cons (se_lst (sa_cons se_int sa_nil)) (sa_cons (se_callB (cs_repr hr) (gl hs rfl) T.z_repr bt_repr (sa_cons (se_var (i := 5) (nx hN rfl) (vis hs (by first | exact .inl rfl | exact .inr (.inl rfl) | exact .inr (.inr rfl)))) sa_nil)) sa_nil))) sa_nil)) se_int) rfl) (sss_one (ss_ret se_bl)) sss_nil)
    (sss_cons (ss_if (st_cmp (os_ne hr) (se_lc hc hd (si_range2 (gl hs rfl) T.z_range (sa_cons se_int (sa_cons se_int sa_nil))) (blko hN hs (own := [("which", 8)]) ⟨rfl, by decide +kernel, by decide +kernel, by decide +kernel, by decide +kernel⟩) rfl (by decide) (fun _ _ _ _ _ => (sg_name (i := 8) hd (nx hN rfl) (locB (by first | exact .inl rfl | exact .inr rfl)) (hfB (by first | exact .inl rfl | exact .inr rfl)))) (fun _ _ _ _ _ => sts_nil) (fun _ _ _ _ _ => (se_df [true, true, true] T.d1007 A.o1007 hr (glB rfl) takes_F (sa_cons (se_var (i := 8) (nx hN rfl) (visB (by first | exact .inl rfl | exact .inr (.inl rfl) | exact .inr (.inr rfl)))) (sa_cons (se_var (i := 6) (nx hN rfl) (visB (by first | exact .inl rfl | exact .inr (.inl rfl) | exact .inr (.inr rfl)))) (sa_cons (se_var (i := 7) (nx hN rfl) (visB (by first | exact .inl rfl | exact .inr (.inl rfl) | exact .inr (.inr rfl)))) sa_nil)))))) (se_op (os_mul) (se_lst (sa_cons (se_tup (sa_cons (se_lst (sa_cons se_int sa_nil)) (sa_cons (se_callB (cs_repr hr) (gl hs rfl) T.z_repr bt_repr (sa_cons (se_var (i := 6) (nx hN rfl) (vis hs (by first | exact .inl rfl | exact .inr (.inl rfl) | exact .inr (.inr rfl)))) sa_nil)) sa_nil))) sa_nil)) se_int) rfl) (sss_one (ss_ret se_bl)) sss_nil)
    (sss_one (ss_ret (se_cmp (os_eq hr) (se_lc hc hd (si_range2 (gl hs rfl) T.z_range (sa_cons se_int (sa_cons se_int sa_nil))) (blko hN hs (own := [("which", 8)]) ⟨rfl, by decide +kernel, by decide +kernel, by decide +kernel, by decide +kernel⟩) rfl (by decide) (fun _ _ _ _ _ => (sg_name (i := 8) hd (nx hN rfl) (locB (by first | exact .inl rfl | exact .inr rfl)) (hfB (by first | exact .inl rfl | exact .inr rfl)))) (fun _ _ _ _ _ => sts_nil) (fun _ _ _ _ _ => (se_df [true, true, true] T.d1007 A.o1007 hr (glB rfl) takes_F (sa_cons (se_var (i := 8) (nx hN rfl) (visB (by first | exact .inl rfl | exact .inr (.inl rfl) | exact .inr (.inr rfl)))) (sa_cons se_str (sa_cons (se_var (i := 7) (nx hN rfl) (visB (by first | exact .inl rfl | exact .inr (.inl rfl) | exact .inr (.inr rfl)))) sa_nil)))))) (se_op (os_mul) (se_lst (sa_cons (se_tup (sa_cons (se_lst (sa_cons se_int sa_nil)) (sa_cons (se_callB (cs_repr hr) (gl hs rfl) T.z_repr bt_repr (sa_cons (se_var (i := 7) (nx hN rfl) (vis hs (by first | exact .inl rfl | exact .inr (.inl rfl) | exact .inr (.inr rfl)))) sa_nil)) sa_nil))) sa_nil)) se_int) rfl))))))))))))
theorem sc1006 : FnScope ["spring", "names", "name", "due"] ["spring", "names"] (defScope (top 31)) := ⟨rfl, rfl, rfl, by decide +kernel, rfl, by decide +kernel, by decide +kernel⟩
theorem ok1006 (T : Tab P K mg) (A : All P w base T n) : Ok P w base T.d1006 (n + 1) (run 2 4 (b_law_fresh_right (sem n))) := by
  refine fn_ok (N := ["spring", "names", "name", "due"]) (ps := ["spring", "names"]) (n := n) (b := b_law_fresh_right (sem n)) T.d1006.F sc1006 fun X E hP hw hK hmg hbase hN hc hr hs hfn hp tk => ?_
  subst hP hw hK hmg hbase
  have hd : X.N.Nodup := nxd hN (by decide +kernel)
  exact (sss_cons (ss_asg (i := 2) hd (nx hN rfl) (loc hs (by first | exact .inl rfl | exact .inr rfl)) (se_ix (se_lst (sa_cons se_str (sa_cons se_str (sa_cons se_str (sa_cons se_str (sa_cons se_str (sa_cons se_str sa_nil))))))) (se_df [true, true] T.d1003 A.o1003 hr (gl hs rfl) tk (sa_cons (se_var (i := 0) (nx hN rfl) (vis hs (by first | exact .inl rfl | exact .inr (.inl rfl) | exact .inr (.inr rfl)))) (sa_cons se_int sa_nil)))) (hf := .inl (hfn _)))
    (sss_cons (ss_asg (i := 3) hd (nx hN rfl) (loc hs (by first | exact .inl rfl | exact .inr rfl)) (se_df [true, true] T.d1008 A.o1008 hr (gl hs rfl) tk (sa_cons (se_var (i := 2) (nx hN rfl) (vis hs (by first | exact .inl rfl | exact .inr (.inl rfl) | exact .inr (.inr rfl)))) (sa_cons (se_callTy (cs_list) (gl hs rfl) T.z_list bt_list (sa_cons (se_var (i := 1) (nx hN rfl) (vis hs (by first | exact .inl rfl | exact .inr (.inl rfl) | exact .inr (.inr rfl)))) sa_nil)) sa_nil))) (hf := .inl (hfn _)))
    (sss_one (ss_ret (se_cmp (os_eq hr) (se_callB (cs_repr hr) (gl hs rfl) T.z_repr bt_repr (sa_cons (se_lst (sa_cons (se_df [true, true] T.d36 A.o36 hr (gl hs rfl) tk (sa_cons (se_var (i := 2) (nx hN rfl) (vis hs (by first | exact .inl rfl | exact .inr (.inl rfl) | exact .inr (.inr rfl)))) (sa_cons (se_var (i := 1) (nx hN rfl) (vis hs (by first | exact .inl rfl | exact .inr (.inl rfl) | exact .inr (.inr rfl)))) sa_nil))) (sa_cons (se_dfK (ks := ["names", "name"]) (ix := [1, 0]) [true, true] T.d36 A.o36 hr (gl hs rfl) (bindsK_of T.d36.F fun _ _ _ _ _ _ ws hl => match ws, hl with | [_, _], _ => fun zs hz => by cases hz; rfl) tk (sk_cons (se_var (i := 1) (nx hN rfl) (vis hs (by first | exact .inl rfl | exact .inr (.inl rfl) | exact .inr (.inr rfl)))) (sk_cons (se_var (i := 2) (nx hN rfl) (vis hs (by first | exact .inl rfl | exact .inr (.inl rfl) | exact .inr (.inr rfl)))) sk_nil)) rfl) sa_nil))) sa_nil)) (se_callB (cs_repr hr) (gl hs rfl) T.z_repr bt_repr (sa_cons (se_lst (sa_cons (se_var (i := 3) (nx hN rfl) (vis hs (by first | exact .inl rfl | exact .inr (.inl rfl) | exact .inr (.inr rfl)))) (sa_cons (se_var (i := 3) (nx hN rfl) (vis hs (by first | exact .inl rfl | exact .inr (.inl rfl) | exact .inr (.inr rfl)))) sa_nil))) sa_nil)) rfl)))))
theorem sc16 : FnScope ["wide"] ["wide"] (defScope (top 19)) := ⟨rfl, rfl, rfl, by decide +kernel, rfl, by decide +kernel, by decide +kernel⟩
theorem ok16 (T : Tab P K mg) (A : All P w base T n) : Ok P w base T.d16 (n + 1) (run 1 1 (bd_need_wide (sem n))) := by
  refine fn_ok (N := ["wide"]) (ps := ["wide"]) (n := n) (b := bd_need_wide (sem n)) T.d16.F sc16 fun X E hP hw hK hmg hbase hN hc hr hs hfn hp tk => ?_
  subst hP hw hK hmg hbase
  have hd : X.N.Nodup := nxd hN (by decide +kernel)
  exact (sss_one (ss_if (st_not (st_tru (se_df [true] T.d5 A.o5 hr (gl hs rfl) tk (sa_cons (se_var (i := 0) (nx hN rfl) (vis hs (by first | exact .inl rfl | exact .inr (.inl rfl) | exact .inr (.inr rfl)))) sa_nil)))) (sss_one (ss_raise T.x_InvalidProgram hc tk hr (gl hs rfl) (sa_cons (se_df [true] T.d2 A.o2 hr (gl hs rfl) tk (sa_cons (se_var (i := 0) (nx hN rfl) (vis hs (by first | exact .inl rfl | exact .inr (.inl rfl) | exact .inr (.inr rfl)))) sa_nil)) sa_nil))) sss_nil))
theorem sc5 : FnScope ["value", "pile", "one"] ["value"] (defScope (top 16)) := ⟨rfl, rfl, rfl, by decide +kernel, rfl, by decide +kernel, by decide +kernel⟩
theorem ok5 (T : Tab P K mg) (A : All P w base T n) : Ok P w base T.d5 (n + 1) (run 1 3 (bd_is_tree (sem n))) := by
  refine fn_ok (N := ["value", "pile", "one"]) (ps := ["value"]) (n := n) (b := bd_is_tree (sem n)) T.d5.F sc5 fun X E hP hw hK hmg hbase hN hc hr hs hfn hp tk => ?_
  subst hP hw hK hmg hbase
  have hd : X.N.Nodup := nxd hN (by decide +kernel)
  exact (sss_cons (ss_asg (i := 1) hd (nx hN rfl) (loc hs (by first | exact .inl rfl | exact .inr rfl)) (se_lst (sa_cons (se_var (i := 0) (nx hN rfl) (vis hs (by first | exact .inl rfl | exact .inr (.inl rfl) | exact .inr (.inr rfl)))) sa_nil)) (hf := .inl (hfn _)))
    (sss_cons (ss_while hp (st_cmp (os_gt hr) (se_callB (cs_len) (gl hs rfl) T.z_len bt_len (sa_cons (se_var (i := 1) (nx hN rfl) (vis hs (by first | exact .inl rfl | exact .inr (.inl rfl) | exact .inr (.inr rfl)))) sa_nil)) se_int rfl) (sss_cons (ss_asg (i := 2) hd (nx hN rfl) (loc hs (by first | exact .inl rfl | exact .inr rfl)) (se_pop (i := 1) (nx hN rfl) (vis hs (by first | exact .inl rfl | exact .inr (.inl rfl) | exact .inr (.inr rfl)))) (hf := .inl (hfn _)))
    (sss_cons (ss_if (st_not (st_tru (se_df [true] T.d4 A.o4 hr (gl hs rfl) tk (sa_cons (se_var (i := 2) (nx hN rfl) (vis hs (by first | exact .inl rfl | exact .inr (.inl rfl) | exact .inr (.inr rfl)))) sa_nil)))) (sss_one (ss_ret se_bl)) sss_nil)
    (sss_one (ss_if (st_cmp (os_eq hr) (se_ix (se_var (i := 2) (nx hN rfl) (vis hs (by first | exact .inl rfl | exact .inr (.inl rfl) | exact .inr (.inr rfl)))) se_int) se_str rfl) (sss_one (ss_expr (se_append (i := 1) (nx hN rfl) (vis hs (by first | exact .inl rfl | exact .inr (.inl rfl) | exact .inr (.inr rfl))) (sa_cons (se_ix (se_var (i := 2) (nx hN rfl) (vis hs (by first | exact .inl rfl | exact .inr (.inl rfl) | exact .inr (.inr rfl)))) se_int) sa_nil)))) (sss_one (ss_if (st_cmp (os_eq hr) (se_ix (se_var (i := 2) (nx hN rfl) (vis hs (by first | exact .inl rfl | exact .inr (.inl rfl) | exact .inr (.inr rfl)))) se_int) se_str rfl) (sss_cons (ss_expr (se_append (i := 1) (nx hN rfl) (vis hs (by first | exact .inl rfl | exact .inr (.inl rfl) | exact .inr (.inr rfl))) (sa_cons (se_ix (se_var (i := 2) (nx hN rfl) (vis hs (by first | exact .inl rfl | exact .inr (.inl rfl) | exact .inr (.inr rfl)))) se_int) sa_nil)))
    (sss_one (ss_expr (se_append (i := 1) (nx hN rfl) (vis hs (by first | exact .inl rfl | exact .inr (.inl rfl) | exact .inr (.inr rfl))) (sa_cons (se_ix (se_var (i := 2) (nx hN rfl) (vis hs (by first | exact .inl rfl | exact .inr (.inl rfl) | exact .inr (.inr rfl)))) se_int) sa_nil))))) sss_nil)))))))
    (sss_one (ss_ret se_bl))))
theorem sc2 : FnScope ["value", "item"] ["value"] (defScope (top 9)) := ⟨rfl, rfl, rfl, by decide +kernel, rfl, by decide +kernel, by decide +kernel⟩
theorem ok2 (T : Tab P K mg) (A : All P w base T n) : Ok P w base T.d2 (n + 1) (run 1 2 (bd_anew (sem n))) := by
  refine fn_ok (N := ["value", "item"]) (ps := ["value"]) (n := n) (b := bd_anew (sem n)) T.d2.F sc2 fun X E hP hw hK hmg hbase hN hc hr hs hfn hp tk => ?_
  subst hP hw hK hmg hbase
  have hd : X.N.Nodup := nxd hN (by decide +kernel)
  exact (sss_cons (ss_if (st_tru (se_callB (cs_isi) (gl hs rfl) T.z_isinstance bt_isinstance (sa_cons (se_var (i := 0) (nx hN rfl) (vis hs (by first | exact .inl rfl | exact .inr (.inl rfl) | exact .inr (.inr rfl)))) (sa_cons (se_ty (gl hs rfl) T.z_tuple bt_tuple) sa_nil)))) (sss_one (ss_ret (se_callTy (cs_tuple) (gl hs rfl) T.z_tuple bt_tuple (sa_cons (se_lc hc hd (si_seq (se_var (i := 0) (nx hN rfl) (vis hs (by first | exact .inl rfl | exact .inr (.inl rfl) | exact .inr (.inr rfl))))) (blko hN hs (own := [("item", 1)]) ⟨rfl, by decide +kernel, by decide +kernel, by decide +kernel, by decide +kernel⟩) rfl (by decide) (fun _ _ _ _ _ => (sg_name (i := 1) hd (nx hN rfl) (locB (by first | exact .inl rfl | exact .inr rfl)) (hfB (by first | exact .inl rfl | exact .inr rfl)))) (fun _ _ _ _ _ => sts_nil) (fun _ _ _ _ _ => (se_df [true] T.d2 A.o2 hr (glB rfl) takes_F (sa_cons (se_var (i := 1) (nx hN rfl) (visB (by first | exact .inl rfl | exact .inr (.inl rfl) | exact .inr (.inr rfl)))) sa_nil)))) sa_nil)))) sss_nil)
    (sss_cons (ss_if (st_tru (se_callB (cs_isi) (gl hs rfl) T.z_isinstance bt_isinstance (sa_cons (se_var (i := 0) (nx hN rfl) (vis hs (by first | exact .inl rfl | exact .inr (.inl rfl) | exact .inr (.inr rfl)))) (sa_cons (se_ty (gl hs rfl) T.z_list bt_list) sa_nil)))) (sss_one (ss_ret (se_lc hc hd (si_seq (se_var (i := 0) (nx hN rfl) (vis hs (by first | exact .inl rfl | exact .inr (.inl rfl) | exact .inr (.inr rfl))))) (blko hN hs (own := [("item", 1)]) ⟨rfl, by decide +kernel, by decide +kernel, by decide +kernel, by decide +kernel⟩) rfl (by decide) (fun _ _ _ _ _ => (sg_name (i := 1) hd (nx hN rfl) (locB (by first | exact .inl rfl | exact .inr rfl)) (hfB (by first | exact .inl rfl | exact .inr rfl)))) (fun _ _ _ _ _ => sts_nil) (fun _ _ _ _ _ => (se_df [true] T.d2 A.o2 hr (glB rfl) takes_F (sa_cons (se_var (i := 1) (nx hN rfl) (visB (by first | exact .inl rfl | exact .inr (.inl rfl) | exact .inr (.inr rfl)))) sa_nil)))))) sss_nil)
    (sss_one (ss_ret (se_var (i := 0) (nx hN rfl) (vis hs (by first | exact .inl rfl | exact .inr (.inl rfl) | exact .inr (.inr rfl))))))))
theorem sc1007 : FnScope ["which", "one", "other", "caught", "e", "kinds", "k"] ["which", "one", "other"] (defScope (top 29)) := ⟨rfl, rfl, rfl, by decide +kernel, rfl, by decide +kernel, by decide +kernel⟩
theorem ok1007 (T : Tab P K mg) (A : All P w base T n) : Ok P w base T.d1007 (n + 1) (run 3 7 (b_law_caught (sem n))) := by
  refine fn_okT (N := ["which", "one", "other", "caught", "e", "kinds", "k"]) (ps := ["which", "one", "other"]) (n := n) (b := b_law_caught (sem n)) T.d1007.F sc1007 fun X E hP hw hK hmg hbase hN hc hr hs hfn hp tk fx => ?_
  subst hP hw hK hmg hbase
  have hd : X.N.Nodup := nxd hN (by decide +kernel)
  exact (sss_cons (ss_asg (i := 3) hd (nx hN rfl) (loc hs (by first | exact .inl rfl | exact .inr rfl)) se_non (hf := .inl (hfn _)))
    (sss_cons (ss_try (i := 4) fx hd (nx hN rfl) (lkl hs rfl) (names_of T.x_StepError (gl hs rfl)) tk (cat_of T.xs T.x_StepError) (fun _ _ _ tk hp => (sss_one (ss_if (st_cmp (os_eq hr) (se_var (i := 0) (nx hN rfl) (vis hs (by first | exact .inl rfl | exact .inr (.inl rfl) | exact .inr (.inr rfl)))) se_int rfl) (sss_one (ss_expr (se_df [true, true] T.d35 A.o35 hr (gl hs rfl) tk (sa_cons (se_var (i := 1) (nx hN rfl) (vis hs (by first | exact .inl rfl | exact .inr (.inl rfl) | exact .inr (.inr rfl)))) (sa_cons (se_var (i := 2) (nx hN rfl) (vis hs (by first | exact .inl rfl | exact .inr (.inl rfl) | exact .inr (.inr rfl)))) sa_nil))))) (sss_one (ss_if (st_cmp (os_eq hr) (se_var (i := 0) (nx hN rfl) (vis hs (by first | exact .inl rfl | exact .inr (.inl rfl) | exact .inr (.inr rfl)))) se_int rfl) (sss_one (ss_expr (se_dfK (ks := ["wides", "wide"]) (ix := [1, 0]) [true, true] T.d35 A.o35 hr (gl hs rfl) (bindsK_of T.d35.F fun _ _ _ _ _ _ ws hl => match ws, hl with | [_, _], _ => fun zs hz => by cases hz; rfl) tk (sk_cons (se_var (i := 2) (nx hN rfl) (vis hs (by first | exact .inl rfl | exact .inr (.inl rfl) | exact .inr (.inr rfl)))) (sk_cons (se_var (i := 1) (nx hN rfl) (vis hs (by first | exact .inl rfl | exact .inr (.inl rfl) | exact .inr (.inr rfl)))) sk_nil)) rfl))) (sss_one (ss_if (st_cmp (os_eq hr) (se_var (i := 0) (nx hN rfl) (vis hs (by first | exact .inl rfl | exact .inr (.inl rfl) | exact .inr (.inr rfl)))) se_int rfl) (sss_one (ss_expr (se_df [true, true] T.d36 A.o36 hr (gl hs rfl) tk (sa_cons (se_var (i := 1) (nx hN rfl) (vis hs (by first | exact .inl rfl | exact .inr (.inl rfl) | exact .inr (.inr rfl)))) (sa_cons (se_var (i := 2) (nx hN rfl) (vis hs (by first | exact .inl rfl | exact .inr (.inl rfl) | exact .inr (.inr rfl)))) sa_nil))))) (sss_one (ss_if (st_cmp (os_eq hr) (se_var (i := 0) (nx hN rfl) (vis hs (by first | exact .inl rfl | exact .inr (.inl rfl) | exact .inr (.inr rfl)))) se_int rfl) (sss_one (ss_expr (se_dfK (ks := ["names", "name"]) (ix := [1, 0]) [true, true] T.d36 A.o36 hr (gl hs rfl) (bindsK_of T.d36.F fun _ _ _ _ _ _ ws hl => match ws, hl with | [_, _], _ => fun zs hz => by cases hz; rfl) tk (sk_cons (se_var (i := 2) (nx hN rfl) (vis hs (by first | exact .inl rfl | exact .inr (.inl rfl) | exact .inr (.inr rfl)))) (sk_cons (se_var (i := 1) (nx hN rfl) (vis hs (by first | exact .inl rfl | exact .inr (.inl rfl) | exact .inr (.inr rfl)))) sk_nil)) rfl))) (sss_one (ss_expr (se_df [true] T.d34 A.o34 hr (gl hs rfl) tk (sa_cons (se_var (i := 1) (nx hN rfl) (vis hs (by first | exact .inl rfl | exact .inr (.inl rfl) | exact .inr (.inr rfl)))) sa_nil))))))))))))) (fun _ _ => (sss_one (ss_asg (i := 3) hd (nx hN rfl) (loc hs (by first | exact .inl rfl | exact .inr rfl)) (se_var (i := 4) (nx hN rfl) (vis hs (by first | exact .inl rfl | exact .inr (.inl rfl) | exact .inr (.inr rfl)))) (hf := .inl (hfn _))))))
    (sss_cons (ss_if (st_cmp (os_is) (se_var (i := 3) (nx hN rfl) (vis hs (by first | exact .inl rfl | exact .inr (.inl rfl) | exact .inr (.inr rfl)))) se_non rfl) (sss_one (ss_ret se_non)) sss_nil)
    (sss_cons (ss_asg (i := 5) hd (nx hN rfl) (loc hs (by first | exact .inl rfl | exact .inr rfl)) (se_lst (sa_cons (se_callB (cs_isX T.xs) (gl hs rfl) T.z_isinstance bt_isinstance (sa_cons (se_var (i := 3) (nx hN rfl) (vis hs (by first | exact .inl rfl | exact .inr (.inl rfl) | exact .inr (.inr rfl)))) (sa_cons (se_cls T.x_InvalidProgram (gl hs rfl)) sa_nil))) (sa_cons (se_callB (cs_isX T.xs) (gl hs rfl) T.z_isinstance bt_isinstance (sa_cons (se_var (i := 3) (nx hN rfl) (vis hs (by first | exact .inl rfl | exact .inr (.inl rfl) | exact .inr (.inr rfl)))) (sa_cons (se_cls T.x_InvalidWides (gl hs rfl)) sa_nil))) (sa_cons (se_callB (cs_isX T.xs) (gl hs rfl) T.z_isinstance bt_isinstance (sa_cons (se_var (i := 3) (nx hN rfl) (vis hs (by first | exact .inl rfl | exact .inr (.inl rfl) | exact .inr (.inr rfl)))) (sa_cons (se_cls T.x_InvalidName (gl hs rfl)) sa_nil))) (sa_cons (se_callB (cs_isX T.xs) (gl hs rfl) T.z_isinstance bt_isinstance (sa_cons (se_var (i := 3) (nx hN rfl) (vis hs (by first | exact .inl rfl | exact .inr (.inl rfl) | exact .inr (.inr rfl)))) (sa_cons (se_cls T.x_InvalidNames (gl hs rfl)) sa_nil))) sa_nil))))) (hf := .inl (hfn _)))
    (sss_one (ss_ret (se_tup (sa_cons (se_lc hc hd (si_range1 (gl hs rfl) T.z_range (sa_cons se_int sa_nil)) (blko hN hs (own := [("k", 6)]) ⟨rfl, by decide +kernel, by decide +kernel, by decide +kernel, by decide +kernel⟩) rfl (by decide) (fun _ _ _ _ _ => (sg_name (i := 6) hd (nx hN rfl) (locB (by first | exact .inl rfl | exact .inr rfl)) (hfB (by first | exact .inl rfl | exact .inr rfl)))) (fun _ _ _ _ _ => (sts_one (st_tru (se_ix (se_var (i := 5) (nx hN rfl) (visB (by first | exact .inl rfl | exact .inr (.inl rfl) | exact .inr (.inr rfl)))) (se_var (i := 6) (nx hN rfl) (visB (by first | exact .inl rfl | exact .inr (.inl rfl) | exact .inr (.inr rfl)))))))) (fun _ _ _ _ _ => (se_var (i := 6) (nx hN rfl) (visB (by first | exact .inl rfl | exact .inr (.inl rfl) | exact .inr (.inr rfl)))))) (sa_cons (se_callB (cs_repr hr) (gl hs rfl) T.z_repr bt_repr (sa_cons (se_val T.xs (se_var (i := 3) (nx hN rfl) (vis hs (by first | exact .inl rfl | exact .inr (.inl rfl) | exact .inr (.inr rfl))))) sa_nil)) sa_nil)))))))))
theorem sc1008 : FnScope ["name", "taken", "k", "other"] ["name", "taken"] (defScope (top 28)) := ⟨rfl, rfl, rfl, by decide +kernel, rfl, by decide +kernel, by decide +kernel⟩
theorem ok1008 (T : Tab P K mg) (A : All P w base T n) : Ok P w base T.d1008 (n + 1) (run 2 4 (b_law_fresh (sem n))) := by
  refine fn_ok (N := ["name", "taken", "k", "other"]) (ps := ["name", "taken"]) (n := n) (b := b_law_fresh (sem n)) T.d1008.F sc1008 fun X E hP hw hK hmg hbase hN hc hr hs hfn hp tk => ?_
  subst hP hw hK hmg hbase
  have hd : X.N.Nodup := nxd hN (by decide +kernel)
  exact (sss_cons (ss_for hp hc (si_range1 (gl hs rfl) T.z_range (sa_cons (se_op (os_add) (se_callB (cs_len) (gl hs rfl) T.z_len bt_len (sa_cons (se_var (i := 1) (nx hN rfl) (vis hs (by first | exact .inl rfl | exact .inr (.inl rfl) | exact .inr (.inr rfl)))) sa_nil)) se_int) sa_nil)) (sg_name (i := 2) hd (nx hN rfl) (loc hs (by first | exact .inl rfl | exact .inr rfl)) (.inl (hfn _))) (sss_cons (ss_asg (i := 3) hd (nx hN rfl) (loc hs (by first | exact .inl rfl | exact .inr rfl)) (se_op (os_add) (se_ix (se_var (i := 0) (nx hN rfl) (vis hs (by first | exact .inl rfl | exact .inr (.inl rfl) | exact .inr (.inr rfl)))) se_int) (se_if (st_cmp (os_gt hr) (se_var (i := 2) (nx hN rfl) (vis hs (by first | exact .inl rfl | exact .inr (.inl rfl) | exact .inr (.inr rfl)))) se_int rfl) (se_callTy (cs_str) (gl hs rfl) T.z_str bt_str (sa_cons (se_var (i := 2) (nx hN rfl) (vis hs (by first | exact .inl rfl | exact .inr (.inl rfl) | exact .inr (.inr rfl)))) sa_nil)) se_str)) (hf := .inl (hfn _)))
    (sss_one (ss_if (st_cmp (os_nin hr) (se_var (i := 3) (nx hN rfl) (vis hs (by first | exact .inl rfl | exact .inr (.inl rfl) | exact .inr (.inr rfl)))) (se_var (i := 1) (nx hN rfl) (vis hs (by first | exact .inl rfl | exact .inr (.inl rfl) | exact .inr (.inr rfl)))) rfl) (sss_one (ss_ret (se_var (i := 3) (nx hN rfl) (vis hs (by first | exact .inl rfl | exact .inr (.inl rfl) | exact .inr (.inr rfl)))))) sss_nil))))
    (sss_one (ss_ret (se_var (i := 0) (nx hN rfl) (vis hs (by first | exact .inl rfl | exact .inr (.inl rfl) | exact .inr (.inr rfl)))))))
theorem sc36 : FnScope ["name", "names", "one"] ["name", "names"] (defScope (top 23)) := ⟨rfl, rfl, rfl, by decide +kernel, rfl, by decide +kernel, by decide +kernel⟩
theorem ok36 (T : Tab P K mg) (A : All P w base T n) : Ok P w base T.d36 (n + 1) (run 2 3 (bd_fresh (sem n))) := by
  refine fn_ok (N := ["name", "names", "one"]) (ps := ["name", "names"]) (n := n) (b := bd_fresh (sem n)) T.d36.F sc36 fun X E hP hw hK hmg hbase hN hc hr hs hfn hp tk => ?_
  subst hP hw hK hmg hbase
  have hd : X.N.Nodup := nxd hN (by decide +kernel)
  exact (sss_cons (ss_expr (se_df [true] T.d33 A.o33 hr (gl hs rfl) tk (sa_cons (se_var (i := 0) (nx hN rfl) (vis hs (by first | exact .inl rfl | exact .inr (.inl rfl) | exact .inr (.inr rfl)))) sa_nil)))
    (sss_cons (ss_if (SW.toT (sw_or (st_not (st_tru (se_callB (cs_isi) (gl hs rfl) T.z_isinstance bt_isinstance (sa_cons (se_var (i := 1) (nx hN rfl) (vis hs (by first | exact .inl rfl | exact .inr (.inl rfl) | exact .inr (.inr rfl)))) (sa_cons (se_ty (gl hs rfl) T.z_tuple bt_tuple) sa_nil))))) (sw_or1 (st_not (st_tru (se_callB (cs_all hc) (gl hs rfl) T.z_all bt_all (sa_cons (se_lc hc hd (si_seq (se_var (i := 1) (nx hN rfl) (vis hs (by first | exact .inl rfl | exact .inr (.inl rfl) | exact .inr (.inr rfl))))) (blko hN hs (own := [("one", 2)]) ⟨rfl, by decide +kernel, by decide +kernel, by decide +kernel, by decide +kernel⟩) rfl (by decide) (fun _ _ _ _ _ => (sg_name (i := 2) hd (nx hN rfl) (locB (by first | exact .inl rfl | exact .inr rfl)) (hfB (by first | exact .inl rfl | exact .inr rfl)))) (fun _ _ _ _ _ => sts_nil) (fun _ _ _ _ _ => (se_df [true] T.d3 A.o3 hr (glB rfl) takes_F (sa_cons (se_var (i := 2) (nx hN rfl) (visB (by first | exact .inl rfl | exact .inr (.inl rfl) | exact .inr (.inr rfl)))) sa_nil)))) sa_nil))))))) (sss_one (ss_raise T.x_InvalidNames hc tk hr (gl hs rfl) (sa_cons (se_df [true] T.d2 A.o2 hr (gl hs rfl) tk (sa_cons (se_var (i := 1) (nx hN rfl) (vis hs (by first | exact .inl rfl | exact .inr (.inl rfl) | exact .inr (.inr rfl)))) sa_nil)) sa_nil))) sss_nil)
    (sss_one (ss_ret (se_df [true, true] T.d32 A.o32 hr (gl hs rfl) tk (sa_cons (se_var (i := 0) (nx hN rfl) (vis hs (by first | exact .inl rfl | exact .inr (.inl rfl) | exact .inr (.inr rfl)))) (sa_cons (se_dcT hr hc hd (si_seq (se_var (i := 1) (nx hN rfl) (vis hs (by first | exact .inl rfl | exact .inr (.inl rfl) | exact .inr (.inr rfl))))) (blko hN hs (own := [("one", 2)]) ⟨rfl, by decide +kernel, by decide +kernel, by decide +kernel, by decide +kernel⟩) rfl (by decide) (fun _ _ _ _ _ => (sg_name (i := 2) hd (nx hN rfl) (locB (by first | exact .inl rfl | exact .inr rfl)) (hfB (by first | exact .inl rfl | exact .inr rfl)))) (fun _ _ _ _ _ => sts_nil) (fun _ _ _ _ _ => (sa_cons se_str (sa_cons (se_var (i := 2) (nx hN rfl) (visB (by first | exact .inl rfl | exact .inr (.inl rfl) | exact .inr (.inr rfl)))) sa_nil))) (fun _ _ _ _ _ => se_bl)) sa_nil)))))))
theorem sc4 : FnScope ["value"] ["value"] (defScope (top 15)) := ⟨rfl, rfl, rfl, by decide +kernel, rfl, by decide +kernel, by decide +kernel⟩
theorem ok4 (T : Tab P K mg) (A : All P w base T n) : Ok P w base T.d4 (n + 1) (run 1 1 (bd_is_node (sem n))) := by
  refine fn_ok (N := ["value"]) (ps := ["value"]) (n := n) (b := bd_is_node (sem n)) T.d4.F sc4 fun X E hP hw hK hmg hbase hN hc hr hs hfn hp tk => ?_
  subst hP hw hK hmg hbase
  have hd : X.N.Nodup := nxd hN (by decide +kernel)
  exact (sss_cons (ss_if (SW.toT (sw_or (st_not (st_tru (se_callB (cs_isi) (gl hs rfl) T.z_isinstance bt_isinstance (sa_cons (se_var (i := 0) (nx hN rfl) (vis hs (by first | exact .inl rfl | exact .inr (.inl rfl) | exact .inr (.inr rfl)))) (sa_cons (se_ty (gl hs rfl) T.z_tuple bt_tuple) sa_nil))))) (sw_or (st_cmp (os_lt hr) (se_callB (cs_len) (gl hs rfl) T.z_len bt_len (sa_cons (se_var (i := 0) (nx hN rfl) (vis hs (by first | exact .inl rfl | exact .inr (.inl rfl) | exact .inr (.inr rfl)))) sa_nil)) se_int rfl) (sw_or1 (st_not (st_tru (se_callB (cs_isi) (gl hs rfl) T.z_isinstance bt_isinstance (sa_cons (se_ix (se_var (i := 0) (nx hN rfl) (vis hs (by first | exact .inl rfl | exact .inr (.inl rfl) | exact .inr (.inr rfl)))) se_int) (sa_cons (se_ty (gl hs rfl) T.z_str bt_str) sa_nil))))))))) (sss_one (ss_ret se_bl)) sss_nil)
    (sss_cons (ss_if (st_cmp (os_eq hr) (se_ix (se_var (i := 0) (nx hN rfl) (vis hs (by first | exact .inl rfl | exact .inr (.inl rfl) | exact .inr (.inr rfl)))) se_int) se_str rfl) (sss_one (ss_ret (se_and (se_cmp (os_eq hr) (se_callB (cs_len) (gl hs rfl) T.z_len bt_len (sa_cons (se_var (i := 0) (nx hN rfl) (vis hs (by first | exact .inl rfl | exact .inr (.inl rfl) | exact .inr (.inr rfl)))) sa_nil)) se_int rfl) (se_one (se_df [true] T.d3 A.o3 hr (gl hs rfl) tk (sa_cons (se_ix (se_var (i := 0) (nx hN rfl) (vis hs (by first | exact .inl rfl | exact .inr (.inl rfl) | exact .inr (.inr rfl)))) se_int) sa_nil)))))) sss_nil)
    (sss_cons (ss_if (st_cmp (os_eq hr) (se_ix (se_var (i := 0) (nx hN rfl) (vis hs (by first | exact .inl rfl | exact .inr (.inl rfl) | exact .inr (.inr rfl)))) se_int) se_str rfl) (sss_one (ss_ret (se_and (se_cmp (os_eq hr) (se_callB (cs_len) (gl hs rfl) T.z_len bt_len (sa_cons (se_var (i := 0) (nx hN rfl) (vis hs (by first | exact .inl rfl | exact .inr (.inl rfl) | exact .inr (.inr rfl)))) sa_nil)) se_int rfl) (se_one (se_df [true] T.d1 A.o1 hr (gl hs rfl) tk (sa_cons (se_ix (se_var (i := 0) (nx hN rfl) (vis hs (by first | exact .inl rfl | exact .inr (.inl rfl) | exact .inr (.inr rfl)))) se_int) sa_nil)))))) sss_nil)
    (sss_cons (ss_if (st_cmp (os_eq hr) (se_ix (se_var (i := 0) (nx hN rfl) (vis hs (by first | exact .inl rfl | exact .inr (.inl rfl) | exact .inr (.inr rfl)))) se_int) se_str rfl) (sss_one (ss_ret (se_and (se_cmp (os_eq hr) (se_callB (cs_len) (gl hs rfl) T.z_len bt_len (sa_cons (se_var (i := 0) (nx hN rfl) (vis hs (by first | exact .inl rfl | exact .inr (.inl rfl) | exact .inr (.inr rfl)))) sa_nil)) se_int rfl) (se_one (se_df [true] T.d3 A.o3 hr (gl hs rfl) tk (sa_cons (se_ix (se_var (i := 0) (nx hN rfl) (vis hs (by first | exact .inl rfl | exact .inr (.inl rfl) | exact .inr (.inr rfl)))) se_int) sa_nil)))))) sss_nil)
    (sss_one (ss_ret (se_and (se_cmp (os_eq hr) (se_ix (se_var (i := 0) (nx hN rfl) (vis hs (by first | exact .inl rfl | exact .inr (.inl rfl) | exact .inr (.inr rfl)))) se_int) se_str rfl) (se_one (se_cmp (os_eq hr) (se_callB (cs_len) (gl hs rfl) T.z_len bt_len (sa_cons (se_var (i := 0) (nx hN rfl) (vis hs (by first | exact .inl rfl | exact .inr (.inl rfl) | exact .inr (.inr rfl)))) sa_nil)) se_int rfl)))))))))
theorem sc33 : FnScope ["name"] ["name"] (defScope (top 20)) := ⟨rfl, rfl, rfl, by decide +kernel, rfl, by decide +kernel, by decide +kernel⟩
theorem ok33 (T : Tab P K mg) (A : All P w base T n) : Ok P w base T.d33 (n + 1) (run 1 1 (bd_need_name (sem n))) := by
  refine fn_ok (N := ["name"]) (ps := ["name"]) (n := n) (b := bd_need_name (sem n)) T.d33.F sc33 fun X E hP hw hK hmg hbase hN hc hr hs hfn hp tk => ?_
  subst hP hw hK hmg hbase
  have hd : X.N.Nodup := nxd hN (by decide +kernel)
  exact (sss_one (ss_if (st_not (st_tru (se_df [true] T.d3 A.o3 hr (gl hs rfl) tk (sa_cons (se_var (i := 0) (nx hN rfl) (vis hs (by first | exact .inl rfl | exact .inr (.inl rfl) | exact .inr (.inr rfl)))) sa_nil)))) (sss_one (ss_raise T.x_InvalidName hc tk hr (gl hs rfl) (sa_cons (se_df [true] T.d2 A.o2 hr (gl hs rfl) tk (sa_cons (se_var (i := 0) (nx hN rfl) (vis hs (by first | exact .inl rfl | exact .inr (.inl rfl) | exact .inr (.inr rfl)))) sa_nil)) sa_nil))) sss_nil))
theorem sc3 : FnScope ["value", "digits", "one"] ["value"] (defScope (top 14)) := ⟨rfl, rfl, rfl, by decide +kernel, rfl, by decide +kernel, by decide +kernel⟩
theorem ok3 (T : Tab P K mg) (A : All P w base T n) : Ok P w base T.d3 (n + 1) (run 1 3 (bd_is_plain_name (sem n))) := by
  refine fn_ok (N := ["value", "digits", "one"]) (ps := ["value"]) (n := n) (b := bd_is_plain_name (sem n)) T.d3.F sc3 fun X E hP hw hK hmg hbase hN hc hr hs hfn hp tk => ?_
  subst hP hw hK hmg hbase
  have hd : X.N.Nodup := nxd hN (by decide +kernel)
  exact (sss_cons (ss_if (SW.toT (sw_or (st_not (st_tru (se_callB (cs_isi) (gl hs rfl) T.z_isinstance bt_isinstance (sa_cons (se_var (i := 0) (nx hN rfl) (vis hs (by first | exact .inl rfl | exact .inr (.inl rfl) | exact .inr (.inr rfl)))) (sa_cons (se_ty (gl hs rfl) T.z_str bt_str) sa_nil))))) (sw_or (st_cmp (os_eq hr) (se_var (i := 0) (nx hN rfl) (vis hs (by first | exact .inl rfl | exact .inr (.inl rfl) | exact .inr (.inr rfl)))) se_str rfl) (sw_or1 (st_cmp (os_nin hr) (se_ix (se_var (i := 0) (nx hN rfl) (vis hs (by first | exact .inl rfl | exact .inr (.inl rfl) | exact .inr (.inr rfl)))) se_int) (se_gstr (gl hs rfl) T.g_LETTERS.choose_spec (by decide +kernel)) rfl))))) (sss_one (ss_ret se_bl)) sss_nil)
    (sss_cons (ss_asg (i := 1) hd (nx hN rfl) (loc hs (by first | exact .inl rfl | exact .inr rfl)) (se_cut (se_var (i := 0) (nx hN rfl) (vis hs (by first | exact .inl rfl | exact .inr (.inl rfl) | exact .inr (.inr rfl)))) (spo_some se_int) spo_none) (hf := .inl (hfn _)))
    (sss_one (ss_ret (se_or (se_cmp (os_eq hr) (se_var (i := 1) (nx hN rfl) (vis hs (by first | exact .inl rfl | exact .inr (.inl rfl) | exact .inr (.inr rfl)))) se_str rfl) (se_one (se_and (se_cmp (os_le hr) (se_callB (cs_len) (gl hs rfl) T.z_len bt_len (sa_cons (se_var (i := 1) (nx hN rfl) (vis hs (by first | exact .inl rfl | exact .inr (.inl rfl) | exact .inr (.inr rfl)))) sa_nil)) (se_gint (gl hs rfl) T.g_MOST_DIGITS.choose_spec) rfl) (se_and (se_cmp (os_ne hr) (se_ix (se_var (i := 1) (nx hN rfl) (vis hs (by first | exact .inl rfl | exact .inr (.inl rfl) | exact .inr (.inr rfl)))) se_int) se_str rfl) (se_one (se_callB (cs_all hc) (gl hs rfl) T.z_all bt_all (sa_cons (se_lc hc hd (si_seq (se_var (i := 1) (nx hN rfl) (vis hs (by first | exact .inl rfl | exact .inr (.inl rfl) | exact .inr (.inr rfl))))) (blko hN hs (own := [("one", 2)]) ⟨rfl, by decide +kernel, by decide +kernel, by decide +kernel, by decide +kernel⟩) rfl (by decide) (fun _ _ _ _ _ => (sg_name (i := 2) hd (nx hN rfl) (locB (by first | exact .inl rfl | exact .inr rfl)) (hfB (by first | exact .inl rfl | exact .inr rfl)))) (fun _ _ _ _ _ => sts_nil) (fun _ _ _ _ _ => (se_cmp (os_in hr) (se_var (i := 2) (nx hN rfl) (visB (by first | exact .inl rfl | exact .inr (.inl rfl) | exact .inr (.inr rfl)))) (se_gstr (glB rfl) T.g_DIGITS.choose_spec (by decide +kernel)) rfl))) sa_nil)))))))))))
theorem sc32 : FnScope ["name", "taken", "found", "k"] ["name", "taken"] (defScope (top 17)) := ⟨rfl, rfl, rfl, by decide +kernel, rfl, by decide +kernel, by decide +kernel⟩
theorem ok32 (T : Tab P K mg) (A : All P w base T n) : Ok P w base T.d32 (n + 1) (run 2 4 (bd_fresh_in (sem n))) := by
  refine fn_ok (N := ["name", "taken", "found", "k"]) (ps := ["name", "taken"]) (n := n) (b := bd_fresh_in (sem n)) T.d32.F sc32 fun X E hP hw hK hmg hbase hN hc hr hs hfn hp tk => ?_
  subst hP hw hK hmg hbase
  have hd : X.N.Nodup := nxd hN (by decide +kernel)
  exact (sss_cons (ss_asg (i := 2) hd (nx hN rfl) (loc hs (by first | exact .inl rfl | exact .inr rfl)) (se_ix (se_var (i := 0) (nx hN rfl) (vis hs (by first | exact .inl rfl | exact .inr (.inl rfl) | exact .inr (.inr rfl)))) se_int) (hf := .inl (hfn _)))
    (sss_cons (ss_asg (i := 3) hd (nx hN rfl) (loc hs (by first | exact .inl rfl | exact .inr rfl)) se_int (hf := .inl (hfn _)))
    (sss_cons (ss_while hp (st_cmp (os_in hr) (se_tup (sa_cons se_str (sa_cons (se_var (i := 2) (nx hN rfl) (vis hs (by first | exact .inl rfl | exact .inr (.inl rfl) | exact .inr (.inr rfl)))) sa_nil))) (se_var (i := 1) (nx hN rfl) (vis hs (by first | exact .inl rfl | exact .inr (.inl rfl) | exact .inr (.inr rfl)))) rfl) (sss_cons (ss_augI (i := 3) hd (nx hN rfl) (loc hs (by first | exact .inl rfl | exact .inr rfl)) ip_add se_int (hf := .inl (hfn _)))
    (sss_one (ss_asg (i := 2) hd (nx hN rfl) (loc hs (by first | exact .inl rfl | exact .inr rfl)) (se_op (os_add) (se_ix (se_var (i := 0) (nx hN rfl) (vis hs (by first | exact .inl rfl | exact .inr (.inl rfl) | exact .inr (.inr rfl)))) se_int) (se_callTy (cs_str) (gl hs rfl) T.z_str bt_str (sa_cons (se_var (i := 3) (nx hN rfl) (vis hs (by first | exact .inl rfl | exact .inr (.inl rfl) | exact .inr (.inr rfl)))) sa_nil))) (hf := .inl (hfn _))))))
    (sss_one (ss_ret (se_var (i := 2) (nx hN rfl) (vis hs (by first | exact .inl rfl | exact .inr (.inl rfl) | exact .inr (.inr rfl)))))))))
theorem sc1 : FnScope ["value"] ["value"] (defScope (top 8)) := ⟨rfl, rfl, rfl, by decide +kernel, rfl, by decide +kernel, by decide +kernel⟩
theorem ok1 (T : Tab P K mg) (A : All P w base T n) : Ok P w base T.d1 (n + 1) (run 1 1 (bd_is_natural (sem n))) := by
  refine fn_ok (N := ["value"]) (ps := ["value"]) (n := n) (b := bd_is_natural (sem n)) T.d1.F sc1 fun X E hP hw hK hmg hbase hN hc hr hs hfn hp tk => ?_
  subst hP hw hK hmg hbase
  have hd : X.N.Nodup := nxd hN (by decide +kernel)
  exact (sss_one (ss_ret (se_and (se_df [true] T.d0 A.o0 hr (gl hs rfl) tk (sa_cons (se_var (i := 0) (nx hN rfl) (vis hs (by first | exact .inl rfl | exact .inr (.inl rfl) | exact .inr (.inr rfl)))) sa_nil)) (se_one (se_cmp (os_ge hr) (se_var (i := 0) (nx hN rfl) (vis hs (by first | exact .inl rfl | exact .inr (.inl rfl) | exact .inr (.inr rfl)))) se_int rfl)))))
theorem sc0 : FnScope ["value"] ["value"] (defScope (top 7)) := ⟨rfl, rfl, rfl, by decide +kernel, rfl, by decide +kernel, by decide +kernel⟩
theorem ok0 (T : Tab P K mg) (A : All P w base T n) : Ok P w base T.d0 (n + 1) (run 1 1 (bd_is_integer (sem n))) := by
  refine fn_ok (N := ["value"]) (ps := ["value"]) (n := n) (b := bd_is_integer (sem n)) T.d0.F sc0 fun X E hP hw hK hmg hbase hN hc hr hs hfn hp tk => ?_
  subst hP hw hK hmg hbase
  have hd : X.N.Nodup := nxd hN (by decide +kernel)
  exact (sss_one (ss_ret (se_and (se_callB (cs_isi) (gl hs rfl) T.z_isinstance bt_isinstance (sa_cons (se_var (i := 0) (nx hN rfl) (vis hs (by first | exact .inl rfl | exact .inr (.inl rfl) | exact .inr (.inr rfl)))) (sa_cons (se_ty (gl hs rfl) T.z_int bt_int) sa_nil))) (se_one (se_not (se_callB (cs_isi) (gl hs rfl) T.z_isinstance bt_isinstance (sa_cons (se_var (i := 0) (nx hN rfl) (vis hs (by first | exact .inl rfl | exact .inr (.inl rfl) | exact .inr (.inr rfl)))) (sa_cons (se_ty (gl hs rfl) T.z_bool bt_bool) sa_nil))))))))
theorem all_ok (T : Tab P K mg) : ∀ n, All P w base T n
  | 0 => ⟨ok_zero, ok_zero, ok_zero, ok_zero, ok_zero, ok_zero, ok_zero, ok_zero, ok_zero, ok_zero, ok_zero, ok_zero, ok_zero, ok_zero, ok_zero, ok_zero, ok_zero, ok_zero, ok_zero, ok_zero, ok_zero⟩
  | n + 1 => have A := all_ok T n
    ⟨ok1000 T A, ok1001 T A, ok1002 T A, ok1003 T A, ok1004 T A, ok34 T A, ok35 T A, ok1005 T A, ok1006 T A, ok16 T A, ok5 T A, ok2 T A, ok1007 T A, ok1008 T A, ok36 T A, ok4 T A, ok33 T A, ok3 T A, ok32 T A, ok1 T A, ok0 T A⟩
end
def tab_mk {K : PySem.W.Frag} {h : Heap} {mg : Str → Option Value} (X : K.In h) (G : h.Ns mainGlobals mg)
    {f1000 : Addr} {od1000 an1000 : Option Addr} {sl1000 : Array (Option Value)} {oc1000 kV1000 dc1000 pm1000 cd1000 ct1000 : Value}
    (a1000 : PySem.W.nsIn K mainGlobals "law" = some (some (.ref f1000))) (l1000 : K.lookup f1000 = some ⟨oc1000, od1000, .func (PySem.W.fnOf "law" "law" (defArgs (top 33)) (defBody (top 33)) (defScope (top 33)) .none kV1000 dc1000 pm1000 an1000 cd1000 ct1000), sl1000⟩) (c1000 : PySem.W.codeIn K cd1000 "law" = true) (k1000 : PySem.W.keepIn K (.ref f1000) = true)
    {f1001 : Addr} {od1001 an1001 : Option Addr} {sl1001 : Array (Option Value)} {oc1001 kV1001 dc1001 pm1001 cd1001 ct1001 : Value}
    (a1001 : PySem.W.nsIn K mainGlobals "_law_spring" = some (some (.ref f1001))) (l1001 : K.lookup f1001 = some ⟨oc1001, od1001, .func (PySem.W.fnOf "_law_spring" "_law_spring" (defArgs (top 25)) (defBody (top 25)) (defScope (top 25)) .none kV1001 dc1001 pm1001 an1001 cd1001 ct1001), sl1001⟩) (c1001 : PySem.W.codeIn K cd1001 "_law_spring" = true) (k1001 : PySem.W.keepIn K (.ref f1001) = true)
    {f1002 : Addr} {od1002 an1002 : Option Addr} {sl1002 : Array (Option Value)} {oc1002 kV1002 dc1002 pm1002 cd1002 ct1002 : Value}
    (a1002 : PySem.W.nsIn K mainGlobals "_law_right" = some (some (.ref f1002))) (l1002 : K.lookup f1002 = some ⟨oc1002, od1002, .func (PySem.W.fnOf "_law_right" "_law_right" (defArgs (top 32)) (defBody (top 32)) (defScope (top 32)) .none kV1002 dc1002 pm1002 an1002 cd1002 ct1002), sl1002⟩) (c1002 : PySem.W.codeIn K cd1002 "_law_right" = true) (k1002 : PySem.W.keepIn K (.ref f1002) = true)
    {f1003 : Addr} {od1003 an1003 : Option Addr} {sl1003 : Array (Option Value)} {oc1003 kV1003 dc1003 pm1003 cd1003 ct1003 : Value}
    (a1003 : PySem.W.nsIn K mainGlobals "_law_take" = some (some (.ref f1003))) (l1003 : K.lookup f1003 = some ⟨oc1003, od1003, .func (PySem.W.fnOf "_law_take" "_law_take" (defArgs (top 26)) (defBody (top 26)) (defScope (top 26)) .none kV1003 dc1003 pm1003 an1003 cd1003 ct1003), sl1003⟩) (c1003 : PySem.W.codeIn K cd1003 "_law_take" = true) (k1003 : PySem.W.keepIn K (.ref f1003) = true)
    {f1004 : Addr} {od1004 an1004 : Option Addr} {sl1004 : Array (Option Value)} {oc1004 kV1004 dc1004 pm1004 cd1004 ct1004 : Value}
    (a1004 : PySem.W.nsIn K mainGlobals "_law_grown" = some (some (.ref f1004))) (l1004 : K.lookup f1004 = some ⟨oc1004, od1004, .func (PySem.W.fnOf "_law_grown" "_law_grown" (defArgs (top 27)) (defBody (top 27)) (defScope (top 27)) .none kV1004 dc1004 pm1004 an1004 cd1004 ct1004), sl1004⟩) (c1004 : PySem.W.codeIn K cd1004 "_law_grown" = true) (k1004 : PySem.W.keepIn K (.ref f1004) = true)
    {f34 : Addr} {od34 an34 : Option Addr} {sl34 : Array (Option Value)} {oc34 kV34 dc34 pm34 cd34 ct34 : Value}
    (a34 : PySem.W.nsIn K mainGlobals "spine" = some (some (.ref f34))) (l34 : K.lookup f34 = some ⟨oc34, od34, .func (PySem.W.fnOf "spine" "spine" (defArgs (top 21)) (defBody (top 21)) (defScope (top 21)) .none kV34 dc34 pm34 an34 cd34 ct34), sl34⟩) (c34 : PySem.W.codeIn K cd34 "spine" = true) (k34 : PySem.W.keepIn K (.ref f34) = true)
    {f35 : Addr} {od35 an35 : Option Addr} {sl35 : Array (Option Value)} {oc35 kV35 dc35 pm35 cd35 ct35 : Value}
    (a35 : PySem.W.nsIn K mainGlobals "called" = some (some (.ref f35))) (l35 : K.lookup f35 = some ⟨oc35, od35, .func (PySem.W.fnOf "called" "called" (defArgs (top 22)) (defBody (top 22)) (defScope (top 22)) .none kV35 dc35 pm35 an35 cd35 ct35), sl35⟩) (c35 : PySem.W.codeIn K cd35 "called" = true) (k35 : PySem.W.keepIn K (.ref f35) = true)
    {f1005 : Addr} {od1005 an1005 : Option Addr} {sl1005 : Array (Option Value)} {oc1005 kV1005 dc1005 pm1005 cd1005 ct1005 : Value}
    (a1005 : PySem.W.nsIn K mainGlobals "_law_refused" = some (some (.ref f1005))) (l1005 : K.lookup f1005 = some ⟨oc1005, od1005, .func (PySem.W.fnOf "_law_refused" "_law_refused" (defArgs (top 30)) (defBody (top 30)) (defScope (top 30)) .none kV1005 dc1005 pm1005 an1005 cd1005 ct1005), sl1005⟩) (c1005 : PySem.W.codeIn K cd1005 "_law_refused" = true) (k1005 : PySem.W.keepIn K (.ref f1005) = true)
    {f1006 : Addr} {od1006 an1006 : Option Addr} {sl1006 : Array (Option Value)} {oc1006 kV1006 dc1006 pm1006 cd1006 ct1006 : Value}
    (a1006 : PySem.W.nsIn K mainGlobals "_law_fresh_right" = some (some (.ref f1006))) (l1006 : K.lookup f1006 = some ⟨oc1006, od1006, .func (PySem.W.fnOf "_law_fresh_right" "_law_fresh_right" (defArgs (top 31)) (defBody (top 31)) (defScope (top 31)) .none kV1006 dc1006 pm1006 an1006 cd1006 ct1006), sl1006⟩) (c1006 : PySem.W.codeIn K cd1006 "_law_fresh_right" = true) (k1006 : PySem.W.keepIn K (.ref f1006) = true)
    {f16 : Addr} {od16 an16 : Option Addr} {sl16 : Array (Option Value)} {oc16 kV16 dc16 pm16 cd16 ct16 : Value}
    (a16 : PySem.W.nsIn K mainGlobals "need_wide" = some (some (.ref f16))) (l16 : K.lookup f16 = some ⟨oc16, od16, .func (PySem.W.fnOf "need_wide" "need_wide" (defArgs (top 19)) (defBody (top 19)) (defScope (top 19)) .none kV16 dc16 pm16 an16 cd16 ct16), sl16⟩) (c16 : PySem.W.codeIn K cd16 "need_wide" = true) (k16 : PySem.W.keepIn K (.ref f16) = true)
    {f5 : Addr} {od5 an5 : Option Addr} {sl5 : Array (Option Value)} {oc5 kV5 dc5 pm5 cd5 ct5 : Value}
    (a5 : PySem.W.nsIn K mainGlobals "is_tree" = some (some (.ref f5))) (l5 : K.lookup f5 = some ⟨oc5, od5, .func (PySem.W.fnOf "is_tree" "is_tree" (defArgs (top 16)) (defBody (top 16)) (defScope (top 16)) .none kV5 dc5 pm5 an5 cd5 ct5), sl5⟩) (c5 : PySem.W.codeIn K cd5 "is_tree" = true) (k5 : PySem.W.keepIn K (.ref f5) = true)
    {f2 : Addr} {od2 an2 : Option Addr} {sl2 : Array (Option Value)} {oc2 kV2 dc2 pm2 cd2 ct2 : Value}
    (a2 : PySem.W.nsIn K mainGlobals "anew" = some (some (.ref f2))) (l2 : K.lookup f2 = some ⟨oc2, od2, .func (PySem.W.fnOf "anew" "anew" (defArgs (top 9)) (defBody (top 9)) (defScope (top 9)) .none kV2 dc2 pm2 an2 cd2 ct2), sl2⟩) (c2 : PySem.W.codeIn K cd2 "anew" = true) (k2 : PySem.W.keepIn K (.ref f2) = true)
    {f1007 : Addr} {od1007 an1007 : Option Addr} {sl1007 : Array (Option Value)} {oc1007 kV1007 dc1007 pm1007 cd1007 ct1007 : Value}
    (a1007 : PySem.W.nsIn K mainGlobals "_law_caught" = some (some (.ref f1007))) (l1007 : K.lookup f1007 = some ⟨oc1007, od1007, .func (PySem.W.fnOf "_law_caught" "_law_caught" (defArgs (top 29)) (defBody (top 29)) (defScope (top 29)) .none kV1007 dc1007 pm1007 an1007 cd1007 ct1007), sl1007⟩) (c1007 : PySem.W.codeIn K cd1007 "_law_caught" = true) (k1007 : PySem.W.keepIn K (.ref f1007) = true)
    {f1008 : Addr} {od1008 an1008 : Option Addr} {sl1008 : Array (Option Value)} {oc1008 kV1008 dc1008 pm1008 cd1008 ct1008 : Value}
    (a1008 : PySem.W.nsIn K mainGlobals "_law_fresh" = some (some (.ref f1008))) (l1008 : K.lookup f1008 = some ⟨oc1008, od1008, .func (PySem.W.fnOf "_law_fresh" "_law_fresh" (defArgs (top 28)) (defBody (top 28)) (defScope (top 28)) .none kV1008 dc1008 pm1008 an1008 cd1008 ct1008), sl1008⟩) (c1008 : PySem.W.codeIn K cd1008 "_law_fresh" = true) (k1008 : PySem.W.keepIn K (.ref f1008) = true)
    {f36 : Addr} {od36 an36 : Option Addr} {sl36 : Array (Option Value)} {oc36 kV36 dc36 pm36 cd36 ct36 : Value}
    (a36 : PySem.W.nsIn K mainGlobals "fresh" = some (some (.ref f36))) (l36 : K.lookup f36 = some ⟨oc36, od36, .func (PySem.W.fnOf "fresh" "fresh" (defArgs (top 23)) (defBody (top 23)) (defScope (top 23)) .none kV36 dc36 pm36 an36 cd36 ct36), sl36⟩) (c36 : PySem.W.codeIn K cd36 "fresh" = true) (k36 : PySem.W.keepIn K (.ref f36) = true)
    {f4 : Addr} {od4 an4 : Option Addr} {sl4 : Array (Option Value)} {oc4 kV4 dc4 pm4 cd4 ct4 : Value}
    (a4 : PySem.W.nsIn K mainGlobals "is_node" = some (some (.ref f4))) (l4 : K.lookup f4 = some ⟨oc4, od4, .func (PySem.W.fnOf "is_node" "is_node" (defArgs (top 15)) (defBody (top 15)) (defScope (top 15)) .none kV4 dc4 pm4 an4 cd4 ct4), sl4⟩) (c4 : PySem.W.codeIn K cd4 "is_node" = true) (k4 : PySem.W.keepIn K (.ref f4) = true)
    {f33 : Addr} {od33 an33 : Option Addr} {sl33 : Array (Option Value)} {oc33 kV33 dc33 pm33 cd33 ct33 : Value}
    (a33 : PySem.W.nsIn K mainGlobals "need_name" = some (some (.ref f33))) (l33 : K.lookup f33 = some ⟨oc33, od33, .func (PySem.W.fnOf "need_name" "need_name" (defArgs (top 20)) (defBody (top 20)) (defScope (top 20)) .none kV33 dc33 pm33 an33 cd33 ct33), sl33⟩) (c33 : PySem.W.codeIn K cd33 "need_name" = true) (k33 : PySem.W.keepIn K (.ref f33) = true)
    {f3 : Addr} {od3 an3 : Option Addr} {sl3 : Array (Option Value)} {oc3 kV3 dc3 pm3 cd3 ct3 : Value}
    (a3 : PySem.W.nsIn K mainGlobals "is_plain_name" = some (some (.ref f3))) (l3 : K.lookup f3 = some ⟨oc3, od3, .func (PySem.W.fnOf "is_plain_name" "is_plain_name" (defArgs (top 14)) (defBody (top 14)) (defScope (top 14)) .none kV3 dc3 pm3 an3 cd3 ct3), sl3⟩) (c3 : PySem.W.codeIn K cd3 "is_plain_name" = true) (k3 : PySem.W.keepIn K (.ref f3) = true)
    {f32 : Addr} {od32 an32 : Option Addr} {sl32 : Array (Option Value)} {oc32 kV32 dc32 pm32 cd32 ct32 : Value}
    (a32 : PySem.W.nsIn K mainGlobals "fresh_in" = some (some (.ref f32))) (l32 : K.lookup f32 = some ⟨oc32, od32, .func (PySem.W.fnOf "fresh_in" "fresh_in" (defArgs (top 17)) (defBody (top 17)) (defScope (top 17)) .none kV32 dc32 pm32 an32 cd32 ct32), sl32⟩) (c32 : PySem.W.codeIn K cd32 "fresh_in" = true) (k32 : PySem.W.keepIn K (.ref f32) = true)
    {f1 : Addr} {od1 an1 : Option Addr} {sl1 : Array (Option Value)} {oc1 kV1 dc1 pm1 cd1 ct1 : Value}
    (a1 : PySem.W.nsIn K mainGlobals "is_natural" = some (some (.ref f1))) (l1 : K.lookup f1 = some ⟨oc1, od1, .func (PySem.W.fnOf "is_natural" "is_natural" (defArgs (top 8)) (defBody (top 8)) (defScope (top 8)) .none kV1 dc1 pm1 an1 cd1 ct1), sl1⟩) (c1 : PySem.W.codeIn K cd1 "is_natural" = true) (k1 : PySem.W.keepIn K (.ref f1) = true)
    {f0 : Addr} {od0 an0 : Option Addr} {sl0 : Array (Option Value)} {oc0 kV0 dc0 pm0 cd0 ct0 : Value}
    (a0 : PySem.W.nsIn K mainGlobals "is_integer" = some (some (.ref f0))) (l0 : K.lookup f0 = some ⟨oc0, od0, .func (PySem.W.fnOf "is_integer" "is_integer" (defArgs (top 7)) (defBody (top 7)) (defScope (top 7)) .none kV0 dc0 pm0 an0 cd0 ct0), sl0⟩) (c0 : PySem.W.codeIn K cd0 "is_integer" = true) (k0 : PySem.W.keepIn K (.ref f0) = true)
    (z_abs : PySem.W.nsIn K mainGlobals "abs" = some none)
    (z_all : PySem.W.nsIn K mainGlobals "all" = some none)
    (z_bool : PySem.W.nsIn K mainGlobals "bool" = some none)
    (z_int : PySem.W.nsIn K mainGlobals "int" = some none)
    (z_isinstance : PySem.W.nsIn K mainGlobals "isinstance" = some none)
    (z_len : PySem.W.nsIn K mainGlobals "len" = some none)
    (z_list : PySem.W.nsIn K mainGlobals "list" = some none)
    (z_max : PySem.W.nsIn K mainGlobals "max" = some none)
    (z_min : PySem.W.nsIn K mainGlobals "min" = some none)
    (z_range : PySem.W.nsIn K mainGlobals "range" = some none)
    (z_repr : PySem.W.nsIn K mainGlobals "repr" = some none)
    (z_str : PySem.W.nsIn K mainGlobals "str" = some none)
    (z_tuple : PySem.W.nsIn K mainGlobals "tuple" = some none)
    {t_DIGITS : Tok} (g_DIGITS : PySem.W.nsIn K mainGlobals "DIGITS" = some (some (Value.str "0123456789" t_DIGITS)))
    {t_LETTERS : Tok} (g_LETTERS : PySem.W.nsIn K mainGlobals "LETTERS" = some (some (Value.str "abcdefghijklmnopqrstuvwxyz" t_LETTERS)))
    {t_MOST_DIGITS : Tok} (g_MOST_DIGITS : PySem.W.nsIn K mainGlobals "MOST_DIGITS" = some (some (Value.int (6) t_MOST_DIGITS)))
    {xD xI xc xd : Addr} {xoc xkV xdoc xpm xct : Value} {xod xan : Option Addr} {xosl : Array (Option Value)}
    (haDx : PySem.W.nsIn K mainGlobals "StepError" = some (some (.ref xD))) (hiDx : PySem.W.findIn K (.ref xD) "__init__" = some (some (.ref xI)))
    (hlIx : K.lookup xI = some ⟨xoc, xod, .func (PySem.W.fnX "__init__" "StepError.__init__" (defArgs ini) (defBody ini) (defScope ini) [("__class__", xc)] .none xkV xdoc xpm xan (.ref xd) xct), xosl⟩)
    (hcIx : PySem.W.codeIn K (.ref xd) "StepError.__init__" = true) (htIx : PySem.W.typeIn K (.ref xI) = some (.type "function"))
    {xccl : Value} {xcdd : Option Addr} {xvs : Array Value} {xccs : Array (Option Value)} {xfile : Str} {xtf : Tok} (hlcx : K.lookup xd = some ⟨xccl, xcdd, .fields xvs, xccs⟩) (hvfx : xvs[2]? = some (.str xfile xtf)) (hhfx : ((PR.main.file : Str) == xfile) = true)
    {xcl : Value} {xcld : Option Addr} {xcsl : Array (Option Value)} (hlex : K.lookup xc = some ⟨xcl, xcld, .cell (some (.ref xD)), xcsl⟩) {xcdD : ClassData} (hcDx : PySem.W.clsIn K xD = some xcdD)
    (hzsx : PySem.W.nsIn K mainGlobals "super" = some none) (hzox : PySem.W.nsIn K cStatics "thirdparty.any" = some none) (htpx : (PR.main.scope.names.lookup ("super" : Str)).isSome = false)
    {nm_InvalidName q_InvalidName : Str} {C_InvalidName N_InvalidName : Addr} {bs_InvalidName bm_InvalidName sub_InvalidName : List Value} {sn_InvalidName : List Str} {ab_InvalidName : Bool} {col_InvalidName : Option Bool} {dd_InvalidName : Option Addr} {k0_InvalidName k1_InvalidName k2_InvalidName k3_InvalidName k5_InvalidName : Option Value}
    (a_InvalidName : PySem.W.nsIn K mainGlobals "InvalidName" = some (some (.ref C_InvalidName))) (l_InvalidName : K.lookup C_InvalidName = some (excClassObj nm_InvalidName q_InvalidName C_InvalidName N_InvalidName bs_InvalidName bm_InvalidName true sn_InvalidName sub_InvalidName ab_InvalidName col_InvalidName dd_InvalidName k0_InvalidName k1_InvalidName k2_InvalidName k3_InvalidName k5_InvalidName "ValueError.__new__")) (r_InvalidName : PySem.HandSPX.refsVE bm_InvalidName = true) (b_InvalidName : xcB K C_InvalidName xD xI = true)
    {nm_InvalidNames q_InvalidNames : Str} {C_InvalidNames N_InvalidNames : Addr} {bs_InvalidNames bm_InvalidNames sub_InvalidNames : List Value} {sn_InvalidNames : List Str} {ab_InvalidNames : Bool} {col_InvalidNames : Option Bool} {dd_InvalidNames : Option Addr} {k0_InvalidNames k1_InvalidNames k2_InvalidNames k3_InvalidNames k5_InvalidNames : Option Value}
    (a_InvalidNames : PySem.W.nsIn K mainGlobals "InvalidNames" = some (some (.ref C_InvalidNames))) (l_InvalidNames : K.lookup C_InvalidNames = some (excClassObj nm_InvalidNames q_InvalidNames C_InvalidNames N_InvalidNames bs_InvalidNames bm_InvalidNames true sn_InvalidNames sub_InvalidNames ab_InvalidNames col_InvalidNames dd_InvalidNames k0_InvalidNames k1_InvalidNames k2_InvalidNames k3_InvalidNames k5_InvalidNames "ValueError.__new__")) (r_InvalidNames : PySem.HandSPX.refsVE bm_InvalidNames = true) (b_InvalidNames : xcB K C_InvalidNames xD xI = true)
    {nm_InvalidProgram q_InvalidProgram : Str} {C_InvalidProgram N_InvalidProgram : Addr} {bs_InvalidProgram bm_InvalidProgram sub_InvalidProgram : List Value} {sn_InvalidProgram : List Str} {ab_InvalidProgram : Bool} {col_InvalidProgram : Option Bool} {dd_InvalidProgram : Option Addr} {k0_InvalidProgram k1_InvalidProgram k2_InvalidProgram k3_InvalidProgram k5_InvalidProgram : Option Value}
    (a_InvalidProgram : PySem.W.nsIn K mainGlobals "InvalidProgram" = some (some (.ref C_InvalidProgram))) (l_InvalidProgram : K.lookup C_InvalidProgram = some (excClassObj nm_InvalidProgram q_InvalidProgram C_InvalidProgram N_InvalidProgram bs_InvalidProgram bm_InvalidProgram true sn_InvalidProgram sub_InvalidProgram ab_InvalidProgram col_InvalidProgram dd_InvalidProgram k0_InvalidProgram k1_InvalidProgram k2_InvalidProgram k3_InvalidProgram k5_InvalidProgram "ValueError.__new__")) (r_InvalidProgram : PySem.HandSPX.refsVE bm_InvalidProgram = true) (b_InvalidProgram : xcB K C_InvalidProgram xD xI = true)
    {nm_InvalidWides q_InvalidWides : Str} {C_InvalidWides N_InvalidWides : Addr} {bs_InvalidWides bm_InvalidWides sub_InvalidWides : List Value} {sn_InvalidWides : List Str} {ab_InvalidWides : Bool} {col_InvalidWides : Option Bool} {dd_InvalidWides : Option Addr} {k0_InvalidWides k1_InvalidWides k2_InvalidWides k3_InvalidWides k5_InvalidWides : Option Value}
    (a_InvalidWides : PySem.W.nsIn K mainGlobals "InvalidWides" = some (some (.ref C_InvalidWides))) (l_InvalidWides : K.lookup C_InvalidWides = some (excClassObj nm_InvalidWides q_InvalidWides C_InvalidWides N_InvalidWides bs_InvalidWides bm_InvalidWides true sn_InvalidWides sub_InvalidWides ab_InvalidWides col_InvalidWides dd_InvalidWides k0_InvalidWides k1_InvalidWides k2_InvalidWides k3_InvalidWides k5_InvalidWides "ValueError.__new__")) (r_InvalidWides : PySem.HandSPX.refsVE bm_InvalidWides = true) (b_InvalidWides : xcB K C_InvalidWides xD xI = true)
    {nm_StepError q_StepError : Str} {C_StepError N_StepError : Addr} {bs_StepError bm_StepError sub_StepError : List Value} {sn_StepError : List Str} {ab_StepError : Bool} {col_StepError : Option Bool} {dd_StepError : Option Addr} {k0_StepError k1_StepError k2_StepError k3_StepError k5_StepError : Option Value}
    (a_StepError : PySem.W.nsIn K mainGlobals "StepError" = some (some (.ref C_StepError))) (l_StepError : K.lookup C_StepError = some (excClassObj nm_StepError q_StepError C_StepError N_StepError bs_StepError bm_StepError true sn_StepError sub_StepError ab_StepError col_StepError dd_StepError k0_StepError k1_StepError k2_StepError k3_StepError k5_StepError "ValueError.__new__")) (r_StepError : PySem.HandSPX.refsVE bm_StepError = true) (b_StepError : xcB K C_StepError xD xI = true)
    (xsb : xsB K xn = true) : Tab PR K mg where
    d1000 := ⟨f1000, _, fun_mk (st := top 33) l1000 c1000 k1000, (fun_mk (st := top 33) l1000 c1000 k1000).binds (ps := ["script"]) (fun _ _ _ _ _ _ us hl => match us, hl with | [_], _ => rfl), PySem.W.mg_of X G a1000⟩
    d1001 := ⟨f1001, _, fun_mk (st := top 25) l1001 c1001 k1001, (fun_mk (st := top 25) l1001 c1001 k1001).binds (ps := ["script", "k"]) (fun _ _ _ _ _ _ us hl => match us, hl with | [_, _], _ => rfl), PySem.W.mg_of X G a1001⟩
    d1002 := ⟨f1002, _, fun_mk (st := top 32) l1002 c1002 k1002, (fun_mk (st := top 32) l1002 c1002 k1002).binds (ps := ["spring"]) (fun _ _ _ _ _ _ us hl => match us, hl with | [_], _ => rfl), PySem.W.mg_of X G a1002⟩
    d1003 := ⟨f1003, _, fun_mk (st := top 26) l1003 c1003 k1003, (fun_mk (st := top 26) l1003 c1003 k1003).binds (ps := ["spring", "many"]) (fun _ _ _ _ _ _ us hl => match us, hl with | [_, _], _ => rfl), PySem.W.mg_of X G a1003⟩
    d1004 := ⟨f1004, _, fun_mk (st := top 27) l1004 c1004 k1004, (fun_mk (st := top 27) l1004 c1004 k1004).binds (ps := ["spring", "many", "names"]) (fun _ _ _ _ _ _ us hl => match us, hl with | [_, _, _], _ => rfl), PySem.W.mg_of X G a1004⟩
    d34 := ⟨f34, _, fun_mk (st := top 21) l34 c34 k34, (fun_mk (st := top 21) l34 c34 k34).binds (ps := ["wide"]) (fun _ _ _ _ _ _ us hl => match us, hl with | [_], _ => rfl), PySem.W.mg_of X G a34⟩
    d35 := ⟨f35, _, fun_mk (st := top 22) l35 c35 k35, (fun_mk (st := top 22) l35 c35 k35).binds (ps := ["wide", "wides"]) (fun _ _ _ _ _ _ us hl => match us, hl with | [_, _], _ => rfl), PySem.W.mg_of X G a35⟩
    d1005 := ⟨f1005, _, fun_mk (st := top 30) l1005 c1005 k1005, (fun_mk (st := top 30) l1005 c1005 k1005).binds (ps := ["spring", "wides", "names"]) (fun _ _ _ _ _ _ us hl => match us, hl with | [_, _, _], _ => rfl), PySem.W.mg_of X G a1005⟩
    d1006 := ⟨f1006, _, fun_mk (st := top 31) l1006 c1006 k1006, (fun_mk (st := top 31) l1006 c1006 k1006).binds (ps := ["spring", "names"]) (fun _ _ _ _ _ _ us hl => match us, hl with | [_, _], _ => rfl), PySem.W.mg_of X G a1006⟩
    d16 := ⟨f16, _, fun_mk (st := top 19) l16 c16 k16, (fun_mk (st := top 19) l16 c16 k16).binds (ps := ["wide"]) (fun _ _ _ _ _ _ us hl => match us, hl with | [_], _ => rfl), PySem.W.mg_of X G a16⟩
    d5 := ⟨f5, _, fun_mk (st := top 16) l5 c5 k5, (fun_mk (st := top 16) l5 c5 k5).binds (ps := ["value"]) (fun _ _ _ _ _ _ us hl => match us, hl with | [_], _ => rfl), PySem.W.mg_of X G a5⟩
    d2 := ⟨f2, _, fun_mk (st := top 9) l2 c2 k2, (fun_mk (st := top 9) l2 c2 k2).binds (ps := ["value"]) (fun _ _ _ _ _ _ us hl => match us, hl with | [_], _ => rfl), PySem.W.mg_of X G a2⟩
    d1007 := ⟨f1007, _, fun_mk (st := top 29) l1007 c1007 k1007, (fun_mk (st := top 29) l1007 c1007 k1007).binds (ps := ["which", "one", "other"]) (fun _ _ _ _ _ _ us hl => match us, hl with | [_, _, _], _ => rfl), PySem.W.mg_of X G a1007⟩
    d1008 := ⟨f1008, _, fun_mk (st := top 28) l1008 c1008 k1008, (fun_mk (st := top 28) l1008 c1008 k1008).binds (ps := ["name", "taken"]) (fun _ _ _ _ _ _ us hl => match us, hl with | [_, _], _ => rfl), PySem.W.mg_of X G a1008⟩
    d36 := ⟨f36, _, fun_mk (st := top 23) l36 c36 k36, (fun_mk (st := top 23) l36 c36 k36).binds (ps := ["name", "names"]) (fun _ _ _ _ _ _ us hl => match us, hl with | [_, _], _ => rfl), PySem.W.mg_of X G a36⟩
    d4 := ⟨f4, _, fun_mk (st := top 15) l4 c4 k4, (fun_mk (st := top 15) l4 c4 k4).binds (ps := ["value"]) (fun _ _ _ _ _ _ us hl => match us, hl with | [_], _ => rfl), PySem.W.mg_of X G a4⟩
    d33 := ⟨f33, _, fun_mk (st := top 20) l33 c33 k33, (fun_mk (st := top 20) l33 c33 k33).binds (ps := ["name"]) (fun _ _ _ _ _ _ us hl => match us, hl with | [_], _ => rfl), PySem.W.mg_of X G a33⟩
    d3 := ⟨f3, _, fun_mk (st := top 14) l3 c3 k3, (fun_mk (st := top 14) l3 c3 k3).binds (ps := ["value"]) (fun _ _ _ _ _ _ us hl => match us, hl with | [_], _ => rfl), PySem.W.mg_of X G a3⟩
    d32 := ⟨f32, _, fun_mk (st := top 17) l32 c32 k32, (fun_mk (st := top 17) l32 c32 k32).binds (ps := ["name", "taken"]) (fun _ _ _ _ _ _ us hl => match us, hl with | [_, _], _ => rfl), PySem.W.mg_of X G a32⟩
    d1 := ⟨f1, _, fun_mk (st := top 8) l1 c1 k1, (fun_mk (st := top 8) l1 c1 k1).binds (ps := ["value"]) (fun _ _ _ _ _ _ us hl => match us, hl with | [_], _ => rfl), PySem.W.mg_of X G a1⟩
    d0 := ⟨f0, _, fun_mk (st := top 7) l0 c0 k0, (fun_mk (st := top 7) l0 c0 k0).binds (ps := ["value"]) (fun _ _ _ _ _ _ us hl => match us, hl with | [_], _ => rfl), PySem.W.mg_of X G a0⟩
    z_abs := PySem.W.mg_none_of X G z_abs
    z_all := PySem.W.mg_none_of X G z_all
    z_bool := PySem.W.mg_none_of X G z_bool
    z_int := PySem.W.mg_none_of X G z_int
    z_isinstance := PySem.W.mg_none_of X G z_isinstance
    z_len := PySem.W.mg_none_of X G z_len
    z_list := PySem.W.mg_none_of X G z_list
    z_max := PySem.W.mg_none_of X G z_max
    z_min := PySem.W.mg_none_of X G z_min
    z_range := PySem.W.mg_none_of X G z_range
    z_repr := PySem.W.mg_none_of X G z_repr
    z_str := PySem.W.mg_none_of X G z_str
    z_tuple := PySem.W.mg_none_of X G z_tuple
    g_DIGITS := ⟨t_DIGITS, PySem.W.mg_of X G g_DIGITS⟩
    g_LETTERS := ⟨t_LETTERS, PySem.W.mg_of X G g_LETTERS⟩
    g_MOST_DIGITS := ⟨t_MOST_DIGITS, PySem.W.mg_of X G g_MOST_DIGITS⟩
    xb := ⟨xD, xI, xc, xd, ⟨xoc, xod, xkV, xdoc, xpm, xan, xct, xosl, hlIx⟩, hcIx, htIx, ⟨xccl, xcdd, xvs, xccs, xfile, xtf, hlcx, hvfx, hhfx⟩, ⟨xcl, xcld, xcsl, hlex⟩, ⟨xcdD, hcDx⟩, hzsx, PySem.W.mg_none_of X G hzsx, hzox, htpx⟩
    x_InvalidName := Dv.xcl (ini := ini) ⟨xD, xI, xc, xd, ⟨xoc, xod, xkV, xdoc, xpm, xan, xct, xosl, hlIx⟩, hcIx, htIx, ⟨xccl, xcdd, xvs, xccs, xfile, xtf, hlcx, hvfx, hhfx⟩, ⟨xcl, xcld, xcsl, hlex⟩, ⟨xcdD, hcDx⟩, hzsx, PySem.W.mg_none_of X G hzsx, hzox, htpx⟩ ini_ok a_InvalidName (PySem.W.mg_of X G a_InvalidName) l_InvalidName r_InvalidName b_InvalidName
    x_InvalidNames := Dv.xcl (ini := ini) ⟨xD, xI, xc, xd, ⟨xoc, xod, xkV, xdoc, xpm, xan, xct, xosl, hlIx⟩, hcIx, htIx, ⟨xccl, xcdd, xvs, xccs, xfile, xtf, hlcx, hvfx, hhfx⟩, ⟨xcl, xcld, xcsl, hlex⟩, ⟨xcdD, hcDx⟩, hzsx, PySem.W.mg_none_of X G hzsx, hzox, htpx⟩ ini_ok a_InvalidNames (PySem.W.mg_of X G a_InvalidNames) l_InvalidNames r_InvalidNames b_InvalidNames
    x_InvalidProgram := Dv.xcl (ini := ini) ⟨xD, xI, xc, xd, ⟨xoc, xod, xkV, xdoc, xpm, xan, xct, xosl, hlIx⟩, hcIx, htIx, ⟨xccl, xcdd, xvs, xccs, xfile, xtf, hlcx, hvfx, hhfx⟩, ⟨xcl, xcld, xcsl, hlex⟩, ⟨xcdD, hcDx⟩, hzsx, PySem.W.mg_none_of X G hzsx, hzox, htpx⟩ ini_ok a_InvalidProgram (PySem.W.mg_of X G a_InvalidProgram) l_InvalidProgram r_InvalidProgram b_InvalidProgram
    x_InvalidWides := Dv.xcl (ini := ini) ⟨xD, xI, xc, xd, ⟨xoc, xod, xkV, xdoc, xpm, xan, xct, xosl, hlIx⟩, hcIx, htIx, ⟨xccl, xcdd, xvs, xccs, xfile, xtf, hlcx, hvfx, hhfx⟩, ⟨xcl, xcld, xcsl, hlex⟩, ⟨xcdD, hcDx⟩, hzsx, PySem.W.mg_none_of X G hzsx, hzox, htpx⟩ ini_ok a_InvalidWides (PySem.W.mg_of X G a_InvalidWides) l_InvalidWides r_InvalidWides b_InvalidWides
    x_StepError := Dv.xcl (ini := ini) ⟨xD, xI, xc, xd, ⟨xoc, xod, xkV, xdoc, xpm, xan, xct, xosl, hlIx⟩, hcIx, htIx, ⟨xccl, xcdd, xvs, xccs, xfile, xtf, hlcx, hvfx, hhfx⟩, ⟨xcl, xcld, xcsl, hlex⟩, ⟨xcdD, hcDx⟩, hzsx, PySem.W.mg_none_of X G hzsx, hzox, htpx⟩ ini_ok a_StepError (PySem.W.mg_of X G a_StepError) l_StepError r_StepError b_StepError
    xs := xs_of xsb
theorem law_of {P : Program} {w : World} {K : PySem.W.Frag} {mg : Str → Option Value} {fa : Addr} (T : Tab P K mg) (hfa : mg "law" = some (.ref fa)) (hfd : ∀ (s : Shared) (v : Value), BindsTo s T.d1000.fd ⟨[v], []⟩ [("script", v)]) :
    ∃ fd : FuncData, (∀ (s : Shared) (v : Value), BindsTo s fd ⟨[v], []⟩ [("script", v)]) ∧ ∀ base : Heap, K.In base → base.Ns mainGlobals mg → FnOk P w K mg base 60 fa fd ["script"] (spF K (sem 60 1000)) := by
  have e := hfa.symm.trans T.d1000.m
  cases e
  exact ⟨T.d1000.fd, hfd, fun base _ _ => (all_ok (P := P) (w := w) (base := base) T 60).o1000⟩
end K03
namespace Dv
open PySem L2
theorem log2_400 {n : Nat} (h : n < 2 ^ 400) : n.log2 < 400 := by
  by_cases h0 : n = 0
  · subst h0; decide
  · exact (Nat.log2_lt h0).mpr h
theorem mulD_w {i j : Int} (hi : i.natAbs < 2 ^ 400) (hj : j.natAbs < 2 ^ 400) : mulD (.int i) (.int j) = some (.val (.int (i * j))) := by
  have a := log2_400 hi
  have b := log2_400 hj
  have h : MulOk i j := .inr (by unfold CMulW; omega)
  unfold mulD
  simp only
  rw [if_pos h]
theorem mulD_r {i j : Int} (h1 : -4611686018427387904 < j) (h2 : j < 4611686018427387904) : mulD (.int i) (.int j) = some (.val (.int (i * j))) := by
  have h : MulOk i j := .inl (.inr ⟨by omega, by omega⟩)
  unfold mulD
  simp only
  rw [if_pos h]
theorem powD_10 {k : Nat} {z : Int} (hk : k ≤ 100) (hz : z = 10 ^ k) : powD (.int 10) (.int (k : Nat)) = some (.val (.int z)) := by
  have h : (0 : Int) ≤ (k : Nat) ∧ ((k : Nat) : Int) ≤ 1000000 ∧ (10 : Int).natAbs < 2 ^ 64 := ⟨by omega, by omega, by decide⟩
  unfold powD
  simp only
  rw [if_pos h, Int.toNat_natCast, hz]
theorem natAbs_mul_lt {i j : Int} {a b : Nat} (hi : i.natAbs < 2 ^ a) (hj : j.natAbs < 2 ^ b) : (i * j).natAbs < 2 ^ (a + b) := by
  rw [Int.natAbs_mul, Nat.pow_add]
  exact Nat.mul_lt_mul_of_lt_of_le hi (Nat.le_of_lt hj) (Nat.pow_pos (by decide))
theorem natAbs_add_lt {i j : Int} {a : Nat} (hi : i.natAbs < 2 ^ a) (hj : j.natAbs < 2 ^ a) : (i + j).natAbs < 2 ^ (a + 1) := by
  have := Int.natAbs_add_le i j
  rw [Nat.pow_succ]; omega
end Dv
namespace K03
open PySem L2 Dv Pg
def sprD (a b t : Int) : Dv.D := .lst [.int a, .int b, .int t]
structure Spr (a b t : Int) (m : Nat) : Prop where
  a0 : 0 ≤ a
  b0 : b.natAbs < 2 ^ 100
  t0 : 0 ≤ t
  tm : t ≤ (m : Nat)
theorem set_p0 {a b e d : Dv.D} {us : List Slot} : setO 0 (some (.int 0)) d (.par (.lst [a, b, e]) :: us) = .nxt (.par (.lst [d, b, e]) :: us) := by
  have h := ixN_nat (n := 3) (i := 0) (by decide)
  have h : ixN [a, b, e].length 0 = some 0 := h
  unfold setO
  simp only [List.getElem?_cons_zero, Slot.mut, Slot.dat, Slot.put, if_true, h, List.set_cons_zero, List.set_cons_succ]
theorem mod_step {x m : Int} (hm : 0 < m) : ∃ r : Int, modD (.int x) (.int m) = some (.val (.int r)) ∧ 0 ≤ r ∧ r < m := ⟨x % m, modD_pos hm, Int.emod_nonneg x (by omega), Int.emod_lt_of_pos x hm⟩
theorem mix1 {b t : Int} {s0 s1 s2 s4 : Slot} {p : Dv.D} (e0 : s0 = .par (.lst [p, .int b, .int t])) (hb : b.natAbs < 2 ^ 100) (ht : t.natAbs < 2 ^ 60) :
    ∃ z : Int, z.natAbs < 2 ^ 100 ∧ sAsg 4 (sOp2 modD (sCB intD (aCons (sOp2 addD (sOp2 addD (sOp2 mulD (sOp2 mulD (sOp2 addD (sOp2 atD (sVar 0) (sC (.int 1))) (sC (.int 19))) (sOp2 addD (sVar 3) (sC (.int 3)))) (sC (.int 1000000007))) (sOp2 mulD (sOp2 mulD (sOp2 mulD (sVar 3) (sVar 3)) (sVar 3)) (sC (.int 777767777)))) (sC (.int 29))) aNil)) (sOp2 addD (sOp2 powD (sC (.int 10)) (sC (.int 28))) (sC (.int 331)))) [s0, s1, s2, .val (.int t), s4] = .nxt [s0, s1, s2, .val (.int t), .val (.int z)] := by
  subst e0
  have p28 : powD (.int 10) (.int 28) = some (.val (.int 10000000000000000000000000000)) := powD_10 (k := 28) (by decide) (by decide)
  have b1 : (b + 19).natAbs < 2 ^ 101 := natAbs_add_lt hb (by decide)
  have b2 : (t + 3).natAbs < 2 ^ 61 := natAbs_add_lt ht (by decide)
  have m1 := mulD_w (i := b + 19) (j := t + 3) (Nat.lt_of_lt_of_le b1 (by decide)) (Nat.lt_of_lt_of_le b2 (by decide))
  have m2 := mulD_r (i := (b + 19) * (t + 3)) (j := 1000000007) (by decide) (by decide)
  have t400 : t.natAbs < 2 ^ 400 := Nat.lt_of_lt_of_le ht (by decide)
  have m3 := mulD_w (i := t) (j := t) t400 t400
  have m4 := mulD_w (i := t * t) (j := t) (Nat.lt_of_lt_of_le (natAbs_mul_lt ht ht) (by decide)) t400
  have m5 := mulD_r (i := t * t * t) (j := 777767777) (by decide) (by decide)
  generalize (b + 19) * (t + 3) = u1 at *
  generalize t * t * t = u2 at *
  generalize t * t = u3 at *
  generalize u1 * 1000000007 = u4 at *
  generalize u2 * 777767777 = u5 at *
  obtain ⟨z, ez, z0, z1⟩ := mod_step (x := u4 + u5 + 29) (m := 10000000000000000000000000000 + 331) (by decide)
  refine ⟨z, ?_, ?_⟩
  · have : z.natAbs < 10000000000000000000000000000 + 331 := by omega
    exact Nat.lt_of_lt_of_le this (by decide)
  · generalize (10000000000000000000000000000 : Int) = q at *
    simp_arith [p28, m1, m2, m3, m4, m5, intD_int, ez]
theorem mix2 {b t z : Int} {s0 s1 s2 : Slot} {p q : Dv.D} (e0 : s0 = .par (.lst [p, .int b, q])) (hz : z.natAbs < 2 ^ 100) :
    ∃ y : Int, y.natAbs < 2 ^ 100 ∧ sAsg 4 (sOp2 modD (sCB intD (aCons (sOp2 addD (sOp2 addD (sOp2 mulD (sVar 4) (sVar 4)) (sOp2 mulD (sOp2 atD (sVar 0) (sC (.int 1))) (sC (.int 11)))) (sVar 3)) aNil)) (sOp2 addD (sOp2 powD (sC (.int 10)) (sC (.int 30))) (sC (.int 57)))) [s0, s1, s2, .val (.int t), .val (.int z)] = .nxt [s0, s1, s2, .val (.int t), .val (.int y)] := by
  subst e0
  have p30 : powD (.int 10) (.int 30) = some (.val (.int 1000000000000000000000000000000)) := powD_10 (k := 30) (by decide) (by decide)
  have z400 : z.natAbs < 2 ^ 400 := Nat.lt_of_lt_of_le hz (by decide)
  have m1 := mulD_w z400 z400
  have m2 := mulD_r (i := b) (j := 11) (by decide) (by decide)
  generalize z * z = u1 at *
  generalize b * 11 = u2 at *
  obtain ⟨y, ey, y0, y1⟩ := mod_step (x := u1 + u2 + t) (m := 1000000000000000000000000000000 + 57) (by decide)
  refine ⟨y, ?_, ?_⟩
  · have : y.natAbs < 1000000000000000000000000000000 + 57 := by omega
    exact Nat.lt_of_lt_of_le this (by decide)
  · generalize (1000000000000000000000000000000 : Int) = q at *
    simp_arith [p30, m1, m2, intD_int, ey]
theorem mix3 {z : Int} {s0 s1 s2 s3 : Slot} (hz : z.natAbs < 2 ^ 100) :
    ∃ y : Int, sAsg 4 (sOp2 modD (sCB intD (aCons (sOp2 addD (sOp2 mulD (sOp2 mulD (sVar 4) (sVar 4)) (sC (.int 7))) (sOp2 mulD (sVar 4) (sC (.int 13)))) aNil)) (sOp2 addD (sOp2 powD (sC (.int 10)) (sC (.int 32))) (sC (.int 49)))) [s0, s1, s2, s3, .val (.int z)] = .nxt [s0, s1, s2, s3, .val (.int y)] := by
  have p32 : powD (.int 10) (.int 32) = some (.val (.int 100000000000000000000000000000000)) := powD_10 (k := 32) (by decide) (by decide)
  have z400 : z.natAbs < 2 ^ 400 := Nat.lt_of_lt_of_le hz (by decide)
  have m1 := mulD_w z400 z400
  have m2 := mulD_r (i := z * z) (j := 7) (by decide) (by decide)
  have m3 := mulD_r (i := z) (j := 13) (by decide) (by decide)
  generalize z * z = u1 at *
  generalize u1 * 7 = u2 at *
  generalize z * 13 = u3 at *
  obtain ⟨y, ey, y0, y1⟩ := mod_step (x := u2 + u3) (m := 100000000000000000000000000000000 + 49) (by decide)
  refine ⟨y, ?_⟩
  generalize (100000000000000000000000000000000 : Int) = q at *
  simp_arith [p32, m1, m2, m3, intD_int, ey]
theorem last3 {z m : Int} {s0 s2 s3 : Slot} (hm : 0 < m) : ∃ r : Int, 0 ≤ r ∧ r < m ∧ sRet (sOp2 modD (sCB intD (aCons (sOp2 fdivD (sVar 4) (sC (.int 30011))) aNil)) (sVar 1)) [s0, .val (.int m), s2, s3, .val (.int z)] = .ret (.val (.int r)) [s0, .val (.int m), s2, s3, .val (.int z)] := by
  have d1 := fdivD_pos (a := z) (b := 30011) (by decide) (by decide)
  generalize z / 30011 = u1 at *
  obtain ⟨r, er, r0, r1⟩ := mod_step (x := u1) hm
  refine ⟨r, r0, r1, ?_⟩
  simp_arith [d1, intD_int, er]
def TakeOk (F : Fn) : Prop := ∀ (a b t : Int) (k : Nat) (m : Int), Spr a b t k → k < 1000000 → 0 < m → m < 1000000000000 → ∃ r a' t' : Int, F [.par (sprD a b t), .val (.int m)] = .ret (.val (.int r)) [.par (sprD a' b t'), .val (.int m)] ∧ 0 ≤ r ∧ r < m ∧ Spr a' b t' (k + 1)
theorem take_ok (c : Nat → Fn) : TakeOk (run 2 5 (b_law_take c)) := by
  intro a b t k m S hk hm hm2
  by_cases ha : 0 < a
  · obtain ⟨r, er, r0, r1⟩ := mod_step (x := a) hm
    have e2 : fdivD (.int a) (.int m) = some (.val (.int (a / m))) := by
      have hl : m.natAbs.log2 < 9000 := by
        have : m.natAbs < 2 ^ 64 := by omega
        have : m.natAbs.log2 < 64 := (Nat.log2_lt (by omega)).mpr this
        omega
      show (if 0 < m ∧ m.natAbs.log2 < 9000 then some (Opd.val (.int (a / m))) else none) = _
      rw [if_pos ⟨hm, hl⟩]
    have n0 : 0 ≤ a / m := Int.ediv_nonneg S.a0 (by omega)
    refine ⟨r, a / m, t, ?_, r0, r1, ⟨n0, S.b0, S.t0, by have := S.tm; omega⟩⟩
    refine run_val rfl (s := [.par (sprD (a / m) b t), .val (.int m), .val (.int r), .un, .un]) ?_ rfl
    unfold b_law_take sprD
    generalize a / m = a' at *
    refine seq_ret ?_
    simp_arith [decide_eq_true ha, intD_int, er, e2, set_p0]
  · have t1 : sIfS (tB (sOp2 gtD (sOp2 atD (sVar 0) (sC (.int 0))) (sC (.int 0)))) (sSeq (sAsg 2 (sOp2 modD (sCB intD (aCons (sOp2 atD (sVar 0) (sC (.int 0))) aNil)) (sVar 1)))
    (sSeq (sSet 0 (sC (.int 0)) (sOp2 fdivD (sOp2 atD (sVar 0) (sC (.int 0))) (sVar 1)))
    (sRet (sVar 2)))) sSkip [.par (sprD a b t), .val (.int m), .un, .un, .un] = .nxt [.par (sprD a b t), .val (.int m), .un, .un, .un] := by
      unfold sprD
      simp_arith [decide_eq_false ha]
    have t2 : sSet 0 (sC (.int 2)) (sOp2 addD (sOp2 atD (sVar 0) (sC (.int 2))) (sC (.int 1))) [.par (sprD a b t), .val (.int m), .un, .un, .un] = .nxt [.par (sprD a b (t + 1)), .val (.int m), .un, .un, .un] := by
      unfold sprD
      simp_arith [set_p2]
    have t3 : sAsg 3 (sOp2 atD (sVar 0) (sC (.int 2))) [.par (sprD a b (t + 1)), .val (.int m), .un, .un, .un] = .nxt [.par (sprD a b (t + 1)), .val (.int m), .un, .val (.int (t + 1)), .un] := by
      unfold sprD
      simp_arith []
    have s0 := S.t0
    have s1 := S.tm
    have ht : (t + 1).natAbs < 2 ^ 60 := by
      have : (t + 1).natAbs < 1000002 := by omega
      exact Nat.lt_trans this (by decide)
    obtain ⟨z1, h1, t4⟩ := mix1 (s1 := .val (.int m)) (s2 := .un) (s4 := .un) (p := .int a) rfl S.b0 ht
    obtain ⟨z2, h2, t5⟩ := mix2 (b := b) (t := t + 1) (s1 := .val (.int m)) (s2 := .un) (p := .int a) (q := .int (t + 1)) rfl h1
    obtain ⟨z3, t6⟩ := mix3 (s0 := .par (sprD a b (t + 1))) (s1 := .val (.int m)) (s2 := .un) (s3 := .val (.int (t + 1))) h2
    obtain ⟨r, r0, r1, t7⟩ := last3 (z := z3) (s0 := .par (sprD a b (t + 1))) (s2 := .un) (s3 := .val (.int (t + 1))) hm
    refine ⟨r, a, t + 1, ?_, r0, r1, ⟨S.a0, S.b0, by omega, by omega⟩⟩
    refine run_val rfl (s := [.par (sprD a b (t + 1)), .val (.int m), .un, .val (.int (t + 1)), .val (.int z3)]) ?_ rfl
    unfold b_law_take
    exact (seq_nxt t1).trans ((seq_nxt t2).trans ((seq_nxt t3).trans ((seq_nxt t4).trans ((seq_nxt t5).trans ((seq_nxt t6).trans t7)))))
end K03
namespace Dv
open PySem L2
theorem for_all {g : G} {b : S} (I : Sto → Prop) : ∀ {ds : List D} {s : Sto}, (∀ d ∈ ds, ∀ s, I s → ∃ s1 s2, g d s = some s1 ∧ b s1 = .nxt s2 ∧ I s2) → I s → ∃ s', forL g b ds s = .nxt s' ∧ I s'
  | [], s, _, h => ⟨s, rfl, h⟩
  | d :: ds, s, hs, h => by
    obtain ⟨s1, s2, e1, e2, h2⟩ := hs d List.mem_cons_self s h
    obtain ⟨s', e3, h3⟩ := for_all I (fun d hd => hs d (List.mem_cons_of_mem _ hd)) h2
    exact ⟨s', (forL_cons e1 e2).trans e3, h3⟩
theorem absD_int (i : Int) : absD [.int i] = some (.val (.int (if i < 0 then -i else i))) := rfl
theorem intD_bl (b : Bool) : intD [.bl b] = some (.val (.int (if b then 1 else 0))) := rfl
end Dv
namespace K03
open PySem L2 Dv Pg
theorem at_scr {ns : List Int} {k : Nat} (h : k < ns.length) : ∃ v : Int, atD (.scr (ns.map .int)) (.int (k : Nat)) = some (.val (.int v)) := by
  refine ⟨ns[k], ?_⟩
  show (atI (ns.map Dv.D.int) ((k : Nat) : Int)).map Opd.val = _
  rw [atI_nat (v := Dv.D.int ns[k]) (by rw [List.getElem?_map, List.getElem?_eq_getElem h]; rfl)]
  rfl
theorem spring_ok (c : Nat → Fn) (ns : List Int) (k : Nat) : ∃ a b : Int, run 2 6 (b_law_spring c) [.val (.scr (ns.map .int)), .val (.int (k : Nat))] = .ret (.own (sprD a b 0)) [.val (.scr (ns.map .int)), .val (.int (k : Nat))] ∧ Spr a b 0 0 := by
  have c1 : ∃ cell : Int, sAsg 2 (sIf (tB (sOp2 ltD (sVar 1) (sCB lenD (aCons (sVar 0) aNil)))) (sCB intD (aCons (sOp2 atD (sVar 0) (sVar 1)) aNil)) (sOp2 addD (sC (.int 41)) (sOp2 mulD (sC (.int 29)) (sVar 1)))) [.val (.scr (ns.map .int)), .val (.int (k : Nat)), .un, .un, .un, .un] = .nxt [.val (.scr (ns.map .int)), .val (.int (k : Nat)), .val (.int cell), .un, .un, .un] := by
    have hl : ((ns.map Dv.D.int).length : Int) = (ns.length : Int) := by rw [List.length_map]
    by_cases h : k < ns.length
    · obtain ⟨v, ev1⟩ := at_scr h
      have hd : decide (((k : Nat) : Int) < (ns.length : Int)) = true := decide_eq_true (by omega)
      refine ⟨v, ?_⟩
      simp_arith [hl, hd, ev1, intD_int]
    · have m1 := mulD_small (i := 29) (j := ((k : Nat) : Int)) (by decide) (by decide)
      have hd : decide (((k : Nat) : Int) < (ns.length : Int)) = false := decide_eq_false (by omega)
      refine ⟨41 + 29 * ((k : Nat) : Int), ?_⟩
      simp_arith [hl, hd, m1]
  obtain ⟨cell, c1⟩ := c1
  generalize hkk : ((k : Nat) : Int) = kk at *
  generalize hsc : Dv.D.scr (ns.map .int) = sc at *
  have c2 : ∃ bl : Int, sAsg 3 (sOp2 addD (sC (.int 23)) (sOp2 mulD (sC (.int 7)) (sCB lenD (aCons (sVar 0) aNil)))) [.val sc, .val (.int kk), .val (.int cell), .un, .un, .un] = .nxt [.val sc, .val (.int kk), .val (.int cell), .val (.int bl), .un, .un] := by
    subst hsc
    have m1 := mulD_small (i := 7) (j := (((ns.map Dv.D.int).length : Nat) : Int)) (by decide) (by decide)
    refine ⟨23 + 7 * (((ns.map Dv.D.int).length : Nat) : Int), ?_⟩
    simp_arith [m1]
  obtain ⟨bl0, c2⟩ := c2
  have c3 : ∃ (bl : Int) (u : Slot), sFor (wSeq (sVar 0)) b_law_spring_g1 (b_law_spring_b1 c) [.val sc, .val (.int kk), .val (.int cell), .val (.int bl0), .un, .un] = .nxt [.val sc, .val (.int kk), .val (.int cell), .val (.int bl), u, .un] := by
    obtain ⟨s', e, bl, u, rfl⟩ := for_all (g := b_law_spring_g1) (b := b_law_spring_b1 c) (ds := ns.map Dv.D.int) (s := [.val sc, .val (.int kk), .val (.int cell), .val (.int bl0), .un, .un]) (fun s => ∃ (bl : Int) (u : Slot), s = [.val sc, .val (.int kk), .val (.int cell), .val (.int bl), u, .un]) (fun d hd s ⟨bl, u, es⟩ => by
      subst es
      obtain ⟨one, _, rfl⟩ := List.mem_map.mp hd
      have p18 := powD_18
      have p24 : powD (.int 10) (.int 24) = some (.val (.int 1000000000000000000000000)) := powD_10 (k := 24) (by decide) (by decide)
      have m1 := mulD_r (i := bl) (j := 60013) (by decide) (by decide)
      generalize bl * 60013 = u1 at *
      obtain ⟨x, ex, _, _⟩ := mod_step (x := one) (m := 1000000000000000000 + 9) (by decide)
      obtain ⟨y, ey, _, _⟩ := mod_step (x := u1 + x) (m := 1000000000000000000000000 + 7) (by decide)
      generalize (1000000000000000000 : Int) = q1 at *
      generalize (1000000000000000000000000 : Int) = q2 at *
      refine ⟨_, [.val sc, .val (.int kk), .val (.int cell), .val (.int y), .val (.int one), .un], rfl, ?_, y, _, rfl⟩
      unfold b_law_spring_b1
      simp_arith [p18, p24, m1, ex, ey, intD_int]) ⟨_, _, rfl⟩
    refine ⟨bl, u, for_of (ds := ns.map Dv.D.int) (s1 := [.val sc, .val (.int kk), .val (.int cell), .val (.int bl0), .un, .un]) ?_ e⟩
    subst hsc
    simp_arith []
  obtain ⟨bl, u, c3⟩ := c3
  have c4 : ∃ b : Int, b.natAbs < 2 ^ 100 ∧ sAsg 5 (sOp2 modD (sCB intD (aCons (sOp2 addD (sOp2 addD (sOp2 addD (sOp2 mulD (sCB absD (aCons (sVar 2) aNil)) (sC (.int 12289))) (sOp2 mulD (sVar 3) (sC (.int 97)))) (sOp2 mulD (sC (.int 5)) (sCB intD (aCons (sOp2 ltD (sVar 2) (sC (.int 0))) aNil)))) (sOp2 mulD (sC (.int 71)) (sVar 1))) aNil)) (sOp2 addD (sOp2 powD (sC (.int 10)) (sC (.int 27))) (sC (.int 103)))) [.val sc, .val (.int kk), .val (.int cell), .val (.int bl), u, .un] = .nxt [.val sc, .val (.int kk), .val (.int cell), .val (.int bl), u, .val (.int b)] := by
    have p27 : powD (.int 10) (.int 27) = some (.val (.int 1000000000000000000000000000)) := powD_10 (k := 27) (by decide) (by decide)
    generalize hab : (if cell < 0 then -cell else cell) = ab
    have a1 : absD [.int cell] = some (.val (.int ab)) := by rw [absD_int, hab]
    have m1 := mulD_r (i := ab) (j := 12289) (by decide) (by decide)
    have m2 := mulD_r (i := bl) (j := 97) (by decide) (by decide)
    generalize hbb : (if decide (cell < 0) = true then (1 : Int) else 0) = bb
    have b1 : intD [.bl (decide (cell < 0))] = some (.val (.int bb)) := by rw [intD_bl, hbb]
    have m3 := mulD_small (i := 5) (j := bb) (by decide) (by decide)
    have m4 := mulD_small (i := 71) (j := kk) (by decide) (by decide)
    generalize ab * 12289 = u1 at *
    generalize bl * 97 = u2 at *
    generalize 5 * bb = u3 at *
    generalize 71 * kk = u4 at *
    obtain ⟨z, ez, z0, z1⟩ := mod_step (x := u1 + u2 + u3 + u4) (m := 1000000000000000000000000000 + 103) (by decide)
    refine ⟨z, ?_, ?_⟩
    · have : z.natAbs < 1000000000000000000000000000 + 103 := by omega
      exact Nat.lt_of_lt_of_le this (by decide)
    · generalize (1000000000000000000000000000 : Int) = q at *
      simp_arith [p27, a1, b1, m1, m2, m3, m4, intD_int, ez]
  obtain ⟨b, hb, c4⟩ := c4
  have c5 : ∃ a : Int, 0 ≤ a ∧ sRet (sLst (aCons (sCB maxD (aCons (sC (.int 0)) (aCons (sOp2 subD (sCB absD (aCons (sVar 2) aNil)) (sOp2 powD (sC (.int 10)) (sC (.int 18)))) aNil))) (aCons (sVar 5) (aCons (sC (.int 0)) aNil)))) [.val sc, .val (.int kk), .val (.int cell), .val (.int bl), u, .val (.int b)] = .ret (.own (sprD a b 0)) [.val sc, .val (.int kk), .val (.int cell), .val (.int bl), u, .val (.int b)] := by
    have p18 := powD_18
    generalize (1000000000000000000 : Int) = q at *
    generalize hab : (if cell < 0 then -cell else cell) = ab
    have a1 : absD [.int cell] = some (.val (.int ab)) := by rw [absD_int, hab]
    generalize hmx : (if ab - q > 0 then ab - q else 0) = mx
    have x1 : maxD [.int 0, .int (ab - q)] = some (.val (.int mx)) := by rw [maxD_int, hmx]
    have l3 : (3 : Nat) ≤ LIM := LIM_le (by decide)
    refine ⟨mx, by rw [← hmx]; split <;> omega, ?_⟩
    unfold sprD
    simp_arith [p18, a1, x1, hmx, l3]
  obtain ⟨a, ha, c5⟩ := c5
  refine ⟨a, b, ?_, ⟨ha, hb, Int.le_refl _, Int.le_refl _⟩⟩
  refine run_own rfl (s := [.val sc, .val (.int kk), .val (.int cell), .val (.int bl), u, .val (.int b)]) ?_ rfl
  unfold b_law_spring
  exact (seq_nxt c1).trans ((seq_nxt c2).trans ((seq_nxt c3).trans ((seq_nxt c4).trans c5)))
end K03
namespace K03
open PySem L2 Dv Pg
inductive Wm where
  | nm (x : Str)
  | pl (n : Nat)
  | fn (x : Str) (b : Wm)
  | ca (f a : Wm)
def Wm.D : Wm → Dv.D
  | .nm x => .tup [.str "name", .str x]
  | .pl n => .tup [.str "at", .int (n : Nat)]
  | .fn x b => .tup [.str "fn", .str x, b.D]
  | .ca f a => .tup [.str "call", f.D, a.D]
def Wm.size : Wm → Nat
  | .nm _ => 1
  | .pl _ => 1
  | .fn _ b => b.size + 1
  | .ca f a => f.size + a.size + 1
def Wm.names : Wm → List Str
  | .nm x => [x]
  | .pl _ => []
  | .fn x b => x :: b.names
  | .ca f a => f.names ++ a.names
def Wm.pure : Wm → Prop
  | .nm _ => True
  | .pl _ => False
  | .fn _ b => b.pure
  | .ca f a => f.pure ∧ a.pure
theorem Wm.size_pos : ∀ t : Wm, 1 ≤ t.size
  | .nm _ => Nat.le_refl _
  | .pl _ => Nat.le_refl _
  | .fn _ b => by unfold Wm.size; omega
  | .ca f a => by unfold Wm.size; omega
def xyz : List Str := ["x", "y", "z"]
def xyzD : Dv.D := .lst [.str "x", .str "y", .str "z"]
theorem three {r : Int} (h0 : 0 ≤ r) (h1 : r < 3) : ∃ x : Str, x ∈ xyz ∧ atD xyzD (.int r) = some (.val (.str x)) := by
  have : r = 0 ∨ r = 1 ∨ r = 2 := by omega
  unfold xyzD
  rcases this with rfl | rfl | rfl
  · exact ⟨"x", by decide, at_lst0 _ _⟩
  · exact ⟨"y", by decide, at_lst1 _ _ _⟩
  · exact ⟨"z", by decide, at_lst2 _ _ _ _⟩
def GrownOk (F : Fn) (N : Nat) : Prop := ∀ (many : Nat), 1 ≤ many → many ≤ N → ∀ (a b t : Int) (k : Nat), Spr a b t k → k + 3 * many < 1000000 →
  ∃ (w : Wm) (a' t' : Int), F [.par (sprD a b t), .val (.int (many : Nat)), .val xyzD] = .ret (.val w.D) [.par (sprD a' b t'), .val (.int (many : Nat)), .val xyzD] ∧ w.size = many ∧ ((∀ x ∈ w.names, x ∈ xyz) ∧ w.pure) ∧ Spr a' b t' (k + 3 * many)
theorem Spr.more {a b t : Int} {k m : Nat} (S : Spr a b t k) (h : k ≤ m) : Spr a b t m := ⟨S.a0, S.b0, S.t0, by have := S.tm; omega⟩
theorem beqF {a b : Int} (h : a ≠ b) : (a == b) = false := by simpa using h
theorem beqT {a b : Int} (h : a = b) : (a == b) = true := by simpa using h
theorem len_xyz : lenD [xyzD] = some (.val (.int 3)) := rfl
theorem grown_ok (c : Nat → Fn) (N : Nat) (ht : TakeOk (c 1003)) (hg : GrownOk (c 1004) N) : GrownOk (run 3 5 (b_law_grown c)) (N + 1) := by
  intro many m1 mN a b t k S hk
  have l2 : (2 : Nat) ≤ LIM := LIM_le (by decide)
  have l3 : (3 : Nat) ≤ LIM := LIM_le (by decide)
  by_cases h1 : many = 1
  · subst h1
    obtain ⟨r, a1, t1, e1, r0, r1, S1⟩ := ht a b t k 3 S (by omega) (by decide) (by decide)
    obtain ⟨x, hx, e2⟩ := three r0 r1
    refine ⟨.nm x, a1, t1, ?_, rfl, ⟨fun y hy => by rw [List.mem_singleton.mp hy]; exact hx, trivial⟩, S1.more (by omega)⟩
    refine run_val rfl (s := [.par (sprD a1 b t1), .val (.int 1), .val xyzD, .un, .un]) ?_ rfl
    unfold b_law_grown Wm.D
    refine seq_ret ?_
    simp_arith [len_xyz, e1, e2, l2]
  · have q1 : sIfS (tB (sOp2 eqD (sVar 1) (sC (.int 1)))) (sRet (sTup (aCons (sC (.str "name")) (aCons (sOp2 atD (sVar 2) (sCall (c 1003) [true, true] (aCons (sVar 0) (aCons (sCB lenD (aCons (sVar 2) aNil)) aNil)))) aNil)))) sSkip [.par (sprD a b t), .val (.int (many : Nat)), .val xyzD, .un, .un] = .nxt [.par (sprD a b t), .val (.int (many : Nat)), .val xyzD, .un, .un] := by
      have hb : (((many : Nat) : Int) == 1) = false := beqF (by omega)
      simp_arith [hb]
    have e_m : ((many : Nat) : Int) - 1 = ((many - 1 : Nat) : Int) := by omega
    have fnc : ∀ (a0 t0 : Int) (k0 : Nat), Spr a0 b t0 k0 → k0 ≤ k + 1 → ∃ (w : Wm) (a' t' : Int) (u : Slot), (sSeq (sAsg 3 (sOp2 atD (sVar 2) (sCall (c 1003) [true, true] (aCons (sVar 0) (aCons (sCB lenD (aCons (sVar 2) aNil)) aNil)))))
    (sRet (sTup (aCons (sC (.str "fn")) (aCons (sVar 3) (aCons (sCall (c 1004) [true, true, true] (aCons (sVar 0) (aCons (sOp2 subD (sVar 1) (sC (.int 1))) (aCons (sVar 2) aNil)))) aNil)))))) [.par (sprD a0 b t0), .val (.int (many : Nat)), .val xyzD, .un, .un] = .ret (.val w.D) [.par (sprD a' b t'), .val (.int (many : Nat)), .val xyzD, u, .un] ∧ w.size = many ∧ ((∀ x ∈ w.names, x ∈ xyz) ∧ w.pure) ∧ Spr a' b t' (k + 3 * many) := by
      intro a0 t0 k0 S0 hk0
      obtain ⟨r, a1, t1, e1, r0, r1, S1⟩ := ht a0 b t0 k0 3 S0 (by omega) (by decide) (by decide)
      obtain ⟨x, hx, e2⟩ := three r0 r1
      obtain ⟨w, a2, t2, e3, hw, hn, S2⟩ := hg (many - 1) (by omega) (by omega) a1 b t1 (k0 + 1) S1 (by omega)
      refine ⟨.fn x w, a2, t2, .val (.str x), ?_, by unfold Wm.size; omega, ⟨fun y hy => ?_, hn.2⟩, S2.more (by omega)⟩
      · unfold Wm.D
        simp_arith [len_xyz, e1, e2, e_m, e3, l3]
      · rcases List.mem_cons.mp hy with rfl | hy
        · exact hx
        · exact hn.1 y hy
    by_cases h2 : many = 2
    · obtain ⟨w, a', t', u, e, hw, hn, S'⟩ := fnc a t k S (by omega)
      refine ⟨w, a', t', ?_, hw, hn, S'⟩
      refine run_val rfl (s := [.par (sprD a' b t'), .val (.int (many : Nat)), .val xyzD, u, .un]) ?_ rfl
      unfold b_law_grown
      refine (seq_nxt q1).trans (seq_ret ?_)
      refine Eq.trans ?_ e
      have hb : (((many : Nat) : Int) == 2) = true := beqT (by omega)
      conv => lhs; unfold sIfS
      simp_arith [hb]
    · have hb : (((many : Nat) : Int) == 2) = false := beqF (by omega)
      obtain ⟨r, a1, t1, e1, r0, r1, S1⟩ := ht a b t k 5 S (by omega) (by decide) (by decide)
      by_cases hr : r < 2
      · obtain ⟨w, a', t', u, e, hw, hn, S'⟩ := fnc a1 t1 (k + 1) S1 (by omega)
        refine ⟨w, a', t', ?_, hw, hn, S'⟩
        refine run_val rfl (s := [.par (sprD a' b t'), .val (.int (many : Nat)), .val xyzD, u, .un]) ?_ rfl
        unfold b_law_grown
        refine (seq_nxt q1).trans (seq_ret ?_)
        refine Eq.trans ?_ e
        conv => lhs; unfold sIfS
        simp_arith [hb, e1, decide_eq_true hr]
      · have e_2 : ∃ l : Nat, 1 ≤ l ∧ l ≤ many - 2 ∧ ∃ a2 t2, c 1003 [.par (sprD a1 b t1), .val (.int (((many : Nat) : Int) - 2))] = .ret (.val (.int (((l : Nat) : Int) - 1))) [.par (sprD a2 b t2), .val (.int (((many : Nat) : Int) - 2))] ∧ Spr a2 b t2 (k + 2) := by
          obtain ⟨r, a2, t2, e2, r0, r1, S2⟩ := ht a1 b t1 (k + 1) (((many : Nat) : Int) - 2) S1 (by omega) (by omega) (by omega)
          refine ⟨r.toNat + 1, by omega, by omega, a2, t2, ?_, S2⟩
          rw [show (((r.toNat + 1 : Nat) : Int) - 1) = r by omega]; exact e2
        obtain ⟨l, l0, l1, a2, t2, e2, S2⟩ := e_2
        obtain ⟨w1, a3, t3, e3, hw1, hn1, S3⟩ := hg l l0 (by omega) a2 b t2 (k + 2) S2 (by omega)
        obtain ⟨w2, a4, t4, e4, hw2, hn2, S4⟩ := hg (many - 1 - l) (by omega) (by omega) a3 b t3 _ S3 (by omega)
        have c1 : (1 : Int) + (((l : Nat) : Int) - 1) = ((l : Nat) : Int) := by omega
        have c2 : ((many : Nat) : Int) - 1 - ((l : Nat) : Int) = ((many - 1 - l : Nat) : Int) := by omega
        refine ⟨.ca w1 w2, a4, t4, ?_, by unfold Wm.size; omega, ⟨fun y hy => ?_, hn1.2, hn2.2⟩, S4.more (by omega)⟩
        · refine run_val rfl (s := [.par (sprD a4 b t4), .val (.int (many : Nat)), .val xyzD, .un, .val (.int (l : Nat))]) ?_ rfl
          unfold b_law_grown
          have q2 : sIfS (tOr (tB (sOp2 eqD (sVar 1) (sC (.int 2)))) (tB (sOp2 ltD (sCall (c 1003) [true, true] (aCons (sVar 0) (aCons (sC (.int 5)) aNil))) (sC (.int 2))))) (sSeq (sAsg 3 (sOp2 atD (sVar 2) (sCall (c 1003) [true, true] (aCons (sVar 0) (aCons (sCB lenD (aCons (sVar 2) aNil)) aNil)))))
    (sRet (sTup (aCons (sC (.str "fn")) (aCons (sVar 3) (aCons (sCall (c 1004) [true, true, true] (aCons (sVar 0) (aCons (sOp2 subD (sVar 1) (sC (.int 1))) (aCons (sVar 2) aNil)))) aNil)))))) sSkip [.par (sprD a b t), .val (.int (many : Nat)), .val xyzD, .un, .un] = .nxt [.par (sprD a1 b t1), .val (.int (many : Nat)), .val xyzD, .un, .un] := by
            simp_arith [hb, e1, decide_eq_false hr]
          refine (seq_nxt q1).trans ((seq_nxt q2).trans ?_)
          unfold Wm.D
          simp_arith [e2, c1, e3, c2, e4, l3]
        · rcases List.mem_append.mp hy with hy | hy
          · exact hn1.1 y hy
          · exact hn2.1 y hy
theorem grown_zero (F : Fn) : GrownOk F 0 := fun many h1 h2 => by omega
end K03
namespace Dv
open PySem L2
theorem run_exc {k n : Nat} {b : S} {args s fin : List Slot} {c : Str} {v : D} (hk : args.length = k) (h : b (args ++ List.replicate (n - k) .un) = .exc c v s) (hf : s.take k = fin) : run k n b args = .exc c v fin := by unfold run; rw [if_pos hk, h, ← hf]
theorem seq_exc {f g : S} {s s1 : Sto} {c : Str} {v : D} (h : f s = .exc c v s1) : sSeq f g s = .exc c v s1 := by unfold sSeq; rw [h]; rfl
theorem leaf_str {x : Str} (h : (PyData.strOk (reprText x) && decide ((reprText x).length ≤ 30)) = true) : leafOk (.str x) := by
  rw [Bool.and_eq_true, decide_eq_true_eq] at h
  exact ⟨.str x, rfl, h.1, h.2, rfl, rfl, by unfold eqvD; exact beq_self_eq_true x, rfl⟩
theorem leaf_int {i : Int} (h : (PyData.strOk (toString i : Str) && (decide ((toString i : Str).length ≤ 30) && decide (i.natAbs.log2 < 1920))) = true) : leafOk (.int i) := by
  simp only [Bool.and_eq_true, decide_eq_true_eq] at h
  exact ⟨.int i, rfl, h.1, h.2.1, by unfold PyData.showable; exact decide_eq_true h.2.2, rfl, by unfold eqvD; exact beq_self_eq_true i, rfl⟩
theorem leaf_non : leafOk .non := ⟨.none, rfl, by decide +kernel, by decide +kernel, rfl, rfl, by unfold eqvD; rfl, rfl⟩
theorem leaf_nat {n : Nat} (h : n ≤ 9) : leafOk (.int (n : Nat)) := by
  have : ((List.range 10).all fun n => (PyData.strOk (toString ((n : Nat) : Int) : Str) && (decide ((toString ((n : Nat) : Int) : Str).length ≤ 30) && decide (((n : Nat) : Int).natAbs.log2 < 1920)))) = true := by decide +kernel
  exact leaf_int (List.all_eq_true.mp this n (List.mem_range.mpr (by omega)))
def Anew (F : Fn) (d : D) : Prop := ∃ o, F [.val d] = .ret o [.val d] ∧ (o = .val d ∨ o = .own d)
theorem niceL_all : ∀ {l : List D}, (∀ d ∈ l, niceD d) → niceL l
  | [], _ => trivial
  | d :: l, h => ⟨h d List.mem_cons_self, niceL_all fun x hx => h x (List.mem_cons_of_mem _ hx)⟩
theorem niceL_mem : ∀ {l : List D}, niceL l → ∀ d ∈ l, niceD d
  | d :: l, h, x, hx => by
    unfold niceL at h
    rcases List.mem_cons.mp hx with rfl | hx
    · exact h.1
    · exact niceL_mem h.2 x hx
theorem wt_pos : ∀ d : D, 1 ≤ wtD d := fun d => by cases d <;> unfold wtD <;> omega
theorem wt_mem : ∀ {l : List D} {d : D}, d ∈ l → wtD d ≤ wtL l
  | x :: l, d, h => by
    unfold wtL
    rcases List.mem_cons.mp h with rfl | h
    · omega
    · have := wt_mem h; omega
theorem wt_len : ∀ l : List D, l.length ≤ wtL l
  | [] => Nat.le_refl _
  | d :: l => by have := wt_len l; have := wt_pos d; unfold wtL; rw [List.length_cons]; omega
theorem depAll_le {n : Nat} : ∀ {l : List D}, (∀ d ∈ l, D.dep d ≤ n) → D.depAll l ≤ n
  | [], _ => Nat.zero_le _
  | d :: l, h => by
    unfold D.depAll
    exact Nat.max_le.mpr ⟨h d List.mem_cons_self, depAll_le fun x hx => h x (List.mem_cons_of_mem _ hx)⟩
theorem wtL_le {n : Nat} : ∀ {l : List D}, (∀ d ∈ l, wtD d ≤ n) → wtL l ≤ l.length * n
  | [], _ => Nat.zero_le _
  | d :: l, h => by
    have a := h d List.mem_cons_self
    have b := wtL_le fun x hx => h x (List.mem_cons_of_mem _ hx)
    unfold wtL
    rw [List.length_cons, Nat.succ_mul]; omega
theorem wtL_append : ∀ l m : List D, wtL (l ++ m) = wtL l + wtL m
  | [], m => by rw [List.nil_append, show wtL [] = 0 from rfl]; omega
  | d :: l, m => by rw [List.cons_append, show wtL (d :: (l ++ m)) = wtD d + wtL (l ++ m) from rfl, show wtL (d :: l) = wtD d + wtL l from rfl, wtL_append l m]; omega
end Dv
namespace K03
open PySem L2 Dv Pg
theorem filter_tt : ∀ l : List Dv.D, (l.filter fun _ => true).map (fun d => d) = l := fun l => by simp
theorem isi_l {c1 c2 : Dv.D} : True := trivial
theorem anew_step (c : Nat → Fn) (d : Dv.D) (hd : niceD d) (hl : wtD d ≤ 1000000) (hi : ∀ l, (d = .tup l ∨ d = .lst l) → ∀ x ∈ l, Anew (c 2) x) : Anew (fn_anew c) d := by
  have lc : ∀ l : List Dv.D, (d = .tup l ∨ d = .lst l) → sLc (wSeq (sVar 0)) (gN 1) tYesT (sCall (c 2) [true] (aCons (sVar 1) aNil)) [1] [.val d, .un] = .ok (.own (.lst l)) [.val d, .un] := by
    intro l h
    have hll : l.length ≤ LIM := LIM_le (by
      have := wt_len l
      rcases h with rfl | rfl <;> (unfold wtD at hl; omega))
    have q := lc_of (f := wSeq (sVar 0)) (g := gN 1) (t := tYesT) (e := sCall (c 2) [true] (aCons (sVar 1) aNil)) (vs := [1]) (P := fun _ => true) (F := fun d => d) (s := [.val d, .un]) (s1 := [.val d, .un]) (w := [.val d, .un]) (fin := [.val d, .un]) (ds := l)
      (by rcases h with rfl | rfl <;> simp_arith []) rfl hll (fun x hx => by
        obtain ⟨o, e, ho⟩ := hi l h x hx
        refine ⟨[.val d, .val x], [.val d, .val x], rfl, rfl, (fun z => nomatch z), fun _ => ?_⟩
        rcases ho with rfl | rfl
        · exact ⟨.val x, [.val d, .val x], [.val d, .val x], by simp_arith [e], rfl, rfl⟩
        · exact ⟨.own x, [.val d, .val x], [.val d, .val x], by simp_arith [e], rfl, rfl⟩) rfl
    rw [filter_tt] at q
    exact q
  unfold Anew fn_anew
  cases d with
  | tup l =>
    have q := lc l (.inl rfl)
    refine ⟨.val (.tup l), run_val rfl (s := [.val (.tup l), .un]) ?_ rfl, .inl rfl⟩
    have tp : tupD [.lst l] = some (.val (.tup l)) := by
      have : l.length ≤ LIM := LIM_le (by have := wt_len l; unfold wtD at hl; omega)
      unfold tupD
      simp [seqOf, this]
    unfold bd_anew
    refine seq_ret ?_
    simp_arith [q, tp]
  | lst l =>
    have q := lc l (.inr rfl)
    refine ⟨.own (.lst l), run_own rfl (s := [.val (.lst l), .un]) ?_ rfl, .inr rfl⟩
    unfold bd_anew
    simp_arith [q]
  | non => exact ⟨.val .non, run_val rfl (s := [.val .non, .un]) (by unfold bd_anew; simp_arith []) rfl, .inl rfl⟩
  | bl b => exact ⟨.val (.bl b), run_val rfl (s := [.val (.bl b), .un]) (by unfold bd_anew; simp_arith []) rfl, .inl rfl⟩
  | int i => exact ⟨.val (.int i), run_val rfl (s := [.val (.int i), .un]) (by unfold bd_anew; simp_arith []) rfl, .inl rfl⟩
  | str x => exact ⟨.val (.str x), run_val rfl (s := [.val (.str x), .un]) (by unfold bd_anew; simp_arith []) rfl, .inl rfl⟩
  | _ =>
    unfold niceD leafOk at hd
    obtain ⟨_, _, _, _, _, y, _⟩ := hd
    unfold D.isPy at y; cases y
theorem anew_ok : ∀ (n : Nat) (d : Dv.D), niceD d → D.dep d ≤ n → wtD d ≤ 1000000 → Anew (sem (n + 1) 2) d
  | 0, d, h, hd, hw => anew_step (sem 0) d h hw fun l e x hx => by rcases e with rfl | rfl <;> (unfold D.dep at hd; omega)
  | n + 1, d, h, hd, hw => anew_step (sem (n + 1)) d h hw fun l e x hx => by
    have hx' : niceD x ∧ D.dep x ≤ n ∧ wtD x ≤ 1000000 := by
      have a := dep_mem hx
      have b := wt_mem hx
      rcases e with rfl | rfl
      · refine ⟨niceL_mem (by unfold niceD at h; exact h) x hx, by unfold D.dep at hd; omega, by unfold wtD at hw; omega⟩
      · refine ⟨niceL_mem (by unfold niceD at h; exact h) x hx, by unfold D.dep at hd; omega, by unfold wtD at hw; omega⟩
    exact anew_ok n x hx'.1 hx'.2.1 hx'.2.2
end K03
namespace K03
open PySem L2 Dv Pg
def gn : List Str := ["x", "y", "z", "w", "f", "l4", "x1", "x2", "x3", "z1", "z2", "f1", "x7"]
theorem gn_name (c : Nat → Fn) : ∀ x ∈ gn, Pu (fn_is_plain_name c) [.val (.str x)] (.bl true) := by
  intro x h
  unfold gn at h
  simp only [List.mem_cons, List.not_mem_nil, or_false] at h
  rcases h with rfl | rfl | rfl | rfl | rfl | rfl | rfl | rfl | rfl | rfl | rfl | rfl | rfl
  · exact name_one c (x := "x") (k := 120) (by decide) (by decide) (by decide) (by decide) (by decide)
  · exact name_one c (x := "y") (k := 121) (by decide) (by decide) (by decide) (by decide) (by decide)
  · exact name_one c (x := "z") (k := 122) (by decide) (by decide) (by decide) (by decide) (by decide)
  · exact name_one c (x := "w") (k := 119) (by decide) (by decide) (by decide) (by decide) (by decide)
  · exact name_one c (x := "f") (k := 102) (by decide) (by decide) (by decide) (by decide) (by decide)
  · exact name_two c (x := "l4") (k := 108) (d := 52) (by decide) (by decide) (by decide) (by decide) (by decide) (by decide) (by decide)
  · exact name_two c (x := "x1") (k := 120) (d := 49) (by decide) (by decide) (by decide) (by decide) (by decide) (by decide) (by decide)
  · exact name_two c (x := "x2") (k := 120) (d := 50) (by decide) (by decide) (by decide) (by decide) (by decide) (by decide) (by decide)
  · exact name_two c (x := "x3") (k := 120) (d := 51) (by decide) (by decide) (by decide) (by decide) (by decide) (by decide) (by decide)
  · exact name_two c (x := "z1") (k := 122) (d := 49) (by decide) (by decide) (by decide) (by decide) (by decide) (by decide) (by decide)
  · exact name_two c (x := "z2") (k := 122) (d := 50) (by decide) (by decide) (by decide) (by decide) (by decide) (by decide) (by decide)
  · exact name_two c (x := "f1") (k := 102) (d := 49) (by decide) (by decide) (by decide) (by decide) (by decide) (by decide) (by decide)
  · exact name_two c (x := "x7") (k := 120) (d := 55) (by decide) (by decide) (by decide) (by decide) (by decide) (by decide) (by decide)
theorem gn_leaf : ∀ x ∈ gn, leafOk (.str x) := by
  have : (gn.all fun x => PyData.strOk (reprText x) && decide ((reprText x).length ≤ 30)) = true := by decide +kernel
  exact fun x h => leaf_str (List.all_eq_true.mp this x h)
def Wm.good : Wm → Prop
  | .nm x => x ∈ gn
  | .pl n => n ≤ 9
  | .fn x b => x ∈ gn ∧ b.good
  | .ca f a => f.good ∧ a.good
theorem tag_leaf : ∀ x ∈ (["name", "at", "fn", "call"] : List Str), leafOk (.str x) := by
  have : ((["name", "at", "fn", "call"] : List Str).all fun x => PyData.strOk (reprText x) && decide ((reprText x).length ≤ 30)) = true := by decide +kernel
  exact fun x h => leaf_str (List.all_eq_true.mp this x h)
theorem nice_str {x : Str} (h : leafOk (.str x)) : niceD (.str x) := by unfold niceD; exact h
theorem nice_int {i : Int} (h : leafOk (.int i)) : niceD (.int i) := by unfold niceD; exact h
theorem nice2 {a b : Dv.D} (ha : niceD a) (hb : niceD b) : niceD (.tup [a, b]) := by unfold niceD niceL niceL niceL; exact ⟨ha, hb, trivial⟩
theorem nice3 {a b c : Dv.D} (ha : niceD a) (hb : niceD b) (hc : niceD c) : niceD (.tup [a, b, c]) := by unfold niceD niceL niceL niceL niceL; exact ⟨ha, hb, hc, trivial⟩
theorem Wm.nice : ∀ w : Wm, w.good → niceD w.D
  | .nm x, h => nice2 (nice_str (tag_leaf _ (by decide))) (nice_str (gn_leaf x h))
  | .pl n, h => nice2 (nice_str (tag_leaf _ (by decide))) (nice_int (leaf_nat h))
  | .fn x b, h => nice3 (nice_str (tag_leaf _ (by decide))) (nice_str (gn_leaf x h.1)) (Wm.nice b h.2)
  | .ca f a, h => nice3 (nice_str (tag_leaf _ (by decide))) (Wm.nice f h.1) (Wm.nice a h.2)
theorem wt2 (a b : Dv.D) : wtD (.tup [a, b]) = wtD a + wtD b + 1 := by
  rw [show wtD (.tup [a, b]) = wtL [a, b] + 1 from by unfold wtD; rfl, show wtL [a, b] = wtD a + (wtD b + 0) from rfl]; omega
theorem wt3 (a b c : Dv.D) : wtD (.tup [a, b, c]) = wtD a + wtD b + wtD c + 1 := by
  rw [show wtD (.tup [a, b, c]) = wtL [a, b, c] + 1 from by unfold wtD; rfl, show wtL [a, b, c] = wtD a + (wtD b + (wtD c + 0)) from rfl]; omega
theorem wt_s (x : Str) : wtD (.str x) = 1 := by unfold wtD; rfl
theorem wt_i (i : Int) : wtD (.int i) = 1 := by unfold wtD; rfl
theorem Wm.wt : ∀ w : Wm, wtD w.D ≤ 3 * w.size
  | .nm x => by unfold Wm.D Wm.size; rw [wt2, wt_s, wt_s]; omega
  | .pl n => by unfold Wm.D Wm.size; rw [wt2, wt_s, wt_i]; omega
  | .fn x b => by have := Wm.wt b; unfold Wm.D Wm.size; rw [wt3, wt_s, wt_s]; omega
  | .ca f a => by have := Wm.wt f; have := Wm.wt a; unfold Wm.D Wm.size; rw [wt3, wt_s]; omega
theorem dep2 (a b : Dv.D) : D.dep (.tup [a, b]) = max (D.dep a) (D.dep b) + 1 := by
  rw [show D.dep (.tup [a, b]) = max (D.dep a) (max (D.dep b) 0) + 1 from rfl]; omega
theorem dep3 (a b c : Dv.D) : D.dep (.tup [a, b, c]) = max (D.dep a) (max (D.dep b) (D.dep c)) + 1 := by
  rw [show D.dep (.tup [a, b, c]) = max (D.dep a) (max (D.dep b) (max (D.dep c) 0)) + 1 from rfl]; omega
theorem dep_s (x : Str) : D.dep (.str x) = 0 := rfl
theorem dep_i (i : Int) : D.dep (.int i) = 0 := rfl
def Wm.deep : Wm → Nat
  | .nm _ => 1
  | .pl _ => 1
  | .fn _ b => b.deep + 1
  | .ca f a => max f.deep a.deep + 1
theorem Wm.dep : ∀ w : Wm, Dv.D.dep w.D = w.deep
  | .nm x => by unfold Wm.D Wm.deep; rw [dep2, dep_s, dep_s]; rfl
  | .pl n => by unfold Wm.D Wm.deep; rw [dep2, dep_s, dep_i]; rfl
  | .fn x b => by have := Wm.dep b; unfold Wm.D Wm.deep; rw [dep3, dep_s, dep_s, this]; omega
  | .ca f a => by have := Wm.dep f; have := Wm.dep a; unfold Wm.D Wm.deep; rw [dep3, dep_s]; omega
theorem Wm.deep_le : ∀ w : Wm, w.deep ≤ w.size
  | .nm _ => Nat.le_refl _
  | .pl _ => Nat.le_refl _
  | .fn _ b => by have := Wm.deep_le b; unfold Wm.deep Wm.size; omega
  | .ca f a => by have := Wm.deep_le f; have := Wm.deep_le a; unfold Wm.deep Wm.size; omega
theorem natural_ok (c : Nat → Fn) (n : Nat) (h : Pu (c 0) [.val (.int (n : Nat))] (.bl true)) : Pu (fn_is_natural c) [.val (.int (n : Nat))] (.bl true) := by
  have h : c 0 [.val (.int (n : Nat))] = .ret (.val (.bl true)) [.val (.int (n : Nat))] := h
  unfold Pu fn_is_natural
  refine run_val rfl (s := [.val (.int (n : Nat))]) ?_ rfl
  unfold bd_is_natural
  simp_arith [h, decide_eq_false (show ¬ ((n : Nat) : Int) < 0 by omega)]
theorem integer_ok (c : Nat → Fn) (i : Int) : Pu (fn_is_integer c) [.val (.int i)] (.bl true) := by
  unfold Pu fn_is_integer
  refine run_val rfl (s := [.val (.int i)]) ?_ rfl
  unfold bd_is_integer
  simp_arith []
def NodeC (c : Nat → Fn) : Prop := (∀ x ∈ gn, Pu (c 3) [.val (.str x)] (.bl true)) ∧ (∀ n : Nat, Pu (c 1) [.val (.int (n : Nat))] (.bl true))
theorem node_ok (c : Nat → Fn) (hc : NodeC c) (w : Wm) (h : w.good) : Pu (fn_is_node c) [.val w.D] (.bl true) := by
  cases w with
  | nm x =>
    have h1 : c 3 [.val (.str x)] = .ret (.val (.bl true)) [.val (.str x)] := hc.1 x h
    unfold Pu fn_is_node bd_is_node Wm.D
    exact run_val rfl (by simp_arith [h1]; rfl) rfl
  | pl n =>
    have h1 : c 1 [.val (.int (n : Nat))] = .ret (.val (.bl true)) [.val (.int (n : Nat))] := hc.2 n
    unfold Pu fn_is_node bd_is_node Wm.D
    exact run_val rfl (by simp_arith [h1]; rfl) rfl
  | fn x b =>
    have h1 : c 3 [.val (.str x)] = .ret (.val (.bl true)) [.val (.str x)] := hc.1 x h.1
    unfold Pu fn_is_node bd_is_node Wm.D
    exact run_val rfl (by simp_arith [h1]; rfl) rfl
  | ca f a =>
    unfold Pu fn_is_node bd_is_node Wm.D
    exact run_val rfl (by simp_arith []; rfl) rfl
def sizesW : List Wm → Nat
  | [] => 0
  | t :: r => t.size + sizesW r
theorem sizesW_len : ∀ l : List Wm, l.length ≤ sizesW l
  | [] => Nat.le_refl _
  | t :: r => by have := sizesW_len r; have := t.size_pos; unfold sizesW; rw [List.length_cons]; omega
def pileW (l : List Wm) : List Dv.D := (l.map Wm.D).reverse
theorem pileW_cons (t : Wm) (l : List Wm) : pileW (t :: l) = pileW l ++ [t.D] := by unfold pileW; rw [List.map_cons, List.reverse_cons]
theorem pileW_len (l : List Wm) : (pileW l).length = l.length := by unfold pileW; rw [List.length_reverse, List.length_map]
theorem tree_loop (c : Nat → Fn) (v : Slot) (hn : ∀ w : Wm, w.good → Pu (c 4) [.val w.D] (.bl true)) : ∀ (n : Nat) (st : List Wm) (u : Slot), sizesW st ≤ n → sizesW st < LIM → (∀ w ∈ st, Wm.good w) →
    ∃ u', sWh (bd_is_tree_t1 c) (bd_is_tree_b1 c) [v, .own (.lst (pileW st)), u] = .nxt [v, .own (.lst []), u']
  | n, [], u, _, _, _ => ⟨u, wh_stop (by unfold bd_is_tree_t1; simp_arith []; rfl)⟩
  | 0, t :: r, u, h, _, _ => by have := t.size_pos; unfold sizesW at h; omega
  | n + 1, t :: r, u, h, hl, g => by
    have gt : t.good := g t List.mem_cons_self
    have gr : ∀ w ∈ r, Wm.good w := fun x hx => g x (List.mem_cons_of_mem _ hx)
    have h1 : c 4 [.val t.D] = .ret (.val (.bl true)) [.val t.D] := hn t gt
    have hlen := sizesW_len r
    unfold sizesW at h hl
    have hp := t.size_pos
    have tst : bd_is_tree_t1 c [v, .own (.lst (pileW (t :: r))), u] = .ok true [v, .own (.lst (pileW (t :: r))), u] := by
      unfold bd_is_tree_t1
      rw [pileW_cons]
      simp_arith [decide_eq_true (snoc_len (pileW r) t.D)]
    cases t with
    | nm x =>
      obtain ⟨u', e⟩ := tree_loop c v hn n r (.val (Wm.nm x).D) (by unfold Wm.size at h; omega) (by omega) gr
      refine ⟨u', (wh_go tst ?_).trans e⟩
      unfold bd_is_tree_b1
      rw [pileW_cons]
      unfold Wm.D at h1 ⊢
      simp_arith [h1]
    | pl k =>
      obtain ⟨u', e⟩ := tree_loop c v hn n r (.val (Wm.pl k).D) (by unfold Wm.size at h; omega) (by omega) gr
      refine ⟨u', (wh_go tst ?_).trans e⟩
      unfold bd_is_tree_b1
      rw [pileW_cons]
      unfold Wm.D at h1 ⊢
      simp_arith [h1]
    | fn x b =>
      obtain ⟨u', e⟩ := tree_loop c v hn n (b :: r) (.val (Wm.fn x b).D) (by unfold sizesW; unfold Wm.size at h; omega) (by unfold sizesW; unfold Wm.size at hl; omega) (fun y hy => by
        rcases List.mem_cons.mp hy with rfl | hy
        · exact gt.2
        · exact gr y hy)
      refine ⟨u', (wh_go tst ?_).trans e⟩
      unfold bd_is_tree_b1
      rw [pileW_cons, pileW_cons]
      unfold Wm.size at hl
      have a1 : fAppend (.lst (pileW r)) [b.D] = some (.lst (pileW r ++ [b.D]), .non) := append_ok (by rw [pileW_len]; omega)
      rw [show (Wm.fn x b).D = .tup [.str "fn", .str x, b.D] from rfl] at h1 ⊢
      simp_arith [h1, a1]
    | ca f a =>
      obtain ⟨u', e⟩ := tree_loop c v hn n (f :: a :: r) (.val (Wm.ca f a).D) (by unfold sizesW sizesW; unfold Wm.size at h; omega) (by unfold sizesW sizesW; unfold Wm.size at hl; omega) (fun y hy => by
        rcases List.mem_cons.mp hy with rfl | hy
        · exact gt.1
        · rcases List.mem_cons.mp hy with rfl | hy
          · exact gt.2
          · exact gr y hy)
      refine ⟨u', (wh_go tst ?_).trans e⟩
      unfold bd_is_tree_b1
      rw [pileW_cons, pileW_cons, pileW_cons]
      unfold Wm.size at hl
      have := f.size_pos
      have a1 : fAppend (.lst (pileW r)) [a.D] = some (.lst (pileW r ++ [a.D]), .non) := append_ok (by rw [pileW_len]; omega)
      have a2 : fAppend (.lst (pileW r ++ [a.D])) [f.D] = some (.lst (pileW r ++ [a.D] ++ [f.D]), .non) := append_ok (by rw [List.length_append, pileW_len, List.length_singleton]; omega)
      rw [show (Wm.ca f a).D = .tup [.str "call", f.D, a.D] from rfl] at h1 ⊢
      simp_arith [h1, a1, a2]
theorem tree_ok (c : Nat → Fn) (hn : ∀ w : Wm, w.good → Pu (c 4) [.val w.D] (.bl true)) (w : Wm) (g : w.good) (hl : w.size < LIM) : Pu (fn_is_tree c) [.val w.D] (.bl true) := by
  obtain ⟨u', e⟩ := tree_loop c (.val w.D) hn (sizesW [w]) [w] .un (Nat.le_refl _) (by unfold sizesW sizesW; omega) (fun y hy => by rw [List.mem_singleton.mp hy]; exact g)
  unfold Pu fn_is_tree
  refine run_val rfl (s := [.val w.D, .own (.lst []), u']) ?_ rfl
  unfold bd_is_tree
  have e : sWh (bd_is_tree_t1 c) (bd_is_tree_b1 c) [.val w.D, .own (.lst [w.D]), .un] = .nxt [.val w.D, .own (.lst []), u'] := e
  have l1 : (1 : Nat) ≤ LIM := LIM_le (by decide)
  simp_arith [e, l1]
theorem tree_no (c : Nat → Fn) (d : Dv.D) (hn : Pu (c 4) [.val d] (.bl false)) : Pu (fn_is_tree c) [.val d] (.bl false) := by
  have hn : c 4 [.val d] = .ret (.val (.bl false)) [.val d] := hn
  have l1 : (1 : Nat) ≤ LIM := LIM_le (by decide)
  have p1 : fPop (.lst [d]) [] = some (.lst [], d) := pop_snoc [] d
  have w : sWh (bd_is_tree_t1 c) (bd_is_tree_b1 c) [.val d, .own (.lst [d]), .un] = .ret (.val (.bl false)) [.val d, .own (.lst []), .val d] := by
    refine wh_ret (s1 := [.val d, .own (.lst [d]), .un]) ?_ ?_
    · unfold bd_is_tree_t1; simp_arith []
    · unfold bd_is_tree_b1; simp_arith [p1, hn]
  unfold Pu fn_is_tree
  refine run_val rfl (s := [.val d, .own (.lst []), .val d]) ?_ rfl
  unfold bd_is_tree
  simp_arith [w, l1]
end K03
namespace Dv
open PySem L2
theorem bls_map {α : Type} (P : α → Bool) : ∀ l : List α, blsD (l.map fun x => .bl (P x)) = some (l.map P)
  | [] => rfl
  | x :: l => by
    rw [List.map_cons]
    unfold blsD
    rw [bls_map P l]; rfl
theorem all_map {α : Type} (P : α → Bool) (l : List α) : allD [.lst (l.map fun x => .bl (P x))] = some (.val (.bl (l.all P))) := by
  unfold allD
  simp only
  rw [bls_map P l, Option.map_some]
  have : (l.map P).all id = l.all P := by rw [List.all_map]; rfl
  rw [this]
theorem tup_lst {l : List D} (h : l.length ≤ LIM) : tupD [.lst l] = some (.val (.tup l)) := by
  unfold tupD
  simp [seqOf, h]
end Dv
namespace K03
open PySem L2 Dv Pg
theorem raise_of {x : Str} {e : Dv.E} {s : Sto} {d : Dv.D} (h : ∃ o, e s = .ok o s ∧ (o = .val d ∨ o = .own d)) : sRaise x (aCons e aNil) s = .exc x d s := by
  obtain ⟨o, h, rfl | rfl⟩ := h
  · unfold sRaise aCons aNil
    rw [h]; rfl
  · unfold sRaise aCons aNil
    rw [h]; rfl
theorem anew_call0 {c : Nat → Fn} {d : Dv.D} {us : List Slot} (h : Anew (c 2) d) : ∃ o, sCall (c 2) [true] (aCons (sVar 0) aNil) (.val d :: us) = .ok o (.val d :: us) ∧ (o = .val d ∨ o = .own d) := by
  obtain ⟨o, e, rfl | rfl⟩ := h
  · exact ⟨.val d, by simp_arith [e], .inl rfl⟩
  · exact ⟨.own d, by simp_arith [e], .inr rfl⟩
theorem anew_call1 {c : Nat → Fn} {d : Dv.D} {u : Slot} {us : List Slot} (h : Anew (c 2) d) : ∃ o, sCall (c 2) [true] (aCons (sVar 1) aNil) (u :: .val d :: us) = .ok o (u :: .val d :: us) ∧ (o = .val d ∨ o = .own d) := by
  obtain ⟨o, e, rfl | rfl⟩ := h
  · exact ⟨.val d, by simp_arith [e], .inl rfl⟩
  · exact ⟨.own d, by simp_arith [e], .inr rfl⟩
theorem need_wide_ok (c : Nat → Fn) (d : Dv.D) (h : Pu (c 5) [.val d] (.bl true)) : Pu (fn_need_wide c) [.val d] .non := by
  have h : c 5 [.val d] = .ret (.val (.bl true)) [.val d] := h
  unfold Pu fn_need_wide
  refine run_nxt rfl (s := [.val d]) ?_ rfl
  unfold bd_need_wide
  simp_arith [h]
theorem need_wide_no (c : Nat → Fn) (d : Dv.D) (h : Pu (c 5) [.val d] (.bl false)) (ha : Anew (c 2) d) : fn_need_wide c [.val d] = .exc "InvalidProgram" d [.val d] := by
  have h : c 5 [.val d] = .ret (.val (.bl false)) [.val d] := h
  have r := raise_of (x := "InvalidProgram") (anew_call0 (us := []) ha)
  unfold fn_need_wide
  refine run_exc rfl (s := [.val d]) ?_ rfl
  unfold bd_need_wide
  simp_arith [h, r]
theorem need_name_ok (c : Nat → Fn) (d : Dv.D) (h : Pu (c 3) [.val d] (.bl true)) : Pu (fn_need_name c) [.val d] .non := by
  have h : c 3 [.val d] = .ret (.val (.bl true)) [.val d] := h
  unfold Pu fn_need_name
  refine run_nxt rfl (s := [.val d]) ?_ rfl
  unfold bd_need_name
  simp_arith [h]
theorem need_name_no (c : Nat → Fn) (d : Dv.D) (h : Pu (c 3) [.val d] (.bl false)) (ha : Anew (c 2) d) : fn_need_name c [.val d] = .exc "InvalidName" d [.val d] := by
  have h : c 3 [.val d] = .ret (.val (.bl false)) [.val d] := h
  have r := raise_of (x := "InvalidName") (anew_call0 (us := []) ha)
  unfold fn_need_name
  refine run_exc rfl (s := [.val d]) ?_ rfl
  unfold bd_need_name
  simp_arith [h, r]
def calls (h : Wm) (ws : List Wm) : Wm := ws.foldl .ca h
theorem calls_snoc (h : Wm) (ws : List Wm) (a : Wm) : calls h (ws ++ [a]) = .ca (calls h ws) a := by unfold calls; rw [List.foldl_append]; rfl
def Wm.isCall : Wm → Bool
  | .ca _ _ => true
  | _ => false
theorem spine_loop (c : Nat → Fn) (v : Slot) (h : Wm) (hh : h.isCall = false) : ∀ (rs : List Wm) (acc : List Dv.D), acc.length + rs.length < LIM →
    sWh (bd_spine_t1 c) (bd_spine_b1 c) [v, .val (calls h rs.reverse).D, .own (.lst acc)] = .nxt [v, .val h.D, .own (.lst (acc ++ rs.map Wm.D))]
  | [], acc, _ => by
    rw [List.reverse_nil, List.map_nil, List.append_nil]
    refine wh_stop ?_
    unfold bd_spine_t1
    show Dv.tB _ [v, .val h.D, .own (.lst acc)] = _
    cases h with
    | nm x => unfold Wm.D; simp_arith []
    | pl n => unfold Wm.D; simp_arith []
    | fn x b => unfold Wm.D; simp_arith []
    | ca f a => cases hh
  | a :: rs, acc, hl => by
    rw [List.length_cons] at hl
    have ih := spine_loop c v h hh rs (acc ++ [a.D]) (by rw [List.length_append, List.length_singleton]; omega)
    rw [List.append_assoc] at ih
    rw [List.reverse_cons, calls_snoc, List.map_cons]
    refine (wh_go (s1 := [v, .val (Wm.ca (calls h rs.reverse) a).D, .own (.lst acc)]) ?_ ?_).trans ih
    · unfold bd_spine_t1 Wm.D
      simp_arith []
    · have a1 : fAppend (.lst acc) [a.D] = some (.lst (acc ++ [a.D]), .non) := append_ok (by omega)
      unfold bd_spine_b1
      rw [show (Wm.ca (calls h rs.reverse) a).D = .tup [.str "call", (calls h rs.reverse).D, a.D] from rfl]
      simp_arith [a1]
theorem spine_ok (c : Nat → Fn) (h : Wm) (ws : List Wm) (hh : h.isCall = false) (hl : ws.length < 1000) (hn : Pu (c 16) [.val (calls h ws).D] .non) : Pu (fn_spine c) [.val (calls h ws).D] (.tup [h.D, .tup (ws.map Wm.D)]) := by
  have hn : c 16 [.val (calls h ws).D] = .ret (.val .non) [.val (calls h ws).D] := hn
  have l0 : (0 : Nat) ≤ LIM := Nat.zero_le _
  have l2 : (2 : Nat) ≤ LIM := LIM_le (by decide)
  have q := spine_loop c (.val (calls h ws).D) h hh ws.reverse [] (by
    have : (1000 : Nat) ≤ LIM := LIM_le (by decide)
    rw [List.length_reverse, List.length_nil]; omega)
  rw [List.reverse_reverse, List.nil_append] at q
  have rv : revD (.lst (ws.reverse.map Wm.D)) = some (.own (.lst (ws.map Wm.D))) := by
    show some (Opd.own (.lst (ws.reverse.map Wm.D).reverse)) = _
    rw [List.map_reverse, List.reverse_reverse]
  have tp : tupD [.lst (ws.map Wm.D)] = some (.val (.tup (ws.map Wm.D))) := tup_lst (by rw [List.length_map]; exact LIM_le (by omega))
  unfold Pu fn_spine
  refine run_val rfl (s := [.val (calls h ws).D, .val h.D, .own (.lst (ws.reverse.map Wm.D))]) ?_ rfl
  unfold bd_spine
  generalize (calls h ws).D = W at *
  generalize ws.reverse.map Wm.D = rr at *
  simp_arith [hn, l0, q, rv, tp, l2]
theorem spine_no (c : Nat → Fn) (d v : Dv.D) (x : Str) (hn : c 16 [.val d] = .exc x v [.val d]) : fn_spine c [.val d] = .exc x v [.val d] := by
  unfold fn_spine
  refine run_exc rfl (s := [.val d, .un, .un]) ?_ rfl
  unfold bd_spine
  refine seq_exc ?_
  simp_arith [hn, R.bind_exc, kR_exc]
theorem ask_all (F : Fn) (s2 : Slot) (d0 : Slot) (l : List Dv.D) (P : Dv.D → Bool) (h : ∀ x ∈ l, Pu F [.val x] (.bl (P x))) (hl : l.length ≤ 1000) :
    sLc (wSeq (sVar 1)) (gN 3) tYesT (sCall F [true] (aCons (sVar 3) aNil)) [3] [d0, .val (.tup l), s2, .un] = .ok (.own (.lst (l.map fun x => .bl (P x)))) [d0, .val (.tup l), s2, .un] := by
  have q := lc_of (f := wSeq (sVar 1)) (g := gN 3) (t := tYesT) (e := sCall F [true] (aCons (sVar 3) aNil)) (vs := [3]) (P := fun _ => true) (F := fun x => .bl (P x)) (s := [d0, .val (.tup l), s2, .un]) (s1 := [d0, .val (.tup l), s2, .un]) (w := [d0, .val (.tup l), s2, .un]) (fin := [d0, .val (.tup l), s2, .un]) (ds := l)
    (by simp_arith []) rfl (LIM_le (by omega)) (fun x hx => by
      have e : F [.val x] = .ret (.val (.bl (P x))) [.val x] := h x hx
      refine ⟨[d0, .val (.tup l), s2, .val x], [d0, .val (.tup l), s2, .val x], rfl, rfl, (fun z => nomatch z), fun _ => ⟨.val (.bl (P x)), [d0, .val (.tup l), s2, .val x], [d0, .val (.tup l), s2, .val x], by simp_arith [e], rfl, rfl⟩⟩) rfl
  rw [show (l.filter fun _ => true) = l by simp] at q
  exact q
theorem called_loop (c : Nat → Fn) (v u : Slot) : ∀ (ws : List Wm) (w : Wm) (u3 : Slot), ∃ u', forL bd_called_g1 (bd_called_b1 c) (ws.map Wm.D) [v, u, .val w.D, u3] = .nxt [v, u, .val (calls w ws).D, u']
  | [], w, u3 => ⟨u3, rfl⟩
  | a :: ws, w, u3 => by
    obtain ⟨u', e⟩ := called_loop c v u ws (.ca w a) (.val a.D)
    have l3 : (3 : Nat) ≤ LIM := LIM_le (by decide)
    refine ⟨u', ?_⟩
    rw [List.map_cons]
    refine (forL_cons (s1 := [v, u, .val w.D, .val a.D]) rfl (s2 := [v, u, .val (Wm.ca w a).D, .val a.D]) ?_).trans e
    unfold bd_called_b1
    rw [show (Wm.ca w a).D = .tup [.str "call", w.D, a.D] from rfl]
    simp_arith [l3]
theorem called_ok (c : Nat → Fn) (w : Wm) (ws : List Wm) (hl : ws.length < 1000) (hn : Pu (c 16) [.val w.D] .non) (ht : ∀ a ∈ ws, Pu (c 5) [.val a.D] (.bl true)) : Pu (fn_called c) [.val w.D, .val (.tup (ws.map Wm.D))] (calls w ws).D := by
  have hn : c 16 [.val w.D] = .ret (.val .non) [.val w.D] := hn
  have q := ask_all (c 5) .un (.val w.D) (ws.map Wm.D) (fun _ => true) (fun x hx => by
    obtain ⟨a, ha, rfl⟩ := List.mem_map.mp hx
    exact ht a ha) (by rw [List.length_map]; omega)
  have al := all_map (fun _ : Dv.D => true) (ws.map Wm.D)
  have at1 : (ws.map Wm.D).all (fun _ => true) = true := by simp
  rw [at1] at al
  obtain ⟨u', lp⟩ := called_loop c (.val w.D) (.val (.tup (ws.map Wm.D))) ws w .un
  have lp := for_of (f := wSeq (sVar 1)) (s := [.val w.D, .val (.tup (ws.map Wm.D)), .val w.D, .un]) (s1 := [.val w.D, .val (.tup (ws.map Wm.D)), .val w.D, .un]) (ds := ws.map Wm.D) (by simp_arith []) lp
  unfold Pu fn_called
  refine run_val rfl (s := [.val w.D, .val (.tup (ws.map Wm.D)), .val (calls w ws).D, u']) ?_ rfl
  unfold bd_called
  generalize (calls w ws).D = R at *
  generalize ws.map Wm.D = rr at *
  simp_arith [hn, q, al, lp]
theorem called_no1 (c : Nat → Fn) (d o v : Dv.D) (x : Str) (hn : c 16 [.val d] = .exc x v [.val d]) : fn_called c [.val d, .val o] = .exc x v [.val d, .val o] := by
  unfold fn_called
  refine run_exc rfl (s := [.val d, .val o, .un, .un]) ?_ rfl
  unfold bd_called
  refine seq_exc ?_
  simp_arith [hn, R.bind_exc, kR_exc]
inductive Bad (F : Fn) : Dv.D → Prop
  | non : Bad F .non
  | str (x : Str) : Bad F (.str x)
  | lst (l : List Dv.D) : Bad F (.lst l)
  | tup (l : List Dv.D) (P : Dv.D → Bool) : l.length ≤ 1000 → (∀ x ∈ l, Pu F [.val x] (.bl (P x))) → l.all P = false → Bad F (.tup l)
theorem called_no2 (c : Nat → Fn) (w o : Dv.D) (hn : Pu (c 16) [.val w] .non) (hb : Bad (c 5) o) (ha : Anew (c 2) o) : fn_called c [.val w, .val o] = .exc "InvalidWides" o [.val w, .val o] := by
  have hn : c 16 [.val w] = .ret (.val .non) [.val w] := hn
  have r := raise_of (x := "InvalidWides") (anew_call1 (u := .val w) (us := [.un, .un]) ha)
  unfold fn_called
  refine run_exc rfl (s := [.val w, .val o, .un, .un]) ?_ rfl
  unfold bd_called
  cases hb with
  | non => simp_arith [hn, r, seqO_exc]
  | str x => simp_arith [hn, r, seqO_exc]
  | lst l => simp_arith [hn, r, seqO_exc]
  | tup l P hl hx hf =>
    have q := ask_all (c 5) .un (.val w) l P hx hl
    have al := all_map P l
    rw [hf] at al
    simp_arith [hn, q, al, r, seqO_exc]
end K03
namespace Dv
open PySem L2
theorem forL_ret' {g : G} {b : S} {d : D} {ds : List D} {s s1 s2 : Sto} {o : Opd} (h1 : g d s = some s1) (h2 : b s1 = .ret o s2) : forL g b (d :: ds) s = .ret o s2 := by
  unfold forL; rw [h1]; simp only; rw [h2]
theorem nodup_len {α : Type} [BEq α] [LawfulBEq α] : ∀ {l m : List α}, l.Nodup → (∀ x ∈ l, x ∈ m) → l.length ≤ m.length
  | [], _, _, _ => Nat.zero_le _
  | a :: l, m, hn, h => by
    have ha := h a List.mem_cons_self
    rw [List.nodup_cons] at hn
    have ih := nodup_len (l := l) (m := m.erase a) hn.2 fun x hx => (List.mem_erase_of_ne fun z => hn.1 (by rw [← z]; exact hx)).mpr (h x (List.mem_cons_of_mem _ hx))
    rw [List.length_erase_of_mem ha] at ih
    have := List.length_pos_of_mem ha
    rw [List.length_cons]; omega
def hasB (ns : List Str) (x : Str) : Bool := ns.any fun z => z == x
theorem hasB_iff {ns : List Str} {x : Str} : hasB ns x = true ↔ x ∈ ns := by
  unfold hasB
  rw [List.any_eq_true]
  constructor
  · rintro ⟨z, hz, e⟩
    rw [← eq_of_beq e]; exact hz
  · exact fun h => ⟨x, h, beq_self_eq_true x⟩
theorem py_strs : ∀ ns : List Str, D.isPyAll (ns.map D.str) = true
  | [] => rfl
  | x :: ns => by rw [List.map_cons]; unfold D.isPyAll; rw [py_strs ns]; rfl
theorem dep_strs : ∀ ns : List Str, D.depAll (ns.map D.str) = 0
  | [] => rfl
  | x :: ns => by rw [List.map_cons]; unfold D.depAll; rw [dep_strs ns]; rfl
theorem inB_strs (x : Str) (ns : List Str) : inB (.str x) (ns.map D.str) = hasB ns x := by
  unfold inB hasB
  rw [List.any_map]
  have : ((fun z => eqvD z (.str x)) ∘ D.str) = fun z => z == x := by
    funext z
    show eqvD (.str z) (.str x) = _
    unfold eqvD; rfl
  rw [this]
theorem nin_lst (x : Str) (ns : List Str) : ninD (.str x) (.lst (ns.map D.str)) = some (.val (.bl (!hasB ns x))) := by
  have ok : inOk (.str x) (ns.map D.str) = true := by
    unfold inOk
    rw [py_strs, dep_strs]
    rfl
  show (if inOk (.str x) (ns.map D.str) then some (Opd.val (.bl (!(inB (.str x) (ns.map D.str))))) else none) = _
  rw [if_pos ok, inB_strs]
def nmK (x : Str) : List Key := [.inr "name", .inr x]
def putsD (acc : List (List Key × D)) (ns : List Str) : List (List Key × D) := ns.foldl (fun a x => putD a (nmK x) (.bl true)) acc
def hasK (kvs : List (List Key × D)) (t : List Key) : Bool := (kvs.map (·.1)).any fun q => decide (q = t)
theorem put_keys {kvs : List (List Key × D)} {k t : List Key} {v : D} : hasK (putD kvs k v) t = (hasK kvs t || decide (k = t)) := by
  unfold hasK putD
  split
  · rename_i h
    have e : (kvs.map (fun kv => if kv.1 = k then (kv.1, v) else kv)).map (·.1) = kvs.map (·.1) := by
      rw [List.map_map]
      refine List.map_congr_left fun p _ => ?_
      show (if p.1 = k then (p.1, v) else p).1 = p.1
      split <;> rfl
    rw [e]
    by_cases hk : k = t
    · subst hk
      have : ((kvs.map (·.1)).any fun q => decide (q = k)) = true := by rw [List.any_map]; exact h
      rw [this]; rfl
    · rw [decide_eq_false hk, Bool.or_false]
  · rw [List.map_append, List.any_append]
    congr 1
    simp
theorem puts_has : ∀ (ns : List Str) (acc : List (List Key × D)) (x : Str), hasK (putsD acc ns) (nmK x) = (hasK acc (nmK x) || hasB ns x)
  | [], acc, x => by unfold putsD hasB; simp
  | y :: ns, acc, x => by
    have ih := puts_has ns (putD acc (nmK y) (.bl true)) x
    show hasK (putsD (putD acc (nmK y) (.bl true)) ns) (nmK x) = _
    rw [ih, put_keys]
    have : decide (nmK y = nmK x) = (y == x) := by
      by_cases h : y = x
      · subst h; simp
      · have : nmK y ≠ nmK x := fun z => by
          unfold nmK at z
          injection z with _ z
          injection z with z _
          injection z with z
          exact h z
        rw [decide_eq_false this, beq_eq_false_iff_ne.mpr h]
    rw [this, Bool.or_assoc]
    unfold hasB
    rw [List.any_cons]
theorem put_len {kvs : List (List Key × D)} {k : List Key} {v : D} : (putD kvs k v).length ≤ kvs.length + 1 := by
  unfold putD
  split
  · rw [List.length_map]; omega
  · rw [List.length_append, List.length_singleton]; omega
theorem in_dct (kvs : List (List Key × D)) (x : Str) : inD (.tup [.str "name", .str x]) (dctOf kvs) = some (.val (.bl (hasK kvs (nmK x)))) := by
  show (inKs (.tup [.str "name", .str x]) (kvs.map fun p => .tup (p.1.map kD))).map _ = _
  have e : keysT (kvs.map fun p => D.tup (p.1.map kD)) = some (kvs.map (·.1)) := by
    have := keysT_map (kvs.map (·.1))
    rwa [List.map_map] at this
  unfold inKs
  rw [show keyD (.tup [.str "name", .str x]) = none from rfl, show keyT (.tup [.str "name", .str x]) = some (nmK x) from rfl]
  simp only
  rw [e]
  rfl
end Dv
namespace K03
open PySem L2 Dv Pg
theorem dc_names (n t : Slot) : ∀ (ns : List Str) (acc : List (List Key × Dv.D)) (u : Slot), acc.length + ns.length < LIM →
    ∃ u', dcL (gN 2) tYesT (aCons (sC (.str "name")) (aCons (sVar 2) aNil)) (sC (.bl true)) [2] (ns.map Dv.D.str) acc [n, t, u] = .ok (putsD acc ns) [n, t, u']
  | [], acc, u, _ => ⟨u, rfl⟩
  | x :: ns, acc, u, hl => by
    rw [List.length_cons] at hl
    obtain ⟨u', e⟩ := dc_names n t ns (putD acc (nmK x) (.bl true)) (.val (.str x)) (by have := put_len (kvs := acc) (k := nmK x) (v := .bl true); omega)
    have l2 : (2 : Nat) ≤ LIM := LIM_le (by decide)
    have h1 : gN 2 (.str x) (wipeS [n, t, u] [2]) = some [n, t, .val (.str x)] := rfl
    have h2 : keyG (aCons (sC (.str "name")) (aCons (sVar 2) aNil)) [n, t, .val (.str x)] = .ok (nmK x) [n, t, .val (.str x)] := by
      unfold keyG
      simp_arith [noX_ok]
      show (if 2 ≤ LIM then _ else _) = _
      rw [if_pos l2]; rfl
    refine ⟨u', ?_⟩
    rw [List.map_cons]
    unfold dcL
    rw [h1]
    simp only [tYesT, noX_ok, R.bind_ok, if_true, h2, sC, takeO]
    rw [if_pos (by omega)]
    exact e
theorem fresh_dict (n : Slot) (ns : List Str) (hl : ns.length < 1000) : sDc (wSeq (sVar 1)) (gN 2) tYesT (aCons (sC (.str "name")) (aCons (sVar 2) aNil)) (sC (.bl true)) [2] [n, .val (.tup (ns.map .str)), .un] = .ok (.own (dctOf (putsD [] ns))) [n, .val (.tup (ns.map .str)), .un] := by
  obtain ⟨u', e⟩ := dc_names n (.val (.tup (ns.map .str))) ns [] .un (by have : (1000 : Nat) ≤ LIM := LIM_le (by decide); rw [List.length_nil]; omega)
  have h : wSeq (sVar 1) [n, .val (.tup (ns.map .str)), .un] = .ok (ns.map .str) [n, .val (.tup (ns.map .str)), .un] := by simp_arith []
  unfold sDc
  rw [h, R.bind_ok, e, R.bind_ok]
  rfl
structure Cand (l : Str) (cand : Nat → Str) (N : Nat) : Prop where
  zero : cand 0 = l
  str : ∀ i : Nat, 1 ≤ i → i ≤ N → ∃ s : Str, strD [.int (i : Nat)] = some (.val (.str s)) ∧ addD (.str l) (.str s) = some (.val (.str (cand i)))
  emp : addD (.str l) (.str "") = some (.val (.str l))
theorem fresh_in_loop (c : Nat → Fn) {l name : Str} {cand : Nat → Str} {N : Nat} (C : Cand l cand N) (h0 : atD (.str name) (.int 0) = some (.val (.str l))) (ns : List Str) (j : Nat) (hj : j ≤ N) (h1 : ∀ i < j, cand i ∈ ns) (h2 : cand j ∉ ns) :
    ∀ (m i : Nat), i + m = j → ∃ u, sWh (bd_fresh_in_t1 c) (bd_fresh_in_b1 c) [.val (.str name), .val (dctOf (putsD [] ns)), .val (.str (cand i)), .val (.int (i : Nat))] = .nxt [.val (.str name), .val (dctOf (putsD [] ns)), .val (.str (cand j)), u]
  | 0, i, e => by
    have e : i = j := by omega
    subst e
    have l2 : (2 : Nat) ≤ LIM := LIM_le (by decide)
    have q := in_dct (putsD [] ns) (cand i)
    have hf : hasK (putsD [] ns) (nmK (cand i)) = false := by
      rw [puts_has, show hasK ([] : List (List Key × Dv.D)) (nmK (cand i)) = false from rfl, Bool.false_or]
      exact Bool.eq_false_iff.mpr fun z => h2 (hasB_iff.mp z)
    rw [hf] at q
    refine ⟨.val (.int (i : Nat)), wh_stop (s1 := [.val (.str name), .val (dctOf (putsD [] ns)), .val (.str (cand i)), .val (.int (i : Nat))]) ?_⟩
    unfold bd_fresh_in_t1
    generalize dctOf (putsD [] ns) = dd at *
    simp_arith [q, l2]
  | m + 1, i, e => by
    have l2 : (2 : Nat) ≤ LIM := LIM_le (by decide)
    obtain ⟨u, ih⟩ := fresh_in_loop c C h0 ns j hj h1 h2 m (i + 1) (by omega)
    have q := in_dct (putsD [] ns) (cand i)
    have hf : hasK (putsD [] ns) (nmK (cand i)) = true := by
      rw [puts_has, hasB_iff.mpr (h1 i (by omega)), Bool.or_true]
    rw [hf] at q
    obtain ⟨s, e1, e2⟩ := C.str (i + 1) (by omega) (by omega)
    have e3 : ((i : Nat) : Int) + 1 = ((i + 1 : Nat) : Int) := by omega
    refine ⟨u, (wh_go (s1 := [.val (.str name), .val (dctOf (putsD [] ns)), .val (.str (cand i)), .val (.int (i : Nat))]) ?_ ?_).trans ih⟩
    · unfold bd_fresh_in_t1
      generalize dctOf (putsD [] ns) = dd at *
      simp_arith [q, l2]
    · unfold bd_fresh_in_b1
      generalize dctOf (putsD [] ns) = dd at *
      simp_arith [h0, e3, e1, e2]
theorem fresh_in_ok (c : Nat → Fn) {l name : Str} {cand : Nat → Str} {N : Nat} (C : Cand l cand N) (h0 : atD (.str name) (.int 0) = some (.val (.str l))) (ns : List Str) (j : Nat) (hj : j ≤ N) (h1 : ∀ i < j, cand i ∈ ns) (h2 : cand j ∉ ns) :
    Pu (fn_fresh_in c) [.val (.str name), .val (dctOf (putsD [] ns))] (.str (cand j)) := by
  obtain ⟨u, e⟩ := fresh_in_loop c C h0 ns j hj h1 h2 j 0 (by omega)
  rw [C.zero] at e
  have e : sWh (bd_fresh_in_t1 c) (bd_fresh_in_b1 c) [.val (.str name), .val (dctOf (putsD [] ns)), .val (.str l), .val (.int 0)] = .nxt [.val (.str name), .val (dctOf (putsD [] ns)), .val (.str (cand j)), u] := e
  unfold Pu fn_fresh_in
  refine run_val rfl (s := [.val (.str name), .val (dctOf (putsD [] ns)), .val (.str (cand j)), u]) ?_ rfl
  unfold bd_fresh_in
  generalize dctOf (putsD [] ns) = dd at *
  simp_arith [h0, e]
theorem ask_names (F : Fn) (d0 : Slot) (l : List Dv.D) (P : Dv.D → Bool) (h : ∀ x ∈ l, Pu F [.val x] (.bl (P x))) (hl : l.length ≤ 1000) :
    sLc (wSeq (sVar 1)) (gN 2) tYesT (sCall F [true] (aCons (sVar 2) aNil)) [2] [d0, .val (.tup l), .un] = .ok (.own (.lst (l.map fun x => .bl (P x)))) [d0, .val (.tup l), .un] := by
  have q := lc_of (f := wSeq (sVar 1)) (g := gN 2) (t := tYesT) (e := sCall F [true] (aCons (sVar 2) aNil)) (vs := [2]) (P := fun _ => true) (F := fun x => .bl (P x)) (s := [d0, .val (.tup l), .un]) (s1 := [d0, .val (.tup l), .un]) (w := [d0, .val (.tup l), .un]) (fin := [d0, .val (.tup l), .un]) (ds := l)
    (by simp_arith []) rfl (LIM_le (by omega)) (fun x hx => by
      have e : F [.val x] = .ret (.val (.bl (P x))) [.val x] := h x hx
      refine ⟨[d0, .val (.tup l), .val x], [d0, .val (.tup l), .val x], rfl, rfl, (fun z => nomatch z), fun _ => ⟨.val (.bl (P x)), [d0, .val (.tup l), .val x], [d0, .val (.tup l), .val x], by simp_arith [e], rfl, rfl⟩⟩) rfl
  rw [show (l.filter fun _ => true) = l by simp] at q
  exact q
theorem fresh_ok (c : Nat → Fn) (name : Str) (ns : List Str) (r : Str) (hl : ns.length < 1000) (hn : Pu (c 33) [.val (.str name)] .non) (hs : ∀ x ∈ ns, Pu (c 3) [.val (.str x)] (.bl true)) (hr : Pu (c 32) [.val (.str name), .val (dctOf (putsD [] ns))] (.str r)) :
    Pu (fn_fresh c) [.val (.str name), .val (.tup (ns.map .str))] (.str r) := by
  have hn : c 33 [.val (.str name)] = .ret (.val .non) [.val (.str name)] := hn
  have hr : c 32 [.val (.str name), .val (dctOf (putsD [] ns))] = .ret (.val (.str r)) [.val (.str name), .val (dctOf (putsD [] ns))] := hr
  have q := ask_names (c 3) (.val (.str name)) (ns.map Dv.D.str) (fun _ => true) (fun x hx => by
    obtain ⟨a, ha, rfl⟩ := List.mem_map.mp hx
    exact hs a ha) (by rw [List.length_map]; omega)
  have al := all_map (fun _ : Dv.D => true) (ns.map Dv.D.str)
  have at1 : (ns.map Dv.D.str).all (fun _ => true) = true := by simp
  rw [at1] at al
  have dc := fresh_dict (.val (.str name)) ns hl
  unfold Pu fn_fresh
  refine run_val rfl (s := [.val (.str name), .val (.tup (ns.map .str)), .un]) ?_ rfl
  unfold bd_fresh
  generalize dctOf (putsD [] ns) = dd at *
  generalize ns.map Dv.D.str = rr at *
  simp_arith [hn, q, al, dc, hr]
theorem fresh_no1 (c : Nat → Fn) (d o v : Dv.D) (x : Str) (hn : c 33 [.val d] = .exc x v [.val d]) : fn_fresh c [.val d, .val o] = .exc x v [.val d, .val o] := by
  unfold fn_fresh
  refine run_exc rfl (s := [.val d, .val o, .un]) ?_ rfl
  unfold bd_fresh
  refine seq_exc ?_
  simp_arith [hn, R.bind_exc, kR_exc]
theorem fresh_no2 (c : Nat → Fn) (w o : Dv.D) (hn : Pu (c 33) [.val w] .non) (hb : Bad (c 3) o) (ha : Anew (c 2) o) : fn_fresh c [.val w, .val o] = .exc "InvalidNames" o [.val w, .val o] := by
  have hn : c 33 [.val w] = .ret (.val .non) [.val w] := hn
  have r := raise_of (x := "InvalidNames") (anew_call1 (u := .val w) (us := [.un]) ha)
  unfold fn_fresh
  refine run_exc rfl (s := [.val w, .val o, .un]) ?_ rfl
  unfold bd_fresh
  cases hb with
  | non => simp_arith [hn, r, seqO_exc]
  | str x => simp_arith [hn, r, seqO_exc]
  | lst l => simp_arith [hn, r, seqO_exc]
  | tup l P hl hx hf =>
    have q := ask_names (c 3) (.val w) l P hx hl
    have al := all_map P l
    rw [hf] at al
    simp_arith [hn, q, al, r, seqO_exc]
theorem law_fresh_loop (c : Nat → Fn) {l name : Str} {cand : Nat → Str} {N : Nat} (C : Cand l cand N) (h0 : atD (.str name) (.int 0) = some (.val (.str l))) (ns : List Str) (j : Nat) (hj : j ≤ N) (h1 : ∀ i < j, cand i ∈ ns) (h2 : cand j ∉ ns) :
    ∀ (m i : Nat) (ds : List Dv.D) (u v : Slot), i + m = j → ∃ s, forL b_law_fresh_g1 (b_law_fresh_b1 c) (((List.range' i (m + 1)).map fun k => Dv.D.int (k : Nat)) ++ ds) [.val (.str name), .val (.lst (ns.map .str)), u, v] = .ret (.val (.str (cand j))) (.val (.str name) :: .val (.lst (ns.map .str)) :: s)
  | 0, i, ds, u, v, e => by
    have e : i = j := by omega
    subst e
    have nb : hasB ns (cand i) = false := Bool.eq_false_iff.mpr fun z => h2 (hasB_iff.mp z)
    have q := nin_lst (cand i) ns
    rw [nb] at q
    refine ⟨[.val (.int (i : Nat)), .val (.str (cand i))], ?_⟩
    rw [show List.range' i (0 + 1) = [i] from rfl, List.map_singleton, List.singleton_append]
    refine forL_ret' (s1 := [.val (.str name), .val (.lst (ns.map .str)), .val (.int (i : Nat)), v]) rfl ?_
    unfold b_law_fresh_b1
    by_cases hi : i = 0
    · subst hi
      have z := C.zero
      rw [z] at q ⊢
      have em := C.emp
      simp_arith [h0, em, q]
    · obtain ⟨s, e1, e2⟩ := C.str i (by omega) hj
      have hp : decide ((0 : Int) < ((i : Nat) : Int)) = true := decide_eq_true (by omega)
      simp_arith [h0, hp, e1, e2, q]
  | m + 1, i, ds, u, v, e => by
    have nb : hasB ns (cand i) = true := hasB_iff.mpr (h1 i (by omega))
    have q := nin_lst (cand i) ns
    rw [nb] at q
    obtain ⟨s, ih⟩ := law_fresh_loop c C h0 ns j hj h1 h2 m (i + 1) ds (.val (.int (i : Nat))) (.val (.str (cand i))) (by omega)
    refine ⟨s, ?_⟩
    rw [List.range'_succ, List.map_cons, List.cons_append]
    refine (forL_cons (s1 := [.val (.str name), .val (.lst (ns.map .str)), .val (.int (i : Nat)), v]) rfl (s2 := [.val (.str name), .val (.lst (ns.map .str)), .val (.int (i : Nat)), .val (.str (cand i))]) ?_).trans ih
    unfold b_law_fresh_b1
    by_cases hi : i = 0
    · subst hi
      have z := C.zero
      rw [z] at q ⊢
      have em := C.emp
      simp_arith [h0, em, q]
    · obtain ⟨s', e1, e2⟩ := C.str i (by omega) (by omega)
      have hp : decide ((0 : Int) < ((i : Nat) : Int)) = true := decide_eq_true (by omega)
      simp_arith [h0, hp, e1, e2, q]
theorem law_fresh_ok (c : Nat → Fn) {l name : Str} {cand : Nat → Str} {N : Nat} (C : Cand l cand N) (h0 : atD (.str name) (.int 0) = some (.val (.str l))) (ns : List Str) (hl : ns.length < 1000) (j : Nat) (hj : j ≤ N) (hjn : j ≤ ns.length) (h1 : ∀ i < j, cand i ∈ ns) (h2 : cand j ∉ ns) :
    Pu (run 2 4 (b_law_fresh c)) [.val (.str name), .val (.lst (ns.map .str))] (.str (cand j)) := by
  have rg : (List.range (ns.length + 1)).map (fun k => Dv.D.int (k : Nat)) = ((List.range' 0 (j + 1)).map fun k => Dv.D.int (k : Nat)) ++ (List.range' (j + 1) (ns.length - j)).map fun k => Dv.D.int (k : Nat) := by
    rw [← List.map_append, List.range_eq_range']
    congr 1
    have := List.range'_append_1 (s := 0) (m := j + 1) (n := ns.length - j)
    rw [Nat.zero_add] at this
    rw [this]
    congr 1
    omega
  obtain ⟨s, e⟩ := law_fresh_loop c C h0 ns j hj h1 h2 j 0 ((List.range' (j + 1) (ns.length - j)).map fun k => Dv.D.int (k : Nat)) .un .un (by omega)
  rw [← rg] at e
  have hw : wArgs rng1 (aCons (sOp2 addD (sCB lenD (aCons (sVar 1) aNil)) (sC (.int 1))) aNil) [.val (.str name), .val (.lst (ns.map .str)), .un, .un] = .ok ((List.range (ns.length + 1)).map fun k => Dv.D.int (k : Nat)) [.val (.str name), .val (.lst (ns.map .str)), .un, .un] := by
    have rn := rng1_nat (n := ns.length + 1) (LIM_le (by omega))
    have e1 : ((ns.length + 1 : Nat) : Int) = ((ns.map Dv.D.str).length : Int) + 1 := by rw [List.length_map]; omega
    rw [e1] at rn
    generalize ns.map Dv.D.str = rr at *
    simp_arith [rn]
  have fo := for_of hw e
  unfold Pu
  refine run_val rfl (s := .val (.str name) :: .val (.lst (ns.map .str)) :: s) ?_ rfl
  unfold b_law_fresh
  exact seq_ret fo
end K03
namespace K03
open PySem L2 Dv Pg
theorem node_no_non (c : Nat → Fn) : Pu (fn_is_node c) [.val .non] (.bl false) := by
  unfold Pu fn_is_node bd_is_node
  exact run_val rfl (by simp_arith []; rfl) rfl
theorem node_no_str (c : Nat → Fn) (x : Str) : Pu (fn_is_node c) [.val (.str x)] (.bl false) := by
  unfold Pu fn_is_node bd_is_node
  exact run_val rfl (by simp_arith []; rfl) rfl
theorem node_no_three (c : Nat → Fn) (x y : Dv.D) : Pu (fn_is_node c) [.val (.tup [.str "name", x, y])] (.bl false) := by
  unfold Pu fn_is_node bd_is_node
  exact run_val rfl (by simp_arith []; rfl) rfl
theorem node_no_fn (c : Nat → Fn) (x : Dv.D) : Pu (fn_is_node c) [.val (.tup [.str "fn", x])] (.bl false) := by
  unfold Pu fn_is_node bd_is_node
  exact run_val rfl (by simp_arith []; rfl) rfl
theorem natural_no (c : Nat → Fn) (i : Int) (hi : i < 0) (h : Pu (c 0) [.val (.int i)] (.bl true)) : Pu (fn_is_natural c) [.val (.int i)] (.bl false) := by
  have h : c 0 [.val (.int i)] = .ret (.val (.bl true)) [.val (.int i)] := h
  unfold Pu fn_is_natural
  refine run_val rfl (s := [.val (.int i)]) ?_ rfl
  unfold bd_is_natural
  simp_arith [h, decide_eq_true hi]
theorem node_no_at (c : Nat → Fn) (i : Int) (h : Pu (c 1) [.val (.int i)] (.bl false)) : Pu (fn_is_node c) [.val (.tup [.str "at", .int i])] (.bl false) := by
  have h : c 1 [.val (.int i)] = .ret (.val (.bl false)) [.val (.int i)] := h
  unfold Pu fn_is_node bd_is_node
  exact run_val rfl (by simp_arith [h]; rfl) rfl
theorem name_no_kind (c : Nat → Fn) (d : Dv.D) (h : isiD [d, .ty "str"] = some (.val (.bl false))) : Pu (fn_is_plain_name c) [.val d] (.bl false) := by
  unfold Pu fn_is_plain_name
  refine run_val rfl (s := [.val d, .un, .un]) ?_ rfl
  unfold bd_is_plain_name
  simp_arith [h]
theorem name_no_empty (c : Nat → Fn) : Pu (fn_is_plain_name c) [.val (.str "")] (.bl false) := by
  unfold Pu fn_is_plain_name
  refine run_val rfl (s := [.val (.str ""), .un, .un]) ?_ rfl
  unfold bd_is_plain_name
  simp_arith []
theorem name_no_big (c : Nat → Fn) : Pu (fn_is_plain_name c) [.val (.str "X")] (.bl false) := by
  have h0 : (("X" : Str) == ("" : Str)) = false := by decide
  have e1 : atD (.str "X") (.int 0) = some (.val (.str ⟨#[88]⟩)) := at_str (by decide) (by decide)
  have e2 : ninD (.str ⟨#[88]⟩) (.str "abcdefghijklmnopqrstuvwxyz") = some (.val (.bl true)) := by
    show some (Opd.val (.bl (!(decide (88 ∈ ("abcdefghijklmnopqrstuvwxyz" : Str).cps.toList))))) = _
    rw [decide_eq_false (by decide)]; rfl
  unfold Pu fn_is_plain_name
  refine run_val rfl (s := [.val (.str "X"), .un, .un]) ?_ rfl
  unfold bd_is_plain_name
  simp_arith [h0, e1, e2]
theorem name_no_01 (c : Nat → Fn) : Pu (fn_is_plain_name c) [.val (.str "x01")] (.bl false) := by
  have h0 : (("x01" : Str) == ("" : Str)) = false := by decide
  have e1 : atD (.str "x01") (.int 0) = some (.val (.str ⟨#[120]⟩)) := at_str (by decide) (by decide)
  have e2 := nin_letter (k := 120) (by decide)
  have e3 : cutD (.str "x01") (some 1) none = some (.val (.str "01")) := cut_str (by decide) (by decide)
  have h1 : (("01" : Str) == ("" : Str)) = false := by decide
  have e4 : lenD [.str "01"] = some (.val (.int 2)) := by
    show (if ("01" : Str).length ≤ LIM then some (Opd.val (.int (("01" : Str).length : Nat))) else none) = _
    rw [if_pos (LIM_le (by decide))]; rfl
  have e5 : atD (.str "01") (.int 0) = some (.val (.str "0")) := at_str (k := 48) (by decide) (by decide)
  unfold Pu fn_is_plain_name
  refine run_val rfl (s := [.val (.str "x01"), .val (.str "01"), .un]) ?_ rfl
  unfold bd_is_plain_name
  simp_arith [h0, e1, e2, e3, h1, e4, e5]
theorem name_no_fn (c : Nat → Fn) : Pu (fn_is_plain_name c) [.val (.str "fn")] (.bl false) := by
  have h0 : (("fn" : Str) == ("" : Str)) = false := by decide
  have e1 : atD (.str "fn") (.int 0) = some (.val (.str ⟨#[102]⟩)) := at_str (by decide) (by decide)
  have e2 := nin_letter (k := 102) (by decide)
  have e3 : cutD (.str "fn") (some 1) none = some (.val (.str "n")) := cut_str (by decide) (by decide)
  have h1 : (("n" : Str) == ("" : Str)) = false := by decide
  have h2 : (("n" : Str) == ("0" : Str)) = false := by decide
  have e4 : lenD [.str "n"] = some (.val (.int 1)) := by
    show (if ("n" : Str).length ≤ LIM then some (Opd.val (.int (("n" : Str).length : Nat))) else none) = _
    rw [if_pos (LIM_le (by decide))]; rfl
  have e5 : atD (.str "n") (.int 0) = some (.val (.str "n")) := at_str (k := 110) (by decide) (by decide)
  have e8 : inD (.str "n") (.str "0123456789") = some (.val (.bl false)) := by
    show some (Opd.val (.bl (id (decide (110 ∈ ("0123456789" : Str).cps.toList))))) = _
    rw [decide_eq_false (by decide)]; rfl
  have lc := lc_of (f := wSeq (sVar 1)) (g := gN 2) (t := tYesT) (e := sOp2 inD (sVar 2) (sC (.str "0123456789"))) (vs := [2]) (P := fun _ => true) (F := fun _ => .bl false)
    (s := [.val (.str "fn"), .val (.str "n"), .un]) (s1 := [.val (.str "fn"), .val (.str "n"), .un]) (w := [.val (.str "fn"), .val (.str "n"), .un]) (fin := [.val (.str "fn"), .val (.str "n"), .un]) (ds := [.str "n"]) (by simp_arith []; rfl) rfl (LIM_le (n := 1) (by decide))
    (fun y hy => by
      rw [List.mem_singleton.mp hy]
      refine ⟨[.val (.str "fn"), .val (.str "n"), .val (.str "n")], [.val (.str "fn"), .val (.str "n"), .val (.str "n")], rfl, rfl, fun _ => rfl, fun _ => ⟨.val (.bl false), [.val (.str "fn"), .val (.str "n"), .val (.str "n")], [.val (.str "fn"), .val (.str "n"), .val (.str "n")], ?_, rfl, rfl⟩⟩
      simp_arith [e8]) rfl
  have a1 : allD [.lst (([Dv.D.str "n"].filter fun _ => true).map fun _ => .bl false)] = some (.val (.bl false)) := rfl
  unfold Pu fn_is_plain_name
  refine run_val rfl (s := [.val (.str "fn"), .val (.str "n"), .un]) ?_ rfl
  unfold bd_is_plain_name
  simp_arith [h0, e1, e2, e3, h1, h2, e4, e5, lc, a1]
theorem bad_tup {F : Fn} {l : List Dv.D} (hl : l.length ≤ 1000) (h : ∀ x ∈ l, Pu F [.val x] (.bl true) ∨ Pu F [.val x] (.bl false)) (hx : ∃ x ∈ l, Pu F [.val x] (.bl false)) : Bad F (.tup l) := by
  have no : ∀ x, Pu F [.val x] (.bl false) → ¬ Pu F [.val x] (.bl true) := fun x a b => by
    unfold Pu at a b
    rw [a] at b
    injection b with b _
    injection b with b
    injection b with b
    cases b
  classical
  refine Bad.tup l (fun x => decide (Pu F [.val x] (.bl true))) hl (fun x hxl => ?_) ?_
  · rcases h x hxl with q | q
    · rw [decide_eq_true q]; exact q
    · rw [decide_eq_false (no x q)]; exact q
  · obtain ⟨x, hxl, q⟩ := hx
    rw [List.all_eq_false]
    exact ⟨x, hxl, by rw [decide_eq_false (no x q)]; exact Bool.false_ne_true⟩
def cnd (l : Str) (i : Nat) : Str := if i = 0 then l else l ++ (toString ((i : Nat) : Int) : Str)
def lts : List Str := ["x", "y", "z", "f"]
theorem add_str {x y : Str} (h : x.length + y.length ≤ 16777216) : addD (.str x) (.str y) = some (.val (.str (x ++ y))) := by
  show (if x.length + y.length ≤ LIM then some (Opd.val (.str (x ++ y))) else none) = _
  rw [if_pos (LIM_le h)]
theorem cand_ok : ∀ l ∈ lts, Cand l (cnd l) 4 := by
  have one : ∀ i : Nat, 1 ≤ i → i ≤ 4 → strD [.int (i : Nat)] = some (.val (.str (toString ((i : Nat) : Int) : Str))) ∧ (toString ((i : Nat) : Int) : Str).length = 1 := fun i h1 h2 => by
    have : i = 1 ∨ i = 2 ∨ i = 3 ∨ i = 4 := by omega
    rcases this with rfl | rfl | rfl | rfl
    all_goals exact ⟨if_pos (by decide +kernel), by decide +kernel⟩
  intro l hl
  have ll : l.length = 1 := by
    unfold lts at hl
    simp only [List.mem_cons, List.not_mem_nil, or_false] at hl
    rcases hl with rfl | rfl | rfl | rfl <;> decide +kernel
  refine ⟨rfl, fun i h1 h2 => ⟨_, (one i h1 h2).1, ?_⟩, ?_⟩
  · rw [add_str (by rw [ll, (one i h1 h2).2]; decide), cnd, if_neg (by omega)]
  · have e : l ++ ("" : Str) = l := by
      unfold lts at hl
      simp only [List.mem_cons, List.not_mem_nil, or_false] at hl
      rcases hl with rfl | rfl | rfl | rfl <;> decide +kernel
    rw [add_str (by rw [ll]; decide +kernel), e]
def ten : List Str := ["x", "x1", "x2", "x3", "y", "z", "z1", "z2", "f", "f1"]
theorem ten_gn : ∀ x ∈ ten, x ∈ gn := by decide +kernel
theorem cand_far : ∀ l ∈ lts, cnd l 4 ∉ ten := by decide +kernel
theorem cand_nodup : ∀ l ∈ lts, ∀ j ≤ 4, ((List.range j).map (cnd l)).Nodup := by
  intro l hl j hj
  have h : ∀ l ∈ lts, ∀ j ∈ List.range 5, ((List.range j).map (cnd l)).Nodup := by decide +kernel
  exact h l hl j (List.mem_range.mpr (by omega))
theorem cand_leaf : ∀ l ∈ lts, ∀ j ≤ 4, leafOk (.str (cnd l j)) := by
  intro l hl j hj
  have h : (lts.all fun l => (List.range 5).all fun j => PyData.strOk (reprText (cnd l j)) && decide ((reprText (cnd l j)).length ≤ 30)) = true := by decide +kernel
  exact leaf_str (List.all_eq_true.mp (List.all_eq_true.mp h l hl) j (List.mem_range.mpr (by omega)))
theorem least_of (P : Nat → Prop) (N : Nat) (h : P N) : ∃ j ≤ N, P j ∧ ∀ i < j, ¬ P i := by
  classical
  induction N using Nat.strongRecOn with
  | _ N ih =>
    by_cases q : ∃ i < N, P i
    · obtain ⟨i, hi, hp⟩ := q
      obtain ⟨j, h1, h2⟩ := ih i hi hp
      exact ⟨j, by omega, h2⟩
    · exact ⟨N, Nat.le_refl _, h, fun i hi hp => q ⟨i, hi, hp⟩⟩
theorem cand_least (l : Str) (hl : l ∈ lts) (ns : List Str) (hn : ∀ x ∈ ns, x ∈ ten) : ∃ j ≤ 4, j ≤ ns.length ∧ (∀ i < j, cnd l i ∈ ns) ∧ cnd l j ∉ ns := by
  classical
  obtain ⟨j, h4, h1, h2⟩ := least_of (fun i => cnd l i ∉ ns) 4 fun h => cand_far l hl (hn _ h)
  have h3 : ∀ i < j, cnd l i ∈ ns := fun i hi => Classical.not_not.mp (h2 i hi)
  refine ⟨j, h4, ?_, h3, h1⟩
  have := nodup_len (cand_nodup l hl j h4) (m := ns) fun x hx => by
    obtain ⟨i, hi, rfl⟩ := List.mem_map.mp hx
    exact h3 i (List.mem_range.mp hi)
  rw [List.length_map, List.length_range] at this
  exact this
end K03
namespace K03
open PySem L2 Dv Pg
def kinds : List Str := ["InvalidProgram", "InvalidWides", "InvalidName", "InvalidNames"]
theorem range4 : rng1 [.int 4] = some [.int 0, .int 1, .int 2, .int 3] := rng1_nat (n := 4) (LIM_le (by decide))
theorem atK {b0 b1 b2 b3 : Dv.D} : atD (.lst [b0, b1, b2, b3]) (.int 3) = some (.val b3) := by
  show (atI [b0, b1, b2, b3] 3).map Opd.val = _
  rw [show (3 : Int) = ((3 : Nat) : Int) from rfl, atI_nat (by rfl)]
  rfl
theorem pick_k (s0 s1 s2 s3 : Slot) (k : Nat) (hk : k = 0 ∨ k = 1 ∨ k = 2 ∨ k = 3) : sLc (wArgs rng1 (aCons (sC (.int 4)) aNil)) (gN 6) (tTru (sOp2 atD (sVar 5) (sVar 6))) (sVar 6) [6] [s0, s1, s2, s3, .un, .own (.lst [.bl (decide (k = 0)), .bl (decide (k = 1)), .bl (decide (k = 2)), .bl (decide (k = 3))]), .un] = .ok (.own (.lst [.int (k : Nat)])) [s0, s1, s2, s3, .un, .own (.lst [.bl (decide (k = 0)), .bl (decide (k = 1)), .bl (decide (k = 2)), .bl (decide (k = 3))]), .un] := by
  have r4 := range4
  have q := lc_of (f := wArgs rng1 (aCons (sC (.int 4)) aNil)) (g := gN 6) (t := tTru (sOp2 atD (sVar 5) (sVar 6))) (e := sVar 6) (vs := [6]) (P := fun d => match d with
      | .int i => i == ((k : Nat) : Int)
      | _ => false) (F := fun d => d) (s := [s0, s1, s2, s3, .un, .own (.lst [.bl (decide (k = 0)), .bl (decide (k = 1)), .bl (decide (k = 2)), .bl (decide (k = 3))]), .un]) (s1 := [s0, s1, s2, s3, .un, .own (.lst [.bl (decide (k = 0)), .bl (decide (k = 1)), .bl (decide (k = 2)), .bl (decide (k = 3))]), .un]) (w := [s0, s1, s2, s3, .un, .own (.lst [.bl (decide (k = 0)), .bl (decide (k = 1)), .bl (decide (k = 2)), .bl (decide (k = 3))]), .un]) (fin := [s0, s1, s2, s3, .un, .own (.lst [.bl (decide (k = 0)), .bl (decide (k = 1)), .bl (decide (k = 2)), .bl (decide (k = 3))]), .un]) (ds := [.int 0, .int 1, .int 2, .int 3])
    (by simp_arith [r4]) rfl (LIM_le (n := 4) (by decide)) (fun d hd => by
      refine ⟨[s0, s1, s2, s3, .un, .own (.lst [.bl (decide (k = 0)), .bl (decide (k = 1)), .bl (decide (k = 2)), .bl (decide (k = 3))]), .val d], [s0, s1, s2, s3, .un, .own (.lst [.bl (decide (k = 0)), .bl (decide (k = 1)), .bl (decide (k = 2)), .bl (decide (k = 3))]), .val d], rfl, ?_, fun _ => rfl, fun _ => ⟨.val d, [s0, s1, s2, s3, .un, .own (.lst [.bl (decide (k = 0)), .bl (decide (k = 1)), .bl (decide (k = 2)), .bl (decide (k = 3))]), .val d], [s0, s1, s2, s3, .un, .own (.lst [.bl (decide (k = 0)), .bl (decide (k = 1)), .bl (decide (k = 2)), .bl (decide (k = 3))]), .val d], by simp_arith [], rfl, rfl⟩⟩
      simp only [List.mem_cons, List.not_mem_nil, or_false] at hd
      rcases hk with rfl | rfl | rfl | rfl
      all_goals rcases hd with rfl | rfl | rfl | rfl
      all_goals simp_arith [atK]) rfl
  rcases hk with rfl | rfl | rfl | rfl
  all_goals exact q
def Told (F : Fn) (w : Int) (one other : Dv.D) (k : Int) (v : Dv.D) : Prop := Pu F [.val (.int w), .val one, .val other] (.tup [.lst [.int k], .str (shownD v)])
theorem caught_end (c : Nat → Fn) (w : Int) (one other v : Dv.D) (x : Str) (k : Nat) (hk : kinds[k]? = some x) (hv : reprD [v] = some (.val (.str (shownD v))))
    (hb : (sIfS (tB (sOp2 eqD (sVar 0) (sC (.int 0)))) (sDrop (sCall (c 35) [true, true] (aCons (sVar 1) (aCons (sVar 2) aNil)))) (sIfS (tB (sOp2 eqD (sVar 0) (sC (.int 1)))) (sDrop (sCallK (c 35) [1, 0] [true, true] (aCons (sVar 2) (aCons (sVar 1) aNil)))) (sIfS (tB (sOp2 eqD (sVar 0) (sC (.int 2)))) (sDrop (sCall (c 36) [true, true] (aCons (sVar 1) (aCons (sVar 2) aNil)))) (sIfS (tB (sOp2 eqD (sVar 0) (sC (.int 3)))) (sDrop (sCallK (c 36) [1, 0] [true, true] (aCons (sVar 2) (aCons (sVar 1) aNil)))) (sDrop (sCall (c 34) [true] (aCons (sVar 1) aNil))))))) [.val (.int w), .val one, .val other, .val .non, .un, .un, .un] = .exc x v [.val (.int w), .val one, .val other, .val .non, .un, .un, .un]) :
    Told (run 3 7 (b_law_caught c)) w one other (k : Nat) v := by
  have l1 : (1 : Nat) ≤ LIM := LIM_le (by decide)
  have l2 : (2 : Nat) ≤ LIM := LIM_le (by decide)
  have l4 : (4 : Nat) ≤ LIM := LIM_le (by decide)
  have m0 : (0 : Nat) < LIM := LIM_le (by decide)
  have hx : x ∈ kinds := List.mem_of_getElem? hk
  have hcat : catB xn "StepError" x = some true := by
    unfold kinds at hx
    simp only [List.mem_cons, List.not_mem_nil, or_false] at hx
    rcases hx with rfl | rfl | rfl | rfl <;> decide +kernel
  have hval : valX xn (.exc x v) = some (.val v) := by
    have : x ∈ xn := by
      unfold kinds at hx
      simp only [List.mem_cons, List.not_mem_nil, or_false] at hx
      rcases hx with rfl | rfl | rfl | rfl <;> decide +kernel
    show (if x ∈ xn then some (Opd.val v) else none) = _
    rw [if_pos this]
  have isi : ∀ y ∈ kinds, isiX xn [.exc x v, .cls y] = some (.val (.bl (subC x y))) := fun y hy => by
    have h2 : ∀ z ∈ kinds, z ∈ xn := by decide +kernel
    show (if x ∈ xn ∧ y ∈ xn then some (Opd.val (.bl (subC x y))) else none) = _
    rw [if_pos ⟨h2 x hx, h2 y hy⟩]
  have i0 := isi "InvalidProgram" (by decide +kernel)
  have i1 := isi "InvalidWides" (by decide +kernel)
  have i2 := isi "InvalidName" (by decide +kernel)
  have i3 := isi "InvalidNames" (by decide +kernel)
  have non : isD (.exc x v) .non = some (.val (.bl false)) := rfl
  have tr : (sTry (catB xn "StepError") 4 (sIfS (tB (sOp2 eqD (sVar 0) (sC (.int 0)))) (sDrop (sCall (c 35) [true, true] (aCons (sVar 1) (aCons (sVar 2) aNil)))) (sIfS (tB (sOp2 eqD (sVar 0) (sC (.int 1)))) (sDrop (sCallK (c 35) [1, 0] [true, true] (aCons (sVar 2) (aCons (sVar 1) aNil)))) (sIfS (tB (sOp2 eqD (sVar 0) (sC (.int 2)))) (sDrop (sCall (c 36) [true, true] (aCons (sVar 1) (aCons (sVar 2) aNil)))) (sIfS (tB (sOp2 eqD (sVar 0) (sC (.int 3)))) (sDrop (sCallK (c 36) [1, 0] [true, true] (aCons (sVar 2) (aCons (sVar 1) aNil)))) (sDrop (sCall (c 34) [true] (aCons (sVar 1) aNil))))))) (sAsg 3 (sVar 4))) [.val (.int w), .val one, .val other, .val .non, .un, .un, .un] = .nxt [.val (.int w), .val one, .val other, .val (.exc x v), .un, .un, .un] := by
    unfold sTry
    rw [hb]
    simp only
    rw [hcat]
    simp_arith [goneO]
  have kd : sLc (wArgs rng1 (aCons (sC (.int 4)) aNil)) (gN 6) (tTru (sOp2 atD (sVar 5) (sVar 6))) (sVar 6) [6] [.val (.int w), .val one, .val other, .val (.exc x v), .un, .own (.lst [.bl (subC x "InvalidProgram"), .bl (subC x "InvalidWides"), .bl (subC x "InvalidName"), .bl (subC x "InvalidNames")]), .un] = .ok (.own (.lst [.int (k : Nat)])) [.val (.int w), .val one, .val other, .val (.exc x v), .un, .own (.lst [.bl (subC x "InvalidProgram"), .bl (subC x "InvalidWides"), .bl (subC x "InvalidName"), .bl (subC x "InvalidNames")]), .un] := by
    have q : subC x "InvalidProgram" = decide (k = 0) ∧ subC x "InvalidWides" = decide (k = 1) ∧ subC x "InvalidName" = decide (k = 2) ∧ subC x "InvalidNames" = decide (k = 3) ∧ (k = 0 ∨ k = 1 ∨ k = 2 ∨ k = 3) := by
      unfold kinds at hk
      have hk4 : k < 4 := by
        rcases Nat.lt_or_ge k 4 with h | h
        · exact h
        · rw [List.getElem?_eq_none (by simpa using h)] at hk; cases hk
      have : k = 0 ∨ k = 1 ∨ k = 2 ∨ k = 3 := by omega
      rcases this with rfl | rfl | rfl | rfl
      all_goals
        injection hk with hk
        subst hk
        decide +kernel
    obtain ⟨q0, q1, q2, q3, hk4⟩ := q
    rw [q0, q1, q2, q3]
    exact pick_k (.val (.int w)) (.val one) (.val other) (.val (.exc x v)) k hk4
  unfold Told Pu
  refine run_val rfl (s := [.val (.int w), .val one, .val other, .val (.exc x v), .un, .own (.lst [.bl (subC x "InvalidProgram"), .bl (subC x "InvalidWides"), .bl (subC x "InvalidName"), .bl (subC x "InvalidNames")]), .un]) ?_ rfl
  unfold b_law_caught
  refine (seq_nxt (s1 := [.val (.int w), .val one, .val other, .val .non, .un, .un, .un]) (by simp_arith [])).trans ((seq_nxt tr).trans ?_)
  simp_arith [non, i0, i1, i2, i3, l4, kd, hval, hv, l2]
end K03
namespace K03
open PySem L2 Dv Pg
theorem S_int (n : Nat) (i : Int) : Pu (sem (n + 1) 0) [.val (.int i)] (.bl true) := integer_ok (sem n) i
theorem S_nat (n k : Nat) : Pu (sem (n + 2) 1) [.val (.int (k : Nat))] (.bl true) := natural_ok (sem (n + 1)) k (S_int n _)
theorem S_natF (n : Nat) : Pu (sem (n + 2) 1) [.val (.int (-1))] (.bl false) := natural_no (sem (n + 1)) (-1) (by decide) (S_int n _)
theorem S_name (n : Nat) : ∀ x ∈ gn, Pu (sem (n + 1) 3) [.val (.str x)] (.bl true) := gn_name (sem n)
theorem S_node (n : Nat) (w : Wm) (h : w.good) : Pu (sem (n + 3) 4) [.val w.D] (.bl true) := node_ok (sem (n + 2)) ⟨S_name (n + 1), S_nat n⟩ w h
theorem S_tree (n : Nat) (w : Wm) (h : w.good) (hl : w.size < 1000) : Pu (sem (n + 4) 5) [.val w.D] (.bl true) := tree_ok (sem (n + 3)) (S_node n) w h (LIM_le (by omega))
theorem S_anew (n m : Nat) (d : Dv.D) (h : niceD d) (hd : D.dep d ≤ n) (hw : wtD d ≤ 1000000) (hm : n < m) : Anew (sem m 2) d := by
  obtain ⟨k, rfl⟩ : ∃ k, m = k + 1 := ⟨m - 1, by omega⟩
  exact anew_ok k d h (by omega) hw
theorem S_wide (n : Nat) (w : Wm) (h : w.good) (hl : w.size < 1000) : Pu (sem (n + 5) 16) [.val w.D] .non := need_wide_ok (sem (n + 4)) _ (S_tree n w h hl)
theorem S_spine (n : Nat) (h : Wm) (ws : List Wm) (hh : h.isCall = false) (hg : (calls h ws).good) (hs : (calls h ws).size < 1000) (hl : ws.length < 1000) : Pu (sem (n + 6) 34) [.val (calls h ws).D] (.tup [h.D, .tup (ws.map Wm.D)]) :=
  spine_ok (sem (n + 5)) h ws hh hl (S_wide n _ hg hs)
theorem S_called (n : Nat) (w : Wm) (ws : List Wm) (hg : w.good) (hs : w.size < 1000) (hl : ws.length < 1000) (ha : ∀ a ∈ ws, Wm.good a ∧ a.size < 1000) : Pu (sem (n + 6) 35) [.val w.D, .val (.tup (ws.map Wm.D))] (calls w ws).D :=
  called_ok (sem (n + 5)) w ws hl (S_wide n w hg hs) fun a h => S_tree (n + 1) a (ha a h).1 (ha a h).2
def NoTree (d : Dv.D) : Prop := (∀ n, Pu (sem (n + 4) 5) [.val d] (.bl false)) ∧ niceD d ∧ D.dep d ≤ 1 ∧ wtD d ≤ 4
def NoName (d : Dv.D) : Prop := (∀ n, Pu (sem (n + 1) 3) [.val d] (.bl false)) ∧ niceD d ∧ D.dep d ≤ 1 ∧ wtD d ≤ 4
theorem some_leaf : ∀ x ∈ (["x", "y", "", "X", "x01", "fn", "xy", "name"] : List Str), leafOk (.str x) := by
  have : ((["x", "y", "", "X", "x01", "fn", "xy", "name"] : List Str).all fun x => PyData.strOk (reprText x) && decide ((reprText x).length ≤ 30)) = true := by decide +kernel
  exact fun x h => leaf_str (List.all_eq_true.mp this x h)
theorem nice_non : niceD .non := by unfold niceD; exact leaf_non
def bads : List Dv.D := [.non, .tup [.str "at", .int (-1)], .tup [.str "name", .str "x", .str "y"], .str "x", .tup [.str "fn", .str "x"]]
theorem bads_no : ∀ d ∈ bads, NoTree d := by
  intro d hd
  have sx := nice_str (some_leaf "x" (by decide +kernel))
  have sy := nice_str (some_leaf "y" (by decide +kernel))
  unfold bads at hd
  simp only [List.mem_cons, List.not_mem_nil, or_false] at hd
  rcases hd with rfl | rfl | rfl | rfl | rfl
  · exact ⟨fun n => tree_no (sem (n + 3)) _ (node_no_non (sem (n + 2))), nice_non, by decide, by decide⟩
  · exact ⟨fun n => tree_no (sem (n + 3)) _ (node_no_at (sem (n + 2)) _ (S_natF n)), nice2 (nice_str (tag_leaf _ (by decide))) (nice_int (leaf_int (by decide +kernel))), by rw [dep2, dep_s, dep_i]; decide, by rw [wt2, wt_s, wt_i]; decide⟩
  · exact ⟨fun n => tree_no (sem (n + 3)) _ (node_no_three (sem (n + 2)) _ _), nice3 (nice_str (tag_leaf _ (by decide))) sx sy, by rw [dep3, dep_s, dep_s, dep_s]; decide, by rw [wt3, wt_s, wt_s, wt_s]; decide⟩
  · exact ⟨fun n => tree_no (sem (n + 3)) _ (node_no_str (sem (n + 2)) _), sx, by rw [dep_s]; decide, by rw [wt_s]; decide⟩
  · exact ⟨fun n => tree_no (sem (n + 3)) _ (node_no_fn (sem (n + 2)) _), nice2 (nice_str (tag_leaf _ (by decide))) sx, by rw [dep2, dep_s, dep_s]; decide, by rw [wt2, wt_s, wt_s]; decide⟩
def badn : List Dv.D := [.str "", .str "X", .str "x01", .non, .int 7, .tup [.str "x"], .str "fn"]
theorem badn_no : ∀ d ∈ badn, NoName d := by
  intro d hd
  unfold badn at hd
  simp only [List.mem_cons, List.not_mem_nil, or_false] at hd
  rcases hd with rfl | rfl | rfl | rfl | rfl | rfl | rfl
  · exact ⟨fun n => name_no_empty (sem n), nice_str (some_leaf _ (by decide +kernel)), by rw [dep_s]; decide, by rw [wt_s]; decide⟩
  · exact ⟨fun n => name_no_big (sem n), nice_str (some_leaf _ (by decide +kernel)), by rw [dep_s]; decide, by rw [wt_s]; decide⟩
  · exact ⟨fun n => name_no_01 (sem n), nice_str (some_leaf _ (by decide +kernel)), by rw [dep_s]; decide, by rw [wt_s]; decide⟩
  · exact ⟨fun n => name_no_kind (sem n) _ isi_non_str, nice_non, by decide, by decide⟩
  · exact ⟨fun n => name_no_kind (sem n) _ (isi_int_str 7), nice_int (leaf_nat (n := 7) (by decide)), by rw [dep_i]; decide, by rw [wt_i]; decide⟩
  · refine ⟨fun n => name_no_kind (sem n) _ (isi_tup_str _), ?_, by decide, by decide⟩
    unfold niceD niceL niceL
    exact ⟨nice_str (some_leaf _ (by decide +kernel)), trivial⟩
  · exact ⟨fun n => name_no_fn (sem n), nice_str (some_leaf _ (by decide +kernel)), by rw [dep_s]; decide, by rw [wt_s]; decide⟩
theorem X_wide (n : Nat) {d : Dv.D} (h : NoTree d) : sem (n + 6) 16 [.val d] = .exc "InvalidProgram" d [.val d] := need_wide_no (sem (n + 5)) d (h.1 (n + 1)) (S_anew 1 _ d h.2.1 h.2.2.1 (by have := h.2.2.2; omega) (by omega))
theorem X_spine (n : Nat) {d : Dv.D} (h : NoTree d) : sem (n + 7) 34 [.val d] = .exc "InvalidProgram" d [.val d] := spine_no (sem (n + 6)) d d _ (X_wide n h)
theorem X_called1 (n : Nat) {d : Dv.D} (o : Dv.D) (h : NoTree d) : sem (n + 7) 35 [.val d, .val o] = .exc "InvalidProgram" d [.val d, .val o] := called_no1 (sem (n + 6)) d o d _ (X_wide n h)
theorem X_called2 (n : Nat) (w : Wm) (hg : w.good) (hs : w.size < 1000) {o : Dv.D} (hb : ∀ n, Bad (sem (n + 4) 5) o) (hn : niceD o) (hd : D.dep o ≤ 19) (hw : wtD o ≤ 1000000) : sem (n + 21) 35 [.val w.D, .val o] = .exc "InvalidWides" o [.val w.D, .val o] :=
  called_no2 (sem (n + 20)) w.D o (S_wide (n + 15) w hg hs) (hb (n + 16)) (S_anew 19 _ o hn hd hw (by omega))
theorem X_name (n : Nat) {d : Dv.D} (h : NoName d) : sem (n + 6) 33 [.val d] = .exc "InvalidName" d [.val d] := need_name_no (sem (n + 5)) d (h.1 (n + 4)) (S_anew 1 _ d h.2.1 h.2.2.1 (by have := h.2.2.2; omega) (by omega))
theorem S_needn (n : Nat) (x : Str) (h : x ∈ gn) : Pu (sem (n + 2) 33) [.val (.str x)] .non := need_name_ok (sem (n + 1)) _ (S_name n x h)
theorem X_fresh1 (n : Nat) {d : Dv.D} (o : Dv.D) (h : NoName d) : sem (n + 7) 36 [.val d, .val o] = .exc "InvalidName" d [.val d, .val o] := fresh_no1 (sem (n + 6)) d o d _ (X_name n h)
theorem X_fresh2 (n : Nat) (x : Str) (hx : x ∈ gn) {o : Dv.D} (hb : ∀ n, Bad (sem (n + 1) 3) o) (hn : niceD o) (hd : D.dep o ≤ 19) (hw : wtD o ≤ 1000000) : sem (n + 21) 36 [.val (.str x), .val o] = .exc "InvalidNames" o [.val (.str x), .val o] :=
  fresh_no2 (sem (n + 20)) (.str x) o (S_needn (n + 18) x hx) (hb (n + 19)) (S_anew 19 _ o hn hd hw (by omega))
theorem S_fresh (n : Nat) {l name : Str} (hl : l ∈ lts) (hg : name ∈ gn) (h0 : atD (.str name) (.int 0) = some (.val (.str l))) (ns : List Str) (hn : ns.length < 1000) (ht : ∀ x ∈ ns, x ∈ gn) (j : Nat) (hj : j ≤ 4) (h1 : ∀ i < j, cnd l i ∈ ns) (h2 : cnd l j ∉ ns) :
    Pu (sem (n + 3) 36) [.val (.str name), .val (.tup (ns.map .str))] (.str (cnd l j)) :=
  fresh_ok (sem (n + 2)) name ns _ hn (S_needn n name hg) (fun x hx => S_name (n + 1) x (ht x hx)) (fresh_in_ok (sem (n + 1)) (cand_ok l hl) h0 ns j hj h1 h2)
theorem T_prog (n : Nat) {d : Dv.D} (h : NoTree d) : Told (sem (n + 8) 1007) 4 d .non 0 d := by
  have e := X_spine n h
  refine caught_end (sem (n + 7)) 4 d .non d "InvalidProgram" 0 rfl (repr_nice h.2.1 (by have := h.2.2.1; omega) (by have := h.2.2.2; omega)) ?_
  simp_arith [e, R.bind_exc, kR_exc]
theorem T_prog0 (n : Nat) {d : Dv.D} (o : Dv.D) (h : NoTree d) : Told (sem (n + 8) 1007) 0 d o 0 d := by
  have e := X_called1 n o h
  refine caught_end (sem (n + 7)) 0 d o d "InvalidProgram" 0 rfl (repr_nice h.2.1 (by have := h.2.2.1; omega) (by have := h.2.2.2; omega)) ?_
  simp_arith [e, R.bind_exc, kR_exc]
theorem T_prog1 (n : Nat) {d : Dv.D} (o : Dv.D) (h : NoTree d) : Told (sem (n + 8) 1007) 1 d o 0 d := by
  have e := X_called1 n o h
  refine caught_end (sem (n + 7)) 1 d o d "InvalidProgram" 0 rfl (repr_nice h.2.1 (by have := h.2.2.1; omega) (by have := h.2.2.2; omega)) ?_
  simp_arith [sCallK, pickL, e, R.bind_exc, kR_exc]
theorem T_wides0 (n : Nat) (w : Wm) (hg : w.good) (hs : w.size < 1000) {o : Dv.D} (hb : ∀ n, Bad (sem (n + 4) 5) o) (hn : niceD o) (hd : D.dep o ≤ 19) (hw : wtD o ≤ 100000) : Told (sem (n + 22) 1007) 0 w.D o 1 o := by
  have e := X_called2 n w hg hs hb hn hd (by omega)
  refine caught_end (sem (n + 21)) 0 w.D o o "InvalidWides" 1 rfl (repr_nice hn (by omega) hw) ?_
  simp_arith [e, R.bind_exc, kR_exc]
theorem T_wides1 (n : Nat) (w : Wm) (hg : w.good) (hs : w.size < 1000) {o : Dv.D} (hb : ∀ n, Bad (sem (n + 4) 5) o) (hn : niceD o) (hd : D.dep o ≤ 19) (hw : wtD o ≤ 100000) : Told (sem (n + 22) 1007) 1 w.D o 1 o := by
  have e := X_called2 n w hg hs hb hn hd (by omega)
  refine caught_end (sem (n + 21)) 1 w.D o o "InvalidWides" 1 rfl (repr_nice hn (by omega) hw) ?_
  simp_arith [sCallK, pickL, e, R.bind_exc, kR_exc]
theorem T_name2 (n : Nat) {d : Dv.D} (o : Dv.D) (h : NoName d) : Told (sem (n + 8) 1007) 2 d o 2 d := by
  have e := X_fresh1 n o h
  refine caught_end (sem (n + 7)) 2 d o d "InvalidName" 2 rfl (repr_nice h.2.1 (by have := h.2.2.1; omega) (by have := h.2.2.2; omega)) ?_
  simp_arith [e, R.bind_exc, kR_exc]
theorem T_name3 (n : Nat) {d : Dv.D} (o : Dv.D) (h : NoName d) : Told (sem (n + 8) 1007) 3 d o 2 d := by
  have e := X_fresh1 n o h
  refine caught_end (sem (n + 7)) 3 d o d "InvalidName" 2 rfl (repr_nice h.2.1 (by have := h.2.2.1; omega) (by have := h.2.2.2; omega)) ?_
  simp_arith [sCallK, pickL, e, R.bind_exc, kR_exc]
theorem T_names2 (n : Nat) (x : Str) (hx : x ∈ gn) {o : Dv.D} (hb : ∀ n, Bad (sem (n + 1) 3) o) (hn : niceD o) (hd : D.dep o ≤ 19) (hw : wtD o ≤ 100000) : Told (sem (n + 22) 1007) 2 (.str x) o 3 o := by
  have e := X_fresh2 n x hx hb hn hd (by omega)
  refine caught_end (sem (n + 21)) 2 (.str x) o o "InvalidNames" 3 rfl (repr_nice hn (by omega) hw) ?_
  simp_arith [e, R.bind_exc, kR_exc]
theorem T_names3 (n : Nat) (x : Str) (hx : x ∈ gn) {o : Dv.D} (hb : ∀ n, Bad (sem (n + 1) 3) o) (hn : niceD o) (hd : D.dep o ≤ 19) (hw : wtD o ≤ 100000) : Told (sem (n + 22) 1007) 3 (.str x) o 3 o := by
  have e := X_fresh2 n x hx hb hn hd (by omega)
  refine caught_end (sem (n + 21)) 3 (.str x) o o "InvalidNames" 3 rfl (repr_nice hn (by omega) hw) ?_
  simp_arith [sCallK, pickL, e, R.bind_exc, kR_exc]
end K03
namespace K03
open PySem L2 Dv Pg
theorem at_pick {l : List Dv.D} {r : Int} (h0 : 0 ≤ r) (h1 : r < (l.length : Nat)) : ∃ d ∈ l, atD (.lst l) (.int r) = some (.val d) := by
  obtain ⟨k, rfl⟩ : ∃ k : Nat, r = (k : Nat) := ⟨r.toNat, by omega⟩
  have hk : k < l.length := by omega
  exact ⟨l[k], List.getElem_mem hk, at_lst (List.getElem?_eq_getElem hk)⟩
theorem two_same {d : Dv.D} (l2 : 2 ≤ LIM) : mulD (.lst [d]) (.int 2) = some (.own (.lst [d, d])) := mul_rep (z := d) (n := 2) l2
theorem told_py (k : Int) (s : Str) : D.isPy (.tup [.lst [.int k], .str s]) = true := rfl
theorem told_eq (k : Int) (s : Str) : eqvD (.tup [.lst [.int k], .str s]) (.tup [.lst [.int k], .str s]) = true := by
  unfold eqvD eqvL eqvL eqvL eqvD eqvL eqvL eqvD
  simp
theorem ne_told (k : Int) (s : Str) : neD (.tup [.lst [.int k], .str s]) (.tup [.lst [.int k], .str s]) = some (.val (.bl false)) := by
  have ok : eqOk (.tup [.lst [.int k], .str s]) (.tup [.lst [.int k], .str s]) = true := rfl
  unfold neD
  rw [if_pos ok, told_eq]; rfl
theorem two_eq (k : Int) (s : Str) : eqvD (.lst [.tup [.lst [.int k], .str s], .tup [.lst [.int k], .str s]]) (.lst [.tup [.lst [.int k], .str s], .tup [.lst [.int k], .str s]]) = true := by
  unfold eqvD eqvL eqvL eqvL
  rw [told_eq]; rfl
theorem ne_two (k : Int) (s : Str) : neD (.lst [.tup [.lst [.int k], .str s], .tup [.lst [.int k], .str s]]) (.lst [.tup [.lst [.int k], .str s], .tup [.lst [.int k], .str s]]) = some (.val (.bl false)) := by
  have ok : eqOk (.lst [.tup [.lst [.int k], .str s], .tup [.lst [.int k], .str s]]) (.lst [.tup [.lst [.int k], .str s], .tup [.lst [.int k], .str s]]) = true := rfl
  unfold neD
  rw [if_pos ok, two_eq]; rfl
theorem eq_two (k : Int) (s : Str) : eqD (.lst [.tup [.lst [.int k], .str s], .tup [.lst [.int k], .str s]]) (.lst [.tup [.lst [.int k], .str s], .tup [.lst [.int k], .str s]]) = some (.val (.bl true)) := by
  have ok : eqOk (.lst [.tup [.lst [.int k], .str s], .tup [.lst [.int k], .str s]]) (.lst [.tup [.lst [.int k], .str s], .tup [.lst [.int k], .str s]]) = true := rfl
  unfold eqD
  rw [if_pos ok, two_eq]
theorem range2 : rng1 [.int 2] = some [.int 0, .int 1] := rng1_nat (n := 2) (LIM_le (by decide))
theorem range24 : rng2 [.int 2, .int 4] = some [.int 2, .int 3] := by
  have h2 : inR 2 := inR_nat (n := 2) (LIM_le (by decide))
  have h4 : inR 4 := inR_nat (n := 4) (LIM_le (by decide))
  unfold rng2
  simp only
  rw [if_pos ⟨h2, h4⟩]
  rfl
theorem ask_two (F : Fn) (f : Ws) (e1 e2 : Dv.E) (w0 w1 : Int) (k : Int) (v one other : Dv.D) (s0 s1 s2 s3 s4 s5 s6 s7 : Slot) (hf : f [s0, s1, s2, s3, s4, s5, s6, s7, .un] = .ok [.int w0, .int w1] [s0, s1, s2, s3, s4, s5, s6, s7, .un]) (h1 : ∀ u, e1 [s0, s1, s2, s3, s4, s5, s6, s7, u] = .ok (.val one) [s0, s1, s2, s3, s4, s5, s6, s7, u]) (h2 : ∀ u, e2 [s0, s1, s2, s3, s4, s5, s6, s7, u] = .ok (.val other) [s0, s1, s2, s3, s4, s5, s6, s7, u]) (t0 : Told F w0 one other k v) (t1 : Told F w1 one other k v) :
    sLc f (gN 8) tYesT (sCall F [true, true, true] (aCons (sVar 8) (aCons e1 (aCons e2 aNil)))) [8] [s0, s1, s2, s3, s4, s5, s6, s7, .un] = .ok (.own (.lst [.tup [.lst [.int k], .str (shownD v)], .tup [.lst [.int k], .str (shownD v)]])) [s0, s1, s2, s3, s4, s5, s6, s7, .un] := by
  have q := lc_of (f := f) (g := gN 8) (t := tYesT) (e := sCall F [true, true, true] (aCons (sVar 8) (aCons e1 (aCons e2 aNil)))) (vs := [8]) (P := fun _ => true) (F := fun _ => .tup [.lst [.int k], .str (shownD v)]) (s := [s0, s1, s2, s3, s4, s5, s6, s7, .un]) (s1 := [s0, s1, s2, s3, s4, s5, s6, s7, .un]) (w := [s0, s1, s2, s3, s4, s5, s6, s7, .un]) (fin := [s0, s1, s2, s3, s4, s5, s6, s7, .un]) (ds := [.int w0, .int w1])
    hf rfl (LIM_le (n := 2) (by decide)) (fun d hd => by
      have a1 := h1 (.val d)
      have a2 := h2 (.val d)
      simp only [List.mem_cons, List.not_mem_nil, or_false] at hd
      have t : F [.val d, .val one, .val other] = .ret (.val (.tup [.lst [.int k], .str (shownD v)])) [.val d, .val one, .val other] := by
        rcases hd with rfl | rfl
        · exact t0
        · exact t1
      exact ⟨[s0, s1, s2, s3, s4, s5, s6, s7, .val d], [s0, s1, s2, s3, s4, s5, s6, s7, .val d], rfl, rfl, (fun z => nomatch z), fun _ => ⟨.val (.tup [.lst [.int k], .str (shownD v)]), [s0, s1, s2, s3, s4, s5, s6, s7, .val d], [s0, s1, s2, s3, s4, s5, s6, s7, .val d], by simp_arith [a1, a2, t], rfl, rfl⟩⟩) rfl
  exact q
theorem nice_lst {l : List Dv.D} (h : ∀ d ∈ l, niceD d) : niceD (.lst l) := by unfold niceD; exact niceL_all h
theorem nice_tup {l : List Dv.D} (h : ∀ d ∈ l, niceD d) : niceD (.tup l) := by unfold niceD; exact niceL_all h
theorem dep_lst {l : List Dv.D} {n : Nat} (h : ∀ d ∈ l, D.dep d ≤ n) : D.dep (.lst l) ≤ n + 1 := Nat.succ_le_succ (depAll_le h)
theorem dep_tup {l : List Dv.D} {n : Nat} (h : ∀ d ∈ l, D.dep d ≤ n) : D.dep (.tup l) ≤ n + 1 := Nat.succ_le_succ (depAll_le h)
theorem wt_lst {l : List Dv.D} {n : Nat} (h : ∀ d ∈ l, wtD d ≤ n) : wtD (.lst l) ≤ l.length * n + 1 := by
  rw [show wtD (.lst l) = wtL l + 1 from by unfold wtD; rfl]
  exact Nat.succ_le_succ (wtL_le h)
theorem wt_tup {l : List Dv.D} {n : Nat} (h : ∀ d ∈ l, wtD d ≤ n) : wtD (.tup l) ≤ l.length * n + 1 := by
  rw [show wtD (.tup l) = wtL l + 1 from by unfold wtD; rfl]
  exact Nat.succ_le_succ (wtL_le h)
structure RowOk (B : Dv.D → Prop) (d : Dv.D) : Prop where
  bad : B d
  nice : niceD d
  dep : D.dep d ≤ 19
  wt : wtD d ≤ 100000
theorem rows_ok (ws : List Wm) (hl : ws.length ≤ 10) (hw : ∀ w ∈ ws, Wm.good w ∧ w.size ≤ 100 ∧ w.deep ≤ 17) {bad : Dv.D} (hb : NoTree bad) :
    ∀ d ∈ [Dv.D.lst (ws.map Wm.D), .tup (ws.map Wm.D ++ [bad]), .tup (bad :: ws.map Wm.D), .tup [.str "name", .str "x"], .non], RowOk (fun d => ∀ n, Bad (sem (n + 4) 5) d) d := by
  have one : ∀ d ∈ ws.map Wm.D, niceD d ∧ D.dep d ≤ 17 ∧ wtD d ≤ 300 ∧ ∀ n, Pu (sem (n + 4) 5) [.val d] (.bl true) := fun d hd => by
    obtain ⟨w, hw', rfl⟩ := List.mem_map.mp hd
    obtain ⟨a, b, e⟩ := hw w hw'
    refine ⟨w.nice a, by rw [w.dep]; exact e, ?_, fun n => S_tree n w a (by omega)⟩
    have := w.wt
    omega
  have two : ∀ l : List Dv.D, (∀ d ∈ l, d = bad ∨ d ∈ ws.map Wm.D) → l.length ≤ 11 → bad ∈ l → RowOk (fun d => ∀ n, Bad (sem (n + 4) 5) d) (.tup l) := fun l h hl' hm => by
    have each : ∀ d ∈ l, niceD d ∧ D.dep d ≤ 17 ∧ wtD d ≤ 300 := fun d hd => by
      rcases h d hd with rfl | q
      · exact ⟨hb.2.1, by have := hb.2.2.1; omega, by have := hb.2.2.2; omega⟩
      · obtain ⟨a, b, e, _⟩ := one d q
        exact ⟨a, b, e⟩
    have ww := wt_tup fun d hd => (each d hd).2.2
    have : l.length * 300 ≤ 11 * 300 := Nat.mul_le_mul_right _ hl'
    exact ⟨fun n => bad_tup (by omega) (fun d hd => by
      rcases h d hd with rfl | q
      · exact .inr (hb.1 n)
      · exact .inl ((one d q).2.2.2 n)) ⟨bad, hm, hb.1 n⟩, nice_tup fun d hd => (each d hd).1, Nat.le_trans (dep_tup fun d hd => (each d hd).2.1) (by decide), by omega⟩
  intro d hd
  simp only [List.mem_cons, List.not_mem_nil, or_false] at hd
  rcases hd with rfl | rfl | rfl | rfl | rfl
  · have ww := wt_lst fun d hd => (one d hd).2.2.1
    have : (ws.map Wm.D).length * 300 ≤ 10 * 300 := Nat.mul_le_mul_right _ (by rw [List.length_map]; exact hl)
    exact ⟨fun n => .lst _, nice_lst fun d hd => (one d hd).1, Nat.le_trans (dep_lst fun d hd => (one d hd).2.1) (by decide), by omega⟩
  · refine two _ (fun d hd => ?_) (by rw [List.length_append, List.length_map, List.length_singleton]; omega) (by simp)
    rcases List.mem_append.mp hd with q | q
    · exact .inr q
    · exact .inl (List.mem_singleton.mp q)
  · refine two _ (fun d hd => ?_) (by rw [List.length_cons, List.length_map]; omega) List.mem_cons_self
    rcases List.mem_cons.mp hd with q | q
    · exact .inl q
    · exact .inr q
  · refine ⟨fun n => ?_, nice2 (nice_str (tag_leaf _ (by decide))) (nice_str (some_leaf _ (by decide +kernel))), by rw [dep2, dep_s, dep_s]; decide, by rw [wt2, wt_s, wt_s]; decide⟩
    have no : ∀ x : Str, Pu (sem (n + 4) 5) [.val (.str x)] (.bl false) := fun x => tree_no (sem (n + 3)) _ (node_no_str (sem (n + 2)) x)
    refine bad_tup (by decide) (fun d hd => ?_) ⟨.str "x", by simp, no "x"⟩
    simp only [List.mem_cons, List.not_mem_nil, or_false] at hd
    rcases hd with rfl | rfl
    · exact .inr (no _)
    · exact .inr (no _)
  · exact ⟨fun n => .non, nice_non, by decide, by decide⟩
theorem somes_ok (ns : List Str) (hl : ns.length ≤ 10) (hw : ∀ x ∈ ns, x ∈ gn) {name : Dv.D} (hb : NoName name) :
    ∀ d ∈ [Dv.D.lst (ns.map .str), .tup (ns.map .str ++ [name]), .tup (name :: ns.map .str), .str "xy", .non], RowOk (fun d => ∀ n, Bad (sem (n + 1) 3) d) d := by
  have one : ∀ d ∈ ns.map Dv.D.str, niceD d ∧ D.dep d ≤ 17 ∧ wtD d ≤ 300 ∧ ∀ n, Pu (sem (n + 1) 3) [.val d] (.bl true) := fun d hd => by
    obtain ⟨w, hw', rfl⟩ := List.mem_map.mp hd
    exact ⟨nice_str (gn_leaf _ (hw w hw')), by rw [dep_s]; decide, by rw [wt_s]; decide, fun n => S_name n w (hw w hw')⟩
  have two : ∀ l : List Dv.D, (∀ d ∈ l, d = name ∨ d ∈ ns.map Dv.D.str) → l.length ≤ 11 → name ∈ l → RowOk (fun d => ∀ n, Bad (sem (n + 1) 3) d) (.tup l) := fun l h hl' hm => by
    have each : ∀ d ∈ l, niceD d ∧ D.dep d ≤ 17 ∧ wtD d ≤ 300 := fun d hd => by
      rcases h d hd with rfl | q
      · exact ⟨hb.2.1, by have := hb.2.2.1; omega, by have := hb.2.2.2; omega⟩
      · obtain ⟨a, b, e, _⟩ := one d q
        exact ⟨a, b, e⟩
    have ww := wt_tup fun d hd => (each d hd).2.2
    have : l.length * 300 ≤ 11 * 300 := Nat.mul_le_mul_right _ hl'
    exact ⟨fun n => bad_tup (by omega) (fun d hd => by
      rcases h d hd with rfl | q
      · exact .inr (hb.1 n)
      · exact .inl ((one d q).2.2.2 n)) ⟨name, hm, hb.1 n⟩, nice_tup fun d hd => (each d hd).1, Nat.le_trans (dep_tup fun d hd => (each d hd).2.1) (by decide), by omega⟩
  intro d hd
  simp only [List.mem_cons, List.not_mem_nil, or_false] at hd
  rcases hd with rfl | rfl | rfl | rfl | rfl
  · have ww := wt_lst fun d hd => (one d hd).2.2.1
    have : (ns.map Dv.D.str).length * 300 ≤ 10 * 300 := Nat.mul_le_mul_right _ (by rw [List.length_map]; exact hl)
    exact ⟨fun n => .lst _, nice_lst fun d hd => (one d hd).1, Nat.le_trans (dep_lst fun d hd => (one d hd).2.1) (by decide), by omega⟩
  · refine two _ (fun d hd => ?_) (by rw [List.length_append, List.length_map, List.length_singleton]; omega) (by simp)
    rcases List.mem_append.mp hd with q | q
    · exact .inr q
    · exact .inl (List.mem_singleton.mp q)
  · refine two _ (fun d hd => ?_) (by rw [List.length_cons, List.length_map]; omega) List.mem_cons_self
    rcases List.mem_cons.mp hd with q | q
    · exact .inl q
    · exact .inr q
  · exact ⟨fun n => .str _, nice_str (some_leaf _ (by decide +kernel)), by rw [dep_s]; decide, by rw [wt_s]; decide⟩
  · exact ⟨fun n => .non, nice_non, by decide, by decide⟩
end K03
namespace K03
open PySem L2 Dv Pg
theorem add_tup {l m : List Dv.D} (h : l.length + m.length ≤ 16777216) : addD (.tup l) (.tup m) = some (.val (.tup (l ++ m))) := by
  show (if l.length + m.length ≤ LIM then some (Opd.val (.tup (l ++ m))) else none) = _
  rw [if_pos (LIM_le h)]
theorem refused_ok (n : Nat) (ht : TakeOk (sem (n + 22) 1003)) (ws : List Wm) (hl : ws.length ≤ 10) (hw : ∀ w ∈ ws, Wm.good w ∧ w.size ≤ 100 ∧ w.deep ≤ 17) (ns : List Str) (hnl : ns.length ≤ 10) (hns : ∀ x ∈ ns, x ∈ gn) (a b t : Int) (k : Nat) (S : Spr a b t k) (hk : k < 900000) :
    ∃ a' t' : Int, sem (n + 23) 1005 [.par (sprD a b t), .val (.tup (ws.map Wm.D)), .val (.tup (ns.map .str))] = .ret (.val (.bl true)) [.par (sprD a' b t'), .val (.tup (ws.map Wm.D)), .val (.tup (ns.map .str))] ∧ Spr a' b t' (k + 4) := by
  have l1 : (1 : Nat) ≤ LIM := LIM_le (by decide)
  have l2 : (2 : Nat) ≤ LIM := LIM_le (by decide)
  have l3 : (3 : Nat) ≤ LIM := LIM_le (by decide)
  have l5 : (5 : Nat) ≤ LIM := LIM_le (by decide)
  have l7 : (7 : Nat) ≤ LIM := LIM_le (by decide)
  obtain ⟨r1, a1, t1, e1, r10, r11, S1⟩ := ht a b t k 5 S (by omega) (by decide) (by decide)
  obtain ⟨r2, a2, t2, e2, r20, r21, S2⟩ := ht a1 b t1 _ 5 S1 (by omega) (by decide) (by decide)
  obtain ⟨r3, a3, t3, e3, r30, r31, S3⟩ := ht a2 b t2 _ 7 S2 (by omega) (by decide) (by decide)
  obtain ⟨r4, a4, t4, e4, r40, r41, S4⟩ := ht a3 b t3 _ 5 S3 (by omega) (by decide) (by decide)
  obtain ⟨bad, hbad, f1⟩ := at_pick (l := bads) r10 (by rw [show bads.length = 5 from rfl]; exact r11)
  have nb := bads_no bad hbad
  obtain ⟨row, hrow, f2⟩ := at_pick (l := [Dv.D.lst (ws.map Wm.D), .tup (ws.map Wm.D ++ [bad]), .tup (bad :: ws.map Wm.D), .tup [.str "name", .str "x"], .non]) r20 r21
  have nr := rows_ok ws hl hw nb row hrow
  obtain ⟨name, hname, f3⟩ := at_pick (l := badn) r30 (by rw [show badn.length = 7 from rfl]; exact r31)
  have nn := badn_no name hname
  obtain ⟨so, hso, f4⟩ := at_pick (l := [Dv.D.lst (ns.map .str), .tup (ns.map .str ++ [name]), .tup (name :: ns.map .str), .str "xy", .non]) r40 r41
  have nso := somes_ok ns hnl hns nn so hso
  have ad1 := add_tup (l := ws.map Wm.D) (m := [bad]) (by rw [List.length_map, List.length_singleton]; omega)
  have ad2 := add_tup (l := [bad]) (m := ws.map Wm.D) (by rw [List.length_map, List.length_singleton]; omega)
  have ad3 := add_tup (l := ns.map Dv.D.str) (m := [name]) (by rw [List.length_map, List.length_singleton]; omega)
  have ad4 := add_tup (l := [name]) (m := ns.map Dv.D.str) (by rw [List.length_map, List.length_singleton]; omega)
  rw [List.singleton_append] at ad2 ad4
  have li1 : listD [.tup (ws.map Wm.D)] = some (.own (.lst (ws.map Wm.D))) := rfl
  have li2 : listD [.tup (ns.map Dv.D.str)] = some (.own (.lst (ns.map .str))) := rfl
  -- what is caught
  have wx : (Wm.nm "x").good := by show ("x" : Str) ∈ gn; decide
  have T0 := T_prog (n + 14) nb
  have T1 := T_prog0 (n + 14) row nb
  have T2 := T_prog1 (n + 14) row nb
  have T3 := T_wides0 n (.nm "x") wx (by decide) nr.bad nr.nice nr.dep nr.wt
  have T4 := T_wides1 n (.nm "x") wx (by decide) nr.bad nr.nice nr.dep nr.wt
  have T5 := T_name2 (n + 14) so nn
  have T6 := T_name3 (n + 14) so nn
  have T7 := T_names2 n ("x" : Str) (by decide) nso.bad nso.nice nso.dep nso.wt
  have T8 := T_names3 n ("x" : Str) (by decide) nso.bad nso.nice nso.dep nso.wt
  have rp1 := repr_nice nb.2.1 (by have := nb.2.2.1; omega) (by have := nb.2.2.2; omega)
  have rp2 := repr_nice nr.nice (by have := nr.dep; omega) nr.wt
  have rp3 := repr_nice nn.2.1 (by have := nn.2.2.1; omega) (by have := nn.2.2.2; omega)
  have rp4 := repr_nice nso.nice (by have := nso.dep; omega) nso.wt
  have T0 : sem (n + 22) 1007 [.val (.int 4), .val bad, .val .non] = .ret (.val (.tup [.lst [.int 0], .str (shownD bad)])) [.val (.int 4), .val bad, .val .non] := T0
  refine ⟨a4, t4, ?_, S4⟩
  rw [show sem (n + 23) 1005 = run 3 9 (b_law_refused (sem (n + 22))) from sem_law_refused]
  generalize hc : sem (n + 22) = c at *
  generalize hW : ws.map Wm.D = W at *
  generalize hN : ns.map Dv.D.str = N at *
  generalize hst : [Slot.par (sprD a4 b t4), .val (.tup W), .val (.tup N), .val (.tup [.str "name", .str "x"]), .val bad, .val row, .val name, .val so, .un] = fin
  refine run_val rfl (s := fin) ?_ (by rw [← hst]; rfl)
  unfold b_law_refused
  have g1 : sAsg 3 (sTup (aCons (sC (.str "name")) (aCons (sC (.str "x")) aNil))) ([Slot.par (sprD a b t), .val (.tup W), .val (.tup N)] ++ List.replicate (9 - 3) .un) = .nxt [.par (sprD a b t), .val (.tup W), .val (.tup N), .val (.tup [.str "name", .str "x"]), .un, .un, .un, .un, .un] := by
    simp_arith [l2]
  have g2 : sAsg 4 (sOp2 atD (sLst (aCons (sC .non) (aCons (sTup (aCons (sC (.str "at")) (aCons (sOp1 negD (sC (.int 1))) aNil))) (aCons (sTup (aCons (sC (.str "name")) (aCons (sC (.str "x")) (aCons (sC (.str "y")) aNil)))) (aCons (sC (.str "x")) (aCons (sTup (aCons (sC (.str "fn")) (aCons (sC (.str "x")) aNil))) aNil)))))) (sCall (c 1003) [true, true] (aCons (sVar 0) (aCons (sC (.int 5)) aNil)))) [.par (sprD a b t), .val (.tup W), .val (.tup N), .val (.tup [.str "name", .str "x"]), .un, .un, .un, .un, .un] = .nxt [.par (sprD a1 b t1), .val (.tup W), .val (.tup N), .val (.tup [.str "name", .str "x"]), .val bad, .un, .un, .un, .un] := by
    unfold bads at f1
    simp_arith [l2, l3, l5, Int.reduceNeg, e1, f1]
  have g3 : sAsg 5 (sOp2 atD (sLst (aCons (sCB listD (aCons (sVar 1) aNil)) (aCons (sOp2 addD (sVar 1) (sTup (aCons (sVar 4) aNil))) (aCons (sOp2 addD (sTup (aCons (sVar 4) aNil)) (sVar 1)) (aCons (sVar 3) (aCons (sC .non) aNil)))))) (sCall (c 1003) [true, true] (aCons (sVar 0) (aCons (sC (.int 5)) aNil)))) [.par (sprD a1 b t1), .val (.tup W), .val (.tup N), .val (.tup [.str "name", .str "x"]), .val bad, .un, .un, .un, .un] = .nxt [.par (sprD a2 b t2), .val (.tup W), .val (.tup N), .val (.tup [.str "name", .str "x"]), .val bad, .val row, .un, .un, .un] := by
    simp_arith [l1, l5, li1, ad1, ad2, e2, f2]
  have g4 : sAsg 6 (sOp2 atD (sLst (aCons (sC (.str "")) (aCons (sC (.str "X")) (aCons (sC (.str "x01")) (aCons (sC .non) (aCons (sC (.int 7)) (aCons (sTup (aCons (sC (.str "x")) aNil)) (aCons (sC (.str "fn")) aNil)))))))) (sCall (c 1003) [true, true] (aCons (sVar 0) (aCons (sC (.int 7)) aNil)))) [.par (sprD a2 b t2), .val (.tup W), .val (.tup N), .val (.tup [.str "name", .str "x"]), .val bad, .val row, .un, .un, .un] = .nxt [.par (sprD a3 b t3), .val (.tup W), .val (.tup N), .val (.tup [.str "name", .str "x"]), .val bad, .val row, .val name, .un, .un] := by
    unfold badn at f3
    simp_arith [l1, l7, e3, f3]
  have g5 : sAsg 7 (sOp2 atD (sLst (aCons (sCB listD (aCons (sVar 2) aNil)) (aCons (sOp2 addD (sVar 2) (sTup (aCons (sVar 6) aNil))) (aCons (sOp2 addD (sTup (aCons (sVar 6) aNil)) (sVar 2)) (aCons (sC (.str "xy")) (aCons (sC .non) aNil)))))) (sCall (c 1003) [true, true] (aCons (sVar 0) (aCons (sC (.int 5)) aNil)))) [.par (sprD a3 b t3), .val (.tup W), .val (.tup N), .val (.tup [.str "name", .str "x"]), .val bad, .val row, .val name, .un, .un] = .nxt fin := by
    rw [← hst]
    simp_arith [l1, l5, li2, ad3, ad4, e4, f4]
  have g6 : sIfS (tB (sOp2 neD (sCall (c 1007) [true, true, true] (aCons (sC (.int 4)) (aCons (sVar 4) (aCons (sC .non) aNil)))) (sTup (aCons (sLst (aCons (sC (.int 0)) aNil)) (aCons (sCB reprD (aCons (sVar 4) aNil)) aNil))))) (sRet (sC (.bl false))) sSkip fin = .nxt fin := by
    have ne := ne_told 0 (shownD bad)
    rw [← hst]
    simp_arith [T0, l1, l2, rp1, ne]
  have r2 := range2
  have r24 := range24
  have m2 : ∀ d : Dv.D, mulD (.lst [d]) (.int 2) = some (.own (.lst [d, d])) := fun d => two_same l2
  have g7 : sIfS (tB (sOp2 neD (sLc (wArgs rng1 (aCons (sC (.int 2)) aNil)) (gN 8) tYesT (sCall (c 1007) [true, true, true] (aCons (sVar 8) (aCons (sVar 4) (aCons (sVar 5) aNil)))) [8]) (sOp2 mulD (sLst (aCons (sTup (aCons (sLst (aCons (sC (.int 0)) aNil)) (aCons (sCB reprD (aCons (sVar 4) aNil)) aNil))) aNil)) (sC (.int 2))))) (sRet (sC (.bl false))) sSkip fin = .nxt fin := by
    have q := ask_two (c 1007) (wArgs rng1 (aCons (sC (.int 2)) aNil)) (sVar 4) (sVar 5) 0 1 0 bad bad row (.par (sprD a4 b t4)) (.val (.tup W)) (.val (.tup N)) (.val (.tup [.str "name", .str "x"])) (.val bad) (.val row) (.val name) (.val so) (by simp_arith [r2]) (fun u => by simp_arith []) (fun u => by simp_arith []) T1 T2
    rw [hst] at q
    have ne := ne_two 0 (shownD bad)
    have m := m2 (.tup [.lst [.int 0], .str (shownD bad)])
    have v4 : sVar 4 fin = .ok (.val bad) fin := by rw [← hst]; simp_arith []
    simp only [sIfS, Dv.tB, sOp2, q, sCB, aCons, aNil, sTup, sLst, sC, v4, R.bind_ok, takeAll, takeO, peekAll, peek, Option.bind_some, rp1, okO_some, List.length_cons, List.length_nil, Nat.reduceAdd, l1, l2, if_true, op2, m, ne, dB, kR_ok, Bool.false_eq_true, if_false, sSkip]
  have g8 : sIfS (tB (sOp2 neD (sLc (wArgs rng1 (aCons (sC (.int 2)) aNil)) (gN 8) tYesT (sCall (c 1007) [true, true, true] (aCons (sVar 8) (aCons (sVar 3) (aCons (sVar 5) aNil)))) [8]) (sOp2 mulD (sLst (aCons (sTup (aCons (sLst (aCons (sC (.int 1)) aNil)) (aCons (sCB reprD (aCons (sVar 5) aNil)) aNil))) aNil)) (sC (.int 2))))) (sRet (sC (.bl false))) sSkip fin = .nxt fin := by
    have q := ask_two (c 1007) (wArgs rng1 (aCons (sC (.int 2)) aNil)) (sVar 3) (sVar 5) 0 1 1 row (.tup [.str "name", .str "x"]) row (.par (sprD a4 b t4)) (.val (.tup W)) (.val (.tup N)) (.val (.tup [.str "name", .str "x"])) (.val bad) (.val row) (.val name) (.val so) (by simp_arith [r2]) (fun u => by simp_arith []) (fun u => by simp_arith []) T3 T4
    rw [hst] at q
    have ne := ne_two 1 (shownD row)
    have m := m2 (.tup [.lst [.int 1], .str (shownD row)])
    have v5 : sVar 5 fin = .ok (.val row) fin := by rw [← hst]; simp_arith []
    simp only [sIfS, Dv.tB, sOp2, q, sCB, aCons, aNil, sTup, sLst, sC, v5, R.bind_ok, takeAll, takeO, peekAll, peek, Option.bind_some, rp2, okO_some, List.length_cons, List.length_nil, Nat.reduceAdd, l1, l2, if_true, op2, m, ne, dB, kR_ok, Bool.false_eq_true, if_false, sSkip]
  have g9 : sIfS (tB (sOp2 neD (sLc (wArgs rng2 (aCons (sC (.int 2)) (aCons (sC (.int 4)) aNil))) (gN 8) tYesT (sCall (c 1007) [true, true, true] (aCons (sVar 8) (aCons (sVar 6) (aCons (sVar 7) aNil)))) [8]) (sOp2 mulD (sLst (aCons (sTup (aCons (sLst (aCons (sC (.int 2)) aNil)) (aCons (sCB reprD (aCons (sVar 6) aNil)) aNil))) aNil)) (sC (.int 2))))) (sRet (sC (.bl false))) sSkip fin = .nxt fin := by
    have q := ask_two (c 1007) (wArgs rng2 (aCons (sC (.int 2)) (aCons (sC (.int 4)) aNil))) (sVar 6) (sVar 7) 2 3 2 name name so (.par (sprD a4 b t4)) (.val (.tup W)) (.val (.tup N)) (.val (.tup [.str "name", .str "x"])) (.val bad) (.val row) (.val name) (.val so) (by simp_arith [r24]) (fun u => by simp_arith []) (fun u => by simp_arith []) T5 T6
    rw [hst] at q
    have ne := ne_two 2 (shownD name)
    have m := m2 (.tup [.lst [.int 2], .str (shownD name)])
    have v6 : sVar 6 fin = .ok (.val name) fin := by rw [← hst]; simp_arith []
    simp only [sIfS, Dv.tB, sOp2, q, sCB, aCons, aNil, sTup, sLst, sC, v6, R.bind_ok, takeAll, takeO, peekAll, peek, Option.bind_some, rp3, okO_some, List.length_cons, List.length_nil, Nat.reduceAdd, l1, l2, if_true, op2, m, ne, dB, kR_ok, Bool.false_eq_true, if_false, sSkip]
  have g10 : sRet (sOp2 eqD (sLc (wArgs rng2 (aCons (sC (.int 2)) (aCons (sC (.int 4)) aNil))) (gN 8) tYesT (sCall (c 1007) [true, true, true] (aCons (sVar 8) (aCons (sC (.str "x")) (aCons (sVar 7) aNil)))) [8]) (sOp2 mulD (sLst (aCons (sTup (aCons (sLst (aCons (sC (.int 3)) aNil)) (aCons (sCB reprD (aCons (sVar 7) aNil)) aNil))) aNil)) (sC (.int 2)))) fin = .ret (.val (.bl true)) fin := by
    have q := ask_two (c 1007) (wArgs rng2 (aCons (sC (.int 2)) (aCons (sC (.int 4)) aNil))) (sC (.str "x")) (sVar 7) 2 3 3 so (.str "x") so (.par (sprD a4 b t4)) (.val (.tup W)) (.val (.tup N)) (.val (.tup [.str "name", .str "x"])) (.val bad) (.val row) (.val name) (.val so) (by simp_arith [r24]) (fun u => by simp_arith []) (fun u => by simp_arith []) T7 T8
    rw [hst] at q
    have ne := eq_two 3 (shownD so)
    have m := m2 (.tup [.lst [.int 3], .str (shownD so)])
    have v7 : sVar 7 fin = .ok (.val so) fin := by rw [← hst]; simp_arith []
    simp only [sRet, sOp2, q, sCB, aCons, aNil, sTup, sLst, sC, v7, R.bind_ok, takeAll, takeO, peekAll, peek, Option.bind_some, rp4, okO_some, List.length_cons, List.length_nil, Nat.reduceAdd, l1, l2, if_true, op2, m, ne, kR_ok]
  exact (seq_nxt g1).trans ((seq_nxt g2).trans ((seq_nxt g3).trans ((seq_nxt g4).trans ((seq_nxt g5).trans ((seq_nxt g6).trans ((seq_nxt g7).trans ((seq_nxt g8).trans ((seq_nxt g9).trans g10))))))))
end K03
namespace K03
open PySem L2 Dv Pg
def six : List Str := ["x", "x1", "x7", "y", "z2", "f"]
theorem six_ok : ∀ x ∈ six, x ∈ gn ∧ ∃ l ∈ lts, atD (.str x) (.int 0) = some (.val (.str l)) := by
  intro x hx
  refine ⟨(by decide +kernel : ∀ x ∈ six, x ∈ gn) x hx, ?_⟩
  unfold six at hx
  simp only [List.mem_cons, List.not_mem_nil, or_false] at hx
  rcases hx with rfl | rfl | rfl | rfl | rfl | rfl
  · exact ⟨"x", by decide +kernel, at_str (k := 120) (by decide) (by decide)⟩
  · exact ⟨"x", by decide +kernel, at_str (k := 120) (by decide) (by decide)⟩
  · exact ⟨"x", by decide +kernel, at_str (k := 120) (by decide) (by decide)⟩
  · exact ⟨"y", by decide +kernel, at_str (k := 121) (by decide) (by decide)⟩
  · exact ⟨"z", by decide +kernel, at_str (k := 122) (by decide) (by decide)⟩
  · exact ⟨"f", by decide +kernel, at_str (k := 102) (by decide) (by decide)⟩
theorem fresh_right_ok (n : Nat) (ht : TakeOk (sem (n + 22) 1003)) (W : Dv.D) (ns : List Str) (hnl : ns.length ≤ 10) (hns : ∀ x ∈ ns, x ∈ ten) (a b t : Int) (k : Nat) (S : Spr a b t k) (hk : k < 900000) :
    ∃ a' t' : Int, sem (n + 23) 1006 [.par (sprD a b t), .val (.tup (ns.map .str))] = .ret (.val (.bl true)) [.par (sprD a' b t'), .val (.tup (ns.map .str))] ∧ Spr a' b t' (k + 1) := by
  have l2 : (2 : Nat) ≤ LIM := LIM_le (by decide)
  have l6 : (6 : Nat) ≤ LIM := LIM_le (by decide)
  obtain ⟨r1, a1, t1, e1, r10, r11, S1⟩ := ht a b t k 6 S (by omega) (by decide) (by decide)
  obtain ⟨d, hd, f1⟩ := at_pick (l := six.map Dv.D.str) r10 (by rw [show (six.map Dv.D.str).length = 6 from rfl]; exact r11)
  obtain ⟨name, hn, rfl⟩ := List.mem_map.mp hd
  obtain ⟨hg, l, hl, h0⟩ := six_ok name hn
  obtain ⟨j, hj, hjn, h1, h2⟩ := cand_least l hl ns hns
  have due : sem (n + 22) 1008 [.val (.str name), .val (.lst (ns.map .str))] = .ret (.val (.str (cnd l j))) [.val (.str name), .val (.lst (ns.map .str))] := law_fresh_ok (sem (n + 21)) (cand_ok l hl) h0 ns (by omega) j hj hjn h1 h2
  have fr : sem (n + 22) 36 [.val (.str name), .val (.tup (ns.map .str))] = .ret (.val (.str (cnd l j))) [.val (.str name), .val (.tup (ns.map .str))] := S_fresh (n + 19) hl hg h0 ns (by omega) (fun x hx => ten_gn x (hns x hx)) j hj h1 h2
  have nr := nice_str (cand_leaf l hl j hj)
  have rp := repr_nice (d := .lst [.str (cnd l j), .str (cnd l j)]) (nice_lst fun d hd => by
    simp only [List.mem_cons, List.not_mem_nil, or_false, or_self] at hd
    subst hd; exact nr) (by show 1 ≤ 100; decide) (by show 3 ≤ 100000; decide)
  have li : listD [.tup (ns.map Dv.D.str)] = some (.own (.lst (ns.map .str))) := rfl
  have f1 : atD (.lst [.str "x", .str "x1", .str "x7", .str "y", .str "z2", .str "f"]) (.int r1) = some (.val (.str name)) := f1
  refine ⟨a1, t1, ?_, S1⟩
  rw [show sem (n + 23) 1006 = run 2 4 (b_law_fresh_right (sem (n + 22))) from sem_law_fresh_right]
  generalize hc : sem (n + 22) = c at *
  generalize hN : ns.map Dv.D.str = N at *
  generalize cnd l j = r at *
  refine run_val rfl (s := [.par (sprD a1 b t1), .val (.tup N), .val (.str name), .val (.str r)]) ?_ rfl
  unfold b_law_fresh_right
  have g1 : sAsg 2 (sOp2 atD (sLst (aCons (sC (.str "x")) (aCons (sC (.str "x1")) (aCons (sC (.str "x7")) (aCons (sC (.str "y")) (aCons (sC (.str "z2")) (aCons (sC (.str "f")) aNil))))))) (sCall (c 1003) [true, true] (aCons (sVar 0) (aCons (sC (.int 6)) aNil)))) ([Slot.par (sprD a b t), .val (.tup N)] ++ List.replicate (4 - 2) .un) = .nxt [.par (sprD a1 b t1), .val (.tup N), .val (.str name), .un] := by
    simp_arith [l6, e1, f1]
  have g2 : sAsg 3 (sCall (c 1008) [true, true] (aCons (sVar 2) (aCons (sCB listD (aCons (sVar 1) aNil)) aNil))) [.par (sprD a1 b t1), .val (.tup N), .val (.str name), .un] = .nxt [.par (sprD a1 b t1), .val (.tup N), .val (.str name), .val (.str r)] := by
    simp_arith [li, due]
  refine (seq_nxt g1).trans ((seq_nxt g2).trans ?_)
  simp_arith [sCallK, pickL, fr, l2, rp]
def heads : List Wm := [.nm "x", .pl 3, .fn "y" (.ca (.nm "y") (.nm "x")), .nm "l4"]
theorem heads_ok : ∀ h ∈ heads, h.good ∧ h.size ≤ 4 ∧ h.isCall = false := by
  intro h hh
  unfold heads at hh
  simp only [List.mem_cons, List.not_mem_nil, or_false] at hh
  have gx : ("x" : Str) ∈ gn := by decide
  have gy : ("y" : Str) ∈ gn := by decide
  have gl : ("l4" : Str) ∈ gn := by decide
  rcases hh with rfl | rfl | rfl | rfl
  · exact ⟨gx, by decide, rfl⟩
  · exact ⟨show 3 ≤ 9 by decide, by decide, rfl⟩
  · exact ⟨⟨gy, gy, gx⟩, by decide, rfl⟩
  · exact ⟨gl, by decide, rfl⟩
theorem calls_good : ∀ (ws : List Wm) (h : Wm), h.good → (∀ w ∈ ws, Wm.good w) → (calls h ws).good
  | [], h, g, _ => g
  | a :: ws, h, g, gs => calls_good ws (.ca h a) ⟨g, gs a List.mem_cons_self⟩ fun w hw => gs w (List.mem_cons_of_mem _ hw)
theorem calls_size (m : Nat) : ∀ (ws : List Wm) (h : Wm), (∀ w ∈ ws, w.size ≤ m) → (calls h ws).size ≤ h.size + ws.length * (m + 1)
  | [], h, _ => Nat.le_add_right _ _
  | a :: ws, h, hs => by
    have := calls_size m ws (.ca h a) fun w hw => hs w (List.mem_cons_of_mem _ hw)
    have ha := hs a List.mem_cons_self
    rw [show calls h (a :: ws) = calls (.ca h a) ws from rfl, List.length_cons, Nat.succ_mul]
    rw [show (Wm.ca h a).size = h.size + a.size + 1 from rfl] at this
    omega
structure Ws (ws : List Wm) : Prop where
  all : ∀ w ∈ ws, Wm.good w ∧ w.size ≤ 6
def GrowC (F : Fn) : Prop := GrownOk F 6
theorem S_take (n : Nat) : TakeOk (sem (n + 1) 1003) := take_ok (sem n)
theorem S_grown : ∀ n : Nat, GrownOk (sem (n + 2) 1004) n
  | 0 => grown_zero _
  | n + 1 => grown_ok (sem (n + 2)) n (S_take (n + 1)) (S_grown n)
theorem xyz_gn : ∀ x ∈ xyz, x ∈ gn := by decide +kernel
theorem good_of : ∀ w : Wm, (∀ x ∈ w.names, x ∈ xyz) → w.pure → w.good
  | .nm x, h, _ => xyz_gn x (h x List.mem_cons_self)
  | .fn x b, h, p => ⟨xyz_gn x (h x List.mem_cons_self), good_of b (fun y hy => h y (List.mem_cons_of_mem _ hy)) p⟩
  | .ca f a, h, p => ⟨good_of f (fun y hy => h y (List.mem_append_left _ hy)) p.1, good_of a (fun y hy => h y (List.mem_append_right _ hy)) p.2⟩
end K03
namespace K03
open PySem L2 Dv Pg
theorem S_grown' (n : Nat) : GrownOk (sem (n + 23) 1004) 6 := fun many h1 h2 => S_grown (n + 21) many h1 (by omega)
theorem wides_loop (n : Nat) (h : Slot) (a b t : Int) (k r : Nat) (S : Spr a b t k) (hk : k < 800000) (hr : r ≤ 6) :
    ∃ (ws : List Wm) (a' t' : Int) (u : Slot), forL b_law_right_g1 (b_law_right_b1 (sem (n + 23))) ((List.range r).map fun i => Dv.D.int (i : Nat)) [.par (sprD a b t), h, .own (.lst []), .un, .un, .un, .un, .un, .un] = .nxt [.par (sprD a' b t'), h, .own (.lst (ws.map Wm.D)), u, .un, .un, .un, .un, .un] ∧ ws.length = r ∧ Ws ws ∧ Spr a' b t' (k + 20 * r) := by
  have ht := S_take (n + 22)
  have hg := S_grown' n
  generalize hc : sem (n + 23) = c at *
  have l2 : (2 : Nat) ≤ LIM := LIM_le (by decide)
  have l3 : (3 : Nat) ≤ LIM := LIM_le (by decide)
  obtain ⟨s', e, ws, a', t', u, rfl, hl, hw, S'⟩ := for_list (g := b_law_right_g1) (b := b_law_right_b1 c) (fun i s => ∃ (ws : List Wm) (a' t' : Int) (u : Slot), s = [.par (sprD a' b t'), h, .own (.lst (ws.map Wm.D)), u, .un, .un, .un, .un, .un] ∧ ws.length = i ∧ Ws ws ∧ Spr a' b t' (k + 20 * i)) (ds := (List.range r).map fun i => Dv.D.int (i : Nat)) (s := [.par (sprD a b t), h, .own (.lst []), .un, .un, .un, .un, .un, .un]) 0 (fun i hi s ⟨ws, a1, t1, u, es, hl, hw, S1⟩ => by
    subst es
    rw [List.length_map, List.length_range] at hi
    rw [Nat.zero_add] at hl S1
    have gi : ((List.range r).map fun i => Dv.D.int (i : Nat))[i] = .int (i : Nat) := by rw [List.getElem_map, List.getElem_range]
    obtain ⟨r1, a2, t2, e1, r10, r11, S2⟩ := ht a1 b t1 _ 4 S1 (by omega) (by decide) (by decide)
    have hap : ∀ w : Wm, fAppend (.lst (ws.map Wm.D)) [w.D] = some (.lst (ws.map Wm.D ++ [w.D]), .non) := fun w => append_ok (by
      have : (100 : Nat) ≤ LIM := LIM_le (by decide)
      rw [List.length_map]; omega)
    by_cases h0 : r1 = 0
    · refine ⟨_, [.par (sprD a2 b t2), h, .own (.lst ((ws ++ [Wm.pl i]).map Wm.D)), .val (.int (i : Nat)), .un, .un, .un, .un, .un], rfl, ?_, ws ++ [Wm.pl i], a2, t2, _, rfl, by rw [List.length_append, List.length_singleton]; omega, ⟨fun w hw' => ?_⟩, S2.more (by omega)⟩
      · have ap := hap (Wm.pl i)
        rw [List.map_append, List.map_singleton]
        have hb : (r1 == 0) = true := beqT h0
        rw [gi]
        generalize ws.map Wm.D = W at *
        rw [show (Wm.pl i).D = .tup [.str "at", .int (i : Nat)] from rfl] at ap ⊢
        unfold b_law_right_b1
        simp_arith [e1, hb, l2, ap]
      · rcases List.mem_append.mp hw' with q | q
        · exact hw.all w q
        · rw [List.mem_singleton.mp q]
          exact ⟨show i ≤ 9 by omega, by show 1 ≤ 6; decide⟩
    · obtain ⟨r2, a3, t3, e2, r20, r21, S3⟩ := ht a2 b t2 _ 6 S2 (by omega) (by decide) (by decide)
      obtain ⟨m, hm⟩ : ∃ m : Nat, (1 : Int) + r2 = (m : Nat) := ⟨(1 + r2).toNat, by omega⟩
      obtain ⟨w, a4, t4, e3, hw1, hw2, S4⟩ := hg m (by omega) (by omega) a3 b t3 _ S3 (by omega)
      refine ⟨_, [.par (sprD a4 b t4), h, .own (.lst ((ws ++ [w]).map Wm.D)), .val (.int (i : Nat)), .un, .un, .un, .un, .un], rfl, ?_, ws ++ [w], a4, t4, _, rfl, by rw [List.length_append, List.length_singleton]; omega, ⟨fun w' hw' => ?_⟩, S4.more (by omega)⟩
      · have ap := hap w
        rw [List.map_append, List.map_singleton]
        have hb : (r1 == 0) = false := beqF h0
        rw [gi]
        unfold xyzD at e3
        generalize ws.map Wm.D = W at *
        generalize w.D = wd at *
        unfold b_law_right_b1
        simp_arith [e1, hb, e2, hm, l3, e3, ap]
      · rcases List.mem_append.mp hw' with q | q
        · exact hw.all w' q
        · rw [List.mem_singleton.mp q]
          exact ⟨good_of w hw2.1 hw2.2, by omega⟩)
    ⟨[], a, t, .un, rfl, rfl, ⟨fun w hw => nomatch hw⟩, S⟩
  rw [List.length_map, List.length_range, Nat.zero_add] at hl S'
  exact ⟨ws, a', t', u, e, hl, hw, S'⟩
theorem whole_loop (c : Nat → Fn) (p h v u6 u7 u8 : Slot) (u3 : Slot) : ∀ (ws : List Wm) (w : Wm) (u5 : Slot), ∃ u', forL b_law_right_g2 (b_law_right_b2 c) (ws.map Wm.D) [p, h, v, u3, .val w.D, u5, u6, u7, u8] = .nxt [p, h, v, u3, .val (calls w ws).D, u', u6, u7, u8]
  | [], w, u5 => ⟨u5, rfl⟩
  | a :: ws, w, u5 => by
    obtain ⟨u', e⟩ := whole_loop c p h v u6 u7 u8 u3 ws (.ca w a) (.val a.D)
    have l3 : (3 : Nat) ≤ LIM := LIM_le (by decide)
    refine ⟨u', ?_⟩
    rw [List.map_cons]
    refine (forL_cons (s1 := [p, h, v, u3, .val w.D, .val a.D, u6, u7, u8]) rfl (s2 := [p, h, v, u3, .val (Wm.ca w a).D, .val a.D, u6, u7, u8]) ?_).trans e
    unfold b_law_right_b2
    rw [show (Wm.ca w a).D = .tup [.str "call", w.D, a.D] from rfl]
    simp_arith [l3]
theorem names_loop (n : Nat) (s1 s2 s4 s5 s6 s7 u : Slot) (a b t : Int) (k r : Nat) (S : Spr a b t k) (hk : k < 800000) (hr : r ≤ 6) :
    ∃ (ns : List Str) (a' t' : Int) (u' : Slot), forL b_law_right_g3 (b_law_right_b3 (sem (n + 23))) ((List.range r).map fun i => Dv.D.int (i : Nat)) [.par (sprD a b t), s1, s2, u, s4, s5, s6, s7, .own (.lst [])] = .nxt [.par (sprD a' b t'), s1, s2, u', s4, s5, s6, s7, .own (.lst (ns.map .str))] ∧ ns.length = r ∧ (∀ x ∈ ns, x ∈ ten) ∧ Spr a' b t' (k + r) := by
  have ht := S_take (n + 22)
  generalize hc : sem (n + 23) = c at *
  have l10 : (10 : Nat) ≤ LIM := LIM_le (by decide)
  obtain ⟨s', e, ns, a', t', u', rfl, hl, hw, S'⟩ := for_list (g := b_law_right_g3) (b := b_law_right_b3 c) (fun i s => ∃ (ns : List Str) (a' t' : Int) (u' : Slot), s = [.par (sprD a' b t'), s1, s2, u', s4, s5, s6, s7, .own (.lst (ns.map .str))] ∧ ns.length = i ∧ (∀ x ∈ ns, x ∈ ten) ∧ Spr a' b t' (k + i)) (ds := (List.range r).map fun i => Dv.D.int (i : Nat)) (s := [.par (sprD a b t), s1, s2, u, s4, s5, s6, s7, .own (.lst [])]) 0 (fun i hi s ⟨ns, a1, t1, u, es, hl, hw, S1⟩ => by
    subst es
    rw [List.length_map, List.length_range] at hi
    rw [Nat.zero_add] at hl S1
    obtain ⟨r1, a2, t2, e1, r10, r11, S2⟩ := ht a1 b t1 _ 10 S1 (by omega) (by decide) (by decide)
    obtain ⟨d, hd, f1⟩ := at_pick (l := ten.map Dv.D.str) r10 (by rw [show (ten.map Dv.D.str).length = 10 from rfl]; exact r11)
    obtain ⟨x, hx, rfl⟩ := List.mem_map.mp hd
    have f1 : atD (.lst [.str "x", .str "x1", .str "x2", .str "x3", .str "y", .str "z", .str "z1", .str "z2", .str "f", .str "f1"]) (.int r1) = some (.val (.str x)) := f1
    have ap : fAppend (.lst (ns.map .str)) [.str x] = some (.lst (ns.map .str ++ [.str x]), .non) := append_ok (by
      have : (100 : Nat) ≤ LIM := LIM_le (by decide)
      rw [List.length_map]; omega)
    refine ⟨_, [.par (sprD a2 b t2), s1, s2, .val ((List.range r).map fun i => Dv.D.int (i : Nat))[i], s4, s5, s6, s7, .own (.lst ((ns ++ [x]).map .str))], rfl, ?_, ns ++ [x], a2, t2, _, rfl, by rw [List.length_append, List.length_singleton]; omega, fun y hy => ?_, S2.more (by omega)⟩
    · rw [List.map_append, List.map_singleton]
      generalize ((List.range r).map fun i => Dv.D.int (i : Nat))[i] = dd
      generalize ns.map Dv.D.str = N at *
      unfold b_law_right_b3
      simp_arith [l10, e1, f1, ap]
    · rcases List.mem_append.mp hy with q | q
      · exact hw y q
      · rw [List.mem_singleton.mp q]; exact hx)
    ⟨[], a, t, u, rfl, rfl, (fun x hx => nomatch hx), S⟩
  rw [List.length_map, List.length_range, Nat.zero_add] at hl S'
  exact ⟨ns, a', t', u', e, hl, hw, S'⟩
end K03
namespace K03
open PySem L2 Dv Pg
theorem nice_two {a b : Dv.D} (ha : niceD a) (hb : niceD b) : niceD (.lst [a, a, b, b]) := nice_lst fun d hd => by
  simp only [List.mem_cons, List.not_mem_nil, or_false] at hd
  rcases hd with rfl | rfl | rfl | rfl
  · exact ha
  · exact ha
  · exact hb
  · exact hb
theorem row_facts {ws : List Wm} (hl : ws.length ≤ 8) (hw : ∀ w ∈ ws, Wm.good w ∧ w.size ≤ 60) : niceD (.tup (ws.map Wm.D)) ∧ D.dep (.tup (ws.map Wm.D)) ≤ 61 ∧ wtD (.tup (ws.map Wm.D)) ≤ 1500 := by
  have one : ∀ d ∈ ws.map Wm.D, niceD d ∧ D.dep d ≤ 60 ∧ wtD d ≤ 180 := fun d hd => by
    obtain ⟨w, hw', rfl⟩ := List.mem_map.mp hd
    obtain ⟨a, b⟩ := hw w hw'
    have := w.wt
    have := w.deep_le
    exact ⟨w.nice a, by rw [w.dep]; omega, by omega⟩
  have ww := wt_tup fun d hd => (one d hd).2.2
  have : (ws.map Wm.D).length * 180 ≤ 8 * 180 := Nat.mul_le_mul_right _ (by rw [List.length_map]; exact hl)
  exact ⟨nice_tup fun d hd => (one d hd).1, dep_tup fun d hd => (one d hd).2.1, by omega⟩
theorem right_ok (n : Nat) (a b t : Int) (k : Nat) (S : Spr a b t k) (hk : k < 700000) :
    ∃ a' t' : Int, sem (n + 24) 1002 [.par (sprD a b t)] = .ret (.val (.bl true)) [.par (sprD a' b t')] ∧ Spr a' b t' (k + 200) := by
  have ht := S_take (n + 22)
  have l0 : (0 : Nat) ≤ LIM := Nat.zero_le _
  have l2 : (2 : Nat) ≤ LIM := LIM_le (by decide)
  have l3 : (3 : Nat) ≤ LIM := LIM_le (by decide)
  have l4 : (4 : Nat) ≤ LIM := LIM_le (by decide)
  -- the head
  obtain ⟨r1, a1, t1, e1, r10, r11, S1⟩ := ht a b t k 4 S (by omega) (by decide) (by decide)
  obtain ⟨d, hd, f1⟩ := at_pick (l := heads.map Wm.D) r10 (by rw [show (heads.map Wm.D).length = 4 from rfl]; exact r11)
  obtain ⟨h, hh, rfl⟩ := List.mem_map.mp hd
  obtain ⟨hg, hs, hc0⟩ := heads_ok h hh
  have f1 : atD (.lst [.tup [.str "name", .str "x"], .tup [.str "at", .int 3], .tup [.str "fn", .str "y", .tup [.str "call", .tup [.str "name", .str "y"], .tup [.str "name", .str "x"]]], .tup [.str "name", .str "l4"]]) (.int r1) = some (.val h.D) := f1
  -- the wides
  obtain ⟨r2, a2, t2, e2, r20, r21, S2⟩ := ht a1 b t1 _ 7 S1 (by omega) (by decide) (by decide)
  obtain ⟨m2, rfl⟩ : ∃ m : Nat, r2 = (m : Nat) := ⟨r2.toNat, by omega⟩
  obtain ⟨ws, a3, t3, u3, lp1, hwl, hws, S3⟩ := wides_loop n (.val h.D) a2 b t2 _ m2 S2 (by omega) (by omega)
  -- the whole
  have wg : (calls h ws).good := calls_good ws h hg fun w hw => (hws.all w hw).1
  have wsz : (calls h ws).size ≤ 46 := by
    have := calls_size 6 ws h fun w hw => (hws.all w hw).2
    have : ws.length * 7 ≤ 6 * 7 := Nat.mul_le_mul_right _ (by omega)
    omega
  obtain ⟨u5, lp2⟩ := whole_loop (sem (n + 23)) (.par (sprD a3 b t3)) (.val h.D) (.val (.lst (ws.map Wm.D))) .un .un .un u3 ws h .un
  -- what is told
  have C1 : sem (n + 23) 35 [.val h.D, .val (.tup (ws.map Wm.D))] = .ret (.val (calls h ws).D) [.val h.D, .val (.tup (ws.map Wm.D))] := S_called (n + 17) h ws hg (by omega) (by omega) fun w hw => ⟨(hws.all w hw).1, by have := (hws.all w hw).2; omega⟩
  have P1 : sem (n + 23) 34 [.val (calls h ws).D] = .ret (.val (.tup [h.D, .tup (ws.map Wm.D)])) [.val (calls h ws).D] := S_spine (n + 17) h ws hc0 wg (by omega) (by omega)
  have wn := Wm.nice _ wg
  have ww := Wm.wt (calls h ws)
  have wd := Wm.dep (calls h ws)
  have wd2 := Wm.deep_le (calls h ws)
  have hn := Wm.nice _ hg
  have hw0 := Wm.wt h
  have hd0 := Wm.dep h
  have hd2 := Wm.deep_le h
  obtain ⟨rn, rd, rw0⟩ := row_facts (ws := ws) (by omega) fun w hw => ⟨(hws.all w hw).1, by have := (hws.all w hw).2; omega⟩
  have rp1 := repr_nice (d := .lst [(calls h ws).D, (calls h ws).D, .tup [h.D, .tup (ws.map Wm.D)], .tup [h.D, .tup (ws.map Wm.D)]]) (nice_two wn (nice2 hn rn))
    (Nat.le_trans (dep_lst (n := 62) fun d hd => by
      simp only [List.mem_cons, List.not_mem_nil, or_false] at hd
      rcases hd with rfl | rfl | rfl | rfl
      · omega
      · omega
      · rw [dep2]; omega
      · rw [dep2]; omega) (by decide))
    (Nat.le_trans (wt_lst (n := 2000) fun d hd => by
      simp only [List.mem_cons, List.not_mem_nil, or_false] at hd
      rcases hd with rfl | rfl | rfl | rfl
      · omega
      · omega
      · rw [wt2]; omega
      · rw [wt2]; omega) (by show 4 * 2000 + 1 ≤ 100000; decide))
  -- more
  have xg : ("w" : Str) ∈ gn := by decide
  have cm : calls (calls h ws) [.nm "w", calls h ws] = calls h (ws ++ [.nm "w", calls h ws]) := by unfold calls; rw [List.foldl_append]
  have cD : (calls (calls h ws) [.nm "w", calls h ws]).D = .tup [.str "call", .tup [.str "call", (calls h ws).D, .tup [.str "name", .str "w"]], (calls h ws).D] := rfl
  have C2 : sem (n + 23) 35 [.val (calls h ws).D, .val (.tup [.tup [.str "name", .str "w"], (calls h ws).D])] = .ret (.val (calls (calls h ws) [.nm "w", calls h ws]).D) [.val (calls h ws).D, .val (.tup [.tup [.str "name", .str "w"], (calls h ws).D])] := S_called (n + 17) (calls h ws) [.nm "w", calls h ws] wg (by omega) (by show 2 < 1000; decide) fun w hw => by
    simp only [List.mem_cons, List.not_mem_nil, or_false] at hw
    rcases hw with rfl | rfl
    · exact ⟨xg, by decide⟩
    · exact ⟨wg, by omega⟩
  have mg : (calls (calls h ws) [.nm "w", calls h ws]).good := ⟨⟨wg, xg⟩, wg⟩
  have msz : (calls (calls h ws) [.nm "w", calls h ws]).size ≤ 95 := by
    rw [show (calls (calls h ws) [.nm "w", calls h ws]).size = (calls h ws).size + 1 + 1 + (calls h ws).size + 1 from rfl]
    omega
  have P2 : sem (n + 23) 34 [.val (calls (calls h ws) [.nm "w", calls h ws]).D] = .ret (.val (.tup [h.D, .tup ((ws ++ [.nm "w", calls h ws]).map Wm.D)])) [.val (calls (calls h ws) [.nm "w", calls h ws]).D] := by
    have q := S_spine (n + 17) h (ws ++ [.nm "w", calls h ws]) hc0 (by rw [← cm]; exact mg) (by rw [← cm]; omega) (by rw [List.length_append]; show ws.length + 2 < 1000; omega)
    rw [← cm] at q
    exact q
  have mn := Wm.nice _ mg
  have mw := Wm.wt (calls (calls h ws) [.nm "w", calls h ws])
  have md := Wm.dep (calls (calls h ws) [.nm "w", calls h ws])
  have md2 : (calls (calls h ws) [.nm "w", calls h ws]).deep ≤ 48 := by
    rw [show (calls (calls h ws) [.nm "w", calls h ws]).deep = max (max (calls h ws).deep 1 + 1) (calls h ws).deep + 1 from rfl]
    omega
  have rp2 := repr_nice mn (by omega) (by omega)
  obtain ⟨qn, qd, qw⟩ := row_facts (ws := ws ++ [.nm "w", calls h ws]) (by rw [List.length_append]; show ws.length + 2 ≤ 8; omega) fun w hw => by
    rcases List.mem_append.mp hw with q | q
    · exact ⟨(hws.all w q).1, by have := (hws.all w q).2; omega⟩
    · simp only [List.mem_cons, List.not_mem_nil, or_false] at q
      rcases q with rfl | rfl
      · exact ⟨xg, by decide⟩
      · exact ⟨wg, by omega⟩
  have ne2 := neD_nice (d := .tup [h.D, .tup ((ws ++ [.nm "w", calls h ws]).map Wm.D)]) (nice2 hn qn) (by rw [dep2]; omega)
  have ad := add_tup (l := ws.map Wm.D) (m := [.tup [.str "name", .str "w"], (calls h ws).D]) (by rw [List.length_map]; show ws.length + 2 ≤ _; omega)
  have adm : ws.map Wm.D ++ [.tup [.str "name", .str "w"], (calls h ws).D] = (ws ++ [.nm "w", calls h ws]).map Wm.D := by rw [List.map_append]; rfl
  rw [adm] at ad
  rw [cD] at C2 P2 rp2
  -- the names
  obtain ⟨r4, a4, t4, e4, r40, r41, S4⟩ := ht a3 b t3 _ 7 S3 (by omega) (by decide) (by decide)
  obtain ⟨m4, rfl⟩ : ∃ m : Nat, r4 = (m : Nat) := ⟨r4.toNat, by omega⟩
  have told : Dv.D := .lst [(calls h ws).D, (calls h ws).D, .tup [h.D, .tup (ws.map Wm.D)], .tup [h.D, .tup (ws.map Wm.D)]]
  obtain ⟨ns, a5, t5, u3', lp3, hnl, hns, S5⟩ := names_loop n (.val h.D) (.val (.tup (ws.map Wm.D))) (.val (calls h ws).D) u5 (.own (.lst [(calls h ws).D, (calls h ws).D, .tup [h.D, .tup (ws.map Wm.D)], .tup [h.D, .tup (ws.map Wm.D)]])) (.val (.tup [.tup [.str "name", .str "w"], (calls h ws).D])) u3 a4 b t4 _ m4 S4 (by omega) (by omega)
  obtain ⟨a6, t6, e6, S6⟩ := fresh_right_ok n (S_take (n + 21)) .non ns (by omega) hns a5 b t5 _ S5 (by omega)
  obtain ⟨a7, t7, e7, S7⟩ := refused_ok n (S_take (n + 21)) ws (by omega) (fun w hw => by
    have q := hws.all w hw
    have := w.deep_le
    exact ⟨q.1, by omega, by omega⟩) ns (by omega) (fun x hx => ten_gn x (hns x hx)) a6 b t6 _ S6 (by omega)
  have i7 := rng1_nat (n := m2) (LIM_le (by omega))
  have i8 := rng1_nat (n := m4) (LIM_le (by omega))
  have tp1 : tupD [.lst (ws.map Wm.D)] = some (.val (.tup (ws.map Wm.D))) := rfl
  have tp2 : tupD [.lst (ns.map Dv.D.str)] = some (.val (.tup (ns.map .str))) := rfl
  refine ⟨a7, t7, ?_, S7.more (by omega)⟩
  rw [show sem (n + 24) 1002 = run 1 9 (b_law_right (sem (n + 23))) from sem_law_right]
  generalize hcc : sem (n + 23) = c at *
  generalize hW : ws.map Wm.D = W at *
  generalize hM : (ws ++ [Wm.nm "w", calls h ws]).map Wm.D = M at *
  generalize hN : ns.map Dv.D.str = N at *
  generalize hwh : (calls h ws).D = wh at *
  generalize hhd : h.D = hD at *
  refine run_val rfl (s := [.par (sprD a7 b t7), .val hD, .val (.tup W), u3', .val wh, u5, .own (.lst [wh, wh, .tup [hD, .tup W], .tup [hD, .tup W]]), .val (.tup [.tup [.str "name", .str "w"], wh]), .own (.lst N)]) ?_ rfl
  unfold b_law_right
  have g1 : sAsg 1 (sOp2 atD (sLst (aCons (sTup (aCons (sC (.str "name")) (aCons (sC (.str "x")) aNil))) (aCons (sTup (aCons (sC (.str "at")) (aCons (sC (.int 3)) aNil))) (aCons (sTup (aCons (sC (.str "fn")) (aCons (sC (.str "y")) (aCons (sTup (aCons (sC (.str "call")) (aCons (sTup (aCons (sC (.str "name")) (aCons (sC (.str "y")) aNil))) (aCons (sTup (aCons (sC (.str "name")) (aCons (sC (.str "x")) aNil))) aNil)))) aNil)))) (aCons (sTup (aCons (sC (.str "name")) (aCons (sC (.str "l4")) aNil))) aNil))))) (sCall (c 1003) [true, true] (aCons (sVar 0) (aCons (sC (.int 4)) aNil)))) ([Slot.par (sprD a b t)] ++ List.replicate (9 - 1) .un) = .nxt [.par (sprD a1 b t1), .val hD, .un, .un, .un, .un, .un, .un, .un] := by
    simp_arith [l2, l3, l4, e1, f1]
  have g2 : sAsg 2 (sLst aNil) [.par (sprD a1 b t1), .val hD, .un, .un, .un, .un, .un, .un, .un] = .nxt [.par (sprD a1 b t1), .val hD, .own (.lst []), .un, .un, .un, .un, .un, .un] := by
    simp_arith [l0]
  have g3 := for_of (f := wArgs rng1 (aCons (sCall (c 1003) [true, true] (aCons (sVar 0) (aCons (sC (.int 7)) aNil))) aNil)) (s := [.par (sprD a1 b t1), .val hD, .own (.lst []), .un, .un, .un, .un, .un, .un]) (by simp_arith [e2, i7]) lp1
  have g4 : sAsg 4 (sVar 1) [.par (sprD a3 b t3), .val hD, .own (.lst W), u3, .un, .un, .un, .un, .un] = .nxt [.par (sprD a3 b t3), .val hD, .own (.lst W), u3, .val hD, .un, .un, .un, .un] := by
    simp_arith []
  have g5 := for_of (f := wSeq (sVar 2)) (s := [.par (sprD a3 b t3), .val hD, .own (.lst W), u3, .val hD, .un, .un, .un, .un]) (by simp_arith []) lp2
  have g6 : sAsg 2 (sCB tupD (aCons (sVar 2) aNil)) [.par (sprD a3 b t3), .val hD, .val (.lst W), u3, .val wh, u5, .un, .un, .un] = .nxt [.par (sprD a3 b t3), .val hD, .val (.tup W), u3, .val wh, u5, .un, .un, .un] := by
    simp_arith [tp1]
  have g7 : sAsg 6 (sLst (aCons (sCall (c 35) [true, true] (aCons (sVar 1) (aCons (sVar 2) aNil))) (aCons (sCallK (c 35) [1, 0] [true, true] (aCons (sVar 2) (aCons (sVar 1) aNil))) (aCons (sCall (c 34) [true] (aCons (sVar 4) aNil)) (aCons (sCallK (c 34) [0] [true] (aCons (sVar 4) aNil)) aNil))))) [.par (sprD a3 b t3), .val hD, .val (.tup W), u3, .val wh, u5, .un, .un, .un] = .nxt [.par (sprD a3 b t3), .val hD, .val (.tup W), u3, .val wh, u5, .own (.lst [wh, wh, .tup [hD, .tup W], .tup [hD, .tup W]]), .un, .un] := by
    simp_arith [sCallK, pickL, C1, P1, l4]
  have g8 : sIfS (tB (sOp2 neD (sCB reprD (aCons (sVar 6) aNil)) (sCB reprD (aCons (sLst (aCons (sVar 4) (aCons (sVar 4) (aCons (sTup (aCons (sVar 1) (aCons (sVar 2) aNil))) (aCons (sTup (aCons (sVar 1) (aCons (sVar 2) aNil))) aNil))))) aNil)))) (sRet (sC (.bl false))) sSkip [.par (sprD a3 b t3), .val hD, .val (.tup W), u3, .val wh, u5, .own (.lst [wh, wh, .tup [hD, .tup W], .tup [hD, .tup W]]), .un, .un] = .nxt [.par (sprD a3 b t3), .val hD, .val (.tup W), u3, .val wh, u5, .own (.lst [wh, wh, .tup [hD, .tup W], .tup [hD, .tup W]]), .un, .un] := by
    simp_arith [rp1, l2, l4]
  have g9 : sAsg 7 (sTup (aCons (sTup (aCons (sC (.str "name")) (aCons (sC (.str "w")) aNil))) (aCons (sVar 4) aNil))) [.par (sprD a3 b t3), .val hD, .val (.tup W), u3, .val wh, u5, .own (.lst [wh, wh, .tup [hD, .tup W], .tup [hD, .tup W]]), .un, .un] = .nxt [.par (sprD a3 b t3), .val hD, .val (.tup W), u3, .val wh, u5, .own (.lst [wh, wh, .tup [hD, .tup W], .tup [hD, .tup W]]), .val (.tup [.tup [.str "name", .str "w"], wh]), .un] := by
    simp_arith [l2]
  have g10 : sIfS (tOr (tB (sOp2 neD (sCB reprD (aCons (sCall (c 35) [true, true] (aCons (sVar 4) (aCons (sVar 7) aNil))) aNil)) (sCB reprD (aCons (sTup (aCons (sC (.str "call")) (aCons (sTup (aCons (sC (.str "call")) (aCons (sVar 4) (aCons (sTup (aCons (sC (.str "name")) (aCons (sC (.str "w")) aNil))) aNil)))) (aCons (sVar 4) aNil)))) aNil)))) (tB (sOp2 neD (sCall (c 34) [true] (aCons (sCall (c 35) [true, true] (aCons (sVar 4) (aCons (sVar 7) aNil))) aNil)) (sTup (aCons (sVar 1) (aCons (sOp2 addD (sVar 2) (sVar 7)) aNil)))))) (sRet (sC (.bl false))) sSkip [.par (sprD a3 b t3), .val hD, .val (.tup W), u3, .val wh, u5, .own (.lst [wh, wh, .tup [hD, .tup W], .tup [hD, .tup W]]), .val (.tup [.tup [.str "name", .str "w"], wh]), .un] = .nxt [.par (sprD a3 b t3), .val hD, .val (.tup W), u3, .val wh, u5, .own (.lst [wh, wh, .tup [hD, .tup W], .tup [hD, .tup W]]), .val (.tup [.tup [.str "name", .str "w"], wh]), .un] := by
    simp_arith [C2, P2, rp2, ad, ne2, l2, l3]
  have g11 : sAsg 8 (sLst aNil) [.par (sprD a3 b t3), .val hD, .val (.tup W), u3, .val wh, u5, .own (.lst [wh, wh, .tup [hD, .tup W], .tup [hD, .tup W]]), .val (.tup [.tup [.str "name", .str "w"], wh]), .un] = .nxt [.par (sprD a3 b t3), .val hD, .val (.tup W), u3, .val wh, u5, .own (.lst [wh, wh, .tup [hD, .tup W], .tup [hD, .tup W]]), .val (.tup [.tup [.str "name", .str "w"], wh]), .own (.lst [])] := by
    simp_arith [l0]
  have g12 := for_of (f := wArgs rng1 (aCons (sCall (c 1003) [true, true] (aCons (sVar 0) (aCons (sC (.int 7)) aNil))) aNil)) (s := [.par (sprD a3 b t3), .val hD, .val (.tup W), u3, .val wh, u5, .own (.lst [wh, wh, .tup [hD, .tup W], .tup [hD, .tup W]]), .val (.tup [.tup [.str "name", .str "w"], wh]), .own (.lst [])]) (by simp_arith [e4, i8]) lp3
  refine (seq_nxt g1).trans ((seq_nxt g2).trans ((seq_nxt g3).trans ((seq_nxt g4).trans ((seq_nxt g5).trans ((seq_nxt g6).trans ((seq_nxt g7).trans ((seq_nxt g8).trans ((seq_nxt g9).trans ((seq_nxt g10).trans ((seq_nxt g11).trans ((seq_nxt g12).trans ?_)))))))))))
  simp_arith [tp2, e6, e7]
theorem law_true (ns : List Int) (hl : ns.length ≤ 63) (_ : ∀ z ∈ ns, Builtin.Int.intBits z ≤ 1048576) : ∃ fin, sem 60 1000 [.val (.scr (ns.map .int))] = .ret (.val (.bl true)) fin := by
  generalize hS : Dv.D.scr (ns.map .int) = sc
  have turn : ∀ (k : Nat) (u : Slot) (a b t : Int), Spr a b t 0 → ∃ a' t' u', sFor (wArgs rng1 (aCons (sC (.int 6)) aNil)) b_law_g1 (b_law_b1 (sem 59)) [.val sc, .val (.int (k : Nat)), .own (sprD a b t), u] = .nxt [.val sc, .val (.int (k : Nat)), .own (sprD a' b t'), u'] := by
    intro k u a b t S
    have r6 : rng1 [.int 6] = some ((List.range 6).map fun i => Dv.D.int (i : Nat)) := rng1_nat (n := 6) (LIM_le (by decide))
    obtain ⟨s', e, a', t', u', rfl, _⟩ := for_list (g := b_law_g1) (b := b_law_b1 (sem 59)) (fun i s => ∃ (a' t' : Int) (u' : Slot), s = [.val sc, .val (.int (k : Nat)), .own (sprD a' b t'), u'] ∧ Spr a' b t' (200 * i)) (ds := (List.range 6).map fun i => Dv.D.int (i : Nat)) (s := [.val sc, .val (.int (k : Nat)), .own (sprD a b t), u]) 0 (fun i hi s ⟨a1, t1, u1, es, S1⟩ => by
      subst es
      rw [List.length_map, List.length_range] at hi
      obtain ⟨a2, t2, e, S2⟩ := right_ok 35 a1 b t1 _ S1 (by omega)
      have e : sem 59 1002 [.par (sprD a1 b t1)] = .ret (.val (.bl true)) [.par (sprD a2 b t2)] := e
      generalize sem 59 = c at *
      refine ⟨_, [.val sc, .val (.int (k : Nat)), .own (sprD a2 b t2), .val ((List.range 6).map fun i => Dv.D.int (i : Nat))[i]], rfl, ?_, a2, t2, _, rfl, S2.more (by omega)⟩
      generalize ((List.range 6).map fun i => Dv.D.int (i : Nat))[i] = dd
      unfold b_law_b1
      simp_arith [e]) ⟨a, t, u, rfl, S⟩
    exact ⟨a', t', u', for_of (ds := (List.range 6).map fun i => Dv.D.int (i : Nat)) (s1 := [.val sc, .val (.int (k : Nat)), .own (sprD a b t), u]) (by simp_arith [r6]) e⟩
  obtain ⟨m, hm, hm2⟩ : ∃ m : Nat, wArgs rng1 (aCons (sCB maxD (aCons (sC (.int 1)) (aCons (sCB minD (aCons (sC (.int 3)) (aCons (sCB lenD (aCons (sVar 0) aNil)) aNil))) aNil))) aNil) [.val sc, .un, .un, .un] = .ok ((List.range m).map fun i => Dv.D.int (i : Nat)) [.val sc, .un, .un, .un] ∧ m ≤ 63 := by
    subst hS
    generalize hq : (if ((ns.map Dv.D.int).length : Int) < 3 then ((ns.map Dv.D.int).length : Int) else 3) = q
    have q1 : minD [.int 3, .int ((ns.map Dv.D.int).length : Nat)] = some (.val (.int q)) := by rw [← hq]; rfl
    generalize hp : (if q > 1 then q else 1) = p
    have p1 : maxD [.int 1, .int q] = some (.val (.int p)) := by rw [maxD_int, hp]
    have hb : 0 ≤ p ∧ p ≤ 63 := by
      rw [List.length_map] at hq
      split at hq <;> split at hp <;> omega
    obtain ⟨m, rfl⟩ : ∃ m : Nat, p = (m : Nat) := ⟨p.toNat, by omega⟩
    have rm := rng1_nat (n := m) (LIM_le (by omega))
    refine ⟨m, ?_, by omega⟩
    simp_arith [q1, p1, rm]
  obtain ⟨s', e, u1, u2, u3, rfl⟩ := for_all (g := b_law_g2) (b := b_law_b2 (sem 59)) (ds := (List.range m).map fun i => Dv.D.int (i : Nat)) (s := [.val sc, .un, .un, .un]) (fun s => ∃ (u1 u2 u3 : Slot), s = [.val sc, u1, u2, u3]) (fun d hd s ⟨u1, u2, u3, es⟩ => by
    subst es
    obtain ⟨k, _, rfl⟩ := List.mem_map.mp hd
    obtain ⟨a, b, e1, S⟩ := spring_ok (sem 58) ns k
    have e1 : sem 59 1001 [.val (.scr (ns.map .int)), .val (.int (k : Nat))] = .ret (.own (sprD a b 0)) [.val (.scr (ns.map .int)), .val (.int (k : Nat))] := e1
    rw [hS] at e1
    obtain ⟨a', t', u', e2⟩ := turn k u3 a b 0 S
    refine ⟨[.val sc, .val (.int (k : Nat)), u2, u3], [.val sc, .val (.int (k : Nat)), .own (sprD a' b t'), u'], rfl, ?_, _, _, _, rfl⟩
    unfold b_law_b2
    refine (seq_nxt (s1 := [.val sc, .val (.int (k : Nat)), .own (sprD a b 0), u3]) ?_).trans e2
    generalize sem 59 = c at *
    simp_arith [e1]) ⟨_, _, _, rfl⟩
  refine ⟨[.val sc], ?_⟩
  rw [show sem 60 1000 = run 1 4 (b_law (sem 59)) from sem_law]
  refine run_val rfl (s := [.val sc, u1, u2, u3]) ?_ rfl
  unfold b_law
  refine (seq_nxt (for_of hm e)).trans ?_
  simp_arith []
end K03
end
open PySem PySem.W PyProof.Rows
set_option maxRecDepth 100000 in
set_option maxHeartbeats 0 in
theorem PySem.Challenge.cw_stepsworn_k03_spines_and_calls_holds : PySem.Challenge.rw_stepsworn_k03_spines_and_calls.Holds := by
  w_on; o_law; k_head; (case hw => w_witness2)
  k_fill
  refine Dv.walk_dv (l := PySem.Challenge.rw_stepsworn_k03_spines_and_calls) (n := 63) (k := 60) (F := K03.sem 60 1000) rfl (by decide) rfl ⟨⟨rfl, by decide, by decide⟩, rfl⟩ (fun w h Y => PySem.W.kIn_of Y) ?F K03.law_true
  case F =>
    intro w mg fa h KX G hmg
    refine' K03.law_of (K03.tab_mk KX G ?a1000 ?l1000 ?c1000 ?k1000 ?a1001 ?l1001 ?c1001 ?k1001 ?a1002 ?l1002 ?c1002 ?k1002 ?a1003 ?l1003 ?c1003 ?k1003 ?a1004 ?l1004 ?c1004 ?k1004 ?a34 ?l34 ?c34 ?k34 ?a35 ?l35 ?c35 ?k35 ?a1005 ?l1005 ?c1005 ?k1005 ?a1006 ?l1006 ?c1006 ?k1006 ?a16 ?l16 ?c16 ?k16 ?a5 ?l5 ?c5 ?k5 ?a2 ?l2 ?c2 ?k2 ?a1007 ?l1007 ?c1007 ?k1007 ?a1008 ?l1008 ?c1008 ?k1008 ?a36 ?l36 ?c36 ?k36 ?a4 ?l4 ?c4 ?k4 ?a33 ?l33 ?c33 ?k33 ?a3 ?l3 ?c3 ?k3 ?a32 ?l32 ?c32 ?k32 ?a1 ?l1 ?c1 ?k1 ?a0 ?l0 ?c0 ?k0 ?z_abs ?z_all ?z_bool ?z_int ?z_isinstance ?z_len ?z_list ?z_max ?z_min ?z_range ?z_repr ?z_str ?z_tuple ?g_DIGITS ?g_LETTERS ?g_MOST_DIGITS ?haDx ?hiDx ?hlIx ?hcIx ?htIx ?hlcx ?hvfx ?hhfx ?hlex ?hcDx ?hzsx ?hzox ?htpx ?a_InvalidName ?l_InvalidName ?r_InvalidName ?b_InvalidName ?a_InvalidNames ?l_InvalidNames ?r_InvalidNames ?b_InvalidNames ?a_InvalidProgram ?l_InvalidProgram ?r_InvalidProgram ?b_InvalidProgram ?a_InvalidWides ?l_InvalidWides ?r_InvalidWides ?b_InvalidWides ?a_StepError ?l_StepError ?r_StepError ?b_StepError ?xsb) hmg (fun s v => .of_eq rfl)
    (case a1000 => k_is)
    (case l1000 => k_is)
    (case c1000 => k_is)
    (case k1000 => k_is)
    (case a1001 => k_is)
    (case l1001 => k_is)
    (case c1001 => k_is)
    (case k1001 => k_is)
    (case a1002 => k_is)
    (case l1002 => k_is)
    (case c1002 => k_is)
    (case k1002 => k_is)
    (case a1003 => k_is)
    (case l1003 => k_is)
    (case c1003 => k_is)
    (case k1003 => k_is)
    (case a1004 => k_is)
    (case l1004 => k_is)
    (case c1004 => k_is)
    (case k1004 => k_is)
    (case a34 => k_is)
    (case l34 => k_is)
    (case c34 => k_is)
    (case k34 => k_is)
    (case a35 => k_is)
    (case l35 => k_is)
    (case c35 => k_is)
    (case k35 => k_is)
    (case a1005 => k_is)
    (case l1005 => k_is)
    (case c1005 => k_is)
    (case k1005 => k_is)
    (case a1006 => k_is)
    (case l1006 => k_is)
    (case c1006 => k_is)
    (case k1006 => k_is)
    (case a16 => k_is)
    (case l16 => k_is)
    (case c16 => k_is)
    (case k16 => k_is)
    (case a5 => k_is)
    (case l5 => k_is)
    (case c5 => k_is)
    (case k5 => k_is)
    (case a2 => k_is)
    (case l2 => k_is)
    (case c2 => k_is)
    (case k2 => k_is)
    (case a1007 => k_is)
    (case l1007 => k_is)
    (case c1007 => k_is)
    (case k1007 => k_is)
    (case a1008 => k_is)
    (case l1008 => k_is)
    (case c1008 => k_is)
    (case k1008 => k_is)
    (case a36 => k_is)
    (case l36 => k_is)
    (case c36 => k_is)
    (case k36 => k_is)
    (case a4 => k_is)
    (case l4 => k_is)
    (case c4 => k_is)
    (case k4 => k_is)
    (case a33 => k_is)
    (case l33 => k_is)
    (case c33 => k_is)
    (case k33 => k_is)
    (case a3 => k_is)
    (case l3 => k_is)
    (case c3 => k_is)
    (case k3 => k_is)
    (case a32 => k_is)
    (case l32 => k_is)
    (case c32 => k_is)
    (case k32 => k_is)
    (case a1 => k_is)
    (case l1 => k_is)
    (case c1 => k_is)
    (case k1 => k_is)
    (case a0 => k_is)
    (case l0 => k_is)
    (case c0 => k_is)
    (case k0 => k_is)
    (case z_abs => k_is)
    (case z_all => k_is)
    (case z_bool => k_is)
    (case z_int => k_is)
    (case z_isinstance => k_is)
    (case z_len => k_is)
    (case z_list => k_is)
    (case z_max => k_is)
    (case z_min => k_is)
    (case z_range => k_is)
    (case z_repr => k_is)
    (case z_str => k_is)
    (case z_tuple => k_is)
    (case g_DIGITS => k_is)
    (case g_LETTERS => k_is)
    (case g_MOST_DIGITS => k_is)
    (case haDx => k_is)
    (case hiDx => k_is)
    (case hlIx => k_is)
    (case hcIx => k_is)
    (case htIx => k_is)
    (case hlcx => k_is)
    (case hvfx => rfl)
    (case hhfx => rfl)
    (case hlex => k_is)
    (case hcDx => k_is)
    (case hzsx => k_is)
    (case hzox => k_is)
    (case htpx => rfl)
    (case a_InvalidName => k_is)
    (case l_InvalidName => k_is)
    (case r_InvalidName => rfl)
    (case b_InvalidName => kernel_rfl)
    (case a_InvalidNames => k_is)
    (case l_InvalidNames => k_is)
    (case r_InvalidNames => rfl)
    (case b_InvalidNames => kernel_rfl)
    (case a_InvalidProgram => k_is)
    (case l_InvalidProgram => k_is)
    (case r_InvalidProgram => rfl)
    (case b_InvalidProgram => kernel_rfl)
    (case a_InvalidWides => k_is)
    (case l_InvalidWides => k_is)
    (case r_InvalidWides => rfl)
    (case b_InvalidWides => kernel_rfl)
    (case a_StepError => k_is)
    (case l_StepError => k_is)
    (case r_StepError => rfl)
    (case b_StepError => kernel_rfl)
    (case xsb => kernel_rfl)
