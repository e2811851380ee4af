import PyProof.Rows.All
import Wide.All
import OpenK.AllK
import Wide.FinOn
import HandS.Base
import HandS.Call
import HandS.List
import HandS.Comp
import HandS.Ends
import HandS.Words
import HandS.Exc
import HandS.Wide
import HandS.Defaults
import HandS.Style
import HandS.TupAny
import HandS.TupMul
import HandS.Flow
import HandS.Dict
import HandS.Iter
import HandS.Text
import HandS.IsInst
import HandS.Zip
import HandS.RevRange
import HandS.ExcOwn
import HandS.CallSlots
import HandS.Deep
import KE.KStateDown
import HandS.More
import HandS.WordsExc
import HandS.Head0
import HandS.Head1
import HandS.Head2
import HandS.HeadEnd
import HandS.HeadHook1
import HandS.HeadHook2
import HandS.EndBits
import PySem.Challenge.RW_rowlaws_k02_weighed_sums
set_option Elab.async false
set_option linter.all false
set_option maxRecDepth 100000
set_option maxHeartbeats 0
/-! The heapless layer: what a def computes over plain data, lists and tuples as values, a store of objects. -/
namespace QL
open PySem PySem.Spec PyProof.Rows L2

/-! ### data -/
inductive D where
  | non | bl (b : Bool) | int (i : Int) | str (x : Str) | ty (n : String)
  | tup (xs : List D) | lst (xs : List D) | dic (ks : List Key) (xs : List D)
  | frl (xs : List D) | ref (n : Nat) | adr (a : Addr)

inductive Slot where
  | un | va (d : D) | ow (xs : List D) | od (ks : List Key) (xs : List D)
def Slot.own : Slot → Bool
  | .ow _ => true
  | .od _ _ => true
  | _ => false
inductive Ob where
  | lst (xs : List D) | dic (ks : List Key) (xs : List D) | ins (C : Addr) (fs : List Str) (xs : List D)
structure G where
  sl : List Slot
  ob : List Ob
/-- an exception: its class, its fields -/
structure Exc where
  cls : Addr
  fs : List Str
  xs : List D

/-- a list, a dict at a, not to be written -/
def LsA (K : PySem.W.Frag) (H : Hp) (av : Addr → Prop) (a : Addr) (xs : List V) : Prop := H a = some (.lst xs) ∧ ¬ av a
/-- the script's list -/
def FrA (K : PySem.W.Frag) (H : Hp) (av : Addr → Prop) (a : Addr) (xs : List V) : Prop := (Rd H a (.lst xs) ∧ ¬ av a) ∨ (∀ H', SqL K H' a xs)
def TpA (K : PySem.W.Frag) (H : Hp) (av : Addr → Prop) (a : Addr) (xs : List V) : Prop := (Rd H a (.tup xs) ∧ ¬ av a) ∨ (∀ H', SqT K H' a xs)

mutual
def Rep (K : PySem.W.Frag) (H : Hp) (av : Addr → Prop) (w : List Addr) : D → V → Prop
  | .non, v => v = .non
  | .bl b, v => v = .bl b
  | .int i, v => v = .int i
  | .str x, v => v = .str x
  | .ty n, v => v = .ty n
  | .tup ds, v => ∃ a xs, v = .ref a ∧ TpA K H av a xs ∧ Reps K H av w ds xs
  | .lst ds, v => ∃ a xs, v = .ref a ∧ LsA K H av a xs ∧ Reps K H av w ds xs
  | .dic ks ds, v => ∃ a kvs, v = .ref a ∧ (Rd H a (.dK kvs) ∧ ¬ av a) ∧ kvs.map (·.1) = ks ∧ Reps K H av w ds (kvs.map (·.2))
  | .frl ds, v => ∃ a xs, v = .ref a ∧ FrA K H av a xs ∧ Reps K H av w ds xs
  | .ref n, v => ∃ a, v = .ref a ∧ w[n]? = some a
  | .adr a, v => v = .ref a
def Reps (K : PySem.W.Frag) (H : Hp) (av : Addr → Prop) (w : List Addr) : List D → List V → Prop
  | [], xs => xs = []
  | d :: ds, xs => ∃ x r, xs = x :: r ∧ Rep K H av w d x ∧ Reps K H av w ds r
end

section
variable {K : PySem.W.Frag} {H H' : Hp} {av av' : Addr → Prop} {w w' : List Addr}
theorem rd_keep {a : Addr} {u : HO} (h : Rd H a u) (na : ¬ av a) (k : ∀ a o, H a = some o → ¬ av a → H' a = some o ∧ ¬ av' a) : Rd H' a u ∧ ¬ av' a := by
  rcases h with h | ⟨o, h⟩
  · exact ⟨.inl (k _ _ h na).1, (k _ _ h na).2⟩
  · exact ⟨.inr ⟨o, (k _ _ h na).1⟩, (k _ _ h na).2⟩
theorem LsA.keep {a : Addr} {xs : List V} (h : LsA K H av a xs) (k : ∀ a o, H a = some o → ¬ av a → H' a = some o ∧ ¬ av' a) : LsA K H' av' a xs := k _ _ h.1 h.2
theorem FrA.keep {a : Addr} {xs : List V} (h : FrA K H av a xs) (k : ∀ a o, H a = some o → ¬ av a → H' a = some o ∧ ¬ av' a) : FrA K H' av' a xs := by
  rcases h with ⟨h, na⟩ | h
  · exact .inl (rd_keep h na k)
  · exact .inr h
theorem TpA.keep {a : Addr} {xs : List V} (h : TpA K H av a xs) (k : ∀ a o, H a = some o → ¬ av a → H' a = some o ∧ ¬ av' a) : TpA K H' av' a xs := by
  rcases h with ⟨h, na⟩ | h
  · exact .inl (rd_keep h na k)
  · exact .inr h
theorem LsA.sq {a : Addr} {xs : List V} (h : LsA K H av a xs) : SqL K H a xs := SqL.of h.1
theorem FrA.sq {a : Addr} {xs : List V} (h : FrA K H av a xs) : SqL K H a xs := by
  rcases h with ⟨h, _⟩ | h
  · exact .inl h
  · exact h H
theorem TpA.sq {a : Addr} {xs : List V} (h : TpA K H av a xs) : SqT K H a xs := by
  rcases h with ⟨h, _⟩ | h
  · exact .inl h
  · exact h H
theorem pre_get {w w' : List Addr} {n : Nat} {a : Addr} (p : w <+: w') (h : w[n]? = some a) : w'[n]? = some a := by
  obtain ⟨r, rfl⟩ := p
  rw [List.getElem?_append_left (List.getElem?_eq_some_iff.mp h).1]
  exact h
mutual
theorem Rep.keep (k : ∀ a o, H a = some o → ¬ av a → H' a = some o ∧ ¬ av' a) (p : w <+: w') : ∀ {d : D} {v : V}, Rep K H av w d v → Rep K H' av' w' d v
  | .non, _, h => h
  | .bl _, _, h => h
  | .int _, _, h => h
  | .str _, _, h => h
  | .ty _, _, h => h
  | .adr _, _, h => h
  | .ref n, v, h => by
    obtain ⟨a, e, h⟩ := h
    exact ⟨a, e, pre_get p h⟩
  | .tup ds, v, h => by
    obtain ⟨a, xs, e, h1, h2⟩ := h
    exact ⟨a, xs, e, h1.keep k, Reps.keep k p h2⟩
  | .lst ds, v, h => by
    obtain ⟨a, xs, e, h1, h2⟩ := h
    exact ⟨a, xs, e, h1.keep k, Reps.keep k p h2⟩
  | .frl ds, v, h => by
    obtain ⟨a, xs, e, h1, h2⟩ := h
    exact ⟨a, xs, e, h1.keep k, Reps.keep k p h2⟩
  | .dic ks ds, v, h => by
    obtain ⟨a, kvs, e, ⟨h1, h2⟩, h3, h4⟩ := h
    exact ⟨a, kvs, e, rd_keep h1 h2 k, h3, Reps.keep k p h4⟩
theorem Reps.keep (k : ∀ a o, H a = some o → ¬ av a → H' a = some o ∧ ¬ av' a) (p : w <+: w') : ∀ {ds : List D} {xs : List V}, Reps K H av w ds xs → Reps K H' av' w' ds xs
  | [], _, h => h
  | d :: ds, xs, h => by
    obtain ⟨x, r, e, h1, h2⟩ := h
    exact ⟨x, r, e, Rep.keep k p h1, Reps.keep k p h2⟩
end
theorem Reps.length : ∀ {ds : List D} {xs : List V}, Reps K H av w ds xs → xs.length = ds.length
  | [], _, h => by
    have h : _ = [] := h
    rw [h]
    rfl
  | d :: ds, xs, h => by
    obtain ⟨x, r, e, _, h2⟩ := h
    rw [e, List.length_cons, List.length_cons, Reps.length h2]
theorem Reps.get : ∀ {ds : List D} {xs : List V} {i : Nat} {d : D}, Reps K H av w ds xs → ds[i]? = some d → ∃ x, xs[i]? = some x ∧ Rep K H av w d x
  | [], _, i, d, _, h => by simp at h
  | d' :: ds, xs, 0, d, h, e => by
    obtain ⟨x, r, rfl, h1, _⟩ := h
    have e : d' = d := Option.some.inj e
    subst e
    exact ⟨x, rfl, h1⟩
  | d' :: ds, xs, i + 1, d, h, e => by
    obtain ⟨x, r, rfl, _, h2⟩ := h
    exact Reps.get h2 (i := i) (by simpa using e)
theorem Reps.append : ∀ {ds es : List D} {xs ys : List V}, Reps K H av w ds xs → Reps K H av w es ys → Reps K H av w (ds ++ es) (xs ++ ys)
  | [], es, xs, ys, h, h' => by
    have h : xs = [] := h
    rw [h]
    exact h'
  | d :: ds, es, xs, ys, h, h' => by
    obtain ⟨x, r, rfl, h1, h2⟩ := h
    exact ⟨x, r ++ ys, rfl, h1, Reps.append h2 h'⟩
theorem Reps.one {d : D} {x : V} (h : Rep K H av w d x) : Reps K H av w [d] [x] := ⟨x, [], rfl, h, rfl⟩
theorem Reps.cons {d : D} {x : V} {ds : List D} {xs : List V} (h : Rep K H av w d x) (h' : Reps K H av w ds xs) : Reps K H av w (d :: ds) (x :: xs) := ⟨x, xs, rfl, h, h'⟩
theorem Reps.take : ∀ {ds : List D} {xs : List V} (n : Nat), Reps K H av w ds xs → Reps K H av w (ds.take n) (xs.take n)
  | [], xs, n, h => by
    have h : xs = [] := h
    rw [h, List.take_nil, List.take_nil]
    rfl
  | d :: ds, xs, 0, h => rfl
  | d :: ds, xs, n + 1, h => by
    obtain ⟨x, r, rfl, h1, h2⟩ := h
    exact ⟨x, r.take n, rfl, h1, Reps.take n h2⟩
theorem Reps.drop : ∀ {ds : List D} {xs : List V} (n : Nat), Reps K H av w ds xs → Reps K H av w (ds.drop n) (xs.drop n)
  | [], xs, n, h => by
    have h : xs = [] := h
    rw [h, List.drop_nil, List.drop_nil]
    rfl
  | d :: ds, xs, 0, h => h
  | d :: ds, xs, n + 1, h => by
    obtain ⟨x, r, rfl, h1, h2⟩ := h
    exact Reps.drop n h2
theorem Reps.set : ∀ {ds : List D} {xs : List V} (n : Nat) {d : D} {x : V}, Reps K H av w ds xs → Rep K H av w d x → Reps K H av w (ds.set n d) (xs.set n x)
  | [], xs, n, d, x, h, _ => by
    have h : xs = [] := h
    rw [h]
    rfl
  | d' :: ds, xs, 0, d, x, h, h' => by
    obtain ⟨y, r, rfl, h1, h2⟩ := h
    exact ⟨x, r, rfl, h', h2⟩
  | d' :: ds, xs, n + 1, d, x, h, h' => by
    obtain ⟨y, r, rfl, h1, h2⟩ := h
    exact ⟨y, r.set n x, rfl, h1, Reps.set n h2 h'⟩
theorem Reps.reverse : ∀ {ds : List D} {xs : List V}, Reps K H av w ds xs → Reps K H av w ds.reverse xs.reverse
  | [], xs, h => by
    have h : xs = [] := h
    rw [h]
    rfl
  | d :: ds, xs, h => by
    obtain ⟨x, r, rfl, h1, h2⟩ := h
    rw [List.reverse_cons, List.reverse_cons]
    exact (Reps.reverse h2).append (Reps.one h1)
end

/-! ### what is fixed while a body runs -/
structure C0 where
  w0 : List Addr
  H0 : Hp
  hid : Hp
def OwnAt (σ : L2.St) (Γ : G) (i : Nat) (a : Addr) : Prop := σ[i]? = some (some (.ref a)) ∧ ∃ s, Γ.sl[i]? = some s ∧ s.own = true
def Av (c : C0) (w : List Addr) (σ : L2.St) (Γ : G) (a : Addr) : Prop := a ∈ w ∨ (∃ o, c.hid a = some o) ∨ ∃ i, OwnAt σ Γ i a
def SlR (K : PySem.W.Frag) (H : Hp) (av : Addr → Prop) (w : List Addr) : Slot → Option V → Prop
  | .un, _ => True
  | .va d, o => ∃ v, o = some v ∧ Rep K H av w d v
  | .ow ds, o => ∃ a xs, o = some (.ref a) ∧ H a = some (.lst xs) ∧ Reps K H av w ds xs
  | .od ks ds, o => ∃ a kvs, o = some (.ref a) ∧ H a = some (.dK kvs) ∧ kvs.map (·.1) = ks ∧ Reps K H av w ds (kvs.map (·.2))
def ObR (K : PySem.W.Frag) (H : Hp) (av : Addr → Prop) (w : List Addr) (a : Addr) : Ob → Prop
  | .lst ds => ∃ xs, H a = some (.lst xs) ∧ Reps K H av w ds xs
  | .dic ks ds => ∃ kvs, H a = some (.dK kvs) ∧ kvs.map (·.1) = ks ∧ Reps K H av w ds (kvs.map (·.2))
  | .ins C fs ds => ∃ dx kvs, H a = some (.ins C dx kvs) ∧ kvs.map (·.1) = fs ∧ Reps K H av w ds (kvs.map (·.2))
theorem SlR.keep {K : PySem.W.Frag} {H H' : Hp} {av av' : Addr → Prop} {w w' : List Addr} (k : ∀ a o, H a = some o → ¬ av a → H' a = some o ∧ ¬ av' a) (p : w <+: w') {s : Slot} {o : Option V}
    (ko : s.own = true → ∀ a u, o = some (.ref a) → H a = some u → H' a = some u) (h : SlR K H av w s o) : SlR K H' av' w' s o := by
  cases s with
  | un => trivial
  | va d =>
    obtain ⟨v, e, r⟩ := h
    exact ⟨v, e, r.keep k p⟩
  | ow ds =>
    obtain ⟨a, xs, e, h1, r⟩ := h
    exact ⟨a, xs, e, ko rfl a _ e h1, r.keep k p⟩
  | od ks ds =>
    obtain ⟨a, kvs, e, h1, h2, r⟩ := h
    exact ⟨a, kvs, e, ko rfl a _ e h1, h2, r.keep k p⟩
theorem ObR.keep {K : PySem.W.Frag} {H H' : Hp} {av av' : Addr → Prop} {w w' : List Addr} {a : Addr} (k : ∀ a o, H a = some o → ¬ av a → H' a = some o ∧ ¬ av' a) (p : w <+: w') {s : Ob}
    (ko : ∀ u, H a = some u → H' a = some u) (h : ObR K H av w a s) : ObR K H' av' w' a s := by
  cases s with
  | lst ds =>
    obtain ⟨xs, h1, r⟩ := h
    exact ⟨xs, ko _ h1, r.keep k p⟩
  | dic ks ds =>
    obtain ⟨kvs, h1, h2, r⟩ := h
    exact ⟨kvs, ko _ h1, h2, r.keep k p⟩
  | ins C fs ds =>
    obtain ⟨dx, kvs, h1, h2, r⟩ := h
    exact ⟨dx, kvs, ko _ h1, h2, r.keep k p⟩

/-- the state is told by Γ -/
structure ER (K : PySem.W.Frag) (c : C0) (w : List Addr) (H : Hp) (σ : L2.St) (Γ : G) : Prop where
  len : σ.length = Γ.sl.length
  wl : w.length = Γ.ob.length
  wn : w.Nodup
  on : ∀ (i j : Nat) a, OwnAt σ Γ i a → OwnAt σ Γ j a → i = j
  ow : ∀ (i : Nat) a, OwnAt σ Γ i a → a ∉ w ∧ c.hid a = none ∧ c.H0 a = none
  sl : ∀ (i : Nat) s, Γ.sl[i]? = some s → SlR K H (Av c w σ Γ) w s (σ[i]?.join)
  ob : ∀ (n : Nat) a o, w[n]? = some a → Γ.ob[n]? = some o → ObR K H (Av c w σ Γ) w a o
  fr : ∀ a o, c.H0 a = some o → a ∉ c.w0 → H a = some o ∧ a ∉ w
  pre : c.w0 <+: w
  hid : ∀ a o, c.hid a = some o → H a = some o ∧ a ∉ w
/-- from a state to a later one: what is not written stays -/
structure Stp (c : C0) (w : List Addr) (σ : L2.St) (Γ : G) (H : Hp) (w' : List Addr) (σ' : L2.St) (Γ' : G) (H' : Hp) : Prop where
  keep : ∀ a o, H a = some o → ¬ Av c w σ Γ a → H' a = some o ∧ ¬ Av c w' σ' Γ' a
  pre : w <+: w'
theorem Stp.refl {c : C0} {w : List Addr} {σ : L2.St} {Γ : G} {H : Hp} : Stp c w σ Γ H w σ Γ H := ⟨fun _ _ h n => ⟨h, n⟩, List.prefix_refl _⟩
theorem Stp.trans {c : C0} {w w1 w2 : List Addr} {σ σ1 σ2 : L2.St} {Γ Γ1 Γ2 : G} {H H1 H2 : Hp} (a : Stp c w σ Γ H w1 σ1 Γ1 H1) (b : Stp c w1 σ1 Γ1 H1 w2 σ2 Γ2 H2) : Stp c w σ Γ H w2 σ2 Γ2 H2 :=
  ⟨fun x o h n => b.keep x o (a.keep x o h n).1 (a.keep x o h n).2, a.pre.trans b.pre⟩
theorem Stp.same {c : C0} {w : List Addr} {σ : L2.St} {Γ : G} {H H' : Hp} (e : Same H H') : Stp c w σ Γ H w σ Γ H' := ⟨fun a o h n => ⟨e a o h, n⟩, List.prefix_refl _⟩
section
variable {K : PySem.W.Frag} {c : C0} {w w' : List Addr} {H H' : Hp} {σ : L2.St} {Γ Γ' : G}
theorem Rep.stp {σ' : L2.St} {d : D} {v : V} (r : Rep K H (Av c w σ Γ) w d v) (s : Stp c w σ Γ H w' σ' Γ' H') : Rep K H' (Av c w' σ' Γ') w' d v := r.keep s.keep s.pre
theorem Reps.stp {σ' : L2.St} {d : List D} {v : List V} (r : Reps K H (Av c w σ Γ) w d v) (s : Stp c w σ Γ H w' σ' Γ' H') : Reps K H' (Av c w' σ' Γ') w' d v := r.keep s.keep s.pre
theorem own_ref {i : Nat} {a : Addr} (h : σ[i]?.join = some (.ref a)) : σ[i]? = some (some (.ref a)) := by
  cases q : σ[i]? with
  | none =>
    rw [q] at h
    cases h
  | some o =>
    rw [q] at h
    have h : o = some (.ref a) := h
    rw [h]
theorem ER.same (e : ER K c w H σ Γ) (s : Same H H') : ER K c w H' σ Γ where
  len := e.len
  wl := e.wl
  wn := e.wn
  on := e.on
  ow := e.ow
  sl := fun i sl h => (e.sl i sl h).keep (fun a o h n => ⟨s a o h, n⟩) (List.prefix_refl _) fun _ a u _ h => s a u h
  ob := fun n a o h h' => (e.ob n a o h h').keep (fun a o h n => ⟨s a o h, n⟩) (List.prefix_refl _) fun u h => s a u h
  fr := fun a o h n => ⟨s a o (e.fr a o h n).1, (e.fr a o h n).2⟩
  pre := e.pre
  hid := fun a o h => ⟨s a o (e.hid a o h).1, (e.hid a o h).2⟩
/-- what is avoided is tracked -/
theorem ER.tracked (e : ER K c w H σ Γ) {a : Addr} (h : Av c w σ Γ a) : ∃ o, H a = some o := by
  rcases h with h | ⟨o, h⟩ | ⟨i, h1, s, h2, h3⟩
  · obtain ⟨n, hn⟩ := List.getElem?_of_mem h
    have hl : n < Γ.ob.length := by
      have := (List.getElem?_eq_some_iff.mp hn).1
      rw [e.wl] at this
      exact this
    have x := e.ob n a _ hn (List.getElem?_eq_getElem hl)
    cases q : Γ.ob[n] with
    | lst ds =>
      rw [q] at x
      obtain ⟨xs, h, _⟩ := x
      exact ⟨_, h⟩
    | dic ks ds =>
      rw [q] at x
      obtain ⟨xs, h, _⟩ := x
      exact ⟨_, h⟩
    | ins C fs ds =>
      rw [q] at x
      obtain ⟨dx, xs, h, _⟩ := x
      exact ⟨_, h⟩
  · exact ⟨o, (e.hid a o h).1⟩
  · have x := e.sl i s h2
    rw [h1] at x
    cases s with
    | un => cases h3
    | va d => cases h3
    | ow ds =>
      obtain ⟨b, xs, e1, h, _⟩ := x
      have e1 : some (V.ref a) = some (.ref b) := e1
      cases e1
      exact ⟨_, h⟩
    | od ks ds =>
      obtain ⟨b, xs, e1, h, _⟩ := x
      have e1 : some (V.ref a) = some (.ref b) := e1
      cases e1
      exact ⟨_, h⟩
theorem ER.fresh (e : ER K c w H σ Γ) {p : Addr} (h : H p = none) : ¬ Av c w σ Γ p := fun z => by
  obtain ⟨o, q⟩ := e.tracked z
  rw [h] at q
  cases q
theorem ER.fresh0 (e : ER K c w H σ Γ) {p : Addr} (h : H p = none) (hw : p ∉ w) : c.H0 p = none := by
  cases q : c.H0 p with
  | none => rfl
  | some o =>
    by_cases hp : p ∈ c.w0
    · exact absurd (e.pre.subset hp) hw
    · have := (e.fr p o q hp).1
      rw [h] at this
      cases this
theorem same_new {p : Addr} {o : HO} (h : H p = none) : Same H (upd H p o) := fun b u e => by
  rw [upd_ne (ne_of_none e h)]
  exact e
theorem TpA.new {p : Addr} {xs : List V} {av : Addr → Prop} (h : ¬ av p) : TpA K (upd H p (.tup xs)) av p xs := .inl ⟨.inl upd_same, h⟩
theorem LsA.new {p : Addr} {xs : List V} {av : Addr → Prop} (h : ¬ av p) : LsA K (upd H p (.lst xs)) av p xs := ⟨upd_same, h⟩
end
end QL
namespace QL
open PySem PySem.Spec PyProof.Rows L2

/-! ### what pieces of code come to, over Γ -/
abbrev EXG := Exc → G → Prop
abbrev QE := EXG → G → (D → G → Prop) → Prop
abbrev QT := EXG → G → (Bool → G → Prop) → Prop
abbrev QA := EXG → G → (List D → G → Prop) → Prop
structure QEnd where
  nx : G → Prop
  rt : D → G → Prop
  bk : G → Prop := fun _ => False
  ct : G → Prop := fun _ => False
abbrev QS := EXG → QEnd → G → Prop
/-- a new list: its items -/
abbrev QL_ := EXG → G → (List D → G → Prop) → Prop

def ExR (K : PySem.W.Frag) (c : C0) (w : List Addr) (σ : L2.St) (Γ : G) (H : Hp) (e : Exc) (cls : Value) (d : Option Addr) : Prop :=
  cls = .ref e.cls ∧ ∃ dd kvs, d = some dd ∧ H dd = some (.xd kvs) ∧ ¬ Av c w σ Γ dd ∧ kvs.map (·.1) = e.fs ∧ Reps K H (Av c w σ Γ) w e.xs (kvs.map (·.2))
/-- what is wanted of exceptions is enough -/
def XL (K : PySem.W.Frag) (c : C0) (W : WX) (w : List Addr) (σ : L2.St) (Γ : G) (H : Hp) (EX : EXG) : Prop :=
  ∀ e Γ' w' σ' H' cls d, EX e Γ' → Stp c w σ Γ H w' σ' Γ' H' → ER K c w' H' σ' Γ' → ExR K c w' σ' Γ' H' e cls d → W cls d σ' H'
theorem XL.stp {K : PySem.W.Frag} {c : C0} {W : WX} {w w' : List Addr} {σ σ' : L2.St} {Γ Γ' : G} {H H' : Hp} {EX : EXG} (x : XL K c W w σ Γ H EX) (s : Stp c w σ Γ H w' σ' Γ' H') : XL K c W w' σ' Γ' H' EX :=
  fun e Γ2 w2 σ2 H2 cls d h1 h2 h3 h4 => x e Γ2 w2 σ2 H2 cls d h1 (s.trans h2) h3 h4

def liftE (K : PySem.W.Frag) (c : C0) (W : WX) (q : QE) : TE := fun σ H Q => ∃ w Γ P EX, ER K c w H σ Γ ∧ q EX Γ P ∧ XL K c W w σ Γ H EX ∧
  ∀ d Γ' w' H' v, P d Γ' → Stp c w σ Γ H w' σ Γ' H' → ER K c w' H' σ Γ' → Rep K H' (Av c w' σ Γ') w' d v → Q v H'
def liftT (K : PySem.W.Frag) (c : C0) (W : WX) (q : QT) : TT := fun σ H Q => ∃ w Γ P EX, ER K c w H σ Γ ∧ q EX Γ P ∧ XL K c W w σ Γ H EX ∧
  ∀ b Γ' w' H', P b Γ' → Stp c w σ Γ H w' σ Γ' H' → ER K c w' H' σ Γ' → Q b H'
def liftA (K : PySem.W.Frag) (c : C0) (W : WX) (q : QA) : TA := fun σ H Q => ∃ w Γ P EX, ER K c w H σ Γ ∧ q EX Γ P ∧ XL K c W w σ Γ H EX ∧
  ∀ ds Γ' w' H' vs, P ds Γ' → Stp c w σ Γ H w' σ Γ' H' → ER K c w' H' σ Γ' → Reps K H' (Av c w' σ Γ') w' ds vs → Q vs H'
/-- a new list: the state ahead of its laying -/
def liftL (K : PySem.W.Frag) (c : C0) (W : WX) (q : QL_) : TE := fun σ H Q => ∃ w Γ P EX, ER K c w H σ Γ ∧ q EX Γ P ∧ XL K c W w σ Γ H EX ∧
  ∀ ds Γ' w' H' p xs, P ds Γ' → Stp c w σ Γ H w' σ Γ' H' → ER K c w' H' σ Γ' → H' p = none → Reps K H' (Av c w' σ Γ') w' ds xs → Q (.ref p) (upd H' p (.lst xs))
/-- the ends are reached -/
structure EO (K : PySem.W.Frag) (c : C0) (w : List Addr) (σ : L2.St) (Γ : G) (H : Hp) (E : QEnd) (D : Ends) : Prop where
  nx : ∀ Γ' w' σ' H', E.nx Γ' → Stp c w σ Γ H w' σ' Γ' H' → ER K c w' H' σ' Γ' → D.nx σ' H'
  rt : ∀ d Γ' w' σ' H' v, E.rt d Γ' → Stp c w σ Γ H w' σ' Γ' H' → ER K c w' H' σ' Γ' → Rep K H' (Av c w' σ' Γ') w' d v → D.rt v H'
  bk : ∀ Γ' w' σ' H', E.bk Γ' → Stp c w σ Γ H w' σ' Γ' H' → ER K c w' H' σ' Γ' → D.bk σ' H'
  ct : ∀ Γ' w' σ' H', E.ct Γ' → Stp c w σ Γ H w' σ' Γ' H' → ER K c w' H' σ' Γ' → D.ct σ' H'
theorem EO.stp {K : PySem.W.Frag} {c : C0} {w w' : List Addr} {σ σ' : L2.St} {Γ Γ' : G} {H H' : Hp} {E : QEnd} {D : Ends} (o : EO K c w σ Γ H E D) (s : Stp c w σ Γ H w' σ' Γ' H') : EO K c w' σ' Γ' H' E D :=
  ⟨fun a b d e h1 h2 h3 => o.nx a b d e h1 (s.trans h2) h3, fun a b d e f g h1 h2 h3 h4 => o.rt a b d e f g h1 (s.trans h2) h3 h4, fun a b d e h1 h2 h3 => o.bk a b d e h1 (s.trans h2) h3, fun a b d e h1 h2 h3 => o.ct a b d e h1 (s.trans h2) h3⟩
def liftS (K : PySem.W.Frag) (c : C0) (W : WX) (q : QS) : TS := fun D σ H => ∃ w Γ E EX, ER K c w H σ Γ ∧ q EX E Γ ∧ XL K c W w σ Γ H EX ∧ EO K c w σ Γ H E D
def QEx (X : Cx) (W : WX) (e : Expr) (q : QE) : Prop := ∀ c, PE X e (liftE X.K c W q)
def QTx (X : Cx) (W : WX) (e : Expr) (q : QT) : Prop := ∀ c, PT X e (liftT X.K c W q)
def QAx (X : Cx) (W : WX) (es : List Expr) (q : QA) : Prop := ∀ c, PA X es (liftA X.K c W q)
def QLx (X : Cx) (W : WX) (e : Expr) (q : QL_) : Prop := ∀ c, PE X e (liftL X.K c W q)
def QSx (X : Cx) (W : WX) (st : Stmt) (q : QS) : Prop := ∀ c, PS X st (liftS X.K c W q)
def QSs (X : Cx) (W : WX) (st : List Stmt) (q : QS) : Prop := ∀ c, PSs X st (liftS X.K c W q)

section
variable {X : Cx} {W : WX}
theorem PEi {e : Expr} {t t' : TE} (h : PE X e t) (i : ∀ σ H Q, t' σ H Q → t σ H Q) : PE X e t' := ⟨fun pins s σ H Q I q => h.run pins s σ H Q I (i σ H Q q)⟩
theorem PTi {e : Expr} {t t' : TT} (h : PT X e t) (i : ∀ σ H Q, t' σ H Q → t σ H Q) : PT X e t' := ⟨fun pins s σ H Q I q => h.run pins s σ H Q I (i σ H Q q)⟩
theorem PAi {e : List Expr} {t t' : TA} (h : PA X e t) (i : ∀ σ H Q, t' σ H Q → t σ H Q) : PA X e t' := ⟨fun pos pins s σ H Q I q => h.run pos pins s σ H Q I (i σ H Q q)⟩
theorem PSi {e : Stmt} {t t' : TS} (h : PS X e t) (i : ∀ D σ H, t' D σ H → t D σ H) : PS X e t' := ⟨fun pins s σ H D I q => h.run pins s σ H D I (i D σ H q)⟩
theorem PSsi {e : List Stmt} {t t' : TS} (h : PSs X e t) (i : ∀ D σ H, t' D σ H → t D σ H) : PSs X e t' := ⟨fun pins s σ H D I q => h.run pins s σ H D I (i D σ H q)⟩

/-- a fork -/
def qB : Bool → Prop → Prop → Prop
  | true, p, _ => p
  | false, _, q => q
theorem qB_i {b : Bool} {p q : Prop} (h1 : b = true → p) (h2 : b = false → q) : qB b p q := by
  cases b with
  | true => exact h1 rfl
  | false => exact h2 rfl
/-! ### constants, names -/
def qC (d : D) : QE := fun _ Γ P => P d Γ
theorem q_const {e : Expr} {v : V} {d : D} (h : PE X e (tC v)) (r : ∀ H av w, Rep X.K H av w d v) : QEx X W e (qC d) := fun c => PEi h fun σ H Q ⟨w, Γ, P, EX, er, q, x, k⟩ =>
  k d Γ w H v q Stp.refl er (r _ _ _)
theorem q_int {i j pos} : QEx X W (.Constant (.int i) j pos) (qC (.int i)) := q_const pe_int fun _ _ _ => rfl
theorem q_bl {i j pos} : QEx X W (.Constant (.bool i) j pos) (qC (.bl i)) := q_const pe_bl fun _ _ _ => rfl
theorem q_non {j pos} : QEx X W (.Constant .none j pos) (qC .non) := q_const pe_non fun _ _ _ => rfl
theorem q_str {x j pos} : QEx X W (.Constant (.str x) j pos) (qC (.str x)) := q_const pe_str fun _ _ _ => rfl
/-- reading a slot: what was one's own is handed on, not to be written any more -/
def Slot.rd : Slot → Option D
  | .un => none
  | .va d => some d
  | .ow ds => some (.lst ds)
  | .od ks ds => some (.dic ks ds)
def Slot.frz : Slot → Slot
  | .ow ds => .va (.lst ds)
  | .od ks ds => .va (.dic ks ds)
  | s => s
def qVar (i : Nat) : QE := fun _ Γ P => match Γ.sl[i]? with
  | some (.va d) => P d Γ
  | some (.ow ds) => P (.lst ds) ⟨Γ.sl.set i (.va (.lst ds)), Γ.ob⟩
  | some (.od ks ds) => P (.dic ks ds) ⟨Γ.sl.set i (.va (.dic ks ds)), Γ.ob⟩
  | _ => False
section
variable {K : PySem.W.Frag} {c : C0} {w : List Addr} {H : Hp} {σ : L2.St} {Γ : G}
/-- a slot that is one's own is given up -/
theorem own_frz {i : Nat} {s : Slot} (hs : Γ.sl[i]? = some s) {j : Nat} {a : Addr} {d : D} (h : OwnAt σ ⟨Γ.sl.set i (.va d), Γ.ob⟩ j a) : OwnAt σ Γ j a ∧ j ≠ i := by
  obtain ⟨h1, t, h2, h3⟩ := h
  by_cases e : j = i
  · subst e
    have h2 : (Γ.sl.set j (.va d))[j]? = some t := h2
    rw [List.getElem?_set_self (List.getElem?_eq_some_iff.mp hs).1] at h2
    cases h2
    cases h3
  · have h2 : (Γ.sl.set i (.va d))[j]? = some t := h2
    rw [List.getElem?_set_ne (fun z => e z.symm)] at h2
    exact ⟨⟨h1, t, h2, h3⟩, e⟩
theorem av_frz {i : Nat} {s : Slot} (hs : Γ.sl[i]? = some s) {a : Addr} {d : D} (h : Av c w σ ⟨Γ.sl.set i (.va d), Γ.ob⟩ a) : Av c w σ Γ a := by
  rcases h with h | h | ⟨j, h⟩
  · exact .inl h
  · exact .inr (.inl h)
  · exact .inr (.inr ⟨j, (own_frz hs h).1⟩)
theorem stp_frz {i : Nat} {s : Slot} (hs : Γ.sl[i]? = some s) {d : D} : Stp c w σ Γ H w σ ⟨Γ.sl.set i (.va d), Γ.ob⟩ H := ⟨fun a o h n => ⟨h, fun z => n (av_frz hs z)⟩, List.prefix_refl _⟩
/-- the slot's datum is known otherwise -/
theorem ER.frz (e : ER K c w H σ Γ) {i : Nat} {s : Slot} {d : D} (hs : Γ.sl[i]? = some s) (h : SlR K H (Av c w σ ⟨Γ.sl.set i (.va d), Γ.ob⟩) w (.va d) (σ[i]?.join)) : ER K c w H σ ⟨Γ.sl.set i (.va d), Γ.ob⟩ where
  len := by
    show σ.length = (Γ.sl.set i _).length
    rw [List.length_set]
    exact e.len
  wl := e.wl
  wn := e.wn
  on := fun a b x h1 h2 => e.on a b x (own_frz hs h1).1 (own_frz hs h2).1
  ow := fun a x h => e.ow a x (own_frz hs h).1
  sl := fun j t ht => by
    by_cases q : j = i
    · subst q
      have ht : (Γ.sl.set j (.va d))[j]? = some t := ht
      rw [List.getElem?_set_self (List.getElem?_eq_some_iff.mp hs).1] at ht
      cases ht
      exact h
    · have ht : (Γ.sl.set i (.va d))[j]? = some t := ht
      rw [List.getElem?_set_ne (fun z => q z.symm)] at ht
      exact (e.sl j t ht).keep (stp_frz hs).keep (List.prefix_refl _) fun _ a u _ h => h
  ob := fun n a o h1 h2 => (e.ob n a o h1 h2).keep (stp_frz hs).keep (List.prefix_refl _) fun _ h => h
  fr := e.fr
  pre := e.pre
  hid := e.hid
/-- what a slot holds -/
theorem ER.at_va (e : ER K c w H σ Γ) {i : Nat} {d : D} (hs : Γ.sl[i]? = some (.va d)) : ∃ v, σ[i]? = some (some v) ∧ Rep K H (Av c w σ Γ) w d v := by
  obtain ⟨v, h, r⟩ := e.sl i _ hs
  refine ⟨v, ?_, r⟩
  cases q : σ[i]? with
  | none =>
    rw [q] at h
    cases h
  | some o =>
    rw [q] at h
    have h : o = some v := h
    rw [h]
theorem ER.at_ow (e : ER K c w H σ Γ) {i : Nat} {ds : List D} (hs : Γ.sl[i]? = some (.ow ds)) : ∃ a xs, σ[i]? = some (some (.ref a)) ∧ H a = some (.lst xs) ∧ Reps K H (Av c w σ Γ) w ds xs ∧ OwnAt σ Γ i a := by
  obtain ⟨a, xs, h, h1, r⟩ := e.sl i _ hs
  exact ⟨a, xs, own_ref h, h1, r, own_ref h, _, hs, rfl⟩
theorem ER.at_od (e : ER K c w H σ Γ) {i : Nat} {ks : List Key} {ds : List D} (hs : Γ.sl[i]? = some (.od ks ds)) :
    ∃ a kvs, σ[i]? = some (some (.ref a)) ∧ H a = some (.dK kvs) ∧ kvs.map (·.1) = ks ∧ Reps K H (Av c w σ Γ) w ds (kvs.map (·.2)) ∧ OwnAt σ Γ i a := by
  obtain ⟨a, xs, h, h1, h2, r⟩ := e.sl i _ hs
  exact ⟨a, xs, own_ref h, h1, h2, r, own_ref h, _, hs, rfl⟩
/-- .. handed on, it is avoided no more -/
theorem not_av_frz (e : ER K c w H σ Γ) {i : Nat} {a : Addr} {d : D} (h : OwnAt σ Γ i a) : ¬ Av c w σ ⟨Γ.sl.set i (.va d), Γ.ob⟩ a := fun z => by
  obtain ⟨_, s, hs, _⟩ := id h
  rcases z with z | ⟨o, z⟩ | ⟨j, z⟩
  · exact (e.ow i a h).1 z
  · rw [(e.ow i a h).2.1] at z
    cases z
  · obtain ⟨z1, z2⟩ := own_frz hs z
    exact z2 (e.on _ _ _ z1 h)
theorem ER.frz_ow (e : ER K c w H σ Γ) {i : Nat} {ds : List D} (hs : Γ.sl[i]? = some (.ow ds)) : ∃ v, σ[i]? = some (some v) ∧ ER K c w H σ ⟨Γ.sl.set i (.va (.lst ds)), Γ.ob⟩ ∧ Rep K H (Av c w σ ⟨Γ.sl.set i (.va (.lst ds)), Γ.ob⟩) w (.lst ds) v := by
  obtain ⟨a, xs, h, h1, r, o⟩ := e.at_ow hs
  have na := not_av_frz (d := .lst ds) e o
  have rr : Rep K H (Av c w σ ⟨Γ.sl.set i (.va (.lst ds)), Γ.ob⟩) w (.lst ds) (.ref a) := ⟨a, xs, rfl, ⟨h1, na⟩, r.stp (stp_frz (σ := σ) hs)⟩
  exact ⟨_, h, e.frz hs ⟨_, by rw [h] <;> rfl, rr⟩, rr⟩
theorem ER.frz_od (e : ER K c w H σ Γ) {i : Nat} {ks : List Key} {ds : List D} (hs : Γ.sl[i]? = some (.od ks ds)) : ∃ v, σ[i]? = some (some v) ∧ ER K c w H σ ⟨Γ.sl.set i (.va (.dic ks ds)), Γ.ob⟩ ∧ Rep K H (Av c w σ ⟨Γ.sl.set i (.va (.dic ks ds)), Γ.ob⟩) w (.dic ks ds) v := by
  obtain ⟨a, kvs, h, h1, h2, r, o⟩ := e.at_od hs
  have na := not_av_frz (d := .dic ks ds) e o
  have rr : Rep K H (Av c w σ ⟨Γ.sl.set i (.va (.dic ks ds)), Γ.ob⟩) w (.dic ks ds) (.ref a) := ⟨a, kvs, rfl, ⟨.inl h1, na⟩, h2, r.stp (stp_frz (σ := σ) hs)⟩
  exact ⟨_, h, e.frz hs ⟨_, by rw [h] <;> rfl, rr⟩, rr⟩
end
theorem q_var (i : Nat) {x : Str} {pos : Pos} (hN : X.N[i]? = some x := by rfl) (hv : Vis X.env.scope x := by first | exact Or.inl rfl | exact Or.inr (Or.inl rfl) | exact Or.inr (Or.inr rfl)) (hd : (x == ("__debug__" : Str)) = false := by decide)
    (hcd : (x == ("__classdict__" : Str)) = false := by decide) : QEx X W (.Name x pos) (qVar i) := fun c => PEi (pe_var hN hv hd hcd) fun σ H Q ⟨w, Γ, P, EX, er, q, x, k⟩ => by
  unfold qVar at q
  cases hs : Γ.sl[i]? with
  | none =>
    rw [hs] at q
    exact q.elim
  | some s =>
    rw [hs] at q
    cases s with
    | un => exact q.elim
    | va d =>
      obtain ⟨v, h1, h2⟩ := er.at_va hs
      exact ⟨v, h1, k d Γ w H v q Stp.refl er h2⟩
    | ow ds =>
      obtain ⟨v, h1, h2, h3⟩ := er.frz_ow hs
      exact ⟨v, h1, k _ _ w H v q (stp_frz hs) h2 h3⟩
    | od ks ds =>
      obtain ⟨v, h1, h2, h3⟩ := er.frz_od hs
      exact ⟨v, h1, k _ _ w H v q (stp_frz hs) h2 h3⟩

/-! ### operations by values -/
abbrev QO2 := D → D → G → (D → G → Prop) → Prop
def Lift2 (K : PySem.W.Frag) (r : R2) (o : QO2) : Prop := ∀ c w Γ H σ x y u v (P : D → G → Prop) (Q : VK), ER K c w H σ Γ → Rep K H (Av c w σ Γ) w x u → Rep K H (Av c w σ Γ) w y v → o x y Γ P →
  (∀ d Γ' w' H' z, P d Γ' → Stp c w σ Γ H w' σ Γ' H' → ER K c w' H' σ Γ' → Rep K H' (Av c w' σ Γ') w' d z → Q z H') → r u v H Q
def qOp (o : QO2) (qa qb : QE) : QE := fun EX Γ P => qa EX Γ fun x Γ1 => qb EX Γ1 fun y Γ2 => o x y Γ2 P
theorem lift_op {r : R2} {o : QO2} (l : Lift2 X.K r o) {qa qb : QE} {c : C0} {σ : L2.St} {H : Hp} {Q : VK} (h : liftE X.K c W (qOp o qa qb) σ H Q) : tOp r (liftE X.K c W qa) (liftE X.K c W qb) σ H Q := by
  obtain ⟨w, Γ, P, EX, er, q, x, k⟩ := h
  refine ⟨w, Γ, _, EX, er, q, x, fun d Γ1 w1 H1 u q1 s1 e1 r1 => ?_⟩
  refine ⟨w1, Γ1, _, EX, e1, q1, x.stp s1, fun d2 Γ2 w2 H2 v q2 s2 e2 r2 => ?_⟩
  exact l c w2 Γ2 H2 σ d d2 u v P Q e2 (r1.stp s2) r2 q2 fun d3 Γ3 w3 H3 z q3 s3 e3 r3 => k d3 Γ3 w3 H3 z q3 ((s1.trans s2).trans s3) e3 r3
theorem q_op {op : Operator} {r : R2} {o : QO2} {a b : Expr} {qa qb : QE} {pos : Pos} (ho : OpR X (binaryOp op) r) (l : Lift2 X.K r o) (ha : QEx X W a qa) (hb : QEx X W b qb) : QEx X W (.BinOp a op b pos) (qOp o qa qb) := fun c =>
  PEi (pe_op ho (ha c) (hb c)) fun σ H Q h => lift_op l h
theorem q_cmp {op : CmpOp} {r : R2} {o : QO2} {a b : Expr} {qa qb : QE} {pos : Pos} (ho : OpR X (compareOp op) r) (l : Lift2 X.K r o) (ha : QEx X W a qa) (hb : QEx X W b qb) (hm : behindInMarks op b = false) : QEx X W (.Compare a [op] [b] pos) (qOp o qa qb) := fun c =>
  PEi (pe_cmpR ho (ha c) (hb c) hm) fun σ H Q h => lift_op l h
theorem q_ixR {r : R2} {o : QO2} {a b : Expr} {qa qb : QE} {pos : Pos} (ho : IxR X r) (l : Lift2 X.K r o) (ha : QEx X W a qa) (hb : QEx X W b qb) (hs : PlainIx b) : QEx X W (.Subscript a b pos) (qOp o qa qb) := fun c =>
  PEi (pe_ix ho (ha c) (hb c) hs) fun σ H Q h => lift_op l h
/-- a value made of nothing new -/
theorem fin_same {K : PySem.W.Frag} {c : C0} {w : List Addr} {H : Hp} {σ : L2.St} {Γ : G} {P : D → G → Prop} {Q : VK} {d : D} {v : V} (e : ER K c w H σ Γ)
    (k : ∀ d Γ' w' H' z, P d Γ' → Stp c w σ Γ H w' σ Γ' H' → ER K c w' H' σ Γ' → Rep K H' (Av c w' σ Γ') w' d z → Q z H') (q : P d Γ) (r : Rep K H (Av c w σ Γ) w d v) : Q v H := k d Γ w H v q Stp.refl e r
/-- a new tuple -/
theorem fin_tup {K : PySem.W.Frag} {c : C0} {w : List Addr} {H : Hp} {σ : L2.St} {Γ : G} {P : D → G → Prop} {Q : VK} {ds : List D} {xs : List V} {p : Addr} (e : ER K c w H σ Γ)
    (k : ∀ d Γ' w' H' z, P d Γ' → Stp c w σ Γ H w' σ Γ' H' → ER K c w' H' σ Γ' → Rep K H' (Av c w' σ Γ') w' d z → Q z H') (q : P (.tup ds) Γ) (r : Reps K H (Av c w σ Γ) w ds xs) (hp : H p = none) : Q (.ref p) (upd H p (.tup xs)) :=
  k _ Γ w _ _ q (Stp.same (same_new hp)) (e.same (same_new hp)) ⟨p, xs, rfl, TpA.new (e.fresh hp), r.stp (Stp.same (σ := σ) (same_new hp))⟩
theorem fin_lst {K : PySem.W.Frag} {c : C0} {w : List Addr} {H : Hp} {σ : L2.St} {Γ : G} {P : D → G → Prop} {Q : VK} {ds : List D} {xs : List V} {p : Addr} (e : ER K c w H σ Γ)
    (k : ∀ d Γ' w' H' z, P d Γ' → Stp c w σ Γ H w' σ Γ' H' → ER K c w' H' σ Γ' → Rep K H' (Av c w' σ Γ') w' d z → Q z H') (q : P (.lst ds) Γ) (r : Reps K H (Av c w σ Γ) w ds xs) (hp : H p = none) : Q (.ref p) (upd H p (.lst xs)) :=
  k _ Γ w _ _ q (Stp.same (same_new hp)) (e.same (same_new hp)) ⟨p, xs, rfl, LsA.new (e.fresh hp), r.stp (Stp.same (σ := σ) (same_new hp))⟩
/-- a new list as a value -/
theorem q_ofL {e : Expr} {q : QL_} (h : QLx X W e q) : QEx X W e (fun EX Γ P => q EX Γ fun ds Γ' => P (.lst ds) Γ') := fun c => PEi (h c) fun σ H Q ⟨w, Γ, P, EX, er, q, x, k⟩ =>
  ⟨w, Γ, _, EX, er, q, x, fun ds Γ' w' H' p xs q1 s1 e1 hp r1 => fin_lst (P := P) e1 (fun d Γ2 w2 H2 z q2 s2 e2 r2 => k d Γ2 w2 H2 z q2 (s1.trans s2) e2 r2) q1 r1 hp⟩
end
end QL
namespace QL
open PySem PySem.Spec PyProof.Rows L2

/-! ### arithmetic -/
def oI (C : Int → Int → Prop) (g : Int → Int → D) : QO2 := fun x y Γ P => match x, y with
  | .int i, .int j => C i j ∧ P (g i j) Γ
  | _, _ => False
def oI0 (g : Int → Int → D) : QO2 := fun x y Γ P => match x, y with
  | .int i, .int j => P (g i j) Γ
  | _, _ => False
theorem l_I {K : PySem.W.Frag} {C : Int → Int → Prop} {g : Int → Int → D} {gv : Int → Int → V} (hg : ∀ i j H av w, Rep K H av w (g i j) (gv i j)) : Lift2 K (rI C gv) (oI C g) := by
  intro c w Γ H σ x y u v P Q e rx ry o k
  cases x <;> try exact o.elim
  cases y <;> try exact o.elim
  obtain ⟨h1, h2⟩ := o
  exact ⟨_, _, rx, ry, h1, fin_same e k h2 (hg _ _ _ _ _)⟩
theorem l_I0 {K : PySem.W.Frag} {g : Int → Int → D} {gv : Int → Int → V} (hg : ∀ i j H av w, Rep K H av w (g i j) (gv i j)) : Lift2 K (rI0 gv) (oI0 g) := by
  intro c w Γ H σ x y u v P Q e rx ry o k
  cases x <;> try exact o.elim
  cases y <;> try exact o.elim
  exact ⟨_, _, rx, ry, fin_same e k o (hg _ _ _ _ _)⟩
def oSub : QO2 := oI0 fun i j => .int (i - j)
/-- the divisor not null, of less than 9000 bits -/
def CDv (_ j : Int) : Prop := j ≠ 0 ∧ j.natAbs.log2 < 9000
def oDiv : QO2 := oI CDv fun i j => .int (i.fdiv j)
def oMod : QO2 := oI (fun _ j => j ≠ 0) fun i j => .int (i.fmod j)
def oPow : QO2 := oI CPow fun i j => .int (i ^ j.toNat)
def oLt : QO2 := oI0 fun i j => .bl (decide (i < j))
def oLe : QO2 := oI0 fun i j => .bl (decide (i ≤ j))
def oGt : QO2 := oI0 fun i j => .bl (decide (j < i))
def oGe : QO2 := oI0 fun i j => .bl (decide (j ≤ i))
def oAdd : QO2 := fun x y Γ P => match x, y with
  | .int i, .int j => P (.int (i + j)) Γ
  | .str i, .str j => i.length + j.length ≤ sizeLine ∧ P (.str (i ++ j)) Γ
  | .lst a, .lst b => a.length + b.length ≤ sizeLine ∧ P (.lst (a ++ b)) Γ
  | .tup a, .tup b => a.length + b.length ≤ sizeLine ∧ P (.tup (a ++ b)) Γ
  | _, _ => False
def repD (a : List D) (k : Int) : List D := (List.replicate k.toNat a).flatten
def oMul : QO2 := fun x y Γ P => match x, y with
  | .int i, .int j => CMulW i j ∧ P (.int (i * j)) Γ
  | .lst a, .int k => -(2 ^ 63) ≤ k ∧ k < 2 ^ 63 ∧ a.length * k.toNat ≤ sizeLine ∧ P (.lst (repD a k)) Γ
  | .tup a, .int k => a ≠ [] ∧ 2 ≤ k ∧ k ≤ 1000 ∧ a.length ≤ 1000 ∧ P (.tup (repD a k)) Γ
  | _, _ => False
theorem Reps.flat {K : PySem.W.Frag} {H : Hp} {av : Addr → Prop} {w : List Addr} {ds : List D} {xs : List V} (r : Reps K H av w ds xs) : ∀ n : Nat, Reps K H av w (List.replicate n ds).flatten (List.replicate n xs).flatten
  | 0 => rfl
  | n + 1 => by
    rw [List.replicate_succ, List.replicate_succ, List.flatten_cons, List.flatten_cons]
    exact r.append (Reps.flat r n)
theorem Reps.nil_iff {K : PySem.W.Frag} {H : Hp} {av : Addr → Prop} {w : List Addr} {ds : List D} {xs : List V} (r : Reps K H av w ds xs) : xs = [] ↔ ds = [] := by
  have := r.length
  constructor
  · intro h
    subst h
    exact List.eq_nil_of_length_eq_zero this.symm
  · intro h
    subst h
    exact List.eq_nil_of_length_eq_zero this
section
variable {X : Cx} {W : WX} {a b : Expr} {qa qb : QE} {pos : Pos}
theorem op_fdivA : OpR X (binaryOp .FloorDiv) (rI CDv fun i j => .int (i.fdiv j)) := opI fun i j _ _ _ _ _ hc q => floordiv_int hc.1 q (.inl (PyProof.noPylong_of_log2 hc.2))
theorem q_sub (ha : QEx X W a qa) (hb : QEx X W b qb) : QEx X W (.BinOp a .Sub b pos) (qOp oSub qa qb) := q_op op_sub (l_I0 fun _ _ _ _ _ => rfl) ha hb
theorem q_fdiv (ha : QEx X W a qa) (hb : QEx X W b qb) : QEx X W (.BinOp a .FloorDiv b pos) (qOp oDiv qa qb) := q_op op_fdivA (l_I fun _ _ _ _ _ => rfl) ha hb
theorem q_mod (ha : QEx X W a qa) (hb : QEx X W b qb) : QEx X W (.BinOp a .Mod b pos) (qOp oMod qa qb) := q_op op_modN (l_I fun _ _ _ _ _ => rfl) ha hb
theorem q_pow (ha : QEx X W a qa) (hb : QEx X W b qb) : QEx X W (.BinOp a .Pow b pos) (qOp oPow qa qb) := q_op op_pow (l_I fun _ _ _ _ _ => rfl) ha hb
theorem q_lt (ha : QEx X W a qa) (hb : QEx X W b qb) : QEx X W (.Compare a [.Lt] [b] pos) (qOp oLt qa qb) := q_cmp op_lt (l_I0 fun _ _ _ _ _ => rfl) ha hb (nomark _)
theorem q_le (ha : QEx X W a qa) (hb : QEx X W b qb) : QEx X W (.Compare a [.LtE] [b] pos) (qOp oLe qa qb) := q_cmp op_le (l_I0 fun _ _ _ _ _ => rfl) ha hb (nomark _)
theorem q_gt (ha : QEx X W a qa) (hb : QEx X W b qb) : QEx X W (.Compare a [.Gt] [b] pos) (qOp oGt qa qb) := q_cmp op_gt (l_I0 fun _ _ _ _ _ => rfl) ha hb (nomark _)
theorem q_ge (ha : QEx X W a qa) (hb : QEx X W b qb) : QEx X W (.Compare a [.GtE] [b] pos) (qOp oGe qa qb) := q_cmp op_ge (l_I0 fun _ _ _ _ _ => rfl) ha hb (nomark _)
def rAddX (K : PySem.W.Frag) : R2 := fun x y H Q => (rI0 fun i j => .int (i + j)) x y H Q ∨ (∃ i j, x = .str i ∧ y = .str j ∧ i.length + j.length ≤ sizeLine ∧ Q (.str (i ++ j)) H) ∨ rCat x y H Q ∨ rCatA K x y H Q
theorem op_addX : OpR X (binaryOp .Add) (rAddX X.K) := op_add.or (op_add_str.or (op_cat.or op_catA))
theorem l_add {K : PySem.W.Frag} : Lift2 K (rAddX K) oAdd := by
  intro c w Γ H σ x y u v P Q e rx ry o k
  cases x with
  | int i =>
    cases y <;> try exact o.elim
    exact .inl ⟨_, _, rx, ry, fin_same e k o rfl⟩
  | str i =>
    cases y <;> try exact o.elim
    exact .inr (.inl ⟨_, _, rx, ry, o.1, fin_same e k o.2 rfl⟩)
  | lst ds =>
    cases y <;> try exact o.elim
    obtain ⟨p, xs, rfl, h1, r1⟩ := rx
    obtain ⟨p', xs', rfl, h2, r2⟩ := ry
    exact .inr (.inr (.inl ⟨_, _, _, _, rfl, rfl, h1.1, h2.1, by rw [r1.length, r2.length]; exact o.1, fun p hp => fin_lst e k o.2 (r1.append r2) hp⟩))
  | tup ds =>
    cases y <;> try exact o.elim
    obtain ⟨p, xs, rfl, h1, r1⟩ := rx
    obtain ⟨p', xs', rfl, h2, r2⟩ := ry
    refine .inr (.inr (.inr ⟨_, _, _, _, rfl, rfl, h1.sq, h2.sq, by rw [r1.length, r2.length]; exact o.1, fun z => ?_, fun _ z => ?_, fun _ _ p hp => fin_tup e k o.2 (r1.append r2) hp⟩))
    · have z' := r1.nil_iff.mp z
      subst z'
      exact fin_same e k o.2 ⟨p', xs', rfl, h2, r2⟩
    · have z' := r2.nil_iff.mp z
      subst z'
      have o2 : P (.tup (ds ++ [])) Γ := o.2
      rw [List.append_nil] at o2
      exact fin_same e k o2 ⟨p, xs, rfl, h1, r1⟩
  | _ => exact o.elim
theorem q_add (ha : QEx X W a qa) (hb : QEx X W b qb) : QEx X W (.BinOp a .Add b pos) (qOp oAdd qa qb) := q_op op_addX l_add ha hb
def rMulX (K : PySem.W.Frag) : R2 := fun x y H Q => (rI CMulW fun i j => .int (i * j)) x y H Q ∨ rRep x y H Q ∨ rRepT K x y H Q
theorem op_mulX : OpR X (binaryOp .Mult) (rMulX X.K) := op_mulW.or (op_rep.or op_repT)
theorem l_mul {K : PySem.W.Frag} : Lift2 K (rMulX K) oMul := by
  intro c w Γ H σ x y u v P Q e rx ry o k
  cases x with
  | int i =>
    cases y <;> try exact o.elim
    exact .inl ⟨_, _, rx, ry, o.1, fin_same e k o.2 rfl⟩
  | lst ds =>
    cases y <;> try exact o.elim
    obtain ⟨p, xs, rfl, h1, r1⟩ := rx
    obtain ⟨o1, o2, o3, o4⟩ := o
    exact .inr (.inl ⟨_, _, _, rfl, ry, h1.1, o1, o2, by rw [r1.length]; exact o3, fun p hp => fin_lst e k o4 (r1.flat _) hp⟩)
  | tup ds =>
    cases y <;> try exact o.elim
    obtain ⟨p, xs, rfl, h1, r1⟩ := rx
    obtain ⟨o1, o2, o3, o4, o5⟩ := o
    exact .inr (.inr ⟨_, _, _, rfl, ry, h1.sq, fun z => o1 (r1.nil_iff.mp z), o2, o3, by rw [r1.length]; exact o4, fun p hp => fin_tup e k o5 (r1.flat _) hp⟩)
  | _ => exact o.elim
theorem q_mul (ha : QEx X W a qa) (hb : QEx X W b qb) : QEx X W (.BinOp a .Mult b pos) (qOp oMul qa qb) := q_op op_mulX l_mul ha hb
end
/-! ### operations on one value -/
abbrev QO1 := D → G → (D → G → Prop) → Prop
def Lift1 (K : PySem.W.Frag) (r : V → Hp → VK → Prop) (o : QO1) : Prop := ∀ c w Γ H σ x u (P : D → G → Prop) (Q : VK), ER K c w H σ Γ → Rep K H (Av c w σ Γ) w x u → o x Γ P →
  (∀ d Γ' w' H' z, P d Γ' → Stp c w σ Γ H w' σ Γ' H' → ER K c w' H' σ Γ' → Rep K H' (Av c w' σ Γ') w' d z → Q z H') → r u H Q
def qUn (o : QO1) (qa : QE) : QE := fun EX Γ P => qa EX Γ fun x Γ1 => o x Γ1 P
theorem lift_un {K : PySem.W.Frag} {W : WX} {r : V → Hp → VK → Prop} {o : QO1} (l : Lift1 K r o) {qa : QE} {c : C0} {σ : L2.St} {H : Hp} {Q : VK} (h : liftE K c W (qUn o qa) σ H Q) : liftE K c W qa σ H fun x H1 => r x H1 Q := by
  obtain ⟨w, Γ, P, EX, er, q, x, k⟩ := h
  exact ⟨w, Γ, _, EX, er, q, x, fun d Γ1 w1 H1 u q1 s1 e1 r1 => l c w1 Γ1 H1 σ d u P Q e1 r1 q1 fun d3 Γ3 w3 H3 z q3 s3 e3 r3 => k d3 Γ3 w3 H3 z q3 (s1.trans s3) e3 r3⟩
def oNeg : QO1 := fun x Γ P => match x with
  | .int i => P (.int (-i)) Γ
  | _ => False
def oIsN : QO1 := fun x Γ P => match x with
  | .non => P (.bl true) Γ
  | _ => P (.bl false) Γ
def oNotN : QO1 := fun x Γ P => match x with
  | .non => P (.bl false) Γ
  | _ => P (.bl true) Γ
def D.isNon : D → Bool
  | .non => true
  | _ => false
theorem Rep.non_iff {K : PySem.W.Frag} {H : Hp} {av : Addr → Prop} {w : List Addr} {x : D} {u : V} (r : Rep K H av w x u) : decide (u = V.non) = x.isNon := by
  cases x with
  | non =>
    have r : u = _ := r
    subst r
    rfl
  | bl _ =>
    have r : u = _ := r
    subst r
    rfl
  | int _ =>
    have r : u = _ := r
    subst r
    rfl
  | str _ =>
    have r : u = _ := r
    subst r
    rfl
  | ty _ =>
    have r : u = _ := r
    subst r
    rfl
  | adr _ =>
    have r : u = _ := r
    subst r
    rfl
  | tup _ =>
    obtain ⟨_, _, rfl, _⟩ := r
    rfl
  | lst _ =>
    obtain ⟨_, _, rfl, _⟩ := r
    rfl
  | dic _ _ =>
    obtain ⟨_, _, rfl, _⟩ := r
    rfl
  | frl _ =>
    obtain ⟨_, _, rfl, _⟩ := r
    rfl
  | ref _ =>
    obtain ⟨_, rfl, _⟩ := r
    rfl
section
variable {X : Cx} {W : WX} {a b : Expr} {qa qb : QE} {pos : Pos}
theorem q_neg (ha : QEx X W a qa) : QEx X W (.UnaryOp .USub a pos) (qUn oNeg qa) := fun c => PEi (pe_un un_neg (ha c)) fun σ H Q h => lift_un (r := rU fun i => .int (-i)) (by
  intro c w Γ H σ x u P Q e rx o k
  cases x <;> try exact o.elim
  exact ⟨_, rx, fin_same e k o rfl⟩) h
theorem q_isN {j pos'} (ha : QEx X W a qa) : QEx X W (.Compare a [.Is] [.Constant .none j pos'] pos) (qUn oIsN qa) := fun c => PEi (pe_cmp (pc_isN (ha c)) rfl) fun σ H Q h => lift_un (r := fun x H Q => Q (.bl (decide (x = .non))) H) (by
  intro c w Γ H σ x u P Q e rx o k
  rw [rx.non_iff]
  cases x <;> exact fin_same e k o rfl) h
theorem q_notN {j pos'} (ha : QEx X W a qa) : QEx X W (.Compare a [.IsNot] [.Constant .none j pos'] pos) (qUn oNotN qa) := fun c => PEi (pe_cmp (pc_notN (ha c)) rfl) fun σ H Q h => lift_un (r := fun x H Q => Q (.bl (!decide (x = .non))) H) (by
  intro c w Γ H σ x u P Q e rx o k
  rw [rx.non_iff]
  cases x <;> exact fin_same e k o rfl) h
end

/-! ### tests -/
def qTest (qa : QE) : QT := fun EX Γ P => qa EX Γ fun x Γ1 => match x with
  | .bl b => P b Γ1
  | _ => False
def qNot (t : QT) : QT := fun EX Γ P => t EX Γ fun b Γ1 => P (!b) Γ1
def qAnd (t u : QT) : QT := fun EX Γ P => t EX Γ fun b Γ1 => qB b (u EX Γ1 P) (P false Γ1)
def qOr (t u : QT) : QT := fun EX Γ P => t EX Γ fun b Γ1 => qB b (P true Γ1) (u EX Γ1 P)
/-- a test as a value -/
def qVal (t : QT) : QE := fun EX Γ P => t EX Γ fun b Γ1 => P (.bl b) Γ1
section
variable {X : Cx} {W : WX} {a b : Expr} {qa qb : QE} {t u : QT} {pos : Pos} {rest : List Expr}
theorem lift_test {c : C0} {σ : L2.St} {H : Hp} {Q : Bool → Hp → Prop} (h : liftT X.K c W (qTest qa) σ H Q) : tTest (liftE X.K c W qa) σ H Q := by
  obtain ⟨w, Γ, P, EX, er, q, x, k⟩ := h
  refine ⟨w, Γ, _, EX, er, q, x, fun d Γ1 w1 H1 u q1 s1 e1 r1 => ?_⟩
  cases d <;> try exact q1.elim
  exact ⟨_, r1, k _ _ w1 H1 q1 s1 e1⟩
theorem qt_val (ha : QEx X W a qa) (he : ∀ whole, isTrue a X.env whole = (do let v ← whole; standAt a.pos; holding [v] (truthy v)) := by intro _; rfl) : QTx X W a (qTest qa) := fun c => PTi (pt_val (ha c) he) fun σ H Q h => lift_test h
theorem qt_cmp {op : CmpOp} {r : R2} {o : QO2} (ho : OpR X (compareOp op) r) (l : Lift2 X.K r o) (ha : QEx X W a qa) (hb : QEx X W b qb) (hm : behindInMarks op b = false) : QTx X W (.Compare a [op] [b] pos) (qTest (qOp o qa qb)) := fun c =>
  PTi (pt_cmpR ho (ha c) (hb c) hm) fun σ H Q h => by
    obtain ⟨w, Γ, P, EX, er, q, x, k⟩ := h
    refine lift_op l ⟨w, Γ, _, EX, er, q, x, fun d Γ1 w1 H1 u q1 s1 e1 r1 => ?_⟩
    cases d <;> try exact q1.elim
    exact ⟨_, r1, k _ _ w1 H1 q1 s1 e1⟩
theorem qt_lt (ha : QEx X W a qa) (hb : QEx X W b qb) : QTx X W (.Compare a [.Lt] [b] pos) (qTest (qOp oLt qa qb)) := qt_cmp op_lt (l_I0 fun _ _ _ _ _ => rfl) ha hb (nomark _)
theorem qt_le (ha : QEx X W a qa) (hb : QEx X W b qb) : QTx X W (.Compare a [.LtE] [b] pos) (qTest (qOp oLe qa qb)) := qt_cmp op_le (l_I0 fun _ _ _ _ _ => rfl) ha hb (nomark _)
theorem qt_gt (ha : QEx X W a qa) (hb : QEx X W b qb) : QTx X W (.Compare a [.Gt] [b] pos) (qTest (qOp oGt qa qb)) := qt_cmp op_gt (l_I0 fun _ _ _ _ _ => rfl) ha hb (nomark _)
theorem qt_ge (ha : QEx X W a qa) (hb : QEx X W b qb) : QTx X W (.Compare a [.GtE] [b] pos) (qTest (qOp oGe qa qb)) := qt_cmp op_ge (l_I0 fun _ _ _ _ _ => rfl) ha hb (nomark _)
theorem qt_isN {j pos'} (ha : QEx X W a qa) : QTx X W (.Compare a [.Is] [.Constant .none j pos'] pos) (qTest (qUn oIsN qa)) := fun c => PTi (pt_cmp (pc_isN (ha c)) rfl) fun σ H Q h => by
  obtain ⟨w, Γ, P, EX, er, q, x, k⟩ := h
  refine ⟨w, Γ, _, EX, er, q, x, fun d Γ1 w1 H1 u q1 s1 e1 r1 => ⟨_, rfl, ?_⟩⟩
  rw [r1.non_iff]
  cases d <;> exact k _ _ w1 H1 q1 s1 e1
theorem qt_notN {j pos'} (ha : QEx X W a qa) : QTx X W (.Compare a [.IsNot] [.Constant .none j pos'] pos) (qTest (qUn oNotN qa)) := fun c => PTi (pt_cmp (pc_notN (ha c)) rfl) fun σ H Q h => by
  obtain ⟨w, Γ, P, EX, er, q, x, k⟩ := h
  refine ⟨w, Γ, _, EX, er, q, x, fun d Γ1 w1 H1 u q1 s1 e1 r1 => ⟨_, rfl, ?_⟩⟩
  rw [r1.non_iff]
  cases d <;> exact k _ _ w1 H1 q1 s1 e1
theorem qt_not (h : QTx X W a t) : QTx X W (.UnaryOp .Not a pos) (qNot t) := fun c => PTi (pt_not (h c)) fun σ H Q ⟨w, Γ, P, EX, er, q, x, k⟩ =>
  ⟨w, Γ, _, EX, er, q, x, fun b Γ1 w1 H1 q1 s1 e1 => k _ Γ1 w1 H1 q1 s1 e1⟩
/-- and, or as tests: QW whatever the whole is -/
def QWx (X : Cx) (W : WX) (e : Expr) (q : QT) : Prop := ∀ c, PW X e (liftT X.K c W q)
theorem PWi {e : Expr} {t t' : TT} (h : PW X e t) (i : ∀ σ H Q, t' σ H Q → t σ H Q) : PW X e t' := ⟨fun wh pins s σ H Q I q => h.run wh pins s σ H Q I (i σ H Q q)⟩
theorem qw_pt (h : QWx X W a t) : QTx X W a t := fun c => (h c).pt
theorem qw_and1 (h : QTx X W a t) : QWx X W (.BoolOp .And [a] pos) t := fun c => pw_and1 (h c)
theorem qw_or1 (h : QTx X W a t) : QWx X W (.BoolOp .Or [a] pos) t := fun c => pw_or1 (h c)
theorem lift_and {c : C0} {σ : L2.St} {H : Hp} {Q : Bool → Hp → Prop} (h : liftT X.K c W (qAnd t u) σ H Q) : tAnd (liftT X.K c W t) (liftT X.K c W u) σ H Q := by
  obtain ⟨w, Γ, P, EX, er, q, x, k⟩ := h
  refine ⟨w, Γ, _, EX, er, q, x, fun b Γ1 w1 H1 q1 s1 e1 => ?_⟩
  cases b with
  | true => exact ⟨w1, Γ1, P, EX, e1, q1, x.stp s1, fun b Γ2 w2 H2 q2 s2 e2 => k b Γ2 w2 H2 q2 (s1.trans s2) e2⟩
  | false => exact k false Γ1 w1 H1 q1 s1 e1
theorem lift_or {c : C0} {σ : L2.St} {H : Hp} {Q : Bool → Hp → Prop} (h : liftT X.K c W (qOr t u) σ H Q) : tOr (liftT X.K c W t) (liftT X.K c W u) σ H Q := by
  obtain ⟨w, Γ, P, EX, er, q, x, k⟩ := h
  refine ⟨w, Γ, _, EX, er, q, x, fun b Γ1 w1 H1 q1 s1 e1 => ?_⟩
  cases b with
  | false => exact ⟨w1, Γ1, P, EX, e1, q1, x.stp s1, fun b Γ2 w2 H2 q2 s2 e2 => k b Γ2 w2 H2 q2 (s1.trans s2) e2⟩
  | true => exact k true Γ1 w1 H1 q1 s1 e1
theorem qw_and (ha : QTx X W a t) (hb : QWx X W (.BoolOp .And (b :: rest) pos) u) : QWx X W (.BoolOp .And (a :: b :: rest) pos) (qAnd t u) := fun c => PWi (pw_and (ha c) (hb c)) fun σ H Q h => lift_and h
theorem qw_or (ha : QTx X W a t) (hb : QWx X W (.BoolOp .Or (b :: rest) pos) u) : QWx X W (.BoolOp .Or (a :: b :: rest) pos) (qOr t u) := fun c => PWi (pw_or (ha c) (hb c)) fun σ H Q h => lift_or h
/-- and, or of bools as values -/
def qAndV (qa qb : QE) : QE := fun EX Γ P => qa EX Γ fun x Γ1 => match x with
  | .bl b => qB b (qb EX Γ1 P) (P (.bl false) Γ1)
  | _ => False
def qOrV (qa qb : QE) : QE := fun EX Γ P => qa EX Γ fun x Γ1 => match x with
  | .bl b => qB b (P (.bl true) Γ1) (qb EX Γ1 P)
  | _ => False
def qNotV : QO1 := fun x Γ P => match x with
  | .bl b => P (.bl (!b)) Γ
  | _ => False
theorem q_one {op} (h : QEx X W a qa) : QEx X W (.BoolOp op [a] pos) qa := fun c => pe_one (h c)
theorem q_and (ha : QEx X W a qa) (hb : QEx X W (.BoolOp .And (b :: rest) pos) qb) : QEx X W (.BoolOp .And (a :: b :: rest) pos) (qAndV qa qb) := fun c => PEi (pe_and (ha c) (hb c)) fun σ H Q ⟨w, Γ, P, EX, er, q, x, k⟩ => by
  refine ⟨w, Γ, _, EX, er, q, x, fun d Γ1 w1 H1 u q1 s1 e1 r1 => ?_⟩
  cases d <;> try exact q1.elim
  rename_i b
  refine ⟨b, r1, ?_⟩
  cases b with
  | true => exact ⟨w1, Γ1, P, EX, e1, q1, x.stp s1, fun d Γ2 w2 H2 z q2 s2 e2 r2 => k d Γ2 w2 H2 z q2 (s1.trans s2) e2 r2⟩
  | false => exact k _ Γ1 w1 H1 _ q1 s1 e1 rfl
theorem q_or (ha : QEx X W a qa) (hb : QEx X W (.BoolOp .Or (b :: rest) pos) qb) : QEx X W (.BoolOp .Or (a :: b :: rest) pos) (qOrV qa qb) := fun c => PEi (pe_or (ha c) (hb c)) fun σ H Q ⟨w, Γ, P, EX, er, q, x, k⟩ => by
  refine ⟨w, Γ, _, EX, er, q, x, fun d Γ1 w1 H1 u q1 s1 e1 r1 => ?_⟩
  cases d <;> try exact q1.elim
  rename_i b
  refine ⟨b, r1, ?_⟩
  cases b with
  | false => exact ⟨w1, Γ1, P, EX, e1, q1, x.stp s1, fun d Γ2 w2 H2 z q2 s2 e2 r2 => k d Γ2 w2 H2 z q2 (s1.trans s2) e2 r2⟩
  | true => exact k _ Γ1 w1 H1 _ q1 s1 e1 rfl
theorem q_not (ha : QEx X W a qa) : QEx X W (.UnaryOp .Not a pos) (qUn qNotV qa) := fun c => PEi (pe_not (ha c)) fun σ H Q h => lift_un (r := fun x H Q => ∃ c, x = .bl c ∧ Q (.bl (!c)) H) (by
  intro c w Γ H σ x u P Q e rx o k
  cases x <;> try exact o.elim
  exact ⟨_, rx, fin_same e k o rfl⟩) h
/-- a if t else b -/
def qIf (t : QT) (qa qb : QE) : QE := fun EX Γ P => t EX Γ fun b Γ1 => qB b (qa EX Γ1 P) (qb EX Γ1 P)
theorem q_if {e : Expr} (he : QTx X W e t) (ha : QEx X W a qa) (hb : QEx X W b qb) : QEx X W (.IfExp e a b pos) (qIf t qa qb) := fun c => PEi (pe_ifExp (he c) (ha c) (hb c)) fun σ H Q ⟨w, Γ, P, EX, er, q, x, k⟩ => by
  refine ⟨w, Γ, _, EX, er, q, x, fun b Γ1 w1 H1 q1 s1 e1 => ?_⟩
  cases b with
  | true => exact ⟨w1, Γ1, P, EX, e1, q1, x.stp s1, fun d Γ2 w2 H2 z q2 s2 e2 r2 => k d Γ2 w2 H2 z q2 (s1.trans s2) e2 r2⟩
  | false => exact ⟨w1, Γ1, P, EX, e1, q1, x.stp s1, fun d Γ2 w2 H2 z q2 s2 e2 r2 => k d Γ2 w2 H2 z q2 (s1.trans s2) e2 r2⟩
/-- a op b op' c -/
def qChain (o o' : QO2) (qa qb qc : QE) : QE := fun EX Γ P => qa EX Γ fun x Γ1 => qb EX Γ1 fun y Γ2 => o x y Γ2 fun z Γ3 => match z with
  | .bl b => qB b (qc EX Γ3 (fun w Γ4 => o' y w Γ4 P)) (P (.bl false) Γ3)
  | _ => False
theorem lift_chain {r r' : R2} {o o' : QO2} {qc : QE} (l : Lift2 X.K r o) (l' : Lift2 X.K r' o') {c : C0} {σ : L2.St} {H : Hp} {Q : VK} (h : liftE X.K c W (qChain o o' qa qb qc) σ H Q) : tChain r r' (liftE X.K c W qa) (liftE X.K c W qb) (liftE X.K c W qc) σ H Q := by
  obtain ⟨w, Γ, P, EX, er, q, x, k⟩ := h
  refine ⟨w, Γ, _, EX, er, q, x, fun d Γ1 w1 H1 u q1 s1 e1 r1 => ?_⟩
  refine ⟨w1, Γ1, _, EX, e1, q1, x.stp s1, fun d2 Γ2 w2 H2 v q2 s2 e2 r2 => ?_⟩
  refine l c w2 Γ2 H2 σ d d2 u v _ _ e2 (r1.stp s2) r2 q2 fun d3 Γ3 w3 H3 z q3 s3 e3 r3 => ?_
  cases d3 <;> try exact q3.elim
  rename_i b
  refine ⟨b, r3, ?_⟩
  cases b with
  | true =>
    refine ⟨w3, Γ3, _, EX, e3, q3, x.stp ((s1.trans s2).trans s3), fun d4 Γ4 w4 H4 v4 q4 s4 e4 r4 => ?_⟩
    exact l' c w4 Γ4 H4 σ d2 d4 v v4 P Q e4 ((r2.stp s3).stp s4) r4 q4 fun d5 Γ5 w5 H5 z q5 s5 e5 r5 => k d5 Γ5 w5 H5 z q5 ((((s1.trans s2).trans s3).trans s4).trans s5) e5 r5
  | false => exact k _ Γ3 w3 H3 _ q3 ((s1.trans s2).trans s3) e3 rfl
end
end QL
namespace QL
open PySem PySem.Spec PyProof.Rows L2
/-! ### arguments, displays -/
def qNil : QA := fun _ Γ P => P [] Γ
def qCons (qa : QE) (qr : QA) : QA := fun EX Γ P => qa EX Γ fun d Γ1 => qr EX Γ1 fun ds Γ2 => P (d :: ds) Γ2
section
variable {X : Cx} {W : WX} {a b e : Expr} {es : List Expr} {qa qb q : QE} {qr : QA} {pos : Pos}
theorem qa_nil : QAx X W [] qNil := fun c => PAi pa_nil fun σ H Q ⟨w, Γ, P, EX, er, q, x, k⟩ => k [] Γ w H [] q Stp.refl er rfl
theorem qa_cons (ha : QEx X W e qa) (hr : QAx X W es qr) (hs : starEach (e :: es) X.env = (false, eval e X.env) :: starEach es X.env := by rfl) : QAx X W (e :: es) (qCons qa qr) := fun c =>
  PAi (pa_cons (ha c) (hr c) hs) fun σ H Q ⟨w, Γ, P, EX, er, q, x, k⟩ => ⟨w, Γ, _, EX, er, q, x, fun d Γ1 w1 H1 u q1 s1 e1 r1 =>
    ⟨w1, Γ1, _, EX, e1, q1, x.stp s1, fun ds Γ2 w2 H2 us q2 s2 e2 r2 => k _ Γ2 w2 H2 _ q2 (s1.trans s2) e2 (Reps.cons (r1.stp s2) r2)⟩⟩
def qTup (qa : QA) : QE := fun EX Γ P => qa EX Γ fun ds Γ1 => ds.length ≤ sizeLine ∧ P (.tup ds) Γ1
def qLst (qa : QA) : QL_ := fun EX Γ P => qa EX Γ fun ds Γ1 => ds.length ≤ sizeLine ∧ P ds Γ1
theorem q_tup {x1} (h : QAx X W es qr) : QEx X W (.Tuple es x1 pos) (qTup qr) := fun c => PEi (pe_tup (h c)) fun σ H Q ⟨w, Γ, P, EX, er, q, x, k⟩ =>
  ⟨w, Γ, _, EX, er, q, x, fun ds Γ1 w1 H1 us q1 s1 e1 r1 => ⟨by rw [r1.length]; exact q1.1, fun p hp => fin_tup (P := P) e1 (fun d Γ2 w2 H2 z q2 s2 e2 r2 => k d Γ2 w2 H2 z q2 (s1.trans s2) e2 r2) q1.2 r1 hp⟩⟩
theorem ql_lst (h : QAx X W es qr) : QLx X W (.List es pos) (qLst qr) := fun c => PEi (pe_lst (h c)) fun σ H Q ⟨w, Γ, P, EX, er, q, x, k⟩ =>
  ⟨w, Γ, _, EX, er, q, x, fun ds Γ1 w1 H1 us q1 s1 e1 r1 => ⟨by rw [r1.length]; exact q1.1, fun p hp => k ds Γ1 w1 H1 p us q1.2 s1 e1 hp r1⟩⟩
/-- a new list, as a value -/
def qOfL (q : QL_) : QE := fun EX Γ P => q EX Γ fun ds Γ' => P (.lst ds) Γ'
theorem q_lst (h : QAx X W es qr) : QEx X W (.List es pos) (qOfL (qLst qr)) := q_ofL (ql_lst h)

/-! ### built-ins by values -/
abbrev QOn := List D → G → (D → G → Prop) → Prop
def LiftN (K : PySem.W.Frag) (r : List V → Hp → VK → Prop) (o : QOn) : Prop := ∀ c w Γ H σ xs us (P : D → G → Prop) (Q : VK), ER K c w H σ Γ → Reps K H (Av c w σ Γ) w xs us → o xs Γ P →
  (∀ d Γ' w' H' z, P d Γ' → Stp c w σ Γ H w' σ Γ' H' → ER K c w' H' σ Γ' → Rep K H' (Av c w' σ Γ') w' d z → Q z H') → r us H Q
/-- .. that give a new list -/
def LiftNL (K : PySem.W.Frag) (r : List V → Hp → VK → Prop) (o : List D → G → (List D → G → Prop) → Prop) : Prop := ∀ c w Γ H σ xs us (P : List D → G → Prop) (Q : VK), ER K c w H σ Γ → Reps K H (Av c w σ Γ) w xs us → o xs Γ P →
  (∀ ds Γ' w' H' p zs, P ds Γ' → Stp c w σ Γ H w' σ Γ' H' → ER K c w' H' σ Γ' → H' p = none → Reps K H' (Av c w' σ Γ') w' ds zs → Q (.ref p) (upd H' p (.lst zs))) → r us H Q
def qCB (o : QOn) (qa : QA) : QE := fun EX Γ P => qa EX Γ fun ds Γ1 => o ds Γ1 P
def qCBL (o : List D → G → (List D → G → Prop) → Prop) (qa : QA) : QL_ := fun EX Γ P => qa EX Γ fun ds Γ1 => o ds Γ1 P
theorem lift_cb {r : List V → Hp → VK → Prop} {o : QOn} (l : LiftN X.K r o) {c : C0} {σ : L2.St} {H : Hp} {Q : VK} (h : liftE X.K c W (qCB o qr) σ H Q) : tCB r (liftA X.K c W qr) σ H Q := by
  obtain ⟨w, Γ, P, EX, er, q, x, k⟩ := h
  exact ⟨w, Γ, _, EX, er, q, x, fun d Γ1 w1 H1 u q1 s1 e1 r1 => l c w1 Γ1 H1 σ d u P Q e1 r1 q1 fun d3 Γ3 w3 H3 z q3 s3 e3 r3 => k d3 Γ3 w3 H3 z q3 (s1.trans s3) e3 r3⟩
theorem lift_cbl {r : List V → Hp → VK → Prop} {o : List D → G → (List D → G → Prop) → Prop} (l : LiftNL X.K r o) {c : C0} {σ : L2.St} {H : Hp} {Q : VK} (h : liftL X.K c W (qCBL o qr) σ H Q) : tCB r (liftA X.K c W qr) σ H Q := by
  obtain ⟨w, Γ, P, EX, er, q, x, k⟩ := h
  exact ⟨w, Γ, _, EX, er, q, x, fun d Γ1 w1 H1 u q1 s1 e1 r1 => l c w1 Γ1 H1 σ d u P Q e1 r1 q1 fun d3 Γ3 w3 H3 p z q3 s3 e3 hp r3 => k d3 Γ3 w3 H3 p z q3 (s1.trans s3) e3 hp r3⟩
variable {x : Str} {p : Pos} {id T : String} {r : List V → Hp → VK → Prop} {o : QOn} {oL : List D → G → (List D → G → Prop) → Prop}
theorem q_callB (hc : CallR X (.builtin id) r) (l : LiftN X.K r o) (hg : Gl X x) (hm : X.mg x = none) (hv : bootBuiltins x = some (.builtin id)) (ha : QAx X W (e :: es) qr) (hn : x ≠ "__name__" := by decide) (hdb : (x == ("__debug__" : Str)) = false := by decide)
    (he : starEach (e :: es) X.env = (false, eval e X.env) :: starEach es X.env := by rfl) (hpl : (backTo pos (starEach es X.env)).any (·.1) = false := by rfl) : QEx X W (.Call (.Name x p) (e :: es) [] pos) (qCB o qr) := fun c =>
  PEi (pe_callB hc hg hm hv (ha c) hn hdb he hpl) fun σ H Q h => lift_cb l h
theorem q_callTy (hc : CallR X (.type T) r) (l : LiftN X.K r o) (hg : Gl X x) (hm : X.mg x = none) (hv : bootBuiltins x = some (.type T)) (ha : QAx X W (e :: es) qr) (hn : x ≠ "__name__" := by decide) (hdb : (x == ("__debug__" : Str)) = false := by decide)
    (he : starEach (e :: es) X.env = (false, eval e X.env) :: starEach es X.env := by rfl) (hpl : (backTo pos (starEach es X.env)).any (·.1) = false := by rfl) : QEx X W (.Call (.Name x p) (e :: es) [] pos) (qCB o qr) := fun c =>
  PEi (pe_callTy hc hg hm hv (ha c) hn hdb he hpl) fun σ H Q h => lift_cb l h
theorem ql_callTy (hc : CallR X (.type T) r) (l : LiftNL X.K r oL) (hg : Gl X x) (hm : X.mg x = none) (hv : bootBuiltins x = some (.type T)) (ha : QAx X W (e :: es) qr) (hn : x ≠ "__name__" := by decide) (hdb : (x == ("__debug__" : Str)) = false := by decide)
    (he : starEach (e :: es) X.env = (false, eval e X.env) :: starEach es X.env := by rfl) (hpl : (backTo pos (starEach es X.env)).any (·.1) = false := by rfl) : QLx X W (.Call (.Name x p) (e :: es) [] pos) (qCBL oL qr) := fun c =>
  PEi (pe_callTy hc hg hm hv (ha c) hn hdb he hpl) fun σ H Q h => lift_cbl l h
/-- len -/
def D.seq : D → Option (List D)
  | .lst ds => some ds
  | .tup ds => some ds
  | .frl ds => some ds
  | _ => none
theorem Rep.seqR {K : PySem.W.Frag} {H : Hp} {av : Addr → Prop} {w : List Addr} {d : D} {v : V} {ds : List D} (r : Rep K H av w d v) (h : d.seq = some ds) : ∃ a xs, v = .ref a ∧ (SqL K H a xs ∨ SqT K H a xs) ∧ Reps K H av w ds xs := by
  cases d <;> try cases h
  · obtain ⟨a, xs, e, h1, h2⟩ := r
    exact ⟨a, xs, e, .inr h1.sq, h2⟩
  · obtain ⟨a, xs, e, h1, h2⟩ := r
    exact ⟨a, xs, e, .inl h1.sq, h2⟩
  · obtain ⟨a, xs, e, h1, h2⟩ := r
    exact ⟨a, xs, e, .inl h1.sq, h2⟩
def oLen : QOn := fun xs Γ P => match xs with
  | [.str z] => z.length ≤ sizeLine ∧ P (.int (z.length : Int)) Γ
  | [.lst ds] => P (.int (ds.length : Int)) Γ
  | [.tup ds] => P (.int (ds.length : Int)) Γ
  | [.frl ds] => P (.int (ds.length : Int)) Γ
  | _ => False
theorem reps1 {K : PySem.W.Frag} {H : Hp} {av : Addr → Prop} {w : List Addr} {d : D} {us : List V} (r : Reps K H av w [d] us) : ∃ u, us = [u] ∧ Rep K H av w d u := by
  obtain ⟨u, r', rfl, h, h'⟩ := r
  have h' : r' = [] := h'
  subst h'
  exact ⟨u, rfl, h⟩
theorem reps2 {K : PySem.W.Frag} {H : Hp} {av : Addr → Prop} {w : List Addr} {d d' : D} {us : List V} (r : Reps K H av w [d, d'] us) : ∃ u u', us = [u, u'] ∧ Rep K H av w d u ∧ Rep K H av w d' u' := by
  obtain ⟨u, r', rfl, h, h'⟩ := r
  obtain ⟨u', rfl, h2⟩ := reps1 h'
  exact ⟨u, u', rfl, h, h2⟩
theorem l_len {K : PySem.W.Frag} : LiftN K (fun xs H Q => ∃ x n, xs = [x] ∧ LenV K x H n ∧ Q (.int n) H) oLen := by
  intro c w Γ H σ xs us P Q e r o k
  match xs, o with
  | [.str z], o =>
    obtain ⟨u, rfl, h⟩ := reps1 r
    have h : u = .str z := h
    subst h
    exact ⟨_, z.length, rfl, ⟨o.1, rfl⟩, fin_same e k o.2 rfl⟩
  | [.lst ds], o =>
    obtain ⟨u, rfl, a, ys, rfl, h1, h2⟩ := reps1 r
    exact ⟨_, ys.length, rfl, .inl ⟨ys, h1.sq, rfl⟩, fin_same e k o (by show _ = _; rw [h2.length])⟩
  | [.tup ds], o =>
    obtain ⟨u, rfl, a, ys, rfl, h1, h2⟩ := reps1 r
    exact ⟨_, ys.length, rfl, .inr ⟨ys, h1.sq, rfl⟩, fin_same e k o (by show _ = _; rw [h2.length])⟩
  | [.frl ds], o =>
    obtain ⟨u, rfl, a, ys, rfl, h1, h2⟩ := reps1 r
    exact ⟨_, ys.length, rfl, .inl ⟨ys, h1.sq, rfl⟩, fin_same e k o (by show _ = _; rw [h2.length])⟩
theorem q_len (hg : Gl X "len") (hm : X.mg "len" = none) (ha : QAx X W [e] qr) (he : starEach [e] X.env = (false, eval e X.env) :: starEach [] X.env := by rfl) (hpl : (backTo pos (starEach [] X.env)).any (·.1) = false := by rfl) :
    QEx X W (.Call (.Name "len" p) [e] [] pos) (qCB oLen qr) := q_callB call_len l_len hg hm boot_len ha (by decide) (by decide) he hpl
def oAbs : QOn := fun xs Γ P => match xs with
  | [.int i] => P (.int (if i < 0 then -i else i)) Γ
  | _ => False
theorem l_abs {K : PySem.W.Frag} : LiftN K (fun xs H Q => ∃ i, xs = [.int i] ∧ Q (.int (if i < 0 then -i else i)) H) oAbs := by
  intro c w Γ H σ xs us P Q e r o k
  match xs, o with
  | [.int i], o =>
    obtain ⟨u, rfl, h⟩ := reps1 r
    have h : u = .int i := h
    subst h
    exact ⟨_, rfl, fin_same e k o rfl⟩
def oMax : QOn := fun xs Γ P => match xs with
  | [.int i, .int j] => P (.int (if j > i then j else i)) Γ
  | _ => False
def oMin : QOn := fun xs Γ P => match xs with
  | [.int i, .int j] => P (.int (if j < i then j else i)) Γ
  | _ => False
theorem l_max {K : PySem.W.Frag} : LiftN K (fun xs H Q => ∃ i j, xs = [.int i, .int j] ∧ Q (.int (if j > i then j else i)) H) oMax := by
  intro c w Γ H σ xs us P Q e r o k
  match xs, o with
  | [.int i, .int j], o =>
    obtain ⟨u, u', rfl, h, h'⟩ := reps2 r
    have h : u = .int i := h
    have h' : u' = .int j := h'
    subst h h'
    exact ⟨_, _, rfl, fin_same e k o rfl⟩
theorem l_min {K : PySem.W.Frag} : LiftN K (fun xs H Q => ∃ i j, xs = [.int i, .int j] ∧ Q (.int (if j < i then j else i)) H) oMin := by
  intro c w Γ H σ xs us P Q e r o k
  match xs, o with
  | [.int i, .int j], o =>
    obtain ⟨u, u', rfl, h, h'⟩ := reps2 r
    have h : u = .int i := h
    have h' : u' = .int j := h'
    subst h h'
    exact ⟨_, _, rfl, fin_same e k o rfl⟩
/-- list(..) -/
def oList : List D → G → (List D → G → Prop) → Prop := fun xs Γ P => match xs with
  | [.lst ds] => P ds Γ
  | [.tup ds] => P ds Γ
  | [.frl ds] => P ds Γ
  | _ => False
theorem l_list {K : PySem.W.Frag} : LiftNL K (fun xs H Q => ∃ p ys, xs = [.ref p] ∧ (SqL K H p ys ∨ SqT K H p ys) ∧ ∀ l, H l = none → Q (.ref l) (upd H l (.lst ys))) oList := by
  intro c w Γ H σ xs us P Q e r o k
  have key : ∀ (d : D) (ds : List D), d.seq = some ds → xs = [d] → P ds Γ → ∃ p ys, us = [V.ref p] ∧ (SqL K H p ys ∨ SqT K H p ys) ∧ ∀ l, H l = none → Q (.ref l) (upd H l (.lst ys)) := by
    intro d ds h1 h2 h3
    subst h2
    obtain ⟨u, rfl, h⟩ := reps1 r
    obtain ⟨a, ys, rfl, h4, h5⟩ := h.seqR h1
    exact ⟨a, ys, rfl, h4, fun l hl => k ds Γ w H l ys h3 Stp.refl e hl h5⟩
  match xs, o with
  | [.lst ds], o => exact key _ _ rfl rfl o
  | [.tup ds], o => exact key _ _ rfl rfl o
  | [.frl ds], o => exact key _ _ rfl rfl o
/-- tuple(..) -/
def oTuple : QOn := fun xs Γ P => match xs with
  | [.lst ds] => P (.tup ds) Γ
  | [.tup ds] => P (.tup ds) Γ
  | _ => False
theorem l_tuple {K : PySem.W.Frag} : LiftN K (fun xs H Q => ∃ p ys, xs = [.ref p] ∧ ((SqL K H p ys ∧ ∀ l, H l = none → Q (.ref l) (upd H l (.tup ys))) ∨ (SqT K H p ys ∧ Q (.ref p) H))) oTuple := by
  intro c w Γ H σ xs us P Q e r o k
  match xs, o with
  | [.lst ds], o =>
    obtain ⟨u, rfl, a, ys, rfl, h1, h2⟩ := reps1 r
    exact ⟨a, ys, rfl, .inl ⟨h1.sq, fun l hl => fin_tup e k o h2 hl⟩⟩
  | [.tup ds], o =>
    obtain ⟨u, rfl, a, ys, rfl, h1, h2⟩ := reps1 r
    exact ⟨a, ys, rfl, .inr ⟨h1.sq, fin_same e k o ⟨a, ys, rfl, h1, h2⟩⟩⟩
theorem ql_list (hg : Gl X "list") (hm : X.mg "list" = none) (ha : QAx X W [e] qr) (he : starEach [e] X.env = (false, eval e X.env) :: starEach [] X.env := by rfl) (hpl : (backTo pos (starEach [] X.env)).any (·.1) = false := by rfl) :
    QLx X W (.Call (.Name "list" p) [e] [] pos) (qCBL oList qr) := ql_callTy call_list_of l_list hg hm (by decide +kernel) ha (by decide) (by decide) he hpl
theorem q_list (hg : Gl X "list") (hm : X.mg "list" = none) (ha : QAx X W [e] qr) (he : starEach [e] X.env = (false, eval e X.env) :: starEach [] X.env := by rfl) (hpl : (backTo pos (starEach [] X.env)).any (·.1) = false := by rfl) :
    QEx X W (.Call (.Name "list" p) [e] [] pos) (qOfL (qCBL oList qr)) := q_ofL (ql_list hg hm ha he hpl)
theorem q_tuple (hg : Gl X "tuple") (hm : X.mg "tuple" = none) (ha : QAx X W [e] qr) (he : starEach [e] X.env = (false, eval e X.env) :: starEach [] X.env := by rfl) (hpl : (backTo pos (starEach [] X.env)).any (·.1) = false := by rfl) :
    QEx X W (.Call (.Name "tuple" p) [e] [] pos) (qCB oTuple qr) := q_callTy call_tuple_of l_tuple hg hm (by decide +kernel) ha (by decide) (by decide) he hpl
theorem q_abs (hg : Gl X "abs") (hm : X.mg "abs" = none) (ha : QAx X W [e] qr) (he : starEach [e] X.env = (false, eval e X.env) :: starEach [] X.env := by rfl) (hpl : (backTo pos (starEach [] X.env)).any (·.1) = false := by rfl) :
    QEx X W (.Call (.Name "abs" p) [e] [] pos) (qCB oAbs qr) := q_callB call_abs l_abs hg hm (by decide +kernel) ha (by decide) (by decide) he hpl
theorem q_max2 (hc : X.calm = true) (hg : Gl X "max") (hm : X.mg "max" = none) (ha : QAx X W [e, a] qr) (he : starEach [e, a] X.env = (false, eval e X.env) :: starEach [a] X.env := by rfl) (hpl : (backTo pos (starEach [a] X.env)).any (·.1) = false := by rfl) :
    QEx X W (.Call (.Name "max" p) [e, a] [] pos) (qCB oMax qr) := q_callB (call_max2 hc) l_max hg hm (by decide +kernel) ha (by decide) (by decide) he hpl
theorem q_min2 (hc : X.calm = true) (hg : Gl X "min") (hm : X.mg "min" = none) (ha : QAx X W [e, a] qr) (he : starEach [e, a] X.env = (false, eval e X.env) :: starEach [a] X.env := by rfl) (hpl : (backTo pos (starEach [a] X.env)).any (·.1) = false := by rfl) :
    QEx X W (.Call (.Name "min" p) [e, a] [] pos) (qCB oMin qr) := q_callB (call_min2 hc) l_min hg hm (by decide +kernel) ha (by decide) (by decide) he hpl
end
end QL
namespace QL
open PySem PySem.Spec PyProof.Rows L2
/-! ### statements -/
def qNext : QS := fun _ E Γ => E.nx Γ
def qSeq (p q : QS) : QS := fun EX E Γ => p EX ⟨fun Γ' => q EX E Γ', E.rt, E.bk, E.ct⟩ Γ
def qIfS (t : QT) (p q : QS) : QS := fun EX E Γ => t EX Γ fun b Γ1 => qB b (p EX E Γ1) (q EX E Γ1)
def qRet (q : QE) : QS := fun EX E Γ => q EX Γ E.rt
def qRetN : QS := fun _ E Γ => E.rt .non Γ
def qBreak : QS := fun _ E Γ => E.bk Γ
def qCont : QS := fun _ E Γ => E.ct Γ
def qDrop (q : QE) : QS := fun EX E Γ => q EX Γ fun _ Γ1 => E.nx Γ1
def qNever : QS := fun _ _ _ => False
section
variable {X : Cx} {W : WX} {st : Stmt} {rest body orelse : List Stmt} {p q : QS} {e : Expr} {qe : QE} {t : QT} {pos : Pos}
theorem qss_nil : QSs X W [] qNext := fun c => PSsi pss_nil fun D σ H ⟨w, Γ, E, EX, er, q, x, k⟩ => k.nx Γ w σ H q Stp.refl er
theorem qss_cons (h1 : QSx X W st p) (h2 : QSs X W rest q) : QSs X W (st :: rest) (qSeq p q) := fun c => PSsi (pss_cons (h1 c) (h2 c)) fun D σ H ⟨w, Γ, E, EX, er, q, x, k⟩ =>
  ⟨w, Γ, _, EX, er, q, x, fun Γ1 w1 σ1 H1 q1 s1 e1 => ⟨w1, Γ1, E, EX, e1, q1, x.stp s1, k.stp s1⟩, k.rt, k.bk, k.ct⟩
theorem qss_one (h1 : QSx X W st p) : QSs X W [st] p := fun c => pss_one (h1 c)
theorem qs_pass : QSx X W (.Pass pos) qNext := fun c => PSi ps_pass fun D σ H ⟨w, Γ, E, EX, er, q, x, k⟩ => k.nx Γ w σ H q Stp.refl er
theorem qs_break : QSx X W (.Break pos) qBreak := fun c => PSi ps_break fun D σ H ⟨w, Γ, E, EX, er, q, x, k⟩ => k.bk Γ w σ H q Stp.refl er
theorem qs_cont : QSx X W (.Continue pos) qCont := fun c => PSi ps_continue fun D σ H ⟨w, Γ, E, EX, er, q, x, k⟩ => k.ct Γ w σ H q Stp.refl er
theorem qs_never : QSx X W st qNever := fun c => PSi ps_never fun D σ H ⟨w, Γ, E, EX, er, q, x, k⟩ => q.elim
theorem qs_if {f : Expr} {b1 b2 : List Stmt} (ht : QTx X W f t) (h1 : QSs X W b1 p) (h2 : QSs X W b2 q) : QSx X W (.If f b1 b2 pos) (qIfS t p q) := fun c => PSi (ps_if (ht c) (h1 c) (h2 c)) fun D σ H ⟨w, Γ, E, EX, er, q, x, k⟩ =>
  ⟨w, Γ, _, EX, er, q, x, fun b Γ1 w1 H1 q1 s1 e1 => by
    cases b with
    | true => exact ⟨w1, Γ1, E, EX, e1, q1, x.stp s1, k.stp s1⟩
    | false => exact ⟨w1, Γ1, E, EX, e1, q1, x.stp s1, k.stp s1⟩⟩
theorem qs_ret (h : QEx X W e qe) : QSx X W (.Return (some e) pos) (qRet qe) := fun c => PSi (ps_ret (h c)) fun D σ H ⟨w, Γ, E, EX, er, q, x, k⟩ =>
  ⟨w, Γ, _, EX, er, q, x, fun d Γ1 w1 H1 v q1 s1 e1 r1 => k.rt d Γ1 w1 σ H1 v q1 s1 e1 r1⟩
theorem qs_retN : QSx X W (.Return none pos) qRetN := fun c => PSi ps_retN fun D σ H ⟨w, Γ, E, EX, er, q, x, k⟩ => k.rt .non Γ w σ H .non q Stp.refl er rfl
theorem qs_expr (h : QEx X W e qe) (hs : swapsWith e none pos.line X.env = pure false := by rfl) : QSx X W (.Expr e pos) (qDrop qe) := fun c => PSi (ps_expr (h c) hs) fun D σ H ⟨w, Γ, E, EX, er, q, x, k⟩ =>
  ⟨w, Γ, _, EX, er, q, x, fun d Γ1 w1 H1 v q1 s1 e1 r1 => k.nx Γ1 w1 σ H1 q1 s1 e1⟩
end
/-! ### stores -/
section
variable {K : PySem.W.Frag} {c : C0} {w : List Addr} {H : Hp} {σ : L2.St} {Γ : G}
theorem own_set {i j : Nat} {v : V} {d : D} {a : Addr} (hi : i < Γ.sl.length) (h : OwnAt (σ.set i (some v)) ⟨Γ.sl.set i (.va d), Γ.ob⟩ j a) : OwnAt σ Γ j a ∧ j ≠ i := by
  obtain ⟨h1, t, h2, h3⟩ := h
  by_cases e : j = i
  · subst e
    have h2 : (Γ.sl.set j (.va d))[j]? = some t := h2
    rw [List.getElem?_set_self hi] at h2
    cases h2
    cases h3
  · have h2 : (Γ.sl.set i (.va d))[j]? = some t := h2
    rw [List.getElem?_set_ne (fun z => e z.symm)] at h2
    rw [List.getElem?_set_ne (fun z => e z.symm)] at h1
    exact ⟨⟨h1, t, h2, h3⟩, e⟩
theorem av_set {i : Nat} {v : V} {d : D} {a : Addr} (hi : i < Γ.sl.length) (h : Av c w (σ.set i (some v)) ⟨Γ.sl.set i (.va d), Γ.ob⟩ a) : Av c w σ Γ a := by
  rcases h with h | h | ⟨j, h⟩
  · exact .inl h
  · exact .inr (.inl h)
  · exact .inr (.inr ⟨j, (own_set hi h).1⟩)
theorem stp_set {i : Nat} {v : V} {d : D} (hi : i < Γ.sl.length) : Stp c w σ Γ H w (σ.set i (some v)) ⟨Γ.sl.set i (.va d), Γ.ob⟩ H := ⟨fun a o h n => ⟨h, fun z => n (av_set hi z)⟩, List.prefix_refl _⟩
theorem ER.set (e : ER K c w H σ Γ) {i : Nat} {d : D} {v : V} (hi : i < Γ.sl.length) (r : Rep K H (Av c w σ Γ) w d v) : ER K c w H (σ.set i (some v)) ⟨Γ.sl.set i (.va d), Γ.ob⟩ where
  len := by
    show (σ.set i _).length = (Γ.sl.set i _).length
    rw [List.length_set, List.length_set]
    exact e.len
  wl := e.wl
  wn := e.wn
  on := fun a b x h1 h2 => e.on a b x (own_set hi h1).1 (own_set hi h2).1
  ow := fun a x h => e.ow a x (own_set hi h).1
  sl := fun j t ht => by
    by_cases q : j = i
    · subst q
      have ht : (Γ.sl.set j (.va d))[j]? = some t := ht
      rw [List.getElem?_set_self hi] at ht
      cases ht
      have hσ : j < σ.length := by rw [e.len]; exact hi
      rw [List.getElem?_set_self hσ]
      exact ⟨v, rfl, r.stp (stp_set hi)⟩
    · have ht : (Γ.sl.set i (.va d))[j]? = some t := ht
      rw [List.getElem?_set_ne (fun z => q z.symm)] at ht
      rw [List.getElem?_set_ne (fun z => q z.symm)]
      exact (e.sl j t ht).keep (stp_set hi).keep (List.prefix_refl _) fun _ a u _ h => h
  ob := fun n a o h1 h2 => (e.ob n a o h1 h2).keep (stp_set hi).keep (List.prefix_refl _) fun _ h => h
  fr := e.fr
  pre := e.pre
  hid := e.hid
/-- a new list at p becomes slot i's own -/
theorem own_new {i j : Nat} {p : Addr} {s : Slot} {a : Addr} (hi : i < Γ.sl.length) (hσ : i < σ.length) (h : OwnAt (σ.set i (some (.ref p))) ⟨Γ.sl.set i s, Γ.ob⟩ j a) : (OwnAt σ Γ j a ∧ j ≠ i) ∨ (j = i ∧ a = p) := by
  obtain ⟨h1, t, h2, h3⟩ := h
  by_cases e : j = i
  · subst e
    rw [List.getElem?_set_self hσ] at h1
    cases h1
    exact .inr ⟨rfl, rfl⟩
  · have h2 : (Γ.sl.set i s)[j]? = some t := h2
    rw [List.getElem?_set_ne (fun z => e z.symm)] at h2
    rw [List.getElem?_set_ne (fun z => e z.symm)] at h1
    exact .inl ⟨⟨h1, t, h2, h3⟩, e⟩
theorem stp_new {i : Nat} {p : Addr} {s : Slot} {o : HO} (hi : i < Γ.sl.length) (hσ : i < σ.length) (hp : H p = none) : Stp c w σ Γ H w (σ.set i (some (.ref p))) ⟨Γ.sl.set i s, Γ.ob⟩ (upd H p o) := by
  refine ⟨fun a u h n => ⟨same_new hp a u h, fun z => ?_⟩, List.prefix_refl _⟩
  rcases z with z | z | ⟨j, z⟩
  · exact n (.inl z)
  · exact n (.inr (.inl z))
  · rcases own_new hi hσ z with ⟨z, _⟩ | ⟨_, z⟩
    · exact n (.inr (.inr ⟨j, z⟩))
    · subst z
      rw [hp] at h
      cases h
theorem ER.setNew (e : ER K c w H σ Γ) {i : Nat} {p : Addr} {s : Slot} {o : HO} (hi : i < Γ.sl.length) (hp : H p = none)
    (hs : SlR K (upd H p o) (Av c w (σ.set i (some (.ref p))) ⟨Γ.sl.set i s, Γ.ob⟩) w s (some (.ref p))) : ER K c w (upd H p o) (σ.set i (some (.ref p))) ⟨Γ.sl.set i s, Γ.ob⟩ := by
  have hσ : i < σ.length := by rw [e.len]; exact hi
  have nw : p ∉ w := fun z => e.fresh hp (.inl z)
  have nh : c.hid p = none := by
    cases q : c.hid p with
    | none => rfl
    | some u => exact absurd (.inr (.inl ⟨u, q⟩)) (e.fresh hp)
  have st := stp_new (c := c) (w := w) (Γ := Γ) (s := s) (o := o) hi hσ hp
  refine ⟨?_, e.wl, e.wn, ?_, ?_, ?_, ?_, ?_, e.pre, ?_⟩
  · show (σ.set i _).length = (Γ.sl.set i _).length
    rw [List.length_set, List.length_set]
    exact e.len
  · intro a b x h1 h2
    rcases own_new hi hσ h1 with ⟨g1, n1⟩ | ⟨g1, g1'⟩
    · rcases own_new hi hσ h2 with ⟨g2, n2⟩ | ⟨g2, g2'⟩
      · exact e.on a b x g1 g2
      · exact absurd (.inr (.inr ⟨a, g2' ▸ g1⟩)) (e.fresh hp)
    · rcases own_new hi hσ h2 with ⟨g2, n2⟩ | ⟨g2, g2'⟩
      · exact absurd (.inr (.inr ⟨b, g1' ▸ g2⟩)) (e.fresh hp)
      · rw [g1, g2]
  · intro a x h
    rcases own_new hi hσ h with ⟨h1, n1⟩ | ⟨h1, h1'⟩
    · exact e.ow a x h1
    · subst h1'
      exact ⟨nw, nh, e.fresh0 hp nw⟩
  · intro j t ht
    by_cases q : j = i
    · subst q
      have ht : (Γ.sl.set j s)[j]? = some t := ht
      rw [List.getElem?_set_self hi] at ht
      cases ht
      rw [List.getElem?_set_self hσ]
      exact hs
    · have ht : (Γ.sl.set i s)[j]? = some t := ht
      rw [List.getElem?_set_ne (fun z => q z.symm)] at ht
      rw [List.getElem?_set_ne (fun z => q z.symm)]
      exact (e.sl j t ht).keep st.keep (List.prefix_refl _) fun _ a u _ h => same_new hp a u h
  · exact fun n a o h1 h2 => (e.ob n a o h1 h2).keep st.keep (List.prefix_refl _) fun u h => same_new hp a u h
  · exact fun a o h n => ⟨same_new hp a o (e.fr a o h n).1, (e.fr a o h n).2⟩
  · exact fun a o h => ⟨same_new hp a o (e.hid a o h).1, (e.hid a o h).2⟩
theorem ER.setList (e : ER K c w H σ Γ) {i : Nat} {p : Addr} {ds : List D} {xs : List V} (hi : i < Γ.sl.length) (hp : H p = none) (r : Reps K H (Av c w σ Γ) w ds xs) :
    ER K c w (upd H p (.lst xs)) (σ.set i (some (.ref p))) ⟨Γ.sl.set i (.ow ds), Γ.ob⟩ := by
  have hσ : i < σ.length := by rw [e.len]; exact hi
  exact e.setNew hi hp ⟨p, xs, rfl, upd_same, r.stp (stp_new hi hσ hp)⟩
theorem ER.setDict (e : ER K c w H σ Γ) {i : Nat} {p : Addr} (hi : i < Γ.sl.length) (hp : H p = none) :
    ER K c w (upd H p (.dK [])) (σ.set i (some (.ref p))) ⟨Γ.sl.set i (.od [] []), Γ.ob⟩ := e.setNew hi hp ⟨p, [], rfl, upd_same, rfl, rfl⟩
end
/-- name = e: a value; a new list that is one's own -/
def qSet (i : Nat) (q : QE) : QS := fun EX E Γ => q EX Γ fun d Γ1 => i < Γ1.sl.length ∧ E.nx ⟨Γ1.sl.set i (.va d), Γ1.ob⟩
def qSetL (i : Nat) (q : QL_) : QS := fun EX E Γ => q EX Γ fun ds Γ1 => i < Γ1.sl.length ∧ E.nx ⟨Γ1.sl.set i (.ow ds), Γ1.ob⟩
section
variable {X : Cx} {W : WX} {e a b : Expr} {qe : QE} {ql : QL_} {qr : QA} {pos pos' : Pos} {x y : Str}
theorem qs_set {i : Nat} (hN : X.N.Nodup) (hi : X.N[i]? = some x) (hx : Loc X.env.scope x) (h : QEx X W e qe) (hs : swapsWith e (some (.Name x pos')) pos.line X.env = pure false := by rfl)
    (hf : X.fn x = true ∨ X.env.scope.names.lookup x = some .local := by first | exact .inl rfl | exact .inr rfl | assumption) : QSx X W (.Assign [.Name x pos'] e pos) (qSet i qe) := fun c =>
  PSi (ps_set hN hi hx (h c) hs hf) fun D σ H ⟨w, Γ, E, EX, er, q, x, k⟩ => ⟨w, Γ, _, EX, er, q, x, fun d Γ1 w1 H1 v q1 s1 e1 r1 => k.nx _ w1 _ H1 q1.2 (s1.trans (stp_set q1.1)) (e1.set q1.1 r1)⟩
theorem qs_setL {i : Nat} (hN : X.N.Nodup) (hi : X.N[i]? = some x) (hx : Loc X.env.scope x) (h : QLx X W e ql) (hs : swapsWith e (some (.Name x pos')) pos.line X.env = pure false := by rfl)
    (hf : X.fn x = true ∨ X.env.scope.names.lookup x = some .local := by first | exact .inl rfl | exact .inr rfl | assumption) : QSx X W (.Assign [.Name x pos'] e pos) (qSetL i ql) := fun c =>
  PSi (ps_set hN hi hx (h c) hs hf) fun D σ H ⟨w, Γ, E, EX, er, q, x, k⟩ => ⟨w, Γ, _, EX, er, q, x, fun d Γ1 w1 H1 p xs q1 s1 e1 hp r1 =>
    k.nx _ w1 _ _ q1.2 (s1.trans (stp_new q1.1 (by rw [e1.len]; exact q1.1) hp)) (e1.setList q1.1 hp r1)⟩
/-- a, b = e1, e2 -/
def qPar (i j : Nat) (qr : QA) : QS := fun EX E Γ => qr EX Γ fun ds Γ1 => match ds with
  | [d, d'] => i < Γ1.sl.length ∧ j < Γ1.sl.length ∧ E.nx ⟨(Γ1.sl.set i (.va d)).set j (.va d'), Γ1.ob⟩
  | _ => False
theorem qs_par {i j : Nat} {px py pt : Pos} {kt k2 pt2} (hc : X.calm = true) (hN : X.N.Nodup) (hi : X.N[i]? = some x) (hj : X.N[j]? = some y) (hij : i ≠ j)
    (hx : X.env.scope.names.lookup x = some .local) (hy : X.env.scope.names.lookup y = some .local) (ha : QAx X W [a, b] qr)
    (hw : swappedStores [.Tuple [.Name x px, .Name y py] kt pt] (.Tuple [a, b] k2 pt2) X.env = pure (some [x, y]))
    (hs : swapsWithSole [.Tuple [.Name x px, .Name y py] kt pt] (.Tuple [a, b] k2 pt2) pos.line X.env = pure false := by rfl) :
    QSx X W (.Assign [.Tuple [.Name x px, .Name y py] kt pt] (.Tuple [a, b] k2 pt2) pos) (qPar i j qr) := fun c =>
  PSi (ps_par hc hN hi hj hij hx hy (ha c) hw hs) fun D σ H ⟨w, Γ, E, EX, er, q, x, k⟩ => ⟨w, Γ, _, EX, er, q, x, fun ds Γ1 w1 H1 vs q1 s1 e1 r1 => by
    match ds, q1 with
    | [d, d'], q1 =>
      obtain ⟨u, u', rfl, r, r'⟩ := reps2 r1
      obtain ⟨h1, h2, q1⟩ := q1
      have e2 := e1.set h1 r
      have h2' : j < (Γ1.sl.set i (.va d)).length := by rw [List.length_set]; exact h2
      have s2 : Stp c w1 σ Γ1 H1 w1 (σ.set i (some u)) ⟨Γ1.sl.set i (.va d), Γ1.ob⟩ H1 := stp_set h1
      exact ⟨u, u', rfl, k.nx _ w1 _ H1 q1 ((s1.trans s2).trans (stp_set (Γ := ⟨Γ1.sl.set i (.va d), Γ1.ob⟩) h2')) (e2.set (Γ := ⟨Γ1.sl.set i (.va d), Γ1.ob⟩) h2' (r'.stp s2))⟩⟩
end
/-! ### targets -/
abbrev QG := D → G → (G → Prop) → Prop
def liftG (K : PySem.W.Frag) (c : C0) (q : QG) : TG := fun v σ H Q => ∃ w Γ d P, ER K c w H σ Γ ∧ Rep K H (Av c w σ Γ) w d v ∧ q d Γ P ∧
  ∀ Γ' w' σ' H', P Γ' → Stp c w σ Γ H w' σ' Γ' H' → ER K c w' H' σ' Γ' → Q σ' H'
def QGx (X : Cx) (e : Expr) (q : QG) : Prop := ∀ c, PG X e (liftG X.K c q)
theorem PGi {X : Cx} {e : Expr} {t t' : TG} (h : PG X e t) (i : ∀ v σ H Q, t' v σ H Q → t v σ H Q) : PG X e t' := ⟨fun pins s σ H v u Q I r q => h.run pins s σ H v u Q I r (i v σ H Q q)⟩
def gqName (i : Nat) : QG := fun d Γ P => i < Γ.sl.length ∧ P ⟨Γ.sl.set i (.va d), Γ.ob⟩
/-- (a, b, ..) = a tuple -/
def gqAll : List QG → List D → G → (G → Prop) → Prop
  | [], [], Γ, P => P Γ
  | q :: qs, d :: ds, Γ, P => q d Γ fun Γ1 => gqAll qs ds Γ1 P
  | _, _, _, _ => False
def gqTup (qs : List QG) : QG := fun d Γ P => match d with
  | .tup ds => ds.length = qs.length ∧ gqAll qs ds Γ P
  | _ => False
def liftGs (K : PySem.W.Frag) (c : C0) (qs : List QG) : TGs := fun vs σ H Q => ∃ w Γ ds P, ER K c w H σ Γ ∧ Reps K H (Av c w σ Γ) w ds vs ∧ gqAll qs ds Γ P ∧
  ∀ Γ' w' σ' H', P Γ' → Stp c w σ Γ H w' σ' Γ' H' → ER K c w' H' σ' Γ' → Q σ' H'
def QGs (X : Cx) (es : List Expr) (qs : List QG) : Prop := ∀ c, PGs X es (liftGs X.K c qs)
section
variable {X : Cx} {e : Expr} {es : List Expr} {q : QG} {qs : List QG} {pos : Pos} {x : Str}
theorem qg_name (i : Nat) (hN : X.N.Nodup) (hi : X.N[i]? = some x := by rfl) (hx : Loc X.env.scope x := by first | exact Or.inl rfl | exact Or.inr rfl) (hf : X.fn x = true ∨ X.env.scope.names.lookup x = some .local := by first | exact .inl rfl | exact .inr rfl | assumption) :
    QGx X (.Name x pos) (gqName i) := fun c => PGi (pg_name hN hi hx hf) fun v σ H Q ⟨w, Γ, d, P, er, r, q, k⟩ => k _ w _ H q.2 (stp_set q.1) (er.set q.1 r)
theorem qgs_nil : QGs X [] [] := fun c => ⟨fun pins s σ H vs us Q I r h => pgs_nil.run pins s σ H vs us Q I r (by
  obtain ⟨w, Γ, ds, P, er, rs, q, k⟩ := h
  match ds, q with
  | [], q =>
    have rs : vs = [] := rs
    exact ⟨rs, k Γ w σ H q Stp.refl er⟩)⟩
theorem qgs_cons (h1 : QGx X e q) (h2 : QGs X es qs) (hs : (assignEach (e :: es) X.env).map (·.2) = assign e X.env :: (assignEach es X.env).map (·.2) := by rfl) : QGs X (e :: es) (q :: qs) := fun c =>
  ⟨fun pins s σ H vs us Q I r h => (pgs_cons (h1 c) (h2 c) hs).run pins s σ H vs us Q I r (by
    obtain ⟨w, Γ, ds, P, er, rs, q, k⟩ := h
    match ds, q with
    | d :: ds, q =>
      obtain ⟨v, vr, rfl, r1, r2⟩ := rs
      exact ⟨v, vr, rfl, w, Γ, d, _, er, r1, q, fun Γ1 w1 σ1 H1 q1 s1 e1 => ⟨w1, Γ1, ds, P, e1, r2.stp s1, q1, fun Γ2 w2 σ2 H2 q2 s2 e2 => k Γ2 w2 σ2 H2 q2 (s1.trans s2) e2⟩⟩)⟩
theorem qg_tup {k : Nat} (hc : X.calm = true) (h : QGs X es qs) (hl : qs.length = es.length) (hn : (assignEach es X.env).length = es.length := by rfl) (hst : (assignEach es X.env).findIdx? (·.1) = none := by rfl) : QGx X (.Tuple es k pos) (gqTup qs) := fun c =>
  PGi (pg_tup (n := es.length) hc (h c) hn hst) fun v σ H Q ⟨w, Γ, d, P, er, r, q, k⟩ => by
    cases d <;> try exact q.elim
    rename_i ds
    obtain ⟨a, xs, rfl, h1, h2⟩ := r
    exact ⟨a, xs, rfl, h1.sq, by rw [h2.length, q.1, hl], w, Γ, ds, P, er, h2, q.2, k⟩
end
end QL
namespace QL
open PySem PySem.Spec PyProof.Rows L2
/-! ### what is walked -/
/-- the iterator gives these data, one after another -/
def JOk (K : PySem.W.Frag) (J : It) (ds : List D) (av0 : Addr → Prop) (w0 : List Addr) (H0 : Hp) : Prop := ∀ (i : Nat) (w : List Addr) (H : Hp) (av : Addr → Prop), (∀ a o, H0 a = some o → ¬ av0 a → H a = some o ∧ ¬ av a) → w0 <+: w →
  (∀ a, av a → ∃ o, H a = some o) → (ds.length ≤ i → J.stop i H) ∧ ∀ d, ds[i]? = some d → J.go i H ∧ ∀ x H', J.yld i H x H' → Same H H' ∧ Rep K H' av w d x
abbrev QI := EXG → G → (List D → G → Prop) → Prop
def liftI (K : PySem.W.Frag) (c : C0) (W : WX) (q : QI) : TI := fun σ H R => ∃ w Γ P EX, ER K c w H σ Γ ∧ q EX Γ P ∧ XL K c W w σ Γ H EX ∧
  ∀ ds Γ' w' H' J, P ds Γ' → Stp c w σ Γ H w' σ Γ' H' → ER K c w' H' σ Γ' → JOk K J ds (Av c w' σ Γ') w' H' → R J H'
def QIx (X : Cx) (W : WX) (tg e : Expr) (q : QI) : Prop := ∀ c, PI X tg e (liftI X.K c W q)
theorem PIi {X : Cx} {tg e : Expr} {t t' : TI} (h : PI X tg e t) (i : ∀ σ H R, t' σ H R → t σ H R) : PI X tg e t' := ⟨fun pins s σ H R I q => h.run pins s σ H R I (i σ H R q)⟩
theorem PIor {X : Cx} {tg e : Expr} {t t' : TI} (h : PI X tg e t) (h' : PI X tg e t') : PI X tg e (fun σ H R => t σ H R ∨ t' σ H R) := ⟨fun pins s σ H R I q => by
  rcases q with q | q
  · exact h.run pins s σ H R I q
  · exact h'.run pins s σ H R I q⟩
section
variable {K : PySem.W.Frag}
theorem SqL.inj0 {H : Hp} {a : Addr} {xs ys : List V} (h : H a = some (.lst xs)) (h' : Rd H a (.lst ys)) : xs = ys := by
  rcases h' with h' | ⟨o, h'⟩ <;> rw [h] at h' <;> cases h'
  rfl
/-- a list's items; the iterator tells of every reading of the list, so a fact of K is asked -/
theorem jok_list {a : Addr} {xs : List V} {ds : List D} {av0 : Addr → Prop} {w0 : List Addr} {H0 : Hp} (h : LsA K H0 av0 a xs) (r : Reps K H0 av0 w0 ds xs) : JOk K (Itl K a) ds av0 w0 H0 := by
  intro i w H av k p t
  have h1 := h.keep (K := K) k
  have r1 := r.keep k p
  refine ⟨fun hi => ⟨xs, h1.sq, by rw [r1.length]; exact hi⟩, fun d hd => ?_⟩
  obtain ⟨x, hx, rx⟩ := r1.get hd
  refine ⟨⟨xs, x, h1.sq, hx⟩, fun x' H' y => ?_⟩
  obtain ⟨rfl, y⟩ := y
  have := y xs h1.sq
  rw [hx] at this
  cases this
  exact ⟨Same.refl _, rx⟩
theorem jok_tup {a : Addr} {xs : List V} {ds : List D} {av0 : Addr → Prop} {w0 : List Addr} {H0 : Hp} (h : TpA K H0 av0 a xs) (r : Reps K H0 av0 w0 ds xs) : JOk K (Itt K a) ds av0 w0 H0 := by
  intro i w H av k p t
  have h1 := h.keep (K := K) k
  have r1 := r.keep k p
  refine ⟨fun hi => ⟨xs, h1.sq, by rw [r1.length]; exact hi⟩, fun d hd => ?_⟩
  obtain ⟨x, hx, rx⟩ := r1.get hd
  refine ⟨⟨xs, x, h1.sq, hx⟩, fun x' H' y => ?_⟩
  obtain ⟨rfl, y⟩ := y
  have := y xs h1.sq
  rw [hx] at this
  cases this
  exact ⟨Same.refl _, rx⟩
theorem jok_frl {a : Addr} {xs : List V} {ds : List D} {av0 : Addr → Prop} {w0 : List Addr} {H0 : Hp} (h : FrA K H0 av0 a xs) (r : Reps K H0 av0 w0 ds xs) : JOk K (Itl K a) ds av0 w0 H0 := by
  intro i w H av k p t
  have h1 := h.keep (K := K) k
  have r1 := r.keep k p
  refine ⟨fun hi => ⟨xs, h1.sq, by rw [r1.length]; exact hi⟩, fun d hd => ?_⟩
  obtain ⟨x, hx, rx⟩ := r1.get hd
  refine ⟨⟨xs, x, h1.sq, hx⟩, fun x' H' y => ?_⟩
  obtain ⟨rfl, y⟩ := y
  have := y xs h1.sq
  rw [hx] at this
  cases this
  exact ⟨Same.refl _, rx⟩
/-- lo, lo + c, .. -/
def rngD (lo c : Int) (n : Nat) : List D := (List.range n).map fun (i : Nat) => .int (lo + (i : Int) * c)
theorem rngD_get {lo c : Int} {n i : Nat} {d : D} (h : (rngD lo c n)[i]? = some d) : i < n ∧ d = .int (lo + (i : Int) * c) := by
  unfold rngD at h
  rw [List.getElem?_map] at h
  cases q : (List.range n)[i]? with
  | none =>
    rw [q] at h
    cases h
  | some j =>
    rw [q] at h
    obtain ⟨h1, h2⟩ := List.getElem?_eq_some_iff.mp q
    rw [List.length_range] at h1
    rw [List.getElem_range] at h2
    subst h2
    cases h
    exact ⟨h1, rfl⟩
theorem rngD_len {lo c : Int} {n : Nat} : (rngD lo c n).length = n := by
  unfold rngD
  rw [List.length_map, List.length_range]
theorem jok_rng {lo : Int} {n : Nat} {av0 : Addr → Prop} {w0 : List Addr} {H0 : Hp} : JOk K (Itr lo n) (rngD lo 1 n) av0 w0 H0 := by
  intro i w H av k p t
  refine ⟨fun hi => by rw [rngD_len] at hi; exact hi, fun d hd => ?_⟩
  obtain ⟨h1, rfl⟩ := rngD_get hd
  refine ⟨h1, fun x H' y => ?_⟩
  obtain ⟨rfl, rfl⟩ := y
  exact ⟨Same.refl _, by show V.int _ = V.int _; rw [Int.mul_one]⟩
theorem jok_rngC {lo c : Int} {n : Nat} {av0 : Addr → Prop} {w0 : List Addr} {H0 : Hp} : JOk K (Itc lo c n) (rngD lo c n) av0 w0 H0 := by
  intro i w H av k p t
  refine ⟨fun hi => by rw [rngD_len] at hi; exact hi, fun d hd => ?_⟩
  obtain ⟨h1, rfl⟩ := rngD_get hd
  refine ⟨h1, fun x H' y => ?_⟩
  obtain ⟨rfl, rfl⟩ := y
  exact ⟨Same.refl _, rfl⟩
end
/-- for x in a list or tuple -/
def iqSeq (q : QE) : QI := fun EX Γ P => q EX Γ fun d Γ1 => match d with
  | .lst ds => P ds Γ1
  | .tup ds => P ds Γ1
  | .frl ds => P ds Γ1
  | _ => False
def iqRng1 (qr : QA) : QI := fun EX Γ P => qr EX Γ fun ds Γ1 => match ds with
  | [.int j] => -(2 ^ 62) ≤ j ∧ j < 2 ^ 62 ∧ P (rngD 0 1 j.toNat) Γ1
  | _ => False
def iqRng2 (qr : QA) : QI := fun EX Γ P => qr EX Γ fun ds Γ1 => match ds with
  | [.int i, .int j] => (-(2 ^ 62) ≤ i ∧ i < 2 ^ 62 ∧ -(2 ^ 62) ≤ j ∧ j < 2 ^ 62) ∧ P (rngD i 1 (j - i).toNat) Γ1
  | _ => False
def iqRng3 (qr : QA) : QI := fun EX Γ P => qr EX Γ fun ds Γ1 => match ds with
  | [.int i, .int j, .int c] => ∃ n, RgC i j c n ∧ P (rngD i c n) Γ1
  | _ => False
/-- pairs -/
def zipD : List D → List D → List D
  | a :: as, b :: bs => .tup [a, b] :: zipD as bs
  | _, _ => []
theorem zipD_get : ∀ {as bs : List D} {i : Nat} {d : D}, (zipD as bs)[i]? = some d → ∃ a b, as[i]? = some a ∧ bs[i]? = some b ∧ d = .tup [a, b]
  | a :: as, b :: bs, 0, d, h => ⟨a, b, rfl, rfl, (Option.some.inj h).symm⟩
  | a :: as, b :: bs, i + 1, d, h => zipD_get (as := as) (bs := bs) (i := i) h
  | [], _, i, d, h => by
    have h : ([] : List D)[i]? = some d := h
    simp at h
  | a :: as, [], i, d, h => by
    have h : ([] : List D)[i]? = some d := h
    simp at h
theorem zipD_len : ∀ {as bs : List D}, (zipD as bs).length = min as.length bs.length
  | a :: as, b :: bs => by
    show (zipD as bs).length + 1 = min (as.length + 1) (bs.length + 1)
    rw [zipD_len]
    omega
  | [], _ => by
    show 0 = min 0 _
    omega
  | a :: as, [] => by
    show 0 = min _ 0
    omega
theorem jok_zip {K : PySem.W.Frag} {a b : Addr} {xs ys : List V} {ds es : List D} {av0 : Addr → Prop} {w0 : List Addr} {H0 : Hp} (h : LsA K H0 av0 a xs) (r : Reps K H0 av0 w0 ds xs) (h' : LsA K H0 av0 b ys) (r' : Reps K H0 av0 w0 es ys) : JOk K (Itz K a b) (zipD ds es) av0 w0 H0 := by
  intro i w H av k p t
  have h1 := h.keep (K := K) k
  have r1 := r.keep k p
  have h2 := h'.keep (K := K) k
  have r2 := r'.keep k p
  refine ⟨fun hi => ⟨xs, ys, h1.sq, h2.sq, by rw [r1.length, r2.length]; rw [zipD_len] at hi; omega⟩, fun d hd => ?_⟩
  obtain ⟨d1, d2, g1, g2, rfl⟩ := zipD_get hd
  obtain ⟨x, hx, rx⟩ := r1.get g1
  obtain ⟨y, hy, ry⟩ := r2.get g2
  refine ⟨⟨xs, ys, x, y, h1.sq, h2.sq, hx, hy⟩, fun x' H' yy => ?_⟩
  obtain ⟨T, x2, y2, rfl, hT, rfl, z1, z2⟩ := yy
  have e1 := z1 xs h1.sq
  have e2 := z2 ys h2.sq
  rw [hx] at e1
  rw [hy] at e2
  cases e1
  cases e2
  have nT : ¬ av T := fun z => by
    obtain ⟨o, q⟩ := t T z
    rw [hT] at q
    cases q
  have s := same_new (o := .tup [x, y]) hT
  exact ⟨s, T, [x, y], rfl, TpA.new nT, Reps.cons (rx.keep (fun a o h n => ⟨s a o h, n⟩) (List.prefix_refl _)) (Reps.one (ry.keep (fun a o h n => ⟨s a o h, n⟩) (List.prefix_refl _)))⟩
theorem jok_zipT {K : PySem.W.Frag} {a b : Addr} {xs ys : List V} {ds es : List D} {av0 : Addr → Prop} {w0 : List Addr} {H0 : Hp} (h : TpA K H0 av0 a xs) (r : Reps K H0 av0 w0 ds xs) (h' : TpA K H0 av0 b ys) (r' : Reps K H0 av0 w0 es ys) : JOk K (RZ.ItzT K a b) (zipD ds es) av0 w0 H0 := by
  intro i w H av k p t
  have h1 := h.keep (K := K) k
  have r1 := r.keep k p
  have h2 := h'.keep (K := K) k
  have r2 := r'.keep k p
  refine ⟨fun hi => ⟨xs, ys, h1.sq, h2.sq, by rw [r1.length, r2.length]; rw [zipD_len] at hi; omega⟩, fun d hd => ?_⟩
  obtain ⟨d1, d2, g1, g2, rfl⟩ := zipD_get hd
  obtain ⟨x, hx, rx⟩ := r1.get g1
  obtain ⟨y, hy, ry⟩ := r2.get g2
  refine ⟨⟨xs, ys, x, y, h1.sq, h2.sq, hx, hy⟩, fun x' H' yy => ?_⟩
  obtain ⟨T, x2, y2, rfl, hT, rfl, z1, z2⟩ := yy
  have e1 := z1 xs h1.sq
  have e2 := z2 ys h2.sq
  rw [hx] at e1
  rw [hy] at e2
  cases e1
  cases e2
  have nT : ¬ av T := fun z => by
    obtain ⟨o, q⟩ := t T z
    rw [hT] at q
    cases q
  have s := same_new (o := .tup [x, y]) hT
  exact ⟨s, T, [x, y], rfl, TpA.new nT, Reps.cons (rx.keep (fun a o h n => ⟨s a o h, n⟩) (List.prefix_refl _)) (Reps.one (ry.keep (fun a o h n => ⟨s a o h, n⟩) (List.prefix_refl _)))⟩
/-- zip of two lists, of two tuples -/
def iqZip (qr : QA) : QI := fun EX Γ P => qr EX Γ fun ds Γ1 => match ds with
  | [.lst ds, .lst es] => P (zipD ds es) Γ1
  | [.tup ds, .tup es] => P (zipD ds es) Γ1
  | _ => False
section
variable {X : Cx} {W : WX} {tg e a b : Expr} {es : List Expr} {qe : QE} {qr : QA} {p pos : Pos}
/-- the iterator of a list, of a tuple at hand -/
theorem it_list {pins : List (Addr × Obj)} {s1 : Shared} {σ : L2.St} {H1 : Hp} {R : It → Hp → Prop} {a : Addr} {xs : List V} (I1 : Inv X pins σ H1 s1) (hq : SqL X.K H1 a xs) (q : R (Itl X.K a) H1) : wpAny (model X.prog X.w) X.A (pyIter (.ref a)) (PIE X pins σ tg R) X.xe s1 := by
  obtain ⟨its, rv, p, hz⟩ := I1.list hq
  refine wpAny_pyIter_list p.isList ?_
  refine ⟨_, [s1.heap.objs.size], _, _, H1, rfl, I1.kept (t' := s1.toks) fun b o e => Heap.get?_push_of_some _ e,
    turn_list a _, ⟨_, Heap.get?_push_size _ rfl, rfl, rfl⟩, fun b hb => ?_, q⟩
  rw [List.mem_singleton.mp hb]
  exact I1.fpOk (Nat.le_refl _) (I1.hok.fresh (Nat.le_refl _))
theorem it_tup {pins : List (Addr × Obj)} {s1 : Shared} {σ : L2.St} {H1 : Hp} {R : It → Hp → Prop} {a : Addr} {xs : List V} (I1 : Inv X pins σ H1 s1) (hq : SqT X.K H1 a xs) (q : R (Itt X.K a) H1) : wpAny (model X.prog X.w) X.A (pyIter (.ref a)) (PIE X pins σ tg R) X.xe s1 := by
  obtain ⟨its, rv, p, hz⟩ := I1.tuple hq
  refine wpAny_pyIter_tuple (show s1.heap.IsTuple a its.toArray from p) ?_
  refine ⟨_, [s1.heap.objs.size], _, _, H1, rfl, I1.kept (t' := s1.toks) fun b o e => Heap.get?_push_of_some _ e,
    turn_tuple a _, ⟨_, Heap.get?_push_size _ rfl, rfl, rfl⟩, fun b hb => ?_, q⟩
  rw [List.mem_singleton.mp hb]
  exact I1.fpOk (Nat.le_refl _) (I1.hok.fresh (Nat.le_refl _))
def iSeq (K : PySem.W.Frag) (tl : TE) : TI := fun σ H R => tl σ H fun x H1 => ∃ a, x = .ref a ∧ (((∃ xs, SqL K H1 a xs) ∧ R (Itl K a) H1) ∨ ((∃ xs, SqT K H1 a xs) ∧ R (Itt K a) H1))
theorem pi_seq {tl : TE} (hl : PE X e tl) : PI X tg e (iSeq X.K tl) := ⟨fun pins s σ H R I h => thn (hl.run pins s σ H _ I h) fun v s1 ⟨x, H1, I1, r1, a, ex, q1⟩ => by
  subst ex
  obtain rfl : v = Value.ref a := r1
  rcases q1 with ⟨⟨xs, hq⟩, q⟩ | ⟨⟨xs, hq⟩, q⟩
  · exact it_list I1 hq q
  · exact it_tup I1 hq q⟩
theorem qi_seq (h : QEx X W e qe) : QIx X W tg e (iqSeq qe) := fun c => PIi (pi_seq (h c)) fun σ H R ⟨w, Γ, P, EX, er, q, x, k⟩ =>
  ⟨w, Γ, _, EX, er, q, x, fun d Γ1 w1 H1 v q1 s1 e1 r1 => by
    cases d <;> try exact q1.elim
    · obtain ⟨a, xs, rfl, h1, h2⟩ := r1
      exact ⟨a, rfl, .inr ⟨⟨xs, h1.sq⟩, k _ _ _ _ _ q1 s1 e1 (jok_tup h1 h2)⟩⟩
    · obtain ⟨a, xs, rfl, h1, h2⟩ := r1
      exact ⟨a, rfl, .inl ⟨⟨xs, h1.sq⟩, k _ _ _ _ _ q1 s1 e1 (jok_list h1 h2)⟩⟩
    · obtain ⟨a, xs, rfl, h1, h2⟩ := r1
      exact ⟨a, rfl, .inl ⟨⟨xs, h1.sq⟩, k _ _ _ _ _ q1 s1 e1 (jok_frl h1 h2)⟩⟩⟩
theorem reps3 {K : PySem.W.Frag} {H : Hp} {av : Addr → Prop} {w : List Addr} {d d' d2 : D} {us : List V} (r : Reps K H av w [d, d', d2] us) : ∃ u u' u2, us = [u, u', u2] ∧ Rep K H av w d u ∧ Rep K H av w d' u' ∧ Rep K H av w d2 u2 := by
  obtain ⟨u, r', rfl, h, h'⟩ := r
  obtain ⟨u', u2, rfl, h2, h3⟩ := reps2 h'
  exact ⟨u, u', u2, rfl, h, h2, h3⟩
theorem qi_rng1 (hg : Gl X "range") (hm : X.mg "range" = none) (ha : QAx X W [a] qr) (hs : starEach [a] X.env = [(false, eval a X.env)] := by rfl) : QIx X W tg (.Call (.Name "range" p) [a] [] pos) (iqRng1 qr) := fun c =>
  PIi (pi_range1 hg hm (ha c) hs) fun σ H R ⟨w, Γ, P, EX, er, q, x, k⟩ => ⟨w, Γ, _, EX, er, q, x, fun ds Γ1 w1 H1 vs q1 s1 e1 r1 => by
    match ds, q1 with
    | [.int j], q1 =>
      obtain ⟨u, rfl, h⟩ := reps1 r1
      exact ⟨j, by rw [show u = V.int j from h], q1.1, q1.2.1, k _ _ _ _ _ q1.2.2 s1 e1 jok_rng⟩⟩
theorem qi_rng2 (hg : Gl X "range") (hm : X.mg "range" = none) (ha : QAx X W [a, b] qr) (hs : starEach [a, b] X.env = [(false, eval a X.env), (false, eval b X.env)] := by rfl) (hs2 : starEach [b] X.env = [(false, eval b X.env)] := by rfl) :
    QIx X W tg (.Call (.Name "range" p) [a, b] [] pos) (iqRng2 qr) := fun c =>
  PIi (pi_range2 hg hm (ha c) hs hs2) fun σ H R ⟨w, Γ, P, EX, er, q, x, k⟩ => ⟨w, Γ, _, EX, er, q, x, fun ds Γ1 w1 H1 vs q1 s1 e1 r1 => by
    match ds, q1 with
    | [.int i, .int j], q1 =>
      obtain ⟨u, u', rfl, h, h'⟩ := reps2 r1
      exact ⟨i, j, by rw [show u = V.int i from h, show u' = V.int j from h'], q1.1, k _ _ _ _ _ q1.2 s1 e1 jok_rng⟩⟩
theorem qi_rng3 {e2 : Expr} (hg : Gl X "range") (hm : X.mg "range" = none) (ha : QAx X W [a, b, e2] qr) (hs : starEach [a, b, e2] X.env = (false, eval a X.env) :: starEach [b, e2] X.env := by rfl) (hpl : (backTo pos (starEach [b, e2] X.env)).any (·.1) = false := by rfl) :
    QIx X W tg (.Call (.Name "range" p) [a, b, e2] [] pos) (iqRng3 qr) := fun c =>
  PIi (pi_range3 hg hm (ha c) hs hpl) fun σ H R ⟨w, Γ, P, EX, er, q, x, k⟩ => ⟨w, Γ, _, EX, er, q, x, fun ds Γ1 w1 H1 vs q1 s1 e1 r1 => by
    match ds, q1 with
    | [.int i, .int j, .int c], q1 =>
      obtain ⟨u, u', u2, rfl, h, h', h2⟩ := reps3 r1
      obtain ⟨n, g1, g2⟩ := q1
      exact ⟨i, j, c, n, by rw [show u = V.int i from h, show u' = V.int j from h', show u2 = V.int c from h2], g1, k _ _ _ _ _ g2 s1 e1 jok_rngC⟩⟩
theorem qi_zip {elts : List Expr} {kk : Nat} {tpos : Pos} (hg : Gl X "zip") (hm : X.mg "zip" = none) (ha : QAx X W [a, b] qr) (hs : starEach [a, b] X.env = (false, eval a X.env) :: starEach [b] X.env := by rfl) (hpl : (backTo pos (starEach [b] X.env)).any (·.1) = false := by rfl) :
    QIx X W (.Tuple elts kk tpos) (.Call (.Name "zip" p) [a, b] [] pos) (iqZip qr) := fun c =>
  PIi (RZ.pi_zipA hg hm (ha c) hs hpl) fun σ H R ⟨w, Γ, P, EX, er, q, x, k⟩ => ⟨w, Γ, _, EX, er, q, x, fun ds Γ1 w1 H1 vs q1 s1 e1 r1 => by
    match ds, q1 with
    | [.lst ds, .lst es], q1 =>
      obtain ⟨u, u', rfl, ⟨a, xs, rfl, h1, h2⟩, ⟨b, ys, rfl, h3, h4⟩⟩ := reps2 r1
      exact ⟨a, b, xs, ys, rfl, .inl ⟨h1.sq, h3.sq, k _ _ _ _ _ q1 s1 e1 (jok_zip h1 h2 h3 h4)⟩⟩
    | [.tup ds, .tup es], q1 =>
      obtain ⟨u, u', rfl, ⟨a, xs, rfl, h1, h2⟩, ⟨b, ys, rfl, h3, h4⟩⟩ := reps2 r1
      exact ⟨a, b, xs, ys, rfl, .inr ⟨h1.sq, h3.sq, k _ _ _ _ _ q1 s1 e1 (jok_zipT h1 h2 h3 h4)⟩⟩⟩
end
/-! ### loops -/
def qLoop (g : QG) (b : QS) (EX : EXG) (E : QEnd) : List D → G → Prop
  | [], Γ => E.nx Γ
  | d :: r, Γ => g d Γ fun Γ1 => b EX ⟨fun Γ' => qLoop g b EX E r Γ', E.rt, E.nx, fun Γ' => qLoop g b EX E r Γ'⟩ Γ1
def qFor (qi : QI) (g : QG) (b : QS) : QS := fun EX E Γ => qi EX Γ fun ds Γ1 => qLoop g b EX E ds Γ1
/-- while: an invariant with a measure -/
def qWhile (t : QT) (b : QS) : QS := fun EX E Γ => ∃ I : Nat → G → Prop, (∃ m, I m Γ) ∧ ∀ m Γ, I m Γ → t EX Γ fun k Γ1 => qB k
  (b EX ⟨fun Γ' => ∃ m', m' < m ∧ I m' Γ', E.rt, E.nx, fun Γ' => ∃ m', m' < m ∧ I m' Γ'⟩ Γ1) (E.nx Γ1)
section
variable {X : Cx} {W : WX} {tg e it : Expr} {body : List Stmt} {qi : QI} {g : QG} {b : QS} {t : QT} {pos : Pos}
theorem qs_for (hp : PassesOwn (model X.prog X.w) X.A X.env X.xe) (hc : X.calm = true) (hi : QIx X W tg it qi) (hg : QGx X tg g) (hb : QSs X W body b) (hs : ∀ x, foldedSetIterable it X.env x = pure x := by intro _; rfl) :
    QSx X W (.For tg it body [] pos) (qFor qi g b) := fun c => PSi (ps_for hp hc (hi c) (hg c) (hb c) hs) fun D σ H ⟨w, Γ, E, EX, er, q, x, k⟩ => by
  refine ⟨w, Γ, _, EX, er, q, x, fun ds Γ1 w1 H1 J q1 s1 e1 j => ?_⟩
  refine ⟨fun i m σ' H' => m = ds.length - i ∧ i ≤ ds.length ∧ ∃ w' Γ', ER X.K c w' H' σ' Γ' ∧ Stp c w1 σ Γ1 H1 w' σ' Γ' H' ∧ qLoop g b EX E (ds.drop i) Γ', ⟨_, rfl, Nat.zero_le _, w1, Γ1, e1, Stp.refl, q1⟩, ?_⟩
  rintro i m σ' H' ⟨rfl, hi, w', Γ', e', s', q'⟩
  obtain ⟨j1, j2⟩ := j i w' H' (Av c w' σ' Γ') s'.keep s'.pre fun a h => e'.tracked h
  by_cases hlt : i < ds.length
  · have hd : ds.drop i = ds[i] :: ds.drop (i + 1) := List.drop_eq_getElem_cons hlt
    rw [hd] at q'
    obtain ⟨g1, g2⟩ := j2 _ (List.getElem?_eq_getElem hlt)
    refine .inr ⟨g1, fun σ2 H2 => ∃ w2 Γ2, ER X.K c w2 H2 σ2 Γ2 ∧ Stp c w1 σ Γ1 H1 w2 σ2 Γ2 H2 ∧ qLoop g b EX E (ds.drop (i + 1)) Γ2, fun σ2 H2 ⟨w2, Γ2, e2, s2, q2⟩ => ⟨_, ?_, rfl, hlt, w2, Γ2, e2, s2, q2⟩, fun v H2 y => ?_⟩
    · omega
    · obtain ⟨sm, rv⟩ := g2 v H2 y
      have e2 := e'.same sm
      have s2 : Stp c w' σ' Γ' H' w' σ' Γ' H2 := Stp.same sm
      refine ⟨w', Γ', _, _, e2, rv, q', fun Γ3 w3 σ3 H3 q3 s3 e3 => ?_⟩
      have st := (s'.trans s2).trans s3
      refine ⟨w3, Γ3, _, EX, e3, q3, (x.stp s1).stp st, ⟨?_, ?_, ?_, ?_⟩⟩
      · exact fun Γ4 w4 σ4 H4 q4 s4 e4 => ⟨w4, Γ4, e4, st.trans s4, q4⟩
      · exact fun d Γ4 w4 σ4 H4 v q4 s4 e4 r4 => k.rt d Γ4 w4 σ4 H4 v q4 ((s1.trans st).trans s4) e4 r4
      · exact fun Γ4 w4 σ4 H4 q4 s4 e4 => k.nx Γ4 w4 σ4 H4 q4 ((s1.trans st).trans s4) e4
      · exact fun Γ4 w4 σ4 H4 q4 s4 e4 => ⟨w4, Γ4, e4, st.trans s4, q4⟩
  · have he : ds.drop i = [] := List.drop_eq_nil_of_le (by omega)
    rw [he] at q'
    exact .inl ⟨j1 (by omega), k.nx Γ' w' σ' H' q' (s1.trans s') e'⟩
theorem qs_while (hp : PassesOwn (model X.prog X.w) X.A X.env X.xe) (ht : QTx X W e t) (hb : QSs X W body b) : QSx X W (.While e body [] pos) (qWhile t b) := fun c => PSi (ps_while hp (ht c) (hb c)) fun D σ H ⟨w, Γ, E, EX, er, ⟨I, ⟨m, hm⟩, q⟩, x, k⟩ => by
  refine ⟨fun m σ' H' => ∃ w' Γ', ER X.K c w' H' σ' Γ' ∧ Stp c w σ Γ H w' σ' Γ' H' ∧ I m Γ', ⟨m, w, Γ, er, Stp.refl, hm⟩, ?_⟩
  rintro m σ' H' ⟨w', Γ', e', s', hI⟩
  refine ⟨w', Γ', _, EX, e', q m Γ' hI, x.stp s', fun b Γ1 w1 H1 q1 s1 e1 => ?_⟩
  have st := s'.trans s1
  cases b with
  | true =>
    refine ⟨fun σ2 H2 => ∃ m', m' < m ∧ ∃ w2 Γ2, ER X.K c w2 H2 σ2 Γ2 ∧ Stp c w σ Γ H w2 σ2 Γ2 H2 ∧ I m' Γ2, fun σ2 H2 z => z, ?_⟩
    refine ⟨w1, Γ1, _, EX, e1, q1, x.stp st, ⟨?_, ?_, ?_, ?_⟩⟩
    · exact fun Γ4 w4 σ4 H4 ⟨m', h1, h2⟩ s4 e4 => ⟨m', h1, w4, Γ4, e4, st.trans s4, h2⟩
    · exact fun d Γ4 w4 σ4 H4 v q4 s4 e4 r4 => k.rt d Γ4 w4 σ4 H4 v q4 (st.trans s4) e4 r4
    · exact fun Γ4 w4 σ4 H4 q4 s4 e4 => k.nx Γ4 w4 σ4 H4 q4 (st.trans s4) e4
    · exact fun Γ4 w4 σ4 H4 ⟨m', h1, h2⟩ s4 e4 => ⟨m', h1, w4, Γ4, e4, st.trans s4, h2⟩
  | false => exact k.nx Γ1 w1 σ' H1 q1 st e1
end
end QL
namespace QL
open PySem PySem.Spec PyProof.Rows L2
/-! ### defs -/
def av2 (w : List Addr) (hid : Hp) (a : Addr) : Prop := a ∈ w ∨ ∃ o, hid a = some o
structure Ent (K : PySem.W.Frag) (w : List Addr) (hid : Hp) (H : Hp) (ob : List Ob) : Prop where
  wl : w.length = ob.length
  wn : w.Nodup
  ob : ∀ (n : Nat) a o, w[n]? = some a → ob[n]? = some o → ObR K H (av2 w hid) w a o
  hid : ∀ a o, hid a = some o → H a = some o ∧ a ∉ w
/-- what a def does: exceptions wished for, arguments, objects, what follows -/
abbrev FQ := (Exc → List Ob → Prop) → List D → List Ob → (D → List Ob → Prop) → Prop
def Exr2 (K : PySem.W.Frag) (w : List Addr) (hid : Hp) (H : Hp) (e : Exc) (cls : Value) (d : Option Addr) : Prop :=
  cls = .ref e.cls ∧ ∃ dd kvs, d = some dd ∧ H dd = some (.xd kvs) ∧ ¬ av2 w hid dd ∧ kvs.map (·.1) = e.fs ∧ Reps K H (av2 w hid) w e.xs (kvs.map (·.2))
/-- all but the objects stays -/
def Stay (w : List Addr) (H : Hp) (w' : List Addr) (H' : Hp) : Prop := w <+: w' ∧ ∀ a o, H a = some o → a ∉ w → H' a = some o ∧ a ∉ w'
def spQ (K : PySem.W.Frag) (n : Nat) (F : FQ) : Sp := fun vs H Q E => ∃ w hid ob ds P EX, Ent K w hid H ob ∧ Reps K H (av2 w hid) w ds vs ∧ ds.length = n ∧ F EX ds ob P ∧
  (∀ d ob' w' H' v, P d ob' → Stay w H w' H' → Ent K w' hid H' ob' → Rep K H' (av2 w' hid) w' d v → Q v H') ∧
  (∀ e ob' w' H' cls d, EX e ob' → Stay w H w' H' → Ent K w' hid H' ob' → Exr2 K w' hid H' e cls d → E cls d H')
theorem spQ_imp {K : PySem.W.Frag} {n : Nat} {F F' : FQ} (h : ∀ EX ds ob P, ds.length = n → F' EX ds ob P → F EX ds ob P) : ∀ vs H Q E, spQ K n F' vs H Q E → spQ K n F vs H Q E :=
  fun vs H Q E ⟨w, hid, ob, ds, P, EX, h1, h2, h3, h4, h5, h6⟩ => ⟨w, hid, ob, ds, P, EX, h1, h2, h3, h EX ds ob P h3 h4, h5, h6⟩
theorem spQ_len {K : PySem.W.Frag} {n : Nat} {F : FQ} {vs : List V} {H : Hp} {Q : VK} {E : XK} (h : spQ K n F vs H Q E) : vs.length = n := by
  obtain ⟨w, hid, ob, ds, P, EX, h1, h2, h3, h4, h5, h6⟩ := h
  rw [h2.length]
  exact h3
def G0 (N : List Str) (ds : List D) (ob : List Ob) : G := ⟨ds.map .va ++ List.replicate (N.length - ds.length) .un, ob⟩
def fqOf (N : List Str) (q : QS) : FQ := fun EX ds ob P => q (fun e Γ => EX e Γ.ob) ⟨fun Γ => P .non Γ.ob, fun d Γ => P d Γ.ob, fun _ => False, fun _ => False⟩ (G0 N ds ob)
theorem noown {N : List Str} {ds : List D} {ob : List Ob} {σ : L2.St} {i : Nat} {a : Addr} (h : OwnAt σ (G0 N ds ob) i a) : False := by
  obtain ⟨_, s, h1, h2⟩ := h
  have hm : s ∈ ds.map Slot.va ++ List.replicate (N.length - ds.length) Slot.un := List.mem_of_getElem? h1
  rcases List.mem_append.mp hm with hm | hm
  · obtain ⟨d, _, rfl⟩ := List.mem_map.mp hm
    cases h2
  · rw [(List.mem_replicate.mp hm).2] at h2
    cases h2
theorem av_start {N : List Str} {ds : List D} {ob : List Ob} {σ : L2.St} {w : List Addr} {H hid : Hp} {a : Addr} : Av ⟨w, H, hid⟩ w σ (G0 N ds ob) a ↔ av2 w hid a := by
  constructor
  · intro h
    rcases h with h | h | ⟨i, h⟩
    · exact .inl h
    · exact .inr h
    · exact (noown h).elim
  · intro h
    rcases h with h | h
    · exact .inl h
    · exact .inr (.inl h)
theorem er_start {K : PySem.W.Frag} {N : List Str} {ds : List D} {ob : List Ob} {w : List Addr} {H hid : Hp} {vs : List V} (e : Ent K w hid H ob) (r : Reps K H (av2 w hid) w ds vs) (hl : ds.length ≤ N.length) : ER K ⟨w, H, hid⟩ w H (L2.start N vs) (G0 N ds ob) where
  len := by
    show (vs.map some ++ List.replicate (N.length - vs.length) none).length = (ds.map Slot.va ++ List.replicate (N.length - ds.length) Slot.un).length
    rw [List.length_append, List.length_append, List.length_map, List.length_map, List.length_replicate, List.length_replicate, r.length]
  wl := e.wl
  wn := e.wn
  on := fun i j a h _ => (noown h).elim
  ow := fun i a h => (noown h).elim
  sl := fun i s h => by
    have kk : ∀ a o, H a = some o → ¬ av2 w hid a → H a = some o ∧ ¬ Av ⟨w, H, hid⟩ w (L2.start N vs) (G0 N ds ob) a := fun a o h n => ⟨h, fun z => n (av_start.mp z)⟩
    have h : (ds.map Slot.va ++ List.replicate (N.length - ds.length) Slot.un)[i]? = some s := h
    by_cases hi : i < ds.length
    · rw [List.getElem?_append_left (by rw [List.length_map]; exact hi), List.getElem?_map] at h
      cases q : ds[i]? with
      | none =>
        rw [q] at h
        cases h
      | some d =>
        rw [q] at h
        cases h
        obtain ⟨x, hx, rx⟩ := r.get q
        refine ⟨x, ?_, rx.keep kk (List.prefix_refl _)⟩
        show ((vs.map some ++ List.replicate (N.length - vs.length) none)[i]?).join = some x
        rw [List.getElem?_append_left (by rw [List.length_map, r.length]; exact hi), List.getElem?_map, hx]
        rfl
    · rw [List.getElem?_append_right (by rw [List.length_map]; omega)] at h
      have hm := List.mem_of_getElem? h
      rw [(List.mem_replicate.mp hm).2]
      trivial
  ob := fun n a o h1 h2 => (e.ob n a o h1 h2).keep (fun a o h n => ⟨h, fun z => n (av_start.mp z)⟩) (List.prefix_refl _) fun u h => h
  fr := fun a o h n => ⟨h, n⟩
  pre := List.prefix_refl _
  hid := e.hid
theorem av2_av {c : C0} {w : List Addr} {σ : L2.St} {Γ : G} {a : Addr} (h : av2 w c.hid a) : Av c w σ Γ a := h.imp id .inl
/-- behind the body -/
theorem ER.ent {K : PySem.W.Frag} {c : C0} {w : List Addr} {H : Hp} {σ : L2.St} {Γ : G} (e : ER K c w H σ Γ) : Ent K w c.hid H Γ.ob :=
  ⟨e.wl, e.wn, fun n a o h1 h2 => (e.ob n a o h1 h2).keep (fun a o h n => ⟨h, fun z => n (av2_av z)⟩) (List.prefix_refl _) fun u h => h, e.hid⟩
theorem ER.stay {K : PySem.W.Frag} {c : C0} {w : List Addr} {H : Hp} {σ : L2.St} {Γ : G} (e : ER K c w H σ Γ) : Stay c.w0 c.H0 w H := ⟨e.pre, e.fr⟩
section
variable {P : Program} {wd : World} {K : PySem.W.Frag} {mg : Str → Option Value} {base : Heap} {x qual : Str} {params : Arguments} {body : List Stmt} {scope : Scope} {dvs : List V} {kws : List (Str × V)} {f : Addr} {fd : FuncData}
abbrev Wx (E : XK) : WX := fun cls d _ H => E cls d H
/-- what is at hand in a def's body -/
structure Bd (X : Cx) (W : WX) (k : Nat) : Prop where
  hc : X.calm = true
  hp : PassesOwn (model X.prog X.w) X.A X.env X.xe
  tk : Takes X W
  hr : Room k X.A
theorem fq_ok {N ps : List Str} {k : Nat} {q : QS} (F : FunD K x qual params body scope dvs kws f fd) (S : FnScope N ps scope) (hl : ps.length ≤ N.length)
    (hb : ∀ (cdv : Value) (A : Around) (outer : List Env) (s : Shared) (H : Hp) (E : XK), Bd (cxOf (L2.CX P wd) P wd K mg base N qual scope f cdv A outer s H E) (Wx E) k →
      QSs (cxOf (L2.CX P wd) P wd K mg base N qual scope f cdv A outer s H E) (Wx E) body q) : FnOk P wd K mg base (L2.CX P wd) (k + 1) f fd ps (spQ K ps.length (fqOf N q)) := by
  refine F.ok S (fun vs H Q E h => spQ_len h) (fun cdv A outer s H vs Q E hr h => ?_)
  obtain ⟨w, hid, ob, ds, P', EX, h1, h2, h3, h4, h5, h6⟩ := h
  refine ⟨_, hb cdv A outer s H E ⟨rfl, passes_of rfl, takes_of rfl rfl rfl rfl, hr⟩ ⟨w, H, hid⟩, ?_⟩
  have er := er_start (N := N) h1 h2 (by rw [h3]; exact hl)
  have low : ∀ {w' : List Addr} {H' : Hp} {σ' : L2.St} {Γ' : G} {d : D} {v : V}, Rep K H' (Av ⟨w, H, hid⟩ w' σ' Γ') w' d v → Rep K H' (av2 w' hid) w' d v :=
    fun {w' H' σ' Γ' d v} r => r.keep (fun a o h n => ⟨h, fun z => n (av2_av (c := ⟨w, H, hid⟩) z)⟩) (List.prefix_refl _)
  refine ⟨w, _, _, _, er, h4, fun e Γ' w' σ' H' cls d q1 s1 e1 r1 => ?_, ⟨fun Γ' w' σ' H' q1 s1 e1 => ?_, fun d Γ' w' σ' H' v q1 s1 e1 r1 => ?_, fun _ _ _ _ z _ _ => z.elim, fun _ _ _ _ z _ _ => z.elim⟩⟩
  · obtain ⟨g1, dd, kvs, g2, g3, g4, g5, g6⟩ := r1
    exact h6 e Γ'.ob w' H' cls d q1 e1.stay e1.ent ⟨g1, dd, kvs, g2, g3, fun z => g4 (av2_av (c := ⟨w, H, hid⟩) z), g5, g6.keep (fun a o h n => ⟨h, fun z => n (av2_av (c := ⟨w, H, hid⟩) z)⟩) (List.prefix_refl _)⟩
  · exact h5 _ _ w' H' _ q1 e1.stay e1.ent rfl
  · exact h5 _ _ w' H' _ q1 e1.stay e1.ent (low r1)
end
/-! ### calls -/
/-- f(..) -/
def qCall (n : Nat) (F : FQ) (dds : List D) (qr : QA) : QE := fun EX Γ P => qr EX Γ fun ds Γ1 => (ds ++ dds).length = n ∧ F (fun e ob => EX e ⟨Γ1.sl, ob⟩) (ds ++ dds) Γ1.ob fun d ob => P d ⟨Γ1.sl, ob⟩
open Classical in
/-- the caller's own lists are hidden -/
noncomputable def hidOf (c : C0) (σ : L2.St) (Γ : G) (H : Hp) : Hp := fun a => if (∃ i, OwnAt σ Γ i a) then H a else c.hid a
section
variable {K : PySem.W.Frag} {c : C0} {w : List Addr} {H : Hp} {σ : L2.St} {Γ : G}
theorem hid_iff (e : ER K c w H σ Γ) {a : Addr} : av2 w (hidOf c σ Γ H) a ↔ Av c w σ Γ a := by
  unfold av2 Av hidOf
  constructor
  · rintro (h | ⟨o, h⟩)
    · exact .inl h
    · by_cases q : ∃ i, OwnAt σ Γ i a
      · exact .inr (.inr q)
      · rw [if_neg q] at h
        exact .inr (.inl ⟨o, h⟩)
  · rintro (h | ⟨o, h⟩ | q)
    · exact .inl h
    · by_cases q : ∃ i, OwnAt σ Γ i a
      · obtain ⟨i, q⟩ := q
        rw [(e.ow i a q).2.1] at h
        cases h
      · exact .inr ⟨o, by rw [if_neg q]; exact h⟩
    · obtain ⟨o, h⟩ := e.tracked (.inr (.inr q))
      exact .inr ⟨o, by rw [if_pos q]; exact h⟩
theorem ent_call (e : ER K c w H σ Γ) : Ent K w (hidOf c σ Γ H) H Γ.ob where
  wl := e.wl
  wn := e.wn
  ob := fun n a o h1 h2 => (e.ob n a o h1 h2).keep (fun a o h n => ⟨h, fun z => n ((hid_iff e).mp z)⟩) (List.prefix_refl _) fun u h => h
  hid := fun a o h => by
    unfold hidOf at h
    by_cases q : ∃ i, OwnAt σ Γ i a
    · rw [if_pos q] at h
      obtain ⟨i, q⟩ := q
      exact ⟨h, (e.ow i a q).1⟩
    · rw [if_neg q] at h
      exact e.hid a o h
theorem own_ob {ob : List Ob} {i : Nat} {a : Addr} : OwnAt σ ⟨Γ.sl, ob⟩ i a ↔ OwnAt σ Γ i a := Iff.rfl
/-- behind a call -/
theorem back_call (e : ER K c w H σ Γ) {w' : List Addr} {H' : Hp} {ob' : List Ob} (s : Stay w H w' H') (n : Ent K w' (hidOf c σ Γ H) H' ob') :
    ER K c w' H' σ ⟨Γ.sl, ob'⟩ ∧ Stp c w σ Γ H w' σ ⟨Γ.sl, ob'⟩ H' ∧ ∀ a, Av c w' σ ⟨Γ.sl, ob'⟩ a → av2 w' (hidOf c σ Γ H) a := by
  have nw : ∀ a o, H a = some o → a ∉ w → a ∉ w' := fun a o h z => (s.2 a o h z).2
  have up : ∀ a, Av c w' σ ⟨Γ.sl, ob'⟩ a → av2 w' (hidOf c σ Γ H) a := by
    rintro a (h | ⟨o, h⟩ | q)
    · exact .inl h
    · rcases (hid_iff e).mpr (.inr (.inl ⟨o, h⟩)) with z | z
      · exact absurd z (e.hid a o h).2
      · exact .inr z
    · rcases (hid_iff e).mpr (.inr (.inr q)) with z | z
      · obtain ⟨i, q⟩ := q
        exact absurd z (e.ow i a q).1
      · exact .inr z
  have dn : ∀ a o, H a = some o → av2 w' (hidOf c σ Γ H) a → a ∉ w → Av c w σ Γ a := by
    rintro a o h (z | z) n
    · exact absurd z (nw a o h n)
    · exact (hid_iff e).mp (.inr z)
  have st : Stp c w σ Γ H w' σ ⟨Γ.sl, ob'⟩ H' := ⟨fun a o h z => ⟨(s.2 a o h fun q => z (.inl q)).1, fun q => z (dn a o h (up a q) fun q => z (.inl q))⟩, s.1⟩
  refine ⟨⟨e.len, n.wl, n.wn, e.on, fun i a h => ⟨?_, (e.ow i a h).2⟩, fun i sl h => ?_, fun k a o h1 h2 => ?_, fun a o h z => ?_, e.pre.trans s.1, fun a o h => ?_⟩, st, up⟩
  · obtain ⟨o, q⟩ := e.tracked (.inr (.inr ⟨i, h⟩))
    exact nw a o q (e.ow i a h).1
  · refine (e.sl i sl h).keep st.keep st.pre fun ho a u h1 h2 => ?_
    have q : OwnAt σ Γ i a := ⟨own_ref h1, sl, h, ho⟩
    exact (s.2 a u h2 (e.ow i a q).1).1
  · exact (n.ob k a o h1 h2).keep (fun a o h z => ⟨h, fun q => z (up a q)⟩) (List.prefix_refl _) fun u h => h
  · obtain ⟨g1, g2⟩ := e.fr a o h z
    exact s.2 a o g1 g2
  · obtain ⟨g1, g2⟩ := e.hid a o h
    exact s.2 a o g1 g2
end
section
variable {X : Cx} {W : WX} {E : XK} {k j n : Nat} {f : Addr} {fd : FuncData} {ps : List Str} {F : FQ} {dvs : List V} {dds : List D} {dsv : List Value} {x : Str} {p pos : Pos} {e : Expr} {es : List Expr} {qr : QA}
/-- a def is called by values -/
theorem sp_call {c : C0} {w : List Addr} {Γ : G} {H : Hp} {σ : L2.St} {ds : List D} {vs : List V} {P : D → G → Prop} {Q : VK} {EX : EXG} {E : XK} (er : ER X.K c w H σ Γ) (r : Reps X.K H (Av c w σ Γ) w ds vs) (hn : ds.length = n)
    (h : F (fun e ob => EX e ⟨Γ.sl, ob⟩) ds Γ.ob fun d ob => P d ⟨Γ.sl, ob⟩)
    (xl : ∀ e Γ' w' H' cls d, EX e Γ' → Stp c w σ Γ H w' σ Γ' H' → ER X.K c w' H' σ Γ' → ExR X.K c w' σ Γ' H' e cls d → E cls d H')
    (k : ∀ d Γ' w' H' v, P d Γ' → Stp c w σ Γ H w' σ Γ' H' → ER X.K c w' H' σ Γ' → Rep X.K H' (Av c w' σ Γ') w' d v → Q v H') : spQ X.K n F vs H Q E := by
  refine ⟨w, hidOf c σ Γ H, Γ.ob, ds, _, _, ent_call er, r.keep (fun a o h n => ⟨h, fun z => n ((hid_iff er).mp z)⟩) (List.prefix_refl _), hn, h, ?_, ?_⟩
  · intro d ob' w' H' v h1 h2 h3 h4
    obtain ⟨g1, g2, g3⟩ := back_call er h2 h3
    exact k d _ w' H' v h1 g2 g1 (h4.keep (fun a o h n => ⟨h, fun z => n (g3 a z)⟩) (List.prefix_refl _))
  · intro e ob' w' H' cls d h1 h2 h3 h4
    obtain ⟨g1, g2, g3⟩ := back_call er h2 h3
    obtain ⟨i1, dd, kvs, i2, i3, i4, i5, i6⟩ := h4
    exact xl e _ w' H' cls d h1 g2 g1 ⟨i1, dd, kvs, i2, i3, fun z => i4 (g3 dd z), i5, i6.keep (fun a o h n => ⟨h, fun z => n (g3 a z)⟩) (List.prefix_refl _)⟩
/-- defaults as data -/
def DflOk (K : PySem.W.Frag) (dds : List D) (dvs : List V) : Prop := ∀ H av w, Reps K H av w dds dvs
theorem q_call (B : Bd X W k) (G1 : FnOk X.prog X.w X.K X.mg X.base (L2.CX X.prog X.w) j f fd ps (spQ X.K n F)) (hj : j ≤ k) (hg : Gl X x) (hm : X.mg x = some (.ref f)) (hk : PySem.W.keepIn X.K (.ref f) = true) (hb : Binds X.K fd ps dsv) (hd : Vals dvs dsv) (hD : DflOk X.K dds dvs)
    (ha : QAx X W (e :: es) qr) (hdb : (x == ("__debug__" : Str)) = false := by decide) (he : starEach (e :: es) X.env = (false, eval e X.env) :: starEach es X.env := by rfl) (hpl : (backTo pos (starEach es X.env)).any (·.1) = false := by rfl) :
    QEx X W (.Call (.Name x p) (e :: es) [] pos) (qCall n F dds qr) := fun c =>
  PEi (pe_callSD G1 (B.hr.mono hj) hg hm hk hb hd (fun σ => passAt B.tk σ) (ha c) hdb he hpl) fun σ H Q ⟨w, Γ, P, EX, er, q, x, k⟩ =>
    ⟨w, Γ, _, EX, er, q, x, fun ds Γ1 w1 H1 vs q1 s1 e1 r1 => sp_call e1 (r1.append (hD _ _ _)) q1.1 q1.2 (fun e Γ' w' H' cls d h1 h2 h3 h4 => x e Γ' w' σ H' cls d h1 (s1.trans h2) h3 h4)
      fun d Γ' w' H' v h1 h2 h3 h4 => k d Γ' w' H' v h1 (s1.trans h2) h3 h4⟩
end
end QL
namespace QL
open PySem PySem.Spec PyProof.Rows L2
/-! ### list comprehensions -/
def wipeS : List Slot → List Nat → List Slot
  | s, [] => s
  | s, v :: vs => (wipeS s vs).set v .un
def wipeG (Γ : G) (vs : List Nat) : G := ⟨wipeS Γ.sl vs, Γ.ob⟩
theorem wipeS_len (s : List Slot) : ∀ vs, (wipeS s vs).length = s.length
  | [] => rfl
  | v :: vs => by
    show ((wipeS s vs).set v .un).length = _
    rw [List.length_set, wipeS_len s vs]
theorem wipeS_in {s : List Slot} {i : Nat} : ∀ {vs : List Nat}, i ∈ vs → i < s.length → (wipeS s vs)[i]? = some .un
  | v :: vs, h, hi => by
    show ((wipeS s vs).set v .un)[i]? = _
    by_cases e : v = i
    · subst e
      rw [List.getElem?_set_self (by rw [wipeS_len]; exact hi)]
    · rw [List.getElem?_set_ne e]
      exact wipeS_in ((List.mem_cons.mp h).resolve_left fun z => e z.symm) hi
theorem wipeS_out {s : List Slot} {i : Nat} : ∀ {vs : List Nat}, i ∉ vs → (wipeS s vs)[i]? = s[i]?
  | [], _ => rfl
  | v :: vs, h => by
    show ((wipeS s vs).set v .un)[i]? = _
    rw [List.getElem?_set_ne (fun z => h (by rw [z]; exact List.mem_cons_self ..))]
    exact wipeS_out fun z => h (List.mem_cons_of_mem _ z)
theorem wipe_in {σ : L2.St} {i : Nat} : ∀ {vs : List Nat}, i ∈ vs → i < σ.length → (wipe σ vs)[i]? = some none
  | v :: vs, h, hi => by
    show ((wipe σ vs).set v none)[i]? = _
    by_cases e : v = i
    · subst e
      rw [List.getElem?_set_self (by rw [wipe_length]; exact hi)]
    · rw [List.getElem?_set_ne e]
      exact wipe_in ((List.mem_cons.mp h).resolve_left fun z => e z.symm) hi
theorem wipe_set {j : Nat} {v : Option V} : ∀ {vs : List Nat} {σ : L2.St}, j ∈ vs → wipe (σ.set j v) vs = wipe σ vs := by
  intro vs σ h
  apply List.ext_getElem?
  intro i
  by_cases hi : i ∈ vs
  · by_cases hl : i < σ.length
    · rw [wipe_in hi hl, wipe_in hi (by rw [List.length_set]; exact hl)]
    · rw [List.getElem?_eq_none (by rw [wipe_length, List.length_set]; omega), List.getElem?_eq_none (by rw [wipe_length]; omega)]
  · rw [wipe_out hi, wipe_out hi, List.getElem?_set_ne (fun z => hi (by rw [← z]; exact h))]
section
variable {K : PySem.W.Frag} {c : C0} {w : List Addr} {H : Hp} {σ : L2.St} {Γ : G} {vs : List Nat}
theorem own_wipe {i : Nat} {a : Addr} : OwnAt (wipe σ vs) (wipeG Γ vs) i a → OwnAt σ Γ i a := by
  rintro ⟨h1, s, h2, h3⟩
  obtain ⟨g1, g2⟩ := wipe_some h1
  rw [show (wipeG Γ vs).sl[i]? = Γ.sl[i]? from wipeS_out g2] at h2
  exact ⟨g1, s, h2, h3⟩
theorem own_wipe2 {i : Nat} {a : Addr} (hl : σ.length = Γ.sl.length) : OwnAt σ (wipeG Γ vs) i a → OwnAt (wipe σ vs) (wipeG Γ vs) i a := by
  rintro ⟨h1, s, h2, h3⟩
  by_cases q : i ∈ vs
  · have hi : i < Γ.sl.length := by
      have := (List.getElem?_eq_some_iff.mp h1).1
      rw [hl] at this
      exact this
    rw [show (wipeG Γ vs).sl[i]? = _ from wipeS_in q hi] at h2
    cases h2
    cases h3
  · exact ⟨by rw [wipe_out q]; exact h1, s, h2, h3⟩
theorem av_wipe {a : Addr} : Av c w (wipe σ vs) (wipeG Γ vs) a → Av c w σ Γ a := fun h => h.imp id (Or.imp id fun ⟨i, z⟩ => ⟨i, own_wipe z⟩)
theorem av_wipe2 {a : Addr} (hl : σ.length = Γ.sl.length) : Av c w σ (wipeG Γ vs) a → Av c w (wipe σ vs) (wipeG Γ vs) a := fun h => h.imp id (Or.imp id fun ⟨i, z⟩ => ⟨i, own_wipe2 hl z⟩)
theorem ER.wiped (e : ER K c w H σ Γ) : ER K c w H (wipe σ vs) (wipeG Γ vs) := by
  have kk : ∀ a o, H a = some o → ¬ Av c w σ Γ a → H a = some o ∧ ¬ Av c w (L2.wipe σ vs) (wipeG Γ vs) a := fun a o h n => ⟨h, fun z => n (av_wipe z)⟩
  refine ⟨?_, e.wl, e.wn, fun i j a h1 h2 => e.on i j a (own_wipe h1) (own_wipe h2), fun i a h => e.ow i a (own_wipe h), fun i s h => ?_, fun n a o h1 h2 => (e.ob n a o h1 h2).keep kk (List.prefix_refl _) fun u h => h, e.fr, e.pre, e.hid⟩
  · show _ = (wipeS Γ.sl vs).length
    rw [wipe_length, wipeS_len]
    exact e.len
  · by_cases q : i ∈ vs
    · by_cases hi : i < Γ.sl.length
      · rw [show (wipeG Γ vs).sl[i]? = _ from wipeS_in q hi] at h
        cases h
        trivial
      · rw [show (wipeG Γ vs).sl[i]? = none from List.getElem?_eq_none (by show (wipeS Γ.sl vs).length ≤ i; rw [wipeS_len]; omega)] at h
        cases h
    · rw [show (wipeG Γ vs).sl[i]? = _ from wipeS_out q] at h
      rw [wipe_out q]
      exact (e.sl i s h).keep kk (List.prefix_refl _) fun _ a u _ h => h
/-- back from the block: the block's names are told no more -/
theorem ER.unwiped (e : ER K c w H (wipe σ vs) (wipeG Γ vs)) : ER K c w H σ (wipeG Γ vs) := by
  have hl : σ.length = Γ.sl.length := by
    have := e.len
    rw [wipe_length, show (wipeG Γ vs).sl.length = _ from wipeS_len _ _] at this
    exact this
  have kk : ∀ a o, H a = some o → ¬ Av c w (L2.wipe σ vs) (wipeG Γ vs) a → H a = some o ∧ ¬ Av c w σ (wipeG Γ vs) a := fun a o h n => ⟨h, fun z => n (av_wipe2 hl z)⟩
  refine ⟨?_, e.wl, e.wn, fun i j a h1 h2 => e.on i j a (own_wipe2 hl h1) (own_wipe2 hl h2), fun i a h => e.ow i a (own_wipe2 hl h), fun i s h => ?_, fun n a o h1 h2 => (e.ob n a o h1 h2).keep kk (List.prefix_refl _) fun u h => h, e.fr, e.pre, e.hid⟩
  · show _ = (wipeS Γ.sl vs).length
    rw [wipeS_len]
    exact hl
  · by_cases q : i ∈ vs
    · by_cases hi : i < Γ.sl.length
      · rw [show (wipeG Γ vs).sl[i]? = _ from wipeS_in q hi] at h
        cases h
        trivial
      · rw [show (wipeG Γ vs).sl[i]? = none from List.getElem?_eq_none (by show (wipeS Γ.sl vs).length ≤ i; rw [wipeS_len]; omega)] at h
        cases h
    · have z := e.sl i s h
      rw [wipe_out q] at z
      exact z.keep kk (List.prefix_refl _) fun _ a u _ h => h
theorem stp_wipe : Stp c w σ Γ H w (wipe σ vs) (wipeG Γ vs) H := ⟨fun a o h n => ⟨h, fun z => n (av_wipe z)⟩, List.prefix_refl _⟩
theorem stp_unwipe (hl : σ.length = Γ.sl.length) : Stp c w (wipe σ vs) (wipeG Γ vs) H w σ (wipeG Γ vs) H := ⟨fun a o h n => ⟨h, fun z => n (av_wipe2 hl z)⟩, List.prefix_refl _⟩
/-! the new list is hidden -/
def del (H : Hp) (a : Addr) : Hp := fun b => if b = a then none else H b
theorem del_ne {H : Hp} {a b : Addr} (h : b ≠ a) : del H a b = H b := if_neg h
theorem del_same {H : Hp} {a : Addr} : del H a a = none := if_pos rfl
theorem del_some {H : Hp} {a b : Addr} {o : HO} (h : del H a b = some o) : b ≠ a ∧ H b = some o := by
  by_cases e : b = a
  · subst e
    rw [del_same] at h
    cases h
  · rw [del_ne e] at h
    exact ⟨e, h⟩
theorem del_upd {H : Hp} {a : Addr} {o : HO} : del (upd H a o) a = del H a := by
  funext b
  by_cases e : b = a
  · subst e
    rw [del_same, del_same]
  · rw [del_ne e, del_ne e, upd_ne e]
theorem upd_del {H : Hp} {a : Addr} {o : HO} (h : H a = some o) : upd (del H a) a o = H := by
  funext b
  by_cases e : b = a
  · subst e
    rw [upd_same, h]
  · rw [upd_ne e, del_ne e]
def C0.hide (c : C0) (a : Addr) (o : HO) : C0 := ⟨c.w0, c.H0, upd c.hid a o⟩
theorem av_hide {a : Addr} {Dd : Addr} {o : HO} : Av (c.hide Dd o) w σ Γ a ↔ a = Dd ∨ Av c w σ Γ a := by
  unfold Av C0.hide
  constructor
  · rintro (h | ⟨u, h⟩ | h)
    · exact .inr (.inl h)
    · by_cases e : a = Dd
      · exact .inl e
      · have h : upd c.hid Dd o a = some u := h
        rw [upd_ne e] at h
        exact .inr (.inr (.inl ⟨u, h⟩))
    · exact .inr (.inr (.inr h))
  · rintro (e | h | ⟨u, h⟩ | h)
    · subst e
      exact .inr (.inl ⟨o, upd_same⟩)
    · exact .inl h
    · by_cases e : a = Dd
      · subst e
        exact .inr (.inl ⟨o, upd_same⟩)
      · exact .inr (.inl ⟨u, by show upd c.hid Dd o a = some u; rw [upd_ne e]; exact h⟩)
    · exact .inr (.inr h)
theorem ER.hide {Dd : Addr} {o : HO} (e : ER K c w (del H Dd) σ Γ) (h : H Dd = some o) : ER K (c.hide Dd o) w H σ Γ := by
  have nav : ¬ Av c w σ Γ Dd := e.fresh del_same
  have kk : ∀ a u, del H Dd a = some u → ¬ Av c w σ Γ a → H a = some u ∧ ¬ Av (c.hide Dd o) w σ Γ a := fun a u z n => ⟨(del_some z).2, fun q => (av_hide.mp q).elim (del_some z).1 n⟩
  refine ⟨e.len, e.wl, e.wn, e.on, fun i a z => ⟨(e.ow i a z).1, ?_, (e.ow i a z).2.2⟩, fun i s z => (e.sl i s z).keep kk (List.prefix_refl _) fun _ a u _ z => (del_some z).2, fun n a u h1 h2 => (e.ob n a u h1 h2).keep kk (List.prefix_refl _) fun u z => (del_some z).2,
    fun a u z n => ⟨(del_some (e.fr a u z n).1).2, (e.fr a u z n).2⟩, e.pre, fun a u z => ?_⟩
  · show upd c.hid Dd o a = none
    rw [upd_ne (fun q => nav (by rw [← q]; exact .inr (.inr ⟨i, z⟩)))]
    exact (e.ow i a z).2.1
  · have z : upd c.hid Dd o a = some u := z
    by_cases q : a = Dd
    · subst q
      rw [upd_same] at z
      cases z
      exact ⟨h, fun y => nav (.inl y)⟩
    · rw [upd_ne q] at z
      exact ⟨(del_some (e.hid a u z).1).2, (e.hid a u z).2⟩
theorem ER.unhide {Dd : Addr} {o : HO} (e : ER K (c.hide Dd o) w H σ Γ) (h1 : c.hid Dd = none) (h2 : c.H0 Dd = none) : ER K c w (del H Dd) σ Γ := by
  have ne : ∀ a, ¬ Av (c.hide Dd o) w σ Γ a → a ≠ Dd := fun a n q => n (av_hide.mpr (.inl q))
  have kk : ∀ a u, H a = some u → ¬ Av (c.hide Dd o) w σ Γ a → del H Dd a = some u ∧ ¬ Av c w σ Γ a := fun a u z n => ⟨by rw [del_ne (ne a n)]; exact z, fun q => n (av_hide.mpr (.inr q))⟩
  have nw : Dd ∉ w := (e.hid Dd o upd_same).2
  have no : ∀ i, ¬ OwnAt σ Γ i Dd := fun i z => by
    have q : upd c.hid Dd o Dd = none := (e.ow i Dd z).2.1
    rw [upd_same] at q
    cases q
  refine ⟨e.len, e.wl, e.wn, e.on, fun i a z => ⟨(e.ow i a z).1, ?_, (e.ow i a z).2.2⟩, fun i s z => (e.sl i s z).keep kk (List.prefix_refl _) fun ho a u j1 j2 => ?_, fun n a u g1 g2 => (e.ob n a u g1 g2).keep kk (List.prefix_refl _) fun u z => ?_,
    fun a u z n => ⟨?_, (e.fr a u z n).2⟩, e.pre, fun a u z => ?_⟩
  · have q : upd c.hid Dd o a = none := (e.ow i a z).2.1
    rw [upd_ne (fun y => no i (by rw [← y]; exact z))] at q
    exact q
  · rw [del_ne]
    · exact j2
    · rintro rfl
      exact no i ⟨own_ref j1, s, z, ho⟩
  · rw [del_ne]
    · exact z
    · rintro rfl
      exact nw (List.mem_of_getElem? g1)
  · rw [del_ne]
    · exact (e.fr a u z n).1
    · rintro rfl
      rw [h2] at z
      cases z
  · have na : a ≠ Dd := by
      rintro rfl
      rw [h1] at z
      cases z
    obtain ⟨g1, g2⟩ := e.hid a u (by show upd c.hid Dd o a = some u; rw [upd_ne na]; exact z)
    exact ⟨by rw [del_ne na]; exact g1, g2⟩
end
/-- a target that stores to the block's names alone -/
def liftGv (K : PySem.W.Frag) (c : C0) (vs : List Nat) (q : QG) : TG := fun v σ H Q => ∃ w Γ d P, ER K c w H σ Γ ∧ Rep K H (Av c w σ Γ) w d v ∧ q d Γ P ∧
  ∀ Γ' w' σ' H', P Γ' → Stp c w σ Γ H w' σ' Γ' H' → ER K c w' H' σ' Γ' → wipe σ' vs = wipe σ vs → Q σ' H'
def QGv (X : Cx) (vs : List Nat) (e : Expr) (q : QG) : Prop := ∀ c, PG X e (liftGv X.K c vs q)
def liftGvs (K : PySem.W.Frag) (c : C0) (vs : List Nat) (qs : List QG) : TGs := fun us σ H Q => ∃ w Γ ds P, ER K c w H σ Γ ∧ Reps K H (Av c w σ Γ) w ds us ∧ gqAll qs ds Γ P ∧
  ∀ Γ' w' σ' H', P Γ' → Stp c w σ Γ H w' σ' Γ' H' → ER K c w' H' σ' Γ' → wipe σ' vs = wipe σ vs → Q σ' H'
def QGvs (X : Cx) (vs : List Nat) (es : List Expr) (qs : List QG) : Prop := ∀ c, PGs X es (liftGvs X.K c vs qs)
section
variable {X : Cx} {vs : List Nat} {e : Expr} {es : List Expr} {q : QG} {qs : List QG} {pos : Pos} {x : Str}
theorem qv_name (i : Nat) (hN : X.N.Nodup) (hv : i ∈ vs) (hi : X.N[i]? = some x := by rfl) (hx : Loc X.env.scope x := by first | exact Or.inl rfl | exact Or.inr rfl) (hf : X.fn x = true ∨ X.env.scope.names.lookup x = some .local := by first | exact .inl rfl | exact .inr rfl | assumption) :
    QGv X vs (.Name x pos) (gqName i) := fun c => PGi (pg_name hN hi hx hf) fun v σ H Q ⟨w, Γ, d, P, er, r, q, k⟩ => k _ w _ H q.2 (stp_set q.1) (er.set q.1 r) (wipe_set hv)
theorem qvs_nil : QGvs X vs [] [] := fun c => ⟨fun pins s σ H us us' Q I r h => pgs_nil.run pins s σ H us us' Q I r (by
  obtain ⟨w, Γ, ds, P, er, rs, q, k⟩ := h
  match ds, q with
  | [], q =>
    have rs : us = [] := rs
    exact ⟨rs, k Γ w σ H q Stp.refl er rfl⟩)⟩
theorem qvs_cons (h1 : QGv X vs e q) (h2 : QGvs X vs es qs) (hs : (assignEach (e :: es) X.env).map (·.2) = assign e X.env :: (assignEach es X.env).map (·.2) := by rfl) : QGvs X vs (e :: es) (q :: qs) := fun c =>
  ⟨fun pins s σ H us us' Q I r h => (pgs_cons (h1 c) (h2 c) hs).run pins s σ H us us' Q I r (by
    obtain ⟨w, Γ, ds, P, er, rs, q, k⟩ := h
    match ds, q with
    | d :: ds, q =>
      obtain ⟨v, vr, rfl, r1, r2⟩ := rs
      exact ⟨v, vr, rfl, w, Γ, d, _, er, r1, q, fun Γ1 w1 σ1 H1 q1 s1 e1 z1 => ⟨w1, Γ1, ds, P, e1, r2.stp s1, q1, fun Γ2 w2 σ2 H2 q2 s2 e2 z2 => k Γ2 w2 σ2 H2 q2 (s1.trans s2) e2 (z2.trans z1)⟩⟩)⟩
theorem qv_tup {k : Nat} (hc : X.calm = true) (h : QGvs X vs es qs) (hl : qs.length = es.length) (hn : (assignEach es X.env).length = es.length := by rfl) (hst : (assignEach es X.env).findIdx? (·.1) = none := by rfl) : QGv X vs (.Tuple es k pos) (gqTup qs) := fun c =>
  PGi (pg_tup (n := es.length) hc (h c) hn hst) fun v σ H Q ⟨w, Γ, d, P, er, r, q, k⟩ => by
    cases d <;> try exact q.elim
    obtain ⟨a, xs, rfl, h1, h2⟩ := r
    exact ⟨a, xs, rfl, h1.sq, by rw [h2.length, q.1, hl], w, Γ, _, P, er, h2, q.2, k⟩
end
/-- tests of a clause -/
def QTs (X : Cx) (W : WX) (es : List Expr) (q : QT) : Prop := ∀ c, PTs X es (liftT X.K c W q)
def qYes : QT := fun _ Γ P => P true Γ
theorem qts_nil {X : Cx} {W : WX} : QTs X W [] qYes := fun c => ⟨fun pins s σ H Q I h => pts_nil.run pins s σ H Q I (by
  obtain ⟨w, Γ, P, EX, er, q, x, k⟩ := h
  exact k true Γ w H q Stp.refl er)⟩
theorem qts_one {X : Cx} {W : WX} {e : Expr} {q : QT} (h : QTx X W e q) : QTs X W [e] q := fun c => pts_one (h c)
abbrev W0 : WX := fun _ _ _ _ => False
abbrev EX0 : EXG := fun _ _ => False
theorem XL0 {K : PySem.W.Frag} {c : C0} {W : WX} {w : List Addr} {σ : L2.St} {Γ : G} {H : Hp} : XL K c W w σ Γ H EX0 := fun _ _ _ _ _ _ _ z => z.elim
def qLcL (g : QG) (qt : QT) (qe : QE) (vs : List Nat) (P : List D → G → Prop) : List D → List D → G → Prop
  | acc, [], Γ => P acc Γ
  | acc, d :: r, Γ => g d Γ fun Γ1 => qt EX0 Γ1 fun b Γ2 => qB b (qe EX0 Γ2 fun y Γ3 => acc.length < sizeLine ∧ qLcL g qt qe vs P (acc ++ [y]) r (wipeG Γ3 vs)) (qLcL g qt qe vs P acc r (wipeG Γ2 vs))
def qLc (qi : QI) (g : QG) (qt : QT) (qe : QE) (vs : List Nat) : QL_ := fun EX Γ P => qi EX Γ fun ds Γ1 => qLcL g qt qe vs P [] ds (wipeG Γ1 vs)
section
variable {X : Cx} {W : WX} {k : Nat} {elt tg iter : Expr} {ifs : List Expr} {scope : Scope} {own : List (Str × Nat)} {pos : Pos} {qi : QI} {g : QG} {qt : QT} {qe : QE}
theorem Bd.blk (B : Bd X W k) {s : Shared} {H : Hp} {cenv : Env} {fp : List Addr} : Bd (X.blk s H scope cenv fp) W0 k := ⟨B.hc, PassesOwn.never, fun u s' x => by
  obtain ⟨_, _, _, _, _, _, _, _, _, _, _, _, _, _, _, _, z⟩ := x
  exact z.elim, B.hr⟩
def tGc (K : PySem.W.Frag) (vs : List Nat) (g : QG) : TG := fun v σ H Q => ∃ c', liftGv K c' vs g v σ H Q
def tTc (K : PySem.W.Frag) (qt : QT) : TT := fun σ H Q => ∃ c', liftT K c' W0 qt σ H Q
def tEc (K : PySem.W.Frag) (qe : QE) : TE := fun σ H Q => ∃ c', liftE K c' W0 qe σ H Q
theorem lc_lift {c : C0} {σ : L2.St} {H : Hp} {Q : VK} (h : liftL X.K c W (qLc qi g qt qe (own.map (·.2))) σ H Q) : tLc (liftI X.K c W qi) (tGc X.K (own.map (·.2)) g) (tTc X.K qt) (tEc X.K qe) (own.map (·.2)) σ H Q := by
  obtain ⟨w, Γ, P, EX, er, q, x, k⟩ := h
  refine ⟨w, Γ, _, EX, er, q, x, fun ds Γ1 w1 H1 J q1 s1 e1 j => fun Dd hD => ?_⟩
  have hlen : σ.length = Γ1.sl.length := e1.len
  let vs := own.map (·.2)
  -- the state between two turns
  let Inv' : Nat → Hp → Prop := fun i H' => ∃ w' Γ' acc xs, ER X.K c w' (del H' Dd) (wipe σ vs) (wipeG Γ' vs) ∧ H' Dd = some (.lst xs) ∧ Reps X.K (del H' Dd) (Av c w' (wipe σ vs) (wipeG Γ' vs)) w' acc xs ∧
    Stp c w1 σ Γ1 H1 w' (wipe σ vs) (wipeG Γ' vs) (del H' Dd) ∧ qLcL g qt qe vs P acc (ds.drop i) (wipeG Γ' vs)
  have nDw : Dd ∉ w1 := fun z => e1.fresh hD (.inl z)
  have nDh : c.hid Dd = none := by
    cases z : c.hid Dd with
    | none => rfl
    | some u => exact absurd (.inr (.inl ⟨u, z⟩)) (e1.fresh hD)
  have nD0 : c.H0 Dd = none := e1.fresh0 hD nDw
  have d1 : del (upd H1 Dd (.lst [])) Dd = H1 := by
    rw [del_upd]
    funext b
    by_cases z : b = Dd
    · rw [z, del_same, hD]
    · rw [del_ne z]
  refine ⟨fun i m H' => m = ds.length - i ∧ i ≤ ds.length ∧ Inv' i H', ⟨_, rfl, Nat.zero_le _, w1, Γ1, [], [], ?_, upd_same, rfl, ?_, q1⟩, ?_⟩
  · rw [d1]
    exact e1.wiped
  · rw [d1]
    exact stp_wipe
  · rintro i m H' ⟨rfl, hi', w', Γ', acc, xs, er', hDl, ra, st, qq⟩
    have eh := er'.hide hDl
    have neD : ∀ a o, H1 a = some o → a ≠ Dd := fun a o h => ne_of_none h hD
    have kk : ∀ a o, H1 a = some o → ¬ Av c w1 σ Γ1 a → H' a = some o ∧ ¬ Av (c.hide Dd (.lst xs)) w' (wipe σ vs) (wipeG Γ' vs) a := fun a o h n =>
      ⟨(del_some (st.keep a o h n).1).2, fun z => (av_hide.mp z).elim (neD a o h) (st.keep a o h n).2⟩
    obtain ⟨j1, j2⟩ := j i w' H' (Av (c.hide Dd (.lst xs)) w' (wipe σ vs) (wipeG Γ' vs)) kk st.pre fun a h => eh.tracked h
    -- behind a part of a turn
    have back : ∀ {w2 : List Addr} {Γ2 : G} {σ2 : L2.St} {H2 : Hp}, ER X.K (c.hide Dd (.lst xs)) w2 H2 σ2 Γ2 → Stp (c.hide Dd (.lst xs)) w' (wipe σ vs) (wipeG Γ' vs) H' w2 σ2 Γ2 H2 → wipe σ2 vs = wipe σ vs →
        ER X.K c w2 (del H2 Dd) (wipe σ vs) (wipeG Γ2 vs) ∧ Stp c w' (wipe σ vs) (wipeG Γ' vs) (del H' Dd) w2 (wipe σ vs) (wipeG Γ2 vs) (del H2 Dd) := by
      intro w2 Γ2 σ2 H2 e2 s2 hz
      have u := (e2.unhide nDh nD0).wiped (vs := vs)
      rw [hz] at u
      refine ⟨u, fun a o h n => ?_, s2.pre⟩
      obtain ⟨g1, g2⟩ := del_some h
      obtain ⟨g3, g4⟩ := s2.keep a o g2 fun z => (av_hide.mp z).elim g1 n
      refine ⟨by rw [del_ne g1]; exact g3, fun z => g4 (av_hide.mpr (.inr ?_))⟩
      rw [← hz] at z
      exact av_wipe z
    by_cases hlt : i < ds.length
    · have hd : ds.drop i = ds[i] :: ds.drop (i + 1) := List.drop_eq_getElem_cons hlt
      rw [hd] at qq
      obtain ⟨g1, g2⟩ := j2 _ (List.getElem?_eq_getElem hlt)
      refine .inr ⟨g1, fun H2 => Inv' (i + 1) H2, fun H2 z => ⟨_, by omega, rfl, hlt, z⟩, fun v H2 y => ?_⟩
      obtain ⟨sm, rv⟩ := g2 v H2 y
      have e2 := eh.same sm
      have s2 : Stp (c.hide Dd (.lst xs)) w' (wipe σ vs) (wipeG Γ' vs) H' w' (wipe σ vs) (wipeG Γ' vs) H2 := Stp.same sm
      refine ⟨c.hide Dd (.lst xs), w', wipeG Γ' vs, _, _, e2, rv, qq, fun Γ3 w3 σ3 H3 q3 s3 e3 z3 => ?_⟩
      have z3' : wipe σ3 vs = wipe σ vs := z3.trans (by
        apply List.ext_getElem?
        intro n
        by_cases hn : n ∈ vs
        · by_cases hl : n < σ.length
          · rw [wipe_in hn hl, wipe_in hn (by rw [wipe_length]; exact hl)]
          · rw [List.getElem?_eq_none (by rw [wipe_length, wipe_length]; omega), List.getElem?_eq_none (by rw [wipe_length]; omega)]
        · rw [wipe_out hn])
      refine ⟨z3', c.hide Dd (.lst xs), w3, Γ3, _, EX0, e3, q3, XL0, fun b Γ4 w4 H4 q4 s4 e4 => ?_⟩
      have st4 := (s2.trans s3).trans s4
      cases b with
      | true =>
        refine ⟨c.hide Dd (.lst xs), w4, Γ4, _, EX0, e4, q4, XL0, fun d Γ5 w5 H5 u q5 s5 e5 r5 => ?_⟩
        have st5 := st4.trans s5
        obtain ⟨b1, b2⟩ := back e5 st5 z3'
        have hD5 : H5 Dd = some (.lst xs) := (e5.hid Dd _ upd_same).1
        refine ⟨xs, hD5, by rw [ra.length]; exact q5.1, w5, Γ5, acc ++ [d], xs ++ [u], ?_, upd_same, ?_, ?_, q5.2⟩
        · rw [del_upd]
          exact b1
        · rw [del_upd]
          refine (ra.stp b2).append (Reps.one ?_)
          refine r5.keep (fun a o h n => ?_) (List.prefix_refl _)
          refine ⟨by rw [del_ne (fun z => n (av_hide.mpr (.inl z)))]; exact h, fun z => n (av_hide.mpr (.inr ?_))⟩
          rw [← z3'] at z
          exact av_wipe z
        · rw [del_upd]
          exact st.trans b2
      | false =>
        obtain ⟨b1, b2⟩ := back e4 st4 z3'
        exact ⟨w4, Γ4, acc, xs, b1, (e4.hid Dd _ upd_same).1, ra.stp b2, st.trans b2, q4⟩
    · have he : ds.drop i = [] := List.drop_eq_nil_of_le (by omega)
      rw [he] at qq
      refine .inl ⟨j1 (by omega), ?_⟩
      have eu := er'.unwiped
      have hl' : σ.length = Γ'.sl.length := by
        have := er'.len
        rw [wipe_length, show (wipeG Γ' vs).sl.length = _ from wipeS_len _ _] at this
        exact this
      have su : Stp c w' (wipe σ vs) (wipeG Γ' vs) (del H' Dd) w' σ (wipeG Γ' vs) (del H' Dd) := stp_unwipe hl'
      have z := k acc (wipeG Γ' vs) w' (del H' Dd) Dd xs qq ((s1.trans st).trans su) eu del_same (ra.stp su)
      rw [upd_del hDl] at z
      exact z
/-- what is to be shown of the parts of a comprehension -/
abbrev LcH (X : Cx) (k : Nat) (own : List (Str × Nat)) (scope : Scope) (tg elt : Expr) (ifs : List Expr) (g : QG) (qt : QT) (qe : QE) : Prop := ∀ (s : Shared) (H : Hp) (C : Addr) (cl : List (Str × Addr)) (fp : List Addr), Bd (X.blk s H scope (compEnvC scope cl C X.env) fp) W0 k →
      QGv (X.blk s H scope (compEnvC scope cl C X.env) fp) (own.map (·.2)) tg g ∧ QTs (X.blk s H scope (compEnvC scope cl C X.env) fp) W0 ifs qt ∧ QEx (X.blk s H scope (compEnvC scope cl C X.env) fp) W0 elt qe
theorem LcH.pg (B : Bd X W k) (hb : LcH X k own scope tg elt ifs g qt qe) (s : Shared) (H : Hp) (C : Addr) (cl : List (Str × Addr)) (fp : List Addr) : PG (X.blk s H scope (compEnvC scope cl C X.env) fp) tg (tGc X.K (own.map (·.2)) g) :=
  ⟨fun pins s' σ H' v u Q I r ⟨c', h⟩ => ((hb s H C cl fp B.blk).1 c').run pins s' σ H' v u Q I r h⟩
theorem LcH.pt (B : Bd X W k) (hb : LcH X k own scope tg elt ifs g qt qe) (s : Shared) (H : Hp) (C : Addr) (cl : List (Str × Addr)) (fp : List Addr) : PTs (X.blk s H scope (compEnvC scope cl C X.env) fp) ifs (tTc X.K qt) :=
  ⟨fun pins s' σ H' Q I ⟨c', h⟩ => ((hb s H C cl fp B.blk).2.1 c').run pins s' σ H' Q I h⟩
theorem LcH.pe (B : Bd X W k) (hb : LcH X k own scope tg elt ifs g qt qe) (s : Shared) (H : Hp) (C : Addr) (cl : List (Str × Addr)) (fp : List Addr) : PE (X.blk s H scope (compEnvC scope cl C X.env) fp) elt (tEc X.K qe) :=
  ⟨fun pins s' σ H' Q I ⟨c', h⟩ => ((hb s H C cl fp B.blk).2.2 c').run pins s' σ H' Q I h⟩
theorem ql_lc (B : Bd X W k) (hN : X.N.Nodup) (hi : QIx X W tg iter qi) (ok : BlkOk X.N X.env.scope scope own) (hb : LcH X k own scope tg elt ifs g qt qe)
    (hs : ∀ x, foldedSetIterable iter X.env x = pure x := by intro _; rfl) : QLx X W (.ListComp elt [⟨tg, iter, ifs, 0⟩] scope pos) (qLc qi g qt qe (own.map (·.2))) := fun c =>
  PEi (pe_lc B.hc hN (hi c) ok (LcH.pg B hb) (LcH.pt B hb) (LcH.pe B hb) hs) fun _ _ _ h => lc_lift h
/-- name = [..] on one line -/
theorem qs_setLcO {i : Nat} {y : Str} {py spos : Pos} (B : Bd X W k) (hN : X.N.Nodup) (hi : QIx X W tg iter qi) (ok : BlkOk X.N X.env.scope scope own) (hb : LcH X k own scope tg elt ifs g qt qe)
    (hy : X.N[i]? = some y := by rfl) (hyl : X.env.scope.names.lookup y = some .local := by rfl)
    (hsw : swapsWith (.ListComp elt [⟨tg, iter, ifs, 0⟩] scope pos) (some (.Name y py)) spos.line X.env = pure true := by exact sw_true rfl rfl rfl (by decide +kernel))
    (hs : ∀ x, foldedSetIterable iter X.env x = pure x := by intro _; rfl) :
    QSx X W (.Assign [.Name y py] (.ListComp elt [⟨tg, iter, ifs, 0⟩] scope pos) spos) (qSetL i (qLc qi g qt qe (own.map (·.2)))) := fun c =>
  PSi (ps_setLc B.hc hN hy hyl hsw (hi c) ok (LcH.pg B hb) (LcH.pt B hb) (LcH.pe B hb) hs) fun D σ H ⟨w, Γ, E, EX, er, q, x, k⟩ => lc_lift ⟨w, Γ, _, EX, er, q, x, fun d Γ1 w1 H1 p xs q1 s1 e1 hp r1 =>
    k.nx _ w1 _ _ q1.2 (s1.trans (stp_new q1.1 (by rw [e1.len]; exact q1.1) hp)) (e1.setList q1.1 hp r1)⟩
theorem qs_setLc {i : Nat} {y : Str} {py spos : Pos} (B : Bd X W k) (hN : X.N.Nodup) (hi : QIx X W tg iter qi) (ok : BlkOk X.N X.env.scope scope own) (hb : LcH X k own scope tg elt ifs g qt qe)
    (hy : X.N[i]? = some y := by rfl) (hyl : X.env.scope.names.lookup y = some .local := by rfl)
    (hsw : swapsWith (.ListComp elt [⟨tg, iter, ifs, 0⟩] scope pos) (some (.Name y py)) spos.line X.env = pure true := by exact sw_true rfl rfl rfl (by decide +kernel))
    (hs : ∀ x, foldedSetIterable iter X.env x = pure x := by intro _; rfl) :
    QSx X W (.Assign [.Name y py] (.ListComp elt [⟨tg, iter, ifs, 0⟩] scope pos) spos) (qSet i (qOfL (qLc qi g qt qe (own.map (·.2))))) := fun c =>
  PSi (ps_setLc B.hc hN hy hyl hsw (hi c) ok (LcH.pg B hb) (LcH.pt B hb) (LcH.pe B hb) hs) fun D σ H ⟨w, Γ, E, EX, er, q, x, k⟩ => lc_lift ⟨w, Γ, _, EX, er, q, x, fun ds Γ1 w1 H1 p xs q1 s1 e1 hp r1 =>
    k.nx _ w1 _ _ q1.2 ((s1.trans (Stp.same (same_new hp))).trans (stp_set q1.1)) ((e1.same (same_new hp)).set q1.1 ⟨p, xs, rfl, LsA.new (e1.fresh hp), r1.stp (Stp.same (σ := σ) (same_new hp))⟩)⟩
end
end QL
namespace QL
open PySem PySem.Spec PyProof.Rows L2
/-! ### objects and own lists are written -/
section
variable {K : PySem.W.Frag} {c : C0} {w : List Addr} {H : Hp} {σ : L2.St} {Γ : G}
theorem own_same {i j : Nat} {s : Slot} {a : Addr} (hs : ∀ t, Γ.sl[i]? = some t → t.own = true) (h : OwnAt σ ⟨Γ.sl.set i s, Γ.ob⟩ j a) : OwnAt σ Γ j a := by
  obtain ⟨h1, t, h2, h3⟩ := h
  have h2 : (Γ.sl.set i s)[j]? = some t := h2
  by_cases e : i = j
  · subst e
    have hi : i < Γ.sl.length := by
      have := (List.getElem?_eq_some_iff.mp h2).1
      rw [List.length_set] at this
      exact this
    exact ⟨h1, _, List.getElem?_eq_getElem hi, hs _ (List.getElem?_eq_getElem hi)⟩
  · rw [List.getElem?_set_ne e] at h2
    exact ⟨h1, t, h2, h3⟩
/-- slot i's own object is written -/
theorem ER.updOwn (e : ER K c w H σ Γ) {i : Nat} {s t : Slot} {a : Addr} {o : HO} (hs : Γ.sl[i]? = some s) (ho : OwnAt σ Γ i a) (hst : t.own = true)
    (ht : ∀ H' av, (∀ a o, H a = some o → ¬ Av c w σ Γ a → H' a = some o ∧ ¬ av a) → H' a = some o → SlR K H' av w t (some (.ref a))) :
    ER K c w (upd H a o) σ ⟨Γ.sl.set i t, Γ.ob⟩ ∧ Stp c w σ Γ H w σ ⟨Γ.sl.set i t, Γ.ob⟩ (upd H a o) := by
  have hav : Av c w σ Γ a := .inr (.inr ⟨i, ho⟩)
  have os : ∀ u, Γ.sl[i]? = some u → u.own = true := fun u hu => by
    obtain ⟨_, s', h1, h2⟩ := ho
    rw [hu] at h1
    cases h1
    exact h2
  have hi : i < Γ.sl.length := (List.getElem?_eq_some_iff.mp hs).1
  have st : Stp c w σ Γ H w σ ⟨Γ.sl.set i t, Γ.ob⟩ (upd H a o) := ⟨fun b u h n => ⟨by rw [upd_ne (fun z => n (by rw [z]; exact hav))]; exact h, fun z => n (z.imp id (Or.imp id fun ⟨j, z⟩ => ⟨j, own_same os z⟩))⟩, List.prefix_refl _⟩
  obtain ⟨nw, nh, n0⟩ := e.ow i a ho
  refine ⟨⟨?_, e.wl, e.wn, fun x y b h1 h2 => e.on x y b (own_same os h1) (own_same os h2), fun j b h => e.ow j b (own_same os h), fun j u hu => ?_, fun n b u h1 h2 => ?_, fun b u h n => ?_, e.pre, fun b u h => ?_⟩, st⟩
  · show _ = (Γ.sl.set i t).length
    rw [List.length_set]
    exact e.len
  · have hu : (Γ.sl.set i t)[j]? = some u := hu
    by_cases q : i = j
    · subst q
      rw [List.getElem?_set_self hi] at hu
      cases hu
      rw [show σ[i]?.join = some (.ref a) by rw [ho.1] <;> rfl]
      exact ht _ _ st.keep upd_same
    · rw [List.getElem?_set_ne q] at hu
      refine (e.sl j u hu).keep st.keep (List.prefix_refl _) fun hown b v hb hv => ?_
      have : b ≠ a := fun z => q (e.on i j a ho ⟨by rw [← z]; exact own_ref hb, u, hu, hown⟩)
      rw [upd_ne this]
      exact hv
  · refine (e.ob n b u h1 h2).keep st.keep (List.prefix_refl _) fun v hv => ?_
    rw [upd_ne (fun z => nw (by rw [← z]; exact List.mem_of_getElem? h1))]
    exact hv
  · obtain ⟨g1, g2⟩ := e.fr b u h n
    refine ⟨?_, g2⟩
    rw [upd_ne (fun z => by rw [z, n0] at h; cases h)]
    exact g1
  · obtain ⟨g1, g2⟩ := e.hid b u h
    refine ⟨?_, g2⟩
    rw [upd_ne (fun z => by rw [z, nh] at h; cases h)]
    exact g1
/-- an object is written -/
theorem ER.updOb (e : ER K c w H σ Γ) {n : Nat} {a : Addr} {o : HO} {u : Ob} (hn : w[n]? = some a)
    (ht : ∀ H' av, (∀ a o, H a = some o → ¬ Av c w σ Γ a → H' a = some o ∧ ¬ av a) → H' a = some o → ObR K H' av w a u) :
    ER K c w (upd H a o) σ ⟨Γ.sl, Γ.ob.set n u⟩ ∧ Stp c w σ Γ H w σ ⟨Γ.sl, Γ.ob.set n u⟩ (upd H a o) := by
  have hav : Av c w σ Γ a := .inl (List.mem_of_getElem? hn)
  have st : Stp c w σ Γ H w σ ⟨Γ.sl, Γ.ob.set n u⟩ (upd H a o) := ⟨fun b v h q => ⟨by rw [upd_ne (fun z => q (by rw [z]; exact hav))]; exact h, q⟩, List.prefix_refl _⟩
  refine ⟨⟨e.len, ?_, e.wn, e.on, e.ow, fun j s hs => ?_, fun m b v h1 h2 => ?_, fun b v h q => ?_, e.pre, fun b v h => ?_⟩, st⟩
  · show _ = (Γ.ob.set n u).length
    rw [List.length_set]
    exact e.wl
  · refine (e.sl j s hs).keep st.keep (List.prefix_refl _) fun hown b v hb hv => ?_
    have q : OwnAt σ Γ j b := ⟨own_ref hb, s, hs, hown⟩
    rw [upd_ne (fun z => (e.ow j b q).1 (by rw [z]; exact List.mem_of_getElem? hn))]
    exact hv
  · have h2 : (Γ.ob.set n u)[m]? = some v := h2
    by_cases q : n = m
    · subst q
      rw [hn] at h1
      cases h1
      have hl : n < Γ.ob.length := by
        rw [← e.wl]
        exact (List.getElem?_eq_some_iff.mp hn).1
      rw [List.getElem?_set_self hl] at h2
      cases h2
      exact ht _ _ st.keep upd_same
    · rw [List.getElem?_set_ne q] at h2
      refine (e.ob m b v h1 h2).keep st.keep (List.prefix_refl _) fun x hx => ?_
      have : b ≠ a := fun z => by
        subst z
        have l1 := List.getElem?_eq_some_iff.mp hn
        have l2 := List.getElem?_eq_some_iff.mp h1
        exact q ((List.getElem_inj e.wn).mp (l1.2.trans l2.2.symm))
      rw [upd_ne this]
      exact hx
  · obtain ⟨g1, g2⟩ := e.fr b v h q
    exact ⟨by rw [upd_ne (fun z => g2 (by rw [z]; exact List.mem_of_getElem? hn))]; exact g1, g2⟩
  · obtain ⟨g1, g2⟩ := e.hid b v h
    exact ⟨by rw [upd_ne (fun z => g2 (by rw [z]; exact List.mem_of_getElem? hn))]; exact g1, g2⟩
/-- a new object at p -/
theorem ER.newOb (e : ER K c w H σ Γ) {p : Addr} {H' : Hp} {u : Ob} (hp : H p = none) (sm : Same H H')
    (ht : ∀ av, (∀ a o, H a = some o → ¬ Av c w σ Γ a → H' a = some o ∧ ¬ av a) → ObR K H' av (w ++ [p]) p u) :
    ER K c (w ++ [p]) H' σ ⟨Γ.sl, Γ.ob ++ [u]⟩ ∧ Stp c w σ Γ H (w ++ [p]) σ ⟨Γ.sl, Γ.ob ++ [u]⟩ H' := by
  have nav := e.fresh hp
  have nw : p ∉ w := fun z => nav (.inl z)
  have st : Stp c w σ Γ H (w ++ [p]) σ ⟨Γ.sl, Γ.ob ++ [u]⟩ H' := ⟨fun b v h q => ⟨sm b v h, fun z => by
    rcases z with z | z | z
    · rcases List.mem_append.mp z with z | z
      · exact q (.inl z)
      · rw [List.mem_singleton.mp z, hp] at h
        cases h
    · exact q (.inr (.inl z))
    · exact q (.inr (.inr z))⟩, List.prefix_append _ _⟩
  refine ⟨⟨e.len, ?_, ?_, e.on, fun i a h => ⟨fun z => ?_, (e.ow i a h).2⟩, fun j s hs => (e.sl j s hs).keep st.keep st.pre fun _ b v _ hv => sm b v hv, fun m b v h1 h2 => ?_, fun b v h q => ?_, e.pre.trans st.pre, fun b v h => ?_⟩, st⟩
  · show (w ++ [p]).length = (Γ.ob ++ [u]).length
    rw [List.length_append, List.length_append, e.wl]
    rfl
  · exact List.nodup_append.mpr ⟨e.wn, by simp, fun a ha b hb z => nw (by rw [← List.mem_singleton.mp hb, ← z]; exact ha)⟩
  · rcases List.mem_append.mp z with z | z
    · exact (e.ow i a h).1 z
    · rw [List.mem_singleton.mp z] at h
      exact nav (.inr (.inr ⟨i, h⟩))
  · have h2 : (Γ.ob ++ [u])[m]? = some v := h2
    by_cases q : m < w.length
    · rw [List.getElem?_append_left q] at h1
      rw [List.getElem?_append_left (by rw [← e.wl]; exact q)] at h2
      exact (e.ob m b v h1 h2).keep st.keep st.pre fun x hx => sm b x hx
    · have hm : m < (w ++ [p]).length := (List.getElem?_eq_some_iff.mp h1).1
      rw [List.length_append, List.length_singleton] at hm
      have em : m = w.length := by omega
      subst em
      rw [List.getElem?_append_right (Nat.le_refl _), Nat.sub_self] at h1
      rw [List.getElem?_append_right (by rw [e.wl]; exact Nat.le_refl _), e.wl, Nat.sub_self] at h2
      have h1 : p = b := Option.some.inj h1
      have h2 : u = v := Option.some.inj h2
      subst h1 h2
      exact ht _ st.keep
  · obtain ⟨g1, g2⟩ := e.fr b v h q
    refine ⟨sm b v g1, fun z => ?_⟩
    rcases List.mem_append.mp z with z | z
    · exact g2 z
    · rw [List.mem_singleton.mp z, hp] at g1
      cases g1
  · obtain ⟨g1, g2⟩ := e.hid b v h
    refine ⟨sm b v g1, fun z => ?_⟩
    rcases List.mem_append.mp z with z | z
    · exact g2 z
    · rw [List.mem_singleton.mp z, hp] at g1
      cases g1
theorem ER.obAt (e : ER K c w H σ Γ) {n : Nat} {o : Ob} (h : Γ.ob[n]? = some o) : ∃ a, w[n]? = some a ∧ ObR K H (Av c w σ Γ) w a o := by
  have hl : n < w.length := by
    rw [e.wl]
    exact (List.getElem?_eq_some_iff.mp h).1
  exact ⟨_, List.getElem?_eq_getElem hl, e.ob n _ o (List.getElem?_eq_getElem hl) h⟩
end
/-! ### indexes -/
def oIx : QO2 := fun x y Γ P => match x, y with
  | .lst ds, .int i => ∃ d, atI ds i = some d ∧ P d Γ
  | .tup ds, .int i => ∃ d, atI ds i = some d ∧ P d Γ
  | .frl ds, .int i => ∃ d, atI ds i = some d ∧ P d Γ
  | .str s, .int i => s.length ≤ sizeLine ∧ ∃ z, atI s.cps.toList i = some z ∧ P (.str ⟨#[z]⟩) Γ
  | .ref n, .int i => ∃ ds, Γ.ob[n]? = some (.lst ds) ∧ ∃ d, atI ds i = some d ∧ P d Γ
  | _, _ => False
theorem Reps.atI {K : PySem.W.Frag} {H : Hp} {av : Addr → Prop} {w : List Addr} {ds : List D} {xs : List V} {i : Int} {d : D} (r : Reps K H av w ds xs) (h : L2.atI ds i = some d) : ∃ x, L2.atI xs i = some x ∧ Rep K H av w d x := by
  unfold L2.atI at h ⊢
  rw [r.length]
  cases q : ixN ds.length i with
  | none =>
    rw [q] at h
    cases h
  | some j =>
    rw [q] at h
    exact r.get h
theorem l_ix {K : PySem.W.Frag} : Lift2 K (rIx K) oIx := by
  intro c w Γ H σ x y u v P Q e rx ry o k
  cases x <;> try exact o.elim
  · cases y <;> try exact o.elim
    obtain ⟨h1, z, h2, h3⟩ := o
    exact .inr (.inr ⟨_, _, z, rx, ry, h1, h2, fin_same e k h3 rfl⟩)
  · cases y <;> try exact o.elim
    obtain ⟨d, h1, h2⟩ := o
    obtain ⟨a, xs, rfl, g1, g2⟩ := rx
    obtain ⟨x, i1, i2⟩ := g2.atI h1
    exact .inr (.inl ⟨a, xs, _, x, rfl, ry, g1.sq, i1, fin_same e k h2 i2⟩)
  · cases y <;> try exact o.elim
    obtain ⟨d, h1, h2⟩ := o
    obtain ⟨a, xs, rfl, g1, g2⟩ := rx
    obtain ⟨x, i1, i2⟩ := g2.atI h1
    exact .inl ⟨a, xs, _, x, rfl, ry, g1.sq, i1, fin_same e k h2 i2⟩
  · cases y <;> try exact o.elim
    obtain ⟨d, h1, h2⟩ := o
    obtain ⟨a, xs, rfl, g1, g2⟩ := rx
    obtain ⟨x, i1, i2⟩ := g2.atI h1
    exact .inl ⟨a, xs, _, x, rfl, ry, g1.sq, i1, fin_same e k h2 i2⟩
  · cases y <;> try exact o.elim
    obtain ⟨ds, h0, d, h1, h2⟩ := o
    obtain ⟨a, rfl, ha⟩ := rx
    obtain ⟨b, hb, xs, g1, g2⟩ := e.obAt h0
    rw [ha] at hb
    cases hb
    obtain ⟨x, i1, i2⟩ := g2.atI h1
    exact .inl ⟨a, xs, _, x, rfl, ry, SqL.of g1, i1, fin_same e k h2 i2⟩
section
variable {X : Cx} {W : WX} {a b e : Expr} {es : List Expr} {qa qb qe : QE} {qr : QA} {pos p : Pos} {x : Str}
theorem q_ix (ha : QEx X W a qa) (hb : QEx X W b qb) (hs : PlainIx b := by exact fun _ _ => rfl) : QEx X W (.Subscript a b pos) (qOp oIx qa qb) := q_ixR ix_seq l_ix ha hb hs
/-- a list that is shared and written: an object -/
def qLstO (qa : QA) : QE := fun EX Γ P => qa EX Γ fun ds Γ1 => ds.length ≤ sizeLine ∧ P (.ref Γ1.ob.length) ⟨Γ1.sl, Γ1.ob ++ [.lst ds]⟩
theorem get_last {α : Type} {l : List α} {x : α} : (l ++ [x])[l.length]? = some x := by
  rw [List.getElem?_append_right (Nat.le_refl _), Nat.sub_self]
  rfl
theorem q_lstO (h : QAx X W es qr) : QEx X W (.List es pos) (qLstO qr) := fun c => PEi (pe_lst (h c)) fun σ H Q ⟨w, Γ, P, EX, er, q, x, k⟩ =>
  ⟨w, Γ, _, EX, er, q, x, fun ds Γ1 w1 H1 us q1 s1 e1 r1 => ⟨by rw [r1.length]; exact q1.1, fun p hp => by
    obtain ⟨g1, g2⟩ := e1.newOb (u := .lst ds) hp (same_new (o := .lst us) hp) fun av kk => ⟨us, upd_same, r1.keep kk (List.prefix_append _ _)⟩
    exact k _ _ _ _ _ q1.2 (s1.trans g2) g1 ⟨p, rfl, by rw [← e1.wl]; exact get_last⟩⟩⟩
/-- x[i] = v, x a slot -/
def Slot.box : Slot → Bool
  | .ow _ => true
  | .od _ _ => true
  | .va (.ref _) => true
  | _ => false
def qSetIx (n : Nat) (qi qv : QE) : QS := fun EX E Γ => qv EX Γ fun d Γ1 => (∃ s, Γ1.sl[n]? = some s ∧ s.box = true) ∧ qi EX Γ1 fun y Γ2 => match y with
  | .int i => match Γ2.sl[n]? with
    | some (.ow ds) => ∃ j, ixN ds.length i = some j ∧ E.nx ⟨Γ2.sl.set n (.ow (ds.set j d)), Γ2.ob⟩
    | some (.va (.ref m)) => ∃ ds j, Γ2.ob[m]? = some (.lst ds) ∧ ixN ds.length i = some j ∧ E.nx ⟨Γ2.sl, Γ2.ob.set m (.lst (ds.set j d))⟩
    | _ => False
  | _ => False
theorem ER.boxAt {K : PySem.W.Frag} {c : C0} {w : List Addr} {H : Hp} {σ : L2.St} {Γ : G} (e : ER K c w H σ Γ) {n : Nat} {s : Slot} (h : Γ.sl[n]? = some s) (hb : s.box = true) : ∃ v, σ[n]? = some (some v) := by
  cases s with
  | un => cases hb
  | ow ds =>
    obtain ⟨a, xs, h1, _⟩ := e.at_ow h
    exact ⟨_, h1⟩
  | od ks ds =>
    obtain ⟨a, xs, h1, _⟩ := e.at_od h
    exact ⟨_, h1⟩
  | va d =>
    obtain ⟨v, h1, _⟩ := e.at_va h
    exact ⟨_, h1⟩
theorem qs_setIx (n : Nat) {value : Expr} {qv : QE} {p1 p2 : Pos} (hN : X.N[n]? = some x) (hx : Vis X.env.scope x) (hv : QEx X W value qv) (hi : QEx X W e qe)
    (hs : swapsWithSole [.Subscript (.Name x p1) e p2] value pos.line X.env = pure false := by rfl) (hw : swappedStores [.Subscript (.Name x p1) e p2] value X.env = pure none := by rfl)
    (h1 : (assignEach [.Subscript (.Name x p1) e p2] X.env).map (·.2) = [assign (.Subscript (.Name x p1) e p2) X.env] := by rfl)
    (hA : ∀ v, assign (.Subscript (.Name x p1) e p2) X.env v = (do
      let ov ← holding [v] (eval (.Name x p1) X.env)
      let iv ← holding [v, ov] (eval e X.env)
      standAt p2
      holding [v, ov, iv] (setItem ov iv v)
      release [v, ov, iv] []) := by intro _; rfl)
    (hd : (x == ("__debug__" : Str)) = false := by decide) (hcd : (x == ("__classdict__" : Str)) = false := by decide) : QSx X W (.Assign [.Subscript (.Name x p1) e p2] value pos) (qSetIx n qe qv) := fun c =>
  PSi (ps_asg (hv c) (pg_sub (pe_var hN hx hd hcd) (hi c) set_list hA) hs hw h1) fun D σ H ⟨w, Γ, E, EX, er, q, xl, k⟩ => ⟨w, Γ, _, EX, er, q, xl, fun d Γ1 w1 H1 v q1 s1 e1 r1 => by
    obtain ⟨⟨sn, hs1, hs2⟩, q1⟩ := q1
    obtain ⟨u, hu⟩ := e1.boxAt hs1 hs2
    refine ⟨u, hu, w1, Γ1, _, EX, e1, q1, xl.stp s1, fun y Γ2 w2 H2 iv q2 s2 e2 r2 => ?_⟩
    cases y <;> try exact q2.elim
    rename_i i
    have r2 : iv = V.int i := r2
    subst r2
    have rd := r1.stp s2
    have q2 : (match Γ2.sl[n]? with
      | some (.ow ds) => ∃ j, ixN ds.length i = some j ∧ E.nx ⟨Γ2.sl.set n (.ow (ds.set j d)), Γ2.ob⟩
      | some (.va (.ref m)) => ∃ ds j, Γ2.ob[m]? = some (.lst ds) ∧ ixN ds.length i = some j ∧ E.nx ⟨Γ2.sl, Γ2.ob.set m (.lst (ds.set j d))⟩
      | _ => False) := q2
    cases hsl : Γ2.sl[n]? with
    | none =>
      rw [hsl] at q2
      exact q2.elim
    | some sl =>
      rw [hsl] at q2
      cases sl with
      | un => exact q2.elim
      | od ks ds => exact q2.elim
      | ow ds =>
        obtain ⟨j, hj, q3⟩ := q2
        obtain ⟨a, xs, h1, h2, h3, h4⟩ := e2.at_ow hsl
        rw [hu] at h1
        cases h1
        obtain ⟨g1, g2⟩ := e2.updOwn (t := .ow (ds.set j d)) (o := .lst (xs.set j v)) hsl h4 rfl fun H' av kk hh => ⟨a, _, rfl, hh, (h3.set j rd).keep kk (List.prefix_refl _)⟩
        exact ⟨a, xs, i, j, rfl, rfl, h2, by rw [h3.length]; exact hj, k.nx _ w2 σ _ q3 ((s1.trans s2).trans g2) g1⟩
      | va dd =>
        cases dd <;> try exact q2.elim
        rename_i m
        obtain ⟨ds, j, h0, hj, q3⟩ := q2
        obtain ⟨a, ha, xs, h1, h3⟩ := e2.obAt h0
        obtain ⟨v0, h4, a', rfl, h5⟩ := e2.at_va hsl
        rw [hu] at h4
        cases h4
        rw [ha] at h5
        cases h5
        obtain ⟨g1, g2⟩ := e2.updOb (u := .lst (ds.set j d)) (o := .lst (xs.set j v)) ha fun H' av kk hh => ⟨_, hh, (h3.set j rd).keep kk (List.prefix_refl _)⟩
        exact ⟨a, xs, i, j, rfl, rfl, h1, by rw [h3.length]; exact hj, k.nx _ w2 σ _ q3 ((s1.trans s2).trans g2) g1⟩⟩
end
end QL
namespace QL
open PySem PySem.Spec PyProof.Rows L2
/-! ### isinstance, all, any, sum -/
def D.tyn : D → Option String
  | .non => some "NoneType"
  | .bl _ => some "bool"
  | .int _ => some "int"
  | .str _ => some "str"
  | .tup _ => some "tuple"
  | .lst _ => some "list"
  | _ => none
def oIsi : QOn := fun xs Γ P => match xs with
  | [d, .ty T] => ∃ t b, d.tyn = some t ∧ kitB t T = some b ∧ P (.bl b) Γ
  | _ => False
theorem TpA.tyx {K : PySem.W.Frag} {H : Hp} {av : Addr → Prop} {a : Addr} {xs : List V} (h : TpA K H av a xs) : TyX K H (.ref a) (.type "tuple") := by
  rcases h with ⟨h, _⟩ | h
  · rcases h with h | ⟨o, h⟩
    · exact .base (.tup h)
    · exact .fTuple h
  · rcases h (fun _ => none) with (h | ⟨o, h⟩) | ⟨o, its, n, h1, h2, _⟩
    · cases h
    · cases h
    · exact .kTuple h1 h2
theorem Rep.tyx {K : PySem.W.Frag} {H : Hp} {av : Addr → Prop} {w : List Addr} {d : D} {u : V} {t : String} (r : Rep K H av w d u) (h : d.tyn = some t) : TyX K H u (.type t) := by
  cases d <;> cases h
  · have r : u = _ := r
    subst r
    exact .base .non
  · have r : u = _ := r
    subst r
    exact .base (.bl _)
  · have r : u = _ := r
    subst r
    exact .base (.int _)
  · have r : u = _ := r
    subst r
    exact .base (.str _)
  · obtain ⟨a, xs, rfl, h1, _⟩ := r
    exact h1.tyx
  · obtain ⟨a, xs, rfl, h1, _⟩ := r
    exact .base (.lst h1.1)
theorem l_isi {K : PySem.W.Frag} : LiftN K (rIsi K) oIsi := by
  intro c w Γ H σ xs us P Q e r o k
  match xs, o with
  | [d, .ty T], o =>
    obtain ⟨t, b, h1, h2, h3⟩ := o
    obtain ⟨u, u', rfl, g1, g2⟩ := reps2 r
    have g2 : u' = .ty T := g2
    subst g2
    exact ⟨u, _, _, _, b, rfl, .ty T, g1.tyx h1, kit_ty h2, fin_same e k h3 rfl⟩
/-- bools, ints in a list -/
def allB : List D → Option (List Bool)
  | [] => some []
  | .bl b :: r => (allB r).map (b :: ·)
  | _ => none
def allI : List D → Option (List Int)
  | [] => some []
  | .int b :: r => (allI r).map (b :: ·)
  | _ => none
theorem reps_B {K : PySem.W.Frag} {H : Hp} {av : Addr → Prop} {w : List Addr} : ∀ {ds : List D} {us : List V} {bs : List Bool}, Reps K H av w ds us → allB ds = some bs → us = bs.map V.bl
  | [], us, bs, r, h => by
    have r : us = [] := r
    cases h
    exact r
  | d :: ds, us, bs, r, h => by
    obtain ⟨u, us', rfl, h1, h2⟩ := r
    cases d <;> try cases h
    have h : (allB ds).map (_ :: ·) = some bs := h
    cases q : allB ds with
    | none =>
      rw [q] at h
      cases h
    | some bs' =>
      rw [q] at h
      cases h
      rw [reps_B h2 q, show u = V.bl _ from h1]
      rfl
theorem reps_I {K : PySem.W.Frag} {H : Hp} {av : Addr → Prop} {w : List Addr} : ∀ {ds : List D} {us : List V} {bs : List Int}, Reps K H av w ds us → allI ds = some bs → us = bs.map V.int
  | [], us, bs, r, h => by
    have r : us = [] := r
    cases h
    exact r
  | d :: ds, us, bs, r, h => by
    obtain ⟨u, us', rfl, h1, h2⟩ := r
    cases d <;> try cases h
    have h : (allI ds).map (_ :: ·) = some bs := h
    cases q : allI ds with
    | none =>
      rw [q] at h
      cases h
    | some bs' =>
      rw [q] at h
      cases h
      rw [reps_I h2 q, show u = V.int _ from h1]
      rfl
def oAll : QOn := fun xs Γ P => match xs with
  | [.lst ds] => ∃ bs, allB ds = some bs ∧ P (.bl (bs.all id)) Γ
  | _ => False
def oAny : QOn := fun xs Γ P => match xs with
  | [.lst ds] => ∃ bs, allB ds = some bs ∧ P (.bl (bs.any id)) Γ
  | _ => False
def oSum : QOn := fun xs Γ P => match xs with
  | [.lst ds] => ∃ bs, allI ds = some bs ∧ P (.int bs.sum) Γ
  | _ => False
theorem l_all {K : PySem.W.Frag} : LiftN K (rAll K) oAll := by
  intro c w Γ H σ xs us P Q e r o k
  match xs, o with
  | [.lst ds], ⟨bs, h1, h2⟩ =>
    obtain ⟨u, rfl, a, ys, rfl, h3, h4⟩ := reps1 r
    exact ⟨a, bs, rfl, by rw [← reps_B h4 h1]; exact h3.sq, fin_same e k h2 rfl⟩
theorem l_any {K : PySem.W.Frag} : LiftN K (rAny K) oAny := by
  intro c w Γ H σ xs us P Q e r o k
  match xs, o with
  | [.lst ds], ⟨bs, h1, h2⟩ =>
    obtain ⟨u, rfl, a, ys, rfl, h3, h4⟩ := reps1 r
    exact ⟨a, bs, rfl, by rw [← reps_B h4 h1]; exact h3.sq, fin_same e k h2 rfl⟩
theorem l_sum {K : PySem.W.Frag} : LiftN K (rSum K) oSum := by
  intro c w Γ H σ xs us P Q e r o k
  match xs, o with
  | [.lst ds], ⟨bs, h1, h2⟩ =>
    obtain ⟨u, rfl, a, ys, rfl, h3, h4⟩ := reps1 r
    exact ⟨a, bs, rfl, by rw [← reps_I h4 h1]; exact h3.sq, fin_same e k h2 rfl⟩
/-! ### == of data -/
mutual
def D.py : D → Option PyData
  | .non => some .none
  | .bl b => some (.bool b)
  | .int i => some (.int i)
  | .str x => some (.str x)
  | .tup ds => (D.pys ds).map .tuple
  | .lst ds => (D.pys ds).map .list
  | _ => none
def D.pys : List D → Option (List PyData)
  | [] => some []
  | d :: ds => match D.py d with
    | some p => (D.pys ds).map (p :: ·)
    | none => none
end
mutual
theorem Rep.dp {K : PySem.W.Frag} {H : Hp} {av : Addr → Prop} {w : List Addr} : ∀ {d : D} {u : V} {p : PyData}, Rep K H av w d u → d.py = some p → Dp K H u p
  | .non, u, p, r, h => by
    have r : u = _ := r
    cases h
    subst r
    exact .non
  | .bl b, u, p, r, h => by
    have r : u = _ := r
    cases h
    subst r
    exact .bl b
  | .int i, u, p, r, h => by
    have r : u = _ := r
    cases h
    subst r
    exact .int i
  | .str i, u, p, r, h => by
    have r : u = _ := r
    cases h
    subst r
    exact .str i
  | .tup ds, u, p, r, h => by
    obtain ⟨a, xs, rfl, h1, h2⟩ := r
    have h : (D.pys ds).map PyData.tuple = some p := h
    cases q : D.pys ds with
    | none =>
      rw [q] at h
      cases h
    | some ps =>
      rw [q] at h
      cases h
      exact .tup h1.sq (Reps.dps h2 q)
  | .lst ds, u, p, r, h => by
    obtain ⟨a, xs, rfl, h1, h2⟩ := r
    have h : (D.pys ds).map PyData.list = some p := h
    cases q : D.pys ds with
    | none =>
      rw [q] at h
      cases h
    | some ps =>
      rw [q] at h
      cases h
      exact .lst h1.sq (Reps.dps h2 q)
  | .ty _, _, _, _, h => by cases h
  | .dic _ _, _, _, _, h => by cases h
  | .frl _, _, _, _, h => by cases h
  | .ref _, _, _, _, h => by cases h
  | .adr _, _, _, _, h => by cases h
theorem Reps.dps {K : PySem.W.Frag} {H : Hp} {av : Addr → Prop} {w : List Addr} : ∀ {ds : List D} {us : List V} {ps : List PyData}, Reps K H av w ds us → D.pys ds = some ps → DpAll K H us ps
  | [], us, ps, r, h => by
    have r : us = [] := r
    cases h
    subst r
    exact .nil
  | d :: ds, us, ps, r, h => by
    obtain ⟨u, us', rfl, h1, h2⟩ := r
    have h : (match D.py d with
      | some p => (D.pys ds).map (p :: ·)
      | none => none) = some ps := h
    cases q : D.py d with
    | none =>
      rw [q] at h
      cases h
    | some p =>
      rw [q] at h
      have h : (D.pys ds).map (p :: ·) = some ps := h
      cases q2 : D.pys ds with
      | none =>
        rw [q2] at h
        cases h
      | some ps' =>
        rw [q2] at h
        cases h
        exact .cons (Rep.dp h1 q) (Reps.dps h2 q2)
end
/-- data that == may compare -/
def Cmp (d : D) (p : PyData) : Prop := d.py = some p ∧ SeqAt.shaped p = true
def oEqG : QO2 := fun x y Γ P => ∃ p q, Cmp x p ∧ Cmp y q ∧ P (.bl (PyData.eqv p q)) Γ
def oNeG : QO2 := fun x y Γ P => ∃ p q, Cmp x p ∧ Cmp y q ∧ P (.bl (!PyData.eqv p q)) Γ
def oEq : QO2 := fun x y Γ P => match x, y with
  | .int i, .int j => P (.bl (decide (i = j))) Γ
  | .bl i, .bl j => P (.bl (decide (i = j))) Γ
  | .str i, .str j => SeqAt.shaped (.str i) = true ∧ SeqAt.shaped (.str j) = true ∧ P (.bl (decide (i = j))) Γ
  | x, y => oEqG x y Γ P
def oNe : QO2 := fun x y Γ P => match x, y with
  | .int i, .int j => P (.bl (!decide (i = j))) Γ
  | .bl i, .bl j => P (.bl (!decide (i = j))) Γ
  | .str i, .str j => SeqAt.shaped (.str i) = true ∧ SeqAt.shaped (.str j) = true ∧ P (.bl (!decide (i = j))) Γ
  | x, y => oNeG x y Γ P
theorem eqv_int {i j : Int} : PyData.eqv (.int i) (.int j) = decide (i = j) := by
  simp only [PyData.eqv]
  first | rfl | (by_cases h : i = j <;> simp [h])
theorem eqv_str {i j : Str} : PyData.eqv (.str i) (.str j) = decide (i = j) := by
  simp only [PyData.eqv]
  first | rfl | (by_cases h : i = j <;> simp [h])
theorem eqv_bl {i j : Bool} : PyData.eqv (.bool i) (.bool j) = decide (i = j) := by
  cases i <;> cases j <;> rfl
theorem oEqG_of {x y : D} {Γ : G} {P : D → G → Prop} (h : oEq x y Γ P) : oEqG x y Γ P := by
  unfold oEq at h
  split at h
  · exact ⟨_, _, ⟨rfl, rfl⟩, ⟨rfl, rfl⟩, by rw [eqv_int]; exact h⟩
  · exact ⟨_, _, ⟨rfl, rfl⟩, ⟨rfl, rfl⟩, by rw [eqv_bl]; exact h⟩
  · exact ⟨_, _, ⟨rfl, h.1⟩, ⟨rfl, h.2.1⟩, by rw [eqv_str]; exact h.2.2⟩
  · exact h
theorem oNeG_of {x y : D} {Γ : G} {P : D → G → Prop} (h : oNe x y Γ P) : oNeG x y Γ P := by
  unfold oNe at h
  split at h
  · exact ⟨_, _, ⟨rfl, rfl⟩, ⟨rfl, rfl⟩, by rw [eqv_int]; exact h⟩
  · exact ⟨_, _, ⟨rfl, rfl⟩, ⟨rfl, rfl⟩, by rw [eqv_bl]; exact h⟩
  · exact ⟨_, _, ⟨rfl, h.1⟩, ⟨rfl, h.2.1⟩, by rw [eqv_str]; exact h.2.2⟩
  · exact h
theorem l_eq {K : PySem.W.Frag} : Lift2 K (rEqD K) oEq := by
  intro c w Γ H σ x y u v P Q e rx ry o k
  obtain ⟨p, q, h1, h2, h3⟩ := oEqG_of o
  exact ⟨p, q, rx.dp h1.1, ry.dp h2.1, h1.2, h2.2, fin_same e k h3 rfl⟩
theorem l_ne {K : PySem.W.Frag} : Lift2 K (rNeD K) oNe := by
  intro c w Γ H σ x y u v P Q e rx ry o k
  obtain ⟨p, q, h1, h2, h3⟩ := oNeG_of o
  exact ⟨p, q, rx.dp h1.1, ry.dp h2.1, h1.2, h2.2, fin_same e k h3 rfl⟩
theorem Cmp.int {i : Int} : Cmp (.int i) (.int i) := ⟨rfl, rfl⟩
theorem Cmp.nil : Cmp (.lst []) (.list []) := ⟨rfl, rfl⟩
/-! ### in -/
def D.flat : D → Bool
  | .non => true
  | .bl _ => true
  | .int _ => true
  | .str _ => true
  | _ => false
def oIn (neg : Bool) : QO2 := fun x y Γ P => match y with
  | .lst ds => ∃ p ps, Cmp x p ∧ D.pys ds = some ps ∧ (x.flat = true ∧ ds.all D.flat = true) ∧ P (.bl (if neg then !(ps.any fun q => PyData.eqv q p) else ps.any fun q => PyData.eqv q p)) Γ
  | .tup ds => ∃ p ps, Cmp x p ∧ D.pys ds = some ps ∧ (x.flat = true ∧ ds.all D.flat = true) ∧ P (.bl (if neg then !(ps.any fun q => PyData.eqv q p) else ps.any fun q => PyData.eqv q p)) Γ
  | _ => False
section
variable {X : Cx} {W : WX} {k : Nat} {a b e : Expr} {es : List Expr} {qa qb qe : QE} {qr : QA} {pos p : Pos} {x : Str}
theorem q_eq (B : Bd X W k) (ha : QEx X W a qa) (hb : QEx X W b qb) : QEx X W (.Compare a [.Eq] [b] pos) (qOp oEq qa qb) := q_cmp (op_eqD B.hr.units) l_eq ha hb (nomark _)
theorem q_ne (B : Bd X W k) (ha : QEx X W a qa) (hb : QEx X W b qb) : QEx X W (.Compare a [.NotEq] [b] pos) (qOp oNe qa qb) := q_cmp (op_neD B.hr.units) l_ne ha hb (nomark _)
theorem qt_eq (B : Bd X W k) (ha : QEx X W a qa) (hb : QEx X W b qb) : QTx X W (.Compare a [.Eq] [b] pos) (qTest (qOp oEq qa qb)) := qt_cmp (op_eqD B.hr.units) l_eq ha hb (nomark _)
theorem qt_ne (B : Bd X W k) (ha : QEx X W a qa) (hb : QEx X W b qb) : QTx X W (.Compare a [.NotEq] [b] pos) (qTest (qOp oNe qa qb)) := qt_cmp (op_neD B.hr.units) l_ne ha hb (nomark _)
theorem q_isi (hg : Gl X "isinstance") (hm : X.mg "isinstance" = none) (ha : QAx X W [e, a] qr) (he : starEach [e, a] X.env = (false, eval e X.env) :: starEach [a] X.env := by rfl) (hpl : (backTo pos (starEach [a] X.env)).any (·.1) = false := by rfl) :
    QEx X W (.Call (.Name "isinstance" p) [e, a] [] pos) (qCB oIsi qr) := q_callB call_isi l_isi hg hm (by decide +kernel) ha (by decide) (by decide) he hpl
theorem q_all (B : Bd X W k) (hg : Gl X "all") (hm : X.mg "all" = none) (ha : QAx X W [e] qr) (he : starEach [e] X.env = (false, eval e X.env) :: starEach [] X.env := by rfl) (hpl : (backTo pos (starEach [] X.env)).any (·.1) = false := by rfl) :
    QEx X W (.Call (.Name "all" p) [e] [] pos) (qCB oAll qr) := q_callB (cr_all B.hc) l_all hg hm (by decide +kernel) ha (by decide) (by decide) he hpl
theorem q_any (B : Bd X W k) (hg : Gl X "any") (hm : X.mg "any" = none) (ha : QAx X W [e] qr) (he : starEach [e] X.env = (false, eval e X.env) :: starEach [] X.env := by rfl) (hpl : (backTo pos (starEach [] X.env)).any (·.1) = false := by rfl) :
    QEx X W (.Call (.Name "any" p) [e] [] pos) (qCB oAny qr) := q_callB (cr_any B.hc) l_any hg hm (by decide +kernel) ha (by decide) (by decide) he hpl
theorem q_sum (B : Bd X W k) (hg : Gl X "sum") (hm : X.mg "sum" = none) (ha : QAx X W [e] qr) (he : starEach [e] X.env = (false, eval e X.env) :: starEach [] X.env := by rfl) (hpl : (backTo pos (starEach [] X.env)).any (·.1) = false := by rfl) :
    QEx X W (.Call (.Name "sum" p) [e] [] pos) (qCB oSum qr) := q_callB (cr_sum B.hc) l_sum hg hm (by decide +kernel) ha (by decide) (by decide) he hpl
/-- a built-in class as a value -/
theorem q_tyn {x : Str} {n : String} (hg : Gl X x) (hm : X.mg x = none) (hv : bootBuiltins x = some (.type n)) (hn : x ≠ "__name__" := by decide) (hd : (x == ("__debug__" : Str)) = false := by decide) : QEx X W (.Name x p) (qC (.ty n)) :=
  q_const (pe_bltn (v := .ty n) hg hm hv rfl hn hd) fun _ _ _ => rfl
/-- a module's constant -/
theorem q_glob {x : Str} {v : V} {u : Value} {d : D} (hg : Gl X x) (hm : X.mg x = some u) (r : RelV v u) (hr : ∀ H av w, Rep X.K H av w d v) (hd : (x == ("__debug__" : Str)) = false := by decide) : QEx X W (.Name x p) (qC d) :=
  q_const (pe_glob hg hm r hd) hr
/-! ### slices -/
def qPart (q : QE) : EXG → G → (Option Int → G → Prop) → Prop := fun EX Γ P => q EX Γ fun d Γ1 => match d with
  | .int i => P (some i) Γ1
  | _ => False
def qNoPart : EXG → G → (Option Int → G → Prop) → Prop := fun _ Γ P => P none Γ
abbrev QO := EXG → G → (Option Int → G → Prop) → Prop
def liftO (K : PySem.W.Frag) (c : C0) (W : WX) (q : QO) : TO := fun σ H Q => ∃ w Γ P EX, ER K c w H σ Γ ∧ q EX Γ P ∧ XL K c W w σ Γ H EX ∧ ∀ b Γ' w' H', P b Γ' → Stp c w σ Γ H w' σ Γ' H' → ER K c w' H' σ Γ' → Q b H'
def QOx (X : Cx) (W : WX) (e : Option Expr) (q : QO) : Prop := ∀ c, PO X e (liftO X.K c W q)
theorem qo_none : QOx X W none qNoPart := fun c => ⟨fun pins s σ H Q I h => po_none.run pins s σ H Q I (by
  obtain ⟨w, Γ, P, EX, er, q, x, k⟩ := h
  exact k none Γ w H q Stp.refl er)⟩
theorem qo_some (h : QEx X W e qe) : QOx X W (some e) (qPart qe) := fun c => ⟨fun pins s σ H Q I hw => (po_some (h c)).run pins s σ H Q I (by
  obtain ⟨w, Γ, P, EX, er, q, x, k⟩ := hw
  exact ⟨w, Γ, _, EX, er, q, x, fun d Γ1 w1 H1 v q1 s1 e1 r1 => by
    cases d <;> try exact q1.elim
    exact ⟨_, r1, k _ _ w1 H1 q1 s1 e1⟩⟩)⟩
def cutD (xs : List D) (lo hi : Option Int) : List D := (xs.drop (HT.sIx xs.length 0 lo)).take (HT.sIx xs.length xs.length hi - HT.sIx xs.length 0 lo)
theorem Reps.cut {K : PySem.W.Frag} {H : Hp} {av : Addr → Prop} {w : List Addr} {ds : List D} {us : List V} (r : Reps K H av w ds us) (lo hi : Option Int) : Reps K H av w (cutD ds lo hi) (cutV us lo hi) := by
  unfold cutD cutV
  rw [r.length]
  exact (r.drop _).take _
/-- xs[lo:hi]: of a list a new list -/
def qSl (qe : QE) (ql qh : QO) : QE := fun EX Γ P => qe EX Γ fun d Γ1 => ql EX Γ1 fun lo Γ2 => qh EX Γ2 fun hi Γ3 => match d with
  | .lst ds => P (.lst (cutD ds lo hi)) Γ3
  | .frl ds => P (.lst (cutD ds lo hi)) Γ3
  | .tup ds => P (.tup (cutD ds lo hi)) Γ3
  | _ => False
theorem cut_all {ds : List D} {lo hi : Option Int} (h : HT.sIx ds.length 0 lo = 0 ∧ HT.sIx ds.length ds.length hi = ds.length) : cutD ds lo hi = ds := by
  unfold cutD
  rw [h.1, h.2, List.drop_zero, Nat.sub_zero, List.take_length]
theorem q_sl {lo hi : Option Expr} {ql qh : QO} {p2 : Pos} (he : QEx X W e qe) (hl : QOx X W lo ql) (hh : QOx X W hi qh) : QEx X W (.Subscript e (.Slice lo hi none p2) pos) (qSl qe ql qh) := fun c =>
  PEi (pe_slice (sl_list.or sl_tupA) (he c) (hl c) (hh c)) fun σ H Q ⟨w, Γ, P, EX, er, q, x, k⟩ => ⟨w, Γ, _, EX, er, q, x, fun d Γ1 w1 H1 u q1 s1 e1 r1 =>
    ⟨w1, Γ1, _, EX, e1, q1, x.stp s1, fun lo' Γ2 w2 H2 q2 s2 e2 => ⟨w2, Γ2, _, EX, e2, q2, (x.stp s1).stp s2, fun hi' Γ3 w3 H3 q3 s3 e3 => by
      have r3 := (r1.stp s2).stp s3
      have kk : ∀ d Γ' w' H' z, P d Γ' → Stp c w3 σ Γ3 H3 w' σ Γ' H' → ER X.K c w' H' σ Γ' → Rep X.K H' (Av c w' σ Γ') w' d z → Q z H' := fun d Γ' w' H' z a b e f => k d Γ' w' H' z a (((s1.trans s2).trans s3).trans b) e f
      cases d <;> try exact q3.elim
      · obtain ⟨a, xs, rfl, h1, h2⟩ := r3
        refine .inr ⟨a, xs, rfl, h1.sq, fun z => ?_, fun z p hp => fin_tup e3 kk q3 (h2.cut _ _) hp⟩
        rw [h2.length] at z
        have q3 : P (.tup (cutD _ lo' hi')) Γ3 := q3
        rw [cut_all z] at q3
        exact fin_same e3 kk q3 ⟨a, xs, rfl, h1, h2⟩
      · obtain ⟨a, xs, rfl, h1, h2⟩ := r3
        exact .inl ⟨a, xs, rfl, h1.sq, fun p hp => fin_lst e3 kk q3 (h2.cut _ _) hp⟩
      · obtain ⟨a, xs, rfl, h1, h2⟩ := r3
        exact .inl ⟨a, xs, rfl, h1.sq, fun p hp => fin_lst e3 kk q3 (h2.cut _ _) hp⟩⟩⟩⟩
end
end QL
namespace QL
open PySem PySem.Spec PyProof.Rows L2
theorem _root_.L2.Room.units65 {k : Nat} {A : Around} (r : Room k A) : A.units + 65 < cLine := by
  have := r.un
  omega
/-! ### chains, in, targets, keywords -/
section
variable {X : Cx} {W : WX} {k : Nat} {a b d e : Expr} {qa qb qd qe : QE} {pos : Pos}
theorem q_chainR {op op' : CmpOp} {r r' : R2} {o o' : QO2} (ho : OpR X (compareOp op) r) (ho' : OpR X (compareOp op') r') (l : Lift2 X.K r o) (l' : Lift2 X.K r' o') (ha : QEx X W a qa) (hb : QEx X W b qb) (hd : QEx X W d qd)
    (hm : lastMarks [op, op'] [b, d] = false := by with_unfolding_all rfl) : QEx X W (.Compare a [op, op'] [b, d] pos) (qChain o o' qa qb qd) := fun c => PEi (pe_chain ho ho' (ha c) (hb c) (hd c) hm) fun _ _ _ h => lift_chain l l' h
theorem qt_chainR {op op' : CmpOp} {r r' : R2} {o o' : QO2} (ho : OpR X (compareOp op) r) (ho' : OpR X (compareOp op') r') (l : Lift2 X.K r o) (l' : Lift2 X.K r' o') (ha : QEx X W a qa) (hb : QEx X W b qb) (hd : QEx X W d qd)
    (hm : lastMarks [op, op'] [b, d] = false := by with_unfolding_all rfl) : QTx X W (.Compare a [op, op'] [b, d] pos) (qTest (qChain o o' qa qb qd)) := fun c => PTi (pt_chain ho ho' (ha c) (hb c) (hd c) hm) fun σ H Q ⟨w, Γ, P, EX, er, q, x, k⟩ => by
  exact lift_chain l l' ⟨w, Γ, _, EX, er, q, x, fun d Γ' w' H' v q1 s1 e1 r1 => by
    cases d <;> try exact q1.elim
    exact ⟨_, r1, k _ Γ' w' H' q1 s1 e1⟩⟩
abbrev CmpI (op : CmpOp) (o : QO2) : Prop := ∀ X : Cx, ∃ r, OpR X (compareOp op) r ∧ Lift2 X.K r o
theorem lr_lt : CmpI .Lt oLt := fun _ => ⟨_, op_lt, l_I0 fun _ _ _ _ _ => rfl⟩
theorem lr_le : CmpI .LtE oLe := fun _ => ⟨_, op_le, l_I0 fun _ _ _ _ _ => rfl⟩
theorem lr_gt : CmpI .Gt oGt := fun _ => ⟨_, op_gt, l_I0 fun _ _ _ _ _ => rfl⟩
theorem lr_ge : CmpI .GtE oGe := fun _ => ⟨_, op_ge, l_I0 fun _ _ _ _ _ => rfl⟩
theorem q_chain {op op' : CmpOp} {o o' : QO2} (l : CmpI op o) (l' : CmpI op' o') (ha : QEx X W a qa) (hb : QEx X W b qb) (hd : QEx X W d qd)
    (hm : lastMarks [op, op'] [b, d] = false := by with_unfolding_all rfl) : QEx X W (.Compare a [op, op'] [b, d] pos) (qChain o o' qa qb qd) := by
  obtain ⟨r, h1, h2⟩ := l X
  obtain ⟨r', h1', h2'⟩ := l' X
  exact q_chainR h1 h1' h2 h2' ha hb hd hm
theorem qt_chain {op op' : CmpOp} {o o' : QO2} (l : CmpI op o) (l' : CmpI op' o') (ha : QEx X W a qa) (hb : QEx X W b qb) (hd : QEx X W d qd)
    (hm : lastMarks [op, op'] [b, d] = false := by with_unfolding_all rfl) : QTx X W (.Compare a [op, op'] [b, d] pos) (qTest (qChain o o' qa qb qd)) := by
  obtain ⟨r, h1, h2⟩ := l X
  obtain ⟨r', h1', h2'⟩ := l' X
  exact qt_chainR h1 h1' h2 h2' ha hb hd hm
/-- x in a list of data -/
def oInL (neg : Bool) : QO2 := fun x y Γ P => ∃ p ps, Cmp x p ∧ Cmp y (.list ps) ∧ P (.bl (xor neg (ps.any fun z => PyData.eqv z p))) Γ
theorem l_inL {K : PySem.W.Frag} : Lift2 K (rInD K) (oInL false) := fun c w Γ H σ x y u v P Q er rx ry ⟨p, ps, h1, h2, q⟩ kk =>
  ⟨p, ps, rx.dp h1.1, ry.dp h2.1, h1.2, h2.2, kk _ Γ w H _ q Stp.refl er (by rw [Bool.false_xor] <;> rfl)⟩
theorem l_ninL {K : PySem.W.Frag} : Lift2 K (rNotInD K) (oInL true) := fun c w Γ H σ x y u v P Q er rx ry ⟨p, ps, h1, h2, q⟩ kk =>
  ⟨p, ps, rx.dp h1.1, ry.dp h2.1, h1.2, h2.2, kk _ Γ w H _ q Stp.refl er (by rw [Bool.true_xor] <;> rfl)⟩
theorem qt_in (B : Bd X W k) (ha : QEx X W a qa) (hb : QEx X W b qb) (hm : behindInMarks .In b = false := by with_unfolding_all rfl) : QTx X W (.Compare a [.In] [b] pos) (qTest (qOp (oInL false) qa qb)) := qt_cmp (op_inD B.hr.units65) l_inL ha hb hm
theorem qt_nin (B : Bd X W k) (ha : QEx X W a qa) (hb : QEx X W b qb) (hm : behindInMarks .NotIn b = false := by with_unfolding_all rfl) : QTx X W (.Compare a [.NotIn] [b] pos) (qTest (qOp (oInL true) qa qb)) := qt_cmp (op_notInD B.hr.units65) l_ninL ha hb hm
theorem q_in (B : Bd X W k) (ha : QEx X W a qa) (hb : QEx X W b qb) (hm : behindInMarks .In b = false := by with_unfolding_all rfl) : QEx X W (.Compare a [.In] [b] pos) (qOp (oInL false) qa qb) := q_cmp (op_inD B.hr.units65) l_inL ha hb hm
theorem q_nin (B : Bd X W k) (ha : QEx X W a qa) (hb : QEx X W b qb) (hm : behindInMarks .NotIn b = false := by with_unfolding_all rfl) : QEx X W (.Compare a [.NotIn] [b] pos) (qOp (oInL true) qa qb) := q_cmp (op_notInD B.hr.units65) l_ninL ha hb hm
end
/-- a target takes a value -/
def qAsg (qe : QE) (g : QG) : QS := fun EX E Γ => qe EX Γ fun d Γ1 => g d Γ1 E.nx
section
variable {X : Cx} {W : WX} {tg e : Expr} {qe : QE} {g : QG} {pos : Pos}
theorem qs_asg (he : QEx X W e qe) (hg : QGx X tg g) (hs : swapsWithSole [tg] e pos.line X.env = pure false := by rfl) (hw : swappedStores [tg] e X.env = pure none := by rfl)
    (h1 : (assignEach [tg] X.env).map (·.2) = [assign tg X.env] := by rfl) : QSx X W (.Assign [tg] e pos) (qAsg qe g) := fun c =>
  PSi (ps_asg (he c) (hg c) hs hw h1) fun D σ H ⟨w, Γ, E, EX, er, q, x, k⟩ => ⟨w, Γ, _, EX, er, q, x, fun d Γ1 w1 H1 v q1 s1 e1 r1 =>
    ⟨w1, Γ1, d, E.nx, e1, r1, q1, fun Γ2 w2 σ2 H2 q2 s2 e2 => k.nx Γ2 w2 σ2 H2 q2 (s1.trans s2) e2⟩⟩
end
/-! ### keywords -/
def QKx (X : Cx) (W : WX) (ks : List Keyword) (q : QA) : Prop := ∀ c, PK X ks (liftA X.K c W q)
section
variable {X : Cx} {W : WX} {e : Expr} {qe : QE} {q : QA} {nm : Option Str} {kpos : Pos} {ks : List Keyword}
theorem PKi {ks : List Keyword} {t t' : TA} (h : PK X ks t) (i : ∀ σ H Q, t' σ H Q → t σ H Q) : PK X ks t' := ⟨fun pos pins s σ H Q I q => h.run pos pins s σ H Q I (i σ H Q q)⟩
theorem qk_nil : QKx X W [] qNil := fun c => PKi pk_nil fun σ H Q ⟨w, Γ, P, EX, er, q, x, k⟩ => k [] Γ w H [] q Stp.refl er rfl
theorem qk_cons (ha : QEx X W e qe) (hr : QKx X W ks q) : QKx X W (⟨nm, e, kpos⟩ :: ks) (qCons qe q) := fun c => PKi (pk_cons (ha c) (hr c)) fun σ H Q ⟨w, Γ, P, EX, er, q, x, k⟩ =>
  ⟨w, Γ, _, EX, er, q, x, fun d Γ1 w1 H1 v q1 s1 e1 r1 => ⟨w1, Γ1, _, EX, e1, q1, x.stp s1, fun ds Γ2 w2 H2 vs q2 s2 e2 r2 => k _ Γ2 w2 H2 _ q2 (s1.trans s2) e2 (Reps.cons (r1.stp s2) r2)⟩⟩
end
/-- a call with keywords where what is raised is wished for at the slots -/
def tCallNS (n m : Nat) (sp : Sp) (gV : List V → List V → List V) (E : L2.St → XK) (t tk : TA) : TE := fun σ H Q => t σ H fun vs H1 => tk σ H1 fun zs H2 => vs.length = n ∧ zs.length = m ∧ sp (gV vs zs) H2 Q (E σ)
section
variable {X : Cx} {CX : CXT} {k n : Nat} {f : Addr} {fd : FuncData} {ps ks : List Str} {sp : Sp} {E : L2.St → XK} {x : Str} {p pos : Pos} {e : Expr} {es : List Expr} {kws : List Keyword} {t tk : TA} {g : List Value → List Value → List Value} {gV : List V → List V → List V}
theorem run_fnNS {pins : List (Addr × Obj)} {σ : L2.St} {H : Hp} {s : Shared} {Q : VK} {us ws : List Value} {vs zs : List V}
    (F : FnOk X.prog X.w X.K X.mg X.base CX k f fd ps sp) (hr : Room k X.A) (hb : KBn X.K fd ps n ks g gV) (hx : PassesAt CX X σ (E σ)) (I : Inv X pins σ H s)
    (r : Vals vs us) (rz : Vals zs ws) (l1 : vs.length = n) (l2 : zs.length = ks.length) (h : sp (gV vs zs) H Q (E σ)) :
    wpAny (model X.prog X.w) X.A (call (.ref f) us (ks.zip ws)) (EP X pins σ Q) X.xe s := by
  refine wpAny_call (codeAny_mono (F.run X.A X.stack s H ⟨us, ks.zip ws⟩ (g us ws) (gV vs zs) Q (E σ) hr I.env0 (hb.to s us ws I.kIn (r.length.symm.trans l1) (rz.length.symm.trans l2)) (hb.rel r rz) h) fun res s' hq => ?_)
  match res, hq with
  | .error u, hq => exact hx pins H s u s' I hq
  | .ok (.ret u), hq => exact I.after hq
theorem pe_callNS (F : FnOk X.prog X.w X.K X.mg X.base CX k f fd ps sp) (hr : Room k X.A) (hg : Gl X x) (hm : X.mg x = some (.ref f)) (hk : PySem.W.keepIn X.K (.ref f) = true) (hb : KBn X.K fd ps n ks g gV) (hx : ∀ σ, PassesAt CX X σ (E σ))
    (ha : PA X (e :: es) t) (hkw : PK X kws tk) (hall : (backToKw pos (keywordEach kws X.env)).all (·.1.isSome) = true) (hks : (backToKw pos (keywordEach kws X.env)).filterMap (·.1) = ks)
    (hdb : (x == ("__debug__" : Str)) = false) (he : starEach (e :: es) X.env = (false, eval e X.env) :: starEach es X.env)
    (hpl : ((backTo pos (starEach (e :: es) X.env)).any (·.1) || (backToKw pos (keywordEach kws X.env)).any (·.1.isNone)) = false) :
    PE X (.Call (.Name x p) (e :: es) kws pos) (tCallNS n ks.length sp gV E t tk) := by
  constructor
  intro pins s σ H Q I h
  apply wpAny_Call_Name_kw (ld_glob I hg hm ?_ hdb)
  apply PySem.W.callWith_KW (h₀ := X.base) I.ok.mod.kin hk hall (thn (ha.run pos pins s σ H _ I h) ?_) hpl he
  rintro us s1 ⟨vs, H1, I1, r, q⟩
  apply thn (hkw.run pos pins s1 σ H1 _ I1 q)
  rintro ws s2 ⟨zs, H2, I2, rz, l1, l2, q2⟩
  refine ⟨I2.kIn, ?_⟩
  rw [hks]
  exact run_fnNS F hr hb (hx σ) I2 r rz l1 l2 q2
end
/-- f(e, .., k = v, ..): gD puts the data in the parameters' order -/
def qCallK (n m m' : Nat) (F : FQ) (gD : List D → List D → List D) (qr qk : QA) : QE := fun EX Γ P => qr EX Γ fun ds Γ1 => ds.length = m ∧ qk EX Γ1 fun es Γ2 => es.length = m' ∧ (gD ds es).length = n ∧ F (fun e ob => EX e ⟨Γ2.sl, ob⟩) (gD ds es) Γ2.ob fun d ob => P d ⟨Γ2.sl, ob⟩
section
variable {X : Cx} {W : WX} {k j n m m' : Nat} {f : Addr} {fd : FuncData} {ps ks : List Str} {F : FQ} {x : Str} {p pos : Pos} {e : Expr} {es : List Expr} {kws : List Keyword} {qr qk : QA} {g : List Value → List Value → List Value} {gV : List V → List V → List V} {gD : List D → List D → List D}
/-- the order of data is the order of values -/
def GOk (K : PySem.W.Frag) (n m : Nat) (gD : List D → List D → List D) (gV : List V → List V → List V) : Prop := ∀ H av w ds es vs us, Reps K H av w ds vs → Reps K H av w es us → vs.length = n → us.length = m → Reps K H av w (gD ds es) (gV vs us)
theorem q_callK (B : Bd X W k) (G1 : FnOk X.prog X.w X.K X.mg X.base (L2.CX X.prog X.w) j f fd ps (spQ X.K n F)) (hj : j ≤ k) (hg : Gl X x) (hm : X.mg x = some (.ref f)) (hk : PySem.W.keepIn X.K (.ref f) = true) (hb : KBn X.K fd ps m ks g gV)
    (hml : ks.length = m') (hG : GOk X.K m ks.length gD gV) (ha : QAx X W (e :: es) qr) (hkw : QKx X W kws qk)
    (hall : (backToKw pos (keywordEach kws X.env)).all (·.1.isSome) = true := by rfl) (hks : (backToKw pos (keywordEach kws X.env)).filterMap (·.1) = ks := by rfl)
    (hdb : (x == ("__debug__" : Str)) = false := by decide) (he : starEach (e :: es) X.env = (false, eval e X.env) :: starEach es X.env := by rfl)
    (hpl : ((backTo pos (starEach (e :: es) X.env)).any (·.1) || (backToKw pos (keywordEach kws X.env)).any (·.1.isNone)) = false := by rfl) :
    QEx X W (.Call (.Name x p) (e :: es) kws pos) (qCallK n m m' F gD qr qk) := fun c =>
  PEi (pe_callNS G1 (B.hr.mono hj) hg hm hk hb (fun σ => passAt B.tk σ) (ha c) (hkw c) hall hks hdb he hpl) fun σ H Q ⟨w, Γ, P, EX, er, q, x, k⟩ =>
    ⟨w, Γ, _, EX, er, q, x, fun ds Γ1 w1 H1 vs q1 s1 e1 r1 => ⟨w1, Γ1, _, EX, e1, q1.2, x.stp s1, fun es' Γ2 w2 H2 us q2 s2 e2 r2 =>
      ⟨r1.length.trans q1.1, r2.length.trans (q2.1.trans hml.symm), sp_call e2 (hG _ _ _ _ _ _ _ (r1.stp s2) r2 (r1.length.trans q1.1) (r2.length.trans (q2.1.trans hml.symm))) q2.2.1 q2.2.2
        (fun e Γ' w' H' cls d h1 h2 h3 h4 => x e Γ' w' σ H' cls d h1 ((s1.trans s2).trans h2) h3 h4)
        fun d Γ' w' H' v h1 h2 h3 h4 => k d Γ' w' H' v h1 ((s1.trans s2).trans h2) h3 h4⟩⟩⟩
end
end QL
namespace QL
open PySem PySem.Spec PyProof.Rows L2
/-! ### the head: facts, own checks besides -/
abbrev AlQ : Type := He.AlD × Bool
def obsQ (n : Nat) (fa : List He.Fa) (fn : List He.DefD) (xb : List (PySem.W.Frag → Bool)) (g : Addr → Option Obj) : AlQ := (He.obsDG n fa fn g, xb.all fun f => f (He.frG g (He.asD g n)))
structure SaysQ (fa : List He.Fa) (fn : List He.DefD) (xb : List (PySem.W.Frag → Bool)) (K : PySem.W.Frag) : Prop where
  c : He.SaysD fa fn K
  x : ∀ f ∈ xb, f K = true
def hookQ (n : Nat) (fa : List He.Fa) (fn : List He.DefD) (xb : List (PySem.W.Frag → Bool)) : PySem.W.Hook where
  α := AlQ
  obs := fun s => obsQ n fa fn xb s.heap.get?
  val := fun _ => (He.valD fn, true)
  says := fun _ h => ∃ K : PySem.W.Frag, K.In h ∧ SaysQ fa fn xb K
  of := fun _ _ e => ⟨_, He.frG_in, congrArg (fun z : AlQ => z.1) e, List.all_eq_true.mp (congrArg (fun z : AlQ => z.2) e)⟩
  keeps := fun _ _ _ ⟨K, hK, c⟩ k => ⟨K, PySem.W.Frag.In.keeps hK k, c⟩
theorem obsQ_eq {n : Nat} {fa : List He.Fa} {fn : List He.DefD} {xb : List (PySem.W.Frag → Bool)} {g : Addr → Option Obj} {s : Shared} (h : ∀ a, g a = s.heap.get? a) : obsQ n fa fn xb g = (hookQ n fa fn xb).obs s := by
  have e : g = s.heap.get? := funext h
  rw [e]
  rfl
/-- what the text says -/
structure Txt (fa : List He.Fa) (fn : List He.DefD) (xb : List (PySem.W.Frag → Bool)) (K : PySem.W.Frag) (mg : Str → Option Value) : Prop where
  s : SaysQ fa fn xb K
  h : ∃ h, K.In h ∧ h.Ns mainGlobals mg
section
variable {fa : List He.Fa} {fn : List He.DefD} {xb : List (PySem.W.Frag → Bool)} {K : PySem.W.Frag} {mg : Str → Option Value}
theorem Txt.fre (T : Txt fa fn xb K mg) (i : Nat) (x : Str) (e : fa[i]? = some (.free x)) : mg x = none := by
  obtain ⟨h, X, G⟩ := T.h
  exact He.free_ok X G (T.s.c.fact i e)
theorem Txt.glo (T : Txt fa fn xb K mg) (i : Nat) (x : Str) (e : fa[i]? = some (.glo x)) : mg x = some (.ref (He.ga K x)) := by
  obtain ⟨h, X, G⟩ := T.h
  exact He.glo_ok X G (T.s.c.fact i e)
theorem Txt.int (T : Txt fa fn xb K mg) (i : Nat) (x : Str) (z : Int) (e : fa[i]? = some (.int x z)) : ∃ t, mg x = some (.int z t) := by
  obtain ⟨h, X, G⟩ := T.h
  exact He.int_ok X G (T.s.c.fact i e)
theorem Txt.str (T : Txt fa fn xb K mg) (i : Nat) (x z : Str) (e : fa[i]? = some (.str x z)) : ∃ t, mg x = some (.str z t) := by
  obtain ⟨h, X, G⟩ := T.h
  exact He.str_ok X G (T.s.c.fact i e)
theorem Txt.own (T : Txt fa fn xb K mg) (i : Nat) {f : PySem.W.Frag → Bool} (e : xb[i]? = some f) : f K = true := T.s.x f (List.mem_of_getElem? e)
end
/-- plain values of the text -/
def dvD : He.Dv → Option D
  | .non => some .non
  | .bl b => some (.bl b)
  | .int i => some (.int i)
  | .str x => some (.str x)
  | _ => none
def dvDs : List He.Dv → Option (List D)
  | [] => some []
  | v :: vs => match dvD v, dvDs vs with
    | some d, some ds => some (d :: ds)
    | _, _ => none
theorem dvD_rep {K : PySem.W.Frag} {H : Hp} {av : Addr → Prop} {w : List Addr} : ∀ {v : He.Dv} {d : D}, dvD v = some d → Rep K H av w d (v.v K)
  | .non, _, h => by cases h; rfl
  | .bl _, _, h => by cases h; rfl
  | .int _, _, h => by cases h; rfl
  | .str _, _, h => by cases h; rfl
theorem dvDs_reps {K : PySem.W.Frag} {H : Hp} {av : Addr → Prop} {w : List Addr} : ∀ {vs : List He.Dv} {ds : List D}, dvDs vs = some ds → Reps K H av w ds (vs.map (He.Dv.v K))
  | [], _, h => by cases h; rfl
  | v :: vs, ds, h => by
    unfold dvDs at h
    cases h1 : dvD v with
    | none => rw [h1] at h; cases h
    | some d =>
      rw [h1] at h
      cases h2 : dvDs vs with
      | none => rw [h2] at h; cases h
      | some ds' =>
        rw [h2] at h
        cases h
        exact Reps.cons (dvD_rep h1) (dvDs_reps h2)
/-! constants of the text -/
section
variable {fa : List He.Fa} {fn : List He.DefD} {xb : List (PySem.W.Frag → Bool)} {X : Cx} {W : WX} {p : Pos}
theorem Txt.cint (T : Txt fa fn xb X.K X.mg) (i : Nat) {x : Str} {z : Int} (e : fa[i]? = some (.int x z)) (hg : Gl X x) (hd : (x == ("__debug__" : Str)) = false := by decide) : QEx X W (.Name x p) (qC (.int z)) := by
  obtain ⟨t, h⟩ := T.int i x z e
  exact q_glob (v := .int z) hg h ⟨t, rfl⟩ (fun _ _ _ => rfl) hd
theorem Txt.ctup (T : Txt fa fn xb X.K X.mg) (i j : Nat) {x : Str} (vs : List He.Dv) {ds : List D} (e : fa[i]? = some (.glo x)) (e2 : xb[j]? = some fun K => He.tupB K x vs) (e3 : dvDs vs = some ds) (hg : Gl X x) (hd : (x == ("__debug__" : Str)) = false := by decide) : QEx X W (.Name x p) (qC (.tup ds)) :=
  q_glob (v := .ref (He.ga X.K x)) hg (T.glo i x e) rfl (fun H av w => ⟨_, _, rfl, .inr fun H' => He.tupB_ok (T.own j e2) H', dvDs_reps e3⟩) hd
end
/-! ### a def keeps its contract -/
def FOk (P : Program) (wd : World) (K : PySem.W.Frag) (mg : Str → Option Value) (base : Heap) (k : Nat) (d : He.DefD) (ps : List Str) (F : FQ) : Prop :=
  ∃ fd, FunD K d.name d.qual d.params d.body d.scope (d.dvs K) (d.kws K) (He.fAd K d.at_) fd ∧ FnOk P wd K mg base (L2.CX P wd) k (He.fAd K d.at_) fd ps (spQ K ps.length F)
section
variable {P : Program} {wd : World} {K : PySem.W.Frag} {mg : Str → Option Value} {base : Heap} {k : Nat} {d : He.DefD} {ps : List Str} {F F' : FQ}
theorem FOk.imp (h : FOk P wd K mg base k d ps F) (i : ∀ EX ds ob R, ds.length = ps.length → F' EX ds ob R → F EX ds ob R) : FOk P wd K mg base k d ps F' := by
  obtain ⟨fd, h1, h2⟩ := h
  exact ⟨fd, h1, FnOk.imp h2 (spQ_imp i)⟩
end
/-! ### keywords that give all -/
theorem rel_get {vs : List V} {us : List Value} (r : Vals vs us) (i : Nat) : RelV (vs.getD i .non) (us.getD i .none) := by
  induction r generalizing i with
  | nil => rfl
  | cons h _ ih =>
    cases i with
    | zero => exact h
    | succ i => exact ih i
theorem rep_get {K : PySem.W.Frag} {H : Hp} {av : Addr → Prop} {w : List Addr} : ∀ {ds : List D} {vs : List V}, Reps K H av w ds vs → ∀ i : Nat, Rep K H av w (ds.getD i .non) (vs.getD i .non)
  | [], _, r, i => by
    have r : _ = [] := r
    rw [r]
    rfl
  | d :: ds, _, r, 0 => by
    obtain ⟨x, t, rfl, h1, h2⟩ := r
    exact h1
  | d :: ds, _, r, i + 1 => by
    obtain ⟨x, t, rfl, h1, h2⟩ := r
    exact rep_get h2 i
section
variable {K : PySem.W.Frag} {x qual : Str} {params : Arguments} {body : List Stmt} {scope : Scope} {dvs : List V} {kws : List (Str × V)} {f : Addr} {fd fd2 : FuncData} {ps : List Str}
theorem kbindsA (F : FunD K x qual params body scope [] kws f fd) (n : Nat) (ks : List Str) (G : {α : Type} → α → List α → List α → List α)
    (hrel : ∀ {vs : List V} {us : List Value} {zs : List V} {ws : List Value}, Vals vs us → Vals zs ws → Vals (G .non vs zs) (G .none us ws))
    (h : ∀ (kV doc pm : Value) (an : Option Addr) (cdv ct : Value) (us ws : List Value), us.length = n → ws.length = ks.length → bindArgs (PySem.W.fnOf x qual params body scope .none kV doc pm an cdv ct) ⟨us, ks.zip ws⟩ = pure (ps.zip (G .none us ws))) :
    KBn K fd ps n ks (G Value.none) (G V.non) := by
  obtain ⟨oc, od, dV, kV, doc, pm, an, cdv, ct, osl, rfl, lk, hcd, hD, hK⟩ := F.ex
  rcases hD with ⟨_, rfl⟩ | ⟨e, _⟩
  · refine ⟨fun s us ws X l1 l2 => BindsTo.of_looks fun M => ?_, fun r1 r2 => hrel r1 r2⟩
    rw [h kV doc pm an cdv ct us ws l1 l2]
    exact PySem.W.Looks.of_pure rfl
  · exact absurd rfl e
theorem fd_same {b : Str} {c : Arguments} {q : List Stmt} {s : Scope} {dv : List V} {kv : List (Str × V)} {y : Str} (F2 : FunD K x qual params body scope dvs kws f fd2) (F : FunD K y b c q s dv kv f fd) : fd2 = fd := by
  obtain ⟨oc, od, dV, kV, doc, pm, an, cdv, ct, osl, e1, lk, _⟩ := F2.ex
  obtain ⟨oc', od', dV', kV', doc', pm', an', cdv', ct', osl', e2, lk', _⟩ := F.ex
  rw [lk] at lk'
  have z := Option.some.inj lk'
  injection z with z1 z2 z3 z4
  injection z3
end
/-! ### the end -/
section
variable {fd : FuncData}
theorem walk_ofQ {l : PySem.W.OpenLaw} {n k : Nat} {q : Program} {loose : List Str} {XP : (Str → Option Value) → Heap → Prop} {YP : World → Heap → Prop} {d : DefRec} {x : Str}
    (hn : l.most = some n) (hn2 : n ≤ sizeLine) (hdf : d.params.defaults = []) (hr : Room k callerA)
    (F : ∀ (w : World) (mg : Str → Option Value) (fa : Addr) (h : Heap), YP w h → h.Ns mainGlobals mg → mg d.name = some (.ref fa) →
      ∃ (K : PySem.W.Frag) (fd : FuncData) (C : FQ), K.In h ∧ (∀ (s : Shared) (u : Value), BindsTo s fd ⟨[u], []⟩ [(x, u)]) ∧
        (∀ ns : List Int, ns.length ≤ n → (∀ z ∈ ns, Builtin.Int.intBits z ≤ 1048576) → C (fun _ _ => False) [.frl (ns.map D.int)] [] fun r _ => r = .bl true) ∧
        ∀ base : Heap, K.In base → base.Ns mainGlobals mg → FnOk l.prog w K mg base (L2.CX l.prog w) k fa fd [x] (spQ K 1 C)) :
    PySem.W.WalkO q loose XP YP l.row.toRowW d [] (fun f vs => PySem.call f vs) := by
  refine Att.attach_callB hn hdf fun w s₀ s₁ mg mb fa o pm cd doc a vs ns G Y ho hd hcd hmg hobj hints hlen hbits hg => ?_
  obtain ⟨K, fd, C, KX, hb, hsp, hF⟩ := F w mg fa _ Y G.T.g hmg
  refine law_call KX G.T.g G.T.b G.T.builtins G.T.nolimit hg hobj hints (Nat.le_trans hlen hn2) hr hF hb (fun H hO hS => ?_) fun H e s' => ?_
  · refine ⟨[], fun _ => none, [], [.frl (ns.map D.int)], _, _, ⟨rfl, List.nodup_nil, fun n a o h => ?_, fun a o h => ?_⟩, ?_, rfl, hsp ns hlen hbits, fun r ob' w' H' v hr hs he hv => ?_, fun e ob' w' H' cls d z => z.elim⟩
    · simp at h
    · cases h
    · refine Reps.one ⟨a, ns.map V.int, rfl, ?_, ?_⟩
      · rcases hS with hS | hS
        · exact .inl ⟨hS, fun z => by rcases z with z | ⟨o, z⟩ <;> cases z⟩
        · exact .inr fun _ => .inr hS
      · clear hlen hbits hS hints hobj
        induction ns with
        | nil => rfl
        | cons z zs ih => exact Reps.cons rfl ih
    · have hr : r = .bl true := hr
      subst hr
      exact hv
  · rintro ⟨a, B, H', cls, d, h⟩
    exact h.2.2.2.2.2.2.2
end
end QL
namespace QL
open PySem PySem.Spec PyProof.Rows L2
/-! ### the plain side: rewriting -/
theorem cmul {i j : Int} (a b : Nat) (ha : i.natAbs < 2 ^ a) (hb : j.natAbs < 2 ^ b) (h : a + b ≤ 900000) : CMulW i j :=
  wide_mul (a := a + 1) (b := b + 1) (Nat.lt_of_lt_of_le ha (Nat.pow_le_pow_right (by decide) (by omega))) (Nat.lt_of_lt_of_le hb (Nat.pow_le_pow_right (by decide) (by omega))) (by omega) (by omega) (by omega)
theorem log_lt {i : Int} (a : Nat) (ha : i.natAbs < 2 ^ a) (h : a < 9000) : i.natAbs.log2 < 9000 := by
  by_cases z : i.natAbs = 0
  · rw [z]
    decide
  · have := (Nat.log2_lt z).mpr ha
    omega
theorem ne0 {j : Int} (h : (j == 0) = false) : j ≠ 0 := by
  intro e
  subst e
  cases h
theorem ltn {i n : Nat} (h : Nat.blt i n = true) : i < n := Nat.le_of_ble_eq_true h
theorem szl {n : Nat} (h : Nat.ble n 16777216 = true) : n ≤ sizeLine := by
  rw [sizeLine_eq]
  exact Nat.le_of_ble_eq_true h
theorem pw {a b : Nat} (h : a ≤ b) : (2 : Int) ^ a ≤ 2 ^ b := by exact_mod_cast Nat.pow_le_pow_right (n := 2) (by decide) h
theorem pw_nat {a : Nat} {x : Int} (h0 : 0 ≤ x) (h : x < 2 ^ a) : x.natAbs < 2 ^ a := by
  have e : ((2 : Nat) ^ a : Nat) = ((2 : Int) ^ a) := by push_cast; rfl
  rw [← e] at h
  omega
/-- a place within -/
theorem atI_nat {α : Type} {xs : List α} {i : Nat} {x : α} (h : xs[i]? = some x) : L2.atI xs (i : Int) = some x := by
  have hi := (List.getElem?_eq_some_iff.mp h).1
  unfold L2.atI L2.ixN
  rw [if_pos (by omega), if_pos (by omega)]
  exact h
theorem ixN_nat {n i : Nat} (h : i < n) : L2.ixN n (i : Int) = some i := by
  unfold L2.ixN
  rw [if_pos (by omega), if_pos (by omega)]
  rfl
/-! ### the law's source of numbers -/
def RngO : Ob → Prop := fun o => ∃ (cs : List Int) (p c s : Int), o = .lst [.lst (cs.map .int), .int p, .int c, .int s] ∧ 0 ≤ p ∧ 0 ≤ s ∧ s < 2147483563
def RngAt (ob : List Ob) (r : Nat) : Prop := ∃ o, ob[r]? = some o ∧ RngO o
theorem RngAt.set {ob : List Ob} {r : Nat} {o : Ob} (h : RngAt ob r) (h' : RngO o) : RngAt (ob.set r o) r := by
  obtain ⟨u, h1, _⟩ := h
  exact ⟨o, by rw [List.getElem?_set_self (List.getElem?_eq_some_iff.mp h1).1], h'⟩
end QL
namespace QL
open PySem PySem.Spec PyProof.Rows L2
/-! ### slices -/
def cutL {α : Type} (xs : List α) (lo hi : Option Int) : List α := (xs.drop (HT.sIx xs.length 0 lo)).take (HT.sIx xs.length xs.length hi - HT.sIx xs.length 0 lo)
theorem cut_map {α : Type} {f : α → D} {xs : List α} {lo hi : Option Int} : cutD (xs.map f) lo hi = (cutL xs lo hi).map f := by
  unfold cutD cutL
  rw [List.length_map, List.map_take, List.map_drop]
theorem cut_len63 {α : Type} {xs : List α} : (cutL xs none (some 63)).length ≤ 63 := by
  unfold cutL
  rw [List.length_take]
  have e : HT.sIx xs.length xs.length (some 63) ≤ 63 := by
    show (if (63 : Int) < 0 then ((63 : Int) + (xs.length : Int)).toNat else min (63 : Int).toNat xs.length) ≤ 63
    rw [if_neg (by decide)]
    have : (63 : Int).toNat = 63 := rfl
    omega
  omega
theorem cut_from {α : Type} {xs : List α} {k : Int} (hk : 0 ≤ k) : cutL xs (some k) none = xs.drop k.toNat := by
  have e1 : HT.sIx xs.length 0 (some k) = min k.toNat xs.length := by
    show (if k < 0 then (k + (xs.length : Int)).toNat else min k.toNat xs.length) = _
    rw [if_neg (by omega)]
  have e2 : HT.sIx xs.length xs.length none = xs.length := rfl
  unfold cutL
  rw [e1, e2]
  by_cases h : k.toNat ≤ xs.length
  · rw [Nat.min_eq_left h]
    exact List.take_of_length_le (by rw [List.length_drop]; omega)
  · rw [Nat.min_eq_right (by omega), Nat.sub_self, List.take_zero, List.drop_eq_nil_of_le (by omega)]
theorem rngD_succ {lo : Int} {n : Nat} : rngD lo 1 (n + 1) = .int lo :: rngD (lo + 1) 1 n := by
  unfold rngD
  rw [List.range_succ_eq_map, List.map_cons, List.map_map]
  congr 1
  · congr 1
    omega
  · apply List.map_congr_left
    intro a _
    show D.int _ = D.int _
    congr 1
    push_cast
    omega
theorem rngD_zero {lo c : Int} : rngD lo c 0 = [] := rfl
/-! ### data -/
def D.plain : Nat → D → Bool
  | _, .non => true
  | _, .bl _ => true
  | _, .int _ => true
  | _, .str s => SeqAt.shaped (.str s)
  | n + 1, .tup xs => decide (xs.length ≤ sizeLine) && xs.all (D.plain n)
  | n + 1, .lst xs => decide (xs.length ≤ sizeLine) && xs.all (D.plain n)
  | _, _ => false
theorem plain_pys {n : Nat} (ih : ∀ d : D, d.plain n = true → ∃ p, d.py = some p ∧ p.canLay0 = true ∧ p.depth ≤ n) : ∀ xs : List D, xs.all (D.plain n) = true → ∃ ps, D.pys xs = some ps ∧ PyData.canLayAll0 ps = true ∧ PyData.depthAll ps ≤ n
  | [], _ => ⟨[], rfl, rfl, Nat.zero_le _⟩
  | x :: xs, h => by
    rw [List.all_cons, Bool.and_eq_true] at h
    obtain ⟨p, p1, p2, p3⟩ := ih x h.1
    obtain ⟨ps, q1, q2, q3⟩ := plain_pys ih xs h.2
    refine ⟨p :: ps, ?_, ?_, ?_⟩
    · unfold D.pys
      rw [p1, q1]
      rfl
    · unfold PyData.canLayAll0
      rw [p2, q2]
      rfl
    · unfold PyData.depthAll
      omega
theorem plain_py : ∀ (n : Nat) (d : D), d.plain n = true → ∃ p, d.py = some p ∧ p.canLay0 = true ∧ p.depth ≤ n := by
  have base : ∀ (n : Nat) (d : D), (match d with | .tup _ => False | .lst _ => False | _ => True) → d.plain n = true → ∃ p, d.py = some p ∧ p.canLay0 = true ∧ p.depth ≤ n := by
    intro n d hd h
    cases d with
    | non => exact ⟨_, rfl, by simp [PyData.canLay0], by simp [PyData.depth]⟩
    | bl b => exact ⟨_, rfl, by simp [PyData.canLay0], by simp [PyData.depth]⟩
    | int i => exact ⟨_, rfl, by simp [PyData.canLay0], by simp [PyData.depth]⟩
    | str s =>
      have h : SeqAt.shaped (.str s) = true := by cases n <;> exact h
      exact ⟨_, rfl, SeqAt.canLay_of_shaped h, by simp [PyData.depth]⟩
    | tup xs => exact hd.elim
    | lst xs => exact hd.elim
    | _ => cases n <;> cases h
  intro n
  induction n with
  | zero =>
    intro d h
    cases d with
    | tup xs => cases h
    | lst xs => cases h
    | _ => exact base 0 _ trivial h
  | succ n ih =>
    intro d h
    cases d with
    | tup xs =>
      have h : (decide (xs.length ≤ sizeLine) && xs.all (D.plain n)) = true := h
      obtain ⟨ps, p1, p2, p3⟩ := plain_pys ih xs (Bool.and_eq_true_iff.mp h).2
      refine ⟨.tuple ps, ?_, ?_, ?_⟩
      · unfold D.py
        rw [p1]
        rfl
      · unfold PyData.canLay0
        exact p2
      · unfold PyData.depth
        omega
    | lst xs =>
      have h : (decide (xs.length ≤ sizeLine) && xs.all (D.plain n)) = true := h
      obtain ⟨ps, p1, p2, p3⟩ := plain_pys ih xs (Bool.and_eq_true_iff.mp h).2
      refine ⟨.list ps, ?_, ?_, ?_⟩
      · unfold D.py
        rw [p1]
        rfl
      · unfold PyData.canLay0
        exact p2
      · unfold PyData.depth
        omega
    | _ => exact base _ _ trivial h
/-- plain data is equal to itself -/
theorem plain_cmp {n : Nat} {d : D} (h : d.plain n = true) (hn : n ≤ 64) : ∃ p, Cmp d p ∧ PyData.eqv p p = true := by
  obtain ⟨p, p1, p2, p3⟩ := plain_py n d h
  refine ⟨p, ⟨p1, ?_⟩, SeqAt.eqv_refl p p2⟩
  unfold SeqAt.shaped
  rw [p2, decide_eq_true (by omega)]
  rfl
theorem plain_lst {n : Nat} {xs : List D} (h1 : xs.length ≤ sizeLine) (h2 : ∀ x ∈ xs, x.plain n = true) : (D.lst xs).plain (n + 1) = true := by
  show (decide (xs.length ≤ sizeLine) && xs.all (D.plain n)) = true
  rw [decide_eq_true h1, List.all_eq_true.mpr h2]
  rfl
theorem plain_tup {n : Nat} {xs : List D} (h1 : xs.length ≤ sizeLine) (h2 : ∀ x ∈ xs, x.plain n = true) : (D.tup xs).plain (n + 1) = true := by
  show (decide (xs.length ≤ sizeLine) && xs.all (D.plain n)) = true
  rw [decide_eq_true h1, List.all_eq_true.mpr h2]
  rfl
theorem plain_int {n : Nat} {i : Int} : (D.int i).plain n = true := by cases n <;> rfl
theorem plain_ints {n : Nat} {xs : List Int} (h : xs.length ≤ sizeLine) : (D.lst (xs.map .int)).plain (n + 1) = true := plain_lst (by rw [List.length_map]; exact h) fun x hx => by
  obtain ⟨i, _, rfl⟩ := List.mem_map.mp hx
  exact plain_int
/-! ### values -/
/-- the greatest common divisor, by remainders -/
theorem gcd_step {x y : Int} (hy : 0 < y) (hx : 0 ≤ x) : Int.gcd y (x.fmod y) = Int.gcd x y := by
  rw [Int.fmod_eq_emod_of_nonneg _ (by omega)]
  have h1 : (x % y).natAbs = x.natAbs % y.natAbs := by
    obtain ⟨a, rfl⟩ := Int.eq_ofNat_of_zero_le hx
    obtain ⟨b, rfl⟩ := Int.eq_ofNat_of_zero_le (Int.le_of_lt hy)
    rfl
  unfold Int.gcd
  rw [h1, Nat.gcd_comm x.natAbs, Nat.gcd_rec y.natAbs x.natAbs, Nat.gcd_comm]
theorem gcd_abs {a b : Int} : Int.gcd (if a < 0 then -a else a) (if b < 0 then -b else b) = Int.gcd a b := by
  unfold Int.gcd
  congr 1 <;> split <;> omega
theorem gcd_zero' {x : Int} (hx : 0 ≤ x) : (Int.gcd x 0 : Int) = x := by
  unfold Int.gcd
  rw [show (0 : Int).natAbs = 0 from rfl, Nat.gcd_zero_right]
  omega
def valF (n d : Int) : Int × Int := ((n.fmod d).fdiv (Int.gcd (n.fmod d) d), d.fdiv (Int.gcd (n.fmod d) d))
def vD (a : Int × Int) : D := .tup [.int a.1, .int a.2]
/-- a value of less than k bits -/
def VB (k : Nat) (a : Int × Int) : Prop := 0 ≤ a.1 ∧ a.1 < a.2 ∧ a.2 < 2 ^ k
theorem VB.mono {j k : Nat} {a : Int × Int} (h : VB j a) (l : j ≤ k) : VB k a := by
  have e : (2 : Int) ^ j ≤ 2 ^ k := by
    have := Nat.pow_le_pow_right (n := 2) (by decide) l
    exact_mod_cast this
  exact ⟨h.1, h.2.1, by have := h.2.2; omega⟩
theorem gcd_pos {n d : Int} (hd : 1 ≤ d) : 1 ≤ (Int.gcd n d : Int) := by
  have : 0 < Int.gcd n d := Int.gcd_pos_of_ne_zero_right _ (by omega)
  omega
theorem gcd_le {n d : Int} (hd : 1 ≤ d) : (Int.gcd n d : Int) ≤ d := Int.le_of_dvd (by omega) (Int.gcd_dvd_right ..)
theorem valF_ok {n d : Int} {k : Nat} (hd : 1 ≤ d) (hk : d < 2 ^ k) : VB k (valF n d) := by
  have h0 := Int.fmod_nonneg_of_pos n (show 0 < d by omega)
  have h1 := Int.fmod_lt_of_pos n (show 0 < d by omega)
  have g1 := gcd_pos (n := n.fmod d) hd
  have d1 : (Int.gcd (n.fmod d) d : Int) ∣ n.fmod d := Int.gcd_dvd_left ..
  have d2 : (Int.gcd (n.fmod d) d : Int) ∣ d := Int.gcd_dvd_right ..
  unfold valF VB
  generalize (Int.gcd (n.fmod d) d : Int) = g at *
  obtain ⟨a, ha⟩ := d1
  obtain ⟨b, hb⟩ := d2
  have ea : (n.fmod d).fdiv g = a := by
    rw [ha]
    exact Int.mul_fdiv_cancel_left _ (by omega)
  have eb : d.fdiv g = b := by
    rw [hb]
    exact Int.mul_fdiv_cancel_left _ (by omega)
  show 0 ≤ (n.fmod d).fdiv g ∧ (n.fmod d).fdiv g < d.fdiv g ∧ d.fdiv g < 2 ^ k
  rw [ea, eb]
  rw [ha] at h0 h1
  have ha0 : 0 ≤ a := by
    rcases Int.lt_or_le a 0 with z | z
    · have := Int.mul_neg_of_pos_of_neg (show 0 < g by omega) z
      omega
    · exact z
  have hab : a < b := by
    rw [hb] at h1
    exact Int.lt_of_mul_lt_mul_left h1 (by omega)
  refine ⟨ha0, hab, ?_⟩
  have : b ≤ g * b := by
    have := Int.mul_le_mul_of_nonneg_right g1 (show 0 ≤ b by omega)
    rwa [Int.one_mul] at this
  omega
/-- less than so many bits -/
theorem VB.den {k : Nat} {a : Int × Int} (h : VB k a) : a.2.natAbs < 2 ^ k := by
  have e : ((2 : Nat) ^ k : Nat) = ((2 : Int) ^ k) := by push_cast; rfl
  have h1 := h.1
  have h2 := h.2.1
  have h3 := h.2.2
  rw [← e] at h3
  omega
theorem VB.num {k : Nat} {a : Int × Int} (h : VB k a) : a.1.natAbs < 2 ^ k := by
  have := h.den
  have h1 := h.1
  have h2 := h.2.1
  omega
def plF (a b : Int × Int) : Int × Int := valF (a.1 * b.2 + b.1 * a.2) (a.2 * b.2)
def muF (n : Int) (a : Int × Int) : Int × Int := valF (n * a.1) a.2
theorem two_add {j k : Nat} : (2 : Int) ^ j * 2 ^ k = 2 ^ (j + k) := by rw [Int.pow_add]
theorem plF_ok {j k : Nat} {a b : Int × Int} (ha : VB j a) (hb : VB k b) : VB (j + k) (plF a b) := by
  have p : 0 < a.2 := by have := ha.1; have := ha.2.1; omega
  have q : 0 < b.2 := by have := hb.1; have := hb.2.1; omega
  refine valF_ok ?_ ?_
  · have := Int.mul_pos p q
    omega
  · rw [← two_add]
    exact Int.lt_of_lt_of_le (Int.mul_lt_mul_of_pos_right ha.2.2 q) (Int.mul_le_mul_of_nonneg_left (Int.le_of_lt hb.2.2) (Int.le_of_lt (Int.pow_pos (by decide))))
theorem muF_ok {k : Nat} {n : Int} {a : Int × Int} (ha : VB k a) : VB k (muF n a) := valF_ok (by have := ha.1; have := ha.2.1; omega) ha.2.2
/-- a sum of multiples -/
def weF (r : Int × Int) : List (Int × (Int × Int)) → Int × Int
  | [] => r
  | p :: l => weF (plF r (muF p.1 p.2)) l
theorem vD_plain {a : Int × Int} {n : Nat} : (vD a).plain (n + 1) = true := by
  have e : (D.int a.1).plain n = true ∧ (D.int a.2).plain n = true := by cases n <;> exact ⟨rfl, rfl⟩
  have h := sizeLine_eq
  simp [vD, D.plain, e.1, e.2, h]
end QL
namespace QL
open PySem PySem.Spec PyProof.Rows L2
def top (i : Nat) : Stmt := PySem.Challenge.pw_rowlaws_k02_weighed_sums.main.body.getD i (.Pass ⟨0, 0, 0, 0⟩)
def d__law_source : He.DefD := ⟨("_law_source", none), "_law_source", "_law_source", defArgs (top 11), defBody (top 11), defScope (top 11), [], []⟩
def d__law_draw : He.DefD := ⟨("_law_draw", none), "_law_draw", "_law_draw", defArgs (top 12), defBody (top 12), defScope (top 12), [], []⟩
def d__law_choice : He.DefD := ⟨("_law_choice", none), "_law_choice", "_law_choice", defArgs (top 13), defBody (top 13), defScope (top 13), [], []⟩
def d__law_divisor : He.DefD := ⟨("_law_divisor", none), "_law_divisor", "_law_divisor", defArgs (top 15), defBody (top 15), defScope (top 15), [], []⟩
def d__law_value : He.DefD := ⟨("_law_value", none), "_law_value", "_law_value", defArgs (top 16), defBody (top 16), defScope (top 16), [], []⟩
def d__law_some_value : He.DefD := ⟨("_law_some_value", none), "_law_some_value", "_law_some_value", defArgs (top 20), defBody (top 20), defScope (top 20), [], []⟩
def d__law_equal : He.DefD := ⟨("_law_equal", none), "_law_equal", "_law_equal", defArgs (top 14), defBody (top 14), defScope (top 14), [], []⟩
def d__law_plus : He.DefD := ⟨("_law_plus", none), "_law_plus", "_law_plus", defArgs (top 17), defBody (top 17), defScope (top 17), [], []⟩
def d__law_multiple : He.DefD := ⟨("_law_multiple", none), "_law_multiple", "_law_multiple", defArgs (top 18), defBody (top 18), defScope (top 18), [], []⟩
def d__law_weighed : He.DefD := ⟨("_law_weighed", none), "_law_weighed", "_law_weighed", defArgs (top 19), defBody (top 19), defScope (top 19), [], []⟩
def d_divisor_of : He.DefD := ⟨("divisor_of", none), "divisor_of", "divisor_of", defArgs (top 5), defBody (top 5), defScope (top 5), [], []⟩
def d_value : He.DefD := ⟨("value", none), "value", "value", defArgs (top 6), defBody (top 6), defScope (top 6), [.int 1], []⟩
def d_plus : He.DefD := ⟨("plus", none), "plus", "plus", defArgs (top 7), defBody (top 7), defScope (top 7), [], []⟩
def d_multiple : He.DefD := ⟨("multiple", none), "multiple", "multiple", defArgs (top 8), defBody (top 8), defScope (top 8), [], []⟩
def d_weighed : He.DefD := ⟨("weighed", none), "weighed", "weighed", defArgs (top 9), defBody (top 9), defScope (top 9), [], [("offset", .int 0)]⟩
def d_law : He.DefD := ⟨("law", none), "law", "law", defArgs (top 21), defBody (top 21), defScope (top 21), [], []⟩
def fn : List He.DefD := [d__law_source, d__law_draw, d__law_choice, d__law_divisor, d__law_value, d__law_some_value, d__law_equal, d__law_plus, d__law_multiple, d__law_weighed, d_divisor_of, d_value, d_plus, d_multiple, d_weighed, d_law]
def fa : List He.Fa := [.glo "_law_source", .free "range", .glo "_law_draw", .glo "_law_some_value", .free "list", .free "len", .free "min", .glo "_law_weighed", .glo "weighed", .glo "_law_equal", .free "tuple", .glo "_law_choice", .glo "_law_value", .glo "_law_divisor", .free "abs", .free "isinstance", .free "zip", .free "all", .free "bool", .free "int", .free "str", .glo "_law_multiple", .glo "_law_plus", .glo "ZERO", .glo "multiple", .glo "plus", .glo "value", .glo "divisor_of", .glo "law"]
def xb : List (PySem.W.Frag → Bool) := [fun K => He.tupB K "ZERO" [.int 0, .int 1]]
def names0 : List Str := ["LawError", "InvalidCount", "ZERO", "divisor_of", "value", "plus", "multiple", "weighed", "_law_source", "_law_draw", "_law_choice", "_law_equal", "_law_divisor", "_law_value", "_law_plus", "_law_multiple", "_law_weighed", "_law_some_value"]
def names : List Str := names0
section
variable {P : Program} {wd : World} {K : PySem.W.Frag} {mg : Str → Option Value} {base : Heap}
/-! ### _law_source -/
abbrev s__law_source : Stmt := top 11
abbrev N__law_source : List Str := ["_law_script", "_law_seed", "_law_cell"]
theorem S__law_source : FnScope N__law_source ["_law_script"] (defScope s__law_source) := ⟨rfl, rfl, rfl, by decide +kernel, rfl, by decide +kernel, by decide +kernel⟩
def C__law_source : FQ := fun _ ds ob P => ∃ ns : List Int, ds = [.frl (ns.map .int)] ∧ ∀ o, RngO o → P (.ref ob.length) (ob ++ [o])
def B1__law_source : QS :=
    qSet 1 (qOp oMod (qOp oAdd (qOp oAdd (qOp oMul (qVar 1) (qC (.int 48271))) (qOp oMod (qVar 2) (qC (.int 2147483563)))) (qC (.int 43))) (qC (.int 2147483563)))
def Q__law_source : QS :=
    qSeq (qSet 1 (qOp oAdd (qC (.int 9496)) (qOp oMul (qC (.int 61)) (qCB oLen (qCons (qSl (qVar 0) (qNoPart) (qPart (qC (.int 63)))) (qNil))))))
    (qSeq (qFor (iqSeq (qSl (qVar 0) (qNoPart) (qPart (qC (.int 63))))) (gqName 2) (B1__law_source))
    (qRet (qLstO (qCons (qOfL (qCBL oList (qCons (qSl (qVar 0) (qNoPart) (qPart (qC (.int 63)))) (qNil)))) (qCons (qC (.int 0)) (qCons (qC (.int 0)) (qCons (qVar 1) (qNil))))))))
theorem W__law_source (T : Txt fa fn xb K mg)  : FOk P wd K mg base (1) d__law_source ["_law_script"] (fqOf N__law_source (Q__law_source)) := by
  obtain ⟨fd, F⟩ := T.s.c.def_ 0 (d := d__law_source) rfl
  exact ⟨fd, F, fq_ok F S__law_source (by decide) fun cdv A outer s H E B =>
    qss_cons (qs_set (i := 1) S__law_source.nd rfl (by first | exact Or.inl rfl | exact Or.inr rfl) (q_add (q_int) (q_mul (q_int) (q_len rfl (T.fre 5 "len" rfl) (qa_cons (q_sl (q_var 0) (qo_none) (qo_some (q_int))) (qa_nil))))))
    (qss_cons (qs_for B.hp B.hc (qi_seq (q_sl (q_var 0) (qo_none) (qo_some (q_int)))) (qg_name 2 S__law_source.nd) (qss_one (qs_set (i := 1) S__law_source.nd rfl (by first | exact Or.inl rfl | exact Or.inr rfl) (q_mod (q_add (q_add (q_mul (q_var 1) (q_int)) (q_mod (q_var 2) (q_int))) (q_int)) (q_int)))))
    (qss_one (qs_ret (q_lstO (qa_cons (q_ofL (ql_list rfl (T.fre 4 "list" rfl) (qa_cons (q_sl (q_var 0) (qo_none) (qo_some (q_int))) (qa_nil)))) (qa_cons (q_int) (qa_cons (q_int) (qa_cons (q_var 1) (qa_nil)))))))))⟩
theorem source_loop {EX : EXG} {E : QEnd} {d0 : D} {ob : List Ob} : ∀ (xs : List Int) (s : Int) (t : Slot), 0 ≤ s → s < 2147483563 → (∀ s t, 0 ≤ s → s < 2147483563 → E.nx ⟨[.va d0, .va (.int s), t], ob⟩) →
    qLoop (gqName 2) (qSet 1 (qOp oMod (qOp oAdd (qOp oAdd (qOp oMul (qVar 1) (qC (.int 48271))) (qOp oMod (qVar 2) (qC (.int 2147483563)))) (qC (.int 43))) (qC (.int 2147483563)))) EX E (xs.map .int) ⟨[.va d0, .va (.int s), t], ob⟩
  | [], s, t, h0, h1, hE => hE s t h0 h1
  | x :: xs, s, t, h0, h1, hE => by
    refine ⟨ltn rfl, cmul 32 32 (by omega) (by decide) (by decide), ne0 rfl, ne0 rfl, ltn rfl, ?_⟩
    exact source_loop xs _ _ (Int.fmod_nonneg_of_pos _ (by decide)) (Int.fmod_lt_of_pos _ (by decide)) hE
theorem I__law_source : ∀ EX ds ob R, ds.length = 1 → C__law_source EX ds ob R → fqOf N__law_source Q__law_source EX ds ob R := by
  rintro EX ds ob R - ⟨ns, rfl, hR⟩
  have hl : ((cutD (ns.map D.int) none (some 63)).length : Int) ≤ 63 := by
    rw [cut_map, List.length_map]
    have := cut_len63 (xs := ns)
    omega
  refine ⟨cmul 32 32 (by decide) (by omega) (by decide), ltn rfl, ?_⟩
  show qLoop _ _ _ _ (cutD (ns.map D.int) none (some 63)) ⟨[.va (.frl (ns.map D.int)), .va (.int (9496 + 61 * ((cutD (ns.map D.int) none (some 63)).length : Int))), .un], ob⟩
  have h0 : 0 ≤ 9496 + 61 * ((cutD (ns.map D.int) none (some 63)).length : Int) := by omega
  have h1 : 9496 + 61 * ((cutD (ns.map D.int) none (some 63)).length : Int) < 2147483563 := by omega
  generalize 9496 + 61 * ((cutD (ns.map D.int) none (some 63)).length : Int) = s at h0 h1
  rw [cut_map]
  refine source_loop _ _ _ h0 h1 fun s t h0 h1 => ⟨szl rfl, ?_⟩
  refine hR _ ⟨cutL ns none (some 63), 0, 0, s, ?_, by decide, h0, h1⟩
  show Ob.lst [.lst (cutD (ns.map D.int) none (some 63)), _, _, _] = _
  rw [cut_map]
theorem ok__law_source (T : Txt fa fn xb K mg) : FOk P wd K mg base 1 d__law_source ["_law_script"] C__law_source := (W__law_source T).imp I__law_source
/-! ### _law_draw -/
abbrev s__law_draw : Stmt := top 12
abbrev N__law_draw : List Str := ["_law_rng", "_law_many", "_law_cell", "_law_got", "_law_seed"]
theorem S__law_draw : FnScope N__law_draw ["_law_rng", "_law_many"] (defScope s__law_draw) := ⟨rfl, rfl, rfl, by decide +kernel, rfl, by decide +kernel, by decide +kernel⟩
def C__law_draw : FQ := fun _ ds ob P => ∃ (r : Nat) (m : Int), ds = [.ref r, .int m] ∧ 1 ≤ m ∧ m.natAbs.log2 < 9000 ∧ RngAt ob r ∧ ∀ z o, 0 ≤ z → z < m → RngO o → P (.int z) (ob.set r o)
def Q__law_draw : QS :=
    qSeq (qIfS (qAnd (qTest (qOp (oEq) (qOp oIx (qVar 0) (qC (.int 2))) (qC (.int 0)))) (qTest (qOp (oLt) (qOp oIx (qVar 0) (qC (.int 1))) (qCB oLen (qCons (qOp oIx (qVar 0) (qC (.int 0))) (qNil)))))) (qSeq (qSet 2 (qOp oIx (qOp oIx (qVar 0) (qC (.int 0))) (qOp oIx (qVar 0) (qC (.int 1)))))
    (qSeq (qSetIx 0 (qC (.int 1)) (qOp oAdd (qOp oIx (qVar 0) (qC (.int 1))) (qC (.int 1))))
    (qIfS (qTest (qOp (oGe) (qVar 2) (qOp oPow (qC (.int 10)) (qC (.int 18))))) (qSetIx 0 (qC (.int 2)) (qVar 2)) (qSetIx 0 (qC (.int 3)) (qOp oMod (qOp oAdd (qOp oAdd (qOp oMul (qOp oIx (qVar 0) (qC (.int 3))) (qC (.int 40692))) (qOp oMul (qOp oMod (qVar 2) (qC (.int 2147483563))) (qC (.int 71)))) (qOp oIx (qVar 0) (qC (.int 1)))) (qC (.int 2147483563))))))) (qNext))
    (qSeq (qIfS (qTest (qOp (oGt) (qOp oIx (qVar 0) (qC (.int 2))) (qC (.int 0)))) (qSeq (qSet 3 (qOp oMod (qOp oIx (qVar 0) (qC (.int 2))) (qVar 1)))
    (qSeq (qSetIx 0 (qC (.int 2)) (qOp oDiv (qOp oIx (qVar 0) (qC (.int 2))) (qVar 1)))
    (qRet (qVar 3)))) (qNext))
    (qSeq (qSet 4 (qOp oIx (qVar 0) (qC (.int 3))))
    (qSeq (qSetIx 0 (qC (.int 3)) (qOp oMod (qOp oAdd (qOp oAdd (qOp oMul (qVar 4) (qVar 4)) (qOp oMul (qVar 4) (qC (.int 40129)))) (qC (.int 70003))) (qC (.int 2147483563))))
    (qRet (qOp oMod (qOp oAdd (qOp oDiv (qOp oIx (qVar 0) (qC (.int 3))) (qC (.int 61))) (qOp oMul (qOp oMod (qOp oIx (qVar 0) (qC (.int 3))) (qC (.int 8117))) (qC (.int 233)))) (qVar 1))))))
theorem W__law_draw (T : Txt fa fn xb K mg)  : FOk P wd K mg base (1) d__law_draw ["_law_rng", "_law_many"] (fqOf N__law_draw (Q__law_draw)) := by
  obtain ⟨fd, F⟩ := T.s.c.def_ 1 (d := d__law_draw) rfl
  exact ⟨fd, F, fq_ok F S__law_draw (by decide) fun cdv A outer s H E B =>
    qss_cons (qs_if (qw_pt (qw_and (qt_eq B (q_ix (q_var 0) (q_int)) (q_int)) (qw_and1 (qt_lt (q_ix (q_var 0) (q_int)) (q_len rfl (T.fre 5 "len" rfl) (qa_cons (q_ix (q_var 0) (q_int)) (qa_nil))))))) (qss_cons (qs_set (i := 2) S__law_draw.nd rfl (by first | exact Or.inl rfl | exact Or.inr rfl) (q_ix (q_ix (q_var 0) (q_int)) (q_ix (q_var 0) (q_int))))
    (qss_cons (qs_setIx 0 rfl (by first | exact Or.inl rfl | exact Or.inr (Or.inl rfl)) (q_add (q_ix (q_var 0) (q_int)) (q_int)) (q_int))
    (qss_one (qs_if (qt_ge (q_var 2) (q_pow (q_int) (q_int))) (qss_one (qs_setIx 0 rfl (by first | exact Or.inl rfl | exact Or.inr (Or.inl rfl)) (q_var 2) (q_int))) (qss_one (qs_setIx 0 rfl (by first | exact Or.inl rfl | exact Or.inr (Or.inl rfl)) (q_mod (q_add (q_add (q_mul (q_ix (q_var 0) (q_int)) (q_int)) (q_mul (q_mod (q_var 2) (q_int)) (q_int))) (q_ix (q_var 0) (q_int))) (q_int)) (q_int))))))) (qss_nil))
    (qss_cons (qs_if (qt_gt (q_ix (q_var 0) (q_int)) (q_int)) (qss_cons (qs_set (i := 3) S__law_draw.nd rfl (by first | exact Or.inl rfl | exact Or.inr rfl) (q_mod (q_ix (q_var 0) (q_int)) (q_var 1)))
    (qss_cons (qs_setIx 0 rfl (by first | exact Or.inl rfl | exact Or.inr (Or.inl rfl)) (q_fdiv (q_ix (q_var 0) (q_int)) (q_var 1)) (q_int))
    (qss_one (qs_ret (q_var 3))))) (qss_nil))
    (qss_cons (qs_set (i := 4) S__law_draw.nd rfl (by first | exact Or.inl rfl | exact Or.inr rfl) (q_ix (q_var 0) (q_int)))
    (qss_cons (qs_setIx 0 rfl (by first | exact Or.inl rfl | exact Or.inr (Or.inl rfl)) (q_mod (q_add (q_add (q_mul (q_var 4) (q_var 4)) (q_mul (q_var 4) (q_int))) (q_int)) (q_int)) (q_int))
    (qss_one (qs_ret (q_mod (q_add (q_fdiv (q_ix (q_var 0) (q_int)) (q_int)) (q_mul (q_mod (q_ix (q_var 0) (q_int)) (q_int)) (q_int))) (q_var 1)))))))⟩
theorem draw_tail {EX : EXG} {E : QEnd} {sl2 : Slot} {s4 : Slot} {r : Nat} {m : Int} {ob ob0 : List Ob} {cs : List Int} {p c s : Int} {R : D → List Ob → Prop} (hm : 1 ≤ m) (hl : m.natAbs.log2 < 9000) (hr : r < ob0.length) (hob : ob = ob0.set r (.lst [.lst (cs.map .int), .int p, .int c, .int s]))
    (hp : 0 ≤ p) (hs0 : 0 ≤ s) (hs1 : s < 2147483563) (hR : ∀ z o, 0 ≤ z → z < m → RngO o → R (.int z) (ob0.set r o)) (hE : ∀ d Γ, R d Γ.ob → E.rt d Γ) :
    qSeq (qIfS (qTest (qOp (oGt) (qOp oIx (qVar 0) (qC (.int 2))) (qC (.int 0)))) (qSeq (qSet 3 (qOp oMod (qOp oIx (qVar 0) (qC (.int 2))) (qVar 1)))
    (qSeq (qSetIx 0 (qC (.int 2)) (qOp oDiv (qOp oIx (qVar 0) (qC (.int 2))) (qVar 1)))
    (qRet (qVar 3)))) (qNext))
    (qSeq (qSet 4 (qOp oIx (qVar 0) (qC (.int 3))))
    (qSeq (qSetIx 0 (qC (.int 3)) (qOp oMod (qOp oAdd (qOp oAdd (qOp oMul (qVar 4) (qVar 4)) (qOp oMul (qVar 4) (qC (.int 40129)))) (qC (.int 70003))) (qC (.int 2147483563))))
    (qRet (qOp oMod (qOp oAdd (qOp oDiv (qOp oIx (qVar 0) (qC (.int 3))) (qC (.int 61))) (qOp oMul (qOp oMod (qOp oIx (qVar 0) (qC (.int 3))) (qC (.int 8117))) (qC (.int 233)))) (qVar 1))))) EX E ⟨[.va (.ref r), .va (.int m), sl2, .un, s4], ob⟩ := by
  have g : ∀ o, (ob0.set r o)[r]? = some o := fun o => List.getElem?_set_self hr
  have g2 : ∀ o o', (ob0.set r o).set r o' = ob0.set r o' := fun o o' => List.set_set ..
  subst hob
  refine ⟨_, g _, _, rfl, qB_i (fun h => ?_) fun h => ?_⟩
  · refine ⟨_, g _, _, rfl, by omega, ltn rfl, ?_⟩
    refine ⟨_, g _, _, rfl, ⟨by omega, hl⟩, ⟨_, rfl, rfl⟩, _, 2, g _, rfl, ?_⟩
    refine hE _ _ ?_
    show R _ ((ob0.set r _).set r _)
    rw [g2]
    refine hR _ _ (Int.fmod_nonneg_of_pos _ (by omega)) (Int.fmod_lt_of_pos _ (by omega)) ⟨cs, p, c.fdiv m, s, rfl, hp, hs0, hs1⟩
  · refine ⟨_, g _, _, rfl, ltn rfl, ?_⟩
    refine ⟨cmul 32 32 (by omega) (by omega) (by decide), cmul 32 32 (by omega) (by decide) (by decide), ne0 rfl, ⟨_, rfl, rfl⟩, _, 3, g _, rfl, ?_⟩
    have n1 := Int.fmod_nonneg_of_pos (s * s + s * 40129 + 70003) (show (0 : Int) < 2147483563 by decide)
    have n2 := Int.fmod_lt_of_pos (s * s + s * 40129 + 70003) (show (0 : Int) < 2147483563 by decide)
    have g3 : ∀ o o', ((ob0.set r o).set r o')[r]? = some o' := fun o o' => by rw [g2, g]
    refine ⟨_, g3 _ _, _, rfl, ⟨ne0 rfl, by decide⟩, ?_⟩
    have n3 := Int.fmod_nonneg_of_pos ((s * s + s * 40129 + 70003).fmod 2147483563) (show (0 : Int) < 8117 by decide)
    have n4 := Int.fmod_lt_of_pos ((s * s + s * 40129 + 70003).fmod 2147483563) (show (0 : Int) < 8117 by decide)
    refine ⟨_, g3 _ _, _, rfl, ne0 rfl, cmul 32 32 ?_ (by decide) (by decide), (by omega : m ≠ 0), ?_⟩
    · show ((s * s + s * 40129 + 70003).fmod 2147483563 |>.fmod 8117).natAbs < _
      omega
    · refine hE _ _ ?_
      show R _ ((ob0.set r _).set r _)
      rw [g2]
      exact hR _ _ (Int.fmod_nonneg_of_pos _ (by omega)) (Int.fmod_lt_of_pos _ (by omega)) ⟨cs, p, c, _, rfl, hp, n1, n2⟩
theorem I__law_draw : ∀ EX ds ob R, ds.length = 2 → C__law_draw EX ds ob R → fqOf N__law_draw Q__law_draw EX ds ob R := by
  rintro EX ds ob R - ⟨r, m, rfl, hm, hl, ⟨o, ho, cs, p, c, s, rfl, hp, hs0, hs1⟩, hR⟩
  have hr := (List.getElem?_eq_some_iff.mp ho).1
  have g : ∀ o, (ob.set r o)[r]? = some o := fun o => List.getElem?_set_self hr
  have g2 : ∀ o o', (ob.set r o).set r o' = ob.set r o' := fun o o' => List.set_set ..
  have g0 : ob = ob.set r (.lst [.lst (cs.map .int), .int p, .int c, .int s]) := by
    rw [List.getElem?_eq_getElem hr] at ho
    rw [← Option.some.inj ho]
    exact (List.set_getElem_self hr).symm
  show qSeq _ _ _ _ ⟨[.va (.ref r), .va (.int m), .un, .un, .un], ob⟩
  refine ⟨_, ho, _, rfl, qB_i (fun h => ?_) fun h => ?_⟩
  · refine ⟨_, ho, _, rfl, _, ho, _, rfl, qB_i (fun h2 => ?_) fun h2 => ?_⟩
    · have h2 : p < ((cs.map D.int).length : Int) := of_decide_eq_true h2
      rw [List.length_map] at h2
      have hpi : p.toNat < cs.length := by omega
      have hget : L2.atI (cs.map D.int) p = some (.int cs[p.toNat]) := by
        have e : (p.toNat : Int) = p := Int.toNat_of_nonneg hp
        have z := atI_nat (xs := cs.map D.int) (i := p.toNat) (x := .int cs[p.toNat]) (by rw [List.getElem?_map, List.getElem?_eq_getElem hpi]; rfl)
        rwa [e] at z
      refine ⟨_, ho, _, rfl, _, ho, _, rfl, _, hget, ltn rfl, ?_⟩
      refine ⟨_, ho, _, rfl, ⟨_, rfl, rfl⟩, _, 1, ho, rfl, ⟨by decide, by decide, by decide⟩, qB_i (fun h3 => ?_) fun h3 => ?_⟩
      · refine ⟨⟨_, rfl, rfl⟩, _, 2, g _, rfl, ?_⟩
        exact draw_tail (p := p + 1) hm hl hr (g2 _ _) (by omega) hs0 hs1 hR fun d Γ h => h
      · have n1 := Int.fmod_nonneg_of_pos cs[p.toNat] (show (0 : Int) < 2147483563 by decide)
        have n2 := Int.fmod_lt_of_pos cs[p.toNat] (show (0 : Int) < 2147483563 by decide)
        refine ⟨_, g _, _, rfl, cmul 32 32 (by omega) (by decide) (by decide), ne0 rfl, cmul (i := cs[p.toNat].fmod 2147483563) 32 32 (by omega) (by decide) (by decide), _, g _, _, rfl, ne0 rfl, ⟨_, rfl, rfl⟩, _, 3, g _, rfl, ?_⟩
        exact draw_tail (p := p + 1) hm hl hr (g2 _ _) (by omega) (Int.fmod_nonneg_of_pos _ (by decide)) (Int.fmod_lt_of_pos _ (by decide)) hR fun d Γ h => h
    · exact draw_tail hm hl hr g0 hp hs0 hs1 hR fun d Γ h => h
  · exact draw_tail hm hl hr g0 hp hs0 hs1 hR fun d Γ h => h
theorem ok__law_draw (T : Txt fa fn xb K mg) : FOk P wd K mg base 1 d__law_draw ["_law_rng", "_law_many"] C__law_draw := (W__law_draw T).imp I__law_draw
/-! ### _law_choice -/
abbrev s__law_choice : Stmt := top 13
abbrev N__law_choice : List Str := ["_law_rng", "_law_some"]
theorem S__law_choice : FnScope N__law_choice ["_law_rng", "_law_some"] (defScope s__law_choice) := ⟨rfl, rfl, rfl, by decide +kernel, rfl, by decide +kernel, by decide +kernel⟩
def C__law_choice : FQ := fun _ ds ob P => ∃ (r : Nat) (d : D) (xs : List D), ds = [.ref r, d] ∧ (d = .lst xs ∨ d = .tup xs) ∧ 0 < xs.length ∧ xs.length ≤ 100000000 ∧ RngAt ob r ∧ ∀ x o, x ∈ xs → RngO o → P x (ob.set r o)
def Q__law_choice : QS :=
    qRet (qOp oIx (qVar 1) (qCall 2 C__law_draw [] (qCons (qVar 0) (qCons (qCB oLen (qCons (qVar 1) (qNil))) (qNil)))))
theorem W__law_choice (T : Txt fa fn xb K mg) (h0 : FOk P wd K mg base 1 d__law_draw ["_law_rng", "_law_many"] C__law_draw) : FOk P wd K mg base (2) d__law_choice ["_law_rng", "_law_some"] (fqOf N__law_choice (Q__law_choice)) := by
  obtain ⟨fd, F⟩ := T.s.c.def_ 2 (d := d__law_choice) rfl
  obtain ⟨fd0, F0, G0⟩ := h0
  have b0_2 : Binds K fd0 ["_law_rng", "_law_many"] [] := F0.bindsN fun _ _ _ _ _ _ us hl => match us, hl with | [_, _], _ => rfl
  exact ⟨fd, F, fq_ok F S__law_choice (by decide) fun cdv A outer s H E B =>
    qss_one (qs_ret (q_ix (q_var 1) (q_call (F := C__law_draw) B G0 (by decide) rfl (T.glo 2 "_law_draw" rfl) F0.kp b0_2 .nil (fun _ _ _ => rfl) (qa_cons (q_var 0) (qa_cons (q_len rfl (T.fre 5 "len" rfl) (qa_cons (q_var 1) (qa_nil))) (qa_nil))))))⟩
theorem I__law_choice : ∀ EX ds ob R, ds.length = 2 → C__law_choice EX ds ob R → fqOf N__law_choice Q__law_choice EX ds ob R := by
  rintro EX ds ob R - ⟨r, d, xs, rfl, hd, h1, h2, hr, hR⟩
  have hlog : ((xs.length : Int)).natAbs.log2 < 9000 := log_lt 32 (by omega) (by decide)
  have fin : ∀ (z : Int) o, 0 ≤ z → z < (xs.length : Int) → RngO o → ∃ x, L2.atI xs z = some x ∧ R x (ob.set r o) := fun z o z0 z1 ho => by
    have hz : z.toNat < xs.length := by omega
    have e : (z.toNat : Int) = z := Int.toNat_of_nonneg z0
    have g := atI_nat (List.getElem?_eq_getElem hz)
    rw [e] at g
    exact ⟨_, g, hR _ o (List.getElem_mem hz) ho⟩
  rcases hd with rfl | rfl
  · refine ⟨rfl, r, (xs.length : Int), rfl, by omega, hlog, hr, fun z o z0 z1 ho => ?_⟩
    exact fin z o z0 z1 ho
  · refine ⟨rfl, r, (xs.length : Int), rfl, by omega, hlog, hr, fun z o z0 z1 ho => ?_⟩
    exact fin z o z0 z1 ho
theorem ok__law_choice (T : Txt fa fn xb K mg) : FOk P wd K mg base 2 d__law_choice ["_law_rng", "_law_some"] C__law_choice := (W__law_choice T (ok__law_draw T)).imp I__law_choice
/-! ### _law_divisor -/
abbrev s__law_divisor : Stmt := top 15
abbrev N__law_divisor : List Str := ["_law_one", "_law_other"]
theorem S__law_divisor : FnScope N__law_divisor ["_law_one", "_law_other"] (defScope s__law_divisor) := ⟨rfl, rfl, rfl, by decide +kernel, rfl, by decide +kernel, by decide +kernel⟩
def C__law_divisor : FQ := fun _ ds ob P => ∃ a b : Int, ds = [.int a, .int b] ∧ P (.int (Int.gcd a b)) ob
def B1__law_divisor : QS :=
    qPar 0 1 (qCons (qVar 1) (qCons (qOp oMod (qVar 0) (qVar 1)) (qNil)))
def Q__law_divisor : QS :=
    qSeq (qPar 0 1 (qCons (qCB oAbs (qCons (qVar 0) (qNil))) (qCons (qCB oAbs (qCons (qVar 1) (qNil))) (qNil))))
    (qSeq (qWhile (qTest (qOp (oNe) (qVar 1) (qC (.int 0)))) (B1__law_divisor))
    (qRet (qVar 0)))
theorem W__law_divisor (T : Txt fa fn xb K mg)  : FOk P wd K mg base (1) d__law_divisor ["_law_one", "_law_other"] (fqOf N__law_divisor (Q__law_divisor)) := by
  obtain ⟨fd, F⟩ := T.s.c.def_ 3 (d := d__law_divisor) rfl
  exact ⟨fd, F, fq_ok F S__law_divisor (by decide) fun cdv A outer s H E B =>
    qss_cons (qs_par (i := 0) (j := 1) B.hc S__law_divisor.nd rfl rfl (by decide) rfl rfl (qa_cons (q_abs rfl (T.fre 14 "abs" rfl) (qa_cons (q_var 0) (qa_nil))) (qa_cons (q_abs rfl (T.fre 14 "abs" rfl) (qa_cons (q_var 1) (qa_nil))) (qa_nil))) (by rfl))
    (qss_cons (qs_while B.hp (qt_ne B (q_var 1) (q_int)) (qss_one (qs_par (i := 0) (j := 1) B.hc S__law_divisor.nd rfl rfl (by decide) rfl rfl (qa_cons (q_var 1) (qa_cons (q_mod (q_var 0) (q_var 1)) (qa_nil))) (by rfl))))
    (qss_one (qs_ret (q_var 0))))⟩
theorem I__law_divisor : ∀ EX ds ob R, ds.length = 2 → C__law_divisor EX ds ob R → fqOf N__law_divisor Q__law_divisor EX ds ob R := by
  rintro EX ds ob R - ⟨a, b, rfl, hR⟩
  refine ⟨ltn rfl, ltn rfl, fun m Γ => ∃ x y : Int, Γ = ⟨[.va (.int x), .va (.int y)], ob⟩ ∧ 0 ≤ x ∧ 0 ≤ y ∧ Int.gcd x y = Int.gcd a b ∧ m = y.toNat, ⟨_, _, _, rfl, ?_, ?_, gcd_abs, rfl⟩, ?_⟩
  · split <;> omega
  · split <;> omega
  · rintro m Γ ⟨x, y, rfl, hx, hy, hg, rfl⟩
    refine qB_i (fun h => ?_) fun h => ?_
    · have hy0 : y ≠ 0 := by simpa using h
      have n0 := Int.fmod_nonneg_of_pos x (show 0 < y by omega)
      have n1 := Int.fmod_lt_of_pos x (show 0 < y by omega)
      exact ⟨hy0, ltn rfl, ltn rfl, _, by omega, y, x.fmod y, rfl, by omega, n0, (gcd_step (by omega) hx).trans hg, rfl⟩
    · have hy0 : y = 0 := by simpa using h
      subst hy0
      show R (.int x) ob
      have e : x = (Int.gcd a b : Int) := by rw [← hg, gcd_zero' hx]
      rw [e]
      exact hR
theorem ok__law_divisor (T : Txt fa fn xb K mg) : FOk P wd K mg base 1 d__law_divisor ["_law_one", "_law_other"] C__law_divisor := (W__law_divisor T).imp I__law_divisor
/-! ### _law_value -/
abbrev s__law_value : Stmt := top 16
abbrev N__law_value : List Str := ["_law_num", "_law_den", "_law_by"]
theorem S__law_value : FnScope N__law_value ["_law_num", "_law_den"] (defScope s__law_value) := ⟨rfl, rfl, rfl, by decide +kernel, rfl, by decide +kernel, by decide +kernel⟩
def C__law_value : FQ := fun _ ds ob P => ∃ n d : Int, ds = [.int n, .int d] ∧ 1 ≤ d ∧ d < 2 ^ 8900 ∧ P (vD (valF n d)) ob
def Q__law_value : QS :=
    qSeq (qSet 2 (qCall 2 C__law_divisor [] (qCons (qOp oMod (qVar 0) (qVar 1)) (qCons (qVar 1) (qNil)))))
    (qRet (qTup (qCons (qOp oDiv (qOp oMod (qVar 0) (qVar 1)) (qVar 2)) (qCons (qOp oDiv (qVar 1) (qVar 2)) (qNil)))))
theorem W__law_value (T : Txt fa fn xb K mg) (h0 : FOk P wd K mg base 1 d__law_divisor ["_law_one", "_law_other"] C__law_divisor) : FOk P wd K mg base (2) d__law_value ["_law_num", "_law_den"] (fqOf N__law_value (Q__law_value)) := by
  obtain ⟨fd, F⟩ := T.s.c.def_ 4 (d := d__law_value) rfl
  obtain ⟨fd0, F0, G0⟩ := h0
  have b0_2 : Binds K fd0 ["_law_one", "_law_other"] [] := F0.bindsN fun _ _ _ _ _ _ us hl => match us, hl with | [_, _], _ => rfl
  exact ⟨fd, F, fq_ok F S__law_value (by decide) fun cdv A outer s H E B =>
    qss_cons (qs_set (i := 2) S__law_value.nd rfl (by first | exact Or.inl rfl | exact Or.inr rfl) (q_call (F := C__law_divisor) B G0 (by decide) rfl (T.glo 13 "_law_divisor" rfl) F0.kp b0_2 .nil (fun _ _ _ => rfl) (qa_cons (q_mod (q_var 0) (q_var 1)) (qa_cons (q_var 1) (qa_nil)))))
    (qss_one (qs_ret (q_tup (qa_cons (q_fdiv (q_mod (q_var 0) (q_var 1)) (q_var 2)) (qa_cons (q_fdiv (q_var 1) (q_var 2)) (qa_nil))))))⟩
theorem I__law_value : ∀ EX ds ob R, ds.length = 2 → C__law_value EX ds ob R → fqOf N__law_value Q__law_value EX ds ob R := by
  rintro EX ds ob R - ⟨n, d, rfl, h1, h2, hR⟩
  have g1 := gcd_pos (n := n.fmod d) h1
  have g2 := gcd_le (n := n.fmod d) h1
  have hg : ((Int.gcd (n.fmod d) d : Int)).natAbs.log2 < 9000 := log_lt 8900 (pw_nat (by omega) (by omega)) (by decide)
  exact ⟨by omega, rfl, n.fmod d, d, rfl, ltn rfl, by omega, ⟨by omega, hg⟩, ⟨by omega, hg⟩, szl rfl, hR⟩
theorem ok__law_value (T : Txt fa fn xb K mg) : FOk P wd K mg base 2 d__law_value ["_law_num", "_law_den"] C__law_value := (W__law_value T (ok__law_divisor T)).imp I__law_value
/-! ### _law_some_value -/
abbrev s__law_some_value : Stmt := top 20
abbrev N__law_some_value : List Str := ["_law_rng", "_law_den"]
theorem S__law_some_value : FnScope N__law_some_value ["_law_rng"] (defScope s__law_some_value) := ⟨rfl, rfl, rfl, by decide +kernel, rfl, by decide +kernel, by decide +kernel⟩
def C__law_some_value : FQ := fun _ ds ob P => ∃ r : Nat, ds = [.ref r] ∧ RngAt ob r ∧ ∀ v o, VB 20 v → RngO o → P (vD v) (ob.set r o)
def Q__law_some_value : QS :=
    qSeq (qSet 1 (qCall 2 C__law_choice [] (qCons (qVar 0) (qCons (qOfL (qLst (qCons (qC (.int 1)) (qCons (qC (.int 2)) (qCons (qC (.int 3)) (qCons (qC (.int 4)) (qCons (qC (.int 5)) (qCons (qC (.int 6)) (qCons (qC (.int 8)) (qCons (qC (.int 9)) (qCons (qOp oAdd (qC (.int 1)) (qCall 2 C__law_draw [] (qCons (qVar 0) (qCons (qC (.int 30)) (qNil))))) (qCons (qOp oAdd (qC (.int 1)) (qCall 2 C__law_draw [] (qCons (qVar 0) (qCons (qOp oPow (qC (.int 10)) (qC (.int 6))) (qNil))))) (qNil))))))))))))) (qNil)))))
    (qRet (qCall 2 C__law_value [] (qCons (qCall 2 C__law_draw [] (qCons (qVar 0) (qCons (qVar 1) (qNil)))) (qCons (qVar 1) (qNil)))))
theorem W__law_some_value (T : Txt fa fn xb K mg) (h0 : FOk P wd K mg base 2 d__law_choice ["_law_rng", "_law_some"] C__law_choice) (h1 : FOk P wd K mg base 1 d__law_draw ["_law_rng", "_law_many"] C__law_draw) (h2 : FOk P wd K mg base 2 d__law_value ["_law_num", "_law_den"] C__law_value) : FOk P wd K mg base (3) d__law_some_value ["_law_rng"] (fqOf N__law_some_value (Q__law_some_value)) := by
  obtain ⟨fd, F⟩ := T.s.c.def_ 5 (d := d__law_some_value) rfl
  obtain ⟨fd0, F0, G0⟩ := h0
  obtain ⟨fd1, F1, G1⟩ := h1
  obtain ⟨fd2, F2, G2⟩ := h2
  have b0_2 : Binds K fd0 ["_law_rng", "_law_some"] [] := F0.bindsN fun _ _ _ _ _ _ us hl => match us, hl with | [_, _], _ => rfl
  have b1_2 : Binds K fd1 ["_law_rng", "_law_many"] [] := F1.bindsN fun _ _ _ _ _ _ us hl => match us, hl with | [_, _], _ => rfl
  have b2_2 : Binds K fd2 ["_law_num", "_law_den"] [] := F2.bindsN fun _ _ _ _ _ _ us hl => match us, hl with | [_, _], _ => rfl
  exact ⟨fd, F, fq_ok F S__law_some_value (by decide) fun cdv A outer s H E B =>
    qss_cons (qs_set (i := 1) S__law_some_value.nd rfl (by first | exact Or.inl rfl | exact Or.inr rfl) (q_call (F := C__law_choice) B G0 (by decide) rfl (T.glo 11 "_law_choice" rfl) F0.kp b0_2 .nil (fun _ _ _ => rfl) (qa_cons (q_var 0) (qa_cons (q_lst (qa_cons (q_int) (qa_cons (q_int) (qa_cons (q_int) (qa_cons (q_int) (qa_cons (q_int) (qa_cons (q_int) (qa_cons (q_int) (qa_cons (q_int) (qa_cons (q_add (q_int) (q_call (F := C__law_draw) B G1 (by decide) rfl (T.glo 2 "_law_draw" rfl) F1.kp b1_2 .nil (fun _ _ _ => rfl) (qa_cons (q_var 0) (qa_cons (q_int) (qa_nil))))) (qa_cons (q_add (q_int) (q_call (F := C__law_draw) B G1 (by decide) rfl (T.glo 2 "_law_draw" rfl) F1.kp b1_2 .nil (fun _ _ _ => rfl) (qa_cons (q_var 0) (qa_cons (q_pow (q_int) (q_int)) (qa_nil))))) (qa_nil)))))))))))) (qa_nil)))))
    (qss_one (qs_ret (q_call (F := C__law_value) B G2 (by decide) rfl (T.glo 12 "_law_value" rfl) F2.kp b2_2 .nil (fun _ _ _ => rfl) (qa_cons (q_call (F := C__law_draw) B G1 (by decide) rfl (T.glo 2 "_law_draw" rfl) F1.kp b1_2 .nil (fun _ _ _ => rfl) (qa_cons (q_var 0) (qa_cons (q_var 1) (qa_nil)))) (qa_cons (q_var 1) (qa_nil))))))⟩
theorem I__law_some_value : ∀ EX ds ob R, ds.length = 1 → C__law_some_value EX ds ob R → fqOf N__law_some_value Q__law_some_value EX ds ob R := by
  rintro EX ds ob R - ⟨r, rfl, hr, hR⟩
  have g2 : ∀ o o', (ob.set r o).set r o' = ob.set r o' := fun o o' => List.set_set ..
  refine ⟨rfl, r, 30, rfl, by decide, by decide, hr, fun z1 o1 a1 b1 c1 => ?_⟩
  refine ⟨⟨by decide, by decide, by decide⟩, rfl, r, 1000000, rfl, by decide, by decide, hr.set c1, fun z2 o2 a2 b2 c2 => ?_⟩
  refine ⟨szl rfl, rfl, r, _, _, rfl, (.inl rfl), ltn rfl, Nat.le_of_ble_eq_true rfl, (hr.set c1).set c2, fun x o3 hx c3 => ?_⟩
  have hd : ∃ d : Int, x = .int d ∧ 1 ≤ d ∧ d ≤ 1000000 := by
    simp only [List.mem_cons, List.not_mem_nil, or_false] at hx
    rcases hx with rfl | rfl | rfl | rfl | rfl | rfl | rfl | rfl | rfl | rfl
    all_goals exact ⟨_, rfl, by omega, by omega⟩
  obtain ⟨d, rfl, d1, d2⟩ := hd
  refine ⟨ltn rfl, rfl, r, d, rfl, d1, log_lt 32 (by omega) (by decide), ((hr.set c1).set c2).set c3, fun z4 o4 a4 b4 c4 => ?_⟩
  refine ⟨rfl, z4, d, rfl, d1, ?_, ?_⟩
  · have := pw (show 20 ≤ 8900 by decide)
    omega
  · show R (vD (valF z4 d)) ((((ob.set r o1).set r o2).set r o3).set r o4)
    rw [g2, g2, g2]
    exact hR _ _ (valF_ok d1 (by omega)) c4
theorem ok__law_some_value (T : Txt fa fn xb K mg) : FOk P wd K mg base 3 d__law_some_value ["_law_rng"] C__law_some_value := (W__law_some_value T (ok__law_choice T) (ok__law_draw T) (ok__law_value T)).imp I__law_some_value
/-! ### _law_equal -/
abbrev s__law_equal : Stmt := top 14
abbrev N__law_equal : List Str := ["_law_result", "_law_expected", "_law_a", "_law_b"]
theorem S__law_equal : FnScope N__law_equal ["_law_result", "_law_expected"] (defScope s__law_equal) := ⟨rfl, rfl, rfl, by decide +kernel, rfl, by decide +kernel, by decide +kernel⟩
def C__law_equal (n : Nat) : FQ := fun _ ds ob P => ∃ (x : D) (k : Nat), ds = [x, x] ∧ n = k + 1 ∧ x.plain k = true ∧ P (.bl true) ob
def E1__law_equal (C_self : FQ) : QE :=
    qCall 2 C_self [] (qCons (qVar 2) (qCons (qVar 3) (qNil)))
def Q__law_equal (C_self : FQ) : QS :=
    qSeq (qIfS (qTest (qUn oIsN (qVar 1))) (qRet (qUn oIsN (qVar 0))) (qNext))
    (qSeq (qIfS (qOr (qTest (qCB oIsi (qCons (qVar 1) (qCons (qC (.ty "list")) (qNil))))) (qTest (qCB oIsi (qCons (qVar 1) (qCons (qC (.ty "tuple")) (qNil)))))) (qSeq (qIfS (qOr (qTest (qOp (oNe) (qCB oIsi (qCons (qVar 0) (qCons (qC (.ty "list")) (qNil)))) (qCB oIsi (qCons (qVar 1) (qCons (qC (.ty "list")) (qNil)))))) (qTest (qOp (oNe) (qCB oIsi (qCons (qVar 0) (qCons (qC (.ty "tuple")) (qNil)))) (qCB oIsi (qCons (qVar 1) (qCons (qC (.ty "tuple")) (qNil))))))) (qRet (qC (.bl false))) (qNext))
    (qRet (qAndV (qOp (oEq) (qCB oLen (qCons (qVar 0) (qNil))) (qCB oLen (qCons (qVar 1) (qNil)))) (qCB oAll (qCons (qOfL (qLc (iqZip (qCons (qVar 0) (qCons (qVar 1) (qNil)))) (gqTup [gqName 2, gqName 3]) (qYes) ((E1__law_equal C_self)) [2, 3])) (qNil)))))) (qNext))
    (qSeq (qIfS (qOr (qTest (qOp (oNe) (qCB oIsi (qCons (qVar 1) (qCons (qC (.ty "bool")) (qNil)))) (qCB oIsi (qCons (qVar 0) (qCons (qC (.ty "bool")) (qNil)))))) (qTest (qOp (oNe) (qCB oIsi (qCons (qVar 1) (qCons (qC (.ty "int")) (qNil)))) (qCB oIsi (qCons (qVar 0) (qCons (qC (.ty "int")) (qNil))))))) (qRet (qC (.bl false))) (qNext))
    (qRet (qAndV (qOp (oEq) (qCB oIsi (qCons (qVar 0) (qCons (qC (.ty "str")) (qNil)))) (qCB oIsi (qCons (qVar 1) (qCons (qC (.ty "str")) (qNil))))) (qOp (oEq) (qVar 0) (qVar 1))))))
theorem W__law_equal {C_self : FQ} {k : Nat} (hk : 0 ≤ k) (T : Txt fa fn xb K mg) (h0 : FOk P wd K mg base k d__law_equal ["_law_result", "_law_expected"] C_self) : FOk P wd K mg base (k + 1) d__law_equal ["_law_result", "_law_expected"] (fqOf N__law_equal (Q__law_equal C_self)) := by
  obtain ⟨fd, F⟩ := T.s.c.def_ 6 (d := d__law_equal) rfl
  obtain ⟨fd0, F0, G0⟩ := h0
  have b0_2 : Binds K fd0 ["_law_result", "_law_expected"] [] := F0.bindsN fun _ _ _ _ _ _ us hl => match us, hl with | [_, _], _ => rfl
  exact ⟨fd, F, fq_ok F S__law_equal (by decide) fun cdv A outer s H E B =>
    qss_cons (qs_if (qt_isN (q_var 1)) (qss_one (qs_ret (q_isN (q_var 0)))) (qss_nil))
    (qss_cons (qs_if (qw_pt (qw_or (qt_val (q_isi rfl (T.fre 15 "isinstance" rfl) (qa_cons (q_var 1) (qa_cons (q_tyn rfl (T.fre 4 "list" rfl) (by decide +kernel)) (qa_nil))))) (qw_or1 (qt_val (q_isi rfl (T.fre 15 "isinstance" rfl) (qa_cons (q_var 1) (qa_cons (q_tyn rfl (T.fre 10 "tuple" rfl) (by decide +kernel)) (qa_nil)))))))) (qss_cons (qs_if (qw_pt (qw_or (qt_ne B (q_isi rfl (T.fre 15 "isinstance" rfl) (qa_cons (q_var 0) (qa_cons (q_tyn rfl (T.fre 4 "list" rfl) (by decide +kernel)) (qa_nil)))) (q_isi rfl (T.fre 15 "isinstance" rfl) (qa_cons (q_var 1) (qa_cons (q_tyn rfl (T.fre 4 "list" rfl) (by decide +kernel)) (qa_nil))))) (qw_or1 (qt_ne B (q_isi rfl (T.fre 15 "isinstance" rfl) (qa_cons (q_var 0) (qa_cons (q_tyn rfl (T.fre 10 "tuple" rfl) (by decide +kernel)) (qa_nil)))) (q_isi rfl (T.fre 15 "isinstance" rfl) (qa_cons (q_var 1) (qa_cons (q_tyn rfl (T.fre 10 "tuple" rfl) (by decide +kernel)) (qa_nil)))))))) (qss_one (qs_ret (q_bl))) (qss_nil))
    (qss_one (qs_ret (q_and (q_eq B (q_len rfl (T.fre 5 "len" rfl) (qa_cons (q_var 0) (qa_nil))) (q_len rfl (T.fre 5 "len" rfl) (qa_cons (q_var 1) (qa_nil)))) (q_one (q_all B rfl (T.fre 17 "all" rfl) (qa_cons (q_ofL (ql_lc (own := [("_law_a", 2), ("_law_b", 3)]) B S__law_equal.nd (qi_zip rfl (T.fre 16 "zip" rfl) (qa_cons (q_var 0) (qa_cons (q_var 1) (qa_nil)))) (blkOk_by (N := N__law_equal) (sc := defScope (s__law_equal)) (by decide +kernel)) (fun _ _ _ _ _ B1 => ⟨qv_tup B1.hc (qvs_cons (qv_name 2 S__law_equal.nd (by decide)) (qvs_cons (qv_name 3 S__law_equal.nd (by decide)) (qvs_nil))) rfl, qts_nil, q_call (F := C_self) B1 G0 (by omega) rfl (T.glo 9 "_law_equal" rfl) F0.kp b0_2 .nil (fun _ _ _ => rfl) (qa_cons (q_var 2) (qa_cons (q_var 3) (qa_nil)))⟩))) (qa_nil)))))))) (qss_nil))
    (qss_cons (qs_if (qw_pt (qw_or (qt_ne B (q_isi rfl (T.fre 15 "isinstance" rfl) (qa_cons (q_var 1) (qa_cons (q_tyn rfl (T.fre 18 "bool" rfl) (by decide +kernel)) (qa_nil)))) (q_isi rfl (T.fre 15 "isinstance" rfl) (qa_cons (q_var 0) (qa_cons (q_tyn rfl (T.fre 18 "bool" rfl) (by decide +kernel)) (qa_nil))))) (qw_or1 (qt_ne B (q_isi rfl (T.fre 15 "isinstance" rfl) (qa_cons (q_var 1) (qa_cons (q_tyn rfl (T.fre 19 "int" rfl) (by decide +kernel)) (qa_nil)))) (q_isi rfl (T.fre 15 "isinstance" rfl) (qa_cons (q_var 0) (qa_cons (q_tyn rfl (T.fre 19 "int" rfl) (by decide +kernel)) (qa_nil)))))))) (qss_one (qs_ret (q_bl))) (qss_nil))
    (qss_one (qs_ret (q_and (q_eq B (q_isi rfl (T.fre 15 "isinstance" rfl) (qa_cons (q_var 0) (qa_cons (q_tyn rfl (T.fre 20 "str" rfl) (by decide +kernel)) (qa_nil)))) (q_isi rfl (T.fre 15 "isinstance" rfl) (qa_cons (q_var 1) (qa_cons (q_tyn rfl (T.fre 20 "str" rfl) (by decide +kernel)) (qa_nil))))) (q_one (q_eq B (q_var 0) (q_var 1))))))))⟩
theorem zip_same : ∀ xs : List D, zipD xs xs = xs.map fun x => .tup [x, x]
  | [] => rfl
  | x :: xs => by
    show D.tup [x, x] :: zipD xs xs = _
    rw [zip_same xs]
    rfl
theorem all_trues : ∀ n : Nat, allB (List.replicate n (.bl true)) = some (List.replicate n true)
  | 0 => rfl
  | n + 1 => by
    rw [List.replicate_succ, List.replicate_succ]
    unfold allB
    rw [all_trues n]
    rfl
theorem equal_loop {n : Nat} {d0 d1 : D} {P : List D → G → Prop} {ob : List Ob} : ∀ (xs : List D) (m : Nat), m + xs.length ≤ sizeLine → (∀ x ∈ xs, x.plain n = true) → P (List.replicate (m + xs.length) (.bl true)) ⟨[.va d0, .va d1, .un, .un], ob⟩ →
    qLcL (gqTup [gqName 2, gqName 3]) qYes (qCall 2 (C__law_equal (n + 1)) [] (qCons (qVar 2) (qCons (qVar 3) qNil))) [2, 3] P (List.replicate m (.bl true)) (xs.map fun x => .tup [x, x]) ⟨[.va d0, .va d1, .un, .un], ob⟩
  | [], m, h1, h2, hP => hP
  | x :: xs, m, h1, h2, hP => by
    rw [List.length_cons] at h1 hP
    refine ⟨rfl, ltn rfl, ltn rfl, rfl, x, n, rfl, rfl, h2 x (List.mem_cons_self ..), by rw [List.length_replicate]; omega, ?_⟩
    have e : List.replicate m (D.bl true) ++ [.bl true] = List.replicate (m + 1) (.bl true) := by rw [List.replicate_succ']
    show qLcL _ _ _ _ _ (List.replicate m (D.bl true) ++ [.bl true]) _ _
    rw [e]
    exact equal_loop xs (m + 1) (by omega) (fun y hy => h2 y (List.mem_cons_of_mem _ hy)) (by rw [show m + 1 + xs.length = m + (xs.length + 1) by omega]; exact hP)
theorem equal_seq {n : Nat} {d0 d1 : D} {xs : List D} {R : D → List Ob → Prop} {ob : List Ob} (h : (decide (xs.length ≤ sizeLine) && xs.all (D.plain n)) = true) (hR : R (.bl true) ob) :
    qLcL (gqTup [gqName 2, gqName 3]) qYes (qCall 2 (C__law_equal (n + 1)) [] (qCons (qVar 2) (qCons (qVar 3) qNil))) [2, 3] (fun bs Γ => ∃ cs, allB bs = some cs ∧ R (.bl (cs.all id)) Γ.ob) [] (zipD xs xs) ⟨[.va d0, .va d1, .un, .un], ob⟩ := by
  obtain ⟨h1, h2⟩ := Bool.and_eq_true_iff.mp h
  rw [zip_same]
  refine equal_loop xs 0 (by have := of_decide_eq_true h1; omega) (List.all_eq_true.mp h2) ⟨_, all_trues _, ?_⟩
  have e : (List.replicate (0 + xs.length) true).all id = true := by simp
  rw [e]
  exact hR
theorem I__law_equal (n : Nat) : ∀ EX ds ob R, ds.length = 2 → C__law_equal (n + 1) EX ds ob R → fqOf N__law_equal (Q__law_equal (C__law_equal n)) EX ds ob R := by
  rintro EX ds ob R - ⟨x, k, rfl, e, hx, hR⟩
  obtain rfl : n = k := by omega
  cases x with
  | non => exact hR
  | bl b =>
    refine ⟨_, _, rfl, rfl, _, _, rfl, rfl, _, _, rfl, rfl, _, _, rfl, rfl, _, _, rfl, rfl, _, _, rfl, rfl, _, _, rfl, rfl, _, _, rfl, rfl, ?_⟩
    show R (.bl (decide (b = b))) ob
    rw [decide_eq_true rfl]
    exact hR
  | int i =>
    refine ⟨_, _, rfl, rfl, _, _, rfl, rfl, _, _, rfl, rfl, _, _, rfl, rfl, _, _, rfl, rfl, _, _, rfl, rfl, _, _, rfl, rfl, _, _, rfl, rfl, ?_⟩
    show R (.bl (decide (i = i))) ob
    rw [decide_eq_true rfl]
    exact hR
  | str s =>
    refine ⟨_, _, rfl, rfl, _, _, rfl, rfl, _, _, rfl, rfl, _, _, rfl, rfl, _, _, rfl, rfl, _, _, rfl, rfl, _, _, rfl, rfl, _, _, rfl, rfl, ?_⟩
    have hs : SeqAt.shaped (.str s) = true := by cases n <;> exact hx
    show _ ∧ _ ∧ R (.bl (decide (s = s))) ob
    rw [decide_eq_true rfl]
    exact ⟨hs, hs, hR⟩
  | lst xs =>
    cases n with
    | zero => cases hx
    | succ m =>
      refine ⟨_, _, rfl, rfl, _, _, rfl, rfl, _, _, rfl, rfl, _, _, rfl, rfl, _, _, rfl, rfl, ?_⟩
      show qB (decide ((xs.length : Int) = (xs.length : Int))) _ _
      rw [decide_eq_true rfl]
      exact equal_seq hx hR
  | tup xs =>
    cases n with
    | zero => cases hx
    | succ m =>
      refine ⟨_, _, rfl, rfl, _, _, rfl, rfl, _, _, rfl, rfl, _, _, rfl, rfl, _, _, rfl, rfl, _, _, rfl, rfl, ?_⟩
      show qB (decide ((xs.length : Int) = (xs.length : Int))) _ _
      rw [decide_eq_true rfl]
      exact equal_seq hx hR
  | _ => cases n <;> cases hx
theorem ok__law_equal (T : Txt fa fn xb K mg) (n : Nat) : FOk P wd K mg base (n + 1) d__law_equal ["_law_result", "_law_expected"] (C__law_equal n) := by
  induction n with
  | zero =>
    obtain ⟨fd, F⟩ := T.s.c.def_ 6 (d := d__law_equal) rfl
    refine ⟨fd, F, F.ok S__law_equal (fun vs H Q E h => spQ_len h) fun cdv A outer s H vs Q E hr h => ?_⟩
    obtain ⟨w, hid, ob, ds, P', EX, h1, h2, h3, ⟨x, k, _, z, _⟩, _⟩ := h
    cases z
  | succ n ih => exact (W__law_equal (by omega) T ih).imp (I__law_equal n)
/-! ### _law_plus -/
abbrev s__law_plus : Stmt := top 17
abbrev N__law_plus : List Str := ["_law_one", "_law_other"]
theorem S__law_plus : FnScope N__law_plus ["_law_one", "_law_other"] (defScope s__law_plus) := ⟨rfl, rfl, rfl, by decide +kernel, rfl, by decide +kernel, by decide +kernel⟩
def C__law_plus : FQ := fun _ ds ob P => ∃ a b : Int × Int, ds = [vD a, vD b] ∧ VB 4000 a ∧ VB 4000 b ∧ P (vD (plF a b)) ob
def Q__law_plus : QS :=
    qRet (qCall 2 C__law_value [] (qCons (qOp oAdd (qOp oMul (qOp oIx (qVar 0) (qC (.int 0))) (qOp oIx (qVar 1) (qC (.int 1)))) (qOp oMul (qOp oIx (qVar 1) (qC (.int 0))) (qOp oIx (qVar 0) (qC (.int 1))))) (qCons (qOp oMul (qOp oIx (qVar 0) (qC (.int 1))) (qOp oIx (qVar 1) (qC (.int 1)))) (qNil))))
theorem W__law_plus (T : Txt fa fn xb K mg) (h0 : FOk P wd K mg base 2 d__law_value ["_law_num", "_law_den"] C__law_value) : FOk P wd K mg base (3) d__law_plus ["_law_one", "_law_other"] (fqOf N__law_plus (Q__law_plus)) := by
  obtain ⟨fd, F⟩ := T.s.c.def_ 7 (d := d__law_plus) rfl
  obtain ⟨fd0, F0, G0⟩ := h0
  have b0_2 : Binds K fd0 ["_law_num", "_law_den"] [] := F0.bindsN fun _ _ _ _ _ _ us hl => match us, hl with | [_, _], _ => rfl
  exact ⟨fd, F, fq_ok F S__law_plus (by decide) fun cdv A outer s H E B =>
    qss_one (qs_ret (q_call (F := C__law_value) B G0 (by decide) rfl (T.glo 12 "_law_value" rfl) F0.kp b0_2 .nil (fun _ _ _ => rfl) (qa_cons (q_add (q_mul (q_ix (q_var 0) (q_int)) (q_ix (q_var 1) (q_int))) (q_mul (q_ix (q_var 1) (q_int)) (q_ix (q_var 0) (q_int)))) (qa_cons (q_mul (q_ix (q_var 0) (q_int)) (q_ix (q_var 1) (q_int))) (qa_nil)))))⟩
theorem I__law_plus : ∀ EX ds ob R, ds.length = 2 → C__law_plus EX ds ob R → fqOf N__law_plus Q__law_plus EX ds ob R := by
  rintro EX ds ob R - ⟨a, b, rfl, h1, h2, hR⟩
  have p : 0 < a.2 := by have := h1.1; have := h1.2.1; omega
  have q : 0 < b.2 := by have := h2.1; have := h2.2.1; omega
  have hpos := Int.mul_pos p q
  have hlt : a.2 * b.2 < 2 ^ 8900 := by
    have z : a.2 * b.2 < 2 ^ (4000 + 4000) := by
      rw [← two_add]
      exact Int.lt_of_lt_of_le (Int.mul_lt_mul_of_pos_right h1.2.2 q) (Int.mul_le_mul_of_nonneg_left (Int.le_of_lt h2.2.2) (Int.le_of_lt (Int.pow_pos (by decide))))
    exact Int.lt_of_lt_of_le z (pw (by decide))
  exact ⟨_, rfl, _, rfl, cmul 4000 4000 h1.num h2.den (by decide), _, rfl, _, rfl, cmul 4000 4000 h2.num h1.den (by decide), _, rfl, _, rfl, cmul 4000 4000 h1.den h2.den (by decide), rfl, _, _, rfl, by omega, hlt, hR⟩
theorem ok__law_plus (T : Txt fa fn xb K mg) : FOk P wd K mg base 3 d__law_plus ["_law_one", "_law_other"] C__law_plus := (W__law_plus T (ok__law_value T)).imp I__law_plus
/-! ### _law_multiple -/
abbrev s__law_multiple : Stmt := top 18
abbrev N__law_multiple : List Str := ["_law_number", "_law_one"]
theorem S__law_multiple : FnScope N__law_multiple ["_law_number", "_law_one"] (defScope s__law_multiple) := ⟨rfl, rfl, rfl, by decide +kernel, rfl, by decide +kernel, by decide +kernel⟩
def C__law_multiple : FQ := fun _ ds ob P => ∃ (n : Int) (a : Int × Int), ds = [.int n, vD a] ∧ VB 8000 a ∧ n.natAbs < 2 ^ 100000 ∧ P (vD (muF n a)) ob
def Q__law_multiple : QS :=
    qRet (qCall 2 C__law_value [] (qCons (qOp oMul (qVar 0) (qOp oIx (qVar 1) (qC (.int 0)))) (qCons (qOp oIx (qVar 1) (qC (.int 1))) (qNil))))
theorem W__law_multiple (T : Txt fa fn xb K mg) (h0 : FOk P wd K mg base 2 d__law_value ["_law_num", "_law_den"] C__law_value) : FOk P wd K mg base (3) d__law_multiple ["_law_number", "_law_one"] (fqOf N__law_multiple (Q__law_multiple)) := by
  obtain ⟨fd, F⟩ := T.s.c.def_ 8 (d := d__law_multiple) rfl
  obtain ⟨fd0, F0, G0⟩ := h0
  have b0_2 : Binds K fd0 ["_law_num", "_law_den"] [] := F0.bindsN fun _ _ _ _ _ _ us hl => match us, hl with | [_, _], _ => rfl
  exact ⟨fd, F, fq_ok F S__law_multiple (by decide) fun cdv A outer s H E B =>
    qss_one (qs_ret (q_call (F := C__law_value) B G0 (by decide) rfl (T.glo 12 "_law_value" rfl) F0.kp b0_2 .nil (fun _ _ _ => rfl) (qa_cons (q_mul (q_var 0) (q_ix (q_var 1) (q_int))) (qa_cons (q_ix (q_var 1) (q_int)) (qa_nil)))))⟩
theorem I__law_multiple : ∀ EX ds ob R, ds.length = 2 → C__law_multiple EX ds ob R → fqOf N__law_multiple Q__law_multiple EX ds ob R := by
  rintro EX ds ob R - ⟨n, a, rfl, h1, h2, hR⟩
  have p : 0 < a.2 := by have := h1.1; have := h1.2.1; omega
  exact ⟨_, rfl, cmul 100000 8000 h2 h1.num (by decide), _, rfl, rfl, _, _, rfl, by omega, (h1.mono (by decide : 8000 ≤ 8900)).2.2, hR⟩
theorem ok__law_multiple (T : Txt fa fn xb K mg) : FOk P wd K mg base 3 d__law_multiple ["_law_number", "_law_one"] C__law_multiple := (W__law_multiple T (ok__law_value T)).imp I__law_multiple
/-! ### _law_weighed -/
abbrev s__law_weighed : Stmt := top 19
abbrev N__law_weighed : List Str := ["_law_row", "_law_values", "_law_spot", "_law_result", "_law_k"]
theorem S__law_weighed : FnScope N__law_weighed ["_law_row", "_law_values", "_law_spot"] (defScope s__law_weighed) := ⟨rfl, rfl, rfl, by decide +kernel, rfl, by decide +kernel, by decide +kernel⟩
def C__law_weighed : FQ := fun _ ds ob P => ∃ (row : List Int) (vs : List (Int × Int)) (k : Nat), ds = [.lst (row.map .int), .lst (vs.map vD), .int k] ∧ row.length ≤ 60 ∧ vs.length ≤ 60 ∧ k ≤ vs.length ∧ (∀ v ∈ vs, VB 20 v) ∧ (∀ x ∈ row, x.natAbs < 2 ^ 100000) ∧ P (vD (weF (0, 1) (row.zip (vs.drop k)))) ob
def B1__law_weighed : QS :=
    qSet 3 (qCall 2 C__law_plus [] (qCons (qVar 3) (qCons (qCall 2 C__law_multiple [] (qCons (qOp oIx (qVar 0) (qVar 4)) (qCons (qOp oIx (qVar 1) (qOp oAdd (qVar 2) (qVar 4))) (qNil)))) (qNil))))
def Q__law_weighed : QS :=
    qSeq (qSet 3 (qTup (qCons (qC (.int 0)) (qCons (qC (.int 1)) (qNil)))))
    (qSeq (qFor (iqRng1 (qCons (qCB oMin (qCons (qCB oLen (qCons (qVar 0) (qNil))) (qCons (qOp oSub (qCB oLen (qCons (qVar 1) (qNil))) (qVar 2)) (qNil)))) (qNil))) (gqName 4) (B1__law_weighed))
    (qRet (qVar 3)))
theorem W__law_weighed (T : Txt fa fn xb K mg) (h0 : FOk P wd K mg base 3 d__law_plus ["_law_one", "_law_other"] C__law_plus) (h1 : FOk P wd K mg base 3 d__law_multiple ["_law_number", "_law_one"] C__law_multiple) : FOk P wd K mg base (4) d__law_weighed ["_law_row", "_law_values", "_law_spot"] (fqOf N__law_weighed (Q__law_weighed)) := by
  obtain ⟨fd, F⟩ := T.s.c.def_ 9 (d := d__law_weighed) rfl
  obtain ⟨fd0, F0, G0⟩ := h0
  obtain ⟨fd1, F1, G1⟩ := h1
  have b0_2 : Binds K fd0 ["_law_one", "_law_other"] [] := F0.bindsN fun _ _ _ _ _ _ us hl => match us, hl with | [_, _], _ => rfl
  have b1_2 : Binds K fd1 ["_law_number", "_law_one"] [] := F1.bindsN fun _ _ _ _ _ _ us hl => match us, hl with | [_, _], _ => rfl
  exact ⟨fd, F, fq_ok F S__law_weighed (by decide) fun cdv A outer s H E B =>
    qss_cons (qs_set (i := 3) S__law_weighed.nd rfl (by first | exact Or.inl rfl | exact Or.inr rfl) (q_tup (qa_cons (q_int) (qa_cons (q_int) (qa_nil)))))
    (qss_cons (qs_for B.hp B.hc (qi_rng1 rfl (T.fre 1 "range" rfl) (qa_cons (q_min2 B.hc rfl (T.fre 6 "min" rfl) (qa_cons (q_len rfl (T.fre 5 "len" rfl) (qa_cons (q_var 0) (qa_nil))) (qa_cons (q_sub (q_len rfl (T.fre 5 "len" rfl) (qa_cons (q_var 1) (qa_nil))) (q_var 2)) (qa_nil)))) (qa_nil))) (qg_name 4 S__law_weighed.nd) (qss_one (qs_set (i := 3) S__law_weighed.nd rfl (by first | exact Or.inl rfl | exact Or.inr rfl) (q_call (F := C__law_plus) B G0 (by decide) rfl (T.glo 22 "_law_plus" rfl) F0.kp b0_2 .nil (fun _ _ _ => rfl) (qa_cons (q_var 3) (qa_cons (q_call (F := C__law_multiple) B G1 (by decide) rfl (T.glo 21 "_law_multiple" rfl) F1.kp b1_2 .nil (fun _ _ _ => rfl) (qa_cons (q_ix (q_var 0) (q_var 4)) (qa_cons (q_ix (q_var 1) (q_add (q_var 2) (q_var 4))) (qa_nil)))) (qa_nil)))))))
    (qss_one (qs_ret (q_var 3))))⟩
theorem lweighed_loop {EX : EXG} {E : QEnd} {ob : List Ob} {row : List Int} {vs : List (Int × Int)} {k : Nat} (hv : ∀ v ∈ vs, VB 20 v) (hr : ∀ x ∈ row, x.natAbs < 2 ^ 100000) (hE : ∀ t, E.nx ⟨[.va (.lst (row.map .int)), .va (.lst (vs.map vD)), .va (.int k), .va (vD (weF (0, 1) (row.zip (vs.drop k)))), t], ob⟩) : ∀ (n i j : Nat) (r : Int × Int) (t : Slot), VB j r → j + 20 * n ≤ 4000 →
    i + n = min row.length (vs.length - k) → weF r ((row.zip (vs.drop k)).drop i) = weF (0, 1) (row.zip (vs.drop k)) →
    qLoop (gqName 4) (qSet 3 (qCall 2 C__law_plus [] (qCons (qVar 3) (qCons (qCall 2 C__law_multiple [] (qCons (qOp oIx (qVar 0) (qVar 4)) (qCons (qOp oIx (qVar 1) (qOp oAdd (qVar 2) (qVar 4))) (qNil)))) (qNil))))) EX E (rngD (i : Int) 1 n)
      ⟨[.va (.lst (row.map .int)), .va (.lst (vs.map vD)), .va (.int k), .va (vD r), t], ob⟩
  | 0, i, j, r, t, hj, hn, hi, hw => by
    have e : (row.zip (vs.drop k)).drop i = [] := List.drop_eq_nil_of_le (by rw [List.length_zip, List.length_drop]; omega)
    rw [e] at hw
    have hw : r = _ := hw
    rw [hw]
    exact hE t
  | n + 1, i, j, r, t, hj, hn, hi, hw => by
    rw [rngD_succ]
    have h1 : i < row.length := by omega
    have h2 : k + i < vs.length := by omega
    have g1 := atI_nat (xs := row.map D.int) (i := i) (x := .int row[i]) (by rw [List.getElem?_map, List.getElem?_eq_getElem h1]; rfl)
    have g2 := atI_nat (xs := vs.map vD) (i := k + i) (x := vD vs[k + i]) (by rw [List.getElem?_map, List.getElem?_eq_getElem h2]; rfl)
    have g2 : L2.atI (vs.map vD) ((k : Int) + (i : Int)) = some (vD vs[k + i]) := by rw [← g2]; congr 1
    have ev := hv _ (List.getElem_mem h2)
    have ez : (row.zip (vs.drop k)).drop i = (row[i], vs[k + i]) :: (row.zip (vs.drop k)).drop (i + 1) := by
      have hz : i < (row.zip (vs.drop k)).length := by rw [List.length_zip, List.length_drop]; omega
      rw [List.drop_eq_getElem_cons hz]
      congr 1
      rw [List.getElem_zip, List.getElem_drop]
    refine ⟨ltn rfl, _, g1, _, g2, rfl, _, _, rfl, ev.mono (by decide), hr _ (List.getElem_mem h1), rfl, _, _, rfl, hj.mono (by omega), (muF_ok ev).mono (by decide), ltn rfl, ?_⟩
    have z := lweighed_loop (EX := EX) hv hr hE n (i + 1) (j + 20) (plF r (muF row[i] vs[k + i])) (.va (.int i)) (plF_ok hj (muF_ok ev)) (by omega) (by omega) (by rw [← hw, ez]; rfl)
    exact z
theorem I__law_weighed : ∀ EX ds ob R, ds.length = 3 → C__law_weighed EX ds ob R → fqOf N__law_weighed Q__law_weighed EX ds ob R := by
  rintro EX ds ob R - ⟨row, vs, k, rfl, h1, h2, h3, h4, h5, hR⟩
  refine ⟨szl rfl, ltn rfl, ?_⟩
  have e : (if (((vs.map vD).length : Int) - (k : Int)) < ((row.map D.int).length : Int) then (((vs.map vD).length : Int) - (k : Int)) else ((row.map D.int).length : Int)) = ((min row.length (vs.length - k) : Nat) : Int) := by
    rw [List.length_map, List.length_map]
    split <;> omega
  show -(2 ^ 62) ≤ (if (((vs.map vD).length : Int) - (k : Int)) < ((row.map D.int).length : Int) then (((vs.map vD).length : Int) - (k : Int)) else ((row.map D.int).length : Int)) ∧ (if (((vs.map vD).length : Int) - (k : Int)) < ((row.map D.int).length : Int) then (((vs.map vD).length : Int) - (k : Int)) else ((row.map D.int).length : Int)) < 2 ^ 62 ∧
    qLoop _ _ _ _ (rngD 0 1 (if (((vs.map vD).length : Int) - (k : Int)) < ((row.map D.int).length : Int) then (((vs.map vD).length : Int) - (k : Int)) else ((row.map D.int).length : Int)).toNat) ⟨[.va (.lst (row.map .int)), .va (.lst (vs.map vD)), .va (.int k), .va (vD (0, 1)), .un], ob⟩
  rw [e]
  refine ⟨by omega, by omega, ?_⟩
  rw [Int.toNat_natCast]
  exact lweighed_loop h4 h5 (fun t => hR) _ 0 1 (0, 1) .un ⟨by decide, by decide, by decide⟩ (by omega) (by omega) rfl
theorem ok__law_weighed (T : Txt fa fn xb K mg) : FOk P wd K mg base 4 d__law_weighed ["_law_row", "_law_values", "_law_spot"] C__law_weighed := (W__law_weighed T (ok__law_plus T) (ok__law_multiple T)).imp I__law_weighed
/-! ### divisor_of -/
abbrev s_divisor_of : Stmt := top 5
abbrev N_divisor_of : List Str := ["one", "other"]
theorem S_divisor_of : FnScope N_divisor_of ["one", "other"] (defScope s_divisor_of) := ⟨rfl, rfl, rfl, by decide +kernel, rfl, by decide +kernel, by decide +kernel⟩
def C_divisor_of : FQ := fun _ ds ob P => ∃ a b : Int, ds = [.int a, .int b] ∧ P (.int (Int.gcd a b)) ob
def B1_divisor_of : QS :=
    qPar 0 1 (qCons (qVar 1) (qCons (qOp oMod (qVar 0) (qVar 1)) (qNil)))
def Q_divisor_of : QS :=
    qSeq (qPar 0 1 (qCons (qCB oAbs (qCons (qVar 0) (qNil))) (qCons (qCB oAbs (qCons (qVar 1) (qNil))) (qNil))))
    (qSeq (qWhile (qTest (qOp (oGt) (qVar 1) (qC (.int 0)))) (B1_divisor_of))
    (qRet (qVar 0)))
theorem W_divisor_of (T : Txt fa fn xb K mg)  : FOk P wd K mg base (1) d_divisor_of ["one", "other"] (fqOf N_divisor_of (Q_divisor_of)) := by
  obtain ⟨fd, F⟩ := T.s.c.def_ 10 (d := d_divisor_of) rfl
  exact ⟨fd, F, fq_ok F S_divisor_of (by decide) fun cdv A outer s H E B =>
    qss_cons (qs_par (i := 0) (j := 1) B.hc S_divisor_of.nd rfl rfl (by decide) rfl rfl (qa_cons (q_abs rfl (T.fre 14 "abs" rfl) (qa_cons (q_var 0) (qa_nil))) (qa_cons (q_abs rfl (T.fre 14 "abs" rfl) (qa_cons (q_var 1) (qa_nil))) (qa_nil))) (by rfl))
    (qss_cons (qs_while B.hp (qt_gt (q_var 1) (q_int)) (qss_one (qs_par (i := 0) (j := 1) B.hc S_divisor_of.nd rfl rfl (by decide) rfl rfl (qa_cons (q_var 1) (qa_cons (q_mod (q_var 0) (q_var 1)) (qa_nil))) (by rfl))))
    (qss_one (qs_ret (q_var 0))))⟩
theorem I_divisor_of : ∀ EX ds ob R, ds.length = 2 → C_divisor_of EX ds ob R → fqOf N_divisor_of Q_divisor_of EX ds ob R := by
  rintro EX ds ob R - ⟨a, b, rfl, hR⟩
  refine ⟨ltn rfl, ltn rfl, fun m Γ => ∃ x y : Int, Γ = ⟨[.va (.int x), .va (.int y)], ob⟩ ∧ 0 ≤ x ∧ 0 ≤ y ∧ Int.gcd x y = Int.gcd a b ∧ m = y.toNat, ⟨_, _, _, rfl, ?_, ?_, gcd_abs, rfl⟩, ?_⟩
  · split <;> omega
  · split <;> omega
  · rintro m Γ ⟨x, y, rfl, hx, hy, hg, rfl⟩
    refine qB_i (fun h => ?_) fun h => ?_
    · have hy0 : 0 < y := of_decide_eq_true h
      have n0 := Int.fmod_nonneg_of_pos x (show 0 < y by omega)
      have n1 := Int.fmod_lt_of_pos x (show 0 < y by omega)
      exact ⟨by omega, ltn rfl, ltn rfl, _, by omega, y, x.fmod y, rfl, by omega, n0, (gcd_step (by omega) hx).trans hg, rfl⟩
    · have hy0 : y = 0 := by have z : ¬ 0 < y := of_decide_eq_false h; omega
      subst hy0
      show R (.int x) ob
      have e : x = (Int.gcd a b : Int) := by rw [← hg, gcd_zero' hx]
      rw [e]
      exact hR
theorem ok_divisor_of (T : Txt fa fn xb K mg) : FOk P wd K mg base 1 d_divisor_of ["one", "other"] C_divisor_of := (W_divisor_of T).imp I_divisor_of
/-! ### value -/
abbrev s_value : Stmt := top 6
abbrev N_value : List Str := ["num", "den", "by"]
theorem S_value : FnScope N_value ["num", "den"] (defScope s_value) := ⟨rfl, rfl, rfl, by decide +kernel, rfl, by decide +kernel, by decide +kernel⟩
def C_value : FQ := fun _ ds ob P => ∃ n d : Int, ds = [.int n, .int d] ∧ 1 ≤ d ∧ d < 2 ^ 8900 ∧ P (vD (valF n d)) ob
def Q_value : QS :=
    qSeq (qIfS (qTest (qOp (oLt) (qVar 1) (qC (.int 1)))) (qNever) (qNext))
    (qSeq (qSet 0 (qOp oMod (qVar 0) (qVar 1)))
    (qSeq (qSet 2 (qCall 2 C_divisor_of [] (qCons (qVar 0) (qCons (qVar 1) (qNil)))))
    (qRet (qTup (qCons (qOp oDiv (qVar 0) (qVar 2)) (qCons (qOp oDiv (qVar 1) (qVar 2)) (qNil)))))))
theorem W_value (T : Txt fa fn xb K mg) (h0 : FOk P wd K mg base 1 d_divisor_of ["one", "other"] C_divisor_of) : FOk P wd K mg base (2) d_value ["num", "den"] (fqOf N_value (Q_value)) := by
  obtain ⟨fd, F⟩ := T.s.c.def_ 11 (d := d_value) rfl
  obtain ⟨fd0, F0, G0⟩ := h0
  have b0_2 : Binds K fd0 ["one", "other"] [] := F0.bindsN fun _ _ _ _ _ _ us hl => match us, hl with | [_, _], _ => rfl
  exact ⟨fd, F, fq_ok F S_value (by decide) fun cdv A outer s H E B =>
    qss_cons (qs_if (qt_lt (q_var 1) (q_int)) (qss_one (qs_never)) (qss_nil))
    (qss_cons (qs_set (i := 0) S_value.nd rfl (by first | exact Or.inl rfl | exact Or.inr rfl) (q_mod (q_var 0) (q_var 1)))
    (qss_cons (qs_set (i := 2) S_value.nd rfl (by first | exact Or.inl rfl | exact Or.inr rfl) (q_call (F := C_divisor_of) B G0 (by decide) rfl (T.glo 27 "divisor_of" rfl) F0.kp b0_2 .nil (fun _ _ _ => rfl) (qa_cons (q_var 0) (qa_cons (q_var 1) (qa_nil)))))
    (qss_one (qs_ret (q_tup (qa_cons (q_fdiv (q_var 0) (q_var 2)) (qa_cons (q_fdiv (q_var 1) (q_var 2)) (qa_nil))))))))⟩
theorem I_value : ∀ EX ds ob R, ds.length = 2 → C_value EX ds ob R → fqOf N_value Q_value EX ds ob R := by
  rintro EX ds ob R - ⟨n, d, rfl, h1, h2, hR⟩
  have g1 := gcd_pos (n := n.fmod d) h1
  have g2 := gcd_le (n := n.fmod d) h1
  have hg : ((Int.gcd (n.fmod d) d : Int)).natAbs.log2 < 9000 := log_lt 8900 (pw_nat (by omega) (by omega)) (by decide)
  refine qB_i (fun h => ?_) fun h => ?_
  · have h : d < 1 := of_decide_eq_true h
    omega
  · exact ⟨by omega, ltn rfl, rfl, n.fmod d, d, rfl, ltn rfl, ⟨by omega, hg⟩, ⟨by omega, hg⟩, szl rfl, hR⟩
theorem ok_value (T : Txt fa fn xb K mg) : FOk P wd K mg base 2 d_value ["num", "den"] C_value := (W_value T (ok_divisor_of T)).imp I_value
/-! ### plus -/
abbrev s_plus : Stmt := top 7
abbrev N_plus : List Str := ["one", "other"]
theorem S_plus : FnScope N_plus ["one", "other"] (defScope s_plus) := ⟨rfl, rfl, rfl, by decide +kernel, rfl, by decide +kernel, by decide +kernel⟩
def C_plus : FQ := fun _ ds ob P => ∃ a b : Int × Int, ds = [vD a, vD b] ∧ VB 4000 a ∧ VB 4000 b ∧ P (vD (plF a b)) ob
def Q_plus : QS :=
    qRet (qCall 2 C_value [] (qCons (qOp oAdd (qOp oMul (qOp oIx (qVar 0) (qC (.int 0))) (qOp oIx (qVar 1) (qC (.int 1)))) (qOp oMul (qOp oIx (qVar 1) (qC (.int 0))) (qOp oIx (qVar 0) (qC (.int 1))))) (qCons (qOp oMul (qOp oIx (qVar 0) (qC (.int 1))) (qOp oIx (qVar 1) (qC (.int 1)))) (qNil))))
theorem W_plus (T : Txt fa fn xb K mg) (h0 : FOk P wd K mg base 2 d_value ["num", "den"] C_value) : FOk P wd K mg base (3) d_plus ["one", "other"] (fqOf N_plus (Q_plus)) := by
  obtain ⟨fd, F⟩ := T.s.c.def_ 12 (d := d_plus) rfl
  obtain ⟨fd0, F0, G0⟩ := h0
  obtain ⟨_, v0_2, b0_2⟩ := F0.binds1 (ps := ["num", "den"]) 2 1 (by intro z; cases z) rfl fun _ _ _ _ _ _ _ us its hl hi => match us, its, hl, hi with | [_, _], [_], _, _ => ⟨_, rfl, rfl⟩
  exact ⟨fd, F, fq_ok F S_plus (by decide) fun cdv A outer s H E B =>
    qss_one (qs_ret (q_call (F := C_value) B G0 (by decide) rfl (T.glo 26 "value" rfl) F0.kp b0_2 v0_2 (fun _ _ _ => rfl) (qa_cons (q_add (q_mul (q_ix (q_var 0) (q_int)) (q_ix (q_var 1) (q_int))) (q_mul (q_ix (q_var 1) (q_int)) (q_ix (q_var 0) (q_int)))) (qa_cons (q_mul (q_ix (q_var 0) (q_int)) (q_ix (q_var 1) (q_int))) (qa_nil)))))⟩
theorem I_plus : ∀ EX ds ob R, ds.length = 2 → C_plus EX ds ob R → fqOf N_plus Q_plus EX ds ob R := by
  rintro EX ds ob R - ⟨a, b, rfl, h1, h2, hR⟩
  have p : 0 < a.2 := by have := h1.1; have := h1.2.1; omega
  have q : 0 < b.2 := by have := h2.1; have := h2.2.1; omega
  have hpos := Int.mul_pos p q
  have hlt : a.2 * b.2 < 2 ^ 8900 := by
    have z : a.2 * b.2 < 2 ^ (4000 + 4000) := by
      rw [← two_add]
      exact Int.lt_of_lt_of_le (Int.mul_lt_mul_of_pos_right h1.2.2 q) (Int.mul_le_mul_of_nonneg_left (Int.le_of_lt h2.2.2) (Int.le_of_lt (Int.pow_pos (by decide))))
    exact Int.lt_of_lt_of_le z (pw (by decide))
  exact ⟨_, rfl, _, rfl, cmul 4000 4000 h1.num h2.den (by decide), _, rfl, _, rfl, cmul 4000 4000 h2.num h1.den (by decide), _, rfl, _, rfl, cmul 4000 4000 h1.den h2.den (by decide), rfl, _, _, rfl, by omega, hlt, hR⟩
theorem ok_plus (T : Txt fa fn xb K mg) : FOk P wd K mg base 3 d_plus ["one", "other"] C_plus := (W_plus T (ok_value T)).imp I_plus
/-! ### multiple -/
abbrev s_multiple : Stmt := top 8
abbrev N_multiple : List Str := ["number", "one"]
theorem S_multiple : FnScope N_multiple ["number", "one"] (defScope s_multiple) := ⟨rfl, rfl, rfl, by decide +kernel, rfl, by decide +kernel, by decide +kernel⟩
def C_multiple : FQ := fun _ ds ob P => ∃ (n : Int) (a : Int × Int), ds = [.int n, vD a] ∧ VB 8000 a ∧ n.natAbs < 2 ^ 100000 ∧ P (vD (muF n a)) ob
def Q_multiple : QS :=
    qRet (qCall 2 C_value [] (qCons (qOp oMul (qVar 0) (qOp oIx (qVar 1) (qC (.int 0)))) (qCons (qOp oIx (qVar 1) (qC (.int 1))) (qNil))))
theorem W_multiple (T : Txt fa fn xb K mg) (h0 : FOk P wd K mg base 2 d_value ["num", "den"] C_value) : FOk P wd K mg base (3) d_multiple ["number", "one"] (fqOf N_multiple (Q_multiple)) := by
  obtain ⟨fd, F⟩ := T.s.c.def_ 13 (d := d_multiple) rfl
  obtain ⟨fd0, F0, G0⟩ := h0
  obtain ⟨_, v0_2, b0_2⟩ := F0.binds1 (ps := ["num", "den"]) 2 1 (by intro z; cases z) rfl fun _ _ _ _ _ _ _ us its hl hi => match us, its, hl, hi with | [_, _], [_], _, _ => ⟨_, rfl, rfl⟩
  exact ⟨fd, F, fq_ok F S_multiple (by decide) fun cdv A outer s H E B =>
    qss_one (qs_ret (q_call (F := C_value) B G0 (by decide) rfl (T.glo 26 "value" rfl) F0.kp b0_2 v0_2 (fun _ _ _ => rfl) (qa_cons (q_mul (q_var 0) (q_ix (q_var 1) (q_int))) (qa_cons (q_ix (q_var 1) (q_int)) (qa_nil)))))⟩
theorem I_multiple : ∀ EX ds ob R, ds.length = 2 → C_multiple EX ds ob R → fqOf N_multiple Q_multiple EX ds ob R := by
  rintro EX ds ob R - ⟨n, a, rfl, h1, h2, hR⟩
  have p : 0 < a.2 := by have := h1.1; have := h1.2.1; omega
  exact ⟨_, rfl, cmul 100000 8000 h2 h1.num (by decide), _, rfl, rfl, _, _, rfl, by omega, (h1.mono (by decide : 8000 ≤ 8900)).2.2, hR⟩
theorem ok_multiple (T : Txt fa fn xb K mg) : FOk P wd K mg base 3 d_multiple ["number", "one"] C_multiple := (W_multiple T (ok_value T)).imp I_multiple
/-! ### weighed -/
abbrev s_weighed : Stmt := top 9
abbrev N_weighed : List Str := ["relation", "values", "offset", "result", "number", "one"]
theorem S_weighed : FnScope N_weighed ["relation", "values", "offset"] (defScope s_weighed) := ⟨rfl, rfl, rfl, by decide +kernel, rfl, by decide +kernel, by decide +kernel⟩
def sqD (b : Bool) (xs : List D) : D := if b then .lst xs else .tup xs
def C_weighed : FQ := fun _ ds ob P => ∃ (b : Bool) (row : List Int) (vs : List (Int × Int)) (k : Nat), ds = [sqD b (row.map .int), sqD b (vs.map vD), .int k] ∧ row.length ≤ 60 ∧ (∀ v ∈ vs, VB 20 v) ∧ (∀ x ∈ row, x.natAbs < 2 ^ 100000) ∧ P (vD (weF (0, 1) (row.zip (vs.drop k)))) ob
def B1_weighed : QS :=
    qSet 3 (qCall 2 C_plus [] (qCons (qVar 3) (qCons (qCall 2 C_multiple [] (qCons (qVar 4) (qCons (qVar 5) (qNil)))) (qNil))))
def Q_weighed : QS :=
    qSeq (qSet 3 (qC (.tup [.int 0, .int 1])))
    (qSeq (qFor (iqZip (qCons (qVar 0) (qCons (qSl (qVar 1) (qPart (qVar 2)) (qNoPart)) (qNil)))) (gqTup [gqName 4, gqName 5]) (B1_weighed))
    (qRet (qVar 3)))
theorem W_weighed (T : Txt fa fn xb K mg) (h0 : FOk P wd K mg base 3 d_plus ["one", "other"] C_plus) (h1 : FOk P wd K mg base 3 d_multiple ["number", "one"] C_multiple) : FOk P wd K mg base (4) d_weighed ["relation", "values", "offset"] (fqOf N_weighed (Q_weighed)) := by
  obtain ⟨fd, F⟩ := T.s.c.def_ 14 (d := d_weighed) rfl
  obtain ⟨fd0, F0, G0⟩ := h0
  obtain ⟨fd1, F1, G1⟩ := h1
  have b0_2 : Binds K fd0 ["one", "other"] [] := F0.bindsN fun _ _ _ _ _ _ us hl => match us, hl with | [_, _], _ => rfl
  have b1_2 : Binds K fd1 ["number", "one"] [] := F1.bindsN fun _ _ _ _ _ _ us hl => match us, hl with | [_, _], _ => rfl
  exact ⟨fd, F, fq_ok F S_weighed (by decide) fun cdv A outer s H E B =>
    qss_cons (qs_set (i := 3) S_weighed.nd rfl (by first | exact Or.inl rfl | exact Or.inr rfl) (T.ctup 23 0 [.int 0, .int 1] rfl rfl rfl rfl))
    (qss_cons (qs_for B.hp B.hc (qi_zip rfl (T.fre 16 "zip" rfl) (qa_cons (q_var 0) (qa_cons (q_sl (q_var 1) (qo_some (q_var 2)) (qo_none)) (qa_nil)))) (qg_tup B.hc (qgs_cons (qg_name 4 S_weighed.nd) (qgs_cons (qg_name 5 S_weighed.nd) (qgs_nil))) rfl) (qss_one (qs_set (i := 3) S_weighed.nd rfl (by first | exact Or.inl rfl | exact Or.inr rfl) (q_call (F := C_plus) B G0 (by decide) rfl (T.glo 25 "plus" rfl) F0.kp b0_2 .nil (fun _ _ _ => rfl) (qa_cons (q_var 3) (qa_cons (q_call (F := C_multiple) B G1 (by decide) rfl (T.glo 24 "multiple" rfl) F1.kp b1_2 .nil (fun _ _ _ => rfl) (qa_cons (q_var 4) (qa_cons (q_var 5) (qa_nil)))) (qa_nil)))))))
    (qss_one (qs_ret (q_var 3))))⟩
theorem zip_pairs : ∀ (row : List Int) (vs : List (Int × Int)), zipD (row.map .int) (vs.map vD) = (row.zip vs).map fun p => .tup [.int p.1, vD p.2]
  | [], _ => by cases ‹List (Int × Int)› <;> rfl
  | _ :: _, [] => rfl
  | x :: row, v :: vs => by
    show D.tup [.int x, vD v] :: zipD (row.map .int) (vs.map vD) = _
    rw [zip_pairs row vs]
    rfl
theorem weighed_loop {EX : EXG} {E : QEnd} {ob : List Ob} {d0 d1 d2 : D} : ∀ (l : List (Int × (Int × Int))) (j : Nat) (r : Int × Int) (s t : Slot), VB j r → j + 20 * l.length ≤ 4000 → (∀ p ∈ l, p.1.natAbs < 2 ^ 100000 ∧ VB 20 p.2) → (∀ s t, E.nx ⟨[.va d0, .va d1, .va d2, .va (vD (weF r l)), s, t], ob⟩) →
    qLoop (gqTup [gqName 4, gqName 5]) (qSet 3 (qCall 2 C_plus [] (qCons (qVar 3) (qCons (qCall 2 C_multiple [] (qCons (qVar 4) (qCons (qVar 5) (qNil)))) (qNil))))) EX E (l.map fun p => .tup [.int p.1, vD p.2]) ⟨[.va d0, .va d1, .va d2, .va (vD r), s, t], ob⟩
  | [], j, r, s, t, h1, h2, h3, hE => hE s t
  | p :: l, j, r, s, t, h1, h2, h3, hE => by
    rw [List.length_cons] at h2
    obtain ⟨k1, k2⟩ := h3 p (List.mem_cons_self ..)
    refine ⟨rfl, ltn rfl, ltn rfl, rfl, _, _, rfl, k2.mono (by decide), k1, rfl, _, _, rfl, h1.mono (by omega), (muF_ok k2).mono (by decide), ltn rfl, ?_⟩
    exact weighed_loop l (j + 20) _ _ _ (plF_ok h1 (muF_ok k2)) (by omega) (fun q hq => h3 q (List.mem_cons_of_mem _ hq)) hE
theorem I_weighed : ∀ EX ds ob R, ds.length = 3 → C_weighed EX ds ob R → fqOf N_weighed Q_weighed EX ds ob R := by
  rintro EX ds ob R - ⟨b, row, vs, k, rfl, h1, h2, h3, hR⟩
  have hc : cutD (vs.map vD) (some (k : Int)) none = (vs.drop k).map vD := by
    rw [cut_map, cut_from (by omega)]
    rfl
  have fin : ∀ d0 d1, qLoop (gqTup [gqName 4, gqName 5]) (qSet 3 (qCall 2 C_plus [] (qCons (qVar 3) (qCons (qCall 2 C_multiple [] (qCons (qVar 4) (qCons (qVar 5) (qNil)))) (qNil))))) (fun e Γ => EX e Γ.ob) ⟨fun Γ' => qRet (qVar 3) (fun e Γ => EX e Γ.ob) ⟨fun Γ => R .non Γ.ob, fun d Γ => R d Γ.ob, fun _ => False, fun _ => False⟩ Γ', fun d Γ => R d Γ.ob, fun _ => False, fun _ => False⟩ (zipD (row.map .int) (cutD (vs.map vD) (some (k : Int)) none)) ⟨[.va d0, .va d1, .va (.int k), .va (vD (0, 1)), .un, .un], ob⟩ := by
    intro d0 d1
    rw [hc, zip_pairs]
    refine weighed_loop _ 1 (0, 1) _ _ ⟨by decide, by decide, by decide⟩ ?_ (fun p hp => ?_) fun s t => hR
    · rw [List.length_zip]
      omega
    · exact ⟨h3 _ (List.of_mem_zip hp).1, h2 _ (List.mem_of_mem_drop (List.of_mem_zip hp).2)⟩
  cases b with
  | true => exact ⟨ltn rfl, fin _ _⟩
  | false => exact ⟨ltn rfl, fin _ _⟩
theorem ok_weighed (T : Txt fa fn xb K mg) : FOk P wd K mg base 4 d_weighed ["relation", "values", "offset"] C_weighed := (W_weighed T (ok_plus T) (ok_multiple T)).imp I_weighed
/-! ### law -/
abbrev s_law : Stmt := top 21
abbrev N_law : List Str := ["_law_script", "_law_rng", "_law_turn", "_law_row", "_law_some", "_law_spot", "_law_kept", "_law_k"]
theorem S_law : FnScope N_law ["_law_script"] (defScope s_law) := ⟨rfl, rfl, rfl, by decide +kernel, rfl, by decide +kernel, by decide +kernel⟩
def C_law : FQ := fun _ ds ob P => ∃ ns : List Int, ds = [.frl (ns.map .int)] ∧ ob = [] ∧ ∀ ob', P (.bl true) ob'
def E1_law : QE :=
    qOp oSub (qCall 2 C__law_draw [] (qCons (qVar 1) (qCons (qC (.int 19)) (qNil)))) (qC (.int 9))
def E2_law : QE :=
    qCall 1 C__law_some_value [] (qCons (qVar 1) (qNil))
def B1_law : QS :=
    qSeq (qSet 3 (qOfL (qLc (iqRng1 (qCons (qOp oAdd (qC (.int 1)) (qCall 2 C__law_draw [] (qCons (qVar 1) (qCons (qC (.int 9)) (qNil))))) (qNil))) (gqName 7) (qYes) (E1_law) [7])))
    (qSeq (qSet 4 (qOfL (qLc (iqRng1 (qCons (qCall 2 C__law_draw [] (qCons (qVar 1) (qCons (qC (.int 10)) (qNil)))) (qNil))) (gqName 7) (qYes) (E2_law) [7])))
    (qSeq (qPar 5 6 (qCons (qCall 2 C__law_draw [] (qCons (qVar 1) (qCons (qOp oAdd (qCB oLen (qCons (qVar 4) (qNil))) (qC (.int 2))) (qNil)))) (qCons (qOfL (qLst (qCons (qOfL (qCBL oList (qCons (qVar 3) (qNil)))) (qCons (qOfL (qCBL oList (qCons (qVar 4) (qNil)))) (qNil))))) (qNil))))
    (qSeq (qIfS (qNot (qTest (qCall 2 (C__law_equal 5) [] (qCons (qCallK 3 2 1 C_weighed (fun us ws => [us.getD 0 .non, us.getD 1 .non, ws.getD 0 .non]) (qCons (qVar 3) (qCons (qVar 4) (qNil))) (qCons (qVar 5) (qNil))) (qCons (qCall 3 C__law_weighed [] (qCons (qVar 3) (qCons (qVar 4) (qCons (qCB oMin (qCons (qVar 5) (qCons (qCB oLen (qCons (qVar 4) (qNil))) (qNil)))) (qNil))))) (qNil)))))) (qRet (qC (.bl false))) (qNext))
    (qSeq (qIfS (qNot (qTest (qCall 2 (C__law_equal 5) [] (qCons (qOfL (qLst (qCons (qCall 3 C_weighed [.int 0] (qCons (qCB oTuple (qCons (qVar 3) (qNil))) (qCons (qCB oTuple (qCons (qVar 4) (qNil))) (qNil)))) (qCons (qCall 3 C_weighed [.int 0] (qCons (qVar 3) (qCons (qOfL (qLst (qNil))) (qNil)))) (qNil))))) (qCons (qOfL (qLst (qCons (qCall 3 C__law_weighed [] (qCons (qVar 3) (qCons (qVar 4) (qCons (qC (.int 0)) (qNil))))) (qCons (qTup (qCons (qC (.int 0)) (qCons (qC (.int 1)) (qNil)))) (qNil))))) (qNil)))))) (qRet (qC (.bl false))) (qNext))
    (qIfS (qTest (qOp (oNe) (qOfL (qLst (qCons (qVar 3) (qCons (qVar 4) (qNil))))) (qVar 6))) (qRet (qC (.bl false))) (qNext))))))
def Q_law : QS :=
    qSeq (qSet 1 (qCall 1 C__law_source [] (qCons (qVar 0) (qNil))))
    (qSeq (qFor (iqRng1 (qCons (qC (.int 6)) (qNil))) (gqName 2) (B1_law))
    (qRet (qC (.bl true))))
theorem W_law (T : Txt fa fn xb K mg) (h0 : FOk P wd K mg base 1 d__law_source ["_law_script"] C__law_source) (h1 : FOk P wd K mg base 1 d__law_draw ["_law_rng", "_law_many"] C__law_draw) (h2 : FOk P wd K mg base 3 d__law_some_value ["_law_rng"] C__law_some_value) (h3 : FOk P wd K mg base 6 d__law_equal ["_law_result", "_law_expected"] (C__law_equal 5)) (h4 : FOk P wd K mg base 4 d__law_weighed ["_law_row", "_law_values", "_law_spot"] C__law_weighed) (h5 : FOk P wd K mg base 4 d_weighed ["relation", "values", "offset"] C_weighed) : FOk P wd K mg base (7) d_law ["_law_script"] (fqOf N_law (Q_law)) := by
  obtain ⟨fd, F⟩ := T.s.c.def_ 15 (d := d_law) rfl
  obtain ⟨fd0, F0, G0⟩ := h0
  obtain ⟨fd1, F1, G1⟩ := h1
  obtain ⟨fd2, F2, G2⟩ := h2
  obtain ⟨fd3, F3, G3⟩ := h3
  obtain ⟨fd4, F4, G4⟩ := h4
  obtain ⟨fd5, F5, G5⟩ := h5
  have b0_1 : Binds K fd0 ["_law_script"] [] := F0.bindsN fun _ _ _ _ _ _ us hl => match us, hl with | [_], _ => rfl
  have b1_2 : Binds K fd1 ["_law_rng", "_law_many"] [] := F1.bindsN fun _ _ _ _ _ _ us hl => match us, hl with | [_, _], _ => rfl
  have b2_1 : Binds K fd2 ["_law_rng"] [] := F2.bindsN fun _ _ _ _ _ _ us hl => match us, hl with | [_], _ => rfl
  have b3_2 : Binds K fd3 ["_law_result", "_law_expected"] [] := F3.bindsN fun _ _ _ _ _ _ us hl => match us, hl with | [_, _], _ => rfl
  have b4_3 : Binds K fd4 ["_law_row", "_law_values", "_law_spot"] [] := F4.bindsN fun _ _ _ _ _ _ us hl => match us, hl with | [_, _, _], _ => rfl
  have k5_2_offset : KBn K fd5 ["relation", "values", "offset"] 2 ["offset"] ((fun {α : Type} (z : α) (us ws : List α) => [us.getD 0 z, us.getD 1 z, ws.getD 0 z]) Value.none) ((fun {α : Type} (z : α) (us ws : List α) => [us.getD 0 z, us.getD 1 z, ws.getD 0 z]) V.non) := kbindsA F5 2 ["offset"] (fun z us ws => [us.getD 0 z, us.getD 1 z, ws.getD 0 z]) (fun r1 r2 => .cons (rel_get r1 0) (.cons (rel_get r1 1) (.cons (rel_get r2 0) (.nil)))) (fun _ _ _ _ _ _ us ws hl hk => match us, ws, hl, hk with | [_, _], [_], _, _ => rfl)
  obtain ⟨_, v5_2, b5_2⟩ := F5.binds0 (ps := ["relation", "values", "offset"]) 2 (by intro z; cases z) rfl fun _ _ _ _ _ _ us ks hl hk => match us, ks, hl, hk with | [_, _], [_], _, _ => ⟨_, _, _, _, _, _, rfl, rfl, rfl⟩
  exact ⟨fd, F, fq_ok F S_law (by decide) fun cdv A outer s H E B =>
    qss_cons (qs_set (i := 1) S_law.nd rfl (by first | exact Or.inl rfl | exact Or.inr rfl) (q_call (F := C__law_source) B G0 (by decide) rfl (T.glo 0 "_law_source" rfl) F0.kp b0_1 .nil (fun _ _ _ => rfl) (qa_cons (q_var 0) (qa_nil))))
    (qss_cons (qs_for B.hp B.hc (qi_rng1 rfl (T.fre 1 "range" rfl) (qa_cons (q_int) (qa_nil))) (qg_name 2 S_law.nd) (qss_cons (qs_setLc (i := 3) (own := [("_law_k", 7)]) B S_law.nd (qi_rng1 rfl (T.fre 1 "range" rfl) (qa_cons (q_add (q_int) (q_call (F := C__law_draw) B G1 (by decide) rfl (T.glo 2 "_law_draw" rfl) F1.kp b1_2 .nil (fun _ _ _ => rfl) (qa_cons (q_var 1) (qa_cons (q_int) (qa_nil))))) (qa_nil))) (blkOk_by (N := N_law) (sc := defScope (s_law)) (by decide +kernel)) (fun _ _ _ _ _ B1 => ⟨qv_name 7 S_law.nd (by decide), qts_nil, q_sub (q_call (F := C__law_draw) B1 G1 (by decide) rfl (T.glo 2 "_law_draw" rfl) F1.kp b1_2 .nil (fun _ _ _ => rfl) (qa_cons (q_var 1) (qa_cons (q_int) (qa_nil)))) (q_int)⟩))
    (qss_cons (qs_setLc (i := 4) (own := [("_law_k", 7)]) B S_law.nd (qi_rng1 rfl (T.fre 1 "range" rfl) (qa_cons (q_call (F := C__law_draw) B G1 (by decide) rfl (T.glo 2 "_law_draw" rfl) F1.kp b1_2 .nil (fun _ _ _ => rfl) (qa_cons (q_var 1) (qa_cons (q_int) (qa_nil)))) (qa_nil))) (blkOk_by (N := N_law) (sc := defScope (s_law)) (by decide +kernel)) (fun _ _ _ _ _ B2 => ⟨qv_name 7 S_law.nd (by decide), qts_nil, q_call (F := C__law_some_value) B2 G2 (by decide) rfl (T.glo 3 "_law_some_value" rfl) F2.kp b2_1 .nil (fun _ _ _ => rfl) (qa_cons (q_var 1) (qa_nil))⟩))
    (qss_cons (qs_par (i := 5) (j := 6) B.hc S_law.nd rfl rfl (by decide) rfl rfl (qa_cons (q_call (F := C__law_draw) B G1 (by decide) rfl (T.glo 2 "_law_draw" rfl) F1.kp b1_2 .nil (fun _ _ _ => rfl) (qa_cons (q_var 1) (qa_cons (q_add (q_len rfl (T.fre 5 "len" rfl) (qa_cons (q_var 4) (qa_nil))) (q_int)) (qa_nil)))) (qa_cons (q_lst (qa_cons (q_ofL (ql_list rfl (T.fre 4 "list" rfl) (qa_cons (q_var 3) (qa_nil)))) (qa_cons (q_ofL (ql_list rfl (T.fre 4 "list" rfl) (qa_cons (q_var 4) (qa_nil)))) (qa_nil)))) (qa_nil))) (by rfl))
    (qss_cons (qs_if (qt_not (qt_val (q_call (F := (C__law_equal 5)) B G3 (by decide) rfl (T.glo 9 "_law_equal" rfl) F3.kp b3_2 .nil (fun _ _ _ => rfl) (qa_cons (q_callK (F := C_weighed) B G5 (by decide) rfl (T.glo 8 "weighed" rfl) F5.kp k5_2_offset rfl (fun _ _ _ _ _ _ _ r1 r2 _ _ => Reps.cons (rep_get r1 0) (Reps.cons (rep_get r1 1) (Reps.cons (rep_get r2 0) (rfl)))) (qa_cons (q_var 3) (qa_cons (q_var 4) (qa_nil))) (qk_cons (q_var 5) (qk_nil))) (qa_cons (q_call (F := C__law_weighed) B G4 (by decide) rfl (T.glo 7 "_law_weighed" rfl) F4.kp b4_3 .nil (fun _ _ _ => rfl) (qa_cons (q_var 3) (qa_cons (q_var 4) (qa_cons (q_min2 B.hc rfl (T.fre 6 "min" rfl) (qa_cons (q_var 5) (qa_cons (q_len rfl (T.fre 5 "len" rfl) (qa_cons (q_var 4) (qa_nil))) (qa_nil)))) (qa_nil))))) (qa_nil)))))) (qss_one (qs_ret (q_bl))) (qss_nil))
    (qss_cons (qs_if (qt_not (qt_val (q_call (F := (C__law_equal 5)) B G3 (by decide) rfl (T.glo 9 "_law_equal" rfl) F3.kp b3_2 .nil (fun _ _ _ => rfl) (qa_cons (q_lst (qa_cons (q_call (F := C_weighed) B G5 (by decide) rfl (T.glo 8 "weighed" rfl) F5.kp b5_2 v5_2 (fun _ _ _ => Reps.cons rfl (rfl)) (qa_cons (q_tuple rfl (T.fre 10 "tuple" rfl) (qa_cons (q_var 3) (qa_nil))) (qa_cons (q_tuple rfl (T.fre 10 "tuple" rfl) (qa_cons (q_var 4) (qa_nil))) (qa_nil)))) (qa_cons (q_call (F := C_weighed) B G5 (by decide) rfl (T.glo 8 "weighed" rfl) F5.kp b5_2 v5_2 (fun _ _ _ => Reps.cons rfl (rfl)) (qa_cons (q_var 3) (qa_cons (q_lst (qa_nil)) (qa_nil)))) (qa_nil)))) (qa_cons (q_lst (qa_cons (q_call (F := C__law_weighed) B G4 (by decide) rfl (T.glo 7 "_law_weighed" rfl) F4.kp b4_3 .nil (fun _ _ _ => rfl) (qa_cons (q_var 3) (qa_cons (q_var 4) (qa_cons (q_int) (qa_nil))))) (qa_cons (q_tup (qa_cons (q_int) (qa_cons (q_int) (qa_nil)))) (qa_nil)))) (qa_nil)))))) (qss_one (qs_ret (q_bl))) (qss_nil))
    (qss_one (qs_if (qt_ne B (q_lst (qa_cons (q_var 3) (qa_cons (q_var 4) (qa_nil)))) (q_var 6)) (qss_one (qs_ret (q_bl))) (qss_nil)))))))))
    (qss_one (qs_ret (q_bl))))⟩
theorem law_ends : ∀ ns : List Int, ns.length ≤ 63 → (∀ z ∈ ns, Builtin.Int.intBits z ≤ 1048576) → C_law (fun _ _ => False) [.frl (ns.map D.int)] [] fun r _ => r = .bl true := fun ns _ _ => ⟨ns, rfl, rfl, fun _ => rfl⟩
theorem rng0 {o : Ob} (h : RngO o) : RngAt [o] 0 := ⟨o, rfl, h⟩
/-- the row, the values: as they are drawn -/
theorem row_loop {P : List D → G → Prop} {d0 s2 s3 s4 s5 s6 : Slot} : ∀ (ds : List D) (acc : List Int) (o : Ob), RngO o → acc.length + ds.length ≤ 60 → (∀ x ∈ acc, x.natAbs < 2 ^ 100000) → (∀ d ∈ ds, ∃ i : Int, d = .int i) →
    (∀ (row : List Int) o, row.length ≤ 60 → (∀ x ∈ row, x.natAbs < 2 ^ 100000) → RngO o → P (row.map .int) ⟨[d0, .va (.ref 0), s2, s3, s4, s5, s6, .un], [o]⟩) → qLcL (gqName 7) qYes E1_law [7] P (acc.map .int) ds ⟨[d0, .va (.ref 0), s2, s3, s4, s5, s6, .un], [o]⟩
  | [], acc, o, ho, hl, ha, hd, hP => hP acc o (by simpa using hl) ha ho
  | d :: ds, acc, o, ho, hl, ha, hd, hP => by
    obtain ⟨i, rfl⟩ := hd d (List.mem_cons_self ..)
    rw [List.length_cons] at hl
    refine ⟨ltn rfl, rfl, 0, 19, rfl, by decide, by decide, rng0 ho, fun z o' z0 z1 ho' => ⟨by rw [List.length_map]; have := sizeLine_eq; omega, ?_⟩⟩
    have e : acc.map D.int ++ [.int (z - 9)] = (acc ++ [z - 9]).map .int := by rw [List.map_append]; rfl
    show qLcL _ _ _ _ _ (acc.map D.int ++ [.int (z - 9)]) _ _
    rw [e]
    refine row_loop ds (acc ++ [z - 9]) o' ho' (by rw [List.length_append]; simp only [List.length_cons, List.length_nil]; omega) (fun x hx => ?_) (fun d hd' => hd d (List.mem_cons_of_mem _ hd')) hP
    rcases List.mem_append.mp hx with hx | hx
    · exact ha x hx
    · rw [List.mem_singleton.mp hx]
      exact Nat.lt_of_lt_of_le (by omega : (z - 9).natAbs < 2 ^ 10) (Nat.pow_le_pow_right (by decide) (by decide))
theorem some_loop {P : List D → G → Prop} {d0 s2 s3 s4 s5 s6 : Slot} : ∀ (ds : List D) (acc : List (Int × Int)) (o : Ob), RngO o → acc.length + ds.length ≤ 60 → (∀ x ∈ acc, VB 20 x) → (∀ d ∈ ds, ∃ i : Int, d = .int i) →
    (∀ (vs : List (Int × Int)) o, vs.length ≤ 60 → (∀ x ∈ vs, VB 20 x) → RngO o → P (vs.map vD) ⟨[d0, .va (.ref 0), s2, s3, s4, s5, s6, .un], [o]⟩) → qLcL (gqName 7) qYes E2_law [7] P (acc.map vD) ds ⟨[d0, .va (.ref 0), s2, s3, s4, s5, s6, .un], [o]⟩
  | [], acc, o, ho, hl, ha, hd, hP => hP acc o (by simpa using hl) ha ho
  | d :: ds, acc, o, ho, hl, ha, hd, hP => by
    obtain ⟨i, rfl⟩ := hd d (List.mem_cons_self ..)
    rw [List.length_cons] at hl
    refine ⟨ltn rfl, rfl, 0, rfl, rng0 ho, fun v o' hv ho' => ⟨by rw [List.length_map]; have := sizeLine_eq; omega, ?_⟩⟩
    have e : acc.map vD ++ [vD v] = (acc ++ [v]).map vD := by rw [List.map_append]; rfl
    show qLcL _ _ _ _ _ (acc.map vD ++ [vD v]) _ _
    rw [e]
    refine some_loop ds (acc ++ [v]) o' ho' (by rw [List.length_append]; simp only [List.length_cons, List.length_nil]; omega) (fun x hx => ?_) (fun d hd' => hd d (List.mem_cons_of_mem _ hd')) hP
    rcases List.mem_append.mp hx with hx | hx
    · exact ha x hx
    · rw [List.mem_singleton.mp hx]
      exact hv
theorem rng_ints {lo c : Int} {n : Nat} : ∀ d ∈ rngD lo c n, ∃ i : Int, d = .int i := fun d hd => by
  obtain ⟨i, _, rfl⟩ := List.mem_map.mp hd
  exact ⟨_, rfl⟩
theorem two_plain {a b : Int × Int} : (D.lst [vD a, vD b]).plain 4 = true := by
  have h := sizeLine_eq
  simp [vD, D.plain, h]
theorem cmp_rows {row : List Int} {vs : List (Int × Int)} (h1 : row.length ≤ 60) (h2 : vs.length ≤ 60) : ∃ p, Cmp (.lst [.lst (row.map .int), .lst (vs.map vD)]) p ∧ PyData.eqv p p = true := by
  have hz := sizeLine_eq
  refine plain_cmp (n := 3) (plain_lst (szl rfl) fun x hx => ?_) (by decide)
  simp only [List.mem_cons, List.not_mem_nil, or_false] at hx
  rcases hx with rfl | rfl
  · exact plain_ints (by omega)
  · refine plain_lst (by rw [List.length_map]; omega) fun x hx => ?_
    obtain ⟨v, _, rfl⟩ := List.mem_map.mp hx
    exact vD_plain
theorem drop_min {α : Type} {xs : List α} {k : Nat} : xs.drop (min k xs.length) = xs.drop k := by
  by_cases h : k ≤ xs.length
  · rw [Nat.min_eq_left h]
  · rw [Nat.min_eq_right (by omega), List.drop_eq_nil_of_le (Nat.le_refl _), List.drop_eq_nil_of_le (by omega)]
theorem turn_ok {EX : EXG} {E : QEnd} {d0 : Slot} (hE : ∀ Γ, E.nx Γ) : ∀ (n : Nat) (lo : Int) (o : Ob) (s2 s3 s4 s5 s6 : Slot), RngO o → qLoop (gqName 2) B1_law EX E (rngD lo 1 n) ⟨[d0, .va (.ref 0), s2, s3, s4, s5, s6, .un], [o]⟩
  | 0, lo, o, s2, s3, s4, s5, s6, ho => hE _
  | n + 1, lo, o, s2, s3, s4, s5, s6, ho => by
    rw [rngD_succ]
    refine ⟨ltn rfl, rfl, 0, 9, rfl, by decide, by decide, rng0 ho, fun z1 o1 a1 b1 c1 => ⟨by omega, by omega, ?_⟩⟩
    have e1 : (rngD 0 1 (1 + z1).toNat).length ≤ 60 := by rw [rngD_len]; omega
    refine row_loop _ [] o1 c1 (by simpa using e1) (fun x hx => by cases hx) rng_ints fun row o2 r1 r2 c2 => ?_
    refine ⟨ltn rfl, rfl, 0, 10, rfl, by decide, by decide, rng0 c2, fun z2 o3 a3 b3 c3 => ⟨by omega, by omega, ?_⟩⟩
    have e2 : (rngD 0 1 z2.toNat).length ≤ 60 := by rw [rngD_len]; omega
    refine some_loop _ [] o3 c3 (by simpa using e2) (fun x hx => by cases hx) rng_ints fun vs o4 v1 v2 c4 => ?_
    have l2 : ((vs.map vD).length : Int) ≤ 60 := by rw [List.length_map]; omega
    refine ⟨ltn rfl, rfl, 0, ((vs.map vD).length : Int) + 2, rfl, by omega, log_lt 32 (by omega) (by decide), rng0 c4, fun z3 o5 a5 b5 c5 => ⟨szl rfl, ltn rfl, ltn rfl, ?_⟩⟩
    obtain ⟨k, rfl⟩ := Int.eq_ofNat_of_zero_le a5
    rw [List.length_map] at b5
    refine ⟨rfl, rfl, rfl, true, row, vs, k, rfl, r1, v2, r2, rfl, row, vs, min k vs.length, ?_, r1, v1, Nat.min_le_right .., v2, r2, rfl, vD (weF (0, 1) (row.zip (vs.drop k))), 4, ?_, rfl, vD_plain, ?_⟩
    · have e : (if ((vs.map vD).length : Int) < (k : Int) then ((vs.map vD).length : Int) else (k : Int)) = ((min k vs.length : Nat) : Int) := by
        rw [List.length_map]
        split <;> omega
      show [_, _, D.int (if ((vs.map vD).length : Int) < (k : Int) then ((vs.map vD).length : Int) else (k : Int))] = _
      rw [e]
    · rw [drop_min]
      rfl
    · refine ⟨rfl, false, row, vs, 0, rfl, r1, v2, r2, szl rfl, rfl, true, row, [], 0, rfl, r1, (fun x hx => by cases hx), r2, szl rfl, rfl, row, vs, 0, rfl, r1, v1, Nat.zero_le _, v2, r2, szl rfl, szl rfl, rfl, .lst [vD (weF (0, 1) (row.zip vs)), vD (0, 1)], 4, ?_, rfl, two_plain, ?_⟩
      · rw [show row.zip (([] : List (Int × Int)).drop 0) = [] from List.zip_nil_right]
        rfl
      · obtain ⟨p, hp, he⟩ := cmp_rows r1 v1
        refine ⟨szl rfl, p, p, hp, hp, ?_⟩
        rw [he]
        exact turn_ok hE n _ _ _ _ _ _ _ c5
theorem I_law : ∀ EX ds ob R, ds.length = 1 → C_law EX ds ob R → fqOf N_law Q_law EX ds ob R := by
  rintro EX ds ob R - ⟨ns, rfl, rfl, hR⟩
  refine ⟨rfl, ns, rfl, fun o ho => ⟨ltn rfl, by decide, by decide, ?_⟩⟩
  exact turn_ok (fun Γ => hR _) 6 0 o _ _ _ _ _ ho
theorem ok_law (T : Txt fa fn xb K mg) : FOk P wd K mg base 7 d_law ["_law_script"] C_law := (W_law T (ok__law_source T) (ok__law_draw T) (ok__law_some_value T) (ok__law_equal T 5) (ok__law_weighed T) (ok_weighed T)).imp I_law
end
abbrev Rw : PySem.W.OpenRow := PySem.W.OpenLaw.row PySem.Challenge.rw_rowlaws_k02_weighed_sums
abbrev hkw : PySem.W.Hook := hookQ 5 fa fn xb
def obw (s : PySem.W.SharedT) : AlQ := obsQ 5 fa fn xb (HandSHeadRun.getT s)
theorem obw_eq (s : PySem.W.SharedT) : obw s = hkw.obs s.abs := obsQ_eq (HandSHeadRun.getT_eq s)
theorem runw (w : World) : HandSHeadRun.RunEq Rw (PySem.W.view Rw.prog [21]) hkw obw 4000 names w := by
  intro os
  kernel_rfl
end QL
open PySem PySem.W PySem.Calls PyProof.Rows
theorem PySem.Challenge.cw_rowlaws_k02_weighed_sums_holds : PySem.Challenge.rw_rowlaws_k02_weighed_sums.Holds := by
  w_on; o_law
  refine HandSHeadRun.head_any (r := OpenLaw.row PySem.Challenge.rw_rowlaws_k02_weighed_sums) (q := view (OpenLaw.row PySem.Challenge.rw_rowlaws_k02_weighed_sums).prog [21]) (H := QL.hkw) (ob := QL.obw) (M := 4000) (loose := QL.names) (d := HandSHeadRun.topDef (OpenLaw.row PySem.Challenge.rw_rowlaws_k02_weighed_sums).prog 21) (kwd := []) QL.obw_eq
    (by kernel_rfl) (fun s => by kernel_rfl) QL.runw (by kernel_rfl) (by kernel_rfl) (by kernel_rfl) (by rfl) (by first | assumption | decide +kernel) (by decide +kernel) ⟨rfl, rfl, rfl, rfl, rfl, by decide +kernel⟩ ?hw ?hc
  case hw => w_witness2
  case hc =>
    refine QL.walk_ofQ (l := PySem.Challenge.rw_rowlaws_k02_weighed_sums) (n := 63) (k := 7) (x := "_law_script") rfl (by decide) (by kernel_rfl) ⟨rfl, by decide, by decide⟩ ?_
    intro w mg f0 h Y G hmg0
    obtain ⟨K, KX, c⟩ := Y
    have T : QL.Txt QL.fa QL.fn QL.xb K mg := ⟨c, h, KX, G⟩
    have hmg : mg ("law" : PySem.Str) = some (.ref f0) := by
      have e : (HandSHeadRun.topDef (OpenLaw.row PySem.Challenge.rw_rowlaws_k02_weighed_sums).prog 21).name = ("law" : PySem.Str) := by kernel_rfl
      rw [← e]
      exact hmg0
    have e0 := hmg.symm.trans (T.glo 28 "law" rfl)
    cases e0
    obtain ⟨fd, F⟩ := T.s.c.def_ 15 (d := QL.d_law) rfl
    have b := L2.FunD.bindsA (ps := ["_law_script"]) F fun _ _ _ _ _ _ us hl => match us, hl with | [_], _ => rfl
    refine ⟨K, fd, QL.C_law, KX, fun s v => b s [v] rfl, QL.law_ends, fun base X1 X2 => ?_⟩
    obtain ⟨fd2, F2, G2⟩ := QL.ok_law (P := (PySem.Challenge.rw_rowlaws_k02_weighed_sums).prog) (wd := w) (base := base) T
    have e2 : fd2 = fd := QL.fd_same F2 F
    rw [← e2]
    exact G2
