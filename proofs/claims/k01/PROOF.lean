import PyProof.Rows.All
import Wide.All
import OpenK.AllK
import Wide.FinOn
import HandS.Base
import HandS.Call
import HandS.List
import HandS.Comp
import HandS.Ends
import HandS.Words
import HandS.Exc
import HandS.Wide
import HandS.Defaults
import HandS.Lambda
import HandS.HeadHook1
import HandS.Style
import HandS.TupAny
import HandS.TupMul
import HandS.Flow
import HandS.Dict
import HandS.Iter
import HandS.Text
import HandS.IsInst
import HandS.Zip
import HandS.RevRange
import HandS.ExcOwn
import HandS.ExcCtx
import HandS.CallSlots
import HandS.Deep
import KE.KStateDown
import HandS.More
import HandS.WordsExc
import HandS.Head0
import HandS.Head1
import HandS.Head2
import HandS.HeadEnd
import HandS.HeadHook2
import HandS.EndBits
import HandS.TryMany
import HandS.ExcField
import HandS.ExcInit
import HandS.HotCalls
import HandS.ExcInitHot
import KE.KTryMore
import HandS.HeadHook3
import HandS.HeadHook4
import HandS.EndTab
import HandS.HeadWalk
import HandS.Hot
import PySem.Challenge.RW_rowlaws_k01_values_and_sums
set_option Elab.async false
set_option linter.all false
set_option maxRecDepth 100000
set_option maxHeartbeats 0
/-! The heapless layer: what a def computes over plain data, lists and tuples as values, a store of objects. -/
namespace QL
open PySem PySem.Spec PyProof.Rows L2

/-! ### data -/
inductive D where
  | non | bl (b : Bool) | int (i : Int) | str (x : Str) | ty (n : String)
  | tup (xs : List D) | lst (xs : List D) | dic (ks : List Key) (xs : List D)
  | frl (xs : List D) | ref (n : Nat) | adr (a : Addr)
  | exc (cn : Str) (a dd : Addr) (fs : List Str) (xs : List D)

inductive Slot where
  | un | va (d : D) | ow (xs : List D) | od (ks : List Key) (xs : List D)
def Slot.own : Slot → Bool
  | .ow _ => true
  | .od _ _ => true
  | _ => false
inductive Ob where
  | lst (xs : List D) | dic (ks : List Key) (xs : List D) | ins (C : Addr) (fs : List Str) (xs : List D) | tab (P : Addr) (q : Str)
structure G where
  sl : List Slot
  ob : List Ob
/-- an exception: its class, its fields -/
structure Exc where
  cls : Str
  fs : List Str
  xs : List D

/-- a list, a dict at a, not to be written -/
def LsA (K : PySem.W.Frag) (H : Hp) (av : Addr → Prop) (a : Addr) (xs : List V) : Prop := H a = some (.lst xs) ∧ ¬ av a
/-- the script's list -/
def FrA (K : PySem.W.Frag) (H : Hp) (av : Addr → Prop) (a : Addr) (xs : List V) : Prop := (Rd H a (.lst xs) ∧ ¬ av a) ∨ (∀ H', SqL K H' a xs)
def TpA (K : PySem.W.Frag) (H : Hp) (av : Addr → Prop) (a : Addr) (xs : List V) : Prop := (Rd H a (.tup xs) ∧ ¬ av a) ∨ (∀ H', SqT K H' a xs)

mutual
def Rep (K : PySem.W.Frag) (H : Hp) (av : Addr → Prop) (w : List Addr) : D → V → Prop
  | .non, v => v = .non
  | .bl b, v => v = .bl b
  | .int i, v => v = .int i
  | .str x, v => v = .str x
  | .ty n, v => v = .ty n
  | .tup ds, v => ∃ a xs, v = .ref a ∧ TpA K H av a xs ∧ Reps K H av w ds xs
  | .lst ds, v => ∃ a xs, v = .ref a ∧ LsA K H av a xs ∧ Reps K H av w ds xs
  | .dic ks ds, v => ∃ a kvs, v = .ref a ∧ (Rd H a (.dK kvs) ∧ ¬ av a) ∧ kvs.map (·.1) = ks ∧ Reps K H av w ds (kvs.map (·.2))
  | .frl ds, v => ∃ a xs, v = .ref a ∧ FrA K H av a xs ∧ Reps K H av w ds xs
  | .ref n, v => ∃ a, v = .ref a ∧ w[n]? = some a
  | .adr a, v => v = .ref a
  | .exc _ a dd fs ds, v => v = .ref a ∧ ∃ kvs, (H dd = some (.xd kvs) ∧ ¬ av dd) ∧ kvs.map (·.1) = fs ∧ Reps K H av w ds (kvs.map (·.2))
def Reps (K : PySem.W.Frag) (H : Hp) (av : Addr → Prop) (w : List Addr) : List D → List V → Prop
  | [], xs => xs = []
  | d :: ds, xs => ∃ x r, xs = x :: r ∧ Rep K H av w d x ∧ Reps K H av w ds r
end

section
variable {K : PySem.W.Frag} {H H' : Hp} {av av' : Addr → Prop} {w w' : List Addr}
theorem rd_keep {a : Addr} {u : HO} (h : Rd H a u) (na : ¬ av a) (k : ∀ a o, H a = some o → ¬ av a → H' a = some o ∧ ¬ av' a) : Rd H' a u ∧ ¬ av' a := by
  rcases h with h | ⟨o, h⟩
  · exact ⟨.inl (k _ _ h na).1, (k _ _ h na).2⟩
  · exact ⟨.inr ⟨o, (k _ _ h na).1⟩, (k _ _ h na).2⟩
theorem LsA.keep {a : Addr} {xs : List V} (h : LsA K H av a xs) (k : ∀ a o, H a = some o → ¬ av a → H' a = some o ∧ ¬ av' a) : LsA K H' av' a xs := k _ _ h.1 h.2
theorem FrA.keep {a : Addr} {xs : List V} (h : FrA K H av a xs) (k : ∀ a o, H a = some o → ¬ av a → H' a = some o ∧ ¬ av' a) : FrA K H' av' a xs := by
  rcases h with ⟨h, na⟩ | h
  · exact .inl (rd_keep h na k)
  · exact .inr h
theorem TpA.keep {a : Addr} {xs : List V} (h : TpA K H av a xs) (k : ∀ a o, H a = some o → ¬ av a → H' a = some o ∧ ¬ av' a) : TpA K H' av' a xs := by
  rcases h with ⟨h, na⟩ | h
  · exact .inl (rd_keep h na k)
  · exact .inr h
theorem LsA.sq {a : Addr} {xs : List V} (h : LsA K H av a xs) : SqL K H a xs := SqL.of h.1
theorem FrA.sq {a : Addr} {xs : List V} (h : FrA K H av a xs) : SqL K H a xs := by
  rcases h with ⟨h, _⟩ | h
  · exact .inl h
  · exact h H
theorem TpA.sq {a : Addr} {xs : List V} (h : TpA K H av a xs) : SqT K H a xs := by
  rcases h with ⟨h, _⟩ | h
  · exact .inl h
  · exact h H
theorem pre_get {w w' : List Addr} {n : Nat} {a : Addr} (p : w <+: w') (h : w[n]? = some a) : w'[n]? = some a := by
  obtain ⟨r, rfl⟩ := p
  rw [List.getElem?_append_left (List.getElem?_eq_some_iff.mp h).1]
  exact h
mutual
theorem Rep.keep (k : ∀ a o, H a = some o → ¬ av a → H' a = some o ∧ ¬ av' a) (p : w <+: w') : ∀ {d : D} {v : V}, Rep K H av w d v → Rep K H' av' w' d v
  | .non, _, h => h
  | .bl _, _, h => h
  | .int _, _, h => h
  | .str _, _, h => h
  | .ty _, _, h => h
  | .adr _, _, h => h
  | .exc cn a dd fs ds, v, h => by
    obtain ⟨e, kvs, h1, h2, h3⟩ := h
    exact ⟨e, kvs, k _ _ h1.1 h1.2, h2, Reps.keep k p h3⟩
  | .ref n, v, h => by
    obtain ⟨a, e, h⟩ := h
    exact ⟨a, e, pre_get p h⟩
  | .tup ds, v, h => by
    obtain ⟨a, xs, e, h1, h2⟩ := h
    exact ⟨a, xs, e, h1.keep k, Reps.keep k p h2⟩
  | .lst ds, v, h => by
    obtain ⟨a, xs, e, h1, h2⟩ := h
    exact ⟨a, xs, e, h1.keep k, Reps.keep k p h2⟩
  | .frl ds, v, h => by
    obtain ⟨a, xs, e, h1, h2⟩ := h
    exact ⟨a, xs, e, h1.keep k, Reps.keep k p h2⟩
  | .dic ks ds, v, h => by
    obtain ⟨a, kvs, e, ⟨h1, h2⟩, h3, h4⟩ := h
    exact ⟨a, kvs, e, rd_keep h1 h2 k, h3, Reps.keep k p h4⟩
theorem Reps.keep (k : ∀ a o, H a = some o → ¬ av a → H' a = some o ∧ ¬ av' a) (p : w <+: w') : ∀ {ds : List D} {xs : List V}, Reps K H av w ds xs → Reps K H' av' w' ds xs
  | [], _, h => h
  | d :: ds, xs, h => by
    obtain ⟨x, r, e, h1, h2⟩ := h
    exact ⟨x, r, e, Rep.keep k p h1, Reps.keep k p h2⟩
end
theorem Reps.length : ∀ {ds : List D} {xs : List V}, Reps K H av w ds xs → xs.length = ds.length
  | [], _, h => by
    have h : _ = [] := h
    rw [h]
    rfl
  | d :: ds, xs, h => by
    obtain ⟨x, r, e, _, h2⟩ := h
    rw [e, List.length_cons, List.length_cons, Reps.length h2]
theorem Reps.get : ∀ {ds : List D} {xs : List V} {i : Nat} {d : D}, Reps K H av w ds xs → ds[i]? = some d → ∃ x, xs[i]? = some x ∧ Rep K H av w d x
  | [], _, i, d, _, h => by simp at h
  | d' :: ds, xs, 0, d, h, e => by
    obtain ⟨x, r, rfl, h1, _⟩ := h
    have e : d' = d := Option.some.inj e
    subst e
    exact ⟨x, rfl, h1⟩
  | d' :: ds, xs, i + 1, d, h, e => by
    obtain ⟨x, r, rfl, _, h2⟩ := h
    exact Reps.get h2 (i := i) (by simpa using e)
theorem Reps.append : ∀ {ds es : List D} {xs ys : List V}, Reps K H av w ds xs → Reps K H av w es ys → Reps K H av w (ds ++ es) (xs ++ ys)
  | [], es, xs, ys, h, h' => by
    have h : xs = [] := h
    rw [h]
    exact h'
  | d :: ds, es, xs, ys, h, h' => by
    obtain ⟨x, r, rfl, h1, h2⟩ := h
    exact ⟨x, r ++ ys, rfl, h1, Reps.append h2 h'⟩
theorem Reps.one {d : D} {x : V} (h : Rep K H av w d x) : Reps K H av w [d] [x] := ⟨x, [], rfl, h, rfl⟩
theorem Reps.cons {d : D} {x : V} {ds : List D} {xs : List V} (h : Rep K H av w d x) (h' : Reps K H av w ds xs) : Reps K H av w (d :: ds) (x :: xs) := ⟨x, xs, rfl, h, h'⟩
theorem Reps.take : ∀ {ds : List D} {xs : List V} (n : Nat), Reps K H av w ds xs → Reps K H av w (ds.take n) (xs.take n)
  | [], xs, n, h => by
    have h : xs = [] := h
    rw [h, List.take_nil, List.take_nil]
    rfl
  | d :: ds, xs, 0, h => rfl
  | d :: ds, xs, n + 1, h => by
    obtain ⟨x, r, rfl, h1, h2⟩ := h
    exact ⟨x, r.take n, rfl, h1, Reps.take n h2⟩
theorem Reps.drop : ∀ {ds : List D} {xs : List V} (n : Nat), Reps K H av w ds xs → Reps K H av w (ds.drop n) (xs.drop n)
  | [], xs, n, h => by
    have h : xs = [] := h
    rw [h, List.drop_nil, List.drop_nil]
    rfl
  | d :: ds, xs, 0, h => h
  | d :: ds, xs, n + 1, h => by
    obtain ⟨x, r, rfl, h1, h2⟩ := h
    exact Reps.drop n h2
theorem Reps.set : ∀ {ds : List D} {xs : List V} (n : Nat) {d : D} {x : V}, Reps K H av w ds xs → Rep K H av w d x → Reps K H av w (ds.set n d) (xs.set n x)
  | [], xs, n, d, x, h, _ => by
    have h : xs = [] := h
    rw [h]
    rfl
  | d' :: ds, xs, 0, d, x, h, h' => by
    obtain ⟨y, r, rfl, h1, h2⟩ := h
    exact ⟨x, r, rfl, h', h2⟩
  | d' :: ds, xs, n + 1, d, x, h, h' => by
    obtain ⟨y, r, rfl, h1, h2⟩ := h
    exact ⟨y, r.set n x, rfl, h1, Reps.set n h2 h'⟩
theorem Reps.reverse : ∀ {ds : List D} {xs : List V}, Reps K H av w ds xs → Reps K H av w ds.reverse xs.reverse
  | [], xs, h => by
    have h : xs = [] := h
    rw [h]
    rfl
  | d :: ds, xs, h => by
    obtain ⟨x, r, rfl, h1, h2⟩ := h
    rw [List.reverse_cons, List.reverse_cons]
    exact (Reps.reverse h2).append (Reps.one h1)
end

/-! ### what is fixed while a body runs -/
structure C0 where
  w0 : List Addr
  H0 : Hp
  hid : Hp
def OwnAt (σ : L2.St) (Γ : G) (i : Nat) (a : Addr) : Prop := σ[i]? = some (some (.ref a)) ∧ ∃ s, Γ.sl[i]? = some s ∧ s.own = true
def Av (c : C0) (w : List Addr) (σ : L2.St) (Γ : G) (a : Addr) : Prop := a ∈ w ∨ (∃ o, c.hid a = some o) ∨ ∃ i, OwnAt σ Γ i a
def SlR (K : PySem.W.Frag) (H : Hp) (av : Addr → Prop) (w : List Addr) : Slot → Option V → Prop
  | .un, _ => True
  | .va d, o => ∃ v, o = some v ∧ Rep K H av w d v
  | .ow ds, o => ∃ a xs, o = some (.ref a) ∧ H a = some (.lst xs) ∧ Reps K H av w ds xs
  | .od ks ds, o => ∃ a kvs, o = some (.ref a) ∧ H a = some (.dK kvs) ∧ kvs.map (·.1) = ks ∧ Reps K H av w ds (kvs.map (·.2))
def ObR (K : PySem.W.Frag) (H : Hp) (av : Addr → Prop) (w : List Addr) (a : Addr) : Ob → Prop
  | .lst ds => ∃ xs, H a = some (.lst xs) ∧ Reps K H av w ds xs
  | .dic ks ds => ∃ kvs, H a = some (.dK kvs) ∧ kvs.map (·.1) = ks ∧ Reps K H av w ds (kvs.map (·.2))
  | .ins C fs ds => ∃ dx kvs, H a = some (.ins C dx kvs) ∧ kvs.map (·.1) = fs ∧ Reps K H av w ds (kvs.map (·.2))
  | .tab P q => a = P ∧ ∃ ps : Array Value, H a = some (.tbl ps) ∧ TriplesOk ps.toList ∧ ∀ (pos : Pos) (cv : Value), codeAmong pos ps.toList = some cv → ∃ c, cv = .ref c ∧ H c = some (LamX.CodeO c q) ∧ ¬ av c
theorem SlR.keep {K : PySem.W.Frag} {H H' : Hp} {av av' : Addr → Prop} {w w' : List Addr} (k : ∀ a o, H a = some o → ¬ av a → H' a = some o ∧ ¬ av' a) (p : w <+: w') {s : Slot} {o : Option V}
    (ko : s.own = true → ∀ a u, o = some (.ref a) → H a = some u → H' a = some u) (h : SlR K H av w s o) : SlR K H' av' w' s o := by
  cases s with
  | un => trivial
  | va d =>
    obtain ⟨v, e, r⟩ := h
    exact ⟨v, e, r.keep k p⟩
  | ow ds =>
    obtain ⟨a, xs, e, h1, r⟩ := h
    exact ⟨a, xs, e, ko rfl a _ e h1, r.keep k p⟩
  | od ks ds =>
    obtain ⟨a, kvs, e, h1, h2, r⟩ := h
    exact ⟨a, kvs, e, ko rfl a _ e h1, h2, r.keep k p⟩
theorem ObR.keep {K : PySem.W.Frag} {H H' : Hp} {av av' : Addr → Prop} {w w' : List Addr} {a : Addr} (k : ∀ a o, H a = some o → ¬ av a → H' a = some o ∧ ¬ av' a) (p : w <+: w') {s : Ob}
    (ko : ∀ u, H a = some u → H' a = some u) (h : ObR K H av w a s) : ObR K H' av' w' a s := by
  cases s with
  | lst ds =>
    obtain ⟨xs, h1, r⟩ := h
    exact ⟨xs, ko _ h1, r.keep k p⟩
  | dic ks ds =>
    obtain ⟨kvs, h1, h2, r⟩ := h
    exact ⟨kvs, ko _ h1, h2, r.keep k p⟩
  | ins C fs ds =>
    obtain ⟨dx, kvs, h1, h2, r⟩ := h
    exact ⟨dx, kvs, ko _ h1, h2, r.keep k p⟩
  | tab P q =>
    obtain ⟨h0, ps, h1, h2, h3⟩ := h
    refine ⟨h0, ps, ko _ h1, h2, fun pos cv e => ?_⟩
    obtain ⟨c, e1, e2, e3⟩ := h3 pos cv e
    exact ⟨c, e1, k _ _ e2 e3⟩

/-- the state is told by Γ -/
structure ER (K : PySem.W.Frag) (c : C0) (w : List Addr) (H : Hp) (σ : L2.St) (Γ : G) : Prop where
  len : σ.length = Γ.sl.length
  wl : w.length = Γ.ob.length
  wn : w.Nodup
  on : ∀ (i j : Nat) a, OwnAt σ Γ i a → OwnAt σ Γ j a → i = j
  ow : ∀ (i : Nat) a, OwnAt σ Γ i a → a ∉ w ∧ c.hid a = none ∧ c.H0 a = none
  sl : ∀ (i : Nat) s, Γ.sl[i]? = some s → SlR K H (Av c w σ Γ) w s (σ[i]?.join)
  ob : ∀ (n : Nat) a o, w[n]? = some a → Γ.ob[n]? = some o → ObR K H (Av c w σ Γ) w a o
  fr : ∀ a o, c.H0 a = some o → a ∉ c.w0 → H a = some o ∧ a ∉ w
  pre : c.w0 <+: w
  hid : ∀ a o, c.hid a = some o → H a = some o ∧ a ∉ w
/-- from a state to a later one: what is not written stays -/
structure Stp (c : C0) (w : List Addr) (σ : L2.St) (Γ : G) (H : Hp) (w' : List Addr) (σ' : L2.St) (Γ' : G) (H' : Hp) : Prop where
  keep : ∀ a o, H a = some o → ¬ Av c w σ Γ a → H' a = some o ∧ ¬ Av c w' σ' Γ' a
  pre : w <+: w'
theorem Stp.refl {c : C0} {w : List Addr} {σ : L2.St} {Γ : G} {H : Hp} : Stp c w σ Γ H w σ Γ H := ⟨fun _ _ h n => ⟨h, n⟩, List.prefix_refl _⟩
theorem Stp.trans {c : C0} {w w1 w2 : List Addr} {σ σ1 σ2 : L2.St} {Γ Γ1 Γ2 : G} {H H1 H2 : Hp} (a : Stp c w σ Γ H w1 σ1 Γ1 H1) (b : Stp c w1 σ1 Γ1 H1 w2 σ2 Γ2 H2) : Stp c w σ Γ H w2 σ2 Γ2 H2 :=
  ⟨fun x o h n => b.keep x o (a.keep x o h n).1 (a.keep x o h n).2, a.pre.trans b.pre⟩
theorem Stp.same {c : C0} {w : List Addr} {σ : L2.St} {Γ : G} {H H' : Hp} (e : Same H H') : Stp c w σ Γ H w σ Γ H' := ⟨fun a o h n => ⟨e a o h, n⟩, List.prefix_refl _⟩
section
variable {K : PySem.W.Frag} {c : C0} {w w' : List Addr} {H H' : Hp} {σ : L2.St} {Γ Γ' : G}
theorem Rep.stp {σ' : L2.St} {d : D} {v : V} (r : Rep K H (Av c w σ Γ) w d v) (s : Stp c w σ Γ H w' σ' Γ' H') : Rep K H' (Av c w' σ' Γ') w' d v := r.keep s.keep s.pre
theorem Reps.stp {σ' : L2.St} {d : List D} {v : List V} (r : Reps K H (Av c w σ Γ) w d v) (s : Stp c w σ Γ H w' σ' Γ' H') : Reps K H' (Av c w' σ' Γ') w' d v := r.keep s.keep s.pre
theorem own_ref {i : Nat} {a : Addr} (h : σ[i]?.join = some (.ref a)) : σ[i]? = some (some (.ref a)) := by
  cases q : σ[i]? with
  | none =>
    rw [q] at h
    cases h
  | some o =>
    rw [q] at h
    have h : o = some (.ref a) := h
    rw [h]
theorem ER.same (e : ER K c w H σ Γ) (s : Same H H') : ER K c w H' σ Γ where
  len := e.len
  wl := e.wl
  wn := e.wn
  on := e.on
  ow := e.ow
  sl := fun i sl h => (e.sl i sl h).keep (fun a o h n => ⟨s a o h, n⟩) (List.prefix_refl _) fun _ a u _ h => s a u h
  ob := fun n a o h h' => (e.ob n a o h h').keep (fun a o h n => ⟨s a o h, n⟩) (List.prefix_refl _) fun u h => s a u h
  fr := fun a o h n => ⟨s a o (e.fr a o h n).1, (e.fr a o h n).2⟩
  pre := e.pre
  hid := fun a o h => ⟨s a o (e.hid a o h).1, (e.hid a o h).2⟩
/-- what is avoided is tracked -/
theorem ER.tracked (e : ER K c w H σ Γ) {a : Addr} (h : Av c w σ Γ a) : ∃ o, H a = some o := by
  rcases h with h | ⟨o, h⟩ | ⟨i, h1, s, h2, h3⟩
  · obtain ⟨n, hn⟩ := List.getElem?_of_mem h
    have hl : n < Γ.ob.length := by
      have := (List.getElem?_eq_some_iff.mp hn).1
      rw [e.wl] at this
      exact this
    have x := e.ob n a _ hn (List.getElem?_eq_getElem hl)
    cases q : Γ.ob[n] with
    | lst ds =>
      rw [q] at x
      obtain ⟨xs, h, _⟩ := x
      exact ⟨_, h⟩
    | dic ks ds =>
      rw [q] at x
      obtain ⟨xs, h, _⟩ := x
      exact ⟨_, h⟩
    | ins C fs ds =>
      rw [q] at x
      obtain ⟨dx, xs, h, _⟩ := x
      exact ⟨_, h⟩
    | tab PP qq =>
      rw [q] at x
      obtain ⟨_, ps, h, _⟩ := x
      exact ⟨_, h⟩
  · exact ⟨o, (e.hid a o h).1⟩
  · have x := e.sl i s h2
    rw [h1] at x
    cases s with
    | un => cases h3
    | va d => cases h3
    | ow ds =>
      obtain ⟨b, xs, e1, h, _⟩ := x
      have e1 : some (V.ref a) = some (.ref b) := e1
      cases e1
      exact ⟨_, h⟩
    | od ks ds =>
      obtain ⟨b, xs, e1, h, _⟩ := x
      have e1 : some (V.ref a) = some (.ref b) := e1
      cases e1
      exact ⟨_, h⟩
theorem ER.fresh (e : ER K c w H σ Γ) {p : Addr} (h : H p = none) : ¬ Av c w σ Γ p := fun z => by
  obtain ⟨o, q⟩ := e.tracked z
  rw [h] at q
  cases q
theorem ER.fresh0 (e : ER K c w H σ Γ) {p : Addr} (h : H p = none) (hw : p ∉ w) : c.H0 p = none := by
  cases q : c.H0 p with
  | none => rfl
  | some o =>
    by_cases hp : p ∈ c.w0
    · exact absurd (e.pre.subset hp) hw
    · have := (e.fr p o q hp).1
      rw [h] at this
      cases this
theorem same_new {p : Addr} {o : HO} (h : H p = none) : Same H (upd H p o) := fun b u e => by
  rw [upd_ne (ne_of_none e h)]
  exact e
theorem TpA.new {p : Addr} {xs : List V} {av : Addr → Prop} (h : ¬ av p) : TpA K (upd H p (.tup xs)) av p xs := .inl ⟨.inl upd_same, h⟩
theorem LsA.new {p : Addr} {xs : List V} {av : Addr → Prop} (h : ¬ av p) : LsA K (upd H p (.lst xs)) av p xs := ⟨upd_same, h⟩
end
end QL
namespace QL
open PySem PySem.Spec PyProof.Rows L2

/-! ### what pieces of code come to, over Γ -/
abbrev EXG := Exc → G → Prop
abbrev QE := EXG → G → (D → G → Prop) → Prop
abbrev QT := EXG → G → (Bool → G → Prop) → Prop
abbrev QA := EXG → G → (List D → G → Prop) → Prop
structure QEnd where
  nx : G → Prop
  rt : D → G → Prop
  bk : G → Prop := fun _ => False
  ct : G → Prop := fun _ => False
abbrev QS := EXG → QEnd → G → Prop
/-- a new list: its items -/
abbrev QL_ := EXG → G → (List D → G → Prop) → Prop

def ExR (K : PySem.W.Frag) (c : C0) (w : List Addr) (σ : L2.St) (Γ : G) (H : Hp) (e : Exc) (cls : Value) (d : Option Addr) : Prop :=
  cls = .ref (He.ga K e.cls) ∧ ∃ dd kvs, d = some dd ∧ H dd = some (.xd kvs) ∧ ¬ Av c w σ Γ dd ∧ kvs.map (·.1) = e.fs ∧ Reps K H (Av c w σ Γ) w e.xs (kvs.map (·.2))
/-- what is wanted of exceptions is enough -/
def XL (K : PySem.W.Frag) (c : C0) (W : WX) (w : List Addr) (σ : L2.St) (Γ : G) (H : Hp) (EX : EXG) : Prop :=
  ∀ e Γ' w' σ' H' cls d, EX e Γ' → Stp c w σ Γ H w' σ' Γ' H' → ER K c w' H' σ' Γ' → ExR K c w' σ' Γ' H' e cls d → W cls d σ' H'
theorem XL.stp {K : PySem.W.Frag} {c : C0} {W : WX} {w w' : List Addr} {σ σ' : L2.St} {Γ Γ' : G} {H H' : Hp} {EX : EXG} (x : XL K c W w σ Γ H EX) (s : Stp c w σ Γ H w' σ' Γ' H') : XL K c W w' σ' Γ' H' EX :=
  fun e Γ2 w2 σ2 H2 cls d h1 h2 h3 h4 => x e Γ2 w2 σ2 H2 cls d h1 (s.trans h2) h3 h4

def liftE (K : PySem.W.Frag) (c : C0) (W : WX) (q : QE) : TE := fun σ H Q => ∃ w Γ P EX, ER K c w H σ Γ ∧ q EX Γ P ∧ XL K c W w σ Γ H EX ∧
  ∀ d Γ' w' H' v, P d Γ' → Stp c w σ Γ H w' σ Γ' H' → ER K c w' H' σ Γ' → Rep K H' (Av c w' σ Γ') w' d v → Q v H'
def liftT (K : PySem.W.Frag) (c : C0) (W : WX) (q : QT) : TT := fun σ H Q => ∃ w Γ P EX, ER K c w H σ Γ ∧ q EX Γ P ∧ XL K c W w σ Γ H EX ∧
  ∀ b Γ' w' H', P b Γ' → Stp c w σ Γ H w' σ Γ' H' → ER K c w' H' σ Γ' → Q b H'
def liftA (K : PySem.W.Frag) (c : C0) (W : WX) (q : QA) : TA := fun σ H Q => ∃ w Γ P EX, ER K c w H σ Γ ∧ q EX Γ P ∧ XL K c W w σ Γ H EX ∧
  ∀ ds Γ' w' H' vs, P ds Γ' → Stp c w σ Γ H w' σ Γ' H' → ER K c w' H' σ Γ' → Reps K H' (Av c w' σ Γ') w' ds vs → Q vs H'
/-- a new list: the state ahead of its laying -/
def liftL (K : PySem.W.Frag) (c : C0) (W : WX) (q : QL_) : TE := fun σ H Q => ∃ w Γ P EX, ER K c w H σ Γ ∧ q EX Γ P ∧ XL K c W w σ Γ H EX ∧
  ∀ ds Γ' w' H' p xs, P ds Γ' → Stp c w σ Γ H w' σ Γ' H' → ER K c w' H' σ Γ' → H' p = none → Reps K H' (Av c w' σ Γ') w' ds xs → Q (.ref p) (upd H' p (.lst xs))
/-- the ends are reached -/
structure EO (K : PySem.W.Frag) (c : C0) (w : List Addr) (σ : L2.St) (Γ : G) (H : Hp) (E : QEnd) (D : Ends) : Prop where
  nx : ∀ Γ' w' σ' H', E.nx Γ' → Stp c w σ Γ H w' σ' Γ' H' → ER K c w' H' σ' Γ' → D.nx σ' H'
  rt : ∀ d Γ' w' σ' H' v, E.rt d Γ' → Stp c w σ Γ H w' σ' Γ' H' → ER K c w' H' σ' Γ' → Rep K H' (Av c w' σ' Γ') w' d v → D.rt v H'
  bk : ∀ Γ' w' σ' H', E.bk Γ' → Stp c w σ Γ H w' σ' Γ' H' → ER K c w' H' σ' Γ' → D.bk σ' H'
  ct : ∀ Γ' w' σ' H', E.ct Γ' → Stp c w σ Γ H w' σ' Γ' H' → ER K c w' H' σ' Γ' → D.ct σ' H'
theorem EO.stp {K : PySem.W.Frag} {c : C0} {w w' : List Addr} {σ σ' : L2.St} {Γ Γ' : G} {H H' : Hp} {E : QEnd} {D : Ends} (o : EO K c w σ Γ H E D) (s : Stp c w σ Γ H w' σ' Γ' H') : EO K c w' σ' Γ' H' E D :=
  ⟨fun a b d e h1 h2 h3 => o.nx a b d e h1 (s.trans h2) h3, fun a b d e f g h1 h2 h3 h4 => o.rt a b d e f g h1 (s.trans h2) h3 h4, fun a b d e h1 h2 h3 => o.bk a b d e h1 (s.trans h2) h3, fun a b d e h1 h2 h3 => o.ct a b d e h1 (s.trans h2) h3⟩
def liftS (K : PySem.W.Frag) (c : C0) (W : WX) (q : QS) : TS := fun D σ H => ∃ w Γ E EX, ER K c w H σ Γ ∧ q EX E Γ ∧ XL K c W w σ Γ H EX ∧ EO K c w σ Γ H E D
def QEx (X : Cx) (W : WX) (e : Expr) (q : QE) : Prop := ∀ c, PE X e (liftE X.K c W q)
def QTx (X : Cx) (W : WX) (e : Expr) (q : QT) : Prop := ∀ c, PT X e (liftT X.K c W q)
def QAx (X : Cx) (W : WX) (es : List Expr) (q : QA) : Prop := ∀ c, PA X es (liftA X.K c W q)
def QLx (X : Cx) (W : WX) (e : Expr) (q : QL_) : Prop := ∀ c, PE X e (liftL X.K c W q)
def QSx (X : Cx) (W : WX) (st : Stmt) (q : QS) : Prop := ∀ c, PS X st (liftS X.K c W q)
def QSs (X : Cx) (W : WX) (st : List Stmt) (q : QS) : Prop := ∀ c, PSs X st (liftS X.K c W q)

section
variable {X : Cx} {W : WX}
theorem PEi {e : Expr} {t t' : TE} (h : PE X e t) (i : ∀ σ H Q, t' σ H Q → t σ H Q) : PE X e t' := ⟨fun pins s σ H Q I q => h.run pins s σ H Q I (i σ H Q q)⟩
theorem PTi {e : Expr} {t t' : TT} (h : PT X e t) (i : ∀ σ H Q, t' σ H Q → t σ H Q) : PT X e t' := ⟨fun pins s σ H Q I q => h.run pins s σ H Q I (i σ H Q q)⟩
theorem PAi {e : List Expr} {t t' : TA} (h : PA X e t) (i : ∀ σ H Q, t' σ H Q → t σ H Q) : PA X e t' := ⟨fun pos pins s σ H Q I q => h.run pos pins s σ H Q I (i σ H Q q)⟩
theorem PSi {e : Stmt} {t t' : TS} (h : PS X e t) (i : ∀ D σ H, t' D σ H → t D σ H) : PS X e t' := ⟨fun pins s σ H D I q => h.run pins s σ H D I (i D σ H q)⟩
theorem PSsi {e : List Stmt} {t t' : TS} (h : PSs X e t) (i : ∀ D σ H, t' D σ H → t D σ H) : PSs X e t' := ⟨fun pins s σ H D I q => h.run pins s σ H D I (i D σ H q)⟩

/-- a fork -/
def qB : Bool → Prop → Prop → Prop
  | true, p, _ => p
  | false, _, q => q
theorem qB_i {b : Bool} {p q : Prop} (h1 : b = true → p) (h2 : b = false → q) : qB b p q := by
  cases b with
  | true => exact h1 rfl
  | false => exact h2 rfl
/-! ### constants, names -/
def qC (d : D) : QE := fun _ Γ P => P d Γ
theorem q_const {e : Expr} {v : V} {d : D} (h : PE X e (tC v)) (r : ∀ H av w, Rep X.K H av w d v) : QEx X W e (qC d) := fun c => PEi h fun σ H Q ⟨w, Γ, P, EX, er, q, x, k⟩ =>
  k d Γ w H v q Stp.refl er (r _ _ _)
theorem q_int {i j pos} : QEx X W (.Constant (.int i) j pos) (qC (.int i)) := q_const pe_int fun _ _ _ => rfl
theorem q_bl {i j pos} : QEx X W (.Constant (.bool i) j pos) (qC (.bl i)) := q_const pe_bl fun _ _ _ => rfl
theorem q_non {j pos} : QEx X W (.Constant .none j pos) (qC .non) := q_const pe_non fun _ _ _ => rfl
theorem q_str {x j pos} : QEx X W (.Constant (.str x) j pos) (qC (.str x)) := q_const pe_str fun _ _ _ => rfl
/-- reading a slot: what was one's own is handed on, not to be written any more -/
def Slot.rd : Slot → Option D
  | .un => none
  | .va d => some d
  | .ow ds => some (.lst ds)
  | .od ks ds => some (.dic ks ds)
def Slot.frz : Slot → Slot
  | .ow ds => .va (.lst ds)
  | .od ks ds => .va (.dic ks ds)
  | s => s
def qVar (i : Nat) : QE := fun _ Γ P => match Γ.sl[i]? with
  | some (.va d) => P d Γ
  | some (.ow ds) => P (.lst ds) ⟨Γ.sl.set i (.va (.lst ds)), Γ.ob⟩
  | some (.od ks ds) => P (.dic ks ds) ⟨Γ.sl.set i (.va (.dic ks ds)), Γ.ob⟩
  | _ => False
section
variable {K : PySem.W.Frag} {c : C0} {w : List Addr} {H : Hp} {σ : L2.St} {Γ : G}
/-- a slot that is one's own is given up -/
theorem own_frz {i : Nat} {s : Slot} (hs : Γ.sl[i]? = some s) {j : Nat} {a : Addr} {d : D} (h : OwnAt σ ⟨Γ.sl.set i (.va d), Γ.ob⟩ j a) : OwnAt σ Γ j a ∧ j ≠ i := by
  obtain ⟨h1, t, h2, h3⟩ := h
  by_cases e : j = i
  · subst e
    have h2 : (Γ.sl.set j (.va d))[j]? = some t := h2
    rw [List.getElem?_set_self (List.getElem?_eq_some_iff.mp hs).1] at h2
    cases h2
    cases h3
  · have h2 : (Γ.sl.set i (.va d))[j]? = some t := h2
    rw [List.getElem?_set_ne (fun z => e z.symm)] at h2
    exact ⟨⟨h1, t, h2, h3⟩, e⟩
theorem av_frz {i : Nat} {s : Slot} (hs : Γ.sl[i]? = some s) {a : Addr} {d : D} (h : Av c w σ ⟨Γ.sl.set i (.va d), Γ.ob⟩ a) : Av c w σ Γ a := by
  rcases h with h | h | ⟨j, h⟩
  · exact .inl h
  · exact .inr (.inl h)
  · exact .inr (.inr ⟨j, (own_frz hs h).1⟩)
theorem stp_frz {i : Nat} {s : Slot} (hs : Γ.sl[i]? = some s) {d : D} : Stp c w σ Γ H w σ ⟨Γ.sl.set i (.va d), Γ.ob⟩ H := ⟨fun a o h n => ⟨h, fun z => n (av_frz hs z)⟩, List.prefix_refl _⟩
/-- the slot's datum is known otherwise -/
theorem ER.frz (e : ER K c w H σ Γ) {i : Nat} {s : Slot} {d : D} (hs : Γ.sl[i]? = some s) (h : SlR K H (Av c w σ ⟨Γ.sl.set i (.va d), Γ.ob⟩) w (.va d) (σ[i]?.join)) : ER K c w H σ ⟨Γ.sl.set i (.va d), Γ.ob⟩ where
  len := by
    show σ.length = (Γ.sl.set i _).length
    rw [List.length_set]
    exact e.len
  wl := e.wl
  wn := e.wn
  on := fun a b x h1 h2 => e.on a b x (own_frz hs h1).1 (own_frz hs h2).1
  ow := fun a x h => e.ow a x (own_frz hs h).1
  sl := fun j t ht => by
    by_cases q : j = i
    · subst q
      have ht : (Γ.sl.set j (.va d))[j]? = some t := ht
      rw [List.getElem?_set_self (List.getElem?_eq_some_iff.mp hs).1] at ht
      cases ht
      exact h
    · have ht : (Γ.sl.set i (.va d))[j]? = some t := ht
      rw [List.getElem?_set_ne (fun z => q z.symm)] at ht
      exact (e.sl j t ht).keep (stp_frz hs).keep (List.prefix_refl _) fun _ a u _ h => h
  ob := fun n a o h1 h2 => (e.ob n a o h1 h2).keep (stp_frz hs).keep (List.prefix_refl _) fun _ h => h
  fr := e.fr
  pre := e.pre
  hid := e.hid
/-- what a slot holds -/
theorem ER.at_va (e : ER K c w H σ Γ) {i : Nat} {d : D} (hs : Γ.sl[i]? = some (.va d)) : ∃ v, σ[i]? = some (some v) ∧ Rep K H (Av c w σ Γ) w d v := by
  obtain ⟨v, h, r⟩ := e.sl i _ hs
  refine ⟨v, ?_, r⟩
  cases q : σ[i]? with
  | none =>
    rw [q] at h
    cases h
  | some o =>
    rw [q] at h
    have h : o = some v := h
    rw [h]
theorem ER.at_ow (e : ER K c w H σ Γ) {i : Nat} {ds : List D} (hs : Γ.sl[i]? = some (.ow ds)) : ∃ a xs, σ[i]? = some (some (.ref a)) ∧ H a = some (.lst xs) ∧ Reps K H (Av c w σ Γ) w ds xs ∧ OwnAt σ Γ i a := by
  obtain ⟨a, xs, h, h1, r⟩ := e.sl i _ hs
  exact ⟨a, xs, own_ref h, h1, r, own_ref h, _, hs, rfl⟩
theorem ER.at_od (e : ER K c w H σ Γ) {i : Nat} {ks : List Key} {ds : List D} (hs : Γ.sl[i]? = some (.od ks ds)) :
    ∃ a kvs, σ[i]? = some (some (.ref a)) ∧ H a = some (.dK kvs) ∧ kvs.map (·.1) = ks ∧ Reps K H (Av c w σ Γ) w ds (kvs.map (·.2)) ∧ OwnAt σ Γ i a := by
  obtain ⟨a, xs, h, h1, h2, r⟩ := e.sl i _ hs
  exact ⟨a, xs, own_ref h, h1, h2, r, own_ref h, _, hs, rfl⟩
/-- .. handed on, it is avoided no more -/
theorem not_av_frz (e : ER K c w H σ Γ) {i : Nat} {a : Addr} {d : D} (h : OwnAt σ Γ i a) : ¬ Av c w σ ⟨Γ.sl.set i (.va d), Γ.ob⟩ a := fun z => by
  obtain ⟨_, s, hs, _⟩ := id h
  rcases z with z | ⟨o, z⟩ | ⟨j, z⟩
  · exact (e.ow i a h).1 z
  · rw [(e.ow i a h).2.1] at z
    cases z
  · obtain ⟨z1, z2⟩ := own_frz hs z
    exact z2 (e.on _ _ _ z1 h)
theorem ER.frz_ow (e : ER K c w H σ Γ) {i : Nat} {ds : List D} (hs : Γ.sl[i]? = some (.ow ds)) : ∃ v, σ[i]? = some (some v) ∧ ER K c w H σ ⟨Γ.sl.set i (.va (.lst ds)), Γ.ob⟩ ∧ Rep K H (Av c w σ ⟨Γ.sl.set i (.va (.lst ds)), Γ.ob⟩) w (.lst ds) v := by
  obtain ⟨a, xs, h, h1, r, o⟩ := e.at_ow hs
  have na := not_av_frz (d := .lst ds) e o
  have rr : Rep K H (Av c w σ ⟨Γ.sl.set i (.va (.lst ds)), Γ.ob⟩) w (.lst ds) (.ref a) := ⟨a, xs, rfl, ⟨h1, na⟩, r.stp (stp_frz (σ := σ) hs)⟩
  exact ⟨_, h, e.frz hs ⟨_, by rw [h] <;> rfl, rr⟩, rr⟩
theorem ER.frz_od (e : ER K c w H σ Γ) {i : Nat} {ks : List Key} {ds : List D} (hs : Γ.sl[i]? = some (.od ks ds)) : ∃ v, σ[i]? = some (some v) ∧ ER K c w H σ ⟨Γ.sl.set i (.va (.dic ks ds)), Γ.ob⟩ ∧ Rep K H (Av c w σ ⟨Γ.sl.set i (.va (.dic ks ds)), Γ.ob⟩) w (.dic ks ds) v := by
  obtain ⟨a, kvs, h, h1, h2, r, o⟩ := e.at_od hs
  have na := not_av_frz (d := .dic ks ds) e o
  have rr : Rep K H (Av c w σ ⟨Γ.sl.set i (.va (.dic ks ds)), Γ.ob⟩) w (.dic ks ds) (.ref a) := ⟨a, kvs, rfl, ⟨.inl h1, na⟩, h2, r.stp (stp_frz (σ := σ) hs)⟩
  exact ⟨_, h, e.frz hs ⟨_, by rw [h] <;> rfl, rr⟩, rr⟩
end
theorem q_var (i : Nat) {x : Str} {pos : Pos} (hN : X.N[i]? = some x := by rfl) (hv : Vis X.env.scope x := by first | exact Or.inl rfl | exact Or.inr (Or.inl rfl) | exact Or.inr (Or.inr rfl)) (hd : (x == ("__debug__" : Str)) = false := by decide)
    (hcd : (x == ("__classdict__" : Str)) = false := by decide) : QEx X W (.Name x pos) (qVar i) := fun c => PEi (pe_var hN hv hd hcd) fun σ H Q ⟨w, Γ, P, EX, er, q, x, k⟩ => by
  unfold qVar at q
  cases hs : Γ.sl[i]? with
  | none =>
    rw [hs] at q
    exact q.elim
  | some s =>
    rw [hs] at q
    cases s with
    | un => exact q.elim
    | va d =>
      obtain ⟨v, h1, h2⟩ := er.at_va hs
      exact ⟨v, h1, k d Γ w H v q Stp.refl er h2⟩
    | ow ds =>
      obtain ⟨v, h1, h2, h3⟩ := er.frz_ow hs
      exact ⟨v, h1, k _ _ w H v q (stp_frz hs) h2 h3⟩
    | od ks ds =>
      obtain ⟨v, h1, h2, h3⟩ := er.frz_od hs
      exact ⟨v, h1, k _ _ w H v q (stp_frz hs) h2 h3⟩

/-! ### operations by values -/
abbrev QO2 := D → D → G → (D → G → Prop) → Prop
def Lift2 (K : PySem.W.Frag) (r : R2) (o : QO2) : Prop := ∀ c w Γ H σ x y u v (P : D → G → Prop) (Q : VK), ER K c w H σ Γ → Rep K H (Av c w σ Γ) w x u → Rep K H (Av c w σ Γ) w y v → o x y Γ P →
  (∀ d Γ' w' H' z, P d Γ' → Stp c w σ Γ H w' σ Γ' H' → ER K c w' H' σ Γ' → Rep K H' (Av c w' σ Γ') w' d z → Q z H') → r u v H Q
def qOp (o : QO2) (qa qb : QE) : QE := fun EX Γ P => qa EX Γ fun x Γ1 => qb EX Γ1 fun y Γ2 => o x y Γ2 P
theorem lift_op {r : R2} {o : QO2} (l : Lift2 X.K r o) {qa qb : QE} {c : C0} {σ : L2.St} {H : Hp} {Q : VK} (h : liftE X.K c W (qOp o qa qb) σ H Q) : tOp r (liftE X.K c W qa) (liftE X.K c W qb) σ H Q := by
  obtain ⟨w, Γ, P, EX, er, q, x, k⟩ := h
  refine ⟨w, Γ, _, EX, er, q, x, fun d Γ1 w1 H1 u q1 s1 e1 r1 => ?_⟩
  refine ⟨w1, Γ1, _, EX, e1, q1, x.stp s1, fun d2 Γ2 w2 H2 v q2 s2 e2 r2 => ?_⟩
  exact l c w2 Γ2 H2 σ d d2 u v P Q e2 (r1.stp s2) r2 q2 fun d3 Γ3 w3 H3 z q3 s3 e3 r3 => k d3 Γ3 w3 H3 z q3 ((s1.trans s2).trans s3) e3 r3
theorem q_op {op : Operator} {r : R2} {o : QO2} {a b : Expr} {qa qb : QE} {pos : Pos} (ho : OpR X (binaryOp op) r) (l : Lift2 X.K r o) (ha : QEx X W a qa) (hb : QEx X W b qb) : QEx X W (.BinOp a op b pos) (qOp o qa qb) := fun c =>
  PEi (pe_op ho (ha c) (hb c)) fun σ H Q h => lift_op l h
theorem q_cmp {op : CmpOp} {r : R2} {o : QO2} {a b : Expr} {qa qb : QE} {pos : Pos} (ho : OpR X (compareOp op) r) (l : Lift2 X.K r o) (ha : QEx X W a qa) (hb : QEx X W b qb) (hm : behindInMarks op b = false) : QEx X W (.Compare a [op] [b] pos) (qOp o qa qb) := fun c =>
  PEi (pe_cmpR ho (ha c) (hb c) hm) fun σ H Q h => lift_op l h
theorem q_ixR {r : R2} {o : QO2} {a b : Expr} {qa qb : QE} {pos : Pos} (ho : IxR X r) (l : Lift2 X.K r o) (ha : QEx X W a qa) (hb : QEx X W b qb) (hs : PlainIx b) : QEx X W (.Subscript a b pos) (qOp o qa qb) := fun c =>
  PEi (pe_ix ho (ha c) (hb c) hs) fun σ H Q h => lift_op l h
/-- a value made of nothing new -/
theorem fin_same {K : PySem.W.Frag} {c : C0} {w : List Addr} {H : Hp} {σ : L2.St} {Γ : G} {P : D → G → Prop} {Q : VK} {d : D} {v : V} (e : ER K c w H σ Γ)
    (k : ∀ d Γ' w' H' z, P d Γ' → Stp c w σ Γ H w' σ Γ' H' → ER K c w' H' σ Γ' → Rep K H' (Av c w' σ Γ') w' d z → Q z H') (q : P d Γ) (r : Rep K H (Av c w σ Γ) w d v) : Q v H := k d Γ w H v q Stp.refl e r
/-- a new tuple -/
theorem fin_tup {K : PySem.W.Frag} {c : C0} {w : List Addr} {H : Hp} {σ : L2.St} {Γ : G} {P : D → G → Prop} {Q : VK} {ds : List D} {xs : List V} {p : Addr} (e : ER K c w H σ Γ)
    (k : ∀ d Γ' w' H' z, P d Γ' → Stp c w σ Γ H w' σ Γ' H' → ER K c w' H' σ Γ' → Rep K H' (Av c w' σ Γ') w' d z → Q z H') (q : P (.tup ds) Γ) (r : Reps K H (Av c w σ Γ) w ds xs) (hp : H p = none) : Q (.ref p) (upd H p (.tup xs)) :=
  k _ Γ w _ _ q (Stp.same (same_new hp)) (e.same (same_new hp)) ⟨p, xs, rfl, TpA.new (e.fresh hp), r.stp (Stp.same (σ := σ) (same_new hp))⟩
theorem fin_lst {K : PySem.W.Frag} {c : C0} {w : List Addr} {H : Hp} {σ : L2.St} {Γ : G} {P : D → G → Prop} {Q : VK} {ds : List D} {xs : List V} {p : Addr} (e : ER K c w H σ Γ)
    (k : ∀ d Γ' w' H' z, P d Γ' → Stp c w σ Γ H w' σ Γ' H' → ER K c w' H' σ Γ' → Rep K H' (Av c w' σ Γ') w' d z → Q z H') (q : P (.lst ds) Γ) (r : Reps K H (Av c w σ Γ) w ds xs) (hp : H p = none) : Q (.ref p) (upd H p (.lst xs)) :=
  k _ Γ w _ _ q (Stp.same (same_new hp)) (e.same (same_new hp)) ⟨p, xs, rfl, LsA.new (e.fresh hp), r.stp (Stp.same (σ := σ) (same_new hp))⟩
/-- a new list as a value -/
theorem q_ofL {e : Expr} {q : QL_} (h : QLx X W e q) : QEx X W e (fun EX Γ P => q EX Γ fun ds Γ' => P (.lst ds) Γ') := fun c => PEi (h c) fun σ H Q ⟨w, Γ, P, EX, er, q, x, k⟩ =>
  ⟨w, Γ, _, EX, er, q, x, fun ds Γ' w' H' p xs q1 s1 e1 hp r1 => fin_lst (P := P) e1 (fun d Γ2 w2 H2 z q2 s2 e2 r2 => k d Γ2 w2 H2 z q2 (s1.trans s2) e2 r2) q1 r1 hp⟩
end
end QL
namespace QL
open PySem PySem.Spec PyProof.Rows L2

/-! ### arithmetic -/
def oI (C : Int → Int → Prop) (g : Int → Int → D) : QO2 := fun x y Γ P => match x, y with
  | .int i, .int j => C i j ∧ P (g i j) Γ
  | _, _ => False
def oI0 (g : Int → Int → D) : QO2 := fun x y Γ P => match x, y with
  | .int i, .int j => P (g i j) Γ
  | _, _ => False
theorem l_I {K : PySem.W.Frag} {C : Int → Int → Prop} {g : Int → Int → D} {gv : Int → Int → V} (hg : ∀ i j H av w, Rep K H av w (g i j) (gv i j)) : Lift2 K (rI C gv) (oI C g) := by
  intro c w Γ H σ x y u v P Q e rx ry o k
  cases x <;> try exact o.elim
  cases y <;> try exact o.elim
  obtain ⟨h1, h2⟩ := o
  exact ⟨_, _, rx, ry, h1, fin_same e k h2 (hg _ _ _ _ _)⟩
theorem l_I0 {K : PySem.W.Frag} {g : Int → Int → D} {gv : Int → Int → V} (hg : ∀ i j H av w, Rep K H av w (g i j) (gv i j)) : Lift2 K (rI0 gv) (oI0 g) := by
  intro c w Γ H σ x y u v P Q e rx ry o k
  cases x <;> try exact o.elim
  cases y <;> try exact o.elim
  exact ⟨_, _, rx, ry, fin_same e k o (hg _ _ _ _ _)⟩
def oSub : QO2 := oI0 fun i j => .int (i - j)
/-- the divisor not null, of less than 9000 bits -/
def CDv (_ j : Int) : Prop := j ≠ 0 ∧ j.natAbs.log2 < 9000
def oDiv : QO2 := oI CDv fun i j => .int (i.fdiv j)
def oMod : QO2 := oI (fun _ j => j ≠ 0) fun i j => .int (i.fmod j)
def oPow : QO2 := oI CPow fun i j => .int (i ^ j.toNat)
def oLt : QO2 := oI0 fun i j => .bl (decide (i < j))
def oLe : QO2 := oI0 fun i j => .bl (decide (i ≤ j))
def oGt : QO2 := oI0 fun i j => .bl (decide (j < i))
def oGe : QO2 := oI0 fun i j => .bl (decide (j ≤ i))
def oAdd : QO2 := fun x y Γ P => match x, y with
  | .int i, .int j => P (.int (i + j)) Γ
  | .str i, .str j => i.length + j.length ≤ sizeLine ∧ P (.str (i ++ j)) Γ
  | .lst a, .lst b => a.length + b.length ≤ sizeLine ∧ P (.lst (a ++ b)) Γ
  | .tup a, .tup b => a.length + b.length ≤ sizeLine ∧ P (.tup (a ++ b)) Γ
  | _, _ => False
def repD (a : List D) (k : Int) : List D := (List.replicate k.toNat a).flatten
def oMul : QO2 := fun x y Γ P => match x, y with
  | .int i, .int j => CMulW i j ∧ P (.int (i * j)) Γ
  | .lst a, .int k => -(2 ^ 63) ≤ k ∧ k < 2 ^ 63 ∧ a.length * k.toNat ≤ sizeLine ∧ P (.lst (repD a k)) Γ
  | .tup a, .int k => a ≠ [] ∧ 2 ≤ k ∧ k ≤ 1000 ∧ a.length ≤ 1000 ∧ P (.tup (repD a k)) Γ
  | _, _ => False
theorem Reps.flat {K : PySem.W.Frag} {H : Hp} {av : Addr → Prop} {w : List Addr} {ds : List D} {xs : List V} (r : Reps K H av w ds xs) : ∀ n : Nat, Reps K H av w (List.replicate n ds).flatten (List.replicate n xs).flatten
  | 0 => rfl
  | n + 1 => by
    rw [List.replicate_succ, List.replicate_succ, List.flatten_cons, List.flatten_cons]
    exact r.append (Reps.flat r n)
theorem Reps.nil_iff {K : PySem.W.Frag} {H : Hp} {av : Addr → Prop} {w : List Addr} {ds : List D} {xs : List V} (r : Reps K H av w ds xs) : xs = [] ↔ ds = [] := by
  have := r.length
  constructor
  · intro h
    subst h
    exact List.eq_nil_of_length_eq_zero this.symm
  · intro h
    subst h
    exact List.eq_nil_of_length_eq_zero this
section
variable {X : Cx} {W : WX} {a b : Expr} {qa qb : QE} {pos : Pos}
theorem op_fdivA : OpR X (binaryOp .FloorDiv) (rI CDv fun i j => .int (i.fdiv j)) := opI fun i j _ _ _ _ _ hc q => floordiv_int hc.1 q (.inl (PyProof.noPylong_of_log2 hc.2))
theorem q_sub (ha : QEx X W a qa) (hb : QEx X W b qb) : QEx X W (.BinOp a .Sub b pos) (qOp oSub qa qb) := q_op op_sub (l_I0 fun _ _ _ _ _ => rfl) ha hb
theorem q_fdiv (ha : QEx X W a qa) (hb : QEx X W b qb) : QEx X W (.BinOp a .FloorDiv b pos) (qOp oDiv qa qb) := q_op op_fdivA (l_I fun _ _ _ _ _ => rfl) ha hb
theorem q_mod (ha : QEx X W a qa) (hb : QEx X W b qb) : QEx X W (.BinOp a .Mod b pos) (qOp oMod qa qb) := q_op op_modN (l_I fun _ _ _ _ _ => rfl) ha hb
theorem q_pow (ha : QEx X W a qa) (hb : QEx X W b qb) : QEx X W (.BinOp a .Pow b pos) (qOp oPow qa qb) := q_op op_pow (l_I fun _ _ _ _ _ => rfl) ha hb
theorem q_lt (ha : QEx X W a qa) (hb : QEx X W b qb) : QEx X W (.Compare a [.Lt] [b] pos) (qOp oLt qa qb) := q_cmp op_lt (l_I0 fun _ _ _ _ _ => rfl) ha hb (nomark _)
theorem q_le (ha : QEx X W a qa) (hb : QEx X W b qb) : QEx X W (.Compare a [.LtE] [b] pos) (qOp oLe qa qb) := q_cmp op_le (l_I0 fun _ _ _ _ _ => rfl) ha hb (nomark _)
theorem q_gt (ha : QEx X W a qa) (hb : QEx X W b qb) : QEx X W (.Compare a [.Gt] [b] pos) (qOp oGt qa qb) := q_cmp op_gt (l_I0 fun _ _ _ _ _ => rfl) ha hb (nomark _)
theorem q_ge (ha : QEx X W a qa) (hb : QEx X W b qb) : QEx X W (.Compare a [.GtE] [b] pos) (qOp oGe qa qb) := q_cmp op_ge (l_I0 fun _ _ _ _ _ => rfl) ha hb (nomark _)
def rAddX (K : PySem.W.Frag) : R2 := fun x y H Q => (rI0 fun i j => .int (i + j)) x y H Q ∨ (∃ i j, x = .str i ∧ y = .str j ∧ i.length + j.length ≤ sizeLine ∧ Q (.str (i ++ j)) H) ∨ rCat x y H Q ∨ rCatA K x y H Q
theorem op_addX : OpR X (binaryOp .Add) (rAddX X.K) := op_add.or (op_add_str.or (op_cat.or op_catA))
theorem l_add {K : PySem.W.Frag} : Lift2 K (rAddX K) oAdd := by
  intro c w Γ H σ x y u v P Q e rx ry o k
  cases x with
  | int i =>
    cases y <;> try exact o.elim
    exact .inl ⟨_, _, rx, ry, fin_same e k o rfl⟩
  | str i =>
    cases y <;> try exact o.elim
    exact .inr (.inl ⟨_, _, rx, ry, o.1, fin_same e k o.2 rfl⟩)
  | lst ds =>
    cases y <;> try exact o.elim
    obtain ⟨p, xs, rfl, h1, r1⟩ := rx
    obtain ⟨p', xs', rfl, h2, r2⟩ := ry
    exact .inr (.inr (.inl ⟨_, _, _, _, rfl, rfl, h1.1, h2.1, by rw [r1.length, r2.length]; exact o.1, fun p hp => fin_lst e k o.2 (r1.append r2) hp⟩))
  | tup ds =>
    cases y <;> try exact o.elim
    obtain ⟨p, xs, rfl, h1, r1⟩ := rx
    obtain ⟨p', xs', rfl, h2, r2⟩ := ry
    refine .inr (.inr (.inr ⟨_, _, _, _, rfl, rfl, h1.sq, h2.sq, by rw [r1.length, r2.length]; exact o.1, fun z => ?_, fun _ z => ?_, fun _ _ p hp => fin_tup e k o.2 (r1.append r2) hp⟩))
    · have z' := r1.nil_iff.mp z
      subst z'
      exact fin_same e k o.2 ⟨p', xs', rfl, h2, r2⟩
    · have z' := r2.nil_iff.mp z
      subst z'
      have o2 : P (.tup (ds ++ [])) Γ := o.2
      rw [List.append_nil] at o2
      exact fin_same e k o2 ⟨p, xs, rfl, h1, r1⟩
  | _ => exact o.elim
theorem q_add (ha : QEx X W a qa) (hb : QEx X W b qb) : QEx X W (.BinOp a .Add b pos) (qOp oAdd qa qb) := q_op op_addX l_add ha hb
def rMulX (K : PySem.W.Frag) : R2 := fun x y H Q => (rI CMulW fun i j => .int (i * j)) x y H Q ∨ rRep x y H Q ∨ rRepT K x y H Q
theorem op_mulX : OpR X (binaryOp .Mult) (rMulX X.K) := op_mulW.or (op_rep.or op_repT)
theorem l_mul {K : PySem.W.Frag} : Lift2 K (rMulX K) oMul := by
  intro c w Γ H σ x y u v P Q e rx ry o k
  cases x with
  | int i =>
    cases y <;> try exact o.elim
    exact .inl ⟨_, _, rx, ry, o.1, fin_same e k o.2 rfl⟩
  | lst ds =>
    cases y <;> try exact o.elim
    obtain ⟨p, xs, rfl, h1, r1⟩ := rx
    obtain ⟨o1, o2, o3, o4⟩ := o
    exact .inr (.inl ⟨_, _, _, rfl, ry, h1.1, o1, o2, by rw [r1.length]; exact o3, fun p hp => fin_lst e k o4 (r1.flat _) hp⟩)
  | tup ds =>
    cases y <;> try exact o.elim
    obtain ⟨p, xs, rfl, h1, r1⟩ := rx
    obtain ⟨o1, o2, o3, o4, o5⟩ := o
    exact .inr (.inr ⟨_, _, _, rfl, ry, h1.sq, fun z => o1 (r1.nil_iff.mp z), o2, o3, by rw [r1.length]; exact o4, fun p hp => fin_tup e k o5 (r1.flat _) hp⟩)
  | _ => exact o.elim
theorem q_mul (ha : QEx X W a qa) (hb : QEx X W b qb) : QEx X W (.BinOp a .Mult b pos) (qOp oMul qa qb) := q_op op_mulX l_mul ha hb
end
/-! ### operations on one value -/
abbrev QO1 := D → G → (D → G → Prop) → Prop
def Lift1 (K : PySem.W.Frag) (r : V → Hp → VK → Prop) (o : QO1) : Prop := ∀ c w Γ H σ x u (P : D → G → Prop) (Q : VK), ER K c w H σ Γ → Rep K H (Av c w σ Γ) w x u → o x Γ P →
  (∀ d Γ' w' H' z, P d Γ' → Stp c w σ Γ H w' σ Γ' H' → ER K c w' H' σ Γ' → Rep K H' (Av c w' σ Γ') w' d z → Q z H') → r u H Q
def qUn (o : QO1) (qa : QE) : QE := fun EX Γ P => qa EX Γ fun x Γ1 => o x Γ1 P
theorem lift_un {K : PySem.W.Frag} {W : WX} {r : V → Hp → VK → Prop} {o : QO1} (l : Lift1 K r o) {qa : QE} {c : C0} {σ : L2.St} {H : Hp} {Q : VK} (h : liftE K c W (qUn o qa) σ H Q) : liftE K c W qa σ H fun x H1 => r x H1 Q := by
  obtain ⟨w, Γ, P, EX, er, q, x, k⟩ := h
  exact ⟨w, Γ, _, EX, er, q, x, fun d Γ1 w1 H1 u q1 s1 e1 r1 => l c w1 Γ1 H1 σ d u P Q e1 r1 q1 fun d3 Γ3 w3 H3 z q3 s3 e3 r3 => k d3 Γ3 w3 H3 z q3 (s1.trans s3) e3 r3⟩
def oNeg : QO1 := fun x Γ P => match x with
  | .int i => P (.int (-i)) Γ
  | _ => False
def oIsN : QO1 := fun x Γ P => match x with
  | .non => P (.bl true) Γ
  | _ => P (.bl false) Γ
def oNotN : QO1 := fun x Γ P => match x with
  | .non => P (.bl false) Γ
  | _ => P (.bl true) Γ
def D.isNon : D → Bool
  | .non => true
  | _ => false
theorem Rep.non_iff {K : PySem.W.Frag} {H : Hp} {av : Addr → Prop} {w : List Addr} {x : D} {u : V} (r : Rep K H av w x u) : decide (u = V.non) = x.isNon := by
  cases x with
  | non =>
    have r : u = _ := r
    subst r
    rfl
  | bl _ =>
    have r : u = _ := r
    subst r
    rfl
  | int _ =>
    have r : u = _ := r
    subst r
    rfl
  | str _ =>
    have r : u = _ := r
    subst r
    rfl
  | ty _ =>
    have r : u = _ := r
    subst r
    rfl
  | adr _ =>
    have r : u = _ := r
    subst r
    rfl
  | tup _ =>
    obtain ⟨_, _, rfl, _⟩ := r
    rfl
  | lst _ =>
    obtain ⟨_, _, rfl, _⟩ := r
    rfl
  | dic _ _ =>
    obtain ⟨_, _, rfl, _⟩ := r
    rfl
  | frl _ =>
    obtain ⟨_, _, rfl, _⟩ := r
    rfl
  | ref _ =>
    obtain ⟨_, rfl, _⟩ := r
    rfl
  | exc _ _ _ _ _ =>
    obtain ⟨rfl, _⟩ := r
    rfl
section
variable {X : Cx} {W : WX} {a b : Expr} {qa qb : QE} {pos : Pos}
theorem q_neg (ha : QEx X W a qa) : QEx X W (.UnaryOp .USub a pos) (qUn oNeg qa) := fun c => PEi (pe_un un_neg (ha c)) fun σ H Q h => lift_un (r := rU fun i => .int (-i)) (by
  intro c w Γ H σ x u P Q e rx o k
  cases x <;> try exact o.elim
  exact ⟨_, rx, fin_same e k o rfl⟩) h
theorem q_isN {j pos'} (ha : QEx X W a qa) : QEx X W (.Compare a [.Is] [.Constant .none j pos'] pos) (qUn oIsN qa) := fun c => PEi (pe_cmp (pc_isN (ha c)) rfl) fun σ H Q h => lift_un (r := fun x H Q => Q (.bl (decide (x = .non))) H) (by
  intro c w Γ H σ x u P Q e rx o k
  rw [rx.non_iff]
  cases x <;> exact fin_same e k o rfl) h
theorem q_notN {j pos'} (ha : QEx X W a qa) : QEx X W (.Compare a [.IsNot] [.Constant .none j pos'] pos) (qUn oNotN qa) := fun c => PEi (pe_cmp (pc_notN (ha c)) rfl) fun σ H Q h => lift_un (r := fun x H Q => Q (.bl (!decide (x = .non))) H) (by
  intro c w Γ H σ x u P Q e rx o k
  rw [rx.non_iff]
  cases x <;> exact fin_same e k o rfl) h
end

/-! ### tests -/
def qTest (qa : QE) : QT := fun EX Γ P => qa EX Γ fun x Γ1 => match x with
  | .bl b => P b Γ1
  | _ => False
def qNot (t : QT) : QT := fun EX Γ P => t EX Γ fun b Γ1 => P (!b) Γ1
def qAnd (t u : QT) : QT := fun EX Γ P => t EX Γ fun b Γ1 => qB b (u EX Γ1 P) (P false Γ1)
def qOr (t u : QT) : QT := fun EX Γ P => t EX Γ fun b Γ1 => qB b (P true Γ1) (u EX Γ1 P)
/-- a test as a value -/
def qVal (t : QT) : QE := fun EX Γ P => t EX Γ fun b Γ1 => P (.bl b) Γ1
section
variable {X : Cx} {W : WX} {a b : Expr} {qa qb : QE} {t u : QT} {pos : Pos} {rest : List Expr}
theorem lift_test {c : C0} {σ : L2.St} {H : Hp} {Q : Bool → Hp → Prop} (h : liftT X.K c W (qTest qa) σ H Q) : tTest (liftE X.K c W qa) σ H Q := by
  obtain ⟨w, Γ, P, EX, er, q, x, k⟩ := h
  refine ⟨w, Γ, _, EX, er, q, x, fun d Γ1 w1 H1 u q1 s1 e1 r1 => ?_⟩
  cases d <;> try exact q1.elim
  exact ⟨_, r1, k _ _ w1 H1 q1 s1 e1⟩
theorem qt_val (ha : QEx X W a qa) (he : ∀ whole, isTrue a X.env whole = (do let v ← whole; standAt a.pos; holding [v] (truthy v)) := by intro _; rfl) : QTx X W a (qTest qa) := fun c => PTi (pt_val (ha c) he) fun σ H Q h => lift_test h
theorem qt_cmp {op : CmpOp} {r : R2} {o : QO2} (ho : OpR X (compareOp op) r) (l : Lift2 X.K r o) (ha : QEx X W a qa) (hb : QEx X W b qb) (hm : behindInMarks op b = false) : QTx X W (.Compare a [op] [b] pos) (qTest (qOp o qa qb)) := fun c =>
  PTi (pt_cmpR ho (ha c) (hb c) hm) fun σ H Q h => by
    obtain ⟨w, Γ, P, EX, er, q, x, k⟩ := h
    refine lift_op l ⟨w, Γ, _, EX, er, q, x, fun d Γ1 w1 H1 u q1 s1 e1 r1 => ?_⟩
    cases d <;> try exact q1.elim
    exact ⟨_, r1, k _ _ w1 H1 q1 s1 e1⟩
theorem qt_lt (ha : QEx X W a qa) (hb : QEx X W b qb) : QTx X W (.Compare a [.Lt] [b] pos) (qTest (qOp oLt qa qb)) := qt_cmp op_lt (l_I0 fun _ _ _ _ _ => rfl) ha hb (nomark _)
theorem qt_le (ha : QEx X W a qa) (hb : QEx X W b qb) : QTx X W (.Compare a [.LtE] [b] pos) (qTest (qOp oLe qa qb)) := qt_cmp op_le (l_I0 fun _ _ _ _ _ => rfl) ha hb (nomark _)
theorem qt_gt (ha : QEx X W a qa) (hb : QEx X W b qb) : QTx X W (.Compare a [.Gt] [b] pos) (qTest (qOp oGt qa qb)) := qt_cmp op_gt (l_I0 fun _ _ _ _ _ => rfl) ha hb (nomark _)
theorem qt_ge (ha : QEx X W a qa) (hb : QEx X W b qb) : QTx X W (.Compare a [.GtE] [b] pos) (qTest (qOp oGe qa qb)) := qt_cmp op_ge (l_I0 fun _ _ _ _ _ => rfl) ha hb (nomark _)
theorem qt_isN {j pos'} (ha : QEx X W a qa) : QTx X W (.Compare a [.Is] [.Constant .none j pos'] pos) (qTest (qUn oIsN qa)) := fun c => PTi (pt_cmp (pc_isN (ha c)) rfl) fun σ H Q h => by
  obtain ⟨w, Γ, P, EX, er, q, x, k⟩ := h
  refine ⟨w, Γ, _, EX, er, q, x, fun d Γ1 w1 H1 u q1 s1 e1 r1 => ⟨_, rfl, ?_⟩⟩
  rw [r1.non_iff]
  cases d <;> exact k _ _ w1 H1 q1 s1 e1
theorem qt_notN {j pos'} (ha : QEx X W a qa) : QTx X W (.Compare a [.IsNot] [.Constant .none j pos'] pos) (qTest (qUn oNotN qa)) := fun c => PTi (pt_cmp (pc_notN (ha c)) rfl) fun σ H Q h => by
  obtain ⟨w, Γ, P, EX, er, q, x, k⟩ := h
  refine ⟨w, Γ, _, EX, er, q, x, fun d Γ1 w1 H1 u q1 s1 e1 r1 => ⟨_, rfl, ?_⟩⟩
  rw [r1.non_iff]
  cases d <;> exact k _ _ w1 H1 q1 s1 e1
theorem qt_not (h : QTx X W a t) : QTx X W (.UnaryOp .Not a pos) (qNot t) := fun c => PTi (pt_not (h c)) fun σ H Q ⟨w, Γ, P, EX, er, q, x, k⟩ =>
  ⟨w, Γ, _, EX, er, q, x, fun b Γ1 w1 H1 q1 s1 e1 => k _ Γ1 w1 H1 q1 s1 e1⟩
/-- and, or as tests: QW whatever the whole is -/
def QWx (X : Cx) (W : WX) (e : Expr) (q : QT) : Prop := ∀ c, PW X e (liftT X.K c W q)
theorem PWi {e : Expr} {t t' : TT} (h : PW X e t) (i : ∀ σ H Q, t' σ H Q → t σ H Q) : PW X e t' := ⟨fun wh pins s σ H Q I q => h.run wh pins s σ H Q I (i σ H Q q)⟩
theorem qw_pt (h : QWx X W a t) : QTx X W a t := fun c => (h c).pt
theorem qw_and1 (h : QTx X W a t) : QWx X W (.BoolOp .And [a] pos) t := fun c => pw_and1 (h c)
theorem qw_or1 (h : QTx X W a t) : QWx X W (.BoolOp .Or [a] pos) t := fun c => pw_or1 (h c)
theorem lift_and {c : C0} {σ : L2.St} {H : Hp} {Q : Bool → Hp → Prop} (h : liftT X.K c W (qAnd t u) σ H Q) : tAnd (liftT X.K c W t) (liftT X.K c W u) σ H Q := by
  obtain ⟨w, Γ, P, EX, er, q, x, k⟩ := h
  refine ⟨w, Γ, _, EX, er, q, x, fun b Γ1 w1 H1 q1 s1 e1 => ?_⟩
  cases b with
  | true => exact ⟨w1, Γ1, P, EX, e1, q1, x.stp s1, fun b Γ2 w2 H2 q2 s2 e2 => k b Γ2 w2 H2 q2 (s1.trans s2) e2⟩
  | false => exact k false Γ1 w1 H1 q1 s1 e1
theorem lift_or {c : C0} {σ : L2.St} {H : Hp} {Q : Bool → Hp → Prop} (h : liftT X.K c W (qOr t u) σ H Q) : tOr (liftT X.K c W t) (liftT X.K c W u) σ H Q := by
  obtain ⟨w, Γ, P, EX, er, q, x, k⟩ := h
  refine ⟨w, Γ, _, EX, er, q, x, fun b Γ1 w1 H1 q1 s1 e1 => ?_⟩
  cases b with
  | false => exact ⟨w1, Γ1, P, EX, e1, q1, x.stp s1, fun b Γ2 w2 H2 q2 s2 e2 => k b Γ2 w2 H2 q2 (s1.trans s2) e2⟩
  | true => exact k true Γ1 w1 H1 q1 s1 e1
theorem qw_and (ha : QTx X W a t) (hb : QWx X W (.BoolOp .And (b :: rest) pos) u) : QWx X W (.BoolOp .And (a :: b :: rest) pos) (qAnd t u) := fun c => PWi (pw_and (ha c) (hb c)) fun σ H Q h => lift_and h
theorem qw_or (ha : QTx X W a t) (hb : QWx X W (.BoolOp .Or (b :: rest) pos) u) : QWx X W (.BoolOp .Or (a :: b :: rest) pos) (qOr t u) := fun c => PWi (pw_or (ha c) (hb c)) fun σ H Q h => lift_or h
/-- and, or of bools as values -/
def qAndV (qa qb : QE) : QE := fun EX Γ P => qa EX Γ fun x Γ1 => match x with
  | .bl b => qB b (qb EX Γ1 P) (P (.bl false) Γ1)
  | _ => False
def qOrV (qa qb : QE) : QE := fun EX Γ P => qa EX Γ fun x Γ1 => match x with
  | .bl b => qB b (P (.bl true) Γ1) (qb EX Γ1 P)
  | _ => False
def qNotV : QO1 := fun x Γ P => match x with
  | .bl b => P (.bl (!b)) Γ
  | _ => False
theorem q_one {op} (h : QEx X W a qa) : QEx X W (.BoolOp op [a] pos) qa := fun c => pe_one (h c)
theorem q_and (ha : QEx X W a qa) (hb : QEx X W (.BoolOp .And (b :: rest) pos) qb) : QEx X W (.BoolOp .And (a :: b :: rest) pos) (qAndV qa qb) := fun c => PEi (pe_and (ha c) (hb c)) fun σ H Q ⟨w, Γ, P, EX, er, q, x, k⟩ => by
  refine ⟨w, Γ, _, EX, er, q, x, fun d Γ1 w1 H1 u q1 s1 e1 r1 => ?_⟩
  cases d <;> try exact q1.elim
  rename_i b
  refine ⟨b, r1, ?_⟩
  cases b with
  | true => exact ⟨w1, Γ1, P, EX, e1, q1, x.stp s1, fun d Γ2 w2 H2 z q2 s2 e2 r2 => k d Γ2 w2 H2 z q2 (s1.trans s2) e2 r2⟩
  | false => exact k _ Γ1 w1 H1 _ q1 s1 e1 rfl
theorem q_or (ha : QEx X W a qa) (hb : QEx X W (.BoolOp .Or (b :: rest) pos) qb) : QEx X W (.BoolOp .Or (a :: b :: rest) pos) (qOrV qa qb) := fun c => PEi (pe_or (ha c) (hb c)) fun σ H Q ⟨w, Γ, P, EX, er, q, x, k⟩ => by
  refine ⟨w, Γ, _, EX, er, q, x, fun d Γ1 w1 H1 u q1 s1 e1 r1 => ?_⟩
  cases d <;> try exact q1.elim
  rename_i b
  refine ⟨b, r1, ?_⟩
  cases b with
  | false => exact ⟨w1, Γ1, P, EX, e1, q1, x.stp s1, fun d Γ2 w2 H2 z q2 s2 e2 r2 => k d Γ2 w2 H2 z q2 (s1.trans s2) e2 r2⟩
  | true => exact k _ Γ1 w1 H1 _ q1 s1 e1 rfl
theorem q_not (ha : QEx X W a qa) : QEx X W (.UnaryOp .Not a pos) (qUn qNotV qa) := fun c => PEi (pe_not (ha c)) fun σ H Q h => lift_un (r := fun x H Q => ∃ c, x = .bl c ∧ Q (.bl (!c)) H) (by
  intro c w Γ H σ x u P Q e rx o k
  cases x <;> try exact o.elim
  exact ⟨_, rx, fin_same e k o rfl⟩) h
/-- a if t else b -/
def qIf (t : QT) (qa qb : QE) : QE := fun EX Γ P => t EX Γ fun b Γ1 => qB b (qa EX Γ1 P) (qb EX Γ1 P)
theorem q_if {e : Expr} (he : QTx X W e t) (ha : QEx X W a qa) (hb : QEx X W b qb) : QEx X W (.IfExp e a b pos) (qIf t qa qb) := fun c => PEi (pe_ifExp (he c) (ha c) (hb c)) fun σ H Q ⟨w, Γ, P, EX, er, q, x, k⟩ => by
  refine ⟨w, Γ, _, EX, er, q, x, fun b Γ1 w1 H1 q1 s1 e1 => ?_⟩
  cases b with
  | true => exact ⟨w1, Γ1, P, EX, e1, q1, x.stp s1, fun d Γ2 w2 H2 z q2 s2 e2 r2 => k d Γ2 w2 H2 z q2 (s1.trans s2) e2 r2⟩
  | false => exact ⟨w1, Γ1, P, EX, e1, q1, x.stp s1, fun d Γ2 w2 H2 z q2 s2 e2 r2 => k d Γ2 w2 H2 z q2 (s1.trans s2) e2 r2⟩
/-- a op b op' c -/
def qChain (o o' : QO2) (qa qb qc : QE) : QE := fun EX Γ P => qa EX Γ fun x Γ1 => qb EX Γ1 fun y Γ2 => o x y Γ2 fun z Γ3 => match z with
  | .bl b => qB b (qc EX Γ3 (fun w Γ4 => o' y w Γ4 P)) (P (.bl false) Γ3)
  | _ => False
theorem lift_chain {r r' : R2} {o o' : QO2} {qc : QE} (l : Lift2 X.K r o) (l' : Lift2 X.K r' o') {c : C0} {σ : L2.St} {H : Hp} {Q : VK} (h : liftE X.K c W (qChain o o' qa qb qc) σ H Q) : tChain r r' (liftE X.K c W qa) (liftE X.K c W qb) (liftE X.K c W qc) σ H Q := by
  obtain ⟨w, Γ, P, EX, er, q, x, k⟩ := h
  refine ⟨w, Γ, _, EX, er, q, x, fun d Γ1 w1 H1 u q1 s1 e1 r1 => ?_⟩
  refine ⟨w1, Γ1, _, EX, e1, q1, x.stp s1, fun d2 Γ2 w2 H2 v q2 s2 e2 r2 => ?_⟩
  refine l c w2 Γ2 H2 σ d d2 u v _ _ e2 (r1.stp s2) r2 q2 fun d3 Γ3 w3 H3 z q3 s3 e3 r3 => ?_
  cases d3 <;> try exact q3.elim
  rename_i b
  refine ⟨b, r3, ?_⟩
  cases b with
  | true =>
    refine ⟨w3, Γ3, _, EX, e3, q3, x.stp ((s1.trans s2).trans s3), fun d4 Γ4 w4 H4 v4 q4 s4 e4 r4 => ?_⟩
    exact l' c w4 Γ4 H4 σ d2 d4 v v4 P Q e4 ((r2.stp s3).stp s4) r4 q4 fun d5 Γ5 w5 H5 z q5 s5 e5 r5 => k d5 Γ5 w5 H5 z q5 ((((s1.trans s2).trans s3).trans s4).trans s5) e5 r5
  | false => exact k _ Γ3 w3 H3 _ q3 ((s1.trans s2).trans s3) e3 rfl
end
end QL
namespace QL
open PySem PySem.Spec PyProof.Rows L2
/-! ### arguments, displays -/
def qNil : QA := fun _ Γ P => P [] Γ
def qCons (qa : QE) (qr : QA) : QA := fun EX Γ P => qa EX Γ fun d Γ1 => qr EX Γ1 fun ds Γ2 => P (d :: ds) Γ2
section
variable {X : Cx} {W : WX} {a b e : Expr} {es : List Expr} {qa qb q : QE} {qr : QA} {pos : Pos}
theorem qa_nil : QAx X W [] qNil := fun c => PAi pa_nil fun σ H Q ⟨w, Γ, P, EX, er, q, x, k⟩ => k [] Γ w H [] q Stp.refl er rfl
theorem qa_cons (ha : QEx X W e qa) (hr : QAx X W es qr) (hs : starEach (e :: es) X.env = (false, eval e X.env) :: starEach es X.env := by rfl) : QAx X W (e :: es) (qCons qa qr) := fun c =>
  PAi (pa_cons (ha c) (hr c) hs) fun σ H Q ⟨w, Γ, P, EX, er, q, x, k⟩ => ⟨w, Γ, _, EX, er, q, x, fun d Γ1 w1 H1 u q1 s1 e1 r1 =>
    ⟨w1, Γ1, _, EX, e1, q1, x.stp s1, fun ds Γ2 w2 H2 us q2 s2 e2 r2 => k _ Γ2 w2 H2 _ q2 (s1.trans s2) e2 (Reps.cons (r1.stp s2) r2)⟩⟩
def qTup (qa : QA) : QE := fun EX Γ P => qa EX Γ fun ds Γ1 => ds.length ≤ sizeLine ∧ P (.tup ds) Γ1
def qLst (qa : QA) : QL_ := fun EX Γ P => qa EX Γ fun ds Γ1 => ds.length ≤ sizeLine ∧ P ds Γ1
theorem q_tup {x1} (h : QAx X W es qr) : QEx X W (.Tuple es x1 pos) (qTup qr) := fun c => PEi (pe_tup (h c)) fun σ H Q ⟨w, Γ, P, EX, er, q, x, k⟩ =>
  ⟨w, Γ, _, EX, er, q, x, fun ds Γ1 w1 H1 us q1 s1 e1 r1 => ⟨by rw [r1.length]; exact q1.1, fun p hp => fin_tup (P := P) e1 (fun d Γ2 w2 H2 z q2 s2 e2 r2 => k d Γ2 w2 H2 z q2 (s1.trans s2) e2 r2) q1.2 r1 hp⟩⟩
theorem ql_lst (h : QAx X W es qr) : QLx X W (.List es pos) (qLst qr) := fun c => PEi (pe_lst (h c)) fun σ H Q ⟨w, Γ, P, EX, er, q, x, k⟩ =>
  ⟨w, Γ, _, EX, er, q, x, fun ds Γ1 w1 H1 us q1 s1 e1 r1 => ⟨by rw [r1.length]; exact q1.1, fun p hp => k ds Γ1 w1 H1 p us q1.2 s1 e1 hp r1⟩⟩
/-- a new list, as a value -/
def qOfL (q : QL_) : QE := fun EX Γ P => q EX Γ fun ds Γ' => P (.lst ds) Γ'
theorem q_lst (h : QAx X W es qr) : QEx X W (.List es pos) (qOfL (qLst qr)) := q_ofL (ql_lst h)

/-! ### built-ins by values -/
abbrev QOn := List D → G → (D → G → Prop) → Prop
def LiftN (K : PySem.W.Frag) (r : List V → Hp → VK → Prop) (o : QOn) : Prop := ∀ c w Γ H σ xs us (P : D → G → Prop) (Q : VK), ER K c w H σ Γ → Reps K H (Av c w σ Γ) w xs us → o xs Γ P →
  (∀ d Γ' w' H' z, P d Γ' → Stp c w σ Γ H w' σ Γ' H' → ER K c w' H' σ Γ' → Rep K H' (Av c w' σ Γ') w' d z → Q z H') → r us H Q
/-- .. that give a new list -/
def LiftNL (K : PySem.W.Frag) (r : List V → Hp → VK → Prop) (o : List D → G → (List D → G → Prop) → Prop) : Prop := ∀ c w Γ H σ xs us (P : List D → G → Prop) (Q : VK), ER K c w H σ Γ → Reps K H (Av c w σ Γ) w xs us → o xs Γ P →
  (∀ ds Γ' w' H' p zs, P ds Γ' → Stp c w σ Γ H w' σ Γ' H' → ER K c w' H' σ Γ' → H' p = none → Reps K H' (Av c w' σ Γ') w' ds zs → Q (.ref p) (upd H' p (.lst zs))) → r us H Q
def qCB (o : QOn) (qa : QA) : QE := fun EX Γ P => qa EX Γ fun ds Γ1 => o ds Γ1 P
def qCBL (o : List D → G → (List D → G → Prop) → Prop) (qa : QA) : QL_ := fun EX Γ P => qa EX Γ fun ds Γ1 => o ds Γ1 P
theorem lift_cb {r : List V → Hp → VK → Prop} {o : QOn} (l : LiftN X.K r o) {c : C0} {σ : L2.St} {H : Hp} {Q : VK} (h : liftE X.K c W (qCB o qr) σ H Q) : tCB r (liftA X.K c W qr) σ H Q := by
  obtain ⟨w, Γ, P, EX, er, q, x, k⟩ := h
  exact ⟨w, Γ, _, EX, er, q, x, fun d Γ1 w1 H1 u q1 s1 e1 r1 => l c w1 Γ1 H1 σ d u P Q e1 r1 q1 fun d3 Γ3 w3 H3 z q3 s3 e3 r3 => k d3 Γ3 w3 H3 z q3 (s1.trans s3) e3 r3⟩
theorem lift_cbl {r : List V → Hp → VK → Prop} {o : List D → G → (List D → G → Prop) → Prop} (l : LiftNL X.K r o) {c : C0} {σ : L2.St} {H : Hp} {Q : VK} (h : liftL X.K c W (qCBL o qr) σ H Q) : tCB r (liftA X.K c W qr) σ H Q := by
  obtain ⟨w, Γ, P, EX, er, q, x, k⟩ := h
  exact ⟨w, Γ, _, EX, er, q, x, fun d Γ1 w1 H1 u q1 s1 e1 r1 => l c w1 Γ1 H1 σ d u P Q e1 r1 q1 fun d3 Γ3 w3 H3 p z q3 s3 e3 hp r3 => k d3 Γ3 w3 H3 p z q3 (s1.trans s3) e3 hp r3⟩
variable {x : Str} {p : Pos} {id T : String} {r : List V → Hp → VK → Prop} {o : QOn} {oL : List D → G → (List D → G → Prop) → Prop}
theorem q_callB (hc : CallR X (.builtin id) r) (l : LiftN X.K r o) (hg : Gl X x) (hm : X.mg x = none) (hv : bootBuiltins x = some (.builtin id)) (ha : QAx X W (e :: es) qr) (hn : x ≠ "__name__" := by decide) (hdb : (x == ("__debug__" : Str)) = false := by decide)
    (he : starEach (e :: es) X.env = (false, eval e X.env) :: starEach es X.env := by rfl) (hpl : (backTo pos (starEach es X.env)).any (·.1) = false := by rfl) : QEx X W (.Call (.Name x p) (e :: es) [] pos) (qCB o qr) := fun c =>
  PEi (pe_callB hc hg hm hv (ha c) hn hdb he hpl) fun σ H Q h => lift_cb l h
theorem q_callTy (hc : CallR X (.type T) r) (l : LiftN X.K r o) (hg : Gl X x) (hm : X.mg x = none) (hv : bootBuiltins x = some (.type T)) (ha : QAx X W (e :: es) qr) (hn : x ≠ "__name__" := by decide) (hdb : (x == ("__debug__" : Str)) = false := by decide)
    (he : starEach (e :: es) X.env = (false, eval e X.env) :: starEach es X.env := by rfl) (hpl : (backTo pos (starEach es X.env)).any (·.1) = false := by rfl) : QEx X W (.Call (.Name x p) (e :: es) [] pos) (qCB o qr) := fun c =>
  PEi (pe_callTy hc hg hm hv (ha c) hn hdb he hpl) fun σ H Q h => lift_cb l h
theorem ql_callTy (hc : CallR X (.type T) r) (l : LiftNL X.K r oL) (hg : Gl X x) (hm : X.mg x = none) (hv : bootBuiltins x = some (.type T)) (ha : QAx X W (e :: es) qr) (hn : x ≠ "__name__" := by decide) (hdb : (x == ("__debug__" : Str)) = false := by decide)
    (he : starEach (e :: es) X.env = (false, eval e X.env) :: starEach es X.env := by rfl) (hpl : (backTo pos (starEach es X.env)).any (·.1) = false := by rfl) : QLx X W (.Call (.Name x p) (e :: es) [] pos) (qCBL oL qr) := fun c =>
  PEi (pe_callTy hc hg hm hv (ha c) hn hdb he hpl) fun σ H Q h => lift_cbl l h
/-- len -/
def D.seq : D → Option (List D)
  | .lst ds => some ds
  | .tup ds => some ds
  | .frl ds => some ds
  | _ => none
theorem Rep.seqR {K : PySem.W.Frag} {H : Hp} {av : Addr → Prop} {w : List Addr} {d : D} {v : V} {ds : List D} (r : Rep K H av w d v) (h : d.seq = some ds) : ∃ a xs, v = .ref a ∧ (SqL K H a xs ∨ SqT K H a xs) ∧ Reps K H av w ds xs := by
  cases d <;> try cases h
  · obtain ⟨a, xs, e, h1, h2⟩ := r
    exact ⟨a, xs, e, .inr h1.sq, h2⟩
  · obtain ⟨a, xs, e, h1, h2⟩ := r
    exact ⟨a, xs, e, .inl h1.sq, h2⟩
  · obtain ⟨a, xs, e, h1, h2⟩ := r
    exact ⟨a, xs, e, .inl h1.sq, h2⟩
def oLen : QOn := fun xs Γ P => match xs with
  | [.str z] => z.length ≤ sizeLine ∧ P (.int (z.length : Int)) Γ
  | [.lst ds] => P (.int (ds.length : Int)) Γ
  | [.tup ds] => P (.int (ds.length : Int)) Γ
  | [.frl ds] => P (.int (ds.length : Int)) Γ
  | _ => False
theorem reps1 {K : PySem.W.Frag} {H : Hp} {av : Addr → Prop} {w : List Addr} {d : D} {us : List V} (r : Reps K H av w [d] us) : ∃ u, us = [u] ∧ Rep K H av w d u := by
  obtain ⟨u, r', rfl, h, h'⟩ := r
  have h' : r' = [] := h'
  subst h'
  exact ⟨u, rfl, h⟩
theorem reps2 {K : PySem.W.Frag} {H : Hp} {av : Addr → Prop} {w : List Addr} {d d' : D} {us : List V} (r : Reps K H av w [d, d'] us) : ∃ u u', us = [u, u'] ∧ Rep K H av w d u ∧ Rep K H av w d' u' := by
  obtain ⟨u, r', rfl, h, h'⟩ := r
  obtain ⟨u', rfl, h2⟩ := reps1 h'
  exact ⟨u, u', rfl, h, h2⟩
theorem l_len {K : PySem.W.Frag} : LiftN K (fun xs H Q => ∃ x n, xs = [x] ∧ LenV K x H n ∧ Q (.int n) H) oLen := by
  intro c w Γ H σ xs us P Q e r o k
  match xs, o with
  | [.str z], o =>
    obtain ⟨u, rfl, h⟩ := reps1 r
    have h : u = .str z := h
    subst h
    exact ⟨_, z.length, rfl, ⟨o.1, rfl⟩, fin_same e k o.2 rfl⟩
  | [.lst ds], o =>
    obtain ⟨u, rfl, a, ys, rfl, h1, h2⟩ := reps1 r
    exact ⟨_, ys.length, rfl, .inl ⟨ys, h1.sq, rfl⟩, fin_same e k o (by show _ = _; rw [h2.length])⟩
  | [.tup ds], o =>
    obtain ⟨u, rfl, a, ys, rfl, h1, h2⟩ := reps1 r
    exact ⟨_, ys.length, rfl, .inr ⟨ys, h1.sq, rfl⟩, fin_same e k o (by show _ = _; rw [h2.length])⟩
  | [.frl ds], o =>
    obtain ⟨u, rfl, a, ys, rfl, h1, h2⟩ := reps1 r
    exact ⟨_, ys.length, rfl, .inl ⟨ys, h1.sq, rfl⟩, fin_same e k o (by show _ = _; rw [h2.length])⟩
theorem q_len (hg : Gl X "len") (hm : X.mg "len" = none) (ha : QAx X W [e] qr) (he : starEach [e] X.env = (false, eval e X.env) :: starEach [] X.env := by rfl) (hpl : (backTo pos (starEach [] X.env)).any (·.1) = false := by rfl) :
    QEx X W (.Call (.Name "len" p) [e] [] pos) (qCB oLen qr) := q_callB call_len l_len hg hm boot_len ha (by decide) (by decide) he hpl
def oAbs : QOn := fun xs Γ P => match xs with
  | [.int i] => P (.int (if i < 0 then -i else i)) Γ
  | _ => False
theorem l_abs {K : PySem.W.Frag} : LiftN K (fun xs H Q => ∃ i, xs = [.int i] ∧ Q (.int (if i < 0 then -i else i)) H) oAbs := by
  intro c w Γ H σ xs us P Q e r o k
  match xs, o with
  | [.int i], o =>
    obtain ⟨u, rfl, h⟩ := reps1 r
    have h : u = .int i := h
    subst h
    exact ⟨_, rfl, fin_same e k o rfl⟩
def oMax : QOn := fun xs Γ P => match xs with
  | [.int i, .int j] => P (.int (if j > i then j else i)) Γ
  | _ => False
def oMin : QOn := fun xs Γ P => match xs with
  | [.int i, .int j] => P (.int (if j < i then j else i)) Γ
  | _ => False
theorem l_max {K : PySem.W.Frag} : LiftN K (fun xs H Q => ∃ i j, xs = [.int i, .int j] ∧ Q (.int (if j > i then j else i)) H) oMax := by
  intro c w Γ H σ xs us P Q e r o k
  match xs, o with
  | [.int i, .int j], o =>
    obtain ⟨u, u', rfl, h, h'⟩ := reps2 r
    have h : u = .int i := h
    have h' : u' = .int j := h'
    subst h h'
    exact ⟨_, _, rfl, fin_same e k o rfl⟩
theorem l_min {K : PySem.W.Frag} : LiftN K (fun xs H Q => ∃ i j, xs = [.int i, .int j] ∧ Q (.int (if j < i then j else i)) H) oMin := by
  intro c w Γ H σ xs us P Q e r o k
  match xs, o with
  | [.int i, .int j], o =>
    obtain ⟨u, u', rfl, h, h'⟩ := reps2 r
    have h : u = .int i := h
    have h' : u' = .int j := h'
    subst h h'
    exact ⟨_, _, rfl, fin_same e k o rfl⟩
/-- list(..) -/
def oList : List D → G → (List D → G → Prop) → Prop := fun xs Γ P => match xs with
  | [.lst ds] => P ds Γ
  | [.tup ds] => P ds Γ
  | [.frl ds] => P ds Γ
  | _ => False
theorem l_list {K : PySem.W.Frag} : LiftNL K (fun xs H Q => ∃ p ys, xs = [.ref p] ∧ (SqL K H p ys ∨ SqT K H p ys) ∧ ∀ l, H l = none → Q (.ref l) (upd H l (.lst ys))) oList := by
  intro c w Γ H σ xs us P Q e r o k
  have key : ∀ (d : D) (ds : List D), d.seq = some ds → xs = [d] → P ds Γ → ∃ p ys, us = [V.ref p] ∧ (SqL K H p ys ∨ SqT K H p ys) ∧ ∀ l, H l = none → Q (.ref l) (upd H l (.lst ys)) := by
    intro d ds h1 h2 h3
    subst h2
    obtain ⟨u, rfl, h⟩ := reps1 r
    obtain ⟨a, ys, rfl, h4, h5⟩ := h.seqR h1
    exact ⟨a, ys, rfl, h4, fun l hl => k ds Γ w H l ys h3 Stp.refl e hl h5⟩
  match xs, o with
  | [.lst ds], o => exact key _ _ rfl rfl o
  | [.tup ds], o => exact key _ _ rfl rfl o
  | [.frl ds], o => exact key _ _ rfl rfl o
/-- tuple(..) -/
def oTuple : QOn := fun xs Γ P => match xs with
  | [.lst ds] => P (.tup ds) Γ
  | [.tup ds] => P (.tup ds) Γ
  | _ => False
theorem l_tuple {K : PySem.W.Frag} : LiftN K (fun xs H Q => ∃ p ys, xs = [.ref p] ∧ ((SqL K H p ys ∧ ∀ l, H l = none → Q (.ref l) (upd H l (.tup ys))) ∨ (SqT K H p ys ∧ Q (.ref p) H))) oTuple := by
  intro c w Γ H σ xs us P Q e r o k
  match xs, o with
  | [.lst ds], o =>
    obtain ⟨u, rfl, a, ys, rfl, h1, h2⟩ := reps1 r
    exact ⟨a, ys, rfl, .inl ⟨h1.sq, fun l hl => fin_tup e k o h2 hl⟩⟩
  | [.tup ds], o =>
    obtain ⟨u, rfl, a, ys, rfl, h1, h2⟩ := reps1 r
    exact ⟨a, ys, rfl, .inr ⟨h1.sq, fin_same e k o ⟨a, ys, rfl, h1, h2⟩⟩⟩
theorem ql_list (hg : Gl X "list") (hm : X.mg "list" = none) (ha : QAx X W [e] qr) (he : starEach [e] X.env = (false, eval e X.env) :: starEach [] X.env := by rfl) (hpl : (backTo pos (starEach [] X.env)).any (·.1) = false := by rfl) :
    QLx X W (.Call (.Name "list" p) [e] [] pos) (qCBL oList qr) := ql_callTy call_list_of l_list hg hm (by decide +kernel) ha (by decide) (by decide) he hpl
theorem q_list (hg : Gl X "list") (hm : X.mg "list" = none) (ha : QAx X W [e] qr) (he : starEach [e] X.env = (false, eval e X.env) :: starEach [] X.env := by rfl) (hpl : (backTo pos (starEach [] X.env)).any (·.1) = false := by rfl) :
    QEx X W (.Call (.Name "list" p) [e] [] pos) (qOfL (qCBL oList qr)) := q_ofL (ql_list hg hm ha he hpl)
theorem q_tuple (hg : Gl X "tuple") (hm : X.mg "tuple" = none) (ha : QAx X W [e] qr) (he : starEach [e] X.env = (false, eval e X.env) :: starEach [] X.env := by rfl) (hpl : (backTo pos (starEach [] X.env)).any (·.1) = false := by rfl) :
    QEx X W (.Call (.Name "tuple" p) [e] [] pos) (qCB oTuple qr) := q_callTy call_tuple_of l_tuple hg hm (by decide +kernel) ha (by decide) (by decide) he hpl
theorem q_abs (hg : Gl X "abs") (hm : X.mg "abs" = none) (ha : QAx X W [e] qr) (he : starEach [e] X.env = (false, eval e X.env) :: starEach [] X.env := by rfl) (hpl : (backTo pos (starEach [] X.env)).any (·.1) = false := by rfl) :
    QEx X W (.Call (.Name "abs" p) [e] [] pos) (qCB oAbs qr) := q_callB call_abs l_abs hg hm (by decide +kernel) ha (by decide) (by decide) he hpl
theorem q_max2 (hc : X.calm = true) (hg : Gl X "max") (hm : X.mg "max" = none) (ha : QAx X W [e, a] qr) (he : starEach [e, a] X.env = (false, eval e X.env) :: starEach [a] X.env := by rfl) (hpl : (backTo pos (starEach [a] X.env)).any (·.1) = false := by rfl) :
    QEx X W (.Call (.Name "max" p) [e, a] [] pos) (qCB oMax qr) := q_callB (call_max2 hc) l_max hg hm (by decide +kernel) ha (by decide) (by decide) he hpl
theorem q_min2 (hc : X.calm = true) (hg : Gl X "min") (hm : X.mg "min" = none) (ha : QAx X W [e, a] qr) (he : starEach [e, a] X.env = (false, eval e X.env) :: starEach [a] X.env := by rfl) (hpl : (backTo pos (starEach [a] X.env)).any (·.1) = false := by rfl) :
    QEx X W (.Call (.Name "min" p) [e, a] [] pos) (qCB oMin qr) := q_callB (call_min2 hc) l_min hg hm (by decide +kernel) ha (by decide) (by decide) he hpl
end
end QL
namespace QL
open PySem PySem.Spec PyProof.Rows L2
/-! ### statements -/
def qNext : QS := fun _ E Γ => E.nx Γ
def qSeq (p q : QS) : QS := fun EX E Γ => p EX ⟨fun Γ' => q EX E Γ', E.rt, E.bk, E.ct⟩ Γ
def qIfS (t : QT) (p q : QS) : QS := fun EX E Γ => t EX Γ fun b Γ1 => qB b (p EX E Γ1) (q EX E Γ1)
def qRet (q : QE) : QS := fun EX E Γ => q EX Γ E.rt
def qRetN : QS := fun _ E Γ => E.rt .non Γ
def qBreak : QS := fun _ E Γ => E.bk Γ
def qCont : QS := fun _ E Γ => E.ct Γ
def qDrop (q : QE) : QS := fun EX E Γ => q EX Γ fun _ Γ1 => E.nx Γ1
def qNever : QS := fun _ _ _ => False
section
variable {X : Cx} {W : WX} {st : Stmt} {rest body orelse : List Stmt} {p q : QS} {e : Expr} {qe : QE} {t : QT} {pos : Pos}
theorem qss_nil : QSs X W [] qNext := fun c => PSsi pss_nil fun D σ H ⟨w, Γ, E, EX, er, q, x, k⟩ => k.nx Γ w σ H q Stp.refl er
theorem qss_cons (h1 : QSx X W st p) (h2 : QSs X W rest q) : QSs X W (st :: rest) (qSeq p q) := fun c => PSsi (pss_cons (h1 c) (h2 c)) fun D σ H ⟨w, Γ, E, EX, er, q, x, k⟩ =>
  ⟨w, Γ, _, EX, er, q, x, fun Γ1 w1 σ1 H1 q1 s1 e1 => ⟨w1, Γ1, E, EX, e1, q1, x.stp s1, k.stp s1⟩, k.rt, k.bk, k.ct⟩
theorem qss_one (h1 : QSx X W st p) : QSs X W [st] p := fun c => pss_one (h1 c)
theorem qs_pass : QSx X W (.Pass pos) qNext := fun c => PSi ps_pass fun D σ H ⟨w, Γ, E, EX, er, q, x, k⟩ => k.nx Γ w σ H q Stp.refl er
theorem qs_break : QSx X W (.Break pos) qBreak := fun c => PSi ps_break fun D σ H ⟨w, Γ, E, EX, er, q, x, k⟩ => k.bk Γ w σ H q Stp.refl er
theorem qs_cont : QSx X W (.Continue pos) qCont := fun c => PSi ps_continue fun D σ H ⟨w, Γ, E, EX, er, q, x, k⟩ => k.ct Γ w σ H q Stp.refl er
theorem qs_never : QSx X W st qNever := fun c => PSi ps_never fun D σ H ⟨w, Γ, E, EX, er, q, x, k⟩ => q.elim
theorem qs_if {f : Expr} {b1 b2 : List Stmt} (ht : QTx X W f t) (h1 : QSs X W b1 p) (h2 : QSs X W b2 q) : QSx X W (.If f b1 b2 pos) (qIfS t p q) := fun c => PSi (ps_if (ht c) (h1 c) (h2 c)) fun D σ H ⟨w, Γ, E, EX, er, q, x, k⟩ =>
  ⟨w, Γ, _, EX, er, q, x, fun b Γ1 w1 H1 q1 s1 e1 => by
    cases b with
    | true => exact ⟨w1, Γ1, E, EX, e1, q1, x.stp s1, k.stp s1⟩
    | false => exact ⟨w1, Γ1, E, EX, e1, q1, x.stp s1, k.stp s1⟩⟩
theorem qs_ret (h : QEx X W e qe) : QSx X W (.Return (some e) pos) (qRet qe) := fun c => PSi (ps_ret (h c)) fun D σ H ⟨w, Γ, E, EX, er, q, x, k⟩ =>
  ⟨w, Γ, _, EX, er, q, x, fun d Γ1 w1 H1 v q1 s1 e1 r1 => k.rt d Γ1 w1 σ H1 v q1 s1 e1 r1⟩
theorem qs_retN : QSx X W (.Return none pos) qRetN := fun c => PSi ps_retN fun D σ H ⟨w, Γ, E, EX, er, q, x, k⟩ => k.rt .non Γ w σ H .non q Stp.refl er rfl
theorem qs_expr (h : QEx X W e qe) (hs : swapsWith e none pos.line X.env = pure false := by rfl) : QSx X W (.Expr e pos) (qDrop qe) := fun c => PSi (ps_expr (h c) hs) fun D σ H ⟨w, Γ, E, EX, er, q, x, k⟩ =>
  ⟨w, Γ, _, EX, er, q, x, fun d Γ1 w1 H1 v q1 s1 e1 r1 => k.nx Γ1 w1 σ H1 q1 s1 e1⟩
end
/-! ### stores -/
section
variable {K : PySem.W.Frag} {c : C0} {w : List Addr} {H : Hp} {σ : L2.St} {Γ : G}
theorem own_set {i j : Nat} {v : V} {d : D} {a : Addr} (hi : i < Γ.sl.length) (h : OwnAt (σ.set i (some v)) ⟨Γ.sl.set i (.va d), Γ.ob⟩ j a) : OwnAt σ Γ j a ∧ j ≠ i := by
  obtain ⟨h1, t, h2, h3⟩ := h
  by_cases e : j = i
  · subst e
    have h2 : (Γ.sl.set j (.va d))[j]? = some t := h2
    rw [List.getElem?_set_self hi] at h2
    cases h2
    cases h3
  · have h2 : (Γ.sl.set i (.va d))[j]? = some t := h2
    rw [List.getElem?_set_ne (fun z => e z.symm)] at h2
    rw [List.getElem?_set_ne (fun z => e z.symm)] at h1
    exact ⟨⟨h1, t, h2, h3⟩, e⟩
theorem av_set {i : Nat} {v : V} {d : D} {a : Addr} (hi : i < Γ.sl.length) (h : Av c w (σ.set i (some v)) ⟨Γ.sl.set i (.va d), Γ.ob⟩ a) : Av c w σ Γ a := by
  rcases h with h | h | ⟨j, h⟩
  · exact .inl h
  · exact .inr (.inl h)
  · exact .inr (.inr ⟨j, (own_set hi h).1⟩)
theorem stp_set {i : Nat} {v : V} {d : D} (hi : i < Γ.sl.length) : Stp c w σ Γ H w (σ.set i (some v)) ⟨Γ.sl.set i (.va d), Γ.ob⟩ H := ⟨fun a o h n => ⟨h, fun z => n (av_set hi z)⟩, List.prefix_refl _⟩
theorem ER.set (e : ER K c w H σ Γ) {i : Nat} {d : D} {v : V} (hi : i < Γ.sl.length) (r : Rep K H (Av c w σ Γ) w d v) : ER K c w H (σ.set i (some v)) ⟨Γ.sl.set i (.va d), Γ.ob⟩ where
  len := by
    show (σ.set i _).length = (Γ.sl.set i _).length
    rw [List.length_set, List.length_set]
    exact e.len
  wl := e.wl
  wn := e.wn
  on := fun a b x h1 h2 => e.on a b x (own_set hi h1).1 (own_set hi h2).1
  ow := fun a x h => e.ow a x (own_set hi h).1
  sl := fun j t ht => by
    by_cases q : j = i
    · subst q
      have ht : (Γ.sl.set j (.va d))[j]? = some t := ht
      rw [List.getElem?_set_self hi] at ht
      cases ht
      have hσ : j < σ.length := by rw [e.len]; exact hi
      rw [List.getElem?_set_self hσ]
      exact ⟨v, rfl, r.stp (stp_set hi)⟩
    · have ht : (Γ.sl.set i (.va d))[j]? = some t := ht
      rw [List.getElem?_set_ne (fun z => q z.symm)] at ht
      rw [List.getElem?_set_ne (fun z => q z.symm)]
      exact (e.sl j t ht).keep (stp_set hi).keep (List.prefix_refl _) fun _ a u _ h => h
  ob := fun n a o h1 h2 => (e.ob n a o h1 h2).keep (stp_set hi).keep (List.prefix_refl _) fun _ h => h
  fr := e.fr
  pre := e.pre
  hid := e.hid
/-- a new list at p becomes slot i's own -/
theorem own_new {i j : Nat} {p : Addr} {s : Slot} {a : Addr} (hi : i < Γ.sl.length) (hσ : i < σ.length) (h : OwnAt (σ.set i (some (.ref p))) ⟨Γ.sl.set i s, Γ.ob⟩ j a) : (OwnAt σ Γ j a ∧ j ≠ i) ∨ (j = i ∧ a = p) := by
  obtain ⟨h1, t, h2, h3⟩ := h
  by_cases e : j = i
  · subst e
    rw [List.getElem?_set_self hσ] at h1
    cases h1
    exact .inr ⟨rfl, rfl⟩
  · have h2 : (Γ.sl.set i s)[j]? = some t := h2
    rw [List.getElem?_set_ne (fun z => e z.symm)] at h2
    rw [List.getElem?_set_ne (fun z => e z.symm)] at h1
    exact .inl ⟨⟨h1, t, h2, h3⟩, e⟩
theorem stp_new {i : Nat} {p : Addr} {s : Slot} {o : HO} (hi : i < Γ.sl.length) (hσ : i < σ.length) (hp : H p = none) : Stp c w σ Γ H w (σ.set i (some (.ref p))) ⟨Γ.sl.set i s, Γ.ob⟩ (upd H p o) := by
  refine ⟨fun a u h n => ⟨same_new hp a u h, fun z => ?_⟩, List.prefix_refl _⟩
  rcases z with z | z | ⟨j, z⟩
  · exact n (.inl z)
  · exact n (.inr (.inl z))
  · rcases own_new hi hσ z with ⟨z, _⟩ | ⟨_, z⟩
    · exact n (.inr (.inr ⟨j, z⟩))
    · subst z
      rw [hp] at h
      cases h
theorem ER.setNew (e : ER K c w H σ Γ) {i : Nat} {p : Addr} {s : Slot} {o : HO} (hi : i < Γ.sl.length) (hp : H p = none)
    (hs : SlR K (upd H p o) (Av c w (σ.set i (some (.ref p))) ⟨Γ.sl.set i s, Γ.ob⟩) w s (some (.ref p))) : ER K c w (upd H p o) (σ.set i (some (.ref p))) ⟨Γ.sl.set i s, Γ.ob⟩ := by
  have hσ : i < σ.length := by rw [e.len]; exact hi
  have nw : p ∉ w := fun z => e.fresh hp (.inl z)
  have nh : c.hid p = none := by
    cases q : c.hid p with
    | none => rfl
    | some u => exact absurd (.inr (.inl ⟨u, q⟩)) (e.fresh hp)
  have st := stp_new (c := c) (w := w) (Γ := Γ) (s := s) (o := o) hi hσ hp
  refine ⟨?_, e.wl, e.wn, ?_, ?_, ?_, ?_, ?_, e.pre, ?_⟩
  · show (σ.set i _).length = (Γ.sl.set i _).length
    rw [List.length_set, List.length_set]
    exact e.len
  · intro a b x h1 h2
    rcases own_new hi hσ h1 with ⟨g1, n1⟩ | ⟨g1, g1'⟩
    · rcases own_new hi hσ h2 with ⟨g2, n2⟩ | ⟨g2, g2'⟩
      · exact e.on a b x g1 g2
      · exact absurd (.inr (.inr ⟨a, g2' ▸ g1⟩)) (e.fresh hp)
    · rcases own_new hi hσ h2 with ⟨g2, n2⟩ | ⟨g2, g2'⟩
      · exact absurd (.inr (.inr ⟨b, g1' ▸ g2⟩)) (e.fresh hp)
      · rw [g1, g2]
  · intro a x h
    rcases own_new hi hσ h with ⟨h1, n1⟩ | ⟨h1, h1'⟩
    · exact e.ow a x h1
    · subst h1'
      exact ⟨nw, nh, e.fresh0 hp nw⟩
  · intro j t ht
    by_cases q : j = i
    · subst q
      have ht : (Γ.sl.set j s)[j]? = some t := ht
      rw [List.getElem?_set_self hi] at ht
      cases ht
      rw [List.getElem?_set_self hσ]
      exact hs
    · have ht : (Γ.sl.set i s)[j]? = some t := ht
      rw [List.getElem?_set_ne (fun z => q z.symm)] at ht
      rw [List.getElem?_set_ne (fun z => q z.symm)]
      exact (e.sl j t ht).keep st.keep (List.prefix_refl _) fun _ a u _ h => same_new hp a u h
  · exact fun n a o h1 h2 => (e.ob n a o h1 h2).keep st.keep (List.prefix_refl _) fun u h => same_new hp a u h
  · exact fun a o h n => ⟨same_new hp a o (e.fr a o h n).1, (e.fr a o h n).2⟩
  · exact fun a o h => ⟨same_new hp a o (e.hid a o h).1, (e.hid a o h).2⟩
theorem ER.setList (e : ER K c w H σ Γ) {i : Nat} {p : Addr} {ds : List D} {xs : List V} (hi : i < Γ.sl.length) (hp : H p = none) (r : Reps K H (Av c w σ Γ) w ds xs) :
    ER K c w (upd H p (.lst xs)) (σ.set i (some (.ref p))) ⟨Γ.sl.set i (.ow ds), Γ.ob⟩ := by
  have hσ : i < σ.length := by rw [e.len]; exact hi
  exact e.setNew hi hp ⟨p, xs, rfl, upd_same, r.stp (stp_new hi hσ hp)⟩
theorem ER.setDict (e : ER K c w H σ Γ) {i : Nat} {p : Addr} (hi : i < Γ.sl.length) (hp : H p = none) :
    ER K c w (upd H p (.dK [])) (σ.set i (some (.ref p))) ⟨Γ.sl.set i (.od [] []), Γ.ob⟩ := e.setNew hi hp ⟨p, [], rfl, upd_same, rfl, rfl⟩
end
/-- name = e: a value; a new list that is one's own -/
def qSet (i : Nat) (q : QE) : QS := fun EX E Γ => q EX Γ fun d Γ1 => i < Γ1.sl.length ∧ E.nx ⟨Γ1.sl.set i (.va d), Γ1.ob⟩
def qSetL (i : Nat) (q : QL_) : QS := fun EX E Γ => q EX Γ fun ds Γ1 => i < Γ1.sl.length ∧ E.nx ⟨Γ1.sl.set i (.ow ds), Γ1.ob⟩
section
variable {X : Cx} {W : WX} {e a b : Expr} {qe : QE} {ql : QL_} {qr : QA} {pos pos' : Pos} {x y : Str}
theorem qs_set {i : Nat} (hN : X.N.Nodup) (hi : X.N[i]? = some x) (hx : Loc X.env.scope x) (h : QEx X W e qe) (hs : swapsWith e (some (.Name x pos')) pos.line X.env = pure false := by rfl)
    (hf : X.fn x = true ∨ X.env.scope.names.lookup x = some .local := by first | exact .inl rfl | exact .inr rfl | assumption) : QSx X W (.Assign [.Name x pos'] e pos) (qSet i qe) := fun c =>
  PSi (ps_set hN hi hx (h c) hs hf) fun D σ H ⟨w, Γ, E, EX, er, q, x, k⟩ => ⟨w, Γ, _, EX, er, q, x, fun d Γ1 w1 H1 v q1 s1 e1 r1 => k.nx _ w1 _ H1 q1.2 (s1.trans (stp_set q1.1)) (e1.set q1.1 r1)⟩
theorem qs_setL {i : Nat} (hN : X.N.Nodup) (hi : X.N[i]? = some x) (hx : Loc X.env.scope x) (h : QLx X W e ql) (hs : swapsWith e (some (.Name x pos')) pos.line X.env = pure false := by rfl)
    (hf : X.fn x = true ∨ X.env.scope.names.lookup x = some .local := by first | exact .inl rfl | exact .inr rfl | assumption) : QSx X W (.Assign [.Name x pos'] e pos) (qSetL i ql) := fun c =>
  PSi (ps_set hN hi hx (h c) hs hf) fun D σ H ⟨w, Γ, E, EX, er, q, x, k⟩ => ⟨w, Γ, _, EX, er, q, x, fun d Γ1 w1 H1 p xs q1 s1 e1 hp r1 =>
    k.nx _ w1 _ _ q1.2 (s1.trans (stp_new q1.1 (by rw [e1.len]; exact q1.1) hp)) (e1.setList q1.1 hp r1)⟩
/-- a, b = e1, e2 -/
def qPar (i j : Nat) (qr : QA) : QS := fun EX E Γ => qr EX Γ fun ds Γ1 => match ds with
  | [d, d'] => i < Γ1.sl.length ∧ j < Γ1.sl.length ∧ E.nx ⟨(Γ1.sl.set i (.va d)).set j (.va d'), Γ1.ob⟩
  | _ => False
theorem qs_par {i j : Nat} {px py pt : Pos} {kt k2 pt2} (hc : X.calm = true) (hN : X.N.Nodup) (hi : X.N[i]? = some x) (hj : X.N[j]? = some y) (hij : i ≠ j)
    (hx : X.env.scope.names.lookup x = some .local) (hy : X.env.scope.names.lookup y = some .local) (ha : QAx X W [a, b] qr)
    (hw : swappedStores [.Tuple [.Name x px, .Name y py] kt pt] (.Tuple [a, b] k2 pt2) X.env = pure (some [x, y]))
    (hs : swapsWithSole [.Tuple [.Name x px, .Name y py] kt pt] (.Tuple [a, b] k2 pt2) pos.line X.env = pure false := by rfl) :
    QSx X W (.Assign [.Tuple [.Name x px, .Name y py] kt pt] (.Tuple [a, b] k2 pt2) pos) (qPar i j qr) := fun c =>
  PSi (ps_par hc hN hi hj hij hx hy (ha c) hw hs) fun D σ H ⟨w, Γ, E, EX, er, q, x, k⟩ => ⟨w, Γ, _, EX, er, q, x, fun ds Γ1 w1 H1 vs q1 s1 e1 r1 => by
    match ds, q1 with
    | [d, d'], q1 =>
      obtain ⟨u, u', rfl, r, r'⟩ := reps2 r1
      obtain ⟨h1, h2, q1⟩ := q1
      have e2 := e1.set h1 r
      have h2' : j < (Γ1.sl.set i (.va d)).length := by rw [List.length_set]; exact h2
      have s2 : Stp c w1 σ Γ1 H1 w1 (σ.set i (some u)) ⟨Γ1.sl.set i (.va d), Γ1.ob⟩ H1 := stp_set h1
      exact ⟨u, u', rfl, k.nx _ w1 _ H1 q1 ((s1.trans s2).trans (stp_set (Γ := ⟨Γ1.sl.set i (.va d), Γ1.ob⟩) h2')) (e2.set (Γ := ⟨Γ1.sl.set i (.va d), Γ1.ob⟩) h2' (r'.stp s2))⟩⟩
end
/-! ### targets -/
abbrev QG := D → G → (G → Prop) → Prop
def liftG (K : PySem.W.Frag) (c : C0) (q : QG) : TG := fun v σ H Q => ∃ w Γ d P, ER K c w H σ Γ ∧ Rep K H (Av c w σ Γ) w d v ∧ q d Γ P ∧
  ∀ Γ' w' σ' H', P Γ' → Stp c w σ Γ H w' σ' Γ' H' → ER K c w' H' σ' Γ' → Q σ' H'
def QGx (X : Cx) (e : Expr) (q : QG) : Prop := ∀ c, PG X e (liftG X.K c q)
theorem PGi {X : Cx} {e : Expr} {t t' : TG} (h : PG X e t) (i : ∀ v σ H Q, t' v σ H Q → t v σ H Q) : PG X e t' := ⟨fun pins s σ H v u Q I r q => h.run pins s σ H v u Q I r (i v σ H Q q)⟩
def gqName (i : Nat) : QG := fun d Γ P => i < Γ.sl.length ∧ P ⟨Γ.sl.set i (.va d), Γ.ob⟩
/-- (a, b, ..) = a tuple -/
def gqAll : List QG → List D → G → (G → Prop) → Prop
  | [], [], Γ, P => P Γ
  | q :: qs, d :: ds, Γ, P => q d Γ fun Γ1 => gqAll qs ds Γ1 P
  | _, _, _, _ => False
def gqTup (qs : List QG) : QG := fun d Γ P => match d with
  | .tup ds => ds.length = qs.length ∧ gqAll qs ds Γ P
  | _ => False
def liftGs (K : PySem.W.Frag) (c : C0) (qs : List QG) : TGs := fun vs σ H Q => ∃ w Γ ds P, ER K c w H σ Γ ∧ Reps K H (Av c w σ Γ) w ds vs ∧ gqAll qs ds Γ P ∧
  ∀ Γ' w' σ' H', P Γ' → Stp c w σ Γ H w' σ' Γ' H' → ER K c w' H' σ' Γ' → Q σ' H'
def QGs (X : Cx) (es : List Expr) (qs : List QG) : Prop := ∀ c, PGs X es (liftGs X.K c qs)
section
variable {X : Cx} {e : Expr} {es : List Expr} {q : QG} {qs : List QG} {pos : Pos} {x : Str}
theorem qg_name (i : Nat) (hN : X.N.Nodup) (hi : X.N[i]? = some x := by rfl) (hx : Loc X.env.scope x := by first | exact Or.inl rfl | exact Or.inr rfl) (hf : X.fn x = true ∨ X.env.scope.names.lookup x = some .local := by first | exact .inl rfl | exact .inr rfl | assumption) :
    QGx X (.Name x pos) (gqName i) := fun c => PGi (pg_name hN hi hx hf) fun v σ H Q ⟨w, Γ, d, P, er, r, q, k⟩ => k _ w _ H q.2 (stp_set q.1) (er.set q.1 r)
theorem qgs_nil : QGs X [] [] := fun c => ⟨fun pins s σ H vs us Q I r h => pgs_nil.run pins s σ H vs us Q I r (by
  obtain ⟨w, Γ, ds, P, er, rs, q, k⟩ := h
  match ds, q with
  | [], q =>
    have rs : vs = [] := rs
    exact ⟨rs, k Γ w σ H q Stp.refl er⟩)⟩
theorem qgs_cons (h1 : QGx X e q) (h2 : QGs X es qs) (hs : (assignEach (e :: es) X.env).map (·.2) = assign e X.env :: (assignEach es X.env).map (·.2) := by rfl) : QGs X (e :: es) (q :: qs) := fun c =>
  ⟨fun pins s σ H vs us Q I r h => (pgs_cons (h1 c) (h2 c) hs).run pins s σ H vs us Q I r (by
    obtain ⟨w, Γ, ds, P, er, rs, q, k⟩ := h
    match ds, q with
    | d :: ds, q =>
      obtain ⟨v, vr, rfl, r1, r2⟩ := rs
      exact ⟨v, vr, rfl, w, Γ, d, _, er, r1, q, fun Γ1 w1 σ1 H1 q1 s1 e1 => ⟨w1, Γ1, ds, P, e1, r2.stp s1, q1, fun Γ2 w2 σ2 H2 q2 s2 e2 => k Γ2 w2 σ2 H2 q2 (s1.trans s2) e2⟩⟩)⟩
theorem qg_tup {k : Nat} (hc : X.calm = true) (h : QGs X es qs) (hl : qs.length = es.length) (hn : (assignEach es X.env).length = es.length := by rfl) (hst : (assignEach es X.env).findIdx? (·.1) = none := by rfl) : QGx X (.Tuple es k pos) (gqTup qs) := fun c =>
  PGi (pg_tup (n := es.length) hc (h c) hn hst) fun v σ H Q ⟨w, Γ, d, P, er, r, q, k⟩ => by
    cases d <;> try exact q.elim
    rename_i ds
    obtain ⟨a, xs, rfl, h1, h2⟩ := r
    exact ⟨a, xs, rfl, h1.sq, by rw [h2.length, q.1, hl], w, Γ, ds, P, er, h2, q.2, k⟩
end
end QL
namespace QL
open PySem PySem.Spec PyProof.Rows L2
/-! ### what is walked -/
/-- the iterator gives these data, one after another -/
def JOk (K : PySem.W.Frag) (J : It) (ds : List D) (av0 : Addr → Prop) (w0 : List Addr) (H0 : Hp) : Prop := ∀ (i : Nat) (w : List Addr) (H : Hp) (av : Addr → Prop), (∀ a o, H0 a = some o → ¬ av0 a → H a = some o ∧ ¬ av a) → w0 <+: w →
  (∀ a, av a → ∃ o, H a = some o) → (ds.length ≤ i → J.stop i H) ∧ ∀ d, ds[i]? = some d → J.go i H ∧ ∀ x H', J.yld i H x H' → Same H H' ∧ Rep K H' av w d x
abbrev QI := EXG → G → (List D → G → Prop) → Prop
def liftI (K : PySem.W.Frag) (c : C0) (W : WX) (q : QI) : TI := fun σ H R => ∃ w Γ P EX, ER K c w H σ Γ ∧ q EX Γ P ∧ XL K c W w σ Γ H EX ∧
  ∀ ds Γ' w' H' J, P ds Γ' → Stp c w σ Γ H w' σ Γ' H' → ER K c w' H' σ Γ' → JOk K J ds (Av c w' σ Γ') w' H' → R J H'
def QIx (X : Cx) (W : WX) (tg e : Expr) (q : QI) : Prop := ∀ c, PI X tg e (liftI X.K c W q)
theorem PIi {X : Cx} {tg e : Expr} {t t' : TI} (h : PI X tg e t) (i : ∀ σ H R, t' σ H R → t σ H R) : PI X tg e t' := ⟨fun pins s σ H R I q => h.run pins s σ H R I (i σ H R q)⟩
theorem PIor {X : Cx} {tg e : Expr} {t t' : TI} (h : PI X tg e t) (h' : PI X tg e t') : PI X tg e (fun σ H R => t σ H R ∨ t' σ H R) := ⟨fun pins s σ H R I q => by
  rcases q with q | q
  · exact h.run pins s σ H R I q
  · exact h'.run pins s σ H R I q⟩
section
variable {K : PySem.W.Frag}
theorem SqL.inj0 {H : Hp} {a : Addr} {xs ys : List V} (h : H a = some (.lst xs)) (h' : Rd H a (.lst ys)) : xs = ys := by
  rcases h' with h' | ⟨o, h'⟩ <;> rw [h] at h' <;> cases h'
  rfl
/-- a list's items; the iterator tells of every reading of the list, so a fact of K is asked -/
theorem jok_list {a : Addr} {xs : List V} {ds : List D} {av0 : Addr → Prop} {w0 : List Addr} {H0 : Hp} (h : LsA K H0 av0 a xs) (r : Reps K H0 av0 w0 ds xs) : JOk K (Itl K a) ds av0 w0 H0 := by
  intro i w H av k p t
  have h1 := h.keep (K := K) k
  have r1 := r.keep k p
  refine ⟨fun hi => ⟨xs, h1.sq, by rw [r1.length]; exact hi⟩, fun d hd => ?_⟩
  obtain ⟨x, hx, rx⟩ := r1.get hd
  refine ⟨⟨xs, x, h1.sq, hx⟩, fun x' H' y => ?_⟩
  obtain ⟨rfl, y⟩ := y
  have := y xs h1.sq
  rw [hx] at this
  cases this
  exact ⟨Same.refl _, rx⟩
theorem jok_tup {a : Addr} {xs : List V} {ds : List D} {av0 : Addr → Prop} {w0 : List Addr} {H0 : Hp} (h : TpA K H0 av0 a xs) (r : Reps K H0 av0 w0 ds xs) : JOk K (Itt K a) ds av0 w0 H0 := by
  intro i w H av k p t
  have h1 := h.keep (K := K) k
  have r1 := r.keep k p
  refine ⟨fun hi => ⟨xs, h1.sq, by rw [r1.length]; exact hi⟩, fun d hd => ?_⟩
  obtain ⟨x, hx, rx⟩ := r1.get hd
  refine ⟨⟨xs, x, h1.sq, hx⟩, fun x' H' y => ?_⟩
  obtain ⟨rfl, y⟩ := y
  have := y xs h1.sq
  rw [hx] at this
  cases this
  exact ⟨Same.refl _, rx⟩
theorem jok_frl {a : Addr} {xs : List V} {ds : List D} {av0 : Addr → Prop} {w0 : List Addr} {H0 : Hp} (h : FrA K H0 av0 a xs) (r : Reps K H0 av0 w0 ds xs) : JOk K (Itl K a) ds av0 w0 H0 := by
  intro i w H av k p t
  have h1 := h.keep (K := K) k
  have r1 := r.keep k p
  refine ⟨fun hi => ⟨xs, h1.sq, by rw [r1.length]; exact hi⟩, fun d hd => ?_⟩
  obtain ⟨x, hx, rx⟩ := r1.get hd
  refine ⟨⟨xs, x, h1.sq, hx⟩, fun x' H' y => ?_⟩
  obtain ⟨rfl, y⟩ := y
  have := y xs h1.sq
  rw [hx] at this
  cases this
  exact ⟨Same.refl _, rx⟩
/-- lo, lo + c, .. -/
def rngD (lo c : Int) (n : Nat) : List D := (List.range n).map fun (i : Nat) => .int (lo + (i : Int) * c)
theorem rngD_get {lo c : Int} {n i : Nat} {d : D} (h : (rngD lo c n)[i]? = some d) : i < n ∧ d = .int (lo + (i : Int) * c) := by
  unfold rngD at h
  rw [List.getElem?_map] at h
  cases q : (List.range n)[i]? with
  | none =>
    rw [q] at h
    cases h
  | some j =>
    rw [q] at h
    obtain ⟨h1, h2⟩ := List.getElem?_eq_some_iff.mp q
    rw [List.length_range] at h1
    rw [List.getElem_range] at h2
    subst h2
    cases h
    exact ⟨h1, rfl⟩
theorem rngD_len {lo c : Int} {n : Nat} : (rngD lo c n).length = n := by
  unfold rngD
  rw [List.length_map, List.length_range]
theorem jok_rng {lo : Int} {n : Nat} {av0 : Addr → Prop} {w0 : List Addr} {H0 : Hp} : JOk K (Itr lo n) (rngD lo 1 n) av0 w0 H0 := by
  intro i w H av k p t
  refine ⟨fun hi => by rw [rngD_len] at hi; exact hi, fun d hd => ?_⟩
  obtain ⟨h1, rfl⟩ := rngD_get hd
  refine ⟨h1, fun x H' y => ?_⟩
  obtain ⟨rfl, rfl⟩ := y
  exact ⟨Same.refl _, by show V.int _ = V.int _; rw [Int.mul_one]⟩
theorem jok_rngC {lo c : Int} {n : Nat} {av0 : Addr → Prop} {w0 : List Addr} {H0 : Hp} : JOk K (Itc lo c n) (rngD lo c n) av0 w0 H0 := by
  intro i w H av k p t
  refine ⟨fun hi => by rw [rngD_len] at hi; exact hi, fun d hd => ?_⟩
  obtain ⟨h1, rfl⟩ := rngD_get hd
  refine ⟨h1, fun x H' y => ?_⟩
  obtain ⟨rfl, rfl⟩ := y
  exact ⟨Same.refl _, rfl⟩
end
/-- for x in a list or tuple -/
def iqSeq (q : QE) : QI := fun EX Γ P => q EX Γ fun d Γ1 => match d with
  | .lst ds => P ds Γ1
  | .tup ds => P ds Γ1
  | .frl ds => P ds Γ1
  | _ => False
def iqRng1 (qr : QA) : QI := fun EX Γ P => qr EX Γ fun ds Γ1 => match ds with
  | [.int j] => -(2 ^ 62) ≤ j ∧ j < 2 ^ 62 ∧ P (rngD 0 1 j.toNat) Γ1
  | _ => False
def iqRng2 (qr : QA) : QI := fun EX Γ P => qr EX Γ fun ds Γ1 => match ds with
  | [.int i, .int j] => (-(2 ^ 62) ≤ i ∧ i < 2 ^ 62 ∧ -(2 ^ 62) ≤ j ∧ j < 2 ^ 62) ∧ P (rngD i 1 (j - i).toNat) Γ1
  | _ => False
def iqRng3 (qr : QA) : QI := fun EX Γ P => qr EX Γ fun ds Γ1 => match ds with
  | [.int i, .int j, .int c] => ∃ n, RgC i j c n ∧ P (rngD i c n) Γ1
  | _ => False
/-- pairs -/
def zipD : List D → List D → List D
  | a :: as, b :: bs => .tup [a, b] :: zipD as bs
  | _, _ => []
theorem zipD_get : ∀ {as bs : List D} {i : Nat} {d : D}, (zipD as bs)[i]? = some d → ∃ a b, as[i]? = some a ∧ bs[i]? = some b ∧ d = .tup [a, b]
  | a :: as, b :: bs, 0, d, h => ⟨a, b, rfl, rfl, (Option.some.inj h).symm⟩
  | a :: as, b :: bs, i + 1, d, h => zipD_get (as := as) (bs := bs) (i := i) h
  | [], _, i, d, h => by
    have h : ([] : List D)[i]? = some d := h
    simp at h
  | a :: as, [], i, d, h => by
    have h : ([] : List D)[i]? = some d := h
    simp at h
theorem zipD_len : ∀ {as bs : List D}, (zipD as bs).length = min as.length bs.length
  | a :: as, b :: bs => by
    show (zipD as bs).length + 1 = min (as.length + 1) (bs.length + 1)
    rw [zipD_len]
    omega
  | [], _ => by
    show 0 = min 0 _
    omega
  | a :: as, [] => by
    show 0 = min _ 0
    omega
theorem jok_zip {K : PySem.W.Frag} {a b : Addr} {xs ys : List V} {ds es : List D} {av0 : Addr → Prop} {w0 : List Addr} {H0 : Hp} (h : LsA K H0 av0 a xs) (r : Reps K H0 av0 w0 ds xs) (h' : LsA K H0 av0 b ys) (r' : Reps K H0 av0 w0 es ys) : JOk K (Itz K a b) (zipD ds es) av0 w0 H0 := by
  intro i w H av k p t
  have h1 := h.keep (K := K) k
  have r1 := r.keep k p
  have h2 := h'.keep (K := K) k
  have r2 := r'.keep k p
  refine ⟨fun hi => ⟨xs, ys, h1.sq, h2.sq, by rw [r1.length, r2.length]; rw [zipD_len] at hi; omega⟩, fun d hd => ?_⟩
  obtain ⟨d1, d2, g1, g2, rfl⟩ := zipD_get hd
  obtain ⟨x, hx, rx⟩ := r1.get g1
  obtain ⟨y, hy, ry⟩ := r2.get g2
  refine ⟨⟨xs, ys, x, y, h1.sq, h2.sq, hx, hy⟩, fun x' H' yy => ?_⟩
  obtain ⟨T, x2, y2, rfl, hT, rfl, z1, z2⟩ := yy
  have e1 := z1 xs h1.sq
  have e2 := z2 ys h2.sq
  rw [hx] at e1
  rw [hy] at e2
  cases e1
  cases e2
  have nT : ¬ av T := fun z => by
    obtain ⟨o, q⟩ := t T z
    rw [hT] at q
    cases q
  have s := same_new (o := .tup [x, y]) hT
  exact ⟨s, T, [x, y], rfl, TpA.new nT, Reps.cons (rx.keep (fun a o h n => ⟨s a o h, n⟩) (List.prefix_refl _)) (Reps.one (ry.keep (fun a o h n => ⟨s a o h, n⟩) (List.prefix_refl _)))⟩
theorem jok_zipT {K : PySem.W.Frag} {a b : Addr} {xs ys : List V} {ds es : List D} {av0 : Addr → Prop} {w0 : List Addr} {H0 : Hp} (h : TpA K H0 av0 a xs) (r : Reps K H0 av0 w0 ds xs) (h' : TpA K H0 av0 b ys) (r' : Reps K H0 av0 w0 es ys) : JOk K (RZ.ItzT K a b) (zipD ds es) av0 w0 H0 := by
  intro i w H av k p t
  have h1 := h.keep (K := K) k
  have r1 := r.keep k p
  have h2 := h'.keep (K := K) k
  have r2 := r'.keep k p
  refine ⟨fun hi => ⟨xs, ys, h1.sq, h2.sq, by rw [r1.length, r2.length]; rw [zipD_len] at hi; omega⟩, fun d hd => ?_⟩
  obtain ⟨d1, d2, g1, g2, rfl⟩ := zipD_get hd
  obtain ⟨x, hx, rx⟩ := r1.get g1
  obtain ⟨y, hy, ry⟩ := r2.get g2
  refine ⟨⟨xs, ys, x, y, h1.sq, h2.sq, hx, hy⟩, fun x' H' yy => ?_⟩
  obtain ⟨T, x2, y2, rfl, hT, rfl, z1, z2⟩ := yy
  have e1 := z1 xs h1.sq
  have e2 := z2 ys h2.sq
  rw [hx] at e1
  rw [hy] at e2
  cases e1
  cases e2
  have nT : ¬ av T := fun z => by
    obtain ⟨o, q⟩ := t T z
    rw [hT] at q
    cases q
  have s := same_new (o := .tup [x, y]) hT
  exact ⟨s, T, [x, y], rfl, TpA.new nT, Reps.cons (rx.keep (fun a o h n => ⟨s a o h, n⟩) (List.prefix_refl _)) (Reps.one (ry.keep (fun a o h n => ⟨s a o h, n⟩) (List.prefix_refl _)))⟩
/-- zip of two lists, of two tuples -/
def iqZip (qr : QA) : QI := fun EX Γ P => qr EX Γ fun ds Γ1 => match ds with
  | [.lst ds, .lst es] => P (zipD ds es) Γ1
  | [.tup ds, .tup es] => P (zipD ds es) Γ1
  | _ => False
section
variable {X : Cx} {W : WX} {tg e a b : Expr} {es : List Expr} {qe : QE} {qr : QA} {p pos : Pos}
/-- the iterator of a list, of a tuple at hand -/
theorem it_list {pins : List (Addr × Obj)} {s1 : Shared} {σ : L2.St} {H1 : Hp} {R : It → Hp → Prop} {a : Addr} {xs : List V} (I1 : Inv X pins σ H1 s1) (hq : SqL X.K H1 a xs) (q : R (Itl X.K a) H1) : wpAny (model X.prog X.w) X.A (pyIter (.ref a)) (PIE X pins σ tg R) X.xe s1 := by
  obtain ⟨its, rv, p, hz⟩ := I1.list hq
  refine wpAny_pyIter_list p.isList ?_
  refine ⟨_, [s1.heap.objs.size], _, _, H1, rfl, I1.kept (t' := s1.toks) fun b o e => Heap.get?_push_of_some _ e,
    turn_list a _, ⟨_, Heap.get?_push_size _ rfl, rfl, rfl⟩, fun b hb => ?_, q⟩
  rw [List.mem_singleton.mp hb]
  exact I1.fpOk (Nat.le_refl _) (I1.hok.fresh (Nat.le_refl _))
theorem it_tup {pins : List (Addr × Obj)} {s1 : Shared} {σ : L2.St} {H1 : Hp} {R : It → Hp → Prop} {a : Addr} {xs : List V} (I1 : Inv X pins σ H1 s1) (hq : SqT X.K H1 a xs) (q : R (Itt X.K a) H1) : wpAny (model X.prog X.w) X.A (pyIter (.ref a)) (PIE X pins σ tg R) X.xe s1 := by
  obtain ⟨its, rv, p, hz⟩ := I1.tuple hq
  refine wpAny_pyIter_tuple (show s1.heap.IsTuple a its.toArray from p) ?_
  refine ⟨_, [s1.heap.objs.size], _, _, H1, rfl, I1.kept (t' := s1.toks) fun b o e => Heap.get?_push_of_some _ e,
    turn_tuple a _, ⟨_, Heap.get?_push_size _ rfl, rfl, rfl⟩, fun b hb => ?_, q⟩
  rw [List.mem_singleton.mp hb]
  exact I1.fpOk (Nat.le_refl _) (I1.hok.fresh (Nat.le_refl _))
def iSeq (K : PySem.W.Frag) (tl : TE) : TI := fun σ H R => tl σ H fun x H1 => ∃ a, x = .ref a ∧ (((∃ xs, SqL K H1 a xs) ∧ R (Itl K a) H1) ∨ ((∃ xs, SqT K H1 a xs) ∧ R (Itt K a) H1))
theorem pi_seq {tl : TE} (hl : PE X e tl) : PI X tg e (iSeq X.K tl) := ⟨fun pins s σ H R I h => thn (hl.run pins s σ H _ I h) fun v s1 ⟨x, H1, I1, r1, a, ex, q1⟩ => by
  subst ex
  obtain rfl : v = Value.ref a := r1
  rcases q1 with ⟨⟨xs, hq⟩, q⟩ | ⟨⟨xs, hq⟩, q⟩
  · exact it_list I1 hq q
  · exact it_tup I1 hq q⟩
theorem qi_seq (h : QEx X W e qe) : QIx X W tg e (iqSeq qe) := fun c => PIi (pi_seq (h c)) fun σ H R ⟨w, Γ, P, EX, er, q, x, k⟩ =>
  ⟨w, Γ, _, EX, er, q, x, fun d Γ1 w1 H1 v q1 s1 e1 r1 => by
    cases d <;> try exact q1.elim
    · obtain ⟨a, xs, rfl, h1, h2⟩ := r1
      exact ⟨a, rfl, .inr ⟨⟨xs, h1.sq⟩, k _ _ _ _ _ q1 s1 e1 (jok_tup h1 h2)⟩⟩
    · obtain ⟨a, xs, rfl, h1, h2⟩ := r1
      exact ⟨a, rfl, .inl ⟨⟨xs, h1.sq⟩, k _ _ _ _ _ q1 s1 e1 (jok_list h1 h2)⟩⟩
    · obtain ⟨a, xs, rfl, h1, h2⟩ := r1
      exact ⟨a, rfl, .inl ⟨⟨xs, h1.sq⟩, k _ _ _ _ _ q1 s1 e1 (jok_frl h1 h2)⟩⟩⟩
theorem reps3 {K : PySem.W.Frag} {H : Hp} {av : Addr → Prop} {w : List Addr} {d d' d2 : D} {us : List V} (r : Reps K H av w [d, d', d2] us) : ∃ u u' u2, us = [u, u', u2] ∧ Rep K H av w d u ∧ Rep K H av w d' u' ∧ Rep K H av w d2 u2 := by
  obtain ⟨u, r', rfl, h, h'⟩ := r
  obtain ⟨u', u2, rfl, h2, h3⟩ := reps2 h'
  exact ⟨u, u', u2, rfl, h, h2, h3⟩
theorem qi_rng1 (hg : Gl X "range") (hm : X.mg "range" = none) (ha : QAx X W [a] qr) (hs : starEach [a] X.env = [(false, eval a X.env)] := by rfl) : QIx X W tg (.Call (.Name "range" p) [a] [] pos) (iqRng1 qr) := fun c =>
  PIi (pi_range1 hg hm (ha c) hs) fun σ H R ⟨w, Γ, P, EX, er, q, x, k⟩ => ⟨w, Γ, _, EX, er, q, x, fun ds Γ1 w1 H1 vs q1 s1 e1 r1 => by
    match ds, q1 with
    | [.int j], q1 =>
      obtain ⟨u, rfl, h⟩ := reps1 r1
      exact ⟨j, by rw [show u = V.int j from h], q1.1, q1.2.1, k _ _ _ _ _ q1.2.2 s1 e1 jok_rng⟩⟩
theorem qi_rng2 (hg : Gl X "range") (hm : X.mg "range" = none) (ha : QAx X W [a, b] qr) (hs : starEach [a, b] X.env = [(false, eval a X.env), (false, eval b X.env)] := by rfl) (hs2 : starEach [b] X.env = [(false, eval b X.env)] := by rfl) :
    QIx X W tg (.Call (.Name "range" p) [a, b] [] pos) (iqRng2 qr) := fun c =>
  PIi (pi_range2 hg hm (ha c) hs hs2) fun σ H R ⟨w, Γ, P, EX, er, q, x, k⟩ => ⟨w, Γ, _, EX, er, q, x, fun ds Γ1 w1 H1 vs q1 s1 e1 r1 => by
    match ds, q1 with
    | [.int i, .int j], q1 =>
      obtain ⟨u, u', rfl, h, h'⟩ := reps2 r1
      exact ⟨i, j, by rw [show u = V.int i from h, show u' = V.int j from h'], q1.1, k _ _ _ _ _ q1.2 s1 e1 jok_rng⟩⟩
theorem qi_rng3 {e2 : Expr} (hg : Gl X "range") (hm : X.mg "range" = none) (ha : QAx X W [a, b, e2] qr) (hs : starEach [a, b, e2] X.env = (false, eval a X.env) :: starEach [b, e2] X.env := by rfl) (hpl : (backTo pos (starEach [b, e2] X.env)).any (·.1) = false := by rfl) :
    QIx X W tg (.Call (.Name "range" p) [a, b, e2] [] pos) (iqRng3 qr) := fun c =>
  PIi (pi_range3 hg hm (ha c) hs hpl) fun σ H R ⟨w, Γ, P, EX, er, q, x, k⟩ => ⟨w, Γ, _, EX, er, q, x, fun ds Γ1 w1 H1 vs q1 s1 e1 r1 => by
    match ds, q1 with
    | [.int i, .int j, .int c], q1 =>
      obtain ⟨u, u', u2, rfl, h, h', h2⟩ := reps3 r1
      obtain ⟨n, g1, g2⟩ := q1
      exact ⟨i, j, c, n, by rw [show u = V.int i from h, show u' = V.int j from h', show u2 = V.int c from h2], g1, k _ _ _ _ _ g2 s1 e1 jok_rngC⟩⟩
theorem qi_zip {elts : List Expr} {kk : Nat} {tpos : Pos} (hg : Gl X "zip") (hm : X.mg "zip" = none) (ha : QAx X W [a, b] qr) (hs : starEach [a, b] X.env = (false, eval a X.env) :: starEach [b] X.env := by rfl) (hpl : (backTo pos (starEach [b] X.env)).any (·.1) = false := by rfl) :
    QIx X W (.Tuple elts kk tpos) (.Call (.Name "zip" p) [a, b] [] pos) (iqZip qr) := fun c =>
  PIi (RZ.pi_zipA hg hm (ha c) hs hpl) fun σ H R ⟨w, Γ, P, EX, er, q, x, k⟩ => ⟨w, Γ, _, EX, er, q, x, fun ds Γ1 w1 H1 vs q1 s1 e1 r1 => by
    match ds, q1 with
    | [.lst ds, .lst es], q1 =>
      obtain ⟨u, u', rfl, ⟨a, xs, rfl, h1, h2⟩, ⟨b, ys, rfl, h3, h4⟩⟩ := reps2 r1
      exact ⟨a, b, xs, ys, rfl, .inl ⟨h1.sq, h3.sq, k _ _ _ _ _ q1 s1 e1 (jok_zip h1 h2 h3 h4)⟩⟩
    | [.tup ds, .tup es], q1 =>
      obtain ⟨u, u', rfl, ⟨a, xs, rfl, h1, h2⟩, ⟨b, ys, rfl, h3, h4⟩⟩ := reps2 r1
      exact ⟨a, b, xs, ys, rfl, .inr ⟨h1.sq, h3.sq, k _ _ _ _ _ q1 s1 e1 (jok_zipT h1 h2 h3 h4)⟩⟩⟩
end
/-! ### loops -/
def qLoop (g : QG) (b : QS) (EX : EXG) (E : QEnd) : List D → G → Prop
  | [], Γ => E.nx Γ
  | d :: r, Γ => g d Γ fun Γ1 => b EX ⟨fun Γ' => qLoop g b EX E r Γ', E.rt, E.nx, fun Γ' => qLoop g b EX E r Γ'⟩ Γ1
def qFor (qi : QI) (g : QG) (b : QS) : QS := fun EX E Γ => qi EX Γ fun ds Γ1 => qLoop g b EX E ds Γ1
/-- while: an invariant with a measure -/
def qWhile (t : QT) (b : QS) : QS := fun EX E Γ => ∃ I : Nat → G → Prop, (∃ m, I m Γ) ∧ ∀ m Γ, I m Γ → t EX Γ fun k Γ1 => qB k
  (b EX ⟨fun Γ' => ∃ m', m' < m ∧ I m' Γ', E.rt, E.nx, fun Γ' => ∃ m', m' < m ∧ I m' Γ'⟩ Γ1) (E.nx Γ1)
section
variable {X : Cx} {W : WX} {tg e it : Expr} {body : List Stmt} {qi : QI} {g : QG} {b : QS} {t : QT} {pos : Pos}
theorem qs_for (hp : PassesOwn (model X.prog X.w) X.A X.env X.xe) (hc : X.calm = true) (hi : QIx X W tg it qi) (hg : QGx X tg g) (hb : QSs X W body b) (hs : ∀ x, foldedSetIterable it X.env x = pure x := by intro _; rfl) :
    QSx X W (.For tg it body [] pos) (qFor qi g b) := fun c => PSi (ps_for hp hc (hi c) (hg c) (hb c) hs) fun D σ H ⟨w, Γ, E, EX, er, q, x, k⟩ => by
  refine ⟨w, Γ, _, EX, er, q, x, fun ds Γ1 w1 H1 J q1 s1 e1 j => ?_⟩
  refine ⟨fun i m σ' H' => m = ds.length - i ∧ i ≤ ds.length ∧ ∃ w' Γ', ER X.K c w' H' σ' Γ' ∧ Stp c w1 σ Γ1 H1 w' σ' Γ' H' ∧ qLoop g b EX E (ds.drop i) Γ', ⟨_, rfl, Nat.zero_le _, w1, Γ1, e1, Stp.refl, q1⟩, ?_⟩
  rintro i m σ' H' ⟨rfl, hi, w', Γ', e', s', q'⟩
  obtain ⟨j1, j2⟩ := j i w' H' (Av c w' σ' Γ') s'.keep s'.pre fun a h => e'.tracked h
  by_cases hlt : i < ds.length
  · have hd : ds.drop i = ds[i] :: ds.drop (i + 1) := List.drop_eq_getElem_cons hlt
    rw [hd] at q'
    obtain ⟨g1, g2⟩ := j2 _ (List.getElem?_eq_getElem hlt)
    refine .inr ⟨g1, fun σ2 H2 => ∃ w2 Γ2, ER X.K c w2 H2 σ2 Γ2 ∧ Stp c w1 σ Γ1 H1 w2 σ2 Γ2 H2 ∧ qLoop g b EX E (ds.drop (i + 1)) Γ2, fun σ2 H2 ⟨w2, Γ2, e2, s2, q2⟩ => ⟨_, ?_, rfl, hlt, w2, Γ2, e2, s2, q2⟩, fun v H2 y => ?_⟩
    · omega
    · obtain ⟨sm, rv⟩ := g2 v H2 y
      have e2 := e'.same sm
      have s2 : Stp c w' σ' Γ' H' w' σ' Γ' H2 := Stp.same sm
      refine ⟨w', Γ', _, _, e2, rv, q', fun Γ3 w3 σ3 H3 q3 s3 e3 => ?_⟩
      have st := (s'.trans s2).trans s3
      refine ⟨w3, Γ3, _, EX, e3, q3, (x.stp s1).stp st, ⟨?_, ?_, ?_, ?_⟩⟩
      · exact fun Γ4 w4 σ4 H4 q4 s4 e4 => ⟨w4, Γ4, e4, st.trans s4, q4⟩
      · exact fun d Γ4 w4 σ4 H4 v q4 s4 e4 r4 => k.rt d Γ4 w4 σ4 H4 v q4 ((s1.trans st).trans s4) e4 r4
      · exact fun Γ4 w4 σ4 H4 q4 s4 e4 => k.nx Γ4 w4 σ4 H4 q4 ((s1.trans st).trans s4) e4
      · exact fun Γ4 w4 σ4 H4 q4 s4 e4 => ⟨w4, Γ4, e4, st.trans s4, q4⟩
  · have he : ds.drop i = [] := List.drop_eq_nil_of_le (by omega)
    rw [he] at q'
    exact .inl ⟨j1 (by omega), k.nx Γ' w' σ' H' q' (s1.trans s') e'⟩
theorem qs_while (hp : PassesOwn (model X.prog X.w) X.A X.env X.xe) (ht : QTx X W e t) (hb : QSs X W body b) : QSx X W (.While e body [] pos) (qWhile t b) := fun c => PSi (ps_while hp (ht c) (hb c)) fun D σ H ⟨w, Γ, E, EX, er, ⟨I, ⟨m, hm⟩, q⟩, x, k⟩ => by
  refine ⟨fun m σ' H' => ∃ w' Γ', ER X.K c w' H' σ' Γ' ∧ Stp c w σ Γ H w' σ' Γ' H' ∧ I m Γ', ⟨m, w, Γ, er, Stp.refl, hm⟩, ?_⟩
  rintro m σ' H' ⟨w', Γ', e', s', hI⟩
  refine ⟨w', Γ', _, EX, e', q m Γ' hI, x.stp s', fun b Γ1 w1 H1 q1 s1 e1 => ?_⟩
  have st := s'.trans s1
  cases b with
  | true =>
    refine ⟨fun σ2 H2 => ∃ m', m' < m ∧ ∃ w2 Γ2, ER X.K c w2 H2 σ2 Γ2 ∧ Stp c w σ Γ H w2 σ2 Γ2 H2 ∧ I m' Γ2, fun σ2 H2 z => z, ?_⟩
    refine ⟨w1, Γ1, _, EX, e1, q1, x.stp st, ⟨?_, ?_, ?_, ?_⟩⟩
    · exact fun Γ4 w4 σ4 H4 ⟨m', h1, h2⟩ s4 e4 => ⟨m', h1, w4, Γ4, e4, st.trans s4, h2⟩
    · exact fun d Γ4 w4 σ4 H4 v q4 s4 e4 r4 => k.rt d Γ4 w4 σ4 H4 v q4 (st.trans s4) e4 r4
    · exact fun Γ4 w4 σ4 H4 q4 s4 e4 => k.nx Γ4 w4 σ4 H4 q4 (st.trans s4) e4
    · exact fun Γ4 w4 σ4 H4 ⟨m', h1, h2⟩ s4 e4 => ⟨m', h1, w4, Γ4, e4, st.trans s4, h2⟩
  | false => exact k.nx Γ1 w1 σ' H1 q1 st e1
end
end QL
namespace QL
open PySem PySem.Spec PyProof.Rows L2
/-! ### defs -/
def av2 (w : List Addr) (hid : Hp) (a : Addr) : Prop := a ∈ w ∨ ∃ o, hid a = some o
structure Ent (K : PySem.W.Frag) (w : List Addr) (hid : Hp) (H : Hp) (ob : List Ob) : Prop where
  wl : w.length = ob.length
  wn : w.Nodup
  ob : ∀ (n : Nat) a o, w[n]? = some a → ob[n]? = some o → ObR K H (av2 w hid) w a o
  hid : ∀ a o, hid a = some o → H a = some o ∧ a ∉ w
/-- what a def does: exceptions wished for, arguments, objects, what follows -/
abbrev FQ := (Exc → List Ob → Prop) → List D → List Ob → (D → List Ob → Prop) → Prop
def Exr2 (K : PySem.W.Frag) (w : List Addr) (hid : Hp) (H : Hp) (e : Exc) (cls : Value) (d : Option Addr) : Prop :=
  cls = .ref (He.ga K e.cls) ∧ ∃ dd kvs, d = some dd ∧ H dd = some (.xd kvs) ∧ ¬ av2 w hid dd ∧ kvs.map (·.1) = e.fs ∧ Reps K H (av2 w hid) w e.xs (kvs.map (·.2))
/-- all but the objects stays -/
def Stay (w : List Addr) (H : Hp) (w' : List Addr) (H' : Hp) : Prop := w <+: w' ∧ ∀ a o, H a = some o → a ∉ w → H' a = some o ∧ a ∉ w'
def spQ (K : PySem.W.Frag) (n : Nat) (F : FQ) : Sp := fun vs H Q E => ∃ w hid ob ds P EX, Ent K w hid H ob ∧ Reps K H (av2 w hid) w ds vs ∧ ds.length = n ∧ F EX ds ob P ∧
  (∀ d ob' w' H' v, P d ob' → Stay w H w' H' → Ent K w' hid H' ob' → Rep K H' (av2 w' hid) w' d v → Q v H') ∧
  (∀ e ob' w' H' cls d, EX e ob' → Stay w H w' H' → Ent K w' hid H' ob' → Exr2 K w' hid H' e cls d → E cls d H')
theorem spQ_imp {K : PySem.W.Frag} {n : Nat} {F F' : FQ} (h : ∀ EX ds ob P, ds.length = n → F' EX ds ob P → F EX ds ob P) : ∀ vs H Q E, spQ K n F' vs H Q E → spQ K n F vs H Q E :=
  fun vs H Q E ⟨w, hid, ob, ds, P, EX, h1, h2, h3, h4, h5, h6⟩ => ⟨w, hid, ob, ds, P, EX, h1, h2, h3, h EX ds ob P h3 h4, h5, h6⟩
theorem spQ_len {K : PySem.W.Frag} {n : Nat} {F : FQ} {vs : List V} {H : Hp} {Q : VK} {E : XK} (h : spQ K n F vs H Q E) : vs.length = n := by
  obtain ⟨w, hid, ob, ds, P, EX, h1, h2, h3, h4, h5, h6⟩ := h
  rw [h2.length]
  exact h3
def G0 (N : List Str) (ds : List D) (ob : List Ob) : G := ⟨ds.map .va ++ List.replicate (N.length - ds.length) .un, ob⟩
def fqOf (N : List Str) (q : QS) : FQ := fun EX ds ob P => q (fun e Γ => EX e Γ.ob) ⟨fun Γ => P .non Γ.ob, fun d Γ => P d Γ.ob, fun _ => False, fun _ => False⟩ (G0 N ds ob)
theorem noown {N : List Str} {ds : List D} {ob : List Ob} {σ : L2.St} {i : Nat} {a : Addr} (h : OwnAt σ (G0 N ds ob) i a) : False := by
  obtain ⟨_, s, h1, h2⟩ := h
  have hm : s ∈ ds.map Slot.va ++ List.replicate (N.length - ds.length) Slot.un := List.mem_of_getElem? h1
  rcases List.mem_append.mp hm with hm | hm
  · obtain ⟨d, _, rfl⟩ := List.mem_map.mp hm
    cases h2
  · rw [(List.mem_replicate.mp hm).2] at h2
    cases h2
theorem av_start {N : List Str} {ds : List D} {ob : List Ob} {σ : L2.St} {w : List Addr} {H hid : Hp} {a : Addr} : Av ⟨w, H, hid⟩ w σ (G0 N ds ob) a ↔ av2 w hid a := by
  constructor
  · intro h
    rcases h with h | h | ⟨i, h⟩
    · exact .inl h
    · exact .inr h
    · exact (noown h).elim
  · intro h
    rcases h with h | h
    · exact .inl h
    · exact .inr (.inl h)
theorem er_start {K : PySem.W.Frag} {N : List Str} {ds : List D} {ob : List Ob} {w : List Addr} {H hid : Hp} {vs : List V} (e : Ent K w hid H ob) (r : Reps K H (av2 w hid) w ds vs) (hl : ds.length ≤ N.length) : ER K ⟨w, H, hid⟩ w H (L2.start N vs) (G0 N ds ob) where
  len := by
    show (vs.map some ++ List.replicate (N.length - vs.length) none).length = (ds.map Slot.va ++ List.replicate (N.length - ds.length) Slot.un).length
    rw [List.length_append, List.length_append, List.length_map, List.length_map, List.length_replicate, List.length_replicate, r.length]
  wl := e.wl
  wn := e.wn
  on := fun i j a h _ => (noown h).elim
  ow := fun i a h => (noown h).elim
  sl := fun i s h => by
    have kk : ∀ a o, H a = some o → ¬ av2 w hid a → H a = some o ∧ ¬ Av ⟨w, H, hid⟩ w (L2.start N vs) (G0 N ds ob) a := fun a o h n => ⟨h, fun z => n (av_start.mp z)⟩
    have h : (ds.map Slot.va ++ List.replicate (N.length - ds.length) Slot.un)[i]? = some s := h
    by_cases hi : i < ds.length
    · rw [List.getElem?_append_left (by rw [List.length_map]; exact hi), List.getElem?_map] at h
      cases q : ds[i]? with
      | none =>
        rw [q] at h
        cases h
      | some d =>
        rw [q] at h
        cases h
        obtain ⟨x, hx, rx⟩ := r.get q
        refine ⟨x, ?_, rx.keep kk (List.prefix_refl _)⟩
        show ((vs.map some ++ List.replicate (N.length - vs.length) none)[i]?).join = some x
        rw [List.getElem?_append_left (by rw [List.length_map, r.length]; exact hi), List.getElem?_map, hx]
        rfl
    · rw [List.getElem?_append_right (by rw [List.length_map]; omega)] at h
      have hm := List.mem_of_getElem? h
      rw [(List.mem_replicate.mp hm).2]
      trivial
  ob := fun n a o h1 h2 => (e.ob n a o h1 h2).keep (fun a o h n => ⟨h, fun z => n (av_start.mp z)⟩) (List.prefix_refl _) fun u h => h
  fr := fun a o h n => ⟨h, n⟩
  pre := List.prefix_refl _
  hid := e.hid
theorem av2_av {c : C0} {w : List Addr} {σ : L2.St} {Γ : G} {a : Addr} (h : av2 w c.hid a) : Av c w σ Γ a := h.imp id .inl
/-- behind the body -/
theorem ER.ent {K : PySem.W.Frag} {c : C0} {w : List Addr} {H : Hp} {σ : L2.St} {Γ : G} (e : ER K c w H σ Γ) : Ent K w c.hid H Γ.ob :=
  ⟨e.wl, e.wn, fun n a o h1 h2 => (e.ob n a o h1 h2).keep (fun a o h n => ⟨h, fun z => n (av2_av z)⟩) (List.prefix_refl _) fun u h => h, e.hid⟩
theorem ER.stay {K : PySem.W.Frag} {c : C0} {w : List Addr} {H : Hp} {σ : L2.St} {Γ : G} (e : ER K c w H σ Γ) : Stay c.w0 c.H0 w H := ⟨e.pre, e.fr⟩
section
variable {P : Program} {wd : World} {K : PySem.W.Frag} {mg : Str → Option Value} {base : Heap} {x qual : Str} {params : Arguments} {body : List Stmt} {scope : Scope} {dvs : List V} {kws : List (Str × V)} {f : Addr} {fd : FuncData}
abbrev Wx (E : XK) : WX := fun cls d _ H => E cls d H
/-- what is at hand in a def's body -/
structure Bd (X : Cx) (W : WX) (k : Nat) : Prop where
  hc : X.calm = true
  hp : PassesOwn (model X.prog X.w) X.A X.env X.xe
  tk : L2N.Takes X W
  hr : Room k X.A
theorem fq_ok {N ps : List Str} {k : Nat} {q : QS} (F : FunD K x qual params body scope dvs kws f fd) (S : FnScope N ps scope) (hl : ps.length ≤ N.length)
    (hb : ∀ (cdv : Value) (A : Around) (outer : List Env) (s : Shared) (H : Hp) (E : XK), Bd (cxOf (L2N.CX P wd) P wd K mg base N qual scope f cdv A outer s H E) (Wx E) k →
      QSs (cxOf (L2N.CX P wd) P wd K mg base N qual scope f cdv A outer s H E) (Wx E) body q) : FnOk P wd K mg base (L2N.CX P wd) (k + 1) f fd ps (spQ K ps.length (fqOf N q)) := by
  refine F.ok S (fun vs H Q E h => spQ_len h) (fun cdv A outer s H vs Q E hr h => ?_)
  obtain ⟨w, hid, ob, ds, P', EX, h1, h2, h3, h4, h5, h6⟩ := h
  refine ⟨_, hb cdv A outer s H E ⟨rfl, passes_of rfl, L2N.takes_of rfl rfl rfl rfl, hr⟩ ⟨w, H, hid⟩, ?_⟩
  have er := er_start (N := N) h1 h2 (by rw [h3]; exact hl)
  have low : ∀ {w' : List Addr} {H' : Hp} {σ' : L2.St} {Γ' : G} {d : D} {v : V}, Rep K H' (Av ⟨w, H, hid⟩ w' σ' Γ') w' d v → Rep K H' (av2 w' hid) w' d v :=
    fun {w' H' σ' Γ' d v} r => r.keep (fun a o h n => ⟨h, fun z => n (av2_av (c := ⟨w, H, hid⟩) z)⟩) (List.prefix_refl _)
  refine ⟨w, _, _, _, er, h4, fun e Γ' w' σ' H' cls d q1 s1 e1 r1 => ?_, ⟨fun Γ' w' σ' H' q1 s1 e1 => ?_, fun d Γ' w' σ' H' v q1 s1 e1 r1 => ?_, fun _ _ _ _ z _ _ => z.elim, fun _ _ _ _ z _ _ => z.elim⟩⟩
  · obtain ⟨g1, dd, kvs, g2, g3, g4, g5, g6⟩ := r1
    exact h6 e Γ'.ob w' H' cls d q1 e1.stay e1.ent ⟨g1, dd, kvs, g2, g3, fun z => g4 (av2_av (c := ⟨w, H, hid⟩) z), g5, g6.keep (fun a o h n => ⟨h, fun z => n (av2_av (c := ⟨w, H, hid⟩) z)⟩) (List.prefix_refl _)⟩
  · exact h5 _ _ w' H' _ q1 e1.stay e1.ent rfl
  · exact h5 _ _ w' H' _ q1 e1.stay e1.ent (low r1)
end
/-! ### calls -/
/-- f(..) -/
def qCall (n : Nat) (F : FQ) (dds : List D) (qr : QA) : QE := fun EX Γ P => qr EX Γ fun ds Γ1 => (ds ++ dds).length = n ∧ F (fun e ob => EX e ⟨Γ1.sl, ob⟩) (ds ++ dds) Γ1.ob fun d ob => P d ⟨Γ1.sl, ob⟩
open Classical in
/-- the caller's own lists are hidden -/
noncomputable def hidOf (c : C0) (σ : L2.St) (Γ : G) (H : Hp) : Hp := fun a => if (∃ i, OwnAt σ Γ i a) then H a else c.hid a
section
variable {K : PySem.W.Frag} {c : C0} {w : List Addr} {H : Hp} {σ : L2.St} {Γ : G}
theorem hid_iff (e : ER K c w H σ Γ) {a : Addr} : av2 w (hidOf c σ Γ H) a ↔ Av c w σ Γ a := by
  unfold av2 Av hidOf
  constructor
  · rintro (h | ⟨o, h⟩)
    · exact .inl h
    · by_cases q : ∃ i, OwnAt σ Γ i a
      · exact .inr (.inr q)
      · rw [if_neg q] at h
        exact .inr (.inl ⟨o, h⟩)
  · rintro (h | ⟨o, h⟩ | q)
    · exact .inl h
    · by_cases q : ∃ i, OwnAt σ Γ i a
      · obtain ⟨i, q⟩ := q
        rw [(e.ow i a q).2.1] at h
        cases h
      · exact .inr ⟨o, by rw [if_neg q]; exact h⟩
    · obtain ⟨o, h⟩ := e.tracked (.inr (.inr q))
      exact .inr ⟨o, by rw [if_pos q]; exact h⟩
theorem ent_call (e : ER K c w H σ Γ) : Ent K w (hidOf c σ Γ H) H Γ.ob where
  wl := e.wl
  wn := e.wn
  ob := fun n a o h1 h2 => (e.ob n a o h1 h2).keep (fun a o h n => ⟨h, fun z => n ((hid_iff e).mp z)⟩) (List.prefix_refl _) fun u h => h
  hid := fun a o h => by
    unfold hidOf at h
    by_cases q : ∃ i, OwnAt σ Γ i a
    · rw [if_pos q] at h
      obtain ⟨i, q⟩ := q
      exact ⟨h, (e.ow i a q).1⟩
    · rw [if_neg q] at h
      exact e.hid a o h
theorem own_ob {ob : List Ob} {i : Nat} {a : Addr} : OwnAt σ ⟨Γ.sl, ob⟩ i a ↔ OwnAt σ Γ i a := Iff.rfl
/-- behind a call -/
theorem back_call (e : ER K c w H σ Γ) {w' : List Addr} {H' : Hp} {ob' : List Ob} (s : Stay w H w' H') (n : Ent K w' (hidOf c σ Γ H) H' ob') :
    ER K c w' H' σ ⟨Γ.sl, ob'⟩ ∧ Stp c w σ Γ H w' σ ⟨Γ.sl, ob'⟩ H' ∧ ∀ a, Av c w' σ ⟨Γ.sl, ob'⟩ a → av2 w' (hidOf c σ Γ H) a := by
  have nw : ∀ a o, H a = some o → a ∉ w → a ∉ w' := fun a o h z => (s.2 a o h z).2
  have up : ∀ a, Av c w' σ ⟨Γ.sl, ob'⟩ a → av2 w' (hidOf c σ Γ H) a := by
    rintro a (h | ⟨o, h⟩ | q)
    · exact .inl h
    · rcases (hid_iff e).mpr (.inr (.inl ⟨o, h⟩)) with z | z
      · exact absurd z (e.hid a o h).2
      · exact .inr z
    · rcases (hid_iff e).mpr (.inr (.inr q)) with z | z
      · obtain ⟨i, q⟩ := q
        exact absurd z (e.ow i a q).1
      · exact .inr z
  have dn : ∀ a o, H a = some o → av2 w' (hidOf c σ Γ H) a → a ∉ w → Av c w σ Γ a := by
    rintro a o h (z | z) n
    · exact absurd z (nw a o h n)
    · exact (hid_iff e).mp (.inr z)
  have st : Stp c w σ Γ H w' σ ⟨Γ.sl, ob'⟩ H' := ⟨fun a o h z => ⟨(s.2 a o h fun q => z (.inl q)).1, fun q => z (dn a o h (up a q) fun q => z (.inl q))⟩, s.1⟩
  refine ⟨⟨e.len, n.wl, n.wn, e.on, fun i a h => ⟨?_, (e.ow i a h).2⟩, fun i sl h => ?_, fun k a o h1 h2 => ?_, fun a o h z => ?_, e.pre.trans s.1, fun a o h => ?_⟩, st, up⟩
  · obtain ⟨o, q⟩ := e.tracked (.inr (.inr ⟨i, h⟩))
    exact nw a o q (e.ow i a h).1
  · refine (e.sl i sl h).keep st.keep st.pre fun ho a u h1 h2 => ?_
    have q : OwnAt σ Γ i a := ⟨own_ref h1, sl, h, ho⟩
    exact (s.2 a u h2 (e.ow i a q).1).1
  · exact (n.ob k a o h1 h2).keep (fun a o h z => ⟨h, fun q => z (up a q)⟩) (List.prefix_refl _) fun u h => h
  · obtain ⟨g1, g2⟩ := e.fr a o h z
    exact s.2 a o g1 g2
  · obtain ⟨g1, g2⟩ := e.hid a o h
    exact s.2 a o g1 g2
end
section
variable {X : Cx} {W : WX} {E : XK} {k j n : Nat} {f : Addr} {fd : FuncData} {ps : List Str} {F : FQ} {dvs : List V} {dds : List D} {dsv : List Value} {x : Str} {p pos : Pos} {e : Expr} {es : List Expr} {qr : QA}
/-- a def is called by values -/
theorem sp_call {c : C0} {w : List Addr} {Γ : G} {H : Hp} {σ : L2.St} {ds : List D} {vs : List V} {P : D → G → Prop} {Q : VK} {EX : EXG} {E : XK} (er : ER X.K c w H σ Γ) (r : Reps X.K H (Av c w σ Γ) w ds vs) (hn : ds.length = n)
    (h : F (fun e ob => EX e ⟨Γ.sl, ob⟩) ds Γ.ob fun d ob => P d ⟨Γ.sl, ob⟩)
    (xl : ∀ e Γ' w' H' cls d, EX e Γ' → Stp c w σ Γ H w' σ Γ' H' → ER X.K c w' H' σ Γ' → ExR X.K c w' σ Γ' H' e cls d → E cls d H')
    (k : ∀ d Γ' w' H' v, P d Γ' → Stp c w σ Γ H w' σ Γ' H' → ER X.K c w' H' σ Γ' → Rep X.K H' (Av c w' σ Γ') w' d v → Q v H') : spQ X.K n F vs H Q E := by
  refine ⟨w, hidOf c σ Γ H, Γ.ob, ds, _, _, ent_call er, r.keep (fun a o h n => ⟨h, fun z => n ((hid_iff er).mp z)⟩) (List.prefix_refl _), hn, h, ?_, ?_⟩
  · intro d ob' w' H' v h1 h2 h3 h4
    obtain ⟨g1, g2, g3⟩ := back_call er h2 h3
    exact k d _ w' H' v h1 g2 g1 (h4.keep (fun a o h n => ⟨h, fun z => n (g3 a z)⟩) (List.prefix_refl _))
  · intro e ob' w' H' cls d h1 h2 h3 h4
    obtain ⟨g1, g2, g3⟩ := back_call er h2 h3
    obtain ⟨i1, dd, kvs, i2, i3, i4, i5, i6⟩ := h4
    exact xl e _ w' H' cls d h1 g2 g1 ⟨i1, dd, kvs, i2, i3, fun z => i4 (g3 dd z), i5, i6.keep (fun a o h n => ⟨h, fun z => n (g3 a z)⟩) (List.prefix_refl _)⟩
/-- defaults as data -/
def DflOk (K : PySem.W.Frag) (dds : List D) (dvs : List V) : Prop := ∀ H av w, Reps K H av w dds dvs
theorem q_call (B : Bd X W k) (G1 : FnOk X.prog X.w X.K X.mg X.base (L2N.CX X.prog X.w) j f fd ps (spQ X.K n F)) (hj : j ≤ k) (hg : Gl X x) (hm : X.mg x = some (.ref f)) (hk : PySem.W.keepIn X.K (.ref f) = true) (hb : Binds X.K fd ps dsv) (hd : Vals dvs dsv) (hD : DflOk X.K dds dvs)
    (ha : QAx X W (e :: es) qr) (hdb : (x == ("__debug__" : Str)) = false := by decide) (he : starEach (e :: es) X.env = (false, eval e X.env) :: starEach es X.env := by rfl) (hpl : (backTo pos (starEach es X.env)).any (·.1) = false := by rfl) :
    QEx X W (.Call (.Name x p) (e :: es) [] pos) (qCall n F dds qr) := fun c =>
  PEi (pe_callSD G1 (B.hr.mono hj) hg hm hk hb hd (fun σ => L2N.passAt B.tk σ) (ha c) hdb he hpl) fun σ H Q ⟨w, Γ, P, EX, er, q, x, k⟩ =>
    ⟨w, Γ, _, EX, er, q, x, fun ds Γ1 w1 H1 vs q1 s1 e1 r1 => sp_call e1 (r1.append (hD _ _ _)) q1.1 q1.2 (fun e Γ' w' H' cls d h1 h2 h3 h4 => x e Γ' w' σ H' cls d h1 (s1.trans h2) h3 h4)
      fun d Γ' w' H' v h1 h2 h3 h4 => k d Γ' w' H' v h1 (s1.trans h2) h3 h4⟩
end
end QL
namespace QL
open PySem PySem.Spec PyProof.Rows L2
/-! ### list comprehensions -/
def wipeS : List Slot → List Nat → List Slot
  | s, [] => s
  | s, v :: vs => (wipeS s vs).set v .un
def wipeG (Γ : G) (vs : List Nat) : G := ⟨wipeS Γ.sl vs, Γ.ob⟩
theorem wipeS_len (s : List Slot) : ∀ vs, (wipeS s vs).length = s.length
  | [] => rfl
  | v :: vs => by
    show ((wipeS s vs).set v .un).length = _
    rw [List.length_set, wipeS_len s vs]
theorem wipeS_in {s : List Slot} {i : Nat} : ∀ {vs : List Nat}, i ∈ vs → i < s.length → (wipeS s vs)[i]? = some .un
  | v :: vs, h, hi => by
    show ((wipeS s vs).set v .un)[i]? = _
    by_cases e : v = i
    · subst e
      rw [List.getElem?_set_self (by rw [wipeS_len]; exact hi)]
    · rw [List.getElem?_set_ne e]
      exact wipeS_in ((List.mem_cons.mp h).resolve_left fun z => e z.symm) hi
theorem wipeS_out {s : List Slot} {i : Nat} : ∀ {vs : List Nat}, i ∉ vs → (wipeS s vs)[i]? = s[i]?
  | [], _ => rfl
  | v :: vs, h => by
    show ((wipeS s vs).set v .un)[i]? = _
    rw [List.getElem?_set_ne (fun z => h (by rw [z]; exact List.mem_cons_self ..))]
    exact wipeS_out fun z => h (List.mem_cons_of_mem _ z)
theorem wipe_in {σ : L2.St} {i : Nat} : ∀ {vs : List Nat}, i ∈ vs → i < σ.length → (wipe σ vs)[i]? = some none
  | v :: vs, h, hi => by
    show ((wipe σ vs).set v none)[i]? = _
    by_cases e : v = i
    · subst e
      rw [List.getElem?_set_self (by rw [wipe_length]; exact hi)]
    · rw [List.getElem?_set_ne e]
      exact wipe_in ((List.mem_cons.mp h).resolve_left fun z => e z.symm) hi
theorem wipe_set {j : Nat} {v : Option V} : ∀ {vs : List Nat} {σ : L2.St}, j ∈ vs → wipe (σ.set j v) vs = wipe σ vs := by
  intro vs σ h
  apply List.ext_getElem?
  intro i
  by_cases hi : i ∈ vs
  · by_cases hl : i < σ.length
    · rw [wipe_in hi hl, wipe_in hi (by rw [List.length_set]; exact hl)]
    · rw [List.getElem?_eq_none (by rw [wipe_length, List.length_set]; omega), List.getElem?_eq_none (by rw [wipe_length]; omega)]
  · rw [wipe_out hi, wipe_out hi, List.getElem?_set_ne (fun z => hi (by rw [← z]; exact h))]
section
variable {K : PySem.W.Frag} {c : C0} {w : List Addr} {H : Hp} {σ : L2.St} {Γ : G} {vs : List Nat}
theorem own_wipe {i : Nat} {a : Addr} : OwnAt (wipe σ vs) (wipeG Γ vs) i a → OwnAt σ Γ i a := by
  rintro ⟨h1, s, h2, h3⟩
  obtain ⟨g1, g2⟩ := wipe_some h1
  rw [show (wipeG Γ vs).sl[i]? = Γ.sl[i]? from wipeS_out g2] at h2
  exact ⟨g1, s, h2, h3⟩
theorem own_wipe2 {i : Nat} {a : Addr} (hl : σ.length = Γ.sl.length) : OwnAt σ (wipeG Γ vs) i a → OwnAt (wipe σ vs) (wipeG Γ vs) i a := by
  rintro ⟨h1, s, h2, h3⟩
  by_cases q : i ∈ vs
  · have hi : i < Γ.sl.length := by
      have := (List.getElem?_eq_some_iff.mp h1).1
      rw [hl] at this
      exact this
    rw [show (wipeG Γ vs).sl[i]? = _ from wipeS_in q hi] at h2
    cases h2
    cases h3
  · exact ⟨by rw [wipe_out q]; exact h1, s, h2, h3⟩
theorem av_wipe {a : Addr} : Av c w (wipe σ vs) (wipeG Γ vs) a → Av c w σ Γ a := fun h => h.imp id (Or.imp id fun ⟨i, z⟩ => ⟨i, own_wipe z⟩)
theorem av_wipe2 {a : Addr} (hl : σ.length = Γ.sl.length) : Av c w σ (wipeG Γ vs) a → Av c w (wipe σ vs) (wipeG Γ vs) a := fun h => h.imp id (Or.imp id fun ⟨i, z⟩ => ⟨i, own_wipe2 hl z⟩)
theorem ER.wiped (e : ER K c w H σ Γ) : ER K c w H (wipe σ vs) (wipeG Γ vs) := by
  have kk : ∀ a o, H a = some o → ¬ Av c w σ Γ a → H a = some o ∧ ¬ Av c w (L2.wipe σ vs) (wipeG Γ vs) a := fun a o h n => ⟨h, fun z => n (av_wipe z)⟩
  refine ⟨?_, e.wl, e.wn, fun i j a h1 h2 => e.on i j a (own_wipe h1) (own_wipe h2), fun i a h => e.ow i a (own_wipe h), fun i s h => ?_, fun n a o h1 h2 => (e.ob n a o h1 h2).keep kk (List.prefix_refl _) fun u h => h, e.fr, e.pre, e.hid⟩
  · show _ = (wipeS Γ.sl vs).length
    rw [wipe_length, wipeS_len]
    exact e.len
  · by_cases q : i ∈ vs
    · by_cases hi : i < Γ.sl.length
      · rw [show (wipeG Γ vs).sl[i]? = _ from wipeS_in q hi] at h
        cases h
        trivial
      · rw [show (wipeG Γ vs).sl[i]? = none from List.getElem?_eq_none (by show (wipeS Γ.sl vs).length ≤ i; rw [wipeS_len]; omega)] at h
        cases h
    · rw [show (wipeG Γ vs).sl[i]? = _ from wipeS_out q] at h
      rw [wipe_out q]
      exact (e.sl i s h).keep kk (List.prefix_refl _) fun _ a u _ h => h
/-- back from the block: the block's names are told no more -/
theorem ER.unwiped (e : ER K c w H (wipe σ vs) (wipeG Γ vs)) : ER K c w H σ (wipeG Γ vs) := by
  have hl : σ.length = Γ.sl.length := by
    have := e.len
    rw [wipe_length, show (wipeG Γ vs).sl.length = _ from wipeS_len _ _] at this
    exact this
  have kk : ∀ a o, H a = some o → ¬ Av c w (L2.wipe σ vs) (wipeG Γ vs) a → H a = some o ∧ ¬ Av c w σ (wipeG Γ vs) a := fun a o h n => ⟨h, fun z => n (av_wipe2 hl z)⟩
  refine ⟨?_, e.wl, e.wn, fun i j a h1 h2 => e.on i j a (own_wipe2 hl h1) (own_wipe2 hl h2), fun i a h => e.ow i a (own_wipe2 hl h), fun i s h => ?_, fun n a o h1 h2 => (e.ob n a o h1 h2).keep kk (List.prefix_refl _) fun u h => h, e.fr, e.pre, e.hid⟩
  · show _ = (wipeS Γ.sl vs).length
    rw [wipeS_len]
    exact hl
  · by_cases q : i ∈ vs
    · by_cases hi : i < Γ.sl.length
      · rw [show (wipeG Γ vs).sl[i]? = _ from wipeS_in q hi] at h
        cases h
        trivial
      · rw [show (wipeG Γ vs).sl[i]? = none from List.getElem?_eq_none (by show (wipeS Γ.sl vs).length ≤ i; rw [wipeS_len]; omega)] at h
        cases h
    · have z := e.sl i s h
      rw [wipe_out q] at z
      exact z.keep kk (List.prefix_refl _) fun _ a u _ h => h
theorem stp_wipe : Stp c w σ Γ H w (wipe σ vs) (wipeG Γ vs) H := ⟨fun a o h n => ⟨h, fun z => n (av_wipe z)⟩, List.prefix_refl _⟩
theorem stp_unwipe (hl : σ.length = Γ.sl.length) : Stp c w (wipe σ vs) (wipeG Γ vs) H w σ (wipeG Γ vs) H := ⟨fun a o h n => ⟨h, fun z => n (av_wipe2 hl z)⟩, List.prefix_refl _⟩
/-! the new list is hidden -/
def del (H : Hp) (a : Addr) : Hp := fun b => if b = a then none else H b
theorem del_ne {H : Hp} {a b : Addr} (h : b ≠ a) : del H a b = H b := if_neg h
theorem del_same {H : Hp} {a : Addr} : del H a a = none := if_pos rfl
theorem del_some {H : Hp} {a b : Addr} {o : HO} (h : del H a b = some o) : b ≠ a ∧ H b = some o := by
  by_cases e : b = a
  · subst e
    rw [del_same] at h
    cases h
  · rw [del_ne e] at h
    exact ⟨e, h⟩
theorem del_upd {H : Hp} {a : Addr} {o : HO} : del (upd H a o) a = del H a := by
  funext b
  by_cases e : b = a
  · subst e
    rw [del_same, del_same]
  · rw [del_ne e, del_ne e, upd_ne e]
theorem upd_del {H : Hp} {a : Addr} {o : HO} (h : H a = some o) : upd (del H a) a o = H := by
  funext b
  by_cases e : b = a
  · subst e
    rw [upd_same, h]
  · rw [upd_ne e, del_ne e]
def C0.hide (c : C0) (a : Addr) (o : HO) : C0 := ⟨c.w0, c.H0, upd c.hid a o⟩
theorem av_hide {a : Addr} {Dd : Addr} {o : HO} : Av (c.hide Dd o) w σ Γ a ↔ a = Dd ∨ Av c w σ Γ a := by
  unfold Av C0.hide
  constructor
  · rintro (h | ⟨u, h⟩ | h)
    · exact .inr (.inl h)
    · by_cases e : a = Dd
      · exact .inl e
      · have h : upd c.hid Dd o a = some u := h
        rw [upd_ne e] at h
        exact .inr (.inr (.inl ⟨u, h⟩))
    · exact .inr (.inr (.inr h))
  · rintro (e | h | ⟨u, h⟩ | h)
    · subst e
      exact .inr (.inl ⟨o, upd_same⟩)
    · exact .inl h
    · by_cases e : a = Dd
      · subst e
        exact .inr (.inl ⟨o, upd_same⟩)
      · exact .inr (.inl ⟨u, by show upd c.hid Dd o a = some u; rw [upd_ne e]; exact h⟩)
    · exact .inr (.inr h)
theorem ER.hide {Dd : Addr} {o : HO} (e : ER K c w (del H Dd) σ Γ) (h : H Dd = some o) : ER K (c.hide Dd o) w H σ Γ := by
  have nav : ¬ Av c w σ Γ Dd := e.fresh del_same
  have kk : ∀ a u, del H Dd a = some u → ¬ Av c w σ Γ a → H a = some u ∧ ¬ Av (c.hide Dd o) w σ Γ a := fun a u z n => ⟨(del_some z).2, fun q => (av_hide.mp q).elim (del_some z).1 n⟩
  refine ⟨e.len, e.wl, e.wn, e.on, fun i a z => ⟨(e.ow i a z).1, ?_, (e.ow i a z).2.2⟩, fun i s z => (e.sl i s z).keep kk (List.prefix_refl _) fun _ a u _ z => (del_some z).2, fun n a u h1 h2 => (e.ob n a u h1 h2).keep kk (List.prefix_refl _) fun u z => (del_some z).2,
    fun a u z n => ⟨(del_some (e.fr a u z n).1).2, (e.fr a u z n).2⟩, e.pre, fun a u z => ?_⟩
  · show upd c.hid Dd o a = none
    rw [upd_ne (fun q => nav (by rw [← q]; exact .inr (.inr ⟨i, z⟩)))]
    exact (e.ow i a z).2.1
  · have z : upd c.hid Dd o a = some u := z
    by_cases q : a = Dd
    · subst q
      rw [upd_same] at z
      cases z
      exact ⟨h, fun y => nav (.inl y)⟩
    · rw [upd_ne q] at z
      exact ⟨(del_some (e.hid a u z).1).2, (e.hid a u z).2⟩
theorem ER.unhide {Dd : Addr} {o : HO} (e : ER K (c.hide Dd o) w H σ Γ) (h1 : c.hid Dd = none) (h2 : c.H0 Dd = none) : ER K c w (del H Dd) σ Γ := by
  have ne : ∀ a, ¬ Av (c.hide Dd o) w σ Γ a → a ≠ Dd := fun a n q => n (av_hide.mpr (.inl q))
  have kk : ∀ a u, H a = some u → ¬ Av (c.hide Dd o) w σ Γ a → del H Dd a = some u ∧ ¬ Av c w σ Γ a := fun a u z n => ⟨by rw [del_ne (ne a n)]; exact z, fun q => n (av_hide.mpr (.inr q))⟩
  have nw : Dd ∉ w := (e.hid Dd o upd_same).2
  have no : ∀ i, ¬ OwnAt σ Γ i Dd := fun i z => by
    have q : upd c.hid Dd o Dd = none := (e.ow i Dd z).2.1
    rw [upd_same] at q
    cases q
  refine ⟨e.len, e.wl, e.wn, e.on, fun i a z => ⟨(e.ow i a z).1, ?_, (e.ow i a z).2.2⟩, fun i s z => (e.sl i s z).keep kk (List.prefix_refl _) fun ho a u j1 j2 => ?_, fun n a u g1 g2 => (e.ob n a u g1 g2).keep kk (List.prefix_refl _) fun u z => ?_,
    fun a u z n => ⟨?_, (e.fr a u z n).2⟩, e.pre, fun a u z => ?_⟩
  · have q : upd c.hid Dd o a = none := (e.ow i a z).2.1
    rw [upd_ne (fun y => no i (by rw [← y]; exact z))] at q
    exact q
  · rw [del_ne]
    · exact j2
    · rintro rfl
      exact no i ⟨own_ref j1, s, z, ho⟩
  · rw [del_ne]
    · exact z
    · rintro rfl
      exact nw (List.mem_of_getElem? g1)
  · rw [del_ne]
    · exact (e.fr a u z n).1
    · rintro rfl
      rw [h2] at z
      cases z
  · have na : a ≠ Dd := by
      rintro rfl
      rw [h1] at z
      cases z
    obtain ⟨g1, g2⟩ := e.hid a u (by show upd c.hid Dd o a = some u; rw [upd_ne na]; exact z)
    exact ⟨by rw [del_ne na]; exact g1, g2⟩
end
/-- a target that stores to the block's names alone -/
def liftGv (K : PySem.W.Frag) (c : C0) (vs : List Nat) (q : QG) : TG := fun v σ H Q => ∃ w Γ d P, ER K c w H σ Γ ∧ Rep K H (Av c w σ Γ) w d v ∧ q d Γ P ∧
  ∀ Γ' w' σ' H', P Γ' → Stp c w σ Γ H w' σ' Γ' H' → ER K c w' H' σ' Γ' → wipe σ' vs = wipe σ vs → Q σ' H'
def QGv (X : Cx) (vs : List Nat) (e : Expr) (q : QG) : Prop := ∀ c, PG X e (liftGv X.K c vs q)
def liftGvs (K : PySem.W.Frag) (c : C0) (vs : List Nat) (qs : List QG) : TGs := fun us σ H Q => ∃ w Γ ds P, ER K c w H σ Γ ∧ Reps K H (Av c w σ Γ) w ds us ∧ gqAll qs ds Γ P ∧
  ∀ Γ' w' σ' H', P Γ' → Stp c w σ Γ H w' σ' Γ' H' → ER K c w' H' σ' Γ' → wipe σ' vs = wipe σ vs → Q σ' H'
def QGvs (X : Cx) (vs : List Nat) (es : List Expr) (qs : List QG) : Prop := ∀ c, PGs X es (liftGvs X.K c vs qs)
section
variable {X : Cx} {vs : List Nat} {e : Expr} {es : List Expr} {q : QG} {qs : List QG} {pos : Pos} {x : Str}
theorem qv_name (i : Nat) (hN : X.N.Nodup) (hv : i ∈ vs) (hi : X.N[i]? = some x := by rfl) (hx : Loc X.env.scope x := by first | exact Or.inl rfl | exact Or.inr rfl) (hf : X.fn x = true ∨ X.env.scope.names.lookup x = some .local := by first | exact .inl rfl | exact .inr rfl | assumption) :
    QGv X vs (.Name x pos) (gqName i) := fun c => PGi (pg_name hN hi hx hf) fun v σ H Q ⟨w, Γ, d, P, er, r, q, k⟩ => k _ w _ H q.2 (stp_set q.1) (er.set q.1 r) (wipe_set hv)
theorem qvs_nil : QGvs X vs [] [] := fun c => ⟨fun pins s σ H us us' Q I r h => pgs_nil.run pins s σ H us us' Q I r (by
  obtain ⟨w, Γ, ds, P, er, rs, q, k⟩ := h
  match ds, q with
  | [], q =>
    have rs : us = [] := rs
    exact ⟨rs, k Γ w σ H q Stp.refl er rfl⟩)⟩
theorem qvs_cons (h1 : QGv X vs e q) (h2 : QGvs X vs es qs) (hs : (assignEach (e :: es) X.env).map (·.2) = assign e X.env :: (assignEach es X.env).map (·.2) := by rfl) : QGvs X vs (e :: es) (q :: qs) := fun c =>
  ⟨fun pins s σ H us us' Q I r h => (pgs_cons (h1 c) (h2 c) hs).run pins s σ H us us' Q I r (by
    obtain ⟨w, Γ, ds, P, er, rs, q, k⟩ := h
    match ds, q with
    | d :: ds, q =>
      obtain ⟨v, vr, rfl, r1, r2⟩ := rs
      exact ⟨v, vr, rfl, w, Γ, d, _, er, r1, q, fun Γ1 w1 σ1 H1 q1 s1 e1 z1 => ⟨w1, Γ1, ds, P, e1, r2.stp s1, q1, fun Γ2 w2 σ2 H2 q2 s2 e2 z2 => k Γ2 w2 σ2 H2 q2 (s1.trans s2) e2 (z2.trans z1)⟩⟩)⟩
theorem qv_tup {k : Nat} (hc : X.calm = true) (h : QGvs X vs es qs) (hl : qs.length = es.length) (hn : (assignEach es X.env).length = es.length := by rfl) (hst : (assignEach es X.env).findIdx? (·.1) = none := by rfl) : QGv X vs (.Tuple es k pos) (gqTup qs) := fun c =>
  PGi (pg_tup (n := es.length) hc (h c) hn hst) fun v σ H Q ⟨w, Γ, d, P, er, r, q, k⟩ => by
    cases d <;> try exact q.elim
    obtain ⟨a, xs, rfl, h1, h2⟩ := r
    exact ⟨a, xs, rfl, h1.sq, by rw [h2.length, q.1, hl], w, Γ, _, P, er, h2, q.2, k⟩
end
/-- tests of a clause -/
def QTs (X : Cx) (W : WX) (es : List Expr) (q : QT) : Prop := ∀ c, PTs X es (liftT X.K c W q)
def qYes : QT := fun _ Γ P => P true Γ
theorem qts_nil {X : Cx} {W : WX} : QTs X W [] qYes := fun c => ⟨fun pins s σ H Q I h => pts_nil.run pins s σ H Q I (by
  obtain ⟨w, Γ, P, EX, er, q, x, k⟩ := h
  exact k true Γ w H q Stp.refl er)⟩
theorem qts_one {X : Cx} {W : WX} {e : Expr} {q : QT} (h : QTx X W e q) : QTs X W [e] q := fun c => pts_one (h c)
abbrev W0 : WX := fun _ _ _ _ => False
abbrev EX0 : EXG := fun _ _ => False
theorem XL0 {K : PySem.W.Frag} {c : C0} {W : WX} {w : List Addr} {σ : L2.St} {Γ : G} {H : Hp} : XL K c W w σ Γ H EX0 := fun _ _ _ _ _ _ _ z => z.elim
def qLcL (g : QG) (qt : QT) (qe : QE) (vs : List Nat) (P : List D → G → Prop) : List D → List D → G → Prop
  | acc, [], Γ => P acc Γ
  | acc, d :: r, Γ => g d Γ fun Γ1 => qt EX0 Γ1 fun b Γ2 => qB b (qe EX0 Γ2 fun y Γ3 => acc.length < sizeLine ∧ qLcL g qt qe vs P (acc ++ [y]) r (wipeG Γ3 vs)) (qLcL g qt qe vs P acc r (wipeG Γ2 vs))
def qLc (qi : QI) (g : QG) (qt : QT) (qe : QE) (vs : List Nat) : QL_ := fun EX Γ P => qi EX Γ fun ds Γ1 => qLcL g qt qe vs P [] ds (wipeG Γ1 vs)
section
variable {X : Cx} {W : WX} {k : Nat} {elt tg iter : Expr} {ifs : List Expr} {scope : Scope} {own : List (Str × Nat)} {pos : Pos} {qi : QI} {g : QG} {qt : QT} {qe : QE}
theorem Bd.blk (B : Bd X W k) {s : Shared} {H : Hp} {cenv : Env} {fp : List Addr} : Bd (X.blk s H scope cenv fp) W0 k := ⟨B.hc, PassesOwn.never, fun u s' x => by
  obtain ⟨_, _, _, _, _, _, _, _, _, _, _, _, _, _, _, _, z⟩ := x
  exact z.elim, B.hr⟩
def tGc (K : PySem.W.Frag) (vs : List Nat) (g : QG) : TG := fun v σ H Q => ∃ c', liftGv K c' vs g v σ H Q
def tTc (K : PySem.W.Frag) (qt : QT) : TT := fun σ H Q => ∃ c', liftT K c' W0 qt σ H Q
def tEc (K : PySem.W.Frag) (qe : QE) : TE := fun σ H Q => ∃ c', liftE K c' W0 qe σ H Q
theorem lc_lift {c : C0} {σ : L2.St} {H : Hp} {Q : VK} (h : liftL X.K c W (qLc qi g qt qe (own.map (·.2))) σ H Q) : tLc (liftI X.K c W qi) (tGc X.K (own.map (·.2)) g) (tTc X.K qt) (tEc X.K qe) (own.map (·.2)) σ H Q := by
  obtain ⟨w, Γ, P, EX, er, q, x, k⟩ := h
  refine ⟨w, Γ, _, EX, er, q, x, fun ds Γ1 w1 H1 J q1 s1 e1 j => fun Dd hD => ?_⟩
  have hlen : σ.length = Γ1.sl.length := e1.len
  let vs := own.map (·.2)
  -- the state between two turns
  let Inv' : Nat → Hp → Prop := fun i H' => ∃ w' Γ' acc xs, ER X.K c w' (del H' Dd) (wipe σ vs) (wipeG Γ' vs) ∧ H' Dd = some (.lst xs) ∧ Reps X.K (del H' Dd) (Av c w' (wipe σ vs) (wipeG Γ' vs)) w' acc xs ∧
    Stp c w1 σ Γ1 H1 w' (wipe σ vs) (wipeG Γ' vs) (del H' Dd) ∧ qLcL g qt qe vs P acc (ds.drop i) (wipeG Γ' vs)
  have nDw : Dd ∉ w1 := fun z => e1.fresh hD (.inl z)
  have nDh : c.hid Dd = none := by
    cases z : c.hid Dd with
    | none => rfl
    | some u => exact absurd (.inr (.inl ⟨u, z⟩)) (e1.fresh hD)
  have nD0 : c.H0 Dd = none := e1.fresh0 hD nDw
  have d1 : del (upd H1 Dd (.lst [])) Dd = H1 := by
    rw [del_upd]
    funext b
    by_cases z : b = Dd
    · rw [z, del_same, hD]
    · rw [del_ne z]
  refine ⟨fun i m H' => m = ds.length - i ∧ i ≤ ds.length ∧ Inv' i H', ⟨_, rfl, Nat.zero_le _, w1, Γ1, [], [], ?_, upd_same, rfl, ?_, q1⟩, ?_⟩
  · rw [d1]
    exact e1.wiped
  · rw [d1]
    exact stp_wipe
  · rintro i m H' ⟨rfl, hi', w', Γ', acc, xs, er', hDl, ra, st, qq⟩
    have eh := er'.hide hDl
    have neD : ∀ a o, H1 a = some o → a ≠ Dd := fun a o h => ne_of_none h hD
    have kk : ∀ a o, H1 a = some o → ¬ Av c w1 σ Γ1 a → H' a = some o ∧ ¬ Av (c.hide Dd (.lst xs)) w' (wipe σ vs) (wipeG Γ' vs) a := fun a o h n =>
      ⟨(del_some (st.keep a o h n).1).2, fun z => (av_hide.mp z).elim (neD a o h) (st.keep a o h n).2⟩
    obtain ⟨j1, j2⟩ := j i w' H' (Av (c.hide Dd (.lst xs)) w' (wipe σ vs) (wipeG Γ' vs)) kk st.pre fun a h => eh.tracked h
    -- behind a part of a turn
    have back : ∀ {w2 : List Addr} {Γ2 : G} {σ2 : L2.St} {H2 : Hp}, ER X.K (c.hide Dd (.lst xs)) w2 H2 σ2 Γ2 → Stp (c.hide Dd (.lst xs)) w' (wipe σ vs) (wipeG Γ' vs) H' w2 σ2 Γ2 H2 → wipe σ2 vs = wipe σ vs →
        ER X.K c w2 (del H2 Dd) (wipe σ vs) (wipeG Γ2 vs) ∧ Stp c w' (wipe σ vs) (wipeG Γ' vs) (del H' Dd) w2 (wipe σ vs) (wipeG Γ2 vs) (del H2 Dd) := by
      intro w2 Γ2 σ2 H2 e2 s2 hz
      have u := (e2.unhide nDh nD0).wiped (vs := vs)
      rw [hz] at u
      refine ⟨u, fun a o h n => ?_, s2.pre⟩
      obtain ⟨g1, g2⟩ := del_some h
      obtain ⟨g3, g4⟩ := s2.keep a o g2 fun z => (av_hide.mp z).elim g1 n
      refine ⟨by rw [del_ne g1]; exact g3, fun z => g4 (av_hide.mpr (.inr ?_))⟩
      rw [← hz] at z
      exact av_wipe z
    by_cases hlt : i < ds.length
    · have hd : ds.drop i = ds[i] :: ds.drop (i + 1) := List.drop_eq_getElem_cons hlt
      rw [hd] at qq
      obtain ⟨g1, g2⟩ := j2 _ (List.getElem?_eq_getElem hlt)
      refine .inr ⟨g1, fun H2 => Inv' (i + 1) H2, fun H2 z => ⟨_, by omega, rfl, hlt, z⟩, fun v H2 y => ?_⟩
      obtain ⟨sm, rv⟩ := g2 v H2 y
      have e2 := eh.same sm
      have s2 : Stp (c.hide Dd (.lst xs)) w' (wipe σ vs) (wipeG Γ' vs) H' w' (wipe σ vs) (wipeG Γ' vs) H2 := Stp.same sm
      refine ⟨c.hide Dd (.lst xs), w', wipeG Γ' vs, _, _, e2, rv, qq, fun Γ3 w3 σ3 H3 q3 s3 e3 z3 => ?_⟩
      have z3' : wipe σ3 vs = wipe σ vs := z3.trans (by
        apply List.ext_getElem?
        intro n
        by_cases hn : n ∈ vs
        · by_cases hl : n < σ.length
          · rw [wipe_in hn hl, wipe_in hn (by rw [wipe_length]; exact hl)]
          · rw [List.getElem?_eq_none (by rw [wipe_length, wipe_length]; omega), List.getElem?_eq_none (by rw [wipe_length]; omega)]
        · rw [wipe_out hn])
      refine ⟨z3', c.hide Dd (.lst xs), w3, Γ3, _, EX0, e3, q3, XL0, fun b Γ4 w4 H4 q4 s4 e4 => ?_⟩
      have st4 := (s2.trans s3).trans s4
      cases b with
      | true =>
        refine ⟨c.hide Dd (.lst xs), w4, Γ4, _, EX0, e4, q4, XL0, fun d Γ5 w5 H5 u q5 s5 e5 r5 => ?_⟩
        have st5 := st4.trans s5
        obtain ⟨b1, b2⟩ := back e5 st5 z3'
        have hD5 : H5 Dd = some (.lst xs) := (e5.hid Dd _ upd_same).1
        refine ⟨xs, hD5, by rw [ra.length]; exact q5.1, w5, Γ5, acc ++ [d], xs ++ [u], ?_, upd_same, ?_, ?_, q5.2⟩
        · rw [del_upd]
          exact b1
        · rw [del_upd]
          refine (ra.stp b2).append (Reps.one ?_)
          refine r5.keep (fun a o h n => ?_) (List.prefix_refl _)
          refine ⟨by rw [del_ne (fun z => n (av_hide.mpr (.inl z)))]; exact h, fun z => n (av_hide.mpr (.inr ?_))⟩
          rw [← z3'] at z
          exact av_wipe z
        · rw [del_upd]
          exact st.trans b2
      | false =>
        obtain ⟨b1, b2⟩ := back e4 st4 z3'
        exact ⟨w4, Γ4, acc, xs, b1, (e4.hid Dd _ upd_same).1, ra.stp b2, st.trans b2, q4⟩
    · have he : ds.drop i = [] := List.drop_eq_nil_of_le (by omega)
      rw [he] at qq
      refine .inl ⟨j1 (by omega), ?_⟩
      have eu := er'.unwiped
      have hl' : σ.length = Γ'.sl.length := by
        have := er'.len
        rw [wipe_length, show (wipeG Γ' vs).sl.length = _ from wipeS_len _ _] at this
        exact this
      have su : Stp c w' (wipe σ vs) (wipeG Γ' vs) (del H' Dd) w' σ (wipeG Γ' vs) (del H' Dd) := stp_unwipe hl'
      have z := k acc (wipeG Γ' vs) w' (del H' Dd) Dd xs qq ((s1.trans st).trans su) eu del_same (ra.stp su)
      rw [upd_del hDl] at z
      exact z
/-- what is to be shown of the parts of a comprehension -/
abbrev LcH (X : Cx) (k : Nat) (own : List (Str × Nat)) (scope : Scope) (tg elt : Expr) (ifs : List Expr) (g : QG) (qt : QT) (qe : QE) : Prop := ∀ (s : Shared) (H : Hp) (C : Addr) (cl : List (Str × Addr)) (fp : List Addr), Bd (X.blk s H scope (compEnvC scope cl C X.env) fp) W0 k →
      QGv (X.blk s H scope (compEnvC scope cl C X.env) fp) (own.map (·.2)) tg g ∧ QTs (X.blk s H scope (compEnvC scope cl C X.env) fp) W0 ifs qt ∧ QEx (X.blk s H scope (compEnvC scope cl C X.env) fp) W0 elt qe
theorem LcH.pg (B : Bd X W k) (hb : LcH X k own scope tg elt ifs g qt qe) (s : Shared) (H : Hp) (C : Addr) (cl : List (Str × Addr)) (fp : List Addr) : PG (X.blk s H scope (compEnvC scope cl C X.env) fp) tg (tGc X.K (own.map (·.2)) g) :=
  ⟨fun pins s' σ H' v u Q I r ⟨c', h⟩ => ((hb s H C cl fp B.blk).1 c').run pins s' σ H' v u Q I r h⟩
theorem LcH.pt (B : Bd X W k) (hb : LcH X k own scope tg elt ifs g qt qe) (s : Shared) (H : Hp) (C : Addr) (cl : List (Str × Addr)) (fp : List Addr) : PTs (X.blk s H scope (compEnvC scope cl C X.env) fp) ifs (tTc X.K qt) :=
  ⟨fun pins s' σ H' Q I ⟨c', h⟩ => ((hb s H C cl fp B.blk).2.1 c').run pins s' σ H' Q I h⟩
theorem LcH.pe (B : Bd X W k) (hb : LcH X k own scope tg elt ifs g qt qe) (s : Shared) (H : Hp) (C : Addr) (cl : List (Str × Addr)) (fp : List Addr) : PE (X.blk s H scope (compEnvC scope cl C X.env) fp) elt (tEc X.K qe) :=
  ⟨fun pins s' σ H' Q I ⟨c', h⟩ => ((hb s H C cl fp B.blk).2.2 c').run pins s' σ H' Q I h⟩
theorem ql_lc (B : Bd X W k) (hN : X.N.Nodup) (hi : QIx X W tg iter qi) (ok : BlkOk X.N X.env.scope scope own) (hb : LcH X k own scope tg elt ifs g qt qe)
    (hs : ∀ x, foldedSetIterable iter X.env x = pure x := by intro _; rfl) : QLx X W (.ListComp elt [⟨tg, iter, ifs, 0⟩] scope pos) (qLc qi g qt qe (own.map (·.2))) := fun c =>
  PEi (pe_lc B.hc hN (hi c) ok (LcH.pg B hb) (LcH.pt B hb) (LcH.pe B hb) hs) fun _ _ _ h => lc_lift h
/-- name = [..] on one line -/
theorem qs_setLcO {i : Nat} {y : Str} {py spos : Pos} (B : Bd X W k) (hN : X.N.Nodup) (hi : QIx X W tg iter qi) (ok : BlkOk X.N X.env.scope scope own) (hb : LcH X k own scope tg elt ifs g qt qe)
    (hy : X.N[i]? = some y := by rfl) (hyl : X.env.scope.names.lookup y = some .local := by rfl)
    (hsw : swapsWith (.ListComp elt [⟨tg, iter, ifs, 0⟩] scope pos) (some (.Name y py)) spos.line X.env = pure true := by exact sw_true rfl rfl rfl (by decide +kernel))
    (hs : ∀ x, foldedSetIterable iter X.env x = pure x := by intro _; rfl) :
    QSx X W (.Assign [.Name y py] (.ListComp elt [⟨tg, iter, ifs, 0⟩] scope pos) spos) (qSetL i (qLc qi g qt qe (own.map (·.2)))) := fun c =>
  PSi (ps_setLc B.hc hN hy hyl hsw (hi c) ok (LcH.pg B hb) (LcH.pt B hb) (LcH.pe B hb) hs) fun D σ H ⟨w, Γ, E, EX, er, q, x, k⟩ => lc_lift ⟨w, Γ, _, EX, er, q, x, fun d Γ1 w1 H1 p xs q1 s1 e1 hp r1 =>
    k.nx _ w1 _ _ q1.2 (s1.trans (stp_new q1.1 (by rw [e1.len]; exact q1.1) hp)) (e1.setList q1.1 hp r1)⟩
theorem qs_setLc {i : Nat} {y : Str} {py spos : Pos} (B : Bd X W k) (hN : X.N.Nodup) (hi : QIx X W tg iter qi) (ok : BlkOk X.N X.env.scope scope own) (hb : LcH X k own scope tg elt ifs g qt qe)
    (hy : X.N[i]? = some y := by rfl) (hyl : X.env.scope.names.lookup y = some .local := by rfl)
    (hsw : swapsWith (.ListComp elt [⟨tg, iter, ifs, 0⟩] scope pos) (some (.Name y py)) spos.line X.env = pure true := by exact sw_true rfl rfl rfl (by decide +kernel))
    (hs : ∀ x, foldedSetIterable iter X.env x = pure x := by intro _; rfl) :
    QSx X W (.Assign [.Name y py] (.ListComp elt [⟨tg, iter, ifs, 0⟩] scope pos) spos) (qSet i (qOfL (qLc qi g qt qe (own.map (·.2))))) := fun c =>
  PSi (ps_setLc B.hc hN hy hyl hsw (hi c) ok (LcH.pg B hb) (LcH.pt B hb) (LcH.pe B hb) hs) fun D σ H ⟨w, Γ, E, EX, er, q, x, k⟩ => lc_lift ⟨w, Γ, _, EX, er, q, x, fun ds Γ1 w1 H1 p xs q1 s1 e1 hp r1 =>
    k.nx _ w1 _ _ q1.2 ((s1.trans (Stp.same (same_new hp))).trans (stp_set q1.1)) ((e1.same (same_new hp)).set q1.1 ⟨p, xs, rfl, LsA.new (e1.fresh hp), r1.stp (Stp.same (σ := σ) (same_new hp))⟩)⟩
end
end QL
namespace QL
open PySem PySem.Spec PyProof.Rows L2
/-! ### objects and own lists are written -/
section
variable {K : PySem.W.Frag} {c : C0} {w : List Addr} {H : Hp} {σ : L2.St} {Γ : G}
theorem own_same {i j : Nat} {s : Slot} {a : Addr} (hs : ∀ t, Γ.sl[i]? = some t → t.own = true) (h : OwnAt σ ⟨Γ.sl.set i s, Γ.ob⟩ j a) : OwnAt σ Γ j a := by
  obtain ⟨h1, t, h2, h3⟩ := h
  have h2 : (Γ.sl.set i s)[j]? = some t := h2
  by_cases e : i = j
  · subst e
    have hi : i < Γ.sl.length := by
      have := (List.getElem?_eq_some_iff.mp h2).1
      rw [List.length_set] at this
      exact this
    exact ⟨h1, _, List.getElem?_eq_getElem hi, hs _ (List.getElem?_eq_getElem hi)⟩
  · rw [List.getElem?_set_ne e] at h2
    exact ⟨h1, t, h2, h3⟩
/-- slot i's own object is written -/
theorem ER.updOwn (e : ER K c w H σ Γ) {i : Nat} {s t : Slot} {a : Addr} {o : HO} (hs : Γ.sl[i]? = some s) (ho : OwnAt σ Γ i a) (hst : t.own = true)
    (ht : ∀ H' av, (∀ a o, H a = some o → ¬ Av c w σ Γ a → H' a = some o ∧ ¬ av a) → H' a = some o → SlR K H' av w t (some (.ref a))) :
    ER K c w (upd H a o) σ ⟨Γ.sl.set i t, Γ.ob⟩ ∧ Stp c w σ Γ H w σ ⟨Γ.sl.set i t, Γ.ob⟩ (upd H a o) := by
  have hav : Av c w σ Γ a := .inr (.inr ⟨i, ho⟩)
  have os : ∀ u, Γ.sl[i]? = some u → u.own = true := fun u hu => by
    obtain ⟨_, s', h1, h2⟩ := ho
    rw [hu] at h1
    cases h1
    exact h2
  have hi : i < Γ.sl.length := (List.getElem?_eq_some_iff.mp hs).1
  have st : Stp c w σ Γ H w σ ⟨Γ.sl.set i t, Γ.ob⟩ (upd H a o) := ⟨fun b u h n => ⟨by rw [upd_ne (fun z => n (by rw [z]; exact hav))]; exact h, fun z => n (z.imp id (Or.imp id fun ⟨j, z⟩ => ⟨j, own_same os z⟩))⟩, List.prefix_refl _⟩
  obtain ⟨nw, nh, n0⟩ := e.ow i a ho
  refine ⟨⟨?_, e.wl, e.wn, fun x y b h1 h2 => e.on x y b (own_same os h1) (own_same os h2), fun j b h => e.ow j b (own_same os h), fun j u hu => ?_, fun n b u h1 h2 => ?_, fun b u h n => ?_, e.pre, fun b u h => ?_⟩, st⟩
  · show _ = (Γ.sl.set i t).length
    rw [List.length_set]
    exact e.len
  · have hu : (Γ.sl.set i t)[j]? = some u := hu
    by_cases q : i = j
    · subst q
      rw [List.getElem?_set_self hi] at hu
      cases hu
      rw [show σ[i]?.join = some (.ref a) by rw [ho.1] <;> rfl]
      exact ht _ _ st.keep upd_same
    · rw [List.getElem?_set_ne q] at hu
      refine (e.sl j u hu).keep st.keep (List.prefix_refl _) fun hown b v hb hv => ?_
      have : b ≠ a := fun z => q (e.on i j a ho ⟨by rw [← z]; exact own_ref hb, u, hu, hown⟩)
      rw [upd_ne this]
      exact hv
  · refine (e.ob n b u h1 h2).keep st.keep (List.prefix_refl _) fun v hv => ?_
    rw [upd_ne (fun z => nw (by rw [← z]; exact List.mem_of_getElem? h1))]
    exact hv
  · obtain ⟨g1, g2⟩ := e.fr b u h n
    refine ⟨?_, g2⟩
    rw [upd_ne (fun z => by rw [z, n0] at h; cases h)]
    exact g1
  · obtain ⟨g1, g2⟩ := e.hid b u h
    refine ⟨?_, g2⟩
    rw [upd_ne (fun z => by rw [z, nh] at h; cases h)]
    exact g1
/-- an object is written -/
theorem ER.updOb (e : ER K c w H σ Γ) {n : Nat} {a : Addr} {o : HO} {u : Ob} (hn : w[n]? = some a)
    (ht : ∀ H' av, (∀ a o, H a = some o → ¬ Av c w σ Γ a → H' a = some o ∧ ¬ av a) → H' a = some o → ObR K H' av w a u) :
    ER K c w (upd H a o) σ ⟨Γ.sl, Γ.ob.set n u⟩ ∧ Stp c w σ Γ H w σ ⟨Γ.sl, Γ.ob.set n u⟩ (upd H a o) := by
  have hav : Av c w σ Γ a := .inl (List.mem_of_getElem? hn)
  have st : Stp c w σ Γ H w σ ⟨Γ.sl, Γ.ob.set n u⟩ (upd H a o) := ⟨fun b v h q => ⟨by rw [upd_ne (fun z => q (by rw [z]; exact hav))]; exact h, q⟩, List.prefix_refl _⟩
  refine ⟨⟨e.len, ?_, e.wn, e.on, e.ow, fun j s hs => ?_, fun m b v h1 h2 => ?_, fun b v h q => ?_, e.pre, fun b v h => ?_⟩, st⟩
  · show _ = (Γ.ob.set n u).length
    rw [List.length_set]
    exact e.wl
  · refine (e.sl j s hs).keep st.keep (List.prefix_refl _) fun hown b v hb hv => ?_
    have q : OwnAt σ Γ j b := ⟨own_ref hb, s, hs, hown⟩
    rw [upd_ne (fun z => (e.ow j b q).1 (by rw [z]; exact List.mem_of_getElem? hn))]
    exact hv
  · have h2 : (Γ.ob.set n u)[m]? = some v := h2
    by_cases q : n = m
    · subst q
      rw [hn] at h1
      cases h1
      have hl : n < Γ.ob.length := by
        rw [← e.wl]
        exact (List.getElem?_eq_some_iff.mp hn).1
      rw [List.getElem?_set_self hl] at h2
      cases h2
      exact ht _ _ st.keep upd_same
    · rw [List.getElem?_set_ne q] at h2
      refine (e.ob m b v h1 h2).keep st.keep (List.prefix_refl _) fun x hx => ?_
      have : b ≠ a := fun z => by
        subst z
        have l1 := List.getElem?_eq_some_iff.mp hn
        have l2 := List.getElem?_eq_some_iff.mp h1
        exact q ((List.getElem_inj e.wn).mp (l1.2.trans l2.2.symm))
      rw [upd_ne this]
      exact hx
  · obtain ⟨g1, g2⟩ := e.fr b v h q
    exact ⟨by rw [upd_ne (fun z => g2 (by rw [z]; exact List.mem_of_getElem? hn))]; exact g1, g2⟩
  · obtain ⟨g1, g2⟩ := e.hid b v h
    exact ⟨by rw [upd_ne (fun z => g2 (by rw [z]; exact List.mem_of_getElem? hn))]; exact g1, g2⟩
/-- a new object at p -/
theorem ER.newOb (e : ER K c w H σ Γ) {p : Addr} {H' : Hp} {u : Ob} (hp : H p = none) (sm : Same H H')
    (ht : ∀ av, (∀ a o, H a = some o → ¬ Av c w σ Γ a → H' a = some o ∧ ¬ av a) → ObR K H' av (w ++ [p]) p u) :
    ER K c (w ++ [p]) H' σ ⟨Γ.sl, Γ.ob ++ [u]⟩ ∧ Stp c w σ Γ H (w ++ [p]) σ ⟨Γ.sl, Γ.ob ++ [u]⟩ H' := by
  have nav := e.fresh hp
  have nw : p ∉ w := fun z => nav (.inl z)
  have st : Stp c w σ Γ H (w ++ [p]) σ ⟨Γ.sl, Γ.ob ++ [u]⟩ H' := ⟨fun b v h q => ⟨sm b v h, fun z => by
    rcases z with z | z | z
    · rcases List.mem_append.mp z with z | z
      · exact q (.inl z)
      · rw [List.mem_singleton.mp z, hp] at h
        cases h
    · exact q (.inr (.inl z))
    · exact q (.inr (.inr z))⟩, List.prefix_append _ _⟩
  refine ⟨⟨e.len, ?_, ?_, e.on, fun i a h => ⟨fun z => ?_, (e.ow i a h).2⟩, fun j s hs => (e.sl j s hs).keep st.keep st.pre fun _ b v _ hv => sm b v hv, fun m b v h1 h2 => ?_, fun b v h q => ?_, e.pre.trans st.pre, fun b v h => ?_⟩, st⟩
  · show (w ++ [p]).length = (Γ.ob ++ [u]).length
    rw [List.length_append, List.length_append, e.wl]
    rfl
  · exact List.nodup_append.mpr ⟨e.wn, by simp, fun a ha b hb z => nw (by rw [← List.mem_singleton.mp hb, ← z]; exact ha)⟩
  · rcases List.mem_append.mp z with z | z
    · exact (e.ow i a h).1 z
    · rw [List.mem_singleton.mp z] at h
      exact nav (.inr (.inr ⟨i, h⟩))
  · have h2 : (Γ.ob ++ [u])[m]? = some v := h2
    by_cases q : m < w.length
    · rw [List.getElem?_append_left q] at h1
      rw [List.getElem?_append_left (by rw [← e.wl]; exact q)] at h2
      exact (e.ob m b v h1 h2).keep st.keep st.pre fun x hx => sm b x hx
    · have hm : m < (w ++ [p]).length := (List.getElem?_eq_some_iff.mp h1).1
      rw [List.length_append, List.length_singleton] at hm
      have em : m = w.length := by omega
      subst em
      rw [List.getElem?_append_right (Nat.le_refl _), Nat.sub_self] at h1
      rw [List.getElem?_append_right (by rw [e.wl]; exact Nat.le_refl _), e.wl, Nat.sub_self] at h2
      have h1 : p = b := Option.some.inj h1
      have h2 : u = v := Option.some.inj h2
      subst h1 h2
      exact ht _ st.keep
  · obtain ⟨g1, g2⟩ := e.fr b v h q
    refine ⟨sm b v g1, fun z => ?_⟩
    rcases List.mem_append.mp z with z | z
    · exact g2 z
    · rw [List.mem_singleton.mp z, hp] at g1
      cases g1
  · obtain ⟨g1, g2⟩ := e.hid b v h
    refine ⟨sm b v g1, fun z => ?_⟩
    rcases List.mem_append.mp z with z | z
    · exact g2 z
    · rw [List.mem_singleton.mp z, hp] at g1
      cases g1
theorem ER.obAt (e : ER K c w H σ Γ) {n : Nat} {o : Ob} (h : Γ.ob[n]? = some o) : ∃ a, w[n]? = some a ∧ ObR K H (Av c w σ Γ) w a o := by
  have hl : n < w.length := by
    rw [e.wl]
    exact (List.getElem?_eq_some_iff.mp h).1
  exact ⟨_, List.getElem?_eq_getElem hl, e.ob n _ o (List.getElem?_eq_getElem hl) h⟩
end
/-! ### indexes -/
def oIx : QO2 := fun x y Γ P => match x, y with
  | .lst ds, .int i => ∃ d, atI ds i = some d ∧ P d Γ
  | .tup ds, .int i => ∃ d, atI ds i = some d ∧ P d Γ
  | .frl ds, .int i => ∃ d, atI ds i = some d ∧ P d Γ
  | .str s, .int i => s.length ≤ sizeLine ∧ ∃ z, atI s.cps.toList i = some z ∧ P (.str ⟨#[z]⟩) Γ
  | .ref n, .int i => ∃ ds, Γ.ob[n]? = some (.lst ds) ∧ ∃ d, atI ds i = some d ∧ P d Γ
  | _, _ => False
theorem Reps.atI {K : PySem.W.Frag} {H : Hp} {av : Addr → Prop} {w : List Addr} {ds : List D} {xs : List V} {i : Int} {d : D} (r : Reps K H av w ds xs) (h : L2.atI ds i = some d) : ∃ x, L2.atI xs i = some x ∧ Rep K H av w d x := by
  unfold L2.atI at h ⊢
  rw [r.length]
  cases q : ixN ds.length i with
  | none =>
    rw [q] at h
    cases h
  | some j =>
    rw [q] at h
    exact r.get h
theorem l_ix {K : PySem.W.Frag} : Lift2 K (rIx K) oIx := by
  intro c w Γ H σ x y u v P Q e rx ry o k
  cases x <;> try exact o.elim
  · cases y <;> try exact o.elim
    obtain ⟨h1, z, h2, h3⟩ := o
    exact .inr (.inr ⟨_, _, z, rx, ry, h1, h2, fin_same e k h3 rfl⟩)
  · cases y <;> try exact o.elim
    obtain ⟨d, h1, h2⟩ := o
    obtain ⟨a, xs, rfl, g1, g2⟩ := rx
    obtain ⟨x, i1, i2⟩ := g2.atI h1
    exact .inr (.inl ⟨a, xs, _, x, rfl, ry, g1.sq, i1, fin_same e k h2 i2⟩)
  · cases y <;> try exact o.elim
    obtain ⟨d, h1, h2⟩ := o
    obtain ⟨a, xs, rfl, g1, g2⟩ := rx
    obtain ⟨x, i1, i2⟩ := g2.atI h1
    exact .inl ⟨a, xs, _, x, rfl, ry, g1.sq, i1, fin_same e k h2 i2⟩
  · cases y <;> try exact o.elim
    obtain ⟨d, h1, h2⟩ := o
    obtain ⟨a, xs, rfl, g1, g2⟩ := rx
    obtain ⟨x, i1, i2⟩ := g2.atI h1
    exact .inl ⟨a, xs, _, x, rfl, ry, g1.sq, i1, fin_same e k h2 i2⟩
  · cases y <;> try exact o.elim
    obtain ⟨ds, h0, d, h1, h2⟩ := o
    obtain ⟨a, rfl, ha⟩ := rx
    obtain ⟨b, hb, xs, g1, g2⟩ := e.obAt h0
    rw [ha] at hb
    cases hb
    obtain ⟨x, i1, i2⟩ := g2.atI h1
    exact .inl ⟨a, xs, _, x, rfl, ry, SqL.of g1, i1, fin_same e k h2 i2⟩
section
variable {X : Cx} {W : WX} {a b e : Expr} {es : List Expr} {qa qb qe : QE} {qr : QA} {pos p : Pos} {x : Str}
theorem q_ix (ha : QEx X W a qa) (hb : QEx X W b qb) (hs : PlainIx b := by exact fun _ _ => rfl) : QEx X W (.Subscript a b pos) (qOp oIx qa qb) := q_ixR ix_seq l_ix ha hb hs
/-- a list that is shared and written: an object -/
def qLstO (qa : QA) : QE := fun EX Γ P => qa EX Γ fun ds Γ1 => ds.length ≤ sizeLine ∧ P (.ref Γ1.ob.length) ⟨Γ1.sl, Γ1.ob ++ [.lst ds]⟩
theorem get_last {α : Type} {l : List α} {x : α} : (l ++ [x])[l.length]? = some x := by
  rw [List.getElem?_append_right (Nat.le_refl _), Nat.sub_self]
  rfl
theorem q_lstO (h : QAx X W es qr) : QEx X W (.List es pos) (qLstO qr) := fun c => PEi (pe_lst (h c)) fun σ H Q ⟨w, Γ, P, EX, er, q, x, k⟩ =>
  ⟨w, Γ, _, EX, er, q, x, fun ds Γ1 w1 H1 us q1 s1 e1 r1 => ⟨by rw [r1.length]; exact q1.1, fun p hp => by
    obtain ⟨g1, g2⟩ := e1.newOb (u := .lst ds) hp (same_new (o := .lst us) hp) fun av kk => ⟨us, upd_same, r1.keep kk (List.prefix_append _ _)⟩
    exact k _ _ _ _ _ q1.2 (s1.trans g2) g1 ⟨p, rfl, by rw [← e1.wl]; exact get_last⟩⟩⟩
/-- x[i] = v, x a slot -/
def Slot.box : Slot → Bool
  | .ow _ => true
  | .od _ _ => true
  | .va (.ref _) => true
  | _ => false
def qSetIx (n : Nat) (qi qv : QE) : QS := fun EX E Γ => qv EX Γ fun d Γ1 => (∃ s, Γ1.sl[n]? = some s ∧ s.box = true) ∧ qi EX Γ1 fun y Γ2 => match y with
  | .int i => match Γ2.sl[n]? with
    | some (.ow ds) => ∃ j, ixN ds.length i = some j ∧ E.nx ⟨Γ2.sl.set n (.ow (ds.set j d)), Γ2.ob⟩
    | some (.va (.ref m)) => ∃ ds j, Γ2.ob[m]? = some (.lst ds) ∧ ixN ds.length i = some j ∧ E.nx ⟨Γ2.sl, Γ2.ob.set m (.lst (ds.set j d))⟩
    | _ => False
  | _ => False
theorem ER.boxAt {K : PySem.W.Frag} {c : C0} {w : List Addr} {H : Hp} {σ : L2.St} {Γ : G} (e : ER K c w H σ Γ) {n : Nat} {s : Slot} (h : Γ.sl[n]? = some s) (hb : s.box = true) : ∃ v, σ[n]? = some (some v) := by
  cases s with
  | un => cases hb
  | ow ds =>
    obtain ⟨a, xs, h1, _⟩ := e.at_ow h
    exact ⟨_, h1⟩
  | od ks ds =>
    obtain ⟨a, xs, h1, _⟩ := e.at_od h
    exact ⟨_, h1⟩
  | va d =>
    obtain ⟨v, h1, _⟩ := e.at_va h
    exact ⟨_, h1⟩
theorem qs_setIx (n : Nat) {value : Expr} {qv : QE} {p1 p2 : Pos} (hN : X.N[n]? = some x) (hx : Vis X.env.scope x) (hv : QEx X W value qv) (hi : QEx X W e qe)
    (hs : swapsWithSole [.Subscript (.Name x p1) e p2] value pos.line X.env = pure false := by rfl) (hw : swappedStores [.Subscript (.Name x p1) e p2] value X.env = pure none := by rfl)
    (h1 : (assignEach [.Subscript (.Name x p1) e p2] X.env).map (·.2) = [assign (.Subscript (.Name x p1) e p2) X.env] := by rfl)
    (hA : ∀ v, assign (.Subscript (.Name x p1) e p2) X.env v = (do
      let ov ← holding [v] (eval (.Name x p1) X.env)
      let iv ← holding [v, ov] (eval e X.env)
      standAt p2
      holding [v, ov, iv] (setItem ov iv v)
      release [v, ov, iv] []) := by intro _; rfl)
    (hd : (x == ("__debug__" : Str)) = false := by decide) (hcd : (x == ("__classdict__" : Str)) = false := by decide) : QSx X W (.Assign [.Subscript (.Name x p1) e p2] value pos) (qSetIx n qe qv) := fun c =>
  PSi (ps_asg (hv c) (pg_sub (pe_var hN hx hd hcd) (hi c) set_list hA) hs hw h1) fun D σ H ⟨w, Γ, E, EX, er, q, xl, k⟩ => ⟨w, Γ, _, EX, er, q, xl, fun d Γ1 w1 H1 v q1 s1 e1 r1 => by
    obtain ⟨⟨sn, hs1, hs2⟩, q1⟩ := q1
    obtain ⟨u, hu⟩ := e1.boxAt hs1 hs2
    refine ⟨u, hu, w1, Γ1, _, EX, e1, q1, xl.stp s1, fun y Γ2 w2 H2 iv q2 s2 e2 r2 => ?_⟩
    cases y <;> try exact q2.elim
    rename_i i
    have r2 : iv = V.int i := r2
    subst r2
    have rd := r1.stp s2
    have q2 : (match Γ2.sl[n]? with
      | some (.ow ds) => ∃ j, ixN ds.length i = some j ∧ E.nx ⟨Γ2.sl.set n (.ow (ds.set j d)), Γ2.ob⟩
      | some (.va (.ref m)) => ∃ ds j, Γ2.ob[m]? = some (.lst ds) ∧ ixN ds.length i = some j ∧ E.nx ⟨Γ2.sl, Γ2.ob.set m (.lst (ds.set j d))⟩
      | _ => False) := q2
    cases hsl : Γ2.sl[n]? with
    | none =>
      rw [hsl] at q2
      exact q2.elim
    | some sl =>
      rw [hsl] at q2
      cases sl with
      | un => exact q2.elim
      | od ks ds => exact q2.elim
      | ow ds =>
        obtain ⟨j, hj, q3⟩ := q2
        obtain ⟨a, xs, h1, h2, h3, h4⟩ := e2.at_ow hsl
        rw [hu] at h1
        cases h1
        obtain ⟨g1, g2⟩ := e2.updOwn (t := .ow (ds.set j d)) (o := .lst (xs.set j v)) hsl h4 rfl fun H' av kk hh => ⟨a, _, rfl, hh, (h3.set j rd).keep kk (List.prefix_refl _)⟩
        exact ⟨a, xs, i, j, rfl, rfl, h2, by rw [h3.length]; exact hj, k.nx _ w2 σ _ q3 ((s1.trans s2).trans g2) g1⟩
      | va dd =>
        cases dd <;> try exact q2.elim
        rename_i m
        obtain ⟨ds, j, h0, hj, q3⟩ := q2
        obtain ⟨a, ha, xs, h1, h3⟩ := e2.obAt h0
        obtain ⟨v0, h4, a', rfl, h5⟩ := e2.at_va hsl
        rw [hu] at h4
        cases h4
        rw [ha] at h5
        cases h5
        obtain ⟨g1, g2⟩ := e2.updOb (u := .lst (ds.set j d)) (o := .lst (xs.set j v)) ha fun H' av kk hh => ⟨_, hh, (h3.set j rd).keep kk (List.prefix_refl _)⟩
        exact ⟨a, xs, i, j, rfl, rfl, h1, by rw [h3.length]; exact hj, k.nx _ w2 σ _ q3 ((s1.trans s2).trans g2) g1⟩⟩
end
end QL
namespace QL
open PySem PySem.Spec PyProof.Rows L2
/-! ### isinstance, all, any, sum -/
def D.tyn : D → Option String
  | .non => some "NoneType"
  | .bl _ => some "bool"
  | .int _ => some "int"
  | .str _ => some "str"
  | .tup _ => some "tuple"
  | .lst _ => some "list"
  | _ => none
def oIsi : QOn := fun xs Γ P => match xs with
  | [d, .ty T] => ∃ t b, d.tyn = some t ∧ kitB t T = some b ∧ P (.bl b) Γ
  | _ => False
theorem TpA.tyx {K : PySem.W.Frag} {H : Hp} {av : Addr → Prop} {a : Addr} {xs : List V} (h : TpA K H av a xs) : TyX K H (.ref a) (.type "tuple") := by
  rcases h with ⟨h, _⟩ | h
  · rcases h with h | ⟨o, h⟩
    · exact .base (.tup h)
    · exact .fTuple h
  · rcases h (fun _ => none) with (h | ⟨o, h⟩) | ⟨o, its, n, h1, h2, _⟩
    · cases h
    · cases h
    · exact .kTuple h1 h2
theorem Rep.tyx {K : PySem.W.Frag} {H : Hp} {av : Addr → Prop} {w : List Addr} {d : D} {u : V} {t : String} (r : Rep K H av w d u) (h : d.tyn = some t) : TyX K H u (.type t) := by
  cases d <;> cases h
  · have r : u = _ := r
    subst r
    exact .base .non
  · have r : u = _ := r
    subst r
    exact .base (.bl _)
  · have r : u = _ := r
    subst r
    exact .base (.int _)
  · have r : u = _ := r
    subst r
    exact .base (.str _)
  · obtain ⟨a, xs, rfl, h1, _⟩ := r
    exact h1.tyx
  · obtain ⟨a, xs, rfl, h1, _⟩ := r
    exact .base (.lst h1.1)
theorem l_isi {K : PySem.W.Frag} : LiftN K (rIsi K) oIsi := by
  intro c w Γ H σ xs us P Q e r o k
  match xs, o with
  | [d, .ty T], o =>
    obtain ⟨t, b, h1, h2, h3⟩ := o
    obtain ⟨u, u', rfl, g1, g2⟩ := reps2 r
    have g2 : u' = .ty T := g2
    subst g2
    exact ⟨u, _, _, _, b, rfl, .ty T, g1.tyx h1, kit_ty h2, fin_same e k h3 rfl⟩
/-- bools, ints in a list -/
def allB : List D → Option (List Bool)
  | [] => some []
  | .bl b :: r => (allB r).map (b :: ·)
  | _ => none
def allI : List D → Option (List Int)
  | [] => some []
  | .int b :: r => (allI r).map (b :: ·)
  | _ => none
theorem reps_B {K : PySem.W.Frag} {H : Hp} {av : Addr → Prop} {w : List Addr} : ∀ {ds : List D} {us : List V} {bs : List Bool}, Reps K H av w ds us → allB ds = some bs → us = bs.map V.bl
  | [], us, bs, r, h => by
    have r : us = [] := r
    cases h
    exact r
  | d :: ds, us, bs, r, h => by
    obtain ⟨u, us', rfl, h1, h2⟩ := r
    cases d <;> try cases h
    have h : (allB ds).map (_ :: ·) = some bs := h
    cases q : allB ds with
    | none =>
      rw [q] at h
      cases h
    | some bs' =>
      rw [q] at h
      cases h
      rw [reps_B h2 q, show u = V.bl _ from h1]
      rfl
theorem reps_I {K : PySem.W.Frag} {H : Hp} {av : Addr → Prop} {w : List Addr} : ∀ {ds : List D} {us : List V} {bs : List Int}, Reps K H av w ds us → allI ds = some bs → us = bs.map V.int
  | [], us, bs, r, h => by
    have r : us = [] := r
    cases h
    exact r
  | d :: ds, us, bs, r, h => by
    obtain ⟨u, us', rfl, h1, h2⟩ := r
    cases d <;> try cases h
    have h : (allI ds).map (_ :: ·) = some bs := h
    cases q : allI ds with
    | none =>
      rw [q] at h
      cases h
    | some bs' =>
      rw [q] at h
      cases h
      rw [reps_I h2 q, show u = V.int _ from h1]
      rfl
def oAll : QOn := fun xs Γ P => match xs with
  | [.lst ds] => ∃ bs, allB ds = some bs ∧ P (.bl (bs.all id)) Γ
  | _ => False
def oAny : QOn := fun xs Γ P => match xs with
  | [.lst ds] => ∃ bs, allB ds = some bs ∧ P (.bl (bs.any id)) Γ
  | _ => False
def oSum : QOn := fun xs Γ P => match xs with
  | [.lst ds] => ∃ bs, allI ds = some bs ∧ P (.int bs.sum) Γ
  | _ => False
theorem l_all {K : PySem.W.Frag} : LiftN K (rAll K) oAll := by
  intro c w Γ H σ xs us P Q e r o k
  match xs, o with
  | [.lst ds], ⟨bs, h1, h2⟩ =>
    obtain ⟨u, rfl, a, ys, rfl, h3, h4⟩ := reps1 r
    exact ⟨a, bs, rfl, by rw [← reps_B h4 h1]; exact h3.sq, fin_same e k h2 rfl⟩
theorem l_any {K : PySem.W.Frag} : LiftN K (rAny K) oAny := by
  intro c w Γ H σ xs us P Q e r o k
  match xs, o with
  | [.lst ds], ⟨bs, h1, h2⟩ =>
    obtain ⟨u, rfl, a, ys, rfl, h3, h4⟩ := reps1 r
    exact ⟨a, bs, rfl, by rw [← reps_B h4 h1]; exact h3.sq, fin_same e k h2 rfl⟩
theorem l_sum {K : PySem.W.Frag} : LiftN K (rSum K) oSum := by
  intro c w Γ H σ xs us P Q e r o k
  match xs, o with
  | [.lst ds], ⟨bs, h1, h2⟩ =>
    obtain ⟨u, rfl, a, ys, rfl, h3, h4⟩ := reps1 r
    exact ⟨a, bs, rfl, by rw [← reps_I h4 h1]; exact h3.sq, fin_same e k h2 rfl⟩
/-! ### == of data -/
mutual
def D.py : D → Option PyData
  | .non => some .none
  | .bl b => some (.bool b)
  | .int i => some (.int i)
  | .str x => some (.str x)
  | .tup ds => (D.pys ds).map .tuple
  | .lst ds => (D.pys ds).map .list
  | _ => none
def D.pys : List D → Option (List PyData)
  | [] => some []
  | d :: ds => match D.py d with
    | some p => (D.pys ds).map (p :: ·)
    | none => none
end
mutual
theorem Rep.dp {K : PySem.W.Frag} {H : Hp} {av : Addr → Prop} {w : List Addr} : ∀ {d : D} {u : V} {p : PyData}, Rep K H av w d u → d.py = some p → Dp K H u p
  | .non, u, p, r, h => by
    have r : u = _ := r
    cases h
    subst r
    exact .non
  | .bl b, u, p, r, h => by
    have r : u = _ := r
    cases h
    subst r
    exact .bl b
  | .int i, u, p, r, h => by
    have r : u = _ := r
    cases h
    subst r
    exact .int i
  | .str i, u, p, r, h => by
    have r : u = _ := r
    cases h
    subst r
    exact .str i
  | .tup ds, u, p, r, h => by
    obtain ⟨a, xs, rfl, h1, h2⟩ := r
    have h : (D.pys ds).map PyData.tuple = some p := h
    cases q : D.pys ds with
    | none =>
      rw [q] at h
      cases h
    | some ps =>
      rw [q] at h
      cases h
      exact .tup h1.sq (Reps.dps h2 q)
  | .lst ds, u, p, r, h => by
    obtain ⟨a, xs, rfl, h1, h2⟩ := r
    have h : (D.pys ds).map PyData.list = some p := h
    cases q : D.pys ds with
    | none =>
      rw [q] at h
      cases h
    | some ps =>
      rw [q] at h
      cases h
      exact .lst h1.sq (Reps.dps h2 q)
  | .ty _, _, _, _, h => by cases h
  | .dic _ _, _, _, _, h => by cases h
  | .frl _, _, _, _, h => by cases h
  | .ref _, _, _, _, h => by cases h
  | .adr _, _, _, _, h => by cases h
  | .exc _ _ _ _ _, _, _, _, h => by cases h
theorem Reps.dps {K : PySem.W.Frag} {H : Hp} {av : Addr → Prop} {w : List Addr} : ∀ {ds : List D} {us : List V} {ps : List PyData}, Reps K H av w ds us → D.pys ds = some ps → DpAll K H us ps
  | [], us, ps, r, h => by
    have r : us = [] := r
    cases h
    subst r
    exact .nil
  | d :: ds, us, ps, r, h => by
    obtain ⟨u, us', rfl, h1, h2⟩ := r
    have h : (match D.py d with
      | some p => (D.pys ds).map (p :: ·)
      | none => none) = some ps := h
    cases q : D.py d with
    | none =>
      rw [q] at h
      cases h
    | some p =>
      rw [q] at h
      have h : (D.pys ds).map (p :: ·) = some ps := h
      cases q2 : D.pys ds with
      | none =>
        rw [q2] at h
        cases h
      | some ps' =>
        rw [q2] at h
        cases h
        exact .cons (Rep.dp h1 q) (Reps.dps h2 q2)
end
/-- data that == may compare -/
def Cmp (d : D) (p : PyData) : Prop := d.py = some p ∧ SeqAt.shaped p = true
def oEqG : QO2 := fun x y Γ P => ∃ p q, Cmp x p ∧ Cmp y q ∧ P (.bl (PyData.eqv p q)) Γ
def oNeG : QO2 := fun x y Γ P => ∃ p q, Cmp x p ∧ Cmp y q ∧ P (.bl (!PyData.eqv p q)) Γ
def oEq : QO2 := fun x y Γ P => match x, y with
  | .int i, .int j => P (.bl (decide (i = j))) Γ
  | .bl i, .bl j => P (.bl (decide (i = j))) Γ
  | .str i, .str j => SeqAt.shaped (.str i) = true ∧ SeqAt.shaped (.str j) = true ∧ P (.bl (decide (i = j))) Γ
  | x, y => oEqG x y Γ P
def oNe : QO2 := fun x y Γ P => match x, y with
  | .int i, .int j => P (.bl (!decide (i = j))) Γ
  | .bl i, .bl j => P (.bl (!decide (i = j))) Γ
  | .str i, .str j => SeqAt.shaped (.str i) = true ∧ SeqAt.shaped (.str j) = true ∧ P (.bl (!decide (i = j))) Γ
  | x, y => oNeG x y Γ P
theorem eqv_int {i j : Int} : PyData.eqv (.int i) (.int j) = decide (i = j) := by
  simp only [PyData.eqv]
  first | rfl | (by_cases h : i = j <;> simp [h])
theorem eqv_str {i j : Str} : PyData.eqv (.str i) (.str j) = decide (i = j) := by
  simp only [PyData.eqv]
  first | rfl | (by_cases h : i = j <;> simp [h])
theorem eqv_bl {i j : Bool} : PyData.eqv (.bool i) (.bool j) = decide (i = j) := by
  cases i <;> cases j <;> rfl
theorem oEqG_of {x y : D} {Γ : G} {P : D → G → Prop} (h : oEq x y Γ P) : oEqG x y Γ P := by
  unfold oEq at h
  split at h
  · exact ⟨_, _, ⟨rfl, rfl⟩, ⟨rfl, rfl⟩, by rw [eqv_int]; exact h⟩
  · exact ⟨_, _, ⟨rfl, rfl⟩, ⟨rfl, rfl⟩, by rw [eqv_bl]; exact h⟩
  · exact ⟨_, _, ⟨rfl, h.1⟩, ⟨rfl, h.2.1⟩, by rw [eqv_str]; exact h.2.2⟩
  · exact h
theorem oNeG_of {x y : D} {Γ : G} {P : D → G → Prop} (h : oNe x y Γ P) : oNeG x y Γ P := by
  unfold oNe at h
  split at h
  · exact ⟨_, _, ⟨rfl, rfl⟩, ⟨rfl, rfl⟩, by rw [eqv_int]; exact h⟩
  · exact ⟨_, _, ⟨rfl, rfl⟩, ⟨rfl, rfl⟩, by rw [eqv_bl]; exact h⟩
  · exact ⟨_, _, ⟨rfl, h.1⟩, ⟨rfl, h.2.1⟩, by rw [eqv_str]; exact h.2.2⟩
  · exact h
theorem l_eq {K : PySem.W.Frag} : Lift2 K (rEqD K) oEq := by
  intro c w Γ H σ x y u v P Q e rx ry o k
  obtain ⟨p, q, h1, h2, h3⟩ := oEqG_of o
  exact ⟨p, q, rx.dp h1.1, ry.dp h2.1, h1.2, h2.2, fin_same e k h3 rfl⟩
theorem l_ne {K : PySem.W.Frag} : Lift2 K (rNeD K) oNe := by
  intro c w Γ H σ x y u v P Q e rx ry o k
  obtain ⟨p, q, h1, h2, h3⟩ := oNeG_of o
  exact ⟨p, q, rx.dp h1.1, ry.dp h2.1, h1.2, h2.2, fin_same e k h3 rfl⟩
theorem Cmp.int {i : Int} : Cmp (.int i) (.int i) := ⟨rfl, rfl⟩
theorem Cmp.nil : Cmp (.lst []) (.list []) := ⟨rfl, rfl⟩
/-! ### in -/
def D.flat : D → Bool
  | .non => true
  | .bl _ => true
  | .int _ => true
  | .str _ => true
  | _ => false
def oIn (neg : Bool) : QO2 := fun x y Γ P => match y with
  | .lst ds => ∃ p ps, Cmp x p ∧ D.pys ds = some ps ∧ (x.flat = true ∧ ds.all D.flat = true) ∧ P (.bl (if neg then !(ps.any fun q => PyData.eqv q p) else ps.any fun q => PyData.eqv q p)) Γ
  | .tup ds => ∃ p ps, Cmp x p ∧ D.pys ds = some ps ∧ (x.flat = true ∧ ds.all D.flat = true) ∧ P (.bl (if neg then !(ps.any fun q => PyData.eqv q p) else ps.any fun q => PyData.eqv q p)) Γ
  | _ => False
section
variable {X : Cx} {W : WX} {k : Nat} {a b e : Expr} {es : List Expr} {qa qb qe : QE} {qr : QA} {pos p : Pos} {x : Str}
theorem q_eq (B : Bd X W k) (ha : QEx X W a qa) (hb : QEx X W b qb) : QEx X W (.Compare a [.Eq] [b] pos) (qOp oEq qa qb) := q_cmp (op_eqD B.hr.units) l_eq ha hb (nomark _)
theorem q_ne (B : Bd X W k) (ha : QEx X W a qa) (hb : QEx X W b qb) : QEx X W (.Compare a [.NotEq] [b] pos) (qOp oNe qa qb) := q_cmp (op_neD B.hr.units) l_ne ha hb (nomark _)
theorem qt_eq (B : Bd X W k) (ha : QEx X W a qa) (hb : QEx X W b qb) : QTx X W (.Compare a [.Eq] [b] pos) (qTest (qOp oEq qa qb)) := qt_cmp (op_eqD B.hr.units) l_eq ha hb (nomark _)
theorem qt_ne (B : Bd X W k) (ha : QEx X W a qa) (hb : QEx X W b qb) : QTx X W (.Compare a [.NotEq] [b] pos) (qTest (qOp oNe qa qb)) := qt_cmp (op_neD B.hr.units) l_ne ha hb (nomark _)
theorem q_isi (hg : Gl X "isinstance") (hm : X.mg "isinstance" = none) (ha : QAx X W [e, a] qr) (he : starEach [e, a] X.env = (false, eval e X.env) :: starEach [a] X.env := by rfl) (hpl : (backTo pos (starEach [a] X.env)).any (·.1) = false := by rfl) :
    QEx X W (.Call (.Name "isinstance" p) [e, a] [] pos) (qCB oIsi qr) := q_callB call_isi l_isi hg hm (by decide +kernel) ha (by decide) (by decide) he hpl
theorem q_all (B : Bd X W k) (hg : Gl X "all") (hm : X.mg "all" = none) (ha : QAx X W [e] qr) (he : starEach [e] X.env = (false, eval e X.env) :: starEach [] X.env := by rfl) (hpl : (backTo pos (starEach [] X.env)).any (·.1) = false := by rfl) :
    QEx X W (.Call (.Name "all" p) [e] [] pos) (qCB oAll qr) := q_callB (cr_all B.hc) l_all hg hm (by decide +kernel) ha (by decide) (by decide) he hpl
theorem q_any (B : Bd X W k) (hg : Gl X "any") (hm : X.mg "any" = none) (ha : QAx X W [e] qr) (he : starEach [e] X.env = (false, eval e X.env) :: starEach [] X.env := by rfl) (hpl : (backTo pos (starEach [] X.env)).any (·.1) = false := by rfl) :
    QEx X W (.Call (.Name "any" p) [e] [] pos) (qCB oAny qr) := q_callB (cr_any B.hc) l_any hg hm (by decide +kernel) ha (by decide) (by decide) he hpl
theorem q_sum (B : Bd X W k) (hg : Gl X "sum") (hm : X.mg "sum" = none) (ha : QAx X W [e] qr) (he : starEach [e] X.env = (false, eval e X.env) :: starEach [] X.env := by rfl) (hpl : (backTo pos (starEach [] X.env)).any (·.1) = false := by rfl) :
    QEx X W (.Call (.Name "sum" p) [e] [] pos) (qCB oSum qr) := q_callB (cr_sum B.hc) l_sum hg hm (by decide +kernel) ha (by decide) (by decide) he hpl
/-- a built-in class as a value -/
theorem q_tyn {x : Str} {n : String} (hg : Gl X x) (hm : X.mg x = none) (hv : bootBuiltins x = some (.type n)) (hn : x ≠ "__name__" := by decide) (hd : (x == ("__debug__" : Str)) = false := by decide) : QEx X W (.Name x p) (qC (.ty n)) :=
  q_const (pe_bltn (v := .ty n) hg hm hv rfl hn hd) fun _ _ _ => rfl
/-- a module's constant -/
theorem q_glob {x : Str} {v : V} {u : Value} {d : D} (hg : Gl X x) (hm : X.mg x = some u) (r : RelV v u) (hr : ∀ H av w, Rep X.K H av w d v) (hd : (x == ("__debug__" : Str)) = false := by decide) : QEx X W (.Name x p) (qC d) :=
  q_const (pe_glob hg hm r hd) hr
/-! ### slices -/
def qPart (q : QE) : EXG → G → (Option Int → G → Prop) → Prop := fun EX Γ P => q EX Γ fun d Γ1 => match d with
  | .int i => P (some i) Γ1
  | _ => False
def qNoPart : EXG → G → (Option Int → G → Prop) → Prop := fun _ Γ P => P none Γ
abbrev QO := EXG → G → (Option Int → G → Prop) → Prop
def liftO (K : PySem.W.Frag) (c : C0) (W : WX) (q : QO) : TO := fun σ H Q => ∃ w Γ P EX, ER K c w H σ Γ ∧ q EX Γ P ∧ XL K c W w σ Γ H EX ∧ ∀ b Γ' w' H', P b Γ' → Stp c w σ Γ H w' σ Γ' H' → ER K c w' H' σ Γ' → Q b H'
def QOx (X : Cx) (W : WX) (e : Option Expr) (q : QO) : Prop := ∀ c, PO X e (liftO X.K c W q)
theorem qo_none : QOx X W none qNoPart := fun c => ⟨fun pins s σ H Q I h => po_none.run pins s σ H Q I (by
  obtain ⟨w, Γ, P, EX, er, q, x, k⟩ := h
  exact k none Γ w H q Stp.refl er)⟩
theorem qo_some (h : QEx X W e qe) : QOx X W (some e) (qPart qe) := fun c => ⟨fun pins s σ H Q I hw => (po_some (h c)).run pins s σ H Q I (by
  obtain ⟨w, Γ, P, EX, er, q, x, k⟩ := hw
  exact ⟨w, Γ, _, EX, er, q, x, fun d Γ1 w1 H1 v q1 s1 e1 r1 => by
    cases d <;> try exact q1.elim
    exact ⟨_, r1, k _ _ w1 H1 q1 s1 e1⟩⟩)⟩
def cutD (xs : List D) (lo hi : Option Int) : List D := (xs.drop (HT.sIx xs.length 0 lo)).take (HT.sIx xs.length xs.length hi - HT.sIx xs.length 0 lo)
theorem Reps.cut {K : PySem.W.Frag} {H : Hp} {av : Addr → Prop} {w : List Addr} {ds : List D} {us : List V} (r : Reps K H av w ds us) (lo hi : Option Int) : Reps K H av w (cutD ds lo hi) (cutV us lo hi) := by
  unfold cutD cutV
  rw [r.length]
  exact (r.drop _).take _
/-- xs[lo:hi]: of a list a new list -/
def qSl (qe : QE) (ql qh : QO) : QE := fun EX Γ P => qe EX Γ fun d Γ1 => ql EX Γ1 fun lo Γ2 => qh EX Γ2 fun hi Γ3 => match d with
  | .lst ds => P (.lst (cutD ds lo hi)) Γ3
  | .frl ds => P (.lst (cutD ds lo hi)) Γ3
  | .tup ds => P (.tup (cutD ds lo hi)) Γ3
  | _ => False
theorem cut_all {ds : List D} {lo hi : Option Int} (h : HT.sIx ds.length 0 lo = 0 ∧ HT.sIx ds.length ds.length hi = ds.length) : cutD ds lo hi = ds := by
  unfold cutD
  rw [h.1, h.2, List.drop_zero, Nat.sub_zero, List.take_length]
theorem f_sl {c : C0} {lo hi : Option Expr} {ql qh : QO} {p2 : Pos} (he : PE X e (liftE X.K c W qe)) (hl : QOx X W lo ql) (hh : QOx X W hi qh) : PE X (.Subscript e (.Slice lo hi none p2) pos) (liftE X.K c W (qSl qe ql qh)) :=
  PEi (pe_slice (sl_list.or sl_tupA) he (hl c) (hh c)) fun σ H Q ⟨w, Γ, P, EX, er, q, x, k⟩ => ⟨w, Γ, _, EX, er, q, x, fun d Γ1 w1 H1 u q1 s1 e1 r1 =>
    ⟨w1, Γ1, _, EX, e1, q1, x.stp s1, fun lo' Γ2 w2 H2 q2 s2 e2 => ⟨w2, Γ2, _, EX, e2, q2, (x.stp s1).stp s2, fun hi' Γ3 w3 H3 q3 s3 e3 => by
      have r3 := (r1.stp s2).stp s3
      have kk : ∀ d Γ' w' H' z, P d Γ' → Stp c w3 σ Γ3 H3 w' σ Γ' H' → ER X.K c w' H' σ Γ' → Rep X.K H' (Av c w' σ Γ') w' d z → Q z H' := fun d Γ' w' H' z a b e f => k d Γ' w' H' z a (((s1.trans s2).trans s3).trans b) e f
      cases d <;> try exact q3.elim
      · obtain ⟨a, xs, rfl, h1, h2⟩ := r3
        refine .inr ⟨a, xs, rfl, h1.sq, fun z => ?_, fun z p hp => fin_tup e3 kk q3 (h2.cut _ _) hp⟩
        rw [h2.length] at z
        have q3 : P (.tup (cutD _ lo' hi')) Γ3 := q3
        rw [cut_all z] at q3
        exact fin_same e3 kk q3 ⟨a, xs, rfl, h1, h2⟩
      · obtain ⟨a, xs, rfl, h1, h2⟩ := r3
        exact .inl ⟨a, xs, rfl, h1.sq, fun p hp => fin_lst e3 kk q3 (h2.cut _ _) hp⟩
      · obtain ⟨a, xs, rfl, h1, h2⟩ := r3
        exact .inl ⟨a, xs, rfl, h1.sq, fun p hp => fin_lst e3 kk q3 (h2.cut _ _) hp⟩⟩⟩⟩
theorem q_sl {lo hi : Option Expr} {ql qh : QO} {p2 : Pos} (he : QEx X W e qe) (hl : QOx X W lo ql) (hh : QOx X W hi qh) : QEx X W (.Subscript e (.Slice lo hi none p2) pos) (qSl qe ql qh) := fun c => f_sl (he c) hl hh
end
end QL
namespace QL
open PySem PySem.Spec PyProof.Rows L2
theorem _root_.L2.Room.units65 {k : Nat} {A : Around} (r : Room k A) : A.units + 65 < cLine := by
  have := r.un
  omega
/-! ### chains, in, targets, keywords -/
section
variable {X : Cx} {W : WX} {k : Nat} {a b d e : Expr} {qa qb qd qe : QE} {pos : Pos}
theorem q_chainR {op op' : CmpOp} {r r' : R2} {o o' : QO2} (ho : OpR X (compareOp op) r) (ho' : OpR X (compareOp op') r') (l : Lift2 X.K r o) (l' : Lift2 X.K r' o') (ha : QEx X W a qa) (hb : QEx X W b qb) (hd : QEx X W d qd)
    (hm : lastMarks [op, op'] [b, d] = false := by with_unfolding_all rfl) : QEx X W (.Compare a [op, op'] [b, d] pos) (qChain o o' qa qb qd) := fun c => PEi (pe_chain ho ho' (ha c) (hb c) (hd c) hm) fun _ _ _ h => lift_chain l l' h
theorem qt_chainR {op op' : CmpOp} {r r' : R2} {o o' : QO2} (ho : OpR X (compareOp op) r) (ho' : OpR X (compareOp op') r') (l : Lift2 X.K r o) (l' : Lift2 X.K r' o') (ha : QEx X W a qa) (hb : QEx X W b qb) (hd : QEx X W d qd)
    (hm : lastMarks [op, op'] [b, d] = false := by with_unfolding_all rfl) : QTx X W (.Compare a [op, op'] [b, d] pos) (qTest (qChain o o' qa qb qd)) := fun c => PTi (pt_chain ho ho' (ha c) (hb c) (hd c) hm) fun σ H Q ⟨w, Γ, P, EX, er, q, x, k⟩ => by
  exact lift_chain l l' ⟨w, Γ, _, EX, er, q, x, fun d Γ' w' H' v q1 s1 e1 r1 => by
    cases d <;> try exact q1.elim
    exact ⟨_, r1, k _ Γ' w' H' q1 s1 e1⟩⟩
abbrev CmpI (op : CmpOp) (o : QO2) : Prop := ∀ X : Cx, ∃ r, OpR X (compareOp op) r ∧ Lift2 X.K r o
theorem lr_lt : CmpI .Lt oLt := fun _ => ⟨_, op_lt, l_I0 fun _ _ _ _ _ => rfl⟩
theorem lr_le : CmpI .LtE oLe := fun _ => ⟨_, op_le, l_I0 fun _ _ _ _ _ => rfl⟩
theorem lr_gt : CmpI .Gt oGt := fun _ => ⟨_, op_gt, l_I0 fun _ _ _ _ _ => rfl⟩
theorem lr_ge : CmpI .GtE oGe := fun _ => ⟨_, op_ge, l_I0 fun _ _ _ _ _ => rfl⟩
theorem q_chain {op op' : CmpOp} {o o' : QO2} (l : CmpI op o) (l' : CmpI op' o') (ha : QEx X W a qa) (hb : QEx X W b qb) (hd : QEx X W d qd)
    (hm : lastMarks [op, op'] [b, d] = false := by with_unfolding_all rfl) : QEx X W (.Compare a [op, op'] [b, d] pos) (qChain o o' qa qb qd) := by
  obtain ⟨r, h1, h2⟩ := l X
  obtain ⟨r', h1', h2'⟩ := l' X
  exact q_chainR h1 h1' h2 h2' ha hb hd hm
theorem qt_chain {op op' : CmpOp} {o o' : QO2} (l : CmpI op o) (l' : CmpI op' o') (ha : QEx X W a qa) (hb : QEx X W b qb) (hd : QEx X W d qd)
    (hm : lastMarks [op, op'] [b, d] = false := by with_unfolding_all rfl) : QTx X W (.Compare a [op, op'] [b, d] pos) (qTest (qChain o o' qa qb qd)) := by
  obtain ⟨r, h1, h2⟩ := l X
  obtain ⟨r', h1', h2'⟩ := l' X
  exact qt_chainR h1 h1' h2 h2' ha hb hd hm
/-- x in a list of data -/
def oInL (neg : Bool) : QO2 := fun x y Γ P => ∃ p ps, Cmp x p ∧ Cmp y (.list ps) ∧ P (.bl (xor neg (ps.any fun z => PyData.eqv z p))) Γ
theorem l_inL {K : PySem.W.Frag} : Lift2 K (rInD K) (oInL false) := fun c w Γ H σ x y u v P Q er rx ry ⟨p, ps, h1, h2, q⟩ kk =>
  ⟨p, ps, rx.dp h1.1, ry.dp h2.1, h1.2, h2.2, kk _ Γ w H _ q Stp.refl er (by rw [Bool.false_xor] <;> rfl)⟩
theorem l_ninL {K : PySem.W.Frag} : Lift2 K (rNotInD K) (oInL true) := fun c w Γ H σ x y u v P Q er rx ry ⟨p, ps, h1, h2, q⟩ kk =>
  ⟨p, ps, rx.dp h1.1, ry.dp h2.1, h1.2, h2.2, kk _ Γ w H _ q Stp.refl er (by rw [Bool.true_xor] <;> rfl)⟩
theorem qt_in (B : Bd X W k) (ha : QEx X W a qa) (hb : QEx X W b qb) (hm : behindInMarks .In b = false := by with_unfolding_all rfl) : QTx X W (.Compare a [.In] [b] pos) (qTest (qOp (oInL false) qa qb)) := qt_cmp (op_inD B.hr.units65) l_inL ha hb hm
theorem qt_nin (B : Bd X W k) (ha : QEx X W a qa) (hb : QEx X W b qb) (hm : behindInMarks .NotIn b = false := by with_unfolding_all rfl) : QTx X W (.Compare a [.NotIn] [b] pos) (qTest (qOp (oInL true) qa qb)) := qt_cmp (op_notInD B.hr.units65) l_ninL ha hb hm
theorem q_in (B : Bd X W k) (ha : QEx X W a qa) (hb : QEx X W b qb) (hm : behindInMarks .In b = false := by with_unfolding_all rfl) : QEx X W (.Compare a [.In] [b] pos) (qOp (oInL false) qa qb) := q_cmp (op_inD B.hr.units65) l_inL ha hb hm
theorem q_nin (B : Bd X W k) (ha : QEx X W a qa) (hb : QEx X W b qb) (hm : behindInMarks .NotIn b = false := by with_unfolding_all rfl) : QEx X W (.Compare a [.NotIn] [b] pos) (qOp (oInL true) qa qb) := q_cmp (op_notInD B.hr.units65) l_ninL ha hb hm
end
/-- a target takes a value -/
def qAsg (qe : QE) (g : QG) : QS := fun EX E Γ => qe EX Γ fun d Γ1 => g d Γ1 E.nx
section
variable {X : Cx} {W : WX} {tg e : Expr} {qe : QE} {g : QG} {pos : Pos}
theorem qs_asg (he : QEx X W e qe) (hg : QGx X tg g) (hs : swapsWithSole [tg] e pos.line X.env = pure false := by rfl) (hw : swappedStores [tg] e X.env = pure none := by rfl)
    (h1 : (assignEach [tg] X.env).map (·.2) = [assign tg X.env] := by rfl) : QSx X W (.Assign [tg] e pos) (qAsg qe g) := fun c =>
  PSi (ps_asg (he c) (hg c) hs hw h1) fun D σ H ⟨w, Γ, E, EX, er, q, x, k⟩ => ⟨w, Γ, _, EX, er, q, x, fun d Γ1 w1 H1 v q1 s1 e1 r1 =>
    ⟨w1, Γ1, d, E.nx, e1, r1, q1, fun Γ2 w2 σ2 H2 q2 s2 e2 => k.nx Γ2 w2 σ2 H2 q2 (s1.trans s2) e2⟩⟩
end
/-! ### keywords -/
def QKx (X : Cx) (W : WX) (ks : List Keyword) (q : QA) : Prop := ∀ c, PK X ks (liftA X.K c W q)
section
variable {X : Cx} {W : WX} {e : Expr} {qe : QE} {q : QA} {nm : Option Str} {kpos : Pos} {ks : List Keyword}
theorem PKi {ks : List Keyword} {t t' : TA} (h : PK X ks t) (i : ∀ σ H Q, t' σ H Q → t σ H Q) : PK X ks t' := ⟨fun pos pins s σ H Q I q => h.run pos pins s σ H Q I (i σ H Q q)⟩
theorem qk_nil : QKx X W [] qNil := fun c => PKi pk_nil fun σ H Q ⟨w, Γ, P, EX, er, q, x, k⟩ => k [] Γ w H [] q Stp.refl er rfl
theorem qk_cons (ha : QEx X W e qe) (hr : QKx X W ks q) : QKx X W (⟨nm, e, kpos⟩ :: ks) (qCons qe q) := fun c => PKi (pk_cons (ha c) (hr c)) fun σ H Q ⟨w, Γ, P, EX, er, q, x, k⟩ =>
  ⟨w, Γ, _, EX, er, q, x, fun d Γ1 w1 H1 v q1 s1 e1 r1 => ⟨w1, Γ1, _, EX, e1, q1, x.stp s1, fun ds Γ2 w2 H2 vs q2 s2 e2 r2 => k _ Γ2 w2 H2 _ q2 (s1.trans s2) e2 (Reps.cons (r1.stp s2) r2)⟩⟩
end
/-- a call with keywords where what is raised is wished for at the slots -/
def tCallNS (n m : Nat) (sp : Sp) (gV : List V → List V → List V) (E : L2.St → XK) (t tk : TA) : TE := fun σ H Q => t σ H fun vs H1 => tk σ H1 fun zs H2 => vs.length = n ∧ zs.length = m ∧ sp (gV vs zs) H2 Q (E σ)
section
variable {X : Cx} {CX : CXT} {k n : Nat} {f : Addr} {fd : FuncData} {ps ks : List Str} {sp : Sp} {E : L2.St → XK} {x : Str} {p pos : Pos} {e : Expr} {es : List Expr} {kws : List Keyword} {t tk : TA} {g : List Value → List Value → List Value} {gV : List V → List V → List V}
theorem run_fnNS {pins : List (Addr × Obj)} {σ : L2.St} {H : Hp} {s : Shared} {Q : VK} {us ws : List Value} {vs zs : List V}
    (F : FnOk X.prog X.w X.K X.mg X.base CX k f fd ps sp) (hr : Room k X.A) (hb : KBn X.K fd ps n ks g gV) (hx : PassesAt CX X σ (E σ)) (I : Inv X pins σ H s)
    (r : Vals vs us) (rz : Vals zs ws) (l1 : vs.length = n) (l2 : zs.length = ks.length) (h : sp (gV vs zs) H Q (E σ)) :
    wpAny (model X.prog X.w) X.A (call (.ref f) us (ks.zip ws)) (EP X pins σ Q) X.xe s := by
  refine wpAny_call (codeAny_mono (F.run X.A X.stack s H ⟨us, ks.zip ws⟩ (g us ws) (gV vs zs) Q (E σ) hr I.env0 (hb.to s us ws I.kIn (r.length.symm.trans l1) (rz.length.symm.trans l2)) (hb.rel r rz) h) fun res s' hq => ?_)
  match res, hq with
  | .error u, hq => exact hx pins H s u s' I hq
  | .ok (.ret u), hq => exact I.after hq
theorem pe_callNS (F : FnOk X.prog X.w X.K X.mg X.base CX k f fd ps sp) (hr : Room k X.A) (hg : Gl X x) (hm : X.mg x = some (.ref f)) (hk : PySem.W.keepIn X.K (.ref f) = true) (hb : KBn X.K fd ps n ks g gV) (hx : ∀ σ, PassesAt CX X σ (E σ))
    (ha : PA X (e :: es) t) (hkw : PK X kws tk) (hall : (backToKw pos (keywordEach kws X.env)).all (·.1.isSome) = true) (hks : (backToKw pos (keywordEach kws X.env)).filterMap (·.1) = ks)
    (hdb : (x == ("__debug__" : Str)) = false) (he : starEach (e :: es) X.env = (false, eval e X.env) :: starEach es X.env)
    (hpl : ((backTo pos (starEach (e :: es) X.env)).any (·.1) || (backToKw pos (keywordEach kws X.env)).any (·.1.isNone)) = false) :
    PE X (.Call (.Name x p) (e :: es) kws pos) (tCallNS n ks.length sp gV E t tk) := by
  constructor
  intro pins s σ H Q I h
  apply wpAny_Call_Name_kw (ld_glob I hg hm ?_ hdb)
  apply PySem.W.callWith_KW (h₀ := X.base) I.ok.mod.kin hk hall (thn (ha.run pos pins s σ H _ I h) ?_) hpl he
  rintro us s1 ⟨vs, H1, I1, r, q⟩
  apply thn (hkw.run pos pins s1 σ H1 _ I1 q)
  rintro ws s2 ⟨zs, H2, I2, rz, l1, l2, q2⟩
  refine ⟨I2.kIn, ?_⟩
  rw [hks]
  exact run_fnNS F hr hb (hx σ) I2 r rz l1 l2 q2
end
/-- f(e, .., k = v, ..): gD puts the data in the parameters' order -/
def qCallK (n m m' : Nat) (F : FQ) (gD : List D → List D → List D) (qr qk : QA) : QE := fun EX Γ P => qr EX Γ fun ds Γ1 => ds.length = m ∧ qk EX Γ1 fun es Γ2 => es.length = m' ∧ (gD ds es).length = n ∧ F (fun e ob => EX e ⟨Γ2.sl, ob⟩) (gD ds es) Γ2.ob fun d ob => P d ⟨Γ2.sl, ob⟩
section
variable {X : Cx} {W : WX} {k j n m m' : Nat} {f : Addr} {fd : FuncData} {ps ks : List Str} {F : FQ} {x : Str} {p pos : Pos} {e : Expr} {es : List Expr} {kws : List Keyword} {qr qk : QA} {g : List Value → List Value → List Value} {gV : List V → List V → List V} {gD : List D → List D → List D}
/-- the order of data is the order of values -/
def GOk (K : PySem.W.Frag) (n m : Nat) (gD : List D → List D → List D) (gV : List V → List V → List V) : Prop := ∀ H av w ds es vs us, Reps K H av w ds vs → Reps K H av w es us → vs.length = n → us.length = m → Reps K H av w (gD ds es) (gV vs us)
theorem q_callK (B : Bd X W k) (G1 : FnOk X.prog X.w X.K X.mg X.base (L2N.CX X.prog X.w) j f fd ps (spQ X.K n F)) (hj : j ≤ k) (hg : Gl X x) (hm : X.mg x = some (.ref f)) (hk : PySem.W.keepIn X.K (.ref f) = true) (hb : KBn X.K fd ps m ks g gV)
    (hml : ks.length = m') (hG : GOk X.K m ks.length gD gV) (ha : QAx X W (e :: es) qr) (hkw : QKx X W kws qk)
    (hall : (backToKw pos (keywordEach kws X.env)).all (·.1.isSome) = true := by rfl) (hks : (backToKw pos (keywordEach kws X.env)).filterMap (·.1) = ks := by rfl)
    (hdb : (x == ("__debug__" : Str)) = false := by decide) (he : starEach (e :: es) X.env = (false, eval e X.env) :: starEach es X.env := by rfl)
    (hpl : ((backTo pos (starEach (e :: es) X.env)).any (·.1) || (backToKw pos (keywordEach kws X.env)).any (·.1.isNone)) = false := by rfl) :
    QEx X W (.Call (.Name x p) (e :: es) kws pos) (qCallK n m m' F gD qr qk) := fun c =>
  PEi (pe_callNS G1 (B.hr.mono hj) hg hm hk hb (fun σ => L2N.passAt B.tk σ) (ha c) (hkw c) hall hks hdb he hpl) fun σ H Q ⟨w, Γ, P, EX, er, q, x, k⟩ =>
    ⟨w, Γ, _, EX, er, q, x, fun ds Γ1 w1 H1 vs q1 s1 e1 r1 => ⟨w1, Γ1, _, EX, e1, q1.2, x.stp s1, fun es' Γ2 w2 H2 us q2 s2 e2 r2 =>
      ⟨r1.length.trans q1.1, r2.length.trans (q2.1.trans hml.symm), sp_call e2 (hG _ _ _ _ _ _ _ (r1.stp s2) r2 (r1.length.trans q1.1) (r2.length.trans (q2.1.trans hml.symm))) q2.2.1 q2.2.2
        (fun e Γ' w' H' cls d h1 h2 h3 h4 => x e Γ' w' σ H' cls d h1 ((s1.trans s2).trans h2) h3 h4)
        fun d Γ' w' H' v h1 h2 h3 h4 => k d Γ' w' H' v h1 ((s1.trans s2).trans h2) h3 h4⟩⟩⟩
end
end QL
namespace QL
open PySem PySem.Spec PyProof.Rows L2
/-! ### the head: facts, own checks besides -/
abbrev AlQ : Type := He.AlD × Bool
def obsQ (n : Nat) (fa : List He.Fa) (fn : List He.DefD) (xb : List (PySem.W.Frag → Bool)) (g : Addr → Option Obj) : AlQ := (He.obsDG n fa fn g, xb.all fun f => f (He.frG g (He.asD g n)))
structure SaysQ (fa : List He.Fa) (fn : List He.DefD) (xb : List (PySem.W.Frag → Bool)) (K : PySem.W.Frag) : Prop where
  c : He.SaysD fa fn K
  x : ∀ f ∈ xb, f K = true
def hookQ (n : Nat) (fa : List He.Fa) (fn : List He.DefD) (xb : List (PySem.W.Frag → Bool)) : PySem.W.Hook where
  α := AlQ
  obs := fun s => obsQ n fa fn xb s.heap.get?
  val := fun _ => (He.valD fn, true)
  says := fun _ h => ∃ K : PySem.W.Frag, K.In h ∧ SaysQ fa fn xb K
  of := fun _ _ e => ⟨_, He.frG_in, congrArg (fun z : AlQ => z.1) e, List.all_eq_true.mp (congrArg (fun z : AlQ => z.2) e)⟩
  keeps := fun _ _ _ ⟨K, hK, c⟩ k => ⟨K, PySem.W.Frag.In.keeps hK k, c⟩
theorem obsQ_eq {n : Nat} {fa : List He.Fa} {fn : List He.DefD} {xb : List (PySem.W.Frag → Bool)} {g : Addr → Option Obj} {s : Shared} (h : ∀ a, g a = s.heap.get? a) : obsQ n fa fn xb g = (hookQ n fa fn xb).obs s := by
  have e : g = s.heap.get? := funext h
  rw [e]
  rfl
/-- what the text says -/
structure Txt (fa : List He.Fa) (fn : List He.DefD) (xb : List (PySem.W.Frag → Bool)) (K : PySem.W.Frag) (mg : Str → Option Value) : Prop where
  s : SaysQ fa fn xb K
  h : ∃ h, K.In h ∧ h.Ns mainGlobals mg
section
variable {fa : List He.Fa} {fn : List He.DefD} {xb : List (PySem.W.Frag → Bool)} {K : PySem.W.Frag} {mg : Str → Option Value}
theorem Txt.fre (T : Txt fa fn xb K mg) (i : Nat) (x : Str) (e : fa[i]? = some (.free x)) : mg x = none := by
  obtain ⟨h, X, G⟩ := T.h
  exact He.free_ok X G (T.s.c.fact i e)
theorem Txt.glo (T : Txt fa fn xb K mg) (i : Nat) (x : Str) (e : fa[i]? = some (.glo x)) : mg x = some (.ref (He.ga K x)) := by
  obtain ⟨h, X, G⟩ := T.h
  exact He.glo_ok X G (T.s.c.fact i e)
theorem Txt.int (T : Txt fa fn xb K mg) (i : Nat) (x : Str) (z : Int) (e : fa[i]? = some (.int x z)) : ∃ t, mg x = some (.int z t) := by
  obtain ⟨h, X, G⟩ := T.h
  exact He.int_ok X G (T.s.c.fact i e)
theorem Txt.str (T : Txt fa fn xb K mg) (i : Nat) (x z : Str) (e : fa[i]? = some (.str x z)) : ∃ t, mg x = some (.str z t) := by
  obtain ⟨h, X, G⟩ := T.h
  exact He.str_ok X G (T.s.c.fact i e)
theorem Txt.own (T : Txt fa fn xb K mg) (i : Nat) {f : PySem.W.Frag → Bool} (e : xb[i]? = some f) : f K = true := T.s.x f (List.mem_of_getElem? e)
end
/-- plain values of the text -/
def dvD : He.Dv → Option D
  | .non => some .non
  | .bl b => some (.bl b)
  | .int i => some (.int i)
  | .str x => some (.str x)
  | _ => none
def dvDs : List He.Dv → Option (List D)
  | [] => some []
  | v :: vs => match dvD v, dvDs vs with
    | some d, some ds => some (d :: ds)
    | _, _ => none
theorem dvD_rep {K : PySem.W.Frag} {H : Hp} {av : Addr → Prop} {w : List Addr} : ∀ {v : He.Dv} {d : D}, dvD v = some d → Rep K H av w d (v.v K)
  | .non, _, h => by cases h; rfl
  | .bl _, _, h => by cases h; rfl
  | .int _, _, h => by cases h; rfl
  | .str _, _, h => by cases h; rfl
theorem dvDs_reps {K : PySem.W.Frag} {H : Hp} {av : Addr → Prop} {w : List Addr} : ∀ {vs : List He.Dv} {ds : List D}, dvDs vs = some ds → Reps K H av w ds (vs.map (He.Dv.v K))
  | [], _, h => by cases h; rfl
  | v :: vs, ds, h => by
    unfold dvDs at h
    cases h1 : dvD v with
    | none => rw [h1] at h; cases h
    | some d =>
      rw [h1] at h
      cases h2 : dvDs vs with
      | none => rw [h2] at h; cases h
      | some ds' =>
        rw [h2] at h
        cases h
        exact Reps.cons (dvD_rep h1) (dvDs_reps h2)
/-! constants of the text -/
section
variable {fa : List He.Fa} {fn : List He.DefD} {xb : List (PySem.W.Frag → Bool)} {X : Cx} {W : WX} {p : Pos}
theorem Txt.cint (T : Txt fa fn xb X.K X.mg) (i : Nat) {x : Str} {z : Int} (e : fa[i]? = some (.int x z)) (hg : Gl X x) (hd : (x == ("__debug__" : Str)) = false := by decide) : QEx X W (.Name x p) (qC (.int z)) := by
  obtain ⟨t, h⟩ := T.int i x z e
  exact q_glob (v := .int z) hg h ⟨t, rfl⟩ (fun _ _ _ => rfl) hd
theorem Txt.ctup (T : Txt fa fn xb X.K X.mg) (i j : Nat) {x : Str} (vs : List He.Dv) {ds : List D} (e : fa[i]? = some (.glo x)) (e2 : xb[j]? = some fun K => He.tupB K x vs) (e3 : dvDs vs = some ds) (hg : Gl X x) (hd : (x == ("__debug__" : Str)) = false := by decide) : QEx X W (.Name x p) (qC (.tup ds)) :=
  q_glob (v := .ref (He.ga X.K x)) hg (T.glo i x e) rfl (fun H av w => ⟨_, _, rfl, .inr fun H' => He.tupB_ok (T.own j e2) H', dvDs_reps e3⟩) hd
end
/-! ### a def keeps its contract -/
def FOk (P : Program) (wd : World) (K : PySem.W.Frag) (mg : Str → Option Value) (base : Heap) (k : Nat) (d : He.DefD) (ps : List Str) (F : FQ) : Prop :=
  ∃ fd, FunD K d.name d.qual d.params d.body d.scope (d.dvs K) (d.kws K) (He.fAd K d.at_) fd ∧ FnOk P wd K mg base (L2N.CX P wd) k (He.fAd K d.at_) fd ps (spQ K ps.length F)
section
variable {P : Program} {wd : World} {K : PySem.W.Frag} {mg : Str → Option Value} {base : Heap} {k : Nat} {d : He.DefD} {ps : List Str} {F F' : FQ}
theorem FOk.imp (h : FOk P wd K mg base k d ps F) (i : ∀ EX ds ob R, ds.length = ps.length → F' EX ds ob R → F EX ds ob R) : FOk P wd K mg base k d ps F' := by
  obtain ⟨fd, h1, h2⟩ := h
  exact ⟨fd, h1, FnOk.imp h2 (spQ_imp i)⟩
end
/-! ### keywords that give all -/
theorem rel_get {vs : List V} {us : List Value} (r : Vals vs us) (i : Nat) : RelV (vs.getD i .non) (us.getD i .none) := by
  induction r generalizing i with
  | nil => rfl
  | cons h _ ih =>
    cases i with
    | zero => exact h
    | succ i => exact ih i
theorem rep_get {K : PySem.W.Frag} {H : Hp} {av : Addr → Prop} {w : List Addr} : ∀ {ds : List D} {vs : List V}, Reps K H av w ds vs → ∀ i : Nat, Rep K H av w (ds.getD i .non) (vs.getD i .non)
  | [], _, r, i => by
    have r : _ = [] := r
    rw [r]
    rfl
  | d :: ds, _, r, 0 => by
    obtain ⟨x, t, rfl, h1, h2⟩ := r
    exact h1
  | d :: ds, _, r, i + 1 => by
    obtain ⟨x, t, rfl, h1, h2⟩ := r
    exact rep_get h2 i
section
variable {K : PySem.W.Frag} {x qual : Str} {params : Arguments} {body : List Stmt} {scope : Scope} {dvs : List V} {kws : List (Str × V)} {f : Addr} {fd fd2 : FuncData} {ps : List Str}
theorem kbindsA (F : FunD K x qual params body scope [] kws f fd) (n : Nat) (ks : List Str) (G : {α : Type} → α → List α → List α → List α)
    (hrel : ∀ {vs : List V} {us : List Value} {zs : List V} {ws : List Value}, Vals vs us → Vals zs ws → Vals (G .non vs zs) (G .none us ws))
    (h : ∀ (kV doc pm : Value) (an : Option Addr) (cdv ct : Value) (us ws : List Value), us.length = n → ws.length = ks.length → bindArgs (PySem.W.fnOf x qual params body scope .none kV doc pm an cdv ct) ⟨us, ks.zip ws⟩ = pure (ps.zip (G .none us ws))) :
    KBn K fd ps n ks (G Value.none) (G V.non) := by
  obtain ⟨oc, od, dV, kV, doc, pm, an, cdv, ct, osl, rfl, lk, hcd, hD, hK⟩ := F.ex
  rcases hD with ⟨_, rfl⟩ | ⟨e, _⟩
  · refine ⟨fun s us ws X l1 l2 => BindsTo.of_looks fun M => ?_, fun r1 r2 => hrel r1 r2⟩
    rw [h kV doc pm an cdv ct us ws l1 l2]
    exact PySem.W.Looks.of_pure rfl
  · exact absurd rfl e
theorem fd_same {b : Str} {c : Arguments} {q : List Stmt} {s : Scope} {dv : List V} {kv : List (Str × V)} {y : Str} (F2 : FunD K x qual params body scope dvs kws f fd2) (F : FunD K y b c q s dv kv f fd) : fd2 = fd := by
  obtain ⟨oc, od, dV, kV, doc, pm, an, cdv, ct, osl, e1, lk, _⟩ := F2.ex
  obtain ⟨oc', od', dV', kV', doc', pm', an', cdv', ct', osl', e2, lk', _⟩ := F.ex
  rw [lk] at lk'
  have z := Option.some.inj lk'
  injection z with z1 z2 z3 z4
  injection z3
end
/-! ### the end -/
section
variable {fd : FuncData}
theorem walk_ofQ {l : PySem.W.OpenLaw} {n k : Nat} {q : Program} {loose : List Str} {XP : (Str → Option Value) → Heap → Prop} {YP : World → Heap → Prop} {d : DefRec} {x : Str}
    (hn : l.most = some n) (hn2 : n ≤ sizeLine) (hdf : d.params.defaults = []) (hr : Room k callerA)
    (F : ∀ (w : World) (mg : Str → Option Value) (fa : Addr) (h : Heap), YP w h → h.Ns mainGlobals mg → mg d.name = some (.ref fa) →
      ∃ (K : PySem.W.Frag) (fd : FuncData) (C : FQ), K.In h ∧ (∀ (s : Shared) (u : Value), BindsTo s fd ⟨[u], []⟩ [(x, u)]) ∧
        (∀ ns : List Int, ns.length ≤ n → (∀ z ∈ ns, Builtin.Int.intBits z ≤ 1048576) → C (fun _ _ => False) [.frl (ns.map D.int)] [] fun r _ => r = .bl true) ∧
        ∀ base : Heap, K.In base → base.Ns mainGlobals mg → FnOk l.prog w K mg base (L2N.CX l.prog w) k fa fd [x] (spQ K 1 C)) :
    PySem.W.WalkO q loose XP YP l.row.toRowW d [] (fun f vs => PySem.call f vs) := by
  refine Att.attach_callB hn hdf fun w s₀ s₁ mg mb fa o pm cd doc a vs ns G Y ho hd hcd hmg hobj hints hlen hbits hg => ?_
  obtain ⟨K, fd, C, KX, hb, hsp, hF⟩ := F w mg fa _ Y G.T.g hmg
  refine law_call KX G.T.g G.T.b G.T.builtins G.T.nolimit hg hobj hints (Nat.le_trans hlen hn2) hr hF hb (fun H hO hS => ?_) fun H e s' => ?_
  · refine ⟨[], fun _ => none, [], [.frl (ns.map D.int)], _, _, ⟨rfl, List.nodup_nil, fun n a o h => ?_, fun a o h => ?_⟩, ?_, rfl, hsp ns hlen hbits, fun r ob' w' H' v hr hs he hv => ?_, fun e ob' w' H' cls d z => z.elim⟩
    · simp at h
    · cases h
    · refine Reps.one ⟨a, ns.map V.int, rfl, ?_, ?_⟩
      · rcases hS with hS | hS
        · exact .inl ⟨hS, fun z => by rcases z with z | ⟨o, z⟩ <;> cases z⟩
        · exact .inr fun _ => .inr hS
      · clear hlen hbits hS hints hobj
        induction ns with
        | nil => rfl
        | cons z zs ih => exact Reps.cons rfl ih
    · have hr : r = .bl true := hr
      subst hr
      exact hv
  · rintro ⟨a, B, H', cls, d, h⟩
    exact h.2.2.2.2.2.2.2
end
end QL
namespace QL
open PySem PySem.Spec PyProof.Rows L2
/-! ### the plain side: rewriting -/
theorem cmul {i j : Int} (a b : Nat) (ha : i.natAbs < 2 ^ a) (hb : j.natAbs < 2 ^ b) (h : a + b ≤ 900000) : CMulW i j :=
  wide_mul (a := a + 1) (b := b + 1) (Nat.lt_of_lt_of_le ha (Nat.pow_le_pow_right (by decide) (by omega))) (Nat.lt_of_lt_of_le hb (Nat.pow_le_pow_right (by decide) (by omega))) (by omega) (by omega) (by omega)
theorem log_lt {i : Int} (a : Nat) (ha : i.natAbs < 2 ^ a) (h : a < 9000) : i.natAbs.log2 < 9000 := by
  by_cases z : i.natAbs = 0
  · rw [z]
    decide
  · have := (Nat.log2_lt z).mpr ha
    omega
theorem ne0 {j : Int} (h : (j == 0) = false) : j ≠ 0 := by
  intro e
  subst e
  cases h
theorem ltn {i n : Nat} (h : Nat.blt i n = true) : i < n := Nat.le_of_ble_eq_true h
theorem szl {n : Nat} (h : Nat.ble n 16777216 = true) : n ≤ sizeLine := by
  rw [sizeLine_eq]
  exact Nat.le_of_ble_eq_true h
theorem szlt {n : Nat} (h : Nat.blt n 16777216 = true) : n < sizeLine := by
  rw [sizeLine_eq]
  exact Nat.le_of_ble_eq_true h
theorem pw {a b : Nat} (h : a ≤ b) : (2 : Int) ^ a ≤ 2 ^ b := by exact_mod_cast Nat.pow_le_pow_right (n := 2) (by decide) h
theorem pw_nat {a : Nat} {x : Int} (h0 : 0 ≤ x) (h : x < 2 ^ a) : x.natAbs < 2 ^ a := by
  have e : ((2 : Nat) ^ a : Nat) = ((2 : Int) ^ a) := by push_cast; rfl
  rw [← e] at h
  omega
/-- a place within -/
theorem atI_nat {α : Type} {xs : List α} {i : Nat} {x : α} (h : xs[i]? = some x) : L2.atI xs (i : Int) = some x := by
  have hi := (List.getElem?_eq_some_iff.mp h).1
  unfold L2.atI L2.ixN
  rw [if_pos (by omega), if_pos (by omega)]
  exact h
theorem ixN_nat {n i : Nat} (h : i < n) : L2.ixN n (i : Int) = some i := by
  unfold L2.ixN
  rw [if_pos (by omega), if_pos (by omega)]
  rfl
/-! ### the law's source of numbers -/
def RngO : Ob → Prop := fun o => ∃ (cs : List Int) (p c s : Int), o = .lst [.lst (cs.map .int), .int p, .int c, .int s] ∧ 0 ≤ p ∧ 0 ≤ s ∧ s < 2147483563
def RngAt (ob : List Ob) (r : Nat) : Prop := ∃ o, ob[r]? = some o ∧ RngO o
theorem RngAt.set {ob : List Ob} {r : Nat} {o : Ob} (h : RngAt ob r) (h' : RngO o) : RngAt (ob.set r o) r := by
  obtain ⟨u, h1, _⟩ := h
  exact ⟨o, by rw [List.getElem?_set_self (List.getElem?_eq_some_iff.mp h1).1], h'⟩
end QL
namespace QL
open PySem PySem.Spec PyProof.Rows L2
/-! ### slices -/
def cutL {α : Type} (xs : List α) (lo hi : Option Int) : List α := (xs.drop (HT.sIx xs.length 0 lo)).take (HT.sIx xs.length xs.length hi - HT.sIx xs.length 0 lo)
theorem cut_map {α : Type} {f : α → D} {xs : List α} {lo hi : Option Int} : cutD (xs.map f) lo hi = (cutL xs lo hi).map f := by
  unfold cutD cutL
  rw [List.length_map, List.map_take, List.map_drop]
theorem cut_len63 {α : Type} {xs : List α} : (cutL xs none (some 63)).length ≤ 63 := by
  unfold cutL
  rw [List.length_take]
  have e : HT.sIx xs.length xs.length (some 63) ≤ 63 := by
    show (if (63 : Int) < 0 then ((63 : Int) + (xs.length : Int)).toNat else min (63 : Int).toNat xs.length) ≤ 63
    rw [if_neg (by decide)]
    have : (63 : Int).toNat = 63 := rfl
    omega
  omega
theorem cut_from {α : Type} {xs : List α} {k : Int} (hk : 0 ≤ k) : cutL xs (some k) none = xs.drop k.toNat := by
  have e1 : HT.sIx xs.length 0 (some k) = min k.toNat xs.length := by
    show (if k < 0 then (k + (xs.length : Int)).toNat else min k.toNat xs.length) = _
    rw [if_neg (by omega)]
  have e2 : HT.sIx xs.length xs.length none = xs.length := rfl
  unfold cutL
  rw [e1, e2]
  by_cases h : k.toNat ≤ xs.length
  · rw [Nat.min_eq_left h]
    exact List.take_of_length_le (by rw [List.length_drop]; omega)
  · rw [Nat.min_eq_right (by omega), Nat.sub_self, List.take_zero, List.drop_eq_nil_of_le (by omega)]
theorem rngD_succ {lo : Int} {n : Nat} : rngD lo 1 (n + 1) = .int lo :: rngD (lo + 1) 1 n := by
  unfold rngD
  rw [List.range_succ_eq_map, List.map_cons, List.map_map]
  congr 1
  · congr 1
    omega
  · apply List.map_congr_left
    intro a _
    show D.int _ = D.int _
    congr 1
    push_cast
    omega
theorem rngD_zero {lo c : Int} : rngD lo c 0 = [] := rfl
/-! ### data -/
def D.plain : Nat → D → Bool
  | _, .non => true
  | _, .bl _ => true
  | _, .int _ => true
  | _, .str s => SeqAt.shaped (.str s)
  | n + 1, .tup xs => decide (xs.length ≤ sizeLine) && xs.all (D.plain n)
  | n + 1, .lst xs => decide (xs.length ≤ sizeLine) && xs.all (D.plain n)
  | _, _ => false
theorem plain_pys {n : Nat} (ih : ∀ d : D, d.plain n = true → ∃ p, d.py = some p ∧ p.canLay0 = true ∧ p.depth ≤ n) : ∀ xs : List D, xs.all (D.plain n) = true → ∃ ps, D.pys xs = some ps ∧ PyData.canLayAll0 ps = true ∧ PyData.depthAll ps ≤ n
  | [], _ => ⟨[], rfl, rfl, Nat.zero_le _⟩
  | x :: xs, h => by
    rw [List.all_cons, Bool.and_eq_true] at h
    obtain ⟨p, p1, p2, p3⟩ := ih x h.1
    obtain ⟨ps, q1, q2, q3⟩ := plain_pys ih xs h.2
    refine ⟨p :: ps, ?_, ?_, ?_⟩
    · unfold D.pys
      rw [p1, q1]
      rfl
    · unfold PyData.canLayAll0
      rw [p2, q2]
      rfl
    · unfold PyData.depthAll
      omega
theorem plain_py : ∀ (n : Nat) (d : D), d.plain n = true → ∃ p, d.py = some p ∧ p.canLay0 = true ∧ p.depth ≤ n := by
  have base : ∀ (n : Nat) (d : D), (match d with | .tup _ => False | .lst _ => False | _ => True) → d.plain n = true → ∃ p, d.py = some p ∧ p.canLay0 = true ∧ p.depth ≤ n := by
    intro n d hd h
    cases d with
    | non => exact ⟨_, rfl, by simp [PyData.canLay0], by simp [PyData.depth]⟩
    | bl b => exact ⟨_, rfl, by simp [PyData.canLay0], by simp [PyData.depth]⟩
    | int i => exact ⟨_, rfl, by simp [PyData.canLay0], by simp [PyData.depth]⟩
    | str s =>
      have h : SeqAt.shaped (.str s) = true := by cases n <;> exact h
      exact ⟨_, rfl, SeqAt.canLay_of_shaped h, by simp [PyData.depth]⟩
    | tup xs => exact hd.elim
    | lst xs => exact hd.elim
    | _ => cases n <;> cases h
  intro n
  induction n with
  | zero =>
    intro d h
    cases d with
    | tup xs => cases h
    | lst xs => cases h
    | _ => exact base 0 _ trivial h
  | succ n ih =>
    intro d h
    cases d with
    | tup xs =>
      have h : (decide (xs.length ≤ sizeLine) && xs.all (D.plain n)) = true := h
      obtain ⟨ps, p1, p2, p3⟩ := plain_pys ih xs (Bool.and_eq_true_iff.mp h).2
      refine ⟨.tuple ps, ?_, ?_, ?_⟩
      · unfold D.py
        rw [p1]
        rfl
      · unfold PyData.canLay0
        exact p2
      · unfold PyData.depth
        omega
    | lst xs =>
      have h : (decide (xs.length ≤ sizeLine) && xs.all (D.plain n)) = true := h
      obtain ⟨ps, p1, p2, p3⟩ := plain_pys ih xs (Bool.and_eq_true_iff.mp h).2
      refine ⟨.list ps, ?_, ?_, ?_⟩
      · unfold D.py
        rw [p1]
        rfl
      · unfold PyData.canLay0
        exact p2
      · unfold PyData.depth
        omega
    | _ => exact base _ _ trivial h
/-- plain data is equal to itself -/
theorem plain_cmp {n : Nat} {d : D} (h : d.plain n = true) (hn : n ≤ 64) : ∃ p, Cmp d p ∧ PyData.eqv p p = true := by
  obtain ⟨p, p1, p2, p3⟩ := plain_py n d h
  refine ⟨p, ⟨p1, ?_⟩, SeqAt.eqv_refl p p2⟩
  unfold SeqAt.shaped
  rw [p2, decide_eq_true (by omega)]
  rfl
theorem plain_lst {n : Nat} {xs : List D} (h1 : xs.length ≤ sizeLine) (h2 : ∀ x ∈ xs, x.plain n = true) : (D.lst xs).plain (n + 1) = true := by
  show (decide (xs.length ≤ sizeLine) && xs.all (D.plain n)) = true
  rw [decide_eq_true h1, List.all_eq_true.mpr h2]
  rfl
theorem plain_tup {n : Nat} {xs : List D} (h1 : xs.length ≤ sizeLine) (h2 : ∀ x ∈ xs, x.plain n = true) : (D.tup xs).plain (n + 1) = true := by
  show (decide (xs.length ≤ sizeLine) && xs.all (D.plain n)) = true
  rw [decide_eq_true h1, List.all_eq_true.mpr h2]
  rfl
theorem plain_int {n : Nat} {i : Int} : (D.int i).plain n = true := by cases n <;> rfl
theorem plain_ints {n : Nat} {xs : List Int} (h : xs.length ≤ sizeLine) : (D.lst (xs.map .int)).plain (n + 1) = true := plain_lst (by rw [List.length_map]; exact h) fun x hx => by
  obtain ⟨i, _, rfl⟩ := List.mem_map.mp hx
  exact plain_int
/-! ### values -/
/-- the greatest common divisor, by remainders -/
theorem gcd_step {x y : Int} (hy : 0 < y) (hx : 0 ≤ x) : Int.gcd y (x.fmod y) = Int.gcd x y := by
  rw [Int.fmod_eq_emod_of_nonneg _ (by omega)]
  have h1 : (x % y).natAbs = x.natAbs % y.natAbs := by
    obtain ⟨a, rfl⟩ := Int.eq_ofNat_of_zero_le hx
    obtain ⟨b, rfl⟩ := Int.eq_ofNat_of_zero_le (Int.le_of_lt hy)
    rfl
  unfold Int.gcd
  rw [h1, Nat.gcd_comm x.natAbs, Nat.gcd_rec y.natAbs x.natAbs, Nat.gcd_comm]
theorem gcd_abs {a b : Int} : Int.gcd (if a < 0 then -a else a) (if b < 0 then -b else b) = Int.gcd a b := by
  unfold Int.gcd
  congr 1 <;> split <;> omega
theorem gcd_zero' {x : Int} (hx : 0 ≤ x) : (Int.gcd x 0 : Int) = x := by
  unfold Int.gcd
  rw [show (0 : Int).natAbs = 0 from rfl, Nat.gcd_zero_right]
  omega
def valF (n d : Int) : Int × Int := ((n.fmod d).fdiv (Int.gcd (n.fmod d) d), d.fdiv (Int.gcd (n.fmod d) d))
def vD (a : Int × Int) : D := .tup [.int a.1, .int a.2]
/-- a value of less than k bits -/
def VB (k : Nat) (a : Int × Int) : Prop := 0 ≤ a.1 ∧ a.1 < a.2 ∧ a.2 < 2 ^ k
theorem VB.mono {j k : Nat} {a : Int × Int} (h : VB j a) (l : j ≤ k) : VB k a := by
  have e : (2 : Int) ^ j ≤ 2 ^ k := by
    have := Nat.pow_le_pow_right (n := 2) (by decide) l
    exact_mod_cast this
  exact ⟨h.1, h.2.1, by have := h.2.2; omega⟩
theorem gcd_pos {n d : Int} (hd : 1 ≤ d) : 1 ≤ (Int.gcd n d : Int) := by
  have : 0 < Int.gcd n d := Int.gcd_pos_of_ne_zero_right _ (by omega)
  omega
theorem gcd_le {n d : Int} (hd : 1 ≤ d) : (Int.gcd n d : Int) ≤ d := Int.le_of_dvd (by omega) (Int.gcd_dvd_right ..)
theorem valF_ok {n d : Int} {k : Nat} (hd : 1 ≤ d) (hk : d < 2 ^ k) : VB k (valF n d) := by
  have h0 := Int.fmod_nonneg_of_pos n (show 0 < d by omega)
  have h1 := Int.fmod_lt_of_pos n (show 0 < d by omega)
  have g1 := gcd_pos (n := n.fmod d) hd
  have d1 : (Int.gcd (n.fmod d) d : Int) ∣ n.fmod d := Int.gcd_dvd_left ..
  have d2 : (Int.gcd (n.fmod d) d : Int) ∣ d := Int.gcd_dvd_right ..
  unfold valF VB
  generalize (Int.gcd (n.fmod d) d : Int) = g at *
  obtain ⟨a, ha⟩ := d1
  obtain ⟨b, hb⟩ := d2
  have ea : (n.fmod d).fdiv g = a := by
    rw [ha]
    exact Int.mul_fdiv_cancel_left _ (by omega)
  have eb : d.fdiv g = b := by
    rw [hb]
    exact Int.mul_fdiv_cancel_left _ (by omega)
  show 0 ≤ (n.fmod d).fdiv g ∧ (n.fmod d).fdiv g < d.fdiv g ∧ d.fdiv g < 2 ^ k
  rw [ea, eb]
  rw [ha] at h0 h1
  have ha0 : 0 ≤ a := by
    rcases Int.lt_or_le a 0 with z | z
    · have := Int.mul_neg_of_pos_of_neg (show 0 < g by omega) z
      omega
    · exact z
  have hab : a < b := by
    rw [hb] at h1
    exact Int.lt_of_mul_lt_mul_left h1 (by omega)
  refine ⟨ha0, hab, ?_⟩
  have : b ≤ g * b := by
    have := Int.mul_le_mul_of_nonneg_right g1 (show 0 ≤ b by omega)
    rwa [Int.one_mul] at this
  omega
/-- less than so many bits -/
theorem VB.den {k : Nat} {a : Int × Int} (h : VB k a) : a.2.natAbs < 2 ^ k := by
  have e : ((2 : Nat) ^ k : Nat) = ((2 : Int) ^ k) := by push_cast; rfl
  have h1 := h.1
  have h2 := h.2.1
  have h3 := h.2.2
  rw [← e] at h3
  omega
theorem VB.num {k : Nat} {a : Int × Int} (h : VB k a) : a.1.natAbs < 2 ^ k := by
  have := h.den
  have h1 := h.1
  have h2 := h.2.1
  omega
def plF (a b : Int × Int) : Int × Int := valF (a.1 * b.2 + b.1 * a.2) (a.2 * b.2)
def muF (n : Int) (a : Int × Int) : Int × Int := valF (n * a.1) a.2
theorem two_add {j k : Nat} : (2 : Int) ^ j * 2 ^ k = 2 ^ (j + k) := by rw [Int.pow_add]
theorem plF_ok {j k : Nat} {a b : Int × Int} (ha : VB j a) (hb : VB k b) : VB (j + k) (plF a b) := by
  have p : 0 < a.2 := by have := ha.1; have := ha.2.1; omega
  have q : 0 < b.2 := by have := hb.1; have := hb.2.1; omega
  refine valF_ok ?_ ?_
  · have := Int.mul_pos p q
    omega
  · rw [← two_add]
    exact Int.lt_of_lt_of_le (Int.mul_lt_mul_of_pos_right ha.2.2 q) (Int.mul_le_mul_of_nonneg_left (Int.le_of_lt hb.2.2) (Int.le_of_lt (Int.pow_pos (by decide))))
theorem muF_ok {k : Nat} {n : Int} {a : Int × Int} (ha : VB k a) : VB k (muF n a) := valF_ok (by have := ha.1; have := ha.2.1; omega) ha.2.2
/-- a sum of multiples -/
def weF (r : Int × Int) : List (Int × (Int × Int)) → Int × Int
  | [] => r
  | p :: l => weF (plF r (muF p.1 p.2)) l
theorem vD_plain {a : Int × Int} {n : Nat} : (vD a).plain (n + 1) = true := by
  have e : (D.int a.1).plain n = true ∧ (D.int a.2).plain n = true := by cases n <;> exact ⟨rfl, rfl⟩
  have h := sizeLine_eq
  simp [vD, D.plain, e.1, e.2, h]
def isVal (a : Int × Int) : Bool := decide (0 ≤ a.1) && (decide (a.1 < a.2) && decide ((Int.gcd a.1 a.2 : Int) = 1))
/-- the parts of a value -/
theorem valF_parts {n d : Int} (hd : 1 ≤ d) : ∃ g a b : Int, 1 ≤ g ∧ n.fmod d = g * a ∧ d = g * b ∧ valF n d = (a, b) ∧ 0 ≤ a ∧ a < b ∧ Int.gcd a b = 1 := by
  have h0 := Int.fmod_nonneg_of_pos n (show 0 < d by omega)
  have h1 := Int.fmod_lt_of_pos n (show 0 < d by omega)
  have g1 := gcd_pos (n := n.fmod d) hd
  have d1 : (Int.gcd (n.fmod d) d : Int) ∣ n.fmod d := Int.gcd_dvd_left ..
  have d2 : (Int.gcd (n.fmod d) d : Int) ∣ d := Int.gcd_dvd_right ..
  obtain ⟨a, ha⟩ := d1
  obtain ⟨b, hb⟩ := d2
  have ea : (n.fmod d).fdiv (Int.gcd (n.fmod d) d) = a := by
    conv => lhs; arg 1; rw [ha]
    exact Int.mul_fdiv_cancel_left _ (by omega)
  have eb : d.fdiv (Int.gcd (n.fmod d) d) = b := by
    conv => lhs; arg 1; rw [hb]
    exact Int.mul_fdiv_cancel_left _ (by omega)
  have hg : (Int.gcd (n.fmod d) d : Int) * Int.gcd a b = Int.gcd (n.fmod d) d := by
    have z : Int.gcd ((Int.gcd (n.fmod d) d : Int) * a) ((Int.gcd (n.fmod d) d : Int) * b) = Int.gcd (n.fmod d) d * Int.gcd a b := by
      rw [Int.gcd_mul_left]
      rfl
    rw [← ha, ← hb] at z
    exact_mod_cast z.symm
  refine ⟨Int.gcd (n.fmod d) d, a, b, g1, ha, hb, ?_, ?_, ?_, ?_⟩
  · unfold valF
    rw [ea, eb]
  · rw [ha] at h0
    rcases Int.lt_or_le a 0 with z | z
    · have := Int.mul_neg_of_pos_of_neg (show 0 < (Int.gcd (n.fmod d) d : Int) by omega) z
      omega
    · exact z
  · have h1 : n.fmod d < d := h1
    rw [ha] at h1
    conv at h1 => rhs; rw [hb]
    exact Int.lt_of_mul_lt_mul_left h1 (by omega)
  · generalize (Int.gcd (n.fmod d) d : Int) = g at *
    have e : g * (Int.gcd a b : Int) = g * 1 := by rw [hg, Int.mul_one]
    have := Int.eq_of_mul_eq_mul_left (by omega) e
    exact_mod_cast this
theorem isVal_valF {n d : Int} (hd : 1 ≤ d) : isVal (valF n d) = true := by
  obtain ⟨g, a, b, _, _, _, e, h1, h2, h3⟩ := valF_parts (n := n) hd
  rw [e]
  unfold isVal
  rw [decide_eq_true (show 0 ≤ (a, b).1 from h1), decide_eq_true (show (a, b).1 < (a, b).2 from h2), decide_eq_true (show (Int.gcd (a, b).1 (a, b).2 : Int) = 1 by show (Int.gcd a b : Int) = 1; rw [h3]; rfl)]
  rfl
theorem valF_dvd {n d q : Int} (hd : 1 ≤ d) (h : n = d * q) : valF n d = (0, 1) := by
  have e : n.fmod d = 0 := by
    rw [h]
    exact Int.mul_fmod_right ..
  unfold valF
  rw [e]
  have g : (Int.gcd 0 d : Int) = d := by
    rw [Int.gcd_zero_left]
    omega
  rw [g, Int.zero_fdiv, Int.fdiv_self (by omega)]
theorem valF_one {n : Int} : valF n 1 = (0, 1) := valF_dvd (q := n) (by omega) (by omega)
theorem muF_zero {a : Int × Int} (h : 1 ≤ a.2) : muF 0 a = (0, 1) := valF_dvd (q := 0) h (by omega)
theorem plF_neg {k : Nat} {a : Int × Int} (h : VB k a) : plF a (muF (-1) a) = (0, 1) := by
  have hd : 1 ≤ a.2 := by have := h.1; have := h.2.1; omega
  obtain ⟨g, r, b, h1, h2, h3, e, h4, h5, _⟩ := valF_parts (n := -1 * a.1) hd
  have e' : muF (-1) a = (r, b) := e
  unfold plF
  rw [e']
  show valF (a.1 * b + r * a.2) (a.2 * b) = (0, 1)
  have hb : 1 ≤ b := by omega
  have hab : 1 ≤ a.2 * b := by
    have := Int.mul_pos (show 0 < a.2 by omega) (show 0 < b by omega)
    omega
  -- a.1 + g r is a multiple of a.2
  have hm : ∃ q, a.1 + g * r = a.2 * q := by
    rw [← h2]
    refine ⟨-((-1 * a.1).fdiv a.2), ?_⟩
    have := Int.mul_fdiv_add_fmod (-1 * a.1) a.2
    rw [Int.mul_neg]
    omega
  obtain ⟨q, hq⟩ := hm
  refine valF_dvd (q := q) hab ?_
  have z : a.1 * b + r * a.2 = (a.1 + g * r) * b := by
    conv => lhs; rhs; rw [h3]
    rw [Int.add_mul]
    congr 1
    rw [← Int.mul_assoc, Int.mul_comm r g]
  rw [z, hq, Int.mul_assoc, Int.mul_comm q b, ← Int.mul_assoc]
end QL
namespace QL
open PySem PySem.Spec PyProof.Rows L2
/-! ### except clauses that name one class or two, each with a name for the exception -/
/-- the test of a clause: cs are the classes -/
def Test (X : Cx) (t : Expr) (cs : List Value) : Prop := ∀ (a : Addr) (oe : Obj) (pn pins : List (Addr × Obj)) (σ : L2.St) (H : Hp) (s : Shared) (cls : Value) (b : Bool) (Q : Value → Shared → Prop) (E : Value → Shared → Prop),
  Inv (X.suite a pn) pins σ H s → s.heap.get? a = some oe → oe.cls = cls → PySem.W.exmAny X.K cls cs = some b →
  (∀ (c : Value) (h' : Heap), (∀ x o, s.heap.get? x = some o → h'.get? x = some o) → PySem.W.Looks (model X.prog X.w) h' (excMatches (.ref a) c) b → Q c { s with heap := h' }) →
  wpAny (model X.prog X.w) (X.A.mark (some (.ref a))) (eval t X.env) Q E s
theorem looks_cls {M : Model} {h : Heap} {a : Addr} {oe : Obj} {cls : Value} (ha : h.get? a = some oe) (hc : oe.cls = cls) : PySem.W.Looks M h (typeOf (.ref a)) cls := fun A Q E s k q => wpAny_typeOf_ref (k _ _ ha) (by rw [hc]; exact q)
theorem test_name {X : Cx} {x : Str} {c : Value} {p : Pos} (hc : Names X x c) : Test X (.Name x p) [c] := by
  intro a oe pn pins σ H s cls b Q E I ha he hb k
  obtain ⟨b1, d1, x1, y1, z1⟩ := PySem.W.exmAny_cons hb
  have y1 : some false = some d1 := y1
  cases y1
  have hx : PySem.W.exmOne X.K cls c = some b := by rw [x1, z1, Bool.or_false]
  have go := k c s.heap (fun _ _ h => h) (PySem.W.exm_one (M := model X.prog X.w) I.kIn (looks_cls ha he) hx)
  obtain ⟨hg, hdbg, hm | ⟨hm, hv, hnn⟩⟩ := hc
  · exact ld_glob (X := X.suite a pn) I hg hm go hdbg
  · exact ld_blt (X := X.suite a pn) I hg hm hv go hnn hdbg
theorem test_two {X : Cx} {x y : Str} {c d : Value} {p p' tp : Pos} {kk : Nat} (hc : Names X x c) (hd : Names X y d) : Test X (.Tuple [.Name x p, .Name y p'] kk tp) [c, d] := by
  intro a oe pn pins σ H s cls b Q E I ha he hb k
  have ld : ∀ {z : Str} {u : Value} {q : Pos} {R : Value → Shared → Prop}, Names X z u → R u s → wpAny (model X.prog X.w) (X.A.mark (some (.ref a))) (eval (.Name z q) X.env) R E s := by
    intro z u q R hz hR
    obtain ⟨hg, hdbg, hm | ⟨hm, hv, hnn⟩⟩ := hz
    · exact ld_glob (X := X.suite a pn) I hg hm hR hdbg
    · exact ld_blt (X := X.suite a pn) I hg hm hv hR hnn hdbg
  refine Tuple_ (spliced_more (ld hc (spliced_more (ld hd (spliced_none ?_)))))
  have kp : ∀ x o, s.heap.get? x = some o → (s.heap.push { cls := .type "tuple", dict := none, data := .seq [c, d].toArray }).get? x = some o := fun _ _ e => Heap.get?_push_of_some _ e
  refine wpAny_newObj_type (k _ _ kp ?_)
  exact PySem.W.exm_tup2 (I.kIn.keeps kp) (looks_cls (kp _ _ ha) he) (Heap.get?_push_size _ rfl) hb
abbrev Suite := Addr → Value → Option Addr → TS
/-- the name goes behind the suite -/
abbrev offEnds (i : Nat) (D : Ends) : Ends := ⟨fun σ' H' => D.nx (σ'.set i none) H', D.rt, fun σ' H' => D.bk (σ'.set i none) H', fun σ' H' => D.ct (σ'.set i none) H'⟩
def wManyQ (K : PySem.W.Frag) (Wout : WX) (D : Ends) : List (List Value × Nat × Suite) → WX
  | [] => Wout
  | (cs, i, ts) :: r => fun cls d σ H => ∃ b, PySem.W.exmAny K cls cs = some b ∧ (b = true → ∀ a, H a = none → ts a cls d (offEnds i D) (σ.set i (some (.ref a))) H) ∧ (b = false → wManyQ K Wout D r cls d σ H)
inductive HdsQ (X : Cx) : List ExceptHandler → List (List Value × Nat × Suite) → Prop
  | nil : HdsQ X [] []
  | cons {t : Expr} {cs : List Value} {i : Nat} {n : Str} {ts : Suite} {b₀ : Stmt} {suite : List Stmt} {pos' : Pos} {hds : List ExceptHandler} {l : List (List Value × Nat × Suite)} (ht : Test X t cs) (hi : X.N[i]? = some n) (hl : X.env.kindOf n = some .local)
      (hsu : ∀ (a : Addr) (oe : Obj) (cls : Value) (d : Option Addr) (pn : List (Addr × Obj)), L2N.Zn cls d oe → (∃ vs : Array Value, oe.data = .fields vs) → PSs (X.suite a ((a, oe) :: pn)) (b₀ :: suite) (ts a cls d))
      (r : HdsQ X hds l) : HdsQ X (.ExceptHandler (some t) (some n) (b₀ :: suite) pos' :: hds) ((cs, i, ts) :: l)
theorem flying_more {B h h' : Heap} {l : List Env} {a : Addr} {Z : Obj → Prop} (x : HandSPX.FlyingZ B l a Z h) (k : ∀ b o, h.get? b = some o → h'.get? b = some o) : HandSPX.FlyingZ B l a Z h' := by
  obtain ⟨x1, x2, x3, oe, vs, T, oT, ts, e1, e2, e3, e4, e5, e6, e7, e8, e9⟩ := x
  exact ⟨fun b o q => k b o (x1 b o q), x2, x3.of_keeps fun b o q _ => ⟨o, k b o q, rfl⟩, oe, vs, T, oT, ts, k _ _ e1, e2, e3, e4, e5, e6, k _ _ e7, e8, e9⟩
section
variable {X : Cx} {body : List Stmt} {h₀ : ExceptHandler} {hds : List ExceptHandler} {l : List (List Value × Nat × Suite)} {pos : Pos} {tb : WX → TS} {Wout : WX}
theorem ps_tryQ (hs : X.stack = X.env :: X.outer) (hf : X.env.frame = some X.env.locals) (hN : X.N.Nodup) (tk : L2N.Takes X Wout)
    (hb : ∀ (W : WX) (pn : List (Addr × Obj)) (xe : Value → Shared → Prop), L2N.Takes (X.tr pn xe) W → PassesOwn (model X.prog X.w) X.A X.env xe → PSs (X.tr pn xe) body (tb W))
    (hh : HdsQ X (h₀ :: hds) l) : PS X (.Try body (h₀ :: hds) [] [] pos) (fun D σ H => tb (wManyQ X.K Wout D l) D σ H) := by
  constructor
  intro pins s σ H D I h
  have ok := I.ok
  have hfr : X.A.frames = some (X.env :: X.outer) := by rw [ok.frames, hs]
  apply wpAny_Try_except
  let catch_ : Value → Shared → Prop := fun e s1 => wpAny (model X.prog X.w) X.A (noteFrame e X.env) (fun _ s2 => wpAny (model X.prog X.w) X.A (setFlight e none)
    (fun _ s3 => wpAny (model X.prog X.w) X.A (handleBy e X.env (h₀ :: hds)) (SP X pins D) X.xe s3) X.xe s2) X.xe s1
  have main := hb (wManyQ X.K Wout D l) (X.pn ++ pins) catch_ (fun u s' xx => ?_) PassesOwn.looking
  · refine wpAny_mono (main.run [] s σ H D (I.toTry _) h) (fun f s1 hsp => ?_) (fun e s1 he => he)
    match f, hsp with
    | .next, ⟨σ1, H1, J1, q⟩ => exact wpAny_execs_nil ⟨σ1, H1, J1.ofTry ok, q⟩
    | .brk, ⟨σ1, H1, J1, q⟩ => exact ⟨σ1, H1, J1.ofTry ok, q⟩
    | .cont, ⟨σ1, H1, J1, q⟩ => exact ⟨σ1, H1, J1.ofTry ok, q⟩
    | .ret u, ⟨v, σ1, H1, J1, r, q⟩ => exact ⟨v, σ1, H1, J1.ofTry ok, r, q⟩
  · obtain ⟨a, B, sI, pins', σ1, H1, cls, d, rfl, J', nb, up, sky, na, os, ag, w⟩ := xx
    have J : Inv X pins σ1 H1 sI := J'.ofTry ok
    have sky1 : Sky B (X.env :: X.outer) a (L2N.Zn cls d) X.env.locals s'.heap := by
      rw [← hs]
      exact sky
    show wpAny _ X.A (noteFrame (.ref a) X.env) _ _ _
    apply L2N.Sky.land L2N.Zn.steady hfr hf sky1
    intro h3 fl3 up3
    have out : ∀ {h4 : Heap} {oe : Obj} {vs : Array Value}, HandSPX.FlyingZ B (X.env :: X.outer) a (L2N.Zn cls d) h4 → h4.get? a = some oe → oe.data = .fields vs → a ∉ frs (X.env :: X.outer) := by
      intro h4 oe vs fl e1 e2 hm
      obtain ⟨_, o', e', hnf⟩ := fl.2.2.1.mem hm
      rw [e1] at e'
      cases e'
      exact hnf _ e2
    obtain ⟨oe3, vs3, he3, _, hd3⟩ := fl3.there
    have nfr := out fl3 he3 hd3
    have nL : a ≠ X.env.locals := fun z => nfr (List.mem_filterMap.mpr ⟨X.env, List.mem_cons_self, by rw [hf, z]⟩)
    have nF : a ∉ X.fs := by
      intro hm
      obtain ⟨e, he, q⟩ := List.mem_filterMap.mp hm
      exact nfr (List.mem_filterMap.mpr ⟨e, List.mem_cons_of_mem _ he, q⟩)
    -- the clauses, at any heap where it flies
    have go : ∀ {hds' : List ExceptHandler} {l' : List (List Value × Nat × Suite)}, HdsQ X hds' l' → wManyQ X.K Wout D l' cls d σ1 H1 → ∀ (hc : Heap), HandSPX.FlyingZ B (X.env :: X.outer) a (L2N.Zn cls d) hc → s'.heap.UpToSlots hc →
        wpAny (model X.prog X.w) X.A (handleBy (.ref a) X.env hds') (SP X pins D) X.xe { s' with heap := hc } := by
      intro hds' l' hk
      induction hk with
      | nil =>
        intro w hc fl upc
        refine wpAny_handleBy_nil ?_
        obtain ⟨_, _, _, oe, vs, T, oT, ts', he, _, hd, h1, _⟩ := id fl
        unfold PySem.passOn
        refine wpAny_bind (wpAny_field he hd h1 ?_)
        rw [if_neg (show ¬ ((Value.ref T == Value.none) = true) from by simp)]
        have fin : wpAny (model X.prog X.w) X.A (setFlight (.ref a) X.env.frame)
            (fun _ s4 => wpAny (model X.prog X.w) X.A (throw (.ref a) : Sem Flow) (SP X pins D) X.xe s4) X.xe { s' with heap := hc } := by
          rw [hf]
          apply HandSPX.setFlight_upZ fl
          intro h4 hh4 up4
          apply wpAny_throw
          apply tk
          exact ⟨a, B, sI, pins, σ1, H1, cls, d, rfl, J, nb, (up.trans upc).trans up4, .inr (.inr (by rw [hs]; exact hh4)), na, os, ag, w⟩
        first
          | exact wpAny_bind (wpAny_pure (wpAny_bind fin))
          | exact wpAny_bind fin
      | @cons t cs i n ts b₀ suite pos' hds2 l2 ht hi hl hsu r ih =>
        intro w hc fl upc
        obtain ⟨b, hb1, hyes, hno⟩ := w
        obtain ⟨oe, vs, he, hz, hd⟩ := fl.there
        have Jc : Inv X pins σ1 H1 { s' with heap := hc } := J.landed nb fl.1 (up.trans upc) os ag
        have Sc := Jc.suite he hd na nL nF
        refine wpAny_handleBy_cons (codeAny_handlers_test ?_) (by intro q; cases q)
        refine ht a oe _ _ σ1 H1 _ cls b _ _ Sc he hz.1 hb1 fun c h' kp LM => LM.here ?_
        have fl' := flying_more fl kp
        have up' : s'.heap.UpToSlots h' := upc.trans (Heap.UpToSlots.of_keeps kp)
        cases b with
        | false =>
          show wpAny _ X.A (handleBy (.ref a) X.env hds2) _ _ _
          exact ih (hno rfl) h' fl' up'
        | true =>
          apply codeAny_handlers_suite_as
          apply HandSPX.lands_againZ fl'
          intro h4 fl4 up4
          obtain ⟨oe4, vs4, he4, hz4, hd4⟩ := fl4.there
          have J4 : Inv X pins σ1 H1 { s' with heap := h4 } := J.landed nb fl4.1 ((up.trans up').trans up4) os ag
          have S4 := J4.suite he4 hd4 na nL nF
          refine store_ok (X := X.suite a ((a, oe4) :: (X.pn ++ pins))) (v := .ref a) S4 hN hi (.inl hl) rfl (fun s5 S5 => ?_) (.inr hl)
          refine wpAny_mono ((hsu a oe4 cls d (X.pn ++ pins) hz4 ⟨_, hd4⟩).run [] s5 _ H1 _ S5 (hyes rfl a na)) (fun f s6 hsp => ?_) (fun _ _ z => False.elim z)
          have end_ : ∀ {σ6 : L2.St} {H6 : Hp} {R : Shared → Prop}, Inv (X.suite a ((a, oe4) :: (X.pn ++ pins))) [] σ6 H6 s6 → (∀ s7, Inv X pins (σ6.set i none) H6 s7 → R s7) →
              wpAny (model X.prog X.w) X.A (do bindName X.env n .none; unbindBehindTheSuite X.env n pos') (fun _ s7 => R s7) X.xe s6 := fun S6 hq => gone_ok (S6.unsuite ok) hN hi hl hq
          match f, hsp with
          | .next, ⟨σ6, H6, S6, q6⟩ => exact end_ S6 fun s7 J7 => ⟨_, _, J7, q6⟩
          | .brk, ⟨σ6, H6, S6, q6⟩ => exact end_ S6 fun s7 J7 => ⟨_, _, J7, q6⟩
          | .cont, ⟨σ6, H6, S6, q6⟩ => exact end_ S6 fun s7 J7 => ⟨_, _, J7, q6⟩
          | .ret u, ⟨v6, σ6, H6, S6, r6, q6⟩ => exact end_ S6 fun s7 J7 => ⟨_, _, _, J7, r6, q6⟩
    exact go hh w h3 fl3 up3
end
end QL
namespace QL
open PySem PySem.Spec PyProof.Rows L2
/-! ### exceptions of the text's own classes -/
def oexB (K : PySem.W.Frag) (C : Addr) : Bool := (match K.lookup C with
  | some ⟨.type "type", _, .cls cd, sl⟩ => (match cd.mro, sl.toList with
    | .ref C' :: bm, [_, _, _, _, some (.builtin n), _] => C' == C && (n == "ValueError.__new__" && (!cd.hasDel && (cd.hasDict && PySem.HandSPX.refsVE bm)))
    | _, _ => false)
  | _ => false) && (decide (PySem.W.findIn K (.ref C) "__setattr__" = some (some (.builtin "object.__setattr__"))) && (decide (PySem.W.subIn K (.ref C) (.type "BaseException") = some true) &&
  (decide (PySem.W.typeIn K (.ref C) = some (.type "type")) && PySem.W.keepIn K (.ref C))))
theorem oexB_ok {K : PySem.W.Frag} {C : Addr} (h : oexB K C = true) : OexC K C := by
  unfold oexB at h
  rw [Bool.and_eq_true, Bool.and_eq_true, Bool.and_eq_true, Bool.and_eq_true] at h
  obtain ⟨q, h2, h3, h4, h5⟩ := h
  refine ⟨?_, of_decide_eq_true h2, of_decide_eq_true h3, of_decide_eq_true h4, h5⟩
  split at q
  · rename_i dd cd sl ho
    split at q
    · rename_i C' bm k0 k1 k2 k3 n k5 hm hs
      simp only [Bool.and_eq_true, beq_iff_eq, Bool.not_eq_true'] at q
      obtain ⟨rfl, rfl, hdel, hdct, hr⟩ := q
      obtain ⟨nm, bs, mro, ns, qn, hd, sn, sub, ab, col, del⟩ := cd
      dsimp only at hm hdel hdct
      subst hm hdel hdct
      have hsl : sl = #[k0, k1, k2, k3, some (.builtin "ValueError.__new__"), k5] := by
        obtain ⟨l⟩ := sl
        simp only at hs
        rw [hs]
      subst hsl
      exact ⟨nm, qn, ns, bs, bm, sn, sub, ab, col, dd, k0, k1, k2, k3, k5, ho, hr⟩
    · cases q
  · cases q
section
variable {X : Cx} {e : Expr} {es : List Expr} {ta : TA} {p pos : Pos}
theorem mk_endN {pins : List (Addr × Obj)} {σ : L2.St} {H1 H2 : Hp} {Q : XK} {hp hp2 h2 : Heap} {g1 g2 : Array GenState} {d1 d2 : Drawn} {t1 t2 : Nat} {os1 os2 : OsState} {a C d : Addr} {fs : List (Str × V)}
    (T : Raises X (.ref C)) (I1 : Inv X pins σ H1 ⟨hp, g1, d1, t1, os1⟩) (ha : hp.objs.size ≤ a) (k : ∀ b o, hp.get? b = some o → hp2.get? b = some o)
    (un : Un (frs X.stack) [] (upd H1 a (exo a C none)) H2 hp2 h2) (hok : HOk X.prog X.w H2 h2) (ho : os2 = os1) (hb : AllBare g2)
    (ea : H2 a = some (exo a C (some d))) (ed : H2 d = some (exd d fs)) (hd1 : H1 d = none) (q : Q (.ref C) (some d) (upd (L2.del H2 a) d (.xd fs))) : L2N.MkP X pins σ Q (.ref a) ⟨h2, g2, d2, t2, os2⟩ := by
  obtain ⟨t0, G, J, kG, ge, hoe, na⟩ := mk_end0 (d2 := d2) (t2 := t2) I1 ha k un hok ho hb ea ed hd1
  refine ⟨a, _, _, ⟨G, g2, d2, t2, os2⟩, _, .ref C, some d, rfl, J, kG, ge, hoe, ⟨rfl, rfl, fun vs z => ?_⟩, rfl, rfl, na, rfl, hb, T, q⟩
  cases z
  rfl
theorem pmkN_oex {CX : CXT} {x : Str} {C fI : Addr} {k : Nat} {fd : FuncData} {ps : List Str} {sp : Sp} (T : OexC X.K C) (iC : PySem.W.findIn X.K (.ref C) "__init__" = some (some (.ref fI))) (tI : PySem.W.typeIn X.K (.ref fI) = some (.type "function"))
    (F1 : FnOk X.prog X.w X.K X.mg X.base CX k fI fd ps sp) (hr : Room (k + 1) X.A) (hb : Binds X.K fd ps []) (hx : Passes CX X (fun _ _ _ => False)) (hg : Gl X x) (hm : X.mg x = some (.ref C)) (ha : PA X (e :: es) ta)
    (hdb : (x == ("__debug__" : Str)) = false) (he : starEach (e :: es) X.env = (false, eval e X.env) :: starEach es X.env) (hpl : (backTo pos (starEach es X.env)).any (·.1) = false) :
    L2N.PMk X (.Call (.Name x p) (e :: es) [] pos) (tMkO C sp [] ta) := by
  intro pins s σ H Q I h
  obtain ⟨nm, q, N, bs, bm, sn, sub, ab, col, dd, k0, k1, k2, k3, k5, hC, hbm⟩ := T.cls
  apply wpAny_Call_Name_kw (ld_glob I hg hm ?_ hdb)
  apply PySem.W.callWith_K (h₀ := X.base) I.ok.mod.kin T.kC (thn (ha.run pos pins s σ H _ I h) ?_) he hpl
  rintro us s1 ⟨vs, H1, I1, r1, hz, q1⟩
  refine ⟨I1.kIn, ?_⟩
  show wpAny _ _ (call (.ref C) us) _ _ _
  obtain ⟨hp, g, dr, tk, os⟩ := s1
  have hsz : hp.objs.size ≤ hp.objs.size + 1 := Nat.le_succ _
  have hn : H1 (hp.objs.size + 1) = none := I1.hok.fresh hsz
  have hq := q1 _ hn
  rw [List.append_nil] at hq
  generalize hH : ((hp.push (PySem.W.kdv_tup us)).push (PySem.HandSPX.excO C hp.objs.size)) = hpp
  have kk : ∀ b o, hp.get? b = some o → hpp.get? b = some o := by
    rw [← hH]
    exact fun b o e => Heap.get?_push_of_some _ (Heap.get?_push_of_some _ e)
  have hget : hpp.get? (hp.objs.size + 1) = some (PySem.HandSPX.excO C hp.objs.size) := by
    rw [← hH]
    heap_get
  have I2 : Inv X pins σ (upd H1 (hp.objs.size + 1) (exo (hp.objs.size + 1) C none)) ⟨hpp, g, dr, tk, os⟩ :=
    I1.laid (t' := tk) (a := hp.objs.size + 1) (o := exo (hp.objs.size + 1) C none) (h' := hpp) kk hsz (exo_ok hget)
  have r2 : Vals (V.ref (hp.objs.size + 1) :: vs) (Value.ref (hp.objs.size + 1) :: us) := .cons rfl r1
  have hl : (Value.ref (hp.objs.size + 1) :: us ++ []).length = ps.length := by
    rw [List.append_nil, ← r2.length]
    exact F1.len _ _ _ _ hq
  have hus : us.length ≤ sizeLine := by
    rw [← Paired.length r1, sizeLine_eq]
    omega
  have b2 := hb _ (Value.ref (hp.objs.size + 1) :: us) I2.kIn hl
  rw [List.append_nil] at b2
  refine wpAny_call (PySem.HandSPX.call_own F.excBase_ValueError (fun Y => PySem.HandSPX.refsVE_contains Y bm hbm) (I1.kIn _ _ hC) (PySem.W.looks_findIn I1.kIn iC)
    (fun self => PySem.W.bind_fn I1.kIn self tI) hus ?_)
  rw [hH]
  refine codeAny_mono (F1.run _ X.stack _ _ ⟨Value.ref (hp.objs.size + 1) :: us, []⟩ _ _ _ (fun _ _ _ => False) (hr.make C us []) (I2.env0.make C us []) b2 r2 hq) fun r s' hq' => ?_
  match r, hq' with
  | .error er, hq' => exact hx pins σ _ _ er s' I2 hq'
  | .ok (.ret u), hq' =>
    obtain ⟨v, H2, os2, bare2, un2, hok2, rv, ev, d, fs, ea, ed, hd1, q2⟩ := hq'
    subst ev
    obtain ⟨h2, g2, d2, t2, os'⟩ := s'
    exact ⟨rv, mk_endN (raises_own T.exC T.tyC) I1 hsz kk un2 hok2 os2 bare2 ea ed hd1 q2⟩
end
end QL
namespace QL
open PySem PySem.Spec PyProof.Rows L2
/-! ### raise C(e, ..) where C's __init__ keeps its arguments and a tag -/
/-- what such an __init__ does -/
def spInit (K : PySem.W.Frag) (fs : List Str) (tag : Str) : Sp := fun vs H Q _ => ∃ (a C : Addr) (ws : List V), vs = .ref a :: ws ∧ ws.length = fs.length ∧ OexC K C ∧ (∀ f ∈ ("tag" : Str) :: fs, PySem.W.findIn K (.ref C) f = some none) ∧ H a = some (exo a C none) ∧
  ∀ (dx : Addr) (H' : Hp), H dx = none → dx ≠ a → H' a = some (exo a C (some dx)) → H' dx = some (exd dx (("tag", .str tag) :: (fs.zip ws).reverse)) → (∀ b, b ≠ a → b ≠ dx → H' b = H b) → Q .non H'
section
variable {P : Program} {wd : World} {K : PySem.W.Frag} {mg : Str → Option Value} {base : Heap} {qual f g tag sf : Str} {params : Arguments} {scope : Scope} {fI : Addr} {fd : FuncData}
theorem upd_other {H : Hp} {a b : Addr} {o : HO} (h : b ≠ a) : upd H a o b = H b := upd_ne h
theorem init1 {p1 p2 p3 p4 p5 p6 p7 p8 : Pos} {j : Nat} (F : FunD K "__init__" qual params [.Assign [.Attribute (.Name sf p1) f p2] (.Name f p3) p4, .Assign [.Attribute (.Name sf p5) "tag" p6] (.Constant (.str tag) j p7) p8] scope [] [] fI fd)
    (S : FnScope [sf, f] [sf, f] scope) (v0 : scope.names.lookup sf = some .local) (v1 : scope.names.lookup f = some .local) (n0 : (sf == ("__debug__" : Str)) = false ∧ (sf == ("__classdict__" : Str)) = false) (n1 : (f == ("__debug__" : Str)) = false ∧ (f == ("__classdict__" : Str)) = false) :
    FnOk P wd K mg base (L2N.CX P wd) 1 fI fd [sf, f] (spInit K [f] tag) := by
  refine F.ok S (fun vs H Q E h => ?_) fun cdv A outer s H vs Q E hr h => ?_
  · obtain ⟨a, C, ws, rfl, hl, _⟩ := h
    rw [List.length_cons, hl]
    rfl
  · obtain ⟨a, C, ws, rfl, hl, T, hno, ha, q⟩ := h
    obtain ⟨v, rfl⟩ : ∃ v, ws = [v] := by
      match ws, hl with
      | [v], _ => exact ⟨v, rfl⟩
    have w0 := fun (p : Pos) => pe_var (X := cxOf (L2N.CX P wd) P wd K mg base [sf, f] qual scope fI cdv A outer s H E) (pos := p) (i := 0) (x := sf) rfl (.inl v0) n0.1 n0.2
    have w1 := fun (p : Pos) => pe_var (X := cxOf (L2N.CX P wd) P wd K mg base [sf, f] qual scope fI cdv A outer s H E) (pos := p) (i := 1) (x := f) rfl (.inl v1) n1.1 n1.2
    refine ⟨_, pss_cons (ps_ost (w0 p1) (w1 p3)) (pss_one (ps_ost (w0 p5) pe_str)), ?_⟩
    refine ⟨v, rfl, _, rfl, a, C, rfl, T, hno f (by simp), .inl ⟨ha, fun dx hdx hne => ?_⟩⟩
    refine ⟨_, rfl, a, C, rfl, T, hno "tag" (by simp), .inr ⟨dx, [(f, v)], upd_same, ?_, Nat.le_of_ble_eq_true rfl, ?_⟩⟩
    · rw [upd_ne hne, upd_same]
    · refine q dx _ hdx hne ?_ upd_same fun b h1 h2 => ?_
      · rw [upd_ne hne.symm, upd_same]
      · rw [upd_ne h2, upd_ne h1, upd_ne h2]
theorem init2 {p1 p2 p3 p4 p5 p6 p7 p8 q1 q2 q3 q4 : Pos} {j : Nat}
    (F : FunD K "__init__" qual params [.Assign [.Attribute (.Name sf p1) f p2] (.Name f p3) p4, .Assign [.Attribute (.Name sf q1) g q2] (.Name g q3) q4, .Assign [.Attribute (.Name sf p5) "tag" p6] (.Constant (.str tag) j p7) p8] scope [] [] fI fd)
    (S : FnScope [sf, f, g] [sf, f, g] scope) (v0 : scope.names.lookup sf = some .local) (v1 : scope.names.lookup f = some .local) (v2 : scope.names.lookup g = some .local) (n0 : (sf == ("__debug__" : Str)) = false ∧ (sf == ("__classdict__" : Str)) = false)
    (n1 : (f == ("__debug__" : Str)) = false ∧ (f == ("__classdict__" : Str)) = false) (n2 : (g == ("__debug__" : Str)) = false ∧ (g == ("__classdict__" : Str)) = false) :
    FnOk P wd K mg base (L2N.CX P wd) 1 fI fd [sf, f, g] (spInit K [f, g] tag) := by
  refine F.ok S (fun vs H Q E h => ?_) fun cdv A outer s H vs Q E hr h => ?_
  · obtain ⟨a, C, ws, rfl, hl, _⟩ := h
    rw [List.length_cons, hl]
    rfl
  · obtain ⟨a, C, ws, rfl, hl, T, hno, ha, q⟩ := h
    obtain ⟨v, u, rfl⟩ : ∃ v u, ws = [v, u] := by
      match ws, hl with
      | [v, u], _ => exact ⟨v, u, rfl⟩
    have w0 := fun (p : Pos) => pe_var (X := cxOf (L2N.CX P wd) P wd K mg base [sf, f, g] qual scope fI cdv A outer s H E) (pos := p) (i := 0) (x := sf) rfl (.inl v0) n0.1 n0.2
    have w1 := fun (p : Pos) => pe_var (X := cxOf (L2N.CX P wd) P wd K mg base [sf, f, g] qual scope fI cdv A outer s H E) (pos := p) (i := 1) (x := f) rfl (.inl v1) n1.1 n1.2
    have w2 := fun (p : Pos) => pe_var (X := cxOf (L2N.CX P wd) P wd K mg base [sf, f, g] qual scope fI cdv A outer s H E) (pos := p) (i := 2) (x := g) rfl (.inl v2) n2.1 n2.2
    refine ⟨_, pss_cons (ps_ost (w0 p1) (w1 p3)) (pss_cons (ps_ost (w0 q1) (w2 q3)) (pss_one (ps_ost (w0 p5) pe_str))), ?_⟩
    refine ⟨v, rfl, _, rfl, a, C, rfl, T, hno f (by simp), .inl ⟨ha, fun dx hdx hne => ?_⟩⟩
    refine ⟨u, rfl, _, rfl, a, C, rfl, T, hno g (by simp), .inr ⟨dx, [(f, v)], upd_same, ?_, Nat.le_of_ble_eq_true rfl, ?_⟩⟩
    · rw [upd_ne hne, upd_same]
    refine ⟨_, rfl, a, C, rfl, T, hno "tag" (by simp), .inr ⟨dx, [(g, u), (f, v)], ?_, upd_same, Nat.le_of_ble_eq_true rfl, ?_⟩⟩
    · rw [upd_ne hne.symm, upd_same]
    · refine q dx _ hdx hne ?_ upd_same fun b h1 h2 => ?_
      · rw [upd_ne hne.symm, upd_ne hne.symm, upd_same]
      · rw [upd_ne h2, upd_ne h2, upd_ne h1, upd_ne h2]
end
def qRaise (x : Str) (fs : List Str) (tag : Str) (qr : QA) : QS := fun EX _ Γ => qr EX Γ fun ds Γ1 => ds.length = fs.length ∧ ds.length ≤ 1000 ∧ EX ⟨x, "tag" :: fs.reverse, .str tag :: ds.reverse⟩ Γ1
section
variable {X : Cx} {W : WX} {k j : Nat} {fI : Addr} {fd : FuncData} {ps fs : List Str} {x tag : Str} {p pos pos' : Pos} {e : Expr} {es : List Expr} {qr : QA}
theorem zip_fst : ∀ {fs : List Str} {vs : List V}, vs.length = fs.length → (fs.zip vs).map (·.1) = fs
  | [], _, _ => rfl
  | f :: fs, v :: vs, h => by
    rw [List.zip_cons_cons, List.map_cons, zip_fst (by simpa using h)]
theorem zip_snd : ∀ {fs : List Str} {vs : List V}, vs.length = fs.length → (fs.zip vs).map (·.2) = vs
  | [], [], _ => rfl
  | f :: fs, v :: vs, h => by
    rw [List.zip_cons_cons, List.map_cons, zip_snd (by simpa using h)]
theorem passes_no : Passes (L2N.CX X.prog X.w) X (fun _ _ _ => False) := fun _ _ _ _ _ _ _ z => by
  obtain ⟨_, _, _, _, _, z⟩ := z
  exact z.2.2.2.2.2.2.2.elim
theorem qs_raise (B : Bd X W k) (T : OexC X.K (He.ga X.K x)) (iC : PySem.W.findIn X.K (.ref (He.ga X.K x)) "__init__" = some (some (.ref fI))) (tI : PySem.W.typeIn X.K (.ref fI) = some (.type "function"))
    (hno : ∀ f ∈ ("tag" : Str) :: fs, PySem.W.findIn X.K (.ref (He.ga X.K x)) f = some none) (F1 : FnOk X.prog X.w X.K X.mg X.base (L2N.CX X.prog X.w) j fI fd ps (spInit X.K fs tag)) (hj : j + 1 ≤ k) (hb : Binds X.K fd ps []) (hg : Gl X x) (hm : X.mg x = some (.ref (He.ga X.K x)))
    (ha : QAx X W (e :: es) qr) (hdb : (x == ("__debug__" : Str)) = false := by decide) (he : starEach (e :: es) X.env = (false, eval e X.env) :: starEach es X.env := by rfl) (hpl : (backTo pos (starEach es X.env)).any (·.1) = false := by rfl) :
    QSx X W (.Raise (some (.Call (.Name x p) (e :: es) [] pos)) none pos') (qRaise x fs tag qr) := fun c =>
  PSi (L2N.ps_raise B.hc B.tk (pmkN_oex T iC tI F1 (B.hr.mono hj) hb passes_no hg hm (ha c) hdb he hpl)) fun D σ H ⟨w, Γ, E, EX, er, q, x, k⟩ =>
    ⟨w, Γ, _, EX, er, q, x, fun ds Γ1 w1 H1 vs q1 s1 e1 r1 => ⟨by rw [r1.length]; exact q1.2.1, fun a ha => by
      have hl : vs.length = fs.length := r1.length.trans q1.1
      refine ⟨a, _, vs, by rw [List.append_nil], hl, T, hno, upd_same, fun dx H' h1 h2 h3 h4 h5 => ⟨rfl, dx, _, h3, h4, ?_, ?_⟩⟩
      · rw [upd_ne h2] at h1
        exact h1
      · rw [upd_ne h2] at h1
        have eH : upd (L2.del H' a) dx (.xd (("tag", .str tag) :: (fs.zip vs).reverse)) = upd H1 dx (.xd (("tag", .str tag) :: (fs.zip vs).reverse)) := by
          funext b
          by_cases z1 : b = dx
          · rw [z1, upd_same, upd_same]
          · rw [upd_ne z1, upd_ne z1]
            by_cases z2 : b = a
            · rw [z2, L2.del_same, ha]
            · rw [L2.del_ne z2, h5 b z2 z1, upd_ne z2]
        rw [eH]
        have sm : Same H1 (upd H1 dx (.xd (("tag", .str tag) :: (fs.zip vs).reverse))) := same_new h1
        refine x _ Γ1 w1 σ _ _ _ q1.2.2 (s1.trans (Stp.same sm)) (e1.same sm) ⟨rfl, dx, _, rfl, upd_same, e1.fresh h1, ?_, ?_⟩
        · rw [List.map_cons, List.map_reverse, zip_fst hl]
        · rw [List.map_cons, List.map_reverse, zip_snd hl]
          exact Reps.cons rfl ((r1.stp (Stp.same (σ := σ) sm)).reverse)⟩⟩
end
end QL
namespace QL
open PySem PySem.Spec PyProof.Rows L2
/-! ### a name goes -/
section
variable {K : PySem.W.Frag} {c : C0} {w : List Addr} {H : Hp} {σ : L2.St} {Γ : G}
theorem own_unset {i j : Nat} {a : Addr} (h : OwnAt (σ.set i none) ⟨Γ.sl.set i .un, Γ.ob⟩ j a) : OwnAt σ Γ j a := by
  obtain ⟨h1, t, h2, h3⟩ := h
  by_cases e : j = i
  · subst e
    by_cases hl : j < Γ.sl.length
    · rw [List.getElem?_set_self hl] at h2
      cases h2
      cases h3
    · rw [List.getElem?_eq_none (by rw [List.length_set]; omega)] at h2
      cases h2
  · have h2 : (Γ.sl.set i .un)[j]? = some t := h2
    rw [List.getElem?_set_ne (fun z => e z.symm)] at h2
    rw [List.getElem?_set_ne (fun z => e z.symm)] at h1
    exact ⟨h1, t, h2, h3⟩
theorem av_unset {i : Nat} {a : Addr} (h : Av c w (σ.set i none) ⟨Γ.sl.set i .un, Γ.ob⟩ a) : Av c w σ Γ a := h.imp id (Or.imp id fun ⟨j, z⟩ => ⟨j, own_unset z⟩)
theorem stp_unset {i : Nat} : Stp c w σ Γ H w (σ.set i none) ⟨Γ.sl.set i .un, Γ.ob⟩ H := ⟨fun a o h n => ⟨h, fun z => n (av_unset z)⟩, List.prefix_refl _⟩
theorem ER.unset (e : ER K c w H σ Γ) (i : Nat) : ER K c w H (σ.set i none) ⟨Γ.sl.set i .un, Γ.ob⟩ where
  len := by
    show (σ.set i none).length = (Γ.sl.set i .un).length
    rw [List.length_set, List.length_set]
    exact e.len
  wl := e.wl
  wn := e.wn
  on := fun a b x h1 h2 => e.on a b x (own_unset h1) (own_unset h2)
  ow := fun a x h => e.ow a x (own_unset h)
  sl := fun j t ht => by
    by_cases q : j = i
    · subst q
      have ht : (Γ.sl.set j .un)[j]? = some t := ht
      by_cases hl : j < Γ.sl.length
      · rw [List.getElem?_set_self hl] at ht
        cases ht
        trivial
      · rw [List.getElem?_eq_none (by rw [List.length_set]; omega)] at ht
        cases ht
    · have ht : (Γ.sl.set i .un)[j]? = some t := ht
      rw [List.getElem?_set_ne (fun z => q z.symm)] at ht
      rw [List.getElem?_set_ne (fun z => q z.symm)]
      exact (e.sl j t ht).keep stp_unset.keep (List.prefix_refl _) fun _ a u _ h => h
  ob := fun n a o h1 h2 => (e.ob n a o h1 h2).keep stp_unset.keep (List.prefix_refl _) fun _ h => h
  fr := e.fr
  pre := e.pre
  hid := e.hid
end
/-! ### try: .. except x as n: .. -/
abbrev QSu := Str → Addr → Addr → QS
def offE (i : Nat) (E : QEnd) : QEnd := ⟨fun Γ' => E.nx ⟨Γ'.sl.set i .un, Γ'.ob⟩, E.rt, fun Γ' => E.bk ⟨Γ'.sl.set i .un, Γ'.ob⟩, fun Γ' => E.ct ⟨Γ'.sl.set i .un, Γ'.ob⟩⟩
def qHandle (EX : EXG) (E : QEnd) : List ((Str → Option Bool) × Nat × QSu) → Exc → G → Prop
  | [], e, Γ => EX e Γ
  | (mt, i, su) :: r, e, Γ => ∃ b, mt e.cls = some b ∧ qB b (i < Γ.sl.length ∧ ∀ a dd, su e.cls a dd EX0 (offE i E) ⟨Γ.sl.set i (.va (.exc e.cls a dd e.fs e.xs)), Γ.ob⟩) (qHandle EX E r e Γ)
def qTry (q : QS) (cl : List ((Str → Option Bool) × Nat × QSu)) : QS := fun EX E Γ => q (fun e Γ1 => qHandle EX E cl e Γ1) E Γ
inductive HQ (X : Cx) : List ExceptHandler → List ((Str → Option Bool) × Nat × QSu) → Prop
  | nil : HQ X [] []
  | cons {t : Expr} {cs : List Value} {i : Nat} {n : Str} {mt : Str → Option Bool} {su : QSu} {b₀ : Stmt} {suite : List Stmt} {pos' : Pos} {hds : List ExceptHandler} {l : List ((Str → Option Bool) × Nat × QSu)} (ht : Test X t cs) (hi : X.N[i]? = some n) (hl : X.env.kindOf n = some .local)
      (hm : ∀ x b, mt x = some b → PySem.W.exmAny X.K (.ref (He.ga X.K x)) cs = some b)
      (hsu : ∀ (a : Addr) (oe : Obj) (cn : Str) (dd : Addr) (pn : List (Addr × Obj)), L2N.Zn (.ref (He.ga X.K cn)) (some dd) oe → (∃ vs : Array Value, oe.data = .fields vs) → QSs (X.suite a ((a, oe) :: pn)) W0 (b₀ :: suite) (su cn a dd))
      (r : HQ X hds l) : HQ X (.ExceptHandler (some t) (some n) (b₀ :: suite) pos' :: hds) ((mt, i, su) :: l)
def tSu (K : PySem.W.Frag) (su : QSu) : Suite := fun a cls d D σ H => ∃ cn dd c', cls = .ref (He.ga K cn) ∧ d = some dd ∧ liftS K c' W0 (su cn a dd) D σ H
theorem HQ.low {X : Cx} {hds : List ExceptHandler} {cl : List ((Str → Option Bool) × Nat × QSu)} (h : HQ X hds cl) :
    ∃ l, HdsQ X hds l ∧ ∀ (c : C0) (W : WX) (D : Ends) (E : QEnd) (EX : EXG) (w : List Addr) (σ : L2.St) (Γ : G) (H : Hp), XL X.K c W w σ Γ H EX → EO X.K c w σ Γ H E D → XL X.K c (wManyQ X.K W D l) w σ Γ H (fun e Γ1 => qHandle EX E cl e Γ1) := by
  induction h with
  | nil => exact ⟨[], .nil, fun c W D E EX w σ Γ H x o => x⟩
  | @cons t cs i n mt su b₀ suite pos' hds l0 ht hi hl hm hsu r ih =>
    obtain ⟨l, h1, h2⟩ := ih
    refine ⟨(cs, i, tSu X.K su) :: l, .cons ht hi hl (fun a oe cls d pn hz hv => ⟨fun pins s σ H D I q => ?_⟩) h1, fun c W D E EX w σ Γ H x o => ?_⟩
    · obtain ⟨cn, dd, c', rfl, rfl, q⟩ := q
      exact (hsu a oe cn dd pn hz hv c').run pins s σ H D I q
    · intro e Γ' w' σ' H' cls d q s1 e1 xr
      obtain ⟨b, hb, q⟩ := q
      obtain ⟨x1, dd, kvs, x2, x3, x4, x5, x6⟩ := id xr
      refine ⟨b, by rw [x1]; exact hm _ _ hb, fun hb' a hn => ?_, fun hb' => ?_⟩
      · subst hb'
        obtain ⟨hi', q⟩ := q
        have rv : Rep X.K H' (Av c w' σ' Γ') w' (.exc e.cls a dd e.fs e.xs) (.ref a) := ⟨rfl, kvs, ⟨x3, x4⟩, x5, x6⟩
        refine ⟨e.cls, dd, c, x1, x2, w', _, _, EX0, e1.set hi' rv, q a dd, XL0, ?_⟩
        have st : Stp c w σ Γ H w' (σ'.set i (some (.ref a))) ⟨Γ'.sl.set i (.va (.exc e.cls a dd e.fs e.xs)), Γ'.ob⟩ H' := s1.trans (stp_set hi')
        refine ⟨fun Γ2 w2 σ2 H2 q2 s2 e2 => ?_, fun d2 Γ2 w2 σ2 H2 v q2 s2 e2 r2 => o.rt d2 Γ2 w2 σ2 H2 v q2 (st.trans s2) e2 r2, fun Γ2 w2 σ2 H2 q2 s2 e2 => ?_, fun Γ2 w2 σ2 H2 q2 s2 e2 => ?_⟩
        · exact o.nx _ w2 _ H2 q2 ((st.trans s2).trans stp_unset) (e2.unset i)
        · exact o.bk _ w2 _ H2 q2 ((st.trans s2).trans stp_unset) (e2.unset i)
        · exact o.ct _ w2 _ H2 q2 ((st.trans s2).trans stp_unset) (e2.unset i)
      · subst hb'
        exact h2 c W D E EX w σ Γ H x o e Γ' w' σ' H' cls d q s1 e1 xr
theorem qs_try {X : Cx} {W : WX} {k : Nat} {body : List Stmt} {h₀ : ExceptHandler} {hds : List ExceptHandler} {cl : List ((Str → Option Bool) × Nat × QSu)} {q : QS} {pos : Pos} (B : Bd X W k) (hs : X.stack = X.env :: X.outer) (hf : X.env.frame = some X.env.locals) (hN : X.N.Nodup)
    (hb : ∀ (W' : WX) (pn : List (Addr × Obj)) (xe : Value → Shared → Prop), Bd (X.tr pn xe) W' k → QSs (X.tr pn xe) W' body q) (hh : HQ X (h₀ :: hds) cl) : QSx X W (.Try body (h₀ :: hds) [] [] pos) (qTry q cl) := fun c => by
  obtain ⟨l, h1, h2⟩ := hh.low
  exact PSi (ps_tryQ hs hf hN B.tk (tb := fun W' => liftS X.K c W' q) (fun W' pn xe tk hp => hb W' pn xe ⟨B.hc, hp, tk, B.hr⟩ c) h1) fun D σ H ⟨w, Γ, E, EX, er, qq, x, k⟩ =>
    ⟨w, Γ, E, _, er, qq, h2 c W D E EX w σ Γ H x k, k⟩
end QL
namespace QL
open PySem PySem.Spec PyProof.Rows L2
open L2H (RoomH Hot1 PinOk cxH inv_startH)
/-! ### fields of an exception that is handled -/
def fieldD (fs : List Str) (xs : List D) (f : Str) : Option D := (fs.zip xs).lookup f
theorem field_rep {K : PySem.W.Frag} {H : Hp} {av : Addr → Prop} {w : List Addr} {f : Str} {d : D} : ∀ {kvs : List (Str × V)} {xs : List D}, Reps K H av w xs (kvs.map (·.2)) → fieldD (kvs.map (·.1)) xs f = some d → ∃ v, kvs.lookup f = some v ∧ Rep K H av w d v
  | [], xs, _, h => by
    unfold fieldD at h
    rw [List.map_nil, List.zip_nil_left] at h
    cases h
  | (g, u) :: kvs, [], r, h => by
    cases r
  | (g, u) :: kvs, x :: xs, r, h => by
    obtain ⟨y, t, e, r1, r2⟩ := r
    obtain ⟨rfl, rfl⟩ := List.cons.inj e
    unfold fieldD at h
    rw [List.map_cons, List.zip_cons_cons, List.lookup_cons] at h
    rw [List.lookup_cons]
    cases q : f == g with
    | true =>
      rw [q] at h
      cases h
      exact ⟨_, rfl, r1⟩
    | false =>
      rw [q] at h
      exact field_rep r2 h
def qXf (cn : Str) (a dd : Addr) (L : List Str) (f : Str) (qe : QE) : QE := fun EX Γ P => qe EX Γ fun x Γ1 => match x with
  | .exc cn' a' dd' fs xs => cn' = cn ∧ a' = a ∧ dd' = dd ∧ cn ∈ L ∧ ∃ d, fieldD fs xs f = some d ∧ P d Γ1
  | _ => False
section
variable {X : Cx} {W : WX} {a dd : Addr} {oe : Obj} {cn f : Str} {e : Expr} {te : TE} {pos : Pos}
theorem pe_xfN {C : Addr} {cls : Value} {d : Option Addr} (hpn : (a, oe) ∈ X.pn) (T : XfC X.K C) (hno : PySem.W.findIn X.K (.ref C) f = some none)
    (hz : L2N.Zn cls d oe) (hf : ∃ vs : Array Value, oe.data = .fields vs) (he : PE X e te) (hb : attributeBase e f X.env (eval e X.env) = eval e X.env) : PE X (.Attribute e f pos) (tXf a cls d C f te) := by
  constructor
  intro pins s σ H Q I h
  apply attr_of hb
  apply thn (he.run pins s σ H _ I h)
  rintro u s1 ⟨x, H1, I1, rx, ex, ec, dd, fs, v, ed, ea, l, q⟩
  subst ex
  obtain rfl : u = Value.ref a := rx
  subst ec
  subst ed
  obtain ⟨ha, _⟩ := I1.pin (a, oe) (List.mem_append_left _ hpn)
  obtain ⟨vs, hd⟩ := hf
  have hx : ObjOk X.prog X.w H1 s1.heap dd (.xd fs) := I1.hok dd _ ea
  obtain ⟨mA, hns, hr⟩ := hx
  obtain ⟨od, ho, hl⟩ := lookIn_ns hns
  obtain ⟨u, hu, ru⟩ := RelO.some_of (v := v) (o := mA f) (by rw [← l]; exact hr f)
  have J : PySem.W.InstAt s1.heap a oe C (some od) := ⟨ha, hz.1, by unfold PySem.W.notCls; rw [hd] <;> rfl, by rw [hz.2.1]; exact ho⟩
  exact HandSPX.exc_get I1.kIn J T.ga T.gg T.exC (PySem.W.findObj_own T.hdC hno rfl (by rw [hl, hu])) (handed_of ru) ⟨v, H1, I1.tok _, ru, q⟩
theorem q_xf {L : List Str} {qe : QE} (hpn : (a, oe) ∈ X.pn) (hz : L2N.Zn (.ref (He.ga X.K cn)) (some dd) oe) (hf : ∃ vs : Array Value, oe.data = .fields vs) (hL : ∀ n ∈ L, XfC X.K (He.ga X.K n) ∧ PySem.W.findIn X.K (.ref (He.ga X.K n)) f = some none)
    (he : QEx X W e qe) (hb : attributeBase e f X.env (eval e X.env) = eval e X.env := by rfl) : QEx X W (.Attribute e f pos) (qXf cn a dd L f qe) := fun c => ⟨fun pins s σ H Q I h => by
  by_cases hc : cn ∈ L
  · obtain ⟨T, hno⟩ := hL cn hc
    refine (PEi (pe_xfN hpn T hno hz hf (he c) hb) fun σ H Q ⟨w, Γ, P, EX, er, q, x, k⟩ => ?_).run pins s σ H Q I h
    refine ⟨w, Γ, _, EX, er, q, x, fun d Γ1 w1 H1 u q1 s1 e1 r1 => ?_⟩
    cases d <;> try exact q1.elim
    obtain ⟨rfl, rfl, rfl, _, d, hd, q1⟩ := q1
    obtain ⟨rfl, kvs, ⟨h1, h2⟩, h3, h4⟩ := r1
    subst h3
    obtain ⟨v, hv, rv⟩ := field_rep h4 hd
    exact ⟨rfl, rfl, _, kvs, v, rfl, h1, hv, k d Γ1 w1 H1 v q1 s1 e1 rv⟩
  · obtain ⟨w, Γ, P, EX, er, q, x, k⟩ := h
    -- never reached
    exact attr_of hb (thn ((he c).run pins s σ H (fun _ _ => False) I ⟨w, Γ, _, EX, er, q, x, fun d Γ1 w1 H1 u q1 s1 e1 r1 => by
      cases d <;> try exact q1.elim
      exact hc q1.2.2.2.1⟩) fun u s1 hh => by
        obtain ⟨_, _, _, _, z⟩ := hh
        exact z.elim)⟩
end
/-! ### a def that is called while an exception is handled -/
structure FnX (P : Program) (wd : World) (K : PySem.W.Frag) (mg : Str → Option Value) (base : Heap) (CX : CXT) (k : Nat) (f : Addr) (fd : FuncData) (ps : List Str) (sp : Addr × Obj → Sp) : Prop where
  len : ∀ p vs H Q E, sp p vs H Q E → vs.length = ps.length
  run : ∀ (A : Around) (outer : List Env) (s : Shared) (H : Hp) (args : Args) (us : List Value) (vs : List V) (Q : VK) (E : XK) (p : Addr × Obj), RoomH k A → Hot1 A p → PinOk outer H s p → Env0 P wd K mg base A outer s H →
    BindsTo s fd args (ps.zip us) → Vals vs us → sp p vs H Q E → codeAny (model P wd) A (.call (.ref f) args) (CR CX outer P wd H s Q E) s
section
variable {P : Program} {wd : World} {K : PySem.W.Frag} {mg : Str → Option Value} {base : Heap} {x qual : Str} {params : Arguments} {body : List Stmt} {scope : Scope} {dvs : List V} {kws : List (Str × V)} {f : Addr} {fd : FuncData}
theorem fnx_of {CX : CXT} {N ps : List Str} {k : Nat} {sp : Addr × Obj → Sp} (F : FunD K x qual params body scope dvs kws f fd) (S : FnScope N ps scope) (len : ∀ p vs H Q E, sp p vs H Q E → vs.length = ps.length)
    (hbody : ∀ (cdv : Value) (A : Around) (outer : List Env) (s : Shared) (H : Hp) (vs : List V) (Q : VK) (E : XK) (p : Addr × Obj), Hot1 A p → RoomH k (A.deeper (envOfC qual scope s.heap.objs.size f cdv)) → sp p vs H Q E →
      ∃ t, PSs (cxH CX P wd K mg base N qual scope f cdv A outer s H E p) body t ∧ t { nx := fun _ H' => Q .non H', rt := Q } (L2.start N vs) H) : FnX P wd K mg base CX (k + 1) f fd ps sp := by
  obtain ⟨oc, od, dV, kV, doc, pm, an, cdv, ct, osl, rfl, lk, hcd, _, _⟩ := F.ex
  refine ⟨len, ?_⟩
  intro A outer s H args us vs Q E p hr hot hpin e0 hb r hsp
  have hl := len _ _ _ _ _ hsp
  have KX : K.In s.heap := e0.mod.kin.keeps fun b o e => (e0.bs b o e).1
  have lim : s.heap.NoLimit := e0.mod.nolimit.keeps fun b o e => (e0.bs b o e).1
  apply codeAny_call_function hr.depth (KX _ _ lk) rfl S.co S.gen rfl (PySem.W.codeRec_of KX hcd)
  apply hb
  refine wpAny_newFunctionEnv_cells S.kind (fun ⟨n, v⟩ hy => ?_) fun env he s1 y => ?_
  · rcases S.par n (List.of_mem_zip hy).1 with q | q
    · exact .inl q
    · exact .inr ⟨q, PySem.W.cellsFrom_some _ _ _ (.inl q)⟩
  · subst he
    refine ⟨lim.keeps y.toInCall.keep, codeAny_func ?_⟩
    obtain ⟨t, ht, hq⟩ := hbody cdv A outer s H vs Q E p hot (hr.deeper _) hsp
    have I := inv_startH (CX := CX) (E := E) (N := N) S hpin e0 hl r y
    refine wpAny_mono (ht.run [] s1 (L2.start N vs) H _ I hq) (fun fl s' hs => ?_) fun e s' hs => hs
    match fl, hs with
    | .ret u, ⟨v, σ', H', J, rv, q⟩ => exact ⟨v, H', J.os, J.bare, J.base, J.hok, rv, q⟩
    | .next, ⟨σ', H', J, q⟩ => exact ⟨V.non, H', J.os, J.bare, J.base, J.hok, rfl, q⟩
    | .brk, ⟨_, _, _, q⟩ => exact False.elim q
    | .cont, ⟨_, _, _, q⟩ => exact False.elim q
end
abbrev FX := Str → Addr → Addr → List D → List Ob → (D → List Ob → Prop) → Prop
def spX (K : PySem.W.Frag) (n : Nat) (F : FX) : Addr × Obj → Sp := fun p vs H Q _ => ∃ w hid ob ds P cn dd, Ent K w hid H ob ∧ Reps K H (av2 w hid) w ds vs ∧ ds.length = n ∧ L2N.Zn (.ref (He.ga K cn)) (some dd) p.2 ∧ F cn p.1 dd ds ob P ∧
  ∀ d ob' w' H' v, P d ob' → Stay w H w' H' → Ent K w' hid H' ob' → Rep K H' (av2 w' hid) w' d v → Q v H'
theorem spX_len {K : PySem.W.Frag} {n : Nat} {F : FX} {p : Addr × Obj} {vs : List V} {H : Hp} {Q : VK} {E : XK} (h : spX K n F p vs H Q E) : vs.length = n := by
  obtain ⟨w, hid, ob, ds, P, cn, dd, h1, h2, h3, _⟩ := h
  rw [h2.length]
  exact h3
def fqX (N : List Str) (q : QSu) : FX := fun cn a dd ds ob P => q cn a dd EX0 ⟨fun Γ => P .non Γ.ob, fun d Γ => P d Γ.ob, fun _ => False, fun _ => False⟩ (G0 N ds ob)
section
variable {P : Program} {wd : World} {K : PySem.W.Frag} {mg : Str → Option Value} {base : Heap} {x qual : Str} {params : Arguments} {body : List Stmt} {scope : Scope} {dvs : List V} {kws : List (Str × V)} {f : Addr} {fd : FuncData}
theorem fx_ok {N ps : List Str} {k : Nat} {q : QSu} (F : FunD K x qual params body scope dvs kws f fd) (S : FnScope N ps scope) (hl : ps.length ≤ N.length)
    (hb : ∀ (cdv : Value) (A : Around) (outer : List Env) (s : Shared) (H : Hp) (E : XK) (a : Addr) (oe : Obj) (cn : Str) (dd : Addr), L2N.Zn (.ref (He.ga K cn)) (some dd) oe → (∃ vs : Array Value, oe.data = .fields vs) →
      QSs (cxH (L2N.CX P wd) P wd K mg base N qual scope f cdv A outer s H E (a, oe)) W0 body (q cn a dd)) : FnX P wd K mg base (L2N.CX P wd) (k + 1) f fd ps (spX K ps.length (fqX N q)) := by
  refine fnx_of F S (fun p vs H Q E h => spX_len h) ?_
  intro cdv A outer s H vs Q E p hot hr h
  obtain ⟨w, hid, ob, ds, P', cn, dd, h1, h2, h3, hz, h4, h5⟩ := h
  obtain ⟨vsx, hd, _⟩ := hot.2
  refine ⟨_, hb cdv A outer s H E p.1 p.2 cn dd hz ⟨vsx, hd⟩ ⟨w, H, hid⟩, ?_⟩
  have er := er_start (N := N) h1 h2 (by rw [h3]; exact hl)
  refine ⟨w, _, _, EX0, er, h4, XL0, ⟨fun Γ' w' σ' H' q1 s1 e1 => ?_, fun d Γ' w' σ' H' v q1 s1 e1 r1 => ?_, fun _ _ _ _ z _ _ => z.elim, fun _ _ _ _ z _ _ => z.elim⟩⟩
  · exact h5 _ _ w' H' _ q1 e1.stay e1.ent rfl
  · exact h5 _ _ w' H' _ q1 e1.stay e1.ent (r1.keep (fun a o h n => ⟨h, fun z => n (av2_av (c := ⟨w, H, hid⟩) z)⟩) (List.prefix_refl _))
end
/-- f(e, ..) while an exception is handled -/
def qCallX (n : Nat) (F : FX) (cn : Str) (a dd : Addr) (qr : QA) : QE := fun EX Γ P => qr EX Γ fun ds Γ1 => ds.length = n ∧ F cn a dd ds Γ1.ob fun d ob => P d ⟨Γ1.sl, ob⟩
section
variable {X : Cx} {W : WX} {k n : Nat} {a f dd : Addr} {oe : Obj} {pn : List (Addr × Obj)} {fd : FuncData} {ps : List Str} {F : FX} {cn x : Str} {p pos : Pos} {e : Expr} {es : List Expr} {qr : QA}
theorem run_fnX {pins : List (Addr × Obj)} {σ : L2.St} {H : Hp} {s : Shared} {Q : VK} {us : List Value} {vs : List V} {sp : Addr × Obj → Sp} {p : Addr × Obj} (G : FnX X.prog X.w X.K X.mg X.base (L2N.CX X.prog X.w) k f fd ps sp) (hr : RoomH k X.A) (hot : Hot1 X.A p) (hp : p ∈ X.pn)
    (hb : Binds X.K fd ps []) (I : Inv X pins σ H s) (r : Vals vs us) (h : sp p vs H Q fun _ _ _ => False) : wpAny (model X.prog X.w) X.A (call (.ref f) us) (EP X pins σ Q) X.xe s := by
  have hl : us.length = ps.length := by
    rw [← r.length]
    exact G.len _ _ _ _ _ h
  have b := hb s us I.kIn (by rw [List.append_nil]; exact hl)
  rw [List.append_nil] at b
  have P1 := I.pin p (List.mem_append_left _ hp)
  have hpin : PinOk X.stack H s p := ⟨P1.1, P1.2.1, fun hm => (List.mem_cons.mp (I.stkSub p.1 hm)).elim P1.2.2.1 P1.2.2.2.1, P1.2.2.2.2⟩
  refine wpAny_call (codeAny_mono (G.run X.A X.stack s H ⟨us, []⟩ us vs Q _ p hr hot hpin I.env0 b r h) fun res s' hq => ?_)
  match res, hq with
  | .error u, hq =>
    obtain ⟨_, _, _, _, _, z⟩ := hq
    exact z.2.2.2.2.2.2.2.elim
  | .ok (.ret u), hq => exact I.after hq
theorem q_callX (G : FnX X.prog X.w X.K X.mg X.base (L2N.CX X.prog X.w) k f fd ps (spX X.K n F)) (hr : RoomH k X.A) (hz : L2N.Zn (.ref (He.ga X.K cn)) (some dd) oe) (hf : ∃ vs : Array Value, oe.data = .fields vs) (hg : Gl X x) (hm : X.mg x = some (.ref f)) (hk : PySem.W.keepIn X.K (.ref f) = true)
    (hb : Binds X.K fd ps []) (ha : QAx (X.suite a ((a, oe) :: pn)) W0 (e :: es) qr) (hdb : (x == ("__debug__" : Str)) = false := by decide) (he : starEach (e :: es) X.env = (false, eval e X.env) :: starEach es X.env := by rfl)
    (hpl : (backTo pos (starEach es X.env)).any (·.1) = false := by rfl) : QEx (X.suite a ((a, oe) :: pn)) W0 (.Call (.Name x p) (e :: es) [] pos) (qCallX n F cn a dd qr) := fun c => by
  constructor
  intro pins s σ H Q I h
  obtain ⟨w, Γ, P, EX, er, q, xl, k'⟩ := h
  apply wpAny_Call_Name_kw (ld_glob (X := X.suite a ((a, oe) :: pn)) I hg hm ?_ hdb)
  have ev := (ha c).run pos pins s σ H (fun vs H1 => ∃ ds Γ1 w1, (ds.length = n ∧ F cn a dd ds Γ1.ob fun d ob => P d ⟨Γ1.sl, ob⟩) ∧ Stp c w σ Γ H w1 σ Γ1 H1 ∧ ER X.K c w1 H1 σ Γ1 ∧ Reps X.K H1 (Av c w1 σ Γ1) w1 ds vs) I
    ⟨w, Γ, _, EX, er, q, xl, fun ds Γ1 w1 H1 vs q1 s1 e1 r1 => ⟨ds, Γ1, w1, q1, s1, e1, r1⟩⟩
  apply PySem.W.callWith_K (h₀ := X.base) I.ok.mod.kin hk (thn ev ?_) he hpl
  rintro us s1 ⟨vs, H1, I1, r1, ds, Γ1, w1, ⟨hn, q1⟩, s1', e1, rr⟩
  refine ⟨I1.kIn, ?_⟩
  have hot : Hot1 (X.suite a ((a, oe) :: pn)).A (a, oe) := by
    obtain ⟨vs', hd⟩ := hf
    exact ⟨rfl, vs', hd, hz.2.2 vs' hd⟩
  refine run_fnX (X := X.suite a ((a, oe) :: pn)) (p := (a, oe)) G ⟨hr.dp, hr.un⟩ hot List.mem_cons_self hb I1 r1 ?_
  refine ⟨w1, hidOf c σ Γ1 H1, Γ1.ob, ds, _, cn, dd, ent_call e1, rr.keep (fun a o h n => ⟨h, fun z => n ((hid_iff e1).mp z)⟩) (List.prefix_refl _), hn, hz, q1, ?_⟩
  intro d ob' w' H' v h1 h2 h3 h4
  obtain ⟨g1, g2, g3⟩ := back_call e1 h2 h3
  exact k' d _ w' H' v h1 (s1'.trans g2) g1 (h4.keep (fun a o h n => ⟨h, fun z => n (g3 a z)⟩) (List.prefix_refl _))
end
end QL
namespace QL
open PySem PySem.Spec PyProof.Rows L2
open LamX (CodeO TabB LamS lamEnv)
/-! ### a lambda without parameters is made -/
/-- the heap behind it: the same, or the code object is new and in the table -/
def LamHp (H : Hp) (P : Addr) (ps : Array Value) (c' : Addr) (q : Str) (H1 : Hp) : Prop := (H1 = H ∧ ∃ pos : Pos, codeAmong pos ps.toList = some (.ref c')) ∨
  ∃ more : Array Value, H c' = none ∧ H1 = upd (upd H P (.tbl (ps ++ more))) c' (CodeO c' q) ∧ TriplesOk (ps ++ more).toList ∧ ∀ (pos : Pos) (cv : Value), codeAmong pos (ps ++ more).toList = some cv → codeAmong pos ps.toList = some cv ∨ cv = .ref c'
theorem lam_make3 {X : Cx} {pins : List (Addr × Obj)} {σ : L2.St} {H : Hp} {s : Shared} {c P : Addr} {ps : Array Value} {params : Arguments} {body : Expr} {scope : Scope} {pos : Pos} {E : Value → Shared → Prop} {Q : Value → Shared → Prop} (I : Inv X pins σ H s)
    (TB : TabB X.base X.mg c P) (hcode : X.env.code = .ref c) (hP : H P = some (.tbl ps)) (ht : TriplesOk ps.toList) (ha : ∀ (pos : Pos) (cv : Value), codeAmong pos ps.toList = some cv → ∃ c, cv = .ref c ∧ H c = some (CodeO c (X.env.qual ++ "<lambda>")))
    (hdef : defaultsOf params X.env = ([], [])) (hfree : ∀ y ∈ scope.names, y.2 = .free → ∃ c, X.env.cells.lookup y.1 = some c)
    (h : ∀ (f c' : Addr) (pm ctv : Value) (H1 : Hp) (s' : Shared), Inv X pins σ H1 s' → LamHp H P ps c' (X.env.qual ++ "<lambda>") H1 →
      s'.heap.get? f = some (PySem.W.kla_obj "<lambda>" (X.env.qual ++ "<lambda>") params body scope (cloFrom X.env.cells scope.names []) pm c' ctv) → H1 f = none → f ∉ frs X.stack → Q (.ref f) s') :
    wpAny (model X.prog X.w) X.A (eval (.Lambda params body scope pos) X.env) Q E s := by
  apply PySem.W.kla_eval hdef
  have bP : s.heap.BuiltinsAt X.mg P := TB.bm.keeps I.bk
  have hP' : s.heap.get? P = some { cls := .none, data := .fields ps } := I.hok P _ hP
  have nofr : ∀ f, s.heap.objs.size ≤ f → f ∉ frs X.stack := by
    intro f hf z
    rcases List.mem_cons.mp (I.stkSub _ z) with e | e
    · have h1 := I.lt
      rw [← e] at h1
      exact absurd (Nat.lt_of_lt_of_le h1 hf) (Nat.lt_irrefl _)
    · exact I.nofs hf e
  cases hc : codeAmong pos ps.toList with
  | some cv =>
    obtain ⟨c', e, hco⟩ := ha pos cv hc
    subst e
    apply PySem.W.kla_makeFunctionHit (mg := X.mg) (c := c) (P := P) (ps := ps) (closure_ok hfree) I.ok.glob (I.mod.glob.keeps I.bk) hcode (TB.code.keeps I.bk) hP' ht hc bP
    intro ctv h' tk hx hsz
    have I1 : Inv X pins σ H { s with heap := h'.push (PySem.W.kla_obj "<lambda>" (X.env.qual ++ "<lambda>") params body scope (cloFrom X.env.cells scope.names []) ((X.mg "__name__").getD .none) c' ctv), toks := tk } :=
      I.kept fun b o e => Heap.get?_push_of_some _ (hx b o e)
    exact h h'.objs.size c' _ ctv H _ I1 (.inl ⟨rfl, pos, hc⟩) (Heap.get?_push_size _ rfl) (I.hok.fresh hsz) (nofr _ hsz)
  | none =>
    apply PySem.W.kla_makeFunction (mg := X.mg) (c := c) (P := P) (ps := ps) (closure_ok hfree) I.ok.glob (I.mod.glob.keeps I.bk) hcode (TB.code.keeps I.bk) hP' ht hc TB.gP bP
    intro c' ctv h' tk hx hge hlt hrec htb
    obtain ⟨c2, oc, vs, t, e2, hoc, hd, hv⟩ := hrec
    cases e2
    have hsz : s.heap.objs.size ≤ h'.objs.size := Nat.le_trans hge (Nat.le_of_lt hlt)
    have nC : H c' = none := I.hok.fresh hge
    have I1 := LamX.inv_table (t' := tk) (more := #[rawInt pos.line, rawInt pos.col, .ref c']) (h' := h'.push (PySem.W.kla_obj "<lambda>" (X.env.qual ++ "<lambda>") params body scope (cloFrom X.env.cells scope.names []) ((X.mg "__name__").getD .none) c' ctv))
      I hP (fun b o hb e => Heap.get?_push_of_some _ (hx b o hb e)) (Heap.get?_push_of_some _ htb) hge ⟨oc, vs, t, Heap.get?_push_of_some _ hoc, hd, hv⟩
    have eL : (ps ++ #[rawInt pos.line, rawInt pos.col, .ref c']).toList = ps.toList ++ [rawInt pos.line, rawInt pos.col, .ref c'] := by simp
    refine h h'.objs.size c' _ ctv _ _ I1 (.inr ⟨_, nC, rfl, ?_, fun p' cv hcv => ?_⟩) (Heap.get?_push_size _ rfl) ?_ (nofr _ hsz)
    · rw [eL]
      exact PySem.TriplesOk_snoc _ _ _ _ ht
    · rw [eL] at hcv
      exact LamX.among_app _ ht hcv
    · have n1 : h'.objs.size ≠ c' := Nat.ne_of_gt hlt
      have n2 : h'.objs.size ≠ P := Nat.ne_of_gt (Nat.lt_of_lt_of_le (Heap.lt_size hP') hsz)
      rw [upd_ne n1, upd_ne n2]
      exact I.hok.fresh hsz
/-! ### what a callable does at later states -/
theorem Un.deep {fs fs2 ex : List Addr} {H H1 H2 : Hp} {h h1 h2 : Heap} (a : Un fs ex H H1 h h1) (b : Un fs2 ex H1 H2 h1 h2) (n : ∀ x ∈ fs2, x ∈ fs ∨ h.get? x = none) : Un fs ex H H2 h h2 where
  keep := fun c ob q z hc hx => by
    have g1 := a.keep c ob q z hc hx
    refine b.keep c ob g1 (a.free c ob q z hx) (fun m => ?_) hx
    rcases n c m with m | m
    · exact hc m
    · rw [m] at q
      cases q
  slot := fun c ob q z hc hx => by
    obtain ⟨sl, g1⟩ := a.slot c ob q z hc hx
    obtain ⟨sl2, g2⟩ := b.any g1 (a.free c ob q z hx) hx
    exact ⟨sl2, g2⟩
  free := fun c ob q z hx => by
    obtain ⟨sl, g1⟩ := a.any q z hx
    exact b.free c _ g1 (a.free c ob q z hx) hx
  there := fun c ob q hx => by
    obtain ⟨o1, g1⟩ := a.there c ob q hx
    exact b.there c o1 g1 hx
  tups := fun c xs q => b.tups c xs (a.tups c xs q)
  frzs := fun c o u q => b.frzs c o u (a.frzs c o u q)
  tbls := fun c ps q => by
    obtain ⟨m1, g1⟩ := a.tbls c ps q
    obtain ⟨m2, g2⟩ := b.tbls c _ g1
    exact ⟨m1 ++ m2, by rw [g2, Array.append_assoc]⟩
/-- later, for data -/
structure Lat (w : List Addr) (hid : Hp) (H : Hp) (w' : List Addr) (hid' : Hp) (H' : Hp) : Prop where
  pre : w <+: w'
  keep : ∀ a o, H a = some o → ¬ av2 w hid a → H' a = some o ∧ ¬ av2 w' hid' a
theorem Lat.trans {w w1 w2 : List Addr} {hid hid1 hid2 H H1 H2 : Hp} (a : Lat w hid H w1 hid1 H1) (b : Lat w1 hid1 H1 w2 hid2 H2) : Lat w hid H w2 hid2 H2 :=
  ⟨a.pre.trans b.pre, fun x o h n => b.keep x o (a.keep x o h n).1 (a.keep x o h n).2⟩
def spA (K : PySem.W.Frag) (w : List Addr) (hid H : Hp) (F : FQ) : Hp → VK → XK → Prop := fun H2 Q E => ∃ w' hid' ob P EX, Ent K w' hid' H2 ob ∧ Lat w hid H w' hid' H2 ∧ F EX [] ob P ∧
  (∀ d ob' w2 H' v, P d ob' → Stay w' H2 w2 H' → Ent K w2 hid' H' ob' → Rep K H' (av2 w2 hid') w2 d v → Q v H') ∧
  (∀ e ob' w2 H' cls d, EX e ob' → Stay w' H2 w2 H' → Ent K w2 hid' H' ob' → Exr2 K w2 hid' H' e cls d → E cls d H')
structure ActAt (P : Program) (wd : World) (K : PySem.W.Frag) (mg : Str → Option Value) (base : Heap) (k : Nat) (fs : List Addr) (s : Shared) (w : List Addr) (hid H : Hp) (f : Addr) (F : FQ) : Prop where
  obj : (∃ oc od fd sl, s.heap.get? f = some ⟨oc, od, .func fd, sl⟩) ∧ H f = none ∧ f ∉ fs
  run : ∀ (A : Around) (outer : List Env) (s2 : Shared) (H2 : Hp) (Q : VK) (E : XK), Room k A → Env0 P wd K mg base A outer s2 H2 → Un fs [] H H2 s.heap s2.heap → spA K w hid H F H2 Q E →
    codeAny (model P wd) A (.call (.ref f) ⟨[], []⟩) (CR (L2N.CX P wd) outer P wd H2 s2 Q E) s2
theorem ActAt.later {P : Program} {wd : World} {K : PySem.W.Frag} {mg : Str → Option Value} {base : Heap} {k : Nat} {fs fs2 : List Addr} {s s1 : Shared} {w w1 : List Addr} {hid hid1 H H1 : Hp} {f : Addr} {F : FQ} (a : ActAt P wd K mg base k fs s w hid H f F)
    (u : Un fs [] H H1 s.heap s1.heap) (l : Lat w hid H w1 hid1 H1) (n : ∀ x ∈ fs2, x ∈ fs ∨ s.heap.get? x = none) : ActAt P wd K mg base k fs2 s1 w1 hid1 H1 f F where
  obj := by
    obtain ⟨⟨oc, od, fd, sl, h1⟩, h2, h3⟩ := a.obj
    refine ⟨⟨oc, od, fd, sl, u.keep _ _ h1 h2 h3 (by simp)⟩, u.free _ _ h1 h2 (by simp), fun z => ?_⟩
    rcases n f z with z | z
    · exact h3 z
    · rw [z] at h1
      cases h1
  run := fun A outer s2 H2 Q E hr e0 u2 h => by
    obtain ⟨w', hid', ob, P', EX, h1, h2, h3, h4, h5⟩ := h
    exact a.run A outer s2 H2 Q E hr e0 (Un.deep u u2 n) ⟨w', hid', ob, P', EX, h1, l.trans h2, h3, h4, h5⟩
/-- a() where a's slot holds the callable -/
def qAct (i : Nat) (f : Addr) (F : FQ) : QE := fun EX Γ P => Γ.sl[i]? = some (.va (.adr f)) ∧ F (fun e ob => EX e ⟨Γ.sl, ob⟩) [] Γ.ob fun d ob => P d ⟨Γ.sl, ob⟩
section
variable {X : Cx} {W : WX} {k j i : Nat} {f : Addr} {F : FQ} {a : Str} {p1 p2 : Pos}
/-- from a def's start to where it stands -/
theorem ER.lat {K : PySem.W.Frag} {c : C0} {w : List Addr} {H : Hp} {σ : L2.St} {Γ : G} (e : ER K c w H σ Γ) : Lat c.w0 c.hid c.H0 w (hidOf c σ Γ H) H :=
  ⟨e.pre, fun a o h n => by
    obtain ⟨g1, g2⟩ := e.fr a o h fun z => n (.inl z)
    refine ⟨g1, fun z => ?_⟩
    rcases (hid_iff e).mp z with z | z | ⟨i, z⟩
    · exact g2 z
    · exact n (.inr z)
    · have := (e.ow i a z).2.2
      rw [h] at this
      cases this⟩
/-- the call of a callable by its address -/
theorem act_call {c : C0} {w : List Addr} {Γ : G} {H : Hp} {σ : L2.St} {P : D → G → Prop} {Q : VK} {EX : EXG} {E : XK} (er : ER X.K c w H σ Γ) (h : F (fun e ob => EX e ⟨Γ.sl, ob⟩) [] Γ.ob fun d ob => P d ⟨Γ.sl, ob⟩)
    (xl : ∀ e Γ' w' H' cls d, EX e Γ' → Stp c w σ Γ H w' σ Γ' H' → ER X.K c w' H' σ Γ' → ExR X.K c w' σ Γ' H' e cls d → E cls d H')
    (k : ∀ d Γ' w' H' v, P d Γ' → Stp c w σ Γ H w' σ Γ' H' → ER X.K c w' H' σ Γ' → Rep X.K H' (Av c w' σ Γ') w' d v → Q v H') : spA X.K c.w0 c.hid c.H0 F H Q E := by
  refine ⟨w, hidOf c σ Γ H, Γ.ob, _, _, ent_call er, er.lat, h, ?_, ?_⟩
  · intro d ob' w' H' v h1 h2 h3 h4
    obtain ⟨g1, g2, g3⟩ := back_call er h2 h3
    exact k d _ w' H' v h1 g2 g1 (h4.keep (fun a o h n => ⟨h, fun z => n (g3 a z)⟩) (List.prefix_refl _))
  · intro e ob' w' H' cls d h1 h2 h3 h4
    obtain ⟨g1, g2, g3⟩ := back_call er h2 h3
    obtain ⟨i1, dd, kvs, i2, i3, i4, i5, i6⟩ := h4
    exact xl e _ w' H' cls d h1 g2 g1 ⟨i1, dd, kvs, i2, i3, fun z => i4 (g3 dd z), i5, i6.keep (fun a o h n => ⟨h, fun z => n (g3 a z)⟩) (List.prefix_refl _)⟩
end
end QL
namespace QL
open PySem PySem.Spec PyProof.Rows L2
open LamX (CodeO TabB LamS lamEnv lamCx)
/-! ### the lambda's body -/
abbrev lamCxN (X : Cx) (A : Around) (outer : List Env) (s : Shared) (H : Hp) (E : XK) (scope : Scope) (f c' : Addr) : Cx :=
  (lamCx X A outer s H E scope f c').tr [] fun e s' => wpAny (model X.prog X.w) (A.deeper (lamEnv X scope s.heap.objs.size f c')) (leaving (lamEnv X scope s.heap.objs.size f c') e)
    (fun _ s'' => L2N.CX X.prog X.w outer H s E e s'') (fun e' s'' => L2N.CX X.prog X.w outer H s E e' s'') s'
def maskS : Slot → Slot
  | .ow _ => .un
  | .od _ _ => .un
  | s => s
def maskL (sl : List Slot) : List Slot := sl.map maskS
/-- what the lambda does, by the reading of its body -/
def lamF (sl : List Slot) (qe : QE) : FQ := fun EX _ ob P => qe (fun e Γ => EX e Γ.ob) ⟨maskL sl, ob⟩ fun d Γ => P d Γ.ob
theorem mask_own {σ : L2.St} {Γ : G} {ob : List Ob} {i : Nat} {a : Addr} (h : OwnAt σ ⟨maskL Γ.sl, ob⟩ i a) : False := by
  obtain ⟨_, s, h1, h2⟩ := h
  have h1 : (Γ.sl.map maskS)[i]? = some s := h1
  rw [List.getElem?_map] at h1
  cases q : Γ.sl[i]? with
  | none =>
    rw [q] at h1
    cases h1
  | some t =>
    rw [q] at h1
    cases h1
    cases t <;> cases h2
section
variable {X : Cx} {pins : List (Addr × Obj)} {σ : L2.St} {H : Hp} {s : Shared}
/-- the made lambda is a callable -/
theorem act_made {c : C0} {w : List Addr} {Γ : G} {f c' : Addr} {pm ctv : Value} {params : Arguments} {body : Expr} {scope : Scope} {k : Nat} {qe : QE} (I : Inv X pins σ H s) (er : ER X.K c w H σ Γ) (L : LamS X.env.scope scope)
    (hf : s.heap.get? f = some (PySem.W.kla_obj "<lambda>" (X.env.qual ++ "<lambda>") params body scope (cloFrom X.env.cells scope.names []) pm c' ctv)) (hfn : H f = none) (hfr : f ∉ frs X.stack) (hco : H c' = some (CodeO c' (X.env.qual ++ "<lambda>"))) (hca : ¬ Av c w σ Γ c')
    (hbind : bindArgs (PySem.W.kla_fn "<lambda>" (X.env.qual ++ "<lambda>") params body scope (cloFrom X.env.cells scope.names []) pm (.ref c') ctv) ⟨[], []⟩ = pure [])
    (hbody : ∀ (A : Around) (outer : List Env) (s : Shared) (H : Hp) (E : XK), Bd (lamCxN X A outer s H E scope f c') (Wx E) k → QEx (lamCxN X A outer s H E scope f c') (Wx E) body qe) :
    ActAt X.prog X.w X.K X.mg X.base (k + 1) (frs X.stack) s w (hidOf c σ Γ H) H f (lamF Γ.sl qe) where
  obj := ⟨⟨_, _, _, _, hf⟩, hfn, hfr⟩
  run := by
    intro A outer s1 HZ Q E hr e0 un h
    obtain ⟨w', hid', ob, P, EX, ent, lat, hF, post, xpost⟩ := h
    have of1 := un.keep f _ hf hfn hfr (by simp)
    obtain ⟨hcz, hcz2⟩ := lat.keep _ _ hco fun z => hca ((hid_iff er).mp z)
    obtain ⟨⟨oc, vs, t, hoc, hdc, hvc⟩, _, _⟩ := e0.hok c' _ hcz
    refine PySem.W.kla_callFunE hr.depth of1 rfl L.co L.gen rfl ⟨c', oc, vs, t, rfl, hoc, hdc, hvc⟩ ?_
    rw [hbind]
    have lim : s1.heap.NoLimit := e0.mod.nolimit.keeps fun b o e => (e0.bs b o e).1
    refine wpAny_pure (wpAny_newFunctionEnv (fun y hy => (L.own y hy).2) (fun y hy => absurd hy (by simp)) (fun h₁ hns hsb => ⟨lim.fresh _ hsb, ?_⟩) L.kind)
    show codeAny _ _ (.expr body (lamEnv X scope s1.heap.objs.size f c')) _ _
    have kp : ∀ b o, s1.heap.get? b = some o → h₁.get? b = some o := fun b o e => hsb.extBut b o (Nat.ne_of_lt (Heap.lt_size e)) (Heap.get?_push_of_some _ e)
    have J0 := LamX.lam_start2 (E := E) (f := f) (c' := c') (tk := s1.toks + ([] : List (Str × Value)).length) I L e0 hr.hd un hns kp
    have J : Inv (lamCxN X A outer s1 HZ E scope f c') [] σ HZ { s1 with heap := h₁, toks := s1.toks + ([] : List (Str × Value)).length } := J0.toTry _
    have B : Bd (lamCxN X A outer s1 HZ E scope f c') (Wx E) k := ⟨rfl, passes_of rfl, L2N.takes_of rfl rfl rfl rfl, hr.deeper _⟩
    have low : ∀ {w2 : List Addr} {H2 : Hp} {Γ2 : G} {d : D} {v : V}, Rep X.K H2 (Av ⟨w', HZ, hid'⟩ w2 σ Γ2) w2 d v → Rep X.K H2 (av2 w2 hid') w2 d v :=
      fun {w2 H2 Γ2 d v} r => r.keep (fun a o h n => ⟨h, fun z => n (av2_av (c := ⟨w', HZ, hid'⟩) z)⟩) (List.prefix_refl _)
    have kk : ∀ a o, H a = some o → ¬ Av c w σ Γ a → HZ a = some o ∧ ¬ Av ⟨w', HZ, hid'⟩ w' σ ⟨maskL Γ.sl, ob⟩ a := fun a o h n => by
      obtain ⟨g1, g2⟩ := lat.keep a o h fun z => n ((hid_iff er).mp z)
      refine ⟨g1, fun z => ?_⟩
      rcases z with z | z | ⟨i, z⟩
      · exact g2 (.inl z)
      · exact g2 (.inr z)
      · exact mask_own z
    have er2 : ER X.K ⟨w', HZ, hid'⟩ w' HZ σ ⟨maskL Γ.sl, ob⟩ := by
      refine ⟨?_, ent.wl, ent.wn, fun _ _ _ z _ => (mask_own z).elim, fun _ _ z => (mask_own z).elim, fun i sl hs => ?_, fun n a o h1 h2 => ?_, fun a o h n => ⟨h, n⟩, List.prefix_refl _, ent.hid⟩
      · show σ.length = (Γ.sl.map maskS).length
        rw [List.length_map]
        exact er.len
      · have hs : (Γ.sl.map maskS)[i]? = some sl := hs
        rw [List.getElem?_map] at hs
        cases q : Γ.sl[i]? with
        | none =>
          rw [q] at hs
          cases hs
        | some t =>
          rw [q] at hs
          cases hs
          have z := er.sl i t q
          cases t with
          | un => trivial
          | va d =>
            obtain ⟨v, e1, r⟩ := z
            exact ⟨v, e1, r.keep kk lat.pre⟩
          | ow ds => trivial
          | od ks ds => trivial
      · refine (ent.ob n a o h1 h2).keep (fun a o h n => ⟨h, fun z => n ?_⟩) (List.prefix_refl _) fun u h => h
        rcases z with z | z | ⟨i, z⟩
        · exact .inl z
        · exact .inr z
        · exact (mask_own z).elim
    have bd := hbody A outer s1 HZ E B ⟨w', HZ, hid'⟩
    refine PySem.W.kla_codeExpr (wpAny_mono (bd.run [] _ σ HZ Q J ⟨w', _, _, _, er2, hF, fun e Γ2 w2 σ2 H2 cls d q1 s1' e1 r1 => ?_, fun d Γ2 w2 H2 v q1 s1' e1 r1 => ?_⟩) (fun v s' hq => ?_) fun e s' hq => hq)
    · obtain ⟨g1, dd, kvs, g2, g3, g4, g5, g6⟩ := r1
      exact xpost e Γ2.ob w2 H2 cls d q1 e1.stay e1.ent ⟨g1, dd, kvs, g2, g3, fun z => g4 (av2_av (c := ⟨w', HZ, hid'⟩) z), g5, g6.keep (fun a o h n => ⟨h, fun z => n (av2_av (c := ⟨w', HZ, hid'⟩) z)⟩) (List.prefix_refl _)⟩
    · exact post d Γ2.ob w2 H2 v q1 e1.stay e1.ent (low r1)
    · obtain ⟨u, H', J', rv, q⟩ := hq
      exact ⟨u, H', J'.os, J'.bare, J'.base, J'.hok, rv, q⟩
end
/-! ### a def that takes a callable -/
structure FnL (P : Program) (wd : World) (K : PySem.W.Frag) (mg : Str → Option Value) (base : Heap) (k ka : Nat) (g : Addr) (fd : FuncData) (p : Str) (TT : FQ → FQ) : Prop where
  run : ∀ (F : FQ) (f : Addr) (A : Around) (outer : List Env) (s : Shared) (H : Hp) (args : Args) (w : List Addr) (hid : Hp) (ob : List Ob) (R : D → List Ob → Prop) (EX : Exc → List Ob → Prop) (Q : VK) (E : XK), Room k A → Env0 P wd K mg base A outer s H → BindsTo s fd args [(p, .ref f)] →
    ActAt P wd K mg base ka (frs outer) s w hid H f F → Ent K w hid H ob → TT F EX [] ob R →
    (∀ d ob' w' H' v, R d ob' → Stay w H w' H' → Ent K w' hid H' ob' → Rep K H' (av2 w' hid) w' d v → Q v H') →
    (∀ e ob' w' H' cls d, EX e ob' → Stay w H w' H' → Ent K w' hid H' ob' → Exr2 K w' hid H' e cls d → E cls d H') →
    codeAny (model P wd) A (.call (.ref g) args) (CR (L2N.CX P wd) outer P wd H s Q E) s
def fqL (N : List Str) (q : Addr → FQ → QS) : FQ → FQ := fun F EX _ ob P => ∀ f, q f F (fun e Γ => EX e Γ.ob) ⟨fun Γ => P .non Γ.ob, fun d Γ => P d Γ.ob, fun _ => False, fun _ => False⟩ (G0 N [.adr f] ob)
theorem FnL.imp {P : Program} {wd : World} {K : PySem.W.Frag} {mg : Str → Option Value} {base : Heap} {k ka : Nat} {g : Addr} {fd : FuncData} {p : Str} {TT TT' : FQ → FQ} (h : FnL P wd K mg base k ka g fd p TT) (i : ∀ F EX ob R, TT' F EX [] ob R → TT F EX [] ob R) :
    FnL P wd K mg base k ka g fd p TT' := ⟨fun F f A outer s H args w hid ob R EX Q E h1 h2 h3 h4 h5 h6 => h.run F f A outer s H args w hid ob R EX Q E h1 h2 h3 h4 h5 (i F EX ob R h6)⟩
section
variable {P : Program} {wd : World} {K : PySem.W.Frag} {mg : Str → Option Value} {base : Heap} {x qual : Str} {params : Arguments} {body : List Stmt} {scope : Scope} {dvs : List V} {kws : List (Str × V)} {g : Addr} {fd : FuncData} {p : Str}
theorem fl_ok {N : List Str} {k ka : Nat} {q : Addr → FQ → QS} (DF : FunD K x qual params body scope dvs kws g fd) (S : FnScope N [p] scope) (hl : 1 ≤ N.length) (hka : ka ≤ k)
    (hb : ∀ (cdv : Value) (A : Around) (outer : List Env) (s : Shared) (H : Hp) (E : XK) (w : List Addr) (hid : Hp) (f : Addr) (F : FQ), Bd (cxOf (L2N.CX P wd) P wd K mg base N qual scope g cdv A outer s H E) (Wx E) k →
      ActAt P wd K mg base ka (frs outer) s w hid H f F → PSs (cxOf (L2N.CX P wd) P wd K mg base N qual scope g cdv A outer s H E) body (liftS K ⟨w, H, hid⟩ (Wx E) (q f F))) : FnL P wd K mg base (k + 1) ka g fd p (fqL N q) := by
  constructor
  intro F f A outer s H args w hid ob R EX Q E hr e0 hbn act ent hT post xpost
  obtain ⟨oc, od, dV, kV, doc, pm, an, cdv, ct, osl, rfl, lk, hcd, _, _⟩ := DF.ex
  refine LamX.run_ofS (N := N) (ps := [p]) (us := [.ref f]) (vs := [.ref f]) lk hcd S hr e0 hbn (.cons rfl .nil) rfl fun hr' => ?_
  refine ⟨_, hb cdv A outer s H E w hid f F ⟨rfl, passes_of rfl, L2N.takes_of rfl rfl rfl rfl, hr'⟩ act, ?_⟩
  have er := er_start (N := N) (ds := [.adr f]) (vs := [.ref f]) ent (Reps.one rfl) hl
  have low : ∀ {w' : List Addr} {H' : Hp} {σ' : L2.St} {Γ' : G} {d : D} {v : V}, Rep K H' (Av ⟨w, H, hid⟩ w' σ' Γ') w' d v → Rep K H' (av2 w' hid) w' d v :=
    fun {w' H' σ' Γ' d v} r => r.keep (fun a o h n => ⟨h, fun z => n (av2_av (c := ⟨w, H, hid⟩) z)⟩) (List.prefix_refl _)
  refine ⟨w, _, _, _, er, hT f, fun e Γ' w' σ' H' cls d q1 s1 e1 r1 => ?_, ⟨fun Γ' w' σ' H' q1 s1 e1 => ?_, fun d Γ' w' σ' H' v q1 s1 e1 r1 => ?_, fun _ _ _ _ z _ _ => z.elim, fun _ _ _ _ z _ _ => z.elim⟩⟩
  · obtain ⟨g1, dd, kvs, g2, g3, g4, g5, g6⟩ := r1
    exact xpost e Γ'.ob w' H' cls d q1 e1.stay e1.ent ⟨g1, dd, kvs, g2, g3, fun z => g4 (av2_av (c := ⟨w, H, hid⟩) z), g5, g6.keep (fun a o h n => ⟨h, fun z => n (av2_av (c := ⟨w, H, hid⟩) z)⟩) (List.prefix_refl _)⟩
  · exact post _ _ w' H' _ q1 e1.stay e1.ent rfl
  · exact post _ _ w' H' _ q1 e1.stay e1.ent (low r1)
end
end QL
namespace QL
open PySem PySem.Spec PyProof.Rows L2
open LamX (CodeO TabB LamS lamEnv lamCx)
section
variable {X : Cx} {W : WX} {k ka i : Nat} {f g : Addr} {fd : FuncData} {F : FQ} {TT : FQ → FQ} {a x p : Str} {p1 p2 pos : Pos} {c : C0}
/-- a() -/
theorem f_act (B : Bd X W k) (hx : X.ex = []) (ha : ActAt X.prog X.w X.K X.mg X.base ka X.fs X.s_0 c.w0 c.hid c.H0 f F) (hH : c.H0 = X.H_0) (hka : ka ≤ k) (hN : X.N[i]? = some a) (hv : Vis X.env.scope a) (hd : (a == ("__debug__" : Str)) = false) (hcd : (a == ("__classdict__" : Str)) = false) :
    PE X (.Call (.Name a p1) [] [] p2) (liftE X.K c W (qAct i f F)) := by
  constructor
  intro pins s σ H Q I ⟨w, Γ, P, EX, er, ⟨hs, q⟩, xl, kk⟩
  obtain ⟨v0, hv0, rv0⟩ := er.at_va hs
  have rv0 : v0 = V.ref f := rv0
  subst rv0
  apply wpAny_Call_Name_kw
  apply thn ((pe_var (pos := p1) (i := i) hN hv hd hcd).run pins s σ H (fun v H1 => v = .ref f ∧ H1 = H) I ⟨.ref f, hv0, rfl, rfl⟩)
  rintro u s1 ⟨v, H1, I1, r1, ev, eH⟩
  subst ev
  rw [eH] at I1
  obtain rfl : u = Value.ref f := r1
  have un : Un X.fs [] c.H0 H X.s_0.heap s1.heap := by
    have := I1.base
    rw [hx, ← hH] at this
    exact this
  obtain ⟨⟨oc, od, fdd, sl, o1⟩, o2, o3⟩ := ha.obj
  have of1 := un.keep f _ o1 o2 o3 (by simp)
  refine PySem.W.callWith_F0 ⟨_, _, _, _, of1⟩ ?_
  have rc := ha.run X.A X.stack s1 H Q (WE W σ) (B.hr.mono hka) I1.env0 un (act_call er q (fun e Γ' w' H' cls d h1 h2 h3 h4 => xl e Γ' w' σ H' cls d h1 h2 h3 h4) kk)
  refine wpAny_call (codeAny_mono rc fun r s' hq => ?_)
  match r, hq with
  | .error e, hq => exact L2N.passAt B.tk σ pins H s1 e s' I1 hq
  | .ok (.ret u), hq => exact I1.after hq
/-- x(a): the callable is handed on -/
def qPass (i : Nat) (f : Addr) (TT : FQ → FQ) (F : FQ) : QE := fun EX Γ P => Γ.sl[i]? = some (.va (.adr f)) ∧ TT F (fun e ob => EX e ⟨Γ.sl, ob⟩) [] Γ.ob fun d ob => P d ⟨Γ.sl, ob⟩
theorem runL {pins : List (Addr × Obj)} {σ : L2.St} {H : Hp} {s : Shared} {Q : VK} {w : List Addr} {Γ : G} {P : D → G → Prop} {EX : EXG} (G1 : FnL X.prog X.w X.K X.mg X.base k ka g fd p TT) (B : Bd X W k) (hb : Binds X.K fd [p] []) (I : Inv X pins σ H s) (er : ER X.K c w H σ Γ)
    (act : ActAt X.prog X.w X.K X.mg X.base ka (frs X.stack) s w (hidOf c σ Γ H) H f F) (q : TT F (fun e ob => EX e ⟨Γ.sl, ob⟩) [] Γ.ob fun d ob => P d ⟨Γ.sl, ob⟩)
    (xl : ∀ e Γ' w' H' cls d, EX e Γ' → Stp c w σ Γ H w' σ Γ' H' → ER X.K c w' H' σ Γ' → ExR X.K c w' σ Γ' H' e cls d → W cls d σ H')
    (kk : ∀ d Γ' w' H' v, P d Γ' → Stp c w σ Γ H w' σ Γ' H' → ER X.K c w' H' σ Γ' → Rep X.K H' (Av c w' σ Γ') w' d v → Q v H') : wpAny (model X.prog X.w) X.A (call (.ref g) [.ref f]) (EP X pins σ Q) X.xe s := by
  have b := hb s [.ref f] I.kIn rfl
  have rc := G1.run F f X.A X.stack s H ⟨[.ref f], []⟩ w (hidOf c σ Γ H) Γ.ob _ _ Q (WE W σ) B.hr I.env0 b act (ent_call er) q (fun d ob' w' H' v h1 h2 h3 h4 => by
    obtain ⟨g1, g2, g3⟩ := back_call er h2 h3
    exact kk d _ w' H' v h1 g2 g1 (h4.keep (fun a o h n => ⟨h, fun z => n (g3 a z)⟩) (List.prefix_refl _))) (fun e ob' w' H' cls d h1 h2 h3 h4 => by
    obtain ⟨g1, g2, g3⟩ := back_call er h2 h3
    obtain ⟨i1, dd, kvs, i2, i3, i4, i5, i6⟩ := h4
    exact xl e _ w' H' cls d h1 g2 g1 ⟨i1, dd, kvs, i2, i3, fun z => i4 (g3 dd z), i5, i6.keep (fun a o h n => ⟨h, fun z => n (g3 a z)⟩) (List.prefix_refl _)⟩)
  refine wpAny_call (codeAny_mono rc fun r s' hq => ?_)
  match r, hq with
  | .error e, hq => exact L2N.passAt B.tk σ pins H s e s' I hq
  | .ok (.ret u), hq => exact I.after hq
theorem f_pass (B : Bd X W k) (hx : X.ex = []) (ha : ActAt X.prog X.w X.K X.mg X.base ka X.fs X.s_0 c.w0 c.hid c.H0 f F) (hH : c.H0 = X.H_0) (G1 : FnL X.prog X.w X.K X.mg X.base k ka g fd p TT) (hg : Gl X x) (hm : X.mg x = some (.ref g)) (hk : PySem.W.keepIn X.K (.ref g) = true) (hb : Binds X.K fd [p] [])
    (hN : X.N[i]? = some a) (hv : Vis X.env.scope a) (hdx : (x == ("__debug__" : Str)) = false) (hd : (a == ("__debug__" : Str)) = false) (hcd : (a == ("__classdict__" : Str)) = false) (he : starEach [.Name a p1] X.env = [(false, eval (.Name a p1) X.env)]) :
    PE X (.Call (.Name x p2) [.Name a p1] [] pos) (liftE X.K c W (qPass i f TT F)) := by
  constructor
  intro pins s σ H Q I ⟨w, Γ, P, EX, er, ⟨hs, q⟩, xl, kk⟩
  obtain ⟨v0, hv0, rv0⟩ := er.at_va hs
  have rv0 : v0 = V.ref f := rv0
  subst rv0
  apply wpAny_Call_Name_kw (ld_glob I hg hm ?_ hdx)
  have hp : PA X [.Name a p1] (tCons (tVar i) tNil) := pa_cons (pe_var hN hv hd hcd) pa_nil (by rw [he]; rfl)
  apply PySem.W.callWith_K (h₀ := X.base) I.ok.mod.kin hk (thn (hp.run pos pins s σ H (fun vs H1 => vs = [V.ref f] ∧ H1 = H) I ⟨.ref f, hv0, rfl, rfl⟩) ?_) (by rw [he]; rfl) (by rfl)
  rintro us s1 ⟨vs, H1, I1, r1, ev, eH⟩
  subst ev
  rw [eH] at I1
  obtain ⟨u, rfl, ru⟩ : ∃ u, us = [u] ∧ RelV (V.ref f) u := by
    cases r1 with
    | cons ru rn =>
      cases rn
      exact ⟨_, rfl, ru⟩
  obtain rfl : u = Value.ref f := ru
  refine ⟨I1.kIn, ?_⟩
  have un : Un X.fs [] c.H0 H X.s_0.heap s1.heap := by
    have := I1.base
    rw [hx, ← hH] at this
    exact this
  have act := ha.later (fs2 := frs X.stack) un er.lat fun y hy => by
    rcases List.mem_cons.mp (I1.stkSub y hy) with e | e
    · refine .inr ?_
      rw [e]
      cases z : X.s_0.heap.get? X.env.locals with
      | none => rfl
      | some o => exact absurd (Nat.lt_of_lt_of_le (Heap.lt_size z) I1.ok.above) (Nat.lt_irrefl _)
    · exact .inl e
  exact runL G1 B hb I1 er act q (fun e Γ' w' H' cls d h1 h2 h3 h4 => xl e Γ' w' σ H' cls d h1 h2 h3 h4) kk
/-- x(lambda: body); t the object that is the law's table -/
def qLam (P : Addr) (qn : Str) (t : Nat) (TT : FQ → FQ) (qe : QE) : QE := fun EX Γ R => Γ.ob[t]? = some (.tab P qn) ∧ TT (lamF Γ.sl qe) (fun e ob => EX e ⟨Γ.sl, ob⟩) [] Γ.ob fun d ob => R d ⟨Γ.sl, ob⟩
theorem ER.lam {K : PySem.W.Frag} {c : C0} {w : List Addr} {H H1 : Hp} {σ : L2.St} {Γ : G} {t : Nat} {P c' : Addr} {ps : Array Value} {qn : Str} (er : ER K c w H σ Γ) (ht : Γ.ob[t]? = some (.tab P qn)) (hw : w[t]? = some P) (hP : H P = some (.tbl ps))
    (ha : ∀ (pos : Pos) (cv : Value), codeAmong pos ps.toList = some cv → ∃ c1, cv = .ref c1 ∧ H c1 = some (CodeO c1 qn) ∧ ¬ Av c w σ Γ c1) (h : LamHp H P ps c' qn H1) :
    ER K c w H1 σ Γ ∧ Stp c w σ Γ H w σ Γ H1 ∧ H1 c' = some (CodeO c' qn) ∧ ¬ Av c w σ Γ c' := by
  rcases h with ⟨rfl, pos, hc⟩ | ⟨more, nC, rfl, hto, hmo⟩
  · obtain ⟨c1, e1, e2, e3⟩ := ha pos _ hc
    cases e1
    exact ⟨er, Stp.refl, e2, e3⟩
  · have sm : Same H (upd H c' (CodeO c' qn)) := same_new nC
    have e1 := er.same sm
    have nPc : P ≠ c' := ne_of_none hP nC
    have nav := er.fresh nC
    have eH : upd (upd H P (.tbl (ps ++ more))) c' (CodeO c' qn) = upd (upd H c' (CodeO c' qn)) P (.tbl (ps ++ more)) := by
      funext b
      by_cases z1 : b = c'
      · rw [z1, upd_same, upd_ne nPc.symm, upd_same]
      · rw [upd_ne z1]
        by_cases z2 : b = P
        · rw [z2, upd_same, upd_same]
        · rw [upd_ne z2, upd_ne z2, upd_ne z1]
    have eG : (⟨Γ.sl, Γ.ob.set t (.tab P qn)⟩ : G) = Γ := by
      have hl := (List.getElem?_eq_some_iff.mp ht).1
      have z : Γ.ob.set t (.tab P qn) = Γ.ob := by
        rw [List.getElem?_eq_getElem hl] at ht
        rw [← Option.some.inj ht]
        exact List.set_getElem_self hl
      rw [z]
    obtain ⟨g1, g2⟩ := e1.updOb (n := t) (a := P) (o := .tbl (ps ++ more)) (u := .tab P qn) hw fun H' av kp hH' => by
      refine ⟨rfl, _, hH', hto, fun pos cv hcv => ?_⟩
      rcases hmo pos cv hcv with z | z
      · obtain ⟨c1, a1, a2, a3⟩ := ha pos cv z
        obtain ⟨b1, b2⟩ := kp c1 _ (sm _ _ a2) a3
        exact ⟨c1, a1, b1, b2⟩
      · obtain ⟨b1, b2⟩ := kp c' _ upd_same nav
        exact ⟨c', z, b1, b2⟩
    rw [eG] at g1 g2
    rw [eH]
    exact ⟨g1, (Stp.same sm).trans g2, by rw [upd_ne nPc.symm, upd_same], nav⟩
theorem q_lam {cA P : Addr} {t kb : Nat} {params : Arguments} {body : Expr} {scope : Scope} {lpos : Pos} {qe : QE} {qn : Str} (B : Bd X W k) (G1 : FnL X.prog X.w X.K X.mg X.base k (kb + 1) g fd p TT) (hg : Gl X x) (hm : X.mg x = some (.ref g)) (hk : PySem.W.keepIn X.K (.ref g) = true) (hb : Binds X.K fd [p] [])
    (TB : TabB X.base X.mg cA P) (hcode : X.env.code = .ref cA) (hqn : X.env.qual ++ "<lambda>" = qn) (L : LamS X.env.scope scope) (hdef : defaultsOf params X.env = ([], []))
    (hbind : ∀ (q : Str) (cl : List (Str × Addr)) (pm cv ctv : Value), bindArgs (PySem.W.kla_fn "<lambda>" q params body scope cl pm cv ctv) ⟨[], []⟩ = pure [])
    (hbody : ∀ (A : Around) (outer : List Env) (s : Shared) (H : Hp) (E : XK) (f c' : Addr), Bd (lamCxN X A outer s H E scope f c') (Wx E) kb → QEx (lamCxN X A outer s H E scope f c') (Wx E) body qe)
    (hdx : (x == ("__debug__" : Str)) = false := by decide) : QEx X W (.Call (.Name x p2) [.Lambda params body scope lpos] [] pos) (qLam P qn t TT qe) := fun c => by
  constructor
  intro pins s σ H Q I ⟨w, Γ, R, EX, er, ⟨ht, q⟩, xl, kk⟩
  obtain ⟨P', hw, hP', ps, hP, hto, hal⟩ := er.obAt ht
  subst hP'
  subst hqn
  apply wpAny_Call_Name_kw (ld_glob I hg hm ?_ hdx)
  refine PySem.W.callWith_K (h₀ := X.base) I.ok.mod.kin hk ?_ (by rfl) (by rfl)
  show wpAny _ _ (spliced ((false, eval (.Lambda params body scope lpos) X.env) :: backTo pos (starEach [] X.env))) _ _ s
  refine Calls.spliced_cons (lam_make3 I TB hcode hP hto (fun pos cv e => ?_) hdef (L.has I.ok) fun f c' pm ctv H1 s' I1 hlh hf hfn hfr => Calls.spliced_nil ⟨I1.kIn, ?_⟩)
  · obtain ⟨c1, e1, e2, _⟩ := hal pos cv e
    exact ⟨c1, e1, e2⟩
  · obtain ⟨er1, st1, hco, hca⟩ := er.lam ht hw hP hal hlh
    have act := act_made (k := kb) I1 er1 L hf hfn hfr hco hca (hbind _ _ _ _ _) fun A outer s H E B2 => hbody A outer s H E f c' B2
    exact runL (EX := EX) (P := R) G1 B hb I1 er1 act q (fun e Γ' w' H' cls d h1 h2 h3 h4 => xl e Γ' w' σ H' cls d h1 (st1.trans h2) h3 h4) fun d Γ' w' H' v h1 h2 h3 h4 => kk d Γ' w' H' v h1 (st1.trans h2) h3 h4
end
end QL
namespace QL
open PySem PySem.Spec PyProof.Rows L2
/-! ### a def whose code object is asked for -/
def codeAt (K : PySem.W.Frag) (f : Addr) : Addr := match K.lookup f with
  | some ⟨_, _, .func fd, _⟩ => (match fd.code with
    | .ref c => c
    | _ => 0)
  | _ => 0
section
variable {P : Program} {wd : World} {K : PySem.W.Frag} {mg : Str → Option Value} {base : Heap} {x qual : Str} {params : Arguments} {body : List Stmt} {scope : Scope} {dvs : List V} {kws : List (Str × V)} {f : Addr} {fd : FuncData}
theorem fq_okT {N ps : List Str} {k : Nat} {q : QS} (F : FunD K x qual params body scope dvs kws f fd) (S : FnScope N ps scope) (hl : ps.length ≤ N.length)
    (hb : ∀ (cdv : Value) (A : Around) (outer : List Env) (s : Shared) (H : Hp) (E : XK), cdv = .ref (codeAt K f) → Bd (cxOf (L2N.CX P wd) P wd K mg base N qual scope f cdv A outer s H E) (Wx E) k →
      QSs (cxOf (L2N.CX P wd) P wd K mg base N qual scope f cdv A outer s H E) (Wx E) body q) : FnOk P wd K mg base (L2N.CX P wd) (k + 1) f fd ps (spQ K ps.length (fqOf N q)) := by
  obtain ⟨oc, od, dV, kV, doc, pm, an, cdv, ct, osl, rfl, lk, hcd, _, _⟩ := F.ex
  obtain ⟨ca, rfl⟩ := He.codeIn_ref hcd
  have hca : ca = codeAt K f := by
    unfold codeAt
    rw [lk]
  refine fn_of lk hcd S (fun vs H Q E h => spQ_len h) fun A outer s H vs Q E hr h => ?_
  obtain ⟨w, hid, ob, ds, P', EX, h1, h2, h3, h4, h5, h6⟩ := h
  refine ⟨_, hb (.ref ca) A outer s H E (by rw [hca]) ⟨rfl, passes_of rfl, L2N.takes_of rfl rfl rfl rfl, hr⟩ ⟨w, H, hid⟩, ?_⟩
  have er := er_start (N := N) h1 h2 (by rw [h3]; exact hl)
  have low : ∀ {w' : List Addr} {H' : Hp} {σ' : L2.St} {Γ' : G} {d : D} {v : V}, Rep K H' (Av ⟨w, H, hid⟩ w' σ' Γ') w' d v → Rep K H' (av2 w' hid) w' d v :=
    fun {w' H' σ' Γ' d v} r => r.keep (fun a o h n => ⟨h, fun z => n (av2_av (c := ⟨w, H, hid⟩) z)⟩) (List.prefix_refl _)
  refine ⟨w, _, _, _, er, h4, fun e Γ' w' σ' H' cls d q1 s1 e1 r1 => ?_, ⟨fun Γ' w' σ' H' q1 s1 e1 => ?_, fun d Γ' w' σ' H' v q1 s1 e1 r1 => ?_, fun _ _ _ _ z _ _ => z.elim, fun _ _ _ _ z _ _ => z.elim⟩⟩
  · obtain ⟨g1, dd, kvs, g2, g3, g4, g5, g6⟩ := r1
    exact h6 e Γ'.ob w' H' cls d q1 e1.stay e1.ent ⟨g1, dd, kvs, g2, g3, fun z => g4 (av2_av (c := ⟨w, H, hid⟩) z), g5, g6.keep (fun a o h n => ⟨h, fun z => n (av2_av (c := ⟨w, H, hid⟩) z)⟩) (List.prefix_refl _)⟩
  · exact h5 _ _ w' H' _ q1 e1.stay e1.ent rfl
  · exact h5 _ _ w' H' _ q1 e1.stay e1.ent (low r1)
end
theorem saysX_Q {fa : List He.Fa} {fn : List He.DefD} {tf : List He.Defn} {xb : List (PySem.W.Frag → Bool)} {w : World} {h : Heap} {K : PySem.W.Frag} (c : He.SaysX fa fn [] tf (fun K => xb.all fun f => f K) w h K) : SaysQ fa fn xb K :=
  ⟨congrArg (fun z : He.AlT => z.1) (show He.obsT fa fn [] K = He.valT fn [] w from c.t), List.all_eq_true.mp c.more⟩
theorem walk_ofQT {l : PySem.W.OpenLaw} {n k : Nat} {q : Program} {loose : List Str} {XP : (Str → Option Value) → Heap → Prop} {YP : World → Heap → Prop} {d : DefRec} {x : Str}
    (hn : l.most = some n) (hn2 : n ≤ sizeLine) (hdf : d.params.defaults = []) (hr : Room k callerA)
    (F : ∀ (w : World) (mg : Str → Option Value) (fa : Addr) (h : Heap), YP w h → h.Ns mainGlobals mg → mg d.name = some (.ref fa) →
      ∃ (K : PySem.W.Frag) (fd : FuncData) (C : FQ) (cA Pt : Addr) (qn : Str), K.In h ∧ h.get? Pt = some { cls := .none, data := .fields #[] } ∧ K.lookup Pt = none ∧ PySem.W.CodeHd h cA Pt ∧ (∀ (s : Shared) (u : Value), BindsTo s fd ⟨[u], []⟩ [(x, u)]) ∧
        (∀ ns : List Int, ns.length ≤ n → (∀ z ∈ ns, Builtin.Int.intBits z ≤ 1048576) → C (fun _ _ => False) [.frl (ns.map D.int)] [.tab Pt qn] fun r _ => r = .bl true) ∧
        ∀ base : Heap, K.In base → base.Ns mainGlobals mg → LamX.TabB base mg cA Pt → FnOk l.prog w K mg base (L2N.CX l.prog w) k fa fd [x] (spQ K 1 C)) :
    PySem.W.WalkO q loose XP YP l.row.toRowW d [] (fun f vs => PySem.call f vs) := by
  refine LamX.walk_ofTsE (CX := fun w => L2N.CX l.prog w) (x := x) hn hn2 hdf hr (fun w mg fa h Y G hmg => ?_) fun w H s e s' => ?_
  · obtain ⟨K, fd, C, cA, Pt, qn, KX, t1, t2, t3, hb, hsp, hF⟩ := F w mg fa h Y G hmg
    refine ⟨K, KX, fd, [(cA, Pt)], spQ K 1 C, ?_, ?_, ?_, hb, fun H a ns hlen hbits hH hS => ?_, fun base X1 X2 X3 => hF base X1 X2 (X3 _ (List.mem_singleton.mpr rfl))⟩
    · intro p hp
      rw [List.mem_singleton.mp hp]
      exact t1
    · intro p hp
      rw [List.mem_singleton.mp hp]
      exact t2
    · intro p hp
      rw [List.mem_singleton.mp hp]
      exact t3
    · have hP : H Pt = some (.tbl #[]) := hH _ (List.mem_singleton.mpr rfl)
      refine ⟨[Pt], fun _ => none, [.tab Pt qn], [.frl (ns.map D.int)], _, _, ⟨rfl, by simp, fun n a o h1 h2 => ?_, fun a o h => ?_⟩, ?_, rfl, hsp ns hlen hbits, fun r ob' w' H' v hr hs he hv => ?_, fun e ob' w' H' cls d z => z.elim⟩
      · cases n with
        | zero =>
          cases h1
          cases h2
          exact ⟨rfl, #[], hP, True.intro, fun pos cv hc => by
            have z : codeAmong pos [] = some cv := hc
            simp [codeAmong] at z⟩
        | succ n => simp at h1
      · cases h
      · refine Reps.one ⟨a, ns.map V.int, rfl, ?_, ?_⟩
        · rcases hS with hS | hS
          · refine .inl ⟨hS, fun z => ?_⟩
            rcases z with z | ⟨o, z⟩
            · rw [List.mem_singleton.mp z] at hS
              rcases hS with hS | ⟨o, hS⟩
              · rw [hP] at hS
                cases hS
              · rw [hP] at hS
                cases hS
            · cases z
          · exact .inr fun _ => .inr hS
        · clear hlen hbits hS hsp
          induction ns with
          | nil => rfl
          | cons z zs ih => exact Reps.cons rfl ih
      · have hr : r = .bl true := hr
        subst hr
        exact hv
  · rintro ⟨a, B, H', cls, d, h⟩
    exact h.2.2.2.2.2.2.2
end QL
namespace QL
open PySem PySem.Spec PyProof.Rows L2
open L2H (RoomH Hot1 PinOk cxH inv_startH HotC)
/-! ### a, b = x, y while an exception is handled -/
section
variable {prog : Program} {w : World} {A : Around} {E : Value → Shared → Prop} {s : Shared}
theorem tuple_end_hot {it t x1 : Addr} {i : Nat} {items : Array Value} {Q : Option Value → Shared → Prop} (hot : HotX.HotAt A x1 s.heap) (hne : x1 ≠ it)
    (hit : IsTupIter s.heap it t i) (ht : IsTup s.heap t items) (hx : items[i]? = none) (hQ : ∀ h', Heap.ExtBut it s.heap h' → Q none { s with heap := h' }) : wpAny (model prog w) A (pyNext (.ref it)) Q E s := by
  obtain ⟨o, ho, hc, hd⟩ := id hit
  obtain ⟨ol, hol, _, nl, hdl⟩ := ht
  obtain ⟨hh, o1, vs1, h1, d1, c1⟩ := hot
  unfold pyNext
  apply wpAny_bind
  apply wpAny_attempt
  apply wpAny_callSpecial?_slot (name := Str.ofString "__next__") hit.typeIs slot_tupleiter_next
  apply wpAny_call_entry slot_tupleiter_next hit.typeIs entry_tupleiter_next ?_ (args_tupleiter_next _)
  show wpAny _ _ (field (.ref it) 0 >>= _) _ _ s
  apply wpAny_bind
  apply wpAny_field ho hd (x := .ref t) rfl
  show wpAny _ _ (if (Value.ref t == Value.none) = true then _ else _) _ _ s
  rw [if_neg (show ¬ ((Value.ref t == Value.none) = true) from Bool.false_ne_true)]
  show wpAny _ _ (field (.ref it) 1 >>= _) _ _ s
  apply wpAny_bind
  apply wpAny_field ho hd (x := .int i 0) rfl
  show wpAny _ _ (seqItems? (.ref t) >>= _) _ _ s
  apply wpAny_bind
  apply wpAny_seqItems hol hdl
  simp only [Int.toNat_natCast, hx]
  refine wpAny_bind (wpAny_rule (wpAny_bind (wpAny_setField ho hd (by simp) ?_)))
  show wpAny _ _ (newExc (.type "StopIteration") [] >>= _) _ _ _
  apply wpAny_bind
  simp only [newExc, newTuple]
  refine wpAny_bind (wpAny_newObj_type ?_ (by size_fits))
  refine wpAny_bind (m := firstArgMember _ _) (wpAny_of_eq (a := Value.none) (by first | rfl | (simp only [firstArgMember]; rfl)) ?_)
  refine wpAny_newObj_type ?_ (by size_fits)
  refine HotX.raiseNew_hot ⟨hh, o1, vs1, Heap.get?_push_of_some _ (Heap.get?_push_of_some _ ((Heap.get?_update_ne _ _ _ _ hne).trans h1)), d1, c1⟩
    (Nat.ne_of_lt (Heap.lt_size (Heap.get?_push_of_some _ ((Heap.get?_update_ne _ _ _ _ hne).trans h1)))) (Heap.get?_push_size _ rfl) rfl (by first | (simp; done) | (simp; omega) | (simp only [Array.size_append]; simp; omega)) ?_
  refine wpAny_bind (wpAny_isInstance (T := "StopIteration") (b := true) ⟨_, Heap.get?_update_self _ (Heap.get?_push_size _ rfl) rfl, rfl⟩ isSubtype_stop ?_)
  refine wpAny_pure (hQ _ fun b o hb e => ?_)
  have e' := fun f => (Heap.get?_update_ne s.heap b it f hb).trans e
  rw [Heap.get?_update_other _ _ (Nat.ne_of_gt (Heap.lt_size (Heap.get?_push_of_some _ (e' _))))]
  exact Heap.get?_push_of_some _ (Heap.get?_push_of_some _ (e' _))
theorem unpack_hot {t x1 : Addr} {items : Array Value} {Q : List Value → Shared → Prop} (hot : HotX.HotAt A x1 s.heap) (ht : IsTup s.heap t items)
    (hQ : ∀ h', Heap.ExtBut s.heap.objs.size s.heap h' → Q items.toList { s with heap := h' }) : wpAny (model prog w) A (unpackItems (.ref t) items.size none) Q E s := by
  have hlt : t ≠ s.heap.objs.size := by
    obtain ⟨o, ho, _⟩ := ht
    exact Nat.ne_of_lt (Heap.lt_size ho)
  obtain ⟨hh, o1, vs1, h1, d1, c1⟩ := hot
  have hx1 : x1 ≠ s.heap.objs.size := Nat.ne_of_lt (Heap.lt_size h1)
  unfold unpackItems
  apply wpAny_bind
  unfold notIterableAtAll
  apply wpAny_bind
  apply wpAny_specialOf ht.typeIs slot_tuple_iter.lookup
  apply wpAny_pure
  simp only [Bool.false_eq_true, if_false]
  refine wpAny_bind (wpAny_holding (iter_tuple ht ?_))
  refine wpAny_bind (wpAny_holding (draw_tuple hlt items.size 0 _ _ ⟨_, Heap.get?_push_size _ rfl, rfl, rfl⟩ (ht.push _) (by omega) fun h₁ hit₁ hs₁ => ?_))
  have hall : List.take items.size (List.drop 0 items.toList) = items.toList := by
    rw [List.drop_zero]
    exact List.take_of_length_le (by simp)
  rw [hall, if_neg (by simp)]
  have ht₁ : IsTup h₁ t items := (ht.push _).extBut hs₁.extBut hlt
  have hx' : h₁.get? x1 = some o1 := hs₁.extBut x1 _ hx1 (Heap.get?_push_of_some _ h1)
  refine wpAny_bind (wpAny_holding (tuple_end_hot ⟨hh, o1, vs1, hx', d1, c1⟩ hx1 hit₁ ht₁ (by simp) fun h₂ he₂ => ?_))
  simp only [Option.isSome_none, Bool.false_eq_true, if_false]
  exact wpAny_pure (hQ h₂ fun b o hb e => he₂ b o hb (hs₁.extBut b o hb (Heap.get?_push_of_some _ e)))
end
section
variable {X : Cx} {W : WX} {x y : Str} {a b : Expr} {qr : QA} {pos : Pos}
theorem ps_parH {i j : Nat} {ta : TA} {px py pt : Pos} {kt k2 pt2} (hc : HotC X) (hN : X.N.Nodup) (hi : X.N[i]? = some x) (hj : X.N[j]? = some y) (hij : i ≠ j) (hx : X.env.scope.names.lookup x = some .local) (hy : X.env.scope.names.lookup y = some .local) (ha : PA X [a, b] ta)
    (hw : swappedStores [.Tuple [.Name x px, .Name y py] kt pt] (.Tuple [a, b] k2 pt2) X.env = pure (some [x, y])) (hs : swapsWithSole [.Tuple [.Name x px, .Name y py] kt pt] (.Tuple [a, b] k2 pt2) pos.line X.env = pure false) :
    PS X (.Assign [.Tuple [.Name x px, .Name y py] kt pt] (.Tuple [a, b] k2 pt2) pos) (tPar i j ta) := by
  constructor
  intro pins s σ H D I h
  rw [exec_Assign_arm]
  apply wpAny_bind
  apply wpAny_standAt
  rw [hs]
  apply wpAny_bind
  apply wpAny_pure
  rw [if_neg (by decide)]
  apply wpAny_bind
  apply Tuple_
  apply thn (ha.run _ pins s σ H _ I h)
  rintro us s1 ⟨vs, H1, I1, r1, v, w, e1, q1⟩
  subst e1
  obtain ⟨u1, u2, rfl, rv, rw'⟩ : ∃ u1 u2, us = [u1, u2] ∧ RelV v u1 ∧ RelV w u2 := by
    match us, r1 with
    | [_, _], .cons p (.cons p' .nil) => exact ⟨_, _, rfl, p, p'⟩
  refine wpAny_newObj_type ?_ (by show 2 ≤ sizeLine; decide)
  have I2 : Inv X pins σ H1 { s1 with heap := s1.heap.push { cls := .type "tuple", data := .seq [u1, u2].toArray } } := I1.kept (t' := s1.toks) fun b o e => Heap.get?_push_of_some _ e
  obtain ⟨x1, hot⟩ := hc.at I2
  rw [hw]
  apply wpAny_bind
  apply wpAny_pure
  show wpAny (model X.prog X.w) X.A (do rule "assign.swapped-stores"; let items ← unpackItems (.ref s1.heap.objs.size) 2 none; assignInOrder [fun v => bindName X.env y v, fun v => bindName X.env x v] items.reverse; pure Flow.next) _ _ _
  apply wpAny_bind
  apply wpAny_rule
  apply wpAny_bind
  refine unpack_hot (items := #[u1, u2]) hot (IsTup.new s1.heap _) fun h' hx' => ?_
  have I3 := I2.kept (h' := h') (t' := s1.toks) fun b o e => hx' b o (Nat.ne_of_lt (Heap.lt_size e)) e
  show wpAny _ _ (assignInOrder [fun v => bindName X.env y v, fun v => bindName X.env x v] [u2, u1] >>= fun _ => pure Flow.next) _ _ _
  apply wpAny_bind
  refine assignInOrder_cons (wpAny_bindName (store_ok I3 hN hj (.inl hy) rw' (fun s2 I4 => ?_) (.inr hy)))
  refine assignInOrder_cons (wpAny_bindName (store_ok I4 hN hi (.inl hx) rv (fun s3 I5 => assignInOrder_nil (wpAny_pure ?_)) (.inr hx)))
  rw [List.set_comm _ _ (Ne.symm hij)] at I5
  exact ⟨_, H1, I5, q1⟩
theorem qs_parH {i j : Nat} {px py pt : Pos} {kt k2 pt2} (hc : HotC X) (hN : X.N.Nodup) (hi : X.N[i]? = some x) (hj : X.N[j]? = some y) (hij : i ≠ j) (hx : X.env.scope.names.lookup x = some .local) (hy : X.env.scope.names.lookup y = some .local) (ha : QAx X W [a, b] qr)
    (hw : swappedStores [.Tuple [.Name x px, .Name y py] kt pt] (.Tuple [a, b] k2 pt2) X.env = pure (some [x, y]))
    (hs : swapsWithSole [.Tuple [.Name x px, .Name y py] kt pt] (.Tuple [a, b] k2 pt2) pos.line X.env = pure false := by rfl) :
    QSx X W (.Assign [.Tuple [.Name x px, .Name y py] kt pt] (.Tuple [a, b] k2 pt2) pos) (qPar i j qr) := fun c =>
  PSi (ps_parH hc hN hi hj hij hx hy (ha c) hw hs) fun D σ H ⟨w, Γ, E, EX, er, q, x, k⟩ => ⟨w, Γ, _, EX, er, q, x, fun ds Γ1 w1 H1 vs q1 s1 e1 r1 => by
    match ds, q1 with
    | [d, d'], q1 =>
      obtain ⟨u, u', rfl, r, r'⟩ := reps2 r1
      obtain ⟨h1, h2, q1⟩ := q1
      have e2 := e1.set h1 r
      have h2' : j < (Γ1.sl.set i (.va d)).length := by
        rw [List.length_set]
        exact h2
      have s2 : Stp c w1 σ Γ1 H1 w1 (σ.set i (some u)) ⟨Γ1.sl.set i (.va d), Γ1.ob⟩ H1 := stp_set h1
      exact ⟨u, u', rfl, k.nx _ w1 _ H1 q1 ((s1.trans s2).trans (stp_set (Γ := ⟨Γ1.sl.set i (.va d), Γ1.ob⟩) h2')) (e2.set (Γ := ⟨Γ1.sl.set i (.va d), Γ1.ob⟩) h2' (r'.stp s2))⟩⟩
/-- the suite of a clause is hot -/
theorem hotC_suite {a : Addr} {oe : Obj} {pn : List (Addr × Obj)} {cls : Value} {d : Option Addr} (hz : L2N.Zn cls d oe) (hf : ∃ vs : Array Value, oe.data = .fields vs) : HotC (X.suite a ((a, oe) :: pn)) := by
  obtain ⟨vs, hd⟩ := hf
  exact ⟨(a, oe), ⟨rfl, vs, hd, hz.2.2 vs hd⟩, List.mem_cons_self⟩
end
end QL
namespace QL
open PySem PySem.Spec PyProof.Rows L2
open L2H (RoomH Hot1 PinOk cxH inv_startH HotC)
/-! ### x in a list or tuple of flat data -/
def D.fv : D → Option V
  | .non => some .non
  | .bl b => some (.bl b)
  | .int i => some (.int i)
  | .str s => some (.str s)
  | _ => none
def fvs : List D → Option (List V)
  | [] => some []
  | d :: ds => match d.fv, fvs ds with
    | some v, some vs => some (v :: vs)
    | _, _ => none
theorem fv_rep {K : PySem.W.Frag} {H : Hp} {av : Addr → Prop} {w : List Addr} {d : D} {u v : V} (r : Rep K H av w d u) (h : d.fv = some v) : u = v ∧ flatV v = true := by
  cases d <;> cases h <;> exact ⟨r, rfl⟩
theorem fvs_reps {K : PySem.W.Frag} {H : Hp} {av : Addr → Prop} {w : List Addr} : ∀ {ds : List D} {us vs : List V}, Reps K H av w ds us → fvs ds = some vs → us = vs ∧ vs.all flatV = true
  | [], us, vs, r, h => by
    cases h
    exact ⟨r, rfl⟩
  | d :: ds, us, vs, r, h => by
    obtain ⟨x, t, rfl, r1, r2⟩ := r
    unfold fvs at h
    cases q1 : d.fv with
    | none =>
      rw [q1] at h
      cases h
    | some v =>
      cases q2 : fvs ds with
      | none =>
        rw [q1, q2] at h
        cases h
      | some vs' =>
        rw [q1, q2] at h
        cases h
        obtain ⟨e1, f1⟩ := fv_rep r1 q1
        obtain ⟨e2, f2⟩ := fvs_reps r2 q2
        exact ⟨by rw [e1, e2], by rw [List.all_cons, f1, f2]; rfl⟩
def oInF (neg : Bool) : QO2 := fun x y Γ P => ∃ ds v vs, y.seq = some ds ∧ x.fv = some v ∧ fvs ds = some vs ∧ P (.bl (if neg then !inV v vs else inV v vs)) Γ
theorem l_inF {K : PySem.W.Frag} {neg : Bool} : Lift2 K (rIn K neg) (oInF neg) := by
  intro c w Γ H σ x y u v P Q er rx ry ⟨ds, vx, vs, h1, h2, h3, q⟩ k
  obtain ⟨a, xs, rfl, hs, rs⟩ := ry.seqR h1
  obtain ⟨rfl, f1⟩ := fv_rep rx h2
  obtain ⟨rfl, f2⟩ := fvs_reps rs h3
  exact ⟨a, _, rfl, hs, f1, f2, k _ Γ w H _ q Stp.refl er rfl⟩
def oInX (neg : Bool) : QO2 := fun x y Γ P => oInF neg x y Γ P ∨ oInL neg x y Γ P
theorem Lift2.or {K : PySem.W.Frag} {r r' : R2} {o o' : QO2} (l : Lift2 K r o) (l' : Lift2 K r' o') : Lift2 K (fun x y H Q => r x y H Q ∨ r' x y H Q) (fun x y Γ P => o x y Γ P ∨ o' x y Γ P) := fun c w Γ H σ x y u v P Q er rx ry h k =>
  h.imp (fun z => l c w Γ H σ x y u v P Q er rx ry z k) fun z => l' c w Γ H σ x y u v P Q er rx ry z k
section
variable {X : Cx} {W : WX} {k : Nat} {a b : Expr} {qa qb : QE} {pos : Pos}
theorem q_inF (ha : QEx X W a qa) (hb : QEx X W b qb) (hm : behindInMarks .In b = false := by with_unfolding_all rfl) : QEx X W (.Compare a [.In] [b] pos) (qOp (oInF false) qa qb) := q_cmp op_in_seq l_inF ha hb hm
theorem qt_inF (ha : QEx X W a qa) (hb : QEx X W b qb) (hm : behindInMarks .In b = false := by with_unfolding_all rfl) : QTx X W (.Compare a [.In] [b] pos) (qTest (qOp (oInF false) qa qb)) := qt_cmp op_in_seq l_inF ha hb hm
theorem q_inX (B : Bd X W k) (ha : QEx X W a qa) (hb : QEx X W b qb) (hm : behindInMarks .In b = false := by with_unfolding_all rfl) : QEx X W (.Compare a [.In] [b] pos) (qOp (oInX false) qa qb) := q_cmp (op_in_seq.or (op_inD B.hr.units65)) (l_inF.or l_inL) ha hb hm
theorem qt_inX (B : Bd X W k) (ha : QEx X W a qa) (hb : QEx X W b qb) (hm : behindInMarks .In b = false := by with_unfolding_all rfl) : QTx X W (.Compare a [.In] [b] pos) (qTest (qOp (oInX false) qa qb)) := qt_cmp (op_in_seq.or (op_inD B.hr.units65)) (l_inF.or l_inL) ha hb hm
theorem q_ninX (B : Bd X W k) (ha : QEx X W a qa) (hb : QEx X W b qb) (hm : behindInMarks .NotIn b = false := by with_unfolding_all rfl) : QEx X W (.Compare a [.NotIn] [b] pos) (qOp (oInX true) qa qb) := q_cmp (op_notIn_seq.or (op_notInD B.hr.units65)) (l_inF.or l_ninL) ha hb hm
theorem qt_ninX (B : Bd X W k) (ha : QEx X W a qa) (hb : QEx X W b qb) (hm : behindInMarks .NotIn b = false := by with_unfolding_all rfl) : QTx X W (.Compare a [.NotIn] [b] pos) (qTest (qOp (oInX true) qa qb)) := qt_cmp (op_notIn_seq.or (op_notInD B.hr.units65)) (l_inF.or l_ninL) ha hb hm
end
/-- == of strings and integers, wherever one stands -/
def oEqS : QO2 := fun x y Γ P => match x, y with
  | .str i, .str j => P (.bl (decide (i = j))) Γ
  | .int i, .int j => P (.bl (decide (i = j))) Γ
  | _, _ => False
theorem l_eqS {K : PySem.W.Frag} : Lift2 K rEq oEqS := by
  intro c w Γ H σ x y u v P Q er rx ry h k
  cases x <;> try exact h.elim
  · cases y <;> try exact h.elim
    have rx : u = _ := rx
    have ry : v = _ := ry
    subst rx ry
    rename_i i j
    refine ⟨rfl, ?_⟩
    have e : decide (V.int i = V.int j) = decide (i = j) := by
      by_cases z : i = j
      · rw [decide_eq_true z, decide_eq_true (by rw [z])]
      · rw [decide_eq_false z, decide_eq_false (fun q => z (V.int.inj q))]
    rw [e]
    exact k _ Γ w H _ h Stp.refl er rfl
  · cases y <;> try exact h.elim
    have rx : u = _ := rx
    have ry : v = _ := ry
    subst rx ry
    rename_i i j
    refine ⟨rfl, ?_⟩
    have e : decide (V.str i = V.str j) = decide (i = j) := by
      by_cases z : i = j
      · rw [decide_eq_true z, decide_eq_true (by rw [z])]
      · rw [decide_eq_false z, decide_eq_false (fun q => z (V.str.inj q))]
    rw [e]
    exact k _ Γ w H _ h Stp.refl er rfl
section
variable {X : Cx} {W : WX} {a b : Expr} {qa qb : QE} {pos : Pos}
theorem q_eqS (ha : QEx X W a qa) (hb : QEx X W b qb) : QEx X W (.Compare a [.Eq] [b] pos) (qOp oEqS qa qb) := q_cmp op_eq l_eqS ha hb (nomark _)
theorem qt_eqS (ha : QEx X W a qa) (hb : QEx X W b qb) : QTx X W (.Compare a [.Eq] [b] pos) (qTest (qOp oEqS qa qb)) := qt_cmp op_eq l_eqS ha hb (nomark _)
end
/-! ### statements at one c -/
section
variable {X : Cx} {W : WX} {c : C0} {st : Stmt} {rest body : List Stmt} {p q : QS} {e : Expr} {qe : QE} {pos pos' : Pos} {x : Str} {k : Nat}
theorem f_cons (h1 : PS X st (liftS X.K c W p)) (h2 : PSs X rest (liftS X.K c W q)) : PSs X (st :: rest) (liftS X.K c W (qSeq p q)) := PSsi (pss_cons h1 h2) fun D σ H ⟨w, Γ, E, EX, er, q, x, k⟩ =>
  ⟨w, Γ, _, EX, er, q, x, fun Γ1 w1 σ1 H1 q1 s1 e1 => ⟨w1, Γ1, E, EX, e1, q1, x.stp s1, k.stp s1⟩, k.rt, k.bk, k.ct⟩
theorem at1 (h : QSx X W st p) (c : C0) : PS X st (liftS X.K c W p) := h c
theorem f_one (h1 : PS X st (liftS X.K c W p)) : PSs X [st] (liftS X.K c W p) := pss_one h1
theorem f_set {i : Nat} (hN : X.N.Nodup) (hi : X.N[i]? = some x) (hx : Loc X.env.scope x) (h : PE X e (liftE X.K c W qe)) (hs : swapsWith e (some (.Name x pos')) pos.line X.env = pure false := by rfl)
    (hf : X.fn x = true ∨ X.env.scope.names.lookup x = some .local := by first | exact .inl rfl | exact .inr rfl | assumption) : PS X (.Assign [.Name x pos'] e pos) (liftS X.K c W (qSet i qe)) :=
  PSi (ps_set hN hi hx h hs hf) fun D σ H ⟨w, Γ, E, EX, er, q, x, k⟩ => ⟨w, Γ, _, EX, er, q, x, fun d Γ1 w1 H1 v q1 s1 e1 r1 => k.nx _ w1 _ H1 q1.2 (s1.trans (stp_set q1.1)) (e1.set q1.1 r1)⟩
theorem f_ret (h : PE X e (liftE X.K c W qe)) : PS X (.Return (some e) pos) (liftS X.K c W (qRet qe)) := PSi (ps_ret h) fun D σ H ⟨w, Γ, E, EX, er, q, x, k⟩ =>
  ⟨w, Γ, _, EX, er, q, x, fun d Γ1 w1 H1 v q1 s1 e1 r1 => k.rt d Γ1 w1 σ H1 v q1 s1 e1 r1⟩
theorem f_try {h₀ : ExceptHandler} {hds : List ExceptHandler} {cl : List ((Str → Option Bool) × Nat × QSu)} (B : Bd X W k) (hs : X.stack = X.env :: X.outer) (hf : X.env.frame = some X.env.locals) (hN : X.N.Nodup)
    (hb : ∀ (W' : WX) (pn : List (Addr × Obj)) (xe : Value → Shared → Prop), Bd (X.tr pn xe) W' k → PSs (X.tr pn xe) body (liftS X.K c W' q)) (hh : HQ X (h₀ :: hds) cl) : PS X (.Try body (h₀ :: hds) [] [] pos) (liftS X.K c W (qTry q cl)) := by
  obtain ⟨l, h1, h2⟩ := hh.low
  exact PSi (ps_tryQ hs hf hN B.tk (tb := fun W' => liftS X.K c W' q) (fun W' pn xe tk hp => hb W' pn xe ⟨B.hc, hp, tk, B.hr⟩) h1) fun D σ H ⟨w, Γ, E, EX, er, qq, x, k⟩ =>
    ⟨w, Γ, E, _, er, qq, h2 c W D E EX w σ Γ H x k, k⟩
end
/-! ### what gen.py prints leans on these -/
theorem Bd.mono {X : Cx} {W : WX} {k j : Nat} (B : Bd X W k) (h : j ≤ k) : Bd X W j := ⟨B.hc, B.hp, B.tk, B.hr.mono h⟩
theorem qB_t {b : Bool} {p q : Prop} (e : b = true) (h : p) : qB b p q := by
  subst e
  exact h
theorem qB_f {b : Bool} {p q : Prop} (e : b = false) (h : q) : qB b p q := by
  subst e
  exact h
def FXOk (P : Program) (wd : World) (K : PySem.W.Frag) (mg : Str → Option Value) (base : Heap) (k : Nat) (d : He.DefD) (ps : List Str) (F : FX) : Prop :=
  ∃ fd, FunD K d.name d.qual d.params d.body d.scope (d.dvs K) (d.kws K) (He.fAd K d.at_) fd ∧ FnX P wd K mg base (L2N.CX P wd) k (He.fAd K d.at_) fd ps (spX K ps.length F)
theorem FXOk.imp {P : Program} {wd : World} {K : PySem.W.Frag} {mg : Str → Option Value} {base : Heap} {k : Nat} {d : He.DefD} {ps : List Str} {F F' : FX} (h : FXOk P wd K mg base k d ps F) (i : ∀ cn a dd ds ob R, ds.length = ps.length → F' cn a dd ds ob R → F cn a dd ds ob R) : FXOk P wd K mg base k d ps F' := by
  obtain ⟨fd, h1, h2⟩ := h
  have up : ∀ {p vs H Q E}, spX K ps.length F' p vs H Q E → spX K ps.length F p vs H Q E := fun {p vs H Q E} ⟨w, hid, ob, ds, P, cn, dd, g1, g2, g3, g4, g5, g6⟩ => ⟨w, hid, ob, ds, P, cn, dd, g1, g2, g3, g4, i _ _ _ _ _ _ g3 g5, g6⟩
  exact ⟨fd, h1, ⟨fun p vs H Q E h => h2.len p vs H Q E (up h), fun A outer s H args us vs Q E p a1 a2 a3 a4 a5 a6 a7 => h2.run A outer s H args us vs Q E p a1 a2 a3 a4 a5 a6 (up a7)⟩⟩
def FLOk (P : Program) (wd : World) (K : PySem.W.Frag) (mg : Str → Option Value) (base : Heap) (k ka : Nat) (d : He.DefD) (p : Str) (TT : FQ → FQ) : Prop :=
  ∃ fd, FunD K d.name d.qual d.params d.body d.scope (d.dvs K) (d.kws K) (He.fAd K d.at_) fd ∧ FnL P wd K mg base k ka (He.fAd K d.at_) fd p TT
theorem FLOk.imp {P : Program} {wd : World} {K : PySem.W.Frag} {mg : Str → Option Value} {base : Heap} {k ka : Nat} {d : He.DefD} {p : Str} {TT TT' : FQ → FQ} (h : FLOk P wd K mg base k ka d p TT) (i : ∀ F EX ob R, TT' F EX [] ob R → TT F EX [] ob R) : FLOk P wd K mg base k ka d p TT' := by
  obtain ⟨fd, h1, h2⟩ := h
  exact ⟨fd, h1, h2.imp i⟩
theorem mt_all {K : PySem.W.Frag} {cs : PySem.W.Frag → List Value} {l : List (Str × Bool)} (h : (l.all fun p => decide (PySem.W.exmAny K (.ref (He.ga K p.1)) (cs K) = some p.2)) = true) : ∀ x b, l.lookup x = some b → PySem.W.exmAny K (.ref (He.ga K x)) (cs K) = some b :=
  fun x b e => of_decide_eq_true (List.all_eq_true.mp h (x, b) (PySem.mem_of_lookup e))
theorem hno_all {K : PySem.W.Frag} {x : Str} {l : List Str} (h : (l.all fun f => decide (PySem.W.findIn K (.ref (He.ga K x)) f = some none)) = true) : ∀ f ∈ l, PySem.W.findIn K (.ref (He.ga K x)) f = some none :=
  fun f hf => of_decide_eq_true (List.all_eq_true.mp h f hf)
def xfcB (K : PySem.W.Frag) (L : List Str) (f : Str) : Bool := L.all fun n => xfB K (He.ga K n) && decide (PySem.W.findIn K (.ref (He.ga K n)) f = some none)
theorem xfc_all {K : PySem.W.Frag} {L : List Str} {f : Str} (h : xfcB K L f = true) : ∀ n ∈ L, XfC K (He.ga K n) ∧ PySem.W.findIn K (.ref (He.ga K n)) f = some none := fun n hn => by
  have z := List.all_eq_true.mp h n hn
  rw [Bool.and_eq_true] at z
  exact ⟨xfB_ok z.1, of_decide_eq_true z.2⟩
end QL
namespace QL
open PySem PySem.Spec PyProof.Rows L2
def top (i : Nat) : Stmt := PySem.Challenge.pw_rowlaws_k01_values_and_sums.main.body.getD i (.Pass ⟨0, 0, 0, 0⟩)
def d__law_source : He.DefD := ⟨("_law_source", none), "_law_source", "_law_source", defArgs (top 14), defBody (top 14), defScope (top 14), [], []⟩
def d__law_draw : He.DefD := ⟨("_law_draw", none), "_law_draw", "_law_draw", defArgs (top 15), defBody (top 15), defScope (top 15), [], []⟩
def d__law_choice : He.DefD := ⟨("_law_choice", none), "_law_choice", "_law_choice", defArgs (top 16), defBody (top 16), defScope (top 16), [], []⟩
def d__law_divisor : He.DefD := ⟨("_law_divisor", none), "_law_divisor", "_law_divisor", defArgs (top 20), defBody (top 20), defScope (top 20), [], []⟩
def d__law_value : He.DefD := ⟨("_law_value", none), "_law_value", "_law_value", defArgs (top 21), defBody (top 21), defScope (top 21), [], []⟩
def d__law_equal : He.DefD := ⟨("_law_equal", none), "_law_equal", "_law_equal", defArgs (top 17), defBody (top 17), defScope (top 17), [], []⟩
def d__law_error_field : He.DefD := ⟨("_law_error_field", none), "_law_error_field", "_law_error_field", defArgs (top 18), defBody (top 18), defScope (top 18), [], []⟩
def d__law_outcome : He.DefD := ⟨("_law_outcome", none), "_law_outcome", "_law_outcome", defArgs (top 19), defBody (top 19), defScope (top 19), [], []⟩
def d_divisor_of : He.DefD := ⟨("divisor_of", none), "divisor_of", "divisor_of", defArgs (top 7), defBody (top 7), defScope (top 7), [], []⟩
def d_value : He.DefD := ⟨("value", none), "value", "value", defArgs (top 9), defBody (top 9), defScope (top 9), [.int 1], []⟩
def d__law_some_value : He.DefD := ⟨("_law_some_value", none), "_law_some_value", "_law_some_value", defArgs (top 24), defBody (top 24), defScope (top 24), [], []⟩
def d_plus : He.DefD := ⟨("plus", none), "plus", "plus", defArgs (top 10), defBody (top 10), defScope (top 10), [], []⟩
def d_multiple : He.DefD := ⟨("multiple", none), "multiple", "multiple", defArgs (top 11), defBody (top 11), defScope (top 11), [], []⟩
def d_opposite : He.DefD := ⟨("opposite", none), "opposite", "opposite", defArgs (top 12), defBody (top 12), defScope (top 12), [], []⟩
def d__law_multiple : He.DefD := ⟨("_law_multiple", none), "_law_multiple", "_law_multiple", defArgs (top 23), defBody (top 23), defScope (top 23), [], []⟩
def d__law_plus : He.DefD := ⟨("_law_plus", none), "_law_plus", "_law_plus", defArgs (top 22), defBody (top 22), defScope (top 22), [], []⟩
def d_is_value : He.DefD := ⟨("is_value", none), "is_value", "is_value", defArgs (top 8), defBody (top 8), defScope (top 8), [], []⟩
def d__law_is_value : He.DefD := ⟨("_law_is_value", none), "_law_is_value", "_law_is_value", defArgs (top 25), defBody (top 25), defScope (top 25), [], []⟩
def d_law : He.DefD := ⟨("law", none), "law", "law", defArgs (top 26), defBody (top 26), defScope (top 26), [], []⟩
def d_InvalidCount___init__ : He.DefD := ⟨("InvalidCount", some "__init__"), "__init__", "InvalidCount.__init__", defArgs (inClass (top 3) 0), defBody (inClass (top 3) 0), defScope (inClass (top 3) 0), [], []⟩
def fn : List He.DefD := [d__law_source, d__law_draw, d__law_choice, d__law_divisor, d__law_value, d__law_equal, d__law_error_field, d__law_outcome, d_divisor_of, d_value, d__law_some_value, d_plus, d_multiple, d_opposite, d__law_multiple, d__law_plus, d_is_value, d__law_is_value, d_law, d_InvalidCount___init__]
def fa : List He.Fa := [.glo "_law_source", .free "range", .glo "_law_draw", .glo "_law_choice", .glo "_law_value", .glo "value", .glo "_law_outcome", .glo "_law_equal", .glo "_law_some_value", .glo "opposite", .glo "plus", .glo "multiple", .glo "_law_multiple", .glo "_law_plus", .glo "is_value", .glo "_law_is_value", .glo "ZERO", .free "len", .free "list", .glo "_law_divisor", .free "abs", .free "isinstance", .free "tuple", .free "zip", .free "all", .free "bool", .free "int", .free "str", .glo "InvalidCount", .glo "divisor_of", .glo "_law_error_field", .glo "NothingLeft", .glo "LawError", .glo "NotFound", .glo "law"]
def xb : List (PySem.W.Frag → Bool) := [fun K => He.tupB K "ZERO" [.int 0, .int 1], fun K => xfcB K ["InvalidCount"] "tag", fun K => xfcB K [] "index", fun K => xfcB K ["InvalidCount"] "number", fun K => xfcB K [] "name", fun K => xfcB K [] "length", fun K => xfcB K [] "width", fun K => xfcB K [] "place", fun K => xfcB K [] "capacity", fun K => xfcB K [] "position", fun K => xfcB K [] "first", fun K => oexB K (He.ga K "InvalidCount"), fun K => decide (PySem.W.findIn K (.ref (He.ga K "InvalidCount")) "__init__" = some (some (.ref (He.fAd K ("InvalidCount", some "__init__"))))), fun K => decide (PySem.W.typeIn K (.ref (He.fAd K ("InvalidCount", some "__init__"))) = some (.type "function")), fun K => (["tag", "number"] : List Str).all fun f => decide (PySem.W.findIn K (.ref (He.ga K "InvalidCount")) f = some none), fun K => ([("InvalidCount", true)] : List (Str × Bool)).all fun p => decide (PySem.W.exmAny K (.ref (He.ga K p.1)) ((fun K => [.ref (He.ga K "LawError"), .ref (He.ga K "NotFound")]) K) = some p.2), fun K => ([("InvalidCount", false)] : List (Str × Bool)).all fun p => decide (PySem.W.exmAny K (.ref (He.ga K p.1)) ((fun K => [.ref (He.ga K "NothingLeft")]) K) = some p.2)]
def names0 : List Str := ["LawError", "NotFound", "InvalidCount", "NothingLeft", "ZERO", "divisor_of", "is_value", "value", "plus", "multiple", "opposite", "_law_source", "_law_draw", "_law_choice", "_law_equal", "_law_error_field", "_law_outcome", "_law_divisor", "_law_value", "_law_plus"]
def names1 : List Str := ["_law_multiple", "_law_some_value", "_law_is_value"]
def names : List Str := names0 ++ names1
section
variable {P : Program} {wd : World} {K : PySem.W.Frag} {mg : Str → Option Value} {base : Heap}
def RAISED : List Str := ["InvalidCount"]
abbrev s_InvalidCount___init__ : Stmt := inClass (top 3) 0
theorem S_InvalidCount___init__ : FnScope ["self", "number"] ["self", "number"] (defScope s_InvalidCount___init__) := ⟨rfl, rfl, rfl, by decide +kernel, rfl, by decide +kernel, by decide +kernel⟩
theorem init_InvalidCount (T : Txt fa fn xb K mg) : ∃ fd, FunD K "__init__" "InvalidCount.__init__" d_InvalidCount___init__.params d_InvalidCount___init__.body d_InvalidCount___init__.scope [] [] (He.fAd K ("InvalidCount", some "__init__")) fd ∧ FnOk P wd K mg base (L2N.CX P wd) 1 (He.fAd K ("InvalidCount", some "__init__")) fd ["self", "number"] (spInit K ["number"] "InvalidCount") := by
  obtain ⟨fd, F⟩ := T.s.c.def_ 19 (d := d_InvalidCount___init__) rfl
  exact ⟨fd, F, init1 F S_InvalidCount___init__ rfl rfl ⟨by decide, by decide⟩ ⟨by decide, by decide⟩⟩
/-! ### _law_source -/
abbrev s__law_source : Stmt := top 14
abbrev N__law_source : List Str := ["_law_script", "_law_seed", "_law_cell"]
theorem S__law_source : FnScope N__law_source ["_law_script"] (defScope s__law_source) := ⟨rfl, rfl, rfl, by decide +kernel, rfl, by decide +kernel, by decide +kernel⟩
def C__law_source : FQ := fun _ ds ob P => ∃ ns : List Int, ds = [.frl (ns.map .int)] ∧ ∀ o, RngO o → P (.ref ob.length) (ob ++ [o])
def B1__law_source : QS :=
    qSet 1 (qOp oMod (qOp oAdd (qOp oAdd (qOp oMul (qVar 1) (qC (.int 48271))) (qOp oMod (qVar 2) (qC (.int 2147483563)))) (qC (.int 43))) (qC (.int 2147483563)))
def Q__law_source : QS :=
    qSeq (qSet 1 (qOp oAdd (qC (.int 9496)) (qOp oMul (qC (.int 61)) (qCB oLen (qCons (qSl (qVar 0) (qNoPart) (qPart (qC (.int 63)))) (qNil))))))
    (qSeq (qFor (iqSeq (qSl (qVar 0) (qNoPart) (qPart (qC (.int 63))))) (gqName 2) (B1__law_source))
    (qRet (qLstO (qCons (qOfL (qCBL oList (qCons (qSl (qVar 0) (qNoPart) (qPart (qC (.int 63)))) (qNil)))) (qCons (qC (.int 0)) (qCons (qC (.int 0)) (qCons (qVar 1) (qNil))))))))
theorem W__law_source (T : Txt fa fn xb K mg)  : FOk P wd K mg base (1) d__law_source ["_law_script"] (fqOf N__law_source (Q__law_source)) := by
  obtain ⟨fd, F⟩ := T.s.c.def_ 0 (d := d__law_source) rfl
  exact ⟨fd, F, fq_ok F S__law_source (by decide) fun cdv A outer s H E B =>
    qss_cons (qs_set (i := 1) S__law_source.nd rfl (by first | exact Or.inl rfl | exact Or.inr rfl) (q_add (q_int) (q_mul (q_int) (q_len rfl (T.fre 17 "len" rfl) (qa_cons (q_sl (q_var 0) (qo_none) (qo_some (q_int))) (qa_nil))))))
    (qss_cons (qs_for B.hp B.hc (qi_seq (q_sl (q_var 0) (qo_none) (qo_some (q_int)))) (qg_name 2 S__law_source.nd) (qss_one (qs_set (i := 1) S__law_source.nd rfl (by first | exact Or.inl rfl | exact Or.inr rfl) (q_mod (q_add (q_add (q_mul (q_var 1) (q_int)) (q_mod (q_var 2) (q_int))) (q_int)) (q_int)))))
    (qss_one (qs_ret (q_lstO (qa_cons (q_ofL (ql_list rfl (T.fre 18 "list" rfl) (qa_cons (q_sl (q_var 0) (qo_none) (qo_some (q_int))) (qa_nil)))) (qa_cons (q_int) (qa_cons (q_int) (qa_cons (q_var 1) (qa_nil)))))))))⟩
theorem source_loop {EX : EXG} {E : QEnd} {d0 : D} {ob : List Ob} : ∀ (xs : List Int) (s : Int) (t : Slot), 0 ≤ s → s < 2147483563 → (∀ s t, 0 ≤ s → s < 2147483563 → E.nx ⟨[.va d0, .va (.int s), t], ob⟩) →
    qLoop (gqName 2) (qSet 1 (qOp oMod (qOp oAdd (qOp oAdd (qOp oMul (qVar 1) (qC (.int 48271))) (qOp oMod (qVar 2) (qC (.int 2147483563)))) (qC (.int 43))) (qC (.int 2147483563)))) EX E (xs.map .int) ⟨[.va d0, .va (.int s), t], ob⟩
  | [], s, t, h0, h1, hE => hE s t h0 h1
  | x :: xs, s, t, h0, h1, hE => by
    refine ⟨ltn rfl, cmul 32 32 (by omega) (by decide) (by decide), ne0 rfl, ne0 rfl, ltn rfl, ?_⟩
    exact source_loop xs _ _ (Int.fmod_nonneg_of_pos _ (by decide)) (Int.fmod_lt_of_pos _ (by decide)) hE
theorem I__law_source : ∀ EX ds ob R, ds.length = 1 → C__law_source EX ds ob R → fqOf N__law_source Q__law_source EX ds ob R := by
  rintro EX ds ob R - ⟨ns, rfl, hR⟩
  have hl : ((cutD (ns.map D.int) none (some 63)).length : Int) ≤ 63 := by
    rw [cut_map, List.length_map]
    have := cut_len63 (xs := ns)
    omega
  refine ⟨cmul 32 32 (by decide) (by omega) (by decide), ltn rfl, ?_⟩
  show qLoop _ _ _ _ (cutD (ns.map D.int) none (some 63)) ⟨[.va (.frl (ns.map D.int)), .va (.int (9496 + 61 * ((cutD (ns.map D.int) none (some 63)).length : Int))), .un], ob⟩
  have h0 : 0 ≤ 9496 + 61 * ((cutD (ns.map D.int) none (some 63)).length : Int) := by omega
  have h1 : 9496 + 61 * ((cutD (ns.map D.int) none (some 63)).length : Int) < 2147483563 := by omega
  generalize 9496 + 61 * ((cutD (ns.map D.int) none (some 63)).length : Int) = s at h0 h1
  rw [cut_map]
  refine source_loop _ _ _ h0 h1 fun s t h0 h1 => ⟨szl rfl, ?_⟩
  refine hR _ ⟨cutL ns none (some 63), 0, 0, s, ?_, by decide, h0, h1⟩
  show Ob.lst [.lst (cutD (ns.map D.int) none (some 63)), _, _, _] = _
  rw [cut_map]
theorem ok__law_source (T : Txt fa fn xb K mg) : FOk P wd K mg base 1 d__law_source ["_law_script"] C__law_source := (W__law_source T).imp I__law_source
/-! ### _law_draw -/
abbrev s__law_draw : Stmt := top 15
abbrev N__law_draw : List Str := ["_law_rng", "_law_many", "_law_cell", "_law_got", "_law_seed"]
theorem S__law_draw : FnScope N__law_draw ["_law_rng", "_law_many"] (defScope s__law_draw) := ⟨rfl, rfl, rfl, by decide +kernel, rfl, by decide +kernel, by decide +kernel⟩
def C__law_draw : FQ := fun _ ds ob P => ∃ (r : Nat) (m : Int), ds = [.ref r, .int m] ∧ 1 ≤ m ∧ m.natAbs.log2 < 9000 ∧ RngAt ob r ∧ ∀ z o, 0 ≤ z → z < m → RngO o → P (.int z) (ob.set r o)
def Q__law_draw : QS :=
    qSeq (qIfS (qAnd (qTest (qOp (oEq) (qOp oIx (qVar 0) (qC (.int 2))) (qC (.int 0)))) (qTest (qOp (oLt) (qOp oIx (qVar 0) (qC (.int 1))) (qCB oLen (qCons (qOp oIx (qVar 0) (qC (.int 0))) (qNil)))))) (qSeq (qSet 2 (qOp oIx (qOp oIx (qVar 0) (qC (.int 0))) (qOp oIx (qVar 0) (qC (.int 1)))))
    (qSeq (qSetIx 0 (qC (.int 1)) (qOp oAdd (qOp oIx (qVar 0) (qC (.int 1))) (qC (.int 1))))
    (qIfS (qTest (qOp (oGe) (qVar 2) (qOp oPow (qC (.int 10)) (qC (.int 18))))) (qSetIx 0 (qC (.int 2)) (qVar 2)) (qSetIx 0 (qC (.int 3)) (qOp oMod (qOp oAdd (qOp oAdd (qOp oMul (qOp oIx (qVar 0) (qC (.int 3))) (qC (.int 40692))) (qOp oMul (qOp oMod (qVar 2) (qC (.int 2147483563))) (qC (.int 71)))) (qOp oIx (qVar 0) (qC (.int 1)))) (qC (.int 2147483563))))))) (qNext))
    (qSeq (qIfS (qTest (qOp (oGt) (qOp oIx (qVar 0) (qC (.int 2))) (qC (.int 0)))) (qSeq (qSet 3 (qOp oMod (qOp oIx (qVar 0) (qC (.int 2))) (qVar 1)))
    (qSeq (qSetIx 0 (qC (.int 2)) (qOp oDiv (qOp oIx (qVar 0) (qC (.int 2))) (qVar 1)))
    (qRet (qVar 3)))) (qNext))
    (qSeq (qSet 4 (qOp oIx (qVar 0) (qC (.int 3))))
    (qSeq (qSetIx 0 (qC (.int 3)) (qOp oMod (qOp oAdd (qOp oAdd (qOp oMul (qVar 4) (qVar 4)) (qOp oMul (qVar 4) (qC (.int 40129)))) (qC (.int 70003))) (qC (.int 2147483563))))
    (qRet (qOp oMod (qOp oAdd (qOp oDiv (qOp oIx (qVar 0) (qC (.int 3))) (qC (.int 61))) (qOp oMul (qOp oMod (qOp oIx (qVar 0) (qC (.int 3))) (qC (.int 8117))) (qC (.int 233)))) (qVar 1))))))
theorem W__law_draw (T : Txt fa fn xb K mg)  : FOk P wd K mg base (1) d__law_draw ["_law_rng", "_law_many"] (fqOf N__law_draw (Q__law_draw)) := by
  obtain ⟨fd, F⟩ := T.s.c.def_ 1 (d := d__law_draw) rfl
  exact ⟨fd, F, fq_ok F S__law_draw (by decide) fun cdv A outer s H E B =>
    qss_cons (qs_if (qw_pt (qw_and (qt_eq B (q_ix (q_var 0) (q_int)) (q_int)) (qw_and1 (qt_lt (q_ix (q_var 0) (q_int)) (q_len rfl (T.fre 17 "len" rfl) (qa_cons (q_ix (q_var 0) (q_int)) (qa_nil))))))) (qss_cons (qs_set (i := 2) S__law_draw.nd rfl (by first | exact Or.inl rfl | exact Or.inr rfl) (q_ix (q_ix (q_var 0) (q_int)) (q_ix (q_var 0) (q_int))))
    (qss_cons (qs_setIx 0 rfl (by first | exact Or.inl rfl | exact Or.inr (Or.inl rfl)) (q_add (q_ix (q_var 0) (q_int)) (q_int)) (q_int))
    (qss_one (qs_if (qt_ge (q_var 2) (q_pow (q_int) (q_int))) (qss_one (qs_setIx 0 rfl (by first | exact Or.inl rfl | exact Or.inr (Or.inl rfl)) (q_var 2) (q_int))) (qss_one (qs_setIx 0 rfl (by first | exact Or.inl rfl | exact Or.inr (Or.inl rfl)) (q_mod (q_add (q_add (q_mul (q_ix (q_var 0) (q_int)) (q_int)) (q_mul (q_mod (q_var 2) (q_int)) (q_int))) (q_ix (q_var 0) (q_int))) (q_int)) (q_int))))))) (qss_nil))
    (qss_cons (qs_if (qt_gt (q_ix (q_var 0) (q_int)) (q_int)) (qss_cons (qs_set (i := 3) S__law_draw.nd rfl (by first | exact Or.inl rfl | exact Or.inr rfl) (q_mod (q_ix (q_var 0) (q_int)) (q_var 1)))
    (qss_cons (qs_setIx 0 rfl (by first | exact Or.inl rfl | exact Or.inr (Or.inl rfl)) (q_fdiv (q_ix (q_var 0) (q_int)) (q_var 1)) (q_int))
    (qss_one (qs_ret (q_var 3))))) (qss_nil))
    (qss_cons (qs_set (i := 4) S__law_draw.nd rfl (by first | exact Or.inl rfl | exact Or.inr rfl) (q_ix (q_var 0) (q_int)))
    (qss_cons (qs_setIx 0 rfl (by first | exact Or.inl rfl | exact Or.inr (Or.inl rfl)) (q_mod (q_add (q_add (q_mul (q_var 4) (q_var 4)) (q_mul (q_var 4) (q_int))) (q_int)) (q_int)) (q_int))
    (qss_one (qs_ret (q_mod (q_add (q_fdiv (q_ix (q_var 0) (q_int)) (q_int)) (q_mul (q_mod (q_ix (q_var 0) (q_int)) (q_int)) (q_int))) (q_var 1)))))))⟩
theorem draw_tail {EX : EXG} {E : QEnd} {sl2 : Slot} {s4 : Slot} {r : Nat} {m : Int} {ob ob0 : List Ob} {cs : List Int} {p c s : Int} {R : D → List Ob → Prop} (hm : 1 ≤ m) (hl : m.natAbs.log2 < 9000) (hr : r < ob0.length) (hob : ob = ob0.set r (.lst [.lst (cs.map .int), .int p, .int c, .int s]))
    (hp : 0 ≤ p) (hs0 : 0 ≤ s) (hs1 : s < 2147483563) (hR : ∀ z o, 0 ≤ z → z < m → RngO o → R (.int z) (ob0.set r o)) (hE : ∀ d Γ, R d Γ.ob → E.rt d Γ) :
    qSeq (qIfS (qTest (qOp (oGt) (qOp oIx (qVar 0) (qC (.int 2))) (qC (.int 0)))) (qSeq (qSet 3 (qOp oMod (qOp oIx (qVar 0) (qC (.int 2))) (qVar 1)))
    (qSeq (qSetIx 0 (qC (.int 2)) (qOp oDiv (qOp oIx (qVar 0) (qC (.int 2))) (qVar 1)))
    (qRet (qVar 3)))) (qNext))
    (qSeq (qSet 4 (qOp oIx (qVar 0) (qC (.int 3))))
    (qSeq (qSetIx 0 (qC (.int 3)) (qOp oMod (qOp oAdd (qOp oAdd (qOp oMul (qVar 4) (qVar 4)) (qOp oMul (qVar 4) (qC (.int 40129)))) (qC (.int 70003))) (qC (.int 2147483563))))
    (qRet (qOp oMod (qOp oAdd (qOp oDiv (qOp oIx (qVar 0) (qC (.int 3))) (qC (.int 61))) (qOp oMul (qOp oMod (qOp oIx (qVar 0) (qC (.int 3))) (qC (.int 8117))) (qC (.int 233)))) (qVar 1))))) EX E ⟨[.va (.ref r), .va (.int m), sl2, .un, s4], ob⟩ := by
  have g : ∀ o, (ob0.set r o)[r]? = some o := fun o => List.getElem?_set_self hr
  have g2 : ∀ o o', (ob0.set r o).set r o' = ob0.set r o' := fun o o' => List.set_set ..
  subst hob
  refine ⟨_, g _, _, rfl, qB_i (fun h => ?_) fun h => ?_⟩
  · refine ⟨_, g _, _, rfl, by omega, ltn rfl, ?_⟩
    refine ⟨_, g _, _, rfl, ⟨by omega, hl⟩, ⟨_, rfl, rfl⟩, _, 2, g _, rfl, ?_⟩
    refine hE _ _ ?_
    show R _ ((ob0.set r _).set r _)
    rw [g2]
    refine hR _ _ (Int.fmod_nonneg_of_pos _ (by omega)) (Int.fmod_lt_of_pos _ (by omega)) ⟨cs, p, c.fdiv m, s, rfl, hp, hs0, hs1⟩
  · refine ⟨_, g _, _, rfl, ltn rfl, ?_⟩
    refine ⟨cmul 32 32 (by omega) (by omega) (by decide), cmul 32 32 (by omega) (by decide) (by decide), ne0 rfl, ⟨_, rfl, rfl⟩, _, 3, g _, rfl, ?_⟩
    have n1 := Int.fmod_nonneg_of_pos (s * s + s * 40129 + 70003) (show (0 : Int) < 2147483563 by decide)
    have n2 := Int.fmod_lt_of_pos (s * s + s * 40129 + 70003) (show (0 : Int) < 2147483563 by decide)
    have g3 : ∀ o o', ((ob0.set r o).set r o')[r]? = some o' := fun o o' => by rw [g2, g]
    refine ⟨_, g3 _ _, _, rfl, ⟨ne0 rfl, by decide⟩, ?_⟩
    have n3 := Int.fmod_nonneg_of_pos ((s * s + s * 40129 + 70003).fmod 2147483563) (show (0 : Int) < 8117 by decide)
    have n4 := Int.fmod_lt_of_pos ((s * s + s * 40129 + 70003).fmod 2147483563) (show (0 : Int) < 8117 by decide)
    refine ⟨_, g3 _ _, _, rfl, ne0 rfl, cmul 32 32 ?_ (by decide) (by decide), (by omega : m ≠ 0), ?_⟩
    · show ((s * s + s * 40129 + 70003).fmod 2147483563 |>.fmod 8117).natAbs < _
      omega
    · refine hE _ _ ?_
      show R _ ((ob0.set r _).set r _)
      rw [g2]
      exact hR _ _ (Int.fmod_nonneg_of_pos _ (by omega)) (Int.fmod_lt_of_pos _ (by omega)) ⟨cs, p, c, _, rfl, hp, n1, n2⟩
theorem I__law_draw : ∀ EX ds ob R, ds.length = 2 → C__law_draw EX ds ob R → fqOf N__law_draw Q__law_draw EX ds ob R := by
  rintro EX ds ob R - ⟨r, m, rfl, hm, hl, ⟨o, ho, cs, p, c, s, rfl, hp, hs0, hs1⟩, hR⟩
  have hr := (List.getElem?_eq_some_iff.mp ho).1
  have g : ∀ o, (ob.set r o)[r]? = some o := fun o => List.getElem?_set_self hr
  have g2 : ∀ o o', (ob.set r o).set r o' = ob.set r o' := fun o o' => List.set_set ..
  have g0 : ob = ob.set r (.lst [.lst (cs.map .int), .int p, .int c, .int s]) := by
    rw [List.getElem?_eq_getElem hr] at ho
    rw [← Option.some.inj ho]
    exact (List.set_getElem_self hr).symm
  show qSeq _ _ _ _ ⟨[.va (.ref r), .va (.int m), .un, .un, .un], ob⟩
  refine ⟨_, ho, _, rfl, qB_i (fun h => ?_) fun h => ?_⟩
  · refine ⟨_, ho, _, rfl, _, ho, _, rfl, qB_i (fun h2 => ?_) fun h2 => ?_⟩
    · have h2 : p < ((cs.map D.int).length : Int) := of_decide_eq_true h2
      rw [List.length_map] at h2
      have hpi : p.toNat < cs.length := by omega
      have hget : L2.atI (cs.map D.int) p = some (.int cs[p.toNat]) := by
        have e : (p.toNat : Int) = p := Int.toNat_of_nonneg hp
        have z := atI_nat (xs := cs.map D.int) (i := p.toNat) (x := .int cs[p.toNat]) (by rw [List.getElem?_map, List.getElem?_eq_getElem hpi]; rfl)
        rwa [e] at z
      refine ⟨_, ho, _, rfl, _, ho, _, rfl, _, hget, ltn rfl, ?_⟩
      refine ⟨_, ho, _, rfl, ⟨_, rfl, rfl⟩, _, 1, ho, rfl, ⟨by decide, by decide, by decide⟩, qB_i (fun h3 => ?_) fun h3 => ?_⟩
      · refine ⟨⟨_, rfl, rfl⟩, _, 2, g _, rfl, ?_⟩
        exact draw_tail (p := p + 1) hm hl hr (g2 _ _) (by omega) hs0 hs1 hR fun d Γ h => h
      · have n1 := Int.fmod_nonneg_of_pos cs[p.toNat] (show (0 : Int) < 2147483563 by decide)
        have n2 := Int.fmod_lt_of_pos cs[p.toNat] (show (0 : Int) < 2147483563 by decide)
        refine ⟨_, g _, _, rfl, cmul 32 32 (by omega) (by decide) (by decide), ne0 rfl, cmul (i := cs[p.toNat].fmod 2147483563) 32 32 (by omega) (by decide) (by decide), _, g _, _, rfl, ne0 rfl, ⟨_, rfl, rfl⟩, _, 3, g _, rfl, ?_⟩
        exact draw_tail (p := p + 1) hm hl hr (g2 _ _) (by omega) (Int.fmod_nonneg_of_pos _ (by decide)) (Int.fmod_lt_of_pos _ (by decide)) hR fun d Γ h => h
    · exact draw_tail hm hl hr g0 hp hs0 hs1 hR fun d Γ h => h
  · exact draw_tail hm hl hr g0 hp hs0 hs1 hR fun d Γ h => h
theorem ok__law_draw (T : Txt fa fn xb K mg) : FOk P wd K mg base 1 d__law_draw ["_law_rng", "_law_many"] C__law_draw := (W__law_draw T).imp I__law_draw
/-! ### _law_choice -/
abbrev s__law_choice : Stmt := top 16
abbrev N__law_choice : List Str := ["_law_rng", "_law_some"]
theorem S__law_choice : FnScope N__law_choice ["_law_rng", "_law_some"] (defScope s__law_choice) := ⟨rfl, rfl, rfl, by decide +kernel, rfl, by decide +kernel, by decide +kernel⟩
def C__law_choice : FQ := fun _ ds ob P => ∃ (r : Nat) (d : D) (xs : List D), ds = [.ref r, d] ∧ (d = .lst xs ∨ d = .tup xs) ∧ 0 < xs.length ∧ xs.length ≤ 100000000 ∧ RngAt ob r ∧ ∀ x o, x ∈ xs → RngO o → P x (ob.set r o)
def Q__law_choice : QS :=
    qRet (qOp oIx (qVar 1) (qCall 2 C__law_draw [] (qCons (qVar 0) (qCons (qCB oLen (qCons (qVar 1) (qNil))) (qNil)))))
theorem W__law_choice (T : Txt fa fn xb K mg) (h0 : FOk P wd K mg base 1 d__law_draw ["_law_rng", "_law_many"] C__law_draw) : FOk P wd K mg base (2) d__law_choice ["_law_rng", "_law_some"] (fqOf N__law_choice (Q__law_choice)) := by
  obtain ⟨fd, F⟩ := T.s.c.def_ 2 (d := d__law_choice) rfl
  obtain ⟨fd0, F0, G0⟩ := h0
  have b0_2 : Binds K fd0 ["_law_rng", "_law_many"] [] := F0.bindsN fun _ _ _ _ _ _ us hl => match us, hl with | [_, _], _ => rfl
  exact ⟨fd, F, fq_ok F S__law_choice (by decide) fun cdv A outer s H E B =>
    qss_one (qs_ret (q_ix (q_var 1) (q_call (F := C__law_draw) B G0 (by decide) rfl (T.glo 2 "_law_draw" rfl) F0.kp b0_2 .nil (fun _ _ _ => rfl) (qa_cons (q_var 0) (qa_cons (q_len rfl (T.fre 17 "len" rfl) (qa_cons (q_var 1) (qa_nil))) (qa_nil))))))⟩
theorem I__law_choice : ∀ EX ds ob R, ds.length = 2 → C__law_choice EX ds ob R → fqOf N__law_choice Q__law_choice EX ds ob R := by
  rintro EX ds ob R - ⟨r, d, xs, rfl, hd, h1, h2, hr, hR⟩
  have hlog : ((xs.length : Int)).natAbs.log2 < 9000 := log_lt 32 (by omega) (by decide)
  have fin : ∀ (z : Int) o, 0 ≤ z → z < (xs.length : Int) → RngO o → ∃ x, L2.atI xs z = some x ∧ R x (ob.set r o) := fun z o z0 z1 ho => by
    have hz : z.toNat < xs.length := by omega
    have e : (z.toNat : Int) = z := Int.toNat_of_nonneg z0
    have g := atI_nat (List.getElem?_eq_getElem hz)
    rw [e] at g
    exact ⟨_, g, hR _ o (List.getElem_mem hz) ho⟩
  rcases hd with rfl | rfl
  · refine ⟨rfl, r, (xs.length : Int), rfl, by omega, hlog, hr, fun z o z0 z1 ho => ?_⟩
    exact fin z o z0 z1 ho
  · refine ⟨rfl, r, (xs.length : Int), rfl, by omega, hlog, hr, fun z o z0 z1 ho => ?_⟩
    exact fin z o z0 z1 ho
theorem ok__law_choice (T : Txt fa fn xb K mg) : FOk P wd K mg base 2 d__law_choice ["_law_rng", "_law_some"] C__law_choice := (W__law_choice T (ok__law_draw T)).imp I__law_choice
/-! ### _law_divisor -/
abbrev s__law_divisor : Stmt := top 20
abbrev N__law_divisor : List Str := ["_law_one", "_law_other"]
theorem S__law_divisor : FnScope N__law_divisor ["_law_one", "_law_other"] (defScope s__law_divisor) := ⟨rfl, rfl, rfl, by decide +kernel, rfl, by decide +kernel, by decide +kernel⟩
def C__law_divisor : FQ := fun _ ds ob P => ∃ a b : Int, ds = [.int a, .int b] ∧ P (.int (Int.gcd a b)) ob
def B1__law_divisor : QS :=
    qPar 0 1 (qCons (qVar 1) (qCons (qOp oMod (qVar 0) (qVar 1)) (qNil)))
def Q__law_divisor : QS :=
    qSeq (qPar 0 1 (qCons (qCB oAbs (qCons (qVar 0) (qNil))) (qCons (qCB oAbs (qCons (qVar 1) (qNil))) (qNil))))
    (qSeq (qWhile (qTest (qOp (oNe) (qVar 1) (qC (.int 0)))) (B1__law_divisor))
    (qRet (qVar 0)))
theorem W__law_divisor (T : Txt fa fn xb K mg)  : FOk P wd K mg base (1) d__law_divisor ["_law_one", "_law_other"] (fqOf N__law_divisor (Q__law_divisor)) := by
  obtain ⟨fd, F⟩ := T.s.c.def_ 3 (d := d__law_divisor) rfl
  exact ⟨fd, F, fq_ok F S__law_divisor (by decide) fun cdv A outer s H E B =>
    qss_cons (qs_par (i := 0) (j := 1) B.hc S__law_divisor.nd rfl rfl (by decide) rfl rfl (qa_cons (q_abs rfl (T.fre 20 "abs" rfl) (qa_cons (q_var 0) (qa_nil))) (qa_cons (q_abs rfl (T.fre 20 "abs" rfl) (qa_cons (q_var 1) (qa_nil))) (qa_nil))) (by rfl))
    (qss_cons (qs_while B.hp (qt_ne B (q_var 1) (q_int)) (qss_one (qs_par (i := 0) (j := 1) B.hc S__law_divisor.nd rfl rfl (by decide) rfl rfl (qa_cons (q_var 1) (qa_cons (q_mod (q_var 0) (q_var 1)) (qa_nil))) (by rfl))))
    (qss_one (qs_ret (q_var 0))))⟩
theorem I__law_divisor : ∀ EX ds ob R, ds.length = 2 → C__law_divisor EX ds ob R → fqOf N__law_divisor Q__law_divisor EX ds ob R := by
  rintro EX ds ob R - ⟨a, b, rfl, hR⟩
  refine ⟨ltn rfl, ltn rfl, fun m Γ => ∃ x y : Int, Γ = ⟨[.va (.int x), .va (.int y)], ob⟩ ∧ 0 ≤ x ∧ 0 ≤ y ∧ Int.gcd x y = Int.gcd a b ∧ m = y.toNat, ⟨_, _, _, rfl, ?_, ?_, gcd_abs, rfl⟩, ?_⟩
  · split <;> omega
  · split <;> omega
  · rintro m Γ ⟨x, y, rfl, hx, hy, hg, rfl⟩
    refine qB_i (fun h => ?_) fun h => ?_
    · have hy0 : y ≠ 0 := by simpa using h
      have n0 := Int.fmod_nonneg_of_pos x (show 0 < y by omega)
      have n1 := Int.fmod_lt_of_pos x (show 0 < y by omega)
      exact ⟨hy0, ltn rfl, ltn rfl, _, by omega, y, x.fmod y, rfl, by omega, n0, (gcd_step (by omega) hx).trans hg, rfl⟩
    · have hy0 : y = 0 := by simpa using h
      subst hy0
      show R (.int x) ob
      have e : x = (Int.gcd a b : Int) := by rw [← hg, gcd_zero' hx]
      rw [e]
      exact hR
theorem ok__law_divisor (T : Txt fa fn xb K mg) : FOk P wd K mg base 1 d__law_divisor ["_law_one", "_law_other"] C__law_divisor := (W__law_divisor T).imp I__law_divisor
/-! ### _law_value -/
abbrev s__law_value : Stmt := top 21
abbrev N__law_value : List Str := ["_law_num", "_law_den", "_law_by"]
theorem S__law_value : FnScope N__law_value ["_law_num", "_law_den"] (defScope s__law_value) := ⟨rfl, rfl, rfl, by decide +kernel, rfl, by decide +kernel, by decide +kernel⟩
def C__law_value : FQ := fun _ ds ob P => ∃ n d : Int, ds = [.int n, .int d] ∧ 1 ≤ d ∧ d < 2 ^ 8900 ∧ P (vD (valF n d)) ob
def Q__law_value : QS :=
    qSeq (qSet 2 (qCall 2 C__law_divisor [] (qCons (qOp oMod (qVar 0) (qVar 1)) (qCons (qVar 1) (qNil)))))
    (qRet (qTup (qCons (qOp oDiv (qOp oMod (qVar 0) (qVar 1)) (qVar 2)) (qCons (qOp oDiv (qVar 1) (qVar 2)) (qNil)))))
theorem W__law_value (T : Txt fa fn xb K mg) (h0 : FOk P wd K mg base 1 d__law_divisor ["_law_one", "_law_other"] C__law_divisor) : FOk P wd K mg base (2) d__law_value ["_law_num", "_law_den"] (fqOf N__law_value (Q__law_value)) := by
  obtain ⟨fd, F⟩ := T.s.c.def_ 4 (d := d__law_value) rfl
  obtain ⟨fd0, F0, G0⟩ := h0
  have b0_2 : Binds K fd0 ["_law_one", "_law_other"] [] := F0.bindsN fun _ _ _ _ _ _ us hl => match us, hl with | [_, _], _ => rfl
  exact ⟨fd, F, fq_ok F S__law_value (by decide) fun cdv A outer s H E B =>
    qss_cons (qs_set (i := 2) S__law_value.nd rfl (by first | exact Or.inl rfl | exact Or.inr rfl) (q_call (F := C__law_divisor) B G0 (by decide) rfl (T.glo 19 "_law_divisor" rfl) F0.kp b0_2 .nil (fun _ _ _ => rfl) (qa_cons (q_mod (q_var 0) (q_var 1)) (qa_cons (q_var 1) (qa_nil)))))
    (qss_one (qs_ret (q_tup (qa_cons (q_fdiv (q_mod (q_var 0) (q_var 1)) (q_var 2)) (qa_cons (q_fdiv (q_var 1) (q_var 2)) (qa_nil))))))⟩
theorem I__law_value : ∀ EX ds ob R, ds.length = 2 → C__law_value EX ds ob R → fqOf N__law_value Q__law_value EX ds ob R := by
  rintro EX ds ob R - ⟨n, d, rfl, h1, h2, hR⟩
  have g1 := gcd_pos (n := n.fmod d) h1
  have g2 := gcd_le (n := n.fmod d) h1
  have hg : ((Int.gcd (n.fmod d) d : Int)).natAbs.log2 < 9000 := log_lt 8900 (pw_nat (by omega) (by omega)) (by decide)
  exact ⟨by omega, rfl, n.fmod d, d, rfl, ltn rfl, by omega, ⟨by omega, hg⟩, ⟨by omega, hg⟩, szl rfl, hR⟩
theorem ok__law_value (T : Txt fa fn xb K mg) : FOk P wd K mg base 2 d__law_value ["_law_num", "_law_den"] C__law_value := (W__law_value T (ok__law_divisor T)).imp I__law_value
/-! ### _law_equal -/
abbrev s__law_equal : Stmt := top 17
abbrev N__law_equal : List Str := ["_law_result", "_law_expected", "_law_a", "_law_b"]
theorem S__law_equal : FnScope N__law_equal ["_law_result", "_law_expected"] (defScope s__law_equal) := ⟨rfl, rfl, rfl, by decide +kernel, rfl, by decide +kernel, by decide +kernel⟩
def C__law_equal (n : Nat) : FQ := fun _ ds ob P => ∃ (x : D) (k : Nat), ds = [x, x] ∧ n = k + 1 ∧ x.plain k = true ∧ P (.bl true) ob
def E1__law_equal (C_self : FQ) : QE :=
    qCall 2 C_self [] (qCons (qVar 2) (qCons (qVar 3) (qNil)))
def Q__law_equal (C_self : FQ) : QS :=
    qSeq (qIfS (qTest (qUn oIsN (qVar 1))) (qRet (qUn oIsN (qVar 0))) (qNext))
    (qSeq (qIfS (qOr (qTest (qCB oIsi (qCons (qVar 1) (qCons (qC (.ty "list")) (qNil))))) (qTest (qCB oIsi (qCons (qVar 1) (qCons (qC (.ty "tuple")) (qNil)))))) (qSeq (qIfS (qOr (qTest (qOp (oNe) (qCB oIsi (qCons (qVar 0) (qCons (qC (.ty "list")) (qNil)))) (qCB oIsi (qCons (qVar 1) (qCons (qC (.ty "list")) (qNil)))))) (qTest (qOp (oNe) (qCB oIsi (qCons (qVar 0) (qCons (qC (.ty "tuple")) (qNil)))) (qCB oIsi (qCons (qVar 1) (qCons (qC (.ty "tuple")) (qNil))))))) (qRet (qC (.bl false))) (qNext))
    (qRet (qAndV (qOp (oEq) (qCB oLen (qCons (qVar 0) (qNil))) (qCB oLen (qCons (qVar 1) (qNil)))) (qCB oAll (qCons (qOfL (qLc (iqZip (qCons (qVar 0) (qCons (qVar 1) (qNil)))) (gqTup [gqName 2, gqName 3]) (qYes) ((E1__law_equal C_self)) [2, 3])) (qNil)))))) (qNext))
    (qSeq (qIfS (qOr (qTest (qOp (oNe) (qCB oIsi (qCons (qVar 1) (qCons (qC (.ty "bool")) (qNil)))) (qCB oIsi (qCons (qVar 0) (qCons (qC (.ty "bool")) (qNil)))))) (qTest (qOp (oNe) (qCB oIsi (qCons (qVar 1) (qCons (qC (.ty "int")) (qNil)))) (qCB oIsi (qCons (qVar 0) (qCons (qC (.ty "int")) (qNil))))))) (qRet (qC (.bl false))) (qNext))
    (qRet (qAndV (qOp (oEq) (qCB oIsi (qCons (qVar 0) (qCons (qC (.ty "str")) (qNil)))) (qCB oIsi (qCons (qVar 1) (qCons (qC (.ty "str")) (qNil))))) (qOp (oEq) (qVar 0) (qVar 1))))))
theorem W__law_equal {C_self : FQ} {k : Nat} (hk : 0 ≤ k) (T : Txt fa fn xb K mg) (h0 : FOk P wd K mg base k d__law_equal ["_law_result", "_law_expected"] C_self) : FOk P wd K mg base (k + 1) d__law_equal ["_law_result", "_law_expected"] (fqOf N__law_equal (Q__law_equal C_self)) := by
  obtain ⟨fd, F⟩ := T.s.c.def_ 5 (d := d__law_equal) rfl
  obtain ⟨fd0, F0, G0⟩ := h0
  have b0_2 : Binds K fd0 ["_law_result", "_law_expected"] [] := F0.bindsN fun _ _ _ _ _ _ us hl => match us, hl with | [_, _], _ => rfl
  exact ⟨fd, F, fq_ok F S__law_equal (by decide) fun cdv A outer s H E B =>
    qss_cons (qs_if (qt_isN (q_var 1)) (qss_one (qs_ret (q_isN (q_var 0)))) (qss_nil))
    (qss_cons (qs_if (qw_pt (qw_or (qt_val (q_isi rfl (T.fre 21 "isinstance" rfl) (qa_cons (q_var 1) (qa_cons (q_tyn rfl (T.fre 18 "list" rfl) (by decide +kernel)) (qa_nil))))) (qw_or1 (qt_val (q_isi rfl (T.fre 21 "isinstance" rfl) (qa_cons (q_var 1) (qa_cons (q_tyn rfl (T.fre 22 "tuple" rfl) (by decide +kernel)) (qa_nil)))))))) (qss_cons (qs_if (qw_pt (qw_or (qt_ne B (q_isi rfl (T.fre 21 "isinstance" rfl) (qa_cons (q_var 0) (qa_cons (q_tyn rfl (T.fre 18 "list" rfl) (by decide +kernel)) (qa_nil)))) (q_isi rfl (T.fre 21 "isinstance" rfl) (qa_cons (q_var 1) (qa_cons (q_tyn rfl (T.fre 18 "list" rfl) (by decide +kernel)) (qa_nil))))) (qw_or1 (qt_ne B (q_isi rfl (T.fre 21 "isinstance" rfl) (qa_cons (q_var 0) (qa_cons (q_tyn rfl (T.fre 22 "tuple" rfl) (by decide +kernel)) (qa_nil)))) (q_isi rfl (T.fre 21 "isinstance" rfl) (qa_cons (q_var 1) (qa_cons (q_tyn rfl (T.fre 22 "tuple" rfl) (by decide +kernel)) (qa_nil)))))))) (qss_one (qs_ret (q_bl))) (qss_nil))
    (qss_one (qs_ret (q_and (q_eq B (q_len rfl (T.fre 17 "len" rfl) (qa_cons (q_var 0) (qa_nil))) (q_len rfl (T.fre 17 "len" rfl) (qa_cons (q_var 1) (qa_nil)))) (q_one (q_all B rfl (T.fre 24 "all" rfl) (qa_cons (q_ofL (ql_lc (own := [("_law_a", 2), ("_law_b", 3)]) B S__law_equal.nd (qi_zip rfl (T.fre 23 "zip" rfl) (qa_cons (q_var 0) (qa_cons (q_var 1) (qa_nil)))) (blkOk_by (N := N__law_equal) (sc := defScope (s__law_equal)) (by decide +kernel)) (fun _ _ _ _ _ B1 => ⟨qv_tup B1.hc (qvs_cons (qv_name 2 S__law_equal.nd (by decide)) (qvs_cons (qv_name 3 S__law_equal.nd (by decide)) (qvs_nil))) rfl, qts_nil, q_call (F := C_self) B1 G0 (by omega) rfl (T.glo 7 "_law_equal" rfl) F0.kp b0_2 .nil (fun _ _ _ => rfl) (qa_cons (q_var 2) (qa_cons (q_var 3) (qa_nil)))⟩))) (qa_nil)))))))) (qss_nil))
    (qss_cons (qs_if (qw_pt (qw_or (qt_ne B (q_isi rfl (T.fre 21 "isinstance" rfl) (qa_cons (q_var 1) (qa_cons (q_tyn rfl (T.fre 25 "bool" rfl) (by decide +kernel)) (qa_nil)))) (q_isi rfl (T.fre 21 "isinstance" rfl) (qa_cons (q_var 0) (qa_cons (q_tyn rfl (T.fre 25 "bool" rfl) (by decide +kernel)) (qa_nil))))) (qw_or1 (qt_ne B (q_isi rfl (T.fre 21 "isinstance" rfl) (qa_cons (q_var 1) (qa_cons (q_tyn rfl (T.fre 26 "int" rfl) (by decide +kernel)) (qa_nil)))) (q_isi rfl (T.fre 21 "isinstance" rfl) (qa_cons (q_var 0) (qa_cons (q_tyn rfl (T.fre 26 "int" rfl) (by decide +kernel)) (qa_nil)))))))) (qss_one (qs_ret (q_bl))) (qss_nil))
    (qss_one (qs_ret (q_and (q_eq B (q_isi rfl (T.fre 21 "isinstance" rfl) (qa_cons (q_var 0) (qa_cons (q_tyn rfl (T.fre 27 "str" rfl) (by decide +kernel)) (qa_nil)))) (q_isi rfl (T.fre 21 "isinstance" rfl) (qa_cons (q_var 1) (qa_cons (q_tyn rfl (T.fre 27 "str" rfl) (by decide +kernel)) (qa_nil))))) (q_one (q_eq B (q_var 0) (q_var 1))))))))⟩
theorem zip_same : ∀ xs : List D, zipD xs xs = xs.map fun x => .tup [x, x]
  | [] => rfl
  | x :: xs => by
    show D.tup [x, x] :: zipD xs xs = _
    rw [zip_same xs]
    rfl
theorem all_trues : ∀ n : Nat, allB (List.replicate n (.bl true)) = some (List.replicate n true)
  | 0 => rfl
  | n + 1 => by
    rw [List.replicate_succ, List.replicate_succ]
    unfold allB
    rw [all_trues n]
    rfl
theorem equal_loop {n : Nat} {d0 d1 : D} {P : List D → G → Prop} {ob : List Ob} : ∀ (xs : List D) (m : Nat), m + xs.length ≤ sizeLine → (∀ x ∈ xs, x.plain n = true) → P (List.replicate (m + xs.length) (.bl true)) ⟨[.va d0, .va d1, .un, .un], ob⟩ →
    qLcL (gqTup [gqName 2, gqName 3]) qYes (qCall 2 (C__law_equal (n + 1)) [] (qCons (qVar 2) (qCons (qVar 3) qNil))) [2, 3] P (List.replicate m (.bl true)) (xs.map fun x => .tup [x, x]) ⟨[.va d0, .va d1, .un, .un], ob⟩
  | [], m, h1, h2, hP => hP
  | x :: xs, m, h1, h2, hP => by
    rw [List.length_cons] at h1 hP
    refine ⟨rfl, ltn rfl, ltn rfl, rfl, x, n, rfl, rfl, h2 x (List.mem_cons_self ..), by rw [List.length_replicate]; omega, ?_⟩
    have e : List.replicate m (D.bl true) ++ [.bl true] = List.replicate (m + 1) (.bl true) := by rw [List.replicate_succ']
    show qLcL _ _ _ _ _ (List.replicate m (D.bl true) ++ [.bl true]) _ _
    rw [e]
    exact equal_loop xs (m + 1) (by omega) (fun y hy => h2 y (List.mem_cons_of_mem _ hy)) (by rw [show m + 1 + xs.length = m + (xs.length + 1) by omega]; exact hP)
theorem equal_seq {n : Nat} {d0 d1 : D} {xs : List D} {R : D → List Ob → Prop} {ob : List Ob} (h : (decide (xs.length ≤ sizeLine) && xs.all (D.plain n)) = true) (hR : R (.bl true) ob) :
    qLcL (gqTup [gqName 2, gqName 3]) qYes (qCall 2 (C__law_equal (n + 1)) [] (qCons (qVar 2) (qCons (qVar 3) qNil))) [2, 3] (fun bs Γ => ∃ cs, allB bs = some cs ∧ R (.bl (cs.all id)) Γ.ob) [] (zipD xs xs) ⟨[.va d0, .va d1, .un, .un], ob⟩ := by
  obtain ⟨h1, h2⟩ := Bool.and_eq_true_iff.mp h
  rw [zip_same]
  refine equal_loop xs 0 (by have := of_decide_eq_true h1; omega) (List.all_eq_true.mp h2) ⟨_, all_trues _, ?_⟩
  have e : (List.replicate (0 + xs.length) true).all id = true := by simp
  rw [e]
  exact hR
theorem I__law_equal (n : Nat) : ∀ EX ds ob R, ds.length = 2 → C__law_equal (n + 1) EX ds ob R → fqOf N__law_equal (Q__law_equal (C__law_equal n)) EX ds ob R := by
  rintro EX ds ob R - ⟨x, k, rfl, e, hx, hR⟩
  obtain rfl : n = k := by omega
  cases x with
  | non => exact hR
  | bl b =>
    refine ⟨_, _, rfl, rfl, _, _, rfl, rfl, _, _, rfl, rfl, _, _, rfl, rfl, _, _, rfl, rfl, _, _, rfl, rfl, _, _, rfl, rfl, _, _, rfl, rfl, ?_⟩
    show R (.bl (decide (b = b))) ob
    rw [decide_eq_true rfl]
    exact hR
  | int i =>
    refine ⟨_, _, rfl, rfl, _, _, rfl, rfl, _, _, rfl, rfl, _, _, rfl, rfl, _, _, rfl, rfl, _, _, rfl, rfl, _, _, rfl, rfl, _, _, rfl, rfl, ?_⟩
    show R (.bl (decide (i = i))) ob
    rw [decide_eq_true rfl]
    exact hR
  | str s =>
    refine ⟨_, _, rfl, rfl, _, _, rfl, rfl, _, _, rfl, rfl, _, _, rfl, rfl, _, _, rfl, rfl, _, _, rfl, rfl, _, _, rfl, rfl, _, _, rfl, rfl, ?_⟩
    have hs : SeqAt.shaped (.str s) = true := by cases n <;> exact hx
    show _ ∧ _ ∧ R (.bl (decide (s = s))) ob
    rw [decide_eq_true rfl]
    exact ⟨hs, hs, hR⟩
  | lst xs =>
    cases n with
    | zero => cases hx
    | succ m =>
      refine ⟨_, _, rfl, rfl, _, _, rfl, rfl, _, _, rfl, rfl, _, _, rfl, rfl, _, _, rfl, rfl, ?_⟩
      show qB (decide ((xs.length : Int) = (xs.length : Int))) _ _
      rw [decide_eq_true rfl]
      exact equal_seq hx hR
  | tup xs =>
    cases n with
    | zero => cases hx
    | succ m =>
      refine ⟨_, _, rfl, rfl, _, _, rfl, rfl, _, _, rfl, rfl, _, _, rfl, rfl, _, _, rfl, rfl, _, _, rfl, rfl, ?_⟩
      show qB (decide ((xs.length : Int) = (xs.length : Int))) _ _
      rw [decide_eq_true rfl]
      exact equal_seq hx hR
  | _ => cases n <;> cases hx
theorem ok__law_equal (T : Txt fa fn xb K mg) (n : Nat) : FOk P wd K mg base (n + 1) d__law_equal ["_law_result", "_law_expected"] (C__law_equal n) := by
  induction n with
  | zero =>
    obtain ⟨fd, F⟩ := T.s.c.def_ 5 (d := d__law_equal) rfl
    refine ⟨fd, F, F.ok S__law_equal (fun vs H Q E h => spQ_len h) fun cdv A outer s H vs Q E hr h => ?_⟩
    obtain ⟨w, hid, ob, ds, P', EX, h1, h2, h3, ⟨x, k, _, z, _⟩, _⟩ := h
    cases z
  | succ n ih => exact (W__law_equal (by omega) T ih).imp (I__law_equal n)
/-! ### _law_error_field -/
abbrev s__law_error_field : Stmt := top 18
abbrev N__law_error_field : List Str := ["_law_e"]
theorem S__law_error_field : FnScope N__law_error_field ["_law_e"] (defScope s__law_error_field) := ⟨rfl, rfl, rfl, by decide +kernel, rfl, by decide +kernel, by decide +kernel⟩
def errName (t : Str) : Option Str :=
  if t = "InvalidRule" ∨ t = "UnknownIndex" then some "index" else if t = "InvalidCount" ∨ t = "NotDetermined" then some "number" else
  if t = "InvalidName" ∨ t = "DuplicateName" ∨ t = "UnknownName" ∨ t = "BookInUse" then some "name" else if t = "InvalidRelation" then some "length" else if t = "InvalidWidth" then some "width" else
  if t = "InvalidValue" then some "place" else if t = "CapacityExceeded" then some "capacity" else if t = "ParseError" then some "position" else if t = "InvalidCommand" then some "first" else none
def errFld (t : Str) (fs : List Str) (xs : List D) : Option D := match errName t with
  | some f => fieldD fs xs f
  | none => some .non
def C__law_error_field : FX := fun cn a dd ds ob P => ∃ (fs : List Str) (xs : List D) (fld : D), ds = [.exc cn a dd fs xs] ∧ cn ∈ RAISED ∧ fieldD fs xs "tag" = some (.str cn) ∧ errFld cn fs xs = some fld ∧ P fld ob
def Q__law_error_field : QSu := fun cn a dd =>
    qSeq (qIfS (qTest (qOp (oInF false) (qXf cn a dd ["InvalidCount"] "tag" (qVar 0)) (qTup (qCons (qC (.str "InvalidRule")) (qCons (qC (.str "UnknownIndex")) (qNil)))))) (qRet (qXf cn a dd [] "index" (qVar 0))) (qNext))
    (qSeq (qIfS (qTest (qOp (oInF false) (qXf cn a dd ["InvalidCount"] "tag" (qVar 0)) (qTup (qCons (qC (.str "InvalidCount")) (qCons (qC (.str "NotDetermined")) (qNil)))))) (qRet (qXf cn a dd ["InvalidCount"] "number" (qVar 0))) (qNext))
    (qSeq (qIfS (qTest (qOp (oInF false) (qXf cn a dd ["InvalidCount"] "tag" (qVar 0)) (qTup (qCons (qC (.str "InvalidName")) (qCons (qC (.str "DuplicateName")) (qCons (qC (.str "UnknownName")) (qCons (qC (.str "BookInUse")) (qNil)))))))) (qRet (qXf cn a dd [] "name" (qVar 0))) (qNext))
    (qSeq (qIfS (qTest (qOp (oInF false) (qXf cn a dd ["InvalidCount"] "tag" (qVar 0)) (qTup (qCons (qC (.str "InvalidRelation")) (qCons (qC (.str "InvalidWidth")) (qNil)))))) (qRet (qIf (qTest (qOp oEqS (qXf cn a dd ["InvalidCount"] "tag" (qVar 0)) (qC (.str "InvalidRelation")))) (qXf cn a dd [] "length" (qVar 0)) (qXf cn a dd [] "width" (qVar 0)))) (qNext))
    (qSeq (qIfS (qTest (qOp (oInF false) (qXf cn a dd ["InvalidCount"] "tag" (qVar 0)) (qTup (qCons (qC (.str "InvalidValue")) (qCons (qC (.str "CapacityExceeded")) (qNil)))))) (qRet (qIf (qTest (qOp oEqS (qXf cn a dd ["InvalidCount"] "tag" (qVar 0)) (qC (.str "InvalidValue")))) (qXf cn a dd [] "place" (qVar 0)) (qXf cn a dd [] "capacity" (qVar 0)))) (qNext))
    (qSeq (qIfS (qTest (qOp (oInF false) (qXf cn a dd ["InvalidCount"] "tag" (qVar 0)) (qTup (qCons (qC (.str "ParseError")) (qCons (qC (.str "InvalidCommand")) (qNil)))))) (qRet (qIf (qTest (qOp oEqS (qXf cn a dd ["InvalidCount"] "tag" (qVar 0)) (qC (.str "ParseError")))) (qXf cn a dd [] "position" (qVar 0)) (qXf cn a dd [] "first" (qVar 0)))) (qNext))
    (qRet (qC .non)))))))
theorem W__law_error_field (T : Txt fa fn xb K mg) : FXOk P wd K mg base 1 d__law_error_field ["_law_e"] (fqX N__law_error_field Q__law_error_field) := by
  obtain ⟨fd, F⟩ := T.s.c.def_ 6 (d := d__law_error_field) rfl
  exact ⟨fd, F, fx_ok F S__law_error_field (by decide) fun cdv A outer s H E a oe cn dd hz hf =>
    qss_cons (qs_if (qt_inF (q_xf (List.mem_singleton.mpr rfl) hz hf (xfc_all (T.own 1 rfl)) (q_var 0)) (q_tup (qa_cons (q_str) (qa_cons (q_str) (qa_nil))))) (qss_one (qs_ret (q_xf (List.mem_singleton.mpr rfl) hz hf (xfc_all (T.own 2 rfl)) (q_var 0)))) (qss_nil))
    (qss_cons (qs_if (qt_inF (q_xf (List.mem_singleton.mpr rfl) hz hf (xfc_all (T.own 1 rfl)) (q_var 0)) (q_tup (qa_cons (q_str) (qa_cons (q_str) (qa_nil))))) (qss_one (qs_ret (q_xf (List.mem_singleton.mpr rfl) hz hf (xfc_all (T.own 3 rfl)) (q_var 0)))) (qss_nil))
    (qss_cons (qs_if (qt_inF (q_xf (List.mem_singleton.mpr rfl) hz hf (xfc_all (T.own 1 rfl)) (q_var 0)) (q_tup (qa_cons (q_str) (qa_cons (q_str) (qa_cons (q_str) (qa_cons (q_str) (qa_nil))))))) (qss_one (qs_ret (q_xf (List.mem_singleton.mpr rfl) hz hf (xfc_all (T.own 4 rfl)) (q_var 0)))) (qss_nil))
    (qss_cons (qs_if (qt_inF (q_xf (List.mem_singleton.mpr rfl) hz hf (xfc_all (T.own 1 rfl)) (q_var 0)) (q_tup (qa_cons (q_str) (qa_cons (q_str) (qa_nil))))) (qss_one (qs_ret (q_if (qt_eqS (q_xf (List.mem_singleton.mpr rfl) hz hf (xfc_all (T.own 1 rfl)) (q_var 0)) (q_str)) (q_xf (List.mem_singleton.mpr rfl) hz hf (xfc_all (T.own 5 rfl)) (q_var 0)) (q_xf (List.mem_singleton.mpr rfl) hz hf (xfc_all (T.own 6 rfl)) (q_var 0))))) (qss_nil))
    (qss_cons (qs_if (qt_inF (q_xf (List.mem_singleton.mpr rfl) hz hf (xfc_all (T.own 1 rfl)) (q_var 0)) (q_tup (qa_cons (q_str) (qa_cons (q_str) (qa_nil))))) (qss_one (qs_ret (q_if (qt_eqS (q_xf (List.mem_singleton.mpr rfl) hz hf (xfc_all (T.own 1 rfl)) (q_var 0)) (q_str)) (q_xf (List.mem_singleton.mpr rfl) hz hf (xfc_all (T.own 7 rfl)) (q_var 0)) (q_xf (List.mem_singleton.mpr rfl) hz hf (xfc_all (T.own 8 rfl)) (q_var 0))))) (qss_nil))
    (qss_cons (qs_if (qt_inF (q_xf (List.mem_singleton.mpr rfl) hz hf (xfc_all (T.own 1 rfl)) (q_var 0)) (q_tup (qa_cons (q_str) (qa_cons (q_str) (qa_nil))))) (qss_one (qs_ret (q_if (qt_eqS (q_xf (List.mem_singleton.mpr rfl) hz hf (xfc_all (T.own 1 rfl)) (q_var 0)) (q_str)) (q_xf (List.mem_singleton.mpr rfl) hz hf (xfc_all (T.own 9 rfl)) (q_var 0)) (q_xf (List.mem_singleton.mpr rfl) hz hf (xfc_all (T.own 10 rfl)) (q_var 0))))) (qss_nil))
    (qss_one (qs_ret (q_non))))))))⟩
theorem I__law_error_field : ∀ cn a dd ds ob R, ds.length = 1 → C__law_error_field cn a dd ds ob R → fqX N__law_error_field Q__law_error_field cn a dd ds ob R := by
  rintro cn a dd ds ob R - ⟨fs, xs, fld, rfl, hc, ht, hf, hR⟩
  revert ht hf
  revert hc
  show cn ∈ RAISED → _
  revert cn
  repeat' (first | exact fun _ h => absurd h List.not_mem_nil | refine List.forall_mem_cons.2 ⟨?_, ?_⟩)
  all_goals (
    intro ht hf
    have hf' := hf
    repeat (first
      | refine ⟨rfl, rfl, rfl, by decide, _, ht, szl rfl, _, _, _, rfl, rfl, rfl, qB_f (by decide +kernel) ?_⟩
      | refine ⟨rfl, rfl, rfl, by decide, _, ht, szl rfl, _, _, _, rfl, rfl, rfl, qB_t (by decide +kernel) ?_⟩
      | refine ⟨rfl, rfl, rfl, by decide, _, ht, qB_t (by decide +kernel) ?_⟩
      | refine ⟨rfl, rfl, rfl, by decide, _, ht, qB_f (by decide +kernel) ?_⟩)
    first
      | exact ⟨rfl, rfl, rfl, by decide, _, hf, hR⟩
      | (cases hf; exact hR))
theorem ok__law_error_field (T : Txt fa fn xb K mg) : FXOk P wd K mg base 1 d__law_error_field ["_law_e"] C__law_error_field := (W__law_error_field T).imp I__law_error_field
/-! ### _law_outcome -/
abbrev s__law_outcome : Stmt := top 19
abbrev N__law_outcome : List Str := ["_law_ask", "_law_answer", "_law_tag", "_law_field", "_law_e"]
theorem S__law_outcome : FnScope N__law_outcome ["_law_ask"] (defScope s__law_outcome) := ⟨rfl, rfl, rfl, by decide +kernel, rfl, by decide +kernel, by decide +kernel⟩
def mtA : Str → Option Bool := fun x => List.lookup x [("InvalidCount", true)]
def mtB : Str → Option Bool := fun x => List.lookup x [("InvalidCount", false)]
/-- what the exception's clause answers -/
def outE (P : D → List Ob → Prop) (e : Exc) (ob : List Ob) : Prop := ∃ fld, e.cls ∈ RAISED ∧ mtA e.cls = some true ∧ fieldD e.fs e.xs "tag" = some (.str e.cls) ∧ errFld e.cls e.fs e.xs = some fld ∧ P (.tup [.non, .str e.cls, fld]) ob
def C__law_outcome (F : FQ) : FQ := fun _ _ ob P => ∀ (EX' : Exc → List Ob → Prop) (P' : D → List Ob → Prop), (∀ e o, outE P e o → EX' e o) → (∀ d o, P (.tup [d, .str "", .non]) o → P' d o) → F EX' [] ob P'
def Q__law_outcome : Addr → FQ → QS := fun f F =>
    qSeq (qAsg (qTup (qCons (qC .non) (qCons (qC (.str "")) (qCons (qC .non) qNil)))) (gqTup [gqName 1, gqName 2, gqName 3]))
    (qSeq (qTry (qSet 1 (qAct 0 f F)) [(mtA, 4, fun cn a dd => qPar 2 3 (qCons (qXf cn a dd ["InvalidCount"] "tag" (qVar 4)) (qCons (qCallX 1 C__law_error_field cn a dd (qCons (qVar 4) qNil)) qNil))), (mtB, 4, fun cn a dd => qSet 2 (qXf cn a dd ["InvalidCount"] "tag" (qVar 4)))])
    (qRet (qTup (qCons (qVar 1) (qCons (qVar 2) (qCons (qVar 3) qNil))))))
theorem W__law_outcome (T : Txt fa fn xb K mg) (h0 : FXOk P wd K mg base 1 d__law_error_field ["_law_e"] C__law_error_field) : FLOk P wd K mg base 22 21 d__law_outcome "_law_ask" (fqL N__law_outcome Q__law_outcome) := by
  obtain ⟨fd, F⟩ := T.s.c.def_ 7 (d := d__law_outcome) rfl
  obtain ⟨fd0, F0, G0⟩ := h0
  have b0 : Binds K fd0 ["_law_e"] [] := F0.bindsN fun _ _ _ _ _ _ us hl => match us, hl with | [_], _ => rfl
  exact ⟨fd, F, fl_ok (k := 21) F S__law_outcome (by decide) (by decide) fun cdv A outer s H E w hid f FF B act =>
    f_cons (at1 (qs_asg (q_tup (qa_cons q_non (qa_cons q_str (qa_cons q_non qa_nil)))) (qg_tup B.hc (qgs_cons (qg_name 1 S__law_outcome.nd) (qgs_cons (qg_name 2 S__law_outcome.nd) (qgs_cons (qg_name 3 S__law_outcome.nd) qgs_nil))) rfl)) ⟨w, H, hid⟩)
    (f_cons (f_try B rfl rfl S__law_outcome.nd (fun W1 pn xe B1 => f_one (f_set (i := 1) S__law_outcome.nd rfl (Or.inl rfl) (f_act (c := ⟨w, H, hid⟩) B1 rfl act rfl (by decide) rfl (Or.inl rfl) (by decide) (by decide))))
    (.cons (test_two ⟨rfl, by decide, .inl (T.glo 32 "LawError" rfl)⟩ ⟨rfl, by decide, .inl (T.glo 33 "NotFound" rfl)⟩) rfl rfl (mt_all (cs := fun K => [.ref (He.ga K "LawError"), .ref (He.ga K "NotFound")]) (T.own 15 rfl)) (fun a oe cn dd pn hz hf => qss_one (qs_parH (hotC_suite hz hf) S__law_outcome.nd rfl rfl (by decide) rfl rfl (qa_cons (q_xf List.mem_cons_self hz hf (xfc_all (T.own 1 rfl)) (q_var 4)) (qa_cons (q_callX G0 ⟨(B.hr.mono (j := 1) (by decide)).dp, (B.hr.mono (j := 1) (by decide)).un⟩ hz hf rfl (T.glo 30 "_law_error_field" rfl) F0.kp b0 (qa_cons (q_var 4) qa_nil)) qa_nil)) (by rfl)))
    (.cons (test_name ⟨rfl, by decide, .inl (T.glo 31 "NothingLeft" rfl)⟩) rfl rfl (mt_all (cs := fun K => [.ref (He.ga K "NothingLeft")]) (T.own 16 rfl)) (fun a oe cn dd pn hz hf => qss_one (qs_set (i := 2) S__law_outcome.nd rfl (Or.inl rfl) (q_xf List.mem_cons_self hz hf (xfc_all (T.own 1 rfl)) (q_var 4)))) .nil)))
    (f_one (at1 (qs_ret (q_tup (qa_cons (q_var 1) (qa_cons (q_var 2) (qa_cons (q_var 3) qa_nil))))) ⟨w, H, hid⟩)))⟩
theorem I__law_outcome : ∀ F EX ob R, C__law_outcome F EX [] ob R → fqL N__law_outcome Q__law_outcome F EX [] ob R := by
  intro F EX ob R h f
  refine ⟨szl rfl, rfl, ltn rfl, ltn rfl, ltn rfl, rfl, h _ _ (fun e o he => ?_) fun d o hd => ⟨ltn rfl, szl rfl, hd⟩⟩
  obtain ⟨fld, hc, hm, ht, hf, hR⟩ := he
  refine ⟨true, hm, ltn rfl, fun a dd => ⟨rfl, rfl, rfl, hc, _, ht, rfl, e.fs, e.xs, fld, rfl, hc, ht, hf, ltn rfl, ltn rfl, szl rfl, hR⟩⟩
theorem ok__law_outcome (T : Txt fa fn xb K mg) : FLOk P wd K mg base 22 21 d__law_outcome "_law_ask" C__law_outcome := (W__law_outcome T (ok__law_error_field T)).imp I__law_outcome
/-! ### divisor_of -/
abbrev s_divisor_of : Stmt := top 7
abbrev N_divisor_of : List Str := ["one", "other"]
theorem S_divisor_of : FnScope N_divisor_of ["one", "other"] (defScope s_divisor_of) := ⟨rfl, rfl, rfl, by decide +kernel, rfl, by decide +kernel, by decide +kernel⟩
def C_divisor_of : FQ := fun _ ds ob P => ∃ a b : Int, ds = [.int a, .int b] ∧ P (.int (Int.gcd a b)) ob
def B1_divisor_of : QS :=
    qPar 0 1 (qCons (qVar 1) (qCons (qOp oMod (qVar 0) (qVar 1)) (qNil)))
def Q_divisor_of : QS :=
    qSeq (qPar 0 1 (qCons (qCB oAbs (qCons (qVar 0) (qNil))) (qCons (qCB oAbs (qCons (qVar 1) (qNil))) (qNil))))
    (qSeq (qWhile (qTest (qOp (oGt) (qVar 1) (qC (.int 0)))) (B1_divisor_of))
    (qRet (qVar 0)))
theorem W_divisor_of (T : Txt fa fn xb K mg)  : FOk P wd K mg base (1) d_divisor_of ["one", "other"] (fqOf N_divisor_of (Q_divisor_of)) := by
  obtain ⟨fd, F⟩ := T.s.c.def_ 8 (d := d_divisor_of) rfl
  exact ⟨fd, F, fq_ok F S_divisor_of (by decide) fun cdv A outer s H E B =>
    qss_cons (qs_par (i := 0) (j := 1) B.hc S_divisor_of.nd rfl rfl (by decide) rfl rfl (qa_cons (q_abs rfl (T.fre 20 "abs" rfl) (qa_cons (q_var 0) (qa_nil))) (qa_cons (q_abs rfl (T.fre 20 "abs" rfl) (qa_cons (q_var 1) (qa_nil))) (qa_nil))) (by rfl))
    (qss_cons (qs_while B.hp (qt_gt (q_var 1) (q_int)) (qss_one (qs_par (i := 0) (j := 1) B.hc S_divisor_of.nd rfl rfl (by decide) rfl rfl (qa_cons (q_var 1) (qa_cons (q_mod (q_var 0) (q_var 1)) (qa_nil))) (by rfl))))
    (qss_one (qs_ret (q_var 0))))⟩
theorem I_divisor_of : ∀ EX ds ob R, ds.length = 2 → C_divisor_of EX ds ob R → fqOf N_divisor_of Q_divisor_of EX ds ob R := by
  rintro EX ds ob R - ⟨a, b, rfl, hR⟩
  refine ⟨ltn rfl, ltn rfl, fun m Γ => ∃ x y : Int, Γ = ⟨[.va (.int x), .va (.int y)], ob⟩ ∧ 0 ≤ x ∧ 0 ≤ y ∧ Int.gcd x y = Int.gcd a b ∧ m = y.toNat, ⟨_, _, _, rfl, ?_, ?_, gcd_abs, rfl⟩, ?_⟩
  · split <;> omega
  · split <;> omega
  · rintro m Γ ⟨x, y, rfl, hx, hy, hg, rfl⟩
    refine qB_i (fun h => ?_) fun h => ?_
    · have hy0 : 0 < y := of_decide_eq_true h
      have n0 := Int.fmod_nonneg_of_pos x (show 0 < y by omega)
      have n1 := Int.fmod_lt_of_pos x (show 0 < y by omega)
      exact ⟨by omega, ltn rfl, ltn rfl, _, by omega, y, x.fmod y, rfl, by omega, n0, (gcd_step (by omega) hx).trans hg, rfl⟩
    · have hy0 : y = 0 := by have z : ¬ 0 < y := of_decide_eq_false h; omega
      subst hy0
      show R (.int x) ob
      have e : x = (Int.gcd a b : Int) := by rw [← hg, gcd_zero' hx]
      rw [e]
      exact hR
theorem ok_divisor_of (T : Txt fa fn xb K mg) : FOk P wd K mg base 1 d_divisor_of ["one", "other"] C_divisor_of := (W_divisor_of T).imp I_divisor_of
/-! ### value -/
abbrev s_value : Stmt := top 9
abbrev N_value : List Str := ["num", "den", "by"]
theorem S_value : FnScope N_value ["num", "den"] (defScope s_value) := ⟨rfl, rfl, rfl, by decide +kernel, rfl, by decide +kernel, by decide +kernel⟩
def badCount (d : Int) : Exc := ⟨"InvalidCount", ["tag", "number"], [.str "InvalidCount", .int d]⟩
def C_value : FQ := fun EX ds ob P => ∃ n d : Int, ds = [.int n, .int d] ∧ ((1 ≤ d ∧ d < 2 ^ 8900 ∧ P (vD (valF n d)) ob) ∨ (d < 1 ∧ EX (badCount d) ob))
def Q_value : QS :=
    qSeq (qIfS (qTest (qOp (oLt) (qVar 1) (qC (.int 1)))) (qRaise "InvalidCount" ["number"] "InvalidCount" (qCons (qVar 1) (qNil))) (qNext))
    (qSeq (qSet 0 (qOp oMod (qVar 0) (qVar 1)))
    (qSeq (qSet 2 (qCall 2 C_divisor_of [] (qCons (qVar 0) (qCons (qVar 1) (qNil)))))
    (qRet (qTup (qCons (qOp oDiv (qVar 0) (qVar 2)) (qCons (qOp oDiv (qVar 1) (qVar 2)) (qNil)))))))
theorem W_value (T : Txt fa fn xb K mg) (h0 : FOk P wd K mg base 1 d_divisor_of ["one", "other"] C_divisor_of) : FOk P wd K mg base (3) d_value ["num", "den"] (fqOf N_value (Q_value)) := by
  obtain ⟨fd, F⟩ := T.s.c.def_ 9 (d := d_value) rfl
  obtain ⟨fd0, F0, G0⟩ := h0
  have b0_2 : Binds K fd0 ["one", "other"] [] := F0.bindsN fun _ _ _ _ _ _ us hl => match us, hl with | [_, _], _ => rfl
  obtain ⟨fdI_InvalidCount, FI_InvalidCount, GI_InvalidCount⟩ := init_InvalidCount (P := P) (wd := wd) (base := base) T
  have bI_InvalidCount : Binds K fdI_InvalidCount ["self", "number"] [] := FI_InvalidCount.bindsN fun _ _ _ _ _ _ us hl => match us, hl with | [_, _], _ => rfl
  exact ⟨fd, F, fq_ok F S_value (by decide) fun cdv A outer s H E B =>
    qss_cons (qs_if (qt_lt (q_var 1) (q_int)) (qss_one (qs_raise B (oexB_ok (T.own 11 rfl)) (of_decide_eq_true (T.own 12 rfl)) (of_decide_eq_true (T.own 13 rfl)) (hno_all (T.own 14 rfl)) GI_InvalidCount (by decide) bI_InvalidCount rfl (T.glo 28 "InvalidCount" rfl) (qa_cons (q_var 1) (qa_nil)))) (qss_nil))
    (qss_cons (qs_set (i := 0) S_value.nd rfl (by first | exact Or.inl rfl | exact Or.inr rfl) (q_mod (q_var 0) (q_var 1)))
    (qss_cons (qs_set (i := 2) S_value.nd rfl (by first | exact Or.inl rfl | exact Or.inr rfl) (q_call (F := C_divisor_of) B G0 (by decide) rfl (T.glo 29 "divisor_of" rfl) F0.kp b0_2 .nil (fun _ _ _ => rfl) (qa_cons (q_var 0) (qa_cons (q_var 1) (qa_nil)))))
    (qss_one (qs_ret (q_tup (qa_cons (q_fdiv (q_var 0) (q_var 2)) (qa_cons (q_fdiv (q_var 1) (q_var 2)) (qa_nil))))))))⟩
theorem I_value : ∀ EX ds ob R, ds.length = 2 → C_value EX ds ob R → fqOf N_value Q_value EX ds ob R := by
  rintro EX ds ob R - ⟨n, d, rfl, ⟨h1, h2, hR⟩ | ⟨h1, hE⟩⟩
  · have g1 := gcd_pos (n := n.fmod d) h1
    have g2 := gcd_le (n := n.fmod d) h1
    have hg : ((Int.gcd (n.fmod d) d : Int)).natAbs.log2 < 9000 := log_lt 8900 (pw_nat (by omega) (by omega)) (by decide)
    refine qB_i (fun h => ?_) fun h => ?_
    · have h : d < 1 := of_decide_eq_true h
      omega
    · exact ⟨by omega, ltn rfl, rfl, n.fmod d, d, rfl, ltn rfl, ⟨by omega, hg⟩, ⟨by omega, hg⟩, szl rfl, hR⟩
  · refine qB_t (decide_eq_true h1) ⟨rfl, Nat.le_of_ble_eq_true rfl, hE⟩
theorem ok_value (T : Txt fa fn xb K mg) : FOk P wd K mg base 3 d_value ["num", "den"] C_value := (W_value T (ok_divisor_of T)).imp I_value
/-! ### _law_some_value -/
abbrev s__law_some_value : Stmt := top 24
abbrev N__law_some_value : List Str := ["_law_rng", "_law_den"]
theorem S__law_some_value : FnScope N__law_some_value ["_law_rng"] (defScope s__law_some_value) := ⟨rfl, rfl, rfl, by decide +kernel, rfl, by decide +kernel, by decide +kernel⟩
def C__law_some_value : FQ := fun _ ds ob P => ∃ r : Nat, ds = [.ref r] ∧ RngAt ob r ∧ ∀ v o, VB 20 v → isVal v = true → RngO o → P (vD v) (ob.set r o)
def Q__law_some_value : QS :=
    qSeq (qSet 1 (qCall 2 C__law_choice [] (qCons (qVar 0) (qCons (qOfL (qLst (qCons (qC (.int 1)) (qCons (qC (.int 2)) (qCons (qC (.int 3)) (qCons (qC (.int 4)) (qCons (qC (.int 5)) (qCons (qC (.int 6)) (qCons (qC (.int 8)) (qCons (qC (.int 9)) (qCons (qOp oAdd (qC (.int 1)) (qCall 2 C__law_draw [] (qCons (qVar 0) (qCons (qC (.int 30)) (qNil))))) (qCons (qOp oAdd (qC (.int 1)) (qCall 2 C__law_draw [] (qCons (qVar 0) (qCons (qOp oPow (qC (.int 10)) (qC (.int 6))) (qNil))))) (qNil))))))))))))) (qNil)))))
    (qRet (qCall 2 C__law_value [] (qCons (qCall 2 C__law_draw [] (qCons (qVar 0) (qCons (qVar 1) (qNil)))) (qCons (qVar 1) (qNil)))))
theorem W__law_some_value (T : Txt fa fn xb K mg) (h0 : FOk P wd K mg base 2 d__law_choice ["_law_rng", "_law_some"] C__law_choice) (h1 : FOk P wd K mg base 1 d__law_draw ["_law_rng", "_law_many"] C__law_draw) (h2 : FOk P wd K mg base 2 d__law_value ["_law_num", "_law_den"] C__law_value) : FOk P wd K mg base (3) d__law_some_value ["_law_rng"] (fqOf N__law_some_value (Q__law_some_value)) := by
  obtain ⟨fd, F⟩ := T.s.c.def_ 10 (d := d__law_some_value) rfl
  obtain ⟨fd0, F0, G0⟩ := h0
  obtain ⟨fd1, F1, G1⟩ := h1
  obtain ⟨fd2, F2, G2⟩ := h2
  have b0_2 : Binds K fd0 ["_law_rng", "_law_some"] [] := F0.bindsN fun _ _ _ _ _ _ us hl => match us, hl with | [_, _], _ => rfl
  have b1_2 : Binds K fd1 ["_law_rng", "_law_many"] [] := F1.bindsN fun _ _ _ _ _ _ us hl => match us, hl with | [_, _], _ => rfl
  have b2_2 : Binds K fd2 ["_law_num", "_law_den"] [] := F2.bindsN fun _ _ _ _ _ _ us hl => match us, hl with | [_, _], _ => rfl
  exact ⟨fd, F, fq_ok F S__law_some_value (by decide) fun cdv A outer s H E B =>
    qss_cons (qs_set (i := 1) S__law_some_value.nd rfl (by first | exact Or.inl rfl | exact Or.inr rfl) (q_call (F := C__law_choice) B G0 (by decide) rfl (T.glo 3 "_law_choice" rfl) F0.kp b0_2 .nil (fun _ _ _ => rfl) (qa_cons (q_var 0) (qa_cons (q_lst (qa_cons (q_int) (qa_cons (q_int) (qa_cons (q_int) (qa_cons (q_int) (qa_cons (q_int) (qa_cons (q_int) (qa_cons (q_int) (qa_cons (q_int) (qa_cons (q_add (q_int) (q_call (F := C__law_draw) B G1 (by decide) rfl (T.glo 2 "_law_draw" rfl) F1.kp b1_2 .nil (fun _ _ _ => rfl) (qa_cons (q_var 0) (qa_cons (q_int) (qa_nil))))) (qa_cons (q_add (q_int) (q_call (F := C__law_draw) B G1 (by decide) rfl (T.glo 2 "_law_draw" rfl) F1.kp b1_2 .nil (fun _ _ _ => rfl) (qa_cons (q_var 0) (qa_cons (q_pow (q_int) (q_int)) (qa_nil))))) (qa_nil)))))))))))) (qa_nil)))))
    (qss_one (qs_ret (q_call (F := C__law_value) B G2 (by decide) rfl (T.glo 4 "_law_value" rfl) F2.kp b2_2 .nil (fun _ _ _ => rfl) (qa_cons (q_call (F := C__law_draw) B G1 (by decide) rfl (T.glo 2 "_law_draw" rfl) F1.kp b1_2 .nil (fun _ _ _ => rfl) (qa_cons (q_var 0) (qa_cons (q_var 1) (qa_nil)))) (qa_cons (q_var 1) (qa_nil))))))⟩
theorem I__law_some_value : ∀ EX ds ob R, ds.length = 1 → C__law_some_value EX ds ob R → fqOf N__law_some_value Q__law_some_value EX ds ob R := by
  rintro EX ds ob R - ⟨r, rfl, hr, hR⟩
  have g2 : ∀ o o', (ob.set r o).set r o' = ob.set r o' := fun o o' => List.set_set ..
  refine ⟨rfl, r, 30, rfl, by decide, by decide, hr, fun z1 o1 a1 b1 c1 => ?_⟩
  refine ⟨⟨by decide, by decide, by decide⟩, rfl, r, 1000000, rfl, by decide, by decide, hr.set c1, fun z2 o2 a2 b2 c2 => ?_⟩
  refine ⟨szl rfl, rfl, r, _, _, rfl, (.inl rfl), ltn rfl, Nat.le_of_ble_eq_true rfl, (hr.set c1).set c2, fun x o3 hx c3 => ?_⟩
  have hd : ∃ d : Int, x = .int d ∧ 1 ≤ d ∧ d ≤ 1000000 := by
    simp only [List.mem_cons, List.not_mem_nil, or_false] at hx
    rcases hx with rfl | rfl | rfl | rfl | rfl | rfl | rfl | rfl | rfl | rfl
    all_goals exact ⟨_, rfl, by omega, by omega⟩
  obtain ⟨d, rfl, d1, d2⟩ := hd
  refine ⟨ltn rfl, rfl, r, d, rfl, d1, log_lt 32 (by omega) (by decide), ((hr.set c1).set c2).set c3, fun z4 o4 a4 b4 c4 => ?_⟩
  refine ⟨rfl, z4, d, rfl, d1, ?_, ?_⟩
  · have := pw (show 20 ≤ 8900 by decide)
    omega
  · show R (vD (valF z4 d)) ((((ob.set r o1).set r o2).set r o3).set r o4)
    rw [g2, g2, g2]
    exact hR _ _ (valF_ok d1 (by omega)) (isVal_valF d1) c4
theorem ok__law_some_value (T : Txt fa fn xb K mg) : FOk P wd K mg base 3 d__law_some_value ["_law_rng"] C__law_some_value := (W__law_some_value T (ok__law_choice T) (ok__law_draw T) (ok__law_value T)).imp I__law_some_value
/-! ### plus -/
abbrev s_plus : Stmt := top 10
abbrev N_plus : List Str := ["one", "other"]
theorem S_plus : FnScope N_plus ["one", "other"] (defScope s_plus) := ⟨rfl, rfl, rfl, by decide +kernel, rfl, by decide +kernel, by decide +kernel⟩
def C_plus : FQ := fun _ ds ob P => ∃ a b : Int × Int, ds = [vD a, vD b] ∧ VB 4000 a ∧ VB 4000 b ∧ P (vD (plF a b)) ob
def Q_plus : QS :=
    qRet (qCall 2 C_value [] (qCons (qOp oAdd (qOp oMul (qOp oIx (qVar 0) (qC (.int 0))) (qOp oIx (qVar 1) (qC (.int 1)))) (qOp oMul (qOp oIx (qVar 1) (qC (.int 0))) (qOp oIx (qVar 0) (qC (.int 1))))) (qCons (qOp oMul (qOp oIx (qVar 0) (qC (.int 1))) (qOp oIx (qVar 1) (qC (.int 1)))) (qNil))))
theorem W_plus (T : Txt fa fn xb K mg) (h0 : FOk P wd K mg base 3 d_value ["num", "den"] C_value) : FOk P wd K mg base (4) d_plus ["one", "other"] (fqOf N_plus (Q_plus)) := by
  obtain ⟨fd, F⟩ := T.s.c.def_ 11 (d := d_plus) rfl
  obtain ⟨fd0, F0, G0⟩ := h0
  obtain ⟨_, v0_2, b0_2⟩ := F0.binds1 (ps := ["num", "den"]) 2 1 (by intro z; cases z) rfl fun _ _ _ _ _ _ _ us its hl hi => match us, its, hl, hi with | [_, _], [_], _, _ => ⟨_, rfl, rfl⟩
  exact ⟨fd, F, fq_ok F S_plus (by decide) fun cdv A outer s H E B =>
    qss_one (qs_ret (q_call (F := C_value) B G0 (by decide) rfl (T.glo 5 "value" rfl) F0.kp b0_2 v0_2 (fun _ _ _ => rfl) (qa_cons (q_add (q_mul (q_ix (q_var 0) (q_int)) (q_ix (q_var 1) (q_int))) (q_mul (q_ix (q_var 1) (q_int)) (q_ix (q_var 0) (q_int)))) (qa_cons (q_mul (q_ix (q_var 0) (q_int)) (q_ix (q_var 1) (q_int))) (qa_nil)))))⟩
theorem I_plus : ∀ EX ds ob R, ds.length = 2 → C_plus EX ds ob R → fqOf N_plus Q_plus EX ds ob R := by
  rintro EX ds ob R - ⟨a, b, rfl, h1, h2, hR⟩
  have p : 0 < a.2 := by have := h1.1; have := h1.2.1; omega
  have q : 0 < b.2 := by have := h2.1; have := h2.2.1; omega
  have hpos := Int.mul_pos p q
  have hlt : a.2 * b.2 < 2 ^ 8900 := by
    have z : a.2 * b.2 < 2 ^ (4000 + 4000) := by
      rw [← two_add]
      exact Int.lt_of_lt_of_le (Int.mul_lt_mul_of_pos_right h1.2.2 q) (Int.mul_le_mul_of_nonneg_left (Int.le_of_lt h2.2.2) (Int.le_of_lt (Int.pow_pos (by decide))))
    exact Int.lt_of_lt_of_le z (pw (by decide))
  exact ⟨_, rfl, _, rfl, cmul 4000 4000 h1.num h2.den (by decide), _, rfl, _, rfl, cmul 4000 4000 h2.num h1.den (by decide), _, rfl, _, rfl, cmul 4000 4000 h1.den h2.den (by decide), rfl, _, _, rfl, .inl ⟨by omega, hlt, hR⟩⟩
theorem ok_plus (T : Txt fa fn xb K mg) : FOk P wd K mg base 4 d_plus ["one", "other"] C_plus := (W_plus T (ok_value T)).imp I_plus
/-! ### multiple -/
abbrev s_multiple : Stmt := top 11
abbrev N_multiple : List Str := ["number", "one"]
theorem S_multiple : FnScope N_multiple ["number", "one"] (defScope s_multiple) := ⟨rfl, rfl, rfl, by decide +kernel, rfl, by decide +kernel, by decide +kernel⟩
def C_multiple : FQ := fun _ ds ob P => ∃ (n : Int) (a : Int × Int), ds = [.int n, vD a] ∧ VB 8000 a ∧ n.natAbs < 2 ^ 100000 ∧ P (vD (muF n a)) ob
def Q_multiple : QS :=
    qRet (qCall 2 C_value [] (qCons (qOp oMul (qVar 0) (qOp oIx (qVar 1) (qC (.int 0)))) (qCons (qOp oIx (qVar 1) (qC (.int 1))) (qNil))))
theorem W_multiple (T : Txt fa fn xb K mg) (h0 : FOk P wd K mg base 3 d_value ["num", "den"] C_value) : FOk P wd K mg base (4) d_multiple ["number", "one"] (fqOf N_multiple (Q_multiple)) := by
  obtain ⟨fd, F⟩ := T.s.c.def_ 12 (d := d_multiple) rfl
  obtain ⟨fd0, F0, G0⟩ := h0
  obtain ⟨_, v0_2, b0_2⟩ := F0.binds1 (ps := ["num", "den"]) 2 1 (by intro z; cases z) rfl fun _ _ _ _ _ _ _ us its hl hi => match us, its, hl, hi with | [_, _], [_], _, _ => ⟨_, rfl, rfl⟩
  exact ⟨fd, F, fq_ok F S_multiple (by decide) fun cdv A outer s H E B =>
    qss_one (qs_ret (q_call (F := C_value) B G0 (by decide) rfl (T.glo 5 "value" rfl) F0.kp b0_2 v0_2 (fun _ _ _ => rfl) (qa_cons (q_mul (q_var 0) (q_ix (q_var 1) (q_int))) (qa_cons (q_ix (q_var 1) (q_int)) (qa_nil)))))⟩
theorem I_multiple : ∀ EX ds ob R, ds.length = 2 → C_multiple EX ds ob R → fqOf N_multiple Q_multiple EX ds ob R := by
  rintro EX ds ob R - ⟨n, a, rfl, h1, h2, hR⟩
  have p : 0 < a.2 := by have := h1.1; have := h1.2.1; omega
  exact ⟨_, rfl, cmul 100000 8000 h2 h1.num (by decide), _, rfl, rfl, _, _, rfl, .inl ⟨by omega, (h1.mono (by decide : 8000 ≤ 8900)).2.2, hR⟩⟩
theorem ok_multiple (T : Txt fa fn xb K mg) : FOk P wd K mg base 4 d_multiple ["number", "one"] C_multiple := (W_multiple T (ok_value T)).imp I_multiple
/-! ### opposite -/
abbrev s_opposite : Stmt := top 12
abbrev N_opposite : List Str := ["one"]
theorem S_opposite : FnScope N_opposite ["one"] (defScope s_opposite) := ⟨rfl, rfl, rfl, by decide +kernel, rfl, by decide +kernel, by decide +kernel⟩
def C_opposite : FQ := fun _ ds ob P => ∃ a : Int × Int, ds = [vD a] ∧ VB 8000 a ∧ P (vD (muF (-1) a)) ob
def Q_opposite : QS :=
    qRet (qCall 2 C_multiple [] (qCons (qUn oNeg (qC (.int 1))) (qCons (qVar 0) (qNil))))
theorem W_opposite (T : Txt fa fn xb K mg) (h0 : FOk P wd K mg base 4 d_multiple ["number", "one"] C_multiple) : FOk P wd K mg base (5) d_opposite ["one"] (fqOf N_opposite (Q_opposite)) := by
  obtain ⟨fd, F⟩ := T.s.c.def_ 13 (d := d_opposite) rfl
  obtain ⟨fd0, F0, G0⟩ := h0
  have b0_2 : Binds K fd0 ["number", "one"] [] := F0.bindsN fun _ _ _ _ _ _ us hl => match us, hl with | [_, _], _ => rfl
  exact ⟨fd, F, fq_ok F S_opposite (by decide) fun cdv A outer s H E B =>
    qss_one (qs_ret (q_call (F := C_multiple) B G0 (by decide) rfl (T.glo 11 "multiple" rfl) F0.kp b0_2 .nil (fun _ _ _ => rfl) (qa_cons (q_neg (q_int)) (qa_cons (q_var 0) (qa_nil)))))⟩
theorem I_opposite : ∀ EX ds ob R, ds.length = 1 → C_opposite EX ds ob R → fqOf N_opposite Q_opposite EX ds ob R := by
  rintro EX ds ob R - ⟨a, rfl, h1, hR⟩
  exact ⟨rfl, -1, a, rfl, h1, Nat.one_lt_two_pow (by decide), hR⟩
theorem ok_opposite (T : Txt fa fn xb K mg) : FOk P wd K mg base 5 d_opposite ["one"] C_opposite := (W_opposite T (ok_multiple T)).imp I_opposite
/-! ### _law_multiple -/
abbrev s__law_multiple : Stmt := top 23
abbrev N__law_multiple : List Str := ["_law_number", "_law_one"]
theorem S__law_multiple : FnScope N__law_multiple ["_law_number", "_law_one"] (defScope s__law_multiple) := ⟨rfl, rfl, rfl, by decide +kernel, rfl, by decide +kernel, by decide +kernel⟩
def C__law_multiple : FQ := fun _ ds ob P => ∃ (n : Int) (a : Int × Int), ds = [.int n, vD a] ∧ VB 8000 a ∧ n.natAbs < 2 ^ 100000 ∧ P (vD (muF n a)) ob
def Q__law_multiple : QS :=
    qRet (qCall 2 C__law_value [] (qCons (qOp oMul (qVar 0) (qOp oIx (qVar 1) (qC (.int 0)))) (qCons (qOp oIx (qVar 1) (qC (.int 1))) (qNil))))
theorem W__law_multiple (T : Txt fa fn xb K mg) (h0 : FOk P wd K mg base 2 d__law_value ["_law_num", "_law_den"] C__law_value) : FOk P wd K mg base (3) d__law_multiple ["_law_number", "_law_one"] (fqOf N__law_multiple (Q__law_multiple)) := by
  obtain ⟨fd, F⟩ := T.s.c.def_ 14 (d := d__law_multiple) rfl
  obtain ⟨fd0, F0, G0⟩ := h0
  have b0_2 : Binds K fd0 ["_law_num", "_law_den"] [] := F0.bindsN fun _ _ _ _ _ _ us hl => match us, hl with | [_, _], _ => rfl
  exact ⟨fd, F, fq_ok F S__law_multiple (by decide) fun cdv A outer s H E B =>
    qss_one (qs_ret (q_call (F := C__law_value) B G0 (by decide) rfl (T.glo 4 "_law_value" rfl) F0.kp b0_2 .nil (fun _ _ _ => rfl) (qa_cons (q_mul (q_var 0) (q_ix (q_var 1) (q_int))) (qa_cons (q_ix (q_var 1) (q_int)) (qa_nil)))))⟩
theorem I__law_multiple : ∀ EX ds ob R, ds.length = 2 → C__law_multiple EX ds ob R → fqOf N__law_multiple Q__law_multiple EX ds ob R := by
  rintro EX ds ob R - ⟨n, a, rfl, h1, h2, hR⟩
  have p : 0 < a.2 := by have := h1.1; have := h1.2.1; omega
  exact ⟨_, rfl, cmul 100000 8000 h2 h1.num (by decide), _, rfl, rfl, _, _, rfl, by omega, (h1.mono (by decide : 8000 ≤ 8900)).2.2, hR⟩
theorem ok__law_multiple (T : Txt fa fn xb K mg) : FOk P wd K mg base 3 d__law_multiple ["_law_number", "_law_one"] C__law_multiple := (W__law_multiple T (ok__law_value T)).imp I__law_multiple
/-! ### _law_plus -/
abbrev s__law_plus : Stmt := top 22
abbrev N__law_plus : List Str := ["_law_one", "_law_other"]
theorem S__law_plus : FnScope N__law_plus ["_law_one", "_law_other"] (defScope s__law_plus) := ⟨rfl, rfl, rfl, by decide +kernel, rfl, by decide +kernel, by decide +kernel⟩
def C__law_plus : FQ := fun _ ds ob P => ∃ a b : Int × Int, ds = [vD a, vD b] ∧ VB 4000 a ∧ VB 4000 b ∧ P (vD (plF a b)) ob
def Q__law_plus : QS :=
    qRet (qCall 2 C__law_value [] (qCons (qOp oAdd (qOp oMul (qOp oIx (qVar 0) (qC (.int 0))) (qOp oIx (qVar 1) (qC (.int 1)))) (qOp oMul (qOp oIx (qVar 1) (qC (.int 0))) (qOp oIx (qVar 0) (qC (.int 1))))) (qCons (qOp oMul (qOp oIx (qVar 0) (qC (.int 1))) (qOp oIx (qVar 1) (qC (.int 1)))) (qNil))))
theorem W__law_plus (T : Txt fa fn xb K mg) (h0 : FOk P wd K mg base 2 d__law_value ["_law_num", "_law_den"] C__law_value) : FOk P wd K mg base (3) d__law_plus ["_law_one", "_law_other"] (fqOf N__law_plus (Q__law_plus)) := by
  obtain ⟨fd, F⟩ := T.s.c.def_ 15 (d := d__law_plus) rfl
  obtain ⟨fd0, F0, G0⟩ := h0
  have b0_2 : Binds K fd0 ["_law_num", "_law_den"] [] := F0.bindsN fun _ _ _ _ _ _ us hl => match us, hl with | [_, _], _ => rfl
  exact ⟨fd, F, fq_ok F S__law_plus (by decide) fun cdv A outer s H E B =>
    qss_one (qs_ret (q_call (F := C__law_value) B G0 (by decide) rfl (T.glo 4 "_law_value" rfl) F0.kp b0_2 .nil (fun _ _ _ => rfl) (qa_cons (q_add (q_mul (q_ix (q_var 0) (q_int)) (q_ix (q_var 1) (q_int))) (q_mul (q_ix (q_var 1) (q_int)) (q_ix (q_var 0) (q_int)))) (qa_cons (q_mul (q_ix (q_var 0) (q_int)) (q_ix (q_var 1) (q_int))) (qa_nil)))))⟩
theorem I__law_plus : ∀ EX ds ob R, ds.length = 2 → C__law_plus EX ds ob R → fqOf N__law_plus Q__law_plus EX ds ob R := by
  rintro EX ds ob R - ⟨a, b, rfl, h1, h2, hR⟩
  have p : 0 < a.2 := by have := h1.1; have := h1.2.1; omega
  have q : 0 < b.2 := by have := h2.1; have := h2.2.1; omega
  have hpos := Int.mul_pos p q
  have hlt : a.2 * b.2 < 2 ^ 8900 := by
    have z : a.2 * b.2 < 2 ^ (4000 + 4000) := by
      rw [← two_add]
      exact Int.lt_of_lt_of_le (Int.mul_lt_mul_of_pos_right h1.2.2 q) (Int.mul_le_mul_of_nonneg_left (Int.le_of_lt h2.2.2) (Int.le_of_lt (Int.pow_pos (by decide))))
    exact Int.lt_of_lt_of_le z (pw (by decide))
  exact ⟨_, rfl, _, rfl, cmul 4000 4000 h1.num h2.den (by decide), _, rfl, _, rfl, cmul 4000 4000 h2.num h1.den (by decide), _, rfl, _, rfl, cmul 4000 4000 h1.den h2.den (by decide), rfl, _, _, rfl, by omega, hlt, hR⟩
theorem ok__law_plus (T : Txt fa fn xb K mg) : FOk P wd K mg base 3 d__law_plus ["_law_one", "_law_other"] C__law_plus := (W__law_plus T (ok__law_value T)).imp I__law_plus
/-! ### is_value -/
abbrev s_is_value : Stmt := top 8
abbrev N_is_value : List Str := ["pair", "num", "den"]
theorem S_is_value : FnScope N_is_value ["pair"] (defScope s_is_value) := ⟨rfl, rfl, rfl, by decide +kernel, rfl, by decide +kernel, by decide +kernel⟩
def C_is_value : FQ := fun _ ds ob P => ∃ a : Int × Int, ds = [vD a] ∧ P (.bl (isVal a)) ob
def Q_is_value : QS :=
    qSeq (qAsg (qVar 0) (gqTup [gqName 1, gqName 2]))
    (qRet (qAndV (qChain oLe oLt (qC (.int 0)) (qVar 1) (qVar 2)) (qOp (oEq) (qCall 2 C_divisor_of [] (qCons (qVar 1) (qCons (qVar 2) (qNil)))) (qC (.int 1)))))
theorem W_is_value (T : Txt fa fn xb K mg) (h0 : FOk P wd K mg base 1 d_divisor_of ["one", "other"] C_divisor_of) : FOk P wd K mg base (2) d_is_value ["pair"] (fqOf N_is_value (Q_is_value)) := by
  obtain ⟨fd, F⟩ := T.s.c.def_ 16 (d := d_is_value) rfl
  obtain ⟨fd0, F0, G0⟩ := h0
  have b0_2 : Binds K fd0 ["one", "other"] [] := F0.bindsN fun _ _ _ _ _ _ us hl => match us, hl with | [_, _], _ => rfl
  exact ⟨fd, F, fq_ok F S_is_value (by decide) fun cdv A outer s H E B =>
    qss_cons (qs_asg (q_var 0) (qg_tup B.hc (qgs_cons (qg_name 1 S_is_value.nd) (qgs_cons (qg_name 2 S_is_value.nd) (qgs_nil))) rfl))
    (qss_one (qs_ret (q_and (q_chain lr_le lr_lt (q_int) (q_var 1) (q_var 2)) (q_one (q_eq B (q_call (F := C_divisor_of) B G0 (by decide) rfl (T.glo 29 "divisor_of" rfl) F0.kp b0_2 .nil (fun _ _ _ => rfl) (qa_cons (q_var 1) (qa_cons (q_var 2) (qa_nil)))) (q_int))))))⟩
theorem I_is_value : ∀ EX ds ob R, ds.length = 1 → C_is_value EX ds ob R → fqOf N_is_value Q_is_value EX ds ob R := by
  rintro EX ds ob R - ⟨a, rfl, hR⟩
  unfold isVal at hR
  refine ⟨rfl, ltn rfl, ltn rfl, qB_i (fun h => ?_) fun h => ?_⟩
  · have h : decide (0 ≤ a.1) = true := h
    rw [h] at hR
    show qB (decide (a.1 < a.2)) _ _
    refine qB_i (fun h2 => ?_) fun h2 => ?_
    · rw [h2] at hR
      exact ⟨rfl, _, _, rfl, hR⟩
    · rw [h2] at hR
      exact hR
  · have h : decide (0 ≤ a.1) = false := h
    rw [h] at hR
    exact hR
theorem ok_is_value (T : Txt fa fn xb K mg) : FOk P wd K mg base 2 d_is_value ["pair"] C_is_value := (W_is_value T (ok_divisor_of T)).imp I_is_value
/-! ### _law_is_value -/
abbrev s__law_is_value : Stmt := top 25
abbrev N__law_is_value : List Str := ["_law_pair", "_law_one"]
theorem S__law_is_value : FnScope N__law_is_value ["_law_pair"] (defScope s__law_is_value) := ⟨rfl, rfl, rfl, by decide +kernel, rfl, by decide +kernel, by decide +kernel⟩
def C__law_is_value : FQ := fun _ ds ob P => ∃ a : Int × Int, ds = [vD a] ∧ P (.bl (isVal a)) ob
def E1__law_is_value : QE :=
    qAndV (qCB oIsi (qCons (qVar 1) (qCons (qC (.ty "int")) (qNil)))) (qUn qNotV (qCB oIsi (qCons (qVar 1) (qCons (qC (.ty "bool")) (qNil)))))
def Q__law_is_value : QS :=
    qSeq (qIfS (qOr (qNot (qTest (qCB oIsi (qCons (qVar 0) (qCons (qC (.ty "tuple")) (qNil)))))) (qTest (qOp (oNe) (qCB oLen (qCons (qVar 0) (qNil))) (qC (.int 2))))) (qRet (qC (.bl false))) (qNext))
    (qSeq (qIfS (qNot (qTest (qCB oAll (qCons (qOfL (qLc (iqSeq (qVar 0)) (gqName 1) (qYes) (E1__law_is_value) [1])) (qNil))))) (qRet (qC (.bl false))) (qNext))
    (qRet (qAndV (qChain oLe oLt (qC (.int 0)) (qOp oIx (qVar 0) (qC (.int 0))) (qOp oIx (qVar 0) (qC (.int 1)))) (qOp (oEq) (qCall 2 C__law_divisor [] (qCons (qOp oIx (qVar 0) (qC (.int 0))) (qCons (qOp oIx (qVar 0) (qC (.int 1))) (qNil)))) (qC (.int 1))))))
theorem W__law_is_value (T : Txt fa fn xb K mg) (h0 : FOk P wd K mg base 1 d__law_divisor ["_law_one", "_law_other"] C__law_divisor) : FOk P wd K mg base (2) d__law_is_value ["_law_pair"] (fqOf N__law_is_value (Q__law_is_value)) := by
  obtain ⟨fd, F⟩ := T.s.c.def_ 17 (d := d__law_is_value) rfl
  obtain ⟨fd0, F0, G0⟩ := h0
  have b0_2 : Binds K fd0 ["_law_one", "_law_other"] [] := F0.bindsN fun _ _ _ _ _ _ us hl => match us, hl with | [_, _], _ => rfl
  exact ⟨fd, F, fq_ok F S__law_is_value (by decide) fun cdv A outer s H E B =>
    qss_cons (qs_if (qw_pt (qw_or (qt_not (qt_val (q_isi rfl (T.fre 21 "isinstance" rfl) (qa_cons (q_var 0) (qa_cons (q_tyn rfl (T.fre 22 "tuple" rfl) (by decide +kernel)) (qa_nil)))))) (qw_or1 (qt_ne B (q_len rfl (T.fre 17 "len" rfl) (qa_cons (q_var 0) (qa_nil))) (q_int))))) (qss_one (qs_ret (q_bl))) (qss_nil))
    (qss_cons (qs_if (qt_not (qt_val (q_all B rfl (T.fre 24 "all" rfl) (qa_cons (q_ofL (ql_lc (own := [("_law_one", 1)]) B S__law_is_value.nd (qi_seq (q_var 0)) (blkOk_by (N := N__law_is_value) (sc := defScope (s__law_is_value)) (by decide +kernel)) (fun _ _ _ _ _ B1 => ⟨qv_name 1 S__law_is_value.nd (by decide), qts_nil, q_and (q_isi rfl (T.fre 21 "isinstance" rfl) (qa_cons (q_var 1) (qa_cons (q_tyn rfl (T.fre 26 "int" rfl) (by decide +kernel)) (qa_nil)))) (q_one (q_not (q_isi rfl (T.fre 21 "isinstance" rfl) (qa_cons (q_var 1) (qa_cons (q_tyn rfl (T.fre 25 "bool" rfl) (by decide +kernel)) (qa_nil))))))⟩))) (qa_nil))))) (qss_one (qs_ret (q_bl))) (qss_nil))
    (qss_one (qs_ret (q_and (q_chain lr_le lr_lt (q_int) (q_ix (q_var 0) (q_int)) (q_ix (q_var 0) (q_int))) (q_one (q_eq B (q_call (F := C__law_divisor) B G0 (by decide) rfl (T.glo 19 "_law_divisor" rfl) F0.kp b0_2 .nil (fun _ _ _ => rfl) (qa_cons (q_ix (q_var 0) (q_int)) (qa_cons (q_ix (q_var 0) (q_int)) (qa_nil)))) (q_int)))))))⟩
theorem I__law_is_value : ∀ EX ds ob R, ds.length = 1 → C__law_is_value EX ds ob R → fqOf N__law_is_value Q__law_is_value EX ds ob R := by
  rintro EX ds ob R - ⟨a, rfl, hR⟩
  unfold isVal at hR
  refine ⟨_, _, rfl, rfl, qB_f rfl ?_⟩
  refine ⟨ltn rfl, _, _, rfl, rfl, _, _, rfl, rfl, szlt rfl, ltn rfl, _, _, rfl, rfl, _, _, rfl, rfl, szlt rfl, _, rfl, ?_⟩
  refine ⟨_, rfl, qB_i (fun h => ?_) fun h => ?_⟩
  · have h : decide (0 ≤ a.1) = true := h
    rw [h] at hR
    refine ⟨_, rfl, ?_⟩
    show qB (decide (a.1 < a.2)) _ _
    refine qB_i (fun h2 => ?_) fun h2 => ?_
    · rw [h2] at hR
      exact ⟨_, rfl, _, rfl, rfl, _, _, rfl, hR⟩
    · rw [h2] at hR
      exact hR
  · have h : decide (0 ≤ a.1) = false := h
    rw [h] at hR
    exact hR
theorem ok__law_is_value (T : Txt fa fn xb K mg) : FOk P wd K mg base 2 d__law_is_value ["_law_pair"] C__law_is_value := (W__law_is_value T (ok__law_divisor T)).imp I__law_is_value
/-! ### law -/
abbrev s_law : Stmt := top 26
abbrev N_law : List Str := ["_law_script", "_law_rng", "_law_turn", "_law_a", "_law_b", "_law_due", "_law_one", "_law_two", "_law_k", "_law_found", "_law_den", "_law_big", "_law_pair"]
theorem S_law : FnScope N_law ["_law_script"] (defScope s_law) := ⟨rfl, rfl, rfl, by decide +kernel, rfl, by decide +kernel, by decide +kernel⟩
def C_law (Pt : Addr) : FQ := fun _ ds ob P => ∃ ns : List Int, ds = [.frl (ns.map .int)] ∧ ob = [.tab Pt "law.<locals>.<lambda>"] ∧ ∀ ob', P (.bl true) ob'
def L1_law (Pt : Addr) : QE :=
    qCall 2 C_value [] (qCons (qVar 3) (qCons (qVar 4) (qNil)))
def R1_law (Pt : Addr) : QS :=
    qSeq (qSet 10 (qOp oAdd (qOp oAdd (qOp oMul (qOp oPow (qC (.int 10)) (qC (.int 49))) (qOp oPow (qC (.int 10)) (qC (.int 49)))) (qOp oMul (qC (.int 2)) (qCall 2 C__law_draw [] (qCons (qVar 1) (qCons (qOp oPow (qC (.int 10)) (qC (.int 20))) (qNil)))))) (qC (.int 1))))
    (qSeq (qSet 11 (qCall 2 C__law_value [] (qCons (qOp oAdd (qOp oMul (qOp oMul (qCall 2 C__law_draw [] (qCons (qVar 1) (qCons (qOp oPow (qC (.int 10)) (qC (.int 30))) (qNil)))) (qOp oPow (qC (.int 10)) (qC (.int 60)))) (qOp oPow (qC (.int 10)) (qC (.int 5)))) (qCall 2 C__law_draw [] (qCons (qVar 1) (qCons (qOp oPow (qC (.int 10)) (qC (.int 30))) (qNil))))) (qCons (qVar 10) (qNil)))))
    (qSeq (qSet 9 (qOfL (qLst (qCons (qCall 2 C_plus [] (qCons (qVar 11) (qCons (qVar 6) (qNil)))) (qCons (qCall 2 C_plus [] (qCons (qVar 11) (qCons (qVar 11) (qNil)))) (qCons (qCall 2 C_multiple [] (qCons (qVar 8) (qCons (qVar 11) (qNil)))) (qCons (qCall 1 C_opposite [] (qCons (qVar 11) (qNil))) (qCons (qCall 1 C_is_value [] (qCons (qVar 11) (qNil))) (qNil)))))))))
    (qSeq (qSet 5 (qOfL (qLst (qCons (qCall 2 C__law_plus [] (qCons (qVar 11) (qCons (qVar 6) (qNil)))) (qCons (qCall 2 C__law_plus [] (qCons (qVar 11) (qCons (qVar 11) (qNil)))) (qCons (qCall 2 C__law_multiple [] (qCons (qVar 8) (qCons (qVar 11) (qNil)))) (qCons (qCall 2 C__law_multiple [] (qCons (qOp oSub (qC (.int 0)) (qC (.int 1))) (qCons (qVar 11) (qNil)))) (qCons (qC (.bl true)) (qNil)))))))))
    (qSeq (qIfS (qNot (qTest (qCall 2 (C__law_equal 5) [] (qCons (qVar 9) (qCons (qVar 5) (qNil)))))) (qRet (qC (.bl false))) (qNext))
    (qSeq (qSet 12 (qTup (qCons (qOp oSub (qCall 2 C__law_draw [] (qCons (qVar 1) (qCons (qC (.int 14)) (qNil)))) (qC (.int 2))) (qCons (qOp oSub (qCall 2 C__law_draw [] (qCons (qVar 1) (qCons (qC (.int 14)) (qNil)))) (qC (.int 2))) (qNil)))))
    (qIfS (qNot (qTest (qCall 2 (C__law_equal 5) [] (qCons (qOfL (qLst (qCons (qCall 1 C_is_value [] (qCons (qVar 12) (qNil))) (qCons (qCall 1 C_is_value [] (qCons (qVar 6) (qNil))) (qNil))))) (qCons (qOfL (qLst (qCons (qCall 1 C__law_is_value [] (qCons (qVar 12) (qNil))) (qCons (qC (.bl true)) (qNil))))) (qNil)))))) (qRet (qC (.bl false))) (qNext)))))))
def R2_law (Pt : Addr) : QS :=
    qSeq (qSet 6 (qCall 1 C__law_some_value [] (qCons (qVar 1) (qNil))))
    (qSeq (qSet 7 (qCall 1 C__law_some_value [] (qCons (qVar 1) (qNil))))
    (qSeq (qSet 8 (qOp oSub (qCall 2 C__law_draw [] (qCons (qVar 1) (qCons (qOp oMul (qC (.int 2)) (qOp oPow (qC (.int 10)) (qC (.int 20)))) (qNil)))) (qOp oPow (qC (.int 10)) (qC (.int 20)))))
    (qSeq (qSet 9 (qOfL (qLst (qCons (qCall 2 C_plus [] (qCons (qVar 6) (qCons (qVar 7) (qNil)))) (qCons (qCall 2 C_multiple [] (qCons (qVar 8) (qCons (qVar 6) (qNil)))) (qCons (qCall 2 C_multiple [] (qCons (qC (.int 0)) (qCons (qVar 6) (qNil)))) (qCons (qCall 1 C_opposite [] (qCons (qVar 6) (qNil))) (qCons (qCall 2 C_plus [] (qCons (qVar 6) (qCons (qCall 1 C_opposite [] (qCons (qVar 6) (qNil))) (qNil)))) (qNil)))))))))
    (qSeq (qSet 5 (qOfL (qLst (qCons (qCall 2 C__law_plus [] (qCons (qVar 6) (qCons (qVar 7) (qNil)))) (qCons (qCall 2 C__law_multiple [] (qCons (qVar 8) (qCons (qVar 6) (qNil)))) (qCons (qTup (qCons (qC (.int 0)) (qCons (qC (.int 1)) (qNil)))) (qCons (qCall 2 C__law_multiple [] (qCons (qOp oSub (qC (.int 0)) (qC (.int 1))) (qCons (qVar 6) (qNil)))) (qCons (qTup (qCons (qC (.int 0)) (qCons (qC (.int 1)) (qNil)))) (qNil)))))))))
    (qSeq (qIfS (qNot (qTest (qCall 2 (C__law_equal 5) [] (qCons (qVar 9) (qCons (qVar 5) (qNil)))))) (qRet (qC (.bl false))) (qNext))
    ((R1_law Pt)))))))
def B1_law (Pt : Addr) : QS :=
    qSeq (qSet 3 (qCall 2 C__law_choice [] (qCons (qVar 1) (qCons (qOfL (qLst (qCons (qOp oSub (qCall 2 C__law_draw [] (qCons (qVar 1) (qCons (qC (.int 99)) (qNil)))) (qC (.int 49))) (qCons (qOp oSub (qCall 2 C__law_draw [] (qCons (qVar 1) (qCons (qOp oMul (qC (.int 2)) (qOp oPow (qC (.int 10)) (qC (.int 29)))) (qNil)))) (qOp oPow (qC (.int 10)) (qC (.int 29)))) (qNil))))) (qNil)))))
    (qSeq (qSet 4 (qCall 2 C__law_choice [] (qCons (qVar 1) (qCons (qOfL (qLst (qCons (qOp oAdd (qC (.int 1)) (qCall 2 C__law_draw [] (qCons (qVar 1) (qCons (qC (.int 20)) (qNil))))) (qCons (qOp oAdd (qC (.int 1)) (qCall 2 C__law_draw [] (qCons (qVar 1) (qCons (qOp oSub (qOp oPow (qC (.int 10)) (qC (.int 30))) (qC (.int 1))) (qNil))))) (qCons (qC (.int 0)) (qCons (qOp oSub (qC (.int 0)) (qCall 2 C__law_draw [] (qCons (qVar 1) (qCons (qC (.int 9)) (qNil))))) (qNil))))))) (qNil)))))
    (qSeq (qSet 5 (qIf (qTest (qOp (oLt) (qVar 4) (qC (.int 1)))) (qTup (qCons (qC .non) (qCons (qC (.str "InvalidCount")) (qCons (qVar 4) (qNil))))) (qTup (qCons (qCall 2 C__law_value [] (qCons (qVar 3) (qCons (qVar 4) (qNil)))) (qCons (qC (.str "")) (qCons (qC .non) (qNil)))))))
    (qSeq (qIfS (qOr (qNot (qTest (qCall 2 (C__law_equal 5) [] (qCons (qLam Pt "law.<locals>.<lambda>" 0 C__law_outcome ((L1_law Pt))) (qCons (qVar 5) (qNil)))))) (qNot (qTest (qCall 2 (C__law_equal 5) [] (qCons (qCall 2 C_value [.int 1] (qCons (qVar 3) (qNil))) (qCons (qTup (qCons (qC (.int 0)) (qCons (qC (.int 1)) (qNil)))) (qNil))))))) (qRet (qC (.bl false))) (qNext))
    ((R2_law Pt)))))
def Q_law (Pt : Addr) : QS :=
    qSeq (qSet 1 (qCall 1 C__law_source [] (qCons (qVar 0) (qNil))))
    (qSeq (qFor (iqRng1 (qCons (qC (.int 6)) (qNil))) (gqName 2) ((B1_law Pt)))
    (qRet (qCall 2 (C__law_equal 5) [] (qCons (qOfL (qLst (qCons (qC (.tup [.int 0, .int 1])) (qCons (qCall 1 C_is_value [] (qCons (qTup (qCons (qC (.int 0)) (qCons (qC (.int 1)) (qNil)))) (qNil))) (qCons (qCall 1 C_is_value [] (qCons (qTup (qCons (qC (.int 0)) (qCons (qC (.int 2)) (qNil)))) (qNil))) (qCons (qCall 1 C_is_value [] (qCons (qTup (qCons (qC (.int 1)) (qCons (qC (.int 1)) (qNil)))) (qNil))) (qNil))))))) (qCons (qOfL (qLst (qCons (qTup (qCons (qC (.int 0)) (qCons (qC (.int 1)) (qNil)))) (qCons (qC (.bl true)) (qCons (qC (.bl false)) (qCons (qC (.bl false)) (qNil))))))) (qNil))))))
theorem W_law (T : Txt fa fn xb K mg) (h0 : FOk P wd K mg base 1 d__law_source ["_law_script"] C__law_source) (h1 : FOk P wd K mg base 2 d__law_choice ["_law_rng", "_law_some"] C__law_choice) (h2 : FOk P wd K mg base 1 d__law_draw ["_law_rng", "_law_many"] C__law_draw) (h3 : FOk P wd K mg base 2 d__law_value ["_law_num", "_law_den"] C__law_value) (h4 : FOk P wd K mg base 6 d__law_equal ["_law_result", "_law_expected"] (C__law_equal 5)) (h5 : FLOk P wd K mg base 22 21 d__law_outcome "_law_ask" C__law_outcome) (h6 : FOk P wd K mg base 3 d_value ["num", "den"] C_value) (h7 : FOk P wd K mg base 3 d__law_some_value ["_law_rng"] C__law_some_value) (h8 : FOk P wd K mg base 4 d_plus ["one", "other"] C_plus) (h9 : FOk P wd K mg base 5 d_opposite ["one"] C_opposite) (h10 : FOk P wd K mg base 4 d_multiple ["number", "one"] C_multiple) (h11 : FOk P wd K mg base 3 d__law_multiple ["_law_number", "_law_one"] C__law_multiple) (h12 : FOk P wd K mg base 3 d__law_plus ["_law_one", "_law_other"] C__law_plus) (h13 : FOk P wd K mg base 2 d_is_value ["pair"] C_is_value) (h14 : FOk P wd K mg base 2 d__law_is_value ["_law_pair"] C__law_is_value) {Pt : Addr} (TBl : LamX.TabB base mg (codeAt K (He.fAd K ("law", none))) Pt) : FOk P wd K mg base (24) d_law ["_law_script"] (fqOf N_law (Q_law Pt)) := by
  obtain ⟨fd, F⟩ := T.s.c.def_ 18 (d := d_law) rfl
  obtain ⟨fd0, F0, G0⟩ := h0
  obtain ⟨fd1, F1, G1⟩ := h1
  obtain ⟨fd2, F2, G2⟩ := h2
  obtain ⟨fd3, F3, G3⟩ := h3
  obtain ⟨fd4, F4, G4⟩ := h4
  obtain ⟨fd5, F5, G5⟩ := h5
  obtain ⟨fd6, F6, G6⟩ := h6
  obtain ⟨fd7, F7, G7⟩ := h7
  obtain ⟨fd8, F8, G8⟩ := h8
  obtain ⟨fd9, F9, G9⟩ := h9
  obtain ⟨fd10, F10, G10⟩ := h10
  obtain ⟨fd11, F11, G11⟩ := h11
  obtain ⟨fd12, F12, G12⟩ := h12
  obtain ⟨fd13, F13, G13⟩ := h13
  obtain ⟨fd14, F14, G14⟩ := h14
  have b0_1 : Binds K fd0 ["_law_script"] [] := F0.bindsN fun _ _ _ _ _ _ us hl => match us, hl with | [_], _ => rfl
  have b1_2 : Binds K fd1 ["_law_rng", "_law_some"] [] := F1.bindsN fun _ _ _ _ _ _ us hl => match us, hl with | [_, _], _ => rfl
  have b10_2 : Binds K fd10 ["number", "one"] [] := F10.bindsN fun _ _ _ _ _ _ us hl => match us, hl with | [_, _], _ => rfl
  have b11_2 : Binds K fd11 ["_law_number", "_law_one"] [] := F11.bindsN fun _ _ _ _ _ _ us hl => match us, hl with | [_, _], _ => rfl
  have b12_2 : Binds K fd12 ["_law_one", "_law_other"] [] := F12.bindsN fun _ _ _ _ _ _ us hl => match us, hl with | [_, _], _ => rfl
  have b13_1 : Binds K fd13 ["pair"] [] := F13.bindsN fun _ _ _ _ _ _ us hl => match us, hl with | [_], _ => rfl
  have b14_1 : Binds K fd14 ["_law_pair"] [] := F14.bindsN fun _ _ _ _ _ _ us hl => match us, hl with | [_], _ => rfl
  have b2_2 : Binds K fd2 ["_law_rng", "_law_many"] [] := F2.bindsN fun _ _ _ _ _ _ us hl => match us, hl with | [_, _], _ => rfl
  have b3_2 : Binds K fd3 ["_law_num", "_law_den"] [] := F3.bindsN fun _ _ _ _ _ _ us hl => match us, hl with | [_, _], _ => rfl
  have b4_2 : Binds K fd4 ["_law_result", "_law_expected"] [] := F4.bindsN fun _ _ _ _ _ _ us hl => match us, hl with | [_, _], _ => rfl
  obtain ⟨_, v6_1, b6_1⟩ := F6.binds1 (ps := ["num", "den"]) 1 0 (by intro z; cases z) rfl fun _ _ _ _ _ _ _ us its hl hi => match us, its, hl, hi with | [_], [_], _, _ => ⟨_, rfl, rfl⟩
  obtain ⟨_, v6_2, b6_2⟩ := F6.binds1 (ps := ["num", "den"]) 2 1 (by intro z; cases z) rfl fun _ _ _ _ _ _ _ us its hl hi => match us, its, hl, hi with | [_, _], [_], _, _ => ⟨_, rfl, rfl⟩
  have b7_1 : Binds K fd7 ["_law_rng"] [] := F7.bindsN fun _ _ _ _ _ _ us hl => match us, hl with | [_], _ => rfl
  have b8_2 : Binds K fd8 ["one", "other"] [] := F8.bindsN fun _ _ _ _ _ _ us hl => match us, hl with | [_, _], _ => rfl
  have b9_1 : Binds K fd9 ["one"] [] := F9.bindsN fun _ _ _ _ _ _ us hl => match us, hl with | [_], _ => rfl
  have bL5 : Binds K fd5 ["_law_ask"] [] := F5.bindsN fun _ _ _ _ _ _ us hl => match us, hl with | [_], _ => rfl
  exact ⟨fd, F, fq_okT F S_law (by decide) fun cdv A outer s H E hcd B =>
    qss_cons (qs_set (i := 1) S_law.nd rfl (by first | exact Or.inl rfl | exact Or.inr rfl) (q_call (F := C__law_source) B G0 (by decide) rfl (T.glo 0 "_law_source" rfl) F0.kp b0_1 .nil (fun _ _ _ => rfl) (qa_cons (q_var 0) (qa_nil))))
    (qss_cons (qs_for B.hp B.hc (qi_rng1 rfl (T.fre 1 "range" rfl) (qa_cons (q_int) (qa_nil))) (qg_name 2 S_law.nd) (qss_cons (qs_set (i := 3) S_law.nd rfl (by first | exact Or.inl rfl | exact Or.inr rfl) (q_call (F := C__law_choice) B G1 (by decide) rfl (T.glo 3 "_law_choice" rfl) F1.kp b1_2 .nil (fun _ _ _ => rfl) (qa_cons (q_var 1) (qa_cons (q_lst (qa_cons (q_sub (q_call (F := C__law_draw) B G2 (by decide) rfl (T.glo 2 "_law_draw" rfl) F2.kp b2_2 .nil (fun _ _ _ => rfl) (qa_cons (q_var 1) (qa_cons (q_int) (qa_nil)))) (q_int)) (qa_cons (q_sub (q_call (F := C__law_draw) B G2 (by decide) rfl (T.glo 2 "_law_draw" rfl) F2.kp b2_2 .nil (fun _ _ _ => rfl) (qa_cons (q_var 1) (qa_cons (q_mul (q_int) (q_pow (q_int) (q_int))) (qa_nil)))) (q_pow (q_int) (q_int))) (qa_nil)))) (qa_nil)))))
    (qss_cons (qs_set (i := 4) S_law.nd rfl (by first | exact Or.inl rfl | exact Or.inr rfl) (q_call (F := C__law_choice) B G1 (by decide) rfl (T.glo 3 "_law_choice" rfl) F1.kp b1_2 .nil (fun _ _ _ => rfl) (qa_cons (q_var 1) (qa_cons (q_lst (qa_cons (q_add (q_int) (q_call (F := C__law_draw) B G2 (by decide) rfl (T.glo 2 "_law_draw" rfl) F2.kp b2_2 .nil (fun _ _ _ => rfl) (qa_cons (q_var 1) (qa_cons (q_int) (qa_nil))))) (qa_cons (q_add (q_int) (q_call (F := C__law_draw) B G2 (by decide) rfl (T.glo 2 "_law_draw" rfl) F2.kp b2_2 .nil (fun _ _ _ => rfl) (qa_cons (q_var 1) (qa_cons (q_sub (q_pow (q_int) (q_int)) (q_int)) (qa_nil))))) (qa_cons (q_int) (qa_cons (q_sub (q_int) (q_call (F := C__law_draw) B G2 (by decide) rfl (T.glo 2 "_law_draw" rfl) F2.kp b2_2 .nil (fun _ _ _ => rfl) (qa_cons (q_var 1) (qa_cons (q_int) (qa_nil))))) (qa_nil)))))) (qa_nil)))))
    (qss_cons (qs_set (i := 5) S_law.nd rfl (by first | exact Or.inl rfl | exact Or.inr rfl) (q_if (qt_lt (q_var 4) (q_int)) (q_tup (qa_cons (q_non) (qa_cons (q_str) (qa_cons (q_var 4) (qa_nil))))) (q_tup (qa_cons (q_call (F := C__law_value) B G3 (by decide) rfl (T.glo 4 "_law_value" rfl) F3.kp b3_2 .nil (fun _ _ _ => rfl) (qa_cons (q_var 3) (qa_cons (q_var 4) (qa_nil)))) (qa_cons (q_str) (qa_cons (q_non) (qa_nil)))))))
    (qss_cons (qs_if (qw_pt (qw_or (qt_not (qt_val (q_call (F := (C__law_equal 5)) B G4 (by decide) rfl (T.glo 7 "_law_equal" rfl) F4.kp b4_2 .nil (fun _ _ _ => rfl) (qa_cons (q_lam (t := 0) (kb := 20) (B.mono (by decide)) G5 rfl (T.glo 6 "_law_outcome" rfl) F5.kp bL5 TBl hcd rfl (LamX.lamS_by (sc := defScope s_law) (by decide +kernel)) rfl (fun _ _ _ _ _ => rfl) (fun _ _ _ _ _ _ _ B1 => q_call (F := C_value) B1 G6 (by decide) rfl (T.glo 5 "value" rfl) F6.kp b6_2 v6_2 (fun _ _ _ => rfl) (qa_cons (q_var 3) (qa_cons (q_var 4) (qa_nil))))) (qa_cons (q_var 5) (qa_nil)))))) (qw_or1 (qt_not (qt_val (q_call (F := (C__law_equal 5)) B G4 (by decide) rfl (T.glo 7 "_law_equal" rfl) F4.kp b4_2 .nil (fun _ _ _ => rfl) (qa_cons (q_call (F := C_value) B G6 (by decide) rfl (T.glo 5 "value" rfl) F6.kp b6_1 v6_1 (fun _ _ _ => Reps.cons rfl (rfl)) (qa_cons (q_var 3) (qa_nil))) (qa_cons (q_tup (qa_cons (q_int) (qa_cons (q_int) (qa_nil)))) (qa_nil))))))))) (qss_one (qs_ret (q_bl))) (qss_nil))
    (qss_cons (qs_set (i := 6) S_law.nd rfl (by first | exact Or.inl rfl | exact Or.inr rfl) (q_call (F := C__law_some_value) B G7 (by decide) rfl (T.glo 8 "_law_some_value" rfl) F7.kp b7_1 .nil (fun _ _ _ => rfl) (qa_cons (q_var 1) (qa_nil))))
    (qss_cons (qs_set (i := 7) S_law.nd rfl (by first | exact Or.inl rfl | exact Or.inr rfl) (q_call (F := C__law_some_value) B G7 (by decide) rfl (T.glo 8 "_law_some_value" rfl) F7.kp b7_1 .nil (fun _ _ _ => rfl) (qa_cons (q_var 1) (qa_nil))))
    (qss_cons (qs_set (i := 8) S_law.nd rfl (by first | exact Or.inl rfl | exact Or.inr rfl) (q_sub (q_call (F := C__law_draw) B G2 (by decide) rfl (T.glo 2 "_law_draw" rfl) F2.kp b2_2 .nil (fun _ _ _ => rfl) (qa_cons (q_var 1) (qa_cons (q_mul (q_int) (q_pow (q_int) (q_int))) (qa_nil)))) (q_pow (q_int) (q_int))))
    (qss_cons (qs_set (i := 9) S_law.nd rfl (by first | exact Or.inl rfl | exact Or.inr rfl) (q_lst (qa_cons (q_call (F := C_plus) B G8 (by decide) rfl (T.glo 10 "plus" rfl) F8.kp b8_2 .nil (fun _ _ _ => rfl) (qa_cons (q_var 6) (qa_cons (q_var 7) (qa_nil)))) (qa_cons (q_call (F := C_multiple) B G10 (by decide) rfl (T.glo 11 "multiple" rfl) F10.kp b10_2 .nil (fun _ _ _ => rfl) (qa_cons (q_var 8) (qa_cons (q_var 6) (qa_nil)))) (qa_cons (q_call (F := C_multiple) B G10 (by decide) rfl (T.glo 11 "multiple" rfl) F10.kp b10_2 .nil (fun _ _ _ => rfl) (qa_cons (q_int) (qa_cons (q_var 6) (qa_nil)))) (qa_cons (q_call (F := C_opposite) B G9 (by decide) rfl (T.glo 9 "opposite" rfl) F9.kp b9_1 .nil (fun _ _ _ => rfl) (qa_cons (q_var 6) (qa_nil))) (qa_cons (q_call (F := C_plus) B G8 (by decide) rfl (T.glo 10 "plus" rfl) F8.kp b8_2 .nil (fun _ _ _ => rfl) (qa_cons (q_var 6) (qa_cons (q_call (F := C_opposite) B G9 (by decide) rfl (T.glo 9 "opposite" rfl) F9.kp b9_1 .nil (fun _ _ _ => rfl) (qa_cons (q_var 6) (qa_nil))) (qa_nil)))) (qa_nil))))))))
    (qss_cons (qs_set (i := 5) S_law.nd rfl (by first | exact Or.inl rfl | exact Or.inr rfl) (q_lst (qa_cons (q_call (F := C__law_plus) B G12 (by decide) rfl (T.glo 13 "_law_plus" rfl) F12.kp b12_2 .nil (fun _ _ _ => rfl) (qa_cons (q_var 6) (qa_cons (q_var 7) (qa_nil)))) (qa_cons (q_call (F := C__law_multiple) B G11 (by decide) rfl (T.glo 12 "_law_multiple" rfl) F11.kp b11_2 .nil (fun _ _ _ => rfl) (qa_cons (q_var 8) (qa_cons (q_var 6) (qa_nil)))) (qa_cons (q_tup (qa_cons (q_int) (qa_cons (q_int) (qa_nil)))) (qa_cons (q_call (F := C__law_multiple) B G11 (by decide) rfl (T.glo 12 "_law_multiple" rfl) F11.kp b11_2 .nil (fun _ _ _ => rfl) (qa_cons (q_sub (q_int) (q_int)) (qa_cons (q_var 6) (qa_nil)))) (qa_cons (q_tup (qa_cons (q_int) (qa_cons (q_int) (qa_nil)))) (qa_nil))))))))
    (qss_cons (qs_if (qt_not (qt_val (q_call (F := (C__law_equal 5)) B G4 (by decide) rfl (T.glo 7 "_law_equal" rfl) F4.kp b4_2 .nil (fun _ _ _ => rfl) (qa_cons (q_var 9) (qa_cons (q_var 5) (qa_nil)))))) (qss_one (qs_ret (q_bl))) (qss_nil))
    (qss_cons (qs_set (i := 10) S_law.nd rfl (by first | exact Or.inl rfl | exact Or.inr rfl) (q_add (q_add (q_mul (q_pow (q_int) (q_int)) (q_pow (q_int) (q_int))) (q_mul (q_int) (q_call (F := C__law_draw) B G2 (by decide) rfl (T.glo 2 "_law_draw" rfl) F2.kp b2_2 .nil (fun _ _ _ => rfl) (qa_cons (q_var 1) (qa_cons (q_pow (q_int) (q_int)) (qa_nil)))))) (q_int)))
    (qss_cons (qs_set (i := 11) S_law.nd rfl (by first | exact Or.inl rfl | exact Or.inr rfl) (q_call (F := C__law_value) B G3 (by decide) rfl (T.glo 4 "_law_value" rfl) F3.kp b3_2 .nil (fun _ _ _ => rfl) (qa_cons (q_add (q_mul (q_mul (q_call (F := C__law_draw) B G2 (by decide) rfl (T.glo 2 "_law_draw" rfl) F2.kp b2_2 .nil (fun _ _ _ => rfl) (qa_cons (q_var 1) (qa_cons (q_pow (q_int) (q_int)) (qa_nil)))) (q_pow (q_int) (q_int))) (q_pow (q_int) (q_int))) (q_call (F := C__law_draw) B G2 (by decide) rfl (T.glo 2 "_law_draw" rfl) F2.kp b2_2 .nil (fun _ _ _ => rfl) (qa_cons (q_var 1) (qa_cons (q_pow (q_int) (q_int)) (qa_nil))))) (qa_cons (q_var 10) (qa_nil)))))
    (qss_cons (qs_set (i := 9) S_law.nd rfl (by first | exact Or.inl rfl | exact Or.inr rfl) (q_lst (qa_cons (q_call (F := C_plus) B G8 (by decide) rfl (T.glo 10 "plus" rfl) F8.kp b8_2 .nil (fun _ _ _ => rfl) (qa_cons (q_var 11) (qa_cons (q_var 6) (qa_nil)))) (qa_cons (q_call (F := C_plus) B G8 (by decide) rfl (T.glo 10 "plus" rfl) F8.kp b8_2 .nil (fun _ _ _ => rfl) (qa_cons (q_var 11) (qa_cons (q_var 11) (qa_nil)))) (qa_cons (q_call (F := C_multiple) B G10 (by decide) rfl (T.glo 11 "multiple" rfl) F10.kp b10_2 .nil (fun _ _ _ => rfl) (qa_cons (q_var 8) (qa_cons (q_var 11) (qa_nil)))) (qa_cons (q_call (F := C_opposite) B G9 (by decide) rfl (T.glo 9 "opposite" rfl) F9.kp b9_1 .nil (fun _ _ _ => rfl) (qa_cons (q_var 11) (qa_nil))) (qa_cons (q_call (F := C_is_value) B G13 (by decide) rfl (T.glo 14 "is_value" rfl) F13.kp b13_1 .nil (fun _ _ _ => rfl) (qa_cons (q_var 11) (qa_nil))) (qa_nil))))))))
    (qss_cons (qs_set (i := 5) S_law.nd rfl (by first | exact Or.inl rfl | exact Or.inr rfl) (q_lst (qa_cons (q_call (F := C__law_plus) B G12 (by decide) rfl (T.glo 13 "_law_plus" rfl) F12.kp b12_2 .nil (fun _ _ _ => rfl) (qa_cons (q_var 11) (qa_cons (q_var 6) (qa_nil)))) (qa_cons (q_call (F := C__law_plus) B G12 (by decide) rfl (T.glo 13 "_law_plus" rfl) F12.kp b12_2 .nil (fun _ _ _ => rfl) (qa_cons (q_var 11) (qa_cons (q_var 11) (qa_nil)))) (qa_cons (q_call (F := C__law_multiple) B G11 (by decide) rfl (T.glo 12 "_law_multiple" rfl) F11.kp b11_2 .nil (fun _ _ _ => rfl) (qa_cons (q_var 8) (qa_cons (q_var 11) (qa_nil)))) (qa_cons (q_call (F := C__law_multiple) B G11 (by decide) rfl (T.glo 12 "_law_multiple" rfl) F11.kp b11_2 .nil (fun _ _ _ => rfl) (qa_cons (q_sub (q_int) (q_int)) (qa_cons (q_var 11) (qa_nil)))) (qa_cons (q_bl) (qa_nil))))))))
    (qss_cons (qs_if (qt_not (qt_val (q_call (F := (C__law_equal 5)) B G4 (by decide) rfl (T.glo 7 "_law_equal" rfl) F4.kp b4_2 .nil (fun _ _ _ => rfl) (qa_cons (q_var 9) (qa_cons (q_var 5) (qa_nil)))))) (qss_one (qs_ret (q_bl))) (qss_nil))
    (qss_cons (qs_set (i := 12) S_law.nd rfl (by first | exact Or.inl rfl | exact Or.inr rfl) (q_tup (qa_cons (q_sub (q_call (F := C__law_draw) B G2 (by decide) rfl (T.glo 2 "_law_draw" rfl) F2.kp b2_2 .nil (fun _ _ _ => rfl) (qa_cons (q_var 1) (qa_cons (q_int) (qa_nil)))) (q_int)) (qa_cons (q_sub (q_call (F := C__law_draw) B G2 (by decide) rfl (T.glo 2 "_law_draw" rfl) F2.kp b2_2 .nil (fun _ _ _ => rfl) (qa_cons (q_var 1) (qa_cons (q_int) (qa_nil)))) (q_int)) (qa_nil)))))
    (qss_one (qs_if (qt_not (qt_val (q_call (F := (C__law_equal 5)) B G4 (by decide) rfl (T.glo 7 "_law_equal" rfl) F4.kp b4_2 .nil (fun _ _ _ => rfl) (qa_cons (q_lst (qa_cons (q_call (F := C_is_value) B G13 (by decide) rfl (T.glo 14 "is_value" rfl) F13.kp b13_1 .nil (fun _ _ _ => rfl) (qa_cons (q_var 12) (qa_nil))) (qa_cons (q_call (F := C_is_value) B G13 (by decide) rfl (T.glo 14 "is_value" rfl) F13.kp b13_1 .nil (fun _ _ _ => rfl) (qa_cons (q_var 6) (qa_nil))) (qa_nil)))) (qa_cons (q_lst (qa_cons (q_call (F := C__law_is_value) B G14 (by decide) rfl (T.glo 15 "_law_is_value" rfl) F14.kp b14_1 .nil (fun _ _ _ => rfl) (qa_cons (q_var 12) (qa_nil))) (qa_cons (q_bl) (qa_nil)))) (qa_nil)))))) (qss_one (qs_ret (q_bl))) (qss_nil))))))))))))))))))))
    (qss_one (qs_ret (q_call (F := (C__law_equal 5)) B G4 (by decide) rfl (T.glo 7 "_law_equal" rfl) F4.kp b4_2 .nil (fun _ _ _ => rfl) (qa_cons (q_lst (qa_cons (T.ctup 16 0 [.int 0, .int 1] rfl rfl rfl rfl) (qa_cons (q_call (F := C_is_value) B G13 (by decide) rfl (T.glo 14 "is_value" rfl) F13.kp b13_1 .nil (fun _ _ _ => rfl) (qa_cons (q_tup (qa_cons (q_int) (qa_cons (q_int) (qa_nil)))) (qa_nil))) (qa_cons (q_call (F := C_is_value) B G13 (by decide) rfl (T.glo 14 "is_value" rfl) F13.kp b13_1 .nil (fun _ _ _ => rfl) (qa_cons (q_tup (qa_cons (q_int) (qa_cons (q_int) (qa_nil)))) (qa_nil))) (qa_cons (q_call (F := C_is_value) B G13 (by decide) rfl (T.glo 14 "is_value" rfl) F13.kp b13_1 .nil (fun _ _ _ => rfl) (qa_cons (q_tup (qa_cons (q_int) (qa_cons (q_int) (qa_nil)))) (qa_nil))) (qa_nil)))))) (qa_cons (q_lst (qa_cons (q_tup (qa_cons (q_int) (qa_cons (q_int) (qa_nil)))) (qa_cons (q_bl) (qa_cons (q_bl) (qa_cons (q_bl) (qa_nil)))))) (qa_nil)))))))⟩
theorem law_ends (Pt : Addr) : ∀ ns : List Int, ns.length ≤ 63 → (∀ z ∈ ns, Builtin.Int.intBits z ≤ 1048576) → C_law Pt (fun _ _ => False) [.frl (ns.map D.int)] [.tab Pt "law.<locals>.<lambda>"] fun r _ => r = .bl true := fun ns _ _ => ⟨ns, rfl, rfl, fun _ => rfl⟩
theorem rng1 {u o : Ob} (h : RngO o) : RngAt [u, o] 1 := ⟨o, rfl, h⟩
abbrev Tb (Pt : Addr) : Ob := .tab Pt "law.<locals>.<lambda>"
theorem plain3 {x y z : D} {n : Nat} (hx : x.plain n = true) (hy : y.plain n = true) (hz : z.plain n = true) : (D.tup [x, y, z]).plain (n + 1) = true := plain_tup (szl rfl) fun u hu => by
  simp only [List.mem_cons, List.not_mem_nil, or_false] at hu
  rcases hu with rfl | rfl | rfl <;> assumption
theorem plain_all {xs : List D} {n : Nat} (hl : xs.length ≤ sizeLine) (h : xs.all (D.plain n) = true) : (D.lst xs).plain (n + 1) = true := plain_lst hl (List.all_eq_true.mp h)
theorem plain_str {n : Nat} {x : Str} (h : SeqAt.shaped (.str x) = true) : (D.str x).plain n = true := by cases n <;> exact h
theorem p29 : (10 : Int) ^ Int.toNat 29 = 100000000000000000000000000000 := by decide
theorem p30 : (10 : Int) ^ Int.toNat 30 = 1000000000000000000000000000000 := by decide
theorem p20 : (10 : Int) ^ Int.toNat 20 = 100000000000000000000 := by decide
theorem p49 : (10 : Int) ^ Int.toNat 49 = 10000000000000000000000000000000000000000000000000 := by decide
theorem big_ok {Pt : Addr} {EX : EXG} {E : QEnd} {d0 s2 s3 s4 s5 s7 s9 s10 s11 s12 : Slot} {o : Ob} {one : Int × Int} {k : Int} (ho : RngO o) (h1 : VB 20 one) (h2 : isVal one = true) (hk : k.natAbs < 2 ^ 100000)
    (hn : ∀ s5 s9 s10 s11 s12 o, RngO o → E.nx ⟨[d0, .va (.ref 1), s2, s3, s4, s5, .va (vD one), s7, .va (.int k), s9, s10, s11, s12], [Tb Pt, o]⟩) :
    R1_law Pt EX E ⟨[d0, .va (.ref 1), s2, s3, s4, s5, .va (vD one), s7, .va (.int k), s9, s10, s11, s12], [Tb Pt, o]⟩ := by
  refine ⟨⟨by decide, by decide, by decide⟩, ⟨by decide, by decide, by decide⟩, cmul 200 200 (by decide) (by decide) (by decide), ⟨by decide, by decide, by decide⟩, rfl, 1, _, rfl, by decide, log_lt 110 (by decide) (by decide), rng1 ho, fun z1 o1 a1 b1 c1 => ?_⟩
  rw [p20] at b1
  refine ⟨cmul 8 110 (by decide) ?_ (by decide), ltn rfl, ?_⟩
  · exact Nat.lt_of_lt_of_le (by omega : z1.natAbs < 100000000000000000000) (by decide)
  generalize hden : (10 : Int) ^ Int.toNat 49 * 10 ^ Int.toNat 49 + 2 * z1 + 1 = den
  have hd0 : (1 : Int) ≤ den := by
    rw [p49] at hden
    omega
  have hd1 : den < 2 ^ 400 := by
    rw [p49] at hden
    exact Int.lt_of_lt_of_le (by omega : den < 10000000000000000000000000000000000000000000000000 * 10000000000000000000000000000000000000000000000000 + 2 * 100000000000000000000 + 1) (by decide)
  refine ⟨⟨by decide, by decide, by decide⟩, rfl, 1, _, rfl, by decide, log_lt 110 (by decide) (by decide), rng1 c1, fun z2 o2 a2 b2 c2 => ?_⟩
  rw [p30] at b2
  have c60 : ((10 : Int) ^ Int.toNat 60).natAbs < 2 ^ 220 := by decide
  have hz2 : z2.natAbs < 2 ^ 110 := Nat.lt_of_lt_of_le (by omega : z2.natAbs < 1000000000000000000000000000000) (by decide)
  have hz3 : (z2 * 10 ^ Int.toNat 60).natAbs < 2 ^ 330 := by
    rw [Int.natAbs_mul]
    exact Nat.lt_of_lt_of_le (Nat.mul_lt_mul'' hz2 c60) (by decide)
  refine ⟨⟨by decide, by decide, by decide⟩, cmul 110 220 hz2 c60 (by decide), ⟨by decide, by decide, by decide⟩, cmul 330 20 hz3 (by decide) (by decide), ⟨by decide, by decide, by decide⟩, rfl, 1, _, rfl, by decide, log_lt 110 (by decide) (by decide), rng1 c2, fun z3 o3 a3 b3 c3 => ?_⟩
  refine ⟨rfl, _, den, rfl, hd0, Int.lt_of_lt_of_le hd1 (pw (by decide)), ltn rfl, ?_⟩
  have hbig : VB 400 (valF (z2 * 10 ^ Int.toNat 60 * 10 ^ Int.toNat 5 + z3) den) := valF_ok hd0 hd1
  have hvb : isVal (valF (z2 * 10 ^ Int.toNat 60 * 10 ^ Int.toNat 5 + z3) den) = true := isVal_valF hd0
  generalize valF (z2 * 10 ^ Int.toNat 60 * 10 ^ Int.toNat 5 + z3) den = big at hbig hvb
  refine ⟨rfl, big, one, rfl, hbig.mono (by decide), h1.mono (by decide), rfl, big, big, rfl, hbig.mono (by decide), hbig.mono (by decide), rfl, k, big, rfl, hbig.mono (by decide), hk, rfl, big, rfl, hbig.mono (by decide), rfl, big, rfl, szl rfl, ltn rfl, ?_⟩
  refine ⟨rfl, big, one, rfl, hbig.mono (by decide), h1.mono (by decide), rfl, big, big, rfl, hbig.mono (by decide), hbig.mono (by decide), rfl, k, big, rfl, hbig.mono (by decide), hk, rfl, _, big, rfl, hbig.mono (by decide), Nat.one_lt_two_pow (by decide), szl rfl, ltn rfl, ?_⟩
  refine ⟨rfl, .lst [vD (plF big one), vD (plF big big), vD (muF k big), vD (muF (0 - 1) big), .bl true], 4, by rw [hvb]; rfl, rfl, plain_all (szl rfl) ?_, ?_⟩
  · simp only [List.all_cons, List.all_nil, vD_plain, Bool.and_true]
    rfl
  refine ⟨rfl, 1, 14, rfl, by decide, by decide, rng1 c3, fun z4 o4 a4 b4 c4 => ?_⟩
  refine ⟨rfl, 1, 14, rfl, by decide, by decide, rng1 c4, fun z5 o5 a5 b5 c5 => ⟨szl rfl, ltn rfl, ?_⟩⟩
  refine ⟨rfl, (z4 - 2, z5 - 2), rfl, rfl, one, rfl, szl rfl, rfl, (z4 - 2, z5 - 2), rfl, szl rfl, rfl, .lst [.bl (isVal (z4 - 2, z5 - 2)), .bl true], 4, by rw [h2]; rfl, rfl, plain_all (szl rfl) rfl, ?_⟩
  exact hn _ _ _ _ _ _ c5
theorem turn_ok {Pt : Addr} {EX : EXG} {E : QEnd} {d0 : Slot} (hE : ∀ sl o, RngO o → E.nx ⟨sl, [.tab Pt "law.<locals>.<lambda>", o]⟩) : ∀ (n : Nat) (lo : Int) (o : Ob) (s2 s3 s4 s5 s6 s7 s8 s9 s10 s11 s12 : Slot), RngO o →
    qLoop (gqName 2) (B1_law Pt) EX E (rngD lo 1 n) ⟨[d0, .va (.ref 1), s2, s3, s4, s5, s6, s7, s8, s9, s10, s11, s12], [.tab Pt "law.<locals>.<lambda>", o]⟩
  | 0, lo, o, s2, s3, s4, s5, s6, s7, s8, s9, s10, s11, s12, ho => hE _ _ ho
  | n + 1, lo, o, s2, s3, s4, s5, s6, s7, s8, s9, s10, s11, s12, ho => by
    rw [rngD_succ]
    refine ⟨ltn rfl, rfl, 1, 99, rfl, by decide, by decide, rng1 ho, fun z1 o1 a1 b1 c1 => ?_⟩
    refine ⟨⟨by decide, by decide, by decide⟩, cmul 8 110 (by decide) (by decide) (by decide), rfl, 1, _, rfl, by decide, log_lt 110 (by decide) (by decide), rng1 c1, fun z2 o2 a2 b2 c2 => ⟨⟨by decide, by decide, by decide⟩, szl rfl, ?_⟩⟩
    refine ⟨rfl, 1, _, _, rfl, .inl rfl, ltn rfl, Nat.le_of_ble_eq_true rfl, rng1 c2, fun x o3 hx c3 => ?_⟩
    have hA : ∃ a : Int, x = .int a := by
      simp only [List.mem_cons, List.not_mem_nil, or_false] at hx
      rcases hx with rfl | rfl
      all_goals exact ⟨_, rfl⟩
    obtain ⟨a, rfl⟩ := hA
    refine ⟨ltn rfl, rfl, 1, 20, rfl, by decide, by decide, rng1 c3, fun z4 o4 a4 b4 c4 => ?_⟩
    refine ⟨⟨by decide, by decide, by decide⟩, rfl, 1, _, rfl, by decide, log_lt 110 (by decide) (by decide), rng1 c4, fun z5 o5 a5 b5 c5 => ?_⟩
    refine ⟨rfl, 1, 9, rfl, by decide, by decide, rng1 c5, fun z6 o6 a6 b6 c6 => ⟨szl rfl, ?_⟩⟩
    refine ⟨rfl, 1, _, _, rfl, .inl rfl, ltn rfl, Nat.le_of_ble_eq_true rfl, rng1 c6, fun x o7 hx c7 => ?_⟩
    have hB : ∃ b : Int, x = .int b ∧ b < 2 ^ 110 := by
      simp only [List.mem_cons, List.not_mem_nil, or_false] at hx
      rcases hx with rfl | rfl | rfl | rfl
      · exact ⟨_, rfl, by omega⟩
      · exact ⟨_, rfl, by rw [p30] at b5; omega⟩
      · exact ⟨_, rfl, by omega⟩
      · exact ⟨_, rfl, by omega⟩
    obtain ⟨b, rfl, hb⟩ := hB
    have tail : ∀ s5, R2_law Pt EX ⟨fun Γ' => qLoop (gqName 2) (B1_law Pt) EX E (rngD (lo + 1) 1 n) Γ', E.rt, E.nx, fun Γ' => qLoop (gqName 2) (B1_law Pt) EX E (rngD (lo + 1) 1 n) Γ'⟩ ⟨[d0, .va (.ref 1), .va (.int lo), .va (.int a), .va (.int b), s5, s6, s7, s8, s9, s10, s11, s12], [Tb Pt, o7]⟩ := by
      intro s5
      refine ⟨rfl, 1, rfl, rng1 c7, fun one o8 h1 i1 c8 => ⟨ltn rfl, rfl, 1, rfl, rng1 c8, fun two o9 h2 i2 c9 => ⟨ltn rfl, ?_⟩⟩⟩
      refine ⟨⟨by decide, by decide, by decide⟩, cmul 8 110 (by decide) (by decide) (by decide), rfl, 1, _, rfl, by decide, log_lt 110 (by decide) (by decide), rng1 c9, fun z7 o10 a7 b7 c10 => ⟨⟨by decide, by decide, by decide⟩, ltn rfl, ?_⟩⟩
      have hk : (z7 - 10 ^ Int.toNat 20).natAbs < 2 ^ 100000 := by
        rw [p20] at b7 ⊢
        exact Nat.lt_of_lt_of_le (by omega : (z7 - 100000000000000000000).natAbs < 1000000000000000000000000000000) (Nat.le_trans (by decide : 1000000000000000000000000000000 ≤ 2 ^ 200) (Nat.pow_le_pow_right (by decide) (by decide)))
      have hm := muF_ok (n := -1) h1
      refine ⟨rfl, one, two, rfl, h1.mono (by decide), h2.mono (by decide), rfl, z7 - 10 ^ Int.toNat 20, one, rfl, h1.mono (by decide), hk, rfl, 0, one, rfl, h1.mono (by decide), Nat.pow_pos (by decide), rfl, one, rfl, h1.mono (by decide), rfl, one, rfl, h1.mono (by decide), rfl, one, muF (-1) one, rfl, h1.mono (by decide), hm.mono (by decide), szl rfl, ltn rfl, ?_⟩
      refine ⟨rfl, one, two, rfl, h1.mono (by decide), h2.mono (by decide), rfl, z7 - 10 ^ Int.toNat 20, one, rfl, h1.mono (by decide), hk, szl rfl, rfl, _, one, rfl, h1.mono (by decide), Nat.one_lt_two_pow (by decide), szl rfl, szl rfl, ltn rfl, ?_⟩
      refine ⟨rfl, .lst [vD (plF one two), vD (muF (z7 - 10 ^ Int.toNat 20) one), vD (0, 1), vD (muF (0 - 1) one), vD (0, 1)], 4, ?_, rfl, plain_all (szl rfl) ?_, ?_⟩
      · rw [muF_zero (by have := h1.1; have := h1.2.1; omega), plF_neg h1]
        rfl
      · simp only [List.all_cons, List.all_nil, vD_plain, Bool.and_true]
      · exact big_ok c10 h1 i1 hk fun s5 s9 s10 s11 s12 o ho => turn_ok hE n (lo + 1) o _ _ _ _ _ _ _ _ _ _ _ ho
    have v1 : ∀ s5, ∀ {EX' : EXG} {P : D → G → Prop}, P (vD (0, 1)) ⟨[d0, .va (.ref 1), .va (.int lo), .va (.int a), .va (.int b), s5, s6, s7, s8, s9, s10, s11, s12], [Tb Pt, o7]⟩ →
        qCall 2 C_value [.int 1] (qCons (qVar 3) qNil) EX' ⟨[d0, .va (.ref 1), .va (.int lo), .va (.int a), .va (.int b), s5, s6, s7, s8, s9, s10, s11, s12], [Tb Pt, o7]⟩ P := by
      intro s5 EX' P hP
      refine ⟨rfl, a, 1, rfl, .inl ⟨by omega, Int.lt_of_lt_of_le (by decide : (1 : Int) < 2 ^ 1) (pw (by decide)), ?_⟩⟩
      rw [valF_one]
      exact hP
    refine ⟨ltn rfl, qB_i (fun h => ?_) fun h => ?_⟩
    · have h : b < 1 := of_decide_eq_true h
      refine ⟨szl rfl, ltn rfl, rfl, fun EX' P' he hp => ⟨rfl, a, b, rfl, .inr ⟨h, he _ _ ⟨.int b, List.mem_cons_self, rfl, rfl, rfl, ?_⟩⟩⟩⟩
      refine ⟨rfl, _, 4, rfl, rfl, ?_, ?_⟩
      · exact plain3 rfl (plain_str (by show SeqAt.shaped (.str "InvalidCount") = true; decide +kernel)) rfl
      · refine v1 _ ⟨szl rfl, rfl, _, 4, rfl, rfl, vD_plain, tail _⟩
    · have h : ¬ b < 1 := of_decide_eq_false h
      refine ⟨rfl, a, b, rfl, by omega, Int.lt_of_lt_of_le hb (pw (by decide)), szl rfl, ltn rfl, rfl, fun EX' P' he hp => ⟨rfl, a, b, rfl, .inl ⟨by omega, Int.lt_of_lt_of_le hb (pw (by decide)), hp _ _ ?_⟩⟩⟩
      refine ⟨rfl, _, 4, rfl, rfl, ?_, ?_⟩
      · exact plain3 vD_plain (plain_str (by decide +kernel)) rfl
      · refine v1 _ ⟨szl rfl, rfl, _, 4, rfl, rfl, vD_plain, tail _⟩
theorem I_law (Pt : Addr) : ∀ EX ds ob R, ds.length = 1 → C_law Pt EX ds ob R → fqOf N_law (Q_law Pt) EX ds ob R := by
  rintro EX ds ob R - ⟨ns, rfl, rfl, hR⟩
  refine ⟨rfl, ns, rfl, fun o ho => ⟨ltn rfl, by decide, by decide, ?_⟩⟩
  refine turn_ok (fun sl o ho => ?_) 6 0 o _ _ _ _ _ _ _ _ _ _ _ ho
  refine ⟨szl rfl, rfl, (0, 1), rfl, szl rfl, rfl, (0, 2), rfl, szl rfl, rfl, (1, 1), rfl, szl rfl, szl rfl, szl rfl, rfl, .lst [vD (0, 1), .bl true, .bl false, .bl false], 4, ?_, rfl, ?_, hR _⟩
  · have e1 : isVal (0, 1) = true := by decide +kernel
    have e2 : isVal (0, 2) = false := by decide +kernel
    have e3 : isVal (1, 1) = false := by decide +kernel
    rw [e1, e2, e3]
    rfl
  · exact plain_all (szl rfl) rfl
theorem ok_law (T : Txt fa fn xb K mg) {Pt : Addr} (TBl : LamX.TabB base mg (codeAt K (He.fAd K ("law", none))) Pt) : FOk P wd K mg base 24 d_law ["_law_script"] (C_law Pt) := (W_law T (ok__law_source T) (ok__law_choice T) (ok__law_draw T) (ok__law_value T) (ok__law_equal T 5) (ok__law_outcome T) (ok_value T) (ok__law_some_value T) (ok_plus T) (ok_opposite T) (ok_multiple T) (ok__law_multiple T) (ok__law_plus T) (ok_is_value T) (ok__law_is_value T) TBl).imp (I_law Pt)
end
abbrev Rw : PySem.W.OpenRow := PySem.W.OpenLaw.row PySem.Challenge.rw_rowlaws_k01_values_and_sums
abbrev hkw : PySem.W.Hook := He.hookX 5 fa fn [] [("law", none)] fun K => xb.all fun f => f K
def obw (s : PySem.W.SharedT) : He.AlX := He.obsX 5 fa fn [] [("law", none)] (fun K => xb.all fun f => f K) (HandSHeadRun.getT s)
theorem obw_eq (s : PySem.W.SharedT) : obw s = hkw.obs s.abs := He.obsX_eq (HandSHeadRun.getT_eq s)
theorem runw (w : World) : HandSHeadRun.RunEq Rw (PySem.W.view Rw.prog [26]) hkw obw 4000 names w := by
  intro os
  kernel_rfl
end QL
open PySem PySem.W PySem.Calls PyProof.Rows
theorem PySem.Challenge.cw_rowlaws_k01_values_and_sums_holds : PySem.Challenge.rw_rowlaws_k01_values_and_sums.Holds := by
  w_on; o_law
  refine HandSHeadRun.head_any (r := OpenLaw.row PySem.Challenge.rw_rowlaws_k01_values_and_sums) (q := view (OpenLaw.row PySem.Challenge.rw_rowlaws_k01_values_and_sums).prog [26]) (H := QL.hkw) (ob := QL.obw) (M := 4000) (loose := QL.names) (d := HandSHeadRun.topDef (OpenLaw.row PySem.Challenge.rw_rowlaws_k01_values_and_sums).prog 26) (kwd := []) QL.obw_eq
    (by kernel_rfl) (fun s => by kernel_rfl) QL.runw (by kernel_rfl) (by kernel_rfl) (by kernel_rfl) (by rfl) (by first | assumption | decide +kernel) (by decide +kernel) ⟨rfl, rfl, rfl, rfl, rfl, by decide +kernel⟩ ?hw ?hc
  case hw => w_witness2
  case hc =>
    refine QL.walk_ofQT (l := PySem.Challenge.rw_rowlaws_k01_values_and_sums) (n := 63) (k := 24) (x := "_law_script") rfl (by decide) (by kernel_rfl) ⟨rfl, by decide, by decide⟩ ?_
    intro w mg f0 h Y G hmg0
    obtain ⟨K, KX, c⟩ := Y
    have T : QL.Txt QL.fa QL.fn QL.xb K mg := ⟨QL.saysX_Q c, h, KX, G⟩
    have hmg : mg ("law" : PySem.Str) = some (.ref f0) := by
      have e : (HandSHeadRun.topDef (OpenLaw.row PySem.Challenge.rw_rowlaws_k01_values_and_sums).prog 26).name = ("law" : PySem.Str) := by kernel_rfl
      rw [← e]
      exact hmg0
    have e0 := hmg.symm.trans (T.glo 34 "law" rfl)
    cases e0
    obtain ⟨fd, F⟩ := T.s.c.def_ 18 (d := QL.d_law) rfl
    have b := L2.FunD.bindsA (ps := ["_law_script"]) F fun _ _ _ _ _ _ us hl => match us, hl with | [_], _ => rfl
    have tm : (("law", none) : He.Defn) ∈ [(("law", none) : He.Defn)] := List.mem_singleton.mpr rfl
    refine ⟨K, fd, QL.C_law (He.cT K ("law", none)).2, (He.cT K ("law", none)).1, (He.cT K ("law", none)).2, "law.<locals>.<lambda>", KX, c.empty _ tm, c.out _ tm, codeHd_of_K KX (c.hd _ tm), fun s v => b s [v] rfl, QL.law_ends _, fun base X1 X2 TB => ?_⟩
    obtain ⟨fd2, F2, G2⟩ := QL.ok_law (P := (PySem.Challenge.rw_rowlaws_k01_values_and_sums).prog) (wd := w) (base := base) T TB
    have e2 : fd2 = fd := QL.fd_same F2 F
    rw [← e2]
    exact G2
