import PyProof.Rows.All
import Wide.All
import OpenK.AllK
import Wide.FinOn
import HandS.ForMost
import HandS.Exc
import HandS.ExcOwn
import HandS.WordsExc
import HandS.TryMany
import HandS.IsInst
import HandS.TupMul
import HandS.TupAny
import HandS.Style
import HandS.Walk
import HandS.Zip
import HandS.Dict
import PySem.Challenge.RW_everybrought_k25_whole_marks_of_rows
set_option Elab.async false
set_option linter.all false
set_option maxRecDepth 100000
set_option maxHeartbeats 2000000
/-! BV: values of a program as plain data; what stands in the heap for them; steps of the heap. -/
namespace BV
open PySem PySem.Spec PyProof.Rows L2

/-- a value as plain data -/
inductive W where
  | non | bl (b : Bool) | int (i : Int) | str (x : Str) | tup (ws : List W) | lst (ws : List W) | fz (ws : List W) | dct (kvs : List (W × W)) | ins (c : Nat) (fs : List (Str × W))
/-- a slot: no value | data that never changes | an object that is the slot's own -/
inductive Sl where
  | no | dat (w : W) | own (w : W)
abbrev Ev := List Sl
/-- an exception: its class, its fields -/
structure Exc where
  c : Nat
  fs : List (Str × W)

def kW : Key → W
  | .inl i => .int i
  | .inr x => .str x

section
variable (K : PySem.W.Frag) (ci : Nat → Addr) (G : Hp)
mutual
/-- v is w, by what stands for ever in G -/
inductive RepV : V → W → Prop
  | non : RepV .non .non
  | bl (b : Bool) : RepV (.bl b) (.bl b)
  | int (i : Int) : RepV (.int i) (.int i)
  | str (x : Str) : RepV (.str x) (.str x)
  | tup {a : Addr} {vs : List V} {ws : List W} (h : SqT K G a vs) (r : RepVs vs ws) : RepV (.ref a) (.tup ws)
  | lst {a : Addr} {vs : List V} {ws : List W} (h : G a = some (.lst vs)) (r : RepVs vs ws) : RepV (.ref a) (.lst ws)
  /-- a list that is read only -/
  | fz {a : Addr} {vs : List V} {ws : List W} (h : SqL K G a vs) (r : RepVs vs ws) : RepV (.ref a) (.fz ws)
  | dK {a : Addr} {kvs : List (Key × V)} {ws : List (W × W)} (h : G a = some (.dK kvs)) (r : RepKs kvs ws) : RepV (.ref a) (.dct ws)
  | dT {a : Addr} {kvs : List (List Key × V)} {ws : List (W × W)} (h : G a = some (.dT kvs)) (r : RepTs kvs ws) : RepV (.ref a) (.dct ws)
  | ins {a dx : Addr} {c : Nat} {fs : List (Str × V)} {ws : List (Str × W)} (h : G a = some (.ins (ci c) dx fs)) (r : RepFs fs ws) : RepV (.ref a) (.ins c ws)
inductive RepVs : List V → List W → Prop
  | nil : RepVs [] []
  | cons {v : V} {w : W} {vs : List V} {ws : List W} (h : RepV v w) (r : RepVs vs ws) : RepVs (v :: vs) (w :: ws)
inductive RepKs : List (Key × V) → List (W × W) → Prop
  | nil : RepKs [] []
  | cons {k : Key} {v : V} {w : W} {vs : List (Key × V)} {ws : List (W × W)} (h : RepV v w) (r : RepKs vs ws) : RepKs ((k, v) :: vs) ((kW k, w) :: ws)
inductive RepTs : List (List Key × V) → List (W × W) → Prop
  | nil : RepTs [] []
  | cons {k : List Key} {v : V} {w : W} {vs : List (List Key × V)} {ws : List (W × W)} (h : RepV v w) (r : RepTs vs ws) : RepTs ((k, v) :: vs) ((.tup (k.map kW), w) :: ws)
inductive RepFs : List (Str × V) → List (Str × W) → Prop
  | nil : RepFs [] []
  | cons {f : Str} {v : V} {w : W} {vs : List (Str × V)} {ws : List (Str × W)} (h : RepV v w) (r : RepFs vs ws) : RepFs ((f, v) :: vs) ((f, w) :: ws)
end
/-- the object at a, as it is in H, is w; its parts by G -/
inductive RepO (H : Hp) (a : Addr) : W → Prop
  | lst {vs : List V} {ws : List W} (h : H a = some (.lst vs)) (r : RepVs K ci G vs ws) : RepO H a (.lst ws)
  | dK {kvs : List (Key × V)} {ws : List (W × W)} (h : H a = some (.dK kvs)) (r : RepKs K ci G kvs ws) : RepO H a (.dct ws)
  | dT {kvs : List (List Key × V)} {ws : List (W × W)} (h : H a = some (.dT kvs)) (r : RepTs K ci G kvs ws) : RepO H a (.dct ws)
  | ins {dx : Addr} {c : Nat} {fs : List (Str × V)} {ws : List (Str × W)} (h : H a = some (.ins (ci c) dx fs)) (r : RepFs K ci G fs ws) : RepO H a (.ins c ws)
end

section
variable {K : PySem.W.Frag} {ci : Nat → Addr} {G G' H H' : Hp}
theorem sqT_mono (e : Same G G') {a : Addr} {xs : List V} (h : SqT K G a xs) : SqT K G' a xs := by
  rcases h with (h | ⟨o, h⟩) | h
  · exact .inl (.inl (e _ _ h))
  · exact .inl (.inr ⟨o, e _ _ h⟩)
  · exact .inr h
theorem rd_mono (e : Same G G') {a : Addr} {u : HO} (h : Rd G a u) : Rd G' a u := by
  rcases h with h | ⟨o, h⟩
  · exact .inl (e _ _ h)
  · exact .inr ⟨o, e _ _ h⟩
mutual
theorem RepV.mono (e : Same G G') : ∀ {v : V} {w : W}, RepV K ci G v w → RepV K ci G' v w
  | _, _, .non => .non
  | _, _, .bl b => .bl b
  | _, _, .int i => .int i
  | _, _, .str x => .str x
  | _, _, .tup h r => .tup (sqT_mono e h) (RepVs.mono e r)
  | _, _, .lst h r => .lst (e _ _ h) (RepVs.mono e r)
  | _, _, .fz h r => .fz (e.seq h) (RepVs.mono e r)
  | _, _, .dK h r => .dK (e _ _ h) (RepKs.mono e r)
  | _, _, .dT h r => .dT (e _ _ h) (RepTs.mono e r)
  | _, _, .ins h r => .ins (e _ _ h) (RepFs.mono e r)
theorem RepVs.mono (e : Same G G') : ∀ {v : List V} {w : List W}, RepVs K ci G v w → RepVs K ci G' v w
  | _, _, .nil => .nil
  | _, _, .cons h r => .cons (RepV.mono e h) (RepVs.mono e r)
theorem RepKs.mono (e : Same G G') : ∀ {v : List (Key × V)} {w : List (W × W)}, RepKs K ci G v w → RepKs K ci G' v w
  | _, _, .nil => .nil
  | _, _, .cons h r => .cons (RepV.mono e h) (RepKs.mono e r)
theorem RepTs.mono (e : Same G G') : ∀ {v : List (List Key × V)} {w : List (W × W)}, RepTs K ci G v w → RepTs K ci G' v w
  | _, _, .nil => .nil
  | _, _, .cons h r => .cons (RepV.mono e h) (RepTs.mono e r)
theorem RepFs.mono (e : Same G G') : ∀ {v : List (Str × V)} {w : List (Str × W)}, RepFs K ci G v w → RepFs K ci G' v w
  | _, _, .nil => .nil
  | _, _, .cons h r => .cons (RepV.mono e h) (RepFs.mono e r)
end
theorem RepO.mono {a : Addr} {w : W} (e : Same G G') (h : RepO K ci G H a w) (k : ∀ o, H a = some o → H' a = some o) : RepO K ci G' H' a w := by
  cases h with
  | lst h r => exact .lst (k _ h) (r.mono e)
  | dK h r => exact .dK (k _ h) (r.mono e)
  | dT h r => exact .dT (k _ h) (r.mono e)
  | ins h r => exact .ins (k _ h) (r.mono e)
theorem RepO.has {a : Addr} {w : W} (h : RepO K ci G H a w) : ∃ o, H a = some o := by
  cases h with
  | lst h r => exact ⟨_, h⟩
  | dK h r => exact ⟨_, h⟩
  | dT h r => exact ⟨_, h⟩
  | ins h r => exact ⟨_, h⟩
theorem RepO.ne {a : Addr} {w : W} (h : RepO K ci G H a w) : H a ≠ none := by
  obtain ⟨o, e⟩ := h.has
  rw [e]
  exact fun z => nomatch z
theorem same_new {p : Addr} {o : HO} (h : G p = none) : Same G (upd G p o) := fun b u e => by
  rw [upd_ne (ne_of_none e h)]
  exact e
/-- what is frozen stands in G from then on -/
theorem RepO.freeze {a : Addr} {w : W} (h : RepO K ci G H a w) (n : G a = none) (s : Same G H) : ∃ o, H a = some o ∧ Same G (upd G a o) ∧ Same (upd G a o) H ∧ RepV K ci (upd G a o) (.ref a) w := by
  obtain ⟨o, e⟩ := h.has
  have s1 : Same G (upd G a o) := same_new n
  refine ⟨o, e, s1, fun b u q => ?_, ?_⟩
  · by_cases hb : b = a
    · subst hb
      rw [upd_same] at q
      cases q
      exact e
    · rw [upd_ne hb] at q
      exact s b u q
  · cases h with
    | lst h r =>
      rw [e] at h; cases h
      exact .lst upd_same (r.mono s1)
    | dK h r =>
      rw [e] at h; cases h
      exact .dK upd_same (r.mono s1)
    | dT h r =>
      rw [e] at h; cases h
      exact .dT upd_same (r.mono s1)
    | ins h r =>
      rw [e] at h; cases h
      exact .ins upd_same (r.mono s1)
theorem RepVs.length : ∀ {v : List V} {w : List W}, RepVs K ci G v w → v.length = w.length
  | _, _, .nil => rfl
  | _, _, .cons _ r => congrArg (· + 1) (RepVs.length r)
theorem RepVs.get : ∀ {v : List V} {w : List W} {i : Nat} {x : V}, RepVs K ci G v w → v[i]? = some x → ∃ y, w[i]? = some y ∧ RepV K ci G x y
  | _, _, _, _, .nil, e => by simp at e
  | _, _, 0, _, .cons h _, e => by simp at e; subst e; exact ⟨_, rfl, h⟩
  | _, _, i + 1, _, .cons _ r, e => by
    obtain ⟨y, h1, h2⟩ := RepVs.get (i := i) r (by simpa using e)
    exact ⟨y, by simpa using h1, h2⟩
theorem RepVs.get' : ∀ {v : List V} {w : List W} {i : Nat} {y : W}, RepVs K ci G v w → w[i]? = some y → ∃ x, v[i]? = some x ∧ RepV K ci G x y
  | _, _, _, _, .nil, e => by simp at e
  | _, _, 0, _, .cons h _, e => by simp at e; subst e; exact ⟨_, rfl, h⟩
  | _, _, i + 1, _, .cons _ r, e => by
    obtain ⟨y, h1, h2⟩ := RepVs.get' (i := i) r (by simpa using e)
    exact ⟨y, by simpa using h1, h2⟩
theorem RepVs.append : ∀ {v v' : List V} {w w' : List W}, RepVs K ci G v w → RepVs K ci G v' w' → RepVs K ci G (v ++ v') (w ++ w')
  | _, _, _, _, .nil, s => s
  | _, _, _, _, .cons h r, s => .cons h (RepVs.append r s)
theorem RepVs.take : ∀ {v : List V} {w : List W} (n : Nat), RepVs K ci G v w → RepVs K ci G (v.take n) (w.take n)
  | _, _, 0, _ => .nil
  | _, _, _ + 1, .nil => .nil
  | _, _, n + 1, .cons h r => .cons h (RepVs.take n r)
theorem RepVs.drop : ∀ {v : List V} {w : List W} (n : Nat), RepVs K ci G v w → RepVs K ci G (v.drop n) (w.drop n)
  | _, _, 0, r => r
  | _, _, _ + 1, .nil => .nil
  | _, _, n + 1, .cons _ r => RepVs.drop n r
theorem RepVs.set {x : V} {y : W} (q : RepV K ci G x y) : ∀ {v : List V} {w : List W} (i : Nat), RepVs K ci G v w → RepVs K ci G (v.set i x) (w.set i y)
  | _, _, _, .nil => .nil
  | _, _, 0, .cons _ r => .cons q r
  | _, _, i + 1, .cons h r => .cons h (RepVs.set q i r)
theorem RepVs.rev : ∀ {v : List V} {w : List W}, RepVs K ci G v w → RepVs K ci G v.reverse w.reverse
  | _, _, .nil => .nil
  | _, _, .cons h r => by
    rw [List.reverse_cons, List.reverse_cons]
    exact (RepVs.rev r).append (.cons h .nil)
theorem RepFs.look {f : Str} : ∀ {v : List (Str × V)} {w : List (Str × W)} {y : W}, RepFs K ci G v w → w.lookup f = some y → ∃ x, v.lookup f = some x ∧ RepV K ci G x y
  | _, _, _, .nil, e => by cases e
  | _, _, y, .cons (f := g) h r, e => by
    rw [List.lookup_cons] at e ⊢
    cases q : f == g with
    | true =>
      rw [q] at e
      cases e
      exact ⟨_, rfl, h⟩
    | false =>
      rw [q] at e
      exact RepFs.look r e
theorem RepFs.look0 {f : Str} : ∀ {v : List (Str × V)} {w : List (Str × W)}, RepFs K ci G v w → w.lookup f = none → v.lookup f = none
  | _, _, .nil, _ => rfl
  | _, _, .cons (f := g) h r, e => by
    rw [List.lookup_cons] at e ⊢
    cases q : f == g with
    | true => rw [q] at e; cases e
    | false =>
      rw [q] at e
      exact RepFs.look0 r e
end

/-! ### slots -/
def OwnAt (env : Ev) (σ : L2.St) (i : Nat) (a : Addr) : Prop := (∃ w, env[i]? = some (.own w)) ∧ σ[i]? = some (some (.ref a))
structure StR (K : PySem.W.Frag) (ci : Nat → Addr) (G : Hp) (env : Ev) (σ : L2.St) (H : Hp) : Prop where
  sub : Same G H
  len : env.length = σ.length
  dat : ∀ (i : Nat) (w : W), env[i]? = some (.dat w) → ∃ v, σ[i]? = some (some v) ∧ RepV K ci G v w
  own : ∀ (i : Nat) (w : W), env[i]? = some (.own w) → ∃ a, σ[i]? = some (some (.ref a)) ∧ G a = none ∧ RepO K ci G H a w
  inj : ∀ (i j : Nat) (a : Addr), OwnAt env σ i a → OwnAt env σ j a → i = j
structure Step (BS : List Nat) (env : Ev) (σ : L2.St) (G H : Hp) (env' : Ev) (σ' : L2.St) (G' H' : Hp) : Prop where
  sub : Same G G'
  keep : ∀ a o, H a = some o → (∀ i, ¬ OwnAt env σ i a) → H' a = some o
  pers : ∀ a, H a ≠ none → G a = none → (∀ i, ¬ OwnAt env σ i a) → G' a = none
  here : ∀ a, H a ≠ none → H' a ≠ none
  new : ∀ i a, OwnAt env' σ' i a → (i ∈ BS ∧ OwnAt env σ i a) ∨ (i ∉ BS ∧ (H a = none ∨ ∃ j, j ∉ BS ∧ OwnAt env σ j a))
  bs : ∀ i ∈ BS, σ'[i]? = σ[i]? ∧ ((∃ w, env[i]? = some (.own w)) → ∃ w, env'[i]? = some (.own w))
section
variable {K : PySem.W.Frag} {ci : Nat → Addr} {BS : List Nat} {env env1 env' : Ev} {σ σ1 σ' : L2.St} {G G1 G' H H1 H' : Hp} {v : V} {w : W}
theorem Step.refl : Step BS env σ G H env σ G H :=
  ⟨Same.refl _, fun _ _ h _ => h, fun _ _ h _ => h, fun _ h => h, fun i a h => by
    by_cases hi : i ∈ BS
    · exact .inl ⟨hi, h⟩
    · exact .inr ⟨hi, .inr ⟨i, hi, h⟩⟩, fun _ _ => ⟨rfl, fun h => h⟩⟩
theorem Step.notOwn (s : Step BS env σ G H env1 σ1 G1 H1) {a : Addr} (h : H a ≠ none) (n : ∀ i, ¬ OwnAt env σ i a) : ∀ i, ¬ OwnAt env1 σ1 i a := fun i o => by
  rcases s.new i a o with ⟨_, q⟩ | ⟨_, q | ⟨j, _, q⟩⟩
  · exact n i q
  · exact h q
  · exact n j q
theorem Step.trans (s : Step BS env σ G H env1 σ1 G1 H1) (t : Step BS env1 σ1 G1 H1 env' σ' G' H') : Step BS env σ G H env' σ' G' H' where
  sub := s.sub.trans t.sub
  keep := fun a o h n => t.keep a o (s.keep a o h n) (s.notOwn (by rw [h]; exact fun z => nomatch z) n)
  pers := fun a h g n => t.pers a (s.here a h) (s.pers a h g n) (s.notOwn h n)
  here := fun a h => t.here a (s.here a h)
  new := fun i a h => by
    have back : ∀ j, j ∉ BS → OwnAt env1 σ1 j a → (H a = none ∨ ∃ j, j ∉ BS ∧ OwnAt env σ j a) := fun j hj o => by
      rcases s.new j a o with ⟨z, _⟩ | ⟨_, q⟩
      · exact absurd z hj
      · exact q
    rcases t.new i a h with ⟨hi, q⟩ | ⟨hi, q | ⟨j, hj, q⟩⟩
    · rcases s.new i a q with ⟨_, q⟩ | ⟨z, _⟩
      · exact .inl ⟨hi, q⟩
      · exact absurd hi z
    · refine .inr ⟨hi, .inl ?_⟩
      cases e : H a with
      | none => rfl
      | some o => exact absurd q (s.here a (by rw [e]; exact fun z => nomatch z))
    · exact .inr ⟨hi, back j hj q⟩
  bs := fun i hi => ⟨(t.bs i hi).1.trans (s.bs i hi).1, fun z => (t.bs i hi).2 ((s.bs i hi).2 z)⟩
theorem StR.ownAt (r : StR K ci G env σ H) {i : Nat} {a : Addr} (h : OwnAt env σ i a) : G a = none ∧ H a ≠ none ∧ ∃ w, env[i]? = some (.own w) ∧ RepO K ci G H a w := by
  obtain ⟨⟨w, e⟩, q⟩ := h
  obtain ⟨b, q1, q2, q3⟩ := r.own i w e
  rw [q] at q1
  have eb : a = b := by
    have z := Option.some.inj (Option.some.inj q1)
    exact V.ref.inj z
  subst eb
  exact ⟨q2, q3.ne, w, e, q3⟩
/-- nothing of the slots changes; a new object comes, tracked for ever -/
theorem alloc_pers (r : StR K ci G env σ H) {p : Addr} {o : HO} (hp : H p = none) : Step BS env σ G H env σ (upd G p o) (upd H p o) ∧ StR K ci (upd G p o) env σ (upd H p o) := by
  have gp : G p = none := r.sub.free hp
  have s1 : Same G (upd G p o) := same_new gp
  have s2 : Same H (upd H p o) := same_new hp
  have np : ∀ a, H a ≠ none → a ≠ p := fun a h e => by rw [e] at h; exact h hp
  refine ⟨⟨s1, fun a u h _ => s2 _ _ h, fun a h g _ => by rw [upd_ne (np a h)]; exact g, fun a h => by rw [upd_ne (np a h)]; exact h, (Step.refl (G := G) (H := H)).new, fun _ _ => ⟨rfl, fun h => h⟩⟩, ⟨fun b u q => ?_, r.len, fun i w e => ?_, fun i w e => ?_, r.inj⟩⟩
  · by_cases hb : b = p
    · subst hb
      rw [upd_same] at q ⊢
      exact q
    · rw [upd_ne hb] at q ⊢
      exact r.sub _ _ q
  · obtain ⟨v, q1, q2⟩ := r.dat i w e
    exact ⟨v, q1, q2.mono s1⟩
  · obtain ⟨a, q1, q2, q3⟩ := r.own i w e
    have na := np a q3.ne
    exact ⟨a, q1, by rw [upd_ne na]; exact q2, q3.mono s1 fun o h => s2 _ _ h⟩
/-- nothing of the slots changes; a new object comes, not tracked for ever -/
theorem alloc_new (r : StR K ci G env σ H) {p : Addr} {o : HO} (hp : H p = none) : Step BS env σ G H env σ G (upd H p o) ∧ StR K ci G env σ (upd H p o) ∧ G p = none ∧ ∀ i, ¬ OwnAt env σ i p := by
  have gp : G p = none := r.sub.free hp
  have s2 : Same H (upd H p o) := same_new hp
  have np : ∀ a, H a ≠ none → a ≠ p := fun a h e => by rw [e] at h; exact h hp
  refine ⟨⟨Same.refl _, fun a u h _ => s2 _ _ h, fun a h g _ => g, fun a h => by rw [upd_ne (np a h)]; exact h, (Step.refl (G := G) (H := H)).new, fun _ _ => ⟨rfl, fun h => h⟩⟩, ⟨r.sub.trans s2, r.len, r.dat, fun i w e => ?_, r.inj⟩, gp, fun i h => (r.ownAt h).2.1 hp⟩
  obtain ⟨a, q1, q2, q3⟩ := r.own i w e
  exact ⟨a, q1, q2, q3.mono (Same.refl _) fun o h => s2 _ _ h⟩
/-- an object that no slot owns and that G does not know is frozen -/
theorem freeze_new (r : StR K ci G env σ H) {a : Addr} (h : RepO K ci G H a w) (n : G a = none) (no : ∀ i, ¬ OwnAt env σ i a) :
    ∃ G', Same G G' ∧ StR K ci G' env σ H ∧ RepV K ci G' (.ref a) w ∧ (∀ b, b ≠ a → G' b = G b) := by
  obtain ⟨o, eH, s1, s2, rv⟩ := h.freeze n r.sub
  refine ⟨upd G a o, s1, ⟨s2, r.len, fun i w e => ?_, fun i w e => ?_, r.inj⟩, rv, fun b hb => upd_ne hb⟩
  · obtain ⟨v, q1, q2⟩ := r.dat i w e
    exact ⟨v, q1, q2.mono s1⟩
  · obtain ⟨b, q1, q2, q3⟩ := r.own i w e
    have nb : b ≠ a := fun z => no i ⟨⟨w, e⟩, z ▸ q1⟩
    exact ⟨b, q1, by rw [upd_ne nb]; exact q2, q3.mono s1 fun _ h => h⟩
end
end BV

set_option maxRecDepth 100000
set_option maxHeartbeats 2000000
/-! BV: what an expression comes to, as a function of the slots. -/
namespace BV
open PySem PySem.Spec L2

structure Sta where
  env : Ev
  σ : L2.St
  G : Hp
  H : Hp
abbrev Stp (BS : List Nat) (s s' : Sta) : Prop := Step BS s.env s.σ s.G s.H s'.env s'.σ s'.G s'.H
abbrev Ok (K : PySem.W.Frag) (ci : Nat → Addr) (s : Sta) : Prop := StR K ci s.G s.env s.σ s.H

/-- a value that has come: for ever | what slot i holds | a new object -/
inductive OV where
  | v (w : W) | s (i : Nat) | n (w : W)
inductive Res (α : Type) where
  | bad | ok (a : α) (env : Ev) | er (x : Exc) (env : Ev)
def Res.bind {α β : Type} (r : Res α) (k : α → Ev → Res β) : Res β := match r with
  | .bad => .bad
  | .ok a env => k a env
  | .er x env => .er x env
abbrev EF := Ev → Res OV
abbrev TF := Ev → Res Bool
abbrev AF := Ev → Res (List OV)

section
variable (K : PySem.W.Frag) (ci : Nat → Addr)
def RepOV (s : Sta) (v : V) : OV → Prop
  | .v w => RepV K ci s.G v w
  | .s i => s.σ[i]? = some (some v)
  | .n w => ∃ a, v = .ref a ∧ RepO K ci s.G s.H a w ∧ s.G a = none ∧ ∀ i, ¬ OwnAt s.env s.σ i a
/-- a new object was not there at s0 -/
def NewOV (s0 : Sta) (v : V) : OV → Prop
  | .n _ => ∀ a, v = .ref a → s0.H a = none
  | _ => True
def RepX (G H : Hp) (cls : Value) (d : Option Addr) (x : Exc) : Prop :=
  cls = .ref (ci x.c) ∧ ((x.fs = [] ∧ d = none) ∨ ∃ dd fvs, d = some dd ∧ H dd = some (.xd fvs) ∧ RepFs K ci G fvs x.fs)
/-- what is wanted holds of whatever comes -/
def Acc {α : Type} (BS : List Nat) (W : WX) (s : Sta) (C : α → Sta → Prop) : Res α → Prop
  | .bad => False
  | .ok a env' => ∀ G' H', Stp BS s ⟨env', s.σ, G', H'⟩ → Ok K ci ⟨env', s.σ, G', H'⟩ → C a ⟨env', s.σ, G', H'⟩
  | .er x env' => ∀ G' H' cls d, Stp BS s ⟨env', s.σ, G', H'⟩ → Ok K ci ⟨env', s.σ, G', H'⟩ → RepX K ci G' H' cls d x → W cls d s.σ H'
def CE (s0 : Sta) (Q : VK) (ov : OV) (s' : Sta) : Prop := ∀ v, RepOV K ci s' v ov → NewOV s0 v ov → Q v s'.H
def CA (s0 : Sta) (Q : List V → Hp → Prop) (ovs : List OV) (s' : Sta) : Prop := ∀ vs, Paired (RepOV K ci s') vs ovs → Q vs s'.H
def CT (Q : Bool → Hp → Prop) (b : Bool) (s' : Sta) : Prop := Q b s'.H
/-- the value now, at the top of H -/
def CurV (s : Sta) (v : V) (w : W) : Prop := RepV K ci s.G v w ∨ ∃ a, v = .ref a ∧ RepO K ci s.G s.H a w
end
def getOV : OV → Ev → Option W
  | .v w, _ => some w
  | .n w, _ => some w
  | .s i, env => match env[i]? with
    | some (.dat w) => some w
    | some (.own w) => some w
    | _ => none

section
variable {K : PySem.W.Frag} {ci : Nat → Addr} {BS : List Nat} {α β : Type} {W' : WX} {s s0 m : Sta} {C C' : α → Sta → Prop} {v : V} {w : W} {ov : OV}
theorem Acc.imp {r : Res α} (h : Acc K ci BS W' s C r) (f : ∀ a env' G' H', Stp BS s ⟨env', s.σ, G', H'⟩ → Ok K ci ⟨env', s.σ, G', H'⟩ → C a ⟨env', s.σ, G', H'⟩ → C' a ⟨env', s.σ, G', H'⟩) : Acc K ci BS W' s C' r := by
  cases r with
  | bad => exact h
  | ok a env' => exact fun G' H' st ok => f a env' G' H' st ok (h G' H' st ok)
  | er x env' => exact h
theorem Acc.mid {r : Res α} {env1 : Ev} {G1 H1 : Hp} (h : Acc K ci BS W' s C r) (st : Stp BS s ⟨env1, s.σ, G1, H1⟩) : Acc K ci BS W' ⟨env1, s.σ, G1, H1⟩ C r := by
  cases r with
  | bad => exact h
  | ok a env' => exact fun G' H' st' ok => h G' H' (Step.trans st st') ok
  | er x env' => exact fun G' H' cls d st' ok rx => h G' H' cls d (Step.trans st st') ok rx
theorem Acc.bind {r : Res α} {k : α → Ev → Res β} {C : β → Sta → Prop} (h : Acc K ci BS W' s C (r.bind k)) : Acc K ci BS W' s (fun a m => Acc K ci BS W' m C (k a m.env)) r := by
  cases r with
  | bad => exact h
  | ok a env' => exact fun G' H' st ok => Acc.mid h st
  | er x env' => exact h
theorem NewOV.back {env1 : Ev} {σ1 : L2.St} {G1 H1 : Hp} (st : Stp BS s ⟨env1, σ1, G1, H1⟩) (h : NewOV ⟨env1, σ1, G1, H1⟩ v ov) : NewOV s v ov := by
  cases ov with
  | n w =>
    intro a e
    have z := h a e
    cases q : s.H a with
    | none => rfl
    | some o => exact absurd z (st.here a (by rw [q]; exact fun z => nomatch z))
  | v w => trivial
  | s i => trivial
theorem RepOV.step {env1 : Ev} {G1 H1 : Hp} (h : RepOV K ci s v ov) (st : Stp BS s ⟨env1, s.σ, G1, H1⟩) : RepOV K ci ⟨env1, s.σ, G1, H1⟩ v ov := by
  cases ov with
  | v w => exact RepV.mono st.sub h
  | s i => exact h
  | n w =>
    obtain ⟨a, e, r, g, no⟩ := h
    have hn := r.ne
    exact ⟨a, e, r.mono st.sub fun o q => st.keep a o q no, st.pers a hn g no, st.notOwn hn no⟩
theorem reps_step {env1 : Ev} {G1 H1 : Hp} {vs : List V} {ovs : List OV} (h : Paired (RepOV K ci s) vs ovs) (st : Stp BS s ⟨env1, s.σ, G1, H1⟩) : Paired (RepOV K ci ⟨env1, s.σ, G1, H1⟩) vs ovs := by
  induction h with
  | nil => exact .nil
  | cons r _ ih => exact .cons (r.step st) ih
theorem cur_of (ok : Ok K ci s) (h : RepOV K ci s v ov) (g : getOV ov s.env = some w) : CurV K ci s v w := by
  cases ov with
  | v w1 => cases g; exact .inl h
  | n w1 =>
    cases g
    obtain ⟨a, e, r, _⟩ := h
    exact .inr ⟨a, e, r⟩
  | s i =>
    have h' : s.σ[i]? = some (some v) := h
    unfold getOV at g
    cases e : s.env[i]? with
    | none => simp only [e] at g; cases g
    | some sl =>
      simp only [e] at g
      cases sl with
      | no => cases g
      | dat w1 =>
        cases g
        obtain ⟨v', q1, q2⟩ := ok.dat i w e
        rw [h'] at q1
        cases q1
        exact .inl q2
      | own w1 =>
        cases g
        obtain ⟨a, q1, _, q3⟩ := ok.own i w e
        rw [h'] at q1
        cases q1
        exact .inr ⟨a, rfl, q3⟩
/-! what comes back -/
theorem ret_same {Q : VK} (ok : Ok K ci s) (h : Acc K ci BS W' s (CE K ci s Q) (.ok (.v w) s.env)) (r : RepV K ci s.G v w) : Q v s.H := h s.G s.H Step.refl ok v r trivial
theorem ret_tup {Q : VK} (ok : Ok K ci s) {ws : List W} {vs : List V} {p : Addr} (h : Acc K ci BS W' s (CE K ci s Q) (.ok (.v (.tup ws)) s.env)) (r : RepVs K ci s.G vs ws) (hp : s.H p = none) : Q (.ref p) (upd s.H p (.tup vs)) := by
  obtain ⟨st, ok'⟩ := alloc_pers (BS := BS) (o := .tup vs) ok hp
  exact h _ _ st ok' (.ref p) (RepV.tup (.inl (.inl upd_same)) (r.mono st.sub)) trivial
theorem ret_lst {Q : VK} (ok : Ok K ci s) {ws : List W} {vs : List V} {p : Addr} (h : Acc K ci BS W' s (CE K ci s Q) (.ok (.n (.lst ws)) s.env)) (r : RepVs K ci s.G vs ws) (hp : s.H p = none) : Q (.ref p) (upd s.H p (.lst vs)) := by
  obtain ⟨st, ok', gp, no⟩ := alloc_new (BS := BS) (o := .lst vs) ok hp
  exact h _ _ st ok' (.ref p) ⟨p, rfl, .lst upd_same r, gp, no⟩ fun a e => by cases e; exact hp
/-! values by their form -/
theorem CurV.non (h : CurV K ci s v .non) : v = .non := by
  rcases h with h | ⟨a, _, h⟩
  · cases h; rfl
  · cases h
theorem CurV.bl {b : Bool} (h : CurV K ci s v (.bl b)) : v = .bl b := by
  rcases h with h | ⟨a, _, h⟩
  · cases h; rfl
  · cases h
theorem CurV.int {i : Int} (h : CurV K ci s v (.int i)) : v = .int i := by
  rcases h with h | ⟨a, _, h⟩
  · cases h; rfl
  · cases h
theorem CurV.str {x : Str} (h : CurV K ci s v (.str x)) : v = .str x := by
  rcases h with h | ⟨a, _, h⟩
  · cases h; rfl
  · cases h
theorem CurV.tup {ws : List W} (ok : Ok K ci s) (h : CurV K ci s v (.tup ws)) : ∃ a vs, v = .ref a ∧ SqT K s.H a vs ∧ RepVs K ci s.G vs ws := by
  rcases h with h | ⟨a, _, h⟩
  · cases h with
    | tup h r => exact ⟨_, _, rfl, sqT_mono ok.sub h, r⟩
  · cases h
theorem CurV.lst {ws : List W} (ok : Ok K ci s) (h : CurV K ci s v (.lst ws)) : ∃ a vs, v = .ref a ∧ s.H a = some (.lst vs) ∧ RepVs K ci s.G vs ws := by
  rcases h with h | ⟨a, e, h⟩
  · cases h with
    | lst h r => exact ⟨_, _, rfl, ok.sub _ _ h, r⟩
  · cases h with
    | lst h r => exact ⟨a, _, e, h, r⟩
theorem CurV.fz {ws : List W} (ok : Ok K ci s) (h : CurV K ci s v (.fz ws)) : ∃ a vs, v = .ref a ∧ SqL K s.H a vs ∧ RepVs K ci s.G vs ws := by
  rcases h with h | ⟨a, e, h⟩
  · cases h with
    | fz h r => exact ⟨_, _, rfl, ok.sub.seq h, r⟩
  · cases h
end

/-! ### the judgements -/
section
variable (X : Cx) (ci : Nat → Addr) (BS : List Nat)
structure SndE (e : Expr) (f : EF) : Prop where
  ex : ∃ te : WX → TE, (∀ W', Takes X W' → PE X e (te W')) ∧ ∀ (W' : WX) (s : Sta) (Q : VK), Ok X.K ci s → Acc X.K ci BS W' s (CE X.K ci s Q) (f s.env) → te W' s.σ s.H Q
structure SndT (e : Expr) (f : TF) : Prop where
  ex : ∃ te : WX → TT, (∀ W', Takes X W' → PT X e (te W')) ∧ ∀ (W' : WX) (s : Sta) (Q : Bool → Hp → Prop), Ok X.K ci s → Acc X.K ci BS W' s (CT Q) (f s.env) → te W' s.σ s.H Q
structure SndW (e : Expr) (f : TF) : Prop where
  ex : ∃ te : WX → TT, (∀ W', Takes X W' → PW X e (te W')) ∧ ∀ (W' : WX) (s : Sta) (Q : Bool → Hp → Prop), Ok X.K ci s → Acc X.K ci BS W' s (CT Q) (f s.env) → te W' s.σ s.H Q
structure SndA (es : List Expr) (f : AF) : Prop where
  ex : ∃ te : WX → TA, (∀ W', Takes X W' → PA X es (te W')) ∧ ∀ (W' : WX) (s : Sta) (Q : List V → Hp → Prop), Ok X.K ci s → Acc X.K ci BS W' s (CA X.K ci s Q) (f s.env) → te W' s.σ s.H Q
/-- an operator on values -/
def OpS (f : Value → Value → Sem Value) (g : W → W → Option OV) : Prop := ∃ r : R2, OpR X f r ∧ ∀ (W' : WX) (s : Sta) (x y : V) (wx wy : W) (ov : OV) (Q : VK),
  Ok X.K ci s → CurV X.K ci s x wx → CurV X.K ci s y wy → g wx wy = some ov → Acc X.K ci BS W' s (CE X.K ci s Q) (.ok ov s.env) → r x y s.H Q
/-- a built-in that is called -/
def CallS (f : Value) (g : List W → Option OV) : Prop := ∃ r : List V → Hp → VK → Prop, CallR X f r ∧ ∀ (W' : WX) (s : Sta) (xs : List V) (ws : List W) (ov : OV) (Q : VK),
  Ok X.K ci s → Paired (CurV X.K ci s) xs ws → g ws = some ov → Acc X.K ci BS W' s (CE X.K ci s Q) (.ok ov s.env) → r xs s.H Q
end
def retOV (o : Option OV) (env : Ev) : Res OV := match o with
  | some ov => .ok ov env
  | none => .bad
/-! the functions -/
def fC (w : W) : EF := fun env => .ok (.v w) env
/-- slot i, to be looked at -/
def fV (i : Nat) : EF := fun env => match env[i]? with
  | some (.dat w) => .ok (.v w) env
  | some (.own _) => .ok (.s i) env
  | _ => .bad
/-- slot i, for ever -/
def fZ (i : Nat) : EF := fun env => match env[i]? with
  | some (.dat w) => .ok (.v w) env
  | some (.own w) => .ok (.v w) (env.set i (.dat w))
  | _ => .bad
/-- for ever -/
def fE (f : EF) : EF := fun env => (f env).bind fun ov env => match ov with
  | .v w => .ok (.v w) env
  | .n w => .ok (.v w) env
  | .s _ => .bad
def fOp (g : W → W → Option OV) (fa fb : EF) : EF := fun env => (fa env).bind fun x env => (fb env).bind fun y env =>
  retOV ((getOV x env).bind fun wx => (getOV y env).bind fun wy => g wx wy) env
def fNil : AF := fun env => .ok [] env
def fCons (fa : EF) (fr : AF) : AF := fun env => (fa env).bind fun x env => (fr env).bind fun xs env => .ok (x :: xs) env
def getOVs : List OV → Ev → Option (List W)
  | [], _ => some []
  | o :: os, env => (getOV o env).bind fun w => (getOVs os env).bind fun ws => some (w :: ws)
def fB (g : List W → Option OV) (fa : AF) : EF := fun env => (fa env).bind fun xs env => retOV ((getOVs xs env).bind g) env
/-- a value that is True or False, as a test -/
def asB : W → Option Bool
  | .bl b => some b
  | _ => none
def fTest (f : EF) : TF := fun env => (f env).bind fun ov env => match (getOV ov env).bind asB with
  | some b => .ok b env
  | none => .bad
def fNot (f : TF) : TF := fun env => (f env).bind fun b env => .ok (!b) env
def fAnd (f g : TF) : TF := fun env => (f env).bind fun b env => if b = true then g env else .ok false env
def fOr (f g : TF) : TF := fun env => (f env).bind fun b env => if b = true then .ok true env else g env
def fIf (c : TF) (f g : EF) : EF := fun env => (c env).bind fun b env => if b = true then f env else g env
/-- and, or of truths, as values -/
def fAndV (f g : EF) : EF := fun env => (f env).bind fun ov env => match (getOV ov env).bind asB with
  | some b => if b = true then g env else .ok (.v (.bl false)) env
  | none => .bad
def fOrV (f g : EF) : EF := fun env => (f env).bind fun ov env => match (getOV ov env).bind asB with
  | some b => if b = true then .ok (.v (.bl true)) env else g env
  | none => .bad
def fNotV (f : EF) : EF := fun env => (f env).bind fun ov env => match (getOV ov env).bind asB with
  | some b => .ok (.v (.bl (!b))) env
  | none => .bad
/-- a < b < c -/
def fChain (g g' : W → W → Option OV) (fa fb fc : EF) : EF := fun env => (fa env).bind fun x env => (fb env).bind fun y env =>
  match ((getOV x env).bind fun wx => (getOV y env).bind fun wy => g wx wy) with
  | some (.v (.bl true)) => (fc env).bind fun z env => retOV ((getOV y env).bind fun wy => (getOV z env).bind fun wz => g' wy wz) env
  | some (.v (.bl false)) => .ok (.v (.bl false)) env
  | _ => .bad
def asV : List OV → Option (List W)
  | [] => some []
  | .v w :: os => (asV os).bind fun ws => some (w :: ws)
  | _ :: _ => none
def fTup (f : AF) : EF := fun env => (f env).bind fun xs env => match asV xs with
  | some ws => if ws.length ≤ 16777216 then .ok (.v (.tup ws)) env else .bad
  | none => .bad
def fLst (f : AF) : EF := fun env => (f env).bind fun xs env => match asV xs with
  | some ws => if ws.length ≤ 16777216 then .ok (.n (.lst ws)) env else .bad
  | none => .bad

section
variable {X : Cx} {ci : Nat → Addr} {BS : List Nat} {e a b c : Expr} {es : List Expr} {fa fb fc f : EF} {ta tb : TF} {fr : AF} {pos : Pos}
theorem x_int {i j} : SndE X ci BS (.Constant (.int i) j pos) (fC (.int i)) := ⟨_, fun _ _ => pe_int, fun W' s Q ok h => ret_same ok h (.int i)⟩
theorem x_bl {b j} : SndE X ci BS (.Constant (.bool b) j pos) (fC (.bl b)) := ⟨_, fun _ _ => pe_bl, fun W' s Q ok h => ret_same ok h (.bl b)⟩
theorem x_non {j} : SndE X ci BS (.Constant .none j pos) (fC .non) := ⟨_, fun _ _ => pe_non, fun W' s Q ok h => ret_same ok h .non⟩
theorem x_str {x j} : SndE X ci BS (.Constant (.str x) j pos) (fC (.str x)) := ⟨_, fun _ _ => pe_str, fun W' s Q ok h => ret_same ok h (.str x)⟩
theorem x_var (i : Nat) {x : Str} (hN : X.N[i]? = some x := by rfl) (hv : Vis X.env.scope x := by first | exact Or.inl rfl | exact Or.inr (Or.inl rfl) | exact Or.inr (Or.inr rfl)) (hd : (x == ("__debug__" : Str)) = false := by decide)
    (hcd : (x == ("__classdict__" : Str)) = false := by decide) : SndE X ci BS (.Name x pos) (fV i) := by
  refine ⟨⟨fun _ => tVar i, fun _ _ => pe_var hN hv hd hcd, fun W' s Q ok h => ?_⟩⟩
  unfold fV at h
  cases e : s.env[i]? with
  | none => rw [e] at h; exact h.elim
  | some sl =>
    rw [e] at h
    cases sl with
    | no => exact h.elim
    | dat w =>
      obtain ⟨v, q1, q2⟩ := ok.dat i w e
      exact ⟨v, q1, ret_same ok h q2⟩
    | own w =>
      obtain ⟨a, q1, _, _⟩ := ok.own i w e
      exact ⟨.ref a, q1, h s.G s.H Step.refl ok (.ref a) q1 trivial⟩
theorem x_frz (i : Nat) {x : Str} (hi : i ∉ BS) (hN : X.N[i]? = some x := by rfl) (hv : Vis X.env.scope x := by first | exact Or.inl rfl | exact Or.inr (Or.inl rfl) | exact Or.inr (Or.inr rfl)) (hd : (x == ("__debug__" : Str)) = false := by decide)
    (hcd : (x == ("__classdict__" : Str)) = false := by decide) : SndE X ci BS (.Name x pos) (fZ i) := by
  refine ⟨⟨fun _ => tVar i, fun _ _ => pe_var hN hv hd hcd, fun W' s Q ok h => ?_⟩⟩
  unfold fZ at h
  cases e : s.env[i]? with
  | none => rw [e] at h; exact h.elim
  | some sl =>
    rw [e] at h
    cases sl with
    | no => exact h.elim
    | dat w =>
      obtain ⟨v, q1, q2⟩ := ok.dat i w e
      exact ⟨v, q1, ret_same ok h q2⟩
    | own w =>
      obtain ⟨a, q1, g, ro⟩ := ok.own i w e
      have il : i < s.env.length := (List.getElem?_eq_some_iff.mp e).1
      obtain ⟨o, eo, s1, s2, rv⟩ := ro.freeze g ok.sub
      have nown : ∀ {j : Nat} {w : W}, (s.env.set i (.dat w))[j]? = some (.own w) → True := fun _ => trivial
      have back : ∀ {j : Nat} {sl : Sl}, j ≠ i → ((s.env.set i (.dat w))[j]? = some sl ↔ s.env[j]? = some sl) := fun {j sl} hj => by
        rw [List.getElem?_set_ne (Ne.symm hj)]
      have at_i : (s.env.set i (.dat w))[i]? = some (.dat w) := List.getElem?_set_self il
      have ownB : ∀ {j : Nat} {c : Addr}, OwnAt (s.env.set i (.dat w)) s.σ j c → j ≠ i ∧ OwnAt s.env s.σ j c := fun {j c} ⟨⟨u, eu⟩, q⟩ => by
        have hj : j ≠ i := fun z => by
          subst z
          rw [at_i] at eu
          cases eu
        exact ⟨hj, ⟨u, (back hj).mp eu⟩, q⟩
      have nep : ∀ {j : Nat} {c : Addr}, OwnAt (s.env.set i (.dat w)) s.σ j c → c ≠ a := fun {j c} h z => by
        obtain ⟨hj, q⟩ := ownB h
        subst z
        exact hj (ok.inj _ _ _ q ⟨⟨w, e⟩, q1⟩)
      have ok' : Ok X.K ci ⟨s.env.set i (.dat w), s.σ, upd s.G a o, s.H⟩ := by
        refine ⟨s2, by rw [List.length_set]; exact ok.len, fun j u eu => ?_, fun j u eu => ?_, fun j k c h1 h2 => ok.inj j k c (ownB h1).2 (ownB h2).2⟩
        · by_cases hj : j = i
          · subst hj
            rw [at_i] at eu
            cases eu
            exact ⟨.ref a, q1, rv⟩
          · obtain ⟨v, p1, p2⟩ := ok.dat j u ((back hj).mp eu)
            exact ⟨v, p1, p2.mono s1⟩
        · have hj : j ≠ i := fun z => by
            subst z
            rw [at_i] at eu
            cases eu
          obtain ⟨b, p1, p2, p3⟩ := ok.own j u ((back hj).mp eu)
          have nb : b ≠ a := nep ⟨⟨u, eu⟩, p1⟩
          exact ⟨b, p1, by show upd s.G a o b = none; rw [upd_ne nb]; exact p2, p3.mono s1 fun _ h => h⟩
      refine ⟨.ref a, q1, h (upd s.G a o) s.H ⟨s1, fun _ _ h _ => h, fun c hc gc no => ?_, fun _ h => h, fun j c h => ?_, fun j hj => ⟨rfl, fun z => ?_⟩⟩ ok' (.ref a) rv trivial⟩
      · have nc : c ≠ a := fun z => no i ⟨⟨w, e⟩, by rw [z]; exact q1⟩
        show upd s.G a o c = none
        rw [upd_ne nc]
        exact gc
      · obtain ⟨hj, q⟩ := ownB h
        by_cases hB : j ∈ BS
        · exact .inl ⟨hB, q⟩
        · exact .inr ⟨hB, .inr ⟨j, hB, q⟩⟩
      · obtain ⟨u, eu⟩ := z
        have hj' : j ≠ i := fun z => hi (z ▸ hj)
        exact ⟨u, (back hj').mpr eu⟩
theorem x_esc (ha : SndE X ci BS a fa) : SndE X ci BS a (fE fa) := by
  obtain ⟨ta, pa, qa⟩ := ha.ex
  refine ⟨⟨ta, pa, fun W' s Q ok h => qa W' s Q ok ?_⟩⟩
  unfold fE at h
  cases e : fa s.env with
  | bad => rw [e] at h; exact h
  | er x env' => rw [e] at h; exact h
  | ok ov env' =>
    rw [e] at h
    cases ov with
    | v w => exact h
    | s i => exact h.elim
    | n w =>
      intro G' H' st ok' v rep new
      obtain ⟨p, rfl, ro, gp, no⟩ := rep
      obtain ⟨G2, s1, ok2, rv, same⟩ := freeze_new ok' ro gp no
      refine h G2 H' ⟨st.sub.trans s1, st.keep, fun c hc gc no' => ?_, st.here, st.new, st.bs⟩ ok2 (.ref p) rv trivial
      have hp : s.H p = none := new p rfl
      have nc : c ≠ p := fun z => hc (z ▸ hp)
      show G2 c = none
      rw [same c nc]
      exact st.pers c hc gc no'
/-! ### operators -/
theorem op_core {ta tb : WX → TE} {r : R2} {g : W → W → Option OV} (qa : ∀ (W' : WX) (s : Sta) (Q : VK), Ok X.K ci s → Acc X.K ci BS W' s (CE X.K ci s Q) (fa s.env) → ta W' s.σ s.H Q)
    (qb : ∀ (W' : WX) (s : Sta) (Q : VK), Ok X.K ci s → Acc X.K ci BS W' s (CE X.K ci s Q) (fb s.env) → tb W' s.σ s.H Q)
    (qr : ∀ (W' : WX) (s : Sta) (x y : V) (wx wy : W) (ov : OV) (Q : VK), Ok X.K ci s → CurV X.K ci s x wx → CurV X.K ci s y wy → g wx wy = some ov → Acc X.K ci BS W' s (CE X.K ci s Q) (.ok ov s.env) → r x y s.H Q)
    (W' : WX) (s : Sta) (Q : VK) (ok : Ok X.K ci s) (h : Acc X.K ci BS W' s (CE X.K ci s Q) (fOp g fa fb s.env)) : tOp r (ta W') (tb W') s.σ s.H Q := by
  refine qa W' s _ ok (h.bind.imp fun ox env1 G1 H1 st1 ok1 h1 => ?_)
  intro v rep new
  refine qb W' ⟨env1, s.σ, G1, H1⟩ _ ok1 (h1.bind.imp fun oy env2 G2 H2 st2 ok2 h2 => ?_)
  intro u rep2 new2
  have rep' : RepOV X.K ci ⟨env2, s.σ, G2, H2⟩ v ox := rep.step st2
  cases e1 : getOV ox env2 with
  | none => dsimp only at h2; rw [e1] at h2; exact h2.elim
  | some wx =>
    dsimp only at h2
    rw [e1] at h2
    cases e2 : getOV oy env2 with
    | none => rw [e2] at h2; exact h2.elim
    | some wy =>
      rw [e2] at h2
      cases e3 : g wx wy with
      | none => (have h2' : Acc X.K ci BS W' ⟨env2, s.σ, G2, H2⟩ (CE X.K ci s Q) (retOV (g wx wy) env2) := h2); rw [e3] at h2'; exact h2'.elim
      | some ov =>
        have h2' : Acc X.K ci BS W' ⟨env2, s.σ, G2, H2⟩ (CE X.K ci s Q) (retOV (g wx wy) env2) := h2
        rw [e3] at h2'
        refine qr W' ⟨env2, s.σ, G2, H2⟩ v u wx wy ov Q ok2 (cur_of ok2 rep' e1) (cur_of ok2 rep2 e2) e3 (h2'.imp fun ov env3 G3 H3 st3 ok3 h3 => ?_)
        intro z rz nz
        exact h3 z rz (NewOV.back (st1.trans st2) nz)
theorem x_op {op : Operator} {g : W → W → Option OV} (ho : OpS X ci BS (binaryOp op) g) (ha : SndE X ci BS a fa) (hb : SndE X ci BS b fb) : SndE X ci BS (.BinOp a op b pos) (fOp g fa fb) := by
  obtain ⟨ta, pa, qa⟩ := ha.ex
  obtain ⟨tb, pb, qb⟩ := hb.ex
  obtain ⟨r, pr, qr⟩ := ho
  refine ⟨⟨fun W' => tOp r (ta W') (tb W'), fun W' tk => pe_op pr (pa W' tk) (pb W' tk), fun W' s Q ok h => ?_⟩⟩
  exact op_core qa qb qr W' s Q ok h
theorem x_cmp {op : CmpOp} {g : W → W → Option OV} (ho : OpS X ci BS (compareOp op) g) (ha : SndE X ci BS a fa) (hb : SndE X ci BS b fb) (hm : behindInMarks op b = false) : SndE X ci BS (.Compare a [op] [b] pos) (fOp g fa fb) := by
  obtain ⟨ta, pa, qa⟩ := ha.ex
  obtain ⟨tb, pb, qb⟩ := hb.ex
  obtain ⟨r, pr, qr⟩ := ho
  exact ⟨⟨fun W' => tOp r (ta W') (tb W'), fun W' tk => pe_cmpR pr (pa W' tk) (pb W' tk) hm, fun W' s Q ok h => op_core qa qb qr W' s Q ok h⟩⟩
/-- what comes to a bool, as a test -/
theorem test_core {te : WX → TE} (qa : ∀ (W' : WX) (s : Sta) (Q : VK), Ok X.K ci s → Acc X.K ci BS W' s (CE X.K ci s Q) (f s.env) → te W' s.σ s.H Q)
    (W' : WX) (s : Sta) (Q : Bool → Hp → Prop) (ok : Ok X.K ci s) (h : Acc X.K ci BS W' s (CT Q) (fTest f s.env)) : te W' s.σ s.H fun x H' => ∃ k, x = .bl k ∧ Q k H' := by
  refine qa W' s _ ok (h.bind.imp fun ov env1 G1 H1 st1 ok1 h1 => ?_)
  intro v rep new
  cases e1 : getOV ov env1 with
  | none => dsimp only at h1; rw [e1] at h1; exact h1.elim
  | some w =>
    dsimp only at h1
    rw [e1] at h1
    cases w with
    | bl b => exact ⟨b, (cur_of ok1 rep e1).bl, h1 G1 H1 Step.refl ok1⟩
    | _ => exact h1.elim
theorem t_cmp {op : CmpOp} {g : W → W → Option OV} (ho : OpS X ci BS (compareOp op) g) (ha : SndE X ci BS a fa) (hb : SndE X ci BS b fb) (hm : behindInMarks op b = false) : SndT X ci BS (.Compare a [op] [b] pos) (fTest (fOp g fa fb)) := by
  obtain ⟨ta, pa, qa⟩ := ha.ex
  obtain ⟨tb, pb, qb⟩ := hb.ex
  obtain ⟨r, pr, qr⟩ := ho
  refine ⟨⟨fun W' => tTest (tOp r (ta W') (tb W')), fun W' tk => pt_cmpR pr (pa W' tk) (pb W' tk) hm, fun W' s Q ok h => ?_⟩⟩
  exact test_core (te := fun W' => tOp r (ta W') (tb W')) (fun W' s Q ok h => op_core qa qb qr W' s Q ok h) W' s Q ok h
theorem t_val (ha : SndE X ci BS e f) (he : ∀ whole, isTrue e X.env whole = (do let v ← whole; standAt e.pos; holding [v] (truthy v)) := by intro _; rfl) : SndT X ci BS e (fTest f) := by
  obtain ⟨ta, pa, qa⟩ := ha.ex
  exact ⟨⟨fun W' => tB (ta W'), fun W' tk => pt_val (pa W' tk) he, fun W' s Q ok h => test_core qa W' s Q ok h⟩⟩
theorem t_not (ha : SndT X ci BS a ta) : SndT X ci BS (.UnaryOp .Not a pos) (fNot ta) := by
  obtain ⟨t, p, q⟩ := ha.ex
  refine ⟨⟨fun W' => tNot (t W'), fun W' tk => pt_not (p W' tk), fun W' s Q ok h => ?_⟩⟩
  exact q W' s _ ok (h.bind.imp fun b env1 G1 H1 st1 ok1 h1 => h1 G1 H1 Step.refl ok1)
theorem w_and1 (ha : SndT X ci BS a ta) : SndW X ci BS (.BoolOp .And [a] pos) ta := by
  obtain ⟨t, p, q⟩ := ha.ex
  exact ⟨⟨t, fun W' tk => pw_and1 (p W' tk), q⟩⟩
theorem w_or1 (ha : SndT X ci BS a ta) : SndW X ci BS (.BoolOp .Or [a] pos) ta := by
  obtain ⟨t, p, q⟩ := ha.ex
  exact ⟨⟨t, fun W' tk => pw_or1 (p W' tk), q⟩⟩
theorem w_and (ha : SndT X ci BS a ta) (hb : SndW X ci BS (.BoolOp .And (b :: es) pos) tb) : SndW X ci BS (.BoolOp .And (a :: b :: es) pos) (fAnd ta tb) := by
  obtain ⟨t, p, q⟩ := ha.ex
  obtain ⟨t', p', q'⟩ := hb.ex
  refine ⟨⟨fun W' => tAnd (t W') (t' W'), fun W' tk => pw_and (p W' tk) (p' W' tk), fun W' s Q ok h => ?_⟩⟩
  refine q W' s _ ok (h.bind.imp fun c env1 G1 H1 st1 ok1 h1 => ?_)
  cases c with
  | true => exact q' W' _ Q ok1 h1
  | false => exact h1 G1 H1 Step.refl ok1
theorem w_or (ha : SndT X ci BS a ta) (hb : SndW X ci BS (.BoolOp .Or (b :: es) pos) tb) : SndW X ci BS (.BoolOp .Or (a :: b :: es) pos) (fOr ta tb) := by
  obtain ⟨t, p, q⟩ := ha.ex
  obtain ⟨t', p', q'⟩ := hb.ex
  refine ⟨⟨fun W' => tOr (t W') (t' W'), fun W' tk => pw_or (p W' tk) (p' W' tk), fun W' s Q ok h => ?_⟩⟩
  refine q W' s _ ok (h.bind.imp fun c env1 G1 H1 st1 ok1 h1 => ?_)
  cases c with
  | false => exact q' W' _ Q ok1 h1
  | true => exact h1 G1 H1 Step.refl ok1
theorem t_w (ha : SndW X ci BS a ta) : SndT X ci BS a ta := by
  obtain ⟨t, p, q⟩ := ha.ex
  exact ⟨⟨t, fun W' tk => (p W' tk).pt, q⟩⟩
/-! as values -/
theorem x_one {op} (ha : SndE X ci BS a fa) : SndE X ci BS (.BoolOp op [a] pos) fa := by
  obtain ⟨t, p, q⟩ := ha.ex
  exact ⟨⟨t, fun W' tk => pe_one (p W' tk), q⟩⟩
theorem boolv_core {ta : WX → TE} (qa : ∀ (W' : WX) (s : Sta) (Q : VK), Ok X.K ci s → Acc X.K ci BS W' s (CE X.K ci s Q) (fa s.env) → ta W' s.σ s.H Q)
    (W' : WX) (s : Sta) (Q : VK) (R : Bool → Hp → Prop) (k : Bool → Ev → Res OV) (ok : Ok X.K ci s)
    (h : Acc X.K ci BS W' s (CE X.K ci s Q) ((fa s.env).bind fun ov env => match (getOV ov env).bind asB with | some b => k b env | none => .bad))
    (hk : ∀ (b : Bool) env1 G1 H1, Stp BS s ⟨env1, s.σ, G1, H1⟩ → Ok X.K ci ⟨env1, s.σ, G1, H1⟩ → Acc X.K ci BS W' ⟨env1, s.σ, G1, H1⟩ (CE X.K ci ⟨env1, s.σ, G1, H1⟩ Q) (k b env1) → R b H1) :
    ta W' s.σ s.H fun x H' => ∃ c, x = .bl c ∧ R c H' := by
  refine qa W' s _ ok (h.bind.imp fun ov env1 G1 H1 st1 ok1 h1 => ?_)
  intro v rep new
  cases e1 : getOV ov env1 with
  | none => dsimp only at h1; rw [e1] at h1; exact h1.elim
  | some w =>
    dsimp only at h1
    rw [e1] at h1
    cases w with
    | bl b =>
      refine ⟨b, (cur_of ok1 rep e1).bl, hk b env1 G1 H1 st1 ok1 ?_⟩
      have h2 : Acc X.K ci BS W' ⟨env1, s.σ, G1, H1⟩ (CE X.K ci s Q) (k b env1) := h1
      exact h2.imp fun ov' env2 G2 H2 st2 ok2 h3 z rz nz => h3 z rz (NewOV.back st1 nz)
    | _ => exact h1.elim
theorem x_and (ha : SndE X ci BS a fa) (hb : SndE X ci BS (.BoolOp .And (b :: es) pos) fb) : SndE X ci BS (.BoolOp .And (a :: b :: es) pos) (fAndV fa fb) := by
  obtain ⟨t, p, q⟩ := ha.ex
  obtain ⟨t', p', q'⟩ := hb.ex
  refine ⟨⟨fun W' => tAndV (t W') (t' W'), fun W' tk => pe_and (p W' tk) (p' W' tk), fun W' s Q ok h => ?_⟩⟩
  refine boolv_core q W' s Q _ (fun b env => if b = true then fb env else .ok (.v (.bl false)) env) ok h fun c env1 G1 H1 st1 ok1 h1 => ?_
  cases c with
  | true => exact q' W' _ Q ok1 h1
  | false => exact ret_same ok1 h1 (.bl false)
theorem x_or (ha : SndE X ci BS a fa) (hb : SndE X ci BS (.BoolOp .Or (b :: es) pos) fb) : SndE X ci BS (.BoolOp .Or (a :: b :: es) pos) (fOrV fa fb) := by
  obtain ⟨t, p, q⟩ := ha.ex
  obtain ⟨t', p', q'⟩ := hb.ex
  refine ⟨⟨fun W' => tOrV (t W') (t' W'), fun W' tk => pe_or (p W' tk) (p' W' tk), fun W' s Q ok h => ?_⟩⟩
  refine boolv_core q W' s Q _ (fun b env => if b = true then .ok (.v (.bl true)) env else fb env) ok h fun c env1 G1 H1 st1 ok1 h1 => ?_
  cases c with
  | false => exact q' W' _ Q ok1 h1
  | true => exact ret_same ok1 h1 (.bl true)
theorem x_not (ha : SndE X ci BS a fa) : SndE X ci BS (.UnaryOp .Not a pos) (fNotV fa) := by
  obtain ⟨t, p, q⟩ := ha.ex
  refine ⟨⟨fun W' => tNotV (t W'), fun W' tk => pe_not (p W' tk), fun W' s Q ok h => ?_⟩⟩
  exact boolv_core q W' s Q _ (fun b env => .ok (.v (.bl (!b))) env) ok h fun c env1 G1 H1 st1 ok1 h1 => ret_same ok1 h1 (.bl _)
theorem x_if (hc : SndT X ci BS c ta) (ha : SndE X ci BS a fa) (hb : SndE X ci BS b fb) : SndE X ci BS (.IfExp c a b pos) (fIf ta fa fb) := by
  obtain ⟨t, p, q⟩ := hc.ex
  obtain ⟨t1, p1, q1⟩ := ha.ex
  obtain ⟨t2, p2, q2⟩ := hb.ex
  refine ⟨⟨fun W' => tIf (t W') (t1 W') (t2 W'), fun W' tk => pe_ifExp (p W' tk) (p1 W' tk) (p2 W' tk), fun W' s Q ok h => ?_⟩⟩
  refine q W' s _ ok (h.bind.imp fun d env1 G1 H1 st1 ok1 h1 => ?_)
  have fin : ∀ {r : Res OV}, Acc X.K ci BS W' ⟨env1, s.σ, G1, H1⟩ (CE X.K ci s Q) r → Acc X.K ci BS W' ⟨env1, s.σ, G1, H1⟩ (CE X.K ci ⟨env1, s.σ, G1, H1⟩ Q) r := fun hr => hr.imp fun ov' env2 G2 H2 st2 ok2 h3 z rz nz => h3 z rz (NewOV.back st1 nz)
  cases d with
  | true => exact q1 W' _ Q ok1 (fin h1)
  | false => exact q2 W' _ Q ok1 (fin h1)
/-! a < b < c -/
theorem chain_core {r r' : R2} {g g' : W → W → Option OV} {t1 t2 t3 : WX → TE} (qa : ∀ (W' : WX) (s : Sta) (Q : VK), Ok X.K ci s → Acc X.K ci BS W' s (CE X.K ci s Q) (fa s.env) → t1 W' s.σ s.H Q)
    (qb : ∀ (W' : WX) (s : Sta) (Q : VK), Ok X.K ci s → Acc X.K ci BS W' s (CE X.K ci s Q) (fb s.env) → t2 W' s.σ s.H Q) (qc : ∀ (W' : WX) (s : Sta) (Q : VK), Ok X.K ci s → Acc X.K ci BS W' s (CE X.K ci s Q) (fc s.env) → t3 W' s.σ s.H Q)
    (qr : ∀ (W' : WX) (s : Sta) (x y : V) (wx wy : W) (ov : OV) (Q : VK), Ok X.K ci s → CurV X.K ci s x wx → CurV X.K ci s y wy → g wx wy = some ov → Acc X.K ci BS W' s (CE X.K ci s Q) (.ok ov s.env) → r x y s.H Q)
    (qr' : ∀ (W' : WX) (s : Sta) (x y : V) (wx wy : W) (ov : OV) (Q : VK), Ok X.K ci s → CurV X.K ci s x wx → CurV X.K ci s y wy → g' wx wy = some ov → Acc X.K ci BS W' s (CE X.K ci s Q) (.ok ov s.env) → r' x y s.H Q)
    (W' : WX) (s : Sta) (Q : VK) (ok : Ok X.K ci s) (h : Acc X.K ci BS W' s (CE X.K ci s Q) (fChain g g' fa fb fc s.env)) : tChain r r' (t1 W') (t2 W') (t3 W') s.σ s.H Q := by
  refine qa W' s _ ok (h.bind.imp fun ox env1 G1 H1 st1 ok1 h1 => ?_)
  intro v rep new
  refine qb W' ⟨env1, s.σ, G1, H1⟩ _ ok1 (h1.bind.imp fun oy env2 G2 H2 st2 ok2 h2 => ?_)
  intro u rep2 new2
  have rep' : RepOV X.K ci ⟨env2, s.σ, G2, H2⟩ v ox := rep.step st2
  have h2 : Acc X.K ci BS W' ⟨env2, s.σ, G2, H2⟩ (CE X.K ci s Q) (match ((getOV ox env2).bind fun wx => (getOV oy env2).bind fun wy => g wx wy) with
    | some (.v (.bl true)) => (fc env2).bind fun z env => retOV ((getOV oy env).bind fun wy => (getOV z env).bind fun wz => g' wy wz) env
    | some (.v (.bl false)) => .ok (.v (.bl false)) env2
    | _ => .bad) := h2
  cases e1 : getOV ox env2 with
  | none => rw [e1] at h2; exact h2.elim
  | some wx =>
    cases e2 : getOV oy env2 with
    | none => rw [e1, e2] at h2; exact h2.elim
    | some wy =>
      rw [e1, e2] at h2
      have h2 : Acc X.K ci BS W' ⟨env2, s.σ, G2, H2⟩ (CE X.K ci s Q) (match g wx wy with
        | some (.v (.bl true)) => (fc env2).bind fun z env => retOV ((getOV oy env).bind fun wy => (getOV z env).bind fun wz => g' wy wz) env
        | some (.v (.bl false)) => .ok (.v (.bl false)) env2
        | _ => .bad) := h2
      cases e3 : g wx wy with
      | none => rw [e3] at h2; exact h2.elim
      | some ov =>
        rw [e3] at h2
        cases ov with
        | s i => exact h2.elim
        | n w => exact h2.elim
        | v w =>
          cases w with
          | bl b =>
            refine qr W' ⟨env2, s.σ, G2, H2⟩ v u wx wy (.v (.bl b)) _ ok2 (cur_of ok2 rep' e1) (cur_of ok2 rep2 e2) e3 fun G3 H3 st3 ok3 z rz nz => ?_
            have ez : z = .bl b := by
              have rz' : RepV X.K ci G3 z (.bl b) := rz
              cases rz'; rfl
            refine ⟨b, ez, ?_⟩
            have h3 := h2.mid st3
            cases b with
            | false =>
              rw [if_neg Bool.false_ne_true]
              exact ret_same (W' := W') (s := ⟨env2, s.σ, G3, H3⟩) ok3 (h3.imp fun ov' env4 G4 H4 st4 ok4 h4 z rz nz => h4 z rz (NewOV.back ((st1.trans st2).trans st3) nz)) (.bl false)
            | true =>
              rw [if_pos rfl]
              refine qc W' ⟨env2, s.σ, G3, H3⟩ _ ok3 ((Acc.bind h3).imp fun oz env4 G4 H4 st4 ok4 h4 => ?_)
              intro q rep4 new4
              have rep5 : RepOV X.K ci ⟨env4, s.σ, G4, H4⟩ u oy := rep2.step (Step.trans st3 st4)
              have h4 : Acc X.K ci BS W' ⟨env4, s.σ, G4, H4⟩ (CE X.K ci s Q) (retOV ((getOV oy env4).bind fun wy => (getOV oz env4).bind fun wz => g' wy wz) env4) := h4
              cases f1 : getOV oy env4 with
              | none => rw [f1] at h4; exact h4.elim
              | some wy' =>
                cases f2 : getOV oz env4 with
                | none => rw [f1, f2] at h4; exact h4.elim
                | some wz =>
                  rw [f1, f2] at h4
                  have h4 : Acc X.K ci BS W' ⟨env4, s.σ, G4, H4⟩ (CE X.K ci s Q) (retOV (g' wy' wz) env4) := h4
                  cases f3 : g' wy' wz with
                  | none => rw [f3] at h4; exact h4.elim
                  | some ov' =>
                    rw [f3] at h4
                    refine qr' W' ⟨env4, s.σ, G4, H4⟩ u q wy' wz ov' Q ok4 (cur_of ok4 rep5 f1) (cur_of ok4 rep4 f2) f3 (h4.imp fun ov env5 G5 H5 st5 ok5 h5 => ?_)
                    intro z rz nz
                    exact h5 z rz (NewOV.back ((((st1.trans st2).trans st3).trans st4)) nz)
          | _ => exact h2.elim
theorem x_chain {op op' : CmpOp} {g g' : W → W → Option OV} (ho : OpS X ci BS (compareOp op) g) (ho' : OpS X ci BS (compareOp op') g') (ha : SndE X ci BS a fa) (hb : SndE X ci BS b fb) (hc : SndE X ci BS c fc)
    (hm : lastMarks [op, op'] [b, c] = false := by with_unfolding_all rfl) : SndE X ci BS (.Compare a [op, op'] [b, c] pos) (fChain g g' fa fb fc) := by
  obtain ⟨t1, p1, q1⟩ := ha.ex
  obtain ⟨t2, p2, q2⟩ := hb.ex
  obtain ⟨t3, p3, q3⟩ := hc.ex
  obtain ⟨r, pr, qr⟩ := ho
  obtain ⟨r', pr', qr'⟩ := ho'
  exact ⟨⟨fun W' => tChain r r' (t1 W') (t2 W') (t3 W'), fun W' tk => pe_chain pr pr' (p1 W' tk) (p2 W' tk) (p3 W' tk) hm, fun W' s Q ok h => chain_core q1 q2 q3 qr qr' W' s Q ok h⟩⟩
theorem t_chain {op op' : CmpOp} {g g' : W → W → Option OV} (ho : OpS X ci BS (compareOp op) g) (ho' : OpS X ci BS (compareOp op') g') (ha : SndE X ci BS a fa) (hb : SndE X ci BS b fb) (hc : SndE X ci BS c fc)
    (hm : lastMarks [op, op'] [b, c] = false := by with_unfolding_all rfl) : SndT X ci BS (.Compare a [op, op'] [b, c] pos) (fTest (fChain g g' fa fb fc)) := by
  obtain ⟨t1, p1, q1⟩ := ha.ex
  obtain ⟨t2, p2, q2⟩ := hb.ex
  obtain ⟨t3, p3, q3⟩ := hc.ex
  obtain ⟨r, pr, qr⟩ := ho
  obtain ⟨r', pr', qr'⟩ := ho'
  refine ⟨⟨fun W' => tTest (tChain r r' (t1 W') (t2 W') (t3 W')), fun W' tk => pt_chain pr pr' (p1 W' tk) (p2 W' tk) (p3 W' tk) hm, fun W' s Q ok h => ?_⟩⟩
  exact test_core (te := fun W' => tChain r r' (t1 W') (t2 W') (t3 W')) (fun W' s Q ok h => chain_core q1 q2 q3 qr qr' W' s Q ok h) W' s Q ok h
/-! ### arguments, displays, built-ins that are called -/
theorem a_nil : SndA X ci BS [] fNil := ⟨⟨fun _ => tNil, fun _ _ => pa_nil, fun W' s Q ok h => h s.G s.H Step.refl ok [] .nil⟩⟩
theorem a_cons (ha : SndE X ci BS e fa) (hr : SndA X ci BS es fr) (hs : starEach (e :: es) X.env = (false, eval e X.env) :: starEach es X.env := by rfl) : SndA X ci BS (e :: es) (fCons fa fr) := by
  obtain ⟨t, p, q⟩ := ha.ex
  obtain ⟨t', p', q'⟩ := hr.ex
  refine ⟨⟨fun W' => tCons (t W') (t' W'), fun W' tk => pa_cons (p W' tk) (p' W' tk) hs, fun W' s Q ok h => ?_⟩⟩
  refine q W' s _ ok (h.bind.imp fun ox env1 G1 H1 st1 ok1 h1 => ?_)
  intro v rep new
  refine q' W' ⟨env1, s.σ, G1, H1⟩ _ ok1 (h1.bind.imp fun os env2 G2 H2 st2 ok2 h2 => ?_)
  intro vs reps
  exact h2 G2 H2 Step.refl ok2 (v :: vs) (.cons (rep.step st2) reps)
theorem asV_of : ∀ {vs : List V} {ovs : List OV} {ws : List W} {s : Sta}, Paired (RepOV X.K ci s) vs ovs → asV ovs = some ws → RepVs X.K ci s.G vs ws
  | _, _, _, _, .nil, e => by cases e; exact .nil
  | v :: vs, ov :: ovs, ws, s, .cons r t, e => by
    cases ov with
    | v w =>
      unfold asV at e
      cases q : asV ovs with
      | none => rw [q] at e; cases e
      | some us =>
        rw [q] at e
        cases e
        exact .cons r (asV_of t q)
    | s i => cases e
    | n w => cases e
theorem sz_le {n : Nat} (h : n ≤ 16777216) : n ≤ sizeLine := by rw [sizeLine_eq]; exact h
theorem x_tup {x1} (ha : SndA X ci BS es fr) : SndE X ci BS (.Tuple es x1 pos) (fTup fr) := by
  obtain ⟨t, p, q⟩ := ha.ex
  refine ⟨⟨fun W' => tTup (t W'), fun W' tk => pe_tup (p W' tk), fun W' s Q ok h => ?_⟩⟩
  refine q W' s _ ok (h.bind.imp fun os env1 G1 H1 st1 ok1 h1 => ?_)
  intro vs reps
  dsimp only at h1
  cases e : asV os with
  | none => rw [e] at h1; exact h1.elim
  | some ws =>
    rw [e] at h1
    dsimp only at h1
    have r := asV_of reps e
    by_cases hz : ws.length ≤ 16777216
    · rw [if_pos hz] at h1
      refine ⟨sz_le (by rw [r.length]; exact hz), fun a ha => ?_⟩
      exact ret_tup (W' := W') (s := ⟨env1, s.σ, G1, H1⟩) ok1 (h1.imp fun ov' env4 G4 H4 st4 ok4 h4 z rz nz => h4 z rz (NewOV.back st1 nz)) r ha
    · rw [if_neg hz] at h1; exact h1.elim
theorem x_lst (ha : SndA X ci BS es fr) : SndE X ci BS (.List es pos) (fLst fr) := by
  obtain ⟨t, p, q⟩ := ha.ex
  refine ⟨⟨fun W' => tLst (t W'), fun W' tk => pe_lst (p W' tk), fun W' s Q ok h => ?_⟩⟩
  refine q W' s _ ok (h.bind.imp fun os env1 G1 H1 st1 ok1 h1 => ?_)
  intro vs reps
  dsimp only at h1
  cases e : asV os with
  | none => rw [e] at h1; exact h1.elim
  | some ws =>
    rw [e] at h1
    dsimp only at h1
    have r := asV_of reps e
    by_cases hz : ws.length ≤ 16777216
    · rw [if_pos hz] at h1
      refine ⟨sz_le (by rw [r.length]; exact hz), fun a ha => ?_⟩
      exact ret_lst (W' := W') (s := ⟨env1, s.σ, G1, H1⟩) ok1 (h1.imp fun ov' env4 G4 H4 st4 ok4 h4 z rz nz => h4 z rz (NewOV.back st1 nz)) r ha
    · rw [if_neg hz] at h1; exact h1.elim
theorem curs_of {s : Sta} (ok : Ok X.K ci s) : ∀ {vs : List V} {ovs : List OV} {ws : List W}, Paired (RepOV X.K ci s) vs ovs → getOVs ovs s.env = some ws → Paired (CurV X.K ci s) vs ws
  | _, _, _, .nil, e => by cases e; exact .nil
  | v :: vs, ov :: ovs, ws, .cons r t, e => by
    unfold getOVs at e
    cases q : getOV ov s.env with
    | none => rw [q] at e; cases e
    | some w =>
      rw [q] at e
      have e : ((getOVs ovs s.env).bind fun ws => some (w :: ws)) = some ws := e
      cases q2 : getOVs ovs s.env with
      | none => rw [q2] at e; cases e
      | some us =>
        rw [q2] at e
        cases e
        exact .cons (cur_of ok r q) (curs_of ok t q2)
theorem call_core {r : List V → Hp → VK → Prop} {g : List W → Option OV} {ta : WX → TA} (qa : ∀ (W' : WX) (s : Sta) (Q : List V → Hp → Prop), Ok X.K ci s → Acc X.K ci BS W' s (CA X.K ci s Q) (fr s.env) → ta W' s.σ s.H Q)
    (qr : ∀ (W' : WX) (s : Sta) (xs : List V) (ws : List W) (ov : OV) (Q : VK), Ok X.K ci s → Paired (CurV X.K ci s) xs ws → g ws = some ov → Acc X.K ci BS W' s (CE X.K ci s Q) (.ok ov s.env) → r xs s.H Q)
    (W' : WX) (s : Sta) (Q : VK) (ok : Ok X.K ci s) (h : Acc X.K ci BS W' s (CE X.K ci s Q) (fB g fr s.env)) : ta W' s.σ s.H fun vs H1 => r vs H1 Q := by
  refine qa W' s _ ok (h.bind.imp fun os env1 G1 H1 st1 ok1 h1 => ?_)
  intro vs reps
  have h1 : Acc X.K ci BS W' ⟨env1, s.σ, G1, H1⟩ (CE X.K ci s Q) (retOV ((getOVs os env1).bind g) env1) := h1
  cases e1 : getOVs os env1 with
  | none => rw [e1] at h1; exact h1.elim
  | some ws =>
    rw [e1] at h1
    have h1 : Acc X.K ci BS W' ⟨env1, s.σ, G1, H1⟩ (CE X.K ci s Q) (retOV (g ws) env1) := h1
    cases e2 : g ws with
    | none => rw [e2] at h1; exact h1.elim
    | some ov =>
      rw [e2] at h1
      refine qr W' ⟨env1, s.σ, G1, H1⟩ vs ws ov Q ok1 (curs_of ok1 reps e1) e2 (h1.imp fun ov' env4 G4 H4 st4 ok4 h4 z rz nz => h4 z rz (NewOV.back st1 nz))
theorem x_callB {id : String} {g : List W → Option OV} {x : Str} {p : Pos} (hc : CallS X ci BS (.builtin id) g) (hg : Gl X x) (hm : X.mg x = none) (hv : bootBuiltins x = some (.builtin id)) (ha : SndA X ci BS (e :: es) fr) (hn : x ≠ "__name__" := by decide) (hdb : (x == ("__debug__" : Str)) = false := by decide)
    (he : starEach (e :: es) X.env = (false, eval e X.env) :: starEach es X.env := by rfl) (hpl : (backTo pos (starEach es X.env)).any (·.1) = false := by rfl) : SndE X ci BS (.Call (.Name x p) (e :: es) [] pos) (fB g fr) := by
  obtain ⟨t, pp, q⟩ := ha.ex
  obtain ⟨r, pr, qr⟩ := hc
  exact ⟨⟨fun W' => tCB r (t W'), fun W' tk => pe_callB pr hg hm hv (pp W' tk) hn hdb he hpl, fun W' s Q ok h => call_core q qr W' s Q ok h⟩⟩
theorem x_callTy {T : String} {g : List W → Option OV} {x : Str} {p : Pos} (hc : CallS X ci BS (.type T) g) (hg : Gl X x) (hm : X.mg x = none) (hv : bootBuiltins x = some (.type T)) (ha : SndA X ci BS (e :: es) fr) (hn : x ≠ "__name__" := by decide) (hdb : (x == ("__debug__" : Str)) = false := by decide)
    (he : starEach (e :: es) X.env = (false, eval e X.env) :: starEach es X.env := by rfl) (hpl : (backTo pos (starEach es X.env)).any (·.1) = false := by rfl) : SndE X ci BS (.Call (.Name x p) (e :: es) [] pos) (fB g fr) := by
  obtain ⟨t, pp, q⟩ := ha.ex
  obtain ⟨r, pr, qr⟩ := hc
  exact ⟨⟨fun W' => tCB r (t W'), fun W' tk => pe_callTy pr hg hm hv (pp W' tk) hn hdb he hpl, fun W' s Q ok h => call_core q qr W' s Q ok h⟩⟩
end
end BV

set_option maxRecDepth 100000
set_option maxHeartbeats 4000000
/-! BV: operators and built-ins on plain data. -/
namespace BV
open PySem PySem.Spec L2

mutual
def toPy : W → Option PyData
  | .non => some .none
  | .bl b => some (.bool b)
  | .int i => some (.int i)
  | .str x => some (.str x)
  | .tup ws => (toPys ws).map .tuple
  | .lst ws => (toPys ws).map .list
  | .fz _ => none
  | .dct _ => none
  | .ins _ _ => none
def toPys : List W → Option (List PyData)
  | [] => some []
  | w :: ws => (toPy w).bind fun d => (toPys ws).map fun ds => d :: ds
end
section
variable {K : PySem.W.Frag} {ci : Nat → Addr} {G H : Hp}
mutual
theorem toPy_dp (e : Same G H) : ∀ {w : W} {v : V} {d : PyData}, RepV K ci G v w → toPy w = some d → Dp K H v d
  | .non, _, _, .non, q => by cases q; exact .non
  | .bl _, _, _, .bl b, q => by cases q; exact .bl b
  | .int _, _, _, .int b, q => by cases q; exact .int b
  | .str _, _, _, .str b, q => by cases q; exact .str b
  | .tup ws, _, d, .tup h r, q => by
    unfold toPy at q
    cases p : toPys ws with
    | none => rw [p] at q; cases q
    | some ds =>
      rw [p] at q
      cases q
      exact .tup (sqT_mono e h) (toPys_dp e r p)
  | .lst ws, _, d, .lst h r, q => by
    unfold toPy at q
    cases p : toPys ws with
    | none => rw [p] at q; cases q
    | some ds =>
      rw [p] at q
      cases q
      exact .lst (.inl (.inl (e _ _ h))) (toPys_dp e r p)
  | .fz _, _, _, _, q => by cases q
  | .dct _, _, _, _, q => by cases q
  | .ins _ _, _, _, _, q => by cases q
theorem toPys_dp (e : Same G H) : ∀ {ws : List W} {vs : List V} {ds : List PyData}, RepVs K ci G vs ws → toPys ws = some ds → DpAll K H vs ds
  | [], _, _, .nil, q => by cases q; exact .nil
  | w :: ws, _, _, .cons h r, q => by
    unfold toPys at q
    cases p : toPy w with
    | none => rw [p] at q; cases q
    | some d =>
      rw [p] at q
      have q : (toPys ws).map (fun ds => d :: ds) = some _ := q
      cases p2 : toPys ws with
      | none => rw [p2] at q; cases q
      | some ds =>
        rw [p2] at q
        cases q
        exact .cons (toPy_dp e h p) (toPys_dp e r p2)
end
theorem cur_dp {s : Sta} (ok : Ok K ci s) {v : V} {w : W} {d : PyData} (h : CurV K ci s v w) (q : toPy w = some d) : Dp K s.H v d := by
  rcases h with h | ⟨a, rfl, h⟩
  · exact toPy_dp ok.sub h q
  · cases h with
    | @lst vs ws h r =>
      unfold toPy at q
      cases p : toPys ws with
      | none => rw [p] at q; cases q
      | some ds =>
        rw [p] at q
        cases q
        exact .lst (.inl (.inl h)) (toPys_dp ok.sub r p)
    | _ => cases q
end

/-! ### the functions -/
def gI (f : Int → Int → W) : W → W → Option OV
  | .int i, .int j => some (.v (f i j))
  | _, _ => none
def gAdd : W → W → Option OV
  | .int i, .int j => some (.v (.int (i + j)))
  | .str x, .str y => if x.length + y.length ≤ 16777216 then some (.v (.str (x ++ y))) else none
  | .tup xs, .tup ys => if xs.length + ys.length ≤ 16777216 then some (.v (.tup (xs ++ ys))) else none
  | .lst xs, .lst ys => if xs.length + ys.length ≤ 16777216 then some (.n (.lst (xs ++ ys))) else none
  | _, _ => none
def gSub : W → W → Option OV := gI fun i j => .int (i - j)
def mulOk (i j : Int) : Bool := decide (-18446744073709551616 < i ∧ i < 18446744073709551616) || decide (-18446744073709551616 < j ∧ j < 18446744073709551616)
def gMul : W → W → Option OV
  | .int i, .int j => if mulOk i j = true then some (.v (.int (i * j))) else none
  | .tup xs, .int k => if 0 ≤ k ∧ k * xs.length ≤ 16777216 ∧ k < 16777217 then some (.v (.tup (List.replicate k.toNat xs).flatten)) else none
  | .lst xs, .int k => if 0 ≤ k ∧ k * xs.length ≤ 16777216 ∧ k < 9223372036854775808 then some (.n (.lst (List.replicate k.toNat xs).flatten)) else none
  | _, _ => none
def gMod : W → W → Option OV
  | .int i, .int j => if 0 < j then some (.v (.int (i % j))) else none
  | _, _ => none
def gDiv : W → W → Option OV
  | .int i, .int j => if 0 < j ∧ j < 340282366920938463463374607431768211456 then some (.v (.int (i / j))) else none
  | _, _ => none
def gPow : W → W → Option OV
  | .int i, .int j => if 0 ≤ j ∧ j ≤ 1000000 ∧ i.natAbs < 18446744073709551616 then some (.v (.int (i ^ j.toNat))) else none
  | _, _ => none
def gLt : W → W → Option OV := gI fun i j => .bl (decide (i < j))
def gLe : W → W → Option OV := gI fun i j => .bl (decide (i ≤ j))
def gGt : W → W → Option OV := gI fun i j => .bl (decide (j < i))
def gGe : W → W → Option OV := gI fun i j => .bl (decide (j ≤ i))
def pyEq (d e : PyData) : Option Bool := if SeqAt.shaped d = true ∧ SeqAt.shaped e = true then some (PyData.eqv d e) else none
def wEq (x y : W) : Option Bool := (toPy x).bind fun d => (toPy y).bind fun e => pyEq d e
def gEq (x y : W) : Option OV := (wEq x y).map fun b => .v (.bl b)
def gNe (x y : W) : Option OV := (wEq x y).map fun b => .v (.bl (!b))
def isNon : W → Bool
  | .non => true
  | _ => false
def isBl (b : Bool) : W → Bool
  | .bl c => c == b
  | _ => false
/-- x is None, x is True, x is False -/
def gIs (x y : W) : Option OV := match y with
  | .non => some (.v (.bl (isNon x)))
  | .bl b => some (.v (.bl (isBl b x)))
  | _ => none
def gIsNot (x y : W) : Option OV := match y with
  | .non => some (.v (.bl (!isNon x)))
  | .bl b => some (.v (.bl (!isBl b x)))
  | _ => none
/-- xs[i], t[i], s[i] -/
def gIx : W → W → Option OV
  | .lst xs, .int i => (atI xs i).map .v
  | .fz xs, .int i => (atI xs i).map .v
  | .tup xs, .int i => (atI xs i).map .v
  | .str z, .int i => if z.length ≤ 16777216 then (atI z.cps.toList i).map fun c => .v (.str ⟨#[c]⟩) else none
  | _, _ => none
def gLen : List W → Option OV
  | [.lst xs] => some (.v (.int xs.length))
  | [.fz xs] => some (.v (.int xs.length))
  | [.tup xs] => some (.v (.int xs.length))
  | [.str z] => if z.length ≤ 16777216 then some (.v (.int z.length)) else none
  | _ => none
def gInt : List W → Option OV
  | [.int i] => some (.v (.int i))
  | [.bl b] => some (.v (.int (if b then 1 else 0)))
  | _ => none
def gList : List W → Option OV
  | [.lst xs] => some (.n (.lst xs))
  | [.fz xs] => some (.n (.lst xs))
  | [.tup xs] => some (.n (.lst xs))
  | _ => none
def gTuple : List W → Option OV
  | [.lst xs] => some (.v (.tup xs))
  | [.fz xs] => some (.v (.tup xs))
  | [.tup xs] => some (.v (.tup xs))
  | _ => none
def bools : List W → Option (List Bool)
  | [] => some []
  | .bl b :: ws => (bools ws).map fun bs => b :: bs
  | _ :: _ => none
def gAll : List W → Option OV
  | [.lst xs] => (bools xs).map fun bs => .v (.bl (bs.all id))
  | _ => none
def gAny : List W → Option OV
  | [.lst xs] => (bools xs).map fun bs => .v (.bl (bs.any id))
  | _ => none
def gMin2 : List W → Option OV
  | [.int i, .int j] => some (.v (.int (if j < i then j else i)))
  | _ => none
def gMax2 : List W → Option OV
  | [.int i, .int j] => some (.v (.int (if j > i then j else i)))
  | _ => none
def gAbs : List W → Option OV
  | [.int i] => some (.v (.int (if i < 0 then -i else i)))
  | _ => none

section
variable {X : Cx} {ci : Nat → Addr} {BS : List Nat}
theorem opS_I {f : Value → Value → Sem Value} {k : Int → Int → V} {g : Int → Int → W} (ho : OpR X f (rI0 k)) (hk : ∀ {K : PySem.W.Frag} {G : Hp} i j, RepV K ci G (k i j) (g i j)) : OpS X ci BS f (gI g) := by
  refine ⟨_, ho, fun W' s x y wx wy ov Q ok cx cy e h => ?_⟩
  cases wx with
  | int i =>
    cases wy with
    | int j =>
      cases e
      exact ⟨i, j, cx.int, cy.int, ret_same ok h (hk i j)⟩
    | _ => cases e
  | _ => cases e
theorem o_sub : OpS X ci BS (binaryOp .Sub) gSub := opS_I op_sub fun _ _ => .int _
theorem o_lt : OpS X ci BS (compareOp .Lt) gLt := opS_I op_lt fun _ _ => .bl _
theorem o_le : OpS X ci BS (compareOp .LtE) gLe := opS_I op_le fun _ _ => .bl _
theorem o_gt : OpS X ci BS (compareOp .Gt) gGt := opS_I op_gt fun _ _ => .bl _
theorem o_ge : OpS X ci BS (compareOp .GtE) gGe := opS_I op_ge fun _ _ => .bl _
theorem o_mod : OpS X ci BS (binaryOp .Mod) gMod := by
  refine ⟨_, op_mod, fun W' s x y wx wy ov Q ok cx cy e h => ?_⟩
  cases wx with
  | int i =>
    cases wy with
    | int j =>
      unfold gMod at e
      by_cases c : 0 < j
      · dsimp only at e
        rw [if_pos c] at e
        cases e
        exact ⟨i, j, cx.int, cy.int, c, ret_same ok h (.int _)⟩
      · dsimp only at e
        rw [if_neg c] at e
        cases e
    | _ => cases e
  | _ => cases e
theorem op_fdivW : OpR X (binaryOp .FloorDiv) (rI (fun _ j => 0 < j ∧ j < 340282366920938463463374607431768211456) fun i j => .int (i / j)) := opI fun i j _ _ _ _ _ hc q => by
  have h1 : (0 : Int) < j := hc.1
  have h2 : j < 340282366920938463463374607431768211456 := hc.2
  refine PyProof.Rows.floordiv_int (by omega) (by rw [Int.fdiv_eq_ediv_of_nonneg i (by omega)]; exact q) (.inl (PyProof.noPylong_of_log2 ?_))
  have h3 : j.natAbs.log2 < 128 := (Nat.log2_lt (by omega)).mpr (by omega)
  omega
theorem o_div : OpS X ci BS (binaryOp .FloorDiv) gDiv := by
  refine ⟨_, op_fdivW, fun W' s x y wx wy ov Q ok cx cy e h => ?_⟩
  cases wx with
  | int i =>
    cases wy with
    | int j =>
      unfold gDiv at e
      by_cases c : 0 < j ∧ j < 340282366920938463463374607431768211456
      · dsimp only at e
        rw [if_pos c] at e
        cases e
        exact ⟨i, j, cx.int, cy.int, c, ret_same ok h (.int _)⟩
      · dsimp only at e
        rw [if_neg c] at e
        cases e
    | _ => cases e
  | _ => cases e
theorem o_pow : OpS X ci BS (binaryOp .Pow) gPow := by
  refine ⟨_, op_pow, fun W' s x y wx wy ov Q ok cx cy e h => ?_⟩
  cases wx with
  | int i =>
    cases wy with
    | int j =>
      unfold gPow at e
      by_cases c : 0 ≤ j ∧ j ≤ 1000000 ∧ i.natAbs < 18446744073709551616
      · dsimp only at e
        rw [if_pos c] at e
        cases e
        exact ⟨i, j, cx.int, cy.int, c, ret_same ok h (.int _)⟩
      · dsimp only at e
        rw [if_neg c] at e
        cases e
    | _ => cases e
  | _ => cases e
theorem reps_nil {K : PySem.W.Frag} {G : Hp} {ws : List W} (r : RepVs K ci G [] ws) : ws = [] := by cases r; rfl
theorem o_add : OpS X ci BS (binaryOp .Add) gAdd := by
  refine ⟨_, op_add.or (op_add_str.or (op_catA.or op_cat)), fun W' s x y wx wy ov Q ok cx cy e h => ?_⟩
  cases wx with
  | int i =>
    cases wy with
    | int j =>
      cases e
      exact .inl ⟨i, j, cx.int, cy.int, ret_same ok h (.int _)⟩
    | _ => cases e
  | str a =>
    cases wy with
    | str b =>
      unfold gAdd at e
      dsimp only at e
      by_cases c : a.length + b.length ≤ 16777216
      · rw [if_pos c] at e
        cases e
        exact .inr (.inl ⟨a, b, cx.str, cy.str, sz_le c, ret_same ok h (.str _)⟩)
      · rw [if_neg c] at e
        cases e
    | _ => cases e
  | tup xs =>
    cases wy with
    | tup ys =>
      unfold gAdd at e
      dsimp only at e
      by_cases c : xs.length + ys.length ≤ 16777216
      · rw [if_pos c] at e
        cases e
        obtain ⟨a, vs, rfl, h1, r1⟩ := cx.tup ok
        obtain ⟨b, us, rfl, h2, r2⟩ := cy.tup ok
        have l1 := r1.length
        have l2 := r2.length
        refine .inr (.inr (.inl ⟨a, b, vs, us, rfl, rfl, h1, h2, sz_le (by rw [l1, l2]; exact c), fun z => ?_, fun _ z => ?_, fun _ _ p hp => ret_tup ok h (r1.append r2) hp⟩))
        · subst z
          have z1 := reps_nil r1
          subst z1
          rcases cy with cy | ⟨_, _, cy⟩
          · exact ret_same ok h cy
          · cases cy
        · subst z
          have z1 := reps_nil r2
          subst z1
          rw [List.append_nil] at h
          rcases cx with cx | ⟨_, _, cx⟩
          · exact ret_same ok h cx
          · cases cx
      · rw [if_neg c] at e
        cases e
    | _ => cases e
  | lst xs =>
    cases wy with
    | lst ys =>
      unfold gAdd at e
      dsimp only at e
      by_cases c : xs.length + ys.length ≤ 16777216
      · rw [if_pos c] at e
        cases e
        obtain ⟨a, vs, rfl, h1, r1⟩ := cx.lst ok
        obtain ⟨b, us, rfl, h2, r2⟩ := cy.lst ok
        have l1 := r1.length
        have l2 := r2.length
        exact .inr (.inr (.inr ⟨a, b, vs, us, rfl, rfl, h1, h2, sz_le (by rw [l1, l2]; exact c), fun p hp => ret_lst ok h (r1.append r2) hp⟩))
      · rw [if_neg c] at e
        cases e
    | _ => cases e
  | _ => cases e
theorem o_eq (hu : X.A.units + 64 < cLine) : OpS X ci BS (compareOp .Eq) gEq := by
  refine ⟨_, op_eqD hu, fun W' s x y wx wy ov Q ok cx cy e h => ?_⟩
  unfold gEq wEq pyEq at e
  cases p : toPy wx with
  | none => rw [p] at e; cases e
  | some d =>
    cases q : toPy wy with
    | none => rw [p, q] at e; cases e
    | some d' =>
      rw [p, q] at e
      simp only [Option.bind_some] at e
      by_cases c : SeqAt.shaped d = true ∧ SeqAt.shaped d' = true
      · rw [if_pos c] at e
        cases e
        exact ⟨d, d', cur_dp ok cx p, cur_dp ok cy q, c.1, c.2, ret_same ok h (.bl _)⟩
      · rw [if_neg c] at e
        cases e
theorem o_ne (hu : X.A.units + 64 < cLine) : OpS X ci BS (compareOp .NotEq) gNe := by
  refine ⟨_, op_neD hu, fun W' s x y wx wy ov Q ok cx cy e h => ?_⟩
  unfold gNe wEq pyEq at e
  cases p : toPy wx with
  | none => rw [p] at e; cases e
  | some d =>
    cases q : toPy wy with
    | none => rw [p, q] at e; cases e
    | some d' =>
      rw [p, q] at e
      simp only [Option.bind_some] at e
      by_cases c : SeqAt.shaped d = true ∧ SeqAt.shaped d' = true
      · rw [if_pos c] at e
        cases e
        exact ⟨d, d', cur_dp ok cx p, cur_dp ok cy q, c.1, c.2, ret_same ok h (.bl _)⟩
      · rw [if_neg c] at e
        cases e
/-- x is True | False | None, whatever x is (no class, no built-in) -/
def rIsC (neg : Bool) : R2 := fun x y H Q => (∀ n, x ≠ .ty n) ∧ ((y = .non ∧ Q (.bl (neg ^^ decide (x = .non))) H) ∨ ∃ b, y = .bl b ∧ Q (.bl (neg ^^ decide (x = .bl b))) H)
theorem beq_non {x : V} {v : Value} (r : RelV x v) : (v == Value.none) = decide (x = .non) := r.none_iff
theorem beq_bool {x : V} {v : Value} {b : Bool} (r : RelV x v) (hn : ∀ n, x ≠ .ty n) : (v == Value.bool b) = decide (x = .bl b) := by
  cases x with
  | non => cases r; rfl
  | bl c => cases r; cases b <;> cases c <;> rfl
  | int _ => obtain ⟨t, rfl⟩ := r; rfl
  | str _ => obtain ⟨t, rfl⟩ := r; rfl
  | byt _ => obtain ⟨t, rfl⟩ := r; rfl
  | flt _ => obtain ⟨t, rfl⟩ := r; rfl
  | ref _ => cases r; rfl
  | ty n => exact absurd rfl (hn n)
theorem op_isC : OpR X (compareOp .Is) (rIsC false) := by
  intro pins s σ H x y v u Q I rx ry h
  obtain ⟨hn, ⟨rfl, q⟩ | ⟨b, rfl, q⟩⟩ := h
  · cases ry
    refine wpAny_is_plain ?_ ⟨.bl _, H, I, by rw [beq_non rx]; rfl, by rw [Bool.false_xor] at q; exact q⟩
    cases x with
    | non => cases rx; rfl
    | bl c => cases rx; rfl
    | int _ => obtain ⟨t, rfl⟩ := rx; rfl
    | str _ => obtain ⟨t, rfl⟩ := rx; rfl
    | byt _ => obtain ⟨t, rfl⟩ := rx; rfl
    | flt _ => obtain ⟨t, rfl⟩ := rx; rfl
    | ref _ => cases rx; rfl
    | ty n => exact absurd rfl (hn n)
  · cases ry
    refine wpAny_is_plain ?_ ⟨.bl _, H, I, by rw [beq_bool rx hn]; rfl, by rw [Bool.false_xor] at q; exact q⟩
    cases x with
    | non => cases rx; rfl
    | bl c => cases rx; rfl
    | int _ => obtain ⟨t, rfl⟩ := rx; rfl
    | str _ => obtain ⟨t, rfl⟩ := rx; rfl
    | byt _ => obtain ⟨t, rfl⟩ := rx; rfl
    | flt _ => obtain ⟨t, rfl⟩ := rx; rfl
    | ref _ => cases rx; rfl
    | ty n => exact absurd rfl (hn n)
theorem op_isNotC : OpR X (compareOp .IsNot) (rIsC true) := by
  intro pins s σ H x y v u Q I rx ry h
  obtain ⟨hn, ⟨rfl, q⟩ | ⟨b, rfl, q⟩⟩ := h
  · cases ry
    refine wpAny_isNot_plain ?_ ⟨.bl _, H, I, by rw [beq_non rx]; rfl, by rw [Bool.true_xor] at q; exact q⟩
    cases x with
    | non => cases rx; rfl
    | bl c => cases rx; rfl
    | int _ => obtain ⟨t, rfl⟩ := rx; rfl
    | str _ => obtain ⟨t, rfl⟩ := rx; rfl
    | byt _ => obtain ⟨t, rfl⟩ := rx; rfl
    | flt _ => obtain ⟨t, rfl⟩ := rx; rfl
    | ref _ => cases rx; rfl
    | ty n => exact absurd rfl (hn n)
  · cases ry
    refine wpAny_isNot_plain ?_ ⟨.bl _, H, I, by rw [beq_bool rx hn]; rfl, by rw [Bool.true_xor] at q; exact q⟩
    cases x with
    | non => cases rx; rfl
    | bl c => cases rx; rfl
    | int _ => obtain ⟨t, rfl⟩ := rx; rfl
    | str _ => obtain ⟨t, rfl⟩ := rx; rfl
    | byt _ => obtain ⟨t, rfl⟩ := rx; rfl
    | flt _ => obtain ⟨t, rfl⟩ := rx; rfl
    | ref _ => cases rx; rfl
    | ty n => exact absurd rfl (hn n)
theorem cur_noty {s : Sta} {x : V} {w : W} (c : CurV X.K ci s x w) : ∀ n, x ≠ .ty n := fun n z => by
  subst z
  rcases c with c | ⟨a, e, _⟩
  · cases c
  · cases e
theorem cur_isnon {s : Sta} {x : V} {w : W} (c : CurV X.K ci s x w) : decide (x = .non) = isNon w := by
  rcases c with c | ⟨a, rfl, c⟩
  · cases c <;> simp [isNon]
  · cases c <;> simp [isNon]
theorem cur_isbl {s : Sta} {x : V} {w : W} {b : Bool} (c : CurV X.K ci s x w) : decide (x = .bl b) = isBl b w := by
  rcases c with c | ⟨a, rfl, c⟩
  · cases c <;> first
      | (rename_i k; cases k <;> cases b <;> rfl)
      | simp [isBl]
  · cases c <;> simp [isBl]
theorem o_is : OpS X ci BS (compareOp .Is) gIs := by
  refine ⟨_, op_isC, fun W' s x y wx wy ov Q ok cx cy e h => ⟨cur_noty cx, ?_⟩⟩
  unfold gIs at e
  cases wy with
  | non =>
    cases e
    refine .inl ⟨cy.non, ?_⟩
    rw [Bool.false_xor, cur_isnon cx]
    exact ret_same ok h (.bl _)
  | bl b =>
    cases e
    refine .inr ⟨b, cy.bl, ?_⟩
    rw [Bool.false_xor, cur_isbl cx]
    exact ret_same ok h (.bl _)
  | _ => cases e
theorem o_isNot : OpS X ci BS (compareOp .IsNot) gIsNot := by
  refine ⟨_, op_isNotC, fun W' s x y wx wy ov Q ok cx cy e h => ⟨cur_noty cx, ?_⟩⟩
  unfold gIsNot at e
  cases wy with
  | non =>
    cases e
    refine .inl ⟨cy.non, ?_⟩
    rw [Bool.true_xor, cur_isnon cx]
    exact ret_same ok h (.bl _)
  | bl b =>
    cases e
    refine .inr ⟨b, cy.bl, ?_⟩
    rw [Bool.true_xor, cur_isbl cx]
    exact ret_same ok h (.bl _)
  | _ => cases e
end
end BV

set_option maxRecDepth 100000
set_option maxHeartbeats 4000000
/-! BV: tuple * int, subscripts, slices, built-ins. -/
namespace L2
open PySem PySem.Spec PyProof.Rows
/-- tuple * int: itself -/
theorem tuple_mulS (l : Addr) (items : Array Value) (n : Nat) (dd : Option Addr) (sl : Array (Option Value)) (x : Int) (u : Tok) (c0 : (decide (x < -(2 ^ 63)) || decide (x ≥ 2 ^ 63)) = false) (c1 : (items.isEmpty || x == 1) = true) :
    Meets (Builtin.«tuple.__mul__» ⟨[.ref l, .int x u], []⟩) (fun _ R s => s.heap.get? l = some { cls := .type "tuple", dict := dd, data := .seq items n, slots := sl } ∧ R (.ok (.ret (Value.ref l))) s) :=
  .of_wp fun prog w A R s h => by
    obtain ⟨hp, g, d, tk, os⟩ := s
    obtain ⟨hl, h⟩ := h
    have f1 := AutoSeq1.idx_int
    wp_walk using wpAny_loadPart' hl
    repeat (first
      | (refine wpAny_ite_false (decide_eq_false (by rw [c0]; exact Bool.false_ne_true)) ?_; wp_walk using wpAny_loadPart' hl)
      | (refine wpAny_ite_true (decide_eq_true c1) ?_; wp_walk using wpAny_loadPart' hl))
    exact ⟨_, rfl, h⟩
/-- tuple * int: nothing -/
theorem tuple_mul0 (l : Addr) (items : Array Value) (n : Nat) (dd : Option Addr) (sl : Array (Option Value)) (x : Int) (u : Tok) (c0 : (decide (x < -(2 ^ 63)) || decide (x ≥ 2 ^ 63)) = false) (c1 : (items.isEmpty || x == 1) = false) (c2 : (decide (x ≤ 0) || items.isEmpty) = true) :
    Meets (Builtin.«tuple.__mul__» ⟨[.ref l, .int x u], []⟩) (fun _ R s => s.heap.get? l = some { cls := .type "tuple", dict := dd, data := .seq items n, slots := sl } ∧
      R (.ok (.ret (Value.ref s.heap.objs.size))) { s with heap := s.heap.push { cls := Value.type "tuple", data := Data.seq #[] }, toks := s.toks }) :=
  .of_wp fun prog w A R s h => by
    obtain ⟨hp, g, d, tk, os⟩ := s
    obtain ⟨hl, h⟩ := h
    have f1 := AutoSeq1.idx_int
    wp_walk using wpAny_loadPart' hl
    repeat (first
      | (refine wpAny_ite_false (decide_eq_false (by rw [c0]; exact Bool.false_ne_true)) ?_; wp_walk using wpAny_loadPart' hl)
      | (refine wpAny_ite_false (decide_eq_false (by rw [c1]; exact Bool.false_ne_true)) ?_; wp_walk using wpAny_loadPart' hl)
      | (refine wpAny_ite_true (decide_eq_true c2) ?_; wp_walk using wpAny_loadPart' hl))
    exact ⟨_, rfl, h⟩
def rRepA (K : PySem.W.Frag) : R2 := fun x y H Q => ∃ l k xs, x = .ref l ∧ y = .int k ∧ SqT K H l xs ∧ 0 ≤ k ∧ k * xs.length ≤ 16777216 ∧ k < 16777217 ∧ ((xs = [] ∨ k = 1) → Q (.ref l) H) ∧ (xs ≠ [] → k ≠ 1 → ∀ p, H p = none → Q (.ref p) (upd H p (.tup (List.replicate k.toNat xs).flatten)))
theorem op_repA {X : Cx} : OpR X (binaryOp .Mult) (rRepA X.K) := by
  intro pins s σ H x y v u Q I rx ry h
  obtain ⟨l, k, xs, rfl, rfl, hT, h1, hz, h2, q1, q2⟩ := h
  cases rx
  obtain ⟨t, rfl⟩ := ry
  obtain ⟨its, r, ⟨⟨cls, dd, data, sl⟩, ho, hc, n, hd⟩, hs⟩ := I.tuple hT
  simp only at hc hd
  subst hc hd
  have hle : its.length = xs.length := r.length.symm
  have hie : its.toArray.isEmpty = xs.isEmpty := by
    cases its with
    | nil => cases r; rfl
    | cons a b => cases r; rfl
  have c0 : (decide (k < -(2 ^ 63)) || decide (k ≥ 2 ^ 63)) = false := by
    rw [decide_eq_false (by omega), decide_eq_false (by omega)] <;> rfl
  have hsz0 : its.toArray.size = xs.length := by rw [List.size_toArray, hle]
  by_cases hs1 : xs = [] ∨ k = 1
  · have c1 : (its.toArray.isEmpty || k == 1) = true := by
      rw [hie]
      rcases hs1 with z | z
      · subst z; rfl
      · subst z
        rw [Bool.or_eq_true]
        exact .inr rfl
    refine wpAny_binaryOp_repeat_ref (T := "tuple") (U := "int") (by decide) ⟨_, ho, rfl⟩ (fun s' => typeIs_int s' k t) noFill_tuple_mul F.fills_int_mul F.slot_int_rmul repeat_tuple F.slot_int_index.lookup
      (call_meets F.slot_int_rmul (typeIs_int s k t) F.entry_int_rmul (F.args_int_rmul_2 _ _) (int_rmul_tuple k t l its.toArray n dd sl)
        ⟨ho, rfl, ⟨_, ho, rfl⟩, call_meets F.slot_tuple_mul ⟨_, ho, rfl⟩ F.entry_tuple_mul (F.args_tuple_mul_2 _ _) (tuple_mulS l its.toArray n dd sl k t c0 c1) ⟨ho, ?_⟩⟩)
    exact ⟨.ref l, H, I, rfl, q1 hs1⟩
  · have hne : xs ≠ [] := fun z => hs1 (.inl z)
    have hk1 : k ≠ 1 := fun z => hs1 (.inr z)
    have hi : its.toArray.isEmpty = false := by
      rw [hie]
      cases xs with
      | nil => exact absurd rfl hne
      | cons a b => rfl
    have c1 : (its.toArray.isEmpty || k == 1) = false := by
      rw [hi, Bool.false_or]
      exact beq_eq_false_iff_ne.mpr hk1
    have fin : ∀ (h' : Heap) (its' : List Value), h' = s.heap.push { cls := .type "tuple", data := .seq its'.toArray } → Vals (List.replicate k.toNat xs).flatten its' → EP X pins σ Q (.ref s.heap.objs.size) { s with heap := h' } := fun h' its' e rv => by
      subst e
      refine ⟨.ref s.heap.objs.size, _, I.laid (t' := s.toks) (o := .tup (List.replicate k.toNat xs).flatten) (fun b ob q => Heap.get?_push_of_some _ q) (Nat.le_refl _) ?_, rfl, q2 hne hk1 _ (I.hok.fresh (Nat.le_refl _))⟩
      refine ⟨?_, _, rv, IsTup.new _ _⟩
      rw [PyProof.Rows.lm_len_rep_flat, sizeLine_eq]
      have a1 : ((k.toNat * xs.length : Nat) : Int) ≤ 16777216 := by
        rw [Int.natCast_mul, Int.toNat_of_nonneg h1]
        exact hz
      omega
    by_cases hk0 : k ≤ 0
    · have c2 : (decide (k ≤ 0) || its.toArray.isEmpty) = true := by
        rw [decide_eq_true hk0] <;> rfl
      refine wpAny_binaryOp_repeat_ref (T := "tuple") (U := "int") (by decide) ⟨_, ho, rfl⟩ (fun s' => typeIs_int s' k t) noFill_tuple_mul F.fills_int_mul F.slot_int_rmul repeat_tuple F.slot_int_index.lookup
        (call_meets F.slot_int_rmul (typeIs_int s k t) F.entry_int_rmul (F.args_int_rmul_2 _ _) (int_rmul_tuple k t l its.toArray n dd sl)
          ⟨ho, rfl, ⟨_, ho, rfl⟩, call_meets F.slot_tuple_mul ⟨_, ho, rfl⟩ F.entry_tuple_mul (F.args_tuple_mul_2 _ _) (tuple_mul0 l its.toArray n dd sl k t c0 c1 c2) ⟨ho, ?_⟩⟩)
      have e0 : k.toNat = 0 := by omega
      exact fin _ [] rfl (by rw [e0]; exact .nil)
    · have c2 : (decide (k ≤ 0) || its.toArray.isEmpty) = false := by
        rw [hi, Bool.or_false]
        exact decide_eq_false (by omega)
      have hm : ((its.toArray.size : Nat) : Int) * k ≤ 16777216 := by
        rw [hsz0, Int.mul_comm]
        exact hz
      have flen : (List.replicate k.toNat its).flatten.length ≤ sizeLine := by
        rw [PyProof.Rows.lm_len_rep_flat, hle, sizeLine_eq]
        have a1 : ((k.toNat * xs.length : Nat) : Int) ≤ 16777216 := by
          rw [Int.natCast_mul, Int.toNat_of_nonneg h1]
          exact hz
        omega
      have c4 : Builtin.Tuple.tupleTooMany (((its.toArray.size : Nat) : Int) * k) = false := by
        unfold Builtin.Tuple.tupleTooMany
        rw [sizeLine_eq]
        exact decide_eq_false (by omega)
      refine wpAny_binaryOp_repeat_ref (T := "tuple") (U := "int") (by decide) ⟨_, ho, rfl⟩ (fun s' => typeIs_int s' k t) noFill_tuple_mul F.fills_int_mul F.slot_int_rmul repeat_tuple F.slot_int_index.lookup
        (call_meets F.slot_int_rmul (typeIs_int s k t) F.entry_int_rmul (F.args_int_rmul_2 _ _) (int_rmul_tuple k t l its.toArray n dd sl)
          ⟨ho, rfl, ⟨_, ho, rfl⟩, call_meets F.slot_tuple_mul ⟨_, ho, rfl⟩ F.entry_tuple_mul (F.args_tuple_mul_2 _ _) (tuple_mulW l its.toArray n dd sl k t c0 c1 c2 (by omega) c4 (by rw [size_rep, List.size_toArray]; exact flen)) ⟨ho, ?_⟩⟩)
      rw [size_rep]
      exact fin _ _ rfl (r.rep k.toNat)
end L2
namespace BV
open PySem PySem.Spec L2
section
variable {K : PySem.W.Frag} {ci : Nat → Addr} {G : Hp}
theorem reps_rep {vs : List V} {ws : List W} (r : RepVs K ci G vs ws) : ∀ n : Nat, RepVs K ci G (List.replicate n vs).flatten (List.replicate n ws).flatten
  | 0 => .nil
  | n + 1 => by
    rw [List.replicate_succ, List.replicate_succ, List.flatten_cons, List.flatten_cons]
    exact r.append (reps_rep r n)
end
section
variable {X : Cx} {ci : Nat → Addr} {BS : List Nat}
theorem mulOk_is {i j : Int} (h : mulOk i j = true) : CMul i j := by
  unfold mulOk at h
  rw [Bool.or_eq_true, decide_eq_true_eq, decide_eq_true_eq] at h
  exact h
theorem o_mul : OpS X ci BS (binaryOp .Mult) gMul := by
  refine ⟨_, op_mul.or (op_repA.or op_rep), fun W' s x y wx wy ov Q ok cx cy e h => ?_⟩
  cases wx with
  | int i =>
    cases wy with
    | int j =>
      unfold gMul at e
      dsimp only at e
      by_cases c : mulOk i j = true
      · rw [if_pos c] at e
        cases e
        exact .inl ⟨i, j, cx.int, cy.int, mulOk_is c, ret_same ok h (.int _)⟩
      · rw [if_neg c] at e
        cases e
    | _ => cases e
  | tup xs =>
    cases wy with
    | int k =>
      unfold gMul at e
      dsimp only at e
      by_cases c : 0 ≤ k ∧ k * xs.length ≤ 16777216 ∧ k < 16777217
      · rw [if_pos c] at e
        cases e
        obtain ⟨a, vs, rfl, h1, r1⟩ := cx.tup ok
        have l1 := r1.length
        refine .inr (.inl ⟨a, k, vs, rfl, cy.int, h1, c.1, by rw [l1]; exact c.2.1, c.2.2, fun z => ?_, fun _ _ p hp => ret_tup ok h (reps_rep r1 _) hp⟩)
        have e1 : (List.replicate k.toNat xs).flatten = xs := by
          rcases z with z | z
          · subst z
            have z1 := reps_nil r1
            subst z1
            simp
          · subst z
            simp
        rw [e1] at h
        rcases cx with cx | ⟨_, _, cx⟩
        · exact ret_same ok h cx
        · cases cx
      · rw [if_neg c] at e
        cases e
    | _ => cases e
  | lst xs =>
    cases wy with
    | int k =>
      unfold gMul at e
      dsimp only at e
      by_cases c : 0 ≤ k ∧ k * xs.length ≤ 16777216 ∧ k < 9223372036854775808
      · rw [if_pos c] at e
        cases e
        obtain ⟨a, vs, rfl, h1, r1⟩ := cx.lst ok
        have l1 := r1.length
        refine .inr (.inr ⟨a, k, vs, rfl, cy.int, h1, by omega, c.2.2, ?_, fun p hp => ret_lst ok h (reps_rep r1 _) hp⟩)
        rw [sizeLine_eq, l1]
        have a1 : ((xs.length * k.toNat : Nat) : Int) ≤ 16777216 := by
          rw [Int.natCast_mul, Int.toNat_of_nonneg c.1, Int.mul_comm]
          exact c.2.1
        omega
      · rw [if_neg c] at e
        cases e
    | _ => cases e
  | _ => cases e
/-! ### subscripts -/
def IxS (X : Cx) (ci : Nat → Addr) (BS : List Nat) (g : W → W → Option OV) : Prop := ∃ r : R2, IxR X r ∧ ∀ (W' : WX) (s : Sta) (x y : V) (wx wy : W) (ov : OV) (Q : VK),
  Ok X.K ci s → CurV X.K ci s x wx → CurV X.K ci s y wy → g wx wy = some ov → Acc X.K ci BS W' s (CE X.K ci s Q) (.ok ov s.env) → r x y s.H Q
theorem atI_reps {K : PySem.W.Frag} {G : Hp} {vs : List V} {ws : List W} {i : Int} {w : W} (r : RepVs K ci G vs ws) (h : atI ws i = some w) : ∃ v, atI vs i = some v ∧ RepV K ci G v w := by
  unfold atI at h ⊢
  rw [r.length]
  cases e : ixN ws.length i with
  | none => rw [e] at h; cases h
  | some j =>
    rw [e] at h
    exact r.get' h
theorem ix_all : IxS X ci BS gIx := by
  refine ⟨_, ix_seq, fun W' s x y wx wy ov Q ok cx cy e h => ?_⟩
  cases wx with
  | lst xs =>
    cases wy with
    | int i =>
      unfold gIx at e
      dsimp only at e
      cases q : atI xs i with
      | none => rw [q] at e; cases e
      | some w =>
        rw [q] at e
        cases e
        obtain ⟨a, vs, rfl, h1, r1⟩ := cx.lst ok
        obtain ⟨v, q1, q2⟩ := atI_reps r1 q
        exact .inl ⟨a, vs, i, v, rfl, cy.int, .inl (.inl h1), q1, ret_same ok h q2⟩
    | _ => cases e
  | fz xs =>
    cases wy with
    | int i =>
      unfold gIx at e
      dsimp only at e
      cases q : atI xs i with
      | none => rw [q] at e; cases e
      | some w =>
        rw [q] at e
        cases e
        obtain ⟨a, vs, rfl, h1, r1⟩ := cx.fz ok
        obtain ⟨v, q1, q2⟩ := atI_reps r1 q
        exact .inl ⟨a, vs, i, v, rfl, cy.int, h1, q1, ret_same ok h q2⟩
    | _ => cases e
  | tup xs =>
    cases wy with
    | int i =>
      unfold gIx at e
      dsimp only at e
      cases q : atI xs i with
      | none => rw [q] at e; cases e
      | some w =>
        rw [q] at e
        cases e
        obtain ⟨a, vs, rfl, h1, r1⟩ := cx.tup ok
        obtain ⟨v, q1, q2⟩ := atI_reps r1 q
        exact .inr (.inl ⟨a, vs, i, v, rfl, cy.int, h1, q1, ret_same ok h q2⟩)
    | _ => cases e
  | str z =>
    cases wy with
    | int i =>
      unfold gIx at e
      dsimp only at e
      by_cases c : z.length ≤ 16777216
      · rw [if_pos c] at e
        cases q : atI z.cps.toList i with
        | none => rw [q] at e; cases e
        | some w =>
          rw [q] at e
          cases e
          exact .inr (.inr ⟨z, i, w, cx.str, cy.int, sz_le c, q, ret_same ok h (.str _)⟩)
      · rw [if_neg c] at e
        cases e
    | _ => cases e
  | _ => cases e
theorem x_ix {a b : Expr} {fa fb : EF} {pos : Pos} {g : W → W → Option OV} (ho : IxS X ci BS g) (ha : SndE X ci BS a fa) (hb : SndE X ci BS b fb) (hs : PlainIx b := by exact fun _ _ => rfl) : SndE X ci BS (.Subscript a b pos) (fOp g fa fb) := by
  obtain ⟨ta, pa, qa⟩ := ha.ex
  obtain ⟨tb, pb, qb⟩ := hb.ex
  obtain ⟨r, pr, qr⟩ := ho
  exact ⟨⟨fun W' => tOp r (ta W') (tb W'), fun W' tk => pe_ix pr (pa W' tk) (pb W' tk) hs, fun W' s Q ok h => op_core qa qb qr W' s Q ok h⟩⟩
/-! ### slices -/
def cutL {α : Type} (xs : List α) (lo hi : Option Int) : List α := (xs.drop (HT.sIx xs.length 0 lo)).take (HT.sIx xs.length xs.length hi - HT.sIx xs.length 0 lo)
theorem reps_cut {K : PySem.W.Frag} {G : Hp} {vs : List V} {ws : List W} (r : RepVs K ci G vs ws) (lo hi : Option Int) : RepVs K ci G (cutV vs lo hi) (cutL ws lo hi) := by
  unfold cutV cutL
  rw [r.length]
  exact (r.drop _).take _
def gSl (w : W) (lo hi : Option Int) : Option OV := match w with
  | .lst xs => some (.n (.lst (cutL xs lo hi)))
  | .fz xs => some (.n (.lst (cutL xs lo hi)))
  | .tup xs => some (.v (.tup (cutL xs lo hi)))
  | .str z => if z.length ≤ 16777216 then some (.v (.str (cutS z lo hi))) else none
  | _ => none
abbrev OF := Ev → Res (Option Int)
structure SndO (X : Cx) (ci : Nat → Addr) (BS : List Nat) (e : Option Expr) (f : OF) : Prop where
  ex : ∃ te : WX → TO, (∀ W', Takes X W' → PO X e (te W')) ∧ ∀ (W' : WX) (s : Sta) (Q : Option Int → Hp → Prop), Ok X.K ci s → Acc X.K ci BS W' s (fun o s' => Q o s'.H) (f s.env) → te W' s.σ s.H Q
def fNoPart : OF := fun env => .ok none env
def asI : W → Option Int
  | .int i => some i
  | _ => none
def fPart (f : EF) : OF := fun env => (f env).bind fun ov env => match (getOV ov env).bind asI with
  | some i => .ok (some i) env
  | none => .bad
def fSl (f : EF) (l h : OF) : EF := fun env => (f env).bind fun x env => (l env).bind fun lo env => (h env).bind fun hi env => retOV ((getOV x env).bind fun w => gSl w lo hi) env
theorem so_none : SndO X ci BS none fNoPart := ⟨⟨fun _ => tNoPart, fun _ _ => po_none, fun W' s Q ok h => h s.G s.H Step.refl ok⟩⟩
theorem so_some {e : Expr} {f : EF} (ha : SndE X ci BS e f) : SndO X ci BS (some e) (fPart f) := by
  obtain ⟨ta, pa, qa⟩ := ha.ex
  refine ⟨⟨fun W' => tPart (ta W'), fun W' tk => po_some (pa W' tk), fun W' s Q ok h => ?_⟩⟩
  refine qa W' s _ ok (h.bind.imp fun ov env1 G1 H1 st1 ok1 h1 => ?_)
  intro v rep new
  cases e1 : getOV ov env1 with
  | none => dsimp only at h1; rw [e1] at h1; exact h1.elim
  | some w =>
    dsimp only at h1
    rw [e1] at h1
    cases w with
    | int i => exact ⟨i, (cur_of ok1 rep e1).int, h1 G1 H1 Step.refl ok1⟩
    | _ => exact h1.elim
theorem x_slice {e : Expr} {lo hi : Option Expr} {f : EF} {l h' : OF} {p2 pos : Pos} (he : SndE X ci BS e f) (hl : SndO X ci BS lo l) (hh : SndO X ci BS hi h') : SndE X ci BS (.Subscript e (.Slice lo hi none p2) pos) (fSl f l h') := by
  obtain ⟨t1, p1, q1⟩ := he.ex
  obtain ⟨t2, pp2, q2⟩ := hl.ex
  obtain ⟨t3, p3, q3⟩ := hh.ex
  refine ⟨⟨fun W' => tSl _ (t1 W') (t2 W') (t3 W'), fun W' tk => pe_slice (sl_list.or (sl_tupA.or sl_str)) (p1 W' tk) (pp2 W' tk) (p3 W' tk), fun W' s Q ok h => ?_⟩⟩
  refine q1 W' s _ ok (h.bind.imp fun ox env1 G1 H1 st1 ok1 h1 => ?_)
  intro v rep new
  refine q2 W' ⟨env1, s.σ, G1, H1⟩ _ ok1 (h1.bind.imp fun lo env2 G2 H2 st2 ok2 h2 => ?_)
  refine q3 W' ⟨env2, s.σ, G2, H2⟩ _ ok2 (h2.bind.imp fun hi env3 G3 H3 st3 ok3 h3 => ?_)
  have rep' : RepOV X.K ci ⟨env3, s.σ, G3, H3⟩ v ox := rep.step (Step.trans st2 st3)
  have h3 : Acc X.K ci BS W' ⟨env3, s.σ, G3, H3⟩ (CE X.K ci s Q) (retOV ((getOV ox env3).bind fun w => gSl w lo hi) env3) := h3
  cases e1 : getOV ox env3 with
  | none => rw [e1] at h3; exact h3.elim
  | some w =>
    rw [e1] at h3
    have h3 : Acc X.K ci BS W' ⟨env3, s.σ, G3, H3⟩ (CE X.K ci s Q) (retOV (gSl w lo hi) env3) := h3
    have c := cur_of ok3 rep' e1
    have fin : ∀ {r : Res OV}, Acc X.K ci BS W' ⟨env3, s.σ, G3, H3⟩ (CE X.K ci s Q) r → Acc X.K ci BS W' ⟨env3, s.σ, G3, H3⟩ (CE X.K ci ⟨env3, s.σ, G3, H3⟩ Q) r := fun hr => hr.imp fun ov' env2 G2 H2 st4 ok2 h3 z rz nz => h3 z rz (NewOV.back (Step.trans st1 (Step.trans st2 st3)) nz)
    cases w with
    | lst xs =>
      obtain ⟨a, vs, rfl, hh1, r1⟩ := c.lst ok3
      exact .inl ⟨a, vs, rfl, .inl (.inl hh1), fun p hp => ret_lst (W' := W') (s := ⟨env3, s.σ, G3, H3⟩) ok3 (fin h3) (reps_cut r1 lo hi) hp⟩
    | fz xs =>
      obtain ⟨a, vs, rfl, hh1, r1⟩ := c.fz ok3
      exact .inl ⟨a, vs, rfl, hh1, fun p hp => ret_lst (W' := W') (s := ⟨env3, s.σ, G3, H3⟩) ok3 (fin h3) (reps_cut r1 lo hi) hp⟩
    | tup xs =>
      obtain ⟨a, vs, rfl, hh1, r1⟩ := c.tup ok3
      refine .inr (.inl ⟨a, vs, rfl, hh1, fun z => ?_, fun _ p hp => ret_tup (W' := W') (s := ⟨env3, s.σ, G3, H3⟩) ok3 (fin h3) (reps_cut r1 lo hi) hp⟩)
      have e2 : cutL xs lo hi = xs := by
        unfold cutL
        rw [← r1.length, z.1, z.2, r1.length]
        simp
      have h3' := fin h3
      have h4 : Acc X.K ci BS W' ⟨env3, s.σ, G3, H3⟩ (CE X.K ci ⟨env3, s.σ, G3, H3⟩ Q) (.ok (.v (.tup (cutL xs lo hi))) env3) := h3'
      rw [e2] at h4
      rcases c with c | ⟨_, _, c⟩
      · exact ret_same (W' := W') (s := ⟨env3, s.σ, G3, H3⟩) ok3 h4 c
      · cases c
    | str z =>
      unfold gSl at h3
      dsimp only at h3
      by_cases hz : z.length ≤ 16777216
      · rw [if_pos hz] at h3
        exact .inr (.inr ⟨z, c.str, sz_le hz, ret_same (W' := W') (s := ⟨env3, s.σ, G3, H3⟩) ok3 (fin h3) (.str _)⟩)
      · rw [if_neg hz] at h3
        exact h3.elim
    | _ => exact h3.elim
end
end BV

set_option maxRecDepth 100000
set_option maxHeartbeats 4000000
/-! BV: built-ins that are called; isinstance. -/
namespace BV
open PySem PySem.Spec L2
section
variable {X : Cx} {ci : Nat → Addr} {BS : List Nat}
theorem cur1 {s : Sta} {xs : List V} {w : W} (h : Paired (CurV X.K ci s) xs [w]) : ∃ x, xs = [x] ∧ CurV X.K ci s x w := by
  cases h with
  | cons r t => cases t; exact ⟨_, rfl, r⟩
theorem cur2 {s : Sta} {xs : List V} {w u : W} (h : Paired (CurV X.K ci s) xs [w, u]) : ∃ x y, xs = [x, y] ∧ CurV X.K ci s x w ∧ CurV X.K ci s y u := by
  cases h with
  | cons r t =>
    obtain ⟨y, rfl, q⟩ := cur1 t
    exact ⟨_, y, rfl, r, q⟩
theorem b_len : CallS X ci BS (.builtin "len") gLen := by
  refine ⟨_, call_len_seq.or call_len_str, fun W' s xs ws ov Q ok cx e h => ?_⟩
  match ws, e with
  | [.lst ys], e =>
    cases e
    obtain ⟨x, rfl, c⟩ := cur1 cx
    obtain ⟨a, vs, rfl, h1, r1⟩ := c.lst ok
    refine .inl ⟨a, vs, rfl, .inl (.inl (.inl h1)), ?_⟩
    rw [r1.length]
    exact ret_same ok h (.int _)
  | [.fz ys], e =>
    cases e
    obtain ⟨x, rfl, c⟩ := cur1 cx
    obtain ⟨a, vs, rfl, h1, r1⟩ := c.fz ok
    refine .inl ⟨a, vs, rfl, .inl h1, ?_⟩
    rw [r1.length]
    exact ret_same ok h (.int _)
  | [.tup ys], e =>
    cases e
    obtain ⟨x, rfl, c⟩ := cur1 cx
    obtain ⟨a, vs, rfl, h1, r1⟩ := c.tup ok
    refine .inl ⟨a, vs, rfl, .inr h1, ?_⟩
    rw [r1.length]
    exact ret_same ok h (.int _)
  | [.str z], e =>
    unfold gLen at e
    dsimp only at e
    by_cases hz : z.length ≤ 16777216
    · rw [if_pos hz] at e
      cases e
      obtain ⟨x, rfl, c⟩ := cur1 cx
      exact .inr ⟨z, by rw [c.str], sz_le hz, ret_same ok h (.int _)⟩
    · rw [if_neg hz] at e
      cases e
theorem b_int : CallS X ci BS (.type "int") gInt := by
  refine ⟨_, call_int1, fun W' s xs ws ov Q ok cx e h => ?_⟩
  match ws, e with
  | [.int i], e =>
    cases e
    obtain ⟨x, rfl, c⟩ := cur1 cx
    exact .inl ⟨i, by rw [c.int], ret_same ok h (.int _)⟩
  | [.bl b], e =>
    cases e
    obtain ⟨x, rfl, c⟩ := cur1 cx
    exact .inr ⟨b, by rw [c.bl], ret_same ok h (.int _)⟩
theorem b_list : CallS X ci BS (.type "list") gList := by
  refine ⟨_, call_list_of, fun W' s xs ws ov Q ok cx e h => ?_⟩
  match ws, e with
  | [.lst ys], e =>
    cases e
    obtain ⟨x, rfl, c⟩ := cur1 cx
    obtain ⟨a, vs, rfl, h1, r1⟩ := c.lst ok
    exact ⟨a, vs, rfl, .inl (.inl (.inl h1)), fun p hp => ret_lst ok h r1 hp⟩
  | [.fz ys], e =>
    cases e
    obtain ⟨x, rfl, c⟩ := cur1 cx
    obtain ⟨a, vs, rfl, h1, r1⟩ := c.fz ok
    exact ⟨a, vs, rfl, .inl h1, fun p hp => ret_lst ok h r1 hp⟩
  | [.tup ys], e =>
    cases e
    obtain ⟨x, rfl, c⟩ := cur1 cx
    obtain ⟨a, vs, rfl, h1, r1⟩ := c.tup ok
    exact ⟨a, vs, rfl, .inr h1, fun p hp => ret_lst ok h r1 hp⟩
theorem b_tuple : CallS X ci BS (.type "tuple") gTuple := by
  refine ⟨_, call_tuple_of, fun W' s xs ws ov Q ok cx e h => ?_⟩
  match ws, e with
  | [.lst ys], e =>
    cases e
    obtain ⟨x, rfl, c⟩ := cur1 cx
    obtain ⟨a, vs, rfl, h1, r1⟩ := c.lst ok
    exact ⟨a, vs, rfl, .inl ⟨.inl (.inl h1), fun p hp => ret_tup ok h r1 hp⟩⟩
  | [.fz ys], e =>
    cases e
    obtain ⟨x, rfl, c⟩ := cur1 cx
    obtain ⟨a, vs, rfl, h1, r1⟩ := c.fz ok
    exact ⟨a, vs, rfl, .inl ⟨h1, fun p hp => ret_tup ok h r1 hp⟩⟩
  | [.tup ys], e =>
    cases e
    obtain ⟨x, rfl, c⟩ := cur1 cx
    obtain ⟨a, vs, rfl, h1, r1⟩ := c.tup ok
    refine ⟨a, vs, rfl, .inr ⟨h1, ?_⟩⟩
    rcases c with c | ⟨_, _, c⟩
    · exact ret_same ok h c
    · cases c
theorem bools_of {K : PySem.W.Frag} {G : Hp} : ∀ {vs : List V} {ws : List W} {bs : List Bool}, RepVs K ci G vs ws → bools ws = some bs → vs = bs.map V.bl
  | _, _, _, .nil, e => by cases e; rfl
  | v :: vs, w :: ws, bs, .cons r t, e => by
    cases w with
    | bl b =>
      unfold bools at e
      cases q : bools ws with
      | none => rw [q] at e; cases e
      | some cs =>
        rw [q] at e
        cases e
        cases r
        rw [bools_of t q]
        rfl
    | _ => cases e
theorem b_all (hc : X.calm = true := by rfl) : CallS X ci BS (.builtin "all") gAll := by
  refine ⟨_, cr_all hc, fun W' s xs ws ov Q ok cx e h => ?_⟩
  match ws, e with
  | [.lst ys], e =>
    unfold gAll at e
    dsimp only at e
    cases q : bools ys with
    | none => rw [q] at e; cases e
    | some bs =>
      rw [q] at e
      cases e
      obtain ⟨x, rfl, c⟩ := cur1 cx
      obtain ⟨a, vs, rfl, h1, r1⟩ := c.lst ok
      exact ⟨a, bs, rfl, by rw [← bools_of r1 q]; exact .inl (.inl h1), ret_same ok h (.bl _)⟩
theorem b_any (hc : X.calm = true := by rfl) : CallS X ci BS (.builtin "any") gAny := by
  refine ⟨_, cr_any hc, fun W' s xs ws ov Q ok cx e h => ?_⟩
  match ws, e with
  | [.lst ys], e =>
    unfold gAny at e
    dsimp only at e
    cases q : bools ys with
    | none => rw [q] at e; cases e
    | some bs =>
      rw [q] at e
      cases e
      obtain ⟨x, rfl, c⟩ := cur1 cx
      obtain ⟨a, vs, rfl, h1, r1⟩ := c.lst ok
      exact ⟨a, bs, rfl, by rw [← bools_of r1 q]; exact .inl (.inl h1), ret_same ok h (.bl _)⟩
theorem b_min2 (hc : X.calm = true := by rfl) : CallS X ci BS (.builtin "min") gMin2 := by
  refine ⟨_, call_min2 hc, fun W' s xs ws ov Q ok cx e h => ?_⟩
  match ws, e with
  | [.int i, .int j], e =>
    cases e
    obtain ⟨x, y, rfl, c, d⟩ := cur2 cx
    exact ⟨i, j, by rw [c.int, d.int], ret_same ok h (.int _)⟩
theorem b_max2 (hc : X.calm = true := by rfl) : CallS X ci BS (.builtin "max") gMax2 := by
  refine ⟨_, call_max2 hc, fun W' s xs ws ov Q ok cx e h => ?_⟩
  match ws, e with
  | [.int i, .int j], e =>
    cases e
    obtain ⟨x, y, rfl, c, d⟩ := cur2 cx
    exact ⟨i, j, by rw [c.int, d.int], ret_same ok h (.int _)⟩
theorem b_abs : CallS X ci BS (.builtin "abs") gAbs := by
  refine ⟨_, call_abs, fun W' s xs ws ov Q ok cx e h => ?_⟩
  match ws, e with
  | [.int i], e =>
    cases e
    obtain ⟨x, rfl, c⟩ := cur1 cx
    exact ⟨i, by rw [c.int], ret_same ok h (.int _)⟩
/-! ### isinstance -/
/-- the built-in type's name -/
def tyN : W → Option String
  | .non => some "NoneType"
  | .bl _ => some "bool"
  | .int _ => some "int"
  | .str _ => some "str"
  | .tup _ => some "tuple"
  | .lst _ => some "list"
  | .dct _ => some "dict"
  | _ => none
theorem ty_of {s : Sta} (ok : Ok X.K ci s) {v : V} {w : W} {n : String} (c : CurV X.K ci s v w) (e : tyN w = some n) : TyX X.K s.H v (.type n) := by
  rcases c with c | ⟨a, rfl, c⟩
  · cases c with
    | non => cases e; exact .base .non
    | bl b => cases e; exact .base (.bl b)
    | int b => cases e; exact .base (.int b)
    | str b => cases e; exact .base (.str b)
    | tup h r =>
      cases e
      rcases sqT_mono ok.sub h with (h | ⟨o, h⟩) | ⟨o, its, n, h, hc, _⟩
      · exact .base (.tup h)
      · exact .fTuple h
      · exact .kTuple h hc
    | lst h r => cases e; exact .base (.lst (ok.sub _ _ h))
    | fz h r => cases e
    | dK h r => cases e; exact .base (.dK (ok.sub _ _ h))
    | dT h r => cases e; exact .base (.dT (ok.sub _ _ h))
    | ins h r => cases e
  · cases c with
    | lst h r => cases e; exact .base (.lst h)
    | dK h r => cases e; exact .base (.dK h)
    | dT h r => cases e; exact .base (.dT h)
    | ins h r => cases e
/-- isinstance(x, T), T told by a table of names -/
def gIsi (t : String → Option Bool) : List W → Option OV
  | [w] => (tyN w).bind fun n => (t n).map fun b => .v (.bl b)
  | _ => none
def tInt : String → Option Bool := fun n => if n = "int" ∨ n = "bool" then some true else if n = "NoneType" ∨ n = "str" ∨ n = "tuple" ∨ n = "list" ∨ n = "dict" then some false else none
def tOne (T : String) : String → Option Bool := fun n => if n = T then some true else if n = "NoneType" ∨ n = "str" ∨ n = "tuple" ∨ n = "list" ∨ n = "dict" ∨ n = "int" ∨ n = "bool" then some false else none
def Tab (T : String) (t : String → Option Bool) : Prop := ∀ n b, t n = some b → kitB n T = some b
theorem tab_int : Tab "int" tInt := fun n b h => by
  unfold tInt at h
  split at h
  · rename_i q
    cases h
    rcases q with rfl | rfl
    · decide +kernel
    · decide +kernel
  · split at h
    · rename_i q
      cases h
      rcases q with rfl | rfl | rfl | rfl | rfl <;> decide +kernel
    · cases h
theorem tab_one {T : String} (h1 : kitB T T = some true) (hi : T = "bool" ∨ T = "str" ∨ T = "tuple" ∨ T = "list" ∨ T = "dict") : Tab T (tOne T) := fun n b h => by
  unfold tOne at h
  split at h
  · rename_i q
    cases h
    subst q
    exact h1
  · split at h
    · rename_i nq q
      cases h
      rcases hi with rfl | rfl | rfl | rfl | rfl <;> rcases q with rfl | rfl | rfl | rfl | rfl | rfl | rfl <;> first
        | exact absurd rfl nq
        | decide +kernel
    · cases h
theorem tab_bool : Tab "bool" (tOne "bool") := tab_one (by decide +kernel) (by simp)
theorem tab_str : Tab "str" (tOne "str") := tab_one (by decide +kernel) (by simp)
theorem tab_tuple : Tab "tuple" (tOne "tuple") := tab_one (by decide +kernel) (by simp)
theorem tab_list : Tab "list" (tOne "list") := tab_one (by decide +kernel) (by simp)
theorem tab_dict : Tab "dict" (tOne "dict") := tab_one (by decide +kernel) (by simp)
variable {e : Expr} {fa : EF} {p p2 pos : Pos}
theorem x_isi {T : String} {t : String → Option Bool} {y : Str} (ht : Tab T t) (hgi : Gl X "isinstance") (hmi : X.mg "isinstance" = none) (hvi : bootBuiltins "isinstance" = some (.builtin "isinstance")) (hg : Gl X y) (hm : X.mg y = none) (hv : bootBuiltins y = some (.type T)) (ha : SndE X ci BS e fa) (hn : y ≠ "__name__" := by decide) (hd : (y == ("__debug__" : Str)) = false := by decide)
    (hs1 : starEach [e, .Name y p2] X.env = (false, eval e X.env) :: starEach [.Name y p2] X.env := by rfl) (hs2 : starEach [.Name y p2] X.env = (false, eval (.Name y p2) X.env) :: starEach [] X.env := by rfl) (hpl : (backTo pos (starEach [.Name y p2] X.env)).any (·.1) = false := by rfl) :
    SndE X ci BS (.Call (.Name "isinstance" p) [e, .Name y p2] [] pos) (fB (gIsi t) (fCons fa fNil)) := by
  obtain ⟨te, pp, q⟩ := ha.ex
  refine ⟨⟨fun W' => tCB (rIsi X.K) (tCons (te W') (tCons (tC (.ty T)) tNil)), fun W' tk => pe_callB call_isi hgi hmi hvi (pa_cons (pp W' tk) (pa_cons (pe_bltn hg hm hv rfl hn hd) pa_nil hs2) hs1) (by decide) (by decide) hs1 hpl, fun W' s Q ok h => ?_⟩⟩
  refine q W' s _ ok (h.bind.bind.imp fun ox env1 G1 H1 st1 ok1 h1 => ?_)
  intro v rep new
  have h1 : Acc X.K ci BS W' ⟨env1, s.σ, G1, H1⟩ (CE X.K ci s Q) (retOV ((getOVs [ox] env1).bind (gIsi t)) env1) := h1 G1 H1 Step.refl ok1
  cases e1 : getOV ox env1 with
  | none => unfold getOVs at h1; rw [e1] at h1; exact h1.elim
  | some w =>
    unfold getOVs at h1
    rw [e1] at h1
    have h1 : Acc X.K ci BS W' ⟨env1, s.σ, G1, H1⟩ (CE X.K ci s Q) (retOV ((tyN w).bind fun n => (t n).map fun b => .v (.bl b)) env1) := h1
    cases e2 : tyN w with
    | none => rw [e2] at h1; exact h1.elim
    | some n =>
      rw [e2] at h1
      have h1 : Acc X.K ci BS W' ⟨env1, s.σ, G1, H1⟩ (CE X.K ci s Q) (retOV ((t n).map fun b => .v (.bl b)) env1) := h1
      cases e3 : t n with
      | none => rw [e3] at h1; exact h1.elim
      | some b =>
        rw [e3] at h1
        refine ⟨v, .ty T, .type n, .type T, b, rfl, .ty T, ty_of ok1 (cur_of ok1 rep e1) e2, kit_ty (ht n b e3), ?_⟩
        exact ret_same (W' := W') (s := ⟨env1, s.σ, G1, H1⟩) ok1 (h1.imp fun ov' env4 G4 H4 st4 ok4 h4 z rz nz => h4 z rz (NewOV.back st1 nz)) (.bl _)
end
end BV

set_option maxRecDepth 100000
set_option maxHeartbeats 4000000
/-! BV: statements. -/
namespace BV
open PySem PySem.Spec L2

inductive SR where
  | bad | nx (env : Ev) | rt (w : W) (env : Ev) | rn (w : W) (env : Ev) | bk (env : Ev) | ct (env : Ev) | er (x : Exc) (env : Ev)
abbrev SF := Ev → SR
def Res.andS {α : Type} (r : Res α) (k : α → Ev → SR) : SR := match r with
  | .bad => .bad
  | .ok a env => k a env
  | .er x env => .er x env
section
variable (K : PySem.W.Frag) (ci : Nat → Addr) (BS : List Nat)
def AccS (W' : WX) (s : Sta) (D : Ends) : SR → Prop
  | .bad => False
  | .nx env' => ∀ σ' G' H', Stp BS s ⟨env', σ', G', H'⟩ → Ok K ci ⟨env', σ', G', H'⟩ → D.nx σ' H'
  | .bk env' => ∀ σ' G' H', Stp BS s ⟨env', σ', G', H'⟩ → Ok K ci ⟨env', σ', G', H'⟩ → D.bk σ' H'
  | .ct env' => ∀ σ' G' H', Stp BS s ⟨env', σ', G', H'⟩ → Ok K ci ⟨env', σ', G', H'⟩ → D.ct σ' H'
  | .rt w env' => ∀ σ' G' H' v, Stp BS s ⟨env', σ', G', H'⟩ → Ok K ci ⟨env', σ', G', H'⟩ → RepV K ci G' v w → D.rt v H'
  | .rn w env' => ∀ σ' G' H' a, Stp BS s ⟨env', σ', G', H'⟩ → Ok K ci ⟨env', σ', G', H'⟩ → RepO K ci G' H' a w → G' a = none → (∀ i, ¬ OwnAt env' σ' i a) → (s.H a = none ∨ ∃ j, j ∉ BS ∧ OwnAt s.env s.σ j a) → D.rt (.ref a) H'
  | .er x env' => ∀ σ' G' H' cls d, Stp BS s ⟨env', σ', G', H'⟩ → Ok K ci ⟨env', σ', G', H'⟩ → RepX K ci G' H' cls d x → W' cls d σ' H'
end
section
variable {K : PySem.W.Frag} {ci : Nat → Addr} {BS : List Nat} {α : Type} {W' : WX} {s m : Sta} {D : Ends} {r : SR}
theorem AccS.mid (h : AccS K ci BS W' s D r) (st : Stp BS s m) : AccS K ci BS W' m D r := by
  cases r with
  | bad => exact h
  | nx e => exact fun σ' G' H' st' ok => h σ' G' H' (Step.trans st st') ok
  | bk e => exact fun σ' G' H' st' ok => h σ' G' H' (Step.trans st st') ok
  | ct e => exact fun σ' G' H' st' ok => h σ' G' H' (Step.trans st st') ok
  | rt w e => exact fun σ' G' H' v st' ok rv => h σ' G' H' v (Step.trans st st') ok rv
  | rn w e =>
    refine fun σ' G' H' a st' ok ro g no nw => h σ' G' H' a (Step.trans st st') ok ro g no ?_
    rcases nw with q | ⟨j, hj, q⟩
    · cases e1 : s.H a with
      | none => exact .inl rfl
      | some o => exact absurd q (st.here a (by rw [e1]; exact fun z => nomatch z))
    · rcases st.new j a q with ⟨z, _⟩ | ⟨_, z⟩
      · exact absurd z hj
      · exact z
  | er x e => exact fun σ' G' H' cls d st' ok rx => h σ' G' H' cls d (Step.trans st st') ok rx
theorem AccS.andS {r : Res α} {k : α → Ev → SR} (h : AccS K ci BS W' s D (r.andS k)) : Acc K ci BS W' s (fun a m => AccS K ci BS W' m D (k a m.env)) r := by
  cases r with
  | bad => exact h
  | ok a env' => exact fun G' H' st ok => AccS.mid h st
  | er x env' => exact fun G' H' cls d st ok rx => h s.σ G' H' cls d st ok rx
/-- a slot takes a value -/
theorem set_slot (ok : Ok K ci s) {i : Nat} {v : V} {w : W} (hi : i ∉ BS) (r : RepV K ci s.G v w) : Stp BS s ⟨s.env.set i (.dat w), s.σ.set i (some v), s.G, s.H⟩ ∧ Ok K ci ⟨s.env.set i (.dat w), s.σ.set i (some v), s.G, s.H⟩ := by
  have ne : ∀ {j : Nat} {u : W}, (s.env.set i (.dat w))[j]? = some (.own u) → j ≠ i ∧ s.env[j]? = some (.own u) := fun {j u} h => by
    by_cases hj : j = i
    · subst hj
      by_cases hl : j < s.env.length
      · rw [List.getElem?_set_self hl] at h
        cases h
      · rw [List.getElem?_eq_none (by rw [List.length_set]; omega)] at h
        cases h
    · rw [List.getElem?_set_ne (Ne.symm hj)] at h
      exact ⟨hj, h⟩
  have own : ∀ {j : Nat} {a : Addr}, OwnAt (s.env.set i (.dat w)) (s.σ.set i (some v)) j a → OwnAt s.env s.σ j a := fun {j a} ⟨⟨u, h⟩, q⟩ => by
    obtain ⟨hj, h'⟩ := ne h
    rw [List.getElem?_set_ne (Ne.symm hj)] at q
    exact ⟨⟨u, h'⟩, q⟩
  refine ⟨⟨Same.refl _, fun _ _ h _ => h, fun _ _ h _ => h, fun _ h => h, fun j a h => ?_, fun j hj => ?_⟩, ⟨ok.sub, by rw [List.length_set, List.length_set]; exact ok.len, fun j u h => ?_, fun j u h => ?_, fun j k a h1 h2 => ok.inj j k a (own h1) (own h2)⟩⟩
  · by_cases hB : j ∈ BS
    · exact .inl ⟨hB, own h⟩
    · exact .inr ⟨hB, .inr ⟨j, hB, own h⟩⟩
  · have hj' : j ≠ i := fun z => hi (z ▸ hj)
    refine ⟨List.getElem?_set_ne (Ne.symm hj'), fun ⟨u, h⟩ => ⟨u, ?_⟩⟩
    show (s.env.set i (.dat w))[j]? = _
    rw [List.getElem?_set_ne (Ne.symm hj')]
    exact h
  · by_cases hj : j = i
    · subst hj
      by_cases hl : j < s.env.length
      · have h' : (s.env.set j (.dat w))[j]? = some (.dat u) := h
        rw [List.getElem?_set_self hl] at h'
        cases h'
        refine ⟨v, ?_, r⟩
        show (s.σ.set j (some v))[j]? = _
        rw [List.getElem?_set_self (by rw [← ok.len]; exact hl)]
      · have h' : (s.env.set j (.dat w))[j]? = some (.dat u) := h
        rw [List.getElem?_eq_none (by rw [List.length_set]; omega)] at h'
        cases h'
    · have h' : (s.env.set i (.dat w))[j]? = some (.dat u) := h
      rw [List.getElem?_set_ne (Ne.symm hj)] at h'
      obtain ⟨x, q1, q2⟩ := ok.dat j u h'
      refine ⟨x, ?_, q2⟩
      show (s.σ.set i (some v))[j]? = _
      rw [List.getElem?_set_ne (Ne.symm hj)]
      exact q1
  · obtain ⟨hj, h'⟩ := ne h
    obtain ⟨a, q1, q2, q3⟩ := ok.own j u h'
    refine ⟨a, ?_, q2, q3⟩
    show (s.σ.set i (some v))[j]? = _
    rw [List.getElem?_set_ne (Ne.symm hj)]
    exact q1
/-- a slot takes a new object for its own -/
theorem set_own (ok : Ok K ci m) (st : Stp BS s m) {i : Nat} {a : Addr} {w : W} (hi : i ∉ BS) (r : RepO K ci m.G m.H a w) (g : m.G a = none) (no : ∀ j, ¬ OwnAt m.env m.σ j a) (nw : s.H a = none) :
    Stp BS s ⟨m.env.set i (.own w), m.σ.set i (some (.ref a)), m.G, m.H⟩ ∧ Ok K ci ⟨m.env.set i (.own w), m.σ.set i (some (.ref a)), m.G, m.H⟩ := by
  have ne : ∀ {j : Nat} {u : Sl}, j ≠ i → ((m.env.set i (.own w))[j]? = some u ↔ m.env[j]? = some u) := fun {j u} hj => by rw [List.getElem?_set_ne (Ne.symm hj)]
  have neσ : ∀ {j : Nat}, j ≠ i → (m.σ.set i (some (.ref a)))[j]? = m.σ[j]? := fun {j} hj => List.getElem?_set_ne (Ne.symm hj)
  have ati : ∀ {u : Sl}, (m.env.set i (.own w))[i]? = some u → u = .own w ∧ i < m.env.length := fun {u} h => by
    by_cases hl : i < m.env.length
    · rw [List.getElem?_set_self hl] at h
      exact ⟨(Option.some.inj h).symm, hl⟩
    · rw [List.getElem?_eq_none (by rw [List.length_set]; omega)] at h
      cases h
  have own : ∀ {j : Nat} {b : Addr}, OwnAt (m.env.set i (.own w)) (m.σ.set i (some (.ref a))) j b → (j = i ∧ b = a) ∨ (j ≠ i ∧ OwnAt m.env m.σ j b) := fun {j b} ⟨⟨u, h⟩, q⟩ => by
    by_cases hj : j = i
    · subst hj
      obtain ⟨_, hl⟩ := ati h
      rw [List.getElem?_set_self (by rw [← ok.len]; exact hl)] at q
      have z := Option.some.inj (Option.some.inj q)
      exact .inl ⟨rfl, (V.ref.inj z).symm⟩
    · exact .inr ⟨hj, ⟨u, (ne hj).mp h⟩, by rw [neσ hj] at q; exact q⟩
  refine ⟨⟨st.sub, st.keep, st.pers, st.here, fun j b h => ?_, fun j hj => ?_⟩, ⟨ok.sub, by rw [List.length_set, List.length_set]; exact ok.len, fun j u h => ?_, fun j u h => ?_, fun j k b h1 h2 => ?_⟩⟩
  · rcases own h with ⟨rfl, rfl⟩ | ⟨hj, q⟩
    · exact .inr ⟨hi, .inl nw⟩
    · exact st.new j b q
  · have hj' : j ≠ i := fun z => hi (z ▸ hj)
    obtain ⟨q1, q2⟩ := st.bs j hj
    refine ⟨(neσ hj').trans q1, fun z => ?_⟩
    obtain ⟨u, q⟩ := q2 z
    exact ⟨u, (ne hj').mpr q⟩
  · by_cases hj : j = i
    · subst hj
      have z := (ati h).1
      cases z
    · obtain ⟨x, q1, q2⟩ := ok.dat j u ((ne hj).mp h)
      exact ⟨x, (neσ hj).trans q1, q2⟩
  · by_cases hj : j = i
    · subst hj
      obtain ⟨z, hl⟩ := ati h
      cases z
      refine ⟨a, ?_, g, r⟩
      show (m.σ.set j (some (.ref a)))[j]? = _
      rw [List.getElem?_set_self (by rw [← ok.len]; exact hl)]
    · obtain ⟨b, q1, q2, q3⟩ := ok.own j u ((ne hj).mp h)
      exact ⟨b, (neσ hj).trans q1, q2, q3⟩
  · rcases own h1 with ⟨rfl, rfl⟩ | ⟨hj, q1⟩
    · rcases own h2 with ⟨rfl, _⟩ | ⟨hk, q2⟩
      · rfl
      · exact absurd q2 (no k)
    · rcases own h2 with ⟨rfl, rfl⟩ | ⟨hk, q2⟩
      · exact absurd q1 (no j)
      · exact ok.inj j k b q1 q2
/-- a slot's own object is changed -/
theorem upd_own (ok : Ok K ci s) {i : Nat} {a : Addr} {w w' : W} {o : HO} (hw : s.env[i]? = some (.own w)) (ha : s.σ[i]? = some (some (.ref a))) (r : RepO K ci s.G (upd s.H a o) a w') :
    Stp BS s ⟨s.env.set i (.own w'), s.σ, s.G, upd s.H a o⟩ ∧ Ok K ci ⟨s.env.set i (.own w'), s.σ, s.G, upd s.H a o⟩ := by
  have il : i < s.env.length := (List.getElem?_eq_some_iff.mp hw).1
  have me : OwnAt s.env s.σ i a := ⟨⟨w, hw⟩, ha⟩
  obtain ⟨ga, ha2, _⟩ := ok.ownAt me
  have ati : (s.env.set i (.own w'))[i]? = some (.own w') := List.getElem?_set_self il
  have ne : ∀ {j : Nat} {u : Sl}, j ≠ i → ((s.env.set i (.own w'))[j]? = some u ↔ s.env[j]? = some u) := fun {j u} hj => by rw [List.getElem?_set_ne (Ne.symm hj)]
  have own : ∀ {j : Nat} {b : Addr}, OwnAt (s.env.set i (.own w')) s.σ j b → OwnAt s.env s.σ j b := fun {j b} ⟨⟨u, h⟩, q⟩ => by
    by_cases hj : j = i
    · subst hj
      exact ⟨⟨w, hw⟩, q⟩
    · exact ⟨⟨u, (ne hj).mp h⟩, q⟩
  refine ⟨⟨Same.refl _, fun b o' h no => ?_, fun _ _ h _ => h, fun b h => ?_, fun j b h => ?_, fun j hj => ⟨rfl, fun ⟨u, h⟩ => ?_⟩⟩, ⟨fun b o' q => ?_, by rw [List.length_set]; exact ok.len, fun j u h => ?_, fun j u h => ?_, fun j k b h1 h2 => ok.inj j k b (own h1) (own h2)⟩⟩
  · have nb : b ≠ a := fun z => no i (z ▸ me)
    show upd s.H a o b = _
    rw [upd_ne nb]
    exact h
  · show upd s.H a o b ≠ none
    by_cases nb : b = a
    · subst nb
      rw [upd_same]
      exact fun z => nomatch z
    · rw [upd_ne nb]
      exact h
  · by_cases hB : j ∈ BS
    · exact .inl ⟨hB, own h⟩
    · exact .inr ⟨hB, .inr ⟨j, hB, own h⟩⟩
  · by_cases hj' : j = i
    · subst hj'
      exact ⟨w', ati⟩
    · exact ⟨u, (ne hj').mpr h⟩
  · have nb : b ≠ a := fun z => by
      rw [z] at q
      have q' : s.G a = some o' := q
      rw [ga] at q'
      cases q'
    show upd s.H a o b = _
    rw [upd_ne nb]
    exact ok.sub b o' q
  · have hj : j ≠ i := fun z => by
      subst z
      have h' : (s.env.set j (.own w'))[j]? = some (.dat u) := h
      rw [ati] at h'
      cases h'
    exact ok.dat j u ((ne hj).mp h)
  · by_cases hj : j = i
    · subst hj
      have h' : (s.env.set j (.own w'))[j]? = some (.own u) := h
      rw [ati] at h'
      cases h'
      exact ⟨a, ha, ga, r⟩
    · obtain ⟨b, q1, q2, q3⟩ := ok.own j u ((ne hj).mp h)
      have nb : b ≠ a := fun z => by
        subst z
        exact hj (ok.inj _ _ _ ⟨⟨u, (ne hj).mp h⟩, q1⟩ me)
      exact ⟨b, q1, q2, q3.mono (Same.refl _) fun o' h => by show upd s.H a o b = _; rw [upd_ne nb]; exact h⟩
end

section
variable (X : Cx) (ci : Nat → Addr) (BS : List Nat)
structure SndS (st : Stmt) (f : SF) : Prop where
  ex : ∃ ts : WX → TS, (∀ W', Takes X W' → PS X st (ts W')) ∧ ∀ (W' : WX) (s : Sta) (D : Ends), Ok X.K ci s → AccS X.K ci BS W' s D (f s.env) → ts W' D s.σ s.H
structure SndSs (st : List Stmt) (f : SF) : Prop where
  ex : ∃ ts : WX → TS, (∀ W', Takes X W' → PSs X st (ts W')) ∧ ∀ (W' : WX) (s : Sta) (D : Ends), Ok X.K ci s → AccS X.K ci BS W' s D (f s.env) → ts W' D s.σ s.H
end
def sNext : SF := fun env => .nx env
def sSeq (f g : SF) : SF := fun env => match f env with
  | .nx env => g env
  | r => r
def sIf (c : TF) (f g : SF) : SF := fun env => (c env).andS fun b env => if b = true then f env else g env
def sSet (i : Nat) (f : EF) : SF := fun env => (fE f env).andS fun ov env => match ov with
  | .v w => .nx (env.set i (.dat w))
  | _ => .bad
def sOwn (i : Nat) (f : EF) : SF := fun env => (f env).andS fun ov env => match ov with
  | .n w => .nx (env.set i (.own w))
  | _ => .bad
def sRet (f : EF) : SF := fun env => (fE f env).andS fun ov env => match ov with
  | .v w => .rt w env
  | _ => .bad
def sRetNew (f : EF) : SF := fun env => (f env).andS fun ov env => match ov with
  | .n w => .rn w env
  | _ => .bad
def sRetN : SF := fun env => .rt .non env
def sDrop (f : EF) : SF := fun env => (f env).andS fun _ env => .nx env
def sBreak : SF := fun env => .bk env
def sCont : SF := fun env => .ct env
section
variable {X : Cx} {ci : Nat → Addr} {BS : List Nat} {st : Stmt} {rest a b : List Stmt} {f g : SF} {e c : Expr} {fe : EF} {tc : TF} {pos : Pos}
theorem s_nil : SndSs X ci BS [] sNext := ⟨⟨fun _ => tNext, fun _ _ => pss_nil, fun W' s D ok h => h s.σ s.G s.H Step.refl ok⟩⟩
theorem acc_seq {W' : WX} {s : Sta} {D : Ends} {u : St → Hp → Prop} {r : SR} (h : AccS X.K ci BS W' s D (match r with | .nx env => g env | r => r)) (hu : ∀ env' σ' G' H', Stp BS s ⟨env', σ', G', H'⟩ → Ok X.K ci ⟨env', σ', G', H'⟩ → AccS X.K ci BS W' ⟨env', σ', G', H'⟩ D (g env') → u σ' H') :
    AccS X.K ci BS W' s { D with nx := u } r := by
  cases r with
  | nx env' => exact fun σ' G' H' st ok => hu env' σ' G' H' st ok (AccS.mid h st)
  | bad => exact h
  | rt w e => exact h
  | rn w e => exact h
  | bk e => exact h
  | ct e => exact h
  | er x e => exact h
theorem s_cons (h1 : SndS X ci BS st f) (h2 : SndSs X ci BS rest g) : SndSs X ci BS (st :: rest) (sSeq f g) := by
  obtain ⟨t, p, q⟩ := h1.ex
  obtain ⟨t', p', q'⟩ := h2.ex
  refine ⟨⟨fun W' => tSeq (t W') (t' W'), fun W' tk => pss_cons (p W' tk) (p' W' tk), fun W' s D ok h => ?_⟩⟩
  exact q W' s _ ok (acc_seq h fun env' σ' G' H' st ok' h' => q' W' ⟨env', σ', G', H'⟩ D ok' h')
theorem s_one (h1 : SndS X ci BS st f) : SndSs X ci BS [st] f := by
  obtain ⟨t, p, q⟩ := h1.ex
  exact ⟨⟨t, fun W' tk => pss_one (p W' tk), q⟩⟩
theorem s_pass : SndS X ci BS (.Pass pos) sNext := ⟨⟨fun _ => tNext, fun _ _ => ps_pass, fun W' s D ok h => h s.σ s.G s.H Step.refl ok⟩⟩
theorem s_break : SndS X ci BS (.Break pos) sBreak := ⟨⟨fun _ => tBreak, fun _ _ => ps_break, fun W' s D ok h => h s.σ s.G s.H Step.refl ok⟩⟩
theorem s_cont : SndS X ci BS (.Continue pos) sCont := ⟨⟨fun _ => tCont, fun _ _ => ps_continue, fun W' s D ok h => h s.σ s.G s.H Step.refl ok⟩⟩
theorem s_if (hc : SndT X ci BS c tc) (ha : SndSs X ci BS a f) (hb : SndSs X ci BS b g) : SndS X ci BS (.If c a b pos) (sIf tc f g) := by
  obtain ⟨t, p, q⟩ := hc.ex
  obtain ⟨t1, p1, q1⟩ := ha.ex
  obtain ⟨t2, p2, q2⟩ := hb.ex
  refine ⟨⟨fun W' => tIfS (t W') (t1 W') (t2 W'), fun W' tk => ps_if (p W' tk) (p1 W' tk) (p2 W' tk), fun W' s D ok h => ?_⟩⟩
  refine q W' s _ ok (h.andS.imp fun d env1 G1 H1 st1 ok1 h1 => ?_)
  cases d with
  | true => exact q1 W' ⟨env1, s.σ, G1, H1⟩ D ok1 h1
  | false => exact q2 W' ⟨env1, s.σ, G1, H1⟩ D ok1 h1
theorem s_set {i : Nat} {x : Str} {pos' : Pos} (hi : i ∉ BS) (he : SndE X ci BS e fe) (hN : X.N.Nodup) (hx : X.N[i]? = some x := by rfl) (hl : Loc X.env.scope x := by first | exact Or.inl rfl | exact Or.inr rfl) (hs : swapsWith e (some (.Name x pos')) pos.line X.env = pure false := by rfl)
    (hf : X.fn x = true ∨ X.env.scope.names.lookup x = some .local := by first | exact .inl rfl | exact .inr rfl | assumption) : SndS X ci BS (.Assign [.Name x pos'] e pos) (sSet i fe) := by
  obtain ⟨t, p, q⟩ := (x_esc he).ex
  refine ⟨⟨fun W' => tAsg (t W') (gName i), fun W' tk => ps_set hN hx hl (p W' tk) hs hf, fun W' s D ok h => ?_⟩⟩
  refine q W' s _ ok (h.andS.imp fun ov env1 G1 H1 st1 ok1 h1 => ?_)
  intro v rep new
  cases ov with
  | v w =>
    obtain ⟨st2, ok2⟩ := set_slot (s := ⟨env1, s.σ, G1, H1⟩) ok1 hi rep
    exact h1 _ _ _ st2 ok2
  | _ => exact h1.elim
theorem s_own {i : Nat} {x : Str} {pos' : Pos} (hi : i ∉ BS) (he : SndE X ci BS e fe) (hN : X.N.Nodup) (hx : X.N[i]? = some x := by rfl) (hl : Loc X.env.scope x := by first | exact Or.inl rfl | exact Or.inr rfl) (hs : swapsWith e (some (.Name x pos')) pos.line X.env = pure false := by rfl)
    (hf : X.fn x = true ∨ X.env.scope.names.lookup x = some .local := by first | exact .inl rfl | exact .inr rfl | assumption) : SndS X ci BS (.Assign [.Name x pos'] e pos) (sOwn i fe) := by
  obtain ⟨t, p, q⟩ := he.ex
  refine ⟨⟨fun W' => tAsg (t W') (gName i), fun W' tk => ps_set hN hx hl (p W' tk) hs hf, fun W' s D ok h => ?_⟩⟩
  have h' : AccS X.K ci BS W' s D ((fe s.env).andS fun ov env => match ov with | .n w => .nx (env.set i (.own w)) | _ => .bad) := h
  refine q W' s _ ok ?_
  cases e1 : fe s.env with
  | bad => rw [e1] at h'; exact h'.elim
  | er x env' => rw [e1] at h'; exact fun G' H' cls d st ok rx => h' s.σ G' H' cls d st ok rx
  | ok ov env' =>
    rw [e1] at h'
    cases ov with
    | n w =>
      intro G' H' st ok' v rep new
      obtain ⟨a, rfl, ro, ga, no⟩ := rep
      obtain ⟨st2, ok2⟩ := set_own (s := s) (m := ⟨env', s.σ, G', H'⟩) ok' st hi ro ga no (new a rfl)
      exact h' _ _ _ st2 ok2
    | _ => exact h'.elim
theorem s_ret (he : SndE X ci BS e fe) : SndS X ci BS (.Return (some e) pos) (sRet fe) := by
  obtain ⟨t, p, q⟩ := (x_esc he).ex
  refine ⟨⟨fun W' => tRet (t W'), fun W' tk => ps_ret (p W' tk), fun W' s D ok h => ?_⟩⟩
  refine q W' s _ ok (h.andS.imp fun ov env1 G1 H1 st1 ok1 h1 => ?_)
  intro v rep new
  cases ov with
  | v w => exact h1 s.σ G1 H1 v Step.refl ok1 rep
  | _ => exact h1.elim
theorem s_retNew (he : SndE X ci BS e fe) : SndS X ci BS (.Return (some e) pos) (sRetNew fe) := by
  obtain ⟨t, p, q⟩ := he.ex
  refine ⟨⟨fun W' => tRet (t W'), fun W' tk => ps_ret (p W' tk), fun W' s D ok h => ?_⟩⟩
  have h' : AccS X.K ci BS W' s D ((fe s.env).andS fun ov env => match ov with | .n w => .rn w env | _ => .bad) := h
  refine q W' s _ ok ?_
  cases e1 : fe s.env with
  | bad => rw [e1] at h'; exact h'.elim
  | er x env' => rw [e1] at h'; exact fun G' H' cls d st ok rx => h' s.σ G' H' cls d st ok rx
  | ok ov env' =>
    rw [e1] at h'
    cases ov with
    | n w =>
      intro G' H' st ok' v rep new
      obtain ⟨a, rfl, ro, ga, no⟩ := rep
      exact h' s.σ G' H' a st ok' ro ga no (.inl (new a rfl))
    | _ => exact h'.elim
theorem s_retN : SndS X ci BS (.Return none pos) sRetN := ⟨⟨fun _ => tRetN, fun _ _ => ps_retN, fun W' s D ok h => h s.σ s.G s.H .non Step.refl ok .non⟩⟩
theorem s_drop (he : SndE X ci BS e fe) (hs : swapsWith e none pos.line X.env = pure false := by rfl) : SndS X ci BS (.Expr e pos) (sDrop fe) := by
  obtain ⟨t, p, q⟩ := he.ex
  refine ⟨⟨fun W' => tDrop (t W'), fun W' tk => ps_expr (p W' tk) hs, fun W' s D ok h => ?_⟩⟩
  refine q W' s _ ok (h.andS.imp fun ov env1 G1 H1 st1 ok1 h1 => ?_)
  intro v rep new
  exact h1 s.σ G1 H1 Step.refl ok1
end
end BV

set_option maxRecDepth 100000
set_option maxHeartbeats 4000000
/-! BV: targets, what is walked, for, while, the methods that change a slot's own list. -/
namespace BV
open PySem PySem.Spec L2
/-! ### targets -/
mutual
inductive Tg where
  | nm (i : Nat) | tp (l : Tgs)
inductive Tgs where
  | nil | cons (t : Tg) (l : Tgs)
end
mutual
def bindT : Tg → W → Ev → Option Ev
  | .nm i, w, env => some (env.set i (.dat w))
  | .tp l, .tup ws, env => bindTs l ws env
  | .tp _, _, _ => none
def bindTs : Tgs → List W → Ev → Option Ev
  | .nil, [], env => some env
  | .cons t l, w :: ws, env => (bindT t w env).bind fun env => bindTs l ws env
  | _, _, _ => none
end
mutual
def idxT : Tg → List Nat
  | .nm i => [i]
  | .tp l => idxTs l
def idxTs : Tgs → List Nat
  | .nil => []
  | .cons t l => idxT t ++ idxTs l
end
def Tgs.len : Tgs → Nat
  | .nil => 0
  | .cons _ l => l.len + 1
section
variable (X : Cx) (ci : Nat → Addr) (BS : List Nat)
def GOut (s : Sta) (js : List Nat) (env' : Ev) (Q : St → Hp → Prop) : Prop := ∀ σ', Stp BS s ⟨env', σ', s.G, s.H⟩ → Ok X.K ci ⟨env', σ', s.G, s.H⟩ → σ'.length = s.σ.length → (∀ j, j ∉ js → σ'[j]? = s.σ[j]?) → Q σ' s.H
structure SndG (tg : Expr) (t : Tg) : Prop where
  ex : ∃ g : TG, PG X tg g ∧ ∀ (s : Sta) (v : V) (w : W) (env' : Ev) (Q : St → Hp → Prop), Ok X.K ci s → RepV X.K ci s.G v w → bindT t w s.env = some env' → GOut X ci BS s (idxT t) env' Q → g v s.σ s.H Q
structure SndGs (tgs : List Expr) (t : Tgs) : Prop where
  ex : ∃ g : TGs, PGs X tgs g ∧ ∀ (s : Sta) (vs : List V) (ws : List W) (env' : Ev) (Q : St → Hp → Prop), Ok X.K ci s → RepVs X.K ci s.G vs ws → bindTs t ws s.env = some env' → GOut X ci BS s (idxTs t) env' Q → g vs s.σ s.H Q
end
section
variable {X : Cx} {ci : Nat → Addr} {BS : List Nat} {tg : Expr} {tgs : List Expr} {t : Tg} {ts : Tgs} {pos : Pos}
theorem g_nm {i : Nat} {x : Str} (hi : i ∉ BS) (hN : X.N.Nodup) (hx : X.N[i]? = some x := by rfl) (hl : Loc X.env.scope x := by first | exact Or.inl rfl | exact Or.inr rfl) (hf : X.fn x = true ∨ X.env.scope.names.lookup x = some .local := by first | exact .inl rfl | exact .inr rfl | assumption) : SndG X ci BS (.Name x pos) (.nm i) := by
  refine ⟨⟨gName i, pg_name hN hx hl hf, fun s v w env' Q ok r e h => ?_⟩⟩
  cases e
  obtain ⟨st, ok'⟩ := set_slot ok hi r
  exact h _ st ok' List.length_set fun j hj => List.getElem?_set_ne (fun z => hj (by rw [z]; simp [idxT]))
theorem gs_nil : SndGs X ci BS [] .nil := by
  refine ⟨⟨gNil, pgs_nil, fun s vs ws env' Q ok r e h => ?_⟩⟩
  cases ws with
  | nil =>
    cases r
    cases e
    exact ⟨rfl, h _ Step.refl ok rfl fun _ _ => rfl⟩
  | cons w ws => cases e
theorem gs_cons (h1 : SndG X ci BS tg t) (h2 : SndGs X ci BS tgs ts) (hs : (assignEach (tg :: tgs) X.env).map (·.2) = assign tg X.env :: (assignEach tgs X.env).map (·.2) := by rfl) : SndGs X ci BS (tg :: tgs) (.cons t ts) := by
  obtain ⟨g, p, q⟩ := h1.ex
  obtain ⟨g', p', q'⟩ := h2.ex
  refine ⟨⟨gCons g g', pgs_cons p p' hs, fun s vs ws env' Q ok r e h => ?_⟩⟩
  cases ws with
  | nil => cases e
  | cons w ws =>
    cases r with
    | @cons v _ vs _ r1 r2 =>
      unfold bindTs at e
      cases e1 : bindT t w s.env with
      | none => rw [e1] at e; cases e
      | some env1 =>
        rw [e1] at e
        refine ⟨v, vs, rfl, q s v w env1 _ ok r1 e1 fun σ1 st1 ok1 l1 k1 => ?_⟩
        refine q' ⟨env1, σ1, s.G, s.H⟩ vs ws env' Q ok1 r2 e fun σ2 st2 ok2 l2 k2 => ?_
        refine h σ2 (Step.trans st1 st2) ok2 (l2.trans l1) fun j hj => ?_
        have hj' : j ∉ idxT t ∧ j ∉ idxTs ts := by
          unfold idxTs at hj
          rw [List.mem_append, not_or] at hj
          exact hj
        exact (k2 j hj'.2).trans (k1 j hj'.1)
theorem bindTs_len : ∀ {l : Tgs} {ws : List W} {env env' : Ev}, bindTs l ws env = some env' → ws.length = l.len
  | .nil, [], _, _, _ => rfl
  | .nil, _ :: _, _, _, h => by unfold bindTs at h; cases h
  | .cons _ _, [], _, _, h => by unfold bindTs at h; cases h
  | .cons t l, w :: ws, env, env', h => by
    unfold bindTs at h
    cases e : bindT t w env with
    | none => rw [e] at h; cases h
    | some env1 =>
      rw [e] at h
      show ws.length + 1 = l.len + 1
      rw [bindTs_len (l := l) (ws := ws) h]
theorem g_tp {es : List Expr} {k : Nat} (hc : X.calm = true) (h : SndGs X ci BS es ts) (hn : (assignEach es X.env).length = ts.len := by rfl) (hst : (assignEach es X.env).findIdx? (·.1) = none := by rfl) : SndG X ci BS (.Tuple es k pos) (.tp ts) := by
  obtain ⟨g, p, q⟩ := h.ex
  refine ⟨⟨gTup X.K ts.len g, pg_tup hc p hn hst, fun s v w env' Q ok r e h => ?_⟩⟩
  cases w with
  | tup ws =>
    cases r with
    | @tup a vs _ hT r =>
      have e' : bindTs ts ws s.env = some env' := e
      exact ⟨a, vs, rfl, sqT_mono ok.sub hT, by rw [r.length]; exact bindTs_len e', q s vs ws env' Q ok r e' h⟩
  | _ => cases e
end

/-! ### what is walked -/
section
variable (X : Cx) (ci : Nat → Addr) (BS : List Nat)
structure ItOk (m : Sta) (ws : List W) (J : It) (Gp : Hp → Prop) (Y : Nat → Hp → V → Hp → Prop) : Prop where
  walk : Walk J ws.length Gp Y
  stays : ∀ m' : Sta, Ok X.K ci m' → Same m.G m'.G → Gp m'.H
  gives : ∀ (m' : Sta) (i : Nat) (v : V) (H' : Hp), Ok X.K ci m' → Same m.G m'.G → i < ws.length → Y i m'.H v H' → ∃ w G'', ws[i]? = some w ∧ Stp BS m' ⟨m'.env, m'.σ, G'', H'⟩ ∧ Ok X.K ci ⟨m'.env, m'.σ, G'', H'⟩ ∧ RepV X.K ci G'' v w
structure SndI (tg iter : Expr) (f : Ev → Res (List W)) : Prop where
  ex : ∃ wi : WX → TI, (∀ W', Takes X W' → PI X tg iter (wi W')) ∧ ∀ (W' : WX) (s : Sta) (R : It → Hp → Prop), Ok X.K ci s → Acc X.K ci BS W' s (fun ws m => ∀ J Gp Y, ItOk X ci BS m ws J Gp Y → R J m.H) (f s.env) → wi W' s.σ s.H R
end
def asT : W → Option (List W)
  | .tup ws => some ws
  | _ => none
def asL : W → Option (List W)
  | .lst ws => some ws
  | .fz ws => some ws
  | _ => none
def fIt (k : W → Option (List W)) (f : EF) : Ev → Res (List W) := fun env => (fE f env).bind fun ov env => match ov with
  | .v w => (match k w with | some ws => .ok ws env | none => .bad)
  | _ => .bad
def rangeW (lo hi : Int) : List W := (List.range (hi - lo).toNat).map fun (i : Nat) => W.int (lo + (i : Int))
def smallI (i : Int) : Bool := decide (-4611686018427387904 ≤ i ∧ i < 4611686018427387904)
def fRng1 (f : EF) : Ev → Res (List W) := fun env => (f env).bind fun x env => match getOV x env with
  | some (.int j) => if smallI j = true then .ok (rangeW 0 j) env else .bad
  | _ => .bad
def fRng2 (f g : EF) : Ev → Res (List W) := fun env => (f env).bind fun x env => (g env).bind fun y env => match getOV x env, getOV y env with
  | some (.int i), some (.int j) => if smallI i = true ∧ smallI j = true then .ok (rangeW i j) env else .bad
  | _, _ => .bad
section
variable {X : Cx} {ci : Nat → Addr} {BS : List Nat} {tg e e2 : Expr} {f g : EF} {pos p : Pos}
theorem it_at {m : Sta} {ws : List W} {J : It} {Gp : Hp → Prop} {vs : List V} (r : RepVs X.K ci m.G vs ws) (w : Walk J vs.length Gp (YAt vs)) (k : ∀ m' : Sta, Ok X.K ci m' → Same m.G m'.G → Gp m'.H) : ItOk X ci BS m ws J Gp (YAt vs) := by
  refine ⟨by rw [← r.length]; exact w, k, fun m' i v H' ok s hi y => ?_⟩
  obtain ⟨e, y⟩ := y
  subst e
  obtain ⟨u, q1, q2⟩ := r.get y
  exact ⟨u, m'.G, q1, Step.refl, ok, q2.mono s⟩
theorem i_tup (he : SndE X ci BS e f) : SndI X ci BS tg e (fIt asT f) := by
  obtain ⟨t, p, q⟩ := (x_esc he).ex
  refine ⟨⟨fun W' => iTup X.K (t W'), fun W' tk => pi_tup (p W' tk), fun W' s R ok h => ?_⟩⟩
  refine q W' s _ ok (h.bind.imp fun ov env1 G1 H1 st1 ok1 h1 => ?_)
  intro v rep new
  cases ov with
  | v w =>
    cases w with
    | tup ws =>
      cases rep with
      | @tup a vs _ hT r =>
        exact ⟨a, rfl, ⟨vs, sqT_mono ok1.sub hT⟩, h1 G1 H1 Step.refl ok1 _ _ _ (it_at (m := ⟨env1, s.σ, G1, H1⟩) r walk_tup fun m' ok' sm => sqT_mono ok'.sub (sqT_mono sm hT))⟩
    | _ => exact h1.elim
  | _ => exact h1.elim
theorem i_list (he : SndE X ci BS e f) : SndI X ci BS tg e (fIt asL f) := by
  obtain ⟨t, p, q⟩ := (x_esc he).ex
  refine ⟨⟨fun W' => iList X.K (t W'), fun W' tk => pi_list (p W' tk), fun W' s R ok h => ?_⟩⟩
  refine q W' s _ ok (h.bind.imp fun ov env1 G1 H1 st1 ok1 h1 => ?_)
  intro v rep new
  cases ov with
  | v w =>
    cases w with
    | lst ws =>
      cases rep with
      | @lst a vs _ hT r =>
        exact ⟨a, rfl, ⟨vs, .inl (.inl (ok1.sub _ _ hT))⟩, h1 G1 H1 Step.refl ok1 _ _ _ (it_at (m := ⟨env1, s.σ, G1, H1⟩) r walk_list fun m' ok' sm => .inl (.inl (ok'.sub _ _ (sm _ _ hT))))⟩
    | fz ws =>
      cases rep with
      | @fz a vs _ hT r =>
        exact ⟨a, rfl, ⟨vs, ok1.sub.seq hT⟩, h1 G1 H1 Step.refl ok1 _ _ _ (it_at (m := ⟨env1, s.σ, G1, H1⟩) r walk_list fun m' ok' sm => ok'.sub.seq (sm.seq hT))⟩
    | _ => exact h1.elim
  | _ => exact h1.elim
theorem it_rng {m : Sta} {lo hi : Int} : ItOk X ci BS m (rangeW lo hi) (Itr lo (hi - lo).toNat) (fun _ => True) (YFn fun i => .int (lo + i)) := by
  have hl : (rangeW lo hi).length = (hi - lo).toNat := by unfold rangeW; rw [List.length_map, List.length_range]
  refine ⟨by rw [hl]; exact walk_range, fun _ _ _ => trivial, fun m' i v H' ok s hi' y => ?_⟩
  obtain ⟨e, y⟩ := y
  subst e y
  refine ⟨.int (lo + i), m'.G, ?_, Step.refl, ok, .int _⟩
  unfold rangeW
  rw [hl] at hi'
  rw [List.getElem?_map, List.getElem?_range hi']
  rfl
theorem smallI_is {i : Int} (h : smallI i = true) : -(2 ^ 62) ≤ i ∧ i < 2 ^ 62 := by
  unfold smallI at h
  rw [decide_eq_true_eq] at h
  omega
theorem i_rng1 (hg : Gl X "range") (hm : X.mg "range" = none) (he : SndE X ci BS e f) (hs : starEach [e] X.env = [(false, eval e X.env)] := by rfl) : SndI X ci BS tg (.Call (.Name "range" p) [e] [] pos) (fRng1 f) := by
  obtain ⟨t, pp, q⟩ := he.ex
  refine ⟨⟨fun W' => iRng1 (tCons (t W') tNil), fun W' tk => pi_range1 hg hm (pa_cons (pp W' tk) pa_nil (by rw [hs]; rfl)) hs, fun W' s R ok h => ?_⟩⟩
  refine q W' s _ ok (h.bind.imp fun ov env1 G1 H1 st1 ok1 h1 => ?_)
  intro v rep new
  cases e1 : getOV ov env1 with
  | none => dsimp only at h1; rw [e1] at h1; exact h1.elim
  | some w =>
    dsimp only at h1
    rw [e1] at h1
    cases w with
    | int j =>
      dsimp only at h1
      by_cases c : smallI j = true
      · rw [if_pos c] at h1
        obtain ⟨b1, b2⟩ := smallI_is c
        have z := h1 G1 H1 Step.refl ok1 _ _ _ it_rng
        refine ⟨j, by rw [(cur_of ok1 rep e1).int], b1, b2, ?_⟩
        have ej : (j - 0).toNat = j.toNat := by rw [Int.sub_zero]
        rw [ej] at z
        exact z
      · rw [if_neg c] at h1
        exact h1.elim
    | _ => exact h1.elim
theorem i_rng2 (hg : Gl X "range") (hm : X.mg "range" = none) (he : SndE X ci BS e f) (he2 : SndE X ci BS e2 g) (hs : starEach [e, e2] X.env = [(false, eval e X.env), (false, eval e2 X.env)] := by rfl) (hs2 : starEach [e2] X.env = [(false, eval e2 X.env)] := by rfl) :
    SndI X ci BS tg (.Call (.Name "range" p) [e, e2] [] pos) (fRng2 f g) := by
  obtain ⟨t, pp, q⟩ := he.ex
  obtain ⟨t', pp', q'⟩ := he2.ex
  refine ⟨⟨fun W' => iRng2 (tCons (t W') (tCons (t' W') tNil)), fun W' tk => pi_range2 hg hm (pa_cons (pp W' tk) (pa_cons (pp' W' tk) pa_nil (by rw [hs2]; rfl)) (by rw [hs, hs2])) hs hs2, fun W' s R ok h => ?_⟩⟩
  refine q W' s _ ok (h.bind.imp fun ov env1 G1 H1 st1 ok1 h1 => ?_)
  intro v rep new
  refine q' W' ⟨env1, s.σ, G1, H1⟩ _ ok1 (h1.bind.imp fun ov2 env2 G2 H2 st2 ok2 h2 => ?_)
  intro v2 rep2 new2
  have rep' : RepOV X.K ci ⟨env2, s.σ, G2, H2⟩ v ov := rep.step st2
  cases e1 : getOV ov env2 with
  | none => dsimp only at h2; rw [e1] at h2; exact h2.elim
  | some w =>
    cases e2 : getOV ov2 env2 with
    | none => dsimp only at h2; rw [e1, e2] at h2; cases w <;> exact h2.elim
    | some w2 =>
      dsimp only at h2
      rw [e1, e2] at h2
      cases w with
      | int i =>
        cases w2 with
        | int j =>
          dsimp only at h2
          by_cases c : smallI i = true ∧ smallI j = true
          · rw [if_pos c] at h2
            obtain ⟨b1, b2⟩ := smallI_is c.1
            obtain ⟨b3, b4⟩ := smallI_is c.2
            have z := h2 G2 H2 Step.refl ok2 _ _ _ it_rng
            exact ⟨i, j, by rw [(cur_of ok2 rep' e1).int, (cur_of ok2 rep2 e2).int], ⟨b1, b2, b3, b4⟩, z⟩
          · rw [if_neg c] at h2
            exact h2.elim
        | _ => exact h2.elim
      | _ => exact h2.elim
end
/-! ### for, while -/
def forL (t : Tg) (f : SF) : List W → SF
  | [], env => .nx env
  | w :: ws, env => match bindT t w env with
    | none => .bad
    | some env1 => match f env1 with
      | .nx e => forL t f ws e
      | .ct e => forL t f ws e
      | .bk e => .nx e
      | r => r
def sFor (it : Ev → Res (List W)) (t : Tg) (f : SF) : SF := fun env => (it env).andS fun ws env => forL t f ws env
def whileL (c : TF) (f : SF) : Nat → SF
  | 0, _ => .bad
  | n + 1, env => (c env).andS fun b env => if b = true then (match f env with
      | .nx e => whileL c f n e
      | .ct e => whileL c f n e
      | .bk e => .nx e
      | r => r) else .nx env
section
variable {X : Cx} {ci : Nat → Addr} {BS : List Nat} {tg iter c : Expr} {it : Ev → Res (List W)} {t : Tg} {tc : TF} {f : SF} {body : List Stmt} {pos : Pos}
theorem acc_turn {W' : WX} {s : Sta} {D : Ends} {r : SR} {k : SF} {N : St → Hp → Prop} (h : AccS X.K ci BS W' s D (match r with | .nx e => k e | .ct e => k e | .bk e => .nx e | r => r))
    (hN : ∀ e σ' G' H', Stp BS s ⟨e, σ', G', H'⟩ → Ok X.K ci ⟨e, σ', G', H'⟩ → AccS X.K ci BS W' ⟨e, σ', G', H'⟩ D (k e) → N σ' H') : AccS X.K ci BS W' s { D with nx := N, ct := N, bk := D.nx } r := by
  cases r with
  | nx e => exact fun σ' G' H' st ok => hN e σ' G' H' st ok (AccS.mid h st)
  | ct e => exact fun σ' G' H' st ok => hN e σ' G' H' st ok (AccS.mid h st)
  | bk e => exact h
  | bad => exact h
  | rt w e => exact h
  | rn w e => exact h
  | er x e => exact h
theorem s_for (hp : PassesOwn (model X.prog X.w) X.A X.env X.xe) (hc : X.calm = true) (hi : SndI X ci BS tg iter it) (hg : SndG X ci BS tg t) (hb : SndSs X ci BS body f) (hs : ∀ x, foldedSetIterable iter X.env x = pure x := by intro _; rfl) : SndS X ci BS (.For tg iter body [] pos) (sFor it t f) := by
  obtain ⟨wi, p, q⟩ := hi.ex
  obtain ⟨g, pg, qg⟩ := hg.ex
  obtain ⟨tb, pb, qb⟩ := hb.ex
  refine ⟨⟨fun W' => tFor (wi W') g (tb W'), fun W' tk => ps_for hp hc (p W' tk) pg (pb W' tk) hs, fun W' s D ok h => ?_⟩⟩
  refine q W' s _ ok (h.andS.imp fun ws env1 G1 H1 st1 ok1 h1 => ?_)
  intro J Gp Y io
  refine for_it io.walk (fun i σ H => ∃ m' : Sta, m'.σ = σ ∧ m'.H = H ∧ Ok X.K ci m' ∧ Same G1 m'.G ∧ AccS X.K ci BS W' m' D (forL t f (ws.drop i) m'.env)) ⟨⟨env1, s.σ, G1, H1⟩, rfl, rfl, ok1, Same.refl _, h1⟩ ?_ ?_ ?_
  · rintro i σ H hi ⟨m', rfl, rfl, ok', sm, _⟩
    exact io.stays m' ok' sm
  · rintro i x σ H H' hi ⟨m', rfl, rfl, ok', sm, acc⟩ y
    obtain ⟨w, G2, hw, st2, ok2, rv⟩ := io.gives m' i x H' ok' sm hi y
    have hd : ws.drop i = w :: ws.drop (i + 1) := by
      obtain ⟨hi', e⟩ := List.getElem?_eq_some_iff.mp hw
      rw [List.drop_eq_getElem_cons hi', e]
    rw [hd] at acc
    unfold forL at acc
    cases e1 : bindT t w m'.env with
    | none => rw [e1] at acc; exact acc.elim
    | some env2 =>
      rw [e1] at acc
      dsimp only at acc
      refine qg ⟨m'.env, m'.σ, G2, H'⟩ x w env2 _ ok2 rv e1 fun σ2 st3 ok3 _ _ => ?_
      refine qb W' ⟨env2, σ2, G2, H'⟩ _ ok3 ?_
      have acc' := AccS.mid (m := ⟨env2, σ2, G2, H'⟩) acc (Step.trans st2 st3)
      exact acc_turn acc' fun e σ' G' H'' st ok h' => ⟨⟨e, σ', G', H''⟩, rfl, rfl, ok, sm.trans (st2.sub.trans (st3.sub.trans st.sub)), h'⟩
  · rintro σ H ⟨m', rfl, rfl, ok', sm, acc⟩
    rw [List.drop_length] at acc
    exact acc m'.σ m'.G m'.H Step.refl ok'
theorem s_while (n : Nat) (hp : PassesOwn (model X.prog X.w) X.A X.env X.xe) (hc : SndT X ci BS c tc) (hb : SndSs X ci BS body f) : SndS X ci BS (.While c body [] pos) (whileL tc f n) := by
  obtain ⟨t, p, q⟩ := hc.ex
  obtain ⟨tb, pb, qb⟩ := hb.ex
  refine ⟨⟨fun W' => tWhile (t W') (tb W'), fun W' tk => ps_while hp (p W' tk) (pb W' tk), fun W' s D ok h => ?_⟩⟩
  refine ⟨fun k σ H => ∃ m' : Sta, m'.σ = σ ∧ m'.H = H ∧ Ok X.K ci m' ∧ AccS X.K ci BS W' m' D (whileL tc f k m'.env), ⟨n, s, rfl, rfl, ok, h⟩, ?_⟩
  rintro k σ H ⟨m', rfl, rfl, ok', acc⟩
  cases k with
  | zero => exact acc.elim
  | succ k =>
    refine q W' m' _ ok' (acc.andS.imp fun b env1 G1 H1 st1 ok1 h1 => ?_)
    cases b with
    | true =>
      refine ⟨fun σ' H' => ∃ m'' : Sta, m''.σ = σ' ∧ m''.H = H' ∧ Ok X.K ci m'' ∧ AccS X.K ci BS W' m'' D (whileL tc f k m''.env), fun σ' H' z => ⟨k, Nat.lt_succ_self k, z⟩, ?_⟩
      refine qb W' ⟨env1, m'.σ, G1, H1⟩ _ ok1 ?_
      exact acc_turn (k := whileL tc f k) h1 fun e σ' G' H'' st ok h' => ⟨⟨e, σ', G', H''⟩, rfl, rfl, ok, h'⟩
    | false => exact h1 m'.σ G1 H1 Step.refl ok1
end
end BV

set_option maxRecDepth 100000
set_option maxHeartbeats 4000000
/-! BV: list comprehensions. -/
namespace BV
open PySem PySem.Spec L2
def wipeE (env : Ev) : List Nat → Ev
  | [] => env
  | v :: vs => (wipeE env vs).set v .no
def restE (env env4 : Ev) : List Nat → Ev
  | [] => env4
  | v :: vs => (restE env env4 vs).set v ((env[v]?).getD .no)
theorem wipeE_len (env : Ev) : ∀ vs : List Nat, (wipeE env vs).length = env.length
  | [] => rfl
  | v :: vs => by unfold wipeE; rw [List.length_set, wipeE_len env vs]
theorem wipeE_out {env : Ev} {j : Nat} : ∀ {vs : List Nat}, j ∉ vs → (wipeE env vs)[j]? = env[j]?
  | [], _ => rfl
  | v :: vs, h => by
    rw [List.mem_cons, not_or] at h
    unfold wipeE
    rw [List.getElem?_set_ne (Ne.symm h.1), wipeE_out h.2]
theorem wipeE_in {env : Ev} {j : Nat} {sl : Sl} : ∀ {vs : List Nat}, j ∈ vs → (wipeE env vs)[j]? = some sl → sl = .no
  | [], h, _ => by cases h
  | v :: vs, h, e => by
    unfold wipeE at e
    by_cases hv : v = j
    · subst hv
      by_cases hl : v < (wipeE env vs).length
      · rw [List.getElem?_set_self hl] at e
        exact (Option.some.inj e).symm
      · rw [List.getElem?_eq_none (by rw [List.length_set]; omega)] at e
        cases e
    · rw [List.getElem?_set_ne hv] at e
      rcases List.mem_cons.mp h with z | z
      · exact absurd z.symm hv
      · exact wipeE_in z e
theorem restE_len (env env4 : Ev) : ∀ vs : List Nat, (restE env env4 vs).length = env4.length
  | [] => rfl
  | v :: vs => by unfold restE; rw [List.length_set, restE_len env env4 vs]
theorem restE_out {env env4 : Ev} {j : Nat} : ∀ {vs : List Nat}, j ∉ vs → (restE env env4 vs)[j]? = env4[j]?
  | [], _ => rfl
  | v :: vs, h => by
    rw [List.mem_cons, not_or] at h
    unfold restE
    rw [List.getElem?_set_ne (Ne.symm h.1), restE_out h.2]
theorem restE_in {env env4 : Ev} {j : Nat} (hl : env.length = env4.length) : ∀ {vs : List Nat}, j ∈ vs → (restE env env4 vs)[j]? = env[j]?
  | [], h => by cases h
  | v :: vs, h => by
    unfold restE
    by_cases hv : v = j
    · subst hv
      by_cases hj : v < env.length
      · rw [List.getElem?_set_self (by rw [restE_len]; omega), List.getElem?_eq_getElem hj]
        rfl
      · rw [List.getElem?_eq_none (by rw [List.length_set, restE_len]; omega), List.getElem?_eq_none (by omega)]
    · rw [List.getElem?_set_ne hv]
      rcases List.mem_cons.mp h with z | z
      · exact absurd z.symm hv
      · exact restE_in hl z
theorem wipe_out' {σ : L2.St} {j : Nat} {vs : List Nat} (h : j ∉ vs) : (wipe σ vs)[j]? = σ[j]? := wipe_out h
theorem wipe_eq {σ σ2 : L2.St} {vs : List Nat} (hl : σ2.length = σ.length) (h : ∀ j, j ∉ vs → σ2[j]? = (wipe σ vs)[j]?) : wipe σ2 vs = wipe σ vs := by
  apply List.ext_getElem?
  intro j
  by_cases hj : j ∈ vs
  · have none_in : ∀ {τ : L2.St} {vs : List Nat}, j ∈ vs → (wipe τ vs)[j]? = if j < τ.length then some none else none := by
      intro τ vs
      induction vs with
      | nil => intro h; cases h
      | cons v vs ih =>
        intro h
        unfold wipe
        by_cases hv : v = j
        · subst hv
          by_cases hj : v < τ.length
          · rw [List.getElem?_set_self (by rw [wipe_length]; exact hj), if_pos hj]
          · rw [List.getElem?_eq_none (by rw [List.length_set, wipe_length]; omega), if_neg hj]
        · rw [List.getElem?_set_ne hv]
          rcases List.mem_cons.mp h with z | z
          · exact absurd z.symm hv
          · exact ih z
    rw [none_in hj, none_in hj, hl]
  · rw [wipe_out' hj, h j hj]
section
variable {K : PySem.W.Frag} {ci : Nat → Addr} {BS vs : List Nat} {env env4 : Ev} {σ σ2 : L2.St} {G G4 H H4 : Hp}
theorem wipe_ok (ok : Ok K ci ⟨env, σ, G, H⟩) (hv : ∀ i ∈ BS, i ∉ vs) : Stp BS ⟨env, σ, G, H⟩ ⟨wipeE env vs, wipe σ vs, G, H⟩ ∧ Ok K ci ⟨wipeE env vs, wipe σ vs, G, H⟩ := by
  have out : ∀ {j : Nat} {sl : Sl}, (wipeE env vs)[j]? = some sl → sl ≠ .no → j ∉ vs ∧ env[j]? = some sl := fun {j sl} h ns => by
    by_cases hj : j ∈ vs
    · exact absurd (wipeE_in hj h) ns
    · rw [wipeE_out hj] at h
      exact ⟨hj, h⟩
  have own : ∀ {j : Nat} {a : Addr}, OwnAt (wipeE env vs) (wipe σ vs) j a → OwnAt env σ j a := fun {j a} ⟨⟨u, h⟩, q⟩ => by
    obtain ⟨hj, h'⟩ := out h (fun z => nomatch z)
    rw [wipe_out' hj] at q
    exact ⟨⟨u, h'⟩, q⟩
  refine ⟨⟨Same.refl _, fun _ _ h _ => h, fun _ _ h _ => h, fun _ h => h, fun j a h => ?_, fun j hj => ⟨wipe_out' (hv j hj), fun ⟨u, h⟩ => ⟨u, ?_⟩⟩⟩, ⟨ok.sub, by rw [wipeE_len, wipe_length]; exact ok.len, fun j u h => ?_, fun j u h => ?_, fun j k a h1 h2 => ok.inj j k a (own h1) (own h2)⟩⟩
  · by_cases hB : j ∈ BS
    · exact .inl ⟨hB, own h⟩
    · exact .inr ⟨hB, .inr ⟨j, hB, own h⟩⟩
  · show (wipeE env vs)[j]? = _
    rw [wipeE_out (hv j hj)]
    exact h
  · obtain ⟨hj, h'⟩ := out h (fun z => nomatch z)
    obtain ⟨v, q1, q2⟩ := ok.dat j u h'
    exact ⟨v, (wipe_out' hj).trans q1, q2⟩
  · obtain ⟨hj, h'⟩ := out h (fun z => nomatch z)
    obtain ⟨v, q1, q2⟩ := ok.own j u h'
    exact ⟨v, (wipe_out' hj).trans q1, q2⟩
/-- the block's own slots get back what they had -/
theorem rest_ok (ok : Ok K ci ⟨env, σ, G, H⟩) (ok4 : Ok K ci ⟨env4, σ2, G4, H4⟩) (st : Stp BS ⟨env, σ, G, H⟩ ⟨env4, σ2, G4, H4⟩) (st' : Stp BS ⟨wipeE env vs, wipe σ vs, G, H⟩ ⟨env4, σ2, G4, H4⟩) (hv : ∀ i ∈ BS, i ∉ vs) (hl : σ2.length = σ.length) (hσ : ∀ j, j ∉ vs → σ2[j]? = σ[j]?) :
    Stp BS ⟨env, σ, G, H⟩ ⟨restE env env4 vs, σ, G4, H4⟩ ∧ Ok K ci ⟨restE env env4 vs, σ, G4, H4⟩ := by
  have le : env.length = env4.length := by
    have a : env.length = σ.length := ok.len
    have b : env4.length = σ2.length := ok4.len
    omega
  have inn : ∀ {j : Nat}, j ∈ vs → (restE env env4 vs)[j]? = env[j]? := fun {j} hj => restE_in le hj
  have outt : ∀ {j : Nat}, j ∉ vs → (restE env env4 vs)[j]? = env4[j]? := fun {j} hj => restE_out hj
  have own : ∀ {j : Nat} {a : Addr}, OwnAt (restE env env4 vs) σ j a → (j ∈ vs ∧ OwnAt env σ j a) ∨ (j ∉ vs ∧ OwnAt env4 σ2 j a) := fun {j a} ⟨⟨u, h⟩, q⟩ => by
    by_cases hj : j ∈ vs
    · exact .inl ⟨hj, ⟨u, by rw [inn hj] at h; exact h⟩, q⟩
    · exact .inr ⟨hj, ⟨u, by rw [outt hj] at h; exact h⟩, by rw [hσ j hj]; exact q⟩
  -- an object of a wiped slot is no slot's own within
  have noIn : ∀ {j : Nat} {a : Addr}, j ∈ vs → OwnAt env σ j a → ∀ i, ¬ OwnAt (wipeE env vs) (wipe σ vs) i a := fun {j a} hj h i ⟨⟨u, hu⟩, q⟩ => by
    by_cases hi : i ∈ vs
    · have z := wipeE_in hi hu
      cases z
    · rw [wipeE_out hi] at hu
      rw [wipe_out' hi] at q
      have e := ok.inj i j a ⟨⟨u, hu⟩, q⟩ h
      exact hi (e ▸ hj)
  refine ⟨⟨st.sub, st.keep, st.pers, st.here, fun j a h => ?_, fun j hj => ?_⟩, ⟨ok4.sub, by rw [restE_len]; show env4.length = σ.length; rw [← le]; exact ok.len, fun j u h => ?_, fun j u h => ?_, fun j k a h1 h2 => ?_⟩⟩
  · rcases own h with ⟨hj, q⟩ | ⟨hj, q⟩
    · have hB : j ∉ BS := fun z => hv j z hj
      exact .inr ⟨hB, .inr ⟨j, hB, q⟩⟩
    · exact st.new j a q
  · refine ⟨rfl, fun z => ?_⟩
    obtain ⟨u, q⟩ := (st.bs j hj).2 z
    refine ⟨u, ?_⟩
    show (restE env env4 vs)[j]? = _
    rw [outt (hv j hj)]
    exact q
  · by_cases hj : j ∈ vs
    · have h' : (restE env env4 vs)[j]? = some (.dat u) := h
      rw [inn hj] at h'
      obtain ⟨v, q1, q2⟩ := ok.dat j u h'
      exact ⟨v, q1, q2.mono st.sub⟩
    · have h' : (restE env env4 vs)[j]? = some (.dat u) := h
      rw [outt hj] at h'
      obtain ⟨v, q1, q2⟩ := ok4.dat j u h'
      exact ⟨v, by rw [hσ j hj] at q1; exact q1, q2⟩
  · by_cases hj : j ∈ vs
    · have h' : (restE env env4 vs)[j]? = some (.own u) := h
      rw [inn hj] at h'
      obtain ⟨a, q1, q2, q3⟩ := ok.own j u h'
      have nn := noIn hj ⟨⟨u, h'⟩, q1⟩
      exact ⟨a, q1, st'.pers a q3.ne q2 nn, q3.mono st.sub fun o e => st'.keep a o e nn⟩
    · have h' : (restE env env4 vs)[j]? = some (.own u) := h
      rw [outt hj] at h'
      obtain ⟨a, q1, q2, q3⟩ := ok4.own j u h'
      exact ⟨a, by rw [hσ j hj] at q1; exact q1, q2, q3⟩
  · rcases own h1 with ⟨hj, q1⟩ | ⟨hj, q1⟩
    · rcases own h2 with ⟨hk, q2⟩ | ⟨hk, q2⟩
      · exact ok.inj j k a q1 q2
      · exact absurd q2 (st'.notOwn (ok.ownAt q1).2.1 (noIn hj q1) k)
    · rcases own h2 with ⟨hk, q2⟩ | ⟨hk, q2⟩
      · exact absurd q1 (st'.notOwn (ok.ownAt q2).2.1 (noIn hk q2) j)
      · exact ok4.inj j k a q1 q2
end
def compL (t : Tg) (c : TF) (el : EF) (vs : List Nat) : List W → List W → Ev → Res (List W)
  | [], acc, env => .ok acc env
  | w :: ws, acc, env => match bindT t w (wipeE env vs) with
    | none => .bad
    | some env2 => match c env2 with
      | .ok true env3 => (match fE el env3 with
        | .ok (.v y) env4 => if acc.length < 16777216 then compL t c el vs ws (acc ++ [y]) (restE env env4 vs) else .bad
        | _ => .bad)
      | .ok false env3 => compL t c el vs ws acc (restE env env3 vs)
      | _ => .bad
theorem compL_nil {t : Tg} {c : TF} {el : EF} {vs : List Nat} {acc : List W} {env : Ev} : compL t c el vs [] acc env = .ok acc env := rfl
theorem compL_cons {t : Tg} {c : TF} {el : EF} {vs : List Nat} {w : W} {ws acc : List W} {env : Ev} : compL t c el vs (w :: ws) acc env = (match bindT t w (wipeE env vs) with
    | none => .bad
    | some env2 => match c env2 with
      | .ok true env3 => (match fE el env3 with
        | .ok (.v y) env4 => if acc.length < 16777216 then compL t c el vs ws (acc ++ [y]) (restE env env4 vs) else .bad
        | _ => .bad)
      | .ok false env3 => compL t c el vs ws acc (restE env env3 vs)
      | _ => .bad) := rfl
def fYes : TF := fun env => .ok true env
def fLc (it : Ev → Res (List W)) (t : Tg) (c : TF) (el : EF) (vs : List Nat) : EF := fun env => (it env).bind fun ws env => match compL t c el vs ws [] env with
  | .ok ys env => .ok (.n (.lst ys)) env
  | _ => .bad
section
variable {X : Cx} {ci : Nat → Addr} {BS : List Nat} {tg iter elt : Expr} {ifs : List Expr} {scope : Scope} {own : List (Str × Nat)} {it : Ev → Res (List W)} {t : Tg} {c : TF} {el : EF} {pos : Pos}
theorem PE.imp {e : Expr} {t t' : TE} (h : PE X e t) (f : ∀ σ H Q, t' σ H Q → t σ H Q) : PE X e t' := ⟨fun pins s σ H Q I hw => h.run pins s σ H Q I (f σ H Q hw)⟩
theorem PT.imp {e : Expr} {t t' : TT} (h : PT X e t) (f : ∀ σ H Q, t' σ H Q → t σ H Q) : PT X e t' := ⟨fun pins s σ H Q I hw => h.run pins s σ H Q I (f σ H Q hw)⟩
theorem PG.imp {e : Expr} {t t' : TG} (h : PG X e t) (f : ∀ v σ H Q, t' v σ H Q → t v σ H Q) : PG X e t' := ⟨fun pins s σ H v u Q I r hw => h.run pins s σ H v u Q I r (f v σ H Q hw)⟩
structure Blk where
  s : Shared
  H : Hp
  C : Addr
  cl : List (Str × Addr)
  fp : List Addr
abbrev Cx.at (X : Cx) (scope : Scope) (b : Blk) : Cx := X.blk b.s b.H scope (compEnvC scope b.cl b.C X.env) b.fp
/-- the tests of a comprehension's clause -/
inductive SndIfs (X : Cx) (ci : Nat → Addr) (BS : List Nat) (scope : Scope) : List Expr → TF → Prop
  | none : SndIfs X ci BS scope [] fYes
  | one {e : Expr} {c : TF} (h : ∀ b : Blk, SndT (Cx.at X scope b) ci BS e c) : SndIfs X ci BS scope [e] c
theorem SndIfs.ex (h : SndIfs X ci BS scope ifs c) : ∃ tt : TT, (∀ b : Blk, PTs (Cx.at X scope b) ifs tt) ∧ ∀ (s : Sta) (Q : Bool → Hp → Prop), Ok X.K ci s → Acc X.K ci BS (fun _ _ _ _ => False) s (CT Q) (c s.env) → tt s.σ s.H Q := by
  cases h with
  | none => exact ⟨tYes, fun b => pts_nil, fun s Q ok h => h s.G s.H Step.refl ok⟩
  | one h =>
    refine ⟨fun σ H Q => ∀ b, (h b).ex.choose (fun _ _ _ _ => False) σ H Q, fun b => pts_one (PT.imp ((h b).ex.choose_spec.1 _ takes0) fun σ H Q z => z b), fun s Q ok a b => (h b).ex.choose_spec.2 _ s Q ok a⟩
theorem lc_core' {wi : WX → TI} (qi : ∀ (W' : WX) (s : Sta) (R : It → Hp → Prop), Ok X.K ci s → Acc X.K ci BS W' s (fun ws m => ∀ J Gp Y, ItOk X ci BS m ws J Gp Y → R J m.H) (it s.env) → wi W' s.σ s.H R)
    {g : TG} (qg : ∀ (s : Sta) (v : V) (w : W) (env' : Ev) (Q : L2.St → Hp → Prop), Ok X.K ci s → RepV X.K ci s.G v w → bindT t w s.env = some env' → GOut X ci BS s (idxT t) env' Q → g v s.σ s.H Q)
    {tt : TT} (qt : ∀ (s : Sta) (Q : Bool → Hp → Prop), Ok X.K ci s → Acc X.K ci BS (fun _ _ _ _ => False) s (CT Q) (c s.env) → tt s.σ s.H Q)
    {te : TE} (qe : ∀ (s : Sta) (Q : VK), Ok X.K ci s → Acc X.K ci BS (fun _ _ _ _ => False) s (CE X.K ci s Q) (fE el s.env) → te s.σ s.H Q)
    {vs : List Nat} (hv : ∀ i ∈ BS, i ∉ vs) (hi : ∀ j ∈ idxT t, j ∈ vs) (W' : WX) (s : Sta) (Q : VK) (ok : Ok X.K ci s) (h : Acc X.K ci BS W' s (CE X.K ci s Q) (fLc it t c el vs s.env)) : tLc (wi W') g tt te vs s.σ s.H Q := by
  refine qi W' s _ ok (h.bind.imp fun ws env1 G1 H1 st1 ok1 h1 => ?_)
  intro J Gp Y io D hD
  have h1 : Acc X.K ci BS W' ⟨env1, s.σ, G1, H1⟩ (CE X.K ci s Q) (match compL t c el vs ws [] env1 with
    | .ok ys env => .ok (.n (.lst ys)) env
    | _ => .bad) := h1
  have gD : G1 D = none := ok1.sub.free hD
  refine lc_it io.walk (fun i H => ∃ (G : Hp) (env : Ev) (va : List V) (wa : List W), Stp BS ⟨env1, s.σ, G1, H1⟩ ⟨env, s.σ, G, H⟩ ∧ Ok X.K ci ⟨env, s.σ, G, H⟩ ∧ H D = some (.lst va) ∧ RepVs X.K ci G va wa ∧ G D = none ∧ (∀ j, ¬ OwnAt env s.σ j D) ∧
    compL t c el vs ws [] env1 = compL t c el vs (ws.drop i) wa env) ?_ ?_ ?_ ?_
  · obtain ⟨st2, ok2, _, no⟩ := alloc_new (BS := BS) (o := .lst []) ok1 hD
    exact ⟨G1, env1, [], [], st2, ok2, upd_same, .nil, gD, no, rfl⟩
  · rintro i H hi' ⟨G, env, va, wa, st2, ok2, _⟩
    exact io.stays _ ok2 st2.sub
  · rintro i x H H' hi' ⟨G, env, va, wa, st2, ok2, eD, ra, gD', noD, eq⟩ y
    obtain ⟨w, G2, hw, st3, ok3, rv⟩ := io.gives ⟨env, s.σ, G, H⟩ i x H' ok2 st2.sub hi' y
    have hd : ws.drop i = w :: ws.drop (i + 1) := by
      obtain ⟨hl, e⟩ := List.getElem?_eq_some_iff.mp hw
      rw [List.drop_eq_getElem_cons hl, e]
    rw [hd, compL_cons] at eq
    rw [eq] at h1
    have nD : H D ≠ none := by rw [eD]; exact fun z => nomatch z
    have eD3 : H' D = some (.lst va) := st3.keep D _ eD noD
    have gD3 : G2 D = none := st3.pers D nD gD' noD
    have noD3 := st3.notOwn nD noD
    have nD3 : H' D ≠ none := by rw [eD3]; exact fun z => nomatch z
    cases e1 : bindT t w (wipeE env vs) with
    | none => rw [e1] at h1; exact h1.elim
    | some env2 =>
      rw [e1] at h1 eq
      dsimp only at h1 eq
      obtain ⟨stw, okw⟩ := wipe_ok (BS := BS) ok3 hv
      refine qg ⟨wipeE env vs, wipe s.σ vs, G2, H'⟩ x w env2 _ okw rv e1 fun σ2 st4 ok4 l4 k4 => ?_
      have l4' : σ2.length = s.σ.length := l4.trans (wipe_length _ _)
      have k4' : ∀ j, j ∉ vs → σ2[j]? = (wipe s.σ vs)[j]? := fun j hj => k4 j fun z => hj (hi j z)
      have k4'' : ∀ j, j ∉ vs → σ2[j]? = s.σ[j]? := fun j hj => (k4' j hj).trans (wipe_out' hj)
      refine ⟨wipe_eq l4' k4', ?_⟩
      refine qt ⟨env2, σ2, G2, H'⟩ _ ok4 ?_
      -- back to the def's slots
      have fin : ∀ {env5 : Ev} {G5 H5 : Hp}, Stp BS ⟨env2, σ2, G2, H'⟩ ⟨env5, σ2, G5, H5⟩ → Ok X.K ci ⟨env5, σ2, G5, H5⟩ →
          Stp BS ⟨env1, s.σ, G1, H1⟩ ⟨restE env env5 vs, s.σ, G5, H5⟩ ∧ Ok X.K ci ⟨restE env env5 vs, s.σ, G5, H5⟩ ∧ H5 D = some (.lst va) ∧ RepVs X.K ci G5 va wa ∧ G5 D = none ∧ ∀ j, ¬ OwnAt (restE env env5 vs) s.σ j D := fun {env5 G5 H5} st5 ok5 => by
        have stA := Step.trans stw (Step.trans st4 st5)
        obtain ⟨r1, r2⟩ := rest_ok (vs := vs) ok3 ok5 stA (Step.trans st4 st5) hv l4' k4''
        have stB := Step.trans st3 r1
        exact ⟨Step.trans st2 stB, r2, r1.keep D _ eD3 noD3, ra.mono stB.sub, r1.pers D nD3 gD3 noD3, r1.notOwn nD3 noD3⟩
      cases e2 : c env2 with
      | bad => rw [e2] at h1; exact h1.elim
      | er z env' => rw [e2] at h1; exact h1.elim
      | ok b env3 =>
        rw [e2] at h1 eq
        intro G5 H5 st5 ok5
        cases b with
        | false =>
          obtain ⟨f1, f2, f3, f4, f5, f6⟩ := fin st5 ok5
          exact ⟨G5, _, va, wa, f1, f2, f3, f4, f5, f6, eq⟩
        | true =>
          dsimp only at h1 eq
          refine qe ⟨env3, σ2, G5, H5⟩ _ ok5 ?_
          cases e3 : fE el env3 with
          | bad => rw [e3] at h1; exact h1.elim
          | er z env' => rw [e3] at h1; exact h1.elim
          | ok ov env4 =>
            rw [e3] at h1 eq
            cases ov with
            | s j => exact h1.elim
            | n u => exact h1.elim
            | v u =>
              dsimp only at h1 eq
              intro G6 H6 st6 ok6 v rep new
              by_cases hz : wa.length < 16777216
              · rw [if_pos hz] at eq
                obtain ⟨f1, f2, f3, f4, f5, f6⟩ := fin (Step.trans st5 st6) ok6
                refine ⟨va, f3, by rw [sizeLine_eq, f4.length]; exact hz, G6, _, va ++ [v], wa ++ [u], ?_, ?_, upd_same, f4.append (.cons rep .nil), f5, f6, eq⟩
                · have nb : ∀ {a : Addr}, H1 a ≠ none → a ≠ D := fun {a} ha z => ha (z ▸ hD)
                  exact ⟨f1.sub, fun a o ha no => by
                      show upd H6 D _ a = _
                      rw [upd_ne (nb (by rw [show H1 a = some o from ha]; exact fun z => nomatch z))]
                      exact f1.keep a o ha no, f1.pers, fun a ha => by
                      show upd H6 D _ a ≠ none
                      rw [upd_ne (nb ha)]
                      exact f1.here a ha, f1.new, f1.bs⟩
                · refine ⟨fun b o hb => ?_, f2.len, f2.dat, fun j u' hu => ?_, f2.inj⟩
                  · have nb : b ≠ D := fun z => by
                      rw [z] at hb
                      have hb' : G6 D = some o := hb
                      rw [f5] at hb'
                      cases hb'
                    show upd H6 D _ b = _
                    rw [upd_ne nb]
                    exact f2.sub b o hb
                  · obtain ⟨a, q1, q2, q3⟩ := f2.own j u' hu
                    have nb : a ≠ D := fun z => f6 j ⟨⟨u', hu⟩, z ▸ q1⟩
                    exact ⟨a, q1, q2, q3.mono (Same.refl _) fun o hb => by show upd H6 D _ a = _; rw [upd_ne nb]; exact hb⟩
              · rw [if_neg hz] at h1
                exact h1.elim
  · rintro H ⟨G, env, va, wa, st2, ok2, eD, ra, gD', noD, eq⟩
    rw [List.drop_length, compL_nil] at eq
    rw [eq] at h1
    refine h1 G H st2 ok2 (.ref D) ⟨D, rfl, .lst eD ra, gD', noD⟩ fun a e => ?_
    cases e
    cases q : s.H D with
    | none => rfl
    | some o => exact absurd hD (st1.here D (by rw [q]; exact fun z => nomatch z))
theorem x_lc (hc : X.calm = true) (hN : X.N.Nodup) (hi : SndI X ci BS tg iter it) (ok : BlkOk X.N X.env.scope scope own) (hg : ∀ b : Blk, SndG (Cx.at X scope b) ci BS tg t) (ht : SndIfs X ci BS scope ifs c) (he : ∀ b : Blk, SndE (Cx.at X scope b) ci BS elt el)
    (hv : ∀ i ∈ BS, i ∉ own.map (·.2)) (hidx : ∀ j ∈ idxT t, j ∈ own.map (·.2)) (hs : ∀ x, foldedSetIterable iter X.env x = pure x := by intro _; rfl) : SndE X ci BS (.ListComp elt [⟨tg, iter, ifs, 0⟩] scope pos) (fLc it t c el (own.map (·.2))) := by
  obtain ⟨wi, pi, qi⟩ := hi.ex
  obtain ⟨tt, pt, qt⟩ := ht.ex
  have he' : ∀ b : Blk, SndE (Cx.at X scope b) ci BS elt (fE el) := fun b => x_esc (he b)
  refine ⟨⟨fun W' => tLc (wi W') (fun v σ H Q => ∀ b, (hg b).ex.choose v σ H Q) tt (fun σ H Q => ∀ b, (he' b).ex.choose (fun _ _ _ _ => False) σ H Q) (own.map (·.2)), fun W' tk => ?_, fun W' s Q ok h => ?_⟩⟩
  · exact pe_lc hc hN (pi W' tk) ok (fun s H C cl fp => PG.imp ((hg ⟨s, H, C, cl, fp⟩).ex.choose_spec.1) fun v σ H Q z => z _) (fun s H C cl fp => pt ⟨s, H, C, cl, fp⟩) (fun s H C cl fp => PE.imp ((he' ⟨s, H, C, cl, fp⟩).ex.choose_spec.1 _ takes0) fun σ H Q z => z _) hs
  · exact lc_core' qi (g := fun v σ H Q => ∀ b, (hg b).ex.choose v σ H Q) (fun s v w env' Q ok r e o b => (hg b).ex.choose_spec.2 s v w env' Q ok r e o) qt (te := fun σ H Q => ∀ b, (he' b).ex.choose (fun _ _ _ _ => False) σ H Q) (fun s Q ok a b => (he' b).ex.choose_spec.2 _ s Q ok a) hv hidx W' s Q ok h
theorem s_setLc {i : Nat} {y : Str} {py spos : Pos} (hbi : i ∉ BS) (hc : X.calm = true) (hN : X.N.Nodup) (hy : X.N[i]? = some y) (hyl : X.env.scope.names.lookup y = some .local) (hsw : swapsWith (.ListComp elt [⟨tg, iter, ifs, 0⟩] scope pos) (some (.Name y py)) spos.line X.env = pure true)
    (hi : SndI X ci BS tg iter it) (ok : BlkOk X.N X.env.scope scope own) (hg : ∀ b : Blk, SndG (Cx.at X scope b) ci BS tg t) (ht : SndIfs X ci BS scope ifs c) (he : ∀ b : Blk, SndE (Cx.at X scope b) ci BS elt el)
    (hv : ∀ i ∈ BS, i ∉ own.map (·.2)) (hidx : ∀ j ∈ idxT t, j ∈ own.map (·.2)) (hs : ∀ x, foldedSetIterable iter X.env x = pure x := by intro _; rfl) : SndS X ci BS (.Assign [.Name y py] (.ListComp elt [⟨tg, iter, ifs, 0⟩] scope pos) spos) (sOwn i (fLc it t c el (own.map (·.2)))) := by
  obtain ⟨wi, pi, qi⟩ := hi.ex
  obtain ⟨tt, pt, qt⟩ := ht.ex
  have he' : ∀ b : Blk, SndE (Cx.at X scope b) ci BS elt (fE el) := fun b => x_esc (he b)
  refine ⟨⟨fun W' => tAsg (tLc (wi W') (fun v σ H Q => ∀ b, (hg b).ex.choose v σ H Q) tt (fun σ H Q => ∀ b, (he' b).ex.choose (fun _ _ _ _ => False) σ H Q) (own.map (·.2))) (gName i), fun W' tk => ?_, fun W' s D ok h => ?_⟩⟩
  · exact ps_setLc hc hN hy hyl hsw (pi W' tk) ok (fun s H C cl fp => PG.imp ((hg ⟨s, H, C, cl, fp⟩).ex.choose_spec.1) fun v σ H Q z => z _) (fun s H C cl fp => pt ⟨s, H, C, cl, fp⟩) (fun s H C cl fp => PE.imp ((he' ⟨s, H, C, cl, fp⟩).ex.choose_spec.1 _ takes0) fun σ H Q z => z _) hs
  · refine lc_core' qi (g := fun v σ H Q => ∀ b, (hg b).ex.choose v σ H Q) (fun s v w env' Q ok r e o b => (hg b).ex.choose_spec.2 s v w env' Q ok r e o) qt (te := fun σ H Q => ∀ b, (he' b).ex.choose (fun _ _ _ _ => False) σ H Q) (fun s Q ok a b => (he' b).ex.choose_spec.2 _ s Q ok a) hv hidx W' s _ ok ?_
    have h' : AccS X.K ci BS W' s D ((fLc it t c el (own.map (·.2)) s.env).andS fun ov env => match ov with | .n w => .nx (env.set i (.own w)) | _ => .bad) := h
    cases e1 : fLc it t c el (own.map (·.2)) s.env with
    | bad => rw [e1] at h'; exact h'.elim
    | er x env' => rw [e1] at h'; exact fun G' H' cls d st ok rx => h' s.σ G' H' cls d st ok rx
    | ok ov env' =>
      rw [e1] at h'
      cases ov with
      | n w =>
        intro G' H' st ok' v rep new
        obtain ⟨a, rfl, ro, ga, no⟩ := rep
        obtain ⟨st2, ok2⟩ := set_own (s := s) (m := ⟨env', s.σ, G', H'⟩) ok' st hbi ro ga no (new a rfl)
        exact h' _ _ _ st2 ok2
      | _ => exact h'.elim
end
end BV

set_option maxRecDepth 100000
set_option maxHeartbeats 4000000
/-! BV: defs and calls. -/
namespace BV
open PySem PySem.Spec PyProof.Rows L2
inductive CRes where
  | bad | ok (w : W) (outs : List W) | nw (w : W) (outs : List W) | er (x : Exc) (outs : List W)
abbrev FnD := List W → CRes
section
variable (K : PySem.W.Frag) (ci : Nat → Addr) (G H : Hp)
inductive ArgR : List Bool → List V → List W → Prop
  | nil : ArgR [] [] []
  | val {ks : List Bool} {v : V} {vs : List V} {w : W} {ws : List W} (h : RepV K ci G v w) (r : ArgR ks vs ws) : ArgR (false :: ks) (v :: vs) (w :: ws)
  | io {ks : List Bool} {a : Addr} {vs : List V} {w : W} {ws : List W} (g : G a = none) (h : RepO K ci G H a w) (r : ArgR ks vs ws) : ArgR (true :: ks) (.ref a :: vs) (w :: ws)
end
def ios : List Bool → List V → List Addr
  | true :: ks, .ref a :: vs => a :: ios ks vs
  | _ :: ks, _ :: vs => ios ks vs
  | _, _ => []
def ioIdx : Nat → List Bool → List Nat
  | _, [] => []
  | n, true :: ks => n :: ioIdx (n + 1) ks
  | n, false :: ks => ioIdx (n + 1) ks
structure CStep (B : List Addr) (G H G' H' : Hp) : Prop where
  sub : Same G G'
  subH : Same G' H'
  keep : ∀ a o, H a = some o → a ∉ B → H' a = some o
  pers : ∀ a, H a ≠ none → G a = none → G' a = none
  here : ∀ a, H a ≠ none → H' a ≠ none
section
variable (K : PySem.W.Frag) (ci : Nat → Addr)
def OutR (G' H' : Hp) (B : List Addr) (outs : List W) : Prop := Paired (fun a w => RepO K ci G' H' a w ∧ G' a = none) B outs
def AccC (G H : Hp) (B : List Addr) (Q : VK) (E : XK) : CRes → Prop
  | .bad => False
  | .ok w outs => ∀ G' H' v, CStep B G H G' H' → OutR K ci G' H' B outs → RepV K ci G' v w → Q v H'
  | .nw w outs => ∀ G' H' a, CStep B G H G' H' → OutR K ci G' H' B outs → RepO K ci G' H' a w → G' a = none → H a = none → Q (.ref a) H'
  | .er x outs => ∀ G' H' cls d, CStep B G H G' H' → OutR K ci G' H' B outs → RepX K ci G' H' cls d x → E cls d H'
def spF (ks : List Bool) (g : FnD) : Sp := fun vs H Q E => ∃ G args, Same G H ∧ ArgR K ci G H ks vs args ∧ (ios ks vs).Nodup ∧ AccC K ci G H (ios ks vs) Q E (g args)
end
def argEnv : List Bool → List W → Ev
  | true :: ks, w :: ws => .own w :: argEnv ks ws
  | false :: ks, w :: ws => .dat w :: argEnv ks ws
  | _, _ => []
def outsE (env : Ev) : List Nat → Option (List W)
  | [] => some []
  | i :: is => match env[i]? with
    | some (.own w) => (outsE env is).map (w :: ·)
    | _ => none
def fdef (n : Nat) (ks : List Bool) (f : SF) : FnD := fun args => match f (argEnv ks args ++ List.replicate (n - args.length) Sl.no) with
  | .nx env => (match outsE env (ioIdx 0 ks) with | some os => .ok .non os | none => .bad)
  | .rt w env => (match outsE env (ioIdx 0 ks) with | some os => .ok w os | none => .bad)
  | .rn w env => (match outsE env (ioIdx 0 ks) with | some os => .nw w os | none => .bad)
  | .er x env => (match outsE env (ioIdx 0 ks) with | some os => .er x os | none => .bad)
  | _ => .bad
section
variable {K : PySem.W.Frag} {ci : Nat → Addr} {G H G' H' : Hp}
theorem ArgR.len {ks : List Bool} {vs : List V} {ws : List W} (h : ArgR K ci G H ks vs ws) : vs.length = ks.length ∧ ws.length = ks.length := by
  induction h with
  | nil => exact ⟨rfl, rfl⟩
  | val _ _ ih => exact ⟨congrArg (· + 1) ih.1, congrArg (· + 1) ih.2⟩
  | io _ _ _ ih => exact ⟨congrArg (· + 1) ih.1, congrArg (· + 1) ih.2⟩
theorem argEnv_len {ks : List Bool} {vs : List V} {ws : List W} (h : ArgR K ci G H ks vs ws) : (argEnv ks ws).length = ws.length := by
  induction h with
  | nil => rfl
  | val _ _ ih => exact congrArg (· + 1) ih
  | io _ _ _ ih => exact congrArg (· + 1) ih
theorem arg_dat {ks : List Bool} {vs : List V} {ws : List W} (h : ArgR K ci G H ks vs ws) : ∀ {i : Nat} {w : W}, (argEnv ks ws)[i]? = some (.dat w) → ∃ v, vs[i]? = some v ∧ RepV K ci G v w := by
  induction h with
  | nil => intro i w e; cases e
  | val r _ ih =>
    intro i w e
    cases i with
    | zero => cases e; exact ⟨_, rfl, r⟩
    | succ i => exact ih e
  | io g r _ ih =>
    intro i w e
    cases i with
    | zero => cases e
    | succ i => exact ih e
theorem arg_own {ks : List Bool} {vs : List V} {ws : List W} (h : ArgR K ci G H ks vs ws) : ∀ {i n : Nat} {w : W}, (argEnv ks ws)[i]? = some (.own w) → n + i ∈ ioIdx n ks ∧ ∃ a, vs[i]? = some (.ref a) ∧ G a = none ∧ RepO K ci G H a w ∧ a ∈ ios ks vs := by
  induction h with
  | nil => intro i n w e; cases e
  | val r _ ih =>
    intro i n w e
    cases i with
    | zero => cases e
    | succ i =>
      obtain ⟨h1, a, h2, h3, h4, h5⟩ := ih (n := n + 1) e
      refine ⟨?_, a, h2, h3, h4, ?_⟩
      · unfold ioIdx
        rw [show n + (i + 1) = n + 1 + i by omega]
        exact h1
      · unfold ios
        exact h5
  | io g r _ ih =>
    intro i n w e
    cases i with
    | zero =>
      cases e
      exact ⟨by unfold ioIdx; exact List.mem_cons_self .., _, rfl, g, r, by unfold ios; exact List.mem_cons_self ..⟩
    | succ i =>
      obtain ⟨h1, a, h2, h3, h4, h5⟩ := ih (n := n + 1) e
      refine ⟨?_, a, h2, h3, h4, by unfold ios; exact List.mem_cons_of_mem _ h5⟩
      unfold ioIdx
      rw [show n + (i + 1) = n + 1 + i by omega]
      exact List.mem_cons_of_mem _ h1
theorem arg_inj {ks : List Bool} {vs : List V} {ws : List W} (h : ArgR K ci G H ks vs ws) : (ios ks vs).Nodup → ∀ {i j : Nat} {w u : W} {a : Addr}, (argEnv ks ws)[i]? = some (.own w) → (argEnv ks ws)[j]? = some (.own u) → vs[i]? = some (.ref a) → vs[j]? = some (.ref a) → i = j := by
  induction h with
  | nil => intro _ i j w u a e; cases e
  | val r _ ih =>
    intro nd i j w u a e1 e2 q1 q2
    cases i with
    | zero => cases e1
    | succ i =>
      cases j with
      | zero => cases e2
      | succ j => exact congrArg (· + 1) (ih nd e1 e2 q1 q2)
  | @io ks b vs w0 ws g r rr ih =>
    intro nd i j w u a e1 e2 q1 q2
    unfold ios at nd
    obtain ⟨n1, n2⟩ := List.nodup_cons.mp nd
    cases i with
    | zero =>
      cases j with
      | zero => rfl
      | succ j =>
        obtain ⟨_, c, p1, _, _, p2⟩ := arg_own (n := 0) rr e2
        have q2' : vs[j]? = some (.ref a) := q2
        rw [p1] at q2'
        have ec : c = a := V.ref.inj (Option.some.inj q2')
        have eb : b = a := V.ref.inj (Option.some.inj q1)
        rw [ec, ← eb] at p2
        exact absurd p2 n1
    | succ i =>
      cases j with
      | zero =>
        obtain ⟨_, c, p1, _, _, p2⟩ := arg_own (n := 0) rr e1
        have q1' : vs[i]? = some (.ref a) := q1
        rw [p1] at q1'
        have ec : c = a := V.ref.inj (Option.some.inj q1')
        have eb : b = a := V.ref.inj (Option.some.inj q2)
        rw [ec, ← eb] at p2
        exact absurd p2 n1
      | succ j => exact congrArg (· + 1) (ih n2 e1 e2 q1 q2)
/-- the borrowed objects at the end -/
theorem outs_ok {ks : List Bool} {vs : List V} {ws : List W} (h : ArgR K ci G H ks vs ws) {env' : Ev} : ∀ {n : Nat} {outs : List W}, (∀ i a, vs[i]? = some (.ref a) → n + i ∈ ioIdx n ks → ∀ w, env'[n + i]? = some (.own w) → RepO K ci G' H' a w ∧ G' a = none) → outsE env' (ioIdx n ks) = some outs → OutR K ci G' H' (ios ks vs) outs := by
  induction h with
  | nil =>
    intro n outs _ e
    cases e
    exact .nil
  | @val ks v vs w ws r _ ih =>
    intro n outs hh e
    unfold ios
    refine ih (n := n + 1) (fun i a q m w e2 => hh (i + 1) a q ?_ w (by rw [show n + (i + 1) = n + 1 + i by omega]; exact e2)) e
    unfold ioIdx
    rw [show n + (i + 1) = n + 1 + i by omega]
    exact m
  | @io ks b vs w ws g r _ ih =>
    intro n outs hh e
    unfold ioIdx outsE at e
    unfold ios
    cases e1 : env'[n]? with
    | none => rw [e1] at e; cases e
    | some sl =>
      rw [e1] at e
      cases sl with
      | no => cases e
      | dat w => cases e
      | own u =>
        have e : (outsE env' (ioIdx (n + 1) ks)).map (u :: ·) = some outs := e
        cases e2 : outsE env' (ioIdx (n + 1) ks) with
        | none => rw [e2] at e; cases e
        | some os =>
          rw [e2] at e
          cases e
          refine .cons (hh 0 b rfl (by unfold ioIdx; exact List.mem_cons_self ..) u e1) (ih (n := n + 1) (fun i a q m w e2 => hh (i + 1) a q ?_ w (by rw [show n + (i + 1) = n + 1 + i by omega]; exact e2)) e2)
          unfold ioIdx
          rw [show n + (i + 1) = n + 1 + i by omega]
          exact List.mem_cons_of_mem _ m
theorem get_app_rep {l : Ev} {k i : Nat} {sl : Sl} (h : (l ++ List.replicate k .no)[i]? = some sl) (ns : sl ≠ .no) : l[i]? = some sl := by
  by_cases hi : i < l.length
  · rw [List.getElem?_append_left hi] at h
    exact h
  · rw [List.getElem?_append_right (by omega)] at h
    have z := List.mem_of_getElem? h
    rw [List.mem_replicate] at z
    exact absurd z.2 ns
theorem start_ok {N : List Str} {ks : List Bool} {vs : List V} {ws : List W} (sub : Same G H) (h : ArgR K ci G H ks vs ws) (nd : (ios ks vs).Nodup) :
    Ok K ci ⟨argEnv ks ws ++ List.replicate (N.length - ws.length) Sl.no, L2.start N vs, G, H⟩ := by
  obtain ⟨l1, l2⟩ := h.len
  have hs : ∀ {i : Nat} {v : V}, vs[i]? = some v → (L2.start N vs)[i]? = some (some v) := fun {i v} e => by
    unfold L2.start
    have hi : i < vs.length := (List.getElem?_eq_some_iff.mp e).1
    rw [List.getElem?_append_left (by rw [List.length_map]; exact hi), List.getElem?_map, e]
    rfl
  refine ⟨sub, ?_, fun i w e => ?_, fun i w e => ?_, fun i j a h1 h2 => ?_⟩
  · show (argEnv ks ws ++ List.replicate (N.length - ws.length) Sl.no).length = (L2.start N vs).length
    unfold L2.start
    rw [List.length_append, List.length_append, argEnv_len h, List.length_replicate, List.length_map, List.length_replicate, l1, l2]
  · obtain ⟨v, q1, q2⟩ := arg_dat h (get_app_rep e (fun z => nomatch z))
    exact ⟨v, hs q1, q2⟩
  · obtain ⟨_, a, q1, q2, q3, _⟩ := arg_own (n := 0) h (get_app_rep e (fun z => nomatch z))
    exact ⟨a, hs q1, q2, q3⟩
  · obtain ⟨⟨u1, e1⟩, p1⟩ := h1
    obtain ⟨⟨u2, e2⟩, p2⟩ := h2
    have e1' := get_app_rep e1 (fun z => nomatch z)
    have e2' := get_app_rep e2 (fun z => nomatch z)
    obtain ⟨_, b, q1, _⟩ := arg_own (n := 0) h e1'
    obtain ⟨_, c, q2, _⟩ := arg_own (n := 0) h e2'
    have r1 := hs q1
    have r2 := hs q2
    rw [p1] at r1
    rw [p2] at r2
    cases r1
    cases r2
    exact arg_inj h nd e1' e2' q1 q2
theorem start_own {N : List Str} {ks : List Bool} {vs : List V} {ws : List W} (h : ArgR K ci G H ks vs ws) {i : Nat} {a : Addr} (o : OwnAt (argEnv ks ws ++ List.replicate (N.length - ws.length) Sl.no) (L2.start N vs) i a) : i ∈ ioIdx 0 ks ∧ a ∈ ios ks vs := by
  obtain ⟨⟨u, e⟩, p⟩ := o
  obtain ⟨m, b, q, _, _, m2⟩ := arg_own (n := 0) h (get_app_rep e (fun z => nomatch z))
  have hs : (L2.start N vs)[i]? = some (some (.ref b)) := by
    unfold L2.start
    have hi : i < vs.length := (List.getElem?_eq_some_iff.mp q).1
    rw [List.getElem?_append_left (by rw [List.length_map]; exact hi), List.getElem?_map, q]
    rfl
  rw [p] at hs
  cases hs
  rw [Nat.zero_add] at m
  exact ⟨m, m2⟩
theorem own_start {N : List Str} {ks : List Bool} {vs : List V} {ws : List W} (h : ArgR K ci G H ks vs ws) : ∀ {i n : Nat}, n + i ∈ ioIdx n ks → ∃ w a, (argEnv ks ws)[i]? = some (.own w) ∧ vs[i]? = some (.ref a) := by
  have low : ∀ {ks : List Bool} {n m : Nat}, m ∈ ioIdx n ks → n ≤ m := by
    intro ks
    induction ks with
    | nil => intro n m h; cases h
    | cons b ks ih =>
      intro n m h
      cases b with
      | true =>
        unfold ioIdx at h
        rcases List.mem_cons.mp h with z | z
        · omega
        · have := ih z; omega
      | false =>
        unfold ioIdx at h
        have := ih h; omega
  induction h with
  | nil => intro i n m; cases m
  | val r _ ih =>
    intro i n m
    unfold ioIdx at m
    cases i with
    | zero => have := low m; omega
    | succ i =>
      rw [show n + (i + 1) = n + 1 + i by omega] at m
      exact ih m
  | io g r _ ih =>
    intro i n m
    unfold ioIdx at m
    cases i with
    | zero => exact ⟨_, _, rfl, rfl⟩
    | succ i =>
      rw [show n + (i + 1) = n + 1 + i by omega] at m
      rcases List.mem_cons.mp m with z | z
      · omega
      · exact ih z
/-- a def's end, for its caller -/
theorem cstep_of {N : List Str} {ks : List Bool} {vs : List V} {ws : List W} (h : ArgR K ci G H ks vs ws) {env' : Ev} {σ' : L2.St}
    (st : Stp (ioIdx 0 ks) ⟨argEnv ks ws ++ List.replicate (N.length - ws.length) Sl.no, L2.start N vs, G, H⟩ ⟨env', σ', G', H'⟩) (ok' : Ok K ci ⟨env', σ', G', H'⟩) :
    CStep (ios ks vs) G H G' H' ∧ ∀ outs, outsE env' (ioIdx 0 ks) = some outs → OutR K ci G' H' (ios ks vs) outs := by
  have key : ∀ i a, vs[i]? = some (.ref a) → 0 + i ∈ ioIdx 0 ks → ∀ w, env'[0 + i]? = some (.own w) → RepO K ci G' H' a w ∧ G' a = none := fun i a q m w e => by
    obtain ⟨b, p1, p2, p3⟩ := ok'.own (0 + i) w e
    have z := (st.bs (0 + i) m).1
    have hs : (L2.start N vs)[0 + i]? = some (some (.ref a)) := by
      rw [Nat.zero_add]
      unfold L2.start
      have hi : i < vs.length := (List.getElem?_eq_some_iff.mp q).1
      rw [List.getElem?_append_left (by rw [List.length_map]; exact hi), List.getElem?_map, q]
      rfl
    have z' : σ'[0 + i]? = some (some (.ref a)) := z.trans hs
    rw [p1] at z'
    cases z'
    exact ⟨p3, p2⟩
  refine ⟨⟨st.sub, ok'.sub, fun a o e n => st.keep a o e fun i w => n (start_own h w).2, fun a e g => ?_, st.here⟩, fun outs e => outs_ok h key e⟩
  by_cases hh : ∃ i, OwnAt (argEnv ks ws ++ List.replicate (N.length - ws.length) Sl.no) (L2.start N vs) i a
  · obtain ⟨i, o⟩ := hh
    obtain ⟨m, _⟩ := start_own h o
    obtain ⟨z1, z2⟩ := st.bs i m
    obtain ⟨w, e2⟩ := z2 o.1
    obtain ⟨b, p1, p2, p3⟩ := ok'.own i w e2
    have z' : σ'[i]? = some (some (.ref a)) := z1.trans o.2
    rw [p1] at z'
    cases z'
    exact p2
  · exact st.pers a e g fun i w => hh ⟨i, w⟩
end
section
variable {P : Program} {w : World} {K : PySem.W.Frag} {mg : Str → Option Value} {base : Heap} {ci : Nat → Addr}
theorem fn_zero {k : Nat} {f : Addr} {fd : FuncData} {ps : List Str} {ks : List Bool} (hk : ks.length = ps.length) : FnOk P w K mg base (L2.CX P w) k f fd ps (spF K ci ks fun _ => .bad) :=
  ⟨fun vs H Q E ⟨G, args, _, r, _⟩ => by rw [r.len.1, hk], fun A outer s H args us vs Q E _ _ _ _ ⟨G, a, _, _, _, z⟩ => z.elim⟩
/-- THE RULE of a def -/
theorem fn_ok {x qual : Str} {st : Stmt} {f : Addr} {fd : FuncData} {N ps : List Str} {k : Nat} {ks : List Bool} {sf : SF} (F : Fun K x qual st f fd) (S : FnScope N ps (defScope st)) (hk : ks.length = ps.length)
    (body : ∀ (cdv : Value) (A : Around) (outer : List Env) (s : Shared) (H : Hp) (E : XK), Room k (A.deeper (envOfC qual (defScope st) s.heap.objs.size f cdv)) → SndSs (cxOf (L2.CX P w) P w K mg base N qual (defScope st) f cdv A outer s H E) ci (ioIdx 0 ks) (defBody st) sf) :
    FnOk P w K mg base (L2.CX P w) (k + 1) f fd ps (spF K ci ks (fdef N.length ks sf)) := by
  refine F.okX S (fun vs H Q E ⟨G, args, _, r, _⟩ => by rw [r.len.1, hk]) (fun cdv A outer s H vs Q E hr hsp => ?_)
  obtain ⟨G, args, sub, ar, nd, acc⟩ := hsp
  obtain ⟨ts, p, q⟩ := (body cdv A outer s H E hr).ex
  refine ⟨ts fun cls d _ H => E cls d H, p _ (takes_of rfl rfl rfl rfl), ?_⟩
  refine q (fun cls d _ H => E cls d H) ⟨argEnv ks args ++ List.replicate (N.length - args.length) Sl.no, L2.start N vs, G, H⟩ _ (start_ok sub ar nd) ?_
  unfold fdef at acc
  cases e : sf (argEnv ks args ++ List.replicate (N.length - args.length) Sl.no) with
  | bad => rw [e] at acc; exact acc.elim
  | bk env => rw [e] at acc; exact acc.elim
  | ct env => rw [e] at acc; exact acc.elim
  | nx env =>
    rw [e] at acc
    dsimp only at acc
    cases e2 : outsE env (ioIdx 0 ks) with
    | none => rw [e2] at acc; exact acc.elim
    | some os =>
      rw [e2] at acc
      intro σ' G' H' st' ok'
      obtain ⟨c1, c2⟩ := cstep_of ar st' ok'
      exact acc G' H' .non c1 (c2 _ e2) .non
  | rt r env =>
    rw [e] at acc
    dsimp only at acc
    cases e2 : outsE env (ioIdx 0 ks) with
    | none => rw [e2] at acc; exact acc.elim
    | some os =>
      rw [e2] at acc
      intro σ' G' H' v st' ok' rv
      obtain ⟨c1, c2⟩ := cstep_of ar st' ok'
      exact acc G' H' v c1 (c2 _ e2) rv
  | rn r env =>
    rw [e] at acc
    dsimp only at acc
    cases e2 : outsE env (ioIdx 0 ks) with
    | none => rw [e2] at acc; exact acc.elim
    | some os =>
      rw [e2] at acc
      intro σ' G' H' a st' ok' ro ga no nw
      obtain ⟨c1, c2⟩ := cstep_of ar st' ok'
      refine acc G' H' a c1 (c2 _ e2) ro ga ?_
      rcases nw with z | ⟨j, hj, z⟩
      · exact z
      · exact absurd (start_own ar z).1 hj
  | er x env =>
    rw [e] at acc
    dsimp only at acc
    cases e2 : outsE env (ioIdx 0 ks) with
    | none => rw [e2] at acc; exact acc.elim
    | some os =>
      rw [e2] at acc
      intro σ' G' H' cls d st' ok' rx
      obtain ⟨c1, c2⟩ := cstep_of ar st' ok'
      exact acc G' H' cls d c1 (c2 _ e2) rx
end
end BV

set_option maxRecDepth 100000
set_option maxHeartbeats 4000000
/-! BV: calls of defs, raise, try, the methods that change a slot's own list. -/
namespace BV
open PySem PySem.Spec PyProof.Rows L2
def mixA : List Bool → List OV → Ev → Option (List W × List Nat)
  | [], [], _ => some ([], [])
  | false :: ks, .v w :: os, env => (mixA ks os env).map fun p => (w :: p.1, p.2)
  | true :: ks, .s i :: os, env => match env[i]? with
    | some (.own w) => (mixA ks os env).map fun p => (w :: p.1, i :: p.2)
    | _ => none
  | _, _, _ => none
def setIo : Ev → List Nat → List W → Ev
  | env, i :: is, w :: ws => setIo (env.set i (.own w)) is ws
  | env, _, _ => env
def fCall (ks : List Bool) (g : FnD) (fa : AF) : EF := fun env => (fa env).bind fun ovs env => match mixA ks ovs env with
  | none => .bad
  | some (args, idx) => if idx.Nodup then (match g args with
    | .ok w outs => .ok (.v w) (setIo env idx outs)
    | .nw w outs => .ok (.n w) (setIo env idx outs)
    | .er x outs => .er x (setIo env idx outs)
    | .bad => .bad) else .bad
section
variable {X : Cx} {ci : Nat → Addr} {BS : List Nat}
theorem mix_ok {m : Sta} (ok : Ok X.K ci m) : ∀ {ks : List Bool} {vs : List V} {ovs : List OV} {args : List W} {idx : List Nat}, Paired (RepOV X.K ci m) vs ovs → mixA ks ovs m.env = some (args, idx) →
    ArgR X.K ci m.G m.H ks vs args ∧ Paired (OwnAt m.env m.σ) idx (ios ks vs) := by
  intro ks
  induction ks with
  | nil =>
    intro vs ovs args idx r e
    cases ovs with
    | nil => cases r; cases e; exact ⟨.nil, .nil⟩
    | cons o os => cases e
  | cons b ks ih =>
    intro vs ovs args idx r e
    cases ovs with
    | nil => cases b <;> cases e
    | cons o os =>
      cases r with
      | @cons v _ vs _ r1 r2 =>
        cases b with
        | false =>
          cases o with
          | s i => cases e
          | n w => cases e
          | v w =>
            unfold mixA at e
            cases q : mixA ks os m.env with
            | none => rw [q] at e; cases e
            | some p =>
              rw [q] at e
              cases e
              obtain ⟨h1, h2⟩ := ih r2 q
              exact ⟨.val r1 h1, by unfold ios; exact h2⟩
        | true =>
          cases o with
          | v w => cases e
          | n w => cases e
          | s i =>
            unfold mixA at e
            cases q0 : m.env[i]? with
            | none => rw [q0] at e; cases e
            | some sl =>
              rw [q0] at e
              cases sl with
              | no => cases e
              | dat w => cases e
              | own w =>
                dsimp only at e
                cases q : mixA ks os m.env with
                | none => rw [q] at e; cases e
                | some p =>
                  rw [q] at e
                  cases e
                  obtain ⟨h1, h2⟩ := ih r2 q
                  obtain ⟨a, p1, p2, p3⟩ := ok.own i w q0
                  have r1' : m.σ[i]? = some (some v) := r1
                  rw [p1] at r1'
                  cases r1'
                  exact ⟨.io p2 p3 h1, by unfold ios; exact .cons ⟨⟨w, q0⟩, p1⟩ h2⟩
theorem ownp_nodup {m : Sta} (ok : Ok X.K ci m) : ∀ {idx : List Nat} {B : List Addr}, Paired (OwnAt m.env m.σ) idx B → idx.Nodup → B.Nodup := by
  intro idx
  induction idx with
  | nil => intro B p _; cases p; exact List.nodup_nil
  | cons i is ih =>
    intro B p nd
    cases p with
    | @cons _ a _ B h r =>
      obtain ⟨n1, n2⟩ := List.nodup_cons.mp nd
      refine List.nodup_cons.mpr ⟨fun hm => ?_, ih r n2⟩
      have : ∀ {is : List Nat} {B : List Addr}, Paired (OwnAt m.env m.σ) is B → a ∈ B → i ∈ is := by
        intro is
        induction is with
        | nil => intro B p h; cases p; cases h
        | cons j js ih2 =>
          intro B p hb
          cases p with
          | cons h' r' =>
            rcases List.mem_cons.mp hb with z | z
            · subst z
              rw [ok.inj i j _ h h']
              exact List.mem_cons_self ..
            · exact List.mem_cons_of_mem _ (ih2 r' z)
      exact n1 (this r hm)
/-- the slots whose objects were borrowed have them back -/
theorem after_io {m : Sta} {G' H' : Hp} : ∀ {idx : List Nat} {B : List Addr} {outs : List W} {env : Ev}, Paired (OwnAt env m.σ) idx B → idx.Nodup → OutR X.K ci G' H' B outs → Ok X.K ci ⟨env, m.σ, G', H'⟩ ∨ True →
    (∀ j, j ∉ idx → (setIo env idx outs)[j]? = env[j]?) ∧ (∀ j a, j ∈ idx → m.σ[j]? = some (some (.ref a)) → ∃ w, (setIo env idx outs)[j]? = some (.own w) ∧ RepO X.K ci G' H' a w ∧ G' a = none) ∧ (setIo env idx outs).length = env.length := by
  intro idx
  induction idx with
  | nil => intro B outs env p nd o _; cases p; cases o; exact ⟨fun _ _ => rfl, fun _ _ h => (by cases h), rfl⟩
  | cons i is ih =>
    intro B outs env p nd o _
    cases p with
    | @cons _ a _ B h r =>
      cases o with
      | @cons _ w _ outs ho ro =>
        obtain ⟨n1, n2⟩ := List.nodup_cons.mp nd
        have il : i < env.length := (List.getElem?_eq_some_iff.mp h.1.choose_spec).1
        have r' : Paired (OwnAt (env.set i (.own w)) m.σ) is B := by
          have : ∀ {is : List Nat} {B : List Addr}, i ∉ is → Paired (OwnAt env m.σ) is B → Paired (OwnAt (env.set i (.own w)) m.σ) is B := by
            intro is
            induction is with
            | nil => intro B _ p; cases p; exact .nil
            | cons j js ih2 =>
              intro B hj p
              rw [List.mem_cons, not_or] at hj
              cases p with
              | cons h' r' => exact .cons ⟨by rw [List.getElem?_set_ne hj.1]; exact h'.1, h'.2⟩ (ih2 hj.2 r')
          exact this n1 r
        obtain ⟨k1, k2, k3⟩ := ih (env := env.set i (.own w)) r' n2 ro (.inr trivial)
        refine ⟨fun j hj => ?_, fun j b hj hb => ?_, ?_⟩
        · rw [List.mem_cons, not_or] at hj
          show (setIo (env.set i (.own w)) is outs)[j]? = _
          rw [k1 j hj.2, List.getElem?_set_ne (Ne.symm hj.1)]
        · rcases List.mem_cons.mp hj with z | z
          · subst z
            rw [h.2] at hb
            cases hb
            refine ⟨w, ?_, ho.1, ho.2⟩
            show (setIo (env.set j (.own w)) is outs)[j]? = _
            rw [k1 j n1, List.getElem?_set_self il]
          · exact k2 j b z hb
        · show (setIo (env.set i (.own w)) is outs).length = _
          rw [k3, List.length_set]
theorem after_call {m : Sta} (ok : Ok X.K ci m) {idx : List Nat} {B : List Addr} {outs : List W} {G' H' : Hp} (p : Paired (OwnAt m.env m.σ) idx B) (nd : idx.Nodup) (c : CStep B m.G m.H G' H') (o : OutR X.K ci G' H' B outs) :
    Stp BS m ⟨setIo m.env idx outs, m.σ, G', H'⟩ ∧ Ok X.K ci ⟨setIo m.env idx outs, m.σ, G', H'⟩ := by
  obtain ⟨k1, k2, k3⟩ := after_io (X := X) (ci := ci) (m := m) (env := m.env) p nd o (.inr trivial)
  have inIdx : ∀ {is : List Nat} {B : List Addr}, Paired (OwnAt m.env m.σ) is B → (∀ j ∈ is, ∃ a, a ∈ B ∧ OwnAt m.env m.σ j a) ∧ (∀ a ∈ B, ∃ j, j ∈ is ∧ OwnAt m.env m.σ j a) := by
    intro is
    induction is with
    | nil => intro B p; cases p; exact ⟨fun _ h => (by cases h), fun _ h => (by cases h)⟩
    | cons i is ih =>
      intro B p
      cases p with
      | @cons _ a _ B h r =>
        obtain ⟨q1, q2⟩ := ih r
        refine ⟨fun j hj => ?_, fun b hb => ?_⟩
        · rcases List.mem_cons.mp hj with z | z
          · exact ⟨a, List.mem_cons_self .., z ▸ h⟩
          · obtain ⟨b, b1, b2⟩ := q1 j z
            exact ⟨b, List.mem_cons_of_mem _ b1, b2⟩
        · rcases List.mem_cons.mp hb with z | z
          · exact ⟨i, List.mem_cons_self .., z ▸ h⟩
          · obtain ⟨j, j1, j2⟩ := q2 b z
            exact ⟨j, List.mem_cons_of_mem _ j1, j2⟩
  obtain ⟨q1, q2⟩ := inIdx p
  have own : ∀ {j : Nat} {a : Addr}, OwnAt (setIo m.env idx outs) m.σ j a → OwnAt m.env m.σ j a := fun {j a} ⟨⟨u, e⟩, q⟩ => by
    by_cases hj : j ∈ idx
    · obtain ⟨b, _, h⟩ := q1 j hj
      have hb := h.2
      rw [q] at hb
      cases hb
      exact h
    · rw [k1 j hj] at e
      exact ⟨⟨u, e⟩, q⟩
  refine ⟨⟨c.sub, fun a o e n => c.keep a o e fun hb => ?_, fun a e g n => c.pers a e g, c.here, fun j a h => ?_, fun j hj => ⟨rfl, fun ⟨u, e⟩ => ?_⟩⟩, ⟨c.subH, by rw [k3]; exact ok.len, fun j u e => ?_, fun j u e => ?_, fun j k a h1 h2 => ok.inj j k a (own h1) (own h2)⟩⟩
  · obtain ⟨j, _, h⟩ := q2 a hb
    exact n j h
  · by_cases hB : j ∈ BS
    · exact .inl ⟨hB, own h⟩
    · exact .inr ⟨hB, .inr ⟨j, hB, own h⟩⟩
  · by_cases hi : j ∈ idx
    · obtain ⟨a, _, h⟩ := q1 j hi
      obtain ⟨w, e2, _⟩ := k2 j a hi h.2
      exact ⟨w, e2⟩
    · exact ⟨u, by show (setIo m.env idx outs)[j]? = _; rw [k1 j hi]; exact e⟩
  · have e' : (setIo m.env idx outs)[j]? = some (.dat u) := e
    by_cases hi : j ∈ idx
    · obtain ⟨a, _, h⟩ := q1 j hi
      obtain ⟨w, e2, _⟩ := k2 j a hi h.2
      rw [e2] at e'
      cases e'
    · rw [k1 j hi] at e'
      obtain ⟨v, p1, p2⟩ := ok.dat j u e'
      exact ⟨v, p1, p2.mono c.sub⟩
  · have e' : (setIo m.env idx outs)[j]? = some (.own u) := e
    by_cases hi : j ∈ idx
    · obtain ⟨a, _, h⟩ := q1 j hi
      obtain ⟨w, e2, r1, r2⟩ := k2 j a hi h.2
      rw [e2] at e'
      cases e'
      exact ⟨a, h.2, r2, r1⟩
    · rw [k1 j hi] at e'
      obtain ⟨a, p1, p2, p3⟩ := ok.own j u e'
      have nB : a ∉ B := fun hb => by
        obtain ⟨k, hk, h⟩ := q2 a hb
        exact hi (ok.inj j k a ⟨⟨u, e'⟩, p1⟩ h ▸ hk)
      exact ⟨a, p1, c.pers a p3.ne p2, p3.mono c.sub fun o h => c.keep a o h nB⟩
theorem call_acc {m s : Sta} {W' : WX} {Q : VK} {ks : List Bool} {g : FnD} {vs : List V} {ovs : List OV} (st : Stp BS s m) (ok : Ok X.K ci m) (r : Paired (RepOV X.K ci m) vs ovs)
    (h : Acc X.K ci BS W' m (CE X.K ci s Q) (match mixA ks ovs m.env with
      | none => .bad
      | some (args, idx) => if idx.Nodup then (match g args with
        | .ok w outs => .ok (.v w) (setIo m.env idx outs)
        | .nw w outs => .ok (.n w) (setIo m.env idx outs)
        | .er x outs => .er x (setIo m.env idx outs)
        | .bad => .bad) else .bad)) : spF X.K ci ks g vs m.H Q (WE W' m.σ) := by
  cases e : mixA ks ovs m.env with
  | none => rw [e] at h; exact h.elim
  | some p =>
    obtain ⟨args, idx⟩ := p
    rw [e] at h
    dsimp only at h
    obtain ⟨ar, pr⟩ := mix_ok ok r e
    by_cases nd : idx.Nodup
    · rw [if_pos nd] at h
      refine ⟨m.G, args, ok.sub, ar, ownp_nodup ok pr nd, ?_⟩
      cases e2 : g args with
      | bad => rw [e2] at h; exact h.elim
      | ok w outs =>
        rw [e2] at h
        intro G' H' v c o rv
        obtain ⟨s1, ok1⟩ := after_call (BS := BS) ok pr nd c o
        exact h G' H' s1 ok1 v rv trivial
      | nw w outs =>
        rw [e2] at h
        intro G' H' a c o ro ga na
        obtain ⟨s1, ok1⟩ := after_call (BS := BS) ok pr nd c o
        refine h G' H' s1 ok1 (.ref a) ⟨a, rfl, ro, ga, fun j hj => ?_⟩ fun b eb => ?_
        · rcases s1.new j a hj with ⟨_, z⟩ | ⟨_, z | ⟨k, _, z⟩⟩
          · exact (ok.ownAt z).2.1 na
          · have hh := (ok1.ownAt hj)
            -- a new object that a slot would own: the slots own what they owned
            obtain ⟨⟨u, eu⟩, q⟩ := hj
            by_cases hi : j ∈ idx
            · obtain ⟨k1, k2, _⟩ := after_io (X := X) (ci := ci) (m := m) (env := m.env) pr nd o (.inr trivial)
              have : ∀ {is : List Nat} {B : List Addr}, Paired (OwnAt m.env m.σ) is B → j ∈ is → ∃ b, OwnAt m.env m.σ j b := by
                intro is
                induction is with
                | nil => intro B p h; cases h
                | cons i is ih =>
                  intro B p h
                  cases p with
                  | cons h' r' =>
                    rcases List.mem_cons.mp h with z | z
                    · exact ⟨_, z ▸ h'⟩
                    · exact ih r' z
              obtain ⟨b, hb⟩ := this pr hi
              have q2 := hb.2
              rw [show m.σ[j]? = some (some (.ref a)) from q] at q2
              cases q2
              exact (ok.ownAt hb).2.1 na
            · obtain ⟨k1, _, _⟩ := after_io (X := X) (ci := ci) (m := m) (env := m.env) pr nd o (.inr trivial)
              have eu' : (setIo m.env idx outs)[j]? = some (.own u) := eu
              rw [k1 j hi] at eu'
              exact (ok.ownAt ⟨⟨u, eu'⟩, q⟩).2.1 na
          · exact (ok.ownAt z).2.1 na
        · cases eb
          cases q : s.H a with
          | none => rfl
          | some o' => exact absurd na (st.here a (by rw [q]; exact fun z => nomatch z))
      | er x outs =>
        rw [e2] at h
        intro G' H' cls d c o rx
        obtain ⟨s1, ok1⟩ := after_call (BS := BS) ok pr nd c o
        exact h G' H' cls d s1 ok1 rx
    · rw [if_neg nd] at h
      exact h.elim
theorem x_call {k : Nat} {f : Addr} {fd : FuncData} {ps : List Str} {ks : List Bool} {g : FnD} {x : Str} {p pos : Pos} {e : Expr} {es : List Expr} {fa : AF} (F : FnOk X.prog X.w X.K X.mg X.base (L2.CX X.prog X.w) k f fd ps (spF X.K ci ks g)) (hr : Room k X.A) (hg : Gl X x) (hm : X.mg x = some (.ref f)) (hk : PySem.W.keepIn X.K (.ref f) = true) (hb : Binds X.K fd ps [])
    (ha : SndA X ci BS (e :: es) fa) (hdb : (x == ("__debug__" : Str)) = false := by decide) (he : starEach (e :: es) X.env = (false, eval e X.env) :: starEach es X.env := by rfl) (hpl : (backTo pos (starEach es X.env)).any (·.1) = false := by rfl) : SndE X ci BS (.Call (.Name x p) (e :: es) [] pos) (fCall ks g fa) := by
  obtain ⟨t, pp, q⟩ := ha.ex
  refine ⟨⟨fun W' => tCallS (spF X.K ci ks g) (WE W') (t W'), fun W' tk => pe_callS F hr hg hm hk hb (fun σ => passAt tk σ) (pp W' tk) hdb he hpl, fun W' s Q ok h => ?_⟩⟩
  refine q W' s _ ok (h.bind.imp fun ovs env1 G1 H1 st1 ok1 h1 => ?_)
  intro vs reps
  exact call_acc (m := ⟨env1, s.σ, G1, H1⟩) (W' := W') st1 ok1 reps h1
/-! ### raise -/
theorem pmk_own0 {C : Addr} {bmB : List Value} {B newId initId : String} {x : Str} {p pos : Pos} (F : ExcBaseFacts B newId initId bmB) (q : PySem.W.excIn X.K C bmB newId = true) (gC : X.mg x = some (.ref C)) (kC : PySem.W.keepIn X.K (.ref C) = true) (r : Raises X (.ref C)) (hg : Gl X x)
    (hdb : (x == ("__debug__" : Str)) = false := by decide) : PMk X (.Call (.Name x p) [] [] pos) (fun _ H Q => Q (.ref C) none H) := by
  intro pins s σ H Q I h
  refine wpAny_Call_Name_kw (ld_glob I hg gC ?_ hdb)
  refine PySem.W.callWith_K0 I.kIn kC ?_
  obtain ⟨bm, N, nm, qn, bs, hdct, sn, sub, ab, col, dd, k0, k1, k2, k3, k5, mN, hC, hN, hni, T⟩ := exc_obj I.kIn q
  refine wpAny_call_exc_subT F T hC hN hni (fun h' e hm => ?_) (by show 0 ≤ sizeLine; exact Nat.zero_le _)
  exact mk_of I hm r h (I.hok.gone hm.new)
theorem s_raise0 {c : Nat} {x : Str} {p pos pos2 : Pos} (hc : X.calm = true) (q : PySem.W.excIn X.K (ci c) PySem.HandSPX.veTail "ValueError.__new__" = true) (gC : X.mg x = some (.ref (ci c))) (kC : PySem.W.keepIn X.K (.ref (ci c)) = true) (h1 : PySem.W.subIn X.K (.ref (ci c)) (.type "BaseException") = some true) (h2 : PySem.W.typeIn X.K (.ref (ci c)) = some (.type "type")) (hg : Gl X x)
    (hdb : (x == ("__debug__" : Str)) = false := by decide) : SndS X ci BS (.Raise (some (.Call (.Name x p) [] [] pos)) none pos2) (fun env => .er ⟨c, []⟩ env) := by
  refine ⟨⟨fun W' => fun _ σ H => W' (.ref (ci c)) none σ H, fun W' tk => ps_raise hc tk (pmk_own0 PySem.F.excBase_ValueError q gC kC (raises_own h1 h2) hg hdb), fun W' s D ok h => ?_⟩⟩
  exact h s.σ s.G s.H (.ref (ci c)) none Step.refl ok ⟨rfl, .inl ⟨rfl, rfl⟩⟩
/-! ### try -/
def pick (hs : List ((Nat → Option Bool) × SF)) (x : Exc) (env : Ev) : SR := match hs with
  | [] => .er x env
  | (t, g) :: r => match t x.c with
    | none => .bad
    | some true => (match g env with
      | .er _ _ => .bad
      | r => r)
    | some false => pick r x env
def sTry (f : SF) (hs : List ((Nat → Option Bool) × SF)) : SF := fun env => match f env with
  | .er x env' => pick hs x env'
  | r => r
structure Tst (K : PySem.W.Frag) (ci : Nat → Addr) (c : Value) (t : Nat → Option Bool) : Prop where
  is : ∀ n b, t n = some b → PySem.W.exmOne K (.ref (ci n)) c = some b
inductive SndHs (X : Cx) (ci : Nat → Addr) (BS : List Nat) : List ExceptHandler → List ((Nat → Option Bool) × SF) → Prop
  | nil : SndHs X ci BS [] []
  | cons {x : Str} {c : Value} {t : Nat → Option Bool} {g : SF} {b₀ : Stmt} {suite : List Stmt} {np pos' : Pos} {hds : List ExceptHandler} {l : List ((Nat → Option Bool) × SF)} (hc : Names X x c) (ht : Tst X.K ci c t)
      (hsu : ∀ (a : Addr) (oe : Obj) (pn : List (Addr × Obj)), SndSs (X.suite a ((a, oe) :: pn)) ci BS (b₀ :: suite) g) (r : SndHs X ci BS hds l) : SndHs X ci BS (.ExceptHandler (some (.Name x np)) none (b₀ :: suite) pos' :: hds) ((t, g) :: l)
theorem PSs.imp {sts : List Stmt} {t t' : TS} (h : PSs X sts t) (f : ∀ D σ H, t' D σ H → t D σ H) : PSs X sts t' := ⟨fun pins s σ H D I hw => h.run pins s σ H D I (f D σ H hw)⟩
theorem hds_ok {hds : List ExceptHandler} {l : List ((Nat → Option Bool) × SF)} (h : SndHs X ci BS hds l) : ∃ tl : List (Value × (Addr → Value → Option Addr → TS)), HdsOk X hds tl ∧ ∀ (Wout : WX) (D : Ends) (s : Sta) (x : Exc) (cls : Value) (d : Option Addr), Ok X.K ci s → RepX X.K ci s.G s.H cls d x → AccS X.K ci BS Wout s D (pick l x s.env) → wMany X.K Wout D tl cls d s.σ s.H := by
  induction h with
  | nil => exact ⟨[], .nil, fun Wout D s x cls d ok rx h => h s.σ s.G s.H cls d Step.refl ok rx⟩
  | @cons x c t g b₀ suite np pos' hds l hc ht hsu r ih =>
    obtain ⟨tl, h1, h2⟩ := ih
    refine ⟨(c, fun a cls d => fun D σ H => ∀ oe pn, (hsu a oe pn).ex.choose (fun _ _ _ _ => False) D σ H) :: tl, .cons hc (fun a oe cls d pn hz hf => ?_) h1, fun Wout D s x cls d ok rx h => ?_⟩
    · exact PSs.imp ((hsu a oe pn).ex.choose_spec.1 _ takes0) fun D σ H z => z oe pn
    · unfold pick at h
      cases e : t x.c with
      | none => rw [e] at h; exact h.elim
      | some b =>
        rw [e] at h
        refine ⟨b, by rw [rx.1]; exact ht.is _ _ e, fun hb a ha oe pn => ?_, fun hb => ?_⟩
        · subst hb
          dsimp only at h
          refine (hsu a oe pn).ex.choose_spec.2 _ s D ok ?_
          cases e2 : g s.env with
          | er y env' => rw [e2] at h; exact h.elim
          | bad => rw [e2] at h; exact h
          | nx env' => rw [e2] at h; exact h
          | rt w env' => rw [e2] at h; exact h
          | rn w env' => rw [e2] at h; exact h
          | bk env' => rw [e2] at h; exact h
          | ct env' => rw [e2] at h; exact h
        · subst hb
          exact h2 Wout D s x cls d ok rx h
theorem s_try {body : List Stmt} {f : SF} {h₀ : ExceptHandler} {hds : List ExceptHandler} {l : List ((Nat → Option Bool) × SF)} {pos : Pos} (hs : X.stack = X.env :: X.outer) (hf : X.env.frame = some X.env.locals)
    (hb : ∀ (pn : List (Addr × Obj)) (xe : Value → Shared → Prop), PassesOwn (model X.prog X.w) X.A X.env xe → SndSs (X.tr pn xe) ci BS body f) (hh : SndHs X ci BS (h₀ :: hds) l) : SndS X ci BS (.Try body (h₀ :: hds) [] [] pos) (sTry f l) := by
  obtain ⟨tl, h1, h2⟩ := hds_ok hh
  refine ⟨⟨fun W' => fun D σ H => (fun (W2 : WX) => (fun D σ H => ∀ pn xe hp, (hb pn xe hp).ex.choose W2 D σ H : TS)) (wMany X.K W' D tl) D σ H, fun W' tk => ?_, fun W' s D ok h => ?_⟩⟩
  · exact ps_try_many (tb := fun W2 => (fun D σ H => ∀ pn xe hp, (hb pn xe hp).ex.choose W2 D σ H : TS)) hs hf tk (fun W2 pn xe tk2 hp => PSs.imp ((hb pn xe hp).ex.choose_spec.1 W2 tk2) fun D σ H z => z pn xe hp) h1
  · intro pn xe hp
    refine (hb pn xe hp).ex.choose_spec.2 _ s D ok ?_
    have h' : AccS X.K ci BS W' s D (match f s.env with | .er x env' => pick l x env' | r => r) := h
    cases e : f s.env with
    | bad => rw [e] at h'; exact h'
    | nx env' => rw [e] at h'; exact h'
    | rt w env' => rw [e] at h'; exact h'
    | rn w env' => rw [e] at h'; exact h'
    | bk env' => rw [e] at h'; exact h'
    | ct env' => rw [e] at h'; exact h'
    | er x env' =>
      rw [e] at h'
      intro σ' G' H' cls d st ok' rx
      exact h2 W' D ⟨env', σ', G', H'⟩ x cls d ok' rx (AccS.mid h' st)
end
end BV

set_option maxRecDepth 100000
set_option maxHeartbeats 4000000
/-! BV: the methods that change a slot's own list; zip. -/
namespace BV
open PySem PySem.Spec PyProof.Rows L2
def ownL (env : Ev) (i : Nat) : Option (List W) := match env[i]? with
  | some (.own (.lst ws)) => some ws
  | _ => none
def sApp (i : Nat) (f : EF) : SF := fun env => match ownL env i with
  | none => .bad
  | some _ => (fE f env).andS fun ov env => match ov with
    | .v w => (match ownL env i with
      | some ws => if ws.length < 16777216 then .nx (env.set i (.own (.lst (ws ++ [w])))) else .bad
      | none => .bad)
    | _ => .bad
def sExt (i : Nat) (f : EF) : SF := fun env => match ownL env i with
  | none => .bad
  | some _ => (fE f env).andS fun ov env => match ov with
    | .v (.lst us) => (match ownL env i with
      | some ws => if ws.length + us.length ≤ 16777216 then .nx (env.set i (.own (.lst (ws ++ us)))) else .bad
      | none => .bad)
    | _ => .bad
def sSetIx (i : Nat) (fi fe : EF) : SF := fun env => (fE fe env).andS fun ov env => match ov with
  | .v w => (match ownL env i with
    | none => .bad
    | some _ => (fi env).andS fun ok env => match (getOV ok env).bind asI with
      | some k => (match ownL env i with
        | some ws => (match ixN ws.length k with
          | some j => .nx (env.set i (.own (.lst (ws.set j w))))
          | none => .bad)
        | none => .bad)
      | none => .bad)
  | _ => .bad
theorem ownL_is {env : Ev} {i : Nat} {ws : List W} (h : ownL env i = some ws) : env[i]? = some (.own (.lst ws)) := by
  unfold ownL at h
  split at h
  · rename_i q
    cases h
    exact q
  · cases h
section
variable {X : Cx} {ci : Nat → Addr} {BS : List Nat} {e e2 : Expr} {f fi g : EF} {pos p1 p2 p3 : Pos}
theorem ownL_at {s : Sta} (ok : Ok X.K ci s) {i : Nat} {ws : List W} (h : ownL s.env i = some ws) : ∃ a vs, s.σ[i]? = some (some (.ref a)) ∧ s.H a = some (.lst vs) ∧ RepVs X.K ci s.G vs ws ∧ s.env[i]? = some (.own (.lst ws)) := by
  have h' := ownL_is h
  obtain ⟨a, q1, _, q3⟩ := ok.own i _ h'
  cases q3 with
  | lst h1 r => exact ⟨a, _, q1, h1, r, h'⟩
theorem s_app (i : Nat) {x : Str} (he : SndE X ci BS e f) (hN : X.N[i]? = some x := by rfl) (hv : Vis X.env.scope x := by first | exact Or.inl rfl | exact Or.inr (Or.inl rfl) | exact Or.inr (Or.inr rfl)) (hd : (x == ("__debug__" : Str)) = false := by decide)
    (hcd : (x == ("__classdict__" : Str)) = false := by decide) (hbase : attributeBase (.Name x p1) "append" X.env (eval (.Name x p1) X.env) = eval (.Name x p1) X.env := by rfl)
    (hfew : ((backTo p3 (starEach [e] X.env)).all (fun x => !x.1) && (backToKw p3 (keywordEach [] X.env)).all (fun x => x.1.isSome) && decide ([e].length + ([] : List Keyword).length + (if ([] : List Keyword).isEmpty then 0 else 1) < 30)) = true := by rfl)
    (hline : (p2.endLine == p3.line) = true := by rfl) (hst : starEach [e] X.env = (false, eval e X.env) :: starEach [] X.env := by rfl) (hplain : (backTo p3 (starEach [] X.env)).any (·.1) = false := by rfl)
    (hs : swapsWith (.Call (.Attribute (.Name x p1) "append" p2) [e] [] p3) none pos.line X.env = pure false := by rfl) : SndS X ci BS (.Expr (.Call (.Attribute (.Name x p1) "append" p2) [e] [] p3) pos) (sApp i f) := by
  obtain ⟨t, p, q⟩ := (x_esc he).ex
  refine ⟨⟨fun W' => tDrop (tBM X.K "list" rAppend (tVar i) (tCons (t W') tNil)), fun W' tk => ps_expr (pe_bm PySem.F.plainAttrs_list PySem.F.slot_list_append PySem.F.type_list_append mt_append (pe_var hN hv hd hcd) (pa_cons (p W' tk) pa_nil hst) hbase hfew hline hst hplain) hs, fun W' s D ok h => ?_⟩⟩
  unfold sApp at h
  cases e0 : ownL s.env i with
  | none => rw [e0] at h; exact h.elim
  | some ws0 =>
    rw [e0] at h
    obtain ⟨a, vs0, h1, h2, _, _⟩ := ownL_at ok e0
    refine ⟨.ref a, h1, .inl ⟨rfl, vs0, .inl (.inl h2)⟩, ?_⟩
    refine q W' s _ ok (h.andS.imp fun ov env1 G1 H1 st1 ok1 h1' => ?_)
    intro v rep new
    cases ov with
    | v w =>
      dsimp only at h1'
      cases e1 : ownL env1 i with
      | none => rw [e1] at h1'; exact h1'.elim
      | some ws =>
        rw [e1] at h1'
        dsimp only at h1'
        obtain ⟨b, vs, k1, k2, k3, k4⟩ := ownL_at (s := ⟨env1, s.σ, G1, H1⟩) ok1 e1
        have eb : s.σ[i]? = some (some (.ref b)) := k1
        rw [h1] at eb
        cases eb
        by_cases hz : ws.length < 16777216
        · rw [if_pos hz] at h1'
          obtain ⟨st2, ok2⟩ := upd_own (BS := BS) (s := ⟨env1, s.σ, G1, H1⟩) (o := .lst (vs ++ [v])) (w' := .lst (ws ++ [w])) ok1 k4 k1 (.lst upd_same (k3.append (.cons rep .nil)))
          exact ⟨a, vs, v, rfl, rfl, k2, by rw [sizeLine_eq, k3.length]; exact hz, h1' _ _ _ st2 ok2⟩
        · rw [if_neg hz] at h1'
          exact h1'.elim
    | _ => exact h1'.elim
theorem s_ext (i : Nat) {x : Str} (he : SndE X ci BS e f) (hN : X.N[i]? = some x := by rfl) (hv : Vis X.env.scope x := by first | exact Or.inl rfl | exact Or.inr (Or.inl rfl) | exact Or.inr (Or.inr rfl)) (hd : (x == ("__debug__" : Str)) = false := by decide)
    (hcd : (x == ("__classdict__" : Str)) = false := by decide) (hbase : attributeBase (.Name x p1) "extend" X.env (eval (.Name x p1) X.env) = eval (.Name x p1) X.env := by rfl)
    (hfew : ((backTo p3 (starEach [e] X.env)).all (fun x => !x.1) && (backToKw p3 (keywordEach [] X.env)).all (fun x => x.1.isSome) && decide ([e].length + ([] : List Keyword).length + (if ([] : List Keyword).isEmpty then 0 else 1) < 30)) = true := by rfl)
    (hline : (p2.endLine == p3.line) = true := by rfl) (hst : starEach [e] X.env = (false, eval e X.env) :: starEach [] X.env := by rfl) (hplain : (backTo p3 (starEach [] X.env)).any (·.1) = false := by rfl)
    (hs : swapsWith (.Call (.Attribute (.Name x p1) "extend" p2) [e] [] p3) none pos.line X.env = pure false := by rfl) : SndS X ci BS (.Expr (.Call (.Attribute (.Name x p1) "extend" p2) [e] [] p3) pos) (sExt i f) := by
  obtain ⟨t, p, q⟩ := (x_esc he).ex
  refine ⟨⟨fun W' => tDrop (tBM X.K "list" rExtend (tVar i) (tCons (t W') tNil)), fun W' tk => ps_expr (pe_bm PySem.F.plainAttrs_list PySem.F.slot_list_extend PySem.F.type_list_extend mt_extend (pe_var hN hv hd hcd) (pa_cons (p W' tk) pa_nil hst) hbase hfew hline hst hplain) hs, fun W' s D ok h => ?_⟩⟩
  unfold sExt at h
  cases e0 : ownL s.env i with
  | none => rw [e0] at h; exact h.elim
  | some ws0 =>
    rw [e0] at h
    obtain ⟨a, vs0, h1, h2, _, _⟩ := ownL_at ok e0
    refine ⟨.ref a, h1, .inl ⟨rfl, vs0, .inl (.inl h2)⟩, ?_⟩
    refine q W' s _ ok (h.andS.imp fun ov env1 G1 H1 st1 ok1 h1' => ?_)
    intro v rep new
    cases ov with
    | v w =>
      cases w with
      | lst us =>
        dsimp only at h1'
        cases e1 : ownL env1 i with
        | none => rw [e1] at h1'; exact h1'.elim
        | some ws =>
          rw [e1] at h1'
          dsimp only at h1'
          obtain ⟨b, vs, k1, k2, k3, k4⟩ := ownL_at (s := ⟨env1, s.σ, G1, H1⟩) ok1 e1
          have eb : s.σ[i]? = some (some (.ref b)) := k1
          rw [h1] at eb
          cases eb
          cases rep with
          | @lst c zs _ hc rc =>
            by_cases hz : ws.length + us.length ≤ 16777216
            · rw [if_pos hz] at h1'
              obtain ⟨st2, ok2⟩ := upd_own (BS := BS) (s := ⟨env1, s.σ, G1, H1⟩) (o := .lst (vs ++ zs)) (w' := .lst (ws ++ us)) ok1 k4 k1 (.lst upd_same (k3.append rc))
              exact ⟨a, c, vs, zs, rfl, rfl, k2, ok1.sub _ _ hc, by rw [sizeLine_eq, k3.length, rc.length]; exact hz, h1' _ _ _ st2 ok2⟩
            · rw [if_neg hz] at h1'
              exact h1'.elim
      | _ => exact h1'.elim
    | _ => exact h1'.elim
/-- x[k] = e -/
theorem s_setIx (i : Nat) {x : Str} (hi : SndE X ci BS e2 fi) (he : SndE X ci BS e f) (hN : X.N[i]? = some x := by rfl) (hv : Vis X.env.scope x := by first | exact Or.inl rfl | exact Or.inr (Or.inl rfl) | exact Or.inr (Or.inr rfl)) (hd : (x == ("__debug__" : Str)) = false := by decide)
    (hcd : (x == ("__classdict__" : Str)) = false := by decide) (ha : ∀ v, assign (.Subscript (.Name x p1) e2 p2) X.env v = (do
      let ov ← holding [v] (eval (.Name x p1) X.env)
      let iv ← holding [v, ov] (eval e2 X.env)
      standAt p2
      holding [v, ov, iv] (setItem ov iv v)
      release [v, ov, iv] []) := by intro _; rfl)
    (hs : swapsWithSole [.Subscript (.Name x p1) e2 p2] e pos.line X.env = pure false := by rfl) (hw : swappedStores [.Subscript (.Name x p1) e2 p2] e X.env = pure none := by rfl)
    (h1 : (assignEach [.Subscript (.Name x p1) e2 p2] X.env).map (·.2) = [assign (.Subscript (.Name x p1) e2 p2) X.env] := by rfl) : SndS X ci BS (.Assign [.Subscript (.Name x p1) e2 p2] e pos) (sSetIx i fi f) := by
  obtain ⟨t, p, q⟩ := (x_esc he).ex
  obtain ⟨ti, pi, qi⟩ := hi.ex
  refine ⟨⟨fun W' => tAsg (t W') (L2.gSub (tVar i) (ti W') rSetL), fun W' tk => ps_asg (p W' tk) (pg_sub (pe_var hN hv hd hcd) (pi W' tk) set_list ha) hs hw h1, fun W' s D ok h => ?_⟩⟩
  refine q W' s _ ok (h.andS.imp fun ov env1 G1 H1 st1 ok1 h1' => ?_)
  intro v rep new
  cases ov with
  | v w =>
    dsimp only at h1'
    cases e0 : ownL env1 i with
    | none => rw [e0] at h1'; exact h1'.elim
    | some ws0 =>
      rw [e0] at h1'
      obtain ⟨a, vs0, k1, k2, _, _⟩ := ownL_at (s := ⟨env1, s.σ, G1, H1⟩) ok1 e0
      refine ⟨.ref a, k1, ?_⟩
      refine qi W' ⟨env1, s.σ, G1, H1⟩ _ ok1 (h1'.andS.imp fun oi env2 G2 H2 st2 ok2 h2 => ?_)
      intro y rep2 new2
      have h2 : AccS X.K ci BS W' ⟨env2, s.σ, G2, H2⟩ D (match (getOV oi env2).bind asI with
        | some k => (match ownL env2 i with
          | some ws => (match ixN ws.length k with
            | some j => .nx (env2.set i (.own (.lst (ws.set j w))))
            | none => .bad)
          | none => .bad)
        | none => .bad) := h2
      cases e1 : getOV oi env2 with
      | none => rw [e1] at h2; exact h2.elim
      | some wi =>
        rw [e1] at h2
        cases wi with
        | int k =>
          have h2 : AccS X.K ci BS W' ⟨env2, s.σ, G2, H2⟩ D (match ownL env2 i with
            | some ws => (match ixN ws.length k with
              | some j => .nx (env2.set i (.own (.lst (ws.set j w))))
              | none => .bad)
            | none => .bad) := h2
          cases e2 : ownL env2 i with
          | none => rw [e2] at h2; exact h2.elim
          | some ws =>
            rw [e2] at h2
            dsimp only at h2
            obtain ⟨b, vs, m1, m2, m3, m4⟩ := ownL_at (s := ⟨env2, s.σ, G2, H2⟩) ok2 e2
            have eb : s.σ[i]? = some (some (.ref b)) := m1
            rw [k1] at eb
            cases eb
            cases e3 : ixN ws.length k with
            | none => rw [e3] at h2; exact h2.elim
            | some j =>
              rw [e3] at h2
              dsimp only at h2
              obtain ⟨st3, ok3⟩ := upd_own (BS := BS) (s := ⟨env2, s.σ, G2, H2⟩) (o := .lst (vs.set j v)) (w' := .lst (ws.set j w)) ok2 m4 m1 (.lst upd_same (m3.set (rep.mono st2.sub) j))
              refine ⟨a, vs, k, j, rfl, (cur_of ok2 rep2 e1).int, m2, by rw [m3.length]; exact e3, ?_⟩
              exact h2 _ _ _ st3 ok3
        | _ => exact h2.elim
  | _ => exact h1'.elim
end
/-! ### zip -/
def zipW : List W → List W → List W := List.zipWith fun x y => .tup [x, y]
def asS : W → W → Option (List W × List W)
  | .tup xs, .tup ys => some (xs, ys)
  | .lst xs, .lst ys => some (xs, ys)
  | _, _ => none
def fZip (f g : EF) : Ev → Res (List W) := fun env => (fE f env).bind fun ox env => (fE g env).bind fun oy env => match ox, oy with
  | .v x, .v y => (match asS x y with | some p => .ok (zipW p.1 p.2) env | none => .bad)
  | _, _ => .bad
section
variable {X : Cx} {ci : Nat → Addr} {BS : List Nat} {e e2 : Expr} {f g : EF} {p pos tpos : Pos} {elts : List Expr} {kk : Nat}
theorem zipW_get {xs ys : List W} {i : Nat} {x y : W} (h1 : xs[i]? = some x) (h2 : ys[i]? = some y) : (zipW xs ys)[i]? = some (.tup [x, y]) := by
  unfold zipW
  rw [List.getElem?_zipWith, h1, h2]
theorem it_pair {m : Sta} {ws : List W} {J : It} {Gp : Hp → Prop} {k1 k2 : Nat → Option V} (w : Walk J ws.length Gp (YPair k1 k2)) (k : ∀ m' : Sta, Ok X.K ci m' → Same m.G m'.G → Gp m'.H)
    (r : ∀ i x y, i < ws.length → k1 i = some x → k2 i = some y → ∃ u v, ws[i]? = some (.tup [u, v]) ∧ RepV X.K ci m.G x u ∧ RepV X.K ci m.G y v) : ItOk X ci BS m ws J Gp (YPair k1 k2) := by
  refine ⟨w, k, fun m' i v H' ok s hi y => ?_⟩
  obtain ⟨T, x, y, rfl, hT, rfl, h1, h2⟩ := y
  obtain ⟨u, v, e, r1, r2⟩ := r i x y hi h1 h2
  obtain ⟨st, ok'⟩ := alloc_pers (BS := BS) (o := .tup [x, y]) ok hT
  exact ⟨_, _, e, st, ok', .tup (.inl (.inl upd_same)) (.cons ((r1.mono s).mono st.sub) (.cons ((r2.mono s).mono st.sub) .nil))⟩
theorem walk_zipT {K : PySem.W.Frag} {a b : Addr} {xs ys : List V} {n : Nat} (hn : n = min xs.length ys.length) : Walk (RZ.ItzT K a b) n (fun H => SqT K H a xs ∧ SqT K H b ys) (YPair (fun i => xs[i]?) (fun i => ys[i]?)) := by
  refine ⟨fun i H hi q => ⟨xs, ys, xs[i]'(by omega), ys[i]'(by omega), q.1, q.2, by simp [show i < xs.length by omega], by simp [show i < ys.length by omega]⟩, fun H q => ⟨xs, ys, q.1, q.2, by omega⟩, fun i H x H' hi q y => ?_⟩
  obtain ⟨T, u, v, e1, e2, e3, k1, k2⟩ := y
  exact ⟨T, u, v, e1, e2, e3, k1 xs q.1, k2 ys q.2⟩
theorem i_zip (hg : Gl X "zip") (hm : X.mg "zip" = none) (ha : SndE X ci BS e f) (hb : SndE X ci BS e2 g) (hs : starEach [e, e2] X.env = (false, eval e X.env) :: starEach [e2] X.env := by rfl) (hs2 : starEach [e2] X.env = (false, eval e2 X.env) :: starEach [] X.env := by rfl) (hpl : (backTo pos (starEach [e2] X.env)).any (·.1) = false := by rfl) :
    SndI X ci BS (.Tuple elts kk tpos) (.Call (.Name "zip" p) [e, e2] [] pos) (fZip f g) := by
  obtain ⟨t, pp, q⟩ := (x_esc ha).ex
  obtain ⟨t', pp', q'⟩ := (x_esc hb).ex
  refine ⟨⟨fun W' => RZ.iZipA X.K (tCons (t W') (tCons (t' W') tNil)), fun W' tk => RZ.pi_zipA hg hm (pa_cons (pp W' tk) (pa_cons (pp' W' tk) pa_nil hs2) hs) hs hpl, fun W' s R ok h => ?_⟩⟩
  refine q W' s _ ok (h.bind.imp fun ox env1 G1 H1 st1 ok1 h1 => ?_)
  intro v rep new
  refine q' W' ⟨env1, s.σ, G1, H1⟩ _ ok1 (h1.bind.imp fun oy env2 G2 H2 st2 ok2 h2 => ?_)
  intro u rep2 new2
  cases ox with
  | v x =>
    cases oy with
    | v y =>
      have rx : RepV X.K ci G2 v x := RepV.mono st2.sub rep
      have ry : RepV X.K ci G2 u y := rep2
      cases x with
      | tup xs =>
        cases y with
        | tup ys =>
          cases rx with
          | @tup a vs _ hx r1 =>
            cases ry with
            | @tup b us _ hy r2 =>
              have z := h2 G2 H2 Step.refl ok2 (RZ.ItzT X.K a b) (fun H => SqT X.K H a vs ∧ SqT X.K H b us) (YPair (fun i => vs[i]?) (fun i => us[i]?)) (it_pair (walk_zipT (by
                  show (zipW xs ys).length = _
                  unfold zipW
                  rw [List.length_zipWith, r1.length, r2.length])) (fun m' ok' sm => ⟨sqT_mono ok'.sub (sqT_mono sm hx), sqT_mono ok'.sub (sqT_mono sm hy)⟩) fun i x y _ k1 k2 => by
                  obtain ⟨w1, e1, q1⟩ := r1.get k1
                  obtain ⟨w2, e2, q2⟩ := r2.get k2
                  exact ⟨w1, w2, zipW_get e1 e2, q1, q2⟩)
              exact ⟨a, b, vs, us, rfl, .inr ⟨sqT_mono ok2.sub hx, sqT_mono ok2.sub hy, z⟩⟩
        | _ => exact h2.elim
      | lst xs =>
        cases y with
        | lst ys =>
          cases rx with
          | @lst a vs _ hx r1 =>
            cases ry with
            | @lst b us _ hy r2 =>
              have z := h2 G2 H2 Step.refl ok2 (Itz X.K a b) (fun H => SqL X.K H a vs ∧ SqL X.K H b us) (YPair (fun i => vs[i]?) (fun i => us[i]?)) (it_pair (walk_zip (by
                  show (zipW xs ys).length = _
                  unfold zipW
                  rw [List.length_zipWith, r1.length, r2.length])) (fun m' ok' sm => ⟨.inl (.inl (ok'.sub _ _ (sm _ _ hx))), .inl (.inl (ok'.sub _ _ (sm _ _ hy)))⟩) fun i x y _ k1 k2 => by
                  obtain ⟨w1, e1, q1⟩ := r1.get k1
                  obtain ⟨w2, e2, q2⟩ := r2.get k2
                  exact ⟨w1, w2, zipW_get e1 e2, q1, q2⟩)
              exact ⟨a, b, vs, us, rfl, .inl ⟨.inl (.inl (ok2.sub _ _ hx)), .inl (.inl (ok2.sub _ _ hy)), z⟩⟩
        | _ => exact h2.elim
      | _ => cases y <;> exact h2.elim
    | _ => exact h2.elim
  | _ => cases oy <;> exact h2.elim
end
end BV

set_option maxRecDepth 100000
set_option maxHeartbeats 4000000
/-! BV: further expressions. -/
namespace BV
open PySem PySem.Spec PyProof.Rows L2
def fNeg (f : EF) : EF := fun env => (f env).bind fun ov env => match (getOV ov env).bind asI with
  | some i => .ok (.v (.int (-i))) env
  | none => .bad
def fDict0 : EF := fun env => .ok (.n (.dct [])) env
section
variable {X : Cx} {ci : Nat → Addr} {BS : List Nat} {e : Expr} {f : EF} {pos : Pos}
theorem x_neg (ha : SndE X ci BS e f) : SndE X ci BS (.UnaryOp .USub e pos) (fNeg f) := by
  obtain ⟨t, p, q⟩ := ha.ex
  refine ⟨⟨fun W' => tUn (rU fun i => .int (-i)) (t W'), fun W' tk => pe_un un_neg (p W' tk), fun W' s Q ok h => ?_⟩⟩
  refine q W' s _ ok (h.bind.imp fun ov env1 G1 H1 st1 ok1 h1 => ?_)
  intro v rep new
  cases e1 : getOV ov env1 with
  | none => dsimp only at h1; rw [e1] at h1; exact h1.elim
  | some w =>
    dsimp only at h1
    rw [e1] at h1
    cases w with
    | int i => exact ⟨i, (cur_of ok1 rep e1).int, h1 G1 H1 Step.refl ok1 (.int (-i)) (.int (-i)) trivial⟩
    | _ => exact h1.elim
theorem x_globI {x : Str} {i : Int} (hg : Gl X x) (hm : ∃ t, X.mg x = some (.int i t)) (hd : (x == ("__debug__" : Str)) = false := by decide) : SndE X ci BS (.Name x pos) (fC (.int i)) := ⟨fun _ => tC (.int i), fun _ _ => pe_glob (v := .int i) hg hm.choose_spec ⟨_, rfl⟩ hd, fun W' s Q ok h => ret_same ok h (.int i)⟩
theorem x_globS {x : Str} {i : Str} (hg : Gl X x) (hm : ∃ t, X.mg x = some (.str i t)) (hd : (x == ("__debug__" : Str)) = false := by decide) : SndE X ci BS (.Name x pos) (fC (.str i)) := ⟨fun _ => tC (.str i), fun _ _ => pe_glob (v := .str i) hg hm.choose_spec ⟨_, rfl⟩ hd, fun W' s Q ok h => ret_same ok h (.str i)⟩
theorem x_dict0 : SndE X ci BS (.Dict [] [] pos) fDict0 := by
  refine ⟨⟨fun _ => tDNewK, fun _ _ => pe_dnewK, fun W' s Q ok h => fun p hp => ?_⟩⟩
  obtain ⟨st, ok', gp, no⟩ := alloc_new (BS := BS) (o := .dK []) ok hp
  exact h _ _ st ok' (.ref p) ⟨p, rfl, .dK upd_same .nil, gp, no⟩ fun a e => by cases e; exact hp
end
/-! ### a clause's class and an error's -/
theorem exm_pair {K : PySem.W.Frag} {C T : Addr} {b : Bool} (h1 : PySem.W.subIn K (.ref T) (.type "BaseException") = some true) (h2 : PySem.W.isClsIn K T = true) (h3 : PySem.W.typeIn K (.ref T) = some (.type "type")) (h4 : PySem.W.subIn K (.ref C) (.ref T) = some b) :
    PySem.W.exmOne K (.ref C) (.ref T) = some b := by
  have e1 : (PySem.W.subIn K (.ref T) (.type "BaseException") == some true) = true := by rw [h1] <;> rfl
  have e2 : ((PySem.W.clsIn K T).isSome && PySem.W.typeIn K (.ref T) == some (.type "type")) = true := by
    have h2' : (PySem.W.clsIn K T).isSome = true := h2
    rw [h2', h3] <;> rfl
  show (if (PySem.W.subIn K (.ref T) (.type "BaseException") == some true) = true then (if ((PySem.W.clsIn K T).isSome && PySem.W.typeIn K (.ref T) == some (.type "type")) = true then PySem.W.subIn K (.ref C) (.ref T) else none) else none) = some b
  rw [if_pos e1, if_pos e2]
  exact h4
/-! ### the law -/
def spLaw (K : PySem.W.Frag) (n : Nat) : Sp := fun vs H Q _ => ∃ (a : Addr) (ns : List Int), vs = [.ref a] ∧ SqL K H a (ns.map V.int) ∧ ns.length ≤ n ∧ ∀ H', Q (.bl true) H'
theorem reps_ints {K : PySem.W.Frag} {ci : Nat → Addr} {G : Hp} : ∀ ns : List Int, RepVs K ci G (ns.map V.int) (ns.map W.int)
  | [] => .nil
  | n :: ns => .cons (.int n) (reps_ints ns)
theorem law_imp {K : PySem.W.Frag} {ci : Nat → Addr} {d : FnD} {n : Nat} (hd : ∀ ns : List Int, ns.length ≤ n → d [.fz (ns.map W.int)] = .ok (.bl true) []) (vs : List V) (H : Hp) (Q : VK) (E : XK) (h : spLaw K n vs H Q E) : spF K ci [false] d vs H Q E := by
  obtain ⟨a, ns, rfl, hS, hl, q⟩ := h
  refine ⟨H, [.fz (ns.map W.int)], Same.refl _, .val (.fz hS (reps_ints ns)) .nil, by unfold ios; exact List.nodup_nil, ?_⟩
  rw [hd ns hl]
  intro G' H' v _ _ rv
  cases rv
  exact q H'
theorem cx_no {P : Program} {w : World} {H : Hp} {s : Shared} {e : Value} {s' : Shared} (h : L2.CX P w [] H s (fun _ _ _ => False) e s') : False := by
  obtain ⟨_, _, _, _, _, _, _, _, _, _, _, _, z⟩ := h
  exact z
end BV

set_option maxRecDepth 100000
set_option maxHeartbeats 4000000
/-! BV: evaluation, in plain Lean. -/
namespace BV
open PySem L2
section
variable {α β : Type} {a : α} {e env : Ev} {x : Exc} {w w1 w2 : W} {i j : Int}
@[simp] theorem bind_ok {k : α → Ev → Res β} : (Res.ok a e).bind k = k a e := (rfl)
@[simp] theorem bind_er {k : α → Ev → Res β} : (Res.er x e : Res α).bind k = .er x e := (rfl)
@[simp] theorem bind_bad {k : α → Ev → Res β} : (Res.bad : Res α).bind k = .bad := (rfl)
@[simp] theorem andS_ok {k : α → Ev → SR} : (Res.ok a e).andS k = k a e := (rfl)
@[simp] theorem andS_er {k : α → Ev → SR} : (Res.er x e : Res α).andS k = .er x e := (rfl)
@[simp] theorem andS_bad {k : α → Ev → SR} : (Res.bad : Res α).andS k = .bad := (rfl)
@[simp] theorem getOV_v : getOV (.v w) env = some w := (rfl)
@[simp] theorem getOV_n : getOV (.n w) env = some w := (rfl)
@[simp] theorem getOV_s {k : Nat} : getOV (.s k) env = match env[k]? with | some (.dat w) => some w | some (.own w) => some w | _ => none := (rfl)
@[simp] theorem retOV_some {ov : OV} : retOV (some ov) env = .ok ov env := (rfl)
@[simp] theorem retOV_none : retOV none env = .bad := (rfl)
@[simp] theorem fC_e : fC w env = .ok (.v w) env := (rfl)
@[simp] theorem fV_e {k : Nat} : fV k env = match env[k]? with | some (.dat w) => .ok (.v w) env | some (.own _) => .ok (.s k) env | _ => .bad := (rfl)
@[simp] theorem fZ_e {k : Nat} : fZ k env = match env[k]? with | some (.dat w) => .ok (.v w) env | some (.own w) => .ok (.v w) (env.set k (.dat w)) | _ => .bad := (rfl)
@[simp] theorem fE_e {f : EF} : fE f env = (f env).bind fun ov env => match ov with | .v w => .ok (.v w) env | .n w => .ok (.v w) env | .s _ => .bad := (rfl)
@[simp] theorem fOp_e {g : W → W → Option OV} {f f' : EF} : fOp g f f' env = (f env).bind fun x env => (f' env).bind fun y env => retOV ((getOV x env).bind fun wx => (getOV y env).bind fun wy => g wx wy) env := (rfl)
@[simp] theorem fNil_e : fNil env = .ok [] env := (rfl)
@[simp] theorem fCons_e {f : EF} {r : AF} : fCons f r env = (f env).bind fun x env => (r env).bind fun xs env => .ok (x :: xs) env := (rfl)
@[simp] theorem getOVs_nil : getOVs [] env = some [] := (rfl)
@[simp] theorem getOVs_cons {o : OV} {os : List OV} : getOVs (o :: os) env = (getOV o env).bind fun w => (getOVs os env).bind fun ws => some (w :: ws) := (rfl)
@[simp] theorem fB_e {g : List W → Option OV} {r : AF} : fB g r env = (r env).bind fun xs env => retOV ((getOVs xs env).bind g) env := (rfl)
@[simp] theorem asB_bl {b : Bool} : asB (.bl b) = some b := (rfl)
@[simp] theorem asI_int : asI (.int i) = some i := (rfl)
@[simp] theorem fTest_e {f : EF} : fTest f env = (f env).bind fun ov env => match (getOV ov env).bind asB with | some b => .ok b env | none => .bad := (rfl)
@[simp] theorem fNot_e {f : TF} : fNot f env = (f env).bind fun b env => .ok (!b) env := (rfl)
@[simp] theorem fAnd_e {f g : TF} : fAnd f g env = (f env).bind fun b env => if b = true then g env else .ok false env := (rfl)
@[simp] theorem fOr_e {f g : TF} : fOr f g env = (f env).bind fun b env => if b = true then .ok true env else g env := (rfl)
@[simp] theorem fIf_e {c : TF} {f g : EF} : fIf c f g env = (c env).bind fun b env => if b = true then f env else g env := (rfl)
@[simp] theorem fAndV_e {f g : EF} : fAndV f g env = (f env).bind fun ov env => match (getOV ov env).bind asB with | some b => if b = true then g env else .ok (.v (.bl false)) env | none => .bad := (rfl)
@[simp] theorem fOrV_e {f g : EF} : fOrV f g env = (f env).bind fun ov env => match (getOV ov env).bind asB with | some b => if b = true then .ok (.v (.bl true)) env else g env | none => .bad := (rfl)
@[simp] theorem fNotV_e {f : EF} : fNotV f env = (f env).bind fun ov env => match (getOV ov env).bind asB with | some b => .ok (.v (.bl (!b))) env | none => .bad := (rfl)
@[simp] theorem fNeg_e {f : EF} : fNeg f env = (f env).bind fun ov env => match (getOV ov env).bind asI with | some i => .ok (.v (.int (-i))) env | none => .bad := (rfl)
@[simp] theorem fDict0_e : fDict0 env = .ok (.n (.dct [])) env := (rfl)
@[simp] theorem fChain_e {g g' : W → W → Option OV} {fa fb fc : EF} : fChain g g' fa fb fc env = (fa env).bind fun x env => (fb env).bind fun y env =>
  match ((getOV x env).bind fun wx => (getOV y env).bind fun wy => g wx wy) with
  | some (.v (.bl true)) => (fc env).bind fun z env => retOV ((getOV y env).bind fun wy => (getOV z env).bind fun wz => g' wy wz) env
  | some (.v (.bl false)) => .ok (.v (.bl false)) env
  | _ => .bad := (rfl)
@[simp] theorem asV_nil : asV [] = some [] := (rfl)
@[simp] theorem asV_cons {os : List OV} : asV (.v w :: os) = (asV os).bind fun ws => some (w :: ws) := (rfl)
@[simp] theorem fTup_e {f : AF} : fTup f env = (f env).bind fun xs env => match asV xs with | some ws => if ws.length ≤ 16777216 then .ok (.v (.tup ws)) env else .bad | none => .bad := (rfl)
@[simp] theorem fLst_e {f : AF} : fLst f env = (f env).bind fun xs env => match asV xs with | some ws => if ws.length ≤ 16777216 then .ok (.n (.lst ws)) env else .bad | none => .bad := (rfl)
@[simp] theorem fNoPart_e : fNoPart env = .ok none env := (rfl)
@[simp] theorem fPart_e {f : EF} : fPart f env = (f env).bind fun ov env => match (getOV ov env).bind asI with | some i => .ok (some i) env | none => .bad := (rfl)
@[simp] theorem fSl_e {f : EF} {l h : OF} : fSl f l h env = (f env).bind fun x env => (l env).bind fun lo env => (h env).bind fun hi env => retOV ((getOV x env).bind fun w => gSl w lo hi) env := (rfl)
@[simp] theorem fIt_e {k : W → Option (List W)} {f : EF} : fIt k f env = (fE f env).bind fun ov env => match ov with | .v w => (match k w with | some ws => .ok ws env | none => .bad) | _ => .bad := (rfl)
@[simp] theorem asT_tup {ws : List W} : asT (.tup ws) = some ws := (rfl)
@[simp] theorem asL_lst {ws : List W} : asL (.lst ws) = some ws := (rfl)
@[simp] theorem asL_fz {ws : List W} : asL (.fz ws) = some ws := (rfl)
@[simp] theorem fRng1_e {f : EF} : fRng1 f env = (f env).bind fun x env => match getOV x env with | some (.int j) => if smallI j = true then .ok (rangeW 0 j) env else .bad | _ => .bad := (rfl)
@[simp] theorem fRng2_e {f g : EF} : fRng2 f g env = (f env).bind fun x env => (g env).bind fun y env => match getOV x env, getOV y env with | some (.int i), some (.int j) => if smallI i = true ∧ smallI j = true then .ok (rangeW i j) env else .bad | _, _ => .bad := (rfl)
@[simp] theorem fZip_e {f g : EF} : fZip f g env = (fE f env).bind fun ox env => (fE g env).bind fun oy env => match ox, oy with | .v x, .v y => (match asS x y with | some p => .ok (zipW p.1 p.2) env | none => .bad) | _, _ => .bad := (rfl)
@[simp] theorem fYes_e : fYes env = .ok true env := (rfl)
@[simp] theorem fLc_e {it : Ev → Res (List W)} {t : Tg} {c : TF} {el : EF} {vs : List Nat} : fLc it t c el vs env = (it env).bind fun ws env => match compL t c el vs ws [] env with | .ok ys env => .ok (.n (.lst ys)) env | _ => .bad := (rfl)
def callR (idx : List Nat) (env : Ev) : CRes → Res OV
  | .ok w outs => .ok (.v w) (setIo env idx outs)
  | .nw w outs => .ok (.n w) (setIo env idx outs)
  | .er x outs => .er x (setIo env idx outs)
  | .bad => .bad
@[simp] theorem callR_ok {idx : List Nat} {outs : List W} : callR idx env (.ok w outs) = .ok (.v w) (setIo env idx outs) := (rfl)
@[simp] theorem callR_nw {idx : List Nat} {outs : List W} : callR idx env (.nw w outs) = .ok (.n w) (setIo env idx outs) := (rfl)
@[simp] theorem callR_er {idx : List Nat} {outs : List W} : callR idx env (.er x outs) = .er x (setIo env idx outs) := (rfl)
@[simp] theorem callR_bad {idx : List Nat} : callR idx env .bad = .bad := (rfl)
@[simp] theorem fCall_e {ks : List Bool} {g : FnD} {fa : AF} : fCall ks g fa env = (fa env).bind fun ovs env => match mixA ks ovs env with | none => .bad | some (args, idx) => if idx.Nodup then callR idx env (g args) else .bad := by
  unfold fCall callR
  congr 1
@[simp] theorem mixA_nil : mixA [] [] env = some ([], []) := (rfl)
@[simp] theorem mixA_v {ks : List Bool} {os : List OV} : mixA (false :: ks) (.v w :: os) env = (mixA ks os env).map fun p => (w :: p.1, p.2) := (rfl)
@[simp] theorem mixA_s {ks : List Bool} {os : List OV} {k : Nat} : mixA (true :: ks) (.s k :: os) env = match env[k]? with | some (.own w) => (mixA ks os env).map fun p => (w :: p.1, k :: p.2) | _ => none := (rfl)
@[simp] theorem setIo_nil {ws : List W} : setIo env [] ws = env := by cases ws <;> rfl
@[simp] theorem setIo_cons {k : Nat} {ks : List Nat} {ws : List W} : setIo env (k :: ks) (w :: ws) = setIo (env.set k (.own w)) ks ws := (rfl)
/-! statements -/
def SR.thn (r : SR) (g : SF) : SR := match r with
  | .nx e => g e
  | r => r
@[simp] theorem thn_nx {g : SF} : (SR.nx e).thn g = g e := (rfl)
@[simp] theorem thn_rt {g : SF} : (SR.rt w e).thn g = .rt w e := (rfl)
@[simp] theorem thn_rn {g : SF} : (SR.rn w e).thn g = .rn w e := (rfl)
@[simp] theorem thn_bk {g : SF} : (SR.bk e).thn g = .bk e := (rfl)
@[simp] theorem thn_ct {g : SF} : (SR.ct e).thn g = .ct e := (rfl)
@[simp] theorem thn_er {g : SF} : (SR.er x e).thn g = .er x e := (rfl)
@[simp] theorem thn_bad {g : SF} : SR.bad.thn g = .bad := (rfl)
@[simp] theorem thn_ite {g : SF} {c : Prop} [Decidable c] {r r' : SR} : (if c then r else r').thn g = if c then r.thn g else r'.thn g := by
  split <;> rfl
@[simp] theorem sNext_e : sNext e = .nx e := (rfl)
@[simp] theorem sSeq_e {f g : SF} : sSeq f g env = (f env).thn g := (rfl)
@[simp] theorem sIf_e {c : TF} {f g : SF} : sIf c f g env = (c env).andS fun b env => if b = true then f env else g env := (rfl)
@[simp] theorem sSet_e {k : Nat} {f : EF} : sSet k f env = (fE f env).andS fun ov env => match ov with | .v w => .nx (env.set k (.dat w)) | _ => .bad := (rfl)
@[simp] theorem sOwn_e {k : Nat} {f : EF} : sOwn k f env = (f env).andS fun ov env => match ov with | .n w => .nx (env.set k (.own w)) | _ => .bad := (rfl)
@[simp] theorem sRet_e {f : EF} : sRet f env = (fE f env).andS fun ov env => match ov with | .v w => .rt w env | _ => .bad := (rfl)
@[simp] theorem sRetNew_e {f : EF} : sRetNew f env = (f env).andS fun ov env => match ov with | .n w => .rn w env | _ => .bad := (rfl)
@[simp] theorem sRetN_e : sRetN env = .rt .non env := (rfl)
@[simp] theorem sDrop_e {f : EF} : sDrop f env = (f env).andS fun _ env => .nx env := (rfl)
@[simp] theorem sBreak_e : sBreak env = .bk env := (rfl)
@[simp] theorem sCont_e : sCont env = .ct env := (rfl)
@[simp] theorem sApp_e {k : Nat} {f : EF} : sApp k f env = match ownL env k with | none => .bad | some _ => (fE f env).andS fun ov env => match ov with | .v w => (match ownL env k with | some ws => if ws.length < 16777216 then .nx (env.set k (.own (.lst (ws ++ [w])))) else .bad | none => .bad) | _ => .bad := (rfl)
@[simp] theorem sExt_e {k : Nat} {f : EF} : sExt k f env = match ownL env k with | none => .bad | some _ => (fE f env).andS fun ov env => match ov with | .v (.lst us) => (match ownL env k with | some ws => if ws.length + us.length ≤ 16777216 then .nx (env.set k (.own (.lst (ws ++ us)))) else .bad | none => .bad) | _ => .bad := (rfl)
@[simp] theorem ownL_e {k : Nat} : ownL env k = match env[k]? with | some (.own (.lst ws)) => some ws | _ => none := (rfl)
@[simp] theorem sSetIx_e {k : Nat} {fi f : EF} : sSetIx k fi f env = (fE f env).andS fun ov env => match ov with
  | .v w => (match ownL env k with
    | none => .bad
    | some _ => (fi env).andS fun ok env => match (getOV ok env).bind asI with
      | some j => (match ownL env k with
        | some ws => (match ixN ws.length j with
          | some j => .nx (env.set k (.own (.lst (ws.set j w))))
          | none => .bad)
        | none => .bad)
      | none => .bad)
  | _ => .bad := (rfl)
@[simp] theorem sFor_e {it : Ev → Res (List W)} {t : Tg} {f : SF} : sFor it t f env = (it env).andS fun ws env => forL t f ws env := (rfl)
@[simp] theorem sTry_e {f : SF} {hs : List ((Nat → Option Bool) × SF)} : sTry f hs env = match f env with | .er x env' => pick hs x env' | r => r := (rfl)
def outC (env : Ev) (is : List Nat) (k : List W → CRes) : CRes := match outsE env is with
  | some os => k os
  | none => .bad
def SR.fin (ks : List Bool) : SR → CRes
  | .nx env => outC env (ioIdx 0 ks) (.ok .non)
  | .rt w env => outC env (ioIdx 0 ks) (.ok w)
  | .rn w env => outC env (ioIdx 0 ks) (.nw w)
  | .er x env => outC env (ioIdx 0 ks) (.er x)
  | _ => .bad
theorem fdef_e {n : Nat} {ks : List Bool} {f : SF} {args : List W} : fdef n ks f args = (f (argEnv ks args ++ List.replicate (n - args.length) Sl.no)).fin ks := by
  unfold fdef SR.fin outC
  cases f (argEnv ks args ++ List.replicate (n - args.length) Sl.no) <;> rfl
@[simp] theorem fin_nx {ks : List Bool} : (SR.nx e).fin ks = outC e (ioIdx 0 ks) (.ok .non) := (rfl)
@[simp] theorem fin_rt {ks : List Bool} : (SR.rt w e).fin ks = outC e (ioIdx 0 ks) (.ok w) := (rfl)
@[simp] theorem fin_rn {ks : List Bool} : (SR.rn w e).fin ks = outC e (ioIdx 0 ks) (.nw w) := (rfl)
@[simp] theorem fin_er {ks : List Bool} : (SR.er x e).fin ks = outC e (ioIdx 0 ks) (.er x) := (rfl)
@[simp] theorem fin_ite {ks : List Bool} {c : Prop} [Decidable c] {r r' : SR} : (if c then r else r').fin ks = if c then r.fin ks else r'.fin ks := by split <;> rfl
@[simp] theorem ioIdx_nil {n : Nat} : ioIdx n [] = [] := (rfl)
@[simp] theorem ioIdx_t {n : Nat} {ks : List Bool} : ioIdx n (true :: ks) = n :: ioIdx (n + 1) ks := (rfl)
@[simp] theorem ioIdx_f {n : Nat} {ks : List Bool} : ioIdx n (false :: ks) = ioIdx (n + 1) ks := (rfl)
@[simp] theorem argEnv_nil {ks : List Bool} : argEnv ks [] = [] := by
  cases ks with
  | nil => rfl
  | cons b _ => cases b <;> rfl
@[simp] theorem argEnv_t {ks : List Bool} {ws : List W} : argEnv (true :: ks) (w :: ws) = .own w :: argEnv ks ws := (rfl)
@[simp] theorem argEnv_f {ks : List Bool} {ws : List W} : argEnv (false :: ks) (w :: ws) = .dat w :: argEnv ks ws := (rfl)
@[simp] theorem outC_nil {k : List W → CRes} : outC env [] k = k [] := (rfl)
@[simp] theorem outC_cons {k : List W → CRes} {j : Nat} {js : List Nat} : outC env (j :: js) k = match env[j]? with | some (.own w) => outC env js (fun os => k (w :: os)) | _ => .bad := by
  unfold outC
  show (match (match env[j]? with | some (.own w) => (outsE env js).map (w :: ·) | _ => none) with | some os => k os | none => .bad) = _
  split
  · rename_i h
    split at h
    · rename_i w q
      cases p : outsE env js with
      | none => rw [p] at h; cases h
      | some os => rw [p] at h; cases h; rfl
    · cases h
  · rename_i h
    split at h
    · rename_i w q
      cases p : outsE env js with
      | none => rfl
      | some os => rw [p] at h; cases h
    · rfl
/-! operations -/
@[simp] theorem gq_zero {x : α} {xs : List α} : (x :: xs)[0]? = some x := (rfl)
@[simp] theorem gq_succ {x : α} {xs : List α} {n : Nat} : (x :: xs)[n + 1]? = xs[n]? := (rfl)
@[simp] theorem gq_nil {n : Nat} : ([] : List α)[n]? = none := (rfl)
@[simp] theorem gAdd_i : gAdd (.int i) (.int j) = some (.v (.int (i + j))) := (rfl)
@[simp] theorem gSub_i : gSub (.int i) (.int j) = some (.v (.int (i - j))) := (rfl)
@[simp] theorem gLt_i : gLt (.int i) (.int j) = some (.v (.bl (decide (i < j)))) := (rfl)
@[simp] theorem gLe_i : gLe (.int i) (.int j) = some (.v (.bl (decide (i ≤ j)))) := (rfl)
@[simp] theorem gGt_i : gGt (.int i) (.int j) = some (.v (.bl (decide (j < i)))) := (rfl)
@[simp] theorem gGe_i : gGe (.int i) (.int j) = some (.v (.bl (decide (j ≤ i)))) := (rfl)
@[simp] theorem gInt_i : gInt [.int i] = some (.v (.int i)) := (rfl)
@[simp] theorem gLen_l {ws : List W} : gLen [.lst ws] = some (.v (.int ws.length)) := (rfl)
@[simp] theorem gLen_f {ws : List W} : gLen [.fz ws] = some (.v (.int ws.length)) := (rfl)
@[simp] theorem gLen_t {ws : List W} : gLen [.tup ws] = some (.v (.int ws.length)) := (rfl)
@[simp] theorem gIx_l {ws : List W} : gIx (.lst ws) (.int i) = (atI ws i).map .v := (rfl)
@[simp] theorem gIx_f {ws : List W} : gIx (.fz ws) (.int i) = (atI ws i).map .v := (rfl)
@[simp] theorem gIx_t {ws : List W} : gIx (.tup ws) (.int i) = (atI ws i).map .v := (rfl)
@[simp] theorem gList_l {ws : List W} : gList [.lst ws] = some (.n (.lst ws)) := (rfl)
@[simp] theorem gList_f {ws : List W} : gList [.fz ws] = some (.n (.lst ws)) := (rfl)
@[simp] theorem gList_t {ws : List W} : gList [.tup ws] = some (.n (.lst ws)) := (rfl)
@[simp] theorem gTuple_l {ws : List W} : gTuple [.lst ws] = some (.v (.tup ws)) := (rfl)
@[simp] theorem gTuple_t {ws : List W} : gTuple [.tup ws] = some (.v (.tup ws)) := (rfl)
theorem gMul_l (h : -18446744073709551616 < i ∧ i < 18446744073709551616) : gMul (.int i) (.int j) = some (.v (.int (i * j))) := by
  show (if mulOk i j = true then _ else _) = _
  rw [if_pos (by unfold mulOk; simp [h])]
theorem gMul_r (h : -18446744073709551616 < j ∧ j < 18446744073709551616) : gMul (.int i) (.int j) = some (.v (.int (i * j))) := by
  show (if mulOk i j = true then _ else _) = _
  rw [if_pos (by unfold mulOk; simp [h])]
theorem gMod_i (h : 0 < j) : gMod (.int i) (.int j) = some (.v (.int (i % j))) := if_pos h
theorem gDiv_i (h : 0 < j ∧ j < 340282366920938463463374607431768211456) : gDiv (.int i) (.int j) = some (.v (.int (i / j))) := if_pos h
theorem gPow_i (h : 0 ≤ j ∧ j ≤ 1000000 ∧ i.natAbs < 18446744073709551616) : gPow (.int i) (.int j) = some (.v (.int (i ^ j.toNat))) := if_pos h
@[simp] theorem atI_zero {x : α} {xs : List α} : atI (x :: xs) 0 = some x := by
  unfold atI ixN
  simp
@[simp] theorem atI_cons {x : α} {xs : List α} (h : 0 < i) : atI (x :: xs) i = atI xs (i - 1) := by
  unfold atI ixN
  rw [if_pos (show 0 ≤ i by omega), if_pos (show 0 ≤ i - 1 by omega), List.length_cons]
  by_cases c : i < ((xs.length + 1 : Nat) : Int)
  · rw [if_pos c, if_pos (show i - 1 < (xs.length : Int) by omega), show i.toNat = (i - 1).toNat + 1 by omega]
    rfl
  · rw [if_neg c, if_neg (show ¬ i - 1 < (xs.length : Int) by omega)]
    rfl
theorem atI_get {xs : List α} (h : 0 ≤ i ∧ i < xs.length) : atI xs i = xs[i.toNat]? := by
  unfold atI ixN
  simp [h]
@[simp] theorem ixN_get {n : Nat} (h : 0 ≤ i ∧ i < n) : ixN n i = some i.toNat := by
  unfold ixN
  simp [h]
theorem mod_lt2 {m : Int} (h : 0 < m) : 0 ≤ i % m ∧ i % m < m := ⟨Int.emod_nonneg _ (by omega), Int.emod_lt_of_pos _ h⟩
end
/-! ### the hand, of which draws are taken -/
def Hand (h : W) : Prop := ∃ (ns : List Int) (idx big x cnt : Int), h = .lst [.lst (ns.map W.int), .int idx, .int big, .int x, .int cnt] ∧ 0 ≤ idx ∧ 0 ≤ big ∧ 0 ≤ x ∧ x < 2147483647 ∧ 0 ≤ cnt
def bTake2 : SF :=
  (sSeq (sIf (fTest (fOp gGt (fOp gIx (fV 0) (fC (.int 2))) (fC (.int 0)))) (sSeq (sSet 3 (fOp gMod (fB gInt (fCons (fOp gIx (fV 0) (fC (.int 2))) fNil)) (fV 1)))
  (sSeq (sSetIx 0 (fC (.int 2)) (fOp gDiv (fB gInt (fCons (fOp gIx (fV 0) (fC (.int 2))) fNil)) (fV 1)))
  (sRet (fV 3)))) sNext)
  (sSeq (sSetIx 0 (fC (.int 3)) (fOp gMod (fB gInt (fCons (fOp gAdd (fOp gMul (fOp gIx (fV 0) (fC (.int 3))) (fC (.int 69621))) (fOp gMul (fC (.int 7919)) (fOp gIx (fV 0) (fC (.int 4))))) fNil)) (fC (.int 2147483647))))
  (sSeq (sSet 4 (fOp gMod (fB gInt (fCons (fOp gMul (fOp gIx (fV 0) (fC (.int 3))) (fOp gAdd (fOp gDiv (fOp gIx (fV 0) (fC (.int 3))) (fC (.int 1009))) (fC (.int 69621)))) fNil)) (fC (.int 2147483647))))
  (sSeq (sSet 4 (fOp gMod (fB gInt (fCons (fOp gMul (fV 4) (fOp gAdd (fOp gDiv (fV 4) (fC (.int 2003))) (fC (.int 40692)))) fNil)) (fC (.int 2147483399))))
  (sRet (fOp gMod (fB gInt (fCons (fOp gDiv (fV 4) (fC (.int 16))) fNil)) (fV 1)))))))
def bTake : SF :=
  (sSeq (sSetIx 0 (fC (.int 4)) (fOp gAdd (fOp gIx (fV 0) (fC (.int 4))) (fC (.int 1))))
  (sSeq (sIf (fAnd (fTest (fOp gEq (fOp gIx (fV 0) (fC (.int 2))) (fC (.int 0)))) (fTest (fOp gLt (fOp gIx (fV 0) (fC (.int 1))) (fB gLen (fCons (fOp gIx (fV 0) (fC (.int 0))) fNil))))) (sSeq (sSet 2 (fB gInt (fCons (fOp gIx (fOp gIx (fV 0) (fC (.int 0))) (fOp gIx (fV 0) (fC (.int 1)))) fNil)))
  (sSeq (sSetIx 0 (fC (.int 1)) (fOp gAdd (fOp gIx (fV 0) (fC (.int 1))) (fC (.int 1))))
  (sIf (fTest (fOp gGe (fV 2) (fOp gPow (fC (.int 10)) (fC (.int 18))))) (sSetIx 0 (fC (.int 2)) (fV 2)) (sSetIx 0 (fC (.int 3)) (fOp gMod (fB gInt (fCons (fOp gAdd (fOp gAdd (fOp gMul (fOp gIx (fV 0) (fC (.int 3))) (fC (.int 48271))) (fOp gMod (fB gInt (fCons (fV 2) fNil)) (fC (.int 2147483647)))) (fC (.int 1))) fNil)) (fC (.int 2147483647))))))) sNext)
  bTake2))
@[simp] theorem wEq_ii {i j : Int} : wEq (.int i) (.int j) = some (decide (i = j)) := (rfl)
@[simp] theorem gEq_ii {i j : Int} : gEq (.int i) (.int j) = some (.v (.bl (decide (i = j)))) := (rfl)
@[simp] theorem gNe_ii {i j : Int} : gNe (.int i) (.int j) = some (.v (.bl (!decide (i = j)))) := (rfl)
theorem take_tail {ns : List Int} {idx big x cnt m : Int} {sl : Sl} (h1 : 0 ≤ idx) (h2 : 0 ≤ big) (h3 : 0 ≤ x) (h4 : x < 2147483647) (h5 : 0 ≤ cnt) (m1 : 1 ≤ m) (m2 : m < 340282366920938463463374607431768211456) :
    ∃ r h', (bTake2 [.own (.lst [.lst (ns.map W.int), .int idx, .int big, .int x, .int cnt]), .dat (.int m), sl, .no, .no]).fin [true, false] = .ok (.int r) [h'] ∧ 0 ≤ r ∧ r < m ∧ Hand h' := by
  unfold bTake2
  by_cases c : 0 < big
  · simp (disch := omega) [c, gMod_i, gDiv_i]
    refine ⟨_, _, ⟨rfl, rfl⟩, Int.emod_nonneg _ (by omega), Int.emod_lt_of_pos _ (by omega), _, _, _, _, _, rfl, h1, Int.ediv_nonneg h2 (by omega), h3, h4, h5⟩
  · simp (disch := omega) [c, gMod_i, gDiv_i, gMul_l, gMul_r]
    refine ⟨_, _, ⟨rfl, rfl⟩, Int.emod_nonneg _ (by omega), Int.emod_lt_of_pos _ (by omega), _, _, _, _, _, rfl, h1, h2, Int.emod_nonneg _ (by omega), Int.emod_lt_of_pos _ (by omega), h5⟩
theorem take_ok {h : W} (H : Hand h) {m : Int} (m1 : 1 ≤ m) (m2 : m < 340282366920938463463374607431768211456) : ∃ r h', fdef 5 [true, false] bTake [h, .int m] = .ok (.int r) [h'] ∧ 0 ≤ r ∧ r < m ∧ Hand h' := by
  obtain ⟨ns, idx, big, x, cnt, rfl, h1, h2, h3, h4, h5⟩ := H
  show ∃ r h', (fdef 5 [true, false] bTake [_, .int m]) = _ ∧ _
  rw [fdef_e]
  show ∃ r h', (bTake [.own _, .dat _, .no, .no, .no]).fin _ = _ ∧ _
  unfold bTake
  by_cases c : big = 0 ∧ idx < ns.length
  · obtain ⟨n, hn⟩ : ∃ n, (ns.map W.int)[idx.toNat]? = some (.int n) := by
      rw [List.getElem?_map, List.getElem?_eq_getElem (by omega)]
      exact ⟨_, rfl⟩
    have hn : atI (ns.map W.int) idx = some (.int n) := by rw [atI_get ⟨h1, by rw [List.length_map]; exact c.2⟩, hn]
    by_cases d : 1000000000000000000 ≤ n
    · simp (disch := omega) [c, hn, d, gPow_i]
      exact take_tail (by omega) (by omega) h3 h4 (by omega) m1 m2
    · simp (disch := omega) [c, hn, d, gPow_i, gMod_i, gMul_l, gMul_r]
      exact take_tail (by omega) (by omega) (Int.emod_nonneg _ (by omega)) (Int.emod_lt_of_pos _ (by omega)) (by omega) m1 m2
  · by_cases d : big = 0
    · simp (disch := omega) [c, d, show ¬ idx < ns.length by omega]
      exact take_tail h1 (by omega) h3 h4 (by omega) m1 m2
    · simp (disch := omega) [c, d]
      exact take_tail h1 h2 h3 h4 (by omega) m1 m2
end BV

set_option maxRecDepth 100000
set_option maxHeartbeats 4000000
/-! BV: laws of loops; the checks that many laws share. -/
namespace BV
open PySem L2
section
variable {t : Tg} {c : TF} {el : EF} {vs : List Nat} {f : SF}
/-- one turn of a list comprehension -/
def compL1 (t : Tg) (c : TF) (el : EF) (vs : List Nat) (w : W) (env : Ev) : Option (Option W × Ev) := match bindT t w (wipeE env vs) with
  | none => none
  | some env2 => match c env2 with
    | .ok true env3 => (match fE el env3 with
      | .ok (.v y) env4 => some (some y, restE env env4 vs)
      | _ => none)
    | .ok false env3 => some (none, restE env env3 vs)
    | _ => none
theorem compL_pure {P : Ev → Prop} {k : W → Option W} : ∀ {ws acc : List W} {env : Ev}, P env → (∀ w ∈ ws, ∀ env, P env → ∃ e, compL1 t c el vs w env = some (k w, e) ∧ P e) → acc.length + ws.length ≤ 16777216 →
    ∃ e, compL t c el vs ws acc env = .ok (acc ++ ws.filterMap k) e ∧ P e
  | [], acc, env, p, _, _ => ⟨env, by rw [compL_nil, List.filterMap_nil, List.append_nil], p⟩
  | w :: ws, acc, env, p, H, hl => by
    obtain ⟨e, h1, p1⟩ := H w (List.mem_cons_self ..) env p
    rw [List.length_cons] at hl
    rw [compL_cons]
    unfold compL1 at h1
    split at h1
    · cases h1
    · rename_i env2 q1
      try rw [q1]
      try dsimp only
      split at h1
      · rename_i env3 q2
        try rw [q2]
        try dsimp only
        split at h1
        · rename_i y env4 q3
          try rw [q3]
          try dsimp only
          cases h1b : k w with
          | none => rw [h1b] at h1; cases h1
          | some y' =>
            rw [h1b] at h1
            cases h1
            rw [if_pos (by omega), List.filterMap_cons_some h1b]
            obtain ⟨e', h2, p2⟩ := compL_pure p1 (fun w' m => H w' (List.mem_cons_of_mem _ m)) (acc := acc ++ [y]) (by rw [List.length_append, List.length_singleton]; omega)
            exact ⟨e', by rw [h2, List.append_assoc]; rfl, p2⟩
        · cases h1
      · rename_i env3 q2
        try rw [q2]
        try dsimp only
        cases h1b : k w with
        | some y' => rw [h1b] at h1; cases h1
        | none =>
          rw [h1b] at h1
          cases h1
          rw [List.filterMap_cons_none h1b]
          exact compL_pure p1 (fun w' m => H w' (List.mem_cons_of_mem _ m)) (by omega)
      · cases h1
theorem forL_fold {ι : Type} {P : ι → Ev → Prop} {step : ι → W → ι} : ∀ {ws : List W} {s : ι} {env : Ev}, P s env → (∀ w ∈ ws, ∀ s env, P s env → ∃ e1 e2, bindT t w env = some e1 ∧ (f e1 = .nx e2 ∨ f e1 = .ct e2) ∧ P (step s w) e2) →
    ∃ e, forL t f ws env = .nx e ∧ P (ws.foldl step s) e
  | [], s, env, p, _ => ⟨env, rfl, p⟩
  | w :: ws, s, env, p, H => by
    obtain ⟨e1, e2, h1, h2, p2⟩ := H w (List.mem_cons_self ..) s env p
    obtain ⟨e, h3, p3⟩ := forL_fold (ws := ws) p2 (fun w' m => H w' (List.mem_cons_of_mem _ m))
    refine ⟨e, ?_, p3⟩
    show (match bindT t w env with | none => SR.bad | some env1 => match f env1 with | .nx e => forL t f ws e | .ct e => forL t f ws e | .bk e => .nx e | r => r) = _
    rw [h1]
    dsimp only
    rcases h2 with h2 | h2 <;> rw [h2] <;> exact h3
/-- the turn goes on, with P -/
def SR.Nx (r : SR) (P : Ev → Prop) : Prop := match r with
  | .nx e => P e
  | .ct e => P e
  | _ => False
@[simp] theorem Nx_nx {P : Ev → Prop} {e : Ev} : (SR.nx e).Nx P = P e := (rfl)
@[simp] theorem Nx_ct {P : Ev → Prop} {e : Ev} : (SR.ct e).Nx P = P e := (rfl)
def turn (t : Tg) (f : SF) (w : W) (env : Ev) : SR := match bindT t w env with
  | none => .bad
  | some e => f e
theorem forL_idx {P : Nat → Ev → Prop} {ws : List W} {env : Ev} (p : P 0 env) (H : ∀ i (h : i < ws.length) env, P i env → (turn t f ws[i] env).Nx (P (i + 1))) : ∃ e, forL t f ws env = .nx e ∧ P ws.length e := by
  suffices K : ∀ (us : List W) (k : Nat) (env : Ev), ws.drop k = us → k + us.length = ws.length → P k env → ∃ e, forL t f us env = .nx e ∧ P ws.length e from K ws 0 env rfl (by omega) p
  intro us
  induction us with
  | nil => intro k env _ hk p; exact ⟨env, rfl, by simpa using (by rw [← hk]; exact p)⟩
  | cons u us ih =>
    intro k env hd hk p
    rw [List.length_cons] at hk
    have hlt : k < ws.length := by omega
    rw [List.drop_eq_getElem_cons hlt] at hd
    injection hd with hd1 hd2
    have h := H k hlt env p
    rw [hd1] at h
    unfold turn at h
    show ∃ e, (match bindT t u env with | none => SR.bad | some env1 => match f env1 with | .nx e => forL t f us e | .ct e => forL t f us e | .bk e => .nx e | r => r) = .nx e ∧ P ws.length e
    cases hb : bindT t u env with
    | none => rw [hb] at h; exact h.elim
    | some e1 =>
      rw [hb] at h
      dsimp only at h ⊢
      cases hf : f e1 with
      | nx e => rw [hf] at h; exact ih (k + 1) e hd2 (by omega) h
      | ct e => rw [hf] at h; exact ih (k + 1) e hd2 (by omega) h
      | _ => rw [hf] at h; exact h.elim
theorem forL_rng {P : Nat → Ev → Prop} {lo hi : Int} {env : Ev} (p : P 0 env) (H : ∀ i : Nat, lo + i < hi → ∀ env, P i env → (turn t f (.int (lo + i)) env).Nx (P (i + 1))) : ∃ e, forL t f (rangeW lo hi) env = .nx e ∧ P (hi - lo).toNat e := by
  have hl : (rangeW lo hi).length = (hi - lo).toNat := by unfold rangeW; simp
  obtain ⟨e, h, p⟩ := forL_idx (t := t) (f := f) (P := P) (ws := rangeW lo hi) p (fun i h env p => by
    have e : (rangeW lo hi)[i] = .int (lo + i) := by
      have q : (rangeW lo hi)[i]? = some (.int (lo + i)) := by
        unfold rangeW
        rw [List.getElem?_map, List.getElem?_range (by omega)]
        rfl
      rw [List.getElem?_eq_getElem h] at q
      exact Option.some.inj q
    rw [e]
    exact H i (by omega) env p)
  exact ⟨e, h, hl ▸ p⟩
theorem forL_inv {P : Ev → Prop} {ws : List W} {env : Ev} (p : P env) (H : ∀ w ∈ ws, ∀ env, P env → ∃ e1 e2, bindT t w env = some e1 ∧ (f e1 = .nx e2 ∨ f e1 = .ct e2) ∧ P e2) : ∃ e, forL t f ws env = .nx e ∧ P e := by
  obtain ⟨e, h, p⟩ := forL_fold (ι := Unit) (P := fun _ e => P e) (step := fun _ _ => ()) (s := ()) p (fun w m _ env p => H w m env p)
  exact ⟨e, h, p⟩
end
@[simp] theorem bindT_nm {k : Nat} {w : W} {env : Ev} : bindT (.nm k) w env = some (env.set k (.dat w)) := (rfl)
@[simp] theorem wipeE_nil {env : Ev} : wipeE env [] = env := (rfl)
theorem mem_rangeW {lo hi : Int} {w : W} (h : w ∈ rangeW lo hi) : ∃ i, w = .int i ∧ lo ≤ i ∧ i < hi := by
  unfold rangeW at h
  obtain ⟨k, m, rfl⟩ := List.mem_map.1 h
  have := List.mem_range.1 m
  exact ⟨_, rfl, by omega, by omega⟩
@[simp] theorem gEq_bb {a b : Bool} : gEq (.bl a) (.bl b) = some (.v (.bl (a == b))) := by cases a <;> cases b <;> rfl
@[simp] theorem gNe_bb {a b : Bool} : gNe (.bl a) (.bl b) = some (.v (.bl (!(a == b)))) := by cases a <;> cases b <;> rfl
theorem gEq_xx {x : Str} (h : PyData.strOk x = true) : gEq (.str x) (.str x) = some (.v (.bl true)) := by
  show Option.map _ (pyEq (.str x) (.str x)) = _
  unfold pyEq
  rw [if_pos ⟨by simp [SeqAt.shaped, PyData.canLay0, h, PyData.depth], by simp [SeqAt.shaped, PyData.canLay0, h, PyData.depth]⟩]
  simp [PyData.eqv]
/-! the checks -/
/-- its type has a name -/
def Kn (w : W) : Prop := tyN w ≠ none
def inB (a b : Int) : W → Bool
  | .int x => decide (a ≤ x) && decide (x ≤ b)
  | _ => false
def isI : W → Bool
  | .int _ => true
  | _ => false
def isT : W → Bool
  | .tup _ => true
  | _ => false
def isL : W → Bool
  | .lst _ => true
  | _ => false
def isStr : W → Bool
  | .str _ => true
  | _ => false
theorem isi_int {w : W} (h : Kn w) : gIsi tInt [w] = some (.v (.bl (isI w || (match w with | .bl _ => true | _ => false)))) := by
  cases w <;> first | rfl | exact absurd rfl h
theorem isi_bool {w : W} (h : Kn w) : gIsi (tOne "bool") [w] = some (.v (.bl (match w with | .bl _ => true | _ => false))) := by
  cases w <;> first | rfl | exact absurd rfl h
theorem isi_tuple {w : W} (h : Kn w) : gIsi (tOne "tuple") [w] = some (.v (.bl (isT w))) := by
  cases w <;> first | rfl | exact absurd rfl h
theorem isi_list {w : W} (h : Kn w) : gIsi (tOne "list") [w] = some (.v (.bl (isL w))) := by
  cases w <;> first | rfl | exact absurd rfl h
theorem isi_str {w : W} (h : Kn w) : gIsi (tOne "str") [w] = some (.v (.bl (isStr w))) := by
  cases w <;> first | rfl | exact absurd rfl h
def dInteger : FnD := fdef 1 [false] (sRet (fAndV (fB (gIsi tInt) (fCons (fV 0) fNil)) (fNotV (fB (gIsi (tOne "bool")) (fCons (fV 0) fNil)))))
theorem integer_ok {w : W} (h : Kn w) : dInteger [w] = .ok (.bl (isI w)) [] := by
  unfold dInteger
  rw [fdef_e]
  simp [isi_int h, isi_bool h]
  cases w <;> simp [isI]
def dWithin : FnD := fdef 3 [false, false, false] (sRet (fAndV (fCall [false] dInteger (fCons (fE (fV 0)) fNil)) (fChain gLe gLe (fV 1) (fV 0) (fV 2))))
theorem within_ok {w : W} (h : Kn w) {a b : Int} : dWithin [w, .int a, .int b] = .ok (.bl (inB a b w)) [] := by
  unfold dWithin
  rw [fdef_e]
  simp [integer_ok h]
  cases w <;> simp [isI, inB]
  rename_i i
  by_cases c : a ≤ i <;> simp [c]
def dBelow : FnD := fdef 2 [false, false] (sRet (fCall [false, false, false] dWithin (fCons (fE (fV 0)) (fCons (fC (.int 0)) (fCons (fE (fOp gSub (fV 1) (fC (.int 1)))) fNil)))))
theorem below_ok {w : W} (h : Kn w) {b : Int} : dBelow [w, .int b] = .ok (.bl (inB 0 (b - 1) w)) [] := by
  unfold dBelow
  rw [fdef_e]
  simp [within_ok h]
def dLWithin : FnD := fdef 3 [false, false, false] (sRet (fAndV (fCall [false] dInteger (fCons (fE (fV 0)) fNil)) (fAndV (fOp gLe (fV 1) (fV 0)) (fOp gLe (fV 0) (fV 2)))))
theorem lwithin_ok {w : W} (h : Kn w) {a b : Int} : dLWithin [w, .int a, .int b] = .ok (.bl (inB a b w)) [] := by
  unfold dLWithin
  rw [fdef_e]
  simp [integer_ok h]
  cases w <;> simp [isI, inB]
  rename_i i
  by_cases c : a ≤ i <;> simp [c]
theorem hand_new {ns : List Int} : Hand (.lst [.lst (ns.map W.int), .int 0, .int 0, .int 1, .int 0]) := ⟨_, _, _, _, _, rfl, by omega, by omega, by omega, by omega, by omega⟩
def dTake : FnD := fdef 5 [true, false] bTake
theorem take_env {h : W} (H : Hand h) {m : Int} (m1 : 1 ≤ m) (m2 : m < 340282366920938463463374607431768211456) : ∃ r h', dTake [h, .int m] = .ok (.int r) [h'] ∧ 0 ≤ r ∧ r < m ∧ Hand h' := take_ok H m1 m2
def dPick : FnD := fdef 2 [true, false] (sRet (fOp gIx (fV 1) (fCall [true, false] dTake (fCons (fV 0) (fCons (fE (fB gLen (fCons (fV 1) fNil))) fNil)))))
theorem pick_ok {h : W} (H : Hand h) {ws : List W} (h1 : 1 ≤ ws.length) (h2 : ws.length < 340282366920938463463374607431768211456) : ∃ w h', dPick [h, .lst ws] = .ok w [h'] ∧ w ∈ ws ∧ Hand h' := by
  obtain ⟨r, h', e, r0, r1, H'⟩ := take_env H (m := ws.length) (by omega) (by omega)
  unfold dPick
  rw [fdef_e]
  have hx : atI ws r = some ws[r.toNat] := by rw [atI_get ⟨r0, r1⟩, List.getElem?_eq_getElem (by omega)]
  simp [e, hx]
  exact ⟨_, _, ⟨rfl, rfl⟩, List.getElem_mem _, H'⟩
theorem cut_take {α : Type} {xs : List α} {i : Int} (h : 0 ≤ i) : cutL xs none (some i) = xs.take i.toNat := by
  have e : HT.sIx xs.length xs.length (some i) = min i.toNat xs.length := by
    show (if i < 0 then (i + (xs.length : Int)).toNat else min i.toNat xs.length) = _
    rw [if_neg (by omega)]
  unfold cutL
  rw [e, HT.sIx_none, List.drop_zero, Nat.sub_zero, ← List.take_eq_take_min]
theorem cut_drop {α : Type} {xs : List α} {i : Int} (h : 0 ≤ i) : cutL xs (some i) none = xs.drop i.toNat := by
  have e : HT.sIx xs.length 0 (some i) = min i.toNat xs.length := by
    show (if i < 0 then (i + (xs.length : Int)).toNat else min i.toNat xs.length) = _
    rw [if_neg (by omega)]
  unfold cutL
  rw [e, HT.sIx_none]
  by_cases c : i.toNat ≤ xs.length
  · rw [Nat.min_eq_left c, List.take_of_length_le (by rw [List.length_drop]; omega)]
  · rw [Nat.min_eq_right (by omega), List.drop_of_length_le (by omega), List.drop_of_length_le (by omega), List.take_nil]
@[simp] theorem gSl_t {ws : List W} {lo hi : Option Int} : gSl (.tup ws) lo hi = some (.v (.tup (cutL ws lo hi))) := (rfl)
@[simp] theorem gSl_l {ws : List W} {lo hi : Option Int} : gSl (.lst ws) lo hi = some (.n (.lst (cutL ws lo hi))) := (rfl)
theorem gAdd_t {xs ys : List W} (h : xs.length + ys.length ≤ 16777216) : gAdd (.tup xs) (.tup ys) = some (.v (.tup (xs ++ ys))) := if_pos h
theorem gAdd_l {xs ys : List W} (h : xs.length + ys.length ≤ 16777216) : gAdd (.lst xs) (.lst ys) = some (.n (.lst (xs ++ ys))) := if_pos h
theorem gMul_t {xs : List W} {k : Int} (h : 0 ≤ k ∧ k * xs.length ≤ 16777216 ∧ k < 16777217) : gMul (.tup xs) (.int k) = some (.v (.tup (List.replicate k.toNat xs).flatten)) := if_pos h
end BV

set_option maxRecDepth 100000
namespace K25
open PySem BV
def tst_NoNumber : Nat → Option Bool := fun n => if n = 1 then some true else if n = 2 then some false else none
def tst_NoRow : Nat → Option Bool := fun n => if n = 1 then some false else if n = 2 then some true else none
def b_is_integer : SF :=
  (sRet (fAndV (fB (gIsi tInt) (fCons (fV 0) fNil)) (fNotV (fB (gIsi (tOne "bool")) (fCons (fV 0) fNil)))))
def d_is_integer : FnD := fdef 1 [false] b_is_integer
def b_marked : SF :=
  (sSeq (sSet 2 (fV 0))
  (sSeq (sFor (fIt asT (fE (fV 1))) (.nm 3) (sSet 2 (fOp gMod (fOp gAdd (fOp gAdd (fOp gMul (fV 2) (fC (.int 1000003))) (fV 3)) (fC (.int 1))) (fC (.int 2305843009213693951)))))
  (sRet (fV 2))))
def d_marked : FnD := fdef 4 [false, false] b_marked
def b__law_hand : SF :=
  (sRetNew (fLst (fCons (fE (fB gList (fCons (fV 0) fNil))) (fCons (fC (.int 0)) (fCons (fC (.int 0)) (fCons (fC (.int 1)) (fCons (fC (.int 0)) fNil)))))))
def d__law_hand : FnD := fdef 1 [false] b__law_hand
def b__law_take : SF :=
  (sSeq (sSetIx 0 (fC (.int 4)) (fOp gAdd (fOp gIx (fV 0) (fC (.int 4))) (fC (.int 1))))
  (sSeq (sIf (fAnd (fTest (fOp gEq (fOp gIx (fV 0) (fC (.int 2))) (fC (.int 0)))) (fTest (fOp gLt (fOp gIx (fV 0) (fC (.int 1))) (fB gLen (fCons (fOp gIx (fV 0) (fC (.int 0))) fNil))))) (sSeq (sSet 2 (fB gInt (fCons (fOp gIx (fOp gIx (fV 0) (fC (.int 0))) (fOp gIx (fV 0) (fC (.int 1)))) fNil)))
  (sSeq (sSetIx 0 (fC (.int 1)) (fOp gAdd (fOp gIx (fV 0) (fC (.int 1))) (fC (.int 1))))
  (sIf (fTest (fOp gGe (fV 2) (fOp gPow (fC (.int 10)) (fC (.int 18))))) (sSetIx 0 (fC (.int 2)) (fV 2)) (sSetIx 0 (fC (.int 3)) (fOp gMod (fB gInt (fCons (fOp gAdd (fOp gAdd (fOp gMul (fOp gIx (fV 0) (fC (.int 3))) (fC (.int 48271))) (fOp gMod (fB gInt (fCons (fV 2) fNil)) (fC (.int 2147483647)))) (fC (.int 1))) fNil)) (fC (.int 2147483647))))))) sNext)
  (sSeq (sIf (fTest (fOp gGt (fOp gIx (fV 0) (fC (.int 2))) (fC (.int 0)))) (sSeq (sSet 3 (fOp gMod (fB gInt (fCons (fOp gIx (fV 0) (fC (.int 2))) fNil)) (fV 1)))
  (sSeq (sSetIx 0 (fC (.int 2)) (fOp gDiv (fB gInt (fCons (fOp gIx (fV 0) (fC (.int 2))) fNil)) (fV 1)))
  (sRet (fV 3)))) sNext)
  (sSeq (sSetIx 0 (fC (.int 3)) (fOp gMod (fB gInt (fCons (fOp gAdd (fOp gMul (fOp gIx (fV 0) (fC (.int 3))) (fC (.int 69621))) (fOp gMul (fC (.int 7919)) (fOp gIx (fV 0) (fC (.int 4))))) fNil)) (fC (.int 2147483647))))
  (sSeq (sSet 4 (fOp gMod (fB gInt (fCons (fOp gMul (fOp gIx (fV 0) (fC (.int 3))) (fOp gAdd (fOp gDiv (fOp gIx (fV 0) (fC (.int 3))) (fC (.int 1009))) (fC (.int 69621)))) fNil)) (fC (.int 2147483647))))
  (sSeq (sSet 4 (fOp gMod (fB gInt (fCons (fOp gMul (fV 4) (fOp gAdd (fOp gDiv (fV 4) (fC (.int 2003))) (fC (.int 40692)))) fNil)) (fC (.int 2147483399))))
  (sRet (fOp gMod (fB gInt (fCons (fOp gDiv (fV 4) (fC (.int 16))) fNil)) (fV 1)))))))))
def d__law_take : FnD := fdef 5 [true, false] b__law_take
def b__law_is_integer : SF :=
  (sRet (fAndV (fB (gIsi tInt) (fCons (fV 0) fNil)) (fNotV (fB (gIsi (tOne "bool")) (fCons (fV 0) fNil)))))
def d__law_is_integer : FnD := fdef 1 [false] b__law_is_integer
def b__law_marked : SF :=
  (sSeq (sFor (fIt asT (fE (fV 1))) (.nm 2) (sSet 0 (fOp gMod (fB gInt (fCons (fOp gAdd (fOp gAdd (fOp gMul (fV 0) (fC (.int 1000003))) (fV 2)) (fC (.int 1))) fNil)) (fC (.int 2305843009213693951)))))
  (sRet (fV 0)))
def d__law_marked : FnD := fdef 3 [false, false] b__law_marked
def b_is_within : SF :=
  (sRet (fAndV (fCall [false] d_is_integer (fCons (fE (fV 0)) fNil)) (fChain gLe gLe (fV 1) (fV 0) (fV 2))))
def d_is_within : FnD := fdef 3 [false, false, false] b_is_within
def b_mark_of : SF :=
  (sRet (fCall [false, false] d_marked (fCons (fE (fC (.int 1))) (fCons (fE (fV 0)) fNil))))
def d_mark_of : FnD := fdef 1 [false] b_mark_of
def b__law_pick : SF :=
  (sRet (fOp gIx (fV 1) (fCall [true, false] d__law_take (fCons (fV 0) (fCons (fE (fB gLen (fCons (fV 1) fNil))) fNil)))))
def d__law_pick : FnD := fdef 2 [true, false] b__law_pick
def b__law_is_within : SF :=
  (sRet (fAndV (fCall [false] d__law_is_integer (fCons (fE (fV 0)) fNil)) (fAndV (fOp gLe (fV 1) (fV 0)) (fOp gLe (fV 0) (fV 2)))))
def d__law_is_within : FnD := fdef 3 [false, false, false] b__law_is_within
def b__law_odd : SF :=
  (sSeq (sSet 1 (fCall [true, false] d__law_take (fCons (fV 0) (fCons (fC (.int 18)) fNil))))
  (sSeq (sIf (fTest (fOp gLt (fV 1) (fC (.int 6)))) (sRet (fOp gIx (fLst (fCons (fC .non) (fCons (fC (.bl true)) (fCons (fC (.bl false)) (fCons (fC (.str "")) (fCons (fC (.str "H")) (fCons (fC (.str "0")) fNil))))))) (fV 1))) sNext)
  (sSeq (sIf (fTest (fOp gLt (fV 1) (fC (.int 12)))) (sRet (fOp gIx (fLst (fCons (fTup fNil) (fCons (fE (fLst fNil)) (fCons (fE fDict0) (fCons (fTup (fCons (fC (.int 0)) fNil)) (fCons (fE (fLst (fCons (fC (.int 0)) (fCons (fC (.int 0)) fNil)))) (fCons (fTup (fCons (fTup fNil) fNil)) fNil))))))) (fOp gSub (fV 1) (fC (.int 6))))) sNext)
  (sRet (fOp gIx (fLst (fCons (fE (fNeg (fC (.int 1)))) (fCons (fC (.int 999)) (fCons (fE (fOp gSub (fOp gPow (fC (.int 10)) (fC (.int 20))) (fC (.int 1)))) (fCons (fTup (fCons (fC (.int 0)) (fCons (fC (.int 1)) fNil))) (fCons (fTup (fCons (fC (.bl true)) fNil)) (fCons (fTup (fCons (fE (fNeg (fC (.int 1)))) fNil)) fNil))))))) (fOp gSub (fV 1) (fC (.int 12))))))))
def d__law_odd : FnD := fdef 2 [true] b__law_odd
def b_is_below : SF :=
  (sRet (fCall [false, false, false] d_is_within (fCons (fE (fV 0)) (fCons (fC (.int 0)) (fCons (fE (fOp gSub (fV 1) (fC (.int 1)))) fNil)))))
def d_is_below : FnD := fdef 2 [false, false] b_is_below
def b__law_is_row : SF :=
  (sSeq (sIf (fOr (fNot (fTest (fB (gIsi (tOne "tuple")) (fCons (fV 0) fNil)))) (fTest (fOp gGt (fB gLen (fCons (fV 0) fNil)) (fC (.int 300000))))) (sRet (fC (.bl false))) sNext)
  (sRet (fOp gEq (fB gLen (fCons (fLc (fIt asT (fE (fV 0))) (.nm 1) (fNot (fTest (fCall [false, false, false] d__law_is_within (fCons (fE (fV 1)) (fCons (fC (.int 0)) (fCons (fC (.int 255)) fNil)))))) (fV 1) [1]) fNil)) (fC (.int 0)))))
def d__law_is_row : FnD := fdef 2 [false] b__law_is_row
def b__law_bytes : SF :=
  (sSeq (sOwn 2 (fLst fNil))
  (sSeq (sFor (fRng1 (fCall [true, false] d__law_take (fCons (fV 0) (fCons (fE (fOp gAdd (fV 1) (fC (.int 1)))) fNil)))) (.nm 3) (sApp 2 (fE (fCall [true, false] d__law_pick (fCons (fV 0) (fCons (fE (fLst (fCons (fC (.int 0)) (fCons (fC (.int 1)) (fCons (fC (.int 2)) (fCons (fC (.int 3)) (fCons (fC (.int 127)) (fCons (fC (.int 128)) (fCons (fC (.int 129)) (fCons (fC (.int 255)) (fCons (fE (fCall [true, false] d__law_take (fCons (fV 0) (fCons (fC (.int 256)) fNil)))) (fCons (fE (fCall [true, false] d__law_take (fCons (fV 0) (fCons (fC (.int 256)) fNil)))) fNil)))))))))))) fNil))))))
  (sRet (fB gTuple (fCons (fV 2) fNil)))))
def d__law_bytes : FnD := fdef 4 [true, false] b__law_bytes
def b_is_row : SF :=
  (sRet (fAndV (fB (gIsi (tOne "tuple")) (fCons (fV 0) fNil)) (fAndV (fOp gLe (fB gLen (fCons (fV 0) fNil)) (fC (.int 300000))) (fB gAll (fCons (fLc (fIt asT (fE (fV 0))) (.nm 1) fYes (fCall [false, false] d_is_below (fCons (fE (fV 1)) (fCons (fE (fC (.int 256))) fNil))) [1]) fNil)))))
def d_is_row : FnD := fdef 2 [false] b_is_row
def b_check_row : SF :=
  (sIf (fNot (fTest (fCall [false] d_is_row (fCons (fE (fV 0)) fNil)))) (fun env => .er ⟨2, []⟩ env) sNext)
def d_check_row : FnD := fdef 1 [false] b_check_row
def b__law_same (g0 : FnD) : SF :=
  (sSeq (sIf (fTest (fOp gIs (fV 1) (fC .non))) (sRet (fOp gIs (fV 0) (fC .non))) sNext)
  (sSeq (sIf (fTest (fOp gIs (fV 1) (fC (.bl true)))) (sRet (fOp gIs (fV 0) (fC (.bl true)))) sNext)
  (sSeq (sIf (fTest (fOp gIs (fV 1) (fC (.bl false)))) (sRet (fOp gIs (fV 0) (fC (.bl false)))) sNext)
  (sSeq (sIf (fTest (fB (gIsi tInt) (fCons (fV 1) fNil))) (sRet (fAndV (fCall [false] d__law_is_integer (fCons (fE (fV 0)) fNil)) (fOp gEq (fV 0) (fV 1)))) sNext)
  (sSeq (sIf (fTest (fB (gIsi (tOne "str")) (fCons (fV 1) fNil))) (sRet (fAndV (fB (gIsi (tOne "str")) (fCons (fV 0) fNil)) (fOp gEq (fV 0) (fV 1)))) sNext)
  (sSeq (sIf (fOr (fTest (fOp gNe (fB (gIsi (tOne "tuple")) (fCons (fV 1) fNil)) (fB (gIsi (tOne "tuple")) (fCons (fV 0) fNil)))) (fTest (fOp gNe (fB (gIsi (tOne "list")) (fCons (fV 1) fNil)) (fB (gIsi (tOne "list")) (fCons (fV 0) fNil))))) (sRet (fC (.bl false))) sNext)
  (sSeq (sIf (fTest (fOp gNe (fB gLen (fCons (fV 0) fNil)) (fB gLen (fCons (fV 1) fNil)))) (sRet (fC (.bl false))) sNext)
  (sSeq (sFor (fZip (fE (fV 0)) (fE (fV 1))) (.tp (.cons (.nm 2) (.cons (.nm 3) .nil))) (sIf (fNot (fTest (fCall [false, false] g0 (fCons (fE (fV 2)) (fCons (fE (fV 3)) fNil))))) (sRet (fC (.bl false))) sNext))
  (sRet (fC (.bl true)))))))))))
def d__law_same : Nat → FnD
  | 0 => fun _ => .bad
  | n + 1 => fdef 4 [false, false] (b__law_same (d__law_same n))
def b_mark : SF :=
  (sSeq (sDrop (fCall [false] d_check_row (fCons (fE (fV 0)) fNil)))
  (sRet (fCall [false] d_mark_of (fCons (fE (fV 0)) fNil))))
def d_mark : FnD := fdef 1 [false] b_mark
def b_mark_behind : SF :=
  (sSeq (sIf (fNot (fTest (fCall [false, false] d_is_below (fCons (fE (fV 0)) (fCons (fE (fC (.int 2305843009213693951))) fNil))))) (fun env => .er ⟨1, []⟩ env) sNext)
  (sSeq (sDrop (fCall [false] d_check_row (fCons (fE (fV 1)) fNil)))
  (sRet (fCall [false, false] d_marked (fCons (fE (fV 0)) (fCons (fE (fV 1)) fNil))))))
def d_mark_behind : FnD := fdef 2 [false, false] b_mark_behind
def b__law_mark_told : SF :=
  (sTry (sRet (fTup (fCons (fC (.str "told")) (fCons (fE (fCall [false] d_mark (fCons (fE (fV 0)) fNil))) fNil)))) ((tst_NoRow, (sRet (fTup (fCons (fC (.str "NoRow")) fNil)))) :: []))
def d__law_mark_told : FnD := fdef 1 [false] b__law_mark_told
def b__law_behind_told : SF :=
  (sTry (sRet (fTup (fCons (fC (.str "told")) (fCons (fE (fCall [false, false] d_mark_behind (fCons (fE (fV 0)) (fCons (fE (fV 1)) fNil)))) fNil)))) ((tst_NoNumber, (sRet (fTup (fCons (fC (.str "NoNumber")) fNil)))) :: ((tst_NoRow, (sRet (fTup (fCons (fC (.str "NoRow")) fNil)))) :: [])))
def d__law_behind_told : FnD := fdef 2 [false, false] b__law_behind_told
def b__law_are_long_right : SF :=
  (sSeq (sSet 1 (fOp gMul (fTup (fCons (fE (fV 0)) fNil)) (fC (.int 300001))))
  (sSeq (sIf (fOr (fTest (fOp gNe (fCall [false] d__law_mark_told (fCons (fE (fV 1)) fNil)) (fTup (fCons (fC (.str "NoRow")) fNil)))) (fTest (fOp gNe (fCall [false, false] d__law_behind_told (fCons (fC (.int 1)) (fCons (fE (fV 1)) fNil))) (fTup (fCons (fC (.str "NoRow")) fNil))))) (sRet (fC (.bl false))) sNext)
  (sRet (fCall [false, false] (d__law_same 4) (fCons (fE (fCall [false] d_mark (fCons (fE (fSl (fV 1) (fPart (fC (.int 1))) fNoPart)) fNil))) (fCons (fE (fCall [false, false] d__law_marked (fCons (fC (.int 1)) (fCons (fE (fSl (fV 1) (fPart (fC (.int 1))) fNoPart)) fNil)))) fNil))))))
def d__law_are_long_right : FnD := fdef 2 [false] b__law_are_long_right
def b_law_1 : SF := (sOwn 1 (fCall [false] d__law_hand (fCons (fE (fV 0)) fNil)))
def b_law_2 : SF := (sIf (fAnd (fTest (fOp gEq (fCall [true, false] d__law_take (fCons (fV 1) (fCons (fC (.int 20)) fNil))) (fC (.int 0)))) (fNot (fTest (fCall [false] d__law_are_long_right (fCons (fE (fCall [true, false] d__law_take (fCons (fV 1) (fCons (fC (.int 256)) fNil)))) fNil))))) (sRet (fC (.bl false))) sNext)
def b_law_3 : SF := (sSet 2 (fCall [true, false] d__law_bytes (fCons (fV 1) (fCons (fC (.int 40)) fNil))))
def b_law_4 : SF := (sSet 2 (fOp gMul (fOp gAdd (fV 2) (fTup (fCons (fC (.int 7)) fNil))) (fC (.int 75))))
def b_law_5 : SF := (sIf (fTest (fOp gEq (fCall [true, false] d__law_take (fCons (fV 1) (fCons (fC (.int 15)) fNil))) (fC (.int 0)))) b_law_4 sNext)
def b_law_6 : SF := (sSet 3 (fCall [false, false] d__law_marked (fCons (fC (.int 1)) (fCons (fE (fV 2)) fNil))))
def b_law_7 : SF := (sIf (fNot (fTest (fCall [false, false] (d__law_same 4) (fCons (fE (fCall [false] d_mark (fCons (fE (fV 2)) fNil))) (fCons (fE (fV 3)) fNil))))) (sRet (fC (.bl false))) sNext)
def b_law_8 : SF := (sSet 4 (fCall [true, false] d__law_take (fCons (fV 1) (fCons (fE (fOp gAdd (fB gLen (fCons (fV 2) fNil)) (fC (.int 1)))) fNil))))
def b_law_9 : SF := (sIf (fNot (fTest (fCall [false, false] (d__law_same 4) (fCons (fE (fCall [false, false] d_mark_behind (fCons (fE (fCall [false] d_mark (fCons (fE (fSl (fV 2) fNoPart (fPart (fV 4)))) fNil))) (fCons (fE (fSl (fV 2) (fPart (fV 4)) fNoPart)) fNil)))) (fCons (fE (fV 3)) fNil))))) (sRet (fC (.bl false))) sNext)
def b_law_10 : SF := (sIf (fAnd (fTest (fOp gLt (fV 4) (fB gLen (fCons (fV 2) fNil)))) (fTest (fOp gEq (fCall [false] d_mark (fCons (fE (fOp gAdd (fOp gAdd (fSl (fV 2) fNoPart (fPart (fV 4))) (fTup (fCons (fE (fOp gMod (fB gInt (fCons (fOp gAdd (fOp gAdd (fOp gIx (fV 2) (fV 4)) (fC (.int 1))) (fCall [true, false] d__law_take (fCons (fV 1) (fCons (fC (.int 255)) fNil)))) fNil)) (fC (.int 256)))) fNil))) (fSl (fV 2) (fPart (fOp gAdd (fV 4) (fC (.int 1)))) fNoPart))) fNil)) (fV 3)))) (sRet (fC (.bl false))) sNext)
def b_law_11 : SF := (sSet 6 (fCall [true, false] d__law_pick (fCons (fV 1) (fCons (fE (fLst (fCons (fC (.int 0)) (fCons (fC (.int 1)) (fCons (fE (fCall [true, false] d__law_take (fCons (fV 1) (fCons (fE (fOp gPow (fC (.int 2)) (fC (.int 32)))) fNil)))) (fCons (fE (fOp gSub (fOp gPow (fC (.int 2)) (fC (.int 61))) (fC (.int 2)))) (fCons (fE (fOp gSub (fOp gPow (fC (.int 2)) (fC (.int 61))) (fC (.int 1)))) (fCons (fE (fNeg (fC (.int 1)))) (fCons (fC (.bl true)) (fCons (fC .non) (fCons (fE (fCall [true] d__law_odd (fCons (fV 1) fNil))) fNil))))))))))) fNil))))
def b_law_12 : SF := (sSet 7 (fCall [true, false] d__law_pick (fCons (fV 1) (fCons (fE (fLst (fCons (fE (fV 2)) (fCons (fE (fV 2)) (fCons (fE (fCall [true] d__law_odd (fCons (fV 1) fNil))) (fCons (fE (fB gList (fCons (fV 2) fNil))) (fCons (fE (fOp gAdd (fV 2) (fTup (fCons (fC (.int 256)) fNil)))) (fCons (fE (fOp gAdd (fV 2) (fTup (fCons (fE (fNeg (fC (.int 1)))) fNil)))) (fCons (fE (fOp gAdd (fV 2) (fTup (fCons (fC (.bl true)) fNil)))) (fCons (fE (fOp gAdd (fV 2) (fTup (fCons (fC (.str "7")) fNil)))) fNil)))))))))) fNil))))
def b_law_13 : SF := (sSet 8 (fTup (fCons (fC (.str "told")) (fCons (fE (fCall [false, false] d__law_marked (fCons (fC (.int 1)) (fCons (fE (fV 7)) fNil)))) fNil))))
def b_law_14 : SF := (sIf (fTest (fCall [false] d__law_is_row (fCons (fE (fV 7)) fNil))) b_law_13 sNext)
def b_law_15 : SF := (sIf (fNot (fTest (fCall [false, false] (d__law_same 4) (fCons (fE (fCall [false] d__law_mark_told (fCons (fE (fV 7)) fNil))) (fCons (fE (fV 8)) fNil))))) (sRet (fC (.bl false))) sNext)
def b_law_16 : SF := (sSet 8 (fTup (fCons (fC (.str "told")) (fCons (fE (fCall [false, false] d__law_marked (fCons (fE (fV 6)) (fCons (fE (fV 7)) fNil)))) fNil))))
def b_law_17 : SF := (sIf (fTest (fCall [false] d__law_is_row (fCons (fE (fV 7)) fNil))) b_law_16 sNext)
def b_law_18 : SF := (sIf (fTest (fCall [false, false, false] d__law_is_within (fCons (fE (fV 6)) (fCons (fC (.int 0)) (fCons (fE (fOp gSub (fOp gPow (fC (.int 2)) (fC (.int 61))) (fC (.int 2)))) fNil))))) (sSeq (sSet 8 (fTup (fCons (fC (.str "NoRow")) fNil)))
  b_law_17) sNext)
def b_law_19 : SF := (sIf (fNot (fTest (fCall [false, false] (d__law_same 4) (fCons (fE (fCall [false, false] d__law_behind_told (fCons (fE (fV 6)) (fCons (fE (fV 7)) fNil)))) (fCons (fE (fV 8)) fNil))))) (sRet (fC (.bl false))) sNext)
def b_law_20 : SF := (sSeq b_law_11
  (sSeq b_law_12
  (sSeq (sSet 8 (fTup (fCons (fC (.str "NoRow")) fNil)))
  (sSeq b_law_14
  (sSeq b_law_15
  (sSeq (sSet 8 (fTup (fCons (fC (.str "NoNumber")) fNil)))
  (sSeq b_law_18
  b_law_19)))))))
def b_law : SF :=
  (sSeq b_law_1
  (sSeq b_law_2
  (sSeq b_law_3
  (sSeq b_law_5
  (sSeq b_law_6
  (sSeq b_law_7
  (sSeq b_law_8
  (sSeq b_law_9
  (sSeq b_law_10
  (sSeq (sFor (fRng1 (fC (.int 4))) (.nm 5) b_law_20)
  (sRet (fC (.bl true)))))))))))))
def d_law : FnD := fdef 9 [false] b_law
end K25

set_option maxRecDepth 100000
set_option maxHeartbeats 4000000
namespace K25
open PySem PySem.Spec PyProof.Rows L2 BV
def topS (i : Nat) : Stmt := PySem.Challenge.pw_everybrought_k25_whole_marks_of_rows.main.body.getD i (.Pass ⟨0, 0, 0, 0⟩)
structure Txt (K : PySem.W.Frag) (mg : Str → Option Value) (fa : Nat → Addr) (fd : Nat → FuncData) (ci : Nat → Addr) : Prop where
  F_is_integer : Fun K "is_integer" "is_integer" (topS 5) (fa 0) (fd 0)
  B_is_integer : Binds K (fd 0) ["thing"] []
  G_is_integer : mg "is_integer" = some (.ref (fa 0))
  F_is_within : Fun K "is_within" "is_within" (topS 6) (fa 1) (fd 1)
  B_is_within : Binds K (fd 1) ["thing", "least", "most"] []
  G_is_within : mg "is_within" = some (.ref (fa 1))
  F_is_below : Fun K "is_below" "is_below" (topS 7) (fa 2) (fd 2)
  B_is_below : Binds K (fd 2) ["thing", "many"] []
  G_is_below : mg "is_below" = some (.ref (fa 2))
  F_is_row : Fun K "is_row" "is_row" (topS 11) (fa 3) (fd 3)
  B_is_row : Binds K (fd 3) ["thing"] []
  G_is_row : mg "is_row" = some (.ref (fa 3))
  F_check_row : Fun K "check_row" "check_row" (topS 12) (fa 4) (fd 4)
  B_check_row : Binds K (fd 4) ["thing"] []
  G_check_row : mg "check_row" = some (.ref (fa 4))
  F_marked : Fun K "marked" "marked" (topS 17) (fa 5) (fd 5)
  B_marked : Binds K (fd 5) ["mark", "row"] []
  G_marked : mg "marked" = some (.ref (fa 5))
  F_mark_of : Fun K "mark_of" "mark_of" (topS 18) (fa 6) (fd 6)
  B_mark_of : Binds K (fd 6) ["row"] []
  G_mark_of : mg "mark_of" = some (.ref (fa 6))
  F_mark : Fun K "mark" "mark" (topS 19) (fa 7) (fd 7)
  B_mark : Binds K (fd 7) ["row"] []
  G_mark : mg "mark" = some (.ref (fa 7))
  F_mark_behind : Fun K "mark_behind" "mark_behind" (topS 20) (fa 8) (fd 8)
  B_mark_behind : Binds K (fd 8) ["number", "row"] []
  G_mark_behind : mg "mark_behind" = some (.ref (fa 8))
  F__law_hand : Fun K "_law_hand" "_law_hand" (topS 22) (fa 9) (fd 9)
  B__law_hand : Binds K (fd 9) ["script"] []
  G__law_hand : mg "_law_hand" = some (.ref (fa 9))
  F__law_take : Fun K "_law_take" "_law_take" (topS 23) (fa 10) (fd 10)
  B__law_take : Binds K (fd 10) ["hand", "many"] []
  G__law_take : mg "_law_take" = some (.ref (fa 10))
  F__law_pick : Fun K "_law_pick" "_law_pick" (topS 24) (fa 11) (fd 11)
  B__law_pick : Binds K (fd 11) ["hand", "things"] []
  G__law_pick : mg "_law_pick" = some (.ref (fa 11))
  F__law_is_integer : Fun K "_law_is_integer" "_law_is_integer" (topS 25) (fa 12) (fd 12)
  B__law_is_integer : Binds K (fd 12) ["thing"] []
  G__law_is_integer : mg "_law_is_integer" = some (.ref (fa 12))
  F__law_is_within : Fun K "_law_is_within" "_law_is_within" (topS 26) (fa 13) (fd 13)
  B__law_is_within : Binds K (fd 13) ["thing", "least", "most"] []
  G__law_is_within : mg "_law_is_within" = some (.ref (fa 13))
  F__law_same : Fun K "_law_same" "_law_same" (topS 27) (fa 14) (fd 14)
  B__law_same : Binds K (fd 14) ["actual", "due"] []
  G__law_same : mg "_law_same" = some (.ref (fa 14))
  F__law_odd : Fun K "_law_odd" "_law_odd" (topS 28) (fa 15) (fd 15)
  B__law_odd : Binds K (fd 15) ["hand"] []
  G__law_odd : mg "_law_odd" = some (.ref (fa 15))
  F__law_is_row : Fun K "_law_is_row" "_law_is_row" (topS 29) (fa 16) (fd 16)
  B__law_is_row : Binds K (fd 16) ["thing"] []
  G__law_is_row : mg "_law_is_row" = some (.ref (fa 16))
  F__law_bytes : Fun K "_law_bytes" "_law_bytes" (topS 30) (fa 17) (fd 17)
  B__law_bytes : Binds K (fd 17) ["hand", "most"] []
  G__law_bytes : mg "_law_bytes" = some (.ref (fa 17))
  F__law_marked : Fun K "_law_marked" "_law_marked" (topS 31) (fa 18) (fd 18)
  B__law_marked : Binds K (fd 18) ["found", "row"] []
  G__law_marked : mg "_law_marked" = some (.ref (fa 18))
  F__law_mark_told : Fun K "_law_mark_told" "_law_mark_told" (topS 32) (fa 19) (fd 19)
  B__law_mark_told : Binds K (fd 19) ["row"] []
  G__law_mark_told : mg "_law_mark_told" = some (.ref (fa 19))
  F__law_behind_told : Fun K "_law_behind_told" "_law_behind_told" (topS 33) (fa 20) (fd 20)
  B__law_behind_told : Binds K (fd 20) ["number", "row"] []
  G__law_behind_told : mg "_law_behind_told" = some (.ref (fa 20))
  F__law_are_long_right : Fun K "_law_are_long_right" "_law_are_long_right" (topS 34) (fa 21) (fd 21)
  B__law_are_long_right : Binds K (fd 21) ["byte"] []
  G__law_are_long_right : mg "_law_are_long_right" = some (.ref (fa 21))
  F_law : Fun K "law" "law" (topS 35) (fa 22) (fd 22)
  B_law : Binds K (fd 22) ["script"] []
  G_law : mg "law" = some (.ref (fa 22))
  z_all : mg "all" = none
  z_bool : mg "bool" = none
  z_int : mg "int" = none
  z_isinstance : mg "isinstance" = none
  z_len : mg "len" = none
  z_list : mg "list" = none
  z_range : mg "range" = none
  z_str : mg "str" = none
  z_tuple : mg "tuple" = none
  z_zip : mg "zip" = none
  c_BYTE : ∃ t, mg "BYTE" = some (.int 256 t)
  c_MARK_BEGIN : ∃ t, mg "MARK_BEGIN" = some (.int 1 t)
  c_MARK_PRIME : ∃ t, mg "MARK_PRIME" = some (.int 2305843009213693951 t)
  c_MARK_STEP : ∃ t, mg "MARK_STEP" = some (.int 1000003 t)
  c_MOST_BYTES : ∃ t, mg "MOST_BYTES" = some (.int 300000 t)
  g_NoNumber : mg "NoNumber" = some (.ref (ci 1))
  x_NoNumber : PySem.W.excIn K (ci 1) PySem.HandSPX.veTail "ValueError.__new__" = true
  k_NoNumber : PySem.W.keepIn K (.ref (ci 1)) = true
  e_NoNumber : PySem.W.subIn K (.ref (ci 1)) (.type "BaseException") = some true
  t_NoNumber : PySem.W.typeIn K (.ref (ci 1)) = some (.type "type")
  g_NoRow : mg "NoRow" = some (.ref (ci 2))
  x_NoRow : PySem.W.excIn K (ci 2) PySem.HandSPX.veTail "ValueError.__new__" = true
  k_NoRow : PySem.W.keepIn K (.ref (ci 2)) = true
  e_NoRow : PySem.W.subIn K (.ref (ci 2)) (.type "BaseException") = some true
  t_NoRow : PySem.W.typeIn K (.ref (ci 2)) = some (.type "type")
  s_NoNumber : Tst K ci (.ref (ci 1)) tst_NoNumber
  s_NoRow : Tst K ci (.ref (ci 2)) tst_NoRow
section
variable {P : Program} {w : World} {K : PySem.W.Frag} {mg : Str → Option Value} {base : Heap} {fa : Nat → Addr} {fd : Nat → FuncData} {ci : Nat → Addr}
theorem Txt.n_NoNumber (T : Txt K mg fa fd ci) {X : Cx} (hg : Gl X "NoNumber") (hm : X.mg = mg) : Names X "NoNumber" (.ref (ci 1)) := ⟨hg, by decide, .inl (by rw [hm]; exact T.g_NoNumber)⟩
theorem Txt.n_NoRow (T : Txt K mg fa fd ci) {X : Cx} (hg : Gl X "NoRow") (hm : X.mg = mg) : Names X "NoRow" (.ref (ci 2)) := ⟨hg, by decide, .inl (by rw [hm]; exact T.g_NoRow)⟩
theorem sc_is_integer : FnScope ["thing"] ["thing"] (defScope (topS 5)) := ⟨rfl, rfl, rfl, by decide +kernel, rfl, by decide +kernel, by decide +kernel⟩
theorem ok_is_integer (T : Txt K mg fa fd ci) : FnOk P w K mg base (L2.CX P w) 1 (fa 0) (fd 0) ["thing"] (spF K ci [false] d_is_integer) := by
  refine fn_ok (k := 0) T.F_is_integer sc_is_integer rfl fun cdv A outer s H E hr => ?_
  have hu := hr.units
  have nd := sc_is_integer.nd
  exact (s_one (s_ret (x_and (x_isi tab_int rfl T.z_isinstance (by decide +kernel) rfl T.z_int (by decide +kernel) (x_var 0)) (x_one (x_not (x_isi tab_bool rfl T.z_isinstance (by decide +kernel) rfl T.z_bool (by decide +kernel) (x_var 0)))))))
theorem sc_marked : FnScope ["mark", "row", "found", "byte"] ["mark", "row"] (defScope (topS 17)) := ⟨rfl, rfl, rfl, by decide +kernel, rfl, by decide +kernel, by decide +kernel⟩
theorem ok_marked (T : Txt K mg fa fd ci) : FnOk P w K mg base (L2.CX P w) 1 (fa 5) (fd 5) ["mark", "row"] (spF K ci [false, false] d_marked) := by
  refine fn_ok (k := 0) T.F_marked sc_marked rfl fun cdv A outer s H E hr => ?_
  have hu := hr.units
  have nd := sc_marked.nd
  exact (s_cons (s_set (i := 2) (by decide) (x_var 0) nd)
  (s_cons (s_for (passes_of rfl) rfl (i_tup (x_esc (x_var 1))) (g_nm (by decide) nd) (s_one (s_set (i := 2) (by decide) (x_op o_mod (x_op o_add (x_op o_add (x_op o_mul (x_var 2) (x_globI rfl T.c_MARK_STEP)) (x_var 3)) x_int) (x_globI rfl T.c_MARK_PRIME)) nd)))
  (s_one (s_ret (x_var 2)))))
theorem sc__law_hand : FnScope ["script"] ["script"] (defScope (topS 22)) := ⟨rfl, rfl, rfl, by decide +kernel, rfl, by decide +kernel, by decide +kernel⟩
theorem ok__law_hand (T : Txt K mg fa fd ci) : FnOk P w K mg base (L2.CX P w) 1 (fa 9) (fd 9) ["script"] (spF K ci [false] d__law_hand) := by
  refine fn_ok (k := 0) T.F__law_hand sc__law_hand rfl fun cdv A outer s H E hr => ?_
  have hu := hr.units
  have nd := sc__law_hand.nd
  exact (s_one (s_retNew (x_lst (a_cons (x_esc (x_callTy b_list rfl T.z_list (by decide +kernel) (a_cons (x_var 0) a_nil))) (a_cons x_int (a_cons x_int (a_cons x_int (a_cons x_int a_nil))))))))
theorem sc__law_take : FnScope ["hand", "many", "cell", "found", "number"] ["hand", "many"] (defScope (topS 23)) := ⟨rfl, rfl, rfl, by decide +kernel, rfl, by decide +kernel, by decide +kernel⟩
theorem ok__law_take (T : Txt K mg fa fd ci) : FnOk P w K mg base (L2.CX P w) 1 (fa 10) (fd 10) ["hand", "many"] (spF K ci [true, false] d__law_take) := by
  refine fn_ok (k := 0) T.F__law_take sc__law_take rfl fun cdv A outer s H E hr => ?_
  have hu := hr.units
  have nd := sc__law_take.nd
  exact (s_cons (s_setIx 0 x_int (x_op o_add (x_ix ix_all (x_var 0) x_int) x_int))
  (s_cons (s_if (t_w (w_and (t_cmp (o_eq hu) (x_ix ix_all (x_var 0) x_int) x_int (nomark _)) (w_and1 (t_cmp o_lt (x_ix ix_all (x_var 0) x_int) (x_callB b_len rfl T.z_len (by decide +kernel) (a_cons (x_ix ix_all (x_var 0) x_int) a_nil)) (nomark _))))) (s_cons (s_set (i := 2) (by decide) (x_callTy b_int rfl T.z_int (by decide +kernel) (a_cons (x_ix ix_all (x_ix ix_all (x_var 0) x_int) (x_ix ix_all (x_var 0) x_int)) a_nil)) nd)
  (s_cons (s_setIx 0 x_int (x_op o_add (x_ix ix_all (x_var 0) x_int) x_int))
  (s_one (s_if (t_cmp o_ge (x_var 2) (x_op o_pow x_int x_int) (nomark _)) (s_one (s_setIx 0 x_int (x_var 2))) (s_one (s_setIx 0 x_int (x_op o_mod (x_callTy b_int rfl T.z_int (by decide +kernel) (a_cons (x_op o_add (x_op o_add (x_op o_mul (x_ix ix_all (x_var 0) x_int) x_int) (x_op o_mod (x_callTy b_int rfl T.z_int (by decide +kernel) (a_cons (x_var 2) a_nil)) x_int)) x_int) a_nil)) x_int))))))) s_nil)
  (s_cons (s_if (t_cmp o_gt (x_ix ix_all (x_var 0) x_int) x_int (nomark _)) (s_cons (s_set (i := 3) (by decide) (x_op o_mod (x_callTy b_int rfl T.z_int (by decide +kernel) (a_cons (x_ix ix_all (x_var 0) x_int) a_nil)) (x_var 1)) nd)
  (s_cons (s_setIx 0 x_int (x_op o_div (x_callTy b_int rfl T.z_int (by decide +kernel) (a_cons (x_ix ix_all (x_var 0) x_int) a_nil)) (x_var 1)))
  (s_one (s_ret (x_var 3))))) s_nil)
  (s_cons (s_setIx 0 x_int (x_op o_mod (x_callTy b_int rfl T.z_int (by decide +kernel) (a_cons (x_op o_add (x_op o_mul (x_ix ix_all (x_var 0) x_int) x_int) (x_op o_mul x_int (x_ix ix_all (x_var 0) x_int))) a_nil)) x_int))
  (s_cons (s_set (i := 4) (by decide) (x_op o_mod (x_callTy b_int rfl T.z_int (by decide +kernel) (a_cons (x_op o_mul (x_ix ix_all (x_var 0) x_int) (x_op o_add (x_op o_div (x_ix ix_all (x_var 0) x_int) x_int) x_int)) a_nil)) x_int) nd)
  (s_cons (s_set (i := 4) (by decide) (x_op o_mod (x_callTy b_int rfl T.z_int (by decide +kernel) (a_cons (x_op o_mul (x_var 4) (x_op o_add (x_op o_div (x_var 4) x_int) x_int)) a_nil)) x_int) nd)
  (s_one (s_ret (x_op o_mod (x_callTy b_int rfl T.z_int (by decide +kernel) (a_cons (x_op o_div (x_var 4) x_int) a_nil)) (x_var 1))))))))))
theorem sc__law_is_integer : FnScope ["thing"] ["thing"] (defScope (topS 25)) := ⟨rfl, rfl, rfl, by decide +kernel, rfl, by decide +kernel, by decide +kernel⟩
theorem ok__law_is_integer (T : Txt K mg fa fd ci) : FnOk P w K mg base (L2.CX P w) 1 (fa 12) (fd 12) ["thing"] (spF K ci [false] d__law_is_integer) := by
  refine fn_ok (k := 0) T.F__law_is_integer sc__law_is_integer rfl fun cdv A outer s H E hr => ?_
  have hu := hr.units
  have nd := sc__law_is_integer.nd
  exact (s_one (s_ret (x_and (x_isi tab_int rfl T.z_isinstance (by decide +kernel) rfl T.z_int (by decide +kernel) (x_var 0)) (x_one (x_not (x_isi tab_bool rfl T.z_isinstance (by decide +kernel) rfl T.z_bool (by decide +kernel) (x_var 0)))))))
theorem sc__law_marked : FnScope ["found", "row", "byte"] ["found", "row"] (defScope (topS 31)) := ⟨rfl, rfl, rfl, by decide +kernel, rfl, by decide +kernel, by decide +kernel⟩
theorem ok__law_marked (T : Txt K mg fa fd ci) : FnOk P w K mg base (L2.CX P w) 1 (fa 18) (fd 18) ["found", "row"] (spF K ci [false, false] d__law_marked) := by
  refine fn_ok (k := 0) T.F__law_marked sc__law_marked rfl fun cdv A outer s H E hr => ?_
  have hu := hr.units
  have nd := sc__law_marked.nd
  exact (s_cons (s_for (passes_of rfl) rfl (i_tup (x_esc (x_var 1))) (g_nm (by decide) nd) (s_one (s_set (i := 0) (by decide) (x_op o_mod (x_callTy b_int rfl T.z_int (by decide +kernel) (a_cons (x_op o_add (x_op o_add (x_op o_mul (x_var 0) x_int) (x_var 2)) x_int) a_nil)) x_int) nd)))
  (s_one (s_ret (x_var 0))))
theorem sc_is_within : FnScope ["thing", "least", "most"] ["thing", "least", "most"] (defScope (topS 6)) := ⟨rfl, rfl, rfl, by decide +kernel, rfl, by decide +kernel, by decide +kernel⟩
theorem ok_is_within (T : Txt K mg fa fd ci) : FnOk P w K mg base (L2.CX P w) 2 (fa 1) (fd 1) ["thing", "least", "most"] (spF K ci [false, false, false] d_is_within) := by
  have O_is_integer := ok_is_integer (P := P) (w := w) (base := base) T
  refine fn_ok (k := 1) T.F_is_within sc_is_within rfl fun cdv A outer s H E hr => ?_
  have hu := hr.units
  have nd := sc_is_within.nd
  exact (s_one (s_ret (x_and (x_call O_is_integer (hr.mono (by decide)) rfl T.G_is_integer T.F_is_integer.kp T.B_is_integer (a_cons (x_esc (x_var 0)) a_nil)) (x_one (x_chain o_le o_le (x_var 1) (x_var 0) (x_var 2))))))
theorem sc_mark_of : FnScope ["row"] ["row"] (defScope (topS 18)) := ⟨rfl, rfl, rfl, by decide +kernel, rfl, by decide +kernel, by decide +kernel⟩
theorem ok_mark_of (T : Txt K mg fa fd ci) : FnOk P w K mg base (L2.CX P w) 2 (fa 6) (fd 6) ["row"] (spF K ci [false] d_mark_of) := by
  have O_marked := ok_marked (P := P) (w := w) (base := base) T
  refine fn_ok (k := 1) T.F_mark_of sc_mark_of rfl fun cdv A outer s H E hr => ?_
  have hu := hr.units
  have nd := sc_mark_of.nd
  exact (s_one (s_ret (x_call O_marked (hr.mono (by decide)) rfl T.G_marked T.F_marked.kp T.B_marked (a_cons (x_esc (x_globI rfl T.c_MARK_BEGIN)) (a_cons (x_esc (x_var 0)) a_nil)))))
theorem sc__law_pick : FnScope ["hand", "things"] ["hand", "things"] (defScope (topS 24)) := ⟨rfl, rfl, rfl, by decide +kernel, rfl, by decide +kernel, by decide +kernel⟩
theorem ok__law_pick (T : Txt K mg fa fd ci) : FnOk P w K mg base (L2.CX P w) 2 (fa 11) (fd 11) ["hand", "things"] (spF K ci [true, false] d__law_pick) := by
  have O__law_take := ok__law_take (P := P) (w := w) (base := base) T
  refine fn_ok (k := 1) T.F__law_pick sc__law_pick rfl fun cdv A outer s H E hr => ?_
  have hu := hr.units
  have nd := sc__law_pick.nd
  exact (s_one (s_ret (x_ix ix_all (x_var 1) (x_call O__law_take (hr.mono (by decide)) rfl T.G__law_take T.F__law_take.kp T.B__law_take (a_cons (x_var 0) (a_cons (x_esc (x_callB b_len rfl T.z_len (by decide +kernel) (a_cons (x_var 1) a_nil))) a_nil))))))
theorem sc__law_is_within : FnScope ["thing", "least", "most"] ["thing", "least", "most"] (defScope (topS 26)) := ⟨rfl, rfl, rfl, by decide +kernel, rfl, by decide +kernel, by decide +kernel⟩
theorem ok__law_is_within (T : Txt K mg fa fd ci) : FnOk P w K mg base (L2.CX P w) 2 (fa 13) (fd 13) ["thing", "least", "most"] (spF K ci [false, false, false] d__law_is_within) := by
  have O__law_is_integer := ok__law_is_integer (P := P) (w := w) (base := base) T
  refine fn_ok (k := 1) T.F__law_is_within sc__law_is_within rfl fun cdv A outer s H E hr => ?_
  have hu := hr.units
  have nd := sc__law_is_within.nd
  exact (s_one (s_ret (x_and (x_call O__law_is_integer (hr.mono (by decide)) rfl T.G__law_is_integer T.F__law_is_integer.kp T.B__law_is_integer (a_cons (x_esc (x_var 0)) a_nil)) (x_and (x_cmp o_le (x_var 1) (x_var 0) (nomark _)) (x_one (x_cmp o_le (x_var 0) (x_var 2) (nomark _)))))))
theorem sc__law_odd : FnScope ["hand", "turn"] ["hand"] (defScope (topS 28)) := ⟨rfl, rfl, rfl, by decide +kernel, rfl, by decide +kernel, by decide +kernel⟩
theorem ok__law_odd (T : Txt K mg fa fd ci) : FnOk P w K mg base (L2.CX P w) 2 (fa 15) (fd 15) ["hand"] (spF K ci [true] d__law_odd) := by
  have O__law_take := ok__law_take (P := P) (w := w) (base := base) T
  refine fn_ok (k := 1) T.F__law_odd sc__law_odd rfl fun cdv A outer s H E hr => ?_
  have hu := hr.units
  have nd := sc__law_odd.nd
  exact (s_cons (s_set (i := 1) (by decide) (x_call O__law_take (hr.mono (by decide)) rfl T.G__law_take T.F__law_take.kp T.B__law_take (a_cons (x_var 0) (a_cons x_int a_nil))) nd)
  (s_cons (s_if (t_cmp o_lt (x_var 1) x_int (nomark _)) (s_one (s_ret (x_ix ix_all (x_lst (a_cons x_non (a_cons x_bl (a_cons x_bl (a_cons x_str (a_cons x_str (a_cons x_str a_nil))))))) (x_var 1)))) s_nil)
  (s_cons (s_if (t_cmp o_lt (x_var 1) x_int (nomark _)) (s_one (s_ret (x_ix ix_all (x_lst (a_cons (x_tup a_nil) (a_cons (x_esc (x_lst a_nil)) (a_cons (x_esc x_dict0) (a_cons (x_tup (a_cons x_int a_nil)) (a_cons (x_esc (x_lst (a_cons x_int (a_cons x_int a_nil)))) (a_cons (x_tup (a_cons (x_tup a_nil) a_nil)) a_nil))))))) (x_op o_sub (x_var 1) x_int)))) s_nil)
  (s_one (s_ret (x_ix ix_all (x_lst (a_cons (x_esc (x_neg x_int)) (a_cons x_int (a_cons (x_esc (x_op o_sub (x_op o_pow x_int x_int) x_int)) (a_cons (x_tup (a_cons x_int (a_cons x_int a_nil))) (a_cons (x_tup (a_cons x_bl a_nil)) (a_cons (x_tup (a_cons (x_esc (x_neg x_int)) a_nil)) a_nil))))))) (x_op o_sub (x_var 1) x_int)))))))
theorem sc_is_below : FnScope ["thing", "many"] ["thing", "many"] (defScope (topS 7)) := ⟨rfl, rfl, rfl, by decide +kernel, rfl, by decide +kernel, by decide +kernel⟩
theorem ok_is_below (T : Txt K mg fa fd ci) : FnOk P w K mg base (L2.CX P w) 3 (fa 2) (fd 2) ["thing", "many"] (spF K ci [false, false] d_is_below) := by
  have O_is_within := ok_is_within (P := P) (w := w) (base := base) T
  refine fn_ok (k := 2) T.F_is_below sc_is_below rfl fun cdv A outer s H E hr => ?_
  have hu := hr.units
  have nd := sc_is_below.nd
  exact (s_one (s_ret (x_call O_is_within (hr.mono (by decide)) rfl T.G_is_within T.F_is_within.kp T.B_is_within (a_cons (x_esc (x_var 0)) (a_cons x_int (a_cons (x_esc (x_op o_sub (x_var 1) x_int)) a_nil))))))
theorem sc__law_is_row : FnScope ["thing", "byte"] ["thing"] (defScope (topS 29)) := ⟨rfl, rfl, rfl, by decide +kernel, rfl, by decide +kernel, by decide +kernel⟩
theorem ok__law_is_row (T : Txt K mg fa fd ci) : FnOk P w K mg base (L2.CX P w) 3 (fa 16) (fd 16) ["thing"] (spF K ci [false] d__law_is_row) := by
  have O__law_is_within := ok__law_is_within (P := P) (w := w) (base := base) T
  refine fn_ok (k := 2) T.F__law_is_row sc__law_is_row rfl fun cdv A outer s H E hr => ?_
  have hu := hr.units
  have nd := sc__law_is_row.nd
  exact (s_cons (s_if (t_w (w_or (t_not (t_val (x_isi tab_tuple rfl T.z_isinstance (by decide +kernel) rfl T.z_tuple (by decide +kernel) (x_var 0)))) (w_or1 (t_cmp o_gt (x_callB b_len rfl T.z_len (by decide +kernel) (a_cons (x_var 0) a_nil)) x_int (nomark _))))) (s_one (s_ret x_bl)) s_nil)
  (s_one (s_ret (x_cmp (o_eq hu) (x_callB b_len rfl T.z_len (by decide +kernel) (a_cons (x_lc (own := [("byte", 1)]) rfl nd (i_tup (x_esc (x_var 0))) (blkOk_by (N := ["thing", "byte"]) (sc := defScope (topS 29)) (by decide +kernel)) (fun _ => (g_nm (by decide) nd)) (SndIfs.one fun _ => (t_not (t_val (x_call O__law_is_within (hr.mono (by decide)) rfl T.G__law_is_within T.F__law_is_within.kp T.B__law_is_within (a_cons (x_esc (x_var 1)) (a_cons x_int (a_cons x_int a_nil))))))) (fun _ => (x_var 1)) (by decide) (by decide)) a_nil)) x_int (nomark _)))))
theorem sc__law_bytes : FnScope ["hand", "most", "found", "k"] ["hand", "most"] (defScope (topS 30)) := ⟨rfl, rfl, rfl, by decide +kernel, rfl, by decide +kernel, by decide +kernel⟩
theorem ok__law_bytes (T : Txt K mg fa fd ci) : FnOk P w K mg base (L2.CX P w) 3 (fa 17) (fd 17) ["hand", "most"] (spF K ci [true, false] d__law_bytes) := by
  have O__law_take := ok__law_take (P := P) (w := w) (base := base) T
  have O__law_pick := ok__law_pick (P := P) (w := w) (base := base) T
  refine fn_ok (k := 2) T.F__law_bytes sc__law_bytes rfl fun cdv A outer s H E hr => ?_
  have hu := hr.units
  have nd := sc__law_bytes.nd
  exact (s_cons (s_own (i := 2) (by decide) (x_lst a_nil) nd)
  (s_cons (s_for (passes_of rfl) rfl (i_rng1 rfl T.z_range (x_call O__law_take (hr.mono (by decide)) rfl T.G__law_take T.F__law_take.kp T.B__law_take (a_cons (x_var 0) (a_cons (x_esc (x_op o_add (x_var 1) x_int)) a_nil)))) (g_nm (by decide) nd) (s_one (s_app 2 (x_esc (x_call O__law_pick (hr.mono (by decide)) rfl T.G__law_pick T.F__law_pick.kp T.B__law_pick (a_cons (x_var 0) (a_cons (x_esc (x_lst (a_cons x_int (a_cons x_int (a_cons x_int (a_cons x_int (a_cons x_int (a_cons x_int (a_cons x_int (a_cons x_int (a_cons (x_esc (x_call O__law_take (hr.mono (by decide)) rfl T.G__law_take T.F__law_take.kp T.B__law_take (a_cons (x_var 0) (a_cons x_int a_nil)))) (a_cons (x_esc (x_call O__law_take (hr.mono (by decide)) rfl T.G__law_take T.F__law_take.kp T.B__law_take (a_cons (x_var 0) (a_cons x_int a_nil)))) a_nil)))))))))))) a_nil)))))))
  (s_one (s_ret (x_callTy b_tuple rfl T.z_tuple (by decide +kernel) (a_cons (x_var 2) a_nil))))))
theorem sc_is_row : FnScope ["thing", "item"] ["thing"] (defScope (topS 11)) := ⟨rfl, rfl, rfl, by decide +kernel, rfl, by decide +kernel, by decide +kernel⟩
theorem ok_is_row (T : Txt K mg fa fd ci) : FnOk P w K mg base (L2.CX P w) 4 (fa 3) (fd 3) ["thing"] (spF K ci [false] d_is_row) := by
  have O_is_below := ok_is_below (P := P) (w := w) (base := base) T
  refine fn_ok (k := 3) T.F_is_row sc_is_row rfl fun cdv A outer s H E hr => ?_
  have hu := hr.units
  have nd := sc_is_row.nd
  exact (s_one (s_ret (x_and (x_isi tab_tuple rfl T.z_isinstance (by decide +kernel) rfl T.z_tuple (by decide +kernel) (x_var 0)) (x_and (x_cmp o_le (x_callB b_len rfl T.z_len (by decide +kernel) (a_cons (x_var 0) a_nil)) (x_globI rfl T.c_MOST_BYTES) (nomark _)) (x_one (x_callB b_all rfl T.z_all (by decide +kernel) (a_cons (x_lc (own := [("item", 1)]) rfl nd (i_tup (x_esc (x_var 0))) (blkOk_by (N := ["thing", "item"]) (sc := defScope (topS 11)) (by decide +kernel)) (fun _ => (g_nm (by decide) nd)) SndIfs.none (fun _ => (x_call O_is_below (hr.mono (by decide)) rfl T.G_is_below T.F_is_below.kp T.B_is_below (a_cons (x_esc (x_var 1)) (a_cons (x_esc (x_globI rfl T.c_BYTE)) a_nil)))) (by decide) (by decide)) a_nil)))))))
theorem sc_check_row : FnScope ["thing"] ["thing"] (defScope (topS 12)) := ⟨rfl, rfl, rfl, by decide +kernel, rfl, by decide +kernel, by decide +kernel⟩
theorem ok_check_row (T : Txt K mg fa fd ci) : FnOk P w K mg base (L2.CX P w) 5 (fa 4) (fd 4) ["thing"] (spF K ci [false] d_check_row) := by
  have O_is_row := ok_is_row (P := P) (w := w) (base := base) T
  refine fn_ok (k := 4) T.F_check_row sc_check_row rfl fun cdv A outer s H E hr => ?_
  have hu := hr.units
  have nd := sc_check_row.nd
  exact (s_one (s_if (t_not (t_val (x_call O_is_row (hr.mono (by decide)) rfl T.G_is_row T.F_is_row.kp T.B_is_row (a_cons (x_esc (x_var 0)) a_nil)))) (s_one (s_raise0 (c := 2) rfl T.x_NoRow T.g_NoRow T.k_NoRow T.e_NoRow T.t_NoRow rfl)) s_nil))
theorem sc__law_same : FnScope ["actual", "due", "one", "other"] ["actual", "due"] (defScope (topS 27)) := ⟨rfl, rfl, rfl, by decide +kernel, rfl, by decide +kernel, by decide +kernel⟩
theorem ok__law_same (T : Txt K mg fa fd ci) : ∀ n : Nat, FnOk P w K mg base (L2.CX P w) (1 + n) (fa 14) (fd 14) ["actual", "due"] (spF K ci [false, false] (d__law_same n)) := by
  have O__law_is_integer := ok__law_is_integer (P := P) (w := w) (base := base) T
  intro n
  induction n with
  | zero => exact fn_zero rfl
  | succ n ih =>
    refine fn_ok (k := 1 + n) T.F__law_same sc__law_same rfl fun cdv A outer s H E hr => ?_
    have hu := hr.units
    have nd := sc__law_same.nd
    have F0 := ih
    have hr0 := hr
    exact (s_cons (s_if (t_cmp o_is (x_var 1) x_non (nomark _)) (s_one (s_ret (x_cmp o_is (x_var 0) x_non (nomark _)))) s_nil)
  (s_cons (s_if (t_cmp o_is (x_var 1) x_bl (nomark _)) (s_one (s_ret (x_cmp o_is (x_var 0) x_bl (nomark _)))) s_nil)
  (s_cons (s_if (t_cmp o_is (x_var 1) x_bl (nomark _)) (s_one (s_ret (x_cmp o_is (x_var 0) x_bl (nomark _)))) s_nil)
  (s_cons (s_if (t_val (x_isi tab_int rfl T.z_isinstance (by decide +kernel) rfl T.z_int (by decide +kernel) (x_var 1))) (s_one (s_ret (x_and (x_call O__law_is_integer (hr.mono (by omega)) rfl T.G__law_is_integer T.F__law_is_integer.kp T.B__law_is_integer (a_cons (x_esc (x_var 0)) a_nil)) (x_one (x_cmp (o_eq hu) (x_var 0) (x_var 1) (nomark _)))))) s_nil)
  (s_cons (s_if (t_val (x_isi tab_str rfl T.z_isinstance (by decide +kernel) rfl T.z_str (by decide +kernel) (x_var 1))) (s_one (s_ret (x_and (x_isi tab_str rfl T.z_isinstance (by decide +kernel) rfl T.z_str (by decide +kernel) (x_var 0)) (x_one (x_cmp (o_eq hu) (x_var 0) (x_var 1) (nomark _)))))) s_nil)
  (s_cons (s_if (t_w (w_or (t_cmp (o_ne hu) (x_isi tab_tuple rfl T.z_isinstance (by decide +kernel) rfl T.z_tuple (by decide +kernel) (x_var 1)) (x_isi tab_tuple rfl T.z_isinstance (by decide +kernel) rfl T.z_tuple (by decide +kernel) (x_var 0)) (nomark _)) (w_or1 (t_cmp (o_ne hu) (x_isi tab_list rfl T.z_isinstance (by decide +kernel) rfl T.z_list (by decide +kernel) (x_var 1)) (x_isi tab_list rfl T.z_isinstance (by decide +kernel) rfl T.z_list (by decide +kernel) (x_var 0)) (nomark _))))) (s_one (s_ret x_bl)) s_nil)
  (s_cons (s_if (t_cmp (o_ne hu) (x_callB b_len rfl T.z_len (by decide +kernel) (a_cons (x_var 0) a_nil)) (x_callB b_len rfl T.z_len (by decide +kernel) (a_cons (x_var 1) a_nil)) (nomark _)) (s_one (s_ret x_bl)) s_nil)
  (s_cons (s_for (passes_of rfl) rfl (i_zip rfl T.z_zip (x_esc (x_var 0)) (x_esc (x_var 1))) (g_tp rfl (gs_cons (g_nm (by decide) nd) (gs_cons (g_nm (by decide) nd) gs_nil))) (s_one (s_if (t_not (t_val (x_call F0 hr0 rfl T.G__law_same T.F__law_same.kp T.B__law_same (a_cons (x_esc (x_var 2)) (a_cons (x_esc (x_var 3)) a_nil))))) (s_one (s_ret x_bl)) s_nil)))
  (s_one (s_ret x_bl))))))))))
theorem sc_mark : FnScope ["row"] ["row"] (defScope (topS 19)) := ⟨rfl, rfl, rfl, by decide +kernel, rfl, by decide +kernel, by decide +kernel⟩
theorem ok_mark (T : Txt K mg fa fd ci) : FnOk P w K mg base (L2.CX P w) 6 (fa 7) (fd 7) ["row"] (spF K ci [false] d_mark) := by
  have O_check_row := ok_check_row (P := P) (w := w) (base := base) T
  have O_mark_of := ok_mark_of (P := P) (w := w) (base := base) T
  refine fn_ok (k := 5) T.F_mark sc_mark rfl fun cdv A outer s H E hr => ?_
  have hu := hr.units
  have nd := sc_mark.nd
  exact (s_cons (s_drop (x_call O_check_row (hr.mono (by decide)) rfl T.G_check_row T.F_check_row.kp T.B_check_row (a_cons (x_esc (x_var 0)) a_nil)))
  (s_one (s_ret (x_call O_mark_of (hr.mono (by decide)) rfl T.G_mark_of T.F_mark_of.kp T.B_mark_of (a_cons (x_esc (x_var 0)) a_nil)))))
theorem sc_mark_behind : FnScope ["number", "row"] ["number", "row"] (defScope (topS 20)) := ⟨rfl, rfl, rfl, by decide +kernel, rfl, by decide +kernel, by decide +kernel⟩
theorem ok_mark_behind (T : Txt K mg fa fd ci) : FnOk P w K mg base (L2.CX P w) 6 (fa 8) (fd 8) ["number", "row"] (spF K ci [false, false] d_mark_behind) := by
  have O_check_row := ok_check_row (P := P) (w := w) (base := base) T
  have O_marked := ok_marked (P := P) (w := w) (base := base) T
  have O_is_below := ok_is_below (P := P) (w := w) (base := base) T
  refine fn_ok (k := 5) T.F_mark_behind sc_mark_behind rfl fun cdv A outer s H E hr => ?_
  have hu := hr.units
  have nd := sc_mark_behind.nd
  exact (s_cons (s_if (t_not (t_val (x_call O_is_below (hr.mono (by decide)) rfl T.G_is_below T.F_is_below.kp T.B_is_below (a_cons (x_esc (x_var 0)) (a_cons (x_esc (x_globI rfl T.c_MARK_PRIME)) a_nil))))) (s_one (s_raise0 (c := 1) rfl T.x_NoNumber T.g_NoNumber T.k_NoNumber T.e_NoNumber T.t_NoNumber rfl)) s_nil)
  (s_cons (s_drop (x_call O_check_row (hr.mono (by decide)) rfl T.G_check_row T.F_check_row.kp T.B_check_row (a_cons (x_esc (x_var 1)) a_nil)))
  (s_one (s_ret (x_call O_marked (hr.mono (by decide)) rfl T.G_marked T.F_marked.kp T.B_marked (a_cons (x_esc (x_var 0)) (a_cons (x_esc (x_var 1)) a_nil)))))))
theorem sc__law_mark_told : FnScope ["row"] ["row"] (defScope (topS 32)) := ⟨rfl, rfl, rfl, by decide +kernel, rfl, by decide +kernel, by decide +kernel⟩
theorem ok__law_mark_told (T : Txt K mg fa fd ci) : FnOk P w K mg base (L2.CX P w) 7 (fa 19) (fd 19) ["row"] (spF K ci [false] d__law_mark_told) := by
  have O_mark := ok_mark (P := P) (w := w) (base := base) T
  refine fn_ok (k := 6) T.F__law_mark_told sc__law_mark_told rfl fun cdv A outer s H E hr => ?_
  have hu := hr.units
  have nd := sc__law_mark_told.nd
  exact (s_one (s_try rfl rfl (fun _ _ hp => (s_one (s_ret (x_tup (a_cons x_str (a_cons (x_esc (x_call O_mark (hr.mono (by decide)) rfl T.G_mark T.F_mark.kp T.B_mark (a_cons (x_esc (x_var 0)) a_nil))) a_nil)))))) (SndHs.cons (T.n_NoRow rfl rfl) T.s_NoRow (fun _ _ _ => (s_one (s_ret (x_tup (a_cons x_str a_nil))))) SndHs.nil)))
theorem sc__law_behind_told : FnScope ["number", "row"] ["number", "row"] (defScope (topS 33)) := ⟨rfl, rfl, rfl, by decide +kernel, rfl, by decide +kernel, by decide +kernel⟩
theorem ok__law_behind_told (T : Txt K mg fa fd ci) : FnOk P w K mg base (L2.CX P w) 7 (fa 20) (fd 20) ["number", "row"] (spF K ci [false, false] d__law_behind_told) := by
  have O_mark_behind := ok_mark_behind (P := P) (w := w) (base := base) T
  refine fn_ok (k := 6) T.F__law_behind_told sc__law_behind_told rfl fun cdv A outer s H E hr => ?_
  have hu := hr.units
  have nd := sc__law_behind_told.nd
  exact (s_one (s_try rfl rfl (fun _ _ hp => (s_one (s_ret (x_tup (a_cons x_str (a_cons (x_esc (x_call O_mark_behind (hr.mono (by decide)) rfl T.G_mark_behind T.F_mark_behind.kp T.B_mark_behind (a_cons (x_esc (x_var 0)) (a_cons (x_esc (x_var 1)) a_nil)))) a_nil)))))) (SndHs.cons (T.n_NoNumber rfl rfl) T.s_NoNumber (fun _ _ _ => (s_one (s_ret (x_tup (a_cons x_str a_nil))))) (SndHs.cons (T.n_NoRow rfl rfl) T.s_NoRow (fun _ _ _ => (s_one (s_ret (x_tup (a_cons x_str a_nil))))) SndHs.nil))))
theorem sc__law_are_long_right : FnScope ["byte", "row"] ["byte"] (defScope (topS 34)) := ⟨rfl, rfl, rfl, by decide +kernel, rfl, by decide +kernel, by decide +kernel⟩
theorem ok__law_are_long_right (T : Txt K mg fa fd ci) : FnOk P w K mg base (L2.CX P w) 8 (fa 21) (fd 21) ["byte"] (spF K ci [false] d__law_are_long_right) := by
  have O__law_same := ok__law_same (P := P) (w := w) (base := base) T 4
  have O_mark := ok_mark (P := P) (w := w) (base := base) T
  have O__law_marked := ok__law_marked (P := P) (w := w) (base := base) T
  have O__law_mark_told := ok__law_mark_told (P := P) (w := w) (base := base) T
  have O__law_behind_told := ok__law_behind_told (P := P) (w := w) (base := base) T
  refine fn_ok (k := 7) T.F__law_are_long_right sc__law_are_long_right rfl fun cdv A outer s H E hr => ?_
  have hu := hr.units
  have nd := sc__law_are_long_right.nd
  exact (s_cons (s_set (i := 1) (by decide) (x_op o_mul (x_tup (a_cons (x_esc (x_var 0)) a_nil)) x_int) nd)
  (s_cons (s_if (t_w (w_or (t_cmp (o_ne hu) (x_call O__law_mark_told (hr.mono (by decide)) rfl T.G__law_mark_told T.F__law_mark_told.kp T.B__law_mark_told (a_cons (x_esc (x_var 1)) a_nil)) (x_tup (a_cons x_str a_nil)) (nomark _)) (w_or1 (t_cmp (o_ne hu) (x_call O__law_behind_told (hr.mono (by decide)) rfl T.G__law_behind_told T.F__law_behind_told.kp T.B__law_behind_told (a_cons x_int (a_cons (x_esc (x_var 1)) a_nil))) (x_tup (a_cons x_str a_nil)) (nomark _))))) (s_one (s_ret x_bl)) s_nil)
  (s_one (s_ret (x_call O__law_same (hr.mono (by decide)) rfl T.G__law_same T.F__law_same.kp T.B__law_same (a_cons (x_esc (x_call O_mark (hr.mono (by decide)) rfl T.G_mark T.F_mark.kp T.B_mark (a_cons (x_esc (x_slice (x_var 1) (so_some x_int) so_none)) a_nil))) (a_cons (x_esc (x_call O__law_marked (hr.mono (by decide)) rfl T.G__law_marked T.F__law_marked.kp T.B__law_marked (a_cons x_int (a_cons (x_esc (x_slice (x_var 1) (so_some x_int) so_none)) a_nil)))) a_nil)))))))
theorem sc_law : FnScope ["script", "hand", "row", "due", "at", "k", "number", "thing", "word"] ["script"] (defScope (topS 35)) := ⟨rfl, rfl, rfl, by decide +kernel, rfl, by decide +kernel, by decide +kernel⟩
theorem ok_law (T : Txt K mg fa fd ci) : FnOk P w K mg base (L2.CX P w) 9 (fa 22) (fd 22) ["script"] (spF K ci [false] d_law) := by
  have O__law_hand := ok__law_hand (P := P) (w := w) (base := base) T
  have O__law_bytes := ok__law_bytes (P := P) (w := w) (base := base) T
  have O__law_marked := ok__law_marked (P := P) (w := w) (base := base) T
  have O__law_take := ok__law_take (P := P) (w := w) (base := base) T
  have O__law_same := ok__law_same (P := P) (w := w) (base := base) T 4
  have O__law_pick := ok__law_pick (P := P) (w := w) (base := base) T
  have O__law_is_row := ok__law_is_row (P := P) (w := w) (base := base) T
  have O__law_is_within := ok__law_is_within (P := P) (w := w) (base := base) T
  have O__law_are_long_right := ok__law_are_long_right (P := P) (w := w) (base := base) T
  have O_mark := ok_mark (P := P) (w := w) (base := base) T
  have O_mark_behind := ok_mark_behind (P := P) (w := w) (base := base) T
  have O__law_odd := ok__law_odd (P := P) (w := w) (base := base) T
  have O__law_mark_told := ok__law_mark_told (P := P) (w := w) (base := base) T
  have O__law_behind_told := ok__law_behind_told (P := P) (w := w) (base := base) T
  refine fn_ok (k := 8) T.F_law sc_law rfl fun cdv A outer s H E hr => ?_
  have hu := hr.units
  have nd := sc_law.nd
  exact (s_cons (s_own (i := 1) (by decide) (x_call O__law_hand (hr.mono (by decide)) rfl T.G__law_hand T.F__law_hand.kp T.B__law_hand (a_cons (x_esc (x_var 0)) a_nil)) nd)
  (s_cons (s_if (t_w (w_and (t_cmp (o_eq hu) (x_call O__law_take (hr.mono (by decide)) rfl T.G__law_take T.F__law_take.kp T.B__law_take (a_cons (x_var 1) (a_cons x_int a_nil))) x_int (nomark _)) (w_and1 (t_not (t_val (x_call O__law_are_long_right (hr.mono (by decide)) rfl T.G__law_are_long_right T.F__law_are_long_right.kp T.B__law_are_long_right (a_cons (x_esc (x_call O__law_take (hr.mono (by decide)) rfl T.G__law_take T.F__law_take.kp T.B__law_take (a_cons (x_var 1) (a_cons x_int a_nil)))) a_nil))))))) (s_one (s_ret x_bl)) s_nil)
  (s_cons (s_set (i := 2) (by decide) (x_call O__law_bytes (hr.mono (by decide)) rfl T.G__law_bytes T.F__law_bytes.kp T.B__law_bytes (a_cons (x_var 1) (a_cons x_int a_nil))) nd)
  (s_cons (s_if (t_cmp (o_eq hu) (x_call O__law_take (hr.mono (by decide)) rfl T.G__law_take T.F__law_take.kp T.B__law_take (a_cons (x_var 1) (a_cons x_int a_nil))) x_int (nomark _)) (s_one (s_set (i := 2) (by decide) (x_op o_mul (x_op o_add (x_var 2) (x_tup (a_cons x_int a_nil))) x_int) nd)) s_nil)
  (s_cons (s_set (i := 3) (by decide) (x_call O__law_marked (hr.mono (by decide)) rfl T.G__law_marked T.F__law_marked.kp T.B__law_marked (a_cons x_int (a_cons (x_esc (x_var 2)) a_nil))) nd)
  (s_cons (s_if (t_not (t_val (x_call O__law_same (hr.mono (by decide)) rfl T.G__law_same T.F__law_same.kp T.B__law_same (a_cons (x_esc (x_call O_mark (hr.mono (by decide)) rfl T.G_mark T.F_mark.kp T.B_mark (a_cons (x_esc (x_var 2)) a_nil))) (a_cons (x_esc (x_var 3)) a_nil))))) (s_one (s_ret x_bl)) s_nil)
  (s_cons (s_set (i := 4) (by decide) (x_call O__law_take (hr.mono (by decide)) rfl T.G__law_take T.F__law_take.kp T.B__law_take (a_cons (x_var 1) (a_cons (x_esc (x_op o_add (x_callB b_len rfl T.z_len (by decide +kernel) (a_cons (x_var 2) a_nil)) x_int)) a_nil))) nd)
  (s_cons (s_if (t_not (t_val (x_call O__law_same (hr.mono (by decide)) rfl T.G__law_same T.F__law_same.kp T.B__law_same (a_cons (x_esc (x_call O_mark_behind (hr.mono (by decide)) rfl T.G_mark_behind T.F_mark_behind.kp T.B_mark_behind (a_cons (x_esc (x_call O_mark (hr.mono (by decide)) rfl T.G_mark T.F_mark.kp T.B_mark (a_cons (x_esc (x_slice (x_var 2) so_none (so_some (x_var 4)))) a_nil))) (a_cons (x_esc (x_slice (x_var 2) (so_some (x_var 4)) so_none)) a_nil)))) (a_cons (x_esc (x_var 3)) a_nil))))) (s_one (s_ret x_bl)) s_nil)
  (s_cons (s_if (t_w (w_and (t_cmp o_lt (x_var 4) (x_callB b_len rfl T.z_len (by decide +kernel) (a_cons (x_var 2) a_nil)) (nomark _)) (w_and1 (t_cmp (o_eq hu) (x_call O_mark (hr.mono (by decide)) rfl T.G_mark T.F_mark.kp T.B_mark (a_cons (x_esc (x_op o_add (x_op o_add (x_slice (x_var 2) so_none (so_some (x_var 4))) (x_tup (a_cons (x_esc (x_op o_mod (x_callTy b_int rfl T.z_int (by decide +kernel) (a_cons (x_op o_add (x_op o_add (x_ix ix_all (x_var 2) (x_var 4)) x_int) (x_call O__law_take (hr.mono (by decide)) rfl T.G__law_take T.F__law_take.kp T.B__law_take (a_cons (x_var 1) (a_cons x_int a_nil)))) a_nil)) x_int)) a_nil))) (x_slice (x_var 2) (so_some (x_op o_add (x_var 4) x_int)) so_none))) a_nil)) (x_var 3) (nomark _))))) (s_one (s_ret x_bl)) s_nil)
  (s_cons (s_for (passes_of rfl) rfl (i_rng1 rfl T.z_range x_int) (g_nm (by decide) nd) (s_cons (s_set (i := 6) (by decide) (x_call O__law_pick (hr.mono (by decide)) rfl T.G__law_pick T.F__law_pick.kp T.B__law_pick (a_cons (x_var 1) (a_cons (x_esc (x_lst (a_cons x_int (a_cons x_int (a_cons (x_esc (x_call O__law_take (hr.mono (by decide)) rfl T.G__law_take T.F__law_take.kp T.B__law_take (a_cons (x_var 1) (a_cons (x_esc (x_op o_pow x_int x_int)) a_nil)))) (a_cons (x_esc (x_op o_sub (x_op o_pow x_int x_int) x_int)) (a_cons (x_esc (x_op o_sub (x_op o_pow x_int x_int) x_int)) (a_cons (x_esc (x_neg x_int)) (a_cons x_bl (a_cons x_non (a_cons (x_esc (x_call O__law_odd (hr.mono (by decide)) rfl T.G__law_odd T.F__law_odd.kp T.B__law_odd (a_cons (x_var 1) a_nil))) a_nil))))))))))) a_nil))) nd)
  (s_cons (s_set (i := 7) (by decide) (x_call O__law_pick (hr.mono (by decide)) rfl T.G__law_pick T.F__law_pick.kp T.B__law_pick (a_cons (x_var 1) (a_cons (x_esc (x_lst (a_cons (x_esc (x_var 2)) (a_cons (x_esc (x_var 2)) (a_cons (x_esc (x_call O__law_odd (hr.mono (by decide)) rfl T.G__law_odd T.F__law_odd.kp T.B__law_odd (a_cons (x_var 1) a_nil))) (a_cons (x_esc (x_callTy b_list rfl T.z_list (by decide +kernel) (a_cons (x_var 2) a_nil))) (a_cons (x_esc (x_op o_add (x_var 2) (x_tup (a_cons x_int a_nil)))) (a_cons (x_esc (x_op o_add (x_var 2) (x_tup (a_cons (x_esc (x_neg x_int)) a_nil)))) (a_cons (x_esc (x_op o_add (x_var 2) (x_tup (a_cons x_bl a_nil)))) (a_cons (x_esc (x_op o_add (x_var 2) (x_tup (a_cons x_str a_nil)))) a_nil)))))))))) a_nil))) nd)
  (s_cons (s_set (i := 8) (by decide) (x_tup (a_cons x_str a_nil)) nd)
  (s_cons (s_if (t_val (x_call O__law_is_row (hr.mono (by decide)) rfl T.G__law_is_row T.F__law_is_row.kp T.B__law_is_row (a_cons (x_esc (x_var 7)) a_nil))) (s_one (s_set (i := 8) (by decide) (x_tup (a_cons x_str (a_cons (x_esc (x_call O__law_marked (hr.mono (by decide)) rfl T.G__law_marked T.F__law_marked.kp T.B__law_marked (a_cons x_int (a_cons (x_esc (x_var 7)) a_nil)))) a_nil))) nd)) s_nil)
  (s_cons (s_if (t_not (t_val (x_call O__law_same (hr.mono (by decide)) rfl T.G__law_same T.F__law_same.kp T.B__law_same (a_cons (x_esc (x_call O__law_mark_told (hr.mono (by decide)) rfl T.G__law_mark_told T.F__law_mark_told.kp T.B__law_mark_told (a_cons (x_esc (x_var 7)) a_nil))) (a_cons (x_esc (x_var 8)) a_nil))))) (s_one (s_ret x_bl)) s_nil)
  (s_cons (s_set (i := 8) (by decide) (x_tup (a_cons x_str a_nil)) nd)
  (s_cons (s_if (t_val (x_call O__law_is_within (hr.mono (by decide)) rfl T.G__law_is_within T.F__law_is_within.kp T.B__law_is_within (a_cons (x_esc (x_var 6)) (a_cons x_int (a_cons (x_esc (x_op o_sub (x_op o_pow x_int x_int) x_int)) a_nil))))) (s_cons (s_set (i := 8) (by decide) (x_tup (a_cons x_str a_nil)) nd)
  (s_one (s_if (t_val (x_call O__law_is_row (hr.mono (by decide)) rfl T.G__law_is_row T.F__law_is_row.kp T.B__law_is_row (a_cons (x_esc (x_var 7)) a_nil))) (s_one (s_set (i := 8) (by decide) (x_tup (a_cons x_str (a_cons (x_esc (x_call O__law_marked (hr.mono (by decide)) rfl T.G__law_marked T.F__law_marked.kp T.B__law_marked (a_cons (x_esc (x_var 6)) (a_cons (x_esc (x_var 7)) a_nil)))) a_nil))) nd)) s_nil))) s_nil)
  (s_one (s_if (t_not (t_val (x_call O__law_same (hr.mono (by decide)) rfl T.G__law_same T.F__law_same.kp T.B__law_same (a_cons (x_esc (x_call O__law_behind_told (hr.mono (by decide)) rfl T.G__law_behind_told T.F__law_behind_told.kp T.B__law_behind_told (a_cons (x_esc (x_var 6)) (a_cons (x_esc (x_var 7)) a_nil)))) (a_cons (x_esc (x_var 8)) a_nil))))) (s_one (s_ret x_bl)) s_nil))))))))))
  (s_one (s_ret x_bl))))))))))))
end
end K25

set_option maxRecDepth 100000
set_option maxHeartbeats 4000000
namespace K25
open PySem BV
theorem c_integer : d_is_integer = dInteger := rfl
theorem c_linteger : d__law_is_integer = dInteger := rfl
theorem c_within : d_is_within = dWithin := rfl
theorem c_lwithin : d__law_is_within = dLWithin := rfl
theorem c_below : d_is_below = dBelow := rfl
theorem c_take : d__law_take = dTake := rfl
theorem c_pick : d__law_pick = dPick := rfl
def isRow : W → Bool
  | .tup ws => decide (ws.length ≤ 300000) && ws.all (inB 0 255)
  | _ => false
def KRow (w : W) : Prop := Kn w ∧ ∀ ws, w = .tup ws → ws.length ≤ 16777216 ∧ ∀ u ∈ ws, Kn u
theorem bools_map {k : W → Bool} : ∀ {ws : List W}, bools (ws.map fun w => .bl (k w)) = some (ws.map k)
  | [] => rfl
  | w :: ws => by
    show (bools (ws.map fun w => .bl (k w))).map _ = _
    rw [bools_map]
    rfl
theorem is_row_ok {w : W} (h : KRow w) : d_is_row [w] = .ok (.bl (isRow w)) [] := by
  unfold d_is_row b_is_row
  rw [fdef_e, c_below]
  cases w with
  | tup ws =>
    by_cases c : ws.length ≤ 300000
    · obtain ⟨e, h1, h2⟩ := compL_pure (t := .nm 1) (c := fYes) (el := fCall [false, false] dBelow (fCons (fE (fV 1)) (fCons (fE (fC (.int 256))) fNil))) (vs := [1]) (P := fun env => env = [.dat (.tup ws), .no])
        (k := fun w => some (.bl (inB 0 255 w))) (ws := ws) (acc := []) (env := [.dat (.tup ws), .no]) rfl (fun w m env p => by
          subst p
          have := (h.2 ws rfl).2 w m
          simp [compL1, below_ok this, wipeE, restE]) (by simp; omega)
      subst h2
      simp [isi_tuple h.1, isT, c, h1, isRow, gAll, bools_map, List.all_map, show ((ws.length : Int) ≤ 300000) by omega]
    · simp [isi_tuple h.1, isT, c, isRow, show ¬ ((ws.length : Int) ≤ 300000) by omega]
  | _ => simp [isi_tuple h.1, isT, isRow]
theorem lis_row_ok {w : W} (h : KRow w) : d__law_is_row [w] = .ok (.bl (isRow w)) [] := by
  unfold d__law_is_row b__law_is_row
  rw [fdef_e, c_lwithin]
  cases w with
  | tup ws =>
    by_cases c : ws.length ≤ 300000
    · obtain ⟨e, h1, h2⟩ := compL_pure (t := .nm 1) (c := fNot (fTest (fCall [false, false, false] dLWithin (fCons (fE (fV 1)) (fCons (fC (.int 0)) (fCons (fC (.int 255)) fNil)))))) (el := fV 1) (vs := [1]) (P := fun env => env = [.dat (.tup ws), .no])
        (k := fun w => if inB 0 255 w then none else some w) (ws := ws) (acc := []) (env := [.dat (.tup ws), .no]) rfl (fun w m env p => by
          subst p
          have := (h.2 ws rfl).2 w m
          cases q : inB 0 255 w <;> simp [compL1, lwithin_ok this, wipeE, restE, q]) (by simp; omega)
      subst h2
      simp [isi_tuple h.1, isT, c, h1, isRow, show ¬ ((300000 : Int) < ws.length) by omega]
      exact (Bool.eq_iff_iff.2 (by simp))
    · simp [isi_tuple h.1, isT, c, isRow, show ((300000 : Int) < ws.length) by omega]
  | _ => simp [isi_tuple h.1, isT, isRow]
def mk1 (m : Int) : W → Int
  | .int b => (m * 1000003 + b + 1) % 2305843009213693951
  | _ => m
def mk (m : Int) (ws : List W) : Int := ws.foldl mk1 m
theorem marked_ok {m : Int} {ws : List W} (h : ∀ w ∈ ws, inB 0 255 w = true) : d_marked [.int m, .tup ws] = .ok (.int (mk m ws)) [] := by
  unfold d_marked b_marked
  rw [fdef_e]
  obtain ⟨e, h1, sl, rfl⟩ := forL_fold (t := .nm 3) (f := sSet 2 (fOp gMod (fOp gAdd (fOp gAdd (fOp gMul (fV 2) (fC (.int 1000003))) (fV 3)) (fC (.int 1))) (fC (.int 2305843009213693951)))) (P := fun s env => ∃ sl, env = [.dat (.int m), .dat (.tup ws), .dat (.int s), sl]) (step := mk1) (ws := ws) (s := m)
    (env := [.dat (.int m), .dat (.tup ws), .dat (.int m), .no]) ⟨_, rfl⟩ (fun w mm s env p => by
      obtain ⟨sl, rfl⟩ := p
      have hw := h w mm
      cases w with
      | int b => exact ⟨_, _, rfl, .inl (by simp [gMul_r, gMod_i]; rfl), _, by simp [mk1]; rfl⟩
      | _ => cases hw)
  simp [h1, mk]
theorem lmarked_ok {m : Int} {ws : List W} (h : ∀ w ∈ ws, inB 0 255 w = true) : d__law_marked [.int m, .tup ws] = .ok (.int (mk m ws)) [] := by
  unfold d__law_marked b__law_marked
  rw [fdef_e]
  obtain ⟨e, h1, sl, rfl⟩ := forL_fold (t := .nm 2) (f := sSet 0 (fOp gMod (fB gInt (fCons (fOp gAdd (fOp gAdd (fOp gMul (fV 0) (fC (.int 1000003))) (fV 2)) (fC (.int 1))) fNil)) (fC (.int 2305843009213693951)))) (P := fun s env => ∃ sl, env = [.dat (.int s), .dat (.tup ws), sl]) (step := mk1) (ws := ws) (s := m)
    (env := [.dat (.int m), .dat (.tup ws), .no]) ⟨_, rfl⟩ (fun w mm s env p => by
      obtain ⟨sl, rfl⟩ := p
      have hw := h w mm
      cases w with
      | int b => exact ⟨_, _, rfl, .inl (by simp [gMul_r, gMod_i]; rfl), _, by simp [mk1]; rfl⟩
      | _ => cases hw)
  simp [h1, mk]
theorem row_bytes {ws : List W} (h : isRow (.tup ws) = true) : ws.length ≤ 300000 ∧ ∀ w ∈ ws, inB 0 255 w = true := by
  have h : (decide (ws.length ≤ 300000) && ws.all (inB 0 255)) = true := h
  rw [Bool.and_eq_true_iff] at h
  exact ⟨of_decide_eq_true h.1, fun w m => List.all_eq_true.1 h.2 w m⟩
theorem row_of {ws : List W} (h : ws.length ≤ 300000) (h2 : ∀ w ∈ ws, inB 0 255 w = true) : isRow (.tup ws) = true := by
  show (decide (ws.length ≤ 300000) && ws.all (inB 0 255)) = true
  rw [Bool.and_eq_true_iff]
  exact ⟨decide_eq_true h, List.all_eq_true.2 h2⟩
theorem row_tup {w : W} (h : isRow w = true) : ∃ ws, w = .tup ws := by
  cases w with
  | tup ws => exact ⟨_, rfl⟩
  | _ => cases h
theorem byte_kn {w : W} (h : inB 0 255 w = true) : Kn w := by
  cases w with
  | int b => intro e; cases e
  | _ => cases h
def mkW (m : Int) : W → Int
  | .tup ws => mk m ws
  | _ => m
theorem check_row_ok {w : W} (h : KRow w) : d_check_row [w] = if isRow w then .ok .non [] else .er ⟨2, []⟩ [] := by
  unfold d_check_row b_check_row
  rw [fdef_e]
  cases c : isRow w <;> simp [is_row_ok h, c]
theorem mark_ok {w : W} (h : KRow w) : d_mark [w] = if isRow w then .ok (.int (mkW 1 w)) [] else .er ⟨2, []⟩ [] := by
  unfold d_mark b_mark d_mark_of b_mark_of
  rw [fdef_e]
  cases c : isRow w
  · simp [check_row_ok h, c]
  · obtain ⟨ws, rfl⟩ := row_tup c
    simp [check_row_ok h, c, fdef_e, marked_ok (row_bytes c).2, mkW]
theorem behind_ok {w u : W} (h : KRow w) (hu : Kn u) : d_mark_behind [u, w] = if inB 0 2305843009213693950 u then (if isRow w then .ok (.int (match u with | .int n => mkW n w | _ => 0)) [] else .er ⟨2, []⟩ []) else .er ⟨1, []⟩ [] := by
  unfold d_mark_behind b_mark_behind
  rw [fdef_e, c_below]
  cases c : inB 0 2305843009213693950 u
  · simp [below_ok hu, c]
  · cases u with
    | int n =>
      cases c2 : isRow w
      · simp [below_ok hu, c, check_row_ok h, c2]
      · obtain ⟨ws, rfl⟩ := row_tup c2
        simp [below_ok hu, c, check_row_ok h, c2, marked_ok (row_bytes c2).2, mkW]
    | _ => cases c
theorem mark_told_ok {w : W} (h : KRow w) : d__law_mark_told [w] = .ok (if isRow w then .tup [.str "told", .int (mkW 1 w)] else .tup [.str "NoRow"]) [] := by
  unfold d__law_mark_told b__law_mark_told
  rw [fdef_e]
  cases c : isRow w <;> simp [mark_ok h, c, pick, tst_NoRow]
theorem behind_told_ok {w u : W} (h : KRow w) (hu : Kn u) : d__law_behind_told [u, w] = .ok (if inB 0 2305843009213693950 u then (if isRow w then .tup [.str "told", .int (match u with | .int n => mkW n w | _ => 0)] else .tup [.str "NoRow"]) else .tup [.str "NoNumber"]) [] := by
  unfold d__law_behind_told b__law_behind_told
  rw [fdef_e]
  cases c : inB 0 2305843009213693950 u
  · simp [behind_ok h hu, c, pick, tst_NoRow, tst_NoNumber]
  · cases c2 : isRow w <;> simp [behind_ok h hu, c, c2, pick, tst_NoRow, tst_NoNumber]
/-! equal results -/
theorem same_ii {n : Nat} {i : Int} : d__law_same (n + 1) [.int i, .int i] = .ok (.bl true) [] := by
  show fdef 4 [false, false] (b__law_same (d__law_same n)) _ = _
  unfold b__law_same
  rw [fdef_e]
  simp [gIs, isNon, isBl, gIsi, tInt, tyN, c_linteger, integer_ok (w := .int i) (by intro e; cases e), isI]
theorem same_ss {n : Nat} {x : Str} (h : PyData.strOk x = true) : d__law_same (n + 1) [.str x, .str x] = .ok (.bl true) [] := by
  show fdef 4 [false, false] (b__law_same (d__law_same n)) _ = _
  unfold b__law_same
  rw [fdef_e]
  simp [gIs, isNon, isBl, gIsi, tInt, tOne, tyN, gEq_xx h]
theorem same_tup {n : Nat} {ws : List W} (H : ∀ w ∈ ws, d__law_same n [w, w] = .ok (.bl true) []) : d__law_same (n + 1) [.tup ws, .tup ws] = .ok (.bl true) [] := by
  show fdef 4 [false, false] (b__law_same (d__law_same n)) _ = _
  unfold b__law_same
  rw [fdef_e]
  obtain ⟨e, h1, a, b, rfl⟩ := forL_inv (t := .tp (.cons (.nm 2) (.cons (.nm 3) .nil))) (f := sIf (fNot (fTest (fCall [false, false] (d__law_same n) (fCons (fE (fV 2)) (fCons (fE (fV 3)) fNil))))) (sRet (fC (.bl false))) sNext)
    (P := fun env => ∃ a b, env = [.dat (.tup ws), .dat (.tup ws), a, b]) (ws := zipW ws ws) (env := [.dat (.tup ws), .dat (.tup ws), .no, .no]) ⟨_, _, rfl⟩ (fun w m env p => by
      obtain ⟨a, b, rfl⟩ := p
      have : ∃ u ∈ ws, w = .tup [u, u] := by
        unfold zipW at m
        rw [List.zipWith_self] at m
        obtain ⟨u, mu, rfl⟩ := List.mem_map.1 m
        exact ⟨u, mu, rfl⟩
      obtain ⟨u, mu, rfl⟩ := this
      exact ⟨_, _, rfl, .inl (by simp [H u mu]; exact ⟨rfl, rfl⟩), _, _, rfl⟩)
  simp [gIs, isNon, isBl, gIsi, tInt, tOne, tyN, asS, h1]
theorem same_n {x : Str} (h : PyData.strOk x = true) : d__law_same 4 [.tup [.str x], .tup [.str x]] = .ok (.bl true) [] := same_tup fun w m => by
  simp at m
  subst m
  exact same_ss h
theorem same_t {x : Str} {i : Int} (h : PyData.strOk x = true) : d__law_same 4 [.tup [.str x, .int i], .tup [.str x, .int i]] = .ok (.bl true) [] := same_tup fun w m => by
  simp at m
  rcases m with rfl | rfl
  · exact same_ss h
  · exact same_ii
theorem ok_told : PyData.strOk "told" = true := by decide +kernel
theorem ok_NoRow : PyData.strOk "NoRow" = true := by decide +kernel
theorem ok_NoNumber : PyData.strOk "NoNumber" = true := by decide +kernel
/-! draws -/
theorem krow_of {w : W} (h : Kn w) (h2 : ∀ ws, w ≠ .tup ws) : KRow w := ⟨h, fun ws e => absurd e (h2 ws)⟩
theorem kn_int {i : Int} : Kn (.int i) := by intro e; cases e
theorem kn_tup {ws : List W} : Kn (.tup ws) := by intro e; cases e
theorem odd_ok {h : W} (H : Hand h) : ∃ w h', d__law_odd [h] = .ok w [h'] ∧ KRow w ∧ Hand h' := by
  obtain ⟨r, h', e, r0, r1, H'⟩ := take_env H (m := 18) (by omega) (by omega)
  unfold d__law_odd b__law_odd
  rw [fdef_e, c_take]
  have hr : r = 0 ∨ r = 1 ∨ r = 2 ∨ r = 3 ∨ r = 4 ∨ r = 5 ∨ r = 6 ∨ r = 7 ∨ r = 8 ∨ r = 9 ∨ r = 10 ∨ r = 11 ∨ r = 12 ∨ r = 13 ∨ r = 14 ∨ r = 15 ∨ r = 16 ∨ r = 17 := by omega
  rcases hr with rfl | rfl | rfl | rfl | rfl | rfl | rfl | rfl | rfl | rfl | rfl | rfl | rfl | rfl | rfl | rfl | rfl | rfl <;>
  · simp [e, gPow_i]
    exact ⟨_, _, ⟨rfl, rfl⟩, ⟨(by intro e; cases e), fun ws e => by first | (cases e; refine ⟨by simp, fun u m => ?_⟩; simp at m; done) | (cases e; refine ⟨by simp, fun u m => ?_⟩; simp at m; first | (subst m; intro e; cases e) | (rcases m with rfl | rfl <;> intro e <;> cases e)) | cases e⟩, H'⟩
theorem bytes_ok {h : W} (H : Hand h) : ∃ ws h', d__law_bytes [h, .int 40] = .ok (.tup ws) [h'] ∧ ws.length ≤ 40 ∧ (∀ u ∈ ws, inB 0 255 u = true) ∧ Hand h' := by
  obtain ⟨r, h', e, r0, r1, H'⟩ := take_env H (m := 41) (by omega) (by omega)
  unfold d__law_bytes b__law_bytes
  rw [fdef_e, c_take, c_pick]
  obtain ⟨e', h1, h2, ws, sl, rfl, K, hl, hb⟩ := forL_rng (t := .nm 3) (f := (sApp 2 (fE (fCall [true, false] dPick (fCons (fV 0) (fCons (fE (fLst (fCons (fC (.int 0)) (fCons (fC (.int 1)) (fCons (fC (.int 2)) (fCons (fC (.int 3)) (fCons (fC (.int 127)) (fCons (fC (.int 128)) (fCons (fC (.int 129)) (fCons (fC (.int 255)) (fCons (fE (fCall [true, false] dTake (fCons (fV 0) (fCons (fC (.int 256)) fNil)))) (fCons (fE (fCall [true, false] dTake (fCons (fV 0) (fCons (fC (.int 256)) fNil)))) fNil)))))))))))) fNil))))))
    (P := fun (n : Nat) env => ∃ h ws sl, env = [.own h, .dat (.int 40), .own (.lst ws), sl] ∧ Hand h ∧ ws.length = n ∧ ∀ u ∈ ws, inB 0 255 u = true)
    (lo := 0) (hi := r) (env := [.own h', .dat (.int 40), .own (.lst []), .no]) ⟨_, _, _, rfl, H', by simp, by simp⟩ (fun i hi env p => by
      obtain ⟨h, ws, sl, rfl, K, hl, hb⟩ := p
      obtain ⟨r1, h1, e1, r10, r11, K⟩ := take_env K (m := 256) (by omega) (by omega)
      obtain ⟨r2, h2, e2, r20, r21, K⟩ := take_env K (m := 256) (by omega) (by omega)
      obtain ⟨w3, h3, e3, m3, K⟩ := pick_ok K (ws := [.int 0, .int 1, .int 2, .int 3, .int 127, .int 128, .int 129, .int 255, .int r1, .int r2]) (by simp) (by simp)
      have hb3 : inB 0 255 w3 = true := by
        simp at m3
        rcases m3 with rfl | rfl | rfl | rfl | rfl | rfl | rfl | rfl | rfl | rfl <;> simp [inB] <;> omega
      subst hl
      simp [turn, e1, e2, e3, show ws.length < 16777216 by omega, K]
      refine ⟨_, _, ⟨rfl, rfl⟩, K, by simp, fun u m => ?_⟩
      rcases List.mem_append.1 m with m | m
      · exact hb u m
      · rw [List.mem_singleton.1 m]; exact hb3)
  simp [e, show smallI r = true by unfold smallI; simp; omega, h1]
  exact ⟨_, _, ⟨rfl, rfl⟩, by omega, hb, K⟩
/-! rows of 300001 -/
theorem krow_bytes {ws : List W} (hl : ws.length ≤ 16777216) (hb : ∀ u ∈ ws, inB 0 255 u = true) : KRow (.tup ws) := ⟨kn_tup, fun vs e => by cases e; exact ⟨hl, fun u m => byte_kn (hb u m)⟩⟩
theorem mul_one {w : W} {n : Nat} (h : n ≤ 16777216) : gMul (.tup [w]) (.int n) = some (.v (.tup (List.replicate n w))) := by
  show (if 0 ≤ (n : Int) ∧ (n : Int) * (([w] : List W).length : Nat) ≤ 16777216 ∧ (n : Int) < 16777217 then some (OV.v (W.tup (List.replicate (n : Int).toNat [w]).flatten)) else none) = _
  rw [if_pos (by rw [List.length_singleton]; omega), Int.toNat_natCast, List.flatten_replicate_singleton]
theorem long_ok {b : Int} (h0 : 0 ≤ b) (h1 : b < 256) : d__law_are_long_right [.int b] = .ok (.bl true) [] := by
  unfold d__law_are_long_right b__law_are_long_right
  rw [fdef_e]
  obtain ⟨ws, hw, e1⟩ : ∃ ws, ws = List.replicate 300001 (W.int b) ∧ gMul (.tup [.int b]) (.int 300001) = some (.v (.tup ws)) := ⟨_, rfl, mul_one (n := 300001) (by omega)⟩
  have hl : ws.length = 300001 := by rw [hw, List.length_replicate]
  have hb : ∀ u ∈ ws, inB 0 255 u = true := fun u m => by
    rw [hw] at m
    rw [List.eq_of_mem_replicate m]
    simp [inB]
    omega
  have kr : KRow (.tup ws) := krow_bytes (by omega) hb
  have nr : isRow (.tup ws) = false := by simp [isRow, hl]
  have ec : cutL ws (some 1) none = ws.drop 1 := by
    unfold cutL HT.sIx
    rw [List.take_of_length_le (by simp [hl])]
    simp [hl]
  obtain ⟨us, hu⟩ : ∃ us, us = ws.drop 1 := ⟨_, rfl⟩
  rw [← hu] at ec
  have hb2 : ∀ u ∈ us, inB 0 255 u = true := fun u m => hb u (List.mem_of_mem_drop (hu ▸ m))
  have hl2 : us.length = 300000 := by rw [hu, List.length_drop, hl]
  have r2 : isRow (.tup us) = true := row_of (by omega) hb2
  have k2 : KRow (.tup us) := krow_bytes (by omega) hb2
  have en : gNe (.tup [.str "NoRow"]) (.tup [.str "NoRow"]) = some (.v (.bl false)) := by
    simp [gNe, wEq, toPy, toPys, pyEq, SeqAt.shaped, PyData.canLay0, PyData.canLayAll0, ok_NoRow, PyData.depth, PyData.depthAll, PyData.eqv, PyData.eqvAll]
  clear hw
  simp [e1, mark_told_ok kr, behind_told_ok kr kn_int, nr, inB, en, gSl, ec, mark_ok k2, r2, lmarked_ok hb2, mkW, same_ii]
/-! the mark of a row in two parts, of a row that was changed -/
theorem mk_app {m : Int} {xs ys : List W} : mk m (xs ++ ys) = mk (mk m xs) ys := by
  unfold mk
  rw [List.foldl_append]
theorem mk1_rng {m : Int} {w : W} (h : inB 0 255 w = true) : 0 ≤ mk1 m w ∧ mk1 m w < 2305843009213693951 := by
  cases w with
  | int b => exact ⟨Int.emod_nonneg _ (by omega), Int.emod_lt_of_pos _ (by omega)⟩
  | _ => cases h
theorem mk_rng : ∀ {ws : List W} {m : Int}, 0 ≤ m ∧ m < 2305843009213693951 → (∀ u ∈ ws, inB 0 255 u = true) → 0 ≤ mk m ws ∧ mk m ws < 2305843009213693951
  | [], m, h, _ => h
  | w :: ws, m, h, hb => mk_rng (ws := ws) (mk1_rng (hb w (List.mem_cons_self ..))) fun u m => hb u (List.mem_cons_of_mem _ m)
theorem step_inj {m n k : Int} (hm : 0 ≤ m ∧ m < 2305843009213693951) (hn : 0 ≤ n ∧ n < 2305843009213693951) (h : (m * 1000003 + k + 1) % 2305843009213693951 = (n * 1000003 + k + 1) % 2305843009213693951) : m = n := by
  obtain ⟨t, ht⟩ := Int.dvd_of_emod_eq_zero (Int.emod_eq_emod_iff_emod_sub_eq_zero.1 h)
  have e0 : (m - n) * 1000003 = 2305843009213693951 * t := by rw [← ht]; clear ht h; omega
  have e1 : 1229363429801019168 * ((m - n) * 1000003) = (m - n) + 2305843009213693951 * (533153 * (m - n)) := by clear e0 ht h; omega
  rw [e0] at e1
  clear e0 ht h
  have e2 : 1229363429801019168 * (2305843009213693951 * t) = 2305843009213693951 * (1229363429801019168 * t) := by clear e1; omega
  rw [e2] at e1
  clear e2
  generalize 1229363429801019168 * t = B at e1
  generalize 533153 * (m - n) = A at e1
  omega
theorem step_inj2 {m b c : Int} (hb : 0 ≤ b ∧ b < 256) (hc : 0 ≤ c ∧ c < 256) (h : (m * 1000003 + b + 1) % 2305843009213693951 = (m * 1000003 + c + 1) % 2305843009213693951) : b = c := by omega
theorem mk_inj : ∀ {ws : List W} {m n : Int}, 0 ≤ m ∧ m < 2305843009213693951 → 0 ≤ n ∧ n < 2305843009213693951 → (∀ u ∈ ws, inB 0 255 u = true) → mk m ws = mk n ws → m = n
  | [], m, n, _, _, _, e => e
  | w :: ws, m, n, hm, hn, hb, e => by
    have hw := hb w (List.mem_cons_self ..)
    have e2 := mk_inj (ws := ws) (mk1_rng hw) (mk1_rng hw) (fun u m => hb u (List.mem_cons_of_mem _ m)) e
    cases w with
    | int b => exact step_inj hm hn e2
    | _ => cases hw
theorem mk_ne {xs ys : List W} {b c : Int} (hy : ∀ u ∈ ys, inB 0 255 u = true) (hb : 0 ≤ b ∧ b < 256) (hc : 0 ≤ c ∧ c < 256) (h : b ≠ c) : mk 1 (xs ++ .int b :: ys) ≠ mk 1 (xs ++ .int c :: ys) := fun e => by
  rw [mk_app, mk_app] at e
  have e := mk_inj (mk1_rng (w := .int b) (by simp [inB]; omega)) (mk1_rng (w := .int c) (by simp [inB]; omega)) hy e
  exact h (step_inj2 hb hc e)
theorem turn_ok {s : W} {ws : List W} {due at' : Int} {h k5 k6 k7 k8 : _} (H : Hand h) (hl : ws.length ≤ 4000) (hb : ∀ u ∈ ws, inB 0 255 u = true) :
    (b_law_20 [.dat s, .own h, .dat (.tup ws), .dat (.int due), .dat (.int at'), k5, k6, k7, k8]).Nx (fun e => ∃ h k5 k6 k7 k8, e = [.dat s, .own h, .dat (.tup ws), .dat (.int due), .dat (.int at'), k5, k6, k7, k8] ∧ Hand h) := by
  unfold b_law_20
  obtain ⟨r1, h1, e1, r10, r11, H⟩ := take_env H (m := 4294967296) (by omega) (by omega)
  obtain ⟨w2, h2, e2, K2, H⟩ := odd_ok H
  obtain ⟨w3, h3, e3, m3, H⟩ := pick_ok H (ws := [.int 0, .int 1, .int r1, .int 2305843009213693950, .int 2305843009213693951, .int (-1), .bl true, .non, w2]) (by simp) (by simp)
  have K3 : Kn w3 := by
    simp at m3
    rcases m3 with rfl | rfl | rfl | rfl | rfl | rfl | rfl | rfl | rfl <;> first | exact K2.1 | (intro e; cases e)
  obtain ⟨w4, h4, e4, K4, H⟩ := odd_ok H
  obtain ⟨w5, h5, e5, m5, H⟩ := pick_ok H (ws := [.tup ws, .tup ws, w4, .lst ws, .tup (ws ++ [.int 256]), .tup (ws ++ [.int (-1)]), .tup (ws ++ [.bl true]), .tup (ws ++ [.str "7"])]) (by simp) (by simp)
  have K5 : KRow w5 := by
    have kr := krow_bytes (by omega) hb
    have add : ∀ {u : W}, Kn u → KRow (.tup (ws ++ [u])) := fun hu => ⟨kn_tup, fun vs e => by
      cases e
      refine ⟨by simp; omega, fun u m => ?_⟩
      rcases List.mem_append.1 m with m | m
      · exact byte_kn (hb u m)
      · rw [List.mem_singleton.1 m]; exact hu⟩
    simp at m5
    rcases m5 with rfl | rfl | rfl | rfl | rfl | rfl | rfl <;> first | exact kr | exact K4 | exact add (by intro e; cases e) | exact krow_of (by intro e; cases e) (fun ws e => by cases e)
  have q11 : b_law_11 [.dat s, .own h, .dat (.tup ws), .dat (.int due), .dat (.int at'), k5, k6, k7, k8] = .nx [.dat s, .own h3, .dat (.tup ws), .dat (.int due), .dat (.int at'), k5, .dat w3, k7, k8] := by
    simp [b_law_11, gPow_i, c_take, c_pick, e1, e2, e3]
  have q12 : b_law_12 [.dat s, .own h3, .dat (.tup ws), .dat (.int due), .dat (.int at'), k5, .dat w3, k7, k8] = .nx [.dat s, .own h5, .dat (.tup ws), .dat (.int due), .dat (.int at'), k5, .dat w3, .dat w5, k8] := by
    have hl4 : ws.length + 1 ≤ 16777216 := by omega
    simp [b_law_12, c_take, c_pick, e4, e5, gAdd_t, hl4]
  cases c : isRow w5
  · cases c2 : inB 0 2305843009213693950 w3
    · simp [q11, q12, b_law_14, b_law_15, b_law_18, b_law_19, c_lwithin, lwithin_ok K3, lis_row_ok K5, mark_told_ok K5, behind_told_ok K5 K3, c, c2, same_n ok_NoRow, same_n ok_NoNumber, gPow_i]
      exact H
    · simp [q11, q12, b_law_14, b_law_15, b_law_17, b_law_18, b_law_19, c_lwithin, lwithin_ok K3, lis_row_ok K5, mark_told_ok K5, behind_told_ok K5 K3, c, c2, same_n ok_NoRow, same_n ok_NoNumber, gPow_i]
      exact H
  · obtain ⟨us, rfl⟩ := row_tup c
    cases c2 : inB 0 2305843009213693950 w3
    · simp [q11, q12, b_law_13, b_law_14, b_law_15, b_law_18, b_law_19, c_lwithin, lwithin_ok K3, lis_row_ok K5, mark_told_ok K5, behind_told_ok K5 K3, c, c2, same_n ok_NoRow, same_n ok_NoNumber, same_t ok_told, lmarked_ok (row_bytes c).2, mkW, gPow_i]
      exact H
    · cases w3 with
      | int n =>
        simp [q11, q12, b_law_13, b_law_14, b_law_15, b_law_16, b_law_17, b_law_18, b_law_19, c_lwithin, lwithin_ok K3, lis_row_ok K5, mark_told_ok K5, behind_told_ok K5 K3, c, c2, same_n ok_NoRow, same_n ok_NoNumber, same_t ok_told, lmarked_ok (row_bytes c).2, mkW, gPow_i]
        exact H
      | _ => cases c2
theorem inB_nn {w : W} (h : inB 0 255 w = true) : ∃ b, w = .int b ∧ 0 ≤ b ∧ b < 256 := by
  cases w with
  | int b =>
    have h : (decide (0 ≤ b) && decide (b ≤ 255)) = true := h
    rw [Bool.and_eq_true_iff] at h
    exact ⟨b, rfl, of_decide_eq_true h.1, by have := of_decide_eq_true h.2; omega⟩
  | _ => cases h
theorem rest_ok {s : W} {ws : List W} {h : W} (H : Hand h) (hl : ws.length ≤ 4000) (hb : ∀ u ∈ ws, inB 0 255 u = true) :
    ((sSeq b_law_6 (sSeq b_law_7 (sSeq b_law_8 (sSeq b_law_9 (sSeq b_law_10 (sSeq (sFor (fRng1 (fC (.int 4))) (.nm 5) b_law_20) (sRet (fC (.bl true)))))))))
      [.dat s, .own h, .dat (.tup ws), .no, .no, .no, .no, .no, .no]).fin [false] = .ok (.bl true) [] := by
  have kr : KRow (.tup ws) := krow_bytes (by omega) hb
  have rr : isRow (.tup ws) = true := row_of (by omega) hb
  have rng : 0 ≤ mk 1 ws ∧ mk 1 ws < 2305843009213693951 := mk_rng (by omega) hb
  obtain ⟨r, h1, e1, r0, r1, H⟩ := take_env H (m := (ws.length : Int) + 1) (by omega) (by omega)
  have hb1 : ∀ u ∈ ws.take r.toNat, inB 0 255 u = true := fun u m => hb u (List.mem_of_mem_take m)
  have hb2 : ∀ u ∈ ws.drop r.toNat, inB 0 255 u = true := fun u m => hb u (List.mem_of_mem_drop m)
  have hl1 : (ws.take r.toNat).length ≤ 4000 := by rw [List.length_take]; omega
  have hl2 : (ws.drop r.toNat).length ≤ 4000 := by rw [List.length_drop]; omega
  have kr1 := krow_bytes (by omega) hb1
  have kr2 := krow_bytes (by omega) hb2
  have rr1 := row_of (by omega) hb1
  have rr2 := row_of (by omega) hb2
  have rng1 : 0 ≤ mk 1 (ws.take r.toNat) ∧ mk 1 (ws.take r.toNat) < 2305843009213693951 := mk_rng (by omega) hb1
  have in1 : inB 0 2305843009213693950 (.int (mk 1 (ws.take r.toNat))) = true := by simp [inB]; omega
  have eq1 : mk (mk 1 (ws.take r.toNat)) (ws.drop r.toNat) = mk 1 ws := by rw [← mk_app, List.take_append_drop]
  have q6 : b_law_6 [.dat s, .own h, .dat (.tup ws), .no, .no, .no, .no, .no, .no] = .nx [.dat s, .own h, .dat (.tup ws), .dat (.int (mk 1 ws)), .no, .no, .no, .no, .no] := by
    simp [b_law_6, lmarked_ok hb]
  have q7 : b_law_7 [.dat s, .own h, .dat (.tup ws), .dat (.int (mk 1 ws)), .no, .no, .no, .no, .no] = .nx [.dat s, .own h, .dat (.tup ws), .dat (.int (mk 1 ws)), .no, .no, .no, .no, .no] := by
    simp [b_law_7, mark_ok kr, rr, mkW, same_ii]
  have q8 : b_law_8 [.dat s, .own h, .dat (.tup ws), .dat (.int (mk 1 ws)), .no, .no, .no, .no, .no] = .nx [.dat s, .own h1, .dat (.tup ws), .dat (.int (mk 1 ws)), .dat (.int r), .no, .no, .no, .no] := by
    simp [b_law_8, c_take, e1]
  have q9 : b_law_9 [.dat s, .own h1, .dat (.tup ws), .dat (.int (mk 1 ws)), .dat (.int r), .no, .no, .no, .no] = .nx [.dat s, .own h1, .dat (.tup ws), .dat (.int (mk 1 ws)), .dat (.int r), .no, .no, .no, .no] := by
    simp [b_law_9, cut_take r0, cut_drop r0, mark_ok kr1, rr1, rr2, mkW, behind_ok kr2 kn_int, in1, eq1, same_ii]
  have q10 : ∃ h2, b_law_10 [.dat s, .own h1, .dat (.tup ws), .dat (.int (mk 1 ws)), .dat (.int r), .no, .no, .no, .no] = .nx [.dat s, .own h2, .dat (.tup ws), .dat (.int (mk 1 ws)), .dat (.int r), .no, .no, .no, .no] ∧ Hand h2 := by
    by_cases c : r < ws.length
    · obtain ⟨r2, h2, e2, r20, r21, H⟩ := take_env H (m := 255) (by omega) (by omega)
      have hlt : r.toNat < ws.length := by omega
      obtain ⟨b, eb, b0, b1⟩ := inB_nn (hb ws[r.toNat] (List.getElem_mem _))
      have hx : L2.atI ws r = some (.int b) := by rw [atI_get ⟨r0, c⟩, List.getElem?_eq_getElem hlt, eb]
      have hd : cutL ws (some (r + 1)) none = ws.drop (r.toNat + 1) := by rw [cut_drop (by omega)]; congr 1; omega
      have hb3 : ∀ u ∈ ws.drop (r.toNat + 1), inB 0 255 u = true := fun u m => hb u (List.mem_of_mem_drop m)
      have hl3 : (ws.drop (r.toNat + 1)).length ≤ 4000 := by rw [List.length_drop]; omega
      have c0 : 0 ≤ (b + 1 + r2) % 256 ∧ (b + 1 + r2) % 256 < 256 := ⟨Int.emod_nonneg _ (by omega), Int.emod_lt_of_pos _ (by omega)⟩
      have hb4 : ∀ u ∈ ws.take r.toNat ++ .int ((b + 1 + r2) % 256) :: ws.drop (r.toNat + 1), inB 0 255 u = true := fun u m => by
        rcases List.mem_append.1 m with m | m
        · exact hb1 u m
        · rcases List.mem_cons.1 m with rfl | m
          · simp [inB]; omega
          · exact hb3 u m
      have ew : ws = ws.take r.toNat ++ .int b :: ws.drop (r.toNat + 1) := by
        rw [← eb, ← List.drop_eq_getElem_cons hlt, List.take_append_drop]
      have ne : ¬ mk 1 (ws.take r.toNat ++ .int ((b + 1 + r2) % 256) :: ws.drop (r.toNat + 1)) = mk 1 ws := fun e => by
        rw [ew] at e
        have := mk_ne hb3 c0 ⟨b0, b1⟩ (by omega) (by rw [← ew]; rw [← ew] at e; exact e)
        exact this
      have kr4 := krow_bytes (by rw [List.length_append, List.length_cons]; omega) hb4
      have rr4 := row_of (by rw [List.length_append, List.length_cons]; omega) hb4
      refine ⟨h2, ?_, H⟩
      have a1 : (ws.take r.toNat).length + 1 ≤ 16777216 := by omega
      have a2 : (ws.take r.toNat).length + 1 + (ws.drop (r.toNat + 1)).length ≤ 16777216 := by omega
      have g1 : gAdd (.tup (ws.take r.toNat)) (.tup [.int ((b + 1 + r2) % 256)]) = some (.v (.tup (ws.take r.toNat ++ [.int ((b + 1 + r2) % 256)]))) := gAdd_t (by simpa using a1)
      have g2 : gAdd (.tup (ws.take r.toNat ++ [.int ((b + 1 + r2) % 256)])) (.tup (ws.drop (r.toNat + 1))) = some (.v (.tup (ws.take r.toNat ++ .int ((b + 1 + r2) % 256) :: ws.drop (r.toNat + 1)))) := by
        rw [gAdd_t (by rw [List.length_append, List.length_singleton]; exact a2), List.append_assoc]
        rfl
      simp only [cut_take r0, b_law_10, sIf_e, fAnd_e, fTest_e, fOp_e, fV_e]
      simp [c, hx, hd, c_take, e2, gMod_i, cut_take r0, g1, g2, mark_ok kr4, rr4, mkW, ne]
    · refine ⟨h1, ?_, H⟩
      simp [b_law_10, c]
  obtain ⟨h2, q10, H⟩ := q10
  obtain ⟨e, qf, h3, k5, k6, k7, k8, rfl, H⟩ := forL_rng (t := .nm 5) (f := b_law_20) (lo := 0) (hi := 4)
    (P := fun _ e => ∃ h k5 k6 k7 k8, e = [.dat s, .own h, .dat (.tup ws), .dat (.int (mk 1 ws)), .dat (.int r), k5, k6, k7, k8] ∧ Hand h)
    (env := [.dat s, .own h2, .dat (.tup ws), .dat (.int (mk 1 ws)), .dat (.int r), .no, .no, .no, .no]) ⟨_, _, _, _, _, rfl, H⟩ (fun i hi env p => by
      obtain ⟨h, k5, k6, k7, k8, rfl, H⟩ := p
      exact turn_ok H hl hb)
  simp [q6, q7, q8, q9, q10, qf, smallI]
theorem times_ok {ws : List W} (n : Nat) (hn : n ≤ 75) (hl : ws.length ≤ 41) : ∃ us, gMul (.tup ws) (.int n) = some (.v (.tup us)) ∧ us.length ≤ 4000 ∧ ∀ u ∈ us, u ∈ ws := by
  have h3 : n * ws.length ≤ 75 * 41 := Nat.mul_le_mul hn hl
  have h4 : (n : Int) * (ws.length : Int) ≤ 16777216 := by
    have : ((n * ws.length : Nat) : Int) ≤ 16777216 := by omega
    rw [Int.natCast_mul] at this
    exact this
  refine ⟨_, gMul_t ⟨by omega, h4, by omega⟩, ?_, fun u m => ?_⟩
  · rw [Int.toNat_natCast, List.length_flatten, List.map_replicate, List.sum_replicate_nat]
    omega
  · obtain ⟨l, ml, mu⟩ := List.mem_flatten.1 m
    rw [List.eq_of_mem_replicate ml] at mu
    exact mu
theorem law_true (ns : List Int) (h : ns.length ≤ 63) : d_law [.fz (ns.map W.int)] = .ok (.bl true) [] := by
  unfold d_law b_law
  rw [fdef_e]
  have q1 : b_law_1 [.dat (.fz (ns.map W.int)), .no, .no, .no, .no, .no, .no, .no, .no] = .nx [.dat (.fz (ns.map W.int)), .own (.lst [.lst (ns.map W.int), .int 0, .int 0, .int 1, .int 0]), .no, .no, .no, .no, .no, .no, .no] := by
    simp [b_law_1, d__law_hand, fdef_e, b__law_hand]
  have H := hand_new (ns := ns)
  generalize W.lst [.lst (ns.map W.int), .int 0, .int 0, .int 1, .int 0] = h0 at q1 H
  obtain ⟨r, h1, e1, r0, r1, H⟩ := take_env H (m := 20) (by omega) (by omega)
  have q2 : ∃ h2, b_law_2 [.dat (.fz (ns.map W.int)), .own h0, .no, .no, .no, .no, .no, .no, .no] = .nx [.dat (.fz (ns.map W.int)), .own h2, .no, .no, .no, .no, .no, .no, .no] ∧ Hand h2 := by
    by_cases c : r = 0
    · obtain ⟨r2, h2, e2, r20, r21, H⟩ := take_env H (m := 256) (by omega) (by omega)
      exact ⟨h2, by simp [b_law_2, c_take, e1, c, e2, long_ok r20 r21], H⟩
    · exact ⟨h1, by simp [b_law_2, c_take, e1, c], H⟩
  obtain ⟨h2, q2, H⟩ := q2
  obtain ⟨ws, h3, e3, hl, hb, H⟩ := bytes_ok H
  have q3 : b_law_3 [.dat (.fz (ns.map W.int)), .own h2, .no, .no, .no, .no, .no, .no, .no] = .nx [.dat (.fz (ns.map W.int)), .own h3, .dat (.tup ws), .no, .no, .no, .no, .no, .no] := by
    simp [b_law_3, e3]
  obtain ⟨r4, h4, e4, r40, r41, H⟩ := take_env H (m := 15) (by omega) (by omega)
  have q4 : ∃ ws', b_law_5 [.dat (.fz (ns.map W.int)), .own h3, .dat (.tup ws), .no, .no, .no, .no, .no, .no] = .nx [.dat (.fz (ns.map W.int)), .own h4, .dat (.tup ws'), .no, .no, .no, .no, .no, .no] ∧ ws'.length ≤ 4000 ∧ ∀ u ∈ ws', inB 0 255 u = true := by
    by_cases c : r4 = 0
    · obtain ⟨us, g, lu, mu⟩ := times_ok (ws := ws ++ [W.int 7]) 75 (by omega) (by simp; omega)
      have g : gMul (.tup (ws ++ [W.int 7])) (.int 75) = some (.v (.tup us)) := g
      refine ⟨us, ?_, lu, fun u m => ?_⟩
      · simp [b_law_5, b_law_4, c_take, e4, c, gAdd_t, show ws.length + 1 ≤ 16777216 by omega, g]
      · rcases List.mem_append.1 (mu u m) with m | m
        · exact hb u m
        · rw [List.mem_singleton.1 m]; rfl
    · exact ⟨ws, by simp [b_law_5, c_take, e4, c], by omega, hb⟩
  obtain ⟨ws', q4, hl', hb'⟩ := q4
  have := rest_ok (s := .fz (ns.map W.int)) H hl' hb'
  simp only [sSeq_e] at this
  show ((sSeq b_law_1 (sSeq b_law_2 (sSeq b_law_3 (sSeq b_law_5 _)))) [.dat (.fz (ns.map W.int)), .no, .no, .no, .no, .no, .no, .no, .no]).fin [false] = _
  rw [sSeq_e, q1, thn_nx, sSeq_e, q2, thn_nx, sSeq_e, q3, thn_nx, sSeq_e, q4, thn_nx]
  exact this
end K25

set_option maxRecDepth 100000
set_option maxHeartbeats 4000000
namespace K25
open PySem PySem.Spec PyProof.Rows L2 BV
theorem all_mk {l : PySem.W.OpenLaw} {w : World} {K : PySem.W.Frag} {h : Heap} {mg : Str → Option Value} {fl : Addr} (X : K.In h) (G : h.Ns mainGlobals mg) (hfl : mg "law" = some (.ref fl))
    {f0 f1 f2 f3 f4 f5 f6 f7 f8 f9 f10 f11 f12 f13 f14 f15 f16 f17 f18 f19 f20 f21 f22 C1 C2 : Addr} {od0 an0 od1 an1 od2 an2 od3 an3 od4 an4 od5 an5 od6 an6 od7 an7 od8 an8 od9 an9 od10 an10 od11 an11 od12 an12 od13 an13 od14 an14 od15 an15 od16 an16 od17 an17 od18 an18 od19 an19 od20 an20 od21 an21 od22 an22 : Option Addr} {sl0 sl1 sl2 sl3 sl4 sl5 sl6 sl7 sl8 sl9 sl10 sl11 sl12 sl13 sl14 sl15 sl16 sl17 sl18 sl19 sl20 sl21 sl22 : Array (Option Value)} {oc0 kV0 dc0 pm0 cd0 ct0 oc1 kV1 dc1 pm1 cd1 ct1 oc2 kV2 dc2 pm2 cd2 ct2 oc3 kV3 dc3 pm3 cd3 ct3 oc4 kV4 dc4 pm4 cd4 ct4 oc5 kV5 dc5 pm5 cd5 ct5 oc6 kV6 dc6 pm6 cd6 ct6 oc7 kV7 dc7 pm7 cd7 ct7 oc8 kV8 dc8 pm8 cd8 ct8 oc9 kV9 dc9 pm9 cd9 ct9 oc10 kV10 dc10 pm10 cd10 ct10 oc11 kV11 dc11 pm11 cd11 ct11 oc12 kV12 dc12 pm12 cd12 ct12 oc13 kV13 dc13 pm13 cd13 ct13 oc14 kV14 dc14 pm14 cd14 ct14 oc15 kV15 dc15 pm15 cd15 ct15 oc16 kV16 dc16 pm16 cd16 ct16 oc17 kV17 dc17 pm17 cd17 ct17 oc18 kV18 dc18 pm18 cd18 ct18 oc19 kV19 dc19 pm19 cd19 ct19 oc20 kV20 dc20 pm20 cd20 ct20 oc21 kV21 dc21 pm21 cd21 ct21 oc22 kV22 dc22 pm22 cd22 ct22 : Value} {t_BYTE t_MARK_BEGIN t_MARK_PRIME t_MARK_STEP t_MOST_BYTES : Tok}
    (a0 : PySem.W.nsIn K mainGlobals "is_integer" = some (some (.ref f0)))
    (l0 : K.lookup f0 = some ⟨oc0, od0, .func (PySem.W.fnOf "is_integer" "is_integer" (defArgs (topS 5)) (defBody (topS 5)) (defScope (topS 5)) .none kV0 dc0 pm0 an0 cd0 ct0), sl0⟩)
    (c0 : PySem.W.codeIn K cd0 "is_integer" = true)
    (k0 : PySem.W.keepIn K (.ref f0) = true)
    (a1 : PySem.W.nsIn K mainGlobals "is_within" = some (some (.ref f1)))
    (l1 : K.lookup f1 = some ⟨oc1, od1, .func (PySem.W.fnOf "is_within" "is_within" (defArgs (topS 6)) (defBody (topS 6)) (defScope (topS 6)) .none kV1 dc1 pm1 an1 cd1 ct1), sl1⟩)
    (c1 : PySem.W.codeIn K cd1 "is_within" = true)
    (k1 : PySem.W.keepIn K (.ref f1) = true)
    (a2 : PySem.W.nsIn K mainGlobals "is_below" = some (some (.ref f2)))
    (l2 : K.lookup f2 = some ⟨oc2, od2, .func (PySem.W.fnOf "is_below" "is_below" (defArgs (topS 7)) (defBody (topS 7)) (defScope (topS 7)) .none kV2 dc2 pm2 an2 cd2 ct2), sl2⟩)
    (c2 : PySem.W.codeIn K cd2 "is_below" = true)
    (k2 : PySem.W.keepIn K (.ref f2) = true)
    (a3 : PySem.W.nsIn K mainGlobals "is_row" = some (some (.ref f3)))
    (l3 : K.lookup f3 = some ⟨oc3, od3, .func (PySem.W.fnOf "is_row" "is_row" (defArgs (topS 11)) (defBody (topS 11)) (defScope (topS 11)) .none kV3 dc3 pm3 an3 cd3 ct3), sl3⟩)
    (c3 : PySem.W.codeIn K cd3 "is_row" = true)
    (k3 : PySem.W.keepIn K (.ref f3) = true)
    (a4 : PySem.W.nsIn K mainGlobals "check_row" = some (some (.ref f4)))
    (l4 : K.lookup f4 = some ⟨oc4, od4, .func (PySem.W.fnOf "check_row" "check_row" (defArgs (topS 12)) (defBody (topS 12)) (defScope (topS 12)) .none kV4 dc4 pm4 an4 cd4 ct4), sl4⟩)
    (c4 : PySem.W.codeIn K cd4 "check_row" = true)
    (k4 : PySem.W.keepIn K (.ref f4) = true)
    (a5 : PySem.W.nsIn K mainGlobals "marked" = some (some (.ref f5)))
    (l5 : K.lookup f5 = some ⟨oc5, od5, .func (PySem.W.fnOf "marked" "marked" (defArgs (topS 17)) (defBody (topS 17)) (defScope (topS 17)) .none kV5 dc5 pm5 an5 cd5 ct5), sl5⟩)
    (c5 : PySem.W.codeIn K cd5 "marked" = true)
    (k5 : PySem.W.keepIn K (.ref f5) = true)
    (a6 : PySem.W.nsIn K mainGlobals "mark_of" = some (some (.ref f6)))
    (l6 : K.lookup f6 = some ⟨oc6, od6, .func (PySem.W.fnOf "mark_of" "mark_of" (defArgs (topS 18)) (defBody (topS 18)) (defScope (topS 18)) .none kV6 dc6 pm6 an6 cd6 ct6), sl6⟩)
    (c6 : PySem.W.codeIn K cd6 "mark_of" = true)
    (k6 : PySem.W.keepIn K (.ref f6) = true)
    (a7 : PySem.W.nsIn K mainGlobals "mark" = some (some (.ref f7)))
    (l7 : K.lookup f7 = some ⟨oc7, od7, .func (PySem.W.fnOf "mark" "mark" (defArgs (topS 19)) (defBody (topS 19)) (defScope (topS 19)) .none kV7 dc7 pm7 an7 cd7 ct7), sl7⟩)
    (c7 : PySem.W.codeIn K cd7 "mark" = true)
    (k7 : PySem.W.keepIn K (.ref f7) = true)
    (a8 : PySem.W.nsIn K mainGlobals "mark_behind" = some (some (.ref f8)))
    (l8 : K.lookup f8 = some ⟨oc8, od8, .func (PySem.W.fnOf "mark_behind" "mark_behind" (defArgs (topS 20)) (defBody (topS 20)) (defScope (topS 20)) .none kV8 dc8 pm8 an8 cd8 ct8), sl8⟩)
    (c8 : PySem.W.codeIn K cd8 "mark_behind" = true)
    (k8 : PySem.W.keepIn K (.ref f8) = true)
    (a9 : PySem.W.nsIn K mainGlobals "_law_hand" = some (some (.ref f9)))
    (l9 : K.lookup f9 = some ⟨oc9, od9, .func (PySem.W.fnOf "_law_hand" "_law_hand" (defArgs (topS 22)) (defBody (topS 22)) (defScope (topS 22)) .none kV9 dc9 pm9 an9 cd9 ct9), sl9⟩)
    (c9 : PySem.W.codeIn K cd9 "_law_hand" = true)
    (k9 : PySem.W.keepIn K (.ref f9) = true)
    (a10 : PySem.W.nsIn K mainGlobals "_law_take" = some (some (.ref f10)))
    (l10 : K.lookup f10 = some ⟨oc10, od10, .func (PySem.W.fnOf "_law_take" "_law_take" (defArgs (topS 23)) (defBody (topS 23)) (defScope (topS 23)) .none kV10 dc10 pm10 an10 cd10 ct10), sl10⟩)
    (c10 : PySem.W.codeIn K cd10 "_law_take" = true)
    (k10 : PySem.W.keepIn K (.ref f10) = true)
    (a11 : PySem.W.nsIn K mainGlobals "_law_pick" = some (some (.ref f11)))
    (l11 : K.lookup f11 = some ⟨oc11, od11, .func (PySem.W.fnOf "_law_pick" "_law_pick" (defArgs (topS 24)) (defBody (topS 24)) (defScope (topS 24)) .none kV11 dc11 pm11 an11 cd11 ct11), sl11⟩)
    (c11 : PySem.W.codeIn K cd11 "_law_pick" = true)
    (k11 : PySem.W.keepIn K (.ref f11) = true)
    (a12 : PySem.W.nsIn K mainGlobals "_law_is_integer" = some (some (.ref f12)))
    (l12 : K.lookup f12 = some ⟨oc12, od12, .func (PySem.W.fnOf "_law_is_integer" "_law_is_integer" (defArgs (topS 25)) (defBody (topS 25)) (defScope (topS 25)) .none kV12 dc12 pm12 an12 cd12 ct12), sl12⟩)
    (c12 : PySem.W.codeIn K cd12 "_law_is_integer" = true)
    (k12 : PySem.W.keepIn K (.ref f12) = true)
    (a13 : PySem.W.nsIn K mainGlobals "_law_is_within" = some (some (.ref f13)))
    (l13 : K.lookup f13 = some ⟨oc13, od13, .func (PySem.W.fnOf "_law_is_within" "_law_is_within" (defArgs (topS 26)) (defBody (topS 26)) (defScope (topS 26)) .none kV13 dc13 pm13 an13 cd13 ct13), sl13⟩)
    (c13 : PySem.W.codeIn K cd13 "_law_is_within" = true)
    (k13 : PySem.W.keepIn K (.ref f13) = true)
    (a14 : PySem.W.nsIn K mainGlobals "_law_same" = some (some (.ref f14)))
    (l14 : K.lookup f14 = some ⟨oc14, od14, .func (PySem.W.fnOf "_law_same" "_law_same" (defArgs (topS 27)) (defBody (topS 27)) (defScope (topS 27)) .none kV14 dc14 pm14 an14 cd14 ct14), sl14⟩)
    (c14 : PySem.W.codeIn K cd14 "_law_same" = true)
    (k14 : PySem.W.keepIn K (.ref f14) = true)
    (a15 : PySem.W.nsIn K mainGlobals "_law_odd" = some (some (.ref f15)))
    (l15 : K.lookup f15 = some ⟨oc15, od15, .func (PySem.W.fnOf "_law_odd" "_law_odd" (defArgs (topS 28)) (defBody (topS 28)) (defScope (topS 28)) .none kV15 dc15 pm15 an15 cd15 ct15), sl15⟩)
    (c15 : PySem.W.codeIn K cd15 "_law_odd" = true)
    (k15 : PySem.W.keepIn K (.ref f15) = true)
    (a16 : PySem.W.nsIn K mainGlobals "_law_is_row" = some (some (.ref f16)))
    (l16 : K.lookup f16 = some ⟨oc16, od16, .func (PySem.W.fnOf "_law_is_row" "_law_is_row" (defArgs (topS 29)) (defBody (topS 29)) (defScope (topS 29)) .none kV16 dc16 pm16 an16 cd16 ct16), sl16⟩)
    (c16 : PySem.W.codeIn K cd16 "_law_is_row" = true)
    (k16 : PySem.W.keepIn K (.ref f16) = true)
    (a17 : PySem.W.nsIn K mainGlobals "_law_bytes" = some (some (.ref f17)))
    (l17 : K.lookup f17 = some ⟨oc17, od17, .func (PySem.W.fnOf "_law_bytes" "_law_bytes" (defArgs (topS 30)) (defBody (topS 30)) (defScope (topS 30)) .none kV17 dc17 pm17 an17 cd17 ct17), sl17⟩)
    (c17 : PySem.W.codeIn K cd17 "_law_bytes" = true)
    (k17 : PySem.W.keepIn K (.ref f17) = true)
    (a18 : PySem.W.nsIn K mainGlobals "_law_marked" = some (some (.ref f18)))
    (l18 : K.lookup f18 = some ⟨oc18, od18, .func (PySem.W.fnOf "_law_marked" "_law_marked" (defArgs (topS 31)) (defBody (topS 31)) (defScope (topS 31)) .none kV18 dc18 pm18 an18 cd18 ct18), sl18⟩)
    (c18 : PySem.W.codeIn K cd18 "_law_marked" = true)
    (k18 : PySem.W.keepIn K (.ref f18) = true)
    (a19 : PySem.W.nsIn K mainGlobals "_law_mark_told" = some (some (.ref f19)))
    (l19 : K.lookup f19 = some ⟨oc19, od19, .func (PySem.W.fnOf "_law_mark_told" "_law_mark_told" (defArgs (topS 32)) (defBody (topS 32)) (defScope (topS 32)) .none kV19 dc19 pm19 an19 cd19 ct19), sl19⟩)
    (c19 : PySem.W.codeIn K cd19 "_law_mark_told" = true)
    (k19 : PySem.W.keepIn K (.ref f19) = true)
    (a20 : PySem.W.nsIn K mainGlobals "_law_behind_told" = some (some (.ref f20)))
    (l20 : K.lookup f20 = some ⟨oc20, od20, .func (PySem.W.fnOf "_law_behind_told" "_law_behind_told" (defArgs (topS 33)) (defBody (topS 33)) (defScope (topS 33)) .none kV20 dc20 pm20 an20 cd20 ct20), sl20⟩)
    (c20 : PySem.W.codeIn K cd20 "_law_behind_told" = true)
    (k20 : PySem.W.keepIn K (.ref f20) = true)
    (a21 : PySem.W.nsIn K mainGlobals "_law_are_long_right" = some (some (.ref f21)))
    (l21 : K.lookup f21 = some ⟨oc21, od21, .func (PySem.W.fnOf "_law_are_long_right" "_law_are_long_right" (defArgs (topS 34)) (defBody (topS 34)) (defScope (topS 34)) .none kV21 dc21 pm21 an21 cd21 ct21), sl21⟩)
    (c21 : PySem.W.codeIn K cd21 "_law_are_long_right" = true)
    (k21 : PySem.W.keepIn K (.ref f21) = true)
    (a22 : PySem.W.nsIn K mainGlobals "law" = some (some (.ref f22)))
    (l22 : K.lookup f22 = some ⟨oc22, od22, .func (PySem.W.fnOf "law" "law" (defArgs (topS 35)) (defBody (topS 35)) (defScope (topS 35)) .none kV22 dc22 pm22 an22 cd22 ct22), sl22⟩)
    (c22 : PySem.W.codeIn K cd22 "law" = true)
    (k22 : PySem.W.keepIn K (.ref f22) = true)
    (z_all : PySem.W.nsIn K mainGlobals "all" = some none)
    (z_bool : PySem.W.nsIn K mainGlobals "bool" = some none)
    (z_int : PySem.W.nsIn K mainGlobals "int" = some none)
    (z_isinstance : PySem.W.nsIn K mainGlobals "isinstance" = some none)
    (z_len : PySem.W.nsIn K mainGlobals "len" = some none)
    (z_list : PySem.W.nsIn K mainGlobals "list" = some none)
    (z_range : PySem.W.nsIn K mainGlobals "range" = some none)
    (z_str : PySem.W.nsIn K mainGlobals "str" = some none)
    (z_tuple : PySem.W.nsIn K mainGlobals "tuple" = some none)
    (z_zip : PySem.W.nsIn K mainGlobals "zip" = some none)
    (v_BYTE : PySem.W.nsIn K mainGlobals "BYTE" = some (some (.int 256 t_BYTE)))
    (v_MARK_BEGIN : PySem.W.nsIn K mainGlobals "MARK_BEGIN" = some (some (.int 1 t_MARK_BEGIN)))
    (v_MARK_PRIME : PySem.W.nsIn K mainGlobals "MARK_PRIME" = some (some (.int 2305843009213693951 t_MARK_PRIME)))
    (v_MARK_STEP : PySem.W.nsIn K mainGlobals "MARK_STEP" = some (some (.int 1000003 t_MARK_STEP)))
    (v_MOST_BYTES : PySem.W.nsIn K mainGlobals "MOST_BYTES" = some (some (.int 300000 t_MOST_BYTES)))
    (g_NoNumber : PySem.W.nsIn K mainGlobals "NoNumber" = some (some (.ref C1)))
    (e_NoNumber : PySem.W.subIn K (.ref C1) (.type "BaseException") = some true)
    (t_NoNumber : PySem.W.typeIn K (.ref C1) = some (.type "type"))
    (g_NoRow : PySem.W.nsIn K mainGlobals "NoRow" = some (some (.ref C2)))
    (e_NoRow : PySem.W.subIn K (.ref C2) (.type "BaseException") = some true)
    (t_NoRow : PySem.W.typeIn K (.ref C2) = some (.type "type"))
    (x_NoNumber : PySem.W.excIn K C1 PySem.HandSPX.veTail "ValueError.__new__" = true)
    (kk_NoNumber : PySem.W.keepIn K (.ref C1) = true)
    (x_NoRow : PySem.W.excIn K C2 PySem.HandSPX.veTail "ValueError.__new__" = true)
    (kk_NoRow : PySem.W.keepIn K (.ref C2) = true)
    (i_NoNumber : PySem.W.isClsIn K C1 = true)
    (s_NoNumber_NoNumber : PySem.W.subIn K (.ref C1) (.ref C1) = some true)
    (s_NoRow_NoNumber : PySem.W.subIn K (.ref C2) (.ref C1) = some false)
    (i_NoRow : PySem.W.isClsIn K C2 = true)
    (s_NoNumber_NoRow : PySem.W.subIn K (.ref C1) (.ref C2) = some false)
    (s_NoRow_NoRow : PySem.W.subIn K (.ref C2) (.ref C2) = some true)
    : ∃ fd : FuncData, (∀ (s : Shared) (v : Value), BindsTo s fd ⟨[v], []⟩ [("script", v)]) ∧ ∀ base : Heap, K.In base → base.Ns mainGlobals mg → FnOk l.prog w K mg base (L2.CX l.prog w) 9 fl fd ["script"] (spLaw K 63) := by
  have e := hfl.symm.trans (PySem.W.mg_of X G a22)
  cases e
  have F0 := fun_mk (st := topS 5) l0 c0 k0
  have b0 := F0.binds (ps := ["thing"]) fun _ _ _ _ _ _ us hl => match us, hl with | [_], _ => rfl
  have F1 := fun_mk (st := topS 6) l1 c1 k1
  have b1 := F1.binds (ps := ["thing", "least", "most"]) fun _ _ _ _ _ _ us hl => match us, hl with | [_, _, _], _ => rfl
  have F2 := fun_mk (st := topS 7) l2 c2 k2
  have b2 := F2.binds (ps := ["thing", "many"]) fun _ _ _ _ _ _ us hl => match us, hl with | [_, _], _ => rfl
  have F3 := fun_mk (st := topS 11) l3 c3 k3
  have b3 := F3.binds (ps := ["thing"]) fun _ _ _ _ _ _ us hl => match us, hl with | [_], _ => rfl
  have F4 := fun_mk (st := topS 12) l4 c4 k4
  have b4 := F4.binds (ps := ["thing"]) fun _ _ _ _ _ _ us hl => match us, hl with | [_], _ => rfl
  have F5 := fun_mk (st := topS 17) l5 c5 k5
  have b5 := F5.binds (ps := ["mark", "row"]) fun _ _ _ _ _ _ us hl => match us, hl with | [_, _], _ => rfl
  have F6 := fun_mk (st := topS 18) l6 c6 k6
  have b6 := F6.binds (ps := ["row"]) fun _ _ _ _ _ _ us hl => match us, hl with | [_], _ => rfl
  have F7 := fun_mk (st := topS 19) l7 c7 k7
  have b7 := F7.binds (ps := ["row"]) fun _ _ _ _ _ _ us hl => match us, hl with | [_], _ => rfl
  have F8 := fun_mk (st := topS 20) l8 c8 k8
  have b8 := F8.binds (ps := ["number", "row"]) fun _ _ _ _ _ _ us hl => match us, hl with | [_, _], _ => rfl
  have F9 := fun_mk (st := topS 22) l9 c9 k9
  have b9 := F9.binds (ps := ["script"]) fun _ _ _ _ _ _ us hl => match us, hl with | [_], _ => rfl
  have F10 := fun_mk (st := topS 23) l10 c10 k10
  have b10 := F10.binds (ps := ["hand", "many"]) fun _ _ _ _ _ _ us hl => match us, hl with | [_, _], _ => rfl
  have F11 := fun_mk (st := topS 24) l11 c11 k11
  have b11 := F11.binds (ps := ["hand", "things"]) fun _ _ _ _ _ _ us hl => match us, hl with | [_, _], _ => rfl
  have F12 := fun_mk (st := topS 25) l12 c12 k12
  have b12 := F12.binds (ps := ["thing"]) fun _ _ _ _ _ _ us hl => match us, hl with | [_], _ => rfl
  have F13 := fun_mk (st := topS 26) l13 c13 k13
  have b13 := F13.binds (ps := ["thing", "least", "most"]) fun _ _ _ _ _ _ us hl => match us, hl with | [_, _, _], _ => rfl
  have F14 := fun_mk (st := topS 27) l14 c14 k14
  have b14 := F14.binds (ps := ["actual", "due"]) fun _ _ _ _ _ _ us hl => match us, hl with | [_, _], _ => rfl
  have F15 := fun_mk (st := topS 28) l15 c15 k15
  have b15 := F15.binds (ps := ["hand"]) fun _ _ _ _ _ _ us hl => match us, hl with | [_], _ => rfl
  have F16 := fun_mk (st := topS 29) l16 c16 k16
  have b16 := F16.binds (ps := ["thing"]) fun _ _ _ _ _ _ us hl => match us, hl with | [_], _ => rfl
  have F17 := fun_mk (st := topS 30) l17 c17 k17
  have b17 := F17.binds (ps := ["hand", "most"]) fun _ _ _ _ _ _ us hl => match us, hl with | [_, _], _ => rfl
  have F18 := fun_mk (st := topS 31) l18 c18 k18
  have b18 := F18.binds (ps := ["found", "row"]) fun _ _ _ _ _ _ us hl => match us, hl with | [_, _], _ => rfl
  have F19 := fun_mk (st := topS 32) l19 c19 k19
  have b19 := F19.binds (ps := ["row"]) fun _ _ _ _ _ _ us hl => match us, hl with | [_], _ => rfl
  have F20 := fun_mk (st := topS 33) l20 c20 k20
  have b20 := F20.binds (ps := ["number", "row"]) fun _ _ _ _ _ _ us hl => match us, hl with | [_, _], _ => rfl
  have F21 := fun_mk (st := topS 34) l21 c21 k21
  have b21 := F21.binds (ps := ["byte"]) fun _ _ _ _ _ _ us hl => match us, hl with | [_], _ => rfl
  have F22 := fun_mk (st := topS 35) l22 c22 k22
  have b22 := F22.binds (ps := ["script"]) fun _ _ _ _ _ _ us hl => match us, hl with | [_], _ => rfl
  have T : Txt K mg (fun i => [f0, f1, f2, f3, f4, f5, f6, f7, f8, f9, f10, f11, f12, f13, f14, f15, f16, f17, f18, f19, f20, f21, fl].getD i f0) (fun i => [PySem.W.fnOf "is_integer" "is_integer" (defArgs (topS 5)) (defBody (topS 5)) (defScope (topS 5)) .none kV0 dc0 pm0 an0 cd0 ct0, PySem.W.fnOf "is_within" "is_within" (defArgs (topS 6)) (defBody (topS 6)) (defScope (topS 6)) .none kV1 dc1 pm1 an1 cd1 ct1, PySem.W.fnOf "is_below" "is_below" (defArgs (topS 7)) (defBody (topS 7)) (defScope (topS 7)) .none kV2 dc2 pm2 an2 cd2 ct2, PySem.W.fnOf "is_row" "is_row" (defArgs (topS 11)) (defBody (topS 11)) (defScope (topS 11)) .none kV3 dc3 pm3 an3 cd3 ct3, PySem.W.fnOf "check_row" "check_row" (defArgs (topS 12)) (defBody (topS 12)) (defScope (topS 12)) .none kV4 dc4 pm4 an4 cd4 ct4, PySem.W.fnOf "marked" "marked" (defArgs (topS 17)) (defBody (topS 17)) (defScope (topS 17)) .none kV5 dc5 pm5 an5 cd5 ct5, PySem.W.fnOf "mark_of" "mark_of" (defArgs (topS 18)) (defBody (topS 18)) (defScope (topS 18)) .none kV6 dc6 pm6 an6 cd6 ct6, PySem.W.fnOf "mark" "mark" (defArgs (topS 19)) (defBody (topS 19)) (defScope (topS 19)) .none kV7 dc7 pm7 an7 cd7 ct7, PySem.W.fnOf "mark_behind" "mark_behind" (defArgs (topS 20)) (defBody (topS 20)) (defScope (topS 20)) .none kV8 dc8 pm8 an8 cd8 ct8, PySem.W.fnOf "_law_hand" "_law_hand" (defArgs (topS 22)) (defBody (topS 22)) (defScope (topS 22)) .none kV9 dc9 pm9 an9 cd9 ct9, PySem.W.fnOf "_law_take" "_law_take" (defArgs (topS 23)) (defBody (topS 23)) (defScope (topS 23)) .none kV10 dc10 pm10 an10 cd10 ct10, PySem.W.fnOf "_law_pick" "_law_pick" (defArgs (topS 24)) (defBody (topS 24)) (defScope (topS 24)) .none kV11 dc11 pm11 an11 cd11 ct11, PySem.W.fnOf "_law_is_integer" "_law_is_integer" (defArgs (topS 25)) (defBody (topS 25)) (defScope (topS 25)) .none kV12 dc12 pm12 an12 cd12 ct12, PySem.W.fnOf "_law_is_within" "_law_is_within" (defArgs (topS 26)) (defBody (topS 26)) (defScope (topS 26)) .none kV13 dc13 pm13 an13 cd13 ct13, PySem.W.fnOf "_law_same" "_law_same" (defArgs (topS 27)) (defBody (topS 27)) (defScope (topS 27)) .none kV14 dc14 pm14 an14 cd14 ct14, PySem.W.fnOf "_law_odd" "_law_odd" (defArgs (topS 28)) (defBody (topS 28)) (defScope (topS 28)) .none kV15 dc15 pm15 an15 cd15 ct15, PySem.W.fnOf "_law_is_row" "_law_is_row" (defArgs (topS 29)) (defBody (topS 29)) (defScope (topS 29)) .none kV16 dc16 pm16 an16 cd16 ct16, PySem.W.fnOf "_law_bytes" "_law_bytes" (defArgs (topS 30)) (defBody (topS 30)) (defScope (topS 30)) .none kV17 dc17 pm17 an17 cd17 ct17, PySem.W.fnOf "_law_marked" "_law_marked" (defArgs (topS 31)) (defBody (topS 31)) (defScope (topS 31)) .none kV18 dc18 pm18 an18 cd18 ct18, PySem.W.fnOf "_law_mark_told" "_law_mark_told" (defArgs (topS 32)) (defBody (topS 32)) (defScope (topS 32)) .none kV19 dc19 pm19 an19 cd19 ct19, PySem.W.fnOf "_law_behind_told" "_law_behind_told" (defArgs (topS 33)) (defBody (topS 33)) (defScope (topS 33)) .none kV20 dc20 pm20 an20 cd20 ct20, PySem.W.fnOf "_law_are_long_right" "_law_are_long_right" (defArgs (topS 34)) (defBody (topS 34)) (defScope (topS 34)) .none kV21 dc21 pm21 an21 cd21 ct21, PySem.W.fnOf "law" "law" (defArgs (topS 35)) (defBody (topS 35)) (defScope (topS 35)) .none kV22 dc22 pm22 an22 cd22 ct22].getD i (PySem.W.fnOf "is_integer" "is_integer" (defArgs (topS 5)) (defBody (topS 5)) (defScope (topS 5)) .none kV0 dc0 pm0 an0 cd0 ct0)) (fun i => [f0, C1, C2].getD i f0) := {
    F_is_integer := F0
    B_is_integer := b0
    G_is_integer := PySem.W.mg_of X G a0
    F_is_within := F1
    B_is_within := b1
    G_is_within := PySem.W.mg_of X G a1
    F_is_below := F2
    B_is_below := b2
    G_is_below := PySem.W.mg_of X G a2
    F_is_row := F3
    B_is_row := b3
    G_is_row := PySem.W.mg_of X G a3
    F_check_row := F4
    B_check_row := b4
    G_check_row := PySem.W.mg_of X G a4
    F_marked := F5
    B_marked := b5
    G_marked := PySem.W.mg_of X G a5
    F_mark_of := F6
    B_mark_of := b6
    G_mark_of := PySem.W.mg_of X G a6
    F_mark := F7
    B_mark := b7
    G_mark := PySem.W.mg_of X G a7
    F_mark_behind := F8
    B_mark_behind := b8
    G_mark_behind := PySem.W.mg_of X G a8
    F__law_hand := F9
    B__law_hand := b9
    G__law_hand := PySem.W.mg_of X G a9
    F__law_take := F10
    B__law_take := b10
    G__law_take := PySem.W.mg_of X G a10
    F__law_pick := F11
    B__law_pick := b11
    G__law_pick := PySem.W.mg_of X G a11
    F__law_is_integer := F12
    B__law_is_integer := b12
    G__law_is_integer := PySem.W.mg_of X G a12
    F__law_is_within := F13
    B__law_is_within := b13
    G__law_is_within := PySem.W.mg_of X G a13
    F__law_same := F14
    B__law_same := b14
    G__law_same := PySem.W.mg_of X G a14
    F__law_odd := F15
    B__law_odd := b15
    G__law_odd := PySem.W.mg_of X G a15
    F__law_is_row := F16
    B__law_is_row := b16
    G__law_is_row := PySem.W.mg_of X G a16
    F__law_bytes := F17
    B__law_bytes := b17
    G__law_bytes := PySem.W.mg_of X G a17
    F__law_marked := F18
    B__law_marked := b18
    G__law_marked := PySem.W.mg_of X G a18
    F__law_mark_told := F19
    B__law_mark_told := b19
    G__law_mark_told := PySem.W.mg_of X G a19
    F__law_behind_told := F20
    B__law_behind_told := b20
    G__law_behind_told := PySem.W.mg_of X G a20
    F__law_are_long_right := F21
    B__law_are_long_right := b21
    G__law_are_long_right := PySem.W.mg_of X G a21
    F_law := F22
    B_law := b22
    G_law := PySem.W.mg_of X G a22
    z_all := PySem.W.mg_none_of X G z_all
    z_bool := PySem.W.mg_none_of X G z_bool
    z_int := PySem.W.mg_none_of X G z_int
    z_isinstance := PySem.W.mg_none_of X G z_isinstance
    z_len := PySem.W.mg_none_of X G z_len
    z_list := PySem.W.mg_none_of X G z_list
    z_range := PySem.W.mg_none_of X G z_range
    z_str := PySem.W.mg_none_of X G z_str
    z_tuple := PySem.W.mg_none_of X G z_tuple
    z_zip := PySem.W.mg_none_of X G z_zip
    c_BYTE := ⟨_, PySem.W.mg_of X G v_BYTE⟩
    c_MARK_BEGIN := ⟨_, PySem.W.mg_of X G v_MARK_BEGIN⟩
    c_MARK_PRIME := ⟨_, PySem.W.mg_of X G v_MARK_PRIME⟩
    c_MARK_STEP := ⟨_, PySem.W.mg_of X G v_MARK_STEP⟩
    c_MOST_BYTES := ⟨_, PySem.W.mg_of X G v_MOST_BYTES⟩
    g_NoNumber := PySem.W.mg_of X G g_NoNumber
    x_NoNumber := x_NoNumber
    k_NoNumber := kk_NoNumber
    e_NoNumber := e_NoNumber
    t_NoNumber := t_NoNumber
    g_NoRow := PySem.W.mg_of X G g_NoRow
    x_NoRow := x_NoRow
    k_NoRow := kk_NoRow
    e_NoRow := e_NoRow
    t_NoRow := t_NoRow
    s_NoNumber := ⟨fun n b hn => by
      unfold tst_NoNumber at hn
      split at hn
      · rename_i q; subst q; cases hn; exact exm_pair e_NoNumber i_NoNumber t_NoNumber s_NoNumber_NoNumber
      split at hn
      · rename_i q; subst q; cases hn; exact exm_pair e_NoNumber i_NoNumber t_NoNumber s_NoRow_NoNumber
      cases hn
      ⟩
    s_NoRow := ⟨fun n b hn => by
      unfold tst_NoRow at hn
      split at hn
      · rename_i q; subst q; cases hn; exact exm_pair e_NoRow i_NoRow t_NoRow s_NoNumber_NoRow
      split at hn
      · rename_i q; subst q; cases hn; exact exm_pair e_NoRow i_NoRow t_NoRow s_NoRow_NoRow
      cases hn
      ⟩
  }
  refine ⟨PySem.W.fnOf "law" "law" (defArgs (topS 35)) (defBody (topS 35)) (defScope (topS 35)) .none kV22 dc22 pm22 an22 cd22 ct22, fun s v => .of_eq rfl, fun base _ _ => FnOk.imp (ok_law (P := l.prog) (w := w) (base := base) T) (law_imp law_true)⟩
end K25
open PySem PySem.W PyProof.Rows
set_option maxHeartbeats 0 in
theorem PySem.Challenge.cw_everybrought_k25_whole_marks_of_rows_holds : PySem.Challenge.rw_everybrought_k25_whole_marks_of_rows.Holds := by
  w_on; o_law; k_head; (case hw => w_witness2)
  k_fill
  refine L2.walk_of (l := PySem.Challenge.rw_everybrought_k25_whole_marks_of_rows) (n := 63) (k := 9) (x := "script") (CX := fun w => L2.CX PySem.Challenge.rw_everybrought_k25_whole_marks_of_rows.prog w) (sp := fun w => BV.spLaw _ 63) rfl (by decide) rfl ⟨rfl, by decide, by decide⟩ (fun w h Y => PySem.W.kIn_of Y) ?F (fun _ _ a ns hl _ hS => ⟨a, ns, rfl, hS, hl, fun _ => rfl⟩) (fun _ _ _ _ _ h => BV.cx_no h)
  case F =>
    intro w mg fa h KX G hmg
    refine' K25.all_mk KX G hmg ?a0 ?l0 ?c0 ?k0 ?a1 ?l1 ?c1 ?k1 ?a2 ?l2 ?c2 ?k2 ?a3 ?l3 ?c3 ?k3 ?a4 ?l4 ?c4 ?k4 ?a5 ?l5 ?c5 ?k5 ?a6 ?l6 ?c6 ?k6 ?a7 ?l7 ?c7 ?k7 ?a8 ?l8 ?c8 ?k8 ?a9 ?l9 ?c9 ?k9 ?a10 ?l10 ?c10 ?k10 ?a11 ?l11 ?c11 ?k11 ?a12 ?l12 ?c12 ?k12 ?a13 ?l13 ?c13 ?k13 ?a14 ?l14 ?c14 ?k14 ?a15 ?l15 ?c15 ?k15 ?a16 ?l16 ?c16 ?k16 ?a17 ?l17 ?c17 ?k17 ?a18 ?l18 ?c18 ?k18 ?a19 ?l19 ?c19 ?k19 ?a20 ?l20 ?c20 ?k20 ?a21 ?l21 ?c21 ?k21 ?a22 ?l22 ?c22 ?k22 ?z_all ?z_bool ?z_int ?z_isinstance ?z_len ?z_list ?z_range ?z_str ?z_tuple ?z_zip ?v_BYTE ?v_MARK_BEGIN ?v_MARK_PRIME ?v_MARK_STEP ?v_MOST_BYTES ?g_NoNumber ?e_NoNumber ?t_NoNumber ?g_NoRow ?e_NoRow ?t_NoRow ?x_NoNumber ?kk_NoNumber ?x_NoRow ?kk_NoRow ?i_NoNumber ?s_NoNumber_NoNumber ?s_NoRow_NoNumber ?i_NoRow ?s_NoNumber_NoRow ?s_NoRow_NoRow
    (case a0 => k_is); (case l0 => k_is); (case c0 => k_is); (case k0 => k_is); (case a1 => k_is); (case l1 => k_is); (case c1 => k_is); (case k1 => k_is); (case a2 => k_is); (case l2 => k_is); (case c2 => k_is); (case k2 => k_is); (case a3 => k_is); (case l3 => k_is); (case c3 => k_is); (case k3 => k_is); (case a4 => k_is); (case l4 => k_is); (case c4 => k_is); (case k4 => k_is); (case a5 => k_is); (case l5 => k_is); (case c5 => k_is); (case k5 => k_is); (case a6 => k_is); (case l6 => k_is); (case c6 => k_is); (case k6 => k_is); (case a7 => k_is); (case l7 => k_is); (case c7 => k_is); (case k7 => k_is); (case a8 => k_is); (case l8 => k_is); (case c8 => k_is); (case k8 => k_is); (case a9 => k_is); (case l9 => k_is); (case c9 => k_is); (case k9 => k_is); (case a10 => k_is); (case l10 => k_is); (case c10 => k_is); (case k10 => k_is); (case a11 => k_is); (case l11 => k_is); (case c11 => k_is); (case k11 => k_is); (case a12 => k_is); (case l12 => k_is); (case c12 => k_is); (case k12 => k_is); (case a13 => k_is); (case l13 => k_is); (case c13 => k_is); (case k13 => k_is); (case a14 => k_is); (case l14 => k_is); (case c14 => k_is); (case k14 => k_is); (case a15 => k_is); (case l15 => k_is); (case c15 => k_is); (case k15 => k_is); (case a16 => k_is); (case l16 => k_is); (case c16 => k_is); (case k16 => k_is); (case a17 => k_is); (case l17 => k_is); (case c17 => k_is); (case k17 => k_is); (case a18 => k_is); (case l18 => k_is); (case c18 => k_is); (case k18 => k_is); (case a19 => k_is); (case l19 => k_is); (case c19 => k_is); (case k19 => k_is); (case a20 => k_is); (case l20 => k_is); (case c20 => k_is); (case k20 => k_is); (case a21 => k_is); (case l21 => k_is); (case c21 => k_is); (case k21 => k_is); (case a22 => k_is); (case l22 => k_is); (case c22 => k_is); (case k22 => k_is); (case z_all => k_is); (case z_bool => k_is); (case z_int => k_is); (case z_isinstance => k_is); (case z_len => k_is); (case z_list => k_is); (case z_range => k_is); (case z_str => k_is); (case z_tuple => k_is); (case z_zip => k_is); (case v_BYTE => k_is); (case v_MARK_BEGIN => k_is); (case v_MARK_PRIME => k_is); (case v_MARK_STEP => k_is); (case v_MOST_BYTES => k_is); (case g_NoNumber => k_is); (case e_NoNumber => k_is); (case t_NoNumber => k_is); (case g_NoRow => k_is); (case e_NoRow => k_is); (case t_NoRow => k_is); (case x_NoNumber => first | k_exc | k_is); (case kk_NoNumber => k_is); (case x_NoRow => first | k_exc | k_is); (case kk_NoRow => k_is); (case i_NoNumber => k_is); (case s_NoNumber_NoNumber => k_is); (case s_NoRow_NoNumber => k_is); (case i_NoRow => k_is); (case s_NoNumber_NoRow => k_is); (case s_NoRow_NoRow => k_is)
