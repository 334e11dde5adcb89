import PyProof.Rows.All
import Wide.All
import OpenK.AllK
import Wide.FinOn
import HandS.ForMost
import HandS.Exc
import HandS.ExcOwn
import HandS.WordsExc
import HandS.TryMany
import HandS.IsInst
import HandS.TupMul
import HandS.TupAny
import HandS.Style
import HandS.Walk
import HandS.Zip
import HandS.Dict
import HandS.ExcInit
import HandS.ExcField
import PySem.Challenge.RW_everybrought_k26_whole_changes_of_rows
set_option Elab.async false
set_option linter.all false
set_option maxRecDepth 100000
set_option maxHeartbeats 2000000
/-! BV: values of a program as plain data; what stands in the heap for them; steps of the heap. -/
namespace BV
open PySem PySem.Spec PyProof.Rows L2

/-- a value as plain data -/
inductive W where
  | non | bl (b : Bool) | int (i : Int) | str (x : Str) | tup (ws : List W) | lst (ws : List W) | fz (ws : List W) | dct (kvs : List (W × W)) | ins (c : Nat) (fs : List (Str × W)) | exc (a : Addr) (d : Option Addr) (fs : List (Str × W))
/-- a slot: no value | data that never changes | an object that is the slot's own -/
inductive Sl where
  | no | dat (w : W) | own (w : W)
abbrev Ev := List Sl
/-- an exception: its class, its fields -/
structure Exc where
  c : Nat
  fs : List (Str × W)

def kW : Key → W
  | .inl i => .int i
  | .inr x => .str x

section
variable (K : PySem.W.Frag) (ci : Nat → Addr) (G : Hp)
mutual
/-- v is w, by what stands for ever in G -/
inductive RepV : V → W → Prop
  | non : RepV .non .non
  | bl (b : Bool) : RepV (.bl b) (.bl b)
  | int (i : Int) : RepV (.int i) (.int i)
  | str (x : Str) : RepV (.str x) (.str x)
  | tup {a : Addr} {vs : List V} {ws : List W} (h : SqT K G a vs) (r : RepVs vs ws) : RepV (.ref a) (.tup ws)
  | lst {a : Addr} {vs : List V} {ws : List W} (h : G a = some (.lst vs)) (r : RepVs vs ws) : RepV (.ref a) (.lst ws)
  /-- a list that is read only -/
  | fz {a : Addr} {vs : List V} {ws : List W} (h : SqL K G a vs) (r : RepVs vs ws) : RepV (.ref a) (.fz ws)
  | dK {a : Addr} {kvs : List (Key × V)} {ws : List (W × W)} (h : G a = some (.dK kvs)) (r : RepKs kvs ws) : RepV (.ref a) (.dct ws)
  | dT {a : Addr} {kvs : List (List Key × V)} {ws : List (W × W)} (h : G a = some (.dT kvs)) (r : RepTs kvs ws) : RepV (.ref a) (.dct ws)
  | ins {a dx : Addr} {c : Nat} {fs : List (Str × V)} {ws : List (Str × W)} (h : G a = some (.ins (ci c) dx fs)) (r : RepFs fs ws) : RepV (.ref a) (.ins c ws)
  /-- an exception that an except clause holds, at a; its fields in d -/
  | exc {a : Addr} {d : Option Addr} {fs : List (Str × V)} {ws : List (Str × W)} (h : ∀ dd, d = some dd → G dd = some (.xd fs)) (r : RepFs fs ws) : RepV (.ref a) (.exc a d ws)
inductive RepVs : List V → List W → Prop
  | nil : RepVs [] []
  | cons {v : V} {w : W} {vs : List V} {ws : List W} (h : RepV v w) (r : RepVs vs ws) : RepVs (v :: vs) (w :: ws)
inductive RepKs : List (Key × V) → List (W × W) → Prop
  | nil : RepKs [] []
  | cons {k : Key} {v : V} {w : W} {vs : List (Key × V)} {ws : List (W × W)} (h : RepV v w) (r : RepKs vs ws) : RepKs ((k, v) :: vs) ((kW k, w) :: ws)
inductive RepTs : List (List Key × V) → List (W × W) → Prop
  | nil : RepTs [] []
  | cons {k : List Key} {v : V} {w : W} {vs : List (List Key × V)} {ws : List (W × W)} (h : RepV v w) (r : RepTs vs ws) : RepTs ((k, v) :: vs) ((.tup (k.map kW), w) :: ws)
inductive RepFs : List (Str × V) → List (Str × W) → Prop
  | nil : RepFs [] []
  | cons {f : Str} {v : V} {w : W} {vs : List (Str × V)} {ws : List (Str × W)} (h : RepV v w) (r : RepFs vs ws) : RepFs ((f, v) :: vs) ((f, w) :: ws)
end
/-- the object at a, as it is in H, is w; its parts by G -/
inductive RepO (H : Hp) (a : Addr) : W → Prop
  | lst {vs : List V} {ws : List W} (h : H a = some (.lst vs)) (r : RepVs K ci G vs ws) : RepO H a (.lst ws)
  | dK {kvs : List (Key × V)} {ws : List (W × W)} (h : H a = some (.dK kvs)) (r : RepKs K ci G kvs ws) : RepO H a (.dct ws)
  | dT {kvs : List (List Key × V)} {ws : List (W × W)} (h : H a = some (.dT kvs)) (r : RepTs K ci G kvs ws) : RepO H a (.dct ws)
  | ins {dx : Addr} {c : Nat} {fs : List (Str × V)} {ws : List (Str × W)} (h : H a = some (.ins (ci c) dx fs)) (r : RepFs K ci G fs ws) : RepO H a (.ins c ws)
end

section
variable {K : PySem.W.Frag} {ci : Nat → Addr} {G G' H H' : Hp}
theorem sqT_mono (e : Same G G') {a : Addr} {xs : List V} (h : SqT K G a xs) : SqT K G' a xs := by
  rcases h with (h | ⟨o, h⟩) | h
  · exact .inl (.inl (e _ _ h))
  · exact .inl (.inr ⟨o, e _ _ h⟩)
  · exact .inr h
theorem rd_mono (e : Same G G') {a : Addr} {u : HO} (h : Rd G a u) : Rd G' a u := by
  rcases h with h | ⟨o, h⟩
  · exact .inl (e _ _ h)
  · exact .inr ⟨o, e _ _ h⟩
mutual
theorem RepV.mono (e : Same G G') : ∀ {v : V} {w : W}, RepV K ci G v w → RepV K ci G' v w
  | _, _, .non => .non
  | _, _, .bl b => .bl b
  | _, _, .int i => .int i
  | _, _, .str x => .str x
  | _, _, .tup h r => .tup (sqT_mono e h) (RepVs.mono e r)
  | _, _, .lst h r => .lst (e _ _ h) (RepVs.mono e r)
  | _, _, .fz h r => .fz (e.seq h) (RepVs.mono e r)
  | _, _, .dK h r => .dK (e _ _ h) (RepKs.mono e r)
  | _, _, .dT h r => .dT (e _ _ h) (RepTs.mono e r)
  | _, _, .ins h r => .ins (e _ _ h) (RepFs.mono e r)
  | _, _, .exc h r => .exc (fun dd q => e _ _ (h dd q)) (RepFs.mono e r)
theorem RepVs.mono (e : Same G G') : ∀ {v : List V} {w : List W}, RepVs K ci G v w → RepVs K ci G' v w
  | _, _, .nil => .nil
  | _, _, .cons h r => .cons (RepV.mono e h) (RepVs.mono e r)
theorem RepKs.mono (e : Same G G') : ∀ {v : List (Key × V)} {w : List (W × W)}, RepKs K ci G v w → RepKs K ci G' v w
  | _, _, .nil => .nil
  | _, _, .cons h r => .cons (RepV.mono e h) (RepKs.mono e r)
theorem RepTs.mono (e : Same G G') : ∀ {v : List (List Key × V)} {w : List (W × W)}, RepTs K ci G v w → RepTs K ci G' v w
  | _, _, .nil => .nil
  | _, _, .cons h r => .cons (RepV.mono e h) (RepTs.mono e r)
theorem RepFs.mono (e : Same G G') : ∀ {v : List (Str × V)} {w : List (Str × W)}, RepFs K ci G v w → RepFs K ci G' v w
  | _, _, .nil => .nil
  | _, _, .cons h r => .cons (RepV.mono e h) (RepFs.mono e r)
end
theorem RepO.mono {a : Addr} {w : W} (e : Same G G') (h : RepO K ci G H a w) (k : ∀ o, H a = some o → H' a = some o) : RepO K ci G' H' a w := by
  cases h with
  | lst h r => exact .lst (k _ h) (r.mono e)
  | dK h r => exact .dK (k _ h) (r.mono e)
  | dT h r => exact .dT (k _ h) (r.mono e)
  | ins h r => exact .ins (k _ h) (r.mono e)
theorem RepO.has {a : Addr} {w : W} (h : RepO K ci G H a w) : ∃ o, H a = some o := by
  cases h with
  | lst h r => exact ⟨_, h⟩
  | dK h r => exact ⟨_, h⟩
  | dT h r => exact ⟨_, h⟩
  | ins h r => exact ⟨_, h⟩
theorem RepO.ne {a : Addr} {w : W} (h : RepO K ci G H a w) : H a ≠ none := by
  obtain ⟨o, e⟩ := h.has
  rw [e]
  exact fun z => nomatch z
theorem same_new {p : Addr} {o : HO} (h : G p = none) : Same G (upd G p o) := fun b u e => by
  rw [upd_ne (ne_of_none e h)]
  exact e
/-- what is frozen stands in G from then on -/
theorem RepO.freeze {a : Addr} {w : W} (h : RepO K ci G H a w) (n : G a = none) (s : Same G H) : ∃ o, H a = some o ∧ Same G (upd G a o) ∧ Same (upd G a o) H ∧ RepV K ci (upd G a o) (.ref a) w := by
  obtain ⟨o, e⟩ := h.has
  have s1 : Same G (upd G a o) := same_new n
  refine ⟨o, e, s1, fun b u q => ?_, ?_⟩
  · by_cases hb : b = a
    · subst hb
      rw [upd_same] at q
      cases q
      exact e
    · rw [upd_ne hb] at q
      exact s b u q
  · cases h with
    | lst h r =>
      rw [e] at h; cases h
      exact .lst upd_same (r.mono s1)
    | dK h r =>
      rw [e] at h; cases h
      exact .dK upd_same (r.mono s1)
    | dT h r =>
      rw [e] at h; cases h
      exact .dT upd_same (r.mono s1)
    | ins h r =>
      rw [e] at h; cases h
      exact .ins upd_same (r.mono s1)
theorem RepVs.length : ∀ {v : List V} {w : List W}, RepVs K ci G v w → v.length = w.length
  | _, _, .nil => rfl
  | _, _, .cons _ r => congrArg (· + 1) (RepVs.length r)
theorem RepVs.get : ∀ {v : List V} {w : List W} {i : Nat} {x : V}, RepVs K ci G v w → v[i]? = some x → ∃ y, w[i]? = some y ∧ RepV K ci G x y
  | _, _, _, _, .nil, e => by simp at e
  | _, _, 0, _, .cons h _, e => by simp at e; subst e; exact ⟨_, rfl, h⟩
  | _, _, i + 1, _, .cons _ r, e => by
    obtain ⟨y, h1, h2⟩ := RepVs.get (i := i) r (by simpa using e)
    exact ⟨y, by simpa using h1, h2⟩
theorem RepVs.get' : ∀ {v : List V} {w : List W} {i : Nat} {y : W}, RepVs K ci G v w → w[i]? = some y → ∃ x, v[i]? = some x ∧ RepV K ci G x y
  | _, _, _, _, .nil, e => by simp at e
  | _, _, 0, _, .cons h _, e => by simp at e; subst e; exact ⟨_, rfl, h⟩
  | _, _, i + 1, _, .cons _ r, e => by
    obtain ⟨y, h1, h2⟩ := RepVs.get' (i := i) r (by simpa using e)
    exact ⟨y, by simpa using h1, h2⟩
theorem RepVs.append : ∀ {v v' : List V} {w w' : List W}, RepVs K ci G v w → RepVs K ci G v' w' → RepVs K ci G (v ++ v') (w ++ w')
  | _, _, _, _, .nil, s => s
  | _, _, _, _, .cons h r, s => .cons h (RepVs.append r s)
theorem RepVs.take : ∀ {v : List V} {w : List W} (n : Nat), RepVs K ci G v w → RepVs K ci G (v.take n) (w.take n)
  | _, _, 0, _ => .nil
  | _, _, _ + 1, .nil => .nil
  | _, _, n + 1, .cons h r => .cons h (RepVs.take n r)
theorem RepVs.drop : ∀ {v : List V} {w : List W} (n : Nat), RepVs K ci G v w → RepVs K ci G (v.drop n) (w.drop n)
  | _, _, 0, r => r
  | _, _, _ + 1, .nil => .nil
  | _, _, n + 1, .cons _ r => RepVs.drop n r
theorem RepVs.set {x : V} {y : W} (q : RepV K ci G x y) : ∀ {v : List V} {w : List W} (i : Nat), RepVs K ci G v w → RepVs K ci G (v.set i x) (w.set i y)
  | _, _, _, .nil => .nil
  | _, _, 0, .cons _ r => .cons q r
  | _, _, i + 1, .cons h r => .cons h (RepVs.set q i r)
theorem RepVs.rev : ∀ {v : List V} {w : List W}, RepVs K ci G v w → RepVs K ci G v.reverse w.reverse
  | _, _, .nil => .nil
  | _, _, .cons h r => by
    rw [List.reverse_cons, List.reverse_cons]
    exact (RepVs.rev r).append (.cons h .nil)
theorem RepFs.look {f : Str} : ∀ {v : List (Str × V)} {w : List (Str × W)} {y : W}, RepFs K ci G v w → w.lookup f = some y → ∃ x, v.lookup f = some x ∧ RepV K ci G x y
  | _, _, _, .nil, e => by cases e
  | _, _, y, .cons (f := g) h r, e => by
    rw [List.lookup_cons] at e ⊢
    cases q : f == g with
    | true =>
      rw [q] at e
      cases e
      exact ⟨_, rfl, h⟩
    | false =>
      rw [q] at e
      exact RepFs.look r e
theorem RepFs.look0 {f : Str} : ∀ {v : List (Str × V)} {w : List (Str × W)}, RepFs K ci G v w → w.lookup f = none → v.lookup f = none
  | _, _, .nil, _ => rfl
  | _, _, .cons (f := g) h r, e => by
    rw [List.lookup_cons] at e ⊢
    cases q : f == g with
    | true => rw [q] at e; cases e
    | false =>
      rw [q] at e
      exact RepFs.look0 r e
end

/-! ### slots -/
def OwnAt (env : Ev) (σ : L2.St) (i : Nat) (a : Addr) : Prop := (∃ w, env[i]? = some (.own w)) ∧ σ[i]? = some (some (.ref a))
structure StR (K : PySem.W.Frag) (ci : Nat → Addr) (G : Hp) (env : Ev) (σ : L2.St) (H : Hp) : Prop where
  sub : Same G H
  len : env.length = σ.length
  dat : ∀ (i : Nat) (w : W), env[i]? = some (.dat w) → ∃ v, σ[i]? = some (some v) ∧ RepV K ci G v w
  own : ∀ (i : Nat) (w : W), env[i]? = some (.own w) → ∃ a, σ[i]? = some (some (.ref a)) ∧ G a = none ∧ RepO K ci G H a w
  inj : ∀ (i j : Nat) (a : Addr), OwnAt env σ i a → OwnAt env σ j a → i = j
structure Step (BS : List Nat) (env : Ev) (σ : L2.St) (G H : Hp) (env' : Ev) (σ' : L2.St) (G' H' : Hp) : Prop where
  sub : Same G G'
  keep : ∀ a o, H a = some o → (∀ i, ¬ OwnAt env σ i a) → H' a = some o
  pers : ∀ a, H a ≠ none → G a = none → (∀ i, ¬ OwnAt env σ i a) → G' a = none
  here : ∀ a, H a ≠ none → H' a ≠ none
  new : ∀ i a, OwnAt env' σ' i a → (i ∈ BS ∧ OwnAt env σ i a) ∨ (i ∉ BS ∧ (H a = none ∨ ∃ j, j ∉ BS ∧ OwnAt env σ j a))
  bs : ∀ i ∈ BS, σ'[i]? = σ[i]? ∧ ((∃ w, env[i]? = some (.own w)) → ∃ w, env'[i]? = some (.own w))
section
variable {K : PySem.W.Frag} {ci : Nat → Addr} {BS : List Nat} {env env1 env' : Ev} {σ σ1 σ' : L2.St} {G G1 G' H H1 H' : Hp} {v : V} {w : W}
theorem Step.refl : Step BS env σ G H env σ G H :=
  ⟨Same.refl _, fun _ _ h _ => h, fun _ _ h _ => h, fun _ h => h, fun i a h => by
    by_cases hi : i ∈ BS
    · exact .inl ⟨hi, h⟩
    · exact .inr ⟨hi, .inr ⟨i, hi, h⟩⟩, fun _ _ => ⟨rfl, fun h => h⟩⟩
theorem Step.notOwn (s : Step BS env σ G H env1 σ1 G1 H1) {a : Addr} (h : H a ≠ none) (n : ∀ i, ¬ OwnAt env σ i a) : ∀ i, ¬ OwnAt env1 σ1 i a := fun i o => by
  rcases s.new i a o with ⟨_, q⟩ | ⟨_, q | ⟨j, _, q⟩⟩
  · exact n i q
  · exact h q
  · exact n j q
theorem Step.trans (s : Step BS env σ G H env1 σ1 G1 H1) (t : Step BS env1 σ1 G1 H1 env' σ' G' H') : Step BS env σ G H env' σ' G' H' where
  sub := s.sub.trans t.sub
  keep := fun a o h n => t.keep a o (s.keep a o h n) (s.notOwn (by rw [h]; exact fun z => nomatch z) n)
  pers := fun a h g n => t.pers a (s.here a h) (s.pers a h g n) (s.notOwn h n)
  here := fun a h => t.here a (s.here a h)
  new := fun i a h => by
    have back : ∀ j, j ∉ BS → OwnAt env1 σ1 j a → (H a = none ∨ ∃ j, j ∉ BS ∧ OwnAt env σ j a) := fun j hj o => by
      rcases s.new j a o with ⟨z, _⟩ | ⟨_, q⟩
      · exact absurd z hj
      · exact q
    rcases t.new i a h with ⟨hi, q⟩ | ⟨hi, q | ⟨j, hj, q⟩⟩
    · rcases s.new i a q with ⟨_, q⟩ | ⟨z, _⟩
      · exact .inl ⟨hi, q⟩
      · exact absurd hi z
    · refine .inr ⟨hi, .inl ?_⟩
      cases e : H a with
      | none => rfl
      | some o => exact absurd q (s.here a (by rw [e]; exact fun z => nomatch z))
    · exact .inr ⟨hi, back j hj q⟩
  bs := fun i hi => ⟨(t.bs i hi).1.trans (s.bs i hi).1, fun z => (t.bs i hi).2 ((s.bs i hi).2 z)⟩
theorem StR.ownAt (r : StR K ci G env σ H) {i : Nat} {a : Addr} (h : OwnAt env σ i a) : G a = none ∧ H a ≠ none ∧ ∃ w, env[i]? = some (.own w) ∧ RepO K ci G H a w := by
  obtain ⟨⟨w, e⟩, q⟩ := h
  obtain ⟨b, q1, q2, q3⟩ := r.own i w e
  rw [q] at q1
  have eb : a = b := by
    have z := Option.some.inj (Option.some.inj q1)
    exact V.ref.inj z
  subst eb
  exact ⟨q2, q3.ne, w, e, q3⟩
/-- nothing of the slots changes; a new object comes, tracked for ever -/
theorem alloc_pers (r : StR K ci G env σ H) {p : Addr} {o : HO} (hp : H p = none) : Step BS env σ G H env σ (upd G p o) (upd H p o) ∧ StR K ci (upd G p o) env σ (upd H p o) := by
  have gp : G p = none := r.sub.free hp
  have s1 : Same G (upd G p o) := same_new gp
  have s2 : Same H (upd H p o) := same_new hp
  have np : ∀ a, H a ≠ none → a ≠ p := fun a h e => by rw [e] at h; exact h hp
  refine ⟨⟨s1, fun a u h _ => s2 _ _ h, fun a h g _ => by rw [upd_ne (np a h)]; exact g, fun a h => by rw [upd_ne (np a h)]; exact h, (Step.refl (G := G) (H := H)).new, fun _ _ => ⟨rfl, fun h => h⟩⟩, ⟨fun b u q => ?_, r.len, fun i w e => ?_, fun i w e => ?_, r.inj⟩⟩
  · by_cases hb : b = p
    · subst hb
      rw [upd_same] at q ⊢
      exact q
    · rw [upd_ne hb] at q ⊢
      exact r.sub _ _ q
  · obtain ⟨v, q1, q2⟩ := r.dat i w e
    exact ⟨v, q1, q2.mono s1⟩
  · obtain ⟨a, q1, q2, q3⟩ := r.own i w e
    have na := np a q3.ne
    exact ⟨a, q1, by rw [upd_ne na]; exact q2, q3.mono s1 fun o h => s2 _ _ h⟩
/-- nothing of the slots changes; a new object comes, not tracked for ever -/
theorem alloc_new (r : StR K ci G env σ H) {p : Addr} {o : HO} (hp : H p = none) : Step BS env σ G H env σ G (upd H p o) ∧ StR K ci G env σ (upd H p o) ∧ G p = none ∧ ∀ i, ¬ OwnAt env σ i p := by
  have gp : G p = none := r.sub.free hp
  have s2 : Same H (upd H p o) := same_new hp
  have np : ∀ a, H a ≠ none → a ≠ p := fun a h e => by rw [e] at h; exact h hp
  refine ⟨⟨Same.refl _, fun a u h _ => s2 _ _ h, fun a h g _ => g, fun a h => by rw [upd_ne (np a h)]; exact h, (Step.refl (G := G) (H := H)).new, fun _ _ => ⟨rfl, fun h => h⟩⟩, ⟨r.sub.trans s2, r.len, r.dat, fun i w e => ?_, r.inj⟩, gp, fun i h => (r.ownAt h).2.1 hp⟩
  obtain ⟨a, q1, q2, q3⟩ := r.own i w e
  exact ⟨a, q1, q2, q3.mono (Same.refl _) fun o h => s2 _ _ h⟩
/-- an object that no slot owns and that G does not know is frozen -/
theorem freeze_new (r : StR K ci G env σ H) {a : Addr} (h : RepO K ci G H a w) (n : G a = none) (no : ∀ i, ¬ OwnAt env σ i a) :
    ∃ G', Same G G' ∧ StR K ci G' env σ H ∧ RepV K ci G' (.ref a) w ∧ (∀ b, b ≠ a → G' b = G b) := by
  obtain ⟨o, eH, s1, s2, rv⟩ := h.freeze n r.sub
  refine ⟨upd G a o, s1, ⟨s2, r.len, fun i w e => ?_, fun i w e => ?_, r.inj⟩, rv, fun b hb => upd_ne hb⟩
  · obtain ⟨v, q1, q2⟩ := r.dat i w e
    exact ⟨v, q1, q2.mono s1⟩
  · obtain ⟨b, q1, q2, q3⟩ := r.own i w e
    have nb : b ≠ a := fun z => no i ⟨⟨w, e⟩, z ▸ q1⟩
    exact ⟨b, q1, by rw [upd_ne nb]; exact q2, q3.mono s1 fun _ h => h⟩
end
end BV

set_option maxRecDepth 100000
set_option maxHeartbeats 2000000
/-! BV: what an expression comes to, as a function of the slots. -/
namespace BV
open PySem PySem.Spec L2

structure Sta where
  env : Ev
  σ : L2.St
  G : Hp
  H : Hp
abbrev Stp (BS : List Nat) (s s' : Sta) : Prop := Step BS s.env s.σ s.G s.H s'.env s'.σ s'.G s'.H
abbrev Ok (K : PySem.W.Frag) (ci : Nat → Addr) (s : Sta) : Prop := StR K ci s.G s.env s.σ s.H

/-- a value that has come: for ever | what slot i holds | a new object -/
inductive OV where
  | v (w : W) | s (i : Nat) | n (w : W)
inductive Res (α : Type) where
  | bad | ok (a : α) (env : Ev) | er (x : Exc) (env : Ev)
def Res.bind {α β : Type} (r : Res α) (k : α → Ev → Res β) : Res β := match r with
  | .bad => .bad
  | .ok a env => k a env
  | .er x env => .er x env
abbrev EF := Ev → Res OV
abbrev TF := Ev → Res Bool
abbrev AF := Ev → Res (List OV)

section
variable (K : PySem.W.Frag) (ci : Nat → Addr)
def RepOV (s : Sta) (v : V) : OV → Prop
  | .v w => RepV K ci s.G v w
  | .s i => s.σ[i]? = some (some v)
  | .n w => ∃ a, v = .ref a ∧ RepO K ci s.G s.H a w ∧ s.G a = none ∧ ∀ i, ¬ OwnAt s.env s.σ i a
/-- a new object was not there at s0 -/
def NewOV (s0 : Sta) (v : V) : OV → Prop
  | .n _ => ∀ a, v = .ref a → s0.H a = none
  | _ => True
def RepX (G H : Hp) (cls : Value) (d : Option Addr) (x : Exc) : Prop :=
  cls = .ref (ci x.c) ∧ ((x.fs = [] ∧ d = none) ∨ ∃ dd fvs, d = some dd ∧ G dd = some (.xd fvs) ∧ RepFs K ci G fvs x.fs)
/-- what is wanted holds of whatever comes -/
def Acc {α : Type} (BS : List Nat) (W : WX) (s : Sta) (C : α → Sta → Prop) : Res α → Prop
  | .bad => False
  | .ok a env' => ∀ G' H', Stp BS s ⟨env', s.σ, G', H'⟩ → Ok K ci ⟨env', s.σ, G', H'⟩ → C a ⟨env', s.σ, G', H'⟩
  | .er x env' => ∀ G' H' cls d, Stp BS s ⟨env', s.σ, G', H'⟩ → Ok K ci ⟨env', s.σ, G', H'⟩ → RepX K ci G' H' cls d x → W cls d s.σ H'
def CE (s0 : Sta) (Q : VK) (ov : OV) (s' : Sta) : Prop := ∀ v, RepOV K ci s' v ov → NewOV s0 v ov → Q v s'.H
def CA (s0 : Sta) (Q : List V → Hp → Prop) (ovs : List OV) (s' : Sta) : Prop := ∀ vs, Paired (RepOV K ci s') vs ovs → Q vs s'.H
def CT (Q : Bool → Hp → Prop) (b : Bool) (s' : Sta) : Prop := Q b s'.H
/-- the value now, at the top of H -/
def CurV (s : Sta) (v : V) (w : W) : Prop := RepV K ci s.G v w ∨ ∃ a, v = .ref a ∧ RepO K ci s.G s.H a w
end
def getOV : OV → Ev → Option W
  | .v w, _ => some w
  | .n w, _ => some w
  | .s i, env => match env[i]? with
    | some (.dat w) => some w
    | some (.own w) => some w
    | _ => none

section
variable {K : PySem.W.Frag} {ci : Nat → Addr} {BS : List Nat} {α β : Type} {W' : WX} {s s0 m : Sta} {C C' : α → Sta → Prop} {v : V} {w : W} {ov : OV}
theorem Acc.imp {r : Res α} (h : Acc K ci BS W' s C r) (f : ∀ a env' G' H', Stp BS s ⟨env', s.σ, G', H'⟩ → Ok K ci ⟨env', s.σ, G', H'⟩ → C a ⟨env', s.σ, G', H'⟩ → C' a ⟨env', s.σ, G', H'⟩) : Acc K ci BS W' s C' r := by
  cases r with
  | bad => exact h
  | ok a env' => exact fun G' H' st ok => f a env' G' H' st ok (h G' H' st ok)
  | er x env' => exact h
theorem Acc.mid {r : Res α} {env1 : Ev} {G1 H1 : Hp} (h : Acc K ci BS W' s C r) (st : Stp BS s ⟨env1, s.σ, G1, H1⟩) : Acc K ci BS W' ⟨env1, s.σ, G1, H1⟩ C r := by
  cases r with
  | bad => exact h
  | ok a env' => exact fun G' H' st' ok => h G' H' (Step.trans st st') ok
  | er x env' => exact fun G' H' cls d st' ok rx => h G' H' cls d (Step.trans st st') ok rx
theorem Acc.bind {r : Res α} {k : α → Ev → Res β} {C : β → Sta → Prop} (h : Acc K ci BS W' s C (r.bind k)) : Acc K ci BS W' s (fun a m => Acc K ci BS W' m C (k a m.env)) r := by
  cases r with
  | bad => exact h
  | ok a env' => exact fun G' H' st ok => Acc.mid h st
  | er x env' => exact h
theorem NewOV.back {env1 : Ev} {σ1 : L2.St} {G1 H1 : Hp} (st : Stp BS s ⟨env1, σ1, G1, H1⟩) (h : NewOV ⟨env1, σ1, G1, H1⟩ v ov) : NewOV s v ov := by
  cases ov with
  | n w =>
    intro a e
    have z := h a e
    cases q : s.H a with
    | none => rfl
    | some o => exact absurd z (st.here a (by rw [q]; exact fun z => nomatch z))
  | v w => trivial
  | s i => trivial
theorem RepOV.step {env1 : Ev} {G1 H1 : Hp} (h : RepOV K ci s v ov) (st : Stp BS s ⟨env1, s.σ, G1, H1⟩) : RepOV K ci ⟨env1, s.σ, G1, H1⟩ v ov := by
  cases ov with
  | v w => exact RepV.mono st.sub h
  | s i => exact h
  | n w =>
    obtain ⟨a, e, r, g, no⟩ := h
    have hn := r.ne
    exact ⟨a, e, r.mono st.sub fun o q => st.keep a o q no, st.pers a hn g no, st.notOwn hn no⟩
theorem reps_step {env1 : Ev} {G1 H1 : Hp} {vs : List V} {ovs : List OV} (h : Paired (RepOV K ci s) vs ovs) (st : Stp BS s ⟨env1, s.σ, G1, H1⟩) : Paired (RepOV K ci ⟨env1, s.σ, G1, H1⟩) vs ovs := by
  induction h with
  | nil => exact .nil
  | cons r _ ih => exact .cons (r.step st) ih
theorem cur_of (ok : Ok K ci s) (h : RepOV K ci s v ov) (g : getOV ov s.env = some w) : CurV K ci s v w := by
  cases ov with
  | v w1 => cases g; exact .inl h
  | n w1 =>
    cases g
    obtain ⟨a, e, r, _⟩ := h
    exact .inr ⟨a, e, r⟩
  | s i =>
    have h' : s.σ[i]? = some (some v) := h
    unfold getOV at g
    cases e : s.env[i]? with
    | none => simp only [e] at g; cases g
    | some sl =>
      simp only [e] at g
      cases sl with
      | no => cases g
      | dat w1 =>
        cases g
        obtain ⟨v', q1, q2⟩ := ok.dat i w e
        rw [h'] at q1
        cases q1
        exact .inl q2
      | own w1 =>
        cases g
        obtain ⟨a, q1, _, q3⟩ := ok.own i w e
        rw [h'] at q1
        cases q1
        exact .inr ⟨a, rfl, q3⟩
/-! what comes back -/
theorem ret_same {Q : VK} (ok : Ok K ci s) (h : Acc K ci BS W' s (CE K ci s Q) (.ok (.v w) s.env)) (r : RepV K ci s.G v w) : Q v s.H := h s.G s.H Step.refl ok v r trivial
theorem ret_tup {Q : VK} (ok : Ok K ci s) {ws : List W} {vs : List V} {p : Addr} (h : Acc K ci BS W' s (CE K ci s Q) (.ok (.v (.tup ws)) s.env)) (r : RepVs K ci s.G vs ws) (hp : s.H p = none) : Q (.ref p) (upd s.H p (.tup vs)) := by
  obtain ⟨st, ok'⟩ := alloc_pers (BS := BS) (o := .tup vs) ok hp
  exact h _ _ st ok' (.ref p) (RepV.tup (.inl (.inl upd_same)) (r.mono st.sub)) trivial
theorem ret_lst {Q : VK} (ok : Ok K ci s) {ws : List W} {vs : List V} {p : Addr} (h : Acc K ci BS W' s (CE K ci s Q) (.ok (.n (.lst ws)) s.env)) (r : RepVs K ci s.G vs ws) (hp : s.H p = none) : Q (.ref p) (upd s.H p (.lst vs)) := by
  obtain ⟨st, ok', gp, no⟩ := alloc_new (BS := BS) (o := .lst vs) ok hp
  exact h _ _ st ok' (.ref p) ⟨p, rfl, .lst upd_same r, gp, no⟩ fun a e => by cases e; exact hp
/-! values by their form -/
theorem CurV.non (h : CurV K ci s v .non) : v = .non := by
  rcases h with h | ⟨a, _, h⟩
  · cases h; rfl
  · cases h
theorem CurV.bl {b : Bool} (h : CurV K ci s v (.bl b)) : v = .bl b := by
  rcases h with h | ⟨a, _, h⟩
  · cases h; rfl
  · cases h
theorem CurV.int {i : Int} (h : CurV K ci s v (.int i)) : v = .int i := by
  rcases h with h | ⟨a, _, h⟩
  · cases h; rfl
  · cases h
theorem CurV.str {x : Str} (h : CurV K ci s v (.str x)) : v = .str x := by
  rcases h with h | ⟨a, _, h⟩
  · cases h; rfl
  · cases h
theorem CurV.tup {ws : List W} (ok : Ok K ci s) (h : CurV K ci s v (.tup ws)) : ∃ a vs, v = .ref a ∧ SqT K s.H a vs ∧ RepVs K ci s.G vs ws := by
  rcases h with h | ⟨a, _, h⟩
  · cases h with
    | tup h r => exact ⟨_, _, rfl, sqT_mono ok.sub h, r⟩
  · cases h
theorem CurV.lst {ws : List W} (ok : Ok K ci s) (h : CurV K ci s v (.lst ws)) : ∃ a vs, v = .ref a ∧ s.H a = some (.lst vs) ∧ RepVs K ci s.G vs ws := by
  rcases h with h | ⟨a, e, h⟩
  · cases h with
    | lst h r => exact ⟨_, _, rfl, ok.sub _ _ h, r⟩
  · cases h with
    | lst h r => exact ⟨a, _, e, h, r⟩
theorem CurV.fz {ws : List W} (ok : Ok K ci s) (h : CurV K ci s v (.fz ws)) : ∃ a vs, v = .ref a ∧ SqL K s.H a vs ∧ RepVs K ci s.G vs ws := by
  rcases h with h | ⟨a, e, h⟩
  · cases h with
    | fz h r => exact ⟨_, _, rfl, ok.sub.seq h, r⟩
  · cases h
end

/-! ### the judgements -/
section
variable (X : Cx) (ci : Nat → Addr) (BS : List Nat)
structure SndE (e : Expr) (f : EF) : Prop where
  ex : ∃ te : WX → TE, (∀ W', Takes X W' → PE X e (te W')) ∧ ∀ (W' : WX) (s : Sta) (Q : VK), Ok X.K ci s → Acc X.K ci BS W' s (CE X.K ci s Q) (f s.env) → te W' s.σ s.H Q
structure SndT (e : Expr) (f : TF) : Prop where
  ex : ∃ te : WX → TT, (∀ W', Takes X W' → PT X e (te W')) ∧ ∀ (W' : WX) (s : Sta) (Q : Bool → Hp → Prop), Ok X.K ci s → Acc X.K ci BS W' s (CT Q) (f s.env) → te W' s.σ s.H Q
structure SndW (e : Expr) (f : TF) : Prop where
  ex : ∃ te : WX → TT, (∀ W', Takes X W' → PW X e (te W')) ∧ ∀ (W' : WX) (s : Sta) (Q : Bool → Hp → Prop), Ok X.K ci s → Acc X.K ci BS W' s (CT Q) (f s.env) → te W' s.σ s.H Q
structure SndA (es : List Expr) (f : AF) : Prop where
  ex : ∃ te : WX → TA, (∀ W', Takes X W' → PA X es (te W')) ∧ ∀ (W' : WX) (s : Sta) (Q : List V → Hp → Prop), Ok X.K ci s → Acc X.K ci BS W' s (CA X.K ci s Q) (f s.env) → te W' s.σ s.H Q
/-- an operator on values -/
def OpS (f : Value → Value → Sem Value) (g : W → W → Option OV) : Prop := ∃ r : R2, OpR X f r ∧ ∀ (W' : WX) (s : Sta) (x y : V) (wx wy : W) (ov : OV) (Q : VK),
  Ok X.K ci s → CurV X.K ci s x wx → CurV X.K ci s y wy → g wx wy = some ov → Acc X.K ci BS W' s (CE X.K ci s Q) (.ok ov s.env) → r x y s.H Q
/-- a built-in that is called -/
def CallS (f : Value) (g : List W → Option OV) : Prop := ∃ r : List V → Hp → VK → Prop, CallR X f r ∧ ∀ (W' : WX) (s : Sta) (xs : List V) (ws : List W) (ov : OV) (Q : VK),
  Ok X.K ci s → Paired (CurV X.K ci s) xs ws → g ws = some ov → Acc X.K ci BS W' s (CE X.K ci s Q) (.ok ov s.env) → r xs s.H Q
end
def retOV (o : Option OV) (env : Ev) : Res OV := match o with
  | some ov => .ok ov env
  | none => .bad
/-! the functions -/
def fC (w : W) : EF := fun env => .ok (.v w) env
/-- slot i, to be looked at -/
def fV (i : Nat) : EF := fun env => match env[i]? with
  | some (.dat w) => .ok (.v w) env
  | some (.own _) => .ok (.s i) env
  | _ => .bad
/-- slot i, for ever -/
def fZ (i : Nat) : EF := fun env => match env[i]? with
  | some (.dat w) => .ok (.v w) env
  | some (.own w) => .ok (.v w) (env.set i (.dat w))
  | _ => .bad
/-- for ever -/
def fE (f : EF) : EF := fun env => (f env).bind fun ov env => match ov with
  | .v w => .ok (.v w) env
  | .n w => .ok (.v w) env
  | .s _ => .bad
def fOp (g : W → W → Option OV) (fa fb : EF) : EF := fun env => (fa env).bind fun x env => (fb env).bind fun y env =>
  retOV ((getOV x env).bind fun wx => (getOV y env).bind fun wy => g wx wy) env
def fNil : AF := fun env => .ok [] env
def fCons (fa : EF) (fr : AF) : AF := fun env => (fa env).bind fun x env => (fr env).bind fun xs env => .ok (x :: xs) env
def getOVs : List OV → Ev → Option (List W)
  | [], _ => some []
  | o :: os, env => (getOV o env).bind fun w => (getOVs os env).bind fun ws => some (w :: ws)
def fB (g : List W → Option OV) (fa : AF) : EF := fun env => (fa env).bind fun xs env => retOV ((getOVs xs env).bind g) env
/-- a value that is True or False, as a test -/
def asB : W → Option Bool
  | .bl b => some b
  | _ => none
def fTest (f : EF) : TF := fun env => (f env).bind fun ov env => match (getOV ov env).bind asB with
  | some b => .ok b env
  | none => .bad
def fNot (f : TF) : TF := fun env => (f env).bind fun b env => .ok (!b) env
def fAnd (f g : TF) : TF := fun env => (f env).bind fun b env => if b = true then g env else .ok false env
def fOr (f g : TF) : TF := fun env => (f env).bind fun b env => if b = true then .ok true env else g env
def fIf (c : TF) (f g : EF) : EF := fun env => (c env).bind fun b env => if b = true then f env else g env
/-- and, or of truths, as values -/
def fAndV (f g : EF) : EF := fun env => (f env).bind fun ov env => match (getOV ov env).bind asB with
  | some b => if b = true then g env else .ok (.v (.bl false)) env
  | none => .bad
def fOrV (f g : EF) : EF := fun env => (f env).bind fun ov env => match (getOV ov env).bind asB with
  | some b => if b = true then .ok (.v (.bl true)) env else g env
  | none => .bad
def fNotV (f : EF) : EF := fun env => (f env).bind fun ov env => match (getOV ov env).bind asB with
  | some b => .ok (.v (.bl (!b))) env
  | none => .bad
/-- a < b < c -/
def fChain (g g' : W → W → Option OV) (fa fb fc : EF) : EF := fun env => (fa env).bind fun x env => (fb env).bind fun y env =>
  match ((getOV x env).bind fun wx => (getOV y env).bind fun wy => g wx wy) with
  | some (.v (.bl true)) => (fc env).bind fun z env => retOV ((getOV y env).bind fun wy => (getOV z env).bind fun wz => g' wy wz) env
  | some (.v (.bl false)) => .ok (.v (.bl false)) env
  | _ => .bad
def asV : List OV → Option (List W)
  | [] => some []
  | .v w :: os => (asV os).bind fun ws => some (w :: ws)
  | _ :: _ => none
def fTup (f : AF) : EF := fun env => (f env).bind fun xs env => match asV xs with
  | some ws => if ws.length ≤ 16777216 then .ok (.v (.tup ws)) env else .bad
  | none => .bad
def fLst (f : AF) : EF := fun env => (f env).bind fun xs env => match asV xs with
  | some ws => if ws.length ≤ 16777216 then .ok (.n (.lst ws)) env else .bad
  | none => .bad

section
variable {X : Cx} {ci : Nat → Addr} {BS : List Nat} {e a b c : Expr} {es : List Expr} {fa fb fc f : EF} {ta tb : TF} {fr : AF} {pos : Pos}
theorem x_int {i j} : SndE X ci BS (.Constant (.int i) j pos) (fC (.int i)) := ⟨_, fun _ _ => pe_int, fun W' s Q ok h => ret_same ok h (.int i)⟩
theorem x_bl {b j} : SndE X ci BS (.Constant (.bool b) j pos) (fC (.bl b)) := ⟨_, fun _ _ => pe_bl, fun W' s Q ok h => ret_same ok h (.bl b)⟩
theorem x_non {j} : SndE X ci BS (.Constant .none j pos) (fC .non) := ⟨_, fun _ _ => pe_non, fun W' s Q ok h => ret_same ok h .non⟩
theorem x_str {x j} : SndE X ci BS (.Constant (.str x) j pos) (fC (.str x)) := ⟨_, fun _ _ => pe_str, fun W' s Q ok h => ret_same ok h (.str x)⟩
theorem x_var (i : Nat) {x : Str} (hN : X.N[i]? = some x := by rfl) (hv : Vis X.env.scope x := by first | exact Or.inl rfl | exact Or.inr (Or.inl rfl) | exact Or.inr (Or.inr rfl)) (hd : (x == ("__debug__" : Str)) = false := by decide)
    (hcd : (x == ("__classdict__" : Str)) = false := by decide) : SndE X ci BS (.Name x pos) (fV i) := by
  refine ⟨⟨fun _ => tVar i, fun _ _ => pe_var hN hv hd hcd, fun W' s Q ok h => ?_⟩⟩
  unfold fV at h
  cases e : s.env[i]? with
  | none => rw [e] at h; exact h.elim
  | some sl =>
    rw [e] at h
    cases sl with
    | no => exact h.elim
    | dat w =>
      obtain ⟨v, q1, q2⟩ := ok.dat i w e
      exact ⟨v, q1, ret_same ok h q2⟩
    | own w =>
      obtain ⟨a, q1, _, _⟩ := ok.own i w e
      exact ⟨.ref a, q1, h s.G s.H Step.refl ok (.ref a) q1 trivial⟩
theorem x_frz (i : Nat) {x : Str} (hi : i ∉ BS) (hN : X.N[i]? = some x := by rfl) (hv : Vis X.env.scope x := by first | exact Or.inl rfl | exact Or.inr (Or.inl rfl) | exact Or.inr (Or.inr rfl)) (hd : (x == ("__debug__" : Str)) = false := by decide)
    (hcd : (x == ("__classdict__" : Str)) = false := by decide) : SndE X ci BS (.Name x pos) (fZ i) := by
  refine ⟨⟨fun _ => tVar i, fun _ _ => pe_var hN hv hd hcd, fun W' s Q ok h => ?_⟩⟩
  unfold fZ at h
  cases e : s.env[i]? with
  | none => rw [e] at h; exact h.elim
  | some sl =>
    rw [e] at h
    cases sl with
    | no => exact h.elim
    | dat w =>
      obtain ⟨v, q1, q2⟩ := ok.dat i w e
      exact ⟨v, q1, ret_same ok h q2⟩
    | own w =>
      obtain ⟨a, q1, g, ro⟩ := ok.own i w e
      have il : i < s.env.length := (List.getElem?_eq_some_iff.mp e).1
      obtain ⟨o, eo, s1, s2, rv⟩ := ro.freeze g ok.sub
      have nown : ∀ {j : Nat} {w : W}, (s.env.set i (.dat w))[j]? = some (.own w) → True := fun _ => trivial
      have back : ∀ {j : Nat} {sl : Sl}, j ≠ i → ((s.env.set i (.dat w))[j]? = some sl ↔ s.env[j]? = some sl) := fun {j sl} hj => by
        rw [List.getElem?_set_ne (Ne.symm hj)]
      have at_i : (s.env.set i (.dat w))[i]? = some (.dat w) := List.getElem?_set_self il
      have ownB : ∀ {j : Nat} {c : Addr}, OwnAt (s.env.set i (.dat w)) s.σ j c → j ≠ i ∧ OwnAt s.env s.σ j c := fun {j c} ⟨⟨u, eu⟩, q⟩ => by
        have hj : j ≠ i := fun z => by
          subst z
          rw [at_i] at eu
          cases eu
        exact ⟨hj, ⟨u, (back hj).mp eu⟩, q⟩
      have nep : ∀ {j : Nat} {c : Addr}, OwnAt (s.env.set i (.dat w)) s.σ j c → c ≠ a := fun {j c} h z => by
        obtain ⟨hj, q⟩ := ownB h
        subst z
        exact hj (ok.inj _ _ _ q ⟨⟨w, e⟩, q1⟩)
      have ok' : Ok X.K ci ⟨s.env.set i (.dat w), s.σ, upd s.G a o, s.H⟩ := by
        refine ⟨s2, by rw [List.length_set]; exact ok.len, fun j u eu => ?_, fun j u eu => ?_, fun j k c h1 h2 => ok.inj j k c (ownB h1).2 (ownB h2).2⟩
        · by_cases hj : j = i
          · subst hj
            rw [at_i] at eu
            cases eu
            exact ⟨.ref a, q1, rv⟩
          · obtain ⟨v, p1, p2⟩ := ok.dat j u ((back hj).mp eu)
            exact ⟨v, p1, p2.mono s1⟩
        · have hj : j ≠ i := fun z => by
            subst z
            rw [at_i] at eu
            cases eu
          obtain ⟨b, p1, p2, p3⟩ := ok.own j u ((back hj).mp eu)
          have nb : b ≠ a := nep ⟨⟨u, eu⟩, p1⟩
          exact ⟨b, p1, by show upd s.G a o b = none; rw [upd_ne nb]; exact p2, p3.mono s1 fun _ h => h⟩
      refine ⟨.ref a, q1, h (upd s.G a o) s.H ⟨s1, fun _ _ h _ => h, fun c hc gc no => ?_, fun _ h => h, fun j c h => ?_, fun j hj => ⟨rfl, fun z => ?_⟩⟩ ok' (.ref a) rv trivial⟩
      · have nc : c ≠ a := fun z => no i ⟨⟨w, e⟩, by rw [z]; exact q1⟩
        show upd s.G a o c = none
        rw [upd_ne nc]
        exact gc
      · obtain ⟨hj, q⟩ := ownB h
        by_cases hB : j ∈ BS
        · exact .inl ⟨hB, q⟩
        · exact .inr ⟨hB, .inr ⟨j, hB, q⟩⟩
      · obtain ⟨u, eu⟩ := z
        have hj' : j ≠ i := fun z => hi (z ▸ hj)
        exact ⟨u, (back hj').mpr eu⟩
theorem x_esc (ha : SndE X ci BS a fa) : SndE X ci BS a (fE fa) := by
  obtain ⟨ta, pa, qa⟩ := ha.ex
  refine ⟨⟨ta, pa, fun W' s Q ok h => qa W' s Q ok ?_⟩⟩
  unfold fE at h
  cases e : fa s.env with
  | bad => rw [e] at h; exact h
  | er x env' => rw [e] at h; exact h
  | ok ov env' =>
    rw [e] at h
    cases ov with
    | v w => exact h
    | s i => exact h.elim
    | n w =>
      intro G' H' st ok' v rep new
      obtain ⟨p, rfl, ro, gp, no⟩ := rep
      obtain ⟨G2, s1, ok2, rv, same⟩ := freeze_new ok' ro gp no
      refine h G2 H' ⟨st.sub.trans s1, st.keep, fun c hc gc no' => ?_, st.here, st.new, st.bs⟩ ok2 (.ref p) rv trivial
      have hp : s.H p = none := new p rfl
      have nc : c ≠ p := fun z => hc (z ▸ hp)
      show G2 c = none
      rw [same c nc]
      exact st.pers c hc gc no'
/-! ### operators -/
theorem op_core {ta tb : WX → TE} {r : R2} {g : W → W → Option OV} (qa : ∀ (W' : WX) (s : Sta) (Q : VK), Ok X.K ci s → Acc X.K ci BS W' s (CE X.K ci s Q) (fa s.env) → ta W' s.σ s.H Q)
    (qb : ∀ (W' : WX) (s : Sta) (Q : VK), Ok X.K ci s → Acc X.K ci BS W' s (CE X.K ci s Q) (fb s.env) → tb W' s.σ s.H Q)
    (qr : ∀ (W' : WX) (s : Sta) (x y : V) (wx wy : W) (ov : OV) (Q : VK), Ok X.K ci s → CurV X.K ci s x wx → CurV X.K ci s y wy → g wx wy = some ov → Acc X.K ci BS W' s (CE X.K ci s Q) (.ok ov s.env) → r x y s.H Q)
    (W' : WX) (s : Sta) (Q : VK) (ok : Ok X.K ci s) (h : Acc X.K ci BS W' s (CE X.K ci s Q) (fOp g fa fb s.env)) : tOp r (ta W') (tb W') s.σ s.H Q := by
  refine qa W' s _ ok (h.bind.imp fun ox env1 G1 H1 st1 ok1 h1 => ?_)
  intro v rep new
  refine qb W' ⟨env1, s.σ, G1, H1⟩ _ ok1 (h1.bind.imp fun oy env2 G2 H2 st2 ok2 h2 => ?_)
  intro u rep2 new2
  have rep' : RepOV X.K ci ⟨env2, s.σ, G2, H2⟩ v ox := rep.step st2
  cases e1 : getOV ox env2 with
  | none => dsimp only at h2; rw [e1] at h2; exact h2.elim
  | some wx =>
    dsimp only at h2
    rw [e1] at h2
    cases e2 : getOV oy env2 with
    | none => rw [e2] at h2; exact h2.elim
    | some wy =>
      rw [e2] at h2
      cases e3 : g wx wy with
      | none => (have h2' : Acc X.K ci BS W' ⟨env2, s.σ, G2, H2⟩ (CE X.K ci s Q) (retOV (g wx wy) env2) := h2); rw [e3] at h2'; exact h2'.elim
      | some ov =>
        have h2' : Acc X.K ci BS W' ⟨env2, s.σ, G2, H2⟩ (CE X.K ci s Q) (retOV (g wx wy) env2) := h2
        rw [e3] at h2'
        refine qr W' ⟨env2, s.σ, G2, H2⟩ v u wx wy ov Q ok2 (cur_of ok2 rep' e1) (cur_of ok2 rep2 e2) e3 (h2'.imp fun ov env3 G3 H3 st3 ok3 h3 => ?_)
        intro z rz nz
        exact h3 z rz (NewOV.back (st1.trans st2) nz)
theorem x_op {op : Operator} {g : W → W → Option OV} (ho : OpS X ci BS (binaryOp op) g) (ha : SndE X ci BS a fa) (hb : SndE X ci BS b fb) : SndE X ci BS (.BinOp a op b pos) (fOp g fa fb) := by
  obtain ⟨ta, pa, qa⟩ := ha.ex
  obtain ⟨tb, pb, qb⟩ := hb.ex
  obtain ⟨r, pr, qr⟩ := ho
  refine ⟨⟨fun W' => tOp r (ta W') (tb W'), fun W' tk => pe_op pr (pa W' tk) (pb W' tk), fun W' s Q ok h => ?_⟩⟩
  exact op_core qa qb qr W' s Q ok h
theorem x_cmp {op : CmpOp} {g : W → W → Option OV} (ho : OpS X ci BS (compareOp op) g) (ha : SndE X ci BS a fa) (hb : SndE X ci BS b fb) (hm : behindInMarks op b = false) : SndE X ci BS (.Compare a [op] [b] pos) (fOp g fa fb) := by
  obtain ⟨ta, pa, qa⟩ := ha.ex
  obtain ⟨tb, pb, qb⟩ := hb.ex
  obtain ⟨r, pr, qr⟩ := ho
  exact ⟨⟨fun W' => tOp r (ta W') (tb W'), fun W' tk => pe_cmpR pr (pa W' tk) (pb W' tk) hm, fun W' s Q ok h => op_core qa qb qr W' s Q ok h⟩⟩
/-- what comes to a bool, as a test -/
theorem test_core {te : WX → TE} (qa : ∀ (W' : WX) (s : Sta) (Q : VK), Ok X.K ci s → Acc X.K ci BS W' s (CE X.K ci s Q) (f s.env) → te W' s.σ s.H Q)
    (W' : WX) (s : Sta) (Q : Bool → Hp → Prop) (ok : Ok X.K ci s) (h : Acc X.K ci BS W' s (CT Q) (fTest f s.env)) : te W' s.σ s.H fun x H' => ∃ k, x = .bl k ∧ Q k H' := by
  refine qa W' s _ ok (h.bind.imp fun ov env1 G1 H1 st1 ok1 h1 => ?_)
  intro v rep new
  cases e1 : getOV ov env1 with
  | none => dsimp only at h1; rw [e1] at h1; exact h1.elim
  | some w =>
    dsimp only at h1
    rw [e1] at h1
    cases w with
    | bl b => exact ⟨b, (cur_of ok1 rep e1).bl, h1 G1 H1 Step.refl ok1⟩
    | _ => exact h1.elim
theorem t_cmp {op : CmpOp} {g : W → W → Option OV} (ho : OpS X ci BS (compareOp op) g) (ha : SndE X ci BS a fa) (hb : SndE X ci BS b fb) (hm : behindInMarks op b = false) : SndT X ci BS (.Compare a [op] [b] pos) (fTest (fOp g fa fb)) := by
  obtain ⟨ta, pa, qa⟩ := ha.ex
  obtain ⟨tb, pb, qb⟩ := hb.ex
  obtain ⟨r, pr, qr⟩ := ho
  refine ⟨⟨fun W' => tTest (tOp r (ta W') (tb W')), fun W' tk => pt_cmpR pr (pa W' tk) (pb W' tk) hm, fun W' s Q ok h => ?_⟩⟩
  exact test_core (te := fun W' => tOp r (ta W') (tb W')) (fun W' s Q ok h => op_core qa qb qr W' s Q ok h) W' s Q ok h
theorem t_val (ha : SndE X ci BS e f) (he : ∀ whole, isTrue e X.env whole = (do let v ← whole; standAt e.pos; holding [v] (truthy v)) := by intro _; rfl) : SndT X ci BS e (fTest f) := by
  obtain ⟨ta, pa, qa⟩ := ha.ex
  exact ⟨⟨fun W' => tB (ta W'), fun W' tk => pt_val (pa W' tk) he, fun W' s Q ok h => test_core qa W' s Q ok h⟩⟩
theorem t_not (ha : SndT X ci BS a ta) : SndT X ci BS (.UnaryOp .Not a pos) (fNot ta) := by
  obtain ⟨t, p, q⟩ := ha.ex
  refine ⟨⟨fun W' => tNot (t W'), fun W' tk => pt_not (p W' tk), fun W' s Q ok h => ?_⟩⟩
  exact q W' s _ ok (h.bind.imp fun b env1 G1 H1 st1 ok1 h1 => h1 G1 H1 Step.refl ok1)
theorem w_and1 (ha : SndT X ci BS a ta) : SndW X ci BS (.BoolOp .And [a] pos) ta := by
  obtain ⟨t, p, q⟩ := ha.ex
  exact ⟨⟨t, fun W' tk => pw_and1 (p W' tk), q⟩⟩
theorem w_or1 (ha : SndT X ci BS a ta) : SndW X ci BS (.BoolOp .Or [a] pos) ta := by
  obtain ⟨t, p, q⟩ := ha.ex
  exact ⟨⟨t, fun W' tk => pw_or1 (p W' tk), q⟩⟩
theorem w_and (ha : SndT X ci BS a ta) (hb : SndW X ci BS (.BoolOp .And (b :: es) pos) tb) : SndW X ci BS (.BoolOp .And (a :: b :: es) pos) (fAnd ta tb) := by
  obtain ⟨t, p, q⟩ := ha.ex
  obtain ⟨t', p', q'⟩ := hb.ex
  refine ⟨⟨fun W' => tAnd (t W') (t' W'), fun W' tk => pw_and (p W' tk) (p' W' tk), fun W' s Q ok h => ?_⟩⟩
  refine q W' s _ ok (h.bind.imp fun c env1 G1 H1 st1 ok1 h1 => ?_)
  cases c with
  | true => exact q' W' _ Q ok1 h1
  | false => exact h1 G1 H1 Step.refl ok1
theorem w_or (ha : SndT X ci BS a ta) (hb : SndW X ci BS (.BoolOp .Or (b :: es) pos) tb) : SndW X ci BS (.BoolOp .Or (a :: b :: es) pos) (fOr ta tb) := by
  obtain ⟨t, p, q⟩ := ha.ex
  obtain ⟨t', p', q'⟩ := hb.ex
  refine ⟨⟨fun W' => tOr (t W') (t' W'), fun W' tk => pw_or (p W' tk) (p' W' tk), fun W' s Q ok h => ?_⟩⟩
  refine q W' s _ ok (h.bind.imp fun c env1 G1 H1 st1 ok1 h1 => ?_)
  cases c with
  | false => exact q' W' _ Q ok1 h1
  | true => exact h1 G1 H1 Step.refl ok1
theorem t_w (ha : SndW X ci BS a ta) : SndT X ci BS a ta := by
  obtain ⟨t, p, q⟩ := ha.ex
  exact ⟨⟨t, fun W' tk => (p W' tk).pt, q⟩⟩
/-! as values -/
theorem x_one {op} (ha : SndE X ci BS a fa) : SndE X ci BS (.BoolOp op [a] pos) fa := by
  obtain ⟨t, p, q⟩ := ha.ex
  exact ⟨⟨t, fun W' tk => pe_one (p W' tk), q⟩⟩
theorem boolv_core {ta : WX → TE} (qa : ∀ (W' : WX) (s : Sta) (Q : VK), Ok X.K ci s → Acc X.K ci BS W' s (CE X.K ci s Q) (fa s.env) → ta W' s.σ s.H Q)
    (W' : WX) (s : Sta) (Q : VK) (R : Bool → Hp → Prop) (k : Bool → Ev → Res OV) (ok : Ok X.K ci s)
    (h : Acc X.K ci BS W' s (CE X.K ci s Q) ((fa s.env).bind fun ov env => match (getOV ov env).bind asB with | some b => k b env | none => .bad))
    (hk : ∀ (b : Bool) env1 G1 H1, Stp BS s ⟨env1, s.σ, G1, H1⟩ → Ok X.K ci ⟨env1, s.σ, G1, H1⟩ → Acc X.K ci BS W' ⟨env1, s.σ, G1, H1⟩ (CE X.K ci ⟨env1, s.σ, G1, H1⟩ Q) (k b env1) → R b H1) :
    ta W' s.σ s.H fun x H' => ∃ c, x = .bl c ∧ R c H' := by
  refine qa W' s _ ok (h.bind.imp fun ov env1 G1 H1 st1 ok1 h1 => ?_)
  intro v rep new
  cases e1 : getOV ov env1 with
  | none => dsimp only at h1; rw [e1] at h1; exact h1.elim
  | some w =>
    dsimp only at h1
    rw [e1] at h1
    cases w with
    | bl b =>
      refine ⟨b, (cur_of ok1 rep e1).bl, hk b env1 G1 H1 st1 ok1 ?_⟩
      have h2 : Acc X.K ci BS W' ⟨env1, s.σ, G1, H1⟩ (CE X.K ci s Q) (k b env1) := h1
      exact h2.imp fun ov' env2 G2 H2 st2 ok2 h3 z rz nz => h3 z rz (NewOV.back st1 nz)
    | _ => exact h1.elim
theorem x_and (ha : SndE X ci BS a fa) (hb : SndE X ci BS (.BoolOp .And (b :: es) pos) fb) : SndE X ci BS (.BoolOp .And (a :: b :: es) pos) (fAndV fa fb) := by
  obtain ⟨t, p, q⟩ := ha.ex
  obtain ⟨t', p', q'⟩ := hb.ex
  refine ⟨⟨fun W' => tAndV (t W') (t' W'), fun W' tk => pe_and (p W' tk) (p' W' tk), fun W' s Q ok h => ?_⟩⟩
  refine boolv_core q W' s Q _ (fun b env => if b = true then fb env else .ok (.v (.bl false)) env) ok h fun c env1 G1 H1 st1 ok1 h1 => ?_
  cases c with
  | true => exact q' W' _ Q ok1 h1
  | false => exact ret_same ok1 h1 (.bl false)
theorem x_or (ha : SndE X ci BS a fa) (hb : SndE X ci BS (.BoolOp .Or (b :: es) pos) fb) : SndE X ci BS (.BoolOp .Or (a :: b :: es) pos) (fOrV fa fb) := by
  obtain ⟨t, p, q⟩ := ha.ex
  obtain ⟨t', p', q'⟩ := hb.ex
  refine ⟨⟨fun W' => tOrV (t W') (t' W'), fun W' tk => pe_or (p W' tk) (p' W' tk), fun W' s Q ok h => ?_⟩⟩
  refine boolv_core q W' s Q _ (fun b env => if b = true then .ok (.v (.bl true)) env else fb env) ok h fun c env1 G1 H1 st1 ok1 h1 => ?_
  cases c with
  | false => exact q' W' _ Q ok1 h1
  | true => exact ret_same ok1 h1 (.bl true)
theorem x_not (ha : SndE X ci BS a fa) : SndE X ci BS (.UnaryOp .Not a pos) (fNotV fa) := by
  obtain ⟨t, p, q⟩ := ha.ex
  refine ⟨⟨fun W' => tNotV (t W'), fun W' tk => pe_not (p W' tk), fun W' s Q ok h => ?_⟩⟩
  exact boolv_core q W' s Q _ (fun b env => .ok (.v (.bl (!b))) env) ok h fun c env1 G1 H1 st1 ok1 h1 => ret_same ok1 h1 (.bl _)
theorem x_if (hc : SndT X ci BS c ta) (ha : SndE X ci BS a fa) (hb : SndE X ci BS b fb) : SndE X ci BS (.IfExp c a b pos) (fIf ta fa fb) := by
  obtain ⟨t, p, q⟩ := hc.ex
  obtain ⟨t1, p1, q1⟩ := ha.ex
  obtain ⟨t2, p2, q2⟩ := hb.ex
  refine ⟨⟨fun W' => tIf (t W') (t1 W') (t2 W'), fun W' tk => pe_ifExp (p W' tk) (p1 W' tk) (p2 W' tk), fun W' s Q ok h => ?_⟩⟩
  refine q W' s _ ok (h.bind.imp fun d env1 G1 H1 st1 ok1 h1 => ?_)
  have fin : ∀ {r : Res OV}, Acc X.K ci BS W' ⟨env1, s.σ, G1, H1⟩ (CE X.K ci s Q) r → Acc X.K ci BS W' ⟨env1, s.σ, G1, H1⟩ (CE X.K ci ⟨env1, s.σ, G1, H1⟩ Q) r := fun hr => hr.imp fun ov' env2 G2 H2 st2 ok2 h3 z rz nz => h3 z rz (NewOV.back st1 nz)
  cases d with
  | true => exact q1 W' _ Q ok1 (fin h1)
  | false => exact q2 W' _ Q ok1 (fin h1)
/-! a < b < c -/
theorem chain_core {r r' : R2} {g g' : W → W → Option OV} {t1 t2 t3 : WX → TE} (qa : ∀ (W' : WX) (s : Sta) (Q : VK), Ok X.K ci s → Acc X.K ci BS W' s (CE X.K ci s Q) (fa s.env) → t1 W' s.σ s.H Q)
    (qb : ∀ (W' : WX) (s : Sta) (Q : VK), Ok X.K ci s → Acc X.K ci BS W' s (CE X.K ci s Q) (fb s.env) → t2 W' s.σ s.H Q) (qc : ∀ (W' : WX) (s : Sta) (Q : VK), Ok X.K ci s → Acc X.K ci BS W' s (CE X.K ci s Q) (fc s.env) → t3 W' s.σ s.H Q)
    (qr : ∀ (W' : WX) (s : Sta) (x y : V) (wx wy : W) (ov : OV) (Q : VK), Ok X.K ci s → CurV X.K ci s x wx → CurV X.K ci s y wy → g wx wy = some ov → Acc X.K ci BS W' s (CE X.K ci s Q) (.ok ov s.env) → r x y s.H Q)
    (qr' : ∀ (W' : WX) (s : Sta) (x y : V) (wx wy : W) (ov : OV) (Q : VK), Ok X.K ci s → CurV X.K ci s x wx → CurV X.K ci s y wy → g' wx wy = some ov → Acc X.K ci BS W' s (CE X.K ci s Q) (.ok ov s.env) → r' x y s.H Q)
    (W' : WX) (s : Sta) (Q : VK) (ok : Ok X.K ci s) (h : Acc X.K ci BS W' s (CE X.K ci s Q) (fChain g g' fa fb fc s.env)) : tChain r r' (t1 W') (t2 W') (t3 W') s.σ s.H Q := by
  refine qa W' s _ ok (h.bind.imp fun ox env1 G1 H1 st1 ok1 h1 => ?_)
  intro v rep new
  refine qb W' ⟨env1, s.σ, G1, H1⟩ _ ok1 (h1.bind.imp fun oy env2 G2 H2 st2 ok2 h2 => ?_)
  intro u rep2 new2
  have rep' : RepOV X.K ci ⟨env2, s.σ, G2, H2⟩ v ox := rep.step st2
  have h2 : Acc X.K ci BS W' ⟨env2, s.σ, G2, H2⟩ (CE X.K ci s Q) (match ((getOV ox env2).bind fun wx => (getOV oy env2).bind fun wy => g wx wy) with
    | some (.v (.bl true)) => (fc env2).bind fun z env => retOV ((getOV oy env).bind fun wy => (getOV z env).bind fun wz => g' wy wz) env
    | some (.v (.bl false)) => .ok (.v (.bl false)) env2
    | _ => .bad) := h2
  cases e1 : getOV ox env2 with
  | none => rw [e1] at h2; exact h2.elim
  | some wx =>
    cases e2 : getOV oy env2 with
    | none => rw [e1, e2] at h2; exact h2.elim
    | some wy =>
      rw [e1, e2] at h2
      have h2 : Acc X.K ci BS W' ⟨env2, s.σ, G2, H2⟩ (CE X.K ci s Q) (match g wx wy with
        | some (.v (.bl true)) => (fc env2).bind fun z env => retOV ((getOV oy env).bind fun wy => (getOV z env).bind fun wz => g' wy wz) env
        | some (.v (.bl false)) => .ok (.v (.bl false)) env2
        | _ => .bad) := h2
      cases e3 : g wx wy with
      | none => rw [e3] at h2; exact h2.elim
      | some ov =>
        rw [e3] at h2
        cases ov with
        | s i => exact h2.elim
        | n w => exact h2.elim
        | v w =>
          cases w with
          | bl b =>
            refine qr W' ⟨env2, s.σ, G2, H2⟩ v u wx wy (.v (.bl b)) _ ok2 (cur_of ok2 rep' e1) (cur_of ok2 rep2 e2) e3 fun G3 H3 st3 ok3 z rz nz => ?_
            have ez : z = .bl b := by
              have rz' : RepV X.K ci G3 z (.bl b) := rz
              cases rz'; rfl
            refine ⟨b, ez, ?_⟩
            have h3 := h2.mid st3
            cases b with
            | false =>
              rw [if_neg Bool.false_ne_true]
              exact ret_same (W' := W') (s := ⟨env2, s.σ, G3, H3⟩) ok3 (h3.imp fun ov' env4 G4 H4 st4 ok4 h4 z rz nz => h4 z rz (NewOV.back ((st1.trans st2).trans st3) nz)) (.bl false)
            | true =>
              rw [if_pos rfl]
              refine qc W' ⟨env2, s.σ, G3, H3⟩ _ ok3 ((Acc.bind h3).imp fun oz env4 G4 H4 st4 ok4 h4 => ?_)
              intro q rep4 new4
              have rep5 : RepOV X.K ci ⟨env4, s.σ, G4, H4⟩ u oy := rep2.step (Step.trans st3 st4)
              have h4 : Acc X.K ci BS W' ⟨env4, s.σ, G4, H4⟩ (CE X.K ci s Q) (retOV ((getOV oy env4).bind fun wy => (getOV oz env4).bind fun wz => g' wy wz) env4) := h4
              cases f1 : getOV oy env4 with
              | none => rw [f1] at h4; exact h4.elim
              | some wy' =>
                cases f2 : getOV oz env4 with
                | none => rw [f1, f2] at h4; exact h4.elim
                | some wz =>
                  rw [f1, f2] at h4
                  have h4 : Acc X.K ci BS W' ⟨env4, s.σ, G4, H4⟩ (CE X.K ci s Q) (retOV (g' wy' wz) env4) := h4
                  cases f3 : g' wy' wz with
                  | none => rw [f3] at h4; exact h4.elim
                  | some ov' =>
                    rw [f3] at h4
                    refine qr' W' ⟨env4, s.σ, G4, H4⟩ u q wy' wz ov' Q ok4 (cur_of ok4 rep5 f1) (cur_of ok4 rep4 f2) f3 (h4.imp fun ov env5 G5 H5 st5 ok5 h5 => ?_)
                    intro z rz nz
                    exact h5 z rz (NewOV.back ((((st1.trans st2).trans st3).trans st4)) nz)
          | _ => exact h2.elim
theorem x_chain {op op' : CmpOp} {g g' : W → W → Option OV} (ho : OpS X ci BS (compareOp op) g) (ho' : OpS X ci BS (compareOp op') g') (ha : SndE X ci BS a fa) (hb : SndE X ci BS b fb) (hc : SndE X ci BS c fc)
    (hm : lastMarks [op, op'] [b, c] = false := by with_unfolding_all rfl) : SndE X ci BS (.Compare a [op, op'] [b, c] pos) (fChain g g' fa fb fc) := by
  obtain ⟨t1, p1, q1⟩ := ha.ex
  obtain ⟨t2, p2, q2⟩ := hb.ex
  obtain ⟨t3, p3, q3⟩ := hc.ex
  obtain ⟨r, pr, qr⟩ := ho
  obtain ⟨r', pr', qr'⟩ := ho'
  exact ⟨⟨fun W' => tChain r r' (t1 W') (t2 W') (t3 W'), fun W' tk => pe_chain pr pr' (p1 W' tk) (p2 W' tk) (p3 W' tk) hm, fun W' s Q ok h => chain_core q1 q2 q3 qr qr' W' s Q ok h⟩⟩
theorem t_chain {op op' : CmpOp} {g g' : W → W → Option OV} (ho : OpS X ci BS (compareOp op) g) (ho' : OpS X ci BS (compareOp op') g') (ha : SndE X ci BS a fa) (hb : SndE X ci BS b fb) (hc : SndE X ci BS c fc)
    (hm : lastMarks [op, op'] [b, c] = false := by with_unfolding_all rfl) : SndT X ci BS (.Compare a [op, op'] [b, c] pos) (fTest (fChain g g' fa fb fc)) := by
  obtain ⟨t1, p1, q1⟩ := ha.ex
  obtain ⟨t2, p2, q2⟩ := hb.ex
  obtain ⟨t3, p3, q3⟩ := hc.ex
  obtain ⟨r, pr, qr⟩ := ho
  obtain ⟨r', pr', qr'⟩ := ho'
  refine ⟨⟨fun W' => tTest (tChain r r' (t1 W') (t2 W') (t3 W')), fun W' tk => pt_chain pr pr' (p1 W' tk) (p2 W' tk) (p3 W' tk) hm, fun W' s Q ok h => ?_⟩⟩
  exact test_core (te := fun W' => tChain r r' (t1 W') (t2 W') (t3 W')) (fun W' s Q ok h => chain_core q1 q2 q3 qr qr' W' s Q ok h) W' s Q ok h
/-! ### arguments, displays, built-ins that are called -/
theorem a_nil : SndA X ci BS [] fNil := ⟨⟨fun _ => tNil, fun _ _ => pa_nil, fun W' s Q ok h => h s.G s.H Step.refl ok [] .nil⟩⟩
theorem a_cons (ha : SndE X ci BS e fa) (hr : SndA X ci BS es fr) (hs : starEach (e :: es) X.env = (false, eval e X.env) :: starEach es X.env := by rfl) : SndA X ci BS (e :: es) (fCons fa fr) := by
  obtain ⟨t, p, q⟩ := ha.ex
  obtain ⟨t', p', q'⟩ := hr.ex
  refine ⟨⟨fun W' => tCons (t W') (t' W'), fun W' tk => pa_cons (p W' tk) (p' W' tk) hs, fun W' s Q ok h => ?_⟩⟩
  refine q W' s _ ok (h.bind.imp fun ox env1 G1 H1 st1 ok1 h1 => ?_)
  intro v rep new
  refine q' W' ⟨env1, s.σ, G1, H1⟩ _ ok1 (h1.bind.imp fun os env2 G2 H2 st2 ok2 h2 => ?_)
  intro vs reps
  exact h2 G2 H2 Step.refl ok2 (v :: vs) (.cons (rep.step st2) reps)
theorem asV_of : ∀ {vs : List V} {ovs : List OV} {ws : List W} {s : Sta}, Paired (RepOV X.K ci s) vs ovs → asV ovs = some ws → RepVs X.K ci s.G vs ws
  | _, _, _, _, .nil, e => by cases e; exact .nil
  | v :: vs, ov :: ovs, ws, s, .cons r t, e => by
    cases ov with
    | v w =>
      unfold asV at e
      cases q : asV ovs with
      | none => rw [q] at e; cases e
      | some us =>
        rw [q] at e
        cases e
        exact .cons r (asV_of t q)
    | s i => cases e
    | n w => cases e
theorem sz_le {n : Nat} (h : n ≤ 16777216) : n ≤ sizeLine := by rw [sizeLine_eq]; exact h
theorem x_tup {x1} (ha : SndA X ci BS es fr) : SndE X ci BS (.Tuple es x1 pos) (fTup fr) := by
  obtain ⟨t, p, q⟩ := ha.ex
  refine ⟨⟨fun W' => tTup (t W'), fun W' tk => pe_tup (p W' tk), fun W' s Q ok h => ?_⟩⟩
  refine q W' s _ ok (h.bind.imp fun os env1 G1 H1 st1 ok1 h1 => ?_)
  intro vs reps
  dsimp only at h1
  cases e : asV os with
  | none => rw [e] at h1; exact h1.elim
  | some ws =>
    rw [e] at h1
    dsimp only at h1
    have r := asV_of reps e
    by_cases hz : ws.length ≤ 16777216
    · rw [if_pos hz] at h1
      refine ⟨sz_le (by rw [r.length]; exact hz), fun a ha => ?_⟩
      exact ret_tup (W' := W') (s := ⟨env1, s.σ, G1, H1⟩) ok1 (h1.imp fun ov' env4 G4 H4 st4 ok4 h4 z rz nz => h4 z rz (NewOV.back st1 nz)) r ha
    · rw [if_neg hz] at h1; exact h1.elim
theorem x_lst (ha : SndA X ci BS es fr) : SndE X ci BS (.List es pos) (fLst fr) := by
  obtain ⟨t, p, q⟩ := ha.ex
  refine ⟨⟨fun W' => tLst (t W'), fun W' tk => pe_lst (p W' tk), fun W' s Q ok h => ?_⟩⟩
  refine q W' s _ ok (h.bind.imp fun os env1 G1 H1 st1 ok1 h1 => ?_)
  intro vs reps
  dsimp only at h1
  cases e : asV os with
  | none => rw [e] at h1; exact h1.elim
  | some ws =>
    rw [e] at h1
    dsimp only at h1
    have r := asV_of reps e
    by_cases hz : ws.length ≤ 16777216
    · rw [if_pos hz] at h1
      refine ⟨sz_le (by rw [r.length]; exact hz), fun a ha => ?_⟩
      exact ret_lst (W' := W') (s := ⟨env1, s.σ, G1, H1⟩) ok1 (h1.imp fun ov' env4 G4 H4 st4 ok4 h4 z rz nz => h4 z rz (NewOV.back st1 nz)) r ha
    · rw [if_neg hz] at h1; exact h1.elim
theorem curs_of {s : Sta} (ok : Ok X.K ci s) : ∀ {vs : List V} {ovs : List OV} {ws : List W}, Paired (RepOV X.K ci s) vs ovs → getOVs ovs s.env = some ws → Paired (CurV X.K ci s) vs ws
  | _, _, _, .nil, e => by cases e; exact .nil
  | v :: vs, ov :: ovs, ws, .cons r t, e => by
    unfold getOVs at e
    cases q : getOV ov s.env with
    | none => rw [q] at e; cases e
    | some w =>
      rw [q] at e
      have e : ((getOVs ovs s.env).bind fun ws => some (w :: ws)) = some ws := e
      cases q2 : getOVs ovs s.env with
      | none => rw [q2] at e; cases e
      | some us =>
        rw [q2] at e
        cases e
        exact .cons (cur_of ok r q) (curs_of ok t q2)
theorem call_core {r : List V → Hp → VK → Prop} {g : List W → Option OV} {ta : WX → TA} (qa : ∀ (W' : WX) (s : Sta) (Q : List V → Hp → Prop), Ok X.K ci s → Acc X.K ci BS W' s (CA X.K ci s Q) (fr s.env) → ta W' s.σ s.H Q)
    (qr : ∀ (W' : WX) (s : Sta) (xs : List V) (ws : List W) (ov : OV) (Q : VK), Ok X.K ci s → Paired (CurV X.K ci s) xs ws → g ws = some ov → Acc X.K ci BS W' s (CE X.K ci s Q) (.ok ov s.env) → r xs s.H Q)
    (W' : WX) (s : Sta) (Q : VK) (ok : Ok X.K ci s) (h : Acc X.K ci BS W' s (CE X.K ci s Q) (fB g fr s.env)) : ta W' s.σ s.H fun vs H1 => r vs H1 Q := by
  refine qa W' s _ ok (h.bind.imp fun os env1 G1 H1 st1 ok1 h1 => ?_)
  intro vs reps
  have h1 : Acc X.K ci BS W' ⟨env1, s.σ, G1, H1⟩ (CE X.K ci s Q) (retOV ((getOVs os env1).bind g) env1) := h1
  cases e1 : getOVs os env1 with
  | none => rw [e1] at h1; exact h1.elim
  | some ws =>
    rw [e1] at h1
    have h1 : Acc X.K ci BS W' ⟨env1, s.σ, G1, H1⟩ (CE X.K ci s Q) (retOV (g ws) env1) := h1
    cases e2 : g ws with
    | none => rw [e2] at h1; exact h1.elim
    | some ov =>
      rw [e2] at h1
      refine qr W' ⟨env1, s.σ, G1, H1⟩ vs ws ov Q ok1 (curs_of ok1 reps e1) e2 (h1.imp fun ov' env4 G4 H4 st4 ok4 h4 z rz nz => h4 z rz (NewOV.back st1 nz))
theorem x_callB {id : String} {g : List W → Option OV} {x : Str} {p : Pos} (hc : CallS X ci BS (.builtin id) g) (hg : Gl X x) (hm : X.mg x = none) (hv : bootBuiltins x = some (.builtin id)) (ha : SndA X ci BS (e :: es) fr) (hn : x ≠ "__name__" := by decide) (hdb : (x == ("__debug__" : Str)) = false := by decide)
    (he : starEach (e :: es) X.env = (false, eval e X.env) :: starEach es X.env := by rfl) (hpl : (backTo pos (starEach es X.env)).any (·.1) = false := by rfl) : SndE X ci BS (.Call (.Name x p) (e :: es) [] pos) (fB g fr) := by
  obtain ⟨t, pp, q⟩ := ha.ex
  obtain ⟨r, pr, qr⟩ := hc
  exact ⟨⟨fun W' => tCB r (t W'), fun W' tk => pe_callB pr hg hm hv (pp W' tk) hn hdb he hpl, fun W' s Q ok h => call_core q qr W' s Q ok h⟩⟩
theorem x_callTy {T : String} {g : List W → Option OV} {x : Str} {p : Pos} (hc : CallS X ci BS (.type T) g) (hg : Gl X x) (hm : X.mg x = none) (hv : bootBuiltins x = some (.type T)) (ha : SndA X ci BS (e :: es) fr) (hn : x ≠ "__name__" := by decide) (hdb : (x == ("__debug__" : Str)) = false := by decide)
    (he : starEach (e :: es) X.env = (false, eval e X.env) :: starEach es X.env := by rfl) (hpl : (backTo pos (starEach es X.env)).any (·.1) = false := by rfl) : SndE X ci BS (.Call (.Name x p) (e :: es) [] pos) (fB g fr) := by
  obtain ⟨t, pp, q⟩ := ha.ex
  obtain ⟨r, pr, qr⟩ := hc
  exact ⟨⟨fun W' => tCB r (t W'), fun W' tk => pe_callTy pr hg hm hv (pp W' tk) hn hdb he hpl, fun W' s Q ok h => call_core q qr W' s Q ok h⟩⟩
end
end BV

set_option maxRecDepth 100000
set_option maxHeartbeats 4000000
/-! BV: operators and built-ins on plain data. -/
namespace BV
open PySem PySem.Spec L2

mutual
def toPy : W → Option PyData
  | .non => some .none
  | .bl b => some (.bool b)
  | .int i => some (.int i)
  | .str x => some (.str x)
  | .tup ws => (toPys ws).map .tuple
  | .lst ws => (toPys ws).map .list
  | .fz _ => none
  | .dct _ => none
  | .ins _ _ => none
  | .exc _ _ _ => none
def toPys : List W → Option (List PyData)
  | [] => some []
  | w :: ws => (toPy w).bind fun d => (toPys ws).map fun ds => d :: ds
end
section
variable {K : PySem.W.Frag} {ci : Nat → Addr} {G H : Hp}
mutual
theorem toPy_dp (e : Same G H) : ∀ {w : W} {v : V} {d : PyData}, RepV K ci G v w → toPy w = some d → Dp K H v d
  | .non, _, _, .non, q => by cases q; exact .non
  | .bl _, _, _, .bl b, q => by cases q; exact .bl b
  | .int _, _, _, .int b, q => by cases q; exact .int b
  | .str _, _, _, .str b, q => by cases q; exact .str b
  | .tup ws, _, d, .tup h r, q => by
    unfold toPy at q
    cases p : toPys ws with
    | none => rw [p] at q; cases q
    | some ds =>
      rw [p] at q
      cases q
      exact .tup (sqT_mono e h) (toPys_dp e r p)
  | .lst ws, _, d, .lst h r, q => by
    unfold toPy at q
    cases p : toPys ws with
    | none => rw [p] at q; cases q
    | some ds =>
      rw [p] at q
      cases q
      exact .lst (.inl (.inl (e _ _ h))) (toPys_dp e r p)
  | .fz _, _, _, _, q => by cases q
  | .dct _, _, _, _, q => by cases q
  | .ins _ _, _, _, _, q => by cases q
  | .exc _ _ _, _, _, _, q => by cases q
theorem toPys_dp (e : Same G H) : ∀ {ws : List W} {vs : List V} {ds : List PyData}, RepVs K ci G vs ws → toPys ws = some ds → DpAll K H vs ds
  | [], _, _, .nil, q => by cases q; exact .nil
  | w :: ws, _, _, .cons h r, q => by
    unfold toPys at q
    cases p : toPy w with
    | none => rw [p] at q; cases q
    | some d =>
      rw [p] at q
      have q : (toPys ws).map (fun ds => d :: ds) = some _ := q
      cases p2 : toPys ws with
      | none => rw [p2] at q; cases q
      | some ds =>
        rw [p2] at q
        cases q
        exact .cons (toPy_dp e h p) (toPys_dp e r p2)
end
theorem cur_dp {s : Sta} (ok : Ok K ci s) {v : V} {w : W} {d : PyData} (h : CurV K ci s v w) (q : toPy w = some d) : Dp K s.H v d := by
  rcases h with h | ⟨a, rfl, h⟩
  · exact toPy_dp ok.sub h q
  · cases h with
    | @lst vs ws h r =>
      unfold toPy at q
      cases p : toPys ws with
      | none => rw [p] at q; cases q
      | some ds =>
        rw [p] at q
        cases q
        exact .lst (.inl (.inl h)) (toPys_dp ok.sub r p)
    | _ => cases q
end

/-! ### the functions -/
def gI (f : Int → Int → W) : W → W → Option OV
  | .int i, .int j => some (.v (f i j))
  | _, _ => none
def gAdd : W → W → Option OV
  | .int i, .int j => some (.v (.int (i + j)))
  | .str x, .str y => if x.length + y.length ≤ 16777216 then some (.v (.str (x ++ y))) else none
  | .tup xs, .tup ys => if xs.length + ys.length ≤ 16777216 then some (.v (.tup (xs ++ ys))) else none
  | .lst xs, .lst ys => if xs.length + ys.length ≤ 16777216 then some (.n (.lst (xs ++ ys))) else none
  | _, _ => none
def gSub : W → W → Option OV := gI fun i j => .int (i - j)
def mulOk (i j : Int) : Bool := decide (-18446744073709551616 < i ∧ i < 18446744073709551616) || decide (-18446744073709551616 < j ∧ j < 18446744073709551616)
def gMul : W → W → Option OV
  | .int i, .int j => if mulOk i j = true then some (.v (.int (i * j))) else none
  | .tup xs, .int k => if 0 ≤ k ∧ k * xs.length ≤ 16777216 ∧ k < 16777217 then some (.v (.tup (List.replicate k.toNat xs).flatten)) else none
  | .lst xs, .int k => if 0 ≤ k ∧ k * xs.length ≤ 16777216 ∧ k < 9223372036854775808 then some (.n (.lst (List.replicate k.toNat xs).flatten)) else none
  | _, _ => none
def gMod : W → W → Option OV
  | .int i, .int j => if 0 < j then some (.v (.int (i % j))) else none
  | _, _ => none
def gDiv : W → W → Option OV
  | .int i, .int j => if 0 < j ∧ j < 340282366920938463463374607431768211456 then some (.v (.int (i / j))) else none
  | _, _ => none
def gPow : W → W → Option OV
  | .int i, .int j => if 0 ≤ j ∧ j ≤ 1000000 ∧ i.natAbs < 18446744073709551616 then some (.v (.int (i ^ j.toNat))) else none
  | _, _ => none
def gLt : W → W → Option OV := gI fun i j => .bl (decide (i < j))
def gLe : W → W → Option OV := gI fun i j => .bl (decide (i ≤ j))
def gGt : W → W → Option OV := gI fun i j => .bl (decide (j < i))
def gGe : W → W → Option OV := gI fun i j => .bl (decide (j ≤ i))
def pyEq (d e : PyData) : Option Bool := if SeqAt.shaped d = true ∧ SeqAt.shaped e = true then some (PyData.eqv d e) else none
def wEq (x y : W) : Option Bool := (toPy x).bind fun d => (toPy y).bind fun e => pyEq d e
def gEq (x y : W) : Option OV := (wEq x y).map fun b => .v (.bl b)
def gNe (x y : W) : Option OV := (wEq x y).map fun b => .v (.bl (!b))
def isNon : W → Bool
  | .non => true
  | _ => false
def isBl (b : Bool) : W → Bool
  | .bl c => c == b
  | _ => false
/-- x is None, x is True, x is False -/
def gIs (x y : W) : Option OV := match y with
  | .non => some (.v (.bl (isNon x)))
  | .bl b => some (.v (.bl (isBl b x)))
  | _ => none
def gIsNot (x y : W) : Option OV := match y with
  | .non => some (.v (.bl (!isNon x)))
  | .bl b => some (.v (.bl (!isBl b x)))
  | _ => none
/-- xs[i], t[i], s[i] -/
def gIx : W → W → Option OV
  | .lst xs, .int i => (atI xs i).map .v
  | .fz xs, .int i => (atI xs i).map .v
  | .tup xs, .int i => (atI xs i).map .v
  | .str z, .int i => if z.length ≤ 16777216 then (atI z.cps.toList i).map fun c => .v (.str ⟨#[c]⟩) else none
  | _, _ => none
def gLen : List W → Option OV
  | [.lst xs] => some (.v (.int xs.length))
  | [.fz xs] => some (.v (.int xs.length))
  | [.tup xs] => some (.v (.int xs.length))
  | [.str z] => if z.length ≤ 16777216 then some (.v (.int z.length)) else none
  | _ => none
def gInt : List W → Option OV
  | [.int i] => some (.v (.int i))
  | [.bl b] => some (.v (.int (if b then 1 else 0)))
  | _ => none
def gList : List W → Option OV
  | [.lst xs] => some (.n (.lst xs))
  | [.fz xs] => some (.n (.lst xs))
  | [.tup xs] => some (.n (.lst xs))
  | _ => none
def gTuple : List W → Option OV
  | [.lst xs] => some (.v (.tup xs))
  | [.fz xs] => some (.v (.tup xs))
  | [.tup xs] => some (.v (.tup xs))
  | _ => none
def bools : List W → Option (List Bool)
  | [] => some []
  | .bl b :: ws => (bools ws).map fun bs => b :: bs
  | _ :: _ => none
def gAll : List W → Option OV
  | [.lst xs] => (bools xs).map fun bs => .v (.bl (bs.all id))
  | _ => none
def gAny : List W → Option OV
  | [.lst xs] => (bools xs).map fun bs => .v (.bl (bs.any id))
  | _ => none
def gMin2 : List W → Option OV
  | [.int i, .int j] => some (.v (.int (if j < i then j else i)))
  | _ => none
def gMax2 : List W → Option OV
  | [.int i, .int j] => some (.v (.int (if j > i then j else i)))
  | _ => none
def gAbs : List W → Option OV
  | [.int i] => some (.v (.int (if i < 0 then -i else i)))
  | _ => none

section
variable {X : Cx} {ci : Nat → Addr} {BS : List Nat}
theorem opS_I {f : Value → Value → Sem Value} {k : Int → Int → V} {g : Int → Int → W} (ho : OpR X f (rI0 k)) (hk : ∀ {K : PySem.W.Frag} {G : Hp} i j, RepV K ci G (k i j) (g i j)) : OpS X ci BS f (gI g) := by
  refine ⟨_, ho, fun W' s x y wx wy ov Q ok cx cy e h => ?_⟩
  cases wx with
  | int i =>
    cases wy with
    | int j =>
      cases e
      exact ⟨i, j, cx.int, cy.int, ret_same ok h (hk i j)⟩
    | _ => cases e
  | _ => cases e
theorem o_sub : OpS X ci BS (binaryOp .Sub) gSub := opS_I op_sub fun _ _ => .int _
theorem o_lt : OpS X ci BS (compareOp .Lt) gLt := opS_I op_lt fun _ _ => .bl _
theorem o_le : OpS X ci BS (compareOp .LtE) gLe := opS_I op_le fun _ _ => .bl _
theorem o_gt : OpS X ci BS (compareOp .Gt) gGt := opS_I op_gt fun _ _ => .bl _
theorem o_ge : OpS X ci BS (compareOp .GtE) gGe := opS_I op_ge fun _ _ => .bl _
theorem o_mod : OpS X ci BS (binaryOp .Mod) gMod := by
  refine ⟨_, op_mod, fun W' s x y wx wy ov Q ok cx cy e h => ?_⟩
  cases wx with
  | int i =>
    cases wy with
    | int j =>
      unfold gMod at e
      by_cases c : 0 < j
      · dsimp only at e
        rw [if_pos c] at e
        cases e
        exact ⟨i, j, cx.int, cy.int, c, ret_same ok h (.int _)⟩
      · dsimp only at e
        rw [if_neg c] at e
        cases e
    | _ => cases e
  | _ => cases e
theorem op_fdivW : OpR X (binaryOp .FloorDiv) (rI (fun _ j => 0 < j ∧ j < 340282366920938463463374607431768211456) fun i j => .int (i / j)) := opI fun i j _ _ _ _ _ hc q => by
  have h1 : (0 : Int) < j := hc.1
  have h2 : j < 340282366920938463463374607431768211456 := hc.2
  refine PyProof.Rows.floordiv_int (by omega) (by rw [Int.fdiv_eq_ediv_of_nonneg i (by omega)]; exact q) (.inl (PyProof.noPylong_of_log2 ?_))
  have h3 : j.natAbs.log2 < 128 := (Nat.log2_lt (by omega)).mpr (by omega)
  omega
theorem o_div : OpS X ci BS (binaryOp .FloorDiv) gDiv := by
  refine ⟨_, op_fdivW, fun W' s x y wx wy ov Q ok cx cy e h => ?_⟩
  cases wx with
  | int i =>
    cases wy with
    | int j =>
      unfold gDiv at e
      by_cases c : 0 < j ∧ j < 340282366920938463463374607431768211456
      · dsimp only at e
        rw [if_pos c] at e
        cases e
        exact ⟨i, j, cx.int, cy.int, c, ret_same ok h (.int _)⟩
      · dsimp only at e
        rw [if_neg c] at e
        cases e
    | _ => cases e
  | _ => cases e
theorem o_pow : OpS X ci BS (binaryOp .Pow) gPow := by
  refine ⟨_, op_pow, fun W' s x y wx wy ov Q ok cx cy e h => ?_⟩
  cases wx with
  | int i =>
    cases wy with
    | int j =>
      unfold gPow at e
      by_cases c : 0 ≤ j ∧ j ≤ 1000000 ∧ i.natAbs < 18446744073709551616
      · dsimp only at e
        rw [if_pos c] at e
        cases e
        exact ⟨i, j, cx.int, cy.int, c, ret_same ok h (.int _)⟩
      · dsimp only at e
        rw [if_neg c] at e
        cases e
    | _ => cases e
  | _ => cases e
theorem reps_nil {K : PySem.W.Frag} {G : Hp} {ws : List W} (r : RepVs K ci G [] ws) : ws = [] := by cases r; rfl
theorem o_add : OpS X ci BS (binaryOp .Add) gAdd := by
  refine ⟨_, op_add.or (op_add_str.or (op_catA.or op_cat)), fun W' s x y wx wy ov Q ok cx cy e h => ?_⟩
  cases wx with
  | int i =>
    cases wy with
    | int j =>
      cases e
      exact .inl ⟨i, j, cx.int, cy.int, ret_same ok h (.int _)⟩
    | _ => cases e
  | str a =>
    cases wy with
    | str b =>
      unfold gAdd at e
      dsimp only at e
      by_cases c : a.length + b.length ≤ 16777216
      · rw [if_pos c] at e
        cases e
        exact .inr (.inl ⟨a, b, cx.str, cy.str, sz_le c, ret_same ok h (.str _)⟩)
      · rw [if_neg c] at e
        cases e
    | _ => cases e
  | tup xs =>
    cases wy with
    | tup ys =>
      unfold gAdd at e
      dsimp only at e
      by_cases c : xs.length + ys.length ≤ 16777216
      · rw [if_pos c] at e
        cases e
        obtain ⟨a, vs, rfl, h1, r1⟩ := cx.tup ok
        obtain ⟨b, us, rfl, h2, r2⟩ := cy.tup ok
        have l1 := r1.length
        have l2 := r2.length
        refine .inr (.inr (.inl ⟨a, b, vs, us, rfl, rfl, h1, h2, sz_le (by rw [l1, l2]; exact c), fun z => ?_, fun _ z => ?_, fun _ _ p hp => ret_tup ok h (r1.append r2) hp⟩))
        · subst z
          have z1 := reps_nil r1
          subst z1
          rcases cy with cy | ⟨_, _, cy⟩
          · exact ret_same ok h cy
          · cases cy
        · subst z
          have z1 := reps_nil r2
          subst z1
          rw [List.append_nil] at h
          rcases cx with cx | ⟨_, _, cx⟩
          · exact ret_same ok h cx
          · cases cx
      · rw [if_neg c] at e
        cases e
    | _ => cases e
  | lst xs =>
    cases wy with
    | lst ys =>
      unfold gAdd at e
      dsimp only at e
      by_cases c : xs.length + ys.length ≤ 16777216
      · rw [if_pos c] at e
        cases e
        obtain ⟨a, vs, rfl, h1, r1⟩ := cx.lst ok
        obtain ⟨b, us, rfl, h2, r2⟩ := cy.lst ok
        have l1 := r1.length
        have l2 := r2.length
        exact .inr (.inr (.inr ⟨a, b, vs, us, rfl, rfl, h1, h2, sz_le (by rw [l1, l2]; exact c), fun p hp => ret_lst ok h (r1.append r2) hp⟩))
      · rw [if_neg c] at e
        cases e
    | _ => cases e
  | _ => cases e
theorem o_eq (hu : X.A.units + 64 < cLine) : OpS X ci BS (compareOp .Eq) gEq := by
  refine ⟨_, op_eqD hu, fun W' s x y wx wy ov Q ok cx cy e h => ?_⟩
  unfold gEq wEq pyEq at e
  cases p : toPy wx with
  | none => rw [p] at e; cases e
  | some d =>
    cases q : toPy wy with
    | none => rw [p, q] at e; cases e
    | some d' =>
      rw [p, q] at e
      simp only [Option.bind_some] at e
      by_cases c : SeqAt.shaped d = true ∧ SeqAt.shaped d' = true
      · rw [if_pos c] at e
        cases e
        exact ⟨d, d', cur_dp ok cx p, cur_dp ok cy q, c.1, c.2, ret_same ok h (.bl _)⟩
      · rw [if_neg c] at e
        cases e
theorem o_ne (hu : X.A.units + 64 < cLine) : OpS X ci BS (compareOp .NotEq) gNe := by
  refine ⟨_, op_neD hu, fun W' s x y wx wy ov Q ok cx cy e h => ?_⟩
  unfold gNe wEq pyEq at e
  cases p : toPy wx with
  | none => rw [p] at e; cases e
  | some d =>
    cases q : toPy wy with
    | none => rw [p, q] at e; cases e
    | some d' =>
      rw [p, q] at e
      simp only [Option.bind_some] at e
      by_cases c : SeqAt.shaped d = true ∧ SeqAt.shaped d' = true
      · rw [if_pos c] at e
        cases e
        exact ⟨d, d', cur_dp ok cx p, cur_dp ok cy q, c.1, c.2, ret_same ok h (.bl _)⟩
      · rw [if_neg c] at e
        cases e
/-- x is True | False | None, whatever x is (no class, no built-in) -/
def rIsC (neg : Bool) : R2 := fun x y H Q => (∀ n, x ≠ .ty n) ∧ ((y = .non ∧ Q (.bl (neg ^^ decide (x = .non))) H) ∨ ∃ b, y = .bl b ∧ Q (.bl (neg ^^ decide (x = .bl b))) H)
theorem beq_non {x : V} {v : Value} (r : RelV x v) : (v == Value.none) = decide (x = .non) := r.none_iff
theorem beq_bool {x : V} {v : Value} {b : Bool} (r : RelV x v) (hn : ∀ n, x ≠ .ty n) : (v == Value.bool b) = decide (x = .bl b) := by
  cases x with
  | non => cases r; rfl
  | bl c => cases r; cases b <;> cases c <;> rfl
  | int _ => obtain ⟨t, rfl⟩ := r; rfl
  | str _ => obtain ⟨t, rfl⟩ := r; rfl
  | byt _ => obtain ⟨t, rfl⟩ := r; rfl
  | flt _ => obtain ⟨t, rfl⟩ := r; rfl
  | ref _ => cases r; rfl
  | ty n => exact absurd rfl (hn n)
theorem op_isC : OpR X (compareOp .Is) (rIsC false) := by
  intro pins s σ H x y v u Q I rx ry h
  obtain ⟨hn, ⟨rfl, q⟩ | ⟨b, rfl, q⟩⟩ := h
  · cases ry
    refine wpAny_is_plain ?_ ⟨.bl _, H, I, by rw [beq_non rx]; rfl, by rw [Bool.false_xor] at q; exact q⟩
    cases x with
    | non => cases rx; rfl
    | bl c => cases rx; rfl
    | int _ => obtain ⟨t, rfl⟩ := rx; rfl
    | str _ => obtain ⟨t, rfl⟩ := rx; rfl
    | byt _ => obtain ⟨t, rfl⟩ := rx; rfl
    | flt _ => obtain ⟨t, rfl⟩ := rx; rfl
    | ref _ => cases rx; rfl
    | ty n => exact absurd rfl (hn n)
  · cases ry
    refine wpAny_is_plain ?_ ⟨.bl _, H, I, by rw [beq_bool rx hn]; rfl, by rw [Bool.false_xor] at q; exact q⟩
    cases x with
    | non => cases rx; rfl
    | bl c => cases rx; rfl
    | int _ => obtain ⟨t, rfl⟩ := rx; rfl
    | str _ => obtain ⟨t, rfl⟩ := rx; rfl
    | byt _ => obtain ⟨t, rfl⟩ := rx; rfl
    | flt _ => obtain ⟨t, rfl⟩ := rx; rfl
    | ref _ => cases rx; rfl
    | ty n => exact absurd rfl (hn n)
theorem op_isNotC : OpR X (compareOp .IsNot) (rIsC true) := by
  intro pins s σ H x y v u Q I rx ry h
  obtain ⟨hn, ⟨rfl, q⟩ | ⟨b, rfl, q⟩⟩ := h
  · cases ry
    refine wpAny_isNot_plain ?_ ⟨.bl _, H, I, by rw [beq_non rx]; rfl, by rw [Bool.true_xor] at q; exact q⟩
    cases x with
    | non => cases rx; rfl
    | bl c => cases rx; rfl
    | int _ => obtain ⟨t, rfl⟩ := rx; rfl
    | str _ => obtain ⟨t, rfl⟩ := rx; rfl
    | byt _ => obtain ⟨t, rfl⟩ := rx; rfl
    | flt _ => obtain ⟨t, rfl⟩ := rx; rfl
    | ref _ => cases rx; rfl
    | ty n => exact absurd rfl (hn n)
  · cases ry
    refine wpAny_isNot_plain ?_ ⟨.bl _, H, I, by rw [beq_bool rx hn]; rfl, by rw [Bool.true_xor] at q; exact q⟩
    cases x with
    | non => cases rx; rfl
    | bl c => cases rx; rfl
    | int _ => obtain ⟨t, rfl⟩ := rx; rfl
    | str _ => obtain ⟨t, rfl⟩ := rx; rfl
    | byt _ => obtain ⟨t, rfl⟩ := rx; rfl
    | flt _ => obtain ⟨t, rfl⟩ := rx; rfl
    | ref _ => cases rx; rfl
    | ty n => exact absurd rfl (hn n)
theorem cur_noty {s : Sta} {x : V} {w : W} (c : CurV X.K ci s x w) : ∀ n, x ≠ .ty n := fun n z => by
  subst z
  rcases c with c | ⟨a, e, _⟩
  · cases c
  · cases e
theorem cur_isnon {s : Sta} {x : V} {w : W} (c : CurV X.K ci s x w) : decide (x = .non) = isNon w := by
  rcases c with c | ⟨a, rfl, c⟩
  · cases c <;> simp [isNon]
  · cases c <;> simp [isNon]
theorem cur_isbl {s : Sta} {x : V} {w : W} {b : Bool} (c : CurV X.K ci s x w) : decide (x = .bl b) = isBl b w := by
  rcases c with c | ⟨a, rfl, c⟩
  · cases c <;> first
      | (rename_i k; cases k <;> cases b <;> rfl)
      | simp [isBl]
  · cases c <;> simp [isBl]
theorem o_is : OpS X ci BS (compareOp .Is) gIs := by
  refine ⟨_, op_isC, fun W' s x y wx wy ov Q ok cx cy e h => ⟨cur_noty cx, ?_⟩⟩
  unfold gIs at e
  cases wy with
  | non =>
    cases e
    refine .inl ⟨cy.non, ?_⟩
    rw [Bool.false_xor, cur_isnon cx]
    exact ret_same ok h (.bl _)
  | bl b =>
    cases e
    refine .inr ⟨b, cy.bl, ?_⟩
    rw [Bool.false_xor, cur_isbl cx]
    exact ret_same ok h (.bl _)
  | _ => cases e
theorem o_isNot : OpS X ci BS (compareOp .IsNot) gIsNot := by
  refine ⟨_, op_isNotC, fun W' s x y wx wy ov Q ok cx cy e h => ⟨cur_noty cx, ?_⟩⟩
  unfold gIsNot at e
  cases wy with
  | non =>
    cases e
    refine .inl ⟨cy.non, ?_⟩
    rw [Bool.true_xor, cur_isnon cx]
    exact ret_same ok h (.bl _)
  | bl b =>
    cases e
    refine .inr ⟨b, cy.bl, ?_⟩
    rw [Bool.true_xor, cur_isbl cx]
    exact ret_same ok h (.bl _)
  | _ => cases e
end
end BV

set_option maxRecDepth 100000
set_option maxHeartbeats 4000000
/-! BV: tuple * int, subscripts, slices, built-ins. -/
namespace L2
open PySem PySem.Spec PyProof.Rows
/-- tuple * int: itself -/
theorem tuple_mulS (l : Addr) (items : Array Value) (n : Nat) (dd : Option Addr) (sl : Array (Option Value)) (x : Int) (u : Tok) (c0 : (decide (x < -(2 ^ 63)) || decide (x ≥ 2 ^ 63)) = false) (c1 : (items.isEmpty || x == 1) = true) :
    Meets (Builtin.«tuple.__mul__» ⟨[.ref l, .int x u], []⟩) (fun _ R s => s.heap.get? l = some { cls := .type "tuple", dict := dd, data := .seq items n, slots := sl } ∧ R (.ok (.ret (Value.ref l))) s) :=
  .of_wp fun prog w A R s h => by
    obtain ⟨hp, g, d, tk, os⟩ := s
    obtain ⟨hl, h⟩ := h
    have f1 := AutoSeq1.idx_int
    wp_walk using wpAny_loadPart' hl
    repeat (first
      | (refine wpAny_ite_false (decide_eq_false (by rw [c0]; exact Bool.false_ne_true)) ?_; wp_walk using wpAny_loadPart' hl)
      | (refine wpAny_ite_true (decide_eq_true c1) ?_; wp_walk using wpAny_loadPart' hl))
    exact ⟨_, rfl, h⟩
/-- tuple * int: nothing -/
theorem tuple_mul0 (l : Addr) (items : Array Value) (n : Nat) (dd : Option Addr) (sl : Array (Option Value)) (x : Int) (u : Tok) (c0 : (decide (x < -(2 ^ 63)) || decide (x ≥ 2 ^ 63)) = false) (c1 : (items.isEmpty || x == 1) = false) (c2 : (decide (x ≤ 0) || items.isEmpty) = true) :
    Meets (Builtin.«tuple.__mul__» ⟨[.ref l, .int x u], []⟩) (fun _ R s => s.heap.get? l = some { cls := .type "tuple", dict := dd, data := .seq items n, slots := sl } ∧
      R (.ok (.ret (Value.ref s.heap.objs.size))) { s with heap := s.heap.push { cls := Value.type "tuple", data := Data.seq #[] }, toks := s.toks }) :=
  .of_wp fun prog w A R s h => by
    obtain ⟨hp, g, d, tk, os⟩ := s
    obtain ⟨hl, h⟩ := h
    have f1 := AutoSeq1.idx_int
    wp_walk using wpAny_loadPart' hl
    repeat (first
      | (refine wpAny_ite_false (decide_eq_false (by rw [c0]; exact Bool.false_ne_true)) ?_; wp_walk using wpAny_loadPart' hl)
      | (refine wpAny_ite_false (decide_eq_false (by rw [c1]; exact Bool.false_ne_true)) ?_; wp_walk using wpAny_loadPart' hl)
      | (refine wpAny_ite_true (decide_eq_true c2) ?_; wp_walk using wpAny_loadPart' hl))
    exact ⟨_, rfl, h⟩
def rRepA (K : PySem.W.Frag) : R2 := fun x y H Q => ∃ l k xs, x = .ref l ∧ y = .int k ∧ SqT K H l xs ∧ 0 ≤ k ∧ k * xs.length ≤ 16777216 ∧ k < 16777217 ∧ ((xs = [] ∨ k = 1) → Q (.ref l) H) ∧ (xs ≠ [] → k ≠ 1 → ∀ p, H p = none → Q (.ref p) (upd H p (.tup (List.replicate k.toNat xs).flatten)))
theorem op_repA {X : Cx} : OpR X (binaryOp .Mult) (rRepA X.K) := by
  intro pins s σ H x y v u Q I rx ry h
  obtain ⟨l, k, xs, rfl, rfl, hT, h1, hz, h2, q1, q2⟩ := h
  cases rx
  obtain ⟨t, rfl⟩ := ry
  obtain ⟨its, r, ⟨⟨cls, dd, data, sl⟩, ho, hc, n, hd⟩, hs⟩ := I.tuple hT
  simp only at hc hd
  subst hc hd
  have hle : its.length = xs.length := r.length.symm
  have hie : its.toArray.isEmpty = xs.isEmpty := by
    cases its with
    | nil => cases r; rfl
    | cons a b => cases r; rfl
  have c0 : (decide (k < -(2 ^ 63)) || decide (k ≥ 2 ^ 63)) = false := by
    rw [decide_eq_false (by omega), decide_eq_false (by omega)] <;> rfl
  have hsz0 : its.toArray.size = xs.length := by rw [List.size_toArray, hle]
  by_cases hs1 : xs = [] ∨ k = 1
  · have c1 : (its.toArray.isEmpty || k == 1) = true := by
      rw [hie]
      rcases hs1 with z | z
      · subst z; rfl
      · subst z
        rw [Bool.or_eq_true]
        exact .inr rfl
    refine wpAny_binaryOp_repeat_ref (T := "tuple") (U := "int") (by decide) ⟨_, ho, rfl⟩ (fun s' => typeIs_int s' k t) noFill_tuple_mul F.fills_int_mul F.slot_int_rmul repeat_tuple F.slot_int_index.lookup
      (call_meets F.slot_int_rmul (typeIs_int s k t) F.entry_int_rmul (F.args_int_rmul_2 _ _) (int_rmul_tuple k t l its.toArray n dd sl)
        ⟨ho, rfl, ⟨_, ho, rfl⟩, call_meets F.slot_tuple_mul ⟨_, ho, rfl⟩ F.entry_tuple_mul (F.args_tuple_mul_2 _ _) (tuple_mulS l its.toArray n dd sl k t c0 c1) ⟨ho, ?_⟩⟩)
    exact ⟨.ref l, H, I, rfl, q1 hs1⟩
  · have hne : xs ≠ [] := fun z => hs1 (.inl z)
    have hk1 : k ≠ 1 := fun z => hs1 (.inr z)
    have hi : its.toArray.isEmpty = false := by
      rw [hie]
      cases xs with
      | nil => exact absurd rfl hne
      | cons a b => rfl
    have c1 : (its.toArray.isEmpty || k == 1) = false := by
      rw [hi, Bool.false_or]
      exact beq_eq_false_iff_ne.mpr hk1
    have fin : ∀ (h' : Heap) (its' : List Value), h' = s.heap.push { cls := .type "tuple", data := .seq its'.toArray } → Vals (List.replicate k.toNat xs).flatten its' → EP X pins σ Q (.ref s.heap.objs.size) { s with heap := h' } := fun h' its' e rv => by
      subst e
      refine ⟨.ref s.heap.objs.size, _, I.laid (t' := s.toks) (o := .tup (List.replicate k.toNat xs).flatten) (fun b ob q => Heap.get?_push_of_some _ q) (Nat.le_refl _) ?_, rfl, q2 hne hk1 _ (I.hok.fresh (Nat.le_refl _))⟩
      refine ⟨?_, _, rv, IsTup.new _ _⟩
      rw [PyProof.Rows.lm_len_rep_flat, sizeLine_eq]
      have a1 : ((k.toNat * xs.length : Nat) : Int) ≤ 16777216 := by
        rw [Int.natCast_mul, Int.toNat_of_nonneg h1]
        exact hz
      omega
    by_cases hk0 : k ≤ 0
    · have c2 : (decide (k ≤ 0) || its.toArray.isEmpty) = true := by
        rw [decide_eq_true hk0] <;> rfl
      refine wpAny_binaryOp_repeat_ref (T := "tuple") (U := "int") (by decide) ⟨_, ho, rfl⟩ (fun s' => typeIs_int s' k t) noFill_tuple_mul F.fills_int_mul F.slot_int_rmul repeat_tuple F.slot_int_index.lookup
        (call_meets F.slot_int_rmul (typeIs_int s k t) F.entry_int_rmul (F.args_int_rmul_2 _ _) (int_rmul_tuple k t l its.toArray n dd sl)
          ⟨ho, rfl, ⟨_, ho, rfl⟩, call_meets F.slot_tuple_mul ⟨_, ho, rfl⟩ F.entry_tuple_mul (F.args_tuple_mul_2 _ _) (tuple_mul0 l its.toArray n dd sl k t c0 c1 c2) ⟨ho, ?_⟩⟩)
      have e0 : k.toNat = 0 := by omega
      exact fin _ [] rfl (by rw [e0]; exact .nil)
    · have c2 : (decide (k ≤ 0) || its.toArray.isEmpty) = false := by
        rw [hi, Bool.or_false]
        exact decide_eq_false (by omega)
      have hm : ((its.toArray.size : Nat) : Int) * k ≤ 16777216 := by
        rw [hsz0, Int.mul_comm]
        exact hz
      have flen : (List.replicate k.toNat its).flatten.length ≤ sizeLine := by
        rw [PyProof.Rows.lm_len_rep_flat, hle, sizeLine_eq]
        have a1 : ((k.toNat * xs.length : Nat) : Int) ≤ 16777216 := by
          rw [Int.natCast_mul, Int.toNat_of_nonneg h1]
          exact hz
        omega
      have c4 : Builtin.Tuple.tupleTooMany (((its.toArray.size : Nat) : Int) * k) = false := by
        unfold Builtin.Tuple.tupleTooMany
        rw [sizeLine_eq]
        exact decide_eq_false (by omega)
      refine wpAny_binaryOp_repeat_ref (T := "tuple") (U := "int") (by decide) ⟨_, ho, rfl⟩ (fun s' => typeIs_int s' k t) noFill_tuple_mul F.fills_int_mul F.slot_int_rmul repeat_tuple F.slot_int_index.lookup
        (call_meets F.slot_int_rmul (typeIs_int s k t) F.entry_int_rmul (F.args_int_rmul_2 _ _) (int_rmul_tuple k t l its.toArray n dd sl)
          ⟨ho, rfl, ⟨_, ho, rfl⟩, call_meets F.slot_tuple_mul ⟨_, ho, rfl⟩ F.entry_tuple_mul (F.args_tuple_mul_2 _ _) (tuple_mulW l its.toArray n dd sl k t c0 c1 c2 (by omega) c4 (by rw [size_rep, List.size_toArray]; exact flen)) ⟨ho, ?_⟩⟩)
      rw [size_rep]
      exact fin _ _ rfl (r.rep k.toNat)
end L2
namespace BV
open PySem PySem.Spec L2
section
variable {K : PySem.W.Frag} {ci : Nat → Addr} {G : Hp}
theorem reps_rep {vs : List V} {ws : List W} (r : RepVs K ci G vs ws) : ∀ n : Nat, RepVs K ci G (List.replicate n vs).flatten (List.replicate n ws).flatten
  | 0 => .nil
  | n + 1 => by
    rw [List.replicate_succ, List.replicate_succ, List.flatten_cons, List.flatten_cons]
    exact r.append (reps_rep r n)
end
section
variable {X : Cx} {ci : Nat → Addr} {BS : List Nat}
theorem mulOk_is {i j : Int} (h : mulOk i j = true) : CMul i j := by
  unfold mulOk at h
  rw [Bool.or_eq_true, decide_eq_true_eq, decide_eq_true_eq] at h
  exact h
theorem o_mul : OpS X ci BS (binaryOp .Mult) gMul := by
  refine ⟨_, op_mul.or (op_repA.or op_rep), fun W' s x y wx wy ov Q ok cx cy e h => ?_⟩
  cases wx with
  | int i =>
    cases wy with
    | int j =>
      unfold gMul at e
      dsimp only at e
      by_cases c : mulOk i j = true
      · rw [if_pos c] at e
        cases e
        exact .inl ⟨i, j, cx.int, cy.int, mulOk_is c, ret_same ok h (.int _)⟩
      · rw [if_neg c] at e
        cases e
    | _ => cases e
  | tup xs =>
    cases wy with
    | int k =>
      unfold gMul at e
      dsimp only at e
      by_cases c : 0 ≤ k ∧ k * xs.length ≤ 16777216 ∧ k < 16777217
      · rw [if_pos c] at e
        cases e
        obtain ⟨a, vs, rfl, h1, r1⟩ := cx.tup ok
        have l1 := r1.length
        refine .inr (.inl ⟨a, k, vs, rfl, cy.int, h1, c.1, by rw [l1]; exact c.2.1, c.2.2, fun z => ?_, fun _ _ p hp => ret_tup ok h (reps_rep r1 _) hp⟩)
        have e1 : (List.replicate k.toNat xs).flatten = xs := by
          rcases z with z | z
          · subst z
            have z1 := reps_nil r1
            subst z1
            simp
          · subst z
            simp
        rw [e1] at h
        rcases cx with cx | ⟨_, _, cx⟩
        · exact ret_same ok h cx
        · cases cx
      · rw [if_neg c] at e
        cases e
    | _ => cases e
  | lst xs =>
    cases wy with
    | int k =>
      unfold gMul at e
      dsimp only at e
      by_cases c : 0 ≤ k ∧ k * xs.length ≤ 16777216 ∧ k < 9223372036854775808
      · rw [if_pos c] at e
        cases e
        obtain ⟨a, vs, rfl, h1, r1⟩ := cx.lst ok
        have l1 := r1.length
        refine .inr (.inr ⟨a, k, vs, rfl, cy.int, h1, by omega, c.2.2, ?_, fun p hp => ret_lst ok h (reps_rep r1 _) hp⟩)
        rw [sizeLine_eq, l1]
        have a1 : ((xs.length * k.toNat : Nat) : Int) ≤ 16777216 := by
          rw [Int.natCast_mul, Int.toNat_of_nonneg c.1, Int.mul_comm]
          exact c.2.1
        omega
      · rw [if_neg c] at e
        cases e
    | _ => cases e
  | _ => cases e
/-! ### subscripts -/
def IxS (X : Cx) (ci : Nat → Addr) (BS : List Nat) (g : W → W → Option OV) : Prop := ∃ r : R2, IxR X r ∧ ∀ (W' : WX) (s : Sta) (x y : V) (wx wy : W) (ov : OV) (Q : VK),
  Ok X.K ci s → CurV X.K ci s x wx → CurV X.K ci s y wy → g wx wy = some ov → Acc X.K ci BS W' s (CE X.K ci s Q) (.ok ov s.env) → r x y s.H Q
theorem atI_reps {K : PySem.W.Frag} {G : Hp} {vs : List V} {ws : List W} {i : Int} {w : W} (r : RepVs K ci G vs ws) (h : atI ws i = some w) : ∃ v, atI vs i = some v ∧ RepV K ci G v w := by
  unfold atI at h ⊢
  rw [r.length]
  cases e : ixN ws.length i with
  | none => rw [e] at h; cases h
  | some j =>
    rw [e] at h
    exact r.get' h
theorem ix_all : IxS X ci BS gIx := by
  refine ⟨_, ix_seq, fun W' s x y wx wy ov Q ok cx cy e h => ?_⟩
  cases wx with
  | lst xs =>
    cases wy with
    | int i =>
      unfold gIx at e
      dsimp only at e
      cases q : atI xs i with
      | none => rw [q] at e; cases e
      | some w =>
        rw [q] at e
        cases e
        obtain ⟨a, vs, rfl, h1, r1⟩ := cx.lst ok
        obtain ⟨v, q1, q2⟩ := atI_reps r1 q
        exact .inl ⟨a, vs, i, v, rfl, cy.int, .inl (.inl h1), q1, ret_same ok h q2⟩
    | _ => cases e
  | fz xs =>
    cases wy with
    | int i =>
      unfold gIx at e
      dsimp only at e
      cases q : atI xs i with
      | none => rw [q] at e; cases e
      | some w =>
        rw [q] at e
        cases e
        obtain ⟨a, vs, rfl, h1, r1⟩ := cx.fz ok
        obtain ⟨v, q1, q2⟩ := atI_reps r1 q
        exact .inl ⟨a, vs, i, v, rfl, cy.int, h1, q1, ret_same ok h q2⟩
    | _ => cases e
  | tup xs =>
    cases wy with
    | int i =>
      unfold gIx at e
      dsimp only at e
      cases q : atI xs i with
      | none => rw [q] at e; cases e
      | some w =>
        rw [q] at e
        cases e
        obtain ⟨a, vs, rfl, h1, r1⟩ := cx.tup ok
        obtain ⟨v, q1, q2⟩ := atI_reps r1 q
        exact .inr (.inl ⟨a, vs, i, v, rfl, cy.int, h1, q1, ret_same ok h q2⟩)
    | _ => cases e
  | str z =>
    cases wy with
    | int i =>
      unfold gIx at e
      dsimp only at e
      by_cases c : z.length ≤ 16777216
      · rw [if_pos c] at e
        cases q : atI z.cps.toList i with
        | none => rw [q] at e; cases e
        | some w =>
          rw [q] at e
          cases e
          exact .inr (.inr ⟨z, i, w, cx.str, cy.int, sz_le c, q, ret_same ok h (.str _)⟩)
      · rw [if_neg c] at e
        cases e
    | _ => cases e
  | _ => cases e
theorem x_ix {a b : Expr} {fa fb : EF} {pos : Pos} {g : W → W → Option OV} (ho : IxS X ci BS g) (ha : SndE X ci BS a fa) (hb : SndE X ci BS b fb) (hs : PlainIx b := by exact fun _ _ => rfl) : SndE X ci BS (.Subscript a b pos) (fOp g fa fb) := by
  obtain ⟨ta, pa, qa⟩ := ha.ex
  obtain ⟨tb, pb, qb⟩ := hb.ex
  obtain ⟨r, pr, qr⟩ := ho
  exact ⟨⟨fun W' => tOp r (ta W') (tb W'), fun W' tk => pe_ix pr (pa W' tk) (pb W' tk) hs, fun W' s Q ok h => op_core qa qb qr W' s Q ok h⟩⟩
/-! ### slices -/
def cutL {α : Type} (xs : List α) (lo hi : Option Int) : List α := (xs.drop (HT.sIx xs.length 0 lo)).take (HT.sIx xs.length xs.length hi - HT.sIx xs.length 0 lo)
theorem reps_cut {K : PySem.W.Frag} {G : Hp} {vs : List V} {ws : List W} (r : RepVs K ci G vs ws) (lo hi : Option Int) : RepVs K ci G (cutV vs lo hi) (cutL ws lo hi) := by
  unfold cutV cutL
  rw [r.length]
  exact (r.drop _).take _
def gSl (w : W) (lo hi : Option Int) : Option OV := match w with
  | .lst xs => some (.n (.lst (cutL xs lo hi)))
  | .fz xs => some (.n (.lst (cutL xs lo hi)))
  | .tup xs => some (.v (.tup (cutL xs lo hi)))
  | .str z => if z.length ≤ 16777216 then some (.v (.str (cutS z lo hi))) else none
  | _ => none
abbrev OF := Ev → Res (Option Int)
structure SndO (X : Cx) (ci : Nat → Addr) (BS : List Nat) (e : Option Expr) (f : OF) : Prop where
  ex : ∃ te : WX → TO, (∀ W', Takes X W' → PO X e (te W')) ∧ ∀ (W' : WX) (s : Sta) (Q : Option Int → Hp → Prop), Ok X.K ci s → Acc X.K ci BS W' s (fun o s' => Q o s'.H) (f s.env) → te W' s.σ s.H Q
def fNoPart : OF := fun env => .ok none env
def asI : W → Option Int
  | .int i => some i
  | _ => none
def fPart (f : EF) : OF := fun env => (f env).bind fun ov env => match (getOV ov env).bind asI with
  | some i => .ok (some i) env
  | none => .bad
def fSl (f : EF) (l h : OF) : EF := fun env => (f env).bind fun x env => (l env).bind fun lo env => (h env).bind fun hi env => retOV ((getOV x env).bind fun w => gSl w lo hi) env
theorem so_none : SndO X ci BS none fNoPart := ⟨⟨fun _ => tNoPart, fun _ _ => po_none, fun W' s Q ok h => h s.G s.H Step.refl ok⟩⟩
theorem so_some {e : Expr} {f : EF} (ha : SndE X ci BS e f) : SndO X ci BS (some e) (fPart f) := by
  obtain ⟨ta, pa, qa⟩ := ha.ex
  refine ⟨⟨fun W' => tPart (ta W'), fun W' tk => po_some (pa W' tk), fun W' s Q ok h => ?_⟩⟩
  refine qa W' s _ ok (h.bind.imp fun ov env1 G1 H1 st1 ok1 h1 => ?_)
  intro v rep new
  cases e1 : getOV ov env1 with
  | none => dsimp only at h1; rw [e1] at h1; exact h1.elim
  | some w =>
    dsimp only at h1
    rw [e1] at h1
    cases w with
    | int i => exact ⟨i, (cur_of ok1 rep e1).int, h1 G1 H1 Step.refl ok1⟩
    | _ => exact h1.elim
theorem x_slice {e : Expr} {lo hi : Option Expr} {f : EF} {l h' : OF} {p2 pos : Pos} (he : SndE X ci BS e f) (hl : SndO X ci BS lo l) (hh : SndO X ci BS hi h') : SndE X ci BS (.Subscript e (.Slice lo hi none p2) pos) (fSl f l h') := by
  obtain ⟨t1, p1, q1⟩ := he.ex
  obtain ⟨t2, pp2, q2⟩ := hl.ex
  obtain ⟨t3, p3, q3⟩ := hh.ex
  refine ⟨⟨fun W' => tSl _ (t1 W') (t2 W') (t3 W'), fun W' tk => pe_slice (sl_list.or (sl_tupA.or sl_str)) (p1 W' tk) (pp2 W' tk) (p3 W' tk), fun W' s Q ok h => ?_⟩⟩
  refine q1 W' s _ ok (h.bind.imp fun ox env1 G1 H1 st1 ok1 h1 => ?_)
  intro v rep new
  refine q2 W' ⟨env1, s.σ, G1, H1⟩ _ ok1 (h1.bind.imp fun lo env2 G2 H2 st2 ok2 h2 => ?_)
  refine q3 W' ⟨env2, s.σ, G2, H2⟩ _ ok2 (h2.bind.imp fun hi env3 G3 H3 st3 ok3 h3 => ?_)
  have rep' : RepOV X.K ci ⟨env3, s.σ, G3, H3⟩ v ox := rep.step (Step.trans st2 st3)
  have h3 : Acc X.K ci BS W' ⟨env3, s.σ, G3, H3⟩ (CE X.K ci s Q) (retOV ((getOV ox env3).bind fun w => gSl w lo hi) env3) := h3
  cases e1 : getOV ox env3 with
  | none => rw [e1] at h3; exact h3.elim
  | some w =>
    rw [e1] at h3
    have h3 : Acc X.K ci BS W' ⟨env3, s.σ, G3, H3⟩ (CE X.K ci s Q) (retOV (gSl w lo hi) env3) := h3
    have c := cur_of ok3 rep' e1
    have fin : ∀ {r : Res OV}, Acc X.K ci BS W' ⟨env3, s.σ, G3, H3⟩ (CE X.K ci s Q) r → Acc X.K ci BS W' ⟨env3, s.σ, G3, H3⟩ (CE X.K ci ⟨env3, s.σ, G3, H3⟩ Q) r := fun hr => hr.imp fun ov' env2 G2 H2 st4 ok2 h3 z rz nz => h3 z rz (NewOV.back (Step.trans st1 (Step.trans st2 st3)) nz)
    cases w with
    | lst xs =>
      obtain ⟨a, vs, rfl, hh1, r1⟩ := c.lst ok3
      exact .inl ⟨a, vs, rfl, .inl (.inl hh1), fun p hp => ret_lst (W' := W') (s := ⟨env3, s.σ, G3, H3⟩) ok3 (fin h3) (reps_cut r1 lo hi) hp⟩
    | fz xs =>
      obtain ⟨a, vs, rfl, hh1, r1⟩ := c.fz ok3
      exact .inl ⟨a, vs, rfl, hh1, fun p hp => ret_lst (W' := W') (s := ⟨env3, s.σ, G3, H3⟩) ok3 (fin h3) (reps_cut r1 lo hi) hp⟩
    | tup xs =>
      obtain ⟨a, vs, rfl, hh1, r1⟩ := c.tup ok3
      refine .inr (.inl ⟨a, vs, rfl, hh1, fun z => ?_, fun _ p hp => ret_tup (W' := W') (s := ⟨env3, s.σ, G3, H3⟩) ok3 (fin h3) (reps_cut r1 lo hi) hp⟩)
      have e2 : cutL xs lo hi = xs := by
        unfold cutL
        rw [← r1.length, z.1, z.2, r1.length]
        simp
      have h3' := fin h3
      have h4 : Acc X.K ci BS W' ⟨env3, s.σ, G3, H3⟩ (CE X.K ci ⟨env3, s.σ, G3, H3⟩ Q) (.ok (.v (.tup (cutL xs lo hi))) env3) := h3'
      rw [e2] at h4
      rcases c with c | ⟨_, _, c⟩
      · exact ret_same (W' := W') (s := ⟨env3, s.σ, G3, H3⟩) ok3 h4 c
      · cases c
    | str z =>
      unfold gSl at h3
      dsimp only at h3
      by_cases hz : z.length ≤ 16777216
      · rw [if_pos hz] at h3
        exact .inr (.inr ⟨z, c.str, sz_le hz, ret_same (W' := W') (s := ⟨env3, s.σ, G3, H3⟩) ok3 (fin h3) (.str _)⟩)
      · rw [if_neg hz] at h3
        exact h3.elim
    | _ => exact h3.elim
end
end BV

set_option maxRecDepth 100000
set_option maxHeartbeats 4000000
/-! BV: built-ins that are called; isinstance. -/
namespace BV
open PySem PySem.Spec L2
section
variable {X : Cx} {ci : Nat → Addr} {BS : List Nat}
theorem cur1 {s : Sta} {xs : List V} {w : W} (h : Paired (CurV X.K ci s) xs [w]) : ∃ x, xs = [x] ∧ CurV X.K ci s x w := by
  cases h with
  | cons r t => cases t; exact ⟨_, rfl, r⟩
theorem cur2 {s : Sta} {xs : List V} {w u : W} (h : Paired (CurV X.K ci s) xs [w, u]) : ∃ x y, xs = [x, y] ∧ CurV X.K ci s x w ∧ CurV X.K ci s y u := by
  cases h with
  | cons r t =>
    obtain ⟨y, rfl, q⟩ := cur1 t
    exact ⟨_, y, rfl, r, q⟩
theorem b_len : CallS X ci BS (.builtin "len") gLen := by
  refine ⟨_, call_len_seq.or call_len_str, fun W' s xs ws ov Q ok cx e h => ?_⟩
  match ws, e with
  | [.lst ys], e =>
    cases e
    obtain ⟨x, rfl, c⟩ := cur1 cx
    obtain ⟨a, vs, rfl, h1, r1⟩ := c.lst ok
    refine .inl ⟨a, vs, rfl, .inl (.inl (.inl h1)), ?_⟩
    rw [r1.length]
    exact ret_same ok h (.int _)
  | [.fz ys], e =>
    cases e
    obtain ⟨x, rfl, c⟩ := cur1 cx
    obtain ⟨a, vs, rfl, h1, r1⟩ := c.fz ok
    refine .inl ⟨a, vs, rfl, .inl h1, ?_⟩
    rw [r1.length]
    exact ret_same ok h (.int _)
  | [.tup ys], e =>
    cases e
    obtain ⟨x, rfl, c⟩ := cur1 cx
    obtain ⟨a, vs, rfl, h1, r1⟩ := c.tup ok
    refine .inl ⟨a, vs, rfl, .inr h1, ?_⟩
    rw [r1.length]
    exact ret_same ok h (.int _)
  | [.str z], e =>
    unfold gLen at e
    dsimp only at e
    by_cases hz : z.length ≤ 16777216
    · rw [if_pos hz] at e
      cases e
      obtain ⟨x, rfl, c⟩ := cur1 cx
      exact .inr ⟨z, by rw [c.str], sz_le hz, ret_same ok h (.int _)⟩
    · rw [if_neg hz] at e
      cases e
theorem b_int : CallS X ci BS (.type "int") gInt := by
  refine ⟨_, call_int1, fun W' s xs ws ov Q ok cx e h => ?_⟩
  match ws, e with
  | [.int i], e =>
    cases e
    obtain ⟨x, rfl, c⟩ := cur1 cx
    exact .inl ⟨i, by rw [c.int], ret_same ok h (.int _)⟩
  | [.bl b], e =>
    cases e
    obtain ⟨x, rfl, c⟩ := cur1 cx
    exact .inr ⟨b, by rw [c.bl], ret_same ok h (.int _)⟩
theorem b_list : CallS X ci BS (.type "list") gList := by
  refine ⟨_, call_list_of, fun W' s xs ws ov Q ok cx e h => ?_⟩
  match ws, e with
  | [.lst ys], e =>
    cases e
    obtain ⟨x, rfl, c⟩ := cur1 cx
    obtain ⟨a, vs, rfl, h1, r1⟩ := c.lst ok
    exact ⟨a, vs, rfl, .inl (.inl (.inl h1)), fun p hp => ret_lst ok h r1 hp⟩
  | [.fz ys], e =>
    cases e
    obtain ⟨x, rfl, c⟩ := cur1 cx
    obtain ⟨a, vs, rfl, h1, r1⟩ := c.fz ok
    exact ⟨a, vs, rfl, .inl h1, fun p hp => ret_lst ok h r1 hp⟩
  | [.tup ys], e =>
    cases e
    obtain ⟨x, rfl, c⟩ := cur1 cx
    obtain ⟨a, vs, rfl, h1, r1⟩ := c.tup ok
    exact ⟨a, vs, rfl, .inr h1, fun p hp => ret_lst ok h r1 hp⟩
theorem b_tuple : CallS X ci BS (.type "tuple") gTuple := by
  refine ⟨_, call_tuple_of, fun W' s xs ws ov Q ok cx e h => ?_⟩
  match ws, e with
  | [.lst ys], e =>
    cases e
    obtain ⟨x, rfl, c⟩ := cur1 cx
    obtain ⟨a, vs, rfl, h1, r1⟩ := c.lst ok
    exact ⟨a, vs, rfl, .inl ⟨.inl (.inl h1), fun p hp => ret_tup ok h r1 hp⟩⟩
  | [.fz ys], e =>
    cases e
    obtain ⟨x, rfl, c⟩ := cur1 cx
    obtain ⟨a, vs, rfl, h1, r1⟩ := c.fz ok
    exact ⟨a, vs, rfl, .inl ⟨h1, fun p hp => ret_tup ok h r1 hp⟩⟩
  | [.tup ys], e =>
    cases e
    obtain ⟨x, rfl, c⟩ := cur1 cx
    obtain ⟨a, vs, rfl, h1, r1⟩ := c.tup ok
    refine ⟨a, vs, rfl, .inr ⟨h1, ?_⟩⟩
    rcases c with c | ⟨_, _, c⟩
    · exact ret_same ok h c
    · cases c
theorem bools_of {K : PySem.W.Frag} {G : Hp} : ∀ {vs : List V} {ws : List W} {bs : List Bool}, RepVs K ci G vs ws → bools ws = some bs → vs = bs.map V.bl
  | _, _, _, .nil, e => by cases e; rfl
  | v :: vs, w :: ws, bs, .cons r t, e => by
    cases w with
    | bl b =>
      unfold bools at e
      cases q : bools ws with
      | none => rw [q] at e; cases e
      | some cs =>
        rw [q] at e
        cases e
        cases r
        rw [bools_of t q]
        rfl
    | _ => cases e
theorem b_all (hc : X.calm = true := by rfl) : CallS X ci BS (.builtin "all") gAll := by
  refine ⟨_, cr_all hc, fun W' s xs ws ov Q ok cx e h => ?_⟩
  match ws, e with
  | [.lst ys], e =>
    unfold gAll at e
    dsimp only at e
    cases q : bools ys with
    | none => rw [q] at e; cases e
    | some bs =>
      rw [q] at e
      cases e
      obtain ⟨x, rfl, c⟩ := cur1 cx
      obtain ⟨a, vs, rfl, h1, r1⟩ := c.lst ok
      exact ⟨a, bs, rfl, by rw [← bools_of r1 q]; exact .inl (.inl h1), ret_same ok h (.bl _)⟩
theorem b_any (hc : X.calm = true := by rfl) : CallS X ci BS (.builtin "any") gAny := by
  refine ⟨_, cr_any hc, fun W' s xs ws ov Q ok cx e h => ?_⟩
  match ws, e with
  | [.lst ys], e =>
    unfold gAny at e
    dsimp only at e
    cases q : bools ys with
    | none => rw [q] at e; cases e
    | some bs =>
      rw [q] at e
      cases e
      obtain ⟨x, rfl, c⟩ := cur1 cx
      obtain ⟨a, vs, rfl, h1, r1⟩ := c.lst ok
      exact ⟨a, bs, rfl, by rw [← bools_of r1 q]; exact .inl (.inl h1), ret_same ok h (.bl _)⟩
theorem b_min2 (hc : X.calm = true := by rfl) : CallS X ci BS (.builtin "min") gMin2 := by
  refine ⟨_, call_min2 hc, fun W' s xs ws ov Q ok cx e h => ?_⟩
  match ws, e with
  | [.int i, .int j], e =>
    cases e
    obtain ⟨x, y, rfl, c, d⟩ := cur2 cx
    exact ⟨i, j, by rw [c.int, d.int], ret_same ok h (.int _)⟩
theorem b_max2 (hc : X.calm = true := by rfl) : CallS X ci BS (.builtin "max") gMax2 := by
  refine ⟨_, call_max2 hc, fun W' s xs ws ov Q ok cx e h => ?_⟩
  match ws, e with
  | [.int i, .int j], e =>
    cases e
    obtain ⟨x, y, rfl, c, d⟩ := cur2 cx
    exact ⟨i, j, by rw [c.int, d.int], ret_same ok h (.int _)⟩
theorem b_abs : CallS X ci BS (.builtin "abs") gAbs := by
  refine ⟨_, call_abs, fun W' s xs ws ov Q ok cx e h => ?_⟩
  match ws, e with
  | [.int i], e =>
    cases e
    obtain ⟨x, rfl, c⟩ := cur1 cx
    exact ⟨i, by rw [c.int], ret_same ok h (.int _)⟩
/-! ### isinstance -/
/-- the built-in type's name -/
def tyN : W → Option String
  | .non => some "NoneType"
  | .bl _ => some "bool"
  | .int _ => some "int"
  | .str _ => some "str"
  | .tup _ => some "tuple"
  | .lst _ => some "list"
  | .dct _ => some "dict"
  | _ => none
theorem ty_of {s : Sta} (ok : Ok X.K ci s) {v : V} {w : W} {n : String} (c : CurV X.K ci s v w) (e : tyN w = some n) : TyX X.K s.H v (.type n) := by
  rcases c with c | ⟨a, rfl, c⟩
  · cases c with
    | non => cases e; exact .base .non
    | bl b => cases e; exact .base (.bl b)
    | int b => cases e; exact .base (.int b)
    | str b => cases e; exact .base (.str b)
    | tup h r =>
      cases e
      rcases sqT_mono ok.sub h with (h | ⟨o, h⟩) | ⟨o, its, n, h, hc, _⟩
      · exact .base (.tup h)
      · exact .fTuple h
      · exact .kTuple h hc
    | lst h r => cases e; exact .base (.lst (ok.sub _ _ h))
    | fz h r => cases e
    | dK h r => cases e; exact .base (.dK (ok.sub _ _ h))
    | dT h r => cases e; exact .base (.dT (ok.sub _ _ h))
    | ins h r => cases e
    | exc h r => cases e
  · cases c with
    | lst h r => cases e; exact .base (.lst h)
    | dK h r => cases e; exact .base (.dK h)
    | dT h r => cases e; exact .base (.dT h)
    | ins h r => cases e
/-- isinstance(x, T), T told by a table of names -/
def gIsi (t : String → Option Bool) : List W → Option OV
  | [w] => (tyN w).bind fun n => (t n).map fun b => .v (.bl b)
  | _ => none
def tInt : String → Option Bool := fun n => if n = "int" ∨ n = "bool" then some true else if n = "NoneType" ∨ n = "str" ∨ n = "tuple" ∨ n = "list" ∨ n = "dict" then some false else none
def tOne (T : String) : String → Option Bool := fun n => if n = T then some true else if n = "NoneType" ∨ n = "str" ∨ n = "tuple" ∨ n = "list" ∨ n = "dict" ∨ n = "int" ∨ n = "bool" then some false else none
def Tab (T : String) (t : String → Option Bool) : Prop := ∀ n b, t n = some b → kitB n T = some b
theorem tab_int : Tab "int" tInt := fun n b h => by
  unfold tInt at h
  split at h
  · rename_i q
    cases h
    rcases q with rfl | rfl
    · decide +kernel
    · decide +kernel
  · split at h
    · rename_i q
      cases h
      rcases q with rfl | rfl | rfl | rfl | rfl <;> decide +kernel
    · cases h
theorem tab_one {T : String} (h1 : kitB T T = some true) (hi : T = "bool" ∨ T = "str" ∨ T = "tuple" ∨ T = "list" ∨ T = "dict") : Tab T (tOne T) := fun n b h => by
  unfold tOne at h
  split at h
  · rename_i q
    cases h
    subst q
    exact h1
  · split at h
    · rename_i nq q
      cases h
      rcases hi with rfl | rfl | rfl | rfl | rfl <;> rcases q with rfl | rfl | rfl | rfl | rfl | rfl | rfl <;> first
        | exact absurd rfl nq
        | decide +kernel
    · cases h
theorem tab_bool : Tab "bool" (tOne "bool") := tab_one (by decide +kernel) (by simp)
theorem tab_str : Tab "str" (tOne "str") := tab_one (by decide +kernel) (by simp)
theorem tab_tuple : Tab "tuple" (tOne "tuple") := tab_one (by decide +kernel) (by simp)
theorem tab_list : Tab "list" (tOne "list") := tab_one (by decide +kernel) (by simp)
theorem tab_dict : Tab "dict" (tOne "dict") := tab_one (by decide +kernel) (by simp)
variable {e : Expr} {fa : EF} {p p2 pos : Pos}
theorem x_isi {T : String} {t : String → Option Bool} {y : Str} (ht : Tab T t) (hgi : Gl X "isinstance") (hmi : X.mg "isinstance" = none) (hvi : bootBuiltins "isinstance" = some (.builtin "isinstance")) (hg : Gl X y) (hm : X.mg y = none) (hv : bootBuiltins y = some (.type T)) (ha : SndE X ci BS e fa) (hn : y ≠ "__name__" := by decide) (hd : (y == ("__debug__" : Str)) = false := by decide)
    (hs1 : starEach [e, .Name y p2] X.env = (false, eval e X.env) :: starEach [.Name y p2] X.env := by rfl) (hs2 : starEach [.Name y p2] X.env = (false, eval (.Name y p2) X.env) :: starEach [] X.env := by rfl) (hpl : (backTo pos (starEach [.Name y p2] X.env)).any (·.1) = false := by rfl) :
    SndE X ci BS (.Call (.Name "isinstance" p) [e, .Name y p2] [] pos) (fB (gIsi t) (fCons fa fNil)) := by
  obtain ⟨te, pp, q⟩ := ha.ex
  refine ⟨⟨fun W' => tCB (rIsi X.K) (tCons (te W') (tCons (tC (.ty T)) tNil)), fun W' tk => pe_callB call_isi hgi hmi hvi (pa_cons (pp W' tk) (pa_cons (pe_bltn hg hm hv rfl hn hd) pa_nil hs2) hs1) (by decide) (by decide) hs1 hpl, fun W' s Q ok h => ?_⟩⟩
  refine q W' s _ ok (h.bind.bind.imp fun ox env1 G1 H1 st1 ok1 h1 => ?_)
  intro v rep new
  have h1 : Acc X.K ci BS W' ⟨env1, s.σ, G1, H1⟩ (CE X.K ci s Q) (retOV ((getOVs [ox] env1).bind (gIsi t)) env1) := h1 G1 H1 Step.refl ok1
  cases e1 : getOV ox env1 with
  | none => unfold getOVs at h1; rw [e1] at h1; exact h1.elim
  | some w =>
    unfold getOVs at h1
    rw [e1] at h1
    have h1 : Acc X.K ci BS W' ⟨env1, s.σ, G1, H1⟩ (CE X.K ci s Q) (retOV ((tyN w).bind fun n => (t n).map fun b => .v (.bl b)) env1) := h1
    cases e2 : tyN w with
    | none => rw [e2] at h1; exact h1.elim
    | some n =>
      rw [e2] at h1
      have h1 : Acc X.K ci BS W' ⟨env1, s.σ, G1, H1⟩ (CE X.K ci s Q) (retOV ((t n).map fun b => .v (.bl b)) env1) := h1
      cases e3 : t n with
      | none => rw [e3] at h1; exact h1.elim
      | some b =>
        rw [e3] at h1
        refine ⟨v, .ty T, .type n, .type T, b, rfl, .ty T, ty_of ok1 (cur_of ok1 rep e1) e2, kit_ty (ht n b e3), ?_⟩
        exact ret_same (W' := W') (s := ⟨env1, s.σ, G1, H1⟩) ok1 (h1.imp fun ov' env4 G4 H4 st4 ok4 h4 z rz nz => h4 z rz (NewOV.back st1 nz)) (.bl _)
end
end BV

set_option maxRecDepth 100000
set_option maxHeartbeats 4000000
/-! BV: statements. -/
namespace BV
open PySem PySem.Spec L2

inductive SR where
  | bad | nx (env : Ev) | rt (w : W) (env : Ev) | rn (w : W) (env : Ev) | bk (env : Ev) | ct (env : Ev) | er (x : Exc) (env : Ev)
abbrev SF := Ev → SR
def Res.andS {α : Type} (r : Res α) (k : α → Ev → SR) : SR := match r with
  | .bad => .bad
  | .ok a env => k a env
  | .er x env => .er x env
section
variable (K : PySem.W.Frag) (ci : Nat → Addr) (BS : List Nat)
def AccS (W' : WX) (s : Sta) (D : Ends) : SR → Prop
  | .bad => False
  | .nx env' => ∀ σ' G' H', Stp BS s ⟨env', σ', G', H'⟩ → Ok K ci ⟨env', σ', G', H'⟩ → D.nx σ' H'
  | .bk env' => ∀ σ' G' H', Stp BS s ⟨env', σ', G', H'⟩ → Ok K ci ⟨env', σ', G', H'⟩ → D.bk σ' H'
  | .ct env' => ∀ σ' G' H', Stp BS s ⟨env', σ', G', H'⟩ → Ok K ci ⟨env', σ', G', H'⟩ → D.ct σ' H'
  | .rt w env' => ∀ σ' G' H' v, Stp BS s ⟨env', σ', G', H'⟩ → Ok K ci ⟨env', σ', G', H'⟩ → RepV K ci G' v w → D.rt v H'
  | .rn w env' => ∀ σ' G' H' a, Stp BS s ⟨env', σ', G', H'⟩ → Ok K ci ⟨env', σ', G', H'⟩ → RepO K ci G' H' a w → G' a = none → (∀ i, ¬ OwnAt env' σ' i a) → (s.H a = none ∨ ∃ j, j ∉ BS ∧ OwnAt s.env s.σ j a) → D.rt (.ref a) H'
  | .er x env' => ∀ σ' G' H' cls d, Stp BS s ⟨env', σ', G', H'⟩ → Ok K ci ⟨env', σ', G', H'⟩ → RepX K ci G' H' cls d x → W' cls d σ' H'
end
section
variable {K : PySem.W.Frag} {ci : Nat → Addr} {BS : List Nat} {α : Type} {W' : WX} {s m : Sta} {D : Ends} {r : SR}
theorem AccS.mid (h : AccS K ci BS W' s D r) (st : Stp BS s m) : AccS K ci BS W' m D r := by
  cases r with
  | bad => exact h
  | nx e => exact fun σ' G' H' st' ok => h σ' G' H' (Step.trans st st') ok
  | bk e => exact fun σ' G' H' st' ok => h σ' G' H' (Step.trans st st') ok
  | ct e => exact fun σ' G' H' st' ok => h σ' G' H' (Step.trans st st') ok
  | rt w e => exact fun σ' G' H' v st' ok rv => h σ' G' H' v (Step.trans st st') ok rv
  | rn w e =>
    refine fun σ' G' H' a st' ok ro g no nw => h σ' G' H' a (Step.trans st st') ok ro g no ?_
    rcases nw with q | ⟨j, hj, q⟩
    · cases e1 : s.H a with
      | none => exact .inl rfl
      | some o => exact absurd q (st.here a (by rw [e1]; exact fun z => nomatch z))
    · rcases st.new j a q with ⟨z, _⟩ | ⟨_, z⟩
      · exact absurd z hj
      · exact z
  | er x e => exact fun σ' G' H' cls d st' ok rx => h σ' G' H' cls d (Step.trans st st') ok rx
theorem AccS.andS {r : Res α} {k : α → Ev → SR} (h : AccS K ci BS W' s D (r.andS k)) : Acc K ci BS W' s (fun a m => AccS K ci BS W' m D (k a m.env)) r := by
  cases r with
  | bad => exact h
  | ok a env' => exact fun G' H' st ok => AccS.mid h st
  | er x env' => exact fun G' H' cls d st ok rx => h s.σ G' H' cls d st ok rx
/-- a slot takes a value -/
theorem set_slot (ok : Ok K ci s) {i : Nat} {v : V} {w : W} (hi : i ∉ BS) (r : RepV K ci s.G v w) : Stp BS s ⟨s.env.set i (.dat w), s.σ.set i (some v), s.G, s.H⟩ ∧ Ok K ci ⟨s.env.set i (.dat w), s.σ.set i (some v), s.G, s.H⟩ := by
  have ne : ∀ {j : Nat} {u : W}, (s.env.set i (.dat w))[j]? = some (.own u) → j ≠ i ∧ s.env[j]? = some (.own u) := fun {j u} h => by
    by_cases hj : j = i
    · subst hj
      by_cases hl : j < s.env.length
      · rw [List.getElem?_set_self hl] at h
        cases h
      · rw [List.getElem?_eq_none (by rw [List.length_set]; omega)] at h
        cases h
    · rw [List.getElem?_set_ne (Ne.symm hj)] at h
      exact ⟨hj, h⟩
  have own : ∀ {j : Nat} {a : Addr}, OwnAt (s.env.set i (.dat w)) (s.σ.set i (some v)) j a → OwnAt s.env s.σ j a := fun {j a} ⟨⟨u, h⟩, q⟩ => by
    obtain ⟨hj, h'⟩ := ne h
    rw [List.getElem?_set_ne (Ne.symm hj)] at q
    exact ⟨⟨u, h'⟩, q⟩
  refine ⟨⟨Same.refl _, fun _ _ h _ => h, fun _ _ h _ => h, fun _ h => h, fun j a h => ?_, fun j hj => ?_⟩, ⟨ok.sub, by rw [List.length_set, List.length_set]; exact ok.len, fun j u h => ?_, fun j u h => ?_, fun j k a h1 h2 => ok.inj j k a (own h1) (own h2)⟩⟩
  · by_cases hB : j ∈ BS
    · exact .inl ⟨hB, own h⟩
    · exact .inr ⟨hB, .inr ⟨j, hB, own h⟩⟩
  · have hj' : j ≠ i := fun z => hi (z ▸ hj)
    refine ⟨List.getElem?_set_ne (Ne.symm hj'), fun ⟨u, h⟩ => ⟨u, ?_⟩⟩
    show (s.env.set i (.dat w))[j]? = _
    rw [List.getElem?_set_ne (Ne.symm hj')]
    exact h
  · by_cases hj : j = i
    · subst hj
      by_cases hl : j < s.env.length
      · have h' : (s.env.set j (.dat w))[j]? = some (.dat u) := h
        rw [List.getElem?_set_self hl] at h'
        cases h'
        refine ⟨v, ?_, r⟩
        show (s.σ.set j (some v))[j]? = _
        rw [List.getElem?_set_self (by rw [← ok.len]; exact hl)]
      · have h' : (s.env.set j (.dat w))[j]? = some (.dat u) := h
        rw [List.getElem?_eq_none (by rw [List.length_set]; omega)] at h'
        cases h'
    · have h' : (s.env.set i (.dat w))[j]? = some (.dat u) := h
      rw [List.getElem?_set_ne (Ne.symm hj)] at h'
      obtain ⟨x, q1, q2⟩ := ok.dat j u h'
      refine ⟨x, ?_, q2⟩
      show (s.σ.set i (some v))[j]? = _
      rw [List.getElem?_set_ne (Ne.symm hj)]
      exact q1
  · obtain ⟨hj, h'⟩ := ne h
    obtain ⟨a, q1, q2, q3⟩ := ok.own j u h'
    refine ⟨a, ?_, q2, q3⟩
    show (s.σ.set i (some v))[j]? = _
    rw [List.getElem?_set_ne (Ne.symm hj)]
    exact q1
/-- a slot takes a new object for its own -/
theorem set_own (ok : Ok K ci m) (st : Stp BS s m) {i : Nat} {a : Addr} {w : W} (hi : i ∉ BS) (r : RepO K ci m.G m.H a w) (g : m.G a = none) (no : ∀ j, ¬ OwnAt m.env m.σ j a) (nw : s.H a = none) :
    Stp BS s ⟨m.env.set i (.own w), m.σ.set i (some (.ref a)), m.G, m.H⟩ ∧ Ok K ci ⟨m.env.set i (.own w), m.σ.set i (some (.ref a)), m.G, m.H⟩ := by
  have ne : ∀ {j : Nat} {u : Sl}, j ≠ i → ((m.env.set i (.own w))[j]? = some u ↔ m.env[j]? = some u) := fun {j u} hj => by rw [List.getElem?_set_ne (Ne.symm hj)]
  have neσ : ∀ {j : Nat}, j ≠ i → (m.σ.set i (some (.ref a)))[j]? = m.σ[j]? := fun {j} hj => List.getElem?_set_ne (Ne.symm hj)
  have ati : ∀ {u : Sl}, (m.env.set i (.own w))[i]? = some u → u = .own w ∧ i < m.env.length := fun {u} h => by
    by_cases hl : i < m.env.length
    · rw [List.getElem?_set_self hl] at h
      exact ⟨(Option.some.inj h).symm, hl⟩
    · rw [List.getElem?_eq_none (by rw [List.length_set]; omega)] at h
      cases h
  have own : ∀ {j : Nat} {b : Addr}, OwnAt (m.env.set i (.own w)) (m.σ.set i (some (.ref a))) j b → (j = i ∧ b = a) ∨ (j ≠ i ∧ OwnAt m.env m.σ j b) := fun {j b} ⟨⟨u, h⟩, q⟩ => by
    by_cases hj : j = i
    · subst hj
      obtain ⟨_, hl⟩ := ati h
      rw [List.getElem?_set_self (by rw [← ok.len]; exact hl)] at q
      have z := Option.some.inj (Option.some.inj q)
      exact .inl ⟨rfl, (V.ref.inj z).symm⟩
    · exact .inr ⟨hj, ⟨u, (ne hj).mp h⟩, by rw [neσ hj] at q; exact q⟩
  refine ⟨⟨st.sub, st.keep, st.pers, st.here, fun j b h => ?_, fun j hj => ?_⟩, ⟨ok.sub, by rw [List.length_set, List.length_set]; exact ok.len, fun j u h => ?_, fun j u h => ?_, fun j k b h1 h2 => ?_⟩⟩
  · rcases own h with ⟨rfl, rfl⟩ | ⟨hj, q⟩
    · exact .inr ⟨hi, .inl nw⟩
    · exact st.new j b q
  · have hj' : j ≠ i := fun z => hi (z ▸ hj)
    obtain ⟨q1, q2⟩ := st.bs j hj
    refine ⟨(neσ hj').trans q1, fun z => ?_⟩
    obtain ⟨u, q⟩ := q2 z
    exact ⟨u, (ne hj').mpr q⟩
  · by_cases hj : j = i
    · subst hj
      have z := (ati h).1
      cases z
    · obtain ⟨x, q1, q2⟩ := ok.dat j u ((ne hj).mp h)
      exact ⟨x, (neσ hj).trans q1, q2⟩
  · by_cases hj : j = i
    · subst hj
      obtain ⟨z, hl⟩ := ati h
      cases z
      refine ⟨a, ?_, g, r⟩
      show (m.σ.set j (some (.ref a)))[j]? = _
      rw [List.getElem?_set_self (by rw [← ok.len]; exact hl)]
    · obtain ⟨b, q1, q2, q3⟩ := ok.own j u ((ne hj).mp h)
      exact ⟨b, (neσ hj).trans q1, q2, q3⟩
  · rcases own h1 with ⟨rfl, rfl⟩ | ⟨hj, q1⟩
    · rcases own h2 with ⟨rfl, _⟩ | ⟨hk, q2⟩
      · rfl
      · exact absurd q2 (no k)
    · rcases own h2 with ⟨rfl, rfl⟩ | ⟨hk, q2⟩
      · exact absurd q1 (no j)
      · exact ok.inj j k b q1 q2
/-- a slot's own object is changed -/
theorem upd_own (ok : Ok K ci s) {i : Nat} {a : Addr} {w w' : W} {o : HO} (hw : s.env[i]? = some (.own w)) (ha : s.σ[i]? = some (some (.ref a))) (r : RepO K ci s.G (upd s.H a o) a w') :
    Stp BS s ⟨s.env.set i (.own w'), s.σ, s.G, upd s.H a o⟩ ∧ Ok K ci ⟨s.env.set i (.own w'), s.σ, s.G, upd s.H a o⟩ := by
  have il : i < s.env.length := (List.getElem?_eq_some_iff.mp hw).1
  have me : OwnAt s.env s.σ i a := ⟨⟨w, hw⟩, ha⟩
  obtain ⟨ga, ha2, _⟩ := ok.ownAt me
  have ati : (s.env.set i (.own w'))[i]? = some (.own w') := List.getElem?_set_self il
  have ne : ∀ {j : Nat} {u : Sl}, j ≠ i → ((s.env.set i (.own w'))[j]? = some u ↔ s.env[j]? = some u) := fun {j u} hj => by rw [List.getElem?_set_ne (Ne.symm hj)]
  have own : ∀ {j : Nat} {b : Addr}, OwnAt (s.env.set i (.own w')) s.σ j b → OwnAt s.env s.σ j b := fun {j b} ⟨⟨u, h⟩, q⟩ => by
    by_cases hj : j = i
    · subst hj
      exact ⟨⟨w, hw⟩, q⟩
    · exact ⟨⟨u, (ne hj).mp h⟩, q⟩
  refine ⟨⟨Same.refl _, fun b o' h no => ?_, fun _ _ h _ => h, fun b h => ?_, fun j b h => ?_, fun j hj => ⟨rfl, fun ⟨u, h⟩ => ?_⟩⟩, ⟨fun b o' q => ?_, by rw [List.length_set]; exact ok.len, fun j u h => ?_, fun j u h => ?_, fun j k b h1 h2 => ok.inj j k b (own h1) (own h2)⟩⟩
  · have nb : b ≠ a := fun z => no i (z ▸ me)
    show upd s.H a o b = _
    rw [upd_ne nb]
    exact h
  · show upd s.H a o b ≠ none
    by_cases nb : b = a
    · subst nb
      rw [upd_same]
      exact fun z => nomatch z
    · rw [upd_ne nb]
      exact h
  · by_cases hB : j ∈ BS
    · exact .inl ⟨hB, own h⟩
    · exact .inr ⟨hB, .inr ⟨j, hB, own h⟩⟩
  · by_cases hj' : j = i
    · subst hj'
      exact ⟨w', ati⟩
    · exact ⟨u, (ne hj').mpr h⟩
  · have nb : b ≠ a := fun z => by
      rw [z] at q
      have q' : s.G a = some o' := q
      rw [ga] at q'
      cases q'
    show upd s.H a o b = _
    rw [upd_ne nb]
    exact ok.sub b o' q
  · have hj : j ≠ i := fun z => by
      subst z
      have h' : (s.env.set j (.own w'))[j]? = some (.dat u) := h
      rw [ati] at h'
      cases h'
    exact ok.dat j u ((ne hj).mp h)
  · by_cases hj : j = i
    · subst hj
      have h' : (s.env.set j (.own w'))[j]? = some (.own u) := h
      rw [ati] at h'
      cases h'
      exact ⟨a, ha, ga, r⟩
    · obtain ⟨b, q1, q2, q3⟩ := ok.own j u ((ne hj).mp h)
      have nb : b ≠ a := fun z => by
        subst z
        exact hj (ok.inj _ _ _ ⟨⟨u, (ne hj).mp h⟩, q1⟩ me)
      exact ⟨b, q1, q2, q3.mono (Same.refl _) fun o' h => by show upd s.H a o b = _; rw [upd_ne nb]; exact h⟩
end

section
variable (X : Cx) (ci : Nat → Addr) (BS : List Nat)
structure SndS (st : Stmt) (f : SF) : Prop where
  ex : ∃ ts : WX → TS, (∀ W', Takes X W' → PS X st (ts W')) ∧ ∀ (W' : WX) (s : Sta) (D : Ends), Ok X.K ci s → AccS X.K ci BS W' s D (f s.env) → ts W' D s.σ s.H
structure SndSs (st : List Stmt) (f : SF) : Prop where
  ex : ∃ ts : WX → TS, (∀ W', Takes X W' → PSs X st (ts W')) ∧ ∀ (W' : WX) (s : Sta) (D : Ends), Ok X.K ci s → AccS X.K ci BS W' s D (f s.env) → ts W' D s.σ s.H
end
def sNext : SF := fun env => .nx env
def sSeq (f g : SF) : SF := fun env => match f env with
  | .nx env => g env
  | r => r
def sIf (c : TF) (f g : SF) : SF := fun env => (c env).andS fun b env => if b = true then f env else g env
def sSet (i : Nat) (f : EF) : SF := fun env => (fE f env).andS fun ov env => match ov with
  | .v w => .nx (env.set i (.dat w))
  | _ => .bad
def sOwn (i : Nat) (f : EF) : SF := fun env => (f env).andS fun ov env => match ov with
  | .n w => .nx (env.set i (.own w))
  | _ => .bad
def sRet (f : EF) : SF := fun env => (fE f env).andS fun ov env => match ov with
  | .v w => .rt w env
  | _ => .bad
def sRetNew (f : EF) : SF := fun env => (f env).andS fun ov env => match ov with
  | .n w => .rn w env
  | _ => .bad
def sRetN : SF := fun env => .rt .non env
def sDrop (f : EF) : SF := fun env => (f env).andS fun _ env => .nx env
def sBreak : SF := fun env => .bk env
def sCont : SF := fun env => .ct env
section
variable {X : Cx} {ci : Nat → Addr} {BS : List Nat} {st : Stmt} {rest a b : List Stmt} {f g : SF} {e c : Expr} {fe : EF} {tc : TF} {pos : Pos}
theorem s_nil : SndSs X ci BS [] sNext := ⟨⟨fun _ => tNext, fun _ _ => pss_nil, fun W' s D ok h => h s.σ s.G s.H Step.refl ok⟩⟩
theorem acc_seq {W' : WX} {s : Sta} {D : Ends} {u : St → Hp → Prop} {r : SR} (h : AccS X.K ci BS W' s D (match r with | .nx env => g env | r => r)) (hu : ∀ env' σ' G' H', Stp BS s ⟨env', σ', G', H'⟩ → Ok X.K ci ⟨env', σ', G', H'⟩ → AccS X.K ci BS W' ⟨env', σ', G', H'⟩ D (g env') → u σ' H') :
    AccS X.K ci BS W' s { D with nx := u } r := by
  cases r with
  | nx env' => exact fun σ' G' H' st ok => hu env' σ' G' H' st ok (AccS.mid h st)
  | bad => exact h
  | rt w e => exact h
  | rn w e => exact h
  | bk e => exact h
  | ct e => exact h
  | er x e => exact h
theorem s_cons (h1 : SndS X ci BS st f) (h2 : SndSs X ci BS rest g) : SndSs X ci BS (st :: rest) (sSeq f g) := by
  obtain ⟨t, p, q⟩ := h1.ex
  obtain ⟨t', p', q'⟩ := h2.ex
  refine ⟨⟨fun W' => tSeq (t W') (t' W'), fun W' tk => pss_cons (p W' tk) (p' W' tk), fun W' s D ok h => ?_⟩⟩
  exact q W' s _ ok (acc_seq h fun env' σ' G' H' st ok' h' => q' W' ⟨env', σ', G', H'⟩ D ok' h')
theorem s_one (h1 : SndS X ci BS st f) : SndSs X ci BS [st] f := by
  obtain ⟨t, p, q⟩ := h1.ex
  exact ⟨⟨t, fun W' tk => pss_one (p W' tk), q⟩⟩
theorem s_pass : SndS X ci BS (.Pass pos) sNext := ⟨⟨fun _ => tNext, fun _ _ => ps_pass, fun W' s D ok h => h s.σ s.G s.H Step.refl ok⟩⟩
theorem s_break : SndS X ci BS (.Break pos) sBreak := ⟨⟨fun _ => tBreak, fun _ _ => ps_break, fun W' s D ok h => h s.σ s.G s.H Step.refl ok⟩⟩
theorem s_cont : SndS X ci BS (.Continue pos) sCont := ⟨⟨fun _ => tCont, fun _ _ => ps_continue, fun W' s D ok h => h s.σ s.G s.H Step.refl ok⟩⟩
theorem s_if (hc : SndT X ci BS c tc) (ha : SndSs X ci BS a f) (hb : SndSs X ci BS b g) : SndS X ci BS (.If c a b pos) (sIf tc f g) := by
  obtain ⟨t, p, q⟩ := hc.ex
  obtain ⟨t1, p1, q1⟩ := ha.ex
  obtain ⟨t2, p2, q2⟩ := hb.ex
  refine ⟨⟨fun W' => tIfS (t W') (t1 W') (t2 W'), fun W' tk => ps_if (p W' tk) (p1 W' tk) (p2 W' tk), fun W' s D ok h => ?_⟩⟩
  refine q W' s _ ok (h.andS.imp fun d env1 G1 H1 st1 ok1 h1 => ?_)
  cases d with
  | true => exact q1 W' ⟨env1, s.σ, G1, H1⟩ D ok1 h1
  | false => exact q2 W' ⟨env1, s.σ, G1, H1⟩ D ok1 h1
theorem s_set {i : Nat} {x : Str} {pos' : Pos} (hi : i ∉ BS) (he : SndE X ci BS e fe) (hN : X.N.Nodup) (hx : X.N[i]? = some x := by rfl) (hl : Loc X.env.scope x := by first | exact Or.inl rfl | exact Or.inr rfl) (hs : swapsWith e (some (.Name x pos')) pos.line X.env = pure false := by rfl)
    (hf : X.fn x = true ∨ X.env.scope.names.lookup x = some .local := by first | exact .inl rfl | exact .inr rfl | assumption) : SndS X ci BS (.Assign [.Name x pos'] e pos) (sSet i fe) := by
  obtain ⟨t, p, q⟩ := (x_esc he).ex
  refine ⟨⟨fun W' => tAsg (t W') (gName i), fun W' tk => ps_set hN hx hl (p W' tk) hs hf, fun W' s D ok h => ?_⟩⟩
  refine q W' s _ ok (h.andS.imp fun ov env1 G1 H1 st1 ok1 h1 => ?_)
  intro v rep new
  cases ov with
  | v w =>
    obtain ⟨st2, ok2⟩ := set_slot (s := ⟨env1, s.σ, G1, H1⟩) ok1 hi rep
    exact h1 _ _ _ st2 ok2
  | _ => exact h1.elim
theorem s_own {i : Nat} {x : Str} {pos' : Pos} (hi : i ∉ BS) (he : SndE X ci BS e fe) (hN : X.N.Nodup) (hx : X.N[i]? = some x := by rfl) (hl : Loc X.env.scope x := by first | exact Or.inl rfl | exact Or.inr rfl) (hs : swapsWith e (some (.Name x pos')) pos.line X.env = pure false := by rfl)
    (hf : X.fn x = true ∨ X.env.scope.names.lookup x = some .local := by first | exact .inl rfl | exact .inr rfl | assumption) : SndS X ci BS (.Assign [.Name x pos'] e pos) (sOwn i fe) := by
  obtain ⟨t, p, q⟩ := he.ex
  refine ⟨⟨fun W' => tAsg (t W') (gName i), fun W' tk => ps_set hN hx hl (p W' tk) hs hf, fun W' s D ok h => ?_⟩⟩
  have h' : AccS X.K ci BS W' s D ((fe s.env).andS fun ov env => match ov with | .n w => .nx (env.set i (.own w)) | _ => .bad) := h
  refine q W' s _ ok ?_
  cases e1 : fe s.env with
  | bad => rw [e1] at h'; exact h'.elim
  | er x env' => rw [e1] at h'; exact fun G' H' cls d st ok rx => h' s.σ G' H' cls d st ok rx
  | ok ov env' =>
    rw [e1] at h'
    cases ov with
    | n w =>
      intro G' H' st ok' v rep new
      obtain ⟨a, rfl, ro, ga, no⟩ := rep
      obtain ⟨st2, ok2⟩ := set_own (s := s) (m := ⟨env', s.σ, G', H'⟩) ok' st hi ro ga no (new a rfl)
      exact h' _ _ _ st2 ok2
    | _ => exact h'.elim
theorem s_ret (he : SndE X ci BS e fe) : SndS X ci BS (.Return (some e) pos) (sRet fe) := by
  obtain ⟨t, p, q⟩ := (x_esc he).ex
  refine ⟨⟨fun W' => tRet (t W'), fun W' tk => ps_ret (p W' tk), fun W' s D ok h => ?_⟩⟩
  refine q W' s _ ok (h.andS.imp fun ov env1 G1 H1 st1 ok1 h1 => ?_)
  intro v rep new
  cases ov with
  | v w => exact h1 s.σ G1 H1 v Step.refl ok1 rep
  | _ => exact h1.elim
theorem s_retNew (he : SndE X ci BS e fe) : SndS X ci BS (.Return (some e) pos) (sRetNew fe) := by
  obtain ⟨t, p, q⟩ := he.ex
  refine ⟨⟨fun W' => tRet (t W'), fun W' tk => ps_ret (p W' tk), fun W' s D ok h => ?_⟩⟩
  have h' : AccS X.K ci BS W' s D ((fe s.env).andS fun ov env => match ov with | .n w => .rn w env | _ => .bad) := h
  refine q W' s _ ok ?_
  cases e1 : fe s.env with
  | bad => rw [e1] at h'; exact h'.elim
  | er x env' => rw [e1] at h'; exact fun G' H' cls d st ok rx => h' s.σ G' H' cls d st ok rx
  | ok ov env' =>
    rw [e1] at h'
    cases ov with
    | n w =>
      intro G' H' st ok' v rep new
      obtain ⟨a, rfl, ro, ga, no⟩ := rep
      exact h' s.σ G' H' a st ok' ro ga no (.inl (new a rfl))
    | _ => exact h'.elim
theorem s_retN : SndS X ci BS (.Return none pos) sRetN := ⟨⟨fun _ => tRetN, fun _ _ => ps_retN, fun W' s D ok h => h s.σ s.G s.H .non Step.refl ok .non⟩⟩
theorem s_drop (he : SndE X ci BS e fe) (hs : swapsWith e none pos.line X.env = pure false := by rfl) : SndS X ci BS (.Expr e pos) (sDrop fe) := by
  obtain ⟨t, p, q⟩ := he.ex
  refine ⟨⟨fun W' => tDrop (t W'), fun W' tk => ps_expr (p W' tk) hs, fun W' s D ok h => ?_⟩⟩
  refine q W' s _ ok (h.andS.imp fun ov env1 G1 H1 st1 ok1 h1 => ?_)
  intro v rep new
  exact h1 s.σ G1 H1 Step.refl ok1
end
end BV

set_option maxRecDepth 100000
set_option maxHeartbeats 4000000
/-! BV: targets, what is walked, for, while, the methods that change a slot's own list. -/
namespace BV
open PySem PySem.Spec L2
/-! ### targets -/
mutual
inductive Tg where
  | nm (i : Nat) | tp (l : Tgs)
inductive Tgs where
  | nil | cons (t : Tg) (l : Tgs)
end
mutual
def bindT : Tg → W → Ev → Option Ev
  | .nm i, w, env => some (env.set i (.dat w))
  | .tp l, .tup ws, env => bindTs l ws env
  | .tp _, _, _ => none
def bindTs : Tgs → List W → Ev → Option Ev
  | .nil, [], env => some env
  | .cons t l, w :: ws, env => (bindT t w env).bind fun env => bindTs l ws env
  | _, _, _ => none
end
mutual
def idxT : Tg → List Nat
  | .nm i => [i]
  | .tp l => idxTs l
def idxTs : Tgs → List Nat
  | .nil => []
  | .cons t l => idxT t ++ idxTs l
end
def Tgs.len : Tgs → Nat
  | .nil => 0
  | .cons _ l => l.len + 1
section
variable (X : Cx) (ci : Nat → Addr) (BS : List Nat)
def GOut (s : Sta) (js : List Nat) (env' : Ev) (Q : St → Hp → Prop) : Prop := ∀ σ', Stp BS s ⟨env', σ', s.G, s.H⟩ → Ok X.K ci ⟨env', σ', s.G, s.H⟩ → σ'.length = s.σ.length → (∀ j, j ∉ js → σ'[j]? = s.σ[j]?) → Q σ' s.H
structure SndG (tg : Expr) (t : Tg) : Prop where
  ex : ∃ g : TG, PG X tg g ∧ ∀ (s : Sta) (v : V) (w : W) (env' : Ev) (Q : St → Hp → Prop), Ok X.K ci s → RepV X.K ci s.G v w → bindT t w s.env = some env' → GOut X ci BS s (idxT t) env' Q → g v s.σ s.H Q
structure SndGs (tgs : List Expr) (t : Tgs) : Prop where
  ex : ∃ g : TGs, PGs X tgs g ∧ ∀ (s : Sta) (vs : List V) (ws : List W) (env' : Ev) (Q : St → Hp → Prop), Ok X.K ci s → RepVs X.K ci s.G vs ws → bindTs t ws s.env = some env' → GOut X ci BS s (idxTs t) env' Q → g vs s.σ s.H Q
end
section
variable {X : Cx} {ci : Nat → Addr} {BS : List Nat} {tg : Expr} {tgs : List Expr} {t : Tg} {ts : Tgs} {pos : Pos}
theorem g_nm {i : Nat} {x : Str} (hi : i ∉ BS) (hN : X.N.Nodup) (hx : X.N[i]? = some x := by rfl) (hl : Loc X.env.scope x := by first | exact Or.inl rfl | exact Or.inr rfl) (hf : X.fn x = true ∨ X.env.scope.names.lookup x = some .local := by first | exact .inl rfl | exact .inr rfl | assumption) : SndG X ci BS (.Name x pos) (.nm i) := by
  refine ⟨⟨gName i, pg_name hN hx hl hf, fun s v w env' Q ok r e h => ?_⟩⟩
  cases e
  obtain ⟨st, ok'⟩ := set_slot ok hi r
  exact h _ st ok' List.length_set fun j hj => List.getElem?_set_ne (fun z => hj (by rw [z]; simp [idxT]))
theorem gs_nil : SndGs X ci BS [] .nil := by
  refine ⟨⟨gNil, pgs_nil, fun s vs ws env' Q ok r e h => ?_⟩⟩
  cases ws with
  | nil =>
    cases r
    cases e
    exact ⟨rfl, h _ Step.refl ok rfl fun _ _ => rfl⟩
  | cons w ws => cases e
theorem gs_cons (h1 : SndG X ci BS tg t) (h2 : SndGs X ci BS tgs ts) (hs : (assignEach (tg :: tgs) X.env).map (·.2) = assign tg X.env :: (assignEach tgs X.env).map (·.2) := by rfl) : SndGs X ci BS (tg :: tgs) (.cons t ts) := by
  obtain ⟨g, p, q⟩ := h1.ex
  obtain ⟨g', p', q'⟩ := h2.ex
  refine ⟨⟨gCons g g', pgs_cons p p' hs, fun s vs ws env' Q ok r e h => ?_⟩⟩
  cases ws with
  | nil => cases e
  | cons w ws =>
    cases r with
    | @cons v _ vs _ r1 r2 =>
      unfold bindTs at e
      cases e1 : bindT t w s.env with
      | none => rw [e1] at e; cases e
      | some env1 =>
        rw [e1] at e
        refine ⟨v, vs, rfl, q s v w env1 _ ok r1 e1 fun σ1 st1 ok1 l1 k1 => ?_⟩
        refine q' ⟨env1, σ1, s.G, s.H⟩ vs ws env' Q ok1 r2 e fun σ2 st2 ok2 l2 k2 => ?_
        refine h σ2 (Step.trans st1 st2) ok2 (l2.trans l1) fun j hj => ?_
        have hj' : j ∉ idxT t ∧ j ∉ idxTs ts := by
          unfold idxTs at hj
          rw [List.mem_append, not_or] at hj
          exact hj
        exact (k2 j hj'.2).trans (k1 j hj'.1)
theorem bindTs_len : ∀ {l : Tgs} {ws : List W} {env env' : Ev}, bindTs l ws env = some env' → ws.length = l.len
  | .nil, [], _, _, _ => rfl
  | .nil, _ :: _, _, _, h => by unfold bindTs at h; cases h
  | .cons _ _, [], _, _, h => by unfold bindTs at h; cases h
  | .cons t l, w :: ws, env, env', h => by
    unfold bindTs at h
    cases e : bindT t w env with
    | none => rw [e] at h; cases h
    | some env1 =>
      rw [e] at h
      show ws.length + 1 = l.len + 1
      rw [bindTs_len (l := l) (ws := ws) h]
theorem g_tp {es : List Expr} {k : Nat} (hc : X.calm = true) (h : SndGs X ci BS es ts) (hn : (assignEach es X.env).length = ts.len := by rfl) (hst : (assignEach es X.env).findIdx? (·.1) = none := by rfl) : SndG X ci BS (.Tuple es k pos) (.tp ts) := by
  obtain ⟨g, p, q⟩ := h.ex
  refine ⟨⟨gTup X.K ts.len g, pg_tup hc p hn hst, fun s v w env' Q ok r e h => ?_⟩⟩
  cases w with
  | tup ws =>
    cases r with
    | @tup a vs _ hT r =>
      have e' : bindTs ts ws s.env = some env' := e
      exact ⟨a, vs, rfl, sqT_mono ok.sub hT, by rw [r.length]; exact bindTs_len e', q s vs ws env' Q ok r e' h⟩
  | _ => cases e
end

/-! ### what is walked -/
section
variable (X : Cx) (ci : Nat → Addr) (BS : List Nat)
structure ItOk (m : Sta) (ws : List W) (J : It) (Gp : Hp → Prop) (Y : Nat → Hp → V → Hp → Prop) : Prop where
  walk : Walk J ws.length Gp Y
  stays : ∀ m' : Sta, Ok X.K ci m' → Same m.G m'.G → Gp m'.H
  gives : ∀ (m' : Sta) (i : Nat) (v : V) (H' : Hp), Ok X.K ci m' → Same m.G m'.G → i < ws.length → Y i m'.H v H' → ∃ w G'', ws[i]? = some w ∧ Stp BS m' ⟨m'.env, m'.σ, G'', H'⟩ ∧ Ok X.K ci ⟨m'.env, m'.σ, G'', H'⟩ ∧ RepV X.K ci G'' v w
structure SndI (tg iter : Expr) (f : Ev → Res (List W)) : Prop where
  ex : ∃ wi : WX → TI, (∀ W', Takes X W' → PI X tg iter (wi W')) ∧ ∀ (W' : WX) (s : Sta) (R : It → Hp → Prop), Ok X.K ci s → Acc X.K ci BS W' s (fun ws m => ∀ J Gp Y, ItOk X ci BS m ws J Gp Y → R J m.H) (f s.env) → wi W' s.σ s.H R
end
def asT : W → Option (List W)
  | .tup ws => some ws
  | _ => none
def asL : W → Option (List W)
  | .lst ws => some ws
  | .fz ws => some ws
  | _ => none
def fIt (k : W → Option (List W)) (f : EF) : Ev → Res (List W) := fun env => (fE f env).bind fun ov env => match ov with
  | .v w => (match k w with | some ws => .ok ws env | none => .bad)
  | _ => .bad
def rangeW (lo hi : Int) : List W := (List.range (hi - lo).toNat).map fun (i : Nat) => W.int (lo + (i : Int))
def smallI (i : Int) : Bool := decide (-4611686018427387904 ≤ i ∧ i < 4611686018427387904)
def fRng1 (f : EF) : Ev → Res (List W) := fun env => (f env).bind fun x env => match getOV x env with
  | some (.int j) => if smallI j = true then .ok (rangeW 0 j) env else .bad
  | _ => .bad
def fRng2 (f g : EF) : Ev → Res (List W) := fun env => (f env).bind fun x env => (g env).bind fun y env => match getOV x env, getOV y env with
  | some (.int i), some (.int j) => if smallI i = true ∧ smallI j = true then .ok (rangeW i j) env else .bad
  | _, _ => .bad
section
variable {X : Cx} {ci : Nat → Addr} {BS : List Nat} {tg e e2 : Expr} {f g : EF} {pos p : Pos}
theorem it_at {m : Sta} {ws : List W} {J : It} {Gp : Hp → Prop} {vs : List V} (r : RepVs X.K ci m.G vs ws) (w : Walk J vs.length Gp (YAt vs)) (k : ∀ m' : Sta, Ok X.K ci m' → Same m.G m'.G → Gp m'.H) : ItOk X ci BS m ws J Gp (YAt vs) := by
  refine ⟨by rw [← r.length]; exact w, k, fun m' i v H' ok s hi y => ?_⟩
  obtain ⟨e, y⟩ := y
  subst e
  obtain ⟨u, q1, q2⟩ := r.get y
  exact ⟨u, m'.G, q1, Step.refl, ok, q2.mono s⟩
theorem i_tup (he : SndE X ci BS e f) : SndI X ci BS tg e (fIt asT f) := by
  obtain ⟨t, p, q⟩ := (x_esc he).ex
  refine ⟨⟨fun W' => iTup X.K (t W'), fun W' tk => pi_tup (p W' tk), fun W' s R ok h => ?_⟩⟩
  refine q W' s _ ok (h.bind.imp fun ov env1 G1 H1 st1 ok1 h1 => ?_)
  intro v rep new
  cases ov with
  | v w =>
    cases w with
    | tup ws =>
      cases rep with
      | @tup a vs _ hT r =>
        exact ⟨a, rfl, ⟨vs, sqT_mono ok1.sub hT⟩, h1 G1 H1 Step.refl ok1 _ _ _ (it_at (m := ⟨env1, s.σ, G1, H1⟩) r walk_tup fun m' ok' sm => sqT_mono ok'.sub (sqT_mono sm hT))⟩
    | _ => exact h1.elim
  | _ => exact h1.elim
theorem i_list (he : SndE X ci BS e f) : SndI X ci BS tg e (fIt asL f) := by
  obtain ⟨t, p, q⟩ := (x_esc he).ex
  refine ⟨⟨fun W' => iList X.K (t W'), fun W' tk => pi_list (p W' tk), fun W' s R ok h => ?_⟩⟩
  refine q W' s _ ok (h.bind.imp fun ov env1 G1 H1 st1 ok1 h1 => ?_)
  intro v rep new
  cases ov with
  | v w =>
    cases w with
    | lst ws =>
      cases rep with
      | @lst a vs _ hT r =>
        exact ⟨a, rfl, ⟨vs, .inl (.inl (ok1.sub _ _ hT))⟩, h1 G1 H1 Step.refl ok1 _ _ _ (it_at (m := ⟨env1, s.σ, G1, H1⟩) r walk_list fun m' ok' sm => .inl (.inl (ok'.sub _ _ (sm _ _ hT))))⟩
    | fz ws =>
      cases rep with
      | @fz a vs _ hT r =>
        exact ⟨a, rfl, ⟨vs, ok1.sub.seq hT⟩, h1 G1 H1 Step.refl ok1 _ _ _ (it_at (m := ⟨env1, s.σ, G1, H1⟩) r walk_list fun m' ok' sm => ok'.sub.seq (sm.seq hT))⟩
    | _ => exact h1.elim
  | _ => exact h1.elim
theorem it_rng {m : Sta} {lo hi : Int} : ItOk X ci BS m (rangeW lo hi) (Itr lo (hi - lo).toNat) (fun _ => True) (YFn fun i => .int (lo + i)) := by
  have hl : (rangeW lo hi).length = (hi - lo).toNat := by unfold rangeW; rw [List.length_map, List.length_range]
  refine ⟨by rw [hl]; exact walk_range, fun _ _ _ => trivial, fun m' i v H' ok s hi' y => ?_⟩
  obtain ⟨e, y⟩ := y
  subst e y
  refine ⟨.int (lo + i), m'.G, ?_, Step.refl, ok, .int _⟩
  unfold rangeW
  rw [hl] at hi'
  rw [List.getElem?_map, List.getElem?_range hi']
  rfl
theorem smallI_is {i : Int} (h : smallI i = true) : -(2 ^ 62) ≤ i ∧ i < 2 ^ 62 := by
  unfold smallI at h
  rw [decide_eq_true_eq] at h
  omega
theorem i_rng1 (hg : Gl X "range") (hm : X.mg "range" = none) (he : SndE X ci BS e f) (hs : starEach [e] X.env = [(false, eval e X.env)] := by rfl) : SndI X ci BS tg (.Call (.Name "range" p) [e] [] pos) (fRng1 f) := by
  obtain ⟨t, pp, q⟩ := he.ex
  refine ⟨⟨fun W' => iRng1 (tCons (t W') tNil), fun W' tk => pi_range1 hg hm (pa_cons (pp W' tk) pa_nil (by rw [hs]; rfl)) hs, fun W' s R ok h => ?_⟩⟩
  refine q W' s _ ok (h.bind.imp fun ov env1 G1 H1 st1 ok1 h1 => ?_)
  intro v rep new
  cases e1 : getOV ov env1 with
  | none => dsimp only at h1; rw [e1] at h1; exact h1.elim
  | some w =>
    dsimp only at h1
    rw [e1] at h1
    cases w with
    | int j =>
      dsimp only at h1
      by_cases c : smallI j = true
      · rw [if_pos c] at h1
        obtain ⟨b1, b2⟩ := smallI_is c
        have z := h1 G1 H1 Step.refl ok1 _ _ _ it_rng
        refine ⟨j, by rw [(cur_of ok1 rep e1).int], b1, b2, ?_⟩
        have ej : (j - 0).toNat = j.toNat := by rw [Int.sub_zero]
        rw [ej] at z
        exact z
      · rw [if_neg c] at h1
        exact h1.elim
    | _ => exact h1.elim
theorem i_rng2 (hg : Gl X "range") (hm : X.mg "range" = none) (he : SndE X ci BS e f) (he2 : SndE X ci BS e2 g) (hs : starEach [e, e2] X.env = [(false, eval e X.env), (false, eval e2 X.env)] := by rfl) (hs2 : starEach [e2] X.env = [(false, eval e2 X.env)] := by rfl) :
    SndI X ci BS tg (.Call (.Name "range" p) [e, e2] [] pos) (fRng2 f g) := by
  obtain ⟨t, pp, q⟩ := he.ex
  obtain ⟨t', pp', q'⟩ := he2.ex
  refine ⟨⟨fun W' => iRng2 (tCons (t W') (tCons (t' W') tNil)), fun W' tk => pi_range2 hg hm (pa_cons (pp W' tk) (pa_cons (pp' W' tk) pa_nil (by rw [hs2]; rfl)) (by rw [hs, hs2])) hs hs2, fun W' s R ok h => ?_⟩⟩
  refine q W' s _ ok (h.bind.imp fun ov env1 G1 H1 st1 ok1 h1 => ?_)
  intro v rep new
  refine q' W' ⟨env1, s.σ, G1, H1⟩ _ ok1 (h1.bind.imp fun ov2 env2 G2 H2 st2 ok2 h2 => ?_)
  intro v2 rep2 new2
  have rep' : RepOV X.K ci ⟨env2, s.σ, G2, H2⟩ v ov := rep.step st2
  cases e1 : getOV ov env2 with
  | none => dsimp only at h2; rw [e1] at h2; exact h2.elim
  | some w =>
    cases e2 : getOV ov2 env2 with
    | none => dsimp only at h2; rw [e1, e2] at h2; cases w <;> exact h2.elim
    | some w2 =>
      dsimp only at h2
      rw [e1, e2] at h2
      cases w with
      | int i =>
        cases w2 with
        | int j =>
          dsimp only at h2
          by_cases c : smallI i = true ∧ smallI j = true
          · rw [if_pos c] at h2
            obtain ⟨b1, b2⟩ := smallI_is c.1
            obtain ⟨b3, b4⟩ := smallI_is c.2
            have z := h2 G2 H2 Step.refl ok2 _ _ _ it_rng
            exact ⟨i, j, by rw [(cur_of ok2 rep' e1).int, (cur_of ok2 rep2 e2).int], ⟨b1, b2, b3, b4⟩, z⟩
          · rw [if_neg c] at h2
            exact h2.elim
        | _ => exact h2.elim
      | _ => exact h2.elim
end
/-! ### for, while -/
def forL (t : Tg) (f : SF) : List W → SF
  | [], env => .nx env
  | w :: ws, env => match bindT t w env with
    | none => .bad
    | some env1 => match f env1 with
      | .nx e => forL t f ws e
      | .ct e => forL t f ws e
      | .bk e => .nx e
      | r => r
def sFor (it : Ev → Res (List W)) (t : Tg) (f : SF) : SF := fun env => (it env).andS fun ws env => forL t f ws env
def whileL (c : TF) (f : SF) : Nat → SF
  | 0, _ => .bad
  | n + 1, env => (c env).andS fun b env => if b = true then (match f env with
      | .nx e => whileL c f n e
      | .ct e => whileL c f n e
      | .bk e => .nx e
      | r => r) else .nx env
section
variable {X : Cx} {ci : Nat → Addr} {BS : List Nat} {tg iter c : Expr} {it : Ev → Res (List W)} {t : Tg} {tc : TF} {f : SF} {body : List Stmt} {pos : Pos}
theorem acc_turn {W' : WX} {s : Sta} {D : Ends} {r : SR} {k : SF} {N : St → Hp → Prop} (h : AccS X.K ci BS W' s D (match r with | .nx e => k e | .ct e => k e | .bk e => .nx e | r => r))
    (hN : ∀ e σ' G' H', Stp BS s ⟨e, σ', G', H'⟩ → Ok X.K ci ⟨e, σ', G', H'⟩ → AccS X.K ci BS W' ⟨e, σ', G', H'⟩ D (k e) → N σ' H') : AccS X.K ci BS W' s { D with nx := N, ct := N, bk := D.nx } r := by
  cases r with
  | nx e => exact fun σ' G' H' st ok => hN e σ' G' H' st ok (AccS.mid h st)
  | ct e => exact fun σ' G' H' st ok => hN e σ' G' H' st ok (AccS.mid h st)
  | bk e => exact h
  | bad => exact h
  | rt w e => exact h
  | rn w e => exact h
  | er x e => exact h
theorem s_for (hp : PassesOwn (model X.prog X.w) X.A X.env X.xe) (hc : X.calm = true) (hi : SndI X ci BS tg iter it) (hg : SndG X ci BS tg t) (hb : SndSs X ci BS body f) (hs : ∀ x, foldedSetIterable iter X.env x = pure x := by intro _; rfl) : SndS X ci BS (.For tg iter body [] pos) (sFor it t f) := by
  obtain ⟨wi, p, q⟩ := hi.ex
  obtain ⟨g, pg, qg⟩ := hg.ex
  obtain ⟨tb, pb, qb⟩ := hb.ex
  refine ⟨⟨fun W' => tFor (wi W') g (tb W'), fun W' tk => ps_for hp hc (p W' tk) pg (pb W' tk) hs, fun W' s D ok h => ?_⟩⟩
  refine q W' s _ ok (h.andS.imp fun ws env1 G1 H1 st1 ok1 h1 => ?_)
  intro J Gp Y io
  refine for_it io.walk (fun i σ H => ∃ m' : Sta, m'.σ = σ ∧ m'.H = H ∧ Ok X.K ci m' ∧ Same G1 m'.G ∧ AccS X.K ci BS W' m' D (forL t f (ws.drop i) m'.env)) ⟨⟨env1, s.σ, G1, H1⟩, rfl, rfl, ok1, Same.refl _, h1⟩ ?_ ?_ ?_
  · rintro i σ H hi ⟨m', rfl, rfl, ok', sm, _⟩
    exact io.stays m' ok' sm
  · rintro i x σ H H' hi ⟨m', rfl, rfl, ok', sm, acc⟩ y
    obtain ⟨w, G2, hw, st2, ok2, rv⟩ := io.gives m' i x H' ok' sm hi y
    have hd : ws.drop i = w :: ws.drop (i + 1) := by
      obtain ⟨hi', e⟩ := List.getElem?_eq_some_iff.mp hw
      rw [List.drop_eq_getElem_cons hi', e]
    rw [hd] at acc
    unfold forL at acc
    cases e1 : bindT t w m'.env with
    | none => rw [e1] at acc; exact acc.elim
    | some env2 =>
      rw [e1] at acc
      dsimp only at acc
      refine qg ⟨m'.env, m'.σ, G2, H'⟩ x w env2 _ ok2 rv e1 fun σ2 st3 ok3 _ _ => ?_
      refine qb W' ⟨env2, σ2, G2, H'⟩ _ ok3 ?_
      have acc' := AccS.mid (m := ⟨env2, σ2, G2, H'⟩) acc (Step.trans st2 st3)
      exact acc_turn acc' fun e σ' G' H'' st ok h' => ⟨⟨e, σ', G', H''⟩, rfl, rfl, ok, sm.trans (st2.sub.trans (st3.sub.trans st.sub)), h'⟩
  · rintro σ H ⟨m', rfl, rfl, ok', sm, acc⟩
    rw [List.drop_length] at acc
    exact acc m'.σ m'.G m'.H Step.refl ok'
theorem s_while (n : Nat) (hp : PassesOwn (model X.prog X.w) X.A X.env X.xe) (hc : SndT X ci BS c tc) (hb : SndSs X ci BS body f) : SndS X ci BS (.While c body [] pos) (whileL tc f n) := by
  obtain ⟨t, p, q⟩ := hc.ex
  obtain ⟨tb, pb, qb⟩ := hb.ex
  refine ⟨⟨fun W' => tWhile (t W') (tb W'), fun W' tk => ps_while hp (p W' tk) (pb W' tk), fun W' s D ok h => ?_⟩⟩
  refine ⟨fun k σ H => ∃ m' : Sta, m'.σ = σ ∧ m'.H = H ∧ Ok X.K ci m' ∧ AccS X.K ci BS W' m' D (whileL tc f k m'.env), ⟨n, s, rfl, rfl, ok, h⟩, ?_⟩
  rintro k σ H ⟨m', rfl, rfl, ok', acc⟩
  cases k with
  | zero => exact acc.elim
  | succ k =>
    refine q W' m' _ ok' (acc.andS.imp fun b env1 G1 H1 st1 ok1 h1 => ?_)
    cases b with
    | true =>
      refine ⟨fun σ' H' => ∃ m'' : Sta, m''.σ = σ' ∧ m''.H = H' ∧ Ok X.K ci m'' ∧ AccS X.K ci BS W' m'' D (whileL tc f k m''.env), fun σ' H' z => ⟨k, Nat.lt_succ_self k, z⟩, ?_⟩
      refine qb W' ⟨env1, m'.σ, G1, H1⟩ _ ok1 ?_
      exact acc_turn (k := whileL tc f k) h1 fun e σ' G' H'' st ok h' => ⟨⟨e, σ', G', H''⟩, rfl, rfl, ok, h'⟩
    | false => exact h1 m'.σ G1 H1 Step.refl ok1
end
end BV

set_option maxRecDepth 100000
set_option maxHeartbeats 4000000
/-! BV: list comprehensions. -/
namespace BV
open PySem PySem.Spec L2
def wipeE (env : Ev) : List Nat → Ev
  | [] => env
  | v :: vs => (wipeE env vs).set v .no
def restE (env env4 : Ev) : List Nat → Ev
  | [] => env4
  | v :: vs => (restE env env4 vs).set v ((env[v]?).getD .no)
theorem wipeE_len (env : Ev) : ∀ vs : List Nat, (wipeE env vs).length = env.length
  | [] => rfl
  | v :: vs => by unfold wipeE; rw [List.length_set, wipeE_len env vs]
theorem wipeE_out {env : Ev} {j : Nat} : ∀ {vs : List Nat}, j ∉ vs → (wipeE env vs)[j]? = env[j]?
  | [], _ => rfl
  | v :: vs, h => by
    rw [List.mem_cons, not_or] at h
    unfold wipeE
    rw [List.getElem?_set_ne (Ne.symm h.1), wipeE_out h.2]
theorem wipeE_in {env : Ev} {j : Nat} {sl : Sl} : ∀ {vs : List Nat}, j ∈ vs → (wipeE env vs)[j]? = some sl → sl = .no
  | [], h, _ => by cases h
  | v :: vs, h, e => by
    unfold wipeE at e
    by_cases hv : v = j
    · subst hv
      by_cases hl : v < (wipeE env vs).length
      · rw [List.getElem?_set_self hl] at e
        exact (Option.some.inj e).symm
      · rw [List.getElem?_eq_none (by rw [List.length_set]; omega)] at e
        cases e
    · rw [List.getElem?_set_ne hv] at e
      rcases List.mem_cons.mp h with z | z
      · exact absurd z.symm hv
      · exact wipeE_in z e
theorem restE_len (env env4 : Ev) : ∀ vs : List Nat, (restE env env4 vs).length = env4.length
  | [] => rfl
  | v :: vs => by unfold restE; rw [List.length_set, restE_len env env4 vs]
theorem restE_out {env env4 : Ev} {j : Nat} : ∀ {vs : List Nat}, j ∉ vs → (restE env env4 vs)[j]? = env4[j]?
  | [], _ => rfl
  | v :: vs, h => by
    rw [List.mem_cons, not_or] at h
    unfold restE
    rw [List.getElem?_set_ne (Ne.symm h.1), restE_out h.2]
theorem restE_in {env env4 : Ev} {j : Nat} (hl : env.length = env4.length) : ∀ {vs : List Nat}, j ∈ vs → (restE env env4 vs)[j]? = env[j]?
  | [], h => by cases h
  | v :: vs, h => by
    unfold restE
    by_cases hv : v = j
    · subst hv
      by_cases hj : v < env.length
      · rw [List.getElem?_set_self (by rw [restE_len]; omega), List.getElem?_eq_getElem hj]
        rfl
      · rw [List.getElem?_eq_none (by rw [List.length_set, restE_len]; omega), List.getElem?_eq_none (by omega)]
    · rw [List.getElem?_set_ne hv]
      rcases List.mem_cons.mp h with z | z
      · exact absurd z.symm hv
      · exact restE_in hl z
theorem wipe_out' {σ : L2.St} {j : Nat} {vs : List Nat} (h : j ∉ vs) : (wipe σ vs)[j]? = σ[j]? := wipe_out h
theorem wipe_eq {σ σ2 : L2.St} {vs : List Nat} (hl : σ2.length = σ.length) (h : ∀ j, j ∉ vs → σ2[j]? = (wipe σ vs)[j]?) : wipe σ2 vs = wipe σ vs := by
  apply List.ext_getElem?
  intro j
  by_cases hj : j ∈ vs
  · have none_in : ∀ {τ : L2.St} {vs : List Nat}, j ∈ vs → (wipe τ vs)[j]? = if j < τ.length then some none else none := by
      intro τ vs
      induction vs with
      | nil => intro h; cases h
      | cons v vs ih =>
        intro h
        unfold wipe
        by_cases hv : v = j
        · subst hv
          by_cases hj : v < τ.length
          · rw [List.getElem?_set_self (by rw [wipe_length]; exact hj), if_pos hj]
          · rw [List.getElem?_eq_none (by rw [List.length_set, wipe_length]; omega), if_neg hj]
        · rw [List.getElem?_set_ne hv]
          rcases List.mem_cons.mp h with z | z
          · exact absurd z.symm hv
          · exact ih z
    rw [none_in hj, none_in hj, hl]
  · rw [wipe_out' hj, h j hj]
section
variable {K : PySem.W.Frag} {ci : Nat → Addr} {BS vs : List Nat} {env env4 : Ev} {σ σ2 : L2.St} {G G4 H H4 : Hp}
theorem wipe_ok (ok : Ok K ci ⟨env, σ, G, H⟩) (hv : ∀ i ∈ BS, i ∉ vs) : Stp BS ⟨env, σ, G, H⟩ ⟨wipeE env vs, wipe σ vs, G, H⟩ ∧ Ok K ci ⟨wipeE env vs, wipe σ vs, G, H⟩ := by
  have out : ∀ {j : Nat} {sl : Sl}, (wipeE env vs)[j]? = some sl → sl ≠ .no → j ∉ vs ∧ env[j]? = some sl := fun {j sl} h ns => by
    by_cases hj : j ∈ vs
    · exact absurd (wipeE_in hj h) ns
    · rw [wipeE_out hj] at h
      exact ⟨hj, h⟩
  have own : ∀ {j : Nat} {a : Addr}, OwnAt (wipeE env vs) (wipe σ vs) j a → OwnAt env σ j a := fun {j a} ⟨⟨u, h⟩, q⟩ => by
    obtain ⟨hj, h'⟩ := out h (fun z => nomatch z)
    rw [wipe_out' hj] at q
    exact ⟨⟨u, h'⟩, q⟩
  refine ⟨⟨Same.refl _, fun _ _ h _ => h, fun _ _ h _ => h, fun _ h => h, fun j a h => ?_, fun j hj => ⟨wipe_out' (hv j hj), fun ⟨u, h⟩ => ⟨u, ?_⟩⟩⟩, ⟨ok.sub, by rw [wipeE_len, wipe_length]; exact ok.len, fun j u h => ?_, fun j u h => ?_, fun j k a h1 h2 => ok.inj j k a (own h1) (own h2)⟩⟩
  · by_cases hB : j ∈ BS
    · exact .inl ⟨hB, own h⟩
    · exact .inr ⟨hB, .inr ⟨j, hB, own h⟩⟩
  · show (wipeE env vs)[j]? = _
    rw [wipeE_out (hv j hj)]
    exact h
  · obtain ⟨hj, h'⟩ := out h (fun z => nomatch z)
    obtain ⟨v, q1, q2⟩ := ok.dat j u h'
    exact ⟨v, (wipe_out' hj).trans q1, q2⟩
  · obtain ⟨hj, h'⟩ := out h (fun z => nomatch z)
    obtain ⟨v, q1, q2⟩ := ok.own j u h'
    exact ⟨v, (wipe_out' hj).trans q1, q2⟩
/-- the block's own slots get back what they had -/
theorem rest_ok (ok : Ok K ci ⟨env, σ, G, H⟩) (ok4 : Ok K ci ⟨env4, σ2, G4, H4⟩) (st : Stp BS ⟨env, σ, G, H⟩ ⟨env4, σ2, G4, H4⟩) (st' : Stp BS ⟨wipeE env vs, wipe σ vs, G, H⟩ ⟨env4, σ2, G4, H4⟩) (hv : ∀ i ∈ BS, i ∉ vs) (hl : σ2.length = σ.length) (hσ : ∀ j, j ∉ vs → σ2[j]? = σ[j]?) :
    Stp BS ⟨env, σ, G, H⟩ ⟨restE env env4 vs, σ, G4, H4⟩ ∧ Ok K ci ⟨restE env env4 vs, σ, G4, H4⟩ := by
  have le : env.length = env4.length := by
    have a : env.length = σ.length := ok.len
    have b : env4.length = σ2.length := ok4.len
    omega
  have inn : ∀ {j : Nat}, j ∈ vs → (restE env env4 vs)[j]? = env[j]? := fun {j} hj => restE_in le hj
  have outt : ∀ {j : Nat}, j ∉ vs → (restE env env4 vs)[j]? = env4[j]? := fun {j} hj => restE_out hj
  have own : ∀ {j : Nat} {a : Addr}, OwnAt (restE env env4 vs) σ j a → (j ∈ vs ∧ OwnAt env σ j a) ∨ (j ∉ vs ∧ OwnAt env4 σ2 j a) := fun {j a} ⟨⟨u, h⟩, q⟩ => by
    by_cases hj : j ∈ vs
    · exact .inl ⟨hj, ⟨u, by rw [inn hj] at h; exact h⟩, q⟩
    · exact .inr ⟨hj, ⟨u, by rw [outt hj] at h; exact h⟩, by rw [hσ j hj]; exact q⟩
  -- an object of a wiped slot is no slot's own within
  have noIn : ∀ {j : Nat} {a : Addr}, j ∈ vs → OwnAt env σ j a → ∀ i, ¬ OwnAt (wipeE env vs) (wipe σ vs) i a := fun {j a} hj h i ⟨⟨u, hu⟩, q⟩ => by
    by_cases hi : i ∈ vs
    · have z := wipeE_in hi hu
      cases z
    · rw [wipeE_out hi] at hu
      rw [wipe_out' hi] at q
      have e := ok.inj i j a ⟨⟨u, hu⟩, q⟩ h
      exact hi (e ▸ hj)
  refine ⟨⟨st.sub, st.keep, st.pers, st.here, fun j a h => ?_, fun j hj => ?_⟩, ⟨ok4.sub, by rw [restE_len]; show env4.length = σ.length; rw [← le]; exact ok.len, fun j u h => ?_, fun j u h => ?_, fun j k a h1 h2 => ?_⟩⟩
  · rcases own h with ⟨hj, q⟩ | ⟨hj, q⟩
    · have hB : j ∉ BS := fun z => hv j z hj
      exact .inr ⟨hB, .inr ⟨j, hB, q⟩⟩
    · exact st.new j a q
  · refine ⟨rfl, fun z => ?_⟩
    obtain ⟨u, q⟩ := (st.bs j hj).2 z
    refine ⟨u, ?_⟩
    show (restE env env4 vs)[j]? = _
    rw [outt (hv j hj)]
    exact q
  · by_cases hj : j ∈ vs
    · have h' : (restE env env4 vs)[j]? = some (.dat u) := h
      rw [inn hj] at h'
      obtain ⟨v, q1, q2⟩ := ok.dat j u h'
      exact ⟨v, q1, q2.mono st.sub⟩
    · have h' : (restE env env4 vs)[j]? = some (.dat u) := h
      rw [outt hj] at h'
      obtain ⟨v, q1, q2⟩ := ok4.dat j u h'
      exact ⟨v, by rw [hσ j hj] at q1; exact q1, q2⟩
  · by_cases hj : j ∈ vs
    · have h' : (restE env env4 vs)[j]? = some (.own u) := h
      rw [inn hj] at h'
      obtain ⟨a, q1, q2, q3⟩ := ok.own j u h'
      have nn := noIn hj ⟨⟨u, h'⟩, q1⟩
      exact ⟨a, q1, st'.pers a q3.ne q2 nn, q3.mono st.sub fun o e => st'.keep a o e nn⟩
    · have h' : (restE env env4 vs)[j]? = some (.own u) := h
      rw [outt hj] at h'
      obtain ⟨a, q1, q2, q3⟩ := ok4.own j u h'
      exact ⟨a, by rw [hσ j hj] at q1; exact q1, q2, q3⟩
  · rcases own h1 with ⟨hj, q1⟩ | ⟨hj, q1⟩
    · rcases own h2 with ⟨hk, q2⟩ | ⟨hk, q2⟩
      · exact ok.inj j k a q1 q2
      · exact absurd q2 (st'.notOwn (ok.ownAt q1).2.1 (noIn hj q1) k)
    · rcases own h2 with ⟨hk, q2⟩ | ⟨hk, q2⟩
      · exact absurd q1 (st'.notOwn (ok.ownAt q2).2.1 (noIn hk q2) j)
      · exact ok4.inj j k a q1 q2
end
def compL (t : Tg) (c : TF) (el : EF) (vs : List Nat) : List W → List W → Ev → Res (List W)
  | [], acc, env => .ok acc env
  | w :: ws, acc, env => match bindT t w (wipeE env vs) with
    | none => .bad
    | some env2 => match c env2 with
      | .ok true env3 => (match fE el env3 with
        | .ok (.v y) env4 => if acc.length < 16777216 then compL t c el vs ws (acc ++ [y]) (restE env env4 vs) else .bad
        | _ => .bad)
      | .ok false env3 => compL t c el vs ws acc (restE env env3 vs)
      | _ => .bad
theorem compL_nil {t : Tg} {c : TF} {el : EF} {vs : List Nat} {acc : List W} {env : Ev} : compL t c el vs [] acc env = .ok acc env := rfl
theorem compL_cons {t : Tg} {c : TF} {el : EF} {vs : List Nat} {w : W} {ws acc : List W} {env : Ev} : compL t c el vs (w :: ws) acc env = (match bindT t w (wipeE env vs) with
    | none => .bad
    | some env2 => match c env2 with
      | .ok true env3 => (match fE el env3 with
        | .ok (.v y) env4 => if acc.length < 16777216 then compL t c el vs ws (acc ++ [y]) (restE env env4 vs) else .bad
        | _ => .bad)
      | .ok false env3 => compL t c el vs ws acc (restE env env3 vs)
      | _ => .bad) := rfl
def fYes : TF := fun env => .ok true env
def fLc (it : Ev → Res (List W)) (t : Tg) (c : TF) (el : EF) (vs : List Nat) : EF := fun env => (it env).bind fun ws env => match compL t c el vs ws [] env with
  | .ok ys env => .ok (.n (.lst ys)) env
  | _ => .bad
section
variable {X : Cx} {ci : Nat → Addr} {BS : List Nat} {tg iter elt : Expr} {ifs : List Expr} {scope : Scope} {own : List (Str × Nat)} {it : Ev → Res (List W)} {t : Tg} {c : TF} {el : EF} {pos : Pos}
theorem PE.imp {e : Expr} {t t' : TE} (h : PE X e t) (f : ∀ σ H Q, t' σ H Q → t σ H Q) : PE X e t' := ⟨fun pins s σ H Q I hw => h.run pins s σ H Q I (f σ H Q hw)⟩
theorem PT.imp {e : Expr} {t t' : TT} (h : PT X e t) (f : ∀ σ H Q, t' σ H Q → t σ H Q) : PT X e t' := ⟨fun pins s σ H Q I hw => h.run pins s σ H Q I (f σ H Q hw)⟩
theorem PG.imp {e : Expr} {t t' : TG} (h : PG X e t) (f : ∀ v σ H Q, t' v σ H Q → t v σ H Q) : PG X e t' := ⟨fun pins s σ H v u Q I r hw => h.run pins s σ H v u Q I r (f v σ H Q hw)⟩
structure Blk where
  s : Shared
  H : Hp
  C : Addr
  cl : List (Str × Addr)
  fp : List Addr
abbrev Cx.at (X : Cx) (scope : Scope) (b : Blk) : Cx := X.blk b.s b.H scope (compEnvC scope b.cl b.C X.env) b.fp
/-- the tests of a comprehension's clause -/
inductive SndIfs (X : Cx) (ci : Nat → Addr) (BS : List Nat) (scope : Scope) : List Expr → TF → Prop
  | none : SndIfs X ci BS scope [] fYes
  | one {e : Expr} {c : TF} (h : ∀ b : Blk, SndT (Cx.at X scope b) ci BS e c) : SndIfs X ci BS scope [e] c
theorem SndIfs.ex (h : SndIfs X ci BS scope ifs c) : ∃ tt : TT, (∀ b : Blk, PTs (Cx.at X scope b) ifs tt) ∧ ∀ (s : Sta) (Q : Bool → Hp → Prop), Ok X.K ci s → Acc X.K ci BS (fun _ _ _ _ => False) s (CT Q) (c s.env) → tt s.σ s.H Q := by
  cases h with
  | none => exact ⟨tYes, fun b => pts_nil, fun s Q ok h => h s.G s.H Step.refl ok⟩
  | one h =>
    refine ⟨fun σ H Q => ∀ b, (h b).ex.choose (fun _ _ _ _ => False) σ H Q, fun b => pts_one (PT.imp ((h b).ex.choose_spec.1 _ takes0) fun σ H Q z => z b), fun s Q ok a b => (h b).ex.choose_spec.2 _ s Q ok a⟩
theorem lc_core' {wi : WX → TI} (qi : ∀ (W' : WX) (s : Sta) (R : It → Hp → Prop), Ok X.K ci s → Acc X.K ci BS W' s (fun ws m => ∀ J Gp Y, ItOk X ci BS m ws J Gp Y → R J m.H) (it s.env) → wi W' s.σ s.H R)
    {g : TG} (qg : ∀ (s : Sta) (v : V) (w : W) (env' : Ev) (Q : L2.St → Hp → Prop), Ok X.K ci s → RepV X.K ci s.G v w → bindT t w s.env = some env' → GOut X ci BS s (idxT t) env' Q → g v s.σ s.H Q)
    {tt : TT} (qt : ∀ (s : Sta) (Q : Bool → Hp → Prop), Ok X.K ci s → Acc X.K ci BS (fun _ _ _ _ => False) s (CT Q) (c s.env) → tt s.σ s.H Q)
    {te : TE} (qe : ∀ (s : Sta) (Q : VK), Ok X.K ci s → Acc X.K ci BS (fun _ _ _ _ => False) s (CE X.K ci s Q) (fE el s.env) → te s.σ s.H Q)
    {vs : List Nat} (hv : ∀ i ∈ BS, i ∉ vs) (hi : ∀ j ∈ idxT t, j ∈ vs) (W' : WX) (s : Sta) (Q : VK) (ok : Ok X.K ci s) (h : Acc X.K ci BS W' s (CE X.K ci s Q) (fLc it t c el vs s.env)) : tLc (wi W') g tt te vs s.σ s.H Q := by
  refine qi W' s _ ok (h.bind.imp fun ws env1 G1 H1 st1 ok1 h1 => ?_)
  intro J Gp Y io D hD
  have h1 : Acc X.K ci BS W' ⟨env1, s.σ, G1, H1⟩ (CE X.K ci s Q) (match compL t c el vs ws [] env1 with
    | .ok ys env => .ok (.n (.lst ys)) env
    | _ => .bad) := h1
  have gD : G1 D = none := ok1.sub.free hD
  refine lc_it io.walk (fun i H => ∃ (G : Hp) (env : Ev) (va : List V) (wa : List W), Stp BS ⟨env1, s.σ, G1, H1⟩ ⟨env, s.σ, G, H⟩ ∧ Ok X.K ci ⟨env, s.σ, G, H⟩ ∧ H D = some (.lst va) ∧ RepVs X.K ci G va wa ∧ G D = none ∧ (∀ j, ¬ OwnAt env s.σ j D) ∧
    compL t c el vs ws [] env1 = compL t c el vs (ws.drop i) wa env) ?_ ?_ ?_ ?_
  · obtain ⟨st2, ok2, _, no⟩ := alloc_new (BS := BS) (o := .lst []) ok1 hD
    exact ⟨G1, env1, [], [], st2, ok2, upd_same, .nil, gD, no, rfl⟩
  · rintro i H hi' ⟨G, env, va, wa, st2, ok2, _⟩
    exact io.stays _ ok2 st2.sub
  · rintro i x H H' hi' ⟨G, env, va, wa, st2, ok2, eD, ra, gD', noD, eq⟩ y
    obtain ⟨w, G2, hw, st3, ok3, rv⟩ := io.gives ⟨env, s.σ, G, H⟩ i x H' ok2 st2.sub hi' y
    have hd : ws.drop i = w :: ws.drop (i + 1) := by
      obtain ⟨hl, e⟩ := List.getElem?_eq_some_iff.mp hw
      rw [List.drop_eq_getElem_cons hl, e]
    rw [hd, compL_cons] at eq
    rw [eq] at h1
    have nD : H D ≠ none := by rw [eD]; exact fun z => nomatch z
    have eD3 : H' D = some (.lst va) := st3.keep D _ eD noD
    have gD3 : G2 D = none := st3.pers D nD gD' noD
    have noD3 := st3.notOwn nD noD
    have nD3 : H' D ≠ none := by rw [eD3]; exact fun z => nomatch z
    cases e1 : bindT t w (wipeE env vs) with
    | none => rw [e1] at h1; exact h1.elim
    | some env2 =>
      rw [e1] at h1 eq
      dsimp only at h1 eq
      obtain ⟨stw, okw⟩ := wipe_ok (BS := BS) ok3 hv
      refine qg ⟨wipeE env vs, wipe s.σ vs, G2, H'⟩ x w env2 _ okw rv e1 fun σ2 st4 ok4 l4 k4 => ?_
      have l4' : σ2.length = s.σ.length := l4.trans (wipe_length _ _)
      have k4' : ∀ j, j ∉ vs → σ2[j]? = (wipe s.σ vs)[j]? := fun j hj => k4 j fun z => hj (hi j z)
      have k4'' : ∀ j, j ∉ vs → σ2[j]? = s.σ[j]? := fun j hj => (k4' j hj).trans (wipe_out' hj)
      refine ⟨wipe_eq l4' k4', ?_⟩
      refine qt ⟨env2, σ2, G2, H'⟩ _ ok4 ?_
      -- back to the def's slots
      have fin : ∀ {env5 : Ev} {G5 H5 : Hp}, Stp BS ⟨env2, σ2, G2, H'⟩ ⟨env5, σ2, G5, H5⟩ → Ok X.K ci ⟨env5, σ2, G5, H5⟩ →
          Stp BS ⟨env1, s.σ, G1, H1⟩ ⟨restE env env5 vs, s.σ, G5, H5⟩ ∧ Ok X.K ci ⟨restE env env5 vs, s.σ, G5, H5⟩ ∧ H5 D = some (.lst va) ∧ RepVs X.K ci G5 va wa ∧ G5 D = none ∧ ∀ j, ¬ OwnAt (restE env env5 vs) s.σ j D := fun {env5 G5 H5} st5 ok5 => by
        have stA := Step.trans stw (Step.trans st4 st5)
        obtain ⟨r1, r2⟩ := rest_ok (vs := vs) ok3 ok5 stA (Step.trans st4 st5) hv l4' k4''
        have stB := Step.trans st3 r1
        exact ⟨Step.trans st2 stB, r2, r1.keep D _ eD3 noD3, ra.mono stB.sub, r1.pers D nD3 gD3 noD3, r1.notOwn nD3 noD3⟩
      cases e2 : c env2 with
      | bad => rw [e2] at h1; exact h1.elim
      | er z env' => rw [e2] at h1; exact h1.elim
      | ok b env3 =>
        rw [e2] at h1 eq
        intro G5 H5 st5 ok5
        cases b with
        | false =>
          obtain ⟨f1, f2, f3, f4, f5, f6⟩ := fin st5 ok5
          exact ⟨G5, _, va, wa, f1, f2, f3, f4, f5, f6, eq⟩
        | true =>
          dsimp only at h1 eq
          refine qe ⟨env3, σ2, G5, H5⟩ _ ok5 ?_
          cases e3 : fE el env3 with
          | bad => rw [e3] at h1; exact h1.elim
          | er z env' => rw [e3] at h1; exact h1.elim
          | ok ov env4 =>
            rw [e3] at h1 eq
            cases ov with
            | s j => exact h1.elim
            | n u => exact h1.elim
            | v u =>
              dsimp only at h1 eq
              intro G6 H6 st6 ok6 v rep new
              by_cases hz : wa.length < 16777216
              · rw [if_pos hz] at eq
                obtain ⟨f1, f2, f3, f4, f5, f6⟩ := fin (Step.trans st5 st6) ok6
                refine ⟨va, f3, by rw [sizeLine_eq, f4.length]; exact hz, G6, _, va ++ [v], wa ++ [u], ?_, ?_, upd_same, f4.append (.cons rep .nil), f5, f6, eq⟩
                · have nb : ∀ {a : Addr}, H1 a ≠ none → a ≠ D := fun {a} ha z => ha (z ▸ hD)
                  exact ⟨f1.sub, fun a o ha no => by
                      show upd H6 D _ a = _
                      rw [upd_ne (nb (by rw [show H1 a = some o from ha]; exact fun z => nomatch z))]
                      exact f1.keep a o ha no, f1.pers, fun a ha => by
                      show upd H6 D _ a ≠ none
                      rw [upd_ne (nb ha)]
                      exact f1.here a ha, f1.new, f1.bs⟩
                · refine ⟨fun b o hb => ?_, f2.len, f2.dat, fun j u' hu => ?_, f2.inj⟩
                  · have nb : b ≠ D := fun z => by
                      rw [z] at hb
                      have hb' : G6 D = some o := hb
                      rw [f5] at hb'
                      cases hb'
                    show upd H6 D _ b = _
                    rw [upd_ne nb]
                    exact f2.sub b o hb
                  · obtain ⟨a, q1, q2, q3⟩ := f2.own j u' hu
                    have nb : a ≠ D := fun z => f6 j ⟨⟨u', hu⟩, z ▸ q1⟩
                    exact ⟨a, q1, q2, q3.mono (Same.refl _) fun o hb => by show upd H6 D _ a = _; rw [upd_ne nb]; exact hb⟩
              · rw [if_neg hz] at h1
                exact h1.elim
  · rintro H ⟨G, env, va, wa, st2, ok2, eD, ra, gD', noD, eq⟩
    rw [List.drop_length, compL_nil] at eq
    rw [eq] at h1
    refine h1 G H st2 ok2 (.ref D) ⟨D, rfl, .lst eD ra, gD', noD⟩ fun a e => ?_
    cases e
    cases q : s.H D with
    | none => rfl
    | some o => exact absurd hD (st1.here D (by rw [q]; exact fun z => nomatch z))
theorem x_lc (hc : X.calm = true) (hN : X.N.Nodup) (hi : SndI X ci BS tg iter it) (ok : BlkOk X.N X.env.scope scope own) (hg : ∀ b : Blk, SndG (Cx.at X scope b) ci BS tg t) (ht : SndIfs X ci BS scope ifs c) (he : ∀ b : Blk, SndE (Cx.at X scope b) ci BS elt el)
    (hv : ∀ i ∈ BS, i ∉ own.map (·.2)) (hidx : ∀ j ∈ idxT t, j ∈ own.map (·.2)) (hs : ∀ x, foldedSetIterable iter X.env x = pure x := by intro _; rfl) : SndE X ci BS (.ListComp elt [⟨tg, iter, ifs, 0⟩] scope pos) (fLc it t c el (own.map (·.2))) := by
  obtain ⟨wi, pi, qi⟩ := hi.ex
  obtain ⟨tt, pt, qt⟩ := ht.ex
  have he' : ∀ b : Blk, SndE (Cx.at X scope b) ci BS elt (fE el) := fun b => x_esc (he b)
  refine ⟨⟨fun W' => tLc (wi W') (fun v σ H Q => ∀ b, (hg b).ex.choose v σ H Q) tt (fun σ H Q => ∀ b, (he' b).ex.choose (fun _ _ _ _ => False) σ H Q) (own.map (·.2)), fun W' tk => ?_, fun W' s Q ok h => ?_⟩⟩
  · exact pe_lc hc hN (pi W' tk) ok (fun s H C cl fp => PG.imp ((hg ⟨s, H, C, cl, fp⟩).ex.choose_spec.1) fun v σ H Q z => z _) (fun s H C cl fp => pt ⟨s, H, C, cl, fp⟩) (fun s H C cl fp => PE.imp ((he' ⟨s, H, C, cl, fp⟩).ex.choose_spec.1 _ takes0) fun σ H Q z => z _) hs
  · exact lc_core' qi (g := fun v σ H Q => ∀ b, (hg b).ex.choose v σ H Q) (fun s v w env' Q ok r e o b => (hg b).ex.choose_spec.2 s v w env' Q ok r e o) qt (te := fun σ H Q => ∀ b, (he' b).ex.choose (fun _ _ _ _ => False) σ H Q) (fun s Q ok a b => (he' b).ex.choose_spec.2 _ s Q ok a) hv hidx W' s Q ok h
theorem s_setLc {i : Nat} {y : Str} {py spos : Pos} (hbi : i ∉ BS) (hc : X.calm = true) (hN : X.N.Nodup) (hy : X.N[i]? = some y) (hyl : X.env.scope.names.lookup y = some .local) (hsw : swapsWith (.ListComp elt [⟨tg, iter, ifs, 0⟩] scope pos) (some (.Name y py)) spos.line X.env = pure true)
    (hi : SndI X ci BS tg iter it) (ok : BlkOk X.N X.env.scope scope own) (hg : ∀ b : Blk, SndG (Cx.at X scope b) ci BS tg t) (ht : SndIfs X ci BS scope ifs c) (he : ∀ b : Blk, SndE (Cx.at X scope b) ci BS elt el)
    (hv : ∀ i ∈ BS, i ∉ own.map (·.2)) (hidx : ∀ j ∈ idxT t, j ∈ own.map (·.2)) (hs : ∀ x, foldedSetIterable iter X.env x = pure x := by intro _; rfl) : SndS X ci BS (.Assign [.Name y py] (.ListComp elt [⟨tg, iter, ifs, 0⟩] scope pos) spos) (sOwn i (fLc it t c el (own.map (·.2)))) := by
  obtain ⟨wi, pi, qi⟩ := hi.ex
  obtain ⟨tt, pt, qt⟩ := ht.ex
  have he' : ∀ b : Blk, SndE (Cx.at X scope b) ci BS elt (fE el) := fun b => x_esc (he b)
  refine ⟨⟨fun W' => tAsg (tLc (wi W') (fun v σ H Q => ∀ b, (hg b).ex.choose v σ H Q) tt (fun σ H Q => ∀ b, (he' b).ex.choose (fun _ _ _ _ => False) σ H Q) (own.map (·.2))) (gName i), fun W' tk => ?_, fun W' s D ok h => ?_⟩⟩
  · exact ps_setLc hc hN hy hyl hsw (pi W' tk) ok (fun s H C cl fp => PG.imp ((hg ⟨s, H, C, cl, fp⟩).ex.choose_spec.1) fun v σ H Q z => z _) (fun s H C cl fp => pt ⟨s, H, C, cl, fp⟩) (fun s H C cl fp => PE.imp ((he' ⟨s, H, C, cl, fp⟩).ex.choose_spec.1 _ takes0) fun σ H Q z => z _) hs
  · refine lc_core' qi (g := fun v σ H Q => ∀ b, (hg b).ex.choose v σ H Q) (fun s v w env' Q ok r e o b => (hg b).ex.choose_spec.2 s v w env' Q ok r e o) qt (te := fun σ H Q => ∀ b, (he' b).ex.choose (fun _ _ _ _ => False) σ H Q) (fun s Q ok a b => (he' b).ex.choose_spec.2 _ s Q ok a) hv hidx W' s _ ok ?_
    have h' : AccS X.K ci BS W' s D ((fLc it t c el (own.map (·.2)) s.env).andS fun ov env => match ov with | .n w => .nx (env.set i (.own w)) | _ => .bad) := h
    cases e1 : fLc it t c el (own.map (·.2)) s.env with
    | bad => rw [e1] at h'; exact h'.elim
    | er x env' => rw [e1] at h'; exact fun G' H' cls d st ok rx => h' s.σ G' H' cls d st ok rx
    | ok ov env' =>
      rw [e1] at h'
      cases ov with
      | n w =>
        intro G' H' st ok' v rep new
        obtain ⟨a, rfl, ro, ga, no⟩ := rep
        obtain ⟨st2, ok2⟩ := set_own (s := s) (m := ⟨env', s.σ, G', H'⟩) ok' st hbi ro ga no (new a rfl)
        exact h' _ _ _ st2 ok2
      | _ => exact h'.elim
end
end BV

set_option maxRecDepth 100000
set_option maxHeartbeats 4000000
/-! BV: defs and calls. -/
namespace BV
open PySem PySem.Spec PyProof.Rows L2
inductive CRes where
  | bad | ok (w : W) (outs : List W) | nw (w : W) (outs : List W) | er (x : Exc) (outs : List W)
abbrev FnD := List W → CRes
section
variable (K : PySem.W.Frag) (ci : Nat → Addr) (G H : Hp)
inductive ArgR : List Bool → List V → List W → Prop
  | nil : ArgR [] [] []
  | val {ks : List Bool} {v : V} {vs : List V} {w : W} {ws : List W} (h : RepV K ci G v w) (r : ArgR ks vs ws) : ArgR (false :: ks) (v :: vs) (w :: ws)
  | io {ks : List Bool} {a : Addr} {vs : List V} {w : W} {ws : List W} (g : G a = none) (h : RepO K ci G H a w) (r : ArgR ks vs ws) : ArgR (true :: ks) (.ref a :: vs) (w :: ws)
end
def ios : List Bool → List V → List Addr
  | true :: ks, .ref a :: vs => a :: ios ks vs
  | _ :: ks, _ :: vs => ios ks vs
  | _, _ => []
def ioIdx : Nat → List Bool → List Nat
  | _, [] => []
  | n, true :: ks => n :: ioIdx (n + 1) ks
  | n, false :: ks => ioIdx (n + 1) ks
structure CStep (B : List Addr) (G H G' H' : Hp) : Prop where
  sub : Same G G'
  subH : Same G' H'
  keep : ∀ a o, H a = some o → a ∉ B → H' a = some o
  pers : ∀ a, H a ≠ none → G a = none → G' a = none
  here : ∀ a, H a ≠ none → H' a ≠ none
section
variable (K : PySem.W.Frag) (ci : Nat → Addr)
def OutR (G' H' : Hp) (B : List Addr) (outs : List W) : Prop := Paired (fun a w => RepO K ci G' H' a w ∧ G' a = none) B outs
def AccC (G H : Hp) (B : List Addr) (Q : VK) (E : XK) : CRes → Prop
  | .bad => False
  | .ok w outs => ∀ G' H' v, CStep B G H G' H' → OutR K ci G' H' B outs → RepV K ci G' v w → Q v H'
  | .nw w outs => ∀ G' H' a, CStep B G H G' H' → OutR K ci G' H' B outs → RepO K ci G' H' a w → G' a = none → H a = none → Q (.ref a) H'
  | .er x outs => ∀ G' H' cls d, CStep B G H G' H' → OutR K ci G' H' B outs → RepX K ci G' H' cls d x → E cls d H'
def spF (ks : List Bool) (g : FnD) : Sp := fun vs H Q E => ∃ G args, Same G H ∧ ArgR K ci G H ks vs args ∧ (ios ks vs).Nodup ∧ AccC K ci G H (ios ks vs) Q E (g args)
end
def argEnv : List Bool → List W → Ev
  | true :: ks, w :: ws => .own w :: argEnv ks ws
  | false :: ks, w :: ws => .dat w :: argEnv ks ws
  | _, _ => []
def outsE (env : Ev) : List Nat → Option (List W)
  | [] => some []
  | i :: is => match env[i]? with
    | some (.own w) => (outsE env is).map (w :: ·)
    | _ => none
def fdef (n : Nat) (ks : List Bool) (f : SF) : FnD := fun args => match f (argEnv ks args ++ List.replicate (n - args.length) Sl.no) with
  | .nx env => (match outsE env (ioIdx 0 ks) with | some os => .ok .non os | none => .bad)
  | .rt w env => (match outsE env (ioIdx 0 ks) with | some os => .ok w os | none => .bad)
  | .rn w env => (match outsE env (ioIdx 0 ks) with | some os => .nw w os | none => .bad)
  | .er x env => (match outsE env (ioIdx 0 ks) with | some os => .er x os | none => .bad)
  | _ => .bad
section
variable {K : PySem.W.Frag} {ci : Nat → Addr} {G H G' H' : Hp}
theorem ArgR.len {ks : List Bool} {vs : List V} {ws : List W} (h : ArgR K ci G H ks vs ws) : vs.length = ks.length ∧ ws.length = ks.length := by
  induction h with
  | nil => exact ⟨rfl, rfl⟩
  | val _ _ ih => exact ⟨congrArg (· + 1) ih.1, congrArg (· + 1) ih.2⟩
  | io _ _ _ ih => exact ⟨congrArg (· + 1) ih.1, congrArg (· + 1) ih.2⟩
theorem argEnv_len {ks : List Bool} {vs : List V} {ws : List W} (h : ArgR K ci G H ks vs ws) : (argEnv ks ws).length = ws.length := by
  induction h with
  | nil => rfl
  | val _ _ ih => exact congrArg (· + 1) ih
  | io _ _ _ ih => exact congrArg (· + 1) ih
theorem arg_dat {ks : List Bool} {vs : List V} {ws : List W} (h : ArgR K ci G H ks vs ws) : ∀ {i : Nat} {w : W}, (argEnv ks ws)[i]? = some (.dat w) → ∃ v, vs[i]? = some v ∧ RepV K ci G v w := by
  induction h with
  | nil => intro i w e; cases e
  | val r _ ih =>
    intro i w e
    cases i with
    | zero => cases e; exact ⟨_, rfl, r⟩
    | succ i => exact ih e
  | io g r _ ih =>
    intro i w e
    cases i with
    | zero => cases e
    | succ i => exact ih e
theorem arg_own {ks : List Bool} {vs : List V} {ws : List W} (h : ArgR K ci G H ks vs ws) : ∀ {i n : Nat} {w : W}, (argEnv ks ws)[i]? = some (.own w) → n + i ∈ ioIdx n ks ∧ ∃ a, vs[i]? = some (.ref a) ∧ G a = none ∧ RepO K ci G H a w ∧ a ∈ ios ks vs := by
  induction h with
  | nil => intro i n w e; cases e
  | val r _ ih =>
    intro i n w e
    cases i with
    | zero => cases e
    | succ i =>
      obtain ⟨h1, a, h2, h3, h4, h5⟩ := ih (n := n + 1) e
      refine ⟨?_, a, h2, h3, h4, ?_⟩
      · unfold ioIdx
        rw [show n + (i + 1) = n + 1 + i by omega]
        exact h1
      · unfold ios
        exact h5
  | io g r _ ih =>
    intro i n w e
    cases i with
    | zero =>
      cases e
      exact ⟨by unfold ioIdx; exact List.mem_cons_self .., _, rfl, g, r, by unfold ios; exact List.mem_cons_self ..⟩
    | succ i =>
      obtain ⟨h1, a, h2, h3, h4, h5⟩ := ih (n := n + 1) e
      refine ⟨?_, a, h2, h3, h4, by unfold ios; exact List.mem_cons_of_mem _ h5⟩
      unfold ioIdx
      rw [show n + (i + 1) = n + 1 + i by omega]
      exact List.mem_cons_of_mem _ h1
theorem arg_inj {ks : List Bool} {vs : List V} {ws : List W} (h : ArgR K ci G H ks vs ws) : (ios ks vs).Nodup → ∀ {i j : Nat} {w u : W} {a : Addr}, (argEnv ks ws)[i]? = some (.own w) → (argEnv ks ws)[j]? = some (.own u) → vs[i]? = some (.ref a) → vs[j]? = some (.ref a) → i = j := by
  induction h with
  | nil => intro _ i j w u a e; cases e
  | val r _ ih =>
    intro nd i j w u a e1 e2 q1 q2
    cases i with
    | zero => cases e1
    | succ i =>
      cases j with
      | zero => cases e2
      | succ j => exact congrArg (· + 1) (ih nd e1 e2 q1 q2)
  | @io ks b vs w0 ws g r rr ih =>
    intro nd i j w u a e1 e2 q1 q2
    unfold ios at nd
    obtain ⟨n1, n2⟩ := List.nodup_cons.mp nd
    cases i with
    | zero =>
      cases j with
      | zero => rfl
      | succ j =>
        obtain ⟨_, c, p1, _, _, p2⟩ := arg_own (n := 0) rr e2
        have q2' : vs[j]? = some (.ref a) := q2
        rw [p1] at q2'
        have ec : c = a := V.ref.inj (Option.some.inj q2')
        have eb : b = a := V.ref.inj (Option.some.inj q1)
        rw [ec, ← eb] at p2
        exact absurd p2 n1
    | succ i =>
      cases j with
      | zero =>
        obtain ⟨_, c, p1, _, _, p2⟩ := arg_own (n := 0) rr e1
        have q1' : vs[i]? = some (.ref a) := q1
        rw [p1] at q1'
        have ec : c = a := V.ref.inj (Option.some.inj q1')
        have eb : b = a := V.ref.inj (Option.some.inj q2)
        rw [ec, ← eb] at p2
        exact absurd p2 n1
      | succ j => exact congrArg (· + 1) (ih n2 e1 e2 q1 q2)
/-- the borrowed objects at the end -/
theorem outs_ok {ks : List Bool} {vs : List V} {ws : List W} (h : ArgR K ci G H ks vs ws) {env' : Ev} : ∀ {n : Nat} {outs : List W}, (∀ i a, vs[i]? = some (.ref a) → n + i ∈ ioIdx n ks → ∀ w, env'[n + i]? = some (.own w) → RepO K ci G' H' a w ∧ G' a = none) → outsE env' (ioIdx n ks) = some outs → OutR K ci G' H' (ios ks vs) outs := by
  induction h with
  | nil =>
    intro n outs _ e
    cases e
    exact .nil
  | @val ks v vs w ws r _ ih =>
    intro n outs hh e
    unfold ios
    refine ih (n := n + 1) (fun i a q m w e2 => hh (i + 1) a q ?_ w (by rw [show n + (i + 1) = n + 1 + i by omega]; exact e2)) e
    unfold ioIdx
    rw [show n + (i + 1) = n + 1 + i by omega]
    exact m
  | @io ks b vs w ws g r _ ih =>
    intro n outs hh e
    unfold ioIdx outsE at e
    unfold ios
    cases e1 : env'[n]? with
    | none => rw [e1] at e; cases e
    | some sl =>
      rw [e1] at e
      cases sl with
      | no => cases e
      | dat w => cases e
      | own u =>
        have e : (outsE env' (ioIdx (n + 1) ks)).map (u :: ·) = some outs := e
        cases e2 : outsE env' (ioIdx (n + 1) ks) with
        | none => rw [e2] at e; cases e
        | some os =>
          rw [e2] at e
          cases e
          refine .cons (hh 0 b rfl (by unfold ioIdx; exact List.mem_cons_self ..) u e1) (ih (n := n + 1) (fun i a q m w e2 => hh (i + 1) a q ?_ w (by rw [show n + (i + 1) = n + 1 + i by omega]; exact e2)) e2)
          unfold ioIdx
          rw [show n + (i + 1) = n + 1 + i by omega]
          exact List.mem_cons_of_mem _ m
theorem get_app_rep {l : Ev} {k i : Nat} {sl : Sl} (h : (l ++ List.replicate k .no)[i]? = some sl) (ns : sl ≠ .no) : l[i]? = some sl := by
  by_cases hi : i < l.length
  · rw [List.getElem?_append_left hi] at h
    exact h
  · rw [List.getElem?_append_right (by omega)] at h
    have z := List.mem_of_getElem? h
    rw [List.mem_replicate] at z
    exact absurd z.2 ns
theorem start_ok {N : List Str} {ks : List Bool} {vs : List V} {ws : List W} (sub : Same G H) (h : ArgR K ci G H ks vs ws) (nd : (ios ks vs).Nodup) :
    Ok K ci ⟨argEnv ks ws ++ List.replicate (N.length - ws.length) Sl.no, L2.start N vs, G, H⟩ := by
  obtain ⟨l1, l2⟩ := h.len
  have hs : ∀ {i : Nat} {v : V}, vs[i]? = some v → (L2.start N vs)[i]? = some (some v) := fun {i v} e => by
    unfold L2.start
    have hi : i < vs.length := (List.getElem?_eq_some_iff.mp e).1
    rw [List.getElem?_append_left (by rw [List.length_map]; exact hi), List.getElem?_map, e]
    rfl
  refine ⟨sub, ?_, fun i w e => ?_, fun i w e => ?_, fun i j a h1 h2 => ?_⟩
  · show (argEnv ks ws ++ List.replicate (N.length - ws.length) Sl.no).length = (L2.start N vs).length
    unfold L2.start
    rw [List.length_append, List.length_append, argEnv_len h, List.length_replicate, List.length_map, List.length_replicate, l1, l2]
  · obtain ⟨v, q1, q2⟩ := arg_dat h (get_app_rep e (fun z => nomatch z))
    exact ⟨v, hs q1, q2⟩
  · obtain ⟨_, a, q1, q2, q3, _⟩ := arg_own (n := 0) h (get_app_rep e (fun z => nomatch z))
    exact ⟨a, hs q1, q2, q3⟩
  · obtain ⟨⟨u1, e1⟩, p1⟩ := h1
    obtain ⟨⟨u2, e2⟩, p2⟩ := h2
    have e1' := get_app_rep e1 (fun z => nomatch z)
    have e2' := get_app_rep e2 (fun z => nomatch z)
    obtain ⟨_, b, q1, _⟩ := arg_own (n := 0) h e1'
    obtain ⟨_, c, q2, _⟩ := arg_own (n := 0) h e2'
    have r1 := hs q1
    have r2 := hs q2
    rw [p1] at r1
    rw [p2] at r2
    cases r1
    cases r2
    exact arg_inj h nd e1' e2' q1 q2
theorem start_own {N : List Str} {ks : List Bool} {vs : List V} {ws : List W} (h : ArgR K ci G H ks vs ws) {i : Nat} {a : Addr} (o : OwnAt (argEnv ks ws ++ List.replicate (N.length - ws.length) Sl.no) (L2.start N vs) i a) : i ∈ ioIdx 0 ks ∧ a ∈ ios ks vs := by
  obtain ⟨⟨u, e⟩, p⟩ := o
  obtain ⟨m, b, q, _, _, m2⟩ := arg_own (n := 0) h (get_app_rep e (fun z => nomatch z))
  have hs : (L2.start N vs)[i]? = some (some (.ref b)) := by
    unfold L2.start
    have hi : i < vs.length := (List.getElem?_eq_some_iff.mp q).1
    rw [List.getElem?_append_left (by rw [List.length_map]; exact hi), List.getElem?_map, q]
    rfl
  rw [p] at hs
  cases hs
  rw [Nat.zero_add] at m
  exact ⟨m, m2⟩
theorem own_start {N : List Str} {ks : List Bool} {vs : List V} {ws : List W} (h : ArgR K ci G H ks vs ws) : ∀ {i n : Nat}, n + i ∈ ioIdx n ks → ∃ w a, (argEnv ks ws)[i]? = some (.own w) ∧ vs[i]? = some (.ref a) := by
  have low : ∀ {ks : List Bool} {n m : Nat}, m ∈ ioIdx n ks → n ≤ m := by
    intro ks
    induction ks with
    | nil => intro n m h; cases h
    | cons b ks ih =>
      intro n m h
      cases b with
      | true =>
        unfold ioIdx at h
        rcases List.mem_cons.mp h with z | z
        · omega
        · have := ih z; omega
      | false =>
        unfold ioIdx at h
        have := ih h; omega
  induction h with
  | nil => intro i n m; cases m
  | val r _ ih =>
    intro i n m
    unfold ioIdx at m
    cases i with
    | zero => have := low m; omega
    | succ i =>
      rw [show n + (i + 1) = n + 1 + i by omega] at m
      exact ih m
  | io g r _ ih =>
    intro i n m
    unfold ioIdx at m
    cases i with
    | zero => exact ⟨_, _, rfl, rfl⟩
    | succ i =>
      rw [show n + (i + 1) = n + 1 + i by omega] at m
      rcases List.mem_cons.mp m with z | z
      · omega
      · exact ih z
/-- a def's end, for its caller -/
theorem cstep_of {N : List Str} {ks : List Bool} {vs : List V} {ws : List W} (h : ArgR K ci G H ks vs ws) {env' : Ev} {σ' : L2.St}
    (st : Stp (ioIdx 0 ks) ⟨argEnv ks ws ++ List.replicate (N.length - ws.length) Sl.no, L2.start N vs, G, H⟩ ⟨env', σ', G', H'⟩) (ok' : Ok K ci ⟨env', σ', G', H'⟩) :
    CStep (ios ks vs) G H G' H' ∧ ∀ outs, outsE env' (ioIdx 0 ks) = some outs → OutR K ci G' H' (ios ks vs) outs := by
  have key : ∀ i a, vs[i]? = some (.ref a) → 0 + i ∈ ioIdx 0 ks → ∀ w, env'[0 + i]? = some (.own w) → RepO K ci G' H' a w ∧ G' a = none := fun i a q m w e => by
    obtain ⟨b, p1, p2, p3⟩ := ok'.own (0 + i) w e
    have z := (st.bs (0 + i) m).1
    have hs : (L2.start N vs)[0 + i]? = some (some (.ref a)) := by
      rw [Nat.zero_add]
      unfold L2.start
      have hi : i < vs.length := (List.getElem?_eq_some_iff.mp q).1
      rw [List.getElem?_append_left (by rw [List.length_map]; exact hi), List.getElem?_map, q]
      rfl
    have z' : σ'[0 + i]? = some (some (.ref a)) := z.trans hs
    rw [p1] at z'
    cases z'
    exact ⟨p3, p2⟩
  refine ⟨⟨st.sub, ok'.sub, fun a o e n => st.keep a o e fun i w => n (start_own h w).2, fun a e g => ?_, st.here⟩, fun outs e => outs_ok h key e⟩
  by_cases hh : ∃ i, OwnAt (argEnv ks ws ++ List.replicate (N.length - ws.length) Sl.no) (L2.start N vs) i a
  · obtain ⟨i, o⟩ := hh
    obtain ⟨m, _⟩ := start_own h o
    obtain ⟨z1, z2⟩ := st.bs i m
    obtain ⟨w, e2⟩ := z2 o.1
    obtain ⟨b, p1, p2, p3⟩ := ok'.own i w e2
    have z' : σ'[i]? = some (some (.ref a)) := z1.trans o.2
    rw [p1] at z'
    cases z'
    exact p2
  · exact st.pers a e g fun i w => hh ⟨i, w⟩
end
section
variable {P : Program} {w : World} {K : PySem.W.Frag} {mg : Str → Option Value} {base : Heap} {ci : Nat → Addr}
theorem fn_zero {k : Nat} {f : Addr} {fd : FuncData} {ps : List Str} {ks : List Bool} (hk : ks.length = ps.length) : FnOk P w K mg base (L2.CX P w) k f fd ps (spF K ci ks fun _ => .bad) :=
  ⟨fun vs H Q E ⟨G, args, _, r, _⟩ => by rw [r.len.1, hk], fun A outer s H args us vs Q E _ _ _ _ ⟨G, a, _, _, _, z⟩ => z.elim⟩
/-- THE RULE of a def -/
theorem fn_ok {x qual : Str} {st : Stmt} {f : Addr} {fd : FuncData} {N ps : List Str} {k : Nat} {ks : List Bool} {sf : SF} (F : Fun K x qual st f fd) (S : FnScope N ps (defScope st)) (hk : ks.length = ps.length)
    (body : ∀ (cdv : Value) (A : Around) (outer : List Env) (s : Shared) (H : Hp) (E : XK), Room k (A.deeper (envOfC qual (defScope st) s.heap.objs.size f cdv)) → SndSs (cxOf (L2.CX P w) P w K mg base N qual (defScope st) f cdv A outer s H E) ci (ioIdx 0 ks) (defBody st) sf) :
    FnOk P w K mg base (L2.CX P w) (k + 1) f fd ps (spF K ci ks (fdef N.length ks sf)) := by
  refine F.okX S (fun vs H Q E ⟨G, args, _, r, _⟩ => by rw [r.len.1, hk]) (fun cdv A outer s H vs Q E hr hsp => ?_)
  obtain ⟨G, args, sub, ar, nd, acc⟩ := hsp
  obtain ⟨ts, p, q⟩ := (body cdv A outer s H E hr).ex
  refine ⟨ts fun cls d _ H => E cls d H, p _ (takes_of rfl rfl rfl rfl), ?_⟩
  refine q (fun cls d _ H => E cls d H) ⟨argEnv ks args ++ List.replicate (N.length - args.length) Sl.no, L2.start N vs, G, H⟩ _ (start_ok sub ar nd) ?_
  unfold fdef at acc
  cases e : sf (argEnv ks args ++ List.replicate (N.length - args.length) Sl.no) with
  | bad => rw [e] at acc; exact acc.elim
  | bk env => rw [e] at acc; exact acc.elim
  | ct env => rw [e] at acc; exact acc.elim
  | nx env =>
    rw [e] at acc
    dsimp only at acc
    cases e2 : outsE env (ioIdx 0 ks) with
    | none => rw [e2] at acc; exact acc.elim
    | some os =>
      rw [e2] at acc
      intro σ' G' H' st' ok'
      obtain ⟨c1, c2⟩ := cstep_of ar st' ok'
      exact acc G' H' .non c1 (c2 _ e2) .non
  | rt r env =>
    rw [e] at acc
    dsimp only at acc
    cases e2 : outsE env (ioIdx 0 ks) with
    | none => rw [e2] at acc; exact acc.elim
    | some os =>
      rw [e2] at acc
      intro σ' G' H' v st' ok' rv
      obtain ⟨c1, c2⟩ := cstep_of ar st' ok'
      exact acc G' H' v c1 (c2 _ e2) rv
  | rn r env =>
    rw [e] at acc
    dsimp only at acc
    cases e2 : outsE env (ioIdx 0 ks) with
    | none => rw [e2] at acc; exact acc.elim
    | some os =>
      rw [e2] at acc
      intro σ' G' H' a st' ok' ro ga no nw
      obtain ⟨c1, c2⟩ := cstep_of ar st' ok'
      refine acc G' H' a c1 (c2 _ e2) ro ga ?_
      rcases nw with z | ⟨j, hj, z⟩
      · exact z
      · exact absurd (start_own ar z).1 hj
  | er x env =>
    rw [e] at acc
    dsimp only at acc
    cases e2 : outsE env (ioIdx 0 ks) with
    | none => rw [e2] at acc; exact acc.elim
    | some os =>
      rw [e2] at acc
      intro σ' G' H' cls d st' ok' rx
      obtain ⟨c1, c2⟩ := cstep_of ar st' ok'
      exact acc G' H' cls d c1 (c2 _ e2) rx
end
end BV

set_option maxRecDepth 100000
set_option maxHeartbeats 4000000
/-! BV: calls of defs, raise, try, the methods that change a slot's own list. -/
namespace BV
open PySem PySem.Spec PyProof.Rows L2
def mixA : List Bool → List OV → Ev → Option (List W × List Nat)
  | [], [], _ => some ([], [])
  | false :: ks, .v w :: os, env => (mixA ks os env).map fun p => (w :: p.1, p.2)
  | true :: ks, .s i :: os, env => match env[i]? with
    | some (.own w) => (mixA ks os env).map fun p => (w :: p.1, i :: p.2)
    | _ => none
  | _, _, _ => none
def setIo : Ev → List Nat → List W → Ev
  | env, i :: is, w :: ws => setIo (env.set i (.own w)) is ws
  | env, _, _ => env
def fCall (ks : List Bool) (g : FnD) (fa : AF) : EF := fun env => (fa env).bind fun ovs env => match mixA ks ovs env with
  | none => .bad
  | some (args, idx) => if idx.Nodup then (match g args with
    | .ok w outs => .ok (.v w) (setIo env idx outs)
    | .nw w outs => .ok (.n w) (setIo env idx outs)
    | .er x outs => .er x (setIo env idx outs)
    | .bad => .bad) else .bad
section
variable {X : Cx} {ci : Nat → Addr} {BS : List Nat}
theorem mix_ok {m : Sta} (ok : Ok X.K ci m) : ∀ {ks : List Bool} {vs : List V} {ovs : List OV} {args : List W} {idx : List Nat}, Paired (RepOV X.K ci m) vs ovs → mixA ks ovs m.env = some (args, idx) →
    ArgR X.K ci m.G m.H ks vs args ∧ Paired (OwnAt m.env m.σ) idx (ios ks vs) := by
  intro ks
  induction ks with
  | nil =>
    intro vs ovs args idx r e
    cases ovs with
    | nil => cases r; cases e; exact ⟨.nil, .nil⟩
    | cons o os => cases e
  | cons b ks ih =>
    intro vs ovs args idx r e
    cases ovs with
    | nil => cases b <;> cases e
    | cons o os =>
      cases r with
      | @cons v _ vs _ r1 r2 =>
        cases b with
        | false =>
          cases o with
          | s i => cases e
          | n w => cases e
          | v w =>
            unfold mixA at e
            cases q : mixA ks os m.env with
            | none => rw [q] at e; cases e
            | some p =>
              rw [q] at e
              cases e
              obtain ⟨h1, h2⟩ := ih r2 q
              exact ⟨.val r1 h1, by unfold ios; exact h2⟩
        | true =>
          cases o with
          | v w => cases e
          | n w => cases e
          | s i =>
            unfold mixA at e
            cases q0 : m.env[i]? with
            | none => rw [q0] at e; cases e
            | some sl =>
              rw [q0] at e
              cases sl with
              | no => cases e
              | dat w => cases e
              | own w =>
                dsimp only at e
                cases q : mixA ks os m.env with
                | none => rw [q] at e; cases e
                | some p =>
                  rw [q] at e
                  cases e
                  obtain ⟨h1, h2⟩ := ih r2 q
                  obtain ⟨a, p1, p2, p3⟩ := ok.own i w q0
                  have r1' : m.σ[i]? = some (some v) := r1
                  rw [p1] at r1'
                  cases r1'
                  exact ⟨.io p2 p3 h1, by unfold ios; exact .cons ⟨⟨w, q0⟩, p1⟩ h2⟩
theorem ownp_nodup {m : Sta} (ok : Ok X.K ci m) : ∀ {idx : List Nat} {B : List Addr}, Paired (OwnAt m.env m.σ) idx B → idx.Nodup → B.Nodup := by
  intro idx
  induction idx with
  | nil => intro B p _; cases p; exact List.nodup_nil
  | cons i is ih =>
    intro B p nd
    cases p with
    | @cons _ a _ B h r =>
      obtain ⟨n1, n2⟩ := List.nodup_cons.mp nd
      refine List.nodup_cons.mpr ⟨fun hm => ?_, ih r n2⟩
      have : ∀ {is : List Nat} {B : List Addr}, Paired (OwnAt m.env m.σ) is B → a ∈ B → i ∈ is := by
        intro is
        induction is with
        | nil => intro B p h; cases p; cases h
        | cons j js ih2 =>
          intro B p hb
          cases p with
          | cons h' r' =>
            rcases List.mem_cons.mp hb with z | z
            · subst z
              rw [ok.inj i j _ h h']
              exact List.mem_cons_self ..
            · exact List.mem_cons_of_mem _ (ih2 r' z)
      exact n1 (this r hm)
/-- the slots whose objects were borrowed have them back -/
theorem after_io {m : Sta} {G' H' : Hp} : ∀ {idx : List Nat} {B : List Addr} {outs : List W} {env : Ev}, Paired (OwnAt env m.σ) idx B → idx.Nodup → OutR X.K ci G' H' B outs → Ok X.K ci ⟨env, m.σ, G', H'⟩ ∨ True →
    (∀ j, j ∉ idx → (setIo env idx outs)[j]? = env[j]?) ∧ (∀ j a, j ∈ idx → m.σ[j]? = some (some (.ref a)) → ∃ w, (setIo env idx outs)[j]? = some (.own w) ∧ RepO X.K ci G' H' a w ∧ G' a = none) ∧ (setIo env idx outs).length = env.length := by
  intro idx
  induction idx with
  | nil => intro B outs env p nd o _; cases p; cases o; exact ⟨fun _ _ => rfl, fun _ _ h => (by cases h), rfl⟩
  | cons i is ih =>
    intro B outs env p nd o _
    cases p with
    | @cons _ a _ B h r =>
      cases o with
      | @cons _ w _ outs ho ro =>
        obtain ⟨n1, n2⟩ := List.nodup_cons.mp nd
        have il : i < env.length := (List.getElem?_eq_some_iff.mp h.1.choose_spec).1
        have r' : Paired (OwnAt (env.set i (.own w)) m.σ) is B := by
          have : ∀ {is : List Nat} {B : List Addr}, i ∉ is → Paired (OwnAt env m.σ) is B → Paired (OwnAt (env.set i (.own w)) m.σ) is B := by
            intro is
            induction is with
            | nil => intro B _ p; cases p; exact .nil
            | cons j js ih2 =>
              intro B hj p
              rw [List.mem_cons, not_or] at hj
              cases p with
              | cons h' r' => exact .cons ⟨by rw [List.getElem?_set_ne hj.1]; exact h'.1, h'.2⟩ (ih2 hj.2 r')
          exact this n1 r
        obtain ⟨k1, k2, k3⟩ := ih (env := env.set i (.own w)) r' n2 ro (.inr trivial)
        refine ⟨fun j hj => ?_, fun j b hj hb => ?_, ?_⟩
        · rw [List.mem_cons, not_or] at hj
          show (setIo (env.set i (.own w)) is outs)[j]? = _
          rw [k1 j hj.2, List.getElem?_set_ne (Ne.symm hj.1)]
        · rcases List.mem_cons.mp hj with z | z
          · subst z
            rw [h.2] at hb
            cases hb
            refine ⟨w, ?_, ho.1, ho.2⟩
            show (setIo (env.set j (.own w)) is outs)[j]? = _
            rw [k1 j n1, List.getElem?_set_self il]
          · exact k2 j b z hb
        · show (setIo (env.set i (.own w)) is outs).length = _
          rw [k3, List.length_set]
theorem after_call {m : Sta} (ok : Ok X.K ci m) {idx : List Nat} {B : List Addr} {outs : List W} {G' H' : Hp} (p : Paired (OwnAt m.env m.σ) idx B) (nd : idx.Nodup) (c : CStep B m.G m.H G' H') (o : OutR X.K ci G' H' B outs) :
    Stp BS m ⟨setIo m.env idx outs, m.σ, G', H'⟩ ∧ Ok X.K ci ⟨setIo m.env idx outs, m.σ, G', H'⟩ := by
  obtain ⟨k1, k2, k3⟩ := after_io (X := X) (ci := ci) (m := m) (env := m.env) p nd o (.inr trivial)
  have inIdx : ∀ {is : List Nat} {B : List Addr}, Paired (OwnAt m.env m.σ) is B → (∀ j ∈ is, ∃ a, a ∈ B ∧ OwnAt m.env m.σ j a) ∧ (∀ a ∈ B, ∃ j, j ∈ is ∧ OwnAt m.env m.σ j a) := by
    intro is
    induction is with
    | nil => intro B p; cases p; exact ⟨fun _ h => (by cases h), fun _ h => (by cases h)⟩
    | cons i is ih =>
      intro B p
      cases p with
      | @cons _ a _ B h r =>
        obtain ⟨q1, q2⟩ := ih r
        refine ⟨fun j hj => ?_, fun b hb => ?_⟩
        · rcases List.mem_cons.mp hj with z | z
          · exact ⟨a, List.mem_cons_self .., z ▸ h⟩
          · obtain ⟨b, b1, b2⟩ := q1 j z
            exact ⟨b, List.mem_cons_of_mem _ b1, b2⟩
        · rcases List.mem_cons.mp hb with z | z
          · exact ⟨i, List.mem_cons_self .., z ▸ h⟩
          · obtain ⟨j, j1, j2⟩ := q2 b z
            exact ⟨j, List.mem_cons_of_mem _ j1, j2⟩
  obtain ⟨q1, q2⟩ := inIdx p
  have own : ∀ {j : Nat} {a : Addr}, OwnAt (setIo m.env idx outs) m.σ j a → OwnAt m.env m.σ j a := fun {j a} ⟨⟨u, e⟩, q⟩ => by
    by_cases hj : j ∈ idx
    · obtain ⟨b, _, h⟩ := q1 j hj
      have hb := h.2
      rw [q] at hb
      cases hb
      exact h
    · rw [k1 j hj] at e
      exact ⟨⟨u, e⟩, q⟩
  refine ⟨⟨c.sub, fun a o e n => c.keep a o e fun hb => ?_, fun a e g n => c.pers a e g, c.here, fun j a h => ?_, fun j hj => ⟨rfl, fun ⟨u, e⟩ => ?_⟩⟩, ⟨c.subH, by rw [k3]; exact ok.len, fun j u e => ?_, fun j u e => ?_, fun j k a h1 h2 => ok.inj j k a (own h1) (own h2)⟩⟩
  · obtain ⟨j, _, h⟩ := q2 a hb
    exact n j h
  · by_cases hB : j ∈ BS
    · exact .inl ⟨hB, own h⟩
    · exact .inr ⟨hB, .inr ⟨j, hB, own h⟩⟩
  · by_cases hi : j ∈ idx
    · obtain ⟨a, _, h⟩ := q1 j hi
      obtain ⟨w, e2, _⟩ := k2 j a hi h.2
      exact ⟨w, e2⟩
    · exact ⟨u, by show (setIo m.env idx outs)[j]? = _; rw [k1 j hi]; exact e⟩
  · have e' : (setIo m.env idx outs)[j]? = some (.dat u) := e
    by_cases hi : j ∈ idx
    · obtain ⟨a, _, h⟩ := q1 j hi
      obtain ⟨w, e2, _⟩ := k2 j a hi h.2
      rw [e2] at e'
      cases e'
    · rw [k1 j hi] at e'
      obtain ⟨v, p1, p2⟩ := ok.dat j u e'
      exact ⟨v, p1, p2.mono c.sub⟩
  · have e' : (setIo m.env idx outs)[j]? = some (.own u) := e
    by_cases hi : j ∈ idx
    · obtain ⟨a, _, h⟩ := q1 j hi
      obtain ⟨w, e2, r1, r2⟩ := k2 j a hi h.2
      rw [e2] at e'
      cases e'
      exact ⟨a, h.2, r2, r1⟩
    · rw [k1 j hi] at e'
      obtain ⟨a, p1, p2, p3⟩ := ok.own j u e'
      have nB : a ∉ B := fun hb => by
        obtain ⟨k, hk, h⟩ := q2 a hb
        exact hi (ok.inj j k a ⟨⟨u, e'⟩, p1⟩ h ▸ hk)
      exact ⟨a, p1, c.pers a p3.ne p2, p3.mono c.sub fun o h => c.keep a o h nB⟩
theorem call_acc {m s : Sta} {W' : WX} {Q : VK} {ks : List Bool} {g : FnD} {vs : List V} {ovs : List OV} (st : Stp BS s m) (ok : Ok X.K ci m) (r : Paired (RepOV X.K ci m) vs ovs)
    (h : Acc X.K ci BS W' m (CE X.K ci s Q) (match mixA ks ovs m.env with
      | none => .bad
      | some (args, idx) => if idx.Nodup then (match g args with
        | .ok w outs => .ok (.v w) (setIo m.env idx outs)
        | .nw w outs => .ok (.n w) (setIo m.env idx outs)
        | .er x outs => .er x (setIo m.env idx outs)
        | .bad => .bad) else .bad)) : spF X.K ci ks g vs m.H Q (WE W' m.σ) := by
  cases e : mixA ks ovs m.env with
  | none => rw [e] at h; exact h.elim
  | some p =>
    obtain ⟨args, idx⟩ := p
    rw [e] at h
    dsimp only at h
    obtain ⟨ar, pr⟩ := mix_ok ok r e
    by_cases nd : idx.Nodup
    · rw [if_pos nd] at h
      refine ⟨m.G, args, ok.sub, ar, ownp_nodup ok pr nd, ?_⟩
      cases e2 : g args with
      | bad => rw [e2] at h; exact h.elim
      | ok w outs =>
        rw [e2] at h
        intro G' H' v c o rv
        obtain ⟨s1, ok1⟩ := after_call (BS := BS) ok pr nd c o
        exact h G' H' s1 ok1 v rv trivial
      | nw w outs =>
        rw [e2] at h
        intro G' H' a c o ro ga na
        obtain ⟨s1, ok1⟩ := after_call (BS := BS) ok pr nd c o
        refine h G' H' s1 ok1 (.ref a) ⟨a, rfl, ro, ga, fun j hj => ?_⟩ fun b eb => ?_
        · rcases s1.new j a hj with ⟨_, z⟩ | ⟨_, z | ⟨k, _, z⟩⟩
          · exact (ok.ownAt z).2.1 na
          · have hh := (ok1.ownAt hj)
            -- a new object that a slot would own: the slots own what they owned
            obtain ⟨⟨u, eu⟩, q⟩ := hj
            by_cases hi : j ∈ idx
            · obtain ⟨k1, k2, _⟩ := after_io (X := X) (ci := ci) (m := m) (env := m.env) pr nd o (.inr trivial)
              have : ∀ {is : List Nat} {B : List Addr}, Paired (OwnAt m.env m.σ) is B → j ∈ is → ∃ b, OwnAt m.env m.σ j b := by
                intro is
                induction is with
                | nil => intro B p h; cases h
                | cons i is ih =>
                  intro B p h
                  cases p with
                  | cons h' r' =>
                    rcases List.mem_cons.mp h with z | z
                    · exact ⟨_, z ▸ h'⟩
                    · exact ih r' z
              obtain ⟨b, hb⟩ := this pr hi
              have q2 := hb.2
              rw [show m.σ[j]? = some (some (.ref a)) from q] at q2
              cases q2
              exact (ok.ownAt hb).2.1 na
            · obtain ⟨k1, _, _⟩ := after_io (X := X) (ci := ci) (m := m) (env := m.env) pr nd o (.inr trivial)
              have eu' : (setIo m.env idx outs)[j]? = some (.own u) := eu
              rw [k1 j hi] at eu'
              exact (ok.ownAt ⟨⟨u, eu'⟩, q⟩).2.1 na
          · exact (ok.ownAt z).2.1 na
        · cases eb
          cases q : s.H a with
          | none => rfl
          | some o' => exact absurd na (st.here a (by rw [q]; exact fun z => nomatch z))
      | er x outs =>
        rw [e2] at h
        intro G' H' cls d c o rx
        obtain ⟨s1, ok1⟩ := after_call (BS := BS) ok pr nd c o
        exact h G' H' cls d s1 ok1 rx
    · rw [if_neg nd] at h
      exact h.elim
theorem x_call {k : Nat} {f : Addr} {fd : FuncData} {ps : List Str} {ks : List Bool} {g : FnD} {x : Str} {p pos : Pos} {e : Expr} {es : List Expr} {fa : AF} (F : FnOk X.prog X.w X.K X.mg X.base (L2.CX X.prog X.w) k f fd ps (spF X.K ci ks g)) (hr : Room k X.A) (hg : Gl X x) (hm : X.mg x = some (.ref f)) (hk : PySem.W.keepIn X.K (.ref f) = true) (hb : Binds X.K fd ps [])
    (ha : SndA X ci BS (e :: es) fa) (hdb : (x == ("__debug__" : Str)) = false := by decide) (he : starEach (e :: es) X.env = (false, eval e X.env) :: starEach es X.env := by rfl) (hpl : (backTo pos (starEach es X.env)).any (·.1) = false := by rfl) : SndE X ci BS (.Call (.Name x p) (e :: es) [] pos) (fCall ks g fa) := by
  obtain ⟨t, pp, q⟩ := ha.ex
  refine ⟨⟨fun W' => tCallS (spF X.K ci ks g) (WE W') (t W'), fun W' tk => pe_callS F hr hg hm hk hb (fun σ => passAt tk σ) (pp W' tk) hdb he hpl, fun W' s Q ok h => ?_⟩⟩
  refine q W' s _ ok (h.bind.imp fun ovs env1 G1 H1 st1 ok1 h1 => ?_)
  intro vs reps
  exact call_acc (m := ⟨env1, s.σ, G1, H1⟩) (W' := W') st1 ok1 reps h1
/-! ### raise -/
theorem pmk_own0 {C : Addr} {bmB : List Value} {B newId initId : String} {x : Str} {p pos : Pos} (F : ExcBaseFacts B newId initId bmB) (q : PySem.W.excIn X.K C bmB newId = true) (gC : X.mg x = some (.ref C)) (kC : PySem.W.keepIn X.K (.ref C) = true) (r : Raises X (.ref C)) (hg : Gl X x)
    (hdb : (x == ("__debug__" : Str)) = false := by decide) : PMk X (.Call (.Name x p) [] [] pos) (fun _ H Q => Q (.ref C) none H) := by
  intro pins s σ H Q I h
  refine wpAny_Call_Name_kw (ld_glob I hg gC ?_ hdb)
  refine PySem.W.callWith_K0 I.kIn kC ?_
  obtain ⟨bm, N, nm, qn, bs, hdct, sn, sub, ab, col, dd, k0, k1, k2, k3, k5, mN, hC, hN, hni, T⟩ := exc_obj I.kIn q
  refine wpAny_call_exc_subT F T hC hN hni (fun h' e hm => ?_) (by show 0 ≤ sizeLine; exact Nat.zero_le _)
  exact mk_of I hm r h (I.hok.gone hm.new)
theorem s_raise0 {c : Nat} {x : Str} {p pos pos2 : Pos} (hc : X.calm = true) (q : PySem.W.excIn X.K (ci c) PySem.HandSPX.veTail "ValueError.__new__" = true) (gC : X.mg x = some (.ref (ci c))) (kC : PySem.W.keepIn X.K (.ref (ci c)) = true) (h1 : PySem.W.subIn X.K (.ref (ci c)) (.type "BaseException") = some true) (h2 : PySem.W.typeIn X.K (.ref (ci c)) = some (.type "type")) (hg : Gl X x)
    (hdb : (x == ("__debug__" : Str)) = false := by decide) : SndS X ci BS (.Raise (some (.Call (.Name x p) [] [] pos)) none pos2) (fun env => .er ⟨c, []⟩ env) := by
  refine ⟨⟨fun W' => fun _ σ H => W' (.ref (ci c)) none σ H, fun W' tk => ps_raise hc tk (pmk_own0 PySem.F.excBase_ValueError q gC kC (raises_own h1 h2) hg hdb), fun W' s D ok h => ?_⟩⟩
  exact h s.σ s.G s.H (.ref (ci c)) none Step.refl ok ⟨rfl, .inl ⟨rfl, rfl⟩⟩
/-! ### try -/
def pick (hs : List ((Nat → Option Bool) × SF)) (x : Exc) (env : Ev) : SR := match hs with
  | [] => .er x env
  | (t, g) :: r => match t x.c with
    | none => .bad
    | some true => (match g env with
      | .er _ _ => .bad
      | r => r)
    | some false => pick r x env
def sTry (f : SF) (hs : List ((Nat → Option Bool) × SF)) : SF := fun env => match f env with
  | .er x env' => pick hs x env'
  | r => r
structure Tst (K : PySem.W.Frag) (ci : Nat → Addr) (c : Value) (t : Nat → Option Bool) : Prop where
  is : ∀ n b, t n = some b → PySem.W.exmOne K (.ref (ci n)) c = some b
inductive SndHs (X : Cx) (ci : Nat → Addr) (BS : List Nat) : List ExceptHandler → List ((Nat → Option Bool) × SF) → Prop
  | nil : SndHs X ci BS [] []
  | cons {x : Str} {c : Value} {t : Nat → Option Bool} {g : SF} {b₀ : Stmt} {suite : List Stmt} {np pos' : Pos} {hds : List ExceptHandler} {l : List ((Nat → Option Bool) × SF)} (hc : Names X x c) (ht : Tst X.K ci c t)
      (hsu : ∀ (a : Addr) (oe : Obj) (pn : List (Addr × Obj)), SndSs (X.suite a ((a, oe) :: pn)) ci BS (b₀ :: suite) g) (r : SndHs X ci BS hds l) : SndHs X ci BS (.ExceptHandler (some (.Name x np)) none (b₀ :: suite) pos' :: hds) ((t, g) :: l)
theorem PSs.imp {sts : List Stmt} {t t' : TS} (h : PSs X sts t) (f : ∀ D σ H, t' D σ H → t D σ H) : PSs X sts t' := ⟨fun pins s σ H D I hw => h.run pins s σ H D I (f D σ H hw)⟩
theorem hds_ok {hds : List ExceptHandler} {l : List ((Nat → Option Bool) × SF)} (h : SndHs X ci BS hds l) : ∃ tl : List (Value × (Addr → Value → Option Addr → TS)), HdsOk X hds tl ∧ ∀ (Wout : WX) (D : Ends) (s : Sta) (x : Exc) (cls : Value) (d : Option Addr), Ok X.K ci s → RepX X.K ci s.G s.H cls d x → AccS X.K ci BS Wout s D (pick l x s.env) → wMany X.K Wout D tl cls d s.σ s.H := by
  induction h with
  | nil => exact ⟨[], .nil, fun Wout D s x cls d ok rx h => h s.σ s.G s.H cls d Step.refl ok rx⟩
  | @cons x c t g b₀ suite np pos' hds l hc ht hsu r ih =>
    obtain ⟨tl, h1, h2⟩ := ih
    refine ⟨(c, fun a cls d => fun D σ H => ∀ oe pn, (hsu a oe pn).ex.choose (fun _ _ _ _ => False) D σ H) :: tl, .cons hc (fun a oe cls d pn hz hf => ?_) h1, fun Wout D s x cls d ok rx h => ?_⟩
    · exact PSs.imp ((hsu a oe pn).ex.choose_spec.1 _ takes0) fun D σ H z => z oe pn
    · unfold pick at h
      cases e : t x.c with
      | none => rw [e] at h; exact h.elim
      | some b =>
        rw [e] at h
        refine ⟨b, by rw [rx.1]; exact ht.is _ _ e, fun hb a ha oe pn => ?_, fun hb => ?_⟩
        · subst hb
          dsimp only at h
          refine (hsu a oe pn).ex.choose_spec.2 _ s D ok ?_
          cases e2 : g s.env with
          | er y env' => rw [e2] at h; exact h.elim
          | bad => rw [e2] at h; exact h
          | nx env' => rw [e2] at h; exact h
          | rt w env' => rw [e2] at h; exact h
          | rn w env' => rw [e2] at h; exact h
          | bk env' => rw [e2] at h; exact h
          | ct env' => rw [e2] at h; exact h
        · subst hb
          exact h2 Wout D s x cls d ok rx h
theorem s_try {body : List Stmt} {f : SF} {h₀ : ExceptHandler} {hds : List ExceptHandler} {l : List ((Nat → Option Bool) × SF)} {pos : Pos} (hs : X.stack = X.env :: X.outer) (hf : X.env.frame = some X.env.locals)
    (hb : ∀ (pn : List (Addr × Obj)) (xe : Value → Shared → Prop), PassesOwn (model X.prog X.w) X.A X.env xe → SndSs (X.tr pn xe) ci BS body f) (hh : SndHs X ci BS (h₀ :: hds) l) : SndS X ci BS (.Try body (h₀ :: hds) [] [] pos) (sTry f l) := by
  obtain ⟨tl, h1, h2⟩ := hds_ok hh
  refine ⟨⟨fun W' => fun D σ H => (fun (W2 : WX) => (fun D σ H => ∀ pn xe hp, (hb pn xe hp).ex.choose W2 D σ H : TS)) (wMany X.K W' D tl) D σ H, fun W' tk => ?_, fun W' s D ok h => ?_⟩⟩
  · exact ps_try_many (tb := fun W2 => (fun D σ H => ∀ pn xe hp, (hb pn xe hp).ex.choose W2 D σ H : TS)) hs hf tk (fun W2 pn xe tk2 hp => PSs.imp ((hb pn xe hp).ex.choose_spec.1 W2 tk2) fun D σ H z => z pn xe hp) h1
  · intro pn xe hp
    refine (hb pn xe hp).ex.choose_spec.2 _ s D ok ?_
    have h' : AccS X.K ci BS W' s D (match f s.env with | .er x env' => pick l x env' | r => r) := h
    cases e : f s.env with
    | bad => rw [e] at h'; exact h'
    | nx env' => rw [e] at h'; exact h'
    | rt w env' => rw [e] at h'; exact h'
    | rn w env' => rw [e] at h'; exact h'
    | bk env' => rw [e] at h'; exact h'
    | ct env' => rw [e] at h'; exact h'
    | er x env' =>
      rw [e] at h'
      intro σ' G' H' cls d st ok' rx
      exact h2 W' D ⟨env', σ', G', H'⟩ x cls d ok' rx (AccS.mid h' st)
end
end BV

set_option maxRecDepth 100000
set_option maxHeartbeats 4000000
/-! BV: the methods that change a slot's own list; zip. -/
namespace BV
open PySem PySem.Spec PyProof.Rows L2
def ownL (env : Ev) (i : Nat) : Option (List W) := match env[i]? with
  | some (.own (.lst ws)) => some ws
  | _ => none
def sApp (i : Nat) (f : EF) : SF := fun env => match ownL env i with
  | none => .bad
  | some _ => (fE f env).andS fun ov env => match ov with
    | .v w => (match ownL env i with
      | some ws => if ws.length < 16777216 then .nx (env.set i (.own (.lst (ws ++ [w])))) else .bad
      | none => .bad)
    | _ => .bad
def sExt (i : Nat) (f : EF) : SF := fun env => match ownL env i with
  | none => .bad
  | some _ => (fE f env).andS fun ov env => match ov with
    | .v (.lst us) => (match ownL env i with
      | some ws => if ws.length + us.length ≤ 16777216 then .nx (env.set i (.own (.lst (ws ++ us)))) else .bad
      | none => .bad)
    | _ => .bad
def sSetIx (i : Nat) (fi fe : EF) : SF := fun env => (fE fe env).andS fun ov env => match ov with
  | .v w => (match ownL env i with
    | none => .bad
    | some _ => (fi env).andS fun ok env => match (getOV ok env).bind asI with
      | some k => (match ownL env i with
        | some ws => (match ixN ws.length k with
          | some j => .nx (env.set i (.own (.lst (ws.set j w))))
          | none => .bad)
        | none => .bad)
      | none => .bad)
  | _ => .bad
theorem ownL_is {env : Ev} {i : Nat} {ws : List W} (h : ownL env i = some ws) : env[i]? = some (.own (.lst ws)) := by
  unfold ownL at h
  split at h
  · rename_i q
    cases h
    exact q
  · cases h
section
variable {X : Cx} {ci : Nat → Addr} {BS : List Nat} {e e2 : Expr} {f fi g : EF} {pos p1 p2 p3 : Pos}
theorem ownL_at {s : Sta} (ok : Ok X.K ci s) {i : Nat} {ws : List W} (h : ownL s.env i = some ws) : ∃ a vs, s.σ[i]? = some (some (.ref a)) ∧ s.H a = some (.lst vs) ∧ RepVs X.K ci s.G vs ws ∧ s.env[i]? = some (.own (.lst ws)) := by
  have h' := ownL_is h
  obtain ⟨a, q1, _, q3⟩ := ok.own i _ h'
  cases q3 with
  | lst h1 r => exact ⟨a, _, q1, h1, r, h'⟩
theorem s_app (i : Nat) {x : Str} (he : SndE X ci BS e f) (hN : X.N[i]? = some x := by rfl) (hv : Vis X.env.scope x := by first | exact Or.inl rfl | exact Or.inr (Or.inl rfl) | exact Or.inr (Or.inr rfl)) (hd : (x == ("__debug__" : Str)) = false := by decide)
    (hcd : (x == ("__classdict__" : Str)) = false := by decide) (hbase : attributeBase (.Name x p1) "append" X.env (eval (.Name x p1) X.env) = eval (.Name x p1) X.env := by rfl)
    (hfew : ((backTo p3 (starEach [e] X.env)).all (fun x => !x.1) && (backToKw p3 (keywordEach [] X.env)).all (fun x => x.1.isSome) && decide ([e].length + ([] : List Keyword).length + (if ([] : List Keyword).isEmpty then 0 else 1) < 30)) = true := by rfl)
    (hline : (p2.endLine == p3.line) = true := by rfl) (hst : starEach [e] X.env = (false, eval e X.env) :: starEach [] X.env := by rfl) (hplain : (backTo p3 (starEach [] X.env)).any (·.1) = false := by rfl)
    (hs : swapsWith (.Call (.Attribute (.Name x p1) "append" p2) [e] [] p3) none pos.line X.env = pure false := by rfl) : SndS X ci BS (.Expr (.Call (.Attribute (.Name x p1) "append" p2) [e] [] p3) pos) (sApp i f) := by
  obtain ⟨t, p, q⟩ := (x_esc he).ex
  refine ⟨⟨fun W' => tDrop (tBM X.K "list" rAppend (tVar i) (tCons (t W') tNil)), fun W' tk => ps_expr (pe_bm PySem.F.plainAttrs_list PySem.F.slot_list_append PySem.F.type_list_append mt_append (pe_var hN hv hd hcd) (pa_cons (p W' tk) pa_nil hst) hbase hfew hline hst hplain) hs, fun W' s D ok h => ?_⟩⟩
  unfold sApp at h
  cases e0 : ownL s.env i with
  | none => rw [e0] at h; exact h.elim
  | some ws0 =>
    rw [e0] at h
    obtain ⟨a, vs0, h1, h2, _, _⟩ := ownL_at ok e0
    refine ⟨.ref a, h1, .inl ⟨rfl, vs0, .inl (.inl h2)⟩, ?_⟩
    refine q W' s _ ok (h.andS.imp fun ov env1 G1 H1 st1 ok1 h1' => ?_)
    intro v rep new
    cases ov with
    | v w =>
      dsimp only at h1'
      cases e1 : ownL env1 i with
      | none => rw [e1] at h1'; exact h1'.elim
      | some ws =>
        rw [e1] at h1'
        dsimp only at h1'
        obtain ⟨b, vs, k1, k2, k3, k4⟩ := ownL_at (s := ⟨env1, s.σ, G1, H1⟩) ok1 e1
        have eb : s.σ[i]? = some (some (.ref b)) := k1
        rw [h1] at eb
        cases eb
        by_cases hz : ws.length < 16777216
        · rw [if_pos hz] at h1'
          obtain ⟨st2, ok2⟩ := upd_own (BS := BS) (s := ⟨env1, s.σ, G1, H1⟩) (o := .lst (vs ++ [v])) (w' := .lst (ws ++ [w])) ok1 k4 k1 (.lst upd_same (k3.append (.cons rep .nil)))
          exact ⟨a, vs, v, rfl, rfl, k2, by rw [sizeLine_eq, k3.length]; exact hz, h1' _ _ _ st2 ok2⟩
        · rw [if_neg hz] at h1'
          exact h1'.elim
    | _ => exact h1'.elim
theorem s_ext (i : Nat) {x : Str} (he : SndE X ci BS e f) (hN : X.N[i]? = some x := by rfl) (hv : Vis X.env.scope x := by first | exact Or.inl rfl | exact Or.inr (Or.inl rfl) | exact Or.inr (Or.inr rfl)) (hd : (x == ("__debug__" : Str)) = false := by decide)
    (hcd : (x == ("__classdict__" : Str)) = false := by decide) (hbase : attributeBase (.Name x p1) "extend" X.env (eval (.Name x p1) X.env) = eval (.Name x p1) X.env := by rfl)
    (hfew : ((backTo p3 (starEach [e] X.env)).all (fun x => !x.1) && (backToKw p3 (keywordEach [] X.env)).all (fun x => x.1.isSome) && decide ([e].length + ([] : List Keyword).length + (if ([] : List Keyword).isEmpty then 0 else 1) < 30)) = true := by rfl)
    (hline : (p2.endLine == p3.line) = true := by rfl) (hst : starEach [e] X.env = (false, eval e X.env) :: starEach [] X.env := by rfl) (hplain : (backTo p3 (starEach [] X.env)).any (·.1) = false := by rfl)
    (hs : swapsWith (.Call (.Attribute (.Name x p1) "extend" p2) [e] [] p3) none pos.line X.env = pure false := by rfl) : SndS X ci BS (.Expr (.Call (.Attribute (.Name x p1) "extend" p2) [e] [] p3) pos) (sExt i f) := by
  obtain ⟨t, p, q⟩ := (x_esc he).ex
  refine ⟨⟨fun W' => tDrop (tBM X.K "list" rExtend (tVar i) (tCons (t W') tNil)), fun W' tk => ps_expr (pe_bm PySem.F.plainAttrs_list PySem.F.slot_list_extend PySem.F.type_list_extend mt_extend (pe_var hN hv hd hcd) (pa_cons (p W' tk) pa_nil hst) hbase hfew hline hst hplain) hs, fun W' s D ok h => ?_⟩⟩
  unfold sExt at h
  cases e0 : ownL s.env i with
  | none => rw [e0] at h; exact h.elim
  | some ws0 =>
    rw [e0] at h
    obtain ⟨a, vs0, h1, h2, _, _⟩ := ownL_at ok e0
    refine ⟨.ref a, h1, .inl ⟨rfl, vs0, .inl (.inl h2)⟩, ?_⟩
    refine q W' s _ ok (h.andS.imp fun ov env1 G1 H1 st1 ok1 h1' => ?_)
    intro v rep new
    cases ov with
    | v w =>
      cases w with
      | lst us =>
        dsimp only at h1'
        cases e1 : ownL env1 i with
        | none => rw [e1] at h1'; exact h1'.elim
        | some ws =>
          rw [e1] at h1'
          dsimp only at h1'
          obtain ⟨b, vs, k1, k2, k3, k4⟩ := ownL_at (s := ⟨env1, s.σ, G1, H1⟩) ok1 e1
          have eb : s.σ[i]? = some (some (.ref b)) := k1
          rw [h1] at eb
          cases eb
          cases rep with
          | @lst c zs _ hc rc =>
            by_cases hz : ws.length + us.length ≤ 16777216
            · rw [if_pos hz] at h1'
              obtain ⟨st2, ok2⟩ := upd_own (BS := BS) (s := ⟨env1, s.σ, G1, H1⟩) (o := .lst (vs ++ zs)) (w' := .lst (ws ++ us)) ok1 k4 k1 (.lst upd_same (k3.append rc))
              exact ⟨a, c, vs, zs, rfl, rfl, k2, ok1.sub _ _ hc, by rw [sizeLine_eq, k3.length, rc.length]; exact hz, h1' _ _ _ st2 ok2⟩
            · rw [if_neg hz] at h1'
              exact h1'.elim
      | _ => exact h1'.elim
    | _ => exact h1'.elim
/-- x[k] = e -/
theorem s_setIx (i : Nat) {x : Str} (hi : SndE X ci BS e2 fi) (he : SndE X ci BS e f) (hN : X.N[i]? = some x := by rfl) (hv : Vis X.env.scope x := by first | exact Or.inl rfl | exact Or.inr (Or.inl rfl) | exact Or.inr (Or.inr rfl)) (hd : (x == ("__debug__" : Str)) = false := by decide)
    (hcd : (x == ("__classdict__" : Str)) = false := by decide) (ha : ∀ v, assign (.Subscript (.Name x p1) e2 p2) X.env v = (do
      let ov ← holding [v] (eval (.Name x p1) X.env)
      let iv ← holding [v, ov] (eval e2 X.env)
      standAt p2
      holding [v, ov, iv] (setItem ov iv v)
      release [v, ov, iv] []) := by intro _; rfl)
    (hs : swapsWithSole [.Subscript (.Name x p1) e2 p2] e pos.line X.env = pure false := by rfl) (hw : swappedStores [.Subscript (.Name x p1) e2 p2] e X.env = pure none := by rfl)
    (h1 : (assignEach [.Subscript (.Name x p1) e2 p2] X.env).map (·.2) = [assign (.Subscript (.Name x p1) e2 p2) X.env] := by rfl) : SndS X ci BS (.Assign [.Subscript (.Name x p1) e2 p2] e pos) (sSetIx i fi f) := by
  obtain ⟨t, p, q⟩ := (x_esc he).ex
  obtain ⟨ti, pi, qi⟩ := hi.ex
  refine ⟨⟨fun W' => tAsg (t W') (L2.gSub (tVar i) (ti W') rSetL), fun W' tk => ps_asg (p W' tk) (pg_sub (pe_var hN hv hd hcd) (pi W' tk) set_list ha) hs hw h1, fun W' s D ok h => ?_⟩⟩
  refine q W' s _ ok (h.andS.imp fun ov env1 G1 H1 st1 ok1 h1' => ?_)
  intro v rep new
  cases ov with
  | v w =>
    dsimp only at h1'
    cases e0 : ownL env1 i with
    | none => rw [e0] at h1'; exact h1'.elim
    | some ws0 =>
      rw [e0] at h1'
      obtain ⟨a, vs0, k1, k2, _, _⟩ := ownL_at (s := ⟨env1, s.σ, G1, H1⟩) ok1 e0
      refine ⟨.ref a, k1, ?_⟩
      refine qi W' ⟨env1, s.σ, G1, H1⟩ _ ok1 (h1'.andS.imp fun oi env2 G2 H2 st2 ok2 h2 => ?_)
      intro y rep2 new2
      have h2 : AccS X.K ci BS W' ⟨env2, s.σ, G2, H2⟩ D (match (getOV oi env2).bind asI with
        | some k => (match ownL env2 i with
          | some ws => (match ixN ws.length k with
            | some j => .nx (env2.set i (.own (.lst (ws.set j w))))
            | none => .bad)
          | none => .bad)
        | none => .bad) := h2
      cases e1 : getOV oi env2 with
      | none => rw [e1] at h2; exact h2.elim
      | some wi =>
        rw [e1] at h2
        cases wi with
        | int k =>
          have h2 : AccS X.K ci BS W' ⟨env2, s.σ, G2, H2⟩ D (match ownL env2 i with
            | some ws => (match ixN ws.length k with
              | some j => .nx (env2.set i (.own (.lst (ws.set j w))))
              | none => .bad)
            | none => .bad) := h2
          cases e2 : ownL env2 i with
          | none => rw [e2] at h2; exact h2.elim
          | some ws =>
            rw [e2] at h2
            dsimp only at h2
            obtain ⟨b, vs, m1, m2, m3, m4⟩ := ownL_at (s := ⟨env2, s.σ, G2, H2⟩) ok2 e2
            have eb : s.σ[i]? = some (some (.ref b)) := m1
            rw [k1] at eb
            cases eb
            cases e3 : ixN ws.length k with
            | none => rw [e3] at h2; exact h2.elim
            | some j =>
              rw [e3] at h2
              dsimp only at h2
              obtain ⟨st3, ok3⟩ := upd_own (BS := BS) (s := ⟨env2, s.σ, G2, H2⟩) (o := .lst (vs.set j v)) (w' := .lst (ws.set j w)) ok2 m4 m1 (.lst upd_same (m3.set (rep.mono st2.sub) j))
              refine ⟨a, vs, k, j, rfl, (cur_of ok2 rep2 e1).int, m2, by rw [m3.length]; exact e3, ?_⟩
              exact h2 _ _ _ st3 ok3
        | _ => exact h2.elim
  | _ => exact h1'.elim
end
/-! ### zip -/
def zipW : List W → List W → List W := List.zipWith fun x y => .tup [x, y]
def asS : W → W → Option (List W × List W)
  | .tup xs, .tup ys => some (xs, ys)
  | .lst xs, .lst ys => some (xs, ys)
  | _, _ => none
def fZip (f g : EF) : Ev → Res (List W) := fun env => (fE f env).bind fun ox env => (fE g env).bind fun oy env => match ox, oy with
  | .v x, .v y => (match asS x y with | some p => .ok (zipW p.1 p.2) env | none => .bad)
  | _, _ => .bad
section
variable {X : Cx} {ci : Nat → Addr} {BS : List Nat} {e e2 : Expr} {f g : EF} {p pos tpos : Pos} {elts : List Expr} {kk : Nat}
theorem zipW_get {xs ys : List W} {i : Nat} {x y : W} (h1 : xs[i]? = some x) (h2 : ys[i]? = some y) : (zipW xs ys)[i]? = some (.tup [x, y]) := by
  unfold zipW
  rw [List.getElem?_zipWith, h1, h2]
theorem it_pair {m : Sta} {ws : List W} {J : It} {Gp : Hp → Prop} {k1 k2 : Nat → Option V} (w : Walk J ws.length Gp (YPair k1 k2)) (k : ∀ m' : Sta, Ok X.K ci m' → Same m.G m'.G → Gp m'.H)
    (r : ∀ i x y, i < ws.length → k1 i = some x → k2 i = some y → ∃ u v, ws[i]? = some (.tup [u, v]) ∧ RepV X.K ci m.G x u ∧ RepV X.K ci m.G y v) : ItOk X ci BS m ws J Gp (YPair k1 k2) := by
  refine ⟨w, k, fun m' i v H' ok s hi y => ?_⟩
  obtain ⟨T, x, y, rfl, hT, rfl, h1, h2⟩ := y
  obtain ⟨u, v, e, r1, r2⟩ := r i x y hi h1 h2
  obtain ⟨st, ok'⟩ := alloc_pers (BS := BS) (o := .tup [x, y]) ok hT
  exact ⟨_, _, e, st, ok', .tup (.inl (.inl upd_same)) (.cons ((r1.mono s).mono st.sub) (.cons ((r2.mono s).mono st.sub) .nil))⟩
theorem walk_zipT {K : PySem.W.Frag} {a b : Addr} {xs ys : List V} {n : Nat} (hn : n = min xs.length ys.length) : Walk (RZ.ItzT K a b) n (fun H => SqT K H a xs ∧ SqT K H b ys) (YPair (fun i => xs[i]?) (fun i => ys[i]?)) := by
  refine ⟨fun i H hi q => ⟨xs, ys, xs[i]'(by omega), ys[i]'(by omega), q.1, q.2, by simp [show i < xs.length by omega], by simp [show i < ys.length by omega]⟩, fun H q => ⟨xs, ys, q.1, q.2, by omega⟩, fun i H x H' hi q y => ?_⟩
  obtain ⟨T, u, v, e1, e2, e3, k1, k2⟩ := y
  exact ⟨T, u, v, e1, e2, e3, k1 xs q.1, k2 ys q.2⟩
theorem i_zip (hg : Gl X "zip") (hm : X.mg "zip" = none) (ha : SndE X ci BS e f) (hb : SndE X ci BS e2 g) (hs : starEach [e, e2] X.env = (false, eval e X.env) :: starEach [e2] X.env := by rfl) (hs2 : starEach [e2] X.env = (false, eval e2 X.env) :: starEach [] X.env := by rfl) (hpl : (backTo pos (starEach [e2] X.env)).any (·.1) = false := by rfl) :
    SndI X ci BS (.Tuple elts kk tpos) (.Call (.Name "zip" p) [e, e2] [] pos) (fZip f g) := by
  obtain ⟨t, pp, q⟩ := (x_esc ha).ex
  obtain ⟨t', pp', q'⟩ := (x_esc hb).ex
  refine ⟨⟨fun W' => RZ.iZipA X.K (tCons (t W') (tCons (t' W') tNil)), fun W' tk => RZ.pi_zipA hg hm (pa_cons (pp W' tk) (pa_cons (pp' W' tk) pa_nil hs2) hs) hs hpl, fun W' s R ok h => ?_⟩⟩
  refine q W' s _ ok (h.bind.imp fun ox env1 G1 H1 st1 ok1 h1 => ?_)
  intro v rep new
  refine q' W' ⟨env1, s.σ, G1, H1⟩ _ ok1 (h1.bind.imp fun oy env2 G2 H2 st2 ok2 h2 => ?_)
  intro u rep2 new2
  cases ox with
  | v x =>
    cases oy with
    | v y =>
      have rx : RepV X.K ci G2 v x := RepV.mono st2.sub rep
      have ry : RepV X.K ci G2 u y := rep2
      cases x with
      | tup xs =>
        cases y with
        | tup ys =>
          cases rx with
          | @tup a vs _ hx r1 =>
            cases ry with
            | @tup b us _ hy r2 =>
              have z := h2 G2 H2 Step.refl ok2 (RZ.ItzT X.K a b) (fun H => SqT X.K H a vs ∧ SqT X.K H b us) (YPair (fun i => vs[i]?) (fun i => us[i]?)) (it_pair (walk_zipT (by
                  show (zipW xs ys).length = _
                  unfold zipW
                  rw [List.length_zipWith, r1.length, r2.length])) (fun m' ok' sm => ⟨sqT_mono ok'.sub (sqT_mono sm hx), sqT_mono ok'.sub (sqT_mono sm hy)⟩) fun i x y _ k1 k2 => by
                  obtain ⟨w1, e1, q1⟩ := r1.get k1
                  obtain ⟨w2, e2, q2⟩ := r2.get k2
                  exact ⟨w1, w2, zipW_get e1 e2, q1, q2⟩)
              exact ⟨a, b, vs, us, rfl, .inr ⟨sqT_mono ok2.sub hx, sqT_mono ok2.sub hy, z⟩⟩
        | _ => exact h2.elim
      | lst xs =>
        cases y with
        | lst ys =>
          cases rx with
          | @lst a vs _ hx r1 =>
            cases ry with
            | @lst b us _ hy r2 =>
              have z := h2 G2 H2 Step.refl ok2 (Itz X.K a b) (fun H => SqL X.K H a vs ∧ SqL X.K H b us) (YPair (fun i => vs[i]?) (fun i => us[i]?)) (it_pair (walk_zip (by
                  show (zipW xs ys).length = _
                  unfold zipW
                  rw [List.length_zipWith, r1.length, r2.length])) (fun m' ok' sm => ⟨.inl (.inl (ok'.sub _ _ (sm _ _ hx))), .inl (.inl (ok'.sub _ _ (sm _ _ hy)))⟩) fun i x y _ k1 k2 => by
                  obtain ⟨w1, e1, q1⟩ := r1.get k1
                  obtain ⟨w2, e2, q2⟩ := r2.get k2
                  exact ⟨w1, w2, zipW_get e1 e2, q1, q2⟩)
              exact ⟨a, b, vs, us, rfl, .inl ⟨.inl (.inl (ok2.sub _ _ hx)), .inl (.inl (ok2.sub _ _ hy)), z⟩⟩
        | _ => exact h2.elim
      | _ => cases y <;> exact h2.elim
    | _ => exact h2.elim
  | _ => cases oy <;> exact h2.elim
end
end BV

set_option maxRecDepth 100000
set_option maxHeartbeats 4000000
/-! BV: further expressions. -/
namespace BV
open PySem PySem.Spec PyProof.Rows L2
def fNeg (f : EF) : EF := fun env => (f env).bind fun ov env => match (getOV ov env).bind asI with
  | some i => .ok (.v (.int (-i))) env
  | none => .bad
def fDict0 : EF := fun env => .ok (.n (.dct [])) env
section
variable {X : Cx} {ci : Nat → Addr} {BS : List Nat} {e : Expr} {f : EF} {pos : Pos}
theorem x_neg (ha : SndE X ci BS e f) : SndE X ci BS (.UnaryOp .USub e pos) (fNeg f) := by
  obtain ⟨t, p, q⟩ := ha.ex
  refine ⟨⟨fun W' => tUn (rU fun i => .int (-i)) (t W'), fun W' tk => pe_un un_neg (p W' tk), fun W' s Q ok h => ?_⟩⟩
  refine q W' s _ ok (h.bind.imp fun ov env1 G1 H1 st1 ok1 h1 => ?_)
  intro v rep new
  cases e1 : getOV ov env1 with
  | none => dsimp only at h1; rw [e1] at h1; exact h1.elim
  | some w =>
    dsimp only at h1
    rw [e1] at h1
    cases w with
    | int i => exact ⟨i, (cur_of ok1 rep e1).int, h1 G1 H1 Step.refl ok1 (.int (-i)) (.int (-i)) trivial⟩
    | _ => exact h1.elim
theorem x_globI {x : Str} {i : Int} (hg : Gl X x) (hm : ∃ t, X.mg x = some (.int i t)) (hd : (x == ("__debug__" : Str)) = false := by decide) : SndE X ci BS (.Name x pos) (fC (.int i)) := ⟨fun _ => tC (.int i), fun _ _ => pe_glob (v := .int i) hg hm.choose_spec ⟨_, rfl⟩ hd, fun W' s Q ok h => ret_same ok h (.int i)⟩
theorem x_globS {x : Str} {i : Str} (hg : Gl X x) (hm : ∃ t, X.mg x = some (.str i t)) (hd : (x == ("__debug__" : Str)) = false := by decide) : SndE X ci BS (.Name x pos) (fC (.str i)) := ⟨fun _ => tC (.str i), fun _ _ => pe_glob (v := .str i) hg hm.choose_spec ⟨_, rfl⟩ hd, fun W' s Q ok h => ret_same ok h (.str i)⟩
theorem x_dict0 : SndE X ci BS (.Dict [] [] pos) fDict0 := by
  refine ⟨⟨fun _ => tDNewK, fun _ _ => pe_dnewK, fun W' s Q ok h => fun p hp => ?_⟩⟩
  obtain ⟨st, ok', gp, no⟩ := alloc_new (BS := BS) (o := .dK []) ok hp
  exact h _ _ st ok' (.ref p) ⟨p, rfl, .dK upd_same .nil, gp, no⟩ fun a e => by cases e; exact hp
end
/-! ### a clause's class and an error's -/
theorem exm_pair {K : PySem.W.Frag} {C T : Addr} {b : Bool} (h1 : PySem.W.subIn K (.ref T) (.type "BaseException") = some true) (h2 : PySem.W.isClsIn K T = true) (h3 : PySem.W.typeIn K (.ref T) = some (.type "type")) (h4 : PySem.W.subIn K (.ref C) (.ref T) = some b) :
    PySem.W.exmOne K (.ref C) (.ref T) = some b := by
  have e1 : (PySem.W.subIn K (.ref T) (.type "BaseException") == some true) = true := by rw [h1] <;> rfl
  have e2 : ((PySem.W.clsIn K T).isSome && PySem.W.typeIn K (.ref T) == some (.type "type")) = true := by
    have h2' : (PySem.W.clsIn K T).isSome = true := h2
    rw [h2', h3] <;> rfl
  show (if (PySem.W.subIn K (.ref T) (.type "BaseException") == some true) = true then (if ((PySem.W.clsIn K T).isSome && PySem.W.typeIn K (.ref T) == some (.type "type")) = true then PySem.W.subIn K (.ref C) (.ref T) else none) else none) = some b
  rw [if_pos e1, if_pos e2]
  exact h4
/-! ### the law -/
def spLaw (K : PySem.W.Frag) (n : Nat) : Sp := fun vs H Q _ => ∃ (a : Addr) (ns : List Int), vs = [.ref a] ∧ SqL K H a (ns.map V.int) ∧ ns.length ≤ n ∧ ∀ H', Q (.bl true) H'
theorem reps_ints {K : PySem.W.Frag} {ci : Nat → Addr} {G : Hp} : ∀ ns : List Int, RepVs K ci G (ns.map V.int) (ns.map W.int)
  | [] => .nil
  | n :: ns => .cons (.int n) (reps_ints ns)
theorem law_imp {K : PySem.W.Frag} {ci : Nat → Addr} {d : FnD} {n : Nat} (hd : ∀ ns : List Int, ns.length ≤ n → d [.fz (ns.map W.int)] = .ok (.bl true) []) (vs : List V) (H : Hp) (Q : VK) (E : XK) (h : spLaw K n vs H Q E) : spF K ci [false] d vs H Q E := by
  obtain ⟨a, ns, rfl, hS, hl, q⟩ := h
  refine ⟨H, [.fz (ns.map W.int)], Same.refl _, .val (.fz hS (reps_ints ns)) .nil, by unfold ios; exact List.nodup_nil, ?_⟩
  rw [hd ns hl]
  intro G' H' v _ _ rv
  cases rv
  exact q H'
theorem cx_no {P : Program} {w : World} {H : Hp} {s : Shared} {e : Value} {s' : Shared} (h : L2.CX P w [] H s (fun _ _ _ => False) e s') : False := by
  obtain ⟨_, _, _, _, _, _, _, _, _, _, _, _, z⟩ := h
  exact z
end BV

set_option maxRecDepth 100000
set_option maxHeartbeats 4000000
/-! BV: evaluation, in plain Lean. -/
namespace BV
open PySem L2
section
variable {α β : Type} {a : α} {e env : Ev} {x : Exc} {w w1 w2 : W} {i j : Int}
@[simp] theorem bind_ok {k : α → Ev → Res β} : (Res.ok a e).bind k = k a e := (rfl)
@[simp] theorem bind_er {k : α → Ev → Res β} : (Res.er x e : Res α).bind k = .er x e := (rfl)
@[simp] theorem bind_bad {k : α → Ev → Res β} : (Res.bad : Res α).bind k = .bad := (rfl)
@[simp] theorem andS_ok {k : α → Ev → SR} : (Res.ok a e).andS k = k a e := (rfl)
@[simp] theorem andS_er {k : α → Ev → SR} : (Res.er x e : Res α).andS k = .er x e := (rfl)
@[simp] theorem andS_bad {k : α → Ev → SR} : (Res.bad : Res α).andS k = .bad := (rfl)
@[simp] theorem getOV_v : getOV (.v w) env = some w := (rfl)
@[simp] theorem getOV_n : getOV (.n w) env = some w := (rfl)
@[simp] theorem getOV_s {k : Nat} : getOV (.s k) env = match env[k]? with | some (.dat w) => some w | some (.own w) => some w | _ => none := (rfl)
@[simp] theorem retOV_some {ov : OV} : retOV (some ov) env = .ok ov env := (rfl)
@[simp] theorem retOV_none : retOV none env = .bad := (rfl)
@[simp] theorem fC_e : fC w env = .ok (.v w) env := (rfl)
@[simp] theorem fV_e {k : Nat} : fV k env = match env[k]? with | some (.dat w) => .ok (.v w) env | some (.own _) => .ok (.s k) env | _ => .bad := (rfl)
@[simp] theorem fZ_e {k : Nat} : fZ k env = match env[k]? with | some (.dat w) => .ok (.v w) env | some (.own w) => .ok (.v w) (env.set k (.dat w)) | _ => .bad := (rfl)
@[simp] theorem fE_e {f : EF} : fE f env = (f env).bind fun ov env => match ov with | .v w => .ok (.v w) env | .n w => .ok (.v w) env | .s _ => .bad := (rfl)
@[simp] theorem fOp_e {g : W → W → Option OV} {f f' : EF} : fOp g f f' env = (f env).bind fun x env => (f' env).bind fun y env => retOV ((getOV x env).bind fun wx => (getOV y env).bind fun wy => g wx wy) env := (rfl)
@[simp] theorem fNil_e : fNil env = .ok [] env := (rfl)
@[simp] theorem fCons_e {f : EF} {r : AF} : fCons f r env = (f env).bind fun x env => (r env).bind fun xs env => .ok (x :: xs) env := (rfl)
@[simp] theorem getOVs_nil : getOVs [] env = some [] := (rfl)
@[simp] theorem getOVs_cons {o : OV} {os : List OV} : getOVs (o :: os) env = (getOV o env).bind fun w => (getOVs os env).bind fun ws => some (w :: ws) := (rfl)
@[simp] theorem fB_e {g : List W → Option OV} {r : AF} : fB g r env = (r env).bind fun xs env => retOV ((getOVs xs env).bind g) env := (rfl)
@[simp] theorem asB_bl {b : Bool} : asB (.bl b) = some b := (rfl)
@[simp] theorem asI_int : asI (.int i) = some i := (rfl)
@[simp] theorem fTest_e {f : EF} : fTest f env = (f env).bind fun ov env => match (getOV ov env).bind asB with | some b => .ok b env | none => .bad := (rfl)
@[simp] theorem fNot_e {f : TF} : fNot f env = (f env).bind fun b env => .ok (!b) env := (rfl)
@[simp] theorem fAnd_e {f g : TF} : fAnd f g env = (f env).bind fun b env => if b = true then g env else .ok false env := (rfl)
@[simp] theorem fOr_e {f g : TF} : fOr f g env = (f env).bind fun b env => if b = true then .ok true env else g env := (rfl)
@[simp] theorem fIf_e {c : TF} {f g : EF} : fIf c f g env = (c env).bind fun b env => if b = true then f env else g env := (rfl)
@[simp] theorem fAndV_e {f g : EF} : fAndV f g env = (f env).bind fun ov env => match (getOV ov env).bind asB with | some b => if b = true then g env else .ok (.v (.bl false)) env | none => .bad := (rfl)
@[simp] theorem fOrV_e {f g : EF} : fOrV f g env = (f env).bind fun ov env => match (getOV ov env).bind asB with | some b => if b = true then .ok (.v (.bl true)) env else g env | none => .bad := (rfl)
@[simp] theorem fNotV_e {f : EF} : fNotV f env = (f env).bind fun ov env => match (getOV ov env).bind asB with | some b => .ok (.v (.bl (!b))) env | none => .bad := (rfl)
@[simp] theorem fNeg_e {f : EF} : fNeg f env = (f env).bind fun ov env => match (getOV ov env).bind asI with | some i => .ok (.v (.int (-i))) env | none => .bad := (rfl)
@[simp] theorem fDict0_e : fDict0 env = .ok (.n (.dct [])) env := (rfl)
@[simp] theorem fChain_e {g g' : W → W → Option OV} {fa fb fc : EF} : fChain g g' fa fb fc env = (fa env).bind fun x env => (fb env).bind fun y env =>
  match ((getOV x env).bind fun wx => (getOV y env).bind fun wy => g wx wy) with
  | some (.v (.bl true)) => (fc env).bind fun z env => retOV ((getOV y env).bind fun wy => (getOV z env).bind fun wz => g' wy wz) env
  | some (.v (.bl false)) => .ok (.v (.bl false)) env
  | _ => .bad := (rfl)
@[simp] theorem asV_nil : asV [] = some [] := (rfl)
@[simp] theorem asV_cons {os : List OV} : asV (.v w :: os) = (asV os).bind fun ws => some (w :: ws) := (rfl)
@[simp] theorem fTup_e {f : AF} : fTup f env = (f env).bind fun xs env => match asV xs with | some ws => if ws.length ≤ 16777216 then .ok (.v (.tup ws)) env else .bad | none => .bad := (rfl)
@[simp] theorem fLst_e {f : AF} : fLst f env = (f env).bind fun xs env => match asV xs with | some ws => if ws.length ≤ 16777216 then .ok (.n (.lst ws)) env else .bad | none => .bad := (rfl)
@[simp] theorem fNoPart_e : fNoPart env = .ok none env := (rfl)
@[simp] theorem fPart_e {f : EF} : fPart f env = (f env).bind fun ov env => match (getOV ov env).bind asI with | some i => .ok (some i) env | none => .bad := (rfl)
@[simp] theorem fSl_e {f : EF} {l h : OF} : fSl f l h env = (f env).bind fun x env => (l env).bind fun lo env => (h env).bind fun hi env => retOV ((getOV x env).bind fun w => gSl w lo hi) env := (rfl)
@[simp] theorem fIt_e {k : W → Option (List W)} {f : EF} : fIt k f env = (fE f env).bind fun ov env => match ov with | .v w => (match k w with | some ws => .ok ws env | none => .bad) | _ => .bad := (rfl)
@[simp] theorem asT_tup {ws : List W} : asT (.tup ws) = some ws := (rfl)
@[simp] theorem asL_lst {ws : List W} : asL (.lst ws) = some ws := (rfl)
@[simp] theorem asL_fz {ws : List W} : asL (.fz ws) = some ws := (rfl)
@[simp] theorem fRng1_e {f : EF} : fRng1 f env = (f env).bind fun x env => match getOV x env with | some (.int j) => if smallI j = true then .ok (rangeW 0 j) env else .bad | _ => .bad := (rfl)
@[simp] theorem fRng2_e {f g : EF} : fRng2 f g env = (f env).bind fun x env => (g env).bind fun y env => match getOV x env, getOV y env with | some (.int i), some (.int j) => if smallI i = true ∧ smallI j = true then .ok (rangeW i j) env else .bad | _, _ => .bad := (rfl)
@[simp] theorem fZip_e {f g : EF} : fZip f g env = (fE f env).bind fun ox env => (fE g env).bind fun oy env => match ox, oy with | .v x, .v y => (match asS x y with | some p => .ok (zipW p.1 p.2) env | none => .bad) | _, _ => .bad := (rfl)
@[simp] theorem fYes_e : fYes env = .ok true env := (rfl)
@[simp] theorem fLc_e {it : Ev → Res (List W)} {t : Tg} {c : TF} {el : EF} {vs : List Nat} : fLc it t c el vs env = (it env).bind fun ws env => match compL t c el vs ws [] env with | .ok ys env => .ok (.n (.lst ys)) env | _ => .bad := (rfl)
def callR (idx : List Nat) (env : Ev) : CRes → Res OV
  | .ok w outs => .ok (.v w) (setIo env idx outs)
  | .nw w outs => .ok (.n w) (setIo env idx outs)
  | .er x outs => .er x (setIo env idx outs)
  | .bad => .bad
@[simp] theorem callR_ok {idx : List Nat} {outs : List W} : callR idx env (.ok w outs) = .ok (.v w) (setIo env idx outs) := (rfl)
@[simp] theorem callR_nw {idx : List Nat} {outs : List W} : callR idx env (.nw w outs) = .ok (.n w) (setIo env idx outs) := (rfl)
@[simp] theorem callR_er {idx : List Nat} {outs : List W} : callR idx env (.er x outs) = .er x (setIo env idx outs) := (rfl)
@[simp] theorem callR_bad {idx : List Nat} : callR idx env .bad = .bad := (rfl)
@[simp] theorem fCall_e {ks : List Bool} {g : FnD} {fa : AF} : fCall ks g fa env = (fa env).bind fun ovs env => match mixA ks ovs env with | none => .bad | some (args, idx) => if idx.Nodup then callR idx env (g args) else .bad := by
  unfold fCall callR
  congr 1
@[simp] theorem mixA_nil : mixA [] [] env = some ([], []) := (rfl)
@[simp] theorem mixA_v {ks : List Bool} {os : List OV} : mixA (false :: ks) (.v w :: os) env = (mixA ks os env).map fun p => (w :: p.1, p.2) := (rfl)
@[simp] theorem mixA_s {ks : List Bool} {os : List OV} {k : Nat} : mixA (true :: ks) (.s k :: os) env = match env[k]? with | some (.own w) => (mixA ks os env).map fun p => (w :: p.1, k :: p.2) | _ => none := (rfl)
@[simp] theorem setIo_nil {ws : List W} : setIo env [] ws = env := by cases ws <;> rfl
@[simp] theorem setIo_cons {k : Nat} {ks : List Nat} {ws : List W} : setIo env (k :: ks) (w :: ws) = setIo (env.set k (.own w)) ks ws := (rfl)
/-! statements -/
def SR.thn (r : SR) (g : SF) : SR := match r with
  | .nx e => g e
  | r => r
@[simp] theorem thn_nx {g : SF} : (SR.nx e).thn g = g e := (rfl)
@[simp] theorem thn_rt {g : SF} : (SR.rt w e).thn g = .rt w e := (rfl)
@[simp] theorem thn_rn {g : SF} : (SR.rn w e).thn g = .rn w e := (rfl)
@[simp] theorem thn_bk {g : SF} : (SR.bk e).thn g = .bk e := (rfl)
@[simp] theorem thn_ct {g : SF} : (SR.ct e).thn g = .ct e := (rfl)
@[simp] theorem thn_er {g : SF} : (SR.er x e).thn g = .er x e := (rfl)
@[simp] theorem thn_bad {g : SF} : SR.bad.thn g = .bad := (rfl)
@[simp] theorem thn_ite {g : SF} {c : Prop} [Decidable c] {r r' : SR} : (if c then r else r').thn g = if c then r.thn g else r'.thn g := by
  split <;> rfl
@[simp] theorem sNext_e : sNext e = .nx e := (rfl)
@[simp] theorem sSeq_e {f g : SF} : sSeq f g env = (f env).thn g := (rfl)
@[simp] theorem sIf_e {c : TF} {f g : SF} : sIf c f g env = (c env).andS fun b env => if b = true then f env else g env := (rfl)
@[simp] theorem sSet_e {k : Nat} {f : EF} : sSet k f env = (fE f env).andS fun ov env => match ov with | .v w => .nx (env.set k (.dat w)) | _ => .bad := (rfl)
@[simp] theorem sOwn_e {k : Nat} {f : EF} : sOwn k f env = (f env).andS fun ov env => match ov with | .n w => .nx (env.set k (.own w)) | _ => .bad := (rfl)
@[simp] theorem sRet_e {f : EF} : sRet f env = (fE f env).andS fun ov env => match ov with | .v w => .rt w env | _ => .bad := (rfl)
@[simp] theorem sRetNew_e {f : EF} : sRetNew f env = (f env).andS fun ov env => match ov with | .n w => .rn w env | _ => .bad := (rfl)
@[simp] theorem sRetN_e : sRetN env = .rt .non env := (rfl)
@[simp] theorem sDrop_e {f : EF} : sDrop f env = (f env).andS fun _ env => .nx env := (rfl)
@[simp] theorem sBreak_e : sBreak env = .bk env := (rfl)
@[simp] theorem sCont_e : sCont env = .ct env := (rfl)
@[simp] theorem sApp_e {k : Nat} {f : EF} : sApp k f env = match ownL env k with | none => .bad | some _ => (fE f env).andS fun ov env => match ov with | .v w => (match ownL env k with | some ws => if ws.length < 16777216 then .nx (env.set k (.own (.lst (ws ++ [w])))) else .bad | none => .bad) | _ => .bad := (rfl)
@[simp] theorem sExt_e {k : Nat} {f : EF} : sExt k f env = match ownL env k with | none => .bad | some _ => (fE f env).andS fun ov env => match ov with | .v (.lst us) => (match ownL env k with | some ws => if ws.length + us.length ≤ 16777216 then .nx (env.set k (.own (.lst (ws ++ us)))) else .bad | none => .bad) | _ => .bad := (rfl)
@[simp] theorem ownL_e {k : Nat} : ownL env k = match env[k]? with | some (.own (.lst ws)) => some ws | _ => none := (rfl)
@[simp] theorem sSetIx_e {k : Nat} {fi f : EF} : sSetIx k fi f env = (fE f env).andS fun ov env => match ov with
  | .v w => (match ownL env k with
    | none => .bad
    | some _ => (fi env).andS fun ok env => match (getOV ok env).bind asI with
      | some j => (match ownL env k with
        | some ws => (match ixN ws.length j with
          | some j => .nx (env.set k (.own (.lst (ws.set j w))))
          | none => .bad)
        | none => .bad)
      | none => .bad)
  | _ => .bad := (rfl)
@[simp] theorem sFor_e {it : Ev → Res (List W)} {t : Tg} {f : SF} : sFor it t f env = (it env).andS fun ws env => forL t f ws env := (rfl)
@[simp] theorem sTry_e {f : SF} {hs : List ((Nat → Option Bool) × SF)} : sTry f hs env = match f env with | .er x env' => pick hs x env' | r => r := (rfl)
def outC (env : Ev) (is : List Nat) (k : List W → CRes) : CRes := match outsE env is with
  | some os => k os
  | none => .bad
def SR.fin (ks : List Bool) : SR → CRes
  | .nx env => outC env (ioIdx 0 ks) (.ok .non)
  | .rt w env => outC env (ioIdx 0 ks) (.ok w)
  | .rn w env => outC env (ioIdx 0 ks) (.nw w)
  | .er x env => outC env (ioIdx 0 ks) (.er x)
  | _ => .bad
theorem fdef_e {n : Nat} {ks : List Bool} {f : SF} {args : List W} : fdef n ks f args = (f (argEnv ks args ++ List.replicate (n - args.length) Sl.no)).fin ks := by
  unfold fdef SR.fin outC
  cases f (argEnv ks args ++ List.replicate (n - args.length) Sl.no) <;> rfl
@[simp] theorem fin_nx {ks : List Bool} : (SR.nx e).fin ks = outC e (ioIdx 0 ks) (.ok .non) := (rfl)
@[simp] theorem fin_rt {ks : List Bool} : (SR.rt w e).fin ks = outC e (ioIdx 0 ks) (.ok w) := (rfl)
@[simp] theorem fin_rn {ks : List Bool} : (SR.rn w e).fin ks = outC e (ioIdx 0 ks) (.nw w) := (rfl)
@[simp] theorem fin_er {ks : List Bool} : (SR.er x e).fin ks = outC e (ioIdx 0 ks) (.er x) := (rfl)
@[simp] theorem fin_ite {ks : List Bool} {c : Prop} [Decidable c] {r r' : SR} : (if c then r else r').fin ks = if c then r.fin ks else r'.fin ks := by split <;> rfl
@[simp] theorem ioIdx_nil {n : Nat} : ioIdx n [] = [] := (rfl)
@[simp] theorem ioIdx_t {n : Nat} {ks : List Bool} : ioIdx n (true :: ks) = n :: ioIdx (n + 1) ks := (rfl)
@[simp] theorem ioIdx_f {n : Nat} {ks : List Bool} : ioIdx n (false :: ks) = ioIdx (n + 1) ks := (rfl)
@[simp] theorem argEnv_nil {ks : List Bool} : argEnv ks [] = [] := by
  cases ks with
  | nil => rfl
  | cons b _ => cases b <;> rfl
@[simp] theorem argEnv_t {ks : List Bool} {ws : List W} : argEnv (true :: ks) (w :: ws) = .own w :: argEnv ks ws := (rfl)
@[simp] theorem argEnv_f {ks : List Bool} {ws : List W} : argEnv (false :: ks) (w :: ws) = .dat w :: argEnv ks ws := (rfl)
@[simp] theorem outC_nil {k : List W → CRes} : outC env [] k = k [] := (rfl)
@[simp] theorem outC_cons {k : List W → CRes} {j : Nat} {js : List Nat} : outC env (j :: js) k = match env[j]? with | some (.own w) => outC env js (fun os => k (w :: os)) | _ => .bad := by
  unfold outC
  show (match (match env[j]? with | some (.own w) => (outsE env js).map (w :: ·) | _ => none) with | some os => k os | none => .bad) = _
  split
  · rename_i h
    split at h
    · rename_i w q
      cases p : outsE env js with
      | none => rw [p] at h; cases h
      | some os => rw [p] at h; cases h; rfl
    · cases h
  · rename_i h
    split at h
    · rename_i w q
      cases p : outsE env js with
      | none => rfl
      | some os => rw [p] at h; cases h
    · rfl
/-! operations -/
@[simp] theorem gq_zero {x : α} {xs : List α} : (x :: xs)[0]? = some x := (rfl)
@[simp] theorem gq_succ {x : α} {xs : List α} {n : Nat} : (x :: xs)[n + 1]? = xs[n]? := (rfl)
@[simp] theorem gq_nil {n : Nat} : ([] : List α)[n]? = none := (rfl)
@[simp] theorem gAdd_i : gAdd (.int i) (.int j) = some (.v (.int (i + j))) := (rfl)
@[simp] theorem gSub_i : gSub (.int i) (.int j) = some (.v (.int (i - j))) := (rfl)
@[simp] theorem gLt_i : gLt (.int i) (.int j) = some (.v (.bl (decide (i < j)))) := (rfl)
@[simp] theorem gLe_i : gLe (.int i) (.int j) = some (.v (.bl (decide (i ≤ j)))) := (rfl)
@[simp] theorem gGt_i : gGt (.int i) (.int j) = some (.v (.bl (decide (j < i)))) := (rfl)
@[simp] theorem gGe_i : gGe (.int i) (.int j) = some (.v (.bl (decide (j ≤ i)))) := (rfl)
@[simp] theorem gInt_i : gInt [.int i] = some (.v (.int i)) := (rfl)
@[simp] theorem gLen_l {ws : List W} : gLen [.lst ws] = some (.v (.int ws.length)) := (rfl)
@[simp] theorem gLen_f {ws : List W} : gLen [.fz ws] = some (.v (.int ws.length)) := (rfl)
@[simp] theorem gLen_t {ws : List W} : gLen [.tup ws] = some (.v (.int ws.length)) := (rfl)
@[simp] theorem gIx_l {ws : List W} : gIx (.lst ws) (.int i) = (atI ws i).map .v := (rfl)
@[simp] theorem gIx_f {ws : List W} : gIx (.fz ws) (.int i) = (atI ws i).map .v := (rfl)
@[simp] theorem gIx_t {ws : List W} : gIx (.tup ws) (.int i) = (atI ws i).map .v := (rfl)
@[simp] theorem gList_l {ws : List W} : gList [.lst ws] = some (.n (.lst ws)) := (rfl)
@[simp] theorem gList_f {ws : List W} : gList [.fz ws] = some (.n (.lst ws)) := (rfl)
@[simp] theorem gList_t {ws : List W} : gList [.tup ws] = some (.n (.lst ws)) := (rfl)
@[simp] theorem gTuple_l {ws : List W} : gTuple [.lst ws] = some (.v (.tup ws)) := (rfl)
@[simp] theorem gTuple_t {ws : List W} : gTuple [.tup ws] = some (.v (.tup ws)) := (rfl)
theorem gMul_l (h : -18446744073709551616 < i ∧ i < 18446744073709551616) : gMul (.int i) (.int j) = some (.v (.int (i * j))) := by
  show (if mulOk i j = true then _ else _) = _
  rw [if_pos (by unfold mulOk; simp [h])]
theorem gMul_r (h : -18446744073709551616 < j ∧ j < 18446744073709551616) : gMul (.int i) (.int j) = some (.v (.int (i * j))) := by
  show (if mulOk i j = true then _ else _) = _
  rw [if_pos (by unfold mulOk; simp [h])]
theorem gMod_i (h : 0 < j) : gMod (.int i) (.int j) = some (.v (.int (i % j))) := if_pos h
theorem gDiv_i (h : 0 < j ∧ j < 340282366920938463463374607431768211456) : gDiv (.int i) (.int j) = some (.v (.int (i / j))) := if_pos h
theorem gPow_i (h : 0 ≤ j ∧ j ≤ 1000000 ∧ i.natAbs < 18446744073709551616) : gPow (.int i) (.int j) = some (.v (.int (i ^ j.toNat))) := if_pos h
@[simp] theorem atI_zero {x : α} {xs : List α} : atI (x :: xs) 0 = some x := by
  unfold atI ixN
  simp
@[simp] theorem atI_cons {x : α} {xs : List α} (h : 0 < i) : atI (x :: xs) i = atI xs (i - 1) := by
  unfold atI ixN
  rw [if_pos (show 0 ≤ i by omega), if_pos (show 0 ≤ i - 1 by omega), List.length_cons]
  by_cases c : i < ((xs.length + 1 : Nat) : Int)
  · rw [if_pos c, if_pos (show i - 1 < (xs.length : Int) by omega), show i.toNat = (i - 1).toNat + 1 by omega]
    rfl
  · rw [if_neg c, if_neg (show ¬ i - 1 < (xs.length : Int) by omega)]
    rfl
theorem atI_get {xs : List α} (h : 0 ≤ i ∧ i < xs.length) : atI xs i = xs[i.toNat]? := by
  unfold atI ixN
  simp [h]
@[simp] theorem ixN_get {n : Nat} (h : 0 ≤ i ∧ i < n) : ixN n i = some i.toNat := by
  unfold ixN
  simp [h]
theorem mod_lt2 {m : Int} (h : 0 < m) : 0 ≤ i % m ∧ i % m < m := ⟨Int.emod_nonneg _ (by omega), Int.emod_lt_of_pos _ h⟩
end
/-! ### the hand, of which draws are taken -/
def Hand (h : W) : Prop := ∃ (ns : List Int) (idx big x cnt : Int), h = .lst [.lst (ns.map W.int), .int idx, .int big, .int x, .int cnt] ∧ 0 ≤ idx ∧ 0 ≤ big ∧ 0 ≤ x ∧ x < 2147483647 ∧ 0 ≤ cnt
def bTake2 : SF :=
  (sSeq (sIf (fTest (fOp gGt (fOp gIx (fV 0) (fC (.int 2))) (fC (.int 0)))) (sSeq (sSet 3 (fOp gMod (fB gInt (fCons (fOp gIx (fV 0) (fC (.int 2))) fNil)) (fV 1)))
  (sSeq (sSetIx 0 (fC (.int 2)) (fOp gDiv (fB gInt (fCons (fOp gIx (fV 0) (fC (.int 2))) fNil)) (fV 1)))
  (sRet (fV 3)))) sNext)
  (sSeq (sSetIx 0 (fC (.int 3)) (fOp gMod (fB gInt (fCons (fOp gAdd (fOp gMul (fOp gIx (fV 0) (fC (.int 3))) (fC (.int 69621))) (fOp gMul (fC (.int 7919)) (fOp gIx (fV 0) (fC (.int 4))))) fNil)) (fC (.int 2147483647))))
  (sSeq (sSet 4 (fOp gMod (fB gInt (fCons (fOp gMul (fOp gIx (fV 0) (fC (.int 3))) (fOp gAdd (fOp gDiv (fOp gIx (fV 0) (fC (.int 3))) (fC (.int 1009))) (fC (.int 69621)))) fNil)) (fC (.int 2147483647))))
  (sSeq (sSet 4 (fOp gMod (fB gInt (fCons (fOp gMul (fV 4) (fOp gAdd (fOp gDiv (fV 4) (fC (.int 2003))) (fC (.int 40692)))) fNil)) (fC (.int 2147483399))))
  (sRet (fOp gMod (fB gInt (fCons (fOp gDiv (fV 4) (fC (.int 16))) fNil)) (fV 1)))))))
def bTake : SF :=
  (sSeq (sSetIx 0 (fC (.int 4)) (fOp gAdd (fOp gIx (fV 0) (fC (.int 4))) (fC (.int 1))))
  (sSeq (sIf (fAnd (fTest (fOp gEq (fOp gIx (fV 0) (fC (.int 2))) (fC (.int 0)))) (fTest (fOp gLt (fOp gIx (fV 0) (fC (.int 1))) (fB gLen (fCons (fOp gIx (fV 0) (fC (.int 0))) fNil))))) (sSeq (sSet 2 (fB gInt (fCons (fOp gIx (fOp gIx (fV 0) (fC (.int 0))) (fOp gIx (fV 0) (fC (.int 1)))) fNil)))
  (sSeq (sSetIx 0 (fC (.int 1)) (fOp gAdd (fOp gIx (fV 0) (fC (.int 1))) (fC (.int 1))))
  (sIf (fTest (fOp gGe (fV 2) (fOp gPow (fC (.int 10)) (fC (.int 18))))) (sSetIx 0 (fC (.int 2)) (fV 2)) (sSetIx 0 (fC (.int 3)) (fOp gMod (fB gInt (fCons (fOp gAdd (fOp gAdd (fOp gMul (fOp gIx (fV 0) (fC (.int 3))) (fC (.int 48271))) (fOp gMod (fB gInt (fCons (fV 2) fNil)) (fC (.int 2147483647)))) (fC (.int 1))) fNil)) (fC (.int 2147483647))))))) sNext)
  bTake2))
@[simp] theorem wEq_ii {i j : Int} : wEq (.int i) (.int j) = some (decide (i = j)) := (rfl)
@[simp] theorem gEq_ii {i j : Int} : gEq (.int i) (.int j) = some (.v (.bl (decide (i = j)))) := (rfl)
@[simp] theorem gNe_ii {i j : Int} : gNe (.int i) (.int j) = some (.v (.bl (!decide (i = j)))) := (rfl)
theorem take_tail {ns : List Int} {idx big x cnt m : Int} {sl : Sl} (h1 : 0 ≤ idx) (h2 : 0 ≤ big) (h3 : 0 ≤ x) (h4 : x < 2147483647) (h5 : 0 ≤ cnt) (m1 : 1 ≤ m) (m2 : m < 340282366920938463463374607431768211456) :
    ∃ r h', (bTake2 [.own (.lst [.lst (ns.map W.int), .int idx, .int big, .int x, .int cnt]), .dat (.int m), sl, .no, .no]).fin [true, false] = .ok (.int r) [h'] ∧ 0 ≤ r ∧ r < m ∧ Hand h' := by
  unfold bTake2
  by_cases c : 0 < big
  · simp (disch := omega) [c, gMod_i, gDiv_i]
    refine ⟨_, _, ⟨rfl, rfl⟩, Int.emod_nonneg _ (by omega), Int.emod_lt_of_pos _ (by omega), _, _, _, _, _, rfl, h1, Int.ediv_nonneg h2 (by omega), h3, h4, h5⟩
  · simp (disch := omega) [c, gMod_i, gDiv_i, gMul_l, gMul_r]
    refine ⟨_, _, ⟨rfl, rfl⟩, Int.emod_nonneg _ (by omega), Int.emod_lt_of_pos _ (by omega), _, _, _, _, _, rfl, h1, h2, Int.emod_nonneg _ (by omega), Int.emod_lt_of_pos _ (by omega), h5⟩
theorem take_ok {h : W} (H : Hand h) {m : Int} (m1 : 1 ≤ m) (m2 : m < 340282366920938463463374607431768211456) : ∃ r h', fdef 5 [true, false] bTake [h, .int m] = .ok (.int r) [h'] ∧ 0 ≤ r ∧ r < m ∧ Hand h' := by
  obtain ⟨ns, idx, big, x, cnt, rfl, h1, h2, h3, h4, h5⟩ := H
  show ∃ r h', (fdef 5 [true, false] bTake [_, .int m]) = _ ∧ _
  rw [fdef_e]
  show ∃ r h', (bTake [.own _, .dat _, .no, .no, .no]).fin _ = _ ∧ _
  unfold bTake
  by_cases c : big = 0 ∧ idx < ns.length
  · obtain ⟨n, hn⟩ : ∃ n, (ns.map W.int)[idx.toNat]? = some (.int n) := by
      rw [List.getElem?_map, List.getElem?_eq_getElem (by omega)]
      exact ⟨_, rfl⟩
    have hn : atI (ns.map W.int) idx = some (.int n) := by rw [atI_get ⟨h1, by rw [List.length_map]; exact c.2⟩, hn]
    by_cases d : 1000000000000000000 ≤ n
    · simp (disch := omega) [c, hn, d, gPow_i]
      exact take_tail (by omega) (by omega) h3 h4 (by omega) m1 m2
    · simp (disch := omega) [c, hn, d, gPow_i, gMod_i, gMul_l, gMul_r]
      exact take_tail (by omega) (by omega) (Int.emod_nonneg _ (by omega)) (Int.emod_lt_of_pos _ (by omega)) (by omega) m1 m2
  · by_cases d : big = 0
    · simp (disch := omega) [c, d, show ¬ idx < ns.length by omega]
      exact take_tail h1 (by omega) h3 h4 (by omega) m1 m2
    · simp (disch := omega) [c, d]
      exact take_tail h1 h2 h3 h4 (by omega) m1 m2
end BV

set_option maxRecDepth 100000
set_option maxHeartbeats 4000000
/-! BV: laws of loops; the checks that many laws share. -/
namespace BV
open PySem L2
section
variable {t : Tg} {c : TF} {el : EF} {vs : List Nat} {f : SF}
/-- one turn of a list comprehension -/
def compL1 (t : Tg) (c : TF) (el : EF) (vs : List Nat) (w : W) (env : Ev) : Option (Option W × Ev) := match bindT t w (wipeE env vs) with
  | none => none
  | some env2 => match c env2 with
    | .ok true env3 => (match fE el env3 with
      | .ok (.v y) env4 => some (some y, restE env env4 vs)
      | _ => none)
    | .ok false env3 => some (none, restE env env3 vs)
    | _ => none
theorem compL_pure {P : Ev → Prop} {k : W → Option W} : ∀ {ws acc : List W} {env : Ev}, P env → (∀ w ∈ ws, ∀ env, P env → ∃ e, compL1 t c el vs w env = some (k w, e) ∧ P e) → acc.length + ws.length ≤ 16777216 →
    ∃ e, compL t c el vs ws acc env = .ok (acc ++ ws.filterMap k) e ∧ P e
  | [], acc, env, p, _, _ => ⟨env, by rw [compL_nil, List.filterMap_nil, List.append_nil], p⟩
  | w :: ws, acc, env, p, H, hl => by
    obtain ⟨e, h1, p1⟩ := H w (List.mem_cons_self ..) env p
    rw [List.length_cons] at hl
    rw [compL_cons]
    unfold compL1 at h1
    split at h1
    · cases h1
    · rename_i env2 q1
      try rw [q1]
      try dsimp only
      split at h1
      · rename_i env3 q2
        try rw [q2]
        try dsimp only
        split at h1
        · rename_i y env4 q3
          try rw [q3]
          try dsimp only
          cases h1b : k w with
          | none => rw [h1b] at h1; cases h1
          | some y' =>
            rw [h1b] at h1
            cases h1
            rw [if_pos (by omega), List.filterMap_cons_some h1b]
            obtain ⟨e', h2, p2⟩ := compL_pure p1 (fun w' m => H w' (List.mem_cons_of_mem _ m)) (acc := acc ++ [y]) (by rw [List.length_append, List.length_singleton]; omega)
            exact ⟨e', by rw [h2, List.append_assoc]; rfl, p2⟩
        · cases h1
      · rename_i env3 q2
        try rw [q2]
        try dsimp only
        cases h1b : k w with
        | some y' => rw [h1b] at h1; cases h1
        | none =>
          rw [h1b] at h1
          cases h1
          rw [List.filterMap_cons_none h1b]
          exact compL_pure p1 (fun w' m => H w' (List.mem_cons_of_mem _ m)) (by omega)
      · cases h1
theorem forL_fold {ι : Type} {P : ι → Ev → Prop} {step : ι → W → ι} : ∀ {ws : List W} {s : ι} {env : Ev}, P s env → (∀ w ∈ ws, ∀ s env, P s env → ∃ e1 e2, bindT t w env = some e1 ∧ (f e1 = .nx e2 ∨ f e1 = .ct e2) ∧ P (step s w) e2) →
    ∃ e, forL t f ws env = .nx e ∧ P (ws.foldl step s) e
  | [], s, env, p, _ => ⟨env, rfl, p⟩
  | w :: ws, s, env, p, H => by
    obtain ⟨e1, e2, h1, h2, p2⟩ := H w (List.mem_cons_self ..) s env p
    obtain ⟨e, h3, p3⟩ := forL_fold (ws := ws) p2 (fun w' m => H w' (List.mem_cons_of_mem _ m))
    refine ⟨e, ?_, p3⟩
    show (match bindT t w env with | none => SR.bad | some env1 => match f env1 with | .nx e => forL t f ws e | .ct e => forL t f ws e | .bk e => .nx e | r => r) = _
    rw [h1]
    dsimp only
    rcases h2 with h2 | h2 <;> rw [h2] <;> exact h3
/-- the turn goes on, with P -/
def SR.Nx (r : SR) (P : Ev → Prop) : Prop := match r with
  | .nx e => P e
  | .ct e => P e
  | _ => False
@[simp] theorem Nx_nx {P : Ev → Prop} {e : Ev} : (SR.nx e).Nx P = P e := (rfl)
@[simp] theorem Nx_ct {P : Ev → Prop} {e : Ev} : (SR.ct e).Nx P = P e := (rfl)
def turn (t : Tg) (f : SF) (w : W) (env : Ev) : SR := match bindT t w env with
  | none => .bad
  | some e => f e
theorem forL_idx {P : Nat → Ev → Prop} {ws : List W} {env : Ev} (p : P 0 env) (H : ∀ i (h : i < ws.length) env, P i env → (turn t f ws[i] env).Nx (P (i + 1))) : ∃ e, forL t f ws env = .nx e ∧ P ws.length e := by
  suffices K : ∀ (us : List W) (k : Nat) (env : Ev), ws.drop k = us → k + us.length = ws.length → P k env → ∃ e, forL t f us env = .nx e ∧ P ws.length e from K ws 0 env rfl (by omega) p
  intro us
  induction us with
  | nil => intro k env _ hk p; exact ⟨env, rfl, by simpa using (by rw [← hk]; exact p)⟩
  | cons u us ih =>
    intro k env hd hk p
    rw [List.length_cons] at hk
    have hlt : k < ws.length := by omega
    rw [List.drop_eq_getElem_cons hlt] at hd
    injection hd with hd1 hd2
    have h := H k hlt env p
    rw [hd1] at h
    unfold turn at h
    show ∃ e, (match bindT t u env with | none => SR.bad | some env1 => match f env1 with | .nx e => forL t f us e | .ct e => forL t f us e | .bk e => .nx e | r => r) = .nx e ∧ P ws.length e
    cases hb : bindT t u env with
    | none => rw [hb] at h; exact h.elim
    | some e1 =>
      rw [hb] at h
      dsimp only at h ⊢
      cases hf : f e1 with
      | nx e => rw [hf] at h; exact ih (k + 1) e hd2 (by omega) h
      | ct e => rw [hf] at h; exact ih (k + 1) e hd2 (by omega) h
      | _ => rw [hf] at h; exact h.elim
theorem forL_rng {P : Nat → Ev → Prop} {lo hi : Int} {env : Ev} (p : P 0 env) (H : ∀ i : Nat, lo + i < hi → ∀ env, P i env → (turn t f (.int (lo + i)) env).Nx (P (i + 1))) : ∃ e, forL t f (rangeW lo hi) env = .nx e ∧ P (hi - lo).toNat e := by
  have hl : (rangeW lo hi).length = (hi - lo).toNat := by unfold rangeW; simp
  obtain ⟨e, h, p⟩ := forL_idx (t := t) (f := f) (P := P) (ws := rangeW lo hi) p (fun i h env p => by
    have e : (rangeW lo hi)[i] = .int (lo + i) := by
      have q : (rangeW lo hi)[i]? = some (.int (lo + i)) := by
        unfold rangeW
        rw [List.getElem?_map, List.getElem?_range (by omega)]
        rfl
      rw [List.getElem?_eq_getElem h] at q
      exact Option.some.inj q
    rw [e]
    exact H i (by omega) env p)
  exact ⟨e, h, hl ▸ p⟩
theorem forL_inv {P : Ev → Prop} {ws : List W} {env : Ev} (p : P env) (H : ∀ w ∈ ws, ∀ env, P env → ∃ e1 e2, bindT t w env = some e1 ∧ (f e1 = .nx e2 ∨ f e1 = .ct e2) ∧ P e2) : ∃ e, forL t f ws env = .nx e ∧ P e := by
  obtain ⟨e, h, p⟩ := forL_fold (ι := Unit) (P := fun _ e => P e) (step := fun _ _ => ()) (s := ()) p (fun w m _ env p => H w m env p)
  exact ⟨e, h, p⟩
end
@[simp] theorem bindT_nm {k : Nat} {w : W} {env : Ev} : bindT (.nm k) w env = some (env.set k (.dat w)) := (rfl)
@[simp] theorem wipeE_nil {env : Ev} : wipeE env [] = env := (rfl)
theorem mem_rangeW {lo hi : Int} {w : W} (h : w ∈ rangeW lo hi) : ∃ i, w = .int i ∧ lo ≤ i ∧ i < hi := by
  unfold rangeW at h
  obtain ⟨k, m, rfl⟩ := List.mem_map.1 h
  have := List.mem_range.1 m
  exact ⟨_, rfl, by omega, by omega⟩
@[simp] theorem gEq_bb {a b : Bool} : gEq (.bl a) (.bl b) = some (.v (.bl (a == b))) := by cases a <;> cases b <;> rfl
@[simp] theorem gNe_bb {a b : Bool} : gNe (.bl a) (.bl b) = some (.v (.bl (!(a == b)))) := by cases a <;> cases b <;> rfl
theorem gEq_xx {x : Str} (h : PyData.strOk x = true) : gEq (.str x) (.str x) = some (.v (.bl true)) := by
  show Option.map _ (pyEq (.str x) (.str x)) = _
  unfold pyEq
  rw [if_pos ⟨by simp [SeqAt.shaped, PyData.canLay0, h, PyData.depth], by simp [SeqAt.shaped, PyData.canLay0, h, PyData.depth]⟩]
  simp [PyData.eqv]
/-! the checks -/
/-- its type has a name -/
def Kn (w : W) : Prop := tyN w ≠ none
def inB (a b : Int) : W → Bool
  | .int x => decide (a ≤ x) && decide (x ≤ b)
  | _ => false
def isI : W → Bool
  | .int _ => true
  | _ => false
def isT : W → Bool
  | .tup _ => true
  | _ => false
def isL : W → Bool
  | .lst _ => true
  | _ => false
def isStr : W → Bool
  | .str _ => true
  | _ => false
theorem isi_int {w : W} (h : Kn w) : gIsi tInt [w] = some (.v (.bl (isI w || (match w with | .bl _ => true | _ => false)))) := by
  cases w <;> first | rfl | exact absurd rfl h
theorem isi_bool {w : W} (h : Kn w) : gIsi (tOne "bool") [w] = some (.v (.bl (match w with | .bl _ => true | _ => false))) := by
  cases w <;> first | rfl | exact absurd rfl h
theorem isi_tuple {w : W} (h : Kn w) : gIsi (tOne "tuple") [w] = some (.v (.bl (isT w))) := by
  cases w <;> first | rfl | exact absurd rfl h
theorem isi_list {w : W} (h : Kn w) : gIsi (tOne "list") [w] = some (.v (.bl (isL w))) := by
  cases w <;> first | rfl | exact absurd rfl h
theorem isi_str {w : W} (h : Kn w) : gIsi (tOne "str") [w] = some (.v (.bl (isStr w))) := by
  cases w <;> first | rfl | exact absurd rfl h
def dInteger : FnD := fdef 1 [false] (sRet (fAndV (fB (gIsi tInt) (fCons (fV 0) fNil)) (fNotV (fB (gIsi (tOne "bool")) (fCons (fV 0) fNil)))))
theorem integer_ok {w : W} (h : Kn w) : dInteger [w] = .ok (.bl (isI w)) [] := by
  unfold dInteger
  rw [fdef_e]
  simp [isi_int h, isi_bool h]
  cases w <;> simp [isI]
def dWithin : FnD := fdef 3 [false, false, false] (sRet (fAndV (fCall [false] dInteger (fCons (fE (fV 0)) fNil)) (fChain gLe gLe (fV 1) (fV 0) (fV 2))))
theorem within_ok {w : W} (h : Kn w) {a b : Int} : dWithin [w, .int a, .int b] = .ok (.bl (inB a b w)) [] := by
  unfold dWithin
  rw [fdef_e]
  simp [integer_ok h]
  cases w <;> simp [isI, inB]
  rename_i i
  by_cases c : a ≤ i <;> simp [c]
def dBelow : FnD := fdef 2 [false, false] (sRet (fCall [false, false, false] dWithin (fCons (fE (fV 0)) (fCons (fC (.int 0)) (fCons (fE (fOp gSub (fV 1) (fC (.int 1)))) fNil)))))
theorem below_ok {w : W} (h : Kn w) {b : Int} : dBelow [w, .int b] = .ok (.bl (inB 0 (b - 1) w)) [] := by
  unfold dBelow
  rw [fdef_e]
  simp [within_ok h]
def dLWithin : FnD := fdef 3 [false, false, false] (sRet (fAndV (fCall [false] dInteger (fCons (fE (fV 0)) fNil)) (fAndV (fOp gLe (fV 1) (fV 0)) (fOp gLe (fV 0) (fV 2)))))
theorem lwithin_ok {w : W} (h : Kn w) {a b : Int} : dLWithin [w, .int a, .int b] = .ok (.bl (inB a b w)) [] := by
  unfold dLWithin
  rw [fdef_e]
  simp [integer_ok h]
  cases w <;> simp [isI, inB]
  rename_i i
  by_cases c : a ≤ i <;> simp [c]
theorem hand_new {ns : List Int} : Hand (.lst [.lst (ns.map W.int), .int 0, .int 0, .int 1, .int 0]) := ⟨_, _, _, _, _, rfl, by omega, by omega, by omega, by omega, by omega⟩
def dTake : FnD := fdef 5 [true, false] bTake
theorem take_env {h : W} (H : Hand h) {m : Int} (m1 : 1 ≤ m) (m2 : m < 340282366920938463463374607431768211456) : ∃ r h', dTake [h, .int m] = .ok (.int r) [h'] ∧ 0 ≤ r ∧ r < m ∧ Hand h' := take_ok H m1 m2
def dPick : FnD := fdef 2 [true, false] (sRet (fOp gIx (fV 1) (fCall [true, false] dTake (fCons (fV 0) (fCons (fE (fB gLen (fCons (fV 1) fNil))) fNil)))))
theorem pick_ok {h : W} (H : Hand h) {ws : List W} (h1 : 1 ≤ ws.length) (h2 : ws.length < 340282366920938463463374607431768211456) : ∃ w h', dPick [h, .lst ws] = .ok w [h'] ∧ w ∈ ws ∧ Hand h' := by
  obtain ⟨r, h', e, r0, r1, H'⟩ := take_env H (m := ws.length) (by omega) (by omega)
  unfold dPick
  rw [fdef_e]
  have hx : atI ws r = some ws[r.toNat] := by rw [atI_get ⟨r0, r1⟩, List.getElem?_eq_getElem (by omega)]
  simp [e, hx]
  exact ⟨_, _, ⟨rfl, rfl⟩, List.getElem_mem _, H'⟩
theorem cut_take {α : Type} {xs : List α} {i : Int} (h : 0 ≤ i) : cutL xs none (some i) = xs.take i.toNat := by
  have e : HT.sIx xs.length xs.length (some i) = min i.toNat xs.length := by
    show (if i < 0 then (i + (xs.length : Int)).toNat else min i.toNat xs.length) = _
    rw [if_neg (by omega)]
  unfold cutL
  rw [e, HT.sIx_none, List.drop_zero, Nat.sub_zero, ← List.take_eq_take_min]
theorem cut_drop {α : Type} {xs : List α} {i : Int} (h : 0 ≤ i) : cutL xs (some i) none = xs.drop i.toNat := by
  have e : HT.sIx xs.length 0 (some i) = min i.toNat xs.length := by
    show (if i < 0 then (i + (xs.length : Int)).toNat else min i.toNat xs.length) = _
    rw [if_neg (by omega)]
  unfold cutL
  rw [e, HT.sIx_none]
  by_cases c : i.toNat ≤ xs.length
  · rw [Nat.min_eq_left c, List.take_of_length_le (by rw [List.length_drop]; omega)]
  · rw [Nat.min_eq_right (by omega), List.drop_of_length_le (by omega), List.drop_of_length_le (by omega), List.take_nil]
@[simp] theorem gSl_t {ws : List W} {lo hi : Option Int} : gSl (.tup ws) lo hi = some (.v (.tup (cutL ws lo hi))) := (rfl)
@[simp] theorem gSl_l {ws : List W} {lo hi : Option Int} : gSl (.lst ws) lo hi = some (.n (.lst (cutL ws lo hi))) := (rfl)
theorem gAdd_t {xs ys : List W} (h : xs.length + ys.length ≤ 16777216) : gAdd (.tup xs) (.tup ys) = some (.v (.tup (xs ++ ys))) := if_pos h
theorem gAdd_l {xs ys : List W} (h : xs.length + ys.length ≤ 16777216) : gAdd (.lst xs) (.lst ys) = some (.n (.lst (xs ++ ys))) := if_pos h
theorem gMul_t {xs : List W} {k : Int} (h : 0 ≤ k ∧ k * xs.length ≤ 16777216 ∧ k < 16777217) : gMul (.tup xs) (.int k) = some (.v (.tup (List.replicate k.toNat xs).flatten)) := if_pos h
end BV

set_option maxRecDepth 100000
set_option maxHeartbeats 4000000
/-! BV: x op= e, several names at once. -/
namespace BV
open PySem PySem.Spec PyProof.Rows L2
def putOV (i : Nat) (ov : OV) (env : Ev) : Option Ev := match ov with
  | .v w => some (env.set i (.dat w))
  | .n w => some (env.set i (.own w))
  | .s _ => none
/-- name op= e -/
def sAug (i : Nat) (g : W → W → Option OV) (f : EF) : SF := fun env => match env[i]? with
  | some (.dat wx) => (f env).andS fun y env => (match (getOV y env).bind fun wy => g wx wy with
    | some (.v w) => .nx (env.set i (.dat w))
    | _ => .bad)
  | _ => .bad
/-- targets = e, e a tuple that is taken apart -/
def sUn (t : Tg) (f : EF) : SF := fun env => (fE f env).andS fun ov env => match ov with
  | .v w => (match bindT t w env with
    | some env' => .nx env'
    | none => .bad)
  | _ => .bad
/-- a, b = x, y -/
def sPar2 (i j : Nat) (fa fb : EF) : SF := fun env => (fa env).andS fun x env => (fb env).andS fun y env => match (putOV i x env).bind (putOV j y) with
  | some env' => .nx env'
  | none => .bad
def sPar3 (i j k : Nat) (fa fb fc : EF) : SF := fun env => (fa env).andS fun x env => (fb env).andS fun y env => (fc env).andS fun z env => match ((putOV i x env).bind (putOV j y)).bind (putOV k z) with
  | some env' => .nx env'
  | none => .bad
section
variable {K : PySem.W.Frag} {ci : Nat → Addr} {BS : List Nat} {s m : Sta}
theorem put_ov (ok : Ok K ci m) (st : Stp BS s m) {i : Nat} {v : V} {ov : OV} {env' : Ev} (hi : i ∉ BS) (r : RepOV K ci m v ov) (nw : NewOV s v ov) (e : putOV i ov m.env = some env') :
    Stp BS s ⟨env', m.σ.set i (some v), m.G, m.H⟩ ∧ Ok K ci ⟨env', m.σ.set i (some v), m.G, m.H⟩ ∧
      ∀ v' ov', RepOV K ci m v' ov' → (∀ k, ov' ≠ .s k) → (∀ w u, ov' = .n w → ov = .n u → v' ≠ v) → RepOV K ci ⟨env', m.σ.set i (some v), m.G, m.H⟩ v' ov' := by
  have rest : ∀ (env' : Ev), (∀ j, j ≠ i → env'[j]? = m.env[j]?) → ∀ v' ov', RepOV K ci m v' ov' → (∀ k, ov' ≠ .s k) → ((∃ w, env'[i]? = some (.dat w)) ∨ i ≥ m.env.length ∨ (∀ w, ov' = .n w → v' ≠ v)) → RepOV K ci ⟨env', m.σ.set i (some v), m.G, m.H⟩ v' ov' := by
    intro env' he v' ov' r' ns nv
    cases ov' with
    | v w => exact r'
    | s k => exact absurd rfl (ns k)
    | n w =>
      obtain ⟨a, ea, ro, ga, no⟩ := r'
      refine ⟨a, ea, ro, ga, fun k o => ?_⟩
      obtain ⟨⟨u, h1⟩, h2⟩ := o
      by_cases hk : k = i
      · subst hk
        have h2 : (m.σ.set k (some v))[k]? = some (some (.ref a)) := h2
        by_cases hl : k < m.σ.length
        · rw [List.getElem?_set_self hl] at h2
          rcases nv with ⟨w', z⟩ | z | nv
          · have h1 : env'[k]? = some (.own u) := h1
            rw [z] at h1
            cases h1
          · have := ok.len
            omega
          · exact nv w rfl (by rw [ea]; exact (Option.some.inj (Option.some.inj h2)).symm)
        · rw [List.getElem?_eq_none (by rw [List.length_set]; omega)] at h2
          cases h2
      · have h2 : (m.σ.set i (some v))[k]? = some (some (.ref a)) := h2
        rw [List.getElem?_set_ne (Ne.symm hk)] at h2
        have h1 : env'[k]? = some (.own u) := h1
        rw [he k hk] at h1
        exact no k ⟨⟨u, h1⟩, h2⟩
  cases ov with
  | v w =>
    cases e
    obtain ⟨s1, o1⟩ := set_slot ok hi r
    refine ⟨Step.trans st s1, o1, fun v' ov' r' ns _ => rest _ (fun j hj => List.getElem?_set_ne (Ne.symm hj)) v' ov' r' ns ?_⟩
    by_cases hl : i < m.env.length
    · exact .inl ⟨w, List.getElem?_set_self hl⟩
    · exact .inr (.inl (by omega))
  | n w =>
    cases e
    obtain ⟨a, ea, ro, ga, no⟩ := r
    subst ea
    obtain ⟨s1, o1⟩ := set_own ok st hi ro ga no (nw a rfl)
    exact ⟨s1, o1, fun v' ov' r' ns nv => rest _ (fun j hj => List.getElem?_set_ne (Ne.symm hj)) v' ov' r' ns (.inr (.inr fun w' q => nv w' w q rfl))⟩
  | s k => cases e
/-- two values, the second newer than the first -/
theorem new_ne {v v' : V} {ov ov' : OV} (r : RepOV K ci m v ov) (ok : Ok K ci m) (nw : NewOV m v' ov') : ∀ w, ov' = .n w → (∀ u, ov = .n u → v' ≠ v) := by
  intro w e u e2 z
  subst e e2
  obtain ⟨a, ea, ro, _, _⟩ := r
  have := nw a (by rw [z, ea])
  exact ro.ne this
end
section
variable {X : Cx} {ci : Nat → Addr} {BS : List Nat} {e e2 e3 : Expr} {f fb fc : EF} {pos pos' : Pos}
/-- an operation in place -/
def IOpS (X : Cx) (ci : Nat → Addr) (BS : List Nat) (op : Operator) (g : W → W → Option OV) : Prop := OpS X ci BS (inplaceOp op) g
theorem i_add : IOpS X ci BS .Add (gI fun i j => .int (i + j)) := opS_I iop_add fun _ _ => .int _
theorem i_sub : IOpS X ci BS .Sub (gI fun i j => .int (i - j)) := opS_I iop_sub fun _ _ => .int _
theorem s_aug {i : Nat} {x : Str} {op : Operator} {g : W → W → Option OV} (hi : i ∉ BS) (ho : IOpS X ci BS op g) (he : SndE X ci BS e f) (hN : X.N.Nodup) (hx : X.N[i]? = some x := by rfl) (hl : Loc X.env.scope x := by first | exact Or.inl rfl | exact Or.inr rfl)
    (hf : X.fn x = true ∨ X.env.scope.names.lookup x = some .local := by first | exact .inl rfl | exact .inr rfl | assumption) : SndS X ci BS (.AugAssign (.Name x pos') op e pos) (sAug i g f) := by
  obtain ⟨t, p, q⟩ := he.ex
  obtain ⟨r, pr, qr⟩ := ho
  refine ⟨⟨fun W' => tAug i (t W') r, fun W' tk => ps_aug hN hx hl (p W' tk) (fun pins s σ H x y v u Q I rx ry h => pr pins s σ H x y v u Q I rx ry h) hf, fun W' s D ok h => ?_⟩⟩
  unfold sAug at h
  cases e1 : s.env[i]? with
  | none => rw [e1] at h; exact h.elim
  | some sl =>
    rw [e1] at h
    cases sl with
    | no => exact h.elim
    | own w => exact h.elim
    | dat w =>
      obtain ⟨v, q1, q2⟩ := ok.dat i w e1
      refine ⟨v, q1, ?_⟩
      refine q W' s _ ok ((AccS.andS h).imp fun ov env1 G1 H1 st1 ok1 h1 => ?_)
      intro y rep new
      cases e2 : getOV ov env1 with
      | none => dsimp only at h1; rw [e2] at h1; exact h1.elim
      | some wy =>
        dsimp only at h1
        rw [e2] at h1
        have h1 : AccS X.K ci BS W' ⟨env1, s.σ, G1, H1⟩ D (match g w wy with | some (.v w) => .nx (env1.set i (.dat w)) | _ => .bad) := h1
        cases e3 : g w wy with
        | none => rw [e3] at h1; exact h1.elim
        | some ov =>
          rw [e3] at h1
          cases ov with
          | v w3 =>
            refine qr W' ⟨env1, s.σ, G1, H1⟩ v y w wy _ _ ok1 (.inl (q2.mono st1.sub)) (cur_of ok1 rep e2) e3 ?_
            intro G2 H2 st2 ok2 z rz _
            obtain ⟨st3, ok3⟩ := set_slot (s := ⟨env1, s.σ, G2, H2⟩) ok2 hi rz
            exact h1 _ _ _ (Step.trans st2 st3) ok3
          | s k => exact h1.elim
          | n w3 => exact h1.elim
theorem s_un {tg : Expr} {t : Tg} (he : SndE X ci BS e f) (hg : SndG X ci BS tg t) (hs : swapsWithSole [tg] e pos.line X.env = pure false := by rfl) (hw : swappedStores [tg] e X.env = pure none := by rfl)
    (h1 : (assignEach [tg] X.env).map (·.2) = [assign tg X.env] := by rfl) : SndS X ci BS (.Assign [tg] e pos) (sUn t f) := by
  obtain ⟨te, p, q⟩ := (x_esc he).ex
  obtain ⟨g, pg, qg⟩ := hg.ex
  refine ⟨⟨fun W' => tAsg (te W') g, fun W' tk => ps_asg (p W' tk) pg hs hw h1, fun W' s D ok h => ?_⟩⟩
  refine q W' s _ ok (h.andS.imp fun ov env1 G1 H1 st1 ok1 h2 => ?_)
  intro v rep new
  cases ov with
  | v w =>
    dsimp only at h2
    cases e1 : bindT t w env1 with
    | none => rw [e1] at h2; exact h2.elim
    | some env' =>
      rw [e1] at h2
      exact qg ⟨env1, s.σ, G1, H1⟩ v w env' _ ok1 rep e1 fun σ' st2 ok2 _ _ => h2 σ' G1 H1 st2 ok2
  | _ => exact h2.elim
theorem bind_put {i j : Nat} {x y : OV} {env env' : Ev} (e : (putOV i x env).bind (putOV j y) = some env') : ∃ env1, putOV i x env = some env1 ∧ putOV j y env1 = some env' := by
  cases e1 : putOV i x env with
  | none => rw [e1] at e; cases e
  | some env1 => rw [e1] at e; exact ⟨env1, rfl, e⟩
theorem put_ns {i : Nat} {x : OV} {env env' : Ev} (e : putOV i x env = some env') : ∀ k, x ≠ .s k := fun k z => by subst z; cases e
theorem s_par2 {i j : Nat} {x y : Str} {a b : Expr} {px py pt pt2 : Pos} {kt k2} {fa fb : EF} (hc : X.calm = true) (hN : X.N.Nodup) (hbi : i ∉ BS) (hbj : j ∉ BS) (hij : i ≠ j) (ha : SndE X ci BS a fa) (hb : SndE X ci BS b fb) (hi : X.N[i]? = some x := by rfl) (hj : X.N[j]? = some y := by rfl)
    (hx : X.env.scope.names.lookup x = some .local := by rfl) (hy : X.env.scope.names.lookup y = some .local := by rfl)
    (hw : swappedStores [.Tuple [.Name x px, .Name y py] kt pt] (.Tuple [a, b] k2 pt2) X.env = pure (some [x, y]) := by rfl)
    (hs : swapsWithSole [.Tuple [.Name x px, .Name y py] kt pt] (.Tuple [a, b] k2 pt2) pos.line X.env = pure false := by rfl)
    (hs1 : starEach [a, b] X.env = (false, eval a X.env) :: starEach [b] X.env := by rfl) (hs2 : starEach [b] X.env = (false, eval b X.env) :: starEach [] X.env := by rfl) :
    SndS X ci BS (.Assign [.Tuple [.Name x px, .Name y py] kt pt] (.Tuple [a, b] k2 pt2) pos) (sPar2 i j fa fb) := by
  obtain ⟨ta, pa, qa⟩ := ha.ex
  obtain ⟨tb, pb, qb⟩ := hb.ex
  refine ⟨⟨fun W' => tPar i j (tCons (ta W') (tCons (tb W') tNil)), fun W' tk => ps_par hc hN hi hj hij hx hy (pa_cons (pa W' tk) (pa_cons (pb W' tk) pa_nil hs2) hs1) hw hs, fun W' s D ok h => ?_⟩⟩
  have h' : AccS X.K ci BS W' s D ((fa s.env).andS fun x env => (fb env).andS fun y env => match (putOV i x env).bind (putOV j y) with | some env' => .nx env' | none => .bad) := h
  refine qa W' s _ ok ?_
  cases e1 : fa s.env with
  | bad => rw [e1] at h'; exact h'.elim
  | er x env1 => rw [e1] at h'; exact fun G' H' cls d st ok rx => h' s.σ G' H' cls d st ok rx
  | ok ov env1 =>
    rw [e1] at h'
    intro G1 H1 st1 ok1 v rep new
    refine qb W' ⟨env1, s.σ, G1, H1⟩ _ ok1 ?_
    dsimp only [Res.andS] at h'
    show Acc X.K ci BS W' _ _ (fb env1)
    cases e2 : fb env1 with
    | bad => rw [e2] at h'; exact h'.elim
    | er x env2 => rw [e2] at h'; exact fun G' H' cls d st ok rx => h' s.σ G' H' cls d (Step.trans st1 st) ok rx
    | ok ov2 env2 =>
      rw [e2] at h'
      intro G2 H2 st2 ok2 v2 rep2 new2
      refine ⟨v, v2, rfl, ?_⟩
      dsimp only at h'
      cases e : (putOV i ov env2).bind (putOV j ov2) with
      | none => rw [e] at h'; exact h'.elim
      | some env' =>
        rw [e] at h'
        obtain ⟨env3, e1, e2⟩ := bind_put e
        have st : Stp BS s ⟨env2, s.σ, G2, H2⟩ := Step.trans st1 st2
        obtain ⟨s3, o3, k3⟩ := put_ov (s := s) (m := ⟨env2, s.σ, G2, H2⟩) ok2 st hbi (rep.step st2) new e1
        have rep2' := k3 v2 ov2 rep2 (put_ns e2) fun w u q1 q2 => new_ne (m := ⟨env1, s.σ, G1, H1⟩) rep ok1 new2 w q1 u q2
        obtain ⟨s4, o4, _⟩ := put_ov (s := s) (m := ⟨env3, s.σ.set i (some v), G2, H2⟩) o3 s3 hbj rep2' (NewOV.back st1 new2) e2
        exact h' _ _ _ s4 o4
end
end BV

set_option maxRecDepth 100000
set_option maxHeartbeats 4000000
/-! BV: own errors with fields; except clauses with a name. -/
namespace BV
open PySem PySem.Spec PyProof.Rows L2
/-- the j-th statement of a class -/
def clsS (st : Stmt) (j : Nat) : Stmt := match st with
  | .ClassDef _ _ _ body _ _ _ _ _ _ _ => body.getD j (.Pass ⟨0, 0, 0, 0⟩)
  | _ => .Pass ⟨0, 0, 0, 0⟩
/-- what is known of an own error class with fields -/
structure ErrC (K : PySem.W.Frag) (C fI : Addr) (fs : List Str) : Prop where
  T : OexC K C
  X : XfC K C
  iC : PySem.W.findIn K (.ref C) "__init__" = some (some (.ref fI))
  tI : PySem.W.typeIn K (.ref fI) = some (.type "function")
  no : ∀ f ∈ fs, PySem.W.findIn K (.ref C) f = some none
/-- what __init__ keeps: the fields stand in a dict of the error's own -/
def spInit (C : Addr) (fs : List Str) : Sp := fun vs H Q _ => ∃ (a : Addr) (ws : List V), vs = .ref a :: ws ∧ ws.length = fs.length ∧ H a = some (exo a C none) ∧
  ∀ (d : Addr) (H' : Hp), H d = none → d ≠ a → H' a = some (exo a C (some d)) → H' d = some (exd d (fs.zip ws).reverse) → (∀ b, b ≠ a → b ≠ d → H' b = H b) → Q .non H'
section
variable {P : Program} {w : World} {K : PySem.W.Frag} {mg : Str → Option Value} {base : Heap}
theorem init1 {q : Str} {st : Stmt} {C fI : Addr} {fd : FuncData} {f : Str} {p1 p2 p3 p4 : Pos} (F : Fun K "__init__" q st fI fd) (E : ErrC K C fI [f]) (S : FnScope ["self", f] ["self", f] (defScope st)) (hb : defBody st = [.Assign [.Attribute (.Name "self" p1) f p2] (.Name f p3) p4])
    (hv0 : Vis (defScope st) "self") (hv1 : Vis (defScope st) f) (hd : (f == ("__debug__" : Str)) = false) (hcd : (f == ("__classdict__" : Str)) = false) : FnOk P w K mg base (L2.CX P w) 1 fI fd ["self", f] (spInit C [f]) := by
  refine F.okX S (fun vs H Q E ⟨a, ws, e, l, _⟩ => by rw [e, List.length_cons, l]; rfl) (fun cdv A outer s H vs Q E' hr hsp => ?_)
  obtain ⟨a, ws, rfl, hl, ha, q⟩ := hsp
  rw [hb]
  refine ⟨_, pss_one (ps_ost (pe_var (i := 0) rfl hv0) (pe_var (i := 1) rfl hv1 hd hcd)), ?_⟩
  match ws, hl with
  | [v], _ =>
    refine ⟨v, rfl, .ref a, rfl, a, C, rfl, E.T, E.no f (List.mem_cons_self ..), .inl ⟨ha, fun d hd dne => ?_⟩⟩
    refine q d _ hd dne upd_same ?_ fun b hb1 hb2 => ?_
    · rw [upd_ne dne, upd_same]
      rfl
    · rw [upd_ne hb1, upd_ne hb2]
theorem init2 {q : Str} {st : Stmt} {C fI : Addr} {fd : FuncData} {f g : Str} {p1 p2 p3 p4 r1 r2 r3 r4 : Pos} (F : Fun K "__init__" q st fI fd) (E : ErrC K C fI [f, g]) (S : FnScope ["self", f, g] ["self", f, g] (defScope st))
    (hb : defBody st = [.Assign [.Attribute (.Name "self" p1) f p2] (.Name f p3) p4, .Assign [.Attribute (.Name "self" r1) g r2] (.Name g r3) r4])
    (hv0 : Vis (defScope st) "self") (hv1 : Vis (defScope st) f) (hv2 : Vis (defScope st) g) (hd : (f == ("__debug__" : Str)) = false) (hcd : (f == ("__classdict__" : Str)) = false) (hd2 : (g == ("__debug__" : Str)) = false) (hcd2 : (g == ("__classdict__" : Str)) = false) :
    FnOk P w K mg base (L2.CX P w) 1 fI fd ["self", f, g] (spInit C [f, g]) := by
  refine F.okX S (fun vs H Q E ⟨a, ws, e, l, _⟩ => by rw [e, List.length_cons, l]; rfl) (fun cdv A outer s H vs Q E' hr hsp => ?_)
  obtain ⟨a, ws, rfl, hl, ha, q⟩ := hsp
  rw [hb]
  refine ⟨_, pss_cons (ps_ost (pe_var (i := 0) rfl hv0) (pe_var (i := 1) rfl hv1 hd hcd)) (pss_one (ps_ost (pe_var (i := 0) rfl hv0) (pe_var (i := 2) rfl hv2 hd2 hcd2))), ?_⟩
  match ws, hl with
  | [v, u], _ =>
    refine ⟨v, rfl, .ref a, rfl, a, C, rfl, E.T, E.no f (List.mem_cons_self ..), .inl ⟨ha, fun d hd dne => ?_⟩⟩
    refine ⟨u, rfl, .ref a, rfl, a, C, rfl, E.T, E.no g (List.mem_cons_of_mem _ (List.mem_cons_self ..)), .inr ⟨d, [(f, v)], upd_same, by rw [upd_ne dne, upd_same], by simp, ?_⟩⟩
    refine q d _ hd dne (by rw [upd_ne (Ne.symm dne), upd_same]) ?_ fun b hb1 hb2 => ?_
    · rw [upd_same]
      rfl
    · rw [upd_ne hb2, upd_ne hb1, upd_ne hb2]
end
/-- raise C(e, ..) -/
def sRaise (c : Nat) (fs : List Str) (fa : AF) : SF := fun env => (fa env).andS fun ovs env => match asV ovs with
  | some ws => if ws.length = fs.length then .er ⟨c, (fs.zip ws).reverse⟩ env else .bad
  | none => .bad
section
variable {X : Cx} {ci : Nat → Addr} {BS : List Nat} {e : Expr} {es : List Expr} {f : EF} {fa : AF} {pos p pos2 : Pos}
theorem repFs_zip {K : PySem.W.Frag} {ci : Nat → Addr} {G : Hp} : ∀ {fs : List Str} {vs : List V} {ws : List W} {l : List (Str × V)} {l' : List (Str × W)}, RepVs K ci G vs ws → RepFs K ci G l l' → RepFs K ci G ((fs.zip vs).reverse ++ l) ((fs.zip ws).reverse ++ l')
  | [], _, _, _, _, _, r => r
  | _ :: _, _, _, _, _, .nil, r => r
  | f :: fs, _, _, _, _, .cons h t, r => by
    rw [List.zip_cons_cons, List.zip_cons_cons, List.reverse_cons, List.reverse_cons, List.append_assoc, List.append_assoc]
    exact repFs_zip t (.cons h r)
theorem s_raiseF {c k : Nat} {x : Str} {fI : Addr} {fd : FuncData} {fs ps : List Str} (hc : X.calm = true) (E : ErrC X.K (ci c) fI fs) (F1 : FnOk X.prog X.w X.K X.mg X.base (L2.CX X.prog X.w) k fI fd ps (spInit (ci c) fs)) (hr : Room (k + 1) X.A) (hb : Binds X.K fd ps [])
    (hg : Gl X x) (hm : X.mg x = some (.ref (ci c))) (hn : fs.length ≤ 1000) (ha : SndA X ci BS (e :: es) fa) (hdb : (x == ("__debug__" : Str)) = false := by decide)
    (he : starEach (e :: es) X.env = (false, eval e X.env) :: starEach es X.env := by rfl) (hpl : (backTo pos (starEach es X.env)).any (·.1) = false := by rfl) : SndS X ci BS (.Raise (some (.Call (.Name x p) (e :: es) [] pos)) none pos2) (sRaise c fs fa) := by
  obtain ⟨t, pp, q⟩ := ha.ex
  refine ⟨⟨fun W' => fun _ σ H => tMkO (ci c) (spInit (ci c) fs) [] (t W') σ H fun cls d H' => W' cls d σ H', fun W' tk => ps_raise hc tk (pmk_oex (ds := []) (dvs := []) E.T E.iC E.tI F1 hr hb .nil (fun _ _ _ _ _ _ _ ⟨_, _, _, _, _, _, _, _, _, _, _, _, z⟩ => z.elim) hg hm (pp W' tk) hdb he hpl), fun W' s D ok h => ?_⟩⟩
  refine q W' s _ ok (h.andS.imp fun ovs env1 G1 H1 st1 ok1 h1 => ?_)
  intro vs reps
  dsimp only at h1
  cases e1 : asV ovs with
  | none => rw [e1] at h1; exact h1.elim
  | some ws =>
    rw [e1] at h1
    dsimp only at h1
    by_cases hl : ws.length = fs.length
    · rw [if_pos hl] at h1
      have r := asV_of reps e1
      have hv : vs.length = fs.length := by rw [r.length, hl]
      refine ⟨by omega, fun a na => ⟨a, vs, by rw [List.append_nil], hv, upd_same, fun d H' nd dne ea ed rest => ⟨rfl, d, _, ea, ed, ?_, ?_⟩⟩⟩
      · rw [upd_ne dne] at nd
        exact nd
      · rw [upd_ne dne] at nd
        have eq : upd (del H' a) d (.xd (fs.zip vs).reverse) = upd H1 d (.xd (fs.zip vs).reverse) := by
          funext b
          by_cases hb : b = d
          · rw [hb, upd_same, upd_same]
          · rw [upd_ne hb, upd_ne hb]
            by_cases hba : b = a
            · rw [hba, del_same]; exact na.symm
            · rw [del_ne hba, rest b hba hb, upd_ne hba]
        rw [eq]
        obtain ⟨s2, o2⟩ := alloc_pers (o := .xd (fs.zip vs).reverse) ok1 nd
        refine h1 s.σ _ _ _ (some d) s2 o2 ⟨rfl, .inr ⟨d, _, rfl, upd_same, ?_⟩⟩
        have r' := repFs_zip (fs := fs) r (RepFs.nil (K := X.K) (ci := ci) (G := G1))
        rw [List.append_nil, List.append_nil] at r'
        exact r'.mono s2.sub
    · rw [if_neg hl] at h1
      exact h1.elim
end
end BV

set_option maxRecDepth 100000
set_option maxHeartbeats 4000000
/-! BV: except clauses, some of them with a name. -/
namespace BV
open PySem PySem.Spec PyProof.Rows L2
/-- a clause with the slot of its name, if it has one -/
abbrev ClD := Value × Option Nat × (Addr → Value → Option Addr → TS)
def setA (σ : L2.St) (o : Option Nat) (v : Option V) : L2.St := match o with
  | none => σ
  | some i => σ.set i v
def endA (o : Option Nat) (D : Ends) : Ends := { nx := fun σ H => D.nx (setA σ o none) H, rt := D.rt, bk := fun σ H => D.bk (setA σ o none) H, ct := fun σ H => D.ct (setA σ o none) H }
def wAny (K : PySem.W.Frag) (Wo : WX) (D : Ends) : List ClD → WX
  | [] => Wo
  | (c, o, ts) :: r => fun cls d σ H => ∃ b, PySem.W.exmOne K cls c = some b ∧ (b = true → ∀ a, H a = none → ts a cls d (endA o D) (setA σ o (some (.ref a))) H) ∧ (b = false → wAny K Wo D r cls d σ H)
inductive ClOk (X : Cx) : List ExceptHandler → List ClD → Prop
  | nil : ClOk X [] []
  | pl {x : Str} {c : Value} {ts : Addr → Value → Option Addr → TS} {b₁ : Stmt} {sts : List Stmt} {np ps : Pos} {hs : List ExceptHandler} {l : List ClD} (nm : Names X x c)
      (su : ∀ (a : Addr) (o : Obj) (cls : Value) (d : Option Addr) (pn : List (Addr × Obj)), Zc cls d o → (∃ vs, o.data = .fields vs) → PSs (X.suite a ((a, o) :: pn)) (b₁ :: sts) (ts a cls d)) (r : ClOk X hs l) :
      ClOk X (.ExceptHandler (some (.Name x np)) none (b₁ :: sts) ps :: hs) ((c, none, ts) :: l)
  | named {x n : Str} {i : Nat} {c : Value} {ts : Addr → Value → Option Addr → TS} {b₁ : Stmt} {sts : List Stmt} {np ps : Pos} {hs : List ExceptHandler} {l : List ClD} (nm : Names X x c) (hN : X.N.Nodup) (hi : X.N[i]? = some n) (hl : X.env.kindOf n = some .local)
      (su : ∀ (a : Addr) (o : Obj) (cls : Value) (d : Option Addr) (pn : List (Addr × Obj)), Zc cls d o → (∃ vs, o.data = .fields vs) → PSs (X.suite a ((a, o) :: pn)) (b₁ :: sts) (ts a cls d)) (r : ClOk X hs l) :
      ClOk X (.ExceptHandler (some (.Name x np)) (some n) (b₁ :: sts) ps :: hs) ((c, some i, ts) :: l)
section
variable {X : Cx} {body : List Stmt} {h₁ : ExceptHandler} {hs : List ExceptHandler} {l : List ClD} {pos : Pos} {tb : WX → TS} {Wo : WX}
/-- a suite's end: the name goes, if there is one -/
theorem gone_any {σ6 : L2.St} {H6 : Hp} {s6 : Shared} {pins : List (Addr × Obj)} {n : Str} {i : Nat} {p : Pos} {Q : Shared → Prop} (J : Inv X pins σ6 H6 s6) (hN : X.N.Nodup) (hi : X.N[i]? = some n) (hl : X.env.kindOf n = some .local)
    (k : ∀ s7, Inv X pins (σ6.set i none) H6 s7 → Q s7) : wpAny (model X.prog X.w) X.A (do bindName X.env n .none; unbindBehindTheSuite X.env n p) (fun _ s7 => Q s7) X.xe s6 :=
  gone_ok J hN hi hl k
theorem ps_try_any (hst : X.stack = X.env :: X.outer) (hfr : X.env.frame = some X.env.locals) (tk : Takes X Wo)
    (hb : ∀ (W2 : WX) (pn : List (Addr × Obj)) (xe : Value → Shared → Prop), Takes (X.tr pn xe) W2 → PassesOwn (model X.prog X.w) X.A X.env xe → PSs (X.tr pn xe) body (tb W2)) (hh : ClOk X (h₁ :: hs) l) :
    PS X (.Try body (h₁ :: hs) [] [] pos) (fun D σ H => tb (wAny X.K Wo D l) D σ H) := by
  constructor
  intro pins s σ H D I h
  have okX := I.ok
  have frA : X.A.frames = some (X.env :: X.outer) := by rw [okX.frames, hst]
  apply wpAny_Try_except
  let xeT : Value → Shared → Prop := fun e u1 => wpAny (model X.prog X.w) X.A (noteFrame e X.env) (fun _ u2 => wpAny (model X.prog X.w) X.A (setFlight e none)
    (fun _ u3 => wpAny (model X.prog X.w) X.A (handleBy e X.env (h₁ :: hs)) (SP X pins D) X.xe u3) X.xe u2) X.xe u1
  have tkT : Takes (X.tr (X.pn ++ pins) xeT) (wAny X.K Wo D l) := by
    intro u s' xx
    obtain ⟨a, B, sI, pins2, σ2, H2, cls, d, rfl, Jt, nb, up, sky, na, ose, age, w⟩ := xx
    have J : Inv X pins σ2 H2 sI := Jt.ofTry okX
    have sky2 : Sky B (X.env :: X.outer) a (Zc cls d) X.env.locals s'.heap := hst ▸ sky
    show wpAny _ _ (noteFrame (.ref a) X.env) _ _ _
    refine Sky.land Zc.steady frA hfr sky2 fun hp3 land3 up3 => ?_
    have J3 : Inv X pins σ2 H2 { s' with heap := hp3 } := J.landed nb land3.1 (up.trans up3) ose age
    obtain ⟨ob3, fv3, at3, z3, dt3⟩ := land3.there
    have nfr : a ∉ frs (X.env :: X.outer) := fun hm => by
      obtain ⟨_, ob, eo, no⟩ := land3.2.2.1.mem hm
      rw [at3] at eo
      cases eo
      exact no _ dt3
    have neL : a ≠ X.env.locals := fun z => nfr (List.mem_filterMap.mpr ⟨X.env, List.mem_cons_self, by rw [hfr, z]⟩)
    have neF : a ∉ X.fs := fun hm => by
      obtain ⟨en, me, q⟩ := List.mem_filterMap.mp hm
      exact nfr (List.mem_filterMap.mpr ⟨en, List.mem_cons_of_mem _ me, q⟩)
    have S3 := J3.suite at3 dt3 na neL neF
    have every : ∀ {hs2 : List ExceptHandler} {l2 : List ClD}, ClOk X hs2 l2 → wAny X.K Wo D l2 cls d σ2 H2 →
        wpAny (model X.prog X.w) X.A (handleBy (.ref a) X.env hs2) (SP X pins D) X.xe { s' with heap := hp3 } := by
      intro hs2 l2 good
      have ask : ∀ {x : Str} {c : Value} {np : Pos} {b : Bool}, Names X x c → PySem.W.exmOne X.K cls c = some b → ∀ {Q : Bool → Shared → Prop} {E E2 : Value → Shared → Prop}, Q b { s' with heap := hp3 } →
          wpAny (model X.prog X.w) (X.A.mark (some (.ref a))) (eval (.Name x np) X.env) (fun c u1 => wpAny (model X.prog X.w) (X.A.mark (some (.ref a))) (excMatches (.ref a) c) Q E2 u1) E { s' with heap := hp3 } := by
        intro x c np b nm hb1 Q E E2 q
        have ty : PySem.W.Looks (model X.prog X.w) hp3 (typeOf (.ref a)) cls := fun _ _ _ _ kk qq => wpAny_typeOf_ref (kk _ _ at3) (z3.1 ▸ qq)
        have mt := (PySem.W.exm_one (M := model X.prog X.w) J3.kIn ty hb1).here (A := X.A.mark (some (.ref a))) (E := E2) q
        obtain ⟨gl, nd, own | ⟨bl, bv, nn⟩⟩ := nm
        · exact ld_glob (X := X.suite a ((a, ob3) :: (X.pn ++ pins))) S3 gl own mt nd
        · exact ld_blt (X := X.suite a ((a, ob3) :: (X.pn ++ pins))) S3 gl bl bv mt nn nd
      induction good with
      | nil =>
        intro wn
        apply wpAny_handleBy_nil
        have fin : wpAny (model X.prog X.w) X.A (setFlight (.ref a) X.env.frame) (fun _ u4 => wpAny (model X.prog X.w) X.A (throw (.ref a) : Sem Flow) (SP X pins D) X.xe u4) X.xe { s' with heap := hp3 } := by
          rw [hfr]
          exact HandSPX.setFlight_upZ land3 fun hp4 fly4 up4 => wpAny_throw (tk _ _ ⟨a, B, sI, pins, σ2, H2, cls, d, rfl, J, nb, (up.trans up3).trans up4, .inr (.inr (hst ▸ fly4)), na, ose, age, wn⟩)
        obtain ⟨_, _, _, ox, fv, tr, _, _, eo, _, ed, e1, _⟩ := id land3
        unfold PySem.passOn
        apply wpAny_bind
        refine wpAny_field eo ed e1 ?_
        rw [if_neg (by simp)]
        first
          | exact wpAny_bind (wpAny_pure (wpAny_bind fin))
          | exact wpAny_bind fin
      | @pl x c ts b₁ sts np ps hs3 l3 nm su r ih =>
        intro wn
        obtain ⟨b, hb1, yes, no⟩ := wn
        refine wpAny_handleBy_cons (codeAny_handlers_test (ask nm hb1 ?_)) (fun q => nomatch q)
        cases b with
        | false => exact ih (no rfl)
        | true =>
          apply codeAny_handlers_suite
          refine HandSPX.lands_againZ land3 fun hp4 land4 up4 => ?_
          obtain ⟨ob4, fv4, at4, z4, dt4⟩ := land4.there
          have J4 : Inv X pins σ2 H2 { s' with heap := hp4 } := J.landed nb land4.1 ((up.trans up3).trans up4) ose age
          have S4 := J4.suite at4 dt4 na neL neF
          refine wpAny_mono ((su a ob4 cls d (X.pn ++ pins) z4 ⟨_, dt4⟩).run [] _ _ H2 _ S4 (yes rfl a na)) (fun fl u6 sp => ?_) (fun _ _ q => q.elim)
          cases fl with
          | next =>
            obtain ⟨σ5, H5, J5, q5⟩ := sp
            exact ⟨_, _, J5.unsuite okX, q5⟩
          | brk =>
            obtain ⟨σ5, H5, J5, q5⟩ := sp
            exact ⟨_, _, J5.unsuite okX, q5⟩
          | cont =>
            obtain ⟨σ5, H5, J5, q5⟩ := sp
            exact ⟨_, _, J5.unsuite okX, q5⟩
          | ret u =>
            obtain ⟨v5, σ5, H5, J5, r5, q5⟩ := sp
            exact ⟨_, _, _, J5.unsuite okX, r5, q5⟩
      | @named x n i c ts b₁ sts np ps hs3 l3 nm hN hi hl su r ih =>
        intro wn
        obtain ⟨b, hb1, yes, no⟩ := wn
        refine wpAny_handleBy_cons (codeAny_handlers_test (ask nm hb1 ?_)) (fun q => nomatch q)
        cases b with
        | false => exact ih (no rfl)
        | true =>
          apply codeAny_handlers_suite_as
          refine HandSPX.lands_againZ land3 fun hp4 land4 up4 => ?_
          obtain ⟨ob4, fv4, at4, z4, dt4⟩ := land4.there
          have J4 : Inv X pins σ2 H2 { s' with heap := hp4 } := J.landed nb land4.1 ((up.trans up3).trans up4) ose age
          have S4 := J4.suite at4 dt4 na neL neF
          refine store_ok (X := X.suite a ((a, ob4) :: (X.pn ++ pins))) (v := .ref a) S4 hN hi (.inl hl) rfl (fun u5 S5 => ?_) (.inr hl)
          refine wpAny_mono ((su a ob4 cls d (X.pn ++ pins) z4 ⟨_, dt4⟩).run [] u5 _ H2 _ S5 (yes rfl a na)) (fun fl u6 sp => ?_) (fun _ _ q => q.elim)
          cases fl with
          | next =>
            obtain ⟨σ5, H5, J5, q5⟩ := sp
            exact gone_any (J5.unsuite okX) hN hi hl fun _ J7 => ⟨_, _, J7, q5⟩
          | brk =>
            obtain ⟨σ5, H5, J5, q5⟩ := sp
            exact gone_any (J5.unsuite okX) hN hi hl fun _ J7 => ⟨_, _, J7, q5⟩
          | cont =>
            obtain ⟨σ5, H5, J5, q5⟩ := sp
            exact gone_any (J5.unsuite okX) hN hi hl fun _ J7 => ⟨_, _, J7, q5⟩
          | ret u =>
            obtain ⟨v5, σ5, H5, J5, r5, q5⟩ := sp
            exact gone_any (J5.unsuite okX) hN hi hl fun _ J7 => ⟨_, _, _, J7, r5, q5⟩
    exact every hh w
  refine wpAny_mono ((hb (wAny X.K Wo D l) (X.pn ++ pins) xeT tkT PassesOwn.looking).run [] s σ H D (I.toTry _) h) (fun fl s1 sp => ?_) (fun _ _ q => q)
  cases fl with
  | next =>
    obtain ⟨σ5, H5, J5, q5⟩ := sp
    exact wpAny_execs_nil ⟨σ5, H5, J5.ofTry okX, q5⟩
  | brk =>
    obtain ⟨σ5, H5, J5, q5⟩ := sp
    exact ⟨_, _, J5.ofTry okX, q5⟩
  | cont =>
    obtain ⟨σ5, H5, J5, q5⟩ := sp
    exact ⟨_, _, J5.ofTry okX, q5⟩
  | ret u =>
    obtain ⟨v5, σ5, H5, J5, r5, q5⟩ := sp
    exact ⟨_, _, _, J5.ofTry okX, r5, q5⟩
end
end BV

set_option maxRecDepth 100000
set_option maxHeartbeats 4000000
/-! BV: try with named clauses, as functions. -/
namespace BV
open PySem PySem.Spec PyProof.Rows L2
/-- a clause: its test on class numbers, its suite; a named one: the slot, the suite for an exception at a, its fields at d, of class c -/
inductive Hd where
  | pl (t : Nat → Option Bool) (g : SF)
  | as (t : Nat → Option Bool) (i : Nat) (g : Addr → Option Addr → Nat → SF)
def SR.clr (i : Nat) : SR → SR
  | .bad => .bad
  | .nx env => .nx (env.set i .no)
  | .rt w env => .rt w (env.set i .no)
  | .rn w env => .rn w (env.set i .no)
  | .bk env => .bk (env.set i .no)
  | .ct env => .ct (env.set i .no)
  | .er _ _ => .bad
/-- r is what the suite does, wherever the exception lies -/
def IsR (i : Nat) (g : Addr → Option Addr → Nat → SF) (x : Exc) (env : Ev) (r : SR) : Prop :=
  ∀ (a : Addr) (d : Option Addr), (d = none → x.fs = []) → (g a d x.c (env.set i (.dat (.exc a d x.fs)))).clr i = r
open Classical in
noncomputable def asR (i : Nat) (g : Addr → Option Addr → Nat → SF) (x : Exc) (env : Ev) : SR := if h : ∃ r, IsR i g x env r then h.choose else .bad
theorem asR_eq {i : Nat} {g : Addr → Option Addr → Nat → SF} {x : Exc} {env : Ev} {r : SR} (h : IsR i g x env r) : asR i g x env = r := by
  have e : ∃ r, IsR i g x env r := ⟨r, h⟩
  unfold asR
  rw [dif_pos e]
  have h2 := e.choose_spec
  exact (h2 0 (some 0) (fun z => nomatch z)).symm.trans (h 0 (some 0) (fun z => nomatch z))
noncomputable def pickA (hs : List Hd) (x : Exc) (env : Ev) : SR := match hs with
  | [] => .er x env
  | .pl t g :: r => (match t x.c with
    | none => .bad
    | some true => (match g env with
      | .er _ _ => .bad
      | r => r)
    | some false => pickA r x env)
  | .as t i g :: r => (match t x.c with
    | none => .bad
    | some true => asR i g x env
    | some false => pickA r x env)
noncomputable def sTryA (f : SF) (hs : List Hd) : SF := fun env => match f env with
  | .er x env' => pickA hs x env'
  | r => r
/-- e.f of the exception that the suite holds -/
def fXf (a : Addr) (d : Option Addr) (c k : Nat) (i : Nat) (f : Str) : EF := fun env => if c = k ∧ d ≠ none then (match env[i]? with
  | some (.dat (.exc a' d' fs)) => if a' = a ∧ d' = d then (match fs.lookup f with
    | some w => .ok (.v w) env
    | none => .bad) else .bad
  | _ => .bad) else .bad
inductive SndAs (X : Cx) (ci : Nat → Addr) (BS : List Nat) : List ExceptHandler → List Hd → Prop
  | nil : SndAs X ci BS [] []
  | pl {x : Str} {c : Value} {t : Nat → Option Bool} {g : SF} {b₁ : Stmt} {sts : List Stmt} {np ps : Pos} {hs : List ExceptHandler} {l : List Hd} (nm : Names X x c) (ht : Tst X.K ci c t)
      (su : ∀ (a : Addr) (o : Obj) (pn : List (Addr × Obj)), SndSs (X.suite a ((a, o) :: pn)) ci BS (b₁ :: sts) g) (r : SndAs X ci BS hs l) : SndAs X ci BS (.ExceptHandler (some (.Name x np)) none (b₁ :: sts) ps :: hs) (.pl t g :: l)
  | as {x n : Str} {i : Nat} {c : Value} {t : Nat → Option Bool} {g : Addr → Option Addr → Nat → SF} {b₁ : Stmt} {sts : List Stmt} {np ps : Pos} {hs : List ExceptHandler} {l : List Hd} (nm : Names X x c) (ht : Tst X.K ci c t) (hN : X.N.Nodup) (hB : i ∉ BS) (hi : X.N[i]? = some n) (hl : X.env.kindOf n = some .local)
      (su : ∀ (a : Addr) (o : Obj) (d : Option Addr) (k : Nat) (pn : List (Addr × Obj)), Zc (.ref (ci k)) d o → (∃ vs, o.data = .fields vs) → SndSs (X.suite a ((a, o) :: pn)) ci BS (b₁ :: sts) (g a d k)) (r : SndAs X ci BS hs l) :
      SndAs X ci BS (.ExceptHandler (some (.Name x np)) (some n) (b₁ :: sts) ps :: hs) (.as t i g :: l)
section
variable {X : Cx} {ci : Nat → Addr} {BS : List Nat}
theorem clr_ok {K : PySem.W.Frag} {s : Sta} {env' : Ev} {σ' : L2.St} {G' H' : Hp} {i : Nat} (st : Stp BS s ⟨env', σ', G', H'⟩) (ok : Ok K ci ⟨env', σ', G', H'⟩) (hB : i ∉ BS) : Stp BS s ⟨env'.set i .no, σ'.set i none, G', H'⟩ ∧ Ok K ci ⟨env'.set i .no, σ'.set i none, G', H'⟩ := by
  obtain ⟨s1, o1⟩ := wipe_ok (vs := [i]) ok (fun j hj z => hB (by rw [List.mem_singleton] at z; exact z ▸ hj))
  exact ⟨Step.trans st s1, o1⟩
theorem own_set_ne {env : Ev} {σ : L2.St} {i j : Nat} {sl : Sl} {ov : Option V} {a : Addr} (hs : ∀ w, sl ≠ .own w) (h : OwnAt (env.set i sl) (σ.set i ov) j a) : OwnAt env σ j a := by
  obtain ⟨⟨u, h1⟩, h2⟩ := h
  by_cases hj : j = i
  · subst hj
    by_cases hl : j < env.length
    · rw [List.getElem?_set_self hl] at h1
      exact absurd (Option.some.inj h1) (hs u)
    · rw [List.getElem?_eq_none (by rw [List.length_set]; omega)] at h1
      cases h1
  · rw [List.getElem?_set_ne (Ne.symm hj)] at h1 h2
    exact ⟨⟨u, h1⟩, h2⟩
theorem as_ok {hs : List ExceptHandler} {l : List Hd} (h : SndAs X ci BS hs l) : ∃ tl : List ClD, ClOk X hs tl ∧ ∀ (Wo : WX) (D : Ends) (s : Sta) (x : Exc) (cls : Value) (d : Option Addr), Ok X.K ci s → RepX X.K ci s.G s.H cls d x → AccS X.K ci BS Wo s D (pickA l x s.env) → wAny X.K Wo D tl cls d s.σ s.H := by
  induction h with
  | nil => exact ⟨[], .nil, fun Wo D s x cls d ok rx h => h s.σ s.G s.H cls d Step.refl ok rx⟩
  | @pl x c t g b₁ sts np ps hs l nm ht su r ih =>
    obtain ⟨tl, h1, h2⟩ := ih
    refine ⟨(c, none, fun a cls d => fun D σ H => ∀ o pn, (su a o pn).ex.choose (fun _ _ _ _ => False) D σ H) :: tl, .pl nm (fun a o cls d pn hz hf => ?_) h1, fun Wo D s x cls d ok rx h => ?_⟩
    · exact PSs.imp ((su a o pn).ex.choose_spec.1 _ takes0) fun D σ H z => z o pn
    · unfold pickA at h
      cases e : t x.c with
      | none => rw [e] at h; exact h.elim
      | some b =>
        rw [e] at h
        refine ⟨b, by rw [rx.1]; exact ht.is _ _ e, fun hb a ha o pn => ?_, fun hb => ?_⟩
        · subst hb
          dsimp only at h
          refine (su a o pn).ex.choose_spec.2 _ s (endA none D) ok ?_
          cases e2 : g s.env with
          | er y env' => rw [e2] at h; exact h.elim
          | bad => rw [e2] at h; exact h
          | nx env' => rw [e2] at h; exact h
          | rt w env' => rw [e2] at h; exact h
          | rn w env' => rw [e2] at h; exact h
          | bk env' => rw [e2] at h; exact h
          | ct env' => rw [e2] at h; exact h
        · subst hb
          exact h2 Wo D s x cls d ok rx h
  | @as x n i c t g b₁ sts np ps hs l nm ht hN hB hi hl su r ih =>
    obtain ⟨tl, h1, h2⟩ := ih
    refine ⟨(c, some i, fun a cls d => fun D σ H => ∃ k, cls = .ref (ci k) ∧ ∀ o pn z f, (su a o d k pn z f).ex.choose (fun _ _ _ _ => False) D σ H) :: tl, .named nm hN hi hl (fun a o cls d pn hz hf => ?_) h1, fun Wo D s x cls d ok rx h => ?_⟩
    · refine ⟨fun pins s σ H D I hw => ?_⟩
      obtain ⟨k, rfl, z⟩ := hw
      exact ((su a o d k pn hz hf).ex.choose_spec.1 _ takes0).run pins s σ H D I (z o pn hz hf)
    · unfold pickA at h
      cases e : t x.c with
      | none => rw [e] at h; exact h.elim
      | some b =>
        rw [e] at h
        refine ⟨b, by rw [rx.1]; exact ht.is _ _ e, fun hb a ha => ⟨x.c, rx.1, fun o pn z f => ?_⟩, fun hb => ?_⟩
        · subst hb
          have h : AccS X.K ci BS Wo s D (asR i g x s.env) := h
          have hR : ∃ r, IsR i g x s.env r := by
            by_cases q : ∃ r, IsR i g x s.env r
            · exact q
            · unfold asR at h
              rw [dif_neg q] at h
              exact h.elim
          obtain ⟨r, hR⟩ := hR
          rw [asR_eq hR] at h
          have hd : d = none → x.fs = [] := fun z => by
            rcases rx.2 with ⟨q, _⟩ | ⟨dd, _, q, _⟩
            · exact q
            · rw [z] at q; cases q
          have hR := hR a d hd
          have rep : RepV X.K ci s.G (.ref a) (.exc a d x.fs) := by
            rcases rx.2 with ⟨q, q2⟩ | ⟨dd, fvs, q, q2, q3⟩
            · rw [q, q2]
              exact .exc (fs := []) (fun _ z => nomatch z) .nil
            · rw [q]
              exact .exc (fun dd' z => by cases z; exact q2) q3
          obtain ⟨s1, o1⟩ := set_slot (v := .ref a) ok hB rep
          refine (su a o d x.c pn z f).ex.choose_spec.2 _ ⟨s.env.set i (.dat (.exc a d x.fs)), s.σ.set i (some (.ref a)), s.G, s.H⟩ (endA (some i) D) o1 ?_
          show AccS X.K ci BS _ _ _ (g a d x.c (s.env.set i (.dat (.exc a d x.fs))))
          cases e2 : g a d x.c (s.env.set i (.dat (.exc a d x.fs))) with
          | bad => rw [e2] at hR; subst hR; exact h
          | er y env' => rw [e2] at hR; subst hR; exact h.elim
          | nx env' =>
            rw [e2] at hR; subst hR
            intro σ' G' H' st ok'
            obtain ⟨s3, o3⟩ := clr_ok (Step.trans s1 st) ok' hB
            exact h _ _ _ s3 o3
          | bk env' =>
            rw [e2] at hR; subst hR
            intro σ' G' H' st ok'
            obtain ⟨s3, o3⟩ := clr_ok (Step.trans s1 st) ok' hB
            exact h _ _ _ s3 o3
          | ct env' =>
            rw [e2] at hR; subst hR
            intro σ' G' H' st ok'
            obtain ⟨s3, o3⟩ := clr_ok (Step.trans s1 st) ok' hB
            exact h _ _ _ s3 o3
          | rt w env' =>
            rw [e2] at hR; subst hR
            intro σ' G' H' v st ok' rv
            obtain ⟨s3, o3⟩ := clr_ok (Step.trans s1 st) ok' hB
            exact h _ _ _ v s3 o3 rv
          | rn w env' =>
            rw [e2] at hR; subst hR
            intro σ' G' H' b st ok' ro gb no nw
            obtain ⟨s3, o3⟩ := clr_ok (Step.trans s1 st) ok' hB
            refine h _ _ _ b s3 o3 ro gb (fun j q => no j (own_set_ne (sl := .no) (by intro w z; cases z) q)) ?_
            rcases nw with z | ⟨j, hj, z⟩
            · exact .inl z
            · exact .inr ⟨j, hj, own_set_ne (sl := .dat _) (by intro w z; cases z) z⟩
        · subst hb
          exact h2 Wo D s x cls d ok rx h
theorem s_tryA {body : List Stmt} {f : SF} {h₁ : ExceptHandler} {hs : List ExceptHandler} {l : List Hd} {pos : Pos} (hst : X.stack = X.env :: X.outer) (hf : X.env.frame = some X.env.locals)
    (hb : ∀ (pn : List (Addr × Obj)) (xe : Value → Shared → Prop), PassesOwn (model X.prog X.w) X.A X.env xe → SndSs (X.tr pn xe) ci BS body f) (hh : SndAs X ci BS (h₁ :: hs) l) : SndS X ci BS (.Try body (h₁ :: hs) [] [] pos) (sTryA f l) := by
  obtain ⟨tl, h1, h2⟩ := as_ok hh
  refine ⟨⟨fun W' => fun D σ H => (fun (W2 : WX) => (fun D σ H => ∀ pn xe hp, (hb pn xe hp).ex.choose W2 D σ H : TS)) (wAny X.K W' D tl) D σ H, fun W' tk => ?_, fun W' s D ok h => ?_⟩⟩
  · exact ps_try_any (tb := fun W2 => (fun D σ H => ∀ pn xe hp, (hb pn xe hp).ex.choose W2 D σ H : TS)) hst hf tk (fun W2 pn xe tk2 hp => PSs.imp ((hb pn xe hp).ex.choose_spec.1 W2 tk2) fun D σ H z => z pn xe hp) h1
  · intro pn xe hp
    refine (hb pn xe hp).ex.choose_spec.2 _ s D ok ?_
    have h' : AccS X.K ci BS W' s D (match f s.env with | .er x env' => pickA l x env' | r => r) := h
    cases e : f s.env with
    | bad => rw [e] at h'; exact h'
    | nx env' => rw [e] at h'; exact h'
    | rt w env' => rw [e] at h'; exact h'
    | rn w env' => rw [e] at h'; exact h'
    | bk env' => rw [e] at h'; exact h'
    | ct env' => rw [e] at h'; exact h'
    | er x env' =>
      rw [e] at h'
      intro σ' G' H' cls d st ok' rx
      exact h2 W' D ⟨env', σ', G', H'⟩ x cls d ok' rx (AccS.mid h' st)
theorem x_xf {a : Addr} {o : Obj} {d : Option Addr} {c k i : Nat} {pn : List (Addr × Obj)} {n f : Str} {p pos : Pos} (T : XfC X.K (ci k)) (hno : PySem.W.findIn X.K (.ref (ci k)) f = some none) (hz : Zc (.ref (ci c)) d o) (hf : ∃ vs, o.data = .fields vs)
    (hN : X.N[i]? = some n := by rfl) (hv : Vis X.env.scope n := by first | exact Or.inl rfl | exact Or.inr (Or.inl rfl) | exact Or.inr (Or.inr rfl)) (hd : (n == ("__debug__" : Str)) = false := by decide) (hcd : (n == ("__classdict__" : Str)) = false := by decide)
    (hb : attributeBase (.Name n p) f X.env (eval (.Name n p) X.env) = eval (.Name n p) X.env := by rfl) : SndE (X.suite a ((a, o) :: pn)) ci BS (.Attribute (.Name n p) f pos) (fXf a d c k i f) := by
  refine ⟨⟨fun _ => tXf a (.ref (ci c)) d (ci k) f (tVar i), fun _ _ => pe_xf T hno hz hf (pe_var (X := X.suite a ((a, o) :: pn)) hN hv hd hcd) hb, fun W' s Q ok h => ?_⟩⟩
  unfold fXf at h
  by_cases q : c = k ∧ d ≠ none
  · rw [if_pos q] at h
    obtain ⟨rfl, hd⟩ := q
    cases e : s.env[i]? with
    | none => rw [e] at h; exact h.elim
    | some sl =>
      rw [e] at h
      cases sl with
      | no => exact h.elim
      | own w => exact h.elim
      | dat w =>
        obtain ⟨v, q1, q2⟩ := ok.dat i w e
        cases w with
        | exc a' d' fs =>
          dsimp only at h
          by_cases q : a' = a ∧ d' = d
          · rw [if_pos q] at h
            obtain ⟨rfl, rfl⟩ := q
            cases q2 with
            | exc hG r =>
              cases e2 : fs.lookup f with
              | none => rw [e2] at h; exact h.elim
              | some w =>
                rw [e2] at h
                obtain ⟨v, l, rv⟩ := r.look e2
                cases d' with
                | none => exact absurd rfl hd
                | some dd => exact ⟨.ref a', q1, rfl, rfl, dd, _, v, rfl, ok.sub _ _ (hG dd rfl), l, ret_same ok h rv⟩
          · rw [if_neg q] at h
            exact h.elim
        | _ => exact h.elim
  · rw [if_neg q] at h
    exact h.elim
end
end BV

set_option maxRecDepth 100000
set_option maxHeartbeats 4000000
/-! BV: evaluation of the later statements; loops with a measure. -/
namespace BV
open PySem L2
section
variable {α β : Type} {e env : Ev} {w : W} {i j : Int}
@[simp] theorem putOV_v {k : Nat} : putOV k (.v w) env = some (env.set k (.dat w)) := (rfl)
@[simp] theorem putOV_n {k : Nat} : putOV k (.n w) env = some (env.set k (.own w)) := (rfl)
@[simp] theorem sAug_e {k : Nat} {g : W → W → Option OV} {f : EF} : sAug k g f env = match env[k]? with
  | some (.dat wx) => (f env).andS fun y env => (match (getOV y env).bind fun wy => g wx wy with
    | some (.v w) => .nx (env.set k (.dat w))
    | _ => .bad)
  | _ => .bad := (rfl)
@[simp] theorem gI_ii {f : Int → Int → W} : gI f (.int i) (.int j) = some (.v (f i j)) := (rfl)
@[simp] theorem sUn_e {t : Tg} {f : EF} : sUn t f env = (fE f env).andS fun ov env => match ov with
  | .v w => (match bindT t w env with
    | some env' => .nx env'
    | none => .bad)
  | _ => .bad := (rfl)
@[simp] theorem bindT_tp {l : Tgs} {ws : List W} : bindT (.tp l) (.tup ws) env = bindTs l ws env := (rfl)
@[simp] theorem bindTs_nil : bindTs .nil [] env = some env := (rfl)
@[simp] theorem bindTs_cons {t : Tg} {l : Tgs} {ws : List W} : bindTs (.cons t l) (w :: ws) env = (bindT t w env).bind fun env => bindTs l ws env := (rfl)
@[simp] theorem sPar2_e {k l : Nat} {fa fb : EF} : sPar2 k l fa fb env = (fa env).andS fun x env => (fb env).andS fun y env => match (putOV k x env).bind (putOV l y) with
  | some env' => .nx env'
  | none => .bad := (rfl)
@[simp] theorem sRaise_e {c : Nat} {fs : List Str} {fa : AF} : sRaise c fs fa env = (fa env).andS fun ovs env => match asV ovs with
  | some ws => if ws.length = fs.length then .er ⟨c, (fs.zip ws).reverse⟩ env else .bad
  | none => .bad := (rfl)
@[simp] theorem sTryA_e {f : SF} {hs : List Hd} : sTryA f hs env = match f env with
  | .er x env' => pickA hs x env'
  | r => r := (rfl)
theorem pickA_nil {x : Exc} : pickA [] x env = .er x env := by unfold pickA; rfl
theorem pickA_pl {t : Nat → Option Bool} {g : SF} {r : List Hd} {x : Exc} : pickA (.pl t g :: r) x env = match t x.c with
  | none => .bad
  | some true => (match g env with
    | .er _ _ => .bad
    | r => r)
  | some false => pickA r x env := by
  first
    | (rw [pickA]; done)
    | (rw [pickA]
       cases t x.c with
       | none => rfl
       | some b => cases b <;> rfl)
theorem pickA_as {t : Nat → Option Bool} {k : Nat} {g : Addr → Option Addr → Nat → SF} {r : List Hd} {x : Exc} : pickA (.as t k g :: r) x env = match t x.c with
  | none => .bad
  | some true => asR k g x env
  | some false => pickA r x env := by
  first
    | (rw [pickA]; done)
    | (rw [pickA]
       cases t x.c with
       | none => rfl
       | some b => cases b <;> rfl)
theorem fXf_e {a : Addr} {d : Option Addr} {c k i : Nat} {f : Str} : fXf a d c k i f env = if c = k ∧ d ≠ none then (match env[i]? with
  | some (.dat (.exc a' d' fs)) => if a' = a ∧ d' = d then (match fs.lookup f with
    | some w => .ok (.v w) env
    | none => .bad) else .bad
  | _ => .bad) else .bad := (rfl)
@[simp] theorem clr_nx {k : Nat} : (SR.nx e).clr k = .nx (e.set k .no) := (rfl)
@[simp] theorem clr_rt {k : Nat} : (SR.rt w e).clr k = .rt w (e.set k .no) := (rfl)
end
/-- a while loop, by a measure -/
theorem whileL_meas {c : TF} {f : SF} {P : Nat → Ev → Prop} {Q : Ev → Prop} (H : ∀ n env, P n env → (∃ e, c env = .ok false e ∧ Q e) ∨ ∃ e, c env = .ok true e ∧ ∃ m, n = m + 1 ∧ (f e).Nx (P m)) :
    ∀ {n N : Nat} {env : Ev}, n < N → P n env → ∃ e, whileL c f N env = .nx e ∧ Q e := by
  intro n
  induction n with
  | zero =>
    intro N env hN p
    obtain ⟨N, rfl⟩ : ∃ M, N = M + 1 := ⟨N - 1, by omega⟩
    rcases H 0 env p with ⟨e, h1, q⟩ | ⟨e, _, m, hm, _⟩
    · exact ⟨e, by show (c env).andS _ = _; rw [h1]; rfl, q⟩
    · omega
  | succ n ih =>
    intro N env hN p
    obtain ⟨N, rfl⟩ : ∃ M, N = M + 1 := ⟨N - 1, by omega⟩
    rcases H (n + 1) env p with ⟨e, h1, q⟩ | ⟨e, h1, m, hm, h2⟩
    · exact ⟨e, by show (c env).andS _ = _; rw [h1]; rfl, q⟩
    · obtain rfl : n = m := by omega
      cases hf : f e with
      | nx e2 =>
        rw [hf] at h2
        obtain ⟨e3, h3, q3⟩ := ih (N := N) (by omega) h2
        refine ⟨e3, ?_, q3⟩
        show (c env).andS _ = _
        rw [h1]
        show (match f e with | .nx e => whileL c f N e | .ct e => whileL c f N e | .bk e => .nx e | r => r) = _
        rw [hf]
        exact h3
      | ct e2 =>
        rw [hf] at h2
        obtain ⟨e3, h3, q3⟩ := ih (N := N) (by omega) h2
        refine ⟨e3, ?_, q3⟩
        show (c env).andS _ = _
        rw [h1]
        show (match f e with | .nx e => whileL c f N e | .ct e => whileL c f N e | .bk e => .nx e | r => r) = _
        rw [hf]
        exact h3
      | _ => rw [hf] at h2; exact h2.elim
end BV

set_option maxRecDepth 100000
set_option maxHeartbeats 4000000
/-! BV: rows of bytes, equal results, odd things: defs that many laws share. -/
namespace BV
open PySem
def bRow : SF :=
  (sRet (fAndV (fB (gIsi (tOne "tuple")) (fCons (fV 0) fNil)) (fAndV (fOp gLe (fB gLen (fCons (fV 0) fNil)) (fC (.int 300000))) (fB gAll (fCons (fLc (fIt asT (fE (fV 0))) (.nm 1) fYes (fCall [false, false] dBelow (fCons (fE (fV 1)) (fCons (fE (fC (.int 256))) fNil))) [1]) fNil)))))
def dRow : FnD := fdef 2 [false] bRow
def bLRow : SF :=
  (sSeq (sIf (fOr (fNot (fTest (fB (gIsi (tOne "tuple")) (fCons (fV 0) fNil)))) (fTest (fOp gGt (fB gLen (fCons (fV 0) fNil)) (fC (.int 300000))))) (sRet (fC (.bl false))) sNext)
  (sRet (fOp gEq (fB gLen (fCons (fLc (fIt asT (fE (fV 0))) (.nm 1) (fNot (fTest (fCall [false, false, false] dLWithin (fCons (fE (fV 1)) (fCons (fC (.int 0)) (fCons (fC (.int 255)) fNil)))))) (fV 1) [1]) fNil)) (fC (.int 0)))))
def dLRow : FnD := fdef 2 [false] bLRow
def bSame (g0 : FnD) : SF :=
  (sSeq (sIf (fTest (fOp gIs (fV 1) (fC .non))) (sRet (fOp gIs (fV 0) (fC .non))) sNext)
  (sSeq (sIf (fTest (fOp gIs (fV 1) (fC (.bl true)))) (sRet (fOp gIs (fV 0) (fC (.bl true)))) sNext)
  (sSeq (sIf (fTest (fOp gIs (fV 1) (fC (.bl false)))) (sRet (fOp gIs (fV 0) (fC (.bl false)))) sNext)
  (sSeq (sIf (fTest (fB (gIsi tInt) (fCons (fV 1) fNil))) (sRet (fAndV (fCall [false] dInteger (fCons (fE (fV 0)) fNil)) (fOp gEq (fV 0) (fV 1)))) sNext)
  (sSeq (sIf (fTest (fB (gIsi (tOne "str")) (fCons (fV 1) fNil))) (sRet (fAndV (fB (gIsi (tOne "str")) (fCons (fV 0) fNil)) (fOp gEq (fV 0) (fV 1)))) sNext)
  (sSeq (sIf (fOr (fTest (fOp gNe (fB (gIsi (tOne "tuple")) (fCons (fV 1) fNil)) (fB (gIsi (tOne "tuple")) (fCons (fV 0) fNil)))) (fTest (fOp gNe (fB (gIsi (tOne "list")) (fCons (fV 1) fNil)) (fB (gIsi (tOne "list")) (fCons (fV 0) fNil))))) (sRet (fC (.bl false))) sNext)
  (sSeq (sIf (fTest (fOp gNe (fB gLen (fCons (fV 0) fNil)) (fB gLen (fCons (fV 1) fNil)))) (sRet (fC (.bl false))) sNext)
  (sSeq (sFor (fZip (fE (fV 0)) (fE (fV 1))) (.tp (.cons (.nm 2) (.cons (.nm 3) .nil))) (sIf (fNot (fTest (fCall [false, false] g0 (fCons (fE (fV 2)) (fCons (fE (fV 3)) fNil))))) (sRet (fC (.bl false))) sNext))
  (sRet (fC (.bl true)))))))))))
def dSame : Nat → FnD
  | 0 => fun _ => .bad
  | n + 1 => fdef 4 [false, false] (bSame (dSame n))
def bOdd : SF :=
  (sSeq (sSet 1 (fCall [true, false] dTake (fCons (fV 0) (fCons (fC (.int 18)) fNil))))
  (sSeq (sIf (fTest (fOp gLt (fV 1) (fC (.int 6)))) (sRet (fOp gIx (fLst (fCons (fC .non) (fCons (fC (.bl true)) (fCons (fC (.bl false)) (fCons (fC (.str "")) (fCons (fC (.str "H")) (fCons (fC (.str "0")) fNil))))))) (fV 1))) sNext)
  (sSeq (sIf (fTest (fOp gLt (fV 1) (fC (.int 12)))) (sRet (fOp gIx (fLst (fCons (fTup fNil) (fCons (fE (fLst fNil)) (fCons (fE fDict0) (fCons (fTup (fCons (fC (.int 0)) fNil)) (fCons (fE (fLst (fCons (fC (.int 0)) (fCons (fC (.int 0)) fNil)))) (fCons (fTup (fCons (fTup fNil) fNil)) fNil))))))) (fOp gSub (fV 1) (fC (.int 6))))) sNext)
  (sRet (fOp gIx (fLst (fCons (fE (fNeg (fC (.int 1)))) (fCons (fC (.int 999)) (fCons (fE (fOp gSub (fOp gPow (fC (.int 10)) (fC (.int 20))) (fC (.int 1)))) (fCons (fTup (fCons (fC (.int 0)) (fCons (fC (.int 1)) fNil))) (fCons (fTup (fCons (fC (.bl true)) fNil)) (fCons (fTup (fCons (fE (fNeg (fC (.int 1)))) fNil)) fNil))))))) (fOp gSub (fV 1) (fC (.int 12))))))))
def dOdd : FnD := fdef 2 [true] bOdd
def bBytes : SF :=
  (sSeq (sOwn 2 (fLst fNil))
  (sSeq (sFor (fRng1 (fCall [true, false] dTake (fCons (fV 0) (fCons (fE (fOp gAdd (fV 1) (fC (.int 1)))) fNil)))) (.nm 3) (sApp 2 (fE (fCall [true, false] dPick (fCons (fV 0) (fCons (fE (fLst (fCons (fC (.int 0)) (fCons (fC (.int 1)) (fCons (fC (.int 2)) (fCons (fC (.int 3)) (fCons (fC (.int 127)) (fCons (fC (.int 128)) (fCons (fC (.int 129)) (fCons (fC (.int 255)) (fCons (fE (fCall [true, false] dTake (fCons (fV 0) (fCons (fC (.int 256)) fNil)))) (fCons (fE (fCall [true, false] dTake (fCons (fV 0) (fCons (fC (.int 256)) fNil)))) fNil)))))))))))) fNil))))))
  (sRet (fB gTuple (fCons (fV 2) fNil)))))
def dBytes : FnD := fdef 4 [true, false] bBytes
def isRow : W → Bool
  | .tup ws => decide (ws.length ≤ 300000) && ws.all (inB 0 255)
  | _ => false
def KRow (w : W) : Prop := Kn w ∧ ∀ ws, w = .tup ws → ws.length ≤ 16777216 ∧ ∀ u ∈ ws, Kn u
theorem bools_map {k : W → Bool} : ∀ {ws : List W}, bools (ws.map fun w => .bl (k w)) = some (ws.map k)
  | [] => rfl
  | w :: ws => by
    show (bools (ws.map fun w => .bl (k w))).map _ = _
    rw [bools_map]
    rfl
theorem is_row_ok {w : W} (h : KRow w) : dRow [w] = .ok (.bl (isRow w)) [] := by
  unfold dRow bRow
  rw [fdef_e]
  cases w with
  | tup ws =>
    by_cases c : ws.length ≤ 300000
    · obtain ⟨e, h1, h2⟩ := compL_pure (t := .nm 1) (c := fYes) (el := fCall [false, false] dBelow (fCons (fE (fV 1)) (fCons (fE (fC (.int 256))) fNil))) (vs := [1]) (P := fun env => env = [.dat (.tup ws), .no])
        (k := fun w => some (.bl (inB 0 255 w))) (ws := ws) (acc := []) (env := [.dat (.tup ws), .no]) rfl (fun w m env p => by
          subst p
          have := (h.2 ws rfl).2 w m
          simp [compL1, below_ok this, wipeE, restE]) (by simp; omega)
      subst h2
      simp [isi_tuple h.1, isT, c, h1, isRow, gAll, bools_map, List.all_map, show ((ws.length : Int) ≤ 300000) by omega]
    · simp [isi_tuple h.1, isT, c, isRow, show ¬ ((ws.length : Int) ≤ 300000) by omega]
  | _ => simp [isi_tuple h.1, isT, isRow]
theorem lis_row_ok {w : W} (h : KRow w) : dLRow [w] = .ok (.bl (isRow w)) [] := by
  unfold dLRow bLRow
  rw [fdef_e]
  cases w with
  | tup ws =>
    by_cases c : ws.length ≤ 300000
    · obtain ⟨e, h1, h2⟩ := compL_pure (t := .nm 1) (c := fNot (fTest (fCall [false, false, false] dLWithin (fCons (fE (fV 1)) (fCons (fC (.int 0)) (fCons (fC (.int 255)) fNil)))))) (el := fV 1) (vs := [1]) (P := fun env => env = [.dat (.tup ws), .no])
        (k := fun w => if inB 0 255 w then none else some w) (ws := ws) (acc := []) (env := [.dat (.tup ws), .no]) rfl (fun w m env p => by
          subst p
          have := (h.2 ws rfl).2 w m
          cases q : inB 0 255 w <;> simp [compL1, lwithin_ok this, wipeE, restE, q]) (by simp; omega)
      subst h2
      simp [isi_tuple h.1, isT, c, h1, isRow, show ¬ ((300000 : Int) < ws.length) by omega]
      exact (Bool.eq_iff_iff.2 (by simp))
    · simp [isi_tuple h.1, isT, c, isRow, show ((300000 : Int) < ws.length) by omega]
  | _ => simp [isi_tuple h.1, isT, isRow]
theorem row_bytes {ws : List W} (h : isRow (.tup ws) = true) : ws.length ≤ 300000 ∧ ∀ w ∈ ws, inB 0 255 w = true := by
  have h : (decide (ws.length ≤ 300000) && ws.all (inB 0 255)) = true := h
  rw [Bool.and_eq_true_iff] at h
  exact ⟨of_decide_eq_true h.1, fun w m => List.all_eq_true.1 h.2 w m⟩
theorem row_of {ws : List W} (h : ws.length ≤ 300000) (h2 : ∀ w ∈ ws, inB 0 255 w = true) : isRow (.tup ws) = true := by
  show (decide (ws.length ≤ 300000) && ws.all (inB 0 255)) = true
  rw [Bool.and_eq_true_iff]
  exact ⟨decide_eq_true h, List.all_eq_true.2 h2⟩
theorem row_tup {w : W} (h : isRow w = true) : ∃ ws, w = .tup ws := by
  cases w with
  | tup ws => exact ⟨_, rfl⟩
  | _ => cases h
theorem byte_kn {w : W} (h : inB 0 255 w = true) : Kn w := by
  cases w with
  | int b => intro e; cases e
  | _ => cases h
/-! equal results -/
theorem same_ii {n : Nat} {i : Int} : dSame (n + 1) [.int i, .int i] = .ok (.bl true) [] := by
  show fdef 4 [false, false] (bSame (dSame n)) _ = _
  unfold bSame
  rw [fdef_e]
  simp [gIs, isNon, isBl, gIsi, tInt, tyN, integer_ok (w := .int i) (by intro e; cases e), isI]
theorem same_ss {n : Nat} {x : Str} (h : PyData.strOk x = true) : dSame (n + 1) [.str x, .str x] = .ok (.bl true) [] := by
  show fdef 4 [false, false] (bSame (dSame n)) _ = _
  unfold bSame
  rw [fdef_e]
  simp [gIs, isNon, isBl, gIsi, tInt, tOne, tyN, gEq_xx h]
theorem same_tup {n : Nat} {ws : List W} (H : ∀ w ∈ ws, dSame n [w, w] = .ok (.bl true) []) : dSame (n + 1) [.tup ws, .tup ws] = .ok (.bl true) [] := by
  show fdef 4 [false, false] (bSame (dSame n)) _ = _
  unfold bSame
  rw [fdef_e]
  obtain ⟨e, h1, a, b, rfl⟩ := forL_inv (t := .tp (.cons (.nm 2) (.cons (.nm 3) .nil))) (f := sIf (fNot (fTest (fCall [false, false] (dSame n) (fCons (fE (fV 2)) (fCons (fE (fV 3)) fNil))))) (sRet (fC (.bl false))) sNext)
    (P := fun env => ∃ a b, env = [.dat (.tup ws), .dat (.tup ws), a, b]) (ws := zipW ws ws) (env := [.dat (.tup ws), .dat (.tup ws), .no, .no]) ⟨_, _, rfl⟩ (fun w m env p => by
      obtain ⟨a, b, rfl⟩ := p
      have : ∃ u ∈ ws, w = .tup [u, u] := by
        unfold zipW at m
        rw [List.zipWith_self] at m
        obtain ⟨u, mu, rfl⟩ := List.mem_map.1 m
        exact ⟨u, mu, rfl⟩
      obtain ⟨u, mu, rfl⟩ := this
      exact ⟨_, _, rfl, .inl (by simp [H u mu]; exact ⟨rfl, rfl⟩), _, _, rfl⟩)
  simp [gIs, isNon, isBl, gIsi, tInt, tOne, tyN, asS, h1]
theorem same_n {n : Nat} {x : Str} (h : PyData.strOk x = true) : dSame (n + 2) [.tup [.str x], .tup [.str x]] = .ok (.bl true) [] := same_tup fun w m => by
  rw [List.mem_singleton.1 m]
  exact same_ss h
theorem same_two {n : Nat} {a b : W} (h1 : dSame n [a, a] = .ok (.bl true) []) (h2 : dSame n [b, b] = .ok (.bl true) []) : dSame (n + 1) [.tup [a, b], .tup [a, b]] = .ok (.bl true) [] := same_tup fun w m => by
  rcases List.mem_cons.1 m with rfl | m
  · exact h1
  · rw [List.mem_singleton.1 m]
    exact h2
theorem ok_told : PyData.strOk "told" = true := by decide +kernel
theorem ok_NoRow : PyData.strOk "NoRow" = true := by decide +kernel
theorem ok_NoNumber : PyData.strOk "NoNumber" = true := by decide +kernel
/-! draws -/
theorem krow_of {w : W} (h : Kn w) (h2 : ∀ ws, w ≠ .tup ws) : KRow w := ⟨h, fun ws e => absurd e (h2 ws)⟩
theorem kn_int {i : Int} : Kn (.int i) := by intro e; cases e
theorem kn_tup {ws : List W} : Kn (.tup ws) := by intro e; cases e
theorem odd_ok {h : W} (H : Hand h) : ∃ w h', dOdd [h] = .ok w [h'] ∧ KRow w ∧ Hand h' := by
  obtain ⟨r, h', e, r0, r1, H'⟩ := take_env H (m := 18) (by omega) (by omega)
  unfold dOdd bOdd
  rw [fdef_e]
  have hr : r = 0 ∨ r = 1 ∨ r = 2 ∨ r = 3 ∨ r = 4 ∨ r = 5 ∨ r = 6 ∨ r = 7 ∨ r = 8 ∨ r = 9 ∨ r = 10 ∨ r = 11 ∨ r = 12 ∨ r = 13 ∨ r = 14 ∨ r = 15 ∨ r = 16 ∨ r = 17 := by omega
  rcases hr with rfl | rfl | rfl | rfl | rfl | rfl | rfl | rfl | rfl | rfl | rfl | rfl | rfl | rfl | rfl | rfl | rfl | rfl <;>
  · simp [e, gPow_i]
    exact ⟨_, _, ⟨rfl, rfl⟩, ⟨(by intro e; cases e), fun ws e => by first | (cases e; refine ⟨by simp, fun u m => ?_⟩; simp at m; done) | (cases e; refine ⟨by simp, fun u m => ?_⟩; simp at m; first | (subst m; intro e; cases e) | (rcases m with rfl | rfl <;> intro e <;> cases e)) | cases e⟩, H'⟩
theorem bytes_ok {h : W} {most : Int} (m0 : 0 ≤ most) (m1 : most ≤ 1000000) (H : Hand h) : ∃ ws h', dBytes [h, .int most] = .ok (.tup ws) [h'] ∧ (ws.length : Int) ≤ most ∧ (∀ u ∈ ws, inB 0 255 u = true) ∧ Hand h' := by
  obtain ⟨r, h', e, r0, r1, H'⟩ := take_env H (m := most + 1) (by omega) (by omega)
  unfold dBytes bBytes
  rw [fdef_e]
  obtain ⟨e', h1, h2, ws, sl, rfl, K, hl, hb⟩ := forL_rng (t := .nm 3) (f := (sApp 2 (fE (fCall [true, false] dPick (fCons (fV 0) (fCons (fE (fLst (fCons (fC (.int 0)) (fCons (fC (.int 1)) (fCons (fC (.int 2)) (fCons (fC (.int 3)) (fCons (fC (.int 127)) (fCons (fC (.int 128)) (fCons (fC (.int 129)) (fCons (fC (.int 255)) (fCons (fE (fCall [true, false] dTake (fCons (fV 0) (fCons (fC (.int 256)) fNil)))) (fCons (fE (fCall [true, false] dTake (fCons (fV 0) (fCons (fC (.int 256)) fNil)))) fNil)))))))))))) fNil))))))
    (P := fun (n : Nat) env => ∃ h ws sl, env = [.own h, .dat (.int most), .own (.lst ws), sl] ∧ Hand h ∧ ws.length = n ∧ ∀ u ∈ ws, inB 0 255 u = true)
    (lo := 0) (hi := r) (env := [.own h', .dat (.int most), .own (.lst []), .no]) ⟨_, _, _, rfl, H', by simp, by simp⟩ (fun i hi env p => by
      obtain ⟨h, ws, sl, rfl, K, hl, hb⟩ := p
      obtain ⟨r1, h1, e1, r10, r11, K⟩ := take_env K (m := 256) (by omega) (by omega)
      obtain ⟨r2, h2, e2, r20, r21, K⟩ := take_env K (m := 256) (by omega) (by omega)
      obtain ⟨w3, h3, e3, m3, K⟩ := pick_ok K (ws := [.int 0, .int 1, .int 2, .int 3, .int 127, .int 128, .int 129, .int 255, .int r1, .int r2]) (by simp) (by simp)
      have hb3 : inB 0 255 w3 = true := by
        simp at m3
        rcases m3 with rfl | rfl | rfl | rfl | rfl | rfl | rfl | rfl | rfl | rfl <;> simp [inB] <;> omega
      subst hl
      simp [turn, e1, e2, e3, show ws.length < 16777216 by omega, K]
      refine ⟨_, _, ⟨rfl, rfl⟩, K, by simp, fun u m => ?_⟩
      rcases List.mem_append.1 m with m | m
      · exact hb u m
      · rw [List.mem_singleton.1 m]; exact hb3)
  simp [e, show smallI r = true by unfold smallI; simp; omega, h1]
  exact ⟨_, _, ⟨rfl, rfl⟩, by omega, hb, K⟩
theorem krow_bytes {ws : List W} (hl : ws.length ≤ 16777216) (hb : ∀ u ∈ ws, inB 0 255 u = true) : KRow (.tup ws) := ⟨kn_tup, fun vs e => by cases e; exact ⟨hl, fun u m => byte_kn (hb u m)⟩⟩
theorem mul_one {w : W} {n : Nat} (h : n ≤ 16777216) : gMul (.tup [w]) (.int n) = some (.v (.tup (List.replicate n w))) := by
  show (if 0 ≤ (n : Int) ∧ (n : Int) * (([w] : List W).length : Nat) ≤ 16777216 ∧ (n : Int) < 16777217 then some (OV.v (W.tup (List.replicate (n : Int).toNat [w]).flatten)) else none) = _
  rw [if_pos (by rw [List.length_singleton]; omega), Int.toNat_natCast, List.flatten_replicate_singleton]
theorem inB_nn {w : W} (h : inB 0 255 w = true) : ∃ b, w = .int b ∧ 0 ≤ b ∧ b < 256 := by
  cases w with
  | int b =>
    have h : (decide (0 ≤ b) && decide (b ≤ 255)) = true := h
    rw [Bool.and_eq_true_iff] at h
    exact ⟨b, rfl, of_decide_eq_true h.1, by have := of_decide_eq_true h.2; omega⟩
  | _ => cases h
end BV

set_option maxRecDepth 100000
set_option maxHeartbeats 4000000
/-! BV: loops that may break or return. -/
namespace BV
open PySem L2
/-- what a turn may end in: on, out of the loop, out of the def -/
def SR.Go (r : SR) (P B : Ev → Prop) (R : W → Ev → Prop) : Prop := match r with
  | .nx e => P e
  | .ct e => P e
  | .bk e => B e
  | .rt w e => R w e
  | _ => False
section
variable {P B : Ev → Prop} {R : W → Ev → Prop} {e : Ev} {w : W}
@[simp] theorem Go_nx : (SR.nx e).Go P B R = P e := (rfl)
@[simp] theorem Go_ct : (SR.ct e).Go P B R = P e := (rfl)
@[simp] theorem Go_bk : (SR.bk e).Go P B R = B e := (rfl)
@[simp] theorem Go_rt : (SR.rt w e).Go P B R = R w e := (rfl)
end
section
variable {t : Tg} {f : SF} {P : Nat → Ev → Prop} {B : Ev → Prop} {R : W → Ev → Prop}
theorem forL_gen {ws : List W} {env : Ev} (p : P 0 env) (H : ∀ i (h : i < ws.length) env, P i env → (turn t f ws[i] env).Go (P (i + 1)) B R) :
    (∃ e, forL t f ws env = .nx e ∧ (B e ∨ P ws.length e)) ∨ ∃ w e, forL t f ws env = .rt w e ∧ R w e := by
  suffices K : ∀ (us : List W) (k : Nat) (env : Ev), ws.drop k = us → k + us.length = ws.length → P k env → (∃ e, forL t f us env = .nx e ∧ (B e ∨ P ws.length e)) ∨ ∃ w e, forL t f us env = .rt w e ∧ R w e from K ws 0 env rfl (by omega) p
  intro us
  induction us with
  | nil =>
    intro k env _ hk p
    have hk : k = ws.length := by simpa using hk
    exact .inl ⟨env, rfl, .inr (hk ▸ p)⟩
  | cons u us ih =>
    intro k env hd hk p
    rw [List.length_cons] at hk
    have hlt : k < ws.length := by omega
    rw [List.drop_eq_getElem_cons hlt] at hd
    injection hd with hd1 hd2
    have h := H k hlt env p
    rw [hd1] at h
    have step : forL t f (u :: us) env = match turn t f u env with | .nx e => forL t f us e | .ct e => forL t f us e | .bk e => .nx e | r => r := by
      show (match bindT t u env with | none => SR.bad | some env1 => match f env1 with | .nx e => forL t f us e | .ct e => forL t f us e | .bk e => .nx e | r => r) = _
      unfold turn
      cases bindT t u env <;> rfl
    rw [step]
    generalize turn t f u env = r at h ⊢
    cases r with
    | nx e => exact ih (k + 1) e hd2 (by omega) h
    | ct e => exact ih (k + 1) e hd2 (by omega) h
    | bk e => exact .inl ⟨e, rfl, .inl h⟩
    | rt w e => exact .inr ⟨w, e, rfl, h⟩
    | _ => exact h.elim
theorem forL_rngG {lo hi : Int} {env : Ev} (p : P 0 env) (H : ∀ i : Nat, lo + i < hi → ∀ env, P i env → (turn t f (.int (lo + i)) env).Go (P (i + 1)) B R) :
    (∃ e, forL t f (rangeW lo hi) env = .nx e ∧ (B e ∨ P (hi - lo).toNat e)) ∨ ∃ w e, forL t f (rangeW lo hi) env = .rt w e ∧ R w e := by
  have hl : (rangeW lo hi).length = (hi - lo).toNat := by unfold rangeW; simp
  have := forL_gen (t := t) (f := f) (P := P) (B := B) (R := R) (ws := rangeW lo hi) p (fun i h env p => by
    have e : (rangeW lo hi)[i] = .int (lo + i) := by
      have q : (rangeW lo hi)[i]? = some (.int (lo + i)) := by
        unfold rangeW
        rw [List.getElem?_map, List.getElem?_range (by omega)]
        rfl
      rw [List.getElem?_eq_getElem h] at q
      exact Option.some.inj q
    rw [e]
    exact H i (by omega) env p)
  rw [hl] at this
  exact this
end
/-! numbers as rows, seven bits a byte -/
/-- the figures of n, at most k + 1 of them -/
def figI : Nat → Int → List W
  | 0, n => [.int n]
  | k + 1, n => if n < 128 then [.int n] else .int (n % 128 + 128) :: figI k (n / 128)
theorem figI_small {k : Nat} {n : Int} (h : n < 128) : figI k n = [.int n] := by
  cases k with
  | zero => rfl
  | succ k => exact if_pos h
theorem figI_len : ∀ {k : Nat} {n : Int}, 1 ≤ (figI k n).length ∧ (figI k n).length ≤ k + 1
  | 0, n => by simp [figI]
  | k + 1, n => by
    unfold figI
    have := figI_len (k := k) (n := n / 128)
    split <;> simp <;> omega
theorem figI_bytes : ∀ {k : Nat} {n : Int}, 0 ≤ n → n < 128 ^ (k + 1) → ∀ u ∈ figI k n, inB 0 255 u = true
  | 0, n, h0, h1, u, m => by
    unfold figI at m
    rw [List.mem_singleton.1 m]
    simp [inB]
    omega
  | k + 1, n, h0, h1, u, m => by
    unfold figI at m
    by_cases c : n < 128
    · rw [if_pos c] at m
      rw [List.mem_singleton.1 m]
      simp [inB]
      omega
    · rw [if_neg c] at m
      rcases List.mem_cons.1 m with rfl | m
      · simp [inB]
        omega
      · refine figI_bytes (by omega) ?_ u m
        rw [Int.pow_succ] at h1
        exact Int.ediv_lt_of_lt_mul (by omega) h1
/-- the number that stands in a row at a place: at most k figures; the reading began at at0 -/
def numA (at0 : Int) : Nat → List W → Int → Int → Int → W
  | 0, _, _, _, _ => .non
  | k + 1, .int b :: r, place, found, worth =>
    if b < 128 then (if (b = 0 ∧ at0 < place) ∨ 18446744073709551616 ≤ found + b % 128 * worth then .non else .tup [.int (found + b % 128 * worth), .int (place + 1)])
    else numA at0 k r (place + 1) (found + b % 128 * worth) (worth * 128)
  | _ + 1, _, _, _, _ => .non
theorem numA_fig {at0 : Int} {post : List W} : ∀ {j k : Nat} {n place found worth : Int}, j + 1 ≤ k → 0 ≤ n → n < 128 ^ (j + 1) → (at0 < place → n ≠ 0) → found + n * worth < 18446744073709551616 →
    numA at0 k (figI j n ++ post) place found worth = .tup [.int (found + n * worth), .int (place + ((figI j n).length : Nat))]
  | j, 0, _, _, _, _, h, _, _, _, _ => by omega
  | 0, k + 1, n, place, found, worth, h, h0, h1, h2, h3 => by
    have h1 : n < 128 := by simpa using h1
    have e : n % 128 = n := Int.emod_eq_of_lt h0 h1
    show (if n < 128 then _ else _) = _
    rw [if_pos h1, e, if_neg (by intro z; rcases z with ⟨z1, z2⟩ | z; exact h2 z2 z1; omega)]
    rfl
  | j + 1, k + 1, n, place, found, worth, h, h0, h1, h2, h3 => by
    by_cases c : n < 128
    · have e : n % 128 = n := Int.emod_eq_of_lt h0 c
      rw [figI_small c]
      show (if n < 128 then _ else _) = _
      rw [if_pos c, e, if_neg (by intro z; rcases z with ⟨z1, z2⟩ | z; exact h2 z2 z1; omega)]
      rfl
    · have e : figI (j + 1) n = .int (n % 128 + 128) :: figI j (n / 128) := if_neg c
      rw [e]
      show (if n % 128 + 128 < 128 then _ else numA at0 k (figI j (n / 128) ++ post) (place + 1) (found + (n % 128 + 128) % 128 * worth) (worth * 128)) = _
      rw [if_neg (by omega), show (n % 128 + 128) % 128 = n % 128 by omega]
      have key : found + n % 128 * worth + n / 128 * (worth * 128) = found + n * worth := by
        have q : n = 128 * (n / 128) + n % 128 := by omega
        generalize n / 128 = a at q
        generalize n % 128 = b at q
        subst q
        rw [Int.add_mul, Int.mul_assoc, ← Int.mul_assoc a worth 128, Int.mul_comm (a * worth) 128]
        omega
      rw [numA_fig (j := j) (k := k) (by omega) (by omega) (by rw [Int.pow_succ] at h1; exact Int.ediv_lt_of_lt_mul (by omega) h1) (fun _ => by omega) (by rw [key]; exact h3), key, List.length_cons]
      have q : place + 1 + ((figI j (n / 128)).length : Int) = place + (((figI j (n / 128)).length + 1 : Nat) : Int) := by omega
      rw [q]
theorem numA_nil {at0 : Int} {k : Nat} {place found worth : Int} : numA at0 k [] place found worth = .non := by cases k <;> rfl
end BV

set_option maxRecDepth 100000
set_option maxHeartbeats 4000000
/-! BV: while loops that may return; equality of rows; reading numbers: bounds. -/
namespace BV
open PySem L2
theorem whileL_go {c : TF} {f : SF} {P : Nat → Ev → Prop} {Q : Ev → Prop} {R : W → Ev → Prop} (H : ∀ n env, P n env → (∃ e, c env = .ok false e ∧ Q e) ∨ ∃ e, c env = .ok true e ∧ ∃ m, n = m + 1 ∧ (f e).Go (P m) Q R) :
    ∀ {n N : Nat} {env : Ev}, n < N → P n env → (∃ e, whileL c f N env = .nx e ∧ Q e) ∨ ∃ w e, whileL c f N env = .rt w e ∧ R w e := by
  intro n
  induction n with
  | zero =>
    intro N env hN p
    obtain ⟨N, rfl⟩ : ∃ M, N = M + 1 := ⟨N - 1, by omega⟩
    rcases H 0 env p with ⟨e, h1, q⟩ | ⟨e, _, m, hm, _⟩
    · exact .inl ⟨e, by show (c env).andS _ = _; rw [h1]; rfl, q⟩
    · omega
  | succ n ih =>
    intro N env hN p
    obtain ⟨N, rfl⟩ : ∃ M, N = M + 1 := ⟨N - 1, by omega⟩
    have st : ∀ e, c env = .ok true e → whileL c f (N + 1) env = match f e with | .nx e => whileL c f N e | .ct e => whileL c f N e | .bk e => .nx e | r => r := fun e h1 => by
      show (c env).andS _ = _
      rw [h1]
      rfl
    rcases H (n + 1) env p with ⟨e, h1, q⟩ | ⟨e, h1, m, hm, h2⟩
    · exact .inl ⟨e, by show (c env).andS _ = _; rw [h1]; rfl, q⟩
    · obtain rfl : n = m := by omega
      rw [st e h1]
      generalize f e = r at h2
      cases r with
      | nx e2 => exact ih (N := N) (by omega) h2
      | ct e2 => exact ih (N := N) (by omega) h2
      | bk e2 => exact .inl ⟨e2, rfl, h2⟩
      | rt w e2 => exact .inr ⟨w, e2, rfl, h2⟩
      | _ => exact h2.elim
/-! reading a number: how far it goes -/
theorem numA_bounds {at0 : Int} : ∀ {k : Nat} {ws : List W} {p f v n q : Int}, (∀ u ∈ ws, inB 0 255 u = true) → 0 ≤ f → 0 ≤ v → numA at0 k ws p f v = .tup [.int n, .int q] → p < q ∧ q ≤ p + (ws.length : Nat) ∧ 0 ≤ n
  | 0, _, _, _, _, _, _, _, _, _, e => by cases e
  | k + 1, [], _, _, _, _, _, _, _, _, e => by cases e
  | k + 1, w :: ws, p, f, v, n, q, hb, hf, hv, e => by
    obtain ⟨b, rfl, b0, b1⟩ := inB_nn (hb w (List.mem_cons_self ..))
    have e : (if b < 128 then (if (b = 0 ∧ at0 < p) ∨ 18446744073709551616 ≤ f + b % 128 * v then W.non else .tup [.int (f + b % 128 * v), .int (p + 1)]) else numA at0 k ws (p + 1) (f + b % 128 * v) (v * 128)) = _ := e
    have nn : 0 ≤ b % 128 * v := Int.mul_nonneg (by omega) hv
    rw [List.length_cons]
    split at e
    · split at e
      · cases e
      · cases e
        omega
    · have := numA_bounds (fun u m => hb u (List.mem_cons_of_mem _ m)) (show 0 ≤ f + b % 128 * v by omega) (show 0 ≤ v * 128 by omega) e
      omega
/-! equal rows -/
theorem toPy_bytes : ∀ {ws : List W}, (∀ u ∈ ws, inB 0 255 u = true) → ∃ ds, toPys ws = some ds ∧ (∀ d ∈ ds, ∃ i, d = PyData.int i) ∧ ds.length = ws.length ∧ ws = ds.map (fun d => match d with | .int i => W.int i | _ => W.non)
  | [], _ => ⟨[], rfl, by simp, rfl, rfl⟩
  | w :: ws, h => by
    obtain ⟨ds, e, hd, hl, hm⟩ := toPy_bytes (ws := ws) fun u m => h u (List.mem_cons_of_mem _ m)
    obtain ⟨b, rfl, _, _⟩ := inB_nn (h w (List.mem_cons_self ..))
    refine ⟨.int b :: ds, by unfold toPys; rw [e]; rfl, ?_, by simp [hl], ?_⟩
    · intro d m
      rcases List.mem_cons.1 m with rfl | m
      · exact ⟨_, rfl⟩
      · exact hd d m
    · rw [List.map_cons, ← hm]
theorem lay_ints : ∀ {ds : List PyData}, (∀ d ∈ ds, ∃ i, d = PyData.int i) → PyData.canLayAll0 ds = true ∧ PyData.depthAll ds = 0
  | [], _ => ⟨rfl, rfl⟩
  | d :: ds, h => by
    obtain ⟨i, rfl⟩ := h d (List.mem_cons_self ..)
    obtain ⟨h1, h2⟩ := lay_ints fun d m => h d (List.mem_cons_of_mem _ m)
    exact ⟨by simp [PyData.canLayAll0, PyData.canLay0, h1], by simp [PyData.depthAll, PyData.depth, h2]⟩
theorem eqv_ints : ∀ {ds es : List PyData}, (∀ d ∈ ds, ∃ i, d = PyData.int i) → (∀ d ∈ es, ∃ i, d = PyData.int i) → (PyData.eqvAll ds es = true ↔ ds = es)
  | [], [], _, _ => by simp [PyData.eqvAll]
  | [], _ :: _, _, _ => by simp [PyData.eqvAll]
  | _ :: _, [], _, _ => by simp [PyData.eqvAll]
  | d :: ds, e :: es, h1, h2 => by
    obtain ⟨i, rfl⟩ := h1 d (List.mem_cons_self ..)
    obtain ⟨j, rfl⟩ := h2 e (List.mem_cons_self ..)
    have := eqv_ints (ds := ds) (es := es) (fun d m => h1 d (List.mem_cons_of_mem _ m)) (fun d m => h2 d (List.mem_cons_of_mem _ m))
    simp [PyData.eqvAll, PyData.eqv, this]
/-- a datum that may be compared: its form, its Python data -/
def Cmp (w : W) (d : PyData) : Prop := toPy w = some d ∧ PyData.canLay0 d = true ∧ PyData.depth d ≤ 60
theorem cmp_bytes {ws : List W} (h : ∀ u ∈ ws, inB 0 255 u = true) : ∃ ds, Cmp (.tup ws) (.tuple ds) ∧ (∀ d ∈ ds, ∃ i, d = PyData.int i) ∧ ws = ds.map (fun d => match d with | .int i => W.int i | _ => W.non) := by
  obtain ⟨ds, e, hd, hl, hm⟩ := toPy_bytes h
  obtain ⟨h1, h2⟩ := lay_ints hd
  exact ⟨ds, ⟨by unfold toPy; rw [e]; rfl, by simp [PyData.canLay0, h1], by simp [PyData.depth, h2]⟩, hd, hm⟩
theorem wEq_cmp {x y : W} {d e : PyData} (hx : Cmp x d) (hy : Cmp y e) : wEq x y = some (PyData.eqv d e) := by
  unfold wEq pyEq
  rw [hx.1, hy.1]
  show (if _ then _ else _) = _
  rw [if_pos ⟨by simp [SeqAt.shaped, hx.2.1]; have := hx.2.2; omega, by simp [SeqAt.shaped, hy.2.1]; have := hy.2.2; omega⟩]
theorem gEq_bytes {xs ys : List W} (hx : ∀ u ∈ xs, inB 0 255 u = true) (hy : ∀ u ∈ ys, inB 0 255 u = true) : ∃ b, gEq (.tup xs) (.tup ys) = some (.v (.bl b)) ∧ (b = true ↔ xs = ys) := by
  obtain ⟨ds, c1, h1, m1⟩ := cmp_bytes hx
  obtain ⟨es, c2, h2, m2⟩ := cmp_bytes hy
  refine ⟨PyData.eqv (.tuple ds) (.tuple es), by unfold gEq; rw [wEq_cmp c1 c2]; rfl, ?_⟩
  have e : PyData.eqv (.tuple ds) (.tuple es) = PyData.eqvAll ds es := by unfold PyData.eqv; rfl
  rw [e, eqv_ints h1 h2]
  constructor
  · intro q; rw [m1, m2, q]
  · intro q
    have t1 := c1.1
    rw [q, c2.1] at t1
    injection t1 with t1
    injection t1 with t1
    exact t1.symm
end BV

set_option maxRecDepth 100000
set_option maxHeartbeats 4000000
/-! BV: numbers as rows, written and read. -/
namespace BV
open PySem L2
def bFigures : SF :=
  (sSeq (sOwn 1 (fLst fNil))
  (sSeq (sSet 2 (fV 0))
  (sSeq (whileL (fTest (fOp gGe (fV 2) (fC (.int 128)))) (sSeq (sApp 1 (fE (fOp gAdd (fOp gMod (fV 2) (fC (.int 128))) (fC (.int 128)))))
  (sSet 2 (fOp gDiv (fV 2) (fC (.int 128))))) 100000)
  (sRet (fOp gAdd (fB gTuple (fCons (fV 1) fNil)) (fTup (fCons (fE (fV 2)) fNil)))))))
def dFigures : FnD := fdef 3 [false] bFigures
def bLFigures : SF :=
  (sSeq (sOwn 1 (fLst fNil))
  (sSeq (sFor (fRng1 (fC (.int 10))) (.nm 2) (sSeq (sIf (fTest (fOp gLt (fV 0) (fC (.int 128)))) sBreak sNext)
  (sSeq (sApp 1 (fE (fOp gAdd (fOp gMod (fB gInt (fCons (fV 0) fNil)) (fC (.int 128))) (fC (.int 128)))))
  (sSet 0 (fOp gDiv (fV 0) (fC (.int 128)))))))
  (sRet (fOp gAdd (fB gTuple (fCons (fV 1) fNil)) (fTup (fCons (fE (fV 0)) fNil))))))
def dLFigures : FnD := fdef 3 [false] bLFigures
def bNumberAt : SF :=
  (sSeq (sSet 2 (fC (.int 0)))
  (sSeq (sSet 3 (fC (.int 1)))
  (sSeq (sFor (fRng2 (fV 1) (fB gMin2 (fCons (fB gLen (fCons (fV 0) fNil)) (fCons (fOp gAdd (fV 1) (fC (.int 10))) fNil)))) (.nm 4) (sSeq (sAug 2 (gI fun i j => .int (i + j)) (fOp gMul (fOp gMod (fOp gIx (fV 0) (fV 4)) (fC (.int 128))) (fV 3)))
  (sSeq (sSet 3 (fOp gMul (fV 3) (fC (.int 128))))
  (sIf (fTest (fOp gLt (fOp gIx (fV 0) (fV 4)) (fC (.int 128)))) (sSeq (sSet 5 (fAndV (fOp gEq (fOp gIx (fV 0) (fV 4)) (fC (.int 0))) (fOp gGt (fV 4) (fV 1))))
  (sRet (fIf (fOr (fTest (fV 5)) (fTest (fOp gGe (fV 2) (fC (.int 18446744073709551616))))) (fC .non) (fTup (fCons (fE (fV 2)) (fCons (fE (fOp gAdd (fV 4) (fC (.int 1)))) fNil)))))) sNext))))
  (sRet (fC .non)))))
def dNumberAt : FnD := fdef 6 [false, false] bNumberAt
def bLNumberAt : SF :=
  (sSeq (sSet 2 (fC (.int 0)))
  (sSeq (sSet 3 (fC (.int 1)))
  (sSeq (sFor (fRng1 (fC (.int 10))) (.nm 4) (sSeq (sIf (fTest (fOp gGe (fOp gAdd (fV 1) (fV 4)) (fB gLen (fCons (fV 0) fNil)))) (sRet (fC .non)) sNext)
  (sSeq (sSet 5 (fOp gIx (fV 0) (fOp gAdd (fV 1) (fV 4))))
  (sSeq (sSet 2 (fOp gAdd (fV 2) (fOp gMul (fOp gMod (fB gInt (fCons (fV 5) fNil)) (fC (.int 128))) (fV 3))))
  (sSeq (sSet 3 (fOp gMul (fV 3) (fC (.int 128))))
  (sIf (fTest (fOp gLt (fV 5) (fC (.int 128)))) (sSeq (sIf (fOr (fAnd (fTest (fOp gGt (fV 4) (fC (.int 0)))) (fTest (fOp gEq (fV 5) (fC (.int 0))))) (fTest (fOp gGe (fV 2) (fOp gPow (fC (.int 2)) (fC (.int 64)))))) (sRet (fC .non)) sNext)
  (sRet (fTup (fCons (fE (fV 2)) (fCons (fE (fOp gAdd (fOp gAdd (fV 1) (fV 4)) (fC (.int 1)))) fNil))))) sNext))))))
  (sRet (fC .non)))))
def dLNumberAt : FnD := fdef 6 [false, false] bLNumberAt
theorem figures_ok {n : Int} (h0 : 0 ≤ n) (h1 : n < 128 ^ 11) : dFigures [.int n] = .ok (.tup (figI 10 n)) [] := by
  unfold dFigures bFigures
  rw [fdef_e]
  obtain ⟨e, hw, acc, left, rfl, q1, q2⟩ := whileL_meas (c := fTest (fOp gGe (fV 2) (fC (.int 128)))) (f := sSeq (sApp 1 (fE (fOp gAdd (fOp gMod (fV 2) (fC (.int 128))) (fC (.int 128))))) (sSet 2 (fOp gDiv (fV 2) (fC (.int 128)))))
    (P := fun m env => ∃ acc left, env = [.dat (.int n), .own (.lst acc), .dat (.int left)] ∧ acc ++ figI m left = figI 10 n ∧ acc.length + m ≤ 10 ∧ 0 ≤ left ∧ left < 128 ^ (m + 1))
    (Q := fun env => ∃ acc left, env = [.dat (.int n), .own (.lst acc), .dat (.int left)] ∧ acc ++ [.int left] = figI 10 n ∧ acc.length ≤ 10)
    (fun m env p => by
      obtain ⟨acc, left, rfl, q1, q2, q3, q4⟩ := p
      by_cases c : left < 128
      · refine .inl ⟨_, by simp [show ¬ 128 ≤ left by omega], acc, left, rfl, ?_, by omega⟩
        rw [← q1, figI_small c]
      · cases m with
        | zero => exact absurd q4 (by simpa using c)
        | succ m =>
          refine .inr ⟨[.dat (.int n), .own (.lst acc), .dat (.int left)], by simp [show 128 ≤ left by omega], m, rfl, ?_⟩
          simp [gMod_i, gDiv_i, show acc.length < 16777216 by omega]
          refine ⟨_, _, ⟨rfl, rfl⟩, ?_, by simp; omega, by omega, ?_⟩
          · rw [← q1, List.append_assoc]
            congr 1
            show _ = (if left < 128 then _ else _)
            rw [if_neg c]
            rfl
          · rw [Int.pow_succ] at q4
            exact Int.ediv_lt_of_lt_mul (by omega) q4) (n := 10) (N := 100000) (env := [.dat (.int n), .own (.lst []), .dat (.int n)]) (by omega) ⟨[], n, rfl, rfl, by simp, h0, h1⟩
  simp [hw, gAdd_t, show acc.length + 1 ≤ 16777216 by omega, q1]
theorem lfigures_ok {n : Int} (h0 : 0 ≤ n) (h1 : n < 128 ^ 11) : dLFigures [.int n] = .ok (.tup (figI 10 n)) [] := by
  unfold dLFigures bLFigures
  rw [fdef_e]
  have G := forL_rngG (t := .nm 2) (f := sSeq (sIf (fTest (fOp gLt (fV 0) (fC (.int 128)))) sBreak sNext) (sSeq (sApp 1 (fE (fOp gAdd (fOp gMod (fB gInt (fCons (fV 0) fNil)) (fC (.int 128))) (fC (.int 128))))) (sSet 0 (fOp gDiv (fV 0) (fC (.int 128))))))
    (P := fun i env => ∃ acc left sl, env = [.dat (.int left), .own (.lst acc), sl] ∧ i ≤ 10 ∧ acc ++ figI (10 - i) left = figI 10 n ∧ acc.length = i ∧ 0 ≤ left ∧ left < 128 ^ (10 - i + 1))
    (B := fun env => ∃ acc left sl, env = [.dat (.int left), .own (.lst acc), sl] ∧ acc ++ [.int left] = figI 10 n ∧ acc.length ≤ 10) (R := fun _ _ => False) (lo := 0) (hi := 10) (env := [.dat (.int n), .own (.lst []), .no]) ⟨[], n, .no, rfl, by omega, rfl, rfl, h0, h1⟩
    (fun i hi env p => by
      obtain ⟨acc, left, sl, rfl, q0, q1, q2, q3, q4⟩ := p
      by_cases c : left < 128
      · simp [turn, c]
        refine ⟨_, _, ⟨rfl, rfl⟩, ?_, by omega⟩
        rw [← q1, figI_small c]
      · simp [turn, c, gMod_i, gDiv_i, show acc.length < 16777216 by omega]
        refine ⟨_, _, ⟨rfl, rfl⟩, by omega, ?_, by simp; omega, by omega, ?_⟩
        · rw [← q1, List.append_assoc]
          congr 1
          obtain ⟨k, hk⟩ : ∃ k, 10 - i = k + 1 := ⟨9 - i, by omega⟩
          rw [hk, show 9 - i = k by omega]
          show _ = (if left < 128 then _ else _)
          rw [if_neg c]
          rfl
        · obtain ⟨k, hk⟩ : ∃ k, 10 - i = k + 1 := ⟨9 - i, by omega⟩
          rw [hk, Int.pow_succ] at q4
          rw [show 9 - i = k by omega]
          exact Int.ediv_lt_of_lt_mul (by omega) q4)
  rcases G with ⟨e, hf, hb⟩ | ⟨_, _, _, z⟩
  · obtain ⟨acc, left, sl, rfl, q1, q2⟩ : ∃ acc left sl, e = [.dat (.int left), .own (.lst acc), sl] ∧ acc ++ [.int left] = figI 10 n ∧ acc.length ≤ 10 := by
      rcases hb with hb | ⟨acc, left, sl, e1, q0, q1, q2, q3, q4⟩
      · exact hb
      · exact ⟨acc, left, sl, e1, q1, by omega⟩
    simp [hf, smallI, gAdd_t, show acc.length + 1 ≤ 16777216 by omega, q1]
  · exact z.elim
theorem number_at_ok {ws : List W} {at' : Int} (hl : ws.length ≤ 300000) (hb : ∀ u ∈ ws, inB 0 255 u = true) (h0 : 0 ≤ at') (h1 : at' ≤ ws.length) : dNumberAt [.tup ws, .int at'] = .ok (numA at' 10 (ws.drop at'.toNat) at' 0 1) [] := by
  unfold dNumberAt bNumberAt
  rw [fdef_e]
  have G := forL_rngG (t := .nm 4) (f := (sSeq (sAug 2 (gI fun i j => .int (i + j)) (fOp gMul (fOp gMod (fOp gIx (fV 0) (fV 4)) (fC (.int 128))) (fV 3)))
      (sSeq (sSet 3 (fOp gMul (fV 3) (fC (.int 128))))
      (sIf (fTest (fOp gLt (fOp gIx (fV 0) (fV 4)) (fC (.int 128)))) (sSeq (sSet 5 (fAndV (fOp gEq (fOp gIx (fV 0) (fV 4)) (fC (.int 0))) (fOp gGt (fV 4) (fV 1))))
      (sRet (fIf (fOr (fTest (fV 5)) (fTest (fOp gGe (fV 2) (fC (.int 18446744073709551616))))) (fC .non) (fTup (fCons (fE (fV 2)) (fCons (fE (fOp gAdd (fV 4) (fC (.int 1)))) fNil)))))) sNext))))
    (P := fun i env => ∃ found worth s4 s5, env = [.dat (.tup ws), .dat (.int at'), .dat (.int found), .dat (.int worth), s4, s5] ∧ i ≤ 10 ∧ numA at' (10 - i) (ws.drop (at'.toNat + i)) (at' + i) found worth = numA at' 10 (ws.drop at'.toNat) at' 0 1)
    (B := fun _ => False) (R := fun w e => w = numA at' 10 (ws.drop at'.toNat) at' 0 1 ∧ e.length = 6) (lo := at') (hi := if at' + 10 < ws.length then at' + 10 else ws.length) (env := [.dat (.tup ws), .dat (.int at'), .dat (.int 0), .dat (.int 1), .no, .no])
    ⟨0, 1, .no, .no, rfl, by omega, by simp⟩
    (fun i hi env p => by
      obtain ⟨found, worth, s4, s5, rfl, q0, q1⟩ := p
      have hi2 : at' + i < ws.length ∧ i < 10 := by
        split at hi <;> omega
      have hlt : at'.toNat + i < ws.length := by omega
      obtain ⟨b, eb, b0, b1⟩ := inB_nn (hb ws[at'.toNat + i] (List.getElem_mem _))
      have hx : L2.atI ws (at' + i) = some (.int b) := by
        rw [atI_get ⟨by omega, hi2.1⟩, show (at' + (i : Int)).toNat = at'.toNat + i by omega, List.getElem?_eq_getElem hlt, eb]
      obtain ⟨k, hk⟩ : ∃ k, 10 - i = k + 1 := ⟨9 - i, by omega⟩
      rw [hk, List.drop_eq_getElem_cons hlt, eb] at q1
      have q1 : (if b < 128 then (if (b = 0 ∧ at' < at' + (i : Int)) ∨ 18446744073709551616 ≤ found + b % 128 * worth then W.non else .tup [.int (found + b % 128 * worth), .int (at' + (i : Int) + 1)])
        else numA at' k (ws.drop (at'.toNat + i + 1)) (at' + (i : Int) + 1) (found + b % 128 * worth) (worth * 128)) = _ := q1
      have hm : gMul (.int (b % 128)) (.int worth) = some (.v (.int (b % 128 * worth))) := gMul_l (by omega)
      have hm2 : gMul (.int worth) (.int 128) = some (.v (.int (worth * 128))) := gMul_r (by omega)
      obtain ⟨F, hF⟩ : ∃ F, found + b % 128 * worth = F := ⟨_, rfl⟩
      rw [hF] at q1
      have key : ∀ rest : SF, turn (.nm 4) (sSeq (sAug 2 (gI fun i j => .int (i + j)) (fOp gMul (fOp gMod (fOp gIx (fV 0) (fV 4)) (fC (.int 128))) (fV 3))) (sSeq (sSet 3 (fOp gMul (fV 3) (fC (.int 128)))) rest)) (.int (at' + i))
          [.dat (.tup ws), .dat (.int at'), .dat (.int found), .dat (.int worth), s4, s5] = rest [.dat (.tup ws), .dat (.int at'), .dat (.int F), .dat (.int (worth * 128)), .dat (.int (at' + i)), s5] := fun rest => by
        simp [turn, hx, gMod_i, hm, hm2, hF]
      rw [key]
      by_cases c : b < 128
      · rw [if_pos c] at q1
        have key2 : ∃ z : Bool, (z = true ↔ b = 0 ∧ at' < at' + (i : Int)) ∧ ∀ rest : SF, (sSeq (sSet 5 (fAndV (fOp gEq (fOp gIx (fV 0) (fV 4)) (fC (.int 0))) (fOp gGt (fV 4) (fV 1)))) rest) [.dat (.tup ws), .dat (.int at'), .dat (.int F), .dat (.int (worth * 128)), .dat (.int (at' + i)), s5]
            = rest [.dat (.tup ws), .dat (.int at'), .dat (.int F), .dat (.int (worth * 128)), .dat (.int (at' + i)), .dat (.bl z)] := by
          by_cases d : b = 0
          · exact ⟨decide (at' < at' + (i : Int)), by simp [d], fun rest => by simp [hx, d]⟩
          · exact ⟨false, by simp [d], fun rest => by simp [hx, d]⟩
        obtain ⟨z, hz, key2⟩ := key2
        simp only [sIf_e, fTest_e, fOp_e, fV_e, gq_zero, gq_succ, bind_ok, getOV_v, Option.bind_some, gIx_t, hx, Option.map_some, retOV_some, fC_e, gLt_i, c, decide_true, asB_bl, andS_ok, if_true, key2]
        by_cases d : 18446744073709551616 ≤ F
        · rw [if_pos (.inr d)] at q1
          cases z <;> simp [d, q1.symm]
        · cases z with
          | true =>
            rw [if_pos (.inl (hz.1 rfl))] at q1
            simp [q1.symm]
          | false =>
            rw [if_neg (fun q => by rcases q with q | q; exact Bool.noConfusion (hz.2 q); exact d q)] at q1
            simp [d, q1.symm]
      · rw [if_neg c] at q1
        simp [hx, c, b1]
        exact ⟨_, _, ⟨rfl, rfl⟩, by omega, by rw [show at'.toNat + (i + 1) = at'.toNat + i + 1 by omega, show 9 - i = k by omega, ← Int.add_assoc]; exact q1⟩)
  rcases G with ⟨e, hf, z | ⟨found, worth, s4, s5, rfl, q0, q1⟩⟩ | ⟨w, e, hf, rfl, _⟩
  · exact z.elim
  · have q2 : numA at' 10 (ws.drop at'.toNat) at' 0 1 = .non := by
      rw [← q1]
      generalize hn : ((if at' + 10 < (ws.length : Int) then at' + 10 else (ws.length : Int)) - at').toNat = n at q0
      by_cases c : n = 10
      · rw [c]; rfl
      · rw [List.drop_of_length_le (by split at hn <;> omega), numA_nil]
    have sm : smallI at' = true := by unfold smallI; simp; omega
    have sm2 : smallI (if at' + 10 < (ws.length : Int) then at' + 10 else (ws.length : Int)) = true := by unfold smallI; simp; split <;> omega
    simp [gMin2, sm, sm2, hf, q2]
  · have sm : smallI at' = true := by unfold smallI; simp; omega
    have sm2 : smallI (if at' + 10 < (ws.length : Int) then at' + 10 else (ws.length : Int)) = true := by unfold smallI; simp; split <;> omega
    simp [gMin2, sm, sm2, hf]
theorem lnumber_at_ok {ws : List W} {at' : Int} (hl : ws.length ≤ 300000) (hb : ∀ u ∈ ws, inB 0 255 u = true) (h0 : 0 ≤ at') (h1 : at' ≤ ws.length) : dLNumberAt [.tup ws, .int at'] = .ok (numA at' 10 (ws.drop at'.toNat) at' 0 1) [] := by
  unfold dLNumberAt bLNumberAt
  rw [fdef_e]
  have G := forL_rngG (t := .nm 4) (f := (sSeq (sIf (fTest (fOp gGe (fOp gAdd (fV 1) (fV 4)) (fB gLen (fCons (fV 0) fNil)))) (sRet (fC .non)) sNext)
      (sSeq (sSet 5 (fOp gIx (fV 0) (fOp gAdd (fV 1) (fV 4))))
      (sSeq (sSet 2 (fOp gAdd (fV 2) (fOp gMul (fOp gMod (fB gInt (fCons (fV 5) fNil)) (fC (.int 128))) (fV 3))))
      (sSeq (sSet 3 (fOp gMul (fV 3) (fC (.int 128))))
      (sIf (fTest (fOp gLt (fV 5) (fC (.int 128)))) (sSeq (sIf (fOr (fAnd (fTest (fOp gGt (fV 4) (fC (.int 0)))) (fTest (fOp gEq (fV 5) (fC (.int 0))))) (fTest (fOp gGe (fV 2) (fOp gPow (fC (.int 2)) (fC (.int 64)))))) (sRet (fC .non)) sNext)
      (sRet (fTup (fCons (fE (fV 2)) (fCons (fE (fOp gAdd (fOp gAdd (fV 1) (fV 4)) (fC (.int 1)))) fNil))))) sNext))))))
    (P := fun i env => ∃ found worth s4 s5, env = [.dat (.tup ws), .dat (.int at'), .dat (.int found), .dat (.int worth), s4, s5] ∧ i ≤ 10 ∧ numA at' (10 - i) (ws.drop (at'.toNat + i)) (at' + i) found worth = numA at' 10 (ws.drop at'.toNat) at' 0 1)
    (B := fun _ => False) (R := fun w e => w = numA at' 10 (ws.drop at'.toNat) at' 0 1 ∧ e.length = 6) (lo := 0) (hi := 10) (env := [.dat (.tup ws), .dat (.int at'), .dat (.int 0), .dat (.int 1), .no, .no])
    ⟨0, 1, .no, .no, rfl, by omega, by simp⟩
    (fun i hi env p => by
      obtain ⟨found, worth, s4, s5, rfl, q0, q1⟩ := p
      by_cases hlt : at'.toNat + i < ws.length
      · obtain ⟨b, eb, b0, b1⟩ := inB_nn (hb ws[at'.toNat + i] (List.getElem_mem _))
        have hx : L2.atI ws (at' + i) = some (.int b) := by
          rw [atI_get ⟨by omega, by omega⟩, show (at' + (i : Int)).toNat = at'.toNat + i by omega, List.getElem?_eq_getElem hlt, eb]
        obtain ⟨k, hk⟩ : ∃ k, 10 - i = k + 1 := ⟨9 - i, by omega⟩
        rw [hk, List.drop_eq_getElem_cons hlt, eb] at q1
        have q1 : (if b < 128 then (if (b = 0 ∧ at' < at' + (i : Int)) ∨ 18446744073709551616 ≤ found + b % 128 * worth then W.non else .tup [.int (found + b % 128 * worth), .int (at' + (i : Int) + 1)])
          else numA at' k (ws.drop (at'.toNat + i + 1)) (at' + (i : Int) + 1) (found + b % 128 * worth) (worth * 128)) = _ := q1
        have hm : gMul (.int (b % 128)) (.int worth) = some (.v (.int (b % 128 * worth))) := gMul_l (by omega)
        have hm2 : gMul (.int worth) (.int 128) = some (.v (.int (worth * 128))) := gMul_r (by omega)
        obtain ⟨F, hF⟩ : ∃ F, found + b % 128 * worth = F := ⟨_, rfl⟩
        rw [hF] at q1
        have hne : ¬ ((ws.length : Int) ≤ at' + (i : Int)) := by omega
        have key : ∀ rest : SF, turn (.nm 4) (sSeq (sIf (fTest (fOp gGe (fOp gAdd (fV 1) (fV 4)) (fB gLen (fCons (fV 0) fNil)))) (sRet (fC .non)) sNext)
            (sSeq (sSet 5 (fOp gIx (fV 0) (fOp gAdd (fV 1) (fV 4)))) (sSeq (sSet 2 (fOp gAdd (fV 2) (fOp gMul (fOp gMod (fB gInt (fCons (fV 5) fNil)) (fC (.int 128))) (fV 3)))) (sSeq (sSet 3 (fOp gMul (fV 3) (fC (.int 128)))) rest)))) (.int (0 + i))
            [.dat (.tup ws), .dat (.int at'), .dat (.int found), .dat (.int worth), s4, s5] = rest [.dat (.tup ws), .dat (.int at'), .dat (.int F), .dat (.int (worth * 128)), .dat (.int i), .dat (.int b)] := fun rest => by
          simp [turn, hx, gMod_i, hm, hm2, hF, hne]
        rw [key]
        by_cases c : b < 128
        · rw [if_pos c] at q1
          have hpw : gPow (.int 2) (.int 64) = some (.v (.int 18446744073709551616)) := by rw [gPow_i (by omega)]; rfl
          by_cases d : 18446744073709551616 ≤ F
          · rw [if_pos (.inr d)] at q1
            by_cases d1 : b = 0 <;> by_cases d2 : 0 < i <;> simp [c, d, d1, d2, hpw, q1.symm]
          · by_cases d1 : b = 0 ∧ at' < at' + (i : Int)
            · rw [if_pos (.inl d1)] at q1
              simp [c, d, d1.1, show 0 < i by omega, hpw, q1.symm]
            · rw [if_neg (by intro q; rcases q with q | q; exact d1 q; exact d q)] at q1
              by_cases d2 : b = 0
              · simp [c, d, d2, show ¬ 0 < i by omega, hpw, q1.symm]
              · by_cases d3 : 0 < i <;> simp [c, d, d2, d3, hpw, q1.symm]
        · rw [if_neg c] at q1
          simp [c]
          exact ⟨_, _, ⟨rfl, rfl⟩, by omega, by rw [show at'.toNat + (i + 1) = at'.toNat + i + 1 by omega, show 9 - i = k by omega, ← Int.add_assoc]; exact q1⟩
      · have hne : ((ws.length : Int) ≤ at' + (i : Int)) := by omega
        rw [List.drop_of_length_le (by omega), numA_nil] at q1
        simp [turn, hne, q1.symm])
  rcases G with ⟨e, hf, z | ⟨found, worth, s4, s5, rfl, q0, q1⟩⟩ | ⟨w, e, hf, rfl, _⟩
  · exact z.elim
  · have q2 : numA at' 10 (ws.drop at'.toNat) at' 0 1 = .non := by
      rw [← q1]
      rfl
    simp [hf, smallI, q2]
  · simp [hf, smallI]
def intW : W → Int
  | .int n => n
  | _ => 0
theorem inB_int {a b : Int} {w : W} (h : inB a b w = true) : ∃ n, w = .int n ∧ a ≤ n ∧ n ≤ b := by
  cases w with
  | int n =>
    have h : (decide (a ≤ n) && decide (n ≤ b)) = true := h
    rw [Bool.and_eq_true_iff] at h
    exact ⟨n, rfl, of_decide_eq_true h.1, of_decide_eq_true h.2⟩
  | _ => cases h
theorem numA_shape {at0 : Int} : ∀ {k : Nat} {ws : List W} {p f v : Int}, numA at0 k ws p f v = .non ∨ ∃ n q, numA at0 k ws p f v = .tup [.int n, .int q]
  | 0, _, _, _, _ => .inl rfl
  | k + 1, [], _, _, _ => .inl rfl
  | k + 1, w :: ws, p, f, v => by
    cases w with
    | int b =>
      unfold numA
      split
      · split
        · exact .inl rfl
        · exact .inr ⟨_, _, rfl⟩
      · exact numA_shape
    | _ => exact .inl rfl
theorem app_bytes {xs ys : List W} (hx : ∀ u ∈ xs, inB 0 255 u = true) (hy : ∀ u ∈ ys, inB 0 255 u = true) : ∀ u ∈ xs ++ ys, inB 0 255 u = true := fun u m => by
  rcases List.mem_append.1 m with m | m
  · exact hx u m
  · exact hy u m
theorem same_bytes {n : Nat} {ws : List W} (h : ∀ u ∈ ws, inB 0 255 u = true) : dSame (n + 2) [.tup ws, .tup ws] = .ok (.bl true) [] := same_tup fun w m => by
  obtain ⟨b, rfl, _, _⟩ := inB_nn (h w m)
  exact same_ii
theorem figI_stable : ∀ {k : Nat} {n : Int}, 0 ≤ n → n < 128 ^ (k + 1) → figI (k + 1) n = figI k n
  | 0, n, _, h => by rw [figI_small (by simpa using h), figI_small (by simpa using h)]
  | k + 1, n, h0, h => by
    by_cases c : n < 128
    · rw [figI_small c, figI_small c]
    · show (if n < 128 then _ else _) = (if n < 128 then _ else _)
      rw [if_neg c, if_neg c, figI_stable (by omega) (by rw [Int.pow_succ] at h; exact Int.ediv_lt_of_lt_mul (by omega) h)]
end BV

set_option maxRecDepth 100000
set_option maxHeartbeats 4000000
/-! BV: a slot's own list grows by a tuple's things. -/
namespace L2
open PySem PySem.Spec PyProof.Rows
theorem ext_tupS (a : Addr) (xs : Array Value) (m : Nat) (c : Addr) (ys : Array Value) (k : Nat) (dd : Option Addr) (sl : Array (Option Value))
    (h0 : ¬(!xs.isEmpty && Builtin.List.listTooLong (xs.size + ys.size)) = true)
    (h1 : xs.size ≤ sizeLine) (h2 : xs.size + ys.size ≤ sizeLine + 1) :
    Meets (Builtin.«list.extend» ⟨[.ref a, .ref c], []⟩) (fun _ R s =>
      s.heap.get? a = some { cls := .type "list", dict := none, data := .seq xs m, slots := #[] } ∧
      s.heap.get? c = some { cls := .type "tuple", dict := dd, data := .seq ys k, slots := sl } ∧
      R (.ok (.ret Value.none)) { s with heap := s.heap.update a (Obj.mapSeq fun z => z ++ ys), toks := s.toks }) :=
  .of_wp fun prog w A R s h => by
    obtain ⟨hp, g, d, tk, os⟩ := s
    obtain ⟨hl, hb, h⟩ := h
    have f1 := AutoSeq1.idx_int
    have f2 := AutoSeq1.sub_tuple_tuple
    have f3 := AutoSeq1.sub_list_list
    have f4 := AutoSeq1.sub_tuple_list
    have f5 := AutoSeq1.sub_list_tuple
    have h3 : (xs ++ ys).size ≤ sizeLine + 1 := by
      rw [Array.size_append]
      exact h2
    wp_walk using (wpAny_updateSeq hl rfl (hz := h1) (_hz' := h3)), wpAny_loadPart' hl, wpAny_loadPart' hb
    exact ⟨_, rfl, h⟩
def rExtT (K : PySem.W.Frag) : V → List V → Hp → VK → Prop := fun x vs H Q =>
  ∃ a c xs ys, x = .ref a ∧ vs = [.ref c] ∧ H a = some (.lst xs) ∧ SqT K H c ys ∧ xs.length + ys.length ≤ sizeLine ∧
    Q .non (upd H a (.lst (xs ++ ys)))
theorem mt_extT {X : Cx} : MtM X "list.extend" (rExtT X.K) := by
  intro pins s σ H x vs v us Q I rx rv h
  obtain ⟨a, c, xs, ys, rfl, rfl, hH, hT, hz, q⟩ := h
  cases rx
  obtain ⟨u, rfl, ru⟩ := rv.one
  cases ru
  obtain ⟨z, its, n, r, hl, e⟩ := I.lstM hH
  obtain ⟨jts, r2, ⟨⟨cls, dd, data, sl⟩, ho, hc, k, hd⟩, hs⟩ := I.tuple hT
  simp only at hc hd
  subst hc hd
  have l2 : jts.length = ys.length := r2.length.symm
  have hsz : its.toArray.size + jts.toArray.size ≤ sizeLine := by
    rw [List.size_toArray, List.size_toArray]
    omega
  have hlong : ¬ (!its.toArray.isEmpty && Builtin.List.listTooLong (its.toArray.size + jts.toArray.size)) = true := by
    have : Builtin.List.listTooLong (its.toArray.size + jts.toArray.size) = false := by
      unfold Builtin.List.listTooLong
      exact decide_eq_false (by omega)
    rw [this, Bool.and_false]
    exact Bool.false_ne_true
  have g1 : its.toArray.size ≤ sizeLine := by omega
  refine call_meets F.slot_list_extend ⟨_, e, rfl⟩ F.entry_list_extend (F.args_list_extend_2 _ _)
    (ext_tupS a its.toArray n c jts.toArray k dd sl hlong g1 (by omega)) ⟨e, ho, ?_⟩
  refine ⟨.non, _, I.lset (its' := its ++ jts) hH e (by simp) (r.append r2) ?_, rfl, q⟩
  rw [List.length_append]
  omega
end L2
namespace BV
open PySem PySem.Spec PyProof.Rows L2
def sExtT (i : Nat) (f : EF) : SF := fun env => match ownL env i with
  | none => .bad
  | some _ => (fE f env).andS fun ov env => match ov with
    | .v (.tup us) => (match ownL env i with
      | some ws => if ws.length + us.length ≤ 16777216 then .nx (env.set i (.own (.lst (ws ++ us)))) else .bad
      | none => .bad)
    | _ => .bad
section
variable {X : Cx} {ci : Nat → Addr} {BS : List Nat} {e e2 : Expr} {f fi g : EF} {pos p1 p2 p3 : Pos}
theorem s_extT (i : Nat) {x : Str} (he : SndE X ci BS e f) (hN : X.N[i]? = some x := by rfl) (hv : Vis X.env.scope x := by first | exact Or.inl rfl | exact Or.inr (Or.inl rfl) | exact Or.inr (Or.inr rfl)) (hd : (x == ("__debug__" : Str)) = false := by decide)
    (hcd : (x == ("__classdict__" : Str)) = false := by decide) (hbase : attributeBase (.Name x p1) "extend" X.env (eval (.Name x p1) X.env) = eval (.Name x p1) X.env := by rfl)
    (hfew : ((backTo p3 (starEach [e] X.env)).all (fun x => !x.1) && (backToKw p3 (keywordEach [] X.env)).all (fun x => x.1.isSome) && decide ([e].length + ([] : List Keyword).length + (if ([] : List Keyword).isEmpty then 0 else 1) < 30)) = true := by rfl)
    (hline : (p2.endLine == p3.line) = true := by rfl) (hst : starEach [e] X.env = (false, eval e X.env) :: starEach [] X.env := by rfl) (hplain : (backTo p3 (starEach [] X.env)).any (·.1) = false := by rfl)
    (hs : swapsWith (.Call (.Attribute (.Name x p1) "extend" p2) [e] [] p3) none pos.line X.env = pure false := by rfl) : SndS X ci BS (.Expr (.Call (.Attribute (.Name x p1) "extend" p2) [e] [] p3) pos) (sExtT i f) := by
  obtain ⟨t, p, q⟩ := (x_esc he).ex
  refine ⟨⟨fun W' => tDrop (tBM X.K "list" (rExtT X.K) (tVar i) (tCons (t W') tNil)), fun W' tk => ps_expr (pe_bm PySem.F.plainAttrs_list PySem.F.slot_list_extend PySem.F.type_list_extend mt_extT (pe_var hN hv hd hcd) (pa_cons (p W' tk) pa_nil hst) hbase hfew hline hst hplain) hs, fun W' s D ok h => ?_⟩⟩
  unfold sExtT at h
  cases e0 : ownL s.env i with
  | none => rw [e0] at h; exact h.elim
  | some ws0 =>
    rw [e0] at h
    obtain ⟨a, vs0, h1, h2, _, _⟩ := ownL_at ok e0
    refine ⟨.ref a, h1, .inl ⟨rfl, vs0, .inl (.inl h2)⟩, ?_⟩
    refine q W' s _ ok (h.andS.imp fun ov env1 G1 H1 st1 ok1 h1' => ?_)
    intro v rep new
    cases ov with
    | v w =>
      cases w with
      | tup us =>
        dsimp only at h1'
        cases e1 : ownL env1 i with
        | none => rw [e1] at h1'; exact h1'.elim
        | some ws =>
          rw [e1] at h1'
          dsimp only at h1'
          obtain ⟨b, vs, k1, k2, k3, k4⟩ := ownL_at (s := ⟨env1, s.σ, G1, H1⟩) ok1 e1
          have eb : s.σ[i]? = some (some (.ref b)) := k1
          rw [h1] at eb
          cases eb
          cases rep with
          | @tup c zs _ hc rc =>
            by_cases hz : ws.length + us.length ≤ 16777216
            · rw [if_pos hz] at h1'
              obtain ⟨st2, ok2⟩ := upd_own (BS := BS) (s := ⟨env1, s.σ, G1, H1⟩) (o := .lst (vs ++ zs)) (w' := .lst (ws ++ us)) ok1 k4 k1 (.lst upd_same (k3.append rc))
              exact ⟨a, c, vs, zs, rfl, rfl, k2, sqT_mono ok1.sub hc, by rw [sizeLine_eq, k3.length, rc.length]; exact hz, h1' _ _ _ st2 ok2⟩
            · rw [if_neg hz] at h1'
              exact h1'.elim
      | _ => exact h1'.elim
    | _ => exact h1'.elim
@[simp] theorem sExtT_e {k : Nat} {env : Ev} {f : EF} : sExtT k f env = match ownL env k with | none => .bad | some _ => (fE f env).andS fun ov env => match ov with | .v (.tup us) => (match ownL env k with | some ws => if ws.length + us.length ≤ 16777216 then .nx (env.set k (.own (.lst (ws ++ us)))) else .bad | none => .bad) | _ => .bad := (rfl)
end
end BV

set_option maxRecDepth 100000
namespace K26
open PySem BV
def tst_BadChange : Nat → Option Bool := fun n => if n = 1 then some false else if n = 2 then some true else none
def tst_NoRow : Nat → Option Bool := fun n => if n = 1 then some true else if n = 2 then some false else none
noncomputable def b_is_integer : SF :=
  (sRet (fAndV (fB (gIsi tInt) (fCons (fV 0) fNil)) (fNotV (fB (gIsi (tOne "bool")) (fCons (fV 0) fNil)))))
noncomputable def d_is_integer : FnD := fdef 1 [false] b_is_integer
noncomputable def b_figures_of : SF :=
  (sSeq (sOwn 1 (fLst fNil))
  (sSeq (sSet 2 (fV 0))
  (sSeq (whileL (fTest (fOp gGe (fV 2) (fC (.int 128)))) (sSeq (sApp 1 (fE (fOp gAdd (fOp gMod (fV 2) (fC (.int 128))) (fC (.int 128)))))
  (sSet 2 (fOp gDiv (fV 2) (fC (.int 128))))) 100000)
  (sRet (fOp gAdd (fB gTuple (fCons (fV 1) fNil)) (fTup (fCons (fE (fV 2)) fNil)))))))
noncomputable def d_figures_of : FnD := fdef 3 [false] b_figures_of
noncomputable def b_number_at : SF :=
  (sSeq (sSet 2 (fC (.int 0)))
  (sSeq (sSet 3 (fC (.int 1)))
  (sSeq (sFor (fRng2 (fV 1) (fB gMin2 (fCons (fB gLen (fCons (fV 0) fNil)) (fCons (fOp gAdd (fV 1) (fC (.int 10))) fNil)))) (.nm 4) (sSeq (sAug 2 (gI fun i j => .int (i + j)) (fOp gMul (fOp gMod (fOp gIx (fV 0) (fV 4)) (fC (.int 128))) (fV 3)))
  (sSeq (sSet 3 (fOp gMul (fV 3) (fC (.int 128))))
  (sIf (fTest (fOp gLt (fOp gIx (fV 0) (fV 4)) (fC (.int 128)))) (sSeq (sSet 5 (fAndV (fOp gEq (fOp gIx (fV 0) (fV 4)) (fC (.int 0))) (fOp gGt (fV 4) (fV 1))))
  (sRet (fIf (fOr (fTest (fV 5)) (fTest (fOp gGe (fV 2) (fC (.int 18446744073709551616))))) (fC .non) (fTup (fCons (fE (fV 2)) (fCons (fE (fOp gAdd (fV 4) (fC (.int 1)))) fNil)))))) sNext))))
  (sRet (fC .non)))))
noncomputable def d_number_at : FnD := fdef 6 [false, false] b_number_at
noncomputable def b_common_begin : SF :=
  (sSeq (sSet 2 (fC (.int 0)))
  (sSeq (whileL (fAnd (fTest (fOp gLt (fV 2) (fB gMin2 (fCons (fB gLen (fCons (fV 0) fNil)) (fCons (fB gLen (fCons (fV 1) fNil)) fNil))))) (fTest (fOp gEq (fOp gIx (fV 0) (fV 2)) (fOp gIx (fV 1) (fV 2))))) (sAug 2 (gI fun i j => .int (i + j)) (fC (.int 1))) 100000)
  (sRet (fV 2))))
noncomputable def d_common_begin : FnD := fdef 3 [false, false] b_common_begin
noncomputable def b_common_end : SF :=
  (sSeq (sSet 3 (fC (.int 0)))
  (sSeq (whileL (fAnd (fTest (fOp gLt (fV 3) (fV 2))) (fTest (fOp gEq (fOp gIx (fV 0) (fOp gSub (fOp gSub (fB gLen (fCons (fV 0) fNil)) (fC (.int 1))) (fV 3))) (fOp gIx (fV 1) (fOp gSub (fOp gSub (fB gLen (fCons (fV 1) fNil)) (fC (.int 1))) (fV 3)))))) (sAug 3 (gI fun i j => .int (i + j)) (fC (.int 1))) 100000)
  (sRet (fV 3))))
noncomputable def d_common_end : FnD := fdef 4 [false, false, false] b_common_end
noncomputable def b__law_hand : SF :=
  (sRetNew (fLst (fCons (fE (fB gList (fCons (fV 0) fNil))) (fCons (fC (.int 0)) (fCons (fC (.int 0)) (fCons (fC (.int 1)) (fCons (fC (.int 0)) fNil)))))))
noncomputable def d__law_hand : FnD := fdef 1 [false] b__law_hand
noncomputable def b__law_take : SF :=
  (sSeq (sSetIx 0 (fC (.int 4)) (fOp gAdd (fOp gIx (fV 0) (fC (.int 4))) (fC (.int 1))))
  (sSeq (sIf (fAnd (fTest (fOp gEq (fOp gIx (fV 0) (fC (.int 2))) (fC (.int 0)))) (fTest (fOp gLt (fOp gIx (fV 0) (fC (.int 1))) (fB gLen (fCons (fOp gIx (fV 0) (fC (.int 0))) fNil))))) (sSeq (sSet 2 (fB gInt (fCons (fOp gIx (fOp gIx (fV 0) (fC (.int 0))) (fOp gIx (fV 0) (fC (.int 1)))) fNil)))
  (sSeq (sSetIx 0 (fC (.int 1)) (fOp gAdd (fOp gIx (fV 0) (fC (.int 1))) (fC (.int 1))))
  (sIf (fTest (fOp gGe (fV 2) (fOp gPow (fC (.int 10)) (fC (.int 18))))) (sSetIx 0 (fC (.int 2)) (fV 2)) (sSetIx 0 (fC (.int 3)) (fOp gMod (fB gInt (fCons (fOp gAdd (fOp gAdd (fOp gMul (fOp gIx (fV 0) (fC (.int 3))) (fC (.int 48271))) (fOp gMod (fB gInt (fCons (fV 2) fNil)) (fC (.int 2147483647)))) (fC (.int 1))) fNil)) (fC (.int 2147483647))))))) sNext)
  (sSeq (sIf (fTest (fOp gGt (fOp gIx (fV 0) (fC (.int 2))) (fC (.int 0)))) (sSeq (sSet 3 (fOp gMod (fB gInt (fCons (fOp gIx (fV 0) (fC (.int 2))) fNil)) (fV 1)))
  (sSeq (sSetIx 0 (fC (.int 2)) (fOp gDiv (fB gInt (fCons (fOp gIx (fV 0) (fC (.int 2))) fNil)) (fV 1)))
  (sRet (fV 3)))) sNext)
  (sSeq (sSetIx 0 (fC (.int 3)) (fOp gMod (fB gInt (fCons (fOp gAdd (fOp gMul (fOp gIx (fV 0) (fC (.int 3))) (fC (.int 69621))) (fOp gMul (fC (.int 7919)) (fOp gIx (fV 0) (fC (.int 4))))) fNil)) (fC (.int 2147483647))))
  (sSeq (sSet 4 (fOp gMod (fB gInt (fCons (fOp gMul (fOp gIx (fV 0) (fC (.int 3))) (fOp gAdd (fOp gDiv (fOp gIx (fV 0) (fC (.int 3))) (fC (.int 1009))) (fC (.int 69621)))) fNil)) (fC (.int 2147483647))))
  (sSeq (sSet 4 (fOp gMod (fB gInt (fCons (fOp gMul (fV 4) (fOp gAdd (fOp gDiv (fV 4) (fC (.int 2003))) (fC (.int 40692)))) fNil)) (fC (.int 2147483399))))
  (sRet (fOp gMod (fB gInt (fCons (fOp gDiv (fV 4) (fC (.int 16))) fNil)) (fV 1)))))))))
noncomputable def d__law_take : FnD := fdef 5 [true, false] b__law_take
noncomputable def b__law_is_integer : SF :=
  (sRet (fAndV (fB (gIsi tInt) (fCons (fV 0) fNil)) (fNotV (fB (gIsi (tOne "bool")) (fCons (fV 0) fNil)))))
noncomputable def d__law_is_integer : FnD := fdef 1 [false] b__law_is_integer
noncomputable def b__law_figures : SF :=
  (sSeq (sOwn 1 (fLst fNil))
  (sSeq (sFor (fRng1 (fC (.int 10))) (.nm 2) (sSeq (sIf (fTest (fOp gLt (fV 0) (fC (.int 128)))) sBreak sNext)
  (sSeq (sApp 1 (fE (fOp gAdd (fOp gMod (fB gInt (fCons (fV 0) fNil)) (fC (.int 128))) (fC (.int 128)))))
  (sSet 0 (fOp gDiv (fV 0) (fC (.int 128)))))))
  (sRet (fOp gAdd (fB gTuple (fCons (fV 1) fNil)) (fTup (fCons (fE (fV 0)) fNil))))))
noncomputable def d__law_figures : FnD := fdef 3 [false] b__law_figures
noncomputable def b__law_number_at : SF :=
  (sSeq (sSet 2 (fC (.int 0)))
  (sSeq (sSet 3 (fC (.int 1)))
  (sSeq (sFor (fRng1 (fC (.int 10))) (.nm 4) (sSeq (sIf (fTest (fOp gGe (fOp gAdd (fV 1) (fV 4)) (fB gLen (fCons (fV 0) fNil)))) (sRet (fC .non)) sNext)
  (sSeq (sSet 5 (fOp gIx (fV 0) (fOp gAdd (fV 1) (fV 4))))
  (sSeq (sSet 2 (fOp gAdd (fV 2) (fOp gMul (fOp gMod (fB gInt (fCons (fV 5) fNil)) (fC (.int 128))) (fV 3))))
  (sSeq (sSet 3 (fOp gMul (fV 3) (fC (.int 128))))
  (sIf (fTest (fOp gLt (fV 5) (fC (.int 128)))) (sSeq (sIf (fOr (fAnd (fTest (fOp gGt (fV 4) (fC (.int 0)))) (fTest (fOp gEq (fV 5) (fC (.int 0))))) (fTest (fOp gGe (fV 2) (fOp gPow (fC (.int 2)) (fC (.int 64)))))) (sRet (fC .non)) sNext)
  (sRet (fTup (fCons (fE (fV 2)) (fCons (fE (fOp gAdd (fOp gAdd (fV 1) (fV 4)) (fC (.int 1)))) fNil))))) sNext))))))
  (sRet (fC .non)))))
noncomputable def d__law_number_at : FnD := fdef 6 [false, false] b__law_number_at
noncomputable def b_is_within : SF :=
  (sRet (fAndV (fCall [false] d_is_integer (fCons (fE (fV 0)) fNil)) (fChain gLe gLe (fV 1) (fV 0) (fV 2))))
noncomputable def d_is_within : FnD := fdef 3 [false, false, false] b_is_within
noncomputable def b_part_at : SF :=
  (sSeq (sSet 2 (fCall [false, false] d_number_at (fCons (fE (fV 0)) (fCons (fE (fV 1)) fNil))))
  (sSeq (sIf (fTest (fOp gIs (fV 2) (fC .non))) (sRet (fC .non)) sNext)
  (sSeq (sUn (.tp (.cons (.nm 3) (.cons (.nm 4) .nil))) (fV 2))
  (sSeq (sPar2 5 6 (fE (fOp gMod (fV 3) (fC (.int 3)))) (fE (fOp gDiv (fV 3) (fC (.int 3)))))
  (sSeq (sIf (fOr (fTest (fOp gEq (fV 6) (fC (.int 0)))) (fAnd (fTest (fOp gEq (fV 5) (fC (.int 2)))) (fTest (fOp gGt (fOp gAdd (fV 4) (fV 6)) (fB gLen (fCons (fV 0) fNil)))))) (sRet (fC .non)) sNext)
  (sRet (fTup (fCons (fE (fV 5)) (fCons (fE (fV 6)) (fCons (fE (fV 4)) fNil))))))))))
noncomputable def d_part_at : FnD := fdef 7 [false, false] b_part_at
noncomputable def b_part_row : SF :=
  (sRet (fIf (fTest (fOp gGt (fV 1) (fC (.int 0)))) (fCall [false] d_figures_of (fCons (fE (fOp gAdd (fOp gMul (fC (.int 3)) (fV 1)) (fV 0))) fNil)) (fTup fNil)))
noncomputable def d_part_row : FnD := fdef 2 [false, false] b_part_row
noncomputable def b__law_pick : SF :=
  (sRet (fOp gIx (fV 1) (fCall [true, false] d__law_take (fCons (fV 0) (fCons (fE (fB gLen (fCons (fV 1) fNil))) fNil)))))
noncomputable def d__law_pick : FnD := fdef 2 [true, false] b__law_pick
noncomputable def b__law_is_within : SF :=
  (sRet (fAndV (fCall [false] d__law_is_integer (fCons (fE (fV 0)) fNil)) (fAndV (fOp gLe (fV 1) (fV 0)) (fOp gLe (fV 0) (fV 2)))))
noncomputable def d__law_is_within : FnD := fdef 3 [false, false, false] b__law_is_within
noncomputable def b__law_led : SF :=
  (sSeq (sSet 2 (fTup fNil))
  (sSeq (sSet 3 (fC (.int 0)))
  (sSeq (sSet 4 (fC (.int 0)))
  (sSeq (sFor (fRng1 (fOp gAdd (fB gLen (fCons (fV 1) fNil)) (fC (.int 1)))) (.nm 5) (sSeq (sIf (fTest (fOp gEq (fV 4) (fB gLen (fCons (fV 1) fNil)))) (sRet (fTup (fCons (fC (.str "told")) (fCons (fE (fV 2)) fNil)))) sNext)
  (sSeq (sSet 6 (fCall [false, false] d__law_number_at (fCons (fE (fV 1)) (fCons (fE (fV 4)) fNil))))
  (sSeq (sIf (fTest (fOp gIs (fV 6) (fC .non))) (sRet (fTup (fCons (fC (.str "BadChange")) (fCons (fE (fV 4)) fNil)))) sNext)
  (sSeq (sSet 7 (fOp gDiv (fOp gIx (fV 6) (fC (.int 0))) (fC (.int 3))))
  (sSeq (sSet 8 (fOp gMod (fB gInt (fCons (fOp gIx (fV 6) (fC (.int 0))) fNil)) (fC (.int 3))))
  (sSeq (sIf (fOr (fTest (fOp gEq (fV 7) (fC (.int 0)))) (fOr (fAnd (fTest (fOp gLt (fV 8) (fC (.int 2)))) (fTest (fOp gGt (fOp gAdd (fV 3) (fV 7)) (fB gLen (fCons (fV 0) fNil))))) (fAnd (fTest (fOp gEq (fV 8) (fC (.int 2)))) (fTest (fOp gGt (fOp gAdd (fOp gIx (fV 6) (fC (.int 1))) (fV 7)) (fB gLen (fCons (fV 1) fNil))))))) (sRet (fTup (fCons (fC (.str "BadChange")) (fCons (fE (fV 4)) fNil)))) sNext)
  (sSeq (sSet 4 (fOp gIx (fV 6) (fC (.int 1))))
  (sSeq (sIf (fTest (fOp gEq (fV 8) (fC (.int 0)))) (sSet 2 (fOp gAdd (fV 2) (fSl (fV 0) (fPart (fV 3)) (fPart (fOp gAdd (fV 3) (fV 7)))))) sNext)
  (sIf (fTest (fOp gEq (fV 8) (fC (.int 2)))) (sSeq (sSet 2 (fOp gAdd (fV 2) (fSl (fV 1) (fPart (fV 4)) (fPart (fOp gAdd (fV 4) (fV 7))))))
  (sSet 4 (fOp gAdd (fV 4) (fV 7)))) (sSet 3 (fOp gAdd (fV 3) (fV 7)))))))))))))
  (sRet (fTup (fCons (fC (.str "told")) (fCons (fE (fV 2)) fNil))))))))
noncomputable def d__law_led : FnD := fdef 9 [false, false] b__law_led
noncomputable def b_is_below : SF :=
  (sRet (fCall [false, false, false] d_is_within (fCons (fE (fV 0)) (fCons (fC (.int 0)) (fCons (fE (fOp gSub (fV 1) (fC (.int 1)))) fNil)))))
noncomputable def d_is_below : FnD := fdef 2 [false, false] b_is_below
noncomputable def b_changed_or_wrong : SF :=
  (sSeq (sOwn 2 (fLst fNil))
  (sSeq (sSet 3 (fC (.int 0)))
  (sSeq (sSet 4 (fC (.int 0)))
  (sSeq (whileL (fTest (fOp gLt (fV 4) (fB gLen (fCons (fV 1) fNil)))) (sSeq (sSet 5 (fCall [false, false] d_part_at (fCons (fE (fV 1)) (fCons (fE (fV 4)) fNil))))
  (sSeq (sIf (fOr (fTest (fOp gIs (fV 5) (fC .non))) (fAnd (fTest (fOp gNe (fOp gIx (fV 5) (fC (.int 0))) (fC (.int 2)))) (fTest (fOp gGt (fOp gAdd (fV 3) (fOp gIx (fV 5) (fC (.int 1)))) (fB gLen (fCons (fV 0) fNil)))))) (sRet (fTup (fCons (fC .non) (fCons (fE (fV 4)) fNil)))) sNext)
  (sSeq (sUn (.tp (.cons (.nm 6) (.cons (.nm 7) (.cons (.nm 8) .nil)))) (fV 5))
  (sSeq (sIf (fTest (fOp gEq (fV 6) (fC (.int 0)))) (sExtT 2 (fE (fSl (fV 0) (fPart (fV 3)) (fPart (fOp gAdd (fV 3) (fV 7)))))) sNext)
  (sSeq (sIf (fTest (fOp gEq (fV 6) (fC (.int 2)))) (sSeq (sExtT 2 (fE (fSl (fV 1) (fPart (fV 8)) (fPart (fOp gAdd (fV 8) (fV 7))))))
  (sAug 8 (gI fun i j => .int (i + j)) (fV 7))) (sAug 3 (gI fun i j => .int (i + j)) (fV 7)))
  (sSet 4 (fV 8))))))) 100000)
  (sRet (fTup (fCons (fE (fB gTuple (fCons (fV 2) fNil))) (fCons (fC .non) fNil))))))))
noncomputable def d_changed_or_wrong : FnD := fdef 9 [false, false] b_changed_or_wrong
noncomputable def b_change_of : SF :=
  (sSeq (sSet 2 (fCall [false, false] d_common_begin (fCons (fE (fV 0)) (fCons (fE (fV 1)) fNil))))
  (sSeq (sSet 3 (fCall [false, false, false] d_common_end (fCons (fE (fV 0)) (fCons (fE (fV 1)) (fCons (fE (fOp gSub (fB gMin2 (fCons (fB gLen (fCons (fV 0) fNil)) (fCons (fB gLen (fCons (fV 1) fNil)) fNil))) (fV 2))) fNil)))))
  (sSeq (sIf (fTest (fOp gLt (fV 2) (fC (.int 8)))) (sSet 2 (fC (.int 0))) sNext)
  (sSeq (sIf (fTest (fOp gLt (fV 3) (fC (.int 8)))) (sSet 3 (fC (.int 0))) sNext)
  (sSeq (sSet 4 (fSl (fV 1) (fPart (fV 2)) (fPart (fOp gSub (fB gLen (fCons (fV 1) fNil)) (fV 3)))))
  (sSeq (sSet 5 (fIf (fTest (fOp gGt (fV 3) (fC (.int 0)))) (fOp gSub (fOp gSub (fB gLen (fCons (fV 0) fNil)) (fV 2)) (fV 3)) (fC (.int 0))))
  (sSeq (sSet 6 (fOp gAdd (fCall [false, false] d_part_row (fCons (fE (fC (.int 0))) (fCons (fE (fV 2)) fNil))) (fCall [false, false] d_part_row (fCons (fE (fC (.int 1))) (fCons (fE (fV 5)) fNil)))))
  (sRet (fOp gAdd (fOp gAdd (fOp gAdd (fV 6) (fCall [false, false] d_part_row (fCons (fE (fC (.int 2))) (fCons (fE (fB gLen (fCons (fV 4) fNil))) fNil)))) (fV 4)) (fCall [false, false] d_part_row (fCons (fE (fC (.int 0))) (fCons (fE (fV 3)) fNil))))))))))))
noncomputable def d_change_of : FnD := fdef 7 [false, false] b_change_of
noncomputable def b__law_is_row : SF :=
  (sSeq (sIf (fOr (fNot (fTest (fB (gIsi (tOne "tuple")) (fCons (fV 0) fNil)))) (fTest (fOp gGt (fB gLen (fCons (fV 0) fNil)) (fC (.int 300000))))) (sRet (fC (.bl false))) sNext)
  (sRet (fOp gEq (fB gLen (fCons (fLc (fIt asT (fE (fV 0))) (.nm 1) (fNot (fTest (fCall [false, false, false] d__law_is_within (fCons (fE (fV 1)) (fCons (fC (.int 0)) (fCons (fC (.int 255)) fNil)))))) (fV 1) [1]) fNil)) (fC (.int 0)))))
noncomputable def d__law_is_row : FnD := fdef 2 [false] b__law_is_row
noncomputable def b__law_bytes : SF :=
  (sSeq (sOwn 2 (fLst fNil))
  (sSeq (sFor (fRng1 (fCall [true, false] d__law_take (fCons (fV 0) (fCons (fE (fOp gAdd (fV 1) (fC (.int 1)))) fNil)))) (.nm 3) (sApp 2 (fE (fCall [true, false] d__law_pick (fCons (fV 0) (fCons (fE (fLst (fCons (fC (.int 0)) (fCons (fC (.int 1)) (fCons (fC (.int 2)) (fCons (fC (.int 3)) (fCons (fC (.int 127)) (fCons (fC (.int 128)) (fCons (fC (.int 129)) (fCons (fC (.int 255)) (fCons (fE (fCall [true, false] d__law_take (fCons (fV 0) (fCons (fC (.int 256)) fNil)))) (fCons (fE (fCall [true, false] d__law_take (fCons (fV 0) (fCons (fC (.int 256)) fNil)))) fNil)))))))))))) fNil))))))
  (sRet (fB gTuple (fCons (fV 2) fNil)))))
noncomputable def d__law_bytes : FnD := fdef 4 [true, false] b__law_bytes
noncomputable def b_is_row : SF :=
  (sRet (fAndV (fB (gIsi (tOne "tuple")) (fCons (fV 0) fNil)) (fAndV (fOp gLe (fB gLen (fCons (fV 0) fNil)) (fC (.int 300000))) (fB gAll (fCons (fLc (fIt asT (fE (fV 0))) (.nm 1) fYes (fCall [false, false] d_is_below (fCons (fE (fV 1)) (fCons (fE (fC (.int 256))) fNil))) [1]) fNil)))))
noncomputable def d_is_row : FnD := fdef 2 [false] b_is_row
noncomputable def b__law_parts : SF :=
  (sSeq (sSet 2 (fTup fNil))
  (sSeq (sFor (fRng1 (fCall [true, false] d__law_take (fCons (fV 0) (fCons (fC (.int 6)) fNil)))) (.nm 3) (sSeq (sSet 4 (fCall [true, false] d__law_take (fCons (fV 0) (fCons (fC (.int 3)) fNil))))
  (sSeq (sSet 5 (fCall [true, false] d__law_take (fCons (fV 0) (fCons (fE (fOp gAdd (fC (.int 1)) (fCall [true, false] d__law_pick (fCons (fV 0) (fCons (fE (fLst (fCons (fC (.int 3)) (fCons (fC (.int 9)) (fCons (fE (fOp gAdd (fB gLen (fCons (fV 1) fNil)) (fC (.int 1)))) (fCons (fC (.int 50)) fNil)))))) fNil))))) fNil))))
  (sSeq (sSet 2 (fOp gAdd (fV 2) (fCall [false] d__law_figures (fCons (fE (fOp gAdd (fOp gMul (fC (.int 3)) (fV 5)) (fV 4))) fNil))))
  (sIf (fTest (fOp gEq (fV 4) (fC (.int 2)))) (sSet 2 (fOp gAdd (fV 2) (fB gTuple (fCons (fLc (fRng1 (fB gMax2 (fCons (fC (.int 0)) (fCons (fOp gSub (fV 5) (fB gInt (fCons (fOp gEq (fCall [true, false] d__law_take (fCons (fV 0) (fCons (fC (.int 12)) fNil))) (fC (.int 0))) fNil))) fNil)))) (.nm 7) fYes (fCall [true, false] d__law_take (fCons (fV 0) (fCons (fC (.int 256)) fNil))) [7]) fNil)))) sNext)))))
  (sSeq (sIf (fTest (fOp gEq (fCall [true, false] d__law_take (fCons (fV 0) (fCons (fC (.int 4)) fNil))) (fC (.int 0)))) (sSeq (sSet 6 (fCall [true, false] d__law_take (fCons (fV 0) (fCons (fE (fOp gAdd (fB gLen (fCons (fV 2) fNil)) (fC (.int 1)))) fNil))))
  (sRet (fOp gAdd (fOp gAdd (fSl (fV 2) fNoPart (fPart (fV 6))) (fCall [true, false] d__law_bytes (fCons (fV 0) (fCons (fC (.int 2)) fNil)))) (fSl (fV 2) (fPart (fV 6)) fNoPart)))) sNext)
  (sRet (fV 2)))))
noncomputable def d__law_parts : FnD := fdef 8 [true, false] b__law_parts
noncomputable def b__law_near_row : SF :=
  (sSeq (sSet 2 (fCall [true, false] d__law_take (fCons (fV 0) (fCons (fC (.int 8)) fNil))))
  (sSeq (sSet 3 (fCall [true, false] d__law_take (fCons (fV 0) (fCons (fE (fOp gAdd (fB gLen (fCons (fV 1) fNil)) (fC (.int 1)))) fNil))))
  (sSeq (sSet 4 (fCall [true, false] d__law_bytes (fCons (fV 0) (fCons (fC (.int 20)) fNil))))
  (sSeq (sIf (fTest (fOp gEq (fV 2) (fC (.int 0)))) (sRet (fV 1)) sNext)
  (sSeq (sIf (fTest (fOp gEq (fV 2) (fC (.int 1)))) (sRet (fSl (fV 1) fNoPart (fPart (fV 3)))) sNext)
  (sSeq (sIf (fTest (fOp gEq (fV 2) (fC (.int 2)))) (sRet (fOp gAdd (fV 4) (fSl (fV 1) (fPart (fV 3)) fNoPart))) sNext)
  (sSeq (sIf (fTest (fOp gEq (fV 2) (fC (.int 3)))) (sRet (fV 4)) sNext)
  (sSeq (sIf (fTest (fOp gEq (fV 2) (fC (.int 4)))) (sRet (fOp gAdd (fV 1) (fV 4))) sNext)
  (sRet (fOp gAdd (fOp gAdd (fSl (fV 1) fNoPart (fPart (fV 3))) (fV 4)) (fSl (fV 1) (fPart (fOp gAdd (fV 3) (fCall [true, false] d__law_take (fCons (fV 0) (fCons (fC (.int 12)) fNil))))) fNoPart)))))))))))
noncomputable def d__law_near_row : FnD := fdef 5 [true, false] b__law_near_row
noncomputable def b_check_row : SF :=
  (sIf (fNot (fTest (fCall [false] d_is_row (fCons (fE (fV 0)) fNil)))) (fun env => .er ⟨1, []⟩ env) sNext)
noncomputable def d_check_row : FnD := fdef 1 [false] b_check_row
noncomputable def b_changed : SF :=
  (sSeq (sDrop (fCall [false] d_check_row (fCons (fE (fV 0)) fNil)))
  (sSeq (sDrop (fCall [false] d_check_row (fCons (fE (fV 1)) fNil)))
  (sSeq (sUn (.tp (.cons (.nm 2) (.cons (.nm 3) .nil))) (fCall [false, false] d_changed_or_wrong (fCons (fE (fV 0)) (fCons (fE (fV 1)) fNil))))
  (sSeq (sIf (fTest (fOp gIsNot (fV 3) (fC .non))) (sRaise 2 ["place"] (fCons (fE (fV 3)) fNil)) sNext)
  (sRet (fV 2))))))
noncomputable def d_changed : FnD := fdef 4 [false, false] b_changed
noncomputable def b_change : SF :=
  (sSeq (sDrop (fCall [false] d_check_row (fCons (fE (fV 0)) fNil)))
  (sSeq (sDrop (fCall [false] d_check_row (fCons (fE (fV 1)) fNil)))
  (sRet (fCall [false, false] d_change_of (fCons (fE (fV 0)) (fCons (fE (fV 1)) fNil))))))
noncomputable def d_change : FnD := fdef 2 [false, false] b_change
noncomputable def b_is_change : SF :=
  (sSeq (sDrop (fCall [false] d_check_row (fCons (fE (fV 0)) fNil)))
  (sSeq (sDrop (fCall [false] d_check_row (fCons (fE (fV 1)) fNil)))
  (sRet (fAndV (fCall [false] d_is_row (fCons (fE (fV 2)) fNil)) (fOp gEq (fCall [false, false] d_changed_or_wrong (fCons (fE (fV 0)) (fCons (fE (fV 2)) fNil))) (fTup (fCons (fE (fV 1)) (fCons (fC .non) fNil))))))))
noncomputable def d_is_change : FnD := fdef 3 [false, false, false] b_is_change
noncomputable def b__law_same (g0 : FnD) : SF :=
  (sSeq (sIf (fTest (fOp gIs (fV 1) (fC .non))) (sRet (fOp gIs (fV 0) (fC .non))) sNext)
  (sSeq (sIf (fTest (fOp gIs (fV 1) (fC (.bl true)))) (sRet (fOp gIs (fV 0) (fC (.bl true)))) sNext)
  (sSeq (sIf (fTest (fOp gIs (fV 1) (fC (.bl false)))) (sRet (fOp gIs (fV 0) (fC (.bl false)))) sNext)
  (sSeq (sIf (fTest (fB (gIsi tInt) (fCons (fV 1) fNil))) (sRet (fAndV (fCall [false] d__law_is_integer (fCons (fE (fV 0)) fNil)) (fOp gEq (fV 0) (fV 1)))) sNext)
  (sSeq (sIf (fTest (fB (gIsi (tOne "str")) (fCons (fV 1) fNil))) (sRet (fAndV (fB (gIsi (tOne "str")) (fCons (fV 0) fNil)) (fOp gEq (fV 0) (fV 1)))) sNext)
  (sSeq (sIf (fOr (fTest (fOp gNe (fB (gIsi (tOne "tuple")) (fCons (fV 1) fNil)) (fB (gIsi (tOne "tuple")) (fCons (fV 0) fNil)))) (fTest (fOp gNe (fB (gIsi (tOne "list")) (fCons (fV 1) fNil)) (fB (gIsi (tOne "list")) (fCons (fV 0) fNil))))) (sRet (fC (.bl false))) sNext)
  (sSeq (sIf (fTest (fOp gNe (fB gLen (fCons (fV 0) fNil)) (fB gLen (fCons (fV 1) fNil)))) (sRet (fC (.bl false))) sNext)
  (sSeq (sFor (fZip (fE (fV 0)) (fE (fV 1))) (.tp (.cons (.nm 2) (.cons (.nm 3) .nil))) (sIf (fNot (fTest (fCall [false, false] g0 (fCons (fE (fV 2)) (fCons (fE (fV 3)) fNil))))) (sRet (fC (.bl false))) sNext))
  (sRet (fC (.bl true)))))))))))
noncomputable def d__law_same : Nat → FnD
  | 0 => fun _ => .bad
  | n + 1 => fdef 4 [false, false] (b__law_same (d__law_same n))
noncomputable def b__law_told : SF :=
  (sTryA (sRet (fTup (fCons (fC (.str "told")) (fCons (fE (fCall [false, false] d_changed (fCons (fE (fV 0)) (fCons (fE (fV 1)) fNil)))) fNil)))) (.pl tst_NoRow (sRet (fTup (fCons (fC (.str "NoRow")) fNil))) :: (.as tst_BadChange 2 (fun a d k => (sRet (fTup (fCons (fC (.str "BadChange")) (fCons (fE (fXf a d k 2 2 "place")) fNil))))) :: [])))
noncomputable def d__law_told : FnD := fdef 3 [false, false] b__law_told
noncomputable def b__law_refused : SF :=
  (sSeq (sSet 2 (fC (.int 0)))
  (sSeq (sTry (sDrop (fCall [false, false] d_change (fCons (fE (fV 0)) (fCons (fE (fV 1)) fNil)))) ((tst_NoRow, (sSet 2 (fOp gAdd (fV 2) (fC (.int 1))))) :: []))
  (sSeq (sTry (sDrop (fCall [false, false, false] d_is_change (fCons (fE (fV 0)) (fCons (fE (fV 1)) (fCons (fTup fNil) fNil))))) ((tst_NoRow, (sSet 2 (fOp gAdd (fV 2) (fC (.int 1))))) :: []))
  (sRet (fOp gEq (fV 2) (fC (.int 2)))))))
noncomputable def d__law_refused : FnD := fdef 3 [false, false] b__law_refused
noncomputable def b_law_1 : SF := (sOwn 1 (fCall [false] d__law_hand (fCons (fE (fV 0)) fNil)))
noncomputable def b_law_2 : SF := (sSet 2 (fCall [true, false] d__law_bytes (fCons (fV 1) (fCons (fC (.int 60)) fNil))))
noncomputable def b_law_3 : SF := (sSet 2 (fOp gMul (fOp gAdd (fV 2) (fTup (fCons (fC (.int 1)) (fCons (fC (.int 2)) (fCons (fC (.int 3)) fNil))))) (fC (.int 11))))
noncomputable def b_law_4 : SF := (sIf (fTest (fOp gEq (fCall [true, false] d__law_take (fCons (fV 1) (fCons (fC (.int 10)) fNil))) (fC (.int 0)))) b_law_3 sNext)
noncomputable def b_law_5 : SF := (sSet 4 (fCall [true, false] d__law_parts (fCons (fV 1) (fCons (fE (fV 2)) fNil))))
noncomputable def b_law_6 : SF := (sSet 5 (fCall [false, false] d__law_led (fCons (fE (fV 2)) (fCons (fE (fV 4)) fNil))))
noncomputable def b_law_7 : SF := (sIf (fNot (fTest (fCall [false, false] (d__law_same 5) (fCons (fE (fCall [false, false] d__law_told (fCons (fE (fV 2)) (fCons (fE (fV 4)) fNil)))) (fCons (fE (fV 5)) fNil))))) (sRet (fC (.bl false))) sNext)
noncomputable def b_law_8 : SF := (sSet 6 (fCall [true, false] d__law_near_row (fCons (fV 1) (fCons (fE (fV 2)) fNil))))
noncomputable def b_law_9 : SF := (sSet 7 (fCall [false, false] d_change (fCons (fE (fV 2)) (fCons (fE (fV 6)) fNil))))
noncomputable def b_law_10 : SF := (sIf (fOr (fNot (fTest (fCall [false] d__law_is_row (fCons (fE (fV 7)) fNil)))) (fOr (fTest (fOp gGt (fB gLen (fCons (fV 7) fNil)) (fOp gAdd (fB gLen (fCons (fV 6) fNil)) (fC (.int 11))))) (fAnd (fTest (fOp gEq (fV 2) (fV 6))) (fTest (fOp gGt (fB gLen (fCons (fV 7) fNil)) (fC (.int 11))))))) (sRet (fC (.bl false))) sNext)
noncomputable def b_law_11 : SF := (sIf (fOr (fNot (fTest (fCall [false, false] (d__law_same 5) (fCons (fE (fCall [false, false] d__law_led (fCons (fE (fV 2)) (fCons (fE (fV 7)) fNil)))) (fCons (fTup (fCons (fC (.str "told")) (fCons (fE (fV 6)) fNil))) fNil))))) (fNot (fTest (fCall [false, false] (d__law_same 5) (fCons (fE (fCall [false, false] d_changed (fCons (fE (fV 2)) (fCons (fE (fV 7)) fNil)))) (fCons (fE (fV 6)) fNil)))))) (sRet (fC (.bl false))) sNext)
noncomputable def b_law_12 : SF := (sIf (fTest (fOp gIsNot (fCall [false, false, false] d_is_change (fCons (fE (fV 2)) (fCons (fE (fV 6)) (fCons (fE (fV 7)) fNil)))) (fC (.bl true)))) (sRet (fC (.bl false))) sNext)
noncomputable def b_law_13 : SF := (sIf (fNot (fTest (fCall [false, false] (d__law_same 5) (fCons (fE (fCall [false, false, false] d_is_change (fCons (fE (fV 2)) (fCons (fE (fV 6)) (fCons (fE (fV 4)) fNil))))) (fCons (fOp gEq (fV 5) (fTup (fCons (fC (.str "told")) (fCons (fE (fV 6)) fNil)))) fNil))))) (sRet (fC (.bl false))) sNext)
noncomputable def b_law_14 : SF := (sIf (fAnd (fTest (fOp gEq (fOp gIx (fV 5) (fC (.int 0))) (fC (.str "told")))) (fTest (fOp gIsNot (fCall [false, false, false] d_is_change (fCons (fE (fV 2)) (fCons (fE (fOp gIx (fV 5) (fC (.int 1)))) (fCons (fE (fV 4)) fNil)))) (fC (.bl true))))) (sRet (fC (.bl false))) sNext)
noncomputable def b_law_15 : SF := (sSeq b_law_5
  (sSeq b_law_6
  (sSeq b_law_7
  (sSeq b_law_8
  (sSeq b_law_9
  (sSeq b_law_10
  (sSeq b_law_11
  (sSeq b_law_12
  (sSeq b_law_13
  b_law_14)))))))))
noncomputable def b_law_16 : SF := (sSet 8 (fIf (fTest (fOp gGt (fCall [true, false] d__law_take (fCons (fV 1) (fCons (fC (.int 20)) fNil))) (fC (.int 0)))) (fCall [true, false] d__law_pick (fCons (fV 1) (fCons (fE (fLst (fCons (fE (fB gList (fCons (fV 2) fNil))) (fCons (fTup (fCons (fC (.int 256)) fNil)) (fCons (fTup (fCons (fC (.bl true)) fNil)) (fCons (fC .non) (fCons (fC (.str "a")) (fCons (fE fDict0) fNil)))))))) fNil))) (fOp gMul (fTup (fCons (fC (.int 9)) fNil)) (fC (.int 300001)))))
noncomputable def b_law_17 : SF := (sIf (fOr (fNot (fTest (fCall [false, false] d__law_refused (fCons (fE (fV 8)) (fCons (fE (fV 2)) fNil))))) (fOr (fNot (fTest (fCall [false, false] d__law_refused (fCons (fE (fV 2)) (fCons (fE (fV 8)) fNil))))) (fTest (fOp gIsNot (fCall [false, false, false] d_is_change (fCons (fE (fV 2)) (fCons (fE (fV 2)) (fCons (fE (fV 8)) fNil)))) (fC (.bl false)))))) (sRet (fC (.bl false))) sNext)
noncomputable def b_law_18 : SF := (sRet (fAndV (fOp gEq (fCall [false, false] d__law_told (fCons (fE (fV 8)) (fCons (fTup fNil) fNil))) (fTup (fCons (fC (.str "NoRow")) fNil))) (fOp gEq (fCall [false, false] d__law_told (fCons (fE (fV 2)) (fCons (fE (fV 8)) fNil))) (fTup (fCons (fC (.str "NoRow")) fNil)))))
noncomputable def b_law : SF :=
  (sSeq b_law_1
  (sSeq b_law_2
  (sSeq b_law_4
  (sSeq (sFor (fRng1 (fC (.int 3))) (.nm 3) b_law_15)
  (sSeq b_law_16
  (sSeq b_law_17
  b_law_18))))))
noncomputable def d_law : FnD := fdef 9 [false] b_law
end K26

set_option maxRecDepth 100000
set_option maxHeartbeats 4000000
namespace K26
open PySem PySem.Spec PyProof.Rows L2 BV
def topS (i : Nat) : Stmt := PySem.Challenge.pw_everybrought_k26_whole_changes_of_rows.main.body.getD i (.Pass ⟨0, 0, 0, 0⟩)
structure Txt (K : PySem.W.Frag) (mg : Str → Option Value) (fa : Nat → Addr) (fd : Nat → FuncData) (ci : Nat → Addr) : Prop where
  F_is_integer : Fun K "is_integer" "is_integer" (topS 5) (fa 0) (fd 0)
  B_is_integer : Binds K (fd 0) ["thing"] []
  G_is_integer : mg "is_integer" = some (.ref (fa 0))
  F_is_within : Fun K "is_within" "is_within" (topS 6) (fa 1) (fd 1)
  B_is_within : Binds K (fd 1) ["thing", "least", "most"] []
  G_is_within : mg "is_within" = some (.ref (fa 1))
  F_is_below : Fun K "is_below" "is_below" (topS 7) (fa 2) (fd 2)
  B_is_below : Binds K (fd 2) ["thing", "many"] []
  G_is_below : mg "is_below" = some (.ref (fa 2))
  F_is_row : Fun K "is_row" "is_row" (topS 14) (fa 3) (fd 3)
  B_is_row : Binds K (fd 3) ["thing"] []
  G_is_row : mg "is_row" = some (.ref (fa 3))
  F_check_row : Fun K "check_row" "check_row" (topS 15) (fa 4) (fd 4)
  B_check_row : Binds K (fd 4) ["thing"] []
  G_check_row : mg "check_row" = some (.ref (fa 4))
  F_figures_of : Fun K "figures_of" "figures_of" (topS 16) (fa 5) (fd 5)
  B_figures_of : Binds K (fd 5) ["number"] []
  G_figures_of : mg "figures_of" = some (.ref (fa 5))
  F_number_at : Fun K "number_at" "number_at" (topS 17) (fa 6) (fd 6)
  B_number_at : Binds K (fd 6) ["row", "at"] []
  G_number_at : mg "number_at" = some (.ref (fa 6))
  F_part_at : Fun K "part_at" "part_at" (topS 23) (fa 7) (fd 7)
  B_part_at : Binds K (fd 7) ["change", "at"] []
  G_part_at : mg "part_at" = some (.ref (fa 7))
  F_changed_or_wrong : Fun K "changed_or_wrong" "changed_or_wrong" (topS 24) (fa 8) (fd 8)
  B_changed_or_wrong : Binds K (fd 8) ["one", "change"] []
  G_changed_or_wrong : mg "changed_or_wrong" = some (.ref (fa 8))
  F_changed : Fun K "changed" "changed" (topS 25) (fa 9) (fd 9)
  B_changed : Binds K (fd 9) ["one", "change"] []
  G_changed : mg "changed" = some (.ref (fa 9))
  F_common_begin : Fun K "common_begin" "common_begin" (topS 26) (fa 10) (fd 10)
  B_common_begin : Binds K (fd 10) ["one", "other"] []
  G_common_begin : mg "common_begin" = some (.ref (fa 10))
  F_common_end : Fun K "common_end" "common_end" (topS 27) (fa 11) (fd 11)
  B_common_end : Binds K (fd 11) ["one", "other", "most"] []
  G_common_end : mg "common_end" = some (.ref (fa 11))
  F_part_row : Fun K "part_row" "part_row" (topS 28) (fa 12) (fd 12)
  B_part_row : Binds K (fd 12) ["kind", "many"] []
  G_part_row : mg "part_row" = some (.ref (fa 12))
  F_change_of : Fun K "change_of" "change_of" (topS 29) (fa 13) (fd 13)
  B_change_of : Binds K (fd 13) ["one", "other"] []
  G_change_of : mg "change_of" = some (.ref (fa 13))
  F_change : Fun K "change" "change" (topS 30) (fa 14) (fd 14)
  B_change : Binds K (fd 14) ["one", "other"] []
  G_change : mg "change" = some (.ref (fa 14))
  F_is_change : Fun K "is_change" "is_change" (topS 31) (fa 15) (fd 15)
  B_is_change : Binds K (fd 15) ["one", "other", "thing"] []
  G_is_change : mg "is_change" = some (.ref (fa 15))
  F__law_hand : Fun K "_law_hand" "_law_hand" (topS 33) (fa 16) (fd 16)
  B__law_hand : Binds K (fd 16) ["script"] []
  G__law_hand : mg "_law_hand" = some (.ref (fa 16))
  F__law_take : Fun K "_law_take" "_law_take" (topS 34) (fa 17) (fd 17)
  B__law_take : Binds K (fd 17) ["hand", "many"] []
  G__law_take : mg "_law_take" = some (.ref (fa 17))
  F__law_pick : Fun K "_law_pick" "_law_pick" (topS 35) (fa 18) (fd 18)
  B__law_pick : Binds K (fd 18) ["hand", "things"] []
  G__law_pick : mg "_law_pick" = some (.ref (fa 18))
  F__law_is_integer : Fun K "_law_is_integer" "_law_is_integer" (topS 36) (fa 19) (fd 19)
  B__law_is_integer : Binds K (fd 19) ["thing"] []
  G__law_is_integer : mg "_law_is_integer" = some (.ref (fa 19))
  F__law_is_within : Fun K "_law_is_within" "_law_is_within" (topS 37) (fa 20) (fd 20)
  B__law_is_within : Binds K (fd 20) ["thing", "least", "most"] []
  G__law_is_within : mg "_law_is_within" = some (.ref (fa 20))
  F__law_same : Fun K "_law_same" "_law_same" (topS 38) (fa 21) (fd 21)
  B__law_same : Binds K (fd 21) ["actual", "due"] []
  G__law_same : mg "_law_same" = some (.ref (fa 21))
  F__law_figures : Fun K "_law_figures" "_law_figures" (topS 39) (fa 22) (fd 22)
  B__law_figures : Binds K (fd 22) ["number"] []
  G__law_figures : mg "_law_figures" = some (.ref (fa 22))
  F__law_number_at : Fun K "_law_number_at" "_law_number_at" (topS 40) (fa 23) (fd 23)
  B__law_number_at : Binds K (fd 23) ["row", "at"] []
  G__law_number_at : mg "_law_number_at" = some (.ref (fa 23))
  F__law_is_row : Fun K "_law_is_row" "_law_is_row" (topS 41) (fa 24) (fd 24)
  B__law_is_row : Binds K (fd 24) ["thing"] []
  G__law_is_row : mg "_law_is_row" = some (.ref (fa 24))
  F__law_bytes : Fun K "_law_bytes" "_law_bytes" (topS 42) (fa 25) (fd 25)
  B__law_bytes : Binds K (fd 25) ["hand", "most"] []
  G__law_bytes : mg "_law_bytes" = some (.ref (fa 25))
  F__law_parts : Fun K "_law_parts" "_law_parts" (topS 43) (fa 26) (fd 26)
  B__law_parts : Binds K (fd 26) ["hand", "one"] []
  G__law_parts : mg "_law_parts" = some (.ref (fa 26))
  F__law_led : Fun K "_law_led" "_law_led" (topS 44) (fa 27) (fd 27)
  B__law_led : Binds K (fd 27) ["one", "change_row"] []
  G__law_led : mg "_law_led" = some (.ref (fa 27))
  F__law_near_row : Fun K "_law_near_row" "_law_near_row" (topS 45) (fa 28) (fd 28)
  B__law_near_row : Binds K (fd 28) ["hand", "one"] []
  G__law_near_row : mg "_law_near_row" = some (.ref (fa 28))
  F__law_told : Fun K "_law_told" "_law_told" (topS 46) (fa 29) (fd 29)
  B__law_told : Binds K (fd 29) ["one", "thing"] []
  G__law_told : mg "_law_told" = some (.ref (fa 29))
  F__law_refused : Fun K "_law_refused" "_law_refused" (topS 47) (fa 30) (fd 30)
  B__law_refused : Binds K (fd 30) ["one", "other"] []
  G__law_refused : mg "_law_refused" = some (.ref (fa 30))
  F_law : Fun K "law" "law" (topS 48) (fa 31) (fd 31)
  B_law : Binds K (fd 31) ["script"] []
  G_law : mg "law" = some (.ref (fa 31))
  z_all : mg "all" = none
  z_bool : mg "bool" = none
  z_int : mg "int" = none
  z_isinstance : mg "isinstance" = none
  z_len : mg "len" = none
  z_list : mg "list" = none
  z_max : mg "max" = none
  z_min : mg "min" = none
  z_range : mg "range" = none
  z_str : mg "str" = none
  z_tuple : mg "tuple" = none
  z_zip : mg "zip" = none
  c_BYTE : ∃ t, mg "BYTE" = some (.int 256 t)
  c_FIGURE : ∃ t, mg "FIGURE" = some (.int 128 t)
  c_KEPT : ∃ t, mg "KEPT" = some (.int 0 t)
  c_LEAST_KEPT : ∃ t, mg "LEAST_KEPT" = some (.int 8 t)
  c_LEFT_OUT : ∃ t, mg "LEFT_OUT" = some (.int 1 t)
  c_MOST_BYTES : ∃ t, mg "MOST_BYTES" = some (.int 300000 t)
  c_MOST_FIGURES : ∃ t, mg "MOST_FIGURES" = some (.int 10 t)
  c_PUT_IN : ∃ t, mg "PUT_IN" = some (.int 2 t)
  c_WHOLE_BOUND : ∃ t, mg "WHOLE_BOUND" = some (.int 18446744073709551616 t)
  g_NoRow : mg "NoRow" = some (.ref (ci 1))
  x_NoRow : PySem.W.excIn K (ci 1) PySem.HandSPX.veTail "ValueError.__new__" = true
  k_NoRow : PySem.W.keepIn K (.ref (ci 1)) = true
  e_NoRow : PySem.W.subIn K (.ref (ci 1)) (.type "BaseException") = some true
  t_NoRow : PySem.W.typeIn K (.ref (ci 1)) = some (.type "type")
  g_BadChange : mg "BadChange" = some (.ref (ci 2))
  FI_BadChange : Fun K "__init__" "BadChange.__init__" (clsS (topS 3) 0) (fa 32) (fd 32)
  BI_BadChange : Binds K (fd 32) ["self", "place"] []
  ec_BadChange : ErrC K (ci 2) (fa 32) ["place"]
  s_BadChange : Tst K ci (.ref (ci 2)) tst_BadChange
  s_NoRow : Tst K ci (.ref (ci 1)) tst_NoRow
section
variable {P : Program} {w : World} {K : PySem.W.Frag} {mg : Str → Option Value} {base : Heap} {fa : Nat → Addr} {fd : Nat → FuncData} {ci : Nat → Addr}
theorem Txt.n_BadChange (T : Txt K mg fa fd ci) {X : Cx} (hg : Gl X "BadChange") (hm : X.mg = mg) : Names X "BadChange" (.ref (ci 2)) := ⟨hg, by decide, .inl (by rw [hm]; exact T.g_BadChange)⟩
theorem Txt.n_NoRow (T : Txt K mg fa fd ci) {X : Cx} (hg : Gl X "NoRow") (hm : X.mg = mg) : Names X "NoRow" (.ref (ci 1)) := ⟨hg, by decide, .inl (by rw [hm]; exact T.g_NoRow)⟩
theorem sci_BadChange : FnScope ["self", "place"] ["self", "place"] (defScope (clsS (topS 3) 0)) := ⟨rfl, rfl, rfl, by decide +kernel, rfl, by decide +kernel, by decide +kernel⟩
theorem in_BadChange (T : Txt K mg fa fd ci) : FnOk P w K mg base (L2.CX P w) 1 (fa 32) (fd 32) ["self", "place"] (spInit (ci 2) ["place"]) := init1 T.FI_BadChange T.ec_BadChange sci_BadChange rfl (by first | exact Or.inl rfl | exact Or.inr (Or.inl rfl) | exact Or.inr (Or.inr rfl)) (by first | exact Or.inl rfl | exact Or.inr (Or.inl rfl) | exact Or.inr (Or.inr rfl)) (by decide) (by decide)
theorem sc_is_integer : FnScope ["thing"] ["thing"] (defScope (topS 5)) := ⟨rfl, rfl, rfl, by decide +kernel, rfl, by decide +kernel, by decide +kernel⟩
theorem ok_is_integer (T : Txt K mg fa fd ci) : FnOk P w K mg base (L2.CX P w) 1 (fa 0) (fd 0) ["thing"] (spF K ci [false] d_is_integer) := by
  refine fn_ok (k := 0) T.F_is_integer sc_is_integer rfl fun cdv A outer s H E hr => ?_
  have hu := hr.units
  have nd := sc_is_integer.nd
  exact (s_one (s_ret (x_and (x_isi tab_int rfl T.z_isinstance (by decide +kernel) rfl T.z_int (by decide +kernel) (x_var 0)) (x_one (x_not (x_isi tab_bool rfl T.z_isinstance (by decide +kernel) rfl T.z_bool (by decide +kernel) (x_var 0)))))))
theorem sc_figures_of : FnScope ["number", "found", "left"] ["number"] (defScope (topS 16)) := ⟨rfl, rfl, rfl, by decide +kernel, rfl, by decide +kernel, by decide +kernel⟩
theorem ok_figures_of (T : Txt K mg fa fd ci) : FnOk P w K mg base (L2.CX P w) 1 (fa 5) (fd 5) ["number"] (spF K ci [false] d_figures_of) := by
  refine fn_ok (k := 0) T.F_figures_of sc_figures_of rfl fun cdv A outer s H E hr => ?_
  have hu := hr.units
  have nd := sc_figures_of.nd
  exact (s_cons (s_own (i := 1) (by decide) (x_lst a_nil) nd)
  (s_cons (s_set (i := 2) (by decide) (x_var 0) nd)
  (s_cons (s_while 100000 (passes_of rfl) (t_cmp o_ge (x_var 2) (x_globI rfl T.c_FIGURE) (nomark _)) (s_cons (s_app 1 (x_esc (x_op o_add (x_op o_mod (x_var 2) (x_globI rfl T.c_FIGURE)) (x_globI rfl T.c_FIGURE))))
  (s_one (s_set (i := 2) (by decide) (x_op o_div (x_var 2) (x_globI rfl T.c_FIGURE)) nd))))
  (s_one (s_ret (x_op o_add (x_callTy b_tuple rfl T.z_tuple (by decide +kernel) (a_cons (x_var 1) a_nil)) (x_tup (a_cons (x_esc (x_var 2)) a_nil))))))))
theorem sc_number_at : FnScope ["row", "at", "found", "worth", "place", "is_needless"] ["row", "at"] (defScope (topS 17)) := ⟨rfl, rfl, rfl, by decide +kernel, rfl, by decide +kernel, by decide +kernel⟩
theorem ok_number_at (T : Txt K mg fa fd ci) : FnOk P w K mg base (L2.CX P w) 1 (fa 6) (fd 6) ["row", "at"] (spF K ci [false, false] d_number_at) := by
  refine fn_ok (k := 0) T.F_number_at sc_number_at rfl fun cdv A outer s H E hr => ?_
  have hu := hr.units
  have nd := sc_number_at.nd
  exact (s_cons (s_set (i := 2) (by decide) x_int nd)
  (s_cons (s_set (i := 3) (by decide) x_int nd)
  (s_cons (s_for (passes_of rfl) rfl (i_rng2 rfl T.z_range (x_var 1) (x_callB b_min2 rfl T.z_min (by decide +kernel) (a_cons (x_callB b_len rfl T.z_len (by decide +kernel) (a_cons (x_var 0) a_nil)) (a_cons (x_op o_add (x_var 1) (x_globI rfl T.c_MOST_FIGURES)) a_nil)))) (g_nm (by decide) nd) (s_cons (s_aug (i := 2) (by decide) i_add (x_op o_mul (x_op o_mod (x_ix ix_all (x_var 0) (x_var 4)) (x_globI rfl T.c_FIGURE)) (x_var 3)) nd)
  (s_cons (s_set (i := 3) (by decide) (x_op o_mul (x_var 3) (x_globI rfl T.c_FIGURE)) nd)
  (s_one (s_if (t_cmp o_lt (x_ix ix_all (x_var 0) (x_var 4)) (x_globI rfl T.c_FIGURE) (nomark _)) (s_cons (s_set (i := 5) (by decide) (x_and (x_cmp (o_eq hu) (x_ix ix_all (x_var 0) (x_var 4)) x_int (nomark _)) (x_one (x_cmp o_gt (x_var 4) (x_var 1) (nomark _)))) nd)
  (s_one (s_ret (x_if (t_w (w_or (t_val (x_var 5)) (w_or1 (t_cmp o_ge (x_var 2) (x_globI rfl T.c_WHOLE_BOUND) (nomark _))))) x_non (x_tup (a_cons (x_esc (x_var 2)) (a_cons (x_esc (x_op o_add (x_var 4) x_int)) a_nil))))))) s_nil)))))
  (s_one (s_ret x_non)))))
theorem sc_common_begin : FnScope ["one", "other", "many"] ["one", "other"] (defScope (topS 26)) := ⟨rfl, rfl, rfl, by decide +kernel, rfl, by decide +kernel, by decide +kernel⟩
theorem ok_common_begin (T : Txt K mg fa fd ci) : FnOk P w K mg base (L2.CX P w) 1 (fa 10) (fd 10) ["one", "other"] (spF K ci [false, false] d_common_begin) := by
  refine fn_ok (k := 0) T.F_common_begin sc_common_begin rfl fun cdv A outer s H E hr => ?_
  have hu := hr.units
  have nd := sc_common_begin.nd
  exact (s_cons (s_set (i := 2) (by decide) x_int nd)
  (s_cons (s_while 100000 (passes_of rfl) (t_w (w_and (t_cmp o_lt (x_var 2) (x_callB b_min2 rfl T.z_min (by decide +kernel) (a_cons (x_callB b_len rfl T.z_len (by decide +kernel) (a_cons (x_var 0) a_nil)) (a_cons (x_callB b_len rfl T.z_len (by decide +kernel) (a_cons (x_var 1) a_nil)) a_nil))) (nomark _)) (w_and1 (t_cmp (o_eq hu) (x_ix ix_all (x_var 0) (x_var 2)) (x_ix ix_all (x_var 1) (x_var 2)) (nomark _))))) (s_one (s_aug (i := 2) (by decide) i_add x_int nd)))
  (s_one (s_ret (x_var 2)))))
theorem sc_common_end : FnScope ["one", "other", "most", "many"] ["one", "other", "most"] (defScope (topS 27)) := ⟨rfl, rfl, rfl, by decide +kernel, rfl, by decide +kernel, by decide +kernel⟩
theorem ok_common_end (T : Txt K mg fa fd ci) : FnOk P w K mg base (L2.CX P w) 1 (fa 11) (fd 11) ["one", "other", "most"] (spF K ci [false, false, false] d_common_end) := by
  refine fn_ok (k := 0) T.F_common_end sc_common_end rfl fun cdv A outer s H E hr => ?_
  have hu := hr.units
  have nd := sc_common_end.nd
  exact (s_cons (s_set (i := 3) (by decide) x_int nd)
  (s_cons (s_while 100000 (passes_of rfl) (t_w (w_and (t_cmp o_lt (x_var 3) (x_var 2) (nomark _)) (w_and1 (t_cmp (o_eq hu) (x_ix ix_all (x_var 0) (x_op o_sub (x_op o_sub (x_callB b_len rfl T.z_len (by decide +kernel) (a_cons (x_var 0) a_nil)) x_int) (x_var 3))) (x_ix ix_all (x_var 1) (x_op o_sub (x_op o_sub (x_callB b_len rfl T.z_len (by decide +kernel) (a_cons (x_var 1) a_nil)) x_int) (x_var 3))) (nomark _))))) (s_one (s_aug (i := 3) (by decide) i_add x_int nd)))
  (s_one (s_ret (x_var 3)))))
theorem sc__law_hand : FnScope ["script"] ["script"] (defScope (topS 33)) := ⟨rfl, rfl, rfl, by decide +kernel, rfl, by decide +kernel, by decide +kernel⟩
theorem ok__law_hand (T : Txt K mg fa fd ci) : FnOk P w K mg base (L2.CX P w) 1 (fa 16) (fd 16) ["script"] (spF K ci [false] d__law_hand) := by
  refine fn_ok (k := 0) T.F__law_hand sc__law_hand rfl fun cdv A outer s H E hr => ?_
  have hu := hr.units
  have nd := sc__law_hand.nd
  exact (s_one (s_retNew (x_lst (a_cons (x_esc (x_callTy b_list rfl T.z_list (by decide +kernel) (a_cons (x_var 0) a_nil))) (a_cons x_int (a_cons x_int (a_cons x_int (a_cons x_int a_nil))))))))
theorem sc__law_take : FnScope ["hand", "many", "cell", "found", "number"] ["hand", "many"] (defScope (topS 34)) := ⟨rfl, rfl, rfl, by decide +kernel, rfl, by decide +kernel, by decide +kernel⟩
theorem ok__law_take (T : Txt K mg fa fd ci) : FnOk P w K mg base (L2.CX P w) 1 (fa 17) (fd 17) ["hand", "many"] (spF K ci [true, false] d__law_take) := by
  refine fn_ok (k := 0) T.F__law_take sc__law_take rfl fun cdv A outer s H E hr => ?_
  have hu := hr.units
  have nd := sc__law_take.nd
  exact (s_cons (s_setIx 0 x_int (x_op o_add (x_ix ix_all (x_var 0) x_int) x_int))
  (s_cons (s_if (t_w (w_and (t_cmp (o_eq hu) (x_ix ix_all (x_var 0) x_int) x_int (nomark _)) (w_and1 (t_cmp o_lt (x_ix ix_all (x_var 0) x_int) (x_callB b_len rfl T.z_len (by decide +kernel) (a_cons (x_ix ix_all (x_var 0) x_int) a_nil)) (nomark _))))) (s_cons (s_set (i := 2) (by decide) (x_callTy b_int rfl T.z_int (by decide +kernel) (a_cons (x_ix ix_all (x_ix ix_all (x_var 0) x_int) (x_ix ix_all (x_var 0) x_int)) a_nil)) nd)
  (s_cons (s_setIx 0 x_int (x_op o_add (x_ix ix_all (x_var 0) x_int) x_int))
  (s_one (s_if (t_cmp o_ge (x_var 2) (x_op o_pow x_int x_int) (nomark _)) (s_one (s_setIx 0 x_int (x_var 2))) (s_one (s_setIx 0 x_int (x_op o_mod (x_callTy b_int rfl T.z_int (by decide +kernel) (a_cons (x_op o_add (x_op o_add (x_op o_mul (x_ix ix_all (x_var 0) x_int) x_int) (x_op o_mod (x_callTy b_int rfl T.z_int (by decide +kernel) (a_cons (x_var 2) a_nil)) x_int)) x_int) a_nil)) x_int))))))) s_nil)
  (s_cons (s_if (t_cmp o_gt (x_ix ix_all (x_var 0) x_int) x_int (nomark _)) (s_cons (s_set (i := 3) (by decide) (x_op o_mod (x_callTy b_int rfl T.z_int (by decide +kernel) (a_cons (x_ix ix_all (x_var 0) x_int) a_nil)) (x_var 1)) nd)
  (s_cons (s_setIx 0 x_int (x_op o_div (x_callTy b_int rfl T.z_int (by decide +kernel) (a_cons (x_ix ix_all (x_var 0) x_int) a_nil)) (x_var 1)))
  (s_one (s_ret (x_var 3))))) s_nil)
  (s_cons (s_setIx 0 x_int (x_op o_mod (x_callTy b_int rfl T.z_int (by decide +kernel) (a_cons (x_op o_add (x_op o_mul (x_ix ix_all (x_var 0) x_int) x_int) (x_op o_mul x_int (x_ix ix_all (x_var 0) x_int))) a_nil)) x_int))
  (s_cons (s_set (i := 4) (by decide) (x_op o_mod (x_callTy b_int rfl T.z_int (by decide +kernel) (a_cons (x_op o_mul (x_ix ix_all (x_var 0) x_int) (x_op o_add (x_op o_div (x_ix ix_all (x_var 0) x_int) x_int) x_int)) a_nil)) x_int) nd)
  (s_cons (s_set (i := 4) (by decide) (x_op o_mod (x_callTy b_int rfl T.z_int (by decide +kernel) (a_cons (x_op o_mul (x_var 4) (x_op o_add (x_op o_div (x_var 4) x_int) x_int)) a_nil)) x_int) nd)
  (s_one (s_ret (x_op o_mod (x_callTy b_int rfl T.z_int (by decide +kernel) (a_cons (x_op o_div (x_var 4) x_int) a_nil)) (x_var 1))))))))))
theorem sc__law_is_integer : FnScope ["thing"] ["thing"] (defScope (topS 36)) := ⟨rfl, rfl, rfl, by decide +kernel, rfl, by decide +kernel, by decide +kernel⟩
theorem ok__law_is_integer (T : Txt K mg fa fd ci) : FnOk P w K mg base (L2.CX P w) 1 (fa 19) (fd 19) ["thing"] (spF K ci [false] d__law_is_integer) := by
  refine fn_ok (k := 0) T.F__law_is_integer sc__law_is_integer rfl fun cdv A outer s H E hr => ?_
  have hu := hr.units
  have nd := sc__law_is_integer.nd
  exact (s_one (s_ret (x_and (x_isi tab_int rfl T.z_isinstance (by decide +kernel) rfl T.z_int (by decide +kernel) (x_var 0)) (x_one (x_not (x_isi tab_bool rfl T.z_isinstance (by decide +kernel) rfl T.z_bool (by decide +kernel) (x_var 0)))))))
theorem sc__law_figures : FnScope ["number", "found", "k"] ["number"] (defScope (topS 39)) := ⟨rfl, rfl, rfl, by decide +kernel, rfl, by decide +kernel, by decide +kernel⟩
theorem ok__law_figures (T : Txt K mg fa fd ci) : FnOk P w K mg base (L2.CX P w) 1 (fa 22) (fd 22) ["number"] (spF K ci [false] d__law_figures) := by
  refine fn_ok (k := 0) T.F__law_figures sc__law_figures rfl fun cdv A outer s H E hr => ?_
  have hu := hr.units
  have nd := sc__law_figures.nd
  exact (s_cons (s_own (i := 1) (by decide) (x_lst a_nil) nd)
  (s_cons (s_for (passes_of rfl) rfl (i_rng1 rfl T.z_range x_int) (g_nm (by decide) nd) (s_cons (s_if (t_cmp o_lt (x_var 0) x_int (nomark _)) (s_one s_break) s_nil)
  (s_cons (s_app 1 (x_esc (x_op o_add (x_op o_mod (x_callTy b_int rfl T.z_int (by decide +kernel) (a_cons (x_var 0) a_nil)) x_int) x_int)))
  (s_one (s_set (i := 0) (by decide) (x_op o_div (x_var 0) x_int) nd)))))
  (s_one (s_ret (x_op o_add (x_callTy b_tuple rfl T.z_tuple (by decide +kernel) (a_cons (x_var 1) a_nil)) (x_tup (a_cons (x_esc (x_var 0)) a_nil)))))))
theorem sc__law_number_at : FnScope ["row", "at", "found", "power", "k", "byte"] ["row", "at"] (defScope (topS 40)) := ⟨rfl, rfl, rfl, by decide +kernel, rfl, by decide +kernel, by decide +kernel⟩
theorem ok__law_number_at (T : Txt K mg fa fd ci) : FnOk P w K mg base (L2.CX P w) 1 (fa 23) (fd 23) ["row", "at"] (spF K ci [false, false] d__law_number_at) := by
  refine fn_ok (k := 0) T.F__law_number_at sc__law_number_at rfl fun cdv A outer s H E hr => ?_
  have hu := hr.units
  have nd := sc__law_number_at.nd
  exact (s_cons (s_set (i := 2) (by decide) x_int nd)
  (s_cons (s_set (i := 3) (by decide) x_int nd)
  (s_cons (s_for (passes_of rfl) rfl (i_rng1 rfl T.z_range x_int) (g_nm (by decide) nd) (s_cons (s_if (t_cmp o_ge (x_op o_add (x_var 1) (x_var 4)) (x_callB b_len rfl T.z_len (by decide +kernel) (a_cons (x_var 0) a_nil)) (nomark _)) (s_one (s_ret x_non)) s_nil)
  (s_cons (s_set (i := 5) (by decide) (x_ix ix_all (x_var 0) (x_op o_add (x_var 1) (x_var 4))) nd)
  (s_cons (s_set (i := 2) (by decide) (x_op o_add (x_var 2) (x_op o_mul (x_op o_mod (x_callTy b_int rfl T.z_int (by decide +kernel) (a_cons (x_var 5) a_nil)) x_int) (x_var 3))) nd)
  (s_cons (s_set (i := 3) (by decide) (x_op o_mul (x_var 3) x_int) nd)
  (s_one (s_if (t_cmp o_lt (x_var 5) x_int (nomark _)) (s_cons (s_if (t_w (w_or (t_w (w_and (t_cmp o_gt (x_var 4) x_int (nomark _)) (w_and1 (t_cmp (o_eq hu) (x_var 5) x_int (nomark _))))) (w_or1 (t_cmp o_ge (x_var 2) (x_op o_pow x_int x_int) (nomark _))))) (s_one (s_ret x_non)) s_nil)
  (s_one (s_ret (x_tup (a_cons (x_esc (x_var 2)) (a_cons (x_esc (x_op o_add (x_op o_add (x_var 1) (x_var 4)) x_int)) a_nil)))))) s_nil)))))))
  (s_one (s_ret x_non)))))
theorem sc_is_within : FnScope ["thing", "least", "most"] ["thing", "least", "most"] (defScope (topS 6)) := ⟨rfl, rfl, rfl, by decide +kernel, rfl, by decide +kernel, by decide +kernel⟩
theorem ok_is_within (T : Txt K mg fa fd ci) : FnOk P w K mg base (L2.CX P w) 2 (fa 1) (fd 1) ["thing", "least", "most"] (spF K ci [false, false, false] d_is_within) := by
  have O_is_integer := ok_is_integer (P := P) (w := w) (base := base) T
  refine fn_ok (k := 1) T.F_is_within sc_is_within rfl fun cdv A outer s H E hr => ?_
  have hu := hr.units
  have nd := sc_is_within.nd
  exact (s_one (s_ret (x_and (x_call O_is_integer (hr.mono (by decide)) rfl T.G_is_integer T.F_is_integer.kp T.B_is_integer (a_cons (x_esc (x_var 0)) a_nil)) (x_one (x_chain o_le o_le (x_var 1) (x_var 0) (x_var 2))))))
theorem sc_part_at : FnScope ["change", "at", "found", "number", "behind", "kind", "many"] ["change", "at"] (defScope (topS 23)) := ⟨rfl, rfl, rfl, by decide +kernel, rfl, by decide +kernel, by decide +kernel⟩
theorem ok_part_at (T : Txt K mg fa fd ci) : FnOk P w K mg base (L2.CX P w) 2 (fa 7) (fd 7) ["change", "at"] (spF K ci [false, false] d_part_at) := by
  have O_number_at := ok_number_at (P := P) (w := w) (base := base) T
  refine fn_ok (k := 1) T.F_part_at sc_part_at rfl fun cdv A outer s H E hr => ?_
  have hu := hr.units
  have nd := sc_part_at.nd
  exact (s_cons (s_set (i := 2) (by decide) (x_call O_number_at (hr.mono (by decide)) rfl T.G_number_at T.F_number_at.kp T.B_number_at (a_cons (x_esc (x_var 0)) (a_cons (x_esc (x_var 1)) a_nil))) nd)
  (s_cons (s_if (t_cmp o_is (x_var 2) x_non (nomark _)) (s_one (s_ret x_non)) s_nil)
  (s_cons (s_un (x_var 2) (g_tp rfl (gs_cons (g_nm (by decide) nd) (gs_cons (g_nm (by decide) nd) gs_nil))))
  (s_cons (s_par2 (i := 5) (j := 6) rfl nd (by decide) (by decide) (by decide) (x_esc (x_op o_mod (x_var 3) x_int)) (x_esc (x_op o_div (x_var 3) x_int)))
  (s_cons (s_if (t_w (w_or (t_cmp (o_eq hu) (x_var 6) x_int (nomark _)) (w_or1 (t_w (w_and (t_cmp (o_eq hu) (x_var 5) (x_globI rfl T.c_PUT_IN) (nomark _)) (w_and1 (t_cmp o_gt (x_op o_add (x_var 4) (x_var 6)) (x_callB b_len rfl T.z_len (by decide +kernel) (a_cons (x_var 0) a_nil)) (nomark _)))))))) (s_one (s_ret x_non)) s_nil)
  (s_one (s_ret (x_tup (a_cons (x_esc (x_var 5)) (a_cons (x_esc (x_var 6)) (a_cons (x_esc (x_var 4)) a_nil)))))))))))
theorem sc_part_row : FnScope ["kind", "many"] ["kind", "many"] (defScope (topS 28)) := ⟨rfl, rfl, rfl, by decide +kernel, rfl, by decide +kernel, by decide +kernel⟩
theorem ok_part_row (T : Txt K mg fa fd ci) : FnOk P w K mg base (L2.CX P w) 2 (fa 12) (fd 12) ["kind", "many"] (spF K ci [false, false] d_part_row) := by
  have O_figures_of := ok_figures_of (P := P) (w := w) (base := base) T
  refine fn_ok (k := 1) T.F_part_row sc_part_row rfl fun cdv A outer s H E hr => ?_
  have hu := hr.units
  have nd := sc_part_row.nd
  exact (s_one (s_ret (x_if (t_cmp o_gt (x_var 1) x_int (nomark _)) (x_call O_figures_of (hr.mono (by decide)) rfl T.G_figures_of T.F_figures_of.kp T.B_figures_of (a_cons (x_esc (x_op o_add (x_op o_mul x_int (x_var 1)) (x_var 0))) a_nil)) (x_tup a_nil))))
theorem sc__law_pick : FnScope ["hand", "things"] ["hand", "things"] (defScope (topS 35)) := ⟨rfl, rfl, rfl, by decide +kernel, rfl, by decide +kernel, by decide +kernel⟩
theorem ok__law_pick (T : Txt K mg fa fd ci) : FnOk P w K mg base (L2.CX P w) 2 (fa 18) (fd 18) ["hand", "things"] (spF K ci [true, false] d__law_pick) := by
  have O__law_take := ok__law_take (P := P) (w := w) (base := base) T
  refine fn_ok (k := 1) T.F__law_pick sc__law_pick rfl fun cdv A outer s H E hr => ?_
  have hu := hr.units
  have nd := sc__law_pick.nd
  exact (s_one (s_ret (x_ix ix_all (x_var 1) (x_call O__law_take (hr.mono (by decide)) rfl T.G__law_take T.F__law_take.kp T.B__law_take (a_cons (x_var 0) (a_cons (x_esc (x_callB b_len rfl T.z_len (by decide +kernel) (a_cons (x_var 1) a_nil))) a_nil))))))
theorem sc__law_is_within : FnScope ["thing", "least", "most"] ["thing", "least", "most"] (defScope (topS 37)) := ⟨rfl, rfl, rfl, by decide +kernel, rfl, by decide +kernel, by decide +kernel⟩
theorem ok__law_is_within (T : Txt K mg fa fd ci) : FnOk P w K mg base (L2.CX P w) 2 (fa 20) (fd 20) ["thing", "least", "most"] (spF K ci [false, false, false] d__law_is_within) := by
  have O__law_is_integer := ok__law_is_integer (P := P) (w := w) (base := base) T
  refine fn_ok (k := 1) T.F__law_is_within sc__law_is_within rfl fun cdv A outer s H E hr => ?_
  have hu := hr.units
  have nd := sc__law_is_within.nd
  exact (s_one (s_ret (x_and (x_call O__law_is_integer (hr.mono (by decide)) rfl T.G__law_is_integer T.F__law_is_integer.kp T.B__law_is_integer (a_cons (x_esc (x_var 0)) a_nil)) (x_and (x_cmp o_le (x_var 1) (x_var 0) (nomark _)) (x_one (x_cmp o_le (x_var 0) (x_var 2) (nomark _)))))))
theorem sc__law_led : FnScope ["one", "change_row", "found", "here", "at", "k", "part", "many", "kind"] ["one", "change_row"] (defScope (topS 44)) := ⟨rfl, rfl, rfl, by decide +kernel, rfl, by decide +kernel, by decide +kernel⟩
theorem ok__law_led (T : Txt K mg fa fd ci) : FnOk P w K mg base (L2.CX P w) 2 (fa 27) (fd 27) ["one", "change_row"] (spF K ci [false, false] d__law_led) := by
  have O__law_number_at := ok__law_number_at (P := P) (w := w) (base := base) T
  refine fn_ok (k := 1) T.F__law_led sc__law_led rfl fun cdv A outer s H E hr => ?_
  have hu := hr.units
  have nd := sc__law_led.nd
  exact (s_cons (s_set (i := 2) (by decide) (x_tup a_nil) nd)
  (s_cons (s_set (i := 3) (by decide) x_int nd)
  (s_cons (s_set (i := 4) (by decide) x_int nd)
  (s_cons (s_for (passes_of rfl) rfl (i_rng1 rfl T.z_range (x_op o_add (x_callB b_len rfl T.z_len (by decide +kernel) (a_cons (x_var 1) a_nil)) x_int)) (g_nm (by decide) nd) (s_cons (s_if (t_cmp (o_eq hu) (x_var 4) (x_callB b_len rfl T.z_len (by decide +kernel) (a_cons (x_var 1) a_nil)) (nomark _)) (s_one (s_ret (x_tup (a_cons x_str (a_cons (x_esc (x_var 2)) a_nil))))) s_nil)
  (s_cons (s_set (i := 6) (by decide) (x_call O__law_number_at (hr.mono (by decide)) rfl T.G__law_number_at T.F__law_number_at.kp T.B__law_number_at (a_cons (x_esc (x_var 1)) (a_cons (x_esc (x_var 4)) a_nil))) nd)
  (s_cons (s_if (t_cmp o_is (x_var 6) x_non (nomark _)) (s_one (s_ret (x_tup (a_cons x_str (a_cons (x_esc (x_var 4)) a_nil))))) s_nil)
  (s_cons (s_set (i := 7) (by decide) (x_op o_div (x_ix ix_all (x_var 6) x_int) x_int) nd)
  (s_cons (s_set (i := 8) (by decide) (x_op o_mod (x_callTy b_int rfl T.z_int (by decide +kernel) (a_cons (x_ix ix_all (x_var 6) x_int) a_nil)) x_int) nd)
  (s_cons (s_if (t_w (w_or (t_cmp (o_eq hu) (x_var 7) x_int (nomark _)) (w_or (t_w (w_and (t_cmp o_lt (x_var 8) x_int (nomark _)) (w_and1 (t_cmp o_gt (x_op o_add (x_var 3) (x_var 7)) (x_callB b_len rfl T.z_len (by decide +kernel) (a_cons (x_var 0) a_nil)) (nomark _))))) (w_or1 (t_w (w_and (t_cmp (o_eq hu) (x_var 8) x_int (nomark _)) (w_and1 (t_cmp o_gt (x_op o_add (x_ix ix_all (x_var 6) x_int) (x_var 7)) (x_callB b_len rfl T.z_len (by decide +kernel) (a_cons (x_var 1) a_nil)) (nomark _))))))))) (s_one (s_ret (x_tup (a_cons x_str (a_cons (x_esc (x_var 4)) a_nil))))) s_nil)
  (s_cons (s_set (i := 4) (by decide) (x_ix ix_all (x_var 6) x_int) nd)
  (s_cons (s_if (t_cmp (o_eq hu) (x_var 8) x_int (nomark _)) (s_one (s_set (i := 2) (by decide) (x_op o_add (x_var 2) (x_slice (x_var 0) (so_some (x_var 3)) (so_some (x_op o_add (x_var 3) (x_var 7))))) nd)) s_nil)
  (s_one (s_if (t_cmp (o_eq hu) (x_var 8) x_int (nomark _)) (s_cons (s_set (i := 2) (by decide) (x_op o_add (x_var 2) (x_slice (x_var 1) (so_some (x_var 4)) (so_some (x_op o_add (x_var 4) (x_var 7))))) nd)
  (s_one (s_set (i := 4) (by decide) (x_op o_add (x_var 4) (x_var 7)) nd))) (s_one (s_set (i := 3) (by decide) (x_op o_add (x_var 3) (x_var 7)) nd)))))))))))))
  (s_one (s_ret (x_tup (a_cons x_str (a_cons (x_esc (x_var 2)) a_nil)))))))))
theorem sc_is_below : FnScope ["thing", "many"] ["thing", "many"] (defScope (topS 7)) := ⟨rfl, rfl, rfl, by decide +kernel, rfl, by decide +kernel, by decide +kernel⟩
theorem ok_is_below (T : Txt K mg fa fd ci) : FnOk P w K mg base (L2.CX P w) 3 (fa 2) (fd 2) ["thing", "many"] (spF K ci [false, false] d_is_below) := by
  have O_is_within := ok_is_within (P := P) (w := w) (base := base) T
  refine fn_ok (k := 2) T.F_is_below sc_is_below rfl fun cdv A outer s H E hr => ?_
  have hu := hr.units
  have nd := sc_is_below.nd
  exact (s_one (s_ret (x_call O_is_within (hr.mono (by decide)) rfl T.G_is_within T.F_is_within.kp T.B_is_within (a_cons (x_esc (x_var 0)) (a_cons x_int (a_cons (x_esc (x_op o_sub (x_var 1) x_int)) a_nil))))))
theorem sc_changed_or_wrong : FnScope ["one", "change", "found", "here", "at", "part", "kind", "many", "behind"] ["one", "change"] (defScope (topS 24)) := ⟨rfl, rfl, rfl, by decide +kernel, rfl, by decide +kernel, by decide +kernel⟩
theorem ok_changed_or_wrong (T : Txt K mg fa fd ci) : FnOk P w K mg base (L2.CX P w) 3 (fa 8) (fd 8) ["one", "change"] (spF K ci [false, false] d_changed_or_wrong) := by
  have O_part_at := ok_part_at (P := P) (w := w) (base := base) T
  refine fn_ok (k := 2) T.F_changed_or_wrong sc_changed_or_wrong rfl fun cdv A outer s H E hr => ?_
  have hu := hr.units
  have nd := sc_changed_or_wrong.nd
  exact (s_cons (s_own (i := 2) (by decide) (x_lst a_nil) nd)
  (s_cons (s_set (i := 3) (by decide) x_int nd)
  (s_cons (s_set (i := 4) (by decide) x_int nd)
  (s_cons (s_while 100000 (passes_of rfl) (t_cmp o_lt (x_var 4) (x_callB b_len rfl T.z_len (by decide +kernel) (a_cons (x_var 1) a_nil)) (nomark _)) (s_cons (s_set (i := 5) (by decide) (x_call O_part_at (hr.mono (by decide)) rfl T.G_part_at T.F_part_at.kp T.B_part_at (a_cons (x_esc (x_var 1)) (a_cons (x_esc (x_var 4)) a_nil))) nd)
  (s_cons (s_if (t_w (w_or (t_cmp o_is (x_var 5) x_non (nomark _)) (w_or1 (t_w (w_and (t_cmp (o_ne hu) (x_ix ix_all (x_var 5) x_int) (x_globI rfl T.c_PUT_IN) (nomark _)) (w_and1 (t_cmp o_gt (x_op o_add (x_var 3) (x_ix ix_all (x_var 5) x_int)) (x_callB b_len rfl T.z_len (by decide +kernel) (a_cons (x_var 0) a_nil)) (nomark _)))))))) (s_one (s_ret (x_tup (a_cons x_non (a_cons (x_esc (x_var 4)) a_nil))))) s_nil)
  (s_cons (s_un (x_var 5) (g_tp rfl (gs_cons (g_nm (by decide) nd) (gs_cons (g_nm (by decide) nd) (gs_cons (g_nm (by decide) nd) gs_nil)))))
  (s_cons (s_if (t_cmp (o_eq hu) (x_var 6) (x_globI rfl T.c_KEPT) (nomark _)) (s_one (s_extT 2 (x_esc (x_slice (x_var 0) (so_some (x_var 3)) (so_some (x_op o_add (x_var 3) (x_var 7))))))) s_nil)
  (s_cons (s_if (t_cmp (o_eq hu) (x_var 6) (x_globI rfl T.c_PUT_IN) (nomark _)) (s_cons (s_extT 2 (x_esc (x_slice (x_var 1) (so_some (x_var 8)) (so_some (x_op o_add (x_var 8) (x_var 7))))))
  (s_one (s_aug (i := 8) (by decide) i_add (x_var 7) nd))) (s_one (s_aug (i := 3) (by decide) i_add (x_var 7) nd)))
  (s_one (s_set (i := 4) (by decide) (x_var 8) nd))))))))
  (s_one (s_ret (x_tup (a_cons (x_esc (x_callTy b_tuple rfl T.z_tuple (by decide +kernel) (a_cons (x_var 2) a_nil))) (a_cons x_non a_nil)))))))))
theorem sc_change_of : FnScope ["one", "other", "begin", "end", "middle", "out", "head"] ["one", "other"] (defScope (topS 29)) := ⟨rfl, rfl, rfl, by decide +kernel, rfl, by decide +kernel, by decide +kernel⟩
theorem ok_change_of (T : Txt K mg fa fd ci) : FnOk P w K mg base (L2.CX P w) 3 (fa 13) (fd 13) ["one", "other"] (spF K ci [false, false] d_change_of) := by
  have O_common_begin := ok_common_begin (P := P) (w := w) (base := base) T
  have O_common_end := ok_common_end (P := P) (w := w) (base := base) T
  have O_part_row := ok_part_row (P := P) (w := w) (base := base) T
  refine fn_ok (k := 2) T.F_change_of sc_change_of rfl fun cdv A outer s H E hr => ?_
  have hu := hr.units
  have nd := sc_change_of.nd
  exact (s_cons (s_set (i := 2) (by decide) (x_call O_common_begin (hr.mono (by decide)) rfl T.G_common_begin T.F_common_begin.kp T.B_common_begin (a_cons (x_esc (x_var 0)) (a_cons (x_esc (x_var 1)) a_nil))) nd)
  (s_cons (s_set (i := 3) (by decide) (x_call O_common_end (hr.mono (by decide)) rfl T.G_common_end T.F_common_end.kp T.B_common_end (a_cons (x_esc (x_var 0)) (a_cons (x_esc (x_var 1)) (a_cons (x_esc (x_op o_sub (x_callB b_min2 rfl T.z_min (by decide +kernel) (a_cons (x_callB b_len rfl T.z_len (by decide +kernel) (a_cons (x_var 0) a_nil)) (a_cons (x_callB b_len rfl T.z_len (by decide +kernel) (a_cons (x_var 1) a_nil)) a_nil))) (x_var 2))) a_nil)))) nd)
  (s_cons (s_if (t_cmp o_lt (x_var 2) (x_globI rfl T.c_LEAST_KEPT) (nomark _)) (s_one (s_set (i := 2) (by decide) x_int nd)) s_nil)
  (s_cons (s_if (t_cmp o_lt (x_var 3) (x_globI rfl T.c_LEAST_KEPT) (nomark _)) (s_one (s_set (i := 3) (by decide) x_int nd)) s_nil)
  (s_cons (s_set (i := 4) (by decide) (x_slice (x_var 1) (so_some (x_var 2)) (so_some (x_op o_sub (x_callB b_len rfl T.z_len (by decide +kernel) (a_cons (x_var 1) a_nil)) (x_var 3)))) nd)
  (s_cons (s_set (i := 5) (by decide) (x_if (t_cmp o_gt (x_var 3) x_int (nomark _)) (x_op o_sub (x_op o_sub (x_callB b_len rfl T.z_len (by decide +kernel) (a_cons (x_var 0) a_nil)) (x_var 2)) (x_var 3)) x_int) nd)
  (s_cons (s_set (i := 6) (by decide) (x_op o_add (x_call O_part_row (hr.mono (by decide)) rfl T.G_part_row T.F_part_row.kp T.B_part_row (a_cons (x_esc (x_globI rfl T.c_KEPT)) (a_cons (x_esc (x_var 2)) a_nil))) (x_call O_part_row (hr.mono (by decide)) rfl T.G_part_row T.F_part_row.kp T.B_part_row (a_cons (x_esc (x_globI rfl T.c_LEFT_OUT)) (a_cons (x_esc (x_var 5)) a_nil)))) nd)
  (s_one (s_ret (x_op o_add (x_op o_add (x_op o_add (x_var 6) (x_call O_part_row (hr.mono (by decide)) rfl T.G_part_row T.F_part_row.kp T.B_part_row (a_cons (x_esc (x_globI rfl T.c_PUT_IN)) (a_cons (x_esc (x_callB b_len rfl T.z_len (by decide +kernel) (a_cons (x_var 4) a_nil))) a_nil)))) (x_var 4)) (x_call O_part_row (hr.mono (by decide)) rfl T.G_part_row T.F_part_row.kp T.B_part_row (a_cons (x_esc (x_globI rfl T.c_KEPT)) (a_cons (x_esc (x_var 3)) a_nil)))))))))))))
theorem sc__law_is_row : FnScope ["thing", "byte"] ["thing"] (defScope (topS 41)) := ⟨rfl, rfl, rfl, by decide +kernel, rfl, by decide +kernel, by decide +kernel⟩
theorem ok__law_is_row (T : Txt K mg fa fd ci) : FnOk P w K mg base (L2.CX P w) 3 (fa 24) (fd 24) ["thing"] (spF K ci [false] d__law_is_row) := by
  have O__law_is_within := ok__law_is_within (P := P) (w := w) (base := base) T
  refine fn_ok (k := 2) T.F__law_is_row sc__law_is_row rfl fun cdv A outer s H E hr => ?_
  have hu := hr.units
  have nd := sc__law_is_row.nd
  exact (s_cons (s_if (t_w (w_or (t_not (t_val (x_isi tab_tuple rfl T.z_isinstance (by decide +kernel) rfl T.z_tuple (by decide +kernel) (x_var 0)))) (w_or1 (t_cmp o_gt (x_callB b_len rfl T.z_len (by decide +kernel) (a_cons (x_var 0) a_nil)) x_int (nomark _))))) (s_one (s_ret x_bl)) s_nil)
  (s_one (s_ret (x_cmp (o_eq hu) (x_callB b_len rfl T.z_len (by decide +kernel) (a_cons (x_lc (own := [("byte", 1)]) rfl nd (i_tup (x_esc (x_var 0))) (blkOk_by (N := ["thing", "byte"]) (sc := defScope (topS 41)) (by decide +kernel)) (fun _ => (g_nm (by decide) nd)) (SndIfs.one fun _ => (t_not (t_val (x_call O__law_is_within (hr.mono (by decide)) rfl T.G__law_is_within T.F__law_is_within.kp T.B__law_is_within (a_cons (x_esc (x_var 1)) (a_cons x_int (a_cons x_int a_nil))))))) (fun _ => (x_var 1)) (by decide) (by decide)) a_nil)) x_int (nomark _)))))
theorem sc__law_bytes : FnScope ["hand", "most", "found", "k"] ["hand", "most"] (defScope (topS 42)) := ⟨rfl, rfl, rfl, by decide +kernel, rfl, by decide +kernel, by decide +kernel⟩
theorem ok__law_bytes (T : Txt K mg fa fd ci) : FnOk P w K mg base (L2.CX P w) 3 (fa 25) (fd 25) ["hand", "most"] (spF K ci [true, false] d__law_bytes) := by
  have O__law_take := ok__law_take (P := P) (w := w) (base := base) T
  have O__law_pick := ok__law_pick (P := P) (w := w) (base := base) T
  refine fn_ok (k := 2) T.F__law_bytes sc__law_bytes rfl fun cdv A outer s H E hr => ?_
  have hu := hr.units
  have nd := sc__law_bytes.nd
  exact (s_cons (s_own (i := 2) (by decide) (x_lst a_nil) nd)
  (s_cons (s_for (passes_of rfl) rfl (i_rng1 rfl T.z_range (x_call O__law_take (hr.mono (by decide)) rfl T.G__law_take T.F__law_take.kp T.B__law_take (a_cons (x_var 0) (a_cons (x_esc (x_op o_add (x_var 1) x_int)) a_nil)))) (g_nm (by decide) nd) (s_one (s_app 2 (x_esc (x_call O__law_pick (hr.mono (by decide)) rfl T.G__law_pick T.F__law_pick.kp T.B__law_pick (a_cons (x_var 0) (a_cons (x_esc (x_lst (a_cons x_int (a_cons x_int (a_cons x_int (a_cons x_int (a_cons x_int (a_cons x_int (a_cons x_int (a_cons x_int (a_cons (x_esc (x_call O__law_take (hr.mono (by decide)) rfl T.G__law_take T.F__law_take.kp T.B__law_take (a_cons (x_var 0) (a_cons x_int a_nil)))) (a_cons (x_esc (x_call O__law_take (hr.mono (by decide)) rfl T.G__law_take T.F__law_take.kp T.B__law_take (a_cons (x_var 0) (a_cons x_int a_nil)))) a_nil)))))))))))) a_nil)))))))
  (s_one (s_ret (x_callTy b_tuple rfl T.z_tuple (by decide +kernel) (a_cons (x_var 2) a_nil))))))
theorem sc_is_row : FnScope ["thing", "item"] ["thing"] (defScope (topS 14)) := ⟨rfl, rfl, rfl, by decide +kernel, rfl, by decide +kernel, by decide +kernel⟩
theorem ok_is_row (T : Txt K mg fa fd ci) : FnOk P w K mg base (L2.CX P w) 4 (fa 3) (fd 3) ["thing"] (spF K ci [false] d_is_row) := by
  have O_is_below := ok_is_below (P := P) (w := w) (base := base) T
  refine fn_ok (k := 3) T.F_is_row sc_is_row rfl fun cdv A outer s H E hr => ?_
  have hu := hr.units
  have nd := sc_is_row.nd
  exact (s_one (s_ret (x_and (x_isi tab_tuple rfl T.z_isinstance (by decide +kernel) rfl T.z_tuple (by decide +kernel) (x_var 0)) (x_and (x_cmp o_le (x_callB b_len rfl T.z_len (by decide +kernel) (a_cons (x_var 0) a_nil)) (x_globI rfl T.c_MOST_BYTES) (nomark _)) (x_one (x_callB b_all rfl T.z_all (by decide +kernel) (a_cons (x_lc (own := [("item", 1)]) rfl nd (i_tup (x_esc (x_var 0))) (blkOk_by (N := ["thing", "item"]) (sc := defScope (topS 14)) (by decide +kernel)) (fun _ => (g_nm (by decide) nd)) SndIfs.none (fun _ => (x_call O_is_below (hr.mono (by decide)) rfl T.G_is_below T.F_is_below.kp T.B_is_below (a_cons (x_esc (x_var 1)) (a_cons (x_esc (x_globI rfl T.c_BYTE)) a_nil)))) (by decide) (by decide)) a_nil)))))))
theorem sc__law_parts : FnScope ["hand", "one", "found", "k", "way", "many", "at", "j"] ["hand", "one"] (defScope (topS 43)) := ⟨rfl, rfl, rfl, by decide +kernel, rfl, by decide +kernel, by decide +kernel⟩
theorem ok__law_parts (T : Txt K mg fa fd ci) : FnOk P w K mg base (L2.CX P w) 4 (fa 26) (fd 26) ["hand", "one"] (spF K ci [true, false] d__law_parts) := by
  have O__law_take := ok__law_take (P := P) (w := w) (base := base) T
  have O__law_figures := ok__law_figures (P := P) (w := w) (base := base) T
  have O__law_pick := ok__law_pick (P := P) (w := w) (base := base) T
  have O__law_bytes := ok__law_bytes (P := P) (w := w) (base := base) T
  refine fn_ok (k := 3) T.F__law_parts sc__law_parts rfl fun cdv A outer s H E hr => ?_
  have hu := hr.units
  have nd := sc__law_parts.nd
  exact (s_cons (s_set (i := 2) (by decide) (x_tup a_nil) nd)
  (s_cons (s_for (passes_of rfl) rfl (i_rng1 rfl T.z_range (x_call O__law_take (hr.mono (by decide)) rfl T.G__law_take T.F__law_take.kp T.B__law_take (a_cons (x_var 0) (a_cons x_int a_nil)))) (g_nm (by decide) nd) (s_cons (s_set (i := 4) (by decide) (x_call O__law_take (hr.mono (by decide)) rfl T.G__law_take T.F__law_take.kp T.B__law_take (a_cons (x_var 0) (a_cons x_int a_nil))) nd)
  (s_cons (s_set (i := 5) (by decide) (x_call O__law_take (hr.mono (by decide)) rfl T.G__law_take T.F__law_take.kp T.B__law_take (a_cons (x_var 0) (a_cons (x_esc (x_op o_add x_int (x_call O__law_pick (hr.mono (by decide)) rfl T.G__law_pick T.F__law_pick.kp T.B__law_pick (a_cons (x_var 0) (a_cons (x_esc (x_lst (a_cons x_int (a_cons x_int (a_cons (x_esc (x_op o_add (x_callB b_len rfl T.z_len (by decide +kernel) (a_cons (x_var 1) a_nil)) x_int)) (a_cons x_int a_nil)))))) a_nil))))) a_nil))) nd)
  (s_cons (s_set (i := 2) (by decide) (x_op o_add (x_var 2) (x_call O__law_figures (hr.mono (by decide)) rfl T.G__law_figures T.F__law_figures.kp T.B__law_figures (a_cons (x_esc (x_op o_add (x_op o_mul x_int (x_var 5)) (x_var 4))) a_nil))) nd)
  (s_one (s_if (t_cmp (o_eq hu) (x_var 4) x_int (nomark _)) (s_one (s_set (i := 2) (by decide) (x_op o_add (x_var 2) (x_callTy b_tuple rfl T.z_tuple (by decide +kernel) (a_cons (x_lc (own := [("j", 7)]) rfl nd (i_rng1 rfl T.z_range (x_callB b_max2 rfl T.z_max (by decide +kernel) (a_cons x_int (a_cons (x_op o_sub (x_var 5) (x_callTy b_int rfl T.z_int (by decide +kernel) (a_cons (x_cmp (o_eq hu) (x_call O__law_take (hr.mono (by decide)) rfl T.G__law_take T.F__law_take.kp T.B__law_take (a_cons (x_var 0) (a_cons x_int a_nil))) x_int (nomark _)) a_nil))) a_nil)))) (blkOk_by (N := ["hand", "one", "found", "k", "way", "many", "at", "j"]) (sc := defScope (topS 43)) (by decide +kernel)) (fun _ => (g_nm (by decide) nd)) SndIfs.none (fun _ => (x_call O__law_take (hr.mono (by decide)) rfl T.G__law_take T.F__law_take.kp T.B__law_take (a_cons (x_var 0) (a_cons x_int a_nil)))) (by decide) (by decide)) a_nil))) nd)) s_nil))))))
  (s_cons (s_if (t_cmp (o_eq hu) (x_call O__law_take (hr.mono (by decide)) rfl T.G__law_take T.F__law_take.kp T.B__law_take (a_cons (x_var 0) (a_cons x_int a_nil))) x_int (nomark _)) (s_cons (s_set (i := 6) (by decide) (x_call O__law_take (hr.mono (by decide)) rfl T.G__law_take T.F__law_take.kp T.B__law_take (a_cons (x_var 0) (a_cons (x_esc (x_op o_add (x_callB b_len rfl T.z_len (by decide +kernel) (a_cons (x_var 2) a_nil)) x_int)) a_nil))) nd)
  (s_one (s_ret (x_op o_add (x_op o_add (x_slice (x_var 2) so_none (so_some (x_var 6))) (x_call O__law_bytes (hr.mono (by decide)) rfl T.G__law_bytes T.F__law_bytes.kp T.B__law_bytes (a_cons (x_var 0) (a_cons x_int a_nil)))) (x_slice (x_var 2) (so_some (x_var 6)) so_none))))) s_nil)
  (s_one (s_ret (x_var 2))))))
theorem sc__law_near_row : FnScope ["hand", "one", "way", "at", "more"] ["hand", "one"] (defScope (topS 45)) := ⟨rfl, rfl, rfl, by decide +kernel, rfl, by decide +kernel, by decide +kernel⟩
theorem ok__law_near_row (T : Txt K mg fa fd ci) : FnOk P w K mg base (L2.CX P w) 4 (fa 28) (fd 28) ["hand", "one"] (spF K ci [true, false] d__law_near_row) := by
  have O__law_take := ok__law_take (P := P) (w := w) (base := base) T
  have O__law_bytes := ok__law_bytes (P := P) (w := w) (base := base) T
  refine fn_ok (k := 3) T.F__law_near_row sc__law_near_row rfl fun cdv A outer s H E hr => ?_
  have hu := hr.units
  have nd := sc__law_near_row.nd
  exact (s_cons (s_set (i := 2) (by decide) (x_call O__law_take (hr.mono (by decide)) rfl T.G__law_take T.F__law_take.kp T.B__law_take (a_cons (x_var 0) (a_cons x_int a_nil))) nd)
  (s_cons (s_set (i := 3) (by decide) (x_call O__law_take (hr.mono (by decide)) rfl T.G__law_take T.F__law_take.kp T.B__law_take (a_cons (x_var 0) (a_cons (x_esc (x_op o_add (x_callB b_len rfl T.z_len (by decide +kernel) (a_cons (x_var 1) a_nil)) x_int)) a_nil))) nd)
  (s_cons (s_set (i := 4) (by decide) (x_call O__law_bytes (hr.mono (by decide)) rfl T.G__law_bytes T.F__law_bytes.kp T.B__law_bytes (a_cons (x_var 0) (a_cons x_int a_nil))) nd)
  (s_cons (s_if (t_cmp (o_eq hu) (x_var 2) x_int (nomark _)) (s_one (s_ret (x_var 1))) s_nil)
  (s_cons (s_if (t_cmp (o_eq hu) (x_var 2) x_int (nomark _)) (s_one (s_ret (x_slice (x_var 1) so_none (so_some (x_var 3))))) s_nil)
  (s_cons (s_if (t_cmp (o_eq hu) (x_var 2) x_int (nomark _)) (s_one (s_ret (x_op o_add (x_var 4) (x_slice (x_var 1) (so_some (x_var 3)) so_none)))) s_nil)
  (s_cons (s_if (t_cmp (o_eq hu) (x_var 2) x_int (nomark _)) (s_one (s_ret (x_var 4))) s_nil)
  (s_cons (s_if (t_cmp (o_eq hu) (x_var 2) x_int (nomark _)) (s_one (s_ret (x_op o_add (x_var 1) (x_var 4)))) s_nil)
  (s_one (s_ret (x_op o_add (x_op o_add (x_slice (x_var 1) so_none (so_some (x_var 3))) (x_var 4)) (x_slice (x_var 1) (so_some (x_op o_add (x_var 3) (x_call O__law_take (hr.mono (by decide)) rfl T.G__law_take T.F__law_take.kp T.B__law_take (a_cons (x_var 0) (a_cons x_int a_nil))))) so_none))))))))))))
theorem sc_check_row : FnScope ["thing"] ["thing"] (defScope (topS 15)) := ⟨rfl, rfl, rfl, by decide +kernel, rfl, by decide +kernel, by decide +kernel⟩
theorem ok_check_row (T : Txt K mg fa fd ci) : FnOk P w K mg base (L2.CX P w) 5 (fa 4) (fd 4) ["thing"] (spF K ci [false] d_check_row) := by
  have O_is_row := ok_is_row (P := P) (w := w) (base := base) T
  refine fn_ok (k := 4) T.F_check_row sc_check_row rfl fun cdv A outer s H E hr => ?_
  have hu := hr.units
  have nd := sc_check_row.nd
  exact (s_one (s_if (t_not (t_val (x_call O_is_row (hr.mono (by decide)) rfl T.G_is_row T.F_is_row.kp T.B_is_row (a_cons (x_esc (x_var 0)) a_nil)))) (s_one (s_raise0 (c := 1) rfl T.x_NoRow T.g_NoRow T.k_NoRow T.e_NoRow T.t_NoRow rfl)) s_nil))
theorem sc_changed : FnScope ["one", "change", "found", "wrong"] ["one", "change"] (defScope (topS 25)) := ⟨rfl, rfl, rfl, by decide +kernel, rfl, by decide +kernel, by decide +kernel⟩
theorem ok_changed (T : Txt K mg fa fd ci) : FnOk P w K mg base (L2.CX P w) 6 (fa 9) (fd 9) ["one", "change"] (spF K ci [false, false] d_changed) := by
  have O_check_row := ok_check_row (P := P) (w := w) (base := base) T
  have O_changed_or_wrong := ok_changed_or_wrong (P := P) (w := w) (base := base) T
  refine fn_ok (k := 5) T.F_changed sc_changed rfl fun cdv A outer s H E hr => ?_
  have hu := hr.units
  have nd := sc_changed.nd
  exact (s_cons (s_drop (x_call O_check_row (hr.mono (by decide)) rfl T.G_check_row T.F_check_row.kp T.B_check_row (a_cons (x_esc (x_var 0)) a_nil)))
  (s_cons (s_drop (x_call O_check_row (hr.mono (by decide)) rfl T.G_check_row T.F_check_row.kp T.B_check_row (a_cons (x_esc (x_var 1)) a_nil)))
  (s_cons (s_un (x_call O_changed_or_wrong (hr.mono (by decide)) rfl T.G_changed_or_wrong T.F_changed_or_wrong.kp T.B_changed_or_wrong (a_cons (x_esc (x_var 0)) (a_cons (x_esc (x_var 1)) a_nil))) (g_tp rfl (gs_cons (g_nm (by decide) nd) (gs_cons (g_nm (by decide) nd) gs_nil))))
  (s_cons (s_if (t_cmp o_isNot (x_var 3) x_non (nomark _)) (s_one (s_raiseF rfl T.ec_BadChange (in_BadChange (P := P) (w := w) (base := base) T) (hr.mono (by decide)) T.BI_BadChange rfl T.g_BadChange (by decide) (a_cons (x_esc (x_var 3)) a_nil))) s_nil)
  (s_one (s_ret (x_var 2)))))))
theorem sc_change : FnScope ["one", "other"] ["one", "other"] (defScope (topS 30)) := ⟨rfl, rfl, rfl, by decide +kernel, rfl, by decide +kernel, by decide +kernel⟩
theorem ok_change (T : Txt K mg fa fd ci) : FnOk P w K mg base (L2.CX P w) 6 (fa 14) (fd 14) ["one", "other"] (spF K ci [false, false] d_change) := by
  have O_check_row := ok_check_row (P := P) (w := w) (base := base) T
  have O_change_of := ok_change_of (P := P) (w := w) (base := base) T
  refine fn_ok (k := 5) T.F_change sc_change rfl fun cdv A outer s H E hr => ?_
  have hu := hr.units
  have nd := sc_change.nd
  exact (s_cons (s_drop (x_call O_check_row (hr.mono (by decide)) rfl T.G_check_row T.F_check_row.kp T.B_check_row (a_cons (x_esc (x_var 0)) a_nil)))
  (s_cons (s_drop (x_call O_check_row (hr.mono (by decide)) rfl T.G_check_row T.F_check_row.kp T.B_check_row (a_cons (x_esc (x_var 1)) a_nil)))
  (s_one (s_ret (x_call O_change_of (hr.mono (by decide)) rfl T.G_change_of T.F_change_of.kp T.B_change_of (a_cons (x_esc (x_var 0)) (a_cons (x_esc (x_var 1)) a_nil)))))))
theorem sc_is_change : FnScope ["one", "other", "thing"] ["one", "other", "thing"] (defScope (topS 31)) := ⟨rfl, rfl, rfl, by decide +kernel, rfl, by decide +kernel, by decide +kernel⟩
theorem ok_is_change (T : Txt K mg fa fd ci) : FnOk P w K mg base (L2.CX P w) 6 (fa 15) (fd 15) ["one", "other", "thing"] (spF K ci [false, false, false] d_is_change) := by
  have O_check_row := ok_check_row (P := P) (w := w) (base := base) T
  have O_is_row := ok_is_row (P := P) (w := w) (base := base) T
  have O_changed_or_wrong := ok_changed_or_wrong (P := P) (w := w) (base := base) T
  refine fn_ok (k := 5) T.F_is_change sc_is_change rfl fun cdv A outer s H E hr => ?_
  have hu := hr.units
  have nd := sc_is_change.nd
  exact (s_cons (s_drop (x_call O_check_row (hr.mono (by decide)) rfl T.G_check_row T.F_check_row.kp T.B_check_row (a_cons (x_esc (x_var 0)) a_nil)))
  (s_cons (s_drop (x_call O_check_row (hr.mono (by decide)) rfl T.G_check_row T.F_check_row.kp T.B_check_row (a_cons (x_esc (x_var 1)) a_nil)))
  (s_one (s_ret (x_and (x_call O_is_row (hr.mono (by decide)) rfl T.G_is_row T.F_is_row.kp T.B_is_row (a_cons (x_esc (x_var 2)) a_nil)) (x_one (x_cmp (o_eq hu) (x_call O_changed_or_wrong (hr.mono (by decide)) rfl T.G_changed_or_wrong T.F_changed_or_wrong.kp T.B_changed_or_wrong (a_cons (x_esc (x_var 0)) (a_cons (x_esc (x_var 2)) a_nil))) (x_tup (a_cons (x_esc (x_var 1)) (a_cons x_non a_nil))) (nomark _))))))))
theorem sc__law_same : FnScope ["actual", "due", "one", "other"] ["actual", "due"] (defScope (topS 38)) := ⟨rfl, rfl, rfl, by decide +kernel, rfl, by decide +kernel, by decide +kernel⟩
theorem ok__law_same (T : Txt K mg fa fd ci) : ∀ n : Nat, FnOk P w K mg base (L2.CX P w) (1 + n) (fa 21) (fd 21) ["actual", "due"] (spF K ci [false, false] (d__law_same n)) := by
  have O__law_is_integer := ok__law_is_integer (P := P) (w := w) (base := base) T
  intro n
  induction n with
  | zero => exact fn_zero rfl
  | succ n ih =>
    refine fn_ok (k := 1 + n) T.F__law_same sc__law_same rfl fun cdv A outer s H E hr => ?_
    have hu := hr.units
    have nd := sc__law_same.nd
    have F0 := ih
    have hr0 := hr
    exact (s_cons (s_if (t_cmp o_is (x_var 1) x_non (nomark _)) (s_one (s_ret (x_cmp o_is (x_var 0) x_non (nomark _)))) s_nil)
  (s_cons (s_if (t_cmp o_is (x_var 1) x_bl (nomark _)) (s_one (s_ret (x_cmp o_is (x_var 0) x_bl (nomark _)))) s_nil)
  (s_cons (s_if (t_cmp o_is (x_var 1) x_bl (nomark _)) (s_one (s_ret (x_cmp o_is (x_var 0) x_bl (nomark _)))) s_nil)
  (s_cons (s_if (t_val (x_isi tab_int rfl T.z_isinstance (by decide +kernel) rfl T.z_int (by decide +kernel) (x_var 1))) (s_one (s_ret (x_and (x_call O__law_is_integer (hr.mono (by omega)) rfl T.G__law_is_integer T.F__law_is_integer.kp T.B__law_is_integer (a_cons (x_esc (x_var 0)) a_nil)) (x_one (x_cmp (o_eq hu) (x_var 0) (x_var 1) (nomark _)))))) s_nil)
  (s_cons (s_if (t_val (x_isi tab_str rfl T.z_isinstance (by decide +kernel) rfl T.z_str (by decide +kernel) (x_var 1))) (s_one (s_ret (x_and (x_isi tab_str rfl T.z_isinstance (by decide +kernel) rfl T.z_str (by decide +kernel) (x_var 0)) (x_one (x_cmp (o_eq hu) (x_var 0) (x_var 1) (nomark _)))))) s_nil)
  (s_cons (s_if (t_w (w_or (t_cmp (o_ne hu) (x_isi tab_tuple rfl T.z_isinstance (by decide +kernel) rfl T.z_tuple (by decide +kernel) (x_var 1)) (x_isi tab_tuple rfl T.z_isinstance (by decide +kernel) rfl T.z_tuple (by decide +kernel) (x_var 0)) (nomark _)) (w_or1 (t_cmp (o_ne hu) (x_isi tab_list rfl T.z_isinstance (by decide +kernel) rfl T.z_list (by decide +kernel) (x_var 1)) (x_isi tab_list rfl T.z_isinstance (by decide +kernel) rfl T.z_list (by decide +kernel) (x_var 0)) (nomark _))))) (s_one (s_ret x_bl)) s_nil)
  (s_cons (s_if (t_cmp (o_ne hu) (x_callB b_len rfl T.z_len (by decide +kernel) (a_cons (x_var 0) a_nil)) (x_callB b_len rfl T.z_len (by decide +kernel) (a_cons (x_var 1) a_nil)) (nomark _)) (s_one (s_ret x_bl)) s_nil)
  (s_cons (s_for (passes_of rfl) rfl (i_zip rfl T.z_zip (x_esc (x_var 0)) (x_esc (x_var 1))) (g_tp rfl (gs_cons (g_nm (by decide) nd) (gs_cons (g_nm (by decide) nd) gs_nil))) (s_one (s_if (t_not (t_val (x_call F0 hr0 rfl T.G__law_same T.F__law_same.kp T.B__law_same (a_cons (x_esc (x_var 2)) (a_cons (x_esc (x_var 3)) a_nil))))) (s_one (s_ret x_bl)) s_nil)))
  (s_one (s_ret x_bl))))))))))
theorem sc__law_told : FnScope ["one", "thing", "error"] ["one", "thing"] (defScope (topS 46)) := ⟨rfl, rfl, rfl, by decide +kernel, rfl, by decide +kernel, by decide +kernel⟩
theorem ok__law_told (T : Txt K mg fa fd ci) : FnOk P w K mg base (L2.CX P w) 7 (fa 29) (fd 29) ["one", "thing"] (spF K ci [false, false] d__law_told) := by
  have O_changed := ok_changed (P := P) (w := w) (base := base) T
  refine fn_ok (k := 6) T.F__law_told sc__law_told rfl fun cdv A outer s H E hr => ?_
  have hu := hr.units
  have nd := sc__law_told.nd
  exact (s_one (s_tryA rfl rfl (fun _ _ hp => (s_one (s_ret (x_tup (a_cons x_str (a_cons (x_esc (x_call O_changed (hr.mono (by decide)) rfl T.G_changed T.F_changed.kp T.B_changed (a_cons (x_esc (x_var 0)) (a_cons (x_esc (x_var 1)) a_nil)))) a_nil)))))) (SndAs.pl (T.n_NoRow rfl rfl) T.s_NoRow (fun _ _ _ => (s_one (s_ret (x_tup (a_cons x_str a_nil))))) (SndAs.as (i := 2) (T.n_BadChange rfl rfl) T.s_BadChange nd (by decide) rfl rfl (fun a o d k pn hz hf => (s_one (s_ret (x_tup (a_cons x_str (a_cons (x_esc (x_xf (i := 2) T.ec_BadChange.X (T.ec_BadChange.no _ (by decide)) hz hf)) a_nil)))))) SndAs.nil))))
theorem sc__law_refused : FnScope ["one", "other", "found"] ["one", "other"] (defScope (topS 47)) := ⟨rfl, rfl, rfl, by decide +kernel, rfl, by decide +kernel, by decide +kernel⟩
theorem ok__law_refused (T : Txt K mg fa fd ci) : FnOk P w K mg base (L2.CX P w) 7 (fa 30) (fd 30) ["one", "other"] (spF K ci [false, false] d__law_refused) := by
  have O_change := ok_change (P := P) (w := w) (base := base) T
  have O_is_change := ok_is_change (P := P) (w := w) (base := base) T
  refine fn_ok (k := 6) T.F__law_refused sc__law_refused rfl fun cdv A outer s H E hr => ?_
  have hu := hr.units
  have nd := sc__law_refused.nd
  exact (s_cons (s_set (i := 2) (by decide) x_int nd)
  (s_cons (s_try rfl rfl (fun _ _ hp => (s_one (s_drop (x_call O_change (hr.mono (by decide)) rfl T.G_change T.F_change.kp T.B_change (a_cons (x_esc (x_var 0)) (a_cons (x_esc (x_var 1)) a_nil)))))) (SndHs.cons (T.n_NoRow rfl rfl) T.s_NoRow (fun _ _ _ => (s_one (s_set (i := 2) (by decide) (x_op o_add (x_var 2) x_int) nd))) SndHs.nil))
  (s_cons (s_try rfl rfl (fun _ _ hp => (s_one (s_drop (x_call O_is_change (hr.mono (by decide)) rfl T.G_is_change T.F_is_change.kp T.B_is_change (a_cons (x_esc (x_var 0)) (a_cons (x_esc (x_var 1)) (a_cons (x_tup a_nil) a_nil))))))) (SndHs.cons (T.n_NoRow rfl rfl) T.s_NoRow (fun _ _ _ => (s_one (s_set (i := 2) (by decide) (x_op o_add (x_var 2) x_int) nd))) SndHs.nil))
  (s_one (s_ret (x_cmp (o_eq hu) (x_var 2) x_int (nomark _)))))))
theorem sc_law : FnScope ["script", "hand", "one", "k", "thing", "due", "other", "told", "odd"] ["script"] (defScope (topS 48)) := ⟨rfl, rfl, rfl, by decide +kernel, rfl, by decide +kernel, by decide +kernel⟩
theorem ok_law (T : Txt K mg fa fd ci) : FnOk P w K mg base (L2.CX P w) 8 (fa 31) (fd 31) ["script"] (spF K ci [false] d_law) := by
  have O__law_hand := ok__law_hand (P := P) (w := w) (base := base) T
  have O__law_bytes := ok__law_bytes (P := P) (w := w) (base := base) T
  have O__law_take := ok__law_take (P := P) (w := w) (base := base) T
  have O__law_parts := ok__law_parts (P := P) (w := w) (base := base) T
  have O__law_led := ok__law_led (P := P) (w := w) (base := base) T
  have O__law_near_row := ok__law_near_row (P := P) (w := w) (base := base) T
  have O_change := ok_change (P := P) (w := w) (base := base) T
  have O__law_pick := ok__law_pick (P := P) (w := w) (base := base) T
  have O__law_same := ok__law_same (P := P) (w := w) (base := base) T 5
  have O_is_change := ok_is_change (P := P) (w := w) (base := base) T
  have O__law_refused := ok__law_refused (P := P) (w := w) (base := base) T
  have O__law_told := ok__law_told (P := P) (w := w) (base := base) T
  have O__law_is_row := ok__law_is_row (P := P) (w := w) (base := base) T
  have O_changed := ok_changed (P := P) (w := w) (base := base) T
  refine fn_ok (k := 7) T.F_law sc_law rfl fun cdv A outer s H E hr => ?_
  have hu := hr.units
  have nd := sc_law.nd
  exact (s_cons (s_own (i := 1) (by decide) (x_call O__law_hand (hr.mono (by decide)) rfl T.G__law_hand T.F__law_hand.kp T.B__law_hand (a_cons (x_esc (x_var 0)) a_nil)) nd)
  (s_cons (s_set (i := 2) (by decide) (x_call O__law_bytes (hr.mono (by decide)) rfl T.G__law_bytes T.F__law_bytes.kp T.B__law_bytes (a_cons (x_var 1) (a_cons x_int a_nil))) nd)
  (s_cons (s_if (t_cmp (o_eq hu) (x_call O__law_take (hr.mono (by decide)) rfl T.G__law_take T.F__law_take.kp T.B__law_take (a_cons (x_var 1) (a_cons x_int a_nil))) x_int (nomark _)) (s_one (s_set (i := 2) (by decide) (x_op o_mul (x_op o_add (x_var 2) (x_tup (a_cons x_int (a_cons x_int (a_cons x_int a_nil))))) x_int) nd)) s_nil)
  (s_cons (s_for (passes_of rfl) rfl (i_rng1 rfl T.z_range x_int) (g_nm (by decide) nd) (s_cons (s_set (i := 4) (by decide) (x_call O__law_parts (hr.mono (by decide)) rfl T.G__law_parts T.F__law_parts.kp T.B__law_parts (a_cons (x_var 1) (a_cons (x_esc (x_var 2)) a_nil))) nd)
  (s_cons (s_set (i := 5) (by decide) (x_call O__law_led (hr.mono (by decide)) rfl T.G__law_led T.F__law_led.kp T.B__law_led (a_cons (x_esc (x_var 2)) (a_cons (x_esc (x_var 4)) a_nil))) nd)
  (s_cons (s_if (t_not (t_val (x_call O__law_same (hr.mono (by decide)) rfl T.G__law_same T.F__law_same.kp T.B__law_same (a_cons (x_esc (x_call O__law_told (hr.mono (by decide)) rfl T.G__law_told T.F__law_told.kp T.B__law_told (a_cons (x_esc (x_var 2)) (a_cons (x_esc (x_var 4)) a_nil)))) (a_cons (x_esc (x_var 5)) a_nil))))) (s_one (s_ret x_bl)) s_nil)
  (s_cons (s_set (i := 6) (by decide) (x_call O__law_near_row (hr.mono (by decide)) rfl T.G__law_near_row T.F__law_near_row.kp T.B__law_near_row (a_cons (x_var 1) (a_cons (x_esc (x_var 2)) a_nil))) nd)
  (s_cons (s_set (i := 7) (by decide) (x_call O_change (hr.mono (by decide)) rfl T.G_change T.F_change.kp T.B_change (a_cons (x_esc (x_var 2)) (a_cons (x_esc (x_var 6)) a_nil))) nd)
  (s_cons (s_if (t_w (w_or (t_not (t_val (x_call O__law_is_row (hr.mono (by decide)) rfl T.G__law_is_row T.F__law_is_row.kp T.B__law_is_row (a_cons (x_esc (x_var 7)) a_nil)))) (w_or (t_cmp o_gt (x_callB b_len rfl T.z_len (by decide +kernel) (a_cons (x_var 7) a_nil)) (x_op o_add (x_callB b_len rfl T.z_len (by decide +kernel) (a_cons (x_var 6) a_nil)) x_int) (nomark _)) (w_or1 (t_w (w_and (t_cmp (o_eq hu) (x_var 2) (x_var 6) (nomark _)) (w_and1 (t_cmp o_gt (x_callB b_len rfl T.z_len (by decide +kernel) (a_cons (x_var 7) a_nil)) x_int (nomark _))))))))) (s_one (s_ret x_bl)) s_nil)
  (s_cons (s_if (t_w (w_or (t_not (t_val (x_call O__law_same (hr.mono (by decide)) rfl T.G__law_same T.F__law_same.kp T.B__law_same (a_cons (x_esc (x_call O__law_led (hr.mono (by decide)) rfl T.G__law_led T.F__law_led.kp T.B__law_led (a_cons (x_esc (x_var 2)) (a_cons (x_esc (x_var 7)) a_nil)))) (a_cons (x_tup (a_cons x_str (a_cons (x_esc (x_var 6)) a_nil))) a_nil))))) (w_or1 (t_not (t_val (x_call O__law_same (hr.mono (by decide)) rfl T.G__law_same T.F__law_same.kp T.B__law_same (a_cons (x_esc (x_call O_changed (hr.mono (by decide)) rfl T.G_changed T.F_changed.kp T.B_changed (a_cons (x_esc (x_var 2)) (a_cons (x_esc (x_var 7)) a_nil)))) (a_cons (x_esc (x_var 6)) a_nil)))))))) (s_one (s_ret x_bl)) s_nil)
  (s_cons (s_if (t_cmp o_isNot (x_call O_is_change (hr.mono (by decide)) rfl T.G_is_change T.F_is_change.kp T.B_is_change (a_cons (x_esc (x_var 2)) (a_cons (x_esc (x_var 6)) (a_cons (x_esc (x_var 7)) a_nil)))) x_bl (nomark _)) (s_one (s_ret x_bl)) s_nil)
  (s_cons (s_if (t_not (t_val (x_call O__law_same (hr.mono (by decide)) rfl T.G__law_same T.F__law_same.kp T.B__law_same (a_cons (x_esc (x_call O_is_change (hr.mono (by decide)) rfl T.G_is_change T.F_is_change.kp T.B_is_change (a_cons (x_esc (x_var 2)) (a_cons (x_esc (x_var 6)) (a_cons (x_esc (x_var 4)) a_nil))))) (a_cons (x_cmp (o_eq hu) (x_var 5) (x_tup (a_cons x_str (a_cons (x_esc (x_var 6)) a_nil))) (nomark _)) a_nil))))) (s_one (s_ret x_bl)) s_nil)
  (s_one (s_if (t_w (w_and (t_cmp (o_eq hu) (x_ix ix_all (x_var 5) x_int) x_str (nomark _)) (w_and1 (t_cmp o_isNot (x_call O_is_change (hr.mono (by decide)) rfl T.G_is_change T.F_is_change.kp T.B_is_change (a_cons (x_esc (x_var 2)) (a_cons (x_esc (x_ix ix_all (x_var 5) x_int)) (a_cons (x_esc (x_var 4)) a_nil)))) x_bl (nomark _))))) (s_one (s_ret x_bl)) s_nil))))))))))))
  (s_cons (s_set (i := 8) (by decide) (x_if (t_cmp o_gt (x_call O__law_take (hr.mono (by decide)) rfl T.G__law_take T.F__law_take.kp T.B__law_take (a_cons (x_var 1) (a_cons x_int a_nil))) x_int (nomark _)) (x_call O__law_pick (hr.mono (by decide)) rfl T.G__law_pick T.F__law_pick.kp T.B__law_pick (a_cons (x_var 1) (a_cons (x_esc (x_lst (a_cons (x_esc (x_callTy b_list rfl T.z_list (by decide +kernel) (a_cons (x_var 2) a_nil))) (a_cons (x_tup (a_cons x_int a_nil)) (a_cons (x_tup (a_cons x_bl a_nil)) (a_cons x_non (a_cons x_str (a_cons (x_esc x_dict0) a_nil)))))))) a_nil))) (x_op o_mul (x_tup (a_cons x_int a_nil)) x_int)) nd)
  (s_cons (s_if (t_w (w_or (t_not (t_val (x_call O__law_refused (hr.mono (by decide)) rfl T.G__law_refused T.F__law_refused.kp T.B__law_refused (a_cons (x_esc (x_var 8)) (a_cons (x_esc (x_var 2)) a_nil))))) (w_or (t_not (t_val (x_call O__law_refused (hr.mono (by decide)) rfl T.G__law_refused T.F__law_refused.kp T.B__law_refused (a_cons (x_esc (x_var 2)) (a_cons (x_esc (x_var 8)) a_nil))))) (w_or1 (t_cmp o_isNot (x_call O_is_change (hr.mono (by decide)) rfl T.G_is_change T.F_is_change.kp T.B_is_change (a_cons (x_esc (x_var 2)) (a_cons (x_esc (x_var 2)) (a_cons (x_esc (x_var 8)) a_nil)))) x_bl (nomark _)))))) (s_one (s_ret x_bl)) s_nil)
  (s_one (s_ret (x_and (x_cmp (o_eq hu) (x_call O__law_told (hr.mono (by decide)) rfl T.G__law_told T.F__law_told.kp T.B__law_told (a_cons (x_esc (x_var 8)) (a_cons (x_tup a_nil) a_nil))) (x_tup (a_cons x_str a_nil)) (nomark _)) (x_one (x_cmp (o_eq hu) (x_call O__law_told (hr.mono (by decide)) rfl T.G__law_told T.F__law_told.kp T.B__law_told (a_cons (x_esc (x_var 2)) (a_cons (x_esc (x_var 8)) a_nil))) (x_tup (a_cons x_str a_nil)) (nomark _))))))))))))
end
end K26

set_option maxRecDepth 100000
set_option maxHeartbeats 4000000
namespace K26
open PySem BV
theorem c_integer : d_is_integer = dInteger := rfl
theorem c_linteger : d__law_is_integer = dInteger := rfl
theorem c_within : d_is_within = dWithin := rfl
theorem c_lwithin : d__law_is_within = dLWithin := rfl
theorem c_below : d_is_below = dBelow := rfl
theorem c_take : d__law_take = dTake := rfl
theorem c_pick : d__law_pick = dPick := rfl
theorem c_row : d_is_row = dRow := rfl
theorem c_lrow : d__law_is_row = dLRow := rfl
theorem c_bytes : d__law_bytes = dBytes := rfl
theorem c_figures : d_figures_of = dFigures := rfl
theorem c_lfigures : d__law_figures = dLFigures := rfl
theorem c_number : d_number_at = dNumberAt := rfl
theorem c_lnumber : d__law_number_at = dLNumberAt := rfl
theorem c_same (n : Nat) : d__law_same n = dSame n := by
  induction n with
  | zero => rfl
  | succ n ih =>
    show fdef 4 [false, false] (b__law_same (d__law_same n)) = fdef 4 [false, false] (bSame (dSame n))
    rw [ih]
    rfl
def sl (ws : List W) (a n : Nat) : List W := (ws.drop a).take n
theorem cut_mid {xs : List W} {a b : Int} (h0 : 0 ≤ a) (h1 : a ≤ b) : cutL xs (some a) (some b) = sl xs a.toNat (b - a).toNat := by
  have e1 : HT.sIx xs.length 0 (some a) = min a.toNat xs.length := by
    show (if a < 0 then (a + (xs.length : Int)).toNat else min a.toNat xs.length) = _
    rw [if_neg (by omega)]
  have e2 : HT.sIx xs.length xs.length (some b) = min b.toNat xs.length := by
    show (if b < 0 then (b + (xs.length : Int)).toNat else min b.toNat xs.length) = _
    rw [if_neg (by omega)]
  unfold cutL sl
  rw [e1, e2]
  by_cases c : a.toNat ≤ xs.length
  · rw [Nat.min_eq_left c]
    by_cases d : b.toNat ≤ xs.length
    · rw [Nat.min_eq_left d]
      congr 1
      omega
    · rw [Nat.min_eq_right (by omega), List.take_of_length_le (by rw [List.length_drop]; omega), List.take_of_length_le (by rw [List.length_drop]; omega)]
  · rw [Nat.min_eq_right (by omega), List.drop_of_length_le (by omega), List.drop_of_length_le (by omega), List.take_nil, List.take_nil]
theorem sl_bytes {ws : List W} {a n : Nat} (h : ∀ u ∈ ws, inB 0 255 u = true) : ∀ u ∈ sl ws a n, inB 0 255 u = true := fun u m => h u (List.mem_of_mem_drop (List.mem_of_mem_take m))
theorem sl_len {ws : List W} {a n : Nat} : (sl ws a n).length ≤ n := by unfold sl; rw [List.length_take]; omega
/-- a change is gone through: at a place of it, here in the row, found so far -/
def led (one ch : List W) : Nat → Nat → Nat → List W → List W ⊕ Nat
  | 0, _, _, f => .inl f
  | k + 1, at', here, f => if ch.length ≤ at' then .inl f else match numA at' 10 (ch.drop at') at' 0 1 with
    | .tup [.int n, .int q] => if n / 3 = 0 ∨ (n % 3 ≠ 2 ∧ (one.length : Int) < here + n / 3) ∨ (n % 3 = 2 ∧ (ch.length : Int) < q + n / 3) then .inr at' else
        if n % 3 = 2 then led one ch k (q + n / 3).toNat here (f ++ sl ch q.toNat (n / 3).toNat) else led one ch k q.toNat (here + n / 3).toNat (if n % 3 = 0 then f ++ sl one here (n / 3).toNat else f)
    | _ => .inr at'
def partW (ch : List W) (at' : Nat) : W := match numA at' 10 (ch.drop at') at' 0 1 with
  | .tup [.int n, .int q] => if n / 3 = 0 ∨ (n % 3 = 2 ∧ (ch.length : Int) < q + n / 3) then .non else .tup [.int (n % 3), .int (n / 3), .int q]
  | _ => .non
theorem part_ok {ch : List W} {at' : Nat} (hl : ch.length ≤ 300000) (hb : ∀ u ∈ ch, inB 0 255 u = true) (h1 : at' ≤ ch.length) : d_part_at [.tup ch, .int at'] = .ok (partW ch at') [] := by
  unfold d_part_at b_part_at partW
  rw [fdef_e, c_number]
  have na := number_at_ok (at' := (at' : Int)) hl hb (by omega) (by omega)
  rw [Int.toNat_natCast] at na
  rcases numA_shape (at0 := at') (k := 10) (ws := ch.drop at') (p := at') (f := 0) (v := 1) with e | ⟨n, q, e⟩
  · simp [na, e, gIs, isNon]
  · rw [e] at na
    by_cases c : n / 3 = 0
    · simp [na, e, gIs, isNon, gMod_i, gDiv_i, c]
    · by_cases d : n % 3 = 2
      · by_cases d2 : (ch.length : Int) < q + n / 3 <;> simp [na, e, gIs, isNon, gMod_i, gDiv_i, c, d, d2]
      · simp [na, e, gIs, isNon, gMod_i, gDiv_i, c, d]
def cowW : List W ⊕ Nat → W
  | .inl f => .tup [.tup f, .non]
  | .inr a => .tup [.non, .int a]
noncomputable def cowB : SF := (sSeq (sSet 5 (fCall [false, false] d_part_at (fCons (fE (fV 1)) (fCons (fE (fV 4)) fNil))))
  (sSeq (sIf (fOr (fTest (fOp gIs (fV 5) (fC .non))) (fAnd (fTest (fOp gNe (fOp gIx (fV 5) (fC (.int 0))) (fC (.int 2)))) (fTest (fOp gGt (fOp gAdd (fV 3) (fOp gIx (fV 5) (fC (.int 1)))) (fB gLen (fCons (fV 0) fNil)))))) (sRet (fTup (fCons (fC .non) (fCons (fE (fV 4)) fNil)))) sNext)
  (sSeq (sUn (.tp (.cons (.nm 6) (.cons (.nm 7) (.cons (.nm 8) .nil)))) (fV 5))
  (sSeq (sIf (fTest (fOp gEq (fV 6) (fC (.int 0)))) (sExtT 2 (fE (fSl (fV 0) (fPart (fV 3)) (fPart (fOp gAdd (fV 3) (fV 7)))))) sNext)
  (sSeq (sIf (fTest (fOp gEq (fV 6) (fC (.int 2)))) (sSeq (sExtT 2 (fE (fSl (fV 1) (fPart (fV 8)) (fPart (fOp gAdd (fV 8) (fV 7))))))
  (sAug 8 (gI fun i j => .int (i + j)) (fV 7))) (sAug 3 (gI fun i j => .int (i + j)) (fV 7)))
  (sSet 4 (fV 8)))))))
/-- at a turn of the loop: what is led from here on is T -/
def cowP (one ch : List W) (T : List W ⊕ Nat) (m : Nat) (env : Ev) : Prop := ∃ (f : List W) (here at' : Nat) (s5 s6 s7 s8 : Sl), env = [.dat (.tup one), .dat (.tup ch), .own (.lst f), .dat (.int here), .dat (.int at'), s5, s6, s7, s8] ∧
  at' ≤ ch.length ∧ here ≤ one.length ∧ f.length ≤ here + at' ∧ ch.length ≤ at' + m ∧ led one ch (m + 1) at' here f = T
def cowQ (one ch : List W) (T : List W ⊕ Nat) (env : Ev) : Prop := ∃ (f : List W) (s3 s4 s5 s6 s7 s8 : Sl), env = [.dat (.tup one), .dat (.tup ch), .own (.lst f), s3, s4, s5, s6, s7, s8] ∧ .inl f = T
def cowR (T : List W ⊕ Nat) (w : W) (e : Ev) : Prop := w = cowW T
theorem led_step {one ch : List W} {m at' here : Nat} {f : List W} (c : at' < ch.length) : led one ch (m + 1) at' here f = (match numA at' 10 (ch.drop at') at' 0 1 with
    | .tup [.int n, .int q] => if n / 3 = 0 ∨ (n % 3 ≠ 2 ∧ (one.length : Int) < here + n / 3) ∨ (n % 3 = 2 ∧ (ch.length : Int) < q + n / 3) then .inr at' else
      if n % 3 = 2 then led one ch m (q + n / 3).toNat here (f ++ sl ch q.toNat (n / 3).toNat) else led one ch m q.toNat (here + n / 3).toNat (if n % 3 = 0 then f ++ sl one here (n / 3).toNat else f)
    | _ => .inr at') := by
  show (if ch.length ≤ at' then _ else _) = _
  rw [if_neg (by omega)]
theorem cow_turn {one ch f : List W} {T : List W ⊕ Nat} {m here at' : Nat} {s5 s6 s7 s8 : Sl} {env : Ev} (he : env = [.dat (.tup one), .dat (.tup ch), .own (.lst f), .dat (.int here), .dat (.int at'), s5, s6, s7, s8]) (ol : one.length ≤ 300000) (hl : ch.length ≤ 90000) (hb : ∀ u ∈ ch, inB 0 255 u = true)
    (c : at' < ch.length) (p2 : here ≤ one.length) (p3 : f.length ≤ here + at') (p4 : ch.length ≤ at' + (m + 1)) (p5 : led one ch (m + 1 + 1) at' here f = T) :
    (cowB env).Go (cowP one ch T m) (cowQ one ch T) (cowR T) := by
  have pk := part_ok (at' := at') (by omega) hb (by omega)
  rw [led_step c] at p5
  have bad : partW ch at' = .non ∨ (∃ k n q, partW ch at' = .tup [.int k, .int n, .int q] ∧ k ≠ 2 ∧ (one.length : Int) < here + n) → .inr at' = T → (cowB env).Go (cowP one ch T m) (cowQ one ch T) (cowR T) := by
    intro h hT
    have e : cowB env = .rt (.tup [.non, .int at']) [.dat (.tup one), .dat (.tup ch), .own (.lst f), .dat (.int here), .dat (.int at'), .dat (partW ch at'), s6, s7, s8] := by
      rcases h with h | ⟨k, n, q, h, h1, h2⟩
      · rw [h] at pk ⊢
        subst he
        unfold cowB
        simp [pk, gIs, isNon]
      · rw [h] at pk ⊢
        subst he
        unfold cowB
        simp [pk, gIs, isNon, h1, h2]
    rw [e, ← hT]
    rfl
  rcases numA_shape (at0 := at') (k := 10) (ws := ch.drop at') (p := at') (f := 0) (v := 1) with e | ⟨n, q, e⟩
  · rw [e] at p5
    exact bad (.inl (by unfold partW; rw [e])) p5
  · have nb := numA_bounds (fun u m => hb u (List.mem_of_mem_drop m)) (by omega) (by omega) e
    rw [List.length_drop] at nb
    rw [e] at p5
    dsimp only at p5
    by_cases d1 : n / 3 = 0 ∨ (n % 3 = 2 ∧ (ch.length : Int) < q + n / 3)
    · rw [if_pos (by rcases d1 with d | d; exact .inl d; exact .inr (.inr d))] at p5
      exact bad (.inl (by unfold partW; rw [e]; exact if_pos d1)) p5
    · have pw : partW ch at' = .tup [.int (n % 3), .int (n / 3), .int q] := by unfold partW; rw [e]; exact if_neg d1
      by_cases d2 : n % 3 ≠ 2 ∧ (one.length : Int) < here + n / 3
      · rw [if_pos (.inr (.inl d2))] at p5
        exact bad (.inr ⟨_, _, _, pw, d2.1, d2.2⟩) p5
      · rw [if_neg (by intro z; rcases z with z | z | z; exact d1 (.inl z); exact d2 z; exact d1 (.inr z))] at p5
        rw [pw] at pk
        have hm : m + 1 + 1 = (m + 1) + 1 := rfl
        have n0 : n / 3 ≠ 0 := fun z => d1 (.inl z)
        have fl : f.length ≤ 16777216 := by omega
        have hn3 : n % 3 = 0 ∨ n % 3 = 1 ∨ n % 3 = 2 := by omega
        rcases hn3 with k | k | k
        · have hb2 : (here : Int) + n / 3 ≤ one.length := by
            apply Classical.byContradiction
            intro z
            exact d2 ⟨by omega, by omega⟩
          rw [if_neg (by omega), if_pos k] at p5
          rw [k] at pk
          have ln : (sl one here (n / 3).toNat).length ≤ (n / 3).toNat := sl_len
          have cm : cutL one (some (here : Int)) (some ((here : Int) + n / 3)) = sl one here (n / 3).toNat := by
            rw [cut_mid (by omega) (by omega), Int.toNat_natCast, show (here : Int) + n / 3 - here = n / 3 by omega]
          have e1 : cowB env = .nx [.dat (.tup one), .dat (.tup ch), .own (.lst (f ++ sl one here (n / 3).toNat)), .dat (.int ((here : Int) + n / 3)), .dat (.int q), .dat (.tup [.int 0, .int (n / 3), .int q]), .dat (.int 0), .dat (.int (n / 3)), .dat (.int q)] := by
            subst he
            unfold cowB
            simp [pk, gIs, isNon, cm, show ¬ ((one.length : Int) < here + n / 3) by omega, show f.length + (sl one here (n / 3).toNat).length ≤ 16777216 by omega]
          rw [e1]
          refine ⟨f ++ sl one here (n / 3).toNat, ((here : Int) + n / 3).toNat, q.toNat, .dat (.tup [.int 0, .int (n / 3), .int q]), .dat (.int 0), .dat (.int (n / 3)), .dat (.int q), ?_, by omega, by omega, ?_, by omega, p5⟩
          · rw [Int.toNat_of_nonneg (by omega), Int.toNat_of_nonneg (by omega)]
          · rw [List.length_append]
            omega
        · have hb2 : (here : Int) + n / 3 ≤ one.length := by
            apply Classical.byContradiction
            intro z
            exact d2 ⟨by omega, by omega⟩
          rw [if_neg (by omega), if_neg (by omega)] at p5
          rw [k] at pk
          have e1 : cowB env = .nx [.dat (.tup one), .dat (.tup ch), .own (.lst f), .dat (.int ((here : Int) + n / 3)), .dat (.int q), .dat (.tup [.int 1, .int (n / 3), .int q]), .dat (.int 1), .dat (.int (n / 3)), .dat (.int q)] := by
            subst he
            unfold cowB
            simp [pk, gIs, isNon, show ¬ ((one.length : Int) < here + n / 3) by omega]
          rw [e1]
          refine ⟨f, ((here : Int) + n / 3).toNat, q.toNat, .dat (.tup [.int 1, .int (n / 3), .int q]), .dat (.int 1), .dat (.int (n / 3)), .dat (.int q), ?_, by omega, by omega, by omega, by omega, p5⟩
          rw [Int.toNat_of_nonneg (by omega), Int.toNat_of_nonneg (by omega)]
        · have hb2 : q + n / 3 ≤ (ch.length : Int) := by
            apply Classical.byContradiction
            intro z
            exact d1 (.inr ⟨k, by omega⟩)
          rw [if_pos k] at p5
          rw [k] at pk
          have ln : (sl ch q.toNat (n / 3).toNat).length ≤ (n / 3).toNat := sl_len
          have cm : cutL ch (some q) (some (q + n / 3)) = sl ch q.toNat (n / 3).toNat := by
            rw [cut_mid (by omega) (by omega), show q + n / 3 - q = n / 3 by omega]
          have e1 : cowB env = .nx [.dat (.tup one), .dat (.tup ch), .own (.lst (f ++ sl ch q.toNat (n / 3).toNat)), .dat (.int here), .dat (.int (q + n / 3)), .dat (.tup [.int 2, .int (n / 3), .int q]), .dat (.int 2), .dat (.int (n / 3)), .dat (.int (q + n / 3))] := by
            subst he
            unfold cowB
            simp [pk, gIs, isNon, cm, show f.length + (sl ch q.toNat (n / 3).toNat).length ≤ 16777216 by omega]
          rw [e1]
          refine ⟨f ++ sl ch q.toNat (n / 3).toNat, here, (q + n / 3).toNat, .dat (.tup [.int 2, .int (n / 3), .int q]), .dat (.int 2), .dat (.int (n / 3)), .dat (.int (q + n / 3)), ?_, by omega, by omega, ?_, by omega, p5⟩
          · rw [Int.toNat_of_nonneg (by omega)]
          · rw [List.length_append]
            omega
theorem cow_ok {one ch : List W} (ol : one.length ≤ 300000) (hl : ch.length ≤ 90000) (hb : ∀ u ∈ ch, inB 0 255 u = true) : d_changed_or_wrong [.tup one, .tup ch] = .ok (cowW (led one ch (ch.length + 1) 0 0 [])) [] := by
  unfold d_changed_or_wrong b_changed_or_wrong
  rw [fdef_e]
  obtain ⟨T, hT⟩ : ∃ T, led one ch (ch.length + 1) 0 0 [] = T := ⟨_, rfl⟩
  have G := whileL_go (c := fTest (fOp gLt (fV 4) (fB gLen (fCons (fV 1) fNil)))) (f := cowB) (P := cowP one ch T) (Q := cowQ one ch T) (R := cowR T)
    (fun m env p => by
      obtain ⟨f, here, at', s5, s6, s7, s8, he, p1, p2, p3, p4, p5⟩ := p
      by_cases c : at' < ch.length
      · obtain ⟨m, rfl⟩ : ∃ k, m = k + 1 := ⟨m - 1, by omega⟩
        refine .inr ⟨env, ?_, m, rfl, cow_turn he ol hl hb c p2 p3 p4 p5⟩
        subst he
        simp [c]
      · refine .inl ⟨env, ?_, f, _, _, s5, s6, s7, s8, he, ?_⟩
        · subst he
          simp [c]
        · rw [← p5]
          show _ = (if ch.length ≤ at' then _ else _)
          rw [if_pos (by omega)])
    (n := ch.length) (N := 100000) (env := [.dat (.tup one), .dat (.tup ch), .own (.lst []), .dat (.int (0 : Nat)), .dat (.int (0 : Nat)), .no, .no, .no, .no]) (by omega)
    ⟨[], 0, 0, _, _, _, _, rfl, by omega, by omega, by simp, by omega, hT⟩
  have hb' : ∀ env, (sSeq (sOwn 2 (fLst fNil)) (sSeq (sSet 3 (fC (.int 0))) (sSeq (sSet 4 (fC (.int 0))) (sSeq (whileL (fTest (fOp gLt (fV 4) (fB gLen (fCons (fV 1) fNil)))) cowB 100000) (sRet (fTup (fCons (fE (fB gTuple (fCons (fV 2) fNil))) (fCons (fC .non) fNil)))))))) env = b_changed_or_wrong env := fun _ => rfl
  rw [hT]
  rcases G with ⟨e, hf, f, s3, s4, s5, s6, s7, s8, rfl, q⟩ | ⟨w, e, hf, q⟩
  · unfold cowB at hf
    rw [← q]
    simp at hf
    simp [hf]
    rfl
  · unfold cowB at hf
    simp at hf
    rw [q] at hf
    simp [hf]
end K26

set_option maxRecDepth 100000
set_option maxHeartbeats 4000000
namespace K26
open PySem BV
def ledW : List W ⊕ Nat → W
  | .inl f => .tup [.str "told", .tup f]
  | .inr a => .tup [.str "BadChange", .int a]
noncomputable def ledB : SF := (sSeq (sIf (fTest (fOp gEq (fV 4) (fB gLen (fCons (fV 1) fNil)))) (sRet (fTup (fCons (fC (.str "told")) (fCons (fE (fV 2)) fNil)))) sNext)
  (sSeq (sSet 6 (fCall [false, false] d__law_number_at (fCons (fE (fV 1)) (fCons (fE (fV 4)) fNil))))
  (sSeq (sIf (fTest (fOp gIs (fV 6) (fC .non))) (sRet (fTup (fCons (fC (.str "BadChange")) (fCons (fE (fV 4)) fNil)))) sNext)
  (sSeq (sSet 7 (fOp gDiv (fOp gIx (fV 6) (fC (.int 0))) (fC (.int 3))))
  (sSeq (sSet 8 (fOp gMod (fB gInt (fCons (fOp gIx (fV 6) (fC (.int 0))) fNil)) (fC (.int 3))))
  (sSeq (sIf (fOr (fTest (fOp gEq (fV 7) (fC (.int 0)))) (fOr (fAnd (fTest (fOp gLt (fV 8) (fC (.int 2)))) (fTest (fOp gGt (fOp gAdd (fV 3) (fV 7)) (fB gLen (fCons (fV 0) fNil))))) (fAnd (fTest (fOp gEq (fV 8) (fC (.int 2)))) (fTest (fOp gGt (fOp gAdd (fOp gIx (fV 6) (fC (.int 1))) (fV 7)) (fB gLen (fCons (fV 1) fNil))))))) (sRet (fTup (fCons (fC (.str "BadChange")) (fCons (fE (fV 4)) fNil)))) sNext)
  (sSeq (sSet 4 (fOp gIx (fV 6) (fC (.int 1))))
  (sSeq (sIf (fTest (fOp gEq (fV 8) (fC (.int 0)))) (sSet 2 (fOp gAdd (fV 2) (fSl (fV 0) (fPart (fV 3)) (fPart (fOp gAdd (fV 3) (fV 7)))))) sNext)
  (sIf (fTest (fOp gEq (fV 8) (fC (.int 2)))) (sSeq (sSet 2 (fOp gAdd (fV 2) (fSl (fV 1) (fPart (fV 4)) (fPart (fOp gAdd (fV 4) (fV 7))))))
  (sSet 4 (fOp gAdd (fV 4) (fV 7)))) (sSet 3 (fOp gAdd (fV 3) (fV 7))))))))))))
def ledP (one ch : List W) (T : List W ⊕ Nat) (i : Nat) (env : Ev) : Prop := ∃ (f : List W) (here at' : Nat) (s5 s6 s7 s8 : Sl), env = [.dat (.tup one), .dat (.tup ch), .dat (.tup f), .dat (.int here), .dat (.int at'), s5, s6, s7, s8] ∧
  at' ≤ ch.length ∧ here ≤ one.length ∧ f.length ≤ here + at' ∧ i ≤ at' ∧ ∃ m, m + i = ch.length ∧ led one ch (m + 1) at' here f = T
def ledR (T : List W ⊕ Nat) (w : W) (e : Ev) : Prop := w = ledW T
theorem led_turn {one ch f : List W} {T : List W ⊕ Nat} {m i here at' : Nat} {s5 s6 s7 s8 : Sl} {env : Ev} (he : env = [.dat (.tup one), .dat (.tup ch), .dat (.tup f), .dat (.int here), .dat (.int at'), s5, s6, s7, s8]) (ol : one.length ≤ 300000) (hl : ch.length ≤ 90000) (hb : ∀ u ∈ ch, inB 0 255 u = true)
    (p1 : at' ≤ ch.length) (p2 : here ≤ one.length) (p3 : f.length ≤ here + at') (p6 : i ≤ at') (p4 : m + i = ch.length) (p5 : led one ch (m + 1) at' here f = T) :
    (ledB env).Go (ledP one ch T (i + 1)) (fun _ => False) (ledR T) := by
  by_cases c : at' < ch.length
  · have pk := lnumber_at_ok (at' := (at' : Int)) (by omega) hb (by omega) (by omega)
    rw [Int.toNat_natCast] at pk
    rw [led_step c] at p5
    have cne : ¬ ((at' : Int) = ch.length) := by omega
    rcases numA_shape (at0 := at') (k := 10) (ws := ch.drop at') (p := at') (f := 0) (v := 1) with e | ⟨n, q, e⟩
    · rw [e] at p5 pk
      have e1 : ledB env = .rt (.tup [.str "BadChange", .int at']) [.dat (.tup one), .dat (.tup ch), .dat (.tup f), .dat (.int here), .dat (.int at'), s5, .dat .non, s7, s8] := by
        subst he
        unfold ledB
        simp [c_lnumber, pk, gIs, isNon, cne]
      rw [e1, ← p5]
      rfl
    · have nb := numA_bounds (fun u m => hb u (List.mem_of_mem_drop m)) (by omega) (by omega) e
      rw [List.length_drop] at nb
      rw [e] at p5 pk
      dsimp only at p5
      by_cases d : n / 3 = 0 ∨ (n % 3 ≠ 2 ∧ (one.length : Int) < here + n / 3) ∨ (n % 3 = 2 ∧ (ch.length : Int) < q + n / 3)
      · rw [if_pos d] at p5
        have e1 : ledB env = .rt (.tup [.str "BadChange", .int at']) [.dat (.tup one), .dat (.tup ch), .dat (.tup f), .dat (.int here), .dat (.int at'), s5, .dat (.tup [.int n, .int q]), .dat (.int (n / 3)), .dat (.int (n % 3))] := by
          rcases d with d | d | d
          · subst he
            unfold ledB
            simp [c_lnumber, pk, gIs, isNon, cne, gMod_i, gDiv_i, d]
          · have d3 : n % 3 < 2 := by omega
            by_cases d4 : n / 3 = 0
            · subst he
              unfold ledB
              simp [c_lnumber, pk, gIs, isNon, cne, gMod_i, gDiv_i, d4]
            · subst he
              unfold ledB
              simp [c_lnumber, pk, gIs, isNon, cne, gMod_i, gDiv_i, d3, d4, d.2]
          · by_cases d4 : n / 3 = 0
            · subst he
              unfold ledB
              simp [c_lnumber, pk, gIs, isNon, cne, gMod_i, gDiv_i, d4]
            · subst he
              unfold ledB
              simp [c_lnumber, pk, gIs, isNon, cne, gMod_i, gDiv_i, d4, d.1, d.2]
        rw [e1, ← p5]
        rfl
      · rw [if_neg d] at p5
        have n0 : ¬ n / 3 = 0 := fun z => d (.inl z)
        have hn3 : n % 3 = 0 ∨ n % 3 = 1 ∨ n % 3 = 2 := by omega
        obtain ⟨m, rfl⟩ : ∃ k, m = k + 1 := ⟨m - 1, by omega⟩
        rcases hn3 with k | k | k
        · have hb2 : (here : Int) + n / 3 ≤ one.length := by
            apply Classical.byContradiction
            intro z
            exact d (.inr (.inl ⟨by omega, by omega⟩))
          rw [if_neg (by omega), if_pos k] at p5
          have ln : (sl one here (n / 3).toNat).length ≤ (n / 3).toNat := sl_len
          have cm : cutL one (some (here : Int)) (some ((here : Int) + n / 3)) = sl one here (n / 3).toNat := by
            rw [cut_mid (by omega) (by omega), Int.toNat_natCast, show (here : Int) + n / 3 - here = n / 3 by omega]
          have ga : gAdd (.tup f) (.tup (sl one here (n / 3).toNat)) = some (.v (.tup (f ++ sl one here (n / 3).toNat))) := gAdd_t (by omega)
          have e1 : ledB env = .nx [.dat (.tup one), .dat (.tup ch), .dat (.tup (f ++ sl one here (n / 3).toNat)), .dat (.int ((here : Int) + n / 3)), .dat (.int q), s5, .dat (.tup [.int n, .int q]), .dat (.int (n / 3)), .dat (.int 0)] := by
            subst he
            unfold ledB
            simp [c_lnumber, pk, gIs, isNon, cne, gMod_i, gDiv_i, k, n0, cm, ga, show ¬ ((one.length : Int) < here + n / 3) by omega]
          rw [e1]
          refine ⟨f ++ sl one here (n / 3).toNat, ((here : Int) + n / 3).toNat, q.toNat, s5, .dat (.tup [.int n, .int q]), .dat (.int (n / 3)), .dat (.int 0), ?_, by omega, by omega, ?_, by omega, m, by omega, p5⟩
          · rw [Int.toNat_of_nonneg (by omega), Int.toNat_of_nonneg (by omega)]
          · rw [List.length_append]
            omega
        · have hb2 : (here : Int) + n / 3 ≤ one.length := by
            apply Classical.byContradiction
            intro z
            exact d (.inr (.inl ⟨by omega, by omega⟩))
          rw [if_neg (by omega), if_neg (by omega)] at p5
          have e1 : ledB env = .nx [.dat (.tup one), .dat (.tup ch), .dat (.tup f), .dat (.int ((here : Int) + n / 3)), .dat (.int q), s5, .dat (.tup [.int n, .int q]), .dat (.int (n / 3)), .dat (.int 1)] := by
            subst he
            unfold ledB
            simp [c_lnumber, pk, gIs, isNon, cne, gMod_i, gDiv_i, k, n0, show ¬ ((one.length : Int) < here + n / 3) by omega]
          rw [e1]
          refine ⟨f, ((here : Int) + n / 3).toNat, q.toNat, s5, .dat (.tup [.int n, .int q]), .dat (.int (n / 3)), .dat (.int 1), ?_, by omega, by omega, by omega, by omega, m, by omega, p5⟩
          rw [Int.toNat_of_nonneg (by omega), Int.toNat_of_nonneg (by omega)]
        · have hb2 : q + n / 3 ≤ (ch.length : Int) := by
            apply Classical.byContradiction
            intro z
            exact d (.inr (.inr ⟨k, by omega⟩))
          rw [if_pos k] at p5
          have ln : (sl ch q.toNat (n / 3).toNat).length ≤ (n / 3).toNat := sl_len
          have cm : cutL ch (some q) (some (q + n / 3)) = sl ch q.toNat (n / 3).toNat := by
            rw [cut_mid (by omega) (by omega), show q + n / 3 - q = n / 3 by omega]
          have ga : gAdd (.tup f) (.tup (sl ch q.toNat (n / 3).toNat)) = some (.v (.tup (f ++ sl ch q.toNat (n / 3).toNat))) := gAdd_t (by omega)
          have e1 : ledB env = .nx [.dat (.tup one), .dat (.tup ch), .dat (.tup (f ++ sl ch q.toNat (n / 3).toNat)), .dat (.int here), .dat (.int (q + n / 3)), s5, .dat (.tup [.int n, .int q]), .dat (.int (n / 3)), .dat (.int 2)] := by
            subst he
            unfold ledB
            simp [c_lnumber, pk, gIs, isNon, cne, gMod_i, gDiv_i, k, n0, cm, ga, show ¬ ((ch.length : Int) < q + n / 3) by omega]
          rw [e1]
          refine ⟨f ++ sl ch q.toNat (n / 3).toNat, here, (q + n / 3).toNat, s5, .dat (.tup [.int n, .int q]), .dat (.int (n / 3)), .dat (.int 2), ?_, by omega, by omega, ?_, by omega, m, by omega, p5⟩
          · rw [Int.toNat_of_nonneg (by omega)]
          · rw [List.length_append]
            omega
  · have c1 : at' = ch.length := by omega
    have e1 : ledB env = .rt (.tup [.str "told", .tup f]) [.dat (.tup one), .dat (.tup ch), .dat (.tup f), .dat (.int here), .dat (.int at'), s5, s6, s7, s8] := by
      subst he
      unfold ledB
      simp [c1]
    have p5 : (if ch.length ≤ at' then Sum.inl f else _) = T := p5
    rw [if_pos (by omega)] at p5
    rw [e1, ← p5]
    rfl
theorem lled_ok {one ch : List W} (ol : one.length ≤ 300000) (hl : ch.length ≤ 90000) (hb : ∀ u ∈ ch, inB 0 255 u = true) : d__law_led [.tup one, .tup ch] = .ok (ledW (led one ch (ch.length + 1) 0 0 [])) [] := by
  unfold d__law_led b__law_led
  rw [fdef_e]
  obtain ⟨T, hT⟩ : ∃ T, led one ch (ch.length + 1) 0 0 [] = T := ⟨_, rfl⟩
  have G := forL_rngG (t := .nm 5) (f := ledB) (P := ledP one ch T) (B := fun _ => False) (R := ledR T) (lo := 0) (hi := (ch.length : Int) + 1)
    (env := [.dat (.tup one), .dat (.tup ch), .dat (.tup []), .dat (.int (0 : Nat)), .dat (.int (0 : Nat)), .no, .no, .no, .no])
    (⟨[], 0, 0, _, _, _, _, rfl, by omega, by omega, by simp, by omega, ch.length, by omega, hT⟩)
    (fun i hi env p => by
      obtain ⟨f, here, at', s5, s6, s7, s8, he, p1, p2, p3, p6, m, p4, p5⟩ := p
      have := led_turn (env := env.set 5 (.dat (.int (0 + i)))) (s5 := .dat (.int (0 + i))) (s6 := s6) (s7 := s7) (s8 := s8) (by rw [he]; rfl) ol hl hb p1 p2 p3 p6 p4 p5
      exact this)
  rw [hT]
  have sm : smallI ((ch.length : Int) + 1) = true := by unfold smallI; simp; omega
  rcases G with ⟨e, hf, z | z⟩ | ⟨w, e, hf, q⟩
  · exact z.elim
  · obtain ⟨f, here, at', s5, s6, s7, s8, _, p1, p2, p3, p6, _⟩ := z
    omega
  · unfold ledB at hf
    simp at hf
    rw [q] at hf
    simp [sm, hf]
end K26

set_option maxRecDepth 100000
set_option maxHeartbeats 4000000
namespace K26
open PySem BV
theorem led_fuel {one ch : List W} (hb : ∀ u ∈ ch, inB 0 255 u = true) : ∀ {m m' at' here : Nat} {f : List W}, ch.length < at' + m → ch.length < at' + m' → led one ch m at' here f = led one ch m' at' here f
  | 0, 0, _, _, _, _, _ => rfl
  | 0, m' + 1, at', here, f, h, h' => by
    show Sum.inl f = if ch.length ≤ at' then Sum.inl f else _
    rw [if_pos (by omega)]
  | m + 1, 0, at', here, f, h, h' => by
    show (if ch.length ≤ at' then Sum.inl f else _) = Sum.inl f
    rw [if_pos (by omega)]
  | m + 1, m' + 1, at', here, f, h, h' => by
    by_cases c : at' < ch.length
    · rw [led_step c, led_step c]
      rcases numA_shape (at0 := at') (k := 10) (ws := ch.drop at') (p := at') (f := 0) (v := 1) with e | ⟨n, q, e⟩
      · rw [e]
      · have nb := numA_bounds (fun u m => hb u (List.mem_of_mem_drop m)) (by omega) (by omega) e
        rw [List.length_drop] at nb
        rw [e]
        dsimp only
        split
        · rfl
        · rename_i d
          have n0 : n / 3 ≠ 0 := fun z => d (.inl z)
          split
          · exact led_fuel hb (by omega) (by omega)
          · exact led_fuel hb (by omega) (by omega)
    · show (if ch.length ≤ at' then Sum.inl f else _) = (if ch.length ≤ at' then Sum.inl f else _)
      rw [if_pos (by omega), if_pos (by omega)]
/-- from a place of a change on -/
def ledF (one ch : List W) (at' here : Nat) (f : List W) : List W ⊕ Nat := led one ch (ch.length + 1) at' here f
def pr (k : Int) (n : Nat) : List W := if 0 < n then figI 10 (3 * n + k) else []
theorem ledF_end {one ch : List W} {here : Nat} {f : List W} : ledF one ch ch.length here f = .inl f := by
  show (if ch.length ≤ ch.length then Sum.inl f else _) = _
  rw [if_pos (Nat.le_refl _)]
theorem fig_num {pre post : List W} {x : Int} (h0 : 0 ≤ x) (h1 : x < 128 ^ 9) (h2 : x ≠ 0) : numA (pre.length : Nat) 10 ((pre ++ (figI 10 x ++ post)).drop pre.length) (pre.length : Nat) 0 1 = .tup [.int x, .int ((pre.length : Nat) + ((figI 10 x).length : Nat))] := by
  have e : figI 10 x = figI 9 x := figI_stable h0 (by omega)
  rw [List.drop_left, e]
  have := numA_fig (at0 := (pre.length : Nat)) (post := post) (j := 9) (k := 10) (n := x) (place := (pre.length : Nat)) (found := 0) (worth := 1) (by omega) h0 (by omega) (fun _ => h2) (by omega)
  rw [this]
  simp
theorem pr_step {one ch pre post : List W} {k : Int} {n : Nat} {here : Nat} {f : List W} (e : ch = pre ++ (pr k n ++ post)) (hb : ∀ u ∈ ch, inB 0 255 u = true) (hn : n < 1000000) (hk : 0 ≤ k) (hk2 : k < 2) (hl : here + n ≤ one.length) :
    ledF one ch pre.length here f = ledF one ch (pre ++ pr k n).length (here + n) (if k = 0 then f ++ sl one here n else f) := by
  by_cases c : 0 < n
  · have hp : pr k n = figI 10 (3 * n + k) := if_pos c
    have q : ((3 : Int) * n + k) / 3 = n := by omega
    have q2 : ((3 : Int) * n + k) % 3 = k := by omega
    have e2 := fig_num (pre := pre) (post := post) (x := 3 * n + k) (by omega) (by omega) (by omega)
    have fl : 1 ≤ (figI 10 (3 * n + k)).length := figI_len.1
    have cl : ch.length = pre.length + ((figI 10 (3 * n + k)).length + post.length) := by
      rw [e, hp, List.length_append, List.length_append]
    rw [hp] at e
    rw [← e] at e2
    unfold ledF
    rw [led_step (by omega), e2]
    dsimp only
    rw [q, q2, if_neg (by omega), if_neg (by omega), hp, List.length_append]
    rw [show ((pre.length : Int) + ((figI 10 (3 * n + k)).length : Nat)).toNat = pre.length + (figI 10 (3 * n + k)).length by omega, show ((here : Int) + n).toNat = here + n by omega, Int.toNat_natCast]
    exact led_fuel hb (by omega) (by omega)
  · have n0 : n = 0 := by omega
    subst n0
    have hp : pr k 0 = [] := rfl
    have hs : sl one here 0 = [] := List.take_zero
    rw [hp, hs, List.append_nil, List.append_nil, ite_self]
    rfl
theorem pr_mid {one ch pre mid post : List W} {here : Nat} {f : List W} (e : ch = pre ++ (pr 2 mid.length ++ (mid ++ post))) (hb : ∀ u ∈ ch, inB 0 255 u = true) (hn : mid.length < 1000000) :
    ledF one ch pre.length here f = ledF one ch (pre ++ (pr 2 mid.length ++ mid)).length here (f ++ mid) := by
  by_cases c : 0 < mid.length
  · have hp : pr 2 mid.length = figI 10 (3 * mid.length + 2) := if_pos c
    have q : ((3 : Int) * mid.length + 2) / 3 = mid.length := by omega
    have q2 : ((3 : Int) * mid.length + 2) % 3 = 2 := by omega
    have e2 := fig_num (pre := pre) (post := mid ++ post) (x := 3 * mid.length + 2) (by omega) (by omega) (by omega)
    have fl : 1 ≤ (figI 10 (3 * mid.length + 2)).length := figI_len.1
    have cl : ch.length = pre.length + ((figI 10 (3 * mid.length + 2)).length + (mid.length + post.length)) := by
      rw [e, hp, List.length_append, List.length_append, List.length_append]
    rw [hp] at e
    rw [← e] at e2
    have es : sl ch (pre.length + (figI 10 (3 * mid.length + 2)).length) mid.length = mid := by
      unfold sl
      rw [e, ← List.append_assoc, ← List.length_append, List.drop_left, List.take_left]
    unfold ledF
    rw [led_step (by omega), e2]
    dsimp only
    rw [q, q2, if_neg (by omega), if_pos rfl, hp, List.length_append, List.length_append]
    rw [show ((pre.length : Int) + ((figI 10 (3 * mid.length + 2)).length : Nat) + (mid.length : Int)).toNat = pre.length + ((figI 10 (3 * mid.length + 2)).length + mid.length) by omega, show ((pre.length : Int) + ((figI 10 (3 * mid.length + 2)).length : Nat)).toNat = pre.length + (figI 10 (3 * mid.length + 2)).length by omega, Int.toNat_natCast, es]
    exact led_fuel hb (by omega) (by omega)
  · have n0 : mid = [] := List.eq_nil_of_length_eq_zero (by omega)
    subst n0
    have hp : pr 2 ([] : List W).length = [] := rfl
    rw [hp, List.append_nil, List.append_nil, List.append_nil]
theorem pr_len {k : Int} {n : Nat} (h0 : 0 ≤ k) (h : 3 * (n : Int) + k < 16384) : (pr k n).length ≤ 2 := by
  unfold pr
  split
  · rw [show figI 10 (3 * (n : Int) + k) = figI 1 (3 * (n : Int) + k) from ?_]
    · exact figI_len.2
    · rw [figI_stable (by omega) (by omega), figI_stable (by omega) (by omega), figI_stable (by omega) (by omega), figI_stable (by omega) (by omega), figI_stable (by omega) (by omega), figI_stable (by omega) (by omega), figI_stable (by omega) (by omega), figI_stable (by omega) (by omega), figI_stable (by omega) (by omega)]
  · simp
theorem pr_bytes {k : Int} {n : Nat} (h0 : 0 ≤ k) (h : 3 * (n : Int) + k < 16384) : ∀ u ∈ pr k n, inB 0 255 u = true := by
  unfold pr
  split
  · exact figI_bytes (by omega) (by omega)
  · intro u m
    cases m
theorem part_row_ok {k : Int} {n : Nat} (h0 : 0 ≤ k) (h : 3 * (n : Int) + k < 16384) : d_part_row [.int k, .int n] = .ok (.tup (pr k n)) [] := by
  unfold d_part_row b_part_row pr
  rw [fdef_e, c_figures]
  by_cases c : 0 < n
  · have f := figures_ok (n := 3 * (n : Int) + k) (by omega) (by omega)
    have g : gMul (.int 3) (.int n) = some (.v (.int (3 * n))) := gMul_l (by omega)
    simp [c, f, g]
  · simp [c]
end K26

set_option maxRecDepth 100000
set_option maxHeartbeats 4000000
namespace K26
open PySem BV
theorem byte_at {ws : List W} (hb : ∀ u ∈ ws, inB 0 255 u = true) {i : Nat} (h : i < ws.length) : ∃ b, ws[i]? = some (.int b) ∧ L2.atI ws (i : Int) = some (.int b) := by
  obtain ⟨b, eb, b0, b1⟩ := inB_nn (hb ws[i] (List.getElem_mem _))
  refine ⟨b, by rw [List.getElem?_eq_getElem h, eb], ?_⟩
  rw [atI_get ⟨by omega, by omega⟩, Int.toNat_natCast, List.getElem?_eq_getElem h, eb]
theorem take_succ_eq {xs ys : List W} {i : Nat} {w : W} (h : xs.take i = ys.take i) (h1 : xs[i]? = some w) (h2 : ys[i]? = some w) : xs.take (i + 1) = ys.take (i + 1) := by
  rw [List.take_succ, List.take_succ, h, h1, h2]
theorem drop_pred_eq {xs ys : List W} {i j : Nat} {w : W} (h : xs.drop (i + 1) = ys.drop (j + 1)) (h1 : xs[i]? = some w) (h2 : ys[j]? = some w) : xs.drop i = ys.drop j := by
  obtain ⟨l1, e1⟩ := List.getElem?_eq_some_iff.1 h1
  obtain ⟨l2, e2⟩ := List.getElem?_eq_some_iff.1 h2
  rw [List.drop_eq_getElem_cons l1, List.drop_eq_getElem_cons l2, h, e1, e2]
theorem begin_ok {one other : List W} (o1 : one.length ≤ 90000) (h1 : ∀ u ∈ one, inB 0 255 u = true) (h2 : ∀ u ∈ other, inB 0 255 u = true) :
    ∃ b : Nat, d_common_begin [.tup one, .tup other] = .ok (.int b) [] ∧ b ≤ one.length ∧ b ≤ other.length ∧ one.take b = other.take b ∧ (one = other → b = one.length) := by
  unfold d_common_begin b_common_begin
  rw [fdef_e]
  obtain ⟨mn, hmn⟩ : ∃ mn, min one.length other.length = mn := ⟨_, rfl⟩
  have gm : gMin2 [.int one.length, .int other.length] = some (.v (.int (mn : Int))) := by
    show some (OV.v (.int (if (other.length : Int) < one.length then (other.length : Int) else one.length))) = _
    congr 3
    split <;> omega
  obtain ⟨e, hw, many, rfl, q1, q2, q3, q4⟩ := whileL_meas (c := (fAnd (fTest (fOp gLt (fV 2) (fB gMin2 (fCons (fB gLen (fCons (fV 0) fNil)) (fCons (fB gLen (fCons (fV 1) fNil)) fNil))))) (fTest (fOp gEq (fOp gIx (fV 0) (fV 2)) (fOp gIx (fV 1) (fV 2)))))) (f := (sAug 2 (gI fun i j => .int (i + j)) (fC (.int 1))))
    (P := fun m env => ∃ many : Nat, env = [.dat (.tup one), .dat (.tup other), .dat (.int many)] ∧ many ≤ one.length ∧ many ≤ other.length ∧ one.take many = other.take many ∧ one.length - many ≤ m)
    (Q := fun env => ∃ many : Nat, env = [.dat (.tup one), .dat (.tup other), .dat (.int many)] ∧ many ≤ one.length ∧ many ≤ other.length ∧ one.take many = other.take many ∧ (one = other → many = one.length))
    (fun m env p => by
      obtain ⟨many, he, q1, q2, q3, q4⟩ := p
      by_cases c : many < one.length ∧ many < other.length
      · obtain ⟨x, hx, hx2⟩ := byte_at h1 c.1
        obtain ⟨y, hy, hy2⟩ := byte_at h2 c.2
        have cm2 : many < mn := by omega
        by_cases d : x = y
        · subst d
          obtain ⟨m, rfl⟩ : ∃ k, m = k + 1 := ⟨m - 1, by omega⟩
          refine .inr ⟨env, ?_, m, rfl, ?_⟩
          · subst he
            simp [gm, cm2, hx2, hy2]
          · have : sAug 2 (gI fun i j => .int (i + j)) (fC (.int 1)) env = .nx [.dat (.tup one), .dat (.tup other), .dat (.int ((many + 1 : Nat) : Int))] := by
              subst he
              simp
            rw [this]
            exact ⟨many + 1, rfl, by omega, by omega, take_succ_eq q3 hx hy, by omega⟩
        · refine .inl ⟨env, ?_, many, he, q1, q2, q3, fun eo => ?_⟩
          · subst he
            simp [gm, cm2, hx2, hy2, d]
          · subst eo
            rw [hx] at hy
            cases hy
            exact absurd rfl d
      · refine .inl ⟨env, ?_, many, he, q1, q2, q3, fun eo => ?_⟩
        · have cm2 : ¬ many < mn := by omega
          subst he
          simp [gm, cm2]
        · subst eo
          omega)
    (n := one.length) (N := 100000) (env := [.dat (.tup one), .dat (.tup other), .dat (.int (0 : Nat))]) (by omega) ⟨0, rfl, by omega, by omega, by simp, by omega⟩
  refine ⟨many, ?_, q1, q2, q3, q4⟩
  simp at hw
  simp [hw]
theorem end_ok {one other : List W} {most : Nat} (o1 : most ≤ one.length) (o2 : most ≤ other.length) (o3 : most ≤ 90000) (h1 : ∀ u ∈ one, inB 0 255 u = true) (h2 : ∀ u ∈ other, inB 0 255 u = true) :
    ∃ b : Nat, d_common_end [.tup one, .tup other, .int most] = .ok (.int b) [] ∧ b ≤ most ∧ one.drop (one.length - b) = other.drop (other.length - b) := by
  unfold d_common_end b_common_end
  rw [fdef_e]
  obtain ⟨e, hw, many, rfl, q1, q3⟩ := whileL_meas (c := (fAnd (fTest (fOp gLt (fV 3) (fV 2))) (fTest (fOp gEq (fOp gIx (fV 0) (fOp gSub (fOp gSub (fB gLen (fCons (fV 0) fNil)) (fC (.int 1))) (fV 3))) (fOp gIx (fV 1) (fOp gSub (fOp gSub (fB gLen (fCons (fV 1) fNil)) (fC (.int 1))) (fV 3))))))) (f := (sAug 3 (gI fun i j => .int (i + j)) (fC (.int 1))))
    (P := fun m env => ∃ many : Nat, env = [.dat (.tup one), .dat (.tup other), .dat (.int most), .dat (.int many)] ∧ many ≤ most ∧ one.drop (one.length - many) = other.drop (other.length - many) ∧ most - many ≤ m)
    (Q := fun env => ∃ many : Nat, env = [.dat (.tup one), .dat (.tup other), .dat (.int most), .dat (.int many)] ∧ many ≤ most ∧ one.drop (one.length - many) = other.drop (other.length - many))
    (fun m env p => by
      obtain ⟨many, he, q1, q3, q4⟩ := p
      by_cases c : many < most
      · obtain ⟨x, hx, hx2⟩ := byte_at h1 (i := one.length - 1 - many) (by omega)
        obtain ⟨y, hy, hy2⟩ := byte_at h2 (i := other.length - 1 - many) (by omega)
        rw [show ((one.length - 1 - many : Nat) : Int) = (one.length : Int) - 1 - many by omega] at hx2
        rw [show ((other.length - 1 - many : Nat) : Int) = (other.length : Int) - 1 - many by omega] at hy2
        by_cases d : x = y
        · subst d
          obtain ⟨m, rfl⟩ : ∃ k, m = k + 1 := ⟨m - 1, by omega⟩
          refine .inr ⟨env, ?_, m, rfl, ?_⟩
          · subst he
            simp [c, hx2, hy2]
          · have : sAug 3 (gI fun i j => .int (i + j)) (fC (.int 1)) env = .nx [.dat (.tup one), .dat (.tup other), .dat (.int most), .dat (.int ((many + 1 : Nat) : Int))] := by
              subst he
              simp
            rw [this]
            refine ⟨many + 1, rfl, by omega, ?_, by omega⟩
            rw [show one.length - (many + 1) = one.length - 1 - many by omega, show other.length - (many + 1) = other.length - 1 - many by omega]
            refine drop_pred_eq ?_ hx hy
            rw [show one.length - 1 - many + 1 = one.length - many by omega, show other.length - 1 - many + 1 = other.length - many by omega]
            exact q3
        · refine .inl ⟨env, ?_, many, he, q1, q3⟩
          subst he
          simp [c, hx2, hy2, d]
      · refine .inl ⟨env, ?_, many, he, q1, q3⟩
        subst he
        simp [c])
    (n := most) (N := 100000) (env := [.dat (.tup one), .dat (.tup other), .dat (.int most), .dat (.int (0 : Nat))]) (by omega) ⟨0, rfl, by omega, by simp, by omega⟩
  refine ⟨many, ?_, q1, q3⟩
  simp at hw
  simp [hw]
theorem mid_eq {xs : List W} {b e : Nat} (h : b + e ≤ xs.length) : xs.take b ++ (sl xs b (xs.length - e - b) ++ xs.drop (xs.length - e)) = xs := by
  unfold sl
  have : xs.drop b = (xs.drop b).take (xs.length - e - b) ++ (xs.drop b).drop (xs.length - e - b) := (List.take_append_drop _ _).symm
  rw [List.drop_drop, show b + (xs.length - e - b) = xs.length - e by omega] at this
  rw [← this, List.take_append_drop]
theorem change_of_ok {one other : List W} (o1 : one.length ≤ 5000) (o2 : other.length ≤ 5000) (h1 : ∀ u ∈ one, inB 0 255 u = true) (h2 : ∀ u ∈ other, inB 0 255 u = true) :
    ∃ ch, d_change_of [.tup one, .tup other] = .ok (.tup ch) [] ∧ (∀ u ∈ ch, inB 0 255 u = true) ∧ ch.length ≤ other.length + 8 ∧ (one = other → ch.length ≤ 11) ∧ led one ch (ch.length + 1) 0 0 [] = .inl other := by
  obtain ⟨b, eb, b1, b2, b3, b4⟩ := begin_ok (by omega) h1 h2
  obtain ⟨e, ee, e1, e3⟩ := end_ok (one := one) (other := other) (most := min one.length other.length - b) (by omega) (by omega) (by omega) h1 h2
  obtain ⟨B, hB⟩ : ∃ B, B = if b < 8 then 0 else b := ⟨_, rfl⟩
  obtain ⟨E, hE⟩ : ∃ E, E = if e < 8 then 0 else e := ⟨_, rfl⟩
  have B1 : B ≤ b := by rw [hB]; split <;> omega
  have E1 : E ≤ e := by rw [hE]; split <;> omega
  have B3 : one.take B = other.take B := by
    rw [hB]
    split
    · simp
    · exact b3
  have E3 : one.drop (one.length - E) = other.drop (other.length - E) := by
    rw [hE]
    split
    · simp
    · exact e3
  have le1 : B + E ≤ one.length := by omega
  have le2 : B + E ≤ other.length := by omega
  obtain ⟨out, hout⟩ : ∃ out, out = if 0 < E then one.length - B - E else 0 := ⟨_, rfl⟩
  have lo : B + out + E ≤ one.length := by rw [hout]; split <;> omega
  obtain ⟨mid, hmid⟩ : ∃ mid, mid = sl other B (other.length - E - B) := ⟨_, rfl⟩
  have lm : mid.length = other.length - E - B := by
    rw [hmid]
    unfold sl
    rw [List.length_take, List.length_drop]
    omega
  have mb : ∀ u ∈ mid, inB 0 255 u = true := by rw [hmid]; exact sl_bytes h2
  have pl : ∀ (k : Int) (n : Nat), 0 ≤ k → k < 3 → n ≤ 5000 → (pr k n).length ≤ 2 ∧ (∀ u ∈ pr k n, inB 0 255 u = true) ∧ d_part_row [.int k, .int n] = .ok (.tup (pr k n)) [] := fun k n k0 k1 hn =>
    ⟨pr_len k0 (by omega), pr_bytes k0 (by omega), part_row_ok k0 (by omega)⟩
  obtain ⟨l1, y1, r1⟩ := pl 0 B (by omega) (by omega) (by omega)
  obtain ⟨l2, y2, r2⟩ := pl 1 out (by omega) (by omega) (by omega)
  obtain ⟨l3, y3, r3⟩ := pl 2 mid.length (by omega) (by omega) (by omega)
  obtain ⟨l4, y4, r4⟩ := pl 0 E (by omega) (by omega) (by omega)
  obtain ⟨ch, hch⟩ : ∃ ch, ch = pr 0 B ++ (pr 1 out ++ (pr 2 mid.length ++ (mid ++ pr 0 E))) := ⟨_, rfl⟩
  have cb : ∀ u ∈ ch, inB 0 255 u = true := by
    intro u m
    rw [hch] at m
    simp only [List.mem_append] at m
    rcases m with m | m | m | m | m
    · exact y1 u m
    · exact y2 u m
    · exact y3 u m
    · exact mb u m
    · exact y4 u m
  have cl : ch.length = (pr 0 B).length + ((pr 1 out).length + ((pr 2 mid.length).length + (mid.length + (pr 0 E).length))) := by
    rw [hch]
    simp only [List.length_append]
  refine ⟨ch, ?_, cb, by omega, fun eo => ?_, ?_⟩
  · unfold d_change_of b_change_of
    rw [fdef_e]
    have em : (if (other.length : Int) < one.length then (other.length : Int) else one.length) - b = ((min one.length other.length - b : Nat) : Int) := by split <;> omega
    have ec : cutL other (some (B : Int)) (some ((other.length : Int) - E)) = mid := by
      rw [cut_mid (by omega) (by omega), hmid, Int.toNat_natCast, show ((other.length : Int) - E - B).toNat = other.length - E - B by omega]
    have tB : sIf (fTest (fOp gLt (fV 2) (fC (.int 8)))) (sSet 2 (fC (.int 0))) sNext [.dat (.tup one), .dat (.tup other), .dat (.int b), .dat (.int e), .no, .no, .no] = .nx [.dat (.tup one), .dat (.tup other), .dat (.int B), .dat (.int e), .no, .no, .no] := by
      by_cases c : b < 8
      · rw [if_pos c] at hB
        subst hB
        simp [show (b : Int) < 8 by omega]
      · rw [if_neg c] at hB
        subst hB
        simp [show ¬ (B : Int) < 8 by omega]
    have tE : sIf (fTest (fOp gLt (fV 3) (fC (.int 8)))) (sSet 3 (fC (.int 0))) sNext [.dat (.tup one), .dat (.tup other), .dat (.int B), .dat (.int e), .no, .no, .no] = .nx [.dat (.tup one), .dat (.tup other), .dat (.int B), .dat (.int E), .no, .no, .no] := by
      by_cases c : e < 8
      · rw [if_pos c] at hE
        subst hE
        simp [show (e : Int) < 8 by omega]
      · rw [if_neg c] at hE
        subst hE
        simp [show ¬ (E : Int) < 8 by omega]
    have tO : (sSet 5 (fIf (fTest (fOp gGt (fV 3) (fC (.int 0)))) (fOp gSub (fOp gSub (fB gLen (fCons (fV 0) fNil)) (fV 2)) (fV 3)) (fC (.int 0)))) [.dat (.tup one), .dat (.tup other), .dat (.int B), .dat (.int E), .dat (.tup mid), .no, .no] = .nx [.dat (.tup one), .dat (.tup other), .dat (.int B), .dat (.int E), .dat (.tup mid), .dat (.int out), .no] := by
      by_cases c : 0 < E
      · rw [if_pos c] at hout
        have : (out : Int) = (one.length : Int) - B - E := by omega
        simp [c, this]
      · rw [if_neg c] at hout
        subst hout
        simp [c]
    have g1 : gAdd (.tup (pr 0 B)) (.tup (pr 1 out)) = some (.v (.tup (pr 0 B ++ pr 1 out))) := gAdd_t (by omega)
    have g2 : gAdd (.tup (pr 0 B ++ pr 1 out)) (.tup (pr 2 mid.length)) = some (.v (.tup (pr 0 B ++ pr 1 out ++ pr 2 mid.length))) := gAdd_t (by simp only [List.length_append]; omega)
    have g3 : gAdd (.tup (pr 0 B ++ pr 1 out ++ pr 2 mid.length)) (.tup mid) = some (.v (.tup (pr 0 B ++ pr 1 out ++ pr 2 mid.length ++ mid))) := gAdd_t (by simp only [List.length_append]; omega)
    have g4 : gAdd (.tup (pr 0 B ++ pr 1 out ++ pr 2 mid.length ++ mid)) (.tup (pr 0 E)) = some (.v (.tup ch)) := by
      rw [gAdd_t (by simp only [List.length_append]; omega), hch]
      simp only [List.append_assoc]
    have gm : gMin2 [.int one.length, .int other.length] = some (.v (.int ((min one.length other.length - b : Nat) + (b : Int)))) := by
      show some (OV.v (.int (if (other.length : Int) < one.length then (other.length : Int) else one.length))) = _
      congr 3
      split <;> omega
    obtain ⟨mb', hmb⟩ : ∃ mb', min one.length other.length - b = mb' := ⟨_, rfl⟩
    rw [hmb] at gm ee
    have t1 : (sSet 2 (fCall [false, false] d_common_begin (fCons (fE (fV 0)) (fCons (fE (fV 1)) fNil)))) [.dat (.tup one), .dat (.tup other), .no, .no, .no, .no, .no] = .nx [.dat (.tup one), .dat (.tup other), .dat (.int b), .no, .no, .no, .no] := by
      simp [eb]
    have t2 : (sSet 3 (fCall [false, false, false] d_common_end (fCons (fE (fV 0)) (fCons (fE (fV 1)) (fCons (fE (fOp gSub (fB gMin2 (fCons (fB gLen (fCons (fV 0) fNil)) (fCons (fB gLen (fCons (fV 1) fNil)) fNil))) (fV 2))) fNil))))) [.dat (.tup one), .dat (.tup other), .dat (.int b), .no, .no, .no, .no] = .nx [.dat (.tup one), .dat (.tup other), .dat (.int b), .dat (.int e), .no, .no, .no] := by
      simp [gm, ee, show (mb' : Int) + b - b = mb' by omega]
    have t4 : (sSet 4 (fSl (fV 1) (fPart (fV 2)) (fPart (fOp gSub (fB gLen (fCons (fV 1) fNil)) (fV 3))))) [.dat (.tup one), .dat (.tup other), .dat (.int B), .dat (.int E), .no, .no, .no] = .nx [.dat (.tup one), .dat (.tup other), .dat (.int B), .dat (.int E), .dat (.tup mid), .no, .no] := by
      simp [ec]
    have t6 : (sSet 6 (fOp gAdd (fCall [false, false] d_part_row (fCons (fE (fC (.int 0))) (fCons (fE (fV 2)) fNil))) (fCall [false, false] d_part_row (fCons (fE (fC (.int 1))) (fCons (fE (fV 5)) fNil))))) [.dat (.tup one), .dat (.tup other), .dat (.int B), .dat (.int E), .dat (.tup mid), .dat (.int out), .no] = .nx [.dat (.tup one), .dat (.tup other), .dat (.int B), .dat (.int E), .dat (.tup mid), .dat (.int out), .dat (.tup (pr 0 B ++ pr 1 out))] := by
      simp [r1, r2, g1]
    have t7 : (sRet (fOp gAdd (fOp gAdd (fOp gAdd (fV 6) (fCall [false, false] d_part_row (fCons (fE (fC (.int 2))) (fCons (fE (fB gLen (fCons (fV 4) fNil))) fNil)))) (fV 4)) (fCall [false, false] d_part_row (fCons (fE (fC (.int 0))) (fCons (fE (fV 3)) fNil))))) [.dat (.tup one), .dat (.tup other), .dat (.int B), .dat (.int E), .dat (.tup mid), .dat (.int out), .dat (.tup (pr 0 B ++ pr 1 out))] = .rt (.tup ch) [.dat (.tup one), .dat (.tup other), .dat (.int B), .dat (.int E), .dat (.tup mid), .dat (.int out), .dat (.tup (pr 0 B ++ pr 1 out))] := by
      simp only [List.append_assoc] at g2 g3 g4
      simp [r3, r4, g2, g3, g4]
    have ae : (argEnv [false, false] [W.tup one, W.tup other] ++ List.replicate (7 - [W.tup one, W.tup other].length) Sl.no) = [Sl.dat (.tup one), .dat (.tup other), .no, .no, .no, .no, .no] := rfl
    rw [ae, sSeq_e, t1, thn_nx, sSeq_e, t2, thn_nx, sSeq_e, tB, thn_nx, sSeq_e, tE, thn_nx, sSeq_e, t4, thn_nx, sSeq_e, tO, thn_nx, sSeq_e, t6, thn_nx, t7]
    rfl
  · have b5 := b4 eo
    have e5 : e = 0 := by
      subst eo
      rw [Nat.min_self] at e1
      omega
    have E5 : E = 0 := by omega
    have o5 : out = 0 := by rw [hout, if_neg (by omega)]
    have p0 : ∀ k, pr k 0 = [] := fun _ => rfl
    rw [E5, o5, p0, p0] at cl
    simp only [List.length_nil] at cl
    by_cases c : b < 8
    · have : other.length < 8 := by rw [← eo]; omega
      omega
    · rw [if_neg c] at hB
      have : mid.length = 0 := by
        rw [lm, ← eo]
        omega
      omega
  · show ledF one ch 0 0 [] = _
    have s1 := pr_step (one := one) (ch := ch) (pre := []) (k := 0) (n := B) (here := 0) (f := []) (by rw [hch]; rfl) cb (by omega) (by omega) (by omega) (by omega)
    have s2 := pr_step (one := one) (ch := ch) (pre := pr 0 B) (k := 1) (n := out) (here := B) (f := other.take B) hch cb (by omega) (by omega) (by omega) (by omega)
    have s3 := pr_mid (one := one) (ch := ch) (pre := pr 0 B ++ pr 1 out) (mid := mid) (post := pr 0 E) (here := B + out) (f := other.take B) (by rw [hch]; simp only [List.append_assoc]) cb (by omega)
    have s4 := pr_step (one := one) (ch := ch) (pre := pr 0 B ++ pr 1 out ++ (pr 2 mid.length ++ mid)) (k := 0) (n := E) (post := []) (here := B + out) (f := other.take B ++ mid) (by rw [hch]; simp only [List.append_assoc, List.append_nil]) cb (by omega) (by omega) (by omega) (by omega)
    have z0 : sl one 0 B = other.take B := by
      unfold sl
      rw [List.drop_zero, B3]
    have z4 : sl one (B + out) E = other.drop (other.length - E) := by
      by_cases c : 0 < E
      · rw [if_pos c] at hout
        rw [← E3, show one.length - E = B + out by omega]
        unfold sl
        exact List.take_of_length_le (by rw [List.length_drop]; omega)
      · have : E = 0 := by omega
        subst this
        unfold sl
        simp
    have full : other.take B ++ mid ++ other.drop (other.length - E) = other := by
      rw [List.append_assoc, hmid]
      exact mid_eq le2
    have last : pr 0 B ++ pr 1 out ++ (pr 2 mid.length ++ mid) ++ pr 0 E = ch := by
      rw [hch]
      simp only [List.append_assoc]
    rw [if_pos rfl, z0, List.nil_append, List.nil_append, Nat.zero_add] at s1
    rw [if_neg (by decide)] at s2
    rw [if_pos rfl, z4, full, last] at s4
    exact s1.trans (s2.trans (s3.trans (s4.trans ledF_end)))
end K26

set_option maxRecDepth 100000
set_option maxHeartbeats 4000000
namespace K26
open PySem BV
theorem check_ok {w : W} (h : KRow w) : d_check_row [w] = if isRow w then .ok .non [] else .er ⟨1, []⟩ [] := by
  unfold d_check_row b_check_row
  rw [fdef_e, c_row]
  cases c : isRow w <;> simp [is_row_ok h, c]
def outW : List W ⊕ Nat → CRes
  | .inl f => .ok (.tup f) []
  | .inr a => .er ⟨2, [("place", .int a)]⟩ []
theorem changed_ok {one ch : List W} (ol : one.length ≤ 300000) (hl : ch.length ≤ 90000) (h1 : ∀ u ∈ one, inB 0 255 u = true) (hb : ∀ u ∈ ch, inB 0 255 u = true) : d_changed [.tup one, .tup ch] = outW (led one ch (ch.length + 1) 0 0 []) := by
  have k1 := check_ok (krow_bytes (ws := one) (by omega) h1)
  have k2 := check_ok (krow_bytes (ws := ch) (by omega) hb)
  rw [row_of ol h1, if_pos rfl] at k1
  rw [row_of (by omega) hb, if_pos rfl] at k2
  have cw := cow_ok ol hl hb
  generalize led one ch (ch.length + 1) 0 0 [] = T at cw
  unfold d_changed b_changed
  rw [fdef_e]
  cases T with
  | inl f => simp [k1, k2, cw, cowW, outW, gIsNot, isNon]
  | inr a => simp [k1, k2, cw, cowW, outW, gIsNot, isNon]
theorem changed_no {w u : W} (hw : KRow w) (hu : KRow u) (h : (isRow w && isRow u) = false) : d_changed [w, u] = .er ⟨1, []⟩ [] := by
  unfold d_changed b_changed
  rw [fdef_e]
  cases c : isRow w
  · simp [check_ok hw, c]
  · rw [c, Bool.true_and] at h
    simp [check_ok hw, check_ok hu, c, h]
theorem as_place {a : Int} {env : Ev} {s0 s1 s2 : Sl} (he : env = [s0, s1, s2]) : asR 2 (fun a d k => (sRet (fTup (fCons (fC (.str "BadChange")) (fCons (fE (fXf a d k 2 2 "place")) fNil))))) ⟨2, [("place", .int a)]⟩ env = .rt (.tup [.str "BadChange", .int a]) (env.set 2 .no) := by
  refine asR_eq fun b d hd => ?_
  subst he
  cases d with
  | none => cases hd rfl
  | some dd => simp [fXf_e, List.lookup]
theorem told_ok {one ch : List W} (ol : one.length ≤ 300000) (hl : ch.length ≤ 90000) (h1 : ∀ u ∈ one, inB 0 255 u = true) (hb : ∀ u ∈ ch, inB 0 255 u = true) : d__law_told [.tup one, .tup ch] = .ok (ledW (led one ch (ch.length + 1) 0 0 [])) [] := by
  have cw := changed_ok ol hl h1 hb
  generalize led one ch (ch.length + 1) 0 0 [] = T at cw
  unfold d__law_told b__law_told
  rw [fdef_e]
  cases T with
  | inl f => simp [cw, outW, ledW]
  | inr a => simp [cw, outW, ledW, pickA_pl, pickA_as, tst_NoRow, tst_BadChange, as_place rfl]
theorem told_no {w u : W} (hw : KRow w) (hu : KRow u) (h : (isRow w && isRow u) = false) : d__law_told [w, u] = .ok (.tup [.str "NoRow"]) [] := by
  unfold d__law_told b__law_told
  rw [fdef_e]
  simp [changed_no hw hu h, pickA_pl, tst_NoRow]
theorem change_ok {one other : List W} (o1 : one.length ≤ 5000) (o2 : other.length ≤ 5000) (h1 : ∀ u ∈ one, inB 0 255 u = true) (h2 : ∀ u ∈ other, inB 0 255 u = true) :
    ∃ ch, d_change [.tup one, .tup other] = .ok (.tup ch) [] ∧ (∀ u ∈ ch, inB 0 255 u = true) ∧ ch.length ≤ other.length + 8 ∧ (one = other → ch.length ≤ 11) ∧ led one ch (ch.length + 1) 0 0 [] = .inl other := by
  obtain ⟨ch, e, r⟩ := change_of_ok o1 o2 h1 h2
  refine ⟨ch, ?_, r⟩
  have k1 := check_ok (krow_bytes (ws := one) (by omega) h1)
  have k2 := check_ok (krow_bytes (ws := other) (by omega) h2)
  rw [row_of (by omega) h1, if_pos rfl] at k1
  rw [row_of (by omega) h2, if_pos rfl] at k2
  unfold d_change b_change
  rw [fdef_e]
  simp [k1, k2, e]
theorem change_no {w u : W} (hw : KRow w) (hu : KRow u) (h : (isRow w && isRow u) = false) : d_change [w, u] = .er ⟨1, []⟩ [] := by
  unfold d_change b_change
  rw [fdef_e]
  cases c : isRow w
  · simp [check_ok hw, c]
  · rw [c, Bool.true_and] at h
    simp [check_ok hw, check_ok hu, c, h]
theorem cmp1 {ws : List W} (h : ∀ u ∈ ws, inB 0 255 u = true) : ∃ ds, toPy (.tup ws) = some (.tuple ds) ∧ PyData.canLay0 (.tuple ds) = true ∧ PyData.depth (.tuple ds) = 1 ∧ (∀ d ∈ ds, ∃ i, d = PyData.int i) ∧ ws = ds.map (fun d => match d with | .int i => W.int i | _ => W.non) := by
  obtain ⟨ds, e, hd, hl, hm⟩ := toPy_bytes h
  obtain ⟨h1, h2⟩ := lay_ints hd
  exact ⟨ds, by unfold toPy; rw [e]; rfl, by simp [PyData.canLay0, h1], by simp [PyData.depth, h2], hd, hm⟩
theorem eqv1 {xs ys : List W} {ds es : List PyData} (c1 : toPy (.tup xs) = some (.tuple ds)) (c2 : toPy (.tup ys) = some (.tuple es)) (h1 : ∀ d ∈ ds, ∃ i, d = PyData.int i) (h2 : ∀ d ∈ es, ∃ i, d = PyData.int i)
    (m1 : xs = ds.map (fun d => match d with | .int i => W.int i | _ => W.non)) (m2 : ys = es.map (fun d => match d with | .int i => W.int i | _ => W.non)) : PyData.eqv (.tuple ds) (.tuple es) = true ↔ xs = ys := by
  have e : PyData.eqv (.tuple ds) (.tuple es) = PyData.eqvAll ds es := by unfold PyData.eqv; rfl
  rw [e, eqv_ints h1 h2]
  constructor
  · intro q; rw [m1, m2, q]
  · intro q
    rw [q, c2] at c1
    injection c1 with t1
    injection t1 with t1
    exact t1.symm
theorem cmp_two {a b : W} {d e : PyData} (h1 : toPy a = some d) (h2 : PyData.canLay0 d = true) (h3 : PyData.depth d ≤ 50) (g1 : toPy b = some e) (g2 : PyData.canLay0 e = true) (g3 : PyData.depth e ≤ 50) : Cmp (.tup [a, b]) (.tuple [d, e]) := by
  refine ⟨by simp [toPy, toPys, h1, g1], by simp [PyData.canLay0, PyData.canLayAll0, h2, g2], ?_⟩
  simp [PyData.depth, PyData.depthAll]
  omega
theorem gEq_cow {T : List W ⊕ Nat} {other : List W} (h2 : ∀ u ∈ other, inB 0 255 u = true) (hT : ∀ f, T = .inl f → ∀ u ∈ f, inB 0 255 u = true) : ∃ b, gEq (cowW T) (.tup [.tup other, .non]) = some (.v (.bl b)) ∧ (b = true ↔ T = .inl other) := by
  obtain ⟨es, e1, e2, e3, e4, e5⟩ := cmp1 h2
  have c2 := cmp_two e1 e2 (by omega) (b := .non) (e := .none) rfl rfl (by decide)
  cases T with
  | inl f =>
    obtain ⟨ds, d1, d2, d3, d4, d5⟩ := cmp1 (hT f rfl)
    have c1 := cmp_two d1 d2 (by omega) (b := .non) (e := .none) rfl rfl (by decide)
    refine ⟨_, by unfold gEq cowW; rw [wEq_cmp c1 c2]; rfl, ?_⟩
    have e : PyData.eqv (.tuple [.tuple ds, .none]) (.tuple [.tuple es, .none]) = PyData.eqv (.tuple ds) (.tuple es) := by
      have : PyData.eqv (.tuple [.tuple ds, .none]) (.tuple [.tuple es, .none]) = PyData.eqvAll [.tuple ds, .none] [.tuple es, .none] := by unfold PyData.eqv; rfl
      rw [this]
      simp [PyData.eqvAll]
      simp [PyData.eqv]
    rw [e, eqv1 d1 e1 d4 e4 d5 e5]
    constructor
    · intro q; rw [q]
    · intro q; injection q
  | inr a =>
    have c1 := cmp_two (a := .non) (d := .none) rfl rfl (by decide) (b := .int a) (e := .int a) rfl rfl (by simp [PyData.depth])
    refine ⟨_, by unfold gEq cowW; rw [wEq_cmp c1 c2]; rfl, ?_⟩
    have e : PyData.eqv (.tuple [.none, .int a]) (.tuple [.tuple es, .none]) = false := by
      have : PyData.eqv (.tuple [.none, .int a]) (.tuple [.tuple es, .none]) = PyData.eqvAll [.none, .int a] [.tuple es, .none] := by unfold PyData.eqv; rfl
      rw [this]
      simp [PyData.eqvAll, PyData.eqv]
    rw [e]
    simp
theorem gEq_led {T : List W ⊕ Nat} {other : List W} (h2 : ∀ u ∈ other, inB 0 255 u = true) (hT : ∀ f, T = .inl f → ∀ u ∈ f, inB 0 255 u = true) : ∃ b, gEq (ledW T) (.tup [.str "told", .tup other]) = some (.v (.bl b)) ∧ (b = true ↔ T = .inl other) := by
  obtain ⟨es, e1, e2, e3, e4, e5⟩ := cmp1 h2
  have ot : toPy (.str "told") = some (.str "told") := by rfl
  have c2 := cmp_two (a := .str "told") (d := .str "told") ot (by decide +kernel) (by decide) e1 e2 (by omega)
  cases T with
  | inl f =>
    obtain ⟨ds, d1, d2, d3, d4, d5⟩ := cmp1 (hT f rfl)
    have c1 := cmp_two (a := .str "told") (d := .str "told") ot (by decide +kernel) (by decide) d1 d2 (by omega)
    refine ⟨_, by unfold gEq ledW; rw [wEq_cmp c1 c2]; rfl, ?_⟩
    have e : PyData.eqv (.tuple [.str "told", .tuple ds]) (.tuple [.str "told", .tuple es]) = PyData.eqv (.tuple ds) (.tuple es) := by
      have : PyData.eqv (.tuple [.str "told", .tuple ds]) (.tuple [.str "told", .tuple es]) = PyData.eqvAll [.str "told", .tuple ds] [.str "told", .tuple es] := by unfold PyData.eqv; rfl
      rw [this]
      simp [PyData.eqvAll]
      intro
      simp [PyData.eqv]
    rw [e, eqv1 d1 e1 d4 e4 d5 e5]
    constructor
    · intro q; rw [q]
    · intro q; injection q
  | inr a =>
    have c1 := cmp_two (a := .str "BadChange") (d := .str "BadChange") (by rfl) (by decide +kernel) (by decide) (b := .int a) (e := .int a) rfl rfl (by simp [PyData.depth])
    refine ⟨_, by unfold gEq ledW; rw [wEq_cmp c1 c2]; rfl, ?_⟩
    have e : PyData.eqv (.tuple [.str "BadChange", .int a]) (.tuple [.str "told", .tuple es]) = false := by
      have : PyData.eqv (.tuple [.str "BadChange", .int a]) (.tuple [.str "told", .tuple es]) = PyData.eqvAll [.str "BadChange", .int a] [.str "told", .tuple es] := by unfold PyData.eqv; rfl
      rw [this]
      simp [PyData.eqvAll]
      intro
      simp [PyData.eqv]
    rw [e]
    simp
theorem is_change_ok {one other ch : List W} (ol : one.length ≤ 300000) (o2 : other.length ≤ 300000) (hl : ch.length ≤ 90000) (h1 : ∀ u ∈ one, inB 0 255 u = true) (h2 : ∀ u ∈ other, inB 0 255 u = true) (hb : ∀ u ∈ ch, inB 0 255 u = true) (hT : ∀ f, led one ch (ch.length + 1) 0 0 [] = .inl f → ∀ u ∈ f, inB 0 255 u = true) :
    ∃ b, d_is_change [.tup one, .tup other, .tup ch] = .ok (.bl b) [] ∧ (b = true ↔ led one ch (ch.length + 1) 0 0 [] = .inl other) := by
  have k1 := check_ok (krow_bytes (ws := one) (by omega) h1)
  have k2 := check_ok (krow_bytes (ws := other) (by omega) h2)
  rw [row_of (by omega) h1, if_pos rfl] at k1
  rw [row_of (by omega) h2, if_pos rfl] at k2
  have k3 := is_row_ok (krow_bytes (ws := ch) (by omega) hb)
  rw [row_of (by omega) hb] at k3
  have cw := cow_ok ol hl hb
  generalize led one ch (ch.length + 1) 0 0 [] = T at cw hT
  obtain ⟨b, hb1, hb2⟩ := gEq_cow h2 hT
  refine ⟨b, ?_, hb2⟩
  unfold d_is_change b_is_change
  rw [fdef_e, c_row]
  simp [k1, k2, k3, cw, hb1]
theorem is_change_no {w u v : W} (hw : KRow w) (hu : KRow u) (h : (isRow w && isRow u) = false) : d_is_change [w, u, v] = .er ⟨1, []⟩ [] := by
  unfold d_is_change b_is_change
  rw [fdef_e]
  cases c : isRow w
  · simp [check_ok hw, c]
  · rw [c, Bool.true_and] at h
    simp [check_ok hw, check_ok hu, c, h]
theorem refused_ok {w u : W} (hw : KRow w) (hu : KRow u) (h : (isRow w && isRow u) = false) : d__law_refused [w, u] = .ok (.bl true) [] := by
  unfold d__law_refused b__law_refused
  rw [fdef_e]
  simp [change_no hw hu h, is_change_no hw hu h, tst_NoRow, pick]
theorem same_led {T : List W ⊕ Nat} (h : ∀ f, T = .inl f → ∀ u ∈ f, inB 0 255 u = true) : dSame 5 [ledW T, ledW T] = .ok (.bl true) [] := by
  cases T with
  | inl f => exact same_two (same_ss ok_told) (same_bytes (h f rfl))
  | inr a => exact same_two (same_ss (by decide +kernel)) same_ii
end K26

set_option maxRecDepth 100000
set_option maxHeartbeats 4000000
namespace K26
open PySem BV
theorem led_row {one ch : List W} (h1 : ∀ u ∈ one, inB 0 255 u = true) (hb : ∀ u ∈ ch, inB 0 255 u = true) : ∀ {m at' here : Nat} {f g : List W}, at' ≤ ch.length → here ≤ one.length → f.length ≤ here + at' → (∀ u ∈ f, inB 0 255 u = true) → led one ch m at' here f = .inl g → (∀ u ∈ g, inB 0 255 u = true) ∧ g.length ≤ one.length + ch.length
  | 0, at', here, f, g, p1, p2, p3, p4, e => by
    cases e
    exact ⟨p4, by omega⟩
  | m + 1, at', here, f, g, p1, p2, p3, p4, e => by
    by_cases c : at' < ch.length
    · rw [led_step c] at e
      rcases numA_shape (at0 := at') (k := 10) (ws := ch.drop at') (p := at') (f := 0) (v := 1) with z | ⟨n, q, z⟩
      · rw [z] at e
        cases e
      · have nb := numA_bounds (fun u m => hb u (List.mem_of_mem_drop m)) (by omega) (by omega) z
        rw [List.length_drop] at nb
        rw [z] at e
        dsimp only at e
        split at e
        · cases e
        · rename_i d
          have n0 : n / 3 ≠ 0 := fun z => d (.inl z)
          split at e
          · rename_i k
            have hb2 : q + n / 3 ≤ (ch.length : Int) := by
              apply Classical.byContradiction
              intro z
              exact d (.inr (.inr ⟨k, by omega⟩))
            have ln : (sl ch q.toNat (n / 3).toNat).length ≤ (n / 3).toNat := sl_len
            exact led_row h1 hb (by omega) p2 (by rw [List.length_append]; omega) (app_bytes p4 (sl_bytes hb)) e
          · rename_i k
            have hb2 : (here : Int) + n / 3 ≤ one.length := by
              apply Classical.byContradiction
              intro z
              exact d (.inr (.inl ⟨k, by omega⟩))
            split at e
            · have ln : (sl one here (n / 3).toNat).length ≤ (n / 3).toNat := sl_len
              exact led_row h1 hb (by omega) (by omega) (by rw [List.length_append]; omega) (app_bytes p4 (sl_bytes h1)) e
            · exact led_row h1 hb (by omega) (by omega) (by omega) p4 e
    · have e : (if ch.length ≤ at' then Sum.inl f else _) = Sum.inl g := e
      rw [if_pos (by omega)] at e
      cases e
      exact ⟨p4, by omega⟩
theorem compL_inv {t : Tg} {c : TF} {el : EF} {vs : List Nat} {P : Ev → Prop} {R : W → Prop} : ∀ {ws acc : List W} {env : Ev}, P env → (∀ w ∈ ws, ∀ env, P env → ∃ v e, compL1 t c el vs w env = some (some v, e) ∧ P e ∧ R v) → acc.length + ws.length ≤ 16777216 →
    ∃ us e, compL t c el vs ws acc env = .ok (acc ++ us) e ∧ us.length = ws.length ∧ (∀ u ∈ us, R u) ∧ P e
  | [], acc, env, p, _, _ => ⟨[], env, by rw [compL_nil, List.append_nil], rfl, (fun u m => by cases m), p⟩
  | w :: ws, acc, env, p, H, hl => by
    obtain ⟨v, e, h1, p1, r1⟩ := H w (List.mem_cons_self ..) env p
    rw [List.length_cons] at hl
    rw [compL_cons]
    unfold compL1 at h1
    split at h1
    · cases h1
    · rename_i env2 q1
      try rw [q1]
      try dsimp only
      split at h1
      · rename_i env3 q2
        try rw [q2]
        try dsimp only
        split at h1
        · rename_i y env4 q3
          try rw [q3]
          try dsimp only
          cases h1
          rw [if_pos (by omega)]
          obtain ⟨us, e', h2, l2, r2, p2⟩ := compL_inv p1 (fun w' m => H w' (List.mem_cons_of_mem _ m)) (acc := acc ++ [v]) (by rw [List.length_append, List.length_singleton]; omega)
          refine ⟨v :: us, e', by rw [h2, List.append_assoc]; rfl, by simp [l2], fun u m => ?_, p2⟩
          rcases List.mem_cons.1 m with rfl | m
          · exact r1
          · exact r2 u m
        · cases h1
      · cases h1
      · cases h1
theorem len_range {lo hi : Int} : (rangeW lo hi).length = (hi - lo).toNat := by simp [rangeW]
noncomputable def partsB : SF := (sSeq (sSet 4 (fCall [true, false] d__law_take (fCons (fV 0) (fCons (fC (.int 3)) fNil))))
  (sSeq (sSet 5 (fCall [true, false] d__law_take (fCons (fV 0) (fCons (fE (fOp gAdd (fC (.int 1)) (fCall [true, false] d__law_pick (fCons (fV 0) (fCons (fE (fLst (fCons (fC (.int 3)) (fCons (fC (.int 9)) (fCons (fE (fOp gAdd (fB gLen (fCons (fV 1) fNil)) (fC (.int 1)))) (fCons (fC (.int 50)) fNil)))))) fNil))))) fNil))))
  (sSeq (sSet 2 (fOp gAdd (fV 2) (fCall [false] d__law_figures (fCons (fE (fOp gAdd (fOp gMul (fC (.int 3)) (fV 5)) (fV 4))) fNil))))
  (sIf (fTest (fOp gEq (fV 4) (fC (.int 2)))) (sSet 2 (fOp gAdd (fV 2) (fB gTuple (fCons (fLc (fRng1 (fB gMax2 (fCons (fC (.int 0)) (fCons (fOp gSub (fV 5) (fB gInt (fCons (fOp gEq (fCall [true, false] d__law_take (fCons (fV 0) (fCons (fC (.int 12)) fNil))) (fC (.int 0))) fNil))) fNil)))) (.nm 7) fYes (fCall [true, false] d__law_take (fCons (fV 0) (fCons (fC (.int 256)) fNil))) [7]) fNil)))) sNext))))
def partsP (one : List W) (i : Nat) (env : Ev) : Prop := ∃ h f s3 s4 s5 s6 s7, env = [.own h, .dat (.tup one), .dat (.tup f), s3, s4, s5, s6, s7] ∧ f.length ≤ 2000 * i ∧ (∀ u ∈ f, inB 0 255 u = true) ∧ Hand h
theorem parts_turn {one : List W} {i : Nat} {h : W} {f : List W} {s3 s4 s5 s6 s7 : Sl} (ol : one.length ≤ 1000) (hi : i < 6) (hf : f.length ≤ 2000 * i) (fb : ∀ u ∈ f, inB 0 255 u = true) (H : Hand h) :
    ∃ e, partsB [.own h, .dat (.tup one), .dat (.tup f), s3, s4, s5, s6, s7] = .nx e ∧ partsP one (i + 1) e := by
  obtain ⟨way, h1, e1, w0, w1, H⟩ := take_env H (m := 3) (by omega) (by omega)
  obtain ⟨m, h2, e2, m2, H⟩ := pick_ok H (ws := [.int 3, .int 9, .int ((one.length : Int) + 1), .int 50]) (by simp) (by simp)
  obtain ⟨m, rfl, m0, m1⟩ : ∃ k : Int, m = .int k ∧ 0 ≤ k ∧ k ≤ 1001 := by
    simp at m2
    rcases m2 with rfl | rfl | rfl | rfl
    · exact ⟨_, rfl, by omega, by omega⟩
    · exact ⟨_, rfl, by omega, by omega⟩
    · exact ⟨_, rfl, by omega, by omega⟩
    · exact ⟨_, rfl, by omega, by omega⟩
  obtain ⟨many, h3, e3, y0, y1, H⟩ := take_env H (m := 1 + m) (by omega) (by omega)
  have x1 : 3 * many + way < 128 ^ 11 := by omega
  have lf := lfigures_ok (n := 3 * many + way) (by omega) x1
  have fl := figI_len (k := 10) (n := 3 * many + way)
  have fb2 := app_bytes fb (figI_bytes (k := 10) (n := 3 * many + way) (by omega) x1)
  have g1 : gAdd (.tup f) (.tup (figI 10 (3 * many + way))) = some (.v (.tup (f ++ figI 10 (3 * many + way)))) := gAdd_t (by omega)
  obtain ⟨F, hF⟩ : ∃ F, f ++ figI 10 (3 * many + way) = F := ⟨_, rfl⟩
  have Fl : F.length ≤ 2000 * i + 11 := by rw [← hF, List.length_append]; omega
  rw [hF] at fb2 g1
  have gm : gMul (.int 3) (.int many) = some (.v (.int (3 * many))) := gMul_l (by omega)
  have st1 : (sSet 4 (fCall [true, false] d__law_take (fCons (fV 0) (fCons (fC (.int 3)) fNil)))) [.own h, .dat (.tup one), .dat (.tup f), s3, s4, s5, s6, s7] = .nx [.own h1, .dat (.tup one), .dat (.tup f), s3, .dat (.int way), s5, s6, s7] := by
    simp [c_take, e1]
  have st2 : (sSet 5 (fCall [true, false] d__law_take (fCons (fV 0) (fCons (fE (fOp gAdd (fC (.int 1)) (fCall [true, false] d__law_pick (fCons (fV 0) (fCons (fE (fLst (fCons (fC (.int 3)) (fCons (fC (.int 9)) (fCons (fE (fOp gAdd (fB gLen (fCons (fV 1) fNil)) (fC (.int 1)))) (fCons (fC (.int 50)) fNil)))))) fNil))))) fNil)))) [.own h1, .dat (.tup one), .dat (.tup f), s3, .dat (.int way), s5, s6, s7] = .nx [.own h3, .dat (.tup one), .dat (.tup f), s3, .dat (.int way), .dat (.int many), s6, s7] := by
    simp [c_take, c_pick, e2, e3]
  have st3 : (sSet 2 (fOp gAdd (fV 2) (fCall [false] d__law_figures (fCons (fE (fOp gAdd (fOp gMul (fC (.int 3)) (fV 5)) (fV 4))) fNil)))) [.own h3, .dat (.tup one), .dat (.tup f), s3, .dat (.int way), .dat (.int many), s6, s7] = .nx [.own h3, .dat (.tup one), .dat (.tup F), s3, .dat (.int way), .dat (.int many), s6, s7] := by
    simp [c_lfigures, gm, lf, g1]
  unfold partsB
  rw [sSeq_e, st1, thn_nx, sSeq_e, st2, thn_nx, sSeq_e, st3, thn_nx]
  by_cases c : way = 2
  · obtain ⟨t, h4, e4, t0, t1, H⟩ := take_env H (m := 12) (by omega) (by omega)
    obtain ⟨q, hq⟩ : ∃ q, (if (0 : Int) < many - (if t = 0 then 1 else 0) then many - (if t = 0 then 1 else 0) else 0) = q := ⟨_, rfl⟩
    have q1 : 0 ≤ q ∧ q ≤ 1001 := by rw [← hq]; split <;> split <;> omega
    obtain ⟨us, e, hc, ul, ub, h5, s7', rfl, H⟩ := compL_inv (t := .nm 7) (c := fYes) (el := (fCall [true, false] d__law_take (fCons (fV 0) (fCons (fC (.int 256)) fNil)))) (vs := [7])
      (P := fun e => ∃ h s7, e = [.own h, .dat (.tup one), .dat (.tup F), s3, .dat (.int 2), .dat (.int many), s6, s7] ∧ Hand h) (R := fun u => inB 0 255 u = true)
      (ws := rangeW 0 q) (acc := []) (env := [.own h4, .dat (.tup one), .dat (.tup F), s3, .dat (.int 2), .dat (.int many), s6, s7]) ⟨_, _, rfl, H⟩
      (fun w m env p => by
        obtain ⟨h, s7, rfl, H⟩ := p
        obtain ⟨r, h6, e6, r0, r1, H⟩ := take_env H (m := 256) (by omega) (by omega)
        refine ⟨.int r, [.own h6, .dat (.tup one), .dat (.tup F), s3, .dat (.int 2), .dat (.int many), s6, s7], ?_, ⟨_, _, rfl, H⟩, by simp [inB]; omega⟩
        simp [compL1, wipeE, restE, c_take, e6]) (by rw [len_range]; simp; omega)
    rw [len_range] at ul
    have g2 : gAdd (.tup F) (.tup us) = some (.v (.tup (F ++ us))) := gAdd_t (by omega)
    have sm : smallI q = true := by unfold smallI; simp; omega
    refine ⟨[.own h5, .dat (.tup one), .dat (.tup (F ++ us)), s3, .dat (.int 2), .dat (.int many), s6, s7'], ?_, _, _, _, _, _, _, _, rfl, by rw [List.length_append]; omega, app_bytes fb2 ub, H⟩
    subst c
    have gx : gMax2 [.int 0, .int (many - (if t = 0 then 1 else 0))] = some (.v (.int q)) := by
      show some (OV.v (.int (if many - (if t = 0 then 1 else 0) > (0 : Int) then many - (if t = 0 then 1 else 0) else 0))) = _
      rw [← hq]
    have gi : ∀ b, gInt [.bl b] = some (.v (.int (if b then 1 else 0))) := fun _ => rfl
    simp [c_take] at hc
    by_cases z : t = 0
    · rw [if_pos z] at gx
      simp [c_take, e4, z, gx, gi, sm, hc, g2, gTuple]
    · rw [if_neg z, Int.sub_zero] at gx
      simp [c_take, e4, z, gx, gi, sm, hc, g2, gTuple]
  · refine ⟨[.own h3, .dat (.tup one), .dat (.tup F), s3, .dat (.int way), .dat (.int many), s6, s7], ?_, _, _, _, _, _, _, _, rfl, by omega, fb2, H⟩
    simp [c]
theorem parts_ok {h : W} {one : List W} (ol : one.length ≤ 1000) (H : Hand h) : ∃ ws h', d__law_parts [h, .tup one] = .ok (.tup ws) [h'] ∧ ws.length ≤ 30000 ∧ (∀ u ∈ ws, inB 0 255 u = true) ∧ Hand h' := by
  unfold d__law_parts b__law_parts
  rw [fdef_e]
  obtain ⟨r, h1, e1, r0, r1, H⟩ := take_env H (m := 6) (by omega) (by omega)
  obtain ⟨e, hf, h2, f, s3, s4, s5, s6, s7, rfl, fl, fb, H⟩ := forL_rng (t := .nm 3) (f := partsB) (P := partsP one) (lo := 0) (hi := r) (env := [.own h1, .dat (.tup one), .dat (.tup []), .no, .no, .no, .no, .no]) ⟨_, _, _, _, _, _, _, rfl, by simp, by simp, H⟩
    (fun i hi env p => by
      obtain ⟨h, f, s3, s4, s5, s6, s7, rfl, fl, fb, H⟩ := p
      obtain ⟨e, h1, h2⟩ := parts_turn (s3 := .dat (.int (0 + i))) (s4 := s4) (s5 := s5) (s6 := s6) (s7 := s7) ol (by omega) fl fb H
      rw [show turn (.nm 3) partsB (.int (0 + i)) [.own h, .dat (.tup one), .dat (.tup f), s3, s4, s5, s6, s7] = SR.nx e from by rw [Int.zero_add] at h1 ⊢; simp [turn, h1]]
      exact h2)
  have fl : f.length ≤ 12000 := by omega
  obtain ⟨c, h3, e3, c0, c1, H⟩ := take_env H (m := 4) (by omega) (by omega)
  have sm : smallI r = true := by unfold smallI; simp; omega
  unfold partsB at hf
  by_cases z : c = 0
  · obtain ⟨a, h4, e4, a0, a1, H⟩ := take_env H (m := (f.length : Int) + 1) (by omega) (by omega)
    obtain ⟨us, h5, e5, ul, ub, H⟩ := bytes_ok (most := 2) (by omega) (by omega) H
    have la : (f.take a.toNat).length ≤ f.length := by rw [List.length_take]; omega
    have ld : (f.drop a.toNat).length ≤ f.length := by rw [List.length_drop]; omega
    have g1 : gAdd (.tup (f.take a.toNat)) (.tup us) = some (.v (.tup (f.take a.toNat ++ us))) := gAdd_t (by omega)
    have g2 : gAdd (.tup (f.take a.toNat ++ us)) (.tup (f.drop a.toNat)) = some (.v (.tup (f.take a.toNat ++ us ++ f.drop a.toNat))) := gAdd_t (by rw [List.length_append]; omega)
    simp only [List.append_assoc] at g2
    refine ⟨f.take a.toNat ++ (us ++ f.drop a.toNat), h5, ?_, by simp only [List.length_append]; omega, app_bytes (fun u m => fb u (List.mem_of_mem_take m)) (app_bytes ub (fun u m => fb u (List.mem_of_mem_drop m))), H⟩
    simp [c_take, c_pick, c_bytes] at hf
    simp [c_take, c_pick, c_bytes, e1, sm, hf, e3, z, e4, e5, cut_take a0, cut_drop a0, g1, g2]
  · refine ⟨f, h3, ?_, by omega, fb, H⟩
    simp [c_take, c_pick] at hf
    simp [c_take, c_pick, e1, sm, hf, e3, z]
theorem near_ok {h : W} {one : List W} (ol : one.length ≤ 1000) (ob : ∀ u ∈ one, inB 0 255 u = true) (H : Hand h) : ∃ ws h', d__law_near_row [h, .tup one] = .ok (.tup ws) [h'] ∧ ws.length ≤ 3000 ∧ (∀ u ∈ ws, inB 0 255 u = true) ∧ Hand h' := by
  unfold d__law_near_row b__law_near_row
  rw [fdef_e]
  obtain ⟨way, h1, e1, w0, w1, H⟩ := take_env H (m := 8) (by omega) (by omega)
  obtain ⟨a, h2, e2, a0, a1, H⟩ := take_env H (m := (one.length : Int) + 1) (by omega) (by omega)
  obtain ⟨us, h3, e3, ul, ub, H⟩ := bytes_ok (most := 20) (by omega) (by omega) H
  have la : (one.take a.toNat).length ≤ one.length := by rw [List.length_take]; omega
  have ld : (one.drop a.toNat).length ≤ one.length := by rw [List.length_drop]; omega
  have bt : ∀ u ∈ one.take a.toNat, inB 0 255 u = true := fun u m => ob u (List.mem_of_mem_take m)
  have bd : ∀ u ∈ one.drop a.toNat, inB 0 255 u = true := fun u m => ob u (List.mem_of_mem_drop m)
  by_cases c0 : way = 0
  · exact ⟨one, h3, by simp [c_take, c_bytes, e1, e2, e3, c0], by omega, ob, H⟩
  · by_cases c1 : way = 1
    · exact ⟨one.take a.toNat, h3, by simp [c_take, c_bytes, e1, e2, e3, c1, cut_take a0], by omega, bt, H⟩
    · by_cases c2 : way = 2
      · have g1 : gAdd (.tup us) (.tup (one.drop a.toNat)) = some (.v (.tup (us ++ one.drop a.toNat))) := gAdd_t (by omega)
        exact ⟨us ++ one.drop a.toNat, h3, by simp [c_take, c_bytes, e1, e2, e3, c2, cut_drop a0, g1], by rw [List.length_append]; omega, app_bytes ub bd, H⟩
      · by_cases c3 : way = 3
        · exact ⟨us, h3, by simp [c_take, c_bytes, e1, e2, e3, c3], by omega, ub, H⟩
        · by_cases c4 : way = 4
          · have g1 : gAdd (.tup one) (.tup us) = some (.v (.tup (one ++ us))) := gAdd_t (by omega)
            exact ⟨one ++ us, h3, by simp [c_take, c_bytes, e1, e2, e3, c4, g1], by rw [List.length_append]; omega, app_bytes ob ub, H⟩
          · obtain ⟨b, h4, e4, b0, b1, H⟩ := take_env H (m := 12) (by omega) (by omega)
            have le : (one.drop (a + b).toNat).length ≤ one.length := by rw [List.length_drop]; omega
            have g1 : gAdd (.tup (one.take a.toNat)) (.tup us) = some (.v (.tup (one.take a.toNat ++ us))) := gAdd_t (by omega)
            have g2 : gAdd (.tup (one.take a.toNat ++ us)) (.tup (one.drop (a + b).toNat)) = some (.v (.tup (one.take a.toNat ++ us ++ one.drop (a + b).toNat))) := gAdd_t (by rw [List.length_append]; omega)
            simp only [List.append_assoc] at g2
            refine ⟨one.take a.toNat ++ (us ++ one.drop (a + b).toNat), h4, ?_, by simp only [List.length_append]; omega, app_bytes bt (app_bytes ub (fun u m => ob u (List.mem_of_mem_drop m))), H⟩
            simp [c_take, c_bytes, e1, e2, e3, c0, c1, c2, c3, c4, e4, cut_take a0, cut_drop (show 0 ≤ a + b by omega), g1, g2]
end K26

set_option maxRecDepth 100000
set_option maxHeartbeats 4000000
namespace K26
open PySem BV
def LP (s : W) (one : List W) (e : Ev) : Prop := ∃ h a3 a4 a5 a6 a7 a8, e = [.dat s, .own h, .dat (.tup one), a3, a4, a5, a6, a7, a8] ∧ Hand h
theorem cmp_str {x : Str} (h : PyData.strOk x = true) : Cmp (.str x) (.str x) := ⟨rfl, h, by simp [PyData.depth]⟩
theorem gEq_ne : gEq (.str "BadChange") (.str "told") = some (.v (.bl false)) := by
  unfold gEq
  rw [wEq_cmp (cmp_str (by decide +kernel)) (cmp_str ok_told)]
  have : PyData.eqv (.str "BadChange") (.str "told") = false := by
    unfold PyData.eqv
    decide +kernel
  rw [this]
  rfl
theorem gEq_nr : gEq (.tup [.str "NoRow"]) (.tup [.str "NoRow"]) = some (.v (.bl true)) := by
  have c : Cmp (.tup [.str "NoRow"]) (.tuple [.str "NoRow"]) := ⟨rfl, by simp [PyData.canLay0, PyData.canLayAll0]; exact ok_NoRow, by simp [PyData.depth, PyData.depthAll]⟩
  unfold gEq
  rw [wEq_cmp c c]
  have : PyData.eqv (.tuple [.str "NoRow"]) (.tuple [.str "NoRow"]) = true := by
    have : PyData.eqv (.tuple [.str "NoRow"]) (.tuple [.str "NoRow"]) = PyData.eqvAll [.str "NoRow"] [.str "NoRow"] := by unfold PyData.eqv; rfl
    rw [this]
    simp [PyData.eqvAll]
    simp [PyData.eqv]
  rw [this]
  rfl
theorem rt_nx {e e' : Ev} {P : Ev → Prop} {f : SF} (h : f e = .nx e') (p : P e') : (f e).Nx P := by
  rw [h]
  exact p
theorem turn_ok {s : W} {h : W} {one : List W} {a3 a4 a5 a6 a7 a8 : Sl} (ol : one.length ≤ 1000) (ob : ∀ u ∈ one, inB 0 255 u = true) (H : Hand h) :
    (b_law_15 [.dat s, .own h, .dat (.tup one), a3, a4, a5, a6, a7, a8]).Nx (LP s one) := by
  obtain ⟨ch, h1, e1, cl, cb, H⟩ := parts_ok ol H
  obtain ⟨other, h2, e2, xl, xb, H⟩ := near_ok ol ob H
  obtain ⟨told, e3, tb, tl, te, tT⟩ := change_ok (one := one) (other := other) (by omega) (by omega) ob xb
  obtain ⟨T, hT⟩ : ∃ T, led one ch (ch.length + 1) 0 0 [] = T := ⟨_, rfl⟩
  have Tr : ∀ f, T = .inl f → (∀ u ∈ f, inB 0 255 u = true) ∧ f.length ≤ one.length + ch.length := fun f e => led_row ob cb (m := ch.length + 1) (at' := 0) (here := 0) (f := []) (by omega) (by omega) (by simp) (by simp) (by rw [hT, e])
  have Tb : ∀ f, T = .inl f → ∀ u ∈ f, inB 0 255 u = true := fun f e => (Tr f e).1
  have l1 := lled_ok (one := one) (ch := ch) (by omega) (by omega) cb
  have l2 := told_ok (one := one) (ch := ch) (by omega) (by omega) ob cb
  have l3 := lled_ok (one := one) (ch := told) (by omega) (by omega) tb
  have l4 := changed_ok (one := one) (ch := told) (by omega) (by omega) ob tb
  rw [hT] at l1 l2
  rw [tT] at l3 l4
  obtain ⟨b1, i1, j1⟩ := is_change_ok (one := one) (other := other) (ch := told) (by omega) (by omega) (by omega) ob xb tb (fun f e => by rw [tT] at e; cases e; exact xb)
  have b1t : b1 = true := j1.2 tT
  subst b1t
  obtain ⟨b2, i2, j2⟩ := is_change_ok (one := one) (other := other) (ch := ch) (by omega) (by omega) (by omega) ob xb cb (by rw [hT]; exact Tb)
  rw [hT] at j2
  obtain ⟨b3, i3, j3⟩ := gEq_led (T := T) xb Tb
  have b23 : b3 = b2 := by
    rw [Bool.eq_iff_iff]
    exact j3.trans j2.symm
  subst b23
  obtain ⟨b4, i4, j4⟩ := gEq_bytes ob xb
  have kr := lis_row_ok (krow_bytes (ws := told) (by omega) tb)
  rw [row_of (by omega) tb] at kr
  have sl1 := same_led Tb
  have sl2 := same_two (n := 4) (a := .str "told") (b := .tup other) (same_ss ok_told) (same_bytes xb)
  have sl3 := same_bytes (n := 3) xb
  have sb : ∀ b : Bool, dSame 5 [.bl b, .bl b] = .ok (.bl true) [] := fun b => by cases b <;> rfl
  have q5 : b_law_5 [.dat s, .own h, .dat (.tup one), a3, a4, a5, a6, a7, a8] = .nx [.dat s, .own h1, .dat (.tup one), a3, .dat (.tup ch), a5, a6, a7, a8] := by simp [b_law_5, e1]
  have q6 : b_law_6 [.dat s, .own h1, .dat (.tup one), a3, .dat (.tup ch), a5, a6, a7, a8] = .nx [.dat s, .own h1, .dat (.tup one), a3, .dat (.tup ch), .dat (ledW T), a6, a7, a8] := by simp [b_law_6, l1]
  have q7 : b_law_7 [.dat s, .own h1, .dat (.tup one), a3, .dat (.tup ch), .dat (ledW T), a6, a7, a8] = .nx [.dat s, .own h1, .dat (.tup one), a3, .dat (.tup ch), .dat (ledW T), a6, a7, a8] := by simp [b_law_7, l2, c_same, sl1]
  have q8 : b_law_8 [.dat s, .own h1, .dat (.tup one), a3, .dat (.tup ch), .dat (ledW T), a6, a7, a8] = .nx [.dat s, .own h2, .dat (.tup one), a3, .dat (.tup ch), .dat (ledW T), .dat (.tup other), a7, a8] := by simp [b_law_8, e2]
  have q9 : b_law_9 [.dat s, .own h2, .dat (.tup one), a3, .dat (.tup ch), .dat (ledW T), .dat (.tup other), a7, a8] = .nx [.dat s, .own h2, .dat (.tup one), a3, .dat (.tup ch), .dat (ledW T), .dat (.tup other), .dat (.tup told), a8] := by simp [b_law_9, e3]
  have q10 : b_law_10 [.dat s, .own h2, .dat (.tup one), a3, .dat (.tup ch), .dat (ledW T), .dat (.tup other), .dat (.tup told), a8] = .nx [.dat s, .own h2, .dat (.tup one), a3, .dat (.tup ch), .dat (ledW T), .dat (.tup other), .dat (.tup told), a8] := by
    have n1 : ¬ ((other.length : Int) + 11 < told.length) := by omega
    cases b4 with
    | false => simp [b_law_10, c_lrow, kr, n1, i4]
    | true =>
      have n2 := te (j4.1 rfl)
      simp [b_law_10, c_lrow, kr, n1, i4, show (told.length : Int) ≤ 11 by omega]
  have q11 : b_law_11 [.dat s, .own h2, .dat (.tup one), a3, .dat (.tup ch), .dat (ledW T), .dat (.tup other), .dat (.tup told), a8] = .nx [.dat s, .own h2, .dat (.tup one), a3, .dat (.tup ch), .dat (ledW T), .dat (.tup other), .dat (.tup told), a8] := by
    simp [b_law_11, l3, l4, ledW, outW, c_same, sl2, sl3]
  have q12 : b_law_12 [.dat s, .own h2, .dat (.tup one), a3, .dat (.tup ch), .dat (ledW T), .dat (.tup other), .dat (.tup told), a8] = .nx [.dat s, .own h2, .dat (.tup one), a3, .dat (.tup ch), .dat (ledW T), .dat (.tup other), .dat (.tup told), a8] := by
    simp [b_law_12, i1, gIsNot, isBl]
  have q13 : b_law_13 [.dat s, .own h2, .dat (.tup one), a3, .dat (.tup ch), .dat (ledW T), .dat (.tup other), .dat (.tup told), a8] = .nx [.dat s, .own h2, .dat (.tup one), a3, .dat (.tup ch), .dat (ledW T), .dat (.tup other), .dat (.tup told), a8] := by
    simp [b_law_13, i2, i3, c_same, sb]
  have q14 : b_law_14 [.dat s, .own h2, .dat (.tup one), a3, .dat (.tup ch), .dat (ledW T), .dat (.tup other), .dat (.tup told), a8] = .nx [.dat s, .own h2, .dat (.tup one), a3, .dat (.tup ch), .dat (ledW T), .dat (.tup other), .dat (.tup told), a8] := by
    cases T with
    | inl f =>
      obtain ⟨fb, fl⟩ := Tr f rfl
      obtain ⟨b5, i5, j5⟩ := is_change_ok (one := one) (other := f) (ch := ch) (by omega) (by omega) (by omega) ob fb cb (by rw [hT]; exact Tb)
      have b5t : b5 = true := j5.2 hT
      subst b5t
      simp [b_law_14, ledW, gEq_xx ok_told, i5, gIsNot, isBl]
    | inr a =>
      simp [b_law_14, ledW, gEq_ne]
  have q15 : b_law_15 [.dat s, .own h, .dat (.tup one), a3, a4, a5, a6, a7, a8] = .nx [.dat s, .own h2, .dat (.tup one), a3, .dat (.tup ch), .dat (ledW T), .dat (.tup other), .dat (.tup told), a8] := by
    unfold b_law_15
    rw [sSeq_e, q5, thn_nx, sSeq_e, q6, thn_nx, sSeq_e, q7, thn_nx, sSeq_e, q8, thn_nx, sSeq_e, q9, thn_nx, sSeq_e, q10, thn_nx, sSeq_e, q11, thn_nx, sSeq_e, q12, thn_nx, sSeq_e, q13, thn_nx, q14]
  exact rt_nx q15 ⟨_, _, _, _, _, _, _, rfl, H⟩
theorem law_true (ns : List Int) (h : ns.length ≤ 63) : d_law [.fz (ns.map W.int)] = .ok (.bl true) [] := by
  unfold d_law b_law
  rw [fdef_e]
  obtain ⟨s, hs⟩ : ∃ s, W.fz (ns.map W.int) = s := ⟨_, rfl⟩
  have q1 : b_law_1 [.dat s, .no, .no, .no, .no, .no, .no, .no, .no] = .nx [.dat s, .own (.lst [.lst (ns.map W.int), .int 0, .int 0, .int 1, .int 0]), .no, .no, .no, .no, .no, .no, .no] := by
    rw [← hs]
    simp [b_law_1, d__law_hand, fdef_e, b__law_hand]
  have H := hand_new (ns := ns)
  generalize W.lst [.lst (ns.map W.int), .int 0, .int 0, .int 1, .int 0] = h0 at q1 H
  obtain ⟨one0, h1, e1, l1, b1, H⟩ := bytes_ok (most := 60) (by omega) (by omega) H
  have q2 : b_law_2 [.dat s, .own h0, .no, .no, .no, .no, .no, .no, .no] = .nx [.dat s, .own h1, .dat (.tup one0), .no, .no, .no, .no, .no, .no] := by
    simp [b_law_2, c_bytes, e1]
  obtain ⟨t, h2, e2, t0, t1, H⟩ := take_env H (m := 10) (by omega) (by omega)
  have q4 : ∃ one, b_law_4 [.dat s, .own h1, .dat (.tup one0), .no, .no, .no, .no, .no, .no] = .nx [.dat s, .own h2, .dat (.tup one), .no, .no, .no, .no, .no, .no] ∧ one.length ≤ 1000 ∧ ∀ u ∈ one, inB 0 255 u = true := by
    by_cases c : t = 0
    · have g1 : gAdd (.tup one0) (.tup [.int 1, .int 2, .int 3]) = some (.v (.tup (one0 ++ [.int 1, .int 2, .int 3]))) := gAdd_t (by simp; omega)
      obtain ⟨two, htwo⟩ : ∃ two, one0 ++ [.int 1, .int 2, .int 3] = two := ⟨_, rfl⟩
      have l2 : two.length ≤ 63 := by rw [← htwo]; simp; omega
      have b2 : ∀ u ∈ two, inB 0 255 u = true := by
        rw [← htwo]
        exact app_bytes b1 (by intro u m; simp at m; rcases m with rfl | rfl | rfl <;> rfl)
      rw [htwo] at g1
      have g2 : gMul (.tup two) (.int 11) = some (.v (.tup (List.replicate 11 two).flatten)) := by
        show (if 0 ≤ (11 : Int) ∧ (11 : Int) * (two.length : Nat) ≤ 16777216 ∧ (11 : Int) < 16777217 then some (OV.v (W.tup (List.replicate (11 : Int).toNat two).flatten)) else none) = _
        rw [if_pos (by omega)]
        rfl
      refine ⟨(List.replicate 11 two).flatten, by simp [b_law_4, b_law_3, c_take, e2, c, g1, g2], ?_, fun u m => ?_⟩
      · rw [PyProof.Rows.lm_len_rep_flat]
        omega
      · obtain ⟨l, m1, m2⟩ := List.mem_flatten.1 m
        rw [List.eq_of_mem_replicate m1] at m2
        exact b2 u m2
    · exact ⟨one0, by simp [b_law_4, c_take, e2, c], by omega, b1⟩
  obtain ⟨one, q4, ol, ob⟩ := q4
  obtain ⟨e, f1, h3, c3, c4, c5, c6, c7, c8, rfl, H⟩ := forL_rng (t := .nm 3) (f := b_law_15) (lo := 0) (hi := 3) (P := fun _ => LP s one)
    (env := [.dat s, .own h2, .dat (.tup one), .no, .no, .no, .no, .no, .no]) ⟨_, _, _, _, _, _, _, rfl, H⟩ (fun i hi env p => by
      obtain ⟨h, a3, a4, a5, a6, a7, a8, rfl, H⟩ := p
      exact turn_ok (a3 := .dat (.int (0 + i))) ol ob H)
  obtain ⟨t, h4, e4, t0, t1, H⟩ := take_env H (m := 20) (by omega) (by omega)
  have ko : KRow (.tup one) := krow_bytes (by omega) ob
  have kt : KRow (.tup []) := krow_bytes (by simp) (by simp)
  have q16 : ∃ odd h5, b_law_16 [.dat s, .own h3, .dat (.tup one), c3, c4, c5, c6, c7, c8] = .nx [.dat s, .own h5, .dat (.tup one), c3, c4, c5, c6, c7, .dat odd] ∧ KRow odd ∧ isRow odd = false := by
    by_cases c : 0 < t
    · obtain ⟨w, h5, e5, m5, H⟩ := pick_ok H (ws := [.lst one, .tup [.int 256], .tup [.bl true], .non, .str "a", .dct []]) (by simp) (by simp)
      refine ⟨w, h5, by simp [b_law_16, c_take, c_pick, e4, c, e5], ?_⟩
      have kk : ∀ {w : W}, Kn w → (∀ ws, w ≠ .tup ws) → KRow w := fun a b => krow_of a b
      have k1 : ∀ {u : W}, Kn u → KRow (.tup [u]) := fun hu => ⟨kn_tup, fun vs e => by
        cases e
        refine ⟨by simp, fun u m => ?_⟩
        rw [List.mem_singleton.1 m]
        exact hu⟩
      simp at m5
      rcases m5 with rfl | rfl | rfl | rfl | rfl | rfl
      · exact ⟨kk (by intro e; cases e) (fun ws e => by cases e), rfl⟩
      · exact ⟨k1 kn_int, rfl⟩
      · exact ⟨k1 (by intro e; cases e), rfl⟩
      · exact ⟨kk (by intro e; cases e) (fun ws e => by cases e), rfl⟩
      · exact ⟨kk (by intro e; cases e) (fun ws e => by cases e), rfl⟩
      · exact ⟨kk (by intro e; cases e) (fun ws e => by cases e), rfl⟩
    · have g : gMul (.tup [.int 9]) (.int ((300001 : Nat) : Int)) = some (.v (.tup (List.replicate 300001 (.int 9)))) := mul_one (by omega)
      obtain ⟨big, hbig⟩ : ∃ big, List.replicate 300001 (W.int 9) = big := ⟨_, rfl⟩
      rw [hbig] at g
      have g : gMul (.tup [.int 9]) (.int 300001) = some (.v (.tup big)) := g
      have bl : big.length = 300001 := by rw [← hbig, List.length_replicate]
      have bb : ∀ u ∈ big, inB 0 255 u = true := fun u m => by
        rw [← hbig] at m
        rw [List.eq_of_mem_replicate m]
        rfl
      refine ⟨.tup big, h4, by simp [b_law_16, c_take, e4, c, g], krow_bytes (by omega) bb, ?_⟩
      show (decide (big.length ≤ 300000) && big.all (inB 0 255)) = false
      rw [decide_eq_false (by omega), Bool.false_and]
  obtain ⟨odd, h5, q16, K, no⟩ := q16
  have r1 : d__law_refused [odd, .tup one] = .ok (.bl true) [] := refused_ok K ko (by rw [no, Bool.false_and])
  have r2 : d__law_refused [.tup one, odd] = .ok (.bl true) [] := refused_ok ko K (by rw [no, Bool.and_false])
  have r3 : d__law_told [odd, .tup []] = .ok (.tup [.str "NoRow"]) [] := told_no K kt (by rw [no, Bool.false_and])
  have r4 : d__law_told [.tup one, odd] = .ok (.tup [.str "NoRow"]) [] := told_no ko K (by rw [no, Bool.and_false])
  have r5 : d_is_change [.tup one, .tup one, odd] = .ok (.bl false) [] := by
    have k1 := check_ok ko
    rw [row_of (by omega) ob, if_pos rfl] at k1
    have k3 := is_row_ok K
    rw [no] at k3
    unfold d_is_change b_is_change
    rw [fdef_e, c_row]
    simp [k1, k3]
  have g5 := gEq_nr
  have q17 : b_law_17 [.dat s, .own h5, .dat (.tup one), c3, c4, c5, c6, c7, .dat odd] = .nx [.dat s, .own h5, .dat (.tup one), c3, c4, c5, c6, c7, .dat odd] := by
    simp [b_law_17, r1, r2, r5, gIsNot, isBl]
  have q18 : b_law_18 [.dat s, .own h5, .dat (.tup one), c3, c4, c5, c6, c7, .dat odd] = .rt (.bl true) [.dat s, .own h5, .dat (.tup one), c3, c4, c5, c6, c7, .dat odd] := by
    simp [b_law_18, r3, r4, g5]
  simp [hs, q1, q2, q4, smallI, f1, q16, q17, q18]
end K26

set_option maxRecDepth 100000
set_option maxHeartbeats 4000000
namespace K26
open PySem PySem.Spec PyProof.Rows L2 BV
theorem all_mk {l : PySem.W.OpenLaw} {w : World} {K : PySem.W.Frag} {h : Heap} {mg : Str → Option Value} {fl : Addr} (X : K.In h) (G : h.Ns mainGlobals mg) (hfl : mg "law" = some (.ref fl))
    {f0 f1 f2 f3 f4 f5 f6 f7 f8 f9 f10 f11 f12 f13 f14 f15 f16 f17 f18 f19 f20 f21 f22 f23 f24 f25 f26 f27 f28 f29 f30 f31 f32 C0 C1 C2 : Addr} {od0 an0 od1 an1 od2 an2 od3 an3 od4 an4 od5 an5 od6 an6 od7 an7 od8 an8 od9 an9 od10 an10 od11 an11 od12 an12 od13 an13 od14 an14 od15 an15 od16 an16 od17 an17 od18 an18 od19 an19 od20 an20 od21 an21 od22 an22 od23 an23 od24 an24 od25 an25 od26 an26 od27 an27 od28 an28 od29 an29 od30 an30 od31 an31 od32 an32 : Option Addr} {sl0 sl1 sl2 sl3 sl4 sl5 sl6 sl7 sl8 sl9 sl10 sl11 sl12 sl13 sl14 sl15 sl16 sl17 sl18 sl19 sl20 sl21 sl22 sl23 sl24 sl25 sl26 sl27 sl28 sl29 sl30 sl31 sl32 : Array (Option Value)} {oc0 kV0 dc0 pm0 cd0 ct0 oc1 kV1 dc1 pm1 cd1 ct1 oc2 kV2 dc2 pm2 cd2 ct2 oc3 kV3 dc3 pm3 cd3 ct3 oc4 kV4 dc4 pm4 cd4 ct4 oc5 kV5 dc5 pm5 cd5 ct5 oc6 kV6 dc6 pm6 cd6 ct6 oc7 kV7 dc7 pm7 cd7 ct7 oc8 kV8 dc8 pm8 cd8 ct8 oc9 kV9 dc9 pm9 cd9 ct9 oc10 kV10 dc10 pm10 cd10 ct10 oc11 kV11 dc11 pm11 cd11 ct11 oc12 kV12 dc12 pm12 cd12 ct12 oc13 kV13 dc13 pm13 cd13 ct13 oc14 kV14 dc14 pm14 cd14 ct14 oc15 kV15 dc15 pm15 cd15 ct15 oc16 kV16 dc16 pm16 cd16 ct16 oc17 kV17 dc17 pm17 cd17 ct17 oc18 kV18 dc18 pm18 cd18 ct18 oc19 kV19 dc19 pm19 cd19 ct19 oc20 kV20 dc20 pm20 cd20 ct20 oc21 kV21 dc21 pm21 cd21 ct21 oc22 kV22 dc22 pm22 cd22 ct22 oc23 kV23 dc23 pm23 cd23 ct23 oc24 kV24 dc24 pm24 cd24 ct24 oc25 kV25 dc25 pm25 cd25 ct25 oc26 kV26 dc26 pm26 cd26 ct26 oc27 kV27 dc27 pm27 cd27 ct27 oc28 kV28 dc28 pm28 cd28 ct28 oc29 kV29 dc29 pm29 cd29 ct29 oc30 kV30 dc30 pm30 cd30 ct30 oc31 kV31 dc31 pm31 cd31 ct31 oc32 kV32 dc32 pm32 cd32 ct32 : Value} {t_BYTE t_FIGURE t_KEPT t_LEAST_KEPT t_LEFT_OUT t_MOST_BYTES t_MOST_FIGURES t_PUT_IN t_WHOLE_BOUND : Tok} {nm2 q2 : Str} {N2 : Addr} {bs2 sub2 : List Value} {sn2 : List Str} {ab2 : Bool} {col2 : Option Bool} {dd2 : Option Addr} {m0_2 m1_2 m2_2 m3_2 m5_2 : Option Value}
    (a0 : PySem.W.nsIn K mainGlobals "is_integer" = some (some (.ref f0)))
    (l0 : K.lookup f0 = some ⟨oc0, od0, .func (PySem.W.fnOf "is_integer" "is_integer" (defArgs (topS 5)) (defBody (topS 5)) (defScope (topS 5)) .none kV0 dc0 pm0 an0 cd0 ct0), sl0⟩)
    (c0 : PySem.W.codeIn K cd0 "is_integer" = true)
    (k0 : PySem.W.keepIn K (.ref f0) = true)
    (a1 : PySem.W.nsIn K mainGlobals "is_within" = some (some (.ref f1)))
    (l1 : K.lookup f1 = some ⟨oc1, od1, .func (PySem.W.fnOf "is_within" "is_within" (defArgs (topS 6)) (defBody (topS 6)) (defScope (topS 6)) .none kV1 dc1 pm1 an1 cd1 ct1), sl1⟩)
    (c1 : PySem.W.codeIn K cd1 "is_within" = true)
    (k1 : PySem.W.keepIn K (.ref f1) = true)
    (a2 : PySem.W.nsIn K mainGlobals "is_below" = some (some (.ref f2)))
    (l2 : K.lookup f2 = some ⟨oc2, od2, .func (PySem.W.fnOf "is_below" "is_below" (defArgs (topS 7)) (defBody (topS 7)) (defScope (topS 7)) .none kV2 dc2 pm2 an2 cd2 ct2), sl2⟩)
    (c2 : PySem.W.codeIn K cd2 "is_below" = true)
    (k2 : PySem.W.keepIn K (.ref f2) = true)
    (a3 : PySem.W.nsIn K mainGlobals "is_row" = some (some (.ref f3)))
    (l3 : K.lookup f3 = some ⟨oc3, od3, .func (PySem.W.fnOf "is_row" "is_row" (defArgs (topS 14)) (defBody (topS 14)) (defScope (topS 14)) .none kV3 dc3 pm3 an3 cd3 ct3), sl3⟩)
    (c3 : PySem.W.codeIn K cd3 "is_row" = true)
    (k3 : PySem.W.keepIn K (.ref f3) = true)
    (a4 : PySem.W.nsIn K mainGlobals "check_row" = some (some (.ref f4)))
    (l4 : K.lookup f4 = some ⟨oc4, od4, .func (PySem.W.fnOf "check_row" "check_row" (defArgs (topS 15)) (defBody (topS 15)) (defScope (topS 15)) .none kV4 dc4 pm4 an4 cd4 ct4), sl4⟩)
    (c4 : PySem.W.codeIn K cd4 "check_row" = true)
    (k4 : PySem.W.keepIn K (.ref f4) = true)
    (a5 : PySem.W.nsIn K mainGlobals "figures_of" = some (some (.ref f5)))
    (l5 : K.lookup f5 = some ⟨oc5, od5, .func (PySem.W.fnOf "figures_of" "figures_of" (defArgs (topS 16)) (defBody (topS 16)) (defScope (topS 16)) .none kV5 dc5 pm5 an5 cd5 ct5), sl5⟩)
    (c5 : PySem.W.codeIn K cd5 "figures_of" = true)
    (k5 : PySem.W.keepIn K (.ref f5) = true)
    (a6 : PySem.W.nsIn K mainGlobals "number_at" = some (some (.ref f6)))
    (l6 : K.lookup f6 = some ⟨oc6, od6, .func (PySem.W.fnOf "number_at" "number_at" (defArgs (topS 17)) (defBody (topS 17)) (defScope (topS 17)) .none kV6 dc6 pm6 an6 cd6 ct6), sl6⟩)
    (c6 : PySem.W.codeIn K cd6 "number_at" = true)
    (k6 : PySem.W.keepIn K (.ref f6) = true)
    (a7 : PySem.W.nsIn K mainGlobals "part_at" = some (some (.ref f7)))
    (l7 : K.lookup f7 = some ⟨oc7, od7, .func (PySem.W.fnOf "part_at" "part_at" (defArgs (topS 23)) (defBody (topS 23)) (defScope (topS 23)) .none kV7 dc7 pm7 an7 cd7 ct7), sl7⟩)
    (c7 : PySem.W.codeIn K cd7 "part_at" = true)
    (k7 : PySem.W.keepIn K (.ref f7) = true)
    (a8 : PySem.W.nsIn K mainGlobals "changed_or_wrong" = some (some (.ref f8)))
    (l8 : K.lookup f8 = some ⟨oc8, od8, .func (PySem.W.fnOf "changed_or_wrong" "changed_or_wrong" (defArgs (topS 24)) (defBody (topS 24)) (defScope (topS 24)) .none kV8 dc8 pm8 an8 cd8 ct8), sl8⟩)
    (c8 : PySem.W.codeIn K cd8 "changed_or_wrong" = true)
    (k8 : PySem.W.keepIn K (.ref f8) = true)
    (a9 : PySem.W.nsIn K mainGlobals "changed" = some (some (.ref f9)))
    (l9 : K.lookup f9 = some ⟨oc9, od9, .func (PySem.W.fnOf "changed" "changed" (defArgs (topS 25)) (defBody (topS 25)) (defScope (topS 25)) .none kV9 dc9 pm9 an9 cd9 ct9), sl9⟩)
    (c9 : PySem.W.codeIn K cd9 "changed" = true)
    (k9 : PySem.W.keepIn K (.ref f9) = true)
    (a10 : PySem.W.nsIn K mainGlobals "common_begin" = some (some (.ref f10)))
    (l10 : K.lookup f10 = some ⟨oc10, od10, .func (PySem.W.fnOf "common_begin" "common_begin" (defArgs (topS 26)) (defBody (topS 26)) (defScope (topS 26)) .none kV10 dc10 pm10 an10 cd10 ct10), sl10⟩)
    (c10 : PySem.W.codeIn K cd10 "common_begin" = true)
    (k10 : PySem.W.keepIn K (.ref f10) = true)
    (a11 : PySem.W.nsIn K mainGlobals "common_end" = some (some (.ref f11)))
    (l11 : K.lookup f11 = some ⟨oc11, od11, .func (PySem.W.fnOf "common_end" "common_end" (defArgs (topS 27)) (defBody (topS 27)) (defScope (topS 27)) .none kV11 dc11 pm11 an11 cd11 ct11), sl11⟩)
    (c11 : PySem.W.codeIn K cd11 "common_end" = true)
    (k11 : PySem.W.keepIn K (.ref f11) = true)
    (a12 : PySem.W.nsIn K mainGlobals "part_row" = some (some (.ref f12)))
    (l12 : K.lookup f12 = some ⟨oc12, od12, .func (PySem.W.fnOf "part_row" "part_row" (defArgs (topS 28)) (defBody (topS 28)) (defScope (topS 28)) .none kV12 dc12 pm12 an12 cd12 ct12), sl12⟩)
    (c12 : PySem.W.codeIn K cd12 "part_row" = true)
    (k12 : PySem.W.keepIn K (.ref f12) = true)
    (a13 : PySem.W.nsIn K mainGlobals "change_of" = some (some (.ref f13)))
    (l13 : K.lookup f13 = some ⟨oc13, od13, .func (PySem.W.fnOf "change_of" "change_of" (defArgs (topS 29)) (defBody (topS 29)) (defScope (topS 29)) .none kV13 dc13 pm13 an13 cd13 ct13), sl13⟩)
    (c13 : PySem.W.codeIn K cd13 "change_of" = true)
    (k13 : PySem.W.keepIn K (.ref f13) = true)
    (a14 : PySem.W.nsIn K mainGlobals "change" = some (some (.ref f14)))
    (l14 : K.lookup f14 = some ⟨oc14, od14, .func (PySem.W.fnOf "change" "change" (defArgs (topS 30)) (defBody (topS 30)) (defScope (topS 30)) .none kV14 dc14 pm14 an14 cd14 ct14), sl14⟩)
    (c14 : PySem.W.codeIn K cd14 "change" = true)
    (k14 : PySem.W.keepIn K (.ref f14) = true)
    (a15 : PySem.W.nsIn K mainGlobals "is_change" = some (some (.ref f15)))
    (l15 : K.lookup f15 = some ⟨oc15, od15, .func (PySem.W.fnOf "is_change" "is_change" (defArgs (topS 31)) (defBody (topS 31)) (defScope (topS 31)) .none kV15 dc15 pm15 an15 cd15 ct15), sl15⟩)
    (c15 : PySem.W.codeIn K cd15 "is_change" = true)
    (k15 : PySem.W.keepIn K (.ref f15) = true)
    (a16 : PySem.W.nsIn K mainGlobals "_law_hand" = some (some (.ref f16)))
    (l16 : K.lookup f16 = some ⟨oc16, od16, .func (PySem.W.fnOf "_law_hand" "_law_hand" (defArgs (topS 33)) (defBody (topS 33)) (defScope (topS 33)) .none kV16 dc16 pm16 an16 cd16 ct16), sl16⟩)
    (c16 : PySem.W.codeIn K cd16 "_law_hand" = true)
    (k16 : PySem.W.keepIn K (.ref f16) = true)
    (a17 : PySem.W.nsIn K mainGlobals "_law_take" = some (some (.ref f17)))
    (l17 : K.lookup f17 = some ⟨oc17, od17, .func (PySem.W.fnOf "_law_take" "_law_take" (defArgs (topS 34)) (defBody (topS 34)) (defScope (topS 34)) .none kV17 dc17 pm17 an17 cd17 ct17), sl17⟩)
    (c17 : PySem.W.codeIn K cd17 "_law_take" = true)
    (k17 : PySem.W.keepIn K (.ref f17) = true)
    (a18 : PySem.W.nsIn K mainGlobals "_law_pick" = some (some (.ref f18)))
    (l18 : K.lookup f18 = some ⟨oc18, od18, .func (PySem.W.fnOf "_law_pick" "_law_pick" (defArgs (topS 35)) (defBody (topS 35)) (defScope (topS 35)) .none kV18 dc18 pm18 an18 cd18 ct18), sl18⟩)
    (c18 : PySem.W.codeIn K cd18 "_law_pick" = true)
    (k18 : PySem.W.keepIn K (.ref f18) = true)
    (a19 : PySem.W.nsIn K mainGlobals "_law_is_integer" = some (some (.ref f19)))
    (l19 : K.lookup f19 = some ⟨oc19, od19, .func (PySem.W.fnOf "_law_is_integer" "_law_is_integer" (defArgs (topS 36)) (defBody (topS 36)) (defScope (topS 36)) .none kV19 dc19 pm19 an19 cd19 ct19), sl19⟩)
    (c19 : PySem.W.codeIn K cd19 "_law_is_integer" = true)
    (k19 : PySem.W.keepIn K (.ref f19) = true)
    (a20 : PySem.W.nsIn K mainGlobals "_law_is_within" = some (some (.ref f20)))
    (l20 : K.lookup f20 = some ⟨oc20, od20, .func (PySem.W.fnOf "_law_is_within" "_law_is_within" (defArgs (topS 37)) (defBody (topS 37)) (defScope (topS 37)) .none kV20 dc20 pm20 an20 cd20 ct20), sl20⟩)
    (c20 : PySem.W.codeIn K cd20 "_law_is_within" = true)
    (k20 : PySem.W.keepIn K (.ref f20) = true)
    (a21 : PySem.W.nsIn K mainGlobals "_law_same" = some (some (.ref f21)))
    (l21 : K.lookup f21 = some ⟨oc21, od21, .func (PySem.W.fnOf "_law_same" "_law_same" (defArgs (topS 38)) (defBody (topS 38)) (defScope (topS 38)) .none kV21 dc21 pm21 an21 cd21 ct21), sl21⟩)
    (c21 : PySem.W.codeIn K cd21 "_law_same" = true)
    (k21 : PySem.W.keepIn K (.ref f21) = true)
    (a22 : PySem.W.nsIn K mainGlobals "_law_figures" = some (some (.ref f22)))
    (l22 : K.lookup f22 = some ⟨oc22, od22, .func (PySem.W.fnOf "_law_figures" "_law_figures" (defArgs (topS 39)) (defBody (topS 39)) (defScope (topS 39)) .none kV22 dc22 pm22 an22 cd22 ct22), sl22⟩)
    (c22 : PySem.W.codeIn K cd22 "_law_figures" = true)
    (k22 : PySem.W.keepIn K (.ref f22) = true)
    (a23 : PySem.W.nsIn K mainGlobals "_law_number_at" = some (some (.ref f23)))
    (l23 : K.lookup f23 = some ⟨oc23, od23, .func (PySem.W.fnOf "_law_number_at" "_law_number_at" (defArgs (topS 40)) (defBody (topS 40)) (defScope (topS 40)) .none kV23 dc23 pm23 an23 cd23 ct23), sl23⟩)
    (c23 : PySem.W.codeIn K cd23 "_law_number_at" = true)
    (k23 : PySem.W.keepIn K (.ref f23) = true)
    (a24 : PySem.W.nsIn K mainGlobals "_law_is_row" = some (some (.ref f24)))
    (l24 : K.lookup f24 = some ⟨oc24, od24, .func (PySem.W.fnOf "_law_is_row" "_law_is_row" (defArgs (topS 41)) (defBody (topS 41)) (defScope (topS 41)) .none kV24 dc24 pm24 an24 cd24 ct24), sl24⟩)
    (c24 : PySem.W.codeIn K cd24 "_law_is_row" = true)
    (k24 : PySem.W.keepIn K (.ref f24) = true)
    (a25 : PySem.W.nsIn K mainGlobals "_law_bytes" = some (some (.ref f25)))
    (l25 : K.lookup f25 = some ⟨oc25, od25, .func (PySem.W.fnOf "_law_bytes" "_law_bytes" (defArgs (topS 42)) (defBody (topS 42)) (defScope (topS 42)) .none kV25 dc25 pm25 an25 cd25 ct25), sl25⟩)
    (c25 : PySem.W.codeIn K cd25 "_law_bytes" = true)
    (k25 : PySem.W.keepIn K (.ref f25) = true)
    (a26 : PySem.W.nsIn K mainGlobals "_law_parts" = some (some (.ref f26)))
    (l26 : K.lookup f26 = some ⟨oc26, od26, .func (PySem.W.fnOf "_law_parts" "_law_parts" (defArgs (topS 43)) (defBody (topS 43)) (defScope (topS 43)) .none kV26 dc26 pm26 an26 cd26 ct26), sl26⟩)
    (c26 : PySem.W.codeIn K cd26 "_law_parts" = true)
    (k26 : PySem.W.keepIn K (.ref f26) = true)
    (a27 : PySem.W.nsIn K mainGlobals "_law_led" = some (some (.ref f27)))
    (l27 : K.lookup f27 = some ⟨oc27, od27, .func (PySem.W.fnOf "_law_led" "_law_led" (defArgs (topS 44)) (defBody (topS 44)) (defScope (topS 44)) .none kV27 dc27 pm27 an27 cd27 ct27), sl27⟩)
    (c27 : PySem.W.codeIn K cd27 "_law_led" = true)
    (k27 : PySem.W.keepIn K (.ref f27) = true)
    (a28 : PySem.W.nsIn K mainGlobals "_law_near_row" = some (some (.ref f28)))
    (l28 : K.lookup f28 = some ⟨oc28, od28, .func (PySem.W.fnOf "_law_near_row" "_law_near_row" (defArgs (topS 45)) (defBody (topS 45)) (defScope (topS 45)) .none kV28 dc28 pm28 an28 cd28 ct28), sl28⟩)
    (c28 : PySem.W.codeIn K cd28 "_law_near_row" = true)
    (k28 : PySem.W.keepIn K (.ref f28) = true)
    (a29 : PySem.W.nsIn K mainGlobals "_law_told" = some (some (.ref f29)))
    (l29 : K.lookup f29 = some ⟨oc29, od29, .func (PySem.W.fnOf "_law_told" "_law_told" (defArgs (topS 46)) (defBody (topS 46)) (defScope (topS 46)) .none kV29 dc29 pm29 an29 cd29 ct29), sl29⟩)
    (c29 : PySem.W.codeIn K cd29 "_law_told" = true)
    (k29 : PySem.W.keepIn K (.ref f29) = true)
    (a30 : PySem.W.nsIn K mainGlobals "_law_refused" = some (some (.ref f30)))
    (l30 : K.lookup f30 = some ⟨oc30, od30, .func (PySem.W.fnOf "_law_refused" "_law_refused" (defArgs (topS 47)) (defBody (topS 47)) (defScope (topS 47)) .none kV30 dc30 pm30 an30 cd30 ct30), sl30⟩)
    (c30 : PySem.W.codeIn K cd30 "_law_refused" = true)
    (k30 : PySem.W.keepIn K (.ref f30) = true)
    (a31 : PySem.W.nsIn K mainGlobals "law" = some (some (.ref f31)))
    (l31 : K.lookup f31 = some ⟨oc31, od31, .func (PySem.W.fnOf "law" "law" (defArgs (topS 48)) (defBody (topS 48)) (defScope (topS 48)) .none kV31 dc31 pm31 an31 cd31 ct31), sl31⟩)
    (c31 : PySem.W.codeIn K cd31 "law" = true)
    (k31 : PySem.W.keepIn K (.ref f31) = true)
    (z_all : PySem.W.nsIn K mainGlobals "all" = some none)
    (z_bool : PySem.W.nsIn K mainGlobals "bool" = some none)
    (z_int : PySem.W.nsIn K mainGlobals "int" = some none)
    (z_isinstance : PySem.W.nsIn K mainGlobals "isinstance" = some none)
    (z_len : PySem.W.nsIn K mainGlobals "len" = some none)
    (z_list : PySem.W.nsIn K mainGlobals "list" = some none)
    (z_max : PySem.W.nsIn K mainGlobals "max" = some none)
    (z_min : PySem.W.nsIn K mainGlobals "min" = some none)
    (z_range : PySem.W.nsIn K mainGlobals "range" = some none)
    (z_str : PySem.W.nsIn K mainGlobals "str" = some none)
    (z_tuple : PySem.W.nsIn K mainGlobals "tuple" = some none)
    (z_zip : PySem.W.nsIn K mainGlobals "zip" = some none)
    (v_BYTE : PySem.W.nsIn K mainGlobals "BYTE" = some (some (.int 256 t_BYTE)))
    (v_FIGURE : PySem.W.nsIn K mainGlobals "FIGURE" = some (some (.int 128 t_FIGURE)))
    (v_KEPT : PySem.W.nsIn K mainGlobals "KEPT" = some (some (.int 0 t_KEPT)))
    (v_LEAST_KEPT : PySem.W.nsIn K mainGlobals "LEAST_KEPT" = some (some (.int 8 t_LEAST_KEPT)))
    (v_LEFT_OUT : PySem.W.nsIn K mainGlobals "LEFT_OUT" = some (some (.int 1 t_LEFT_OUT)))
    (v_MOST_BYTES : PySem.W.nsIn K mainGlobals "MOST_BYTES" = some (some (.int 300000 t_MOST_BYTES)))
    (v_MOST_FIGURES : PySem.W.nsIn K mainGlobals "MOST_FIGURES" = some (some (.int 10 t_MOST_FIGURES)))
    (v_PUT_IN : PySem.W.nsIn K mainGlobals "PUT_IN" = some (some (.int 2 t_PUT_IN)))
    (v_WHOLE_BOUND : PySem.W.nsIn K mainGlobals "WHOLE_BOUND" = some (some (.int 18446744073709551616 t_WHOLE_BOUND)))
    (g_FloorError : PySem.W.nsIn K mainGlobals "FloorError" = some (some (.ref C0)))
    (e_FloorError : PySem.W.subIn K (.ref C0) (.type "BaseException") = some true)
    (t_FloorError : PySem.W.typeIn K (.ref C0) = some (.type "type"))
    (g_NoRow : PySem.W.nsIn K mainGlobals "NoRow" = some (some (.ref C1)))
    (e_NoRow : PySem.W.subIn K (.ref C1) (.type "BaseException") = some true)
    (t_NoRow : PySem.W.typeIn K (.ref C1) = some (.type "type"))
    (g_BadChange : PySem.W.nsIn K mainGlobals "BadChange" = some (some (.ref C2)))
    (e_BadChange : PySem.W.subIn K (.ref C2) (.type "BaseException") = some true)
    (t_BadChange : PySem.W.typeIn K (.ref C2) = some (.type "type"))
    (L_BadChange : K.lookup C2 = some (excClassObj nm2 q2 C2 N2 bs2 [.ref C0, .type "ValueError", .type "Exception", .type "BaseException", .type "object"] true sn2 sub2 ab2 col2 dd2 m0_2 m1_2 m2_2 m3_2 m5_2 "ValueError.__new__"))
    (sa_BadChange : PySem.W.findIn K (.ref C2) "__setattr__" = some (some (.builtin "object.__setattr__")))
    (ga_BadChange : PySem.W.findIn K (.ref C2) "__getattribute__" = some (some (.builtin "BaseException.__getattribute__")))
    (gg_BadChange : PySem.W.findIn K (.ref C2) "__getattr__" = some none)
    (no_BadChange_place : PySem.W.findIn K (.ref C2) "place" = some none)
    (iC_BadChange : PySem.W.findIn K (.ref C2) "__init__" = some (some (.ref f32)))
    (tI_BadChange : PySem.W.typeIn K (.ref f32) = some (.type "function"))
    (l32 : K.lookup f32 = some ⟨oc32, od32, .func (PySem.W.fnOf "__init__" "BadChange.__init__" (defArgs (clsS (topS 3) 0)) (defBody (clsS (topS 3) 0)) (defScope (clsS (topS 3) 0)) .none kV32 dc32 pm32 an32 cd32 ct32), sl32⟩)
    (c32 : PySem.W.codeIn K cd32 "BadChange.__init__" = true)
    (k32 : PySem.W.keepIn K (.ref f32) = true)
    (kk_BadChange : PySem.W.keepIn K (.ref C2) = true)
    (hd_BadChange : PySem.W.hasDictIn K C2 = true)
    (x_NoRow : PySem.W.excIn K C1 PySem.HandSPX.veTail "ValueError.__new__" = true)
    (kk_NoRow : PySem.W.keepIn K (.ref C1) = true)
    (i_BadChange : PySem.W.isClsIn K C2 = true)
    (s_NoRow_BadChange : PySem.W.subIn K (.ref C1) (.ref C2) = some false)
    (s_BadChange_BadChange : PySem.W.subIn K (.ref C2) (.ref C2) = some true)
    (i_NoRow : PySem.W.isClsIn K C1 = true)
    (s_NoRow_NoRow : PySem.W.subIn K (.ref C1) (.ref C1) = some true)
    (s_BadChange_NoRow : PySem.W.subIn K (.ref C2) (.ref C1) = some false)
    : ∃ fd : FuncData, (∀ (s : Shared) (v : Value), BindsTo s fd ⟨[v], []⟩ [("script", v)]) ∧ ∀ base : Heap, K.In base → base.Ns mainGlobals mg → FnOk l.prog w K mg base (L2.CX l.prog w) 8 fl fd ["script"] (spLaw K 63) := by
  have e := hfl.symm.trans (PySem.W.mg_of X G a31)
  cases e
  have F0 := fun_mk (st := topS 5) l0 c0 k0
  have b0 := F0.binds (ps := ["thing"]) fun _ _ _ _ _ _ us hl => match us, hl with | [_], _ => rfl
  have F1 := fun_mk (st := topS 6) l1 c1 k1
  have b1 := F1.binds (ps := ["thing", "least", "most"]) fun _ _ _ _ _ _ us hl => match us, hl with | [_, _, _], _ => rfl
  have F2 := fun_mk (st := topS 7) l2 c2 k2
  have b2 := F2.binds (ps := ["thing", "many"]) fun _ _ _ _ _ _ us hl => match us, hl with | [_, _], _ => rfl
  have F3 := fun_mk (st := topS 14) l3 c3 k3
  have b3 := F3.binds (ps := ["thing"]) fun _ _ _ _ _ _ us hl => match us, hl with | [_], _ => rfl
  have F4 := fun_mk (st := topS 15) l4 c4 k4
  have b4 := F4.binds (ps := ["thing"]) fun _ _ _ _ _ _ us hl => match us, hl with | [_], _ => rfl
  have F5 := fun_mk (st := topS 16) l5 c5 k5
  have b5 := F5.binds (ps := ["number"]) fun _ _ _ _ _ _ us hl => match us, hl with | [_], _ => rfl
  have F6 := fun_mk (st := topS 17) l6 c6 k6
  have b6 := F6.binds (ps := ["row", "at"]) fun _ _ _ _ _ _ us hl => match us, hl with | [_, _], _ => rfl
  have F7 := fun_mk (st := topS 23) l7 c7 k7
  have b7 := F7.binds (ps := ["change", "at"]) fun _ _ _ _ _ _ us hl => match us, hl with | [_, _], _ => rfl
  have F8 := fun_mk (st := topS 24) l8 c8 k8
  have b8 := F8.binds (ps := ["one", "change"]) fun _ _ _ _ _ _ us hl => match us, hl with | [_, _], _ => rfl
  have F9 := fun_mk (st := topS 25) l9 c9 k9
  have b9 := F9.binds (ps := ["one", "change"]) fun _ _ _ _ _ _ us hl => match us, hl with | [_, _], _ => rfl
  have F10 := fun_mk (st := topS 26) l10 c10 k10
  have b10 := F10.binds (ps := ["one", "other"]) fun _ _ _ _ _ _ us hl => match us, hl with | [_, _], _ => rfl
  have F11 := fun_mk (st := topS 27) l11 c11 k11
  have b11 := F11.binds (ps := ["one", "other", "most"]) fun _ _ _ _ _ _ us hl => match us, hl with | [_, _, _], _ => rfl
  have F12 := fun_mk (st := topS 28) l12 c12 k12
  have b12 := F12.binds (ps := ["kind", "many"]) fun _ _ _ _ _ _ us hl => match us, hl with | [_, _], _ => rfl
  have F13 := fun_mk (st := topS 29) l13 c13 k13
  have b13 := F13.binds (ps := ["one", "other"]) fun _ _ _ _ _ _ us hl => match us, hl with | [_, _], _ => rfl
  have F14 := fun_mk (st := topS 30) l14 c14 k14
  have b14 := F14.binds (ps := ["one", "other"]) fun _ _ _ _ _ _ us hl => match us, hl with | [_, _], _ => rfl
  have F15 := fun_mk (st := topS 31) l15 c15 k15
  have b15 := F15.binds (ps := ["one", "other", "thing"]) fun _ _ _ _ _ _ us hl => match us, hl with | [_, _, _], _ => rfl
  have F16 := fun_mk (st := topS 33) l16 c16 k16
  have b16 := F16.binds (ps := ["script"]) fun _ _ _ _ _ _ us hl => match us, hl with | [_], _ => rfl
  have F17 := fun_mk (st := topS 34) l17 c17 k17
  have b17 := F17.binds (ps := ["hand", "many"]) fun _ _ _ _ _ _ us hl => match us, hl with | [_, _], _ => rfl
  have F18 := fun_mk (st := topS 35) l18 c18 k18
  have b18 := F18.binds (ps := ["hand", "things"]) fun _ _ _ _ _ _ us hl => match us, hl with | [_, _], _ => rfl
  have F19 := fun_mk (st := topS 36) l19 c19 k19
  have b19 := F19.binds (ps := ["thing"]) fun _ _ _ _ _ _ us hl => match us, hl with | [_], _ => rfl
  have F20 := fun_mk (st := topS 37) l20 c20 k20
  have b20 := F20.binds (ps := ["thing", "least", "most"]) fun _ _ _ _ _ _ us hl => match us, hl with | [_, _, _], _ => rfl
  have F21 := fun_mk (st := topS 38) l21 c21 k21
  have b21 := F21.binds (ps := ["actual", "due"]) fun _ _ _ _ _ _ us hl => match us, hl with | [_, _], _ => rfl
  have F22 := fun_mk (st := topS 39) l22 c22 k22
  have b22 := F22.binds (ps := ["number"]) fun _ _ _ _ _ _ us hl => match us, hl with | [_], _ => rfl
  have F23 := fun_mk (st := topS 40) l23 c23 k23
  have b23 := F23.binds (ps := ["row", "at"]) fun _ _ _ _ _ _ us hl => match us, hl with | [_, _], _ => rfl
  have F24 := fun_mk (st := topS 41) l24 c24 k24
  have b24 := F24.binds (ps := ["thing"]) fun _ _ _ _ _ _ us hl => match us, hl with | [_], _ => rfl
  have F25 := fun_mk (st := topS 42) l25 c25 k25
  have b25 := F25.binds (ps := ["hand", "most"]) fun _ _ _ _ _ _ us hl => match us, hl with | [_, _], _ => rfl
  have F26 := fun_mk (st := topS 43) l26 c26 k26
  have b26 := F26.binds (ps := ["hand", "one"]) fun _ _ _ _ _ _ us hl => match us, hl with | [_, _], _ => rfl
  have F27 := fun_mk (st := topS 44) l27 c27 k27
  have b27 := F27.binds (ps := ["one", "change_row"]) fun _ _ _ _ _ _ us hl => match us, hl with | [_, _], _ => rfl
  have F28 := fun_mk (st := topS 45) l28 c28 k28
  have b28 := F28.binds (ps := ["hand", "one"]) fun _ _ _ _ _ _ us hl => match us, hl with | [_, _], _ => rfl
  have F29 := fun_mk (st := topS 46) l29 c29 k29
  have b29 := F29.binds (ps := ["one", "thing"]) fun _ _ _ _ _ _ us hl => match us, hl with | [_, _], _ => rfl
  have F30 := fun_mk (st := topS 47) l30 c30 k30
  have b30 := F30.binds (ps := ["one", "other"]) fun _ _ _ _ _ _ us hl => match us, hl with | [_, _], _ => rfl
  have F31 := fun_mk (st := topS 48) l31 c31 k31
  have b31 := F31.binds (ps := ["script"]) fun _ _ _ _ _ _ us hl => match us, hl with | [_], _ => rfl
  have F32 := fun_mk (st := clsS (topS 3) 0) l32 c32 k32
  have b32 := F32.binds (ps := ["self", "place"]) fun _ _ _ _ _ _ us hl => match us, hl with | [_, _], _ => rfl
  have T : Txt K mg (fun i => [f0, f1, f2, f3, f4, f5, f6, f7, f8, f9, f10, f11, f12, f13, f14, f15, f16, f17, f18, f19, f20, f21, f22, f23, f24, f25, f26, f27, f28, f29, f30, fl, f32].getD i f0) (fun i => [PySem.W.fnOf "is_integer" "is_integer" (defArgs (topS 5)) (defBody (topS 5)) (defScope (topS 5)) .none kV0 dc0 pm0 an0 cd0 ct0, PySem.W.fnOf "is_within" "is_within" (defArgs (topS 6)) (defBody (topS 6)) (defScope (topS 6)) .none kV1 dc1 pm1 an1 cd1 ct1, PySem.W.fnOf "is_below" "is_below" (defArgs (topS 7)) (defBody (topS 7)) (defScope (topS 7)) .none kV2 dc2 pm2 an2 cd2 ct2, PySem.W.fnOf "is_row" "is_row" (defArgs (topS 14)) (defBody (topS 14)) (defScope (topS 14)) .none kV3 dc3 pm3 an3 cd3 ct3, PySem.W.fnOf "check_row" "check_row" (defArgs (topS 15)) (defBody (topS 15)) (defScope (topS 15)) .none kV4 dc4 pm4 an4 cd4 ct4, PySem.W.fnOf "figures_of" "figures_of" (defArgs (topS 16)) (defBody (topS 16)) (defScope (topS 16)) .none kV5 dc5 pm5 an5 cd5 ct5, PySem.W.fnOf "number_at" "number_at" (defArgs (topS 17)) (defBody (topS 17)) (defScope (topS 17)) .none kV6 dc6 pm6 an6 cd6 ct6, PySem.W.fnOf "part_at" "part_at" (defArgs (topS 23)) (defBody (topS 23)) (defScope (topS 23)) .none kV7 dc7 pm7 an7 cd7 ct7, PySem.W.fnOf "changed_or_wrong" "changed_or_wrong" (defArgs (topS 24)) (defBody (topS 24)) (defScope (topS 24)) .none kV8 dc8 pm8 an8 cd8 ct8, PySem.W.fnOf "changed" "changed" (defArgs (topS 25)) (defBody (topS 25)) (defScope (topS 25)) .none kV9 dc9 pm9 an9 cd9 ct9, PySem.W.fnOf "common_begin" "common_begin" (defArgs (topS 26)) (defBody (topS 26)) (defScope (topS 26)) .none kV10 dc10 pm10 an10 cd10 ct10, PySem.W.fnOf "common_end" "common_end" (defArgs (topS 27)) (defBody (topS 27)) (defScope (topS 27)) .none kV11 dc11 pm11 an11 cd11 ct11, PySem.W.fnOf "part_row" "part_row" (defArgs (topS 28)) (defBody (topS 28)) (defScope (topS 28)) .none kV12 dc12 pm12 an12 cd12 ct12, PySem.W.fnOf "change_of" "change_of" (defArgs (topS 29)) (defBody (topS 29)) (defScope (topS 29)) .none kV13 dc13 pm13 an13 cd13 ct13, PySem.W.fnOf "change" "change" (defArgs (topS 30)) (defBody (topS 30)) (defScope (topS 30)) .none kV14 dc14 pm14 an14 cd14 ct14, PySem.W.fnOf "is_change" "is_change" (defArgs (topS 31)) (defBody (topS 31)) (defScope (topS 31)) .none kV15 dc15 pm15 an15 cd15 ct15, PySem.W.fnOf "_law_hand" "_law_hand" (defArgs (topS 33)) (defBody (topS 33)) (defScope (topS 33)) .none kV16 dc16 pm16 an16 cd16 ct16, PySem.W.fnOf "_law_take" "_law_take" (defArgs (topS 34)) (defBody (topS 34)) (defScope (topS 34)) .none kV17 dc17 pm17 an17 cd17 ct17, PySem.W.fnOf "_law_pick" "_law_pick" (defArgs (topS 35)) (defBody (topS 35)) (defScope (topS 35)) .none kV18 dc18 pm18 an18 cd18 ct18, PySem.W.fnOf "_law_is_integer" "_law_is_integer" (defArgs (topS 36)) (defBody (topS 36)) (defScope (topS 36)) .none kV19 dc19 pm19 an19 cd19 ct19, PySem.W.fnOf "_law_is_within" "_law_is_within" (defArgs (topS 37)) (defBody (topS 37)) (defScope (topS 37)) .none kV20 dc20 pm20 an20 cd20 ct20, PySem.W.fnOf "_law_same" "_law_same" (defArgs (topS 38)) (defBody (topS 38)) (defScope (topS 38)) .none kV21 dc21 pm21 an21 cd21 ct21, PySem.W.fnOf "_law_figures" "_law_figures" (defArgs (topS 39)) (defBody (topS 39)) (defScope (topS 39)) .none kV22 dc22 pm22 an22 cd22 ct22, PySem.W.fnOf "_law_number_at" "_law_number_at" (defArgs (topS 40)) (defBody (topS 40)) (defScope (topS 40)) .none kV23 dc23 pm23 an23 cd23 ct23, PySem.W.fnOf "_law_is_row" "_law_is_row" (defArgs (topS 41)) (defBody (topS 41)) (defScope (topS 41)) .none kV24 dc24 pm24 an24 cd24 ct24, PySem.W.fnOf "_law_bytes" "_law_bytes" (defArgs (topS 42)) (defBody (topS 42)) (defScope (topS 42)) .none kV25 dc25 pm25 an25 cd25 ct25, PySem.W.fnOf "_law_parts" "_law_parts" (defArgs (topS 43)) (defBody (topS 43)) (defScope (topS 43)) .none kV26 dc26 pm26 an26 cd26 ct26, PySem.W.fnOf "_law_led" "_law_led" (defArgs (topS 44)) (defBody (topS 44)) (defScope (topS 44)) .none kV27 dc27 pm27 an27 cd27 ct27, PySem.W.fnOf "_law_near_row" "_law_near_row" (defArgs (topS 45)) (defBody (topS 45)) (defScope (topS 45)) .none kV28 dc28 pm28 an28 cd28 ct28, PySem.W.fnOf "_law_told" "_law_told" (defArgs (topS 46)) (defBody (topS 46)) (defScope (topS 46)) .none kV29 dc29 pm29 an29 cd29 ct29, PySem.W.fnOf "_law_refused" "_law_refused" (defArgs (topS 47)) (defBody (topS 47)) (defScope (topS 47)) .none kV30 dc30 pm30 an30 cd30 ct30, PySem.W.fnOf "law" "law" (defArgs (topS 48)) (defBody (topS 48)) (defScope (topS 48)) .none kV31 dc31 pm31 an31 cd31 ct31, PySem.W.fnOf "__init__" "BadChange.__init__" (defArgs (clsS (topS 3) 0)) (defBody (clsS (topS 3) 0)) (defScope (clsS (topS 3) 0)) .none kV32 dc32 pm32 an32 cd32 ct32].getD i (PySem.W.fnOf "is_integer" "is_integer" (defArgs (topS 5)) (defBody (topS 5)) (defScope (topS 5)) .none kV0 dc0 pm0 an0 cd0 ct0)) (fun i => [C0, C1, C2].getD i f0) := {
    F_is_integer := F0
    B_is_integer := b0
    G_is_integer := PySem.W.mg_of X G a0
    F_is_within := F1
    B_is_within := b1
    G_is_within := PySem.W.mg_of X G a1
    F_is_below := F2
    B_is_below := b2
    G_is_below := PySem.W.mg_of X G a2
    F_is_row := F3
    B_is_row := b3
    G_is_row := PySem.W.mg_of X G a3
    F_check_row := F4
    B_check_row := b4
    G_check_row := PySem.W.mg_of X G a4
    F_figures_of := F5
    B_figures_of := b5
    G_figures_of := PySem.W.mg_of X G a5
    F_number_at := F6
    B_number_at := b6
    G_number_at := PySem.W.mg_of X G a6
    F_part_at := F7
    B_part_at := b7
    G_part_at := PySem.W.mg_of X G a7
    F_changed_or_wrong := F8
    B_changed_or_wrong := b8
    G_changed_or_wrong := PySem.W.mg_of X G a8
    F_changed := F9
    B_changed := b9
    G_changed := PySem.W.mg_of X G a9
    F_common_begin := F10
    B_common_begin := b10
    G_common_begin := PySem.W.mg_of X G a10
    F_common_end := F11
    B_common_end := b11
    G_common_end := PySem.W.mg_of X G a11
    F_part_row := F12
    B_part_row := b12
    G_part_row := PySem.W.mg_of X G a12
    F_change_of := F13
    B_change_of := b13
    G_change_of := PySem.W.mg_of X G a13
    F_change := F14
    B_change := b14
    G_change := PySem.W.mg_of X G a14
    F_is_change := F15
    B_is_change := b15
    G_is_change := PySem.W.mg_of X G a15
    F__law_hand := F16
    B__law_hand := b16
    G__law_hand := PySem.W.mg_of X G a16
    F__law_take := F17
    B__law_take := b17
    G__law_take := PySem.W.mg_of X G a17
    F__law_pick := F18
    B__law_pick := b18
    G__law_pick := PySem.W.mg_of X G a18
    F__law_is_integer := F19
    B__law_is_integer := b19
    G__law_is_integer := PySem.W.mg_of X G a19
    F__law_is_within := F20
    B__law_is_within := b20
    G__law_is_within := PySem.W.mg_of X G a20
    F__law_same := F21
    B__law_same := b21
    G__law_same := PySem.W.mg_of X G a21
    F__law_figures := F22
    B__law_figures := b22
    G__law_figures := PySem.W.mg_of X G a22
    F__law_number_at := F23
    B__law_number_at := b23
    G__law_number_at := PySem.W.mg_of X G a23
    F__law_is_row := F24
    B__law_is_row := b24
    G__law_is_row := PySem.W.mg_of X G a24
    F__law_bytes := F25
    B__law_bytes := b25
    G__law_bytes := PySem.W.mg_of X G a25
    F__law_parts := F26
    B__law_parts := b26
    G__law_parts := PySem.W.mg_of X G a26
    F__law_led := F27
    B__law_led := b27
    G__law_led := PySem.W.mg_of X G a27
    F__law_near_row := F28
    B__law_near_row := b28
    G__law_near_row := PySem.W.mg_of X G a28
    F__law_told := F29
    B__law_told := b29
    G__law_told := PySem.W.mg_of X G a29
    F__law_refused := F30
    B__law_refused := b30
    G__law_refused := PySem.W.mg_of X G a30
    F_law := F31
    B_law := b31
    G_law := PySem.W.mg_of X G a31
    z_all := PySem.W.mg_none_of X G z_all
    z_bool := PySem.W.mg_none_of X G z_bool
    z_int := PySem.W.mg_none_of X G z_int
    z_isinstance := PySem.W.mg_none_of X G z_isinstance
    z_len := PySem.W.mg_none_of X G z_len
    z_list := PySem.W.mg_none_of X G z_list
    z_max := PySem.W.mg_none_of X G z_max
    z_min := PySem.W.mg_none_of X G z_min
    z_range := PySem.W.mg_none_of X G z_range
    z_str := PySem.W.mg_none_of X G z_str
    z_tuple := PySem.W.mg_none_of X G z_tuple
    z_zip := PySem.W.mg_none_of X G z_zip
    c_BYTE := ⟨_, PySem.W.mg_of X G v_BYTE⟩
    c_FIGURE := ⟨_, PySem.W.mg_of X G v_FIGURE⟩
    c_KEPT := ⟨_, PySem.W.mg_of X G v_KEPT⟩
    c_LEAST_KEPT := ⟨_, PySem.W.mg_of X G v_LEAST_KEPT⟩
    c_LEFT_OUT := ⟨_, PySem.W.mg_of X G v_LEFT_OUT⟩
    c_MOST_BYTES := ⟨_, PySem.W.mg_of X G v_MOST_BYTES⟩
    c_MOST_FIGURES := ⟨_, PySem.W.mg_of X G v_MOST_FIGURES⟩
    c_PUT_IN := ⟨_, PySem.W.mg_of X G v_PUT_IN⟩
    c_WHOLE_BOUND := ⟨_, PySem.W.mg_of X G v_WHOLE_BOUND⟩
    g_NoRow := PySem.W.mg_of X G g_NoRow
    x_NoRow := x_NoRow
    k_NoRow := kk_NoRow
    e_NoRow := e_NoRow
    t_NoRow := t_NoRow
    g_BadChange := PySem.W.mg_of X G g_BadChange
    FI_BadChange := F32
    BI_BadChange := b32
    ec_BadChange := { T := { cls := ⟨nm2, q2, N2, bs2, _, sn2, sub2, ab2, col2, dd2, m0_2, m1_2, m2_2, m3_2, m5_2, L_BadChange, by first | rfl | decide +kernel⟩, sa := sa_BadChange, exC := e_BadChange, tyC := t_BadChange, kC := kk_BadChange }, X := ⟨ga_BadChange, gg_BadChange, e_BadChange, hd_BadChange⟩, iC := iC_BadChange, tI := tI_BadChange, no := List.forall_mem_cons.2 ⟨no_BadChange_place, List.forall_mem_nil _⟩ }
    s_BadChange := ⟨fun n b hn => by
      unfold tst_BadChange at hn
      split at hn
      · rename_i q; subst q; cases hn; exact exm_pair e_BadChange i_BadChange t_BadChange s_NoRow_BadChange
      split at hn
      · rename_i q; subst q; cases hn; exact exm_pair e_BadChange i_BadChange t_BadChange s_BadChange_BadChange
      cases hn
      ⟩
    s_NoRow := ⟨fun n b hn => by
      unfold tst_NoRow at hn
      split at hn
      · rename_i q; subst q; cases hn; exact exm_pair e_NoRow i_NoRow t_NoRow s_NoRow_NoRow
      split at hn
      · rename_i q; subst q; cases hn; exact exm_pair e_NoRow i_NoRow t_NoRow s_BadChange_NoRow
      cases hn
      ⟩
  }
  refine ⟨PySem.W.fnOf "law" "law" (defArgs (topS 48)) (defBody (topS 48)) (defScope (topS 48)) .none kV31 dc31 pm31 an31 cd31 ct31, fun s v => .of_eq rfl, fun base _ _ => FnOk.imp (ok_law (P := l.prog) (w := w) (base := base) T) (law_imp law_true)⟩
end K26
open PySem PySem.W PyProof.Rows
set_option maxHeartbeats 0 in
theorem PySem.Challenge.cw_everybrought_k26_whole_changes_of_rows_holds : PySem.Challenge.rw_everybrought_k26_whole_changes_of_rows.Holds := by
  w_on; o_law; k_head; (case hw => w_witness2)
  k_fill
  refine L2.walk_of (l := PySem.Challenge.rw_everybrought_k26_whole_changes_of_rows) (n := 63) (k := 8) (x := "script") (CX := fun w => L2.CX PySem.Challenge.rw_everybrought_k26_whole_changes_of_rows.prog w) (sp := fun w => BV.spLaw _ 63) rfl (by decide) rfl ⟨rfl, by decide, by decide⟩ (fun w h Y => PySem.W.kIn_of Y) ?F (fun _ _ a ns hl _ hS => ⟨a, ns, rfl, hS, hl, fun _ => rfl⟩) (fun _ _ _ _ _ h => BV.cx_no h)
  case F =>
    intro w mg fa h KX G hmg
    refine' K26.all_mk KX G hmg ?a0 ?l0 ?c0 ?k0 ?a1 ?l1 ?c1 ?k1 ?a2 ?l2 ?c2 ?k2 ?a3 ?l3 ?c3 ?k3 ?a4 ?l4 ?c4 ?k4 ?a5 ?l5 ?c5 ?k5 ?a6 ?l6 ?c6 ?k6 ?a7 ?l7 ?c7 ?k7 ?a8 ?l8 ?c8 ?k8 ?a9 ?l9 ?c9 ?k9 ?a10 ?l10 ?c10 ?k10 ?a11 ?l11 ?c11 ?k11 ?a12 ?l12 ?c12 ?k12 ?a13 ?l13 ?c13 ?k13 ?a14 ?l14 ?c14 ?k14 ?a15 ?l15 ?c15 ?k15 ?a16 ?l16 ?c16 ?k16 ?a17 ?l17 ?c17 ?k17 ?a18 ?l18 ?c18 ?k18 ?a19 ?l19 ?c19 ?k19 ?a20 ?l20 ?c20 ?k20 ?a21 ?l21 ?c21 ?k21 ?a22 ?l22 ?c22 ?k22 ?a23 ?l23 ?c23 ?k23 ?a24 ?l24 ?c24 ?k24 ?a25 ?l25 ?c25 ?k25 ?a26 ?l26 ?c26 ?k26 ?a27 ?l27 ?c27 ?k27 ?a28 ?l28 ?c28 ?k28 ?a29 ?l29 ?c29 ?k29 ?a30 ?l30 ?c30 ?k30 ?a31 ?l31 ?c31 ?k31 ?z_all ?z_bool ?z_int ?z_isinstance ?z_len ?z_list ?z_max ?z_min ?z_range ?z_str ?z_tuple ?z_zip ?v_BYTE ?v_FIGURE ?v_KEPT ?v_LEAST_KEPT ?v_LEFT_OUT ?v_MOST_BYTES ?v_MOST_FIGURES ?v_PUT_IN ?v_WHOLE_BOUND ?g_FloorError ?e_FloorError ?t_FloorError ?g_NoRow ?e_NoRow ?t_NoRow ?g_BadChange ?e_BadChange ?t_BadChange ?L_BadChange ?sa_BadChange ?ga_BadChange ?gg_BadChange ?no_BadChange_place ?iC_BadChange ?tI_BadChange ?l32 ?c32 ?k32 ?kk_BadChange ?hd_BadChange ?x_NoRow ?kk_NoRow ?i_BadChange ?s_NoRow_BadChange ?s_BadChange_BadChange ?i_NoRow ?s_NoRow_NoRow ?s_BadChange_NoRow
    (case a0 => k_is); (case l0 => k_is); (case c0 => k_is); (case k0 => k_is); (case a1 => k_is); (case l1 => k_is); (case c1 => k_is); (case k1 => k_is); (case a2 => k_is); (case l2 => k_is); (case c2 => k_is); (case k2 => k_is); (case a3 => k_is); (case l3 => k_is); (case c3 => k_is); (case k3 => k_is); (case a4 => k_is); (case l4 => k_is); (case c4 => k_is); (case k4 => k_is); (case a5 => k_is); (case l5 => k_is); (case c5 => k_is); (case k5 => k_is); (case a6 => k_is); (case l6 => k_is); (case c6 => k_is); (case k6 => k_is); (case a7 => k_is); (case l7 => k_is); (case c7 => k_is); (case k7 => k_is); (case a8 => k_is); (case l8 => k_is); (case c8 => k_is); (case k8 => k_is); (case a9 => k_is); (case l9 => k_is); (case c9 => k_is); (case k9 => k_is); (case a10 => k_is); (case l10 => k_is); (case c10 => k_is); (case k10 => k_is); (case a11 => k_is); (case l11 => k_is); (case c11 => k_is); (case k11 => k_is); (case a12 => k_is); (case l12 => k_is); (case c12 => k_is); (case k12 => k_is); (case a13 => k_is); (case l13 => k_is); (case c13 => k_is); (case k13 => k_is); (case a14 => k_is); (case l14 => k_is); (case c14 => k_is); (case k14 => k_is); (case a15 => k_is); (case l15 => k_is); (case c15 => k_is); (case k15 => k_is); (case a16 => k_is); (case l16 => k_is); (case c16 => k_is); (case k16 => k_is); (case a17 => k_is); (case l17 => k_is); (case c17 => k_is); (case k17 => k_is); (case a18 => k_is); (case l18 => k_is); (case c18 => k_is); (case k18 => k_is); (case a19 => k_is); (case l19 => k_is); (case c19 => k_is); (case k19 => k_is); (case a20 => k_is); (case l20 => k_is); (case c20 => k_is); (case k20 => k_is); (case a21 => k_is); (case l21 => k_is); (case c21 => k_is); (case k21 => k_is); (case a22 => k_is); (case l22 => k_is); (case c22 => k_is); (case k22 => k_is); (case a23 => k_is); (case l23 => k_is); (case c23 => k_is); (case k23 => k_is); (case a24 => k_is); (case l24 => k_is); (case c24 => k_is); (case k24 => k_is); (case a25 => k_is); (case l25 => k_is); (case c25 => k_is); (case k25 => k_is); (case a26 => k_is); (case l26 => k_is); (case c26 => k_is); (case k26 => k_is); (case a27 => k_is); (case l27 => k_is); (case c27 => k_is); (case k27 => k_is); (case a28 => k_is); (case l28 => k_is); (case c28 => k_is); (case k28 => k_is); (case a29 => k_is); (case l29 => k_is); (case c29 => k_is); (case k29 => k_is); (case a30 => k_is); (case l30 => k_is); (case c30 => k_is); (case k30 => k_is); (case a31 => k_is); (case l31 => k_is); (case c31 => k_is); (case k31 => k_is); (case z_all => k_is); (case z_bool => k_is); (case z_int => k_is); (case z_isinstance => k_is); (case z_len => k_is); (case z_list => k_is); (case z_max => k_is); (case z_min => k_is); (case z_range => k_is); (case z_str => k_is); (case z_tuple => k_is); (case z_zip => k_is); (case v_BYTE => k_is); (case v_FIGURE => k_is); (case v_KEPT => k_is); (case v_LEAST_KEPT => k_is); (case v_LEFT_OUT => k_is); (case v_MOST_BYTES => k_is); (case v_MOST_FIGURES => k_is); (case v_PUT_IN => k_is); (case v_WHOLE_BOUND => k_is); (case g_FloorError => k_is); (case e_FloorError => k_is); (case t_FloorError => k_is); (case g_NoRow => k_is); (case e_NoRow => k_is); (case t_NoRow => k_is); (case g_BadChange => k_is); (case e_BadChange => k_is); (case t_BadChange => k_is); (case L_BadChange => k_is); (case sa_BadChange => k_is); (case ga_BadChange => k_is); (case gg_BadChange => k_is); (case no_BadChange_place => k_is); (case iC_BadChange => k_is); (case tI_BadChange => k_is); (case l32 => k_is); (case c32 => k_is); (case k32 => k_is); (case kk_BadChange => k_is); (case hd_BadChange => k_is); (case x_NoRow => first | k_exc | k_is); (case kk_NoRow => k_is); (case i_BadChange => k_is); (case s_NoRow_BadChange => k_is); (case s_BadChange_BadChange => k_is); (case i_NoRow => k_is); (case s_NoRow_NoRow => k_is); (case s_BadChange_NoRow => k_is)
