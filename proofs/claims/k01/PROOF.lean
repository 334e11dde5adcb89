import PyProof.Rows.All
import Wide.All
import OpenK.AllK
import Wide.FinOn
import HandS.ForMost
import HandS.Exc
import HandS.ExcOwn
import HandS.WordsExc
import HandS.TryMany
import HandS.IsInst
import HandS.TupMul
import HandS.TupAny
import HandS.Style
import HandS.Walk
import HandS.Zip
import HandS.ReplaceDef
import HandS.Dict
import HandS.ExcInit
import HandS.ExcField
import KE.GoesEnum
import HandS.Text
import HandS.DictComp
import HandS.ReplaceLit
import HandS.Comp
import KE.KIsAll
import HandS.OwnEq
import HandS.Ends
import HandS.Codes
import HandS.JoinGen
import PySem.Challenge.RW_everybrought_k01_floors_judged
set_option Elab.async false
set_option linter.all false
set_option maxRecDepth 100000
set_option maxHeartbeats 2000000
/-! BV: values of a program as plain data; what stands in the heap for them; steps of the heap. -/
namespace BV
open PySem PySem.Spec PyProof.Rows L2

/-- a value as plain data -/
inductive W where
  | non | bl (b : Bool) | int (i : Int) | str (x : Str) | tup (ws : List W) | lst (ws : List W) | fz (ws : List W) | dct (kvs : List (W × W)) | ins (c : Nat) (fs : List (Str × W)) | exc (a : Addr) (d : Option Addr) (fs : List (Str × W))
/-- a slot: no value | data that never changes | an object that is the slot's own -/
inductive Sl where
  | no | dat (w : W) | own (w : W)
abbrev Ev := List Sl
/-- an exception: its class, its fields -/
structure Exc where
  c : Nat
  fs : List (Str × W)

def kW : Key → W
  | .inl i => .int i
  | .inr x => .str x

section
variable (K : PySem.W.Frag) (ci : Nat → Addr) (G : Hp)
mutual
/-- v is w, by what stands for ever in G -/
inductive RepV : V → W → Prop
  | non : RepV .non .non
  | bl (b : Bool) : RepV (.bl b) (.bl b)
  | int (i : Int) : RepV (.int i) (.int i)
  | str (x : Str) : RepV (.str x) (.str x)
  | tup {a : Addr} {vs : List V} {ws : List W} (h : G a = some (.tup vs)) (r : RepVs vs ws) : RepV (.ref a) (.tup ws)
  | lst {a : Addr} {vs : List V} {ws : List W} (h : G a = some (.lst vs)) (r : RepVs vs ws) : RepV (.ref a) (.lst ws)
  /-- a list that is read only -/
  | fz {a : Addr} {vs : List V} {ws : List W} (h : SqL K G a vs) (r : RepVs vs ws) : RepV (.ref a) (.fz ws)
  | dK {a : Addr} {kvs : List (Key × V)} {ws : List (W × W)} (h : G a = some (.dK kvs)) (r : RepKs kvs ws) : RepV (.ref a) (.dct ws)
  | dT {a : Addr} {kvs : List (List Key × V)} {ws : List (W × W)} (h : G a = some (.dT kvs)) (r : RepTs kvs ws) : RepV (.ref a) (.dct ws)
  | ins {a dx : Addr} {c : Nat} {fs : List (Str × V)} {ws : List (Str × W)} (h : G a = some (.ins (ci c) dx fs)) (r : RepFs fs ws) : RepV (.ref a) (.ins c ws)
  /-- an exception that an except clause holds, at a; its fields in d -/
  | exc {a : Addr} {d : Option Addr} {fs : List (Str × V)} {ws : List (Str × W)} (h : ∀ dd, d = some dd → G dd = some (.xd fs)) (r : RepFs fs ws) : RepV (.ref a) (.exc a d ws)
inductive RepVs : List V → List W → Prop
  | nil : RepVs [] []
  | cons {v : V} {w : W} {vs : List V} {ws : List W} (h : RepV v w) (r : RepVs vs ws) : RepVs (v :: vs) (w :: ws)
inductive RepKs : List (Key × V) → List (W × W) → Prop
  | nil : RepKs [] []
  | cons {k : Key} {v : V} {w : W} {vs : List (Key × V)} {ws : List (W × W)} (h : RepV v w) (r : RepKs vs ws) : RepKs ((k, v) :: vs) ((kW k, w) :: ws)
inductive RepTs : List (List Key × V) → List (W × W) → Prop
  | nil : RepTs [] []
  | cons {k : List Key} {v : V} {w : W} {vs : List (List Key × V)} {ws : List (W × W)} (h : RepV v w) (r : RepTs vs ws) : RepTs ((k, v) :: vs) ((.tup (k.map kW), w) :: ws)
inductive RepFs : List (Str × V) → List (Str × W) → Prop
  | nil : RepFs [] []
  | cons {f : Str} {v : V} {w : W} {vs : List (Str × V)} {ws : List (Str × W)} (h : RepV v w) (r : RepFs vs ws) : RepFs ((f, v) :: vs) ((f, w) :: ws)
end
/-- the object at a, as it is in H, is w; its parts by G -/
inductive RepO (H : Hp) (a : Addr) : W → Prop
  | lst {vs : List V} {ws : List W} (h : H a = some (.lst vs)) (r : RepVs K ci G vs ws) : RepO H a (.lst ws)
  | dK {kvs : List (Key × V)} {ws : List (W × W)} (h : H a = some (.dK kvs)) (r : RepKs K ci G kvs ws) : RepO H a (.dct ws)
  | dT {kvs : List (List Key × V)} {ws : List (W × W)} (h : H a = some (.dT kvs)) (r : RepTs K ci G kvs ws) : RepO H a (.dct ws)
  | ins {dx : Addr} {c : Nat} {fs : List (Str × V)} {ws : List (Str × W)} (h : H a = some (.ins (ci c) dx fs)) (r : RepFs K ci G fs ws) : RepO H a (.ins c ws)
end

section
variable {K : PySem.W.Frag} {ci : Nat → Addr} {G G' H H' : Hp}
theorem sqT_mono (e : Same G G') {a : Addr} {xs : List V} (h : SqT K G a xs) : SqT K G' a xs := by
  rcases h with (h | ⟨o, h⟩) | h
  · exact .inl (.inl (e _ _ h))
  · exact .inl (.inr ⟨o, e _ _ h⟩)
  · exact .inr h
theorem rd_mono (e : Same G G') {a : Addr} {u : HO} (h : Rd G a u) : Rd G' a u := by
  rcases h with h | ⟨o, h⟩
  · exact .inl (e _ _ h)
  · exact .inr ⟨o, e _ _ h⟩
mutual
theorem RepV.mono (e : Same G G') : ∀ {v : V} {w : W}, RepV K ci G v w → RepV K ci G' v w
  | _, _, .non => .non
  | _, _, .bl b => .bl b
  | _, _, .int i => .int i
  | _, _, .str x => .str x
  | _, _, .tup h r => .tup (e _ _ h) (RepVs.mono e r)
  | _, _, .lst h r => .lst (e _ _ h) (RepVs.mono e r)
  | _, _, .fz h r => .fz (e.seq h) (RepVs.mono e r)
  | _, _, .dK h r => .dK (e _ _ h) (RepKs.mono e r)
  | _, _, .dT h r => .dT (e _ _ h) (RepTs.mono e r)
  | _, _, .ins h r => .ins (e _ _ h) (RepFs.mono e r)
  | _, _, .exc h r => .exc (fun dd q => e _ _ (h dd q)) (RepFs.mono e r)
theorem RepVs.mono (e : Same G G') : ∀ {v : List V} {w : List W}, RepVs K ci G v w → RepVs K ci G' v w
  | _, _, .nil => .nil
  | _, _, .cons h r => .cons (RepV.mono e h) (RepVs.mono e r)
theorem RepKs.mono (e : Same G G') : ∀ {v : List (Key × V)} {w : List (W × W)}, RepKs K ci G v w → RepKs K ci G' v w
  | _, _, .nil => .nil
  | _, _, .cons h r => .cons (RepV.mono e h) (RepKs.mono e r)
theorem RepTs.mono (e : Same G G') : ∀ {v : List (List Key × V)} {w : List (W × W)}, RepTs K ci G v w → RepTs K ci G' v w
  | _, _, .nil => .nil
  | _, _, .cons h r => .cons (RepV.mono e h) (RepTs.mono e r)
theorem RepFs.mono (e : Same G G') : ∀ {v : List (Str × V)} {w : List (Str × W)}, RepFs K ci G v w → RepFs K ci G' v w
  | _, _, .nil => .nil
  | _, _, .cons h r => .cons (RepV.mono e h) (RepFs.mono e r)
end
theorem RepO.mono {a : Addr} {w : W} (e : Same G G') (h : RepO K ci G H a w) (k : ∀ o, H a = some o → H' a = some o) : RepO K ci G' H' a w := by
  cases h with
  | lst h r => exact .lst (k _ h) (r.mono e)
  | dK h r => exact .dK (k _ h) (r.mono e)
  | dT h r => exact .dT (k _ h) (r.mono e)
  | ins h r => exact .ins (k _ h) (r.mono e)
theorem RepO.has {a : Addr} {w : W} (h : RepO K ci G H a w) : ∃ o, H a = some o := by
  cases h with
  | lst h r => exact ⟨_, h⟩
  | dK h r => exact ⟨_, h⟩
  | dT h r => exact ⟨_, h⟩
  | ins h r => exact ⟨_, h⟩
theorem RepO.ne {a : Addr} {w : W} (h : RepO K ci G H a w) : H a ≠ none := by
  obtain ⟨o, e⟩ := h.has
  rw [e]
  exact fun z => nomatch z
theorem same_new {p : Addr} {o : HO} (h : G p = none) : Same G (upd G p o) := fun b u e => by
  rw [upd_ne (ne_of_none e h)]
  exact e
/-- what is frozen stands in G from then on -/
theorem RepO.freeze {a : Addr} {w : W} (h : RepO K ci G H a w) (n : G a = none) (s : Same G H) : ∃ o, H a = some o ∧ Same G (upd G a o) ∧ Same (upd G a o) H ∧ RepV K ci (upd G a o) (.ref a) w := by
  obtain ⟨o, e⟩ := h.has
  have s1 : Same G (upd G a o) := same_new n
  refine ⟨o, e, s1, fun b u q => ?_, ?_⟩
  · by_cases hb : b = a
    · subst hb
      rw [upd_same] at q
      cases q
      exact e
    · rw [upd_ne hb] at q
      exact s b u q
  · cases h with
    | lst h r =>
      rw [e] at h; cases h
      exact .lst upd_same (r.mono s1)
    | dK h r =>
      rw [e] at h; cases h
      exact .dK upd_same (r.mono s1)
    | dT h r =>
      rw [e] at h; cases h
      exact .dT upd_same (r.mono s1)
    | ins h r =>
      rw [e] at h; cases h
      exact .ins upd_same (r.mono s1)
theorem RepVs.length : ∀ {v : List V} {w : List W}, RepVs K ci G v w → v.length = w.length
  | _, _, .nil => rfl
  | _, _, .cons _ r => congrArg (· + 1) (RepVs.length r)
theorem RepVs.get : ∀ {v : List V} {w : List W} {i : Nat} {x : V}, RepVs K ci G v w → v[i]? = some x → ∃ y, w[i]? = some y ∧ RepV K ci G x y
  | _, _, _, _, .nil, e => by simp at e
  | _, _, 0, _, .cons h _, e => by simp at e; subst e; exact ⟨_, rfl, h⟩
  | _, _, i + 1, _, .cons _ r, e => by
    obtain ⟨y, h1, h2⟩ := RepVs.get (i := i) r (by simpa using e)
    exact ⟨y, by simpa using h1, h2⟩
theorem RepVs.get' : ∀ {v : List V} {w : List W} {i : Nat} {y : W}, RepVs K ci G v w → w[i]? = some y → ∃ x, v[i]? = some x ∧ RepV K ci G x y
  | _, _, _, _, .nil, e => by simp at e
  | _, _, 0, _, .cons h _, e => by simp at e; subst e; exact ⟨_, rfl, h⟩
  | _, _, i + 1, _, .cons _ r, e => by
    obtain ⟨y, h1, h2⟩ := RepVs.get' (i := i) r (by simpa using e)
    exact ⟨y, by simpa using h1, h2⟩
theorem RepVs.append : ∀ {v v' : List V} {w w' : List W}, RepVs K ci G v w → RepVs K ci G v' w' → RepVs K ci G (v ++ v') (w ++ w')
  | _, _, _, _, .nil, s => s
  | _, _, _, _, .cons h r, s => .cons h (RepVs.append r s)
theorem RepVs.take : ∀ {v : List V} {w : List W} (n : Nat), RepVs K ci G v w → RepVs K ci G (v.take n) (w.take n)
  | _, _, 0, _ => .nil
  | _, _, _ + 1, .nil => .nil
  | _, _, n + 1, .cons h r => .cons h (RepVs.take n r)
theorem RepVs.drop : ∀ {v : List V} {w : List W} (n : Nat), RepVs K ci G v w → RepVs K ci G (v.drop n) (w.drop n)
  | _, _, 0, r => r
  | _, _, _ + 1, .nil => .nil
  | _, _, n + 1, .cons _ r => RepVs.drop n r
theorem RepVs.set {x : V} {y : W} (q : RepV K ci G x y) : ∀ {v : List V} {w : List W} (i : Nat), RepVs K ci G v w → RepVs K ci G (v.set i x) (w.set i y)
  | _, _, _, .nil => .nil
  | _, _, 0, .cons _ r => .cons q r
  | _, _, i + 1, .cons h r => .cons h (RepVs.set q i r)
theorem RepVs.rev : ∀ {v : List V} {w : List W}, RepVs K ci G v w → RepVs K ci G v.reverse w.reverse
  | _, _, .nil => .nil
  | _, _, .cons h r => by
    rw [List.reverse_cons, List.reverse_cons]
    exact (RepVs.rev r).append (.cons h .nil)
theorem RepFs.look {f : Str} : ∀ {v : List (Str × V)} {w : List (Str × W)} {y : W}, RepFs K ci G v w → w.lookup f = some y → ∃ x, v.lookup f = some x ∧ RepV K ci G x y
  | _, _, _, .nil, e => by cases e
  | _, _, y, .cons (f := g) h r, e => by
    rw [List.lookup_cons] at e ⊢
    cases q : f == g with
    | true =>
      rw [q] at e
      cases e
      exact ⟨_, rfl, h⟩
    | false =>
      rw [q] at e
      exact RepFs.look r e
theorem RepFs.look0 {f : Str} : ∀ {v : List (Str × V)} {w : List (Str × W)}, RepFs K ci G v w → w.lookup f = none → v.lookup f = none
  | _, _, .nil, _ => rfl
  | _, _, .cons (f := g) h r, e => by
    rw [List.lookup_cons] at e ⊢
    cases q : f == g with
    | true => rw [q] at e; cases e
    | false =>
      rw [q] at e
      exact RepFs.look0 r e
end

/-! ### slots -/
def OwnAt (env : Ev) (σ : L2.St) (i : Nat) (a : Addr) : Prop := (∃ w, env[i]? = some (.own w)) ∧ σ[i]? = some (some (.ref a))
structure StR (K : PySem.W.Frag) (ci : Nat → Addr) (G : Hp) (env : Ev) (σ : L2.St) (H : Hp) : Prop where
  sub : Same G H
  len : env.length = σ.length
  dat : ∀ (i : Nat) (w : W), env[i]? = some (.dat w) → ∃ v, σ[i]? = some (some v) ∧ RepV K ci G v w
  own : ∀ (i : Nat) (w : W), env[i]? = some (.own w) → ∃ a, σ[i]? = some (some (.ref a)) ∧ G a = none ∧ RepO K ci G H a w
  inj : ∀ (i j : Nat) (a : Addr), OwnAt env σ i a → OwnAt env σ j a → i = j
structure Step (BS : List Nat) (env : Ev) (σ : L2.St) (G H : Hp) (env' : Ev) (σ' : L2.St) (G' H' : Hp) : Prop where
  sub : Same G G'
  keep : ∀ a o, H a = some o → (∀ i, ¬ OwnAt env σ i a) → H' a = some o
  pers : ∀ a, H a ≠ none → G a = none → (∀ i, ¬ OwnAt env σ i a) → G' a = none
  here : ∀ a, H a ≠ none → H' a ≠ none
  new : ∀ i a, OwnAt env' σ' i a → (i ∈ BS ∧ OwnAt env σ i a) ∨ (i ∉ BS ∧ (H a = none ∨ ∃ j, j ∉ BS ∧ OwnAt env σ j a))
  bs : ∀ i ∈ BS, σ'[i]? = σ[i]? ∧ ((∃ w, env[i]? = some (.own w)) → ∃ w, env'[i]? = some (.own w))
section
variable {K : PySem.W.Frag} {ci : Nat → Addr} {BS : List Nat} {env env1 env' : Ev} {σ σ1 σ' : L2.St} {G G1 G' H H1 H' : Hp} {v : V} {w : W}
theorem Step.refl : Step BS env σ G H env σ G H :=
  ⟨Same.refl _, fun _ _ h _ => h, fun _ _ h _ => h, fun _ h => h, fun i a h => by
    by_cases hi : i ∈ BS
    · exact .inl ⟨hi, h⟩
    · exact .inr ⟨hi, .inr ⟨i, hi, h⟩⟩, fun _ _ => ⟨rfl, fun h => h⟩⟩
theorem Step.notOwn (s : Step BS env σ G H env1 σ1 G1 H1) {a : Addr} (h : H a ≠ none) (n : ∀ i, ¬ OwnAt env σ i a) : ∀ i, ¬ OwnAt env1 σ1 i a := fun i o => by
  rcases s.new i a o with ⟨_, q⟩ | ⟨_, q | ⟨j, _, q⟩⟩
  · exact n i q
  · exact h q
  · exact n j q
theorem Step.trans (s : Step BS env σ G H env1 σ1 G1 H1) (t : Step BS env1 σ1 G1 H1 env' σ' G' H') : Step BS env σ G H env' σ' G' H' where
  sub := s.sub.trans t.sub
  keep := fun a o h n => t.keep a o (s.keep a o h n) (s.notOwn (by rw [h]; exact fun z => nomatch z) n)
  pers := fun a h g n => t.pers a (s.here a h) (s.pers a h g n) (s.notOwn h n)
  here := fun a h => t.here a (s.here a h)
  new := fun i a h => by
    have back : ∀ j, j ∉ BS → OwnAt env1 σ1 j a → (H a = none ∨ ∃ j, j ∉ BS ∧ OwnAt env σ j a) := fun j hj o => by
      rcases s.new j a o with ⟨z, _⟩ | ⟨_, q⟩
      · exact absurd z hj
      · exact q
    rcases t.new i a h with ⟨hi, q⟩ | ⟨hi, q | ⟨j, hj, q⟩⟩
    · rcases s.new i a q with ⟨_, q⟩ | ⟨z, _⟩
      · exact .inl ⟨hi, q⟩
      · exact absurd hi z
    · refine .inr ⟨hi, .inl ?_⟩
      cases e : H a with
      | none => rfl
      | some o => exact absurd q (s.here a (by rw [e]; exact fun z => nomatch z))
    · exact .inr ⟨hi, back j hj q⟩
  bs := fun i hi => ⟨(t.bs i hi).1.trans (s.bs i hi).1, fun z => (t.bs i hi).2 ((s.bs i hi).2 z)⟩
theorem StR.ownAt (r : StR K ci G env σ H) {i : Nat} {a : Addr} (h : OwnAt env σ i a) : G a = none ∧ H a ≠ none ∧ ∃ w, env[i]? = some (.own w) ∧ RepO K ci G H a w := by
  obtain ⟨⟨w, e⟩, q⟩ := h
  obtain ⟨b, q1, q2, q3⟩ := r.own i w e
  rw [q] at q1
  have eb : a = b := by
    have z := Option.some.inj (Option.some.inj q1)
    exact V.ref.inj z
  subst eb
  exact ⟨q2, q3.ne, w, e, q3⟩
/-- nothing of the slots changes; a new object comes, tracked for ever -/
theorem alloc_pers (r : StR K ci G env σ H) {p : Addr} {o : HO} (hp : H p = none) : Step BS env σ G H env σ (upd G p o) (upd H p o) ∧ StR K ci (upd G p o) env σ (upd H p o) := by
  have gp : G p = none := r.sub.free hp
  have s1 : Same G (upd G p o) := same_new gp
  have s2 : Same H (upd H p o) := same_new hp
  have np : ∀ a, H a ≠ none → a ≠ p := fun a h e => by rw [e] at h; exact h hp
  refine ⟨⟨s1, fun a u h _ => s2 _ _ h, fun a h g _ => by rw [upd_ne (np a h)]; exact g, fun a h => by rw [upd_ne (np a h)]; exact h, (Step.refl (G := G) (H := H)).new, fun _ _ => ⟨rfl, fun h => h⟩⟩, ⟨fun b u q => ?_, r.len, fun i w e => ?_, fun i w e => ?_, r.inj⟩⟩
  · by_cases hb : b = p
    · subst hb
      rw [upd_same] at q ⊢
      exact q
    · rw [upd_ne hb] at q ⊢
      exact r.sub _ _ q
  · obtain ⟨v, q1, q2⟩ := r.dat i w e
    exact ⟨v, q1, q2.mono s1⟩
  · obtain ⟨a, q1, q2, q3⟩ := r.own i w e
    have na := np a q3.ne
    exact ⟨a, q1, by rw [upd_ne na]; exact q2, q3.mono s1 fun o h => s2 _ _ h⟩
/-- nothing of the slots changes; a new object comes, not tracked for ever -/
theorem alloc_new (r : StR K ci G env σ H) {p : Addr} {o : HO} (hp : H p = none) : Step BS env σ G H env σ G (upd H p o) ∧ StR K ci G env σ (upd H p o) ∧ G p = none ∧ ∀ i, ¬ OwnAt env σ i p := by
  have gp : G p = none := r.sub.free hp
  have s2 : Same H (upd H p o) := same_new hp
  have np : ∀ a, H a ≠ none → a ≠ p := fun a h e => by rw [e] at h; exact h hp
  refine ⟨⟨Same.refl _, fun a u h _ => s2 _ _ h, fun a h g _ => g, fun a h => by rw [upd_ne (np a h)]; exact h, (Step.refl (G := G) (H := H)).new, fun _ _ => ⟨rfl, fun h => h⟩⟩, ⟨r.sub.trans s2, r.len, r.dat, fun i w e => ?_, r.inj⟩, gp, fun i h => (r.ownAt h).2.1 hp⟩
  obtain ⟨a, q1, q2, q3⟩ := r.own i w e
  exact ⟨a, q1, q2, q3.mono (Same.refl _) fun o h => s2 _ _ h⟩
/-- an object that no slot owns and that G does not know is frozen -/
theorem freeze_new (r : StR K ci G env σ H) {a : Addr} (h : RepO K ci G H a w) (n : G a = none) (no : ∀ i, ¬ OwnAt env σ i a) :
    ∃ G', Same G G' ∧ StR K ci G' env σ H ∧ RepV K ci G' (.ref a) w ∧ (∀ b, b ≠ a → G' b = G b) := by
  obtain ⟨o, eH, s1, s2, rv⟩ := h.freeze n r.sub
  refine ⟨upd G a o, s1, ⟨s2, r.len, fun i w e => ?_, fun i w e => ?_, r.inj⟩, rv, fun b hb => upd_ne hb⟩
  · obtain ⟨v, q1, q2⟩ := r.dat i w e
    exact ⟨v, q1, q2.mono s1⟩
  · obtain ⟨b, q1, q2, q3⟩ := r.own i w e
    have nb : b ≠ a := fun z => no i ⟨⟨w, e⟩, z ▸ q1⟩
    exact ⟨b, q1, by rw [upd_ne nb]; exact q2, q3.mono s1 fun _ h => h⟩
end
end BV

set_option maxRecDepth 100000
set_option maxHeartbeats 2000000
/-! BV: what an expression comes to, as a function of the slots. -/
namespace BV
open PySem PySem.Spec L2

structure Sta where
  env : Ev
  σ : L2.St
  G : Hp
  H : Hp
abbrev Stp (BS : List Nat) (s s' : Sta) : Prop := Step BS s.env s.σ s.G s.H s'.env s'.σ s'.G s'.H
abbrev Ok (K : PySem.W.Frag) (ci : Nat → Addr) (s : Sta) : Prop := StR K ci s.G s.env s.σ s.H

/-- a value that has come: for ever | what slot i holds | a new object -/
inductive OV where
  | v (w : W) | s (i : Nat) | n (w : W)
inductive Res (α : Type) where
  | bad | ok (a : α) (env : Ev) | er (x : Exc) (env : Ev)
def Res.bind {α β : Type} (r : Res α) (k : α → Ev → Res β) : Res β := match r with
  | .bad => .bad
  | .ok a env => k a env
  | .er x env => .er x env
abbrev EF := Ev → Res OV
abbrev TF := Ev → Res Bool
abbrev AF := Ev → Res (List OV)

section
variable (K : PySem.W.Frag) (ci : Nat → Addr)
def RepOV (s : Sta) (v : V) : OV → Prop
  | .v w => RepV K ci s.G v w
  | .s i => s.σ[i]? = some (some v)
  | .n w => ∃ a, v = .ref a ∧ RepO K ci s.G s.H a w ∧ s.G a = none ∧ ∀ i, ¬ OwnAt s.env s.σ i a
/-- a new object was not there at s0 -/
def NewOV (s0 : Sta) (v : V) : OV → Prop
  | .n _ => ∀ a, v = .ref a → s0.H a = none
  | _ => True
def RepX (G H : Hp) (cls : Value) (d : Option Addr) (x : Exc) : Prop :=
  cls = .ref (ci x.c) ∧ ((x.fs = [] ∧ d = none) ∨ ∃ dd fvs, d = some dd ∧ G dd = some (.xd fvs) ∧ RepFs K ci G fvs x.fs)
/-- what is wanted holds of whatever comes -/
def Acc {α : Type} (BS : List Nat) (W : WX) (s : Sta) (C : α → Sta → Prop) : Res α → Prop
  | .bad => False
  | .ok a env' => ∀ G' H', Stp BS s ⟨env', s.σ, G', H'⟩ → Ok K ci ⟨env', s.σ, G', H'⟩ → C a ⟨env', s.σ, G', H'⟩
  | .er x env' => ∀ G' H' cls d, Stp BS s ⟨env', s.σ, G', H'⟩ → Ok K ci ⟨env', s.σ, G', H'⟩ → RepX K ci G' H' cls d x → W cls d s.σ H'
def CE (s0 : Sta) (Q : VK) (ov : OV) (s' : Sta) : Prop := ∀ v, RepOV K ci s' v ov → NewOV s0 v ov → Q v s'.H
def CA (s0 : Sta) (Q : List V → Hp → Prop) (ovs : List OV) (s' : Sta) : Prop := ∀ vs, Paired (RepOV K ci s') vs ovs → Q vs s'.H
def CT (Q : Bool → Hp → Prop) (b : Bool) (s' : Sta) : Prop := Q b s'.H
/-- the value now, at the top of H -/
def CurV (s : Sta) (v : V) (w : W) : Prop := RepV K ci s.G v w ∨ ∃ a, v = .ref a ∧ RepO K ci s.G s.H a w
end
def getOV : OV → Ev → Option W
  | .v w, _ => some w
  | .n w, _ => some w
  | .s i, env => match env[i]? with
    | some (.dat w) => some w
    | some (.own w) => some w
    | _ => none

section
variable {K : PySem.W.Frag} {ci : Nat → Addr} {BS : List Nat} {α β : Type} {W' : WX} {s s0 m : Sta} {C C' : α → Sta → Prop} {v : V} {w : W} {ov : OV}
theorem Acc.imp {r : Res α} (h : Acc K ci BS W' s C r) (f : ∀ a env' G' H', Stp BS s ⟨env', s.σ, G', H'⟩ → Ok K ci ⟨env', s.σ, G', H'⟩ → C a ⟨env', s.σ, G', H'⟩ → C' a ⟨env', s.σ, G', H'⟩) : Acc K ci BS W' s C' r := by
  cases r with
  | bad => exact h
  | ok a env' => exact fun G' H' st ok => f a env' G' H' st ok (h G' H' st ok)
  | er x env' => exact h
theorem Acc.mid {r : Res α} {env1 : Ev} {G1 H1 : Hp} (h : Acc K ci BS W' s C r) (st : Stp BS s ⟨env1, s.σ, G1, H1⟩) : Acc K ci BS W' ⟨env1, s.σ, G1, H1⟩ C r := by
  cases r with
  | bad => exact h
  | ok a env' => exact fun G' H' st' ok => h G' H' (Step.trans st st') ok
  | er x env' => exact fun G' H' cls d st' ok rx => h G' H' cls d (Step.trans st st') ok rx
theorem Acc.bind {r : Res α} {k : α → Ev → Res β} {C : β → Sta → Prop} (h : Acc K ci BS W' s C (r.bind k)) : Acc K ci BS W' s (fun a m => Acc K ci BS W' m C (k a m.env)) r := by
  cases r with
  | bad => exact h
  | ok a env' => exact fun G' H' st ok => Acc.mid h st
  | er x env' => exact h
theorem NewOV.back {env1 : Ev} {σ1 : L2.St} {G1 H1 : Hp} (st : Stp BS s ⟨env1, σ1, G1, H1⟩) (h : NewOV ⟨env1, σ1, G1, H1⟩ v ov) : NewOV s v ov := by
  cases ov with
  | n w =>
    intro a e
    have z := h a e
    cases q : s.H a with
    | none => rfl
    | some o => exact absurd z (st.here a (by rw [q]; exact fun z => nomatch z))
  | v w => trivial
  | s i => trivial
theorem RepOV.step {env1 : Ev} {G1 H1 : Hp} (h : RepOV K ci s v ov) (st : Stp BS s ⟨env1, s.σ, G1, H1⟩) : RepOV K ci ⟨env1, s.σ, G1, H1⟩ v ov := by
  cases ov with
  | v w => exact RepV.mono st.sub h
  | s i => exact h
  | n w =>
    obtain ⟨a, e, r, g, no⟩ := h
    have hn := r.ne
    exact ⟨a, e, r.mono st.sub fun o q => st.keep a o q no, st.pers a hn g no, st.notOwn hn no⟩
theorem reps_step {env1 : Ev} {G1 H1 : Hp} {vs : List V} {ovs : List OV} (h : Paired (RepOV K ci s) vs ovs) (st : Stp BS s ⟨env1, s.σ, G1, H1⟩) : Paired (RepOV K ci ⟨env1, s.σ, G1, H1⟩) vs ovs := by
  induction h with
  | nil => exact .nil
  | cons r _ ih => exact .cons (r.step st) ih
theorem cur_of (ok : Ok K ci s) (h : RepOV K ci s v ov) (g : getOV ov s.env = some w) : CurV K ci s v w := by
  cases ov with
  | v w1 => cases g; exact .inl h
  | n w1 =>
    cases g
    obtain ⟨a, e, r, _⟩ := h
    exact .inr ⟨a, e, r⟩
  | s i =>
    have h' : s.σ[i]? = some (some v) := h
    unfold getOV at g
    cases e : s.env[i]? with
    | none => simp only [e] at g; cases g
    | some sl =>
      simp only [e] at g
      cases sl with
      | no => cases g
      | dat w1 =>
        cases g
        obtain ⟨v', q1, q2⟩ := ok.dat i w e
        rw [h'] at q1
        cases q1
        exact .inl q2
      | own w1 =>
        cases g
        obtain ⟨a, q1, _, q3⟩ := ok.own i w e
        rw [h'] at q1
        cases q1
        exact .inr ⟨a, rfl, q3⟩
/-! what comes back -/
theorem ret_same {Q : VK} (ok : Ok K ci s) (h : Acc K ci BS W' s (CE K ci s Q) (.ok (.v w) s.env)) (r : RepV K ci s.G v w) : Q v s.H := h s.G s.H Step.refl ok v r trivial
theorem ret_tup {Q : VK} (ok : Ok K ci s) {ws : List W} {vs : List V} {p : Addr} (h : Acc K ci BS W' s (CE K ci s Q) (.ok (.v (.tup ws)) s.env)) (r : RepVs K ci s.G vs ws) (hp : s.H p = none) : Q (.ref p) (upd s.H p (.tup vs)) := by
  obtain ⟨st, ok'⟩ := alloc_pers (BS := BS) (o := .tup vs) ok hp
  exact h _ _ st ok' (.ref p) (RepV.tup upd_same (r.mono st.sub)) trivial
theorem ret_lst {Q : VK} (ok : Ok K ci s) {ws : List W} {vs : List V} {p : Addr} (h : Acc K ci BS W' s (CE K ci s Q) (.ok (.n (.lst ws)) s.env)) (r : RepVs K ci s.G vs ws) (hp : s.H p = none) : Q (.ref p) (upd s.H p (.lst vs)) := by
  obtain ⟨st, ok', gp, no⟩ := alloc_new (BS := BS) (o := .lst vs) ok hp
  exact h _ _ st ok' (.ref p) ⟨p, rfl, .lst upd_same r, gp, no⟩ fun a e => by cases e; exact hp
/-! values by their form -/
theorem CurV.non (h : CurV K ci s v .non) : v = .non := by
  rcases h with h | ⟨a, _, h⟩
  · cases h; rfl
  · cases h
theorem CurV.bl {b : Bool} (h : CurV K ci s v (.bl b)) : v = .bl b := by
  rcases h with h | ⟨a, _, h⟩
  · cases h; rfl
  · cases h
theorem CurV.int {i : Int} (h : CurV K ci s v (.int i)) : v = .int i := by
  rcases h with h | ⟨a, _, h⟩
  · cases h; rfl
  · cases h
theorem CurV.str {x : Str} (h : CurV K ci s v (.str x)) : v = .str x := by
  rcases h with h | ⟨a, _, h⟩
  · cases h; rfl
  · cases h
theorem CurV.tup {ws : List W} (ok : Ok K ci s) (h : CurV K ci s v (.tup ws)) : ∃ a vs, v = .ref a ∧ SqT K s.H a vs ∧ RepVs K ci s.G vs ws := by
  rcases h with h | ⟨a, _, h⟩
  · cases h with
    | tup h r => exact ⟨_, _, rfl, .inl (.inl (ok.sub _ _ h)), r⟩
  · cases h
theorem CurV.lst {ws : List W} (ok : Ok K ci s) (h : CurV K ci s v (.lst ws)) : ∃ a vs, v = .ref a ∧ s.H a = some (.lst vs) ∧ RepVs K ci s.G vs ws := by
  rcases h with h | ⟨a, e, h⟩
  · cases h with
    | lst h r => exact ⟨_, _, rfl, ok.sub _ _ h, r⟩
  · cases h with
    | lst h r => exact ⟨a, _, e, h, r⟩
theorem CurV.fz {ws : List W} (ok : Ok K ci s) (h : CurV K ci s v (.fz ws)) : ∃ a vs, v = .ref a ∧ SqL K s.H a vs ∧ RepVs K ci s.G vs ws := by
  rcases h with h | ⟨a, e, h⟩
  · cases h with
    | fz h r => exact ⟨_, _, rfl, ok.sub.seq h, r⟩
  · cases h
end

/-! ### the judgements -/
section
variable (X : Cx) (ci : Nat → Addr) (BS : List Nat)
structure SndE (e : Expr) (f : EF) : Prop where
  ex : ∃ te : WX → TE, (∀ W', Takes X W' → PE X e (te W')) ∧ ∀ (W' : WX) (s : Sta) (Q : VK), Ok X.K ci s → Acc X.K ci BS W' s (CE X.K ci s Q) (f s.env) → te W' s.σ s.H Q
structure SndT (e : Expr) (f : TF) : Prop where
  ex : ∃ te : WX → TT, (∀ W', Takes X W' → PT X e (te W')) ∧ ∀ (W' : WX) (s : Sta) (Q : Bool → Hp → Prop), Ok X.K ci s → Acc X.K ci BS W' s (CT Q) (f s.env) → te W' s.σ s.H Q
structure SndW (e : Expr) (f : TF) : Prop where
  ex : ∃ te : WX → TT, (∀ W', Takes X W' → PW X e (te W')) ∧ ∀ (W' : WX) (s : Sta) (Q : Bool → Hp → Prop), Ok X.K ci s → Acc X.K ci BS W' s (CT Q) (f s.env) → te W' s.σ s.H Q
structure SndA (es : List Expr) (f : AF) : Prop where
  ex : ∃ te : WX → TA, (∀ W', Takes X W' → PA X es (te W')) ∧ ∀ (W' : WX) (s : Sta) (Q : List V → Hp → Prop), Ok X.K ci s → Acc X.K ci BS W' s (CA X.K ci s Q) (f s.env) → te W' s.σ s.H Q
/-- an operator on values -/
def OpS (f : Value → Value → Sem Value) (g : W → W → Option OV) : Prop := ∃ r : R2, OpR X f r ∧ ∀ (W' : WX) (s : Sta) (x y : V) (wx wy : W) (ov : OV) (Q : VK),
  Ok X.K ci s → CurV X.K ci s x wx → CurV X.K ci s y wy → g wx wy = some ov → Acc X.K ci BS W' s (CE X.K ci s Q) (.ok ov s.env) → r x y s.H Q
/-- a built-in that is called -/
def CallS (f : Value) (g : List W → Option OV) : Prop := ∃ r : List V → Hp → VK → Prop, CallR X f r ∧ ∀ (W' : WX) (s : Sta) (xs : List V) (ws : List W) (ov : OV) (Q : VK),
  Ok X.K ci s → Paired (CurV X.K ci s) xs ws → g ws = some ov → Acc X.K ci BS W' s (CE X.K ci s Q) (.ok ov s.env) → r xs s.H Q
end
def retOV (o : Option OV) (env : Ev) : Res OV := match o with
  | some ov => .ok ov env
  | none => .bad
/-! the functions -/
def fC (w : W) : EF := fun env => .ok (.v w) env
/-- slot i, to be looked at -/
def fV (i : Nat) : EF := fun env => match env[i]? with
  | some (.dat w) => .ok (.v w) env
  | some (.own _) => .ok (.s i) env
  | _ => .bad
/-- slot i, for ever -/
def fZ (i : Nat) : EF := fun env => match env[i]? with
  | some (.dat w) => .ok (.v w) env
  | some (.own w) => .ok (.v w) (env.set i (.dat w))
  | _ => .bad
/-- for ever -/
def fE (f : EF) : EF := fun env => (f env).bind fun ov env => match ov with
  | .v w => .ok (.v w) env
  | .n w => .ok (.v w) env
  | .s _ => .bad
def fOp (g : W → W → Option OV) (fa fb : EF) : EF := fun env => (fa env).bind fun x env => (fb env).bind fun y env =>
  retOV ((getOV x env).bind fun wx => (getOV y env).bind fun wy => g wx wy) env
def fNil : AF := fun env => .ok [] env
def fCons (fa : EF) (fr : AF) : AF := fun env => (fa env).bind fun x env => (fr env).bind fun xs env => .ok (x :: xs) env
def getOVs : List OV → Ev → Option (List W)
  | [], _ => some []
  | o :: os, env => (getOV o env).bind fun w => (getOVs os env).bind fun ws => some (w :: ws)
def fB (g : List W → Option OV) (fa : AF) : EF := fun env => (fa env).bind fun xs env => retOV ((getOVs xs env).bind g) env
/-- a value that is True or False, as a test -/
def asB : W → Option Bool
  | .bl b => some b
  | _ => none
def fTest (f : EF) : TF := fun env => (f env).bind fun ov env => match (getOV ov env).bind asB with
  | some b => .ok b env
  | none => .bad
def fNot (f : TF) : TF := fun env => (f env).bind fun b env => .ok (!b) env
def fAnd (f g : TF) : TF := fun env => (f env).bind fun b env => if b = true then g env else .ok false env
def fOr (f g : TF) : TF := fun env => (f env).bind fun b env => if b = true then .ok true env else g env
def fIf (c : TF) (f g : EF) : EF := fun env => (c env).bind fun b env => if b = true then f env else g env
/-- and, or of truths, as values -/
def fAndV (f g : EF) : EF := fun env => (f env).bind fun ov env => match (getOV ov env).bind asB with
  | some b => if b = true then g env else .ok (.v (.bl false)) env
  | none => .bad
def fOrV (f g : EF) : EF := fun env => (f env).bind fun ov env => match (getOV ov env).bind asB with
  | some b => if b = true then .ok (.v (.bl true)) env else g env
  | none => .bad
def fNotV (f : EF) : EF := fun env => (f env).bind fun ov env => match (getOV ov env).bind asB with
  | some b => .ok (.v (.bl (!b))) env
  | none => .bad
/-- a < b < c -/
def fChain (g g' : W → W → Option OV) (fa fb fc : EF) : EF := fun env => (fa env).bind fun x env => (fb env).bind fun y env =>
  match ((getOV x env).bind fun wx => (getOV y env).bind fun wy => g wx wy) with
  | some (.v (.bl true)) => (fc env).bind fun z env => retOV ((getOV y env).bind fun wy => (getOV z env).bind fun wz => g' wy wz) env
  | some (.v (.bl false)) => .ok (.v (.bl false)) env
  | _ => .bad
def asV : List OV → Option (List W)
  | [] => some []
  | .v w :: os => (asV os).bind fun ws => some (w :: ws)
  | _ :: _ => none
def fTup (f : AF) : EF := fun env => (f env).bind fun xs env => match asV xs with
  | some ws => if ws.length ≤ 16777216 then .ok (.v (.tup ws)) env else .bad
  | none => .bad
def fLst (f : AF) : EF := fun env => (f env).bind fun xs env => match asV xs with
  | some ws => if ws.length ≤ 16777216 then .ok (.n (.lst ws)) env else .bad
  | none => .bad

section
variable {X : Cx} {ci : Nat → Addr} {BS : List Nat} {e a b c : Expr} {es : List Expr} {fa fb fc f : EF} {ta tb : TF} {fr : AF} {pos : Pos}
theorem x_int {i j} : SndE X ci BS (.Constant (.int i) j pos) (fC (.int i)) := ⟨_, fun _ _ => pe_int, fun W' s Q ok h => ret_same ok h (.int i)⟩
theorem x_bl {b j} : SndE X ci BS (.Constant (.bool b) j pos) (fC (.bl b)) := ⟨_, fun _ _ => pe_bl, fun W' s Q ok h => ret_same ok h (.bl b)⟩
theorem x_non {j} : SndE X ci BS (.Constant .none j pos) (fC .non) := ⟨_, fun _ _ => pe_non, fun W' s Q ok h => ret_same ok h .non⟩
theorem x_str {x j} : SndE X ci BS (.Constant (.str x) j pos) (fC (.str x)) := ⟨_, fun _ _ => pe_str, fun W' s Q ok h => ret_same ok h (.str x)⟩
theorem x_var (i : Nat) {x : Str} (hN : X.N[i]? = some x := by rfl) (hv : Vis X.env.scope x := by first | exact Or.inl rfl | exact Or.inr (Or.inl rfl) | exact Or.inr (Or.inr rfl)) (hd : (x == ("__debug__" : Str)) = false := by decide)
    (hcd : (x == ("__classdict__" : Str)) = false := by decide) : SndE X ci BS (.Name x pos) (fV i) := by
  refine ⟨⟨fun _ => tVar i, fun _ _ => pe_var hN hv hd hcd, fun W' s Q ok h => ?_⟩⟩
  unfold fV at h
  cases e : s.env[i]? with
  | none => rw [e] at h; exact h.elim
  | some sl =>
    rw [e] at h
    cases sl with
    | no => exact h.elim
    | dat w =>
      obtain ⟨v, q1, q2⟩ := ok.dat i w e
      exact ⟨v, q1, ret_same ok h q2⟩
    | own w =>
      obtain ⟨a, q1, _, _⟩ := ok.own i w e
      exact ⟨.ref a, q1, h s.G s.H Step.refl ok (.ref a) q1 trivial⟩
theorem x_frz (i : Nat) {x : Str} (hi : i ∉ BS) (hN : X.N[i]? = some x := by rfl) (hv : Vis X.env.scope x := by first | exact Or.inl rfl | exact Or.inr (Or.inl rfl) | exact Or.inr (Or.inr rfl)) (hd : (x == ("__debug__" : Str)) = false := by decide)
    (hcd : (x == ("__classdict__" : Str)) = false := by decide) : SndE X ci BS (.Name x pos) (fZ i) := by
  refine ⟨⟨fun _ => tVar i, fun _ _ => pe_var hN hv hd hcd, fun W' s Q ok h => ?_⟩⟩
  unfold fZ at h
  cases e : s.env[i]? with
  | none => rw [e] at h; exact h.elim
  | some sl =>
    rw [e] at h
    cases sl with
    | no => exact h.elim
    | dat w =>
      obtain ⟨v, q1, q2⟩ := ok.dat i w e
      exact ⟨v, q1, ret_same ok h q2⟩
    | own w =>
      obtain ⟨a, q1, g, ro⟩ := ok.own i w e
      have il : i < s.env.length := (List.getElem?_eq_some_iff.mp e).1
      obtain ⟨o, eo, s1, s2, rv⟩ := ro.freeze g ok.sub
      have nown : ∀ {j : Nat} {w : W}, (s.env.set i (.dat w))[j]? = some (.own w) → True := fun _ => trivial
      have back : ∀ {j : Nat} {sl : Sl}, j ≠ i → ((s.env.set i (.dat w))[j]? = some sl ↔ s.env[j]? = some sl) := fun {j sl} hj => by
        rw [List.getElem?_set_ne (Ne.symm hj)]
      have at_i : (s.env.set i (.dat w))[i]? = some (.dat w) := List.getElem?_set_self il
      have ownB : ∀ {j : Nat} {c : Addr}, OwnAt (s.env.set i (.dat w)) s.σ j c → j ≠ i ∧ OwnAt s.env s.σ j c := fun {j c} ⟨⟨u, eu⟩, q⟩ => by
        have hj : j ≠ i := fun z => by
          subst z
          rw [at_i] at eu
          cases eu
        exact ⟨hj, ⟨u, (back hj).mp eu⟩, q⟩
      have nep : ∀ {j : Nat} {c : Addr}, OwnAt (s.env.set i (.dat w)) s.σ j c → c ≠ a := fun {j c} h z => by
        obtain ⟨hj, q⟩ := ownB h
        subst z
        exact hj (ok.inj _ _ _ q ⟨⟨w, e⟩, q1⟩)
      have ok' : Ok X.K ci ⟨s.env.set i (.dat w), s.σ, upd s.G a o, s.H⟩ := by
        refine ⟨s2, by rw [List.length_set]; exact ok.len, fun j u eu => ?_, fun j u eu => ?_, fun j k c h1 h2 => ok.inj j k c (ownB h1).2 (ownB h2).2⟩
        · by_cases hj : j = i
          · subst hj
            rw [at_i] at eu
            cases eu
            exact ⟨.ref a, q1, rv⟩
          · obtain ⟨v, p1, p2⟩ := ok.dat j u ((back hj).mp eu)
            exact ⟨v, p1, p2.mono s1⟩
        · have hj : j ≠ i := fun z => by
            subst z
            rw [at_i] at eu
            cases eu
          obtain ⟨b, p1, p2, p3⟩ := ok.own j u ((back hj).mp eu)
          have nb : b ≠ a := nep ⟨⟨u, eu⟩, p1⟩
          exact ⟨b, p1, by show upd s.G a o b = none; rw [upd_ne nb]; exact p2, p3.mono s1 fun _ h => h⟩
      refine ⟨.ref a, q1, h (upd s.G a o) s.H ⟨s1, fun _ _ h _ => h, fun c hc gc no => ?_, fun _ h => h, fun j c h => ?_, fun j hj => ⟨rfl, fun z => ?_⟩⟩ ok' (.ref a) rv trivial⟩
      · have nc : c ≠ a := fun z => no i ⟨⟨w, e⟩, by rw [z]; exact q1⟩
        show upd s.G a o c = none
        rw [upd_ne nc]
        exact gc
      · obtain ⟨hj, q⟩ := ownB h
        by_cases hB : j ∈ BS
        · exact .inl ⟨hB, q⟩
        · exact .inr ⟨hB, .inr ⟨j, hB, q⟩⟩
      · obtain ⟨u, eu⟩ := z
        have hj' : j ≠ i := fun z => hi (z ▸ hj)
        exact ⟨u, (back hj').mpr eu⟩
theorem x_esc (ha : SndE X ci BS a fa) : SndE X ci BS a (fE fa) := by
  obtain ⟨ta, pa, qa⟩ := ha.ex
  refine ⟨⟨ta, pa, fun W' s Q ok h => qa W' s Q ok ?_⟩⟩
  unfold fE at h
  cases e : fa s.env with
  | bad => rw [e] at h; exact h
  | er x env' => rw [e] at h; exact h
  | ok ov env' =>
    rw [e] at h
    cases ov with
    | v w => exact h
    | s i => exact h.elim
    | n w =>
      intro G' H' st ok' v rep new
      obtain ⟨p, rfl, ro, gp, no⟩ := rep
      obtain ⟨G2, s1, ok2, rv, same⟩ := freeze_new ok' ro gp no
      refine h G2 H' ⟨st.sub.trans s1, st.keep, fun c hc gc no' => ?_, st.here, st.new, st.bs⟩ ok2 (.ref p) rv trivial
      have hp : s.H p = none := new p rfl
      have nc : c ≠ p := fun z => hc (z ▸ hp)
      show G2 c = none
      rw [same c nc]
      exact st.pers c hc gc no'
/-! ### operators -/
theorem op_core {ta tb : WX → TE} {r : R2} {g : W → W → Option OV} (qa : ∀ (W' : WX) (s : Sta) (Q : VK), Ok X.K ci s → Acc X.K ci BS W' s (CE X.K ci s Q) (fa s.env) → ta W' s.σ s.H Q)
    (qb : ∀ (W' : WX) (s : Sta) (Q : VK), Ok X.K ci s → Acc X.K ci BS W' s (CE X.K ci s Q) (fb s.env) → tb W' s.σ s.H Q)
    (qr : ∀ (W' : WX) (s : Sta) (x y : V) (wx wy : W) (ov : OV) (Q : VK), Ok X.K ci s → CurV X.K ci s x wx → CurV X.K ci s y wy → g wx wy = some ov → Acc X.K ci BS W' s (CE X.K ci s Q) (.ok ov s.env) → r x y s.H Q)
    (W' : WX) (s : Sta) (Q : VK) (ok : Ok X.K ci s) (h : Acc X.K ci BS W' s (CE X.K ci s Q) (fOp g fa fb s.env)) : tOp r (ta W') (tb W') s.σ s.H Q := by
  refine qa W' s _ ok (h.bind.imp fun ox env1 G1 H1 st1 ok1 h1 => ?_)
  intro v rep new
  refine qb W' ⟨env1, s.σ, G1, H1⟩ _ ok1 (h1.bind.imp fun oy env2 G2 H2 st2 ok2 h2 => ?_)
  intro u rep2 new2
  have rep' : RepOV X.K ci ⟨env2, s.σ, G2, H2⟩ v ox := rep.step st2
  cases e1 : getOV ox env2 with
  | none => dsimp only at h2; rw [e1] at h2; exact h2.elim
  | some wx =>
    dsimp only at h2
    rw [e1] at h2
    cases e2 : getOV oy env2 with
    | none => rw [e2] at h2; exact h2.elim
    | some wy =>
      rw [e2] at h2
      cases e3 : g wx wy with
      | none => (have h2' : Acc X.K ci BS W' ⟨env2, s.σ, G2, H2⟩ (CE X.K ci s Q) (retOV (g wx wy) env2) := h2); rw [e3] at h2'; exact h2'.elim
      | some ov =>
        have h2' : Acc X.K ci BS W' ⟨env2, s.σ, G2, H2⟩ (CE X.K ci s Q) (retOV (g wx wy) env2) := h2
        rw [e3] at h2'
        refine qr W' ⟨env2, s.σ, G2, H2⟩ v u wx wy ov Q ok2 (cur_of ok2 rep' e1) (cur_of ok2 rep2 e2) e3 (h2'.imp fun ov env3 G3 H3 st3 ok3 h3 => ?_)
        intro z rz nz
        exact h3 z rz (NewOV.back (st1.trans st2) nz)
theorem x_op {op : Operator} {g : W → W → Option OV} (ho : OpS X ci BS (binaryOp op) g) (ha : SndE X ci BS a fa) (hb : SndE X ci BS b fb) : SndE X ci BS (.BinOp a op b pos) (fOp g fa fb) := by
  obtain ⟨ta, pa, qa⟩ := ha.ex
  obtain ⟨tb, pb, qb⟩ := hb.ex
  obtain ⟨r, pr, qr⟩ := ho
  refine ⟨⟨fun W' => tOp r (ta W') (tb W'), fun W' tk => pe_op pr (pa W' tk) (pb W' tk), fun W' s Q ok h => ?_⟩⟩
  exact op_core qa qb qr W' s Q ok h
theorem x_cmp {op : CmpOp} {g : W → W → Option OV} (ho : OpS X ci BS (compareOp op) g) (ha : SndE X ci BS a fa) (hb : SndE X ci BS b fb) (hm : behindInMarks op b = false) : SndE X ci BS (.Compare a [op] [b] pos) (fOp g fa fb) := by
  obtain ⟨ta, pa, qa⟩ := ha.ex
  obtain ⟨tb, pb, qb⟩ := hb.ex
  obtain ⟨r, pr, qr⟩ := ho
  exact ⟨⟨fun W' => tOp r (ta W') (tb W'), fun W' tk => pe_cmpR pr (pa W' tk) (pb W' tk) hm, fun W' s Q ok h => op_core qa qb qr W' s Q ok h⟩⟩
/-- what comes to a bool, as a test -/
theorem test_core {te : WX → TE} (qa : ∀ (W' : WX) (s : Sta) (Q : VK), Ok X.K ci s → Acc X.K ci BS W' s (CE X.K ci s Q) (f s.env) → te W' s.σ s.H Q)
    (W' : WX) (s : Sta) (Q : Bool → Hp → Prop) (ok : Ok X.K ci s) (h : Acc X.K ci BS W' s (CT Q) (fTest f s.env)) : te W' s.σ s.H fun x H' => ∃ k, x = .bl k ∧ Q k H' := by
  refine qa W' s _ ok (h.bind.imp fun ov env1 G1 H1 st1 ok1 h1 => ?_)
  intro v rep new
  cases e1 : getOV ov env1 with
  | none => dsimp only at h1; rw [e1] at h1; exact h1.elim
  | some w =>
    dsimp only at h1
    rw [e1] at h1
    cases w with
    | bl b => exact ⟨b, (cur_of ok1 rep e1).bl, h1 G1 H1 Step.refl ok1⟩
    | _ => exact h1.elim
theorem t_cmp {op : CmpOp} {g : W → W → Option OV} (ho : OpS X ci BS (compareOp op) g) (ha : SndE X ci BS a fa) (hb : SndE X ci BS b fb) (hm : behindInMarks op b = false) : SndT X ci BS (.Compare a [op] [b] pos) (fTest (fOp g fa fb)) := by
  obtain ⟨ta, pa, qa⟩ := ha.ex
  obtain ⟨tb, pb, qb⟩ := hb.ex
  obtain ⟨r, pr, qr⟩ := ho
  refine ⟨⟨fun W' => tTest (tOp r (ta W') (tb W')), fun W' tk => pt_cmpR pr (pa W' tk) (pb W' tk) hm, fun W' s Q ok h => ?_⟩⟩
  exact test_core (te := fun W' => tOp r (ta W') (tb W')) (fun W' s Q ok h => op_core qa qb qr W' s Q ok h) W' s Q ok h
theorem t_val (ha : SndE X ci BS e f) (he : ∀ whole, isTrue e X.env whole = (do let v ← whole; standAt e.pos; holding [v] (truthy v)) := by intro _; rfl) : SndT X ci BS e (fTest f) := by
  obtain ⟨ta, pa, qa⟩ := ha.ex
  exact ⟨⟨fun W' => tB (ta W'), fun W' tk => pt_val (pa W' tk) he, fun W' s Q ok h => test_core qa W' s Q ok h⟩⟩
theorem t_not (ha : SndT X ci BS a ta) : SndT X ci BS (.UnaryOp .Not a pos) (fNot ta) := by
  obtain ⟨t, p, q⟩ := ha.ex
  refine ⟨⟨fun W' => tNot (t W'), fun W' tk => pt_not (p W' tk), fun W' s Q ok h => ?_⟩⟩
  exact q W' s _ ok (h.bind.imp fun b env1 G1 H1 st1 ok1 h1 => h1 G1 H1 Step.refl ok1)
theorem w_and1 (ha : SndT X ci BS a ta) : SndW X ci BS (.BoolOp .And [a] pos) ta := by
  obtain ⟨t, p, q⟩ := ha.ex
  exact ⟨⟨t, fun W' tk => pw_and1 (p W' tk), q⟩⟩
theorem w_or1 (ha : SndT X ci BS a ta) : SndW X ci BS (.BoolOp .Or [a] pos) ta := by
  obtain ⟨t, p, q⟩ := ha.ex
  exact ⟨⟨t, fun W' tk => pw_or1 (p W' tk), q⟩⟩
theorem w_and (ha : SndT X ci BS a ta) (hb : SndW X ci BS (.BoolOp .And (b :: es) pos) tb) : SndW X ci BS (.BoolOp .And (a :: b :: es) pos) (fAnd ta tb) := by
  obtain ⟨t, p, q⟩ := ha.ex
  obtain ⟨t', p', q'⟩ := hb.ex
  refine ⟨⟨fun W' => tAnd (t W') (t' W'), fun W' tk => pw_and (p W' tk) (p' W' tk), fun W' s Q ok h => ?_⟩⟩
  refine q W' s _ ok (h.bind.imp fun c env1 G1 H1 st1 ok1 h1 => ?_)
  cases c with
  | true => exact q' W' _ Q ok1 h1
  | false => exact h1 G1 H1 Step.refl ok1
theorem w_or (ha : SndT X ci BS a ta) (hb : SndW X ci BS (.BoolOp .Or (b :: es) pos) tb) : SndW X ci BS (.BoolOp .Or (a :: b :: es) pos) (fOr ta tb) := by
  obtain ⟨t, p, q⟩ := ha.ex
  obtain ⟨t', p', q'⟩ := hb.ex
  refine ⟨⟨fun W' => tOr (t W') (t' W'), fun W' tk => pw_or (p W' tk) (p' W' tk), fun W' s Q ok h => ?_⟩⟩
  refine q W' s _ ok (h.bind.imp fun c env1 G1 H1 st1 ok1 h1 => ?_)
  cases c with
  | false => exact q' W' _ Q ok1 h1
  | true => exact h1 G1 H1 Step.refl ok1
theorem t_w (ha : SndW X ci BS a ta) : SndT X ci BS a ta := by
  obtain ⟨t, p, q⟩ := ha.ex
  exact ⟨⟨t, fun W' tk => (p W' tk).pt, q⟩⟩
/-! as values -/
theorem x_one {op} (ha : SndE X ci BS a fa) : SndE X ci BS (.BoolOp op [a] pos) fa := by
  obtain ⟨t, p, q⟩ := ha.ex
  exact ⟨⟨t, fun W' tk => pe_one (p W' tk), q⟩⟩
theorem boolv_core {ta : WX → TE} (qa : ∀ (W' : WX) (s : Sta) (Q : VK), Ok X.K ci s → Acc X.K ci BS W' s (CE X.K ci s Q) (fa s.env) → ta W' s.σ s.H Q)
    (W' : WX) (s : Sta) (Q : VK) (R : Bool → Hp → Prop) (k : Bool → Ev → Res OV) (ok : Ok X.K ci s)
    (h : Acc X.K ci BS W' s (CE X.K ci s Q) ((fa s.env).bind fun ov env => match (getOV ov env).bind asB with | some b => k b env | none => .bad))
    (hk : ∀ (b : Bool) env1 G1 H1, Stp BS s ⟨env1, s.σ, G1, H1⟩ → Ok X.K ci ⟨env1, s.σ, G1, H1⟩ → Acc X.K ci BS W' ⟨env1, s.σ, G1, H1⟩ (CE X.K ci ⟨env1, s.σ, G1, H1⟩ Q) (k b env1) → R b H1) :
    ta W' s.σ s.H fun x H' => ∃ c, x = .bl c ∧ R c H' := by
  refine qa W' s _ ok (h.bind.imp fun ov env1 G1 H1 st1 ok1 h1 => ?_)
  intro v rep new
  cases e1 : getOV ov env1 with
  | none => dsimp only at h1; rw [e1] at h1; exact h1.elim
  | some w =>
    dsimp only at h1
    rw [e1] at h1
    cases w with
    | bl b =>
      refine ⟨b, (cur_of ok1 rep e1).bl, hk b env1 G1 H1 st1 ok1 ?_⟩
      have h2 : Acc X.K ci BS W' ⟨env1, s.σ, G1, H1⟩ (CE X.K ci s Q) (k b env1) := h1
      exact h2.imp fun ov' env2 G2 H2 st2 ok2 h3 z rz nz => h3 z rz (NewOV.back st1 nz)
    | _ => exact h1.elim
theorem x_and (ha : SndE X ci BS a fa) (hb : SndE X ci BS (.BoolOp .And (b :: es) pos) fb) : SndE X ci BS (.BoolOp .And (a :: b :: es) pos) (fAndV fa fb) := by
  obtain ⟨t, p, q⟩ := ha.ex
  obtain ⟨t', p', q'⟩ := hb.ex
  refine ⟨⟨fun W' => tAndV (t W') (t' W'), fun W' tk => pe_and (p W' tk) (p' W' tk), fun W' s Q ok h => ?_⟩⟩
  refine boolv_core q W' s Q _ (fun b env => if b = true then fb env else .ok (.v (.bl false)) env) ok h fun c env1 G1 H1 st1 ok1 h1 => ?_
  cases c with
  | true => exact q' W' _ Q ok1 h1
  | false => exact ret_same ok1 h1 (.bl false)
theorem x_or (ha : SndE X ci BS a fa) (hb : SndE X ci BS (.BoolOp .Or (b :: es) pos) fb) : SndE X ci BS (.BoolOp .Or (a :: b :: es) pos) (fOrV fa fb) := by
  obtain ⟨t, p, q⟩ := ha.ex
  obtain ⟨t', p', q'⟩ := hb.ex
  refine ⟨⟨fun W' => tOrV (t W') (t' W'), fun W' tk => pe_or (p W' tk) (p' W' tk), fun W' s Q ok h => ?_⟩⟩
  refine boolv_core q W' s Q _ (fun b env => if b = true then .ok (.v (.bl true)) env else fb env) ok h fun c env1 G1 H1 st1 ok1 h1 => ?_
  cases c with
  | false => exact q' W' _ Q ok1 h1
  | true => exact ret_same ok1 h1 (.bl true)
theorem x_not (ha : SndE X ci BS a fa) : SndE X ci BS (.UnaryOp .Not a pos) (fNotV fa) := by
  obtain ⟨t, p, q⟩ := ha.ex
  refine ⟨⟨fun W' => tNotV (t W'), fun W' tk => pe_not (p W' tk), fun W' s Q ok h => ?_⟩⟩
  exact boolv_core q W' s Q _ (fun b env => .ok (.v (.bl (!b))) env) ok h fun c env1 G1 H1 st1 ok1 h1 => ret_same ok1 h1 (.bl _)
theorem x_if (hc : SndT X ci BS c ta) (ha : SndE X ci BS a fa) (hb : SndE X ci BS b fb) : SndE X ci BS (.IfExp c a b pos) (fIf ta fa fb) := by
  obtain ⟨t, p, q⟩ := hc.ex
  obtain ⟨t1, p1, q1⟩ := ha.ex
  obtain ⟨t2, p2, q2⟩ := hb.ex
  refine ⟨⟨fun W' => tIf (t W') (t1 W') (t2 W'), fun W' tk => pe_ifExp (p W' tk) (p1 W' tk) (p2 W' tk), fun W' s Q ok h => ?_⟩⟩
  refine q W' s _ ok (h.bind.imp fun d env1 G1 H1 st1 ok1 h1 => ?_)
  have fin : ∀ {r : Res OV}, Acc X.K ci BS W' ⟨env1, s.σ, G1, H1⟩ (CE X.K ci s Q) r → Acc X.K ci BS W' ⟨env1, s.σ, G1, H1⟩ (CE X.K ci ⟨env1, s.σ, G1, H1⟩ Q) r := fun hr => hr.imp fun ov' env2 G2 H2 st2 ok2 h3 z rz nz => h3 z rz (NewOV.back st1 nz)
  cases d with
  | true => exact q1 W' _ Q ok1 (fin h1)
  | false => exact q2 W' _ Q ok1 (fin h1)
/-! a < b < c -/
theorem chain_core {r r' : R2} {g g' : W → W → Option OV} {t1 t2 t3 : WX → TE} (qa : ∀ (W' : WX) (s : Sta) (Q : VK), Ok X.K ci s → Acc X.K ci BS W' s (CE X.K ci s Q) (fa s.env) → t1 W' s.σ s.H Q)
    (qb : ∀ (W' : WX) (s : Sta) (Q : VK), Ok X.K ci s → Acc X.K ci BS W' s (CE X.K ci s Q) (fb s.env) → t2 W' s.σ s.H Q) (qc : ∀ (W' : WX) (s : Sta) (Q : VK), Ok X.K ci s → Acc X.K ci BS W' s (CE X.K ci s Q) (fc s.env) → t3 W' s.σ s.H Q)
    (qr : ∀ (W' : WX) (s : Sta) (x y : V) (wx wy : W) (ov : OV) (Q : VK), Ok X.K ci s → CurV X.K ci s x wx → CurV X.K ci s y wy → g wx wy = some ov → Acc X.K ci BS W' s (CE X.K ci s Q) (.ok ov s.env) → r x y s.H Q)
    (qr' : ∀ (W' : WX) (s : Sta) (x y : V) (wx wy : W) (ov : OV) (Q : VK), Ok X.K ci s → CurV X.K ci s x wx → CurV X.K ci s y wy → g' wx wy = some ov → Acc X.K ci BS W' s (CE X.K ci s Q) (.ok ov s.env) → r' x y s.H Q)
    (W' : WX) (s : Sta) (Q : VK) (ok : Ok X.K ci s) (h : Acc X.K ci BS W' s (CE X.K ci s Q) (fChain g g' fa fb fc s.env)) : tChain r r' (t1 W') (t2 W') (t3 W') s.σ s.H Q := by
  refine qa W' s _ ok (h.bind.imp fun ox env1 G1 H1 st1 ok1 h1 => ?_)
  intro v rep new
  refine qb W' ⟨env1, s.σ, G1, H1⟩ _ ok1 (h1.bind.imp fun oy env2 G2 H2 st2 ok2 h2 => ?_)
  intro u rep2 new2
  have rep' : RepOV X.K ci ⟨env2, s.σ, G2, H2⟩ v ox := rep.step st2
  have h2 : Acc X.K ci BS W' ⟨env2, s.σ, G2, H2⟩ (CE X.K ci s Q) (match ((getOV ox env2).bind fun wx => (getOV oy env2).bind fun wy => g wx wy) with
    | some (.v (.bl true)) => (fc env2).bind fun z env => retOV ((getOV oy env).bind fun wy => (getOV z env).bind fun wz => g' wy wz) env
    | some (.v (.bl false)) => .ok (.v (.bl false)) env2
    | _ => .bad) := h2
  cases e1 : getOV ox env2 with
  | none => rw [e1] at h2; exact h2.elim
  | some wx =>
    cases e2 : getOV oy env2 with
    | none => rw [e1, e2] at h2; exact h2.elim
    | some wy =>
      rw [e1, e2] at h2
      have h2 : Acc X.K ci BS W' ⟨env2, s.σ, G2, H2⟩ (CE X.K ci s Q) (match g wx wy with
        | some (.v (.bl true)) => (fc env2).bind fun z env => retOV ((getOV oy env).bind fun wy => (getOV z env).bind fun wz => g' wy wz) env
        | some (.v (.bl false)) => .ok (.v (.bl false)) env2
        | _ => .bad) := h2
      cases e3 : g wx wy with
      | none => rw [e3] at h2; exact h2.elim
      | some ov =>
        rw [e3] at h2
        cases ov with
        | s i => exact h2.elim
        | n w => exact h2.elim
        | v w =>
          cases w with
          | bl b =>
            refine qr W' ⟨env2, s.σ, G2, H2⟩ v u wx wy (.v (.bl b)) _ ok2 (cur_of ok2 rep' e1) (cur_of ok2 rep2 e2) e3 fun G3 H3 st3 ok3 z rz nz => ?_
            have ez : z = .bl b := by
              have rz' : RepV X.K ci G3 z (.bl b) := rz
              cases rz'; rfl
            refine ⟨b, ez, ?_⟩
            have h3 := h2.mid st3
            cases b with
            | false =>
              rw [if_neg Bool.false_ne_true]
              exact ret_same (W' := W') (s := ⟨env2, s.σ, G3, H3⟩) ok3 (h3.imp fun ov' env4 G4 H4 st4 ok4 h4 z rz nz => h4 z rz (NewOV.back ((st1.trans st2).trans st3) nz)) (.bl false)
            | true =>
              rw [if_pos rfl]
              refine qc W' ⟨env2, s.σ, G3, H3⟩ _ ok3 ((Acc.bind h3).imp fun oz env4 G4 H4 st4 ok4 h4 => ?_)
              intro q rep4 new4
              have rep5 : RepOV X.K ci ⟨env4, s.σ, G4, H4⟩ u oy := rep2.step (Step.trans st3 st4)
              have h4 : Acc X.K ci BS W' ⟨env4, s.σ, G4, H4⟩ (CE X.K ci s Q) (retOV ((getOV oy env4).bind fun wy => (getOV oz env4).bind fun wz => g' wy wz) env4) := h4
              cases f1 : getOV oy env4 with
              | none => rw [f1] at h4; exact h4.elim
              | some wy' =>
                cases f2 : getOV oz env4 with
                | none => rw [f1, f2] at h4; exact h4.elim
                | some wz =>
                  rw [f1, f2] at h4
                  have h4 : Acc X.K ci BS W' ⟨env4, s.σ, G4, H4⟩ (CE X.K ci s Q) (retOV (g' wy' wz) env4) := h4
                  cases f3 : g' wy' wz with
                  | none => rw [f3] at h4; exact h4.elim
                  | some ov' =>
                    rw [f3] at h4
                    refine qr' W' ⟨env4, s.σ, G4, H4⟩ u q wy' wz ov' Q ok4 (cur_of ok4 rep5 f1) (cur_of ok4 rep4 f2) f3 (h4.imp fun ov env5 G5 H5 st5 ok5 h5 => ?_)
                    intro z rz nz
                    exact h5 z rz (NewOV.back ((((st1.trans st2).trans st3).trans st4)) nz)
          | _ => exact h2.elim
theorem x_chain {op op' : CmpOp} {g g' : W → W → Option OV} (ho : OpS X ci BS (compareOp op) g) (ho' : OpS X ci BS (compareOp op') g') (ha : SndE X ci BS a fa) (hb : SndE X ci BS b fb) (hc : SndE X ci BS c fc)
    (hm : lastMarks [op, op'] [b, c] = false := by with_unfolding_all rfl) : SndE X ci BS (.Compare a [op, op'] [b, c] pos) (fChain g g' fa fb fc) := by
  obtain ⟨t1, p1, q1⟩ := ha.ex
  obtain ⟨t2, p2, q2⟩ := hb.ex
  obtain ⟨t3, p3, q3⟩ := hc.ex
  obtain ⟨r, pr, qr⟩ := ho
  obtain ⟨r', pr', qr'⟩ := ho'
  exact ⟨⟨fun W' => tChain r r' (t1 W') (t2 W') (t3 W'), fun W' tk => pe_chain pr pr' (p1 W' tk) (p2 W' tk) (p3 W' tk) hm, fun W' s Q ok h => chain_core q1 q2 q3 qr qr' W' s Q ok h⟩⟩
theorem t_chain {op op' : CmpOp} {g g' : W → W → Option OV} (ho : OpS X ci BS (compareOp op) g) (ho' : OpS X ci BS (compareOp op') g') (ha : SndE X ci BS a fa) (hb : SndE X ci BS b fb) (hc : SndE X ci BS c fc)
    (hm : lastMarks [op, op'] [b, c] = false := by with_unfolding_all rfl) : SndT X ci BS (.Compare a [op, op'] [b, c] pos) (fTest (fChain g g' fa fb fc)) := by
  obtain ⟨t1, p1, q1⟩ := ha.ex
  obtain ⟨t2, p2, q2⟩ := hb.ex
  obtain ⟨t3, p3, q3⟩ := hc.ex
  obtain ⟨r, pr, qr⟩ := ho
  obtain ⟨r', pr', qr'⟩ := ho'
  refine ⟨⟨fun W' => tTest (tChain r r' (t1 W') (t2 W') (t3 W')), fun W' tk => pt_chain pr pr' (p1 W' tk) (p2 W' tk) (p3 W' tk) hm, fun W' s Q ok h => ?_⟩⟩
  exact test_core (te := fun W' => tChain r r' (t1 W') (t2 W') (t3 W')) (fun W' s Q ok h => chain_core q1 q2 q3 qr qr' W' s Q ok h) W' s Q ok h
/-! ### arguments, displays, built-ins that are called -/
theorem a_nil : SndA X ci BS [] fNil := ⟨⟨fun _ => tNil, fun _ _ => pa_nil, fun W' s Q ok h => h s.G s.H Step.refl ok [] .nil⟩⟩
theorem a_cons (ha : SndE X ci BS e fa) (hr : SndA X ci BS es fr) (hs : starEach (e :: es) X.env = (false, eval e X.env) :: starEach es X.env := by rfl) : SndA X ci BS (e :: es) (fCons fa fr) := by
  obtain ⟨t, p, q⟩ := ha.ex
  obtain ⟨t', p', q'⟩ := hr.ex
  refine ⟨⟨fun W' => tCons (t W') (t' W'), fun W' tk => pa_cons (p W' tk) (p' W' tk) hs, fun W' s Q ok h => ?_⟩⟩
  refine q W' s _ ok (h.bind.imp fun ox env1 G1 H1 st1 ok1 h1 => ?_)
  intro v rep new
  refine q' W' ⟨env1, s.σ, G1, H1⟩ _ ok1 (h1.bind.imp fun os env2 G2 H2 st2 ok2 h2 => ?_)
  intro vs reps
  exact h2 G2 H2 Step.refl ok2 (v :: vs) (.cons (rep.step st2) reps)
theorem asV_of : ∀ {vs : List V} {ovs : List OV} {ws : List W} {s : Sta}, Paired (RepOV X.K ci s) vs ovs → asV ovs = some ws → RepVs X.K ci s.G vs ws
  | _, _, _, _, .nil, e => by cases e; exact .nil
  | v :: vs, ov :: ovs, ws, s, .cons r t, e => by
    cases ov with
    | v w =>
      unfold asV at e
      cases q : asV ovs with
      | none => rw [q] at e; cases e
      | some us =>
        rw [q] at e
        cases e
        exact .cons r (asV_of t q)
    | s i => cases e
    | n w => cases e
theorem sz_le {n : Nat} (h : n ≤ 16777216) : n ≤ sizeLine := by rw [sizeLine_eq]; exact h
theorem x_tup {x1} (ha : SndA X ci BS es fr) : SndE X ci BS (.Tuple es x1 pos) (fTup fr) := by
  obtain ⟨t, p, q⟩ := ha.ex
  refine ⟨⟨fun W' => tTup (t W'), fun W' tk => pe_tup (p W' tk), fun W' s Q ok h => ?_⟩⟩
  refine q W' s _ ok (h.bind.imp fun os env1 G1 H1 st1 ok1 h1 => ?_)
  intro vs reps
  dsimp only at h1
  cases e : asV os with
  | none => rw [e] at h1; exact h1.elim
  | some ws =>
    rw [e] at h1
    dsimp only at h1
    have r := asV_of reps e
    by_cases hz : ws.length ≤ 16777216
    · rw [if_pos hz] at h1
      refine ⟨sz_le (by rw [r.length]; exact hz), fun a ha => ?_⟩
      exact ret_tup (W' := W') (s := ⟨env1, s.σ, G1, H1⟩) ok1 (h1.imp fun ov' env4 G4 H4 st4 ok4 h4 z rz nz => h4 z rz (NewOV.back st1 nz)) r ha
    · rw [if_neg hz] at h1; exact h1.elim
theorem x_lst (ha : SndA X ci BS es fr) : SndE X ci BS (.List es pos) (fLst fr) := by
  obtain ⟨t, p, q⟩ := ha.ex
  refine ⟨⟨fun W' => tLst (t W'), fun W' tk => pe_lst (p W' tk), fun W' s Q ok h => ?_⟩⟩
  refine q W' s _ ok (h.bind.imp fun os env1 G1 H1 st1 ok1 h1 => ?_)
  intro vs reps
  dsimp only at h1
  cases e : asV os with
  | none => rw [e] at h1; exact h1.elim
  | some ws =>
    rw [e] at h1
    dsimp only at h1
    have r := asV_of reps e
    by_cases hz : ws.length ≤ 16777216
    · rw [if_pos hz] at h1
      refine ⟨sz_le (by rw [r.length]; exact hz), fun a ha => ?_⟩
      exact ret_lst (W' := W') (s := ⟨env1, s.σ, G1, H1⟩) ok1 (h1.imp fun ov' env4 G4 H4 st4 ok4 h4 z rz nz => h4 z rz (NewOV.back st1 nz)) r ha
    · rw [if_neg hz] at h1; exact h1.elim
theorem curs_of {s : Sta} (ok : Ok X.K ci s) : ∀ {vs : List V} {ovs : List OV} {ws : List W}, Paired (RepOV X.K ci s) vs ovs → getOVs ovs s.env = some ws → Paired (CurV X.K ci s) vs ws
  | _, _, _, .nil, e => by cases e; exact .nil
  | v :: vs, ov :: ovs, ws, .cons r t, e => by
    unfold getOVs at e
    cases q : getOV ov s.env with
    | none => rw [q] at e; cases e
    | some w =>
      rw [q] at e
      have e : ((getOVs ovs s.env).bind fun ws => some (w :: ws)) = some ws := e
      cases q2 : getOVs ovs s.env with
      | none => rw [q2] at e; cases e
      | some us =>
        rw [q2] at e
        cases e
        exact .cons (cur_of ok r q) (curs_of ok t q2)
theorem call_core {r : List V → Hp → VK → Prop} {g : List W → Option OV} {ta : WX → TA} (qa : ∀ (W' : WX) (s : Sta) (Q : List V → Hp → Prop), Ok X.K ci s → Acc X.K ci BS W' s (CA X.K ci s Q) (fr s.env) → ta W' s.σ s.H Q)
    (qr : ∀ (W' : WX) (s : Sta) (xs : List V) (ws : List W) (ov : OV) (Q : VK), Ok X.K ci s → Paired (CurV X.K ci s) xs ws → g ws = some ov → Acc X.K ci BS W' s (CE X.K ci s Q) (.ok ov s.env) → r xs s.H Q)
    (W' : WX) (s : Sta) (Q : VK) (ok : Ok X.K ci s) (h : Acc X.K ci BS W' s (CE X.K ci s Q) (fB g fr s.env)) : ta W' s.σ s.H fun vs H1 => r vs H1 Q := by
  refine qa W' s _ ok (h.bind.imp fun os env1 G1 H1 st1 ok1 h1 => ?_)
  intro vs reps
  have h1 : Acc X.K ci BS W' ⟨env1, s.σ, G1, H1⟩ (CE X.K ci s Q) (retOV ((getOVs os env1).bind g) env1) := h1
  cases e1 : getOVs os env1 with
  | none => rw [e1] at h1; exact h1.elim
  | some ws =>
    rw [e1] at h1
    have h1 : Acc X.K ci BS W' ⟨env1, s.σ, G1, H1⟩ (CE X.K ci s Q) (retOV (g ws) env1) := h1
    cases e2 : g ws with
    | none => rw [e2] at h1; exact h1.elim
    | some ov =>
      rw [e2] at h1
      refine qr W' ⟨env1, s.σ, G1, H1⟩ vs ws ov Q ok1 (curs_of ok1 reps e1) e2 (h1.imp fun ov' env4 G4 H4 st4 ok4 h4 z rz nz => h4 z rz (NewOV.back st1 nz))
theorem x_callB {id : String} {g : List W → Option OV} {x : Str} {p : Pos} (hc : CallS X ci BS (.builtin id) g) (hg : Gl X x) (hm : X.mg x = none) (hv : bootBuiltins x = some (.builtin id)) (ha : SndA X ci BS (e :: es) fr) (hn : x ≠ "__name__" := by decide) (hdb : (x == ("__debug__" : Str)) = false := by decide)
    (he : starEach (e :: es) X.env = (false, eval e X.env) :: starEach es X.env := by rfl) (hpl : (backTo pos (starEach es X.env)).any (·.1) = false := by rfl) : SndE X ci BS (.Call (.Name x p) (e :: es) [] pos) (fB g fr) := by
  obtain ⟨t, pp, q⟩ := ha.ex
  obtain ⟨r, pr, qr⟩ := hc
  exact ⟨⟨fun W' => tCB r (t W'), fun W' tk => pe_callB pr hg hm hv (pp W' tk) hn hdb he hpl, fun W' s Q ok h => call_core q qr W' s Q ok h⟩⟩
theorem x_callTy {T : String} {g : List W → Option OV} {x : Str} {p : Pos} (hc : CallS X ci BS (.type T) g) (hg : Gl X x) (hm : X.mg x = none) (hv : bootBuiltins x = some (.type T)) (ha : SndA X ci BS (e :: es) fr) (hn : x ≠ "__name__" := by decide) (hdb : (x == ("__debug__" : Str)) = false := by decide)
    (he : starEach (e :: es) X.env = (false, eval e X.env) :: starEach es X.env := by rfl) (hpl : (backTo pos (starEach es X.env)).any (·.1) = false := by rfl) : SndE X ci BS (.Call (.Name x p) (e :: es) [] pos) (fB g fr) := by
  obtain ⟨t, pp, q⟩ := ha.ex
  obtain ⟨r, pr, qr⟩ := hc
  exact ⟨⟨fun W' => tCB r (t W'), fun W' tk => pe_callTy pr hg hm hv (pp W' tk) hn hdb he hpl, fun W' s Q ok h => call_core q qr W' s Q ok h⟩⟩
end
end BV

set_option maxRecDepth 100000
set_option maxHeartbeats 4000000
/-! BV: operators and built-ins on plain data. -/
namespace BV
open PySem PySem.Spec L2

mutual
def toPy : W → Option PyData
  | .non => some .none
  | .bl b => some (.bool b)
  | .int i => some (.int i)
  | .str x => some (.str x)
  | .tup ws => (toPys ws).map .tuple
  | .lst ws => (toPys ws).map .list
  | .fz _ => none
  | .dct _ => none
  | .ins _ _ => none
  | .exc _ _ _ => none
def toPys : List W → Option (List PyData)
  | [] => some []
  | w :: ws => (toPy w).bind fun d => (toPys ws).map fun ds => d :: ds
end
section
variable {K : PySem.W.Frag} {ci : Nat → Addr} {G H : Hp}
mutual
theorem toPy_dp (e : Same G H) : ∀ {w : W} {v : V} {d : PyData}, RepV K ci G v w → toPy w = some d → Dp K H v d
  | .non, _, _, .non, q => by cases q; exact .non
  | .bl _, _, _, .bl b, q => by cases q; exact .bl b
  | .int _, _, _, .int b, q => by cases q; exact .int b
  | .str _, _, _, .str b, q => by cases q; exact .str b
  | .tup ws, _, d, .tup h r, q => by
    unfold toPy at q
    cases p : toPys ws with
    | none => rw [p] at q; cases q
    | some ds =>
      rw [p] at q
      cases q
      exact .tup (.inl (.inl (e _ _ h))) (toPys_dp e r p)
  | .lst ws, _, d, .lst h r, q => by
    unfold toPy at q
    cases p : toPys ws with
    | none => rw [p] at q; cases q
    | some ds =>
      rw [p] at q
      cases q
      exact .lst (.inl (.inl (e _ _ h))) (toPys_dp e r p)
  | .fz _, _, _, _, q => by cases q
  | .dct _, _, _, _, q => by cases q
  | .ins _ _, _, _, _, q => by cases q
  | .exc _ _ _, _, _, _, q => by cases q
theorem toPys_dp (e : Same G H) : ∀ {ws : List W} {vs : List V} {ds : List PyData}, RepVs K ci G vs ws → toPys ws = some ds → DpAll K H vs ds
  | [], _, _, .nil, q => by cases q; exact .nil
  | w :: ws, _, _, .cons h r, q => by
    unfold toPys at q
    cases p : toPy w with
    | none => rw [p] at q; cases q
    | some d =>
      rw [p] at q
      have q : (toPys ws).map (fun ds => d :: ds) = some _ := q
      cases p2 : toPys ws with
      | none => rw [p2] at q; cases q
      | some ds =>
        rw [p2] at q
        cases q
        exact .cons (toPy_dp e h p) (toPys_dp e r p2)
end
theorem cur_dp {s : Sta} (ok : Ok K ci s) {v : V} {w : W} {d : PyData} (h : CurV K ci s v w) (q : toPy w = some d) : Dp K s.H v d := by
  rcases h with h | ⟨a, rfl, h⟩
  · exact toPy_dp ok.sub h q
  · cases h with
    | @lst vs ws h r =>
      unfold toPy at q
      cases p : toPys ws with
      | none => rw [p] at q; cases q
      | some ds =>
        rw [p] at q
        cases q
        exact .lst (.inl (.inl h)) (toPys_dp ok.sub r p)
    | _ => cases q
end

/-! ### the functions -/
def gI (f : Int → Int → W) : W → W → Option OV
  | .int i, .int j => some (.v (f i j))
  | _, _ => none
def gAdd : W → W → Option OV
  | .int i, .int j => some (.v (.int (i + j)))
  | .str x, .str y => if x.length + y.length ≤ 16777216 then some (.v (.str (x ++ y))) else none
  | .tup xs, .tup ys => if xs.length + ys.length ≤ 16777216 then some (.v (.tup (xs ++ ys))) else none
  | .lst xs, .lst ys => if xs.length + ys.length ≤ 16777216 then some (.n (.lst (xs ++ ys))) else none
  | _, _ => none
def gSub : W → W → Option OV := gI fun i j => .int (i - j)
def mulOk (i j : Int) : Bool := decide (-18446744073709551616 < i ∧ i < 18446744073709551616) || decide (-18446744073709551616 < j ∧ j < 18446744073709551616)
def gMul : W → W → Option OV
  | .int i, .int j => if mulOk i j = true then some (.v (.int (i * j))) else none
  | .tup xs, .int k => if 0 ≤ k ∧ k * xs.length ≤ 16777216 ∧ k < 16777217 then some (.v (.tup (List.replicate k.toNat xs).flatten)) else none
  | .lst xs, .int k => if 0 ≤ k ∧ k * xs.length ≤ 16777216 ∧ k < 9223372036854775808 then some (.n (.lst (List.replicate k.toNat xs).flatten)) else none
  | _, _ => none
def gMod : W → W → Option OV
  | .int i, .int j => if 0 < j then some (.v (.int (i % j))) else none
  | _, _ => none
def gDiv : W → W → Option OV
  | .int i, .int j => if 0 < j ∧ j < 340282366920938463463374607431768211456 then some (.v (.int (i / j))) else none
  | _, _ => none
def gPow : W → W → Option OV
  | .int i, .int j => if 0 ≤ j ∧ j ≤ 1000000 ∧ i.natAbs < 18446744073709551616 then some (.v (.int (i ^ j.toNat))) else none
  | _, _ => none
def gLt : W → W → Option OV := gI fun i j => .bl (decide (i < j))
def gLe : W → W → Option OV := gI fun i j => .bl (decide (i ≤ j))
def gGt : W → W → Option OV := gI fun i j => .bl (decide (j < i))
def gGe : W → W → Option OV := gI fun i j => .bl (decide (j ≤ i))
def pyEq (d e : PyData) : Option Bool := if SeqAt.shaped d = true ∧ SeqAt.shaped e = true then some (PyData.eqv d e) else none
def wEq (x y : W) : Option Bool := (toPy x).bind fun d => (toPy y).bind fun e => pyEq d e
def gEq (x y : W) : Option OV := (wEq x y).map fun b => .v (.bl b)
def gNe (x y : W) : Option OV := (wEq x y).map fun b => .v (.bl (!b))
def isNon : W → Bool
  | .non => true
  | _ => false
def isBl (b : Bool) : W → Bool
  | .bl c => c == b
  | _ => false
/-- x is None, x is True, x is False -/
def gIs (x y : W) : Option OV := match y with
  | .non => some (.v (.bl (isNon x)))
  | .bl b => some (.v (.bl (isBl b x)))
  | _ => none
def gIsNot (x y : W) : Option OV := match y with
  | .non => some (.v (.bl (!isNon x)))
  | .bl b => some (.v (.bl (!isBl b x)))
  | _ => none
/-- xs[i], t[i], s[i] -/
def gIx : W → W → Option OV
  | .lst xs, .int i => (atI xs i).map .v
  | .fz xs, .int i => (atI xs i).map .v
  | .tup xs, .int i => (atI xs i).map .v
  | .str z, .int i => if z.length ≤ 16777216 then (atI z.cps.toList i).map fun c => .v (.str ⟨#[c]⟩) else none
  | _, _ => none
def gLen : List W → Option OV
  | [.lst xs] => some (.v (.int xs.length))
  | [.fz xs] => some (.v (.int xs.length))
  | [.tup xs] => some (.v (.int xs.length))
  | [.str z] => if z.length ≤ 16777216 then some (.v (.int z.length)) else none
  | _ => none
def gInt : List W → Option OV
  | [.int i] => some (.v (.int i))
  | [.bl b] => some (.v (.int (if b then 1 else 0)))
  | _ => none
def gList : List W → Option OV
  | [.lst xs] => some (.n (.lst xs))
  | [.fz xs] => some (.n (.lst xs))
  | [.tup xs] => some (.n (.lst xs))
  | _ => none
def gTuple : List W → Option OV
  | [.lst xs] => some (.v (.tup xs))
  | [.fz xs] => some (.v (.tup xs))
  | [.tup xs] => some (.v (.tup xs))
  | _ => none
def bools : List W → Option (List Bool)
  | [] => some []
  | .bl b :: ws => (bools ws).map fun bs => b :: bs
  | _ :: _ => none
def gAll : List W → Option OV
  | [.lst xs] => (bools xs).map fun bs => .v (.bl (bs.all id))
  | _ => none
def gAny : List W → Option OV
  | [.lst xs] => (bools xs).map fun bs => .v (.bl (bs.any id))
  | _ => none
def gMin2 : List W → Option OV
  | [.int i, .int j] => some (.v (.int (if j < i then j else i)))
  | _ => none
def gMax2 : List W → Option OV
  | [.int i, .int j] => some (.v (.int (if j > i then j else i)))
  | _ => none
def gAbs : List W → Option OV
  | [.int i] => some (.v (.int (if i < 0 then -i else i)))
  | _ => none

section
variable {X : Cx} {ci : Nat → Addr} {BS : List Nat}
theorem opS_I {f : Value → Value → Sem Value} {k : Int → Int → V} {g : Int → Int → W} (ho : OpR X f (rI0 k)) (hk : ∀ {K : PySem.W.Frag} {G : Hp} i j, RepV K ci G (k i j) (g i j)) : OpS X ci BS f (gI g) := by
  refine ⟨_, ho, fun W' s x y wx wy ov Q ok cx cy e h => ?_⟩
  cases wx with
  | int i =>
    cases wy with
    | int j =>
      cases e
      exact ⟨i, j, cx.int, cy.int, ret_same ok h (hk i j)⟩
    | _ => cases e
  | _ => cases e
theorem o_sub : OpS X ci BS (binaryOp .Sub) gSub := opS_I op_sub fun _ _ => .int _
theorem o_lt : OpS X ci BS (compareOp .Lt) gLt := opS_I op_lt fun _ _ => .bl _
theorem o_le : OpS X ci BS (compareOp .LtE) gLe := opS_I op_le fun _ _ => .bl _
theorem o_gt : OpS X ci BS (compareOp .Gt) gGt := opS_I op_gt fun _ _ => .bl _
theorem o_ge : OpS X ci BS (compareOp .GtE) gGe := opS_I op_ge fun _ _ => .bl _
theorem o_mod : OpS X ci BS (binaryOp .Mod) gMod := by
  refine ⟨_, op_mod, fun W' s x y wx wy ov Q ok cx cy e h => ?_⟩
  cases wx with
  | int i =>
    cases wy with
    | int j =>
      unfold gMod at e
      by_cases c : 0 < j
      · dsimp only at e
        rw [if_pos c] at e
        cases e
        exact ⟨i, j, cx.int, cy.int, c, ret_same ok h (.int _)⟩
      · dsimp only at e
        rw [if_neg c] at e
        cases e
    | _ => cases e
  | _ => cases e
theorem op_fdivW : OpR X (binaryOp .FloorDiv) (rI (fun _ j => 0 < j ∧ j < 340282366920938463463374607431768211456) fun i j => .int (i / j)) := opI fun i j _ _ _ _ _ hc q => by
  have h1 : (0 : Int) < j := hc.1
  have h2 : j < 340282366920938463463374607431768211456 := hc.2
  refine PyProof.Rows.floordiv_int (by omega) (by rw [Int.fdiv_eq_ediv_of_nonneg i (by omega)]; exact q) (.inl (PyProof.noPylong_of_log2 ?_))
  have h3 : j.natAbs.log2 < 128 := (Nat.log2_lt (by omega)).mpr (by omega)
  omega
theorem o_div : OpS X ci BS (binaryOp .FloorDiv) gDiv := by
  refine ⟨_, op_fdivW, fun W' s x y wx wy ov Q ok cx cy e h => ?_⟩
  cases wx with
  | int i =>
    cases wy with
    | int j =>
      unfold gDiv at e
      by_cases c : 0 < j ∧ j < 340282366920938463463374607431768211456
      · dsimp only at e
        rw [if_pos c] at e
        cases e
        exact ⟨i, j, cx.int, cy.int, c, ret_same ok h (.int _)⟩
      · dsimp only at e
        rw [if_neg c] at e
        cases e
    | _ => cases e
  | _ => cases e
theorem o_pow : OpS X ci BS (binaryOp .Pow) gPow := by
  refine ⟨_, op_pow, fun W' s x y wx wy ov Q ok cx cy e h => ?_⟩
  cases wx with
  | int i =>
    cases wy with
    | int j =>
      unfold gPow at e
      by_cases c : 0 ≤ j ∧ j ≤ 1000000 ∧ i.natAbs < 18446744073709551616
      · dsimp only at e
        rw [if_pos c] at e
        cases e
        exact ⟨i, j, cx.int, cy.int, c, ret_same ok h (.int _)⟩
      · dsimp only at e
        rw [if_neg c] at e
        cases e
    | _ => cases e
  | _ => cases e
theorem reps_nil {K : PySem.W.Frag} {G : Hp} {ws : List W} (r : RepVs K ci G [] ws) : ws = [] := by cases r; rfl
theorem o_add : OpS X ci BS (binaryOp .Add) gAdd := by
  refine ⟨_, op_add.or (op_add_str.or (op_catA.or op_cat)), fun W' s x y wx wy ov Q ok cx cy e h => ?_⟩
  cases wx with
  | int i =>
    cases wy with
    | int j =>
      cases e
      exact .inl ⟨i, j, cx.int, cy.int, ret_same ok h (.int _)⟩
    | _ => cases e
  | str a =>
    cases wy with
    | str b =>
      unfold gAdd at e
      dsimp only at e
      by_cases c : a.length + b.length ≤ 16777216
      · rw [if_pos c] at e
        cases e
        exact .inr (.inl ⟨a, b, cx.str, cy.str, sz_le c, ret_same ok h (.str _)⟩)
      · rw [if_neg c] at e
        cases e
    | _ => cases e
  | tup xs =>
    cases wy with
    | tup ys =>
      unfold gAdd at e
      dsimp only at e
      by_cases c : xs.length + ys.length ≤ 16777216
      · rw [if_pos c] at e
        cases e
        obtain ⟨a, vs, rfl, h1, r1⟩ := cx.tup ok
        obtain ⟨b, us, rfl, h2, r2⟩ := cy.tup ok
        have l1 := r1.length
        have l2 := r2.length
        refine .inr (.inr (.inl ⟨a, b, vs, us, rfl, rfl, h1, h2, sz_le (by rw [l1, l2]; exact c), fun z => ?_, fun _ z => ?_, fun _ _ p hp => ret_tup ok h (r1.append r2) hp⟩))
        · subst z
          have z1 := reps_nil r1
          subst z1
          rcases cy with cy | ⟨_, _, cy⟩
          · exact ret_same ok h cy
          · cases cy
        · subst z
          have z1 := reps_nil r2
          subst z1
          rw [List.append_nil] at h
          rcases cx with cx | ⟨_, _, cx⟩
          · exact ret_same ok h cx
          · cases cx
      · rw [if_neg c] at e
        cases e
    | _ => cases e
  | lst xs =>
    cases wy with
    | lst ys =>
      unfold gAdd at e
      dsimp only at e
      by_cases c : xs.length + ys.length ≤ 16777216
      · rw [if_pos c] at e
        cases e
        obtain ⟨a, vs, rfl, h1, r1⟩ := cx.lst ok
        obtain ⟨b, us, rfl, h2, r2⟩ := cy.lst ok
        have l1 := r1.length
        have l2 := r2.length
        exact .inr (.inr (.inr ⟨a, b, vs, us, rfl, rfl, h1, h2, sz_le (by rw [l1, l2]; exact c), fun p hp => ret_lst ok h (r1.append r2) hp⟩))
      · rw [if_neg c] at e
        cases e
    | _ => cases e
  | _ => cases e
theorem o_eq (hu : X.A.units + 64 < cLine) : OpS X ci BS (compareOp .Eq) gEq := by
  refine ⟨_, op_eqD hu, fun W' s x y wx wy ov Q ok cx cy e h => ?_⟩
  unfold gEq wEq pyEq at e
  cases p : toPy wx with
  | none => rw [p] at e; cases e
  | some d =>
    cases q : toPy wy with
    | none => rw [p, q] at e; cases e
    | some d' =>
      rw [p, q] at e
      simp only [Option.bind_some] at e
      by_cases c : SeqAt.shaped d = true ∧ SeqAt.shaped d' = true
      · rw [if_pos c] at e
        cases e
        exact ⟨d, d', cur_dp ok cx p, cur_dp ok cy q, c.1, c.2, ret_same ok h (.bl _)⟩
      · rw [if_neg c] at e
        cases e
theorem o_ne (hu : X.A.units + 64 < cLine) : OpS X ci BS (compareOp .NotEq) gNe := by
  refine ⟨_, op_neD hu, fun W' s x y wx wy ov Q ok cx cy e h => ?_⟩
  unfold gNe wEq pyEq at e
  cases p : toPy wx with
  | none => rw [p] at e; cases e
  | some d =>
    cases q : toPy wy with
    | none => rw [p, q] at e; cases e
    | some d' =>
      rw [p, q] at e
      simp only [Option.bind_some] at e
      by_cases c : SeqAt.shaped d = true ∧ SeqAt.shaped d' = true
      · rw [if_pos c] at e
        cases e
        exact ⟨d, d', cur_dp ok cx p, cur_dp ok cy q, c.1, c.2, ret_same ok h (.bl _)⟩
      · rw [if_neg c] at e
        cases e
/-- x is True | False | None, whatever x is (no class, no built-in) -/
def rIsC (neg : Bool) : R2 := fun x y H Q => (∀ n, x ≠ .ty n) ∧ ((y = .non ∧ Q (.bl (neg ^^ decide (x = .non))) H) ∨ ∃ b, y = .bl b ∧ Q (.bl (neg ^^ decide (x = .bl b))) H)
theorem beq_non {x : V} {v : Value} (r : RelV x v) : (v == Value.none) = decide (x = .non) := r.none_iff
theorem beq_bool {x : V} {v : Value} {b : Bool} (r : RelV x v) (hn : ∀ n, x ≠ .ty n) : (v == Value.bool b) = decide (x = .bl b) := by
  cases x with
  | non => cases r; rfl
  | bl c => cases r; cases b <;> cases c <;> rfl
  | int _ => obtain ⟨t, rfl⟩ := r; rfl
  | str _ => obtain ⟨t, rfl⟩ := r; rfl
  | byt _ => obtain ⟨t, rfl⟩ := r; rfl
  | flt _ => obtain ⟨t, rfl⟩ := r; rfl
  | ref _ => cases r; rfl
  | ty n => exact absurd rfl (hn n)
theorem op_isC : OpR X (compareOp .Is) (rIsC false) := by
  intro pins s σ H x y v u Q I rx ry h
  obtain ⟨hn, ⟨rfl, q⟩ | ⟨b, rfl, q⟩⟩ := h
  · cases ry
    refine wpAny_is_plain ?_ ⟨.bl _, H, I, by rw [beq_non rx]; rfl, by rw [Bool.false_xor] at q; exact q⟩
    cases x with
    | non => cases rx; rfl
    | bl c => cases rx; rfl
    | int _ => obtain ⟨t, rfl⟩ := rx; rfl
    | str _ => obtain ⟨t, rfl⟩ := rx; rfl
    | byt _ => obtain ⟨t, rfl⟩ := rx; rfl
    | flt _ => obtain ⟨t, rfl⟩ := rx; rfl
    | ref _ => cases rx; rfl
    | ty n => exact absurd rfl (hn n)
  · cases ry
    refine wpAny_is_plain ?_ ⟨.bl _, H, I, by rw [beq_bool rx hn]; rfl, by rw [Bool.false_xor] at q; exact q⟩
    cases x with
    | non => cases rx; rfl
    | bl c => cases rx; rfl
    | int _ => obtain ⟨t, rfl⟩ := rx; rfl
    | str _ => obtain ⟨t, rfl⟩ := rx; rfl
    | byt _ => obtain ⟨t, rfl⟩ := rx; rfl
    | flt _ => obtain ⟨t, rfl⟩ := rx; rfl
    | ref _ => cases rx; rfl
    | ty n => exact absurd rfl (hn n)
theorem op_isNotC : OpR X (compareOp .IsNot) (rIsC true) := by
  intro pins s σ H x y v u Q I rx ry h
  obtain ⟨hn, ⟨rfl, q⟩ | ⟨b, rfl, q⟩⟩ := h
  · cases ry
    refine wpAny_isNot_plain ?_ ⟨.bl _, H, I, by rw [beq_non rx]; rfl, by rw [Bool.true_xor] at q; exact q⟩
    cases x with
    | non => cases rx; rfl
    | bl c => cases rx; rfl
    | int _ => obtain ⟨t, rfl⟩ := rx; rfl
    | str _ => obtain ⟨t, rfl⟩ := rx; rfl
    | byt _ => obtain ⟨t, rfl⟩ := rx; rfl
    | flt _ => obtain ⟨t, rfl⟩ := rx; rfl
    | ref _ => cases rx; rfl
    | ty n => exact absurd rfl (hn n)
  · cases ry
    refine wpAny_isNot_plain ?_ ⟨.bl _, H, I, by rw [beq_bool rx hn]; rfl, by rw [Bool.true_xor] at q; exact q⟩
    cases x with
    | non => cases rx; rfl
    | bl c => cases rx; rfl
    | int _ => obtain ⟨t, rfl⟩ := rx; rfl
    | str _ => obtain ⟨t, rfl⟩ := rx; rfl
    | byt _ => obtain ⟨t, rfl⟩ := rx; rfl
    | flt _ => obtain ⟨t, rfl⟩ := rx; rfl
    | ref _ => cases rx; rfl
    | ty n => exact absurd rfl (hn n)
theorem cur_noty {s : Sta} {x : V} {w : W} (c : CurV X.K ci s x w) : ∀ n, x ≠ .ty n := fun n z => by
  subst z
  rcases c with c | ⟨a, e, _⟩
  · cases c
  · cases e
theorem cur_isnon {s : Sta} {x : V} {w : W} (c : CurV X.K ci s x w) : decide (x = .non) = isNon w := by
  rcases c with c | ⟨a, rfl, c⟩
  · cases c <;> simp [isNon]
  · cases c <;> simp [isNon]
theorem cur_isbl {s : Sta} {x : V} {w : W} {b : Bool} (c : CurV X.K ci s x w) : decide (x = .bl b) = isBl b w := by
  rcases c with c | ⟨a, rfl, c⟩
  · cases c <;> first
      | (rename_i k; cases k <;> cases b <;> rfl)
      | simp [isBl]
  · cases c <;> simp [isBl]
theorem o_is : OpS X ci BS (compareOp .Is) gIs := by
  refine ⟨_, op_isC, fun W' s x y wx wy ov Q ok cx cy e h => ⟨cur_noty cx, ?_⟩⟩
  unfold gIs at e
  cases wy with
  | non =>
    cases e
    refine .inl ⟨cy.non, ?_⟩
    rw [Bool.false_xor, cur_isnon cx]
    exact ret_same ok h (.bl _)
  | bl b =>
    cases e
    refine .inr ⟨b, cy.bl, ?_⟩
    rw [Bool.false_xor, cur_isbl cx]
    exact ret_same ok h (.bl _)
  | _ => cases e
theorem o_isNot : OpS X ci BS (compareOp .IsNot) gIsNot := by
  refine ⟨_, op_isNotC, fun W' s x y wx wy ov Q ok cx cy e h => ⟨cur_noty cx, ?_⟩⟩
  unfold gIsNot at e
  cases wy with
  | non =>
    cases e
    refine .inl ⟨cy.non, ?_⟩
    rw [Bool.true_xor, cur_isnon cx]
    exact ret_same ok h (.bl _)
  | bl b =>
    cases e
    refine .inr ⟨b, cy.bl, ?_⟩
    rw [Bool.true_xor, cur_isbl cx]
    exact ret_same ok h (.bl _)
  | _ => cases e
end
end BV

set_option maxRecDepth 100000
set_option maxHeartbeats 4000000
/-! BV: tuple * int, subscripts, slices, built-ins. -/
namespace L2
open PySem PySem.Spec PyProof.Rows
/-- tuple * int: itself -/
theorem tuple_mulS (l : Addr) (items : Array Value) (n : Nat) (dd : Option Addr) (sl : Array (Option Value)) (x : Int) (u : Tok) (c0 : (decide (x < -(2 ^ 63)) || decide (x ≥ 2 ^ 63)) = false) (c1 : (items.isEmpty || x == 1) = true) :
    Meets (Builtin.«tuple.__mul__» ⟨[.ref l, .int x u], []⟩) (fun _ R s => s.heap.get? l = some { cls := .type "tuple", dict := dd, data := .seq items n, slots := sl } ∧ R (.ok (.ret (Value.ref l))) s) :=
  .of_wp fun prog w A R s h => by
    obtain ⟨hp, g, d, tk, os⟩ := s
    obtain ⟨hl, h⟩ := h
    have f1 := AutoSeq1.idx_int
    wp_walk using wpAny_loadPart' hl
    repeat (first
      | (refine wpAny_ite_false (decide_eq_false (by rw [c0]; exact Bool.false_ne_true)) ?_; wp_walk using wpAny_loadPart' hl)
      | (refine wpAny_ite_true (decide_eq_true c1) ?_; wp_walk using wpAny_loadPart' hl))
    exact ⟨_, rfl, h⟩
/-- tuple * int: nothing -/
theorem tuple_mul0 (l : Addr) (items : Array Value) (n : Nat) (dd : Option Addr) (sl : Array (Option Value)) (x : Int) (u : Tok) (c0 : (decide (x < -(2 ^ 63)) || decide (x ≥ 2 ^ 63)) = false) (c1 : (items.isEmpty || x == 1) = false) (c2 : (decide (x ≤ 0) || items.isEmpty) = true) :
    Meets (Builtin.«tuple.__mul__» ⟨[.ref l, .int x u], []⟩) (fun _ R s => s.heap.get? l = some { cls := .type "tuple", dict := dd, data := .seq items n, slots := sl } ∧
      R (.ok (.ret (Value.ref s.heap.objs.size))) { s with heap := s.heap.push { cls := Value.type "tuple", data := Data.seq #[] }, toks := s.toks }) :=
  .of_wp fun prog w A R s h => by
    obtain ⟨hp, g, d, tk, os⟩ := s
    obtain ⟨hl, h⟩ := h
    have f1 := AutoSeq1.idx_int
    wp_walk using wpAny_loadPart' hl
    repeat (first
      | (refine wpAny_ite_false (decide_eq_false (by rw [c0]; exact Bool.false_ne_true)) ?_; wp_walk using wpAny_loadPart' hl)
      | (refine wpAny_ite_false (decide_eq_false (by rw [c1]; exact Bool.false_ne_true)) ?_; wp_walk using wpAny_loadPart' hl)
      | (refine wpAny_ite_true (decide_eq_true c2) ?_; wp_walk using wpAny_loadPart' hl))
    exact ⟨_, rfl, h⟩
def rRepA (K : PySem.W.Frag) : R2 := fun x y H Q => ∃ l k xs, x = .ref l ∧ y = .int k ∧ SqT K H l xs ∧ 0 ≤ k ∧ k * xs.length ≤ 16777216 ∧ k < 16777217 ∧ ((xs = [] ∨ k = 1) → Q (.ref l) H) ∧ (xs ≠ [] → k ≠ 1 → ∀ p, H p = none → Q (.ref p) (upd H p (.tup (List.replicate k.toNat xs).flatten)))
theorem op_repA {X : Cx} : OpR X (binaryOp .Mult) (rRepA X.K) := by
  intro pins s σ H x y v u Q I rx ry h
  obtain ⟨l, k, xs, rfl, rfl, hT, h1, hz, h2, q1, q2⟩ := h
  cases rx
  obtain ⟨t, rfl⟩ := ry
  obtain ⟨its, r, ⟨⟨cls, dd, data, sl⟩, ho, hc, n, hd⟩, hs⟩ := I.tuple hT
  simp only at hc hd
  subst hc hd
  have hle : its.length = xs.length := r.length.symm
  have hie : its.toArray.isEmpty = xs.isEmpty := by
    cases its with
    | nil => cases r; rfl
    | cons a b => cases r; rfl
  have c0 : (decide (k < -(2 ^ 63)) || decide (k ≥ 2 ^ 63)) = false := by
    rw [decide_eq_false (by omega), decide_eq_false (by omega)] <;> rfl
  have hsz0 : its.toArray.size = xs.length := by rw [List.size_toArray, hle]
  by_cases hs1 : xs = [] ∨ k = 1
  · have c1 : (its.toArray.isEmpty || k == 1) = true := by
      rw [hie]
      rcases hs1 with z | z
      · subst z; rfl
      · subst z
        rw [Bool.or_eq_true]
        exact .inr rfl
    refine wpAny_binaryOp_repeat_ref (T := "tuple") (U := "int") (by decide) ⟨_, ho, rfl⟩ (fun s' => typeIs_int s' k t) noFill_tuple_mul F.fills_int_mul F.slot_int_rmul repeat_tuple F.slot_int_index.lookup
      (call_meets F.slot_int_rmul (typeIs_int s k t) F.entry_int_rmul (F.args_int_rmul_2 _ _) (int_rmul_tuple k t l its.toArray n dd sl)
        ⟨ho, rfl, ⟨_, ho, rfl⟩, call_meets F.slot_tuple_mul ⟨_, ho, rfl⟩ F.entry_tuple_mul (F.args_tuple_mul_2 _ _) (tuple_mulS l its.toArray n dd sl k t c0 c1) ⟨ho, ?_⟩⟩)
    exact ⟨.ref l, H, I, rfl, q1 hs1⟩
  · have hne : xs ≠ [] := fun z => hs1 (.inl z)
    have hk1 : k ≠ 1 := fun z => hs1 (.inr z)
    have hi : its.toArray.isEmpty = false := by
      rw [hie]
      cases xs with
      | nil => exact absurd rfl hne
      | cons a b => rfl
    have c1 : (its.toArray.isEmpty || k == 1) = false := by
      rw [hi, Bool.false_or]
      exact beq_eq_false_iff_ne.mpr hk1
    have fin : ∀ (h' : Heap) (its' : List Value), h' = s.heap.push { cls := .type "tuple", data := .seq its'.toArray } → Vals (List.replicate k.toNat xs).flatten its' → EP X pins σ Q (.ref s.heap.objs.size) { s with heap := h' } := fun h' its' e rv => by
      subst e
      refine ⟨.ref s.heap.objs.size, _, I.laid (t' := s.toks) (o := .tup (List.replicate k.toNat xs).flatten) (fun b ob q => Heap.get?_push_of_some _ q) (Nat.le_refl _) ?_, rfl, q2 hne hk1 _ (I.hok.fresh (Nat.le_refl _))⟩
      refine ⟨?_, _, rv, IsTup.new _ _⟩
      rw [PyProof.Rows.lm_len_rep_flat, sizeLine_eq]
      have a1 : ((k.toNat * xs.length : Nat) : Int) ≤ 16777216 := by
        rw [Int.natCast_mul, Int.toNat_of_nonneg h1]
        exact hz
      omega
    by_cases hk0 : k ≤ 0
    · have c2 : (decide (k ≤ 0) || its.toArray.isEmpty) = true := by
        rw [decide_eq_true hk0] <;> rfl
      refine wpAny_binaryOp_repeat_ref (T := "tuple") (U := "int") (by decide) ⟨_, ho, rfl⟩ (fun s' => typeIs_int s' k t) noFill_tuple_mul F.fills_int_mul F.slot_int_rmul repeat_tuple F.slot_int_index.lookup
        (call_meets F.slot_int_rmul (typeIs_int s k t) F.entry_int_rmul (F.args_int_rmul_2 _ _) (int_rmul_tuple k t l its.toArray n dd sl)
          ⟨ho, rfl, ⟨_, ho, rfl⟩, call_meets F.slot_tuple_mul ⟨_, ho, rfl⟩ F.entry_tuple_mul (F.args_tuple_mul_2 _ _) (tuple_mul0 l its.toArray n dd sl k t c0 c1 c2) ⟨ho, ?_⟩⟩)
      have e0 : k.toNat = 0 := by omega
      exact fin _ [] rfl (by rw [e0]; exact .nil)
    · have c2 : (decide (k ≤ 0) || its.toArray.isEmpty) = false := by
        rw [hi, Bool.or_false]
        exact decide_eq_false (by omega)
      have hm : ((its.toArray.size : Nat) : Int) * k ≤ 16777216 := by
        rw [hsz0, Int.mul_comm]
        exact hz
      have flen : (List.replicate k.toNat its).flatten.length ≤ sizeLine := by
        rw [PyProof.Rows.lm_len_rep_flat, hle, sizeLine_eq]
        have a1 : ((k.toNat * xs.length : Nat) : Int) ≤ 16777216 := by
          rw [Int.natCast_mul, Int.toNat_of_nonneg h1]
          exact hz
        omega
      have c4 : Builtin.Tuple.tupleTooMany (((its.toArray.size : Nat) : Int) * k) = false := by
        unfold Builtin.Tuple.tupleTooMany
        rw [sizeLine_eq]
        exact decide_eq_false (by omega)
      refine wpAny_binaryOp_repeat_ref (T := "tuple") (U := "int") (by decide) ⟨_, ho, rfl⟩ (fun s' => typeIs_int s' k t) noFill_tuple_mul F.fills_int_mul F.slot_int_rmul repeat_tuple F.slot_int_index.lookup
        (call_meets F.slot_int_rmul (typeIs_int s k t) F.entry_int_rmul (F.args_int_rmul_2 _ _) (int_rmul_tuple k t l its.toArray n dd sl)
          ⟨ho, rfl, ⟨_, ho, rfl⟩, call_meets F.slot_tuple_mul ⟨_, ho, rfl⟩ F.entry_tuple_mul (F.args_tuple_mul_2 _ _) (tuple_mulW l its.toArray n dd sl k t c0 c1 c2 (by omega) c4 (by rw [size_rep, List.size_toArray]; exact flen)) ⟨ho, ?_⟩⟩)
      rw [size_rep]
      exact fin _ _ rfl (r.rep k.toNat)
end L2
namespace BV
open PySem PySem.Spec L2
section
variable {K : PySem.W.Frag} {ci : Nat → Addr} {G : Hp}
theorem reps_rep {vs : List V} {ws : List W} (r : RepVs K ci G vs ws) : ∀ n : Nat, RepVs K ci G (List.replicate n vs).flatten (List.replicate n ws).flatten
  | 0 => .nil
  | n + 1 => by
    rw [List.replicate_succ, List.replicate_succ, List.flatten_cons, List.flatten_cons]
    exact r.append (reps_rep r n)
end
section
variable {X : Cx} {ci : Nat → Addr} {BS : List Nat}
theorem mulOk_is {i j : Int} (h : mulOk i j = true) : CMul i j := by
  unfold mulOk at h
  rw [Bool.or_eq_true, decide_eq_true_eq, decide_eq_true_eq] at h
  exact h
theorem o_mul : OpS X ci BS (binaryOp .Mult) gMul := by
  refine ⟨_, op_mul.or (op_repA.or op_rep), fun W' s x y wx wy ov Q ok cx cy e h => ?_⟩
  cases wx with
  | int i =>
    cases wy with
    | int j =>
      unfold gMul at e
      dsimp only at e
      by_cases c : mulOk i j = true
      · rw [if_pos c] at e
        cases e
        exact .inl ⟨i, j, cx.int, cy.int, mulOk_is c, ret_same ok h (.int _)⟩
      · rw [if_neg c] at e
        cases e
    | _ => cases e
  | tup xs =>
    cases wy with
    | int k =>
      unfold gMul at e
      dsimp only at e
      by_cases c : 0 ≤ k ∧ k * xs.length ≤ 16777216 ∧ k < 16777217
      · rw [if_pos c] at e
        cases e
        obtain ⟨a, vs, rfl, h1, r1⟩ := cx.tup ok
        have l1 := r1.length
        refine .inr (.inl ⟨a, k, vs, rfl, cy.int, h1, c.1, by rw [l1]; exact c.2.1, c.2.2, fun z => ?_, fun _ _ p hp => ret_tup ok h (reps_rep r1 _) hp⟩)
        have e1 : (List.replicate k.toNat xs).flatten = xs := by
          rcases z with z | z
          · subst z
            have z1 := reps_nil r1
            subst z1
            simp
          · subst z
            simp
        rw [e1] at h
        rcases cx with cx | ⟨_, _, cx⟩
        · exact ret_same ok h cx
        · cases cx
      · rw [if_neg c] at e
        cases e
    | _ => cases e
  | lst xs =>
    cases wy with
    | int k =>
      unfold gMul at e
      dsimp only at e
      by_cases c : 0 ≤ k ∧ k * xs.length ≤ 16777216 ∧ k < 9223372036854775808
      · rw [if_pos c] at e
        cases e
        obtain ⟨a, vs, rfl, h1, r1⟩ := cx.lst ok
        have l1 := r1.length
        refine .inr (.inr ⟨a, k, vs, rfl, cy.int, h1, by omega, c.2.2, ?_, fun p hp => ret_lst ok h (reps_rep r1 _) hp⟩)
        rw [sizeLine_eq, l1]
        have a1 : ((xs.length * k.toNat : Nat) : Int) ≤ 16777216 := by
          rw [Int.natCast_mul, Int.toNat_of_nonneg c.1, Int.mul_comm]
          exact c.2.1
        omega
      · rw [if_neg c] at e
        cases e
    | _ => cases e
  | _ => cases e
/-! ### subscripts -/
def IxS (X : Cx) (ci : Nat → Addr) (BS : List Nat) (g : W → W → Option OV) : Prop := ∃ r : R2, IxR X r ∧ ∀ (W' : WX) (s : Sta) (x y : V) (wx wy : W) (ov : OV) (Q : VK),
  Ok X.K ci s → CurV X.K ci s x wx → CurV X.K ci s y wy → g wx wy = some ov → Acc X.K ci BS W' s (CE X.K ci s Q) (.ok ov s.env) → r x y s.H Q
theorem atI_reps {K : PySem.W.Frag} {G : Hp} {vs : List V} {ws : List W} {i : Int} {w : W} (r : RepVs K ci G vs ws) (h : atI ws i = some w) : ∃ v, atI vs i = some v ∧ RepV K ci G v w := by
  unfold atI at h ⊢
  rw [r.length]
  cases e : ixN ws.length i with
  | none => rw [e] at h; cases h
  | some j =>
    rw [e] at h
    exact r.get' h
theorem ix_all : IxS X ci BS gIx := by
  refine ⟨_, ix_seq, fun W' s x y wx wy ov Q ok cx cy e h => ?_⟩
  cases wx with
  | lst xs =>
    cases wy with
    | int i =>
      unfold gIx at e
      dsimp only at e
      cases q : atI xs i with
      | none => rw [q] at e; cases e
      | some w =>
        rw [q] at e
        cases e
        obtain ⟨a, vs, rfl, h1, r1⟩ := cx.lst ok
        obtain ⟨v, q1, q2⟩ := atI_reps r1 q
        exact .inl ⟨a, vs, i, v, rfl, cy.int, .inl (.inl h1), q1, ret_same ok h q2⟩
    | _ => cases e
  | fz xs =>
    cases wy with
    | int i =>
      unfold gIx at e
      dsimp only at e
      cases q : atI xs i with
      | none => rw [q] at e; cases e
      | some w =>
        rw [q] at e
        cases e
        obtain ⟨a, vs, rfl, h1, r1⟩ := cx.fz ok
        obtain ⟨v, q1, q2⟩ := atI_reps r1 q
        exact .inl ⟨a, vs, i, v, rfl, cy.int, h1, q1, ret_same ok h q2⟩
    | _ => cases e
  | tup xs =>
    cases wy with
    | int i =>
      unfold gIx at e
      dsimp only at e
      cases q : atI xs i with
      | none => rw [q] at e; cases e
      | some w =>
        rw [q] at e
        cases e
        obtain ⟨a, vs, rfl, h1, r1⟩ := cx.tup ok
        obtain ⟨v, q1, q2⟩ := atI_reps r1 q
        exact .inr (.inl ⟨a, vs, i, v, rfl, cy.int, h1, q1, ret_same ok h q2⟩)
    | _ => cases e
  | str z =>
    cases wy with
    | int i =>
      unfold gIx at e
      dsimp only at e
      by_cases c : z.length ≤ 16777216
      · rw [if_pos c] at e
        cases q : atI z.cps.toList i with
        | none => rw [q] at e; cases e
        | some w =>
          rw [q] at e
          cases e
          exact .inr (.inr ⟨z, i, w, cx.str, cy.int, sz_le c, q, ret_same ok h (.str _)⟩)
      · rw [if_neg c] at e
        cases e
    | _ => cases e
  | _ => cases e
theorem x_ix {a b : Expr} {fa fb : EF} {pos : Pos} {g : W → W → Option OV} (ho : IxS X ci BS g) (ha : SndE X ci BS a fa) (hb : SndE X ci BS b fb) (hs : PlainIx b := by exact fun _ _ => rfl) : SndE X ci BS (.Subscript a b pos) (fOp g fa fb) := by
  obtain ⟨ta, pa, qa⟩ := ha.ex
  obtain ⟨tb, pb, qb⟩ := hb.ex
  obtain ⟨r, pr, qr⟩ := ho
  exact ⟨⟨fun W' => tOp r (ta W') (tb W'), fun W' tk => pe_ix pr (pa W' tk) (pb W' tk) hs, fun W' s Q ok h => op_core qa qb qr W' s Q ok h⟩⟩
/-! ### slices -/
def cutL {α : Type} (xs : List α) (lo hi : Option Int) : List α := (xs.drop (HT.sIx xs.length 0 lo)).take (HT.sIx xs.length xs.length hi - HT.sIx xs.length 0 lo)
theorem reps_cut {K : PySem.W.Frag} {G : Hp} {vs : List V} {ws : List W} (r : RepVs K ci G vs ws) (lo hi : Option Int) : RepVs K ci G (cutV vs lo hi) (cutL ws lo hi) := by
  unfold cutV cutL
  rw [r.length]
  exact (r.drop _).take _
def gSl (w : W) (lo hi : Option Int) : Option OV := match w with
  | .lst xs => some (.n (.lst (cutL xs lo hi)))
  | .fz xs => some (.n (.lst (cutL xs lo hi)))
  | .tup xs => some (.v (.tup (cutL xs lo hi)))
  | .str z => if z.length ≤ 16777216 then some (.v (.str (cutS z lo hi))) else none
  | _ => none
abbrev OF := Ev → Res (Option Int)
structure SndO (X : Cx) (ci : Nat → Addr) (BS : List Nat) (e : Option Expr) (f : OF) : Prop where
  ex : ∃ te : WX → TO, (∀ W', Takes X W' → PO X e (te W')) ∧ ∀ (W' : WX) (s : Sta) (Q : Option Int → Hp → Prop), Ok X.K ci s → Acc X.K ci BS W' s (fun o s' => Q o s'.H) (f s.env) → te W' s.σ s.H Q
def fNoPart : OF := fun env => .ok none env
def asI : W → Option Int
  | .int i => some i
  | _ => none
def fPart (f : EF) : OF := fun env => (f env).bind fun ov env => match (getOV ov env).bind asI with
  | some i => .ok (some i) env
  | none => .bad
def fSl (f : EF) (l h : OF) : EF := fun env => (f env).bind fun x env => (l env).bind fun lo env => (h env).bind fun hi env => retOV ((getOV x env).bind fun w => gSl w lo hi) env
theorem so_none : SndO X ci BS none fNoPart := ⟨⟨fun _ => tNoPart, fun _ _ => po_none, fun W' s Q ok h => h s.G s.H Step.refl ok⟩⟩
theorem so_some {e : Expr} {f : EF} (ha : SndE X ci BS e f) : SndO X ci BS (some e) (fPart f) := by
  obtain ⟨ta, pa, qa⟩ := ha.ex
  refine ⟨⟨fun W' => tPart (ta W'), fun W' tk => po_some (pa W' tk), fun W' s Q ok h => ?_⟩⟩
  refine qa W' s _ ok (h.bind.imp fun ov env1 G1 H1 st1 ok1 h1 => ?_)
  intro v rep new
  cases e1 : getOV ov env1 with
  | none => dsimp only at h1; rw [e1] at h1; exact h1.elim
  | some w =>
    dsimp only at h1
    rw [e1] at h1
    cases w with
    | int i => exact ⟨i, (cur_of ok1 rep e1).int, h1 G1 H1 Step.refl ok1⟩
    | _ => exact h1.elim
theorem x_slice {e : Expr} {lo hi : Option Expr} {f : EF} {l h' : OF} {p2 pos : Pos} (he : SndE X ci BS e f) (hl : SndO X ci BS lo l) (hh : SndO X ci BS hi h') : SndE X ci BS (.Subscript e (.Slice lo hi none p2) pos) (fSl f l h') := by
  obtain ⟨t1, p1, q1⟩ := he.ex
  obtain ⟨t2, pp2, q2⟩ := hl.ex
  obtain ⟨t3, p3, q3⟩ := hh.ex
  refine ⟨⟨fun W' => tSl _ (t1 W') (t2 W') (t3 W'), fun W' tk => pe_slice (sl_list.or (sl_tupA.or sl_str)) (p1 W' tk) (pp2 W' tk) (p3 W' tk), fun W' s Q ok h => ?_⟩⟩
  refine q1 W' s _ ok (h.bind.imp fun ox env1 G1 H1 st1 ok1 h1 => ?_)
  intro v rep new
  refine q2 W' ⟨env1, s.σ, G1, H1⟩ _ ok1 (h1.bind.imp fun lo env2 G2 H2 st2 ok2 h2 => ?_)
  refine q3 W' ⟨env2, s.σ, G2, H2⟩ _ ok2 (h2.bind.imp fun hi env3 G3 H3 st3 ok3 h3 => ?_)
  have rep' : RepOV X.K ci ⟨env3, s.σ, G3, H3⟩ v ox := rep.step (Step.trans st2 st3)
  have h3 : Acc X.K ci BS W' ⟨env3, s.σ, G3, H3⟩ (CE X.K ci s Q) (retOV ((getOV ox env3).bind fun w => gSl w lo hi) env3) := h3
  cases e1 : getOV ox env3 with
  | none => rw [e1] at h3; exact h3.elim
  | some w =>
    rw [e1] at h3
    have h3 : Acc X.K ci BS W' ⟨env3, s.σ, G3, H3⟩ (CE X.K ci s Q) (retOV (gSl w lo hi) env3) := h3
    have c := cur_of ok3 rep' e1
    have fin : ∀ {r : Res OV}, Acc X.K ci BS W' ⟨env3, s.σ, G3, H3⟩ (CE X.K ci s Q) r → Acc X.K ci BS W' ⟨env3, s.σ, G3, H3⟩ (CE X.K ci ⟨env3, s.σ, G3, H3⟩ Q) r := fun hr => hr.imp fun ov' env2 G2 H2 st4 ok2 h3 z rz nz => h3 z rz (NewOV.back (Step.trans st1 (Step.trans st2 st3)) nz)
    cases w with
    | lst xs =>
      obtain ⟨a, vs, rfl, hh1, r1⟩ := c.lst ok3
      exact .inl ⟨a, vs, rfl, .inl (.inl hh1), fun p hp => ret_lst (W' := W') (s := ⟨env3, s.σ, G3, H3⟩) ok3 (fin h3) (reps_cut r1 lo hi) hp⟩
    | fz xs =>
      obtain ⟨a, vs, rfl, hh1, r1⟩ := c.fz ok3
      exact .inl ⟨a, vs, rfl, hh1, fun p hp => ret_lst (W' := W') (s := ⟨env3, s.σ, G3, H3⟩) ok3 (fin h3) (reps_cut r1 lo hi) hp⟩
    | tup xs =>
      obtain ⟨a, vs, rfl, hh1, r1⟩ := c.tup ok3
      refine .inr (.inl ⟨a, vs, rfl, hh1, fun z => ?_, fun _ p hp => ret_tup (W' := W') (s := ⟨env3, s.σ, G3, H3⟩) ok3 (fin h3) (reps_cut r1 lo hi) hp⟩)
      have e2 : cutL xs lo hi = xs := by
        unfold cutL
        rw [← r1.length, z.1, z.2, r1.length]
        simp
      have h3' := fin h3
      have h4 : Acc X.K ci BS W' ⟨env3, s.σ, G3, H3⟩ (CE X.K ci ⟨env3, s.σ, G3, H3⟩ Q) (.ok (.v (.tup (cutL xs lo hi))) env3) := h3'
      rw [e2] at h4
      rcases c with c | ⟨_, _, c⟩
      · exact ret_same (W' := W') (s := ⟨env3, s.σ, G3, H3⟩) ok3 h4 c
      · cases c
    | str z =>
      unfold gSl at h3
      dsimp only at h3
      by_cases hz : z.length ≤ 16777216
      · rw [if_pos hz] at h3
        exact .inr (.inr ⟨z, c.str, sz_le hz, ret_same (W' := W') (s := ⟨env3, s.σ, G3, H3⟩) ok3 (fin h3) (.str _)⟩)
      · rw [if_neg hz] at h3
        exact h3.elim
    | _ => exact h3.elim
end
end BV

set_option maxRecDepth 100000
set_option maxHeartbeats 4000000
/-! BV: built-ins that are called; isinstance. -/
namespace BV
open PySem PySem.Spec L2
section
variable {X : Cx} {ci : Nat → Addr} {BS : List Nat}
theorem cur1 {s : Sta} {xs : List V} {w : W} (h : Paired (CurV X.K ci s) xs [w]) : ∃ x, xs = [x] ∧ CurV X.K ci s x w := by
  cases h with
  | cons r t => cases t; exact ⟨_, rfl, r⟩
theorem cur2 {s : Sta} {xs : List V} {w u : W} (h : Paired (CurV X.K ci s) xs [w, u]) : ∃ x y, xs = [x, y] ∧ CurV X.K ci s x w ∧ CurV X.K ci s y u := by
  cases h with
  | cons r t =>
    obtain ⟨y, rfl, q⟩ := cur1 t
    exact ⟨_, y, rfl, r, q⟩
theorem b_len : CallS X ci BS (.builtin "len") gLen := by
  refine ⟨_, call_len_seq.or call_len_str, fun W' s xs ws ov Q ok cx e h => ?_⟩
  match ws, e with
  | [.lst ys], e =>
    cases e
    obtain ⟨x, rfl, c⟩ := cur1 cx
    obtain ⟨a, vs, rfl, h1, r1⟩ := c.lst ok
    refine .inl ⟨a, vs, rfl, .inl (.inl (.inl h1)), ?_⟩
    rw [r1.length]
    exact ret_same ok h (.int _)
  | [.fz ys], e =>
    cases e
    obtain ⟨x, rfl, c⟩ := cur1 cx
    obtain ⟨a, vs, rfl, h1, r1⟩ := c.fz ok
    refine .inl ⟨a, vs, rfl, .inl h1, ?_⟩
    rw [r1.length]
    exact ret_same ok h (.int _)
  | [.tup ys], e =>
    cases e
    obtain ⟨x, rfl, c⟩ := cur1 cx
    obtain ⟨a, vs, rfl, h1, r1⟩ := c.tup ok
    refine .inl ⟨a, vs, rfl, .inr h1, ?_⟩
    rw [r1.length]
    exact ret_same ok h (.int _)
  | [.str z], e =>
    unfold gLen at e
    dsimp only at e
    by_cases hz : z.length ≤ 16777216
    · rw [if_pos hz] at e
      cases e
      obtain ⟨x, rfl, c⟩ := cur1 cx
      exact .inr ⟨z, by rw [c.str], sz_le hz, ret_same ok h (.int _)⟩
    · rw [if_neg hz] at e
      cases e
theorem b_int : CallS X ci BS (.type "int") gInt := by
  refine ⟨_, call_int1, fun W' s xs ws ov Q ok cx e h => ?_⟩
  match ws, e with
  | [.int i], e =>
    cases e
    obtain ⟨x, rfl, c⟩ := cur1 cx
    exact .inl ⟨i, by rw [c.int], ret_same ok h (.int _)⟩
  | [.bl b], e =>
    cases e
    obtain ⟨x, rfl, c⟩ := cur1 cx
    exact .inr ⟨b, by rw [c.bl], ret_same ok h (.int _)⟩
theorem b_list : CallS X ci BS (.type "list") gList := by
  refine ⟨_, call_list_of, fun W' s xs ws ov Q ok cx e h => ?_⟩
  match ws, e with
  | [.lst ys], e =>
    cases e
    obtain ⟨x, rfl, c⟩ := cur1 cx
    obtain ⟨a, vs, rfl, h1, r1⟩ := c.lst ok
    exact ⟨a, vs, rfl, .inl (.inl (.inl h1)), fun p hp => ret_lst ok h r1 hp⟩
  | [.fz ys], e =>
    cases e
    obtain ⟨x, rfl, c⟩ := cur1 cx
    obtain ⟨a, vs, rfl, h1, r1⟩ := c.fz ok
    exact ⟨a, vs, rfl, .inl h1, fun p hp => ret_lst ok h r1 hp⟩
  | [.tup ys], e =>
    cases e
    obtain ⟨x, rfl, c⟩ := cur1 cx
    obtain ⟨a, vs, rfl, h1, r1⟩ := c.tup ok
    exact ⟨a, vs, rfl, .inr h1, fun p hp => ret_lst ok h r1 hp⟩
theorem b_tuple : CallS X ci BS (.type "tuple") gTuple := by
  refine ⟨_, call_tuple_of, fun W' s xs ws ov Q ok cx e h => ?_⟩
  match ws, e with
  | [.lst ys], e =>
    cases e
    obtain ⟨x, rfl, c⟩ := cur1 cx
    obtain ⟨a, vs, rfl, h1, r1⟩ := c.lst ok
    exact ⟨a, vs, rfl, .inl ⟨.inl (.inl h1), fun p hp => ret_tup ok h r1 hp⟩⟩
  | [.fz ys], e =>
    cases e
    obtain ⟨x, rfl, c⟩ := cur1 cx
    obtain ⟨a, vs, rfl, h1, r1⟩ := c.fz ok
    exact ⟨a, vs, rfl, .inl ⟨h1, fun p hp => ret_tup ok h r1 hp⟩⟩
  | [.tup ys], e =>
    cases e
    obtain ⟨x, rfl, c⟩ := cur1 cx
    obtain ⟨a, vs, rfl, h1, r1⟩ := c.tup ok
    refine ⟨a, vs, rfl, .inr ⟨h1, ?_⟩⟩
    rcases c with c | ⟨_, _, c⟩
    · exact ret_same ok h c
    · cases c
theorem bools_of {K : PySem.W.Frag} {G : Hp} : ∀ {vs : List V} {ws : List W} {bs : List Bool}, RepVs K ci G vs ws → bools ws = some bs → vs = bs.map V.bl
  | _, _, _, .nil, e => by cases e; rfl
  | v :: vs, w :: ws, bs, .cons r t, e => by
    cases w with
    | bl b =>
      unfold bools at e
      cases q : bools ws with
      | none => rw [q] at e; cases e
      | some cs =>
        rw [q] at e
        cases e
        cases r
        rw [bools_of t q]
        rfl
    | _ => cases e
theorem b_all (hc : X.calm = true := by rfl) : CallS X ci BS (.builtin "all") gAll := by
  refine ⟨_, cr_all hc, fun W' s xs ws ov Q ok cx e h => ?_⟩
  match ws, e with
  | [.lst ys], e =>
    unfold gAll at e
    dsimp only at e
    cases q : bools ys with
    | none => rw [q] at e; cases e
    | some bs =>
      rw [q] at e
      cases e
      obtain ⟨x, rfl, c⟩ := cur1 cx
      obtain ⟨a, vs, rfl, h1, r1⟩ := c.lst ok
      exact ⟨a, bs, rfl, by rw [← bools_of r1 q]; exact .inl (.inl h1), ret_same ok h (.bl _)⟩
theorem b_any (hc : X.calm = true := by rfl) : CallS X ci BS (.builtin "any") gAny := by
  refine ⟨_, cr_any hc, fun W' s xs ws ov Q ok cx e h => ?_⟩
  match ws, e with
  | [.lst ys], e =>
    unfold gAny at e
    dsimp only at e
    cases q : bools ys with
    | none => rw [q] at e; cases e
    | some bs =>
      rw [q] at e
      cases e
      obtain ⟨x, rfl, c⟩ := cur1 cx
      obtain ⟨a, vs, rfl, h1, r1⟩ := c.lst ok
      exact ⟨a, bs, rfl, by rw [← bools_of r1 q]; exact .inl (.inl h1), ret_same ok h (.bl _)⟩
theorem b_min2 (hc : X.calm = true := by rfl) : CallS X ci BS (.builtin "min") gMin2 := by
  refine ⟨_, call_min2 hc, fun W' s xs ws ov Q ok cx e h => ?_⟩
  match ws, e with
  | [.int i, .int j], e =>
    cases e
    obtain ⟨x, y, rfl, c, d⟩ := cur2 cx
    exact ⟨i, j, by rw [c.int, d.int], ret_same ok h (.int _)⟩
theorem b_max2 (hc : X.calm = true := by rfl) : CallS X ci BS (.builtin "max") gMax2 := by
  refine ⟨_, call_max2 hc, fun W' s xs ws ov Q ok cx e h => ?_⟩
  match ws, e with
  | [.int i, .int j], e =>
    cases e
    obtain ⟨x, y, rfl, c, d⟩ := cur2 cx
    exact ⟨i, j, by rw [c.int, d.int], ret_same ok h (.int _)⟩
theorem b_abs : CallS X ci BS (.builtin "abs") gAbs := by
  refine ⟨_, call_abs, fun W' s xs ws ov Q ok cx e h => ?_⟩
  match ws, e with
  | [.int i], e =>
    cases e
    obtain ⟨x, rfl, c⟩ := cur1 cx
    exact ⟨i, by rw [c.int], ret_same ok h (.int _)⟩
/-! ### isinstance -/
/-- the built-in type's name -/
def tyN : W → Option String
  | .non => some "NoneType"
  | .bl _ => some "bool"
  | .int _ => some "int"
  | .str _ => some "str"
  | .tup _ => some "tuple"
  | .lst _ => some "list"
  | .dct _ => some "dict"
  | _ => none
theorem ty_of {s : Sta} (ok : Ok X.K ci s) {v : V} {w : W} {n : String} (c : CurV X.K ci s v w) (e : tyN w = some n) : TyX X.K s.H v (.type n) := by
  rcases c with c | ⟨a, rfl, c⟩
  · cases c with
    | non => cases e; exact .base .non
    | bl b => cases e; exact .base (.bl b)
    | int b => cases e; exact .base (.int b)
    | str b => cases e; exact .base (.str b)
    | tup h r =>
      cases e
      exact .base (.tup (ok.sub _ _ h))
    | lst h r => cases e; exact .base (.lst (ok.sub _ _ h))
    | fz h r => cases e
    | dK h r => cases e; exact .base (.dK (ok.sub _ _ h))
    | dT h r => cases e; exact .base (.dT (ok.sub _ _ h))
    | ins h r => cases e
    | exc h r => cases e
  · cases c with
    | lst h r => cases e; exact .base (.lst h)
    | dK h r => cases e; exact .base (.dK h)
    | dT h r => cases e; exact .base (.dT h)
    | ins h r => cases e
/-- isinstance(x, T), T told by a table of names -/
def gIsi (t : String → Option Bool) : List W → Option OV
  | [w] => (tyN w).bind fun n => (t n).map fun b => .v (.bl b)
  | _ => none
def tInt : String → Option Bool := fun n => if n = "int" ∨ n = "bool" then some true else if n = "NoneType" ∨ n = "str" ∨ n = "tuple" ∨ n = "list" ∨ n = "dict" then some false else none
def tOne (T : String) : String → Option Bool := fun n => if n = T then some true else if n = "NoneType" ∨ n = "str" ∨ n = "tuple" ∨ n = "list" ∨ n = "dict" ∨ n = "int" ∨ n = "bool" then some false else none
def Tab (T : String) (t : String → Option Bool) : Prop := ∀ n b, t n = some b → kitB n T = some b
theorem tab_int : Tab "int" tInt := fun n b h => by
  unfold tInt at h
  split at h
  · rename_i q
    cases h
    rcases q with rfl | rfl
    · decide +kernel
    · decide +kernel
  · split at h
    · rename_i q
      cases h
      rcases q with rfl | rfl | rfl | rfl | rfl <;> decide +kernel
    · cases h
theorem tab_one {T : String} (h1 : kitB T T = some true) (hi : T = "bool" ∨ T = "str" ∨ T = "tuple" ∨ T = "list" ∨ T = "dict") : Tab T (tOne T) := fun n b h => by
  unfold tOne at h
  split at h
  · rename_i q
    cases h
    subst q
    exact h1
  · split at h
    · rename_i nq q
      cases h
      rcases hi with rfl | rfl | rfl | rfl | rfl <;> rcases q with rfl | rfl | rfl | rfl | rfl | rfl | rfl <;> first
        | exact absurd rfl nq
        | decide +kernel
    · cases h
theorem tab_bool : Tab "bool" (tOne "bool") := tab_one (by decide +kernel) (by simp)
theorem tab_str : Tab "str" (tOne "str") := tab_one (by decide +kernel) (by simp)
theorem tab_tuple : Tab "tuple" (tOne "tuple") := tab_one (by decide +kernel) (by simp)
theorem tab_list : Tab "list" (tOne "list") := tab_one (by decide +kernel) (by simp)
theorem tab_dict : Tab "dict" (tOne "dict") := tab_one (by decide +kernel) (by simp)
variable {e : Expr} {fa : EF} {p p2 pos : Pos}
theorem x_isi {T : String} {t : String → Option Bool} {y : Str} (ht : Tab T t) (hgi : Gl X "isinstance") (hmi : X.mg "isinstance" = none) (hvi : bootBuiltins "isinstance" = some (.builtin "isinstance")) (hg : Gl X y) (hm : X.mg y = none) (hv : bootBuiltins y = some (.type T)) (ha : SndE X ci BS e fa) (hn : y ≠ "__name__" := by decide) (hd : (y == ("__debug__" : Str)) = false := by decide)
    (hs1 : starEach [e, .Name y p2] X.env = (false, eval e X.env) :: starEach [.Name y p2] X.env := by rfl) (hs2 : starEach [.Name y p2] X.env = (false, eval (.Name y p2) X.env) :: starEach [] X.env := by rfl) (hpl : (backTo pos (starEach [.Name y p2] X.env)).any (·.1) = false := by rfl) :
    SndE X ci BS (.Call (.Name "isinstance" p) [e, .Name y p2] [] pos) (fB (gIsi t) (fCons fa fNil)) := by
  obtain ⟨te, pp, q⟩ := ha.ex
  refine ⟨⟨fun W' => tCB (rIsi X.K) (tCons (te W') (tCons (tC (.ty T)) tNil)), fun W' tk => pe_callB call_isi hgi hmi hvi (pa_cons (pp W' tk) (pa_cons (pe_bltn hg hm hv rfl hn hd) pa_nil hs2) hs1) (by decide) (by decide) hs1 hpl, fun W' s Q ok h => ?_⟩⟩
  refine q W' s _ ok (h.bind.bind.imp fun ox env1 G1 H1 st1 ok1 h1 => ?_)
  intro v rep new
  have h1 : Acc X.K ci BS W' ⟨env1, s.σ, G1, H1⟩ (CE X.K ci s Q) (retOV ((getOVs [ox] env1).bind (gIsi t)) env1) := h1 G1 H1 Step.refl ok1
  cases e1 : getOV ox env1 with
  | none => unfold getOVs at h1; rw [e1] at h1; exact h1.elim
  | some w =>
    unfold getOVs at h1
    rw [e1] at h1
    have h1 : Acc X.K ci BS W' ⟨env1, s.σ, G1, H1⟩ (CE X.K ci s Q) (retOV ((tyN w).bind fun n => (t n).map fun b => .v (.bl b)) env1) := h1
    cases e2 : tyN w with
    | none => rw [e2] at h1; exact h1.elim
    | some n =>
      rw [e2] at h1
      have h1 : Acc X.K ci BS W' ⟨env1, s.σ, G1, H1⟩ (CE X.K ci s Q) (retOV ((t n).map fun b => .v (.bl b)) env1) := h1
      cases e3 : t n with
      | none => rw [e3] at h1; exact h1.elim
      | some b =>
        rw [e3] at h1
        refine ⟨v, .ty T, .type n, .type T, b, rfl, .ty T, ty_of ok1 (cur_of ok1 rep e1) e2, kit_ty (ht n b e3), ?_⟩
        exact ret_same (W' := W') (s := ⟨env1, s.σ, G1, H1⟩) ok1 (h1.imp fun ov' env4 G4 H4 st4 ok4 h4 z rz nz => h4 z rz (NewOV.back st1 nz)) (.bl _)
end
end BV

set_option maxRecDepth 100000
set_option maxHeartbeats 4000000
/-! BV: statements. -/
namespace BV
open PySem PySem.Spec L2

inductive SR where
  | bad | nx (env : Ev) | rt (w : W) (env : Ev) | rn (w : W) (env : Ev) | bk (env : Ev) | ct (env : Ev) | er (x : Exc) (env : Ev)
abbrev SF := Ev → SR
def Res.andS {α : Type} (r : Res α) (k : α → Ev → SR) : SR := match r with
  | .bad => .bad
  | .ok a env => k a env
  | .er x env => .er x env
section
variable (K : PySem.W.Frag) (ci : Nat → Addr) (BS : List Nat)
def AccS (W' : WX) (s : Sta) (D : Ends) : SR → Prop
  | .bad => False
  | .nx env' => ∀ σ' G' H', Stp BS s ⟨env', σ', G', H'⟩ → Ok K ci ⟨env', σ', G', H'⟩ → D.nx σ' H'
  | .bk env' => ∀ σ' G' H', Stp BS s ⟨env', σ', G', H'⟩ → Ok K ci ⟨env', σ', G', H'⟩ → D.bk σ' H'
  | .ct env' => ∀ σ' G' H', Stp BS s ⟨env', σ', G', H'⟩ → Ok K ci ⟨env', σ', G', H'⟩ → D.ct σ' H'
  | .rt w env' => ∀ σ' G' H' v, Stp BS s ⟨env', σ', G', H'⟩ → Ok K ci ⟨env', σ', G', H'⟩ → RepV K ci G' v w → D.rt v H'
  | .rn w env' => ∀ σ' G' H' a, Stp BS s ⟨env', σ', G', H'⟩ → Ok K ci ⟨env', σ', G', H'⟩ → RepO K ci G' H' a w → G' a = none → (∀ i, ¬ OwnAt env' σ' i a) → (s.H a = none ∨ ∃ j, j ∉ BS ∧ OwnAt s.env s.σ j a) → D.rt (.ref a) H'
  | .er x env' => ∀ σ' G' H' cls d, Stp BS s ⟨env', σ', G', H'⟩ → Ok K ci ⟨env', σ', G', H'⟩ → RepX K ci G' H' cls d x → W' cls d σ' H'
end
section
variable {K : PySem.W.Frag} {ci : Nat → Addr} {BS : List Nat} {α : Type} {W' : WX} {s m : Sta} {D : Ends} {r : SR}
theorem AccS.mid (h : AccS K ci BS W' s D r) (st : Stp BS s m) : AccS K ci BS W' m D r := by
  cases r with
  | bad => exact h
  | nx e => exact fun σ' G' H' st' ok => h σ' G' H' (Step.trans st st') ok
  | bk e => exact fun σ' G' H' st' ok => h σ' G' H' (Step.trans st st') ok
  | ct e => exact fun σ' G' H' st' ok => h σ' G' H' (Step.trans st st') ok
  | rt w e => exact fun σ' G' H' v st' ok rv => h σ' G' H' v (Step.trans st st') ok rv
  | rn w e =>
    refine fun σ' G' H' a st' ok ro g no nw => h σ' G' H' a (Step.trans st st') ok ro g no ?_
    rcases nw with q | ⟨j, hj, q⟩
    · cases e1 : s.H a with
      | none => exact .inl rfl
      | some o => exact absurd q (st.here a (by rw [e1]; exact fun z => nomatch z))
    · rcases st.new j a q with ⟨z, _⟩ | ⟨_, z⟩
      · exact absurd z hj
      · exact z
  | er x e => exact fun σ' G' H' cls d st' ok rx => h σ' G' H' cls d (Step.trans st st') ok rx
theorem AccS.andS {r : Res α} {k : α → Ev → SR} (h : AccS K ci BS W' s D (r.andS k)) : Acc K ci BS W' s (fun a m => AccS K ci BS W' m D (k a m.env)) r := by
  cases r with
  | bad => exact h
  | ok a env' => exact fun G' H' st ok => AccS.mid h st
  | er x env' => exact fun G' H' cls d st ok rx => h s.σ G' H' cls d st ok rx
/-- a slot takes a value -/
theorem set_slot (ok : Ok K ci s) {i : Nat} {v : V} {w : W} (hi : i ∉ BS) (r : RepV K ci s.G v w) : Stp BS s ⟨s.env.set i (.dat w), s.σ.set i (some v), s.G, s.H⟩ ∧ Ok K ci ⟨s.env.set i (.dat w), s.σ.set i (some v), s.G, s.H⟩ := by
  have ne : ∀ {j : Nat} {u : W}, (s.env.set i (.dat w))[j]? = some (.own u) → j ≠ i ∧ s.env[j]? = some (.own u) := fun {j u} h => by
    by_cases hj : j = i
    · subst hj
      by_cases hl : j < s.env.length
      · rw [List.getElem?_set_self hl] at h
        cases h
      · rw [List.getElem?_eq_none (by rw [List.length_set]; omega)] at h
        cases h
    · rw [List.getElem?_set_ne (Ne.symm hj)] at h
      exact ⟨hj, h⟩
  have own : ∀ {j : Nat} {a : Addr}, OwnAt (s.env.set i (.dat w)) (s.σ.set i (some v)) j a → OwnAt s.env s.σ j a := fun {j a} ⟨⟨u, h⟩, q⟩ => by
    obtain ⟨hj, h'⟩ := ne h
    rw [List.getElem?_set_ne (Ne.symm hj)] at q
    exact ⟨⟨u, h'⟩, q⟩
  refine ⟨⟨Same.refl _, fun _ _ h _ => h, fun _ _ h _ => h, fun _ h => h, fun j a h => ?_, fun j hj => ?_⟩, ⟨ok.sub, by rw [List.length_set, List.length_set]; exact ok.len, fun j u h => ?_, fun j u h => ?_, fun j k a h1 h2 => ok.inj j k a (own h1) (own h2)⟩⟩
  · by_cases hB : j ∈ BS
    · exact .inl ⟨hB, own h⟩
    · exact .inr ⟨hB, .inr ⟨j, hB, own h⟩⟩
  · have hj' : j ≠ i := fun z => hi (z ▸ hj)
    refine ⟨List.getElem?_set_ne (Ne.symm hj'), fun ⟨u, h⟩ => ⟨u, ?_⟩⟩
    show (s.env.set i (.dat w))[j]? = _
    rw [List.getElem?_set_ne (Ne.symm hj')]
    exact h
  · by_cases hj : j = i
    · subst hj
      by_cases hl : j < s.env.length
      · have h' : (s.env.set j (.dat w))[j]? = some (.dat u) := h
        rw [List.getElem?_set_self hl] at h'
        cases h'
        refine ⟨v, ?_, r⟩
        show (s.σ.set j (some v))[j]? = _
        rw [List.getElem?_set_self (by rw [← ok.len]; exact hl)]
      · have h' : (s.env.set j (.dat w))[j]? = some (.dat u) := h
        rw [List.getElem?_eq_none (by rw [List.length_set]; omega)] at h'
        cases h'
    · have h' : (s.env.set i (.dat w))[j]? = some (.dat u) := h
      rw [List.getElem?_set_ne (Ne.symm hj)] at h'
      obtain ⟨x, q1, q2⟩ := ok.dat j u h'
      refine ⟨x, ?_, q2⟩
      show (s.σ.set i (some v))[j]? = _
      rw [List.getElem?_set_ne (Ne.symm hj)]
      exact q1
  · obtain ⟨hj, h'⟩ := ne h
    obtain ⟨a, q1, q2, q3⟩ := ok.own j u h'
    refine ⟨a, ?_, q2, q3⟩
    show (s.σ.set i (some v))[j]? = _
    rw [List.getElem?_set_ne (Ne.symm hj)]
    exact q1
/-- a slot takes a new object for its own -/
theorem set_own (ok : Ok K ci m) (st : Stp BS s m) {i : Nat} {a : Addr} {w : W} (hi : i ∉ BS) (r : RepO K ci m.G m.H a w) (g : m.G a = none) (no : ∀ j, ¬ OwnAt m.env m.σ j a) (nw : s.H a = none) :
    Stp BS s ⟨m.env.set i (.own w), m.σ.set i (some (.ref a)), m.G, m.H⟩ ∧ Ok K ci ⟨m.env.set i (.own w), m.σ.set i (some (.ref a)), m.G, m.H⟩ := by
  have ne : ∀ {j : Nat} {u : Sl}, j ≠ i → ((m.env.set i (.own w))[j]? = some u ↔ m.env[j]? = some u) := fun {j u} hj => by rw [List.getElem?_set_ne (Ne.symm hj)]
  have neσ : ∀ {j : Nat}, j ≠ i → (m.σ.set i (some (.ref a)))[j]? = m.σ[j]? := fun {j} hj => List.getElem?_set_ne (Ne.symm hj)
  have ati : ∀ {u : Sl}, (m.env.set i (.own w))[i]? = some u → u = .own w ∧ i < m.env.length := fun {u} h => by
    by_cases hl : i < m.env.length
    · rw [List.getElem?_set_self hl] at h
      exact ⟨(Option.some.inj h).symm, hl⟩
    · rw [List.getElem?_eq_none (by rw [List.length_set]; omega)] at h
      cases h
  have own : ∀ {j : Nat} {b : Addr}, OwnAt (m.env.set i (.own w)) (m.σ.set i (some (.ref a))) j b → (j = i ∧ b = a) ∨ (j ≠ i ∧ OwnAt m.env m.σ j b) := fun {j b} ⟨⟨u, h⟩, q⟩ => by
    by_cases hj : j = i
    · subst hj
      obtain ⟨_, hl⟩ := ati h
      rw [List.getElem?_set_self (by rw [← ok.len]; exact hl)] at q
      have z := Option.some.inj (Option.some.inj q)
      exact .inl ⟨rfl, (V.ref.inj z).symm⟩
    · exact .inr ⟨hj, ⟨u, (ne hj).mp h⟩, by rw [neσ hj] at q; exact q⟩
  refine ⟨⟨st.sub, st.keep, st.pers, st.here, fun j b h => ?_, fun j hj => ?_⟩, ⟨ok.sub, by rw [List.length_set, List.length_set]; exact ok.len, fun j u h => ?_, fun j u h => ?_, fun j k b h1 h2 => ?_⟩⟩
  · rcases own h with ⟨rfl, rfl⟩ | ⟨hj, q⟩
    · exact .inr ⟨hi, .inl nw⟩
    · exact st.new j b q
  · have hj' : j ≠ i := fun z => hi (z ▸ hj)
    obtain ⟨q1, q2⟩ := st.bs j hj
    refine ⟨(neσ hj').trans q1, fun z => ?_⟩
    obtain ⟨u, q⟩ := q2 z
    exact ⟨u, (ne hj').mpr q⟩
  · by_cases hj : j = i
    · subst hj
      have z := (ati h).1
      cases z
    · obtain ⟨x, q1, q2⟩ := ok.dat j u ((ne hj).mp h)
      exact ⟨x, (neσ hj).trans q1, q2⟩
  · by_cases hj : j = i
    · subst hj
      obtain ⟨z, hl⟩ := ati h
      cases z
      refine ⟨a, ?_, g, r⟩
      show (m.σ.set j (some (.ref a)))[j]? = _
      rw [List.getElem?_set_self (by rw [← ok.len]; exact hl)]
    · obtain ⟨b, q1, q2, q3⟩ := ok.own j u ((ne hj).mp h)
      exact ⟨b, (neσ hj).trans q1, q2, q3⟩
  · rcases own h1 with ⟨rfl, rfl⟩ | ⟨hj, q1⟩
    · rcases own h2 with ⟨rfl, _⟩ | ⟨hk, q2⟩
      · rfl
      · exact absurd q2 (no k)
    · rcases own h2 with ⟨rfl, rfl⟩ | ⟨hk, q2⟩
      · exact absurd q1 (no j)
      · exact ok.inj j k b q1 q2
/-- a slot's own object is changed -/
theorem upd_own (ok : Ok K ci s) {i : Nat} {a : Addr} {w w' : W} {o : HO} (hw : s.env[i]? = some (.own w)) (ha : s.σ[i]? = some (some (.ref a))) (r : RepO K ci s.G (upd s.H a o) a w') :
    Stp BS s ⟨s.env.set i (.own w'), s.σ, s.G, upd s.H a o⟩ ∧ Ok K ci ⟨s.env.set i (.own w'), s.σ, s.G, upd s.H a o⟩ := by
  have il : i < s.env.length := (List.getElem?_eq_some_iff.mp hw).1
  have me : OwnAt s.env s.σ i a := ⟨⟨w, hw⟩, ha⟩
  obtain ⟨ga, ha2, _⟩ := ok.ownAt me
  have ati : (s.env.set i (.own w'))[i]? = some (.own w') := List.getElem?_set_self il
  have ne : ∀ {j : Nat} {u : Sl}, j ≠ i → ((s.env.set i (.own w'))[j]? = some u ↔ s.env[j]? = some u) := fun {j u} hj => by rw [List.getElem?_set_ne (Ne.symm hj)]
  have own : ∀ {j : Nat} {b : Addr}, OwnAt (s.env.set i (.own w')) s.σ j b → OwnAt s.env s.σ j b := fun {j b} ⟨⟨u, h⟩, q⟩ => by
    by_cases hj : j = i
    · subst hj
      exact ⟨⟨w, hw⟩, q⟩
    · exact ⟨⟨u, (ne hj).mp h⟩, q⟩
  refine ⟨⟨Same.refl _, fun b o' h no => ?_, fun _ _ h _ => h, fun b h => ?_, fun j b h => ?_, fun j hj => ⟨rfl, fun ⟨u, h⟩ => ?_⟩⟩, ⟨fun b o' q => ?_, by rw [List.length_set]; exact ok.len, fun j u h => ?_, fun j u h => ?_, fun j k b h1 h2 => ok.inj j k b (own h1) (own h2)⟩⟩
  · have nb : b ≠ a := fun z => no i (z ▸ me)
    show upd s.H a o b = _
    rw [upd_ne nb]
    exact h
  · show upd s.H a o b ≠ none
    by_cases nb : b = a
    · subst nb
      rw [upd_same]
      exact fun z => nomatch z
    · rw [upd_ne nb]
      exact h
  · by_cases hB : j ∈ BS
    · exact .inl ⟨hB, own h⟩
    · exact .inr ⟨hB, .inr ⟨j, hB, own h⟩⟩
  · by_cases hj' : j = i
    · subst hj'
      exact ⟨w', ati⟩
    · exact ⟨u, (ne hj').mpr h⟩
  · have nb : b ≠ a := fun z => by
      rw [z] at q
      have q' : s.G a = some o' := q
      rw [ga] at q'
      cases q'
    show upd s.H a o b = _
    rw [upd_ne nb]
    exact ok.sub b o' q
  · have hj : j ≠ i := fun z => by
      subst z
      have h' : (s.env.set j (.own w'))[j]? = some (.dat u) := h
      rw [ati] at h'
      cases h'
    exact ok.dat j u ((ne hj).mp h)
  · by_cases hj : j = i
    · subst hj
      have h' : (s.env.set j (.own w'))[j]? = some (.own u) := h
      rw [ati] at h'
      cases h'
      exact ⟨a, ha, ga, r⟩
    · obtain ⟨b, q1, q2, q3⟩ := ok.own j u ((ne hj).mp h)
      have nb : b ≠ a := fun z => by
        subst z
        exact hj (ok.inj _ _ _ ⟨⟨u, (ne hj).mp h⟩, q1⟩ me)
      exact ⟨b, q1, q2, q3.mono (Same.refl _) fun o' h => by show upd s.H a o b = _; rw [upd_ne nb]; exact h⟩
end

section
variable (X : Cx) (ci : Nat → Addr) (BS : List Nat)
structure SndS (st : Stmt) (f : SF) : Prop where
  ex : ∃ ts : WX → TS, (∀ W', Takes X W' → PS X st (ts W')) ∧ ∀ (W' : WX) (s : Sta) (D : Ends), Ok X.K ci s → AccS X.K ci BS W' s D (f s.env) → ts W' D s.σ s.H
structure SndSs (st : List Stmt) (f : SF) : Prop where
  ex : ∃ ts : WX → TS, (∀ W', Takes X W' → PSs X st (ts W')) ∧ ∀ (W' : WX) (s : Sta) (D : Ends), Ok X.K ci s → AccS X.K ci BS W' s D (f s.env) → ts W' D s.σ s.H
end
def sNext : SF := fun env => .nx env
def sSeq (f g : SF) : SF := fun env => match f env with
  | .nx env => g env
  | r => r
def sIf (c : TF) (f g : SF) : SF := fun env => (c env).andS fun b env => if b = true then f env else g env
def sSet (i : Nat) (f : EF) : SF := fun env => (fE f env).andS fun ov env => match ov with
  | .v w => .nx (env.set i (.dat w))
  | _ => .bad
def sOwn (i : Nat) (f : EF) : SF := fun env => (f env).andS fun ov env => match ov with
  | .n w => .nx (env.set i (.own w))
  | _ => .bad
def sRet (f : EF) : SF := fun env => (fE f env).andS fun ov env => match ov with
  | .v w => .rt w env
  | _ => .bad
def sRetNew (f : EF) : SF := fun env => (f env).andS fun ov env => match ov with
  | .n w => .rn w env
  | _ => .bad
def sRetN : SF := fun env => .rt .non env
def sDrop (f : EF) : SF := fun env => (f env).andS fun _ env => .nx env
def sBreak : SF := fun env => .bk env
def sCont : SF := fun env => .ct env
section
variable {X : Cx} {ci : Nat → Addr} {BS : List Nat} {st : Stmt} {rest a b : List Stmt} {f g : SF} {e c : Expr} {fe : EF} {tc : TF} {pos : Pos}
theorem s_nil : SndSs X ci BS [] sNext := ⟨⟨fun _ => tNext, fun _ _ => pss_nil, fun W' s D ok h => h s.σ s.G s.H Step.refl ok⟩⟩
theorem acc_seq {W' : WX} {s : Sta} {D : Ends} {u : St → Hp → Prop} {r : SR} (h : AccS X.K ci BS W' s D (match r with | .nx env => g env | r => r)) (hu : ∀ env' σ' G' H', Stp BS s ⟨env', σ', G', H'⟩ → Ok X.K ci ⟨env', σ', G', H'⟩ → AccS X.K ci BS W' ⟨env', σ', G', H'⟩ D (g env') → u σ' H') :
    AccS X.K ci BS W' s { D with nx := u } r := by
  cases r with
  | nx env' => exact fun σ' G' H' st ok => hu env' σ' G' H' st ok (AccS.mid h st)
  | bad => exact h
  | rt w e => exact h
  | rn w e => exact h
  | bk e => exact h
  | ct e => exact h
  | er x e => exact h
theorem s_cons (h1 : SndS X ci BS st f) (h2 : SndSs X ci BS rest g) : SndSs X ci BS (st :: rest) (sSeq f g) := by
  obtain ⟨t, p, q⟩ := h1.ex
  obtain ⟨t', p', q'⟩ := h2.ex
  refine ⟨⟨fun W' => tSeq (t W') (t' W'), fun W' tk => pss_cons (p W' tk) (p' W' tk), fun W' s D ok h => ?_⟩⟩
  exact q W' s _ ok (acc_seq h fun env' σ' G' H' st ok' h' => q' W' ⟨env', σ', G', H'⟩ D ok' h')
theorem s_one (h1 : SndS X ci BS st f) : SndSs X ci BS [st] f := by
  obtain ⟨t, p, q⟩ := h1.ex
  exact ⟨⟨t, fun W' tk => pss_one (p W' tk), q⟩⟩
theorem s_pass : SndS X ci BS (.Pass pos) sNext := ⟨⟨fun _ => tNext, fun _ _ => ps_pass, fun W' s D ok h => h s.σ s.G s.H Step.refl ok⟩⟩
theorem s_break : SndS X ci BS (.Break pos) sBreak := ⟨⟨fun _ => tBreak, fun _ _ => ps_break, fun W' s D ok h => h s.σ s.G s.H Step.refl ok⟩⟩
theorem s_cont : SndS X ci BS (.Continue pos) sCont := ⟨⟨fun _ => tCont, fun _ _ => ps_continue, fun W' s D ok h => h s.σ s.G s.H Step.refl ok⟩⟩
theorem s_if (hc : SndT X ci BS c tc) (ha : SndSs X ci BS a f) (hb : SndSs X ci BS b g) : SndS X ci BS (.If c a b pos) (sIf tc f g) := by
  obtain ⟨t, p, q⟩ := hc.ex
  obtain ⟨t1, p1, q1⟩ := ha.ex
  obtain ⟨t2, p2, q2⟩ := hb.ex
  refine ⟨⟨fun W' => tIfS (t W') (t1 W') (t2 W'), fun W' tk => ps_if (p W' tk) (p1 W' tk) (p2 W' tk), fun W' s D ok h => ?_⟩⟩
  refine q W' s _ ok (h.andS.imp fun d env1 G1 H1 st1 ok1 h1 => ?_)
  cases d with
  | true => exact q1 W' ⟨env1, s.σ, G1, H1⟩ D ok1 h1
  | false => exact q2 W' ⟨env1, s.σ, G1, H1⟩ D ok1 h1
theorem s_set {i : Nat} {x : Str} {pos' : Pos} (hi : i ∉ BS) (he : SndE X ci BS e fe) (hN : X.N.Nodup) (hx : X.N[i]? = some x := by rfl) (hl : Loc X.env.scope x := by first | exact Or.inl rfl | exact Or.inr rfl) (hs : swapsWith e (some (.Name x pos')) pos.line X.env = pure false := by rfl)
    (hf : X.fn x = true ∨ X.env.scope.names.lookup x = some .local := by first | exact .inl rfl | exact .inr rfl | assumption) : SndS X ci BS (.Assign [.Name x pos'] e pos) (sSet i fe) := by
  obtain ⟨t, p, q⟩ := (x_esc he).ex
  refine ⟨⟨fun W' => tAsg (t W') (gName i), fun W' tk => ps_set hN hx hl (p W' tk) hs hf, fun W' s D ok h => ?_⟩⟩
  refine q W' s _ ok (h.andS.imp fun ov env1 G1 H1 st1 ok1 h1 => ?_)
  intro v rep new
  cases ov with
  | v w =>
    obtain ⟨st2, ok2⟩ := set_slot (s := ⟨env1, s.σ, G1, H1⟩) ok1 hi rep
    exact h1 _ _ _ st2 ok2
  | _ => exact h1.elim
theorem s_own {i : Nat} {x : Str} {pos' : Pos} (hi : i ∉ BS) (he : SndE X ci BS e fe) (hN : X.N.Nodup) (hx : X.N[i]? = some x := by rfl) (hl : Loc X.env.scope x := by first | exact Or.inl rfl | exact Or.inr rfl) (hs : swapsWith e (some (.Name x pos')) pos.line X.env = pure false := by rfl)
    (hf : X.fn x = true ∨ X.env.scope.names.lookup x = some .local := by first | exact .inl rfl | exact .inr rfl | assumption) : SndS X ci BS (.Assign [.Name x pos'] e pos) (sOwn i fe) := by
  obtain ⟨t, p, q⟩ := he.ex
  refine ⟨⟨fun W' => tAsg (t W') (gName i), fun W' tk => ps_set hN hx hl (p W' tk) hs hf, fun W' s D ok h => ?_⟩⟩
  have h' : AccS X.K ci BS W' s D ((fe s.env).andS fun ov env => match ov with | .n w => .nx (env.set i (.own w)) | _ => .bad) := h
  refine q W' s _ ok ?_
  cases e1 : fe s.env with
  | bad => rw [e1] at h'; exact h'.elim
  | er x env' => rw [e1] at h'; exact fun G' H' cls d st ok rx => h' s.σ G' H' cls d st ok rx
  | ok ov env' =>
    rw [e1] at h'
    cases ov with
    | n w =>
      intro G' H' st ok' v rep new
      obtain ⟨a, rfl, ro, ga, no⟩ := rep
      obtain ⟨st2, ok2⟩ := set_own (s := s) (m := ⟨env', s.σ, G', H'⟩) ok' st hi ro ga no (new a rfl)
      exact h' _ _ _ st2 ok2
    | _ => exact h'.elim
theorem s_ret (he : SndE X ci BS e fe) : SndS X ci BS (.Return (some e) pos) (sRet fe) := by
  obtain ⟨t, p, q⟩ := (x_esc he).ex
  refine ⟨⟨fun W' => tRet (t W'), fun W' tk => ps_ret (p W' tk), fun W' s D ok h => ?_⟩⟩
  refine q W' s _ ok (h.andS.imp fun ov env1 G1 H1 st1 ok1 h1 => ?_)
  intro v rep new
  cases ov with
  | v w => exact h1 s.σ G1 H1 v Step.refl ok1 rep
  | _ => exact h1.elim
theorem s_retNew (he : SndE X ci BS e fe) : SndS X ci BS (.Return (some e) pos) (sRetNew fe) := by
  obtain ⟨t, p, q⟩ := he.ex
  refine ⟨⟨fun W' => tRet (t W'), fun W' tk => ps_ret (p W' tk), fun W' s D ok h => ?_⟩⟩
  have h' : AccS X.K ci BS W' s D ((fe s.env).andS fun ov env => match ov with | .n w => .rn w env | _ => .bad) := h
  refine q W' s _ ok ?_
  cases e1 : fe s.env with
  | bad => rw [e1] at h'; exact h'.elim
  | er x env' => rw [e1] at h'; exact fun G' H' cls d st ok rx => h' s.σ G' H' cls d st ok rx
  | ok ov env' =>
    rw [e1] at h'
    cases ov with
    | n w =>
      intro G' H' st ok' v rep new
      obtain ⟨a, rfl, ro, ga, no⟩ := rep
      exact h' s.σ G' H' a st ok' ro ga no (.inl (new a rfl))
    | _ => exact h'.elim
theorem s_retN : SndS X ci BS (.Return none pos) sRetN := ⟨⟨fun _ => tRetN, fun _ _ => ps_retN, fun W' s D ok h => h s.σ s.G s.H .non Step.refl ok .non⟩⟩
theorem s_drop (he : SndE X ci BS e fe) (hs : swapsWith e none pos.line X.env = pure false := by rfl) : SndS X ci BS (.Expr e pos) (sDrop fe) := by
  obtain ⟨t, p, q⟩ := he.ex
  refine ⟨⟨fun W' => tDrop (t W'), fun W' tk => ps_expr (p W' tk) hs, fun W' s D ok h => ?_⟩⟩
  refine q W' s _ ok (h.andS.imp fun ov env1 G1 H1 st1 ok1 h1 => ?_)
  intro v rep new
  exact h1 s.σ G1 H1 Step.refl ok1
end
end BV

set_option maxRecDepth 100000
set_option maxHeartbeats 4000000
/-! BV: targets, what is walked, for, while, the methods that change a slot's own list. -/
namespace BV
open PySem PySem.Spec L2
/-! ### targets -/
mutual
inductive Tg where
  | nm (i : Nat) | tp (l : Tgs)
inductive Tgs where
  | nil | cons (t : Tg) (l : Tgs)
end
mutual
def bindT : Tg → W → Ev → Option Ev
  | .nm i, w, env => some (env.set i (.dat w))
  | .tp l, .tup ws, env => bindTs l ws env
  | .tp _, _, _ => none
def bindTs : Tgs → List W → Ev → Option Ev
  | .nil, [], env => some env
  | .cons t l, w :: ws, env => (bindT t w env).bind fun env => bindTs l ws env
  | _, _, _ => none
end
mutual
def idxT : Tg → List Nat
  | .nm i => [i]
  | .tp l => idxTs l
def idxTs : Tgs → List Nat
  | .nil => []
  | .cons t l => idxT t ++ idxTs l
end
def Tgs.len : Tgs → Nat
  | .nil => 0
  | .cons _ l => l.len + 1
section
variable (X : Cx) (ci : Nat → Addr) (BS : List Nat)
def GOut (s : Sta) (js : List Nat) (env' : Ev) (Q : St → Hp → Prop) : Prop := ∀ σ', Stp BS s ⟨env', σ', s.G, s.H⟩ → Ok X.K ci ⟨env', σ', s.G, s.H⟩ → σ'.length = s.σ.length → (∀ j, j ∉ js → σ'[j]? = s.σ[j]?) → Q σ' s.H
structure SndG (tg : Expr) (t : Tg) : Prop where
  ex : ∃ g : TG, PG X tg g ∧ ∀ (s : Sta) (v : V) (w : W) (env' : Ev) (Q : St → Hp → Prop), Ok X.K ci s → RepV X.K ci s.G v w → bindT t w s.env = some env' → GOut X ci BS s (idxT t) env' Q → g v s.σ s.H Q
structure SndGs (tgs : List Expr) (t : Tgs) : Prop where
  ex : ∃ g : TGs, PGs X tgs g ∧ ∀ (s : Sta) (vs : List V) (ws : List W) (env' : Ev) (Q : St → Hp → Prop), Ok X.K ci s → RepVs X.K ci s.G vs ws → bindTs t ws s.env = some env' → GOut X ci BS s (idxTs t) env' Q → g vs s.σ s.H Q
end
section
variable {X : Cx} {ci : Nat → Addr} {BS : List Nat} {tg : Expr} {tgs : List Expr} {t : Tg} {ts : Tgs} {pos : Pos}
theorem g_nm {i : Nat} {x : Str} (hi : i ∉ BS) (hN : X.N.Nodup) (hx : X.N[i]? = some x := by rfl) (hl : Loc X.env.scope x := by first | exact Or.inl rfl | exact Or.inr rfl) (hf : X.fn x = true ∨ X.env.scope.names.lookup x = some .local := by first | exact .inl rfl | exact .inr rfl | assumption) : SndG X ci BS (.Name x pos) (.nm i) := by
  refine ⟨⟨gName i, pg_name hN hx hl hf, fun s v w env' Q ok r e h => ?_⟩⟩
  cases e
  obtain ⟨st, ok'⟩ := set_slot ok hi r
  exact h _ st ok' List.length_set fun j hj => List.getElem?_set_ne (fun z => hj (by rw [z]; simp [idxT]))
theorem gs_nil : SndGs X ci BS [] .nil := by
  refine ⟨⟨gNil, pgs_nil, fun s vs ws env' Q ok r e h => ?_⟩⟩
  cases ws with
  | nil =>
    cases r
    cases e
    exact ⟨rfl, h _ Step.refl ok rfl fun _ _ => rfl⟩
  | cons w ws => cases e
theorem gs_cons (h1 : SndG X ci BS tg t) (h2 : SndGs X ci BS tgs ts) (hs : (assignEach (tg :: tgs) X.env).map (·.2) = assign tg X.env :: (assignEach tgs X.env).map (·.2) := by rfl) : SndGs X ci BS (tg :: tgs) (.cons t ts) := by
  obtain ⟨g, p, q⟩ := h1.ex
  obtain ⟨g', p', q'⟩ := h2.ex
  refine ⟨⟨gCons g g', pgs_cons p p' hs, fun s vs ws env' Q ok r e h => ?_⟩⟩
  cases ws with
  | nil => cases e
  | cons w ws =>
    cases r with
    | @cons v _ vs _ r1 r2 =>
      unfold bindTs at e
      cases e1 : bindT t w s.env with
      | none => rw [e1] at e; cases e
      | some env1 =>
        rw [e1] at e
        refine ⟨v, vs, rfl, q s v w env1 _ ok r1 e1 fun σ1 st1 ok1 l1 k1 => ?_⟩
        refine q' ⟨env1, σ1, s.G, s.H⟩ vs ws env' Q ok1 r2 e fun σ2 st2 ok2 l2 k2 => ?_
        refine h σ2 (Step.trans st1 st2) ok2 (l2.trans l1) fun j hj => ?_
        have hj' : j ∉ idxT t ∧ j ∉ idxTs ts := by
          unfold idxTs at hj
          rw [List.mem_append, not_or] at hj
          exact hj
        exact (k2 j hj'.2).trans (k1 j hj'.1)
theorem bindTs_len : ∀ {l : Tgs} {ws : List W} {env env' : Ev}, bindTs l ws env = some env' → ws.length = l.len
  | .nil, [], _, _, _ => rfl
  | .nil, _ :: _, _, _, h => by unfold bindTs at h; cases h
  | .cons _ _, [], _, _, h => by unfold bindTs at h; cases h
  | .cons t l, w :: ws, env, env', h => by
    unfold bindTs at h
    cases e : bindT t w env with
    | none => rw [e] at h; cases h
    | some env1 =>
      rw [e] at h
      show ws.length + 1 = l.len + 1
      rw [bindTs_len (l := l) (ws := ws) h]
theorem g_tp {es : List Expr} {k : Nat} (hc : X.calm = true) (h : SndGs X ci BS es ts) (hn : (assignEach es X.env).length = ts.len := by rfl) (hst : (assignEach es X.env).findIdx? (·.1) = none := by rfl) : SndG X ci BS (.Tuple es k pos) (.tp ts) := by
  obtain ⟨g, p, q⟩ := h.ex
  refine ⟨⟨gTup X.K ts.len g, pg_tup hc p hn hst, fun s v w env' Q ok r e h => ?_⟩⟩
  cases w with
  | tup ws =>
    cases r with
    | @tup a vs _ hT r =>
      have e' : bindTs ts ws s.env = some env' := e
      exact ⟨a, vs, rfl, .inl (.inl (ok.sub _ _ hT)), by rw [r.length]; exact bindTs_len e', q s vs ws env' Q ok r e' h⟩
  | _ => cases e
end

/-! ### what is walked -/
section
variable (X : Cx) (ci : Nat → Addr) (BS : List Nat)
structure ItOk (m : Sta) (ws : List W) (J : It) (Gp : Hp → Prop) (Y : Nat → Hp → V → Hp → Prop) : Prop where
  walk : Walk J ws.length Gp Y
  stays : ∀ m' : Sta, Ok X.K ci m' → Same m.G m'.G → Gp m'.H
  gives : ∀ (m' : Sta) (i : Nat) (v : V) (H' : Hp), Ok X.K ci m' → Same m.G m'.G → i < ws.length → Y i m'.H v H' → ∃ w G'', ws[i]? = some w ∧ Stp BS m' ⟨m'.env, m'.σ, G'', H'⟩ ∧ Ok X.K ci ⟨m'.env, m'.σ, G'', H'⟩ ∧ RepV X.K ci G'' v w
structure SndI (tg iter : Expr) (f : Ev → Res (List W)) : Prop where
  ex : ∃ wi : WX → TI, (∀ W', Takes X W' → PI X tg iter (wi W')) ∧ ∀ (W' : WX) (s : Sta) (R : It → Hp → Prop), Ok X.K ci s → Acc X.K ci BS W' s (fun ws m => ∀ J Gp Y, ItOk X ci BS m ws J Gp Y → R J m.H) (f s.env) → wi W' s.σ s.H R
end
def asT : W → Option (List W)
  | .tup ws => some ws
  | _ => none
def asL : W → Option (List W)
  | .lst ws => some ws
  | .fz ws => some ws
  | _ => none
def fIt (k : W → Option (List W)) (f : EF) : Ev → Res (List W) := fun env => (fE f env).bind fun ov env => match ov with
  | .v w => (match k w with | some ws => .ok ws env | none => .bad)
  | _ => .bad
def rangeW (lo hi : Int) : List W := (List.range (hi - lo).toNat).map fun (i : Nat) => W.int (lo + (i : Int))
def smallI (i : Int) : Bool := decide (-4611686018427387904 ≤ i ∧ i < 4611686018427387904)
def fRng1 (f : EF) : Ev → Res (List W) := fun env => (f env).bind fun x env => match getOV x env with
  | some (.int j) => if smallI j = true then .ok (rangeW 0 j) env else .bad
  | _ => .bad
def fRng2 (f g : EF) : Ev → Res (List W) := fun env => (f env).bind fun x env => (g env).bind fun y env => match getOV x env, getOV y env with
  | some (.int i), some (.int j) => if smallI i = true ∧ smallI j = true then .ok (rangeW i j) env else .bad
  | _, _ => .bad
section
variable {X : Cx} {ci : Nat → Addr} {BS : List Nat} {tg e e2 : Expr} {f g : EF} {pos p : Pos}
theorem it_at {m : Sta} {ws : List W} {J : It} {Gp : Hp → Prop} {vs : List V} (r : RepVs X.K ci m.G vs ws) (w : Walk J vs.length Gp (YAt vs)) (k : ∀ m' : Sta, Ok X.K ci m' → Same m.G m'.G → Gp m'.H) : ItOk X ci BS m ws J Gp (YAt vs) := by
  refine ⟨by rw [← r.length]; exact w, k, fun m' i v H' ok s hi y => ?_⟩
  obtain ⟨e, y⟩ := y
  subst e
  obtain ⟨u, q1, q2⟩ := r.get y
  exact ⟨u, m'.G, q1, Step.refl, ok, q2.mono s⟩
theorem i_tup (he : SndE X ci BS e f) : SndI X ci BS tg e (fIt asT f) := by
  obtain ⟨t, p, q⟩ := (x_esc he).ex
  refine ⟨⟨fun W' => iTup X.K (t W'), fun W' tk => pi_tup (p W' tk), fun W' s R ok h => ?_⟩⟩
  refine q W' s _ ok (h.bind.imp fun ov env1 G1 H1 st1 ok1 h1 => ?_)
  intro v rep new
  cases ov with
  | v w =>
    cases w with
    | tup ws =>
      cases rep with
      | @tup a vs _ hT r =>
        have hT : SqT X.K G1 a vs := .inl (.inl hT)
        exact ⟨a, rfl, ⟨vs, sqT_mono ok1.sub hT⟩, h1 G1 H1 Step.refl ok1 _ _ _ (it_at (m := ⟨env1, s.σ, G1, H1⟩) r walk_tup fun m' ok' sm => sqT_mono ok'.sub (sqT_mono sm hT))⟩
    | _ => exact h1.elim
  | _ => exact h1.elim
theorem i_list (he : SndE X ci BS e f) : SndI X ci BS tg e (fIt asL f) := by
  obtain ⟨t, p, q⟩ := (x_esc he).ex
  refine ⟨⟨fun W' => iList X.K (t W'), fun W' tk => pi_list (p W' tk), fun W' s R ok h => ?_⟩⟩
  refine q W' s _ ok (h.bind.imp fun ov env1 G1 H1 st1 ok1 h1 => ?_)
  intro v rep new
  cases ov with
  | v w =>
    cases w with
    | lst ws =>
      cases rep with
      | @lst a vs _ hT r =>
        exact ⟨a, rfl, ⟨vs, .inl (.inl (ok1.sub _ _ hT))⟩, h1 G1 H1 Step.refl ok1 _ _ _ (it_at (m := ⟨env1, s.σ, G1, H1⟩) r walk_list fun m' ok' sm => .inl (.inl (ok'.sub _ _ (sm _ _ hT))))⟩
    | fz ws =>
      cases rep with
      | @fz a vs _ hT r =>
        exact ⟨a, rfl, ⟨vs, ok1.sub.seq hT⟩, h1 G1 H1 Step.refl ok1 _ _ _ (it_at (m := ⟨env1, s.σ, G1, H1⟩) r walk_list fun m' ok' sm => ok'.sub.seq (sm.seq hT))⟩
    | _ => exact h1.elim
  | _ => exact h1.elim
theorem it_rng {m : Sta} {lo hi : Int} : ItOk X ci BS m (rangeW lo hi) (Itr lo (hi - lo).toNat) (fun _ => True) (YFn fun i => .int (lo + i)) := by
  have hl : (rangeW lo hi).length = (hi - lo).toNat := by unfold rangeW; rw [List.length_map, List.length_range]
  refine ⟨by rw [hl]; exact walk_range, fun _ _ _ => trivial, fun m' i v H' ok s hi' y => ?_⟩
  obtain ⟨e, y⟩ := y
  subst e y
  refine ⟨.int (lo + i), m'.G, ?_, Step.refl, ok, .int _⟩
  unfold rangeW
  rw [hl] at hi'
  rw [List.getElem?_map, List.getElem?_range hi']
  rfl
theorem smallI_is {i : Int} (h : smallI i = true) : -(2 ^ 62) ≤ i ∧ i < 2 ^ 62 := by
  unfold smallI at h
  rw [decide_eq_true_eq] at h
  omega
theorem i_rng1 (hg : Gl X "range") (hm : X.mg "range" = none) (he : SndE X ci BS e f) (hs : starEach [e] X.env = [(false, eval e X.env)] := by rfl) : SndI X ci BS tg (.Call (.Name "range" p) [e] [] pos) (fRng1 f) := by
  obtain ⟨t, pp, q⟩ := he.ex
  refine ⟨⟨fun W' => iRng1 (tCons (t W') tNil), fun W' tk => pi_range1 hg hm (pa_cons (pp W' tk) pa_nil (by rw [hs]; rfl)) hs, fun W' s R ok h => ?_⟩⟩
  refine q W' s _ ok (h.bind.imp fun ov env1 G1 H1 st1 ok1 h1 => ?_)
  intro v rep new
  cases e1 : getOV ov env1 with
  | none => dsimp only at h1; rw [e1] at h1; exact h1.elim
  | some w =>
    dsimp only at h1
    rw [e1] at h1
    cases w with
    | int j =>
      dsimp only at h1
      by_cases c : smallI j = true
      · rw [if_pos c] at h1
        obtain ⟨b1, b2⟩ := smallI_is c
        have z := h1 G1 H1 Step.refl ok1 _ _ _ it_rng
        refine ⟨j, by rw [(cur_of ok1 rep e1).int], b1, b2, ?_⟩
        have ej : (j - 0).toNat = j.toNat := by rw [Int.sub_zero]
        rw [ej] at z
        exact z
      · rw [if_neg c] at h1
        exact h1.elim
    | _ => exact h1.elim
theorem i_rng2 (hg : Gl X "range") (hm : X.mg "range" = none) (he : SndE X ci BS e f) (he2 : SndE X ci BS e2 g) (hs : starEach [e, e2] X.env = [(false, eval e X.env), (false, eval e2 X.env)] := by rfl) (hs2 : starEach [e2] X.env = [(false, eval e2 X.env)] := by rfl) :
    SndI X ci BS tg (.Call (.Name "range" p) [e, e2] [] pos) (fRng2 f g) := by
  obtain ⟨t, pp, q⟩ := he.ex
  obtain ⟨t', pp', q'⟩ := he2.ex
  refine ⟨⟨fun W' => iRng2 (tCons (t W') (tCons (t' W') tNil)), fun W' tk => pi_range2 hg hm (pa_cons (pp W' tk) (pa_cons (pp' W' tk) pa_nil (by rw [hs2]; rfl)) (by rw [hs, hs2])) hs hs2, fun W' s R ok h => ?_⟩⟩
  refine q W' s _ ok (h.bind.imp fun ov env1 G1 H1 st1 ok1 h1 => ?_)
  intro v rep new
  refine q' W' ⟨env1, s.σ, G1, H1⟩ _ ok1 (h1.bind.imp fun ov2 env2 G2 H2 st2 ok2 h2 => ?_)
  intro v2 rep2 new2
  have rep' : RepOV X.K ci ⟨env2, s.σ, G2, H2⟩ v ov := rep.step st2
  cases e1 : getOV ov env2 with
  | none => dsimp only at h2; rw [e1] at h2; exact h2.elim
  | some w =>
    cases e2 : getOV ov2 env2 with
    | none => dsimp only at h2; rw [e1, e2] at h2; cases w <;> exact h2.elim
    | some w2 =>
      dsimp only at h2
      rw [e1, e2] at h2
      cases w with
      | int i =>
        cases w2 with
        | int j =>
          dsimp only at h2
          by_cases c : smallI i = true ∧ smallI j = true
          · rw [if_pos c] at h2
            obtain ⟨b1, b2⟩ := smallI_is c.1
            obtain ⟨b3, b4⟩ := smallI_is c.2
            have z := h2 G2 H2 Step.refl ok2 _ _ _ it_rng
            exact ⟨i, j, by rw [(cur_of ok2 rep' e1).int, (cur_of ok2 rep2 e2).int], ⟨b1, b2, b3, b4⟩, z⟩
          · rw [if_neg c] at h2
            exact h2.elim
        | _ => exact h2.elim
      | _ => exact h2.elim
end
/-! ### for, while -/
def forL (t : Tg) (f : SF) : List W → SF
  | [], env => .nx env
  | w :: ws, env => match bindT t w env with
    | none => .bad
    | some env1 => match f env1 with
      | .nx e => forL t f ws e
      | .ct e => forL t f ws e
      | .bk e => .nx e
      | r => r
def sFor (it : Ev → Res (List W)) (t : Tg) (f : SF) : SF := fun env => (it env).andS fun ws env => forL t f ws env
def whileL (c : TF) (f : SF) : Nat → SF
  | 0, _ => .bad
  | n + 1, env => (c env).andS fun b env => if b = true then (match f env with
      | .nx e => whileL c f n e
      | .ct e => whileL c f n e
      | .bk e => .nx e
      | r => r) else .nx env
section
variable {X : Cx} {ci : Nat → Addr} {BS : List Nat} {tg iter c : Expr} {it : Ev → Res (List W)} {t : Tg} {tc : TF} {f : SF} {body : List Stmt} {pos : Pos}
theorem acc_turn {W' : WX} {s : Sta} {D : Ends} {r : SR} {k : SF} {N : St → Hp → Prop} (h : AccS X.K ci BS W' s D (match r with | .nx e => k e | .ct e => k e | .bk e => .nx e | r => r))
    (hN : ∀ e σ' G' H', Stp BS s ⟨e, σ', G', H'⟩ → Ok X.K ci ⟨e, σ', G', H'⟩ → AccS X.K ci BS W' ⟨e, σ', G', H'⟩ D (k e) → N σ' H') : AccS X.K ci BS W' s { D with nx := N, ct := N, bk := D.nx } r := by
  cases r with
  | nx e => exact fun σ' G' H' st ok => hN e σ' G' H' st ok (AccS.mid h st)
  | ct e => exact fun σ' G' H' st ok => hN e σ' G' H' st ok (AccS.mid h st)
  | bk e => exact h
  | bad => exact h
  | rt w e => exact h
  | rn w e => exact h
  | er x e => exact h
theorem s_for (hp : PassesOwn (model X.prog X.w) X.A X.env X.xe) (hc : X.calm = true) (hi : SndI X ci BS tg iter it) (hg : SndG X ci BS tg t) (hb : SndSs X ci BS body f) (hs : ∀ x, foldedSetIterable iter X.env x = pure x := by intro _; rfl) : SndS X ci BS (.For tg iter body [] pos) (sFor it t f) := by
  obtain ⟨wi, p, q⟩ := hi.ex
  obtain ⟨g, pg, qg⟩ := hg.ex
  obtain ⟨tb, pb, qb⟩ := hb.ex
  refine ⟨⟨fun W' => tFor (wi W') g (tb W'), fun W' tk => ps_for hp hc (p W' tk) pg (pb W' tk) hs, fun W' s D ok h => ?_⟩⟩
  refine q W' s _ ok (h.andS.imp fun ws env1 G1 H1 st1 ok1 h1 => ?_)
  intro J Gp Y io
  refine for_it io.walk (fun i σ H => ∃ m' : Sta, m'.σ = σ ∧ m'.H = H ∧ Ok X.K ci m' ∧ Same G1 m'.G ∧ AccS X.K ci BS W' m' D (forL t f (ws.drop i) m'.env)) ⟨⟨env1, s.σ, G1, H1⟩, rfl, rfl, ok1, Same.refl _, h1⟩ ?_ ?_ ?_
  · rintro i σ H hi ⟨m', rfl, rfl, ok', sm, _⟩
    exact io.stays m' ok' sm
  · rintro i x σ H H' hi ⟨m', rfl, rfl, ok', sm, acc⟩ y
    obtain ⟨w, G2, hw, st2, ok2, rv⟩ := io.gives m' i x H' ok' sm hi y
    have hd : ws.drop i = w :: ws.drop (i + 1) := by
      obtain ⟨hi', e⟩ := List.getElem?_eq_some_iff.mp hw
      rw [List.drop_eq_getElem_cons hi', e]
    rw [hd] at acc
    unfold forL at acc
    cases e1 : bindT t w m'.env with
    | none => rw [e1] at acc; exact acc.elim
    | some env2 =>
      rw [e1] at acc
      dsimp only at acc
      refine qg ⟨m'.env, m'.σ, G2, H'⟩ x w env2 _ ok2 rv e1 fun σ2 st3 ok3 _ _ => ?_
      refine qb W' ⟨env2, σ2, G2, H'⟩ _ ok3 ?_
      have acc' := AccS.mid (m := ⟨env2, σ2, G2, H'⟩) acc (Step.trans st2 st3)
      exact acc_turn acc' fun e σ' G' H'' st ok h' => ⟨⟨e, σ', G', H''⟩, rfl, rfl, ok, sm.trans (st2.sub.trans (st3.sub.trans st.sub)), h'⟩
  · rintro σ H ⟨m', rfl, rfl, ok', sm, acc⟩
    rw [List.drop_length] at acc
    exact acc m'.σ m'.G m'.H Step.refl ok'
theorem s_while (n : Nat) (hp : PassesOwn (model X.prog X.w) X.A X.env X.xe) (hc : SndT X ci BS c tc) (hb : SndSs X ci BS body f) : SndS X ci BS (.While c body [] pos) (whileL tc f n) := by
  obtain ⟨t, p, q⟩ := hc.ex
  obtain ⟨tb, pb, qb⟩ := hb.ex
  refine ⟨⟨fun W' => tWhile (t W') (tb W'), fun W' tk => ps_while hp (p W' tk) (pb W' tk), fun W' s D ok h => ?_⟩⟩
  refine ⟨fun k σ H => ∃ m' : Sta, m'.σ = σ ∧ m'.H = H ∧ Ok X.K ci m' ∧ AccS X.K ci BS W' m' D (whileL tc f k m'.env), ⟨n, s, rfl, rfl, ok, h⟩, ?_⟩
  rintro k σ H ⟨m', rfl, rfl, ok', acc⟩
  cases k with
  | zero => exact acc.elim
  | succ k =>
    refine q W' m' _ ok' (acc.andS.imp fun b env1 G1 H1 st1 ok1 h1 => ?_)
    cases b with
    | true =>
      refine ⟨fun σ' H' => ∃ m'' : Sta, m''.σ = σ' ∧ m''.H = H' ∧ Ok X.K ci m'' ∧ AccS X.K ci BS W' m'' D (whileL tc f k m''.env), fun σ' H' z => ⟨k, Nat.lt_succ_self k, z⟩, ?_⟩
      refine qb W' ⟨env1, m'.σ, G1, H1⟩ _ ok1 ?_
      exact acc_turn (k := whileL tc f k) h1 fun e σ' G' H'' st ok h' => ⟨⟨e, σ', G', H''⟩, rfl, rfl, ok, h'⟩
    | false => exact h1 m'.σ G1 H1 Step.refl ok1
end
end BV

set_option maxRecDepth 100000
set_option maxHeartbeats 4000000
/-! BV: list comprehensions. -/
namespace BV
open PySem PySem.Spec L2
def wipeE (env : Ev) : List Nat → Ev
  | [] => env
  | v :: vs => (wipeE env vs).set v .no
def restE (env env4 : Ev) : List Nat → Ev
  | [] => env4
  | v :: vs => (restE env env4 vs).set v ((env[v]?).getD .no)
theorem wipeE_len (env : Ev) : ∀ vs : List Nat, (wipeE env vs).length = env.length
  | [] => rfl
  | v :: vs => by unfold wipeE; rw [List.length_set, wipeE_len env vs]
theorem wipeE_out {env : Ev} {j : Nat} : ∀ {vs : List Nat}, j ∉ vs → (wipeE env vs)[j]? = env[j]?
  | [], _ => rfl
  | v :: vs, h => by
    rw [List.mem_cons, not_or] at h
    unfold wipeE
    rw [List.getElem?_set_ne (Ne.symm h.1), wipeE_out h.2]
theorem wipeE_in {env : Ev} {j : Nat} {sl : Sl} : ∀ {vs : List Nat}, j ∈ vs → (wipeE env vs)[j]? = some sl → sl = .no
  | [], h, _ => by cases h
  | v :: vs, h, e => by
    unfold wipeE at e
    by_cases hv : v = j
    · subst hv
      by_cases hl : v < (wipeE env vs).length
      · rw [List.getElem?_set_self hl] at e
        exact (Option.some.inj e).symm
      · rw [List.getElem?_eq_none (by rw [List.length_set]; omega)] at e
        cases e
    · rw [List.getElem?_set_ne hv] at e
      rcases List.mem_cons.mp h with z | z
      · exact absurd z.symm hv
      · exact wipeE_in z e
theorem restE_len (env env4 : Ev) : ∀ vs : List Nat, (restE env env4 vs).length = env4.length
  | [] => rfl
  | v :: vs => by unfold restE; rw [List.length_set, restE_len env env4 vs]
theorem restE_out {env env4 : Ev} {j : Nat} : ∀ {vs : List Nat}, j ∉ vs → (restE env env4 vs)[j]? = env4[j]?
  | [], _ => rfl
  | v :: vs, h => by
    rw [List.mem_cons, not_or] at h
    unfold restE
    rw [List.getElem?_set_ne (Ne.symm h.1), restE_out h.2]
theorem restE_in {env env4 : Ev} {j : Nat} (hl : env.length = env4.length) : ∀ {vs : List Nat}, j ∈ vs → (restE env env4 vs)[j]? = env[j]?
  | [], h => by cases h
  | v :: vs, h => by
    unfold restE
    by_cases hv : v = j
    · subst hv
      by_cases hj : v < env.length
      · rw [List.getElem?_set_self (by rw [restE_len]; omega), List.getElem?_eq_getElem hj]
        rfl
      · rw [List.getElem?_eq_none (by rw [List.length_set, restE_len]; omega), List.getElem?_eq_none (by omega)]
    · rw [List.getElem?_set_ne hv]
      rcases List.mem_cons.mp h with z | z
      · exact absurd z.symm hv
      · exact restE_in hl z
theorem wipe_out' {σ : L2.St} {j : Nat} {vs : List Nat} (h : j ∉ vs) : (wipe σ vs)[j]? = σ[j]? := wipe_out h
theorem wipe_eq {σ σ2 : L2.St} {vs : List Nat} (hl : σ2.length = σ.length) (h : ∀ j, j ∉ vs → σ2[j]? = (wipe σ vs)[j]?) : wipe σ2 vs = wipe σ vs := by
  apply List.ext_getElem?
  intro j
  by_cases hj : j ∈ vs
  · have none_in : ∀ {τ : L2.St} {vs : List Nat}, j ∈ vs → (wipe τ vs)[j]? = if j < τ.length then some none else none := by
      intro τ vs
      induction vs with
      | nil => intro h; cases h
      | cons v vs ih =>
        intro h
        unfold wipe
        by_cases hv : v = j
        · subst hv
          by_cases hj : v < τ.length
          · rw [List.getElem?_set_self (by rw [wipe_length]; exact hj), if_pos hj]
          · rw [List.getElem?_eq_none (by rw [List.length_set, wipe_length]; omega), if_neg hj]
        · rw [List.getElem?_set_ne hv]
          rcases List.mem_cons.mp h with z | z
          · exact absurd z.symm hv
          · exact ih z
    rw [none_in hj, none_in hj, hl]
  · rw [wipe_out' hj, h j hj]
section
variable {K : PySem.W.Frag} {ci : Nat → Addr} {BS vs : List Nat} {env env4 : Ev} {σ σ2 : L2.St} {G G4 H H4 : Hp}
theorem wipe_ok (ok : Ok K ci ⟨env, σ, G, H⟩) (hv : ∀ i ∈ BS, i ∉ vs) : Stp BS ⟨env, σ, G, H⟩ ⟨wipeE env vs, wipe σ vs, G, H⟩ ∧ Ok K ci ⟨wipeE env vs, wipe σ vs, G, H⟩ := by
  have out : ∀ {j : Nat} {sl : Sl}, (wipeE env vs)[j]? = some sl → sl ≠ .no → j ∉ vs ∧ env[j]? = some sl := fun {j sl} h ns => by
    by_cases hj : j ∈ vs
    · exact absurd (wipeE_in hj h) ns
    · rw [wipeE_out hj] at h
      exact ⟨hj, h⟩
  have own : ∀ {j : Nat} {a : Addr}, OwnAt (wipeE env vs) (wipe σ vs) j a → OwnAt env σ j a := fun {j a} ⟨⟨u, h⟩, q⟩ => by
    obtain ⟨hj, h'⟩ := out h (fun z => nomatch z)
    rw [wipe_out' hj] at q
    exact ⟨⟨u, h'⟩, q⟩
  refine ⟨⟨Same.refl _, fun _ _ h _ => h, fun _ _ h _ => h, fun _ h => h, fun j a h => ?_, fun j hj => ⟨wipe_out' (hv j hj), fun ⟨u, h⟩ => ⟨u, ?_⟩⟩⟩, ⟨ok.sub, by rw [wipeE_len, wipe_length]; exact ok.len, fun j u h => ?_, fun j u h => ?_, fun j k a h1 h2 => ok.inj j k a (own h1) (own h2)⟩⟩
  · by_cases hB : j ∈ BS
    · exact .inl ⟨hB, own h⟩
    · exact .inr ⟨hB, .inr ⟨j, hB, own h⟩⟩
  · show (wipeE env vs)[j]? = _
    rw [wipeE_out (hv j hj)]
    exact h
  · obtain ⟨hj, h'⟩ := out h (fun z => nomatch z)
    obtain ⟨v, q1, q2⟩ := ok.dat j u h'
    exact ⟨v, (wipe_out' hj).trans q1, q2⟩
  · obtain ⟨hj, h'⟩ := out h (fun z => nomatch z)
    obtain ⟨v, q1, q2⟩ := ok.own j u h'
    exact ⟨v, (wipe_out' hj).trans q1, q2⟩
/-- the block's own slots get back what they had -/
theorem rest_ok (ok : Ok K ci ⟨env, σ, G, H⟩) (ok4 : Ok K ci ⟨env4, σ2, G4, H4⟩) (st : Stp BS ⟨env, σ, G, H⟩ ⟨env4, σ2, G4, H4⟩) (st' : Stp BS ⟨wipeE env vs, wipe σ vs, G, H⟩ ⟨env4, σ2, G4, H4⟩) (hv : ∀ i ∈ BS, i ∉ vs) (hl : σ2.length = σ.length) (hσ : ∀ j, j ∉ vs → σ2[j]? = σ[j]?) :
    Stp BS ⟨env, σ, G, H⟩ ⟨restE env env4 vs, σ, G4, H4⟩ ∧ Ok K ci ⟨restE env env4 vs, σ, G4, H4⟩ := by
  have le : env.length = env4.length := by
    have a : env.length = σ.length := ok.len
    have b : env4.length = σ2.length := ok4.len
    omega
  have inn : ∀ {j : Nat}, j ∈ vs → (restE env env4 vs)[j]? = env[j]? := fun {j} hj => restE_in le hj
  have outt : ∀ {j : Nat}, j ∉ vs → (restE env env4 vs)[j]? = env4[j]? := fun {j} hj => restE_out hj
  have own : ∀ {j : Nat} {a : Addr}, OwnAt (restE env env4 vs) σ j a → (j ∈ vs ∧ OwnAt env σ j a) ∨ (j ∉ vs ∧ OwnAt env4 σ2 j a) := fun {j a} ⟨⟨u, h⟩, q⟩ => by
    by_cases hj : j ∈ vs
    · exact .inl ⟨hj, ⟨u, by rw [inn hj] at h; exact h⟩, q⟩
    · exact .inr ⟨hj, ⟨u, by rw [outt hj] at h; exact h⟩, by rw [hσ j hj]; exact q⟩
  -- an object of a wiped slot is no slot's own within
  have noIn : ∀ {j : Nat} {a : Addr}, j ∈ vs → OwnAt env σ j a → ∀ i, ¬ OwnAt (wipeE env vs) (wipe σ vs) i a := fun {j a} hj h i ⟨⟨u, hu⟩, q⟩ => by
    by_cases hi : i ∈ vs
    · have z := wipeE_in hi hu
      cases z
    · rw [wipeE_out hi] at hu
      rw [wipe_out' hi] at q
      have e := ok.inj i j a ⟨⟨u, hu⟩, q⟩ h
      exact hi (e ▸ hj)
  refine ⟨⟨st.sub, st.keep, st.pers, st.here, fun j a h => ?_, fun j hj => ?_⟩, ⟨ok4.sub, by rw [restE_len]; show env4.length = σ.length; rw [← le]; exact ok.len, fun j u h => ?_, fun j u h => ?_, fun j k a h1 h2 => ?_⟩⟩
  · rcases own h with ⟨hj, q⟩ | ⟨hj, q⟩
    · have hB : j ∉ BS := fun z => hv j z hj
      exact .inr ⟨hB, .inr ⟨j, hB, q⟩⟩
    · exact st.new j a q
  · refine ⟨rfl, fun z => ?_⟩
    obtain ⟨u, q⟩ := (st.bs j hj).2 z
    refine ⟨u, ?_⟩
    show (restE env env4 vs)[j]? = _
    rw [outt (hv j hj)]
    exact q
  · by_cases hj : j ∈ vs
    · have h' : (restE env env4 vs)[j]? = some (.dat u) := h
      rw [inn hj] at h'
      obtain ⟨v, q1, q2⟩ := ok.dat j u h'
      exact ⟨v, q1, q2.mono st.sub⟩
    · have h' : (restE env env4 vs)[j]? = some (.dat u) := h
      rw [outt hj] at h'
      obtain ⟨v, q1, q2⟩ := ok4.dat j u h'
      exact ⟨v, by rw [hσ j hj] at q1; exact q1, q2⟩
  · by_cases hj : j ∈ vs
    · have h' : (restE env env4 vs)[j]? = some (.own u) := h
      rw [inn hj] at h'
      obtain ⟨a, q1, q2, q3⟩ := ok.own j u h'
      have nn := noIn hj ⟨⟨u, h'⟩, q1⟩
      exact ⟨a, q1, st'.pers a q3.ne q2 nn, q3.mono st.sub fun o e => st'.keep a o e nn⟩
    · have h' : (restE env env4 vs)[j]? = some (.own u) := h
      rw [outt hj] at h'
      obtain ⟨a, q1, q2, q3⟩ := ok4.own j u h'
      exact ⟨a, by rw [hσ j hj] at q1; exact q1, q2, q3⟩
  · rcases own h1 with ⟨hj, q1⟩ | ⟨hj, q1⟩
    · rcases own h2 with ⟨hk, q2⟩ | ⟨hk, q2⟩
      · exact ok.inj j k a q1 q2
      · exact absurd q2 (st'.notOwn (ok.ownAt q1).2.1 (noIn hj q1) k)
    · rcases own h2 with ⟨hk, q2⟩ | ⟨hk, q2⟩
      · exact absurd q1 (st'.notOwn (ok.ownAt q2).2.1 (noIn hk q2) j)
      · exact ok4.inj j k a q1 q2
end
def compL (t : Tg) (c : TF) (el : EF) (vs : List Nat) : List W → List W → Ev → Res (List W)
  | [], acc, env => .ok acc env
  | w :: ws, acc, env => match bindT t w (wipeE env vs) with
    | none => .bad
    | some env2 => match c env2 with
      | .ok true env3 => (match fE el env3 with
        | .ok (.v y) env4 => if acc.length < 16777216 then compL t c el vs ws (acc ++ [y]) (restE env env4 vs) else .bad
        | _ => .bad)
      | .ok false env3 => compL t c el vs ws acc (restE env env3 vs)
      | _ => .bad
theorem compL_nil {t : Tg} {c : TF} {el : EF} {vs : List Nat} {acc : List W} {env : Ev} : compL t c el vs [] acc env = .ok acc env := rfl
theorem compL_cons {t : Tg} {c : TF} {el : EF} {vs : List Nat} {w : W} {ws acc : List W} {env : Ev} : compL t c el vs (w :: ws) acc env = (match bindT t w (wipeE env vs) with
    | none => .bad
    | some env2 => match c env2 with
      | .ok true env3 => (match fE el env3 with
        | .ok (.v y) env4 => if acc.length < 16777216 then compL t c el vs ws (acc ++ [y]) (restE env env4 vs) else .bad
        | _ => .bad)
      | .ok false env3 => compL t c el vs ws acc (restE env env3 vs)
      | _ => .bad) := rfl
def fYes : TF := fun env => .ok true env
def fLc (it : Ev → Res (List W)) (t : Tg) (c : TF) (el : EF) (vs : List Nat) : EF := fun env => (it env).bind fun ws env => match compL t c el vs ws [] env with
  | .ok ys env => .ok (.n (.lst ys)) env
  | _ => .bad
section
variable {X : Cx} {ci : Nat → Addr} {BS : List Nat} {tg iter elt : Expr} {ifs : List Expr} {scope : Scope} {own : List (Str × Nat)} {it : Ev → Res (List W)} {t : Tg} {c : TF} {el : EF} {pos : Pos}
theorem PE.imp {e : Expr} {t t' : TE} (h : PE X e t) (f : ∀ σ H Q, t' σ H Q → t σ H Q) : PE X e t' := ⟨fun pins s σ H Q I hw => h.run pins s σ H Q I (f σ H Q hw)⟩
theorem PT.imp {e : Expr} {t t' : TT} (h : PT X e t) (f : ∀ σ H Q, t' σ H Q → t σ H Q) : PT X e t' := ⟨fun pins s σ H Q I hw => h.run pins s σ H Q I (f σ H Q hw)⟩
theorem PG.imp {e : Expr} {t t' : TG} (h : PG X e t) (f : ∀ v σ H Q, t' v σ H Q → t v σ H Q) : PG X e t' := ⟨fun pins s σ H v u Q I r hw => h.run pins s σ H v u Q I r (f v σ H Q hw)⟩
structure Blk where
  s : Shared
  H : Hp
  C : Addr
  cl : List (Str × Addr)
  fp : List Addr
abbrev Cx.at (X : Cx) (scope : Scope) (b : Blk) : Cx := X.blk b.s b.H scope (compEnvC scope b.cl b.C X.env) b.fp
/-- the tests of a comprehension's clause -/
inductive SndIfs (X : Cx) (ci : Nat → Addr) (BS : List Nat) (scope : Scope) : List Expr → TF → Prop
  | none : SndIfs X ci BS scope [] fYes
  | one {e : Expr} {c : TF} (h : ∀ b : Blk, SndT (Cx.at X scope b) ci BS e c) : SndIfs X ci BS scope [e] c
theorem SndIfs.ex (h : SndIfs X ci BS scope ifs c) : ∃ tt : TT, (∀ b : Blk, PTs (Cx.at X scope b) ifs tt) ∧ ∀ (s : Sta) (Q : Bool → Hp → Prop), Ok X.K ci s → Acc X.K ci BS (fun _ _ _ _ => False) s (CT Q) (c s.env) → tt s.σ s.H Q := by
  cases h with
  | none => exact ⟨tYes, fun b => pts_nil, fun s Q ok h => h s.G s.H Step.refl ok⟩
  | one h =>
    refine ⟨fun σ H Q => ∀ b, (h b).ex.choose (fun _ _ _ _ => False) σ H Q, fun b => pts_one (PT.imp ((h b).ex.choose_spec.1 _ takes0) fun σ H Q z => z b), fun s Q ok a b => (h b).ex.choose_spec.2 _ s Q ok a⟩
theorem lc_core' {wi : WX → TI} (qi : ∀ (W' : WX) (s : Sta) (R : It → Hp → Prop), Ok X.K ci s → Acc X.K ci BS W' s (fun ws m => ∀ J Gp Y, ItOk X ci BS m ws J Gp Y → R J m.H) (it s.env) → wi W' s.σ s.H R)
    {g : TG} (qg : ∀ (s : Sta) (v : V) (w : W) (env' : Ev) (Q : L2.St → Hp → Prop), Ok X.K ci s → RepV X.K ci s.G v w → bindT t w s.env = some env' → GOut X ci BS s (idxT t) env' Q → g v s.σ s.H Q)
    {tt : TT} (qt : ∀ (s : Sta) (Q : Bool → Hp → Prop), Ok X.K ci s → Acc X.K ci BS (fun _ _ _ _ => False) s (CT Q) (c s.env) → tt s.σ s.H Q)
    {te : TE} (qe : ∀ (s : Sta) (Q : VK), Ok X.K ci s → Acc X.K ci BS (fun _ _ _ _ => False) s (CE X.K ci s Q) (fE el s.env) → te s.σ s.H Q)
    {vs : List Nat} (hv : ∀ i ∈ BS, i ∉ vs) (hi : ∀ j ∈ idxT t, j ∈ vs) (W' : WX) (s : Sta) (Q : VK) (ok : Ok X.K ci s) (h : Acc X.K ci BS W' s (CE X.K ci s Q) (fLc it t c el vs s.env)) : tLc (wi W') g tt te vs s.σ s.H Q := by
  refine qi W' s _ ok (h.bind.imp fun ws env1 G1 H1 st1 ok1 h1 => ?_)
  intro J Gp Y io D hD
  have h1 : Acc X.K ci BS W' ⟨env1, s.σ, G1, H1⟩ (CE X.K ci s Q) (match compL t c el vs ws [] env1 with
    | .ok ys env => .ok (.n (.lst ys)) env
    | _ => .bad) := h1
  have gD : G1 D = none := ok1.sub.free hD
  refine lc_it io.walk (fun i H => ∃ (G : Hp) (env : Ev) (va : List V) (wa : List W), Stp BS ⟨env1, s.σ, G1, H1⟩ ⟨env, s.σ, G, H⟩ ∧ Ok X.K ci ⟨env, s.σ, G, H⟩ ∧ H D = some (.lst va) ∧ RepVs X.K ci G va wa ∧ G D = none ∧ (∀ j, ¬ OwnAt env s.σ j D) ∧
    compL t c el vs ws [] env1 = compL t c el vs (ws.drop i) wa env) ?_ ?_ ?_ ?_
  · obtain ⟨st2, ok2, _, no⟩ := alloc_new (BS := BS) (o := .lst []) ok1 hD
    exact ⟨G1, env1, [], [], st2, ok2, upd_same, .nil, gD, no, rfl⟩
  · rintro i H hi' ⟨G, env, va, wa, st2, ok2, _⟩
    exact io.stays _ ok2 st2.sub
  · rintro i x H H' hi' ⟨G, env, va, wa, st2, ok2, eD, ra, gD', noD, eq⟩ y
    obtain ⟨w, G2, hw, st3, ok3, rv⟩ := io.gives ⟨env, s.σ, G, H⟩ i x H' ok2 st2.sub hi' y
    have hd : ws.drop i = w :: ws.drop (i + 1) := by
      obtain ⟨hl, e⟩ := List.getElem?_eq_some_iff.mp hw
      rw [List.drop_eq_getElem_cons hl, e]
    rw [hd, compL_cons] at eq
    rw [eq] at h1
    have nD : H D ≠ none := by rw [eD]; exact fun z => nomatch z
    have eD3 : H' D = some (.lst va) := st3.keep D _ eD noD
    have gD3 : G2 D = none := st3.pers D nD gD' noD
    have noD3 := st3.notOwn nD noD
    have nD3 : H' D ≠ none := by rw [eD3]; exact fun z => nomatch z
    cases e1 : bindT t w (wipeE env vs) with
    | none => rw [e1] at h1; exact h1.elim
    | some env2 =>
      rw [e1] at h1 eq
      dsimp only at h1 eq
      obtain ⟨stw, okw⟩ := wipe_ok (BS := BS) ok3 hv
      refine qg ⟨wipeE env vs, wipe s.σ vs, G2, H'⟩ x w env2 _ okw rv e1 fun σ2 st4 ok4 l4 k4 => ?_
      have l4' : σ2.length = s.σ.length := l4.trans (wipe_length _ _)
      have k4' : ∀ j, j ∉ vs → σ2[j]? = (wipe s.σ vs)[j]? := fun j hj => k4 j fun z => hj (hi j z)
      have k4'' : ∀ j, j ∉ vs → σ2[j]? = s.σ[j]? := fun j hj => (k4' j hj).trans (wipe_out' hj)
      refine ⟨wipe_eq l4' k4', ?_⟩
      refine qt ⟨env2, σ2, G2, H'⟩ _ ok4 ?_
      -- back to the def's slots
      have fin : ∀ {env5 : Ev} {G5 H5 : Hp}, Stp BS ⟨env2, σ2, G2, H'⟩ ⟨env5, σ2, G5, H5⟩ → Ok X.K ci ⟨env5, σ2, G5, H5⟩ →
          Stp BS ⟨env1, s.σ, G1, H1⟩ ⟨restE env env5 vs, s.σ, G5, H5⟩ ∧ Ok X.K ci ⟨restE env env5 vs, s.σ, G5, H5⟩ ∧ H5 D = some (.lst va) ∧ RepVs X.K ci G5 va wa ∧ G5 D = none ∧ ∀ j, ¬ OwnAt (restE env env5 vs) s.σ j D := fun {env5 G5 H5} st5 ok5 => by
        have stA := Step.trans stw (Step.trans st4 st5)
        obtain ⟨r1, r2⟩ := rest_ok (vs := vs) ok3 ok5 stA (Step.trans st4 st5) hv l4' k4''
        have stB := Step.trans st3 r1
        exact ⟨Step.trans st2 stB, r2, r1.keep D _ eD3 noD3, ra.mono stB.sub, r1.pers D nD3 gD3 noD3, r1.notOwn nD3 noD3⟩
      cases e2 : c env2 with
      | bad => rw [e2] at h1; exact h1.elim
      | er z env' => rw [e2] at h1; exact h1.elim
      | ok b env3 =>
        rw [e2] at h1 eq
        intro G5 H5 st5 ok5
        cases b with
        | false =>
          obtain ⟨f1, f2, f3, f4, f5, f6⟩ := fin st5 ok5
          exact ⟨G5, _, va, wa, f1, f2, f3, f4, f5, f6, eq⟩
        | true =>
          dsimp only at h1 eq
          refine qe ⟨env3, σ2, G5, H5⟩ _ ok5 ?_
          cases e3 : fE el env3 with
          | bad => rw [e3] at h1; exact h1.elim
          | er z env' => rw [e3] at h1; exact h1.elim
          | ok ov env4 =>
            rw [e3] at h1 eq
            cases ov with
            | s j => exact h1.elim
            | n u => exact h1.elim
            | v u =>
              dsimp only at h1 eq
              intro G6 H6 st6 ok6 v rep new
              by_cases hz : wa.length < 16777216
              · rw [if_pos hz] at eq
                obtain ⟨f1, f2, f3, f4, f5, f6⟩ := fin (Step.trans st5 st6) ok6
                refine ⟨va, f3, by rw [sizeLine_eq, f4.length]; exact hz, G6, _, va ++ [v], wa ++ [u], ?_, ?_, upd_same, f4.append (.cons rep .nil), f5, f6, eq⟩
                · have nb : ∀ {a : Addr}, H1 a ≠ none → a ≠ D := fun {a} ha z => ha (z ▸ hD)
                  exact ⟨f1.sub, fun a o ha no => by
                      show upd H6 D _ a = _
                      rw [upd_ne (nb (by rw [show H1 a = some o from ha]; exact fun z => nomatch z))]
                      exact f1.keep a o ha no, f1.pers, fun a ha => by
                      show upd H6 D _ a ≠ none
                      rw [upd_ne (nb ha)]
                      exact f1.here a ha, f1.new, f1.bs⟩
                · refine ⟨fun b o hb => ?_, f2.len, f2.dat, fun j u' hu => ?_, f2.inj⟩
                  · have nb : b ≠ D := fun z => by
                      rw [z] at hb
                      have hb' : G6 D = some o := hb
                      rw [f5] at hb'
                      cases hb'
                    show upd H6 D _ b = _
                    rw [upd_ne nb]
                    exact f2.sub b o hb
                  · obtain ⟨a, q1, q2, q3⟩ := f2.own j u' hu
                    have nb : a ≠ D := fun z => f6 j ⟨⟨u', hu⟩, z ▸ q1⟩
                    exact ⟨a, q1, q2, q3.mono (Same.refl _) fun o hb => by show upd H6 D _ a = _; rw [upd_ne nb]; exact hb⟩
              · rw [if_neg hz] at h1
                exact h1.elim
  · rintro H ⟨G, env, va, wa, st2, ok2, eD, ra, gD', noD, eq⟩
    rw [List.drop_length, compL_nil] at eq
    rw [eq] at h1
    refine h1 G H st2 ok2 (.ref D) ⟨D, rfl, .lst eD ra, gD', noD⟩ fun a e => ?_
    cases e
    cases q : s.H D with
    | none => rfl
    | some o => exact absurd hD (st1.here D (by rw [q]; exact fun z => nomatch z))
theorem x_lc (hc : X.calm = true) (hN : X.N.Nodup) (hi : SndI X ci BS tg iter it) (ok : BlkOk X.N X.env.scope scope own) (hg : ∀ b : Blk, SndG (Cx.at X scope b) ci BS tg t) (ht : SndIfs X ci BS scope ifs c) (he : ∀ b : Blk, SndE (Cx.at X scope b) ci BS elt el)
    (hv : ∀ i ∈ BS, i ∉ own.map (·.2)) (hidx : ∀ j ∈ idxT t, j ∈ own.map (·.2)) (hs : ∀ x, foldedSetIterable iter X.env x = pure x := by intro _; rfl) : SndE X ci BS (.ListComp elt [⟨tg, iter, ifs, 0⟩] scope pos) (fLc it t c el (own.map (·.2))) := by
  obtain ⟨wi, pi, qi⟩ := hi.ex
  obtain ⟨tt, pt, qt⟩ := ht.ex
  have he' : ∀ b : Blk, SndE (Cx.at X scope b) ci BS elt (fE el) := fun b => x_esc (he b)
  refine ⟨⟨fun W' => tLc (wi W') (fun v σ H Q => ∀ b, (hg b).ex.choose v σ H Q) tt (fun σ H Q => ∀ b, (he' b).ex.choose (fun _ _ _ _ => False) σ H Q) (own.map (·.2)), fun W' tk => ?_, fun W' s Q ok h => ?_⟩⟩
  · exact pe_lc hc hN (pi W' tk) ok (fun s H C cl fp => PG.imp ((hg ⟨s, H, C, cl, fp⟩).ex.choose_spec.1) fun v σ H Q z => z _) (fun s H C cl fp => pt ⟨s, H, C, cl, fp⟩) (fun s H C cl fp => PE.imp ((he' ⟨s, H, C, cl, fp⟩).ex.choose_spec.1 _ takes0) fun σ H Q z => z _) hs
  · exact lc_core' qi (g := fun v σ H Q => ∀ b, (hg b).ex.choose v σ H Q) (fun s v w env' Q ok r e o b => (hg b).ex.choose_spec.2 s v w env' Q ok r e o) qt (te := fun σ H Q => ∀ b, (he' b).ex.choose (fun _ _ _ _ => False) σ H Q) (fun s Q ok a b => (he' b).ex.choose_spec.2 _ s Q ok a) hv hidx W' s Q ok h
theorem s_setLc {i : Nat} {y : Str} {py spos : Pos} (hbi : i ∉ BS) (hc : X.calm = true) (hN : X.N.Nodup) (hy : X.N[i]? = some y) (hyl : X.env.scope.names.lookup y = some .local) (hsw : swapsWith (.ListComp elt [⟨tg, iter, ifs, 0⟩] scope pos) (some (.Name y py)) spos.line X.env = pure true)
    (hi : SndI X ci BS tg iter it) (ok : BlkOk X.N X.env.scope scope own) (hg : ∀ b : Blk, SndG (Cx.at X scope b) ci BS tg t) (ht : SndIfs X ci BS scope ifs c) (he : ∀ b : Blk, SndE (Cx.at X scope b) ci BS elt el)
    (hv : ∀ i ∈ BS, i ∉ own.map (·.2)) (hidx : ∀ j ∈ idxT t, j ∈ own.map (·.2)) (hs : ∀ x, foldedSetIterable iter X.env x = pure x := by intro _; rfl) : SndS X ci BS (.Assign [.Name y py] (.ListComp elt [⟨tg, iter, ifs, 0⟩] scope pos) spos) (sOwn i (fLc it t c el (own.map (·.2)))) := by
  obtain ⟨wi, pi, qi⟩ := hi.ex
  obtain ⟨tt, pt, qt⟩ := ht.ex
  have he' : ∀ b : Blk, SndE (Cx.at X scope b) ci BS elt (fE el) := fun b => x_esc (he b)
  refine ⟨⟨fun W' => tAsg (tLc (wi W') (fun v σ H Q => ∀ b, (hg b).ex.choose v σ H Q) tt (fun σ H Q => ∀ b, (he' b).ex.choose (fun _ _ _ _ => False) σ H Q) (own.map (·.2))) (gName i), fun W' tk => ?_, fun W' s D ok h => ?_⟩⟩
  · exact ps_setLc hc hN hy hyl hsw (pi W' tk) ok (fun s H C cl fp => PG.imp ((hg ⟨s, H, C, cl, fp⟩).ex.choose_spec.1) fun v σ H Q z => z _) (fun s H C cl fp => pt ⟨s, H, C, cl, fp⟩) (fun s H C cl fp => PE.imp ((he' ⟨s, H, C, cl, fp⟩).ex.choose_spec.1 _ takes0) fun σ H Q z => z _) hs
  · refine lc_core' qi (g := fun v σ H Q => ∀ b, (hg b).ex.choose v σ H Q) (fun s v w env' Q ok r e o b => (hg b).ex.choose_spec.2 s v w env' Q ok r e o) qt (te := fun σ H Q => ∀ b, (he' b).ex.choose (fun _ _ _ _ => False) σ H Q) (fun s Q ok a b => (he' b).ex.choose_spec.2 _ s Q ok a) hv hidx W' s _ ok ?_
    have h' : AccS X.K ci BS W' s D ((fLc it t c el (own.map (·.2)) s.env).andS fun ov env => match ov with | .n w => .nx (env.set i (.own w)) | _ => .bad) := h
    cases e1 : fLc it t c el (own.map (·.2)) s.env with
    | bad => rw [e1] at h'; exact h'.elim
    | er x env' => rw [e1] at h'; exact fun G' H' cls d st ok rx => h' s.σ G' H' cls d st ok rx
    | ok ov env' =>
      rw [e1] at h'
      cases ov with
      | n w =>
        intro G' H' st ok' v rep new
        obtain ⟨a, rfl, ro, ga, no⟩ := rep
        obtain ⟨st2, ok2⟩ := set_own (s := s) (m := ⟨env', s.σ, G', H'⟩) ok' st hbi ro ga no (new a rfl)
        exact h' _ _ _ st2 ok2
      | _ => exact h'.elim
end
end BV

set_option maxRecDepth 100000
set_option maxHeartbeats 2000000
/-! BGa: defs that are called while no repr is under way (repr may be called in them). -/
namespace BV
open PySem PySem.Spec PyProof.Rows L2

/-- room, and no guard is set -/
structure RoomG (k : Nat) (A : Around) : Prop where
  r : Room k A
  g : A.guards = some []
theorem RoomG.mono {j k : Nat} {A : Around} (q : RoomG k A) (h : j ≤ k) : RoomG j A := ⟨q.r.mono h, q.g⟩
theorem RoomG.deeper {k : Nat} {A : Around} (q : RoomG (k + 1) A) (env : Env) : RoomG k (A.deeper env) := ⟨q.r.deeper env, q.g⟩
theorem make_guards {A : Around} {C : Addr} {us : List Value} {kw : List (Str × Value)} (h : A.guards = some []) : (A.under (.builtin "type.__call__" ⟨.ref C :: us, kw⟩)).guards = some [] := by
  simp [Around.under, Code.guards, Code.isGuard, guardIds, pushGuards, h]
theorem RoomG.make {k : Nat} {A : Around} (q : RoomG (k + 1) A) (C : Addr) (us : List Value) (kw : List (Str × Value)) : RoomG k (A.under (.builtin "type.__call__" ⟨.ref C :: us, kw⟩)) :=
  ⟨q.r.make C us kw, make_guards q.g⟩
theorem RoomG.units {k : Nat} {A : Around} (q : RoomG k A) : A.units + 64 < cLine := q.r.units
theorem RoomG.units0 {k : Nat} {A : Around} (q : RoomG k A) : A.units < cLine := q.r.units0

/-- what a def keeps, wherever it is called without a guard -/
structure FnOkG (P : Program) (w : World) (K : PySem.W.Frag) (mg : Str → Option Value) (base : Heap) (CX : CXT) (k : Nat) (f : Addr) (fd : FuncData) (ps : List Str) (sp : Sp) : Prop where
  len : ∀ vs H Q E, sp vs H Q E → vs.length = ps.length
  go : ∀ (A : Around), RoomG k A → ∀ (outer : List Env) (s : Shared) (H : Hp) (args : Args) (us : List Value) (vs : List V) (Q : VK) (E : XK),
    Env0 P w K mg base A outer s H → BindsTo s fd args (ps.zip us) → Vals vs us → sp vs H Q E → codeAny (model P w) A (.call (.ref f) args) (CR CX outer P w H s Q E) s
section
variable {P : Program} {w : World} {K : PySem.W.Frag} {mg : Str → Option Value} {base : Heap} {CX : CXT} {f : Addr} {fd : FuncData} {ps : List Str} {sp sp' : Sp}
theorem FnOkG.mono {j k : Nat} (F : FnOkG P w K mg base CX j f fd ps sp) (h : j ≤ k) : FnOkG P w K mg base CX k f fd ps sp := ⟨F.len, fun A q => F.go A (q.mono h)⟩
theorem FnOkG.imp {k : Nat} (F : FnOkG P w K mg base CX k f fd ps sp) (h : ∀ vs H Q E, sp' vs H Q E → sp vs H Q E) : FnOkG P w K mg base CX k f fd ps sp' :=
  ⟨fun vs H Q E z => F.len vs H Q E (h _ _ _ _ z), fun A q outer s H args us vs Q E e0 b r z => F.go A q outer s H args us vs Q E e0 b r (h _ _ _ _ z)⟩
theorem fnG_of {k : Nat} (F : FnOk P w K mg base CX k f fd ps sp) : FnOkG P w K mg base CX k f fd ps sp :=
  ⟨F.len, fun A q outer s H args us vs Q E e0 b r z => F.run A outer s H args us vs Q E q.r e0 b r z⟩
/-- a body's end is the call's end -/
theorem ret_end {N : List Str} {qual : Str} {scope : Scope} {cdv : Value} {A : Around} {outer : List Env} {s s' : Shared} {H : Hp} {Q : VK} {E : XK} {fl : Flow}
    (hs : SP (cxOf CX P w K mg base N qual scope f cdv A outer s H E) [] { nx := fun _ H' => Q .non H', rt := Q } fl s') :
    CR CX outer P w H s Q E (.ok (.ret (match (generalizing := false) fl with | .ret v => v | _ => .none))) s' := by
  cases fl with
  | ret u => obtain ⟨v, τ, H', J, rv, q⟩ := hs; exact ⟨v, H', J.os, J.bare, J.base, J.hok, rv, q⟩
  | next => obtain ⟨τ, H', J, q⟩ := hs; exact ⟨.non, H', J.os, J.bare, J.base, J.hok, rfl, q⟩
  | brk => obtain ⟨τ, H', J, q⟩ := hs; exact q.elim
  | cont => obtain ⟨τ, H', J, q⟩ := hs; exact q.elim
/-- how a call comes into a body -/
theorem into {k : Nat} {name qual : Str} {params : Arguments} {body : List Stmt} {scope : Scope} {dV kV doc pm cdv ct oc : Value} {an od : Option Addr} {osl : Array (Option Value)} {N : List Str}
    (lk : K.lookup f = some ⟨oc, od, .func (PySem.W.fnOf name qual params body scope dV kV doc pm an cdv ct), osl⟩) (hcd : PySem.W.codeIn K cdv qual = true) (S : FnScope N ps scope)
    {A : Around} {outer : List Env} {s : Shared} {H : Hp} {args : Args} {us : List Value} {vs : List V} {Q : VK} {E : XK} (hr : RoomG (k + 1) A) (e0 : Env0 P w K mg base A outer s H)
    (hb : BindsTo s (PySem.W.fnOf name qual params body scope dV kV doc pm an cdv ct) args (ps.zip us)) (r : Vals vs us) (hl : vs.length = ps.length)
    (B : ∀ s1, Inv (cxOf CX P w K mg base N qual scope f cdv A outer s H E) [] (start N vs) H s1 →
      wpAny (model P w) (A.deeper (envOfC qual scope s.heap.objs.size f cdv)) (execs body (envOfC qual scope s.heap.objs.size f cdv)) (SP (cxOf CX P w K mg base N qual scope f cdv A outer s H E) [] { nx := fun _ H' => Q .non H', rt := Q })
        (cxOf CX P w K mg base N qual scope f cdv A outer s H E).xe s1) :
    codeAny (model P w) A (.call (.ref f) args) (CR CX outer P w H s Q E) s := by
  have old : ∀ b o, base.get? b = some o → s.heap.get? b = some o := fun b o e => (e0.bs b o e).1
  have KX : K.In s.heap := e0.mod.kin.keeps old
  refine codeAny_call_function hr.r.depth (KX _ _ lk) rfl S.co S.gen rfl (PySem.W.codeRec_of KX hcd) (hb _ _ _ _ (wpAny_newFunctionEnv_cells S.kind (fun y hy => ?_) fun env he s1 x => ?_))
  · rcases S.par y.1 (List.of_mem_zip (show (y.1, y.2) ∈ _ from hy)).1 with q | q
    · exact .inl q
    · exact .inr ⟨q, PySem.W.cellsFrom_some _ _ _ (.inl q)⟩
  · subst he
    exact ⟨(e0.mod.nolimit.keeps old).keeps x.toInCall.keep, codeAny_func (wpAny_mono (B s1 (inv_start S hr.r.hd e0 hl r x)) (fun fl s' hs => ret_end hs) fun e s' hs => hs)⟩
/-- THE RULE of a def -/
theorem fn_ofG {k : Nat} {name qual : Str} {params : Arguments} {body : List Stmt} {scope : Scope} {dV kV doc pm cdv ct oc : Value} {an od : Option Addr} {osl : Array (Option Value)} {N : List Str}
    (lk : K.lookup f = some ⟨oc, od, .func (PySem.W.fnOf name qual params body scope dV kV doc pm an cdv ct), osl⟩) (hcd : PySem.W.codeIn K cdv qual = true) (S : FnScope N ps scope) (len : ∀ vs H Q E, sp vs H Q E → vs.length = ps.length)
    (hb : ∀ (A : Around), RoomG (k + 1) A → ∀ (outer : List Env) (s : Shared) (H : Hp) (vs : List V) (Q : VK) (E : XK), RoomG k (A.deeper (envOfC qual scope s.heap.objs.size f cdv)) → sp vs H Q E →
      ∃ t, PSs (cxOf CX P w K mg base N qual scope f cdv A outer s H E) body t ∧ t { nx := fun _ H' => Q .non H', rt := Q } (start N vs) H) :
    FnOkG P w K mg base CX (k + 1) f (PySem.W.fnOf name qual params body scope dV kV doc pm an cdv ct) ps sp :=
  ⟨len, fun A hr outer s H args us vs Q E e0 b r h => into lk hcd S hr e0 b r (len _ _ _ _ h) fun s1 I => by
    obtain ⟨t, ht, q⟩ := hb A hr outer s H vs Q E (hr.deeper _) h
    exact ht.run [] s1 _ H _ I q⟩
/-- the same, a token being out when the lines begin -/
theorem fn_ofTG {k : Nat} {name qual : Str} {params : Arguments} {body : List Stmt} {scope : Scope} {dV kV doc pm cdv ct oc : Value} {an od : Option Addr} {osl : Array (Option Value)} {N : List Str}
    (lk : K.lookup f = some ⟨oc, od, .func (PySem.W.fnOf name qual params body scope dV kV doc pm an cdv ct), osl⟩) (hcd : PySem.W.codeIn K cdv qual = true) (S : FnScope N ps scope) (nc : ∀ y ∈ scope.names, y.2 ≠ .cell) (np : 1 ≤ ps.length)
    (len : ∀ vs H Q E, sp vs H Q E → vs.length = ps.length)
    (hb : ∀ (A : Around) (outer : List Env) (s : Shared) (H : Hp) (vs : List V) (Q : VK) (E : XK), RoomG k (A.deeper (envOfC qual scope s.heap.objs.size f cdv)) → sp vs H Q E →
      ∃ t, PSsT (cxOf CX P w K mg base N qual scope f cdv A outer s H E) body t ∧ t { nx := fun _ H' => Q .non H', rt := Q } (start N vs) H) :
    FnOkG P w K mg base CX (k + 1) f (PySem.W.fnOf name qual params body scope dV kV doc pm an cdv ct) ps sp := by
  refine ⟨len, fun A hr outer s H args us vs Q E e0 b r h => ?_⟩
  have hl := len _ _ _ _ h
  have old : ∀ b o, base.get? b = some o → s.heap.get? b = some o := fun b o e => (e0.bs b o e).1
  have KX : K.In s.heap := e0.mod.kin.keeps old
  have loc : ∀ y ∈ ps.zip us, scope.names.lookup y.1 = some .local := fun y hy => (S.par y.1 (List.of_mem_zip (show (y.1, y.2) ∈ _ from hy)).1).elim id fun q => absurd rfl (nc _ (PySem.mem_of_lookup q))
  have many : 1 ≤ (ps.zip us).length := by rw [List.length_zip, ← r.length, hl, Nat.min_self]; exact np
  refine codeAny_call_function hr.r.depth (KX _ _ lk) rfl S.co S.gen rfl (PySem.W.codeRec_of KX hcd) (b _ _ _ _ (wpAny_newFunctionEnv nc loc (fun h1 ns sb => ?_) S.kind))
  have keep : ∀ b o, s.heap.get? b = some o → h1.get? b = some o := fun b o e => sb.extBut b o (Nat.ne_of_lt (Heap.lt_size e)) (Heap.get?_push_of_some _ e)
  have hcl : cellsFrom (s.heap.objs.size + 1) scope.names [] = [] := cells_none _ _ _ nc
  have kl : ∀ y ∈ ps.zip us, (envOfC qual scope s.heap.objs.size f cdv).kindOf y.1 = some .local := fun y hy => by
    have q := loc y hy
    first
    | exact q
    | (simp only [Env.kindOf]; exact q)
    | (unfold Env.kindOf; rw [if_pos S.kind]; exact q)
  have hm : (bindL (envOfC qual scope s.heap.objs.size f cdv).kindOf (ps.zip us) fun _ => none) = fun x => (ps.zip us).reverse.lookup x := by
    funext y
    rw [bindL_loc _ _ kl y]
    cases (ps.zip us).reverse.lookup y <;> rfl
  have he : newEnv scope s.heap.objs.size mainGlobals [] (qual ++ ".<locals>.") (some f) cdv none builtinsNs = envOfC qual scope s.heap.objs.size f cdv := by
    unfold envOfC; rw [hcl] <;> rfl
  obtain ⟨s1, e1⟩ : ∃ s1 : Shared, s1 = { s with heap := h1, toks := s.toks + (ps.zip us).length } := ⟨_, rfl⟩
  have to : 1 ≤ s1.toks := by rw [e1]; exact Nat.le_trans many (Nat.le_add_left _ _)
  have x : InCallC s s.heap.objs.size (bindL (envOfC qual scope s.heap.objs.size f cdv).kindOf (ps.zip us) fun _ => none) (cellsFrom (s.heap.objs.size + 1) scope.names []) (bindC (envOfC qual scope s.heap.objs.size f cdv).kindOf (ps.zip us) fun _ => none) s1 := by
    rw [hm, hcl, e1]
    exact ⟨⟨⟨_, _, rfl⟩, ns, keep, Nat.le_refl _⟩, fun n c hc => (nomatch hc), .nil, fun n c hc => (nomatch hc)⟩
  obtain ⟨t, ht, q⟩ := hb A outer s H vs Q E (hr.deeper _) h
  have fin : s1.heap.NoLimit ∧ codeAny (model P w) A (.func body (envOfC qual scope s.heap.objs.size f cdv)) (CR CX outer P w H s Q E) s1 :=
    ⟨(e0.mod.nolimit.keeps old).keeps x.toInCall.keep, codeAny_func (wpAny_mono (ht [] s1 _ H _ to (inv_start S hr.r.hd e0 hl r x) q) (fun fl s' hs => ret_end hs) fun e s' hs => hs)⟩
  rw [← he, e1] at fin
  exact fin
theorem okXG {x qual : Str} {st : Stmt} {N : List Str} {k : Nat} (F : Fun K x qual st f fd) (S : FnScope N ps (defScope st)) (len : ∀ vs H Q E, sp vs H Q E → vs.length = ps.length)
    (hb : ∀ (cdv : Value) (A : Around) (outer : List Env) (s : Shared) (H : Hp) (vs : List V) (Q : VK) (E : XK), RoomG k (A.deeper (envOfC qual (defScope st) s.heap.objs.size f cdv)) → sp vs H Q E →
      ∃ t, PSs (cxOf CX P w K mg base N qual (defScope st) f cdv A outer s H E) (defBody st) t ∧ t { nx := fun _ H' => Q .non H', rt := Q } (start N vs) H) : FnOkG P w K mg base CX (k + 1) f fd ps sp := by
  obtain ⟨oc, od, kV, doc, pm, an, cdv, ct, osl, rfl, lk, hcd⟩ := F.ex
  exact fn_ofG lk hcd S len fun A _ outer s H vs Q E hr h => hb cdv A outer s H vs Q E hr h
end
/-! ### calls -/
section
variable {X : Cx} {CX : CXT} {k : Nat} {f : Addr} {fd : FuncData} {ps : List Str} {sp : Sp} {E : L2.St → XK} {x : Str} {p pos : Pos} {e : Expr} {es : List Expr} {t : TA}
theorem run_fnG {pins : List (Addr × Obj)} {σ : L2.St} {H : Hp} {s : Shared} {Q : VK} {us : List Value} {vs : List V} (F : FnOkG X.prog X.w X.K X.mg X.base CX k f fd ps sp) (hr : RoomG k X.A) (hb : Binds X.K fd ps []) (hx : PassesAt CX X σ (E σ))
    (I : Inv X pins σ H s) (r : Vals vs us) (h : sp vs H Q (E σ)) : wpAny (model X.prog X.w) X.A (call (.ref f) us) (EP X pins σ Q) X.xe s := by
  have b : BindsTo s fd ⟨us, []⟩ (ps.zip us) := by
    have z := hb s us I.kIn (by rw [List.append_nil, ← r.length]; exact F.len _ _ _ _ h)
    rwa [List.append_nil] at z
  refine wpAny_call (codeAny_mono (F.go X.A hr X.stack s H ⟨us, []⟩ us vs Q (E σ) I.env0 b r h) fun z s' hq => ?_)
  match z, hq with
  | .error e, hq => exact hx pins H s e s' I hq
  | .ok (.ret u), hq => exact I.after hq
  | .ok .next, hq => exact hq.elim
  | .ok .brk, hq => exact hq.elim
  | .ok .cont, hq => exact hq.elim
theorem pe_callG (F : FnOkG X.prog X.w X.K X.mg X.base CX k f fd ps sp) (hr : RoomG k X.A) (hg : Gl X x) (hm : X.mg x = some (.ref f)) (hk : PySem.W.keepIn X.K (.ref f) = true) (hb : Binds X.K fd ps []) (hx : ∀ σ, PassesAt CX X σ (E σ))
    (ha : PA X (e :: es) t) (hdb : (x == ("__debug__" : Str)) = false := by decide) (he : starEach (e :: es) X.env = (false, eval e X.env) :: starEach es X.env := by rfl) (hpl : (backTo pos (starEach es X.env)).any (·.1) = false := by rfl) :
    PE X (.Call (.Name x p) (e :: es) [] pos) (tCallS sp E t) :=
  ⟨fun pins s σ H Q I h => wpAny_Call_Name_kw (ld_glob I hg hm (PySem.W.callWith_K (h₀ := X.base) I.ok.mod.kin hk (thn (ha.run pos pins s σ H _ I h) fun us s1 ⟨vs, H1, I1, r, q⟩ => ⟨I1.kIn, run_fnG F hr hb (hx σ) I1 r q⟩) he hpl) hdb)⟩
end
end BV

set_option maxRecDepth 100000
set_option maxHeartbeats 4000000
/-! BV: defs and calls. -/
namespace BV
open PySem PySem.Spec PyProof.Rows L2
inductive CRes where
  | bad | ok (w : W) (outs : List W) | nw (w : W) (outs : List W) | er (x : Exc) (outs : List W)
abbrev FnD := List W → CRes
section
variable (K : PySem.W.Frag) (ci : Nat → Addr) (G H : Hp)
inductive ArgR : List Bool → List V → List W → Prop
  | nil : ArgR [] [] []
  | val {ks : List Bool} {v : V} {vs : List V} {w : W} {ws : List W} (h : RepV K ci G v w) (r : ArgR ks vs ws) : ArgR (false :: ks) (v :: vs) (w :: ws)
  | io {ks : List Bool} {a : Addr} {vs : List V} {w : W} {ws : List W} (g : G a = none) (h : RepO K ci G H a w) (r : ArgR ks vs ws) : ArgR (true :: ks) (.ref a :: vs) (w :: ws)
end
def ios : List Bool → List V → List Addr
  | true :: ks, .ref a :: vs => a :: ios ks vs
  | _ :: ks, _ :: vs => ios ks vs
  | _, _ => []
def ioIdx : Nat → List Bool → List Nat
  | _, [] => []
  | n, true :: ks => n :: ioIdx (n + 1) ks
  | n, false :: ks => ioIdx (n + 1) ks
structure CStep (B : List Addr) (G H G' H' : Hp) : Prop where
  sub : Same G G'
  subH : Same G' H'
  keep : ∀ a o, H a = some o → a ∉ B → H' a = some o
  pers : ∀ a, H a ≠ none → G a = none → G' a = none
  here : ∀ a, H a ≠ none → H' a ≠ none
section
variable (K : PySem.W.Frag) (ci : Nat → Addr)
def OutR (G' H' : Hp) (B : List Addr) (outs : List W) : Prop := Paired (fun a w => RepO K ci G' H' a w ∧ G' a = none) B outs
def AccC (G H : Hp) (B : List Addr) (Q : VK) (E : XK) : CRes → Prop
  | .bad => False
  | .ok w outs => ∀ G' H' v, CStep B G H G' H' → OutR K ci G' H' B outs → RepV K ci G' v w → Q v H'
  | .nw w outs => ∀ G' H' a, CStep B G H G' H' → OutR K ci G' H' B outs → RepO K ci G' H' a w → G' a = none → H a = none → Q (.ref a) H'
  | .er x outs => ∀ G' H' cls d, CStep B G H G' H' → OutR K ci G' H' B outs → RepX K ci G' H' cls d x → E cls d H'
def spF (ks : List Bool) (g : FnD) : Sp := fun vs H Q E => ∃ G args, Same G H ∧ ArgR K ci G H ks vs args ∧ (ios ks vs).Nodup ∧ AccC K ci G H (ios ks vs) Q E (g args)
end
def argEnv : List Bool → List W → Ev
  | true :: ks, w :: ws => .own w :: argEnv ks ws
  | false :: ks, w :: ws => .dat w :: argEnv ks ws
  | _, _ => []
def outsE (env : Ev) : List Nat → Option (List W)
  | [] => some []
  | i :: is => match env[i]? with
    | some (.own w) => (outsE env is).map (w :: ·)
    | _ => none
def fdef (n : Nat) (ks : List Bool) (f : SF) : FnD := fun args => match f (argEnv ks args ++ List.replicate (n - args.length) Sl.no) with
  | .nx env => (match outsE env (ioIdx 0 ks) with | some os => .ok .non os | none => .bad)
  | .rt w env => (match outsE env (ioIdx 0 ks) with | some os => .ok w os | none => .bad)
  | .rn w env => (match outsE env (ioIdx 0 ks) with | some os => .nw w os | none => .bad)
  | .er x env => (match outsE env (ioIdx 0 ks) with | some os => .er x os | none => .bad)
  | _ => .bad
section
variable {K : PySem.W.Frag} {ci : Nat → Addr} {G H G' H' : Hp}
theorem ArgR.len {ks : List Bool} {vs : List V} {ws : List W} (h : ArgR K ci G H ks vs ws) : vs.length = ks.length ∧ ws.length = ks.length := by
  induction h with
  | nil => exact ⟨rfl, rfl⟩
  | val _ _ ih => exact ⟨congrArg (· + 1) ih.1, congrArg (· + 1) ih.2⟩
  | io _ _ _ ih => exact ⟨congrArg (· + 1) ih.1, congrArg (· + 1) ih.2⟩
theorem argEnv_len {ks : List Bool} {vs : List V} {ws : List W} (h : ArgR K ci G H ks vs ws) : (argEnv ks ws).length = ws.length := by
  induction h with
  | nil => rfl
  | val _ _ ih => exact congrArg (· + 1) ih
  | io _ _ _ ih => exact congrArg (· + 1) ih
theorem arg_dat {ks : List Bool} {vs : List V} {ws : List W} (h : ArgR K ci G H ks vs ws) : ∀ {i : Nat} {w : W}, (argEnv ks ws)[i]? = some (.dat w) → ∃ v, vs[i]? = some v ∧ RepV K ci G v w := by
  induction h with
  | nil => intro i w e; cases e
  | val r _ ih =>
    intro i w e
    cases i with
    | zero => cases e; exact ⟨_, rfl, r⟩
    | succ i => exact ih e
  | io g r _ ih =>
    intro i w e
    cases i with
    | zero => cases e
    | succ i => exact ih e
theorem arg_own {ks : List Bool} {vs : List V} {ws : List W} (h : ArgR K ci G H ks vs ws) : ∀ {i n : Nat} {w : W}, (argEnv ks ws)[i]? = some (.own w) → n + i ∈ ioIdx n ks ∧ ∃ a, vs[i]? = some (.ref a) ∧ G a = none ∧ RepO K ci G H a w ∧ a ∈ ios ks vs := by
  induction h with
  | nil => intro i n w e; cases e
  | val r _ ih =>
    intro i n w e
    cases i with
    | zero => cases e
    | succ i =>
      obtain ⟨h1, a, h2, h3, h4, h5⟩ := ih (n := n + 1) e
      refine ⟨?_, a, h2, h3, h4, ?_⟩
      · unfold ioIdx
        rw [show n + (i + 1) = n + 1 + i by omega]
        exact h1
      · unfold ios
        exact h5
  | io g r _ ih =>
    intro i n w e
    cases i with
    | zero =>
      cases e
      exact ⟨by unfold ioIdx; exact List.mem_cons_self .., _, rfl, g, r, by unfold ios; exact List.mem_cons_self ..⟩
    | succ i =>
      obtain ⟨h1, a, h2, h3, h4, h5⟩ := ih (n := n + 1) e
      refine ⟨?_, a, h2, h3, h4, by unfold ios; exact List.mem_cons_of_mem _ h5⟩
      unfold ioIdx
      rw [show n + (i + 1) = n + 1 + i by omega]
      exact List.mem_cons_of_mem _ h1
theorem arg_inj {ks : List Bool} {vs : List V} {ws : List W} (h : ArgR K ci G H ks vs ws) : (ios ks vs).Nodup → ∀ {i j : Nat} {w u : W} {a : Addr}, (argEnv ks ws)[i]? = some (.own w) → (argEnv ks ws)[j]? = some (.own u) → vs[i]? = some (.ref a) → vs[j]? = some (.ref a) → i = j := by
  induction h with
  | nil => intro _ i j w u a e; cases e
  | val r _ ih =>
    intro nd i j w u a e1 e2 q1 q2
    cases i with
    | zero => cases e1
    | succ i =>
      cases j with
      | zero => cases e2
      | succ j => exact congrArg (· + 1) (ih nd e1 e2 q1 q2)
  | @io ks b vs w0 ws g r rr ih =>
    intro nd i j w u a e1 e2 q1 q2
    unfold ios at nd
    obtain ⟨n1, n2⟩ := List.nodup_cons.mp nd
    cases i with
    | zero =>
      cases j with
      | zero => rfl
      | succ j =>
        obtain ⟨_, c, p1, _, _, p2⟩ := arg_own (n := 0) rr e2
        have q2' : vs[j]? = some (.ref a) := q2
        rw [p1] at q2'
        have ec : c = a := V.ref.inj (Option.some.inj q2')
        have eb : b = a := V.ref.inj (Option.some.inj q1)
        rw [ec, ← eb] at p2
        exact absurd p2 n1
    | succ i =>
      cases j with
      | zero =>
        obtain ⟨_, c, p1, _, _, p2⟩ := arg_own (n := 0) rr e1
        have q1' : vs[i]? = some (.ref a) := q1
        rw [p1] at q1'
        have ec : c = a := V.ref.inj (Option.some.inj q1')
        have eb : b = a := V.ref.inj (Option.some.inj q2)
        rw [ec, ← eb] at p2
        exact absurd p2 n1
      | succ j => exact congrArg (· + 1) (ih n2 e1 e2 q1 q2)
/-- the borrowed objects at the end -/
theorem outs_ok {ks : List Bool} {vs : List V} {ws : List W} (h : ArgR K ci G H ks vs ws) {env' : Ev} : ∀ {n : Nat} {outs : List W}, (∀ i a, vs[i]? = some (.ref a) → n + i ∈ ioIdx n ks → ∀ w, env'[n + i]? = some (.own w) → RepO K ci G' H' a w ∧ G' a = none) → outsE env' (ioIdx n ks) = some outs → OutR K ci G' H' (ios ks vs) outs := by
  induction h with
  | nil =>
    intro n outs _ e
    cases e
    exact .nil
  | @val ks v vs w ws r _ ih =>
    intro n outs hh e
    unfold ios
    refine ih (n := n + 1) (fun i a q m w e2 => hh (i + 1) a q ?_ w (by rw [show n + (i + 1) = n + 1 + i by omega]; exact e2)) e
    unfold ioIdx
    rw [show n + (i + 1) = n + 1 + i by omega]
    exact m
  | @io ks b vs w ws g r _ ih =>
    intro n outs hh e
    unfold ioIdx outsE at e
    unfold ios
    cases e1 : env'[n]? with
    | none => rw [e1] at e; cases e
    | some sl =>
      rw [e1] at e
      cases sl with
      | no => cases e
      | dat w => cases e
      | own u =>
        have e : (outsE env' (ioIdx (n + 1) ks)).map (u :: ·) = some outs := e
        cases e2 : outsE env' (ioIdx (n + 1) ks) with
        | none => rw [e2] at e; cases e
        | some os =>
          rw [e2] at e
          cases e
          refine .cons (hh 0 b rfl (by unfold ioIdx; exact List.mem_cons_self ..) u e1) (ih (n := n + 1) (fun i a q m w e2 => hh (i + 1) a q ?_ w (by rw [show n + (i + 1) = n + 1 + i by omega]; exact e2)) e2)
          unfold ioIdx
          rw [show n + (i + 1) = n + 1 + i by omega]
          exact List.mem_cons_of_mem _ m
theorem get_app_rep {l : Ev} {k i : Nat} {sl : Sl} (h : (l ++ List.replicate k .no)[i]? = some sl) (ns : sl ≠ .no) : l[i]? = some sl := by
  by_cases hi : i < l.length
  · rw [List.getElem?_append_left hi] at h
    exact h
  · rw [List.getElem?_append_right (by omega)] at h
    have z := List.mem_of_getElem? h
    rw [List.mem_replicate] at z
    exact absurd z.2 ns
theorem start_ok {N : List Str} {ks : List Bool} {vs : List V} {ws : List W} (sub : Same G H) (h : ArgR K ci G H ks vs ws) (nd : (ios ks vs).Nodup) :
    Ok K ci ⟨argEnv ks ws ++ List.replicate (N.length - ws.length) Sl.no, L2.start N vs, G, H⟩ := by
  obtain ⟨l1, l2⟩ := h.len
  have hs : ∀ {i : Nat} {v : V}, vs[i]? = some v → (L2.start N vs)[i]? = some (some v) := fun {i v} e => by
    unfold L2.start
    have hi : i < vs.length := (List.getElem?_eq_some_iff.mp e).1
    rw [List.getElem?_append_left (by rw [List.length_map]; exact hi), List.getElem?_map, e]
    rfl
  refine ⟨sub, ?_, fun i w e => ?_, fun i w e => ?_, fun i j a h1 h2 => ?_⟩
  · show (argEnv ks ws ++ List.replicate (N.length - ws.length) Sl.no).length = (L2.start N vs).length
    unfold L2.start
    rw [List.length_append, List.length_append, argEnv_len h, List.length_replicate, List.length_map, List.length_replicate, l1, l2]
  · obtain ⟨v, q1, q2⟩ := arg_dat h (get_app_rep e (fun z => nomatch z))
    exact ⟨v, hs q1, q2⟩
  · obtain ⟨_, a, q1, q2, q3, _⟩ := arg_own (n := 0) h (get_app_rep e (fun z => nomatch z))
    exact ⟨a, hs q1, q2, q3⟩
  · obtain ⟨⟨u1, e1⟩, p1⟩ := h1
    obtain ⟨⟨u2, e2⟩, p2⟩ := h2
    have e1' := get_app_rep e1 (fun z => nomatch z)
    have e2' := get_app_rep e2 (fun z => nomatch z)
    obtain ⟨_, b, q1, _⟩ := arg_own (n := 0) h e1'
    obtain ⟨_, c, q2, _⟩ := arg_own (n := 0) h e2'
    have r1 := hs q1
    have r2 := hs q2
    rw [p1] at r1
    rw [p2] at r2
    cases r1
    cases r2
    exact arg_inj h nd e1' e2' q1 q2
theorem start_own {N : List Str} {ks : List Bool} {vs : List V} {ws : List W} (h : ArgR K ci G H ks vs ws) {i : Nat} {a : Addr} (o : OwnAt (argEnv ks ws ++ List.replicate (N.length - ws.length) Sl.no) (L2.start N vs) i a) : i ∈ ioIdx 0 ks ∧ a ∈ ios ks vs := by
  obtain ⟨⟨u, e⟩, p⟩ := o
  obtain ⟨m, b, q, _, _, m2⟩ := arg_own (n := 0) h (get_app_rep e (fun z => nomatch z))
  have hs : (L2.start N vs)[i]? = some (some (.ref b)) := by
    unfold L2.start
    have hi : i < vs.length := (List.getElem?_eq_some_iff.mp q).1
    rw [List.getElem?_append_left (by rw [List.length_map]; exact hi), List.getElem?_map, q]
    rfl
  rw [p] at hs
  cases hs
  rw [Nat.zero_add] at m
  exact ⟨m, m2⟩
theorem own_start {N : List Str} {ks : List Bool} {vs : List V} {ws : List W} (h : ArgR K ci G H ks vs ws) : ∀ {i n : Nat}, n + i ∈ ioIdx n ks → ∃ w a, (argEnv ks ws)[i]? = some (.own w) ∧ vs[i]? = some (.ref a) := by
  have low : ∀ {ks : List Bool} {n m : Nat}, m ∈ ioIdx n ks → n ≤ m := by
    intro ks
    induction ks with
    | nil => intro n m h; cases h
    | cons b ks ih =>
      intro n m h
      cases b with
      | true =>
        unfold ioIdx at h
        rcases List.mem_cons.mp h with z | z
        · omega
        · have := ih z; omega
      | false =>
        unfold ioIdx at h
        have := ih h; omega
  induction h with
  | nil => intro i n m; cases m
  | val r _ ih =>
    intro i n m
    unfold ioIdx at m
    cases i with
    | zero => have := low m; omega
    | succ i =>
      rw [show n + (i + 1) = n + 1 + i by omega] at m
      exact ih m
  | io g r _ ih =>
    intro i n m
    unfold ioIdx at m
    cases i with
    | zero => exact ⟨_, _, rfl, rfl⟩
    | succ i =>
      rw [show n + (i + 1) = n + 1 + i by omega] at m
      rcases List.mem_cons.mp m with z | z
      · omega
      · exact ih z
/-- a def's end, for its caller -/
theorem cstep_of {N : List Str} {ks : List Bool} {vs : List V} {ws : List W} (h : ArgR K ci G H ks vs ws) {env' : Ev} {σ' : L2.St}
    (st : Stp (ioIdx 0 ks) ⟨argEnv ks ws ++ List.replicate (N.length - ws.length) Sl.no, L2.start N vs, G, H⟩ ⟨env', σ', G', H'⟩) (ok' : Ok K ci ⟨env', σ', G', H'⟩) :
    CStep (ios ks vs) G H G' H' ∧ ∀ outs, outsE env' (ioIdx 0 ks) = some outs → OutR K ci G' H' (ios ks vs) outs := by
  have key : ∀ i a, vs[i]? = some (.ref a) → 0 + i ∈ ioIdx 0 ks → ∀ w, env'[0 + i]? = some (.own w) → RepO K ci G' H' a w ∧ G' a = none := fun i a q m w e => by
    obtain ⟨b, p1, p2, p3⟩ := ok'.own (0 + i) w e
    have z := (st.bs (0 + i) m).1
    have hs : (L2.start N vs)[0 + i]? = some (some (.ref a)) := by
      rw [Nat.zero_add]
      unfold L2.start
      have hi : i < vs.length := (List.getElem?_eq_some_iff.mp q).1
      rw [List.getElem?_append_left (by rw [List.length_map]; exact hi), List.getElem?_map, q]
      rfl
    have z' : σ'[0 + i]? = some (some (.ref a)) := z.trans hs
    rw [p1] at z'
    cases z'
    exact ⟨p3, p2⟩
  refine ⟨⟨st.sub, ok'.sub, fun a o e n => st.keep a o e fun i w => n (start_own h w).2, fun a e g => ?_, st.here⟩, fun outs e => outs_ok h key e⟩
  by_cases hh : ∃ i, OwnAt (argEnv ks ws ++ List.replicate (N.length - ws.length) Sl.no) (L2.start N vs) i a
  · obtain ⟨i, o⟩ := hh
    obtain ⟨m, _⟩ := start_own h o
    obtain ⟨z1, z2⟩ := st.bs i m
    obtain ⟨w, e2⟩ := z2 o.1
    obtain ⟨b, p1, p2, p3⟩ := ok'.own i w e2
    have z' : σ'[i]? = some (some (.ref a)) := z1.trans o.2
    rw [p1] at z'
    cases z'
    exact p2
  · exact st.pers a e g fun i w => hh ⟨i, w⟩
end
section
variable {P : Program} {w : World} {K : PySem.W.Frag} {mg : Str → Option Value} {base : Heap} {ci : Nat → Addr}
theorem fn_zero {k : Nat} {f : Addr} {fd : FuncData} {ps : List Str} {ks : List Bool} (hk : ks.length = ps.length) : FnOkG P w K mg base (L2.CX P w) k f fd ps (spF K ci ks fun _ => .bad) :=
  ⟨fun vs H Q E ⟨G, args, _, r, _⟩ => by rw [r.len.1, hk], fun A _ outer s H args us vs Q E _ _ _ ⟨G, a, _, _, _, z⟩ => z.elim⟩
/-- THE RULE of a def -/
theorem fn_ok {x qual : Str} {st : Stmt} {f : Addr} {fd : FuncData} {N ps : List Str} {k : Nat} {ks : List Bool} {sf : SF} (F : Fun K x qual st f fd) (S : FnScope N ps (defScope st)) (hk : ks.length = ps.length)
    (body : ∀ (cdv : Value) (A : Around) (outer : List Env) (s : Shared) (H : Hp) (E : XK), RoomG k (A.deeper (envOfC qual (defScope st) s.heap.objs.size f cdv)) → SndSs (cxOf (L2.CX P w) P w K mg base N qual (defScope st) f cdv A outer s H E) ci (ioIdx 0 ks) (defBody st) sf) :
    FnOkG P w K mg base (L2.CX P w) (k + 1) f fd ps (spF K ci ks (fdef N.length ks sf)) := by
  refine okXG F S (fun vs H Q E ⟨G, args, _, r, _⟩ => by rw [r.len.1, hk]) (fun cdv A outer s H vs Q E hr hsp => ?_)
  obtain ⟨G, args, sub, ar, nd, acc⟩ := hsp
  obtain ⟨ts, p, q⟩ := (body cdv A outer s H E hr).ex
  refine ⟨ts fun cls d _ H => E cls d H, p _ (takes_of rfl rfl rfl rfl), ?_⟩
  refine q (fun cls d _ H => E cls d H) ⟨argEnv ks args ++ List.replicate (N.length - args.length) Sl.no, L2.start N vs, G, H⟩ _ (start_ok sub ar nd) ?_
  unfold fdef at acc
  cases e : sf (argEnv ks args ++ List.replicate (N.length - args.length) Sl.no) with
  | bad => rw [e] at acc; exact acc.elim
  | bk env => rw [e] at acc; exact acc.elim
  | ct env => rw [e] at acc; exact acc.elim
  | nx env =>
    rw [e] at acc
    dsimp only at acc
    cases e2 : outsE env (ioIdx 0 ks) with
    | none => rw [e2] at acc; exact acc.elim
    | some os =>
      rw [e2] at acc
      intro σ' G' H' st' ok'
      obtain ⟨c1, c2⟩ := cstep_of ar st' ok'
      exact acc G' H' .non c1 (c2 _ e2) .non
  | rt r env =>
    rw [e] at acc
    dsimp only at acc
    cases e2 : outsE env (ioIdx 0 ks) with
    | none => rw [e2] at acc; exact acc.elim
    | some os =>
      rw [e2] at acc
      intro σ' G' H' v st' ok' rv
      obtain ⟨c1, c2⟩ := cstep_of ar st' ok'
      exact acc G' H' v c1 (c2 _ e2) rv
  | rn r env =>
    rw [e] at acc
    dsimp only at acc
    cases e2 : outsE env (ioIdx 0 ks) with
    | none => rw [e2] at acc; exact acc.elim
    | some os =>
      rw [e2] at acc
      intro σ' G' H' a st' ok' ro ga no nw
      obtain ⟨c1, c2⟩ := cstep_of ar st' ok'
      refine acc G' H' a c1 (c2 _ e2) ro ga ?_
      rcases nw with z | ⟨j, hj, z⟩
      · exact z
      · exact absurd (start_own ar z).1 hj
  | er x env =>
    rw [e] at acc
    dsimp only at acc
    cases e2 : outsE env (ioIdx 0 ks) with
    | none => rw [e2] at acc; exact acc.elim
    | some os =>
      rw [e2] at acc
      intro σ' G' H' cls d st' ok' rx
      obtain ⟨c1, c2⟩ := cstep_of ar st' ok'
      exact acc G' H' cls d c1 (c2 _ e2) rx
end
end BV

set_option maxRecDepth 100000
set_option maxHeartbeats 4000000
/-! BV: calls of defs, raise, try, the methods that change a slot's own list. -/
namespace BV
open PySem PySem.Spec PyProof.Rows L2
def mixA : List Bool → List OV → Ev → Option (List W × List Nat)
  | [], [], _ => some ([], [])
  | false :: ks, .v w :: os, env => (mixA ks os env).map fun p => (w :: p.1, p.2)
  | true :: ks, .s i :: os, env => match env[i]? with
    | some (.own w) => (mixA ks os env).map fun p => (w :: p.1, i :: p.2)
    | _ => none
  | _, _, _ => none
def setIo : Ev → List Nat → List W → Ev
  | env, i :: is, w :: ws => setIo (env.set i (.own w)) is ws
  | env, _, _ => env
def fCall (ks : List Bool) (g : FnD) (fa : AF) : EF := fun env => (fa env).bind fun ovs env => match mixA ks ovs env with
  | none => .bad
  | some (args, idx) => if idx.Nodup then (match g args with
    | .ok w outs => .ok (.v w) (setIo env idx outs)
    | .nw w outs => .ok (.n w) (setIo env idx outs)
    | .er x outs => .er x (setIo env idx outs)
    | .bad => .bad) else .bad
section
variable {X : Cx} {ci : Nat → Addr} {BS : List Nat}
theorem mix_ok {m : Sta} (ok : Ok X.K ci m) : ∀ {ks : List Bool} {vs : List V} {ovs : List OV} {args : List W} {idx : List Nat}, Paired (RepOV X.K ci m) vs ovs → mixA ks ovs m.env = some (args, idx) →
    ArgR X.K ci m.G m.H ks vs args ∧ Paired (OwnAt m.env m.σ) idx (ios ks vs) := by
  intro ks
  induction ks with
  | nil =>
    intro vs ovs args idx r e
    cases ovs with
    | nil => cases r; cases e; exact ⟨.nil, .nil⟩
    | cons o os => cases e
  | cons b ks ih =>
    intro vs ovs args idx r e
    cases ovs with
    | nil => cases b <;> cases e
    | cons o os =>
      cases r with
      | @cons v _ vs _ r1 r2 =>
        cases b with
        | false =>
          cases o with
          | s i => cases e
          | n w => cases e
          | v w =>
            unfold mixA at e
            cases q : mixA ks os m.env with
            | none => rw [q] at e; cases e
            | some p =>
              rw [q] at e
              cases e
              obtain ⟨h1, h2⟩ := ih r2 q
              exact ⟨.val r1 h1, by unfold ios; exact h2⟩
        | true =>
          cases o with
          | v w => cases e
          | n w => cases e
          | s i =>
            unfold mixA at e
            cases q0 : m.env[i]? with
            | none => rw [q0] at e; cases e
            | some sl =>
              rw [q0] at e
              cases sl with
              | no => cases e
              | dat w => cases e
              | own w =>
                dsimp only at e
                cases q : mixA ks os m.env with
                | none => rw [q] at e; cases e
                | some p =>
                  rw [q] at e
                  cases e
                  obtain ⟨h1, h2⟩ := ih r2 q
                  obtain ⟨a, p1, p2, p3⟩ := ok.own i w q0
                  have r1' : m.σ[i]? = some (some v) := r1
                  rw [p1] at r1'
                  cases r1'
                  exact ⟨.io p2 p3 h1, by unfold ios; exact .cons ⟨⟨w, q0⟩, p1⟩ h2⟩
theorem ownp_nodup {m : Sta} (ok : Ok X.K ci m) : ∀ {idx : List Nat} {B : List Addr}, Paired (OwnAt m.env m.σ) idx B → idx.Nodup → B.Nodup := by
  intro idx
  induction idx with
  | nil => intro B p _; cases p; exact List.nodup_nil
  | cons i is ih =>
    intro B p nd
    cases p with
    | @cons _ a _ B h r =>
      obtain ⟨n1, n2⟩ := List.nodup_cons.mp nd
      refine List.nodup_cons.mpr ⟨fun hm => ?_, ih r n2⟩
      have : ∀ {is : List Nat} {B : List Addr}, Paired (OwnAt m.env m.σ) is B → a ∈ B → i ∈ is := by
        intro is
        induction is with
        | nil => intro B p h; cases p; cases h
        | cons j js ih2 =>
          intro B p hb
          cases p with
          | cons h' r' =>
            rcases List.mem_cons.mp hb with z | z
            · subst z
              rw [ok.inj i j _ h h']
              exact List.mem_cons_self ..
            · exact List.mem_cons_of_mem _ (ih2 r' z)
      exact n1 (this r hm)
/-- the slots whose objects were borrowed have them back -/
theorem after_io {m : Sta} {G' H' : Hp} : ∀ {idx : List Nat} {B : List Addr} {outs : List W} {env : Ev}, Paired (OwnAt env m.σ) idx B → idx.Nodup → OutR X.K ci G' H' B outs → Ok X.K ci ⟨env, m.σ, G', H'⟩ ∨ True →
    (∀ j, j ∉ idx → (setIo env idx outs)[j]? = env[j]?) ∧ (∀ j a, j ∈ idx → m.σ[j]? = some (some (.ref a)) → ∃ w, (setIo env idx outs)[j]? = some (.own w) ∧ RepO X.K ci G' H' a w ∧ G' a = none) ∧ (setIo env idx outs).length = env.length := by
  intro idx
  induction idx with
  | nil => intro B outs env p nd o _; cases p; cases o; exact ⟨fun _ _ => rfl, fun _ _ h => (by cases h), rfl⟩
  | cons i is ih =>
    intro B outs env p nd o _
    cases p with
    | @cons _ a _ B h r =>
      cases o with
      | @cons _ w _ outs ho ro =>
        obtain ⟨n1, n2⟩ := List.nodup_cons.mp nd
        have il : i < env.length := (List.getElem?_eq_some_iff.mp h.1.choose_spec).1
        have r' : Paired (OwnAt (env.set i (.own w)) m.σ) is B := by
          have : ∀ {is : List Nat} {B : List Addr}, i ∉ is → Paired (OwnAt env m.σ) is B → Paired (OwnAt (env.set i (.own w)) m.σ) is B := by
            intro is
            induction is with
            | nil => intro B _ p; cases p; exact .nil
            | cons j js ih2 =>
              intro B hj p
              rw [List.mem_cons, not_or] at hj
              cases p with
              | cons h' r' => exact .cons ⟨by rw [List.getElem?_set_ne hj.1]; exact h'.1, h'.2⟩ (ih2 hj.2 r')
          exact this n1 r
        obtain ⟨k1, k2, k3⟩ := ih (env := env.set i (.own w)) r' n2 ro (.inr trivial)
        refine ⟨fun j hj => ?_, fun j b hj hb => ?_, ?_⟩
        · rw [List.mem_cons, not_or] at hj
          show (setIo (env.set i (.own w)) is outs)[j]? = _
          rw [k1 j hj.2, List.getElem?_set_ne (Ne.symm hj.1)]
        · rcases List.mem_cons.mp hj with z | z
          · subst z
            rw [h.2] at hb
            cases hb
            refine ⟨w, ?_, ho.1, ho.2⟩
            show (setIo (env.set j (.own w)) is outs)[j]? = _
            rw [k1 j n1, List.getElem?_set_self il]
          · exact k2 j b z hb
        · show (setIo (env.set i (.own w)) is outs).length = _
          rw [k3, List.length_set]
theorem after_call {m : Sta} (ok : Ok X.K ci m) {idx : List Nat} {B : List Addr} {outs : List W} {G' H' : Hp} (p : Paired (OwnAt m.env m.σ) idx B) (nd : idx.Nodup) (c : CStep B m.G m.H G' H') (o : OutR X.K ci G' H' B outs) :
    Stp BS m ⟨setIo m.env idx outs, m.σ, G', H'⟩ ∧ Ok X.K ci ⟨setIo m.env idx outs, m.σ, G', H'⟩ := by
  obtain ⟨k1, k2, k3⟩ := after_io (X := X) (ci := ci) (m := m) (env := m.env) p nd o (.inr trivial)
  have inIdx : ∀ {is : List Nat} {B : List Addr}, Paired (OwnAt m.env m.σ) is B → (∀ j ∈ is, ∃ a, a ∈ B ∧ OwnAt m.env m.σ j a) ∧ (∀ a ∈ B, ∃ j, j ∈ is ∧ OwnAt m.env m.σ j a) := by
    intro is
    induction is with
    | nil => intro B p; cases p; exact ⟨fun _ h => (by cases h), fun _ h => (by cases h)⟩
    | cons i is ih =>
      intro B p
      cases p with
      | @cons _ a _ B h r =>
        obtain ⟨q1, q2⟩ := ih r
        refine ⟨fun j hj => ?_, fun b hb => ?_⟩
        · rcases List.mem_cons.mp hj with z | z
          · exact ⟨a, List.mem_cons_self .., z ▸ h⟩
          · obtain ⟨b, b1, b2⟩ := q1 j z
            exact ⟨b, List.mem_cons_of_mem _ b1, b2⟩
        · rcases List.mem_cons.mp hb with z | z
          · exact ⟨i, List.mem_cons_self .., z ▸ h⟩
          · obtain ⟨j, j1, j2⟩ := q2 b z
            exact ⟨j, List.mem_cons_of_mem _ j1, j2⟩
  obtain ⟨q1, q2⟩ := inIdx p
  have own : ∀ {j : Nat} {a : Addr}, OwnAt (setIo m.env idx outs) m.σ j a → OwnAt m.env m.σ j a := fun {j a} ⟨⟨u, e⟩, q⟩ => by
    by_cases hj : j ∈ idx
    · obtain ⟨b, _, h⟩ := q1 j hj
      have hb := h.2
      rw [q] at hb
      cases hb
      exact h
    · rw [k1 j hj] at e
      exact ⟨⟨u, e⟩, q⟩
  refine ⟨⟨c.sub, fun a o e n => c.keep a o e fun hb => ?_, fun a e g n => c.pers a e g, c.here, fun j a h => ?_, fun j hj => ⟨rfl, fun ⟨u, e⟩ => ?_⟩⟩, ⟨c.subH, by rw [k3]; exact ok.len, fun j u e => ?_, fun j u e => ?_, fun j k a h1 h2 => ok.inj j k a (own h1) (own h2)⟩⟩
  · obtain ⟨j, _, h⟩ := q2 a hb
    exact n j h
  · by_cases hB : j ∈ BS
    · exact .inl ⟨hB, own h⟩
    · exact .inr ⟨hB, .inr ⟨j, hB, own h⟩⟩
  · by_cases hi : j ∈ idx
    · obtain ⟨a, _, h⟩ := q1 j hi
      obtain ⟨w, e2, _⟩ := k2 j a hi h.2
      exact ⟨w, e2⟩
    · exact ⟨u, by show (setIo m.env idx outs)[j]? = _; rw [k1 j hi]; exact e⟩
  · have e' : (setIo m.env idx outs)[j]? = some (.dat u) := e
    by_cases hi : j ∈ idx
    · obtain ⟨a, _, h⟩ := q1 j hi
      obtain ⟨w, e2, _⟩ := k2 j a hi h.2
      rw [e2] at e'
      cases e'
    · rw [k1 j hi] at e'
      obtain ⟨v, p1, p2⟩ := ok.dat j u e'
      exact ⟨v, p1, p2.mono c.sub⟩
  · have e' : (setIo m.env idx outs)[j]? = some (.own u) := e
    by_cases hi : j ∈ idx
    · obtain ⟨a, _, h⟩ := q1 j hi
      obtain ⟨w, e2, r1, r2⟩ := k2 j a hi h.2
      rw [e2] at e'
      cases e'
      exact ⟨a, h.2, r2, r1⟩
    · rw [k1 j hi] at e'
      obtain ⟨a, p1, p2, p3⟩ := ok.own j u e'
      have nB : a ∉ B := fun hb => by
        obtain ⟨k, hk, h⟩ := q2 a hb
        exact hi (ok.inj j k a ⟨⟨u, e'⟩, p1⟩ h ▸ hk)
      exact ⟨a, p1, c.pers a p3.ne p2, p3.mono c.sub fun o h => c.keep a o h nB⟩
theorem call_acc {m s : Sta} {W' : WX} {Q : VK} {ks : List Bool} {g : FnD} {vs : List V} {ovs : List OV} (st : Stp BS s m) (ok : Ok X.K ci m) (r : Paired (RepOV X.K ci m) vs ovs)
    (h : Acc X.K ci BS W' m (CE X.K ci s Q) (match mixA ks ovs m.env with
      | none => .bad
      | some (args, idx) => if idx.Nodup then (match g args with
        | .ok w outs => .ok (.v w) (setIo m.env idx outs)
        | .nw w outs => .ok (.n w) (setIo m.env idx outs)
        | .er x outs => .er x (setIo m.env idx outs)
        | .bad => .bad) else .bad)) : spF X.K ci ks g vs m.H Q (WE W' m.σ) := by
  cases e : mixA ks ovs m.env with
  | none => rw [e] at h; exact h.elim
  | some p =>
    obtain ⟨args, idx⟩ := p
    rw [e] at h
    dsimp only at h
    obtain ⟨ar, pr⟩ := mix_ok ok r e
    by_cases nd : idx.Nodup
    · rw [if_pos nd] at h
      refine ⟨m.G, args, ok.sub, ar, ownp_nodup ok pr nd, ?_⟩
      cases e2 : g args with
      | bad => rw [e2] at h; exact h.elim
      | ok w outs =>
        rw [e2] at h
        intro G' H' v c o rv
        obtain ⟨s1, ok1⟩ := after_call (BS := BS) ok pr nd c o
        exact h G' H' s1 ok1 v rv trivial
      | nw w outs =>
        rw [e2] at h
        intro G' H' a c o ro ga na
        obtain ⟨s1, ok1⟩ := after_call (BS := BS) ok pr nd c o
        refine h G' H' s1 ok1 (.ref a) ⟨a, rfl, ro, ga, fun j hj => ?_⟩ fun b eb => ?_
        · rcases s1.new j a hj with ⟨_, z⟩ | ⟨_, z | ⟨k, _, z⟩⟩
          · exact (ok.ownAt z).2.1 na
          · have hh := (ok1.ownAt hj)
            -- a new object that a slot would own: the slots own what they owned
            obtain ⟨⟨u, eu⟩, q⟩ := hj
            by_cases hi : j ∈ idx
            · obtain ⟨k1, k2, _⟩ := after_io (X := X) (ci := ci) (m := m) (env := m.env) pr nd o (.inr trivial)
              have : ∀ {is : List Nat} {B : List Addr}, Paired (OwnAt m.env m.σ) is B → j ∈ is → ∃ b, OwnAt m.env m.σ j b := by
                intro is
                induction is with
                | nil => intro B p h; cases h
                | cons i is ih =>
                  intro B p h
                  cases p with
                  | cons h' r' =>
                    rcases List.mem_cons.mp h with z | z
                    · exact ⟨_, z ▸ h'⟩
                    · exact ih r' z
              obtain ⟨b, hb⟩ := this pr hi
              have q2 := hb.2
              rw [show m.σ[j]? = some (some (.ref a)) from q] at q2
              cases q2
              exact (ok.ownAt hb).2.1 na
            · obtain ⟨k1, _, _⟩ := after_io (X := X) (ci := ci) (m := m) (env := m.env) pr nd o (.inr trivial)
              have eu' : (setIo m.env idx outs)[j]? = some (.own u) := eu
              rw [k1 j hi] at eu'
              exact (ok.ownAt ⟨⟨u, eu'⟩, q⟩).2.1 na
          · exact (ok.ownAt z).2.1 na
        · cases eb
          cases q : s.H a with
          | none => rfl
          | some o' => exact absurd na (st.here a (by rw [q]; exact fun z => nomatch z))
      | er x outs =>
        rw [e2] at h
        intro G' H' cls d c o rx
        obtain ⟨s1, ok1⟩ := after_call (BS := BS) ok pr nd c o
        exact h G' H' cls d s1 ok1 rx
    · rw [if_neg nd] at h
      exact h.elim
theorem x_call {k : Nat} {f : Addr} {fd : FuncData} {ps : List Str} {ks : List Bool} {g : FnD} {x : Str} {p pos : Pos} {e : Expr} {es : List Expr} {fa : AF} (F : FnOkG X.prog X.w X.K X.mg X.base (L2.CX X.prog X.w) k f fd ps (spF X.K ci ks g)) (hr : RoomG k X.A) (hg : Gl X x) (hm : X.mg x = some (.ref f)) (hk : PySem.W.keepIn X.K (.ref f) = true) (hb : Binds X.K fd ps [])
    (ha : SndA X ci BS (e :: es) fa) (hdb : (x == ("__debug__" : Str)) = false := by decide) (he : starEach (e :: es) X.env = (false, eval e X.env) :: starEach es X.env := by rfl) (hpl : (backTo pos (starEach es X.env)).any (·.1) = false := by rfl) : SndE X ci BS (.Call (.Name x p) (e :: es) [] pos) (fCall ks g fa) := by
  obtain ⟨t, pp, q⟩ := ha.ex
  refine ⟨⟨fun W' => tCallS (spF X.K ci ks g) (WE W') (t W'), fun W' tk => pe_callG F hr hg hm hk hb (fun σ => passAt tk σ) (pp W' tk) hdb he hpl, fun W' s Q ok h => ?_⟩⟩
  refine q W' s _ ok (h.bind.imp fun ovs env1 G1 H1 st1 ok1 h1 => ?_)
  intro vs reps
  exact call_acc (m := ⟨env1, s.σ, G1, H1⟩) (W' := W') st1 ok1 reps h1
/-! ### raise -/
theorem pmk_own0 {C : Addr} {bmB : List Value} {B newId initId : String} {x : Str} {p pos : Pos} (F : ExcBaseFacts B newId initId bmB) (q : PySem.W.excIn X.K C bmB newId = true) (gC : X.mg x = some (.ref C)) (kC : PySem.W.keepIn X.K (.ref C) = true) (r : Raises X (.ref C)) (hg : Gl X x)
    (hdb : (x == ("__debug__" : Str)) = false := by decide) : PMk X (.Call (.Name x p) [] [] pos) (fun _ H Q => Q (.ref C) none H) := by
  intro pins s σ H Q I h
  refine wpAny_Call_Name_kw (ld_glob I hg gC ?_ hdb)
  refine PySem.W.callWith_K0 I.kIn kC ?_
  obtain ⟨bm, N, nm, qn, bs, hdct, sn, sub, ab, col, dd, k0, k1, k2, k3, k5, mN, hC, hN, hni, T⟩ := exc_obj I.kIn q
  refine wpAny_call_exc_subT F T hC hN hni (fun h' e hm => ?_) (by show 0 ≤ sizeLine; exact Nat.zero_le _)
  exact mk_of I hm r h (I.hok.gone hm.new)
theorem s_raise0 {c : Nat} {x : Str} {p pos pos2 : Pos} (hc : X.calm = true) (q : PySem.W.excIn X.K (ci c) PySem.HandSPX.veTail "ValueError.__new__" = true) (gC : X.mg x = some (.ref (ci c))) (kC : PySem.W.keepIn X.K (.ref (ci c)) = true) (h1 : PySem.W.subIn X.K (.ref (ci c)) (.type "BaseException") = some true) (h2 : PySem.W.typeIn X.K (.ref (ci c)) = some (.type "type")) (hg : Gl X x)
    (hdb : (x == ("__debug__" : Str)) = false := by decide) : SndS X ci BS (.Raise (some (.Call (.Name x p) [] [] pos)) none pos2) (fun env => .er ⟨c, []⟩ env) := by
  refine ⟨⟨fun W' => fun _ σ H => W' (.ref (ci c)) none σ H, fun W' tk => ps_raise hc tk (pmk_own0 PySem.F.excBase_ValueError q gC kC (raises_own h1 h2) hg hdb), fun W' s D ok h => ?_⟩⟩
  exact h s.σ s.G s.H (.ref (ci c)) none Step.refl ok ⟨rfl, .inl ⟨rfl, rfl⟩⟩
/-! ### try -/
def pick (hs : List ((Nat → Option Bool) × SF)) (x : Exc) (env : Ev) : SR := match hs with
  | [] => .er x env
  | (t, g) :: r => match t x.c with
    | none => .bad
    | some true => (match g env with
      | .er _ _ => .bad
      | r => r)
    | some false => pick r x env
def sTry (f : SF) (hs : List ((Nat → Option Bool) × SF)) : SF := fun env => match f env with
  | .er x env' => pick hs x env'
  | r => r
structure Tst (K : PySem.W.Frag) (ci : Nat → Addr) (c : Value) (t : Nat → Option Bool) : Prop where
  is : ∀ n b, t n = some b → PySem.W.exmOne K (.ref (ci n)) c = some b
inductive SndHs (X : Cx) (ci : Nat → Addr) (BS : List Nat) : List ExceptHandler → List ((Nat → Option Bool) × SF) → Prop
  | nil : SndHs X ci BS [] []
  | cons {x : Str} {c : Value} {t : Nat → Option Bool} {g : SF} {b₀ : Stmt} {suite : List Stmt} {np pos' : Pos} {hds : List ExceptHandler} {l : List ((Nat → Option Bool) × SF)} (hc : Names X x c) (ht : Tst X.K ci c t)
      (hsu : ∀ (a : Addr) (oe : Obj) (pn : List (Addr × Obj)), SndSs (X.suite a ((a, oe) :: pn)) ci BS (b₀ :: suite) g) (r : SndHs X ci BS hds l) : SndHs X ci BS (.ExceptHandler (some (.Name x np)) none (b₀ :: suite) pos' :: hds) ((t, g) :: l)
theorem PSs.imp {sts : List Stmt} {t t' : TS} (h : PSs X sts t) (f : ∀ D σ H, t' D σ H → t D σ H) : PSs X sts t' := ⟨fun pins s σ H D I hw => h.run pins s σ H D I (f D σ H hw)⟩
theorem hds_ok {hds : List ExceptHandler} {l : List ((Nat → Option Bool) × SF)} (h : SndHs X ci BS hds l) : ∃ tl : List (Value × (Addr → Value → Option Addr → TS)), HdsOk X hds tl ∧ ∀ (Wout : WX) (D : Ends) (s : Sta) (x : Exc) (cls : Value) (d : Option Addr), Ok X.K ci s → RepX X.K ci s.G s.H cls d x → AccS X.K ci BS Wout s D (pick l x s.env) → wMany X.K Wout D tl cls d s.σ s.H := by
  induction h with
  | nil => exact ⟨[], .nil, fun Wout D s x cls d ok rx h => h s.σ s.G s.H cls d Step.refl ok rx⟩
  | @cons x c t g b₀ suite np pos' hds l hc ht hsu r ih =>
    obtain ⟨tl, h1, h2⟩ := ih
    refine ⟨(c, fun a cls d => fun D σ H => ∀ oe pn, (hsu a oe pn).ex.choose (fun _ _ _ _ => False) D σ H) :: tl, .cons hc (fun a oe cls d pn hz hf => ?_) h1, fun Wout D s x cls d ok rx h => ?_⟩
    · exact PSs.imp ((hsu a oe pn).ex.choose_spec.1 _ takes0) fun D σ H z => z oe pn
    · unfold pick at h
      cases e : t x.c with
      | none => rw [e] at h; exact h.elim
      | some b =>
        rw [e] at h
        refine ⟨b, by rw [rx.1]; exact ht.is _ _ e, fun hb a ha oe pn => ?_, fun hb => ?_⟩
        · subst hb
          dsimp only at h
          refine (hsu a oe pn).ex.choose_spec.2 _ s D ok ?_
          cases e2 : g s.env with
          | er y env' => rw [e2] at h; exact h.elim
          | bad => rw [e2] at h; exact h
          | nx env' => rw [e2] at h; exact h
          | rt w env' => rw [e2] at h; exact h
          | rn w env' => rw [e2] at h; exact h
          | bk env' => rw [e2] at h; exact h
          | ct env' => rw [e2] at h; exact h
        · subst hb
          exact h2 Wout D s x cls d ok rx h
theorem s_try {body : List Stmt} {f : SF} {h₀ : ExceptHandler} {hds : List ExceptHandler} {l : List ((Nat → Option Bool) × SF)} {pos : Pos} (hs : X.stack = X.env :: X.outer) (hf : X.env.frame = some X.env.locals)
    (hb : ∀ (pn : List (Addr × Obj)) (xe : Value → Shared → Prop), PassesOwn (model X.prog X.w) X.A X.env xe → SndSs (X.tr pn xe) ci BS body f) (hh : SndHs X ci BS (h₀ :: hds) l) : SndS X ci BS (.Try body (h₀ :: hds) [] [] pos) (sTry f l) := by
  obtain ⟨tl, h1, h2⟩ := hds_ok hh
  refine ⟨⟨fun W' => fun D σ H => (fun (W2 : WX) => (fun D σ H => ∀ pn xe hp, (hb pn xe hp).ex.choose W2 D σ H : TS)) (wMany X.K W' D tl) D σ H, fun W' tk => ?_, fun W' s D ok h => ?_⟩⟩
  · exact ps_try_many (tb := fun W2 => (fun D σ H => ∀ pn xe hp, (hb pn xe hp).ex.choose W2 D σ H : TS)) hs hf tk (fun W2 pn xe tk2 hp => PSs.imp ((hb pn xe hp).ex.choose_spec.1 W2 tk2) fun D σ H z => z pn xe hp) h1
  · intro pn xe hp
    refine (hb pn xe hp).ex.choose_spec.2 _ s D ok ?_
    have h' : AccS X.K ci BS W' s D (match f s.env with | .er x env' => pick l x env' | r => r) := h
    cases e : f s.env with
    | bad => rw [e] at h'; exact h'
    | nx env' => rw [e] at h'; exact h'
    | rt w env' => rw [e] at h'; exact h'
    | rn w env' => rw [e] at h'; exact h'
    | bk env' => rw [e] at h'; exact h'
    | ct env' => rw [e] at h'; exact h'
    | er x env' =>
      rw [e] at h'
      intro σ' G' H' cls d st ok' rx
      exact h2 W' D ⟨env', σ', G', H'⟩ x cls d ok' rx (AccS.mid h' st)
end
end BV

set_option maxRecDepth 100000
set_option maxHeartbeats 4000000
/-! BV: the methods that change a slot's own list; zip. -/
namespace BV
open PySem PySem.Spec PyProof.Rows L2
def ownL (env : Ev) (i : Nat) : Option (List W) := match env[i]? with
  | some (.own (.lst ws)) => some ws
  | _ => none
def sApp (i : Nat) (f : EF) : SF := fun env => match ownL env i with
  | none => .bad
  | some _ => (fE f env).andS fun ov env => match ov with
    | .v w => (match ownL env i with
      | some ws => if ws.length < 16777216 then .nx (env.set i (.own (.lst (ws ++ [w])))) else .bad
      | none => .bad)
    | _ => .bad
def sExt (i : Nat) (f : EF) : SF := fun env => match ownL env i with
  | none => .bad
  | some _ => (fE f env).andS fun ov env => match ov with
    | .v (.lst us) => (match ownL env i with
      | some ws => if ws.length + us.length ≤ 16777216 then .nx (env.set i (.own (.lst (ws ++ us)))) else .bad
      | none => .bad)
    | _ => .bad
def sSetIx (i : Nat) (fi fe : EF) : SF := fun env => (fE fe env).andS fun ov env => match ov with
  | .v w => (match ownL env i with
    | none => .bad
    | some _ => (fi env).andS fun ok env => match (getOV ok env).bind asI with
      | some k => (match ownL env i with
        | some ws => (match ixN ws.length k with
          | some j => .nx (env.set i (.own (.lst (ws.set j w))))
          | none => .bad)
        | none => .bad)
      | none => .bad)
  | _ => .bad
theorem ownL_is {env : Ev} {i : Nat} {ws : List W} (h : ownL env i = some ws) : env[i]? = some (.own (.lst ws)) := by
  unfold ownL at h
  split at h
  · rename_i q
    cases h
    exact q
  · cases h
section
variable {X : Cx} {ci : Nat → Addr} {BS : List Nat} {e e2 : Expr} {f fi g : EF} {pos p1 p2 p3 : Pos}
theorem ownL_at {s : Sta} (ok : Ok X.K ci s) {i : Nat} {ws : List W} (h : ownL s.env i = some ws) : ∃ a vs, s.σ[i]? = some (some (.ref a)) ∧ s.H a = some (.lst vs) ∧ RepVs X.K ci s.G vs ws ∧ s.env[i]? = some (.own (.lst ws)) := by
  have h' := ownL_is h
  obtain ⟨a, q1, _, q3⟩ := ok.own i _ h'
  cases q3 with
  | lst h1 r => exact ⟨a, _, q1, h1, r, h'⟩
theorem s_app (i : Nat) {x : Str} (he : SndE X ci BS e f) (hN : X.N[i]? = some x := by rfl) (hv : Vis X.env.scope x := by first | exact Or.inl rfl | exact Or.inr (Or.inl rfl) | exact Or.inr (Or.inr rfl)) (hd : (x == ("__debug__" : Str)) = false := by decide)
    (hcd : (x == ("__classdict__" : Str)) = false := by decide) (hbase : attributeBase (.Name x p1) "append" X.env (eval (.Name x p1) X.env) = eval (.Name x p1) X.env := by rfl)
    (hfew : ((backTo p3 (starEach [e] X.env)).all (fun x => !x.1) && (backToKw p3 (keywordEach [] X.env)).all (fun x => x.1.isSome) && decide ([e].length + ([] : List Keyword).length + (if ([] : List Keyword).isEmpty then 0 else 1) < 30)) = true := by rfl)
    (hline : (p2.endLine == p3.line) = true := by rfl) (hst : starEach [e] X.env = (false, eval e X.env) :: starEach [] X.env := by rfl) (hplain : (backTo p3 (starEach [] X.env)).any (·.1) = false := by rfl)
    (hs : swapsWith (.Call (.Attribute (.Name x p1) "append" p2) [e] [] p3) none pos.line X.env = pure false := by rfl) : SndS X ci BS (.Expr (.Call (.Attribute (.Name x p1) "append" p2) [e] [] p3) pos) (sApp i f) := by
  obtain ⟨t, p, q⟩ := (x_esc he).ex
  refine ⟨⟨fun W' => tDrop (tBM X.K "list" rAppend (tVar i) (tCons (t W') tNil)), fun W' tk => ps_expr (pe_bm PySem.F.plainAttrs_list PySem.F.slot_list_append PySem.F.type_list_append mt_append (pe_var hN hv hd hcd) (pa_cons (p W' tk) pa_nil hst) hbase hfew hline hst hplain) hs, fun W' s D ok h => ?_⟩⟩
  unfold sApp at h
  cases e0 : ownL s.env i with
  | none => rw [e0] at h; exact h.elim
  | some ws0 =>
    rw [e0] at h
    obtain ⟨a, vs0, h1, h2, _, _⟩ := ownL_at ok e0
    refine ⟨.ref a, h1, .inl ⟨rfl, vs0, .inl (.inl h2)⟩, ?_⟩
    refine q W' s _ ok (h.andS.imp fun ov env1 G1 H1 st1 ok1 h1' => ?_)
    intro v rep new
    cases ov with
    | v w =>
      dsimp only at h1'
      cases e1 : ownL env1 i with
      | none => rw [e1] at h1'; exact h1'.elim
      | some ws =>
        rw [e1] at h1'
        dsimp only at h1'
        obtain ⟨b, vs, k1, k2, k3, k4⟩ := ownL_at (s := ⟨env1, s.σ, G1, H1⟩) ok1 e1
        have eb : s.σ[i]? = some (some (.ref b)) := k1
        rw [h1] at eb
        cases eb
        by_cases hz : ws.length < 16777216
        · rw [if_pos hz] at h1'
          obtain ⟨st2, ok2⟩ := upd_own (BS := BS) (s := ⟨env1, s.σ, G1, H1⟩) (o := .lst (vs ++ [v])) (w' := .lst (ws ++ [w])) ok1 k4 k1 (.lst upd_same (k3.append (.cons rep .nil)))
          exact ⟨a, vs, v, rfl, rfl, k2, by rw [sizeLine_eq, k3.length]; exact hz, h1' _ _ _ st2 ok2⟩
        · rw [if_neg hz] at h1'
          exact h1'.elim
    | _ => exact h1'.elim
theorem s_ext (i : Nat) {x : Str} (he : SndE X ci BS e f) (hN : X.N[i]? = some x := by rfl) (hv : Vis X.env.scope x := by first | exact Or.inl rfl | exact Or.inr (Or.inl rfl) | exact Or.inr (Or.inr rfl)) (hd : (x == ("__debug__" : Str)) = false := by decide)
    (hcd : (x == ("__classdict__" : Str)) = false := by decide) (hbase : attributeBase (.Name x p1) "extend" X.env (eval (.Name x p1) X.env) = eval (.Name x p1) X.env := by rfl)
    (hfew : ((backTo p3 (starEach [e] X.env)).all (fun x => !x.1) && (backToKw p3 (keywordEach [] X.env)).all (fun x => x.1.isSome) && decide ([e].length + ([] : List Keyword).length + (if ([] : List Keyword).isEmpty then 0 else 1) < 30)) = true := by rfl)
    (hline : (p2.endLine == p3.line) = true := by rfl) (hst : starEach [e] X.env = (false, eval e X.env) :: starEach [] X.env := by rfl) (hplain : (backTo p3 (starEach [] X.env)).any (·.1) = false := by rfl)
    (hs : swapsWith (.Call (.Attribute (.Name x p1) "extend" p2) [e] [] p3) none pos.line X.env = pure false := by rfl) : SndS X ci BS (.Expr (.Call (.Attribute (.Name x p1) "extend" p2) [e] [] p3) pos) (sExt i f) := by
  obtain ⟨t, p, q⟩ := (x_esc he).ex
  refine ⟨⟨fun W' => tDrop (tBM X.K "list" rExtend (tVar i) (tCons (t W') tNil)), fun W' tk => ps_expr (pe_bm PySem.F.plainAttrs_list PySem.F.slot_list_extend PySem.F.type_list_extend mt_extend (pe_var hN hv hd hcd) (pa_cons (p W' tk) pa_nil hst) hbase hfew hline hst hplain) hs, fun W' s D ok h => ?_⟩⟩
  unfold sExt at h
  cases e0 : ownL s.env i with
  | none => rw [e0] at h; exact h.elim
  | some ws0 =>
    rw [e0] at h
    obtain ⟨a, vs0, h1, h2, _, _⟩ := ownL_at ok e0
    refine ⟨.ref a, h1, .inl ⟨rfl, vs0, .inl (.inl h2)⟩, ?_⟩
    refine q W' s _ ok (h.andS.imp fun ov env1 G1 H1 st1 ok1 h1' => ?_)
    intro v rep new
    cases ov with
    | v w =>
      cases w with
      | lst us =>
        dsimp only at h1'
        cases e1 : ownL env1 i with
        | none => rw [e1] at h1'; exact h1'.elim
        | some ws =>
          rw [e1] at h1'
          dsimp only at h1'
          obtain ⟨b, vs, k1, k2, k3, k4⟩ := ownL_at (s := ⟨env1, s.σ, G1, H1⟩) ok1 e1
          have eb : s.σ[i]? = some (some (.ref b)) := k1
          rw [h1] at eb
          cases eb
          cases rep with
          | @lst c zs _ hc rc =>
            by_cases hz : ws.length + us.length ≤ 16777216
            · rw [if_pos hz] at h1'
              obtain ⟨st2, ok2⟩ := upd_own (BS := BS) (s := ⟨env1, s.σ, G1, H1⟩) (o := .lst (vs ++ zs)) (w' := .lst (ws ++ us)) ok1 k4 k1 (.lst upd_same (k3.append rc))
              exact ⟨a, c, vs, zs, rfl, rfl, k2, ok1.sub _ _ hc, by rw [sizeLine_eq, k3.length, rc.length]; exact hz, h1' _ _ _ st2 ok2⟩
            · rw [if_neg hz] at h1'
              exact h1'.elim
      | _ => exact h1'.elim
    | _ => exact h1'.elim
/-- x[k] = e -/
theorem s_setIx (i : Nat) {x : Str} (hi : SndE X ci BS e2 fi) (he : SndE X ci BS e f) (hN : X.N[i]? = some x := by rfl) (hv : Vis X.env.scope x := by first | exact Or.inl rfl | exact Or.inr (Or.inl rfl) | exact Or.inr (Or.inr rfl)) (hd : (x == ("__debug__" : Str)) = false := by decide)
    (hcd : (x == ("__classdict__" : Str)) = false := by decide) (ha : ∀ v, assign (.Subscript (.Name x p1) e2 p2) X.env v = (do
      let ov ← holding [v] (eval (.Name x p1) X.env)
      let iv ← holding [v, ov] (eval e2 X.env)
      standAt p2
      holding [v, ov, iv] (setItem ov iv v)
      release [v, ov, iv] []) := by intro _; rfl)
    (hs : swapsWithSole [.Subscript (.Name x p1) e2 p2] e pos.line X.env = pure false := by rfl) (hw : swappedStores [.Subscript (.Name x p1) e2 p2] e X.env = pure none := by rfl)
    (h1 : (assignEach [.Subscript (.Name x p1) e2 p2] X.env).map (·.2) = [assign (.Subscript (.Name x p1) e2 p2) X.env] := by rfl) : SndS X ci BS (.Assign [.Subscript (.Name x p1) e2 p2] e pos) (sSetIx i fi f) := by
  obtain ⟨t, p, q⟩ := (x_esc he).ex
  obtain ⟨ti, pi, qi⟩ := hi.ex
  refine ⟨⟨fun W' => tAsg (t W') (L2.gSub (tVar i) (ti W') rSetL), fun W' tk => ps_asg (p W' tk) (pg_sub (pe_var hN hv hd hcd) (pi W' tk) set_list ha) hs hw h1, fun W' s D ok h => ?_⟩⟩
  refine q W' s _ ok (h.andS.imp fun ov env1 G1 H1 st1 ok1 h1' => ?_)
  intro v rep new
  cases ov with
  | v w =>
    dsimp only at h1'
    cases e0 : ownL env1 i with
    | none => rw [e0] at h1'; exact h1'.elim
    | some ws0 =>
      rw [e0] at h1'
      obtain ⟨a, vs0, k1, k2, _, _⟩ := ownL_at (s := ⟨env1, s.σ, G1, H1⟩) ok1 e0
      refine ⟨.ref a, k1, ?_⟩
      refine qi W' ⟨env1, s.σ, G1, H1⟩ _ ok1 (h1'.andS.imp fun oi env2 G2 H2 st2 ok2 h2 => ?_)
      intro y rep2 new2
      have h2 : AccS X.K ci BS W' ⟨env2, s.σ, G2, H2⟩ D (match (getOV oi env2).bind asI with
        | some k => (match ownL env2 i with
          | some ws => (match ixN ws.length k with
            | some j => .nx (env2.set i (.own (.lst (ws.set j w))))
            | none => .bad)
          | none => .bad)
        | none => .bad) := h2
      cases e1 : getOV oi env2 with
      | none => rw [e1] at h2; exact h2.elim
      | some wi =>
        rw [e1] at h2
        cases wi with
        | int k =>
          have h2 : AccS X.K ci BS W' ⟨env2, s.σ, G2, H2⟩ D (match ownL env2 i with
            | some ws => (match ixN ws.length k with
              | some j => .nx (env2.set i (.own (.lst (ws.set j w))))
              | none => .bad)
            | none => .bad) := h2
          cases e2 : ownL env2 i with
          | none => rw [e2] at h2; exact h2.elim
          | some ws =>
            rw [e2] at h2
            dsimp only at h2
            obtain ⟨b, vs, m1, m2, m3, m4⟩ := ownL_at (s := ⟨env2, s.σ, G2, H2⟩) ok2 e2
            have eb : s.σ[i]? = some (some (.ref b)) := m1
            rw [k1] at eb
            cases eb
            cases e3 : ixN ws.length k with
            | none => rw [e3] at h2; exact h2.elim
            | some j =>
              rw [e3] at h2
              dsimp only at h2
              obtain ⟨st3, ok3⟩ := upd_own (BS := BS) (s := ⟨env2, s.σ, G2, H2⟩) (o := .lst (vs.set j v)) (w' := .lst (ws.set j w)) ok2 m4 m1 (.lst upd_same (m3.set (rep.mono st2.sub) j))
              refine ⟨a, vs, k, j, rfl, (cur_of ok2 rep2 e1).int, m2, by rw [m3.length]; exact e3, ?_⟩
              exact h2 _ _ _ st3 ok3
        | _ => exact h2.elim
  | _ => exact h1'.elim
end
/-! ### zip -/
def zipW : List W → List W → List W := List.zipWith fun x y => .tup [x, y]
def asS : W → W → Option (List W × List W)
  | .tup xs, .tup ys => some (xs, ys)
  | .lst xs, .lst ys => some (xs, ys)
  | _, _ => none
def fZip (f g : EF) : Ev → Res (List W) := fun env => (fE f env).bind fun ox env => (fE g env).bind fun oy env => match ox, oy with
  | .v x, .v y => (match asS x y with | some p => .ok (zipW p.1 p.2) env | none => .bad)
  | _, _ => .bad
section
variable {X : Cx} {ci : Nat → Addr} {BS : List Nat} {e e2 : Expr} {f g : EF} {p pos tpos : Pos} {elts : List Expr} {kk : Nat}
theorem zipW_get {xs ys : List W} {i : Nat} {x y : W} (h1 : xs[i]? = some x) (h2 : ys[i]? = some y) : (zipW xs ys)[i]? = some (.tup [x, y]) := by
  unfold zipW
  rw [List.getElem?_zipWith, h1, h2]
theorem it_pair {m : Sta} {ws : List W} {J : It} {Gp : Hp → Prop} {k1 k2 : Nat → Option V} (w : Walk J ws.length Gp (YPair k1 k2)) (k : ∀ m' : Sta, Ok X.K ci m' → Same m.G m'.G → Gp m'.H)
    (r : ∀ i x y, i < ws.length → k1 i = some x → k2 i = some y → ∃ u v, ws[i]? = some (.tup [u, v]) ∧ RepV X.K ci m.G x u ∧ RepV X.K ci m.G y v) : ItOk X ci BS m ws J Gp (YPair k1 k2) := by
  refine ⟨w, k, fun m' i v H' ok s hi y => ?_⟩
  obtain ⟨T, x, y, rfl, hT, rfl, h1, h2⟩ := y
  obtain ⟨u, v, e, r1, r2⟩ := r i x y hi h1 h2
  obtain ⟨st, ok'⟩ := alloc_pers (BS := BS) (o := .tup [x, y]) ok hT
  exact ⟨_, _, e, st, ok', .tup upd_same (.cons ((r1.mono s).mono st.sub) (.cons ((r2.mono s).mono st.sub) .nil))⟩
theorem walk_zipT {K : PySem.W.Frag} {a b : Addr} {xs ys : List V} {n : Nat} (hn : n = min xs.length ys.length) : Walk (RZ.ItzT K a b) n (fun H => SqT K H a xs ∧ SqT K H b ys) (YPair (fun i => xs[i]?) (fun i => ys[i]?)) := by
  refine ⟨fun i H hi q => ⟨xs, ys, xs[i]'(by omega), ys[i]'(by omega), q.1, q.2, by simp [show i < xs.length by omega], by simp [show i < ys.length by omega]⟩, fun H q => ⟨xs, ys, q.1, q.2, by omega⟩, fun i H x H' hi q y => ?_⟩
  obtain ⟨T, u, v, e1, e2, e3, k1, k2⟩ := y
  exact ⟨T, u, v, e1, e2, e3, k1 xs q.1, k2 ys q.2⟩
theorem i_zip (hg : Gl X "zip") (hm : X.mg "zip" = none) (ha : SndE X ci BS e f) (hb : SndE X ci BS e2 g) (hs : starEach [e, e2] X.env = (false, eval e X.env) :: starEach [e2] X.env := by rfl) (hs2 : starEach [e2] X.env = (false, eval e2 X.env) :: starEach [] X.env := by rfl) (hpl : (backTo pos (starEach [e2] X.env)).any (·.1) = false := by rfl) :
    SndI X ci BS (.Tuple elts kk tpos) (.Call (.Name "zip" p) [e, e2] [] pos) (fZip f g) := by
  obtain ⟨t, pp, q⟩ := (x_esc ha).ex
  obtain ⟨t', pp', q'⟩ := (x_esc hb).ex
  refine ⟨⟨fun W' => RZ.iZipA X.K (tCons (t W') (tCons (t' W') tNil)), fun W' tk => RZ.pi_zipA hg hm (pa_cons (pp W' tk) (pa_cons (pp' W' tk) pa_nil hs2) hs) hs hpl, fun W' s R ok h => ?_⟩⟩
  refine q W' s _ ok (h.bind.imp fun ox env1 G1 H1 st1 ok1 h1 => ?_)
  intro v rep new
  refine q' W' ⟨env1, s.σ, G1, H1⟩ _ ok1 (h1.bind.imp fun oy env2 G2 H2 st2 ok2 h2 => ?_)
  intro u rep2 new2
  cases ox with
  | v x =>
    cases oy with
    | v y =>
      have rx : RepV X.K ci G2 v x := RepV.mono st2.sub rep
      have ry : RepV X.K ci G2 u y := rep2
      cases x with
      | tup xs =>
        cases y with
        | tup ys =>
          cases rx with
          | @tup a vs _ hx r1 =>
            cases ry with
            | @tup b us _ hy r2 =>
              have hx : SqT X.K G2 a vs := .inl (.inl hx)
              have hy : SqT X.K G2 b us := .inl (.inl hy)
              have z := h2 G2 H2 Step.refl ok2 (RZ.ItzT X.K a b) (fun H => SqT X.K H a vs ∧ SqT X.K H b us) (YPair (fun i => vs[i]?) (fun i => us[i]?)) (it_pair (walk_zipT (by
                  show (zipW xs ys).length = _
                  unfold zipW
                  rw [List.length_zipWith, r1.length, r2.length])) (fun m' ok' sm => ⟨sqT_mono ok'.sub (sqT_mono sm hx), sqT_mono ok'.sub (sqT_mono sm hy)⟩) fun i x y _ k1 k2 => by
                  obtain ⟨w1, e1, q1⟩ := r1.get k1
                  obtain ⟨w2, e2, q2⟩ := r2.get k2
                  exact ⟨w1, w2, zipW_get e1 e2, q1, q2⟩)
              exact ⟨a, b, vs, us, rfl, .inr ⟨sqT_mono ok2.sub hx, sqT_mono ok2.sub hy, z⟩⟩
        | _ => exact h2.elim
      | lst xs =>
        cases y with
        | lst ys =>
          cases rx with
          | @lst a vs _ hx r1 =>
            cases ry with
            | @lst b us _ hy r2 =>
              have z := h2 G2 H2 Step.refl ok2 (Itz X.K a b) (fun H => SqL X.K H a vs ∧ SqL X.K H b us) (YPair (fun i => vs[i]?) (fun i => us[i]?)) (it_pair (walk_zip (by
                  show (zipW xs ys).length = _
                  unfold zipW
                  rw [List.length_zipWith, r1.length, r2.length])) (fun m' ok' sm => ⟨.inl (.inl (ok'.sub _ _ (sm _ _ hx))), .inl (.inl (ok'.sub _ _ (sm _ _ hy)))⟩) fun i x y _ k1 k2 => by
                  obtain ⟨w1, e1, q1⟩ := r1.get k1
                  obtain ⟨w2, e2, q2⟩ := r2.get k2
                  exact ⟨w1, w2, zipW_get e1 e2, q1, q2⟩)
              exact ⟨a, b, vs, us, rfl, .inl ⟨.inl (.inl (ok2.sub _ _ hx)), .inl (.inl (ok2.sub _ _ hy)), z⟩⟩
        | _ => exact h2.elim
      | _ => cases y <;> exact h2.elim
    | _ => exact h2.elim
  | _ => cases oy <;> exact h2.elim
end
end BV

set_option maxRecDepth 100000
set_option maxHeartbeats 4000000
/-! BV: further expressions. -/
namespace BV
open PySem PySem.Spec PyProof.Rows L2
def fNeg (f : EF) : EF := fun env => (f env).bind fun ov env => match (getOV ov env).bind asI with
  | some i => .ok (.v (.int (-i))) env
  | none => .bad
def fDict0 : EF := fun env => .ok (.n (.dct [])) env
section
variable {X : Cx} {ci : Nat → Addr} {BS : List Nat} {e : Expr} {f : EF} {pos : Pos}
theorem x_neg (ha : SndE X ci BS e f) : SndE X ci BS (.UnaryOp .USub e pos) (fNeg f) := by
  obtain ⟨t, p, q⟩ := ha.ex
  refine ⟨⟨fun W' => tUn (rU fun i => .int (-i)) (t W'), fun W' tk => pe_un un_neg (p W' tk), fun W' s Q ok h => ?_⟩⟩
  refine q W' s _ ok (h.bind.imp fun ov env1 G1 H1 st1 ok1 h1 => ?_)
  intro v rep new
  cases e1 : getOV ov env1 with
  | none => dsimp only at h1; rw [e1] at h1; exact h1.elim
  | some w =>
    dsimp only at h1
    rw [e1] at h1
    cases w with
    | int i => exact ⟨i, (cur_of ok1 rep e1).int, h1 G1 H1 Step.refl ok1 (.int (-i)) (.int (-i)) trivial⟩
    | _ => exact h1.elim
theorem x_globI {x : Str} {i : Int} (hg : Gl X x) (hm : ∃ t, X.mg x = some (.int i t)) (hd : (x == ("__debug__" : Str)) = false := by decide) : SndE X ci BS (.Name x pos) (fC (.int i)) := ⟨fun _ => tC (.int i), fun _ _ => pe_glob (v := .int i) hg hm.choose_spec ⟨_, rfl⟩ hd, fun W' s Q ok h => ret_same ok h (.int i)⟩
theorem x_globS {x : Str} {i : Str} (hg : Gl X x) (hm : ∃ t, X.mg x = some (.str i t)) (hd : (x == ("__debug__" : Str)) = false := by decide) : SndE X ci BS (.Name x pos) (fC (.str i)) := ⟨fun _ => tC (.str i), fun _ _ => pe_glob (v := .str i) hg hm.choose_spec ⟨_, rfl⟩ hd, fun W' s Q ok h => ret_same ok h (.str i)⟩
theorem x_dict0 : SndE X ci BS (.Dict [] [] pos) fDict0 := by
  refine ⟨⟨fun _ => tDNewK, fun _ _ => pe_dnewK, fun W' s Q ok h => fun p hp => ?_⟩⟩
  obtain ⟨st, ok', gp, no⟩ := alloc_new (BS := BS) (o := .dK []) ok hp
  exact h _ _ st ok' (.ref p) ⟨p, rfl, .dK upd_same .nil, gp, no⟩ fun a e => by cases e; exact hp
end
/-! ### a clause's class and an error's -/
theorem exm_pair {K : PySem.W.Frag} {C T : Addr} {b : Bool} (h1 : PySem.W.subIn K (.ref T) (.type "BaseException") = some true) (h2 : PySem.W.isClsIn K T = true) (h3 : PySem.W.typeIn K (.ref T) = some (.type "type")) (h4 : PySem.W.subIn K (.ref C) (.ref T) = some b) :
    PySem.W.exmOne K (.ref C) (.ref T) = some b := by
  have e1 : (PySem.W.subIn K (.ref T) (.type "BaseException") == some true) = true := by rw [h1] <;> rfl
  have e2 : ((PySem.W.clsIn K T).isSome && PySem.W.typeIn K (.ref T) == some (.type "type")) = true := by
    have h2' : (PySem.W.clsIn K T).isSome = true := h2
    rw [h2', h3] <;> rfl
  show (if (PySem.W.subIn K (.ref T) (.type "BaseException") == some true) = true then (if ((PySem.W.clsIn K T).isSome && PySem.W.typeIn K (.ref T) == some (.type "type")) = true then PySem.W.subIn K (.ref C) (.ref T) else none) else none) = some b
  rw [if_pos e1, if_pos e2]
  exact h4
/-! ### the law -/
def spLaw (K : PySem.W.Frag) (n : Nat) : Sp := fun vs H Q _ => ∃ (a : Addr) (ns : List Int), vs = [.ref a] ∧ SqL K H a (ns.map V.int) ∧ ns.length ≤ n ∧ ∀ H', Q (.bl true) H'
theorem reps_ints {K : PySem.W.Frag} {ci : Nat → Addr} {G : Hp} : ∀ ns : List Int, RepVs K ci G (ns.map V.int) (ns.map W.int)
  | [] => .nil
  | n :: ns => .cons (.int n) (reps_ints ns)
theorem law_imp {K : PySem.W.Frag} {ci : Nat → Addr} {d : FnD} {n : Nat} (hd : ∀ ns : List Int, ns.length ≤ n → d [.fz (ns.map W.int)] = .ok (.bl true) []) (vs : List V) (H : Hp) (Q : VK) (E : XK) (h : spLaw K n vs H Q E) : spF K ci [false] d vs H Q E := by
  obtain ⟨a, ns, rfl, hS, hl, q⟩ := h
  refine ⟨H, [.fz (ns.map W.int)], Same.refl _, .val (.fz hS (reps_ints ns)) .nil, by unfold ios; exact List.nodup_nil, ?_⟩
  rw [hd ns hl]
  intro G' H' v _ _ rv
  cases rv
  exact q H'
theorem cx_no {P : Program} {w : World} {H : Hp} {s : Shared} {e : Value} {s' : Shared} (h : L2.CX P w [] H s (fun _ _ _ => False) e s') : False := by
  obtain ⟨_, _, _, _, _, _, _, _, _, _, _, _, z⟩ := h
  exact z
end BV

set_option maxRecDepth 100000
set_option maxHeartbeats 4000000
/-! BV: evaluation, in plain Lean. -/
namespace BV
open PySem L2
section
variable {α β : Type} {a : α} {e env : Ev} {x : Exc} {w w1 w2 : W} {i j : Int}
@[simp] theorem bind_ok {k : α → Ev → Res β} : (Res.ok a e).bind k = k a e := (rfl)
@[simp] theorem bind_er {k : α → Ev → Res β} : (Res.er x e : Res α).bind k = .er x e := (rfl)
@[simp] theorem bind_bad {k : α → Ev → Res β} : (Res.bad : Res α).bind k = .bad := (rfl)
@[simp] theorem andS_ok {k : α → Ev → SR} : (Res.ok a e).andS k = k a e := (rfl)
@[simp] theorem andS_er {k : α → Ev → SR} : (Res.er x e : Res α).andS k = .er x e := (rfl)
@[simp] theorem andS_bad {k : α → Ev → SR} : (Res.bad : Res α).andS k = .bad := (rfl)
@[simp] theorem getOV_v : getOV (.v w) env = some w := (rfl)
@[simp] theorem getOV_n : getOV (.n w) env = some w := (rfl)
@[simp] theorem getOV_s {k : Nat} : getOV (.s k) env = match env[k]? with | some (.dat w) => some w | some (.own w) => some w | _ => none := (rfl)
@[simp] theorem retOV_some {ov : OV} : retOV (some ov) env = .ok ov env := (rfl)
@[simp] theorem retOV_none : retOV none env = .bad := (rfl)
@[simp] theorem fC_e : fC w env = .ok (.v w) env := (rfl)
@[simp] theorem fV_e {k : Nat} : fV k env = match env[k]? with | some (.dat w) => .ok (.v w) env | some (.own _) => .ok (.s k) env | _ => .bad := (rfl)
@[simp] theorem fZ_e {k : Nat} : fZ k env = match env[k]? with | some (.dat w) => .ok (.v w) env | some (.own w) => .ok (.v w) (env.set k (.dat w)) | _ => .bad := (rfl)
@[simp] theorem fE_e {f : EF} : fE f env = (f env).bind fun ov env => match ov with | .v w => .ok (.v w) env | .n w => .ok (.v w) env | .s _ => .bad := (rfl)
@[simp] theorem fOp_e {g : W → W → Option OV} {f f' : EF} : fOp g f f' env = (f env).bind fun x env => (f' env).bind fun y env => retOV ((getOV x env).bind fun wx => (getOV y env).bind fun wy => g wx wy) env := (rfl)
@[simp] theorem fNil_e : fNil env = .ok [] env := (rfl)
@[simp] theorem fCons_e {f : EF} {r : AF} : fCons f r env = (f env).bind fun x env => (r env).bind fun xs env => .ok (x :: xs) env := (rfl)
@[simp] theorem getOVs_nil : getOVs [] env = some [] := (rfl)
@[simp] theorem getOVs_cons {o : OV} {os : List OV} : getOVs (o :: os) env = (getOV o env).bind fun w => (getOVs os env).bind fun ws => some (w :: ws) := (rfl)
@[simp] theorem fB_e {g : List W → Option OV} {r : AF} : fB g r env = (r env).bind fun xs env => retOV ((getOVs xs env).bind g) env := (rfl)
@[simp] theorem asB_bl {b : Bool} : asB (.bl b) = some b := (rfl)
@[simp] theorem asI_int : asI (.int i) = some i := (rfl)
@[simp] theorem fTest_e {f : EF} : fTest f env = (f env).bind fun ov env => match (getOV ov env).bind asB with | some b => .ok b env | none => .bad := (rfl)
@[simp] theorem fNot_e {f : TF} : fNot f env = (f env).bind fun b env => .ok (!b) env := (rfl)
@[simp] theorem fAnd_e {f g : TF} : fAnd f g env = (f env).bind fun b env => if b = true then g env else .ok false env := (rfl)
@[simp] theorem fOr_e {f g : TF} : fOr f g env = (f env).bind fun b env => if b = true then .ok true env else g env := (rfl)
@[simp] theorem fIf_e {c : TF} {f g : EF} : fIf c f g env = (c env).bind fun b env => if b = true then f env else g env := (rfl)
@[simp] theorem fAndV_e {f g : EF} : fAndV f g env = (f env).bind fun ov env => match (getOV ov env).bind asB with | some b => if b = true then g env else .ok (.v (.bl false)) env | none => .bad := (rfl)
@[simp] theorem fOrV_e {f g : EF} : fOrV f g env = (f env).bind fun ov env => match (getOV ov env).bind asB with | some b => if b = true then .ok (.v (.bl true)) env else g env | none => .bad := (rfl)
@[simp] theorem fNotV_e {f : EF} : fNotV f env = (f env).bind fun ov env => match (getOV ov env).bind asB with | some b => .ok (.v (.bl (!b))) env | none => .bad := (rfl)
@[simp] theorem fNeg_e {f : EF} : fNeg f env = (f env).bind fun ov env => match (getOV ov env).bind asI with | some i => .ok (.v (.int (-i))) env | none => .bad := (rfl)
@[simp] theorem fDict0_e : fDict0 env = .ok (.n (.dct [])) env := (rfl)
@[simp] theorem fChain_e {g g' : W → W → Option OV} {fa fb fc : EF} : fChain g g' fa fb fc env = (fa env).bind fun x env => (fb env).bind fun y env =>
  match ((getOV x env).bind fun wx => (getOV y env).bind fun wy => g wx wy) with
  | some (.v (.bl true)) => (fc env).bind fun z env => retOV ((getOV y env).bind fun wy => (getOV z env).bind fun wz => g' wy wz) env
  | some (.v (.bl false)) => .ok (.v (.bl false)) env
  | _ => .bad := (rfl)
@[simp] theorem asV_nil : asV [] = some [] := (rfl)
@[simp] theorem asV_cons {os : List OV} : asV (.v w :: os) = (asV os).bind fun ws => some (w :: ws) := (rfl)
@[simp] theorem fTup_e {f : AF} : fTup f env = (f env).bind fun xs env => match asV xs with | some ws => if ws.length ≤ 16777216 then .ok (.v (.tup ws)) env else .bad | none => .bad := (rfl)
@[simp] theorem fLst_e {f : AF} : fLst f env = (f env).bind fun xs env => match asV xs with | some ws => if ws.length ≤ 16777216 then .ok (.n (.lst ws)) env else .bad | none => .bad := (rfl)
@[simp] theorem fNoPart_e : fNoPart env = .ok none env := (rfl)
@[simp] theorem fPart_e {f : EF} : fPart f env = (f env).bind fun ov env => match (getOV ov env).bind asI with | some i => .ok (some i) env | none => .bad := (rfl)
@[simp] theorem fSl_e {f : EF} {l h : OF} : fSl f l h env = (f env).bind fun x env => (l env).bind fun lo env => (h env).bind fun hi env => retOV ((getOV x env).bind fun w => gSl w lo hi) env := (rfl)
@[simp] theorem fIt_e {k : W → Option (List W)} {f : EF} : fIt k f env = (fE f env).bind fun ov env => match ov with | .v w => (match k w with | some ws => .ok ws env | none => .bad) | _ => .bad := (rfl)
@[simp] theorem asT_tup {ws : List W} : asT (.tup ws) = some ws := (rfl)
@[simp] theorem asL_lst {ws : List W} : asL (.lst ws) = some ws := (rfl)
@[simp] theorem asL_fz {ws : List W} : asL (.fz ws) = some ws := (rfl)
@[simp] theorem fRng1_e {f : EF} : fRng1 f env = (f env).bind fun x env => match getOV x env with | some (.int j) => if smallI j = true then .ok (rangeW 0 j) env else .bad | _ => .bad := (rfl)
@[simp] theorem fRng2_e {f g : EF} : fRng2 f g env = (f env).bind fun x env => (g env).bind fun y env => match getOV x env, getOV y env with | some (.int i), some (.int j) => if smallI i = true ∧ smallI j = true then .ok (rangeW i j) env else .bad | _, _ => .bad := (rfl)
@[simp] theorem fZip_e {f g : EF} : fZip f g env = (fE f env).bind fun ox env => (fE g env).bind fun oy env => match ox, oy with | .v x, .v y => (match asS x y with | some p => .ok (zipW p.1 p.2) env | none => .bad) | _, _ => .bad := (rfl)
@[simp] theorem fYes_e : fYes env = .ok true env := (rfl)
@[simp] theorem fLc_e {it : Ev → Res (List W)} {t : Tg} {c : TF} {el : EF} {vs : List Nat} : fLc it t c el vs env = (it env).bind fun ws env => match compL t c el vs ws [] env with | .ok ys env => .ok (.n (.lst ys)) env | _ => .bad := (rfl)
def callR (idx : List Nat) (env : Ev) : CRes → Res OV
  | .ok w outs => .ok (.v w) (setIo env idx outs)
  | .nw w outs => .ok (.n w) (setIo env idx outs)
  | .er x outs => .er x (setIo env idx outs)
  | .bad => .bad
@[simp] theorem callR_ok {idx : List Nat} {outs : List W} : callR idx env (.ok w outs) = .ok (.v w) (setIo env idx outs) := (rfl)
@[simp] theorem callR_nw {idx : List Nat} {outs : List W} : callR idx env (.nw w outs) = .ok (.n w) (setIo env idx outs) := (rfl)
@[simp] theorem callR_er {idx : List Nat} {outs : List W} : callR idx env (.er x outs) = .er x (setIo env idx outs) := (rfl)
@[simp] theorem callR_bad {idx : List Nat} : callR idx env .bad = .bad := (rfl)
@[simp] theorem fCall_e {ks : List Bool} {g : FnD} {fa : AF} : fCall ks g fa env = (fa env).bind fun ovs env => match mixA ks ovs env with | none => .bad | some (args, idx) => if idx.Nodup then callR idx env (g args) else .bad := by
  unfold fCall callR
  congr 1
@[simp] theorem mixA_nil : mixA [] [] env = some ([], []) := (rfl)
@[simp] theorem mixA_v {ks : List Bool} {os : List OV} : mixA (false :: ks) (.v w :: os) env = (mixA ks os env).map fun p => (w :: p.1, p.2) := (rfl)
@[simp] theorem mixA_s {ks : List Bool} {os : List OV} {k : Nat} : mixA (true :: ks) (.s k :: os) env = match env[k]? with | some (.own w) => (mixA ks os env).map fun p => (w :: p.1, k :: p.2) | _ => none := (rfl)
@[simp] theorem setIo_nil {ws : List W} : setIo env [] ws = env := by cases ws <;> rfl
@[simp] theorem setIo_cons {k : Nat} {ks : List Nat} {ws : List W} : setIo env (k :: ks) (w :: ws) = setIo (env.set k (.own w)) ks ws := (rfl)
/-! statements -/
def SR.thn (r : SR) (g : SF) : SR := match r with
  | .nx e => g e
  | r => r
@[simp] theorem thn_nx {g : SF} : (SR.nx e).thn g = g e := (rfl)
@[simp] theorem thn_rt {g : SF} : (SR.rt w e).thn g = .rt w e := (rfl)
@[simp] theorem thn_rn {g : SF} : (SR.rn w e).thn g = .rn w e := (rfl)
@[simp] theorem thn_bk {g : SF} : (SR.bk e).thn g = .bk e := (rfl)
@[simp] theorem thn_ct {g : SF} : (SR.ct e).thn g = .ct e := (rfl)
@[simp] theorem thn_er {g : SF} : (SR.er x e).thn g = .er x e := (rfl)
@[simp] theorem thn_bad {g : SF} : SR.bad.thn g = .bad := (rfl)
@[simp] theorem thn_ite {g : SF} {c : Prop} [Decidable c] {r r' : SR} : (if c then r else r').thn g = if c then r.thn g else r'.thn g := by
  split <;> rfl
@[simp] theorem sNext_e : sNext e = .nx e := (rfl)
@[simp] theorem sSeq_e {f g : SF} : sSeq f g env = (f env).thn g := (rfl)
@[simp] theorem sIf_e {c : TF} {f g : SF} : sIf c f g env = (c env).andS fun b env => if b = true then f env else g env := (rfl)
@[simp] theorem sSet_e {k : Nat} {f : EF} : sSet k f env = (fE f env).andS fun ov env => match ov with | .v w => .nx (env.set k (.dat w)) | _ => .bad := (rfl)
@[simp] theorem sOwn_e {k : Nat} {f : EF} : sOwn k f env = (f env).andS fun ov env => match ov with | .n w => .nx (env.set k (.own w)) | _ => .bad := (rfl)
@[simp] theorem sRet_e {f : EF} : sRet f env = (fE f env).andS fun ov env => match ov with | .v w => .rt w env | _ => .bad := (rfl)
@[simp] theorem sRetNew_e {f : EF} : sRetNew f env = (f env).andS fun ov env => match ov with | .n w => .rn w env | _ => .bad := (rfl)
@[simp] theorem sRetN_e : sRetN env = .rt .non env := (rfl)
@[simp] theorem sDrop_e {f : EF} : sDrop f env = (f env).andS fun _ env => .nx env := (rfl)
@[simp] theorem sBreak_e : sBreak env = .bk env := (rfl)
@[simp] theorem sCont_e : sCont env = .ct env := (rfl)
@[simp] theorem sApp_e {k : Nat} {f : EF} : sApp k f env = match ownL env k with | none => .bad | some _ => (fE f env).andS fun ov env => match ov with | .v w => (match ownL env k with | some ws => if ws.length < 16777216 then .nx (env.set k (.own (.lst (ws ++ [w])))) else .bad | none => .bad) | _ => .bad := (rfl)
@[simp] theorem sExt_e {k : Nat} {f : EF} : sExt k f env = match ownL env k with | none => .bad | some _ => (fE f env).andS fun ov env => match ov with | .v (.lst us) => (match ownL env k with | some ws => if ws.length + us.length ≤ 16777216 then .nx (env.set k (.own (.lst (ws ++ us)))) else .bad | none => .bad) | _ => .bad := (rfl)
@[simp] theorem ownL_e {k : Nat} : ownL env k = match env[k]? with | some (.own (.lst ws)) => some ws | _ => none := (rfl)
@[simp] theorem sSetIx_e {k : Nat} {fi f : EF} : sSetIx k fi f env = (fE f env).andS fun ov env => match ov with
  | .v w => (match ownL env k with
    | none => .bad
    | some _ => (fi env).andS fun ok env => match (getOV ok env).bind asI with
      | some j => (match ownL env k with
        | some ws => (match ixN ws.length j with
          | some j => .nx (env.set k (.own (.lst (ws.set j w))))
          | none => .bad)
        | none => .bad)
      | none => .bad)
  | _ => .bad := (rfl)
@[simp] theorem sFor_e {it : Ev → Res (List W)} {t : Tg} {f : SF} : sFor it t f env = (it env).andS fun ws env => forL t f ws env := (rfl)
@[simp] theorem sTry_e {f : SF} {hs : List ((Nat → Option Bool) × SF)} : sTry f hs env = match f env with | .er x env' => pick hs x env' | r => r := (rfl)
def outC (env : Ev) (is : List Nat) (k : List W → CRes) : CRes := match outsE env is with
  | some os => k os
  | none => .bad
def SR.fin (ks : List Bool) : SR → CRes
  | .nx env => outC env (ioIdx 0 ks) (.ok .non)
  | .rt w env => outC env (ioIdx 0 ks) (.ok w)
  | .rn w env => outC env (ioIdx 0 ks) (.nw w)
  | .er x env => outC env (ioIdx 0 ks) (.er x)
  | _ => .bad
theorem fdef_e {n : Nat} {ks : List Bool} {f : SF} {args : List W} : fdef n ks f args = (f (argEnv ks args ++ List.replicate (n - args.length) Sl.no)).fin ks := by
  unfold fdef SR.fin outC
  cases f (argEnv ks args ++ List.replicate (n - args.length) Sl.no) <;> rfl
@[simp] theorem fin_nx {ks : List Bool} : (SR.nx e).fin ks = outC e (ioIdx 0 ks) (.ok .non) := (rfl)
@[simp] theorem fin_rt {ks : List Bool} : (SR.rt w e).fin ks = outC e (ioIdx 0 ks) (.ok w) := (rfl)
@[simp] theorem fin_rn {ks : List Bool} : (SR.rn w e).fin ks = outC e (ioIdx 0 ks) (.nw w) := (rfl)
@[simp] theorem fin_er {ks : List Bool} : (SR.er x e).fin ks = outC e (ioIdx 0 ks) (.er x) := (rfl)
@[simp] theorem fin_ite {ks : List Bool} {c : Prop} [Decidable c] {r r' : SR} : (if c then r else r').fin ks = if c then r.fin ks else r'.fin ks := by split <;> rfl
@[simp] theorem ioIdx_nil {n : Nat} : ioIdx n [] = [] := (rfl)
@[simp] theorem ioIdx_t {n : Nat} {ks : List Bool} : ioIdx n (true :: ks) = n :: ioIdx (n + 1) ks := (rfl)
@[simp] theorem ioIdx_f {n : Nat} {ks : List Bool} : ioIdx n (false :: ks) = ioIdx (n + 1) ks := (rfl)
@[simp] theorem argEnv_nil {ks : List Bool} : argEnv ks [] = [] := by
  cases ks with
  | nil => rfl
  | cons b _ => cases b <;> rfl
@[simp] theorem argEnv_t {ks : List Bool} {ws : List W} : argEnv (true :: ks) (w :: ws) = .own w :: argEnv ks ws := (rfl)
@[simp] theorem argEnv_f {ks : List Bool} {ws : List W} : argEnv (false :: ks) (w :: ws) = .dat w :: argEnv ks ws := (rfl)
@[simp] theorem outC_nil {k : List W → CRes} : outC env [] k = k [] := (rfl)
@[simp] theorem outC_cons {k : List W → CRes} {j : Nat} {js : List Nat} : outC env (j :: js) k = match env[j]? with | some (.own w) => outC env js (fun os => k (w :: os)) | _ => .bad := by
  unfold outC
  show (match (match env[j]? with | some (.own w) => (outsE env js).map (w :: ·) | _ => none) with | some os => k os | none => .bad) = _
  split
  · rename_i h
    split at h
    · rename_i w q
      cases p : outsE env js with
      | none => rw [p] at h; cases h
      | some os => rw [p] at h; cases h; rfl
    · cases h
  · rename_i h
    split at h
    · rename_i w q
      cases p : outsE env js with
      | none => rfl
      | some os => rw [p] at h; cases h
    · rfl
/-! operations -/
@[simp] theorem gq_zero {x : α} {xs : List α} : (x :: xs)[0]? = some x := (rfl)
@[simp] theorem gq_succ {x : α} {xs : List α} {n : Nat} : (x :: xs)[n + 1]? = xs[n]? := (rfl)
@[simp] theorem gq_nil {n : Nat} : ([] : List α)[n]? = none := (rfl)
@[simp] theorem gAdd_i : gAdd (.int i) (.int j) = some (.v (.int (i + j))) := (rfl)
@[simp] theorem gSub_i : gSub (.int i) (.int j) = some (.v (.int (i - j))) := (rfl)
@[simp] theorem gLt_i : gLt (.int i) (.int j) = some (.v (.bl (decide (i < j)))) := (rfl)
@[simp] theorem gLe_i : gLe (.int i) (.int j) = some (.v (.bl (decide (i ≤ j)))) := (rfl)
@[simp] theorem gGt_i : gGt (.int i) (.int j) = some (.v (.bl (decide (j < i)))) := (rfl)
@[simp] theorem gGe_i : gGe (.int i) (.int j) = some (.v (.bl (decide (j ≤ i)))) := (rfl)
@[simp] theorem gInt_i : gInt [.int i] = some (.v (.int i)) := (rfl)
@[simp] theorem gLen_l {ws : List W} : gLen [.lst ws] = some (.v (.int ws.length)) := (rfl)
@[simp] theorem gLen_f {ws : List W} : gLen [.fz ws] = some (.v (.int ws.length)) := (rfl)
@[simp] theorem gLen_t {ws : List W} : gLen [.tup ws] = some (.v (.int ws.length)) := (rfl)
@[simp] theorem gIx_l {ws : List W} : gIx (.lst ws) (.int i) = (atI ws i).map .v := (rfl)
@[simp] theorem gIx_f {ws : List W} : gIx (.fz ws) (.int i) = (atI ws i).map .v := (rfl)
@[simp] theorem gIx_t {ws : List W} : gIx (.tup ws) (.int i) = (atI ws i).map .v := (rfl)
@[simp] theorem gList_l {ws : List W} : gList [.lst ws] = some (.n (.lst ws)) := (rfl)
@[simp] theorem gList_f {ws : List W} : gList [.fz ws] = some (.n (.lst ws)) := (rfl)
@[simp] theorem gList_t {ws : List W} : gList [.tup ws] = some (.n (.lst ws)) := (rfl)
@[simp] theorem gTuple_l {ws : List W} : gTuple [.lst ws] = some (.v (.tup ws)) := (rfl)
@[simp] theorem gTuple_t {ws : List W} : gTuple [.tup ws] = some (.v (.tup ws)) := (rfl)
theorem gMul_l (h : -18446744073709551616 < i ∧ i < 18446744073709551616) : gMul (.int i) (.int j) = some (.v (.int (i * j))) := by
  show (if mulOk i j = true then _ else _) = _
  rw [if_pos (by unfold mulOk; simp [h])]
theorem gMul_r (h : -18446744073709551616 < j ∧ j < 18446744073709551616) : gMul (.int i) (.int j) = some (.v (.int (i * j))) := by
  show (if mulOk i j = true then _ else _) = _
  rw [if_pos (by unfold mulOk; simp [h])]
theorem gMod_i (h : 0 < j) : gMod (.int i) (.int j) = some (.v (.int (i % j))) := if_pos h
theorem gDiv_i (h : 0 < j ∧ j < 340282366920938463463374607431768211456) : gDiv (.int i) (.int j) = some (.v (.int (i / j))) := if_pos h
theorem gPow_i (h : 0 ≤ j ∧ j ≤ 1000000 ∧ i.natAbs < 18446744073709551616) : gPow (.int i) (.int j) = some (.v (.int (i ^ j.toNat))) := if_pos h
@[simp] theorem atI_zero {x : α} {xs : List α} : atI (x :: xs) 0 = some x := by
  unfold atI ixN
  simp
@[simp] theorem atI_cons {x : α} {xs : List α} (h : 0 < i) : atI (x :: xs) i = atI xs (i - 1) := by
  unfold atI ixN
  rw [if_pos (show 0 ≤ i by omega), if_pos (show 0 ≤ i - 1 by omega), List.length_cons]
  by_cases c : i < ((xs.length + 1 : Nat) : Int)
  · rw [if_pos c, if_pos (show i - 1 < (xs.length : Int) by omega), show i.toNat = (i - 1).toNat + 1 by omega]
    rfl
  · rw [if_neg c, if_neg (show ¬ i - 1 < (xs.length : Int) by omega)]
    rfl
theorem atI_get {xs : List α} (h : 0 ≤ i ∧ i < xs.length) : atI xs i = xs[i.toNat]? := by
  unfold atI ixN
  simp [h]
@[simp] theorem ixN_get {n : Nat} (h : 0 ≤ i ∧ i < n) : ixN n i = some i.toNat := by
  unfold ixN
  simp [h]
theorem mod_lt2 {m : Int} (h : 0 < m) : 0 ≤ i % m ∧ i % m < m := ⟨Int.emod_nonneg _ (by omega), Int.emod_lt_of_pos _ h⟩
end
/-! ### the hand, of which draws are taken -/
def Hand (h : W) : Prop := ∃ (ns : List Int) (idx big x cnt : Int), h = .lst [.lst (ns.map W.int), .int idx, .int big, .int x, .int cnt] ∧ 0 ≤ idx ∧ 0 ≤ big ∧ 0 ≤ x ∧ x < 2147483647 ∧ 0 ≤ cnt
def bTake2 : SF :=
  (sSeq (sIf (fTest (fOp gGt (fOp gIx (fV 0) (fC (.int 2))) (fC (.int 0)))) (sSeq (sSet 3 (fOp gMod (fB gInt (fCons (fOp gIx (fV 0) (fC (.int 2))) fNil)) (fV 1)))
  (sSeq (sSetIx 0 (fC (.int 2)) (fOp gDiv (fB gInt (fCons (fOp gIx (fV 0) (fC (.int 2))) fNil)) (fV 1)))
  (sRet (fV 3)))) sNext)
  (sSeq (sSetIx 0 (fC (.int 3)) (fOp gMod (fB gInt (fCons (fOp gAdd (fOp gMul (fOp gIx (fV 0) (fC (.int 3))) (fC (.int 69621))) (fOp gMul (fC (.int 7919)) (fOp gIx (fV 0) (fC (.int 4))))) fNil)) (fC (.int 2147483647))))
  (sSeq (sSet 4 (fOp gMod (fB gInt (fCons (fOp gMul (fOp gIx (fV 0) (fC (.int 3))) (fOp gAdd (fOp gDiv (fOp gIx (fV 0) (fC (.int 3))) (fC (.int 1009))) (fC (.int 69621)))) fNil)) (fC (.int 2147483647))))
  (sSeq (sSet 4 (fOp gMod (fB gInt (fCons (fOp gMul (fV 4) (fOp gAdd (fOp gDiv (fV 4) (fC (.int 2003))) (fC (.int 40692)))) fNil)) (fC (.int 2147483399))))
  (sRet (fOp gMod (fB gInt (fCons (fOp gDiv (fV 4) (fC (.int 16))) fNil)) (fV 1)))))))
def bTake : SF :=
  (sSeq (sSetIx 0 (fC (.int 4)) (fOp gAdd (fOp gIx (fV 0) (fC (.int 4))) (fC (.int 1))))
  (sSeq (sIf (fAnd (fTest (fOp gEq (fOp gIx (fV 0) (fC (.int 2))) (fC (.int 0)))) (fTest (fOp gLt (fOp gIx (fV 0) (fC (.int 1))) (fB gLen (fCons (fOp gIx (fV 0) (fC (.int 0))) fNil))))) (sSeq (sSet 2 (fB gInt (fCons (fOp gIx (fOp gIx (fV 0) (fC (.int 0))) (fOp gIx (fV 0) (fC (.int 1)))) fNil)))
  (sSeq (sSetIx 0 (fC (.int 1)) (fOp gAdd (fOp gIx (fV 0) (fC (.int 1))) (fC (.int 1))))
  (sIf (fTest (fOp gGe (fV 2) (fOp gPow (fC (.int 10)) (fC (.int 18))))) (sSetIx 0 (fC (.int 2)) (fV 2)) (sSetIx 0 (fC (.int 3)) (fOp gMod (fB gInt (fCons (fOp gAdd (fOp gAdd (fOp gMul (fOp gIx (fV 0) (fC (.int 3))) (fC (.int 48271))) (fOp gMod (fB gInt (fCons (fV 2) fNil)) (fC (.int 2147483647)))) (fC (.int 1))) fNil)) (fC (.int 2147483647))))))) sNext)
  bTake2))
@[simp] theorem wEq_ii {i j : Int} : wEq (.int i) (.int j) = some (decide (i = j)) := (rfl)
@[simp] theorem gEq_ii {i j : Int} : gEq (.int i) (.int j) = some (.v (.bl (decide (i = j)))) := (rfl)
@[simp] theorem gNe_ii {i j : Int} : gNe (.int i) (.int j) = some (.v (.bl (!decide (i = j)))) := (rfl)
theorem take_tail {ns : List Int} {idx big x cnt m : Int} {sl : Sl} (h1 : 0 ≤ idx) (h2 : 0 ≤ big) (h3 : 0 ≤ x) (h4 : x < 2147483647) (h5 : 0 ≤ cnt) (m1 : 1 ≤ m) (m2 : m < 340282366920938463463374607431768211456) :
    ∃ r h', (bTake2 [.own (.lst [.lst (ns.map W.int), .int idx, .int big, .int x, .int cnt]), .dat (.int m), sl, .no, .no]).fin [true, false] = .ok (.int r) [h'] ∧ 0 ≤ r ∧ r < m ∧ Hand h' := by
  unfold bTake2
  by_cases c : 0 < big
  · simp (disch := omega) [c, gMod_i, gDiv_i]
    refine ⟨_, _, ⟨rfl, rfl⟩, Int.emod_nonneg _ (by omega), Int.emod_lt_of_pos _ (by omega), _, _, _, _, _, rfl, h1, Int.ediv_nonneg h2 (by omega), h3, h4, h5⟩
  · simp (disch := omega) [c, gMod_i, gDiv_i, gMul_l, gMul_r]
    refine ⟨_, _, ⟨rfl, rfl⟩, Int.emod_nonneg _ (by omega), Int.emod_lt_of_pos _ (by omega), _, _, _, _, _, rfl, h1, h2, Int.emod_nonneg _ (by omega), Int.emod_lt_of_pos _ (by omega), h5⟩
theorem take_ok {h : W} (H : Hand h) {m : Int} (m1 : 1 ≤ m) (m2 : m < 340282366920938463463374607431768211456) : ∃ r h', fdef 5 [true, false] bTake [h, .int m] = .ok (.int r) [h'] ∧ 0 ≤ r ∧ r < m ∧ Hand h' := by
  obtain ⟨ns, idx, big, x, cnt, rfl, h1, h2, h3, h4, h5⟩ := H
  show ∃ r h', (fdef 5 [true, false] bTake [_, .int m]) = _ ∧ _
  rw [fdef_e]
  show ∃ r h', (bTake [.own _, .dat _, .no, .no, .no]).fin _ = _ ∧ _
  unfold bTake
  by_cases c : big = 0 ∧ idx < ns.length
  · obtain ⟨n, hn⟩ : ∃ n, (ns.map W.int)[idx.toNat]? = some (.int n) := by
      rw [List.getElem?_map, List.getElem?_eq_getElem (by omega)]
      exact ⟨_, rfl⟩
    have hn : atI (ns.map W.int) idx = some (.int n) := by rw [atI_get ⟨h1, by rw [List.length_map]; exact c.2⟩, hn]
    by_cases d : 1000000000000000000 ≤ n
    · simp (disch := omega) [c, hn, d, gPow_i]
      exact take_tail (by omega) (by omega) h3 h4 (by omega) m1 m2
    · simp (disch := omega) [c, hn, d, gPow_i, gMod_i, gMul_l, gMul_r]
      exact take_tail (by omega) (by omega) (Int.emod_nonneg _ (by omega)) (Int.emod_lt_of_pos _ (by omega)) (by omega) m1 m2
  · by_cases d : big = 0
    · simp (disch := omega) [c, d, show ¬ idx < ns.length by omega]
      exact take_tail h1 (by omega) h3 h4 (by omega) m1 m2
    · simp (disch := omega) [c, d]
      exact take_tail h1 h2 h3 h4 (by omega) m1 m2
end BV

set_option maxRecDepth 100000
set_option maxHeartbeats 4000000
/-! BV: laws of loops; the checks that many laws share. -/
namespace BV
open PySem L2
section
variable {t : Tg} {c : TF} {el : EF} {vs : List Nat} {f : SF}
/-- one turn of a list comprehension -/
def compL1 (t : Tg) (c : TF) (el : EF) (vs : List Nat) (w : W) (env : Ev) : Option (Option W × Ev) := match bindT t w (wipeE env vs) with
  | none => none
  | some env2 => match c env2 with
    | .ok true env3 => (match fE el env3 with
      | .ok (.v y) env4 => some (some y, restE env env4 vs)
      | _ => none)
    | .ok false env3 => some (none, restE env env3 vs)
    | _ => none
theorem compL_pure {P : Ev → Prop} {k : W → Option W} : ∀ {ws acc : List W} {env : Ev}, P env → (∀ w ∈ ws, ∀ env, P env → ∃ e, compL1 t c el vs w env = some (k w, e) ∧ P e) → acc.length + ws.length ≤ 16777216 →
    ∃ e, compL t c el vs ws acc env = .ok (acc ++ ws.filterMap k) e ∧ P e
  | [], acc, env, p, _, _ => ⟨env, by rw [compL_nil, List.filterMap_nil, List.append_nil], p⟩
  | w :: ws, acc, env, p, H, hl => by
    obtain ⟨e, h1, p1⟩ := H w (List.mem_cons_self ..) env p
    rw [List.length_cons] at hl
    rw [compL_cons]
    unfold compL1 at h1
    split at h1
    · cases h1
    · rename_i env2 q1
      try rw [q1]
      try dsimp only
      split at h1
      · rename_i env3 q2
        try rw [q2]
        try dsimp only
        split at h1
        · rename_i y env4 q3
          try rw [q3]
          try dsimp only
          cases h1b : k w with
          | none => rw [h1b] at h1; cases h1
          | some y' =>
            rw [h1b] at h1
            cases h1
            rw [if_pos (by omega), List.filterMap_cons_some h1b]
            obtain ⟨e', h2, p2⟩ := compL_pure p1 (fun w' m => H w' (List.mem_cons_of_mem _ m)) (acc := acc ++ [y]) (by rw [List.length_append, List.length_singleton]; omega)
            exact ⟨e', by rw [h2, List.append_assoc]; rfl, p2⟩
        · cases h1
      · rename_i env3 q2
        try rw [q2]
        try dsimp only
        cases h1b : k w with
        | some y' => rw [h1b] at h1; cases h1
        | none =>
          rw [h1b] at h1
          cases h1
          rw [List.filterMap_cons_none h1b]
          exact compL_pure p1 (fun w' m => H w' (List.mem_cons_of_mem _ m)) (by omega)
      · cases h1
theorem forL_fold {ι : Type} {P : ι → Ev → Prop} {step : ι → W → ι} : ∀ {ws : List W} {s : ι} {env : Ev}, P s env → (∀ w ∈ ws, ∀ s env, P s env → ∃ e1 e2, bindT t w env = some e1 ∧ (f e1 = .nx e2 ∨ f e1 = .ct e2) ∧ P (step s w) e2) →
    ∃ e, forL t f ws env = .nx e ∧ P (ws.foldl step s) e
  | [], s, env, p, _ => ⟨env, rfl, p⟩
  | w :: ws, s, env, p, H => by
    obtain ⟨e1, e2, h1, h2, p2⟩ := H w (List.mem_cons_self ..) s env p
    obtain ⟨e, h3, p3⟩ := forL_fold (ws := ws) p2 (fun w' m => H w' (List.mem_cons_of_mem _ m))
    refine ⟨e, ?_, p3⟩
    show (match bindT t w env with | none => SR.bad | some env1 => match f env1 with | .nx e => forL t f ws e | .ct e => forL t f ws e | .bk e => .nx e | r => r) = _
    rw [h1]
    dsimp only
    rcases h2 with h2 | h2 <;> rw [h2] <;> exact h3
/-- the turn goes on, with P -/
def SR.Nx (r : SR) (P : Ev → Prop) : Prop := match r with
  | .nx e => P e
  | .ct e => P e
  | _ => False
@[simp] theorem Nx_nx {P : Ev → Prop} {e : Ev} : (SR.nx e).Nx P = P e := (rfl)
@[simp] theorem Nx_ct {P : Ev → Prop} {e : Ev} : (SR.ct e).Nx P = P e := (rfl)
def turn (t : Tg) (f : SF) (w : W) (env : Ev) : SR := match bindT t w env with
  | none => .bad
  | some e => f e
theorem forL_idx {P : Nat → Ev → Prop} {ws : List W} {env : Ev} (p : P 0 env) (H : ∀ i (h : i < ws.length) env, P i env → (turn t f ws[i] env).Nx (P (i + 1))) : ∃ e, forL t f ws env = .nx e ∧ P ws.length e := by
  suffices K : ∀ (us : List W) (k : Nat) (env : Ev), ws.drop k = us → k + us.length = ws.length → P k env → ∃ e, forL t f us env = .nx e ∧ P ws.length e from K ws 0 env rfl (by omega) p
  intro us
  induction us with
  | nil => intro k env _ hk p; exact ⟨env, rfl, by simpa using (by rw [← hk]; exact p)⟩
  | cons u us ih =>
    intro k env hd hk p
    rw [List.length_cons] at hk
    have hlt : k < ws.length := by omega
    rw [List.drop_eq_getElem_cons hlt] at hd
    injection hd with hd1 hd2
    have h := H k hlt env p
    rw [hd1] at h
    unfold turn at h
    show ∃ e, (match bindT t u env with | none => SR.bad | some env1 => match f env1 with | .nx e => forL t f us e | .ct e => forL t f us e | .bk e => .nx e | r => r) = .nx e ∧ P ws.length e
    cases hb : bindT t u env with
    | none => rw [hb] at h; exact h.elim
    | some e1 =>
      rw [hb] at h
      dsimp only at h ⊢
      cases hf : f e1 with
      | nx e => rw [hf] at h; exact ih (k + 1) e hd2 (by omega) h
      | ct e => rw [hf] at h; exact ih (k + 1) e hd2 (by omega) h
      | _ => rw [hf] at h; exact h.elim
theorem forL_rng {P : Nat → Ev → Prop} {lo hi : Int} {env : Ev} (p : P 0 env) (H : ∀ i : Nat, lo + i < hi → ∀ env, P i env → (turn t f (.int (lo + i)) env).Nx (P (i + 1))) : ∃ e, forL t f (rangeW lo hi) env = .nx e ∧ P (hi - lo).toNat e := by
  have hl : (rangeW lo hi).length = (hi - lo).toNat := by unfold rangeW; simp
  obtain ⟨e, h, p⟩ := forL_idx (t := t) (f := f) (P := P) (ws := rangeW lo hi) p (fun i h env p => by
    have e : (rangeW lo hi)[i] = .int (lo + i) := by
      have q : (rangeW lo hi)[i]? = some (.int (lo + i)) := by
        unfold rangeW
        rw [List.getElem?_map, List.getElem?_range (by omega)]
        rfl
      rw [List.getElem?_eq_getElem h] at q
      exact Option.some.inj q
    rw [e]
    exact H i (by omega) env p)
  exact ⟨e, h, hl ▸ p⟩
theorem forL_inv {P : Ev → Prop} {ws : List W} {env : Ev} (p : P env) (H : ∀ w ∈ ws, ∀ env, P env → ∃ e1 e2, bindT t w env = some e1 ∧ (f e1 = .nx e2 ∨ f e1 = .ct e2) ∧ P e2) : ∃ e, forL t f ws env = .nx e ∧ P e := by
  obtain ⟨e, h, p⟩ := forL_fold (ι := Unit) (P := fun _ e => P e) (step := fun _ _ => ()) (s := ()) p (fun w m _ env p => H w m env p)
  exact ⟨e, h, p⟩
end
@[simp] theorem bindT_nm {k : Nat} {w : W} {env : Ev} : bindT (.nm k) w env = some (env.set k (.dat w)) := (rfl)
@[simp] theorem wipeE_nil {env : Ev} : wipeE env [] = env := (rfl)
theorem mem_rangeW {lo hi : Int} {w : W} (h : w ∈ rangeW lo hi) : ∃ i, w = .int i ∧ lo ≤ i ∧ i < hi := by
  unfold rangeW at h
  obtain ⟨k, m, rfl⟩ := List.mem_map.1 h
  have := List.mem_range.1 m
  exact ⟨_, rfl, by omega, by omega⟩
@[simp] theorem gEq_bb {a b : Bool} : gEq (.bl a) (.bl b) = some (.v (.bl (a == b))) := by cases a <;> cases b <;> rfl
@[simp] theorem gNe_bb {a b : Bool} : gNe (.bl a) (.bl b) = some (.v (.bl (!(a == b)))) := by cases a <;> cases b <;> rfl
theorem gEq_xx {x : Str} (h : PyData.strOk x = true) : gEq (.str x) (.str x) = some (.v (.bl true)) := by
  show Option.map _ (pyEq (.str x) (.str x)) = _
  unfold pyEq
  rw [if_pos ⟨by simp [SeqAt.shaped, PyData.canLay0, h, PyData.depth], by simp [SeqAt.shaped, PyData.canLay0, h, PyData.depth]⟩]
  simp [PyData.eqv]
/-! the checks -/
/-- its type has a name -/
def Kn (w : W) : Prop := tyN w ≠ none
def inB (a b : Int) : W → Bool
  | .int x => decide (a ≤ x) && decide (x ≤ b)
  | _ => false
def isI : W → Bool
  | .int _ => true
  | _ => false
def isT : W → Bool
  | .tup _ => true
  | _ => false
def isL : W → Bool
  | .lst _ => true
  | _ => false
def isStr : W → Bool
  | .str _ => true
  | _ => false
theorem isi_int {w : W} (h : Kn w) : gIsi tInt [w] = some (.v (.bl (isI w || (match w with | .bl _ => true | _ => false)))) := by
  cases w <;> first | rfl | exact absurd rfl h
theorem isi_bool {w : W} (h : Kn w) : gIsi (tOne "bool") [w] = some (.v (.bl (match w with | .bl _ => true | _ => false))) := by
  cases w <;> first | rfl | exact absurd rfl h
theorem isi_tuple {w : W} (h : Kn w) : gIsi (tOne "tuple") [w] = some (.v (.bl (isT w))) := by
  cases w <;> first | rfl | exact absurd rfl h
theorem isi_list {w : W} (h : Kn w) : gIsi (tOne "list") [w] = some (.v (.bl (isL w))) := by
  cases w <;> first | rfl | exact absurd rfl h
theorem isi_str {w : W} (h : Kn w) : gIsi (tOne "str") [w] = some (.v (.bl (isStr w))) := by
  cases w <;> first | rfl | exact absurd rfl h
def dInteger : FnD := fdef 1 [false] (sRet (fAndV (fB (gIsi tInt) (fCons (fV 0) fNil)) (fNotV (fB (gIsi (tOne "bool")) (fCons (fV 0) fNil)))))
theorem integer_ok {w : W} (h : Kn w) : dInteger [w] = .ok (.bl (isI w)) [] := by
  unfold dInteger
  rw [fdef_e]
  simp [isi_int h, isi_bool h]
  cases w <;> simp [isI]
def dWithin : FnD := fdef 3 [false, false, false] (sRet (fAndV (fCall [false] dInteger (fCons (fE (fV 0)) fNil)) (fChain gLe gLe (fV 1) (fV 0) (fV 2))))
theorem within_ok {w : W} (h : Kn w) {a b : Int} : dWithin [w, .int a, .int b] = .ok (.bl (inB a b w)) [] := by
  unfold dWithin
  rw [fdef_e]
  simp [integer_ok h]
  cases w <;> simp [isI, inB]
  rename_i i
  by_cases c : a ≤ i <;> simp [c]
def dBelow : FnD := fdef 2 [false, false] (sRet (fCall [false, false, false] dWithin (fCons (fE (fV 0)) (fCons (fC (.int 0)) (fCons (fE (fOp gSub (fV 1) (fC (.int 1)))) fNil)))))
theorem below_ok {w : W} (h : Kn w) {b : Int} : dBelow [w, .int b] = .ok (.bl (inB 0 (b - 1) w)) [] := by
  unfold dBelow
  rw [fdef_e]
  simp [within_ok h]
def dLWithin : FnD := fdef 3 [false, false, false] (sRet (fAndV (fCall [false] dInteger (fCons (fE (fV 0)) fNil)) (fAndV (fOp gLe (fV 1) (fV 0)) (fOp gLe (fV 0) (fV 2)))))
theorem lwithin_ok {w : W} (h : Kn w) {a b : Int} : dLWithin [w, .int a, .int b] = .ok (.bl (inB a b w)) [] := by
  unfold dLWithin
  rw [fdef_e]
  simp [integer_ok h]
  cases w <;> simp [isI, inB]
  rename_i i
  by_cases c : a ≤ i <;> simp [c]
theorem hand_new {ns : List Int} : Hand (.lst [.lst (ns.map W.int), .int 0, .int 0, .int 1, .int 0]) := ⟨_, _, _, _, _, rfl, by omega, by omega, by omega, by omega, by omega⟩
def dTake : FnD := fdef 5 [true, false] bTake
theorem take_env {h : W} (H : Hand h) {m : Int} (m1 : 1 ≤ m) (m2 : m < 340282366920938463463374607431768211456) : ∃ r h', dTake [h, .int m] = .ok (.int r) [h'] ∧ 0 ≤ r ∧ r < m ∧ Hand h' := take_ok H m1 m2
def dPick : FnD := fdef 2 [true, false] (sRet (fOp gIx (fV 1) (fCall [true, false] dTake (fCons (fV 0) (fCons (fE (fB gLen (fCons (fV 1) fNil))) fNil)))))
theorem pick_ok {h : W} (H : Hand h) {ws : List W} (h1 : 1 ≤ ws.length) (h2 : ws.length < 340282366920938463463374607431768211456) : ∃ w h', dPick [h, .lst ws] = .ok w [h'] ∧ w ∈ ws ∧ Hand h' := by
  obtain ⟨r, h', e, r0, r1, H'⟩ := take_env H (m := ws.length) (by omega) (by omega)
  unfold dPick
  rw [fdef_e]
  have hx : atI ws r = some ws[r.toNat] := by rw [atI_get ⟨r0, r1⟩, List.getElem?_eq_getElem (by omega)]
  simp [e, hx]
  exact ⟨_, _, ⟨rfl, rfl⟩, List.getElem_mem _, H'⟩
theorem cut_take {α : Type} {xs : List α} {i : Int} (h : 0 ≤ i) : cutL xs none (some i) = xs.take i.toNat := by
  have e : HT.sIx xs.length xs.length (some i) = min i.toNat xs.length := by
    show (if i < 0 then (i + (xs.length : Int)).toNat else min i.toNat xs.length) = _
    rw [if_neg (by omega)]
  unfold cutL
  rw [e, HT.sIx_none, List.drop_zero, Nat.sub_zero, ← List.take_eq_take_min]
theorem cut_drop {α : Type} {xs : List α} {i : Int} (h : 0 ≤ i) : cutL xs (some i) none = xs.drop i.toNat := by
  have e : HT.sIx xs.length 0 (some i) = min i.toNat xs.length := by
    show (if i < 0 then (i + (xs.length : Int)).toNat else min i.toNat xs.length) = _
    rw [if_neg (by omega)]
  unfold cutL
  rw [e, HT.sIx_none]
  by_cases c : i.toNat ≤ xs.length
  · rw [Nat.min_eq_left c, List.take_of_length_le (by rw [List.length_drop]; omega)]
  · rw [Nat.min_eq_right (by omega), List.drop_of_length_le (by omega), List.drop_of_length_le (by omega), List.take_nil]
@[simp] theorem gSl_t {ws : List W} {lo hi : Option Int} : gSl (.tup ws) lo hi = some (.v (.tup (cutL ws lo hi))) := (rfl)
@[simp] theorem gSl_l {ws : List W} {lo hi : Option Int} : gSl (.lst ws) lo hi = some (.n (.lst (cutL ws lo hi))) := (rfl)
theorem gAdd_t {xs ys : List W} (h : xs.length + ys.length ≤ 16777216) : gAdd (.tup xs) (.tup ys) = some (.v (.tup (xs ++ ys))) := if_pos h
theorem gAdd_l {xs ys : List W} (h : xs.length + ys.length ≤ 16777216) : gAdd (.lst xs) (.lst ys) = some (.n (.lst (xs ++ ys))) := if_pos h
theorem gMul_t {xs : List W} {k : Int} (h : 0 ≤ k ∧ k * xs.length ≤ 16777216 ∧ k < 16777217) : gMul (.tup xs) (.int k) = some (.v (.tup (List.replicate k.toNat xs).flatten)) := if_pos h
end BV

set_option maxRecDepth 100000
set_option maxHeartbeats 4000000
/-! BV: x op= e, several names at once. -/
namespace BV
open PySem PySem.Spec PyProof.Rows L2
def putOV (i : Nat) (ov : OV) (env : Ev) : Option Ev := match ov with
  | .v w => some (env.set i (.dat w))
  | .n w => some (env.set i (.own w))
  | .s _ => none
/-- name op= e -/
def sAug (i : Nat) (g : W → W → Option OV) (f : EF) : SF := fun env => match env[i]? with
  | some (.dat wx) => (f env).andS fun y env => (match (getOV y env).bind fun wy => g wx wy with
    | some (.v w) => .nx (env.set i (.dat w))
    | _ => .bad)
  | _ => .bad
/-- targets = e, e a tuple that is taken apart -/
def sUn (t : Tg) (f : EF) : SF := fun env => (fE f env).andS fun ov env => match ov with
  | .v w => (match bindT t w env with
    | some env' => .nx env'
    | none => .bad)
  | _ => .bad
/-- a, b = x, y -/
def sPar2 (i j : Nat) (fa fb : EF) : SF := fun env => (fa env).andS fun x env => (fb env).andS fun y env => match (putOV i x env).bind (putOV j y) with
  | some env' => .nx env'
  | none => .bad
def sPar3 (i j k : Nat) (fa fb fc : EF) : SF := fun env => (fa env).andS fun x env => (fb env).andS fun y env => (fc env).andS fun z env => match ((putOV i x env).bind (putOV j y)).bind (putOV k z) with
  | some env' => .nx env'
  | none => .bad
section
variable {K : PySem.W.Frag} {ci : Nat → Addr} {BS : List Nat} {s m : Sta}
theorem put_ov (ok : Ok K ci m) (st : Stp BS s m) {i : Nat} {v : V} {ov : OV} {env' : Ev} (hi : i ∉ BS) (r : RepOV K ci m v ov) (nw : NewOV s v ov) (e : putOV i ov m.env = some env') :
    Stp BS s ⟨env', m.σ.set i (some v), m.G, m.H⟩ ∧ Ok K ci ⟨env', m.σ.set i (some v), m.G, m.H⟩ ∧
      ∀ v' ov', RepOV K ci m v' ov' → (∀ k, ov' ≠ .s k) → (∀ w u, ov' = .n w → ov = .n u → v' ≠ v) → RepOV K ci ⟨env', m.σ.set i (some v), m.G, m.H⟩ v' ov' := by
  have rest : ∀ (env' : Ev), (∀ j, j ≠ i → env'[j]? = m.env[j]?) → ∀ v' ov', RepOV K ci m v' ov' → (∀ k, ov' ≠ .s k) → ((∃ w, env'[i]? = some (.dat w)) ∨ i ≥ m.env.length ∨ (∀ w, ov' = .n w → v' ≠ v)) → RepOV K ci ⟨env', m.σ.set i (some v), m.G, m.H⟩ v' ov' := by
    intro env' he v' ov' r' ns nv
    cases ov' with
    | v w => exact r'
    | s k => exact absurd rfl (ns k)
    | n w =>
      obtain ⟨a, ea, ro, ga, no⟩ := r'
      refine ⟨a, ea, ro, ga, fun k o => ?_⟩
      obtain ⟨⟨u, h1⟩, h2⟩ := o
      by_cases hk : k = i
      · subst hk
        have h2 : (m.σ.set k (some v))[k]? = some (some (.ref a)) := h2
        by_cases hl : k < m.σ.length
        · rw [List.getElem?_set_self hl] at h2
          rcases nv with ⟨w', z⟩ | z | nv
          · have h1 : env'[k]? = some (.own u) := h1
            rw [z] at h1
            cases h1
          · have := ok.len
            omega
          · exact nv w rfl (by rw [ea]; exact (Option.some.inj (Option.some.inj h2)).symm)
        · rw [List.getElem?_eq_none (by rw [List.length_set]; omega)] at h2
          cases h2
      · have h2 : (m.σ.set i (some v))[k]? = some (some (.ref a)) := h2
        rw [List.getElem?_set_ne (Ne.symm hk)] at h2
        have h1 : env'[k]? = some (.own u) := h1
        rw [he k hk] at h1
        exact no k ⟨⟨u, h1⟩, h2⟩
  cases ov with
  | v w =>
    cases e
    obtain ⟨s1, o1⟩ := set_slot ok hi r
    refine ⟨Step.trans st s1, o1, fun v' ov' r' ns _ => rest _ (fun j hj => List.getElem?_set_ne (Ne.symm hj)) v' ov' r' ns ?_⟩
    by_cases hl : i < m.env.length
    · exact .inl ⟨w, List.getElem?_set_self hl⟩
    · exact .inr (.inl (by omega))
  | n w =>
    cases e
    obtain ⟨a, ea, ro, ga, no⟩ := r
    subst ea
    obtain ⟨s1, o1⟩ := set_own ok st hi ro ga no (nw a rfl)
    exact ⟨s1, o1, fun v' ov' r' ns nv => rest _ (fun j hj => List.getElem?_set_ne (Ne.symm hj)) v' ov' r' ns (.inr (.inr fun w' q => nv w' w q rfl))⟩
  | s k => cases e
/-- two values, the second newer than the first -/
theorem new_ne {v v' : V} {ov ov' : OV} (r : RepOV K ci m v ov) (ok : Ok K ci m) (nw : NewOV m v' ov') : ∀ w, ov' = .n w → (∀ u, ov = .n u → v' ≠ v) := by
  intro w e u e2 z
  subst e e2
  obtain ⟨a, ea, ro, _, _⟩ := r
  have := nw a (by rw [z, ea])
  exact ro.ne this
end
section
variable {X : Cx} {ci : Nat → Addr} {BS : List Nat} {e e2 e3 : Expr} {f fb fc : EF} {pos pos' : Pos}
/-- an operation in place -/
def IOpS (X : Cx) (ci : Nat → Addr) (BS : List Nat) (op : Operator) (g : W → W → Option OV) : Prop := OpS X ci BS (inplaceOp op) g
theorem i_add : IOpS X ci BS .Add (gI fun i j => .int (i + j)) := opS_I iop_add fun _ _ => .int _
theorem i_sub : IOpS X ci BS .Sub (gI fun i j => .int (i - j)) := opS_I iop_sub fun _ _ => .int _
theorem s_aug {i : Nat} {x : Str} {op : Operator} {g : W → W → Option OV} (hi : i ∉ BS) (ho : IOpS X ci BS op g) (he : SndE X ci BS e f) (hN : X.N.Nodup) (hx : X.N[i]? = some x := by rfl) (hl : Loc X.env.scope x := by first | exact Or.inl rfl | exact Or.inr rfl)
    (hf : X.fn x = true ∨ X.env.scope.names.lookup x = some .local := by first | exact .inl rfl | exact .inr rfl | assumption) : SndS X ci BS (.AugAssign (.Name x pos') op e pos) (sAug i g f) := by
  obtain ⟨t, p, q⟩ := he.ex
  obtain ⟨r, pr, qr⟩ := ho
  refine ⟨⟨fun W' => tAug i (t W') r, fun W' tk => ps_aug hN hx hl (p W' tk) (fun pins s σ H x y v u Q I rx ry h => pr pins s σ H x y v u Q I rx ry h) hf, fun W' s D ok h => ?_⟩⟩
  unfold sAug at h
  cases e1 : s.env[i]? with
  | none => rw [e1] at h; exact h.elim
  | some sl =>
    rw [e1] at h
    cases sl with
    | no => exact h.elim
    | own w => exact h.elim
    | dat w =>
      obtain ⟨v, q1, q2⟩ := ok.dat i w e1
      refine ⟨v, q1, ?_⟩
      refine q W' s _ ok ((AccS.andS h).imp fun ov env1 G1 H1 st1 ok1 h1 => ?_)
      intro y rep new
      cases e2 : getOV ov env1 with
      | none => dsimp only at h1; rw [e2] at h1; exact h1.elim
      | some wy =>
        dsimp only at h1
        rw [e2] at h1
        have h1 : AccS X.K ci BS W' ⟨env1, s.σ, G1, H1⟩ D (match g w wy with | some (.v w) => .nx (env1.set i (.dat w)) | _ => .bad) := h1
        cases e3 : g w wy with
        | none => rw [e3] at h1; exact h1.elim
        | some ov =>
          rw [e3] at h1
          cases ov with
          | v w3 =>
            refine qr W' ⟨env1, s.σ, G1, H1⟩ v y w wy _ _ ok1 (.inl (q2.mono st1.sub)) (cur_of ok1 rep e2) e3 ?_
            intro G2 H2 st2 ok2 z rz _
            obtain ⟨st3, ok3⟩ := set_slot (s := ⟨env1, s.σ, G2, H2⟩) ok2 hi rz
            exact h1 _ _ _ (Step.trans st2 st3) ok3
          | s k => exact h1.elim
          | n w3 => exact h1.elim
theorem s_un {tg : Expr} {t : Tg} (he : SndE X ci BS e f) (hg : SndG X ci BS tg t) (hs : swapsWithSole [tg] e pos.line X.env = pure false := by rfl) (hw : swappedStores [tg] e X.env = pure none := by rfl)
    (h1 : (assignEach [tg] X.env).map (·.2) = [assign tg X.env] := by rfl) : SndS X ci BS (.Assign [tg] e pos) (sUn t f) := by
  obtain ⟨te, p, q⟩ := (x_esc he).ex
  obtain ⟨g, pg, qg⟩ := hg.ex
  refine ⟨⟨fun W' => tAsg (te W') g, fun W' tk => ps_asg (p W' tk) pg hs hw h1, fun W' s D ok h => ?_⟩⟩
  refine q W' s _ ok (h.andS.imp fun ov env1 G1 H1 st1 ok1 h2 => ?_)
  intro v rep new
  cases ov with
  | v w =>
    dsimp only at h2
    cases e1 : bindT t w env1 with
    | none => rw [e1] at h2; exact h2.elim
    | some env' =>
      rw [e1] at h2
      exact qg ⟨env1, s.σ, G1, H1⟩ v w env' _ ok1 rep e1 fun σ' st2 ok2 _ _ => h2 σ' G1 H1 st2 ok2
  | _ => exact h2.elim
theorem bind_put {i j : Nat} {x y : OV} {env env' : Ev} (e : (putOV i x env).bind (putOV j y) = some env') : ∃ env1, putOV i x env = some env1 ∧ putOV j y env1 = some env' := by
  cases e1 : putOV i x env with
  | none => rw [e1] at e; cases e
  | some env1 => rw [e1] at e; exact ⟨env1, rfl, e⟩
theorem put_ns {i : Nat} {x : OV} {env env' : Ev} (e : putOV i x env = some env') : ∀ k, x ≠ .s k := fun k z => by subst z; cases e
theorem s_par2 {i j : Nat} {x y : Str} {a b : Expr} {px py pt pt2 : Pos} {kt k2} {fa fb : EF} (hc : X.calm = true) (hN : X.N.Nodup) (hbi : i ∉ BS) (hbj : j ∉ BS) (hij : i ≠ j) (ha : SndE X ci BS a fa) (hb : SndE X ci BS b fb) (hi : X.N[i]? = some x := by rfl) (hj : X.N[j]? = some y := by rfl)
    (hx : X.env.scope.names.lookup x = some .local := by rfl) (hy : X.env.scope.names.lookup y = some .local := by rfl)
    (hw : swappedStores [.Tuple [.Name x px, .Name y py] kt pt] (.Tuple [a, b] k2 pt2) X.env = pure (some [x, y]) := by rfl)
    (hs : swapsWithSole [.Tuple [.Name x px, .Name y py] kt pt] (.Tuple [a, b] k2 pt2) pos.line X.env = pure false := by rfl)
    (hs1 : starEach [a, b] X.env = (false, eval a X.env) :: starEach [b] X.env := by rfl) (hs2 : starEach [b] X.env = (false, eval b X.env) :: starEach [] X.env := by rfl) :
    SndS X ci BS (.Assign [.Tuple [.Name x px, .Name y py] kt pt] (.Tuple [a, b] k2 pt2) pos) (sPar2 i j fa fb) := by
  obtain ⟨ta, pa, qa⟩ := ha.ex
  obtain ⟨tb, pb, qb⟩ := hb.ex
  refine ⟨⟨fun W' => tPar i j (tCons (ta W') (tCons (tb W') tNil)), fun W' tk => ps_par hc hN hi hj hij hx hy (pa_cons (pa W' tk) (pa_cons (pb W' tk) pa_nil hs2) hs1) hw hs, fun W' s D ok h => ?_⟩⟩
  have h' : AccS X.K ci BS W' s D ((fa s.env).andS fun x env => (fb env).andS fun y env => match (putOV i x env).bind (putOV j y) with | some env' => .nx env' | none => .bad) := h
  refine qa W' s _ ok ?_
  cases e1 : fa s.env with
  | bad => rw [e1] at h'; exact h'.elim
  | er x env1 => rw [e1] at h'; exact fun G' H' cls d st ok rx => h' s.σ G' H' cls d st ok rx
  | ok ov env1 =>
    rw [e1] at h'
    intro G1 H1 st1 ok1 v rep new
    refine qb W' ⟨env1, s.σ, G1, H1⟩ _ ok1 ?_
    dsimp only [Res.andS] at h'
    show Acc X.K ci BS W' _ _ (fb env1)
    cases e2 : fb env1 with
    | bad => rw [e2] at h'; exact h'.elim
    | er x env2 => rw [e2] at h'; exact fun G' H' cls d st ok rx => h' s.σ G' H' cls d (Step.trans st1 st) ok rx
    | ok ov2 env2 =>
      rw [e2] at h'
      intro G2 H2 st2 ok2 v2 rep2 new2
      refine ⟨v, v2, rfl, ?_⟩
      dsimp only at h'
      cases e : (putOV i ov env2).bind (putOV j ov2) with
      | none => rw [e] at h'; exact h'.elim
      | some env' =>
        rw [e] at h'
        obtain ⟨env3, e1, e2⟩ := bind_put e
        have st : Stp BS s ⟨env2, s.σ, G2, H2⟩ := Step.trans st1 st2
        obtain ⟨s3, o3, k3⟩ := put_ov (s := s) (m := ⟨env2, s.σ, G2, H2⟩) ok2 st hbi (rep.step st2) new e1
        have rep2' := k3 v2 ov2 rep2 (put_ns e2) fun w u q1 q2 => new_ne (m := ⟨env1, s.σ, G1, H1⟩) rep ok1 new2 w q1 u q2
        obtain ⟨s4, o4, _⟩ := put_ov (s := s) (m := ⟨env3, s.σ.set i (some v), G2, H2⟩) o3 s3 hbj rep2' (NewOV.back st1 new2) e2
        exact h' _ _ _ s4 o4
end
end BV

set_option maxRecDepth 100000
set_option maxHeartbeats 4000000
/-! BV: own errors with fields; except clauses with a name. -/
namespace BV
open PySem PySem.Spec PyProof.Rows L2
/-- the j-th statement of a class -/
def clsS (st : Stmt) (j : Nat) : Stmt := match st with
  | .ClassDef _ _ _ body _ _ _ _ _ _ _ => body.getD j (.Pass ⟨0, 0, 0, 0⟩)
  | _ => .Pass ⟨0, 0, 0, 0⟩
/-- what is known of an own error class with fields -/
structure ErrC (K : PySem.W.Frag) (C fI : Addr) (fs : List Str) : Prop where
  T : OexC K C
  X : XfC K C
  iC : PySem.W.findIn K (.ref C) "__init__" = some (some (.ref fI))
  tI : PySem.W.typeIn K (.ref fI) = some (.type "function")
  no : ∀ f ∈ fs, PySem.W.findIn K (.ref C) f = some none
/-- what __init__ keeps: the fields stand in a dict of the error's own -/
def spInit (C : Addr) (fs : List Str) : Sp := fun vs H Q _ => ∃ (a : Addr) (ws : List V), vs = .ref a :: ws ∧ ws.length = fs.length ∧ H a = some (exo a C none) ∧
  ∀ (d : Addr) (H' : Hp), H d = none → d ≠ a → H' a = some (exo a C (some d)) → H' d = some (exd d (fs.zip ws).reverse) → (∀ b, b ≠ a → b ≠ d → H' b = H b) → Q .non H'
section
variable {P : Program} {w : World} {K : PySem.W.Frag} {mg : Str → Option Value} {base : Heap}
theorem init1 {q : Str} {st : Stmt} {C fI : Addr} {fd : FuncData} {f : Str} {p1 p2 p3 p4 : Pos} (F : Fun K "__init__" q st fI fd) (E : ErrC K C fI [f]) (S : FnScope ["self", f] ["self", f] (defScope st)) (hb : defBody st = [.Assign [.Attribute (.Name "self" p1) f p2] (.Name f p3) p4])
    (hv0 : Vis (defScope st) "self") (hv1 : Vis (defScope st) f) (hd : (f == ("__debug__" : Str)) = false) (hcd : (f == ("__classdict__" : Str)) = false) : FnOk P w K mg base (L2.CX P w) 1 fI fd ["self", f] (spInit C [f]) := by
  refine F.okX S (fun vs H Q E ⟨a, ws, e, l, _⟩ => by rw [e, List.length_cons, l]; rfl) (fun cdv A outer s H vs Q E' hr hsp => ?_)
  obtain ⟨a, ws, rfl, hl, ha, q⟩ := hsp
  rw [hb]
  refine ⟨_, pss_one (ps_ost (pe_var (i := 0) rfl hv0) (pe_var (i := 1) rfl hv1 hd hcd)), ?_⟩
  match ws, hl with
  | [v], _ =>
    refine ⟨v, rfl, .ref a, rfl, a, C, rfl, E.T, E.no f (List.mem_cons_self ..), .inl ⟨ha, fun d hd dne => ?_⟩⟩
    refine q d _ hd dne upd_same ?_ fun b hb1 hb2 => ?_
    · rw [upd_ne dne, upd_same]
      rfl
    · rw [upd_ne hb1, upd_ne hb2]
theorem init2 {q : Str} {st : Stmt} {C fI : Addr} {fd : FuncData} {f g : Str} {p1 p2 p3 p4 r1 r2 r3 r4 : Pos} (F : Fun K "__init__" q st fI fd) (E : ErrC K C fI [f, g]) (S : FnScope ["self", f, g] ["self", f, g] (defScope st))
    (hb : defBody st = [.Assign [.Attribute (.Name "self" p1) f p2] (.Name f p3) p4, .Assign [.Attribute (.Name "self" r1) g r2] (.Name g r3) r4])
    (hv0 : Vis (defScope st) "self") (hv1 : Vis (defScope st) f) (hv2 : Vis (defScope st) g) (hd : (f == ("__debug__" : Str)) = false) (hcd : (f == ("__classdict__" : Str)) = false) (hd2 : (g == ("__debug__" : Str)) = false) (hcd2 : (g == ("__classdict__" : Str)) = false) :
    FnOk P w K mg base (L2.CX P w) 1 fI fd ["self", f, g] (spInit C [f, g]) := by
  refine F.okX S (fun vs H Q E ⟨a, ws, e, l, _⟩ => by rw [e, List.length_cons, l]; rfl) (fun cdv A outer s H vs Q E' hr hsp => ?_)
  obtain ⟨a, ws, rfl, hl, ha, q⟩ := hsp
  rw [hb]
  refine ⟨_, pss_cons (ps_ost (pe_var (i := 0) rfl hv0) (pe_var (i := 1) rfl hv1 hd hcd)) (pss_one (ps_ost (pe_var (i := 0) rfl hv0) (pe_var (i := 2) rfl hv2 hd2 hcd2))), ?_⟩
  match ws, hl with
  | [v, u], _ =>
    refine ⟨v, rfl, .ref a, rfl, a, C, rfl, E.T, E.no f (List.mem_cons_self ..), .inl ⟨ha, fun d hd dne => ?_⟩⟩
    refine ⟨u, rfl, .ref a, rfl, a, C, rfl, E.T, E.no g (List.mem_cons_of_mem _ (List.mem_cons_self ..)), .inr ⟨d, [(f, v)], upd_same, by rw [upd_ne dne, upd_same], by simp, ?_⟩⟩
    refine q d _ hd dne (by rw [upd_ne (Ne.symm dne), upd_same]) ?_ fun b hb1 hb2 => ?_
    · rw [upd_same]
      rfl
    · rw [upd_ne hb2, upd_ne hb1, upd_ne hb2]
end
/-- raise C(e, ..) -/
def sRaise (c : Nat) (fs : List Str) (fa : AF) : SF := fun env => (fa env).andS fun ovs env => match asV ovs with
  | some ws => if ws.length = fs.length then .er ⟨c, (fs.zip ws).reverse⟩ env else .bad
  | none => .bad
section
variable {X : Cx} {ci : Nat → Addr} {BS : List Nat} {e : Expr} {es : List Expr} {f : EF} {fa : AF} {pos p pos2 : Pos}
theorem repFs_zip {K : PySem.W.Frag} {ci : Nat → Addr} {G : Hp} : ∀ {fs : List Str} {vs : List V} {ws : List W} {l : List (Str × V)} {l' : List (Str × W)}, RepVs K ci G vs ws → RepFs K ci G l l' → RepFs K ci G ((fs.zip vs).reverse ++ l) ((fs.zip ws).reverse ++ l')
  | [], _, _, _, _, _, r => r
  | _ :: _, _, _, _, _, .nil, r => r
  | f :: fs, _, _, _, _, .cons h t, r => by
    rw [List.zip_cons_cons, List.zip_cons_cons, List.reverse_cons, List.reverse_cons, List.append_assoc, List.append_assoc]
    exact repFs_zip t (.cons h r)
theorem s_raiseF {c k : Nat} {x : Str} {fI : Addr} {fd : FuncData} {fs ps : List Str} (hc : X.calm = true) (E : ErrC X.K (ci c) fI fs) (F1 : FnOk X.prog X.w X.K X.mg X.base (L2.CX X.prog X.w) k fI fd ps (spInit (ci c) fs)) (hr : Room (k + 1) X.A) (hb : Binds X.K fd ps [])
    (hg : Gl X x) (hm : X.mg x = some (.ref (ci c))) (hn : fs.length ≤ 1000) (ha : SndA X ci BS (e :: es) fa) (hdb : (x == ("__debug__" : Str)) = false := by decide)
    (he : starEach (e :: es) X.env = (false, eval e X.env) :: starEach es X.env := by rfl) (hpl : (backTo pos (starEach es X.env)).any (·.1) = false := by rfl) : SndS X ci BS (.Raise (some (.Call (.Name x p) (e :: es) [] pos)) none pos2) (sRaise c fs fa) := by
  obtain ⟨t, pp, q⟩ := ha.ex
  refine ⟨⟨fun W' => fun _ σ H => tMkO (ci c) (spInit (ci c) fs) [] (t W') σ H fun cls d H' => W' cls d σ H', fun W' tk => ps_raise hc tk (pmk_oex (ds := []) (dvs := []) E.T E.iC E.tI F1 hr hb .nil (fun _ _ _ _ _ _ _ ⟨_, _, _, _, _, _, _, _, _, _, _, _, z⟩ => z.elim) hg hm (pp W' tk) hdb he hpl), fun W' s D ok h => ?_⟩⟩
  refine q W' s _ ok (h.andS.imp fun ovs env1 G1 H1 st1 ok1 h1 => ?_)
  intro vs reps
  dsimp only at h1
  cases e1 : asV ovs with
  | none => rw [e1] at h1; exact h1.elim
  | some ws =>
    rw [e1] at h1
    dsimp only at h1
    by_cases hl : ws.length = fs.length
    · rw [if_pos hl] at h1
      have r := asV_of reps e1
      have hv : vs.length = fs.length := by rw [r.length, hl]
      refine ⟨by omega, fun a na => ⟨a, vs, by rw [List.append_nil], hv, upd_same, fun d H' nd dne ea ed rest => ⟨rfl, d, _, ea, ed, ?_, ?_⟩⟩⟩
      · rw [upd_ne dne] at nd
        exact nd
      · rw [upd_ne dne] at nd
        have eq : upd (del H' a) d (.xd (fs.zip vs).reverse) = upd H1 d (.xd (fs.zip vs).reverse) := by
          funext b
          by_cases hb : b = d
          · rw [hb, upd_same, upd_same]
          · rw [upd_ne hb, upd_ne hb]
            by_cases hba : b = a
            · rw [hba, del_same]; exact na.symm
            · rw [del_ne hba, rest b hba hb, upd_ne hba]
        rw [eq]
        obtain ⟨s2, o2⟩ := alloc_pers (o := .xd (fs.zip vs).reverse) ok1 nd
        refine h1 s.σ _ _ _ (some d) s2 o2 ⟨rfl, .inr ⟨d, _, rfl, upd_same, ?_⟩⟩
        have r' := repFs_zip (fs := fs) r (RepFs.nil (K := X.K) (ci := ci) (G := G1))
        rw [List.append_nil, List.append_nil] at r'
        exact r'.mono s2.sub
    · rw [if_neg hl] at h1
      exact h1.elim
end
end BV

set_option maxRecDepth 100000
set_option maxHeartbeats 4000000
/-! BV: except clauses, some of them with a name. -/
namespace BV
open PySem PySem.Spec PyProof.Rows L2
/-- a clause with the slot of its name, if it has one -/
abbrev ClD := Value × Option Nat × (Addr → Value → Option Addr → TS)
def setA (σ : L2.St) (o : Option Nat) (v : Option V) : L2.St := match o with
  | none => σ
  | some i => σ.set i v
def endA (o : Option Nat) (D : Ends) : Ends := { nx := fun σ H => D.nx (setA σ o none) H, rt := D.rt, bk := fun σ H => D.bk (setA σ o none) H, ct := fun σ H => D.ct (setA σ o none) H }
def wAny (K : PySem.W.Frag) (Wo : WX) (D : Ends) : List ClD → WX
  | [] => Wo
  | (c, o, ts) :: r => fun cls d σ H => ∃ b, PySem.W.exmOne K cls c = some b ∧ (b = true → ∀ a, H a = none → ts a cls d (endA o D) (setA σ o (some (.ref a))) H) ∧ (b = false → wAny K Wo D r cls d σ H)
inductive ClOk (X : Cx) : List ExceptHandler → List ClD → Prop
  | nil : ClOk X [] []
  | pl {x : Str} {c : Value} {ts : Addr → Value → Option Addr → TS} {b₁ : Stmt} {sts : List Stmt} {np ps : Pos} {hs : List ExceptHandler} {l : List ClD} (nm : Names X x c)
      (su : ∀ (a : Addr) (o : Obj) (cls : Value) (d : Option Addr) (pn : List (Addr × Obj)), Zc cls d o → (∃ vs, o.data = .fields vs) → PSs (X.suite a ((a, o) :: pn)) (b₁ :: sts) (ts a cls d)) (r : ClOk X hs l) :
      ClOk X (.ExceptHandler (some (.Name x np)) none (b₁ :: sts) ps :: hs) ((c, none, ts) :: l)
  | named {x n : Str} {i : Nat} {c : Value} {ts : Addr → Value → Option Addr → TS} {b₁ : Stmt} {sts : List Stmt} {np ps : Pos} {hs : List ExceptHandler} {l : List ClD} (nm : Names X x c) (hN : X.N.Nodup) (hi : X.N[i]? = some n) (hl : X.env.kindOf n = some .local)
      (su : ∀ (a : Addr) (o : Obj) (cls : Value) (d : Option Addr) (pn : List (Addr × Obj)), Zc cls d o → (∃ vs, o.data = .fields vs) → PSs (X.suite a ((a, o) :: pn)) (b₁ :: sts) (ts a cls d)) (r : ClOk X hs l) :
      ClOk X (.ExceptHandler (some (.Name x np)) (some n) (b₁ :: sts) ps :: hs) ((c, some i, ts) :: l)
section
variable {X : Cx} {body : List Stmt} {h₁ : ExceptHandler} {hs : List ExceptHandler} {l : List ClD} {pos : Pos} {tb : WX → TS} {Wo : WX}
/-- a suite's end: the name goes, if there is one -/
theorem gone_any {σ6 : L2.St} {H6 : Hp} {s6 : Shared} {pins : List (Addr × Obj)} {n : Str} {i : Nat} {p : Pos} {Q : Shared → Prop} (J : Inv X pins σ6 H6 s6) (hN : X.N.Nodup) (hi : X.N[i]? = some n) (hl : X.env.kindOf n = some .local)
    (k : ∀ s7, Inv X pins (σ6.set i none) H6 s7 → Q s7) : wpAny (model X.prog X.w) X.A (do bindName X.env n .none; unbindBehindTheSuite X.env n p) (fun _ s7 => Q s7) X.xe s6 :=
  gone_ok J hN hi hl k
theorem ps_try_any (hst : X.stack = X.env :: X.outer) (hfr : X.env.frame = some X.env.locals) (tk : Takes X Wo)
    (hb : ∀ (W2 : WX) (pn : List (Addr × Obj)) (xe : Value → Shared → Prop), Takes (X.tr pn xe) W2 → PassesOwn (model X.prog X.w) X.A X.env xe → PSs (X.tr pn xe) body (tb W2)) (hh : ClOk X (h₁ :: hs) l) :
    PS X (.Try body (h₁ :: hs) [] [] pos) (fun D σ H => tb (wAny X.K Wo D l) D σ H) := by
  constructor
  intro pins s σ H D I h
  have okX := I.ok
  have frA : X.A.frames = some (X.env :: X.outer) := by rw [okX.frames, hst]
  apply wpAny_Try_except
  let xeT : Value → Shared → Prop := fun e u1 => wpAny (model X.prog X.w) X.A (noteFrame e X.env) (fun _ u2 => wpAny (model X.prog X.w) X.A (setFlight e none)
    (fun _ u3 => wpAny (model X.prog X.w) X.A (handleBy e X.env (h₁ :: hs)) (SP X pins D) X.xe u3) X.xe u2) X.xe u1
  have tkT : Takes (X.tr (X.pn ++ pins) xeT) (wAny X.K Wo D l) := by
    intro u s' xx
    obtain ⟨a, B, sI, pins2, σ2, H2, cls, d, rfl, Jt, nb, up, sky, na, ose, age, w⟩ := xx
    have J : Inv X pins σ2 H2 sI := Jt.ofTry okX
    have sky2 : Sky B (X.env :: X.outer) a (Zc cls d) X.env.locals s'.heap := hst ▸ sky
    show wpAny _ _ (noteFrame (.ref a) X.env) _ _ _
    refine Sky.land Zc.steady frA hfr sky2 fun hp3 land3 up3 => ?_
    have J3 : Inv X pins σ2 H2 { s' with heap := hp3 } := J.landed nb land3.1 (up.trans up3) ose age
    obtain ⟨ob3, fv3, at3, z3, dt3⟩ := land3.there
    have nfr : a ∉ frs (X.env :: X.outer) := fun hm => by
      obtain ⟨_, ob, eo, no⟩ := land3.2.2.1.mem hm
      rw [at3] at eo
      cases eo
      exact no _ dt3
    have neL : a ≠ X.env.locals := fun z => nfr (List.mem_filterMap.mpr ⟨X.env, List.mem_cons_self, by rw [hfr, z]⟩)
    have neF : a ∉ X.fs := fun hm => by
      obtain ⟨en, me, q⟩ := List.mem_filterMap.mp hm
      exact nfr (List.mem_filterMap.mpr ⟨en, List.mem_cons_of_mem _ me, q⟩)
    have S3 := J3.suite at3 dt3 na neL neF
    have every : ∀ {hs2 : List ExceptHandler} {l2 : List ClD}, ClOk X hs2 l2 → wAny X.K Wo D l2 cls d σ2 H2 →
        wpAny (model X.prog X.w) X.A (handleBy (.ref a) X.env hs2) (SP X pins D) X.xe { s' with heap := hp3 } := by
      intro hs2 l2 good
      have ask : ∀ {x : Str} {c : Value} {np : Pos} {b : Bool}, Names X x c → PySem.W.exmOne X.K cls c = some b → ∀ {Q : Bool → Shared → Prop} {E E2 : Value → Shared → Prop}, Q b { s' with heap := hp3 } →
          wpAny (model X.prog X.w) (X.A.mark (some (.ref a))) (eval (.Name x np) X.env) (fun c u1 => wpAny (model X.prog X.w) (X.A.mark (some (.ref a))) (excMatches (.ref a) c) Q E2 u1) E { s' with heap := hp3 } := by
        intro x c np b nm hb1 Q E E2 q
        have ty : PySem.W.Looks (model X.prog X.w) hp3 (typeOf (.ref a)) cls := fun _ _ _ _ kk qq => wpAny_typeOf_ref (kk _ _ at3) (z3.1 ▸ qq)
        have mt := (PySem.W.exm_one (M := model X.prog X.w) J3.kIn ty hb1).here (A := X.A.mark (some (.ref a))) (E := E2) q
        obtain ⟨gl, nd, own | ⟨bl, bv, nn⟩⟩ := nm
        · exact ld_glob (X := X.suite a ((a, ob3) :: (X.pn ++ pins))) S3 gl own mt nd
        · exact ld_blt (X := X.suite a ((a, ob3) :: (X.pn ++ pins))) S3 gl bl bv mt nn nd
      induction good with
      | nil =>
        intro wn
        apply wpAny_handleBy_nil
        have fin : wpAny (model X.prog X.w) X.A (setFlight (.ref a) X.env.frame) (fun _ u4 => wpAny (model X.prog X.w) X.A (throw (.ref a) : Sem Flow) (SP X pins D) X.xe u4) X.xe { s' with heap := hp3 } := by
          rw [hfr]
          exact HandSPX.setFlight_upZ land3 fun hp4 fly4 up4 => wpAny_throw (tk _ _ ⟨a, B, sI, pins, σ2, H2, cls, d, rfl, J, nb, (up.trans up3).trans up4, .inr (.inr (hst ▸ fly4)), na, ose, age, wn⟩)
        obtain ⟨_, _, _, ox, fv, tr, _, _, eo, _, ed, e1, _⟩ := id land3
        unfold PySem.passOn
        apply wpAny_bind
        refine wpAny_field eo ed e1 ?_
        rw [if_neg (by simp)]
        first
          | exact wpAny_bind (wpAny_pure (wpAny_bind fin))
          | exact wpAny_bind fin
      | @pl x c ts b₁ sts np ps hs3 l3 nm su r ih =>
        intro wn
        obtain ⟨b, hb1, yes, no⟩ := wn
        refine wpAny_handleBy_cons (codeAny_handlers_test (ask nm hb1 ?_)) (fun q => nomatch q)
        cases b with
        | false => exact ih (no rfl)
        | true =>
          apply codeAny_handlers_suite
          refine HandSPX.lands_againZ land3 fun hp4 land4 up4 => ?_
          obtain ⟨ob4, fv4, at4, z4, dt4⟩ := land4.there
          have J4 : Inv X pins σ2 H2 { s' with heap := hp4 } := J.landed nb land4.1 ((up.trans up3).trans up4) ose age
          have S4 := J4.suite at4 dt4 na neL neF
          refine wpAny_mono ((su a ob4 cls d (X.pn ++ pins) z4 ⟨_, dt4⟩).run [] _ _ H2 _ S4 (yes rfl a na)) (fun fl u6 sp => ?_) (fun _ _ q => q.elim)
          cases fl with
          | next =>
            obtain ⟨σ5, H5, J5, q5⟩ := sp
            exact ⟨_, _, J5.unsuite okX, q5⟩
          | brk =>
            obtain ⟨σ5, H5, J5, q5⟩ := sp
            exact ⟨_, _, J5.unsuite okX, q5⟩
          | cont =>
            obtain ⟨σ5, H5, J5, q5⟩ := sp
            exact ⟨_, _, J5.unsuite okX, q5⟩
          | ret u =>
            obtain ⟨v5, σ5, H5, J5, r5, q5⟩ := sp
            exact ⟨_, _, _, J5.unsuite okX, r5, q5⟩
      | @named x n i c ts b₁ sts np ps hs3 l3 nm hN hi hl su r ih =>
        intro wn
        obtain ⟨b, hb1, yes, no⟩ := wn
        refine wpAny_handleBy_cons (codeAny_handlers_test (ask nm hb1 ?_)) (fun q => nomatch q)
        cases b with
        | false => exact ih (no rfl)
        | true =>
          apply codeAny_handlers_suite_as
          refine HandSPX.lands_againZ land3 fun hp4 land4 up4 => ?_
          obtain ⟨ob4, fv4, at4, z4, dt4⟩ := land4.there
          have J4 : Inv X pins σ2 H2 { s' with heap := hp4 } := J.landed nb land4.1 ((up.trans up3).trans up4) ose age
          have S4 := J4.suite at4 dt4 na neL neF
          refine store_ok (X := X.suite a ((a, ob4) :: (X.pn ++ pins))) (v := .ref a) S4 hN hi (.inl hl) rfl (fun u5 S5 => ?_) (.inr hl)
          refine wpAny_mono ((su a ob4 cls d (X.pn ++ pins) z4 ⟨_, dt4⟩).run [] u5 _ H2 _ S5 (yes rfl a na)) (fun fl u6 sp => ?_) (fun _ _ q => q.elim)
          cases fl with
          | next =>
            obtain ⟨σ5, H5, J5, q5⟩ := sp
            exact gone_any (J5.unsuite okX) hN hi hl fun _ J7 => ⟨_, _, J7, q5⟩
          | brk =>
            obtain ⟨σ5, H5, J5, q5⟩ := sp
            exact gone_any (J5.unsuite okX) hN hi hl fun _ J7 => ⟨_, _, J7, q5⟩
          | cont =>
            obtain ⟨σ5, H5, J5, q5⟩ := sp
            exact gone_any (J5.unsuite okX) hN hi hl fun _ J7 => ⟨_, _, J7, q5⟩
          | ret u =>
            obtain ⟨v5, σ5, H5, J5, r5, q5⟩ := sp
            exact gone_any (J5.unsuite okX) hN hi hl fun _ J7 => ⟨_, _, _, J7, r5, q5⟩
    exact every hh w
  refine wpAny_mono ((hb (wAny X.K Wo D l) (X.pn ++ pins) xeT tkT PassesOwn.looking).run [] s σ H D (I.toTry _) h) (fun fl s1 sp => ?_) (fun _ _ q => q)
  cases fl with
  | next =>
    obtain ⟨σ5, H5, J5, q5⟩ := sp
    exact wpAny_execs_nil ⟨σ5, H5, J5.ofTry okX, q5⟩
  | brk =>
    obtain ⟨σ5, H5, J5, q5⟩ := sp
    exact ⟨_, _, J5.ofTry okX, q5⟩
  | cont =>
    obtain ⟨σ5, H5, J5, q5⟩ := sp
    exact ⟨_, _, J5.ofTry okX, q5⟩
  | ret u =>
    obtain ⟨v5, σ5, H5, J5, r5, q5⟩ := sp
    exact ⟨_, _, _, J5.ofTry okX, r5, q5⟩
end
end BV

set_option maxRecDepth 100000
set_option maxHeartbeats 4000000
/-! BV: try with named clauses, as functions. -/
namespace BV
open PySem PySem.Spec PyProof.Rows L2
/-- a clause: its test on class numbers, its suite; a named one: the slot, the suite for an exception at a, its fields at d, of class c -/
inductive Hd where
  | pl (t : Nat → Option Bool) (g : SF)
  | as (t : Nat → Option Bool) (i : Nat) (g : Addr → Option Addr → Nat → SF)
def SR.clr (i : Nat) : SR → SR
  | .bad => .bad
  | .nx env => .nx (env.set i .no)
  | .rt w env => .rt w (env.set i .no)
  | .rn w env => .rn w (env.set i .no)
  | .bk env => .bk (env.set i .no)
  | .ct env => .ct (env.set i .no)
  | .er _ _ => .bad
/-- r is what the suite does, wherever the exception lies -/
def IsR (i : Nat) (g : Addr → Option Addr → Nat → SF) (x : Exc) (env : Ev) (r : SR) : Prop :=
  ∀ (a : Addr) (d : Option Addr), (d = none → x.fs = []) → (g a d x.c (env.set i (.dat (.exc a d x.fs)))).clr i = r
open Classical in
noncomputable def asR (i : Nat) (g : Addr → Option Addr → Nat → SF) (x : Exc) (env : Ev) : SR := if h : ∃ r, IsR i g x env r then h.choose else .bad
theorem asR_eq {i : Nat} {g : Addr → Option Addr → Nat → SF} {x : Exc} {env : Ev} {r : SR} (h : IsR i g x env r) : asR i g x env = r := by
  have e : ∃ r, IsR i g x env r := ⟨r, h⟩
  unfold asR
  rw [dif_pos e]
  have h2 := e.choose_spec
  exact (h2 0 (some 0) (fun z => nomatch z)).symm.trans (h 0 (some 0) (fun z => nomatch z))
noncomputable def pickA (hs : List Hd) (x : Exc) (env : Ev) : SR := match hs with
  | [] => .er x env
  | .pl t g :: r => (match t x.c with
    | none => .bad
    | some true => (match g env with
      | .er _ _ => .bad
      | r => r)
    | some false => pickA r x env)
  | .as t i g :: r => (match t x.c with
    | none => .bad
    | some true => asR i g x env
    | some false => pickA r x env)
noncomputable def sTryA (f : SF) (hs : List Hd) : SF := fun env => match f env with
  | .er x env' => pickA hs x env'
  | r => r
/-- e.f of the exception that the suite holds -/
def fXf (a : Addr) (d : Option Addr) (c k : Nat) (i : Nat) (f : Str) : EF := fun env => if c = k ∧ d ≠ none then (match env[i]? with
  | some (.dat (.exc a' d' fs)) => if a' = a ∧ d' = d then (match fs.lookup f with
    | some w => .ok (.v w) env
    | none => .bad) else .bad
  | _ => .bad) else .bad
inductive SndAs (X : Cx) (ci : Nat → Addr) (BS : List Nat) : List ExceptHandler → List Hd → Prop
  | nil : SndAs X ci BS [] []
  | pl {x : Str} {c : Value} {t : Nat → Option Bool} {g : SF} {b₁ : Stmt} {sts : List Stmt} {np ps : Pos} {hs : List ExceptHandler} {l : List Hd} (nm : Names X x c) (ht : Tst X.K ci c t)
      (su : ∀ (a : Addr) (o : Obj) (pn : List (Addr × Obj)), SndSs (X.suite a ((a, o) :: pn)) ci BS (b₁ :: sts) g) (r : SndAs X ci BS hs l) : SndAs X ci BS (.ExceptHandler (some (.Name x np)) none (b₁ :: sts) ps :: hs) (.pl t g :: l)
  | as {x n : Str} {i : Nat} {c : Value} {t : Nat → Option Bool} {g : Addr → Option Addr → Nat → SF} {b₁ : Stmt} {sts : List Stmt} {np ps : Pos} {hs : List ExceptHandler} {l : List Hd} (nm : Names X x c) (ht : Tst X.K ci c t) (hN : X.N.Nodup) (hB : i ∉ BS) (hi : X.N[i]? = some n) (hl : X.env.kindOf n = some .local)
      (su : ∀ (a : Addr) (o : Obj) (d : Option Addr) (k : Nat) (pn : List (Addr × Obj)), Zc (.ref (ci k)) d o → (∃ vs, o.data = .fields vs) → SndSs (X.suite a ((a, o) :: pn)) ci BS (b₁ :: sts) (g a d k)) (r : SndAs X ci BS hs l) :
      SndAs X ci BS (.ExceptHandler (some (.Name x np)) (some n) (b₁ :: sts) ps :: hs) (.as t i g :: l)
section
variable {X : Cx} {ci : Nat → Addr} {BS : List Nat}
theorem clr_ok {K : PySem.W.Frag} {s : Sta} {env' : Ev} {σ' : L2.St} {G' H' : Hp} {i : Nat} (st : Stp BS s ⟨env', σ', G', H'⟩) (ok : Ok K ci ⟨env', σ', G', H'⟩) (hB : i ∉ BS) : Stp BS s ⟨env'.set i .no, σ'.set i none, G', H'⟩ ∧ Ok K ci ⟨env'.set i .no, σ'.set i none, G', H'⟩ := by
  obtain ⟨s1, o1⟩ := wipe_ok (vs := [i]) ok (fun j hj z => hB (by rw [List.mem_singleton] at z; exact z ▸ hj))
  exact ⟨Step.trans st s1, o1⟩
theorem own_set_ne {env : Ev} {σ : L2.St} {i j : Nat} {sl : Sl} {ov : Option V} {a : Addr} (hs : ∀ w, sl ≠ .own w) (h : OwnAt (env.set i sl) (σ.set i ov) j a) : OwnAt env σ j a := by
  obtain ⟨⟨u, h1⟩, h2⟩ := h
  by_cases hj : j = i
  · subst hj
    by_cases hl : j < env.length
    · rw [List.getElem?_set_self hl] at h1
      exact absurd (Option.some.inj h1) (hs u)
    · rw [List.getElem?_eq_none (by rw [List.length_set]; omega)] at h1
      cases h1
  · rw [List.getElem?_set_ne (Ne.symm hj)] at h1 h2
    exact ⟨⟨u, h1⟩, h2⟩
theorem as_ok {hs : List ExceptHandler} {l : List Hd} (h : SndAs X ci BS hs l) : ∃ tl : List ClD, ClOk X hs tl ∧ ∀ (Wo : WX) (D : Ends) (s : Sta) (x : Exc) (cls : Value) (d : Option Addr), Ok X.K ci s → RepX X.K ci s.G s.H cls d x → AccS X.K ci BS Wo s D (pickA l x s.env) → wAny X.K Wo D tl cls d s.σ s.H := by
  induction h with
  | nil => exact ⟨[], .nil, fun Wo D s x cls d ok rx h => h s.σ s.G s.H cls d Step.refl ok rx⟩
  | @pl x c t g b₁ sts np ps hs l nm ht su r ih =>
    obtain ⟨tl, h1, h2⟩ := ih
    refine ⟨(c, none, fun a cls d => fun D σ H => ∀ o pn, (su a o pn).ex.choose (fun _ _ _ _ => False) D σ H) :: tl, .pl nm (fun a o cls d pn hz hf => ?_) h1, fun Wo D s x cls d ok rx h => ?_⟩
    · exact PSs.imp ((su a o pn).ex.choose_spec.1 _ takes0) fun D σ H z => z o pn
    · unfold pickA at h
      cases e : t x.c with
      | none => rw [e] at h; exact h.elim
      | some b =>
        rw [e] at h
        refine ⟨b, by rw [rx.1]; exact ht.is _ _ e, fun hb a ha o pn => ?_, fun hb => ?_⟩
        · subst hb
          dsimp only at h
          refine (su a o pn).ex.choose_spec.2 _ s (endA none D) ok ?_
          cases e2 : g s.env with
          | er y env' => rw [e2] at h; exact h.elim
          | bad => rw [e2] at h; exact h
          | nx env' => rw [e2] at h; exact h
          | rt w env' => rw [e2] at h; exact h
          | rn w env' => rw [e2] at h; exact h
          | bk env' => rw [e2] at h; exact h
          | ct env' => rw [e2] at h; exact h
        · subst hb
          exact h2 Wo D s x cls d ok rx h
  | @as x n i c t g b₁ sts np ps hs l nm ht hN hB hi hl su r ih =>
    obtain ⟨tl, h1, h2⟩ := ih
    refine ⟨(c, some i, fun a cls d => fun D σ H => ∃ k, cls = .ref (ci k) ∧ ∀ o pn z f, (su a o d k pn z f).ex.choose (fun _ _ _ _ => False) D σ H) :: tl, .named nm hN hi hl (fun a o cls d pn hz hf => ?_) h1, fun Wo D s x cls d ok rx h => ?_⟩
    · refine ⟨fun pins s σ H D I hw => ?_⟩
      obtain ⟨k, rfl, z⟩ := hw
      exact ((su a o d k pn hz hf).ex.choose_spec.1 _ takes0).run pins s σ H D I (z o pn hz hf)
    · unfold pickA at h
      cases e : t x.c with
      | none => rw [e] at h; exact h.elim
      | some b =>
        rw [e] at h
        refine ⟨b, by rw [rx.1]; exact ht.is _ _ e, fun hb a ha => ⟨x.c, rx.1, fun o pn z f => ?_⟩, fun hb => ?_⟩
        · subst hb
          have h : AccS X.K ci BS Wo s D (asR i g x s.env) := h
          have hR : ∃ r, IsR i g x s.env r := by
            by_cases q : ∃ r, IsR i g x s.env r
            · exact q
            · unfold asR at h
              rw [dif_neg q] at h
              exact h.elim
          obtain ⟨r, hR⟩ := hR
          rw [asR_eq hR] at h
          have hd : d = none → x.fs = [] := fun z => by
            rcases rx.2 with ⟨q, _⟩ | ⟨dd, _, q, _⟩
            · exact q
            · rw [z] at q; cases q
          have hR := hR a d hd
          have rep : RepV X.K ci s.G (.ref a) (.exc a d x.fs) := by
            rcases rx.2 with ⟨q, q2⟩ | ⟨dd, fvs, q, q2, q3⟩
            · rw [q, q2]
              exact .exc (fs := []) (fun _ z => nomatch z) .nil
            · rw [q]
              exact .exc (fun dd' z => by cases z; exact q2) q3
          obtain ⟨s1, o1⟩ := set_slot (v := .ref a) ok hB rep
          refine (su a o d x.c pn z f).ex.choose_spec.2 _ ⟨s.env.set i (.dat (.exc a d x.fs)), s.σ.set i (some (.ref a)), s.G, s.H⟩ (endA (some i) D) o1 ?_
          show AccS X.K ci BS _ _ _ (g a d x.c (s.env.set i (.dat (.exc a d x.fs))))
          cases e2 : g a d x.c (s.env.set i (.dat (.exc a d x.fs))) with
          | bad => rw [e2] at hR; subst hR; exact h
          | er y env' => rw [e2] at hR; subst hR; exact h.elim
          | nx env' =>
            rw [e2] at hR; subst hR
            intro σ' G' H' st ok'
            obtain ⟨s3, o3⟩ := clr_ok (Step.trans s1 st) ok' hB
            exact h _ _ _ s3 o3
          | bk env' =>
            rw [e2] at hR; subst hR
            intro σ' G' H' st ok'
            obtain ⟨s3, o3⟩ := clr_ok (Step.trans s1 st) ok' hB
            exact h _ _ _ s3 o3
          | ct env' =>
            rw [e2] at hR; subst hR
            intro σ' G' H' st ok'
            obtain ⟨s3, o3⟩ := clr_ok (Step.trans s1 st) ok' hB
            exact h _ _ _ s3 o3
          | rt w env' =>
            rw [e2] at hR; subst hR
            intro σ' G' H' v st ok' rv
            obtain ⟨s3, o3⟩ := clr_ok (Step.trans s1 st) ok' hB
            exact h _ _ _ v s3 o3 rv
          | rn w env' =>
            rw [e2] at hR; subst hR
            intro σ' G' H' b st ok' ro gb no nw
            obtain ⟨s3, o3⟩ := clr_ok (Step.trans s1 st) ok' hB
            refine h _ _ _ b s3 o3 ro gb (fun j q => no j (own_set_ne (sl := .no) (by intro w z; cases z) q)) ?_
            rcases nw with z | ⟨j, hj, z⟩
            · exact .inl z
            · exact .inr ⟨j, hj, own_set_ne (sl := .dat _) (by intro w z; cases z) z⟩
        · subst hb
          exact h2 Wo D s x cls d ok rx h
theorem s_tryA {body : List Stmt} {f : SF} {h₁ : ExceptHandler} {hs : List ExceptHandler} {l : List Hd} {pos : Pos} (hst : X.stack = X.env :: X.outer) (hf : X.env.frame = some X.env.locals)
    (hb : ∀ (pn : List (Addr × Obj)) (xe : Value → Shared → Prop), PassesOwn (model X.prog X.w) X.A X.env xe → SndSs (X.tr pn xe) ci BS body f) (hh : SndAs X ci BS (h₁ :: hs) l) : SndS X ci BS (.Try body (h₁ :: hs) [] [] pos) (sTryA f l) := by
  obtain ⟨tl, h1, h2⟩ := as_ok hh
  refine ⟨⟨fun W' => fun D σ H => (fun (W2 : WX) => (fun D σ H => ∀ pn xe hp, (hb pn xe hp).ex.choose W2 D σ H : TS)) (wAny X.K W' D tl) D σ H, fun W' tk => ?_, fun W' s D ok h => ?_⟩⟩
  · exact ps_try_any (tb := fun W2 => (fun D σ H => ∀ pn xe hp, (hb pn xe hp).ex.choose W2 D σ H : TS)) hst hf tk (fun W2 pn xe tk2 hp => PSs.imp ((hb pn xe hp).ex.choose_spec.1 W2 tk2) fun D σ H z => z pn xe hp) h1
  · intro pn xe hp
    refine (hb pn xe hp).ex.choose_spec.2 _ s D ok ?_
    have h' : AccS X.K ci BS W' s D (match f s.env with | .er x env' => pickA l x env' | r => r) := h
    cases e : f s.env with
    | bad => rw [e] at h'; exact h'
    | nx env' => rw [e] at h'; exact h'
    | rt w env' => rw [e] at h'; exact h'
    | rn w env' => rw [e] at h'; exact h'
    | bk env' => rw [e] at h'; exact h'
    | ct env' => rw [e] at h'; exact h'
    | er x env' =>
      rw [e] at h'
      intro σ' G' H' cls d st ok' rx
      exact h2 W' D ⟨env', σ', G', H'⟩ x cls d ok' rx (AccS.mid h' st)
theorem x_xf {a : Addr} {o : Obj} {d : Option Addr} {c k i : Nat} {pn : List (Addr × Obj)} {n f : Str} {p pos : Pos} (T : XfC X.K (ci k)) (hno : PySem.W.findIn X.K (.ref (ci k)) f = some none) (hz : Zc (.ref (ci c)) d o) (hf : ∃ vs, o.data = .fields vs)
    (hN : X.N[i]? = some n := by rfl) (hv : Vis X.env.scope n := by first | exact Or.inl rfl | exact Or.inr (Or.inl rfl) | exact Or.inr (Or.inr rfl)) (hd : (n == ("__debug__" : Str)) = false := by decide) (hcd : (n == ("__classdict__" : Str)) = false := by decide)
    (hb : attributeBase (.Name n p) f X.env (eval (.Name n p) X.env) = eval (.Name n p) X.env := by rfl) : SndE (X.suite a ((a, o) :: pn)) ci BS (.Attribute (.Name n p) f pos) (fXf a d c k i f) := by
  refine ⟨⟨fun _ => tXf a (.ref (ci c)) d (ci k) f (tVar i), fun _ _ => pe_xf T hno hz hf (pe_var (X := X.suite a ((a, o) :: pn)) hN hv hd hcd) hb, fun W' s Q ok h => ?_⟩⟩
  unfold fXf at h
  by_cases q : c = k ∧ d ≠ none
  · rw [if_pos q] at h
    obtain ⟨rfl, hd⟩ := q
    cases e : s.env[i]? with
    | none => rw [e] at h; exact h.elim
    | some sl =>
      rw [e] at h
      cases sl with
      | no => exact h.elim
      | own w => exact h.elim
      | dat w =>
        obtain ⟨v, q1, q2⟩ := ok.dat i w e
        cases w with
        | exc a' d' fs =>
          dsimp only at h
          by_cases q : a' = a ∧ d' = d
          · rw [if_pos q] at h
            obtain ⟨rfl, rfl⟩ := q
            cases q2 with
            | exc hG r =>
              cases e2 : fs.lookup f with
              | none => rw [e2] at h; exact h.elim
              | some w =>
                rw [e2] at h
                obtain ⟨v, l, rv⟩ := r.look e2
                cases d' with
                | none => exact absurd rfl hd
                | some dd => exact ⟨.ref a', q1, rfl, rfl, dd, _, v, rfl, ok.sub _ _ (hG dd rfl), l, ret_same ok h rv⟩
          · rw [if_neg q] at h
            exact h.elim
        | _ => exact h.elim
  · rw [if_neg q] at h
    exact h.elim
end
end BV

set_option maxRecDepth 100000
set_option maxHeartbeats 4000000
/-! BV: evaluation of the later statements; loops with a measure. -/
namespace BV
open PySem L2
section
variable {α β : Type} {e env : Ev} {w : W} {i j : Int}
@[simp] theorem putOV_v {k : Nat} : putOV k (.v w) env = some (env.set k (.dat w)) := (rfl)
@[simp] theorem putOV_n {k : Nat} : putOV k (.n w) env = some (env.set k (.own w)) := (rfl)
@[simp] theorem sAug_e {k : Nat} {g : W → W → Option OV} {f : EF} : sAug k g f env = match env[k]? with
  | some (.dat wx) => (f env).andS fun y env => (match (getOV y env).bind fun wy => g wx wy with
    | some (.v w) => .nx (env.set k (.dat w))
    | _ => .bad)
  | _ => .bad := (rfl)
@[simp] theorem gI_ii {f : Int → Int → W} : gI f (.int i) (.int j) = some (.v (f i j)) := (rfl)
@[simp] theorem sUn_e {t : Tg} {f : EF} : sUn t f env = (fE f env).andS fun ov env => match ov with
  | .v w => (match bindT t w env with
    | some env' => .nx env'
    | none => .bad)
  | _ => .bad := (rfl)
@[simp] theorem bindT_tp {l : Tgs} {ws : List W} : bindT (.tp l) (.tup ws) env = bindTs l ws env := (rfl)
@[simp] theorem bindTs_nil : bindTs .nil [] env = some env := (rfl)
@[simp] theorem bindTs_cons {t : Tg} {l : Tgs} {ws : List W} : bindTs (.cons t l) (w :: ws) env = (bindT t w env).bind fun env => bindTs l ws env := (rfl)
@[simp] theorem sPar2_e {k l : Nat} {fa fb : EF} : sPar2 k l fa fb env = (fa env).andS fun x env => (fb env).andS fun y env => match (putOV k x env).bind (putOV l y) with
  | some env' => .nx env'
  | none => .bad := (rfl)
@[simp] theorem sRaise_e {c : Nat} {fs : List Str} {fa : AF} : sRaise c fs fa env = (fa env).andS fun ovs env => match asV ovs with
  | some ws => if ws.length = fs.length then .er ⟨c, (fs.zip ws).reverse⟩ env else .bad
  | none => .bad := (rfl)
@[simp] theorem sTryA_e {f : SF} {hs : List Hd} : sTryA f hs env = match f env with
  | .er x env' => pickA hs x env'
  | r => r := (rfl)
theorem pickA_nil {x : Exc} : pickA [] x env = .er x env := by unfold pickA; rfl
theorem pickA_pl {t : Nat → Option Bool} {g : SF} {r : List Hd} {x : Exc} : pickA (.pl t g :: r) x env = match t x.c with
  | none => .bad
  | some true => (match g env with
    | .er _ _ => .bad
    | r => r)
  | some false => pickA r x env := by
  first
    | (rw [pickA]; done)
    | (rw [pickA]
       cases t x.c with
       | none => rfl
       | some b => cases b <;> rfl)
theorem pickA_as {t : Nat → Option Bool} {k : Nat} {g : Addr → Option Addr → Nat → SF} {r : List Hd} {x : Exc} : pickA (.as t k g :: r) x env = match t x.c with
  | none => .bad
  | some true => asR k g x env
  | some false => pickA r x env := by
  first
    | (rw [pickA]; done)
    | (rw [pickA]
       cases t x.c with
       | none => rfl
       | some b => cases b <;> rfl)
theorem fXf_e {a : Addr} {d : Option Addr} {c k i : Nat} {f : Str} : fXf a d c k i f env = if c = k ∧ d ≠ none then (match env[i]? with
  | some (.dat (.exc a' d' fs)) => if a' = a ∧ d' = d then (match fs.lookup f with
    | some w => .ok (.v w) env
    | none => .bad) else .bad
  | _ => .bad) else .bad := (rfl)
@[simp] theorem clr_nx {k : Nat} : (SR.nx e).clr k = .nx (e.set k .no) := (rfl)
@[simp] theorem clr_rt {k : Nat} : (SR.rt w e).clr k = .rt w (e.set k .no) := (rfl)
end
/-- a while loop, by a measure -/
theorem whileL_meas {c : TF} {f : SF} {P : Nat → Ev → Prop} {Q : Ev → Prop} (H : ∀ n env, P n env → (∃ e, c env = .ok false e ∧ Q e) ∨ ∃ e, c env = .ok true e ∧ ∃ m, n = m + 1 ∧ (f e).Nx (P m)) :
    ∀ {n N : Nat} {env : Ev}, n < N → P n env → ∃ e, whileL c f N env = .nx e ∧ Q e := by
  intro n
  induction n with
  | zero =>
    intro N env hN p
    obtain ⟨N, rfl⟩ : ∃ M, N = M + 1 := ⟨N - 1, by omega⟩
    rcases H 0 env p with ⟨e, h1, q⟩ | ⟨e, _, m, hm, _⟩
    · exact ⟨e, by show (c env).andS _ = _; rw [h1]; rfl, q⟩
    · omega
  | succ n ih =>
    intro N env hN p
    obtain ⟨N, rfl⟩ : ∃ M, N = M + 1 := ⟨N - 1, by omega⟩
    rcases H (n + 1) env p with ⟨e, h1, q⟩ | ⟨e, h1, m, hm, h2⟩
    · exact ⟨e, by show (c env).andS _ = _; rw [h1]; rfl, q⟩
    · obtain rfl : n = m := by omega
      cases hf : f e with
      | nx e2 =>
        rw [hf] at h2
        obtain ⟨e3, h3, q3⟩ := ih (N := N) (by omega) h2
        refine ⟨e3, ?_, q3⟩
        show (c env).andS _ = _
        rw [h1]
        show (match f e with | .nx e => whileL c f N e | .ct e => whileL c f N e | .bk e => .nx e | r => r) = _
        rw [hf]
        exact h3
      | ct e2 =>
        rw [hf] at h2
        obtain ⟨e3, h3, q3⟩ := ih (N := N) (by omega) h2
        refine ⟨e3, ?_, q3⟩
        show (c env).andS _ = _
        rw [h1]
        show (match f e with | .nx e => whileL c f N e | .ct e => whileL c f N e | .bk e => .nx e | r => r) = _
        rw [hf]
        exact h3
      | _ => rw [hf] at h2; exact h2.elim
end BV

set_option maxRecDepth 100000
set_option maxHeartbeats 4000000
/-! BV: rows of bytes, equal results, odd things: defs that many laws share. -/
namespace BV
open PySem
def bRow : SF :=
  (sRet (fAndV (fB (gIsi (tOne "tuple")) (fCons (fV 0) fNil)) (fAndV (fOp gLe (fB gLen (fCons (fV 0) fNil)) (fC (.int 300000))) (fB gAll (fCons (fLc (fIt asT (fE (fV 0))) (.nm 1) fYes (fCall [false, false] dBelow (fCons (fE (fV 1)) (fCons (fE (fC (.int 256))) fNil))) [1]) fNil)))))
def dRow : FnD := fdef 2 [false] bRow
def bLRow : SF :=
  (sSeq (sIf (fOr (fNot (fTest (fB (gIsi (tOne "tuple")) (fCons (fV 0) fNil)))) (fTest (fOp gGt (fB gLen (fCons (fV 0) fNil)) (fC (.int 300000))))) (sRet (fC (.bl false))) sNext)
  (sRet (fOp gEq (fB gLen (fCons (fLc (fIt asT (fE (fV 0))) (.nm 1) (fNot (fTest (fCall [false, false, false] dLWithin (fCons (fE (fV 1)) (fCons (fC (.int 0)) (fCons (fC (.int 255)) fNil)))))) (fV 1) [1]) fNil)) (fC (.int 0)))))
def dLRow : FnD := fdef 2 [false] bLRow
def bSame (g0 : FnD) : SF :=
  (sSeq (sIf (fTest (fOp gIs (fV 1) (fC .non))) (sRet (fOp gIs (fV 0) (fC .non))) sNext)
  (sSeq (sIf (fTest (fOp gIs (fV 1) (fC (.bl true)))) (sRet (fOp gIs (fV 0) (fC (.bl true)))) sNext)
  (sSeq (sIf (fTest (fOp gIs (fV 1) (fC (.bl false)))) (sRet (fOp gIs (fV 0) (fC (.bl false)))) sNext)
  (sSeq (sIf (fTest (fB (gIsi tInt) (fCons (fV 1) fNil))) (sRet (fAndV (fCall [false] dInteger (fCons (fE (fV 0)) fNil)) (fOp gEq (fV 0) (fV 1)))) sNext)
  (sSeq (sIf (fTest (fB (gIsi (tOne "str")) (fCons (fV 1) fNil))) (sRet (fAndV (fB (gIsi (tOne "str")) (fCons (fV 0) fNil)) (fOp gEq (fV 0) (fV 1)))) sNext)
  (sSeq (sIf (fOr (fTest (fOp gNe (fB (gIsi (tOne "tuple")) (fCons (fV 1) fNil)) (fB (gIsi (tOne "tuple")) (fCons (fV 0) fNil)))) (fTest (fOp gNe (fB (gIsi (tOne "list")) (fCons (fV 1) fNil)) (fB (gIsi (tOne "list")) (fCons (fV 0) fNil))))) (sRet (fC (.bl false))) sNext)
  (sSeq (sIf (fTest (fOp gNe (fB gLen (fCons (fV 0) fNil)) (fB gLen (fCons (fV 1) fNil)))) (sRet (fC (.bl false))) sNext)
  (sSeq (sFor (fZip (fE (fV 0)) (fE (fV 1))) (.tp (.cons (.nm 2) (.cons (.nm 3) .nil))) (sIf (fNot (fTest (fCall [false, false] g0 (fCons (fE (fV 2)) (fCons (fE (fV 3)) fNil))))) (sRet (fC (.bl false))) sNext))
  (sRet (fC (.bl true)))))))))))
def dSame : Nat → FnD
  | 0 => fun _ => .bad
  | n + 1 => fdef 4 [false, false] (bSame (dSame n))
def bOdd : SF :=
  (sSeq (sSet 1 (fCall [true, false] dTake (fCons (fV 0) (fCons (fC (.int 18)) fNil))))
  (sSeq (sIf (fTest (fOp gLt (fV 1) (fC (.int 6)))) (sRet (fOp gIx (fLst (fCons (fC .non) (fCons (fC (.bl true)) (fCons (fC (.bl false)) (fCons (fC (.str "")) (fCons (fC (.str "H")) (fCons (fC (.str "0")) fNil))))))) (fV 1))) sNext)
  (sSeq (sIf (fTest (fOp gLt (fV 1) (fC (.int 12)))) (sRet (fOp gIx (fLst (fCons (fTup fNil) (fCons (fE (fLst fNil)) (fCons (fE fDict0) (fCons (fTup (fCons (fC (.int 0)) fNil)) (fCons (fE (fLst (fCons (fC (.int 0)) (fCons (fC (.int 0)) fNil)))) (fCons (fTup (fCons (fTup fNil) fNil)) fNil))))))) (fOp gSub (fV 1) (fC (.int 6))))) sNext)
  (sRet (fOp gIx (fLst (fCons (fE (fNeg (fC (.int 1)))) (fCons (fC (.int 999)) (fCons (fE (fOp gSub (fOp gPow (fC (.int 10)) (fC (.int 20))) (fC (.int 1)))) (fCons (fTup (fCons (fC (.int 0)) (fCons (fC (.int 1)) fNil))) (fCons (fTup (fCons (fC (.bl true)) fNil)) (fCons (fTup (fCons (fE (fNeg (fC (.int 1)))) fNil)) fNil))))))) (fOp gSub (fV 1) (fC (.int 12))))))))
def dOdd : FnD := fdef 2 [true] bOdd
def bBytes : SF :=
  (sSeq (sOwn 2 (fLst fNil))
  (sSeq (sFor (fRng1 (fCall [true, false] dTake (fCons (fV 0) (fCons (fE (fOp gAdd (fV 1) (fC (.int 1)))) fNil)))) (.nm 3) (sApp 2 (fE (fCall [true, false] dPick (fCons (fV 0) (fCons (fE (fLst (fCons (fC (.int 0)) (fCons (fC (.int 1)) (fCons (fC (.int 2)) (fCons (fC (.int 3)) (fCons (fC (.int 127)) (fCons (fC (.int 128)) (fCons (fC (.int 129)) (fCons (fC (.int 255)) (fCons (fE (fCall [true, false] dTake (fCons (fV 0) (fCons (fC (.int 256)) fNil)))) (fCons (fE (fCall [true, false] dTake (fCons (fV 0) (fCons (fC (.int 256)) fNil)))) fNil)))))))))))) fNil))))))
  (sRet (fB gTuple (fCons (fV 2) fNil)))))
def dBytes : FnD := fdef 4 [true, false] bBytes
def isRow : W → Bool
  | .tup ws => decide (ws.length ≤ 300000) && ws.all (inB 0 255)
  | _ => false
def KRow (w : W) : Prop := Kn w ∧ ∀ ws, w = .tup ws → ws.length ≤ 16777216 ∧ ∀ u ∈ ws, Kn u
theorem bools_map {k : W → Bool} : ∀ {ws : List W}, bools (ws.map fun w => .bl (k w)) = some (ws.map k)
  | [] => rfl
  | w :: ws => by
    show (bools (ws.map fun w => .bl (k w))).map _ = _
    rw [bools_map]
    rfl
theorem is_row_ok {w : W} (h : KRow w) : dRow [w] = .ok (.bl (isRow w)) [] := by
  unfold dRow bRow
  rw [fdef_e]
  cases w with
  | tup ws =>
    by_cases c : ws.length ≤ 300000
    · obtain ⟨e, h1, h2⟩ := compL_pure (t := .nm 1) (c := fYes) (el := fCall [false, false] dBelow (fCons (fE (fV 1)) (fCons (fE (fC (.int 256))) fNil))) (vs := [1]) (P := fun env => env = [.dat (.tup ws), .no])
        (k := fun w => some (.bl (inB 0 255 w))) (ws := ws) (acc := []) (env := [.dat (.tup ws), .no]) rfl (fun w m env p => by
          subst p
          have := (h.2 ws rfl).2 w m
          simp [compL1, below_ok this, wipeE, restE]) (by simp; omega)
      subst h2
      simp [isi_tuple h.1, isT, c, h1, isRow, gAll, bools_map, List.all_map, show ((ws.length : Int) ≤ 300000) by omega]
    · simp [isi_tuple h.1, isT, c, isRow, show ¬ ((ws.length : Int) ≤ 300000) by omega]
  | _ => simp [isi_tuple h.1, isT, isRow]
theorem lis_row_ok {w : W} (h : KRow w) : dLRow [w] = .ok (.bl (isRow w)) [] := by
  unfold dLRow bLRow
  rw [fdef_e]
  cases w with
  | tup ws =>
    by_cases c : ws.length ≤ 300000
    · obtain ⟨e, h1, h2⟩ := compL_pure (t := .nm 1) (c := fNot (fTest (fCall [false, false, false] dLWithin (fCons (fE (fV 1)) (fCons (fC (.int 0)) (fCons (fC (.int 255)) fNil)))))) (el := fV 1) (vs := [1]) (P := fun env => env = [.dat (.tup ws), .no])
        (k := fun w => if inB 0 255 w then none else some w) (ws := ws) (acc := []) (env := [.dat (.tup ws), .no]) rfl (fun w m env p => by
          subst p
          have := (h.2 ws rfl).2 w m
          cases q : inB 0 255 w <;> simp [compL1, lwithin_ok this, wipeE, restE, q]) (by simp; omega)
      subst h2
      simp [isi_tuple h.1, isT, c, h1, isRow, show ¬ ((300000 : Int) < ws.length) by omega]
      exact (Bool.eq_iff_iff.2 (by simp))
    · simp [isi_tuple h.1, isT, c, isRow, show ((300000 : Int) < ws.length) by omega]
  | _ => simp [isi_tuple h.1, isT, isRow]
theorem row_bytes {ws : List W} (h : isRow (.tup ws) = true) : ws.length ≤ 300000 ∧ ∀ w ∈ ws, inB 0 255 w = true := by
  have h : (decide (ws.length ≤ 300000) && ws.all (inB 0 255)) = true := h
  rw [Bool.and_eq_true_iff] at h
  exact ⟨of_decide_eq_true h.1, fun w m => List.all_eq_true.1 h.2 w m⟩
theorem row_of {ws : List W} (h : ws.length ≤ 300000) (h2 : ∀ w ∈ ws, inB 0 255 w = true) : isRow (.tup ws) = true := by
  show (decide (ws.length ≤ 300000) && ws.all (inB 0 255)) = true
  rw [Bool.and_eq_true_iff]
  exact ⟨decide_eq_true h, List.all_eq_true.2 h2⟩
theorem row_tup {w : W} (h : isRow w = true) : ∃ ws, w = .tup ws := by
  cases w with
  | tup ws => exact ⟨_, rfl⟩
  | _ => cases h
theorem byte_kn {w : W} (h : inB 0 255 w = true) : Kn w := by
  cases w with
  | int b => intro e; cases e
  | _ => cases h
/-! equal results -/
theorem same_ii {n : Nat} {i : Int} : dSame (n + 1) [.int i, .int i] = .ok (.bl true) [] := by
  show fdef 4 [false, false] (bSame (dSame n)) _ = _
  unfold bSame
  rw [fdef_e]
  simp [gIs, isNon, isBl, gIsi, tInt, tyN, integer_ok (w := .int i) (by intro e; cases e), isI]
theorem same_ss {n : Nat} {x : Str} (h : PyData.strOk x = true) : dSame (n + 1) [.str x, .str x] = .ok (.bl true) [] := by
  show fdef 4 [false, false] (bSame (dSame n)) _ = _
  unfold bSame
  rw [fdef_e]
  simp [gIs, isNon, isBl, gIsi, tInt, tOne, tyN, gEq_xx h]
theorem same_tup {n : Nat} {ws : List W} (H : ∀ w ∈ ws, dSame n [w, w] = .ok (.bl true) []) : dSame (n + 1) [.tup ws, .tup ws] = .ok (.bl true) [] := by
  show fdef 4 [false, false] (bSame (dSame n)) _ = _
  unfold bSame
  rw [fdef_e]
  obtain ⟨e, h1, a, b, rfl⟩ := forL_inv (t := .tp (.cons (.nm 2) (.cons (.nm 3) .nil))) (f := sIf (fNot (fTest (fCall [false, false] (dSame n) (fCons (fE (fV 2)) (fCons (fE (fV 3)) fNil))))) (sRet (fC (.bl false))) sNext)
    (P := fun env => ∃ a b, env = [.dat (.tup ws), .dat (.tup ws), a, b]) (ws := zipW ws ws) (env := [.dat (.tup ws), .dat (.tup ws), .no, .no]) ⟨_, _, rfl⟩ (fun w m env p => by
      obtain ⟨a, b, rfl⟩ := p
      have : ∃ u ∈ ws, w = .tup [u, u] := by
        unfold zipW at m
        rw [List.zipWith_self] at m
        obtain ⟨u, mu, rfl⟩ := List.mem_map.1 m
        exact ⟨u, mu, rfl⟩
      obtain ⟨u, mu, rfl⟩ := this
      exact ⟨_, _, rfl, .inl (by simp [H u mu]; exact ⟨rfl, rfl⟩), _, _, rfl⟩)
  simp [gIs, isNon, isBl, gIsi, tInt, tOne, tyN, asS, h1]
theorem same_n {n : Nat} {x : Str} (h : PyData.strOk x = true) : dSame (n + 2) [.tup [.str x], .tup [.str x]] = .ok (.bl true) [] := same_tup fun w m => by
  rw [List.mem_singleton.1 m]
  exact same_ss h
theorem same_two {n : Nat} {a b : W} (h1 : dSame n [a, a] = .ok (.bl true) []) (h2 : dSame n [b, b] = .ok (.bl true) []) : dSame (n + 1) [.tup [a, b], .tup [a, b]] = .ok (.bl true) [] := same_tup fun w m => by
  rcases List.mem_cons.1 m with rfl | m
  · exact h1
  · rw [List.mem_singleton.1 m]
    exact h2
theorem ok_told : PyData.strOk "told" = true := by decide +kernel
theorem ok_NoRow : PyData.strOk "NoRow" = true := by decide +kernel
theorem ok_NoNumber : PyData.strOk "NoNumber" = true := by decide +kernel
/-! draws -/
theorem krow_of {w : W} (h : Kn w) (h2 : ∀ ws, w ≠ .tup ws) : KRow w := ⟨h, fun ws e => absurd e (h2 ws)⟩
theorem kn_int {i : Int} : Kn (.int i) := by intro e; cases e
theorem kn_tup {ws : List W} : Kn (.tup ws) := by intro e; cases e
theorem odd_ok {h : W} (H : Hand h) : ∃ w h', dOdd [h] = .ok w [h'] ∧ KRow w ∧ Hand h' := by
  obtain ⟨r, h', e, r0, r1, H'⟩ := take_env H (m := 18) (by omega) (by omega)
  unfold dOdd bOdd
  rw [fdef_e]
  have hr : r = 0 ∨ r = 1 ∨ r = 2 ∨ r = 3 ∨ r = 4 ∨ r = 5 ∨ r = 6 ∨ r = 7 ∨ r = 8 ∨ r = 9 ∨ r = 10 ∨ r = 11 ∨ r = 12 ∨ r = 13 ∨ r = 14 ∨ r = 15 ∨ r = 16 ∨ r = 17 := by omega
  rcases hr with rfl | rfl | rfl | rfl | rfl | rfl | rfl | rfl | rfl | rfl | rfl | rfl | rfl | rfl | rfl | rfl | rfl | rfl <;>
  · simp [e, gPow_i]
    exact ⟨_, _, ⟨rfl, rfl⟩, ⟨(by intro e; cases e), fun ws e => by first | (cases e; refine ⟨by simp, fun u m => ?_⟩; simp at m; done) | (cases e; refine ⟨by simp, fun u m => ?_⟩; simp at m; first | (subst m; intro e; cases e) | (rcases m with rfl | rfl <;> intro e <;> cases e)) | cases e⟩, H'⟩
theorem bytes_ok {h : W} {most : Int} (m0 : 0 ≤ most) (m1 : most ≤ 1000000) (H : Hand h) : ∃ ws h', dBytes [h, .int most] = .ok (.tup ws) [h'] ∧ (ws.length : Int) ≤ most ∧ (∀ u ∈ ws, inB 0 255 u = true) ∧ Hand h' := by
  obtain ⟨r, h', e, r0, r1, H'⟩ := take_env H (m := most + 1) (by omega) (by omega)
  unfold dBytes bBytes
  rw [fdef_e]
  obtain ⟨e', h1, h2, ws, sl, rfl, K, hl, hb⟩ := forL_rng (t := .nm 3) (f := (sApp 2 (fE (fCall [true, false] dPick (fCons (fV 0) (fCons (fE (fLst (fCons (fC (.int 0)) (fCons (fC (.int 1)) (fCons (fC (.int 2)) (fCons (fC (.int 3)) (fCons (fC (.int 127)) (fCons (fC (.int 128)) (fCons (fC (.int 129)) (fCons (fC (.int 255)) (fCons (fE (fCall [true, false] dTake (fCons (fV 0) (fCons (fC (.int 256)) fNil)))) (fCons (fE (fCall [true, false] dTake (fCons (fV 0) (fCons (fC (.int 256)) fNil)))) fNil)))))))))))) fNil))))))
    (P := fun (n : Nat) env => ∃ h ws sl, env = [.own h, .dat (.int most), .own (.lst ws), sl] ∧ Hand h ∧ ws.length = n ∧ ∀ u ∈ ws, inB 0 255 u = true)
    (lo := 0) (hi := r) (env := [.own h', .dat (.int most), .own (.lst []), .no]) ⟨_, _, _, rfl, H', by simp, by simp⟩ (fun i hi env p => by
      obtain ⟨h, ws, sl, rfl, K, hl, hb⟩ := p
      obtain ⟨r1, h1, e1, r10, r11, K⟩ := take_env K (m := 256) (by omega) (by omega)
      obtain ⟨r2, h2, e2, r20, r21, K⟩ := take_env K (m := 256) (by omega) (by omega)
      obtain ⟨w3, h3, e3, m3, K⟩ := pick_ok K (ws := [.int 0, .int 1, .int 2, .int 3, .int 127, .int 128, .int 129, .int 255, .int r1, .int r2]) (by simp) (by simp)
      have hb3 : inB 0 255 w3 = true := by
        simp at m3
        rcases m3 with rfl | rfl | rfl | rfl | rfl | rfl | rfl | rfl | rfl | rfl <;> simp [inB] <;> omega
      subst hl
      simp [turn, e1, e2, e3, show ws.length < 16777216 by omega, K]
      refine ⟨_, _, ⟨rfl, rfl⟩, K, by simp, fun u m => ?_⟩
      rcases List.mem_append.1 m with m | m
      · exact hb u m
      · rw [List.mem_singleton.1 m]; exact hb3)
  simp [e, show smallI r = true by unfold smallI; simp; omega, h1]
  exact ⟨_, _, ⟨rfl, rfl⟩, by omega, hb, K⟩
theorem krow_bytes {ws : List W} (hl : ws.length ≤ 16777216) (hb : ∀ u ∈ ws, inB 0 255 u = true) : KRow (.tup ws) := ⟨kn_tup, fun vs e => by cases e; exact ⟨hl, fun u m => byte_kn (hb u m)⟩⟩
theorem mul_one {w : W} {n : Nat} (h : n ≤ 16777216) : gMul (.tup [w]) (.int n) = some (.v (.tup (List.replicate n w))) := by
  show (if 0 ≤ (n : Int) ∧ (n : Int) * (([w] : List W).length : Nat) ≤ 16777216 ∧ (n : Int) < 16777217 then some (OV.v (W.tup (List.replicate (n : Int).toNat [w]).flatten)) else none) = _
  rw [if_pos (by rw [List.length_singleton]; omega), Int.toNat_natCast, List.flatten_replicate_singleton]
theorem inB_nn {w : W} (h : inB 0 255 w = true) : ∃ b, w = .int b ∧ 0 ≤ b ∧ b < 256 := by
  cases w with
  | int b =>
    have h : (decide (0 ≤ b) && decide (b ≤ 255)) = true := h
    rw [Bool.and_eq_true_iff] at h
    exact ⟨b, rfl, of_decide_eq_true h.1, by have := of_decide_eq_true h.2; omega⟩
  | _ => cases h
end BV

set_option maxRecDepth 100000
set_option maxHeartbeats 4000000
/-! BV: loops that may break or return. -/
namespace BV
open PySem L2
/-- what a turn may end in: on, out of the loop, out of the def -/
def SR.Go (r : SR) (P B : Ev → Prop) (R : W → Ev → Prop) : Prop := match r with
  | .nx e => P e
  | .ct e => P e
  | .bk e => B e
  | .rt w e => R w e
  | _ => False
section
variable {P B : Ev → Prop} {R : W → Ev → Prop} {e : Ev} {w : W}
@[simp] theorem Go_nx : (SR.nx e).Go P B R = P e := (rfl)
@[simp] theorem Go_ct : (SR.ct e).Go P B R = P e := (rfl)
@[simp] theorem Go_bk : (SR.bk e).Go P B R = B e := (rfl)
@[simp] theorem Go_rt : (SR.rt w e).Go P B R = R w e := (rfl)
end
section
variable {t : Tg} {f : SF} {P : Nat → Ev → Prop} {B : Ev → Prop} {R : W → Ev → Prop}
theorem forL_gen {ws : List W} {env : Ev} (p : P 0 env) (H : ∀ i (h : i < ws.length) env, P i env → (turn t f ws[i] env).Go (P (i + 1)) B R) :
    (∃ e, forL t f ws env = .nx e ∧ (B e ∨ P ws.length e)) ∨ ∃ w e, forL t f ws env = .rt w e ∧ R w e := by
  suffices K : ∀ (us : List W) (k : Nat) (env : Ev), ws.drop k = us → k + us.length = ws.length → P k env → (∃ e, forL t f us env = .nx e ∧ (B e ∨ P ws.length e)) ∨ ∃ w e, forL t f us env = .rt w e ∧ R w e from K ws 0 env rfl (by omega) p
  intro us
  induction us with
  | nil =>
    intro k env _ hk p
    have hk : k = ws.length := by simpa using hk
    exact .inl ⟨env, rfl, .inr (hk ▸ p)⟩
  | cons u us ih =>
    intro k env hd hk p
    rw [List.length_cons] at hk
    have hlt : k < ws.length := by omega
    rw [List.drop_eq_getElem_cons hlt] at hd
    injection hd with hd1 hd2
    have h := H k hlt env p
    rw [hd1] at h
    have step : forL t f (u :: us) env = match turn t f u env with | .nx e => forL t f us e | .ct e => forL t f us e | .bk e => .nx e | r => r := by
      show (match bindT t u env with | none => SR.bad | some env1 => match f env1 with | .nx e => forL t f us e | .ct e => forL t f us e | .bk e => .nx e | r => r) = _
      unfold turn
      cases bindT t u env <;> rfl
    rw [step]
    generalize turn t f u env = r at h ⊢
    cases r with
    | nx e => exact ih (k + 1) e hd2 (by omega) h
    | ct e => exact ih (k + 1) e hd2 (by omega) h
    | bk e => exact .inl ⟨e, rfl, .inl h⟩
    | rt w e => exact .inr ⟨w, e, rfl, h⟩
    | _ => exact h.elim
theorem forL_rngG {lo hi : Int} {env : Ev} (p : P 0 env) (H : ∀ i : Nat, lo + i < hi → ∀ env, P i env → (turn t f (.int (lo + i)) env).Go (P (i + 1)) B R) :
    (∃ e, forL t f (rangeW lo hi) env = .nx e ∧ (B e ∨ P (hi - lo).toNat e)) ∨ ∃ w e, forL t f (rangeW lo hi) env = .rt w e ∧ R w e := by
  have hl : (rangeW lo hi).length = (hi - lo).toNat := by unfold rangeW; simp
  have := forL_gen (t := t) (f := f) (P := P) (B := B) (R := R) (ws := rangeW lo hi) p (fun i h env p => by
    have e : (rangeW lo hi)[i] = .int (lo + i) := by
      have q : (rangeW lo hi)[i]? = some (.int (lo + i)) := by
        unfold rangeW
        rw [List.getElem?_map, List.getElem?_range (by omega)]
        rfl
      rw [List.getElem?_eq_getElem h] at q
      exact Option.some.inj q
    rw [e]
    exact H i (by omega) env p)
  rw [hl] at this
  exact this
end
/-! numbers as rows, seven bits a byte -/
/-- the figures of n, at most k + 1 of them -/
def figI : Nat → Int → List W
  | 0, n => [.int n]
  | k + 1, n => if n < 128 then [.int n] else .int (n % 128 + 128) :: figI k (n / 128)
theorem figI_small {k : Nat} {n : Int} (h : n < 128) : figI k n = [.int n] := by
  cases k with
  | zero => rfl
  | succ k => exact if_pos h
theorem figI_len : ∀ {k : Nat} {n : Int}, 1 ≤ (figI k n).length ∧ (figI k n).length ≤ k + 1
  | 0, n => by simp [figI]
  | k + 1, n => by
    unfold figI
    have := figI_len (k := k) (n := n / 128)
    split <;> simp <;> omega
theorem figI_bytes : ∀ {k : Nat} {n : Int}, 0 ≤ n → n < 128 ^ (k + 1) → ∀ u ∈ figI k n, inB 0 255 u = true
  | 0, n, h0, h1, u, m => by
    unfold figI at m
    rw [List.mem_singleton.1 m]
    simp [inB]
    omega
  | k + 1, n, h0, h1, u, m => by
    unfold figI at m
    by_cases c : n < 128
    · rw [if_pos c] at m
      rw [List.mem_singleton.1 m]
      simp [inB]
      omega
    · rw [if_neg c] at m
      rcases List.mem_cons.1 m with rfl | m
      · simp [inB]
        omega
      · refine figI_bytes (by omega) ?_ u m
        rw [Int.pow_succ] at h1
        exact Int.ediv_lt_of_lt_mul (by omega) h1
/-- the number that stands in a row at a place: at most k figures; the reading began at at0 -/
def numA (at0 : Int) : Nat → List W → Int → Int → Int → W
  | 0, _, _, _, _ => .non
  | k + 1, .int b :: r, place, found, worth =>
    if b < 128 then (if (b = 0 ∧ at0 < place) ∨ 18446744073709551616 ≤ found + b % 128 * worth then .non else .tup [.int (found + b % 128 * worth), .int (place + 1)])
    else numA at0 k r (place + 1) (found + b % 128 * worth) (worth * 128)
  | _ + 1, _, _, _, _ => .non
theorem numA_fig {at0 : Int} {post : List W} : ∀ {j k : Nat} {n place found worth : Int}, j + 1 ≤ k → 0 ≤ n → n < 128 ^ (j + 1) → (at0 < place → n ≠ 0) → found + n * worth < 18446744073709551616 →
    numA at0 k (figI j n ++ post) place found worth = .tup [.int (found + n * worth), .int (place + ((figI j n).length : Nat))]
  | j, 0, _, _, _, _, h, _, _, _, _ => by omega
  | 0, k + 1, n, place, found, worth, h, h0, h1, h2, h3 => by
    have h1 : n < 128 := by simpa using h1
    have e : n % 128 = n := Int.emod_eq_of_lt h0 h1
    show (if n < 128 then _ else _) = _
    rw [if_pos h1, e, if_neg (by intro z; rcases z with ⟨z1, z2⟩ | z; exact h2 z2 z1; omega)]
    rfl
  | j + 1, k + 1, n, place, found, worth, h, h0, h1, h2, h3 => by
    by_cases c : n < 128
    · have e : n % 128 = n := Int.emod_eq_of_lt h0 c
      rw [figI_small c]
      show (if n < 128 then _ else _) = _
      rw [if_pos c, e, if_neg (by intro z; rcases z with ⟨z1, z2⟩ | z; exact h2 z2 z1; omega)]
      rfl
    · have e : figI (j + 1) n = .int (n % 128 + 128) :: figI j (n / 128) := if_neg c
      rw [e]
      show (if n % 128 + 128 < 128 then _ else numA at0 k (figI j (n / 128) ++ post) (place + 1) (found + (n % 128 + 128) % 128 * worth) (worth * 128)) = _
      rw [if_neg (by omega), show (n % 128 + 128) % 128 = n % 128 by omega]
      have key : found + n % 128 * worth + n / 128 * (worth * 128) = found + n * worth := by
        have q : n = 128 * (n / 128) + n % 128 := by omega
        generalize n / 128 = a at q
        generalize n % 128 = b at q
        subst q
        rw [Int.add_mul, Int.mul_assoc, ← Int.mul_assoc a worth 128, Int.mul_comm (a * worth) 128]
        omega
      rw [numA_fig (j := j) (k := k) (by omega) (by omega) (by rw [Int.pow_succ] at h1; exact Int.ediv_lt_of_lt_mul (by omega) h1) (fun _ => by omega) (by rw [key]; exact h3), key, List.length_cons]
      have q : place + 1 + ((figI j (n / 128)).length : Int) = place + (((figI j (n / 128)).length + 1 : Nat) : Int) := by omega
      rw [q]
theorem numA_nil {at0 : Int} {k : Nat} {place found worth : Int} : numA at0 k [] place found worth = .non := by cases k <;> rfl
end BV

set_option maxRecDepth 100000
set_option maxHeartbeats 4000000
/-! BV: while loops that may return; equality of rows; reading numbers: bounds. -/
namespace BV
open PySem L2
theorem whileL_go {c : TF} {f : SF} {P : Nat → Ev → Prop} {Q : Ev → Prop} {R : W → Ev → Prop} (H : ∀ n env, P n env → (∃ e, c env = .ok false e ∧ Q e) ∨ ∃ e, c env = .ok true e ∧ ∃ m, n = m + 1 ∧ (f e).Go (P m) Q R) :
    ∀ {n N : Nat} {env : Ev}, n < N → P n env → (∃ e, whileL c f N env = .nx e ∧ Q e) ∨ ∃ w e, whileL c f N env = .rt w e ∧ R w e := by
  intro n
  induction n with
  | zero =>
    intro N env hN p
    obtain ⟨N, rfl⟩ : ∃ M, N = M + 1 := ⟨N - 1, by omega⟩
    rcases H 0 env p with ⟨e, h1, q⟩ | ⟨e, _, m, hm, _⟩
    · exact .inl ⟨e, by show (c env).andS _ = _; rw [h1]; rfl, q⟩
    · omega
  | succ n ih =>
    intro N env hN p
    obtain ⟨N, rfl⟩ : ∃ M, N = M + 1 := ⟨N - 1, by omega⟩
    have st : ∀ e, c env = .ok true e → whileL c f (N + 1) env = match f e with | .nx e => whileL c f N e | .ct e => whileL c f N e | .bk e => .nx e | r => r := fun e h1 => by
      show (c env).andS _ = _
      rw [h1]
      rfl
    rcases H (n + 1) env p with ⟨e, h1, q⟩ | ⟨e, h1, m, hm, h2⟩
    · exact .inl ⟨e, by show (c env).andS _ = _; rw [h1]; rfl, q⟩
    · obtain rfl : n = m := by omega
      rw [st e h1]
      generalize f e = r at h2
      cases r with
      | nx e2 => exact ih (N := N) (by omega) h2
      | ct e2 => exact ih (N := N) (by omega) h2
      | bk e2 => exact .inl ⟨e2, rfl, h2⟩
      | rt w e2 => exact .inr ⟨w, e2, rfl, h2⟩
      | _ => exact h2.elim
/-! reading a number: how far it goes -/
theorem numA_bounds {at0 : Int} : ∀ {k : Nat} {ws : List W} {p f v n q : Int}, (∀ u ∈ ws, inB 0 255 u = true) → 0 ≤ f → 0 ≤ v → numA at0 k ws p f v = .tup [.int n, .int q] → p < q ∧ q ≤ p + (ws.length : Nat) ∧ 0 ≤ n
  | 0, _, _, _, _, _, _, _, _, _, e => by cases e
  | k + 1, [], _, _, _, _, _, _, _, _, e => by cases e
  | k + 1, w :: ws, p, f, v, n, q, hb, hf, hv, e => by
    obtain ⟨b, rfl, b0, b1⟩ := inB_nn (hb w (List.mem_cons_self ..))
    have e : (if b < 128 then (if (b = 0 ∧ at0 < p) ∨ 18446744073709551616 ≤ f + b % 128 * v then W.non else .tup [.int (f + b % 128 * v), .int (p + 1)]) else numA at0 k ws (p + 1) (f + b % 128 * v) (v * 128)) = _ := e
    have nn : 0 ≤ b % 128 * v := Int.mul_nonneg (by omega) hv
    rw [List.length_cons]
    split at e
    · split at e
      · cases e
      · cases e
        omega
    · have := numA_bounds (fun u m => hb u (List.mem_cons_of_mem _ m)) (show 0 ≤ f + b % 128 * v by omega) (show 0 ≤ v * 128 by omega) e
      omega
/-! equal rows -/
theorem toPy_bytes : ∀ {ws : List W}, (∀ u ∈ ws, inB 0 255 u = true) → ∃ ds, toPys ws = some ds ∧ (∀ d ∈ ds, ∃ i, d = PyData.int i) ∧ ds.length = ws.length ∧ ws = ds.map (fun d => match d with | .int i => W.int i | _ => W.non)
  | [], _ => ⟨[], rfl, by simp, rfl, rfl⟩
  | w :: ws, h => by
    obtain ⟨ds, e, hd, hl, hm⟩ := toPy_bytes (ws := ws) fun u m => h u (List.mem_cons_of_mem _ m)
    obtain ⟨b, rfl, _, _⟩ := inB_nn (h w (List.mem_cons_self ..))
    refine ⟨.int b :: ds, by unfold toPys; rw [e]; rfl, ?_, by simp [hl], ?_⟩
    · intro d m
      rcases List.mem_cons.1 m with rfl | m
      · exact ⟨_, rfl⟩
      · exact hd d m
    · rw [List.map_cons, ← hm]
theorem lay_ints : ∀ {ds : List PyData}, (∀ d ∈ ds, ∃ i, d = PyData.int i) → PyData.canLayAll0 ds = true ∧ PyData.depthAll ds = 0
  | [], _ => ⟨rfl, rfl⟩
  | d :: ds, h => by
    obtain ⟨i, rfl⟩ := h d (List.mem_cons_self ..)
    obtain ⟨h1, h2⟩ := lay_ints fun d m => h d (List.mem_cons_of_mem _ m)
    exact ⟨by simp [PyData.canLayAll0, PyData.canLay0, h1], by simp [PyData.depthAll, PyData.depth, h2]⟩
theorem eqv_ints : ∀ {ds es : List PyData}, (∀ d ∈ ds, ∃ i, d = PyData.int i) → (∀ d ∈ es, ∃ i, d = PyData.int i) → (PyData.eqvAll ds es = true ↔ ds = es)
  | [], [], _, _ => by simp [PyData.eqvAll]
  | [], _ :: _, _, _ => by simp [PyData.eqvAll]
  | _ :: _, [], _, _ => by simp [PyData.eqvAll]
  | d :: ds, e :: es, h1, h2 => by
    obtain ⟨i, rfl⟩ := h1 d (List.mem_cons_self ..)
    obtain ⟨j, rfl⟩ := h2 e (List.mem_cons_self ..)
    have := eqv_ints (ds := ds) (es := es) (fun d m => h1 d (List.mem_cons_of_mem _ m)) (fun d m => h2 d (List.mem_cons_of_mem _ m))
    simp [PyData.eqvAll, PyData.eqv, this]
/-- a datum that may be compared: its form, its Python data -/
def Cmp (w : W) (d : PyData) : Prop := toPy w = some d ∧ PyData.canLay0 d = true ∧ PyData.depth d ≤ 60
theorem cmp_bytes {ws : List W} (h : ∀ u ∈ ws, inB 0 255 u = true) : ∃ ds, Cmp (.tup ws) (.tuple ds) ∧ (∀ d ∈ ds, ∃ i, d = PyData.int i) ∧ ws = ds.map (fun d => match d with | .int i => W.int i | _ => W.non) := by
  obtain ⟨ds, e, hd, hl, hm⟩ := toPy_bytes h
  obtain ⟨h1, h2⟩ := lay_ints hd
  exact ⟨ds, ⟨by unfold toPy; rw [e]; rfl, by simp [PyData.canLay0, h1], by simp [PyData.depth, h2]⟩, hd, hm⟩
theorem wEq_cmp {x y : W} {d e : PyData} (hx : Cmp x d) (hy : Cmp y e) : wEq x y = some (PyData.eqv d e) := by
  unfold wEq pyEq
  rw [hx.1, hy.1]
  show (if _ then _ else _) = _
  rw [if_pos ⟨by simp [SeqAt.shaped, hx.2.1]; have := hx.2.2; omega, by simp [SeqAt.shaped, hy.2.1]; have := hy.2.2; omega⟩]
theorem gEq_bytes {xs ys : List W} (hx : ∀ u ∈ xs, inB 0 255 u = true) (hy : ∀ u ∈ ys, inB 0 255 u = true) : ∃ b, gEq (.tup xs) (.tup ys) = some (.v (.bl b)) ∧ (b = true ↔ xs = ys) := by
  obtain ⟨ds, c1, h1, m1⟩ := cmp_bytes hx
  obtain ⟨es, c2, h2, m2⟩ := cmp_bytes hy
  refine ⟨PyData.eqv (.tuple ds) (.tuple es), by unfold gEq; rw [wEq_cmp c1 c2]; rfl, ?_⟩
  have e : PyData.eqv (.tuple ds) (.tuple es) = PyData.eqvAll ds es := by unfold PyData.eqv; rfl
  rw [e, eqv_ints h1 h2]
  constructor
  · intro q; rw [m1, m2, q]
  · intro q
    have t1 := c1.1
    rw [q, c2.1] at t1
    injection t1 with t1
    injection t1 with t1
    exact t1.symm
end BV

set_option maxRecDepth 100000
set_option maxHeartbeats 4000000
/-! BV: numbers as rows, written and read. -/
namespace BV
open PySem L2
def bFigures : SF :=
  (sSeq (sOwn 1 (fLst fNil))
  (sSeq (sSet 2 (fV 0))
  (sSeq (whileL (fTest (fOp gGe (fV 2) (fC (.int 128)))) (sSeq (sApp 1 (fE (fOp gAdd (fOp gMod (fV 2) (fC (.int 128))) (fC (.int 128)))))
  (sSet 2 (fOp gDiv (fV 2) (fC (.int 128))))) 100000)
  (sRet (fOp gAdd (fB gTuple (fCons (fV 1) fNil)) (fTup (fCons (fE (fV 2)) fNil)))))))
def dFigures : FnD := fdef 3 [false] bFigures
def bLFigures : SF :=
  (sSeq (sOwn 1 (fLst fNil))
  (sSeq (sFor (fRng1 (fC (.int 10))) (.nm 2) (sSeq (sIf (fTest (fOp gLt (fV 0) (fC (.int 128)))) sBreak sNext)
  (sSeq (sApp 1 (fE (fOp gAdd (fOp gMod (fB gInt (fCons (fV 0) fNil)) (fC (.int 128))) (fC (.int 128)))))
  (sSet 0 (fOp gDiv (fV 0) (fC (.int 128)))))))
  (sRet (fOp gAdd (fB gTuple (fCons (fV 1) fNil)) (fTup (fCons (fE (fV 0)) fNil))))))
def dLFigures : FnD := fdef 3 [false] bLFigures
def bNumberAt : SF :=
  (sSeq (sSet 2 (fC (.int 0)))
  (sSeq (sSet 3 (fC (.int 1)))
  (sSeq (sFor (fRng2 (fV 1) (fB gMin2 (fCons (fB gLen (fCons (fV 0) fNil)) (fCons (fOp gAdd (fV 1) (fC (.int 10))) fNil)))) (.nm 4) (sSeq (sAug 2 (gI fun i j => .int (i + j)) (fOp gMul (fOp gMod (fOp gIx (fV 0) (fV 4)) (fC (.int 128))) (fV 3)))
  (sSeq (sSet 3 (fOp gMul (fV 3) (fC (.int 128))))
  (sIf (fTest (fOp gLt (fOp gIx (fV 0) (fV 4)) (fC (.int 128)))) (sSeq (sSet 5 (fAndV (fOp gEq (fOp gIx (fV 0) (fV 4)) (fC (.int 0))) (fOp gGt (fV 4) (fV 1))))
  (sRet (fIf (fOr (fTest (fV 5)) (fTest (fOp gGe (fV 2) (fC (.int 18446744073709551616))))) (fC .non) (fTup (fCons (fE (fV 2)) (fCons (fE (fOp gAdd (fV 4) (fC (.int 1)))) fNil)))))) sNext))))
  (sRet (fC .non)))))
def dNumberAt : FnD := fdef 6 [false, false] bNumberAt
def bLNumberAt : SF :=
  (sSeq (sSet 2 (fC (.int 0)))
  (sSeq (sSet 3 (fC (.int 1)))
  (sSeq (sFor (fRng1 (fC (.int 10))) (.nm 4) (sSeq (sIf (fTest (fOp gGe (fOp gAdd (fV 1) (fV 4)) (fB gLen (fCons (fV 0) fNil)))) (sRet (fC .non)) sNext)
  (sSeq (sSet 5 (fOp gIx (fV 0) (fOp gAdd (fV 1) (fV 4))))
  (sSeq (sSet 2 (fOp gAdd (fV 2) (fOp gMul (fOp gMod (fB gInt (fCons (fV 5) fNil)) (fC (.int 128))) (fV 3))))
  (sSeq (sSet 3 (fOp gMul (fV 3) (fC (.int 128))))
  (sIf (fTest (fOp gLt (fV 5) (fC (.int 128)))) (sSeq (sIf (fOr (fAnd (fTest (fOp gGt (fV 4) (fC (.int 0)))) (fTest (fOp gEq (fV 5) (fC (.int 0))))) (fTest (fOp gGe (fV 2) (fOp gPow (fC (.int 2)) (fC (.int 64)))))) (sRet (fC .non)) sNext)
  (sRet (fTup (fCons (fE (fV 2)) (fCons (fE (fOp gAdd (fOp gAdd (fV 1) (fV 4)) (fC (.int 1)))) fNil))))) sNext))))))
  (sRet (fC .non)))))
def dLNumberAt : FnD := fdef 6 [false, false] bLNumberAt
theorem figures_ok {n : Int} (h0 : 0 ≤ n) (h1 : n < 128 ^ 11) : dFigures [.int n] = .ok (.tup (figI 10 n)) [] := by
  unfold dFigures bFigures
  rw [fdef_e]
  obtain ⟨e, hw, acc, left, rfl, q1, q2⟩ := whileL_meas (c := fTest (fOp gGe (fV 2) (fC (.int 128)))) (f := sSeq (sApp 1 (fE (fOp gAdd (fOp gMod (fV 2) (fC (.int 128))) (fC (.int 128))))) (sSet 2 (fOp gDiv (fV 2) (fC (.int 128)))))
    (P := fun m env => ∃ acc left, env = [.dat (.int n), .own (.lst acc), .dat (.int left)] ∧ acc ++ figI m left = figI 10 n ∧ acc.length + m ≤ 10 ∧ 0 ≤ left ∧ left < 128 ^ (m + 1))
    (Q := fun env => ∃ acc left, env = [.dat (.int n), .own (.lst acc), .dat (.int left)] ∧ acc ++ [.int left] = figI 10 n ∧ acc.length ≤ 10)
    (fun m env p => by
      obtain ⟨acc, left, rfl, q1, q2, q3, q4⟩ := p
      by_cases c : left < 128
      · refine .inl ⟨_, by simp [show ¬ 128 ≤ left by omega], acc, left, rfl, ?_, by omega⟩
        rw [← q1, figI_small c]
      · cases m with
        | zero => exact absurd q4 (by simpa using c)
        | succ m =>
          refine .inr ⟨[.dat (.int n), .own (.lst acc), .dat (.int left)], by simp [show 128 ≤ left by omega], m, rfl, ?_⟩
          simp [gMod_i, gDiv_i, show acc.length < 16777216 by omega]
          refine ⟨_, _, ⟨rfl, rfl⟩, ?_, by simp; omega, by omega, ?_⟩
          · rw [← q1, List.append_assoc]
            congr 1
            show _ = (if left < 128 then _ else _)
            rw [if_neg c]
            rfl
          · rw [Int.pow_succ] at q4
            exact Int.ediv_lt_of_lt_mul (by omega) q4) (n := 10) (N := 100000) (env := [.dat (.int n), .own (.lst []), .dat (.int n)]) (by omega) ⟨[], n, rfl, rfl, by simp, h0, h1⟩
  simp [hw, gAdd_t, show acc.length + 1 ≤ 16777216 by omega, q1]
theorem lfigures_ok {n : Int} (h0 : 0 ≤ n) (h1 : n < 128 ^ 11) : dLFigures [.int n] = .ok (.tup (figI 10 n)) [] := by
  unfold dLFigures bLFigures
  rw [fdef_e]
  have G := forL_rngG (t := .nm 2) (f := sSeq (sIf (fTest (fOp gLt (fV 0) (fC (.int 128)))) sBreak sNext) (sSeq (sApp 1 (fE (fOp gAdd (fOp gMod (fB gInt (fCons (fV 0) fNil)) (fC (.int 128))) (fC (.int 128))))) (sSet 0 (fOp gDiv (fV 0) (fC (.int 128))))))
    (P := fun i env => ∃ acc left sl, env = [.dat (.int left), .own (.lst acc), sl] ∧ i ≤ 10 ∧ acc ++ figI (10 - i) left = figI 10 n ∧ acc.length = i ∧ 0 ≤ left ∧ left < 128 ^ (10 - i + 1))
    (B := fun env => ∃ acc left sl, env = [.dat (.int left), .own (.lst acc), sl] ∧ acc ++ [.int left] = figI 10 n ∧ acc.length ≤ 10) (R := fun _ _ => False) (lo := 0) (hi := 10) (env := [.dat (.int n), .own (.lst []), .no]) ⟨[], n, .no, rfl, by omega, rfl, rfl, h0, h1⟩
    (fun i hi env p => by
      obtain ⟨acc, left, sl, rfl, q0, q1, q2, q3, q4⟩ := p
      by_cases c : left < 128
      · simp [turn, c]
        refine ⟨_, _, ⟨rfl, rfl⟩, ?_, by omega⟩
        rw [← q1, figI_small c]
      · simp [turn, c, gMod_i, gDiv_i, show acc.length < 16777216 by omega]
        refine ⟨_, _, ⟨rfl, rfl⟩, by omega, ?_, by simp; omega, by omega, ?_⟩
        · rw [← q1, List.append_assoc]
          congr 1
          obtain ⟨k, hk⟩ : ∃ k, 10 - i = k + 1 := ⟨9 - i, by omega⟩
          rw [hk, show 9 - i = k by omega]
          show _ = (if left < 128 then _ else _)
          rw [if_neg c]
          rfl
        · obtain ⟨k, hk⟩ : ∃ k, 10 - i = k + 1 := ⟨9 - i, by omega⟩
          rw [hk, Int.pow_succ] at q4
          rw [show 9 - i = k by omega]
          exact Int.ediv_lt_of_lt_mul (by omega) q4)
  rcases G with ⟨e, hf, hb⟩ | ⟨_, _, _, z⟩
  · obtain ⟨acc, left, sl, rfl, q1, q2⟩ : ∃ acc left sl, e = [.dat (.int left), .own (.lst acc), sl] ∧ acc ++ [.int left] = figI 10 n ∧ acc.length ≤ 10 := by
      rcases hb with hb | ⟨acc, left, sl, e1, q0, q1, q2, q3, q4⟩
      · exact hb
      · exact ⟨acc, left, sl, e1, q1, by omega⟩
    simp [hf, smallI, gAdd_t, show acc.length + 1 ≤ 16777216 by omega, q1]
  · exact z.elim
theorem number_at_ok {ws : List W} {at' : Int} (hl : ws.length ≤ 300000) (hb : ∀ u ∈ ws, inB 0 255 u = true) (h0 : 0 ≤ at') (h1 : at' ≤ ws.length) : dNumberAt [.tup ws, .int at'] = .ok (numA at' 10 (ws.drop at'.toNat) at' 0 1) [] := by
  unfold dNumberAt bNumberAt
  rw [fdef_e]
  have G := forL_rngG (t := .nm 4) (f := (sSeq (sAug 2 (gI fun i j => .int (i + j)) (fOp gMul (fOp gMod (fOp gIx (fV 0) (fV 4)) (fC (.int 128))) (fV 3)))
      (sSeq (sSet 3 (fOp gMul (fV 3) (fC (.int 128))))
      (sIf (fTest (fOp gLt (fOp gIx (fV 0) (fV 4)) (fC (.int 128)))) (sSeq (sSet 5 (fAndV (fOp gEq (fOp gIx (fV 0) (fV 4)) (fC (.int 0))) (fOp gGt (fV 4) (fV 1))))
      (sRet (fIf (fOr (fTest (fV 5)) (fTest (fOp gGe (fV 2) (fC (.int 18446744073709551616))))) (fC .non) (fTup (fCons (fE (fV 2)) (fCons (fE (fOp gAdd (fV 4) (fC (.int 1)))) fNil)))))) sNext))))
    (P := fun i env => ∃ found worth s4 s5, env = [.dat (.tup ws), .dat (.int at'), .dat (.int found), .dat (.int worth), s4, s5] ∧ i ≤ 10 ∧ numA at' (10 - i) (ws.drop (at'.toNat + i)) (at' + i) found worth = numA at' 10 (ws.drop at'.toNat) at' 0 1)
    (B := fun _ => False) (R := fun w e => w = numA at' 10 (ws.drop at'.toNat) at' 0 1 ∧ e.length = 6) (lo := at') (hi := if at' + 10 < ws.length then at' + 10 else ws.length) (env := [.dat (.tup ws), .dat (.int at'), .dat (.int 0), .dat (.int 1), .no, .no])
    ⟨0, 1, .no, .no, rfl, by omega, by simp⟩
    (fun i hi env p => by
      obtain ⟨found, worth, s4, s5, rfl, q0, q1⟩ := p
      have hi2 : at' + i < ws.length ∧ i < 10 := by
        split at hi <;> omega
      have hlt : at'.toNat + i < ws.length := by omega
      obtain ⟨b, eb, b0, b1⟩ := inB_nn (hb ws[at'.toNat + i] (List.getElem_mem _))
      have hx : L2.atI ws (at' + i) = some (.int b) := by
        rw [atI_get ⟨by omega, hi2.1⟩, show (at' + (i : Int)).toNat = at'.toNat + i by omega, List.getElem?_eq_getElem hlt, eb]
      obtain ⟨k, hk⟩ : ∃ k, 10 - i = k + 1 := ⟨9 - i, by omega⟩
      rw [hk, List.drop_eq_getElem_cons hlt, eb] at q1
      have q1 : (if b < 128 then (if (b = 0 ∧ at' < at' + (i : Int)) ∨ 18446744073709551616 ≤ found + b % 128 * worth then W.non else .tup [.int (found + b % 128 * worth), .int (at' + (i : Int) + 1)])
        else numA at' k (ws.drop (at'.toNat + i + 1)) (at' + (i : Int) + 1) (found + b % 128 * worth) (worth * 128)) = _ := q1
      have hm : gMul (.int (b % 128)) (.int worth) = some (.v (.int (b % 128 * worth))) := gMul_l (by omega)
      have hm2 : gMul (.int worth) (.int 128) = some (.v (.int (worth * 128))) := gMul_r (by omega)
      obtain ⟨F, hF⟩ : ∃ F, found + b % 128 * worth = F := ⟨_, rfl⟩
      rw [hF] at q1
      have key : ∀ rest : SF, turn (.nm 4) (sSeq (sAug 2 (gI fun i j => .int (i + j)) (fOp gMul (fOp gMod (fOp gIx (fV 0) (fV 4)) (fC (.int 128))) (fV 3))) (sSeq (sSet 3 (fOp gMul (fV 3) (fC (.int 128)))) rest)) (.int (at' + i))
          [.dat (.tup ws), .dat (.int at'), .dat (.int found), .dat (.int worth), s4, s5] = rest [.dat (.tup ws), .dat (.int at'), .dat (.int F), .dat (.int (worth * 128)), .dat (.int (at' + i)), s5] := fun rest => by
        simp [turn, hx, gMod_i, hm, hm2, hF]
      rw [key]
      by_cases c : b < 128
      · rw [if_pos c] at q1
        have key2 : ∃ z : Bool, (z = true ↔ b = 0 ∧ at' < at' + (i : Int)) ∧ ∀ rest : SF, (sSeq (sSet 5 (fAndV (fOp gEq (fOp gIx (fV 0) (fV 4)) (fC (.int 0))) (fOp gGt (fV 4) (fV 1)))) rest) [.dat (.tup ws), .dat (.int at'), .dat (.int F), .dat (.int (worth * 128)), .dat (.int (at' + i)), s5]
            = rest [.dat (.tup ws), .dat (.int at'), .dat (.int F), .dat (.int (worth * 128)), .dat (.int (at' + i)), .dat (.bl z)] := by
          by_cases d : b = 0
          · exact ⟨decide (at' < at' + (i : Int)), by simp [d], fun rest => by simp [hx, d]⟩
          · exact ⟨false, by simp [d], fun rest => by simp [hx, d]⟩
        obtain ⟨z, hz, key2⟩ := key2
        simp only [sIf_e, fTest_e, fOp_e, fV_e, gq_zero, gq_succ, bind_ok, getOV_v, Option.bind_some, gIx_t, hx, Option.map_some, retOV_some, fC_e, gLt_i, c, decide_true, asB_bl, andS_ok, if_true, key2]
        by_cases d : 18446744073709551616 ≤ F
        · rw [if_pos (.inr d)] at q1
          cases z <;> simp [d, q1.symm]
        · cases z with
          | true =>
            rw [if_pos (.inl (hz.1 rfl))] at q1
            simp [q1.symm]
          | false =>
            rw [if_neg (fun q => by rcases q with q | q; exact Bool.noConfusion (hz.2 q); exact d q)] at q1
            simp [d, q1.symm]
      · rw [if_neg c] at q1
        simp [hx, c, b1]
        exact ⟨_, _, ⟨rfl, rfl⟩, by omega, by rw [show at'.toNat + (i + 1) = at'.toNat + i + 1 by omega, show 9 - i = k by omega, ← Int.add_assoc]; exact q1⟩)
  rcases G with ⟨e, hf, z | ⟨found, worth, s4, s5, rfl, q0, q1⟩⟩ | ⟨w, e, hf, rfl, _⟩
  · exact z.elim
  · have q2 : numA at' 10 (ws.drop at'.toNat) at' 0 1 = .non := by
      rw [← q1]
      generalize hn : ((if at' + 10 < (ws.length : Int) then at' + 10 else (ws.length : Int)) - at').toNat = n at q0
      by_cases c : n = 10
      · rw [c]; rfl
      · rw [List.drop_of_length_le (by split at hn <;> omega), numA_nil]
    have sm : smallI at' = true := by unfold smallI; simp; omega
    have sm2 : smallI (if at' + 10 < (ws.length : Int) then at' + 10 else (ws.length : Int)) = true := by unfold smallI; simp; split <;> omega
    simp [gMin2, sm, sm2, hf, q2]
  · have sm : smallI at' = true := by unfold smallI; simp; omega
    have sm2 : smallI (if at' + 10 < (ws.length : Int) then at' + 10 else (ws.length : Int)) = true := by unfold smallI; simp; split <;> omega
    simp [gMin2, sm, sm2, hf]
theorem lnumber_at_ok {ws : List W} {at' : Int} (hl : ws.length ≤ 300000) (hb : ∀ u ∈ ws, inB 0 255 u = true) (h0 : 0 ≤ at') (h1 : at' ≤ ws.length) : dLNumberAt [.tup ws, .int at'] = .ok (numA at' 10 (ws.drop at'.toNat) at' 0 1) [] := by
  unfold dLNumberAt bLNumberAt
  rw [fdef_e]
  have G := forL_rngG (t := .nm 4) (f := (sSeq (sIf (fTest (fOp gGe (fOp gAdd (fV 1) (fV 4)) (fB gLen (fCons (fV 0) fNil)))) (sRet (fC .non)) sNext)
      (sSeq (sSet 5 (fOp gIx (fV 0) (fOp gAdd (fV 1) (fV 4))))
      (sSeq (sSet 2 (fOp gAdd (fV 2) (fOp gMul (fOp gMod (fB gInt (fCons (fV 5) fNil)) (fC (.int 128))) (fV 3))))
      (sSeq (sSet 3 (fOp gMul (fV 3) (fC (.int 128))))
      (sIf (fTest (fOp gLt (fV 5) (fC (.int 128)))) (sSeq (sIf (fOr (fAnd (fTest (fOp gGt (fV 4) (fC (.int 0)))) (fTest (fOp gEq (fV 5) (fC (.int 0))))) (fTest (fOp gGe (fV 2) (fOp gPow (fC (.int 2)) (fC (.int 64)))))) (sRet (fC .non)) sNext)
      (sRet (fTup (fCons (fE (fV 2)) (fCons (fE (fOp gAdd (fOp gAdd (fV 1) (fV 4)) (fC (.int 1)))) fNil))))) sNext))))))
    (P := fun i env => ∃ found worth s4 s5, env = [.dat (.tup ws), .dat (.int at'), .dat (.int found), .dat (.int worth), s4, s5] ∧ i ≤ 10 ∧ numA at' (10 - i) (ws.drop (at'.toNat + i)) (at' + i) found worth = numA at' 10 (ws.drop at'.toNat) at' 0 1)
    (B := fun _ => False) (R := fun w e => w = numA at' 10 (ws.drop at'.toNat) at' 0 1 ∧ e.length = 6) (lo := 0) (hi := 10) (env := [.dat (.tup ws), .dat (.int at'), .dat (.int 0), .dat (.int 1), .no, .no])
    ⟨0, 1, .no, .no, rfl, by omega, by simp⟩
    (fun i hi env p => by
      obtain ⟨found, worth, s4, s5, rfl, q0, q1⟩ := p
      by_cases hlt : at'.toNat + i < ws.length
      · obtain ⟨b, eb, b0, b1⟩ := inB_nn (hb ws[at'.toNat + i] (List.getElem_mem _))
        have hx : L2.atI ws (at' + i) = some (.int b) := by
          rw [atI_get ⟨by omega, by omega⟩, show (at' + (i : Int)).toNat = at'.toNat + i by omega, List.getElem?_eq_getElem hlt, eb]
        obtain ⟨k, hk⟩ : ∃ k, 10 - i = k + 1 := ⟨9 - i, by omega⟩
        rw [hk, List.drop_eq_getElem_cons hlt, eb] at q1
        have q1 : (if b < 128 then (if (b = 0 ∧ at' < at' + (i : Int)) ∨ 18446744073709551616 ≤ found + b % 128 * worth then W.non else .tup [.int (found + b % 128 * worth), .int (at' + (i : Int) + 1)])
          else numA at' k (ws.drop (at'.toNat + i + 1)) (at' + (i : Int) + 1) (found + b % 128 * worth) (worth * 128)) = _ := q1
        have hm : gMul (.int (b % 128)) (.int worth) = some (.v (.int (b % 128 * worth))) := gMul_l (by omega)
        have hm2 : gMul (.int worth) (.int 128) = some (.v (.int (worth * 128))) := gMul_r (by omega)
        obtain ⟨F, hF⟩ : ∃ F, found + b % 128 * worth = F := ⟨_, rfl⟩
        rw [hF] at q1
        have hne : ¬ ((ws.length : Int) ≤ at' + (i : Int)) := by omega
        have key : ∀ rest : SF, turn (.nm 4) (sSeq (sIf (fTest (fOp gGe (fOp gAdd (fV 1) (fV 4)) (fB gLen (fCons (fV 0) fNil)))) (sRet (fC .non)) sNext)
            (sSeq (sSet 5 (fOp gIx (fV 0) (fOp gAdd (fV 1) (fV 4)))) (sSeq (sSet 2 (fOp gAdd (fV 2) (fOp gMul (fOp gMod (fB gInt (fCons (fV 5) fNil)) (fC (.int 128))) (fV 3)))) (sSeq (sSet 3 (fOp gMul (fV 3) (fC (.int 128)))) rest)))) (.int (0 + i))
            [.dat (.tup ws), .dat (.int at'), .dat (.int found), .dat (.int worth), s4, s5] = rest [.dat (.tup ws), .dat (.int at'), .dat (.int F), .dat (.int (worth * 128)), .dat (.int i), .dat (.int b)] := fun rest => by
          simp [turn, hx, gMod_i, hm, hm2, hF, hne]
        rw [key]
        by_cases c : b < 128
        · rw [if_pos c] at q1
          have hpw : gPow (.int 2) (.int 64) = some (.v (.int 18446744073709551616)) := by rw [gPow_i (by omega)]; rfl
          by_cases d : 18446744073709551616 ≤ F
          · rw [if_pos (.inr d)] at q1
            by_cases d1 : b = 0 <;> by_cases d2 : 0 < i <;> simp [c, d, d1, d2, hpw, q1.symm]
          · by_cases d1 : b = 0 ∧ at' < at' + (i : Int)
            · rw [if_pos (.inl d1)] at q1
              simp [c, d, d1.1, show 0 < i by omega, hpw, q1.symm]
            · rw [if_neg (by intro q; rcases q with q | q; exact d1 q; exact d q)] at q1
              by_cases d2 : b = 0
              · simp [c, d, d2, show ¬ 0 < i by omega, hpw, q1.symm]
              · by_cases d3 : 0 < i <;> simp [c, d, d2, d3, hpw, q1.symm]
        · rw [if_neg c] at q1
          simp [c]
          exact ⟨_, _, ⟨rfl, rfl⟩, by omega, by rw [show at'.toNat + (i + 1) = at'.toNat + i + 1 by omega, show 9 - i = k by omega, ← Int.add_assoc]; exact q1⟩
      · have hne : ((ws.length : Int) ≤ at' + (i : Int)) := by omega
        rw [List.drop_of_length_le (by omega), numA_nil] at q1
        simp [turn, hne, q1.symm])
  rcases G with ⟨e, hf, z | ⟨found, worth, s4, s5, rfl, q0, q1⟩⟩ | ⟨w, e, hf, rfl, _⟩
  · exact z.elim
  · have q2 : numA at' 10 (ws.drop at'.toNat) at' 0 1 = .non := by
      rw [← q1]
      rfl
    simp [hf, smallI, q2]
  · simp [hf, smallI]
def intW : W → Int
  | .int n => n
  | _ => 0
theorem inB_int {a b : Int} {w : W} (h : inB a b w = true) : ∃ n, w = .int n ∧ a ≤ n ∧ n ≤ b := by
  cases w with
  | int n =>
    have h : (decide (a ≤ n) && decide (n ≤ b)) = true := h
    rw [Bool.and_eq_true_iff] at h
    exact ⟨n, rfl, of_decide_eq_true h.1, of_decide_eq_true h.2⟩
  | _ => cases h
theorem numA_shape {at0 : Int} : ∀ {k : Nat} {ws : List W} {p f v : Int}, numA at0 k ws p f v = .non ∨ ∃ n q, numA at0 k ws p f v = .tup [.int n, .int q]
  | 0, _, _, _, _ => .inl rfl
  | k + 1, [], _, _, _ => .inl rfl
  | k + 1, w :: ws, p, f, v => by
    cases w with
    | int b =>
      unfold numA
      split
      · split
        · exact .inl rfl
        · exact .inr ⟨_, _, rfl⟩
      · exact numA_shape
    | _ => exact .inl rfl
theorem app_bytes {xs ys : List W} (hx : ∀ u ∈ xs, inB 0 255 u = true) (hy : ∀ u ∈ ys, inB 0 255 u = true) : ∀ u ∈ xs ++ ys, inB 0 255 u = true := fun u m => by
  rcases List.mem_append.1 m with m | m
  · exact hx u m
  · exact hy u m
theorem same_bytes {n : Nat} {ws : List W} (h : ∀ u ∈ ws, inB 0 255 u = true) : dSame (n + 2) [.tup ws, .tup ws] = .ok (.bl true) [] := same_tup fun w m => by
  obtain ⟨b, rfl, _, _⟩ := inB_nn (h w m)
  exact same_ii
theorem figI_stable : ∀ {k : Nat} {n : Int}, 0 ≤ n → n < 128 ^ (k + 1) → figI (k + 1) n = figI k n
  | 0, n, _, h => by rw [figI_small (by simpa using h), figI_small (by simpa using h)]
  | k + 1, n, h0, h => by
    by_cases c : n < 128
    · rw [figI_small c, figI_small c]
    · show (if n < 128 then _ else _) = (if n < 128 then _ else _)
      rw [if_neg c, if_neg c, figI_stable (by omega) (by rw [Int.pow_succ] at h; exact Int.ediv_lt_of_lt_mul (by omega) h)]
end BV

set_option maxRecDepth 100000
set_option maxHeartbeats 4000000
/-! BV: a slot's own list grows by a tuple's things. -/
namespace L2
open PySem PySem.Spec PyProof.Rows
theorem ext_tupS (a : Addr) (xs : Array Value) (m : Nat) (c : Addr) (ys : Array Value) (k : Nat) (dd : Option Addr) (sl : Array (Option Value))
    (h0 : ¬(!xs.isEmpty && Builtin.List.listTooLong (xs.size + ys.size)) = true)
    (h1 : xs.size ≤ sizeLine) (h2 : xs.size + ys.size ≤ sizeLine + 1) :
    Meets (Builtin.«list.extend» ⟨[.ref a, .ref c], []⟩) (fun _ R s =>
      s.heap.get? a = some { cls := .type "list", dict := none, data := .seq xs m, slots := #[] } ∧
      s.heap.get? c = some { cls := .type "tuple", dict := dd, data := .seq ys k, slots := sl } ∧
      R (.ok (.ret Value.none)) { s with heap := s.heap.update a (Obj.mapSeq fun z => z ++ ys), toks := s.toks }) :=
  .of_wp fun prog w A R s h => by
    obtain ⟨hp, g, d, tk, os⟩ := s
    obtain ⟨hl, hb, h⟩ := h
    have f1 := AutoSeq1.idx_int
    have f2 := AutoSeq1.sub_tuple_tuple
    have f3 := AutoSeq1.sub_list_list
    have f4 := AutoSeq1.sub_tuple_list
    have f5 := AutoSeq1.sub_list_tuple
    have h3 : (xs ++ ys).size ≤ sizeLine + 1 := by
      rw [Array.size_append]
      exact h2
    wp_walk using (wpAny_updateSeq hl rfl (hz := h1) (_hz' := h3)), wpAny_loadPart' hl, wpAny_loadPart' hb
    exact ⟨_, rfl, h⟩
def rExtT (K : PySem.W.Frag) : V → List V → Hp → VK → Prop := fun x vs H Q =>
  ∃ a c xs ys, x = .ref a ∧ vs = [.ref c] ∧ H a = some (.lst xs) ∧ SqT K H c ys ∧ xs.length + ys.length ≤ sizeLine ∧
    Q .non (upd H a (.lst (xs ++ ys)))
theorem mt_extT {X : Cx} : MtM X "list.extend" (rExtT X.K) := by
  intro pins s σ H x vs v us Q I rx rv h
  obtain ⟨a, c, xs, ys, rfl, rfl, hH, hT, hz, q⟩ := h
  cases rx
  obtain ⟨u, rfl, ru⟩ := rv.one
  cases ru
  obtain ⟨z, its, n, r, hl, e⟩ := I.lstM hH
  obtain ⟨jts, r2, ⟨⟨cls, dd, data, sl⟩, ho, hc, k, hd⟩, hs⟩ := I.tuple hT
  simp only at hc hd
  subst hc hd
  have l2 : jts.length = ys.length := r2.length.symm
  have hsz : its.toArray.size + jts.toArray.size ≤ sizeLine := by
    rw [List.size_toArray, List.size_toArray]
    omega
  have hlong : ¬ (!its.toArray.isEmpty && Builtin.List.listTooLong (its.toArray.size + jts.toArray.size)) = true := by
    have : Builtin.List.listTooLong (its.toArray.size + jts.toArray.size) = false := by
      unfold Builtin.List.listTooLong
      exact decide_eq_false (by omega)
    rw [this, Bool.and_false]
    exact Bool.false_ne_true
  have g1 : its.toArray.size ≤ sizeLine := by omega
  refine call_meets F.slot_list_extend ⟨_, e, rfl⟩ F.entry_list_extend (F.args_list_extend_2 _ _)
    (ext_tupS a its.toArray n c jts.toArray k dd sl hlong g1 (by omega)) ⟨e, ho, ?_⟩
  refine ⟨.non, _, I.lset (its' := its ++ jts) hH e (by simp) (r.append r2) ?_, rfl, q⟩
  rw [List.length_append]
  omega
end L2
namespace BV
open PySem PySem.Spec PyProof.Rows L2
def sExtT (i : Nat) (f : EF) : SF := fun env => match ownL env i with
  | none => .bad
  | some _ => (fE f env).andS fun ov env => match ov with
    | .v (.tup us) => (match ownL env i with
      | some ws => if ws.length + us.length ≤ 16777216 then .nx (env.set i (.own (.lst (ws ++ us)))) else .bad
      | none => .bad)
    | _ => .bad
section
variable {X : Cx} {ci : Nat → Addr} {BS : List Nat} {e e2 : Expr} {f fi g : EF} {pos p1 p2 p3 : Pos}
theorem s_extT (i : Nat) {x : Str} (he : SndE X ci BS e f) (hN : X.N[i]? = some x := by rfl) (hv : Vis X.env.scope x := by first | exact Or.inl rfl | exact Or.inr (Or.inl rfl) | exact Or.inr (Or.inr rfl)) (hd : (x == ("__debug__" : Str)) = false := by decide)
    (hcd : (x == ("__classdict__" : Str)) = false := by decide) (hbase : attributeBase (.Name x p1) "extend" X.env (eval (.Name x p1) X.env) = eval (.Name x p1) X.env := by rfl)
    (hfew : ((backTo p3 (starEach [e] X.env)).all (fun x => !x.1) && (backToKw p3 (keywordEach [] X.env)).all (fun x => x.1.isSome) && decide ([e].length + ([] : List Keyword).length + (if ([] : List Keyword).isEmpty then 0 else 1) < 30)) = true := by rfl)
    (hline : (p2.endLine == p3.line) = true := by rfl) (hst : starEach [e] X.env = (false, eval e X.env) :: starEach [] X.env := by rfl) (hplain : (backTo p3 (starEach [] X.env)).any (·.1) = false := by rfl)
    (hs : swapsWith (.Call (.Attribute (.Name x p1) "extend" p2) [e] [] p3) none pos.line X.env = pure false := by rfl) : SndS X ci BS (.Expr (.Call (.Attribute (.Name x p1) "extend" p2) [e] [] p3) pos) (sExtT i f) := by
  obtain ⟨t, p, q⟩ := (x_esc he).ex
  refine ⟨⟨fun W' => tDrop (tBM X.K "list" (rExtT X.K) (tVar i) (tCons (t W') tNil)), fun W' tk => ps_expr (pe_bm PySem.F.plainAttrs_list PySem.F.slot_list_extend PySem.F.type_list_extend mt_extT (pe_var hN hv hd hcd) (pa_cons (p W' tk) pa_nil hst) hbase hfew hline hst hplain) hs, fun W' s D ok h => ?_⟩⟩
  unfold sExtT at h
  cases e0 : ownL s.env i with
  | none => rw [e0] at h; exact h.elim
  | some ws0 =>
    rw [e0] at h
    obtain ⟨a, vs0, h1, h2, _, _⟩ := ownL_at ok e0
    refine ⟨.ref a, h1, .inl ⟨rfl, vs0, .inl (.inl h2)⟩, ?_⟩
    refine q W' s _ ok (h.andS.imp fun ov env1 G1 H1 st1 ok1 h1' => ?_)
    intro v rep new
    cases ov with
    | v w =>
      cases w with
      | tup us =>
        dsimp only at h1'
        cases e1 : ownL env1 i with
        | none => rw [e1] at h1'; exact h1'.elim
        | some ws =>
          rw [e1] at h1'
          dsimp only at h1'
          obtain ⟨b, vs, k1, k2, k3, k4⟩ := ownL_at (s := ⟨env1, s.σ, G1, H1⟩) ok1 e1
          have eb : s.σ[i]? = some (some (.ref b)) := k1
          rw [h1] at eb
          cases eb
          cases rep with
          | @tup c zs _ hc rc =>
            by_cases hz : ws.length + us.length ≤ 16777216
            · rw [if_pos hz] at h1'
              obtain ⟨st2, ok2⟩ := upd_own (BS := BS) (s := ⟨env1, s.σ, G1, H1⟩) (o := .lst (vs ++ zs)) (w' := .lst (ws ++ us)) ok1 k4 k1 (.lst upd_same (k3.append rc))
              exact ⟨a, c, vs, zs, rfl, rfl, k2, (.inl (.inl (ok1.sub _ _ hc))), by rw [sizeLine_eq, k3.length, rc.length]; exact hz, h1' _ _ _ st2 ok2⟩
            · rw [if_neg hz] at h1'
              exact h1'.elim
      | _ => exact h1'.elim
    | _ => exact h1'.elim
@[simp] theorem sExtT_e {k : Nat} {env : Ev} {f : EF} : sExtT k f env = match ownL env k with | none => .bad | some _ => (fE f env).andS fun ov env => match ov with | .v (.tup us) => (match ownL env k with | some ws => if ws.length + us.length ≤ 16777216 then .nx (env.set k (.own (.lst (ws ++ us)))) else .bad | none => .bad) | _ => .bad := (rfl)
end
end BV

set_option maxRecDepth 100000
set_option maxHeartbeats 4000000
/-! BV: enumerate of a tuple, of a list, of a text. -/
namespace L2
open PySem PySem.Spec PyProof.Rows
/-- one pair is drawn -/
theorem en_item {X : Cx} {pins : List (Addr × Obj)} {s : Shared} {σ : St} {H : Hp} {E : Value → Shared → Prop} {i n : Nat} {e it : Addr} {fp : List Addr} {Pv : Nat → Value → Prop} {Sn : Nat → Heap → Prop} {old : Value} {J : It} {tn : Nat → Heap → Prop}
    {elts : List Expr} {kk : Nat} {tpos : Pos}
    (I : Inv X pins σ H s) (hf : ∀ b ∈ [e, it], FpOk X pins H b) (D : Draws X.prog X.w X.A.in1 it fp n Pv Sn) (he : IsEnum s.heap e it ((i : Nat) : Int) old) (hst : Sn i s.heap) (hlt : i < n) (hne : e ≠ it) (hef : e ∉ fp)
    (hv : ∀ v, Pv i v → ∃ x, RelV x v ∧ ∀ T, H T = none → J.yld i H (.ref T) (upd H T (.tup [.int (i : Nat), x])))
    (hn : ∀ h2 v, IsEnum h2 e it ((i + 1 : Nat) : Int) v → Sn (i + 1) h2 → tn (i + 1) h2) :
    wpAny (model X.prog X.w) X.A (pyNext (.ref e)) (fun r s1 => ∃ u, r = some u ∧
      wpAny (model X.prog X.w) X.A (letOwnedTupleGo (.Tuple elts kk tpos) (.ref e) u) (fun _ s2 => ∃ x H', Inv X pins σ H' s2 ∧ RelV x u ∧ J.yld i H x H' ∧ tn (i + 1) s2.heap ∧ ∀ b ∈ [e, it], H' b = none) E s1) E s := by
  have le : e < s.heap.objs.size := Heap.lt_size he
  have li : it < s.heap.objs.size := by
    obtain ⟨o, q⟩ := D.live i _ hst
    exact Heap.lt_size q
  refine wpAny_pyNext_enum_itemD D he hst hlt hne hef fun v h1 tk pv out st1 tup sz keep1 => ?_
  obtain ⟨x, rx, hy⟩ := hv v pv
  refine ⟨_, rfl, wpAny_letOwnedTupleGo_enum (s := { s with heap := h1, toks := tk + 1 }) out fun h2 en2 sb => ?_⟩
  have tup2 : h2.get? s.heap.objs.size = some { cls := .type "tuple", data := .seq #[.int i tk, v] } := (sb.2 _ (Nat.ne_of_gt le)).trans tup
  have fresh : H s.heap.objs.size = none := I.hok.fresh (Nat.le_refl _)
  have made : ObjOk X.prog X.w (upd H s.heap.objs.size (.tup [.int (i : Nat), x])) h2 s.heap.objs.size (.tup [.int (i : Nat), x]) := by
    refine ⟨?_, [.int i tk, v], .cons ⟨_, rfl⟩ (.cons rx .nil), ⟨_, tup2, rfl, _, rfl⟩⟩
    show 2 ≤ sizeLine
    decide
  have J1 : Inv X pins σ (upd H s.heap.objs.size (.tup [.int (i : Nat), x])) { s with heap := h2, toks := tk + 1 } := by
    refine I.turnedNew (ch := [e, it]) (fun b ob hb q => ?_) hf (Nat.le_refl _) made
    have b1 : b ≠ e := fun z => hb (z ▸ List.mem_cons_self ..)
    have b2 : b ≠ it := fun z => hb (z ▸ List.mem_cons_of_mem _ (List.mem_cons_self ..))
    exact (sb.2 b b1).trans (keep1 b ob b1 b2 q)
  refine ⟨.ref s.heap.objs.size, _, J1, rfl, hy _ fresh, hn h2 v ?_ (D.frame _ _ _ st1 fun b hb o y => (sb.2 b fun z => hef (z ▸ hb)).trans y), fun b hb => ?_⟩
  · have e1 : ((i + 1 : Nat) : Int) = (i : Int) + 1 := by omega
    rw [e1]
    exact en2
  · have lb : b < s.heap.objs.size := by
      rcases List.mem_cons.1 hb with z | z
      · rw [z]
        exact le
      · rw [List.mem_singleton.1 z]
        exact li
    rw [upd_ne (Nat.ne_of_lt lb)]
    exact (hf b hb).1
theorem en_done {X : Cx} {pins : List (Addr × Obj)} {s : Shared} {σ : St} {H : Hp} {E : Value → Shared → Prop} {n : Nat} {e it : Addr} {fp : List Addr} {Pv : Nat → Value → Prop} {Sn : Nat → Heap → Prop} {old : Value}
    (I : Inv X pins σ H s) (hf : ∀ b ∈ [e, it], FpOk X pins H b) (D : Draws X.prog X.w X.A.in1 it fp n Pv Sn) (he : IsEnum s.heap e it ((n : Nat) : Int) old) (hst : Sn n s.heap) :
    wpAny (model X.prog X.w) X.A (pyNext (.ref e)) (fun r s1 => r = none ∧ Inv X pins σ H s1) E s := by
  obtain ⟨f0, f1, f2, f3, f4, f5⟩ := hf it (by simp)
  exact wpAny_pyNext_enum_endD D he hst fun h1 keep1 => ⟨rfl, I.turned (t' := s.toks) (fun b o hb q => keep1 b o hb q) f0 f1 f3 f4 f5⟩
/-- enumerate(v) begins -/
theorem enum_one {v : Value} {ob : Obj} {Hd : Heap → Prop} (B : Begins v ob Hd) :
    Meets (Builtin.«enumerate.__new__» ⟨[.type "enumerate", v], []⟩) (fun _ R s => Hd s.heap ∧
      R (.ok (.ret (.ref (s.heap.push ob).objs.size)))
        { s with heap := (s.heap.push ob).push { cls := .type "enumerate", data := .fields #[.none, .bool false, .ref s.heap.objs.size, rawInt 0, .none, .none] } }) :=
  .of_wp fun prog w A R s h => by
    obtain ⟨hp, g, d, tk, os⟩ := s
    obtain ⟨hd, h⟩ := h
    have hsub := sub_enumerate
    have it1 : ∀ {A1 : Around} {E1 Q1 : Value → Shared → Prop}, Q1 (.ref hp.objs.size) ⟨hp.push ob, g, d, tk, os⟩ → wpAny (model prog w) A1 (pyIter v) Q1 E1 ⟨hp, g, d, tk, os⟩ :=
      fun q => B.iter prog w _ _ ⟨hp, g, d, tk, os⟩ _ hd q
    wp_walk using it1
    refine wpAny_stack_any fun st => wpAny_pure ?_
    split
    · rename_i c _ _ _ _ _
      cases (c == Value.type "enumerate")
      · wp_walk using it1
        exact ⟨_, rfl, h⟩
      · wp_walk using it1
        exact ⟨_, rfl, h⟩
    · wp_walk using it1
      exact ⟨_, rfl, h⟩
theorem call_enum_one {prog : Program} {w : World} {A : Around} {E : Value → Shared → Prop} {s : Shared} {v : Value} {ob : Obj} {Hd : Heap → Prop} {Q : Value → Shared → Prop} (B : Begins v ob Hd) (h1 : Hd s.heap)
    (h : ∀ h2, IsEnum h2 (s.heap.objs.size + 1) s.heap.objs.size 0 .none → h2.get? s.heap.objs.size = some ob →
      (∀ b o, s.heap.get? b = some o → h2.get? b = some o) → Q (.ref (s.heap.objs.size + 1)) { s with heap := h2 }) :
    wpAny (model prog w) A (call (.type "enumerate") [v]) Q E s := by
  refine callType_new F.called_enumerate (by decide) (F.typeCall_enumerate_1 _) (F.newCall_enumerate_1 _) (fun obj => F.args_object_init_2 obj _) F.entry_enumerate_new (enum_one B) ⟨h1, ?_⟩
  have hz : (s.heap.push ob).objs.size = s.heap.objs.size + 1 := Heap.size_push ..
  show _ ∧ _
  rw [hz]
  have en : IsEnum ((s.heap.push ob).push { cls := .type "enumerate", data := .fields #[.none, .bool false, .ref s.heap.objs.size, rawInt 0, .none, .none] }) (s.heap.objs.size + 1) s.heap.objs.size 0 .none := by
    have z := Heap.get?_push_size (s.heap.push ob) (o := { cls := .type "enumerate", data := .fields #[.none, .bool false, .ref s.heap.objs.size, rawInt 0, .none, .none] }) rfl
    rw [hz] at z
    exact z
  exact ⟨⟨_, en, rfl⟩, h _ en (Heap.get?_push_of_some _ (Heap.get?_push_size _ B.free)) fun b o x => Heap.get?_push_of_some _ (Heap.get?_push_of_some _ x)⟩
/-- the tuple at a, each thing in a new pair with its place -/
def ItE (K : PySem.W.Frag) (a : Addr) : It :=
  ⟨fun i H => ∃ (xs : List V) (x : V), SqT K H a xs ∧ xs[i]? = some x,
   fun i H v H' => ∃ T x, v = .ref T ∧ H T = none ∧ H' = upd H T (.tup [.int (i : Nat), x]) ∧ ∀ xs, SqT K H a xs → xs[i]? = some x,
   fun i H => ∃ xs : List V, SqT K H a xs ∧ xs.length = i⟩
theorem turn_enT {P : Program} {w : World} {K : PySem.W.Frag} {elts : List Expr} {kk : Nat} {tpos : Pos} (a e it : Addr) :
    Turn P w K (.Tuple elts kk tpos) (ItE K a) [e, it] e (fun i h => (∃ old, IsEnum h e it ((i : Nat) : Int) old) ∧ h.IsTupleIter it a i ∧ e ≠ it) where
  mem := by simp
  obj := fun i h st b hb => by
    obtain ⟨⟨old, he⟩, ⟨o, ho, _, hd⟩, _⟩ := st
    rcases List.mem_cons.1 hb with z | z
    · subst z
      exact ⟨_, he, fun v q => nomatch q⟩
    · rw [List.mem_singleton.1 z]
      exact ⟨o, ho, fun v q => by rw [hd] at q; cases q⟩
  keep := fun i h h1 st k => by
    obtain ⟨⟨old, he⟩, hi, hne⟩ := st
    exact ⟨⟨old, k e (by simp) _ he⟩, hi.at fun o q => k it (by simp) o q, hne⟩
  item := by
    intro X hP hw hK hc i pins s σ H E I hf st hg
    subst hP hw hK
    obtain ⟨⟨old, he⟩, hit, hne⟩ := st
    obtain ⟨xs, x, hq, hx⟩ := hg
    obtain ⟨its, rv, p, hz⟩ := I.tuple hq
    have hta : s.heap.IsTuple a its.toArray := p
    have hna : a ≠ it := by
      intro z
      obtain ⟨o1, g1, c1, _⟩ := hta
      obtain ⟨o2, g2, c2, _⟩ := hit
      rw [z, g2] at g1
      cases g1
      have z := c1.symm.trans c2
      injection z with z
      exact absurd z (by decide)
    have hne2 : e ∉ [it, a] := by
      intro z
      rcases List.mem_cons.1 z with z | z
      · exact hne z
      · have z := List.mem_singleton.1 z
        obtain ⟨o1, g1, c1, _⟩ := hta
        rw [← z] at g1
        have g2 := he.symm.trans g1
        cases g2
        injection c1 with z
        exact absurd z (by decide)
    have il : i < its.toArray.size := by
      have := rv.length
      have h2 := (List.getElem?_eq_some_iff.1 hx).1
      rw [List.size_toArray]
      omega
    refine en_item (J := ItE X.K a) (tn := fun i h => (∃ old, IsEnum h e it ((i : Nat) : Int) old) ∧ h.IsTupleIter it a i ∧ e ≠ it) I hf (Draws.tuple (A := X.A.in1) (I.ok.hd hc) it a hna its.toArray) he ⟨hit, hta⟩ il hne hne2 (fun v pv => ?_) fun h2 v en st => ⟨⟨v, en⟩, st.1, hne⟩
    obtain ⟨u, hu, ru⟩ := rv.get hx
    have : v = u := by
      have pv : its.toArray[i]? = some v := pv
      rw [List.getElem?_toArray, hu] at pv
      exact (Option.some.inj pv).symm
    subst this
    exact ⟨x, ru, fun T hT => ⟨T, x, rfl, hT, rfl, fun ys hy => by rw [I.tuple_inj hy hq]; exact hx⟩⟩
  done := by
    intro X hP hw hK hc i pins s σ H E I hf st hg
    subst hP hw hK
    obtain ⟨⟨old, he⟩, hit, hne⟩ := st
    obtain ⟨xs, hq, hx⟩ := hg
    obtain ⟨its, rv, p, hz⟩ := I.tuple hq
    have hta : s.heap.IsTuple a its.toArray := p
    have hna : a ≠ it := by
      intro z
      obtain ⟨o1, g1, c1, _⟩ := hta
      obtain ⟨o2, g2, c2, _⟩ := hit
      rw [z, g2] at g1
      cases g1
      have z := c1.symm.trans c2
      injection z with z
      exact absurd z (by decide)
    have il : its.toArray.size = i := by
      have := rv.length
      rw [List.size_toArray]
      omega
    subst il
    exact en_done I hf (Draws.tuple (A := X.A.in1) (I.ok.hd hc) it a hna its.toArray) he ⟨hit, hta⟩
  self := fun A i s Q E st h => by
    obtain ⟨⟨_, he⟩, _⟩ := st
    exact wpAny_pyIter_enum he h
/-- the text, each sign in a new pair with its place -/
def ItES (x : Str) : It :=
  ⟨fun i _ => i < x.cps.size,
   fun i H v H' => ∃ T c, v = .ref T ∧ H T = none ∧ H' = upd H T (.tup [.int (i : Nat), .str ⟨#[c]⟩]) ∧ x.cps[i]? = some c,
   fun i _ => x.cps.size = i⟩
theorem turn_enS {P : Program} {w : World} {K : PySem.W.Frag} {elts : List Expr} {kk : Nat} {tpos : Pos} (x : Str) (t : Tok) (e it : Addr) :
    Turn P w K (.Tuple elts kk tpos) (ItES x) [e, it] e (fun i h => (∃ old, IsEnum h e it ((i : Nat) : Int) old) ∧ h.IsStrIter it (strIterType x) x t i ∧ e ≠ it) where
  mem := by simp
  obj := fun i h st b hb => by
    obtain ⟨⟨old, he⟩, ⟨o, ho, _, hd⟩, _⟩ := st
    rcases List.mem_cons.1 hb with z | z
    · subst z
      exact ⟨_, he, fun v q => nomatch q⟩
    · rw [List.mem_singleton.1 z]
      exact ⟨o, ho, fun v q => by rw [hd] at q; cases q⟩
  keep := fun i h h1 st k => by
    obtain ⟨⟨old, he⟩, ⟨o, ho, hr⟩, hne⟩ := st
    exact ⟨⟨old, k e (by simp) _ he⟩, ⟨o, k it (by simp) o ho, hr⟩, hne⟩
  item := by
    intro X hP hw hK hc i pins s σ H E I hf st hg
    subst hP hw hK
    obtain ⟨⟨old, he⟩, hit, hne⟩ := st
    refine en_item (J := ItES x) (tn := fun i h => (∃ old, IsEnum h e it ((i : Nat) : Int) old) ∧ h.IsStrIter it (strIterType x) x t i ∧ e ≠ it) I hf (Draws.text (A := X.A.in1) (I.ok.hd hc) it x t) he hit hg hne (fun z => hne (List.mem_singleton.1 z)) (fun v pv => ?_) fun h2 v en st => ⟨⟨v, en⟩, st, hne⟩
    obtain ⟨c, u, hc2, rfl⟩ := pv
    exact ⟨.str ⟨#[c]⟩, ⟨u, rfl⟩, fun T hT => ⟨T, c, rfl, hT, rfl, hc2⟩⟩
  done := by
    intro X hP hw hK hc i pins s σ H E I hf st hg
    subst hP hw hK
    obtain ⟨⟨old, he⟩, hit, hne⟩ := st
    have il : x.cps.size = i := hg
    subst il
    exact en_done I hf (Draws.text (A := X.A.in1) (I.ok.hd hc) it x t) he hit
  self := fun A i s Q E st h => by
    obtain ⟨⟨_, he⟩, _⟩ := st
    exact wpAny_pyIter_enum he h
/-- enumerate of a tuple or of a text -/
def iEn (K : PySem.W.Frag) (ta : TA) : TI := fun σ H R => ta σ H fun vs H1 => (∃ a xs, vs = [.ref a] ∧ SqT K H1 a xs ∧ R (ItE K a) H1) ∨ (∃ x, vs = [.str x] ∧ R (ItES x) H1)
theorem pi_en {X : Cx} {e : Expr} {ta : TA} {p pos tpos : Pos} {elts : List Expr} {kk : Nat} (hg : Gl X "enumerate") (hm : X.mg "enumerate" = none) (ha : PA X [e] ta) (hs : starEach [e] X.env = [(false, eval e X.env)] := by rfl) :
    PI X (.Tuple elts kk tpos) (.Call (.Name "enumerate" p) [e] [] pos) (iEn X.K ta) := by
  refine ⟨fun pins s σ H R I h => Call_ (ld_blt I hg hm boot_enumerate (PyProof.Rows.callWith_type1 (thn (ha.run pos pins s σ H _ I h) fun us s1 ⟨vs, H1, J, r1, q1⟩ => ?_) hs rfl))⟩
  have two : ∀ b ∈ [s1.heap.objs.size + 1, s1.heap.objs.size], FpOk X pins H1 b := fun b hb => by
    have le : s1.heap.objs.size ≤ b := by
      rcases List.mem_cons.1 hb with z | z
      · rw [z]
        exact Nat.le_add_right _ _
      · rw [List.mem_singleton.1 z]
        exact Nat.le_refl _
    exact J.fpOk le (J.hok.fresh le)
  rcases q1 with ⟨a, xs, ex, hq, q⟩ | ⟨x, ex, q⟩
  · subst ex
    cases r1 with
    | cons r rr =>
      cases rr
      cases r
      obtain ⟨its, rv, p1, hz⟩ := J.tuple hq
      have hta : s1.heap.IsTuple a its.toArray := p1
      refine call_enum_one (begins_tuple a its.toArray) hta fun h2 en g2 k2 => wpAny_pyIter_enum en ?_
      have J2 : Inv X pins σ H1 { s1 with heap := h2 } := J.kept (t' := s1.toks) k2
      exact ⟨s1.heap.objs.size + 1, [s1.heap.objs.size + 1, s1.heap.objs.size], _, _, H1, rfl, J2, turn_enT a (s1.heap.objs.size + 1) s1.heap.objs.size, ⟨⟨.none, en⟩, ⟨_, g2, rfl, rfl⟩, Nat.succ_ne_self _⟩, two, q⟩
  · subst ex
    cases r1 with
    | cons r rr =>
      cases rr
      obtain ⟨t, rfl⟩ := r
      refine call_enum_one (begins_text x t) trivial fun h2 en g2 k2 => wpAny_pyIter_enum en ?_
      have J2 : Inv X pins σ H1 { s1 with heap := h2 } := J.kept (t' := s1.toks) k2
      exact ⟨s1.heap.objs.size + 1, [s1.heap.objs.size + 1, s1.heap.objs.size], _, _, H1, rfl, J2, turn_enS x t (s1.heap.objs.size + 1) s1.heap.objs.size, ⟨⟨.none, en⟩, ⟨_, g2, rfl, rfl⟩, Nat.succ_ne_self _⟩, two, q⟩
end L2

set_option maxRecDepth 100000
set_option maxHeartbeats 4000000
/-! BV: enumerate, texts sign by sign, sum, sorted, in, count, join. -/
namespace BV
open PySem PySem.Spec PyProof.Rows L2
def enW : Nat → List W → List W
  | _, [] => []
  | i, w :: ws => .tup [.int (i : Nat), w] :: enW (i + 1) ws
theorem enW_len : ∀ {ws : List W} {k : Nat}, (enW k ws).length = ws.length
  | [], _ => rfl
  | _ :: ws, k => by rw [enW, List.length_cons, List.length_cons, enW_len]
theorem enW_get : ∀ {ws : List W} {k i : Nat} {w : W}, ws[i]? = some w → (enW k ws)[i]? = some (.tup [.int ((k + i : Nat) : Int), w])
  | w :: ws, k, 0, u, h => by
    cases h
    rfl
  | w :: ws, k, i + 1, u, h => by
    have h : ws[i]? = some u := h
    show (enW (k + 1) ws)[i]? = _
    rw [enW_get h, show k + 1 + i = k + (i + 1) by omega]
def chars (x : Str) : List W := x.cps.toList.map fun c => W.str ⟨#[c]⟩
theorem chars_len {x : Str} : (chars x).length = x.cps.size := by
  unfold chars
  rw [List.length_map, Array.length_toList]
theorem chars_get {x : Str} {i c : Nat} (h : x.cps[i]? = some c) : (chars x)[i]? = some (.str ⟨#[c]⟩) := by
  unfold chars
  rw [List.getElem?_map, Array.getElem?_toList, h]
  rfl
def asTx : W → Option (List W)
  | .str x => some (chars x)
  | _ => none
def asEn : W → Option (List W)
  | .tup ws => some ws
  | .str x => some (chars x)
  | _ => none
def fEn (f : EF) : Ev → Res (List W) := fun env => (fE f env).bind fun ov env => match ov with
  | .v w => (match asEn w with | some ws => .ok (enW 0 ws) env | none => .bad)
  | _ => .bad
/-- the i-th of k with its place, in a new pair -/
def YEn (k : Nat → Option V) : Nat → Hp → V → Hp → Prop := fun i H v H' => ∃ T x, v = .ref T ∧ H T = none ∧ H' = upd H T (.tup [.int (i : Nat), x]) ∧ k i = some x
theorem walk_enT {K : PySem.W.Frag} {a : Addr} {xs : List V} {n : Nat} (hn : n = xs.length) : Walk (ItE K a) n (fun H => SqT K H a xs) (YEn fun i => xs[i]?) := by
  refine ⟨fun i H hi q => ⟨xs, xs[i]'(by omega), q, by simp [show i < xs.length by omega]⟩, fun H q => ⟨xs, q, hn.symm⟩, fun i H x H' hi q y => ?_⟩
  obtain ⟨T, u, e1, e2, e3, k⟩ := y
  exact ⟨T, u, e1, e2, e3, k xs q⟩
theorem walk_enS {x : Str} {n : Nat} (hn : n = x.cps.size) : Walk (ItES x) n (fun _ => True) (YEn fun i => (x.cps[i]?).map fun c => V.str ⟨#[c]⟩) := by
  refine ⟨fun i H hi q => by show i < x.cps.size; omega, fun H q => hn.symm, fun i H v H' hi q y => ?_⟩
  obtain ⟨T, c, e1, e2, e3, k⟩ := y
  exact ⟨T, _, e1, e2, e3, by show Option.map _ (x.cps[i]?) = _; rw [k]; rfl⟩
section
variable {X : Cx} {ci : Nat → Addr} {BS : List Nat} {e e2 : Expr} {f g : EF} {p pos tpos : Pos} {elts : List Expr} {kk : Nat} {tg : Expr}
theorem it_en {m : Sta} {ws : List W} {J : It} {Gp : Hp → Prop} {k : Nat → Option V} (w : Walk J ws.length Gp (YEn k)) (kp : ∀ m' : Sta, Ok X.K ci m' → Same m.G m'.G → Gp m'.H)
    (r : ∀ i x, i < ws.length → k i = some x → ∃ u, ws[i]? = some u ∧ RepV X.K ci m.G x u) : ItOk X ci BS m (enW 0 ws) J Gp (YEn k) := by
  refine ⟨by rw [enW_len]; exact w, kp, fun m' i v H' ok s hi y => ?_⟩
  rw [enW_len] at hi
  obtain ⟨T, x, rfl, hT, rfl, h1⟩ := y
  obtain ⟨u, e, r1⟩ := r i x hi h1
  obtain ⟨st, ok'⟩ := alloc_pers (BS := BS) (o := .tup [.int (i : Nat), x]) ok hT
  refine ⟨_, _, enW_get e, st, ok', .tup upd_same (.cons ?_ (.cons ((r1.mono s).mono st.sub) .nil))⟩
  rw [Nat.zero_add]
  exact .int _
theorem i_en (hg : Gl X "enumerate") (hm : X.mg "enumerate" = none) (he : SndE X ci BS e f) (hs : starEach [e] X.env = [(false, eval e X.env)] := by rfl) :
    SndI X ci BS (.Tuple elts kk tpos) (.Call (.Name "enumerate" p) [e] [] pos) (fEn f) := by
  obtain ⟨t, pp, q⟩ := (x_esc he).ex
  refine ⟨⟨fun W' => iEn X.K (tCons (t W') tNil), fun W' tk => pi_en hg hm (pa_cons (pp W' tk) pa_nil hs) hs, fun W' s R ok h => ?_⟩⟩
  refine q W' s _ ok (h.bind.imp fun ov env1 G1 H1 st1 ok1 h1 => ?_)
  intro v rep new
  cases ov with
  | v w =>
    cases w with
    | tup ws =>
      cases rep with
      | @tup a vs _ hT r =>
        have hT : SqT X.K G1 a vs := .inl (.inl hT)
        refine .inl ⟨a, vs, rfl, sqT_mono ok1.sub hT, h1 G1 H1 Step.refl ok1 _ _ _ (it_en (m := ⟨env1, s.σ, G1, H1⟩) (walk_enT r.length.symm) (fun m' ok' sm => sqT_mono ok'.sub (sqT_mono sm hT)) fun i x _ k => ?_)⟩
        exact r.get k
    | str x =>
      cases rep
      refine .inr ⟨x, rfl, h1 G1 H1 Step.refl ok1 _ _ _ (it_en (m := ⟨env1, s.σ, G1, H1⟩) (ws := chars x) (walk_enS chars_len) (fun _ _ _ => trivial) fun i v _ k => ?_)⟩
      cases hc : x.cps[i]? with
      | none => rw [hc] at k; cases k
      | some c =>
        rw [hc] at k
        cases k
        exact ⟨_, chars_get hc, .str _⟩
    | _ => exact h1.elim
  | _ => exact h1.elim
theorem i_str (he : SndE X ci BS e f) : SndI X ci BS tg e (fIt asTx f) := by
  obtain ⟨t, p, q⟩ := (x_esc he).ex
  refine ⟨⟨fun W' => iStr (t W'), fun W' tk => pi_str (p W' tk), fun W' s R ok h => ?_⟩⟩
  refine q W' s _ ok (h.bind.imp fun ov env1 G1 H1 st1 ok1 h1 => ?_)
  intro v rep new
  cases ov with
  | v w =>
    cases w with
    | str x =>
      cases rep
      refine ⟨x, rfl, h1 G1 H1 Step.refl ok1 (Its x) (fun _ => True) (fun i H v H' => H' = H ∧ ∃ c, x.cps[i]? = some c ∧ v = .str ⟨#[c]⟩) ⟨⟨fun i H hi _ => ?_, fun H _ => ?_, fun i H v H' hi _ y => y⟩, fun _ _ _ => trivial, fun m' i v H' ok s hi y => ?_⟩⟩
      · rw [chars_len] at hi
        exact hi
      · exact Nat.le_of_eq chars_len.symm
      · obtain ⟨e1, c, hc, e2⟩ := y
        subst e1 e2
        exact ⟨_, m'.G, chars_get hc, Step.refl, ok, .str _⟩
    | _ => exact h1.elim
  | _ => exact h1.elim
/-! sum, sorted -/
def intsW : List W → Option (List Int)
  | [] => some []
  | .int i :: ws => (intsW ws).map fun l => i :: l
  | _ :: _ => none
theorem intsW_of {K : PySem.W.Frag} {G : Hp} : ∀ {vs : List V} {ws : List W} {ns : List Int}, RepVs K ci G vs ws → intsW ws = some ns → vs = ns.map V.int
  | _, _, _, .nil, e => by cases e; rfl
  | v :: vs, w :: ws, ns, .cons r t, e => by
    cases w with
    | int b =>
      unfold intsW at e
      cases q : intsW ws with
      | none => rw [q] at e; cases e
      | some cs =>
        rw [q] at e
        cases e
        cases r
        rw [intsW_of t q]
        rfl
    | _ => cases e
theorem repsI {K : PySem.W.Frag} {G : Hp} : ∀ {ns : List Int}, RepVs K ci G (ns.map V.int) (ns.map W.int)
  | [] => .nil
  | n :: ns => .cons (.int n) repsI
def gSum : List W → Option OV
  | [.lst xs] => (intsW xs).map fun ns => .v (.int ns.sum)
  | _ => none
theorem b_sum (hc : X.calm = true := by rfl) : CallS X ci BS (.builtin "sum") gSum := by
  refine ⟨_, cr_sum hc, fun W' s xs ws ov Q ok cx e h => ?_⟩
  match ws, e with
  | [.lst ys], e =>
    unfold gSum at e
    dsimp only at e
    cases q : intsW ys with
    | none => rw [q] at e; cases e
    | some bs =>
      rw [q] at e
      cases e
      obtain ⟨x, rfl, c⟩ := cur1 cx
      obtain ⟨a, vs, rfl, h1, r1⟩ := c.lst ok
      exact ⟨a, bs, rfl, by rw [← intsW_of r1 q]; exact .inl (.inl h1), ret_same ok h (.int _)⟩
def insI (n : Int) : List Int → List Int
  | [] => [n]
  | m :: ms => if n ≤ m then n :: m :: ms else m :: insI n ms
def sortI : List Int → List Int
  | [] => []
  | n :: ns => insI n (sortI ns)
theorem insI_perm {n : Int} : ∀ {ms : List Int}, (insI n ms).Perm (n :: ms)
  | [] => .refl _
  | m :: ms => by
    unfold insI
    split
    · exact .refl _
    · exact (List.Perm.cons m insI_perm).trans (.swap n m ms)
theorem sortI_perm : ∀ {ns : List Int}, (sortI ns).Perm ns
  | [] => .refl _
  | n :: ns => insI_perm.trans (.cons n sortI_perm)
theorem insI_sorted {n : Int} : ∀ {ms : List Int}, ms.Pairwise (· ≤ ·) → (insI n ms).Pairwise (· ≤ ·)
  | [], _ => List.pairwise_singleton _ _
  | m :: ms, h => by
    have h1 := List.pairwise_cons.1 h
    unfold insI
    split
    · rename_i c
      exact List.pairwise_cons.2 ⟨fun x mx => by
        rcases List.mem_cons.1 mx with rfl | mx
        · exact c
        · exact Int.le_trans c (h1.1 x mx), h⟩
    · rename_i c
      refine List.pairwise_cons.2 ⟨fun x mx => ?_, insI_sorted h1.2⟩
      rcases List.mem_cons.1 ((insI_perm.mem_iff).1 mx) with rfl | mx
      · omega
      · exact h1.1 x mx
theorem sortI_sorted : ∀ {ns : List Int}, (sortI ns).Pairwise (· ≤ ·)
  | [] => .nil
  | _ :: _ => insI_sorted sortI_sorted
theorem sorted_one : ∀ {xs ys : List Int}, xs.Perm ys → xs.Pairwise (· ≤ ·) → ys.Pairwise (· ≤ ·) → xs = ys
  | [], ys, p, _, _ => (List.Perm.nil_eq p)
  | x :: xs, [], p, _, _ => absurd p.symm.nil_eq (by simp)
  | x :: xs, y :: ys, p, sx, sy => by
    have hx := List.pairwise_cons.1 sx
    have hy := List.pairwise_cons.1 sy
    have e : x = y := by
      have m1 : x ∈ y :: ys := p.mem_iff.1 (List.mem_cons_self ..)
      have m2 : y ∈ x :: xs := p.mem_iff.2 (List.mem_cons_self ..)
      have a : x ≤ y := by
        rcases List.mem_cons.1 m2 with q | q
        · omega
        · exact hx.1 y q
      have b : y ≤ x := by
        rcases List.mem_cons.1 m1 with q | q
        · omega
        · exact hy.1 x q
      omega
    subst e
    rw [sorted_one (List.Perm.cons_inv p) hx.2 hy.2]
def gSorted : List W → Option OV
  | [.lst xs] => (intsW xs).bind fun ns => if ns.length < 64 then some (.n (.lst ((sortI ns).map W.int))) else none
  | _ => none
theorem b_sorted : CallS X ci BS (.builtin "sorted") gSorted := by
  refine ⟨_, cr_sorted, fun W' s xs ws ov Q ok cx e h => ?_⟩
  match ws, e with
  | [.lst ys], e =>
    unfold gSorted at e
    dsimp only at e
    cases q : intsW ys with
    | none => rw [q] at e; cases e
    | some bs =>
      rw [q] at e
      dsimp only [Option.bind_some] at e
      by_cases hl : bs.length < 64
      · rw [if_pos hl] at e
        cases e
        obtain ⟨x, rfl, c⟩ := cur1 cx
        obtain ⟨a, vs, rfl, h1, r1⟩ := c.lst ok
        refine ⟨a, bs, rfl, by rw [← intsW_of r1 q]; exact .inl (.inl h1), hl, fun ns' p pp sp hp => ?_⟩
        have z : ns' = sortI bs := sorted_one (pp.trans sortI_perm.symm) sp sortI_sorted
        subst z
        exact ret_lst ok h repsI hp
      · rw [if_neg hl] at e
        cases e
/-! a sign in a text -/
def signs1 (x : Str) : Option Nat := match x.cps.toList with
  | [c] => some c
  | _ => none
theorem signs1_is {x : Str} {c : Nat} (h : signs1 x = some c) : x = ⟨#[c]⟩ := by
  unfold signs1 at h
  split at h
  · rename_i c' q
    cases h
    obtain ⟨cps⟩ := x
    congr 1
    exact Array.toList_inj.1 q
  · cases h
def gInS : W → W → Option OV
  | .str x, .str z => (signs1 x).map fun c => .v (.bl (decide (c ∈ z.cps.toList)))
  | _, _ => none
def gNotInS : W → W → Option OV
  | .str x, .str z => (signs1 x).map fun c => .v (.bl (!decide (c ∈ z.cps.toList)))
  | _, _ => none
theorem o_inS : OpS X ci BS (compareOp .In) gInS := by
  refine ⟨_, op_in_sign, fun W' s x y wx wy ov Q ok cx cy e h => ?_⟩
  cases wx with
  | str a =>
    cases wy with
    | str b =>
      unfold gInS at e
      dsimp only at e
      cases q : signs1 a with
      | none => rw [q] at e; cases e
      | some c =>
        rw [q] at e
        cases e
        have z := signs1_is q
        subst z
        exact ⟨c, b, cx.str, cy.str, ret_same ok h (.bl _)⟩
    | _ => cases e
  | _ => cases e
theorem o_notInS : OpS X ci BS (compareOp .NotIn) gNotInS := by
  refine ⟨_, op_notIn_sign, fun W' s x y wx wy ov Q ok cx cy e h => ?_⟩
  cases wx with
  | str a =>
    cases wy with
    | str b =>
      unfold gNotInS at e
      dsimp only at e
      cases q : signs1 a with
      | none => rw [q] at e; cases e
      | some c =>
        rw [q] at e
        cases e
        have z := signs1_is q
        subst z
        exact ⟨c, b, cx.str, cy.str, ret_same ok h (.bl _)⟩
    | _ => cases e
  | _ => cases e
/-! x.count(y), x.join(ys) -/
def gCount : W → W → Option OV
  | .str x, .str y => some (.v (.int (Txt.count x y)))
  | _, _ => none
def strsW : List W → Option (List Str)
  | [] => some []
  | .str x :: ws => (strsW ws).map fun l => x :: l
  | _ :: _ => none
theorem strsW_of {K : PySem.W.Frag} {G : Hp} : ∀ {vs : List V} {ws : List W} {ns : List Str}, RepVs K ci G vs ws → strsW ws = some ns → vs = ns.map V.str
  | _, _, _, .nil, e => by cases e; rfl
  | v :: vs, w :: ws, ns, .cons r t, e => by
    cases w with
    | str b =>
      unfold strsW at e
      cases q : strsW ws with
      | none => rw [q] at e; cases e
      | some cs =>
        rw [q] at e
        cases e
        cases r
        rw [strsW_of t q]
        rfl
    | _ => cases e
def joinW (x : Str) (ys : List W) : Option OV := (strsW ys).bind fun l => if (l.map (·.length)).sum + l.length * x.length ≤ 16777216 then some (.v (.str (Txt.join x l))) else none
def gJoin : W → W → Option OV
  | .str x, .lst ys => joinW x ys
  | .str x, .tup ys => joinW x ys
  | _, _ => none
/-- o.m(e), o a text -/
def fM1 (g : W → W → Option OV) (fo fe : EF) : EF := fun env => (fo env).bind fun x env => match getOV x env with
  | some (.str a) => (fe env).bind fun y env => retOV ((getOV y env).bind fun wy => g (.str a) wy) env
  | _ => .bad
theorem m1_core {te tf : WX → TE} {gm : W → W → Option OV} {r : V → List V → Hp → VK → Prop}
    (qa : ∀ (W' : WX) (s : Sta) (Q : VK), Ok X.K ci s → Acc X.K ci BS W' s (CE X.K ci s Q) (f s.env) → te W' s.σ s.H Q)
    (qb : ∀ (W' : WX) (s : Sta) (Q : VK), Ok X.K ci s → Acc X.K ci BS W' s (CE X.K ci s Q) (g s.env) → tf W' s.σ s.H Q)
    (qr : ∀ (W' : WX) (s : Sta) (a : Str) (y : V) (wy : W) (ov : OV) (Q : VK), Ok X.K ci s → CurV X.K ci s y wy → gm (.str a) wy = some ov → Acc X.K ci BS W' s (CE X.K ci s Q) (.ok ov s.env) → r (.str a) [y] s.H Q)
    (W' : WX) (s : Sta) (Q : VK) (ok : Ok X.K ci s) (h : Acc X.K ci BS W' s (CE X.K ci s Q) (fM1 gm f g s.env)) : tM1 r (te W') (tf W') s.σ s.H Q := by
  refine qa W' s _ ok (h.bind.imp fun ox env1 G1 H1 st1 ok1 h1 => ?_)
  intro v rep new
  cases e1 : getOV ox env1 with
  | none => dsimp only at h1; rw [e1] at h1; exact h1.elim
  | some w =>
    dsimp only at h1
    rw [e1] at h1
    cases w with
    | str a =>
      have c := (cur_of ok1 rep e1).str
      subst c
      refine ⟨⟨a, rfl⟩, qb W' ⟨env1, s.σ, G1, H1⟩ _ ok1 (Acc.imp (Acc.bind (s := ⟨env1, s.σ, G1, H1⟩) h1) fun oy env2 G2 H2 st2 ok2 h2 => ?_)⟩
      intro u rep2 new2
      cases e2 : getOV oy env2 with
      | none => dsimp only at h2; rw [e2] at h2; exact h2.elim
      | some wy =>
        dsimp only at h2
        rw [e2] at h2
        have h2 : Acc X.K ci BS W' ⟨env2, s.σ, G2, H2⟩ (CE X.K ci s Q) (retOV (gm (.str a) wy) env2) := h2
        cases e3 : gm (.str a) wy with
        | none => rw [e3] at h2; exact h2.elim
        | some ov =>
          rw [e3] at h2
          refine qr W' ⟨env2, s.σ, G2, H2⟩ a u wy ov Q ok2 (cur_of ok2 rep2 e2) e3 (Acc.imp h2 fun ov' env3 G3 H3 st3 ok3 h3 z rz nz => h3 z rz (NewOV.back (Step.trans st1 st2) nz))
    | _ => exact h1.elim
theorem x_count {apos pos : Pos} (ho : SndE X ci BS e f) (he : SndE X ci BS e2 g) (hs : starEach [e2] X.env = [(false, eval e2 X.env)] := by rfl) (hbase : attributeBase e "count" X.env (eval e X.env) = eval e X.env := by rfl) (hline : (apos.endLine == pos.line) = true := by rfl) :
    SndE X ci BS (.Call (.Attribute e "count" apos) [e2] [] pos) (fM1 gCount f g) := by
  obtain ⟨ta, pa, qa⟩ := ho.ex
  obtain ⟨tb, pb, qb⟩ := he.ex
  refine ⟨⟨fun W' => tM1 _ (ta W') (tb W'), fun W' tk => pe_m1 F.slot_str_count F.type_str_count mt_count (pa W' tk) (pb W' tk) hs hbase hline, fun W' s Q ok h => m1_core qa qb (fun W' s a y wy ov Q ok cy e h => ?_) W' s Q ok h⟩⟩
  cases wy with
  | str b =>
    cases e
    exact ⟨a, b, rfl, by rw [cy.str], ret_same ok h (.int _)⟩
  | _ => cases e
theorem x_join {apos pos : Pos} (ho : SndE X ci BS e f) (he : SndE X ci BS e2 g) (hs : starEach [e2] X.env = [(false, eval e2 X.env)] := by rfl) (hbase : attributeBase e "join" X.env (eval e X.env) = eval e X.env := by rfl) (hline : (apos.endLine == pos.line) = true := by rfl) :
    SndE X ci BS (.Call (.Attribute e "join" apos) [e2] [] pos) (fM1 gJoin f g) := by
  obtain ⟨ta, pa, qa⟩ := ho.ex
  obtain ⟨tb, pb, qb⟩ := he.ex
  refine ⟨⟨fun W' => tM1 _ (ta W') (tb W'), fun W' tk => pe_m1 F.slot_str_join F.type_str_join mt_join (pa W' tk) (pb W' tk) hs hbase hline, fun W' s Q ok h => m1_core qa qb (fun W' s a y wy ov Q ok cy e h => ?_) W' s Q ok h⟩⟩
  have fin : ∀ {ys : List W} {p : Addr} {vs : List V}, joinW a ys = some ov → RepVs X.K ci s.G vs ys → (SqL X.K s.H p vs ∨ SqT X.K s.H p vs) → y = .ref p →
      ∃ a' p, ∃ ys : List Str, (V.str a) = .str a' ∧ [y] = [V.ref p] ∧ (SqL X.K s.H p (ys.map V.str) ∨ SqT X.K s.H p (ys.map V.str)) ∧ (ys.map (·.length)).sum + ys.length * a'.length ≤ 16777216 ∧ Q (.str (Txt.join a' ys)) s.H := by
    intro ys p vs e r hp ey
    subst ey
    unfold joinW at e
    cases q : strsW ys with
    | none => rw [q] at e; cases e
    | some l =>
      rw [q] at e
      dsimp only [Option.bind_some] at e
      split at e
      · rename_i hl
        cases e
        have z := strsW_of r q
        subst z
        exact ⟨a, p, l, rfl, rfl, hp, hl, ret_same ok h (.str _)⟩
      · cases e
  cases wy with
  | lst ys =>
    obtain ⟨p, vs, rfl, h1, r1⟩ := cy.lst ok
    exact fin e r1 (.inl (.inl (.inl h1))) rfl
  | tup ys =>
    obtain ⟨p, vs, rfl, h1, r1⟩ := cy.tup ok
    exact fin e r1 (.inr h1) rfl
  | _ => cases e
end
end BV

set_option maxRecDepth 100000
set_option maxHeartbeats 4000000
/-! BV: a comprehension that makes a dict whose keys are tuples. -/
namespace L2
open PySem PySem.Spec PyProof.Rows
/-- D[key] = value within the comprehension, the key a tuple at b -/
theorem dT_set {X : Cx} {pins : List (Addr × Obj)} {σ : St} {H : Hp} {s : Shared} {A : Around} {E : Value → Shared → Prop} {D b : Addr} {kvs : List (List Key × V)} {k : List Key} {v : V} {r : Value} {Q : Unit → Shared → Prop}
    (hu : (tupleKind (mixKind X.prog X.w)).room A) (I : Inv X pins σ H s) (hD : H D = some (.dT kvs)) (hb : H b = some (.tup (k.map kV))) (hz : kvs.length < sizeLine) (rv : RelV v r)
    (h : ∀ s', Inv X pins σ (upd H D (.dT (putK kvs k v))) s' → Q () s') : wpAny (model X.prog X.w) A (dictSet D (.ref b) r) Q E s := by
  obtain ⟨z, hd, xs, rel, dd⟩ := dt_of I.hok hD
  have z1 : xs.length ≤ sizeLine := by
    rw [← Paired.length rel]
    exact z
  have z2 : (putK kvs k v).length ≤ sizeLine := by
    have := length_putK kvs k v
    omega
  refine wpAny_dictSet_heap (hsz := z1) hu (key_of I.hok hb) dd fun h1 dd1 sb => h _ ?_
  obtain ⟨o, es, ep, g1, g2, g3, g4, _, g5⟩ := dd1
  have keep : ∀ c ys, H c = some (.tup ys) → upd H D (.dT (putK kvs k v)) c = some (.tup ys) := fun c ys e => by
    rw [upd_ne (ne_of e hD (fun z => nomatch z))]
    exact e
  exact d_write I (by rw [hD]; exact True.intro) sb ⟨o, g1⟩ ⟨z2, hd, _, (rel.put k hb rv).keeps keep, o, es, ep, g1, g2, g3, g4, g5⟩
/-- {k: v for target in iter if ..}, keys tuples: D the new dict -/
def tDcT (wi : TI) (g : TG) (tt : TT) (tk tv : TE) (vs : List Nat) : TE := fun σ H Q => wi σ H fun J H1 => ∀ D, H1 D = none →
  ∃ W : Nat → Nat → Hp → Prop, (∃ m, W 0 m (upd H1 D (.dT []))) ∧ ∀ i m H, W i m H →
    (J.stop i H ∧ Q (.ref D) H) ∨ (J.go i H ∧ ∃ Nx : Hp → Prop, (∀ H', Nx H' → ∃ m', m' < m ∧ W (i + 1) m' H') ∧
      ∀ x H', J.yld i H x H' → g x (wipe σ vs) H' fun σ2 H2 => wipe σ2 vs = wipe σ vs ∧ tt σ2 H2 fun b H3 =>
        if b = true then tk σ2 H3 fun y H4 => tv σ2 H4 fun z H5 => ∃ kvs k c, y = .ref c ∧ H5 c = some (.tup (k.map kV)) ∧ H5 D = some (.dT kvs) ∧ kvs.length < sizeLine ∧ Nx (upd H5 D (.dT (putK kvs k z)))
        else Nx H3)
section
variable {X : Cx} {kx vx tg iter : Expr} {ifs : List Expr} {scope : Scope} {own : List (Str × Nat)} {pos : Pos} {wi : TI} {g : TG} {tt : TT} {tk tv : TE}
theorem dcT_core {pins : List (Addr × Obj)} {s : Shared} {σ : St} {H : Hp} {Q : VK} {pos' : Pos} {use : Option (Value → Sem Unit)} {Qf : Value → Shared → Prop}
    (hc : X.calm = true) (hu : (tupleKind (mixKind X.prog X.w)).room X.A) (hN : X.N.Nodup) (I : Inv X pins σ H s) (hi : PI X tg iter wi) (ok : BlkOk X.N X.env.scope scope own)
    (hg : ∀ s H C cl fp, PG (X.blk s H scope (compEnvC scope cl C X.env) fp) tg g)
    (ht : ∀ s H C cl fp, PTs (X.blk s H scope (compEnvC scope cl C X.env) fp) ifs tt)
    (hk : ∀ s H C cl fp, PE (X.blk s H scope (compEnvC scope cl C X.env) fp) kx tk)
    (he : ∀ s H C cl fp, PE (X.blk s H scope (compEnvC scope cl C X.env) fp) vx tv)
    (hs : ∀ x, foldedSetIterable iter X.env x = pure x) (h : tDcT wi g tt tk tv (own.map (·.2)) σ H Q)
    (out : ∀ D C s' m H', Inv X pins σ H' s' → Q (.ref D) H' → s'.heap.Ns C m → FpOk X pins H' C → compPost (model X.prog X.w) X.A X.xe use Qf (.ref D) C (.ok .next) s') :
    wpAny (model X.prog X.w) X.A (comprehension (.DictComp kx vx [⟨tg, iter, ifs, 0⟩] scope pos) scope X.env pos' newDict false (eval iter X.env) use) Qf X.xe s := by
  have cellsAt : ∀ y ∈ scope.names, y.2 = .free → ∃ c, X.env.cells.lookup y.1 = some c := fun y hy e =>
    (ok.free y hy e).elim (fun k => I.ok.has _ (.inl k)) fun k => I.ok.has _ (.inr k)
  refine wpAny_comprehension_free (use := use) rfl hs (closure_ok cellsAt) ok.kind (fun y hy e => by rw [ok.uniq y hy, e]) (thn (hi.run pins s σ H _ I h) fun _ s1 h1 => thn h1 fun itv s2 h2 => ?_)
  obtain ⟨it, fps, tn, J, H2, rfl, I2, T, st2, fresh2, q⟩ := h2
  refine wpAny_newObj_type (newEnv_comp ?_)
  obtain ⟨D, hD⟩ : ∃ D, s2.heap.objs.size = D := ⟨_, rfl⟩
  rw [hD]
  have freeD : H2 D = none := I2.hok.fresh (Nat.le_of_eq hD)
  obtain ⟨W, ⟨m0, w0⟩, turn⟩ := q D freeD
  obtain ⟨s3, hs3⟩ : ∃ s3 : Shared, { s2 with heap := s2.heap.push { cls := .type "dict", data := .dict #[] } } = s3 := ⟨_, rfl⟩
  have heap3 : s3.heap = s2.heap.push { cls := .type "dict", data := .dict #[] } := by rw [← hs3]
  obtain ⟨H3, hH3⟩ : ∃ H3, upd H2 D (.dT []) = H3 := ⟨_, rfl⟩
  have I3 : Inv X pins σ H3 s3 := by
    rw [← hs3, ← hH3]
    refine I2.laid (t' := s2.toks) (fun b o e => Heap.get?_push_of_some _ e) (Nat.le_of_eq hD) ?_
    rw [← hD]
    exact dt_empty s2.heap I2.big
  have below : ∀ b ∈ fps, b < s2.heap.objs.size := fun b hb => by
    obtain ⟨o, e, _⟩ := T.obj _ _ st2 b hb
    exact Heap.lt_size e
  have fresh3 : ∀ b ∈ fps, FpOk X pins H3 b ∧ b < s3.heap.objs.size := fun b hb => by
    have lt := below b hb
    constructor
    · refine ⟨?_, (fresh2 b hb).2⟩
      rw [← hH3, upd_ne (by rw [← hD]; exact Nat.ne_of_lt lt)]
      exact (fresh2 b hb).1
    · rw [heap3, Heap.size_push]
      exact Nat.lt_succ_of_lt lt
  have st3 : tn 0 s3.heap := T.keep _ _ _ st2 fun b _ o e => by
    rw [heap3]
    exact Heap.get?_push_of_some _ e
  have I4 := block_start I3 ok hN fresh3
  obtain ⟨cl, hcl⟩ : ∃ cl, cellsFrom (s3.heap.objs.size + 1) scope.names (cloFrom X.env.cells scope.names []) = cl := ⟨_, rfl⟩
  rw [hs3, hcl]
  rw [hcl] at I4
  have pg := hg s3 H3 s3.heap.objs.size cl fps
  have pt := ht s3 H3 s3.heap.objs.size cl fps
  have pk := hk s3 H3 s3.heap.objs.size cl fps
  have pv := he s3 H3 s3.heap.objs.size cl fps
  obtain ⟨ce, hce⟩ : ∃ ce, compEnvC scope cl s3.heap.objs.size X.env = ce := ⟨_, rfl⟩
  have locals : ce.locals = s3.heap.objs.size := by subst hce; rfl
  show codeAny _ _ (.compStart (.DictComp kx vx [⟨tg, iter, ifs, 0⟩] scope pos) 0 (.ref it) (.ref D) (compEnvC scope cl s3.heap.objs.size X.env)) _ _
  rw [hce] at I4 pg pt pk pv ⊢
  obtain ⟨s4, hs4⟩ : ∃ s4 : Shared, { s3 with heap := pushCells (s3.heap.push { cls := .type "dict", data := .dict #[] }) scope.names } = s4 := ⟨_, rfl⟩
  rw [hs4] at I4 ⊢
  rw [hH3] at w0
  have st4 : tn 0 s4.heap := T.keep _ _ _ st3 fun b _ o e => by
    rw [← hs4]
    exact pushCells_keeps _ _ _ _ (Heap.get?_push_of_some _ e)
  have none3 : ∀ b ∈ fps, H3 b = none := fun b hb => (fresh3 b hb).1.1
  have stat : ∀ {σ' : St} {H' : Hp} {s' : Shared}, Inv (X.blk s3 H3 scope ce fps) [] σ' H' s' → (∀ b ∈ fps, H' b = none) → ∀ b ∈ fps, FpOk (X.blk s3 H3 scope ce fps) [] H' b := fun {_ _ _} I' hn b hb =>
    ⟨hn b hb, (I'.ok.exf b hb).1, I'.ok.exfs b hb, .inl hb, fun x c e => (I'.ok.exf b hb).2 x c e, fun p hp => absurd (show p ∈ ([] : List (Addr × Obj)) ++ [] from hp) (by simp)⟩
  have loop : codeAny (model X.prog X.w) X.A (.compLoop (.DictComp kx vx [⟨tg, iter, ifs, 0⟩] scope pos) 0 (.ref it) (.ref D) ce) (compPost (model X.prog X.w) X.A X.xe use Qf (.ref D) s3.heap.objs.size) s4 := by
    refine compLoop_anyD (fun n s' => ∃ i H', Inv (X.blk s3 H3 scope ce fps) [] (wipe σ (own.map (·.2))) H' s' ∧ tn i s'.heap ∧ (∀ b ∈ fps, H' b = none) ∧ W i n H') ?_ m0 ⟨0, H3, I4, st4, none3, w0⟩
    intro n s5 a5
    obtain ⟨i, H5, I5, st5, n5, w5⟩ := a5
    rcases turn i n H5 w5 with ⟨stop, qq⟩ | ⟨go, Nx, hNx, step⟩
    · refine thnF (T.done (X.blk s3 H3 scope ce fps) rfl rfl rfl hc i [] s5 _ H5 (fun _ _ => False) I5 (stat I5 n5) st5 stop) fun r s6 ⟨hr, I6⟩ => ?_
      subst hr
      have I7 : Inv X pins σ H5 s6 := I3.call' (ch := fps) I6.os I6.base I6.hok I6.bare fun b hb => by
        have z := (fresh3 b hb).1.2
        exact ⟨z.2.2.1, z.1, z.2.2.2.1, z.2.2.2.2⟩
      have nC : H5 s3.heap.objs.size = none := by
        have z : H5 ce.locals = none := I6.free
        rwa [locals] at z
      obtain ⟨m, ns, _⟩ := I6.loc
      have ns : s6.heap.Ns ce.locals m := ns
      rw [locals] at ns
      exact out D s3.heap.objs.size s6 m H5 I7 qq ns (I3.fpOk (Nat.le_refl _) nC)
    · refine thnF (T.item (X.blk s3 H3 scope ce fps) rfl rfl rfl hc i [] s5 _ H5 (fun _ _ => False) I5 (stat I5 n5) st5 go) fun r s6 ⟨u, hr, h6⟩ => ?_
      subst hr
      refine thnF h6 fun _ s7 ⟨x, H7, I7, r7, y7, st7, n7⟩ => ?_
      refine thnF (pg.run _ s7 _ H7 x u _ (I7.pinned (stat I7 n7) (T.obj _ _ st7)) r7 (step x H7 y7)) fun _ s8 ⟨σ8, H8, I8, same8, q8⟩ => ?_
      refine thnF (pt.run _ s8 σ8 H8 _ I8 q8) fun b s9 ⟨H9, I9, q9⟩ => ?_
      have len8 : (wipe σ (own.map (·.2))).length = σ8.length := by rw [← same8, wipe_length]
      have ends : ∀ {s' : Shared} {H' : Hp}, Inv (X.blk s3 H3 scope ce fps) ([] ++ pinsAt fps s7.heap) σ8 H' s' → Nx H' →
          ∃ m, m < n ∧ ∃ i H', Inv (X.blk s3 H3 scope ce fps) [] (wipe σ (own.map (·.2))) H' s' ∧ tn i s'.heap ∧ (∀ b ∈ fps, H' b = none) ∧ W i m H' := fun {s' H'} I' nx => by
        obtain ⟨m', lt, w'⟩ := hNx H' nx
        have pin : ∀ b ∈ fps, ∀ o, s7.heap.get? b = some o → s'.heap.get? b = some o ∧ H' b = none := fun b hb o e => by
          have z := I'.pin (b, o) (List.mem_append_right _ (List.mem_append_right _ (mem_pinsAt hb e)))
          exact ⟨z.1, z.2.1⟩
        refine ⟨m', lt, i + 1, H', (I'.unpinned (pins := [])).weak len8 (fun j v e => ?_), T.keep _ _ _ st7 fun b hb o e => (pin b hb o e).1, fun b hb => ?_, w'⟩
        · rw [← same8] at e
          exact (wipe_some e).1
        · obtain ⟨o, e, _⟩ := T.obj _ _ st7 b hb
          exact (pin b hb o e).2
      cases b with
      | false => exact ends I9 q9
      | true =>
        refine thnF (pk.run _ s9 σ8 H9 _ I9 q9) fun kv s10 ⟨yk, H10, I10, r10, q10⟩ => ?_
        refine thnF (pv.run _ s10 σ8 H10 _ I10 q10) fun vv s11 ⟨yv, H11, I11, r11, kvs, k, c, ek, hc11, hD11, hz11, nx⟩ => ?_
        subst ek
        cases (show kv = Value.ref c from r10)
        exact dT_set (X := X.blk s3 H3 scope ce fps) hu I11 hD11 hc11 hz11 r11 fun s12 I12 => ends I12 nx
  exact codeAny_compStart_dict loop (T.self X.A 0 _ _ _ st4 loop)
/-- the same as a value -/
theorem pe_dcT (hc : X.calm = true) (hu : (tupleKind (mixKind X.prog X.w)).room X.A) (hN : X.N.Nodup) (hi : PI X tg iter wi) (ok : BlkOk X.N X.env.scope scope own)
    (hg : ∀ s H C cl fp, PG (X.blk s H scope (compEnvC scope cl C X.env) fp) tg g)
    (ht : ∀ s H C cl fp, PTs (X.blk s H scope (compEnvC scope cl C X.env) fp) ifs tt)
    (hk : ∀ s H C cl fp, PE (X.blk s H scope (compEnvC scope cl C X.env) fp) kx tk)
    (he : ∀ s H C cl fp, PE (X.blk s H scope (compEnvC scope cl C X.env) fp) vx tv)
    (hs : ∀ x, foldedSetIterable iter X.env x = pure x := by intro _; rfl) :
    PE X (.DictComp kx vx [⟨tg, iter, ifs, 0⟩] scope pos) (tDcT wi g tt tk tv (own.map (·.2))) := by
  refine ⟨fun pins s σ H Q I h => ?_⟩
  rw [arm_eval_DictComp]
  refine dcT_core hc hu hN I hi ok hg ht hk he hs h fun D C s1 m H1 J q ns fr => ⟨m, ns, fun h2 sb => ?_⟩
  obtain ⟨f0, f1, f2, f3, f4, f5⟩ := fr
  exact ⟨.ref D, H1, J.turned (t' := s1.toks) (fun b o hb e => (sb.2 b hb).trans e) f0 f1 f3 f4 f5, rfl, q⟩
/-- x = {k: v for ..} -/
theorem ps_setDcT {i : Nat} {y : Str} {py spos : Pos} (hc : X.calm = true) (hu : (tupleKind (mixKind X.prog X.w)).room X.A) (hN : X.N.Nodup) (hy : X.N[i]? = some y) (hyl : X.env.scope.names.lookup y = some .local)
    (hsw : swapsWith (.DictComp kx vx [⟨tg, iter, ifs, 0⟩] scope pos) (some (.Name y py)) spos.line X.env = pure true) (hi : PI X tg iter wi) (ok : BlkOk X.N X.env.scope scope own)
    (hg : ∀ s H C cl fp, PG (X.blk s H scope (compEnvC scope cl C X.env) fp) tg g)
    (ht : ∀ s H C cl fp, PTs (X.blk s H scope (compEnvC scope cl C X.env) fp) ifs tt)
    (hk : ∀ s H C cl fp, PE (X.blk s H scope (compEnvC scope cl C X.env) fp) kx tk)
    (he : ∀ s H C cl fp, PE (X.blk s H scope (compEnvC scope cl C X.env) fp) vx tv)
    (hs : ∀ x, foldedSetIterable iter X.env x = pure x := by intro _; rfl) :
    PS X (.Assign [.Name y py] (.DictComp kx vx [⟨tg, iter, ifs, 0⟩] scope pos) spos) (tAsg (tDcT wi g tt tk tv (own.map (·.2))) (gName i)) := by
  refine ⟨fun pins s σ H D I h => ?_⟩
  rw [exec_Assign_Name_used _ _ _ _ hsw]
  refine wpAny_bind (wpAny_standAt (wpAny_bind ?_))
  have h : tDcT wi g tt tk tv (own.map (·.2)) σ H (fun x H1 => gName i x σ H1 D.nx) := h
  show wpAny _ X.A (do let _ ← comprehension (.DictComp kx vx [⟨tg, iter, ifs, 0⟩] scope pos) scope X.env (firstIterPos [⟨tg, iter, ifs, 0⟩] pos) newDict false (eval iter X.env) (some (assign (.Name y py) X.env))) _ _ s
  refine wpAny_bind (thn (dcT_core (Qf := fun _ s' => SP X pins D .next s') hc hu hN I hi ok hg ht hk he hs h fun L C s' m H' J q hn f => ?_) fun _ s' hq => wpAny_pure (wpAny_pure hq))
  obtain ⟨f0, f1, f2, f3, f4, f5⟩ := f
  show wpAny _ _ (assign (.Name y py) X.env (.ref L)) _ _ _
  refine wpAny_assign_Name (store_ok2 (v := V.ref L) J hN hy (.inl hyl) rfl (fun s2 J2 ⟨a, sb, ha⟩ => ?_) (.inr hyl))
  have other : C ≠ a := by
    rcases ha with z | z
    · rw [z]
      exact f1
    · intro e
      exact f4 y a z e.symm
  exact ⟨m, hn.sameBut sb other, fun h3 sb3 => ⟨_, H', J2.turned (t' := s2.toks) (fun b o hb e => (sb3.2 b hb).trans e) f0 f1 f3 f4 f5, q⟩⟩
end
end L2

set_option maxRecDepth 100000
set_option maxHeartbeats 4000000
/-! BV: dicts whose keys are tuples, by value. -/
namespace BV
open PySem PySem.Spec PyProof.Rows L2
def keyA : W → Option Key
  | .int i => some (.inl i)
  | .str x => some (.inr x)
  | _ => none
def keysA : List W → Option (List Key)
  | [] => some []
  | w :: ws => match keyA w, keysA ws with
    | some k, some ks => some (k :: ks)
    | _, _ => none
def keyT : W → Option (List Key)
  | .tup ws => keysA ws
  | _ => none
theorem keyA_kW : ∀ {k : Key}, keyA (kW k) = some k
  | .inl _ => rfl
  | .inr _ => rfl
theorem keysA_kW : ∀ {ks : List Key}, keysA (ks.map kW) = some ks
  | [] => rfl
  | k :: ks => by
    show (match keyA (kW k), keysA (ks.map kW) with | some k, some ks => some (k :: ks) | _, _ => none) = _
    rw [keyA_kW, keysA_kW]
def lookT (kvs : List (W × W)) (ks : List Key) : Option W := (kvs.find? fun p => decide (keyT p.1 = some ks)).map (·.2)
def putT (kvs : List (W × W)) (ks : List Key) (v : W) : List (W × W) :=
  if (kvs.any fun p => decide (keyT p.1 = some ks)) = true then kvs.map (fun p => if keyT p.1 = some ks then (p.1, v) else p) else kvs ++ [(.tup (ks.map kW), v)]
section
variable {K : PySem.W.Frag} {ci : Nat → Addr} {G : Hp}
theorem keysA_rep : ∀ {vs : List V} {ws : List W} {ks : List Key}, RepVs K ci G vs ws → keysA ws = some ks → vs = ks.map kV ∧ ws = ks.map kW
  | _, _, _, .nil, e => by cases e; exact ⟨rfl, rfl⟩
  | v :: vs, w :: ws, ks, .cons r t, e => by
    unfold keysA at e
    cases q : keyA w with
    | none => rw [q] at e; cases e
    | some k =>
      rw [q] at e
      cases q2 : keysA ws with
      | none => rw [q2] at e; cases e
      | some ks' =>
        rw [q2] at e
        cases e
        obtain ⟨e1, e2⟩ := keysA_rep t q2
        cases w with
        | int i =>
          cases r
          cases q
          rw [e1, e2]
          exact ⟨rfl, rfl⟩
        | str x =>
          cases r
          cases q
          rw [e1, e2]
          exact ⟨rfl, rfl⟩
        | _ => cases q
theorem ts_get {ks : List Key} : ∀ {kvs : List (List Key × V)} {ws : List (W × W)}, RepTs K ci G kvs ws → (valV kvs ks = none ∧ lookT ws ks = none) ∨ ∃ v w, valV kvs ks = some v ∧ lookT ws ks = some w ∧ RepV K ci G v w
  | _, _, .nil => .inl ⟨rfl, rfl⟩
  | _, _, @RepTs.cons _ _ _ k v w kvs ws h r => by
    have kk : keyT (.tup (k.map kW)) = some k := keysA_kW
    by_cases c : k = ks
    · refine .inr ⟨v, w, ?_, ?_, h⟩
      · exact valV_pos (p := (k, v)) c
      · show Option.map _ (List.find? _ _) = _
        have z : decide (keyT (W.tup (k.map kW)) = some ks) = true := by rw [kk, c]; simp
        rw [List.find?_cons, z]
        rfl
    · have e1 : valV ((k, v) :: kvs) ks = valV kvs ks := valV_neg c
      have e2 : lookT ((.tup (k.map kW), w) :: ws) ks = lookT ws ks := by
        show Option.map _ (List.find? _ _) = _
        rw [List.find?_cons_of_neg (by simp [kk, c])]
        rfl
      rw [e1, e2]
      exact ts_get r
theorem ts_len : ∀ {kvs : List (List Key × V)} {ws : List (W × W)}, RepTs K ci G kvs ws → kvs.length = ws.length
  | _, _, .nil => rfl
  | _, _, .cons h r => by rw [List.length_cons, List.length_cons, ts_len r]
theorem ts_any {ks : List Key} : ∀ {kvs : List (List Key × V)} {ws : List (W × W)}, RepTs K ci G kvs ws → (kvs.any fun p => decide (p.1 = ks)) = ws.any fun p => decide (keyT p.1 = some ks)
  | _, _, .nil => rfl
  | _, _, @RepTs.cons _ _ _ k v w kvs ws h r => by
    have kk : keyT (.tup (k.map kW)) = some k := keysA_kW
    rw [List.any_cons, List.any_cons, ts_any r]
    simp [kk]
theorem ts_over {ks : List Key} {v : V} {w : W} (h0 : RepV K ci G v w) : ∀ {kvs : List (List Key × V)} {ws : List (W × W)}, RepTs K ci G kvs ws →
    RepTs K ci G (kvs.map fun p => if p.1 = ks then (p.1, v) else p) (ws.map fun p => if keyT p.1 = some ks then (p.1, w) else p)
  | _, _, .nil => .nil
  | _, _, @RepTs.cons _ _ _ k v' w' kvs ws h r => by
    have kk : keyT (.tup (k.map kW)) = some k := keysA_kW
    rw [List.map_cons, List.map_cons]
    by_cases c : k = ks
    · rw [if_pos c, if_pos (show keyT (.tup (k.map kW)) = some ks by rw [kk, c])]
      exact .cons h0 (ts_over h0 r)
    · rw [if_neg c, if_neg (show ¬ keyT (.tup (k.map kW)) = some ks by rw [kk]; exact fun z => c (Option.some.inj z))]
      exact .cons h (ts_over h0 r)
theorem ts_snoc {ks : List Key} {v : V} {w : W} (h0 : RepV K ci G v w) : ∀ {kvs : List (List Key × V)} {ws : List (W × W)}, RepTs K ci G kvs ws → RepTs K ci G (kvs ++ [(ks, v)]) (ws ++ [(.tup (ks.map kW), w)])
  | _, _, .nil => .cons h0 .nil
  | _, _, .cons h r => .cons h (ts_snoc h0 r)
theorem ts_put {ks : List Key} {v : V} {w : W} (h0 : RepV K ci G v w) {kvs : List (List Key × V)} {ws : List (W × W)} (r : RepTs K ci G kvs ws) : RepTs K ci G (putK kvs ks v) (putT ws ks w) := by
  unfold putK putT
  rw [ts_any r]
  split
  · exact ts_over h0 r
  · exact ts_snoc h0 r
/-- what stands at the key of tuples -/
def isTd : List (W × W) → Bool
  | (.tup _, _) :: _ => true
  | _ => false
theorem CurV.dT {BS : List Nat} {s : Sta} {v : V} {ws : List (W × W)} (ok : Ok K ci s) (h : CurV K ci s v (.dct ws)) (ht : isTd ws = true) : ∃ a kvs, v = .ref a ∧ s.H a = some (.dT kvs) ∧ RepTs K ci s.G kvs ws := by
  have no : ∀ {kvs : List (Key × V)}, RepKs K ci s.G kvs ws → False := fun {kvs} r => by
    cases r with
    | nil => cases ht
    | @cons k v w _ _ h r =>
      cases k with
      | inl i => cases ht
      | inr x => cases ht
  rcases h with h | ⟨a, e, h⟩
  · cases h with
    | dK h r => exact (no r).elim
    | dT h r => exact ⟨_, _, rfl, ok.sub _ _ h, r⟩
  · cases h with
    | dK h r => exact (no r).elim
    | dT h r => exact ⟨a, _, e, h, r⟩
theorem CurV.key {s : Sta} {v : V} {w : W} {ks : List Key} (ok : Ok K ci s) (h : CurV K ci s v w) (e : keyT w = some ks) : ∃ b, v = .ref b ∧ s.H b = some (.tup (ks.map kV)) := by
  cases w with
  | tup ws =>
    rcases h with h | ⟨_, _, h⟩
    · cases h with
      | @tup a vs _ h r =>
        have z := (keysA_rep r e).1
        subst z
        exact ⟨_, rfl, ok.sub _ _ h⟩
    · cases h
  | _ => cases e
end
/-! key in d, d[key] -/
def gInT : W → W → Option OV
  | w, .dct kvs => if isTd kvs then (keyT w).map fun ks => .v (.bl (lookT kvs ks).isSome) else none
  | _, _ => none
def gNotInT : W → W → Option OV
  | w, .dct kvs => if isTd kvs then (keyT w).map fun ks => .v (.bl (!(lookT kvs ks).isSome)) else none
  | _, _ => none
def gIxT : W → W → Option OV
  | .dct kvs, w => if isTd kvs then (keyT w).bind fun ks => (lookT kvs ks).map .v else none
  | _, _ => none
section
variable {X : Cx} {ci : Nat → Addr} {BS : List Nat} {e e2 : Expr} {f g : EF} {pos : Pos}
theorem op_inT (hu : X.A.units + 1 < cLine) : OpR X (compareOp .In) (fun x y H Q => ∃ d o, y = .ref d ∧ DGet H d x o ∧ Q (.bl o.isSome) H) := by
  intro pins s σ H x y v u Q I rx ry h
  obtain ⟨d, o, rfl, g, q⟩ := h
  cases ry
  exact d_in hu I g rx fun s' I' => ⟨.bl o.isSome, _, I', rfl, q⟩
theorem op_notInT (hu : X.A.units + 1 < cLine) : OpR X (compareOp .NotIn) (fun x y H Q => ∃ d o, y = .ref d ∧ DGet H d x o ∧ Q (.bl (!o.isSome)) H) := by
  intro pins s σ H x y v u Q I rx ry h
  obtain ⟨d, o, rfl, g, q⟩ := h
  cases ry
  exact d_notIn hu I g rx fun s' I' => ⟨.bl (!o.isSome), _, I', rfl, q⟩
theorem o_inT (hu : X.A.units + 1 < cLine) : OpS X ci BS (compareOp .In) gInT := by
  refine ⟨_, op_inT hu, fun W' s x y wx wy ov Q ok cx cy e h => ?_⟩
  cases wy with
  | dct kvs =>
    unfold gInT at e
    dsimp only at e
    by_cases ht : isTd kvs = true
    · rw [if_pos ht] at e
      cases q : keyT wx with
      | none => rw [q] at e; cases e
      | some ks =>
        rw [q] at e
        cases e
        have h : Acc X.K ci BS W' s (CE X.K ci s Q) (.ok (.v (.bl (lookT kvs ks).isSome)) s.env) := h
        obtain ⟨d, tvs, rfl, h1, r⟩ := CurV.dT (BS := BS) ok cy ht
        obtain ⟨b, rfl, h2⟩ := cx.key ok q
        refine ⟨d, _, rfl, DGet.t h1 h2, ?_⟩
        rcases ts_get (ks := ks) r with ⟨e1, e2⟩ | ⟨v, w, e1, e2, _⟩
        · rw [e1]
          rw [e2] at h
          exact ret_same ok h (.bl _)
        · rw [e1]
          rw [e2] at h
          exact ret_same ok h (.bl _)
    · rw [if_neg ht] at e
      cases e
  | _ => cases e
theorem o_notInT (hu : X.A.units + 1 < cLine) : OpS X ci BS (compareOp .NotIn) gNotInT := by
  refine ⟨_, op_notInT hu, fun W' s x y wx wy ov Q ok cx cy e h => ?_⟩
  cases wy with
  | dct kvs =>
    unfold gNotInT at e
    dsimp only at e
    by_cases ht : isTd kvs = true
    · rw [if_pos ht] at e
      cases q : keyT wx with
      | none => rw [q] at e; cases e
      | some ks =>
        rw [q] at e
        cases e
        have h : Acc X.K ci BS W' s (CE X.K ci s Q) (.ok (.v (.bl (!(lookT kvs ks).isSome))) s.env) := h
        obtain ⟨d, tvs, rfl, h1, r⟩ := CurV.dT (BS := BS) ok cy ht
        obtain ⟨b, rfl, h2⟩ := cx.key ok q
        refine ⟨d, _, rfl, DGet.t h1 h2, ?_⟩
        rcases ts_get (ks := ks) r with ⟨e1, e2⟩ | ⟨v, w, e1, e2, _⟩
        · rw [e1]
          rw [e2] at h
          exact ret_same ok h (.bl _)
        · rw [e1]
          rw [e2] at h
          exact ret_same ok h (.bl _)
    · rw [if_neg ht] at e
      cases e
  | _ => cases e
/-- d[key] -/
theorem x_ixT (hu : X.A.units + 1 < cLine) (he : SndE X ci BS e f) (hi : SndE X ci BS e2 g) (hs : NoSl e2) : SndE X ci BS (.Subscript e e2 pos) (fOp gIxT f g) := by
  obtain ⟨ta, pa, qa⟩ := he.ex
  obtain ⟨tb, pb, qb⟩ := hi.ex
  refine ⟨⟨fun W' => tDGet (ta W') (tb W'), fun W' tk => pe_dget hu (pa W' tk) (pb W' tk) hs, fun W' s Q ok h => op_core (r := fun x y H Q => ∃ a v, x = .ref a ∧ DGet H a y (some v) ∧ Q v H) qa qb (fun W' s x y wx wy ov Q ok cx cy e h => ?_) W' s Q ok h⟩⟩
  cases wx with
  | dct kvs =>
    unfold gIxT at e
    dsimp only at e
    by_cases ht : isTd kvs = true
    · rw [if_pos ht] at e
      cases q : keyT wy with
      | none => rw [q] at e; cases e
      | some ks =>
        rw [q] at e
        obtain ⟨d, tvs, rfl, h1, r⟩ := CurV.dT (BS := BS) ok cx ht
        obtain ⟨b, rfl, h2⟩ := cy.key ok q
        dsimp only [Option.bind_some] at e
        rcases ts_get (ks := ks) r with ⟨e1, e2⟩ | ⟨v, w, e1, e2, rv⟩
        · rw [e2] at e
          cases e
        · rw [e2] at e
          cases e
          exact ⟨d, v, rfl, by rw [← e1]; exact DGet.t h1 h2, ret_same ok h rv⟩
    · rw [if_neg ht] at e
      cases e
  | _ => cases e
end
/-! {k: v for t in it if c} -/
def compDT (t : Tg) (c : TF) (ek ev : EF) (vs : List Nat) : List W → List (W × W) → Ev → Res (List (W × W))
  | [], acc, env => .ok acc env
  | w :: ws, acc, env => match bindT t w (wipeE env vs) with
    | none => .bad
    | some env2 => match c env2 with
      | .ok true env3 => (match fE ek env3 with
        | .ok (.v k) env4 => (match fE ev env4 with
          | .ok (.v y) env5 => (match keyT k with
            | some ks => if acc.length < 16777216 then compDT t c ek ev vs ws (putT acc ks y) (restE env env5 vs) else .bad
            | none => .bad)
          | _ => .bad)
        | _ => .bad)
      | .ok false env3 => compDT t c ek ev vs ws acc (restE env env3 vs)
      | _ => .bad
theorem compDT_nil {t : Tg} {c : TF} {ek ev : EF} {vs : List Nat} {acc : List (W × W)} {env : Ev} : compDT t c ek ev vs [] acc env = .ok acc env := (rfl)
theorem compDT_cons {t : Tg} {c : TF} {ek ev : EF} {vs : List Nat} {w : W} {ws : List W} {acc : List (W × W)} {env : Ev} : compDT t c ek ev vs (w :: ws) acc env = (match bindT t w (wipeE env vs) with
    | none => .bad
    | some env2 => match c env2 with
      | .ok true env3 => (match fE ek env3 with
        | .ok (.v k) env4 => (match fE ev env4 with
          | .ok (.v y) env5 => (match keyT k with
            | some ks => if acc.length < 16777216 then compDT t c ek ev vs ws (putT acc ks y) (restE env env5 vs) else .bad
            | none => .bad)
          | _ => .bad)
        | _ => .bad)
      | .ok false env3 => compDT t c ek ev vs ws acc (restE env env3 vs)
      | _ => .bad) := (rfl)
def fDcT (it : Ev → Res (List W)) (t : Tg) (c : TF) (ek ev : EF) (vs : List Nat) : EF := fun env => (it env).bind fun ws env => match compDT t c ek ev vs ws [] env with
  | .ok kvs env => .ok (.n (.dct kvs)) env
  | _ => .bad
section
variable {X : Cx} {ci : Nat → Addr} {BS : List Nat} {tg iter kx vx : Expr} {ifs : List Expr} {scope : Scope} {own : List (Str × Nat)} {it : Ev → Res (List W)} {t : Tg} {c : TF} {ek ev : EF} {pos : Pos}
theorem dcT_core' {wi : WX → TI} (qi : ∀ (W' : WX) (s : Sta) (R : It → Hp → Prop), Ok X.K ci s → Acc X.K ci BS W' s (fun ws m => ∀ J Gp Y, ItOk X ci BS m ws J Gp Y → R J m.H) (it s.env) → wi W' s.σ s.H R)
    {g : TG} (qg : ∀ (s : Sta) (v : V) (w : W) (env' : Ev) (Q : L2.St → Hp → Prop), Ok X.K ci s → RepV X.K ci s.G v w → bindT t w s.env = some env' → GOut X ci BS s (idxT t) env' Q → g v s.σ s.H Q)
    {tt : TT} (qt : ∀ (s : Sta) (Q : Bool → Hp → Prop), Ok X.K ci s → Acc X.K ci BS (fun _ _ _ _ => False) s (CT Q) (c s.env) → tt s.σ s.H Q)
    {tk : TE} (qk : ∀ (s : Sta) (Q : VK), Ok X.K ci s → Acc X.K ci BS (fun _ _ _ _ => False) s (CE X.K ci s Q) (fE ek s.env) → tk s.σ s.H Q)
    {tv : TE} (qe : ∀ (s : Sta) (Q : VK), Ok X.K ci s → Acc X.K ci BS (fun _ _ _ _ => False) s (CE X.K ci s Q) (fE ev s.env) → tv s.σ s.H Q)
    {vs : List Nat} (hv : ∀ i ∈ BS, i ∉ vs) (hi : ∀ j ∈ idxT t, j ∈ vs) (W' : WX) (s : Sta) (Q : VK) (ok : Ok X.K ci s) (h : Acc X.K ci BS W' s (CE X.K ci s Q) (fDcT it t c ek ev vs s.env)) : tDcT (wi W') g tt tk tv vs s.σ s.H Q := by
  refine qi W' s _ ok (h.bind.imp fun ws env1 G1 H1 st1 ok1 h1 => ?_)
  intro J Gp Y io D hD
  have h1 : Acc X.K ci BS W' ⟨env1, s.σ, G1, H1⟩ (CE X.K ci s Q) (match compDT t c ek ev vs ws [] env1 with
    | .ok kvs env => .ok (.n (.dct kvs)) env
    | _ => .bad) := h1
  have gD : G1 D = none := ok1.sub.free hD
  obtain ⟨Pv, hPv⟩ : ∃ Pv : Nat → Hp → Prop, Pv = fun i H => ∃ (G : Hp) (env : Ev) (va : List (List Key × V)) (wa : List (W × W)), Stp BS ⟨env1, s.σ, G1, H1⟩ ⟨env, s.σ, G, H⟩ ∧ Ok X.K ci ⟨env, s.σ, G, H⟩ ∧ H D = some (.dT va) ∧ RepTs X.K ci G va wa ∧ G D = none ∧ (∀ j, ¬ OwnAt env s.σ j D) ∧
    compDT t c ek ev vs ws [] env1 = compDT t c ek ev vs (ws.drop i) wa env := ⟨_, rfl⟩
  have p0 : Pv 0 (upd H1 D (.dT [])) := by
    rw [hPv]
    obtain ⟨st2, ok2, _, no⟩ := alloc_new (BS := BS) (o := .dT []) ok1 hD
    exact ⟨G1, env1, [], [], st2, ok2, upd_same, .nil, gD, no, rfl⟩
  have done : ∀ H, Pv ws.length H → Q (.ref D) H := by
    rw [hPv]
    rintro H ⟨G, env, va, wa, st2, ok2, eD, ra, gD', noD, eq⟩
    rw [List.drop_length, compDT_nil] at eq
    rw [eq] at h1
    refine h1 G H st2 ok2 (.ref D) ⟨D, rfl, .dT eD ra, gD', noD⟩ fun a e => ?_
    cases e
    cases q : s.H D with
    | none => rfl
    | some o => exact absurd hD (st1.here D (by rw [q]; exact fun z => nomatch z))
  refine ⟨fun i m H => m = ws.length - i ∧ i ≤ ws.length ∧ Pv i H, ⟨ws.length, by simp, Nat.zero_le _, p0⟩, ?_⟩
  rintro i m H ⟨rfl, hle, p⟩
  have stays : Gp H := by
    rw [hPv] at p
    obtain ⟨G, env, va, wa, st2, ok2, _⟩ := p
    exact io.stays _ ok2 st2.sub
  by_cases hlt : i < ws.length
  case neg =>
    have e : i = ws.length := by omega
    subst e
    exact .inl ⟨io.walk.stops H stays, done H p⟩
  refine .inr ⟨io.walk.goes i H hlt stays, Pv (i + 1), fun H' p' => ⟨ws.length - (i + 1), by omega, rfl, hlt, p'⟩, fun x H' y => ?_⟩
  have y := io.walk.yields i H x H' hlt stays y
  rw [hPv] at p ⊢
  obtain ⟨G, env, va, wa, st2, ok2, eD, ra, gD', noD, eq⟩ := p
  obtain ⟨w, G2, hw, st3, ok3, rv⟩ := io.gives ⟨env, s.σ, G, H⟩ i x H' ok2 st2.sub hlt y
  have hd : ws.drop i = w :: ws.drop (i + 1) := by
    obtain ⟨hl, e⟩ := List.getElem?_eq_some_iff.mp hw
    rw [List.drop_eq_getElem_cons hl, e]
  rw [hd, compDT_cons] at eq
  rw [eq] at h1
  have nD : H D ≠ none := by rw [eD]; exact fun z => nomatch z
  have eD3 : H' D = some (.dT va) := st3.keep D _ eD noD
  have gD3 : G2 D = none := st3.pers D nD gD' noD
  have noD3 := st3.notOwn nD noD
  have nD3 : H' D ≠ none := by rw [eD3]; exact fun z => nomatch z
  cases e1 : bindT t w (wipeE env vs) with
  | none => rw [e1] at h1; exact h1.elim
  | some env2 =>
    rw [e1] at h1 eq
    dsimp only at h1 eq
    obtain ⟨stw, okw⟩ := wipe_ok (BS := BS) ok3 hv
    refine qg ⟨wipeE env vs, wipe s.σ vs, G2, H'⟩ x w env2 _ okw rv e1 fun σ2 st4 ok4 l4 k4 => ?_
    have l4' : σ2.length = s.σ.length := l4.trans (wipe_length _ _)
    have k4' : ∀ j, j ∉ vs → σ2[j]? = (wipe s.σ vs)[j]? := fun j hj => k4 j fun z => hj (hi j z)
    have k4'' : ∀ j, j ∉ vs → σ2[j]? = s.σ[j]? := fun j hj => (k4' j hj).trans (wipe_out' hj)
    refine ⟨wipe_eq l4' k4', ?_⟩
    refine qt ⟨env2, σ2, G2, H'⟩ _ ok4 ?_
    -- back to the def's slots
    have fin : ∀ {env5 : Ev} {G5 H5 : Hp}, Stp BS ⟨env2, σ2, G2, H'⟩ ⟨env5, σ2, G5, H5⟩ → Ok X.K ci ⟨env5, σ2, G5, H5⟩ →
        Stp BS ⟨env1, s.σ, G1, H1⟩ ⟨restE env env5 vs, s.σ, G5, H5⟩ ∧ Ok X.K ci ⟨restE env env5 vs, s.σ, G5, H5⟩ ∧ H5 D = some (.dT va) ∧ RepTs X.K ci G5 va wa ∧ G5 D = none ∧ ∀ j, ¬ OwnAt (restE env env5 vs) s.σ j D := fun {env5 G5 H5} st5 ok5 => by
      have stA := Step.trans stw (Step.trans st4 st5)
      obtain ⟨r1, r2⟩ := rest_ok (vs := vs) ok3 ok5 stA (Step.trans st4 st5) hv l4' k4''
      have stB := Step.trans st3 r1
      exact ⟨Step.trans st2 stB, r2, r1.keep D _ eD3 noD3, RepTs.mono stB.sub ra, r1.pers D nD3 gD3 noD3, r1.notOwn nD3 noD3⟩
    cases e2 : c env2 with
    | bad => rw [e2] at h1; exact h1.elim
    | er z env' => rw [e2] at h1; exact h1.elim
    | ok b env3 =>
      rw [e2] at h1 eq
      intro G5 H5 st5 ok5
      cases b with
      | false =>
        obtain ⟨f1, f2, f3, f4, f5, f6⟩ := fin st5 ok5
        exact ⟨G5, _, va, wa, f1, f2, f3, f4, f5, f6, eq⟩
      | true =>
        dsimp only at h1 eq
        refine qk ⟨env3, σ2, G5, H5⟩ _ ok5 ?_
        cases e3 : fE ek env3 with
        | bad => rw [e3] at h1; exact h1.elim
        | er z env' => rw [e3] at h1; exact h1.elim
        | ok ok' env4 =>
          rw [e3] at h1 eq
          cases ok' with
          | s j => exact h1.elim
          | n u => exact h1.elim
          | v kw =>
            dsimp only at h1 eq
            intro G6 H6 st6 ok6 kv krep knew
            refine qe ⟨env4, σ2, G6, H6⟩ _ ok6 ?_
            cases e4 : fE ev env4 with
            | bad => rw [e4] at h1; exact h1.elim
            | er z env' => rw [e4] at h1; exact h1.elim
            | ok ov env5 =>
              rw [e4] at h1 eq
              cases ov with
              | s j => exact h1.elim
              | n u => exact h1.elim
              | v u =>
                dsimp only at h1 eq
                intro G7 H7 st7 ok7 v rep new
                cases e5 : keyT kw with
                | none => rw [e5] at h1; exact h1.elim
                | some ks =>
                  rw [e5] at h1 eq
                  dsimp only at h1 eq
                  by_cases hz : wa.length < 16777216
                  · rw [if_pos hz] at eq
                    have krep : RepV X.K ci G6 kv kw := krep
                    have krep7 : RepV X.K ci G7 kv kw := RepV.mono st7.sub krep
                    obtain ⟨cb, rfl, hcb⟩ := CurV.key (s := ⟨env5, σ2, G7, H7⟩) ok7 (.inl krep7) e5
                    obtain ⟨f1, f2, f3, f4, f5, f6⟩ := fin (Step.trans st5 (Step.trans st6 st7)) ok7
                    refine ⟨va, ks, cb, rfl, hcb, f3, by rw [sizeLine_eq, ts_len f4]; exact hz, G7, _, putK va ks v, putT wa ks u, ?_, ?_, upd_same, ts_put rep f4, f5, f6, eq⟩
                    · have nb : ∀ {a : Addr}, H1 a ≠ none → a ≠ D := fun {a} ha z => ha (z ▸ hD)
                      exact ⟨f1.sub, fun a o ha no => by
                          show upd H7 D _ a = _
                          rw [upd_ne (nb (by rw [show H1 a = some o from ha]; exact fun z => nomatch z))]
                          exact f1.keep a o ha no, f1.pers, fun a ha => by
                          show upd H7 D _ a ≠ none
                          rw [upd_ne (nb ha)]
                          exact f1.here a ha, f1.new, f1.bs⟩
                    · refine ⟨fun b o hb => ?_, f2.len, f2.dat, fun j u' hu => ?_, f2.inj⟩
                      · have nb : b ≠ D := fun z => by
                          rw [z] at hb
                          have hb' : G7 D = some o := hb
                          rw [f5] at hb'
                          cases hb'
                        show upd H7 D _ b = _
                        rw [upd_ne nb]
                        exact f2.sub b o hb
                      · obtain ⟨a, q1, q2, q3⟩ := f2.own j u' hu
                        have nb : a ≠ D := fun z => f6 j ⟨⟨u', hu⟩, z ▸ q1⟩
                        exact ⟨a, q1, q2, q3.mono (Same.refl _) fun o hb => by show upd H7 D _ a = _; rw [upd_ne nb]; exact hb⟩
                  · rw [if_neg hz] at h1
                    exact h1.elim
theorem x_dcT (hc : X.calm = true) (hu : X.A.units < cLine) (hN : X.N.Nodup) (hi : SndI X ci BS tg iter it) (ok : BlkOk X.N X.env.scope scope own) (hg : ∀ b : Blk, SndG (Cx.at X scope b) ci BS tg t) (ht : SndIfs X ci BS scope ifs c)
    (hk : ∀ b : Blk, SndE (Cx.at X scope b) ci BS kx ek) (he : ∀ b : Blk, SndE (Cx.at X scope b) ci BS vx ev)
    (hv : ∀ i ∈ BS, i ∉ own.map (·.2)) (hidx : ∀ j ∈ idxT t, j ∈ own.map (·.2)) (hs : ∀ x, foldedSetIterable iter X.env x = pure x := by intro _; rfl) : SndE X ci BS (.DictComp kx vx [⟨tg, iter, ifs, 0⟩] scope pos) (fDcT it t c ek ev (own.map (·.2))) := by
  obtain ⟨wi, pi, qi⟩ := hi.ex
  obtain ⟨tt, pt, qt⟩ := ht.ex
  have hk' : ∀ b : Blk, SndE (Cx.at X scope b) ci BS kx (fE ek) := fun b => x_esc (hk b)
  have he' : ∀ b : Blk, SndE (Cx.at X scope b) ci BS vx (fE ev) := fun b => x_esc (he b)
  refine ⟨⟨fun W' => tDcT (wi W') (fun v σ H Q => ∀ b, (hg b).ex.choose v σ H Q) tt (fun σ H Q => ∀ b, (hk' b).ex.choose (fun _ _ _ _ => False) σ H Q) (fun σ H Q => ∀ b, (he' b).ex.choose (fun _ _ _ _ => False) σ H Q) (own.map (·.2)), fun W' tk => ?_, fun W' s Q ok h => ?_⟩⟩
  · exact pe_dcT hc hu hN (pi W' tk) ok (fun s H C cl fp => PG.imp ((hg ⟨s, H, C, cl, fp⟩).ex.choose_spec.1) fun v σ H Q z => z _) (fun s H C cl fp => pt ⟨s, H, C, cl, fp⟩) (fun s H C cl fp => PE.imp ((hk' ⟨s, H, C, cl, fp⟩).ex.choose_spec.1 _ takes0) fun σ H Q z => z _) (fun s H C cl fp => PE.imp ((he' ⟨s, H, C, cl, fp⟩).ex.choose_spec.1 _ takes0) fun σ H Q z => z _) hs
  · exact dcT_core' qi (g := fun v σ H Q => ∀ b, (hg b).ex.choose v σ H Q) (fun s v w env' Q ok r e o b => (hg b).ex.choose_spec.2 s v w env' Q ok r e o) qt (tk := fun σ H Q => ∀ b, (hk' b).ex.choose (fun _ _ _ _ => False) σ H Q) (fun s Q ok a b => (hk' b).ex.choose_spec.2 _ s Q ok a) (tv := fun σ H Q => ∀ b, (he' b).ex.choose (fun _ _ _ _ => False) σ H Q) (fun s Q ok a b => (he' b).ex.choose_spec.2 _ s Q ok a) hv hidx W' s Q ok h
theorem s_setDcT {i : Nat} {y : Str} {py spos : Pos} (hbi : i ∉ BS) (hc : X.calm = true) (hu : X.A.units < cLine) (hN : X.N.Nodup) (hy : X.N[i]? = some y) (hyl : X.env.scope.names.lookup y = some .local)
    (hsw : swapsWith (.DictComp kx vx [⟨tg, iter, ifs, 0⟩] scope pos) (some (.Name y py)) spos.line X.env = pure true)
    (hi : SndI X ci BS tg iter it) (ok : BlkOk X.N X.env.scope scope own) (hg : ∀ b : Blk, SndG (Cx.at X scope b) ci BS tg t) (ht : SndIfs X ci BS scope ifs c) (hk : ∀ b : Blk, SndE (Cx.at X scope b) ci BS kx ek) (he : ∀ b : Blk, SndE (Cx.at X scope b) ci BS vx ev)
    (hv : ∀ i ∈ BS, i ∉ own.map (·.2)) (hidx : ∀ j ∈ idxT t, j ∈ own.map (·.2)) (hs : ∀ x, foldedSetIterable iter X.env x = pure x := by intro _; rfl) :
    SndS X ci BS (.Assign [.Name y py] (.DictComp kx vx [⟨tg, iter, ifs, 0⟩] scope pos) spos) (sOwn i (fDcT it t c ek ev (own.map (·.2)))) := by
  obtain ⟨wi, pi, qi⟩ := hi.ex
  obtain ⟨tt, pt, qt⟩ := ht.ex
  have hk' : ∀ b : Blk, SndE (Cx.at X scope b) ci BS kx (fE ek) := fun b => x_esc (hk b)
  have he' : ∀ b : Blk, SndE (Cx.at X scope b) ci BS vx (fE ev) := fun b => x_esc (he b)
  refine ⟨⟨fun W' => tAsg (tDcT (wi W') (fun v σ H Q => ∀ b, (hg b).ex.choose v σ H Q) tt (fun σ H Q => ∀ b, (hk' b).ex.choose (fun _ _ _ _ => False) σ H Q) (fun σ H Q => ∀ b, (he' b).ex.choose (fun _ _ _ _ => False) σ H Q) (own.map (·.2))) (gName i), fun W' tk => ?_, fun W' s D ok h => ?_⟩⟩
  · exact ps_setDcT hc hu hN hy hyl hsw (pi W' tk) ok (fun s H C cl fp => PG.imp ((hg ⟨s, H, C, cl, fp⟩).ex.choose_spec.1) fun v σ H Q z => z _) (fun s H C cl fp => pt ⟨s, H, C, cl, fp⟩) (fun s H C cl fp => PE.imp ((hk' ⟨s, H, C, cl, fp⟩).ex.choose_spec.1 _ takes0) fun σ H Q z => z _) (fun s H C cl fp => PE.imp ((he' ⟨s, H, C, cl, fp⟩).ex.choose_spec.1 _ takes0) fun σ H Q z => z _) hs
  · refine dcT_core' qi (g := fun v σ H Q => ∀ b, (hg b).ex.choose v σ H Q) (fun s v w env' Q ok r e o b => (hg b).ex.choose_spec.2 s v w env' Q ok r e o) qt (tk := fun σ H Q => ∀ b, (hk' b).ex.choose (fun _ _ _ _ => False) σ H Q) (fun s Q ok a b => (hk' b).ex.choose_spec.2 _ s Q ok a) (tv := fun σ H Q => ∀ b, (he' b).ex.choose (fun _ _ _ _ => False) σ H Q) (fun s Q ok a b => (he' b).ex.choose_spec.2 _ s Q ok a) hv hidx W' s _ ok ?_
    have h' : AccS X.K ci BS W' s D ((fDcT it t c ek ev (own.map (·.2)) s.env).andS fun ov env => match ov with | .n w => .nx (env.set i (.own w)) | _ => .bad) := h
    cases e1 : fDcT it t c ek ev (own.map (·.2)) s.env with
    | bad => rw [e1] at h'; exact h'.elim
    | er x env' => rw [e1] at h'; exact fun G' H' cls d st ok rx => h' s.σ G' H' cls d st ok rx
    | ok ov env' =>
      rw [e1] at h'
      cases ov with
      | n w =>
        intro G' H' st ok' v rep new
        obtain ⟨a, rfl, ro, ga, no⟩ := rep
        obtain ⟨st2, ok2⟩ := set_own (s := s) (m := ⟨env', s.σ, G', H'⟩) ok' st hbi ro ga no (new a rfl)
        exact h' _ _ _ st2 ok2
      | _ => exact h'.elim
end
end BV

set_option maxRecDepth 100000
set_option maxHeartbeats 4000000
/-! BV: instances of the program's own classes: made, their fields read and stored. -/
namespace BV
open PySem PySem.Spec PyProof.Rows L2
def putW (f : Str) (w : W) : List (Str × W) → List (Str × W)
  | [] => [(f, w)]
  | (g, x) :: r => if g = f then (g, w) :: r else (g, x) :: putW f w r
/-- C(args), C's init told by g -/
def fMake (c : Nat) (g : FnD) (fa : AF) : EF := fun env => (fa env).bind fun ovs env => match asV ovs with
  | none => .bad
  | some ws => (match g (.ins c [] :: ws) with
    | .ok .non [o] => .ok (.n o) env
    | .er x _ => .er x env
    | _ => .bad)
def fNew (c n : Nat) (g : FnD) (fa : AF) : EF := fun env => (fa env).bind fun ovs env => if ovs.length = n then fMake c g (fun env => .ok ovs env) env else .bad
def gFld (c : Nat) (f : Str) : W → Option OV
  | .ins c' fs => if c' = c then (fs.lookup f).map .v else none
  | _ => none
def fFld (c : Nat) (f : Str) (fe : EF) : EF := fun env => (fe env).bind fun x env => retOV ((getOV x env).bind (gFld c f)) env
def sFldS (i c : Nat) (f : Str) (fe : EF) : SF := fun env => (fE fe env).andS fun ov env => match ov with
  | .v w => (match env[i]? with
    | some (.own (.ins c' fs)) => if c' = c ∧ fs.length < 1000 then .nx (env.set i (.own (.ins c (putW f w fs)))) else .bad
    | _ => .bad)
  | _ => .bad
/-- what is known of a class whose instances have fields -/
structure InsC (K : PySem.W.Frag) (C : Addr) (fs : List Str) : Prop where
  cls : Cls K C
  no : ∀ f ∈ fs, NoAttr K C f
section
variable {K : PySem.W.Frag} {ci : Nat → Addr} {G : Hp}
theorem fs_put {f : Str} {v : V} {w : W} (h0 : RepV K ci G v w) : ∀ {fs : List (Str × V)} {ws : List (Str × W)}, RepFs K ci G fs ws → RepFs K ci G (putF f v fs) (putW f w ws)
  | _, _, .nil => .cons h0 .nil
  | _, _, @RepFs.cons _ _ _ g v' w' fs ws h r => by
    show RepFs K ci G (if g = f then (g, v) :: fs else (g, v') :: putF f v fs) (if g = f then (g, w) :: ws else (g, w') :: putW f w ws)
    by_cases c : g = f
    · rw [if_pos c, if_pos c]
      exact .cons h0 r
    · rw [if_neg c, if_neg c]
      exact .cons h (fs_put h0 r)
theorem fs_len : ∀ {fs : List (Str × V)} {ws : List (Str × W)}, RepFs K ci G fs ws → fs.length = ws.length
  | _, _, .nil => rfl
  | _, _, .cons h r => by rw [List.length_cons, List.length_cons, fs_len r]
theorem CurV.ins {s : Sta} {v : V} {c : Nat} {ws : List (Str × W)} (ok : Ok K ci s) (h : CurV K ci s v (.ins c ws)) : ∃ a dx fs, v = .ref a ∧ s.H a = some (.ins (ci c) dx fs) ∧ RepFs K ci s.G fs ws := by
  rcases h with h | ⟨a, e, h⟩
  · cases h with
    | ins h r => exact ⟨_, _, _, rfl, ok.sub _ _ h, r⟩
  · cases h with
    | ins h r => exact ⟨a, _, _, e, h, r⟩
theorem asV_vals {m : Sta} : ∀ {ovs : List OV} {vs : List V} {ws : List W} {H : Hp}, Paired (RepOV K ci m) vs ovs → asV ovs = some ws → ArgR K ci m.G H (List.replicate ws.length false) vs ws ∧ ios (List.replicate ws.length false) vs = []
  | [], _, ws, H, r, e => by
    cases r
    cases e
    exact ⟨.nil, rfl⟩
  | o :: os, _, ws, H, r, e => by
    cases r with
    | @cons v _ vs _ r1 r2 =>
      cases o with
      | v w =>
        unfold asV at e
        cases q : asV os with
        | none => rw [q] at e; cases e
        | some us =>
          rw [q] at e
          cases e
          obtain ⟨h1, h2⟩ := asV_vals (H := H) r2 q
          exact ⟨.val r1 h1, h2⟩
      | s i => cases e
      | n w => cases e
end
section
variable {X : Cx} {ci : Nat → Addr} {BS : List Nat} {e : Expr} {f : EF} {pos : Pos}
theorem x_fld {c : Nat} {fs : List Str} (I : InsC X.K (ci c) fs) {nm : Str} (hm : nm ∈ fs) (he : SndE X ci BS e f) (hb : attributeBase e nm X.env (eval e X.env) = eval e X.env := by rfl) : SndE X ci BS (.Attribute e nm pos) (fFld c nm f) := by
  obtain ⟨t, p, q⟩ := he.ex
  refine ⟨⟨fun W' => tFld X.K (t W') nm, fun W' tk => pe_fld (p W' tk) hb, fun W' s Q ok h => ?_⟩⟩
  refine q W' s _ ok (h.bind.imp fun ox env1 G1 H1 st1 ok1 h1 => ?_)
  intro v rep new
  cases e1 : getOV ox env1 with
  | none => dsimp only at h1; rw [e1] at h1; exact h1.elim
  | some w =>
    dsimp only at h1
    rw [e1] at h1
    have h1 : Acc X.K ci BS W' ⟨env1, s.σ, G1, H1⟩ (CE X.K ci s Q) (retOV (gFld c nm w) env1) := h1
    cases w with
    | ins c' ws =>
      unfold gFld at h1
      dsimp only at h1
      by_cases hc : c' = c
      · subst hc
        rw [if_pos rfl] at h1
        cases e2 : ws.lookup nm with
        | none => rw [e2] at h1; exact h1.elim
        | some u =>
          rw [e2] at h1
          obtain ⟨a, dx, fvs, rfl, ha, r⟩ := CurV.ins ok1 (cur_of ok1 rep e1)
          obtain ⟨y, l, ry⟩ := r.look e2
          exact ⟨a, _, dx, fvs, y, rfl, ha, I.cls, I.no nm hm, l, h1 G1 H1 Step.refl ok1 y ry trivial⟩
      · rw [if_neg hc] at h1
        exact h1.elim
    | _ => exact h1.elim
theorem s_fld {c : Nat} {fs : List Str} (I : InsC X.K (ci c) fs) {nm : Str} (hm : nm ∈ fs) (i : Nat) {x : Str} {p1 p2 pos : Pos} (he : SndE X ci BS e f) (hN : X.N[i]? = some x := by rfl) (hv : Vis X.env.scope x := by first | exact Or.inl rfl | exact Or.inr (Or.inl rfl) | exact Or.inr (Or.inr rfl)) (hd : (x == ("__debug__" : Str)) = false := by decide)
    (hcd : (x == ("__classdict__" : Str)) = false := by decide) (hs : swapsWith e (some (.Attribute (.Name x p1) nm p2)) pos.line X.env = pure false := by rfl) : SndS X ci BS (.Assign [.Attribute (.Name x p1) nm p2] e pos) (sFldS i c nm f) := by
  obtain ⟨t, p, q⟩ := (x_esc he).ex
  refine ⟨⟨fun W' => sFld X.K (tVar i) (t W') nm, fun W' tk => ps_fld (pe_var hN hv hd hcd) (p W' tk) hs, fun W' s D ok h => ?_⟩⟩
  refine q W' s _ ok (h.andS.imp fun ov env1 G1 H1 st1 ok1 h1 => ?_)
  intro v rep new
  cases ov with
  | v w =>
    dsimp only at h1
    cases e1 : env1[i]? with
    | none => rw [e1] at h1; exact h1.elim
    | some sl =>
      rw [e1] at h1
      cases sl with
      | own u =>
        cases u with
        | ins c' ws =>
          dsimp only at h1
          by_cases hz : c' = c ∧ ws.length < 1000
          · obtain ⟨rfl, hz⟩ := hz
            rw [if_pos ⟨rfl, hz⟩] at h1
            obtain ⟨a, k1, k2, k3⟩ := ok1.own i _ e1
            have k1 : s.σ[i]? = some (some (.ref a)) := k1
            cases k3 with
            | @ins dx _ fvs _ ha r =>
              obtain ⟨st2, ok2⟩ := upd_own (BS := BS) (s := ⟨env1, s.σ, G1, H1⟩) (o := .ins (ci c') dx (putF nm v fvs)) (w' := .ins c' (putW nm w ws)) ok1 e1 k1 (.ins upd_same (fs_put rep r))
              exact ⟨.ref a, k1, a, _, dx, fvs, rfl, ha, I.cls, I.no nm hm, by rw [fs_len r]; exact hz, h1 _ _ _ st2 ok2⟩
          · rw [if_neg hz] at h1
            exact h1.elim
        | _ => exact h1.elim
      | _ => exact h1.elim
  | _ => exact h1.elim
/-- behind the call of init: the slots are as they were -/
theorem made_call {m : Sta} (ok : Ok X.K ci m) {x dx C : Addr} (hx : m.H x = none) (hdx : m.H dx = none) {G' H' : Hp} (c : CStep [x] m.G (upd (upd m.H dx (.own x)) x (.ins C dx [])) G' H') :
    Stp BS m ⟨m.env, m.σ, G', H'⟩ ∧ Ok X.K ci ⟨m.env, m.σ, G', H'⟩ := by
  have ne : ∀ {a : Addr}, m.H a ≠ none → a ≠ x ∧ a ≠ dx := fun {a} h => ⟨fun z => h (z ▸ hx), fun z => h (z ▸ hdx)⟩
  have at_ : ∀ {a : Addr}, m.H a ≠ none → (upd (upd m.H dx (.own x)) x (.ins C dx [])) a = m.H a := fun {a} h => by
    rw [upd_ne (ne h).1, upd_ne (ne h).2]
  have some_ne : ∀ {a : Addr} {o : HO}, m.H a = some o → m.H a ≠ none := fun {a o} h => by rw [h]; exact fun z => nomatch z
  have keep : ∀ a o, m.H a = some o → H' a = some o := fun a o h => c.keep a o (by rw [at_ (some_ne h)]; exact h) (fun z => (ne (some_ne h)).1 (List.mem_singleton.1 z))
  refine ⟨⟨c.sub, fun a o h _ => keep a o h, fun a h g _ => c.pers a (by rw [at_ h]; exact h) g, fun a h => c.here a (by rw [at_ h]; exact h), (Step.refl (G := m.G) (H := m.H)).new, fun _ _ => ⟨rfl, fun h => h⟩⟩,
    ⟨c.subH, ok.len, fun i w e => ?_, fun i w e => ?_, ok.inj⟩⟩
  · obtain ⟨v, q1, q2⟩ := ok.dat i w e
    exact ⟨v, q1, q2.mono c.sub⟩
  · obtain ⟨a, q1, q2, q3⟩ := ok.own i w e
    exact ⟨a, q1, c.pers a (by rw [at_ q3.ne]; exact q3.ne) q2, q3.mono c.sub fun o h => keep a o h⟩
end
end BV
namespace L2
open PySem PySem.Spec PyProof.Rows
def tMakeS (C : Addr) (sp : Sp) (E : St → XK) (t : TA) : TE := fun σ H Q => t σ H fun vs H1 => ∀ x dx, H1 x = none → H1 dx = none → dx ≠ x →
  sp (.ref x :: vs) (upd (upd H1 dx (.own x)) x (.ins C dx [])) (fun v H2 => v = .non ∧ Q (.ref x) H2) (E σ)
section
variable {X : Cx} {CX : CXT} {k : Nat} {f C : Addr} {fd : FuncData} {ps : List Str} {sp : Sp} {E : St → XK} {x : Str} {p pos : Pos} {e : Expr} {es : List Expr} {t : TA}
theorem run_makeS {pins : List (Addr × Obj)} {σ : St} {H : Hp} {s : Shared} {Q : VK} {us : List Value} {vs : List V} (M : Mk X.K C f) (F : BV.FnOkG X.prog X.w X.K X.mg X.base CX k f fd ps sp) (hr : BV.RoomG (k + 1) X.A) (hb : Binds X.K fd ps [])
    (hx : PassesAt CX X σ (E σ)) (I : Inv X pins σ H s) (r : Vals vs us)
    (h : ∀ x dx, H x = none → H dx = none → dx ≠ x → sp (.ref x :: vs) (upd (upd H dx (.own x)) x (.ins C dx [])) (fun v H2 => v = .non ∧ Q (.ref x) H2) (E σ)) :
    wpAny (model X.prog X.w) X.A (call (.ref C) us) (EP X pins σ Q) X.xe s := by
  obtain ⟨n, hn⟩ : ∃ n, s.heap.objs.size = n := ⟨_, rfl⟩
  have two := h (n + 1) n (I.hok.fresh (by rw [hn]; exact Nat.le_succ _)) (I.hok.fresh (Nat.le_of_eq hn)) (Nat.ne_of_lt (Nat.lt_succ_self _))
  subst hn
  have J := Inv.made (C := C) I
  have rv : Vals (V.ref (s.heap.objs.size + 1) :: vs) (Value.ref (s.heap.objs.size + 1) :: us) := .cons rfl r
  have len : (Value.ref (s.heap.objs.size + 1) :: us).length = ps.length := by
    have z := rv.length
    rw [F.len _ _ _ _ two] at z
    exact z.symm
  have bd := hb _ (Value.ref (s.heap.objs.size + 1) :: us) J.kIn (by rw [List.append_nil]; exact len)
  rw [List.append_nil] at bd
  refine wpAny_call (make_map (f := f) I.kIn M.makes M.init (beq_iff_eq.mp M.fn) (codeAny_mono (F.go _ (hr.make C us []) X.stack _ _ ⟨Value.ref (s.heap.objs.size + 1) :: us, []⟩ _ _ _ (E σ) (J.env0.make C us []) bd rv two) fun r s1 q1 => ?_))
  cases r with
  | error e => exact hx pins _ _ e s1 J q1
  | ok fl =>
    cases fl with
    | ret u =>
      obtain ⟨v, H1, J1, r1, ev, q2⟩ := J.after q1
      subst ev
      exact ⟨r1, V.ref (s.heap.objs.size + 1), H1, J1, rfl, q2⟩
    | next => exact q1.elim
    | brk => exact q1.elim
    | cont => exact q1.elim
theorem pe_makeS (M : Mk X.K C f) (F : BV.FnOkG X.prog X.w X.K X.mg X.base CX k f fd ps sp) (hr : BV.RoomG (k + 1) X.A) (hg : Gl X x) (hm : X.mg x = some (.ref C)) (hb : Binds X.K fd ps []) (hx : ∀ σ, PassesAt CX X σ (E σ))
    (ha : PA X (e :: es) t) (hdb : (x == ("__debug__" : Str)) = false := by decide) (he : starEach (e :: es) X.env = (false, eval e X.env) :: starEach es X.env := by rfl) (hpl : (backTo pos (starEach es X.env)).any (·.1) = false := by rfl) :
    PE X (.Call (.Name x p) (e :: es) [] pos) (tMakeS C sp E t) := by
  refine ⟨fun pins s σ H Q I h => wpAny_Call_Name_kw (ld_glob I hg hm ?_ hdb)⟩
  refine PySem.W.callWith_K (h₀ := X.base) I.ok.mod.kin M.kp (thn (ha.run pos pins s σ H _ I h) fun us s1 ⟨vs, H1, J, r, q⟩ => ⟨J.kIn, ?_⟩) he hpl
  exact run_makeS M F hr hb (hx σ) J r q
end
end L2
namespace BV
open PySem PySem.Spec PyProof.Rows L2
section
variable {X : Cx} {ci : Nat → Addr} {BS : List Nat}
theorem x_make {c k : Nat} {f : Addr} {fd : FuncData} {ps : List Str} {n : Nat} {g : FnD} {x : Str} {p pos : Pos} {e : Expr} {es : List Expr} {fa : AF}
    (M : Mk X.K (ci c) f) (F : FnOkG X.prog X.w X.K X.mg X.base (L2.CX X.prog X.w) k f fd ps (spF X.K ci (true :: List.replicate n false) g)) (hr : RoomG (k + 1) X.A) (hg : Gl X x) (hm : X.mg x = some (.ref (ci c))) (hb : Binds X.K fd ps [])
    (ha : SndA X ci BS (e :: es) fa) (hn : (e :: es).length = n) (hdb : (x == ("__debug__" : Str)) = false := by decide) (he : starEach (e :: es) X.env = (false, eval e X.env) :: starEach es X.env := by rfl) (hpl : (backTo pos (starEach es X.env)).any (·.1) = false := by rfl) :
    SndE X ci BS (.Call (.Name x p) (e :: es) [] pos) (fNew c n g fa) := by
  obtain ⟨t, pp, q⟩ := ha.ex
  refine ⟨⟨fun W' => tMakeS (ci c) (spF X.K ci (true :: List.replicate n false) g) (WE W') (t W'), fun W' tk => pe_makeS M F hr hg hm hb (fun σ => passAt tk σ) (pp W' tk) hdb he hpl, fun W' s Q ok h => ?_⟩⟩
  refine q W' s _ ok (h.bind.imp fun ovs env1 G1 H1 st1 ok1 h1 => ?_)
  intro vs reps x dx hx hdx hne
  have hx : H1 x = none := hx
  have hdx : H1 dx = none := hdx
  dsimp only at h1
  by_cases hl : ovs.length = n
  case neg => rw [if_neg hl] at h1; exact h1.elim
  rw [if_pos hl] at h1
  have h1 : Acc X.K ci BS W' ⟨env1, s.σ, G1, H1⟩ (CE X.K ci s Q) (match asV ovs with
    | none => .bad
    | some ws => (match g (.ins c [] :: ws) with
      | .ok .non [o] => .ok (.n o) env1
      | .er x _ => .er x env1
      | _ => .bad)) := h1
  cases e1 : asV ovs with
  | none => rw [e1] at h1; exact h1.elim
  | some ws =>
    rw [e1] at h1
    dsimp only at h1
    obtain ⟨ar, io0⟩ := asV_vals (m := ⟨env1, s.σ, G1, H1⟩) (H := upd (upd H1 dx (.own x)) x (.ins (ci c) dx [])) reps e1
    have lw : ws.length = n := by
      have : ∀ {os : List OV} {us : List W}, asV os = some us → us.length = os.length := by
        intro os
        induction os with
        | nil => intro us e; cases e; rfl
        | cons o os ih =>
          intro us e
          cases o with
          | v w =>
            unfold asV at e
            cases q : asV os with
            | none => rw [q] at e; cases e
            | some l =>
              rw [q] at e
              cases e
              rw [List.length_cons, List.length_cons, ih q]
          | s i => cases e
          | n w => cases e
      rw [this e1, hl]
    rw [lw] at ar io0
    have gx : G1 x = none := ok1.sub.free hx
    have sub : Same G1 (upd (upd H1 dx (.own x)) x (.ins (ci c) dx [])) := fun b u e => by
      have hb : H1 b = some u := ok1.sub b u e
      have b1 : b ≠ x := fun z => by rw [z, hx] at hb; cases hb
      have b2 : b ≠ dx := fun z => by rw [z, hdx] at hb; cases hb
      rw [upd_ne b1, upd_ne b2]
      exact hb
    have io1 : ios (true :: List.replicate n false) (V.ref x :: vs) = [x] := by
      unfold ios
      rw [io0]
    refine ⟨G1, .ins c [] :: ws, sub, .io gx (.ins upd_same .nil) ar, by rw [io1]; exact List.nodup_cons.2 ⟨by simp, List.nodup_nil⟩, ?_⟩
    rw [io1]
    cases e2 : g (.ins c [] :: ws) with
    | bad => rw [e2] at h1; exact h1.elim
    | nw w outs => rw [e2] at h1; exact h1.elim
    | er z outs =>
      rw [e2] at h1
      intro G' H' cls d cs o rx
      obtain ⟨st2, ok2⟩ := made_call (BS := BS) (m := ⟨env1, s.σ, G1, H1⟩) ok1 hx hdx cs
      exact h1 G' H' cls d st2 ok2 rx
    | ok w outs =>
      rw [e2] at h1
      intro G' H' v cs o rv
      obtain ⟨st2, ok2⟩ := made_call (BS := BS) (m := ⟨env1, s.σ, G1, H1⟩) ok1 hx hdx cs
      cases o with
      | @cons _ u _ outs ho ro =>
        cases ro
        cases w with
        | non =>
          cases rv
          refine ⟨rfl, h1 G' H' st2 ok2 (.ref x) ⟨x, rfl, ho.1, ho.2, fun i hi => ?_⟩ fun b eb => ?_⟩
          · exact (ok1.ownAt hi).2.1 hx
          · cases eb
            cases q : s.H x with
            | none => rfl
            | some o' => exact absurd hx (st1.here x (by rw [q]; exact fun z => nomatch z))
        | _ => exact h1.elim
end
end BV

set_option maxRecDepth 100000
set_option maxHeartbeats 4000000
/-! BV: in, for lists, tuples, texts, dicts; dicts whose keys are ints and texts. -/
namespace BV
open PySem PySem.Spec PyProof.Rows L2
def orG (g g' : W → W → Option OV) (x y : W) : Option OV := match g x y with
  | some o => some o
  | none => g' x y
/-! a flat value in a list or tuple of flat values -/
def vF : W → Option V
  | .non => some .non
  | .bl b => some (.bl b)
  | .int i => some (.int i)
  | .str x => some (.str x)
  | _ => none
def vFs : List W → Option (List V)
  | [] => some []
  | w :: ws => match vF w, vFs ws with
    | some v, some vs => some (v :: vs)
    | _, _ => none
def seqW : W → Option (List W)
  | .lst ws => some ws
  | .fz ws => some ws
  | .tup ws => some ws
  | _ => none
def gInF (x y : W) : Option OV := match vF x, (seqW y).bind vFs with
  | some v, some vs => some (.v (.bl (inV v vs)))
  | _, _ => none
def gNotInF (x y : W) : Option OV := match vF x, (seqW y).bind vFs with
  | some v, some vs => some (.v (.bl (!inV v vs)))
  | _, _ => none
/-! keys that are ints and texts -/
def isKd : List (W × W) → Bool
  | (.int _, _) :: _ => true
  | (.str _, _) :: _ => true
  | _ => false
def lookA (kvs : List (W × W)) (k : Key) : Option W := (kvs.find? fun p => decide (keyA p.1 = some k)).map (·.2)
def putA (kvs : List (W × W)) (k : Key) (v : W) : List (W × W) :=
  if (kvs.any fun p => decide (keyA p.1 = some k)) = true then kvs.map (fun p => if keyA p.1 = some k then (p.1, v) else p) else kvs ++ [(kW k, v)]
def gInK : W → W → Option OV
  | w, .dct kvs => if isKd kvs then (keyA w).map fun k => .v (.bl (lookA kvs k).isSome) else none
  | _, _ => none
def gNotInK : W → W → Option OV
  | w, .dct kvs => if isKd kvs then (keyA w).map fun k => .v (.bl (!(lookA kvs k).isSome)) else none
  | _, _ => none
def gIxK : W → W → Option OV
  | .dct kvs, w => if isKd kvs then (keyA w).bind fun k => (lookA kvs k).map .v else none
  | _, _ => none
def gIxD : W → W → Option OV := orG gIxT gIxK
def gIn : W → W → Option OV := orG gInS (orG gInF (orG gInT gInK))
def gNotIn : W → W → Option OV := orG gNotInS (orG gNotInF (orG gNotInT gNotInK))
section
variable {K : PySem.W.Frag} {ci : Nat → Addr} {G : Hp}
theorem vF_rep {v u : V} {w : W} (r : RepV K ci G v w) (e : vF w = some u) : v = u ∧ flatV v = true := by
  cases w with
  | non => cases r; cases e; exact ⟨rfl, rfl⟩
  | bl b => cases r; cases e; exact ⟨rfl, rfl⟩
  | int i => cases r; cases e; exact ⟨rfl, rfl⟩
  | str x => cases r; cases e; exact ⟨rfl, rfl⟩
  | _ => cases e
theorem vFs_rep : ∀ {vs us : List V} {ws : List W}, RepVs K ci G vs ws → vFs ws = some us → vs = us ∧ vs.all flatV = true
  | _, _, _, .nil, e => by cases e; exact ⟨rfl, rfl⟩
  | v :: vs, us, w :: ws, .cons r t, e => by
    unfold vFs at e
    cases q : vF w with
    | none => rw [q] at e; cases e
    | some u =>
      rw [q] at e
      cases q2 : vFs ws with
      | none => rw [q2] at e; cases e
      | some us' =>
        rw [q2] at e
        cases e
        obtain ⟨e1, f1⟩ := vF_rep r q
        obtain ⟨e2, f2⟩ := vFs_rep t q2
        subst e1 e2
        exact ⟨rfl, by rw [List.all_cons, f1, f2]; rfl⟩
theorem cur_flat {s : Sta} {v u : V} {w : W} (c : CurV K ci s v w) (e : vF w = some u) : v = u ∧ flatV v = true := by
  rcases c with r | ⟨_, _, r⟩
  · exact vF_rep r e
  · cases r <;> cases e
theorem cur_seq {s : Sta} {v : V} {w : W} {ws : List W} (ok : Ok K ci s) (c : CurV K ci s v w) (e : seqW w = some ws) : ∃ p vs, v = .ref p ∧ (SqL K s.H p vs ∨ SqT K s.H p vs) ∧ RepVs K ci s.G vs ws := by
  cases w with
  | lst xs =>
    cases e
    obtain ⟨a, vs, rfl, h, r⟩ := c.lst ok
    exact ⟨a, vs, rfl, .inl (.inl (.inl h)), r⟩
  | fz xs =>
    cases e
    obtain ⟨a, vs, rfl, h, r⟩ := c.fz ok
    exact ⟨a, vs, rfl, .inl h, r⟩
  | tup xs =>
    cases e
    obtain ⟨a, vs, rfl, h, r⟩ := c.tup ok
    exact ⟨a, vs, rfl, .inr h, r⟩
  | _ => cases e
theorem ks_get {k : Key} : ∀ {kvs : List (Key × V)} {ws : List (W × W)}, RepKs K ci G kvs ws → (valV kvs k = none ∧ lookA ws k = none) ∨ ∃ v w, valV kvs k = some v ∧ lookA ws k = some w ∧ RepV K ci G v w
  | _, _, .nil => .inl ⟨rfl, rfl⟩
  | _, _, @RepKs.cons _ _ _ k' v w kvs ws h r => by
    have kk : keyA (kW k') = some k' := keyA_kW
    by_cases c : k' = k
    · refine .inr ⟨v, w, valV_pos (p := (k', v)) c, ?_, h⟩
      show Option.map _ (List.find? _ _) = _
      have z : decide (keyA (kW k') = some k) = true := by rw [kk, c]; simp
      rw [List.find?_cons, z]
      rfl
    · have e1 : valV ((k', v) :: kvs) k = valV kvs k := valV_neg c
      have e2 : lookA ((kW k', w) :: ws) k = lookA ws k := by
        show Option.map _ (List.find? _ _) = _
        rw [List.find?_cons_of_neg (by simp [kk, c])]
        rfl
      rw [e1, e2]
      exact ks_get r
theorem ks_len : ∀ {kvs : List (Key × V)} {ws : List (W × W)}, RepKs K ci G kvs ws → kvs.length = ws.length
  | _, _, .nil => rfl
  | _, _, .cons h r => by rw [List.length_cons, List.length_cons, ks_len r]
theorem ks_any {k : Key} : ∀ {kvs : List (Key × V)} {ws : List (W × W)}, RepKs K ci G kvs ws → (kvs.any fun p => decide (p.1 = k)) = ws.any fun p => decide (keyA p.1 = some k)
  | _, _, .nil => rfl
  | _, _, @RepKs.cons _ _ _ k' v w kvs ws h r => by
    have kk : keyA (kW k') = some k' := keyA_kW
    rw [List.any_cons, List.any_cons, ks_any r]
    simp [kk]
theorem ks_over {k : Key} {v : V} {w : W} (h0 : RepV K ci G v w) : ∀ {kvs : List (Key × V)} {ws : List (W × W)}, RepKs K ci G kvs ws →
    RepKs K ci G (kvs.map fun p => if p.1 = k then (p.1, v) else p) (ws.map fun p => if keyA p.1 = some k then (p.1, w) else p)
  | _, _, .nil => .nil
  | _, _, @RepKs.cons _ _ _ k' v' w' kvs ws h r => by
    have kk : keyA (kW k') = some k' := keyA_kW
    rw [List.map_cons, List.map_cons]
    by_cases c : k' = k
    · rw [if_pos c, if_pos (show keyA (kW k') = some k by rw [kk, c])]
      exact .cons h0 (ks_over h0 r)
    · rw [if_neg c, if_neg (show ¬ keyA (kW k') = some k by rw [kk]; exact fun z => c (Option.some.inj z))]
      exact .cons h (ks_over h0 r)
theorem ks_snoc {k : Key} {v : V} {w : W} (h0 : RepV K ci G v w) : ∀ {kvs : List (Key × V)} {ws : List (W × W)}, RepKs K ci G kvs ws → RepKs K ci G (kvs ++ [(k, v)]) (ws ++ [(kW k, w)])
  | _, _, .nil => .cons h0 .nil
  | _, _, .cons h r => .cons h (ks_snoc h0 r)
theorem ks_put {k : Key} {v : V} {w : W} (h0 : RepV K ci G v w) {kvs : List (Key × V)} {ws : List (W × W)} (r : RepKs K ci G kvs ws) : RepKs K ci G (putK kvs k v) (putA ws k w) := by
  unfold putK putA
  rw [ks_any r]
  split
  · exact ks_over h0 r
  · exact ks_snoc h0 r
theorem CurV.dK {s : Sta} {v : V} {ws : List (W × W)} (ok : Ok K ci s) (h : CurV K ci s v (.dct ws)) (ht : isKd ws = true) : ∃ a kvs, v = .ref a ∧ s.H a = some (.dK kvs) ∧ RepKs K ci s.G kvs ws := by
  have no : ∀ {kvs : List (List Key × V)}, RepTs K ci s.G kvs ws → False := fun {kvs} r => by
    cases r <;> cases ht
  rcases h with h | ⟨a, e, h⟩
  · cases h with
    | dK h r => exact ⟨_, _, rfl, ok.sub _ _ h, r⟩
    | dT h r => exact (no r).elim
  · cases h with
    | dK h r => exact ⟨a, _, e, h, r⟩
    | dT h r => exact (no r).elim
theorem cur_key {s : Sta} {v : V} {w : W} {k : Key} (c : CurV K ci s v w) (e : keyA w = some k) : v = kV k := by
  cases w with
  | int i => cases e; exact c.int
  | str x => cases e; exact c.str
  | _ => cases e
end
section
variable {X : Cx} {ci : Nat → Addr} {BS : List Nat} {e e2 : Expr} {f g : EF} {pos : Pos}
theorem OpS.or {op : Value → Value → Sem Value} {g g' : W → W → Option OV} (h : OpS X ci BS op g) (h' : OpS X ci BS op g') : OpS X ci BS op (orG g g') := by
  obtain ⟨r, p, q⟩ := h
  obtain ⟨r', p', q'⟩ := h'
  refine ⟨_, p.or p', fun W' s x y wx wy ov Q ok cx cy e h => ?_⟩
  unfold orG at e
  cases e1 : g wx wy with
  | some o =>
    rw [e1] at e
    cases e
    exact .inl (q W' s x y wx wy _ Q ok cx cy e1 h)
  | none =>
    rw [e1] at e
    exact .inr (q' W' s x y wx wy ov Q ok cx cy e h)
theorem o_inF : OpS X ci BS (compareOp .In) gInF := by
  refine ⟨_, op_in_seq, fun W' s x y wx wy ov Q ok cx cy e h => ?_⟩
  unfold gInF at e
  cases q : vF wx with
  | none => rw [q] at e; cases e
  | some v =>
    rw [q] at e
    cases q2 : seqW wy with
    | none => rw [q2] at e; cases e
    | some ws =>
      rw [q2] at e
      dsimp only [Option.bind_some] at e
      cases q3 : vFs ws with
      | none => rw [q3] at e; cases e
      | some vs =>
        rw [q3] at e
        cases e
        obtain ⟨e1, f1⟩ := cur_flat cx q
        obtain ⟨p, us, rfl, hs, r⟩ := cur_seq ok cy q2
        obtain ⟨e2, f2⟩ := vFs_rep r q3
        subst e1 e2
        exact ⟨p, _, rfl, hs, f1, f2, ret_same ok h (.bl _)⟩
theorem o_notInF : OpS X ci BS (compareOp .NotIn) gNotInF := by
  refine ⟨_, op_notIn_seq, fun W' s x y wx wy ov Q ok cx cy e h => ?_⟩
  unfold gNotInF at e
  cases q : vF wx with
  | none => rw [q] at e; cases e
  | some v =>
    rw [q] at e
    cases q2 : seqW wy with
    | none => rw [q2] at e; cases e
    | some ws =>
      rw [q2] at e
      dsimp only [Option.bind_some] at e
      cases q3 : vFs ws with
      | none => rw [q3] at e; cases e
      | some vs =>
        rw [q3] at e
        cases e
        obtain ⟨e1, f1⟩ := cur_flat cx q
        obtain ⟨p, us, rfl, hs, r⟩ := cur_seq ok cy q2
        obtain ⟨e2, f2⟩ := vFs_rep r q3
        subst e1 e2
        exact ⟨p, _, rfl, hs, f1, f2, ret_same ok h (.bl _)⟩
theorem o_inK (hu : X.A.units + 1 < cLine) : OpS X ci BS (compareOp .In) gInK := by
  refine ⟨_, op_inT hu, fun W' s x y wx wy ov Q ok cx cy e h => ?_⟩
  cases wy with
  | dct kvs =>
    unfold gInK at e
    dsimp only at e
    by_cases ht : isKd kvs = true
    · rw [if_pos ht] at e
      cases q : keyA wx with
      | none => rw [q] at e; cases e
      | some k =>
        rw [q] at e
        cases e
        have h : Acc X.K ci BS W' s (CE X.K ci s Q) (.ok (.v (.bl (lookA kvs k).isSome)) s.env) := h
        obtain ⟨d, tvs, rfl, h1, r⟩ := CurV.dK ok cy ht
        have ek := cur_key cx q
        subst ek
        refine ⟨d, _, rfl, DGet.k h1, ?_⟩
        rcases ks_get (k := k) r with ⟨e1, e2⟩ | ⟨v, w, e1, e2, _⟩
        · rw [e1]
          rw [e2] at h
          exact ret_same ok h (.bl _)
        · rw [e1]
          rw [e2] at h
          exact ret_same ok h (.bl _)
    · rw [if_neg ht] at e
      cases e
  | _ => cases e
theorem o_notInK (hu : X.A.units + 1 < cLine) : OpS X ci BS (compareOp .NotIn) gNotInK := by
  refine ⟨_, op_notInT hu, fun W' s x y wx wy ov Q ok cx cy e h => ?_⟩
  cases wy with
  | dct kvs =>
    unfold gNotInK at e
    dsimp only at e
    by_cases ht : isKd kvs = true
    · rw [if_pos ht] at e
      cases q : keyA wx with
      | none => rw [q] at e; cases e
      | some k =>
        rw [q] at e
        cases e
        have h : Acc X.K ci BS W' s (CE X.K ci s Q) (.ok (.v (.bl (!(lookA kvs k).isSome))) s.env) := h
        obtain ⟨d, tvs, rfl, h1, r⟩ := CurV.dK ok cy ht
        have ek := cur_key cx q
        subst ek
        refine ⟨d, _, rfl, DGet.k h1, ?_⟩
        rcases ks_get (k := k) r with ⟨e1, e2⟩ | ⟨v, w, e1, e2, _⟩
        · rw [e1]
          rw [e2] at h
          exact ret_same ok h (.bl _)
        · rw [e1]
          rw [e2] at h
          exact ret_same ok h (.bl _)
    · rw [if_neg ht] at e
      cases e
  | _ => cases e
theorem o_in (hu : X.A.units + 1 < cLine) : OpS X ci BS (compareOp .In) gIn := o_inS.or (o_inF.or ((o_inT hu).or (o_inK hu)))
theorem o_notIn (hu : X.A.units + 1 < cLine) : OpS X ci BS (compareOp .NotIn) gNotIn := o_notInS.or (o_notInF.or ((o_notInT hu).or (o_notInK hu)))
/-- d[key] -/
theorem x_ixD (hu : X.A.units + 1 < cLine) (he : SndE X ci BS e f) (hi : SndE X ci BS e2 g) (hs : NoSl e2 := by intro _ _; rfl) : SndE X ci BS (.Subscript e e2 pos) (fOp gIxD f g) := by
  obtain ⟨ta, pa, qa⟩ := he.ex
  obtain ⟨tb, pb, qb⟩ := hi.ex
  refine ⟨⟨fun W' => tDGet (ta W') (tb W'), fun W' tk => pe_dget hu (pa W' tk) (pb W' tk) hs, fun W' s Q ok h => op_core (r := fun x y H Q => ∃ a v, x = .ref a ∧ DGet H a y (some v) ∧ Q v H) qa qb (fun W' s x y wx wy ov Q ok cx cy e h => ?_) W' s Q ok h⟩⟩
  cases wx with
  | dct kvs =>
    unfold gIxD orG gIxT gIxK at e
    dsimp only at e
    by_cases ht : isTd kvs = true
    · rw [if_pos ht] at e
      have hk : ¬ isKd kvs = true := fun z => by
        unfold isTd at ht
        unfold isKd at z
        split at ht
        · cases z
        · cases ht
      rw [if_neg hk] at e
      cases q : keyT wy with
      | none => rw [q] at e; cases e
      | some ks =>
        rw [q] at e
        obtain ⟨d, tvs, rfl, h1, r⟩ := CurV.dT (BS := BS) ok cx ht
        obtain ⟨b, rfl, h2⟩ := cy.key ok q
        dsimp only [Option.bind_some] at e
        rcases ts_get (ks := ks) r with ⟨e1, e2⟩ | ⟨v, w, e1, e2, rv⟩
        · rw [e2] at e
          cases e
        · rw [e2] at e
          cases e
          exact ⟨d, v, rfl, by rw [← e1]; exact DGet.t h1 h2, ret_same ok h rv⟩
    · rw [if_neg ht] at e
      dsimp only at e
      by_cases hk : isKd kvs = true
      · rw [if_pos hk] at e
        cases q : keyA wy with
        | none => rw [q] at e; cases e
        | some k =>
          rw [q] at e
          obtain ⟨d, tvs, rfl, h1, r⟩ := CurV.dK ok cx hk
          have ek := cur_key cy q
          subst ek
          dsimp only [Option.bind_some] at e
          rcases ks_get (k := k) r with ⟨e1, e2⟩ | ⟨v, w, e1, e2, rv⟩
          · rw [e2] at e
            cases e
          · rw [e2] at e
            cases e
            exact ⟨d, v, rfl, by rw [← e1]; exact DGet.k h1, ret_same ok h rv⟩
      · rw [if_neg hk] at e
        cases e
  | _ => cases e
/-- {k: v} -/
def disp1 (env : Ev) : OV → OV → Res OV
  | .v kw, .v w => (match keyA kw with | some k => .ok (.n (.dct [(kW k, w)])) env | none => .bad)
  | _, _ => .bad
def fDisp1 (fk fv : EF) : EF := fun env => (fE fk env).bind fun a env => (fE fv env).bind fun b env => disp1 env a b
theorem x_disp1 (hk : SndE X ci BS e f) (hv : SndE X ci BS e2 g) : SndE X ci BS (.Dict [some e] [e2] pos) (fDisp1 f g) := by
  obtain ⟨ta, pa, qa⟩ := (x_esc hk).ex
  obtain ⟨tb, pb, qb⟩ := (x_esc hv).ex
  refine ⟨⟨fun W' => tDisp [(ta W', tb W')], fun W' tk => pe_disp (pps_cons (pa W' tk) (pb W' tk) pps_nil) rfl rfl (by simp) (by rw [List.length_singleton]; decide), fun W' s Q ok h => ?_⟩⟩
  intro p hp
  obtain ⟨st0, ok0, gp, no⟩ := alloc_new (BS := BS) (o := .dK []) ok hp
  have at0 : (upd s.H p (.dK [])) p = some (.dK []) := upd_same
  have k0 : (upd s.H p (.dK [])) p ≠ none := by rw [at0]; exact fun z => nomatch z
  have h : Acc X.K ci BS W' s (CE X.K ci s Q) ((fE f s.env).bind fun a env => (fE g env).bind fun b env => disp1 env a b) := h
  refine qa W' ⟨s.env, s.σ, s.G, upd s.H p (.dK [])⟩ _ ok0 ?_
  cases e1 : fE f s.env with
  | bad => rw [e1] at h; exact h.elim
  | er x env' => rw [e1] at h; exact Acc.mid (G1 := s.G) (H1 := upd s.H p (.dK [])) h st0
  | ok ox env1 =>
    rw [e1] at h
    intro G1 H1 st1 ok1 v rep new
    refine qb W' ⟨env1, s.σ, G1, H1⟩ _ ok1 ?_
    have h : Acc X.K ci BS W' s (CE X.K ci s Q) ((fE g env1).bind fun b env => disp1 env ox b) := h
    cases e2 : fE g env1 with
    | bad => rw [e2] at h; exact h.elim
    | er x env' => rw [e2] at h; exact Acc.mid (G1 := G1) (H1 := H1) h (Step.trans st0 st1)
    | ok oy env2 =>
      rw [e2] at h
      intro G2 H2 st2 ok2 u rep2 new2
      have st12 := Step.trans st1 st2
      have at2 : H2 p = some (.dK []) := st12.keep p _ at0 no
      have gp2 : G2 p = none := st12.pers p k0 gp no
      have no2 := st12.notOwn k0 no
      have neP : ∀ {a : Addr}, s.H a ≠ none → a ≠ p := fun {a} ha z => ha (z ▸ hp)
      have stS := Step.trans st0 st12
      cases ox with
      | v kw =>
        cases oy with
        | v w =>
          have h : Acc X.K ci BS W' s (CE X.K ci s Q) (match keyA kw with | some k => .ok (.n (.dct [(kW k, w)])) env2 | none => .bad) := h
          cases q : keyA kw with
          | none => rw [q] at h; exact h.elim
          | some k =>
            rw [q] at h
            have rk : RepV X.K ci G2 v kw := RepV.mono st2.sub rep
            have ek := cur_key (s := ⟨env2, s.σ, G2, H2⟩) (.inl rk) q
            subst ek
            refine ⟨at2, [(k, u)], rfl, by rw [List.length_singleton]; decide, ?_⟩
            have em : mergeK [] [(k, u)] = [(k, u)] := rfl
            rw [em]
            refine h G2 (upd H2 p (.dK [(k, u)])) ?_ ?_ (.ref p) ⟨p, rfl, .dK upd_same (.cons rep2 .nil), gp2, no2⟩ fun a ea => by cases ea; exact hp
            · exact ⟨stS.sub, fun a o ha na => by
                show upd H2 p _ a = _
                rw [upd_ne (neP (by rw [show s.H a = some o from ha]; exact fun z => nomatch z))]
                exact stS.keep a o ha na, stS.pers, fun a ha => by
                show upd H2 p _ a ≠ none
                rw [upd_ne (neP ha)]
                exact stS.here a ha, stS.new, stS.bs⟩
            · refine ⟨fun b o hb => ?_, ok2.len, ok2.dat, fun j u' hu => ?_, ok2.inj⟩
              · have nb : b ≠ p := fun z => by
                  rw [z] at hb
                  have hb' : G2 p = some o := hb
                  rw [gp2] at hb'
                  cases hb'
                show upd H2 p _ b = _
                rw [upd_ne nb]
                exact ok2.sub b o hb
              · obtain ⟨a, q1, q2, q3⟩ := ok2.own j u' hu
                have nb : a ≠ p := fun z => no2 j ⟨⟨u', hu⟩, z ▸ q1⟩
                exact ⟨a, q1, q2, q3.mono (Same.refl _) fun o hb => by show upd H2 p _ a = _; rw [upd_ne nb]; exact hb⟩
        | _ => exact h.elim
      | _ => cases oy <;> exact h.elim
/-! x[k] = v -/
def ownD (env : Ev) (i : Nat) : Option (List (W × W)) := match env[i]? with
  | some (.own (.dct ws)) => some ws
  | _ => none
def sPutK (i : Nat) (fk fe : EF) : SF := fun env => (fE fe env).andS fun ov env => match ov with
  | .v w => (match ownD env i with
    | none => .bad
    | some _ => (fk env).andS fun ok env => match (getOV ok env).bind keyA with
      | some k => (match ownD env i with
        | some kvs => if isKd kvs = true ∧ kvs.length < 16777216 then .nx (env.set i (.own (.dct (putA kvs k w)))) else .bad
        | none => .bad)
      | none => .bad)
  | _ => .bad
theorem ownD_is {env : Ev} {i : Nat} {ws : List (W × W)} (h : ownD env i = some ws) : env[i]? = some (.own (.dct ws)) := by
  unfold ownD at h
  split at h
  · rename_i q
    cases h
    exact q
  · cases h
theorem s_putK (hu : X.A.units + 1 < cLine) (i : Nat) {x : Str} {p1 p2 : Pos} (hk : SndE X ci BS e2 f) (he : SndE X ci BS e g) (hN : X.N[i]? = some x := by rfl) (hv : Vis X.env.scope x := by first | exact Or.inl rfl | exact Or.inr (Or.inl rfl) | exact Or.inr (Or.inr rfl)) (hd : (x == ("__debug__" : Str)) = false := by decide)
    (hcd : (x == ("__classdict__" : Str)) = false := by decide) (hs : swapsWith e (some (.Subscript (.Name x p1) e2 p2)) pos.line X.env = pure false := by rfl) : SndS X ci BS (.Assign [.Subscript (.Name x p1) e2 p2] e pos) (sPutK i f g) := by
  obtain ⟨ta, pa, qa⟩ := hk.ex
  obtain ⟨tb, pb, qb⟩ := (x_esc he).ex
  refine ⟨⟨fun W' => sDPut (tVar i) (ta W') (tb W'), fun W' tk => ps_dput hu (pe_var hN hv hd hcd) (pa W' tk) (pb W' tk) hs, fun W' s D ok h => ?_⟩⟩
  refine qb W' s _ ok (h.andS.imp fun ov env1 G1 H1 st1 ok1 h1 => ?_)
  intro v rep new
  cases ov with
  | v w =>
    dsimp only at h1
    cases e1 : ownD env1 i with
    | none => rw [e1] at h1; exact h1.elim
    | some kvs0 =>
      rw [e1] at h1
      dsimp only at h1
      obtain ⟨a, k1, _, k3⟩ := ok1.own i _ (ownD_is e1)
      refine ⟨.ref a, k1, ?_⟩
      refine qa W' ⟨env1, s.σ, G1, H1⟩ _ ok1 (Acc.imp (AccS.andS (s := ⟨env1, s.σ, G1, H1⟩) h1) fun ok' env2 G2 H2 st2 ok2 h2 => ?_)
      intro kv krep knew
      cases e2 : (getOV ok' env2).bind keyA with
      | none => dsimp only at h2; rw [e2] at h2; exact h2.elim
      | some k =>
        dsimp only at h2
        rw [e2] at h2
        dsimp only at h2
        cases e3 : ownD env2 i with
        | none => rw [e3] at h2; exact h2.elim
        | some kvs =>
          rw [e3] at h2
          dsimp only at h2
          by_cases hz : isKd kvs = true ∧ kvs.length < 16777216
          · rw [if_pos hz] at h2
            obtain ⟨b, q1, q2, q3⟩ := ok2.own i _ (ownD_is e3)
            have q1 : s.σ[i]? = some (some (.ref b)) := q1
            rw [show s.σ[i]? = some (some (.ref a)) from k1] at q1
            cases q1
            obtain ⟨tvs, hd2, r2⟩ : ∃ tvs, H2 a = some (.dK tvs) ∧ RepKs X.K ci G2 tvs kvs := by
              cases q3 with
              | dK h r => exact ⟨_, h, r⟩
              | dT h r => cases r <;> cases hz.1
            have ekv : kv = kV k := by
              cases e4 : getOV ok' env2 with
              | none => rw [e4] at e2; cases e2
              | some kw =>
                rw [e4] at e2
                exact cur_key (cur_of ok2 krep e4) e2
            subst ekv
            have rv : RepV X.K ci G2 v w := RepV.mono st2.sub rep
            obtain ⟨st3, ok3⟩ := upd_own (BS := BS) (s := ⟨env2, s.σ, G2, H2⟩) (o := .dK (putK tvs k v)) (w' := .dct (putA kvs k w)) ok2 (ownD_is e3) k1 (.dK upd_same (ks_put rv r2))
            exact ⟨a, _, rfl, DPut.k hd2 (by rw [sizeLine_eq, ks_len r2]; exact hz.2), h2 _ _ _ st3 ok3⟩
          · rw [if_neg hz] at h2
            exact h2.elim
  | _ => exact h1.elim
end
end BV

set_option maxRecDepth 100000
set_option maxHeartbeats 4000000
/-! BV: small facts for printed derivations; evaluation of what BVy.. add. -/
namespace BV
open PySem PySem.Spec PyProof.Rows L2
theorem room1 {n : Nat} (h : n + 64 < cLine) : n + 1 < cLine := by omega
theorem room0 {n : Nat} (h : n + 64 < cLine) : n < cLine := by omega
section
variable {X : Cx} {ci : Nat → Addr} {BS : List Nat}
theorem o_inU (h : X.A.units + 64 < cLine) : OpS X ci BS (compareOp .In) gIn := o_in (room1 h)
theorem o_notInU (h : X.A.units + 64 < cLine) : OpS X ci BS (compareOp .NotIn) gNotIn := o_notIn (room1 h)
end
theorem sw_trueD {kx vx : Expr} {gs : List Comprehension} {scope : Scope} {pos py : Pos} {y : Str} {l : Nat} {env : Env} (hk : env.scope.kind = .function) (hy : env.scope.names.lookup y = some .local) (hl : (py.line == pos.line) = true)
    (ha : (scope.names.any fun (n, k) => n == y && (k == .local || k == .cell)) = false) : swapsWith (.DictComp kx vx gs scope pos) (some (.Name y py)) l env = pure true := by
  have q1 : env.blockKind = .function := by
    unfold Env.blockKind
    rw [hk]
    rfl
  have q2 : env.kindOf y = some .local := hy
  unfold swapsWith
  simp only [q1, q2, ha, Expr.pos, hl]
  rfl
section
variable {e env : Ev} {x : Exc} {w w1 w2 : W}
@[simp] theorem fEn_e {f : EF} : fEn f env = (fE f env).bind fun ov env => match ov with | .v w => (match asEn w with | some ws => .ok (enW 0 ws) env | none => .bad) | _ => .bad := (rfl)
@[simp] theorem asEn_tup {ws : List W} : asEn (.tup ws) = some ws := (rfl)
@[simp] theorem asEn_str {x : Str} : asEn (.str x) = some (chars x) := (rfl)
@[simp] theorem asTx_str {x : Str} : asTx (.str x) = some (chars x) := (rfl)
@[simp] theorem fM1_e {g : W → W → Option OV} {fo fe : EF} : fM1 g fo fe env = (fo env).bind fun x env => match getOV x env with
  | some (.str a) => (fe env).bind fun y env => retOV ((getOV y env).bind fun wy => g (.str a) wy) env
  | _ => .bad := (rfl)
@[simp] theorem fFld_e {c : Nat} {f : Str} {fe : EF} : fFld c f fe env = (fe env).bind fun x env => retOV ((getOV x env).bind (gFld c f)) env := (rfl)
@[simp] theorem sFldS_e {i c : Nat} {f : Str} {fe : EF} : sFldS i c f fe env = (fE fe env).andS fun ov env => match ov with
  | .v w => (match env[i]? with
    | some (.own (.ins c' fs)) => if c' = c ∧ fs.length < 1000 then .nx (env.set i (.own (.ins c (putW f w fs)))) else .bad
    | _ => .bad)
  | _ => .bad := (rfl)
def mkR (env : Ev) : CRes → Res OV
  | .ok .non [o] => .ok (.n o) env
  | .er x _ => .er x env
  | _ => .bad
@[simp] theorem mkR_ok {o : W} : mkR env (.ok .non [o]) = .ok (.n o) env := (rfl)
@[simp] theorem mkR_er {os : List W} : mkR env (.er x os) = .er x env := (rfl)
@[simp] theorem fMake_e {c : Nat} {g : FnD} {fa : AF} : fMake c g fa env = (fa env).bind fun ovs env => match asV ovs with | none => .bad | some ws => mkR env (g (.ins c [] :: ws)) := by
  unfold fMake mkR
  congr 1
@[simp] theorem fNew_e {c n : Nat} {g : FnD} {fa : AF} : fNew c n g fa env = (fa env).bind fun ovs env => if ovs.length = n then fMake c g (fun env => .ok ovs env) env else .bad := (rfl)
@[simp] theorem fDcT_e {it : Ev → Res (List W)} {t : Tg} {c : TF} {ek ev : EF} {vs : List Nat} : fDcT it t c ek ev vs env = (it env).bind fun ws env => match compDT t c ek ev vs ws [] env with | .ok kvs env => .ok (.n (.dct kvs)) env | _ => .bad := (rfl)
@[simp] theorem fDisp1_e {fk fv : EF} : fDisp1 fk fv env = (fE fk env).bind fun a env => (fE fv env).bind fun b env => disp1 env a b := (rfl)
@[simp] theorem disp1_v {kw : W} : disp1 env (.v kw) (.v w) = match keyA kw with | some k => .ok (.n (.dct [(kW k, w)])) env | none => .bad := (rfl)
@[simp] theorem ownD_e {k : Nat} : ownD env k = match env[k]? with | some (.own (.dct ws)) => some ws | _ => none := (rfl)
@[simp] theorem sPutK_e {i : Nat} {fk fe : EF} : sPutK i fk fe env = (fE fe env).andS fun ov env => match ov with
  | .v w => (match ownD env i with
    | none => .bad
    | some _ => (fk env).andS fun ok env => match (getOV ok env).bind keyA with
      | some k => (match ownD env i with
        | some kvs => if isKd kvs = true ∧ kvs.length < 16777216 then .nx (env.set i (.own (.dct (putA kvs k w)))) else .bad
        | none => .bad)
      | none => .bad)
  | _ => .bad := (rfl)
end
end BV

set_option maxRecDepth 100000
set_option maxHeartbeats 4000000
/-! BW: xs[::-1]. -/
namespace BV
open PySem PySem.Spec PyProof.Rows L2
def gRev : W → Option OV
  | .lst xs => some (.n (.lst xs.reverse))
  | _ => none
def fRev (f : EF) : EF := fun env => (f env).bind fun ox env => retOV ((getOV ox env).bind gRev) env
section
variable {X : Cx} {ci : Nat → Addr} {BS : List Nat}
theorem x_rev {e : Expr} {f : EF} {k : Nat} {p1 p2 p3 pos : Pos} (he : SndE X ci BS e f) : SndE X ci BS (.Subscript e (.Slice none none (some (.UnaryOp .USub (.Constant (.int 1) k p1) p2)) p3) pos) (fRev f) := by
  obtain ⟨t1, p1, q1⟩ := he.ex
  refine ⟨⟨fun W' => tRevL X.K (t1 W'), fun W' tk => pe_revL (p1 W' tk), fun W' s Q ok h => ?_⟩⟩
  refine q1 W' s _ ok (h.bind.imp fun ox env1 G1 H1 st1 ok1 h1 => ?_)
  intro v rep new
  have h1 : Acc X.K ci BS W' ⟨env1, s.σ, G1, H1⟩ (CE X.K ci s Q) (retOV ((getOV ox env1).bind gRev) env1) := h1
  cases e1 : getOV ox env1 with
  | none => rw [e1] at h1; exact h1.elim
  | some w =>
    rw [e1] at h1
    have h1 : Acc X.K ci BS W' ⟨env1, s.σ, G1, H1⟩ (CE X.K ci s Q) (retOV (gRev w) env1) := h1
    have c := cur_of ok1 rep e1
    have fin : ∀ {r : Res OV}, Acc X.K ci BS W' ⟨env1, s.σ, G1, H1⟩ (CE X.K ci s Q) r → Acc X.K ci BS W' ⟨env1, s.σ, G1, H1⟩ (CE X.K ci ⟨env1, s.σ, G1, H1⟩ Q) r := fun hr => hr.imp fun ov' env2 G2 H2 st4 ok2 h3 z rz nz => h3 z rz (NewOV.back st1 nz)
    cases w with
    | lst xs =>
      obtain ⟨a, vs, rfl, hh1, r1⟩ := c.lst ok1
      exact ⟨a, vs, rfl, .inl (.inl hh1), fun p hp => ret_lst (W' := W') (s := ⟨env1, s.σ, G1, H1⟩) ok1 (fin h1) r1.rev hp⟩
    | _ => exact h1.elim
@[simp] theorem fRev_e {f : EF} {env : Ev} : fRev f env = (f env).bind fun ox env => retOV ((getOV ox env).bind gRev) env := (rfl)
@[simp] theorem gRev_l {xs : List W} : gRev (.lst xs) = some (.n (.lst xs.reverse)) := (rfl)
end
end BV

set_option maxRecDepth 100000
set_option maxHeartbeats 4000000
/-! BW: a list comprehension whose items want a token to be out. -/
namespace BV
open PySem PySem.Spec PyProof.Rows L2
section
variable {X : Cx}
theorem pet_lc {el tg src : Expr} {cs : List Expr} {sc : Scope} {own : List (Str × Nat)} {pos : Pos} {wi : TI} {g : TG} {tt : TT} {te : TE} (calm : X.calm = true) (ndN : X.N.Nodup) (pi : PI X tg src wi) (bk : BlkOk X.N X.env.scope sc own)
    (pgs : ∀ b : Blk, PG (Cx.at X sc b) tg g) (pts : ∀ b : Blk, PTs (Cx.at X sc b) cs tt) (pes : ∀ b : Blk, PET (Cx.at X sc b) el te) (fs : ∀ x, foldedSetIterable src X.env x = pure x := by intro _; rfl) :
    PET X (.ListComp el [⟨tg, src, cs, 0⟩] sc pos) (tLc wi g tt te (own.map (·.2))) := by
  intro pl u τ P q k0 iv hq
  rw [eval_ListComp]
  have fr : ∀ y ∈ sc.names, y.2 = .free → ∃ c, X.env.cells.lookup y.1 = some c := fun y my e => iv.ok.has _ ((bk.free y my e).elim .inl .inr)
  refine wpAny_comprehension_free rfl fs (closure_ok fr) bk.kind (fun y my e => by rw [bk.uniq y my, e]) ?_
  refine wpAny_with_toks k0 (wpAny_mono (pi.run pl u τ P _ iv hq) (fun x1 u1 r1 k1 => ?_) fun _ _ z _ => z)
  refine wpAny_with_toks k1 (wpAny_mono r1 (fun x2 u2 r2 k2 => ?_) fun _ _ z _ => z)
  obtain ⟨ia, fp, tn, J, P2, rfl, iv2, T, at0, ff2, qJ⟩ := r2
  refine wpAny_newObj_type (newEnv_comp ?_) (by show 0 ≤ sizeLine; decide)
  generalize eL : u2.heap.objs.size = L
  have pL : P2 L = none := iv2.hok.fresh (Nat.le_of_eq eL)
  obtain ⟨mW, ⟨m0, w0⟩, turns⟩ := qJ L pL
  generalize eu3 : ({ u2 with heap := u2.heap.push { cls := .type "list", data := .seq ([] : List Value).toArray } } : Shared) = u3
  have k3 : 1 ≤ u3.toks := by rw [← eu3]; exact k2
  have hp3 : u3.heap = u2.heap.push { cls := .type "list", data := .seq ([] : List Value).toArray } := by rw [← eu3]
  have iv3 : Inv X pl τ (upd P2 L (.lst [])) u3 := by
    rw [← eu3]
    exact iv2.laid (t' := u2.toks) (fun b o e => Heap.get?_push_of_some _ e) (Nat.le_of_eq eL) ⟨Nat.zero_le _, [], 0, .nil, by rw [← eL]; exact Heap.get?_push_size _ rfl⟩
  have old : ∀ b ∈ fp, b < u2.heap.objs.size := fun b mb => (T.obj _ _ at0 b mb).elim fun o e => Heap.lt_size e.1
  have ff3 : ∀ b ∈ fp, FpOk X pl (upd P2 L (.lst [])) b ∧ b < u3.heap.objs.size := fun b mb => by
    have lt := old b mb
    refine ⟨⟨?_, (ff2 b mb).2⟩, by rw [hp3, Heap.size_push]; exact Nat.lt_succ_of_lt lt⟩
    rw [upd_ne (by rw [← eL]; exact Nat.ne_of_lt lt), (ff2 b mb).1]
  have at3 : tn 0 u3.heap := T.keep _ _ _ at0 fun b _ o e => by rw [hp3]; exact Heap.get?_push_of_some _ e
  have iv4 := block_start iv3 bk ndN ff3
  generalize eP3 : upd P2 L (.lst []) = P3 at iv3 iv4 w0 ff3
  generalize ecl : cellsFrom (u3.heap.objs.size + 1) sc.names (cloFrom X.env.cells sc.names []) = cl at iv4
  have pg := pgs ⟨u3, P3, u3.heap.objs.size, cl, fp⟩
  have pt := pts ⟨u3, P3, u3.heap.objs.size, cl, fp⟩
  have pe := pes ⟨u3, P3, u3.heap.objs.size, cl, fp⟩
  have no3 : ∀ b ∈ fp, P3 b = none := fun b mb => (ff3 b mb).1.1
  show codeAny _ _ (.compStart (.ListComp el [⟨tg, src, cs, 0⟩] sc pos) 0 (.ref ia) (.ref L) (compEnvC sc cl u3.heap.objs.size X.env)) (compPost (model X.prog X.w) X.A X.xe none _ (.ref L) u3.heap.objs.size) { u3 with heap := pushCells (u3.heap.push { cls := .type "dict", data := .dict #[] }) sc.names }
  have kE : (compEnvC sc cl u3.heap.objs.size X.env).locals = u3.heap.objs.size := rfl
  generalize eu4 : ({ u3 with heap := pushCells (u3.heap.push { cls := .type "dict", data := .dict #[] }) sc.names } : Shared) = u4 at iv4 ⊢
  have k4 : 1 ≤ u4.toks := by rw [← eu4]; exact k3
  have at4 : tn 0 u4.heap := T.keep _ _ _ at3 fun b _ o e => by
    rw [← eu4]
    exact pushCells_keeps _ _ _ _ (Heap.get?_push_of_some _ e)
  have iv4 : Inv (Cx.at X sc ⟨u3, P3, u3.heap.objs.size, cl, fp⟩) [] (wipe τ (own.map (·.2))) P3 u4 := iv4
  have stay : ∀ {σ' : L2.St} {H' : Hp} {v : Shared}, Inv (Cx.at X sc ⟨u3, P3, u3.heap.objs.size, cl, fp⟩) [] σ' H' v → (∀ b ∈ fp, H' b = none) → ∀ b ∈ fp, FpOk (Cx.at X sc ⟨u3, P3, u3.heap.objs.size, cl, fp⟩) [] H' b := fun {σ' H' v} jv no b mb =>
    ⟨no b mb, (jv.ok.exf b mb).1, jv.ok.exfs b mb, .inl mb, fun x c e => (jv.ok.exf b mb).2 x c e, fun p mp => absurd (show p ∈ ([] : List (Addr × Obj)) ++ [] from mp) (by simp)⟩
  have round : codeAny (model X.prog X.w) X.A (.compLoop (.ListComp el [⟨tg, src, cs, 0⟩] sc pos) 0 (.ref ia) (.ref L) (compEnvC sc cl u3.heap.objs.size X.env)) (compPost (model X.prog X.w) X.A X.xe none (EP X pl τ q) (.ref L) u3.heap.objs.size) u4 := by
    refine compLoop_any (fun n v => ∃ i H', Inv (Cx.at X sc ⟨u3, P3, u3.heap.objs.size, cl, fp⟩) [] (wipe τ (own.map (·.2))) H' v ∧ tn i v.heap ∧ (∀ b ∈ fp, H' b = none) ∧ mW i n H' ∧ 1 ≤ v.toks) ?_ m0 ⟨0, P3, iv4, at4, no3, w0, k4⟩
    rintro n v5 ⟨i, H5, iv5, at5, no5, w5, k5⟩
    rcases turns i n H5 w5 with ⟨stp, qq⟩ | ⟨gon, Nx, hNx, each⟩
    · refine thnF (T.done (Cx.at X sc ⟨u3, P3, u3.heap.objs.size, cl, fp⟩) rfl rfl rfl calm i [] v5 _ H5 (fun _ _ => False) iv5 (stay iv5 no5) at5 stp) fun r v6 ⟨er, iv6⟩ => ?_
      subst er
      have back : Inv X pl τ H5 v6 := iv3.call' (ch := fp) iv6.os iv6.base iv6.hok iv6.bare fun b mb => let z := (ff3 b mb).1.2; ⟨z.2.2.1, z.1, z.2.2.2.1, z.2.2.2.2⟩
      obtain ⟨m, hm, _⟩ := iv6.loc
      obtain ⟨z0, z1, z2, z3, z4, z5⟩ := iv3.fpOk (Nat.le_refl _) (show H5 u3.heap.objs.size = none from iv6.free)
      exact ⟨m, hm, fun h2 sb => ⟨.ref L, H5, back.turned (t' := v6.toks) (fun b o nb e => (sb.2 b nb).trans e) z0 z1 z3 z4 z5, rfl, qq⟩⟩
    · refine wpAny_with_toks k5 (thnF (T.item (Cx.at X sc ⟨u3, P3, u3.heap.objs.size, cl, fp⟩) rfl rfl rfl calm i [] v5 _ H5 (fun _ _ => False) iv5 (stay iv5 no5) at5 gon) fun r v6 ⟨xv, er, r6⟩ k6 => ?_)
      subst er
      refine wpAny_with_toks k6 (thnF r6 fun _ v7 ⟨x, H7, iv7, rx, yx, at7, no7⟩ k7 => ?_)
      refine wpAny_with_toks k7 (thnF (pg.run _ v7 _ H7 x xv _ (iv7.pinned (stay iv7 no7) (T.obj _ _ at7)) rx (each x H7 yx)) fun _ v8 ⟨τ8, H8, iv8, hw8, q8⟩ k8 => ?_)
      refine wpAny_with_toks k8 (thnF (pt.run _ v8 τ8 H8 _ iv8 q8) fun c v9 ⟨H9, iv9, q9⟩ k9 => ?_)
      have over : ∀ {v : Shared} {H' : Hp}, Inv (Cx.at X sc ⟨u3, P3, u3.heap.objs.size, cl, fp⟩) ([] ++ pinsAt fp v7.heap) τ8 H' v → Nx H' → 1 ≤ v.toks → ∃ m, m < n ∧ ∃ i H', Inv (Cx.at X sc ⟨u3, P3, u3.heap.objs.size, cl, fp⟩) [] (wipe τ (own.map (·.2))) H' v ∧ tn i v.heap ∧ (∀ b ∈ fp, H' b = none) ∧ mW i m H' ∧ 1 ≤ v.toks := fun {v H'} jv nx kv => by
        obtain ⟨m1, lt, w1⟩ := hNx H' nx
        have same : ∀ b ∈ fp, ∀ o, v7.heap.get? b = some o → v.heap.get? b = some o ∧ H' b = none := fun b mb o e => (jv.pin (b, o) (List.mem_append_right _ (List.mem_append_right _ (mem_pinsAt mb e)))).imp id And.left
        refine ⟨m1, lt, i + 1, H', (jv.unpinned (pins := [])).weak (by rw [← hw8, wipe_length]) (fun j y e => ?_), T.keep _ _ _ at7 fun b mb o e => (same b mb o e).1, fun b mb => (T.obj _ _ at7 b mb).elim fun o e => (same b mb o e.1).2, w1, kv⟩
        rw [← hw8] at e
        exact (wipe_some e).1
      cases c with
      | false =>
        simp only [Bool.false_eq_true, if_false] at q9 ⊢
        exact over iv9 q9 k9
      | true =>
        simp only [if_true] at q9 ⊢
        refine wpAny_with_toks k9 (thnF (pe _ v9 τ8 H9 _ k9 iv9 q9) fun z v10 ⟨y, H10, iv10, r10, acc, hL, hz, nx⟩ k10 => ?_)
        exact wpAny_with_toks k10 (app_ok (X := Cx.at X sc ⟨u3, P3, u3.heap.objs.size, cl, fp⟩) iv10 hL hz r10 fun v11 iv11 k11 => over iv11 nx k11)
  exact codeAny_compStart_list round (T.self X.A 0 _ _ _ at4 round)
end
end BV

set_option maxRecDepth 100000
set_option maxHeartbeats 4000000
/-! BW: x.replace(y, z) of written texts, where a token is out: in a def's own lines. -/
namespace BV
open PySem PySem.Spec PyProof.Rows L2
def gRepl (y z : Str) : W → Option OV
  | .str x => if x.length + (x.length + 1) * z.length ≤ 16777216 then some (.v (.str (Txt.replace x y z))) else none
  | _ => none
def fRepl (y z : Str) (f : EF) : EF := fun env => (f env).bind fun ov env => retOV ((getOV ov env).bind (gRepl y z)) env
section
variable (X : Cx) (ci : Nat → Addr) (BS : List Nat)
structure SndET (e : Expr) (f : EF) : Prop where
  ex : ∃ te : WX → TE, (∀ W', Takes X W' → PET X e (te W')) ∧ ∀ (W' : WX) (s : Sta) (Q : VK), Ok X.K ci s → Acc X.K ci BS W' s (CE X.K ci s Q) (f s.env) → te W' s.σ s.H Q
structure SndAT (es : List Expr) (f : AF) : Prop where
  ex : ∃ te : WX → TA, (∀ W', Takes X W' → PAT X es (te W')) ∧ ∀ (W' : WX) (s : Sta) (Q : List V → Hp → Prop), Ok X.K ci s → Acc X.K ci BS W' s (CA X.K ci s Q) (f s.env) → te W' s.σ s.H Q
structure SndST (st : Stmt) (f : SF) : Prop where
  ex : ∃ ts : WX → TS, (∀ W', Takes X W' → PST X st (ts W')) ∧ ∀ (W' : WX) (s : Sta) (D : Ends), Ok X.K ci s → AccS X.K ci BS W' s D (f s.env) → ts W' D s.σ s.H
structure SndSsT (st : List Stmt) (f : SF) : Prop where
  ex : ∃ ts : WX → TS, (∀ W', Takes X W' → PSsT X st (ts W')) ∧ ∀ (W' : WX) (s : Sta) (D : Ends), Ok X.K ci s → AccS X.K ci BS W' s D (f s.env) → ts W' D s.σ s.H
end
section
variable {X : Cx} {ci : Nat → Addr} {BS : List Nat} {o e : Expr} {f fe : EF} {c : Expr} {tc : TF} {a b rest : List Stmt} {g sf sg : SF} {st : Stmt} {pos : Pos}
theorem et_of (h : SndE X ci BS e f) : SndET X ci BS e f := by
  obtain ⟨t, p, q⟩ := h.ex
  exact ⟨⟨t, fun W' tk => CwR.PET.of (p W' tk), q⟩⟩
theorem et_repl {y z : Str} {j k : Nat} {c0 c1 apos p : Pos} (ho : SndE X ci BS o f) (ne : (y == z) = false := by decide)
    (hst : starEach [.Constant (.str y) j c0, .Constant (.str z) k c1] X.env = [(false, eval (.Constant (.str y) j c0) X.env), (false, eval (.Constant (.str z) k c1) X.env)] := by rfl)
    (hbase : attributeBase o "replace" X.env (eval o X.env) = eval o X.env := by rfl) (hline : (apos.endLine == p.line) = true := by rfl) :
    SndET X ci BS (.Call (.Attribute o "replace" apos) [.Constant (.str y) j c0, .Constant (.str z) k c1] [] p) (fRepl y z f) := by
  obtain ⟨t, pp, q⟩ := ho.ex
  refine ⟨⟨fun W' => CwR.tReplC (t W') y z, fun W' tk => CwR.pet_replC (pp W' tk) ne hst hbase hline, fun W' s Q ok h => ?_⟩⟩
  refine q W' s _ ok (h.bind.imp fun ox env1 G1 H1 st1 ok1 h1 => ?_)
  intro v rep new
  have h1 : Acc X.K ci BS W' ⟨env1, s.σ, G1, H1⟩ (CE X.K ci s Q) (retOV ((getOV ox env1).bind (gRepl y z)) env1) := h1
  cases e1 : getOV ox env1 with
  | none => rw [e1] at h1; exact h1.elim
  | some w =>
    rw [e1] at h1
    have h1 : Acc X.K ci BS W' ⟨env1, s.σ, G1, H1⟩ (CE X.K ci s Q) (retOV (gRepl y z w) env1) := h1
    have cv := cur_of ok1 rep e1
    cases w with
    | str x =>
      unfold gRepl at h1
      dsimp only at h1
      by_cases hz : x.length + (x.length + 1) * z.length ≤ 16777216
      · rw [if_pos hz] at h1
        exact ⟨x, cv.str, hz, ret_same (W' := W') (s := ⟨env1, s.σ, G1, H1⟩) ok1 (h1.imp fun ov' env2 G2 H2 st4 ok2 h3 z rz nz => h3 z rz (NewOV.back st1 nz)) (.str _)⟩
      · rw [if_neg hz] at h1
        exact h1.elim
    | _ => exact h1.elim
theorem et_esc (ha : SndET X ci BS e f) : SndET X ci BS e (fE f) := by
  obtain ⟨ta, pa, qa⟩ := ha.ex
  refine ⟨⟨ta, pa, fun W' s Q ok h => qa W' s Q ok ?_⟩⟩
  unfold fE at h
  cases e1 : f s.env with
  | bad => rw [e1] at h; exact h
  | er x env' => rw [e1] at h; exact h
  | ok ov env' =>
    rw [e1] at h
    cases ov with
    | v w => exact h
    | s i => exact h.elim
    | n w =>
      intro G' H' st ok' v rep new
      obtain ⟨p, rfl, ro, gp, no⟩ := rep
      obtain ⟨G2, s1, ok2, rv, same⟩ := freeze_new ok' ro gp no
      refine h G2 H' ⟨st.sub.trans s1, st.keep, fun c hc gc no' => ?_, st.here, st.new, st.bs⟩ ok2 (.ref p) rv trivial
      have hp : s.H p = none := new p rfl
      show G2 c = none
      rw [same c fun z => hc (z ▸ hp)]
      exact st.pers c hc gc no'
theorem PET.imp {t t' : TE} (h : PET X e t) (k : ∀ σ H Q, t' σ H Q → t σ H Q) : PET X e t' := fun pins s σ H Q k0 I hw => h pins s σ H Q k0 I (k σ H Q hw)
theorem et_lc {elt tg iter : Expr} {ifs : List Expr} {scope : Scope} {own : List (Str × Nat)} {it : Ev → Res (List W)} {t : Tg} {cc : TF} {el : EF} (hc : X.calm = true) (hN : X.N.Nodup) (hi : SndI X ci BS tg iter it) (ok : BlkOk X.N X.env.scope scope own) (hg : ∀ b : Blk, SndG (Cx.at X scope b) ci BS tg t) (ht : SndIfs X ci BS scope ifs cc) (he : ∀ b : Blk, SndET (Cx.at X scope b) ci BS elt el)
    (hv : ∀ i ∈ BS, i ∉ own.map (·.2)) (hidx : ∀ j ∈ idxT t, j ∈ own.map (·.2)) (hs : ∀ x, foldedSetIterable iter X.env x = pure x := by intro _; rfl) : SndET X ci BS (.ListComp elt [⟨tg, iter, ifs, 0⟩] scope pos) (fLc it t cc el (own.map (·.2))) := by
  obtain ⟨wi, pi, qi⟩ := hi.ex
  obtain ⟨tt, pt, qt⟩ := ht.ex
  have he' : ∀ b : Blk, SndET (Cx.at X scope b) ci BS elt (fE el) := fun b => et_esc (he b)
  refine ⟨⟨fun W' => tLc (wi W') (fun v σ H Q => ∀ b, (hg b).ex.choose v σ H Q) tt (fun σ H Q => ∀ b, (he' b).ex.choose (fun _ _ _ _ => False) σ H Q) (own.map (·.2)), fun W' tk => ?_, fun W' s Q ok h => ?_⟩⟩
  · exact pet_lc hc hN (pi W' tk) ok (fun b => PG.imp ((hg b).ex.choose_spec.1) fun v σ H Q z => z _) pt (fun b => PET.imp ((he' b).ex.choose_spec.1 _ takes0) fun σ H Q z => z _) hs
  · exact lc_core' qi (g := fun v σ H Q => ∀ b, (hg b).ex.choose v σ H Q) (fun s v w env' Q ok r e o b => (hg b).ex.choose_spec.2 s v w env' Q ok r e o) qt (te := fun σ H Q => ∀ b, (he' b).ex.choose (fun _ _ _ _ => False) σ H Q) (fun s Q ok a b => (he' b).ex.choose_spec.2 _ s Q ok a) hv hidx W' s Q ok h
theorem at_one (ha : SndET X ci BS e f) (hs : starEach [e] X.env = [(false, eval e X.env)] := by rfl) : SndAT X ci BS [e] (fCons f fNil) := by
  obtain ⟨t, p, q⟩ := ha.ex
  refine ⟨⟨fun W' => tCons (t W') tNil, fun W' tk => pat_cons (p W' tk) pat_nil (by rw [hs]; rfl), fun W' s Q ok h => ?_⟩⟩
  refine q W' s _ ok (h.bind.imp fun ox env1 G1 H1 st1 ok1 h1 => ?_)
  intro v rep new
  exact h1 G1 H1 Step.refl ok1 [v] (.cons rep .nil)
theorem pet_callTy {T : String} {x : Str} {p : Pos} {es : List Expr} {t : TA} {r : List V → Hp → VK → Prop} (hc : CallR X (.type T) r) (hg : Gl X x) (hm : X.mg x = none) (hv : bootBuiltins x = some (.type T)) (ha : PAT X (e :: es) t) (hn : x ≠ "__name__") (hdb : (x == ("__debug__" : Str)) = false)
    (he : starEach (e :: es) X.env = (false, eval e X.env) :: starEach es X.env) (hpl : (backTo pos (starEach es X.env)).any (·.1) = false) : PET X (.Call (.Name x p) (e :: es) [] pos) (tCB r t) := by
  intro pl u τ P q k0 iv hq
  refine wpAny_Call_Name_kw (ld_blt iv hg hm hv ?_ hn hdb)
  exact PyProof.Rows.callWith_type1 (thn (ha pos pl u τ P _ k0 iv hq) fun us u1 ⟨vs, P1, iv1, r1, q1⟩ => hc pl u1 τ P1 vs us q iv1 r1 q1) he hpl
theorem et_callTy {T : String} {gg : List W → Option OV} {x : Str} {p : Pos} {es : List Expr} {fr : AF} (hc : CallS X ci BS (.type T) gg) (hg : Gl X x) (hm : X.mg x = none) (hv : bootBuiltins x = some (.type T)) (ha : SndAT X ci BS (e :: es) fr) (hn : x ≠ "__name__" := by decide) (hdb : (x == ("__debug__" : Str)) = false := by decide)
    (he : starEach (e :: es) X.env = (false, eval e X.env) :: starEach es X.env := by rfl) (hpl : (backTo pos (starEach es X.env)).any (·.1) = false := by rfl) : SndET X ci BS (.Call (.Name x p) (e :: es) [] pos) (fB gg fr) := by
  obtain ⟨t, pp, q⟩ := ha.ex
  obtain ⟨r, pr, qr⟩ := hc
  exact ⟨⟨fun W' => tCB r (t W'), fun W' tk => pet_callTy pr hg hm hv (pp W' tk) hn hdb he hpl, fun W' s Q ok h => call_core q qr W' s Q ok h⟩⟩
theorem st_of (h : SndS X ci BS st sf) : SndST X ci BS st sf := by
  obtain ⟨t, p, q⟩ := h.ex
  exact ⟨⟨t, fun W' tk => PST.of (p W' tk), q⟩⟩
theorem sst_of (h : SndSs X ci BS rest sf) : SndSsT X ci BS rest sf := by
  obtain ⟨t, p, q⟩ := h.ex
  exact ⟨⟨t, fun W' tk => PSsT.of (p W' tk), q⟩⟩
theorem st_ret (he : SndET X ci BS e fe) : SndST X ci BS (.Return (some e) pos) (sRet fe) := by
  obtain ⟨t, p, q⟩ := (et_esc he).ex
  refine ⟨⟨fun W' => tRet (t W'), fun W' tk => CwR.pst_ret (p W' tk), fun W' s D ok h => ?_⟩⟩
  refine q W' s _ ok (h.andS.imp fun ov env1 G1 H1 st1 ok1 h1 => ?_)
  intro v rep new
  cases ov with
  | v w => exact h1 s.σ G1 H1 v Step.refl ok1 rep
  | _ => exact h1.elim
theorem st_if (hc : SndT X ci BS c tc) (ha : SndSsT X ci BS a sf) (hb : SndSsT X ci BS b sg) : SndST X ci BS (.If c a b pos) (sIf tc sf sg) := by
  obtain ⟨t, p, q⟩ := hc.ex
  obtain ⟨t1, p1, q1⟩ := ha.ex
  obtain ⟨t2, p2, q2⟩ := hb.ex
  refine ⟨⟨fun W' => tIfS (t W') (t1 W') (t2 W'), fun W' tk => CwR.pst_if (p W' tk) (p1 W' tk) (p2 W' tk), fun W' s D ok h => ?_⟩⟩
  refine q W' s _ ok (h.andS.imp fun d env1 G1 H1 st1 ok1 h1 => ?_)
  cases d with
  | true => exact q1 W' ⟨env1, s.σ, G1, H1⟩ D ok1 h1
  | false => exact q2 W' ⟨env1, s.σ, G1, H1⟩ D ok1 h1
theorem sst_cons (h1 : SndST X ci BS st sf) (h2 : SndSsT X ci BS rest sg) : SndSsT X ci BS (st :: rest) (sSeq sf sg) := by
  obtain ⟨t, p, q⟩ := h1.ex
  obtain ⟨t', p', q'⟩ := h2.ex
  refine ⟨⟨fun W' => tSeq (t W') (t' W'), fun W' tk => psst_cons (p W' tk) (p' W' tk), fun W' s D ok h => ?_⟩⟩
  exact q W' s _ ok (acc_seq h fun env' σ' G' H' st ok' h' => q' W' ⟨env', σ', G', H'⟩ D ok' h')
theorem sst_one (h1 : SndST X ci BS st sf) : SndSsT X ci BS [st] sf := by
  obtain ⟨t, p, q⟩ := h1.ex
  exact ⟨⟨t, fun W' tk => CwR.psst_one (p W' tk), q⟩⟩
end
section
variable {P : Program} {w : World} {K : PySem.W.Frag} {mg : Str → Option Value} {base : Heap} {ci : Nat → Addr}
/-- THE RULE of a def, a token being out when its lines begin -/
theorem fn_okT {x qual : Str} {st : Stmt} {f : Addr} {fd : FuncData} {N ps : List Str} {k : Nat} {ks : List Bool} {sf : SF} (F : Fun K x qual st f fd) (S : FnScope N ps (defScope st)) (hk : ks.length = ps.length) (nc : ∀ y ∈ (defScope st).names, y.2 ≠ .cell) (np : 1 ≤ ps.length)
    (body : ∀ (cdv : Value) (A : Around) (outer : List Env) (s : Shared) (H : Hp) (E : XK), RoomG k (A.deeper (envOfC qual (defScope st) s.heap.objs.size f cdv)) → SndSsT (cxOf (L2.CX P w) P w K mg base N qual (defScope st) f cdv A outer s H E) ci (ioIdx 0 ks) (defBody st) sf) :
    FnOkG P w K mg base (L2.CX P w) (k + 1) f fd ps (spF K ci ks (fdef N.length ks sf)) := by
  obtain ⟨oc, od, kV, doc, pm, an, cdv, ct, osl, rfl, lk, hcd⟩ := F.ex
  refine fn_ofTG lk hcd S nc np (fun vs H Q E ⟨G, args, _, r, _⟩ => by rw [r.len.1, hk]) (fun A outer s H vs Q E hr hsp => ?_)
  obtain ⟨G, args, sub, ar, nd, acc⟩ := hsp
  obtain ⟨ts, p, q⟩ := (body cdv A outer s H E hr).ex
  refine ⟨ts fun cls d _ H => E cls d H, p _ (takes_of rfl rfl rfl rfl), ?_⟩
  refine q (fun cls d _ H => E cls d H) ⟨argEnv ks args ++ List.replicate (N.length - args.length) Sl.no, L2.start N vs, G, H⟩ _ (start_ok sub ar nd) ?_
  unfold fdef at acc
  cases e : sf (argEnv ks args ++ List.replicate (N.length - args.length) Sl.no) with
  | bad => rw [e] at acc; exact acc.elim
  | bk env => rw [e] at acc; exact acc.elim
  | ct env => rw [e] at acc; exact acc.elim
  | nx env =>
    rw [e] at acc
    dsimp only at acc
    cases e2 : outsE env (ioIdx 0 ks) with
    | none => rw [e2] at acc; exact acc.elim
    | some os =>
      rw [e2] at acc
      intro σ' G' H' st' ok'
      obtain ⟨c1, c2⟩ := cstep_of ar st' ok'
      exact acc G' H' .non c1 (c2 _ e2) .non
  | rt r env =>
    rw [e] at acc
    dsimp only at acc
    cases e2 : outsE env (ioIdx 0 ks) with
    | none => rw [e2] at acc; exact acc.elim
    | some os =>
      rw [e2] at acc
      intro σ' G' H' v st' ok' rv
      obtain ⟨c1, c2⟩ := cstep_of ar st' ok'
      exact acc G' H' v c1 (c2 _ e2) rv
  | rn r env =>
    rw [e] at acc
    dsimp only at acc
    cases e2 : outsE env (ioIdx 0 ks) with
    | none => rw [e2] at acc; exact acc.elim
    | some os =>
      rw [e2] at acc
      intro σ' G' H' a st' ok' ro ga no nw
      obtain ⟨c1, c2⟩ := cstep_of ar st' ok'
      refine acc G' H' a c1 (c2 _ e2) ro ga ?_
      rcases nw with z | ⟨j, hj, z⟩
      · exact z
      · exact absurd (start_own ar z).1 hj
  | er x env =>
    rw [e] at acc
    dsimp only at acc
    cases e2 : outsE env (ioIdx 0 ks) with
    | none => rw [e2] at acc; exact acc.elim
    | some os =>
      rw [e2] at acc
      intro σ' G' H' cls d st' ok' rx
      obtain ⟨c1, c2⟩ := cstep_of ar st' ok'
      exact acc G' H' cls d c1 (c2 _ e2) rx
end
end BV

set_option maxRecDepth 100000
set_option maxHeartbeats 4000000
/-! BW: text * number; an own ==; isinstance of an own class. -/
namespace BV
open PySem PySem.Spec PyProof.Rows L2
@[simp] theorem fRepl_e {y z : Str} {f : EF} {env : Ev} : fRepl y z f env = (f env).bind fun ov env => retOV ((getOV ov env).bind (gRepl y z)) env := (rfl)
/-! text * number -/
def repS (k : Nat) (x : Str) : Str := ⟨(List.replicate k x.cps).foldl (· ++ ·) #[]⟩
theorem rep_fold : ∀ (k : Nat) (acc : Array Nat) (l : List Nat), (List.replicate k l.toArray).foldl (· ++ ·) acc = acc ++ (List.replicate k l).flatten.toArray
  | 0, acc, l => by simp
  | k + 1, acc, l => by
    rw [List.replicate_succ, List.foldl_cons, rep_fold k, List.replicate_succ, List.flatten_cons]
    simp
theorem repS_cps {k : Nat} {x : Str} : (repS k x).cps.toList = (List.replicate k x.cps.toList).flatten := by
  have h := rep_fold k #[] x.cps.toList
  have e : x.cps.toList.toArray = x.cps := by simp
  rw [e] at h
  show ((List.replicate k x.cps).foldl (· ++ ·) #[]).toList = _
  rw [h]
  simp
theorem repS_len {k : Nat} {x : Str} : (repS k x).length = k * x.length := by
  have h := congrArg List.length (repS_cps (k := k) (x := x))
  rw [PyProof.Rows.lm_len_rep_flat] at h
  simpa [Str.length] using h
def gMulS : W → W → Option OV
  | .str x, .int k => if 2 ≤ k ∧ k ≤ 1000 ∧ 1 ≤ x.length ∧ x.length ≤ 1000 then some (.v (.str (repS k.toNat x))) else none
  | _, _ => none
def gMulX : W → W → Option OV := orG gMul gMulS
section
variable {X : Cx} {ci : Nat → Addr} {BS : List Nat}
theorem op_repS : OpR X (binaryOp .Mult) (fun x y H Q => ∃ z k, x = .str z ∧ y = .int k ∧ 2 ≤ k ∧ k ≤ 1000 ∧ 1 ≤ z.length ∧ z.length ≤ 1000 ∧ Q (.str (repS k.toNat z)) H) := by
  intro pl u τ P x y v v' q iv rx ry h
  obtain ⟨z, k, rfl, rfl, k2, k3, z1, z2, hq⟩ := h
  obtain ⟨t, rfl⟩ := rx
  obtain ⟨t', rfl⟩ := ry
  have n1 : ¬ k < 1 := by omega
  have e1 : (k == 1 || z.length == 0) = false := by
    rw [Bool.or_eq_false_iff]
    exact ⟨beq_eq_false_iff_ne.2 (by omega), beq_eq_false_iff_ne.2 (by omega)⟩
  have lt : z.length * k.toNat ≤ 1000 * 1000 := Nat.mul_le_mul z2 (by omega)
  have tl : Builtin.Str.tooLong (z.length * k.toNat) = false := by
    unfold Builtin.Str.tooLong
    rw [sizeLine_eq]
    exact decide_eq_false (by omega)
  refine PySem.P.mul_str ?_ (fun _ _ => ?_) (fun _ _ => tl) ?_
  · rw [decide_eq_false (by omega), decide_eq_false (by omega)]
    rfl
  · have e : (z.length : Int) * k ≤ 1000 * 1000 := by
      have h : ((z.length * k.toNat : Nat) : Int) ≤ ((1000 * 1000 : Nat) : Int) := Int.ofNat_le.2 lt
      rw [Int.natCast_mul, Int.toNat_of_nonneg (by omega)] at h
      exact h
    have d : (z.length : Int) ≤ (2 ^ 63 - 1) / k := (Int.le_ediv_iff_mul_le (by omega)).2 (by omega)
    omega
  · rw [if_neg n1, if_neg (by rw [e1]; exact Bool.false_ne_true)]
    exact ⟨(by show (repS k.toNat z).length ≤ sizeLine; rw [repS_len, sizeLine_eq]; rw [Nat.mul_comm] at lt; omega), .str (repS k.toNat z), P, iv.tok _, ⟨_, rfl⟩, hq⟩
theorem o_mulX : OpS X ci BS (binaryOp .Mult) gMulX := o_mul.or ⟨_, op_repS, fun W' s x y wx wy ov Q ok cx cy e h => by
  cases wx with
  | str z =>
    cases wy with
    | int k =>
      unfold gMulS at e
      dsimp only at e
      by_cases c : 2 ≤ k ∧ k ≤ 1000 ∧ 1 ≤ z.length ∧ z.length ≤ 1000
      · rw [if_pos c] at e
        cases e
        exact ⟨z, k, cx.str, cy.int, c.1, c.2.1, c.2.2.1, c.2.2.2, ret_same ok h (.str _)⟩
      · rw [if_neg c] at e
        cases e
    | _ => cases e
  | _ => cases e⟩
end
end BV

set_option maxRecDepth 100000
set_option maxHeartbeats 4000000
/-! BW: an own ==; isinstance of an own class. -/
namespace BV
open PySem PySem.Spec PyProof.Rows L2
/-- what is known of a class whose instances are asked for: its instances' class -/
structure IsC (K : PySem.W.Frag) (C : Addr) : Prop where
  cl : Cls K C
  ha : PySem.W.findIn K (.ref C) "__class__" = some (some (.builtin "object.__class__"))
  hn : PySem.W.specialIn K (.builtin "object.__class__") "__get__" = some (some (.builtin "getset_descriptor.__get__"))
  ht : PySem.W.takesIn K (.builtin "object.__class__") = some true
  hm : PySem.W.mroIn K C (.type "object") = some true
  tup : PySem.W.kitOne K (.type "tuple") (.ref C) = some false
structure EqC (K : PySem.W.Frag) (C f : Addr) : Prop where
  s : PySem.W.findIn K (.ref C) "__eq__" = some (some (.ref f))
  f : PySem.W.isFn K (.ref f) = true
  nt : PySem.W.notFirst K C (.type "tuple") = true
def gIsiC (c : Nat) : List W → Option OV
  | [.ins c' _] => if c' = c then some (.v (.bl true)) else none
  | [.tup _] => some (.v (.bl false))
  | _ => none
/-- what an own == may meet here -/
def mate (c : Nat) : W → Bool
  | .ins c' _ => decide (c' = c)
  | .tup _ => true
  | _ => false
def fEqC (c : Nat) (d : FnD) (f g : EF) : EF := fun env => (fE f env).bind fun x env => (fE g env).bind fun y env => match x, y with
  | .v (.ins c' fs), .v w => if c' = c ∧ mate c w = true then (match d [.ins c' fs, w] with
    | .ok (.bl b) [] => .ok (.v (.bl b)) env
    | _ => .bad) else .bad
  | _, _ => .bad
section
variable {X : Cx} {ci : Nat → Addr} {BS : List Nat} {e e2 : Expr} {f g : EF} {p p2 pos : Pos}
theorem x_isiC {c : Nat} {y : Str} (hc : IsC X.K (ci c)) (hgi : Gl X "isinstance") (hmi : X.mg "isinstance" = none) (hvi : bootBuiltins "isinstance" = some (.builtin "isinstance")) (hg : Gl X y) (hm : X.mg y = some (.ref (ci c))) (ha : SndE X ci BS e f) (hd : (y == ("__debug__" : Str)) = false := by decide)
    (hs1 : starEach [e, .Name y p2] X.env = (false, eval e X.env) :: starEach [.Name y p2] X.env := by rfl) (hs2 : starEach [.Name y p2] X.env = (false, eval (.Name y p2) X.env) :: starEach [] X.env := by rfl) (hpl : (backTo pos (starEach [.Name y p2] X.env)).any (·.1) = false := by rfl) :
    SndE X ci BS (.Call (.Name "isinstance" p) [e, .Name y p2] [] pos) (fB (gIsiC c) (fCons f fNil)) := by
  obtain ⟨te, pp, q⟩ := ha.ex
  refine ⟨⟨fun W' => tCB (rIsi X.K) (tCons (te W') (tCons (tC (.ref (ci c))) tNil)), fun W' tk => pe_callB call_isi hgi hmi hvi (pa_cons (pp W' tk) (pa_cons (pe_glob hg hm rfl hd) pa_nil hs2) hs1) (by decide) (by decide) hs1 hpl, fun W' s Q ok h => ?_⟩⟩
  refine q W' s _ ok (h.bind.bind.imp fun ox env1 G1 H1 st1 ok1 h1 => ?_)
  intro v rep new
  have h1 : Acc X.K ci BS W' ⟨env1, s.σ, G1, H1⟩ (CE X.K ci s Q) (retOV ((getOVs [ox] env1).bind (gIsiC c)) env1) := h1 G1 H1 Step.refl ok1
  cases e1 : getOV ox env1 with
  | none => unfold getOVs at h1; rw [e1] at h1; exact h1.elim
  | some w =>
    unfold getOVs at h1
    rw [e1] at h1
    have h1 : Acc X.K ci BS W' ⟨env1, s.σ, G1, H1⟩ (CE X.K ci s Q) (retOV (gIsiC c [w]) env1) := h1
    have cv := cur_of ok1 rep e1
    have fin : ∀ {b : Bool}, Acc X.K ci BS W' ⟨env1, s.σ, G1, H1⟩ (CE X.K ci s Q) (.ok (.v (.bl b)) env1) → Q (.bl b) H1 := fun {b} hr => ret_same (W' := W') (s := ⟨env1, s.σ, G1, H1⟩) ok1 (hr.imp fun ov' env4 G4 H4 st4 ok4 h4 z rz nz => h4 z rz (NewOV.back st1 nz)) (.bl _)
    cases w with
    | ins c' fs =>
      have h2 : Acc X.K ci BS W' ⟨env1, s.σ, G1, H1⟩ (CE X.K ci s Q) (retOV (if c' = c then some (.v (.bl true)) else none) env1) := h1
      by_cases z : c' = c
      · rw [if_pos z] at h2
        subst z
        obtain ⟨a, dx, vs, rfl, hH, _⟩ := cv.ins ok1
        exact ⟨.ref a, .ref (ci c'), .ref (ci c'), .ref (ci c'), true, rfl, .own _, .base (.ins hH hc.cl hc.ha hc.hn hc.ht hc.hm), by unfold PySem.W.kitOne; rw [if_pos (by simp)], fin h2⟩
      · rw [if_neg z] at h2
        exact h2.elim
    | tup ws => exact ⟨v, .ref (ci c), .type "tuple", .ref (ci c), false, rfl, .own _, ty_of ok1 cv rfl, hc.tup, fin h1⟩
    | _ => exact h1.elim
/-- ==, the left one an instance at C with its own ==, the right one an instance of the same class, or a tuple -/
def rEqC (K : PySem.W.Frag) (C : Addr) (sp : Sp) : R2 := fun x y H Q => ∃ a dx fs, x = .ref a ∧ H a = some (.ins C dx fs) ∧ (∃ b, y = .ref b ∧ ((∃ dy gs, H b = some (.ins C dy gs)) ∨ ∃ zs, H b = some (.tup zs))) ∧ sp [x, y] H (fun v H' => ∃ b, v = .bl b ∧ Q v H') fun _ _ _ => False
theorem op_eqC {C fa : Addr} {fd : FuncData} {ps : List Str} {k : Nat} {sp : Sp} (F : FnOkG X.prog X.w X.K X.mg X.base (L2.CX X.prog X.w) k fa fd ps sp) (hr : RoomG k X.A) (hb : Binds X.K fd ps []) (hq : EqC X.K C fa) : OpR X (compareOp .Eq) (rEqC X.K C sp) := by
  intro pl u τ P x y v v' q iv rx ry h
  obtain ⟨a, dx, fs, rfl, hA, ⟨b, rfl, hB⟩, hs⟩ := h
  cases rx
  cases ry
  obtain ⟨mA, J, _⟩ := ins_get iv.hok hA
  obtain ⟨od, J, _⟩ := J.look
  obtain ⟨m, hF⟩ := iv.fr
  have key : ∃ tb, PySem.W.Looks (model X.prog X.w) u.heap (typeOf (.ref b)) tb ∧ PySem.W.notFirst X.K C tb = true := by
    rcases hB with ⟨dy, gs, hB⟩ | ⟨zs, hB⟩
    · obtain ⟨mB, J', _⟩ := ins_get iv.hok hB
      obtain ⟨od', J', _⟩ := J'.look
      exact ⟨_, J'.type, by simp [PySem.W.notFirst]⟩
    · obtain ⟨_, _, _, o, h1, h2, _⟩ := (show ObjOk X.prog X.w P u.heap b (.tup zs) from iv.hok b _ hB)
      exact ⟨.type "tuple", h2 ▸ (PySem.W.Looks.ld h1).andThen .now, hq.nt⟩
  obtain ⟨tb, lk, nf⟩ := key
  show wpAny (model X.prog X.w) X.A (richCompare .Eq (.ref a) (.ref b)) (EP X pl τ q) X.xe u
  refine PySem.W.cmp_K (op := .Eq) (tb := tb) hr.units0 hF iv.ok.mod.kin J lk nf hq.s hq.f ?_
  refine wpAny_mono (run_fnG (vs := [V.ref a, V.ref b]) (E := fun _ => fun _ _ _ => False) F hr hb (passAt takes0 τ) iv (.cons rfl (.cons rfl .nil)) hs) (fun z u2 hz => ?_) fun _ _ z => z
  obtain ⟨z', P', iv', rz, ⟨bb, rfl, hq'⟩⟩ := hz
  cases rz
  exact ⟨.bl bb, P', iv', rfl, hq'⟩
variable {a b : Expr} {fa fb : EF}
theorem eqC_core {c : Nat} {d : FnD} {C fa' : Addr} (hC : C = ci c) {ta tb : WX → TE} (qa : ∀ (W' : WX) (s : Sta) (Q : VK), Ok X.K ci s → Acc X.K ci BS W' s (CE X.K ci s Q) (fE fa s.env) → ta W' s.σ s.H Q)
    (qb : ∀ (W' : WX) (s : Sta) (Q : VK), Ok X.K ci s → Acc X.K ci BS W' s (CE X.K ci s Q) (fE fb s.env) → tb W' s.σ s.H Q) (W' : WX) (s : Sta) (Q : VK) (ok : Ok X.K ci s) (h : Acc X.K ci BS W' s (CE X.K ci s Q) (fEqC c d fa fb s.env)) :
    tOp (rEqC X.K C (spF X.K ci [false, false] d)) (ta W') (tb W') s.σ s.H Q := by
  subst hC
  refine qa W' s _ ok (h.bind.imp fun ox env1 G1 H1 st1 ok1 h1 => ?_)
  intro v rep new
  refine qb W' ⟨env1, s.σ, G1, H1⟩ _ ok1 (h1.bind.imp fun oy env2 G2 H2 st2 ok2 h2 => ?_)
  intro v2 rep2 new2
  cases ox with
  | v w1 =>
    cases w1 with
    | ins c' fs =>
      cases oy with
      | v w =>
        have h3 : Acc X.K ci BS W' ⟨env2, s.σ, G2, H2⟩ (CE X.K ci s Q) (if c' = c ∧ mate c w = true then (match d [.ins c' fs, w] with
          | .ok (.bl b) [] => .ok (.v (.bl b)) env2
          | _ => .bad) else .bad) := h2
        by_cases z : c' = c ∧ mate c w = true
        · rw [if_pos z] at h3
          obtain ⟨rfl, z⟩ := z
          have r1 : RepV X.K ci G2 v (.ins c' fs) := RepV.mono st2.sub rep
          have r2 : RepV X.K ci G2 v2 w := rep2
          have key : spF X.K ci [false, false] d [v, v2] H2 (fun v H' => ∃ b, v = .bl b ∧ Q v H') fun _ _ _ => False := by
            refine ⟨G2, [.ins c' fs, w], ok2.sub, .val r1 (.val r2 .nil), by unfold ios; exact List.nodup_nil, ?_⟩
            cases e : d [.ins c' fs, w] with
            | ok u outs =>
              rw [e] at h3
              cases u with
              | bl bb =>
                cases outs with
                | nil =>
                  intro G' H' v3 cs os r3
                  cases r3
                  obtain ⟨s4, ok4⟩ := after_call (X := X) (BS := BS) (m := ⟨env2, s.σ, G2, H2⟩) ok2 (idx := []) (B := []) (outs := []) .nil List.nodup_nil cs os
                  refine ⟨bb, rfl, ?_⟩
                  have h3 : Acc X.K ci BS W' ⟨env2, s.σ, G2, H2⟩ (CE X.K ci s Q) (.ok (.v (.bl bb)) env2) := h3
                  exact h3 G' H' s4 ok4 (.bl bb) (.bl bb) trivial
                | cons u us => exact h3.elim
              | _ => exact h3.elim
            | _ => rw [e] at h3; exact h3.elim
          have hv := CurV.ins (s := ⟨env2, s.σ, G2, H2⟩) ok2 (.inl r1)
          obtain ⟨a, dx, vs, rfl, hA, _⟩ := hv
          refine ⟨a, dx, vs, rfl, hA, ?_, key⟩
          cases w with
          | ins c2 gs =>
            have z : c2 = c' := of_decide_eq_true z
            subst z
            obtain ⟨b, dy, us, rfl, hB, _⟩ := CurV.ins (s := ⟨env2, s.σ, G2, H2⟩) ok2 (.inl r2)
            exact ⟨b, rfl, .inl ⟨dy, us, hB⟩⟩
          | tup ws =>
            cases r2 with
            | tup hh rr => exact ⟨_, rfl, .inr ⟨_, ok2.sub _ _ hh⟩⟩
          | _ => cases z
        · rw [if_neg z] at h3
          exact h3.elim
      | _ => exact h2.elim
    | _ => cases oy <;> exact h2.elim
  | _ => cases oy <;> exact h2.elim
theorem x_eqC {c k : Nat} {d : FnD} {fa' : Addr} {fd : FuncData} {ps : List Str} (hq : EqC X.K (ci c) fa') (F : FnOkG X.prog X.w X.K X.mg X.base (L2.CX X.prog X.w) k fa' fd ps (spF X.K ci [false, false] d)) (hr : RoomG k X.A) (hb : Binds X.K fd ps []) (ha : SndE X ci BS a fa) (hbb : SndE X ci BS b fb) (hm : behindInMarks .Eq b = false) :
    SndE X ci BS (.Compare a [.Eq] [b] pos) (fEqC c d fa fb) := by
  obtain ⟨ta, pa, qa⟩ := (x_esc ha).ex
  obtain ⟨tb, pb, qb⟩ := (x_esc hbb).ex
  exact ⟨⟨fun W' => tOp (rEqC X.K (ci c) (spF X.K ci [false, false] d)) (ta W') (tb W'), fun W' tk => pe_cmpR (op_eqC F hr hb hq) (pa W' tk) (pb W' tk) hm, fun W' s Q ok h => eqC_core (fa' := fa') rfl qa qb W' s Q ok h⟩⟩
theorem t_eqC {c k : Nat} {d : FnD} {fa' : Addr} {fd : FuncData} {ps : List Str} (hq : EqC X.K (ci c) fa') (F : FnOkG X.prog X.w X.K X.mg X.base (L2.CX X.prog X.w) k fa' fd ps (spF X.K ci [false, false] d)) (hr : RoomG k X.A) (hb : Binds X.K fd ps []) (ha : SndE X ci BS a fa) (hbb : SndE X ci BS b fb) (hm : behindInMarks .Eq b = false) :
    SndT X ci BS (.Compare a [.Eq] [b] pos) (fTest (fEqC c d fa fb)) := by
  obtain ⟨ta, pa, qa⟩ := (x_esc ha).ex
  obtain ⟨tb, pb, qb⟩ := (x_esc hbb).ex
  refine ⟨⟨fun W' => tTest (tOp (rEqC X.K (ci c) (spF X.K ci [false, false] d)) (ta W') (tb W')), fun W' tk => pt_cmpR (op_eqC F hr hb hq) (pa W' tk) (pb W' tk) hm, fun W' s Q ok h => ?_⟩⟩
  exact test_core (te := fun W' => tOp (rEqC X.K (ci c) (spF X.K ci [false, false] d)) (ta W') (tb W')) (fun W' s Q ok h => eqC_core (fa' := fa') rfl qa qb W' s Q ok h) W' s Q ok h
@[simp] theorem fEqC_e {c : Nat} {d : FnD} {env : Ev} : fEqC c d fa fb env = (fE fa env).bind fun x env => (fE fb env).bind fun y env => match x, y with
  | .v (.ins c' fs), .v w => if c' = c ∧ mate c w = true then (match d [.ins c' fs, w] with
    | .ok (.bl b) [] => .ok (.v (.bl b)) env
    | _ => .bad) else .bad
  | _, _ => .bad := (rfl)
end
end BV

set_option maxRecDepth 100000
set_option maxHeartbeats 2000000
/-! BGb: the law's own call. -/
namespace BV
open PySem PySem.Spec PyProof.Rows L2
section
variable {P : Program} {w : World} {K : PySem.W.Frag} {mg mb : Str → Option Value} {CX : CXT} {k : Nat} {fa a : Addr} {fd : FuncData} {x : Str} {sp : Sp} {s₁ : Shared} {vs : List Value} {ns : List Int}
/-- the call, H being what is tracked: nothing but the script -/
theorem law_at {H : Hp} (KX : K.In s₁.heap) (hns : s₁.heap.Ns mainGlobals mg) (hb : s₁.heap.Ns builtinsNs mb) (hbb : ∀ x : Str, x ≠ "__name__" → mb x = bootBuiltins x) (hlim : s₁.heap.NoLimit) (hg : s₁.gens = #[]) (hr : RoomG k callerA)
    (F : ∀ base : Heap, K.In base → base.Ns mainGlobals mg → FnOkG P w K mg base CX k fa fd [x] sp) (hbind : ∀ (s : Shared) (u : Value), BindsTo s fd ⟨[u], []⟩ [(x, u)])
    (hsp : sp [.ref a] H (fun v _ => v = .bl true) fun _ _ _ => False) (hCX : ∀ e s', CX [] H s₁ (fun _ _ _ => False) e s' → False)
    (hO : Only H) (hok : HOk P w H s₁.heap) (nd : ∀ b o es ep, s₁.heap.get? b = some o → o.data = .dict es ep → H b = none) (hK : ∀ b, H b ≠ none → K.lookup b = none) :
    codeAny (model P w) callerA (.call (.ref fa) ⟨[.ref a], []⟩) (fun r s' => r = .ok (.ret (.bool true)) ∧ OldK s₁.heap s'.heap ∧ s'.os = s₁.os ∧ AllBare s'.gens) s₁ := by
  have up : ∀ {b : Addr} {m : Str → Option Value}, s₁.heap.Ns b m → (hidT s₁.heap H).Ns b m := fun ⟨o, es, ep, e, d, q⟩ => ⟨o, es, ep, hidT_get e (nd _ _ _ _ e d), d, q⟩
  have kin : K.In (hidT s₁.heap H) := fun b o e => hidT_get (KX b o e) (by
    cases q : H b with
    | none => rfl
    | some u => exact absurd e (by rw [hK b (by rw [q]; exact nofun)]; exact nofun))
  have e0 : Env0 P w K mg (hidT s₁.heap H) callerA [] s₁ H :=
    ⟨rfl, ⟨kin, up hns, ⟨mb, up hb, hbb⟩, let ⟨mc, h1, h2⟩ := hlim; ⟨mc, up h1, h2⟩⟩, fun b o e => of_hidT e, Nat.le_of_eq (hidT_size _ _), trivial, fun b z => (nomatch z), hok, .of_eq hg⟩
  refine codeAny_mono ((F _ kin (up hns)).go callerA hr [] s₁ H ⟨[.ref a], []⟩ [.ref a] [.ref a] _ _ e0 (hbind s₁ (.ref a)) (.cons rfl .nil) hsp) fun z s' hz => ?_
  match z, hz with
  | .error e, hz => exact (hCX e s' hz).elim
  | .ok .next, hz => exact hz.elim
  | .ok .brk, hz => exact hz.elim
  | .ok .cont, hz => exact hz.elim
  | .ok (.ret u), ⟨v, H', os, bare, un, hok', rv, q⟩ =>
    have q : v = .bl true := q
    subst q
    cases (show u = Value.bool true from rv)
    refine ⟨rfl, OldK.of_keep fun b o e => ?_, os, bare⟩
    rcases hO b with q | ⟨ob, xs, q⟩
    · exact un.keep b o e q (fun z => nomatch z) (by simp)
    · obtain ⟨e1, _⟩ := hok b _ q
      obtain ⟨e2, _⟩ := hok' b _ (un.frzs b ob _ q)
      exact (e.symm.trans e1) ▸ e2
theorem law_callG (KX : K.In s₁.heap) (hns : s₁.heap.Ns mainGlobals mg) (hb : s₁.heap.Ns builtinsNs mb) (hbb : ∀ x : Str, x ≠ "__name__" → mb x = bootBuiltins x) (hlim : s₁.heap.NoLimit) (hg : s₁.gens = #[])
    (ha : s₁.heap.get? a = some { cls := .type "list", data := .seq vs.toArray }) (hi : IntsAre vs ns) (hl : ns.length ≤ sizeLine) (hr : RoomG k callerA)
    (F : ∀ base : Heap, K.In base → base.Ns mainGlobals mg → FnOkG P w K mg base CX k fa fd [x] sp) (hbind : ∀ (s : Shared) (u : Value), BindsTo s fd ⟨[u], []⟩ [(x, u)])
    (hsp : ∀ H : Hp, Only H → SqL K H a (ns.map V.int) → sp [.ref a] H (fun v _ => v = .bl true) fun _ _ _ => False) (hCX : ∀ H e s', CX [] H s₁ (fun _ _ _ => False) e s' → False) :
    codeAny (model P w) callerA (.call (.ref fa) ⟨[.ref a], []⟩) (fun r s' => r = .ok (.ret (.bool true)) ∧ OldK s₁.heap s'.heap ∧ s'.os = s₁.os ∧ AllBare s'.gens) s₁ := by
  have rv := vals_ints hi
  have lv : vs.length ≤ sizeLine := by rw [hi.length]; exact hl
  cases hk : K.lookup a with
  | some o =>
    have e := KX a o hk
    rw [ha] at e
    cases e
    have on : Only fun _ => none := fun _ => .inl rfl
    have sq : SqL K (fun _ => none) a (ns.map V.int) := .inr ⟨_, vs.toArray, _, hk, rfl, rfl, rfl, by rw [List.size_toArray]; exact lv, by simpa using rv⟩
    exact law_at (H := fun _ => none) KX hns hb hbb hlim hg hr F hbind (hsp _ on sq) (hCX _) on (fun b u z => by cases (show (none : Option HO) = some u from z)) (fun _ _ _ _ _ _ => rfl) fun b z => absurd rfl z
  | none =>
    obtain ⟨H, hH⟩ : ∃ H : Hp, ∀ b, H b = if b = a then some (.frz { cls := .type "list", data := .seq vs.toArray } (.lst (ns.map V.int))) else none := ⟨_, fun _ => rfl⟩
    have at_a : H a = some (.frz { cls := .type "list", data := .seq vs.toArray } (.lst (ns.map V.int))) := by rw [hH, if_pos rfl]
    have off : ∀ b, b ≠ a → H b = none := fun b n => by rw [hH, if_neg n]
    have on : Only H := fun b => by
      by_cases n : b = a
      · exact .inr ⟨_, _, n ▸ at_a⟩
      · exact .inl (off b n)
    refine law_at (H := H) KX hns hb hbb hlim hg hr F hbind (hsp H on (.inl (.inr ⟨_, at_a⟩))) (hCX H) on (fun b u z => ?_) (fun b o es ep e d => ?_) fun b z => ?_
    · by_cases n : b = a
      · subst n
        rw [at_a] at z
        cases z
        exact ⟨ha, by rw [List.length_map]; exact hl, vs, _, rv, ha⟩
      · rw [off b n] at z; cases z
    · by_cases n : b = a
      · subst n
        rw [ha] at e
        cases e
        exact absurd (show Data.seq vs.toArray _ = Data.dict es ep from d) nofun
      · exact off b n
    · by_cases n : b = a
      · subst n; exact hk
      · exact absurd (off b n) z
end
/-- what k_head leaves, by the law's promise -/
theorem walk_ofG {l : PySem.W.OpenLaw} {n k : Nat} {q : Program} {loose : List Str} {XP : (Str → Option Value) → Heap → Prop} {YP : World → Heap → Prop} {d : DefRec} {K : Params → PySem.W.Frag} {CX : World → CXT} {sp : World → Sp} {x : Str}
    (hn : l.most = some n) (hn2 : n ≤ sizeLine) (hdf : d.params.defaults = []) (hr : RoomG k callerA) (hY : ∀ (w : World) (h : Heap), YP w h → (K w.params).In h)
    (F : ∀ (w : World) (mg : Str → Option Value) (fa : Addr) (h : Heap), (K w.params).In h → h.Ns mainGlobals mg → mg d.name = some (.ref fa) →
      ∃ fd : FuncData, (∀ (s : Shared) (u : Value), BindsTo s fd ⟨[u], []⟩ [(x, u)]) ∧ ∀ base : Heap, (K w.params).In base → base.Ns mainGlobals mg → FnOkG l.prog w (K w.params) mg base (CX w) k fa fd [x] (sp w))
    (hsp : ∀ (w : World) (H : Hp) (a : Addr) (ns : List Int), ns.length ≤ n → Only H → SqL (K w.params) H a (ns.map V.int) → sp w [.ref a] H (fun v _ => v = .bl true) fun _ _ _ => False)
    (hCX : ∀ (w : World) (H : Hp) (s : Shared) (e : Value) (s' : Shared), CX w [] H s (fun _ _ _ => False) e s' → False) :
    PySem.W.WalkO q loose XP YP l.row.toRowW d [] (fun f vs => PySem.call f vs) :=
  Att.attach_call hn hdf fun w s₀ s₁ mg mb fa o pm cd doc a vs ns G Y ho hd hcd hmg hobj hints hlen hg => by
    obtain ⟨fd, hb, hF⟩ := F w mg fa _ (hY w _ Y) G.T.g hmg
    exact law_callG (hY w _ Y) G.T.g G.T.b G.T.builtins G.T.nolimit hg hobj hints (Nat.le_trans hlen hn2) hr hF hb (fun H on sq => hsp w H a ns hlen on sq) fun H e s' => hCX w H s₁ e s'
/-- a built-in type that is not under an own class -/
theorem kit_no {K : PySem.W.Frag} {C : Addr} {T : String} {b : Bool} (n : (Value.type T == Value.ref C) = false) (h1 : PySem.W.isClsIn K C = true) (h2 : PySem.W.typeIn K (.ref C) = some (.type "type")) (h3 : PySem.W.subIn K (.type T) (.ref C) = some b) :
    PySem.W.kitOne K (.type T) (.ref C) = some b := by
  have e : ((PySem.W.clsIn K C).isSome && PySem.W.typeIn K (.ref C) == some (.type "type")) = true := by
    rw [h2]
    simpa [PySem.W.isClsIn] using h1
  unfold PySem.W.kitOne
  rw [n, if_neg Bool.false_ne_true]
  unfold PySem.W.kitCls
  dsimp only
  rw [if_pos e]
  exact h3
end BV

set_option maxRecDepth 100000
namespace K01
open PySem BV
def tst_BadFloor : Nat → Option Bool := fun n => if n = 1 then some true else if n = 2 then some false else none
def tst_NoCell : Nat → Option Bool := fun n => if n = 1 then some false else if n = 2 then some true else none
noncomputable def b_is_integer : SF :=
  (sRet (fAndV (fB (gIsi tInt) (fCons (fV 0) fNil)) (fNotV (fB (gIsi (tOne "bool")) (fCons (fV 0) fNil)))))
noncomputable def d_is_integer : FnD := fdef 1 [false] b_is_integer
noncomputable def b_is_sized : SF :=
  (sRet (fAndV (fB (gIsi (tOne "tuple")) (fCons (fV 0) fNil)) (fChain gLe gLe (fV 1) (fB gLen (fCons (fV 0) fNil)) (fV 2))))
noncomputable def d_is_sized : FnD := fdef 3 [false, false, false] b_is_sized
noncomputable def b_is_row : SF :=
  (sSeq (sIf (fOr (fNot (fTest (fB (gIsi (tOne "str")) (fCons (fV 0) fNil)))) (fNot (fTest (fChain gLe gLe (fC (.int 1)) (fB gLen (fCons (fV 0) fNil)) (fC (.int 12)))))) (sRet (fC (.bl false))) sNext)
  (sRet (fB gAll (fCons (fLc (fIt asTx (fE (fV 0))) (.nm 1) fYes (fOp gIn (fV 1) (fOp gAdd (fOp gAdd (fOp gAdd (fC (.str ".")) (fC (.str "#"))) (fC (.str "H"))) (fC (.str "S")))) [1]) fNil))))
noncomputable def d_is_row : FnD := fdef 2 [false] b_is_row
noncomputable def b_all_spots : SF :=
  (sSeq (sOwn 1 (fLst fNil))
  (sSeq (sFor (fEn (fE (fV 0))) (.tp (.cons (.nm 2) (.cons (.nm 3) .nil))) (sExt 1 (fE (fLc (fEn (fE (fV 3))) (.tp (.cons (.nm 4) (.cons (.nm 5) .nil))) (fTest (fOp gNe (fV 5) (fC (.str "#")))) (fTup (fCons (fE (fV 2)) (fCons (fE (fV 4)) fNil))) [4, 5]))))
  (sRet (fB gTuple (fCons (fV 1) fNil)))))
noncomputable def d_all_spots : FnD := fdef 6 [false] b_all_spots
noncomputable def b_all_ties : SF :=
  (sSeq (sOwn 1 (fDcT (fEn (fE (fV 0))) (.tp (.cons (.nm 6) (.cons (.nm 7) .nil))) fYes (fV 7) (fV 6) [6, 7]))
  (sSeq (sOwn 2 (fLst fNil))
  (sSeq (sFor (fIt asT (fE (fV 0))) (.tp (.cons (.nm 3) (.cons (.nm 4) .nil))) (sSeq (sSet 5 (fLst (fCons (fTup (fCons (fE (fOp gSub (fV 3) (fC (.int 1)))) (fCons (fE (fV 4)) fNil))) (fCons (fTup (fCons (fE (fOp gAdd (fV 3) (fC (.int 1)))) (fCons (fE (fV 4)) fNil))) (fCons (fTup (fCons (fE (fV 3)) (fCons (fE (fOp gSub (fV 4) (fC (.int 1)))) fNil))) (fCons (fTup (fCons (fE (fV 3)) (fCons (fE (fOp gAdd (fV 4) (fC (.int 1)))) fNil))) fNil))))))
  (sApp 2 (fE (fB gTuple (fCons (fB gSorted (fCons (fLc (fIt asL (fE (fV 5))) (.nm 7) (fTest (fOp gIn (fV 7) (fV 1))) (fOp gIxD (fV 1) (fV 7)) [7]) fNil)) fNil))))))
  (sRet (fB gTuple (fCons (fV 2) fNil))))))
noncomputable def d_all_ties : FnD := fdef 8 [false] b_all_ties
noncomputable def b_spots_of : SF :=
  (sRet (fB gTuple (fCons (fLc (fEn (fE (fV 1))) (.tp (.cons (.nm 3) (.cons (.tp (.cons (.nm 4) (.cons (.nm 5) .nil))) .nil))) (fTest (fOp gEq (fOp gIx (fOp gIx (fV 0) (fV 4)) (fV 5)) (fV 2))) (fV 3) [3, 4, 5]) fNil)))
noncomputable def d_spots_of : FnD := fdef 6 [false, false, false] b_spots_of
noncomputable def b_cells : SF :=
  (sRet (fFld 3 "spots" (fV 0)))
noncomputable def d_cells : FnD := fdef 1 [false] b_cells
noncomputable def b_homes : SF :=
  (sRet (fFld 3 "rests" (fV 0)))
noncomputable def d_homes : FnD := fdef 1 [false] b_homes
noncomputable def b_stations : SF :=
  (sRet (fFld 3 "stops" (fV 0)))
noncomputable def d_stations : FnD := fdef 1 [false] b_stations
noncomputable def b__law_hand : SF :=
  (sRetNew (fLst (fCons (fE (fB gList (fCons (fV 0) fNil))) (fCons (fC (.int 0)) (fCons (fC (.int 0)) (fCons (fC (.int 1)) (fCons (fC (.int 0)) fNil)))))))
noncomputable def d__law_hand : FnD := fdef 1 [false] b__law_hand
noncomputable def b__law_take : SF :=
  (sSeq (sSetIx 0 (fC (.int 4)) (fOp gAdd (fOp gIx (fV 0) (fC (.int 4))) (fC (.int 1))))
  (sSeq (sIf (fAnd (fTest (fOp gEq (fOp gIx (fV 0) (fC (.int 2))) (fC (.int 0)))) (fTest (fOp gLt (fOp gIx (fV 0) (fC (.int 1))) (fB gLen (fCons (fOp gIx (fV 0) (fC (.int 0))) fNil))))) (sSeq (sSet 2 (fB gInt (fCons (fOp gIx (fOp gIx (fV 0) (fC (.int 0))) (fOp gIx (fV 0) (fC (.int 1)))) fNil)))
  (sSeq (sSetIx 0 (fC (.int 1)) (fOp gAdd (fOp gIx (fV 0) (fC (.int 1))) (fC (.int 1))))
  (sIf (fTest (fOp gGe (fV 2) (fOp gPow (fC (.int 10)) (fC (.int 18))))) (sSetIx 0 (fC (.int 2)) (fV 2)) (sSetIx 0 (fC (.int 3)) (fOp gMod (fB gInt (fCons (fOp gAdd (fOp gAdd (fOp gMul (fOp gIx (fV 0) (fC (.int 3))) (fC (.int 48271))) (fOp gMod (fB gInt (fCons (fV 2) fNil)) (fC (.int 2147483647)))) (fC (.int 1))) fNil)) (fC (.int 2147483647))))))) sNext)
  (sSeq (sIf (fTest (fOp gGt (fOp gIx (fV 0) (fC (.int 2))) (fC (.int 0)))) (sSeq (sSet 3 (fOp gMod (fB gInt (fCons (fOp gIx (fV 0) (fC (.int 2))) fNil)) (fV 1)))
  (sSeq (sSetIx 0 (fC (.int 2)) (fOp gDiv (fB gInt (fCons (fOp gIx (fV 0) (fC (.int 2))) fNil)) (fV 1)))
  (sRet (fV 3)))) sNext)
  (sSeq (sSetIx 0 (fC (.int 3)) (fOp gMod (fB gInt (fCons (fOp gAdd (fOp gMul (fOp gIx (fV 0) (fC (.int 3))) (fC (.int 69621))) (fOp gMul (fC (.int 7919)) (fOp gIx (fV 0) (fC (.int 4))))) fNil)) (fC (.int 2147483647))))
  (sSeq (sSet 4 (fOp gMod (fB gInt (fCons (fOp gMul (fOp gIx (fV 0) (fC (.int 3))) (fOp gAdd (fOp gDiv (fOp gIx (fV 0) (fC (.int 3))) (fC (.int 1009))) (fC (.int 69621)))) fNil)) (fC (.int 2147483647))))
  (sSeq (sSet 4 (fOp gMod (fB gInt (fCons (fOp gMul (fV 4) (fOp gAdd (fOp gDiv (fV 4) (fC (.int 2003))) (fC (.int 40692)))) fNil)) (fC (.int 2147483399))))
  (sRet (fOp gMod (fB gInt (fCons (fOp gDiv (fV 4) (fC (.int 16))) fNil)) (fV 1)))))))))
noncomputable def d__law_take : FnD := fdef 5 [true, false] b__law_take
noncomputable def b__law_is_integer : SF :=
  (sRet (fAndV (fB (gIsi tInt) (fCons (fV 0) fNil)) (fNotV (fB (gIsi (tOne "bool")) (fCons (fV 0) fNil)))))
noncomputable def d__law_is_integer : FnD := fdef 1 [false] b__law_is_integer
noncomputable def b__law_bad_rows : SF :=
  (sSeq (sIf (fOr (fNot (fTest (fB (gIsi (tOne "tuple")) (fCons (fV 0) fNil)))) (fOr (fTest (fOp gLt (fB gLen (fCons (fV 0) fNil)) (fC (.int 1)))) (fTest (fOp gGt (fB gLen (fCons (fV 0) fNil)) (fC (.int 12)))))) (sRet (fNeg (fC (.int 1)))) sNext)
  (sSeq (sFor (fRng1 (fB gLen (fCons (fV 0) fNil))) (.nm 1) (sSeq (sIf (fOr (fNot (fTest (fB (gIsi (tOne "str")) (fCons (fOp gIx (fV 0) (fV 1)) fNil)))) (fOr (fTest (fOp gLt (fB gLen (fCons (fOp gIx (fV 0) (fV 1)) fNil)) (fC (.int 1)))) (fOr (fTest (fOp gGt (fB gLen (fCons (fOp gIx (fV 0) (fV 1)) fNil)) (fC (.int 12)))) (fTest (fOp gNe (fB gLen (fCons (fOp gIx (fV 0) (fV 1)) fNil)) (fB gLen (fCons (fOp gIx (fV 0) (fC (.int 0))) fNil))))))) (sRet (fV 1)) sNext)
  (sIf (fTest (fOp gGt (fB gLen (fCons (fLc (fIt asTx (fE (fOp gIx (fV 0) (fV 1)))) (.nm 3) (fTest (fOp gNotIn (fV 3) (fC (.str ".#HS")))) (fV 3) [3]) fNil)) (fC (.int 0)))) (sRet (fV 1)) sNext)))
  (sSeq (sSet 2 (fB gLen (fCons (fLc (fIt asTx (fE (fM1 gJoin (fC (.str "")) (fV 0)))) (.nm 3) (fTest (fOp gEq (fV 3) (fC (.str "H")))) (fV 3) [3]) fNil)))
  (sSeq (sIf (fOr (fTest (fOp gLt (fV 2) (fC (.int 1)))) (fTest (fOp gGt (fV 2) (fC (.int 6))))) (sRet (fC (.str "homes"))) sNext)
  (sRet (fC .non))))))
noncomputable def d__law_bad_rows : FnD := fdef 4 [false] b__law_bad_rows
noncomputable def b__law_cells : SF :=
  (sSeq (sSet 1 (fLst fNil))
  (sSeq (sFor (fRng1 (fB gLen (fCons (fV 0) fNil))) (.nm 2) (sSet 1 (fOp gAdd (fV 1) (fLc (fRng1 (fB gLen (fCons (fOp gIx (fV 0) (fC (.int 0))) fNil))) (.nm 3) (fTest (fOp gNe (fOp gIx (fOp gIx (fV 0) (fV 2)) (fV 3)) (fC (.str "#")))) (fTup (fCons (fE (fV 2)) (fCons (fE (fV 3)) fNil))) [3]))))
  (sRet (fV 1))))
noncomputable def d__law_cells : FnD := fdef 4 [false] b__law_cells
noncomputable def b__law_near : SF :=
  (sSeq (sUn (.tp (.cons (.nm 2) (.cons (.nm 3) .nil))) (fOp gIx (fV 0) (fV 1)))
  (sSeq (sOwn 4 (fLst fNil))
  (sSeq (sFor (fRng1 (fB gLen (fCons (fV 0) fNil))) (.nm 5) (sIf (fTest (fOp gEq (fOp gAdd (fB gAbs (fCons (fOp gSub (fOp gIx (fOp gIx (fV 0) (fV 5)) (fC (.int 0))) (fV 2)) fNil)) (fB gAbs (fCons (fOp gSub (fOp gIx (fOp gIx (fV 0) (fV 5)) (fC (.int 1))) (fV 3)) fNil))) (fC (.int 1)))) (sApp 4 (fE (fV 5))) sNext))
  (sRet (fZ 4)))))
noncomputable def d__law_near : FnD := fdef 6 [false, false] b__law_near
noncomputable def b__law_of_sign : SF :=
  (sRet (fLc (fRng1 (fB gLen (fCons (fV 1) fNil))) (.nm 3) (fTest (fOp gEq (fOp gIx (fOp gIx (fV 0) (fOp gIx (fOp gIx (fV 1) (fV 3)) (fC (.int 0)))) (fOp gIx (fOp gIx (fV 1) (fV 3)) (fC (.int 1)))) (fV 2))) (fV 3) [3]))
noncomputable def d__law_of_sign : FnD := fdef 4 [false, false, false] b__law_of_sign
noncomputable def b_Floor__eq : SF :=
  (sRet (fAndV (fB (gIsiC 3) (fCons (fV 1) fNil)) (fOp gEq (fFld 3 "rows" (fV 0)) (fFld 3 "rows" (fV 1)))))
noncomputable def d_Floor__eq : FnD := fdef 2 [false, false] b_Floor__eq
noncomputable def b_is_within : SF :=
  (sRet (fAndV (fCall [false] d_is_integer (fCons (fE (fV 0)) fNil)) (fChain gLe gLe (fV 1) (fV 0) (fV 2))))
noncomputable def d_is_within : FnD := fdef 3 [false, false, false] b_is_within
noncomputable def b__law_pick : SF :=
  (sRet (fOp gIx (fV 1) (fCall [true, false] d__law_take (fCons (fV 0) (fCons (fE (fB gLen (fCons (fV 1) fNil))) fNil)))))
noncomputable def d__law_pick : FnD := fdef 2 [true, false] b__law_pick
noncomputable def b__law_is_within : SF :=
  (sRet (fAndV (fCall [false] d__law_is_integer (fCons (fE (fV 0)) fNil)) (fAndV (fOp gLe (fV 1) (fV 0)) (fOp gLe (fV 0) (fV 2)))))
noncomputable def d__law_is_within : FnD := fdef 3 [false, false, false] b__law_is_within
noncomputable def b__law_odd : SF :=
  (sSeq (sSet 1 (fCall [true, false] d__law_take (fCons (fV 0) (fCons (fC (.int 18)) fNil))))
  (sSeq (sIf (fTest (fOp gLt (fV 1) (fC (.int 6)))) (sRet (fOp gIx (fLst (fCons (fC .non) (fCons (fC (.bl true)) (fCons (fC (.bl false)) (fCons (fC (.str "")) (fCons (fC (.str "H")) (fCons (fC (.str "0")) fNil))))))) (fV 1))) sNext)
  (sSeq (sIf (fTest (fOp gLt (fV 1) (fC (.int 12)))) (sRet (fOp gIx (fLst (fCons (fTup fNil) (fCons (fE (fLst fNil)) (fCons (fE fDict0) (fCons (fTup (fCons (fC (.int 0)) fNil)) (fCons (fE (fLst (fCons (fC (.int 0)) (fCons (fC (.int 0)) fNil)))) (fCons (fTup (fCons (fTup fNil) fNil)) fNil))))))) (fOp gSub (fV 1) (fC (.int 6))))) sNext)
  (sRet (fOp gIx (fLst (fCons (fE (fNeg (fC (.int 1)))) (fCons (fC (.int 999)) (fCons (fE (fOp gSub (fOp gPow (fC (.int 10)) (fC (.int 20))) (fC (.int 1)))) (fCons (fTup (fCons (fC (.int 0)) (fCons (fC (.int 1)) fNil))) (fCons (fTup (fCons (fC (.bl true)) fNil)) (fCons (fTup (fCons (fE (fNeg (fC (.int 1)))) fNil)) fNil))))))) (fOp gSub (fV 1) (fC (.int 12))))))))
noncomputable def d__law_odd : FnD := fdef 2 [true] b__law_odd
noncomputable def b__law_plan_of : SF :=
  (sSeq (sSet 1 (fCall [false] d__law_cells (fCons (fE (fV 0)) fNil)))
  (sSeq (sOwn 2 (fLc (fRng1 (fB gLen (fCons (fV 1) fNil))) (.nm 3) fYes (fCall [false, false] d__law_near (fCons (fE (fV 1)) (fCons (fE (fV 3)) fNil))) [3]))
  (sRet (fTup (fCons (fE (fV 1)) (fCons (fZ 2) (fCons (fE (fCall [false, false, false] d__law_of_sign (fCons (fE (fV 0)) (fCons (fE (fV 1)) (fCons (fC (.str "H")) fNil))))) (fCons (fE (fCall [false, false, false] d__law_of_sign (fCons (fE (fV 0)) (fCons (fE (fV 1)) (fCons (fC (.str "S")) fNil))))) fNil))))))))
noncomputable def d__law_plan_of : FnD := fdef 4 [false] b__law_plan_of
noncomputable def b_is_below : SF :=
  (sRet (fCall [false, false, false] d_is_within (fCons (fE (fV 0)) (fCons (fC (.int 0)) (fCons (fE (fOp gSub (fV 1) (fC (.int 1)))) fNil)))))
noncomputable def d_is_below : FnD := fdef 2 [false, false] b_is_below
noncomputable def b__law_signs : SF :=
  (sRet (fCall [true, false] d__law_pick (fCons (fV 0) (fCons (fE (fLst (fCons (fC (.str "....HS")) (fCons (fC (.str ".....#HS")) (fCons (fC (.str "...##HS")) (fCons (fC (.str "..######HSS")) (fCons (fC (.str "....HHS")) (fCons (fC (.str "#")) fNil)))))))) fNil))))
noncomputable def d__law_signs : FnD := fdef 1 [true] b__law_signs
noncomputable def b__law_spoilt : SF :=
  (sSeq (sSet 2 (fCall [true, false] d__law_take (fCons (fV 0) (fCons (fC (.int 9)) fNil))))
  (sSeq (sSet 3 (fCall [true, false] d__law_take (fCons (fV 0) (fCons (fE (fB gLen (fCons (fV 1) fNil))) fNil))))
  (sSeq (sSet 4 (fOp gIx (fV 1) (fV 3)))
  (sSeq (sSet 5 (fCall [true, false] d__law_take (fCons (fV 0) (fCons (fE (fB gLen (fCons (fV 4) fNil))) fNil))))
  (sSeq (sIf (fTest (fOp gEq (fV 2) (fC (.int 0)))) (sRet (fCall [true, false] d__law_pick (fCons (fV 0) (fCons (fE (fLst (fCons (fE (fCall [true] d__law_odd (fCons (fV 0) fNil))) (fCons (fE (fB gList (fCons (fV 1) fNil))) (fCons (fTup fNil) (fCons (fE (fSl (fOp gMulX (fV 1) (fC (.int 13))) fNoPart (fPart (fOp gAdd (fC (.int 12)) (fCall [true, false] d__law_take (fCons (fV 0) (fCons (fC (.int 2)) fNil))))))) (fCons (fC (.str "H")) (fCons (fC .non) fNil)))))))) fNil)))) sNext)
  (sSeq (sIf (fTest (fOp gEq (fV 2) (fC (.int 1)))) (sRet (fOp gAdd (fOp gAdd (fSl (fV 1) fNoPart (fPart (fV 3))) (fTup (fCons (fE (fCall [true, false] d__law_pick (fCons (fV 0) (fCons (fE (fLst (fCons (fE (fCall [true] d__law_odd (fCons (fV 0) fNil))) (fCons (fC (.str "")) (fCons (fE (fOp gAdd (fV 4) (fC (.str ".")))) (fCons (fE (fSl (fV 4) (fPart (fC (.int 1))) fNoPart)) (fCons (fE (fSl (fOp gMulX (fV 4) (fC (.int 13))) fNoPart (fPart (fOp gAdd (fC (.int 12)) (fCall [true, false] d__law_take (fCons (fV 0) (fCons (fC (.int 2)) fNil))))))) fNil))))))) fNil)))) fNil))) (fSl (fV 1) (fPart (fOp gAdd (fV 3) (fC (.int 1)))) fNoPart))) sNext)
  (sSeq (sIf (fTest (fOp gLt (fV 2) (fC (.int 5)))) (sSeq (sSet 6 (fCall [true, false] d__law_pick (fCons (fV 0) (fCons (fE (fLst (fCons (fC (.str "x")) (fCons (fC (.str " ")) (fCons (fC (.str "h")) (fCons (fC (.str "s")) (fCons (fC (.str "\n")) (fCons (fC (.str ".")) (fCons (fC (.str "H")) (fCons (fC (.str "S")) (fCons (fC (.str "#")) (fCons (fC (.str "HH")) (fCons (fC (.str "")) fNil))))))))))))) fNil))))
  (sRet (fOp gAdd (fOp gAdd (fSl (fV 1) fNoPart (fPart (fV 3))) (fTup (fCons (fE (fOp gAdd (fOp gAdd (fSl (fV 4) fNoPart (fPart (fV 5))) (fV 6)) (fSl (fV 4) (fPart (fOp gAdd (fV 5) (fC (.int 1)))) fNoPart))) fNil))) (fSl (fV 1) (fPart (fOp gAdd (fV 3) (fC (.int 1)))) fNoPart)))) sNext)
  (sSeq (sIf (fTest (fOp gEq (fV 2) (fC (.int 5)))) (sRet (fB gTuple (fCons (fLc (fIt asT (fE (fV 1))) (.nm 7) fYes (fRepl "H" "." (fV 7)) [7]) fNil))) sNext)
  (sSeq (sIf (fTest (fOp gEq (fV 2) (fC (.int 6)))) (sRet (fB gTuple (fCons (fLc (fIt asT (fE (fV 1))) (.nm 7) fYes (fRepl "." "H" (fV 7)) [7]) fNil))) sNext)
  (sSeq (sIf (fTest (fOp gEq (fV 2) (fC (.int 7)))) (sRet (fOp gAdd (fOp gAdd (fSl (fV 1) fNoPart (fPart (fV 3))) (fTup (fCons (fE (fV 4)) (fCons (fE (fOp gAdd (fV 4) (fC (.str "#")))) fNil)))) (fSl (fV 1) (fPart (fV 3)) fNoPart))) sNext)
  (sRet (fV 1))))))))))))
noncomputable def d__law_spoilt : FnD := fdef 8 [true, false] b__law_spoilt
noncomputable def b_Floor__init : SF :=
  (sSeq (sIf (fNot (fTest (fCall [false, false, false] d_is_sized (fCons (fE (fV 1)) (fCons (fC (.int 1)) (fCons (fE (fC (.int 12))) fNil)))))) (sRaise 1 ["part"] (fCons (fE (fNeg (fC (.int 1)))) fNil)) sNext)
  (sSeq (sFor (fEn (fE (fV 1))) (.tp (.cons (.nm 2) (.cons (.nm 3) .nil))) (sIf (fOr (fNot (fTest (fCall [false] d_is_row (fCons (fE (fV 3)) fNil)))) (fTest (fOp gNe (fB gLen (fCons (fV 3) fNil)) (fB gLen (fCons (fOp gIx (fV 1) (fC (.int 0))) fNil))))) (sRaise 1 ["part"] (fCons (fE (fV 2)) fNil)) sNext))
  (sSeq (sIf (fNot (fTest (fChain gLe gLe (fC (.int 1)) (fB gSum (fCons (fLc (fIt asT (fE (fV 1))) (.nm 3) fYes (fM1 gCount (fV 3) (fC (.str "H"))) [3]) fNil)) (fC (.int 6))))) (sRaise 1 ["part"] (fCons (fC (.str "homes")) fNil)) sNext)
  (sSeq (sFldS 0 3 "rows" (fV 1))
  (sSeq (sFldS 0 3 "spots" (fCall [false] d_all_spots (fCons (fE (fV 1)) fNil)))
  (sSeq (sFldS 0 3 "ties" (fCall [false] d_all_ties (fCons (fE (fFld 3 "spots" (fV 0))) fNil)))
  (sSeq (sFldS 0 3 "rests" (fCall [false, false, false] d_spots_of (fCons (fE (fV 1)) (fCons (fE (fFld 3 "spots" (fV 0))) (fCons (fE (fC (.str "H"))) fNil)))))
  (sFldS 0 3 "stops" (fCall [false, false, false] d_spots_of (fCons (fE (fV 1)) (fCons (fE (fFld 3 "spots" (fV 0))) (fCons (fE (fC (.str "S"))) fNil))))))))))))
noncomputable def d_Floor__init : FnD := fdef 4 [true, false] b_Floor__init
noncomputable def b_is_cell : SF :=
  (sRet (fCall [false, false] d_is_below (fCons (fE (fV 1)) (fCons (fE (fB gLen (fCons (fFld 3 "spots" (fV 0)) fNil))) fNil))))
noncomputable def d_is_cell : FnD := fdef 2 [false, false] b_is_cell
noncomputable def b__law_rows : SF :=
  (sSeq (sSet 2 (fOp gAdd (fC (.int 1)) (fCall [true, false] d__law_take (fCons (fV 0) (fCons (fE (fV 1)) fNil)))))
  (sSeq (sSet 3 (fOp gAdd (fC (.int 1)) (fCall [true, false] d__law_take (fCons (fV 0) (fCons (fE (fV 1)) fNil)))))
  (sSeq (sSet 4 (fCall [true] d__law_signs (fCons (fV 0) fNil)))
  (sSeq (sOwn 5 (fLst fNil))
  (sSeq (sSet 6 (fC (.int 0)))
  (sSeq (sFor (fRng1 (fV 2)) (.nm 7) (sSeq (sSet 8 (fC (.str "")))
  (sSeq (sFor (fRng1 (fV 3)) (.nm 9) (sSeq (sSet 10 (fOp gIx (fV 4) (fCall [true, false] d__law_take (fCons (fV 0) (fCons (fE (fB gLen (fCons (fV 4) fNil))) fNil)))))
  (sSeq (sIf (fTest (fOp gEq (fV 10) (fC (.str "H")))) (sSeq (sSet 6 (fOp gAdd (fV 6) (fC (.int 1))))
  (sIf (fTest (fOp gGt (fV 6) (fC (.int 6)))) (sSet 10 (fC (.str "."))) sNext)) sNext)
  (sSet 8 (fOp gAdd (fV 8) (fV 10))))))
  (sApp 5 (fE (fV 8))))))
  (sSeq (sIf (fTest (fOp gEq (fV 6) (fC (.int 0)))) (sSetIx 5 (fC (.int 0)) (fOp gAdd (fC (.str "H")) (fSl (fOp gIx (fV 5) (fC (.int 0))) (fPart (fC (.int 1))) fNoPart))) sNext)
  (sRet (fB gTuple (fCons (fV 5) fNil))))))))))
noncomputable def d__law_rows : FnD := fdef 11 [true, false] b__law_rows
noncomputable def b_neighbours : SF :=
  (sSeq (sIf (fNot (fTest (fCall [false, false] d_is_cell (fCons (fE (fV 0)) (fCons (fE (fV 1)) fNil))))) (fun env => .er ⟨2, []⟩ env) sNext)
  (sRet (fOp gIx (fFld 3 "ties" (fV 0)) (fV 1))))
noncomputable def d_neighbours : FnD := fdef 2 [false, false] b_neighbours
noncomputable def b__law_made : SF :=
  (sTryA (sRet (fTup (fCons (fC (.str "told")) (fCons (fE (fFld 3 "rows" (fNew 3 1 d_Floor__init (fCons (fE (fV 0)) fNil)))) fNil)))) (.as tst_BadFloor 1 (fun a d k => (sRet (fTup (fCons (fC (.str "BadFloor")) (fCons (fE (fXf a d k 1 1 "part")) fNil))))) :: []))
noncomputable def d__law_made : FnD := fdef 2 [false] b__law_made
noncomputable def b__law_same (g0 : FnD) : SF :=
  (sSeq (sIf (fTest (fOp gIs (fV 1) (fC .non))) (sRet (fOp gIs (fV 0) (fC .non))) sNext)
  (sSeq (sIf (fTest (fOp gIs (fV 1) (fC (.bl true)))) (sRet (fOp gIs (fV 0) (fC (.bl true)))) sNext)
  (sSeq (sIf (fTest (fOp gIs (fV 1) (fC (.bl false)))) (sRet (fOp gIs (fV 0) (fC (.bl false)))) sNext)
  (sSeq (sIf (fTest (fB (gIsi tInt) (fCons (fV 1) fNil))) (sRet (fAndV (fCall [false] d__law_is_integer (fCons (fE (fV 0)) fNil)) (fOp gEq (fV 0) (fV 1)))) sNext)
  (sSeq (sIf (fTest (fB (gIsi (tOne "str")) (fCons (fV 1) fNil))) (sRet (fAndV (fB (gIsi (tOne "str")) (fCons (fV 0) fNil)) (fOp gEq (fV 0) (fV 1)))) sNext)
  (sSeq (sIf (fOr (fTest (fOp gNe (fB (gIsi (tOne "tuple")) (fCons (fV 1) fNil)) (fB (gIsi (tOne "tuple")) (fCons (fV 0) fNil)))) (fTest (fOp gNe (fB (gIsi (tOne "list")) (fCons (fV 1) fNil)) (fB (gIsi (tOne "list")) (fCons (fV 0) fNil))))) (sRet (fC (.bl false))) sNext)
  (sSeq (sIf (fTest (fOp gNe (fB gLen (fCons (fV 0) fNil)) (fB gLen (fCons (fV 1) fNil)))) (sRet (fC (.bl false))) sNext)
  (sSeq (sFor (fZip (fE (fV 0)) (fE (fV 1))) (.tp (.cons (.nm 2) (.cons (.nm 3) .nil))) (sIf (fNot (fTest (fCall [false, false] g0 (fCons (fE (fV 2)) (fCons (fE (fV 3)) fNil))))) (sRet (fC (.bl false))) sNext))
  (sRet (fC (.bl true)))))))))))
noncomputable def d__law_same : Nat → FnD
  | 0 => fun _ => .bad
  | n + 1 => fdef 4 [false, false] (b__law_same (d__law_same n))
noncomputable def b__law_near_told : SF :=
  (sTry (sRet (fTup (fCons (fC (.str "told")) (fCons (fE (fCall [false, false] d_neighbours (fCons (fE (fV 0)) (fCons (fE (fV 1)) fNil)))) fNil)))) ((tst_NoCell, (sRet (fTup (fCons (fC (.str "NoCell")) fNil)))) :: []))
noncomputable def d__law_near_told : FnD := fdef 2 [false, false] b__law_near_told
noncomputable def b_law_1 : SF := (sOwn 1 (fCall [false] d__law_hand (fCons (fE (fV 0)) fNil)))
noncomputable def b_law_2 : SF := (sSet 2 (fCall [true, false] d__law_rows (fCons (fV 1) (fCons (fE (fCall [true, false] d__law_pick (fCons (fV 1) (fCons (fE (fLst (fCons (fC (.int 2)) (fCons (fC (.int 4)) (fCons (fC (.int 7)) (fCons (fC (.int 12)) fNil)))))) fNil)))) fNil))))
noncomputable def b_law_3 : SF := (sSet 4 (fCall [false] d__law_bad_rows (fCons (fE (fV 3)) fNil)))
noncomputable def b_law_4 : SF := (sSet 5 (fTup (fCons (fC (.str "BadFloor")) (fCons (fE (fV 4)) fNil))))
noncomputable def b_law_5 : SF := (sSet 5 (fTup (fCons (fC (.str "told")) (fCons (fE (fV 3)) fNil))))
noncomputable def b_law_6 : SF := (sIf (fNot (fTest (fCall [false, false] (d__law_same 5) (fCons (fE (fCall [false] d__law_made (fCons (fE (fV 3)) fNil))) (fCons (fE (fV 5)) fNil))))) (sRet (fC (.bl false))) sNext)
noncomputable def b_law_7 : SF := (sIf (fAnd (fTest (fOp gIs (fV 4) (fC .non))) (fOr (fTest (fOp gNe (fEqC 3 d_Floor__eq (fNew 3 1 d_Floor__init (fCons (fE (fV 3)) fNil)) (fNew 3 1 d_Floor__init (fCons (fE (fV 2)) fNil))) (fOp gEq (fV 3) (fV 2)))) (fTest (fEqC 3 d_Floor__eq (fNew 3 1 d_Floor__init (fCons (fE (fV 3)) fNil)) (fV 3))))) (sRet (fC (.bl false))) sNext)
noncomputable def b_law_8 : SF := (sSeq b_law_3
  (sSeq b_law_4
  (sSeq (sIf (fTest (fOp gIs (fV 4) (fC .non))) b_law_5 sNext)
  (sSeq b_law_6
  b_law_7))))
noncomputable def b_law_9 : SF := (sFor (fIt asL (fE (fLst (fCons (fE (fV 2)) (fCons (fE (fCall [true, false] d__law_spoilt (fCons (fV 1) (fCons (fE (fV 2)) fNil)))) (fCons (fE (fCall [true, false] d__law_spoilt (fCons (fV 1) (fCons (fE (fV 2)) fNil)))) (fCons (fE (fCall [true, false] d__law_spoilt (fCons (fV 1) (fCons (fE (fV 2)) fNil)))) fNil))))))) (.nm 3) b_law_8)
noncomputable def b_law_10 : SF := (sUn (.tp (.cons (.nm 7) (.cons (.nm 8) (.cons (.nm 9) (.cons (.nm 10) .nil))))) (fCall [false] d__law_plan_of (fCons (fE (fV 2)) fNil)))
noncomputable def b_law_11 : SF := (sIf (fOr (fNot (fTest (fCall [false, false] (d__law_same 5) (fCons (fE (fCall [false] d_cells (fCons (fE (fV 6)) fNil))) (fCons (fE (fB gTuple (fCons (fV 7) fNil))) fNil))))) (fNot (fTest (fCall [false, false] (d__law_same 5) (fCons (fE (fCall [false] d_homes (fCons (fE (fV 6)) fNil))) (fCons (fE (fB gTuple (fCons (fV 9) fNil))) fNil)))))) (sRet (fC (.bl false))) sNext)
noncomputable def b_law_12 : SF := (sIf (fNot (fTest (fCall [false, false] (d__law_same 5) (fCons (fE (fCall [false] d_stations (fCons (fE (fV 6)) fNil))) (fCons (fE (fB gTuple (fCons (fV 10) fNil))) fNil))))) (sRet (fC (.bl false))) sNext)
noncomputable def b_law_13 : SF := (sSet 12 (fCall [true, false] d__law_pick (fCons (fV 1) (fCons (fE (fLst (fCons (fE (fCall [true, false] d__law_take (fCons (fV 1) (fCons (fE (fB gLen (fCons (fV 7) fNil))) fNil)))) (fCons (fE (fCall [true, false] d__law_take (fCons (fV 1) (fCons (fE (fB gLen (fCons (fV 7) fNil))) fNil)))) (fCons (fE (fB gLen (fCons (fV 7) fNil))) (fCons (fE (fNeg (fC (.int 1)))) (fCons (fC (.bl true)) (fCons (fE (fCall [true] d__law_odd (fCons (fV 1) fNil))) fNil)))))))) fNil))))
noncomputable def b_law_14 : SF := (sSet 5 (fTup (fCons (fC (.str "told")) (fCons (fE (fB gTuple (fCons (fOp gIx (fV 8) (fV 12)) fNil))) fNil))))
noncomputable def b_law_15 : SF := (sIf (fTest (fCall [false, false, false] d__law_is_within (fCons (fE (fV 12)) (fCons (fC (.int 0)) (fCons (fE (fOp gSub (fB gLen (fCons (fV 7) fNil)) (fC (.int 1)))) fNil))))) b_law_14 sNext)
noncomputable def b_law_16 : SF := (sIf (fNot (fTest (fCall [false, false] (d__law_same 5) (fCons (fE (fCall [false, false] d__law_near_told (fCons (fE (fV 6)) (fCons (fE (fV 12)) fNil)))) (fCons (fE (fV 5)) fNil))))) (sRet (fC (.bl false))) sNext)
noncomputable def b_law_17 : SF := (sSeq b_law_13
  (sSeq (sSet 5 (fTup (fCons (fC (.str "NoCell")) fNil)))
  (sSeq b_law_15
  b_law_16)))
noncomputable def b_law_18 : SF := (sRet (fCall [false, false] (d__law_same 5) (fCons (fE (fFld 3 "rows" (fV 6))) (fCons (fE (fV 2)) fNil))))
noncomputable def b_law : SF :=
  (sSeq b_law_1
  (sSeq b_law_2
  (sSeq b_law_9
  (sSeq (sSet 6 (fNew 3 1 d_Floor__init (fCons (fE (fV 2)) fNil)))
  (sSeq b_law_10
  (sSeq b_law_11
  (sSeq b_law_12
  (sSeq (sFor (fRng1 (fC (.int 6))) (.nm 11) b_law_17)
  b_law_18))))))))
noncomputable def d_law : FnD := fdef 13 [false] b_law
end K01

set_option maxRecDepth 100000
set_option maxHeartbeats 4000000
namespace K01
open PySem PySem.Spec PyProof.Rows L2 BV
def topS (i : Nat) : Stmt := PySem.Challenge.pw_everybrought_k01_floors_judged.main.body.getD i (.Pass ⟨0, 0, 0, 0⟩)
structure Txt (K : PySem.W.Frag) (mg : Str → Option Value) (fa : Nat → Addr) (fd : Nat → FuncData) (ci : Nat → Addr) : Prop where
  F_is_integer : Fun K "is_integer" "is_integer" (topS 5) (fa 0) (fd 0)
  B_is_integer : Binds K (fd 0) ["thing"] []
  G_is_integer : mg "is_integer" = some (.ref (fa 0))
  F_is_within : Fun K "is_within" "is_within" (topS 6) (fa 1) (fd 1)
  B_is_within : Binds K (fd 1) ["thing", "least", "most"] []
  G_is_within : mg "is_within" = some (.ref (fa 1))
  F_is_below : Fun K "is_below" "is_below" (topS 7) (fa 2) (fd 2)
  B_is_below : Binds K (fd 2) ["thing", "many"] []
  G_is_below : mg "is_below" = some (.ref (fa 2))
  F_is_sized : Fun K "is_sized" "is_sized" (topS 8) (fa 3) (fd 3)
  B_is_sized : Binds K (fd 3) ["thing", "least", "most"] []
  G_is_sized : mg "is_sized" = some (.ref (fa 3))
  F_is_row : Fun K "is_row" "is_row" (topS 16) (fa 4) (fd 4)
  B_is_row : Binds K (fd 4) ["thing"] []
  G_is_row : mg "is_row" = some (.ref (fa 4))
  F_all_spots : Fun K "all_spots" "all_spots" (topS 18) (fa 5) (fd 5)
  B_all_spots : Binds K (fd 5) ["rows"] []
  G_all_spots : mg "all_spots" = some (.ref (fa 5))
  F_all_ties : Fun K "all_ties" "all_ties" (topS 19) (fa 6) (fd 6)
  B_all_ties : Binds K (fd 6) ["spots"] []
  G_all_ties : mg "all_ties" = some (.ref (fa 6))
  F_spots_of : Fun K "spots_of" "spots_of" (topS 20) (fa 7) (fd 7)
  B_spots_of : Binds K (fd 7) ["rows", "spots", "sign"] []
  G_spots_of : mg "spots_of" = some (.ref (fa 7))
  F_cells : Fun K "cells" "cells" (topS 21) (fa 8) (fd 8)
  B_cells : Binds K (fd 8) ["floor"] []
  G_cells : mg "cells" = some (.ref (fa 8))
  F_is_cell : Fun K "is_cell" "is_cell" (topS 22) (fa 9) (fd 9)
  B_is_cell : Binds K (fd 9) ["floor", "thing"] []
  G_is_cell : mg "is_cell" = some (.ref (fa 9))
  F_neighbours : Fun K "neighbours" "neighbours" (topS 23) (fa 10) (fd 10)
  B_neighbours : Binds K (fd 10) ["floor", "cell"] []
  G_neighbours : mg "neighbours" = some (.ref (fa 10))
  F_homes : Fun K "homes" "homes" (topS 24) (fa 11) (fd 11)
  B_homes : Binds K (fd 11) ["floor"] []
  G_homes : mg "homes" = some (.ref (fa 11))
  F_stations : Fun K "stations" "stations" (topS 25) (fa 12) (fd 12)
  B_stations : Binds K (fd 12) ["floor"] []
  G_stations : mg "stations" = some (.ref (fa 12))
  F__law_hand : Fun K "_law_hand" "_law_hand" (topS 27) (fa 13) (fd 13)
  B__law_hand : Binds K (fd 13) ["script"] []
  G__law_hand : mg "_law_hand" = some (.ref (fa 13))
  F__law_take : Fun K "_law_take" "_law_take" (topS 28) (fa 14) (fd 14)
  B__law_take : Binds K (fd 14) ["hand", "many"] []
  G__law_take : mg "_law_take" = some (.ref (fa 14))
  F__law_pick : Fun K "_law_pick" "_law_pick" (topS 29) (fa 15) (fd 15)
  B__law_pick : Binds K (fd 15) ["hand", "things"] []
  G__law_pick : mg "_law_pick" = some (.ref (fa 15))
  F__law_is_integer : Fun K "_law_is_integer" "_law_is_integer" (topS 30) (fa 16) (fd 16)
  B__law_is_integer : Binds K (fd 16) ["thing"] []
  G__law_is_integer : mg "_law_is_integer" = some (.ref (fa 16))
  F__law_is_within : Fun K "_law_is_within" "_law_is_within" (topS 31) (fa 17) (fd 17)
  B__law_is_within : Binds K (fd 17) ["thing", "least", "most"] []
  G__law_is_within : mg "_law_is_within" = some (.ref (fa 17))
  F__law_same : Fun K "_law_same" "_law_same" (topS 32) (fa 18) (fd 18)
  B__law_same : Binds K (fd 18) ["actual", "due"] []
  G__law_same : mg "_law_same" = some (.ref (fa 18))
  F__law_odd : Fun K "_law_odd" "_law_odd" (topS 33) (fa 19) (fd 19)
  B__law_odd : Binds K (fd 19) ["hand"] []
  G__law_odd : mg "_law_odd" = some (.ref (fa 19))
  F__law_signs : Fun K "_law_signs" "_law_signs" (topS 34) (fa 20) (fd 20)
  B__law_signs : Binds K (fd 20) ["hand"] []
  G__law_signs : mg "_law_signs" = some (.ref (fa 20))
  F__law_rows : Fun K "_law_rows" "_law_rows" (topS 35) (fa 21) (fd 21)
  B__law_rows : Binds K (fd 21) ["hand", "most"] []
  G__law_rows : mg "_law_rows" = some (.ref (fa 21))
  F__law_bad_rows : Fun K "_law_bad_rows" "_law_bad_rows" (topS 36) (fa 22) (fd 22)
  B__law_bad_rows : Binds K (fd 22) ["thing"] []
  G__law_bad_rows : mg "_law_bad_rows" = some (.ref (fa 22))
  F__law_cells : Fun K "_law_cells" "_law_cells" (topS 37) (fa 23) (fd 23)
  B__law_cells : Binds K (fd 23) ["rows"] []
  G__law_cells : mg "_law_cells" = some (.ref (fa 23))
  F__law_near : Fun K "_law_near" "_law_near" (topS 38) (fa 24) (fd 24)
  B__law_near : Binds K (fd 24) ["spots", "cell"] []
  G__law_near : mg "_law_near" = some (.ref (fa 24))
  F__law_of_sign : Fun K "_law_of_sign" "_law_of_sign" (topS 39) (fa 25) (fd 25)
  B__law_of_sign : Binds K (fd 25) ["rows", "spots", "sign"] []
  G__law_of_sign : mg "_law_of_sign" = some (.ref (fa 25))
  F__law_plan_of : Fun K "_law_plan_of" "_law_plan_of" (topS 40) (fa 26) (fd 26)
  B__law_plan_of : Binds K (fd 26) ["rows"] []
  G__law_plan_of : mg "_law_plan_of" = some (.ref (fa 26))
  F__law_spoilt : Fun K "_law_spoilt" "_law_spoilt" (topS 41) (fa 27) (fd 27)
  B__law_spoilt : Binds K (fd 27) ["hand", "rows"] []
  G__law_spoilt : mg "_law_spoilt" = some (.ref (fa 27))
  F__law_made : Fun K "_law_made" "_law_made" (topS 42) (fa 28) (fd 28)
  B__law_made : Binds K (fd 28) ["rows"] []
  G__law_made : mg "_law_made" = some (.ref (fa 28))
  F__law_near_told : Fun K "_law_near_told" "_law_near_told" (topS 43) (fa 29) (fd 29)
  B__law_near_told : Binds K (fd 29) ["floor", "cell"] []
  G__law_near_told : mg "_law_near_told" = some (.ref (fa 29))
  F_law : Fun K "law" "law" (topS 44) (fa 30) (fd 30)
  B_law : Binds K (fd 30) ["script"] []
  G_law : mg "law" = some (.ref (fa 30))
  F_Floor__init : Fun K "__init__" "Floor.__init__" (clsS (topS 17) 0) (fa 31) (fd 31)
  B_Floor__init : Binds K (fd 31) ["self", "rows"] []
  F_Floor__eq : Fun K "__eq__" "Floor.__eq__" (clsS (topS 17) 1) (fa 32) (fd 32)
  B_Floor__eq : Binds K (fd 32) ["self", "other"] []
  g_Floor : mg "Floor" = some (.ref (ci 3))
  ic_Floor : InsC K (ci 3) ["rows", "spots", "ties", "rests", "stops"]
  mk_Floor : Mk K (ci 3) (fa 31)
  is_Floor : IsC K (ci 3)
  eq_Floor : EqC K (ci 3) (fa 32)
  z_abs : mg "abs" = none
  z_all : mg "all" = none
  z_bool : mg "bool" = none
  z_enumerate : mg "enumerate" = none
  z_int : mg "int" = none
  z_isinstance : mg "isinstance" = none
  z_len : mg "len" = none
  z_list : mg "list" = none
  z_range : mg "range" = none
  z_sorted : mg "sorted" = none
  z_str : mg "str" = none
  z_sum : mg "sum" = none
  z_tuple : mg "tuple" = none
  z_zip : mg "zip" = none
  c_FREE : ∃ t, mg "FREE" = some (.str "." t)
  c_HOME : ∃ t, mg "HOME" = some (.str "H" t)
  c_MOST_HOMES : ∃ t, mg "MOST_HOMES" = some (.int 6 t)
  c_MOST_ROWS : ∃ t, mg "MOST_ROWS" = some (.int 12 t)
  c_STATION : ∃ t, mg "STATION" = some (.str "S" t)
  c_WALL : ∃ t, mg "WALL" = some (.str "#" t)
  g_NoCell : mg "NoCell" = some (.ref (ci 2))
  x_NoCell : PySem.W.excIn K (ci 2) PySem.HandSPX.veTail "ValueError.__new__" = true
  k_NoCell : PySem.W.keepIn K (.ref (ci 2)) = true
  e_NoCell : PySem.W.subIn K (.ref (ci 2)) (.type "BaseException") = some true
  t_NoCell : PySem.W.typeIn K (.ref (ci 2)) = some (.type "type")
  g_BadFloor : mg "BadFloor" = some (.ref (ci 1))
  FI_BadFloor : Fun K "__init__" "BadFloor.__init__" (clsS (topS 2) 0) (fa 33) (fd 33)
  BI_BadFloor : Binds K (fd 33) ["self", "part"] []
  ec_BadFloor : ErrC K (ci 1) (fa 33) ["part"]
  s_BadFloor : Tst K ci (.ref (ci 1)) tst_BadFloor
  s_NoCell : Tst K ci (.ref (ci 2)) tst_NoCell
section
variable {P : Program} {w : World} {K : PySem.W.Frag} {mg : Str → Option Value} {base : Heap} {fa : Nat → Addr} {fd : Nat → FuncData} {ci : Nat → Addr}
theorem Txt.n_BadFloor (T : Txt K mg fa fd ci) {X : Cx} (hg : Gl X "BadFloor") (hm : X.mg = mg) : Names X "BadFloor" (.ref (ci 1)) := ⟨hg, by decide, .inl (by rw [hm]; exact T.g_BadFloor)⟩
theorem Txt.n_NoCell (T : Txt K mg fa fd ci) {X : Cx} (hg : Gl X "NoCell") (hm : X.mg = mg) : Names X "NoCell" (.ref (ci 2)) := ⟨hg, by decide, .inl (by rw [hm]; exact T.g_NoCell)⟩
theorem sci_BadFloor : FnScope ["self", "part"] ["self", "part"] (defScope (clsS (topS 2) 0)) := ⟨rfl, rfl, rfl, by decide +kernel, rfl, by decide +kernel, by decide +kernel⟩
theorem in_BadFloor (T : Txt K mg fa fd ci) : FnOk P w K mg base (L2.CX P w) 1 (fa 33) (fd 33) ["self", "part"] (spInit (ci 1) ["part"]) := init1 T.FI_BadFloor T.ec_BadFloor sci_BadFloor rfl (by first | exact Or.inl rfl | exact Or.inr (Or.inl rfl) | exact Or.inr (Or.inr rfl)) (by first | exact Or.inl rfl | exact Or.inr (Or.inl rfl) | exact Or.inr (Or.inr rfl)) (by decide) (by decide)
theorem sc_is_integer : FnScope ["thing"] ["thing"] (defScope (topS 5)) := ⟨rfl, rfl, rfl, by decide +kernel, rfl, by decide +kernel, by decide +kernel⟩
theorem ok_is_integer (T : Txt K mg fa fd ci) : FnOkG P w K mg base (L2.CX P w) 1 (fa 0) (fd 0) ["thing"] (spF K ci [false] d_is_integer) := by
  refine fn_ok (k := 0) T.F_is_integer sc_is_integer rfl fun cdv A outer s H E hr => ?_
  have hu := hr.units
  have hg := hr.g
  have nd := sc_is_integer.nd
  exact (s_one (s_ret (x_and (x_isi tab_int rfl T.z_isinstance (by decide +kernel) rfl T.z_int (by decide +kernel) (x_var 0)) (x_one (x_not (x_isi tab_bool rfl T.z_isinstance (by decide +kernel) rfl T.z_bool (by decide +kernel) (x_var 0)))))))
theorem sc_is_sized : FnScope ["thing", "least", "most"] ["thing", "least", "most"] (defScope (topS 8)) := ⟨rfl, rfl, rfl, by decide +kernel, rfl, by decide +kernel, by decide +kernel⟩
theorem ok_is_sized (T : Txt K mg fa fd ci) : FnOkG P w K mg base (L2.CX P w) 1 (fa 3) (fd 3) ["thing", "least", "most"] (spF K ci [false, false, false] d_is_sized) := by
  refine fn_ok (k := 0) T.F_is_sized sc_is_sized rfl fun cdv A outer s H E hr => ?_
  have hu := hr.units
  have hg := hr.g
  have nd := sc_is_sized.nd
  exact (s_one (s_ret (x_and (x_isi tab_tuple rfl T.z_isinstance (by decide +kernel) rfl T.z_tuple (by decide +kernel) (x_var 0)) (x_one (x_chain o_le o_le (x_var 1) (x_callB b_len rfl T.z_len (by decide +kernel) (a_cons (x_var 0) a_nil)) (x_var 2))))))
theorem sc_is_row : FnScope ["thing", "sign"] ["thing"] (defScope (topS 16)) := ⟨rfl, rfl, rfl, by decide +kernel, rfl, by decide +kernel, by decide +kernel⟩
theorem ok_is_row (T : Txt K mg fa fd ci) : FnOkG P w K mg base (L2.CX P w) 1 (fa 4) (fd 4) ["thing"] (spF K ci [false] d_is_row) := by
  refine fn_ok (k := 0) T.F_is_row sc_is_row rfl fun cdv A outer s H E hr => ?_
  have hu := hr.units
  have hg := hr.g
  have nd := sc_is_row.nd
  exact (s_cons (s_if (t_w (w_or (t_not (t_val (x_isi tab_str rfl T.z_isinstance (by decide +kernel) rfl T.z_str (by decide +kernel) (x_var 0)))) (w_or1 (t_not (t_chain o_le o_le x_int (x_callB b_len rfl T.z_len (by decide +kernel) (a_cons (x_var 0) a_nil)) (x_globI rfl T.c_MOST_ROWS)))))) (s_one (s_ret x_bl)) s_nil)
  (s_one (s_ret (x_callB b_all rfl T.z_all (by decide +kernel) (a_cons (x_lc (own := [("sign", 1)]) rfl nd (i_str (x_esc (x_var 0))) (blkOk_by (N := ["thing", "sign"]) (sc := defScope (topS 16)) (by decide +kernel)) (fun _ => (g_nm (by decide) nd)) SndIfs.none (fun _ => (x_cmp (o_inU hu) (x_var 1) (x_op o_add (x_op o_add (x_op o_add (x_globS rfl T.c_FREE) (x_globS rfl T.c_WALL)) (x_globS rfl T.c_HOME)) (x_globS rfl T.c_STATION)) rfl)) (by decide) (by decide)) a_nil)))))
theorem sc_all_spots : FnScope ["rows", "found", "row", "signs", "column", "sign"] ["rows"] (defScope (topS 18)) := ⟨rfl, rfl, rfl, by decide +kernel, rfl, by decide +kernel, by decide +kernel⟩
theorem ok_all_spots (T : Txt K mg fa fd ci) : FnOkG P w K mg base (L2.CX P w) 1 (fa 5) (fd 5) ["rows"] (spF K ci [false] d_all_spots) := by
  refine fn_ok (k := 0) T.F_all_spots sc_all_spots rfl fun cdv A outer s H E hr => ?_
  have hu := hr.units
  have hg := hr.g
  have nd := sc_all_spots.nd
  exact (s_cons (s_own (i := 1) (by decide) (x_lst a_nil) nd)
  (s_cons (s_for (passes_of rfl) rfl (i_en rfl T.z_enumerate (x_esc (x_var 0))) (g_tp rfl (gs_cons (g_nm (by decide) nd) (gs_cons (g_nm (by decide) nd) gs_nil))) (s_one (s_ext 1 (x_esc (x_lc (own := [("column", 4), ("sign", 5)]) rfl nd (i_en rfl T.z_enumerate (x_esc (x_var 3))) (blkOk_by (N := ["rows", "found", "row", "signs", "column", "sign"]) (sc := defScope (topS 18)) (by decide +kernel)) (fun _ => (g_tp rfl (gs_cons (g_nm (by decide) nd) (gs_cons (g_nm (by decide) nd) gs_nil)))) (SndIfs.one fun _ => (t_cmp (o_ne hu) (x_var 5) (x_globS rfl T.c_WALL) (nomark _))) (fun _ => (x_tup (a_cons (x_esc (x_var 2)) (a_cons (x_esc (x_var 4)) a_nil)))) (by decide) (by decide))))))
  (s_one (s_ret (x_callTy b_tuple rfl T.z_tuple (by decide +kernel) (a_cons (x_var 1) a_nil))))))
theorem sc_all_ties : FnScope ["spots", "numbers", "found", "row", "column", "around", "cell", "spot"] ["spots"] (defScope (topS 19)) := ⟨rfl, rfl, rfl, by decide +kernel, rfl, by decide +kernel, by decide +kernel⟩
theorem ok_all_ties (T : Txt K mg fa fd ci) : FnOkG P w K mg base (L2.CX P w) 1 (fa 6) (fd 6) ["spots"] (spF K ci [false] d_all_ties) := by
  refine fn_ok (k := 0) T.F_all_ties sc_all_ties rfl fun cdv A outer s H E hr => ?_
  have hu := hr.units
  have hg := hr.g
  have nd := sc_all_ties.nd
  exact (s_cons (s_own (i := 1) (by decide) (x_dcT (own := [("cell", 6), ("spot", 7)]) rfl (room0 hu) nd (i_en rfl T.z_enumerate (x_esc (x_var 0))) (blkOk_by (N := ["spots", "numbers", "found", "row", "column", "around", "cell", "spot"]) (sc := defScope (topS 19)) (by decide +kernel)) (fun _ => (g_tp rfl (gs_cons (g_nm (by decide) nd) (gs_cons (g_nm (by decide) nd) gs_nil)))) SndIfs.none (fun _ => (x_var 7)) (fun _ => (x_var 6)) (by decide) (by decide)) nd)
  (s_cons (s_own (i := 2) (by decide) (x_lst a_nil) nd)
  (s_cons (s_for (passes_of rfl) rfl (i_tup (x_esc (x_var 0))) (g_tp rfl (gs_cons (g_nm (by decide) nd) (gs_cons (g_nm (by decide) nd) gs_nil))) (s_cons (s_set (i := 5) (by decide) (x_lst (a_cons (x_tup (a_cons (x_esc (x_op o_sub (x_var 3) x_int)) (a_cons (x_esc (x_var 4)) a_nil))) (a_cons (x_tup (a_cons (x_esc (x_op o_add (x_var 3) x_int)) (a_cons (x_esc (x_var 4)) a_nil))) (a_cons (x_tup (a_cons (x_esc (x_var 3)) (a_cons (x_esc (x_op o_sub (x_var 4) x_int)) a_nil))) (a_cons (x_tup (a_cons (x_esc (x_var 3)) (a_cons (x_esc (x_op o_add (x_var 4) x_int)) a_nil))) a_nil))))) nd)
  (s_one (s_app 2 (x_esc (x_callTy b_tuple rfl T.z_tuple (by decide +kernel) (a_cons (x_callB b_sorted rfl T.z_sorted (by decide +kernel) (a_cons (x_lc (own := [("spot", 7)]) rfl nd (i_list (x_esc (x_var 5))) (blkOk_by (N := ["spots", "numbers", "found", "row", "column", "around", "cell", "spot"]) (sc := defScope (topS 19)) (by decide +kernel)) (fun _ => (g_nm (by decide) nd)) (SndIfs.one fun _ => (t_cmp (o_inU hu) (x_var 7) (x_var 1) rfl)) (fun _ => (x_ixD (room1 hu) (x_var 1) (x_var 7))) (by decide) (by decide)) a_nil)) a_nil)))))))
  (s_one (s_ret (x_callTy b_tuple rfl T.z_tuple (by decide +kernel) (a_cons (x_var 2) a_nil)))))))
theorem sc_spots_of : FnScope ["rows", "spots", "sign", "cell", "row", "column"] ["rows", "spots", "sign"] (defScope (topS 20)) := ⟨rfl, rfl, rfl, by decide +kernel, rfl, by decide +kernel, by decide +kernel⟩
theorem ok_spots_of (T : Txt K mg fa fd ci) : FnOkG P w K mg base (L2.CX P w) 1 (fa 7) (fd 7) ["rows", "spots", "sign"] (spF K ci [false, false, false] d_spots_of) := by
  refine fn_ok (k := 0) T.F_spots_of sc_spots_of rfl fun cdv A outer s H E hr => ?_
  have hu := hr.units
  have hg := hr.g
  have nd := sc_spots_of.nd
  exact (s_one (s_ret (x_callTy b_tuple rfl T.z_tuple (by decide +kernel) (a_cons (x_lc (own := [("cell", 3), ("row", 4), ("column", 5)]) rfl nd (i_en rfl T.z_enumerate (x_esc (x_var 1))) (blkOk_by (N := ["rows", "spots", "sign", "cell", "row", "column"]) (sc := defScope (topS 20)) (by decide +kernel)) (fun _ => (g_tp rfl (gs_cons (g_nm (by decide) nd) (gs_cons (g_tp rfl (gs_cons (g_nm (by decide) nd) (gs_cons (g_nm (by decide) nd) gs_nil))) gs_nil)))) (SndIfs.one fun _ => (t_cmp (o_eq hu) (x_ix ix_all (x_ix ix_all (x_var 0) (x_var 4)) (x_var 5)) (x_var 2) (nomark _))) (fun _ => (x_var 3)) (by decide) (by decide)) a_nil))))
theorem sc_cells : FnScope ["floor"] ["floor"] (defScope (topS 21)) := ⟨rfl, rfl, rfl, by decide +kernel, rfl, by decide +kernel, by decide +kernel⟩
theorem ok_cells (T : Txt K mg fa fd ci) : FnOkG P w K mg base (L2.CX P w) 1 (fa 8) (fd 8) ["floor"] (spF K ci [false] d_cells) := by
  refine fn_ok (k := 0) T.F_cells sc_cells rfl fun cdv A outer s H E hr => ?_
  have hu := hr.units
  have hg := hr.g
  have nd := sc_cells.nd
  exact (s_one (s_ret (x_fld T.ic_Floor (by decide) (x_var 0))))
theorem sc_homes : FnScope ["floor"] ["floor"] (defScope (topS 24)) := ⟨rfl, rfl, rfl, by decide +kernel, rfl, by decide +kernel, by decide +kernel⟩
theorem ok_homes (T : Txt K mg fa fd ci) : FnOkG P w K mg base (L2.CX P w) 1 (fa 11) (fd 11) ["floor"] (spF K ci [false] d_homes) := by
  refine fn_ok (k := 0) T.F_homes sc_homes rfl fun cdv A outer s H E hr => ?_
  have hu := hr.units
  have hg := hr.g
  have nd := sc_homes.nd
  exact (s_one (s_ret (x_fld T.ic_Floor (by decide) (x_var 0))))
theorem sc_stations : FnScope ["floor"] ["floor"] (defScope (topS 25)) := ⟨rfl, rfl, rfl, by decide +kernel, rfl, by decide +kernel, by decide +kernel⟩
theorem ok_stations (T : Txt K mg fa fd ci) : FnOkG P w K mg base (L2.CX P w) 1 (fa 12) (fd 12) ["floor"] (spF K ci [false] d_stations) := by
  refine fn_ok (k := 0) T.F_stations sc_stations rfl fun cdv A outer s H E hr => ?_
  have hu := hr.units
  have hg := hr.g
  have nd := sc_stations.nd
  exact (s_one (s_ret (x_fld T.ic_Floor (by decide) (x_var 0))))
theorem sc__law_hand : FnScope ["script"] ["script"] (defScope (topS 27)) := ⟨rfl, rfl, rfl, by decide +kernel, rfl, by decide +kernel, by decide +kernel⟩
theorem ok__law_hand (T : Txt K mg fa fd ci) : FnOkG P w K mg base (L2.CX P w) 1 (fa 13) (fd 13) ["script"] (spF K ci [false] d__law_hand) := by
  refine fn_ok (k := 0) T.F__law_hand sc__law_hand rfl fun cdv A outer s H E hr => ?_
  have hu := hr.units
  have hg := hr.g
  have nd := sc__law_hand.nd
  exact (s_one (s_retNew (x_lst (a_cons (x_esc (x_callTy b_list rfl T.z_list (by decide +kernel) (a_cons (x_var 0) a_nil))) (a_cons x_int (a_cons x_int (a_cons x_int (a_cons x_int a_nil))))))))
theorem sc__law_take : FnScope ["hand", "many", "cell", "found", "number"] ["hand", "many"] (defScope (topS 28)) := ⟨rfl, rfl, rfl, by decide +kernel, rfl, by decide +kernel, by decide +kernel⟩
theorem ok__law_take (T : Txt K mg fa fd ci) : FnOkG P w K mg base (L2.CX P w) 1 (fa 14) (fd 14) ["hand", "many"] (spF K ci [true, false] d__law_take) := by
  refine fn_ok (k := 0) T.F__law_take sc__law_take rfl fun cdv A outer s H E hr => ?_
  have hu := hr.units
  have hg := hr.g
  have nd := sc__law_take.nd
  exact (s_cons (s_setIx 0 x_int (x_op o_add (x_ix ix_all (x_var 0) x_int) x_int))
  (s_cons (s_if (t_w (w_and (t_cmp (o_eq hu) (x_ix ix_all (x_var 0) x_int) x_int (nomark _)) (w_and1 (t_cmp o_lt (x_ix ix_all (x_var 0) x_int) (x_callB b_len rfl T.z_len (by decide +kernel) (a_cons (x_ix ix_all (x_var 0) x_int) a_nil)) (nomark _))))) (s_cons (s_set (i := 2) (by decide) (x_callTy b_int rfl T.z_int (by decide +kernel) (a_cons (x_ix ix_all (x_ix ix_all (x_var 0) x_int) (x_ix ix_all (x_var 0) x_int)) a_nil)) nd)
  (s_cons (s_setIx 0 x_int (x_op o_add (x_ix ix_all (x_var 0) x_int) x_int))
  (s_one (s_if (t_cmp o_ge (x_var 2) (x_op o_pow x_int x_int) (nomark _)) (s_one (s_setIx 0 x_int (x_var 2))) (s_one (s_setIx 0 x_int (x_op o_mod (x_callTy b_int rfl T.z_int (by decide +kernel) (a_cons (x_op o_add (x_op o_add (x_op o_mul (x_ix ix_all (x_var 0) x_int) x_int) (x_op o_mod (x_callTy b_int rfl T.z_int (by decide +kernel) (a_cons (x_var 2) a_nil)) x_int)) x_int) a_nil)) x_int))))))) s_nil)
  (s_cons (s_if (t_cmp o_gt (x_ix ix_all (x_var 0) x_int) x_int (nomark _)) (s_cons (s_set (i := 3) (by decide) (x_op o_mod (x_callTy b_int rfl T.z_int (by decide +kernel) (a_cons (x_ix ix_all (x_var 0) x_int) a_nil)) (x_var 1)) nd)
  (s_cons (s_setIx 0 x_int (x_op o_div (x_callTy b_int rfl T.z_int (by decide +kernel) (a_cons (x_ix ix_all (x_var 0) x_int) a_nil)) (x_var 1)))
  (s_one (s_ret (x_var 3))))) s_nil)
  (s_cons (s_setIx 0 x_int (x_op o_mod (x_callTy b_int rfl T.z_int (by decide +kernel) (a_cons (x_op o_add (x_op o_mul (x_ix ix_all (x_var 0) x_int) x_int) (x_op o_mul x_int (x_ix ix_all (x_var 0) x_int))) a_nil)) x_int))
  (s_cons (s_set (i := 4) (by decide) (x_op o_mod (x_callTy b_int rfl T.z_int (by decide +kernel) (a_cons (x_op o_mul (x_ix ix_all (x_var 0) x_int) (x_op o_add (x_op o_div (x_ix ix_all (x_var 0) x_int) x_int) x_int)) a_nil)) x_int) nd)
  (s_cons (s_set (i := 4) (by decide) (x_op o_mod (x_callTy b_int rfl T.z_int (by decide +kernel) (a_cons (x_op o_mul (x_var 4) (x_op o_add (x_op o_div (x_var 4) x_int) x_int)) a_nil)) x_int) nd)
  (s_one (s_ret (x_op o_mod (x_callTy b_int rfl T.z_int (by decide +kernel) (a_cons (x_op o_div (x_var 4) x_int) a_nil)) (x_var 1))))))))))
theorem sc__law_is_integer : FnScope ["thing"] ["thing"] (defScope (topS 30)) := ⟨rfl, rfl, rfl, by decide +kernel, rfl, by decide +kernel, by decide +kernel⟩
theorem ok__law_is_integer (T : Txt K mg fa fd ci) : FnOkG P w K mg base (L2.CX P w) 1 (fa 16) (fd 16) ["thing"] (spF K ci [false] d__law_is_integer) := by
  refine fn_ok (k := 0) T.F__law_is_integer sc__law_is_integer rfl fun cdv A outer s H E hr => ?_
  have hu := hr.units
  have hg := hr.g
  have nd := sc__law_is_integer.nd
  exact (s_one (s_ret (x_and (x_isi tab_int rfl T.z_isinstance (by decide +kernel) rfl T.z_int (by decide +kernel) (x_var 0)) (x_one (x_not (x_isi tab_bool rfl T.z_isinstance (by decide +kernel) rfl T.z_bool (by decide +kernel) (x_var 0)))))))
theorem sc__law_bad_rows : FnScope ["thing", "k", "many", "sign"] ["thing"] (defScope (topS 36)) := ⟨rfl, rfl, rfl, by decide +kernel, rfl, by decide +kernel, by decide +kernel⟩
theorem ok__law_bad_rows (T : Txt K mg fa fd ci) : FnOkG P w K mg base (L2.CX P w) 1 (fa 22) (fd 22) ["thing"] (spF K ci [false] d__law_bad_rows) := by
  refine fn_ok (k := 0) T.F__law_bad_rows sc__law_bad_rows rfl fun cdv A outer s H E hr => ?_
  have hu := hr.units
  have hg := hr.g
  have nd := sc__law_bad_rows.nd
  exact (s_cons (s_if (t_w (w_or (t_not (t_val (x_isi tab_tuple rfl T.z_isinstance (by decide +kernel) rfl T.z_tuple (by decide +kernel) (x_var 0)))) (w_or (t_cmp o_lt (x_callB b_len rfl T.z_len (by decide +kernel) (a_cons (x_var 0) a_nil)) x_int (nomark _)) (w_or1 (t_cmp o_gt (x_callB b_len rfl T.z_len (by decide +kernel) (a_cons (x_var 0) a_nil)) x_int (nomark _)))))) (s_one (s_ret (x_neg x_int))) s_nil)
  (s_cons (s_for (passes_of rfl) rfl (i_rng1 rfl T.z_range (x_callB b_len rfl T.z_len (by decide +kernel) (a_cons (x_var 0) a_nil))) (g_nm (by decide) nd) (s_cons (s_if (t_w (w_or (t_not (t_val (x_isi tab_str rfl T.z_isinstance (by decide +kernel) rfl T.z_str (by decide +kernel) (x_ix ix_all (x_var 0) (x_var 1))))) (w_or (t_cmp o_lt (x_callB b_len rfl T.z_len (by decide +kernel) (a_cons (x_ix ix_all (x_var 0) (x_var 1)) a_nil)) x_int (nomark _)) (w_or (t_cmp o_gt (x_callB b_len rfl T.z_len (by decide +kernel) (a_cons (x_ix ix_all (x_var 0) (x_var 1)) a_nil)) x_int (nomark _)) (w_or1 (t_cmp (o_ne hu) (x_callB b_len rfl T.z_len (by decide +kernel) (a_cons (x_ix ix_all (x_var 0) (x_var 1)) a_nil)) (x_callB b_len rfl T.z_len (by decide +kernel) (a_cons (x_ix ix_all (x_var 0) x_int) a_nil)) (nomark _))))))) (s_one (s_ret (x_var 1))) s_nil)
  (s_one (s_if (t_cmp o_gt (x_callB b_len rfl T.z_len (by decide +kernel) (a_cons (x_lc (own := [("sign", 3)]) rfl nd (i_str (x_esc (x_ix ix_all (x_var 0) (x_var 1)))) (blkOk_by (N := ["thing", "k", "many", "sign"]) (sc := defScope (topS 36)) (by decide +kernel)) (fun _ => (g_nm (by decide) nd)) (SndIfs.one fun _ => (t_cmp (o_notInU hu) (x_var 3) x_str rfl)) (fun _ => (x_var 3)) (by decide) (by decide)) a_nil)) x_int (nomark _)) (s_one (s_ret (x_var 1))) s_nil))))
  (s_cons (s_set (i := 2) (by decide) (x_callB b_len rfl T.z_len (by decide +kernel) (a_cons (x_lc (own := [("sign", 3)]) rfl nd (i_str (x_esc (x_join x_str (x_var 0)))) (blkOk_by (N := ["thing", "k", "many", "sign"]) (sc := defScope (topS 36)) (by decide +kernel)) (fun _ => (g_nm (by decide) nd)) (SndIfs.one fun _ => (t_cmp (o_eq hu) (x_var 3) x_str (nomark _))) (fun _ => (x_var 3)) (by decide) (by decide)) a_nil)) nd)
  (s_cons (s_if (t_w (w_or (t_cmp o_lt (x_var 2) x_int (nomark _)) (w_or1 (t_cmp o_gt (x_var 2) x_int (nomark _))))) (s_one (s_ret x_str)) s_nil)
  (s_one (s_ret x_non))))))
theorem sc__law_cells : FnScope ["rows", "found", "row", "column"] ["rows"] (defScope (topS 37)) := ⟨rfl, rfl, rfl, by decide +kernel, rfl, by decide +kernel, by decide +kernel⟩
theorem ok__law_cells (T : Txt K mg fa fd ci) : FnOkG P w K mg base (L2.CX P w) 1 (fa 23) (fd 23) ["rows"] (spF K ci [false] d__law_cells) := by
  refine fn_ok (k := 0) T.F__law_cells sc__law_cells rfl fun cdv A outer s H E hr => ?_
  have hu := hr.units
  have hg := hr.g
  have nd := sc__law_cells.nd
  exact (s_cons (s_set (i := 1) (by decide) (x_lst a_nil) nd)
  (s_cons (s_for (passes_of rfl) rfl (i_rng1 rfl T.z_range (x_callB b_len rfl T.z_len (by decide +kernel) (a_cons (x_var 0) a_nil))) (g_nm (by decide) nd) (s_one (s_set (i := 1) (by decide) (x_op o_add (x_var 1) (x_lc (own := [("column", 3)]) rfl nd (i_rng1 rfl T.z_range (x_callB b_len rfl T.z_len (by decide +kernel) (a_cons (x_ix ix_all (x_var 0) x_int) a_nil))) (blkOk_by (N := ["rows", "found", "row", "column"]) (sc := defScope (topS 37)) (by decide +kernel)) (fun _ => (g_nm (by decide) nd)) (SndIfs.one fun _ => (t_cmp (o_ne hu) (x_ix ix_all (x_ix ix_all (x_var 0) (x_var 2)) (x_var 3)) x_str (nomark _))) (fun _ => (x_tup (a_cons (x_esc (x_var 2)) (a_cons (x_esc (x_var 3)) a_nil)))) (by decide) (by decide))) nd)))
  (s_one (s_ret (x_var 1)))))
theorem sc__law_near : FnScope ["spots", "cell", "row", "column", "found", "other"] ["spots", "cell"] (defScope (topS 38)) := ⟨rfl, rfl, rfl, by decide +kernel, rfl, by decide +kernel, by decide +kernel⟩
theorem ok__law_near (T : Txt K mg fa fd ci) : FnOkG P w K mg base (L2.CX P w) 1 (fa 24) (fd 24) ["spots", "cell"] (spF K ci [false, false] d__law_near) := by
  refine fn_ok (k := 0) T.F__law_near sc__law_near rfl fun cdv A outer s H E hr => ?_
  have hu := hr.units
  have hg := hr.g
  have nd := sc__law_near.nd
  exact (s_cons (s_un (x_ix ix_all (x_var 0) (x_var 1)) (g_tp rfl (gs_cons (g_nm (by decide) nd) (gs_cons (g_nm (by decide) nd) gs_nil))))
  (s_cons (s_own (i := 4) (by decide) (x_lst a_nil) nd)
  (s_cons (s_for (passes_of rfl) rfl (i_rng1 rfl T.z_range (x_callB b_len rfl T.z_len (by decide +kernel) (a_cons (x_var 0) a_nil))) (g_nm (by decide) nd) (s_one (s_if (t_cmp (o_eq hu) (x_op o_add (x_callB b_abs rfl T.z_abs (by decide +kernel) (a_cons (x_op o_sub (x_ix ix_all (x_ix ix_all (x_var 0) (x_var 5)) x_int) (x_var 2)) a_nil)) (x_callB b_abs rfl T.z_abs (by decide +kernel) (a_cons (x_op o_sub (x_ix ix_all (x_ix ix_all (x_var 0) (x_var 5)) x_int) (x_var 3)) a_nil))) x_int (nomark _)) (s_one (s_app 4 (x_esc (x_var 5)))) s_nil)))
  (s_one (s_ret (x_frz 4 (by decide)))))))
theorem sc__law_of_sign : FnScope ["rows", "spots", "sign", "cell"] ["rows", "spots", "sign"] (defScope (topS 39)) := ⟨rfl, rfl, rfl, by decide +kernel, rfl, by decide +kernel, by decide +kernel⟩
theorem ok__law_of_sign (T : Txt K mg fa fd ci) : FnOkG P w K mg base (L2.CX P w) 1 (fa 25) (fd 25) ["rows", "spots", "sign"] (spF K ci [false, false, false] d__law_of_sign) := by
  refine fn_ok (k := 0) T.F__law_of_sign sc__law_of_sign rfl fun cdv A outer s H E hr => ?_
  have hu := hr.units
  have hg := hr.g
  have nd := sc__law_of_sign.nd
  exact (s_one (s_ret (x_lc (own := [("cell", 3)]) rfl nd (i_rng1 rfl T.z_range (x_callB b_len rfl T.z_len (by decide +kernel) (a_cons (x_var 1) a_nil))) (blkOk_by (N := ["rows", "spots", "sign", "cell"]) (sc := defScope (topS 39)) (by decide +kernel)) (fun _ => (g_nm (by decide) nd)) (SndIfs.one fun _ => (t_cmp (o_eq hu) (x_ix ix_all (x_ix ix_all (x_var 0) (x_ix ix_all (x_ix ix_all (x_var 1) (x_var 3)) x_int)) (x_ix ix_all (x_ix ix_all (x_var 1) (x_var 3)) x_int)) (x_var 2) (nomark _))) (fun _ => (x_var 3)) (by decide) (by decide))))
theorem sc_Floor__eq : FnScope ["self", "other"] ["self", "other"] (defScope (clsS (topS 17) 1)) := ⟨rfl, rfl, rfl, by decide +kernel, rfl, by decide +kernel, by decide +kernel⟩
theorem ok_Floor__eq (T : Txt K mg fa fd ci) : FnOkG P w K mg base (L2.CX P w) 1 (fa 32) (fd 32) ["self", "other"] (spF K ci [false, false] d_Floor__eq) := by
  refine fn_ok (k := 0) T.F_Floor__eq sc_Floor__eq rfl fun cdv A outer s H E hr => ?_
  have hu := hr.units
  have hg := hr.g
  have nd := sc_Floor__eq.nd
  exact (s_one (s_ret (x_and (x_isiC T.is_Floor rfl T.z_isinstance (by decide +kernel) rfl T.g_Floor (x_var 1)) (x_one (x_cmp (o_eq hu) (x_fld T.ic_Floor (by decide) (x_var 0)) (x_fld T.ic_Floor (by decide) (x_var 1)) (nomark _))))))
theorem sc_is_within : FnScope ["thing", "least", "most"] ["thing", "least", "most"] (defScope (topS 6)) := ⟨rfl, rfl, rfl, by decide +kernel, rfl, by decide +kernel, by decide +kernel⟩
theorem ok_is_within (T : Txt K mg fa fd ci) : FnOkG P w K mg base (L2.CX P w) 2 (fa 1) (fd 1) ["thing", "least", "most"] (spF K ci [false, false, false] d_is_within) := by
  have O_is_integer := ok_is_integer (P := P) (w := w) (base := base) T
  refine fn_ok (k := 1) T.F_is_within sc_is_within rfl fun cdv A outer s H E hr => ?_
  have hu := hr.units
  have hg := hr.g
  have nd := sc_is_within.nd
  exact (s_one (s_ret (x_and (x_call O_is_integer (hr.mono (by decide)) rfl T.G_is_integer T.F_is_integer.kp T.B_is_integer (a_cons (x_esc (x_var 0)) a_nil)) (x_one (x_chain o_le o_le (x_var 1) (x_var 0) (x_var 2))))))
theorem sc__law_pick : FnScope ["hand", "things"] ["hand", "things"] (defScope (topS 29)) := ⟨rfl, rfl, rfl, by decide +kernel, rfl, by decide +kernel, by decide +kernel⟩
theorem ok__law_pick (T : Txt K mg fa fd ci) : FnOkG P w K mg base (L2.CX P w) 2 (fa 15) (fd 15) ["hand", "things"] (spF K ci [true, false] d__law_pick) := by
  have O__law_take := ok__law_take (P := P) (w := w) (base := base) T
  refine fn_ok (k := 1) T.F__law_pick sc__law_pick rfl fun cdv A outer s H E hr => ?_
  have hu := hr.units
  have hg := hr.g
  have nd := sc__law_pick.nd
  exact (s_one (s_ret (x_ix ix_all (x_var 1) (x_call O__law_take (hr.mono (by decide)) rfl T.G__law_take T.F__law_take.kp T.B__law_take (a_cons (x_var 0) (a_cons (x_esc (x_callB b_len rfl T.z_len (by decide +kernel) (a_cons (x_var 1) a_nil))) a_nil))))))
theorem sc__law_is_within : FnScope ["thing", "least", "most"] ["thing", "least", "most"] (defScope (topS 31)) := ⟨rfl, rfl, rfl, by decide +kernel, rfl, by decide +kernel, by decide +kernel⟩
theorem ok__law_is_within (T : Txt K mg fa fd ci) : FnOkG P w K mg base (L2.CX P w) 2 (fa 17) (fd 17) ["thing", "least", "most"] (spF K ci [false, false, false] d__law_is_within) := by
  have O__law_is_integer := ok__law_is_integer (P := P) (w := w) (base := base) T
  refine fn_ok (k := 1) T.F__law_is_within sc__law_is_within rfl fun cdv A outer s H E hr => ?_
  have hu := hr.units
  have hg := hr.g
  have nd := sc__law_is_within.nd
  exact (s_one (s_ret (x_and (x_call O__law_is_integer (hr.mono (by decide)) rfl T.G__law_is_integer T.F__law_is_integer.kp T.B__law_is_integer (a_cons (x_esc (x_var 0)) a_nil)) (x_and (x_cmp o_le (x_var 1) (x_var 0) (nomark _)) (x_one (x_cmp o_le (x_var 0) (x_var 2) (nomark _)))))))
theorem sc__law_odd : FnScope ["hand", "turn"] ["hand"] (defScope (topS 33)) := ⟨rfl, rfl, rfl, by decide +kernel, rfl, by decide +kernel, by decide +kernel⟩
theorem ok__law_odd (T : Txt K mg fa fd ci) : FnOkG P w K mg base (L2.CX P w) 2 (fa 19) (fd 19) ["hand"] (spF K ci [true] d__law_odd) := by
  have O__law_take := ok__law_take (P := P) (w := w) (base := base) T
  refine fn_ok (k := 1) T.F__law_odd sc__law_odd rfl fun cdv A outer s H E hr => ?_
  have hu := hr.units
  have hg := hr.g
  have nd := sc__law_odd.nd
  exact (s_cons (s_set (i := 1) (by decide) (x_call O__law_take (hr.mono (by decide)) rfl T.G__law_take T.F__law_take.kp T.B__law_take (a_cons (x_var 0) (a_cons x_int a_nil))) nd)
  (s_cons (s_if (t_cmp o_lt (x_var 1) x_int (nomark _)) (s_one (s_ret (x_ix ix_all (x_lst (a_cons x_non (a_cons x_bl (a_cons x_bl (a_cons x_str (a_cons x_str (a_cons x_str a_nil))))))) (x_var 1)))) s_nil)
  (s_cons (s_if (t_cmp o_lt (x_var 1) x_int (nomark _)) (s_one (s_ret (x_ix ix_all (x_lst (a_cons (x_tup a_nil) (a_cons (x_esc (x_lst a_nil)) (a_cons (x_esc x_dict0) (a_cons (x_tup (a_cons x_int a_nil)) (a_cons (x_esc (x_lst (a_cons x_int (a_cons x_int a_nil)))) (a_cons (x_tup (a_cons (x_tup a_nil) a_nil)) a_nil))))))) (x_op o_sub (x_var 1) x_int)))) s_nil)
  (s_one (s_ret (x_ix ix_all (x_lst (a_cons (x_esc (x_neg x_int)) (a_cons x_int (a_cons (x_esc (x_op o_sub (x_op o_pow x_int x_int) x_int)) (a_cons (x_tup (a_cons x_int (a_cons x_int a_nil))) (a_cons (x_tup (a_cons x_bl a_nil)) (a_cons (x_tup (a_cons (x_esc (x_neg x_int)) a_nil)) a_nil))))))) (x_op o_sub (x_var 1) x_int)))))))
theorem sc__law_plan_of : FnScope ["rows", "spots", "near", "cell"] ["rows"] (defScope (topS 40)) := ⟨rfl, rfl, rfl, by decide +kernel, rfl, by decide +kernel, by decide +kernel⟩
theorem ok__law_plan_of (T : Txt K mg fa fd ci) : FnOkG P w K mg base (L2.CX P w) 2 (fa 26) (fd 26) ["rows"] (spF K ci [false] d__law_plan_of) := by
  have O__law_cells := ok__law_cells (P := P) (w := w) (base := base) T
  have O__law_near := ok__law_near (P := P) (w := w) (base := base) T
  have O__law_of_sign := ok__law_of_sign (P := P) (w := w) (base := base) T
  refine fn_ok (k := 1) T.F__law_plan_of sc__law_plan_of rfl fun cdv A outer s H E hr => ?_
  have hu := hr.units
  have hg := hr.g
  have nd := sc__law_plan_of.nd
  exact (s_cons (s_set (i := 1) (by decide) (x_call O__law_cells (hr.mono (by decide)) rfl T.G__law_cells T.F__law_cells.kp T.B__law_cells (a_cons (x_esc (x_var 0)) a_nil)) nd)
  (s_cons (s_setLc (i := 2) (by decide) (own := [("cell", 3)]) rfl nd rfl rfl (sw_true rfl rfl rfl (by decide +kernel)) (i_rng1 rfl T.z_range (x_callB b_len rfl T.z_len (by decide +kernel) (a_cons (x_var 1) a_nil))) (blkOk_by (N := ["rows", "spots", "near", "cell"]) (sc := defScope (topS 40)) (by decide +kernel)) (fun _ => (g_nm (by decide) nd)) SndIfs.none (fun _ => (x_call O__law_near (hr.mono (by decide)) rfl T.G__law_near T.F__law_near.kp T.B__law_near (a_cons (x_esc (x_var 1)) (a_cons (x_esc (x_var 3)) a_nil)))) (by decide) (by decide))
  (s_one (s_ret (x_tup (a_cons (x_esc (x_var 1)) (a_cons (x_frz 2 (by decide)) (a_cons (x_esc (x_call O__law_of_sign (hr.mono (by decide)) rfl T.G__law_of_sign T.F__law_of_sign.kp T.B__law_of_sign (a_cons (x_esc (x_var 0)) (a_cons (x_esc (x_var 1)) (a_cons x_str a_nil))))) (a_cons (x_esc (x_call O__law_of_sign (hr.mono (by decide)) rfl T.G__law_of_sign T.F__law_of_sign.kp T.B__law_of_sign (a_cons (x_esc (x_var 0)) (a_cons (x_esc (x_var 1)) (a_cons x_str a_nil))))) a_nil)))))))))
theorem sc_is_below : FnScope ["thing", "many"] ["thing", "many"] (defScope (topS 7)) := ⟨rfl, rfl, rfl, by decide +kernel, rfl, by decide +kernel, by decide +kernel⟩
theorem ok_is_below (T : Txt K mg fa fd ci) : FnOkG P w K mg base (L2.CX P w) 3 (fa 2) (fd 2) ["thing", "many"] (spF K ci [false, false] d_is_below) := by
  have O_is_within := ok_is_within (P := P) (w := w) (base := base) T
  refine fn_ok (k := 2) T.F_is_below sc_is_below rfl fun cdv A outer s H E hr => ?_
  have hu := hr.units
  have hg := hr.g
  have nd := sc_is_below.nd
  exact (s_one (s_ret (x_call O_is_within (hr.mono (by decide)) rfl T.G_is_within T.F_is_within.kp T.B_is_within (a_cons (x_esc (x_var 0)) (a_cons x_int (a_cons (x_esc (x_op o_sub (x_var 1) x_int)) a_nil))))))
theorem sc__law_signs : FnScope ["hand"] ["hand"] (defScope (topS 34)) := ⟨rfl, rfl, rfl, by decide +kernel, rfl, by decide +kernel, by decide +kernel⟩
theorem ok__law_signs (T : Txt K mg fa fd ci) : FnOkG P w K mg base (L2.CX P w) 3 (fa 20) (fd 20) ["hand"] (spF K ci [true] d__law_signs) := by
  have O__law_pick := ok__law_pick (P := P) (w := w) (base := base) T
  refine fn_ok (k := 2) T.F__law_signs sc__law_signs rfl fun cdv A outer s H E hr => ?_
  have hu := hr.units
  have hg := hr.g
  have nd := sc__law_signs.nd
  exact (s_one (s_ret (x_call O__law_pick (hr.mono (by decide)) rfl T.G__law_pick T.F__law_pick.kp T.B__law_pick (a_cons (x_var 0) (a_cons (x_esc (x_lst (a_cons x_str (a_cons x_str (a_cons x_str (a_cons x_str (a_cons x_str (a_cons x_str a_nil)))))))) a_nil)))))
theorem sc__law_spoilt : FnScope ["hand", "rows", "turn", "at", "row", "place", "sign", "some"] ["hand", "rows"] (defScope (topS 41)) := ⟨rfl, rfl, rfl, by decide +kernel, rfl, by decide +kernel, by decide +kernel⟩
theorem ok__law_spoilt (T : Txt K mg fa fd ci) : FnOkG P w K mg base (L2.CX P w) 3 (fa 27) (fd 27) ["hand", "rows"] (spF K ci [true, false] d__law_spoilt) := by
  have O__law_take := ok__law_take (P := P) (w := w) (base := base) T
  have O__law_pick := ok__law_pick (P := P) (w := w) (base := base) T
  have O__law_odd := ok__law_odd (P := P) (w := w) (base := base) T
  refine fn_okT (k := 2) T.F__law_spoilt sc__law_spoilt rfl (by decide +kernel) (by decide) fun cdv A outer s H E hr => ?_
  have hu := hr.units
  have hg := hr.g
  have nd := sc__law_spoilt.nd
  exact (sst_cons (st_of (s_set (i := 2) (by decide) (x_call O__law_take (hr.mono (by decide)) rfl T.G__law_take T.F__law_take.kp T.B__law_take (a_cons (x_var 0) (a_cons x_int a_nil))) nd))
  (sst_cons (st_of (s_set (i := 3) (by decide) (x_call O__law_take (hr.mono (by decide)) rfl T.G__law_take T.F__law_take.kp T.B__law_take (a_cons (x_var 0) (a_cons (x_esc (x_callB b_len rfl T.z_len (by decide +kernel) (a_cons (x_var 1) a_nil))) a_nil))) nd))
  (sst_cons (st_of (s_set (i := 4) (by decide) (x_ix ix_all (x_var 1) (x_var 3)) nd))
  (sst_cons (st_of (s_set (i := 5) (by decide) (x_call O__law_take (hr.mono (by decide)) rfl T.G__law_take T.F__law_take.kp T.B__law_take (a_cons (x_var 0) (a_cons (x_esc (x_callB b_len rfl T.z_len (by decide +kernel) (a_cons (x_var 4) a_nil))) a_nil))) nd))
  (sst_cons (st_of (s_if (t_cmp (o_eq hu) (x_var 2) x_int (nomark _)) (s_one (s_ret (x_call O__law_pick (hr.mono (by decide)) rfl T.G__law_pick T.F__law_pick.kp T.B__law_pick (a_cons (x_var 0) (a_cons (x_esc (x_lst (a_cons (x_esc (x_call O__law_odd (hr.mono (by decide)) rfl T.G__law_odd T.F__law_odd.kp T.B__law_odd (a_cons (x_var 0) a_nil))) (a_cons (x_esc (x_callTy b_list rfl T.z_list (by decide +kernel) (a_cons (x_var 1) a_nil))) (a_cons (x_tup a_nil) (a_cons (x_esc (x_slice (x_op o_mulX (x_var 1) x_int) so_none (so_some (x_op o_add x_int (x_call O__law_take (hr.mono (by decide)) rfl T.G__law_take T.F__law_take.kp T.B__law_take (a_cons (x_var 0) (a_cons x_int a_nil))))))) (a_cons x_str (a_cons x_non a_nil)))))))) a_nil))))) s_nil))
  (sst_cons (st_of (s_if (t_cmp (o_eq hu) (x_var 2) x_int (nomark _)) (s_one (s_ret (x_op o_add (x_op o_add (x_slice (x_var 1) so_none (so_some (x_var 3))) (x_tup (a_cons (x_esc (x_call O__law_pick (hr.mono (by decide)) rfl T.G__law_pick T.F__law_pick.kp T.B__law_pick (a_cons (x_var 0) (a_cons (x_esc (x_lst (a_cons (x_esc (x_call O__law_odd (hr.mono (by decide)) rfl T.G__law_odd T.F__law_odd.kp T.B__law_odd (a_cons (x_var 0) a_nil))) (a_cons x_str (a_cons (x_esc (x_op o_add (x_var 4) x_str)) (a_cons (x_esc (x_slice (x_var 4) (so_some x_int) so_none)) (a_cons (x_esc (x_slice (x_op o_mulX (x_var 4) x_int) so_none (so_some (x_op o_add x_int (x_call O__law_take (hr.mono (by decide)) rfl T.G__law_take T.F__law_take.kp T.B__law_take (a_cons (x_var 0) (a_cons x_int a_nil))))))) a_nil))))))) a_nil)))) a_nil))) (x_slice (x_var 1) (so_some (x_op o_add (x_var 3) x_int)) so_none)))) s_nil))
  (sst_cons (st_of (s_if (t_cmp o_lt (x_var 2) x_int (nomark _)) (s_cons (s_set (i := 6) (by decide) (x_call O__law_pick (hr.mono (by decide)) rfl T.G__law_pick T.F__law_pick.kp T.B__law_pick (a_cons (x_var 0) (a_cons (x_esc (x_lst (a_cons x_str (a_cons x_str (a_cons x_str (a_cons x_str (a_cons x_str (a_cons x_str (a_cons x_str (a_cons x_str (a_cons x_str (a_cons x_str (a_cons x_str a_nil))))))))))))) a_nil))) nd)
  (s_one (s_ret (x_op o_add (x_op o_add (x_slice (x_var 1) so_none (so_some (x_var 3))) (x_tup (a_cons (x_esc (x_op o_add (x_op o_add (x_slice (x_var 4) so_none (so_some (x_var 5))) (x_var 6)) (x_slice (x_var 4) (so_some (x_op o_add (x_var 5) x_int)) so_none))) a_nil))) (x_slice (x_var 1) (so_some (x_op o_add (x_var 3) x_int)) so_none))))) s_nil))
  (sst_cons (st_if (t_cmp (o_eq hu) (x_var 2) x_int (nomark _)) (sst_one (st_ret (et_callTy b_tuple rfl T.z_tuple (by decide +kernel) (at_one (et_lc (own := [("some", 7)]) rfl nd (i_tup (x_esc (x_var 1))) (blkOk_by (N := ["hand", "rows", "turn", "at", "row", "place", "sign", "some"]) (sc := defScope (topS 41)) (by decide +kernel)) (fun _ => (g_nm (by decide) nd)) SndIfs.none (fun _ => (et_repl (x_var 7))) (by decide) (by decide)))))) (sst_of s_nil))
  (sst_cons (st_if (t_cmp (o_eq hu) (x_var 2) x_int (nomark _)) (sst_one (st_ret (et_callTy b_tuple rfl T.z_tuple (by decide +kernel) (at_one (et_lc (own := [("some", 7)]) rfl nd (i_tup (x_esc (x_var 1))) (blkOk_by (N := ["hand", "rows", "turn", "at", "row", "place", "sign", "some"]) (sc := defScope (topS 41)) (by decide +kernel)) (fun _ => (g_nm (by decide) nd)) SndIfs.none (fun _ => (et_repl (x_var 7))) (by decide) (by decide)))))) (sst_of s_nil))
  (sst_of (s_cons (s_if (t_cmp (o_eq hu) (x_var 2) x_int (nomark _)) (s_one (s_ret (x_op o_add (x_op o_add (x_slice (x_var 1) so_none (so_some (x_var 3))) (x_tup (a_cons (x_esc (x_var 4)) (a_cons (x_esc (x_op o_add (x_var 4) x_str)) a_nil)))) (x_slice (x_var 1) (so_some (x_var 3)) so_none)))) s_nil)
  (s_one (s_ret (x_var 1))))))))))))))
theorem sc_Floor__init : FnScope ["self", "rows", "index", "row"] ["self", "rows"] (defScope (clsS (topS 17) 0)) := ⟨rfl, rfl, rfl, by decide +kernel, rfl, by decide +kernel, by decide +kernel⟩
theorem ok_Floor__init (T : Txt K mg fa fd ci) : FnOkG P w K mg base (L2.CX P w) 3 (fa 31) (fd 31) ["self", "rows"] (spF K ci [true, false] d_Floor__init) := by
  have O_all_spots := ok_all_spots (P := P) (w := w) (base := base) T
  have O_all_ties := ok_all_ties (P := P) (w := w) (base := base) T
  have O_spots_of := ok_spots_of (P := P) (w := w) (base := base) T
  have O_is_sized := ok_is_sized (P := P) (w := w) (base := base) T
  have O_is_row := ok_is_row (P := P) (w := w) (base := base) T
  refine fn_ok (k := 2) T.F_Floor__init sc_Floor__init rfl fun cdv A outer s H E hr => ?_
  have hu := hr.units
  have hg := hr.g
  have nd := sc_Floor__init.nd
  exact (s_cons (s_if (t_not (t_val (x_call O_is_sized (hr.mono (by decide)) rfl T.G_is_sized T.F_is_sized.kp T.B_is_sized (a_cons (x_esc (x_var 1)) (a_cons x_int (a_cons (x_esc (x_globI rfl T.c_MOST_ROWS)) a_nil)))))) (s_one (s_raiseF rfl T.ec_BadFloor (in_BadFloor (P := P) (w := w) (base := base) T) (hr.mono (by decide)).r T.BI_BadFloor rfl T.g_BadFloor (by decide) (a_cons (x_esc (x_neg x_int)) a_nil))) s_nil)
  (s_cons (s_for (passes_of rfl) rfl (i_en rfl T.z_enumerate (x_esc (x_var 1))) (g_tp rfl (gs_cons (g_nm (by decide) nd) (gs_cons (g_nm (by decide) nd) gs_nil))) (s_one (s_if (t_w (w_or (t_not (t_val (x_call O_is_row (hr.mono (by decide)) rfl T.G_is_row T.F_is_row.kp T.B_is_row (a_cons (x_esc (x_var 3)) a_nil)))) (w_or1 (t_cmp (o_ne hu) (x_callB b_len rfl T.z_len (by decide +kernel) (a_cons (x_var 3) a_nil)) (x_callB b_len rfl T.z_len (by decide +kernel) (a_cons (x_ix ix_all (x_var 1) x_int) a_nil)) (nomark _))))) (s_one (s_raiseF rfl T.ec_BadFloor (in_BadFloor (P := P) (w := w) (base := base) T) (hr.mono (by decide)).r T.BI_BadFloor rfl T.g_BadFloor (by decide) (a_cons (x_esc (x_var 2)) a_nil))) s_nil)))
  (s_cons (s_if (t_not (t_chain o_le o_le x_int (x_callB b_sum rfl T.z_sum (by decide +kernel) (a_cons (x_lc (own := [("row", 3)]) rfl nd (i_tup (x_esc (x_var 1))) (blkOk_by (N := ["self", "rows", "index", "row"]) (sc := defScope (clsS (topS 17) 0)) (by decide +kernel)) (fun _ => (g_nm (by decide) nd)) SndIfs.none (fun _ => (x_count (x_var 3) (x_globS rfl T.c_HOME))) (by decide) (by decide)) a_nil)) (x_globI rfl T.c_MOST_HOMES))) (s_one (s_raiseF rfl T.ec_BadFloor (in_BadFloor (P := P) (w := w) (base := base) T) (hr.mono (by decide)).r T.BI_BadFloor rfl T.g_BadFloor (by decide) (a_cons x_str a_nil))) s_nil)
  (s_cons (s_fld T.ic_Floor (nm := "rows") (by decide) 0 (x_var 1))
  (s_cons (s_fld T.ic_Floor (nm := "spots") (by decide) 0 (x_call O_all_spots (hr.mono (by decide)) rfl T.G_all_spots T.F_all_spots.kp T.B_all_spots (a_cons (x_esc (x_var 1)) a_nil)))
  (s_cons (s_fld T.ic_Floor (nm := "ties") (by decide) 0 (x_call O_all_ties (hr.mono (by decide)) rfl T.G_all_ties T.F_all_ties.kp T.B_all_ties (a_cons (x_esc (x_fld T.ic_Floor (by decide) (x_var 0))) a_nil)))
  (s_cons (s_fld T.ic_Floor (nm := "rests") (by decide) 0 (x_call O_spots_of (hr.mono (by decide)) rfl T.G_spots_of T.F_spots_of.kp T.B_spots_of (a_cons (x_esc (x_var 1)) (a_cons (x_esc (x_fld T.ic_Floor (by decide) (x_var 0))) (a_cons (x_esc (x_globS rfl T.c_HOME)) a_nil)))))
  (s_one (s_fld T.ic_Floor (nm := "stops") (by decide) 0 (x_call O_spots_of (hr.mono (by decide)) rfl T.G_spots_of T.F_spots_of.kp T.B_spots_of (a_cons (x_esc (x_var 1)) (a_cons (x_esc (x_fld T.ic_Floor (by decide) (x_var 0))) (a_cons (x_esc (x_globS rfl T.c_STATION)) a_nil)))))))))))))
theorem sc_is_cell : FnScope ["floor", "thing"] ["floor", "thing"] (defScope (topS 22)) := ⟨rfl, rfl, rfl, by decide +kernel, rfl, by decide +kernel, by decide +kernel⟩
theorem ok_is_cell (T : Txt K mg fa fd ci) : FnOkG P w K mg base (L2.CX P w) 4 (fa 9) (fd 9) ["floor", "thing"] (spF K ci [false, false] d_is_cell) := by
  have O_is_below := ok_is_below (P := P) (w := w) (base := base) T
  refine fn_ok (k := 3) T.F_is_cell sc_is_cell rfl fun cdv A outer s H E hr => ?_
  have hu := hr.units
  have hg := hr.g
  have nd := sc_is_cell.nd
  exact (s_one (s_ret (x_call O_is_below (hr.mono (by decide)) rfl T.G_is_below T.F_is_below.kp T.B_is_below (a_cons (x_esc (x_var 1)) (a_cons (x_esc (x_callB b_len rfl T.z_len (by decide +kernel) (a_cons (x_fld T.ic_Floor (by decide) (x_var 0)) a_nil))) a_nil)))))
theorem sc__law_rows : FnScope ["hand", "most", "high", "wide", "signs", "rows", "rests", "k", "row", "j", "sign"] ["hand", "most"] (defScope (topS 35)) := ⟨rfl, rfl, rfl, by decide +kernel, rfl, by decide +kernel, by decide +kernel⟩
theorem ok__law_rows (T : Txt K mg fa fd ci) : FnOkG P w K mg base (L2.CX P w) 4 (fa 21) (fd 21) ["hand", "most"] (spF K ci [true, false] d__law_rows) := by
  have O__law_signs := ok__law_signs (P := P) (w := w) (base := base) T
  have O__law_take := ok__law_take (P := P) (w := w) (base := base) T
  refine fn_ok (k := 3) T.F__law_rows sc__law_rows rfl fun cdv A outer s H E hr => ?_
  have hu := hr.units
  have hg := hr.g
  have nd := sc__law_rows.nd
  exact (s_cons (s_set (i := 2) (by decide) (x_op o_add x_int (x_call O__law_take (hr.mono (by decide)) rfl T.G__law_take T.F__law_take.kp T.B__law_take (a_cons (x_var 0) (a_cons (x_esc (x_var 1)) a_nil)))) nd)
  (s_cons (s_set (i := 3) (by decide) (x_op o_add x_int (x_call O__law_take (hr.mono (by decide)) rfl T.G__law_take T.F__law_take.kp T.B__law_take (a_cons (x_var 0) (a_cons (x_esc (x_var 1)) a_nil)))) nd)
  (s_cons (s_set (i := 4) (by decide) (x_call O__law_signs (hr.mono (by decide)) rfl T.G__law_signs T.F__law_signs.kp T.B__law_signs (a_cons (x_var 0) a_nil)) nd)
  (s_cons (s_own (i := 5) (by decide) (x_lst a_nil) nd)
  (s_cons (s_set (i := 6) (by decide) x_int nd)
  (s_cons (s_for (passes_of rfl) rfl (i_rng1 rfl T.z_range (x_var 2)) (g_nm (by decide) nd) (s_cons (s_set (i := 8) (by decide) x_str nd)
  (s_cons (s_for (passes_of rfl) rfl (i_rng1 rfl T.z_range (x_var 3)) (g_nm (by decide) nd) (s_cons (s_set (i := 10) (by decide) (x_ix ix_all (x_var 4) (x_call O__law_take (hr.mono (by decide)) rfl T.G__law_take T.F__law_take.kp T.B__law_take (a_cons (x_var 0) (a_cons (x_esc (x_callB b_len rfl T.z_len (by decide +kernel) (a_cons (x_var 4) a_nil))) a_nil)))) nd)
  (s_cons (s_if (t_cmp (o_eq hu) (x_var 10) x_str (nomark _)) (s_cons (s_set (i := 6) (by decide) (x_op o_add (x_var 6) x_int) nd)
  (s_one (s_if (t_cmp o_gt (x_var 6) x_int (nomark _)) (s_one (s_set (i := 10) (by decide) x_str nd)) s_nil))) s_nil)
  (s_one (s_set (i := 8) (by decide) (x_op o_add (x_var 8) (x_var 10)) nd)))))
  (s_one (s_app 5 (x_esc (x_var 8)))))))
  (s_cons (s_if (t_cmp (o_eq hu) (x_var 6) x_int (nomark _)) (s_one (s_setIx 5 x_int (x_op o_add x_str (x_slice (x_ix ix_all (x_var 5) x_int) (so_some x_int) so_none)))) s_nil)
  (s_one (s_ret (x_callTy b_tuple rfl T.z_tuple (by decide +kernel) (a_cons (x_var 5) a_nil)))))))))))
theorem sc_neighbours : FnScope ["floor", "cell"] ["floor", "cell"] (defScope (topS 23)) := ⟨rfl, rfl, rfl, by decide +kernel, rfl, by decide +kernel, by decide +kernel⟩
theorem ok_neighbours (T : Txt K mg fa fd ci) : FnOkG P w K mg base (L2.CX P w) 5 (fa 10) (fd 10) ["floor", "cell"] (spF K ci [false, false] d_neighbours) := by
  have O_is_cell := ok_is_cell (P := P) (w := w) (base := base) T
  refine fn_ok (k := 4) T.F_neighbours sc_neighbours rfl fun cdv A outer s H E hr => ?_
  have hu := hr.units
  have hg := hr.g
  have nd := sc_neighbours.nd
  exact (s_cons (s_if (t_not (t_val (x_call O_is_cell (hr.mono (by decide)) rfl T.G_is_cell T.F_is_cell.kp T.B_is_cell (a_cons (x_esc (x_var 0)) (a_cons (x_esc (x_var 1)) a_nil))))) (s_one (s_raise0 (c := 2) rfl T.x_NoCell T.g_NoCell T.k_NoCell T.e_NoCell T.t_NoCell rfl)) s_nil)
  (s_one (s_ret (x_ix ix_all (x_fld T.ic_Floor (by decide) (x_var 0)) (x_var 1)))))
theorem sc__law_made : FnScope ["rows", "error"] ["rows"] (defScope (topS 42)) := ⟨rfl, rfl, rfl, by decide +kernel, rfl, by decide +kernel, by decide +kernel⟩
theorem ok__law_made (T : Txt K mg fa fd ci) : FnOkG P w K mg base (L2.CX P w) 5 (fa 28) (fd 28) ["rows"] (spF K ci [false] d__law_made) := by
  have O_Floor__init := ok_Floor__init (P := P) (w := w) (base := base) T
  refine fn_ok (k := 4) T.F__law_made sc__law_made rfl fun cdv A outer s H E hr => ?_
  have hu := hr.units
  have hg := hr.g
  have nd := sc__law_made.nd
  exact (s_one (s_tryA rfl rfl (fun _ _ hp => (s_one (s_ret (x_tup (a_cons x_str (a_cons (x_esc (x_fld T.ic_Floor (by decide) (x_make (n := 1) T.mk_Floor O_Floor__init (hr.mono (by decide)) rfl T.g_Floor T.B_Floor__init (a_cons (x_esc (x_var 0)) a_nil) rfl))) a_nil)))))) (SndAs.as (i := 1) (T.n_BadFloor rfl rfl) T.s_BadFloor nd (by decide) rfl rfl (fun a o d k pn hz hf => (s_one (s_ret (x_tup (a_cons x_str (a_cons (x_esc (x_xf (i := 1) T.ec_BadFloor.X (T.ec_BadFloor.no _ (by decide)) hz hf)) a_nil)))))) SndAs.nil)))
theorem sc__law_same : FnScope ["actual", "due", "one", "other"] ["actual", "due"] (defScope (topS 32)) := ⟨rfl, rfl, rfl, by decide +kernel, rfl, by decide +kernel, by decide +kernel⟩
theorem ok__law_same (T : Txt K mg fa fd ci) : ∀ n : Nat, FnOkG P w K mg base (L2.CX P w) (1 + n) (fa 18) (fd 18) ["actual", "due"] (spF K ci [false, false] (d__law_same n)) := by
  have O__law_is_integer := ok__law_is_integer (P := P) (w := w) (base := base) T
  intro n
  induction n with
  | zero => exact fn_zero rfl
  | succ n ih =>
    refine fn_ok (k := 1 + n) T.F__law_same sc__law_same rfl fun cdv A outer s H E hr => ?_
    have hu := hr.units
    have hg := hr.g
    have nd := sc__law_same.nd
    have F0 := ih
    have hr0 := hr
    exact (s_cons (s_if (t_cmp o_is (x_var 1) x_non (nomark _)) (s_one (s_ret (x_cmp o_is (x_var 0) x_non (nomark _)))) s_nil)
  (s_cons (s_if (t_cmp o_is (x_var 1) x_bl (nomark _)) (s_one (s_ret (x_cmp o_is (x_var 0) x_bl (nomark _)))) s_nil)
  (s_cons (s_if (t_cmp o_is (x_var 1) x_bl (nomark _)) (s_one (s_ret (x_cmp o_is (x_var 0) x_bl (nomark _)))) s_nil)
  (s_cons (s_if (t_val (x_isi tab_int rfl T.z_isinstance (by decide +kernel) rfl T.z_int (by decide +kernel) (x_var 1))) (s_one (s_ret (x_and (x_call O__law_is_integer (hr.mono (by omega)) rfl T.G__law_is_integer T.F__law_is_integer.kp T.B__law_is_integer (a_cons (x_esc (x_var 0)) a_nil)) (x_one (x_cmp (o_eq hu) (x_var 0) (x_var 1) (nomark _)))))) s_nil)
  (s_cons (s_if (t_val (x_isi tab_str rfl T.z_isinstance (by decide +kernel) rfl T.z_str (by decide +kernel) (x_var 1))) (s_one (s_ret (x_and (x_isi tab_str rfl T.z_isinstance (by decide +kernel) rfl T.z_str (by decide +kernel) (x_var 0)) (x_one (x_cmp (o_eq hu) (x_var 0) (x_var 1) (nomark _)))))) s_nil)
  (s_cons (s_if (t_w (w_or (t_cmp (o_ne hu) (x_isi tab_tuple rfl T.z_isinstance (by decide +kernel) rfl T.z_tuple (by decide +kernel) (x_var 1)) (x_isi tab_tuple rfl T.z_isinstance (by decide +kernel) rfl T.z_tuple (by decide +kernel) (x_var 0)) (nomark _)) (w_or1 (t_cmp (o_ne hu) (x_isi tab_list rfl T.z_isinstance (by decide +kernel) rfl T.z_list (by decide +kernel) (x_var 1)) (x_isi tab_list rfl T.z_isinstance (by decide +kernel) rfl T.z_list (by decide +kernel) (x_var 0)) (nomark _))))) (s_one (s_ret x_bl)) s_nil)
  (s_cons (s_if (t_cmp (o_ne hu) (x_callB b_len rfl T.z_len (by decide +kernel) (a_cons (x_var 0) a_nil)) (x_callB b_len rfl T.z_len (by decide +kernel) (a_cons (x_var 1) a_nil)) (nomark _)) (s_one (s_ret x_bl)) s_nil)
  (s_cons (s_for (passes_of rfl) rfl (i_zip rfl T.z_zip (x_esc (x_var 0)) (x_esc (x_var 1))) (g_tp rfl (gs_cons (g_nm (by decide) nd) (gs_cons (g_nm (by decide) nd) gs_nil))) (s_one (s_if (t_not (t_val (x_call F0 hr0 rfl T.G__law_same T.F__law_same.kp T.B__law_same (a_cons (x_esc (x_var 2)) (a_cons (x_esc (x_var 3)) a_nil))))) (s_one (s_ret x_bl)) s_nil)))
  (s_one (s_ret x_bl))))))))))
theorem sc__law_near_told : FnScope ["floor", "cell"] ["floor", "cell"] (defScope (topS 43)) := ⟨rfl, rfl, rfl, by decide +kernel, rfl, by decide +kernel, by decide +kernel⟩
theorem ok__law_near_told (T : Txt K mg fa fd ci) : FnOkG P w K mg base (L2.CX P w) 6 (fa 29) (fd 29) ["floor", "cell"] (spF K ci [false, false] d__law_near_told) := by
  have O_neighbours := ok_neighbours (P := P) (w := w) (base := base) T
  refine fn_ok (k := 5) T.F__law_near_told sc__law_near_told rfl fun cdv A outer s H E hr => ?_
  have hu := hr.units
  have hg := hr.g
  have nd := sc__law_near_told.nd
  exact (s_one (s_try rfl rfl (fun _ _ hp => (s_one (s_ret (x_tup (a_cons x_str (a_cons (x_esc (x_call O_neighbours (hr.mono (by decide)) rfl T.G_neighbours T.F_neighbours.kp T.B_neighbours (a_cons (x_esc (x_var 0)) (a_cons (x_esc (x_var 1)) a_nil)))) a_nil)))))) (SndHs.cons (T.n_NoCell rfl rfl) T.s_NoCell (fun _ _ _ => (s_one (s_ret (x_tup (a_cons x_str a_nil))))) SndHs.nil)))
theorem sc_law : FnScope ["script", "hand", "rows", "thing", "bad", "due", "floor", "spots", "near", "rests", "stops", "k", "cell"] ["script"] (defScope (topS 44)) := ⟨rfl, rfl, rfl, by decide +kernel, rfl, by decide +kernel, by decide +kernel⟩
theorem ok_law (T : Txt K mg fa fd ci) : FnOkG P w K mg base (L2.CX P w) 7 (fa 30) (fd 30) ["script"] (spF K ci [false] d_law) := by
  have O_Floor__eq := ok_Floor__eq (P := P) (w := w) (base := base) T
  have O__law_hand := ok__law_hand (P := P) (w := w) (base := base) T
  have O__law_rows := ok__law_rows (P := P) (w := w) (base := base) T
  have O__law_plan_of := ok__law_plan_of (P := P) (w := w) (base := base) T
  have O__law_same := ok__law_same (P := P) (w := w) (base := base) T 5
  have O__law_pick := ok__law_pick (P := P) (w := w) (base := base) T
  have O__law_spoilt := ok__law_spoilt (P := P) (w := w) (base := base) T
  have O__law_bad_rows := ok__law_bad_rows (P := P) (w := w) (base := base) T
  have O__law_is_within := ok__law_is_within (P := P) (w := w) (base := base) T
  have O_stations := ok_stations (P := P) (w := w) (base := base) T
  have O__law_made := ok__law_made (P := P) (w := w) (base := base) T
  have O_cells := ok_cells (P := P) (w := w) (base := base) T
  have O_homes := ok_homes (P := P) (w := w) (base := base) T
  have O__law_take := ok__law_take (P := P) (w := w) (base := base) T
  have O__law_odd := ok__law_odd (P := P) (w := w) (base := base) T
  have O__law_near_told := ok__law_near_told (P := P) (w := w) (base := base) T
  have O_Floor__init := ok_Floor__init (P := P) (w := w) (base := base) T
  refine fn_ok (k := 6) T.F_law sc_law rfl fun cdv A outer s H E hr => ?_
  have hu := hr.units
  have hg := hr.g
  have nd := sc_law.nd
  exact (s_cons (s_own (i := 1) (by decide) (x_call O__law_hand (hr.mono (by decide)) rfl T.G__law_hand T.F__law_hand.kp T.B__law_hand (a_cons (x_esc (x_var 0)) a_nil)) nd)
  (s_cons (s_set (i := 2) (by decide) (x_call O__law_rows (hr.mono (by decide)) rfl T.G__law_rows T.F__law_rows.kp T.B__law_rows (a_cons (x_var 1) (a_cons (x_esc (x_call O__law_pick (hr.mono (by decide)) rfl T.G__law_pick T.F__law_pick.kp T.B__law_pick (a_cons (x_var 1) (a_cons (x_esc (x_lst (a_cons x_int (a_cons x_int (a_cons x_int (a_cons x_int a_nil)))))) a_nil)))) a_nil))) nd)
  (s_cons (s_for (passes_of rfl) rfl (i_list (x_esc (x_lst (a_cons (x_esc (x_var 2)) (a_cons (x_esc (x_call O__law_spoilt (hr.mono (by decide)) rfl T.G__law_spoilt T.F__law_spoilt.kp T.B__law_spoilt (a_cons (x_var 1) (a_cons (x_esc (x_var 2)) a_nil)))) (a_cons (x_esc (x_call O__law_spoilt (hr.mono (by decide)) rfl T.G__law_spoilt T.F__law_spoilt.kp T.B__law_spoilt (a_cons (x_var 1) (a_cons (x_esc (x_var 2)) a_nil)))) (a_cons (x_esc (x_call O__law_spoilt (hr.mono (by decide)) rfl T.G__law_spoilt T.F__law_spoilt.kp T.B__law_spoilt (a_cons (x_var 1) (a_cons (x_esc (x_var 2)) a_nil)))) a_nil))))))) (g_nm (by decide) nd) (s_cons (s_set (i := 4) (by decide) (x_call O__law_bad_rows (hr.mono (by decide)) rfl T.G__law_bad_rows T.F__law_bad_rows.kp T.B__law_bad_rows (a_cons (x_esc (x_var 3)) a_nil)) nd)
  (s_cons (s_set (i := 5) (by decide) (x_tup (a_cons x_str (a_cons (x_esc (x_var 4)) a_nil))) nd)
  (s_cons (s_if (t_cmp o_is (x_var 4) x_non (nomark _)) (s_one (s_set (i := 5) (by decide) (x_tup (a_cons x_str (a_cons (x_esc (x_var 3)) a_nil))) nd)) s_nil)
  (s_cons (s_if (t_not (t_val (x_call O__law_same (hr.mono (by decide)) rfl T.G__law_same T.F__law_same.kp T.B__law_same (a_cons (x_esc (x_call O__law_made (hr.mono (by decide)) rfl T.G__law_made T.F__law_made.kp T.B__law_made (a_cons (x_esc (x_var 3)) a_nil))) (a_cons (x_esc (x_var 5)) a_nil))))) (s_one (s_ret x_bl)) s_nil)
  (s_one (s_if (t_w (w_and (t_cmp o_is (x_var 4) x_non (nomark _)) (w_and1 (t_w (w_or (t_cmp (o_ne hu) (x_eqC T.eq_Floor O_Floor__eq (hr.mono (by decide)) T.B_Floor__eq (x_make (n := 1) T.mk_Floor O_Floor__init (hr.mono (by decide)) rfl T.g_Floor T.B_Floor__init (a_cons (x_esc (x_var 3)) a_nil) rfl) (x_make (n := 1) T.mk_Floor O_Floor__init (hr.mono (by decide)) rfl T.g_Floor T.B_Floor__init (a_cons (x_esc (x_var 2)) a_nil) rfl) (nomark _)) (x_cmp (o_eq hu) (x_var 3) (x_var 2) (nomark _)) (nomark _)) (w_or1 (t_eqC T.eq_Floor O_Floor__eq (hr.mono (by decide)) T.B_Floor__eq (x_make (n := 1) T.mk_Floor O_Floor__init (hr.mono (by decide)) rfl T.g_Floor T.B_Floor__init (a_cons (x_esc (x_var 3)) a_nil) rfl) (x_var 3) (nomark _)))))))) (s_one (s_ret x_bl)) s_nil)))))))
  (s_cons (s_set (i := 6) (by decide) (x_make (n := 1) T.mk_Floor O_Floor__init (hr.mono (by decide)) rfl T.g_Floor T.B_Floor__init (a_cons (x_esc (x_var 2)) a_nil) rfl) nd)
  (s_cons (s_un (x_call O__law_plan_of (hr.mono (by decide)) rfl T.G__law_plan_of T.F__law_plan_of.kp T.B__law_plan_of (a_cons (x_esc (x_var 2)) a_nil)) (g_tp rfl (gs_cons (g_nm (by decide) nd) (gs_cons (g_nm (by decide) nd) (gs_cons (g_nm (by decide) nd) (gs_cons (g_nm (by decide) nd) gs_nil))))))
  (s_cons (s_if (t_w (w_or (t_not (t_val (x_call O__law_same (hr.mono (by decide)) rfl T.G__law_same T.F__law_same.kp T.B__law_same (a_cons (x_esc (x_call O_cells (hr.mono (by decide)) rfl T.G_cells T.F_cells.kp T.B_cells (a_cons (x_esc (x_var 6)) a_nil))) (a_cons (x_esc (x_callTy b_tuple rfl T.z_tuple (by decide +kernel) (a_cons (x_var 7) a_nil))) a_nil))))) (w_or1 (t_not (t_val (x_call O__law_same (hr.mono (by decide)) rfl T.G__law_same T.F__law_same.kp T.B__law_same (a_cons (x_esc (x_call O_homes (hr.mono (by decide)) rfl T.G_homes T.F_homes.kp T.B_homes (a_cons (x_esc (x_var 6)) a_nil))) (a_cons (x_esc (x_callTy b_tuple rfl T.z_tuple (by decide +kernel) (a_cons (x_var 9) a_nil))) a_nil)))))))) (s_one (s_ret x_bl)) s_nil)
  (s_cons (s_if (t_not (t_val (x_call O__law_same (hr.mono (by decide)) rfl T.G__law_same T.F__law_same.kp T.B__law_same (a_cons (x_esc (x_call O_stations (hr.mono (by decide)) rfl T.G_stations T.F_stations.kp T.B_stations (a_cons (x_esc (x_var 6)) a_nil))) (a_cons (x_esc (x_callTy b_tuple rfl T.z_tuple (by decide +kernel) (a_cons (x_var 10) a_nil))) a_nil))))) (s_one (s_ret x_bl)) s_nil)
  (s_cons (s_for (passes_of rfl) rfl (i_rng1 rfl T.z_range x_int) (g_nm (by decide) nd) (s_cons (s_set (i := 12) (by decide) (x_call O__law_pick (hr.mono (by decide)) rfl T.G__law_pick T.F__law_pick.kp T.B__law_pick (a_cons (x_var 1) (a_cons (x_esc (x_lst (a_cons (x_esc (x_call O__law_take (hr.mono (by decide)) rfl T.G__law_take T.F__law_take.kp T.B__law_take (a_cons (x_var 1) (a_cons (x_esc (x_callB b_len rfl T.z_len (by decide +kernel) (a_cons (x_var 7) a_nil))) a_nil)))) (a_cons (x_esc (x_call O__law_take (hr.mono (by decide)) rfl T.G__law_take T.F__law_take.kp T.B__law_take (a_cons (x_var 1) (a_cons (x_esc (x_callB b_len rfl T.z_len (by decide +kernel) (a_cons (x_var 7) a_nil))) a_nil)))) (a_cons (x_esc (x_callB b_len rfl T.z_len (by decide +kernel) (a_cons (x_var 7) a_nil))) (a_cons (x_esc (x_neg x_int)) (a_cons x_bl (a_cons (x_esc (x_call O__law_odd (hr.mono (by decide)) rfl T.G__law_odd T.F__law_odd.kp T.B__law_odd (a_cons (x_var 1) a_nil))) a_nil)))))))) a_nil))) nd)
  (s_cons (s_set (i := 5) (by decide) (x_tup (a_cons x_str a_nil)) nd)
  (s_cons (s_if (t_val (x_call O__law_is_within (hr.mono (by decide)) rfl T.G__law_is_within T.F__law_is_within.kp T.B__law_is_within (a_cons (x_esc (x_var 12)) (a_cons x_int (a_cons (x_esc (x_op o_sub (x_callB b_len rfl T.z_len (by decide +kernel) (a_cons (x_var 7) a_nil)) x_int)) a_nil))))) (s_one (s_set (i := 5) (by decide) (x_tup (a_cons x_str (a_cons (x_esc (x_callTy b_tuple rfl T.z_tuple (by decide +kernel) (a_cons (x_ix ix_all (x_var 8) (x_var 12)) a_nil))) a_nil))) nd)) s_nil)
  (s_one (s_if (t_not (t_val (x_call O__law_same (hr.mono (by decide)) rfl T.G__law_same T.F__law_same.kp T.B__law_same (a_cons (x_esc (x_call O__law_near_told (hr.mono (by decide)) rfl T.G__law_near_told T.F__law_near_told.kp T.B__law_near_told (a_cons (x_esc (x_var 6)) (a_cons (x_esc (x_var 12)) a_nil)))) (a_cons (x_esc (x_var 5)) a_nil))))) (s_one (s_ret x_bl)) s_nil))))))
  (s_one (s_ret (x_call O__law_same (hr.mono (by decide)) rfl T.G__law_same T.F__law_same.kp T.B__law_same (a_cons (x_esc (x_fld T.ic_Floor (by decide) (x_var 6))) (a_cons (x_esc (x_var 2)) a_nil)))))))))))))
end
end K01

set_option maxRecDepth 100000
set_option maxHeartbeats 4000000
namespace K01
open PySem BV
def iW (l : List Nat) : List W := l.map fun (i : Nat) => W.int (i : Int)
theorem iW_len {l : List Nat} : (iW l).length = l.length := List.length_map ..
theorem iW_app {l m : List Nat} : iW (l ++ m) = iW l ++ iW m := List.map_append ..
theorem mem_iW {l : List Nat} {w : W} (h : w ∈ iW l) : ∃ i ∈ l, w = .int (i : Int) := by
  obtain ⟨i, m, e⟩ := List.mem_map.1 h
  exact ⟨i, m, e.symm⟩
def floorW (rw sp : W) (N : List (List Nat)) (rs ss : List Nat) : W := .ins 3 [("rows", rw), ("spots", sp), ("ties", .tup (N.map fun l => .tup (iW l))), ("rests", .tup (iW rs)), ("stops", .tup (iW ss))]
section
variable {rw sp : W} {N : List (List Nat)} {rs ss : List Nat}
theorem fld_ties : gFld 3 "ties" (floorW rw sp N rs ss) = some (.v (.tup (N.map fun l => .tup (iW l)))) := (rfl)
theorem fld_rests : gFld 3 "rests" (floorW rw sp N rs ss) = some (.v (.tup (iW rs))) := (rfl)
theorem fld_stops : gFld 3 "stops" (floorW rw sp N rs ss) = some (.v (.tup (iW ss))) := (rfl)
theorem fld_spots : gFld 3 "spots" (floorW rw sp N rs ss) = some (.v sp) := (rfl)
end
theorem vFs_iW : ∀ {l : List Nat}, vFs (iW l) = some (l.map fun (i : Nat) => L2.V.int (i : Int))
  | [] => rfl
  | i :: l => by
    show (match vF (.int (i : Int)), vFs (iW l) with | some v, some vs => some (v :: vs) | _, _ => none) = _
    rw [vFs_iW]
    rfl
theorem inV_int {o : Nat} : ∀ {l : List Nat}, L2.inV (.int (o : Int)) (l.map fun (i : Nat) => L2.V.int (i : Int)) = decide (o ∈ l)
  | [] => rfl
  | i :: l => by
    show ((i : Int) == (o : Int) || L2.inV (.int (o : Int)) (l.map fun (i : Nat) => L2.V.int (i : Int))) = _
    rw [inV_int]
    by_cases c : i = o
    · subst c
      simp
    · have : ¬ o = i := fun z => c z.symm
      have ci : ¬ (i : Int) = (o : Int) := by omega
      simp [ci, this]
theorem notIn_tup {o : Nat} {l : List Nat} : gNotIn (.int (o : Int)) (.tup (iW l)) = some (.v (.bl (!decide (o ∈ l)))) := by
  show orG gNotInF _ _ _ = _
  unfold orG gNotInF
  show (match (match vF (.int (o : Int)), vFs (iW l) with | some v, some vs => some (OV.v (.bl (!L2.inV v vs))) | _, _ => none) with | some o => some o | none => _) = _
  rw [vFs_iW]
  show some (OV.v (.bl (!L2.inV (.int (o : Int)) _))) = _
  rw [inV_int]
theorem notIn_lst {o : Nat} {l : List Nat} : gNotIn (.int (o : Int)) (.lst (iW l)) = some (.v (.bl (!decide (o ∈ l)))) := by
  show orG gNotInF _ _ _ = _
  unfold orG gNotInF
  show (match (match vF (.int (o : Int)), vFs (iW l) with | some v, some vs => some (OV.v (.bl (!L2.inV v vs))) | _, _ => none) with | some o => some o | none => _) = _
  rw [vFs_iW]
  show some (OV.v (.bl (!L2.inV (.int (o : Int)) _))) = _
  rw [inV_int]
theorem in_tup {o : Nat} {l : List Nat} : gIn (.int (o : Int)) (.tup (iW l)) = some (.v (.bl (decide (o ∈ l)))) := by
  show orG gInF _ _ _ = _
  unfold orG gInF
  show (match (match vF (.int (o : Int)), vFs (iW l) with | some v, some vs => some (OV.v (.bl (L2.inV v vs))) | _, _ => none) with | some o => some o | none => _) = _
  rw [vFs_iW]
  show some (OV.v (.bl (L2.inV (.int (o : Int)) _))) = _
  rw [inV_int]
theorem atI_iW {l : List Nat} {i x : Nat} (h : l[i]? = some x) : L2.atI (iW l) (i : Int) = some (.int (x : Int)) := by
  have hl := (List.getElem?_eq_some_iff.1 h).1
  rw [atI_get ⟨by omega, by rw [iW_len]; omega⟩, Int.toNat_natCast]
  unfold iW
  rw [List.getElem?_map, h]
  rfl
def nbN (N : List (List Nat)) (c : Nat) : List Nat := (N[c]?).getD []
theorem tie_at {N : List (List Nat)} {c : Nat} (h : c < N.length) : L2.atI (N.map fun l => W.tup (iW l)) (c : Int) = some (.tup (iW (nbN N c))) := by
  rw [atI_get ⟨by omega, by rw [List.length_map]; omega⟩, Int.toNat_natCast, List.getElem?_map, List.getElem?_eq_getElem h]
  unfold nbN
  rw [List.getElem?_eq_getElem h]
  rfl
structure Grf (N : List (List Nat)) : Prop where
  small : N.length ≤ 200
  lt : ∀ c, c < N.length → ∀ o ∈ nbN N c, o < N.length
  deg : ∀ c, (nbN N c).length ≤ 1000
  sym : ∀ c o, o ∈ nbN N c → c ∈ nbN N o
def nearW (N : List (List Nat)) : W := .lst (N.map fun l => .lst (iW l))
theorem near_at {N : List (List Nat)} {c : Nat} (h : c < N.length) : L2.atI (N.map fun l => W.lst (iW l)) (c : Int) = some (.lst (iW (nbN N c))) := by
  rw [atI_get ⟨by omega, by rw [List.length_map]; omega⟩, Int.toNat_natCast, List.getElem?_map, List.getElem?_eq_getElem h]
  unfold nbN
  rw [List.getElem?_eq_getElem h]
  rfl
theorem fm_iW {n : Nat} {k : W → Option W} {p : Nat → Bool} (h : ∀ i, i < n → k (.int (i : Int)) = if p i = true then some (.int (i : Int)) else none) : (rangeW 0 (n : Int)).filterMap k = iW ((List.range n).filter p) := by
  have e : rangeW 0 (n : Int) = iW (List.range n) := by
    unfold rangeW iW
    simp
  rw [e]
  have : ∀ l : List Nat, (∀ i ∈ l, i < n) → (iW l).filterMap k = iW (l.filter p) := by
    intro l
    induction l with
    | nil => intro _; rfl
    | cons x xs ih =>
      intro hl
      have ih := ih (fun i m => hl i (List.mem_cons_of_mem _ m))
      show (W.int (x : Int) :: iW xs).filterMap k = _
      have hx := h x (hl x (List.mem_cons_self ..))
      by_cases c : p x = true
      · rw [if_pos c] at hx
        rw [List.filterMap_cons_some hx, List.filter_cons_of_pos c, ih]
        rfl
      · rw [if_neg c] at hx
        rw [List.filterMap_cons_none hx, List.filter_cons_of_neg c, ih]
  exact this _ fun i m => List.mem_range.1 m
theorem rangeW_cons {lo hi : Int} (h : lo < hi) : rangeW lo hi = .int lo :: rangeW (lo + 1) hi := by
  unfold rangeW
  obtain ⟨n, hn⟩ : ∃ n, (hi - lo).toNat = n + 1 := ⟨(hi - lo).toNat - 1, by omega⟩
  rw [hn, show (hi - (lo + 1)).toNat = n by omega, List.range_succ_eq_map, List.map_cons, List.map_map]
  congr 1
  · simp
  · apply List.map_congr_left
    intro a _
    show W.int (lo + ((a + 1 : Nat) : Int)) = W.int (lo + 1 + (a : Int))
    congr 1
    omega
theorem c_integer : d_is_integer = dInteger := rfl
theorem c_linteger : d__law_is_integer = dInteger := rfl
theorem c_within : d_is_within = dWithin := rfl
theorem c_below : d_is_below = dBelow := rfl
theorem c_take : d__law_take = dTake := rfl
theorem c_pick : d__law_pick = dPick := rfl
theorem c_odd : d__law_odd = dOdd := rfl
theorem c_same (n : Nat) : d__law_same n = dSame n := by
  induction n with
  | zero => rfl
  | succ n ih =>
    show fdef 4 [false, false] (b__law_same (d__law_same n)) = fdef 4 [false, false] (bSame (dSame n))
    rw [ih]
    rfl
theorem c_lwithin : d__law_is_within = dLWithin := rfl
theorem gAll_b {xs : List W} {bs : List Bool} (h : bools xs = some bs) : gAll [.lst xs] = some (.v (.bl (bs.all id))) := by
  show (bools xs).map _ = _
  rw [h]
  rfl
end K01

set_option maxRecDepth 100000
set_option maxHeartbeats 4000000
namespace K01
open PySem BV
/-! cells of rows of signs, in plain Lean -/
def rowSp (i : Nat) : Nat → List Nat → List (Nat × Nat)
  | _, [] => []
  | j, c :: cs => if c = 35 then rowSp i (j + 1) cs else (i, j) :: rowSp i (j + 1) cs
def allSp : Nat → List (List Nat) → List (Nat × Nat)
  | _, [] => []
  | i, l :: ls => rowSp i 0 l ++ allSp (i + 1) ls
theorem allSp_app : ∀ {A B : List (List Nat)} {i : Nat}, allSp i (A ++ B) = allSp i A ++ allSp (i + A.length) B
  | [], B, i => by simp [allSp]
  | a :: A, B, i => by
    show rowSp i 0 a ++ allSp (i + 1) (A ++ B) = rowSp i 0 a ++ allSp (i + 1) A ++ allSp (i + (A.length + 1)) B
    rw [allSp_app, List.append_assoc, show i + 1 + A.length = i + (A.length + 1) by omega]
theorem rowSp_mem {i : Nat} {p : Nat × Nat} : ∀ {l : List Nat} {j : Nat}, p ∈ rowSp i j l → p.1 = i ∧ j ≤ p.2 ∧ p.2 < j + l.length
  | [], j, m => by cases m
  | c :: cs, j, m => by
    unfold rowSp at m
    rw [List.length_cons]
    split at m
    · have := rowSp_mem m
      omega
    · rcases List.mem_cons.1 m with rfl | m
      · exact ⟨rfl, by simp, by simp⟩
      · have := rowSp_mem m
        omega
theorem allSp_mem {p : Nat × Nat} : ∀ {ls : List (List Nat)} {i : Nat}, p ∈ allSp i ls → i ≤ p.1 ∧ ∃ l, ls[p.1 - i]? = some l ∧ p.2 < l.length
  | [], i, m => by cases m
  | l :: ls, i, m => by
    unfold allSp at m
    rcases List.mem_append.1 m with m | m
    · obtain ⟨h1, h2, h3⟩ := rowSp_mem m
      refine ⟨by omega, l, ?_, by omega⟩
      rw [h1, Nat.sub_self]
      rfl
    · obtain ⟨h1, l', h2, h3⟩ := allSp_mem m
      refine ⟨by omega, l', ?_, h3⟩
      rw [show p.1 - i = (p.1 - (i + 1)) + 1 by omega]
      exact h2
theorem rowSp_nd {i : Nat} : ∀ {l : List Nat} {j : Nat}, (rowSp i j l).Nodup
  | [], _ => .nil
  | c :: cs, j => by
    unfold rowSp
    split
    · exact rowSp_nd
    · rw [List.nodup_cons]
      refine ⟨fun m => ?_, rowSp_nd⟩
      have := rowSp_mem m
      simp at this
      omega
theorem allSp_nd : ∀ {ls : List (List Nat)} {i : Nat}, (allSp i ls).Nodup
  | [], _ => .nil
  | l :: ls, i => by
    unfold allSp
    rw [List.nodup_append]
    refine ⟨rowSp_nd, allSp_nd, fun a ma b mb e => ?_⟩
    subst e
    have h1 := rowSp_mem ma
    have h2 := allSp_mem mb
    omega
theorem rowSp_len {i : Nat} : ∀ {l : List Nat} {j : Nat}, (rowSp i j l).length ≤ l.length
  | [], _ => by simp [rowSp]
  | c :: cs, j => by
    unfold rowSp
    have := rowSp_len (i := i) (l := cs) (j := j + 1)
    split
    · simp
      omega
    · simp
      omega
theorem allSp_len {wd : Nat} : ∀ {ls : List (List Nat)} {i : Nat}, (∀ l ∈ ls, l.length = wd) → (allSp i ls).length ≤ ls.length * wd
  | [], _, _ => by simp [allSp]
  | l :: ls, i, h => by
    unfold allSp
    have h1 := rowSp_len (i := i) (l := l) (j := 0)
    have h2 := allSp_len (ls := ls) (i := i + 1) fun l m => h l (List.mem_cons_of_mem _ m)
    have h3 := h l (List.mem_cons_self ..)
    rw [List.length_append, List.length_cons, Nat.succ_mul]
    omega
def adjP (p q : Nat × Nat) : Bool := decide (((((q.1 : Int) - p.1).natAbs : Int) + (((q.2 : Int) - p.2).natAbs : Int)) = 1)
def adjO (p : Nat × Nat) : Option (Nat × Nat) → Bool
  | none => false
  | some q => adjP p q
def nearL (sp : List (Nat × Nat)) (c : Nat) : List Nat := match sp[c]? with
  | none => []
  | some p => (List.range sp.length).filter fun o => adjO p sp[o]?
def nbs (sp : List (Nat × Nat)) : List (List Nat) := (List.range sp.length).map (nearL sp)
theorem nbs_len {sp : List (Nat × Nat)} : (nbs sp).length = sp.length := by simp [nbs]
theorem nbs_at {sp : List (Nat × Nat)} {c : Nat} : nbN (nbs sp) c = nearL sp c := by
  unfold nbN nbs
  rw [List.getElem?_map]
  by_cases h : c < sp.length
  · rw [List.getElem?_range h]
    rfl
  · rw [List.getElem?_eq_none (by simp; omega)]
    unfold nearL
    rw [List.getElem?_eq_none (by omega)]
    rfl
theorem near_mem {sp : List (Nat × Nat)} {c o : Nat} : o ∈ nearL sp c ↔ ∃ p q, sp[c]? = some p ∧ sp[o]? = some q ∧ adjP p q = true := by
  unfold nearL
  cases h : sp[c]? with
  | none => simp
  | some p =>
    simp only [List.mem_filter, List.mem_range]
    constructor
    · rintro ⟨h1, h2⟩
      rw [List.getElem?_eq_getElem h1] at h2
      exact ⟨p, _, rfl, List.getElem?_eq_getElem h1, h2⟩
    · rintro ⟨p', q, e, h1, h2⟩
      cases e
      exact ⟨(List.getElem?_eq_some_iff.1 h1).1, by rw [h1]; exact h2⟩
theorem adj_sym {p q : Nat × Nat} (h : adjP p q = true) : adjP q p = true := by
  unfold adjP at *
  have := of_decide_eq_true h
  apply decide_eq_true
  omega
theorem near_asc {sp : List (Nat × Nat)} {c : Nat} : (nearL sp c).Pairwise (· < ·) := by
  unfold nearL
  split
  · exact .nil
  · exact List.pairwise_lt_range.filter _
theorem nbs_grf {sp : List (Nat × Nat)} (h : sp.length ≤ 200) : Grf (nbs sp) where
  small := by rw [nbs_len]; exact h
  lt := fun c hc o m => by
    rw [nbs_at] at m
    obtain ⟨p, q, _, h2, _⟩ := near_mem.1 m
    rw [nbs_len]
    exact (List.getElem?_eq_some_iff.1 h2).1
  deg := fun c => by
    rw [nbs_at]
    unfold nearL
    split
    · simp
    · refine Nat.le_trans (List.length_filter_le ..) ?_
      simp
      omega
  sym := fun c o m => by
    rw [nbs_at] at m ⊢
    obtain ⟨p, q, h1, h2, h3⟩ := near_mem.1 m
    exact near_mem.2 ⟨q, p, h2, h1, adj_sym h3⟩
/-! the number of a cell -/
def idxF (q : Int × Int) : Nat → List (Nat × Nat) → Option Nat
  | _, [] => none
  | i, p :: ps => if (p.1 : Int) = q.1 ∧ (p.2 : Int) = q.2 then some i else idxF q (i + 1) ps
theorem idxF_some {q : Int × Int} : ∀ {ps : List (Nat × Nat)} {i o : Nat}, idxF q i ps = some o → i ≤ o ∧ ∃ p, ps[o - i]? = some p ∧ (p.1 : Int) = q.1 ∧ (p.2 : Int) = q.2
  | [], _, _, h => by cases h
  | p :: ps, i, o, h => by
    unfold idxF at h
    split at h
    · rename_i c
      cases h
      exact ⟨Nat.le_refl _, p, by simp, c⟩
    · obtain ⟨h1, p', h2, h3⟩ := idxF_some h
      refine ⟨by omega, p', ?_, h3⟩
      rw [show o - i = (o - (i + 1)) + 1 by omega]
      exact h2
theorem idxF_of {q : Int × Int} : ∀ {ps : List (Nat × Nat)} {i k : Nat} {p : Nat × Nat}, ps.Nodup → ps[k]? = some p → (p.1 : Int) = q.1 ∧ (p.2 : Int) = q.2 → idxF q i ps = some (i + k)
  | [], _, _, _, _, h, _ => by cases h
  | p0 :: ps, i, k, p, nd, h, hp => by
    rw [List.nodup_cons] at nd
    unfold idxF
    cases k with
    | zero =>
      cases h
      rw [if_pos hp]
      rfl
    | succ k =>
      have h : ps[k]? = some p := h
      rw [if_neg (fun c => ?_), idxF_of nd.2 h hp]
      · congr 1
        omega
      · have : p0 = p := by
          rcases p0 with ⟨a, b⟩
          rcases p with ⟨a', b'⟩
          simp at c hp
          congr 1
          · omega
          · omega
        subst this
        exact nd.1 (List.mem_of_getElem? h)
def around (p : Nat × Nat) : List (Int × Int) := [((p.1 : Int) - 1, (p.2 : Int)), ((p.1 : Int) + 1, (p.2 : Int)), ((p.1 : Int), (p.2 : Int) - 1), ((p.1 : Int), (p.2 : Int) + 1)]
def tiesU (sp : List (Nat × Nat)) (p : Nat × Nat) : List Nat := (around p).filterMap fun q => idxF q 0 sp
theorem around_adj {p q : Nat × Nat} : adjP p q = true ↔ ((q.1 : Int), (q.2 : Int)) ∈ around p := by
  unfold adjP around
  rw [decide_eq_true_iff]
  simp
  omega
theorem ties_mem {sp : List (Nat × Nat)} {c o : Nat} {p : Nat × Nat} (nd : sp.Nodup) (hp : sp[c]? = some p) : o ∈ tiesU sp p ↔ o ∈ nearL sp c := by
  unfold tiesU
  rw [List.mem_filterMap, near_mem]
  constructor
  · rintro ⟨q, mq, h⟩
    obtain ⟨_, q', h2, h3, h4⟩ := idxF_some h
    refine ⟨p, q', hp, h2, around_adj.2 ?_⟩
    rw [h3, h4]
    exact mq
  · rintro ⟨p', q', h1, h2, h3⟩
    rw [hp] at h1
    cases h1
    refine ⟨((q'.1 : Int), (q'.2 : Int)), around_adj.1 h3, ?_⟩
    rw [idxF_of nd h2 ⟨rfl, rfl⟩, Nat.zero_add]
theorem ties_nd {sp : List (Nat × Nat)} {p : Nat × Nat} : (tiesU sp p).Nodup := by
  unfold tiesU
  have nd : (around p).Nodup := by
    unfold around
    simp
    omega
  refine List.Pairwise.filterMap _ (fun a a' ne b e b' e' eb => ?_) nd
  subst eb
  obtain ⟨_, q1, h1, h2, h3⟩ := idxF_some e
  obtain ⟨_, q2, h4, h5, h6⟩ := idxF_some e'
  rw [h1] at h4
  cases h4
  exact ne (by rcases a with ⟨x, y⟩; rcases a' with ⟨x', y'⟩; simp at *; omega)
theorem ties_sort {sp : List (Nat × Nat)} {c : Nat} {p : Nat × Nat} (nd : sp.Nodup) (hp : sp[c]? = some p) : sortI ((tiesU sp p).map fun (i : Nat) => (i : Int)) = (nearL sp c).map fun (i : Nat) => (i : Int) := by
  have pm : (tiesU sp p).Perm (nearL sp c) := (List.perm_ext_iff_of_nodup ties_nd (near_asc.imp (by intro a b; omega))).2 fun o => ties_mem nd hp
  refine sorted_one (sortI_perm.trans (pm.map _)) sortI_sorted ?_
  rw [List.pairwise_map]
  exact near_asc.imp (by intro a b; omega)
def sgnO (Rw : List (List Nat)) : Option (Nat × Nat) → Nat
  | none => 0
  | some p => (((Rw[p.1]?).getD [])[p.2]?).getD 0
def offs (Rw : List (List Nat)) (sp : List (Nat × Nat)) (k : Nat) : List Nat := (List.range sp.length).filter fun c => decide (sgnO Rw sp[c]? = k)
theorem offs_asc {Rw : List (List Nat)} {sp : List (Nat × Nat)} {k : Nat} : (offs Rw sp k).Pairwise (· < ·) := List.pairwise_lt_range.filter _
theorem offs_lt {Rw : List (List Nat)} {sp : List (Nat × Nat)} {k : Nat} : ∀ x ∈ offs Rw sp k, x < sp.length := fun x m => List.mem_range.1 (List.mem_filter.1 m).1
theorem offs_len {Rw : List (List Nat)} {sp : List (Nat × Nat)} {k : Nat} : (offs Rw sp k).length ≤ sp.length := by
  have := List.length_filter_le (fun c => decide (sgnO Rw sp[c]? = k)) (List.range sp.length)
  rw [List.length_range] at this
  exact this
end K01

set_option maxRecDepth 100000
set_option maxHeartbeats 4000000
namespace K01
open PySem BV
def txt (l : List Nat) : Str := ⟨l.toArray⟩
theorem txt_len {l : List Nat} : (txt l).length = l.length := by simp [txt, Str.length]
theorem txt_cps {l : List Nat} : (txt l).cps.toList = l := by simp [txt]
def sgW (c : Nat) : W := .str ⟨#[c]⟩
theorem txt_chars {l : List Nat} : chars (txt l) = l.map sgW := by
  unfold chars
  rw [txt_cps]
  rfl
def rowW (l : List Nat) : W := .str (txt l)
def rowsW (Rw : List (List Nat)) : W := .tup (Rw.map rowW)
def pairW (p : Nat × Nat) : W := .tup [.int (p.1 : Int), .int (p.2 : Int)]
def SG (c : Nat) : Prop := c = 46 ∨ c = 35 ∨ c = 72 ∨ c = 83
structure RowsOk (Rw : List (List Nat)) (wd : Nat) : Prop where
  r1 : 1 ≤ Rw.length
  r2 : Rw.length ≤ 12
  w1 : 1 ≤ wd
  w2 : wd ≤ 12
  len : ∀ l ∈ Rw, l.length = wd
  sg : ∀ l ∈ Rw, ∀ c ∈ l, SG c
theorem cmp_str {x : Str} (h : PyData.strOk x = true) : Cmp (.str x) (.str x) := ⟨rfl, h, by simp [PyData.depth]⟩
theorem ok_sg {c : Nat} (h : SG c) : PyData.strOk ⟨#[c]⟩ = true := by
  rcases h with rfl | rfl | rfl | rfl <;> decide +kernel
theorem wEq_sg {c k : Nat} (hc : SG c) (hk : SG k) : wEq (sgW c) (sgW k) = some (decide (c = k)) := by
  unfold sgW
  rw [wEq_cmp (cmp_str (ok_sg hc)) (cmp_str (ok_sg hk))]
  congr 1
  unfold PyData.eqv
  rcases hc with rfl | rfl | rfl | rfl <;> rcases hk with rfl | rfl | rfl | rfl <;> decide +kernel
theorem gEq_sg {c k : Nat} (hc : SG c) (hk : SG k) : gEq (sgW c) (sgW k) = some (.v (.bl (decide (c = k)))) := by
  unfold gEq
  rw [wEq_sg hc hk]
  rfl
theorem gNe_sg {c k : Nat} (hc : SG c) (hk : SG k) : gNe (sgW c) (sgW k) = some (.v (.bl (!decide (c = k)))) := by
  unfold gNe
  rw [wEq_sg hc hk]
  rfl
theorem lit_H : W.str "H" = sgW 72 := rfl
theorem lit_S : W.str "S" = sgW 83 := rfl
theorem lit_W : W.str "#" = sgW 35 := rfl
theorem lit_F : W.str "." = sgW 46 := rfl
theorem ix_row {l : List Nat} {j : Nat} {c : Nat} (hl : l.length ≤ 16777216) (h : l[j]? = some c) : gIx (rowW l) (.int (j : Int)) = some (.v (sgW c)) := by
  show (if (txt l).length ≤ 16777216 then (L2.atI (txt l).cps.toList (j : Int)).map fun c => OV.v (.str ⟨#[c]⟩) else none) = _
  rw [txt_len, if_pos hl, txt_cps]
  have := (List.getElem?_eq_some_iff.1 h).1
  rw [atI_get ⟨by omega, by omega⟩, Int.toNat_natCast, h]
  rfl
theorem len_row {l : List Nat} (hl : l.length ≤ 16777216) : gLen [rowW l] = some (.v (.int (l.length : Int))) := by
  show (if (txt l).length ≤ 16777216 then some (OV.v (.int ((txt l).length : Int))) else none) = _
  rw [txt_len, if_pos hl]
theorem mem_enW {ws : List W} {k : Nat} {w : W} (h : w ∈ enW k ws) : ∃ i u, ws[i]? = some u ∧ w = .tup [.int ((k + i : Nat) : Int), u] := by
  obtain ⟨i, e⟩ := List.getElem?_of_mem h
  have hi := (List.getElem?_eq_some_iff.1 e).1
  rw [enW_len] at hi
  have g : ws[i]? = some ws[i] := List.getElem?_eq_getElem hi
  rw [enW_get g] at e
  exact ⟨i, _, g, (Option.some.inj e).symm⟩
theorem rows_at {Rw : List (List Nat)} {i : Nat} {l : List Nat} (h : Rw[i]? = some l) : L2.atI (Rw.map rowW) (i : Int) = some (rowW l) := by
  have := (List.getElem?_eq_some_iff.1 h).1
  rw [atI_get ⟨by omega, by rw [List.length_map]; omega⟩, Int.toNat_natCast, List.getElem?_map, h]
  rfl
theorem pairs_at {sp : List (Nat × Nat)} {i : Nat} {p : Nat × Nat} (h : sp[i]? = some p) : L2.atI (sp.map pairW) (i : Int) = some (pairW p) := by
  have := (List.getElem?_eq_some_iff.1 h).1
  rw [atI_get ⟨by omega, by rw [List.length_map]; omega⟩, Int.toNat_natCast, List.getElem?_map, h]
  rfl
/-! the spots -/
def spK (i : Nat) : W → Option W
  | .tup [.int j, .str x] => if x.cps.toList = [35] then none else some (.tup [.int (i : Int), .int j])
  | _ => none
theorem spK_e {i : Nat} {j : Int} {c : Nat} : spK i (.tup [.int j, sgW c]) = if c = 35 then none else some (.tup [.int (i : Int), .int j]) := by
  show (if [c] = [35] then none else some (W.tup [.int (i : Int), .int j])) = _
  by_cases h : c = 35 <;> simp [h]
theorem spK_all {i : Nat} : ∀ {l : List Nat} {j : Nat}, (enW j (l.map sgW)).filterMap (spK i) = (rowSp i j l).map pairW
  | [], _ => rfl
  | c :: cs, j => by
    show (W.tup [.int (j : Int), sgW c] :: enW (j + 1) (cs.map sgW)).filterMap (spK i) = _
    unfold rowSp
    by_cases h : c = 35
    · rw [List.filterMap_cons_none (by rw [spK_e, if_pos h]), if_pos h, spK_all]
    · rw [List.filterMap_cons_some (by rw [spK_e, if_neg h]), if_neg h, spK_all]
      rfl
theorem sg35 : SG 35 := .inr (.inl rfl)
theorem sg72 : SG 72 := .inr (.inr (.inl rfl))
theorem sg83 : SG 83 := .inr (.inr (.inr rfl))
section
variable {Rw : List (List Nat)} {wd : Nat}
theorem spots_len (h : RowsOk Rw wd) {ls : List (List Nat)} (hs : ∀ l ∈ ls, l ∈ Rw) (hl : ls.length ≤ 12) : (allSp 0 ls).length ≤ 144 := by
  have := allSp_len (wd := wd) (ls := ls) (i := 0) fun l m => h.len l (hs l m)
  have w2 := h.w2
  have : ls.length * wd ≤ 12 * 12 := Nat.mul_le_mul hl w2
  omega
theorem take_next {i : Nat} {l : List Nat} (h : Rw[i]? = some l) : allSp 0 (Rw.take (i + 1)) = allSp 0 (Rw.take i) ++ rowSp i 0 l := by
  have hi := (List.getElem?_eq_some_iff.1 h).1
  rw [List.take_add_one, h, allSp_app, Option.toList_some, List.length_take, Nat.min_eq_left (by omega), Nat.zero_add]
  simp [allSp]
noncomputable def spB : SF := (sExt 1 (fE (fLc (fEn (fE (fV 3))) (.tp (.cons (.nm 4) (.cons (.nm 5) .nil))) (fTest (fOp gNe (fV 5) (fC (.str "#")))) (fTup (fCons (fE (fV 2)) (fCons (fE (fV 4)) fNil))) [4, 5])))
theorem spB_ok (h : RowsOk Rw wd) {i : Nat} {l : List Nat} {acc : List W} {s2 s3 : Sl} (hl : l ∈ Rw) (ha : acc.length ≤ 1000) :
    turn (.tp (.cons (.nm 2) (.cons (.nm 3) .nil))) spB (.tup [.int (i : Int), rowW l]) [.dat (rowsW Rw), .own (.lst acc), s2, s3, .no, .no] = .nx [.dat (rowsW Rw), .own (.lst (acc ++ (rowSp i 0 l).map pairW)), .dat (.int (i : Int)), .dat (rowW l), .no, .no] := by
  have ll := h.len l hl
  have w2 := h.w2
  have rl := rowSp_len (i := i) (l := l) (j := 0)
  obtain ⟨E, hE⟩ : ∃ E : Ev, E = [.dat (rowsW Rw), .own (.lst acc), .dat (.int (i : Int)), .dat (rowW l), .no, .no] := ⟨_, rfl⟩
  obtain ⟨e, hc, he⟩ := compL_pure (t := .tp (.cons (.nm 4) (.cons (.nm 5) .nil))) (c := fTest (fOp gNe (fV 5) (fC (.str "#")))) (el := fTup (fCons (fE (fV 2)) (fCons (fE (fV 4)) fNil))) (vs := [4, 5])
    (P := fun env => env = E) (k := spK i) (ws := enW 0 (l.map sgW)) (acc := []) (env := E) rfl (fun w m env p => by
      subst p
      obtain ⟨j, u, g, rfl⟩ := mem_enW m
      rw [List.getElem?_map] at g
      obtain ⟨c, hc, rfl⟩ : ∃ c, l[j]? = some c ∧ sgW c = u := by
        cases q : l[j]? with
        | none => rw [q] at g; cases g
        | some c => rw [q] at g; exact ⟨c, rfl, Option.some.inj g⟩
      have sc := h.sg l hl c (List.mem_of_getElem? hc)
      have gn := gNe_sg sc sg35
      refine ⟨_, ?_, rfl⟩
      rw [hE, spK_e]
      by_cases z : c = 35
      · rw [decide_eq_true z] at gn
        rw [if_pos z]
        simp [compL1, wipeE, restE, lit_W, gn]
      · simp [compL1, wipeE, restE, lit_W, gn, z]) (by rw [enW_len, List.length_map]; simp; omega)
  rw [he, hE, List.nil_append, spK_all] at hc
  have ae : asEn (rowW l) = some (l.map sgW) := by rw [← txt_chars]; rfl
  unfold turn spB
  simp [ae, hc]
  omega
theorem all_spots_ok (h : RowsOk Rw wd) : d_all_spots [rowsW Rw] = .ok (.tup ((allSp 0 Rw).map pairW)) [] := by
  unfold d_all_spots b_all_spots
  rw [fdef_e]
  obtain ⟨e, h1, s2, s3, rfl⟩ := forL_idx (t := .tp (.cons (.nm 2) (.cons (.nm 3) .nil))) (f := spB) (ws := enW 0 (Rw.map rowW))
    (P := fun i env => ∃ s2 s3, env = [.dat (rowsW Rw), .own (.lst ((allSp 0 (Rw.take i)).map pairW)), s2, s3, .no, .no]) (env := [.dat (rowsW Rw), .own (.lst []), .no, .no, .no, .no]) ⟨_, _, rfl⟩ (fun i hi env p => by
      obtain ⟨s2, s3, rfl⟩ := p
      rw [enW_len, List.length_map] at hi
      have g : Rw[i]? = some Rw[i] := List.getElem?_eq_getElem hi
      have g2 : (Rw.map rowW)[i]? = some (rowW Rw[i]) := by rw [List.getElem?_map, g]; rfl
      have ew := enW_get (k := 0) g2
      rw [List.getElem?_eq_getElem (by rw [enW_len, List.length_map]; exact hi), Nat.zero_add] at ew
      rw [Option.some.inj ew]
      have sl := spots_len h (ls := Rw.take i) (fun l m => List.mem_of_mem_take m) (by rw [List.length_take]; have := h.r2; omega)
      rw [spB_ok h (List.getElem_mem hi) (by rw [List.length_map]; omega), Nx_nx, take_next g, List.map_append]
      exact ⟨_, _, rfl⟩)
  rw [enW_len, List.length_map, List.take_length] at h1
  have h1 : forL (.tp (.cons (.nm 2) (.cons (.nm 3) .nil))) (sExt 1 (fE (fLc (fEn (fE (fV 3))) (.tp (.cons (.nm 4) (.cons (.nm 5) .nil))) (fTest (fOp gNe (fV 5) (fC (.str "#")))) (fTup (fCons (fE (fV 2)) (fCons (fE (fV 4)) fNil))) [4, 5]))) _ _ = _ := h1
  unfold rowsW at *
  simp [h1]
/-! the cells of the law -/
def rnK (i : Nat) (l : List Nat) : W → Option W
  | .int j => if l[j.toNat]? = some 35 then none else some (.tup [.int (i : Int), .int j])
  | _ => none
theorem rnK_all {i : Nat} {l : List Nat} : ∀ {m : List Nat} {j : Nat}, l.drop j = m → (rangeW (j : Int) ((j + m.length : Nat) : Int)).filterMap (rnK i l) = (rowSp i j m).map pairW
  | [], j, _ => by
    unfold rangeW
    simp [rowSp]
  | c :: cs, j, hd => by
    have hj : j < l.length := by
      refine Classical.byContradiction fun z => ?_
      rw [List.drop_of_length_le (by omega)] at hd
      cases hd
    rw [List.drop_eq_getElem_cons hj] at hd
    injection hd with hd1 hd2
    rw [rangeW_cons (by rw [List.length_cons]; omega)]
    have ih := rnK_all (i := i) hd2
    rw [show (((j + 1 + cs.length : Nat)) : Int) = ((j + (c :: cs).length : Nat) : Int) by rw [List.length_cons]; omega, show ((j + 1 : Nat) : Int) = (j : Int) + 1 by omega] at ih
    have k0 : rnK i l (.int (j : Int)) = if c = 35 then none else some (pairW (i, j)) := by
      show (if l[(j : Int).toNat]? = some 35 then none else some (W.tup [.int (i : Int), .int (j : Int)])) = _
      rw [Int.toNat_natCast, List.getElem?_eq_getElem hj, hd1]
      by_cases z : c = 35
      · rw [if_pos z, if_pos (by rw [z])]
      · rw [if_neg z, if_neg (fun q => z (Option.some.inj q))]
        rfl
    unfold rowSp
    by_cases z : c = 35
    · rw [if_pos z] at k0
      rw [List.filterMap_cons_none k0, if_pos z, ih]
    · rw [if_neg z] at k0
      rw [List.filterMap_cons_some k0, if_neg z, ih]
      rfl
noncomputable def ceB : SF := (sSet 1 (fOp gAdd (fV 1) (fLc (fRng1 (fB gLen (fCons (fOp gIx (fV 0) (fC (.int 0))) fNil))) (.nm 3) (fTest (fOp gNe (fOp gIx (fOp gIx (fV 0) (fV 2)) (fV 3)) (fC (.str "#")))) (fTup (fCons (fE (fV 2)) (fCons (fE (fV 3)) fNil))) [3])))
theorem ceB_ok (h : RowsOk Rw wd) {i : Nat} {l : List Nat} {acc : List W} {s2 : Sl} (hl : Rw[i]? = some l) (ha : acc.length ≤ 1000) :
    turn (.nm 2) ceB (.int (i : Int)) [.dat (rowsW Rw), .dat (.lst acc), s2, .no] = .nx [.dat (rowsW Rw), .dat (.lst (acc ++ (rowSp i 0 l).map pairW)), .dat (.int (i : Int)), .no] := by
  have hm := List.mem_of_getElem? hl
  have ll := h.len l hm
  have w2 := h.w2
  have r1 := h.r1
  have rl := rowSp_len (i := i) (l := l) (j := 0)
  have ra := rows_at hl
  have l0 : Rw[0]? = some Rw[0] := List.getElem?_eq_getElem (by omega)
  have r0 := rows_at l0
  have ll0 := h.len _ (List.mem_of_getElem? l0)
  have r0 : L2.atI (Rw.map rowW) 0 = some (rowW Rw[0]) := r0
  have lr := len_row (l := Rw[0]) (by omega)
  rw [ll0] at lr
  have sm : smallI (wd : Int) = true := by unfold smallI; simp; omega
  obtain ⟨E, hE⟩ : ∃ E : Ev, E = [.dat (rowsW Rw), .dat (.lst acc), .dat (.int (i : Int)), .no] := ⟨_, rfl⟩
  obtain ⟨e, hc, he⟩ := compL_pure (t := .nm 3) (c := fTest (fOp gNe (fOp gIx (fOp gIx (fV 0) (fV 2)) (fV 3)) (fC (.str "#")))) (el := fTup (fCons (fE (fV 2)) (fCons (fE (fV 3)) fNil))) (vs := [3])
    (P := fun env => env = E) (k := rnK i l) (ws := rangeW 0 (wd : Int)) (acc := []) (env := E) rfl (fun w m env p => by
      subst p
      obtain ⟨j, rfl, j0, j1⟩ := mem_rangeW m
      obtain ⟨j, rfl⟩ : ∃ m : Nat, j = m := ⟨j.toNat, by omega⟩
      have hj : l[j]? = some l[j] := List.getElem?_eq_getElem (by omega)
      have sc := h.sg l hm _ (List.mem_of_getElem? hj)
      have gx := ix_row (by omega) hj
      have gn := gNe_sg sc sg35
      refine ⟨_, ?_, rfl⟩
      have k0 : rnK i l (.int (j : Int)) = if l[j] = 35 then none else some (.tup [.int (i : Int), .int (j : Int)]) := by
        show (if l[(j : Int).toNat]? = some 35 then none else some (W.tup [.int (i : Int), .int (j : Int)])) = _
        rw [Int.toNat_natCast, hj]
        by_cases z : l[j] = 35
        · rw [if_pos z, if_pos (by rw [z])]
        · rw [if_neg z, if_neg (fun q => z (Option.some.inj q))]
      rw [hE, k0]
      unfold rowsW
      by_cases z : l[j] = 35
      · rw [decide_eq_true z] at gn
        rw [if_pos z]
        simp [compL1, wipeE, restE, ra, gx, lit_W, gn]
      · simp [compL1, wipeE, restE, ra, gx, lit_W, gn, z]) (by simp [rangeW]; omega)
  have ka := rnK_all (i := i) (l := l) (m := l) (j := 0) rfl
  rw [Nat.zero_add, ll] at ka
  have ka : (rangeW 0 (wd : Int)).filterMap (rnK i l) = _ := ka
  rw [he, hE, List.nil_append, ka] at hc
  have ga : gAdd (.lst acc) (.lst ((rowSp i 0 l).map pairW)) = some (.n (.lst (acc ++ (rowSp i 0 l).map pairW))) := gAdd_l (by rw [List.length_map]; omega)
  unfold turn ceB rowsW at *
  simp [r0, lr, sm, hc, ga]
theorem cells_ok (h : RowsOk Rw wd) : d__law_cells [rowsW Rw] = .ok (.lst ((allSp 0 Rw).map pairW)) [] := by
  unfold d__law_cells b__law_cells
  rw [fdef_e]
  have r2 := h.r2
  have sm : smallI (Rw.length : Int) = true := by unfold smallI; simp; omega
  obtain ⟨e, h1, s2, rfl⟩ := forL_rng (t := .nm 2) (f := ceB) (lo := 0) (hi := (Rw.length : Int))
    (P := fun i env => ∃ s2, env = [.dat (rowsW Rw), .dat (.lst ((allSp 0 (Rw.take i)).map pairW)), s2, .no]) (env := [.dat (rowsW Rw), .dat (.lst []), .no, .no]) ⟨_, rfl⟩ (fun i hi env p => by
      obtain ⟨s2, rfl⟩ := p
      have g : Rw[i]? = some Rw[i] := List.getElem?_eq_getElem (by omega)
      have sl := spots_len h (ls := Rw.take i) (fun l m => List.mem_of_mem_take m) (by rw [List.length_take]; omega)
      rw [Int.zero_add, ceB_ok h g (by rw [List.length_map]; omega), Nx_nx, take_next g, List.map_append]
      exact ⟨_, rfl⟩)
  rw [show ((Rw.length : Int) - 0).toNat = Rw.length by omega, List.take_length] at h1
  have h1 : forL (.nm 2) (sSet 1 (fOp gAdd (fV 1) (fLc (fRng1 (fB gLen (fCons (fOp gIx (fV 0) (fC (.int 0))) fNil))) (.nm 3) (fTest (fOp gNe (fOp gIx (fOp gIx (fV 0) (fV 2)) (fV 3)) (fC (.str "#")))) (fTup (fCons (fE (fV 2)) (fCons (fE (fV 3)) fNil))) [3]))) _ _ = _ := h1
  unfold rowsW at *
  simp [sm, h1]
end
end K01

set_option maxRecDepth 100000
set_option maxHeartbeats 4000000
namespace K01
open PySem BV
/-! the neighbours of the law -/
theorem abs_w {i : Int} : gAbs [.int i] = some (.v (.int (i.natAbs : Int))) := by
  show some (OV.v (.int (if i < 0 then -i else i))) = _
  congr 3
  split <;> omega
section
variable {sp : List (Nat × Nat)}
noncomputable def nrB : SF := (sIf (fTest (fOp gEq (fOp gAdd (fB gAbs (fCons (fOp gSub (fOp gIx (fOp gIx (fV 0) (fV 5)) (fC (.int 0))) (fV 2)) fNil)) (fB gAbs (fCons (fOp gSub (fOp gIx (fOp gIx (fV 0) (fV 5)) (fC (.int 1))) (fV 3)) fNil))) (fC (.int 1)))) (sApp 4 (fE (fV 5))) sNext)
theorem fil_next {P : Nat → Bool} {i : Nat} : (List.range (i + 1)).filter P = (List.range i).filter P ++ (if P i = true then [i] else []) := by
  rw [List.range_succ, List.filter_append, List.filter_cons, List.filter_nil]
theorem nrB_ok {i c : Nat} {p q : Nat × Nat} {acc : List W} {s5 : Sl} (hq : sp[i]? = some q) (ha : acc.length ≤ 1000) :
    turn (.nm 5) nrB (.int (i : Int)) [.dat (.lst (sp.map pairW)), .dat (.int (c : Int)), .dat (.int (p.1 : Int)), .dat (.int (p.2 : Int)), .own (.lst acc), s5] = .nx [.dat (.lst (sp.map pairW)), .dat (.int (c : Int)), .dat (.int (p.1 : Int)), .dat (.int (p.2 : Int)), .own (.lst (if adjP p q = true then acc ++ [.int (i : Int)] else acc)), .dat (.int (i : Int))] := by
  have pa := pairs_at hq
  unfold turn nrB
  by_cases z : adjP p q = true
  · have z2 := of_decide_eq_true z
    simp [pa, pairW, abs_w, z2, z]
    omega
  · have z2 : ¬ ((((q.1 : Int) - p.1).natAbs : Int) + (((q.2 : Int) - p.2).natAbs : Int)) = 1 := fun y => z (decide_eq_true y)
    simp [pa, pairW, abs_w, z2, z]
theorem near_ok {c : Nat} (hn : sp.length ≤ 200) (hc : c < sp.length) : d__law_near [.lst (sp.map pairW), .int (c : Int)] = .ok (.lst (iW (nearL sp c))) [] := by
  unfold d__law_near b__law_near
  rw [fdef_e]
  have sm : smallI (sp.length : Int) = true := by unfold smallI; simp; omega
  obtain ⟨p, hp⟩ : ∃ p, sp[c]? = some p := ⟨_, List.getElem?_eq_getElem hc⟩
  have pa := pairs_at hp
  obtain ⟨e, h1, s5, rfl⟩ := forL_rng (t := .nm 5) (f := nrB) (lo := 0) (hi := (sp.length : Int))
    (P := fun i env => ∃ s5, env = [.dat (.lst (sp.map pairW)), .dat (.int (c : Int)), .dat (.int (p.1 : Int)), .dat (.int (p.2 : Int)), .own (.lst (iW ((List.range i).filter fun o => adjO p sp[o]?))), s5])
    (env := [.dat (.lst (sp.map pairW)), .dat (.int (c : Int)), .dat (.int (p.1 : Int)), .dat (.int (p.2 : Int)), .own (.lst []), .no]) ⟨_, rfl⟩ (fun i hi env h => by
      obtain ⟨s5, rfl⟩ := h
      obtain ⟨q, hq⟩ : ∃ q, sp[i]? = some q := ⟨_, List.getElem?_eq_getElem (by omega)⟩
      have fl := List.length_filter_le (fun o => adjO p sp[o]?) (List.range i)
      rw [List.length_range] at fl
      rw [Int.zero_add, nrB_ok hq (by rw [iW_len]; omega), Nx_nx, fil_next, hq]
      refine ⟨.dat (.int (i : Int)), ?_⟩
      show _ = [_, _, _, _, Sl.own (.lst (iW (_ ++ if adjP p q = true then [i] else []))), _]
      by_cases z : adjP p q = true
      · rw [if_pos z, if_pos z, iW_app]
        rfl
      · rw [if_neg z, if_neg z, List.append_nil])
  rw [show ((sp.length : Int) - 0).toNat = sp.length by omega] at h1
  have h1 : forL (.nm 5) (sIf (fTest (fOp gEq (fOp gAdd (fB gAbs (fCons (fOp gSub (fOp gIx (fOp gIx (fV 0) (fV 5)) (fC (.int 0))) (fV 2)) fNil)) (fB gAbs (fCons (fOp gSub (fOp gIx (fOp gIx (fV 0) (fV 5)) (fC (.int 1))) (fV 3)) fNil))) (fC (.int 1)))) (sApp 4 (fE (fV 5))) sNext) _ _ = _ := h1
  have nl : nearL sp c = (List.range sp.length).filter fun o => adjO p sp[o]? := by
    unfold nearL
    rw [hp]
  rw [nl]
  simp [pa, pairW] at h1 ⊢
  simp [sm, h1]
end
/-! the cells of a sign -/
section
variable {Rw : List (List Nat)} {wd : Nat}
theorem sp_row (h : RowsOk Rw wd) {c : Nat} {p : Nat × Nat} (hp : (allSp 0 Rw)[c]? = some p) : ∃ l, Rw[p.1]? = some l ∧ ∃ k, l[p.2]? = some k ∧ l ∈ Rw ∧ SG k ∧ l.length = wd ∧ sgnO Rw (some p) = k := by
  obtain ⟨_, l, h1, h2⟩ := allSp_mem (List.mem_of_getElem? hp)
  rw [Nat.sub_zero] at h1
  have hk : l[p.2]? = some l[p.2] := List.getElem?_eq_getElem h2
  have ml := List.mem_of_getElem? h1
  refine ⟨l, h1, _, hk, ml, h.sg l ml _ (List.mem_of_getElem? hk), h.len l ml, ?_⟩
  show (((Rw[p.1]?).getD [])[p.2]?).getD 0 = _
  rw [h1]
  show (l[p.2]?).getD 0 = _
  rw [hk]
  rfl
theorem of_sign_ok (h : RowsOk Rw wd) {k : Nat} (sk : SG k) : d__law_of_sign [rowsW Rw, .lst ((allSp 0 Rw).map pairW), sgW k] = .ok (.lst (iW (offs Rw (allSp 0 Rw) k))) [] := by
  unfold d__law_of_sign b__law_of_sign
  rw [fdef_e]
  have r2 := h.r2
  have w2 := h.w2
  have sl := spots_len h (ls := Rw) (fun l m => m) r2
  obtain ⟨sp, hsp⟩ : ∃ sp, allSp 0 Rw = sp := ⟨_, rfl⟩
  have row := fun {c} {p} => sp_row h (c := c) (p := p)
  rw [hsp] at sl row ⊢
  have sm : smallI (sp.length : Int) = true := by unfold smallI; simp; omega
  obtain ⟨E, hE⟩ : ∃ E : Ev, E = [.dat (rowsW Rw), .dat (.lst (sp.map pairW)), .dat (sgW k), .no] := ⟨_, rfl⟩
  obtain ⟨e, hc, he⟩ := compL_pure (t := .nm 3) (c := fTest (fOp gEq (fOp gIx (fOp gIx (fV 0) (fOp gIx (fOp gIx (fV 1) (fV 3)) (fC (.int 0)))) (fOp gIx (fOp gIx (fV 1) (fV 3)) (fC (.int 1)))) (fV 2))) (el := fV 3) (vs := [3])
    (P := fun env => env = E) (k := fun w => match w with | .int c => if sgnO Rw sp[c.toNat]? = k then some (.int c) else none | _ => none) (ws := rangeW 0 (sp.length : Int)) (acc := []) (env := E) rfl (fun w m env p => by
      subst p
      obtain ⟨c, rfl, j0, j1⟩ := mem_rangeW m
      obtain ⟨c, rfl⟩ : ∃ m : Nat, c = m := ⟨c.toNat, by omega⟩
      obtain ⟨p, hp⟩ : ∃ p, sp[c]? = some p := ⟨_, List.getElem?_eq_getElem (by omega)⟩
      obtain ⟨l, hl, x, hx, ml, sx, ll, sv⟩ := row hp
      have pa := pairs_at hp
      have ra := rows_at hl
      have gx := ix_row (by omega) hx
      have ge := gEq_sg sx sk
      refine ⟨_, ?_, rfl⟩
      show _ = some (if sgnO Rw sp[(c : Int).toNat]? = k then some (W.int (c : Int)) else none, _)
      rw [hE, Int.toNat_natCast, hp, sv]
      unfold rowsW
      by_cases z : x = k
      · rw [decide_eq_true z] at ge
        rw [if_pos z]
        simp [compL1, wipeE, restE, pa, pairW, ra, gx, ge]
      · rw [decide_eq_false z] at ge
        rw [if_neg z]
        simp [compL1, wipeE, restE, pa, pairW, ra, gx, ge]) (by simp [rangeW]; omega)
  rw [fm_iW (p := fun c => decide (sgnO Rw sp[c]? = k)) (fun i hi => by
    show (if sgnO Rw sp[(i : Int).toNat]? = k then some (W.int (i : Int)) else none) = _
    rw [Int.toNat_natCast]
    simp)] at hc
  rw [he, hE, List.nil_append] at hc
  unfold rowsW at *
  simp [sm, hc]
  rfl
theorem sofK_all {k : W → Option W} {P : Nat → Bool} {sp : List (Nat × Nat)} : ∀ {us : List (Nat × Nat)} {j : Nat}, (∀ i p, us[i]? = some p → k (.tup [.int ((j + i : Nat) : Int), pairW p]) = if P (j + i) = true then some (.int ((j + i : Nat) : Int)) else none) →
    (enW j (us.map pairW)).filterMap k = iW (((List.range us.length).map (j + ·)).filter P)
  | [], j, _ => rfl
  | u :: us, j, H => by
    show (W.tup [.int (j : Int), pairW u] :: enW (j + 1) (us.map pairW)).filterMap k = _
    have h0 := H 0 u rfl
    rw [Nat.add_zero] at h0
    have ih := sofK_all (sp := sp) (k := k) (P := P) (us := us) (j := j + 1) (fun i p hp => by
      have := H (i + 1) p hp
      rw [show j + 1 + i = j + (i + 1) by omega]
      exact this)
    have rg : (List.range (u :: us).length).map (j + ·) = j :: (List.range us.length).map (j + 1 + ·) := by
      rw [List.length_cons, List.range_succ_eq_map, List.map_cons, List.map_map, Nat.add_zero]
      congr 1
      apply List.map_congr_left
      intro a _
      show j + (a + 1) = j + 1 + a
      omega
    rw [rg]
    by_cases z : P j = true
    · rw [if_pos z] at h0
      rw [List.filterMap_cons_some h0, List.filter_cons_of_pos z, ih]
      rfl
    · rw [if_neg z] at h0
      rw [List.filterMap_cons_none h0, List.filter_cons_of_neg z, ih]
theorem spots_of_ok (h : RowsOk Rw wd) {k : Nat} (sk : SG k) : d_spots_of [rowsW Rw, .tup ((allSp 0 Rw).map pairW), sgW k] = .ok (.tup (iW (offs Rw (allSp 0 Rw) k))) [] := by
  unfold d_spots_of b_spots_of
  rw [fdef_e]
  have r2 := h.r2
  have w2 := h.w2
  have sl := spots_len h (ls := Rw) (fun l m => m) r2
  obtain ⟨sp, hsp⟩ : ∃ sp, allSp 0 Rw = sp := ⟨_, rfl⟩
  have row := fun {c} {p} => sp_row h (c := c) (p := p)
  rw [hsp] at sl row ⊢
  obtain ⟨E, hE⟩ : ∃ E : Ev, E = [.dat (rowsW Rw), .dat (.tup (sp.map pairW)), .dat (sgW k), .no, .no, .no] := ⟨_, rfl⟩
  obtain ⟨e, hc, he⟩ := compL_pure (t := .tp (.cons (.nm 3) (.cons (.tp (.cons (.nm 4) (.cons (.nm 5) .nil))) .nil))) (c := fTest (fOp gEq (fOp gIx (fOp gIx (fV 0) (fV 4)) (fV 5)) (fV 2))) (el := fV 3) (vs := [3, 4, 5])
    (P := fun env => env = E) (k := fun w => match w with | .tup [.int c, _] => if sgnO Rw sp[c.toNat]? = k then some (.int c) else none | _ => none) (ws := enW 0 (sp.map pairW)) (acc := []) (env := E) rfl (fun w m env p => by
      subst p
      obtain ⟨c, u, g, rfl⟩ := mem_enW m
      rw [List.getElem?_map] at g
      obtain ⟨p, hp, rfl⟩ : ∃ p, sp[c]? = some p ∧ pairW p = u := by
        cases q : sp[c]? with
        | none => rw [q] at g; cases g
        | some p => rw [q] at g; exact ⟨p, rfl, Option.some.inj g⟩
      obtain ⟨l, hl, x, hx, ml, sx, ll, sv⟩ := row hp
      have ra := rows_at hl
      have gx := ix_row (by omega) hx
      have ge := gEq_sg sx sk
      refine ⟨_, ?_, rfl⟩
      show _ = some (if sgnO Rw sp[((0 + c : Nat) : Int).toNat]? = k then some (W.int ((0 + c : Nat) : Int)) else none, _)
      rw [hE, Int.toNat_natCast, Nat.zero_add, hp, sv]
      unfold rowsW
      by_cases z : x = k
      · rw [decide_eq_true z] at ge
        rw [if_pos z]
        simp [compL1, wipeE, restE, pairW, ra, gx, ge]
      · rw [decide_eq_false z] at ge
        rw [if_neg z]
        simp [compL1, wipeE, restE, pairW, ra, gx, ge]) (by rw [enW_len, List.length_map]; simp; omega)
  rw [sofK_all (sp := sp) (P := fun c => decide (sgnO Rw sp[c]? = k)) (fun i p hp => by
    show (if sgnO Rw sp[((0 + i : Nat) : Int).toNat]? = k then some (W.int ((0 + i : Nat) : Int)) else none) = _
    rw [Int.toNat_natCast]
    simp)] at hc
  have mz : (List.range sp.length).map (0 + ·) = List.range sp.length := by simp
  rw [he, hE, List.nil_append, mz] at hc
  unfold rowsW at *
  simp [hc, gTuple]
  rfl
theorem plan_ok (h : RowsOk Rw wd) : d__law_plan_of [rowsW Rw] = .ok (.tup [.lst ((allSp 0 Rw).map pairW), nearW (nbs (allSp 0 Rw)), .lst (iW (offs Rw (allSp 0 Rw) 72)), .lst (iW (offs Rw (allSp 0 Rw) 83))]) [] := by
  unfold d__law_plan_of b__law_plan_of
  rw [fdef_e]
  have r2 := h.r2
  have sl := spots_len h (ls := Rw) (fun l m => m) r2
  have ce := cells_ok h
  have o1 := of_sign_ok h sg72
  have o2 := of_sign_ok h sg83
  obtain ⟨sp, hsp⟩ : ∃ sp, allSp 0 Rw = sp := ⟨_, rfl⟩
  rw [hsp] at sl ce o1 o2 ⊢
  have sm : smallI (sp.length : Int) = true := by unfold smallI; simp; omega
  obtain ⟨E, hE⟩ : ∃ E : Ev, E = [.dat (rowsW Rw), .dat (.lst (sp.map pairW)), .no, .no] := ⟨_, rfl⟩
  obtain ⟨e, hc, he⟩ := compL_pure (t := .nm 3) (c := fYes) (el := fCall [false, false] d__law_near (fCons (fE (fV 1)) (fCons (fE (fV 3)) fNil))) (vs := [3])
    (P := fun env => env = E) (k := fun w => match w with | .int c => some (.lst (iW (nearL sp c.toNat))) | _ => none) (ws := rangeW 0 (sp.length : Int)) (acc := []) (env := E) rfl (fun w m env p => by
      subst p
      obtain ⟨c, rfl, j0, j1⟩ := mem_rangeW m
      obtain ⟨c, rfl⟩ : ∃ m : Nat, c = m := ⟨c.toNat, by omega⟩
      have nk := near_ok (sp := sp) (c := c) (by omega) (by omega)
      refine ⟨_, ?_, rfl⟩
      rw [hE]
      simp [compL1, wipeE, restE, nk]) (by simp [rangeW]; omega)
  have fm : (rangeW 0 (sp.length : Int)).filterMap (fun w => match w with | .int c => some (W.lst (iW (nearL sp c.toNat))) | _ => none) = (nbs sp).map fun l => W.lst (iW l) := by
    unfold rangeW nbs
    rw [List.filterMap_map, List.map_map, show ((sp.length : Int) - 0).toNat = sp.length by omega, ← List.filterMap_eq_map]
    refine congrArg (fun f => List.filterMap f (List.range sp.length)) (funext fun a => ?_)
    simp only [Function.comp, Int.zero_add, Int.toNat_natCast]
  rw [fm, he, hE, List.nil_append] at hc
  simp [ce, sm, hc, lit_H, lit_S, o1, o2, nearW]
end
end K01

set_option maxRecDepth 100000
set_option maxHeartbeats 4000000
namespace K01
open PySem BV
/-! the ties -/
def dictL : Nat → List (Nat × Nat) → List (W × W)
  | _, [] => []
  | i, p :: ps => (pairW p, .int (i : Int)) :: dictL (i + 1) ps
def keyP (q : Int × Int) : List L2.Key := [.inl q.1, .inl q.2]
theorem keyT_pair {p : Nat × Nat} : keyT (pairW p) = some (keyP ((p.1 : Int), (p.2 : Int))) := rfl
theorem keyT_two {a b : Int} : keyT (.tup [.int a, .int b]) = some (keyP (a, b)) := rfl
theorem key_eq {p : Nat × Nat} {q : Int × Int} : keyT (pairW p) = some (keyP q) ↔ (p.1 : Int) = q.1 ∧ (p.2 : Int) = q.2 := by
  rw [keyT_pair]
  unfold keyP
  simp
theorem look_dict {q : Int × Int} : ∀ {ps : List (Nat × Nat)} {i : Nat}, lookT (dictL i ps) (keyP q) = (idxF q i ps).map fun (n : Nat) => W.int (n : Int)
  | [], _ => rfl
  | p :: ps, i => by
    have ih := look_dict (q := q) (ps := ps) (i := i + 1)
    unfold lookT at ih ⊢
    unfold dictL idxF
    rw [List.find?_cons]
    by_cases c : (p.1 : Int) = q.1 ∧ (p.2 : Int) = q.2
    · rw [if_pos c, decide_eq_true (key_eq.2 c)]
      rfl
    · rw [if_neg c, decide_eq_false (fun z => c (key_eq.1 z))]
      exact ih
theorem dict_app : ∀ {A B : List (Nat × Nat)} {i : Nat}, dictL i (A ++ B) = dictL i A ++ dictL (i + A.length) B
  | [], B, i => by simp [dictL]
  | a :: A, B, i => by
    show (pairW a, W.int (i : Int)) :: dictL (i + 1) (A ++ B) = (pairW a, W.int (i : Int)) :: (dictL (i + 1) A ++ dictL (i + (A.length + 1)) B)
    rw [dict_app, show i + 1 + A.length = i + (A.length + 1) by omega]
theorem dict_len : ∀ {A : List (Nat × Nat)} {i : Nat}, (dictL i A).length = A.length
  | [], _ => rfl
  | a :: A, i => congrArg (· + 1) dict_len
theorem dict_any {u : Nat × Nat} : ∀ {A : List (Nat × Nat)} {i : Nat}, u ∉ A → ((dictL i A).any fun p => decide (keyT p.1 = some (keyP ((u.1 : Int), (u.2 : Int))))) = false
  | [], _, _ => rfl
  | a :: A, i, h => by
    rw [List.mem_cons, not_or] at h
    show (decide (keyT (pairW a) = some (keyP ((u.1 : Int), (u.2 : Int)))) || (dictL (i + 1) A).any fun p => decide (keyT p.1 = some (keyP ((u.1 : Int), (u.2 : Int))))) = false
    rw [dict_any h.2, decide_eq_false (fun z => ?_), Bool.or_self]
    have := key_eq.1 z
    refine h.1 ?_
    rcases u with ⟨x, y⟩
    rcases a with ⟨x', y'⟩
    simp at this
    congr 1 <;> omega
theorem put_dict {A : List (Nat × Nat)} {u : Nat × Nat} (h : u ∉ A) : putT (dictL 0 A) (keyP ((u.1 : Int), (u.2 : Int))) (.int (A.length : Int)) = dictL 0 (A ++ [u]) := by
  unfold putT
  rw [dict_any h, if_neg (by simp), dict_app, Nat.zero_add]
  rfl
theorem comp_dict {spw : W} : ∀ {us A : List (Nat × Nat)}, (A ++ us).Nodup → (A ++ us).length ≤ 1000 →
    compDT (.tp (.cons (.nm 6) (.cons (.nm 7) .nil))) fYes (fV 7) (fV 6) [6, 7] (enW A.length (us.map pairW)) (dictL 0 A) [.dat spw, .no, .no, .no, .no, .no, .no, .no] = .ok (dictL 0 (A ++ us)) [.dat spw, .no, .no, .no, .no, .no, .no, .no]
  | [], A, _, _ => by
    rw [List.append_nil]
    rfl
  | u :: us, A, nd, hl => by
    have e : A ++ u :: us = (A ++ [u]) ++ us := by simp
    have ih := comp_dict (spw := spw) (us := us) (A := A ++ [u]) (e ▸ nd) (e ▸ hl)
    have nu : u ∉ A := fun m => by
      rw [List.nodup_append] at nd
      exact nd.2.2 u m u (List.mem_cons_self ..) rfl
    show compDT _ _ _ _ _ (W.tup [.int (A.length : Int), pairW u] :: enW (A.length + 1) (us.map pairW)) _ _ = _
    rw [compDT_cons]
    have al : A.length < 16777216 := by simp at hl; omega
    have l2 : (A ++ [u]).length = A.length + 1 := by simp
    rw [l2] at ih
    simp [wipeE, restE, keyT_pair, dict_len, al, put_dict nu]
    rw [e]
    exact ih
theorem isTd_dict {A : List (Nat × Nat)} (h : A ≠ []) : isTd (dictL 0 A) = true := by
  cases A with
  | nil => exact absurd rfl h
  | cons a A => rfl
theorem in_dict {A : List (Nat × Nat)} {a b : Int} (h : A ≠ []) : gIn (.tup [.int a, .int b]) (.dct (dictL 0 A)) = some (.v (.bl (idxF (a, b) 0 A).isSome)) := by
  have g0 : gInS (.tup [.int a, .int b]) (.dct (dictL 0 A)) = none := rfl
  have g1 : gInF (.tup [.int a, .int b]) (.dct (dictL 0 A)) = none := rfl
  have g2 : gInT (.tup [.int a, .int b]) (.dct (dictL 0 A)) = some (.v (.bl (idxF (a, b) 0 A).isSome)) := by
    show (if isTd (dictL 0 A) = true then (keyT (.tup [.int a, .int b])).map fun ks => OV.v (.bl (lookT (dictL 0 A) ks).isSome) else none) = _
    rw [if_pos (isTd_dict h), keyT_two]
    show some (OV.v (.bl (lookT (dictL 0 A) (keyP (a, b))).isSome)) = _
    rw [look_dict, Option.isSome_map]
  show orG gInT gInK (.tup [.int a, .int b]) (.dct (dictL 0 A)) = _
  unfold orG
  rw [g2]
theorem ixD_dict {A : List (Nat × Nat)} {a b : Int} {o : Nat} (h : A ≠ []) (e : idxF (a, b) 0 A = some o) : gIxD (.dct (dictL 0 A)) (.tup [.int a, .int b]) = some (.v (.int (o : Int))) := by
  have g2 : gIxT (.dct (dictL 0 A)) (.tup [.int a, .int b]) = some (.v (.int (o : Int))) := by
    show (if isTd (dictL 0 A) = true then (keyT (.tup [.int a, .int b])).bind fun ks => (lookT (dictL 0 A) ks).map OV.v else none) = _
    rw [if_pos (isTd_dict h), keyT_two]
    show (lookT (dictL 0 A) (keyP (a, b))).map OV.v = _
    rw [look_dict, e]
    rfl
  unfold gIxD orG
  rw [g2]
def tieK (sp : List (Nat × Nat)) : W → Option W
  | .tup [.int a, .int b] => (idxF (a, b) 0 sp).map fun (n : Nat) => W.int (n : Int)
  | _ => none
theorem tieK_e {sp : List (Nat × Nat)} {a b : Int} : tieK sp (.tup [.int a, .int b]) = (idxF (a, b) 0 sp).map fun (n : Nat) => W.int (n : Int) := rfl
def twoW (q : Int × Int) : W := .tup [.int q.1, .int q.2]
theorem tie_fm {sp : List (Nat × Nat)} : ∀ {qs : List (Int × Int)}, (qs.map twoW).filterMap (tieK sp) = iW (qs.filterMap fun q => idxF q 0 sp)
  | [] => rfl
  | q :: qs => by
    have ih := tie_fm (sp := sp) (qs := qs)
    show (twoW q :: qs.map twoW).filterMap (tieK sp) = _
    have e : tieK sp (twoW q) = (idxF q 0 sp).map fun (n : Nat) => W.int (n : Int) := rfl
    cases z : idxF q 0 sp with
    | none =>
      rw [z] at e
      rw [List.filterMap_cons_none e, List.filterMap_cons_none (f := fun q => idxF q 0 sp) z, ih]
    | some o =>
      rw [z] at e
      rw [List.filterMap_cons_some e, List.filterMap_cons_some (f := fun q => idxF q 0 sp) z, ih]
      rfl
theorem intsW_iW : ∀ {l : List Nat}, intsW (iW l) = some (l.map fun (i : Nat) => (i : Int))
  | [] => rfl
  | x :: l => by
    show (intsW (iW l)).map _ = _
    rw [intsW_iW]
    rfl
theorem iW_ints {l : List Nat} : iW l = (l.map fun (i : Nat) => (i : Int)).map W.int := by
  unfold iW
  rw [List.map_map]
  rfl
theorem sorted_ties {sp : List (Nat × Nat)} {c : Nat} {p : Nat × Nat} (nd : sp.Nodup) (hp : sp[c]? = some p) : gSorted [.lst (iW (tiesU sp p))] = some (.n (.lst (iW (nearL sp c)))) := by
  show ((intsW (iW (tiesU sp p))).bind fun ns => if ns.length < 64 then some (OV.n (.lst ((sortI ns).map W.int))) else none) = _
  rw [intsW_iW]
  have hl : (tiesU sp p).length ≤ 4 := List.length_filterMap_le ..
  show (if ((tiesU sp p).map fun (i : Nat) => (i : Int)).length < 64 then some (OV.n (.lst ((sortI ((tiesU sp p).map fun (i : Nat) => (i : Int))).map W.int))) else none) = _
  rw [if_pos (by rw [List.length_map]; omega), ties_sort nd hp, iW_ints]
section
variable {sp : List (Nat × Nat)}
noncomputable def tiB : SF := (sSeq (sSet 5 (fLst (fCons (fTup (fCons (fE (fOp gSub (fV 3) (fC (.int 1)))) (fCons (fE (fV 4)) fNil))) (fCons (fTup (fCons (fE (fOp gAdd (fV 3) (fC (.int 1)))) (fCons (fE (fV 4)) fNil))) (fCons (fTup (fCons (fE (fV 3)) (fCons (fE (fOp gSub (fV 4) (fC (.int 1)))) fNil))) (fCons (fTup (fCons (fE (fV 3)) (fCons (fE (fOp gAdd (fV 4) (fC (.int 1)))) fNil))) fNil))))))
  (sApp 2 (fE (fB gTuple (fCons (fB gSorted (fCons (fLc (fIt asL (fE (fV 5))) (.nm 7) (fTest (fOp gIn (fV 7) (fV 1))) (fOp gIxD (fV 1) (fV 7)) [7]) fNil)) fNil)))))
theorem tiB_ok (ne : sp ≠ []) (nd : sp.Nodup) {c : Nat} {p : Nat × Nat} {acc : List W} {s3 s4 s5 : Sl} (hp : sp[c]? = some p) (ha : acc.length ≤ 1000) :
    turn (.tp (.cons (.nm 3) (.cons (.nm 4) .nil))) tiB (pairW p) [.dat (.tup (sp.map pairW)), .own (.dct (dictL 0 sp)), .own (.lst acc), s3, s4, s5, .no, .no] = .nx [.dat (.tup (sp.map pairW)), .own (.dct (dictL 0 sp)), .own (.lst (acc ++ [.tup (iW (nearL sp c))])), .dat (.int (p.1 : Int)), .dat (.int (p.2 : Int)), .dat (.lst ((around p).map twoW)), .no, .no] := by
  obtain ⟨E, hE⟩ : ∃ E : Ev, E = [.dat (.tup (sp.map pairW)), .own (.dct (dictL 0 sp)), .own (.lst acc), .dat (.int (p.1 : Int)), .dat (.int (p.2 : Int)), .dat (.lst ((around p).map twoW)), .no, .no] := ⟨_, rfl⟩
  obtain ⟨e, hc, he⟩ := compL_pure (t := .nm 7) (c := fTest (fOp gIn (fV 7) (fV 1))) (el := fOp gIxD (fV 1) (fV 7)) (vs := [7])
    (P := fun env => env = E) (k := tieK sp) (ws := (around p).map twoW) (acc := []) (env := E) rfl (fun w m env h => by
      subst h
      obtain ⟨⟨a, b⟩, _, rfl⟩ := List.mem_map.1 m
      have gi := in_dict (a := a) (b := b) ne
      refine ⟨_, ?_, rfl⟩
      rw [hE]
      show compL1 _ _ _ _ (W.tup [.int a, .int b]) _ = some (tieK sp (.tup [.int a, .int b]), _)
      rw [tieK_e]
      cases z : idxF (a, b) 0 sp with
      | none =>
        rw [z] at gi
        simp [compL1, wipeE, restE, gi]
      | some o =>
        have gx := ixD_dict ne z
        rw [z] at gi
        simp [compL1, wipeE, restE, gi, gx]) (by simp [around])
  have ar : (around p).map twoW = [.tup [.int ((p.1 : Int) - 1), .int (p.2 : Int)], .tup [.int ((p.1 : Int) + 1), .int (p.2 : Int)], .tup [.int (p.1 : Int), .int ((p.2 : Int) - 1)], .tup [.int (p.1 : Int), .int ((p.2 : Int) + 1)]] := rfl
  have tf := tie_fm (sp := sp) (qs := around p)
  have tf : ((around p).map twoW).filterMap (tieK sp) = iW (tiesU sp p) := tf
  have so := sorted_ties nd hp
  rw [he, hE, List.nil_append, tf, ar] at hc
  rw [ar]
  unfold turn tiB
  simp [pairW, hc, so, gTuple]
  omega
theorem ties_ok (ne : sp ≠ []) (nd : sp.Nodup) (hl : sp.length ≤ 200) : d_all_ties [.tup (sp.map pairW)] = .ok (.tup ((nbs sp).map fun l => .tup (iW l))) [] := by
  unfold d_all_ties b_all_ties
  rw [fdef_e]
  have cd := comp_dict (spw := .tup (sp.map pairW)) (us := sp) (A := []) (by simpa using nd) (by simp; omega)
  rw [List.nil_append] at cd
  have cd : compDT (.tp (.cons (.nm 6) (.cons (.nm 7) .nil))) fYes (fV 7) (fV 6) [6, 7] (enW 0 (sp.map pairW)) [] [.dat (.tup (sp.map pairW)), .no, .no, .no, .no, .no, .no, .no] = _ := cd
  obtain ⟨e, h1, s3, s4, s5, rfl⟩ := forL_idx (t := .tp (.cons (.nm 3) (.cons (.nm 4) .nil))) (f := tiB) (ws := sp.map pairW)
    (P := fun i env => ∃ s3 s4 s5, env = [.dat (.tup (sp.map pairW)), .own (.dct (dictL 0 sp)), .own (.lst (((List.range i).map (nearL sp)).map fun l => .tup (iW l))), s3, s4, s5, .no, .no])
    (env := [.dat (.tup (sp.map pairW)), .own (.dct (dictL 0 sp)), .own (.lst []), .no, .no, .no, .no, .no]) ⟨_, _, _, rfl⟩ (fun i hi env h => by
      obtain ⟨s3, s4, s5, rfl⟩ := h
      rw [List.length_map] at hi
      have g : sp[i]? = some sp[i] := List.getElem?_eq_getElem hi
      rw [List.getElem_map, tiB_ok ne nd g (by simp; omega), Nx_nx, List.range_succ, List.map_append, List.map_append]
      exact ⟨_, _, _, rfl⟩)
  rw [List.length_map] at h1
  have h1 : forL (.tp (.cons (.nm 3) (.cons (.nm 4) .nil))) (sSeq (sSet 5 (fLst (fCons (fTup (fCons (fE (fOp gSub (fV 3) (fC (.int 1)))) (fCons (fE (fV 4)) fNil))) (fCons (fTup (fCons (fE (fOp gAdd (fV 3) (fC (.int 1)))) (fCons (fE (fV 4)) fNil))) (fCons (fTup (fCons (fE (fV 3)) (fCons (fE (fOp gSub (fV 4) (fC (.int 1)))) fNil))) (fCons (fTup (fCons (fE (fV 3)) (fCons (fE (fOp gAdd (fV 4) (fC (.int 1)))) fNil))) fNil))))))
    (sApp 2 (fE (fB gTuple (fCons (fB gSorted (fCons (fLc (fIt asL (fE (fV 5))) (.nm 7) (fTest (fOp gIn (fV 7) (fV 1))) (fOp gIxD (fV 1) (fV 7)) [7]) fNil)) fNil))))) _ _ = _ := h1
  have s1 : (sOwn 1 (fDcT (fEn (fE (fV 0))) (.tp (.cons (.nm 6) (.cons (.nm 7) .nil))) fYes (fV 7) (fV 6) [6, 7])) [.dat (.tup (sp.map pairW)), .no, .no, .no, .no, .no, .no, .no] = .nx [.dat (.tup (sp.map pairW)), .own (.dct (dictL 0 sp)), .no, .no, .no, .no, .no, .no] := by
    simp [cd]
  have ae : argEnv [false] [W.tup (sp.map pairW)] ++ List.replicate (8 - [W.tup (sp.map pairW)].length) Sl.no = [.dat (.tup (sp.map pairW)), .no, .no, .no, .no, .no, .no, .no] := rfl
  rw [ae, sSeq_e, s1, thn_nx]
  have h2 : (List.map (fun l => W.tup (iW l)) (List.map (nearL sp) (List.range sp.length))) = (nbs sp).map fun l => .tup (iW l) := rfl
  rw [h2] at h1
  simp [h1]
end
end K01

set_option maxRecDepth 100000
set_option maxHeartbeats 4000000
namespace K01
open PySem BV
theorem ga1 : gAdd (.str ".") (.str "#") = some (.v (.str ".#")) := rfl
theorem ga2 : gAdd (.str ".#") (.str "H") = some (.v (.str ".#H")) := rfl
theorem ga3 : gAdd (.str ".#H") (.str "S") = some (.v (.str ".#HS")) := rfl
theorem gi_sg {c : Nat} (h : SG c) : gIn (sgW c) (.str ".#HS") = some (.v (.bl true)) := by
  rcases h with rfl | rfl | rfl | rfl <;> rfl
theorem bools_true : ∀ {ws : List W}, bools (ws.map fun _ => W.bl true) = some (ws.map fun _ => true)
  | [] => rfl
  | w :: ws => by
    show (bools (ws.map fun _ => W.bl true)).map _ = _
    rw [bools_true]
    rfl
theorem frow_ok {l : List Nat} (h1 : 1 ≤ l.length) (h2 : l.length ≤ 12) (hs : ∀ c ∈ l, SG c) : d_is_row [rowW l] = .ok (.bl true) [] := by
  unfold d_is_row b_is_row
  rw [fdef_e]
  have is : gIsi (tOne "str") [rowW l] = some (.v (.bl true)) := isi_str (by intro e; cases e)
  have lr := len_row (l := l) (by omega)
  have n1 : (1 : Int) ≤ l.length := by omega
  have n2 : (l.length : Int) ≤ 12 := by omega
  obtain ⟨E, hE⟩ : ∃ E : Ev, E = [.dat (rowW l), .no] := ⟨_, rfl⟩
  obtain ⟨e, hc, he⟩ := compL_pure (t := .nm 1) (c := fYes) (el := (fOp gIn (fV 1) (fOp gAdd (fOp gAdd (fOp gAdd (fC (.str ".")) (fC (.str "#"))) (fC (.str "H"))) (fC (.str "S"))))) (vs := [1])
    (P := fun env => env = E) (k := fun _ => some (.bl true)) (ws := l.map sgW) (acc := []) (env := E) rfl (fun w m env p => by
      subst p
      obtain ⟨c, mc, rfl⟩ := List.mem_map.1 m
      have gi := gi_sg (hs c mc)
      refine ⟨_, ?_, rfl⟩
      rw [hE]
      simp [compL1, wipeE, restE, ga1, ga2, ga3, gi]) (by simp; omega)
  have fm : (l.map sgW).filterMap (fun _ => some (W.bl true)) = (l.map sgW).map fun _ => W.bl true := by rw [List.filterMap_eq_map']
  rw [he, hE, List.nil_append, fm] at hc
  have at' : asTx (rowW l) = some (l.map sgW) := by rw [← txt_chars]; rfl
  have gl := gAll_b (bools_true (ws := l.map sgW))
  have al : ((l.map sgW).map fun _ => true).all id = true := by simp
  rw [al] at gl
  simp only [fTest_e, fB_e, fCons_e, fV_e, gq_zero, fNil_e, bind_ok, getOVs_cons, getOVs_nil, getOV_v, Option.bind_some, is, retOV_some, asB_bl, fNot_e, fOr_e, fChain_e, fC_e, sIf_e, sSeq_e]
  simp [is, lr, n1, n2, at', hc, gl, -List.map_map]
theorem cnt_row {l : List Nat} : gCount (rowW l) (.str "H") = some (.v (.int (PyProof.Rows.cnt 72 l))) := by
  show some (OV.v (.int (Txt.count (txt l) ⟨#[72]⟩))) = _
  rw [PyProof.Rows.count_cnt, txt_cps]
noncomputable def sumK : W → Option W
  | .str x => some (.int (PyProof.Rows.cnt 72 x.cps.toList))
  | _ => none
theorem sumK_e {l : List Nat} : sumK (rowW l) = some (.int (PyProof.Rows.cnt 72 l)) := by
  show some (W.int (PyProof.Rows.cnt 72 (txt l).cps.toList)) = _
  rw [txt_cps]
theorem sumK_all : ∀ {Rw : List (List Nat)}, (Rw.map rowW).filterMap sumK = Rw.map fun l => W.int (PyProof.Rows.cnt 72 l)
  | [] => rfl
  | l :: Rw => by
    show (rowW l :: Rw.map rowW).filterMap sumK = _
    rw [List.filterMap_cons_some sumK_e, sumK_all]
    rfl
theorem intsW_map {α : Type} {k : α → Int} : ∀ {l : List α}, intsW (l.map fun x => W.int (k x)) = some (l.map k)
  | [] => rfl
  | x :: l => by
    show (intsW (l.map fun x => W.int (k x))).map _ = _
    rw [intsW_map]
    rfl
section
variable {Rw : List (List Nat)} {wd : Nat}
theorem home_ok (h : RowsOk Rw wd) (hh1 : 1 ≤ (Rw.map (PyProof.Rows.cnt 72)).sum) : allSp 0 Rw ≠ [] := by
  intro e
  have key : ∀ (ls : List (List Nat)) (i : Nat), allSp i ls = [] → (ls.map (PyProof.Rows.cnt 72)).sum = 0 := by
    have row : ∀ (l : List Nat) (i j : Nat), rowSp i j l = [] → PyProof.Rows.cnt 72 l = 0 := by
      intro l
      induction l with
      | nil => intro _ _ _; rfl
      | cons c cs ih =>
        intro i j e
        unfold rowSp at e
        split at e
        · rename_i z
          rw [PyProof.Rows.cnt_cons, ih i (j + 1) e, if_neg (by omega)]
          rfl
        · cases e
    intro ls
    induction ls with
    | nil => intro _ _; rfl
    | cons l ls ih =>
      intro i e
      unfold allSp at e
      obtain ⟨e1, e2⟩ := List.append_eq_nil_iff.1 e
      rw [List.map_cons, List.sum_cons, row l i 0 e1, ih (i + 1) e2]
      rfl
  have := key Rw 0 e
  omega
noncomputable def chB : SF := (sIf (fOr (fNot (fTest (fCall [false] d_is_row (fCons (fE (fV 3)) fNil)))) (fTest (fOp gNe (fB gLen (fCons (fV 3) fNil)) (fB gLen (fCons (fOp gIx (fV 1) (fC (.int 0))) fNil))))) (sRaise 1 ["part"] (fCons (fE (fV 2)) fNil)) sNext)
theorem chB_ok (h : RowsOk Rw wd) {i : Nat} {l : List Nat} {s2 s3 : Sl} (hl : l ∈ Rw) :
    turn (.tp (.cons (.nm 2) (.cons (.nm 3) .nil))) chB (.tup [.int (i : Int), rowW l]) [.own (.ins 3 []), .dat (rowsW Rw), s2, s3] = .nx [.own (.ins 3 []), .dat (rowsW Rw), .dat (.int (i : Int)), .dat (rowW l)] := by
  have ll := h.len l hl
  have w1 := h.w1
  have w2 := h.w2
  have r1 := h.r1
  have fr := frow_ok (by omega) (by omega) (h.sg l hl)
  have lr := len_row (l := l) (by omega)
  have l0 : Rw[0]? = some Rw[0] := List.getElem?_eq_getElem (by omega)
  have r0 : L2.atI (Rw.map rowW) 0 = some (rowW Rw[0]) := rows_at l0
  have ll0 := h.len _ (List.mem_of_getElem? l0)
  have lr0 := len_row (l := Rw[0]) (by omega)
  rw [ll] at lr
  rw [ll0] at lr0
  unfold turn chB rowsW
  simp [fr, lr, r0, lr0]
theorem init_ok (h : RowsOk Rw wd) (hh1 : 1 ≤ (Rw.map (PyProof.Rows.cnt 72)).sum) (hh2 : (Rw.map (PyProof.Rows.cnt 72)).sum ≤ 6) :
    d_Floor__init [.ins 3 [], rowsW Rw] = .ok .non [floorW (rowsW Rw) (.tup ((allSp 0 Rw).map pairW)) (nbs (allSp 0 Rw)) (offs Rw (allSp 0 Rw) 72) (offs Rw (allSp 0 Rw) 83)] := by
  have r1 := h.r1
  have r2 := h.r2
  have sl := spots_len h (ls := Rw) (fun l m => m) r2
  have sized : d_is_sized [rowsW Rw, .int 1, .int 12] = .ok (.bl true) [] := by
    unfold d_is_sized b_is_sized
    rw [fdef_e]
    have it : gIsi (tOne "tuple") [rowsW Rw] = some (.v (.bl true)) := isi_tuple kn_tup
    have gl : gLen [rowsW Rw] = some (.v (.int (Rw.length : Int))) := by
      show some (OV.v (.int ((Rw.map rowW).length : Int))) = _
      rw [List.length_map]
    simp [it, gl, show (1 : Int) ≤ Rw.length by omega, show (Rw.length : Int) ≤ 12 by omega]
  obtain ⟨e, h1, s2, s3, rfl⟩ := forL_idx (t := .tp (.cons (.nm 2) (.cons (.nm 3) .nil))) (f := chB) (ws := enW 0 (Rw.map rowW))
    (P := fun i env => ∃ s2 s3, env = [.own (.ins 3 []), .dat (rowsW Rw), s2, s3]) (env := [.own (.ins 3 []), .dat (rowsW Rw), .no, .no]) ⟨_, _, rfl⟩ (fun i hi env p => by
      obtain ⟨s2, s3, rfl⟩ := p
      rw [enW_len, List.length_map] at hi
      have g : Rw[i]? = some Rw[i] := List.getElem?_eq_getElem hi
      have g2 : (Rw.map rowW)[i]? = some (rowW Rw[i]) := by rw [List.getElem?_map, g]; rfl
      have ew := enW_get (k := 0) g2
      rw [List.getElem?_eq_getElem (by rw [enW_len, List.length_map]; exact hi), Nat.zero_add] at ew
      rw [Option.some.inj ew, chB_ok h (List.getElem_mem hi), Nx_nx]
      exact ⟨_, _, rfl⟩)
  obtain ⟨E, hE⟩ : ∃ E : Ev, E = [.own (.ins 3 []), .dat (rowsW Rw), s2, s3] := ⟨_, rfl⟩
  have sp := all_spots_ok h
  have ti := ties_ok (home_ok h hh1) allSp_nd (by omega)
  have so1 := spots_of_ok h sg72
  have so2 := spots_of_ok h sg83
  obtain ⟨e, hc, he⟩ := compL_pure (t := .nm 3) (c := fYes) (el := fM1 gCount (fV 3) (fC (.str "H"))) (vs := [3])
    (P := fun env => env = E) (k := sumK) (ws := Rw.map rowW) (acc := []) (env := E) rfl (fun w m env p => by
      subst p
      obtain ⟨l, ml, rfl⟩ := List.mem_map.1 m
      have gc := cnt_row (l := l)
      refine ⟨_, ?_, rfl⟩
      rw [hE, sumK_e]
      unfold rowW at *
      simp [compL1, wipeE, restE, gc]) (by simp; omega)
  rw [he, hE, List.nil_append, sumK_all] at hc
  have gs : gSum [.lst (Rw.map fun l => W.int (PyProof.Rows.cnt 72 l))] = some (.v (.int (Rw.map (PyProof.Rows.cnt 72)).sum)) := by
    show (intsW (Rw.map fun l => W.int (PyProof.Rows.cnt 72 l))).map _ = _
    rw [intsW_map]
    rfl
  obtain ⟨R, hR⟩ : ∃ R, rowsW Rw = R := ⟨_, rfl⟩
  obtain ⟨SP, hSP⟩ : ∃ SP, W.tup ((allSp 0 Rw).map pairW) = SP := ⟨_, rfl⟩
  obtain ⟨TI, hTI⟩ : ∃ TI, W.tup ((nbs (allSp 0 Rw)).map fun l => .tup (iW l)) = TI := ⟨_, rfl⟩
  obtain ⟨O1, hO1⟩ : ∃ O, W.tup (iW (offs Rw (allSp 0 Rw) 72)) = O := ⟨_, rfl⟩
  obtain ⟨O2, hO2⟩ : ∃ O, W.tup (iW (offs Rw (allSp 0 Rw) 83)) = O := ⟨_, rfl⟩
  have aT : asT R = some (Rw.map rowW) := by rw [← hR]; rfl
  have aE : asEn R = some (Rw.map rowW) := by rw [← hR]; rfl
  unfold floorW
  rw [hR] at sized h1 sp so1 so2 hc ⊢
  rw [hSP] at sp ti so1 so2 ⊢
  rw [hTI] at ti ⊢
  rw [hO1] at so1 ⊢
  rw [hO2] at so2 ⊢
  unfold d_Floor__init b_Floor__init
  rw [fdef_e]
  have ae : argEnv [true, false] [W.ins 3 [], R] ++ List.replicate (4 - [W.ins 3 [], R].length) Sl.no = [.own (.ins 3 []), .dat R, .no, .no] := rfl
  have t1 : (sIf (fNot (fTest (fCall [false, false, false] d_is_sized (fCons (fE (fV 1)) (fCons (fC (.int 1)) (fCons (fE (fC (.int 12))) fNil)))))) (sRaise 1 ["part"] (fCons (fE (fNeg (fC (.int 1)))) fNil)) sNext) [.own (.ins 3 []), .dat R, .no, .no] = .nx [.own (.ins 3 []), .dat R, .no, .no] := by
    simp [sized]
  have t2 : (sFor (fEn (fE (fV 1))) (.tp (.cons (.nm 2) (.cons (.nm 3) .nil))) chB) [.own (.ins 3 []), .dat R, .no, .no] = .nx [.own (.ins 3 []), .dat R, s2, s3] := by
    simp [aE, h1]
  have t3 : (sIf (fNot (fTest (fChain gLe gLe (fC (.int 1)) (fB gSum (fCons (fLc (fIt asT (fE (fV 1))) (.nm 3) fYes (fM1 gCount (fV 3) (fC (.str "H"))) [3]) fNil)) (fC (.int 6))))) (sRaise 1 ["part"] (fCons (fC (.str "homes")) fNil)) sNext) [.own (.ins 3 []), .dat R, s2, s3] = .nx [.own (.ins 3 []), .dat R, s2, s3] := by
    simp [aT, hc, gs, hh1, hh2]
  have t4 : (sFldS 0 3 "rows" (fV 1)) [.own (.ins 3 []), .dat R, s2, s3] = .nx [.own (.ins 3 [("rows", R)]), .dat R, s2, s3] := rfl
  have t5 : (sFldS 0 3 "spots" (fCall [false] d_all_spots (fCons (fE (fV 1)) fNil))) [.own (.ins 3 [("rows", R)]), .dat R, s2, s3] = .nx [.own (.ins 3 [("rows", R), ("spots", SP)]), .dat R, s2, s3] := by
    simp [sp]
    rfl
  have t6 : (sFldS 0 3 "ties" (fCall [false] d_all_ties (fCons (fE (fFld 3 "spots" (fV 0))) fNil))) [.own (.ins 3 [("rows", R), ("spots", SP)]), .dat R, s2, s3] = .nx [.own (.ins 3 [("rows", R), ("spots", SP), ("ties", TI)]), .dat R, s2, s3] := by
    have g : gFld 3 "spots" (.ins 3 [("rows", R), ("spots", SP)]) = some (.v SP) := rfl
    simp [g, ti]
    rfl
  have t7 : (sFldS 0 3 "rests" (fCall [false, false, false] d_spots_of (fCons (fE (fV 1)) (fCons (fE (fFld 3 "spots" (fV 0))) (fCons (fE (fC (.str "H"))) fNil))))) [.own (.ins 3 [("rows", R), ("spots", SP), ("ties", TI)]), .dat R, s2, s3] = .nx [.own (.ins 3 [("rows", R), ("spots", SP), ("ties", TI), ("rests", O1)]), .dat R, s2, s3] := by
    have g : gFld 3 "spots" (.ins 3 [("rows", R), ("spots", SP), ("ties", TI)]) = some (.v SP) := rfl
    simp [g, lit_H, so1]
    rfl
  have t8 : (sFldS 0 3 "stops" (fCall [false, false, false] d_spots_of (fCons (fE (fV 1)) (fCons (fE (fFld 3 "spots" (fV 0))) (fCons (fE (fC (.str "S"))) fNil))))) [.own (.ins 3 [("rows", R), ("spots", SP), ("ties", TI), ("rests", O1)]), .dat R, s2, s3] = .nx [.own (.ins 3 [("rows", R), ("spots", SP), ("ties", TI), ("rests", O1), ("stops", O2)]), .dat R, s2, s3] := by
    have g : gFld 3 "spots" (.ins 3 [("rows", R), ("spots", SP), ("ties", TI), ("rests", O1)]) = some (.v SP) := rfl
    simp [g, lit_S, so2]
    rfl
  have t2' : (sFor (fEn (fE (fV 1))) (.tp (.cons (.nm 2) (.cons (.nm 3) .nil))) (sIf (fOr (fNot (fTest (fCall [false] d_is_row (fCons (fE (fV 3)) fNil)))) (fTest (fOp gNe (fB gLen (fCons (fV 3) fNil)) (fB gLen (fCons (fOp gIx (fV 1) (fC (.int 0))) fNil))))) (sRaise 1 ["part"] (fCons (fE (fV 2)) fNil)) sNext)) [.own (.ins 3 []), .dat R, .no, .no] = .nx [.own (.ins 3 []), .dat R, s2, s3] := t2
  rw [ae, sSeq_e, t1, thn_nx, sSeq_e, t2', thn_nx, sSeq_e, t3, thn_nx, sSeq_e, t4, thn_nx, sSeq_e, t5, thn_nx, sSeq_e, t6, thn_nx, sSeq_e, t7, thn_nx, t8]
  rfl
end
end K01

set_option maxRecDepth 100000
set_option maxHeartbeats 4000000
namespace K01
open PySem BV
abbrev cH (l : List Nat) : Int := PyProof.Rows.cnt 72 l
theorem cH_cons {c : Nat} {l : List Nat} : cH (c :: l) = (if c = 72 then 1 else 0) + cH l := PyProof.Rows.cnt_cons 72 c l
theorem cH_nn : ∀ {l : List Nat}, 0 ≤ cH l
  | [] => by show (0 : Int) ≤ PyProof.Rows.cnt 72 []; rw [PyProof.Rows.cnt_nil]; omega
  | c :: l => by
    have := cH_nn (l := l)
    rw [cH_cons]
    split <;> omega
theorem cH_app : ∀ {l : List Nat} {c : Nat}, cH (l ++ [c]) = cH l + (if c = 72 then 1 else 0)
  | [], c => by
    show cH (c :: []) = cH [] + _
    rw [cH_cons]
    omega
  | a :: l, c => by
    show cH (a :: (l ++ [c])) = _
    rw [cH_cons, cH_cons, cH_app]
    omega
theorem add_row {l : List Nat} {c : Nat} (h : l.length ≤ 1000) : gAdd (rowW l) (sgW c) = some (.v (rowW (l ++ [c]))) := by
  show (if (txt l).length + (⟨#[c]⟩ : Str).length ≤ 16777216 then some (OV.v (.str (txt l ++ ⟨#[c]⟩))) else none) = _
  have l1 : (⟨#[c]⟩ : Str).length = 1 := rfl
  rw [txt_len, l1, if_pos (by omega)]
  have : txt l ++ (⟨#[c]⟩ : Str) = txt (l ++ [c]) := by
    show (⟨l.toArray ++ #[c]⟩ : Str) = ⟨(l ++ [c]).toArray⟩
    simp
  rw [this]
  rfl
theorem head_row {l : List Nat} (h : l.length ≤ 1000) : gAdd (sgW 72) (rowW l) = some (.v (rowW (72 :: l))) := by
  show (if (⟨#[72]⟩ : Str).length + (txt l).length ≤ 16777216 then some (OV.v (.str (⟨#[72]⟩ ++ txt l))) else none) = _
  have l1 : (⟨#[72]⟩ : Str).length = 1 := rfl
  rw [txt_len, l1, if_pos (by omega)]
  have : (⟨#[72]⟩ : Str) ++ txt l = txt (72 :: l) := by
    show (⟨#[72] ++ l.toArray⟩ : Str) = ⟨(72 :: l).toArray⟩
    simp
  rw [this]
  rfl
theorem sl_row {l : List Nat} (h : l.length ≤ 1000) : gSl (rowW l) (some 1) none = some (.v (rowW (l.drop 1))) := by
  show (if (txt l).length ≤ 16777216 then some (OV.v (.str (L2.cutS (txt l) (some 1) none))) else none) = _
  rw [txt_len, if_pos (by omega)]
  have : L2.cutS (txt l) (some 1) none = txt (l.drop 1) := by
    unfold L2.cutS
    rw [txt_len, txt_cps]
    show txt (cutL l (some 1) none) = _
    rw [cut_drop (by omega)]
    rfl
  rw [this]
  rfl
theorem signs_ok {h : W} (H : Hand h) : ∃ sl h', d__law_signs [h] = .ok (rowW sl) [h'] ∧ 1 ≤ sl.length ∧ sl.length ≤ 12 ∧ (∀ c ∈ sl, SG c) ∧ Hand h' := by
  obtain ⟨w, h', e, m, H'⟩ := pick_ok H (ws := [.str "....HS", .str ".....#HS", .str "...##HS", .str "..######HSS", .str "....HHS", .str "#"]) (by simp) (by simp)
  have ev : d__law_signs [h] = .ok w [h'] := by
    unfold d__law_signs b__law_signs
    rw [fdef_e, c_pick]
    simp [e]
  have d46 : SG 46 := .inl rfl
  simp only [List.mem_cons, List.not_mem_nil, or_false] at m
  rcases m with rfl | rfl | rfl | rfl | rfl | rfl
  · exact ⟨[46, 46, 46, 46, 72, 83], h', ev, by simp, by simp, by simp [SG], H'⟩
  · exact ⟨[46, 46, 46, 46, 46, 35, 72, 83], h', ev, by simp, by simp, by simp [SG], H'⟩
  · exact ⟨[46, 46, 46, 35, 35, 72, 83], h', ev, by simp, by simp, by simp [SG], H'⟩
  · exact ⟨[46, 46, 35, 35, 35, 35, 35, 35, 72, 83, 83], h', ev, by simp, by simp, by simp [SG], H'⟩
  · exact ⟨[46, 46, 46, 46, 72, 72, 83], h', ev, by simp, by simp, by simp [SG], H'⟩
  · exact ⟨[35], h', ev, by simp, by simp, by simp [SG], H'⟩
noncomputable def rowB : SF := (sSeq (sSet 10 (fOp gIx (fV 4) (fCall [true, false] d__law_take (fCons (fV 0) (fCons (fE (fB gLen (fCons (fV 4) fNil))) fNil)))))
  (sSeq (sIf (fTest (fOp gEq (fV 10) (fC (.str "H")))) (sSeq (sSet 6 (fOp gAdd (fV 6) (fC (.int 1))))
  (sIf (fTest (fOp gGt (fV 6) (fC (.int 6)))) (sSet 10 (fC (.str "."))) sNext)) sNext)
  (sSet 8 (fOp gAdd (fV 8) (fV 10)))))
def rwE (h m hi wi : W) (sl : List Nat) (Rw : List (List Nat)) (r : Nat) (s7 : Sl) (l : List Nat) (s9 s10 : Sl) : Ev :=
  [.own h, .dat m, .dat hi, .dat wi, .dat (rowW sl), .own (.lst (Rw.map rowW)), .dat (.int (r : Int)), s7, .dat (rowW l), s9, s10]
def rwP (m hi wi : W) (sl : List Nat) (Rw : List (List Nat)) (s7 : Sl) (j : Nat) (env : Ev) : Prop :=
  ∃ h r l s9 s10, env = rwE h m hi wi sl Rw r s7 l s9 s10 ∧ Hand h ∧ l.length = j ∧ (∀ c ∈ l, SG c) ∧ (Rw.map cH).sum + cH l = min (r : Int) 6
theorem rowB_ok {m hi wi : W} {sl : List Nat} {Rw : List (List Nat)} {s7 : Sl} {j : Nat} {env : Ev} {u : W} (s1 : 1 ≤ sl.length) (s2 : sl.length ≤ 12) (ss : ∀ c ∈ sl, SG c) (hj : j ≤ 900) (p : rwP m hi wi sl Rw s7 j env) :
    (turn (.nm 9) rowB u env).Nx (rwP m hi wi sl Rw s7 (j + 1)) := by
  obtain ⟨h, r, l, s9, s10, rfl, H, ll, ls, tot⟩ := p
  have lr := len_row (l := sl) (by omega)
  obtain ⟨t, h', e, t0, t1, H'⟩ := take_env H (m := (sl.length : Int)) (by omega) (by omega)
  obtain ⟨t, rfl⟩ : ∃ n : Nat, t = n := ⟨t.toNat, by omega⟩
  have hc : sl[t]? = some sl[t] := List.getElem?_eq_getElem (by omega)
  have gx := ix_row (by omega) hc
  have sc := ss _ (List.mem_of_getElem? hc)
  generalize sl[t] = c at gx sc
  have ge := gEq_sg sc sg72
  have ar := fun k : Nat => add_row (l := l) (c := k) (by omega)
  have key : ∃ r' k, turn (.nm 9) rowB u (rwE h m hi wi sl Rw r s7 l s9 s10) = .nx (rwE h' m hi wi sl Rw r' s7 (l ++ [k]) (.dat u) (.dat (sgW k))) ∧ SG k ∧ min (r' : Int) 6 = min (r : Int) 6 + (if k = 72 then 1 else 0) := by
    by_cases z : c = 72
    · rw [decide_eq_true z] at ge
      by_cases z2 : (6 : Int) < (r : Int) + 1
      · refine ⟨r + 1, 46, ?_, .inl rfl, by rw [if_neg (by omega)]; omega⟩
        unfold turn rowB rwE
        simp [c_take, lr, e, gx, lit_H, ge, z2, lit_F, ar]
      · refine ⟨r + 1, c, ?_, sc, by rw [if_pos z]; omega⟩
        unfold turn rowB rwE
        simp [c_take, lr, e, gx, lit_H, ge, z2, ar]
    · rw [decide_eq_false z] at ge
      refine ⟨r, c, ?_, sc, by rw [if_neg z]; omega⟩
      unfold turn rowB rwE
      simp [c_take, lr, e, gx, lit_H, ge, ar]
  obtain ⟨r', k, e2, sk, mn⟩ := key
  rw [e2, Nx_nx]
  refine ⟨_, _, _, _, _, rfl, H', by rw [List.length_append, ll]; rfl, fun x mx => ?_, by rw [cH_app]; omega⟩
  rcases List.mem_append.1 mx with mx | mx
  · exact ls x mx
  · rw [List.mem_singleton.1 mx]
    exact sk
/-! the rows that are drawn -/
noncomputable def rwB : SF := (sSeq (sSet 8 (fC (.str "")))
  (sSeq (sFor (fRng1 (fV 3)) (.nm 9) rowB)
  (sApp 5 (fE (fV 8)))))
def rsP (m hi : W) (wd : Nat) (sl : List Nat) (k : Nat) (env : Ev) : Prop :=
  ∃ (h : W) (Rw : List (List Nat)) (r : Nat) (s7 s8 s9 s10 : Sl), env = [.own h, .dat m, .dat hi, .dat (.int (wd : Int)), .dat (rowW sl), .own (.lst (Rw.map rowW)), .dat (.int (r : Nat)), s7, s8, s9, s10] ∧ Hand h ∧ Rw.length = k ∧ (∀ l ∈ Rw, l.length = wd) ∧ (∀ l ∈ Rw, ∀ c ∈ l, SG c) ∧ (Rw.map cH).sum = min (r : Int) 6
theorem rwB_ok {m hi u : W} {wd : Nat} {sl : List Nat} {k : Nat} {env : Ev} (s1 : 1 ≤ sl.length) (s2 : sl.length ≤ 12) (ss : ∀ c ∈ sl, SG c) (hk : k ≤ 900) (hw : wd ≤ 12) (p : rsP m hi wd sl k env) :
    ∃ e, turn (.nm 7) rwB u env = .nx e ∧ rsP m hi wd sl (k + 1) e := by
  obtain ⟨h, Rw, r, s7, s8, s9, s10, rfl, H, kl, ll, ls, tot⟩ := p
  have sm : smallI (wd : Int) = true := by unfold smallI; simp; omega
  obtain ⟨e, h1, h', r', l, s9', s10', rfl, H', l1, l2, l3⟩ := forL_rng (t := .nm 9) (f := rowB) (lo := 0) (hi := (wd : Int)) (P := rwP m hi (.int (wd : Int)) sl Rw (.dat u))
    (env := rwE h m hi (.int (wd : Int)) sl Rw r (.dat u) [] s9 s10) ⟨h, r, [], s9, s10, rfl, H, rfl, by simp, by
      have : cH [] = 0 := PyProof.Rows.cnt_nil 72
      rw [tot, this]
      omega⟩ (fun i hi env p => rowB_ok s1 s2 ss (by omega) p)
  rw [show ((wd : Int) - 0).toNat = wd by omega] at l1
  have t0 : turn (.nm 7) rwB u [.own h, .dat m, .dat hi, .dat (.int (wd : Int)), .dat (rowW sl), .own (.lst (Rw.map rowW)), .dat (.int (r : Int)), s7, s8, s9, s10] = .nx [.own h', .dat m, .dat hi, .dat (.int (wd : Int)), .dat (rowW sl), .own (.lst ((Rw ++ [l]).map rowW)), .dat (.int (r' : Int)), .dat u, .dat (rowW l), s9', s10'] := by
    have e0 : W.str "" = rowW [] := rfl
    unfold rwE at h1
    unfold turn rwB
    simp [e0, sm, h1]
    omega
  refine ⟨_, t0, h', Rw ++ [l], r', _, _, _, _, rfl, H', by rw [List.length_append, kl]; rfl, fun x mx => ?_, fun x mx => ?_, ?_⟩
  · rcases List.mem_append.1 mx with mx | mx
    · exact ll x mx
    · rw [List.mem_singleton.1 mx]
      exact l1
  · rcases List.mem_append.1 mx with mx | mx
    · exact ls x mx
    · rw [List.mem_singleton.1 mx]
      exact l2
  · rw [List.map_append, List.sum_append, List.map_singleton, List.sum_singleton, l3]
theorem nx_of {r : SR} {P : Ev → Prop} (h : ∃ e, r = .nx e ∧ P e) : r.Nx P := by
  obtain ⟨e, rfl, p⟩ := h
  exact p
theorem sum_zero : ∀ {Rw : List (List Nat)}, (Rw.map cH).sum = 0 → ∀ l ∈ Rw, cH l = 0
  | [], _, l, m => by cases m
  | a :: Rw, h, l, m => by
    rw [List.map_cons, List.sum_cons] at h
    have h1 := cH_nn (l := a)
    have h2 : 0 ≤ (Rw.map cH).sum := by
      clear h m
      induction Rw with
      | nil => simp
      | cons b Rw ih =>
        rw [List.map_cons, List.sum_cons]
        have := cH_nn (l := b)
        omega
    rcases List.mem_cons.1 m with rfl | m
    · omega
    · exact sum_zero (by omega) l m
theorem rows_ok {h : W} (H : Hand h) {most : Int} (m1 : 1 ≤ most) (m2 : most ≤ 12) : ∃ Rw wd h', d__law_rows [h, .int most] = .ok (rowsW Rw) [h'] ∧ RowsOk Rw wd ∧ 1 ≤ (Rw.map cH).sum ∧ (Rw.map cH).sum ≤ 6 ∧ Hand h' := by
  obtain ⟨a, h1, e1, a0, a1, H1⟩ := take_env H (m := most) (by omega) (by omega)
  obtain ⟨b, h2, e2, b0, b1, H2⟩ := take_env H1 (m := most) (by omega) (by omega)
  obtain ⟨sl, h3, e3, s1, s2, ss, H3⟩ := signs_ok H2
  obtain ⟨wd, hwd⟩ : ∃ n : Nat, 1 + b = n := ⟨(1 + b).toNat, by omega⟩
  obtain ⟨hi, hhi⟩ : ∃ n : Nat, 1 + a = n := ⟨(1 + a).toNat, by omega⟩
  have sm : smallI (hi : Int) = true := by unfold smallI; simp; omega
  obtain ⟨e, f1, h4, Rw, r, s7, s8, s9, s10, rfl, H4, kl, ll, ls, tot⟩ := forL_rng (t := .nm 7) (f := rwB) (lo := 0) (hi := (hi : Int)) (P := rsP (.int most) (.int (hi : Int)) wd sl)
    (env := [.own h3, .dat (.int most), .dat (.int (hi : Int)), .dat (.int (wd : Int)), .dat (rowW sl), .own (.lst []), .dat (.int 0), .no, .no, .no, .no]) ⟨h3, [], 0, _, _, _, _, rfl, H3, rfl, by simp, by simp, by simp; omega⟩ (fun i hi env p => nx_of (rwB_ok s1 s2 ss (by omega) (by omega) p))
  rw [show ((hi : Int) - 0).toNat = hi by omega] at kl
  have ub : d__law_rows = fdef 11 [true, false] (sSeq (sSet 2 (fOp gAdd (fC (.int 1)) (fCall [true, false] d__law_take (fCons (fV 0) (fCons (fE (fV 1)) fNil)))))
    (sSeq (sSet 3 (fOp gAdd (fC (.int 1)) (fCall [true, false] d__law_take (fCons (fV 0) (fCons (fE (fV 1)) fNil)))))
    (sSeq (sSet 4 (fCall [true] d__law_signs (fCons (fV 0) fNil)))
    (sSeq (sOwn 5 (fLst fNil))
    (sSeq (sSet 6 (fC (.int 0)))
    (sSeq (sFor (fRng1 (fV 2)) (.nm 7) rwB)
    (sSeq (sIf (fTest (fOp gEq (fV 6) (fC (.int 0)))) (sSetIx 5 (fC (.int 0)) (fOp gAdd (fC (.str "H")) (fSl (fOp gIx (fV 5) (fC (.int 0))) (fPart (fC (.int 1))) fNoPart))) sNext)
    (sRet (fB gTuple (fCons (fV 5) fNil)))))))))) := rfl
  rw [ub, fdef_e]
  by_cases z : r = 0
  · subst z
    have t0 : (Rw.map cH).sum = 0 := by rw [tot]; rfl
    have l0 : Rw[0]? = some Rw[0] := List.getElem?_eq_getElem (by omega)
    have m0 := List.mem_of_getElem? l0
    have r0 : L2.atI (Rw.map rowW) 0 = some (rowW Rw[0]) := rows_at l0
    obtain ⟨l, hl⟩ : ∃ l, l = Rw[0] := ⟨_, rfl⟩
    rw [← hl] at r0 m0
    have ln := ll l m0
    have sr := sl_row (l := l) (by omega)
    have hr := head_row (l := l.drop 1) (by rw [List.length_drop]; omega)
    have ix : L2.ixN Rw.length 0 = some 0 := by rw [ixN_get ⟨by omega, by omega⟩]; rfl
    have tt : ((Rw.set 0 (72 :: l.drop 1)).map cH).sum = 1 := by
      have zl := sum_zero t0 l m0
      have zd : cH (l.drop 1) = 0 := by
        cases l with
        | nil => exact zl
        | cons c cs =>
          rw [cH_cons] at zl
          have := cH_nn (l := cs)
          show cH cs = 0
          split at zl <;> omega
      cases Rw with
      | nil => cases m0
      | cons x R =>
        have hx : l = x := hl
        rw [List.map_cons, List.sum_cons, ← hx] at t0
        rw [List.set_cons_zero, List.map_cons, List.sum_cons, cH_cons, if_pos rfl]
        omega
    refine ⟨Rw.set 0 (72 :: l.drop 1), wd, h4, ?_, ⟨by rw [List.length_set]; omega, by rw [List.length_set]; omega, by omega, by omega, fun x mx => ?_, fun x mx => ?_⟩, ?_, ?_, H4⟩
    · simp [c_take, e1, e2, e3, hwd, hhi, sm, f1, r0, sr, lit_H, hr, ix, gTuple, rowsW, List.map_set, -List.drop_one]
    · rcases List.mem_or_eq_of_mem_set mx with mx | rfl
      · exact ll x mx
      · rw [List.length_cons, List.length_drop]
        omega
    · rcases List.mem_or_eq_of_mem_set mx with mx | rfl
      · exact ls x mx
      · intro c mc
        rcases List.mem_cons.1 mc with rfl | mc
        · exact sg72
        · exact ls l m0 c (List.mem_of_mem_drop mc)
    · rw [tt]
      omega
    · rw [tt]
      omega
  · have zi : ¬ (r : Int) = 0 := by omega
    refine ⟨Rw, wd, h4, ?_, ⟨by omega, by omega, by omega, by omega, ll, ls⟩, by omega, by omega, H4⟩
    simp [c_take, e1, e2, e3, hwd, hhi, sm, f1, z, gTuple, rowsW]
end K01

set_option maxRecDepth 100000
set_option maxHeartbeats 4000000
namespace K01
open PySem BV
/-- loops that may raise -/
theorem forL_exc {t : Tg} {f : SF} {P : Nat → Ev → Prop} {R : Exc → Ev → Prop} {ws : List W} {env : Ev} (p : P 0 env) (H : ∀ i (h : i < ws.length) env, P i env → (∃ e, turn t f ws[i] env = .nx e ∧ P (i + 1) e) ∨ ∃ x e, turn t f ws[i] env = .er x e ∧ R x e) :
    (∃ e, forL t f ws env = .nx e ∧ P ws.length e) ∨ ∃ x e, forL t f ws env = .er x e ∧ R x e := by
  suffices K : ∀ (us : List W) (k : Nat) (env : Ev), ws.drop k = us → k + us.length = ws.length → P k env → (∃ e, forL t f us env = .nx e ∧ P ws.length e) ∨ ∃ x e, forL t f us env = .er x e ∧ R x e from K ws 0 env rfl (by omega) p
  intro us
  induction us with
  | nil =>
    intro k env _ hk p
    have hk : k = ws.length := by simpa using hk
    exact .inl ⟨env, rfl, hk ▸ p⟩
  | cons u us ih =>
    intro k env hd hk p
    rw [List.length_cons] at hk
    have hlt : k < ws.length := by omega
    rw [List.drop_eq_getElem_cons hlt] at hd
    injection hd with hd1 hd2
    have h := H k hlt env p
    rw [hd1] at h
    have step : forL t f (u :: us) env = match turn t f u env with | .nx e => forL t f us e | .ct e => forL t f us e | .bk e => .nx e | r => r := by
      show (match bindT t u env with | none => SR.bad | some env1 => match f env1 with | .nx e => forL t f us e | .ct e => forL t f us e | .bk e => .nx e | r => r) = _
      unfold turn
      cases bindT t u env <;> rfl
    rw [step]
    rcases h with ⟨e, h1, h2⟩ | ⟨x, e, h1, h2⟩
    · rw [h1]
      exact ih (k + 1) e hd2 (by omega) h2
    · rw [h1]
      exact .inr ⟨x, e, rfl, h2⟩
/-! which row is none -/
def sgK : W → Bool
  | .str x => decide (x.cps.toList = [46] ∨ x.cps.toList = [35] ∨ x.cps.toList = [72] ∨ x.cps.toList = [83])
  | _ => false
theorem sgK_e {c : Nat} : sgK (sgW c) = true ↔ SG c := by
  show decide ([c] = [46] ∨ [c] = [35] ∨ [c] = [72] ∨ [c] = [83]) = true ↔ _
  rw [decide_eq_true_iff]
  simp [SG]
theorem gi_any {c : Nat} : gIn (sgW c) (.str ".#HS") = some (.v (.bl (sgK (sgW c)))) := by
  have h : gIn (sgW c) (.str ".#HS") = some (.v (.bl (decide (c ∈ [46, 35, 72, 83])))) := rfl
  rw [h]
  congr 3
  rw [Bool.eq_iff_iff, sgK_e]
  simp [SG]
theorem gni_any {c : Nat} : gNotIn (sgW c) (.str ".#HS") = some (.v (.bl (!sgK (sgW c)))) := by
  have h : gNotIn (sgW c) (.str ".#HS") = some (.v (.bl (!decide (c ∈ [46, 35, 72, 83])))) := rfl
  rw [h]
  congr 4
  rw [Bool.eq_iff_iff, sgK_e]
  simp [SG]
def RowL (l : List Nat) : Prop := 1 ≤ l.length ∧ l.length ≤ 12 ∧ ∀ c ∈ l, SG c
theorem sg_all {l : List Nat} : ((l.map sgW).map sgK).all id = true ↔ ∀ c ∈ l, SG c := by
  simp [sgK_e]
theorem row_any {l : List Nat} (hl : l.length ≤ 100000) : ∃ z, d_is_row [rowW l] = .ok (.bl z) [] ∧ (z = true ↔ RowL l) := by
  have is : gIsi (tOne "str") [rowW l] = some (.v (.bl true)) := isi_str (by intro e; cases e)
  have lr := len_row (l := l) (by omega)
  by_cases n1 : (1 : Int) ≤ l.length
  · by_cases n2 : (l.length : Int) ≤ 12
    · refine ⟨((l.map sgW).map sgK).all id, ?_, ?_⟩
      · obtain ⟨E, hE⟩ : ∃ E : Ev, E = [.dat (rowW l), .no] := ⟨_, rfl⟩
        obtain ⟨e, hc, he⟩ := compL_pure (t := .nm 1) (c := fYes) (el := (fOp gIn (fV 1) (fOp gAdd (fOp gAdd (fOp gAdd (fC (.str ".")) (fC (.str "#"))) (fC (.str "H"))) (fC (.str "S"))))) (vs := [1])
          (P := fun env => env = E) (k := fun w => some (.bl (sgK w))) (ws := l.map sgW) (acc := []) (env := E) rfl (fun w m env p => by
            subst p
            obtain ⟨c, mc, rfl⟩ := List.mem_map.1 m
            have gi := gi_any (c := c)
            refine ⟨_, ?_, rfl⟩
            rw [hE]
            simp [compL1, wipeE, restE, ga1, ga2, ga3, gi]) (by simp; omega)
        rw [he, hE, List.nil_append, List.filterMap_eq_map'] at hc
        have at' : asTx (rowW l) = some (l.map sgW) := by rw [← txt_chars]; rfl
        have gl := gAll_b (bools_map (k := sgK) (ws := l.map sgW))
        unfold d_is_row b_is_row
        rw [fdef_e]
        generalize ((l.map sgW).map sgK).all id = z at gl
        generalize (l.map sgW).map (fun w => W.bl (sgK w)) = L at hc gl
        simp [is, lr, n1, n2, at', hc, gl]
      · rw [sg_all]
        exact ⟨fun h => ⟨by omega, by omega, h⟩, fun h => h.2.2⟩
    · refine ⟨false, ?_, fun z => (by cases z), fun h => absurd h.2.1 (by omega)⟩
      unfold d_is_row b_is_row
      rw [fdef_e]
      simp [is, lr, n1, n2]
  · refine ⟨false, ?_, fun z => (by cases z), fun h => absurd h.1 (by omega)⟩
    unfold d_is_row b_is_row
    rw [fdef_e]
    simp [is, lr, n1]
theorem row_no {w : W} (hk : Kn w) (hs : isStr w = false) : d_is_row [w] = .ok (.bl false) [] := by
  have is := isi_str hk
  rw [hs] at is
  unfold d_is_row b_is_row
  rw [fdef_e]
  simp [is]
/-- what a thing here is like -/
structure Thing (w : W) : Prop where
  kn : Kn w
  tup : ∀ ws, w = .tup ws → ws.length ≤ 1000 ∧ ∀ u ∈ ws, Kn u ∧ ∀ x, u = .str x → x.length ≤ 1000
theorem str_row {x : Str} : W.str x = rowW x.cps.toList := by
  show W.str x = W.str ⟨x.cps.toList.toArray⟩
  simp
def RowAt (ws : List W) (i : Nat) : Prop := ∃ l l0, ws[i]? = some (rowW l) ∧ ws[0]? = some (rowW l0) ∧ RowL l ∧ l.length = l0.length
/-- the first that is none -/
def BadAt (ws : List W) (i : Nat) : Prop := i < ws.length ∧ ¬ RowAt ws i ∧ ∀ j, j < i → RowAt ws j
theorem bad_one {ws : List W} {i j : Nat} (h : BadAt ws i) (k : BadAt ws j) : i = j := by
  have c1 : ¬ i < j := fun z => h.2.1 (k.2.2 i z)
  have c2 : ¬ j < i := fun z => k.2.1 (h.2.2 j z)
  omega
theorem rowW_inj {l m : List Nat} (h : rowW l = rowW m) : l = m := by
  have h : txt l = txt m := W.str.inj h
  have := congrArg (fun x : Str => x.cps.toList) h
  rwa [txt_cps, txt_cps] at this
end K01

set_option maxRecDepth 100000
set_option maxHeartbeats 4000000
namespace K01
open PySem BV
theorem at_ws {ws : List W} {i : Nat} (h : i < ws.length) : L2.atI ws (i : Int) = some ws[i] := by
  rw [atI_get ⟨by omega, by omega⟩, Int.toNat_natCast, List.getElem?_eq_getElem h]
def kN (w : W) : Option W := if sgK w = true then none else some w
theorem kN_none {l : List Nat} : (l.map sgW).filterMap kN = [] ↔ ∀ c ∈ l, SG c := by
  rw [List.filterMap_eq_nil_iff]
  constructor
  · intro h c m
    have := h (sgW c) (List.mem_map.2 ⟨c, m, rfl⟩)
    unfold kN at this
    split at this
    · rename_i z
      exact sgK_e.1 z
    · cases this
  · intro h w m
    obtain ⟨c, mc, rfl⟩ := List.mem_map.1 m
    exact if_pos (sgK_e.2 (h c mc))
noncomputable def brB : SF := (sSeq (sIf (fOr (fNot (fTest (fB (gIsi (tOne "str")) (fCons (fOp gIx (fV 0) (fV 1)) fNil)))) (fOr (fTest (fOp gLt (fB gLen (fCons (fOp gIx (fV 0) (fV 1)) fNil)) (fC (.int 1)))) (fOr (fTest (fOp gGt (fB gLen (fCons (fOp gIx (fV 0) (fV 1)) fNil)) (fC (.int 12)))) (fTest (fOp gNe (fB gLen (fCons (fOp gIx (fV 0) (fV 1)) fNil)) (fB gLen (fCons (fOp gIx (fV 0) (fC (.int 0))) fNil))))))) (sRet (fV 1)) sNext)
  (sIf (fTest (fOp gGt (fB gLen (fCons (fLc (fIt asTx (fE (fOp gIx (fV 0) (fV 1)))) (.nm 3) (fTest (fOp gNotIn (fV 3) (fC (.str ".#HS")))) (fV 3) [3]) fNil)) (fC (.int 0)))) (sRet (fV 1)) sNext))
section
variable {ws : List W} {i : Nat}
/-- the first row, when it is asked for -/
theorem first_row {l : List Nat} (hi : ws[i]? = some (rowW l)) (hp : ∀ j, j < i → RowAt ws j) : ∃ l0, ws[0]? = some (rowW l0) := by
  by_cases z : i = 0
  · subst z
    exact ⟨l, hi⟩
  · obtain ⟨l1, l0, h1, h2, _⟩ := hp 0 (by omega)
    exact ⟨l0, h2⟩
theorem rowAt_iff {l l0 : List Nat} (hi : ws[i]? = some (rowW l)) (h0 : ws[0]? = some (rowW l0)) : RowAt ws i ↔ RowL l ∧ l.length = l0.length := by
  constructor
  · rintro ⟨l1, l2, e1, e2, h1, h2⟩
    rw [hi] at e1
    rw [h0] at e2
    rw [rowW_inj (Option.some.inj e1), rowW_inj (Option.some.inj e2)]
    exact ⟨h1, h2⟩
  · rintro ⟨h1, h2⟩
    exact ⟨l, l0, hi, h0, h1, h2⟩
theorem row_len (t : Thing (.tup ws)) {l : List Nat} (hi : ws[i]? = some (rowW l)) : l.length ≤ 1000 := by
  have := (t.tup ws rfl).2 _ (List.mem_of_getElem? hi)
  have := this.2 _ rfl
  rwa [txt_len] at this
theorem brB_ok (t : Thing (.tup ws)) (hi : i < ws.length) (hp : ∀ j, j < i → RowAt ws j) :
    (RowAt ws i ∧ brB [.dat (.tup ws), .dat (.int (i : Int)), .no, .no] = .nx [.dat (.tup ws), .dat (.int (i : Int)), .no, .no]) ∨ (¬ RowAt ws i ∧ brB [.dat (.tup ws), .dat (.int (i : Int)), .no, .no] = .rt (.int (i : Int)) [.dat (.tup ws), .dat (.int (i : Int)), .no, .no]) := by
  have ga := at_ws hi
  have gi : ws[i]? = some ws[i] := List.getElem?_eq_getElem hi
  have kw := (t.tup ws rfl).2 _ (List.getElem_mem hi)
  generalize ws[i] = w at ga gi kw
  have is := isi_str kw.1
  by_cases c : isStr w = true
  · obtain ⟨x, rfl⟩ : ∃ x, w = .str x := by cases w <;> first | exact ⟨_, rfl⟩ | cases c
    rw [c] at is
    rw [str_row] at ga gi is
    generalize x.cps.toList = l at ga gi is
    obtain ⟨l0, g0⟩ := first_row gi hp
    have ll := row_len t gi
    have ll0 := row_len t g0
    have lr := len_row (l := l) (by omega)
    have lr0 := len_row (l := l0) (by omega)
    have z0 : L2.atI ws 0 = some (rowW l0) := by
      have := at_ws (ws := ws) (i := 0) (by omega)
      rw [List.getElem?_eq_getElem (by omega)] at g0
      rw [← Option.some.inj g0]
      exact this
    rw [rowAt_iff gi g0]
    unfold brB
    by_cases n1 : (l.length : Int) < 1
    · exact .inr ⟨fun h => absurd h.1.1 (by omega), by simp [ga, is, lr, n1]⟩
    · by_cases n2 : (12 : Int) < l.length
      · exact .inr ⟨fun h => absurd h.1.2.1 (by omega), by simp [ga, is, lr, n1, n2]⟩
      · by_cases n3 : (l.length : Int) = l0.length
        · rw [← n3] at lr0
          obtain ⟨E, hE⟩ : ∃ E : Ev, E = [.dat (.tup ws), .dat (.int (i : Int)), .no, .no] := ⟨_, rfl⟩
          obtain ⟨e, hc, he⟩ := compL_pure (t := .nm 3) (c := fTest (fOp gNotIn (fV 3) (fC (.str ".#HS")))) (el := fV 3) (vs := [3])
            (P := fun env => env = E) (k := kN) (ws := l.map sgW) (acc := []) (env := E) rfl (fun w m env p => by
              subst p
              obtain ⟨c, mc, rfl⟩ := List.mem_map.1 m
              have gn := gni_any (c := c)
              refine ⟨_, ?_, rfl⟩
              rw [hE]
              unfold kN
              cases q : sgK (sgW c) with
              | true =>
                rw [q] at gn
                simp [compL1, wipeE, restE, gn]
              | false =>
                rw [q] at gn
                simp [compL1, wipeE, restE, gn]) (by simp; omega)
          rw [he, hE, List.nil_append] at hc
          have at' : asTx (rowW l) = some (l.map sgW) := by rw [← txt_chars]; rfl
          have kn := kN_none (l := l)
          generalize (l.map sgW).filterMap kN = L at hc kn
          by_cases n4 : L = []
          · subst n4
            exact .inl ⟨⟨⟨by omega, by omega, kn.1 rfl⟩, by omega⟩, by simp [ga, is, lr, n1, n2, z0, lr0, at', hc]⟩
          · have pos : 0 < L.length := by
              cases L with
              | nil => exact absurd rfl n4
              | cons a b => simp
            exact .inr ⟨fun h => n4 (kn.2 h.1.2.2), by simp [ga, is, lr, n1, n2, z0, lr0, at', hc, pos]⟩
        · exact .inr ⟨fun h => n3 (by omega), by simp [ga, is, lr, n1, n2, z0, lr0, n3]⟩
  · rw [Bool.eq_false_iff.2 c] at is
    refine .inr ⟨?_, by unfold brB; simp [ga, is]⟩
    rintro ⟨l, l0, e, _⟩
    rw [gi] at e
    rw [Option.some.inj e] at c
    exact c rfl
theorem chB_any (t : Thing (.tup ws)) (hi : i < ws.length) (hp : ∀ j, j < i → RowAt ws j) {s2 s3 : Sl} :
    (RowAt ws i ∧ turn (.tp (.cons (.nm 2) (.cons (.nm 3) .nil))) chB (.tup [.int (i : Int), ws[i]]) [.own (.ins 3 []), .dat (.tup ws), s2, s3] = .nx [.own (.ins 3 []), .dat (.tup ws), .dat (.int (i : Int)), .dat ws[i]]) ∨
    (¬ RowAt ws i ∧ turn (.tp (.cons (.nm 2) (.cons (.nm 3) .nil))) chB (.tup [.int (i : Int), ws[i]]) [.own (.ins 3 []), .dat (.tup ws), s2, s3] = .er ⟨1, [("part", .int (i : Int))]⟩ [.own (.ins 3 []), .dat (.tup ws), .dat (.int (i : Int)), .dat ws[i]]) := by
  have gi : ws[i]? = some ws[i] := List.getElem?_eq_getElem hi
  have kw := (t.tup ws rfl).2 _ (List.getElem_mem hi)
  generalize ws[i] = w at gi kw
  unfold turn chB
  by_cases c : isStr w = true
  · obtain ⟨x, rfl⟩ : ∃ x, w = .str x := by cases w <;> first | exact ⟨_, rfl⟩ | cases c
    rw [str_row] at gi ⊢
    generalize x.cps.toList = l at gi ⊢
    obtain ⟨l0, g0⟩ := first_row gi hp
    have ll := row_len t gi
    have ll0 := row_len t g0
    have lr := len_row (l := l) (by omega)
    have lr0 := len_row (l := l0) (by omega)
    have z0 : L2.atI ws 0 = some (rowW l0) := by
      have := at_ws (ws := ws) (i := 0) (by omega)
      rw [List.getElem?_eq_getElem (by omega)] at g0
      rw [← Option.some.inj g0]
      exact this
    obtain ⟨z, e1, hz⟩ := row_any (l := l) (by omega)
    rw [rowAt_iff gi g0]
    cases z with
    | false => exact .inr ⟨fun h => absurd (hz.2 h.1) (by simp), by simp [e1]⟩
    | true =>
      have hr := hz.1 rfl
      by_cases n3 : (l.length : Int) = l0.length
      · exact .inl ⟨⟨hr, by omega⟩, by simp [e1, lr, z0, lr0, n3]⟩
      · exact .inr ⟨fun h => n3 (by omega), by simp [e1, lr, z0, lr0, n3]⟩
  · have rn := row_no kw.1 (Bool.eq_false_iff.2 c)
    refine .inr ⟨?_, by simp [rn]⟩
    rintro ⟨l, l0, e, _⟩
    rw [gi] at e
    rw [Option.some.inj e] at c
    exact c rfl
end
theorem rows_of {P : List Nat → Prop} : ∀ {ws : List W}, (∀ w ∈ ws, ∃ l, w = rowW l ∧ P l) → ∃ Rw : List (List Nat), ws = Rw.map rowW ∧ ∀ l ∈ Rw, P l
  | [], _ => ⟨[], rfl, by simp⟩
  | w :: ws, h => by
    obtain ⟨l, rfl, p⟩ := h w (List.mem_cons_self ..)
    obtain ⟨Rw, rfl, q⟩ := rows_of (ws := ws) fun w m => h w (List.mem_cons_of_mem _ m)
    refine ⟨l :: Rw, rfl, fun x m => ?_⟩
    rcases List.mem_cons.1 m with rfl | m
    · exact p
    · exact q x m
theorem all_rows {ws : List W} (h1 : 1 ≤ ws.length) (h2 : ws.length ≤ 12) (h : ∀ i, i < ws.length → RowAt ws i) : ∃ (Rw : List (List Nat)) (wd : Nat), ws = Rw.map rowW ∧ RowsOk Rw wd := by
  obtain ⟨l0, _, e0, _, r0, _⟩ := h 0 (by omega)
  obtain ⟨Rw, rfl, q⟩ := rows_of (P := fun l => RowL l ∧ l.length = l0.length) (ws := ws) (fun w m => by
    obtain ⟨i, e⟩ := List.getElem?_of_mem m
    obtain ⟨l, l1, e1, e2, r, le⟩ := h i (List.getElem?_eq_some_iff.1 e).1
    rw [e0] at e2
    rw [e] at e1
    exact ⟨l, Option.some.inj e1, r, by rw [le, ← rowW_inj (Option.some.inj e2)]⟩)
  rw [List.length_map] at h1 h2
  exact ⟨Rw, l0.length, rfl, h1, h2, r0.1, r0.2.1, fun l m => (q l m).2, fun l m => (q l m).1.2.2⟩
end K01

set_option maxRecDepth 100000
set_option maxHeartbeats 4000000
namespace K01
open PySem BV
section
variable {ws : List W}
theorem law_loop (t : Thing (.tup ws)) :
    ((∀ i, i < ws.length → RowAt ws i) ∧ ∃ s1, forL (.nm 1) brB (rangeW 0 (ws.length : Int)) [.dat (.tup ws), .no, .no, .no] = .nx [.dat (.tup ws), s1, .no, .no]) ∨
    ∃ (i : Nat) (s1 : Sl), BadAt ws i ∧ forL (.nm 1) brB (rangeW 0 (ws.length : Int)) [.dat (.tup ws), .no, .no, .no] = .rt (.int (i : Int)) [.dat (.tup ws), s1, .no, .no] := by
  have lp := forL_rngG (t := .nm 1) (f := brB) (lo := 0) (hi := (ws.length : Int)) (P := fun i env => (∃ s1, env = [.dat (.tup ws), s1, .no, .no]) ∧ ∀ j, j < i → RowAt ws j) (B := fun _ => False)
    (R := fun w env => ∃ (i : Nat) (s1 : Sl), w = .int (i : Int) ∧ env = [.dat (.tup ws), s1, .no, .no] ∧ BadAt ws i) (env := [.dat (.tup ws), .no, .no, .no]) ⟨⟨_, rfl⟩, fun j h => by omega⟩ (fun i hi env p => by
      obtain ⟨⟨s1, rfl⟩, hp⟩ := p
      rw [Int.zero_add]
      have e0 : turn (.nm 1) brB (.int (i : Int)) [.dat (.tup ws), s1, .no, .no] = brB [.dat (.tup ws), .dat (.int (i : Int)), .no, .no] := rfl
      rw [e0]
      have q := brB_ok t (i := i) (by omega) hp
      generalize brB [.dat (.tup ws), .dat (.int (i : Int)), .no, .no] = r at q ⊢
      rcases q with ⟨g, rfl⟩ | ⟨g, rfl⟩
      · rw [Go_nx]
        refine ⟨⟨_, rfl⟩, fun j hj => ?_⟩
        by_cases c : j = i
        · rw [c]
          exact g
        · exact hp j (by omega)
      · rw [Go_rt]
        exact ⟨i, _, rfl, rfl, by omega, g, hp⟩)
  rcases lp with ⟨e, h1, h2 | ⟨⟨s1, rfl⟩, h2⟩⟩ | ⟨w, e, h1, i, s1, rfl, rfl, h2⟩
  · exact h2.elim
  · rw [show ((ws.length : Int) - 0).toNat = ws.length by omega] at h2
    exact .inl ⟨h2, s1, h1⟩
  · exact .inr ⟨i, s1, h2, h1⟩
theorem init_loop (t : Thing (.tup ws)) :
    ((∀ i, i < ws.length → RowAt ws i) ∧ ∃ s2 s3, forL (.tp (.cons (.nm 2) (.cons (.nm 3) .nil))) chB (enW 0 ws) [.own (.ins 3 []), .dat (.tup ws), .no, .no] = .nx [.own (.ins 3 []), .dat (.tup ws), s2, s3]) ∨
    ∃ (i : Nat) (s2 s3 : Sl), BadAt ws i ∧ forL (.tp (.cons (.nm 2) (.cons (.nm 3) .nil))) chB (enW 0 ws) [.own (.ins 3 []), .dat (.tup ws), .no, .no] = .er ⟨1, [("part", .int (i : Int))]⟩ [.own (.ins 3 []), .dat (.tup ws), s2, s3] := by
  have lp := forL_exc (t := .tp (.cons (.nm 2) (.cons (.nm 3) .nil))) (f := chB) (ws := enW 0 ws) (P := fun i env => (∃ s2 s3, env = [.own (.ins 3 []), .dat (.tup ws), s2, s3]) ∧ ∀ j, j < i → RowAt ws j)
    (R := fun x env => ∃ (i : Nat) (s2 s3 : Sl), x = ⟨1, [("part", .int (i : Int))]⟩ ∧ env = [.own (.ins 3 []), .dat (.tup ws), s2, s3] ∧ BadAt ws i) (env := [.own (.ins 3 []), .dat (.tup ws), .no, .no]) ⟨⟨_, _, rfl⟩, fun j h => by omega⟩ (fun i hi env p => by
      rw [enW_len] at hi
      have ew := enW_get (k := 0) (List.getElem?_eq_getElem hi)
      rw [List.getElem?_eq_getElem (by rw [enW_len]; exact hi), Nat.zero_add] at ew
      rw [Option.some.inj ew]
      obtain ⟨⟨s2, s3, rfl⟩, hp⟩ := p
      rcases chB_any t hi hp (s2 := s2) (s3 := s3) with ⟨g, e⟩ | ⟨g, e⟩
      · refine .inl ⟨_, e, ⟨_, _, rfl⟩, fun j hj => ?_⟩
        by_cases c : j = i
        · rw [c]
          exact g
        · exact hp j (by omega)
      · exact .inr ⟨_, _, e, i, _, _, rfl, rfl, hi, g, hp⟩)
  rcases lp with ⟨e, h1, ⟨s2, s3, rfl⟩, h2⟩ | ⟨x, e, h1, i, s2, s3, rfl, rfl, h2⟩
  · rw [enW_len] at h2
    exact .inl ⟨h2, s2, s3, h1⟩
  · exact .inr ⟨i, s2, s3, h2, h1⟩
end
/-! the homes -/
theorem strsW_rows : ∀ {Rw : List (List Nat)}, strsW (Rw.map rowW) = some (Rw.map txt)
  | [] => rfl
  | l :: Rw => by
    show (strsW (Rw.map rowW)).map _ = _
    rw [strsW_rows]
    rfl
theorem joinL_nil : ∀ {Rw : List (List Nat)}, TL.joinL [] Rw = Rw.flatten
  | [] => rfl
  | [l] => by simp [TL.joinL]
  | l :: m :: Rw => by
    show l ++ ([] ++ TL.joinL [] (m :: Rw)) = _
    rw [joinL_nil (Rw := m :: Rw), List.nil_append]
    rfl
theorem join_rows {Rw : List (List Nat)} (h : (Rw.map (·.length)).sum ≤ 1000) : gJoin (.str "") (.tup (Rw.map rowW)) = some (.v (rowW Rw.flatten)) := by
  show (strsW (Rw.map rowW)).bind _ = _
  rw [strsW_rows]
  have e : Txt.join (⟨#[]⟩ : Str) (Rw.map txt) = txt Rw.flatten := by
    have := SX.join_S [] Rw
    rw [joinL_nil] at this
    exact this
  have ls : ((Rw.map txt).map (·.length)).sum = (Rw.map (·.length)).sum := by
    rw [List.map_map]
    exact congrArg List.sum (List.map_congr_left fun l _ => txt_len)
  show (if ((Rw.map txt).map (·.length)).sum + (Rw.map txt).length * (⟨#[]⟩ : Str).length ≤ 16777216 then some (OV.v (.str (Txt.join (⟨#[]⟩ : Str) (Rw.map txt)))) else none) = _
  rw [if_pos (by rw [ls]; show _ + _ * 0 ≤ _; omega), e]
  try rfl
def hK (w : W) : Option W := match w with
  | .str x => if x.cps.toList = [72] then some w else none
  | _ => none
theorem hK_e {c : Nat} : hK (sgW c) = if c = 72 then some (sgW c) else none := by
  show (if [c] = [72] then some (sgW c) else none) = _
  by_cases h : c = 72 <;> simp [h]
theorem hK_len : ∀ {l : List Nat}, (((l.map sgW).filterMap hK).length : Int) = cH l
  | [] => (PyProof.Rows.cnt_nil 72).symm
  | c :: l => by
    rw [List.map_cons, cH_cons]
    by_cases z : c = 72
    · rw [List.filterMap_cons_some (by rw [hK_e, if_pos z]), List.length_cons, if_pos z, ← hK_len]
      omega
    · rw [List.filterMap_cons_none (by rw [hK_e, if_neg z]), if_neg z, ← hK_len]
      omega
theorem cH_two : ∀ {l m : List Nat}, cH (l ++ m) = cH l + cH m
  | [], m => by
    have : cH [] = 0 := PyProof.Rows.cnt_nil 72
    rw [this, List.nil_append]
    omega
  | a :: l, m => by
    rw [List.cons_append, cH_cons, cH_cons, cH_two]
    omega
theorem cH_flat : ∀ {Rw : List (List Nat)}, cH Rw.flatten = (Rw.map cH).sum
  | [] => PyProof.Rows.cnt_nil 72
  | l :: Rw => by rw [List.flatten_cons, cH_two, List.map_cons, List.sum_cons, cH_flat]
theorem len_flat : ∀ {Rw : List (List Nat)}, Rw.flatten.length = (Rw.map (·.length)).sum
  | [] => rfl
  | l :: Rw => by rw [List.flatten_cons, List.length_append, List.map_cons, List.sum_cons, len_flat]
theorem sum_le {wd : Nat} : ∀ {Rw : List (List Nat)}, (∀ l ∈ Rw, l.length = wd) → (Rw.map (·.length)).sum = Rw.length * wd
  | [], _ => by simp
  | l :: Rw, h => by
    rw [List.map_cons, List.sum_cons, sum_le (fun x m => h x (List.mem_cons_of_mem _ m)), h l (List.mem_cons_self ..), List.length_cons, Nat.succ_mul]
    omega
noncomputable def hmB : SF := (sSet 2 (fB gLen (fCons (fLc (fIt asTx (fE (fM1 gJoin (fC (.str "")) (fV 0)))) (.nm 3) (fTest (fOp gEq (fV 3) (fC (.str "H")))) (fV 3) [3]) fNil)))
theorem hmB_ok {Rw : List (List Nat)} {wd : Nat} (ok : RowsOk Rw wd) {s1 : Sl} : hmB [.dat (rowsW Rw), s1, .no, .no] = .nx [.dat (rowsW Rw), s1, .dat (.int (Rw.map cH).sum), .no] := by
  have r2 := ok.r2
  have w2 := ok.w2
  have sl := sum_le ok.len
  have sb : Rw.length * wd ≤ 12 * 12 := Nat.mul_le_mul r2 w2
  have gj := join_rows (Rw := Rw) (by omega)
  have at' : asTx (rowW Rw.flatten) = some (Rw.flatten.map sgW) := by rw [← txt_chars]; rfl
  obtain ⟨E, hE⟩ : ∃ E : Ev, E = [.dat (rowsW Rw), s1, .no, .no] := ⟨_, rfl⟩
  obtain ⟨e, hc, he⟩ := compL_pure (t := .nm 3) (c := fTest (fOp gEq (fV 3) (fC (.str "H")))) (el := fV 3) (vs := [3])
    (P := fun env => env = E) (k := hK) (ws := Rw.flatten.map sgW) (acc := []) (env := E) rfl (fun w m env p => by
      subst p
      obtain ⟨c, mc, rfl⟩ := List.mem_map.1 m
      obtain ⟨l, ml, mc⟩ := List.mem_flatten.1 mc
      have ge := gEq_sg (ok.sg l ml c mc) sg72
      refine ⟨_, ?_, rfl⟩
      rw [hE, hK_e]
      by_cases z : c = 72
      · rw [decide_eq_true z] at ge
        rw [if_pos z]
        simp [compL1, wipeE, restE, lit_H, ge]
      · rw [decide_eq_false z] at ge
        rw [if_neg z]
        simp [compL1, wipeE, restE, lit_H, ge]) (by rw [List.length_map, len_flat]; simp; omega)
  have hl := hK_len (l := Rw.flatten)
  rw [cH_flat] at hl
  rw [he, hE, List.nil_append] at hc
  generalize (Rw.flatten.map sgW).filterMap hK = L at hc hl
  generalize Rw.flatten.map sgW = C at hc at'
  unfold hmB
  unfold rowsW at *
  simp [gj, at', hc, hl]
/-! both judges -/
theorem thing_judged {w : W} (t : Thing w) :
    (∃ (Rw : List (List Nat)) (wd : Nat), w = rowsW Rw ∧ RowsOk Rw wd ∧ 1 ≤ (Rw.map cH).sum ∧ (Rw.map cH).sum ≤ 6 ∧ d__law_bad_rows [w] = .ok .non []) ∨
    ∃ (pt o : W), d_Floor__init [.ins 3 [], w] = .er ⟨1, [("part", pt)]⟩ [o] ∧ d__law_bad_rows [w] = .ok pt [] ∧ isNon pt = false ∧ ((∃ i : Int, pt = .int i) ∨ pt = .str "homes") := by
  have it := isi_tuple t.kn
  have ub : d__law_bad_rows = fdef 4 [false] (sSeq (sIf (fOr (fNot (fTest (fB (gIsi (tOne "tuple")) (fCons (fV 0) fNil)))) (fOr (fTest (fOp gLt (fB gLen (fCons (fV 0) fNil)) (fC (.int 1)))) (fTest (fOp gGt (fB gLen (fCons (fV 0) fNil)) (fC (.int 12)))))) (sRet (fNeg (fC (.int 1)))) sNext)
    (sSeq (sFor (fRng1 (fB gLen (fCons (fV 0) fNil))) (.nm 1) brB)
    (sSeq hmB
    (sSeq (sIf (fOr (fTest (fOp gLt (fV 2) (fC (.int 1)))) (fTest (fOp gGt (fV 2) (fC (.int 6))))) (sRet (fC (.str "homes"))) sNext)
    (sRet (fC .non)))))) := rfl
  have ui : ∃ rest, d_Floor__init = fdef 4 [true, false] (sSeq (sIf (fNot (fTest (fCall [false, false, false] d_is_sized (fCons (fE (fV 1)) (fCons (fC (.int 1)) (fCons (fE (fC (.int 12))) fNil)))))) (sRaise 1 ["part"] (fCons (fE (fNeg (fC (.int 1)))) fNil)) sNext)
    (sSeq (sFor (fEn (fE (fV 1))) (.tp (.cons (.nm 2) (.cons (.nm 3) .nil))) chB)
    (sSeq (sIf (fNot (fTest (fChain gLe gLe (fC (.int 1)) (fB gSum (fCons (fLc (fIt asT (fE (fV 1))) (.nm 3) fYes (fM1 gCount (fV 3) (fC (.str "H"))) [3]) fNil)) (fC (.int 6))))) (sRaise 1 ["part"] (fCons (fC (.str "homes")) fNil)) sNext)
    rest))) := ⟨_, rfl⟩
  obtain ⟨rest, ui⟩ := ui
  have sized : ∀ z : Bool, (isT w = true → ∀ ws, w = .tup ws → z = (decide ((1 : Int) ≤ ws.length) && decide ((ws.length : Int) ≤ 12))) → (isT w = false → z = false) → d_is_sized [w, .int 1, .int 12] = .ok (.bl z) [] := fun z h1 h2 => by
    unfold d_is_sized b_is_sized
    rw [fdef_e]
    cases w with
    | tup ws =>
      have := h1 rfl ws rfl
      subst this
      by_cases n1 : (1 : Int) ≤ ws.length
      · by_cases n2 : (ws.length : Int) ≤ 12 <;> simp [it, isT, n1, n2]
      · simp [it, isT, n1]
    | _ => simp [it, isT, h2 rfl]
  by_cases c : ∃ ws, w = .tup ws ∧ 1 ≤ ws.length ∧ ws.length ≤ 12
  · obtain ⟨ws, rfl, n1, n2⟩ := c
    have sz := sized true (fun _ ws' e => by
      have e : ws = ws' := W.tup.inj e
      subst e
      rw [decide_eq_true (by omega), decide_eq_true (by omega)]
      rfl) (fun h => by cases h)
    have sm : smallI (ws.length : Int) = true := by unfold smallI; simp; omega
    have m1 : ¬ (ws.length : Int) < 1 := by omega
    have m2 : ¬ (12 : Int) < ws.length := by omega
    have t1 : (sIf (fOr (fNot (fTest (fB (gIsi (tOne "tuple")) (fCons (fV 0) fNil)))) (fOr (fTest (fOp gLt (fB gLen (fCons (fV 0) fNil)) (fC (.int 1)))) (fTest (fOp gGt (fB gLen (fCons (fV 0) fNil)) (fC (.int 12)))))) (sRet (fNeg (fC (.int 1)))) sNext) [.dat (.tup ws), .no, .no, .no] = .nx [.dat (.tup ws), .no, .no, .no] := by
      simp [it, isT, m1, m2]
    have r1 : (sIf (fNot (fTest (fCall [false, false, false] d_is_sized (fCons (fE (fV 1)) (fCons (fC (.int 1)) (fCons (fE (fC (.int 12))) fNil)))))) (sRaise 1 ["part"] (fCons (fE (fNeg (fC (.int 1)))) fNil)) sNext) [.own (.ins 3 []), .dat (.tup ws), .no, .no] = .nx [.own (.ins 3 []), .dat (.tup ws), .no, .no] := by
      simp [sz]
    have ae : argEnv [false] [W.tup ws] ++ List.replicate (4 - [W.tup ws].length) Sl.no = [.dat (.tup ws), .no, .no, .no] := rfl
    have ai : argEnv [true, false] [W.ins 3 [], .tup ws] ++ List.replicate (4 - [W.ins 3 [], .tup ws].length) Sl.no = [.own (.ins 3 []), .dat (.tup ws), .no, .no] := rfl
    rw [ub, ui, fdef_e, fdef_e, ae, ai, sSeq_e, t1, thn_nx, sSeq_e (f := sIf (fNot (fTest (fCall [false, false, false] d_is_sized (fCons (fE (fV 1)) (fCons (fC (.int 1)) (fCons (fE (fC (.int 12))) fNil)))))) _ _), r1, thn_nx]
    rcases law_loop t with ⟨all, s1, h1⟩ | ⟨i, s1, bad, h1⟩
    · have t2 : (sFor (fRng1 (fB gLen (fCons (fV 0) fNil))) (.nm 1) brB) [.dat (.tup ws), .no, .no, .no] = .nx [.dat (.tup ws), s1, .no, .no] := by
        simp [sm, h1]
      rcases init_loop t with ⟨_, s2, s3, h2⟩ | ⟨i, s2, s3, bad, _⟩
      · have r2 : (sFor (fEn (fE (fV 1))) (.tp (.cons (.nm 2) (.cons (.nm 3) .nil))) chB) [.own (.ins 3 []), .dat (.tup ws), .no, .no] = .nx [.own (.ins 3 []), .dat (.tup ws), s2, s3] := by
          simp [h2]
        obtain ⟨Rw, wd, rfl, ok⟩ := all_rows n1 n2 all
        have hm := hmB_ok ok (s1 := s1)
        have hm : hmB [.dat (.tup (Rw.map rowW)), s1, .no, .no] = .nx [.dat (.tup (Rw.map rowW)), s1, .dat (.int (Rw.map cH).sum), .no] := hm
        by_cases k : 1 ≤ (Rw.map cH).sum ∧ (Rw.map cH).sum ≤ 6
        · refine .inl ⟨Rw, wd, rfl, ok, k.1, k.2, ?_⟩
          rw [sSeq_e, t2, thn_nx, sSeq_e, hm, thn_nx]
          have k1 : ¬ (Rw.map cH).sum < 1 := by omega
          have k2 : ¬ 6 < (Rw.map cH).sum := by omega
          generalize (Rw.map cH).sum = S at k1 k2
          simp [k1, k2]
        · refine .inr ⟨.str "homes", .ins 3 [], ?_, ?_, rfl, .inr rfl⟩
          · rw [sSeq_e, r2, thn_nx, sSeq_e]
            obtain ⟨E, hE⟩ : ∃ E : Ev, E = [.own (.ins 3 []), .dat (.tup (Rw.map rowW)), s2, s3] := ⟨_, rfl⟩
            obtain ⟨e, hc, he⟩ := compL_pure (t := .nm 3) (c := fYes) (el := fM1 gCount (fV 3) (fC (.str "H"))) (vs := [3])
              (P := fun env => env = E) (k := sumK) (ws := Rw.map rowW) (acc := []) (env := E) rfl (fun w m env p => by
                subst p
                obtain ⟨l, ml, rfl⟩ := List.mem_map.1 m
                have gc := cnt_row (l := l)
                refine ⟨_, ?_, rfl⟩
                rw [hE, sumK_e]
                unfold rowW at *
                simp [compL1, wipeE, restE, gc]) (by simp at n2 ⊢; omega)
            rw [he, hE, List.nil_append, sumK_all] at hc
            have gs : gSum [.lst (Rw.map fun l => W.int (PyProof.Rows.cnt 72 l))] = some (.v (.int (Rw.map (PyProof.Rows.cnt 72)).sum)) := by
              show (intsW (Rw.map fun l => W.int (PyProof.Rows.cnt 72 l))).map _ = _
              rw [intsW_map]
              rfl
            have k : ¬ (1 ≤ (Rw.map (PyProof.Rows.cnt 72)).sum ∧ (Rw.map (PyProof.Rows.cnt 72)).sum ≤ 6) := k
            generalize (Rw.map (PyProof.Rows.cnt 72)).sum = S at gs k
            generalize Rw.map rowW = C at hc
            generalize Rw.map (fun l => W.int (PyProof.Rows.cnt 72 l)) = D at hc gs
            by_cases k1 : 1 ≤ S
            · have k2 : ¬ S ≤ 6 := fun z => k ⟨k1, z⟩
              simp [hc, gs, k1, k2]
            · simp [hc, gs, k1]
          · rw [sSeq_e, t2, thn_nx, sSeq_e, hm, thn_nx]
            generalize (Rw.map cH).sum = S at k
            by_cases k1 : S < 1
            · simp [k1]
            · have k2 : 6 < S := by omega
              simp [k1, k2]
      · exact absurd (all i bad.1) bad.2.1
    · have t2 : (sFor (fRng1 (fB gLen (fCons (fV 0) fNil))) (.nm 1) brB) [.dat (.tup ws), .no, .no, .no] = .rt (.int (i : Int)) [.dat (.tup ws), s1, .no, .no] := by
        simp [sm, h1]
      rcases init_loop t with ⟨all, s2, s3, h2⟩ | ⟨j, s2, s3, bad2, h2⟩
      · exact absurd (all i bad.1) bad.2.1
      · have ij := bad_one bad bad2
        subst ij
        have r2 : (sFor (fEn (fE (fV 1))) (.tp (.cons (.nm 2) (.cons (.nm 3) .nil))) chB) [.own (.ins 3 []), .dat (.tup ws), .no, .no] = .er ⟨1, [("part", .int (i : Int))]⟩ [.own (.ins 3 []), .dat (.tup ws), s2, s3] := by
          simp [h2]
        refine .inr ⟨.int (i : Int), .ins 3 [], ?_, ?_, rfl, .inl ⟨_, rfl⟩⟩
        · rw [sSeq_e, r2, thn_er]
          simp
        · rw [sSeq_e, t2, thn_rt]
          simp
  · refine .inr ⟨.int (-1), .ins 3 [], ?_, ?_, rfl, .inl ⟨_, rfl⟩⟩
    · have sz := sized false (fun _ ws e => by
        symm
        rw [Bool.and_eq_false_iff]
        by_cases n1 : (1 : Int) ≤ ws.length
        · exact .inr (decide_eq_false fun n2 => c ⟨ws, e, by omega, by omega⟩)
        · exact .inl (decide_eq_false n1)) (fun _ => rfl)
      rw [ui, fdef_e]
      simp [sz]
    · rw [ub, fdef_e]
      cases w with
      | tup ws =>
        by_cases n1 : (ws.length : Int) < 1
        · simp [it, isT, n1]
        · have n2 : (12 : Int) < ws.length := Classical.byContradiction fun z => c ⟨ws, rfl, by omega, by omega⟩
          simp [it, isT, n1, n2]
      | _ => simp [it, isT]
end K01

set_option maxRecDepth 100000
set_option maxHeartbeats 4000000
namespace K01
open PySem BV
theorem ok_txt {l : List Nat} (h : ∀ c ∈ l, SG c) : PyData.strOk (txt l) = true := by
  unfold PyData.strOk txt
  simp
  intro i hi
  have := h i hi
  rcases this with e | e | e | e <;> omega
theorem toPys_rows : ∀ {Rw : List (List Nat)}, toPys (Rw.map rowW) = some (Rw.map fun l => PyData.str (txt l))
  | [] => rfl
  | l :: Rw => by
    show (toPy (rowW l)).bind (fun d => (toPys (Rw.map rowW)).map fun ds => d :: ds) = _
    rw [toPys_rows]
    rfl
theorem lay_rows : ∀ {Rw : List (List Nat)}, (∀ l ∈ Rw, ∀ c ∈ l, SG c) → PyData.canLayAll0 (Rw.map fun l => PyData.str (txt l)) = true ∧ PyData.depthAll (Rw.map fun l => PyData.str (txt l)) = 0
  | [], _ => ⟨rfl, rfl⟩
  | l :: Rw, h => by
    obtain ⟨h1, h2⟩ := lay_rows (Rw := Rw) fun l m => h l (List.mem_cons_of_mem _ m)
    have h3 := ok_txt (h l (List.mem_cons_self ..))
    exact ⟨by simp [PyData.canLayAll0, PyData.canLay0, h1, h3], by simp [PyData.depthAll, PyData.depth, h2]⟩
theorem cmp_rows {Rw : List (List Nat)} (h : ∀ l ∈ Rw, ∀ c ∈ l, SG c) : Cmp (rowsW Rw) (.tuple (Rw.map fun l => PyData.str (txt l))) := by
  obtain ⟨h1, h2⟩ := lay_rows h
  refine ⟨?_, by simp [PyData.canLay0, h1], by simp [PyData.depth, h2]⟩
  show (toPys (Rw.map rowW)).map PyData.tuple = _
  rw [toPys_rows]
  rfl
theorem rows_eq {Rw Qw : List (List Nat)} {wd vd : Nat} (h : RowsOk Rw wd) (k : RowsOk Qw vd) : ∃ z, gEq (rowsW Rw) (rowsW Qw) = some (.v (.bl z)) := by
  unfold gEq
  rw [wEq_cmp (cmp_rows h.sg) (cmp_rows k.sg)]
  exact ⟨_, rfl⟩
theorem eq_ok {A B s1 s2 : W} {N1 N2 : List (List Nat)} {r1 r2 t1 t2 : List Nat} {z : Bool} (h : gEq A B = some (.v (.bl z))) : d_Floor__eq [floorW A s1 N1 r1 t1, floorW B s2 N2 r2 t2] = .ok (.bl z) [] := by
  have g1 : gFld 3 "rows" (floorW A s1 N1 r1 t1) = some (.v A) := rfl
  have g2 : gFld 3 "rows" (floorW B s2 N2 r2 t2) = some (.v B) := rfl
  have g3 : gIsiC 3 [floorW B s2 N2 r2 t2] = some (.v (.bl true)) := rfl
  unfold d_Floor__eq b_Floor__eq
  rw [fdef_e]
  simp [g1, g2, g3, h]
theorem eq_no {A s1 : W} {N1 : List (List Nat)} {r1 t1 : List Nat} {ws : List W} : d_Floor__eq [floorW A s1 N1 r1 t1, .tup ws] = .ok (.bl false) [] := by
  have g3 : gIsiC 3 [.tup ws] = some (.v (.bl false)) := rfl
  unfold d_Floor__eq b_Floor__eq
  rw [fdef_e]
  simp [g3]
theorem as_part {pt : W} {env : Ev} {s0 s1 : Sl} (he : env = [s0, s1]) : asR 1 (fun a d k => (sRet (fTup (fCons (fC (.str "BadFloor")) (fCons (fE (fXf a d k 1 1 "part")) fNil))))) ⟨1, [("part", pt)]⟩ env = .rt (.tup [.str "BadFloor", pt]) (env.set 1 .no) := by
  refine asR_eq fun b d hd => ?_
  subst he
  cases d with
  | none => cases hd rfl
  | some dd => simp [fXf_e, List.lookup]
theorem made_yes {w o : W} (h : d_Floor__init [.ins 3 [], w] = .ok .non [o]) (hf : gFld 3 "rows" o = some (.v w)) : d__law_made [w] = .ok (.tup [.str "told", w]) [] := by
  unfold d__law_made b__law_made
  rw [fdef_e]
  simp [h, hf]
theorem made_no {w o pt : W} (h : d_Floor__init [.ins 3 [], w] = .er ⟨1, [("part", pt)]⟩ [o]) : d__law_made [w] = .ok (.tup [.str "BadFloor", pt]) [] := by
  unfold d__law_made b__law_made
  rw [fdef_e]
  simp [h, pickA_as, tst_BadFloor, as_part rfl]
theorem ok_BadFloor : PyData.strOk "BadFloor" = true := by decide +kernel
theorem okt_homes : PyData.strOk "homes" = true := by decide +kernel
theorem ok_NoCell : PyData.strOk "NoCell" = true := by decide +kernel
theorem same_rows {n : Nat} {Rw : List (List Nat)} (h : ∀ l ∈ Rw, ∀ c ∈ l, SG c) : dSame (n + 2) [rowsW Rw, rowsW Rw] = .ok (.bl true) [] := same_tup fun w m => by
  obtain ⟨l, ml, rfl⟩ := List.mem_map.1 m
  exact same_ss (ok_txt (h l ml))
theorem same_iW {n : Nat} {l : List Nat} : dSame (n + 2) [.tup (iW l), .tup (iW l)] = .ok (.bl true) [] := same_tup fun w m => by
  obtain ⟨i, _, rfl⟩ := mem_iW m
  exact same_ii
theorem same_pairs {n : Nat} {sp : List (Nat × Nat)} : dSame (n + 3) [.tup (sp.map pairW), .tup (sp.map pairW)] = .ok (.bl true) [] := same_tup fun w m => by
  obtain ⟨p, _, rfl⟩ := List.mem_map.1 m
  exact same_two same_ii same_ii
/-! neighbours -/
section
variable {R : W} {spl : List W} {N : List (List Nat)} {rs ss : List Nat}
theorem near_yes {c : Nat} (hl : spl.length = N.length) (hc : c < N.length) : d__law_near_told [floorW R (.tup spl) N rs ss, .int (c : Int)] = .ok (.tup [.str "told", .tup (iW (nbN N c))]) [] := by
  have b2 := below_ok (w := .int (c : Int)) kn_int (b := (spl.length : Int))
  have ib : inB 0 ((spl.length : Int) - 1) (.int (c : Int)) = true := by rw [hl]; simp [inB]; omega
  rw [ib] at b2
  have q1 : d_is_cell [floorW R (.tup spl) N rs ss, .int (c : Int)] = .ok (.bl true) [] := by
    unfold d_is_cell b_is_cell
    rw [fdef_e, c_below]
    simp [fld_spots, b2]
  have ta := tie_at hc
  have q2 : d_neighbours [floorW R (.tup spl) N rs ss, .int (c : Int)] = .ok (.tup (iW (nbN N c))) [] := by
    unfold d_neighbours b_neighbours
    rw [fdef_e]
    simp [q1, fld_ties, ta]
  unfold d__law_near_told b__law_near_told
  rw [fdef_e]
  simp [q2]
theorem near_no {w : W} (hk : Kn w) (h : inB 0 ((spl.length : Int) - 1) w = false) : d__law_near_told [floorW R (.tup spl) N rs ss, w] = .ok (.tup [.str "NoCell"]) [] := by
  have b2 := below_ok hk (b := (spl.length : Int))
  rw [h] at b2
  have q1 : d_is_cell [floorW R (.tup spl) N rs ss, w] = .ok (.bl false) [] := by
    unfold d_is_cell b_is_cell
    rw [fdef_e, c_below]
    simp [fld_spots, b2]
  have q2 : d_neighbours [floorW R (.tup spl) N rs ss, w] = .er ⟨2, []⟩ [] := by
    unfold d_neighbours b_neighbours
    rw [fdef_e]
    simp [q1]
  unfold d__law_near_told b__law_near_told
  rw [fdef_e]
  simp [q2, pick, tst_NoCell]
end
end K01

set_option maxRecDepth 100000
set_option maxHeartbeats 4000000
namespace K01
open PySem BV
/-- a part of a thing -/
def El (u : W) : Prop := Kn u ∧ ∀ x, u = .str x → x.length ≤ 1000
theorem thing_tup {ws : List W} (hl : ws.length ≤ 1000) (h : ∀ u ∈ ws, El u) : Thing (.tup ws) := ⟨kn_tup, fun vs e => by
  have e := W.tup.inj e
  subst e
  exact ⟨hl, h⟩⟩
theorem thing_of {w : W} (hk : Kn w) (hn : ∀ ws, w ≠ .tup ws) : Thing w := ⟨hk, fun ws e => absurd e (hn ws)⟩
theorem el_row {l : List Nat} (h : l.length ≤ 1000) : El (rowW l) := ⟨(by intro e; cases e), fun x e => by
  have e : txt l = x := W.str.inj e
  rw [← e, txt_len]
  exact h⟩
theorem el_str {x : Str} (h : x.length ≤ 1000) : El (.str x) := ⟨(by intro e; cases e), fun y e => by
  have e : x = y := W.str.inj e
  rw [← e]
  exact h⟩
theorem el_of {w : W} (hk : Kn w) (h : isStr w = false) : El w := ⟨hk, fun x e => by
  subst e
  cases h⟩
theorem odd2 {h : W} (H : Hand h) : ∃ w h', dOdd [h] = .ok w [h'] ∧ Thing w ∧ El w ∧ Hand h' := by
  obtain ⟨r, h', e, r0, r1, H'⟩ := take_env H (m := 18) (by omega) (by omega)
  unfold dOdd bOdd
  rw [fdef_e]
  have kt : ∀ {w : W}, (tyN w).isSome = true → Kn w := fun {w} h e => by
    rw [e] at h
    cases h
  have hr : r = 0 ∨ r = 1 ∨ r = 2 ∨ r = 3 ∨ r = 4 ∨ r = 5 ∨ r = 6 ∨ r = 7 ∨ r = 8 ∨ r = 9 ∨ r = 10 ∨ r = 11 ∨ r = 12 ∨ r = 13 ∨ r = 14 ∨ r = 15 ∨ r = 16 ∨ r = 17 := by omega
  rcases hr with rfl | rfl | rfl | rfl | rfl | rfl | rfl | rfl | rfl | rfl | rfl | rfl | rfl | rfl | rfl | rfl | rfl | rfl <;>
  · simp [e, gPow_i]
    refine ⟨_, _, ⟨rfl, rfl⟩, ?_, ?_, H'⟩
    · first
      | (refine thing_tup (by simp) (fun u m => ?_)
         simp at m
         try first
         | (subst m; exact el_of (kt rfl) rfl)
         | (rcases m with rfl | rfl <;> exact el_of (kt rfl) rfl))
      | exact thing_of (kt rfl) (fun ws e => W.noConfusion e)
    · first
      | exact el_of (kt rfl) rfl
      | exact el_str (by decide +kernel)
theorem add_rows {l m : List Nat} (h : l.length + m.length ≤ 100000) : gAdd (rowW l) (rowW m) = some (.v (rowW (l ++ m))) := by
  show (if (txt l).length + (txt m).length ≤ 16777216 then some (OV.v (.str (txt l ++ txt m))) else none) = _
  rw [txt_len, txt_len, if_pos (by omega)]
  have : txt l ++ txt m = txt (l ++ m) := by
    show (⟨l.toArray ++ m.toArray⟩ : Str) = ⟨(l ++ m).toArray⟩
    simp
  rw [this]
  rfl
theorem cut_row {l : List Nat} {lo hi : Option Int} (h : l.length ≤ 1000) : gSl (rowW l) lo hi = some (.v (rowW (cutL l lo hi))) := by
  show (if (txt l).length ≤ 16777216 then some (OV.v (.str (L2.cutS (txt l) lo hi))) else none) = _
  rw [txt_len, if_pos (by omega)]
  have : L2.cutS (txt l) lo hi = txt (cutL l lo hi) := by
    unfold L2.cutS
    rw [txt_len, txt_cps]
    rfl
  rw [this]
  rfl
theorem cutL_len {α : Type} {xs : List α} {lo hi : Option Int} : (cutL xs lo hi).length ≤ xs.length := by
  unfold cutL
  rw [List.length_take, List.length_drop]
  omega
theorem cutL_mem {α : Type} {xs : List α} {lo hi : Option Int} {u : α} (h : u ∈ cutL xs lo hi) : u ∈ xs := by
  unfold cutL at h
  exact List.mem_of_mem_drop (List.mem_of_mem_take h)
theorem mulX_row {l : List Nat} (h1 : 1 ≤ l.length) (h2 : l.length ≤ 1000) : gMulX (rowW l) (.int 13) = some (.v (rowW (List.replicate 13 l).flatten)) := by
  show gMulS (rowW l) (.int 13) = _
  show (if (2 : Int) ≤ 13 ∧ (13 : Int) ≤ 1000 ∧ 1 ≤ (txt l).length ∧ (txt l).length ≤ 1000 then some (OV.v (.str (repS (13 : Int).toNat (txt l)))) else none) = _
  rw [txt_len, if_pos ⟨by omega, by omega, h1, h2⟩]
  have : repS (13 : Int).toNat (txt l) = txt (List.replicate 13 l).flatten := by
    have e := repS_cps (k := 13) (x := txt l)
    rw [txt_cps] at e
    show repS 13 (txt l) = _
    unfold txt at e ⊢
    rw [← e]
  rw [this]
  rfl
theorem mulX_tup {ws : List W} (h : ws.length ≤ 1000) : gMulX (.tup ws) (.int 13) = some (.v (.tup (List.replicate 13 ws).flatten)) := by
  have : gMul (.tup ws) (.int 13) = some (.v (.tup (List.replicate 13 ws).flatten)) := gMul_t ⟨by omega, by omega, by omega⟩
  unfold gMulX orG
  rw [this]
theorem rep13 {α : Type} {xs : List α} : (List.replicate 13 xs).flatten.length = 13 * xs.length := by
  rw [PyProof.Rows.lm_len_rep_flat]
theorem rep13_mem {α : Type} {xs : List α} {u : α} (h : u ∈ (List.replicate 13 xs).flatten) : u ∈ xs := by
  obtain ⟨l, ml, m⟩ := List.mem_flatten.1 h
  rw [List.eq_of_mem_replicate ml] at m
  exact m
def rpK (y z : Str) : W → Option W
  | .str x => some (.str (Txt.replace x y z))
  | _ => none
section
variable {Rw : List (List Nat)} {wd : Nat}
theorem el_rows (ok : RowsOk Rw wd) : ∀ u ∈ Rw.map rowW, El u := fun u m => by
  obtain ⟨l, ml, rfl⟩ := List.mem_map.1 m
  have := ok.len l ml
  have := ok.w2
  exact el_row (by omega)
theorem repl_ok (ok : RowsOk Rw wd) {y z : Str} (hz : z.length = 1) {E : Ev} (hE : ∃ h a b c d e, E = [.own h, .dat (rowsW Rw), a, b, c, d, e, .no]) :
    compL (.nm 7) fYes (fRepl y z (fV 7)) [7] (Rw.map rowW) [] E = .ok ((Rw.map rowW).filterMap (rpK y z)) E ∧ Thing (.tup ((Rw.map rowW).filterMap (rpK y z))) := by
  obtain ⟨h, a, b, c, d, e, hE⟩ := hE
  have w2 := ok.w2
  have r2 := ok.r2
  constructor
  · obtain ⟨e', hc, he⟩ := compL_pure (t := .nm 7) (c := fYes) (el := fRepl y z (fV 7)) (vs := [7])
      (P := fun env => env = E) (k := rpK y z) (ws := Rw.map rowW) (acc := []) (env := E) rfl (fun w m env p => by
        subst p
        obtain ⟨l, ml, rfl⟩ := List.mem_map.1 m
        have ll := ok.len l ml
        have g : gRepl y z (rowW l) = some (.v (.str (Txt.replace (txt l) y z))) := by
          show (if (txt l).length + ((txt l).length + 1) * z.length ≤ 16777216 then some (OV.v (.str (Txt.replace (txt l) y z))) else none) = _
          rw [txt_len, hz, if_pos (by omega)]
        refine ⟨_, ?_, rfl⟩
        rw [hE]
        show _ = some (some (W.str (Txt.replace (txt l) y z)), _)
        simp [compL1, wipeE, restE, g]) (by simp; omega)
    rw [he, List.nil_append] at hc
    exact hc
  · refine thing_tup (Nat.le_trans (List.length_filterMap_le ..) (by rw [List.length_map]; omega)) fun u m => ?_
    obtain ⟨w, mw, e⟩ := List.mem_filterMap.1 m
    obtain ⟨l, ml, rfl⟩ := List.mem_map.1 mw
    have ll := ok.len l ml
    have e : some (W.str (Txt.replace (txt l) y z)) = some u := e
    cases e
    have := TK.replace_len (txt l) y z
    rw [txt_len, hz] at this
    exact el_str (by omega)
end
end K01

set_option maxRecDepth 100000
set_option maxHeartbeats 4000000
namespace K01
open PySem BV
section
variable {Rw : List (List Nat)} {wd : Nat}
theorem thing_mid {ws us : List W} {a b c d : Option Int} (hw : ws.length ≤ 12) (he : ∀ u ∈ ws, El u) (hl : us.length ≤ 2) (hu : ∀ u ∈ us, El u) : Thing (.tup (cutL ws a b ++ us ++ cutL ws c d)) := by
  have h1 := cutL_len (xs := ws) (lo := a) (hi := b)
  have h2 := cutL_len (xs := ws) (lo := c) (hi := d)
  refine thing_tup (by rw [List.length_append, List.length_append]; omega) fun u m => ?_
  rcases List.mem_append.1 m with m | m
  · rcases List.mem_append.1 m with m | m
    · exact he u (cutL_mem m)
    · exact hu u m
  · exact he u (cutL_mem m)
theorem mid_add {ws us : List W} {a b c d : Option Int} (hw : ws.length ≤ 12) (hl : us.length ≤ 2) :
    gAdd (.tup (cutL ws a b)) (.tup us) = some (.v (.tup (cutL ws a b ++ us))) ∧ gAdd (.tup (cutL ws a b ++ us)) (.tup (cutL ws c d)) = some (.v (.tup (cutL ws a b ++ us ++ cutL ws c d))) := by
  have h1 := cutL_len (xs := ws) (lo := a) (hi := b)
  have h2 := cutL_len (xs := ws) (lo := c) (hi := d)
  exact ⟨gAdd_t (by omega), gAdd_t (by rw [List.length_append]; omega)⟩
theorem spoilt_ok (ok : RowsOk Rw wd) {h : W} (H : Hand h) : ∃ w h', d__law_spoilt [h, rowsW Rw] = .ok w [h'] ∧ Thing w ∧ Hand h' := by
  have r1 := ok.r1
  have r2 := ok.r2
  have w1 := ok.w1
  have w2 := ok.w2
  obtain ⟨t, h1, e1, t0, t1, H1⟩ := take_env H (m := 9) (by omega) (by omega)
  obtain ⟨a, h2, e2, a0, a1, H2⟩ := take_env H1 (m := (Rw.length : Int)) (by omega) (by omega)
  obtain ⟨a, rfl⟩ : ∃ n : Nat, a = n := ⟨a.toNat, by omega⟩
  obtain ⟨l, hl⟩ : ∃ l, Rw[a]? = some l := ⟨_, List.getElem?_eq_getElem (by omega)⟩
  have ra := rows_at hl
  have ll := ok.len l (List.mem_of_getElem? hl)
  have ln := len_row (l := l) (by omega)
  obtain ⟨p, h3, e3, p0, p1, H3⟩ := take_env H2 (m := (l.length : Int)) (by omega) (by omega)
  have he := el_rows ok
  have hn : (Rw.map rowW).length ≤ 12 := by rw [List.length_map]; exact r2
  have ae : argEnv [true, false] [h, rowsW Rw] ++ List.replicate (8 - [h, rowsW Rw].length) Sl.no = [.own h, .dat (rowsW Rw), .no, .no, .no, .no, .no, .no] := rfl
  have rp1 := repl_ok ok (y := "H") (z := ".") (by decide +kernel) (E := [.own h3, .dat (rowsW Rw), .dat (.int 5), .dat (.int (a : Int)), .dat (rowW l), .dat (.int p), .no, .no]) ⟨_, _, _, _, _, _, rfl⟩
  have rp2 := repl_ok ok (y := ".") (z := "H") (by decide +kernel) (E := [.own h3, .dat (rowsW Rw), .dat (.int 6), .dat (.int (a : Int)), .dat (rowW l), .dat (.int p), .no, .no]) ⟨_, _, _, _, _, _, rfl⟩
  have lw : ((Rw.map rowW).length : Int) = Rw.length := by rw [List.length_map]
  unfold rowsW at *
  have mx := mulX_tup (ws := Rw.map rowW) (by omega)
  have m3 := rep13 (xs := Rw.map rowW)
  have m4 : ∀ u ∈ (List.replicate 13 (Rw.map rowW)).flatten, El u := fun u m => he u (rep13_mem m)
  rw [← lw] at e2
  unfold d__law_spoilt b__law_spoilt
  rw [fdef_e, ae]
  generalize (Rw.map rowW) = ws at *
  generalize (List.replicate 13 ws).flatten = ws13 at *
  generalize ws.filterMap (rpK "H" ".") = L1 at *
  generalize ws.filterMap (rpK "." "H") = L2 at *
  have ht : t = 0 ∨ t = 1 ∨ (t ≠ 0 ∧ t ≠ 1 ∧ t < 5) ∨ t = 5 ∨ t = 6 ∨ t = 7 ∨ t = 8 := by omega
  rcases ht with rfl | rfl | ⟨n0, n1, n5⟩ | rfl | rfl | rfl | rfl
  · obtain ⟨w4, h4, e4, T4, _, H4⟩ := odd2 H3
    obtain ⟨q, h5, e5, q0, q1, H5⟩ := take_env H4 (m := 2) (by omega) (by omega)
    obtain ⟨w6, h6, e6, m6, H6⟩ := pick_ok H5 (ws := [w4, .lst ws, .tup [], .tup (cutL ws13 none (some (12 + q))), .str "H", .non]) (by simp) (by simp)
    refine ⟨w6, h6, by simp [c_take, c_pick, c_odd, e1, e2, e3, e4, e5, e6, ra, ln, mx], ?_, H6⟩
    simp only [List.mem_cons, List.not_mem_nil, or_false] at m6
    rcases m6 with rfl | rfl | rfl | rfl | rfl | rfl
    · exact T4
    · exact thing_of (by intro e; cases e) (fun ws e => W.noConfusion e)
    · exact thing_tup (by simp) (by simp)
    · exact thing_tup (by have := cutL_len (xs := ws13) (lo := none) (hi := some (12 + q)); omega) fun u m => m4 u (cutL_mem m)
    · exact thing_of (by intro e; cases e) (fun ws e => W.noConfusion e)
    · exact thing_of (by intro e; cases e) (fun ws e => W.noConfusion e)
  · obtain ⟨w4, h4, e4, _, T4, H4⟩ := odd2 H3
    have ad : gAdd (rowW l) (.str ".") = some (.v (rowW (l ++ [46]))) := add_rows (m := [46]) (by simp; omega)
    have c1 := cut_row (l := l) (lo := some 1) (hi := none) (by omega)
    have mr := mulX_row (l := l) (by omega) (by omega)
    have m5 := rep13 (xs := l)
    obtain ⟨q, h5, e5, q0, q1, H5⟩ := take_env H4 (m := 2) (by omega) (by omega)
    generalize (List.replicate 13 l).flatten = l13 at mr m5
    have c2 := cut_row (l := l13) (lo := none) (hi := some (12 + q)) (by omega)
    obtain ⟨w6, h6, e6, m6, H6⟩ := pick_ok H5 (ws := [w4, .str "", rowW (l ++ [46]), rowW (cutL l (some 1) none), rowW (cutL l13 none (some (12 + q)))]) (by simp) (by simp)
    obtain ⟨g1, g2⟩ := mid_add (ws := ws) (us := [w6]) (a := none) (b := some (a : Int)) (c := some ((a : Int) + 1)) (d := none) hn (by simp)
    refine ⟨.tup (cutL ws none (some (a : Int)) ++ [w6] ++ cutL ws (some ((a : Int) + 1)) none), h6, by simp [c_take, c_pick, c_odd, e1, e2, e3, e4, e5, e6, ra, ln, ad, c1, mr, c2, g1, g2, -List.append_assoc], thing_mid hn he (by simp) fun u m => ?_, H6⟩
    rw [List.mem_singleton.1 m]
    simp only [List.mem_cons, List.not_mem_nil, or_false] at m6
    rcases m6 with rfl | rfl | rfl | rfl | rfl
    · exact T4
    · exact el_str (by decide +kernel)
    · exact el_row (by simp; omega)
    · exact el_row (by have := cutL_len (xs := l) (lo := some 1) (hi := none); omega)
    · exact el_row (by have := cutL_len (xs := l13) (lo := none) (hi := some (12 + q)); omega)
  · obtain ⟨w6, h6, e6, m6, H6⟩ := pick_ok H3 (ws := [.str "x", .str " ", .str "h", .str "s", .str "\n", .str ".", .str "H", .str "S", .str "#", .str "HH", .str ""]) (by simp) (by simp)
    obtain ⟨m, rfl, ml⟩ : ∃ m, w6 = rowW m ∧ m.length ≤ 2 := by
      simp only [List.mem_cons, List.not_mem_nil, or_false] at m6
      rcases m6 with rfl | rfl | rfl | rfl | rfl | rfl | rfl | rfl | rfl | rfl | rfl <;> exact ⟨_, str_row, by decide +kernel⟩
    clear m6
    have c1 := cut_row (l := l) (lo := none) (hi := some p) (by omega)
    have c2 := cut_row (l := l) (lo := some (p + 1)) (hi := none) (by omega)
    have k1 := cutL_len (xs := l) (lo := none) (hi := some p)
    have k2 := cutL_len (xs := l) (lo := some (p + 1)) (hi := none)
    generalize cutL l none (some p) = A at *
    generalize cutL l (some (p + 1)) none = B at *
    have a1 := add_rows (l := A) (m := m) (by omega)
    have a2 := add_rows (l := A ++ m) (m := B) (by rw [List.length_append]; omega)
    obtain ⟨g1, g2⟩ := mid_add (ws := ws) (us := [rowW (A ++ m ++ B)]) (a := none) (b := some (a : Int)) (c := some ((a : Int) + 1)) (d := none) hn (by simp)
    refine ⟨.tup (cutL ws none (some (a : Int)) ++ [rowW (A ++ m ++ B)] ++ cutL ws (some ((a : Int) + 1)) none), h6, by simp [c_take, c_pick, e1, e2, e3, e6, ra, ln, n0, n1, n5, c1, c2, a1, a2, g1, g2, -List.append_assoc], thing_mid hn he (by simp) fun u mu => ?_, H6⟩
    rw [List.mem_singleton.1 mu]
    exact el_row (by rw [List.length_append, List.length_append]; omega)
  · refine ⟨.tup L1, h3, by simp [c_take, e1, e2, e3, ra, ln, rp1.1], rp1.2, H3⟩
  · refine ⟨.tup L2, h3, by simp [c_take, e1, e2, e3, ra, ln, rp2.1], rp2.2, H3⟩
  · have ad : gAdd (rowW l) (.str "#") = some (.v (rowW (l ++ [35]))) := add_rows (m := [35]) (by simp; omega)
    obtain ⟨g1, g2⟩ := mid_add (ws := ws) (us := [rowW l, rowW (l ++ [35])]) (a := none) (b := some (a : Int)) (c := some (a : Int)) (d := none) hn (by simp)
    refine ⟨.tup (cutL ws none (some (a : Int)) ++ [rowW l, rowW (l ++ [35])] ++ cutL ws (some (a : Int)) none), h3, by simp [c_take, e1, e2, e3, ra, ln, ad, g1, g2, -List.append_assoc], thing_mid hn he (by simp) fun u mu => ?_, H3⟩
    simp only [List.mem_cons, List.not_mem_nil, or_false] at mu
    rcases mu with rfl | rfl
    · exact el_row (by omega)
    · exact el_row (by simp; omega)
  · refine ⟨.tup ws, h3, by simp [c_take, e1, e2, e3, ra, ln], thing_tup (by omega) he, H3⟩
end
end K01

set_option maxRecDepth 100000
set_option maxHeartbeats 4000000
namespace K01
open PySem BV
section
variable {Rw : List (List Nat)} {wd : Nat} {s R : W} {spl : List W} {N : List (List Nat)} {rs ss : List Nat}
def pre (s h R : W) (x : List Sl) : Ev := [.dat s, .own h, .dat R] ++ x
theorem body_ok (ok : RowsOk Rw wd) (hR : R = rowsW Rw) {spl1 : W} (ini : d_Floor__init [.ins 3 [], R] = .ok .non [floorW R spl1 N rs ss]) {h w : W} (t : Thing w) {s3 s4 s5 : Sl} :
    ∃ s4' s5', turn (.nm 3) b_law_8 w (pre s h R [s3, s4, s5, .no, .no, .no, .no, .no, .no, .no]) = .nx (pre s h R [.dat w, s4', s5', .no, .no, .no, .no, .no, .no, .no]) := by
  have e0 : turn (.nm 3) b_law_8 w (pre s h R [s3, s4, s5, .no, .no, .no, .no, .no, .no, .no]) = b_law_8 (pre s h R [.dat w, s4, s5, .no, .no, .no, .no, .no, .no, .no]) := rfl
  rw [e0]
  unfold b_law_8
  rcases thing_judged t with ⟨Qw, vd, rfl, qk, c1, c2, jd⟩ | ⟨pt, o, i1, jd, np, pc⟩
  · have i2 := init_ok qk c1 c2
    obtain ⟨z, ge⟩ := rows_eq qk ok
    have mk := made_yes i2 rfl
    have sm : dSame 5 [.tup [.str "told", rowsW Qw], .tup [.str "told", rowsW Qw]] = .ok (.bl true) [] := same_two (same_ss ok_told) (same_rows qk.sg)
    rw [← hR] at ge
    have q1 : ∀ {s1 s2 : W} {N1 N2 : List (List Nat)} {r1 r2 t1 t2 : List Nat}, d_Floor__eq [floorW (rowsW Qw) s1 N1 r1 t1, floorW R s2 N2 r2 t2] = .ok (.bl z) [] := eq_ok ge
    have q2 : ∀ {s1 : W} {N1 : List (List Nat)} {r1 t1 : List Nat}, d_Floor__eq [floorW (rowsW Qw) s1 N1 r1 t1, rowsW Qw] = .ok (.bl false) [] := eq_no
    have mt : mate 3 (rowsW Qw) = true := rfl
    have mt2 : mate 3 (floorW R spl1 N rs ss) = true := rfl
    refine ⟨.dat .non, .dat (.tup [.str "told", rowsW Qw]), ?_⟩
    generalize rowsW Qw = w at *
    generalize W.tup ((allSp 0 Qw).map pairW) = spq at *
    have fl : ∀ {x sp : W} {N : List (List Nat)} {rs ss : List Nat}, floorW x sp N rs ss = .ins 3 [("rows", x), ("spots", sp), ("ties", .tup (N.map fun l => .tup (iW l))), ("rests", .tup (iW rs)), ("stops", .tup (iW ss))] := rfl
    have nb : gNe (.bl z) (.bl z) = some (.v (.bl false)) := by cases z <;> rfl
    simp only [fl] at q1 q2 i2 ini mt2
    have a3 : b_law_3 (pre s h R [.dat w, s4, s5, .no, .no, .no, .no, .no, .no, .no]) = .nx (pre s h R [.dat w, .dat .non, s5, .no, .no, .no, .no, .no, .no, .no]) := by
      simp [pre, b_law_3, jd]
    have a4 : b_law_4 (pre s h R [.dat w, .dat .non, s5, .no, .no, .no, .no, .no, .no, .no]) = .nx (pre s h R [.dat w, .dat .non, .dat (.tup [.str "BadFloor", .non]), .no, .no, .no, .no, .no, .no, .no]) := by
      simp [pre, b_law_4]
    have a5 : (sIf (fTest (fOp gIs (fV 4) (fC .non))) b_law_5 sNext) (pre s h R [.dat w, .dat .non, .dat (.tup [.str "BadFloor", .non]), .no, .no, .no, .no, .no, .no, .no]) = .nx (pre s h R [.dat w, .dat .non, .dat (.tup [.str "told", w]), .no, .no, .no, .no, .no, .no, .no]) := by
      simp [pre, b_law_5, gIs, isNon]
    have a6 : b_law_6 (pre s h R [.dat w, .dat .non, .dat (.tup [.str "told", w]), .no, .no, .no, .no, .no, .no, .no]) = .nx (pre s h R [.dat w, .dat .non, .dat (.tup [.str "told", w]), .no, .no, .no, .no, .no, .no, .no]) := by
      simp [pre, b_law_6, mk, c_same, sm]
    have a7 : b_law_7 (pre s h R [.dat w, .dat .non, .dat (.tup [.str "told", w]), .no, .no, .no, .no, .no, .no, .no]) = .nx (pre s h R [.dat w, .dat .non, .dat (.tup [.str "told", w]), .no, .no, .no, .no, .no, .no, .no]) := by
      simp [pre, b_law_7, gIs, isNon, i2, ini, ge, q1, q2, mt, mt2, nb]
    rw [sSeq_e, a3, thn_nx, sSeq_e, a4, thn_nx, sSeq_e, a5, thn_nx, sSeq_e, a6, thn_nx, a7]
  · have mk := made_no i1
    have sm : dSame 5 [.tup [.str "BadFloor", pt], .tup [.str "BadFloor", pt]] = .ok (.bl true) [] := same_two (same_ss ok_BadFloor) (by
      rcases pc with ⟨i, rfl⟩ | rfl
      · exact same_ii
      · exact same_ss okt_homes)
    have gi : gIs pt .non = some (.v (.bl false)) := by
      rcases pc with ⟨i, rfl⟩ | rfl <;> rfl
    refine ⟨.dat pt, .dat (.tup [.str "BadFloor", pt]), ?_⟩
    simp [pre, b_law_3, b_law_4, b_law_6, b_law_7, jd, mk, c_same, sm, gi]
def pr2 (s h R : W) (spl : List W) (N : List (List Nat)) (rs ss : List Nat) (s3 s4 s5 s11 s12 : Sl) : Ev :=
  [.dat s, .own h, .dat R, s3, s4, s5, .dat (floorW R (.tup spl) N rs ss), .dat (.lst spl), .dat (nearW N), .dat (.lst (iW rs)), .dat (.lst (iW ss)), s11, s12]
def siP (s R : W) (spl : List W) (N : List (List Nat)) (rs ss : List Nat) (env : Ev) : Prop :=
  ∃ h s3 s4 s5 s11 s12, env = pr2 s h R spl N rs ss s3 s4 s5 s11 s12 ∧ Hand h
theorem six_ok (hl : spl.length = N.length) (n1 : 1 ≤ N.length) (n2 : N.length ≤ 200) {u : W} {env : Ev} (p : siP s R spl N rs ss env) :
    ∃ e, turn (.nm 11) b_law_17 u env = .nx e ∧ siP s R spl N rs ss e := by
  obtain ⟨h, s3, s4, s5, s11, s12, rfl, H⟩ := p
  obtain ⟨a, h1, e1, a0, a1, H1⟩ := take_env H (m := (spl.length : Int)) (by omega) (by omega)
  obtain ⟨b, h2, e2, b0, b1, H2⟩ := take_env H1 (m := (spl.length : Int)) (by omega) (by omega)
  obtain ⟨w3, h3, e3, T3, _, H3⟩ := odd2 H2
  obtain ⟨w, h4, e4, m4, H4⟩ := pick_ok H3 (ws := [.int a, .int b, .int (spl.length : Int), .int (-1), .bl true, w3]) (by simp) (by simp)
  have kn : Kn w := by
    simp only [List.mem_cons, List.not_mem_nil, or_false] at m4
    rcases m4 with rfl | rfl | rfl | rfl | rfl | rfl
    · exact kn_int
    · exact kn_int
    · exact kn_int
    · exact kn_int
    · intro e; cases e
    · exact T3.kn
  have e0 : turn (.nm 11) b_law_17 u (pr2 s h R spl N rs ss s3 s4 s5 s11 s12) = b_law_17 (pr2 s h R spl N rs ss s3 s4 s5 (.dat u) s12) := rfl
  have q13 : b_law_13 (pr2 s h R spl N rs ss s3 s4 s5 (.dat u) s12) = .nx (pr2 s h4 R spl N rs ss s3 s4 s5 (.dat u) (.dat w)) := by
    simp [pr2, b_law_13, c_take, c_pick, c_odd, e1, e2, e3, e4]
  have q5 : (sSet 5 (fTup (fCons (fC (.str "NoCell")) fNil))) (pr2 s h4 R spl N rs ss s3 s4 s5 (.dat u) (.dat w)) = .nx (pr2 s h4 R spl N rs ss s3 s4 (.dat (.tup [.str "NoCell"])) (.dat u) (.dat w)) := by
    simp [pr2]
  have lw := lwithin_ok kn (a := 0) (b := (spl.length : Int) - 1)
  rw [e0]
  unfold b_law_17
  rw [sSeq_e, q13, thn_nx, sSeq_e, q5, thn_nx, sSeq_e]
  by_cases c : inB 0 ((spl.length : Int) - 1) w = true
  · rw [c] at lw
    obtain ⟨i, rfl, i0, i1⟩ : ∃ i : Int, w = .int i ∧ 0 ≤ i ∧ i ≤ (spl.length : Int) - 1 := by
      cases w <;> simp [inB] at c
      exact ⟨_, rfl, by omega, by omega⟩
    obtain ⟨i, rfl⟩ : ∃ n : Nat, i = n := ⟨i.toNat, by omega⟩
    have na := near_at (N := N) (c := i) (by omega)
    have nt := near_yes (R := R) (spl := spl) (N := N) (rs := rs) (ss := ss) (c := i) hl (by omega)
    have sm : dSame 5 [.tup [.str "told", .tup (iW (nbN N i))], .tup [.str "told", .tup (iW (nbN N i))]] = .ok (.bl true) [] := same_two (same_ss ok_told) same_iW
    have q15 : b_law_15 (pr2 s h4 R spl N rs ss s3 s4 (.dat (.tup [.str "NoCell"])) (.dat u) (.dat (.int (i : Int)))) = .nx (pr2 s h4 R spl N rs ss s3 s4 (.dat (.tup [.str "told", .tup (iW (nbN N i))])) (.dat u) (.dat (.int (i : Int)))) := by
      simp [pr2, b_law_15, b_law_14, c_lwithin, lw, nearW, na]
    have q16 : b_law_16 (pr2 s h4 R spl N rs ss s3 s4 (.dat (.tup [.str "told", .tup (iW (nbN N i))])) (.dat u) (.dat (.int (i : Int)))) = .nx (pr2 s h4 R spl N rs ss s3 s4 (.dat (.tup [.str "told", .tup (iW (nbN N i))])) (.dat u) (.dat (.int (i : Int)))) := by
      simp [pr2, b_law_16, nt, c_same, sm]
    exact ⟨_, by rw [q15, thn_nx, q16], h4, _, _, _, _, _, rfl, H4⟩
  · rw [Bool.eq_false_iff.2 c] at lw
    have nt := near_no (R := R) (spl := spl) (N := N) (rs := rs) (ss := ss) kn (Bool.eq_false_iff.2 c)
    have sm : dSame 5 [.tup [.str "NoCell"], .tup [.str "NoCell"]] = .ok (.bl true) [] := same_n ok_NoCell
    have q15 : b_law_15 (pr2 s h4 R spl N rs ss s3 s4 (.dat (.tup [.str "NoCell"])) (.dat u) (.dat w)) = .nx (pr2 s h4 R spl N rs ss s3 s4 (.dat (.tup [.str "NoCell"])) (.dat u) (.dat w)) := by
      simp [pr2, b_law_15, c_lwithin, lw]
    have q16 : b_law_16 (pr2 s h4 R spl N rs ss s3 s4 (.dat (.tup [.str "NoCell"])) (.dat u) (.dat w)) = .nx (pr2 s h4 R spl N rs ss s3 s4 (.dat (.tup [.str "NoCell"])) (.dat u) (.dat w)) := by
      simp [pr2, b_law_16, nt, c_same, sm]
    exact ⟨_, by rw [q15, thn_nx, q16], h4, _, _, _, _, _, rfl, H4⟩
end
theorem law_true (ns : List Int) (h : ns.length ≤ 63) : d_law [.fz (ns.map W.int)] = .ok (.bl true) [] := by
  unfold d_law
  rw [fdef_e]
  obtain ⟨s, hs⟩ : ∃ s, W.fz (ns.map W.int) = s := ⟨_, rfl⟩
  have q1 : b_law_1 [.dat s, .no, .no, .no, .no, .no, .no, .no, .no, .no, .no, .no, .no] = .nx [.dat s, .own (.lst [.lst (ns.map W.int), .int 0, .int 0, .int 1, .int 0]), .no, .no, .no, .no, .no, .no, .no, .no, .no, .no, .no] := by
    rw [← hs]
    simp [b_law_1, d__law_hand, fdef_e, b__law_hand]
  have H := hand_new (ns := ns)
  generalize W.lst [.lst (ns.map W.int), .int 0, .int 0, .int 1, .int 0] = h0 at q1 H
  obtain ⟨m, h1, e1, mm, H1⟩ := pick_ok H (ws := [.int 2, .int 4, .int 7, .int 12]) (by simp) (by simp)
  obtain ⟨most, rfl, m1, m2⟩ : ∃ most : Int, m = .int most ∧ 1 ≤ most ∧ most ≤ 12 := by
    simp only [List.mem_cons, List.not_mem_nil, or_false] at mm
    rcases mm with rfl | rfl | rfl | rfl <;> exact ⟨_, rfl, by omega, by omega⟩
  obtain ⟨Rw, wd, h2, e2, ok, c1, c2, H2⟩ := rows_ok H1 m1 m2
  have q2 : b_law_2 [.dat s, .own h0, .no, .no, .no, .no, .no, .no, .no, .no, .no, .no, .no] = .nx [.dat s, .own h2, .dat (rowsW Rw), .no, .no, .no, .no, .no, .no, .no, .no, .no, .no] := by
    simp [b_law_2, c_pick, e1, e2]
  have ini := init_ok ok c1 c2
  have pl := plan_ok ok
  have sl := spots_len ok (ls := Rw) (fun l m => m) ok.r2
  obtain ⟨w1, h3, e3, T1, H3⟩ := spoilt_ok ok H2
  obtain ⟨w2, h4, e4, T2, H4⟩ := spoilt_ok ok H3
  obtain ⟨w3, h5, e5, T3, H5⟩ := spoilt_ok ok H4
  have T0 : Thing (rowsW Rw) := thing_tup (by have := ok.r2; rw [List.length_map]; omega) (el_rows ok)
  have hp := home_ok ok c1
  have sp := same_pairs (n := 2) (sp := allSp 0 Rw)
  have sr := same_rows (n := 3) ok.sg
  have hb := fun {spl1 : W} {N : List (List Nat)} {rs ss : List Nat} {i} {h} {w} t {s3} {s4} {s5} => body_ok (s := s) (R := rowsW Rw) (rs := rs) (ss := ss) (N := N) (spl1 := spl1) ok rfl i (h := h) (w := w) t (s3 := s3) (s4 := s4) (s5 := s5)
  have hb := fun {h : W} {w : W} (t : Thing w) {s3 s4 s5 : Sl} => hb (i := ini) (h := h) t (s3 := s3) (s4 := s4) (s5 := s5)
  have hl : ((allSp 0 Rw).map pairW).length = (nbs (allSp 0 Rw)).length := by rw [List.length_map, nbs_len]
  have n1 : 1 ≤ (nbs (allSp 0 Rw)).length := by rw [nbs_len]; exact List.length_pos_iff.2 hp
  have n2 : (nbs (allSp 0 Rw)).length ≤ 200 := by rw [nbs_len]; omega
  generalize (allSp 0 Rw).map pairW = spl at *
  generalize nbs (allSp 0 Rw) = N at *
  generalize offs Rw (allSp 0 Rw) 72 = rs at *
  generalize offs Rw (allSp 0 Rw) 83 = ss at *
  generalize rowsW Rw = R at *
  obtain ⟨e, l1, s3, s4, s5, rfl⟩ := forL_idx (t := .nm 3) (f := b_law_8) (ws := [R, w1, w2, w3])
    (P := fun _ env => ∃ s3 s4 s5, env = pre s h5 R [s3, s4, s5, .no, .no, .no, .no, .no, .no, .no]) (env := pre s h5 R [.no, .no, .no, .no, .no, .no, .no, .no, .no, .no]) ⟨_, _, _, rfl⟩ (fun i hi env p => by
      apply nx_of
      obtain ⟨s3, s4, s5, rfl⟩ := p
      have tw : ∀ w ∈ [R, w1, w2, w3], Thing w := by
        intro w m
        simp only [List.mem_cons, List.not_mem_nil, or_false] at m
        rcases m with rfl | rfl | rfl | rfl <;> assumption
      obtain ⟨s4', s5', q⟩ := hb (h := h5) (tw _ (List.getElem_mem hi)) (s3 := s3) (s4 := s4) (s5 := s5)
      exact ⟨_, q, _, _, _, rfl⟩)
  have q9 : b_law_9 [.dat s, .own h2, .dat R, .no, .no, .no, .no, .no, .no, .no, .no, .no, .no] = .nx (pre s h5 R [s3, s4, s5, .no, .no, .no, .no, .no, .no, .no]) := by
    unfold b_law_9
    unfold pre at *
    simp only [List.cons_append, List.nil_append] at l1
    simp [e3, e4, e5, l1]
  have q9b : (sSet 6 (fNew 3 1 d_Floor__init (fCons (fE (fV 2)) fNil))) (pre s h5 R [s3, s4, s5, .no, .no, .no, .no, .no, .no, .no]) = .nx (pre s h5 R [s3, s4, s5, .dat (floorW R (.tup spl) N rs ss), .no, .no, .no, .no, .no, .no]) := by
    simp [pre, ini]
  have q10 : b_law_10 (pre s h5 R [s3, s4, s5, .dat (floorW R (.tup spl) N rs ss), .no, .no, .no, .no, .no, .no]) = .nx (pr2 s h5 R spl N rs ss s3 s4 s5 .no .no) := by
    simp [pre, pr2, b_law_10, pl]
  have g1 : d_cells [floorW R (.tup spl) N rs ss] = .ok (.tup spl) [] := by
    unfold d_cells b_cells
    rw [fdef_e]
    simp [fld_spots]
  have g2 : d_homes [floorW R (.tup spl) N rs ss] = .ok (.tup (iW rs)) [] := by
    unfold d_homes b_homes
    rw [fdef_e]
    simp [fld_rests]
  have g3 : d_stations [floorW R (.tup spl) N rs ss] = .ok (.tup (iW ss)) [] := by
    unfold d_stations b_stations
    rw [fdef_e]
    simp [fld_stops]
  have si1 : dSame 5 [.tup (iW rs), .tup (iW rs)] = .ok (.bl true) [] := same_iW
  have si2 : dSame 5 [.tup (iW ss), .tup (iW ss)] = .ok (.bl true) [] := same_iW
  have q11 : b_law_11 (pr2 s h5 R spl N rs ss s3 s4 s5 .no .no) = .nx (pr2 s h5 R spl N rs ss s3 s4 s5 .no .no) := by
    simp [pr2, b_law_11, g1, g2, c_same, sp, si1]
  have q12 : b_law_12 (pr2 s h5 R spl N rs ss s3 s4 s5 .no .no) = .nx (pr2 s h5 R spl N rs ss s3 s4 s5 .no .no) := by
    simp [pr2, b_law_12, g3, c_same, si2]
  obtain ⟨e, l2, h6, a3, a4, a5, a11, a12, rfl, H6⟩ := forL_rng (t := .nm 11) (f := b_law_17) (lo := 0) (hi := 6)
    (P := fun _ => siP s R spl N rs ss) (env := pr2 s h5 R spl N rs ss s3 s4 s5 .no .no) ⟨h5, _, _, _, _, _, rfl, H5⟩ (fun r hr env p => nx_of (six_ok hl n1 n2 p))
  have sm6 : smallI 6 = true := rfl
  have q17 : (sFor (fRng1 (fC (.int 6))) (.nm 11) b_law_17) (pr2 s h5 R spl N rs ss s3 s4 s5 .no .no) = .nx (pr2 s h6 R spl N rs ss a3 a4 a5 a11 a12) := by
    simp [sm6, l2]
  have fr : gFld 3 "rows" (floorW R (.tup spl) N rs ss) = some (.v R) := rfl
  have q18 : b_law_18 (pr2 s h6 R spl N rs ss a3 a4 a5 a11 a12) = .rt (.bl true) (pr2 s h6 R spl N rs ss a3 a4 a5 a11 a12) := by
    simp [pr2, b_law_18, fr, c_same, sr]
  have ae : argEnv [false] [s] ++ List.replicate (13 - [s].length) Sl.no = [.dat s, .no, .no, .no, .no, .no, .no, .no, .no, .no, .no, .no, .no] := rfl
  unfold b_law
  rw [hs, ae, sSeq_e, q1, thn_nx, sSeq_e, q2, thn_nx, sSeq_e, q9, thn_nx, sSeq_e, q9b, thn_nx, sSeq_e, q10, thn_nx, sSeq_e, q11, thn_nx, sSeq_e, q12, thn_nx, sSeq_e, q17, thn_nx, q18]
  simp
end K01

set_option maxRecDepth 100000
set_option maxHeartbeats 4000000
namespace K01
open PySem PySem.Spec PyProof.Rows L2 BV
theorem all_mk {l : PySem.W.OpenLaw} {w : World} {K : PySem.W.Frag} {h : Heap} {mg : Str → Option Value} {fl : Addr} (X : K.In h) (G : h.Ns mainGlobals mg) (hfl : mg "law" = some (.ref fl))
    {f0 f1 f2 f3 f4 f5 f6 f7 f8 f9 f10 f11 f12 f13 f14 f15 f16 f17 f18 f19 f20 f21 f22 f23 f24 f25 f26 f27 f28 f29 f30 f31 f32 f33 C0 C1 C2 C3 : Addr} {od0 an0 od1 an1 od2 an2 od3 an3 od4 an4 od5 an5 od6 an6 od7 an7 od8 an8 od9 an9 od10 an10 od11 an11 od12 an12 od13 an13 od14 an14 od15 an15 od16 an16 od17 an17 od18 an18 od19 an19 od20 an20 od21 an21 od22 an22 od23 an23 od24 an24 od25 an25 od26 an26 od27 an27 od28 an28 od29 an29 od30 an30 od31 an31 od32 an32 od33 an33 : Option Addr} {sl0 sl1 sl2 sl3 sl4 sl5 sl6 sl7 sl8 sl9 sl10 sl11 sl12 sl13 sl14 sl15 sl16 sl17 sl18 sl19 sl20 sl21 sl22 sl23 sl24 sl25 sl26 sl27 sl28 sl29 sl30 sl31 sl32 sl33 : Array (Option Value)} {oc0 kV0 dc0 pm0 cd0 ct0 oc1 kV1 dc1 pm1 cd1 ct1 oc2 kV2 dc2 pm2 cd2 ct2 oc3 kV3 dc3 pm3 cd3 ct3 oc4 kV4 dc4 pm4 cd4 ct4 oc5 kV5 dc5 pm5 cd5 ct5 oc6 kV6 dc6 pm6 cd6 ct6 oc7 kV7 dc7 pm7 cd7 ct7 oc8 kV8 dc8 pm8 cd8 ct8 oc9 kV9 dc9 pm9 cd9 ct9 oc10 kV10 dc10 pm10 cd10 ct10 oc11 kV11 dc11 pm11 cd11 ct11 oc12 kV12 dc12 pm12 cd12 ct12 oc13 kV13 dc13 pm13 cd13 ct13 oc14 kV14 dc14 pm14 cd14 ct14 oc15 kV15 dc15 pm15 cd15 ct15 oc16 kV16 dc16 pm16 cd16 ct16 oc17 kV17 dc17 pm17 cd17 ct17 oc18 kV18 dc18 pm18 cd18 ct18 oc19 kV19 dc19 pm19 cd19 ct19 oc20 kV20 dc20 pm20 cd20 ct20 oc21 kV21 dc21 pm21 cd21 ct21 oc22 kV22 dc22 pm22 cd22 ct22 oc23 kV23 dc23 pm23 cd23 ct23 oc24 kV24 dc24 pm24 cd24 ct24 oc25 kV25 dc25 pm25 cd25 ct25 oc26 kV26 dc26 pm26 cd26 ct26 oc27 kV27 dc27 pm27 cd27 ct27 oc28 kV28 dc28 pm28 cd28 ct28 oc29 kV29 dc29 pm29 cd29 ct29 oc30 kV30 dc30 pm30 cd30 ct30 oc31 kV31 dc31 pm31 cd31 ct31 oc32 kV32 dc32 pm32 cd32 ct32 oc33 kV33 dc33 pm33 cd33 ct33 : Value} {t_FREE t_HOME t_MOST_HOMES t_MOST_ROWS t_STATION t_WALL : Tok} {nm1 q1 : Str} {N1 : Addr} {bs1 sub1 : List Value} {sn1 : List Str} {ab1 : Bool} {col1 : Option Bool} {dd1 : Option Addr} {m0_1 m1_1 m2_1 m3_1 m5_1 : Option Value}
    (a0 : PySem.W.nsIn K mainGlobals "is_integer" = some (some (.ref f0)))
    (l0 : K.lookup f0 = some ⟨oc0, od0, .func (PySem.W.fnOf "is_integer" "is_integer" (defArgs (topS 5)) (defBody (topS 5)) (defScope (topS 5)) .none kV0 dc0 pm0 an0 cd0 ct0), sl0⟩)
    (c0 : PySem.W.codeIn K cd0 "is_integer" = true)
    (k0 : PySem.W.keepIn K (.ref f0) = true)
    (a1 : PySem.W.nsIn K mainGlobals "is_within" = some (some (.ref f1)))
    (l1 : K.lookup f1 = some ⟨oc1, od1, .func (PySem.W.fnOf "is_within" "is_within" (defArgs (topS 6)) (defBody (topS 6)) (defScope (topS 6)) .none kV1 dc1 pm1 an1 cd1 ct1), sl1⟩)
    (c1 : PySem.W.codeIn K cd1 "is_within" = true)
    (k1 : PySem.W.keepIn K (.ref f1) = true)
    (a2 : PySem.W.nsIn K mainGlobals "is_below" = some (some (.ref f2)))
    (l2 : K.lookup f2 = some ⟨oc2, od2, .func (PySem.W.fnOf "is_below" "is_below" (defArgs (topS 7)) (defBody (topS 7)) (defScope (topS 7)) .none kV2 dc2 pm2 an2 cd2 ct2), sl2⟩)
    (c2 : PySem.W.codeIn K cd2 "is_below" = true)
    (k2 : PySem.W.keepIn K (.ref f2) = true)
    (a3 : PySem.W.nsIn K mainGlobals "is_sized" = some (some (.ref f3)))
    (l3 : K.lookup f3 = some ⟨oc3, od3, .func (PySem.W.fnOf "is_sized" "is_sized" (defArgs (topS 8)) (defBody (topS 8)) (defScope (topS 8)) .none kV3 dc3 pm3 an3 cd3 ct3), sl3⟩)
    (c3 : PySem.W.codeIn K cd3 "is_sized" = true)
    (k3 : PySem.W.keepIn K (.ref f3) = true)
    (a4 : PySem.W.nsIn K mainGlobals "is_row" = some (some (.ref f4)))
    (l4 : K.lookup f4 = some ⟨oc4, od4, .func (PySem.W.fnOf "is_row" "is_row" (defArgs (topS 16)) (defBody (topS 16)) (defScope (topS 16)) .none kV4 dc4 pm4 an4 cd4 ct4), sl4⟩)
    (c4 : PySem.W.codeIn K cd4 "is_row" = true)
    (k4 : PySem.W.keepIn K (.ref f4) = true)
    (a5 : PySem.W.nsIn K mainGlobals "all_spots" = some (some (.ref f5)))
    (l5 : K.lookup f5 = some ⟨oc5, od5, .func (PySem.W.fnOf "all_spots" "all_spots" (defArgs (topS 18)) (defBody (topS 18)) (defScope (topS 18)) .none kV5 dc5 pm5 an5 cd5 ct5), sl5⟩)
    (c5 : PySem.W.codeIn K cd5 "all_spots" = true)
    (k5 : PySem.W.keepIn K (.ref f5) = true)
    (a6 : PySem.W.nsIn K mainGlobals "all_ties" = some (some (.ref f6)))
    (l6 : K.lookup f6 = some ⟨oc6, od6, .func (PySem.W.fnOf "all_ties" "all_ties" (defArgs (topS 19)) (defBody (topS 19)) (defScope (topS 19)) .none kV6 dc6 pm6 an6 cd6 ct6), sl6⟩)
    (c6 : PySem.W.codeIn K cd6 "all_ties" = true)
    (k6 : PySem.W.keepIn K (.ref f6) = true)
    (a7 : PySem.W.nsIn K mainGlobals "spots_of" = some (some (.ref f7)))
    (l7 : K.lookup f7 = some ⟨oc7, od7, .func (PySem.W.fnOf "spots_of" "spots_of" (defArgs (topS 20)) (defBody (topS 20)) (defScope (topS 20)) .none kV7 dc7 pm7 an7 cd7 ct7), sl7⟩)
    (c7 : PySem.W.codeIn K cd7 "spots_of" = true)
    (k7 : PySem.W.keepIn K (.ref f7) = true)
    (a8 : PySem.W.nsIn K mainGlobals "cells" = some (some (.ref f8)))
    (l8 : K.lookup f8 = some ⟨oc8, od8, .func (PySem.W.fnOf "cells" "cells" (defArgs (topS 21)) (defBody (topS 21)) (defScope (topS 21)) .none kV8 dc8 pm8 an8 cd8 ct8), sl8⟩)
    (c8 : PySem.W.codeIn K cd8 "cells" = true)
    (k8 : PySem.W.keepIn K (.ref f8) = true)
    (a9 : PySem.W.nsIn K mainGlobals "is_cell" = some (some (.ref f9)))
    (l9 : K.lookup f9 = some ⟨oc9, od9, .func (PySem.W.fnOf "is_cell" "is_cell" (defArgs (topS 22)) (defBody (topS 22)) (defScope (topS 22)) .none kV9 dc9 pm9 an9 cd9 ct9), sl9⟩)
    (c9 : PySem.W.codeIn K cd9 "is_cell" = true)
    (k9 : PySem.W.keepIn K (.ref f9) = true)
    (a10 : PySem.W.nsIn K mainGlobals "neighbours" = some (some (.ref f10)))
    (l10 : K.lookup f10 = some ⟨oc10, od10, .func (PySem.W.fnOf "neighbours" "neighbours" (defArgs (topS 23)) (defBody (topS 23)) (defScope (topS 23)) .none kV10 dc10 pm10 an10 cd10 ct10), sl10⟩)
    (c10 : PySem.W.codeIn K cd10 "neighbours" = true)
    (k10 : PySem.W.keepIn K (.ref f10) = true)
    (a11 : PySem.W.nsIn K mainGlobals "homes" = some (some (.ref f11)))
    (l11 : K.lookup f11 = some ⟨oc11, od11, .func (PySem.W.fnOf "homes" "homes" (defArgs (topS 24)) (defBody (topS 24)) (defScope (topS 24)) .none kV11 dc11 pm11 an11 cd11 ct11), sl11⟩)
    (c11 : PySem.W.codeIn K cd11 "homes" = true)
    (k11 : PySem.W.keepIn K (.ref f11) = true)
    (a12 : PySem.W.nsIn K mainGlobals "stations" = some (some (.ref f12)))
    (l12 : K.lookup f12 = some ⟨oc12, od12, .func (PySem.W.fnOf "stations" "stations" (defArgs (topS 25)) (defBody (topS 25)) (defScope (topS 25)) .none kV12 dc12 pm12 an12 cd12 ct12), sl12⟩)
    (c12 : PySem.W.codeIn K cd12 "stations" = true)
    (k12 : PySem.W.keepIn K (.ref f12) = true)
    (a13 : PySem.W.nsIn K mainGlobals "_law_hand" = some (some (.ref f13)))
    (l13 : K.lookup f13 = some ⟨oc13, od13, .func (PySem.W.fnOf "_law_hand" "_law_hand" (defArgs (topS 27)) (defBody (topS 27)) (defScope (topS 27)) .none kV13 dc13 pm13 an13 cd13 ct13), sl13⟩)
    (c13 : PySem.W.codeIn K cd13 "_law_hand" = true)
    (k13 : PySem.W.keepIn K (.ref f13) = true)
    (a14 : PySem.W.nsIn K mainGlobals "_law_take" = some (some (.ref f14)))
    (l14 : K.lookup f14 = some ⟨oc14, od14, .func (PySem.W.fnOf "_law_take" "_law_take" (defArgs (topS 28)) (defBody (topS 28)) (defScope (topS 28)) .none kV14 dc14 pm14 an14 cd14 ct14), sl14⟩)
    (c14 : PySem.W.codeIn K cd14 "_law_take" = true)
    (k14 : PySem.W.keepIn K (.ref f14) = true)
    (a15 : PySem.W.nsIn K mainGlobals "_law_pick" = some (some (.ref f15)))
    (l15 : K.lookup f15 = some ⟨oc15, od15, .func (PySem.W.fnOf "_law_pick" "_law_pick" (defArgs (topS 29)) (defBody (topS 29)) (defScope (topS 29)) .none kV15 dc15 pm15 an15 cd15 ct15), sl15⟩)
    (c15 : PySem.W.codeIn K cd15 "_law_pick" = true)
    (k15 : PySem.W.keepIn K (.ref f15) = true)
    (a16 : PySem.W.nsIn K mainGlobals "_law_is_integer" = some (some (.ref f16)))
    (l16 : K.lookup f16 = some ⟨oc16, od16, .func (PySem.W.fnOf "_law_is_integer" "_law_is_integer" (defArgs (topS 30)) (defBody (topS 30)) (defScope (topS 30)) .none kV16 dc16 pm16 an16 cd16 ct16), sl16⟩)
    (c16 : PySem.W.codeIn K cd16 "_law_is_integer" = true)
    (k16 : PySem.W.keepIn K (.ref f16) = true)
    (a17 : PySem.W.nsIn K mainGlobals "_law_is_within" = some (some (.ref f17)))
    (l17 : K.lookup f17 = some ⟨oc17, od17, .func (PySem.W.fnOf "_law_is_within" "_law_is_within" (defArgs (topS 31)) (defBody (topS 31)) (defScope (topS 31)) .none kV17 dc17 pm17 an17 cd17 ct17), sl17⟩)
    (c17 : PySem.W.codeIn K cd17 "_law_is_within" = true)
    (k17 : PySem.W.keepIn K (.ref f17) = true)
    (a18 : PySem.W.nsIn K mainGlobals "_law_same" = some (some (.ref f18)))
    (l18 : K.lookup f18 = some ⟨oc18, od18, .func (PySem.W.fnOf "_law_same" "_law_same" (defArgs (topS 32)) (defBody (topS 32)) (defScope (topS 32)) .none kV18 dc18 pm18 an18 cd18 ct18), sl18⟩)
    (c18 : PySem.W.codeIn K cd18 "_law_same" = true)
    (k18 : PySem.W.keepIn K (.ref f18) = true)
    (a19 : PySem.W.nsIn K mainGlobals "_law_odd" = some (some (.ref f19)))
    (l19 : K.lookup f19 = some ⟨oc19, od19, .func (PySem.W.fnOf "_law_odd" "_law_odd" (defArgs (topS 33)) (defBody (topS 33)) (defScope (topS 33)) .none kV19 dc19 pm19 an19 cd19 ct19), sl19⟩)
    (c19 : PySem.W.codeIn K cd19 "_law_odd" = true)
    (k19 : PySem.W.keepIn K (.ref f19) = true)
    (a20 : PySem.W.nsIn K mainGlobals "_law_signs" = some (some (.ref f20)))
    (l20 : K.lookup f20 = some ⟨oc20, od20, .func (PySem.W.fnOf "_law_signs" "_law_signs" (defArgs (topS 34)) (defBody (topS 34)) (defScope (topS 34)) .none kV20 dc20 pm20 an20 cd20 ct20), sl20⟩)
    (c20 : PySem.W.codeIn K cd20 "_law_signs" = true)
    (k20 : PySem.W.keepIn K (.ref f20) = true)
    (a21 : PySem.W.nsIn K mainGlobals "_law_rows" = some (some (.ref f21)))
    (l21 : K.lookup f21 = some ⟨oc21, od21, .func (PySem.W.fnOf "_law_rows" "_law_rows" (defArgs (topS 35)) (defBody (topS 35)) (defScope (topS 35)) .none kV21 dc21 pm21 an21 cd21 ct21), sl21⟩)
    (c21 : PySem.W.codeIn K cd21 "_law_rows" = true)
    (k21 : PySem.W.keepIn K (.ref f21) = true)
    (a22 : PySem.W.nsIn K mainGlobals "_law_bad_rows" = some (some (.ref f22)))
    (l22 : K.lookup f22 = some ⟨oc22, od22, .func (PySem.W.fnOf "_law_bad_rows" "_law_bad_rows" (defArgs (topS 36)) (defBody (topS 36)) (defScope (topS 36)) .none kV22 dc22 pm22 an22 cd22 ct22), sl22⟩)
    (c22 : PySem.W.codeIn K cd22 "_law_bad_rows" = true)
    (k22 : PySem.W.keepIn K (.ref f22) = true)
    (a23 : PySem.W.nsIn K mainGlobals "_law_cells" = some (some (.ref f23)))
    (l23 : K.lookup f23 = some ⟨oc23, od23, .func (PySem.W.fnOf "_law_cells" "_law_cells" (defArgs (topS 37)) (defBody (topS 37)) (defScope (topS 37)) .none kV23 dc23 pm23 an23 cd23 ct23), sl23⟩)
    (c23 : PySem.W.codeIn K cd23 "_law_cells" = true)
    (k23 : PySem.W.keepIn K (.ref f23) = true)
    (a24 : PySem.W.nsIn K mainGlobals "_law_near" = some (some (.ref f24)))
    (l24 : K.lookup f24 = some ⟨oc24, od24, .func (PySem.W.fnOf "_law_near" "_law_near" (defArgs (topS 38)) (defBody (topS 38)) (defScope (topS 38)) .none kV24 dc24 pm24 an24 cd24 ct24), sl24⟩)
    (c24 : PySem.W.codeIn K cd24 "_law_near" = true)
    (k24 : PySem.W.keepIn K (.ref f24) = true)
    (a25 : PySem.W.nsIn K mainGlobals "_law_of_sign" = some (some (.ref f25)))
    (l25 : K.lookup f25 = some ⟨oc25, od25, .func (PySem.W.fnOf "_law_of_sign" "_law_of_sign" (defArgs (topS 39)) (defBody (topS 39)) (defScope (topS 39)) .none kV25 dc25 pm25 an25 cd25 ct25), sl25⟩)
    (c25 : PySem.W.codeIn K cd25 "_law_of_sign" = true)
    (k25 : PySem.W.keepIn K (.ref f25) = true)
    (a26 : PySem.W.nsIn K mainGlobals "_law_plan_of" = some (some (.ref f26)))
    (l26 : K.lookup f26 = some ⟨oc26, od26, .func (PySem.W.fnOf "_law_plan_of" "_law_plan_of" (defArgs (topS 40)) (defBody (topS 40)) (defScope (topS 40)) .none kV26 dc26 pm26 an26 cd26 ct26), sl26⟩)
    (c26 : PySem.W.codeIn K cd26 "_law_plan_of" = true)
    (k26 : PySem.W.keepIn K (.ref f26) = true)
    (a27 : PySem.W.nsIn K mainGlobals "_law_spoilt" = some (some (.ref f27)))
    (l27 : K.lookup f27 = some ⟨oc27, od27, .func (PySem.W.fnOf "_law_spoilt" "_law_spoilt" (defArgs (topS 41)) (defBody (topS 41)) (defScope (topS 41)) .none kV27 dc27 pm27 an27 cd27 ct27), sl27⟩)
    (c27 : PySem.W.codeIn K cd27 "_law_spoilt" = true)
    (k27 : PySem.W.keepIn K (.ref f27) = true)
    (a28 : PySem.W.nsIn K mainGlobals "_law_made" = some (some (.ref f28)))
    (l28 : K.lookup f28 = some ⟨oc28, od28, .func (PySem.W.fnOf "_law_made" "_law_made" (defArgs (topS 42)) (defBody (topS 42)) (defScope (topS 42)) .none kV28 dc28 pm28 an28 cd28 ct28), sl28⟩)
    (c28 : PySem.W.codeIn K cd28 "_law_made" = true)
    (k28 : PySem.W.keepIn K (.ref f28) = true)
    (a29 : PySem.W.nsIn K mainGlobals "_law_near_told" = some (some (.ref f29)))
    (l29 : K.lookup f29 = some ⟨oc29, od29, .func (PySem.W.fnOf "_law_near_told" "_law_near_told" (defArgs (topS 43)) (defBody (topS 43)) (defScope (topS 43)) .none kV29 dc29 pm29 an29 cd29 ct29), sl29⟩)
    (c29 : PySem.W.codeIn K cd29 "_law_near_told" = true)
    (k29 : PySem.W.keepIn K (.ref f29) = true)
    (a30 : PySem.W.nsIn K mainGlobals "law" = some (some (.ref f30)))
    (l30 : K.lookup f30 = some ⟨oc30, od30, .func (PySem.W.fnOf "law" "law" (defArgs (topS 44)) (defBody (topS 44)) (defScope (topS 44)) .none kV30 dc30 pm30 an30 cd30 ct30), sl30⟩)
    (c30 : PySem.W.codeIn K cd30 "law" = true)
    (k30 : PySem.W.keepIn K (.ref f30) = true)
    (z_abs : PySem.W.nsIn K mainGlobals "abs" = some none)
    (z_all : PySem.W.nsIn K mainGlobals "all" = some none)
    (z_bool : PySem.W.nsIn K mainGlobals "bool" = some none)
    (z_enumerate : PySem.W.nsIn K mainGlobals "enumerate" = some none)
    (z_int : PySem.W.nsIn K mainGlobals "int" = some none)
    (z_isinstance : PySem.W.nsIn K mainGlobals "isinstance" = some none)
    (z_len : PySem.W.nsIn K mainGlobals "len" = some none)
    (z_list : PySem.W.nsIn K mainGlobals "list" = some none)
    (z_range : PySem.W.nsIn K mainGlobals "range" = some none)
    (z_sorted : PySem.W.nsIn K mainGlobals "sorted" = some none)
    (z_str : PySem.W.nsIn K mainGlobals "str" = some none)
    (z_sum : PySem.W.nsIn K mainGlobals "sum" = some none)
    (z_tuple : PySem.W.nsIn K mainGlobals "tuple" = some none)
    (z_zip : PySem.W.nsIn K mainGlobals "zip" = some none)
    (v_FREE : PySem.W.nsIn K mainGlobals "FREE" = some (some (.str "." t_FREE)))
    (v_HOME : PySem.W.nsIn K mainGlobals "HOME" = some (some (.str "H" t_HOME)))
    (v_MOST_HOMES : PySem.W.nsIn K mainGlobals "MOST_HOMES" = some (some (.int 6 t_MOST_HOMES)))
    (v_MOST_ROWS : PySem.W.nsIn K mainGlobals "MOST_ROWS" = some (some (.int 12 t_MOST_ROWS)))
    (v_STATION : PySem.W.nsIn K mainGlobals "STATION" = some (some (.str "S" t_STATION)))
    (v_WALL : PySem.W.nsIn K mainGlobals "WALL" = some (some (.str "#" t_WALL)))
    (g_FloorError : PySem.W.nsIn K mainGlobals "FloorError" = some (some (.ref C0)))
    (e_FloorError : PySem.W.subIn K (.ref C0) (.type "BaseException") = some true)
    (t_FloorError : PySem.W.typeIn K (.ref C0) = some (.type "type"))
    (g_BadFloor : PySem.W.nsIn K mainGlobals "BadFloor" = some (some (.ref C1)))
    (e_BadFloor : PySem.W.subIn K (.ref C1) (.type "BaseException") = some true)
    (t_BadFloor : PySem.W.typeIn K (.ref C1) = some (.type "type"))
    (g_NoCell : PySem.W.nsIn K mainGlobals "NoCell" = some (some (.ref C2)))
    (e_NoCell : PySem.W.subIn K (.ref C2) (.type "BaseException") = some true)
    (t_NoCell : PySem.W.typeIn K (.ref C2) = some (.type "type"))
    (g_Floor : PySem.W.nsIn K mainGlobals "Floor" = some (some (.ref C3)))
    (pg_Floor : PySem.W.plainGet K C3 Str.empty = true)
    (hd_Floor : PySem.W.hasDictIn K C3 = true)
    (po_Floor : PySem.W.plainOver K C3 = true)
    (sa_Floor : PySem.W.findIn K (.ref C3) "__setattr__" = some (some (.builtin "object.__setattr__")))
    (no_Floor_rows : PySem.W.findIn K (.ref C3) "rows" = some none)
    (no_Floor_spots : PySem.W.findIn K (.ref C3) "spots" = some none)
    (no_Floor_ties : PySem.W.findIn K (.ref C3) "ties" = some none)
    (no_Floor_rests : PySem.W.findIn K (.ref C3) "rests" = some none)
    (no_Floor_stops : PySem.W.findIn K (.ref C3) "stops" = some none)
    (mm_Floor : PySem.W.makesIn K C3 = true)
    (mi_Floor : PySem.W.findIn K (.ref C3) "__init__" = some (some (.ref f31)))
    (mf_Floor : PySem.W.isFn K (.ref f31) = true)
    (l31 : K.lookup f31 = some ⟨oc31, od31, .func (PySem.W.fnOf "__init__" "Floor.__init__" (defArgs (clsS (topS 17) 0)) (defBody (clsS (topS 17) 0)) (defScope (clsS (topS 17) 0)) .none kV31 dc31 pm31 an31 cd31 ct31), sl31⟩)
    (c31 : PySem.W.codeIn K cd31 "Floor.__init__" = true)
    (k31 : PySem.W.keepIn K (.ref f31) = true)
    (mk_Floor : PySem.W.keepIn K (.ref C3) = true)
    (qs_Floor : PySem.W.findIn K (.ref C3) "__eq__" = some (some (.ref f32)))
    (l32 : K.lookup f32 = some ⟨oc32, od32, .func (PySem.W.fnOf "__eq__" "Floor.__eq__" (defArgs (clsS (topS 17) 1)) (defBody (clsS (topS 17) 1)) (defScope (clsS (topS 17) 1)) .none kV32 dc32 pm32 an32 cd32 ct32), sl32⟩)
    (c32 : PySem.W.codeIn K cd32 "Floor.__eq__" = true)
    (k32 : PySem.W.keepIn K (.ref f32) = true)
    (qf_Floor : PySem.W.isFn K (.ref f32) = true)
    (qn_Floor : PySem.W.notFirst K C3 (.type "tuple") = true)
    (ia_Floor : PySem.W.findIn K (.ref C3) "__class__" = some (some (.builtin "object.__class__")))
    (in_Floor : PySem.W.specialIn K (.builtin "object.__class__") "__get__" = some (some (.builtin "getset_descriptor.__get__")))
    (it_Floor : PySem.W.takesIn K (.builtin "object.__class__") = some true)
    (im_Floor : PySem.W.mroIn K C3 (.type "object") = some true)
    (ic_Floor : PySem.W.isClsIn K C3 = true)
    (iy_Floor : PySem.W.typeIn K (.ref C3) = some (.type "type"))
    (iu_Floor : PySem.W.subIn K (.type "tuple") (.ref C3) = some false)
    (L_BadFloor : K.lookup C1 = some (excClassObj nm1 q1 C1 N1 bs1 [.ref C0, .type "ValueError", .type "Exception", .type "BaseException", .type "object"] true sn1 sub1 ab1 col1 dd1 m0_1 m1_1 m2_1 m3_1 m5_1 "ValueError.__new__"))
    (sa_BadFloor : PySem.W.findIn K (.ref C1) "__setattr__" = some (some (.builtin "object.__setattr__")))
    (ga_BadFloor : PySem.W.findIn K (.ref C1) "__getattribute__" = some (some (.builtin "BaseException.__getattribute__")))
    (gg_BadFloor : PySem.W.findIn K (.ref C1) "__getattr__" = some none)
    (no_BadFloor_part : PySem.W.findIn K (.ref C1) "part" = some none)
    (iC_BadFloor : PySem.W.findIn K (.ref C1) "__init__" = some (some (.ref f33)))
    (tI_BadFloor : PySem.W.typeIn K (.ref f33) = some (.type "function"))
    (l33 : K.lookup f33 = some ⟨oc33, od33, .func (PySem.W.fnOf "__init__" "BadFloor.__init__" (defArgs (clsS (topS 2) 0)) (defBody (clsS (topS 2) 0)) (defScope (clsS (topS 2) 0)) .none kV33 dc33 pm33 an33 cd33 ct33), sl33⟩)
    (c33 : PySem.W.codeIn K cd33 "BadFloor.__init__" = true)
    (k33 : PySem.W.keepIn K (.ref f33) = true)
    (kk_BadFloor : PySem.W.keepIn K (.ref C1) = true)
    (hd_BadFloor : PySem.W.hasDictIn K C1 = true)
    (x_NoCell : PySem.W.excIn K C2 PySem.HandSPX.veTail "ValueError.__new__" = true)
    (kk_NoCell : PySem.W.keepIn K (.ref C2) = true)
    (i_BadFloor : PySem.W.isClsIn K C1 = true)
    (s_BadFloor_BadFloor : PySem.W.subIn K (.ref C1) (.ref C1) = some true)
    (s_NoCell_BadFloor : PySem.W.subIn K (.ref C2) (.ref C1) = some false)
    (i_NoCell : PySem.W.isClsIn K C2 = true)
    (s_BadFloor_NoCell : PySem.W.subIn K (.ref C1) (.ref C2) = some false)
    (s_NoCell_NoCell : PySem.W.subIn K (.ref C2) (.ref C2) = some true)
    : ∃ fd : FuncData, (∀ (s : Shared) (v : Value), BindsTo s fd ⟨[v], []⟩ [("script", v)]) ∧ ∀ base : Heap, K.In base → base.Ns mainGlobals mg → FnOkG l.prog w K mg base (L2.CX l.prog w) 7 fl fd ["script"] (spLaw K 63) := by
  have e := hfl.symm.trans (PySem.W.mg_of X G a30)
  cases e
  have F0 := fun_mk (st := (topS 5)) l0 c0 k0
  have b0 := F0.binds (ps := ["thing"]) fun _ _ _ _ _ _ us hl => match us, hl with | [_], _ => rfl
  have F1 := fun_mk (st := (topS 6)) l1 c1 k1
  have b1 := F1.binds (ps := ["thing", "least", "most"]) fun _ _ _ _ _ _ us hl => match us, hl with | [_, _, _], _ => rfl
  have F2 := fun_mk (st := (topS 7)) l2 c2 k2
  have b2 := F2.binds (ps := ["thing", "many"]) fun _ _ _ _ _ _ us hl => match us, hl with | [_, _], _ => rfl
  have F3 := fun_mk (st := (topS 8)) l3 c3 k3
  have b3 := F3.binds (ps := ["thing", "least", "most"]) fun _ _ _ _ _ _ us hl => match us, hl with | [_, _, _], _ => rfl
  have F4 := fun_mk (st := (topS 16)) l4 c4 k4
  have b4 := F4.binds (ps := ["thing"]) fun _ _ _ _ _ _ us hl => match us, hl with | [_], _ => rfl
  have F5 := fun_mk (st := (topS 18)) l5 c5 k5
  have b5 := F5.binds (ps := ["rows"]) fun _ _ _ _ _ _ us hl => match us, hl with | [_], _ => rfl
  have F6 := fun_mk (st := (topS 19)) l6 c6 k6
  have b6 := F6.binds (ps := ["spots"]) fun _ _ _ _ _ _ us hl => match us, hl with | [_], _ => rfl
  have F7 := fun_mk (st := (topS 20)) l7 c7 k7
  have b7 := F7.binds (ps := ["rows", "spots", "sign"]) fun _ _ _ _ _ _ us hl => match us, hl with | [_, _, _], _ => rfl
  have F8 := fun_mk (st := (topS 21)) l8 c8 k8
  have b8 := F8.binds (ps := ["floor"]) fun _ _ _ _ _ _ us hl => match us, hl with | [_], _ => rfl
  have F9 := fun_mk (st := (topS 22)) l9 c9 k9
  have b9 := F9.binds (ps := ["floor", "thing"]) fun _ _ _ _ _ _ us hl => match us, hl with | [_, _], _ => rfl
  have F10 := fun_mk (st := (topS 23)) l10 c10 k10
  have b10 := F10.binds (ps := ["floor", "cell"]) fun _ _ _ _ _ _ us hl => match us, hl with | [_, _], _ => rfl
  have F11 := fun_mk (st := (topS 24)) l11 c11 k11
  have b11 := F11.binds (ps := ["floor"]) fun _ _ _ _ _ _ us hl => match us, hl with | [_], _ => rfl
  have F12 := fun_mk (st := (topS 25)) l12 c12 k12
  have b12 := F12.binds (ps := ["floor"]) fun _ _ _ _ _ _ us hl => match us, hl with | [_], _ => rfl
  have F13 := fun_mk (st := (topS 27)) l13 c13 k13
  have b13 := F13.binds (ps := ["script"]) fun _ _ _ _ _ _ us hl => match us, hl with | [_], _ => rfl
  have F14 := fun_mk (st := (topS 28)) l14 c14 k14
  have b14 := F14.binds (ps := ["hand", "many"]) fun _ _ _ _ _ _ us hl => match us, hl with | [_, _], _ => rfl
  have F15 := fun_mk (st := (topS 29)) l15 c15 k15
  have b15 := F15.binds (ps := ["hand", "things"]) fun _ _ _ _ _ _ us hl => match us, hl with | [_, _], _ => rfl
  have F16 := fun_mk (st := (topS 30)) l16 c16 k16
  have b16 := F16.binds (ps := ["thing"]) fun _ _ _ _ _ _ us hl => match us, hl with | [_], _ => rfl
  have F17 := fun_mk (st := (topS 31)) l17 c17 k17
  have b17 := F17.binds (ps := ["thing", "least", "most"]) fun _ _ _ _ _ _ us hl => match us, hl with | [_, _, _], _ => rfl
  have F18 := fun_mk (st := (topS 32)) l18 c18 k18
  have b18 := F18.binds (ps := ["actual", "due"]) fun _ _ _ _ _ _ us hl => match us, hl with | [_, _], _ => rfl
  have F19 := fun_mk (st := (topS 33)) l19 c19 k19
  have b19 := F19.binds (ps := ["hand"]) fun _ _ _ _ _ _ us hl => match us, hl with | [_], _ => rfl
  have F20 := fun_mk (st := (topS 34)) l20 c20 k20
  have b20 := F20.binds (ps := ["hand"]) fun _ _ _ _ _ _ us hl => match us, hl with | [_], _ => rfl
  have F21 := fun_mk (st := (topS 35)) l21 c21 k21
  have b21 := F21.binds (ps := ["hand", "most"]) fun _ _ _ _ _ _ us hl => match us, hl with | [_, _], _ => rfl
  have F22 := fun_mk (st := (topS 36)) l22 c22 k22
  have b22 := F22.binds (ps := ["thing"]) fun _ _ _ _ _ _ us hl => match us, hl with | [_], _ => rfl
  have F23 := fun_mk (st := (topS 37)) l23 c23 k23
  have b23 := F23.binds (ps := ["rows"]) fun _ _ _ _ _ _ us hl => match us, hl with | [_], _ => rfl
  have F24 := fun_mk (st := (topS 38)) l24 c24 k24
  have b24 := F24.binds (ps := ["spots", "cell"]) fun _ _ _ _ _ _ us hl => match us, hl with | [_, _], _ => rfl
  have F25 := fun_mk (st := (topS 39)) l25 c25 k25
  have b25 := F25.binds (ps := ["rows", "spots", "sign"]) fun _ _ _ _ _ _ us hl => match us, hl with | [_, _, _], _ => rfl
  have F26 := fun_mk (st := (topS 40)) l26 c26 k26
  have b26 := F26.binds (ps := ["rows"]) fun _ _ _ _ _ _ us hl => match us, hl with | [_], _ => rfl
  have F27 := fun_mk (st := (topS 41)) l27 c27 k27
  have b27 := F27.binds (ps := ["hand", "rows"]) fun _ _ _ _ _ _ us hl => match us, hl with | [_, _], _ => rfl
  have F28 := fun_mk (st := (topS 42)) l28 c28 k28
  have b28 := F28.binds (ps := ["rows"]) fun _ _ _ _ _ _ us hl => match us, hl with | [_], _ => rfl
  have F29 := fun_mk (st := (topS 43)) l29 c29 k29
  have b29 := F29.binds (ps := ["floor", "cell"]) fun _ _ _ _ _ _ us hl => match us, hl with | [_, _], _ => rfl
  have F30 := fun_mk (st := (topS 44)) l30 c30 k30
  have b30 := F30.binds (ps := ["script"]) fun _ _ _ _ _ _ us hl => match us, hl with | [_], _ => rfl
  have F31 := fun_mk (st := (clsS (topS 17) 0)) l31 c31 k31
  have b31 := F31.binds (ps := ["self", "rows"]) fun _ _ _ _ _ _ us hl => match us, hl with | [_, _], _ => rfl
  have F32 := fun_mk (st := (clsS (topS 17) 1)) l32 c32 k32
  have b32 := F32.binds (ps := ["self", "other"]) fun _ _ _ _ _ _ us hl => match us, hl with | [_, _], _ => rfl
  have F33 := fun_mk (st := clsS (topS 2) 0) l33 c33 k33
  have b33 := F33.binds (ps := ["self", "part"]) fun _ _ _ _ _ _ us hl => match us, hl with | [_, _], _ => rfl
  have T : Txt K mg (fun i => [f0, f1, f2, f3, f4, f5, f6, f7, f8, f9, f10, f11, f12, f13, f14, f15, f16, f17, f18, f19, f20, f21, f22, f23, f24, f25, f26, f27, f28, f29, fl, f31, f32, f33].getD i f0) (fun i => [PySem.W.fnOf "is_integer" "is_integer" (defArgs (topS 5)) (defBody (topS 5)) (defScope (topS 5)) .none kV0 dc0 pm0 an0 cd0 ct0, PySem.W.fnOf "is_within" "is_within" (defArgs (topS 6)) (defBody (topS 6)) (defScope (topS 6)) .none kV1 dc1 pm1 an1 cd1 ct1, PySem.W.fnOf "is_below" "is_below" (defArgs (topS 7)) (defBody (topS 7)) (defScope (topS 7)) .none kV2 dc2 pm2 an2 cd2 ct2, PySem.W.fnOf "is_sized" "is_sized" (defArgs (topS 8)) (defBody (topS 8)) (defScope (topS 8)) .none kV3 dc3 pm3 an3 cd3 ct3, PySem.W.fnOf "is_row" "is_row" (defArgs (topS 16)) (defBody (topS 16)) (defScope (topS 16)) .none kV4 dc4 pm4 an4 cd4 ct4, PySem.W.fnOf "all_spots" "all_spots" (defArgs (topS 18)) (defBody (topS 18)) (defScope (topS 18)) .none kV5 dc5 pm5 an5 cd5 ct5, PySem.W.fnOf "all_ties" "all_ties" (defArgs (topS 19)) (defBody (topS 19)) (defScope (topS 19)) .none kV6 dc6 pm6 an6 cd6 ct6, PySem.W.fnOf "spots_of" "spots_of" (defArgs (topS 20)) (defBody (topS 20)) (defScope (topS 20)) .none kV7 dc7 pm7 an7 cd7 ct7, PySem.W.fnOf "cells" "cells" (defArgs (topS 21)) (defBody (topS 21)) (defScope (topS 21)) .none kV8 dc8 pm8 an8 cd8 ct8, PySem.W.fnOf "is_cell" "is_cell" (defArgs (topS 22)) (defBody (topS 22)) (defScope (topS 22)) .none kV9 dc9 pm9 an9 cd9 ct9, PySem.W.fnOf "neighbours" "neighbours" (defArgs (topS 23)) (defBody (topS 23)) (defScope (topS 23)) .none kV10 dc10 pm10 an10 cd10 ct10, PySem.W.fnOf "homes" "homes" (defArgs (topS 24)) (defBody (topS 24)) (defScope (topS 24)) .none kV11 dc11 pm11 an11 cd11 ct11, PySem.W.fnOf "stations" "stations" (defArgs (topS 25)) (defBody (topS 25)) (defScope (topS 25)) .none kV12 dc12 pm12 an12 cd12 ct12, PySem.W.fnOf "_law_hand" "_law_hand" (defArgs (topS 27)) (defBody (topS 27)) (defScope (topS 27)) .none kV13 dc13 pm13 an13 cd13 ct13, PySem.W.fnOf "_law_take" "_law_take" (defArgs (topS 28)) (defBody (topS 28)) (defScope (topS 28)) .none kV14 dc14 pm14 an14 cd14 ct14, PySem.W.fnOf "_law_pick" "_law_pick" (defArgs (topS 29)) (defBody (topS 29)) (defScope (topS 29)) .none kV15 dc15 pm15 an15 cd15 ct15, PySem.W.fnOf "_law_is_integer" "_law_is_integer" (defArgs (topS 30)) (defBody (topS 30)) (defScope (topS 30)) .none kV16 dc16 pm16 an16 cd16 ct16, PySem.W.fnOf "_law_is_within" "_law_is_within" (defArgs (topS 31)) (defBody (topS 31)) (defScope (topS 31)) .none kV17 dc17 pm17 an17 cd17 ct17, PySem.W.fnOf "_law_same" "_law_same" (defArgs (topS 32)) (defBody (topS 32)) (defScope (topS 32)) .none kV18 dc18 pm18 an18 cd18 ct18, PySem.W.fnOf "_law_odd" "_law_odd" (defArgs (topS 33)) (defBody (topS 33)) (defScope (topS 33)) .none kV19 dc19 pm19 an19 cd19 ct19, PySem.W.fnOf "_law_signs" "_law_signs" (defArgs (topS 34)) (defBody (topS 34)) (defScope (topS 34)) .none kV20 dc20 pm20 an20 cd20 ct20, PySem.W.fnOf "_law_rows" "_law_rows" (defArgs (topS 35)) (defBody (topS 35)) (defScope (topS 35)) .none kV21 dc21 pm21 an21 cd21 ct21, PySem.W.fnOf "_law_bad_rows" "_law_bad_rows" (defArgs (topS 36)) (defBody (topS 36)) (defScope (topS 36)) .none kV22 dc22 pm22 an22 cd22 ct22, PySem.W.fnOf "_law_cells" "_law_cells" (defArgs (topS 37)) (defBody (topS 37)) (defScope (topS 37)) .none kV23 dc23 pm23 an23 cd23 ct23, PySem.W.fnOf "_law_near" "_law_near" (defArgs (topS 38)) (defBody (topS 38)) (defScope (topS 38)) .none kV24 dc24 pm24 an24 cd24 ct24, PySem.W.fnOf "_law_of_sign" "_law_of_sign" (defArgs (topS 39)) (defBody (topS 39)) (defScope (topS 39)) .none kV25 dc25 pm25 an25 cd25 ct25, PySem.W.fnOf "_law_plan_of" "_law_plan_of" (defArgs (topS 40)) (defBody (topS 40)) (defScope (topS 40)) .none kV26 dc26 pm26 an26 cd26 ct26, PySem.W.fnOf "_law_spoilt" "_law_spoilt" (defArgs (topS 41)) (defBody (topS 41)) (defScope (topS 41)) .none kV27 dc27 pm27 an27 cd27 ct27, PySem.W.fnOf "_law_made" "_law_made" (defArgs (topS 42)) (defBody (topS 42)) (defScope (topS 42)) .none kV28 dc28 pm28 an28 cd28 ct28, PySem.W.fnOf "_law_near_told" "_law_near_told" (defArgs (topS 43)) (defBody (topS 43)) (defScope (topS 43)) .none kV29 dc29 pm29 an29 cd29 ct29, PySem.W.fnOf "law" "law" (defArgs (topS 44)) (defBody (topS 44)) (defScope (topS 44)) .none kV30 dc30 pm30 an30 cd30 ct30, PySem.W.fnOf "__init__" "Floor.__init__" (defArgs (clsS (topS 17) 0)) (defBody (clsS (topS 17) 0)) (defScope (clsS (topS 17) 0)) .none kV31 dc31 pm31 an31 cd31 ct31, PySem.W.fnOf "__eq__" "Floor.__eq__" (defArgs (clsS (topS 17) 1)) (defBody (clsS (topS 17) 1)) (defScope (clsS (topS 17) 1)) .none kV32 dc32 pm32 an32 cd32 ct32, PySem.W.fnOf "__init__" "BadFloor.__init__" (defArgs (clsS (topS 2) 0)) (defBody (clsS (topS 2) 0)) (defScope (clsS (topS 2) 0)) .none kV33 dc33 pm33 an33 cd33 ct33].getD i (PySem.W.fnOf "is_integer" "is_integer" (defArgs (topS 5)) (defBody (topS 5)) (defScope (topS 5)) .none kV0 dc0 pm0 an0 cd0 ct0)) (fun i => [C0, C1, C2, C3].getD i f0) := {
    F_is_integer := F0
    B_is_integer := b0
    G_is_integer := PySem.W.mg_of X G a0
    F_is_within := F1
    B_is_within := b1
    G_is_within := PySem.W.mg_of X G a1
    F_is_below := F2
    B_is_below := b2
    G_is_below := PySem.W.mg_of X G a2
    F_is_sized := F3
    B_is_sized := b3
    G_is_sized := PySem.W.mg_of X G a3
    F_is_row := F4
    B_is_row := b4
    G_is_row := PySem.W.mg_of X G a4
    F_all_spots := F5
    B_all_spots := b5
    G_all_spots := PySem.W.mg_of X G a5
    F_all_ties := F6
    B_all_ties := b6
    G_all_ties := PySem.W.mg_of X G a6
    F_spots_of := F7
    B_spots_of := b7
    G_spots_of := PySem.W.mg_of X G a7
    F_cells := F8
    B_cells := b8
    G_cells := PySem.W.mg_of X G a8
    F_is_cell := F9
    B_is_cell := b9
    G_is_cell := PySem.W.mg_of X G a9
    F_neighbours := F10
    B_neighbours := b10
    G_neighbours := PySem.W.mg_of X G a10
    F_homes := F11
    B_homes := b11
    G_homes := PySem.W.mg_of X G a11
    F_stations := F12
    B_stations := b12
    G_stations := PySem.W.mg_of X G a12
    F__law_hand := F13
    B__law_hand := b13
    G__law_hand := PySem.W.mg_of X G a13
    F__law_take := F14
    B__law_take := b14
    G__law_take := PySem.W.mg_of X G a14
    F__law_pick := F15
    B__law_pick := b15
    G__law_pick := PySem.W.mg_of X G a15
    F__law_is_integer := F16
    B__law_is_integer := b16
    G__law_is_integer := PySem.W.mg_of X G a16
    F__law_is_within := F17
    B__law_is_within := b17
    G__law_is_within := PySem.W.mg_of X G a17
    F__law_same := F18
    B__law_same := b18
    G__law_same := PySem.W.mg_of X G a18
    F__law_odd := F19
    B__law_odd := b19
    G__law_odd := PySem.W.mg_of X G a19
    F__law_signs := F20
    B__law_signs := b20
    G__law_signs := PySem.W.mg_of X G a20
    F__law_rows := F21
    B__law_rows := b21
    G__law_rows := PySem.W.mg_of X G a21
    F__law_bad_rows := F22
    B__law_bad_rows := b22
    G__law_bad_rows := PySem.W.mg_of X G a22
    F__law_cells := F23
    B__law_cells := b23
    G__law_cells := PySem.W.mg_of X G a23
    F__law_near := F24
    B__law_near := b24
    G__law_near := PySem.W.mg_of X G a24
    F__law_of_sign := F25
    B__law_of_sign := b25
    G__law_of_sign := PySem.W.mg_of X G a25
    F__law_plan_of := F26
    B__law_plan_of := b26
    G__law_plan_of := PySem.W.mg_of X G a26
    F__law_spoilt := F27
    B__law_spoilt := b27
    G__law_spoilt := PySem.W.mg_of X G a27
    F__law_made := F28
    B__law_made := b28
    G__law_made := PySem.W.mg_of X G a28
    F__law_near_told := F29
    B__law_near_told := b29
    G__law_near_told := PySem.W.mg_of X G a29
    F_law := F30
    B_law := b30
    G_law := PySem.W.mg_of X G a30
    F_Floor__init := F31
    B_Floor__init := b31
    F_Floor__eq := F32
    B_Floor__eq := b32
    g_Floor := PySem.W.mg_of X G g_Floor
    ic_Floor := ⟨⟨pg_Floor, hd_Floor, po_Floor, sa_Floor⟩, List.forall_mem_cons.2 ⟨no_Floor_rows, List.forall_mem_cons.2 ⟨no_Floor_spots, List.forall_mem_cons.2 ⟨no_Floor_ties, List.forall_mem_cons.2 ⟨no_Floor_rests, List.forall_mem_cons.2 ⟨no_Floor_stops, List.forall_mem_nil _⟩⟩⟩⟩⟩⟩
    mk_Floor := ⟨mm_Floor, mi_Floor, mf_Floor, mk_Floor⟩
    is_Floor := ⟨⟨pg_Floor, hd_Floor, po_Floor, sa_Floor⟩, ia_Floor, in_Floor, it_Floor, im_Floor, kit_no rfl ic_Floor iy_Floor iu_Floor⟩
    eq_Floor := ⟨qs_Floor, qf_Floor, qn_Floor⟩
    z_abs := PySem.W.mg_none_of X G z_abs
    z_all := PySem.W.mg_none_of X G z_all
    z_bool := PySem.W.mg_none_of X G z_bool
    z_enumerate := PySem.W.mg_none_of X G z_enumerate
    z_int := PySem.W.mg_none_of X G z_int
    z_isinstance := PySem.W.mg_none_of X G z_isinstance
    z_len := PySem.W.mg_none_of X G z_len
    z_list := PySem.W.mg_none_of X G z_list
    z_range := PySem.W.mg_none_of X G z_range
    z_sorted := PySem.W.mg_none_of X G z_sorted
    z_str := PySem.W.mg_none_of X G z_str
    z_sum := PySem.W.mg_none_of X G z_sum
    z_tuple := PySem.W.mg_none_of X G z_tuple
    z_zip := PySem.W.mg_none_of X G z_zip
    c_FREE := ⟨_, PySem.W.mg_of X G v_FREE⟩
    c_HOME := ⟨_, PySem.W.mg_of X G v_HOME⟩
    c_MOST_HOMES := ⟨_, PySem.W.mg_of X G v_MOST_HOMES⟩
    c_MOST_ROWS := ⟨_, PySem.W.mg_of X G v_MOST_ROWS⟩
    c_STATION := ⟨_, PySem.W.mg_of X G v_STATION⟩
    c_WALL := ⟨_, PySem.W.mg_of X G v_WALL⟩
    g_NoCell := PySem.W.mg_of X G g_NoCell
    x_NoCell := x_NoCell
    k_NoCell := kk_NoCell
    e_NoCell := e_NoCell
    t_NoCell := t_NoCell
    g_BadFloor := PySem.W.mg_of X G g_BadFloor
    FI_BadFloor := F33
    BI_BadFloor := b33
    ec_BadFloor := { T := { cls := ⟨nm1, q1, N1, bs1, _, sn1, sub1, ab1, col1, dd1, m0_1, m1_1, m2_1, m3_1, m5_1, L_BadFloor, by first | rfl | decide +kernel⟩, sa := sa_BadFloor, exC := e_BadFloor, tyC := t_BadFloor, kC := kk_BadFloor }, X := ⟨ga_BadFloor, gg_BadFloor, e_BadFloor, hd_BadFloor⟩, iC := iC_BadFloor, tI := tI_BadFloor, no := List.forall_mem_cons.2 ⟨no_BadFloor_part, List.forall_mem_nil _⟩ }
    s_BadFloor := ⟨fun n b hn => by
      unfold tst_BadFloor at hn
      split at hn
      · rename_i q; subst q; cases hn; exact exm_pair e_BadFloor i_BadFloor t_BadFloor s_BadFloor_BadFloor
      split at hn
      · rename_i q; subst q; cases hn; exact exm_pair e_BadFloor i_BadFloor t_BadFloor s_NoCell_BadFloor
      cases hn
      ⟩
    s_NoCell := ⟨fun n b hn => by
      unfold tst_NoCell at hn
      split at hn
      · rename_i q; subst q; cases hn; exact exm_pair e_NoCell i_NoCell t_NoCell s_BadFloor_NoCell
      split at hn
      · rename_i q; subst q; cases hn; exact exm_pair e_NoCell i_NoCell t_NoCell s_NoCell_NoCell
      cases hn
      ⟩
  }
  refine ⟨PySem.W.fnOf "law" "law" (defArgs (topS 44)) (defBody (topS 44)) (defScope (topS 44)) .none kV30 dc30 pm30 an30 cd30 ct30, fun s v => .of_eq rfl, fun base _ _ => FnOkG.imp (ok_law (P := l.prog) (w := w) (base := base) T) (law_imp law_true)⟩
end K01
open PySem PySem.W PyProof.Rows
set_option maxHeartbeats 0 in
theorem PySem.Challenge.cw_everybrought_k01_floors_judged_holds : PySem.Challenge.rw_everybrought_k01_floors_judged.Holds := by
  w_on; o_law; k_head; (case hw => w_witness2)
  k_fill
  refine BV.walk_ofG (l := PySem.Challenge.rw_everybrought_k01_floors_judged) (n := 63) (k := 7) (x := "script") (CX := fun w => L2.CX PySem.Challenge.rw_everybrought_k01_floors_judged.prog w) (sp := fun w => BV.spLaw _ 63) rfl (by decide) rfl ⟨⟨rfl, by decide, by decide⟩, rfl⟩ (fun w h Y => PySem.W.kIn_of Y) ?F (fun _ _ a ns hl _ hS => ⟨a, ns, rfl, hS, hl, fun _ => rfl⟩) (fun _ _ _ _ _ h => BV.cx_no h)
  case F =>
    intro w mg fa h KX G hmg
    refine' K01.all_mk KX G hmg ?a0 ?l0 ?c0 ?k0 ?a1 ?l1 ?c1 ?k1 ?a2 ?l2 ?c2 ?k2 ?a3 ?l3 ?c3 ?k3 ?a4 ?l4 ?c4 ?k4 ?a5 ?l5 ?c5 ?k5 ?a6 ?l6 ?c6 ?k6 ?a7 ?l7 ?c7 ?k7 ?a8 ?l8 ?c8 ?k8 ?a9 ?l9 ?c9 ?k9 ?a10 ?l10 ?c10 ?k10 ?a11 ?l11 ?c11 ?k11 ?a12 ?l12 ?c12 ?k12 ?a13 ?l13 ?c13 ?k13 ?a14 ?l14 ?c14 ?k14 ?a15 ?l15 ?c15 ?k15 ?a16 ?l16 ?c16 ?k16 ?a17 ?l17 ?c17 ?k17 ?a18 ?l18 ?c18 ?k18 ?a19 ?l19 ?c19 ?k19 ?a20 ?l20 ?c20 ?k20 ?a21 ?l21 ?c21 ?k21 ?a22 ?l22 ?c22 ?k22 ?a23 ?l23 ?c23 ?k23 ?a24 ?l24 ?c24 ?k24 ?a25 ?l25 ?c25 ?k25 ?a26 ?l26 ?c26 ?k26 ?a27 ?l27 ?c27 ?k27 ?a28 ?l28 ?c28 ?k28 ?a29 ?l29 ?c29 ?k29 ?a30 ?l30 ?c30 ?k30 ?z_abs ?z_all ?z_bool ?z_enumerate ?z_int ?z_isinstance ?z_len ?z_list ?z_range ?z_sorted ?z_str ?z_sum ?z_tuple ?z_zip ?v_FREE ?v_HOME ?v_MOST_HOMES ?v_MOST_ROWS ?v_STATION ?v_WALL ?g_FloorError ?e_FloorError ?t_FloorError ?g_BadFloor ?e_BadFloor ?t_BadFloor ?g_NoCell ?e_NoCell ?t_NoCell ?g_Floor ?pg_Floor ?hd_Floor ?po_Floor ?sa_Floor ?no_Floor_rows ?no_Floor_spots ?no_Floor_ties ?no_Floor_rests ?no_Floor_stops ?mm_Floor ?mi_Floor ?mf_Floor ?l31 ?c31 ?k31 ?mk_Floor ?qs_Floor ?l32 ?c32 ?k32 ?qf_Floor ?qn_Floor ?ia_Floor ?in_Floor ?it_Floor ?im_Floor ?ic_Floor ?iy_Floor ?iu_Floor ?L_BadFloor ?sa_BadFloor ?ga_BadFloor ?gg_BadFloor ?no_BadFloor_part ?iC_BadFloor ?tI_BadFloor ?l33 ?c33 ?k33 ?kk_BadFloor ?hd_BadFloor ?x_NoCell ?kk_NoCell ?i_BadFloor ?s_BadFloor_BadFloor ?s_NoCell_BadFloor ?i_NoCell ?s_BadFloor_NoCell ?s_NoCell_NoCell
    (case a0 => k_is); (case l0 => k_is); (case c0 => k_is); (case k0 => k_is); (case a1 => k_is); (case l1 => k_is); (case c1 => k_is); (case k1 => k_is); (case a2 => k_is); (case l2 => k_is); (case c2 => k_is); (case k2 => k_is); (case a3 => k_is); (case l3 => k_is); (case c3 => k_is); (case k3 => k_is); (case a4 => k_is); (case l4 => k_is); (case c4 => k_is); (case k4 => k_is); (case a5 => k_is); (case l5 => k_is); (case c5 => k_is); (case k5 => k_is); (case a6 => k_is); (case l6 => k_is); (case c6 => k_is); (case k6 => k_is); (case a7 => k_is); (case l7 => k_is); (case c7 => k_is); (case k7 => k_is); (case a8 => k_is); (case l8 => k_is); (case c8 => k_is); (case k8 => k_is); (case a9 => k_is); (case l9 => k_is); (case c9 => k_is); (case k9 => k_is); (case a10 => k_is); (case l10 => k_is); (case c10 => k_is); (case k10 => k_is); (case a11 => k_is); (case l11 => k_is); (case c11 => k_is); (case k11 => k_is); (case a12 => k_is); (case l12 => k_is); (case c12 => k_is); (case k12 => k_is); (case a13 => k_is); (case l13 => k_is); (case c13 => k_is); (case k13 => k_is); (case a14 => k_is); (case l14 => k_is); (case c14 => k_is); (case k14 => k_is); (case a15 => k_is); (case l15 => k_is); (case c15 => k_is); (case k15 => k_is); (case a16 => k_is); (case l16 => k_is); (case c16 => k_is); (case k16 => k_is); (case a17 => k_is); (case l17 => k_is); (case c17 => k_is); (case k17 => k_is); (case a18 => k_is); (case l18 => k_is); (case c18 => k_is); (case k18 => k_is); (case a19 => k_is); (case l19 => k_is); (case c19 => k_is); (case k19 => k_is); (case a20 => k_is); (case l20 => k_is); (case c20 => k_is); (case k20 => k_is); (case a21 => k_is); (case l21 => k_is); (case c21 => k_is); (case k21 => k_is); (case a22 => k_is); (case l22 => k_is); (case c22 => k_is); (case k22 => k_is); (case a23 => k_is); (case l23 => k_is); (case c23 => k_is); (case k23 => k_is); (case a24 => k_is); (case l24 => k_is); (case c24 => k_is); (case k24 => k_is); (case a25 => k_is); (case l25 => k_is); (case c25 => k_is); (case k25 => k_is); (case a26 => k_is); (case l26 => k_is); (case c26 => k_is); (case k26 => k_is); (case a27 => k_is); (case l27 => k_is); (case c27 => k_is); (case k27 => k_is); (case a28 => k_is); (case l28 => k_is); (case c28 => k_is); (case k28 => k_is); (case a29 => k_is); (case l29 => k_is); (case c29 => k_is); (case k29 => k_is); (case a30 => k_is); (case l30 => k_is); (case c30 => k_is); (case k30 => k_is); (case z_abs => k_is); (case z_all => k_is); (case z_bool => k_is); (case z_enumerate => k_is); (case z_int => k_is); (case z_isinstance => k_is); (case z_len => k_is); (case z_list => k_is); (case z_range => k_is); (case z_sorted => k_is); (case z_str => k_is); (case z_sum => k_is); (case z_tuple => k_is); (case z_zip => k_is); (case v_FREE => k_is); (case v_HOME => k_is); (case v_MOST_HOMES => k_is); (case v_MOST_ROWS => k_is); (case v_STATION => k_is); (case v_WALL => k_is); (case g_FloorError => k_is); (case e_FloorError => k_is); (case t_FloorError => k_is); (case g_BadFloor => k_is); (case e_BadFloor => k_is); (case t_BadFloor => k_is); (case g_NoCell => k_is); (case e_NoCell => k_is); (case t_NoCell => k_is); (case g_Floor => k_is); (case pg_Floor => k_is); (case hd_Floor => k_is); (case po_Floor => k_is); (case sa_Floor => k_is); (case no_Floor_rows => k_is); (case no_Floor_spots => k_is); (case no_Floor_ties => k_is); (case no_Floor_rests => k_is); (case no_Floor_stops => k_is); (case mm_Floor => k_is); (case mi_Floor => k_is); (case mf_Floor => k_is); (case l31 => k_is); (case c31 => k_is); (case k31 => k_is); (case mk_Floor => k_is); (case qs_Floor => k_is); (case l32 => k_is); (case c32 => k_is); (case k32 => k_is); (case qf_Floor => k_is); (case qn_Floor => k_is); (case ia_Floor => k_is); (case in_Floor => k_is); (case it_Floor => k_is); (case im_Floor => k_is); (case ic_Floor => k_is); (case iy_Floor => k_is); (case iu_Floor => k_is); (case L_BadFloor => k_is); (case sa_BadFloor => k_is); (case ga_BadFloor => k_is); (case gg_BadFloor => k_is); (case no_BadFloor_part => k_is); (case iC_BadFloor => k_is); (case tI_BadFloor => k_is); (case l33 => k_is); (case c33 => k_is); (case k33 => k_is); (case kk_BadFloor => k_is); (case hd_BadFloor => k_is); (case x_NoCell => first | k_exc | k_is); (case kk_NoCell => k_is); (case i_BadFloor => k_is); (case s_BadFloor_BadFloor => k_is); (case s_NoCell_BadFloor => k_is); (case i_NoCell => k_is); (case s_BadFloor_NoCell => k_is); (case s_NoCell_NoCell => k_is)
