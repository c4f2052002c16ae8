import PyProof.Rows.All
import Wide.All
import OpenK.AllK
import Wide.FinOn
import HandS.ForMost
import KE.Datum
import HandS.Walk
import HandS.TupAny
import HandS.Style
import HandS.More
import HandS.Conv
import HandS.Deep
import HandS.IsInst
import HandS.RaiseMore
import KE.KDictItemsList
import PyProof.WalksEnum
import PyProof.AttrMiss
import PyProof.StrBlock2
import PyProof.NeKinds
import HandS.Defaults
import KE.SortData
import HandS.TupSets
import HandS.SetFor
import PyProof.WalksMore
import PySem.Challenge.RW_endplaces_k44_whole_no_shorter_route
set_option Elab.async false
set_option linter.all false
set_option maxRecDepth 100000
set_option maxHeartbeats 4000000
/-! G: values as data, over the hand layer -/
namespace G
open PySem L2
abbrev D := PyData
/-- a slot: nothing known; data that stands still; an object of the def's own (p: handed in by the caller, to be changed) -/
inductive E where
  | un
  | fz (d : D)
  | ow (p : Bool) (d : D)
/-- a value: data that stands still; a new object; the own object of a slot -/
inductive R where
  | fz (d : D)
  | ow (d : D)
  | br (i : Nat)
abbrev Ev := List E
/-- the key of a dict as data -/
def keyD : Key → D
  | .inl i => .int i
  | .inr x => .str x
mutual
inductive Rep (K : PySem.W.Frag) (H : Hp) : V → D → Prop
  | non : Rep K H .non .none
  | bl (b : Bool) : Rep K H (.bl b) (.bool b)
  | int (i : Int) : Rep K H (.int i) (.int i)
  | str (x : Str) : Rep K H (.str x) (.str x)
  | lst {a : Addr} {xs : List V} {ds : List D} : SqL K H a xs → Reps K H xs ds → Rep K H (.ref a) (.list ds)
  | tup {a : Addr} {xs : List V} {ds : List D} : SqT K H a xs → Reps K H xs ds → Rep K H (.ref a) (.tuple ds)
  | dic {a : Addr} {kvs : List (Key × V)} {ds : List (D × D)} : H a = some (.dK kvs) → RepK K H kvs ds → Rep K H (.ref a) (.dict ds)
  | dit {a : Addr} {kvs : List (List Key × V)} {ds : List (D × D)} : H a = some (.dT kvs) → RepT K H kvs ds → Rep K H (.ref a) (.dict ds)
inductive Reps (K : PySem.W.Frag) (H : Hp) : List V → List D → Prop
  | nil : Reps K H [] []
  | cons {v : V} {vs : List V} {d : D} {ds : List D} : Rep K H v d → Reps K H vs ds → Reps K H (v :: vs) (d :: ds)
inductive RepK (K : PySem.W.Frag) (H : Hp) : List (Key × V) → List (D × D) → Prop
  | nil : RepK K H [] []
  | cons {k : Key} {v : V} {kvs : List (Key × V)} {d : D} {ds : List (D × D)} : Rep K H v d → RepK K H kvs ds → RepK K H ((k, v) :: kvs) ((keyD k, d) :: ds)
inductive RepT (K : PySem.W.Frag) (H : Hp) : List (List Key × V) → List (D × D) → Prop
  | nil : RepT K H [] []
  | cons {k : List Key} {v : V} {kvs : List (List Key × V)} {d : D} {ds : List (D × D)} : Rep K H v d → RepT K H kvs ds → RepT K H ((k, v) :: kvs) ((.tuple (k.map keyD), d) :: ds)
end
section
variable {K : PySem.W.Frag} {H H' : Hp}
theorem seqL {a : Addr} {xs : List V} (e : Same H H') (h : SqL K H a xs) : SqL K H' a xs := e.seq h
theorem seqT {a : Addr} {xs : List V} (e : Same H H') (h : SqT K H a xs) : SqT K H' a xs := by
  rcases h with (h | ⟨o, h⟩) | h
  · exact .inl (.inl (e _ _ h))
  · exact .inl (.inr ⟨o, e _ _ h⟩)
  · exact .inr h
mutual
theorem Rep.mono (e : Same H H') : ∀ {v : V} {d : D}, Rep K H v d → Rep K H' v d
  | _, _, .non => .non
  | _, _, .bl b => .bl b
  | _, _, .int b => .int b
  | _, _, .str b => .str b
  | _, _, .lst h r => .lst (seqL e h) (Reps.mono e r)
  | _, _, .tup h r => .tup (seqT e h) (Reps.mono e r)
  | _, _, .dic h r => .dic (e _ _ h) (RepK.mono e r)
  | _, _, .dit h r => .dit (e _ _ h) (RepT.mono e r)
theorem Reps.mono (e : Same H H') : ∀ {v : List V} {d : List D}, Reps K H v d → Reps K H' v d
  | _, _, .nil => .nil
  | _, _, .cons h r => .cons (Rep.mono e h) (Reps.mono e r)
theorem RepK.mono (e : Same H H') : ∀ {v : List (Key × V)} {d : List (D × D)}, RepK K H v d → RepK K H' v d
  | _, _, .nil => .nil
  | _, _, .cons h r => .cons (Rep.mono e h) (RepK.mono e r)
theorem RepT.mono (e : Same H H') : ∀ {v : List (List Key × V)} {d : List (D × D)}, RepT K H v d → RepT K H' v d
  | _, _, .nil => .nil
  | _, _, .cons h r => .cons (Rep.mono e h) (RepT.mono e r)
end
theorem Reps.len : ∀ {vs : List V} {ds : List D}, Reps K H vs ds → vs.length = ds.length
  | _, _, .nil => rfl
  | _, _, .cons _ r => congrArg (· + 1) r.len
theorem Reps.app : ∀ {vs ws : List V} {ds es : List D}, Reps K H vs ds → Reps K H ws es → Reps K H (vs ++ ws) (ds ++ es)
  | _, _, _, _, .nil, r => r
  | _, _, _, _, .cons h r, q => .cons h (r.app q)
theorem Reps.get : ∀ {vs : List V} {ds : List D} {i : Nat} {d : D}, Reps K H vs ds → ds[i]? = some d → ∃ v, vs[i]? = some v ∧ Rep K H v d
  | _, _, _, _, .nil, e => by simp at e
  | _, _, 0, _, .cons h _, e => by simp at e; subst e; exact ⟨_, rfl, h⟩
  | _, _, i + 1, d, .cons _ r, e => by
    obtain ⟨v, h1, h2⟩ := Reps.get (i := i) (d := d) r (by simpa using e)
    exact ⟨v, by simpa using h1, h2⟩
theorem Reps.get' : ∀ {vs : List V} {ds : List D} {i : Nat} {v : V}, Reps K H vs ds → vs[i]? = some v → ∃ d, ds[i]? = some d ∧ Rep K H v d
  | _, _, _, _, .nil, e => by simp at e
  | _, _, 0, _, .cons h _, e => by simp at e; subst e; exact ⟨_, rfl, h⟩
  | _, _, i + 1, d, .cons _ r, e => by
    obtain ⟨v, h1, h2⟩ := Reps.get' (i := i) (v := d) r (by simpa using e)
    exact ⟨v, by simpa using h1, h2⟩
theorem Reps.set : ∀ {vs : List V} {ds : List D} {v : V} {d : D} (i : Nat), Reps K H vs ds → Rep K H v d → Reps K H (vs.set i v) (ds.set i d)
  | _, _, _, _, _, .nil, _ => .nil
  | _, _, _, _, 0, .cons _ r, q => .cons q r
  | _, _, _, _, i + 1, .cons h r, q => .cons h (Reps.set i r q)
theorem Reps.take : ∀ {vs : List V} {ds : List D} (i : Nat), Reps K H vs ds → Reps K H (vs.take i) (ds.take i)
  | _, _, 0, _ => .nil
  | _, _, _ + 1, .nil => .nil
  | _, _, i + 1, .cons h r => .cons h (Reps.take i r)
theorem Reps.drop : ∀ {vs : List V} {ds : List D} (i : Nat), Reps K H vs ds → Reps K H (vs.drop i) (ds.drop i)
  | _, _, 0, r => r
  | _, _, _ + 1, .nil => .nil
  | _, _, i + 1, .cons _ r => Reps.drop i r
theorem Reps.eraseIdx : ∀ {vs : List V} {ds : List D} (i : Nat), Reps K H vs ds → Reps K H (vs.eraseIdx i) (ds.eraseIdx i)
  | _, _, _, .nil => .nil
  | _, _, 0, .cons _ r => r
  | _, _, i + 1, .cons h r => .cons h (Reps.eraseIdx i r)
theorem Reps.rev : ∀ {vs : List V} {ds : List D}, Reps K H vs ds → Reps K H vs.reverse ds.reverse
  | _, _, .nil => .nil
  | _, _, .cons h r => by
    rw [List.reverse_cons, List.reverse_cons]
    exact r.rev.app (.cons h .nil)
end
/-- the object that data lies in, at the top -/
def RepO (K : PySem.W.Frag) (H : Hp) : HO → D → Prop
  | .lst xs, .list ds => Reps K H xs ds
  | .dK kvs, .dict ds => RepK K H kvs ds
  | .dT kvs, .dict ds => RepT K H kvs ds
  | _, _ => False
theorem RepO.mono {K : PySem.W.Frag} {H H' : Hp} (e : Same H H') : ∀ {o : HO} {d : D}, RepO K H o d → RepO K H' o d := fun {o d} h => by
  cases o <;> cases d <;> first | exact h.elim | exact Reps.mono e h | exact RepK.mono e h | exact RepT.mono e h
theorem RepO.rep {K : PySem.W.Frag} {H : Hp} {a : Addr} : ∀ {o : HO} {d : D}, RepO K H o d → H a = some o → Rep K H (.ref a) d := fun {o d} h e => by
  cases o <;> cases d <;> first | exact h.elim | exact .lst (.of e) h | exact .dic e h | exact .dit e h

def Own (env : Ev) (σ : L2.St) (a : Addr) : Prop := ∃ (i : Nat) (p : Bool) (d : D), env[i]? = some (E.ow p d) ∧ σ[i]? = some (some (V.ref a))
def EOk (K : PySem.W.Frag) (Hz H : Hp) (v : Option V) : E → Prop
  | .un => True
  | .fz d => ∃ x, v = some x ∧ Rep K Hz x d
  | .ow _ d => ∃ a o, v = some (.ref a) ∧ H a = some o ∧ Hz a = none ∧ RepO K Hz o d
structure St2 (K : PySem.W.Frag) (env : Ev) (σ : L2.St) (Hz H : Hp) : Prop where
  len : env.length = σ.length
  sub : Same Hz H
  ent : ∀ (i : Nat) (e : E), env[i]? = some e → ∃ v, σ[i]? = some v ∧ EOk K Hz H v e
  dis : ∀ (i j : Nat) (p q : Bool) (d d' : D) (a : Addr), env[i]? = some (.ow p d) → env[j]? = some (.ow q d') → σ[i]? = some (some (.ref a)) → σ[j]? = some (some (.ref a)) → i = j
structure Go (env : Ev) (σ : L2.St) (Hz H : Hp) (env' : Ev) (σ' : L2.St) (Hz' H' : Hp) : Prop where
  ez : Same Hz Hz'
  nz : ∀ a, Hz' a ≠ none → Hz a ≠ none ∨ H a = none ∨ Own env σ a
  kp : ∀ a o, H a = some o → ¬ Own env σ a → H' a = some o
  dm : ∀ a, H a ≠ none → H' a ≠ none
  ow : ∀ a, Own env' σ' a → Own env σ a ∨ H a = none
  pin : ∀ (i : Nat) (d : D), env[i]? = some (.ow true d) → (∃ d', env'[i]? = some (.ow true d')) ∧ σ'[i]? = σ[i]?
  ln : σ'.length = σ.length
theorem ne_none {α : Type} {x : Option α} (h : x ≠ none) : ∃ y, x = some y := by
  cases x with
  | none => exact absurd rfl h
  | some y => exact ⟨y, rfl⟩
section
variable {K : PySem.W.Frag} {env env' env1 env2 : Ev} {σ σ' σ1 σ2 : L2.St} {Hz H Hz' H' Hz1 H1 Hz2 H2 : Hp}
theorem Go.refl : Go env σ Hz H env σ Hz H := ⟨.refl _, fun _ h => .inl h, fun _ _ h _ => h, fun _ h => h, fun _ h => .inl h, fun _ _ h => ⟨⟨_, h⟩, rfl⟩, rfl⟩
theorem Go.trans (a : Go env σ Hz H env1 σ1 Hz1 H1) (b : Go env1 σ1 Hz1 H1 env2 σ2 Hz2 H2) : Go env σ Hz H env2 σ2 Hz2 H2 := by
  have back : ∀ c, H1 c = none → H c = none := fun c h => by
    cases e : H c with
    | none => rfl
    | some o => exact absurd h (a.dm c (by rw [e]; exact fun z => nomatch z))
  refine ⟨a.ez.trans b.ez, fun c h => ?_, fun c o h n => ?_, fun c h => b.dm c (a.dm c h), fun c h => ?_, fun i d h => ?_, b.ln.trans a.ln⟩
  · rcases b.nz c h with h | h | h
    · exact a.nz c h
    · exact .inr (.inl (back c h))
    · rcases a.ow c h with h | h
      · exact .inr (.inr h)
      · exact .inr (.inl h)
  · refine b.kp c o (a.kp c o h n) fun z => ?_
    rcases a.ow c z with z | z
    · exact n z
    · rw [h] at z; cases z
  · rcases b.ow c h with h | h
    · exact a.ow c h
    · exact .inr (back c h)
  · obtain ⟨⟨d1, h1⟩, e1⟩ := a.pin i d h
    obtain ⟨h2, e2⟩ := b.pin i d1 h1
    exact ⟨h2, e2.trans e1⟩
end
/-- what is known of a value; H0: the heap ahead of the expression -/
def RepR (K : PySem.W.Frag) (env : Ev) (σ : L2.St) (H0 Hz H : Hp) (v : V) : R → Prop
  | .fz d => Rep K Hz v d
  | .ow d => ∃ p o, v = .ref p ∧ H0 p = none ∧ H p = some o ∧ Hz p = none ∧ ¬ Own env σ p ∧ RepO K Hz o d
  | .br i => σ[i]? = some (some v)
def R.get (env : Ev) : R → Option D
  | .fz d => some d
  | .ow d => some d
  | .br i => match env[i]? with
    | some (.ow _ d) => some d
    | some (.fz d) => some d
    | _ => none
section
variable {K : PySem.W.Frag} {env env' env1 env2 : Ev} {σ σ' σ1 σ2 : L2.St} {H0 Hz H Hz' H' Hz1 H1 Hz2 H2 : Hp} {v : V} {r : R} {d : D}
theorem RepR.go (h : RepR K env1 σ H0 Hz1 H1 v r) (g : Go env1 σ Hz1 H1 env2 σ Hz2 H2) : RepR K env2 σ H0 Hz2 H2 v r := by
  cases r with
  | fz d => exact Rep.mono g.ez h
  | br i => exact h
  | ow d =>
    obtain ⟨p, o, e, h0, h1, h2, h3, h4⟩ := h
    refine ⟨p, o, e, h0, g.kp p o h1 h3, ?_, fun z => ?_, h4.mono g.ez⟩
    · cases q : Hz2 p with
      | none => rfl
      | some u =>
        rcases g.nz p (by rw [q]; exact fun z => nomatch z) with z | z | z
        · exact absurd h2 z
        · rw [h1] at z; cases z
        · exact absurd z h3
    · rcases g.ow p z with z | z
      · exact h3 z
      · rw [h1] at z; cases z
/-- freshness reaches back -/
theorem RepR.back (h : RepR K env σ H1 Hz H v r) (dm : ∀ a, H0 a ≠ none → H1 a ≠ none) : RepR K env σ H0 Hz H v r := by
  cases r with
  | fz d => exact h
  | br i => exact h
  | ow d =>
    obtain ⟨p, o, e, h0, h1⟩ := h
    refine ⟨p, o, e, ?_, h1⟩
    cases q : H0 p with
    | none => rfl
    | some u => exact absurd h0 (dm p (by rw [q]; exact fun z => nomatch z))
/-- the value as data of the heap -/
theorem RepR.rep (s : St2 K env σ Hz H) (h : RepR K env σ H0 Hz H v r) (e : r.get env = some d) : Rep K H v d := by
  cases r with
  | fz d' => cases e; exact Rep.mono s.sub h
  | ow d' =>
    cases e
    obtain ⟨p, o, rfl, h0, h1, h2, h3, h4⟩ := h
    exact (h4.mono s.sub).rep h1
  | br i =>
    have h : σ[i]? = some (some v) := h
    revert e
    show (match env[i]? with | some (.ow _ d) => some d | some (.fz d) => some d | _ => none) = some d → _
    cases q : env[i]? with
    | none => exact fun z => nomatch z
    | some u =>
      obtain ⟨x, hx, ok⟩ := s.ent i u q
      rw [h] at hx
      cases hx
      cases u with
      | un => exact fun z => nomatch z
      | fz d' =>
        intro z; cases z
        obtain ⟨y, z, ok⟩ := ok
        cases z
        exact Rep.mono s.sub ok
      | ow p d' =>
        intro z; cases z
        obtain ⟨a, o, z, h1, h2, h3⟩ := ok
        cases z
        exact (h3.mono s.sub).rep h1
/-- .. as a list whose items stand still -/
theorem RepR.list {ds : List D} (s : St2 K env σ Hz H) (h : RepR K env σ H0 Hz H v r) (e : r.get env = some (.list ds)) : ∃ a xs, v = .ref a ∧ SqL K H a xs ∧ Reps K Hz xs ds := by
  have top : ∀ {a : Addr} {o : HO}, RepO K Hz o (.list ds) → H a = some o → ∃ b xs, V.ref a = .ref b ∧ SqL K H b xs ∧ Reps K Hz xs ds := fun {a o} h e => by
    cases o <;> first | exact h.elim | exact ⟨a, _, rfl, .of e, h⟩
  have frz : ∀ {v : V}, Rep K Hz v (.list ds) → ∃ b xs, v = .ref b ∧ SqL K H b xs ∧ Reps K Hz xs ds := fun {v} h => by
    cases h with
    | lst h1 h2 => exact ⟨_, _, rfl, seqL s.sub h1, h2⟩
  cases r with
  | fz d' => cases e; exact frz h
  | ow d' =>
    cases e
    obtain ⟨p, o, rfl, h0, h1, h2, h3, h4⟩ := h
    exact top h4 h1
  | br i =>
    have h : σ[i]? = some (some v) := h
    revert e
    show (match env[i]? with | some (.ow _ d) => some d | some (.fz d) => some d | _ => none) = some (.list ds) → _
    cases q : env[i]? with
    | none => exact fun z => nomatch z
    | some u =>
      obtain ⟨x, hx, ok⟩ := s.ent i u q
      rw [h] at hx
      cases hx
      cases u with
      | un => exact fun z => nomatch z
      | fz d' =>
        intro z; cases z
        obtain ⟨y, z, ok⟩ := ok
        cases z
        exact frz ok
      | ow p d' =>
        intro z; cases z
        obtain ⟨a, o, z, h1, h2, h3⟩ := ok
        cases z
        exact top h3 h1
theorem Own.lt (s : St2 K env σ Hz H) {a : Addr} (h : Own env σ a) : Hz a = none ∧ ∃ o, H a = some o := by
  obtain ⟨i, p, d, h1, h2⟩ := h
  obtain ⟨x, hx, b, o, z, h3, h4, _⟩ := s.ent i _ h1
  rw [h2] at hx; cases hx; cases z
  exact ⟨h4, o, h3⟩
/-- nothing of the own is changed: more may stand still -/
theorem St2.more (s : St2 K env σ Hz H) (e : Same Hz Hz') (k : ∀ a o, H a = some o → H' a = some o) (sub : Same Hz' H') (n : ∀ a, Own env σ a → Hz' a = none) : St2 K env σ Hz' H' := by
  refine ⟨s.len, sub, fun i u q => ?_, s.dis⟩
  obtain ⟨x, hx, ok⟩ := s.ent i u q
  refine ⟨x, hx, ?_⟩
  cases u with
  | un => trivial
  | fz d => obtain ⟨y, z, ok⟩ := ok; exact ⟨y, z, ok.mono e⟩
  | ow p d =>
    obtain ⟨a, o, z, h1, h2, h3⟩ := ok
    exact ⟨a, o, z, k _ _ h1, n a ⟨i, p, d, q, by rw [hx, z]⟩, h3.mono e⟩
end
end G

namespace G
open PySem L2
abbrev WE := Ev → (R → Ev → Prop) → Prop
abbrev WT := Ev → (Bool → Ev → Prop) → Prop
abbrev WA := Ev → (List R → Ev → Prop) → Prop
/-- a value that can be read as d: it stands still, or its top object is there and its parts stand still -/
def Top (K : PySem.W.Frag) (Hz H : Hp) (v : V) (d : D) : Prop := Rep K Hz v d ∨ ∃ p o, v = V.ref p ∧ H p = some o ∧ RepO K Hz o d
section
variable {K : PySem.W.Frag} {env env' env1 env2 : Ev} {σ σ' σ1 σ2 : L2.St} {H0 Hz H Hz' H' Hz1 H1 Hz2 H2 : Hp} {v : V} {r : R} {d : D}
theorem Top.rep (s : Same Hz H) (h : Top K Hz H v d) : Rep K H v d := by
  rcases h with h | ⟨p, o, rfl, h1, h2⟩
  · exact h.mono s
  · exact (h2.mono s).rep h1
theorem Top.list {ds : List D} (s : Same Hz H) (h : Top K Hz H v (.list ds)) : ∃ a xs, v = V.ref a ∧ SqL K H a xs ∧ Reps K Hz xs ds := by
  rcases h with h | ⟨p, o, rfl, h1, h2⟩
  · cases h with
    | lst h1 h2 => exact ⟨_, _, rfl, seqL s h1, h2⟩
  · cases o <;> first | exact h2.elim | exact ⟨p, _, rfl, .of h1, h2⟩
theorem Top.tuple {ds : List D} (s : Same Hz H) (h : Top K Hz H v (.tuple ds)) : ∃ a xs, v = V.ref a ∧ SqT K H a xs ∧ Reps K Hz xs ds := by
  rcases h with h | ⟨p, o, rfl, h1, h2⟩
  · cases h with
    | tup h1 h2 => exact ⟨_, _, rfl, seqT s h1, h2⟩
  · cases o <;> exact h2.elim
theorem Top.tupleZ {ds : List D} (h : Top K Hz H v (.tuple ds)) : ∃ a xs, v = V.ref a ∧ SqT K Hz a xs ∧ Reps K Hz xs ds := by
  rcases h with h | ⟨p, o, rfl, h1, h2⟩
  · cases h with
    | tup h1 h2 => exact ⟨_, _, rfl, h1, h2⟩
  · cases o <;> exact h2.elim
theorem Top.int {i : Int} (h : Top K Hz H v (.int i)) : v = V.int i := by
  rcases h with h | ⟨p, o, rfl, h1, h2⟩
  · cases h; rfl
  · cases o <;> exact h2.elim
theorem Top.str {i : Str} (h : Top K Hz H v (.str i)) : v = V.str i := by
  rcases h with h | ⟨p, o, rfl, h1, h2⟩
  · cases h; rfl
  · cases o <;> exact h2.elim
theorem Top.bool {i : Bool} (h : Top K Hz H v (.bool i)) : v = V.bl i := by
  rcases h with h | ⟨p, o, rfl, h1, h2⟩
  · cases h; rfl
  · cases o <;> exact h2.elim
theorem Top.none (h : Top K Hz H v .none) : v = V.non := by
  rcases h with h | ⟨p, o, rfl, h1, h2⟩
  · cases h; rfl
  · cases o <;> exact h2.elim
theorem RepR.top (s : St2 K env σ Hz H) (h : RepR K env σ H0 Hz H v r) (e : r.get env = some d) : Top K Hz H v d := by
  cases r with
  | fz d' => cases e; exact .inl h
  | ow d' =>
    cases e
    obtain ⟨p, o, rfl, h0, h1, h2, h3, h4⟩ := h
    exact .inr ⟨p, o, rfl, h1, h4⟩
  | br i =>
    have h : σ[i]? = some (some v) := h
    revert e
    show (match env[i]? with | some (.ow _ d) => some d | some (.fz d) => some d | _ => Option.none) = some d → _
    cases q : env[i]? with
    | none => exact fun z => nomatch z
    | some u =>
      obtain ⟨x, hx, ok⟩ := s.ent i u q
      rw [h] at hx
      cases hx
      cases u with
      | un => exact fun z => nomatch z
      | fz d' =>
        intro z; cases z
        obtain ⟨y, z, ok⟩ := ok
        cases z
        exact .inl ok
      | ow p d' =>
        intro z; cases z
        obtain ⟨a, o, z, h1, h2, h3⟩ := ok
        cases z
        exact .inr ⟨a, o, rfl, h1, h3⟩
/-! ### new objects -/
theorem same_new {p : Addr} {o : HO} (s : Same Hz H) (h : H p = Option.none) : Same Hz (upd H p o) := fun a u e => by
  rw [upd_ne (ne_of_none (s a u e) h)]
  exact s a u e
theorem z_none (s : Same Hz H) {p : Addr} (h : H p = Option.none) : Hz p = Option.none := by
  cases q : Hz p with
  | none => rfl
  | some u => rw [s p u q] at h; cases h
theorem same_both {p : Addr} {o : HO} (s : Same Hz H) (h : H p = Option.none) : Same (upd Hz p o) (upd H p o) := fun a u e => by
  by_cases q : a = p
  · subst q
    rw [upd_same] at e ⊢
    exact e
  · rw [upd_ne q] at e ⊢
    exact s a u e
theorem same_upd {p : Addr} {o : HO} (h : H p = Option.none) : Same H (upd H p o) := fun a u e => by
  rw [upd_ne (ne_of_none e h)]
  exact e
theorem own_ne (s : St2 K env σ Hz H) {p a : Addr} (h : H p = Option.none) (o : Own env σ a) : a ≠ p := by
  obtain ⟨_, u, e⟩ := Own.lt s o
  exact ne_of_none e h
theorem go_laid {p : Addr} {o : HO} (h : H p = Option.none) (e : Same Hz Hz') (n : ∀ a, Hz' a ≠ Option.none → Hz a ≠ Option.none ∨ a = p) : Go env σ Hz H env σ Hz' (upd H p o) := by
  refine ⟨e, fun a z => ?_, fun a u q _ => same_upd h a u q, fun a q z => ?_, fun a z => .inl z, fun i d q => ⟨⟨d, q⟩, rfl⟩, rfl⟩
  · rcases n a z with z | z
    · exact .inl z
    · exact .inr (.inl (z ▸ h))
  · by_cases c : a = p
    · exact q (c ▸ h)
    · rw [upd_ne c] at z; exact q z
/-- a new own object -/
theorem new_ow (s : St2 K env σ Hz H) {p : Addr} {o : HO} (h : H p = Option.none) (r : RepO K Hz o d) : St2 K env σ Hz (upd H p o) ∧ Go env σ Hz H env σ Hz (upd H p o) ∧ RepR K env σ H Hz (upd H p o) (.ref p) (.ow d) := by
  have z := z_none s.sub h
  exact ⟨s.more (.refl _) (same_upd h) (same_new s.sub h) fun a q => (Own.lt s q).1, go_laid h (.refl _) fun a q => .inl q, p, o, rfl, h, upd_same, z, fun q => own_ne s h q rfl, r⟩
/-- a new tuple -/
theorem new_tup (s : St2 K env σ Hz H) {p : Addr} {xs : List V} {ds : List D} (h : H p = Option.none) (r : Reps K Hz xs ds) : ∃ Hz', St2 K env σ Hz' (upd H p (.tup xs)) ∧ Go env σ Hz H env σ Hz' (upd H p (.tup xs)) ∧ RepR K env σ H Hz' (upd H p (.tup xs)) (.ref p) (.fz (.tuple ds)) := by
  have z := z_none s.sub h
  refine ⟨upd Hz p (.tup xs), s.more (same_upd z) (same_upd h) (same_both s.sub h) fun a q => ?_, go_laid h (same_upd z) fun a q => ?_, ?_⟩
  · rw [upd_ne (own_ne s h q)]; exact (Own.lt s q).1
  · by_cases c : a = p
    · exact .inr c
    · rw [upd_ne c] at q; exact .inl q
  · exact Rep.tup (.of upd_same) (r.mono (same_upd z))
/-- a new object is let stand still -/
theorem freeze (s : St2 K env1 σ1 Hz1 H1) (g : Go env σ Hz H env1 σ1 Hz1 H1) (h : RepR K env1 σ1 H Hz1 H1 v (.ow d)) :
    ∃ Hz', St2 K env1 σ1 Hz' H1 ∧ Go env σ Hz H env1 σ1 Hz' H1 ∧ Same Hz1 Hz' ∧ (∀ a, Hz' a ≠ Option.none → Hz1 a ≠ Option.none ∨ v = .ref a) ∧ Rep K Hz' v d := by
  obtain ⟨p, o, rfl, h0, h1, h2, h3, h4⟩ := h
  have e : Same Hz1 (upd Hz1 p o) := same_upd h2
  refine ⟨upd Hz1 p o, s.more e (fun _ _ q => q) (fun a u q => ?_) (fun a q => ?_), ⟨g.ez.trans e, fun a q => ?_, g.kp, g.dm, g.ow, g.pin, g.ln⟩, e, fun a q => ?_, (h4.mono e).rep upd_same⟩
  · by_cases c : a = p
    · subst c
      rw [upd_same] at q
      exact q ▸ h1
    · rw [upd_ne c] at q; exact s.sub a u q
  · have c : a ≠ p := fun c => h3 (c ▸ q)
    rw [upd_ne c]; exact (Own.lt s q).1
  · by_cases c : a = p
    · exact .inr (.inl (c ▸ h0))
    · rw [upd_ne c] at q; exact g.nz a q
  · by_cases c : a = p
    · exact .inr (c ▸ rfl)
    · rw [upd_ne c] at q; exact .inl q
end
/-- a value as one that stands still -/
def R.fzd : R → Option D
  | .fz d => some d
  | .ow d => some d
  | .br _ => Option.none
section
variable {K : PySem.W.Frag} {env env' env1 env2 : Ev} {σ σ' σ1 σ2 : L2.St} {H0 Hz H Hz' H' Hz1 H1 Hz2 H2 : Hp} {v : V} {r : R} {d : D}
theorem freezeR (s : St2 K env1 σ1 Hz1 H1) (g : Go env σ Hz H env1 σ1 Hz1 H1) (h : RepR K env1 σ1 H Hz1 H1 v r) (e : r.fzd = some d) :
    ∃ Hz', St2 K env1 σ1 Hz' H1 ∧ Go env σ Hz H env1 σ1 Hz' H1 ∧ Same Hz1 Hz' ∧ (∀ a, Hz' a ≠ Option.none → Hz1 a ≠ Option.none ∨ v = .ref a) ∧ Rep K Hz' v d := by
  cases r with
  | fz d' => cases e; exact ⟨Hz1, s, g, .refl _, fun a q => .inl q, h⟩
  | ow d' => cases e; exact freeze s g h
  | br i => cases e
end
/-! ### the judgements -/
def SE (K : PySem.W.Frag) (t : TE) (w : WE) : Prop := ∀ (env : Ev) (σ : L2.St) (Hz H : Hp) (P : R → Ev → Prop) (Q : VK), St2 K env σ Hz H → w env P →
  (∀ r env' v Hz' H', P r env' → St2 K env' σ Hz' H' → Go env σ Hz H env' σ Hz' H' → RepR K env' σ H Hz' H' v r → Q v H') → t σ H Q
def ST (K : PySem.W.Frag) (t : TT) (w : WT) : Prop := ∀ (env : Ev) (σ : L2.St) (Hz H : Hp) (P : Bool → Ev → Prop) (Q : Bool → Hp → Prop), St2 K env σ Hz H → w env P →
  (∀ b env' Hz' H', P b env' → St2 K env' σ Hz' H' → Go env σ Hz H env' σ Hz' H' → Q b H') → t σ H Q
/-- arguments that come to stand still -/
inductive RepRs (K : PySem.W.Frag) (env : Ev) (σ : L2.St) (H0 Hz H : Hp) : List V → List R → Prop
  | nil : RepRs K env σ H0 Hz H [] []
  | cons {v : V} {vs : List V} {r : R} {rs : List R} : RepR K env σ H0 Hz H v r → RepRs K env σ H0 Hz H vs rs → RepRs K env σ H0 Hz H (v :: vs) (r :: rs)
abbrev WA2 := Ev → (List D → Ev → Prop) → Prop
def SA (K : PySem.W.Frag) (t : TA) (w : WA2) : Prop := ∀ (env : Ev) (σ : L2.St) (Hz H : Hp) (P : List D → Ev → Prop) (Q : List V → Hp → Prop), St2 K env σ Hz H → w env P →
  (∀ ds env' vs Hz' H', P ds env' → St2 K env' σ Hz' H' → Go env σ Hz H env' σ Hz' H' → Reps K Hz' vs ds → Q vs H') → t σ H Q
structure GE (X : Cx) (e : Expr) (t : TE) (w : WE) : Prop where
  ex : PE X e t ∧ SE X.K t w
structure GT (X : Cx) (e : Expr) (t : TT) (w : WT) : Prop where
  ex : PT X e t ∧ ST X.K t w
/-- and, or: see PW -/
structure GW (X : Cx) (e : Expr) (t : TT) (w : WT) : Prop where
  ex : PW X e t ∧ ST X.K t w
structure GA (X : Cx) (es : List Expr) (t : TA) (w : WA2) : Prop where
  ex : PA X es t ∧ SA X.K t w
structure EndsD where
  nx : Ev → Prop
  rt : R → Ev → Prop
  bk : Ev → Prop := fun _ => False
  ct : Ev → Prop := fun _ => False
abbrev WS := EndsD → Ev → Prop
/-- owned, and not the caller's -/
def OwnU (env : Ev) (σ : L2.St) (a : Addr) : Prop := ∃ (i : Nat) (d : D), env[i]? = some (E.ow false d) ∧ σ[i]? = some (some (V.ref a))
/-- what is handed back -/
def RetR (K : PySem.W.Frag) (env0 : Ev) (σ0 : L2.St) (H0 : Hp) (env : Ev) (σ : L2.St) (Hz H : Hp) (v : V) : R → Prop
  | .fz d => Rep K Hz v d
  | .ow d => ∃ p o, v = V.ref p ∧ (H0 p = none ∨ OwnU env0 σ0 p) ∧ H p = some o ∧ Hz p = none ∧ ¬ Own env σ p ∧ RepO K Hz o d
  | .br _ => False
structure Cov (K : PySem.W.Frag) (env : Ev) (σ : L2.St) (Hz H : Hp) (P : EndsD) (Q : Ends) : Prop where
  nx : ∀ env' σ' Hz' H', P.nx env' → St2 K env' σ' Hz' H' → Go env σ Hz H env' σ' Hz' H' → Q.nx σ' H'
  bk : ∀ env' σ' Hz' H', P.bk env' → St2 K env' σ' Hz' H' → Go env σ Hz H env' σ' Hz' H' → Q.bk σ' H'
  ct : ∀ env' σ' Hz' H', P.ct env' → St2 K env' σ' Hz' H' → Go env σ Hz H env' σ' Hz' H' → Q.ct σ' H'
  rt : ∀ r env' σ' v Hz' H', P.rt r env' → St2 K env' σ' Hz' H' → Go env σ Hz H env' σ' Hz' H' → RetR K env σ H env' σ' Hz' H' v r → Q.rt v H'
def SS (K : PySem.W.Frag) (t : TS) (w : WS) : Prop := ∀ (env : Ev) (σ : L2.St) (Hz H : Hp) (P : EndsD) (Q : Ends), St2 K env σ Hz H → w P env → Cov K env σ Hz H P Q → t Q σ H
structure GS (X : Cx) (s : Stmt) (t : TS) (w : WS) : Prop where
  ex : PS X s t ∧ SS X.K t w
structure GB (X : Cx) (s : List Stmt) (t : TS) (w : WS) : Prop where
  ex : PSs X s t ∧ SS X.K t w
theorem RetR.back {K : PySem.W.Frag} {env env0 env1 : Ev} {σ σ0 σ1 : L2.St} {Hz H Hz0 H0 Hz1 H1 : Hp} {v : V} {r : R} (s1 : St2 K env1 σ1 Hz1 H1) (g : Go env0 σ0 Hz0 H0 env1 σ1 Hz1 H1) (h : RetR K env1 σ1 H1 env σ Hz H v r) : RetR K env0 σ0 H0 env σ Hz H v r := by
  cases r with
  | fz d => exact h
  | br i => exact h
  | ow d =>
    obtain ⟨p, o, e, h0, h1⟩ := h
    refine ⟨p, o, e, ?_, h1⟩
    rcases h0 with h0 | ⟨i, d', q1, q2⟩
    · refine .inl ?_
      cases q : H0 p with
      | none => rfl
      | some u => exact absurd h0 (g.dm p (by rw [q]; exact fun z => nomatch z))
    · rcases g.ow p ⟨i, false, d', q1, q2⟩ with ⟨j, b, d2, k1, k2⟩ | z
      · cases b with
        | false => exact .inr ⟨j, d2, k1, k2⟩
        | true =>
          obtain ⟨⟨d3, k3⟩, k4⟩ := g.pin j d2 k1
          have ij := s1.dis i j _ _ _ _ p q1 k3 q2 (by rw [k4]; exact k2)
          subst ij
          rw [q1] at k3
          cases k3
      · exact .inl z
theorem Cov.go {K : PySem.W.Frag} {env env1 : Ev} {σ σ1 : L2.St} {Hz H Hz1 H1 : Hp} {P : EndsD} {Q : Ends} (c : Cov K env σ Hz H P Q) (s1 : St2 K env1 σ1 Hz1 H1) (g : Go env σ Hz H env1 σ1 Hz1 H1) : Cov K env1 σ1 Hz1 H1 P Q :=
  ⟨fun _ _ _ _ p s h => c.nx _ _ _ _ p s (g.trans h), fun _ _ _ _ p s h => c.bk _ _ _ _ p s (g.trans h), fun _ _ _ _ p s h => c.ct _ _ _ _ p s (g.trans h),
    fun _ _ _ _ _ _ p s h r => c.rt _ _ _ _ _ _ p s (g.trans h) (r.back s1 g)⟩
/-! ### expressions -/
section
variable {X : Cx} {K : PySem.W.Frag} {a b c e : Expr} {es : List Expr} {pos : Pos} {wa wb wc w : WE} {ta tb tc t : TE}
def wVar (i : Nat) : WE := fun env P => match env[i]? with
  | some (.fz d) => P (.fz d) env
  | some (.ow _ _) => P (.br i) env
  | _ => False
theorem se_var {i : Nat} : SE K (tVar i) (wVar i) := by
  intro env σ Hz H P Q s h q
  unfold wVar at h
  cases e : env[i]? with
  | none => rw [e] at h; exact h.elim
  | some u =>
    rw [e] at h
    obtain ⟨x, hx, ok⟩ := s.ent i u e
    cases u with
    | un => exact h.elim
    | fz d =>
      obtain ⟨y, rfl, ok⟩ := ok
      exact ⟨y, hx, q _ _ _ _ _ h s .refl ok⟩
    | ow p d =>
      obtain ⟨y, o, rfl, _⟩ := ok
      exact ⟨_, hx, q _ _ _ _ _ h s .refl hx⟩
theorem ge_var (i : Nat) {x : Str} (hN : X.N[i]? = some x := by rfl) (hv : Vis X.env.scope x := by first | exact Or.inl rfl | exact Or.inr (Or.inl rfl) | exact Or.inr (Or.inr rfl)) (hd : (x == ("__debug__" : Str)) = false := by decide)
    (hcd : (x == ("__classdict__" : Str)) = false := by decide) : GE X (.Name x pos) (tVar i) (wVar i) := ⟨pe_var hN hv hd hcd, se_var⟩
/-- the own object of the slot comes to stand still -/
def wVarF (i : Nat) : WE := fun env P => match env[i]? with
  | some (.fz d) => P (.fz d) env
  | some (.ow false d) => P (.fz d) (env.set i (.fz d))
  | _ => False
theorem frz_slot {env : Ev} {σ : L2.St} {Hz H : Hp} {i : Nat} {d : D} (s : St2 K env σ Hz H) (e : env[i]? = some (.ow false d)) :
    ∃ Hz' v, σ[i]? = some (some v) ∧ St2 K (env.set i (.fz d)) σ Hz' H ∧ Go env σ Hz H (env.set i (.fz d)) σ Hz' H ∧ Rep K Hz' v d := by
  obtain ⟨x, hx, y, o, z, h1, h2, h3⟩ := s.ent i _ e
  subst z
  have hz : Same Hz (upd Hz y o) := same_upd h2
  have il : i < env.length := by
    rcases Nat.lt_or_ge i env.length with h | h
    · exact h
    · rw [List.getElem?_eq_none h] at e; cases e
  have oth : ∀ (j : Nat) (p : Bool) (d' : D), (env.set i (.fz d))[j]? = some (.ow p d') → j ≠ i ∧ env[j]? = some (.ow p d') := fun j p d' h => by
    by_cases c : i = j
    · subst c
      rw [List.getElem?_set_self il] at h
      cases h
    · rw [List.getElem?_set_ne c] at h
      exact ⟨fun z => c z.symm, h⟩
  have sub : Same (upd Hz y o) H := fun a u q => by
    by_cases c : a = y
    · subst c
      rw [upd_same] at q
      exact q ▸ h1
    · rw [upd_ne c] at q
      exact s.sub a u q
  refine ⟨upd Hz y o, .ref y, hx, ⟨by rw [List.length_set]; exact s.len, sub, fun j u q => ?_, fun j k p q d1 d2 a q1 q2 r1 r2 => s.dis j k p q d1 d2 a (oth j p d1 q1).2 (oth k q d2 q2).2 r1 r2⟩, ⟨hz, fun a q => ?_, fun a u q _ => q, fun a q => q, fun a q => ?_, fun j d' q => ?_, rfl⟩, (h3.mono hz).rep upd_same⟩
  · by_cases c : i = j
    · subst c
      rw [List.getElem?_set_self il] at q
      cases q
      exact ⟨_, hx, _, rfl, (h3.mono hz).rep upd_same⟩
    · rw [List.getElem?_set_ne c] at q
      obtain ⟨x', hx', ok⟩ := s.ent j u q
      refine ⟨x', hx', ?_⟩
      cases u with
      | un => trivial
      | fz d' => obtain ⟨v, z, ok⟩ := ok; exact ⟨v, z, ok.mono hz⟩
      | ow p d' =>
        obtain ⟨b, u, z, k1, k2, k3⟩ := ok
        have ne : b ≠ y := fun z' => c (s.dis i j _ _ _ _ y e q hx (by rw [hx', z, z']))
        exact ⟨b, u, z, k1, by rw [upd_ne ne]; exact k2, k3.mono hz⟩
  · by_cases c : a = y
    · exact .inr (.inr ⟨i, false, d, e, by rw [c]; exact hx⟩)
    · rw [upd_ne c] at q; exact .inl q
  · obtain ⟨j, p, d', q1, q2⟩ := q
    exact .inl ⟨j, p, d', (oth j p d' q1).2, q2⟩
  · refine ⟨⟨d', ?_⟩, rfl⟩
    have c : i ≠ j := fun c => by rw [← c, e] at q; cases q
    rw [List.getElem?_set_ne c]; exact q
theorem se_varF {i : Nat} : SE K (tVar i) (wVarF i) := by
  intro env σ Hz H P Q s h q
  unfold wVarF at h
  cases e : env[i]? with
  | none => rw [e] at h; exact h.elim
  | some u =>
    rw [e] at h
    cases u with
    | un => exact h.elim
    | fz d =>
      obtain ⟨x, hx, y, rfl, ok⟩ := s.ent i _ e
      exact ⟨y, hx, q _ _ _ _ _ h s .refl ok⟩
    | ow p d =>
      cases p with
      | true => exact h.elim
      | false =>
        obtain ⟨Hz', v, hx, s', g, r⟩ := frz_slot s e
        exact ⟨v, hx, q _ _ _ _ _ h s' g r⟩
theorem ge_varF (i : Nat) {x : Str} (hN : X.N[i]? = some x := by rfl) (hv : Vis X.env.scope x := by first | exact Or.inl rfl | exact Or.inr (Or.inl rfl) | exact Or.inr (Or.inr rfl)) (hd : (x == ("__debug__" : Str)) = false := by decide)
    (hcd : (x == ("__classdict__" : Str)) = false := by decide) : GE X (.Name x pos) (tVar i) (wVarF i) := ⟨pe_var hN hv hd hcd, se_varF⟩
def wC (d : D) : WE := fun env P => P (.fz d) env
theorem se_c {v : V} {d : D} (r : ∀ H, Rep K H v d) : SE K (tC v) (wC d) := fun env σ Hz H P Q s h q => q _ _ _ _ _ h s .refl (r Hz)
theorem ge_int {i j} : GE X (.Constant (.int i) j pos) (tC (.int i)) (wC (.int i)) := ⟨pe_int, se_c fun _ => .int _⟩
theorem ge_bl {i j} : GE X (.Constant (.bool i) j pos) (tC (.bl i)) (wC (.bool i)) := ⟨pe_bl, se_c fun _ => .bl _⟩
theorem ge_str {i j} : GE X (.Constant (.str i) j pos) (tC (.str i)) (wC (.str i)) := ⟨pe_str, se_c fun _ => .str _⟩
theorem ge_non {j} : GE X (.Constant .none j pos) (tC .non) (wC .none) := ⟨pe_non, se_c fun _ => .non⟩
/-- a constant of the module -/
theorem ge_glob {x : Str} {v : V} {u : Value} {d : D} (r : ∀ H, Rep X.K H v d) (hg : Gl X x) (hm : X.mg x = some u) (rv : RelV v u) (hd : (x == ("__debug__" : Str)) = false := by decide) : GE X (.Name x pos) (tC v) (wC d) := ⟨pe_glob hg hm rv hd, se_c r⟩
/-- a two-place operation -/
def SR2 (K : PySem.W.Frag) (r : R2) (f : D → D → (R → Prop) → Prop) : Prop := ∀ (env : Ev) (σ : L2.St) (Hz H : Hp) (x y : V) (dx dy : D) (P : R → Prop) (Q : VK), St2 K env σ Hz H → Top K Hz H x dx → Top K Hz H y dy → f dx dy P →
  (∀ z v Hz' H', P z → St2 K env σ Hz' H' → Go env σ Hz H env σ Hz' H' → RepR K env σ H Hz' H' v z → Q v H') → r x y H Q
def wBin (f : D → D → (R → Prop) → Prop) (wa wb : WE) : WE := fun env P => wa env fun ra e1 => wb e1 fun rb e2 => match ra.get e2, rb.get e2 with
  | some x, some y => f x y fun r => P r e2
  | _, _ => False
theorem se_bin {r : R2} {f : D → D → (R → Prop) → Prop} (h : SR2 K r f) (ha : SE K ta wa) (hb : SE K tb wb) : SE K (tOp r ta tb) (wBin f wa wb) := by
  intro env σ Hz H P Q s w q
  refine ha env σ Hz H _ _ s w fun ra e1 x Hz1 H1 w1 s1 g1 r1 => ?_
  refine hb e1 σ Hz1 H1 _ _ s1 w1 fun rb e2 y Hz2 H2 w2 s2 g2 r2 => ?_
  have r1' := r1.go g2
  cases ea : ra.get e2 with
  | none => rw [ea] at w2; exact w2.elim
  | some dx =>
    cases eb : rb.get e2 with
    | none => rw [ea, eb] at w2; exact w2.elim
    | some dy =>
      rw [ea, eb] at w2
      exact h e2 σ Hz2 H2 x y dx dy _ Q s2 (r1'.top s2 ea) (r2.top s2 eb) w2 fun z v Hz' H' p s3 g3 r3 =>
        q z e2 v Hz' H' p s3 ((g1.trans g2).trans g3) (r3.back (g1.trans g2).dm)
theorem ge_op {op : Operator} {r : R2} {f : D → D → (R → Prop) → Prop} (ho : OpR X (binaryOp op) r) (h : SR2 X.K r f) (ha : GE X a ta wa) (hb : GE X b tb wb) : GE X (.BinOp a op b pos) (tOp r ta tb) (wBin f wa wb) := by
  obtain ⟨pa, sa⟩ := ha.ex
  obtain ⟨pb, sb⟩ := hb.ex
  exact ⟨pe_op ho pa pb, se_bin h sa sb⟩
theorem ge_cmp {op : CmpOp} {r : R2} {f : D → D → (R → Prop) → Prop} (ho : OpR X (compareOp op) r) (h : SR2 X.K r f) (hm : behindInMarks op b = false) (ha : GE X a ta wa) (hb : GE X b tb wb) : GE X (.Compare a [op] [b] pos) (tOp r ta tb) (wBin f wa wb) := by
  obtain ⟨pa, sa⟩ := ha.ex
  obtain ⟨pb, sb⟩ := hb.ex
  exact ⟨pe_cmpR ho pa pb hm, se_bin h sa sb⟩
theorem ge_ix {r : R2} {f : D → D → (R → Prop) → Prop} (ho : IxR X r) (h : SR2 X.K r f) (ha : GE X a ta wa) (hb : GE X b tb wb) (hs : PlainIx b) : GE X (.Subscript a b pos) (tOp r ta tb) (wBin f wa wb) := by
  obtain ⟨pa, sa⟩ := ha.ex
  obtain ⟨pb, sb⟩ := hb.ex
  exact ⟨pe_ix ho pa pb hs, se_bin h sa sb⟩
/-! ### tests -/
/-- a value that is True or False, as a test -/
def wB (w : WE) : WT := fun env P => w env fun r e1 => match r with
  | .fz (.bool k) => P k e1
  | _ => False
theorem st_B (h : SE K t w) : ST K (tTest t) (wB w) := by
  intro env σ Hz H P Q s hw q
  refine h env σ Hz H _ _ s hw fun r e1 v Hz1 H1 w1 s1 g1 r1 => ?_
  cases r with
  | ow d => exact w1.elim
  | br i => exact w1.elim
  | fz d =>
    cases d <;> first | exact w1.elim | skip
    cases r1
    exact ⟨_, rfl, q _ _ _ _ w1 s1 g1⟩
theorem st_B' (h : SE K t w) : ST K (tB t) (wB w) := st_B h
theorem gt_val (h : GE X e t w) (he : ∀ whole, isTrue e X.env whole = (do let v ← whole; standAt e.pos; holding [v] (truthy v)) := by intro _; rfl) : GT X e (tB t) (wB w) := by
  obtain ⟨p, s⟩ := h.ex
  exact ⟨pt_val p he, st_B' s⟩
theorem gt_cmp {op : CmpOp} {r : R2} {f : D → D → (R → Prop) → Prop} (ho : OpR X (compareOp op) r) (h : SR2 X.K r f) (hm : behindInMarks op b = false) (ha : GE X a ta wa) (hb : GE X b tb wb) : GT X (.Compare a [op] [b] pos) (tTest (tOp r ta tb)) (wB (wBin f wa wb)) := by
  obtain ⟨pa, sa⟩ := ha.ex
  obtain ⟨pb, sb⟩ := hb.ex
  exact ⟨pt_cmpR ho pa pb hm, st_B (se_bin h sa sb)⟩
variable {wt wu : WT} {tt tu : TT} {rest : List Expr}
def wAnd (a b : WT) : WT := fun env P => a env fun k e1 => if k = true then b e1 P else P false e1
def wOr (a b : WT) : WT := fun env P => a env fun k e1 => if k = true then P true e1 else b e1 P
def wNot (a : WT) : WT := fun env P => a env fun k e1 => P (!k) e1
theorem st_and (h : ST K tt wt) (h' : ST K tu wu) : ST K (tAnd tt tu) (wAnd wt wu) := by
  intro env σ Hz H P Q s w q
  refine h env σ Hz H _ _ s w fun k e1 Hz1 H1 w1 s1 g1 => ?_
  cases k with
  | true =>
    have w1 : wu e1 P := w1
    show tu σ H1 Q
    exact h' e1 σ Hz1 H1 _ _ s1 w1 fun k e2 Hz2 H2 w2 s2 g2 => q _ _ _ _ w2 s2 (g1.trans g2)
  | false =>
    have w1 : P false e1 := w1
    show Q false H1
    exact q _ _ _ _ w1 s1 g1
theorem st_or (h : ST K tt wt) (h' : ST K tu wu) : ST K (tOr tt tu) (wOr wt wu) := by
  intro env σ Hz H P Q s w q
  refine h env σ Hz H _ _ s w fun k e1 Hz1 H1 w1 s1 g1 => ?_
  cases k with
  | false =>
    have w1 : wu e1 P := w1
    show tu σ H1 Q
    exact h' e1 σ Hz1 H1 _ _ s1 w1 fun k e2 Hz2 H2 w2 s2 g2 => q _ _ _ _ w2 s2 (g1.trans g2)
  | true =>
    have w1 : P true e1 := w1
    show Q true H1
    exact q _ _ _ _ w1 s1 g1
theorem gw_and1 (h : GT X a tt wt) : GW X (.BoolOp .And [a] pos) tt wt := by obtain ⟨p, s⟩ := h.ex; exact ⟨pw_and1 p, s⟩
theorem gw_or1 (h : GT X a tt wt) : GW X (.BoolOp .Or [a] pos) tt wt := by obtain ⟨p, s⟩ := h.ex; exact ⟨pw_or1 p, s⟩
theorem gw_and (h : GT X a tt wt) (h' : GW X (.BoolOp .And (b :: rest) pos) tu wu) : GW X (.BoolOp .And (a :: b :: rest) pos) (tAnd tt tu) (wAnd wt wu) := by
  obtain ⟨p, s⟩ := h.ex
  obtain ⟨p', s'⟩ := h'.ex
  exact ⟨pw_and p p', st_and s s'⟩
theorem gw_or (h : GT X a tt wt) (h' : GW X (.BoolOp .Or (b :: rest) pos) tu wu) : GW X (.BoolOp .Or (a :: b :: rest) pos) (tOr tt tu) (wOr wt wu) := by
  obtain ⟨p, s⟩ := h.ex
  obtain ⟨p', s'⟩ := h'.ex
  exact ⟨pw_or p p', st_or s s'⟩
theorem GW.gt (h : GW X e tt wt) : GT X e tt wt := by obtain ⟨p, s⟩ := h.ex; exact ⟨p.pt, s⟩
theorem gt_not (h : GT X a tt wt) : GT X (.UnaryOp .Not a pos) (tNot tt) (wNot wt) := by
  obtain ⟨p, s⟩ := h.ex
  exact ⟨pt_not p, fun env σ Hz H P Q s0 w q => s env σ Hz H _ _ s0 w fun k e1 Hz1 H1 w1 s1 g1 => q _ _ _ _ w1 s1 g1⟩
/-- as values -/
def wAndV (a b : WE) : WE := fun env P => a env fun r e1 => match r with
  | .fz (.bool k) => if k = true then b e1 P else P (.fz (.bool false)) e1
  | _ => False
def wOrV (a b : WE) : WE := fun env P => a env fun r e1 => match r with
  | .fz (.bool k) => if k = true then P (.fz (.bool true)) e1 else b e1 P
  | _ => False
def wNotV (a : WE) : WE := fun env P => a env fun r e1 => match r with
  | .fz (.bool k) => P (.fz (.bool !k)) e1
  | _ => False
theorem ge_one {op} (h : GE X a t w) : GE X (.BoolOp op [a] pos) t w := by obtain ⟨p, s⟩ := h.ex; exact ⟨pe_one p, s⟩
theorem ge_and (h : GE X a ta wa) (h' : GE X (.BoolOp .And (b :: rest) pos) tb wb) : GE X (.BoolOp .And (a :: b :: rest) pos) (tAndV ta tb) (wAndV wa wb) := by
  obtain ⟨p, sa⟩ := h.ex
  obtain ⟨p', sb⟩ := h'.ex
  refine ⟨pe_and p p', fun env σ Hz H P Q s w q => ?_⟩
  refine sa env σ Hz H _ _ s w fun r e1 v Hz1 H1 w1 s1 g1 r1 => ?_
  cases r with
  | ow d => exact w1.elim
  | br i => exact w1.elim
  | fz d =>
    cases d <;> first | exact w1.elim | skip
    rename_i k
    cases r1
    refine ⟨k, rfl, ?_⟩
    cases k with
    | true =>
      have w1 : wb e1 P := w1
      show tb σ H1 Q
      exact sb e1 σ Hz1 H1 _ _ s1 w1 fun r e2 v Hz2 H2 w2 s2 g2 r2 => q _ _ _ _ _ w2 s2 (g1.trans g2) (r2.back g1.dm)
    | false =>
      have w1 : P (.fz (.bool false)) e1 := w1
      show Q (.bl false) H1
      exact q _ _ _ _ _ w1 s1 g1 (Rep.bl false)
theorem ge_or (h : GE X a ta wa) (h' : GE X (.BoolOp .Or (b :: rest) pos) tb wb) : GE X (.BoolOp .Or (a :: b :: rest) pos) (tOrV ta tb) (wOrV wa wb) := by
  obtain ⟨p, sa⟩ := h.ex
  obtain ⟨p', sb⟩ := h'.ex
  refine ⟨pe_or p p', fun env σ Hz H P Q s w q => ?_⟩
  refine sa env σ Hz H _ _ s w fun r e1 v Hz1 H1 w1 s1 g1 r1 => ?_
  cases r with
  | ow d => exact w1.elim
  | br i => exact w1.elim
  | fz d =>
    cases d <;> first | exact w1.elim | skip
    rename_i k
    cases r1
    refine ⟨k, rfl, ?_⟩
    cases k with
    | false =>
      have w1 : wb e1 P := w1
      show tb σ H1 Q
      exact sb e1 σ Hz1 H1 _ _ s1 w1 fun r e2 v Hz2 H2 w2 s2 g2 r2 => q _ _ _ _ _ w2 s2 (g1.trans g2) (r2.back g1.dm)
    | true =>
      have w1 : P (.fz (.bool true)) e1 := w1
      show Q (.bl true) H1
      exact q _ _ _ _ _ w1 s1 g1 (Rep.bl true)
theorem ge_not (h : GE X a t w) : GE X (.UnaryOp .Not a pos) (tNotV t) (wNotV w) := by
  obtain ⟨p, sa⟩ := h.ex
  refine ⟨pe_not p, fun env σ Hz H P Q s w q => ?_⟩
  refine sa env σ Hz H _ _ s w fun r e1 v Hz1 H1 w1 s1 g1 r1 => ?_
  cases r with
  | ow d => exact w1.elim
  | br i => exact w1.elim
  | fz d =>
    cases d <;> first | exact w1.elim | skip
    rename_i k
    cases r1
    exact ⟨k, rfl, q _ _ _ _ _ w1 s1 g1 (Rep.bl _)⟩
def wIf (c : WT) (a b : WE) : WE := fun env P => c env fun k e1 => if k = true then a e1 P else b e1 P
theorem ge_if (hc : GT X c tt wt) (ha : GE X a ta wa) (hb : GE X b tb wb) : GE X (.IfExp c a b pos) (tIf tt ta tb) (wIf wt wa wb) := by
  obtain ⟨p0, s0⟩ := hc.ex
  obtain ⟨p, sa⟩ := ha.ex
  obtain ⟨p', sb⟩ := hb.ex
  refine ⟨pe_ifExp p0 p p', fun env σ Hz H P Q s w q => ?_⟩
  refine s0 env σ Hz H _ _ s w fun k e1 Hz1 H1 w1 s1 g1 => ?_
  cases k with
  | true =>
    have w1 : wa e1 P := w1
    show ta σ H1 Q
    exact sa e1 σ Hz1 H1 _ _ s1 w1 fun r e2 v Hz2 H2 w2 s2 g2 r2 => q _ _ _ _ _ w2 s2 (g1.trans g2) (r2.back g1.dm)
  | false =>
    have w1 : wb e1 P := w1
    show tb σ H1 Q
    exact sb e1 σ Hz1 H1 _ _ s1 w1 fun r e2 v Hz2 H2 w2 s2 g2 r2 => q _ _ _ _ _ w2 s2 (g1.trans g2) (r2.back g1.dm)
/-! ### arguments, displays -/
def waNil : WA2 := fun env P => P [] env
def waCons (w : WE) (wr : WA2) : WA2 := fun env P => w env fun r e1 => match r.fzd with
  | some d => wr e1 fun ds e2 => P (d :: ds) e2
  | _ => False
theorem ga_nil : GA X [] tNil waNil := ⟨pa_nil, fun env σ Hz H P Q s w q => q _ _ _ _ _ w s .refl .nil⟩
theorem ga_cons {wr : WA2} {tr : TA} (h : GE X e t w) (hr : GA X es tr wr) (hs : starEach (e :: es) X.env = (false, eval e X.env) :: starEach es X.env := by rfl) : GA X (e :: es) (tCons t tr) (waCons w wr) := by
  obtain ⟨p, sa⟩ := h.ex
  obtain ⟨p', sb⟩ := hr.ex
  refine ⟨pa_cons p p' hs, fun env σ Hz H P Q s w q => ?_⟩
  refine sa env σ Hz H _ _ s w fun r e1 v Hz1 H1 w1 s1 g1 r1 => ?_
  cases ef : r.fzd with
  | none => simp only [ef] at w1
  | some d =>
    simp only [ef] at w1
    obtain ⟨Hz', s', g', ez, _, rp⟩ := freezeR s1 g1 r1 ef
    exact sb e1 σ Hz' H1 _ _ s' w1 fun ds e2 vs Hz2 H2 w2 s2 g2 r2 => q _ _ _ _ _ w2 s2 (g'.trans g2) (.cons (rp.mono g2.ez) r2)
def wTup (w : WA2) : WE := fun env P => w env fun ds e1 => ds.length ≤ sizeLine ∧ P (.fz (.tuple ds)) e1
def wLst (w : WA2) : WE := fun env P => w env fun ds e1 => ds.length ≤ sizeLine ∧ P (.ow (.list ds)) e1
theorem ge_tup {x1} {wr : WA2} {tr : TA} (h : GA X es tr wr) : GE X (.Tuple es x1 pos) (tTup tr) (wTup wr) := by
  obtain ⟨p, sa⟩ := h.ex
  refine ⟨pe_tup p, fun env σ Hz H P Q s w q => ?_⟩
  refine sa env σ Hz H _ _ s w fun ds e1 vs Hz1 H1 w1 s1 g1 r1 => ?_
  refine ⟨by rw [r1.len]; exact w1.1, fun pp hp => ?_⟩
  obtain ⟨Hz2, s2, g2, r2⟩ := new_tup s1 hp r1
  exact q _ _ _ _ _ w1.2 s2 (g1.trans g2) (r2.back g1.dm)
theorem ge_lst {wr : WA2} {tr : TA} (h : GA X es tr wr) : GE X (.List es pos) (tLst tr) (wLst wr) := by
  obtain ⟨p, sa⟩ := h.ex
  refine ⟨pe_lst p, fun env σ Hz H P Q s w q => ?_⟩
  refine sa env σ Hz H _ _ s w fun ds e1 vs Hz1 H1 w1 s1 g1 r1 => ?_
  refine ⟨by rw [r1.len]; exact w1.1, fun pp hp => ?_⟩
  obtain ⟨s2, g2, r2⟩ := new_ow (d := .list ds) (o := .lst vs) s1 hp r1
  exact q _ _ _ _ _ w1.2 s2 (g1.trans g2) (r2.back g1.dm)
end
end G

namespace G
open PySem L2
/-! ### stores -/
/-- a slot that may be stored to -/
def okSet (env : Ev) (i : Nat) : Prop := match env[i]? with
  | some (.ow true _) => False
  | some _ => True
  | none => False
section
variable {K : PySem.W.Frag} {env env' env0 env1 env2 : Ev} {σ σ' σ0 σ1 σ2 : L2.St} {H0 Hz H Hz0 Hz' H' Hz1 H1 Hz2 H2 : Hp} {v : V} {r : R} {d : D} {i : Nat}
theorem okSet.lt (h : okSet env i) : i < env.length := by
  unfold okSet at h
  rcases Nat.lt_or_ge i env.length with h' | h'
  · exact h'
  · rw [List.getElem?_eq_none h'] at h; exact h.elim
theorem okSet.np (h : okSet env i) {d : D} : env[i]? ≠ some (.ow true d) := fun e => by
  unfold okSet at h
  rw [e] at h; exact h
theorem set_fz (s : St2 K env σ Hz H) (h : okSet env i) (r : Rep K Hz v d) : St2 K (env.set i (.fz d)) (σ.set i (some v)) Hz H ∧ Go env σ Hz H (env.set i (.fz d)) (σ.set i (some v)) Hz H := by
  have il := h.lt
  have il' : i < σ.length := by rw [← s.len]; exact il
  have oth : ∀ (j : Nat) (p : Bool) (d' : D), (env.set i (.fz d))[j]? = some (.ow p d') → i ≠ j ∧ env[j]? = some (.ow p d') := fun j p d' h => by
    by_cases c : i = j
    · subst c; rw [List.getElem?_set_self il] at h; cases h
    · rw [List.getElem?_set_ne c] at h; exact ⟨c, h⟩
  refine ⟨⟨by rw [List.length_set, List.length_set]; exact s.len, s.sub, fun j u q => ?_, fun j k p q d1 d2 a q1 q2 r1 r2 => ?_⟩, ⟨.refl _, fun a q => .inl q, fun a u q _ => q, fun a q => q, fun a q => ?_, fun j d' q => ?_, List.length_set⟩⟩
  · by_cases c : i = j
    · subst c
      rw [List.getElem?_set_self il] at q
      cases q
      exact ⟨_, List.getElem?_set_self il', _, rfl, r⟩
    · rw [List.getElem?_set_ne c] at q
      rw [List.getElem?_set_ne c]
      exact s.ent j u q
  · obtain ⟨c1, e1⟩ := oth j p d1 q1
    obtain ⟨c2, e2⟩ := oth k q d2 q2
    rw [List.getElem?_set_ne c1] at r1
    rw [List.getElem?_set_ne c2] at r2
    exact s.dis j k p q d1 d2 a e1 e2 r1 r2
  · obtain ⟨j, p, d', q1, q2⟩ := q
    obtain ⟨c1, e1⟩ := oth j p d' q1
    rw [List.getElem?_set_ne c1] at q2
    exact .inl ⟨j, p, d', e1, q2⟩
  · have c : i ≠ j := fun c => h.np (d := d') (by rw [c]; exact q)
    rw [List.getElem?_set_ne c, List.getElem?_set_ne c]
    exact ⟨⟨d', q⟩, rfl⟩
/-- a new object becomes the slot's own -/
theorem set_ow (s : St2 K env1 σ1 Hz1 H1) (g : Go env σ Hz H env1 σ1 Hz1 H1) (h : okSet env1 i) (r : RepR K env1 σ1 H Hz1 H1 v (.ow d)) :
    St2 K (env1.set i (.ow false d)) (σ1.set i (some v)) Hz1 H1 ∧ Go env σ Hz H (env1.set i (.ow false d)) (σ1.set i (some v)) Hz1 H1 := by
  obtain ⟨p, o, rfl, h0, h1, h2, h3, h4⟩ := r
  have il := h.lt
  have il' : i < σ1.length := by rw [← s.len]; exact il
  have oth : ∀ (j : Nat) (q : Bool) (d' : D), (env1.set i (.ow false d))[j]? = some (.ow q d') → (i = j ∧ q = false) ∨ (i ≠ j ∧ env1[j]? = some (.ow q d')) := fun j q d' h => by
    by_cases c : i = j
    · subst c; rw [List.getElem?_set_self il] at h; cases h; exact .inl ⟨rfl, rfl⟩
    · rw [List.getElem?_set_ne c] at h; exact .inr ⟨c, h⟩
  have new : ∀ {j : Nat} {q : Bool} {d' : D}, env1[j]? = some (.ow q d') → σ1[j]? ≠ some (some (.ref p)) := fun {j q d'} e z => h3 ⟨j, q, d', e, z⟩
  refine ⟨⟨by rw [List.length_set, List.length_set]; exact s.len, s.sub, fun j u q => ?_, fun j k b q d1 d2 a q1 q2 r1 r2 => ?_⟩, ⟨g.ez, g.nz, g.kp, g.dm, fun a q => ?_, fun j d' q => ?_, by rw [List.length_set]; exact g.ln⟩⟩
  · by_cases c : i = j
    · subst c
      rw [List.getElem?_set_self il] at q
      cases q
      exact ⟨_, List.getElem?_set_self il', p, o, rfl, h1, h2, h4⟩
    · rw [List.getElem?_set_ne c] at q
      rw [List.getElem?_set_ne c]
      exact s.ent j u q
  · rcases oth j b d1 q1 with ⟨rfl, _⟩ | ⟨c1, e1⟩
    · rw [List.getElem?_set_self il'] at r1
      cases r1
      rcases oth k q d2 q2 with ⟨rfl, _⟩ | ⟨c2, e2⟩
      · rfl
      · rw [List.getElem?_set_ne c2] at r2
        exact absurd r2 (new e2)
    · rw [List.getElem?_set_ne c1] at r1
      rcases oth k q d2 q2 with ⟨rfl, _⟩ | ⟨c2, e2⟩
      · rw [List.getElem?_set_self il'] at r2
        cases r2
        exact absurd r1 (new e1)
      · rw [List.getElem?_set_ne c2] at r2
        exact s.dis j k b q d1 d2 a e1 e2 r1 r2
  · obtain ⟨j, q, d', q1, q2⟩ := q
    rcases oth j q d' q1 with ⟨rfl, _⟩ | ⟨c1, e1⟩
    · rw [List.getElem?_set_self il'] at q2
      cases q2
      exact .inr h0
    · rw [List.getElem?_set_ne c1] at q2
      exact g.ow a ⟨j, q, d', e1, q2⟩
  · obtain ⟨⟨d2, e2⟩, e3⟩ := g.pin j d' q
    have c : i ≠ j := fun c => h.np (d := d2) (by rw [c]; exact e2)
    rw [List.getElem?_set_ne c, List.getElem?_set_ne c]
    exact ⟨⟨d2, e2⟩, e3⟩
/-- the slot's own object changes -/
theorem upd_own {p : Bool} {a : Addr} {o : HO} {d' : D} (s : St2 K env σ Hz H) (e : env[i]? = some (.ow p d)) (ea : σ[i]? = some (some (.ref a))) (r : RepO K Hz o d') :
    St2 K (env.set i (.ow p d')) σ Hz (upd H a o) ∧ Go env σ Hz H (env.set i (.ow p d')) σ Hz (upd H a o) := by
  obtain ⟨x, hx, b, o', z, h1, h2, h3⟩ := s.ent i _ e
  rw [ea] at hx; cases hx; cases z
  have il : i < env.length := by
    rcases Nat.lt_or_ge i env.length with h | h
    · exact h
    · rw [List.getElem?_eq_none h] at e; cases e
  have oth : ∀ (j : Nat) (q : Bool) (d2 : D), (env.set i (.ow p d'))[j]? = some (.ow q d2) → ∃ d3, env[j]? = some (.ow q d3) := fun j q d2 h => by
    by_cases c : i = j
    · subst c; rw [List.getElem?_set_self il] at h; cases h; exact ⟨_, e⟩
    · rw [List.getElem?_set_ne c] at h; exact ⟨_, h⟩
  refine ⟨⟨by rw [List.length_set]; exact s.len, fun b u q => ?_, fun j u q => ?_, fun j k b q d1 d2 c q1 q2 r1 r2 => ?_⟩, ⟨.refl _, fun a q => .inl q, fun b u q n => ?_, fun b q z => ?_, fun b q => ?_, fun j d2 q => ⟨?_, rfl⟩, rfl⟩⟩
  · have c : b ≠ a := fun c => by rw [c, h2] at q; cases q
    rw [upd_ne c]; exact s.sub b u q
  · by_cases c : i = j
    · subst c
      rw [List.getElem?_set_self il] at q
      cases q
      exact ⟨_, ea, a, o, rfl, upd_same, h2, r⟩
    · rw [List.getElem?_set_ne c] at q
      obtain ⟨x', hx', ok⟩ := s.ent j u q
      refine ⟨x', hx', ?_⟩
      cases u with
      | un => trivial
      | fz d2 => exact ok
      | ow q' d2 =>
        obtain ⟨b, u, z, k1, k2, k3⟩ := ok
        have ne : b ≠ a := fun z' => c (s.dis i j _ _ _ _ a e q ea (by rw [hx', z, z']))
        exact ⟨b, u, z, by rw [upd_ne ne]; exact k1, k2, k3⟩
  · obtain ⟨_, e1⟩ := oth j b d1 q1
    obtain ⟨_, e2⟩ := oth k q d2 q2
    exact s.dis j k b q _ _ c e1 e2 r1 r2
  · have c : b ≠ a := fun c => n (c ▸ ⟨i, p, d, e, ea⟩)
    rw [upd_ne c]; exact q
  · by_cases c : b = a
    · rw [c, upd_same] at z; cases z
    · rw [upd_ne c] at z; exact q z
  · obtain ⟨j, q, d2, q1, q2⟩ := q
    obtain ⟨_, e1⟩ := oth j q d2 q1
    exact .inl ⟨j, q, _, e1, q2⟩
  · by_cases c : i = j
    · subst c
      rw [e] at q; cases q
      exact ⟨d', List.getElem?_set_self il⟩
    · rw [List.getElem?_set_ne c]; exact ⟨d2, q⟩
end
/-! ### targets: names, tuples of names -/
abbrev WG := D → Ev → (Ev → Prop) → Prop
def SG (K : PySem.W.Frag) (g : TG) (sl : List Nat) (w : WG) : Prop := ∀ (env : Ev) (σ : L2.St) (Hz H : Hp) (v : V) (d : D) (P : Ev → Prop) (Q : L2.St → Hp → Prop), St2 K env σ Hz H → Rep K Hz v d → w d env P →
  (∀ env' σ', P env' → St2 K env' σ' Hz H → Go env σ Hz H env' σ' Hz H → (∀ i, i ∉ sl → σ'[i]? = σ[i]?) → Q σ' H) → g v σ H Q
abbrev WGs := List D → Ev → (Ev → Prop) → Prop
def SGs (K : PySem.W.Frag) (g : TGs) (sl : List Nat) (w : WGs) : Prop := ∀ (env : Ev) (σ : L2.St) (Hz H : Hp) (v : List V) (d : List D) (P : Ev → Prop) (Q : L2.St → Hp → Prop), St2 K env σ Hz H → Reps K Hz v d → w d env P →
  (∀ env' σ', P env' → St2 K env' σ' Hz H → Go env σ Hz H env' σ' Hz H → (∀ i, i ∉ sl → σ'[i]? = σ[i]?) → Q σ' H) → g v σ H Q
structure GG (X : Cx) (e : Expr) (t : TG) (sl : List Nat) (w : WG) : Prop where
  ex : PG X e t ∧ SG X.K t sl w
structure GGs (X : Cx) (e : List Expr) (t : TGs) (sl : List Nat) (w : WGs) : Prop where
  ex : PGs X e t ∧ SGs X.K t sl w
def wgName (i : Nat) : WG := fun d env P => okSet env i ∧ P (env.set i (.fz d))
def wgNil : WGs := fun ds env P => ds = [] ∧ P env
def wgCons (w : WG) (ws : WGs) : WGs := fun ds env P => match ds with
  | d :: r => w d env fun e1 => ws r e1 P
  | [] => False
def wgTup (n : Nat) (ws : WGs) : WG := fun d env P => match d with
  | .tuple ds => ds.length = n ∧ ws ds env P
  | _ => False
section
variable {X : Cx} {K : PySem.W.Frag} {e : Expr} {es : List Expr} {pos : Pos} {g : TG} {gs : TGs} {sl sl' : List Nat} {w : WG} {ws : WGs}
theorem sg_name {i : Nat} : SG K (gName i) [i] (wgName i) := by
  intro env σ Hz H v d P Q s r h q
  obtain ⟨s', g'⟩ := set_fz s h.1 r
  exact q _ _ h.2 s' g' fun j hj => List.getElem?_set_ne fun c => hj (by rw [c]; exact List.mem_singleton_self _)
theorem gg_name (i : Nat) {x : Str} (hN : X.N.Nodup) (hi : X.N[i]? = some x := by rfl) (hx : Loc X.env.scope x := by first | exact .inl rfl | exact .inr rfl) (hf : X.fn x = true ∨ X.env.scope.names.lookup x = some .local := by first | exact .inl rfl | exact .inr rfl) : GG X (.Name x pos) (gName i) [i] (wgName i) := ⟨pg_name hN hi hx hf, sg_name⟩
theorem ggs_nil : GGs X [] gNil [] wgNil := ⟨pgs_nil, fun env σ Hz H v d P Q s r h q => by
  obtain ⟨rfl, h⟩ := h
  cases r
  exact ⟨rfl, q _ _ h s .refl fun _ _ => rfl⟩⟩
theorem ggs_cons (h1 : GG X e g sl w) (h2 : GGs X es gs sl' ws) (hst : (assignEach (e :: es) X.env).map (·.2) = assign e X.env :: (assignEach es X.env).map (·.2) := by rfl) : GGs X (e :: es) (gCons g gs) (sl ++ sl') (wgCons w ws) := by
  obtain ⟨p, s1⟩ := h1.ex
  obtain ⟨p', s2⟩ := h2.ex
  refine ⟨pgs_cons p p' hst, fun env σ Hz H v d P Q s r h q => ?_⟩
  cases r with
  | nil => exact h.elim
  | cons r0 rs =>
    refine ⟨_, _, rfl, s1 env σ Hz H _ _ _ _ s r0 h fun e1 σ1 h1 st1 g1 k1 => ?_⟩
    exact s2 e1 σ1 Hz H _ _ _ _ st1 rs h1 fun e2 σ2 h2 st2 g2 k2 => q _ _ h2 st2 (g1.trans g2) fun i hi => (k2 i fun z => hi (List.mem_append_right _ z)).trans (k1 i fun z => hi (List.mem_append_left _ z))
theorem gg_tup {k n : Nat} (hc : X.calm = true) (h : GGs X es gs sl ws) (hn : (assignEach es X.env).length = n := by rfl) (hst : (assignEach es X.env).findIdx? (·.1) = none := by rfl) : GG X (.Tuple es k pos) (gTup X.K n gs) sl (wgTup n ws) := by
  obtain ⟨p, s1⟩ := h.ex
  refine ⟨pg_tup hc p hn hst, fun env σ Hz H v d P Q s r h q => ?_⟩
  cases d <;> first | exact h.elim | skip
  rename_i ds
  cases r with
  | tup h1 h2 =>
    exact ⟨_, _, rfl, seqT s.sub h1, h2.len.trans h.1, s1 env σ Hz H _ _ _ _ s h2 h.2 q⟩
end
/-! ### statements -/
section
variable {X : Cx} {K : PySem.W.Frag} {a b c e : Expr} {es : List Expr} {st : Stmt} {rest body body' : List Stmt} {pos : Pos} {wa wb wc w : WE} {ta tb tc t : TE} {wt wu : WT} {tt tu : TT} {ws wv : WS} {ts tv : TS} {g : TG} {sl : List Nat} {wg : WG}
def wNext : WS := fun P env => P.nx env
def wSeq (a b : WS) : WS := fun P env => a { P with nx := fun e => b P e } env
theorem gb_nil : GB X [] tNext wNext := ⟨pss_nil, fun env σ Hz H P Q s w q => q.nx _ _ _ _ w s .refl⟩
theorem ss_seq (h1 : SS K ts ws) (h2 : SS K tv wv) : SS K (tSeq ts tv) (wSeq ws wv) := fun env σ Hz H P Q s w q =>
  h1 env σ Hz H _ _ s w ⟨fun e1 σ1 Hz1 H1 w1 s1 g1 => h2 e1 σ1 Hz1 H1 _ _ s1 w1 (q.go s1 g1), q.bk, q.ct, q.rt⟩
theorem gb_cons (h1 : GS X st ts ws) (h2 : GB X rest tv wv) : GB X (st :: rest) (tSeq ts tv) (wSeq ws wv) := by
  obtain ⟨p, s1⟩ := h1.ex
  obtain ⟨p', s2⟩ := h2.ex
  exact ⟨pss_cons p p', ss_seq s1 s2⟩
theorem gb_one (h1 : GS X st ts ws) : GB X [st] ts ws := by
  obtain ⟨p, s1⟩ := h1.ex
  exact ⟨pss_one p, s1⟩
theorem gs_pass : GS X (.Pass pos) tNext wNext := ⟨ps_pass, gb_nil (X := X).ex.2⟩
theorem gs_break : GS X (.Break pos) tBreak (fun P env => P.bk env) := ⟨ps_break, fun env σ Hz H P Q s w q => q.bk _ _ _ _ w s .refl⟩
theorem gs_continue : GS X (.Continue pos) tCont (fun P env => P.ct env) := ⟨ps_continue, fun env σ Hz H P Q s w q => q.ct _ _ _ _ w s .refl⟩
def wDrop (w : WE) : WS := fun P env => w env fun _ e1 => P.nx e1
theorem gs_expr (h : GE X e t w) (hs : swapsWith e none pos.line X.env = pure false := by rfl) : GS X (.Expr e pos) (tDrop t) (wDrop w) := by
  obtain ⟨p, s1⟩ := h.ex
  exact ⟨ps_expr p hs, fun env σ Hz H P Q s w q => s1 env σ Hz H _ _ s w fun r e1 v Hz1 H1 w1 s1 g1 r1 => q.nx _ _ _ _ w1 s1 g1⟩
def wRet (w : WE) : WS := fun P env => w env fun r e1 => match r with
  | .br i => (match e1[i]? with
    | some (.ow false d) => P.rt (.ow d) (e1.set i .un)
    | some (.fz d) => P.rt (.fz d) e1
    | _ => False)
  | r => P.rt r e1
theorem drop_slot {env : Ev} {σ : L2.St} {Hz H : Hp} {i : Nat} {d : D} (s : St2 K env σ Hz H) (e : env[i]? = some (.ow false d)) : St2 K (env.set i .un) σ Hz H ∧ Go env σ Hz H (env.set i .un) σ Hz H ∧
    ∃ p o, σ[i]? = some (some (.ref p)) ∧ H p = some o ∧ Hz p = none ∧ ¬ Own (env.set i .un) σ p ∧ RepO K Hz o d := by
  obtain ⟨x, hx, y, o, z, h1, h2, h3⟩ := s.ent i _ e
  subst z
  have il : i < env.length := by
    rcases Nat.lt_or_ge i env.length with h | h
    · exact h
    · rw [List.getElem?_eq_none h] at e; cases e
  have oth : ∀ (j : Nat) (p : Bool) (d' : D), (env.set i .un)[j]? = some (.ow p d') → i ≠ j ∧ env[j]? = some (.ow p d') := fun j p d' h => by
    by_cases c : i = j
    · subst c; rw [List.getElem?_set_self il] at h; cases h
    · rw [List.getElem?_set_ne c] at h; exact ⟨c, h⟩
  refine ⟨⟨by rw [List.length_set]; exact s.len, s.sub, fun j u q => ?_, fun j k p q d1 d2 a q1 q2 r1 r2 => s.dis j k p q d1 d2 a (oth j p d1 q1).2 (oth k q d2 q2).2 r1 r2⟩, ⟨.refl _, fun a q => .inl q, fun a u q _ => q, fun a q => q, fun a q => ?_, fun j d' q => ⟨?_, rfl⟩, rfl⟩, y, o, hx, h1, h2, fun q => ?_, h3⟩
  · by_cases c : i = j
    · subst c
      rw [List.getElem?_set_self il] at q
      cases q
      exact ⟨_, hx, trivial⟩
    · rw [List.getElem?_set_ne c] at q
      exact s.ent j u q
  · obtain ⟨j, p, d', q1, q2⟩ := q
    exact .inl ⟨j, p, d', (oth j p d' q1).2, q2⟩
  · have c : i ≠ j := fun c => by rw [← c, e] at q; cases q
    rw [List.getElem?_set_ne c]; exact ⟨d', q⟩
  · obtain ⟨j, p, d', q1, q2⟩ := q
    obtain ⟨c, q3⟩ := oth j p d' q1
    exact c (s.dis i j _ _ _ _ y e q3 hx q2)
theorem gs_ret (h : GE X e t w) : GS X (.Return (some e) pos) (tRet t) (wRet w) := by
  obtain ⟨p, s1⟩ := h.ex
  refine ⟨ps_ret p, fun env σ Hz H P Q s w q => s1 env σ Hz H _ _ s w fun r e1 v Hz1 H1 w1 s1 g1 r1 => ?_⟩
  cases r with
  | fz d => exact q.rt _ _ _ _ _ _ w1 s1 g1 r1
  | ow d =>
    obtain ⟨p, o, e, h0, h1⟩ := r1
    exact q.rt _ _ _ _ _ _ w1 s1 g1 ⟨p, o, e, .inl h0, h1⟩
  | br i =>
    have r1 : σ[i]? = some (some v) := r1
    simp only at w1
    cases ei : e1[i]? with
    | none => simp only [ei] at w1
    | some u =>
      cases u with
      | un => simp only [ei] at w1
      | fz d =>
        simp only [ei] at w1
        obtain ⟨x, hx, y, z, rp⟩ := s1.ent i _ ei
        rw [r1] at hx
        cases hx; cases z
        exact q.rt _ _ _ _ _ _ w1 s1 g1 rp
      | ow b d =>
        cases b with
        | true => simp only [ei] at w1
        | false =>
          simp only [ei] at w1
          obtain ⟨s2, g2, p, o, hx, h1, h2, h3, h4⟩ := drop_slot s1 ei
          rw [r1] at hx
          cases hx
          refine q.rt _ _ _ _ _ _ w1 s2 (g1.trans g2) ⟨p, o, rfl, ?_, h1, h2, h3, h4⟩
          rcases g1.ow p ⟨i, false, d, ei, r1⟩ with ⟨j, b, d2, k1, k2⟩ | z
          · cases b with
            | false => exact .inr ⟨j, d2, k1, k2⟩
            | true =>
              obtain ⟨⟨d3, k3⟩, k4⟩ := g1.pin j d2 k1
              have ij := s1.dis i j _ _ _ _ p ei k3 r1 k2
              subst ij
              rw [ei] at k3
              cases k3
          · exact .inl z
theorem gs_retN : GS X (.Return none pos) tRetN (fun P env => P.rt (.fz .none) env) := ⟨ps_retN, fun env σ Hz H P Q s w q => q.rt _ _ _ _ _ _ w s .refl Rep.non⟩
def wIfS (c : WT) (a b : WS) : WS := fun P env => c env fun k e1 => if k = true then a P e1 else b P e1
theorem ss_if (h0 : ST K tt wt) (h1 : SS K ts ws) (h2 : SS K tv wv) : SS K (tIfS tt ts tv) (wIfS wt ws wv) := fun env σ Hz H P Q s w q =>
  h0 env σ Hz H _ _ s w fun k e1 Hz1 H1 w1 s1 g1 => by
    cases k with
    | true =>
      have w1 : ws P e1 := w1
      show ts Q σ H1
      exact h1 e1 σ Hz1 H1 _ _ s1 w1 (q.go s1 g1)
    | false =>
      have w1 : wv P e1 := w1
      show tv Q σ H1
      exact h2 e1 σ Hz1 H1 _ _ s1 w1 (q.go s1 g1)
theorem gs_if (h0 : GT X c tt wt) (h1 : GB X body ts ws) (h2 : GB X body' tv wv) : GS X (.If c body body' pos) (tIfS tt ts tv) (wIfS wt ws wv) := by
  obtain ⟨p0, s0⟩ := h0.ex
  obtain ⟨p1, s1⟩ := h1.ex
  obtain ⟨p2, s2⟩ := h2.ex
  exact ⟨ps_if p0 p1 p2, ss_if s0 s1 s2⟩
/-- x = e; what is new comes to stand still -/
def wSet (wg : WG) (w : WE) : WS := fun P env => w env fun r e1 => match r.fzd with
  | some d => wg d e1 P.nx
  | _ => False
theorem ss_set (h : SE K t w) (hg : SG K g sl wg) : SS K (tAsg t g) (wSet wg w) := fun env σ Hz H P Q s w q =>
  h env σ Hz H _ _ s w fun r e1 v Hz1 H1 w1 s1 g1 r1 => by
    cases ef : r.fzd with
    | none => simp only [ef] at w1
    | some d =>
      simp only [ef] at w1
      obtain ⟨Hz', s', g', ez, _, rp⟩ := freezeR s1 g1 r1 ef
      exact hg e1 σ Hz' H1 _ _ _ _ s' rp w1 fun e2 σ2 w2 s2 g2 _ => q.nx _ _ _ _ w2 s2 (g'.trans g2)
theorem gs_set {tg : Expr} (h : GE X e t w) (hg : GG X tg g sl wg) (hs : swapsWithSole [tg] e pos.line X.env = pure false := by rfl) (hw : swappedStores [tg] e X.env = pure none := by rfl) (h1 : (assignEach [tg] X.env).map (·.2) = [assign tg X.env] := by rfl) : GS X (.Assign [tg] e pos) (tAsg t g) (wSet wg w) := by
  obtain ⟨p, s1⟩ := h.ex
  obtain ⟨p', s2⟩ := hg.ex
  exact ⟨ps_asg p p' hs hw h1, ss_set s1 s2⟩
/-- x = e; what is new becomes the slot's own -/
def wSetO (i : Nat) (w : WE) : WS := fun P env => w env fun r e1 => match r with
  | .ow d => okSet e1 i ∧ P.nx (e1.set i (.ow false d))
  | .fz d => okSet e1 i ∧ P.nx (e1.set i (.fz d))
  | _ => False
theorem ss_setO {i : Nat} (h : SE K t w) : SS K (tAsg t (gName i)) (wSetO i w) := fun env σ Hz H P Q s w q =>
  h env σ Hz H _ _ s w fun r e1 v Hz1 H1 w1 s1 g1 r1 => by
    cases r with
    | br i => exact w1.elim
    | fz d =>
      obtain ⟨s2, g2⟩ := set_fz s1 w1.1 r1
      exact q.nx _ _ _ _ w1.2 s2 (g1.trans g2)
    | ow d =>
      obtain ⟨s2, g2⟩ := set_ow s1 g1 w1.1 r1
      exact q.nx _ _ _ _ w1.2 s2 g2
theorem gs_setO {x : Str} {pos' : Pos} {i : Nat} (h : GE X e t w) (hN : X.N.Nodup) (hi : X.N[i]? = some x := by rfl) (hx : Loc X.env.scope x := by first | exact .inl rfl | exact .inr rfl) (hf : X.fn x = true ∨ X.env.scope.names.lookup x = some .local := by first | exact .inl rfl | exact .inr rfl)
    (hs : swapsWithSole [Expr.Name x pos'] e pos.line X.env = pure false := by rfl) (hw : swappedStores [Expr.Name x pos'] e X.env = pure none := by rfl) : GS X (.Assign [.Name x pos'] e pos) (tAsg t (gName i)) (wSetO i w) := by
  obtain ⟨p, s1⟩ := h.ex
  exact ⟨ps_asg p (pg_name hN hi hx hf) hs hw, ss_setO s1⟩
/-- x op= e, on values that stand still -/
def wAug (i : Nat) (f : D → D → (R → Prop) → Prop) (w : WE) : WS := fun P env => match env[i]? with
  | some (.fz d) => w env fun r e1 => (match r.get e1 with
    | some y => okSet e1 i ∧ f d y fun z => (match z with
      | .fz d' => P.nx (e1.set i (.fz d'))
      | _ => False)
    | none => False)
  | _ => False
theorem gs_aug {x : Str} {pos' : Pos} {i : Nat} {op : Operator} {ti : TIp} {f : D → D → (R → Prop) → Prop} (ho : PIp X op ti) (hf2 : SR2 X.K ti f) (h : GE X e t w) (hN : X.N.Nodup) (hi : X.N[i]? = some x := by rfl) (hx : Loc X.env.scope x := by first | exact .inl rfl | exact .inr rfl)
    (hf : X.fn x = true ∨ X.env.scope.names.lookup x = some .local := by first | exact .inl rfl | exact .inr rfl) : GS X (.AugAssign (.Name x pos') op e pos) (tAug i t ti) (wAug i f w) := by
  obtain ⟨p, s1⟩ := h.ex
  refine ⟨ps_aug hN hi hx p ho hf, fun env σ Hz H P Q s w q => ?_⟩
  unfold wAug at w
  cases ei : env[i]? with
  | none => simp only [ei] at w
  | some u =>
    cases u with
    | un => simp only [ei] at w
    | ow b d => simp only [ei] at w
    | fz d =>
      simp only [ei] at w
      obtain ⟨x0, hx0, y, rfl, ry⟩ := s.ent i _ ei
      refine ⟨y, hx0, s1 env σ Hz H _ _ s w fun r e1 v Hz1 H1 w1 st1 g1 r1 => ?_⟩
      cases er : r.get e1 with
      | none => simp only [er] at w1
      | some dy =>
        simp only [er] at w1
        refine hf2 e1 σ Hz1 H1 y v d dy _ _ st1 (.inl (ry.mono g1.ez)) (r1.top st1 er) w1.2 fun z v' Hz2 H2 w2 s2 g2 r2 => ?_
        cases z with
        | ow d' => exact w2.elim
        | br i => exact w2.elim
        | fz d' =>
          obtain ⟨s3, g3⟩ := set_fz s2 w1.1 r2
          exact q.nx _ _ _ _ w2 s3 ((g1.trans g2).trans g3)
/-- while, by a word and what falls -/
def wWhile (c : WT) (b : WS) : WS := fun P env => ∃ W : Nat → Ev → Prop, (∃ m, W m env) ∧ ∀ m e, W m e → c e fun k e1 => if k = true then b { P with nx := fun e2 => ∃ m', m' < m ∧ W m' e2, ct := fun e2 => ∃ m', m' < m ∧ W m' e2, bk := P.nx } e1 else P.nx e1
theorem gs_while (hp : PassesOwn (model X.prog X.w) X.A X.env X.xe) (h0 : GT X c tt wt) (h1 : GB X body ts ws) : GS X (.While c body [] pos) (tWhile tt ts) (wWhile wt ws) := by
  obtain ⟨p0, s0⟩ := h0.ex
  obtain ⟨p1, s1⟩ := h1.ex
  refine ⟨ps_while hp p0 p1, fun env σ Hz H P Q s w q => ?_⟩
  obtain ⟨W, ⟨m0, w0⟩, turn⟩ := w
  refine ⟨fun m σ' H' => ∃ e' Hz', W m e' ∧ St2 X.K e' σ' Hz' H' ∧ Go env σ Hz H e' σ' Hz' H', ⟨m0, env, Hz, w0, s, .refl⟩, fun m σ' H' ⟨e', Hz', hw, st, gg⟩ => ?_⟩
  refine s0 e' σ' Hz' H' _ _ st (turn m e' hw) fun k e1 Hz1 H1 w1 st1 g1 => ?_
  cases k with
  | false => exact q.nx _ _ _ _ w1 st1 (gg.trans g1)
  | true =>
    refine ⟨fun σ2 H2 => ∃ m', m' < m ∧ ∃ e2 Hz2, W m' e2 ∧ St2 X.K e2 σ2 Hz2 H2 ∧ Go env σ Hz H e2 σ2 Hz2 H2, fun σ2 H2 h => h, ?_⟩
    have w1 : ws { P with nx := fun e2 => ∃ m', m' < m ∧ W m' e2, ct := fun e2 => ∃ m', m' < m ∧ W m' e2, bk := P.nx } e1 := w1
    have g0 := gg.trans g1
    have again : ∀ {e2 : Ev} {σ2 : L2.St} {Hz2 H2 : Hp}, (∃ m', m' < m ∧ W m' e2) → St2 X.K e2 σ2 Hz2 H2 → Go e1 σ' Hz1 H1 e2 σ2 Hz2 H2 → ∃ m', m' < m ∧ ∃ e2 Hz2, W m' e2 ∧ St2 X.K e2 σ2 Hz2 H2 ∧ Go env σ Hz H e2 σ2 Hz2 H2 :=
      fun ⟨m', l, hw'⟩ st2 g2 => ⟨m', l, _, _, hw', st2, g0.trans g2⟩
    exact s1 e1 σ' Hz1 H1 _ _ st1 w1 ⟨fun _ _ _ _ p st2 g2 => again p st2 g2, fun _ _ _ _ p st2 g2 => q.nx _ _ _ _ p st2 (g0.trans g2), fun _ _ _ _ p st2 g2 => again p st2 g2, fun _ _ _ _ _ _ p st2 g2 r => q.rt _ _ _ _ _ _ p st2 (g0.trans g2) (r.back st1 g0)⟩
end
end G

namespace G
open PySem L2
/-! ### what is walked: its items as data -/
def WkD (K : PySem.W.Frag) (J : It) (ds : List D) (Hz0 : Hp) : Prop := Walk J ds.length (fun H => Same Hz0 H) fun i H x H' => ∃ d, ds[i]? = some d ∧
  ∀ (env : Ev) (σ : L2.St) (Hz : Hp), St2 K env σ Hz H → Same Hz0 Hz → ∃ Hz', St2 K env σ Hz' H' ∧ Go env σ Hz H env σ Hz' H' ∧ Rep K Hz' x d
abbrev WI := Ev → (List D → Ev → Prop) → Prop
def SI (K : PySem.W.Frag) (wi : TI) (w : WI) : Prop := ∀ (env : Ev) (σ : L2.St) (Hz H : Hp) (P : List D → Ev → Prop) (Q : It → Hp → Prop), St2 K env σ Hz H → w env P →
  (∀ ds env' J Hz' H', P ds env' → St2 K env' σ Hz' H' → Go env σ Hz H env' σ Hz' H' → WkD K J ds Hz' → Q J H') → wi σ H Q
structure GI (X : Cx) (tg e : Expr) (t : TI) (w : WI) : Prop where
  ex : PI X tg e t ∧ SI X.K t w
section
variable {X : Cx} {K : PySem.W.Frag} {env env' env0 env1 env2 : Ev} {σ σ' σ0 σ1 σ2 : L2.St} {H0 Hz H Hz0 Hz' H' Hz1 H1 Hz2 H2 : Hp} {v : V} {r : R} {d : D} {i : Nat} {w : WE} {t : TE} {tg e : Expr} {wa : WA2} {ta : TA}
theorem wk_list {a : Addr} {xs : List V} {ds : List D} (h : SqL K Hz a xs) (r : Reps K Hz xs ds) : WkD K (Itl K a) ds Hz := by
  have e := r.len
  unfold WkD
  rw [← e]
  refine (walk_list (K := K) (a := a) (xs := xs)).mono (fun H s => seqL s h) fun i H x H' hi s y => ?_
  obtain ⟨rfl, e2⟩ := y
  obtain ⟨d, e3, r3⟩ := r.get' e2
  exact ⟨d, e3, fun env σ Hz' st s' => ⟨Hz', st, .refl, r3.mono s'⟩⟩
theorem wk_tup {a : Addr} {xs : List V} {ds : List D} (h : SqT K Hz a xs) (r : Reps K Hz xs ds) : WkD K (Itt K a) ds Hz := by
  have e := r.len
  unfold WkD
  rw [← e]
  refine (walk_tup (K := K) (a := a) (xs := xs)).mono (fun H s => seqT s h) fun i H x H' hi s y => ?_
  obtain ⟨rfl, e2⟩ := y
  obtain ⟨d, e3, r3⟩ := r.get' e2
  exact ⟨d, e3, fun env σ Hz' st s' => ⟨Hz', st, .refl, r3.mono s'⟩⟩
/-- for x in e, e a list that stands still (what is new comes to stand still) -/
def wiList (w : WE) : WI := fun env P => w env fun r e1 => match r.fzd with
  | some (.list ds) => P ds e1
  | _ => False
def wiTup (w : WE) : WI := fun env P => w env fun r e1 => match r with
  | .fz (.tuple ds) => P ds e1
  | _ => False
theorem gi_list (h : GE X e t w) : GI X tg e (iList X.K t) (wiList w) := by
  obtain ⟨p, s1⟩ := h.ex
  refine ⟨pi_list p, fun env σ Hz H P Q s w q => s1 env σ Hz H _ _ s w fun r e1 v Hz1 H1 w1 s1 g1 r1 => ?_⟩
  cases ef : r.fzd with
  | none => simp only [ef] at w1
  | some d =>
    simp only [ef] at w1
    obtain ⟨Hz', s', g', ez, _, rp⟩ := freezeR s1 g1 r1 ef
    cases d <;> first | exact w1.elim | skip
    cases rp with
    | lst h1 h2 => exact ⟨_, rfl, ⟨_, seqL s'.sub h1⟩, q _ _ _ _ _ w1 s' g' (wk_list h1 h2)⟩
theorem gi_tup (h : GE X e t w) : GI X tg e (iTup X.K t) (wiTup w) := by
  obtain ⟨p, s1⟩ := h.ex
  refine ⟨pi_tup p, fun env σ Hz H P Q s w q => s1 env σ Hz H _ _ s w fun r e1 v Hz1 H1 w1 s1 g1 r1 => ?_⟩
  cases r <;> first | exact w1.elim | skip
  rename_i d
  cases d <;> first | exact w1.elim | skip
  cases r1 with
  | tup h1 h2 => exact ⟨_, rfl, ⟨_, seqT s1.sub h1⟩, q _ _ _ _ _ w1 s1 g1 (wk_tup h1 h2)⟩
/-- the rngD from lo on, n of them -/
def rngD (lo : Int) (n : Nat) : List D := (List.range n).map fun i : Nat => PyData.int (lo + (i : Int))
theorem rngD_length (lo : Int) (n : Nat) : (rngD lo n).length = n := by unfold rngD; rw [List.length_map, List.length_range]
theorem rngD_get {lo : Int} {n i : Nat} (h : i < n) : (rngD lo n)[i]? = some (.int (lo + (i : Int))) := by
  unfold rngD
  rw [List.getElem?_map, List.getElem?_range h]; rfl
theorem wk_range {lo : Int} {n : Nat} : WkD K (Itr lo n) (rngD lo n) Hz := by
  unfold WkD
  rw [rngD_length]
  refine (walk_range (lo := lo) (n := n)).mono (fun H s => trivial) fun i H x H' hi s y => ?_
  obtain ⟨rfl, rfl⟩ := y
  exact ⟨_, rngD_get hi, fun env σ Hz' st s' => ⟨Hz', st, .refl, .int _⟩⟩
def wiRange1 (w : WA2) : WI := fun env P => w env fun ds e1 => match ds with
  | [.int j] => (-(2 ^ 62) ≤ j ∧ j < 2 ^ 62) ∧ P (rngD 0 j.toNat) e1
  | _ => False
def wiRange2 (w : WA2) : WI := fun env P => w env fun ds e1 => match ds with
  | [.int i, .int j] => (-(2 ^ 62) ≤ i ∧ i < 2 ^ 62 ∧ -(2 ^ 62) ≤ j ∧ j < 2 ^ 62) ∧ P (rngD i (j - i).toNat) e1
  | _ => False
theorem reps1 {vs : List V} {d : D} (h : Reps K Hz vs [d]) : ∃ v, vs = [v] ∧ Rep K Hz v d := by
  cases h with
  | cons h r => cases r; exact ⟨_, rfl, h⟩
theorem reps2 {vs : List V} {d d' : D} (h : Reps K Hz vs [d, d']) : ∃ v u, vs = [v, u] ∧ Rep K Hz v d ∧ Rep K Hz u d' := by
  cases h with
  | cons h r => obtain ⟨u, rfl, r'⟩ := reps1 r; exact ⟨_, _, rfl, h, r'⟩
theorem gi_range1 {a : Expr} {p pos : Pos} (hg : Gl X "range") (hm : X.mg "range" = none) (ha : GA X [a] ta wa) (hs : starEach [a] X.env = [(false, eval a X.env)] := by rfl) : GI X tg (.Call (.Name "range" p) [a] [] pos) (iRng1 ta) (wiRange1 wa) := by
  obtain ⟨p, s1⟩ := ha.ex
  refine ⟨pi_range1 hg hm p hs, fun env σ Hz H P Q s w q => s1 env σ Hz H _ _ s w fun ds e1 vs Hz1 H1 w1 s1 g1 r1 => ?_⟩
  rcases ds with _ | ⟨d, _ | ⟨d2, l⟩⟩
  · exact w1.elim
  · cases d <;> first | exact w1.elim | skip
    obtain ⟨v, rfl, rv⟩ := reps1 r1
    cases rv
    exact ⟨_, rfl, w1.1.1, w1.1.2, q _ _ _ _ _ w1.2 s1 g1 wk_range⟩
  · cases d <;> exact w1.elim
theorem gi_range2 {a b : Expr} {p pos : Pos} (hg : Gl X "range") (hm : X.mg "range" = none) (ha : GA X [a, b] ta wa) (hs : starEach [a, b] X.env = [(false, eval a X.env), (false, eval b X.env)] := by rfl) (hs2 : starEach [b] X.env = [(false, eval b X.env)] := by rfl) : GI X tg (.Call (.Name "range" p) [a, b] [] pos) (iRng2 ta) (wiRange2 wa) := by
  obtain ⟨p, s1⟩ := ha.ex
  refine ⟨pi_range2 hg hm p hs hs2, fun env σ Hz H P Q s w q => s1 env σ Hz H _ _ s w fun ds e1 vs Hz1 H1 w1 s1 g1 r1 => ?_⟩
  rcases ds with _ | ⟨d, _ | ⟨d2, _ | ⟨d3, l⟩⟩⟩
  · exact w1.elim
  · cases d <;> exact w1.elim
  · cases d <;> first | exact w1.elim | skip
    cases d2 <;> first | exact w1.elim | skip
    obtain ⟨v, u, rfl, rv, ru⟩ := reps2 r1
    cases rv
    cases ru
    exact ⟨_, _, rfl, w1.1, q _ _ _ _ _ w1.2 s1 g1 wk_range⟩
  · cases d <;> first | exact w1.elim | skip
    cases d2 <;> exact w1.elim
/-- a text, sign by sign -/
def signs (z : Str) : List D := z.cps.toList.map fun c => PyData.str ⟨#[c]⟩
theorem wk_str {z : Str} : WkD K (Its z) (signs z) Hz := by
  have e : (signs z).length = z.cps.size := by unfold signs; rw [List.length_map, Array.length_toList]
  unfold WkD
  rw [e]
  refine (walk_str (z := z)).mono (fun H s => trivial) fun i H x H' hi s y => ?_
  obtain ⟨rfl, c, hc, rfl⟩ := y
  refine ⟨_, ?_, fun env σ Hz' st s' => ⟨Hz', st, .refl, .str _⟩⟩
  unfold signs
  rw [List.getElem?_map, Array.getElem?_toList, hc]; rfl
def wiStr (w : WE) : WI := fun env P => w env fun r e1 => match r with
  | .fz (.str z) => P (signs z) e1
  | _ => False
/-- (i, x) of the i-th item x -/
def pairs (ds : List D) : List D := (List.range ds.length).map fun i : Nat => PyData.tuple [.int (i : Int), ds.getD i .none]
theorem pairs_length (ds : List D) : (pairs ds).length = ds.length := by unfold pairs; rw [List.length_map, List.length_range]
theorem pairs_get {ds : List D} {i : Nat} {d : D} (h : ds[i]? = some d) : (pairs ds)[i]? = some (.tuple [.int (i : Int), d]) := by
  have hi : i < ds.length := by
    rcases Nat.lt_or_ge i ds.length with q | q
    · exact q
    · rw [List.getElem?_eq_none q] at h; cases h
  unfold pairs
  rw [List.getElem?_map, List.getElem?_range hi]
  show some (PyData.tuple [.int (i : Int), ds.getD i .none]) = _
  rw [List.getD_eq_getElem?_getD, h]; rfl
theorem wk_enum {a : Addr} {xs : List V} {ds : List D} (h : SqL K Hz a xs) (r : Reps K Hz xs ds) : WkD K (Ite K a) (pairs ds) Hz := by
  have e := r.len
  unfold WkD
  rw [pairs_length, ← e]
  refine (walk_enum (K := K) (a := a) (xs := xs)).mono (fun H s => seqL s h) fun i H x H' hi s y => ?_
  obtain ⟨T, x1, x2, rfl, hT, rfl, e1, e2⟩ := y
  have e1 : V.int (i : Int) = x1 := Option.some.inj e1
  subst e1
  obtain ⟨d, e3, r3⟩ := r.get' e2
  refine ⟨_, pairs_get e3, fun env σ Hz' st s' => ?_⟩
  obtain ⟨Hz2, st2, g2, r2⟩ := new_tup (K := K) (env := env) (σ := σ) (Hz := Hz') st hT (xs := [.int (i : Int), x2]) (ds := [.int (i : Int), d]) (.cons (.int _) (.cons (r3.mono s') .nil))
  exact ⟨Hz2, st2, g2, r2⟩
theorem gi_str (h : GE X e t w) : GI X tg e (iStr t) (wiStr w) := by
  obtain ⟨p, s1⟩ := h.ex
  refine ⟨pi_str p, fun env σ Hz H P Q s w q => s1 env σ Hz H _ _ s w fun r e1 v Hz1 H1 w1 s1 g1 r1 => ?_⟩
  cases r <;> first | exact w1.elim | skip
  rename_i d
  cases d <;> first | exact w1.elim | skip
  cases r1
  exact ⟨_, rfl, q _ _ _ _ _ w1 s1 g1 wk_str⟩
def wiEnum (w : WA2) : WI := fun env P => w env fun ds e1 => match ds with
  | [.list ds] => P (pairs ds) e1
  | _ => False
theorem gi_enum {a : Expr} {p pos tpos : Pos} {elts : List Expr} {kk : Nat} (hg : Gl X "enumerate") (hm : X.mg "enumerate" = none) (ha : GA X [a] ta wa) (hs : starEach [a] X.env = [(false, eval a X.env)] := by rfl) : GI X (.Tuple elts kk tpos) (.Call (.Name "enumerate" p) [a] [] pos) (iEnum X.K ta) (wiEnum wa) := by
  obtain ⟨p, s1⟩ := ha.ex
  refine ⟨pi_enum hg hm p hs, fun env σ Hz H P Q s w q => s1 env σ Hz H _ _ s w fun ds e1 vs Hz1 H1 w1 s1 g1 r1 => ?_⟩
  rcases ds with _ | ⟨d, _ | ⟨d2, l⟩⟩
  · exact w1.elim
  · cases d <;> first | exact w1.elim | skip
    obtain ⟨v, rfl, rv⟩ := reps1 r1
    cases rv with
    | lst h1 h2 => exact ⟨_, _, rfl, seqL s1.sub h1, q _ _ _ _ _ w1 s1 g1 (wk_enum h1 h2)⟩
  · cases d <;> exact w1.elim
/-! ### for -/
variable {body : List Stmt} {pos : Pos} {wi : WI} {ti : TI} {g : TG} {sl : List Nat} {wg : WG} {ws : WS} {ts : TS}
def wFor (wi : WI) (wg : WG) (b : WS) : WS := fun P env => wi env fun ds e1 => ∃ W : List D → Ev → Prop, W ds e1 ∧
  (∀ d l e, W (d :: l) e → wg d e fun e2 => b { P with nx := W l, ct := W l, bk := P.nx } e2) ∧ ∀ e, W [] e → P.nx e
theorem ss_for (hi : SI K ti wi) (hg : SG K g sl wg) (hb : SS K ts ws) : SS K (tFor ti g ts) (wFor wi wg ws) := by
  intro env σ Hz H P Q s w q
  refine hi env σ Hz H _ _ s w fun ds e1 J Hz1 H1 w1 s1 g1 wk => ?_
  obtain ⟨W, w0, turn, done⟩ := w1
  have wkW : Walk J ds.length (fun H => Same Hz1 H) _ := wk
  refine for_it wkW (fun i σ' H' => ∃ e' Hz', W (ds.drop i) e' ∧ St2 K e' σ' Hz' H' ∧ Go e1 σ Hz1 H1 e' σ' Hz' H') ⟨e1, Hz1, w0, s1, .refl⟩ (fun i σ' H' _ ⟨e', Hz', _, st, gg⟩ => gg.ez.trans st.sub)
    (fun i x σ' Hx H' hi' ⟨e', Hz', hw, st, gg⟩ y => ?_) fun σ' H' ⟨e', Hz', hw, st, gg⟩ => ?_
  · obtain ⟨d, ed, y⟩ := y
    have el : ds.drop i = d :: ds.drop (i + 1) := by
      rw [List.drop_eq_getElem_cons hi']
      rw [List.getElem?_eq_getElem hi'] at ed
      cases ed; rfl
    rw [el] at hw
    obtain ⟨Hz2, st2, g2, r2⟩ := y e' σ' Hz' st gg.ez
    refine hg e' σ' Hz2 H' _ _ _ _ st2 r2 (turn d _ e' hw) fun e3 σ3 w3 st3 g3 _ => ?_
    have g0 := g1.trans ((gg.trans g2).trans g3)
    have g0' := (gg.trans g2).trans g3
    exact hb e3 σ3 Hz2 H' _ _ st3 w3 ⟨fun _ _ _ _ p st4 g4 => ⟨_, _, p, st4, g0'.trans g4⟩, fun _ _ _ _ p st4 g4 => q.nx _ _ _ _ p st4 (g0.trans g4), fun _ _ _ _ p st4 g4 => ⟨_, _, p, st4, g0'.trans g4⟩,
      fun _ _ _ _ _ _ p st4 g4 r => q.rt _ _ _ _ _ _ p st4 (g0.trans g4) (r.back st3 g0)⟩
  · rw [List.drop_length] at hw
    exact q.nx _ _ _ _ (done e' hw) st (g1.trans gg)
theorem gs_for {tg iter : Expr} (hp : PassesOwn (model X.prog X.w) X.A X.env X.xe) (hc : X.calm = true) (hi : GI X tg iter ti wi) (hg : GG X tg g sl wg) (hb : GB X body ts ws) (hs : ∀ x, foldedSetIterable iter X.env x = pure x := by intro _; rfl) :
    GS X (.For tg iter body [] pos) (tFor ti g ts) (wFor wi wg ws) := by
  obtain ⟨p1, s1⟩ := hi.ex
  obtain ⟨p2, s2⟩ := hg.ex
  obtain ⟨p3, s3⟩ := hb.ex
  exact ⟨ps_for hp hc p1 p2 p3 hs, ss_for s1 s2 s3⟩
end
/-! ### comprehensions -/
def wipeE (env : Ev) : List Nat → Ev
  | [] => env
  | v :: vs => (wipeE env vs).set v .un
/-- the slots vs of env, the others of env' -/
def restE (env env' : Ev) : List Nat → Ev
  | [] => env'
  | v :: vs => (restE env env' vs).set v (env.getD v .un)
theorem wipeE_length (env : Ev) : ∀ vs, (wipeE env vs).length = env.length
  | [] => rfl
  | v :: vs => by unfold wipeE; rw [List.length_set, wipeE_length env vs]
theorem wipeE_in {env : Ev} {i : Nat} : ∀ {vs : List Nat}, i ∈ vs → i < env.length → (wipeE env vs)[i]? = some .un
  | v :: vs, h, l => by
    unfold wipeE
    by_cases c : v = i
    · subst c
      rw [List.getElem?_set_self (by rw [wipeE_length]; exact l)]
    · rw [List.getElem?_set_ne c]
      rcases List.mem_cons.mp h with h | h
      · exact absurd h.symm c
      · exact wipeE_in h l
theorem wipeE_out {env : Ev} {i : Nat} : ∀ {vs : List Nat}, i ∉ vs → (wipeE env vs)[i]? = env[i]?
  | [], _ => rfl
  | v :: vs, h => by
    unfold wipeE
    rw [List.getElem?_set_ne fun c => h (by rw [c]; exact List.mem_cons_self)]
    exact wipeE_out fun z => h (List.mem_cons_of_mem _ z)
theorem restE_length (env env' : Ev) : ∀ vs, (restE env env' vs).length = env'.length
  | [] => rfl
  | v :: vs => by unfold restE; rw [List.length_set, restE_length env env' vs]
theorem restE_in {env env' : Ev} {i : Nat} : ∀ {vs : List Nat}, i ∈ vs → i < env.length → env'.length = env.length → (restE env env' vs)[i]? = env[i]?
  | v :: vs, h, l, e => by
    unfold restE
    by_cases c : v = i
    · subst c
      rw [List.getElem?_set_self (by rw [restE_length, e]; exact l), List.getD_eq_getElem?_getD, List.getElem?_eq_getElem l]; rfl
    · rw [List.getElem?_set_ne c]
      rcases List.mem_cons.mp h with h | h
      · exact absurd h.symm c
      · exact restE_in h l e
theorem restE_out {env env' : Ev} {i : Nat} : ∀ {vs : List Nat}, i ∉ vs → (restE env env' vs)[i]? = env'[i]?
  | [], _ => rfl
  | v :: vs, h => by
    unfold restE
    rw [List.getElem?_set_ne fun c => h (by rw [c]; exact List.mem_cons_self)]
    exact restE_out fun z => h (List.mem_cons_of_mem _ z)
theorem wipe_in {σ : L2.St} {i : Nat} : ∀ {vs : List Nat}, i ∈ vs → i < σ.length → (wipe σ vs)[i]? = some none
  | v :: vs, h, l => by
    unfold wipe
    by_cases c : v = i
    · subst c
      rw [List.getElem?_set_self (by rw [wipe_length]; exact l)]
    · rw [List.getElem?_set_ne c]
      rcases List.mem_cons.mp h with h | h
      · exact absurd h.symm c
      · exact wipe_in h l
theorem wipe_eq {σ σ' : L2.St} {vs : List Nat} (l : σ'.length = σ.length) (h : ∀ i, i ∉ vs → σ'[i]? = σ[i]?) : wipe σ' vs = wipe σ vs := by
  refine List.ext_getElem? fun i => ?_
  by_cases c : i ∈ vs
  · rcases Nat.lt_or_ge i σ.length with q | q
    · rw [wipe_in c q, wipe_in c (by rw [l]; exact q)]
    · rw [List.getElem?_eq_none (show (wipe σ' vs).length ≤ i by rw [wipe_length, l]; exact q), List.getElem?_eq_none (show (wipe σ vs).length ≤ i by rw [wipe_length]; exact q)]
  · rw [wipe_out c, wipe_out c]; exact h i c
section
variable {X : Cx} {K : PySem.W.Frag} {env env' env0 env1 env2 : Ev} {σ σ' σ0 σ1 σ2 : L2.St} {H0 Hz H Hz0 Hz' H' Hz1 H1 Hz2 H2 : Hp} {v : V} {r : R} {d : D} {i : Nat} {vs : List Nat}
theorem wiped_ow {p : Bool} {d : D} (h : (wipeE env vs)[i]? = some (.ow p d)) : i ∉ vs ∧ env[i]? = some (.ow p d) := by
  by_cases c : i ∈ vs
  · rcases Nat.lt_or_ge i env.length with q | q
    · rw [wipeE_in c q] at h; cases h
    · rw [List.getElem?_eq_none (by rw [wipeE_length]; exact q)] at h; cases h
  · rw [wipeE_out c] at h; exact ⟨c, h⟩
theorem St2.wipe (s : St2 K env σ Hz H) : St2 K (wipeE env vs) (wipe σ vs) Hz H := by
  refine ⟨by rw [wipeE_length, wipe_length]; exact s.len, s.sub, fun j u q => ?_, fun j k p q d1 d2 a q1 q2 r1 r2 => ?_⟩
  · by_cases c : j ∈ vs
    · rcases Nat.lt_or_ge j env.length with l | l
      · rw [wipeE_in c l] at q
        cases q
        exact ⟨none, wipe_in c (by rw [← s.len]; exact l), trivial⟩
      · rw [List.getElem?_eq_none (by rw [wipeE_length]; exact l)] at q; cases q
    · rw [wipeE_out c] at q
      rw [wipe_out c]
      exact s.ent j u q
  · obtain ⟨c1, e1⟩ := wiped_ow q1
    obtain ⟨c2, e2⟩ := wiped_ow q2
    rw [wipe_out c1] at r1
    rw [wipe_out c2] at r2
    exact s.dis j k p q d1 d2 a e1 e2 r1 r2
theorem own_wiped {a : Addr} (h : Own (wipeE env vs) (wipe σ vs) a) : Own env σ a := by
  obtain ⟨j, p, d, h1, h2⟩ := h
  obtain ⟨c, e⟩ := wiped_ow h1
  rw [wipe_out c] at h2
  exact ⟨j, p, d, e, h2⟩
/-- behind a turn of the block -/
theorem Go.wipe (g : Go (wipeE env0 vs) (wipe σ0 vs) Hz H env1 σ1 Hz1 H1) : Go (wipeE env0 vs) (wipe σ0 vs) Hz H (wipeE env1 vs) (wipe σ1 vs) Hz1 H1 := by
  refine ⟨g.ez, g.nz, g.kp, g.dm, fun a q => g.ow a (own_wiped q), fun j d q => ?_, by rw [wipe_length]; exact g.ln⟩
  obtain ⟨c, _⟩ := wiped_ow q
  obtain ⟨⟨d', e1⟩, e2⟩ := g.pin j d q
  exact ⟨⟨d', by rw [wipeE_out c]; exact e1⟩, by rw [wipe_out c]; exact e2⟩
/-- behind the block -/
theorem lc_after {Da : Addr} {xs : List V} {acc : List D} (s1 : St2 K env1 σ Hz1 H1) (hD : H1 Da = none) (s2 : St2 K env2 (L2.wipe σ vs) Hz2 H2) (g : Go (wipeE env1 vs) (L2.wipe σ vs) Hz1 H1 env2 (L2.wipe σ vs) Hz2 H2) (Dz : Hz2 Da = none) (no : ¬ Own env2 (L2.wipe σ vs) Da)
    (e : H2 Da = some (.lst xs)) (r : Reps K Hz2 xs acc) : St2 K (restE env1 env2 vs) σ Hz2 H2 ∧ Go env1 σ Hz1 H1 (restE env1 env2 vs) σ Hz2 H2 ∧ RepR K (restE env1 env2 vs) σ H1 Hz2 H2 (.ref Da) (.ow (.list acc)) := by
  have ln : env2.length = env1.length := by rw [s2.len, s1.len, wipe_length]
  have get : ∀ (j : Nat) (u : E), (restE env1 env2 vs)[j]? = some u → (j ∈ vs ∧ env1[j]? = some u) ∨ (j ∉ vs ∧ env2[j]? = some u) := fun j u q => by
    by_cases c : j ∈ vs
    · rcases Nat.lt_or_ge j env1.length with l | l
      · rw [restE_in c l ln] at q; exact .inl ⟨c, q⟩
      · rw [List.getElem?_eq_none (by rw [restE_length, ln]; exact l)] at q; cases q
    · rw [restE_out c] at q; exact .inr ⟨c, q⟩
  -- an object of a hidden slot is none of the block's own
  have hid : ∀ {j : Nat} {p : Bool} {d : D} {a : Addr}, j ∈ vs → env1[j]? = some (.ow p d) → σ[j]? = some (some (.ref a)) → ¬ Own (wipeE env1 vs) (L2.wipe σ vs) a := fun {j p d a} c q1 q2 ⟨k, p', d', k1, k2⟩ => by
    obtain ⟨c', e1⟩ := wiped_ow k1
    rw [wipe_out c'] at k2
    exact c' ((s1.dis j k p p' d d' a q1 e1 q2 k2) ▸ c)
  have own2 : ∀ {a : Addr}, Own env2 (L2.wipe σ vs) a → Own (wipeE env1 vs) (L2.wipe σ vs) a ∨ H1 a = none := fun {a} q => by
    rcases g.ow a q with z | z
    · exact .inl z
    · exact .inr z
  have nodup : ∀ {j k : Nat} {p q : Bool} {d1 d2 : D} {a : Addr}, j ∈ vs → env1[j]? = some (.ow p d1) → σ[j]? = some (some (.ref a)) → k ∉ vs → env2[k]? = some (.ow q d2) → σ[k]? = some (some (.ref a)) → False := fun {j k p q d1 d2 a} c1 e1 r1 c2 e2 r2 => by
    rcases own2 (a := a) ⟨k, q, d2, e2, by rw [wipe_out c2]; exact r2⟩ with z | z
    · exact hid c1 e1 r1 z
    · obtain ⟨_, o, ho⟩ := Own.lt s1 (a := a) ⟨j, p, d1, e1, r1⟩
      rw [ho] at z; cases z
  refine ⟨⟨by rw [restE_length, ln]; exact s1.len, s2.sub, fun j u q => ?_, fun j k p q d1 d2 a q1 q2 r1 r2 => ?_⟩, ⟨g.ez, fun a q => ?_, fun a o q n => ?_, fun a q => ?_, fun a q => ?_, fun j d q => ⟨?_, rfl⟩, rfl⟩, Da, _, rfl, hD, e, Dz, fun q => ?_, r⟩
  · rcases get j u q with ⟨c, q⟩ | ⟨c, q⟩
    · obtain ⟨x, hx, ok⟩ := s1.ent j u q
      refine ⟨x, hx, ?_⟩
      cases u with
      | un => trivial
      | fz d => obtain ⟨y, z, ok⟩ := ok; exact ⟨y, z, ok.mono g.ez⟩
      | ow p d =>
        obtain ⟨a, o, z, h1, h2, h3⟩ := ok
        subst z
        have nh := hid c q hx
        refine ⟨a, o, rfl, g.kp a o h1 nh, ?_, h3.mono g.ez⟩
        cases cz : Hz2 a with
        | none => rfl
        | some u =>
          rcases g.nz a (by rw [cz]; exact fun z => nomatch z) with z | z | z
          · exact absurd h2 z
          · rw [h1] at z; cases z
          · exact absurd z nh
    · obtain ⟨x, hx, ok⟩ := s2.ent j u q
      rw [wipe_out c] at hx
      exact ⟨x, hx, ok⟩
  · rcases get j _ q1 with ⟨c1, e1⟩ | ⟨c1, e1⟩
    · rcases get k _ q2 with ⟨c2, e2⟩ | ⟨c2, e2⟩
      · exact s1.dis j k p q d1 d2 a e1 e2 r1 r2
      · exact (nodup c1 e1 r1 c2 e2 r2).elim
    · rcases get k _ q2 with ⟨c2, e2⟩ | ⟨c2, e2⟩
      · exact (nodup c2 e2 r2 c1 e1 r1).elim
      · exact s2.dis j k p q d1 d2 a e1 e2 (by rw [wipe_out c1]; exact r1) (by rw [wipe_out c2]; exact r2)
  · rcases g.nz a q with z | z | z
    · exact .inl z
    · exact .inr (.inl z)
    · exact .inr (.inr (own_wiped z))
  · exact g.kp a o q fun z => n (own_wiped z)
  · exact g.dm a q
  · obtain ⟨j, p, d, q1, q2⟩ := q
    rcases get j _ q1 with ⟨c, q1⟩ | ⟨c, q1⟩
    · exact .inl ⟨j, p, d, q1, q2⟩
    · rcases own2 (a := a) ⟨j, p, d, q1, by rw [wipe_out c]; exact q2⟩ with z | z
      · exact .inl (own_wiped z)
      · exact .inr z
  · have l : j < env1.length := by
      rcases Nat.lt_or_ge j env1.length with l | l
      · exact l
      · rw [List.getElem?_eq_none l] at q; cases q
    by_cases c : j ∈ vs
    · rw [restE_in c l ln]; exact ⟨d, q⟩
    · obtain ⟨⟨d', q'⟩, _⟩ := g.pin j d (by rw [wipeE_out c]; exact q)
      rw [restE_out c]; exact ⟨d', q'⟩
  · obtain ⟨j, p, d, q1, q2⟩ := q
    rcases get j _ q1 with ⟨c, q1⟩ | ⟨c, q1⟩
    · exact own_ne s1 hD ⟨j, p, d, q1, q2⟩ rfl
    · exact no ⟨j, p, d, q1, by rw [wipe_out c]; exact q2⟩
abbrev WTs := WT
def wYes : WT := fun env P => P true env
/-- W: what is made so far, what is left, the slots (those of the block hidden) -/
def wLc (wi : WI) (wg : WG) (wt : WT) (we : WE) (vs : List Nat) : WE := fun env P => wi env fun ds e1 => ds.length ≤ sizeLine ∧ ∃ W : List D → List D → Ev → Prop, W [] ds (wipeE e1 vs) ∧
  (∀ acc d l e, W acc (d :: l) e → wg d e fun e2 => wt e2 fun k e3 => if k = true then we e3 fun r e4 => (match r.fzd with | some x => W (acc ++ [x]) l (wipeE e4 vs) | _ => False) else W acc l (wipeE e3 vs)) ∧
  ∀ acc e, W acc [] e → P (.ow (.list acc)) (restE e1 e vs)
variable {wi : WI} {ti : TI} {g : TG} {sl : List Nat} {wg : WG} {wt : WT} {tt : TT} {we : WE} {te : TE}
theorem se_lc (hi : SI K ti wi) (hg : SG K g sl wg) (hsl : ∀ j, j ∈ sl → j ∈ vs) (ht : ST K tt wt) (he : SE K te we) : SE K (tLc ti g tt te vs) (wLc wi wg wt we vs) := by
  intro env σ Hz H P Q s w q
  refine hi env σ Hz H _ _ s w fun ds e1 J Hz1 H1 w1 s1 g1 wk => ?_
  obtain ⟨small, W, w0, turn, done⟩ := w1
  intro Da hD
  have wkW : Walk J ds.length (fun H => Same Hz1 H) _ := wk
  have zD := z_none s1.sub hD
  have no1 : ¬ Own (wipeE e1 vs) (wipe σ vs) Da := fun z => own_ne s1 hD (own_wiped z) rfl
  have s1w : St2 K (wipeE e1 vs) (wipe σ vs) Hz1 (upd H1 Da (.lst [])) := (s1.wipe (vs := vs)).more (.refl _) (same_upd hD) (same_new s1.sub hD) fun a o => (Own.lt s1 (own_wiped o)).1
  have g1w : Go (wipeE e1 vs) (wipe σ vs) Hz1 H1 (wipeE e1 vs) (wipe σ vs) Hz1 (upd H1 Da (.lst [])) := go_laid hD (.refl _) fun a q => .inl q
  -- the list that is made: none of the block's own, not still
  have apart : ∀ {ea eb : Ev} {σa σb : L2.St} {Hza Ha Hzb Hb : Hp} {o : HO}, Go ea σa Hza Ha eb σb Hzb Hb → ¬ Own ea σa Da → Hza Da = none → Ha Da = some o → ¬ Own eb σb Da ∧ Hzb Da = none ∧ Hb Da = some o := fun {ea eb σa σb Hza Ha Hzb Hb o} gg no z e => by
    refine ⟨fun q => ?_, ?_, gg.kp Da o e no⟩
    · rcases gg.ow Da q with q | q
      · exact no q
      · rw [e] at q; cases q
    · cases c : Hzb Da with
      | none => rfl
      | some u =>
        rcases gg.nz Da (by rw [c]; exact fun z => nomatch z) with q | q | q
        · exact absurd z q
        · rw [e] at q; cases q
        · exact absurd q no
  refine lc_it (σ := σ) (vs := vs) wkW (fun i H' => ∃ acc e' Hz' xs, W acc (ds.drop i) e' ∧ St2 K e' (wipe σ vs) Hz' H' ∧ Go (wipeE e1 vs) (wipe σ vs) Hz1 H1 e' (wipe σ vs) Hz' H' ∧ H' Da = some (.lst xs) ∧ Reps K Hz' xs acc ∧ xs.length ≤ i ∧ Hz' Da = none ∧ ¬ Own e' (wipe σ vs) Da)
    ⟨[], _, Hz1, [], w0, s1w, g1w, upd_same, .nil, Nat.le_refl _, zD, no1⟩ (fun i H' _ ⟨acc, e', Hz', xs, _, st, gg, _⟩ => gg.ez.trans st.sub) (fun i x Hx H' hi' ⟨acc, e', Hz', xs, hw, st, gg, eD, rD, lD, zz, nn⟩ y => ?_) fun H' ⟨acc, e', Hz', xs, hw, st, gg, eD, rD, lD, zz, nn⟩ => ?_
  · obtain ⟨d, ed, y⟩ := y
    have el : ds.drop i = d :: ds.drop (i + 1) := by
      rw [List.drop_eq_getElem_cons hi']
      rw [List.getElem?_eq_getElem hi'] at ed
      cases ed; rfl
    rw [el] at hw
    obtain ⟨Hz2, st2, g2, r2⟩ := y e' (wipe σ vs) Hz' st gg.ez
    have gg2 := gg.trans g2
    refine hg e' (wipe σ vs) Hz2 H' _ _ _ _ st2 r2 (turn acc d _ e' hw) fun e3 σ3 w3 st3 g3 k3 => ?_
    have gg3 := gg2.trans g3
    have ww : wipe σ3 vs = wipe σ vs := by
      rw [wipe_eq g3.ln fun j hj => k3 j fun z => hj (hsl j z)]
      exact wipe_eq (wipe_length σ vs) fun j hj => wipe_out hj
    refine ⟨ww, ht e3 σ3 Hz2 H' _ _ st3 w3 fun k e4 Hz4 H4 w4 st4 g4 => ?_⟩
    have gs4 := (g2.trans g3).trans g4
    have gg4 := gg.trans gs4
    obtain ⟨nn4, zz4, eD4⟩ := apart gs4 nn zz eD
    have back : ∀ {e5 : Ev}, ¬ Own e5 σ3 Da → ¬ Own (wipeE e5 vs) (wipe σ vs) Da := fun {e5} n z => n (own_wiped (vs := vs) (by rw [ww]; exact z))
    cases k with
    | false =>
      have w4 : W acc (ds.drop (i + 1)) (wipeE e4 vs) := w4
      show ∃ acc e' Hz' xs, _
      refine ⟨acc, wipeE e4 vs, Hz4, xs, w4, ?_, ?_, eD4, rD.mono gs4.ez, Nat.le_succ_of_le lD, zz4, back nn4⟩
      · rw [← ww]; exact st4.wipe
      · have z := gg4.wipe
        rw [ww] at z; exact z
    | true =>
      have w4 : we e4 fun r e5 => (match r.fzd with | some x => W (acc ++ [x]) (ds.drop (i + 1)) (wipeE e5 vs) | _ => False) := w4
      refine he e4 σ3 Hz4 H4 _ _ st4 w4 fun r e5 v Hz5 H5 w5 st5 g5 r5 => ?_
      cases ef : r.fzd with
      | none => simp only [ef] at w5
      | some dx =>
        simp only [ef] at w5
        obtain ⟨Hz6, st6, g6, ez, nw, rp⟩ := freezeR st5 g5 r5 ef
        have gs6 := gs4.trans g6
        have gg6 := gg.trans gs6
        obtain ⟨nn6, zz6, eD6⟩ := apart gs6 nn zz eD
        have rr : Reps K Hz6 (xs ++ [v]) (acc ++ [dx]) := (rD.mono gs6.ez).app (.cons rp .nil)
        refine ⟨xs, eD6, Nat.lt_of_lt_of_le (Nat.lt_of_le_of_lt lD hi') small, acc ++ [dx], wipeE e5 vs, Hz6, xs ++ [v], w5, ?_, ?_, upd_same, rr, by rw [List.length_append]; exact Nat.succ_le_succ lD, zz6, back nn6⟩
        · have z := st6.wipe (vs := vs)
          rw [ww] at z
          refine ⟨z.len, fun b u hb => ?_, fun j u hj => ?_, z.dis⟩
          · have c : b ≠ Da := fun c => by rw [c, zz6] at hb; cases hb
            rw [upd_ne c]; exact z.sub b u hb
          · obtain ⟨x', hx', ok⟩ := z.ent j u hj
            refine ⟨x', hx', ?_⟩
            cases u with
            | un => trivial
            | fz d => exact ok
            | ow p d =>
              obtain ⟨b, u, z1, k1, k2, k3⟩ := ok
              subst z1
              have c : b ≠ Da := fun c => back nn6 (c ▸ ⟨j, p, d, hj, hx'⟩)
              exact ⟨b, u, rfl, by rw [upd_ne c]; exact k1, k2, k3⟩
        · have z := gg6.wipe
          rw [ww] at z
          refine ⟨z.ez, z.nz, fun b u hb n => ?_, fun b hb c => ?_, z.ow, z.pin, z.ln⟩
          · rw [upd_ne (ne_of_none hb hD)]; exact z.kp b u hb n
          · by_cases cb : b = Da
            · rw [cb, upd_same] at c; cases c
            · rw [upd_ne cb] at c; exact z.dm b hb c
  · rw [List.drop_length] at hw
    obtain ⟨a1, a2, a3⟩ := lc_after s1 hD st gg zz nn eD rD
    exact q _ _ _ _ _ (done acc e' hw) a1 (g1.trans a2) (a3.back g1.dm)
end
end G

namespace G
open PySem PySem.Spec L2
open PyProof.Rows (envOfC)
/-! ### defs: as the layer's FnOk, where it is known that no repr is under way -/
structure FnG (P : Program) (w : World) (K : PySem.W.Frag) (mg : Str → Option Value) (base : Heap) (k : Nat) (f : Addr) (fd : FuncData) (n : Nat) (ps : List Str) (sp : Sp) : Prop where
  arity : ∀ {vs H Q E}, sp vs H Q E → vs.length = ps.length
  goes : ∀ {A : Around} {outer : List Env} {s : Shared} {H : Hp} {args : Args} {us : List Value} {vs : List V} {Q : VK} {E : XK}, A.guards = some [] → Room k A → Env0 P w K mg base A outer s H → BindsTo s fd args (ps.zip us) → Vals vs us →
    sp vs H Q E → codeAny (model P w) A (.call (.ref f) args) (CR CX0 outer P w H s Q E) s
section
variable {P : Program} {w : World} {K : PySem.W.Frag} {mg : Str → Option Value} {base : Heap}
theorem FnG.up {j k n : Nat} {f : Addr} {fd : FuncData} {ps : List Str} {sp : Sp} (F : FnG P w K mg base j f fd n ps sp) (h : j ≤ k) : FnG P w K mg base k f fd n ps sp :=
  ⟨F.arity, fun g r => F.goes g (r.mono h)⟩
/-- a def's promise by its body -/
theorem FnG.of_body {x qual : Str} {st : Stmt} {f : Addr} {fd : FuncData} {N ps : List Str} {k n : Nat} {sp : Sp} (F : Fun K x qual st f fd) (S : FnScope N ps (defScope st)) (ar : ∀ {vs H Q E}, sp vs H Q E → vs.length = ps.length)
    (hb : ∀ {cdv : Value} {A : Around} {outer : List Env} {s : Shared} {H : Hp} {vs : List V} {Q : VK} {E : XK}, A.guards = some [] → Room k (A.deeper (envOfC qual (defScope st) s.heap.objs.size f cdv)) → sp vs H Q E →
      ∃ t, PSs (cxOf CX0 P w K mg base N qual (defScope st) f cdv A outer s H E) (defBody st) t ∧ t { nx := fun _ H' => Q .non H', rt := Q } (L2.start N vs) H) : FnG P w K mg base (k + 1) f fd n ps sp := by
  obtain ⟨cls, od, kwv, doc, pm, an, cdv, ctv, sl, rfl, look, code⟩ := F.ex
  refine ⟨ar, fun {A outer s H args us vs Q E} g room e0 binds rv q => ?_⟩
  have kin : K.In s.heap := e0.mod.kin.keeps fun b o e => (e0.bs b o e).1
  have nl : s.heap.NoLimit := e0.mod.nolimit.keeps fun b o e => (e0.bs b o e).1
  have kinds : ∀ y ∈ ps.zip us, (defScope st).names.lookup y.1 = some .local ∨ ((defScope st).names.lookup y.1 = some .cell ∧ ((cellsFrom (s.heap.objs.size + 1) (defScope st).names []).lookup y.1).isSome = true) := fun ⟨m, v⟩ hy =>
    (S.par m (List.of_mem_zip hy).1).imp id fun z => ⟨z, PySem.W.cellsFrom_some _ _ _ (.inl z)⟩
  refine codeAny_call_function room.depth (kin _ _ look) rfl S.co S.gen rfl (PySem.W.codeRec_of kin code) (binds _ _ _ _ (wpAny_newFunctionEnv_cells S.kind kinds fun en hen s1 call => ?_))
  subst hen
  obtain ⟨t, body, reading⟩ := hb (cdv := cdv) (outer := outer) (s := s) g (room.deeper _) q
  have inv := inv_start (CX := CX0) (K := K) (mg := mg) (base := base) (cd := cdv) (f := f) (E := E) S room.hd e0 (ar q) rv call
  refine ⟨nl.keeps call.toInCall.keep, codeAny_func (wpAny_mono (body.run [] s1 (L2.start N vs) H _ inv reading) (fun fl s2 hs => ?_) fun _ _ h => h)⟩
  match fl, hs with
  | .ret u, ⟨v, σ2, H2, J, r2, q2⟩ => exact ⟨v, H2, J.os, J.bare, J.base, J.hok, r2, q2⟩
  | .next, ⟨σ2, H2, J, q2⟩ => exact ⟨V.non, H2, J.os, J.bare, J.base, J.hok, rfl, q2⟩
  | .brk, ⟨_, _, _, no⟩ => exact no.elim
  | .cont, ⟨_, _, _, no⟩ => exact no.elim
section
variable {X : Cx} {k n : Nat} {f : Addr} {fd : FuncData} {ps : List Str} {sp : Sp} {E : XK} {x : Str} {p pos : Pos} {e : Expr} {es : List Expr} {t : TA} {ds : List Value} {dvs : List V}
theorem fnG_runs {pins : List (Addr × Obj)} {σ : L2.St} {H : Hp} {s : Shared} {Q : VK} {us : List Value} {vs : List V} (F : FnG X.prog X.w X.K X.mg X.base k f fd n ps sp) (g : X.A.guards = some []) (room : Room k X.A) (b : Binds X.K fd ps ds) (dv : Vals dvs ds)
    (I : Inv X pins σ H s) (r : Vals vs us) (q : sp (vs ++ dvs) H Q E0) : wpAny (model X.prog X.w) X.A (call (.ref f) us) (EP X pins σ Q) X.xe s := by
  have rr := r.append dv
  have ln : (us ++ ds).length = ps.length := rr.length.symm.trans (F.arity q)
  refine wpAny_call (codeAny_mono (F.goes (outer := X.stack) (args := ⟨us, []⟩) g room I.env0 (b s us I.kIn ln) rr q) fun res s2 hq => ?_)
  match res, hq with
  | .error _, no => exact no.elim
  | .ok (.ret u), hq => exact I.after hq
  | .ok .next, no => exact no.elim
  | .ok .brk, no => exact no.elim
  | .ok .cont, no => exact no.elim
theorem pe_callG (F : FnG X.prog X.w X.K X.mg X.base k f fd n ps sp) (g : X.A.guards = some []) (room : Room k X.A) (gl : Gl X x) (m : X.mg x = some (.ref f)) (kp : PySem.W.keepIn X.K (.ref f) = true) (b : Binds X.K fd ps ds) (dv : Vals dvs ds)
    (ha : PA X (e :: es) t) (hdb : (x == ("__debug__" : Str)) = false) (he : starEach (e :: es) X.env = (false, eval e X.env) :: starEach es X.env) (hpl : (backTo pos (starEach es X.env)).any (·.1) = false) :
    PE X (.Call (.Name x p) (e :: es) [] pos) (tCall sp dvs E0 t) := ⟨fun pins s σ H Q I q => wpAny_Call_Name_kw (ld_glob I gl m
      (PySem.W.callWith_K (h₀ := X.base) I.ok.mod.kin kp (thn (ha.run pos pins s σ H _ I q) fun us s1 ⟨vs, H1, I1, r, q1⟩ => ⟨I1.kIn, fnG_runs F g room b dv I1 r q1⟩) he hpl) hdb)⟩
theorem pe_callG0 (F : FnG X.prog X.w X.K X.mg X.base k f fd n ps sp) (g : X.A.guards = some []) (room : Room k X.A) (gl : Gl X x) (m : X.mg x = some (.ref f)) (kp : PySem.W.keepIn X.K (.ref f) = true) (b : Binds X.K fd ps ds) (dv : Vals dvs ds)
    (hdb : (x == ("__debug__" : Str)) = false) : PE X (.Call (.Name x p) [] [] pos) (tCall sp dvs E0 tNil) :=
  ⟨fun pins s σ H Q I q => wpAny_Call_Name_kw (ld_glob I gl m (PySem.W.callWith_K0 I.kIn kp (fnG_runs (us := []) F g room b dv I .nil q)) hdb)⟩
end
/-! ### promises over data -/
/-- no argument is changed: S says which data may come, and what is handed back -/
def spF (K : PySem.W.Frag) (n : Nat) (S : List D → (R → Prop) → Prop) : Sp := fun vs H Q _ => ∃ (Hz : Hp) (ds : List D) (P : R → Prop), ds.length = n ∧ Same Hz H ∧ Reps K Hz vs ds ∧ S ds P ∧
  ∀ r v Hz' H', P r → Same Hz Hz' → Same H H' → Same Hz' H' → (∀ a, Hz' a ≠ none → Hz a ≠ none ∨ H a = none) → RepR K [] [] H Hz' H' v r → Q v H'
/-- the first argument is an object that the def changes -/
def spT (K : PySem.W.Frag) (n : Nat) (S : D → List D → (R → D → Prop) → Prop) : Sp := fun vs H Q _ => ∃ (Hz : Hp) (d : D) (ds : List D) (P : R → D → Prop), ds.length + 1 = n ∧ St2 K (.ow true d :: ds.map .fz) (vs.map some) Hz H ∧ S d ds P ∧
  ∀ r d' v Hz' H', P r d' → (∀ j, r ≠ .br j) → St2 K (.ow true d' :: ds.map .fz) (vs.map some) Hz' H' → Go (.ow true d :: ds.map .fz) (vs.map some) Hz H (.ow true d' :: ds.map .fz) (vs.map some) Hz' H' →
    RepR K (.ow true d' :: ds.map .fz) (vs.map some) H Hz' H' v r → Q v H'
theorem spF_len {n : Nat} {S : List D → (R → Prop) → Prop} {vs : List V} {H : Hp} {Q : VK} {E : XK} (h : spF K n S vs H Q E) : vs.length = n := by
  obtain ⟨Hz, ds, P, hl, _, r, _⟩ := h
  exact r.len.trans hl
theorem spT_len {n : Nat} {S : D → List D → (R → D → Prop) → Prop} {vs : List V} {H : Hp} {Q : VK} {E : XK} (h : spT K n S vs H Q E) : vs.length = n := by
  obtain ⟨Hz, d, ds, P, hl, s, _⟩ := h
  have := s.len
  rw [List.length_cons, List.length_map, List.length_map] at this
  omega
theorem st2_start {Hz H : Hp} : ∀ {vs : List V} {ds : List D} (m : Nat), Same Hz H → Reps K Hz vs ds → St2 K (ds.map .fz ++ List.replicate m .un) (vs.map some ++ List.replicate m none) Hz H := fun {vs ds} m s r => by
  have ln := r.len
  have nf : ∀ (i : Nat) (p : Bool) (d : D), (ds.map E.fz ++ List.replicate m E.un)[i]? ≠ some (.ow p d) := fun i p d q => by
    rcases Nat.lt_or_ge i ds.length with c | c
    · rw [List.getElem?_append_left (by rw [List.length_map]; exact c), List.getElem?_map, List.getElem?_eq_getElem c] at q
      cases q
    · rw [List.getElem?_append_right (by rw [List.length_map]; exact c), List.getElem?_replicate] at q
      split at q <;> cases q
  refine ⟨by simp [ln], s, fun i u q => ?_, fun i j p p' d d' a q => absurd q (nf i p d)⟩
  rcases Nat.lt_or_ge i ds.length with c | c
  · rw [List.getElem?_append_left (by rw [List.length_map]; exact c), List.getElem?_map, List.getElem?_eq_getElem c] at q
    cases q
    obtain ⟨v, h1, h2⟩ := r.get (List.getElem?_eq_getElem c)
    refine ⟨some v, ?_, v, rfl, h2⟩
    rw [List.getElem?_append_left (by rw [List.length_map, ln]; exact c), List.getElem?_map, h1]; rfl
  · rw [List.getElem?_append_right (by rw [List.length_map]; exact c), List.getElem?_replicate, List.length_map] at q
    rw [List.getElem?_append_right (by rw [List.length_map, ln]; exact c), List.getElem?_replicate, List.length_map, ln]
    split at q
    · rename_i hh
      cases q
      exact ⟨none, if_pos hh, trivial⟩
    · cases q
theorem own_fz {ds : List D} {m : Nat} {σ : L2.St} {a : Addr} : ¬ Own (ds.map E.fz ++ List.replicate m E.un) σ a := fun ⟨i, p, d, q, _⟩ => by
  rcases Nat.lt_or_ge i ds.length with c | c
  · rw [List.getElem?_append_left (by rw [List.length_map]; exact c), List.getElem?_map, List.getElem?_eq_getElem c] at q
    cases q
  · rw [List.getElem?_append_right (by rw [List.length_map]; exact c), List.getElem?_replicate] at q
    split at q <;> cases q
theorem start_eq {N : List Str} {vs : List V} {n : Nat} (h : vs.length = n) : L2.start N vs = vs.map some ++ List.replicate (N.length - n) none := by
  unfold L2.start; rw [h]
/-- THE RULE for a def that changes no argument: its body over data -/
theorem fn_F {x qual : Str} {st : Stmt} {f : Addr} {fd : FuncData} {N ps : List Str} {k n m : Nat} {S : List D → (R → Prop) → Prop} (F : Fun K x qual st f fd) (C : FnScope N ps (defScope st)) (hn : ps.length = n) (hm : N.length - n = m)
    (hb : ∀ {cdv : Value} {A : Around} {outer : List Env} {s : Shared} {H : Hp} {E : XK}, A.guards = some [] → Room k (A.deeper (envOfC qual (defScope st) s.heap.objs.size f cdv)) → ∀ ds PP, ds.length = n → S ds PP →
      ∃ t ww, GB (cxOf CX0 P w K mg base N qual (defScope st) f cdv A outer s H E).nox (defBody st) t ww ∧ ww { nx := fun _ => PP (.fz .none), rt := fun r _ => PP r } (ds.map .fz ++ List.replicate m .un)) : FnG P w K mg base (k + 1) f fd n ps (spF K n S) := by
  refine FnG.of_body F C (fun q => (spF_len q).trans hn.symm) fun {cdv A outer s H vs Q E} g room q => ?_
  have ln := spF_len q
  obtain ⟨Hz, ds, PP, hl, sub, r, hS, fin⟩ := q
  obtain ⟨t, ww, ⟨pb, sb⟩, red⟩ := hb (cdv := cdv) (outer := outer) (s := s) (H := H) (E := E) g room ds PP hl hS
  refine ⟨t, pb.nox, ?_⟩
  rw [start_eq ln, hm]
  have s0 := st2_start m sub r
  have same : ∀ {env' : Ev} {σ' : L2.St} {Hz' H' : Hp}, Go (ds.map G.E.fz ++ List.replicate m G.E.un) (vs.map some ++ List.replicate m none) Hz H env' σ' Hz' H' → Same H H' := fun gg a o e => gg.kp a o e own_fz
  have new : ∀ {env' : Ev} {σ' : L2.St} {Hz' H' : Hp}, Go (ds.map G.E.fz ++ List.replicate m G.E.un) (vs.map some ++ List.replicate m none) Hz H env' σ' Hz' H' → ∀ a, Hz' a ≠ none → Hz a ≠ none ∨ H a = none := fun gg a e => by
    rcases gg.nz a e with z | z | z
    · exact .inl z
    · exact .inr z
    · exact absurd z own_fz
  have nou : ∀ {a : Addr}, ¬ OwnU (ds.map G.E.fz ++ List.replicate m G.E.un) (vs.map some ++ List.replicate m none) a := fun ⟨i, d, q1, q2⟩ => own_fz ⟨i, false, d, q1, q2⟩
  refine sb _ _ Hz H _ _ s0 red ⟨fun e1 σ1 Hz1 H1 p s1 g1 => fin _ _ Hz1 H1 p g1.ez (same g1) s1.sub (new g1) Rep.non, fun _ _ _ _ p => p.elim, fun _ _ _ _ p => p.elim, fun r e1 σ1 v Hz1 H1 p s1 g1 rr => fin r v Hz1 H1 p g1.ez (same g1) s1.sub (new g1) ?_⟩
  cases r with
  | fz d => exact rr
  | br i => exact rr.elim
  | ow d =>
    obtain ⟨pp, o, e, h0, h1, h2, h3, h4⟩ := rr
    rcases h0 with h0 | h0
    · exact ⟨pp, o, e, h0, h1, h2, fun ⟨i, p, d, q, _⟩ => by simp at q, h4⟩
    · exact absurd h0 nou
end
section
variable {X : Cx} {k n : Nat} {f : Addr} {fd : FuncData} {ps : List Str} {x : Str} {p pos : Pos} {e : Expr} {es : List Expr} {t : TA} {wa : WA2} {S : List D → (R → Prop) → Prop}
def wCall (n : Nat) (S : List D → (R → Prop) → Prop) (wa : WA2) : WE := fun env P => wa env fun ds e1 => ds.length = n ∧ S ds fun r => P r e1
theorem after_call {K : PySem.W.Frag} {env : Ev} {σ : L2.St} {Hz H Hz' H' : Hp} {v : V} {r : R} (s : St2 K env σ Hz H) (ez : Same Hz Hz') (eh : Same H H') (sub : Same Hz' H') (nw : ∀ a, Hz' a ≠ none → Hz a ≠ none ∨ H a = none) (rr : RepR K [] [] H Hz' H' v r) :
    St2 K env σ Hz' H' ∧ Go env σ Hz H env σ Hz' H' ∧ RepR K env σ H Hz' H' v r := by
  have s' : St2 K env σ Hz' H' := s.more ez eh sub fun a o => by
    obtain ⟨h1, u, h2⟩ := Own.lt s o
    cases c : Hz' a with
    | none => rfl
    | some u =>
      rcases nw a (by rw [c]; exact fun z => nomatch z) with z | z
      · exact absurd h1 z
      · rw [h2] at z; cases z
  refine ⟨s', ⟨ez, fun a q => (nw a q).imp id .inl, fun a o q _ => eh a o q, fun a q z => ?_, fun a q => .inl q, fun i d q => ⟨⟨d, q⟩, rfl⟩, rfl⟩, ?_⟩
  · obtain ⟨o, q⟩ := ne_none q
    rw [eh a o q] at z; cases z
  · cases r with
    | fz d => exact rr
    | br i =>
      have rr : ([] : L2.St)[i]? = some (some v) := rr
      simp at rr
    | ow d =>
      obtain ⟨pp, o, e, h0, h1, h2, h3, h4⟩ := rr
      exact ⟨pp, o, e, h0, h1, h2, fun q => own_ne s h0 q rfl, h4⟩
theorem ge_call (F : FnG X.prog X.w X.K X.mg X.base k f fd n ps (spF X.K n S)) (g : X.A.guards = some []) (room : Room k X.A) (gl : Gl X x) (m : X.mg x = some (.ref f)) (kp : PySem.W.keepIn X.K (.ref f) = true) (b : Binds X.K fd ps [])
    (ha : GA X (e :: es) t wa) (hdb : (x == ("__debug__" : Str)) = false := by decide) (he : starEach (e :: es) X.env = (false, eval e X.env) :: starEach es X.env := by rfl) (hpl : (backTo pos (starEach es X.env)).any (·.1) = false := by rfl) :
    GE X (.Call (.Name x p) (e :: es) [] pos) (tCall (spF X.K n S) [] E0 t) (wCall n S wa) := by
  obtain ⟨p, sa⟩ := ha.ex
  refine ⟨pe_callG F g room gl m kp b .nil p hdb he hpl, fun env σ Hz H P Q s w q => sa env σ Hz H _ _ s w fun ds e1 vs Hz1 H1 w1 s1 g1 r1 => ?_⟩
  refine ⟨Hz1, ds, _, w1.1, s1.sub, by rw [List.append_nil]; exact r1, w1.2, fun r v Hz2 H2 w2 ez eh sub nw rr => ?_⟩
  obtain ⟨s3, g3, r3⟩ := after_call s1 ez eh sub nw rr
  exact q _ _ _ _ _ w2 s3 (g1.trans g3) (r3.back g1.dm)
theorem ge_call0 (F : FnG X.prog X.w X.K X.mg X.base k f fd 0 ps (spF X.K 0 S)) (g : X.A.guards = some []) (room : Room k X.A) (gl : Gl X x) (m : X.mg x = some (.ref f)) (kp : PySem.W.keepIn X.K (.ref f) = true) (b : Binds X.K fd ps [])
    (hdb : (x == ("__debug__" : Str)) = false := by decide) : GE X (.Call (.Name x p) [] [] pos) (tCall (spF X.K 0 S) [] E0 tNil) (wCall 0 S waNil) :=
  ⟨pe_callG0 F g room gl m kp b .nil hdb, fun env σ Hz H P Q s w q => ⟨Hz, [], _, rfl, s.sub, .nil, w.2, fun r v Hz2 H2 w2 ez eh sub nw rr => by
    obtain ⟨s3, g3, r3⟩ := after_call s ez eh sub nw rr
    exact q _ _ _ _ _ w2 s3 g3 r3⟩⟩
end
end G

namespace G
open PySem PySem.Spec L2
open PyProof.Rows (envOfC)
/-! ### defs that change their first argument -/
theorem owT {d : D} {ds : List D} {m i : Nat} {p : Bool} {d' : D} (q : (E.ow true d :: ds.map E.fz ++ List.replicate m E.un)[i]? = some (.ow p d')) : i = 0 ∧ p = true ∧ d' = d := by
  cases i with
  | zero =>
    simp at q
    obtain ⟨rfl, rfl⟩ := q
    exact ⟨rfl, rfl, rfl⟩
  | succ i =>
    have q : (ds.map E.fz ++ List.replicate m E.un)[i]? = some (.ow p d') := by simpa using q
    rcases Nat.lt_or_ge i ds.length with c | c
    · rw [List.getElem?_append_left (by rw [List.length_map]; exact c), List.getElem?_map, List.getElem?_eq_getElem c] at q
      cases q
    · rw [List.getElem?_append_right (by rw [List.length_map]; exact c), List.getElem?_replicate] at q
      split at q <;> cases q
section
variable {P : Program} {w : World} {K : PySem.W.Frag} {mg : Str → Option Value} {base : Heap}
/-- more slots, nothing known of them -/
theorem st2_pad {env : Ev} {σ : L2.St} {Hz H : Hp} (m : Nat) (s : St2 K env σ Hz H) : St2 K (env ++ List.replicate m .un) (σ ++ List.replicate m none) Hz H := by
  have low : ∀ {i : Nat} {p : Bool} {d : D}, (env ++ List.replicate m E.un)[i]? = some (.ow p d) → i < env.length ∧ env[i]? = some (.ow p d) := fun {i p d} q => by
    rcases Nat.lt_or_ge i env.length with c | c
    · rw [List.getElem?_append_left c] at q; exact ⟨c, q⟩
    · rw [List.getElem?_append_right c, List.getElem?_replicate] at q
      split at q <;> cases q
  refine ⟨by simp [s.len], s.sub, fun i u q => ?_, fun i j p p' d d' a q1 q2 r1 r2 => ?_⟩
  · rcases Nat.lt_or_ge i env.length with c | c
    · rw [List.getElem?_append_left c] at q
      rw [List.getElem?_append_left (by rw [← s.len]; exact c)]
      exact s.ent i u q
    · rw [List.getElem?_append_right c, List.getElem?_replicate] at q
      rw [List.getElem?_append_right (by rw [← s.len]; exact c), List.getElem?_replicate, ← s.len]
      split at q
      · rename_i hh
        cases q
        exact ⟨none, if_pos hh, trivial⟩
      · cases q
  · obtain ⟨c1, e1⟩ := low q1
    obtain ⟨c2, e2⟩ := low q2
    rw [List.getElem?_append_left (by rw [← s.len]; exact c1)] at r1
    rw [List.getElem?_append_left (by rw [← s.len]; exact c2)] at r2
    exact s.dis i j p p' d d' a e1 e2 r1 r2
theorem fn_T {x qual : Str} {st : Stmt} {f : Addr} {fd : FuncData} {N ps : List Str} {k n m : Nat} {S : D → List D → (R → D → Prop) → Prop} (F : Fun K x qual st f fd) (C : FnScope N ps (defScope st)) (hn : ps.length = n) (hm : N.length - n = m)
    (hb : ∀ {cdv : Value} {A : Around} {outer : List Env} {s : Shared} {H : Hp} {E : XK}, A.guards = some [] → Room k (A.deeper (envOfC qual (defScope st) s.heap.objs.size f cdv)) → ∀ d ds PP, ds.length + 1 = n → S d ds PP →
      ∃ t ww, GB (cxOf CX0 P w K mg base N qual (defScope st) f cdv A outer s H E).nox (defBody st) t ww ∧
        ww { nx := fun e => ∃ d', e[0]? = some (.ow true d') ∧ PP (.fz .none) d', rt := fun r e => ∃ d', e[0]? = some (.ow true d') ∧ PP r d' } (.ow true d :: ds.map .fz ++ List.replicate m .un)) : FnG P w K mg base (k + 1) f fd n ps (spT K n S) := by
  refine FnG.of_body F C (fun q => (spT_len q).trans hn.symm) fun {cdv A outer s H vs Q E} g room q => ?_
  have ln := spT_len q
  obtain ⟨Hz, d, ds, PP, hl, s0, hS, fin⟩ := q
  obtain ⟨t, ww, ⟨pb, sb⟩, red⟩ := hb (cdv := cdv) (outer := outer) (s := s) (H := H) (E := E) g room d ds PP hl hS
  refine ⟨t, pb.nox, ?_⟩
  rw [start_eq ln, hm]
  have s1 := st2_pad m s0
  have fz0 : ∀ {j : Nat} {u : G.E} (dd : D), (G.E.ow true dd :: ds.map .fz)[j + 1]? = some u → ∃ d2, u = .fz d2 ∧ ds[j]? = some d2 := fun {j u} dd q => by
    have q : (ds.map G.E.fz)[j]? = some u := by simpa using q
    rw [List.getElem?_map] at q
    cases c : ds[j]? with
    | none => rw [c] at q; cases q
    | some d2 => rw [c] at q; cases q; exact ⟨d2, rfl, rfl⟩
  -- behind the body: the parameters as the caller sees them
  have back : ∀ {e1 : Ev} {σ1 : L2.St} {Hz1 H1 : Hp} {d' : D}, Go (G.E.ow true d :: ds.map .fz ++ List.replicate m .un) (vs.map some ++ List.replicate m none) Hz H e1 σ1 Hz1 H1 → St2 K e1 σ1 Hz1 H1 → e1[0]? = some (.ow true d') →
      St2 K (.ow true d' :: ds.map .fz) (vs.map some) Hz1 H1 ∧ Go (.ow true d :: ds.map .fz) (vs.map some) Hz H (.ow true d' :: ds.map .fz) (vs.map some) Hz1 H1 ∧ (∀ a, Own (G.E.ow true d' :: ds.map .fz) (vs.map some) a → ∃ b, e1[0]? = some b ∧ σ1[0]? = some (some (.ref a))) := fun {e1 σ1 Hz1 H1 d'} gg st e0 => by
    have lv : 0 < vs.length := by omega
    have σ0 : σ1[0]? = (vs.map some)[0]? := by
      rw [(gg.pin 0 d (by simp)).2, List.getElem?_append_left (by rw [List.length_map]; exact lv)]
    have own0 : ∀ {a : Addr} {dd : D}, Own (G.E.ow true dd :: ds.map .fz) (vs.map some) a → (vs.map some)[0]? = some (some (.ref a)) := fun {a dd} ⟨i, p, d2, q1, q2⟩ => by
      cases i with
      | zero => exact q2
      | succ i => obtain ⟨_, z, _⟩ := fz0 dd q1; cases z
    have ownP : ∀ {a : Addr}, Own (G.E.ow true d :: ds.map .fz ++ List.replicate m .un) (vs.map some ++ List.replicate m none) a → Own (G.E.ow true d :: ds.map .fz) (vs.map some) a := fun {a} ⟨i, p, d2, q1, q2⟩ => by
      obtain ⟨z1, z2, z3⟩ := owT q1
      rw [z1, List.getElem?_append_left (by rw [List.length_map]; exact lv)] at q2
      exact ⟨0, true, d, by simp, q2⟩
    refine ⟨⟨by simpa using s0.len, st.sub, fun i u q => ?_, fun i j p p' d1 d2 a q1 q2 r1 r2 => ?_⟩, ⟨gg.ez, fun a q => ?_, fun a o q nn => ?_, gg.dm, fun a q => ?_, fun i d2 q => ?_, rfl⟩, fun a q => ⟨_, e0, by rw [σ0]; exact own0 q⟩⟩
    · cases i with
      | zero =>
        have q : G.E.ow true d' = u := by simpa using q
        subst q
        obtain ⟨x, hx, ok⟩ := st.ent 0 _ e0
        exact ⟨x, by rw [← σ0]; exact hx, ok⟩
      | succ i =>
        obtain ⟨d2, rfl, e2⟩ := fz0 d' q
        obtain ⟨x, hx, y, z, ok⟩ := s0.ent (i + 1) (.fz d2) (by rw [List.getElem?_cons_succ, List.getElem?_map, e2]; rfl)
        exact ⟨x, hx, y, z, ok.mono gg.ez⟩
    · cases i with
      | zero =>
        cases j with
        | zero => rfl
        | succ j => obtain ⟨_, z, _⟩ := fz0 d' q2; cases z
      | succ i => obtain ⟨_, z, _⟩ := fz0 d' q1; cases z
    · rcases gg.nz a q with z | z | z
      · exact .inl z
      · exact .inr (.inl z)
      · exact .inr (.inr (ownP z))
    · exact gg.kp a o q fun z => nn (ownP z)
    · exact .inl ⟨0, true, d, by simp, own0 q⟩
    · cases i with
      | zero => exact ⟨⟨d', by simp⟩, rfl⟩
      | succ i => obtain ⟨_, z, _⟩ := fz0 d q; cases z
  refine sb _ _ Hz H _ _ s1 red ⟨fun e1 σ1 Hz1 H1 ⟨d', e0, p⟩ st g1 => ?_, fun _ _ _ _ p => p.elim, fun _ _ _ _ p => p.elim, fun r e1 σ1 v Hz1 H1 ⟨d', e0, p⟩ st g1 rr => ?_⟩
  · obtain ⟨a1, a2, _⟩ := back g1 st e0
    exact fin _ d' _ Hz1 H1 p (fun j z => nomatch z) a1 a2 Rep.non
  · obtain ⟨a1, a2, a3⟩ := back g1 st e0
    refine fin r d' v Hz1 H1 p (fun j z => by subst z; exact rr) a1 a2 ?_
    cases r with
    | fz d => exact rr
    | br i => exact rr.elim
    | ow d2 =>
      obtain ⟨pp, o, e, h0, h1, h2, h3, h4⟩ := rr
      rcases h0 with h0 | ⟨i, d3, q, _⟩
      · refine ⟨pp, o, e, h0, h1, h2, fun q => ?_, h4⟩
        obtain ⟨b, k1, k2⟩ := a3 pp q
        rw [e0] at k1; cases k1
        exact h3 ⟨0, true, d', e0, k2⟩
      · obtain ⟨_, z, _⟩ := owT q
        cases z
end
section
variable {X : Cx} {k n : Nat} {f : Addr} {fd : FuncData} {ps : List Str} {x y : Str} {p py pos : Pos} {e : Expr} {es : List Expr} {t : TA} {wa : WA2} {S : D → List D → (R → D → Prop) → Prop}
/-- f(x, ..), x the slot i's own object, that f changes -/
def wCallT (i n : Nat) (S : D → List D → (R → D → Prop) → Prop) (wa : WA2) : WE := fun env P => (∃ b d, env[i]? = some (.ow b d)) ∧ wa env fun ds e1 => match e1[i]? with
  | some (.ow b d) => ds.length + 1 = n ∧ S d ds fun r d' => P r (e1.set i (.ow b d'))
  | _ => False
theorem after_callT {K : PySem.W.Frag} {env : Ev} {σ : L2.St} {Hz H Hz' H' : Hp} {v : V} {r : R} {i : Nat} {b : Bool} {a : Addr} {d d' : D} {ds : List D} {vs : List V} (s : St2 K env σ Hz H) (e : env[i]? = some (.ow b d)) (ea : σ[i]? = some (some (.ref a)))
    (s' : St2 K (.ow true d' :: ds.map .fz) ((V.ref a :: vs).map some) Hz' H') (g : Go (.ow true d :: ds.map .fz) ((V.ref a :: vs).map some) Hz H (.ow true d' :: ds.map .fz) ((V.ref a :: vs).map some) Hz' H') (rr : RepR K (.ow true d' :: ds.map .fz) ((V.ref a :: vs).map some) H Hz' H' v r) :
    (∀ j, r ≠ .br j) → St2 K (env.set i (.ow b d')) σ Hz' H' ∧ Go env σ Hz H (env.set i (.ow b d')) σ Hz' H' ∧ RepR K (env.set i (.ow b d')) σ H Hz' H' v r := fun nb => by
  have il : i < env.length := by
    rcases Nat.lt_or_ge i env.length with h | h
    · exact h
    · rw [List.getElem?_eq_none h] at e; cases e
  have own1 : ∀ {c : Addr} {dd : D}, Own (E.ow true dd :: ds.map .fz) ((V.ref a :: vs).map some) c → c = a := fun {c dd} ⟨j, p, d2, q1, q2⟩ => by
    cases j with
    | zero => simp at q2; exact q2.symm
    | succ j =>
      have q : (ds.map E.fz)[j]? = some (.ow p d2) := by simpa using q1
      rw [List.getElem?_map] at q
      cases c : ds[j]? with
      | none => rw [c] at q; cases q
      | some d2 => rw [c] at q; cases q
  have own0 : ∀ {dd : D}, Own (E.ow true dd :: ds.map .fz) ((V.ref a :: vs).map some) a := fun {dd} => ⟨0, true, dd, by simp, by simp⟩
  have oth : ∀ (j : Nat) (q : Bool) (d2 : D), (env.set i (.ow b d'))[j]? = some (.ow q d2) → ∃ d3, env[j]? = some (.ow q d3) := fun j q d2 h => by
    by_cases c : i = j
    · subst c; rw [List.getElem?_set_self il] at h; cases h; exact ⟨_, e⟩
    · rw [List.getElem?_set_ne c] at h; exact ⟨_, h⟩
  have ownC : ∀ {c : Addr}, Own (env.set i (.ow b d')) σ c → Own env σ c := fun {c} ⟨j, q, d2, h1, h2⟩ => by
    obtain ⟨d3, h3⟩ := oth j q d2 h1
    exact ⟨j, q, d3, h3, h2⟩
  obtain ⟨x0, hx0, a', o, z0, k1, k2, k3⟩ := s'.ent 0 (.ow true d') (by simp)
  have hx0 : some (V.ref a) = x0 := by simpa using hx0
  subst hx0
  cases z0
  refine ⟨⟨by rw [List.length_set]; exact s.len, s'.sub, fun j u q => ?_, fun j l p q d1 d2 c q1 q2 r1 r2 => ?_⟩, ⟨g.ez, fun c q => ?_, fun c o q nn => ?_, g.dm, fun c q => .inl (ownC q), fun j d2 q => ⟨?_, rfl⟩, rfl⟩, ?_⟩
  · by_cases c : i = j
    · subst c
      rw [List.getElem?_set_self il] at q
      cases q
      exact ⟨_, ea, a, o, rfl, k1, k2, k3⟩
    · rw [List.getElem?_set_ne c] at q
      obtain ⟨x', hx', ok⟩ := s.ent j u q
      refine ⟨x', hx', ?_⟩
      cases u with
      | un => trivial
      | fz d2 => obtain ⟨y, z, ok⟩ := ok; exact ⟨y, z, ok.mono g.ez⟩
      | ow q' d2 =>
        obtain ⟨c', u, z, l1, l2, l3⟩ := ok
        subst z
        have ne : c' ≠ a := fun z' => c (s.dis i j _ _ _ _ a e q ea (by rw [hx', z']))
        refine ⟨c', u, rfl, g.kp c' u l1 fun z => ne (own1 z), ?_, l3.mono g.ez⟩
        cases cz : Hz' c' with
        | none => rfl
        | some u =>
          rcases g.nz c' (by rw [cz]; exact fun z => nomatch z) with z | z | z
          · exact absurd l2 z
          · rw [l1] at z; cases z
          · exact absurd (own1 z) ne
  · obtain ⟨_, e1⟩ := oth j p d1 q1
    obtain ⟨_, e2⟩ := oth l q d2 q2
    exact s.dis j l p q _ _ c e1 e2 r1 r2
  · rcases g.nz c q with z | z | z
    · exact .inl z
    · exact .inr (.inl z)
    · exact .inr (.inr (own1 z ▸ ⟨i, b, d, e, ea⟩))
  · exact g.kp c o q fun z => nn (own1 z ▸ ⟨i, b, d, e, ea⟩)
  · by_cases c : i = j
    · subst c
      rw [e] at q; cases q
      exact ⟨d', List.getElem?_set_self il⟩
    · rw [List.getElem?_set_ne c]; exact ⟨d2, q⟩
  · cases r with
    | fz d => exact rr
    | br j => exact absurd rfl (nb j)
    | ow d2 =>
      obtain ⟨pp, o, e, h0, h1, h2, h3, h4⟩ := rr
      exact ⟨pp, o, e, h0, h1, h2, fun q => own_ne s h0 (ownC q) rfl, h4⟩
theorem ge_callT (i : Nat) (F : FnG X.prog X.w X.K X.mg X.base k f fd n ps (spT X.K n S)) (g : X.A.guards = some []) (room : Room k X.A) (gl : Gl X x) (m : X.mg x = some (.ref f)) (kp : PySem.W.keepIn X.K (.ref f) = true) (b : Binds X.K fd ps [])
    (ha : GA X es t wa) (hN : X.N[i]? = some y := by rfl) (hv : Vis X.env.scope y := by first | exact Or.inl rfl | exact Or.inr (Or.inl rfl) | exact Or.inr (Or.inr rfl)) (hdb : (x == ("__debug__" : Str)) = false := by decide) (hd : (y == ("__debug__" : Str)) = false := by decide) (hcd : (y == ("__classdict__" : Str)) = false := by decide)
    (he : starEach (.Name y py :: es) X.env = (false, eval (.Name y py) X.env) :: starEach es X.env := by rfl) (hpl : (backTo pos (starEach es X.env)).any (·.1) = false := by rfl) :
    GE X (.Call (.Name x p) (.Name y py :: es) [] pos) (tCall (spT X.K n S) [] E0 (tCons (tVar i) t)) (wCallT i n S wa) := by
  obtain ⟨pa, sa⟩ := ha.ex
  refine ⟨pe_callG F g room gl m kp b .nil (pa_cons (pe_var hN hv hd hcd) pa he) hdb he hpl, fun env σ Hz H P Q s ⟨⟨b0, d0, eb⟩, w⟩ q => ?_⟩
  have main : ∀ a, σ[i]? = some (some (.ref a)) → tCall (spT X.K n S) [] E0 (tCons (tVar i) t) σ H Q := fun a ha => ⟨_, ha, sa env σ Hz H _ _ s w fun ds e1 vs Hz1 H1 w1 s1 g1 r1 => by
    cases ei : e1[i]? with
    | none => simp only [ei] at w1
    | some u =>
      cases u with
      | un => simp only [ei] at w1
      | fz d => simp only [ei] at w1
      | ow b d =>
        simp only [ei] at w1
        obtain ⟨x', hx', a', o, z, h1, h2, h3⟩ := s1.ent i _ ei
        rw [ha] at hx'
        cases hx'
        cases z
        have s2 : St2 X.K (.ow true d :: ds.map .fz) ((V.ref a :: vs).map some) Hz1 H1 := by
          refine ⟨by simp [r1.len], s1.sub, fun j u q => ?_, fun j l p q d1 d2 c q1 q2 r1 r2 => ?_⟩
          · cases j with
            | zero =>
              have q : E.ow true d = u := by simpa using q
              subst q
              exact ⟨some (.ref a), by simp, a, o, rfl, h1, h2, h3⟩
            | succ j =>
              have q : (ds.map E.fz)[j]? = some u := by simpa using q
              rw [List.getElem?_map] at q
              cases c : ds[j]? with
              | none => rw [c] at q; cases q
              | some d2 =>
                rw [c] at q; cases q
                obtain ⟨v, k1, k2⟩ := r1.get c
                exact ⟨some v, by simp [k1], v, rfl, k2⟩
          · have z : ∀ {j : Nat} {p : Bool} {d1 : D}, (E.ow true d :: ds.map .fz)[j]? = some (.ow p d1) → j = 0 := fun {j p d1} q => by
              cases j with
              | zero => rfl
              | succ j =>
                have q : (ds.map E.fz)[j]? = some (.ow p d1) := by simpa using q
                rw [List.getElem?_map] at q
                cases c : ds[j]? with
                | none => rw [c] at q; cases q
                | some d2 => rw [c] at q; cases q
            rw [z q1, z q2]
        refine ⟨Hz1, d, ds, _, w1.1, by rw [List.append_nil]; exact s2, w1.2, fun r d' v Hz2 H2 w2 nb s3 g3 rr => ?_⟩
        rw [List.append_nil] at s3 g3 rr
        obtain ⟨k1, k2, k3⟩ := after_callT s1 ei ha s3 g3 rr nb
        exact q _ _ _ _ _ w2 k1 (g1.trans k2) (k3.back g1.dm)⟩
  obtain ⟨x0, hx0, a0, o0, z0, _⟩ := s.ent i _ eb
  exact main a0 (by rw [hx0, z0])
end
end G

namespace G
open PySem PySem.Spec L2
open PyProof.Rows (envOfC)
open PyProof PyProof.Rows in
theorem law_goes {P : Program} {w : World} {K : PySem.W.Frag} {mg mb : Str → Option Value} {k n : Nat} {fa a : Addr} {fd : FuncData} {x : Str} {sp : Sp} {s : Shared} {vs : List Value} {ns : List Int}
    (kin : K.In s.heap) (gl : s.heap.Ns mainGlobals mg) (bl : s.heap.Ns builtinsNs mb) (bb : ∀ x : Str, x ≠ "__name__" → mb x = bootBuiltins x) (nl : s.heap.NoLimit) (ge : s.gens = #[])
    (ob : s.heap.get? a = some { cls := .type "list", data := .seq vs.toArray }) (iv : IntsAre vs ns) (small : ns.length ≤ sizeLine) (room : Room k callerA)
    (F : ∀ base : Heap, K.In base → base.Ns mainGlobals mg → FnG P w K mg base k fa fd n [x] sp) (binds : ∀ (s : Shared) (u : Value), BindsTo s fd ⟨[u], []⟩ [(x, u)])
    (hsp : ∀ H : Hp, Only H → SqL K H a (ns.map V.int) → sp [.ref a] H (fun v _ => v = .bl true) E0) :
    codeAny (model P w) callerA (.call (.ref fa) ⟨[.ref a], []⟩) (fun r s' => r = .ok (.ret (.bool true)) ∧ OldK s.heap s'.heap ∧ s'.os = s.os ∧ AllBare s'.gens) s := by
  have rv := vals_ints iv
  -- what is tracked: the script, where it is none of the module's own objects
  let scr : HO := .frz { cls := .type "list", data := .seq vs.toArray } (.lst (ns.map V.int))
  let H : Hp := fun b => if b = a ∧ (K.lookup a).isNone = true then some scr else none
  have hH : ∀ {b : Addr} {u : HO}, H b = some u → b = a ∧ K.lookup a = none ∧ u = scr := fun {b u} q => by
    have q : (if b = a ∧ (K.lookup a).isNone = true then some scr else none) = some u := q
    split at q
    · rename_i c
      cases q
      exact ⟨c.1, Option.isNone_iff_eq_none.mp c.2, rfl⟩
    · cases q
  have only : Only H := fun b => by
    cases c : H b with
    | none => exact .inl rfl
    | some u => exact .inr ⟨_, _, by rw [(hH c).2.2]⟩
  have sq : SqL K H a (ns.map V.int) := by
    cases c : K.lookup a with
    | none => exact .inl (.inr ⟨_, if_pos ⟨rfl, by rw [c]; rfl⟩⟩)
    | some o =>
      have e := kin a o c
      rw [ob] at e
      cases e
      exact .inr ⟨_, vs.toArray, _, c, rfl, rfl, rfl, by rw [List.size_toArray, iv.length]; exact small, by simpa using rv⟩
  have ok : HOk P w H s.heap := fun b u q => by
    obtain ⟨rfl, _, rfl⟩ := hH q
    exact ⟨ob, by rw [List.length_map]; exact small, vs, _, rv, ob⟩
  have low : ∀ {b : Addr} {o : Obj} {es : Array DictEntry} {ep : Nat}, s.heap.get? b = some o → o.data = .dict es ep → H b = none := fun {b o es ep} q d => by
    cases c : H b with
    | none => rfl
    | some u =>
      rw [(hH c).1, ob] at q
      cases q
      cases d
  have nsl : ∀ {b : Addr} {m : Str → Option Value}, s.heap.Ns b m → (hidT s.heap H).Ns b m := fun ⟨o, es, ep, q, d, r⟩ => ⟨o, es, ep, hidT_get q (low q d), d, r⟩
  have kinB : K.In (hidT s.heap H) := fun b o q => hidT_get (kin b o q) (by
    cases c : H b with
    | none => rfl
    | some u => rw [(hH c).1, (hH c).2.1] at q; cases q)
  obtain ⟨ml, hl1, hl2⟩ := nl
  have md : Mod K mg (hidT s.heap H) := ⟨kinB, nsl gl, ⟨mb, nsl bl, bb⟩, ⟨ml, nsl hl1, hl2⟩⟩
  have e0 : Env0 P w K mg (hidT s.heap H) callerA [] s H := ⟨rfl, md, fun b o q => of_hidT q, Nat.le_of_eq (hidT_size _ _), trivial, fun b z => absurd (show b ∈ ([] : List Addr) from z) (by simp), ok, .of_eq ge⟩
  refine codeAny_mono ((F _ kinB (nsl gl)).goes (us := [.ref a]) (vs := [V.ref a]) rfl room e0 (binds s (.ref a)) (.cons rfl .nil) (hsp H only sq)) fun res s2 hq => ?_
  match res, hq with
  | .error _, no => exact no.elim
  | .ok .next, no => exact no.elim
  | .ok .brk, no => exact no.elim
  | .ok .cont, no => exact no.elim
  | .ok (.ret u), ⟨v, H2, os, bare, un, ok2, ru, rv2⟩ =>
    have rv2 : v = .bl true := rv2
    subst rv2
    have ru : u = .bool true := ru
    subst ru
    refine ⟨rfl, OldK.of_keep fun b o q => ?_, os, bare⟩
    cases c : H b with
    | none => exact un.keep b o q c (by intro z; cases z) (by intro z; cases z)
    | some u =>
      have c' := un.frzs b { cls := .type "list", data := .seq vs.toArray } (.lst (ns.map V.int)) (by rw [c, (hH c).2.2])
      rw [(hH c).1, ob] at q
      cases q
      rw [(hH c).1] at c' ⊢
      exact (ok2 a _ c').1
/-- a law: for every script of at most n ints it hands back True -/
def SLaw (n : Nat) : List D → (R → Prop) → Prop := fun ds P => (∃ ns : List Int, ds = [.list (ns.map .int)] ∧ ns.length ≤ n) ∧ P (.fz (.bool true))
theorem reps_ints {K : PySem.W.Frag} {H : Hp} : ∀ ns : List Int, Reps K H (ns.map V.int) (ns.map PyData.int)
  | [] => .nil
  | n :: ns => .cons (.int n) (reps_ints ns)
theorem walk_G {l : PySem.W.OpenLaw} {n k : Nat} {q : Program} {loose : List Str} {XP : (Str → Option Value) → Heap → Prop} {YP : World → Heap → Prop} {d : DefRec} {K : Params → PySem.W.Frag} {x : Str}
    (hn : l.most = some n) (hn2 : n ≤ sizeLine) (hdf : d.params.defaults = []) (room : Room k callerA) (hY : ∀ (w : World) (h : Heap), YP w h → (K w.params).In h)
    (F : ∀ (w : World) (mg : Str → Option Value) (fa : Addr) (h : Heap), (K w.params).In h → h.Ns mainGlobals mg → mg d.name = some (.ref fa) →
      ∃ fd : FuncData, (∀ (s : Shared) (u : Value), BindsTo s fd ⟨[u], []⟩ [(x, u)]) ∧ ∀ base : Heap, (K w.params).In base → base.Ns mainGlobals mg → FnG l.prog w (K w.params) mg base k fa fd 1 [x] (spF (K w.params) 1 (SLaw n))) :
    PySem.W.WalkO q loose XP YP l.row.toRowW d [] (fun f vs => PySem.call f vs) := Att.attach_call hn hdf fun w s0 s1 mg mb fa o pm cd doc a vs ns G Y _ _ _ hmg ob iv len ge => by
  have kin := hY w _ Y
  obtain ⟨fd, b, hF⟩ := F w mg fa _ kin G.T.g hmg
  refine law_goes kin G.T.g G.T.b G.T.builtins G.T.nolimit ge ob iv (Nat.le_trans len hn2) room hF b fun H _ sq => ⟨H, [.list (ns.map .int)], fun r => r = .fz (.bool true), rfl, .refl _, .cons (.lst sq (reps_ints ns)) .nil, ⟨⟨ns, rfl, len⟩, rfl⟩, fun r v Hz' H' e _ _ _ _ rr => ?_⟩
  subst e
  cases rr
  rfl
end G

namespace G
open PySem PySem.Spec L2
/-! ### operators over data -/
abbrev F2 := D → D → (R → Prop) → Prop
abbrev F1 := D → (R → Prop) → Prop
section
variable {X : Cx} {K : PySem.W.Frag}
theorem SR2.or {r r' : R2} {f : F2} (h : ∀ (env : Ev) (σ : L2.St) (Hz H : Hp) (x y : V) (dx dy : D) (P : R → Prop) (Q : VK), St2 K env σ Hz H → Top K Hz H x dx → Top K Hz H y dy → f dx dy P →
  (∀ z v Hz' H', P z → St2 K env σ Hz' H' → Go env σ Hz H env σ Hz' H' → RepR K env σ H Hz' H' v z → Q v H') → r x y H Q ∨ r' x y H Q) : SR2 K (fun x y H Q => r x y H Q ∨ r' x y H Q) f := h
/-- list + list, however both are held -/
def rCatL (K : PySem.W.Frag) : R2 := fun x y H Q => ∃ l b xs zs, x = V.ref l ∧ y = V.ref b ∧ SqL K H l xs ∧ SqL K H b zs ∧ xs.length + zs.length ≤ sizeLine ∧ ∀ p, H p = none → Q (.ref p) (upd H p (.lst (xs ++ zs)))
open PyProof.Rows in
theorem op_catL : OpR X (binaryOp .Add) (rCatL X.K) := by
  intro pins s σ H x y v u Q I rx ry h
  obtain ⟨l, b, xs, zs, rfl, rfl, h1, h2, hz, q⟩ := h
  cases rx
  cases ry
  obtain ⟨i1, r1, ⟨⟨cls, dd, data, sl⟩, n, ho, hc, hd, he⟩, l1⟩ := I.list h1
  obtain ⟨i2, r2, ⟨⟨cls2, dd2, data2, sl2⟩, n2, ho2, hc2, hd2, he2⟩, l2⟩ := I.list h2
  simp only at hc hd he hc2 hd2 he2
  subst hc hd he hc2 hd2 he2
  have e1 := r1.length
  have e2 := r2.length
  have e : i1.toArray ++ i2.toArray = (i1 ++ i2).toArray := by simp
  refine concat_meets ⟨_, ho, rfl⟩ ⟨_, ho2, rfl⟩ noFill_list_add seq_list_add PySem.F.slot_list_add PySem.F.entry_list_add (PySem.F.args_list_add_2 _ _) (list_addW l b i1.toArray i2.toArray n n2 none none sl sl2 (by rw [List.size_toArray, List.size_toArray]; omega)) ⟨ho, ho2, ?_⟩
  rw [e]
  exact ⟨.ref _, _, I.laid (t' := s.toks) (o := .lst (xs ++ zs)) (fun b ob q => Heap.get?_push_of_some _ q) (Nat.le_refl _) ⟨by rw [List.length_append]; exact hz, _, _, r1.append r2, Heap.get?_push_size _ rfl⟩, rfl, q _ (I.hok.fresh (Nat.le_refl _))⟩
def addF : F2 := fun x y k => match x, y with
  | .int i, .int j => k (.fz (.int (i + j)))
  | .str i, .str j => i.length + j.length ≤ sizeLine ∧ k (.fz (.str (i ++ j)))
  | .list a, .list b => a.length + b.length ≤ sizeLine ∧ k (.ow (.list (a ++ b)))
  | .tuple a, .tuple b => a.length + b.length ≤ sizeLine ∧ k (.fz (.tuple (a ++ b)))
  | _, _ => False
def rAddG (K : PySem.W.Frag) : R2 := fun x y H Q => (((rI0 fun i j => .int (i + j)) x y H Q ∨ ∃ i j, x = V.str i ∧ y = V.str j ∧ i.length + j.length ≤ sizeLine ∧ Q (.str (i ++ j)) H) ∨ rCatL K x y H Q) ∨ rCatA K x y H Q
theorem op_addG : OpR X (binaryOp .Add) (rAddG X.K) := ((op_add.or op_add_str).or op_catL).or op_catA
theorem sr_add : SR2 K (rAddG K) addF := by
  intro env σ Hz H x y dx dy P Q s tx ty h q
  unfold addF at h
  split at h
  · have a := tx.int; have b := ty.int; subst a; subst b
    exact .inl (.inl (.inl ⟨_, _, rfl, rfl, q _ _ _ _ h s .refl (Rep.int _)⟩))
  · have a := tx.str; have b := ty.str; subst a; subst b
    exact .inl (.inl (.inr ⟨_, _, rfl, rfl, h.1, q _ _ _ _ h.2 s .refl (Rep.str _)⟩))
  · obtain ⟨a, xs, rfl, h1, r1⟩ := tx.list s.sub
    obtain ⟨b, ys, rfl, h2, r2⟩ := ty.list s.sub
    refine .inl (.inr ⟨a, b, xs, ys, rfl, rfl, h1, h2, by rw [r1.len, r2.len]; exact h.1, fun p hp => ?_⟩)
    obtain ⟨s2, g2, rr⟩ := new_ow (d := .list _) (o := .lst (xs ++ ys)) s hp (r1.app r2)
    exact q _ _ _ _ h.2 s2 g2 rr
  · obtain ⟨a, xs, rfl, h1, r1⟩ := tx.tupleZ
    obtain ⟨b, ys, rfl, h2, r2⟩ := ty.tupleZ
    have hx : SqT K H a xs := seqT s.sub h1
    have hy : SqT K H b ys := seqT s.sub h2
    refine .inr ⟨a, b, xs, ys, rfl, rfl, hx, hy, by rw [r1.len, r2.len]; exact h.1, fun e => ?_, fun _ e => ?_, fun _ _ p hp => ?_⟩
    · subst e
      cases r1
      exact q _ _ _ _ h.2 s .refl (Rep.tup h2 r2)
    · subst e
      cases r2
      have h2 := h.2
      rw [List.append_nil] at h2
      exact q _ _ _ _ h2 s .refl (Rep.tup h1 r1)
    · obtain ⟨Hz2, s2, g2, rr⟩ := new_tup s hp (r1.app r2)
      exact q _ _ _ _ h.2 s2 g2 rr
  · exact h.elim
/-- two ints -/
def intF (C : Int → Int → Prop) (g : Int → Int → D) : F2 := fun x y k => match x, y with
  | .int i, .int j => C i j ∧ k (.fz (g i j))
  | _, _ => False
theorem sr_int {C : Int → Int → Prop} {g : Int → Int → Int} : SR2 K (rI C fun i j => .int (g i j)) (intF C fun i j => .int (g i j)) := by
  intro env σ Hz H x y dx dy P Q s tx ty h q
  unfold intF at h
  split at h
  · have a := tx.int; have b := ty.int; subst a; subst b
    exact ⟨_, _, rfl, rfl, h.1, q _ _ _ _ h.2 s .refl (Rep.int _)⟩
  · exact h.elim
def intF0 (g : Int → Int → D) : F2 := fun x y k => match x, y with
  | .int i, .int j => k (.fz (g i j))
  | _, _ => False
theorem sr_int0 {g : Int → Int → Int} : SR2 K (rI0 fun i j => .int (g i j)) (intF0 fun i j => .int (g i j)) := by
  intro env σ Hz H x y dx dy P Q s tx ty h q
  unfold intF0 at h
  split at h
  · have a := tx.int; have b := ty.int; subst a; subst b
    exact ⟨_, _, rfl, rfl, q _ _ _ _ h s .refl (Rep.int _)⟩
  · exact h.elim
theorem sr_intB {g : Int → Int → Bool} : SR2 K (rI0 fun i j => .bl (g i j)) (intF0 fun i j => .bool (g i j)) := by
  intro env σ Hz H x y dx dy P Q s tx ty h q
  unfold intF0 at h
  split at h
  · have a := tx.int; have b := ty.int; subst a; subst b
    exact ⟨_, _, rfl, rfl, q _ _ _ _ h s .refl (Rep.bl _)⟩
  · exact h.elim
abbrev subF : F2 := intF0 fun i j => .int (i - j)
abbrev mulF : F2 := intF CMul fun i j => .int (i * j)
abbrev fdivF : F2 := intF CDivN fun i j => .int (i.fdiv j)
abbrev modF : F2 := intF (fun _ j => j ≠ 0) fun i j => .int (i.fmod j)
abbrev powF : F2 := intF CPow fun i j => .int (i ^ j.toNat)
/-! a list times an int -/
def repF : F2 := fun x y k => match x, y with
  | .list a, .int i => (-(2 ^ 63) ≤ i ∧ i < 2 ^ 63 ∧ a.length * i.toNat ≤ sizeLine) ∧ k (.ow (.list (List.replicate i.toNat a).flatten))
  | _, _ => False
theorem Reps.rep {H : Hp} {xs : List V} {ds : List D} (r : Reps K H xs ds) : ∀ n, Reps K H (List.replicate n xs).flatten (List.replicate n ds).flatten
  | 0 => .nil
  | n + 1 => by
    rw [List.replicate_succ, List.replicate_succ, List.flatten_cons, List.flatten_cons]
    exact r.app (r.rep n)
/-- less, as ints or as texts -/
def ltF : F2 := fun x y k => match x, y with
  | .int i, .int j => k (.fz (.bool (decide (i < j))))
  | .str i, .str j => k (.fz (.bool (decide (i.cps.toList < j.cps.toList))))
  | _, _ => False
def rLtG : R2 := fun x y H Q => (rI0 fun i j => .bl (decide (i < j))) x y H Q ∨ ∃ i j, x = V.str i ∧ y = V.str j ∧ Q (.bl (decide (i.cps.toList < j.cps.toList))) H
theorem op_ltG : OpR X (compareOp .Lt) rLtG := op_lt.or op_lt_str
theorem sr_lt : SR2 K rLtG ltF := by
  intro env σ Hz H x y dx dy P Q s tx ty h q
  unfold ltF at h
  split at h
  · have a := tx.int; have b := ty.int; subst a; subst b
    exact .inl ⟨_, _, rfl, rfl, q _ _ _ _ h s .refl (Rep.bl _)⟩
  · have a := tx.str; have b := ty.str; subst a; subst b
    exact .inr ⟨_, _, rfl, rfl, q _ _ _ _ h s .refl (Rep.bl _)⟩
  · exact h.elim
abbrev leF : F2 := intF0 fun i j => .bool (decide (i ≤ j))
abbrev gtF : F2 := intF0 fun i j => .bool (decide (j < i))
abbrev geF : F2 := intF0 fun i j => .bool (decide (j ≤ i))
/-! equality of data -/
mutual
theorem Rep.dp {H : Hp} : ∀ {v : V} {d : D}, Rep K H v d → d.hasDict = false → Dp K H v d
  | _, _, .non, _ => .non
  | _, _, .bl b, _ => .bl b
  | _, _, .int b, _ => .int b
  | _, _, .str b, _ => .str b
  | _, _, .lst h r, n => .lst h (Reps.dp r (by simpa only [PyData.hasDict] using n))
  | _, _, .tup h r, n => .tup h (Reps.dp r (by simpa only [PyData.hasDict] using n))
  | _, _, .dic h r, n => by simp only [PyData.hasDict] at n; cases n
  | _, _, .dit h r, n => by simp only [PyData.hasDict] at n; cases n
theorem Reps.dp {H : Hp} : ∀ {v : List V} {d : List D}, Reps K H v d → PyData.hasDictAll d = false → DpAll K H v d
  | _, _, .nil, _ => .nil
  | _, _, .cons h r, n => by
    simp only [PyData.hasDictAll, Bool.or_eq_false_iff] at n
    exact .cons (Rep.dp h n.1) (Reps.dp r n.2)
end
theorem dp_of {Hz H : Hp} {v : V} {d : D} (s : Same Hz H) (t : Top K Hz H v d) (h : SeqAt.shaped d = true) : Dp K H v d := (t.rep s).dp (PyData.hasDict_of_canLay d (SeqAt.canLay_of_shaped h))
def eqF : F2 := fun x y k => match x, y with
  | .int i, .int j => k (.fz (.bool (decide (i = j))))
  | .str i, .str j => k (.fz (.bool (decide (i = j))))
  | x, y => (SeqAt.shaped x = true ∧ SeqAt.shaped y = true) ∧ k (.fz (.bool (PyData.eqv x y)))
def neF : F2 := fun x y k => match x, y with
  | .int i, .int j => k (.fz (.bool (!decide (i = j))))
  | .str i, .str j => k (.fz (.bool (!decide (i = j))))
  | x, y => (SeqAt.shaped x = true ∧ SeqAt.shaped y = true) ∧ k (.fz (.bool (!PyData.eqv x y)))
def rEqG (K : PySem.W.Frag) : R2 := fun x y H Q => rEq x y H Q ∨ rEqD K x y H Q
def rNeG (K : PySem.W.Frag) : R2 := fun x y H Q => rNe x y H Q ∨ rNeD K x y H Q
theorem op_eqG (hu : X.A.units + 64 < cLine) : OpR X (compareOp .Eq) (rEqG X.K) := op_eq.or (op_eqD hu)
theorem op_neG (hu : X.A.units + 64 < cLine) : OpR X (compareOp .NotEq) (rNeG X.K) := op_ne.or (op_neD hu)
theorem sr_eq : SR2 K (rEqG K) eqF := by
  intro env σ Hz H x y dx dy P Q s tx ty h q
  unfold eqF at h
  split at h
  · rename_i i j
    have a := tx.int; have b := ty.int; subst a; subst b
    refine .inl ⟨rfl, ?_⟩
    rw [show decide (V.int i = V.int j) = decide (i = j) from decide_eq_decide.mpr ⟨fun e => V.int.inj e, fun e => by rw [e]⟩]
    exact q _ _ _ _ h s .refl (Rep.bl _)
  · rename_i i j
    have a := tx.str; have b := ty.str; subst a; subst b
    refine .inl ⟨rfl, ?_⟩
    rw [show decide (V.str i = V.str j) = decide (i = j) from decide_eq_decide.mpr ⟨fun e => V.str.inj e, fun e => by rw [e]⟩]
    exact q _ _ _ _ h s .refl (Rep.bl _)
  · exact .inr ⟨_, _, dp_of s.sub tx h.1.1, dp_of s.sub ty h.1.2, h.1.1, h.1.2, q _ _ _ _ h.2 s .refl (Rep.bl _)⟩
theorem sr_ne : SR2 K (rNeG K) neF := by
  intro env σ Hz H x y dx dy P Q s tx ty h q
  unfold neF at h
  split at h
  · rename_i i j
    have a := tx.int; have b := ty.int; subst a; subst b
    refine .inl ⟨rfl, ?_⟩
    rw [show decide (V.int i = V.int j) = decide (i = j) from decide_eq_decide.mpr ⟨fun e => V.int.inj e, fun e => by rw [e]⟩]
    exact q _ _ _ _ h s .refl (Rep.bl _)
  · rename_i i j
    have a := tx.str; have b := ty.str; subst a; subst b
    refine .inl ⟨rfl, ?_⟩
    rw [show decide (V.str i = V.str j) = decide (i = j) from decide_eq_decide.mpr ⟨fun e => V.str.inj e, fun e => by rw [e]⟩]
    exact q _ _ _ _ h s .refl (Rep.bl _)
  · exact .inr ⟨_, _, dp_of s.sub tx h.1.1, dp_of s.sub ty h.1.2, h.1.1, h.1.2, q _ _ _ _ h.2 s .refl (Rep.bl _)⟩
/-! in, not in: a list of data; a tuple of texts; a sign in a text -/
def flatD : D → Bool
  | .none | .bool _ | .int _ | .str _ => true
  | _ => false
def inD (x : D) (ds : List D) : Bool := ds.any fun z => PyData.eqv z x
def inS (x : Str) (ds : List D) : Bool := ds.any fun d => match d with
  | .str y => decide (y = x)
  | _ => false
def inF (neg : Bool) : F2 := fun x y k => match x, y with
  | .str x, .tuple ds => (∀ d ∈ ds, ∃ z, d = .str z) ∧ k (.fz (.bool (if neg then !inS x ds else inS x ds)))
  | .str x, .str z => ∃ c, x = ⟨#[c]⟩ ∧ k (.fz (.bool (if neg then !decide (c ∈ z.cps.toList) else decide (c ∈ z.cps.toList))))
  | x, .list ds => (SeqAt.shaped x = true ∧ SeqAt.shaped (.list ds) = true) ∧ k (.fz (.bool (if neg then !inD x ds else inD x ds)))
  | _, _ => False
def rInG (K : PySem.W.Frag) : R2 := fun x y H Q => (rIn K false x y H Q ∨ rInD K x y H Q) ∨ ∃ (c : Nat) (z : Str), x = .str ⟨#[c]⟩ ∧ y = .str z ∧ Q (.bl (decide (c ∈ z.cps.toList))) H
def rNinG (K : PySem.W.Frag) : R2 := fun x y H Q => (rIn K true x y H Q ∨ rNotInD K x y H Q) ∨ ∃ (c : Nat) (z : Str), x = .str ⟨#[c]⟩ ∧ y = .str z ∧ Q (.bl (!decide (c ∈ z.cps.toList))) H
theorem op_inG (hu : X.A.units + 65 < cLine) : OpR X (compareOp .In) (rInG X.K) := (op_in_seq.or (op_inD hu)).or op_in_sign
theorem op_ninG (hu : X.A.units + 65 < cLine) : OpR X (compareOp .NotIn) (rNinG X.K) := (op_notIn_seq.or (op_notInD hu)).or op_notIn_sign
theorem reps_strs {H : Hp} {x : Str} : ∀ {xs : List V} {ds : List D}, Reps K H xs ds → (∀ d ∈ ds, ∃ z, d = .str z) → xs.all flatV = true ∧ inV (.str x) xs = inS x ds
  | _, _, .nil, _ => ⟨rfl, rfl⟩
  | _, _, .cons h r, f => by
    obtain ⟨z, e⟩ := f _ List.mem_cons_self
    subst e
    cases h
    obtain ⟨h1, h2⟩ := reps_strs (x := x) r fun d hd => f d (List.mem_cons_of_mem _ hd)
    refine ⟨by rw [List.all_cons, h1]; rfl, ?_⟩
    unfold inV inS at h2 ⊢
    rw [List.any_cons, List.any_cons, h2]
    have e : eqV (.str z) (.str x) = decide (z = x) := by
      unfold eqV
      rw [Bool.eq_iff_iff]; simp
    rw [e]
theorem sr_in : SR2 K (rInG K) (inF false) := by
  intro env σ Hz H x y dx dy P Q s tx ty h q
  unfold inF at h
  split at h
  · have a := tx.str; subst a
    obtain ⟨b, ys, rfl, h2, r2⟩ := ty.tuple s.sub
    obtain ⟨f1, f2⟩ := reps_strs r2 h.1
    refine .inl (.inl ⟨b, ys, rfl, .inr h2, rfl, f1, ?_⟩)
    rw [f2]
    exact q _ _ _ _ h.2 s .refl (Rep.bl _)
  · obtain ⟨c, rfl, h⟩ := h
    have a := tx.str; have b := ty.str; subst a; subst b
    exact .inr ⟨c, _, rfl, rfl, q _ _ _ _ h s .refl (Rep.bl _)⟩
  · exact .inl (.inr ⟨_, _, dp_of s.sub tx h.1.1, dp_of s.sub ty h.1.2, h.1.1, h.1.2, q _ _ _ _ h.2 s .refl (Rep.bl _)⟩)
  · exact h.elim
theorem sr_nin : SR2 K (rNinG K) (inF true) := by
  intro env σ Hz H x y dx dy P Q s tx ty h q
  unfold inF at h
  split at h
  · have a := tx.str; subst a
    obtain ⟨b, ys, rfl, h2, r2⟩ := ty.tuple s.sub
    obtain ⟨f1, f2⟩ := reps_strs r2 h.1
    refine .inl (.inl ⟨b, ys, rfl, .inr h2, rfl, f1, ?_⟩)
    rw [f2]
    exact q _ _ _ _ h.2 s .refl (Rep.bl _)
  · obtain ⟨c, rfl, h⟩ := h
    have a := tx.str; have b := ty.str; subst a; subst b
    exact .inr ⟨c, _, rfl, rfl, q _ _ _ _ h s .refl (Rep.bl _)⟩
  · exact .inl (.inr ⟨_, _, dp_of s.sub tx h.1.1, dp_of s.sub ty h.1.2, h.1.1, h.1.2, q _ _ _ _ h.2 s .refl (Rep.bl _)⟩)
  · exact h.elim
/-! is, is not: None, True, False -/
def isF (neg : Bool) : F2 := fun x y k => match x, y with
  | .none, .none => k (.fz (.bool (!neg)))
  | .bool a, .bool b => k (.fz (.bool (if neg then !decide (a = b) else decide (a = b))))
  | .bool _, .none => k (.fz (.bool neg))
  | .int _, .none => k (.fz (.bool neg))
  | .str _, .none => k (.fz (.bool neg))
  | .list _, .none => k (.fz (.bool neg))
  | .tuple _, .none => k (.fz (.bool neg))
  | _, _ => False
def rIsG : R2 := fun x y H Q => (y = .non ∧ Q (.bl (decide (x = .non))) H) ∨ rIsB x y H Q
def rIsnG : R2 := fun x y H Q => (y = .non ∧ Q (.bl (!decide (x = .non))) H) ∨ rNotB x y H Q
theorem op_isG : OpR X (compareOp .Is) rIsG := op_isN.or op_isBl
theorem op_isnG : OpR X (compareOp .IsNot) rIsnG := op_notN.or op_notBl
theorem top_notnone {Hz H : Hp} {v : V} {d : D} (t : Top K Hz H v d) (h : d ≠ .none) : decide (v = .non) = false := by
  refine decide_eq_false fun e => ?_
  subst e
  rcases t with t | ⟨p, o, e, _⟩
  · cases t; exact h rfl
  · cases e
theorem sr_is : SR2 K rIsG (isF false) := by
  intro env σ Hz H x y dx dy P Q s tx ty h q
  unfold isF at h
  split at h <;> first
    | exact h.elim
    | (have a := tx.none; have b := ty.none; subst a; subst b; exact .inl ⟨rfl, q _ _ _ _ h s .refl (Rep.bl _)⟩)
    | (have a := tx.bool; have b := ty.bool; subst a; subst b; exact .inr ⟨_, _, rfl, rfl, q _ _ _ _ h s .refl (Rep.bl _)⟩)
    | (have b := ty.none; subst b; refine .inl ⟨rfl, ?_⟩; rw [top_notnone tx (fun z => nomatch z)]; exact q _ _ _ _ h s .refl (Rep.bl _))
theorem sr_isn : SR2 K rIsnG (isF true) := by
  intro env σ Hz H x y dx dy P Q s tx ty h q
  unfold isF at h
  split at h <;> first
    | exact h.elim
    | (have a := tx.none; have b := ty.none; subst a; subst b; exact .inl ⟨rfl, q _ _ _ _ h s .refl (Rep.bl _)⟩)
    | (have a := tx.bool; have b := ty.bool; subst a; subst b; exact .inr ⟨_, _, rfl, rfl, q _ _ _ _ h s .refl (Rep.bl _)⟩)
    | (have b := ty.none; subst b; refine .inl ⟨rfl, ?_⟩; rw [top_notnone tx (fun z => nomatch z)]; exact q _ _ _ _ h s .refl (Rep.bl _))
/-! subscripts -/
def ixF : F2 := fun x y k => match x, y with
  | .list ds, .int i => ∃ d, atI ds i = some d ∧ k (.fz d)
  | .tuple ds, .int i => ∃ d, atI ds i = some d ∧ k (.fz d)
  | .str z, .int i => z.length ≤ sizeLine ∧ ∃ c, atI z.cps.toList i = some c ∧ k (.fz (.str ⟨#[c]⟩))
  | _, _ => False
theorem reps_atI {H : Hp} {xs : List V} {ds : List D} {i : Int} {d : D} (r : Reps K H xs ds) (h : atI ds i = some d) : ∃ v, atI xs i = some v ∧ Rep K H v d := by
  unfold atI at h ⊢
  rw [r.len]
  cases e : ixN ds.length i with
  | none => rw [e] at h; cases h
  | some j => rw [e] at h; exact r.get h
theorem sr_ix : SR2 K (rIx K) ixF := by
  intro env σ Hz H x y dx dy P Q s tx ty h q
  unfold ixF at h
  split at h
  · obtain ⟨d, h1, h2⟩ := h
    have b := ty.int; subst b
    obtain ⟨a, xs, rfl, hx, r⟩ := tx.list s.sub
    obtain ⟨v, hv, rv⟩ := reps_atI r h1
    exact .inl ⟨a, xs, _, v, rfl, rfl, hx, hv, q _ _ _ _ h2 s .refl rv⟩
  · obtain ⟨d, h1, h2⟩ := h
    have b := ty.int; subst b
    obtain ⟨a, xs, rfl, hx, r⟩ := tx.tuple s.sub
    obtain ⟨v, hv, rv⟩ := reps_atI r h1
    exact .inr (.inl ⟨a, xs, _, v, rfl, rfl, hx, hv, q _ _ _ _ h2 s .refl rv⟩)
  · obtain ⟨hz, c, h1, h2⟩ := h
    have a := tx.str; have b := ty.int; subst a; subst b
    exact .inr (.inr ⟨_, _, c, rfl, rfl, hz, h1, q _ _ _ _ h2 s .refl (Rep.str _)⟩)
  · exact h.elim
end
end G

namespace G
open PySem PySem.Spec L2
/-! ### calls of built-ins on one value, on two -/
def SC1 (K : PySem.W.Frag) (r : List V → Hp → VK → Prop) (f : F1) : Prop := ∀ (env : Ev) (σ : L2.St) (Hz H : Hp) (x : V) (dx : D) (P : R → Prop) (Q : VK), St2 K env σ Hz H → Top K Hz H x dx → f dx P →
  (∀ z v Hz' H', P z → St2 K env σ Hz' H' → Go env σ Hz H env σ Hz' H' → RepR K env σ H Hz' H' v z → Q v H') → r [x] H Q
def SC2 (K : PySem.W.Frag) (r : List V → Hp → VK → Prop) (f : F2) : Prop := ∀ (env : Ev) (σ : L2.St) (Hz H : Hp) (x y : V) (dx dy : D) (P : R → Prop) (Q : VK), St2 K env σ Hz H → Top K Hz H x dx → Top K Hz H y dy → f dx dy P →
  (∀ z v Hz' H', P z → St2 K env σ Hz' H' → Go env σ Hz H env σ Hz' H' → RepR K env σ H Hz' H' v z → Q v H') → r [x, y] H Q
section
variable {X : Cx} {K : PySem.W.Frag} {a b c e : Expr} {es : List Expr} {pos p : Pos} {wa wb wc w : WE} {ta tb tc t : TE} {x : Str} {id T : String} {r : List V → Hp → VK → Prop} {f : F1} {f2 : F2}
def w1 (f : F1) (wa : WE) : WE := fun env P => wa env fun ra e1 => match ra.get e1 with
  | some d => f d fun z => P z e1
  | _ => False
theorem se_c1 (h : SC1 K r f) (ha : SE K ta wa) : SE K (tCB r (tCons ta tNil)) (w1 f wa) := by
  intro env σ Hz H P Q s w q
  refine ha env σ Hz H _ _ s w fun ra e1 x Hz1 H1 w1 s1 g1 r1 => ?_
  cases ea : ra.get e1 with
  | none => simp only [ea] at w1
  | some d =>
    simp only [ea] at w1
    exact h e1 σ Hz1 H1 x d _ Q s1 (r1.top s1 ea) w1 fun z v Hz' H' p s2 g2 r2 => q _ _ _ _ _ p s2 (g1.trans g2) (r2.back g1.dm)
theorem se_c2 (h : SC2 K r f2) (ha : SE K ta wa) (hb : SE K tb wb) : SE K (tCB r (tCons ta (tCons tb tNil))) (wBin f2 wa wb) := by
  intro env σ Hz H P Q s w q
  refine ha env σ Hz H _ _ s w fun ra e1 x Hz1 H1 w1 s1 g1 r1 => ?_
  refine hb e1 σ Hz1 H1 _ _ s1 w1 fun rb e2 y Hz2 H2 w2 s2 g2 r2 => ?_
  have r1' := r1.go g2
  cases ea : ra.get e2 with
  | none => rw [ea] at w2; exact w2.elim
  | some dx =>
    cases eb : rb.get e2 with
    | none => rw [ea, eb] at w2; exact w2.elim
    | some dy =>
      rw [ea, eb] at w2
      exact h e2 σ Hz2 H2 x y dx dy _ Q s2 (r1'.top s2 ea) (r2.top s2 eb) w2 fun z v Hz' H' p s3 g3 r3 =>
        q _ _ _ _ _ p s3 ((g1.trans g2).trans g3) (r3.back (g1.trans g2).dm)
theorem ge_b1 (hc : CallR X (.builtin id) r) (h : SC1 X.K r f) (hg : Gl X x) (hm : X.mg x = none) (hv : bootBuiltins x = some (.builtin id)) (ha : GE X e ta wa) (hn : x ≠ "__name__" := by decide) (hdb : (x == ("__debug__" : Str)) = false := by decide)
    (he : starEach [e] X.env = (false, eval e X.env) :: starEach [] X.env := by rfl) (hpl : (backTo pos (starEach [] X.env)).any (·.1) = false := by rfl) : GE X (.Call (.Name x p) [e] [] pos) (tCB r (tCons ta tNil)) (w1 f wa) := by
  obtain ⟨q, s⟩ := ha.ex
  exact ⟨pe_callB hc hg hm hv (pa_cons q pa_nil he) hn hdb he hpl, se_c1 h s⟩
theorem ge_t1 (hc : CallR X (.type T) r) (h : SC1 X.K r f) (hg : Gl X x) (hm : X.mg x = none) (hv : bootBuiltins x = some (.type T)) (ha : GE X e ta wa) (hn : x ≠ "__name__" := by decide) (hdb : (x == ("__debug__" : Str)) = false := by decide)
    (he : starEach [e] X.env = (false, eval e X.env) :: starEach [] X.env := by rfl) (hpl : (backTo pos (starEach [] X.env)).any (·.1) = false := by rfl) : GE X (.Call (.Name x p) [e] [] pos) (tCB r (tCons ta tNil)) (w1 f wa) := by
  obtain ⟨q, s⟩ := ha.ex
  exact ⟨pe_callTy hc hg hm hv (pa_cons q pa_nil he) hn hdb he hpl, se_c1 h s⟩
theorem ge_b2 (hc : CallR X (.builtin id) r) (h : SC2 X.K r f2) (hg : Gl X x) (hm : X.mg x = none) (hv : bootBuiltins x = some (.builtin id)) (ha : GE X a ta wa) (hb : GE X b tb wb) (hn : x ≠ "__name__" := by decide) (hdb : (x == ("__debug__" : Str)) = false := by decide)
    (he : starEach [a, b] X.env = (false, eval a X.env) :: starEach [b] X.env := by rfl) (he2 : starEach [b] X.env = (false, eval b X.env) :: starEach [] X.env := by rfl) (hpl : (backTo pos (starEach [b] X.env)).any (·.1) = false := by rfl) : GE X (.Call (.Name x p) [a, b] [] pos) (tCB r (tCons ta (tCons tb tNil))) (wBin f2 wa wb) := by
  obtain ⟨q, s⟩ := ha.ex
  obtain ⟨q2, s2⟩ := hb.ex
  exact ⟨pe_callB hc hg hm hv (pa_cons q (pa_cons q2 pa_nil he2) he) hn hdb he hpl, se_c2 h s s2⟩
/-! the built-ins -/
def lenF : F1 := fun d k => match d with
  | .list ds => k (.fz (.int ds.length))
  | .tuple ds => k (.fz (.int ds.length))
  | .str z => z.length ≤ sizeLine ∧ k (.fz (.int z.length))
  | _ => False
def rLenG (K : PySem.W.Frag) : List V → Hp → VK → Prop := fun xs H Q => (∃ p ys, xs = [V.ref p] ∧ (SqL K H p ys ∨ SqT K H p ys) ∧ Q (.int ys.length) H) ∨ ∃ z, xs = [V.str z] ∧ z.length ≤ sizeLine ∧ Q (.int z.length) H
theorem call_lenG : CallR X (.builtin "len") (rLenG X.K) := call_len_seq.or call_len_str
theorem sc_len : SC1 K (rLenG K) lenF := by
  intro env σ Hz H x dx P Q s tx h q
  unfold lenF at h
  split at h
  · obtain ⟨a, xs, rfl, hx, r⟩ := tx.list s.sub
    refine .inl ⟨a, xs, rfl, .inl hx, ?_⟩
    rw [r.len]; exact q _ _ _ _ h s .refl (Rep.int _)
  · obtain ⟨a, xs, rfl, hx, r⟩ := tx.tuple s.sub
    refine .inl ⟨a, xs, rfl, .inr hx, ?_⟩
    rw [r.len]; exact q _ _ _ _ h s .refl (Rep.int _)
  · have a := tx.str; subst a
    exact .inr ⟨_, rfl, h.1, q _ _ _ _ h.2 s .refl (Rep.int _)⟩
  · exact h.elim
def absF : F1 := fun d k => match d with
  | .int i => k (.fz (.int (if i < 0 then -i else i)))
  | _ => False
theorem sc_abs : SC1 K (fun xs H Q => ∃ i, xs = [V.int i] ∧ Q (.int (if i < 0 then -i else i)) H) absF := by
  intro env σ Hz H x dx P Q s tx h q
  unfold absF at h
  split at h
  · have a := tx.int; subst a
    exact ⟨_, rfl, q _ _ _ _ h s .refl (Rep.int _)⟩
  · exact h.elim
def maxF : F2 := intF0 fun i j => .int (if j > i then j else i)
theorem sc_max : SC2 K (fun xs H Q => ∃ i j, xs = [V.int i, .int j] ∧ Q (.int (if j > i then j else i)) H) maxF := by
  intro env σ Hz H x y dx dy P Q s tx ty h q
  unfold maxF intF0 at h
  split at h
  · have a := tx.int; have b := ty.int; subst a; subst b
    exact ⟨_, _, rfl, q _ _ _ _ h s .refl (Rep.int _)⟩
  · exact h.elim
def minF : F2 := intF0 fun i j => .int (if j < i then j else i)
theorem sc_min : SC2 K (fun xs H Q => ∃ i j, xs = [V.int i, .int j] ∧ Q (.int (if j < i then j else i)) H) minF := by
  intro env σ Hz H x y dx dy P Q s tx ty h q
  unfold minF intF0 at h
  split at h
  · have a := tx.int; have b := ty.int; subst a; subst b
    exact ⟨_, _, rfl, q _ _ _ _ h s .refl (Rep.int _)⟩
  · exact h.elim
def toIntF : F1 := fun d k => match d with
  | .int i => k (.fz (.int i))
  | .bool b => k (.fz (.int (if b then 1 else 0)))
  | _ => False
theorem sc_toInt : SC1 K (fun xs H Q => (∃ i, xs = [V.int i] ∧ Q (.int i) H) ∨ ∃ k, xs = [V.bl k] ∧ Q (.int (if k then 1 else 0)) H) toIntF := by
  intro env σ Hz H x dx P Q s tx h q
  unfold toIntF at h
  split at h
  · have a := tx.int; subst a
    exact .inl ⟨_, rfl, q _ _ _ _ h s .refl (Rep.int _)⟩
  · have a := tx.bool; subst a
    exact .inr ⟨_, rfl, q _ _ _ _ h s .refl (Rep.int _)⟩
  · exact h.elim
def toStrF : F1 := fun d k => match d with
  | .int i => i.natAbs.log2 < 1920 ∧ k (.fz (.str (toString i)))
  | _ => False
theorem sc_toStr : SC1 K (fun xs H Q => ∃ i, xs = [V.int i] ∧ i.natAbs.log2 < 1920 ∧ Q (.str (toString i)) H) toStrF := by
  intro env σ Hz H x dx P Q s tx h q
  unfold toStrF at h
  split at h
  · have a := tx.int; subst a
    exact ⟨_, rfl, h.1, q _ _ _ _ h.2 s .refl (Rep.str _)⟩
  · exact h.elim
def toListF : F1 := fun d k => match d with
  | .list ds => k (.ow (.list ds))
  | .tuple ds => k (.ow (.list ds))
  | _ => False
theorem sc_toList : SC1 K (fun xs H Q => ∃ p ys, xs = [V.ref p] ∧ (SqL K H p ys ∨ SqT K H p ys) ∧ ∀ l, H l = none → Q (.ref l) (upd H l (.lst ys))) toListF := by
  intro env σ Hz H x dx P Q s tx h q
  unfold toListF at h
  split at h
  · obtain ⟨a, xs, rfl, hx, r⟩ := tx.list s.sub
    refine ⟨a, xs, rfl, .inl hx, fun l hl => ?_⟩
    obtain ⟨s2, g2, rr⟩ := new_ow (d := .list _) (o := .lst xs) s hl r
    exact q _ _ _ _ h s2 g2 rr
  · obtain ⟨a, xs, rfl, hx, r⟩ := tx.tuple s.sub
    refine ⟨a, xs, rfl, .inr hx, fun l hl => ?_⟩
    obtain ⟨s2, g2, rr⟩ := new_ow (d := .list _) (o := .lst xs) s hl r
    exact q _ _ _ _ h s2 g2 rr
  · exact h.elim
def toTupF : F1 := fun d k => match d with
  | .list ds => k (.fz (.tuple ds))
  | .tuple ds => k (.fz (.tuple ds))
  | _ => False
theorem sc_toTup : SC1 K (fun xs H Q => ∃ p ys, xs = [V.ref p] ∧ ((SqL K H p ys ∧ ∀ l, H l = none → Q (.ref l) (upd H l (.tup ys))) ∨ (SqT K H p ys ∧ Q (.ref p) H))) toTupF := by
  intro env σ Hz H x dx P Q s tx h q
  unfold toTupF at h
  split at h
  · obtain ⟨a, xs, rfl, hx, r⟩ := tx.list s.sub
    refine ⟨a, xs, rfl, .inl ⟨hx, fun l hl => ?_⟩⟩
    obtain ⟨Hz2, s2, g2, rr⟩ := new_tup s hl r
    exact q _ _ _ _ h s2 g2 rr
  · obtain ⟨a, xs, rfl, hx, r⟩ := tx.tupleZ
    exact ⟨a, xs, rfl, .inr ⟨seqT s.sub hx, q _ _ _ _ h s .refl (Rep.tup hx r)⟩⟩
  · exact h.elim
/-- a list of truth values, of ints -/
theorem reps_bools {H : Hp} : ∀ {xs : List V} {bs : List Bool}, Reps K H xs (bs.map PyData.bool) → xs = bs.map V.bl
  | _, [], .nil => rfl
  | _, _ :: _, .cons h r => by cases h; rw [reps_bools r]; rfl
theorem reps_nums {H : Hp} : ∀ {xs : List V} {bs : List Int}, Reps K H xs (bs.map PyData.int) → xs = bs.map V.int
  | _, [], .nil => rfl
  | _, _ :: _, .cons h r => by cases h; rw [reps_nums r]; rfl
theorem reps_texts {H : Hp} : ∀ {xs : List V} {bs : List Str}, Reps K H xs (bs.map PyData.str) → xs = bs.map V.str
  | _, [], .nil => rfl
  | _, _ :: _, .cons h r => by cases h; rw [reps_texts r]; rfl
def allF : F1 := fun d k => ∃ bs : List Bool, d = .list (bs.map .bool) ∧ k (.fz (.bool (bs.all _root_.id)))
def anyF : F1 := fun d k => ∃ bs : List Bool, d = .list (bs.map .bool) ∧ k (.fz (.bool (bs.any _root_.id)))
def sumF : F1 := fun d k => ∃ bs : List Int, d = .list (bs.map .int) ∧ k (.fz (.int bs.sum))
theorem sc_all : SC1 K (rAll K) allF := by
  intro env σ Hz H x dx P Q s tx h q
  obtain ⟨bs, rfl, h⟩ := h
  obtain ⟨a, xs, rfl, hx, r⟩ := tx.list s.sub
  cases reps_bools r
  exact ⟨a, bs, rfl, hx, q _ _ _ _ h s .refl (Rep.bl _)⟩
theorem sc_any : SC1 K (rAny K) anyF := by
  intro env σ Hz H x dx P Q s tx h q
  obtain ⟨bs, rfl, h⟩ := h
  obtain ⟨a, xs, rfl, hx, r⟩ := tx.list s.sub
  cases reps_bools r
  exact ⟨a, bs, rfl, hx, q _ _ _ _ h s .refl (Rep.bl _)⟩
theorem sc_sum : SC1 K (rSum K) sumF := by
  intro env σ Hz H x dx P Q s tx h q
  obtain ⟨bs, rfl, h⟩ := h
  obtain ⟨a, xs, rfl, hx, r⟩ := tx.list s.sub
  cases reps_nums r
  exact ⟨a, bs, rfl, hx, q _ _ _ _ h s .refl (Rep.int _)⟩
/-! repr -/
def reprF : F1 := fun d k => (d.showable = true ∧ SeqAt.shaped d = true ∧ d.shown.length ≤ sizeLine) ∧ k (.fz (.str d.shown))
def rRepr (K : PySem.W.Frag) : List V → Hp → VK → Prop := fun xs H Q => ∃ x d, xs = [x] ∧ Dp K H x d ∧ (d.showable = true ∧ SeqAt.shaped d = true ∧ d.shown.length ≤ sizeLine) ∧ Q (.str d.shown) H
theorem call_reprG (g : X.A.guards = some []) (hu : X.A.units + 80 < cLine) : CallR X (.builtin "repr") (rRepr X.K) := by
  intro pins s σ H xs us Q I r h
  obtain ⟨x, d, rfl, dp, ⟨h1, h2, h3⟩, q⟩ := h
  obtain ⟨u, rfl, rx⟩ := vals1 r
  obtain ⟨as, rd⟩ := Dp.reads I d x u dp rx
  have fin : ∀ (h' : Heap) (k : Nat) (t : Tok), (∀ b o, s.heap.get? b = some o → h'.get? b = some o) → EP X pins σ Q (.str d.shown t) { s with heap := h', toks := k } := fun h' k t kp => ⟨.str d.shown, H, I.kept kp, ⟨t, rfl⟩, q⟩
  have dep : d.depth ≤ 64 := SeqAt.depth_of_shaped h2
  cases dp with
  | non =>
    cases rx
    exact PySem.P.repr_of_none (fin s.heap (s.toks + 1) s.toks fun _ _ e => e)
  | bl b =>
    cases rx
    exact PySem.P.repr_of_bool (fin s.heap (s.toks + 1) s.toks fun _ _ e => e)
  | int i =>
    obtain ⟨t, rfl⟩ := rx
    exact PySem.P.repr_of_int (by simpa only [PyData.showable, decide_eq_true_eq] using h1) (fin s.heap (s.toks + 1) s.toks fun _ _ e => e)
  | str z =>
    obtain ⟨t, rfl⟩ := rx
    exact PySem.P.repr_of_str (fin s.heap (s.toks + 1) s.toks fun _ _ e => e) h3
  | lst a b =>
    cases rx
    exact repr_of_reads' rd h1 (PyData.noDict_hsm (PyData.hasDict_of_canLay _ (SeqAt.canLay_of_shaped h2))) g (by omega) (fun _ _ e => e) (fun h' t k kp => fin h' k t kp) h3
  | tup a b =>
    cases rx
    exact repr_of_reads' rd h1 (PyData.noDict_hsm (PyData.hasDict_of_canLay _ (SeqAt.canLay_of_shaped h2))) g (by omega) (fun _ _ e => e) (fun h' t k kp => fin h' k t kp) h3
theorem sc_repr : SC1 K (rRepr K) reprF := fun env σ Hz H x dx P Q s tx h q =>
  ⟨x, dx, rfl, dp_of s.sub tx h.1.2.1, h.1, q _ _ _ _ h.2 s .refl (Rep.str _)⟩
/-! isinstance with a built-in class -/
def tyName : D → String
  | .none => "NoneType"
  | .bool _ => "bool"
  | .int _ => "int"
  | .str _ => "str"
  | .list _ => "list"
  | .tuple _ => "tuple"
  | .dict _ => "dict"
theorem top_ty {Hz H : Hp} {v : V} {d : D} (s : Same Hz H) (t : Top K Hz H v d) : TyX K H v (.type (tyName d)) := by
  have t := t.rep s
  cases t with
  | non => exact .base .non
  | bl b => exact .base (.bl b)
  | int b => exact .base (.int b)
  | str b => exact .base (.str b)
  | lst h r =>
    rcases h with (h | ⟨o, h⟩) | ⟨o, _, _, h, hc, _⟩
    · exact .base (.lst h)
    · exact .base (.frz h)
    · exact .kList h hc
  | tup h r =>
    rcases h with (h | ⟨o, h⟩) | ⟨o, _, _, h, hc, _⟩
    · exact .base (.tup h)
    · exact .fTuple h
    · exact .kTuple h hc
  | dic h r => exact .base (.dK h)
  | dit h r => exact .base (.dT h)
def wIsi (T : String) (we : WE) : WE := fun env P => we env fun r e1 => match r.get e1 with
  | some d => ∃ b, kitB (tyName d) T = some b ∧ P (.fz (.bool b)) e1
  | _ => False
theorem ge_isi {xT : Str} {pT : Pos} (hg : Gl X "isinstance") (hm : X.mg "isinstance" = none) (hgT : Gl X xT) (hmT : X.mg xT = none) (hvT : bootBuiltins xT = some (.type T)) (h : GE X e t w) (hnT : xT ≠ "__name__" := by decide) (hdT : (xT == ("__debug__" : Str)) = false := by decide)
    (he : starEach [e, .Name xT pT] X.env = (false, eval e X.env) :: starEach [.Name xT pT] X.env := by rfl) (he2 : starEach [.Name xT pT] X.env = (false, eval (.Name xT pT) X.env) :: starEach [] X.env := by rfl) (hpl : (backTo pos (starEach [.Name xT pT] X.env)).any (·.1) = false := by rfl) :
    GE X (.Call (.Name "isinstance" p) [e, .Name xT pT] [] pos) (tCB (rIsi X.K) (tCons t (tCons (tC (.ty T)) tNil))) (wIsi T w) := by
  obtain ⟨q, s⟩ := h.ex
  refine ⟨pe_callB call_isi hg hm (by decide +kernel) (pa_cons q (pa_cons (pe_bltn hgT hmT hvT rfl hnT hdT) pa_nil he2) he) (by decide) (by decide) he hpl, fun env σ Hz H P Q s0 w0 k => s env σ Hz H _ _ s0 w0 fun r e1 v Hz1 H1 w1 s1 g1 r1 => ?_⟩
  cases er : r.get e1 with
  | none => simp only [er] at w1
  | some d =>
    simp only [er] at w1
    obtain ⟨b, hb, w1⟩ := w1
    exact ⟨v, .ty T, .type (tyName d), .type T, b, rfl, .ty T, top_ty s1.sub (r1.top s1 er), kit_ty hb, k _ _ _ _ _ w1 s1 g1 (Rep.bl _)⟩
/-! two comparisons in a row -/
def wChain (f f' : F2) (wa wb wc : WE) : WE := fun env P => wa env fun ra e1 => wb e1 fun rb e2 => match ra.get e2, rb.get e2 with
  | some x, some y => f x y fun z => (match z with
    | .fz (.bool k) => if k = true then wc e2 fun rc e3 => (match rb.get e3, rc.get e3 with
      | some y, some z => f' y z fun u => P u e3
      | _, _ => False) else P (.fz (.bool false)) e2
    | _ => False)
  | _, _ => False
theorem se_chain {r r' : R2} {f f' : F2} (h : SR2 K r f) (h' : SR2 K r' f') (ha : SE K ta wa) (hb : SE K tb wb) (hc : SE K tc wc) : SE K (tChain r r' ta tb tc) (wChain f f' wa wb wc) := by
  intro env σ Hz H P Q s w q
  refine ha env σ Hz H _ _ s w fun ra e1 x Hz1 H1 w1 s1 g1 r1 => ?_
  refine hb e1 σ Hz1 H1 _ _ s1 w1 fun rb e2 y Hz2 H2 w2 s2 g2 r2 => ?_
  have r1' := r1.go g2
  cases ea : ra.get e2 with
  | none => rw [ea] at w2; exact w2.elim
  | some dx =>
    cases eb : rb.get e2 with
    | none => rw [ea, eb] at w2; exact w2.elim
    | some dy =>
      rw [ea, eb] at w2
      refine h e2 σ Hz2 H2 x y dx dy _ _ s2 (r1'.top s2 ea) (r2.top s2 eb) w2 fun z v Hz3 H3 p s3 g3 r3 => ?_
      cases z with
      | ow d => exact p.elim
      | br i => exact p.elim
      | fz d =>
        cases d <;> first | exact p.elim | skip
        cases r3
        rename_i k
        refine ⟨k, rfl, ?_⟩
        have g13 := (g1.trans g2).trans g3
        cases k with
        | false => exact q _ _ _ _ _ p s3 g13 (Rep.bl _)
        | true =>
          have p : wc e2 _ := p
          show tc σ H3 _
          refine hc e2 σ Hz3 H3 _ _ s3 p fun rc e4 u Hz4 H4 w4 s4 g4 r4 => ?_
          have r2' := r2.go (g3.trans g4)
          cases eb4 : rb.get e4 with
          | none => simp only [eb4] at w4
          | some dy4 =>
            cases ec4 : rc.get e4 with
            | none => simp only [eb4, ec4] at w4
            | some dz4 =>
              simp only [eb4, ec4] at w4
              exact h' e4 σ Hz4 H4 y u dy4 dz4 _ Q s4 (r2'.top s4 eb4) (r4.top s4 ec4) w4 fun z v Hz' H' p s5 g5 r5 => q _ _ _ _ _ p s5 ((g13.trans g4).trans g5) (r5.back (g13.trans g4).dm)
theorem ge_chain {op op' : CmpOp} {r r' : R2} {f f' : F2} (ho : OpR X (compareOp op) r) (h : SR2 X.K r f) (ho' : OpR X (compareOp op') r') (h' : SR2 X.K r' f') (ha : GE X a ta wa) (hb : GE X b tb wb) (hc : GE X c tc wc) (hm : lastMarks [op, op'] [b, c] = false := by with_unfolding_all rfl) :
    GE X (.Compare a [op, op'] [b, c] pos) (tChain r r' ta tb tc) (wChain f f' wa wb wc) := by
  obtain ⟨q1, s1⟩ := ha.ex
  obtain ⟨q2, s2⟩ := hb.ex
  obtain ⟨q3, s3⟩ := hc.ex
  exact ⟨pe_chain ho ho' q1 q2 q3 hm, se_chain h h' s1 s2 s3⟩
/-! -i -/
def negF : F1 := fun d k => match d with
  | .int i => k (.fz (.int (-i)))
  | _ => False
theorem ge_neg (h : GE X e t w) : GE X (.UnaryOp .USub e pos) (tUn (rU fun i => .int (-i)) t) (w1 negF w) := by
  obtain ⟨q, s⟩ := h.ex
  refine ⟨pe_un un_neg q, fun env σ Hz H P Q s0 w0 k => s env σ Hz H _ _ s0 w0 fun r e1 v Hz1 H1 w1 s1 g1 r1 => ?_⟩
  cases er : r.get e1 with
  | none => simp only [er] at w1
  | some d =>
    simp only [er] at w1
    unfold negF at w1
    split at w1
    · have a := (r1.top s1 er).int; subst a
      exact ⟨_, rfl, k _ _ _ _ _ w1 s1 g1 (Rep.int _)⟩
    · exact w1.elim
/-! slices -/
abbrev WO := Ev → (Option Int → Ev → Prop) → Prop
def SO (K : PySem.W.Frag) (t : TO) (w : WO) : Prop := ∀ (env : Ev) (σ : L2.St) (Hz H : Hp) (P : Option Int → Ev → Prop) (Q : Option Int → Hp → Prop), St2 K env σ Hz H → w env P →
  (∀ o env' Hz' H', P o env' → St2 K env' σ Hz' H' → Go env σ Hz H env' σ Hz' H' → Q o H') → t σ H Q
structure GO (X : Cx) (e : Option Expr) (t : TO) (w : WO) : Prop where
  ex : PO X e t ∧ SO X.K t w
def woN : WO := fun env P => P none env
def woS (w : WE) : WO := fun env P => w env fun r e1 => match r with
  | .fz (.int i) => P (some i) e1
  | _ => False
theorem go_none : GO X none tNoPart woN := ⟨po_none, fun env σ Hz H P Q s w q => q _ _ _ _ w s .refl⟩
theorem go_some (h : GE X e t w) : GO X (some e) (tPart t) (woS w) := by
  obtain ⟨q, s⟩ := h.ex
  refine ⟨po_some q, fun env σ Hz H P Q s0 w0 k => s env σ Hz H _ _ s0 w0 fun r e1 v Hz1 H1 w1 s1 g1 r1 => ?_⟩
  cases r with
  | ow d => exact w1.elim
  | br i => exact w1.elim
  | fz d =>
    cases d <;> first | exact w1.elim | skip
    cases r1
    exact ⟨_, rfl, k _ _ _ _ w1 s1 g1⟩
def cutD (xs : List D) (lo hi : Option Int) : List D := (xs.drop (HT.sIx xs.length 0 lo)).take (HT.sIx xs.length xs.length hi - HT.sIx xs.length 0 lo)
def cutF (d : D) (lo hi : Option Int) (k : R → Prop) : Prop := match d with
  | .list ds => k (.ow (.list (cutD ds lo hi)))
  | .tuple ds => k (.fz (.tuple (cutD ds lo hi)))
  | .str z => z.length ≤ sizeLine ∧ k (.fz (.str (cutS z lo hi)))
  | _ => False
theorem reps_cut {H : Hp} {xs : List V} {ds : List D} (r : Reps K H xs ds) (lo hi : Option Int) : Reps K H (cutV xs lo hi) (cutD ds lo hi) := by
  unfold cutV cutD
  rw [r.len]
  exact (r.drop _).take _
def rSlG (K : PySem.W.Frag) : V → Option Int → Option Int → Hp → VK → Prop := fun x lo hi H Q => (rSlL K x lo hi H Q ∨ rSlA K x lo hi H Q) ∨ rSlS x lo hi H Q
def wSl (w : WE) (wl wh : WO) : WE := fun env P => w env fun r e1 => wl e1 fun lo e2 => wh e2 fun hi e3 => match r.get e3 with
  | some d => cutF d lo hi fun z => P z e3
  | _ => False
theorem ge_slice {lo hi : Option Expr} {tl th : TO} {wl wh : WO} {p2 : Pos} (h : GE X e t w) (hl : GO X lo tl wl) (hh : GO X hi th wh) : GE X (.Subscript e (.Slice lo hi none p2) pos) (tSl (rSlG X.K) t tl th) (wSl w wl wh) := by
  obtain ⟨q, s⟩ := h.ex
  obtain ⟨ql, sl⟩ := hl.ex
  obtain ⟨qh, sh⟩ := hh.ex
  refine ⟨pe_slice ((sl_list.or sl_tupA).or sl_str) q ql qh, fun env σ Hz H P Q s0 w0 k => ?_⟩
  refine s env σ Hz H _ _ s0 w0 fun r e1 v Hz1 H1 w1 s1 g1 r1 => ?_
  refine sl e1 σ Hz1 H1 _ _ s1 w1 fun lo e2 Hz2 H2 w2 s2 g2 => ?_
  refine sh e2 σ Hz2 H2 _ _ s2 w2 fun hi e3 Hz3 H3 w3 s3 g3 => ?_
  have r3 := r1.go (g2.trans g3)
  have g13 := g1.trans (g2.trans g3)
  cases er : r.get e3 with
  | none => simp only [er] at w3
  | some d =>
    simp only [er] at w3
    have tx := r3.top s3 er
    unfold cutF at w3
    split at w3
    · obtain ⟨a, xs, rfl, hx, rr⟩ := tx.list s3.sub
      refine .inl (.inl ⟨a, xs, rfl, hx, fun p hp => ?_⟩)
      obtain ⟨s4, g4, r4⟩ := new_ow (d := .list _) (o := .lst (cutV xs lo hi)) s3 hp (reps_cut rr lo hi)
      exact k _ _ _ _ _ w3 s4 (g13.trans g4) (r4.back g13.dm)
    · obtain ⟨a, xs, rfl, hx, rr⟩ := tx.tupleZ
      refine .inl (.inr ⟨a, xs, rfl, seqT s3.sub hx, fun hw => ?_, fun _ p hp => ?_⟩)
      · have e : cutV xs lo hi = xs := by
          unfold cutV
          rw [hw.1, hw.2, List.drop_zero, Nat.sub_zero, List.take_length]
        have rc := reps_cut rr lo hi
        rw [e] at rc
        exact k _ _ _ _ _ w3 s3 g13 (Rep.tup hx rc)
      · obtain ⟨Hz4, s4, g4, r4⟩ := new_tup s3 hp (reps_cut rr lo hi)
        exact k _ _ _ _ _ w3 s4 (g13.trans g4) (r4.back g13.dm)
    · have a := tx.str; subst a
      exact .inr ⟨_, rfl, w3.1, k _ _ _ _ _ w3.2 s3 g13 (Rep.str _)⟩
    · exact w3.elim
end
end G

namespace G
open PySem PySem.Spec L2
/-! ### changes of an own list -/
section
variable {X : Cx} {K : PySem.W.Frag} {a b c e : Expr} {es : List Expr} {pos p py apos cpos : Pos} {wa wb wc w : WE} {ta tb tc t : TE} {x y : Str} {id T : String}
/-- the slot's own list at the address -/
theorem own_at {env : Ev} {σ : L2.St} {Hz H : Hp} {i : Nat} {q : Bool} {ds : List D} (s : St2 K env σ Hz H) (e : env[i]? = some (.ow q (.list ds))) : ∃ a xs, σ[i]? = some (some (.ref a)) ∧ H a = some (.lst xs) ∧ Hz a = none ∧ Reps K Hz xs ds := by
  obtain ⟨v, hv, a, o, z, h1, h2, h3⟩ := s.ent i _ e
  subst z
  cases o <;> first | exact h3.elim | exact ⟨a, _, hv, h1, h2, h3⟩
theorem tyl {H : Hp} {a : Addr} {xs : List V} (h : H a = some (.lst xs)) : tyV K "list" (.ref a) H := .inl ⟨rfl, xs, .of h⟩
/-- x.m(e): e is laid into the list -/
def wStore (i : Nat) (f : List D → D → (List D → Prop) → Prop) (we : WE) : WE := fun env P => (∃ q ds, env[i]? = some (.ow q (.list ds))) ∧ we env fun r e1 => match r.fzd, e1[i]? with
  | some d, some (.ow q (.list ds)) => f ds d fun ds' => P (.fz .none) (e1.set i (.ow q (.list ds')))
  | _, _ => False
def appF (ds : List D) (d : D) (k : List D → Prop) : Prop := ds.length < sizeLine ∧ k (ds ++ [d])
theorem se_append {i : Nat} (h : SE K t w) : SE K (tBM K "list" rAppend (tVar i) (tCons t tNil)) (wStore i appF w) := by
  intro env σ Hz H P Q s ⟨⟨q0, ds0, e0⟩, w0⟩ q
  obtain ⟨a, xs0, ea, h0, _, _⟩ := own_at s e0
  refine ⟨_, ea, tyl h0, h env σ Hz H _ _ s w0 fun r e1 v Hz1 H1 w1 s1 g1 r1 => ?_⟩
  cases ef : r.fzd with
  | none => simp only [ef] at w1
  | some d =>
    simp only [ef] at w1
    obtain ⟨Hz', s', g', ez, _, rp⟩ := freezeR s1 g1 r1 ef
    split at w1
    · rename_i z1 z2 z3 qq ds z4 z5
      cases z4
      obtain ⟨a', xs, ea', h1, h2, h3⟩ := own_at s' z5
      rw [ea] at ea'; cases ea'
      obtain ⟨s2, g2⟩ := upd_own (o := .lst (xs ++ [v])) (d' := .list (ds ++ [d])) s' z5 ea (h3.app (.cons rp .nil))
      exact ⟨a, xs, v, rfl, rfl, h1, by rw [h3.len]; exact w1.1, q _ _ _ _ _ w1.2 s2 (g'.trans g2) Rep.non⟩
    · exact w1.elim
theorem ge_append (i : Nat) (h : GE X e t w) (hN : X.N[i]? = some y := by rfl) (hv : Vis X.env.scope y := by first | exact Or.inl rfl | exact Or.inr (Or.inl rfl) | exact Or.inr (Or.inr rfl)) (hd : (y == ("__debug__" : Str)) = false := by decide) (hcd : (y == ("__classdict__" : Str)) = false := by decide)
    (hbase : attributeBase (.Name y py) "append" X.env (eval (.Name y py) X.env) = eval (.Name y py) X.env := by rfl)
    (hfew : ((backTo cpos (starEach [e] X.env)).all (fun x => !x.1) && (backToKw cpos (keywordEach [] X.env)).all (fun x => x.1.isSome) && decide (([e] : List Expr).length + ([] : List Keyword).length + (if ([] : List Keyword).isEmpty then 0 else 1) < 30)) = true := by rfl)
    (hline : (apos.endLine == cpos.line) = true := by rfl) (hs : starEach [e] X.env = (false, eval e X.env) :: starEach [] X.env := by rfl) (hplain : (backTo cpos (starEach [] X.env)).any (·.1) = false := by rfl) :
    GE X (.Call (.Attribute (.Name y py) "append" apos) [e] [] cpos) (tBM X.K "list" rAppend (tVar i) (tCons t tNil)) (wStore i appF w) := by
  obtain ⟨q, s⟩ := h.ex
  exact ⟨pe_bm PySem.F.plainAttrs_list PySem.F.slot_list_append PySem.F.type_list_append mt_append (pe_var hN hv hd hcd) (pa_cons q pa_nil hs) hbase hfew hline hs hplain, se_append s⟩
/-- x.pop(e) -/
def wPopAt (i : Nat) (we : WE) : WE := fun env P => (∃ q ds, env[i]? = some (.ow q (.list ds))) ∧ we env fun r e1 => match r, e1[i]? with
  | .fz (.int j), some (.ow q (.list ds)) => (-(2 ^ 63) ≤ j ∧ j < 2 ^ 63) ∧ ∃ k d, seqIndex? j ds.length = some k ∧ ds[k]? = some d ∧ P (.fz d) (e1.set i (.ow q (.list (ds.eraseIdx k))))
  | _, _ => False
theorem se_popAt {i : Nat} (h : SE K t w) : SE K (tBM K "list" rPopAt (tVar i) (tCons t tNil)) (wPopAt i w) := by
  intro env σ Hz H P Q s ⟨⟨q0, ds0, e0⟩, w0⟩ q
  obtain ⟨a, xs0, ea, h0, _, _⟩ := own_at s e0
  refine ⟨_, ea, tyl h0, h env σ Hz H _ _ s w0 fun r e1 v Hz1 H1 w1 s1 g1 r1 => ?_⟩
  split at w1
  · rename_i z1 z2 j qq ds z4
    obtain ⟨⟨b1, b2⟩, k, d, k1, k2, w1⟩ := w1
    cases r1
    obtain ⟨a', xs, ea', h1, h2, h3⟩ := own_at s1 z4
    rw [ea] at ea'; cases ea'
    obtain ⟨v, hv, rv⟩ := h3.get k2
    obtain ⟨s2, g2⟩ := upd_own (o := .lst (xs.eraseIdx k)) (d' := .list (ds.eraseIdx k)) s1 z4 ea (h3.eraseIdx k)
    exact ⟨a, xs, j, k, v, rfl, rfl, h1, b1, b2, by rw [h3.len]; exact k1, hv, q _ _ _ _ _ w1 s2 (g1.trans g2) (rv.mono g2.ez)⟩
  · exact w1.elim
theorem ge_popAt (i : Nat) (h : GE X e t w) (hN : X.N[i]? = some y := by rfl) (hv : Vis X.env.scope y := by first | exact Or.inl rfl | exact Or.inr (Or.inl rfl) | exact Or.inr (Or.inr rfl)) (hd : (y == ("__debug__" : Str)) = false := by decide) (hcd : (y == ("__classdict__" : Str)) = false := by decide)
    (hbase : attributeBase (.Name y py) "pop" X.env (eval (.Name y py) X.env) = eval (.Name y py) X.env := by rfl)
    (hfew : ((backTo cpos (starEach [e] X.env)).all (fun x => !x.1) && (backToKw cpos (keywordEach [] X.env)).all (fun x => x.1.isSome) && decide (([e] : List Expr).length + ([] : List Keyword).length + (if ([] : List Keyword).isEmpty then 0 else 1) < 30)) = true := by rfl)
    (hline : (apos.endLine == cpos.line) = true := by rfl) (hs : starEach [e] X.env = (false, eval e X.env) :: starEach [] X.env := by rfl) (hplain : (backTo cpos (starEach [] X.env)).any (·.1) = false := by rfl) :
    GE X (.Call (.Attribute (.Name y py) "pop" apos) [e] [] cpos) (tBM X.K "list" rPopAt (tVar i) (tCons t tNil)) (wPopAt i w) := by
  obtain ⟨q, s⟩ := h.ex
  exact ⟨pe_bm PySem.F.plainAttrs_list PySem.F.slot_list_pop PySem.F.type_list_pop mt_popAt (pe_var hN hv hd hcd) (pa_cons q pa_nil hs) hbase hfew hline hs hplain, se_popAt s⟩
/-- x.extend(e), e a new list -/
def wExt (i : Nat) (we : WE) : WE := fun env P => (∃ q ds, env[i]? = some (.ow q (.list ds))) ∧ we env fun r e1 => match r, e1[i]? with
  | .ow (.list ys), some (.ow q (.list ds)) => ds.length + ys.length ≤ sizeLine ∧ P (.fz .none) (e1.set i (.ow q (.list (ds ++ ys))))
  | _, _ => False
theorem se_extend {i : Nat} (h : SE K t w) : SE K (tBM K "list" rExtend (tVar i) (tCons t tNil)) (wExt i w) := by
  intro env σ Hz H P Q s ⟨⟨q0, ds0, e0⟩, w0⟩ q
  obtain ⟨a, xs0, ea, h0, _, _⟩ := own_at s e0
  refine ⟨_, ea, tyl h0, h env σ Hz H _ _ s w0 fun r e1 v Hz1 H1 w1 s1 g1 r1 => ?_⟩
  split at w1
  · rename_i z1 z2 ys qq ds z4
    obtain ⟨pp, o, rfl, k0, k1, k2, k3, k4⟩ := r1
    cases o <;> first | exact k4.elim | skip
    rename_i zs
    have k4 : Reps K Hz1 zs ys := k4
    obtain ⟨a', xs, ea', h1, h2, h3⟩ := own_at s1 z4
    rw [ea] at ea'; cases ea'
    obtain ⟨s2, g2⟩ := upd_own (o := .lst (xs ++ zs)) (d' := .list (ds ++ ys)) s1 z4 ea (h3.app k4)
    exact ⟨a, pp, xs, zs, rfl, rfl, h1, k1, by rw [h3.len, k4.len]; exact w1.1, q _ _ _ _ _ w1.2 s2 (g1.trans g2) Rep.non⟩
  · exact w1.elim
theorem ge_extend (i : Nat) (h : GE X e t w) (hN : X.N[i]? = some y := by rfl) (hv : Vis X.env.scope y := by first | exact Or.inl rfl | exact Or.inr (Or.inl rfl) | exact Or.inr (Or.inr rfl)) (hd : (y == ("__debug__" : Str)) = false := by decide) (hcd : (y == ("__classdict__" : Str)) = false := by decide)
    (hbase : attributeBase (.Name y py) "extend" X.env (eval (.Name y py) X.env) = eval (.Name y py) X.env := by rfl)
    (hfew : ((backTo cpos (starEach [e] X.env)).all (fun x => !x.1) && (backToKw cpos (keywordEach [] X.env)).all (fun x => x.1.isSome) && decide (([e] : List Expr).length + ([] : List Keyword).length + (if ([] : List Keyword).isEmpty then 0 else 1) < 30)) = true := by rfl)
    (hline : (apos.endLine == cpos.line) = true := by rfl) (hs : starEach [e] X.env = (false, eval e X.env) :: starEach [] X.env := by rfl) (hplain : (backTo cpos (starEach [] X.env)).any (·.1) = false := by rfl) :
    GE X (.Call (.Attribute (.Name y py) "extend" apos) [e] [] cpos) (tBM X.K "list" rExtend (tVar i) (tCons t tNil)) (wExt i w) := by
  obtain ⟨q, s⟩ := h.ex
  exact ⟨pe_bm PySem.F.plainAttrs_list PySem.F.slot_list_extend PySem.F.type_list_extend mt_extend (pe_var hN hv hd hcd) (pa_cons q pa_nil hs) hbase hfew hline hs hplain, se_extend s⟩
/-- x.insert(j, e) -/
def wInsert (i : Nat) (wj we : WE) : WE := fun env P => (∃ q ds, env[i]? = some (.ow q (.list ds))) ∧ wj env fun rj e1 => we e1 fun r e2 => match rj, r.fzd, e2[i]? with
  | .fz (.int j), some d, some (.ow q (.list ds)) => (ds.length < sizeLine ∧ 0 ≤ j ∧ j < 2 ^ 63) ∧ P (.fz .none) (e2.set i (.ow q (.list (ds.take j.toNat ++ [d] ++ ds.drop j.toNat))))
  | _, _, _ => False
theorem se_insert {i : Nat} {r : V → List V → Hp → VK → Prop} (hr : r = fun x vs H Q => ∃ (l : Addr) (xs : List V) (i : Int) (y : V), x = .ref l ∧ vs = [.int i, y] ∧ H l = some (.lst xs) ∧ xs.length < sizeLine ∧ 0 ≤ i ∧ i < 2 ^ 63 ∧ Q .non (upd H l (.lst (xs.take i.toNat ++ [y] ++ xs.drop i.toNat))))
    (hj : SE K ta wa) (h : SE K t w) : SE K (tBM K "list" r (tVar i) (tCons ta (tCons t tNil))) (wInsert i wa w) := by
  subst hr
  intro env σ Hz H P Q s ⟨⟨q0, ds0, e0⟩, w0⟩ q
  obtain ⟨a, xs0, ea, h0, _, _⟩ := own_at s e0
  refine ⟨_, ea, tyl h0, hj env σ Hz H _ _ s w0 fun rj e1 vj Hz1 H1 w1 s1 g1 rj1 => ?_⟩
  refine h e1 σ Hz1 H1 _ _ s1 w1 fun r e2 v Hz2 H2 w2 s2 g2 r2 => ?_
  cases ef : r.fzd with
  | none => simp only [ef] at w2
  | some d =>
    simp only [ef] at w2
    obtain ⟨Hz', s', g', ez, _, rp⟩ := freezeR s2 g2 r2 ef
    split at w2
    · rename_i z1 z2 z3 j d' qq ds z4 z5
      cases z4
      cases rj1
      obtain ⟨a', xs, ea', h1, h2, h3⟩ := own_at s' z5
      rw [ea] at ea'; cases ea'
      obtain ⟨s3, g3⟩ := upd_own (o := .lst (xs.take j.toNat ++ [v] ++ xs.drop j.toNat)) (d' := .list (ds.take j.toNat ++ [d] ++ ds.drop j.toNat)) s' z5 ea (((h3.take _).app (.cons rp .nil)).app (h3.drop _))
      exact ⟨a, xs, j, v, rfl, rfl, h1, by rw [h3.len]; exact w2.1.1, w2.1.2.1, w2.1.2.2, q _ _ _ _ _ w2.2 s3 ((g1.trans g').trans g3) Rep.non⟩
    · exact w2.elim
theorem ge_insert (i : Nat) (hj : GE X a ta wa) (h : GE X e t w) (hN : X.N[i]? = some y := by rfl) (hv : Vis X.env.scope y := by first | exact Or.inl rfl | exact Or.inr (Or.inl rfl) | exact Or.inr (Or.inr rfl)) (hd : (y == ("__debug__" : Str)) = false := by decide) (hcd : (y == ("__classdict__" : Str)) = false := by decide)
    (hbase : attributeBase (.Name y py) "insert" X.env (eval (.Name y py) X.env) = eval (.Name y py) X.env := by rfl)
    (hfew : ((backTo cpos (starEach [a, e] X.env)).all (fun x => !x.1) && (backToKw cpos (keywordEach [] X.env)).all (fun x => x.1.isSome) && decide (([a, e] : List Expr).length + ([] : List Keyword).length + (if ([] : List Keyword).isEmpty then 0 else 1) < 30)) = true := by rfl)
    (hline : (apos.endLine == cpos.line) = true := by rfl) (hs : starEach [a, e] X.env = (false, eval a X.env) :: starEach [e] X.env := by rfl) (hs2 : starEach [e] X.env = (false, eval e X.env) :: starEach [] X.env := by rfl) (hplain : (backTo cpos (starEach [e] X.env)).any (·.1) = false := by rfl) :
    GE X (.Call (.Attribute (.Name y py) "insert" apos) [a, e] [] cpos) (tBM X.K "list" (fun x vs H Q => ∃ (l : Addr) (xs : List V) (i : Int) (y : V), x = .ref l ∧ vs = [.int i, y] ∧ H l = some (.lst xs) ∧ xs.length < sizeLine ∧ 0 ≤ i ∧ i < 2 ^ 63 ∧ Q .non (upd H l (.lst (xs.take i.toNat ++ [y] ++ xs.drop i.toNat)))) (tVar i) (tCons ta (tCons t tNil))) (wInsert i wa w) := by
  obtain ⟨q, s⟩ := h.ex
  obtain ⟨q2, s2⟩ := hj.ex
  exact ⟨pe_bm PySem.F.plainAttrs_list PySem.F.slot_list_insert PySem.F.type_list_insert mt_insert (pe_var hN hv hd hcd) (pa_cons q2 (pa_cons q pa_nil hs2) hs) hbase hfew hline hs hplain, se_insert rfl s2 s⟩
/-- x[j] = e, x the slot's own list -/
def wSetIx (i : Nat) (we wj : WE) : WS := fun P env => we env fun r e1 => match r.fzd with
  | some d => wj e1 fun rj e2 => (match rj, e2[i]? with
    | .fz (.int j), some (.ow q (.list ds)) => ∃ k, ixN ds.length j = some k ∧ P.nx (e2.set i (.ow q (.list (ds.set k d))))
    | _, _ => False) ∧ ∃ q d, e1[i]? = some (.ow q d)
  | none => False
theorem ss_setIx {i : Nat} (he : SE K t w) (hj : SE K ta wa) : SS K (tAsg t (gSub (tVar i) ta rSetL)) (wSetIx i w (fun env P => (∃ q d, env[i]? = some (.ow q d)) ∧ wa env P)) := by
  intro env σ Hz H P Q s w0 q
  refine he env σ Hz H _ _ s w0 fun r e1 v Hz1 H1 w1 s1 g1 r1 => ?_
  cases ef : r.fzd with
  | none => simp only [ef] at w1
  | some d =>
    simp only [ef] at w1
    obtain ⟨⟨q0, d0, e0⟩, w1⟩ := w1
    obtain ⟨Hz', s', g', ez, _, rp⟩ := freezeR s1 g1 r1 ef
    obtain ⟨x0, hx0, a0, o0, z0, _⟩ := s'.ent i _ e0
    subst z0
    refine ⟨_, hx0, hj e1 σ Hz' H1 _ _ s' w1 fun rj e2 vj Hz2 H2 w2 s2 g2 r2 => ?_⟩
    obtain ⟨w2, _⟩ := w2
    split at w2
    · rename_i z1 z2 j qq ds z4
      obtain ⟨k, hk, w2⟩ := w2
      cases r2
      obtain ⟨a', xs, ea', h1, h2, h3⟩ := own_at s2 z4
      rw [hx0] at ea'; cases ea'
      obtain ⟨s3, g3⟩ := upd_own (o := .lst (xs.set k v)) (d' := .list (ds.set k d)) s2 z4 hx0 (h3.set k (rp.mono g2.ez))
      exact ⟨a0, xs, j, k, rfl, rfl, h1, by rw [h3.len]; exact hk, q.nx _ _ _ _ w2 s3 ((g'.trans g2).trans g3)⟩
    · exact w2.elim
theorem gs_setIx (i : Nat) {tp : Pos} (he : GE X e t w) (hj : GE X a ta wa) (hN : X.N[i]? = some y := by rfl) (hv : Vis X.env.scope y := by first | exact Or.inl rfl | exact Or.inr (Or.inl rfl) | exact Or.inr (Or.inr rfl)) (hd : (y == ("__debug__" : Str)) = false := by decide) (hcd : (y == ("__classdict__" : Str)) = false := by decide)
    (hs : swapsWithSole [.Subscript (.Name y py) a tp] e pos.line X.env = pure false := by rfl) (hw : swappedStores [.Subscript (.Name y py) a tp] e X.env = pure none := by rfl) (h1 : (assignEach [.Subscript (.Name y py) a tp] X.env).map (·.2) = [assign (.Subscript (.Name y py) a tp) X.env] := by rfl)
    (hp : ∀ {k : TSet}, PSet X k → PG X (.Subscript (.Name y py) a tp) (gSub (tVar i) ta k)) :
    GS X (.Assign [.Subscript (.Name y py) a tp] e pos) (tAsg t (gSub (tVar i) ta rSetL)) (wSetIx i w (fun env P => (∃ q d, env[i]? = some (.ow q d)) ∧ wa env P)) := by
  obtain ⟨q, s⟩ := he.ex
  obtain ⟨q2, s2⟩ := hj.ex
  exact ⟨ps_asg q (hp set_list) hs hw h1, ss_setIx s s2⟩
/-! ### sep.join(xs), xs.index(x) -/
def rJoin (K : PySem.W.Frag) : V → List V → Hp → VK → Prop := fun x xs H Q => ∃ a p, ∃ ys : List Str, x = .str a ∧ xs = [.ref p] ∧ (SqL K H p (ys.map V.str) ∨ SqT K H p (ys.map V.str)) ∧ (ys.map (·.length)).sum + ys.length * a.length ≤ 16777216 ∧ Q (.str (Txt.join a ys)) H
def joinF : F2 := fun x y k => ∃ a, ∃ ys : List Str, x = .str a ∧ (y = .list (ys.map .str) ∨ y = .tuple (ys.map .str)) ∧ (ys.map (·.length)).sum + ys.length * a.length ≤ 16777216 ∧ k (.fz (.str (Txt.join a ys)))
def SM1 (K : PySem.W.Frag) (r : V → List V → Hp → VK → Prop) (f : F2) : Prop := ∀ (env : Ev) (σ : L2.St) (Hz H : Hp) (x y : V) (dx dy : D) (P : R → Prop) (Q : VK), St2 K env σ Hz H → Top K Hz H x dx → Top K Hz H y dy → f dx dy P →
  (∀ z v Hz' H', P z → St2 K env σ Hz' H' → Go env σ Hz H env σ Hz' H' → RepR K env σ H Hz' H' v z → Q v H') → r x [y] H Q
theorem sm_join : SM1 K (rJoin K) joinF := by
  intro env σ Hz H x y dx dy P Q s tx ty h q
  obtain ⟨a, ys, rfl, e, hz, h⟩ := h
  have z := tx.str; subst z
  rcases e with e | e
  · subst e
    obtain ⟨b, xs, rfl, hx, r⟩ := ty.list s.sub
    cases reps_texts r
    exact ⟨a, b, ys, rfl, rfl, .inl hx, hz, q _ _ _ _ h s .refl (Rep.str _)⟩
  · subst e
    obtain ⟨b, xs, rfl, hx, r⟩ := ty.tuple s.sub
    cases reps_texts r
    exact ⟨a, b, ys, rfl, rfl, .inr hx, hz, q _ _ _ _ h s .refl (Rep.str _)⟩
/-- a method of a text with one argument -/
def wStrM (f : F2) (wa wb : WE) : WE := fun env P => wa env fun ra e1 => match ra with
  | .fz (.str z) => wb e1 fun rb e2 => (match rb.get e2 with
    | some y => f (.str z) y fun r => P r e2
    | _ => False)
  | _ => False
theorem se_strM {r : V → List V → Hp → VK → Prop} {f : F2} (h : SM1 K r f) (ha : SE K ta wa) (hb : SE K tb wb) : SE K (tM1 r ta tb) (wStrM f wa wb) := by
  intro env σ Hz H P Q s w q
  refine ha env σ Hz H _ _ s w fun ra e1 x Hz1 H1 w1 s1 g1 r1 => ?_
  split at w1
  · rename_i z
    have rx : Rep K Hz1 x (.str z) := r1
    cases rx
    refine ⟨⟨z, rfl⟩, hb e1 σ Hz1 H1 _ _ s1 w1 fun rb e2 y Hz2 H2 w2 s2 g2 r2 => ?_⟩
    cases eb : rb.get e2 with
    | none => simp only [eb] at w2
    | some dy =>
      simp only [eb] at w2
      exact h e2 σ Hz2 H2 _ y _ dy _ Q s2 (.inl (.str z)) (r2.top s2 eb) w2 fun z v Hz' H' p s3 g3 r3 => q _ _ _ _ _ p s3 ((g1.trans g2).trans g3) (r3.back (g1.trans g2).dm)
  · exact w1.elim
theorem ge_join (ha : GE X a ta wa) (hb : GE X e tb wb) (hs : starEach [e] X.env = [(false, eval e X.env)] := by rfl) (hbase : attributeBase a "join" X.env (eval a X.env) = eval a X.env := by rfl) (hline : (apos.endLine == pos.line) = true := by rfl) :
    GE X (.Call (.Attribute a "join" apos) [e] [] pos) (tM1 (rJoin X.K) ta tb) (wStrM joinF wa wb) := by
  obtain ⟨q, s⟩ := ha.ex
  obtain ⟨q2, s2⟩ := hb.ex
  exact ⟨pe_m1 PySem.F.slot_str_join PySem.F.type_str_join mt_join q q2 hs hbase hline, se_strM sm_join s s2⟩
/-- xs.index(x): a list of texts -/
def idxF : F2 := fun x y k => ∃ (ys : List Str) (z : Str) (j : Nat), x = .list (ys.map .str) ∧ y = .str z ∧ ys[j]? = some z ∧ (∀ m, m < j → ys[m]? ≠ some z) ∧ k (.fz (.int j))
theorem sm_index : SM1 K (rIndex K) idxF := by
  intro env σ Hz H x y dx dy P Q s tx ty h q
  obtain ⟨ys, z, j, rfl, rfl, hj, hm, h⟩ := h
  have e := ty.str; subst e
  obtain ⟨b, xs, rfl, hx, r⟩ := tx.list s.sub
  cases reps_texts r
  refine ⟨b, _, .str z, j, .str z, rfl, rfl, hx, rfl, ?_, by rw [List.getElem?_map, hj]; rfl, by simp [eqV], fun m z' hlt e => ?_, q _ _ _ _ h s .refl (Rep.int _)⟩
  · rw [List.all_eq_true]
    intro v hv
    obtain ⟨u, _, rfl⟩ := List.mem_map.mp hv
    rfl
  · rw [List.getElem?_map] at e
    cases c : ys[m]? with
    | none => rw [c] at e; cases e
    | some u =>
      rw [c] at e
      cases e
      have ne : u ≠ z := fun q => hm m hlt (by rw [c, q])
      simp [eqV, ne]
def wListM (f : F2) (wa wb : WE) : WE := fun env P => wa env fun ra e1 => (∃ ds, ra.get e1 = some (.list ds)) ∧ wb e1 fun rb e2 => (match ra.get e2, rb.get e2 with
    | some x, some y => f x y fun r => P r e2
    | _, _ => False)
theorem ge_index (ha : GE X a ta wa) (hb : GE X e tb wb) (hbase : attributeBase a "index" X.env (eval a X.env) = eval a X.env := by rfl)
    (hfew : ((backTo cpos (starEach [e] X.env)).all (fun x => !x.1) && (backToKw cpos (keywordEach [] X.env)).all (fun x => x.1.isSome) && decide (([e] : List Expr).length + ([] : List Keyword).length + (if ([] : List Keyword).isEmpty then 0 else 1) < 30)) = true := by rfl)
    (hline : (apos.endLine == cpos.line) = true := by rfl) (hs : starEach [e] X.env = (false, eval e X.env) :: starEach [] X.env := by rfl) (hplain : (backTo cpos (starEach [] X.env)).any (·.1) = false := by rfl) :
    GE X (.Call (.Attribute a "index" apos) [e] [] cpos) (tBM X.K "list" (rIndex X.K) ta (tCons tb tNil)) (wListM idxF wa wb) := by
  obtain ⟨q, s⟩ := ha.ex
  obtain ⟨q2, s2⟩ := hb.ex
  refine ⟨pe_bm PySem.F.plainAttrs_list PySem.F.slot_list_index PySem.F.type_list_index mt_index q (pa_cons q2 pa_nil hs) hbase hfew hline hs hplain, fun env σ Hz H P Q s0 w0 k => ?_⟩
  refine s env σ Hz H _ _ s0 w0 fun ra e1 x Hz1 H1 w1 s1 g1 r1 => ?_
  obtain ⟨⟨ds, ed⟩, w1⟩ := w1
  obtain ⟨a', xs, rfl, hx, _⟩ := (r1.top s1 ed).list s1.sub
  refine ⟨.inl ⟨rfl, xs, hx⟩, s2 e1 σ Hz1 H1 _ _ s1 w1 fun rb e2 y Hz2 H2 w2 s3 g2 r2 => ?_⟩
  have r1' := r1.go g2
  cases ea : ra.get e2 with
  | none => simp only [ea] at w2
  | some dx =>
    cases eb : rb.get e2 with
    | none => simp only [ea, eb] at w2
    | some dy =>
      simp only [ea, eb] at w2
      exact sm_index e2 σ Hz2 H2 _ y dx dy _ Q s3 (r1'.top s3 ea) (r2.top s3 eb) w2 fun z v Hz' H' p s4 g4 r4 => k _ _ _ _ _ p s4 ((g1.trans g2).trans g4) (r4.back (g1.trans g2).dm)
/-! ### comprehensions in place -/
structure GTs (X : Cx) (ifs : List Expr) (t : TT) (w : WT) : Prop where
  ex : PTs X ifs t ∧ ST X.K t w
theorem gts_nil : GTs X [] tYes wYes := ⟨pts_nil, fun env σ Hz H P Q s w q => q _ _ _ _ w s .refl⟩
theorem gts_one {tt : TT} {wt : WT} (h : GT X e tt wt) : GTs X [e] tt wt := by
  obtain ⟨p, s⟩ := h.ex
  exact ⟨pts_one p, s⟩
/-- the reading may name the block's own context: so it is told up to what it comes to -/
def GEx (X : Cx) (e : Expr) (t : TE) (w : WE) : Prop := ∃ t', GE X e t' w ∧ t' = t
def GTx (X : Cx) (es : List Expr) (t : TT) (w : WT) : Prop := ∃ t', GTs X es t' w ∧ t' = t
theorem GEx.ex {X : Cx} {e : Expr} {t : TE} {w : WE} : GEx X e t w → PE X e t ∧ SE X.K t w | ⟨_, h, rfl⟩ => h.ex
theorem GTx.ex {X : Cx} {e : List Expr} {t : TT} {w : WT} : GTx X e t w → PTs X e t ∧ ST X.K t w | ⟨_, h, rfl⟩ => h.ex
variable {elt tg iter : Expr} {ifs : List Expr} {scope : Scope} {own : List (Str × Nat)} {wi : WI} {ti : TI} {g : TG} {sl : List Nat} {wg : WG} {wt : WT} {tt : TT} {we : WE} {te : TE}
theorem ge_lc (hc : X.calm = true) (hN : X.N.Nodup) (hi : GI X tg iter ti wi) (ok : BlkOk X.N X.env.scope scope own) 
    (hg : ∀ (s : Shared) (H : Hp) (C : Addr) (cl : List (Str × Addr)) (fp : List Addr), GG (X.blk s H scope (compEnvC scope cl C X.env) fp) tg g sl wg)
    (ht : ∀ (s : Shared) (H : Hp) (C : Addr) (cl : List (Str × Addr)) (fp : List Addr), GTx (X.blk s H scope (compEnvC scope cl C X.env) fp) ifs tt wt)
    (he : ∀ (s : Shared) (H : Hp) (C : Addr) (cl : List (Str × Addr)) (fp : List Addr), GEx (X.blk s H scope (compEnvC scope cl C X.env) fp) elt te we) (hs : ∀ x, foldedSetIterable iter X.env x = pure x := by intro _; rfl) (hsl : ∀ j, j ∈ sl → j ∈ own.map (·.2) := by decide) :
    GE X (.ListComp elt [⟨tg, iter, ifs, 0⟩] scope pos) (tLc ti g tt te (own.map (·.2))) (wLc wi wg wt we (own.map (·.2))) := by
  obtain ⟨p1, s1⟩ := hi.ex
  refine ⟨pe_lc hc hN p1 ok (fun s H C cl fp => (hg s H C cl fp).ex.1) (fun s H C cl fp => (ht s H C cl fp).ex.1) (fun s H C cl fp => (he s H C cl fp).ex.1) hs, ?_⟩
  exact se_lc s1 (hg X.s_0 X.H_0 0 [] []).ex.2 hsl (ht X.s_0 X.H_0 0 [] []).ex.2 (he X.s_0 X.H_0 0 [] []).ex.2
/-- y = [..], set still; as the slot's own -/
theorem gs_setLc (i : Nat) {pyy spos : Pos} (hc : X.calm = true) (hN : X.N.Nodup) (hsw : swapsWith (.ListComp elt [⟨tg, iter, ifs, 0⟩] scope pos) (some (.Name y pyy)) spos.line X.env = pure true) (hi : GI X tg iter ti wi) (ok : BlkOk X.N X.env.scope scope own) 
    (hg : ∀ (s : Shared) (H : Hp) (C : Addr) (cl : List (Str × Addr)) (fp : List Addr), GG (X.blk s H scope (compEnvC scope cl C X.env) fp) tg g sl wg)
    (ht : ∀ (s : Shared) (H : Hp) (C : Addr) (cl : List (Str × Addr)) (fp : List Addr), GTx (X.blk s H scope (compEnvC scope cl C X.env) fp) ifs tt wt)
    (he : ∀ (s : Shared) (H : Hp) (C : Addr) (cl : List (Str × Addr)) (fp : List Addr), GEx (X.blk s H scope (compEnvC scope cl C X.env) fp) elt te we) (hy : X.N[i]? = some y := by rfl) (hyl : X.env.scope.names.lookup y = some .local := by rfl) (hs : ∀ x, foldedSetIterable iter X.env x = pure x := by intro _; rfl) (hsl : ∀ j, j ∈ sl → j ∈ own.map (·.2) := by decide) :
    GS X (.Assign [.Name y pyy] (.ListComp elt [⟨tg, iter, ifs, 0⟩] scope pos) spos) (tAsg (tLc ti g tt te (own.map (·.2))) (gName i)) (wSet (wgName i) (wLc wi wg wt we (own.map (·.2)))) := by
  obtain ⟨p1, s1⟩ := hi.ex
  exact ⟨ps_setLc hc hN hy hyl hsw p1 ok (fun s H C cl fp => (hg s H C cl fp).ex.1) (fun s H C cl fp => (ht s H C cl fp).ex.1) (fun s H C cl fp => (he s H C cl fp).ex.1) hs,
    ss_set (se_lc s1 (hg X.s_0 X.H_0 0 [] []).ex.2 hsl (ht X.s_0 X.H_0 0 [] []).ex.2 (he X.s_0 X.H_0 0 [] []).ex.2) sg_name⟩
theorem gs_setLcO (i : Nat) {pyy spos : Pos} (hc : X.calm = true) (hN : X.N.Nodup) (hsw : swapsWith (.ListComp elt [⟨tg, iter, ifs, 0⟩] scope pos) (some (.Name y pyy)) spos.line X.env = pure true) (hi : GI X tg iter ti wi) (ok : BlkOk X.N X.env.scope scope own) 
    (hg : ∀ (s : Shared) (H : Hp) (C : Addr) (cl : List (Str × Addr)) (fp : List Addr), GG (X.blk s H scope (compEnvC scope cl C X.env) fp) tg g sl wg)
    (ht : ∀ (s : Shared) (H : Hp) (C : Addr) (cl : List (Str × Addr)) (fp : List Addr), GTx (X.blk s H scope (compEnvC scope cl C X.env) fp) ifs tt wt)
    (he : ∀ (s : Shared) (H : Hp) (C : Addr) (cl : List (Str × Addr)) (fp : List Addr), GEx (X.blk s H scope (compEnvC scope cl C X.env) fp) elt te we) (hy : X.N[i]? = some y := by rfl) (hyl : X.env.scope.names.lookup y = some .local := by rfl) (hs : ∀ x, foldedSetIterable iter X.env x = pure x := by intro _; rfl) (hsl : ∀ j, j ∈ sl → j ∈ own.map (·.2) := by decide) :
    GS X (.Assign [.Name y pyy] (.ListComp elt [⟨tg, iter, ifs, 0⟩] scope pos) spos) (tAsg (tLc ti g tt te (own.map (·.2))) (gName i)) (wSetO i (wLc wi wg wt we (own.map (·.2)))) := by
  obtain ⟨p1, s1⟩ := hi.ex
  exact ⟨ps_setLc hc hN hy hyl hsw p1 ok (fun s H C cl fp => (hg s H C cl fp).ex.1) (fun s H C cl fp => (ht s H C cl fp).ex.1) (fun s H C cl fp => (he s H C cl fp).ex.1) hs,
    ss_setO (se_lc s1 (hg X.s_0 X.H_0 0 [] []).ex.2 hsl (ht X.s_0 X.H_0 0 [] []).ex.2 (he X.s_0 X.H_0 0 [] []).ex.2)⟩
end
end G
namespace G
open PySem PySem.Spec L2
theorem plenty {k : Nat} {A : Around} (r : Room k A) {n : Nat} (h : n ≤ 150 := by decide) : A.units + n < cLine := by have := r.un; omega
section
variable {X : Cx} {K : PySem.W.Frag} {a b : Expr} {pos : Pos} {wa wb : WE} {ta tb : TE}
/-- a new list times an int -/
def wRep (wa wb : WE) : WE := fun env P => wa env fun ra e1 => match ra with
  | .ow (.list ds) => wb e1 fun rb e2 => (match rb with
    | .fz (.int i) => (-(2 ^ 63) ≤ i ∧ i < 2 ^ 63 ∧ ds.length * i.toNat ≤ sizeLine) ∧ P (.ow (.list (List.replicate i.toNat ds).flatten)) e2
    | _ => False)
  | _ => False
theorem ge_rep (ha : GE X a ta wa) (hb : GE X b tb wb) : GE X (.BinOp a .Mult b pos) (tOp rRep ta tb) (wRep wa wb) := by
  obtain ⟨q, sa⟩ := ha.ex
  obtain ⟨q2, sb⟩ := hb.ex
  refine ⟨pe_op op_rep q q2, fun env σ Hz H P Q s w k => sa env σ Hz H _ _ s w fun ra e1 x Hz1 H1 w1 s1 g1 r1 => ?_⟩
  split at w1
  · rename_i ds
    refine sb e1 σ Hz1 H1 _ _ s1 w1 fun rb e2 y Hz2 H2 w2 s2 g2 r2 => ?_
    have r1' := r1.go g2
    split at w2
    · rename_i i
      cases r2
      obtain ⟨p, o, rfl, h0, h1, h2, h3, h4⟩ := r1'
      cases o <;> first | exact h4.elim | skip
      rename_i xs
      have h4 : Reps X.K Hz2 xs ds := h4
      refine ⟨p, i, xs, rfl, rfl, h1, w2.1.1, w2.1.2.1, by rw [h4.len]; exact w2.1.2.2, fun l hl => ?_⟩
      obtain ⟨s3, g3, r3⟩ := new_ow (d := .list _) (o := .lst (List.replicate i.toNat xs).flatten) s2 hl (Reps.rep h4 _)
      exact k _ _ _ _ _ w2.2 s3 ((g1.trans g2).trans g3) (r3.back (g1.trans g2).dm)
    · exact w2.elim
  · exact w1.elim
end
end G

/-! list(enumerate(xs)), xs a list -/
namespace GEn
open PySem PySem.W PySem.Calls PyProof.Rows PyProof.V PySem.Spec
section
variable {prog : Program} {w : World} {A : Around} {E : Value → Shared → Prop} {s : Shared}
/-- an enumerate whose tuple is in other hands (u: that it was seen to be) -/
abbrev Lent (h : Heap) (e it : Addr) (i : Nat) (a : Addr) (u : Bool) (v : Value) : Prop :=
  h.get? e = some { cls := .type "enumerate", dict := none, data := .fields #[rawInt a, .bool u, .ref it, rawInt (i : Int), .none, v], slots := #[] }
/-- behind i items; S: what its tuple is not -/
def St (h : Heap) (e it l S : Addr) (i : Nat) (xs : Array Value) : Prop :=
  ((i = 0 ∧ IsEnum h e it ((0 : Nat) : Int) .none) ∨ ∃ a u v oa, Lent h e it i a u v ∧ h.get? a = some oa ∧ a ≠ e ∧ a ≠ it ∧ a ≠ S) ∧ h.IsListIter it l i ∧ h.IsList l xs
theorem St.keep {h h' : Heap} {e it l S : Addr} {i : Nat} {xs : Array Value} (x : St h e it l S i xs) (k : ∀ b o, b ≠ S → h.get? b = some o → h'.get? b = some o) (h1 : e ≠ S) (h2 : it ≠ S) (h3 : l ≠ S) : St h' e it l S i xs := by
  obtain ⟨x, y, z⟩ := x
  refine ⟨?_, y.at fun o q => k it o h2 q, z.at fun o q => k l o h3 q⟩
  rcases x with ⟨a, b⟩ | ⟨a, u, v, oa, a1, a2, a3, a4, a5⟩
  · exact .inl ⟨a, k e _ h1 b⟩
  · exact .inr ⟨a, u, v, oa, k e _ h1 a1, k a oa a5 a2, a3, a4, a5⟩
theorem lent_next {e it l a : Addr} {u : Bool} {i : Nat} {items : Array Value} {x old : Value} {oa : Obj} {Q : Option Value → Shared → Prop} (en : Lent s.heap e it i a u old) (al : s.heap.get? a = some oa) (ae : a ≠ e) (ai : a ≠ it)
    (li : s.heap.IsListIter it l i) (ls : s.heap.IsList l items) (ix : items[i]? = some x) (ei : e ≠ it)
    (q : ∀ h', Lent h' e it (i + 1) a true old → h'.IsListIter it l (i + 1) → h'.get? s.heap.objs.size = some { cls := .type "tuple", data := .seq #[.int i s.toks, x] } → h'.objs.size = s.heap.objs.size + 1 →
      (∀ b o, b ≠ e → b ≠ it → s.heap.get? b = some o → h'.get? b = some o) → Q (some (.ref s.heap.objs.size)) { s with heap := h', toks := s.toks + 1 }) : wpAny (model prog w) A (pyNext (.ref e)) Q E s := by
  have ty : s.TypeIs (.ref e) "enumerate" := ⟨_, en, rfl⟩
  unfold pyNext
  refine wpAny_bind (wpAny_attempt (wpAny_callSpecial?_slot (name := Str.ofString "__next__") ty F.slot_enumerate_next (wpAny_call_entry F.slot_enumerate_next ty F.entry_enumerate_next ?_ (F.args_enumerate_next_1 _))))
  obtain ⟨H0, gens, drawn, toks, os⟩ := s
  show wpAny _ _ (field (.ref e) 2 >>= _) _ _ _
  refine wpAny_bind (wpAny_field en rfl (x := .ref it) rfl ?_)
  refine wpAny_bind (wpAny_nextOf_list_item li ls ix fun HA li1 sa => ?_)
  replace sa : Heap.SameBut it H0 HA := sa
  have en1 : Lent HA e it i a u old := (sa.2 e ei).trans en
  show wpAny _ _ (field (.ref e) 3 >>= _) _ _ ⟨HA, gens, drawn, toks, os⟩
  refine wpAny_bind (wpAny_field en1 rfl (x := rawInt i) rfl ?_)
  show wpAny _ _ (field (.ref e) 4 >>= _) _ _ ⟨HA, gens, drawn, toks, os⟩
  refine wpAny_bind (wpAny_field en1 rfl (x := .none) rfl ?_)
  show wpAny _ _ (mkInt i >>= _) _ _ ⟨HA, gens, drawn, toks, os⟩
  refine wpAny_bind (wpAny_mkInt ?_)
  show wpAny _ _ (setField (.ref e) 3 (rawInt ((i : Int) + 1)) >>= _) _ _ ⟨HA, gens, drawn, toks + 1, os⟩
  refine wpAny_bind (wpAny_setField_rec en1 (by simp) fun HB en2 sb => ?_)
  replace sb : Heap.SameBut e HA HB := sb
  have ci : (((i + 1 : Nat)) : Int) = (i : Int) + 1 := by omega
  replace en2 : Lent HB e it (i + 1) a u old := by
    unfold Lent; rw [ci]; simpa [rawInt] using en2
  show wpAny _ _ (setField (.ref e) 4 .none >>= _) _ _ ⟨HB, gens, drawn, toks + 1, os⟩
  refine wpAny_bind (wpAny_setField_rec en2 (by simp) fun HC en3 sc => ?_)
  replace sc : Heap.SameBut e HB HC := sc
  replace en3 : Lent HC e it (i + 1) a u old := en3
  show wpAny _ _ (newTuple [.int i toks, x] >>= _) _ _ ⟨HC, gens, drawn, toks + 1, os⟩
  refine wpAny_bind (wpAny_newTuple ?_)
  have zC : HC.objs.size = H0.objs.size := by rw [sc.1, sb.1, sa.1]
  have el : e < H0.objs.size := Heap.lt_size en
  have en4 : Lent (HC.push { cls := .type "tuple", data := .seq #[.int i toks, x] }) e it (i + 1) a u old := Heap.get?_push_of_some _ en3
  generalize hD : HC.push { cls := .type "tuple", data := .seq #[.int i toks, x] } = HD at en4
  have tD : HD.get? H0.objs.size = some { cls := .type "tuple", data := .seq #[.int i toks, x] } := by rw [← hD, ← zC]; exact Heap.get?_push_size _ rfl
  have zD : HD.objs.size = H0.objs.size + 1 := by rw [← hD, Heap.size_push, zC]
  have kD : ∀ b o, b ≠ e → b ≠ it → H0.get? b = some o → HD.get? b = some o := fun b o h1 h2 hb => by
    rw [← hD]; exact Heap.get?_push_of_some _ (sc.extBut b o h1 (sb.extBut b o h1 (sa.extBut b o h2 hb)))
  have liD : HD.IsListIter it l (i + 1) := by
    rw [← hD]; obtain ⟨o, ho, r⟩ := (li1.extBut sb.extBut (Ne.symm ei)).extBut sc.extBut (Ne.symm ei); exact ⟨o, Heap.get?_push_of_some _ ho, r⟩
  have aD := kD a oa ae ai al
  show wpAny _ _ (Builtin.SmallTypes.ownedTupleIsFree (.ref e) >>= _) _ _ ⟨HD, gens, drawn, toks + 1, os⟩
  rw [zC]
  clear hD en3 sc en2 sb en1 sa li1 zC HC HB HA
  refine wpAny_bind ?_
  unfold Builtin.SmallTypes.ownedTupleIsFree
  refine wpAny_bind (wpAny_field en4 rfl (x := rawInt a) rfl ?_)
  show wpAny _ _ (loadIfAlive ((a : Int).toNat) >>= _) _ _ ⟨HD, gens, drawn, toks + 1, os⟩
  rw [Int.toNat_natCast]
  refine wpAny_bind (kdx_alive aD ?_)
  simp only [Option.isNone_some, Bool.false_eq_true, if_false]
  refine wpAny_bind (wpAny_field en4 rfl (x := .bool u) rfl ?_)
  have fin : ∀ HE : Heap, Lent HE e it (i + 1) a true old → Heap.SameBut e HD HE → Q (some (.ref H0.objs.size)) ⟨HE, gens, drawn, toks + 1, os⟩ := fun HE en5 se =>
    q HE en5 (liD.extBut se.extBut (Ne.symm ei)) (se.extBut _ _ (Nat.ne_of_gt el) tD) (by show HE.objs.size = H0.objs.size + 1; rw [se.1, zD]) fun b o h1 h2 hb => se.extBut b o h1 (kD b o h1 h2 hb)
  cases u with
  | true =>
    rw [if_neg (show ¬ ((Value.bool true != Value.bool true) = true) from Bool.false_ne_true)]
    refine wpAny_pure ?_
    simp only [Bool.false_eq_true, if_false]
    exact wpAny_pure ⟨_, rfl, wpAny_pure (fin HD en4 (Heap.SameBut.refl _ _))⟩
  | false =>
    rw [if_pos (show (Value.bool false != Value.bool true) = true from rfl)]
    refine wpAny_bind (wpAny_setField_rec en4 (by simp) fun HE en5 se => ?_)
    replace se : Heap.SameBut e HD HE := se
    replace en5 : Lent HE e it (i + 1) a true old := en5
    refine wpAny_pure ?_
    simp only [Bool.false_eq_true, if_false]
    exact wpAny_pure ⟨_, rfl, wpAny_pure (fin HE en5 se)⟩
theorem lent_done {e it l a : Addr} {u : Bool} {i : Nat} {items : Array Value} {old : Value} {Q : Option Value → Shared → Prop} (hh : A.handled = none) (en : Lent s.heap e it i a u old) (li : s.heap.IsListIter it l i) (ls : s.heap.IsList l items) (ix : items[i]? = none)
    (q : ∀ h', Heap.ExtBut it s.heap h' → Q none { s with heap := h' }) : wpAny (model prog w) A (pyNext (.ref e)) Q E s := by
  have ty : s.TypeIs (.ref e) "enumerate" := ⟨_, en, rfl⟩
  unfold pyNext
  refine wpAny_bind (wpAny_attempt (wpAny_callSpecial?_slot (name := Str.ofString "__next__") ty F.slot_enumerate_next (wpAny_call_entry F.slot_enumerate_next ty F.entry_enumerate_next ?_ (F.args_enumerate_next_1 _))))
  show wpAny _ _ (field (.ref e) 2 >>= _) _ _ _
  refine wpAny_bind (wpAny_field en rfl (x := .ref it) rfl ?_)
  refine wpAny_bind (wpAny_nextOf_list_end hh li ls ix fun h' x k ⟨o, ho, hc⟩ => ?_)
  refine wpAny_bind (wpAny_isInstance (T := "StopIteration") (b := true) ⟨o, ho, hc⟩ isSubtype_stop ?_)
  exact wpAny_pure (q _ k)
theorem st_next {e it l S : Addr} {i : Nat} {xs : Array Value} {x : Value} {Q : Option Value → Shared → Prop} (st : St s.heap e it l S i xs) (ix : xs[i]? = some x) (ei : e ≠ it) (le : l ≠ e) (lit : l ≠ it) (hS : S < s.heap.objs.size)
    (q : ∀ h', St h' e it l S (i + 1) xs → h'.get? s.heap.objs.size = some { cls := .type "tuple", data := .seq #[.int i s.toks, x] } → h'.objs.size = s.heap.objs.size + 1 →
      (∀ b o, b ≠ e → b ≠ it → s.heap.get? b = some o → h'.get? b = some o) → Q (some (.ref s.heap.objs.size)) { s with heap := h', toks := s.toks + 1 }) : wpAny (model prog w) A (pyNext (.ref e)) Q E s := by
  obtain ⟨x1, li, ls⟩ := st
  have itl : it < s.heap.objs.size := by obtain ⟨_, z, _⟩ := li; exact Heap.lt_size z
  rcases x1 with ⟨rfl, en⟩ | ⟨a, u, v, oa, en, al, ae, ai, aS⟩
  · have el : e < s.heap.objs.size := Heap.lt_size en
    refine wpAny_pyNext_enum_item (i := 0) en li ls ix ei fun h' en' li' tp sz k => q h' ⟨.inr ⟨s.heap.objs.size, false, x, _, ?_, tp, Nat.ne_of_gt el, Nat.ne_of_gt itl, Nat.ne_of_gt hS⟩, li', ls.at fun o z => k l o le lit z⟩ tp sz k
    exact en'
  · exact lent_next en al ae ai li ls ix ei fun h' en' li' tp sz k => q h' ⟨.inr ⟨a, true, v, oa, en', k a oa ae ai al, ae, ai, aS⟩, li', ls.at fun o z => k l o le lit z⟩ tp sz k
theorem st_done {e it l S : Addr} {i : Nat} {xs : Array Value} {Q : Option Value → Shared → Prop} (hh : A.handled = none) (st : St s.heap e it l S i xs) (ix : xs[i]? = none)
    (q : ∀ h', Heap.ExtBut it s.heap h' → Q none { s with heap := h' }) : wpAny (model prog w) A (pyNext (.ref e)) Q E s := by
  obtain ⟨x1, li, ls⟩ := st
  rcases x1 with ⟨rfl, en⟩ | ⟨a, u, v, oa, en, al, ae, ai, aS⟩
  · exact wpAny_pyNext_enum_end (i := 0) hh en li ls ix q
  · exact lent_done hh en li ls ix q
/-- the pairs that are made -/
structure Made (xs : Array Value) (lo : Addr) (h : Heap) (as : List Addr) : Prop where
  above : ∀ a ∈ as, lo ≤ a
  pairs : ∀ (j : Nat) (a : Addr), as[j]? = some a → ∃ (t : Tok) (x : Value), xs[j]? = some x ∧ h.get? a = some { cls := .type "tuple", data := .seq #[.int (j : Int) t, x] }
theorem Made.lt {xs : Array Value} {lo : Addr} {h : Heap} {as : List Addr} (g : Made xs lo h as) {a : Addr} (m : a ∈ as) : a < h.objs.size := by
  obtain ⟨j, hj⟩ := List.mem_iff_getElem?.mp m
  obtain ⟨_, _, _, z⟩ := g.pairs j a hj
  exact Heap.lt_size z
theorem fill {S e it l lo : Addr} {xs : Array Value} {R : Result → Shared → Prop} (hh : A.handled = none) (Se : e ≠ S) (Si : it ≠ S) (Sl : l ≠ S) (ei : e ≠ it) (le : l ≠ e) (lit : l ≠ it) (small : xs.size ≤ sizeLine) (res : Value) {h1 : Heap} (lo1 : e < lo) (lo2 : it < lo) (lo3 : S < lo)
    (fin : ∀ h' tk acc c as, (∀ b o, b ≠ S → b ≠ e → b ≠ it → h1.get? b = some o → h'.get? b = some o) → h'.get? S = some { cls := .type "list", dict := none, data := .seq acc c, slots := #[] } → as.length = xs.size → Made xs lo h' as →
      acc.toList = as.map Value.ref → R (.ok (.ret res)) { s with heap := h', toks := tk }) :
    ∀ (k i : Nat) (h : Heap) (tk c : Nat) (acc : Array Value) (as : List Addr), xs.size - i = k → i ≤ xs.size → St h e it l S i xs → (∀ b o, b ≠ S → b ≠ e → b ≠ it → h1.get? b = some o → h.get? b = some o) →
      h.get? S = some { cls := .type "list", dict := none, data := .seq acc c, slots := #[] } → acc.toList = as.map Value.ref → as.length = i → Made xs lo h as → lo ≤ h.objs.size →
      codeAny (model prog w) A (.builtin "list.extend.loop" ⟨[.ref S, .ref e, res], []⟩) R { s with heap := h, toks := tk }
  | 0, i, h, tk, c, acc, as, hk, hi, st, kp, hS, hacc, hal, made, hlo => by
    have z : i = xs.size := by omega
    subst z
    refine codeAny_builtin PySem.F.entry_extend_loop ?_
    rw [Around.under_plainId PySem.F.plain_extend_loop _]
    show wpAny _ A.in1 (pyNext (.ref e) >>= _) _ _ _
    refine wpAny_bind (st_done (s := { s with heap := h, toks := tk }) (A := A.in1) hh st (Array.getElem?_eq_none (Nat.le_refl _)) fun h' k => ?_)
    refine wpAny_pure (fin h' tk acc c as (fun b o b1 b2 b3 q => k b o b3 (kp b o b1 b2 b3 q)) (k S _ (Ne.symm Si) hS) hal ⟨made.above, fun j a hj => ?_⟩ hacc)
    obtain ⟨t, x, e1, e2⟩ := made.pairs j a hj
    exact ⟨t, x, e1, k a _ (Nat.ne_of_gt (Nat.lt_of_lt_of_le lo2 (made.above a (List.mem_of_getElem? hj)))) e2⟩
  | k + 1, i, h, tk, c, acc, as, hk, hi, st, kp, hS, hacc, hal, made, hlo => by
    have lt : i < xs.size := by omega
    have sz : acc.size = i := by rw [← Array.length_toList, hacc, List.length_map, hal]
    refine codeAny_builtin PySem.F.entry_extend_loop ?_
    rw [Around.under_plainId PySem.F.plain_extend_loop _]
    show wpAny _ A.in1 (pyNext (.ref e) >>= _) _ _ _
    refine wpAny_bind (st_next (s := { s with heap := h, toks := tk }) st (Array.getElem?_eq_getElem lt) ei le lit (Heap.lt_size hS) fun h' st' tp hz k1 => ?_)
    dsimp only at tp hz k1 ⊢
    have hS' := k1 S _ (Ne.symm Se) (Ne.symm Si) hS
    have up : ∀ b o, b ≠ S → h'.get? b = some o → (h'.update S (Obj.mapSeq (·.push (Value.ref h.objs.size)))).get? b = some o := fun b o hb q => (Heap.get?_update_other _ _ (Ne.symm hb)).trans q
    have neS : h.objs.size ≠ S := Nat.ne_of_gt (Heap.lt_size hS)
    show wpAny _ A.in1 (updateSeq S (·.push (Value.ref h.objs.size)) >>= _) _ _ _
    refine wpAny_bind ?_
    refine wpAny_updateSeq hS' rfl (wpAny_pure ⟨plainId_quiet PySem.F.plain_extend_loop _, fill hh Se Si Sl ei le lit small res lo1 lo2 lo3 fin k (i + 1) _ (tk + 1) _ (acc.push (Value.ref h.objs.size)) (as ++ [h.objs.size]) (by omega) lt (st'.keep up Se Si Sl)
      (fun b o b1 b2 b3 q => up b o b1 (k1 b o b2 b3 (kp b o b1 b2 b3 q))) (Heap.get?_update_self _ hS' rfl) (by rw [Array.toList_push, hacc, List.map_append]; rfl) (by rw [List.length_append, hal]; rfl) ⟨?_, ?_⟩ ?_⟩) (by rw [sz]; omega) (by show (acc.push (Value.ref h.objs.size)).size ≤ sizeLine + 1; rw [Array.size_push, sz]; omega)
    · intro a ha
      rcases List.mem_append.mp ha with ha | ha
      · exact made.above a ha
      · rw [List.mem_singleton.mp ha]; exact hlo
    · intro j b hj
      rcases Nat.lt_trichotomy j as.length with c1 | c1 | c1
      · rw [List.getElem?_append_left c1] at hj
        obtain ⟨t, x, e1, e2⟩ := made.pairs j b hj
        have hb := made.above b (List.mem_of_getElem? hj)
        exact ⟨t, x, e1, up b _ (Nat.ne_of_gt (Nat.lt_of_lt_of_le lo3 hb)) (k1 b _ (Nat.ne_of_gt (Nat.lt_of_lt_of_le lo1 hb)) (Nat.ne_of_gt (Nat.lt_of_lt_of_le lo2 hb)) e2)⟩
      · subst c1
        have hb : h.objs.size = b := by simpa using hj
        subst hb
        subst hal
        exact ⟨_, _, Array.getElem?_eq_getElem lt, up _ _ neS tp⟩
      · have z : (as ++ [h.objs.size])[j]? = none := List.getElem?_eq_none (by rw [List.length_append, List.length_singleton]; omega)
        rw [z] at hj; cases hj
    · have q := Heap.lt_size (up _ _ neS tp)
      exact Nat.le_trans hlo (Nat.le_of_lt q)
theorem no_len : typeLookup (.type "enumerate") "__len__" = pure none := am_miss_of_fast (by kernel_rfl)
theorem no_hint : typeLookup (.type "enumerate") "__length_hint__" = pure none := am_miss_of_fast (by kernel_rfl)
theorem hint {e : Addr} {Q : Bool → Shared → Prop} (ty : s.TypeIs (.ref e) "enumerate") (q : Q true s) : wpAny (model prog w) A (Builtin.List.listLengthHint (.ref e)) Q E s := by
  unfold Builtin.List.listLengthHint
  refine wpAny_bind (wpAny_specialOf ty no_len ?_)
  wp_delta
  first | refine wpAny_bind (wpAny_pure ?_) | skip
  refine wpAny_ite_split (fun hab => absurd hab (by decide +kernel)) (fun _ => ?_)
  refine wpAny_ite_split (fun hab => absurd hab (by decide)) (fun _ => ?_)
  refine wpAny_bind (wpAny_specialOf ty no_hint ?_)
  exact wpAny_pure q
/-- list.extend of the fresh list S over the enumerate e -/
theorem extends_ {S e it l : Addr} {xs : Array Value} {R : Result → Shared → Prop} (hh : A.handled = none) (en : IsEnum s.heap e it ((0 : Nat) : Int) .none) (li : s.heap.IsListIter it l 0) (ls : s.heap.IsList l xs) (Se : e ≠ S) (Si : it ≠ S) (Sl : l ≠ S) (ei : e ≠ it) (le : l ≠ e) (lit : l ≠ it)
    (small : xs.size ≤ sizeLine) (res : Value) {c : Nat} (hS : s.heap.get? S = some { cls := .type "list", data := .seq #[] c })
    (fin : ∀ h' tk acc c as, (∀ b o, b ≠ S → b ≠ e → b ≠ it → s.heap.get? b = some o → h'.get? b = some o) → h'.get? S = some { cls := .type "list", dict := none, data := .seq acc c, slots := #[] } → as.length = xs.size → Made xs s.heap.objs.size h' as →
      acc.toList = as.map Value.ref → R (.ok (.ret res)) { s with heap := h', toks := tk }) :
    wpAny (model prog w) A.in1 (Builtin.List.listExtendWith (.ref S) (.ref e) res)
      (fun z s' => match z with | .done f => R (.ok f) s' | .again c' => c'.quiet = true ∧ codeAny (model prog w) A c' R s') (fun x s' => R (.error x) s') s := by
  have ty : s.TypeIs (.ref e) "enumerate" := ⟨_, en, rfl⟩
  have itl : it < s.heap.objs.size := by obtain ⟨_, z, _⟩ := li; exact Heap.lt_size z
  have go : ∀ (h : Heap) (c1 tk : Nat), (∀ b o, b ≠ S → s.heap.get? b = some o → h.get? b = some o) → h.get? S = some { cls := .type "list", data := .seq #[] c1 } → s.heap.objs.size ≤ h.objs.size →
      codeAny (model prog w) A (.builtin "list.extend.loop" ⟨[.ref S, .ref e, res], []⟩) R { s with heap := h, toks := tk } := fun h c1 tk k hS1 hz =>
    fill (s := s) (h1 := s.heap) (lo := s.heap.objs.size) hh Se Si Sl ei le lit small res (Heap.lt_size en) itl (Heap.lt_size hS) fin xs.size 0 h tk c1 #[] [] (Nat.sub_zero _) (Nat.zero_le _)
      (St.keep ⟨.inl ⟨rfl, en⟩, li, ls⟩ k Se Si Sl) (fun b o b1 _ _ q => k b o b1 q) hS1 rfl rfl ⟨(fun a z => nomatch z), (fun j a z => by simp at z)⟩ hz
  unfold Builtin.List.listExtendWith
  refine wpAny_bind (wpAny_typeOf (T := "enumerate") ty ?_)
  have a1 : Builtin.List.listSameRef (.ref S) (.ref e) = false := by simp [Builtin.List.listSameRef, Ne.symm Se]
  have a2 : (Value.type "enumerate" == Value.type "list") = false := by decide
  have a3 : (Value.type "enumerate" == Value.type "tuple") = false := by decide
  simp only [a1, a2, a3, Bool.or_false, Bool.false_eq_true, if_false]
  refine wpAny_bind (wpAny_pyIter_enum en ?_)
  refine wpAny_bind (wpAny_holding (hint ty ?_))
  refine wpAny_ite_split (fun _ => ?_) (fun _ => wpAny_pure ⟨plainId_quiet PySem.F.plain_extend_loop _, go s.heap c _ (fun b o _ q => q) hS (Nat.le_refl _)⟩)
  refine wpAny_bind (wpAny_rule ?_)
  refine wpAny_bind ?_
  show wpAny _ _ (updateSeq S (·.push .none) >>= fun _ => updateSeq S (·.pop)) _ _ _
  refine wpAny_bind (wpAny_updateSeq hS rfl ?_)
  have hS2 := Heap.get?_update_self (Obj.mapSeq (·.push Value.none)) hS rfl
  refine wpAny_updateSeq (hz := by seq_fits) hS2 rfl ?_
  have hS3 := Heap.get?_update_self (Obj.mapSeq (·.pop)) hS2 rfl
  refine wpAny_pure ⟨plainId_quiet PySem.F.plain_extend_loop _, go _ _ _ (fun b o hb q => ?_) hS3 ?_⟩
  · exact (Heap.get?_update_other _ _ (Ne.symm hb)).trans ((Heap.get?_update_other _ _ (Ne.symm hb)).trans q)
  · simp [Heap.size_update]
theorem inits {S e it l : Addr} {xs : Array Value} {R : Result → Shared → Prop} (hh : A.handled = none) (en : IsEnum s.heap e it ((0 : Nat) : Int) .none) (li : s.heap.IsListIter it l 0) (ls : s.heap.IsList l xs) (Se : e ≠ S) (Si : it ≠ S) (Sl : l ≠ S) (ei : e ≠ it) (le : l ≠ e) (lit : l ≠ it)
    (small : xs.size ≤ sizeLine) (hS : s.heap.get? S = some { cls := .type "list", data := .seq #[] })
    (fin : ∀ h' tk acc c as, (∀ b o, b ≠ S → b ≠ e → b ≠ it → s.heap.get? b = some o → h'.get? b = some o) → h'.get? S = some { cls := .type "list", dict := none, data := .seq acc c, slots := #[] } → as.length = xs.size → Made xs s.heap.objs.size h' as →
      acc.toList = as.map Value.ref → R (.ok (.ret .none)) { s with heap := h', toks := tk }) :
    wpAny (model prog w) A.in1 (Builtin.«list.__init__» ⟨[.ref S, .ref e], []⟩)
      (fun z s' => match z with | .done f => R (.ok f) s' | .again c' => c'.quiet = true ∧ codeAny (model prog w) A c' R s') (fun x s' => R (.error x) s') s := by
  show wpAny _ _ (do let was ← Builtin.List.listItems (.ref S); Builtin.List.listUpdate (.ref S) (fun _ => #[]); letGo was.toList.reverse; Builtin.List.listExtendWith (.ref S) (.ref e) .none) _ _ s
  refine wpAny_bind ?_
  unfold Builtin.List.listItems
  refine wpAny_bind (wpAny_seqItems hS rfl (wpAny_pure ?_))
  show wpAny _ _ (updateSeq S (fun _ => #[]) >>= fun _ => letGo (#[] : Array Value).toList.reverse >>= fun _ => Builtin.List.listExtendWith (.ref S) (.ref e) .none) _ _ s
  refine wpAny_bind (wpAny_updateSeq hS rfl ?_)
  have hS2 := Heap.get?_update_self (Obj.mapSeq (fun _ => (#[] : Array Value))) hS rfl
  have oth : ∀ b o, b ≠ S → s.heap.get? b = some o → (s.heap.update S (Obj.mapSeq (fun _ => (#[] : Array Value)))).get? b = some o := fun b o hb q => (Heap.get?_update_other _ _ (Ne.symm hb)).trans q
  have sz : (s.heap.update S (Obj.mapSeq (fun _ => (#[] : Array Value)))).objs.size = s.heap.objs.size := by simp [Heap.size_update]
  refine wpAny_bind (wpAny_letGo ?_)
  refine extends_ (l := l) (it := it) (xs := xs) hh (oth e _ Se en) (li.at fun o q => oth it o Si q) (ls.at fun o q => oth l o Sl q) Se Si Sl ei le lit small .none hS2 fun h' tk acc c as k hS' hl made hacc => ?_
  refine fin h' tk acc c as (fun b o b1 b2 b3 q => k b o b1 b2 b3 (oth b o b1 q)) hS' hl ?_ hacc
  rw [sz] at made
  exact made
theorem lists {e it l : Addr} {xs : Array Value} {Q : Value → Shared → Prop} (hh : A.handled = none) (en : IsEnum s.heap e it ((0 : Nat) : Int) .none) (li : s.heap.IsListIter it l 0) (ls : s.heap.IsList l xs) (ei : e ≠ it) (le : l ≠ e) (lit : l ≠ it) (small : xs.size ≤ sizeLine)
    (fin : ∀ h' tk acc c as, (∀ b o, b ≠ e → b ≠ it → s.heap.get? b = some o → h'.get? b = some o) → h'.get? s.heap.objs.size = some { cls := .type "list", dict := none, data := .seq acc c, slots := #[] } → as.length = xs.size → Made xs (s.heap.objs.size + 1) h' as →
      acc.toList = as.map Value.ref → Q (.ref s.heap.objs.size) { s with heap := h', toks := tk }) : wpAny (model prog w) A (call (.type "list") [.ref e]) Q E s := by
  refine callType_codes (Q₁ := fun obj s1 => obj = .ref s.heap.objs.size ∧ s1 = { s with heap := s.heap.push { cls := .type "list", data := .seq #[] } }) PySem.F.called_list (PySem.F.typeCall_list_1 _) PySem.F.entry_list_init (code_list_new _ ⟨rfl, rfl⟩) fun obj s1 h1 => ?_
  obtain ⟨rfl, rfl⟩ := h1
  have hS : (s.heap.push { cls := .type "list", data := .seq #[] }).get? s.heap.objs.size = some { cls := .type "list", data := .seq #[] } := Heap.get?_push_size _ rfl
  have l1 : e < s.heap.objs.size := Heap.lt_size en
  have l2 : it < s.heap.objs.size := by obtain ⟨_, z, _⟩ := li; exact Heap.lt_size z
  have l3 : l < s.heap.objs.size := by obtain ⟨_, z, _⟩ := ls; exact Heap.lt_size z
  have up : ∀ b o, s.heap.get? b = some o → (s.heap.push { cls := .type "list", data := .seq #[] }).get? b = some o := fun b o q => Heap.get?_push_of_some _ q
  refine ⟨⟨_, hS, rfl⟩, PySem.F.args_list_init_2 _ _, inits (l := l) (it := it) (xs := xs) (A := A.in1) hh (up _ _ en) (li.at fun o q => up it o q) (ls.at fun o q => up l o q) (Nat.ne_of_lt l1) (Nat.ne_of_lt l2) (Nat.ne_of_lt l3) ei le lit small hS fun h' tk acc c as k hS' hl made hacc => ?_⟩
  refine ⟨rfl, fin h' tk acc c as (fun b o b1 b2 q => k b o (Nat.ne_of_lt (Heap.lt_size q)) b1 b2 (up b o q)) hS' hl ?_ hacc⟩
  have sz : (s.heap.push { cls := .type "list", data := .seq #[] }).objs.size = s.heap.objs.size + 1 := Heap.size_push _ _
  dsimp only at made
  rw [sz] at made
  exact made
end
end GEn

namespace G
open PySem PySem.Spec L2
section
variable {X : Cx} {pins : List (Addr × Obj)} {σ : L2.St} {H H' : Hp} {s : Shared} {h' : Heap} {t' : Nat}
/-- many new objects at once -/
theorem inv_grow (I : Inv X pins σ H s) (k : ∀ b u, s.heap.get? b = some u → h'.get? b = some u) (e : Same H H') (n : ∀ b o, H' b = some o → H b = some o ∨ (s.heap.objs.size ≤ b ∧ ObjOk X.prog X.w H' h' b o)) : Inv X pins σ H' { s with heap := h', toks := t' } := by
  refine I.un ⟨fun b u q _ _ _ => k b u q, fun b u q _ _ _ => ⟨u.slots, k b u q⟩, fun b u q z _ => ?_, fun b u q _ => ⟨u, k b u q⟩, fun b xs q => e b _ q, fun b u xs q => e b _ q, fun b ps q => ⟨#[], by rw [e b _ q]; simp⟩⟩ fun b o q => ?_
  · cases c : H' b with
    | none => rfl
    | some o =>
      rcases n b o c with y | ⟨y, _⟩
      · rw [z] at y; cases y
      · exact absurd (Nat.lt_of_lt_of_le (Heap.lt_size q) y) (Nat.lt_irrefl _)
  · rcases n b o q with y | ⟨_, y⟩
    · exact (I.hok b o y).stay (fun c u _ z => k c u z) (fun c z => e c _ z) fun c xs z => e c _ z
    · exact y
/-- the heap with the pairs (j, x_j) at the addresses as, from j on -/
def withPairs (H : Hp) : Nat → List Addr → List V → Hp
  | j, a :: as, x :: xs => upd (withPairs H (j + 1) as xs) a (.tup [.int (j : Int), x])
  | _, _, _ => H
theorem withPairs_out {H : Hp} : ∀ {as : List Addr} {j : Nat} {xs : List V} {b : Addr}, b ∉ as → withPairs H j as xs b = H b
  | [], _, _, _, _ => rfl
  | _ :: _, _, [], _, _ => rfl
  | a :: as, j, x :: xs, b, h => by
    unfold withPairs
    rw [upd_ne fun c => h (by rw [c]; exact List.mem_cons_self)]
    exact withPairs_out fun z => h (List.mem_cons_of_mem _ z)
theorem withPairs_in {H : Hp} : ∀ {as : List Addr} {j i : Nat} {xs : List V} {b : Addr} {x : V}, as.Nodup → as[i]? = some b → xs[i]? = some x → withPairs H j as xs b = some (.tup [.int ((j + i : Nat) : Int), x])
  | a :: as, j, 0, x :: xs, b, y, _, h1, h2 => by
    have h1 : a = b := Option.some.inj h1
    have h2 : x = y := Option.some.inj h2
    subst h1; subst h2
    unfold withPairs
    rw [upd_same]; rfl
  | a :: as, j, i + 1, x :: xs, b, y, nd, h1, h2 => by
    have h1 : as[i]? = some b := by simpa using h1
    have h2 : xs[i]? = some y := by simpa using h2
    unfold withPairs
    have c : b ≠ a := fun c => (List.nodup_cons.mp nd).1 (c ▸ List.mem_of_getElem? h1)
    rw [upd_ne c, withPairs_in (List.nodup_cons.mp nd).2 h1 h2, show j + 1 + i = j + (i + 1) by omega]
theorem withPairs_some {H : Hp} : ∀ {as : List Addr} {j : Nat} {xs : List V} {b : Addr} {o : HO}, withPairs H j as xs b = some o → H b = some o ∨ ∃ (i : Nat) (x : V), as[i]? = some b ∧ xs[i]? = some x ∧ o = .tup [.int ((j + i : Nat) : Int), x]
  | [], _, _, _, _, h => .inl h
  | _ :: _, _, [], _, _, h => .inl h
  | a :: as, j, x :: xs, b, o, h => by
    unfold withPairs at h
    by_cases c : b = a
    · subst c
      rw [upd_same] at h
      cases h
      exact .inr ⟨0, x, rfl, rfl, rfl⟩
    · rw [upd_ne c] at h
      rcases withPairs_some h with z | ⟨i, y, h1, h2, h3⟩
      · exact .inl z
      · exact .inr ⟨i + 1, y, by simpa using h1, by simpa using h2, by rw [h3, show j + 1 + i = j + (i + 1) by omega]⟩
/-- list(enumerate(xs)) -/
def tLE (K : PySem.W.Frag) (ta : TE) : TE := fun σ H Q => ta σ H fun x H1 => ∃ a xs, x = V.ref a ∧ SqL K H1 a xs ∧ ∀ (p : Addr) (as : List Addr), as.Nodup → p ∉ as → as.length = xs.length → H1 p = none → (∀ b ∈ as, H1 b = none) → Q (.ref p) (upd (withPairs H1 0 as xs) p (.lst (as.map V.ref)))
open PyProof.Rows GEn in
theorem pe_listEnum {a : Expr} {ta : TE} {p p2 pos pos2 : Pos} (hg : Gl X "list") (hm : X.mg "list" = none) (hg2 : Gl X "enumerate") (hm2 : X.mg "enumerate" = none) (hc : X.calm = true) (ha : PE X a ta)
    (na : starEach [a] X.env = (false, eval a X.env) :: starEach [] X.env := by rfl) (nb : starEach [.Call (.Name "enumerate" p2) [a] [] pos2] X.env = (false, eval (.Call (.Name "enumerate" p2) [a] [] pos2) X.env) :: starEach [] X.env := by rfl) :
    PE X (.Call (.Name "list" p) [.Call (.Name "enumerate" p2) [a] [] pos2] [] pos) (tLE X.K ta) := by
  refine ⟨fun pins s σ H Q I h => ?_⟩
  have hh := I.ok.hd hc
  refine Call_ (ld_blt I hg hm boot_list (PyProof.Rows.callWith_type1 (args_cons ?_ nb) nb))
  refine Call_ (ld_blt I hg2 hm2 boot_enumerate (PyProof.Rows.callWith_type1 (one_arg ha I h (fun v s2 x H2 I2 r q => ?_) na) na))
  obtain ⟨l, xs, rfl, hx, q⟩ := q
  cases r
  obtain ⟨its, rv, pl, hz⟩ := I2.list hx
  have ls : s2.heap.IsList l its.toArray := pl.isList
  refine call_enumerate_list ls fun h3 en it sz k3 => args_nil ?_
  have ll : l < s2.heap.objs.size := by obtain ⟨_, z, _⟩ := ls; exact Heap.lt_size z
  have I3 : Inv X pins σ H2 { s2 with heap := h3 } := I2.kept (t' := s2.toks) k3
  refine lists (s := { s2 with heap := h3 }) (l := l) (it := s2.heap.objs.size) (xs := its.toArray) hh en it (ls.at fun o z => k3 l o z) (Nat.succ_ne_self _) (Nat.ne_of_lt (Nat.lt_succ_of_lt ll)) (Nat.ne_of_lt ll) (by rw [List.size_toArray, ← rv.length]; exact hz) fun h4 tk acc c as k4 hS len made hacc => ?_
  dsimp only at k4 hS made ⊢
  have al : as.length = xs.length := by rw [len, List.size_toArray, rv.length]
  have atx : ∀ {i : Nat} {b : Addr}, as[i]? = some b → ∃ (t : Tok) (u : Value) (x : V), xs[i]? = some x ∧ RelV x u ∧ h4.get? b = some { cls := .type "tuple", data := .seq #[.int (i : Int) t, u] } := fun {i b} hb => by
    obtain ⟨t, u, e1, e2⟩ := made.pairs i b hb
    have e1 : its[i]? = some u := by simpa using e1
    have il : i < xs.length := by
      rw [← al]
      rcases Nat.lt_or_ge i as.length with z | z
      · exact z
      · rw [List.getElem?_eq_none z] at hb; cases hb
    obtain ⟨u', e3, r3⟩ := rv.get (List.getElem?_eq_getElem il)
    rw [e1] at e3
    cases e3
    exact ⟨t, u, _, List.getElem?_eq_getElem il, r3, e2⟩
  have nd : as.Nodup := by
    refine List.pairwise_iff_getElem.mpr fun i j hi hj hij e => ?_
    obtain ⟨t1, u1, x1, _, _, g1⟩ := atx (List.getElem?_eq_getElem hi)
    obtain ⟨t2, u2, x2, _, _, g2⟩ := atx (List.getElem?_eq_getElem hj)
    rw [e] at g1
    rw [g1] at g2
    have z := Option.some.inj g2
    simp at z
    omega
  have big : ∀ b ∈ as, h3.objs.size + 1 ≤ b := made.above
  have sz3 : s2.heap.objs.size ≤ h3.objs.size := by omega
  have fr : ∀ b, h3.objs.size ≤ b → H2 b = none := fun b hb => I3.hok.fresh hb
  have pS : h3.objs.size ∉ as := fun z => by have := big _ z; omega
  have hq := q h3.objs.size as nd pS al (fr _ (Nat.le_refl _)) fun b hb => fr b (by have := big b hb; omega)
  have sameP : Same H2 (upd (withPairs H2 0 as xs) h3.objs.size (.lst (as.map V.ref))) := fun b o z => by
    have c1 : b ≠ h3.objs.size := ne_of_none z (fr _ (Nat.le_refl _))
    have c2 : b ∉ as := fun c => by rw [fr b (by have := big b c; omega)] at z; cases z
    rw [upd_ne c1, withPairs_out c2]; exact z
  have up2 : ∀ b o, s2.heap.get? b = some o → h4.get? b = some o := fun b o z => by
    have lt := Heap.lt_size z
    exact k4 b o (Nat.ne_of_lt (Nat.lt_succ_of_lt lt)) (Nat.ne_of_lt lt) (k3 b o z)
  have I4 : Inv X pins σ (upd (withPairs H2 0 as xs) h3.objs.size (.lst (as.map V.ref))) { s2 with heap := h4, toks := tk } := by
    refine inv_grow (h' := h4) (t' := tk) I2 up2 sameP fun b o z => ?_
    by_cases c : b = h3.objs.size
    · subst c
      rw [upd_same] at z
      cases z
      refine .inr ⟨sz3, by rw [List.length_map, al]; exact hz, as.map Value.ref, c, vals_refs as, ?_⟩
      rw [← hacc, Array.toArray_toList]; exact hS
    · rw [upd_ne c] at z
      rcases withPairs_some z with z | ⟨i, x, h1, h2, h3'⟩
      · exact .inl z
      · subst h3'
        obtain ⟨t, u, x', e1, r1, g1⟩ := atx h1
        rw [h2] at e1
        cases e1
        refine .inr ⟨Nat.le_trans sz3 (Nat.le_of_lt (big b (List.mem_of_getElem? h1))), by show 2 ≤ sizeLine; decide, [.int (i : Int) t, u], ?_, _, g1, rfl, _, rfl⟩
        refine .cons ⟨t, ?_⟩ (.cons r1 .nil)
        rw [Nat.zero_add]
  exact ⟨.ref h3.objs.size, _, I4, rfl, hq⟩
end
section
variable {X : Cx} {K : PySem.W.Frag} {a : Expr} {p p2 pos pos2 : Pos} {wa : WE} {ta : TE}
def wLE (wa : WE) : WE := fun env P => wa env fun r e1 => match r.get e1 with
  | some (.list ds) => P (.ow (.list (pairs ds))) e1
  | _ => False
theorem se_listEnum (ha : SE K ta wa) : SE K (tLE K ta) (wLE wa) := by
  intro env σ Hz H P Q s w q
  refine ha env σ Hz H _ _ s w fun r e1 x Hz1 H1 w1 s1 g1 r1 => ?_
  split at w1
  · rename_i z1 ds e
    obtain ⟨b, xs, rfl, hx, rr⟩ := (r1.top s1 e).list s1.sub
    refine ⟨b, xs, rfl, hx, fun pp as nd np len fp fas => ?_⟩
    -- the pairs stand still
    have zas : ∀ b ∈ as, Hz1 b = none := fun b hb => z_none s1.sub (fas b hb)
    have ez : Same Hz1 (withPairs Hz1 0 as xs) := fun c o z => by
      have n : c ∉ as := fun m => by rw [zas c m] at z; cases z
      rw [withPairs_out n]; exact z
    have eh : Same H1 (withPairs H1 0 as xs) := fun c o z => by
      have n : c ∉ as := fun m => by rw [fas c m] at z; cases z
      rw [withPairs_out n]; exact z
    have sub : Same (withPairs Hz1 0 as xs) (withPairs H1 0 as xs) := fun c o z => by
      rcases withPairs_some z with z | ⟨i, x, h1, h2, h3⟩
      · exact eh c o (s1.sub c o z)
      · rw [withPairs_in nd h1 h2, h3]
    have s2 : St2 K e1 σ (withPairs Hz1 0 as xs) (withPairs H1 0 as xs) := s1.more ez eh sub fun c o => by
      obtain ⟨h1, u, h2⟩ := Own.lt s1 o
      have n : c ∉ as := fun m => by rw [fas c m] at h2; cases h2
      rw [withPairs_out n]; exact h1
    have g2 : Go e1 σ Hz1 H1 e1 σ (withPairs Hz1 0 as xs) (withPairs H1 0 as xs) := by
      refine ⟨ez, fun c z => ?_, fun c o z _ => eh c o z, fun c z y => ?_, fun c z => .inl z, fun i d q => ⟨⟨d, q⟩, rfl⟩, rfl⟩
      · obtain ⟨o, z⟩ := ne_none z
        rcases withPairs_some z with z | ⟨i, x, h1, h2, h3⟩
        · exact .inl (by rw [z]; exact fun y => nomatch y)
        · exact .inr (.inl (fas c (List.mem_of_getElem? h1)))
      · obtain ⟨o, z⟩ := ne_none z
        rw [eh c o z] at y; cases y
    have fp2 : withPairs H1 0 as xs pp = none := by rw [withPairs_out np]; exact fp
    have reps : Reps K (withPairs Hz1 0 as xs) (as.map V.ref) (pairs ds) := by
      have ln := rr.len
      have each : ∀ (n : Nat) (bs : List Addr) (ys : List D), (∀ i b, bs[i]? = some b → as[n + i]? = some b) → bs.length = ys.length → (∀ i d, ys[i]? = some d → (pairs ds)[n + i]? = some d) → Reps K (withPairs Hz1 0 as xs) (bs.map V.ref) ys := by
        intro n bs
        induction bs generalizing n with
        | nil => intro ys _ h2 _; cases ys with
          | nil => exact .nil
          | cons y ys => cases h2
        | cons b bs ih =>
          intro ys h1 h2 h3
          cases ys with
          | nil => cases h2
          | cons y ys =>
            refine .cons ?_ (ih (n + 1) ys (fun i b h => ?_) (by simpa using h2) fun i d h => ?_)
            · have hb := h1 0 b rfl
              have hy := h3 0 y rfl
              rw [Nat.add_zero] at hb hy
              have nl : n < ds.length := by
                rw [← pairs_length]
                rcases Nat.lt_or_ge n (pairs ds).length with c | c
                · exact c
                · rw [List.getElem?_eq_none c] at hy; cases hy
              have hd : ds[n]? = some ds[n] := List.getElem?_eq_getElem nl
              obtain ⟨v, hv, rv⟩ := rr.get hd
              rw [pairs_get hd] at hy
              cases hy
              refine .tup (.of (by rw [withPairs_in nd hb hv, Nat.zero_add])) (.cons (.int _) (.cons (rv.mono ez) .nil))
            · have z := h1 (i + 1) b (by simpa using h)
              rw [show n + 1 + i = n + (i + 1) by omega]; exact z
            · have z := h3 (i + 1) d (by simpa using h)
              rw [show n + 1 + i = n + (i + 1) by omega]; exact z
      refine each 0 as (pairs ds) (fun i b h => by rw [Nat.zero_add]; exact h) (by rw [len, pairs_length, ln]) fun i d h => by rw [Nat.zero_add]; exact h
    obtain ⟨s3, g3, r3⟩ := new_ow (d := .list (pairs ds)) (o := .lst (as.map V.ref)) s2 fp2 reps
    exact q _ _ _ _ _ w1 s3 ((g1.trans g2).trans g3) (r3.back (g1.trans g2).dm)
  · exact w1.elim
theorem ge_listEnum (hg : Gl X "list") (hm : X.mg "list" = none) (hg2 : Gl X "enumerate") (hm2 : X.mg "enumerate" = none) (ha : GE X a ta wa) (hc : X.calm = true := by rfl)
    (na : starEach [a] X.env = (false, eval a X.env) :: starEach [] X.env := by rfl) (nb : starEach [.Call (.Name "enumerate" p2) [a] [] pos2] X.env = (false, eval (.Call (.Name "enumerate" p2) [a] [] pos2) X.env) :: starEach [] X.env := by rfl) :
    GE X (.Call (.Name "list" p) [.Call (.Name "enumerate" p2) [a] [] pos2] [] pos) (tLE X.K ta) (wLE wa) := by
  obtain ⟨q, s⟩ := ha.ex
  exact ⟨pe_listEnum hg hm hg2 hm2 hc q na nb, se_listEnum s⟩
end
end G

namespace G
open PySem PySem.Spec L2
/-! ### for the readings' proofs -/
theorem ixF_l {ds : List D} {i : Int} {k : R → Prop} : ixF (.list ds) (.int i) k = ∃ d, atI ds i = some d ∧ k (.fz d) := rfl
theorem ixF_t {ds : List D} {i : Int} {k : R → Prop} : ixF (.tuple ds) (.int i) k = ∃ d, atI ds i = some d ∧ k (.fz d) := rfl
theorem ixF_s {z : Str} {i : Int} {k : R → Prop} : ixF (.str z) (.int i) k = (z.length ≤ sizeLine ∧ ∃ c, atI z.cps.toList i = some c ∧ k (.fz (.str ⟨#[c]⟩))) := rfl
section
variable {α : Type} {a b c d e f : α} {l : List α}
theorem at0 : atI (a :: l) 0 = some a := by
  unfold atI ixN; simp only [Int.le_refl, if_true, List.length_cons]; rw [if_pos (by omega)]; rfl
theorem at1 : atI (a :: b :: l) 1 = some b := by
  unfold atI ixN; rw [if_pos (by decide), if_pos (by simp only [List.length_cons]; omega)]; rfl
theorem at2 : atI (a :: b :: c :: l) 2 = some c := by
  unfold atI ixN; rw [if_pos (by decide), if_pos (by simp only [List.length_cons]; omega)]; rfl
theorem ixn0 {n : Nat} : ixN (n + 1) 0 = some 0 := by
  unfold ixN; rw [if_pos (by decide), if_pos (by omega)]; rfl
theorem ixn1 {n : Nat} : ixN (n + 1 + 1) 1 = some 1 := by
  unfold ixN; rw [if_pos (by decide), if_pos (by omega)]; rfl
end
theorem sz0 {n : Nat} (h : n ≤ 100000) : n ≤ sizeLine := Nat.le_trans h (by decide)
theorem sz1 {n : Nat} (h : n < 100000) : n < sizeLine := Nat.lt_of_lt_of_le h (by decide)
theorem eqF_s {x y : Str} {k : R → Prop} : eqF (.str x) (.str y) k = k (.fz (.bool (decide (x = y)))) := rfl
theorem eqF_i {x y : Int} {k : R → Prop} : eqF (.int x) (.int y) k = k (.fz (.bool (decide (x = y)))) := rfl
theorem neF_s {x y : Str} {k : R → Prop} : neF (.str x) (.str y) k = k (.fz (.bool (!decide (x = y)))) := rfl
theorem neF_i {x y : Int} {k : R → Prop} : neF (.int x) (.int y) k = k (.fz (.bool (!decide (x = y)))) := rfl
theorem eqF_l {x y : List D} {k : R → Prop} : eqF (.list x) (.list y) k = ((SeqAt.shaped (.list x) = true ∧ SeqAt.shaped (.list y) = true) ∧ k (.fz (.bool (PyData.eqv (.list x) (.list y))))) := rfl
theorem eqF_t {x y : List D} {k : R → Prop} : eqF (.tuple x) (.tuple y) k = ((SeqAt.shaped (.tuple x) = true ∧ SeqAt.shaped (.tuple y) = true) ∧ k (.fz (.bool (PyData.eqv (.tuple x) (.tuple y))))) := rfl
theorem neF_l {x y : List D} {k : R → Prop} : neF (.list x) (.list y) k = ((SeqAt.shaped (.list x) = true ∧ SeqAt.shaped (.list y) = true) ∧ k (.fz (.bool (!PyData.eqv (.list x) (.list y))))) := rfl
theorem inF_l {n : Bool} {x : Str} {y : List D} {k : R → Prop} : inF n (.str x) (.list y) k = ((SeqAt.shaped (.str x) = true ∧ SeqAt.shaped (.list y) = true) ∧ k (.fz (.bool (if n then !inD (.str x) y else inD (.str x) y)))) := rfl
theorem inF_t {n : Bool} {x : Str} {y : List D} {k : R → Prop} : inF n (.str x) (.tuple y) k = ((∀ d ∈ y, ∃ z, d = PyData.str z) ∧ k (.fz (.bool (if n then !inS x y else inS x y)))) := rfl
theorem inF_s {n : Bool} {x z : Str} {k : R → Prop} : inF n (.str x) (.str z) k = ∃ c, x = ⟨#[c]⟩ ∧ k (.fz (.bool (if n then !decide (c ∈ z.cps.toList) else decide (c ∈ z.cps.toList)))) := rfl
/-- data of a Lean type, of little depth -/
class Td (α : Type) [DecidableEq α] where
  d : α → D
  ok : α → Prop
  lay : ∀ a, ok a → (d a).canLay0 = true
  eqv : ∀ a b, PyData.eqv (d a) (d b) = decide (a = b)
  dep : Nat
  deep : ∀ a, (d a).depth ≤ dep
theorem Td.shaped {α : Type} [DecidableEq α] [Td α] (h : Td.dep α ≤ 64 := by decide) {a : α} (k : Td.ok a) : SeqAt.shaped (Td.d a) = true := by
  unfold SeqAt.shaped
  rw [Td.lay a k, Bool.true_and, decide_eq_true_eq]
  exact Nat.le_trans (Td.deep a) h
instance : Td Int where
  d := .int
  ok _ := True
  lay _ _ := by simp only [PyData.canLay0]
  eqv a b := by simp only [PyData.eqv]; exact PySem.W.beq_decide a b
  dep := 0
  deep _ := by simp only [PyData.depth]; exact Nat.le_refl _
def SOk (x : Str) : Prop := PyData.strOk x = true
instance : Td Str where
  d := .str
  ok := SOk
  lay _ h := by simp only [PyData.canLay0]; exact h
  eqv a b := by simp only [PyData.eqv]; exact PySem.W.beq_decide a b
  dep := 0
  deep _ := by simp only [PyData.depth]; exact Nat.le_refl _
section
variable {α : Type} [DecidableEq α] [Td α]
theorem td_layAll : ∀ l : List α, (∀ a ∈ l, Td.ok a) → PyData.canLayAll0 (l.map Td.d) = true
  | [], _ => by simp only [List.map_nil, PyData.canLayAll0]
  | a :: l, h => by
    simp only [List.map_cons, PyData.canLayAll0]
    rw [Td.lay a (h a List.mem_cons_self), td_layAll l fun b hb => h b (List.mem_cons_of_mem _ hb)]; rfl
theorem td_eqvAll : ∀ l m : List α, PyData.eqvAll (l.map Td.d) (m.map Td.d) = decide (l = m)
  | [], [] => by simp [PyData.eqvAll]
  | [], _ :: _ => by simp [PyData.eqvAll]
  | _ :: _, [] => by simp [PyData.eqvAll]
  | a :: l, b :: m => by
    rw [List.map_cons, List.map_cons, PyData.eqvAll, Td.eqv, td_eqvAll l m, ← Bool.decide_and]
    exact decide_eq_decide.mpr (by rw [List.cons.injEq])
theorem td_deepAll : ∀ l : List α, PyData.depthAll (l.map Td.d) ≤ Td.dep α
  | [] => by simp only [List.map_nil, PyData.depthAll]; exact Nat.zero_le _
  | a :: l => by simp only [List.map_cons, PyData.depthAll]; exact Nat.max_le.mpr ⟨Td.deep a, td_deepAll l⟩
instance : Td (List α) where
  d l := .list (l.map Td.d)
  ok l := ∀ a ∈ l, Td.ok a
  lay l h := by simp only [PyData.canLay0]; exact td_layAll l h
  eqv l m := by simp only [PyData.eqv]; exact td_eqvAll l m
  dep := Td.dep α + 1
  deep l := by simp only [PyData.depth]; have := td_deepAll l; omega
theorem sh_l {l : List α} (k : ∀ a ∈ l, Td.ok a) (h : Td.dep α ≤ 63 := by decide) : SeqAt.shaped (.list (l.map Td.d)) = true := Td.shaped (α := List α) (by show Td.dep α + 1 ≤ 64; omega) (a := l) k
theorem eqv_l (l m : List α) : PyData.eqv (.list (l.map Td.d)) (.list (m.map Td.d)) = decide (l = m) := Td.eqv (α := List α) l m
theorem inD_l (x : α) (l : List α) : inD (Td.d x) (l.map Td.d) = decide (x ∈ l) := by
  unfold inD
  induction l with
  | nil => simp
  | cons y l ih =>
    rw [List.map_cons, List.any_cons, ih, Td.eqv, ← Bool.decide_or]
    exact decide_eq_decide.mpr (by rw [List.mem_cons, eq_comm])
end
theorem sh_s {x : Str} (h : SOk x) : SeqAt.shaped (.str x) = true := Td.shaped (α := Str) (by decide) h
theorem sh_i (x : Int) : SeqAt.shaped (.int x) = true := Td.shaped (α := Int) (by decide) (a := x) trivial
theorem sh_ss {l : List Str} (h : ∀ x ∈ l, SOk x) : SeqAt.shaped (.list (l.map PyData.str)) = true := sh_l h
theorem sh_is (l : List Int) : SeqAt.shaped (.list (l.map PyData.int)) = true := sh_l (α := Int) fun _ _ => trivial
theorem sh_nil : SeqAt.shaped (.list []) = true := sh_l (α := Int) (l := []) fun _ z => nomatch z
theorem eqv_ss (l m : List Str) : PyData.eqv (.list (l.map PyData.str)) (.list (m.map PyData.str)) = decide (l = m) := eqv_l l m
theorem eqv_is (l m : List Int) : PyData.eqv (.list (l.map PyData.int)) (.list (m.map PyData.int)) = decide (l = m) := eqv_l l m
theorem inD_ss (x : Str) (l : List Str) : inD (.str x) (l.map PyData.str) = decide (x ∈ l) := inD_l x l
end G

namespace G
open PySem PySem.Spec L2 TL
/-! ### what the readings come to, per form of value -/
section
variable {env : Ev} {x y d : D} {i j : Int} {z u : Str} {as bs : List D} {k : R → Prop} {C : Int → Int → Prop} {g : Int → Int → D} {b : Bool}
theorem get_fz : R.get env (.fz d) = some d := rfl
theorem get_ow : R.get env (.ow d) = some d := rfl
def brD : Option E → Option D
  | some (.ow _ d) => some d
  | some (.fz d) => some d
  | _ => none
theorem get_br {i : Nat} : R.get env (.br i) = brD env[i]? := by
  unfold R.get brD; rfl
theorem brD_ow {b : Bool} : brD (some (.ow b d)) = some d := rfl
theorem brD_fz : brD (some (.fz d)) = some d := rfl
theorem fzd_fz : R.fzd (.fz d) = some d := rfl
theorem fzd_ow : R.fzd (.ow d) = some d := rfl
theorem fzd_br {i : Nat} : R.fzd (.br i) = none := rfl
theorem intF_i : intF C g (.int i) (.int j) k = (C i j ∧ k (.fz (g i j))) := rfl
theorem intF0_i : intF0 g (.int i) (.int j) k = k (.fz (g i j)) := rfl
theorem addF_i : addF (.int i) (.int j) k = k (.fz (.int (i + j))) := rfl
theorem addF_s : addF (.str z) (.str u) k = (z.length + u.length ≤ sizeLine ∧ k (.fz (.str (z ++ u)))) := rfl
theorem addF_l : addF (.list as) (.list bs) k = (as.length + bs.length ≤ sizeLine ∧ k (.ow (.list (as ++ bs)))) := rfl
theorem addF_t : addF (.tuple as) (.tuple bs) k = (as.length + bs.length ≤ sizeLine ∧ k (.fz (.tuple (as ++ bs)))) := rfl
theorem ltF_i : ltF (.int i) (.int j) k = k (.fz (.bool (decide (i < j)))) := rfl
theorem ltF_s : ltF (.str z) (.str u) k = k (.fz (.bool (decide (z.cps.toList < u.cps.toList)))) := rfl
theorem absF_i : absF (.int i) k = k (.fz (.int (if i < 0 then -i else i))) := rfl
theorem lenF_l : lenF (.list as) k = k (.fz (.int as.length)) := rfl
theorem lenF_t : lenF (.tuple as) k = k (.fz (.int as.length)) := rfl
theorem lenF_s : lenF (.str z) k = (z.length ≤ sizeLine ∧ k (.fz (.int z.length))) := rfl
theorem toIntF_i : toIntF (.int i) k = k (.fz (.int i)) := rfl
theorem toIntF_b : toIntF (.bool b) k = k (.fz (.int (if b then 1 else 0))) := rfl
theorem toListF_l : toListF (.list as) k = k (.ow (.list as)) := rfl
theorem toListF_t : toListF (.tuple as) k = k (.ow (.list as)) := rfl
theorem toTupF_l : toTupF (.list as) k = k (.fz (.tuple as)) := rfl
theorem toTupF_t : toTupF (.tuple as) k = k (.fz (.tuple as)) := rfl
theorem negF_i : negF (.int i) k = k (.fz (.int (-i))) := rfl
theorem cutF_l {lo hi : Option Int} : cutF (.list as) lo hi k = k (.ow (.list (cutD as lo hi))) := rfl
theorem cutF_t {lo hi : Option Int} : cutF (.tuple as) lo hi k = k (.fz (.tuple (cutD as lo hi))) := rfl
theorem cutF_s {lo hi : Option Int} : cutF (.str z) lo hi k = (z.length ≤ sizeLine ∧ k (.fz (.str (cutS z lo hi)))) := rfl
theorem isF_bb {n a b : Bool} : isF n (.bool a) (.bool b) k = k (.fz (.bool (if n then !decide (a = b) else decide (a = b)))) := rfl
theorem isF_nn {n : Bool} : isF n .none .none k = k (.fz (.bool (!n))) := rfl
theorem isF_ln {n : Bool} : isF n (.list as) .none k = k (.fz (.bool n)) := rfl
theorem isF_sn {n : Bool} : isF n (.str z) .none k = k (.fz (.bool n)) := rfl
theorem isF_in {n : Bool} : isF n (.int i) .none k = k (.fz (.bool n)) := rfl
theorem isF_tn {n : Bool} : isF n (.tuple as) .none k = k (.fz (.bool n)) := rfl
/-- an item at a counted place -/
theorem at_nat {α : Type} {l : List α} {n : Nat} : atI l (n : Int) = l[n]? := by
  unfold atI ixN
  rw [if_pos (Int.natCast_nonneg n)]
  by_cases h : n < l.length
  · rw [if_pos (by omega)]; simp
  · rw [if_neg (by omega), List.getElem?_eq_none (by omega)]; rfl
theorem at_mem {α : Type} {l : List α} {n : Nat} {Q : α → Prop} (h : n < l.length) (q : ∀ x ∈ l, Q x) : ∃ x, atI l (n : Int) = some x ∧ Q x := by
  rw [at_nat]
  exact ⟨l[n], List.getElem?_eq_getElem h, q _ (List.getElem_mem h)⟩
theorem ix_mem {n : Nat} (h : n < as.length) (q : ∀ x ∈ as, k (.fz x)) : ixF (.list as) (.int (n : Int)) k := at_mem h q
theorem ix_memS {n : Nat} (h : n < z.length) (hz : z.length ≤ sizeLine) (q : ∀ c ∈ z.cps.toList, k (.fz (.str ⟨#[c]⟩))) : ixF (.str z) (.int (n : Int)) k := ⟨hz, at_mem (by rw [Array.length_toList]; exact h) q⟩
end
/-- a text of one sign -/
def sg (c : Nat) : Str := ⟨#[c]⟩
theorem join_signs : ∀ cs : List Nat, tl (Str.join (Str.ofString "") (cs.map sg)) = cs
  | [] => rfl
  | [_] => rfl
  | c :: d :: r => by
    show tl (sg c ++ Str.ofString "" ++ Str.join (Str.ofString "") ((d :: r).map sg)) = _
    rw [tl_append, tl_append, join_signs (d :: r)]
    rfl
theorem str_of_tl {z : Str} {cs : List Nat} (h : tl z = cs) : z = ⟨cs.toArray⟩ := by
  subst h
  cases z
  simp [tl]
theorem join_sg {cs : List Nat} {k : R → Prop} (hl : cs.length ≤ 100000) (q : k (.fz (.str ⟨cs.toArray⟩))) : joinF (.str (Str.ofString "")) (.list (cs.map fun c => .str (sg c))) k := by
  refine ⟨Str.ofString "", cs.map sg, rfl, .inl (by rw [List.map_map]; rfl), ?_, ?_⟩
  · have : ((cs.map sg).map (·.length)).sum = cs.length := by
      clear hl q
      induction cs with
      | nil => rfl
      | cons c r ih =>
        rw [List.map_cons, List.map_cons, List.sum_cons, ih, List.length_cons]
        show 1 + _ = _
        omega
    rw [this]
    show _ + _ * 0 ≤ _
    omega
  · rw [join_eq, str_of_tl (join_signs cs)]
    exact q
theorem tl_cut (z : Str) (lo hi : Option Int) : tl (cutS z lo hi) = ((tl z).drop (HT.sIx z.length 0 lo)).take (HT.sIx z.length z.length hi - HT.sIx z.length 0 lo) := rfl
theorem mem_cut {z : Str} {lo hi : Option Int} {c : Nat} (h : c ∈ tl (cutS z lo hi)) : c ∈ tl z := by
  rw [tl_cut] at h
  exact List.mem_of_mem_drop (List.mem_of_mem_take h)
theorem len_cut (z : Str) (lo hi : Option Int) : (cutS z lo hi).length = min (HT.sIx z.length z.length hi - HT.sIx z.length 0 lo) (z.length - HT.sIx z.length 0 lo) := by
  rw [len_tl, tl_cut, List.length_take, List.length_drop, ← len_tl]
theorem len_cutD (z : List D) (lo hi : Option Int) : (cutD z lo hi).length = min (HT.sIx z.length z.length hi - HT.sIx z.length 0 lo) (z.length - HT.sIx z.length 0 lo) := by
  unfold cutD
  rw [List.length_take, List.length_drop]
theorem len_app (x y : Str) : (x ++ y).length = x.length + y.length := by
  rw [len_tl, tl_append, List.length_append, ← len_tl, ← len_tl]
theorem sIx_some (n d : Nat) (v : Int) : HT.sIx n d (some v) = if v < 0 then (v + (n : Int)).toNat else min v.toNat n := rfl
/-- may be set again -/
def jO : Option E → Prop
  | some (.ow true _) => False
  | some _ => True
  | none => False
theorem okSet_j {env : Ev} {i : Nat} : okSet env i = jO env[i]? := by unfold okSet jO; rfl
theorem jO_un : jO (some .un) = True := rfl
theorem jO_fz {d : D} : jO (some (.fz d)) = True := rfl
theorem jO_ow {d : D} : jO (some (.ow false d)) = True := rfl
theorem jO_no : jO none = False := rfl
section
variable {a b c : D} {l : List D} {k : R → Prop}
theorem ixF_0 : ixF (.list (a :: l)) (.int 0) k = k (.fz a) := by rw [ixF_l, at0]; simp
theorem ixF_1 : ixF (.list (a :: b :: l)) (.int 1) k = k (.fz b) := by rw [ixF_l, at1]; simp
theorem ixF_2 : ixF (.list (a :: b :: c :: l)) (.int 2) k = k (.fz c) := by rw [ixF_l, at2]; simp
theorem ixF_t0 : ixF (.tuple (a :: l)) (.int 0) k = k (.fz a) := by rw [ixF_t, at0]; simp
theorem ixF_t1 : ixF (.tuple (a :: b :: l)) (.int 1) k = k (.fz b) := by rw [ixF_t, at1]; simp
theorem ixF_t2 : ixF (.tuple (a :: b :: c :: l)) (.int 2) k = k (.fz c) := by rw [ixF_t, at2]; simp
end
theorem in_ss {xs : List Str} {z : Str} {n : Bool} {k : R → Prop} (h1 : ∀ x ∈ xs, SOk x) (h2 : SOk z) (q : k (.fz (.bool (if n then !decide (z ∈ xs) else decide (z ∈ xs))))) : inF n (.str z) (.list (xs.map .str)) k := by
  rw [inF_l, inD_ss]
  exact ⟨⟨sh_s h2, sh_ss h1⟩, q⟩
theorem nin_ss {xs : List Str} {z : Str} {k : R → Prop} (h1 : ∀ x ∈ xs, SOk x) (h2 : SOk z) (q : z ∉ xs → k (.fz (.bool true))) (p : z ∈ xs → k (.fz (.bool false))) : inF true (.str z) (.list (xs.map .str)) k := by
  refine in_ss h1 h2 ?_
  by_cases c : z ∈ xs
  · simpa [c] using p c
  · simpa [c] using q c
theorem yin_ss {xs : List Str} {z : Str} {k : R → Prop} (h1 : ∀ x ∈ xs, SOk x) (h2 : SOk z) (q : z ∈ xs → k (.fz (.bool true))) (p : z ∉ xs → k (.fz (.bool false))) : inF false (.str z) (.list (xs.map .str)) k := by
  refine in_ss h1 h2 ?_
  by_cases c : z ∈ xs
  · simpa [c] using q c
  · simpa [c] using p c
theorem app_s (xs : List Str) (z : Str) : xs.map PyData.str ++ [.str z] = (xs ++ [z]).map PyData.str := by rw [List.map_append]; rfl
end G

namespace G
open PySem PySem.Spec L2 TL
/-! ### readings, stage by stage: what comes later is shut -/
inductive Tg {α : Type} (a : α) : Type
  | mk : Tg a
def Shut {α : Type} (a : α) (_ : Tg a) : α := a
section
variable {α γ : Type} {f : α → γ} {t : Tg f} {x : α}
theorem sh1 : Shut f t x = f x := rfl
end
def Cs (k : Bool) (f : Bool → Prop) : Prop := f k
theorem cs_t {f : Bool → Prop} : Cs true f = f true := rfl
theorem cs_f {f : Bool → Prop} : Cs false f = f false := rfl
theorem cs_i {p : Prop} {dp : Decidable p} {f : Bool → Prop} (h : p → f true) (g : ¬ p → f false) : Cs (decide p) f := by
  by_cases c : p
  · rw [decide_eq_true c]; exact h c
  · rw [decide_eq_false c]; exact g c
theorem cs_b {k : Bool} {f : Bool → Prop} (h : k = true → f true) (g : k = false → f false) : Cs k f := by
  cases k
  · exact g rfl
  · exact h rfl
def Ex {α : Type} (o : Option α) (f : α → Prop) : Prop := ∃ x, o = some x ∧ f x
theorem ex_s {α : Type} {x : α} {f : α → Prop} : Ex (some x) f = f x := by unfold Ex; simp
theorem ex_i {α : Type} {o : Option α} {x : α} {f : α → Prop} (h : o = some x) (k : f x) : Ex o f := ⟨x, h, k⟩
section
variable {P : EndsD} {p : R → Ev → Prop} {q : Bool → Ev → Prop} {u : List D → Ev → Prop} {v : Option Int → Ev → Prop} {env : Ev} {a b : WS} {wg : WG} {ws : WGs} {w wa wb wc : WE} {c c1 c2 : WT} {wr : WA2} {i n : Nat} {d : D} {ds : List D} {f f' : F2} {g : F1} {wl wh : WO} {h : Ev → Prop} {wi : WI}
theorem x_seq : wSeq a b P env = a { P with nx := fun e => b P e } env := rfl
theorem x_next : wNext P env = P.nx env := rfl
theorem x_drop : wDrop w P env = w env fun _ e1 => P.nx e1 := rfl
theorem x_set : wSet wg w P env = w env fun r e1 => match r.fzd with
  | some d => wg d e1 P.nx
  | _ => False := rfl
theorem x_setO : wSetO i w P env = w env fun r e1 => match r with
  | .ow d => jO e1[i]? ∧ P.nx (e1.set i (.ow false d))
  | .fz d => jO e1[i]? ∧ P.nx (e1.set i (.fz d))
  | _ => False := by unfold wSetO; simp only [okSet_j] <;> rfl
theorem x_name : wgName i d env h = (jO env[i]? ∧ h (env.set i (.fz d))) := by unfold wgName; rw [okSet_j]
theorem x_gnil : wgNil ds env h = (ds = [] ∧ h env) := rfl
theorem x_gcons : wgCons wg ws (d :: ds) env h = wg d env fun e1 => ws ds e1 h := rfl
theorem x_gtup : wgTup n ws (.tuple ds) env h = (ds.length = n ∧ ws ds env h) := rfl
theorem x_bin : wBin f wa wb env p = wa env fun ra e1 => wb e1 fun rb e2 => match ra.get e2, rb.get e2 with
  | some x, some y => f x y (Shut (fun r => p r e2) .mk)
  | _, _ => False := rfl
theorem x_var : wVar i env p = match env[i]? with
  | some (.fz d) => p (.fz d) env
  | some (.ow _ _) => p (.br i) env
  | _ => False := rfl
theorem x_varF : wVarF i env p = match env[i]? with
  | some (.fz d) => p (.fz d) env
  | some (.ow false d) => p (.fz d) (env.set i (.fz d))
  | _ => False := rfl
theorem x_c : wC d env p = p (.fz d) env := rfl
theorem x_1 : w1 g wa env p = wa env fun ra e1 => match ra.get e1 with
  | some d => g d (Shut (fun z => p z e1) .mk)
  | _ => False := rfl
theorem x_B : wB w env q = w env fun r e1 => match r with
  | .fz (.bool k) => q k e1
  | _ => False := rfl
theorem x_and : wAnd c1 c2 env q = c1 env fun k e1 => Cs k (Shut (fun k => if k = true then c2 e1 q else q false e1) .mk) := rfl
theorem x_or : wOr c1 c2 env q = c1 env fun k e1 => Cs k (Shut (fun k => if k = true then q true e1 else c2 e1 q) .mk) := rfl
theorem x_not : wNot c env q = c env fun k e1 => q (!k) e1 := rfl
theorem x_andV : wAndV wa wb env p = wa env fun r e1 => match r with
  | .fz (.bool k) => Cs k (Shut (fun k => if k = true then wb e1 p else p (.fz (.bool false)) e1) .mk)
  | _ => False := rfl
theorem x_orV : wOrV wa wb env p = wa env fun r e1 => match r with
  | .fz (.bool k) => Cs k (Shut (fun k => if k = true then p (.fz (.bool true)) e1 else wb e1 p) .mk)
  | _ => False := rfl
theorem x_notV : wNotV wa env p = wa env fun r e1 => match r with
  | .fz (.bool k) => p (.fz (.bool !k)) e1
  | _ => False := rfl
theorem x_if : wIf c wa wb env p = c env fun k e1 => Cs k (Shut (fun k => if k = true then wa e1 p else wb e1 p) .mk) := rfl
theorem x_ifS : wIfS c a b P env = c env fun k e1 => Cs k (Shut (fun k => if k = true then a P e1 else b P e1) .mk) := rfl
theorem x_ret : wRet w P env = w env fun r e1 => match r with
  | .br i => (match e1[i]? with
    | some (.ow false d) => P.rt (.ow d) (e1.set i .un)
    | some (.fz d) => P.rt (.fz d) e1
    | _ => False)
  | r => P.rt r e1 := rfl
theorem x_lst : wLst wr env p = wr env fun ds e1 => ds.length ≤ sizeLine ∧ p (.ow (.list ds)) e1 := rfl
theorem x_tup : wTup wr env p = wr env fun ds e1 => ds.length ≤ sizeLine ∧ p (.fz (.tuple ds)) e1 := rfl
theorem x_acons : waCons w wr env u = w env fun r e1 => match r.fzd with
  | some d => wr e1 fun ds e2 => u (d :: ds) e2
  | _ => False := rfl
theorem x_anil : waNil env u = u [] env := rfl
theorem x_aug : wAug i f w P env = match env[i]? with
  | some (.fz d) => w env fun r e1 => (match r.get e1 with
    | some y => jO e1[i]? ∧ f d y (Shut (fun z => match z with
      | .fz d' => P.nx (e1.set i (.fz d'))
      | _ => False) .mk)
    | none => False)
  | _ => False := by unfold wAug; simp only [okSet_j] <;> rfl
theorem x_setIx : wSetIx i w wa P env = w env fun r e1 => match r.fzd with
  | some d => wa e1 fun rj e2 => (match rj, e2[i]? with
    | .fz (.int j), some (.ow q (.list ds)) => Ex (ixN ds.length j) (Shut (fun k => P.nx (e2.set i (.ow q (.list (ds.set k d))))) .mk)
    | _, _ => False) ∧ ∃ q d, e1[i]? = some (.ow q d)
  | none => False := rfl
theorem x_call {S : List D → (R → Prop) → Prop} : wCall n S wr env p = wr env fun ds e1 => ds.length = n ∧ S ds (Shut (fun r => p r e1) .mk) := rfl
theorem x_callT {S : D → List D → (R → D → Prop) → Prop} : wCallT i n S wr env p = ((∃ b d, env[i]? = some (.ow b d)) ∧ wr env fun ds e1 => match e1[i]? with
  | some (.ow b d) => ds.length + 1 = n ∧ S d ds (Shut (fun r d' => p r (e1.set i (.ow b d'))) .mk)
  | _ => False) := rfl
theorem x_chain : wChain f f' wa wb wc env p = wa env fun ra e1 => wb e1 fun rb e2 => match ra.get e2, rb.get e2 with
  | some x, some y => f x y (Shut (fun z => match z with
    | .fz (.bool k) => Cs k (Shut (fun k => if k = true then wc e2 fun rc e3 => (match rb.get e3, rc.get e3 with
      | some y, some z => f' y z (Shut (fun u => p u e3) .mk)
      | _, _ => False) else p (.fz (.bool false)) e2) .mk)
    | _ => False) .mk)
  | _, _ => False := rfl
theorem x_sl : wSl w wl wh env p = w env fun r e1 => wl e1 fun lo e2 => wh e2 fun hi e3 => match r.get e3 with
  | some d => cutF d lo hi (Shut (fun z => p z e3) .mk)
  | _ => False := rfl
theorem x_oS : woS w env v = w env fun r e1 => match r with
  | .fz (.int i) => v (some i) e1
  | _ => False := rfl
theorem x_oN : woN env v = v none env := rfl
theorem x_rep : wRep wa wb env p = wa env fun ra e1 => match ra with
  | .ow (.list ds) => wb e1 fun rb e2 => (match rb with
    | .fz (.int i) => (-(2 ^ 63) ≤ i ∧ i < 2 ^ 63 ∧ ds.length * i.toNat ≤ sizeLine) ∧ p (.ow (.list (List.replicate i.toNat ds).flatten)) e2
    | _ => False)
  | _ => False := rfl
theorem x_store {g : List D → D → (List D → Prop) → Prop} : wStore i g w env p = ((∃ q ds, env[i]? = some (.ow q (.list ds))) ∧ w env fun r e1 => match r.fzd, e1[i]? with
  | some d, some (.ow q (.list ds)) => g ds d (Shut (fun ds' => p (.fz .none) (e1.set i (.ow q (.list ds')))) .mk)
  | _, _ => False) := rfl
theorem x_app {k : List D → Prop} : appF ds d k = (ds.length < sizeLine ∧ k (ds ++ [d])) := rfl
theorem x_popAt : wPopAt i w env p = ((∃ q ds, env[i]? = some (.ow q (.list ds))) ∧ w env fun r e1 => match r, e1[i]? with
  | .fz (.int j), some (.ow q (.list ds)) => (-(2 ^ 63) ≤ j ∧ j < 2 ^ 63) ∧ Ex (seqIndex? j ds.length) (Shut (fun k => Ex ds[k]? (Shut (fun d => p (.fz d) (e1.set i (.ow q (.list (ds.eraseIdx k))))) .mk)) .mk)
  | _, _ => False) := by
  unfold wPopAt Shut Ex
  congr 2
  funext r e1
  rcases r with d | d | j
  · rcases d with _ | _ | j <;> try rfl
    cases h : e1[i]? with
    | none => rfl
    | some u =>
      rcases u with _ | d | ⟨q, d⟩ <;> try rfl
      rcases d with _ | _ | _ | _ | _ | _ <;> try rfl
      show (_ ∧ _) = (_ ∧ _)
      simp only [eq_iff_iff, exists_and_left]
  · rfl
  · rfl
theorem x_insert : wInsert i wa w env p = ((∃ q ds, env[i]? = some (.ow q (.list ds))) ∧ wa env fun rj e1 => w e1 fun r e2 => match rj, r.fzd, e2[i]? with
  | .fz (.int j), some d, some (.ow q (.list ds)) => (ds.length < sizeLine ∧ 0 ≤ j ∧ j < 2 ^ 63) ∧ p (.fz .none) (e2.set i (.ow q (.list (ds.take j.toNat ++ [d] ++ ds.drop j.toNat))))
  | _, _, _ => False) := rfl
theorem x_ext : wExt i w env p = ((∃ q ds, env[i]? = some (.ow q (.list ds))) ∧ w env fun r e1 => match r, e1[i]? with
  | .ow (.list ys), some (.ow q (.list ds)) => ds.length + ys.length ≤ sizeLine ∧ p (.fz .none) (e1.set i (.ow q (.list (ds ++ ys))))
  | _, _ => False) := rfl
theorem x_strM : wStrM f wa wb env p = wa env fun ra e1 => match ra with
  | .fz (.str z) => wb e1 fun rb e2 => (match rb.get e2 with
    | some y => f (.str z) y (Shut (fun r => p r e2) .mk)
    | _ => False)
  | _ => False := rfl
theorem x_listM : wListM f wa wb env p = wa env fun ra e1 => (∃ ds, ra.get e1 = some (.list ds)) ∧ wb e1 fun rb e2 => (match ra.get e2, rb.get e2 with
    | some x, some y => f x y (Shut (fun r => p r e2) .mk)
    | _, _ => False) := rfl
theorem x_isi {T : String} : wIsi T w env p = w env fun r e1 => match r.get e1 with
  | some d => Ex (kitB (tyName d) T) (Shut (fun b => p (.fz (.bool b)) e1) .mk)
  | _ => False := rfl
theorem x_LE : wLE w env p = w env fun r e1 => match r.get e1 with
  | some (.list ds) => p (.ow (.list (pairs ds))) e1
  | _ => False := rfl
theorem x_yes : wYes env q = q true env := rfl
theorem x_iList : wiList w env u = w env fun r e1 => match r.fzd with
  | some (.list ds) => u ds e1
  | _ => False := rfl
theorem x_iTup : wiTup w env u = w env fun r e1 => match r with
  | .fz (.tuple ds) => u ds e1
  | _ => False := rfl
theorem x_iStr : wiStr w env u = w env fun r e1 => match r with
  | .fz (.str z) => u (signs z) e1
  | _ => False := rfl
theorem x_iEnum : wiEnum wr env u = wr env fun ds e1 => match ds with
  | [.list ds] => u (pairs ds) e1
  | _ => False := rfl
theorem x_iRange1 : wiRange1 wr env u = wr env fun ds e1 => match ds with
  | [.int j] => (-(2 ^ 62) ≤ j ∧ j < 2 ^ 62) ∧ u (rngD 0 j.toNat) e1
  | _ => False := rfl
theorem x_iRange2 : wiRange2 wr env u = wr env fun ds e1 => match ds with
  | [.int i, .int j] => (-(2 ^ 62) ≤ i ∧ i < 2 ^ 62 ∧ -(2 ^ 62) ≤ j ∧ j < 2 ^ 62) ∧ u (rngD i (j - i).toNat) e1
  | _ => False := rfl
def ForC (wg : WG) (b : WS) (P : EndsD) (_ : Tg P) (ds : List D) (e1 : Ev) : Prop := ∃ W : List D → Ev → Prop, W ds e1 ∧
  (∀ d l e, W (d :: l) e → wg d e fun e2 => b { P with nx := W l, ct := W l, bk := P.nx } e2) ∧ ∀ e, W [] e → P.nx e
theorem x_for : wFor wi wg b P env = wi env (ForC wg b P .mk) := rfl
theorem for_i {t : Tg P} {e1 : Ev} (W : List D → Ev → Prop) (h : W ds e1) (step : ∀ d l e, W (d :: l) e → wg d e fun e2 => b { P with nx := W l, ct := W l, bk := P.nx } e2) (done : ∀ e, W [] e → P.nx e) : ForC wg b P t ds e1 := ⟨W, h, step, done⟩
def WhC (c : WT) (b : WS) (P : EndsD) (_ : Tg P) (env : Ev) : Prop := ∃ W : Nat → Ev → Prop, (∃ m, W m env) ∧ ∀ m e, W m e → c e fun k e1 => Cs k (Shut (fun k => if k = true then b { P with nx := fun e2 => ∃ m', m' < m ∧ W m' e2, ct := fun e2 => ∃ m', m' < m ∧ W m' e2, bk := P.nx } e1 else P.nx e1) .mk)
theorem x_while : wWhile c b P env = WhC c b P .mk env := rfl
theorem wh_i {t : Tg P} (W : Nat → Ev → Prop) (m : Nat) (h : W m env) (turn : ∀ m e, W m e → c e fun k e1 => Cs k (Shut (fun k => if k = true then b { P with nx := fun e2 => ∃ m', m' < m ∧ W m' e2, ct := fun e2 => ∃ m', m' < m ∧ W m' e2, bk := P.nx } e1 else P.nx e1) .mk)) : WhC c b P t env := ⟨W, ⟨m, h⟩, turn⟩
def LcC (wg : WG) (wt : WT) (we : WE) (vs : List Nat) (P : R → Ev → Prop) (_ : Tg P) (ds : List D) (e1 : Ev) : Prop := ds.length ≤ sizeLine ∧ ∃ W : List D → List D → Ev → Prop, W [] ds (wipeE e1 vs) ∧
  (∀ acc d l e, W acc (d :: l) e → wg d e fun e2 => wt e2 fun k e3 => Cs k (Shut (fun k => if k = true then we e3 fun r e4 => (match r.fzd with | some x => W (acc ++ [x]) l (wipeE e4 vs) | _ => False) else W acc l (wipeE e3 vs)) .mk)) ∧
  ∀ acc e, W acc [] e → P (.ow (.list acc)) (restE e1 e vs)
theorem x_lc {vs : List Nat} : wLc wi wg c w vs env p = wi env (LcC wg c w vs p .mk) := rfl
theorem lc_i {vs : List Nat} {t : Tg p} {e1 : Ev} (W : List D → List D → Ev → Prop) (hl : ds.length ≤ sizeLine) (h : W [] ds (wipeE e1 vs))
    (step : ∀ acc d l e, W acc (d :: l) e → wg d e fun e2 => c e2 fun k e3 => Cs k (Shut (fun k => if k = true then w e3 fun r e4 => (match r.fzd with | some x => W (acc ++ [x]) l (wipeE e4 vs) | _ => False) else W acc l (wipeE e3 vs)) .mk))
    (done : ∀ acc e, W acc [] e → p (.ow (.list acc)) (restE e1 e vs)) : LcC wg c w vs p t ds e1 := ⟨hl, W, h, step, done⟩
/-- a comprehension that changes nothing -/
theorem lc_fm {vs : List Nat} {t : Tg p} {e1 : Ev} (f : D → Option D) (e0 : Ev) (hl : ds.length ≤ sizeLine) (h0 : wipeE e1 vs = e0)
    (step : ∀ d ∈ ds, ∀ (Q : D → Ev → Prop) (Q0 : Ev → Prop), (∀ y, f d = some y → Q y e0) → (f d = none → Q0 e0) → wg d e0 fun e2 => c e2 fun k e3 => Cs k (Shut (fun k => if k = true then w e3 fun r e4 => (match r.fzd with | some x => Q x (wipeE e4 vs) | _ => False) else Q0 (wipeE e3 vs)) .mk))
    (done : p (.ow (.list (ds.filterMap f))) (restE e1 e0 vs)) : LcC wg c w vs p t ds e1 := by
  refine lc_i (fun acc l e => ∃ pre, pre ++ l = ds ∧ acc = pre.filterMap f ∧ e = e0) hl ⟨[], rfl, rfl, h0⟩ ?_ ?_
  · rintro acc d l e ⟨pre, h, rfl, he⟩
    rw [he]
    refine step d (by rw [← h]; simp) (fun x e => ∃ pre', pre' ++ l = ds ∧ pre.filterMap f ++ [x] = pre'.filterMap f ∧ e = e0) (fun e => ∃ pre', pre' ++ l = ds ∧ pre.filterMap f = pre'.filterMap f ∧ e = e0) (fun y hy => ⟨pre ++ [d], by simpa using h, by simp [List.filterMap_append, hy], rfl⟩) fun hy => ⟨pre ++ [d], by simpa using h, by simp [List.filterMap_append, hy], rfl⟩
  · rintro acc e ⟨pre, h, rfl, he⟩
    rw [List.append_nil] at h
    subst h
    rw [he]
    exact done
end
theorem ix_sn {z : Str} {n c : Nat} {k : R → Prop} (hz : z.length ≤ sizeLine) (h : z.cps.toList[n]? = some c) (q : k (.fz (.str (sg c)))) : ixF (.str z) (.int (n : Int)) k := ⟨hz, c, by rw [at_nat]; exact h, q⟩
theorem ix_ln {ds : List D} {n : Nat} {d : D} {k : R → Prop} (h : ds[n]? = some d) (q : k (.fz d)) : ixF (.list ds) (.int (n : Int)) k := ⟨d, by rw [at_nat]; exact h, q⟩
theorem fmod_n (a b : Nat) : (a : Int).fmod (b : Int) = ((a % b : Nat) : Int) := by
  rw [Int.fmod_eq_emod_of_nonneg _ (by omega)]; rfl
theorem fdiv_n (a b : Nat) : (a : Int).fdiv (b : Int) = ((a / b : Nat) : Int) := by
  rw [Int.fdiv_eq_ediv_of_nonneg _ (by omega)]; rfl
theorem ix_if {x y : D} {b : Bool} {k : R → Prop} (h : ∀ d, d = x ∨ d = y → k (.fz d)) : ixF (.list [x, y]) (.int (if b = true then 1 else 0)) k := by
  cases b
  · rw [if_neg (by decide), ixF_0]; exact h _ (.inl rfl)
  · rw [if_pos rfl, ixF_1]; exact h _ (.inr rfl)
theorem least {p : Nat → Prop} [DecidablePred p] : ∀ n, p n → ∃ k, k ≤ n ∧ p k ∧ ∀ j, j < k → ¬ p j := by
  intro n
  induction n using Nat.strongRecOn with
  | ind n ih =>
    intro h
    by_cases c : ∃ j, j < n ∧ p j
    · obtain ⟨j, hj, hp⟩ := c
      obtain ⟨k, h1, h2, h3⟩ := ih j hj hp
      exact ⟨k, by omega, h2, h3⟩
    · exact ⟨n, Nat.le_refl _, h, fun j hj hp => c ⟨j, hj, hp⟩⟩
theorem pairs_mem {xs : List Int} {d : D} (h : d ∈ pairs (xs.map PyData.int)) : ∃ (k : Nat) (c : Int), d = .tuple [.int k, .int c] ∧ k < xs.length := by
  unfold pairs at h
  rw [List.mem_map] at h
  obtain ⟨i, hi, rfl⟩ := h
  rw [List.mem_range, List.length_map] at hi
  refine ⟨i, xs.getD i 0, ?_, hi⟩
  simp [List.getD_eq_getElem?_getD, List.getElem?_eq_getElem hi]
end G

namespace G
open PySem PySem.Spec L2
/-! ### xs[::-1] -/
section
variable {X : Cx} {e : Expr} {t : TE} {w : WE} {k : Nat} {p1 p2 p3 pos : Pos} {env : Ev} {p : R → Ev → Prop}
def wRev (w : WE) : WE := fun env P => w env fun r e1 => match r.get e1 with
  | some (.list ds) => P (.ow (.list ds.reverse)) e1
  | _ => False
theorem ge_rev (h : GE X e t w) : GE X (.Subscript e (.Slice none none (some (.UnaryOp .USub (.Constant (.int 1) k p1) p2)) p3) pos) (tRevL X.K t) (wRev w) := by
  obtain ⟨q, s⟩ := h.ex
  refine ⟨pe_revL q, fun env σ Hz H P Q s0 w0 k => ?_⟩
  refine s env σ Hz H _ _ s0 w0 fun r e1 x Hz1 H1 w1 s1 g1 r1 => ?_
  cases er : r.get e1 with
  | none => simp only [er] at w1
  | some d =>
    simp only [er] at w1
    split at w1
    · rename_i ds e
      cases e
      obtain ⟨a, xs, rfl, hx, rr⟩ := (r1.top s1 er).list s1.sub
      refine ⟨a, xs, rfl, hx, fun p hp => ?_⟩
      obtain ⟨s4, g4, r4⟩ := new_ow (d := .list _) (o := .lst xs.reverse) s1 hp rr.rev
      exact k _ _ _ _ _ w1 s4 (g1.trans g4) (r4.back g1.dm)
    · exact w1.elim
theorem x_rev : wRev w env p = w env fun r e1 => match r.get e1 with
  | some (.list ds) => p (.ow (.list ds.reverse)) e1
  | _ => False := rfl
end
end G

namespace G
open PySem PySem.Spec L2 TL
/-! ### how long a repr is -/
def Shl (d : D) (n : Nat) : Prop := d.showable = true ∧ d.shown.length ≤ n
theorem Shl.le {d : D} {n m : Nat} (h : Shl d n) (k : n ≤ m) : Shl d m := ⟨h.1, Nat.le_trans h.2 k⟩
theorem shl_all {n : Nat} : ∀ {ds : List D}, (∀ d ∈ ds, Shl d n) → PyData.showableAll ds = true ∧ piled (PyData.shownAll ds) ≤ ds.length * (n + 2)
  | [], _ => ⟨by simp only [PyData.showableAll], by simp only [PyData.shownAll]; exact Nat.zero_le _⟩
  | d :: ds, h => by
    obtain ⟨h1, h2⟩ := shl_all (ds := ds) fun x hx => h x (List.mem_cons_of_mem _ hx)
    obtain ⟨k1, k2⟩ := h d List.mem_cons_self
    refine ⟨by simp only [PyData.showableAll, h1, k1, Bool.and_self], ?_⟩
    simp only [PyData.shownAll, List.length_cons, Nat.add_mul, Nat.one_mul]
    have : piled (d.shown :: PyData.shownAll ds) = d.shown.length + 2 + piled (PyData.shownAll ds) := by simp [piled]
    omega
theorem textFrom_le : ∀ (ts : List Str) (k : Nat) (acc : Str), (textFrom k acc ts).length ≤ acc.length + piled ts
  | [], k, acc => by show acc.length ≤ _; omega
  | t :: r, k, acc => by
    have ih := textFrom_le r (k + 1) (acc ++ (if k > 0 then ", " else "" : String) ++ t)
    have e : (acc ++ (if k > 0 then ", " else "" : String) ++ t).length = acc.length + (if k > 0 then 2 else 0) + t.length := by
      rw [len_app, len_app]
      by_cases c : k > 0
      · rw [if_pos c, if_pos c]; rfl
      · rw [if_neg c, if_neg c]; rfl
    have : piled (t :: r) = t.length + 2 + piled r := by simp [piled]
    have q : (if k > 0 then 2 else 0) ≤ 2 := by split <;> decide
    show (textFrom (k + 1) _ r).length ≤ _
    omega
theorem shl_list {ds : List D} {n : Nat} (h : ∀ d ∈ ds, Shl d n) : Shl (.list ds) (ds.length * (n + 2) + 2) := by
  obtain ⟨h1, h2⟩ := shl_all h
  refine ⟨by simp only [PyData.showable]; exact h1, ?_⟩
  simp only [PyData.shown, listText]
  rw [len_app]
  have := textFrom_le (PyData.shownAll ds) 0 "["
  have e1 : (("[" : String) : Str).length = 1 := rfl
  have e2 : (("]" : String) : Str).length = 1 := rfl
  omega
theorem shl_tup {ds : List D} {n : Nat} (h : ∀ d ∈ ds, Shl d n) : Shl (.tuple ds) (ds.length * (n + 2) + 3) := by
  obtain ⟨h1, h2⟩ := shl_all h
  refine ⟨by simp only [PyData.showable]; exact h1, ?_⟩
  simp only [PyData.shown, tupleText]
  rw [len_app, len_app]
  have e1 : (("(" : String) : Str).length = 1 := rfl
  have e2 : (((if (PyData.shownAll ds).length == 1 then ",)" else ")" : String)) : Str).length ≤ 2 := by split <;> decide
  have e3 : (Str.join ", " (PyData.shownAll ds)).length ≤ piled (PyData.shownAll ds) := by
    by_cases c : PyData.shownAll ds = []
    · rw [c]; exact Nat.zero_le _
    · have := join_length_add _ c; omega
  omega
theorem shl_str {x : Str} (h : SOk x) : Shl (.str x) (10 * x.length + 2) := by
  refine ⟨by simp only [PyData.showable], ?_⟩
  simp only [PyData.shown]
  refine PySem.StrLaws.reprText_len x fun c hc => ?_
  have h : PyData.strOk x = true := h
  unfold PyData.strOk at h
  rw [Array.all_eq_true'] at h
  have := h c (Array.mem_toList_iff.mp hc)
  have : c < 1114112 := by simpa using this
  omega
theorem shl_nat {n : Nat} (h : n < 256) : Shl (.int n) 3 := by
  have : ∀ n, n < 256 → (PyData.int (n : Nat)).showable = true ∧ (PyData.int (n : Nat)).shown.length ≤ 3 := by decide +kernel
  exact this n h
end G

namespace G
open PySem PySem.Spec L2
/-! ### dict displays; d[key] -/
section
variable {K : PySem.W.Frag} {env env' env1 env2 : Ev} {σ σ' σ1 σ2 : L2.St} {H0 Hz H Hz' H' Hz0 Hz1 H1 Hz2 H2 : Hp} {v : V} {r : R} {d : D}
theorem St2.pend (s : St2 K env σ Hz H) {p : Addr} {o : HO} (z : Hz p = none) (n : ¬ Own env σ p) : St2 K env σ Hz (upd H p o) := by
  refine ⟨s.len, fun a u q => ?_, fun i u q => ?_, s.dis⟩
  · have c : a ≠ p := fun c => by rw [c, z] at q; cases q
    rw [upd_ne c]; exact s.sub a u q
  · obtain ⟨x, hx, ok⟩ := s.ent i u q
    refine ⟨x, hx, ?_⟩
    cases u with
    | un => trivial
    | fz d => exact ok
    | ow b d =>
      obtain ⟨a, u, zz, h1, h2, h3⟩ := ok
      have c : a ≠ p := fun c => n (c ▸ ⟨i, b, d, q, by rw [hx, zz]⟩)
      exact ⟨a, u, zz, by rw [upd_ne c]; exact h1, h2, h3⟩
theorem Go.pend (g : Go env σ Hz H env1 σ1 Hz1 H1) {p : Addr} {o : HO} (h : H p = none) : Go env σ Hz H env1 σ1 Hz1 (upd H1 p o) := by
  refine ⟨g.ez, g.nz, fun a u q n => ?_, fun a q => ?_, g.ow, g.pin, g.ln⟩
  · have c : a ≠ p := fun c => by rw [c, h] at q; cases q
    rw [upd_ne c]; exact g.kp a u q n
  · by_cases c : a = p
    · exact absurd h (c ▸ q)
    · rw [upd_ne c]; exact g.dm a q
end
inductive RepPs (K : PySem.W.Frag) (H : Hp) : List (V × V) → List (D × D) → Prop
  | nil : RepPs K H [] []
  | cons {a b : V} {ps : List (V × V)} {x y : D} {ds : List (D × D)} : Rep K H a x → Rep K H b y → RepPs K H ps ds → RepPs K H ((a, b) :: ps) ((x, y) :: ds)
abbrev WP := Ev → (List (D × D) → Ev → Prop) → Prop
def SP (K : PySem.W.Frag) (t : List (TE × TE)) (w : WP) : Prop := ∀ (env : Ev) (σ : L2.St) (Hz H : Hp) (P : List (D × D) → Ev → Prop) (Q : List (V × V) → Hp → Prop), St2 K env σ Hz H → w env P →
  (∀ ds env' vs Hz' H', P ds env' → St2 K env' σ Hz' H' → Go env σ Hz H env' σ Hz' H' → RepPs K Hz' vs ds → Q vs H') → tPairs t σ H Q
structure GPs (X : Cx) (pos : Pos) (ks : List (Option Expr)) (vs : List Expr) (t : List (TE × TE)) (w : WP) : Prop where
  ex : PPs X pos ks vs t ∧ SP X.K t w
def wpNil : WP := fun env P => P [] env
def wpCons (wk wv : WE) (wr : WP) : WP := fun env P => wk env fun rk e1 => match rk.fzd with
  | some k => wv e1 fun rv e2 => (match rv.fzd with
    | some v => wr e2 fun ds e3 => P ((k, v) :: ds) e3
    | _ => False)
  | _ => False
section
variable {X : Cx} {K : PySem.W.Frag} {a b e : Expr} {pos : Pos} {ks : List (Option Expr)} {vs : List Expr} {ta tb t : TE} {wa wb w : WE} {tr : List (TE × TE)} {wr : WP} {env : Ev} {p : R → Ev → Prop} {u : List (D × D) → Ev → Prop}
theorem gp_nil : GPs X pos [] [] [] wpNil := ⟨pps_nil, fun env σ Hz H P Q s w q => q _ _ _ _ _ w s .refl .nil⟩
theorem gp_cons (ha : GE X a ta wa) (hb : GE X b tb wb) (hr : GPs X pos ks vs tr wr) : GPs X pos (some a :: ks) (b :: vs) ((ta, tb) :: tr) (wpCons wa wb wr) := by
  obtain ⟨pa, sa⟩ := ha.ex
  obtain ⟨pb, sb⟩ := hb.ex
  obtain ⟨pr, sr⟩ := hr.ex
  refine ⟨pps_cons pa pb pr, fun env σ Hz H P Q s w q => ?_⟩
  refine sa env σ Hz H _ _ s w fun ra e1 x Hz1 H1 w1 s1 g1 r1 => ?_
  cases ea : ra.fzd with
  | none => simp only [ea] at w1
  | some dk =>
    simp only [ea] at w1
    obtain ⟨Hz1', s1', g1', ez1, _, rp1⟩ := freezeR s1 g1 r1 ea
    refine sb e1 σ Hz1' H1 _ _ s1' w1 fun rb e2 y Hz2 H2 w2 s2 g2 r2 => ?_
    cases eb : rb.fzd with
    | none => simp only [eb] at w2
    | some dv =>
      simp only [eb] at w2
      obtain ⟨Hz2', s2', g2', ez2, _, rp2⟩ := freezeR s2 (g1'.trans g2) (r2.back g1'.dm) eb
      refine sr e2 σ Hz2' H2 _ _ s2' w2 fun ds e3 ps Hz3 H3 w3 s3 g3 r3 => ?_
      exact q _ _ _ _ _ w3 s3 (g2'.trans g3) (.cons ((rp1.mono (g2.ez.trans ez2)).mono g3.ez) (rp2.mono g3.ez) r3)
def KeyL (kds : List (D × D)) : Prop := ∃ ks : List Key, kds.map (·.1) = ks.map keyD ∧ ks.Nodup
theorem merge_new : ∀ {kvs acc : List (Key × V)}, (kvs.map (·.1)).Nodup → (∀ k ∈ kvs.map (·.1), valV acc k = none) → mergeK acc kvs = acc ++ kvs
  | [], acc, _, _ => (List.append_nil _).symm
  | (k, v) :: kvs, acc, hn, hk => by
    obtain ⟨h1, h2⟩ := List.nodup_cons.mp hn
    show mergeK (putK acc k v) kvs = _
    have h0 := hk k List.mem_cons_self
    rw [merge_new (kvs := kvs) h2 fun j hj => ?_, putK_new v h0, List.append_assoc]
    · rfl
    · have : j ≠ k := fun e => h1 (e ▸ hj)
      rw [valV_put, if_neg this]
      exact hk j (List.mem_cons_of_mem _ hj)
theorem pairs_keys {H : Hp} : ∀ {ps : List (V × V)} {kds : List (D × D)} {ks : List Key}, RepPs K H ps kds → kds.map (·.1) = ks.map keyD → ∃ kvs : List (Key × V), ps = kvs.map (fun kv => (kV kv.1, kv.2)) ∧ kvs.map (·.1) = ks ∧ RepK K H kvs kds
  | _, _, [], .nil, _ => ⟨[], rfl, rfl, .nil⟩
  | _, _, _ :: _, .nil, e => by simp at e
  | _, _, [], .cons _ _ _, e => by simp at e
  | _, _, k :: ks, .cons (x := x) (y := y) (ds := ds) h1 h2 r, e => by
    have e : x :: ds.map (·.1) = keyD k :: ks.map keyD := e
    obtain ⟨e1, e2⟩ := List.cons.inj e
    obtain ⟨kvs, q1, q2, q3⟩ := pairs_keys r e2
    subst e1
    have hv := h1
    cases k with
    | inl i =>
      cases hv
      exact ⟨(.inl i, _) :: kvs, by rw [q1]; rfl, by rw [← q2]; rfl, .cons h2 q3⟩
    | inr z =>
      cases hv
      exact ⟨(.inr z, _) :: kvs, by rw [q1]; rfl, by rw [← q2]; rfl, .cons h2 q3⟩
def wDict (wr : WP) : WE := fun env P => wr env fun kds e1 => (KeyL kds ∧ kds.length ≤ 15) ∧ P (.ow (.dict kds)) e1
theorem ge_dict (h : GPs X pos ks vs tr wr) (hall : ks.all (·.isSome) = true := by rfl) (hl : ks.length = vs.length := by rfl) (h0 : ks ≠ [] := by exact List.cons_ne_nil _ _) (h15 : ks.length ≤ 15 := by decide) : GE X (.Dict ks vs pos) (tDisp tr) (wDict wr) := by
  obtain ⟨q, s⟩ := h.ex
  refine ⟨pe_disp q hall hl h0 h15, fun env σ Hz H P Q s0 w0 k pp hp => ?_⟩
  obtain ⟨s1, g1, r1⟩ := new_ow (d := .dict []) (o := .dK []) s0 hp RepK.nil
  refine s env σ Hz _ _ _ s1 w0 fun kds e1 ps Hz1 H1 w1 s2 g2 rr => ?_
  obtain ⟨⟨⟨kk, ek, nk⟩, l15⟩, w1⟩ := w1
  obtain ⟨kvs, ep, ev, rk⟩ := pairs_keys rr ek
  have hn : ¬ Own env σ pp := fun c => own_ne s0 hp c rfl
  have e2 : H1 pp = some (.dK []) := g2.kp pp _ upd_same hn
  have hz : Hz1 pp = none := by
    cases c : Hz1 pp with
    | none => rfl
    | some o =>
      rcases g2.nz pp (by rw [c]; exact fun z => nomatch z) with z | z | z
      · exact absurd (z_none s0.sub hp) z
      · rw [upd_same] at z; cases z
      · exact absurd z hn
  have hn2 : ¬ Own e1 σ pp := fun c => by
    rcases g2.ow pp c with z | z
    · exact hn z
    · rw [upd_same] at z; cases z
  have hm : mergeK [] kvs = kvs := by
    rw [merge_new (by rw [ev]; exact nk) fun _ _ => rfl]; rfl
  have len : kvs.length = kds.length := by
    have h1 := congrArg List.length ev
    have h2 := congrArg List.length ek
    rw [List.length_map] at h1 h2
    rw [List.length_map] at h2
    omega
  refine ⟨e2, kvs, ep, by omega, ?_⟩
  rw [hm]
  refine k _ _ _ _ _ w1 (s2.pend hz hn2) ((g1.trans g2).pend hp) ?_
  exact ⟨pp, .dK kvs, rfl, hp, upd_same, hz, hn2, rk⟩
def wDict0 : WE := fun env P => P (.ow (.dict [])) env
theorem ge_dict0 : GE X (.Dict [] [] pos) tDNewK wDict0 := ⟨pe_dnewK, fun env σ Hz H P Q s0 w0 k pp hp => by
  obtain ⟨s1, g1, r1⟩ := new_ow (d := .dict []) (o := .dK []) s0 hp RepK.nil
  exact k _ _ _ _ _ w0 s1 g1 r1⟩
/-- what stands at a text or an int -/
def findK : List (D × D) → D → Option D
  | [], _ => none
  | (.str a, v) :: r, .str b => if a = b then some v else findK r (.str b)
  | (.int a, v) :: r, .int b => if a = b then some v else findK r (.int b)
  | _ :: r, k => findK r k
def keyOf : D → Option Key
  | .str a => some (.inr a)
  | .int a => some (.inl a)
  | _ => none
theorem findK_val {H : Hp} {k : Key} {v : D} : ∀ {kvs : List (Key × V)} {kds : List (D × D)}, RepK K H kvs kds → findK kds (keyD k) = some v → ∃ x, valV kvs k = some x ∧ Rep K H x v
  | _, _, .nil, e => by cases k <;> cases e
  | _, _, .cons (k := j) (v := y) (d := d) (kvs := kvs) (ds := ds) h r, e => by
    by_cases c : j = k
    · subst c
      have : findK ((keyD j, d) :: ds) (keyD j) = some d := by cases j <;> simp [findK, keyD]
      rw [this] at e
      cases e
      exact ⟨y, valV_pos rfl, h⟩
    · have : findK ((keyD j, d) :: ds) (keyD k) = findK ds (keyD k) := by
        cases j <;> cases k <;> simp [findK, keyD] at c ⊢ <;> exact fun q => absurd q c
      rw [this] at e
      obtain ⟨x, h1, h2⟩ := findK_val r e
      exact ⟨x, by rw [valV_neg c]; exact h1, h2⟩
theorem findK_T {H : Hp} {k : Key} : ∀ {kvs : List (List Key × V)} {kds : List (D × D)}, RepT K H kvs kds → findK kds (keyD k) = none
  | _, _, .nil => by cases k <;> rfl
  | _, _, .cons h r => by
    have := findK_T (k := k) r
    cases k <;> simpa [findK, keyD] using this
def wDGet (wd wk : WE) : WE := fun env P => wd env fun rd e1 => wk e1 fun rk e2 => match rd.get e2, rk.get e2 with
  | some (.dict kds), some k => (keyOf k ≠ none) ∧ Ex (findK kds k) (Shut (fun v => P (.fz v) e2) .mk)
  | _, _ => False
theorem ge_dget (hu : X.A.units + 1 < cLine) (ha : GE X a ta wa) (hb : GE X b tb wb) (hs : NoSl b) : GE X (.Subscript a b pos) (tDGet ta tb) (wDGet wa wb) := by
  obtain ⟨q, sa⟩ := ha.ex
  obtain ⟨q2, sb⟩ := hb.ex
  refine ⟨pe_dget hu q q2 hs, fun env σ Hz H P Q s w k => sa env σ Hz H _ _ s w fun ra e1 x Hz1 H1 w1 s1 g1 r1 => sb e1 σ Hz1 H1 _ _ s1 w1 fun rb e2 y Hz2 H2 w2 s2 g2 r2 => ?_⟩
  have r1' := r1.go g2
  cases ea : ra.get e2 with
  | none => simp only [ea] at w2
  | some dx =>
    cases eb : rb.get e2 with
    | none => simp only [ea, eb] at w2
    | some dy =>
      simp only [ea, eb] at w2
      cases dx <;> first | exact w2.elim | skip
      rename_i kds
      obtain ⟨hk, v, ev, wv⟩ := w2
      obtain ⟨key, rfl⟩ : ∃ key, dy = keyD key := by
        cases dy <;> first | exact absurd rfl hk | exact ⟨.inl _, rfl⟩ | exact ⟨.inr _, rfl⟩
      have ty := r2.top s2 eb
      have hy : y = kV key := by
        cases key with
        | inl i => exact ty.int
        | inr z => exact ty.str
      have main : ∀ {p : Addr} {kvs : List (Key × V)}, H2 p = some (.dK kvs) → RepK X.K Hz2 kvs kds → x = .ref p → ∃ a v, x = V.ref a ∧ DGet H2 a y (some v) ∧ Q v H2 := fun {p kvs} hp rk e => by
        obtain ⟨x0, h1, h2⟩ := findK_val rk ev
        refine ⟨p, x0, e, ?_, k _ _ _ _ _ wv s2 (g1.trans g2) h2⟩
        rw [hy, ← h1]
        exact DGet.k hp
      have tx := r1'.top s2 ea
      rcases tx with h | ⟨p, o, e, h1, h2⟩
      · cases h with
        | dic h r => exact main (s2.sub _ _ h) r rfl
        | dit h r => rw [findK_T r] at ev; cases ev
      · cases o <;> first | exact h2.elim | skip
        · exact main h1 h2 e
        · have h2 : RepT X.K Hz2 _ kds := h2
          rw [findK_T h2] at ev; cases ev
section
variable {wd wk wv : WE} {k : D} {ds : List (D × D)} {o : Option D} {f : D → Prop} {z : Str} {i : Int}
theorem x_pNil : wpNil env u = u [] env := rfl
theorem x_pCons : wpCons wk wv wr env u = wk env fun rk e1 => match rk.fzd with
  | some k => wv e1 fun rv e2 => (match rv.fzd with
    | some v => wr e2 fun ds e3 => u ((k, v) :: ds) e3
    | _ => False)
  | _ => False := rfl
theorem x_dict : wDict wr env p = wr env fun kds e1 => (KeyL kds ∧ kds.length ≤ 15) ∧ p (.ow (.dict kds)) e1 := rfl
theorem x_dict0 : wDict0 env p = p (.ow (.dict [])) env := rfl
theorem x_dget : wDGet wd wk env p = wd env fun rd e1 => wk e1 fun rk e2 => match rd.get e2, rk.get e2 with
  | some (.dict kds), some k => (keyOf k ≠ none) ∧ Ex (findK kds k) (Shut (fun v => p (.fz v) e2) .mk)
  | _, _ => False := rfl
end
end
end G

namespace G
open PySem PySem.Spec L2
/-! ### names, commands, paths -/
/-- the words of commands -/
def ifIn : List Str := ["keep", "front", "back", "remove"]
def ifOut : List Str := ["skip", "front", "back"]
abbrev Cmd := Str × Str × Str
def cmdD (c : Cmd) : D := .tuple [.str c.1, .str c.2.1, .str c.2.2]
def IsCmd (ns : List Str) (c : Cmd) : Prop := c.1 ∈ ns ∧ c.2.1 ∈ ifIn ∧ c.2.2 ∈ ifOut
/-- the path behind what a command does to the name n -/
def actd (p : List Str) (n act : Str) : List Str :=
  if act = "keep" ∨ act = "skip" then p else if act = "front" then n :: p.filter (fun x => decide (x ≠ n)) else if act = "back" then p.filter (fun x => decide (x ≠ n)) ++ [n] else p.filter fun x => decide (x ≠ n)
def actOf (p : List Str) (c : Cmd) : Str := if c.1 ∈ p then c.2.1 else c.2.2
/-- the path behind a command -/
def appl (p : List Str) (c : Cmd) : List Str := actd p c.1 (actOf p c)
def butF (n : Str) (d : D) : Option D := match d with
  | .str z => if z ≠ n then some (.str z) else none
  | _ => none
theorem butF_map (n : Str) (p : List Str) : (p.map PyData.str).filterMap (butF n) = (p.filter (fun x => decide (x ≠ n))).map .str := by
  rw [List.filterMap_map]
  induction p with
  | nil => rfl
  | cons x p ih =>
    rw [List.filterMap_cons, List.filter_cons]
    have e : (butF n ∘ PyData.str) x = if x ≠ n then some (PyData.str x) else none := rfl
    rw [e]
    by_cases c : x ≠ n
    · rw [if_pos c, if_pos (by simpa using c), List.map_cons, ← ih]
    · rw [if_neg c, if_neg (by simpa using c), ← ih]
theorem butF_yes {n z : Str} (h : (!decide (z = n)) = true) : butF n (.str z) = some (.str z) := by
  show (if z ≠ n then some (PyData.str z) else none) = _
  rw [if_pos (by simpa using h)]
theorem butF_no {n z : Str} (h : (!decide (z = n)) = false) : butF n (.str z) = none := by
  show (if z ≠ n then some (PyData.str z) else none) = _
  rw [if_neg (by simpa using h)]
theorem but_len (n : Str) (p : List Str) : (p.filter (fun x => decide (x ≠ n))).length ≤ p.length := List.length_filter_le _ _
theorem in_words {x a b : Str} {k : R → Prop} (h : (x = a ∨ x = b) → k (.fz (.bool true))) (g : ¬ (x = a ∨ x = b) → k (.fz (.bool false))) : inF false (.str x) (.tuple [.str a, .str b]) k := by
  refine ⟨fun d hd => ?_, ?_⟩
  · rcases List.mem_cons.mp hd with rfl | hd
    · exact ⟨_, rfl⟩
    · cases List.mem_singleton.mp hd; exact ⟨_, rfl⟩
  · show k (.fz (.bool (decide (a = x) || (decide (b = x) || false))))
    rw [Bool.or_false]
    by_cases c : x = a
    · rw [decide_eq_true c.symm, Bool.true_or]; exact h (.inl c)
    · rw [decide_eq_false (fun e => c e.symm), Bool.false_or]
      by_cases d : x = b
      · rw [decide_eq_true d.symm]; exact h (.inr d)
      · rw [decide_eq_false (fun e => d e.symm)]; exact g fun e => e.elim c d
/-- the named item, put back in its place -/
theorem put_back {p : List Str} {n : Str} {j : Nat} (h : p[j]? = some n) : p.take j ++ [n] ++ p.drop (j + 1) = p := by
  obtain ⟨hj, e⟩ := List.getElem?_eq_some_iff.mp h
  rw [← e, List.append_assoc]
  show p.take j ++ (p[j] :: p.drop (j + 1)) = p
  rw [← List.drop_eq_getElem_cons, List.take_append_drop]
theorem but_none {p : List Str} {n : Str} (h : n ∉ p) : p.filter (fun x => decide (x ≠ n)) = p := by
  rw [List.filter_eq_self]
  intro x hx
  simpa using fun e : x = n => h (e ▸ hx)
theorem drop_cons {α : Type} {xs l : List α} {d : α} {i : Nat} (h : d :: l = xs.drop i) : xs[i]? = some d ∧ l = xs.drop (i + 1) := by
  have h0 : (xs.drop i)[0]? = some d := by rw [← h]; rfl
  rw [List.getElem?_drop, Nat.add_zero] at h0
  refine ⟨h0, ?_⟩
  have : (xs.drop i).drop 1 = l := by rw [← h]; rfl
  rw [← this, List.drop_drop]
theorem idx_n {ys : List Str} {z : Str} {j : Nat} {k : R → Prop} (h1 : ys[j]? = some z) (h2 : ∀ m, m < j → ys[m]? ≠ some z) (q : k (.fz (.int j))) : idxF (.list (ys.map .str)) (.str z) k := ⟨ys, z, j, rfl, rfl, h1, h2, q⟩
theorem nodup_at {p : List Str} (hp : p.Nodup) {i j : Nat} {x : Str} (hi : p[i]? = some x) (hj : p[j]? = some x) : i = j := by
  have hl := (List.getElem?_eq_some_iff.mp hi).1
  exact (List.getElem?_inj hl hp).mp (hi.trans hj.symm)
theorem idx_mem {ys : List Str} {z : Str} (hp : ys.Nodup) (h : z ∈ ys) : ∃ j, j < ys.length ∧ ys[j]? = some z ∧ ∀ m, m < j → ys[m]? ≠ some z := by
  obtain ⟨j, hj, e⟩ := List.mem_iff_getElem.mp h
  have e2 : ys[j]? = some z := by rw [List.getElem?_eq_getElem hj, e]
  exact ⟨j, hj, e2, fun m hm c => by have := nodup_at hp c e2; omega⟩
theorem cut_to (xs : List D) (n : Nat) : cutD xs none (some (n : Int)) = xs.take (min n xs.length) := by
  unfold cutD
  rw [HT.sIx_nat, HT.sIx_none, Nat.sub_zero, List.drop_zero]
theorem cut_from (xs : List D) (n : Nat) : cutD xs (some (n : Int)) none = xs.drop (min n xs.length) := by
  unfold cutD
  rw [HT.sIx_nat, HT.sIx_none]
  exact List.take_of_length_le (by rw [List.length_drop]; omega)
theorem ne_keep_front : (Str.ofString "keep" = Str.ofString "front") = False := eq_false (by decide +kernel)
theorem ne_keep_back : (Str.ofString "keep" = Str.ofString "back") = False := eq_false (by decide +kernel)
theorem ne_keep_remove : (Str.ofString "keep" = Str.ofString "remove") = False := eq_false (by decide +kernel)
theorem ne_keep_skip : (Str.ofString "keep" = Str.ofString "skip") = False := eq_false (by decide +kernel)
theorem ne_front_keep : (Str.ofString "front" = Str.ofString "keep") = False := eq_false (by decide +kernel)
theorem ne_front_back : (Str.ofString "front" = Str.ofString "back") = False := eq_false (by decide +kernel)
theorem ne_front_remove : (Str.ofString "front" = Str.ofString "remove") = False := eq_false (by decide +kernel)
theorem ne_front_skip : (Str.ofString "front" = Str.ofString "skip") = False := eq_false (by decide +kernel)
theorem ne_back_keep : (Str.ofString "back" = Str.ofString "keep") = False := eq_false (by decide +kernel)
theorem ne_back_front : (Str.ofString "back" = Str.ofString "front") = False := eq_false (by decide +kernel)
theorem ne_back_remove : (Str.ofString "back" = Str.ofString "remove") = False := eq_false (by decide +kernel)
theorem ne_back_skip : (Str.ofString "back" = Str.ofString "skip") = False := eq_false (by decide +kernel)
theorem ne_remove_keep : (Str.ofString "remove" = Str.ofString "keep") = False := eq_false (by decide +kernel)
theorem ne_remove_front : (Str.ofString "remove" = Str.ofString "front") = False := eq_false (by decide +kernel)
theorem ne_remove_back : (Str.ofString "remove" = Str.ofString "back") = False := eq_false (by decide +kernel)
theorem ne_remove_skip : (Str.ofString "remove" = Str.ofString "skip") = False := eq_false (by decide +kernel)
theorem ne_skip_keep : (Str.ofString "skip" = Str.ofString "keep") = False := eq_false (by decide +kernel)
theorem ne_skip_front : (Str.ofString "skip" = Str.ofString "front") = False := eq_false (by decide +kernel)
theorem ne_skip_back : (Str.ofString "skip" = Str.ofString "back") = False := eq_false (by decide +kernel)
theorem ne_skip_remove : (Str.ofString "skip" = Str.ofString "remove") = False := eq_false (by decide +kernel)
/-! ### a chain asked for its truth -/
theorem st_test {K : PySem.W.Frag} {t : TE} {w : WE} (h : SE K t w) : ST K (tTest t) (wB w) := fun env σ Hz H P Q s w0 q => h env σ Hz H _ _ s w0 fun r e1 v Hz1 H1 w1 s1 g1 r1 => by
  split at w1
  · rename_i k
    cases r1
    exact ⟨k, rfl, q _ _ _ _ w1 s1 g1⟩
  · exact w1.elim
theorem gt_chain {X : Cx} {a b c : Expr} {pos : Pos} {ta tb tc : TE} {wa wb wc : WE} {op op' : CmpOp} {r r' : R2} {f f' : F2} (ho : OpR X (compareOp op) r) (h : SR2 X.K r f) (ho' : OpR X (compareOp op') r') (h' : SR2 X.K r' f') (ha : GE X a ta wa) (hb : GE X b tb wb) (hc : GE X c tc wc) (hm : lastMarks [op, op'] [b, c] = false := by with_unfolding_all rfl) :
    GT X (.Compare a [op, op'] [b, c] pos) (tTest (tChain r r' ta tb tc)) (wB (wChain f f' wa wb wc)) := by
  obtain ⟨q1, s1⟩ := ha.ex
  obtain ⟨q2, s2⟩ := hb.ex
  obtain ⟨q3, s3⟩ := hc.ex
  exact ⟨pt_chain ho ho' q1 q2 q3 hm, st_test (se_chain h h' s1 s2 s3)⟩
end G

namespace G
open PySem PySem.Spec L2
/-! ### text * int -/
def rMulS : R2 := fun x y H Q => ∃ (z : Str) (i : Int), x = .str z ∧ y = .int i ∧ MulOk z i ∧ Q (.str (Txt.mul z i)) H
theorem op_mulS {X : Cx} : OpR X (binaryOp .Mult) rMulS := by
  intro pins s σ H x y v u Q I rx ry h
  obtain ⟨z, i, rfl, rfl, hz, q⟩ := h
  obtain ⟨t, rfl⟩ := rx
  obtain ⟨t', rfl⟩ := ry
  exact SB.mul hz fun t' k => ⟨.str _, H, I.tok _, ⟨_, rfl⟩, q⟩
def mulSF : F2 := fun x y k => match x, y with
  | .str z, .int i => MulOk z i ∧ k (.fz (.str (Txt.mul z i)))
  | _, _ => False
theorem sr_mulS {K : PySem.W.Frag} : SR2 K rMulS mulSF := by
  intro env σ Hz H x y dx dy P Q s tx ty h q
  unfold mulSF at h
  split at h
  · have a := tx.str; have b := ty.int; subst a; subst b
    exact ⟨_, _, rfl, rfl, h.1, q _ _ _ _ h.2 s .refl (Rep.str _)⟩
  · exact h.elim
theorem mulSF_s {z : Str} {i : Int} {k : R → Prop} : mulSF (.str z) (.int i) k = (MulOk z i ∧ k (.fz (.str (Txt.mul z i)))) := rfl
/-! ### a text among the texts of a tuple -/
theorem inS_ss (x : Str) : ∀ l : List Str, inS x (l.map .str) = decide (x ∈ l)
  | [] => by simp [inS]
  | y :: l => by
    have ih := inS_ss x l
    unfold inS at ih ⊢
    rw [List.map_cons, List.any_cons, ih]
    show (decide (y = x) || decide (x ∈ l)) = decide (x ∈ y :: l)
    by_cases c : y = x
    · subst c; simp
    · have : x ≠ y := fun e => c e.symm
      simp [c, this]
theorem in_ts {xs : List Str} {z : Str} {n : Bool} {k : R → Prop} (q : k (.fz (.bool (if n then !decide (z ∈ xs) else decide (z ∈ xs))))) : inF n (.str z) (.tuple (xs.map .str)) k := by
  rw [inF_t, inS_ss]
  exact ⟨fun d hd => (List.mem_map.mp hd).imp fun _ h => h.2.symm, q⟩
/-! ### xs != [], whatever the items -/
def rNeLen (K : PySem.W.Frag) : R2 := fun x y H Q => ∃ a b xs zs, x = V.ref a ∧ y = V.ref b ∧ SqL K H a xs ∧ SqL K H b zs ∧ xs.length ≠ zs.length ∧ Q (.bl true) H
theorem op_neLen {X : Cx} (hu : X.A.units + 64 < cLine) : OpR X (compareOp .NotEq) (rNeLen X.K) := by
  intro pins s σ H x y v u Q I rx ry h
  obtain ⟨a, b, xs, zs, rfl, rfl, ha, hb, hl, q⟩ := h
  cases (show v = Value.ref a from rx)
  cases (show u = Value.ref b from ry)
  obtain ⟨us, r1, p1, _⟩ := I.list ha
  obtain ⟨ws, r2, p2, _⟩ := I.list hb
  have hsz : (us.toArray.size != ws.toArray.size) = true := by
    rw [List.size_toArray, List.size_toArray, ← r1.length, ← r2.length]
    simpa using hl
  exact SeqAt.RcNeAt.lists_lengths p1.isList p2.isList hsz (by omega) _ _ _ _ ⟨.bl true, H, I, rfl, q⟩
def rNe0 (K : PySem.W.Frag) : R2 := fun x y H Q => rNeG K x y H Q ∨ rNeLen K x y H Q
theorem op_ne0 {X : Cx} (hu : X.A.units + 64 < cLine) : OpR X (compareOp .NotEq) (rNe0 X.K) := (op_neG hu).or (op_neLen hu)
def ne0F : F2 := fun x y k => match x, y with
  | .list ds, .list [] => k (.fz (.bool (!ds.isEmpty)))
  | _, _ => False
theorem sr_ne0 {K : PySem.W.Frag} : SR2 K (rNe0 K) ne0F := by
  intro env σ Hz H x y dx dy P Q s tx ty h q
  unfold ne0F at h
  split at h
  · rename_i ds
    cases ds with
    | nil =>
      refine .inl (.inr ⟨_, _, dp_of s.sub tx sh_nil, dp_of s.sub ty sh_nil, sh_nil, sh_nil, ?_⟩)
      exact q _ _ _ _ h s .refl (Rep.bl _)
    | cons d ds =>
      obtain ⟨a, xs, rfl, h1, r1⟩ := tx.list s.sub
      obtain ⟨b, ys, rfl, h2, r2⟩ := ty.list s.sub
      refine .inr ⟨a, b, xs, ys, rfl, rfl, h1, h2, ?_, q _ _ _ _ h s .refl (Rep.bl _)⟩
      rw [r1.len, r2.len]
      exact Nat.succ_ne_zero _
  · exact h.elim
theorem ne0F_l {ds : List D} {k : R → Prop} : ne0F (.list ds) (.list []) k = k (.fz (.bool (!ds.isEmpty))) := rfl
end G

namespace G
open PySem PySem.Spec L2
/-! ### keywords and defaults in calls -/
section
variable {X : Cx} {k n np : Nat} {f : Addr} {fd : FuncData} {ps ks : List Str} {sp : Sp} {x : Str} {p pos kpos : Pos} {e : Expr} {es : List Expr} {kws : List Keyword} {t tk : TA} {te : TE} {w : WE} {wa wk : WA2} {nm : Option Str} {g : List Value → List Value → List Value} {gV : List V → List V → List V} {S : List D → (R → Prop) → Prop} {env : Ev} {q : R → Ev → Prop}
theorem fnG_runsK {pins : List (Addr × Obj)} {σ : L2.St} {H : Hp} {s : Shared} {Q : VK} {us ws : List Value} {vs zs : List V} (F : FnG X.prog X.w X.K X.mg X.base k f fd n ps sp) (gd : X.A.guards = some []) (room : Room k X.A) (b : KBn X.K fd ps np ks g gV)
    (I : Inv X pins σ H s) (r : Vals vs us) (rz : Vals zs ws) (l1 : vs.length = np) (l2 : zs.length = ks.length) (hq : sp (gV vs zs) H Q E0) : wpAny (model X.prog X.w) X.A (call (.ref f) us (ks.zip ws)) (EP X pins σ Q) X.xe s := by
  have rr := b.rel r rz
  refine wpAny_call (codeAny_mono (F.goes (outer := X.stack) (args := ⟨us, ks.zip ws⟩) gd room I.env0 (b.to s us ws I.kIn (r.length.symm.trans l1) (rz.length.symm.trans l2)) rr hq) fun res s2 hr => ?_)
  match res, hr with
  | .error _, no => exact no.elim
  | .ok (.ret u), hr => exact I.after hr
  | .ok .next, no => exact no.elim
  | .ok .brk, no => exact no.elim
  | .ok .cont, no => exact no.elim
theorem pe_callGK (F : FnG X.prog X.w X.K X.mg X.base k f fd n ps sp) (gd : X.A.guards = some []) (room : Room k X.A) (gl : Gl X x) (m : X.mg x = some (.ref f)) (kp : PySem.W.keepIn X.K (.ref f) = true) (b : KBn X.K fd ps np ks g gV)
    (ha : PA X (e :: es) t) (hk : PK X kws tk) (hall : (backToKw pos (keywordEach kws X.env)).all (·.1.isSome) = true) (hks : (backToKw pos (keywordEach kws X.env)).filterMap (·.1) = ks) (hdb : (x == ("__debug__" : Str)) = false)
    (he : starEach (e :: es) X.env = (false, eval e X.env) :: starEach es X.env) (hpl : ((backTo pos (starEach (e :: es) X.env)).any (·.1) || (backToKw pos (keywordEach kws X.env)).any (·.1.isNone)) = false) :
    PE X (.Call (.Name x p) (e :: es) kws pos) (tCallN np ks.length sp gV E0 t tk) := by
  refine ⟨fun pins s σ H Q I h => wpAny_Call_Name_kw (ld_glob I gl m ?_ hdb)⟩
  refine PySem.W.callWith_KW (h₀ := X.base) I.ok.mod.kin kp hall (thn (ha.run pos pins s σ H _ I h) fun us s1 ⟨vs, H1, I1, r, q1⟩ => ?_) hpl he
  refine thn (hk.run pos pins s1 σ H1 _ I1 q1) fun ws s2 ⟨zs, H2, I2, rz, l1, l2, q2⟩ => ⟨I2.kIn, ?_⟩
  rw [hks]
  exact fnG_runsK F gd room b I2 r rz l1 l2 q2
structure GK (X : Cx) (kws : List Keyword) (t : TA) (w : WA2) : Prop where
  ex : PK X kws t ∧ SA X.K t w
theorem gk_one (h : GE X e te w) : GK X [⟨nm, e, kpos⟩] (tCons te tNil) (waCons w waNil) := by
  obtain ⟨pe, sa⟩ := h.ex
  refine ⟨pk_cons pe pk_nil, fun env σ Hz H P Q s w0 k => ?_⟩
  refine sa env σ Hz H _ _ s w0 fun r e1 v Hz1 H1 w1 s1 g1 r1 => ?_
  cases ef : r.fzd with
  | none => simp only [ef] at w1
  | some d =>
    simp only [ef] at w1
    obtain ⟨Hz', s', g', ez, _, rp⟩ := freezeR s1 g1 r1 ef
    exact k _ _ _ _ _ w1 s' g' (.cons rp .nil)
def wCallK (np m n : Nat) (S : List D → (R → Prop) → Prop) (wa wk : WA2) : WE := fun env P => wa env fun ds e1 => wk e1 fun zs e2 => (ds.length = np ∧ zs.length = m ∧ (ds ++ zs).length = n) ∧ S (ds ++ zs) fun r => P r e2
theorem ge_callK (F : FnG X.prog X.w X.K X.mg X.base k f fd n ps (spF X.K n S)) (gd : X.A.guards = some []) (room : Room k X.A) (gl : Gl X x) (m : X.mg x = some (.ref f)) (kp : PySem.W.keepIn X.K (.ref f) = true) (b : KBn X.K fd ps np ks (· ++ ·) (· ++ ·))
    (ha : GA X (e :: es) t wa) (hk : GK X kws tk wk) (hall : (backToKw pos (keywordEach kws X.env)).all (·.1.isSome) = true := by rfl) (hks : (backToKw pos (keywordEach kws X.env)).filterMap (·.1) = ks := by rfl) (hdb : (x == ("__debug__" : Str)) = false := by decide)
    (he : starEach (e :: es) X.env = (false, eval e X.env) :: starEach es X.env := by rfl) (hpl : ((backTo pos (starEach (e :: es) X.env)).any (·.1) || (backToKw pos (keywordEach kws X.env)).any (·.1.isNone)) = false := by rfl) :
    GE X (.Call (.Name x p) (e :: es) kws pos) (tCallN np ks.length (spF X.K n S) (· ++ ·) E0 t tk) (wCallK np ks.length n S wa wk) := by
  obtain ⟨pa, sa⟩ := ha.ex
  obtain ⟨pk, sk⟩ := hk.ex
  refine ⟨pe_callGK F gd room gl m kp b pa pk hall hks hdb he hpl, fun env σ Hz H P Q s w q => sa env σ Hz H _ _ s w fun ds e1 vs Hz1 H1 w1 s1 g1 r1 => sk e1 σ Hz1 H1 _ _ s1 w1 fun zs e2 us Hz2 H2 w2 s2 g2 r2 => ?_⟩
  refine ⟨r1.len.trans w2.1.1, r2.len.trans w2.1.2.1, Hz2, ds ++ zs, _, w2.1.2.2, s2.sub, (Reps.mono g2.ez r1).app r2, w2.2, fun r v Hz3 H3 w3 ez eh sub nw rr => ?_⟩
  obtain ⟨s3, g3, r3⟩ := after_call s2 ez eh sub nw rr
  exact q _ _ _ _ _ w3 s3 ((g1.trans g2).trans g3) (r3.back (g1.trans g2).dm)
def wCallD (n : Nat) (S : List D → (R → Prop) → Prop) (dd : List D) (wa : WA2) : WE := fun env P => wa env fun ds e1 => (ds ++ dd).length = n ∧ S (ds ++ dd) fun r => P r e1
theorem ge_callD {dv : List Value} {dvs : List V} {dd : List D} (F : FnG X.prog X.w X.K X.mg X.base k f fd n ps (spF X.K n S)) (gd : X.A.guards = some []) (room : Room k X.A) (gl : Gl X x) (m : X.mg x = some (.ref f)) (kp : PySem.W.keepIn X.K (.ref f) = true) (b : Binds X.K fd ps dv) (hv : Vals dvs dv) (hd : ∀ Hz, Reps X.K Hz dvs dd)
    (ha : GA X (e :: es) t wa) (hdb : (x == ("__debug__" : Str)) = false := by decide) (he : starEach (e :: es) X.env = (false, eval e X.env) :: starEach es X.env := by rfl) (hpl : (backTo pos (starEach es X.env)).any (·.1) = false := by rfl) :
    GE X (.Call (.Name x p) (e :: es) [] pos) (tCall (spF X.K n S) dvs E0 t) (wCallD n S dd wa) := by
  obtain ⟨pa, sa⟩ := ha.ex
  refine ⟨pe_callG F gd room gl m kp b hv pa hdb he hpl, fun env σ Hz H P Q s w q => sa env σ Hz H _ _ s w fun ds e1 vs Hz1 H1 w1 s1 g1 r1 => ?_⟩
  refine ⟨Hz1, ds ++ dd, _, w1.1, s1.sub, r1.app (hd _), w1.2, fun r v Hz2 H2 w2 ez eh sub nw rr => ?_⟩
  obtain ⟨s3, g3, r3⟩ := after_call s1 ez eh sub nw rr
  exact q _ _ _ _ _ w2 s3 (g1.trans g3) (r3.back g1.dm)
theorem x_callK {m : Nat} : wCallK np m n S wa wk env q = wa env fun ds e1 => wk e1 fun zs e2 => (ds.length = np ∧ zs.length = m ∧ (ds ++ zs).length = n) ∧ S (ds ++ zs) (Shut (fun r => q r e2) .mk) := rfl
theorem x_callD {dd : List D} : wCallD n S dd wa env q = wa env fun ds e1 => (ds ++ dd).length = n ∧ S (ds ++ dd) (Shut (fun r => q r e1) .mk) := rfl
end
end G

namespace G
open PySem PySem.Spec L2
/-! ### what is let go -/
def drop1 (env : Ev) (i : Nat) : Option E → Ev
  | some (.ow true _) => env
  | _ => env.set i .un
def dropE (env : Ev) : List Nat → Ev
  | [] => env
  | i :: vs => dropE (drop1 env i env[i]?) vs
section
variable {X : Cx} {K : PySem.W.Frag} {env : Ev} {σ : L2.St} {Hz H : Hp} {t : TS} {w : WS} {b : List Stmt}
theorem drop_un {i : Nat} (s : St2 K env σ Hz H) (h : ∀ d, env[i]? ≠ some (.ow true d)) : St2 K (env.set i .un) σ Hz H ∧ Go env σ Hz H (env.set i .un) σ Hz H := by
  have oth : ∀ (j : Nat) (p : Bool) (d' : D), (env.set i .un)[j]? = some (.ow p d') → env[j]? = some (.ow p d') := fun j p d' h => by
    by_cases c : i = j
    · subst c
      rcases Nat.lt_or_ge i env.length with il | il
      · rw [List.getElem?_set_self il] at h; cases h
      · rw [List.getElem?_eq_none (by rw [List.length_set]; exact il)] at h; cases h
    · rw [List.getElem?_set_ne c] at h; exact h
  refine ⟨⟨by rw [List.length_set]; exact s.len, s.sub, fun j u q => ?_, fun j k p q d1 d2 a q1 q2 r1 r2 => s.dis j k p q d1 d2 a (oth j p d1 q1) (oth k q d2 q2) r1 r2⟩, ⟨.refl _, fun a q => .inl q, fun a u q _ => q, fun a q => q, fun a q => ?_, fun j d' q => ⟨⟨d', ?_⟩, rfl⟩, rfl⟩⟩
  · by_cases c : i = j
    · subst c
      rcases Nat.lt_or_ge i env.length with il | il
      · rw [List.getElem?_set_self il] at q
        cases q
        have : i < σ.length := s.len ▸ il
        exact ⟨_, List.getElem?_eq_getElem this, trivial⟩
      · rw [List.getElem?_eq_none (by rw [List.length_set]; exact il)] at q; cases q
    · rw [List.getElem?_set_ne c] at q
      exact s.ent j u q
  · obtain ⟨j, p, d', q1, q2⟩ := q
    exact .inl ⟨j, p, d', oth j p d' q1, q2⟩
  · have c : i ≠ j := fun c => by subst c; exact h _ q
    rw [List.getElem?_set_ne c]; exact q
theorem drop1_ok {i : Nat} (s : St2 K env σ Hz H) : St2 K (drop1 env i env[i]?) σ Hz H ∧ Go env σ Hz H (drop1 env i env[i]?) σ Hz H := by
  by_cases c : ∃ d, env[i]? = some (.ow true d)
  · obtain ⟨d, e⟩ := c
    rw [e]
    exact ⟨s, .refl⟩
  · have h : ∀ d, env[i]? ≠ some (.ow true d) := fun d e => c ⟨d, e⟩
    have : drop1 env i env[i]? = env.set i .un := by
      unfold drop1
      split
      · rename_i d e; exact absurd e (h d)
      · rfl
    rw [this]
    exact drop_un s h
theorem dropE_ok : ∀ (vs : List Nat) {env : Ev} (_ : St2 K env σ Hz H), St2 K (dropE env vs) σ Hz H ∧ Go env σ Hz H (dropE env vs) σ Hz H
  | [], _, s => ⟨s, .refl⟩
  | i :: vs, env, s => by
    obtain ⟨s1, g1⟩ := drop1_ok (i := i) s
    obtain ⟨s2, g2⟩ := dropE_ok vs s1
    exact ⟨s2, g1.trans g2⟩
def wKill (vs : List Nat) (w : WS) : WS := fun P env => w P (dropE env vs)
def wKillN (vs : List Nat) (w : WS) : WS := fun P env => w { P with nx := fun e => P.nx (dropE e vs), ct := fun e => P.ct (dropE e vs) } env
theorem gb_kill (vs : List Nat) (h : GB X b t w) : GB X b t (wKill vs w) := by
  obtain ⟨p, s⟩ := h.ex
  refine ⟨p, fun env σ Hz H P Q st w0 c => ?_⟩
  obtain ⟨s1, g1⟩ := dropE_ok vs st
  exact s _ σ Hz H P Q s1 w0 (c.go s1 g1)
theorem gb_killN (vs : List Nat) (h : GB X b t w) : GB X b t (wKillN vs w) := by
  obtain ⟨p, s⟩ := h.ex
  refine ⟨p, fun env σ Hz H P Q st w0 c => s _ σ Hz H _ Q st w0 ⟨fun env' σ' Hz' H' q s' g' => ?_, c.bk, fun env' σ' Hz' H' q s' g' => ?_, c.rt⟩⟩
  · obtain ⟨s1, g1⟩ := dropE_ok vs s'
    exact c.nx _ _ _ _ q s1 (g'.trans g1)
  · obtain ⟨s1, g1⟩ := dropE_ok vs s'
    exact c.ct _ _ _ _ q s1 (g'.trans g1)
/-- ways that meet behind a statement -/
def wJoin (w : WS) : WS := fun P env => ∃ W : Ev → Prop, w { P with nx := W } env ∧ ∀ e, W e → P.nx e
theorem gs_join {st : Stmt} (h : GS X st t w) : GS X st t (wJoin w) := by
  obtain ⟨p, s⟩ := h.ex
  refine ⟨p, fun env σ Hz H P Q st ⟨W, w1, w2⟩ c => s _ σ Hz H _ Q st w1 ⟨fun env' σ' Hz' H' q s' g' => c.nx _ _ _ _ (w2 _ q) s' g', c.bk, c.ct, c.rt⟩⟩
variable {P : EndsD} {e : Ev} {i : Nat} {vs : List Nat} {d : D}
theorem x_kill : wKill vs w P env = w P (dropE env vs) := rfl
theorem x_killN : wKillN vs w P env = w { P with nx := fun e => P.nx (dropE e vs), ct := fun e => P.ct (dropE e vs) } env := rfl
theorem dropE_n : dropE env [] = env := rfl
theorem dropE_c : dropE env (i :: vs) = dropE (drop1 env i env[i]?) vs := rfl
theorem drop1_un : drop1 env i (some .un) = env.set i .un := rfl
theorem drop1_fz : drop1 env i (some (.fz d)) = env.set i .un := rfl
theorem drop1_ow : drop1 env i (some (.ow false d)) = env.set i .un := rfl
theorem drop1_ot : drop1 env i (some (.ow true d)) = env := rfl
def JoC (w : WS) (P : EndsD) (_ : Tg P) (env : Ev) : Prop := ∃ W : Ev → Prop, w { P with nx := W } env ∧ ∀ e, W e → P.nx e
theorem x_join : wJoin w P env = JoC w P .mk env := rfl
theorem join_i {t : Tg P} (W : Ev → Prop) (h : w { P with nx := W } env) (k : ∀ e, W e → P.nx e) : JoC w P t env := ⟨W, h, k⟩
end
end G

namespace G
open PySem PySem.Spec L2 TL
/-! ### typed data -/
def chars : Str := "abcdefghijklmnopqrstuvwxyz0123456789./_"
/-- a name: one to twelve of the 39 signs -/
def IsName (z : Str) : Prop := 1 ≤ z.length ∧ z.length ≤ 12 ∧ ∀ c ∈ z.cps.toList, c ∈ chars.cps.toList
theorem IsName.ok {z : Str} (h : IsName z) : SOk z := by
  show PyData.strOk z = true
  unfold PyData.strOk
  rw [Array.all_eq_true']
  intro c hc
  have := h.2.2 c (Array.mem_toList_iff.mpr hc)
  have : ∀ c ∈ chars.cps.toList, decide (c < 0x110000) = true := by decide +kernel
  exact this c (h.2.2 c (Array.mem_toList_iff.mpr hc))
structure Nm where
  val : Str
  property : IsName val
deriving DecidableEq
theorem Nm.ext_iff : ∀ {a b : Nm}, a = b ↔ a.val = b.val := fun {a b} => by cases a; cases b; simp
class Ty (α : Type) where
  en : α → D
open Ty
instance : Ty Int := ⟨.int⟩
instance : Ty Nat := ⟨fun n => .int n⟩
instance : Ty Bool := ⟨.bool⟩
instance : Ty Str := ⟨.str⟩
instance : Ty Nm := ⟨fun n => .str n.1⟩
section
variable {α β : Type} [Ty α] [Ty β]
def eL (xs : List α) : D := .list (xs.map en)
def eT (xs : List α) : D := .tuple (xs.map en)
instance : Ty (List α) := ⟨eL⟩
instance : Ty (α × β) := ⟨fun p => .tuple [en p.1, en p.2]⟩
end
/-- a tuple of any length -/
structure Tu (α : Type) where
  l : List α
deriving DecidableEq
instance {α : Type} [Ty α] : Ty (Tu α) := ⟨fun t => eT t.l⟩
/-- data that == tells as Lean does -/
class TyE (α : Type) [DecidableEq α] [Ty α] where
  lay : ∀ a : α, (en a).canLay0 = true
  eqv : ∀ a b : α, PyData.eqv (en a) (en b) = decide (a = b)
  dep : Nat
  deep : ∀ a : α, (en a).depth ≤ dep
class TyQ (α : Type) [DecidableEq α] [Ty α] : Prop where
  sh : ∀ a : α, SeqAt.shaped (en a) = true
  eqv : ∀ a b : α, PyData.eqv (en a) (en b) = decide (a = b)
theorem TyQ.of {α : Type} [DecidableEq α] [Ty α] [E : TyE α] (h : TyE.dep α ≤ 64 := by decide) : TyQ α := ⟨fun a => by
  unfold SeqAt.shaped
  rw [TyE.lay a, Bool.true_and, decide_eq_true_eq]
  exact Nat.le_trans (TyE.deep a) h, TyE.eqv⟩
instance : TyE Int where
  lay _ := by simp only [en, PyData.canLay0]
  eqv a b := by simp only [en, PyData.eqv]; exact PySem.W.beq_decide a b
  dep := 0
  deep _ := by simp only [en, PyData.depth]; exact Nat.le_refl _
instance : TyE Nat where
  lay _ := by simp only [en, PyData.canLay0]
  eqv a b := by
    simp only [en, PyData.eqv]
    rw [PySem.W.beq_decide]
    exact decide_eq_decide.mpr Int.ofNat_inj
  dep := 0
  deep _ := by simp only [en, PyData.depth]; exact Nat.le_refl _
instance : TyE Nm where
  lay a := by simp only [en, PyData.canLay0]; exact a.2.ok
  eqv a b := by
    simp only [en, PyData.eqv]
    rw [PySem.W.beq_decide]
    exact decide_eq_decide.mpr Nm.ext_iff.symm
  dep := 0
  deep _ := by simp only [en, PyData.depth]; exact Nat.le_refl _
section
variable {α β : Type} [DecidableEq α] [Ty α] [TyE α] [DecidableEq β] [Ty β] [TyE β]
theorem ty_layAll : ∀ l : List α, PyData.canLayAll0 (l.map en) = true
  | [] => by simp only [List.map_nil, PyData.canLayAll0]
  | a :: l => by
    simp only [List.map_cons, PyData.canLayAll0]
    rw [TyE.lay a, ty_layAll l]; rfl
theorem ty_eqvAll : ∀ l m : List α, PyData.eqvAll (l.map en) (m.map en) = decide (l = m)
  | [], [] => by simp [PyData.eqvAll]
  | [], _ :: _ => by simp [PyData.eqvAll]
  | _ :: _, [] => by simp [PyData.eqvAll]
  | a :: l, b :: m => by
    rw [List.map_cons, List.map_cons, PyData.eqvAll, TyE.eqv, ty_eqvAll l m, ← Bool.decide_and]
    exact decide_eq_decide.mpr (by rw [List.cons.injEq])
theorem ty_deepAll : ∀ l : List α, PyData.depthAll (l.map en) ≤ TyE.dep α
  | [] => by simp only [List.map_nil, PyData.depthAll]; exact Nat.zero_le _
  | a :: l => by simp only [List.map_cons, PyData.depthAll]; exact Nat.max_le.mpr ⟨TyE.deep a, ty_deepAll l⟩
instance : TyE (List α) where
  lay l := by show (PyData.list (l.map en)).canLay0 = true; simp only [PyData.canLay0]; exact ty_layAll l
  eqv l m := by show PyData.eqv (PyData.list (l.map en)) (PyData.list (m.map en)) = _; simp only [PyData.eqv]; exact ty_eqvAll l m
  dep := TyE.dep α + 1
  deep l := by show (PyData.list (l.map en)).depth ≤ _; simp only [PyData.depth]; have := ty_deepAll l; omega
instance : TyE (Tu α) where
  lay l := by show (PyData.tuple (l.l.map en)).canLay0 = true; simp only [PyData.canLay0]; exact ty_layAll l.l
  eqv l m := by
    show PyData.eqv (PyData.tuple (l.l.map en)) (PyData.tuple (m.l.map en)) = _
    simp only [PyData.eqv]
    rw [ty_eqvAll l.l m.l]
    exact decide_eq_decide.mpr (by cases l; cases m; simp)
  dep := TyE.dep α + 1
  deep l := by show (PyData.tuple (l.l.map en)).depth ≤ _; simp only [PyData.depth]; have := ty_deepAll l.l; omega
instance : TyE (α × β) where
  lay p := by show (PyData.tuple [en p.1, en p.2]).canLay0 = true; simp only [PyData.canLay0, PyData.canLayAll0, TyE.lay p.1, TyE.lay p.2, Bool.and_self]
  eqv p q := by
    show PyData.eqv (PyData.tuple [en p.1, en p.2]) (PyData.tuple [en q.1, en q.2]) = _
    simp only [PyData.eqv, PyData.eqvAll, TyE.eqv, Bool.and_true, ← Bool.decide_and]
    exact decide_eq_decide.mpr (by rw [Prod.ext_iff])
  dep := max (TyE.dep α) (TyE.dep β) + 1
  deep p := by
    show (PyData.tuple [en p.1, en p.2]).depth ≤ _
    simp only [PyData.depth, PyData.depthAll]
    have := TyE.deep p.1
    have := TyE.deep p.2
    omega
end
instance : TyQ Nm := .of
instance : TyQ (List Nm) := .of
instance : TyQ (Tu Nm) := .of
instance : TyQ (List (List Nm)) := .of
instance : TyQ Nat := .of
instance : TyQ Int := .of
instance : TyQ (List Nat) := .of
/-! ### readings over typed data -/
def isL (o : Option D) (u : List D → Prop) : Prop := match o with
  | some (.list ds) => u ds
  | _ => False
def isT (r : R) (u : List D → Prop) : Prop := match r with
  | .fz (.tuple ds) => u ds
  | _ => False
def isOL (o : Option E) (u : Bool → List D → Prop) : Prop := match o with
  | some (.ow q (.list ds)) => u q ds
  | _ => False
section
variable {α β : Type} [Ty α] [Ty β] {xs ys : List α} {a b c : α} {u : List D → Prop} {v : Bool → List D → Prop} {ds : List D} {d : D} {q : Bool} {k : R → Prop} {n : Bool}
theorem isL_l : isL (some (.list ds)) u = u ds := rfl
theorem isL_e : isL (some (eL xs)) u = u (xs.map en) := rfl
theorem isT_t : isT (.fz (.tuple ds)) u = u ds := rfl
theorem isT_e : isT (.fz (eT xs)) u = u (xs.map en) := rfl
theorem isOL_l : isOL (some (.ow q (.list ds))) v = v q ds := rfl
theorem isOL_e : isOL (some (.ow q (eL xs))) v = v q (xs.map en) := rfl
theorem en_int {i : Int} : en i = .int i := rfl
theorem en_nat {i : Nat} : en i = .int i := rfl
theorem en_bool {i : Bool} : en i = .bool i := rfl
theorem en_str {i : Str} : en i = .str i := rfl
theorem en_list : en xs = eL xs := rfl
theorem eL_1 : PyData.list [en a] = eL [a] := rfl
theorem eL_2 : PyData.list [en a, en b] = eL [a, b] := rfl
theorem eL_3 : PyData.list [en a, en b, en c] = eL [a, b, c] := rfl
theorem eL_snoc : PyData.list (xs.map en ++ [en a]) = eL (xs ++ [a]) := by unfold eL; rw [List.map_append]; rfl
theorem eL_app : PyData.list (xs.map en ++ ys.map en) = eL (xs ++ ys) := by unfold eL; rw [List.map_append]
theorem eL_LL : PyData.list [eL xs] = eL [xs] := rfl
theorem eL_LL2 : PyData.list [eL xs, eL ys] = eL [xs, ys] := rfl
theorem eL_LLs {xs : List (List α)} {ys : List α} : PyData.list (xs.map en ++ [eL ys]) = eL (xs ++ [ys]) := by unfold eL; rw [List.map_append]; rfl
theorem addF_e : addF (eL xs) (eL ys) k = (xs.length + ys.length ≤ sizeLine ∧ k (.ow (eL (xs ++ ys)))) := by
  unfold eL; rw [addF_l, List.length_map, List.length_map, List.map_append]
theorem addF_t' : addF (eT xs) (eT ys) k = (xs.length + ys.length ≤ sizeLine ∧ k (.fz (eT (xs ++ ys)))) := by
  unfold eT; rw [addF_t, List.length_map, List.length_map, List.map_append]
theorem addF_n : addF (.list []) (eL ys) k = (ys.length ≤ sizeLine ∧ k (.ow (eL ys))) := by
  unfold eL; rw [addF_l, List.length_map, List.length_nil, Nat.zero_add]; rfl
theorem addF_n' : addF (eL ys) (.list []) k = (ys.length ≤ sizeLine ∧ k (.ow (eL ys))) := by
  unfold eL; rw [addF_l, List.length_map, List.length_nil, Nat.add_zero, List.append_nil]
theorem lenF_e : lenF (eL xs) k = k (.fz (.int xs.length)) := by unfold eL; rw [lenF_l, List.length_map]
theorem lenF_e' : lenF (eT xs) k = k (.fz (.int xs.length)) := by unfold eT; rw [lenF_t, List.length_map]
theorem toListF_e : toListF (eL xs) k = k (.ow (eL xs)) := rfl
theorem toListF_e' : toListF (eT xs) k = k (.ow (eL xs)) := rfl
theorem toTupF_e : toTupF (eL xs) k = k (.fz (eT xs)) := rfl
theorem toTupF_e' : toTupF (eT xs) k = k (.fz (eT xs)) := rfl
def cutA (xs : List α) (lo hi : Option Int) : List α := (xs.drop (HT.sIx xs.length 0 lo)).take (HT.sIx xs.length xs.length hi - HT.sIx xs.length 0 lo)
theorem cutD_m {lo hi : Option Int} : cutD (xs.map en) lo hi = (cutA xs lo hi).map en := by
  unfold cutD cutA; rw [List.length_map, List.map_take, List.map_drop]
theorem cutF_e {lo hi : Option Int} : cutF (eL xs) lo hi k = k (.ow (eL (cutA xs lo hi))) := by
  unfold eL; rw [cutF_l, cutD_m]
theorem cutF_e' {lo hi : Option Int} : cutF (eT xs) lo hi k = k (.fz (eT (cutA xs lo hi))) := by
  unfold eT; rw [cutF_t, cutD_m]
theorem cutA_to (m : Nat) : cutA xs none (some (m : Int)) = xs.take m := by
  unfold cutA
  rw [HT.sIx_nat, HT.sIx_none, Nat.sub_zero, List.drop_zero]
  by_cases c : m ≤ xs.length
  · rw [Nat.min_eq_left c]
  · rw [Nat.min_eq_right (by omega), List.take_of_length_le (Nat.le_refl _), List.take_of_length_le (by omega)]
theorem cutA_from (m : Nat) : cutA xs (some (m : Int)) none = xs.drop m := by
  unfold cutA
  rw [HT.sIx_nat, HT.sIx_none, List.take_of_length_le (by rw [List.length_drop]; omega)]
  by_cases c : m ≤ xs.length
  · rw [Nat.min_eq_left c]
  · rw [Nat.min_eq_right (by omega), List.drop_of_length_le (Nat.le_refl _), List.drop_of_length_le (by omega)]
theorem cutA_all : cutA xs none none = xs := by
  unfold cutA
  rw [HT.sIx_none, HT.sIx_none, List.drop_zero, Nat.sub_zero, List.take_of_length_le (Nat.le_refl _)]
theorem ixF_e0 : ixF (eL (a :: xs)) (.int 0) k = k (.fz (en a)) := by unfold eL; rw [List.map_cons, ixF_0]
theorem ixF_e1 : ixF (eL (a :: b :: xs)) (.int 1) k = k (.fz (en b)) := by unfold eL; rw [List.map_cons, List.map_cons, ixF_1]
theorem ixL {i : Nat} {k : R → Prop} (h : i < xs.length) (q : k (.fz (en xs[i]))) : ixF (eL xs) (.int (i : Int)) k := ⟨en xs[i], by rw [at_nat, List.getElem?_map, List.getElem?_eq_getElem h]; rfl, q⟩
theorem ixLm {i : Nat} {k : R → Prop} (h : i < xs.length) (q : ∀ a ∈ xs, k (.fz (en a))) : ixF (eL xs) (.int (i : Int)) k := ixL h (q _ (List.getElem_mem h))
theorem ixLs {i : Nat} {k : R → Prop} (h : xs[i]? = some a) (q : k (.fz (en a))) : ixF (eL xs) (.int (i : Int)) k := ⟨en a, by rw [at_nat, List.getElem?_map, h]; rfl, q⟩
theorem ixTs {i : Nat} {k : R → Prop} (h : xs[i]? = some a) (q : k (.fz (en a))) : ixF (eT xs) (.int (i : Int)) k := ⟨en a, by rw [at_nat, List.getElem?_map, h]; rfl, q⟩
theorem ixLlast {k : R → Prop} (h : xs.getLast? = some a) (q : k (.fz (en a))) : ixF (eL xs) (.int (-1)) k := by
  refine ⟨en a, ?_, q⟩
  have hl : xs ≠ [] := by rintro rfl; cases h
  have hp : 0 < xs.length := List.length_pos_iff.mpr hl
  rw [List.getLast?_eq_getElem?] at h
  have e : ixN (xs.map (en (α := α))).length (-1) = some (xs.length - 1) := by
    unfold ixN
    rw [List.length_map]
    simp only [show ((-1 : Int) + (xs.length : Int)).toNat = xs.length - 1 by omega]
    first
    | (rw [if_pos (by omega)]; done)
    | (rw [if_neg (by omega), if_pos (by omega)]; done)
    | (rw [if_pos (by omega), if_pos (by omega)]; done)
    | (split <;> first | (congr 1; omega) | omega | (split <;> first | (congr 1; omega) | omega))
  unfold atI
  rw [e]
  show (xs.map en)[xs.length - 1]? = _
  rw [List.getElem?_map, h]; rfl
theorem ixP_0 {p : α × β} : ixF (en p) (.int 0) k = k (.fz (en p.1)) := ixF_t0
theorem ixP_1 {p : α × β} : ixF (en p) (.int 1) k = k (.fz (en p.2)) := ixF_t1
theorem gtupP {p : α × β} {ws : WGs} {env : Ev} {h : Ev → Prop} : wgTup 2 ws (en p) env h = ws [en p.1, en p.2] env h := by
  show (2 = 2 ∧ _) = _
  exact propext ⟨fun h => h.2, fun h => ⟨rfl, h⟩⟩
theorem pairP {p : α × β} : PyData.tuple [en p.1, en p.2] = en p := rfl
theorem isF_Ln {n : Bool} : isF n (eL xs) .none k = k (.fz (.bool n)) := rfl
theorem isF_Tn {n : Bool} : isF n (eT xs) .none k = k (.fz (.bool n)) := rfl
section
variable [DecidableEq α] [TyQ α]
theorem eqF_e : eqF (en a) (en b) k = k (.fz (.bool (decide (a = b)))) := by
  have h : ∀ x y : D, SeqAt.shaped x = true → SeqAt.shaped y = true → eqF x y k = k (.fz (.bool (PyData.eqv x y))) := fun x y hx hy => by
    unfold eqF
    split
    · simp only [PyData.eqv]; congr 3
    · simp only [PyData.eqv]; congr 3
    · rw [hx, hy]; simp only [and_self, true_and]
  rw [h _ _ (TyQ.sh a) (TyQ.sh b), TyQ.eqv]
theorem neF_e : neF (en a) (en b) k = k (.fz (.bool (!decide (a = b)))) := by
  have h : ∀ x y : D, SeqAt.shaped x = true → SeqAt.shaped y = true → neF x y k = k (.fz (.bool (!PyData.eqv x y))) := fun x y hx hy => by
    unfold neF
    split
    · simp only [PyData.eqv]; congr 3
    · simp only [PyData.eqv]; congr 3
    · rw [hx, hy]; simp only [and_self, true_and]
  rw [h _ _ (TyQ.sh a) (TyQ.sh b), TyQ.eqv]
theorem inD_e {x : α} {l : List α} : inD (en x) (l.map en) = decide (x ∈ l) := by
  unfold inD
  induction l with
  | nil => simp
  | cons y l ih =>
    rw [List.map_cons, List.any_cons, ih, TyQ.eqv, ← Bool.decide_or]
    exact decide_eq_decide.mpr (by rw [List.mem_cons, eq_comm])
theorem inF_e [TyQ (List α)] {n : Bool} : inF n (en a) (eL xs) k = k (.fz (.bool (if n then !decide (a ∈ xs) else decide (a ∈ xs)))) := by
  have h : ∀ (x : D) (ds : List D), SeqAt.shaped x = true → SeqAt.shaped (.list ds) = true → inF n x (.list ds) k = k (.fz (.bool (if n then !inD x ds else inD x ds))) := fun x ds hx hy => by
    have : inF n x (.list ds) k = ((SeqAt.shaped x = true ∧ SeqAt.shaped (.list ds) = true) ∧ k (.fz (.bool (if n then !inD x ds else inD x ds)))) := by cases x <;> rfl
    rw [this, hx, hy]; simp only [and_self, true_and]
  exact (h (en a) (xs.map en) (TyQ.sh a) (TyQ.sh (α := List α) xs)).trans (by rw [inD_e])
end
theorem eqv_nil {xs : List α} : PyData.eqv (eL xs) (.list []) = decide (xs = []) := by
  cases xs with
  | nil => show PyData.eqv (.list []) (.list []) = _; simp [PyData.eqv, PyData.eqvAll]
  | cons x xs => show PyData.eqv (.list (en x :: xs.map en)) (.list []) = _; simp [PyData.eqv, PyData.eqvAll]
theorem eqF_n [DecidableEq α] [TyQ (List α)] : eqF (eL xs) (.list []) k = k (.fz (.bool (decide (xs = [])))) := by
  show ((SeqAt.shaped (eL xs) = true ∧ SeqAt.shaped (.list []) = true) ∧ k (.fz (.bool (PyData.eqv (eL xs) (.list []))))) = _
  rw [eqv_nil, sh_nil, show SeqAt.shaped (eL xs) = true from TyQ.sh (α := List α) xs]; simp only [and_self, true_and]
theorem eqF_n' [DecidableEq α] [TyQ (Tu α)] : eqF (eT xs) (.tuple []) k = k (.fz (.bool (decide (xs = [])))) := by
  show ((SeqAt.shaped (eT xs) = true ∧ SeqAt.shaped (.tuple []) = true) ∧ k (.fz (.bool (PyData.eqv (eT xs) (.tuple []))))) = _
  have e : PyData.eqv (eT xs) (.tuple []) = decide (xs = []) := by
    cases xs with
    | nil => show PyData.eqv (.tuple []) (.tuple []) = _; simp [PyData.eqv, PyData.eqvAll]
    | cons x xs => show PyData.eqv (.tuple (en x :: xs.map en)) (.tuple []) = _; simp [PyData.eqv, PyData.eqvAll]
  have s : SeqAt.shaped (.tuple []) = true := TyQ.sh (α := Tu α) ⟨[]⟩
  rw [e, s, show SeqAt.shaped (eT xs) = true from TyQ.sh (α := Tu α) ⟨xs⟩]; simp only [and_self, true_and]
theorem eqF_eL [DecidableEq α] [TyQ (List α)] : eqF (eL xs) (eL ys) k = k (.fz (.bool (decide (xs = ys)))) := eqF_e (α := List α)
theorem neF_eL [DecidableEq α] [TyQ (List α)] : neF (eL xs) (eL ys) k = k (.fz (.bool (!decide (xs = ys)))) := neF_e (α := List α)
theorem eqF_eT [DecidableEq α] [TyQ (Tu α)] : eqF (eT xs) (eT ys) k = k (.fz (.bool (decide (xs = ys)))) := by
  refine (eqF_e (α := Tu α) (a := ⟨xs⟩) (b := ⟨ys⟩)).trans ?_
  congr 3
  exact decide_eq_decide.mpr (by simp)
theorem inF_nm {n : Bool} {x : Nm} {xs : List Nm} : inF n (en x) (eT xs) k = k (.fz (.bool (if n then !decide (x ∈ xs) else decide (x ∈ xs)))) := by
  show ((∀ d ∈ xs.map en, ∃ z, d = PyData.str z) ∧ k (.fz (.bool (if n then !inS x.1 (xs.map en) else inS x.1 (xs.map en))))) = _
  have h1 : ∀ d ∈ xs.map (en (α := Nm)), ∃ z, d = PyData.str z := fun d hd => by
    obtain ⟨a, _, rfl⟩ := List.mem_map.mp hd; exact ⟨_, rfl⟩
  have h2 : inS x.1 (xs.map en) = decide (x ∈ xs) := by
    clear h1
    unfold inS
    induction xs with
    | nil => simp
    | cons y l ih =>
      rw [List.map_cons, List.any_cons, ih]
      show (decide (y.1 = x.1) || decide (x ∈ l)) = decide (x ∈ y :: l)
      rw [← Bool.decide_or]
      exact decide_eq_decide.mpr (by rw [← Nm.ext_iff, List.mem_cons, eq_comm])
  rw [h2, eq_true h1, true_and]
end
/-! ### loops and comprehensions over typed data -/
section
variable {P : EndsD} {p : R → Ev → Prop} {wg : WG} {b : WS} {c : WT} {w we : WE} {e1 : Ev} {vs : List Nat}
theorem drop_at {α : Type} {f : α → D} {xs : List α} {d : D} {l : List D} (h : d :: l = (xs.drop (xs.length - (l.length + 1))).map f) : ∃ a, d = f a ∧ l = (xs.drop (xs.length - l.length)).map f ∧ xs.drop (xs.length - (l.length + 1)) = a :: xs.drop (xs.length - l.length) := by
  have hl := congrArg List.length h
  rw [List.length_cons, List.length_map, List.length_drop] at hl
  have h0 : l.length + 1 ≤ xs.length := by omega
  have h1 : xs.length - (l.length + 1) < xs.length := by omega
  have h2 : xs.length - (l.length + 1) + 1 = xs.length - l.length := by omega
  rw [List.drop_eq_getElem_cons h1, h2] at h ⊢
  rw [List.map_cons] at h
  obtain ⟨h3, h4⟩ := List.cons.inj h
  exact ⟨_, h3, h4, rfl⟩
theorem for_t {α : Type} {f : α → D} {xs : List α} {t : Tg P} (W : List α → Ev → Prop) (h : W xs e1) (step : ∀ a l e, W (a :: l) e → wg (f a) e fun e2 => b { P with nx := W l, ct := W l, bk := P.nx } e2) (done : ∀ e, W [] e → P.nx e) : ForC wg b P t (xs.map f) e1 := by
  refine for_i (fun l e => l = (xs.drop (xs.length - l.length)).map f ∧ W (xs.drop (xs.length - l.length)) e) ⟨by rw [List.length_map, Nat.sub_self, List.drop_zero], by rw [List.length_map, Nat.sub_self, List.drop_zero]; exact h⟩ ?_ ?_
  · rintro d l e ⟨hd, hw⟩
    rw [List.length_cons] at hd hw
    obtain ⟨a, rfl, hl, hx⟩ := drop_at hd
    rw [hx] at hw
    have key : (fun e => l = (xs.drop (xs.length - l.length)).map f ∧ W (xs.drop (xs.length - l.length)) e) = W (xs.drop (xs.length - l.length)) := funext fun e => propext ⟨fun h => h.2, fun h => ⟨hl, h⟩⟩
    rw [key]
    exact step a _ e hw
  · rintro e ⟨hd, hw⟩
    rw [List.length_nil, Nat.sub_zero, List.drop_length] at hw
    exact done e hw
/-- a comprehension over typed data that may change the state -/
theorem lc_ti {α β : Type} [Ty β] {f : α → D} {xs : List α} {t : Tg p} (W : List β → List α → Ev → Prop) (hl : xs.length ≤ sizeLine) (h : W [] xs (wipeE e1 vs))
    (step : ∀ acc a l e, W acc (a :: l) e → ∀ (Q : R → Ev → Prop) (Q0 : Ev → Prop), (∀ r y e', r.fzd = some (en y) → W (acc ++ [y]) l e' → Q r e') → (∀ e', W acc l e' → Q0 e') → wg (f a) e fun e2 => c e2 fun k e3 => Cs k (Shut (fun k => if k = true then we e3 fun r e4 => Q r (wipeE e4 vs) else Q0 (wipeE e3 vs)) .mk))
    (done : ∀ acc e, W acc [] e → p (.ow (eL acc)) (restE e1 e vs)) : LcC wg c we vs p t (xs.map f) e1 := by
  refine lc_i (fun acc l e => l = (xs.drop (xs.length - l.length)).map f ∧ ∃ acc', acc = acc'.map en ∧ W acc' (xs.drop (xs.length - l.length)) e) (by rw [List.length_map]; exact hl) ⟨by rw [List.length_map, Nat.sub_self, List.drop_zero], [], rfl, by rw [List.length_map, Nat.sub_self, List.drop_zero]; exact h⟩ ?_ ?_
  · rintro acc d l e ⟨hd, acc', rfl, hw⟩
    rw [List.length_cons] at hd hw
    obtain ⟨a, rfl, hl, hx⟩ := drop_at hd
    rw [hx] at hw
    refine step acc' a _ e hw (fun r e => match r.fzd with | some x => l = (xs.drop (xs.length - l.length)).map f ∧ ∃ acc'', acc'.map en ++ [x] = acc''.map en ∧ W acc'' (xs.drop (xs.length - l.length)) e | _ => False) (fun e => l = (xs.drop (xs.length - l.length)).map f ∧ ∃ acc'', acc'.map en = acc''.map en ∧ W acc'' (xs.drop (xs.length - l.length)) e) (fun r y e' er hw' => ?_) fun e' hw' => ⟨hl, acc', rfl, hw'⟩
    rw [er]
    exact ⟨hl, acc' ++ [y], by rw [List.map_append]; rfl, hw'⟩
  · rintro acc e ⟨hd, acc', rfl, hw⟩
    rw [List.length_nil, Nat.sub_zero, List.drop_length] at hw
    exact done acc' e hw
/-- .. that changes nothing -/
theorem lc_e {α β : Type} [Ty β] {f : α → D} {xs : List α} {t : Tg p} (g : α → β) (pr : α → Bool) (e0 : Ev) (hl : xs.length ≤ sizeLine) (h0 : wipeE e1 vs = e0)
    (step : ∀ a ∈ xs, ∀ (Q : D → Ev → Prop) (Q0 : Ev → Prop), (pr a = true → Q (en (g a)) e0) → (pr a = false → Q0 e0) → wg (f a) e0 fun e2 => c e2 fun k e3 => Cs k (Shut (fun k => if k = true then we e3 fun r e4 => (match r.fzd with | some x => Q x (wipeE e4 vs) | _ => False) else Q0 (wipeE e3 vs)) .mk))
    (done : p (.ow (eL ((xs.filter pr).map g))) (restE e1 e0 vs)) : LcC wg c we vs p t (xs.map f) e1 := by
  refine lc_i (fun acc l e => l = (xs.drop (xs.length - l.length)).map f ∧ acc = ((xs.take (xs.length - l.length)).filter pr).map (fun a => en (g a)) ∧ e = e0) (by rw [List.length_map]; exact hl) ⟨by rw [List.length_map, Nat.sub_self, List.drop_zero], by rw [List.length_map, Nat.sub_self, List.take_zero]; rfl, h0⟩ ?_ ?_
  · rintro acc d l e ⟨hd, rfl, rfl⟩
    have hd' := hd
    rw [List.length_cons] at hd ⊢
    obtain ⟨a, rfl, hl, hx⟩ := drop_at hd
    have hi : xs.length - (l.length + 1) < xs.length := by
      have hll := congrArg List.length hd
      rw [List.length_cons, List.length_map, List.length_drop] at hll
      omega
    have hg : xs[xs.length - (l.length + 1)] = a := by
      have := List.drop_eq_getElem_cons hi
      rw [hx] at this
      exact (List.cons.inj this).1.symm
    have h2 : xs.length - (l.length + 1) + 1 = xs.length - l.length := by
      have hll := congrArg List.length hd
      rw [List.length_cons, List.length_map, List.length_drop] at hll
      omega
    have ht : xs.take (xs.length - l.length) = xs.take (xs.length - (l.length + 1)) ++ [a] := by
      rw [← h2, List.take_succ_eq_append_getElem hi, hg]
    refine step a (hg ▸ List.getElem_mem hi) (fun x e' => l = (xs.drop (xs.length - l.length)).map f ∧ ((xs.take (xs.length - (l.length + 1))).filter pr).map (fun a => en (g a)) ++ [x] = ((xs.take (xs.length - l.length)).filter pr).map (fun a => en (g a)) ∧ e' = e) (fun e' => l = (xs.drop (xs.length - l.length)).map f ∧ ((xs.take (xs.length - (l.length + 1))).filter pr).map (fun a => en (g a)) = ((xs.take (xs.length - l.length)).filter pr).map (fun a => en (g a)) ∧ e' = e) (fun hp => ⟨hl, ?_, rfl⟩) fun hp => ⟨hl, ?_, rfl⟩
    · rw [ht, List.filter_append, List.filter_cons, hp, List.map_append]; rfl
    · rw [ht, List.filter_append, List.filter_cons, hp]; simp
  · rintro acc e ⟨hd, rfl, rfl⟩
    rw [List.length_nil, Nat.sub_zero, List.take_length]
    have : (xs.filter pr).map (fun a => en (g a)) = ((xs.filter pr).map g).map (en (α := β)) := by rw [List.map_map]; rfl
    rw [this]
    exact done
end
end G

namespace G
open PySem PySem.Spec L2 TL Ty
/-! ### readings, for typed data -/
def isL1 (ds : List D) (u : List D → Prop) : Prop := match ds with
  | [d] => isL (some d) u
  | _ => False
def isInt (r : R) (u : Int → Prop) : Prop := match r with
  | .fz (.int j) => u j
  | _ => False
def isSome {α : Type} (o : Option α) (u : α → Prop) : Prop := match o with
  | some d => u d
  | none => False
def isOwL (r : R) (u : List D → Prop) : Prop := match r with
  | .ow (.list ys) => u ys
  | _ => False
/-- the items of a list with their indexes -/
def idx {α : Type} (xs : List α) : List (Nat × α) := xs.zipIdx.map fun p => (p.2, p.1)
section
variable {α : Type} [Ty α] {xs ys : List α} {a : α} {u : List D → Prop} {v : Int → Prop} {ds : List D} {d : D} {j : Int} {n m : Nat}
theorem isL1_c : isL1 [d] u = isL (some d) u := rfl
theorem isInt_i : isInt (.fz (.int j)) v = v j := rfl
theorem isSome_s {α : Type} {u : α → Prop} {d : α} : isSome (some d) u = u d := rfl
theorem isOwL_l : isOwL (.ow (.list ds)) u = u ds := rfl
theorem isOwL_e : isOwL (.ow (eL xs)) u = u (xs.map en) := rfl
theorem pairs_e : pairs (xs.map en) = (idx xs).map en := by
  refine List.ext_getElem? fun i => ?_
  rcases Nat.lt_or_ge i xs.length with h | h
  · rw [pairs_get (d := en xs[i]) (by rw [List.getElem?_map, List.getElem?_eq_getElem h]; rfl)]
    unfold idx
    rw [List.getElem?_map, List.getElem?_map, List.getElem?_zipIdx, List.getElem?_eq_getElem h]
    simp [en]
  · rw [List.getElem?_eq_none (by rw [pairs_length, List.length_map]; exact h), List.getElem?_eq_none (by unfold idx; simp only [List.length_map, List.length_zipIdx]; exact h)]
theorem eL_pairs : PyData.list (pairs (xs.map en)) = eL (idx xs) := by rw [pairs_e]; rfl
theorem idx_len {α : Type} {xs : List α} : (idx xs).length = xs.length := by unfold idx; simp
theorem rngD_e : rngD 0 n = (List.range n).map en := by
  unfold rngD
  refine List.map_congr_left fun i _ => ?_
  rw [Int.zero_add]; rfl
theorem eL_rev : PyData.list (xs.map en).reverse = eL xs.reverse := by unfold eL; rw [List.map_reverse]
theorem eL_set : PyData.list ((xs.map en).set n (en a)) = eL (xs.set n a) := by unfold eL; rw [List.map_set]
theorem eL_erase : PyData.list ((xs.map en).eraseIdx n) = eL (xs.eraseIdx n) := by
  unfold eL
  rw [List.eraseIdx_eq_take_drop_succ, List.eraseIdx_eq_take_drop_succ, List.map_append, List.map_take, List.map_drop]
theorem eL_ins : PyData.list ((xs.map en).take n ++ [en a] ++ (xs.map en).drop m) = eL (xs.take n ++ [a] ++ xs.drop m) := by
  unfold eL
  rw [List.map_append, List.map_append, List.map_take, List.map_drop]; rfl
theorem eL_ins' : PyData.list ((xs.map en).take n ++ en a :: (xs.map en).drop m) = eL (xs.take n ++ a :: xs.drop m) := by
  unfold eL
  rw [List.map_append, List.map_cons, List.map_take, List.map_drop]
theorem list_0 : PyData.list ([] ++ ds) = .list ds := rfl
theorem get_m {n : Nat} : (xs.map (en (α := α)))[n]? = xs[n]?.map en := List.getElem?_map
end
section
variable {P : EndsD} {p : R → Ev → Prop} {q : Bool → Ev → Prop} {u : List D → Ev → Prop} {env : Ev} {w wa : WE} {wr : WA2} {i n : Nat}
theorem y_iList : wiList w env u = w env fun r e1 => isL r.fzd fun ds => u ds e1 := rfl
theorem y_iTup : wiTup w env u = w env fun r e1 => isT r fun ds => u ds e1 := rfl
theorem y_iEnum : wiEnum wr env u = wr env fun ds e1 => isL1 ds fun ds => u (pairs ds) e1 := by
  unfold wiEnum
  congr 1
  funext ds e1
  unfold isL1 isL
  rcases ds with _ | ⟨d, _ | ⟨d2, ds⟩⟩
  · rfl
  · cases d <;> rfl
  · cases d <;> rfl
theorem y_LE : wLE w env p = w env fun r e1 => isL (r.get e1) fun ds => p (.ow (.list (pairs ds))) e1 := rfl
theorem y_rev : wRev w env p = w env fun r e1 => isL (r.get e1) fun ds => p (.ow (.list ds.reverse)) e1 := rfl
theorem y_store {g : List D → D → (List D → Prop) → Prop} : wStore i g w env p = (isOL env[i]? (fun _ _ => True) ∧ w env fun r e1 => isSome r.fzd fun d => isOL e1[i]? fun q ds => g ds d (Shut (fun ds' => p (.fz .none) (e1.set i (.ow q (.list ds')))) .mk)) := by
  have h1 : (∃ q ds, env[i]? = some (.ow q (.list ds))) = isOL env[i]? (fun _ _ => True) := by
    unfold isOL
    refine propext ⟨fun ⟨q, ds, h⟩ => by rw [h]; trivial, fun h => ?_⟩
    split at h
    · rename_i q ds e; exact ⟨q, ds, e⟩
    · exact h.elim
  unfold wStore
  rw [h1]
  congr 2
  funext r e1
  unfold isSome isOL
  cases r.fzd with
  | none => rfl
  | some d => (generalize e1[i]? = o; rcases o with _ | (_ | x | ⟨qq, x⟩) <;> (try rfl); cases x <;> rfl)
theorem y_popAt : wPopAt i w env p = (isOL env[i]? (fun _ _ => True) ∧ w env fun r e1 => isInt r fun j => isOL e1[i]? fun q ds => (-(2 ^ 63) ≤ j ∧ j < 2 ^ 63) ∧ Ex (seqIndex? j ds.length) (Shut (fun k => Ex ds[k]? (Shut (fun d => p (.fz d) (e1.set i (.ow q (.list (ds.eraseIdx k))))) .mk)) .mk)) := by
  have h1 : (∃ q ds, env[i]? = some (.ow q (.list ds))) = isOL env[i]? (fun _ _ => True) := by
    unfold isOL
    refine propext ⟨fun ⟨q, ds, h⟩ => by rw [h]; trivial, fun h => ?_⟩
    split at h
    · rename_i q ds e; exact ⟨q, ds, e⟩
    · exact h.elim
  rw [x_popAt, h1]
  congr 2
  funext r e1
  unfold isInt isOL
  rcases r with d | d | j
  · rcases d with _ | _ | j <;> (try rfl)
    (generalize e1[i]? = o; rcases o with _ | (_ | x | ⟨qq, x⟩) <;> (try rfl); cases x <;> rfl)
  · rfl
  · rfl
theorem y_insert : wInsert i wa w env p = (isOL env[i]? (fun _ _ => True) ∧ wa env fun rj e1 => w e1 fun r e2 => isInt rj fun j => isSome r.fzd fun d => isOL e2[i]? fun q ds => (ds.length < sizeLine ∧ 0 ≤ j ∧ j < 2 ^ 63) ∧ p (.fz .none) (e2.set i (.ow q (.list (ds.take j.toNat ++ [d] ++ ds.drop j.toNat))))) := by
  have h1 : (∃ q ds, env[i]? = some (.ow q (.list ds))) = isOL env[i]? (fun _ _ => True) := by
    unfold isOL
    refine propext ⟨fun ⟨q, ds, h⟩ => by rw [h]; trivial, fun h => ?_⟩
    split at h
    · rename_i q ds e; exact ⟨q, ds, e⟩
    · exact h.elim
  rw [x_insert, h1]
  congr 2
  funext rj e1
  congr 1
  funext r e2
  unfold isInt isSome isOL
  rcases rj with d | d | j
  · rcases d with _ | _ | j <;> (try (cases r.fzd <;> rfl))
    generalize r.fzd = y
    cases y with
    | none => rfl
    | some y => (generalize e2[i]? = o; rcases o with _ | (_ | x | ⟨qq, x⟩) <;> (try rfl); cases x <;> rfl)
  · cases r.fzd <;> rfl
  · cases r.fzd <;> rfl
theorem y_ext : wExt i w env p = (isOL env[i]? (fun _ _ => True) ∧ w env fun r e1 => isOwL r fun ys => isOL e1[i]? fun q ds => ds.length + ys.length ≤ sizeLine ∧ p (.fz .none) (e1.set i (.ow q (.list (ds ++ ys))))) := by
  have h1 : (∃ q ds, env[i]? = some (.ow q (.list ds))) = isOL env[i]? (fun _ _ => True) := by
    unfold isOL
    refine propext ⟨fun ⟨q, ds, h⟩ => by rw [h]; trivial, fun h => ?_⟩
    split at h
    · rename_i q ds e; exact ⟨q, ds, e⟩
    · exact h.elim
  rw [x_ext, h1]
  congr 2
  funext r e1
  unfold isOwL isOL
  rcases r with d | d | j
  · rfl
  · cases d <;> (try rfl)
    (generalize e1[i]? = o; rcases o with _ | (_ | x | ⟨qq, x⟩) <;> (try rfl); cases x <;> rfl)
  · rfl
theorem y_setIx : wSetIx i w wa P env = w env fun r e1 => isSome r.fzd fun d => wa e1 fun rj e2 => (isInt rj fun j => isOL e2[i]? fun q ds => Ex (ixN ds.length j) (Shut (fun k => P.nx (e2.set i (.ow q (.list (ds.set k d))))) .mk)) ∧ ∃ q d, e1[i]? = some (.ow q d) := by
  rw [x_setIx]
  congr 1
  funext r e1
  unfold isSome
  cases r.fzd with
  | none => rfl
  | some d =>
    show wa e1 _ = wa e1 _
    congr 1
    funext rj e2
    congr 1
    unfold isInt isOL
    rcases rj with d | d | j
    · rcases d with _ | _ | j <;> (try rfl)
      (generalize e2[i]? = o; rcases o with _ | (_ | x | ⟨qq, x⟩) <;> (try rfl); cases x <;> rfl)
    · rfl
    · rfl
end
end G

namespace G
open PySem PySem.Spec L2 TL Ty
/-! ### commands, fates, entries, forms -/
theorem ofS {a b : String} : (Str.ofString a = Str.ofString b) = (a = b) := by
  refine propext ⟨fun h => ?_, fun h => by rw [h]⟩
  rw [Str.ofString_eq_toList, Str.ofString_eq_toList] at h
  have h := congrArg (fun s : Str => s.cps.toList) h
  simp only at h
  have inj : Function.Injective Char.toNat := fun c d e => Char.ext (UInt32.toNat_inj.mp e)
  exact String.toList_inj.mp ((List.map_inj_right (fun x y e => inj e)).mp h)
inductive Ins | keep | front | back | remove
deriving DecidableEq
inductive Out | skip | front | back
deriving DecidableEq
inductive Ca | inn | out | both
deriving DecidableEq
inductive Fate | absent | untouched | front (i : Nat) | back (i : Nat)
deriving DecidableEq
structure Cm where
  nm : Nm
  ins : Ins
  out : Out
deriving DecidableEq
abbrev Ent := Nm × Ca
structure Fo where
  front : List Ent
  back : List Ent
  rem : List Nm
deriving DecidableEq
def Ins.s : Ins → Str
  | .keep => "keep" | .front => "front" | .back => "back" | .remove => "remove"
def Out.s : Out → Str
  | .skip => "skip" | .front => "front" | .back => "back"
def Ca.s : Ca → Str
  | .inn => "in" | .out => "out" | .both => "both"
instance : Ty Ins := ⟨fun a => .str a.s⟩
instance : Ty Out := ⟨fun a => .str a.s⟩
instance : Ty Ca := ⟨fun a => .str a.s⟩
instance : Ty Cm := ⟨fun c => .tuple [en c.nm, en c.ins, en c.out]⟩
instance : Ty Fate := ⟨fun f => match f with
  | .absent => .tuple [.str "absent"] | .untouched => .tuple [.str "untouched"] | .front i => .tuple [.str "front", .int i] | .back i => .tuple [.str "back", .int i]⟩
instance : Ty Fo := ⟨fun f => .tuple [eT f.front, eT f.back, eT f.rem]⟩
theorem strE_eqv {α : Type} [DecidableEq α] (s : α → Str) (h : ∀ a b, s a = s b → a = b) (a b : α) : PyData.eqv (.str (s a)) (.str (s b)) = decide (a = b) := by
  simp only [PyData.eqv]
  rw [PySem.W.beq_decide]
  exact decide_eq_decide.mpr ⟨h a b, fun e => by rw [e]⟩
theorem strOk_lit {x : String} (h : PyData.strOk x = true := by decide +kernel) : (PyData.str x).canLay0 = true := by simp only [PyData.canLay0]; exact h
instance : TyE Ins where
  lay a := by cases a <;> exact strOk_lit
  eqv := strE_eqv Ins.s fun a b h => by cases a <;> cases b <;> first | rfl | (simp only [Ins.s, ofS, String.reduceEq] at h)
  dep := 0
  deep _ := by simp only [en, PyData.depth]; exact Nat.le_refl _
instance : TyE Out where
  lay a := by cases a <;> exact strOk_lit
  eqv := strE_eqv Out.s fun a b h => by cases a <;> cases b <;> first | rfl | (simp only [Out.s, ofS, String.reduceEq] at h)
  dep := 0
  deep _ := by simp only [en, PyData.depth]; exact Nat.le_refl _
instance : TyE Ca where
  lay a := by cases a <;> exact strOk_lit
  eqv := strE_eqv Ca.s fun a b h => by cases a <;> cases b <;> first | rfl | (simp only [Ca.s, ofS, String.reduceEq] at h)
  dep := 0
  deep _ := by simp only [en, PyData.depth]; exact Nat.le_refl _
instance : TyE Cm where
  lay c := by
    show (PyData.tuple [en c.nm, en c.ins, en c.out]).canLay0 = true
    simp only [PyData.canLay0, PyData.canLayAll0, TyE.lay, Bool.and_self]
  eqv c d := by
    show PyData.eqv (.tuple [en c.nm, en c.ins, en c.out]) (.tuple [en d.nm, en d.ins, en d.out]) = _
    simp only [PyData.eqv, PyData.eqvAll, TyE.eqv, Bool.and_true, ← Bool.decide_and]
    exact decide_eq_decide.mpr (by cases c; cases d; simp)
  dep := 1
  deep c := by
    show (PyData.tuple [en c.nm, en c.ins, en c.out]).depth ≤ _
    simp only [PyData.depth, PyData.depthAll, en]
    omega
instance : TyE Fate where
  lay f := by cases f <;> (simp only [en, PyData.canLay0, PyData.canLayAll0, Bool.and_true]; decide +kernel)
  eqv f g := by
    have h1 : ∀ a b : String, decide (Str.ofString a = Str.ofString b) = decide (a = b) := fun a b => decide_eq_decide.mpr (by rw [ofS])
    have h2 : ∀ i j : Nat, ((i : Int) == (j : Int)) = decide (i = j) := fun i j => by rw [PySem.W.beq_decide]; exact decide_eq_decide.mpr Int.ofNat_inj
    cases f <;> cases g <;> (simp only [en, PyData.eqv, PyData.eqvAll, Bool.and_true, Bool.and_false, Bool.true_and, Bool.false_and, PySem.W.beq_decide (α := Str), h1, h2, String.reduceEq, decide_true, decide_false, reduceCtorEq, Fate.front.injEq, Fate.back.injEq])
  dep := 1
  deep f := by cases f <;> (simp only [en, PyData.depth, PyData.depthAll]; omega)
instance : TyE Fo where
  lay c := by
    show (PyData.tuple [en (Tu.mk c.front), en (Tu.mk c.back), en (Tu.mk c.rem)]).canLay0 = true
    simp only [PyData.canLay0, PyData.canLayAll0, TyE.lay, Bool.and_self]
  eqv c d := by
    show PyData.eqv (.tuple [en (Tu.mk c.front), en (Tu.mk c.back), en (Tu.mk c.rem)]) (.tuple [en (Tu.mk d.front), en (Tu.mk d.back), en (Tu.mk d.rem)]) = _
    simp only [PyData.eqv, PyData.eqvAll, TyE.eqv, Bool.and_true, ← Bool.decide_and]
    exact decide_eq_decide.mpr (by cases c; cases d; simp)
  dep := 3
  deep c := by
    show (PyData.tuple [en (Tu.mk c.front), en (Tu.mk c.back), en (Tu.mk c.rem)]).depth ≤ _
    simp only [PyData.depth, PyData.depthAll]
    have h1 : (en (Tu.mk c.front)).depth ≤ 2 := TyE.deep (Tu.mk c.front)
    have h2 : (en (Tu.mk c.back)).depth ≤ 2 := TyE.deep (Tu.mk c.back)
    have h3 : (en (Tu.mk c.rem)).depth ≤ 1 := TyE.deep (Tu.mk c.rem)
    omega
instance : TyQ Ins := .of
instance : TyQ Out := .of
instance : TyQ Ca := .of
instance : TyQ Cm := .of
instance : TyQ Fate := .of
instance : TyQ Fo := .of
instance : TyQ (List Cm) := .of
instance : TyQ Ent := .of
instance : TyQ (List Ent) := .of
instance : TyQ (Tu Ent) := .of
section
variable {k : R → Prop} {c : Cm} {f : Fo} {ws : WGs} {env : Ev} {h : Ev → Prop} {n : Bool} {x a b d e : Str} {i : Nat} {nm : Nm}
theorem en_keep : en Ins.keep = .str "keep" := rfl
theorem en_front : en Ins.front = .str "front" := rfl
theorem en_back : en Ins.back = .str "back" := rfl
theorem en_remove : en Ins.remove = .str "remove" := rfl
theorem en_skip : en Out.skip = .str "skip" := rfl
theorem en_ofront : en Out.front = .str "front" := rfl
theorem en_oback : en Out.back = .str "back" := rfl
theorem en_inn : en Ca.inn = .str "in" := rfl
theorem en_out : en Ca.out = .str "out" := rfl
theorem en_both : en Ca.both = .str "both" := rfl
theorem eqF_inn {c : Ca} : eqF (en c) (.str "in") k = k (.fz (.bool (decide (c = .inn)))) := eqF_e (b := Ca.inn)
theorem eqF_out {c : Ca} : eqF (en c) (.str "out") k = k (.fz (.bool (decide (c = .out)))) := eqF_e (b := Ca.out)
theorem eqF_both {c : Ca} : eqF (en c) (.str "both") k = k (.fz (.bool (decide (c = .both)))) := eqF_e (b := Ca.both)
theorem neF_inn {c : Ca} : neF (en c) (.str "in") k = k (.fz (.bool (!decide (c = .inn)))) := neF_e (b := Ca.inn)
theorem neF_out {c : Ca} : neF (en c) (.str "out") k = k (.fz (.bool (!decide (c = .out)))) := neF_e (b := Ca.out)
theorem ixC_0 : ixF (en c) (.int 0) k = k (.fz (en c.nm)) := ixF_t0
theorem ixC_1 : ixF (en c) (.int 1) k = k (.fz (en c.ins)) := ixF_t1
theorem ixC_2 : ixF (en c) (.int 2) k = k (.fz (en c.out)) := ixF_t2
theorem lenC : lenF (en c) k = k (.fz (.int 3)) := lenF_t
theorem ixO_0 : ixF (en f) (.int 0) k = k (.fz (eT f.front)) := ixF_t0
theorem ixO_1 : ixF (en f) (.int 1) k = k (.fz (eT f.back)) := ixF_t1
theorem ixO_2 : ixF (en f) (.int 2) k = k (.fz (eT f.rem)) := ixF_t2
theorem gtupC : wgTup 3 ws (en c) env h = ws [en c.nm, en c.ins, en c.out] env h := by
  show (3 = 3 ∧ _) = _
  exact propext ⟨fun h => h.2, fun h => ⟨rfl, h⟩⟩
theorem gtupO : wgTup 3 ws (en f) env h = ws [eT f.front, eT f.back, eT f.rem] env h := by
  show (3 = 3 ∧ _) = _
  exact propext ⟨fun h => h.2, fun h => ⟨rfl, h⟩⟩
theorem fate_a : PyData.tuple [.str "absent"] = en Fate.absent := rfl
theorem fate_u : PyData.tuple [.str "untouched"] = en Fate.untouched := rfl
theorem fate_f : PyData.tuple [.str "front", .int (i : Int)] = en (Fate.front i) := rfl
theorem fate_b : PyData.tuple [.str "back", .int (i : Int)] = en (Fate.back i) := rfl
theorem ent_i : PyData.tuple [en nm, .str "in"] = en ((nm, .inn) : Ent) := rfl
theorem ent_o : PyData.tuple [en nm, .str "out"] = en ((nm, .out) : Ent) := rfl
theorem ent_b : PyData.tuple [en nm, .str "both"] = en ((nm, .both) : Ent) := rfl
theorem inT_1 : inF n (.str x) (.tuple [.str a]) k = k (.fz (.bool (if n then !decide (a = x) else decide (a = x)))) := by
  show ((∀ y ∈ [PyData.str a], ∃ z, y = PyData.str z) ∧ _) = _
  rw [eq_true (p := ∀ y ∈ [PyData.str a], ∃ z, y = PyData.str z) (by simp), true_and]
  simp [inS]
theorem inT_2 : inF n (.str x) (.tuple [.str a, .str b]) k = k (.fz (.bool (if n then !(decide (a = x) || decide (b = x)) else (decide (a = x) || decide (b = x))))) := by
  show ((∀ y ∈ [PyData.str a, .str b], ∃ z, y = PyData.str z) ∧ _) = _
  rw [eq_true (p := ∀ y ∈ [PyData.str a, .str b], ∃ z, y = PyData.str z) (by simp), true_and]
  simp [inS]
theorem inT_3 : inF n (.str x) (.tuple [.str a, .str b, .str d]) k = k (.fz (.bool (if n then !(decide (a = x) || (decide (b = x) || decide (d = x))) else (decide (a = x) || (decide (b = x) || decide (d = x)))))) := by
  show ((∀ y ∈ [PyData.str a, .str b, .str d], ∃ z, y = PyData.str z) ∧ _) = _
  rw [eq_true (p := ∀ y ∈ [PyData.str a, .str b, .str d], ∃ z, y = PyData.str z) (by simp), true_and]
  simp [inS]
end
/-! the paths behind commands -/
inductive Mv | stay | front | back | gone
deriving DecidableEq
def Ins.mv : Ins → Mv
  | .keep => .stay | .front => .front | .back => .back | .remove => .gone
def Out.mv : Out → Mv
  | .skip => .stay | .front => .front | .back => .back
def but (n : Nm) (p : List Nm) : List Nm := p.filter fun x => !decide (x = n)
def mvd (p : List Nm) (n : Nm) : Mv → List Nm
  | .stay => p
  | .front => n :: but n p
  | .back => but n p ++ [n]
  | .gone => but n p
def Cm.mv (c : Cm) (p : List Nm) : Mv := if c.nm ∈ p then c.ins.mv else c.out.mv
def apl (p : List Nm) (c : Cm) : List Nm := mvd p c.nm (c.mv p)
def runs (p : List Nm) (cs : List Cm) : List Nm := cs.foldl apl p
theorem but_le {n : Nm} {p : List Nm} : (but n p).length ≤ p.length := List.length_filter_le _ _
theorem apl_le {p : List Nm} {c : Cm} : (apl p c).length ≤ p.length + 1 := by
  have := but_le (n := c.nm) (p := p)
  unfold apl mvd
  split <;> first | omega | (simp only [List.length_cons, List.length_append, List.length_nil]; omega)
theorem runs_le {cs : List Cm} : ∀ {p : List Nm}, (runs p cs).length ≤ p.length + cs.length := by
  induction cs with
  | nil => exact fun {p} => Nat.le_refl _
  | cons c cs ih =>
    intro p
    have h1 := ih (p := apl p c)
    have h2 := apl_le (p := p) (c := c)
    show (runs (apl p c) cs).length ≤ _
    rw [List.length_cons]; omega
section
variable {P : EndsD} {p : R → Ev → Prop} {wg : WG} {b : WS} {c : WT} {w we : WE} {e1 : Ev} {vs : List Nat}
theorem lc_filter {α : Type} [Ty α] {xs : List α} {t : Tg p} (pr : α → Bool) (e0 : Ev) (hl : xs.length ≤ sizeLine) (h0 : wipeE e1 vs = e0)
    (step : ∀ a ∈ xs, ∀ (Q : D → Ev → Prop) (Q0 : Ev → Prop), (pr a = true → Q (en a) e0) → (pr a = false → Q0 e0) → wg (en a) e0 fun e2 => c e2 fun k e3 => Cs k (Shut (fun k => if k = true then we e3 fun r e4 => (match r.fzd with | some x => Q x (wipeE e4 vs) | _ => False) else Q0 (wipeE e3 vs)) .mk))
    (done : p (.ow (eL (xs.filter pr))) (restE e1 e0 vs)) : LcC wg c we vs p t (xs.map en) e1 :=
  lc_e (g := fun a => a) pr e0 hl h0 step (by rw [List.map_id']; exact done)
theorem lc_map {α β : Type} [Ty β] {f : α → D} {xs : List α} {t : Tg p} (g : α → β) (e0 : Ev) (hl : xs.length ≤ sizeLine) (h0 : wipeE e1 vs = e0)
    (step : ∀ a ∈ xs, ∀ (Q : D → Ev → Prop) (Q0 : Ev → Prop), Q (en (g a)) e0 → wg (f a) e0 fun e2 => c e2 fun k e3 => Cs k (Shut (fun k => if k = true then we e3 fun r e4 => (match r.fzd with | some x => Q x (wipeE e4 vs) | _ => False) else Q0 (wipeE e3 vs)) .mk))
    (done : p (.ow (eL (xs.map g))) (restE e1 e0 vs)) : LcC wg c we vs p t (xs.map f) e1 :=
  lc_e (g := g) (fun _ => true) e0 hl h0 (fun a ha Q Q0 h1 _ => step a ha Q Q0 (h1 rfl)) (by rw [List.filter_eq_self.mpr (fun _ _ => rfl)]; exact done)
end
/-! names as typed data -/
theorem nodup_of_map {α β : Type} (f : α → β) {l : List α} (h : (l.map f).Nodup) : l.Nodup := (List.pairwise_map.mp h).imp fun k e => k (by rw [e])
theorem nms_of : ∀ {xs : List Str}, (∀ z ∈ xs, IsName z) → ∃ ys : List Nm, xs = ys.map Nm.val
  | [], _ => ⟨[], rfl⟩
  | x :: xs, h => by
    obtain ⟨ys, e⟩ := nms_of (xs := xs) fun z hz => h z (List.mem_cons_of_mem _ hz)
    exact ⟨⟨x, h x List.mem_cons_self⟩ :: ys, congrArg (x :: ·) e⟩
theorem nms_str (ys : List Nm) : PyData.list ((ys.map Nm.val).map .str) = eL ys := by unfold eL; rw [List.map_map]; rfl
theorem nms_in {ys : List Nm} : ∀ {xs : List Str}, (∀ z ∈ xs, z ∈ ys.map Nm.val) → ∃ zs : List Nm, xs = zs.map Nm.val ∧ ∀ z ∈ zs, z ∈ ys
  | [], _ => ⟨[], rfl, by simp⟩
  | x :: xs, h => by
    obtain ⟨zs, e, k⟩ := nms_in (xs := xs) fun z hz => h z (List.mem_cons_of_mem _ hz)
    obtain ⟨y, hy, e2⟩ := List.mem_map.mp (h x List.mem_cons_self)
    exact ⟨y :: zs, by rw [e, ← e2]; rfl, by simpa using ⟨hy, k⟩⟩
theorem ix_2 {x y : Nat} {p : Prop} {dp : Decidable p} {k : R → Prop} (h : ∀ n : Nat, (n = x ∨ n = y) → k (.fz (.int n))) : ixF (.list [.int (x : Int), .int (y : Int)]) (.int (if p then 1 else 0)) k := by
  by_cases c : p
  · rw [if_pos c, ixF_1]; exact h _ (.inr rfl)
  · rw [if_neg c, ixF_0]; exact h _ (.inl rfl)
theorem cutA_sub {α : Type} {xs : List α} {lo hi : Option Int} {x : α} (h : x ∈ cutA xs lo hi) : x ∈ xs := List.mem_of_mem_drop (List.mem_of_mem_take h)
theorem cutA_sl {α : Type} {xs : List α} {lo hi : Option Int} : (cutA xs lo hi).Sublist xs := .trans (List.take_sublist _ _) (List.drop_sublist _ _)
theorem cutA_le {α : Type} {xs : List α} {lo hi : Option Int} : (cutA xs lo hi).length ≤ xs.length := cutA_sl.length_le
theorem intb {p : Prop} {dp : Decidable p} : (if (decide p) = true then (1 : Int) else 0) = if p then 1 else 0 := by
  by_cases c : p <;> simp [c]
end G

namespace G
open PySem PySem.Spec L2 TL Ty
/-! ### reprs of typed data; lists of two -/
def Shw (d : D) : Prop := d.showable = true ∧ SeqAt.shaped d = true ∧ d.shown.length ≤ sizeLine
theorem shl_nm (n : Nm) : Shl (en n) 122 := (shl_str n.property.ok).le (by have := n.property.2.1; omega)
theorem shl_lit {x : String} {n : Nat} (h : (PyData.str x).shown.length ≤ n := by decide +kernel) : Shl (.str x) n := ⟨by simp only [PyData.showable], h⟩
theorem shl_ins (a : Ins) : Shl (en a) 20 := by cases a <;> exact shl_lit
theorem shl_outs (a : Out) : Shl (en a) 20 := by cases a <;> exact shl_lit
theorem shl_ca (a : Ca) : Shl (en a) 20 := by cases a <;> exact shl_lit
theorem shl_cm (c : Cm) : Shl (en c) 380 := by
  refine (shl_tup (ds := [en c.nm, en c.ins, en c.out]) (n := 122) fun d hd => ?_).le (by simp only [List.length_cons, List.length_nil]; omega)
  simp only [List.mem_cons, List.not_mem_nil, or_false] at hd
  rcases hd with rfl | rfl | rfl
  · exact shl_nm _
  · exact (shl_ins _).le (by decide)
  · exact (shl_outs _).le (by decide)
theorem shl_ent (e : Ent) : Shl (en e) 260 := by
  refine (shl_tup (ds := [en e.1, en e.2]) (n := 122) fun d hd => ?_).le (by simp only [List.length_cons, List.length_nil]; omega)
  simp only [List.mem_cons, List.not_mem_nil, or_false] at hd
  rcases hd with rfl | rfl
  · exact shl_nm _
  · exact (shl_ca _).le (by decide)
section
variable {α β : Type} [Ty α] [Ty β]
theorem shl_eL {xs : List α} {n : Nat} (h : ∀ a ∈ xs, Shl (en a) n) : Shl (eL xs) (xs.length * (n + 2) + 2) := by
  have := shl_list (ds := xs.map en) (n := n) fun d hd => by
    obtain ⟨a, ha, rfl⟩ := List.mem_map.mp hd; exact h a ha
  rw [List.length_map] at this
  exact this
theorem shl_eT {xs : List α} {n : Nat} (h : ∀ a ∈ xs, Shl (en a) n) : Shl (eT xs) (xs.length * (n + 2) + 3) := by
  have := shl_tup (ds := xs.map en) (n := n) fun d hd => by
    obtain ⟨a, ha, rfl⟩ := List.mem_map.mp hd; exact h a ha
  rw [List.length_map] at this
  exact this
end
theorem Shl.shw {d : D} {n : Nat} (h : Shl d n) (hn : n ≤ 16000000) (s : SeqAt.shaped d = true) : Shw d := ⟨h.1, s, Nat.le_trans h.2 (Nat.le_trans hn (by decide))⟩
theorem shw_nms {p : List Nm} (h : p.length ≤ 100000) : Shw (eL p) := (shl_eL fun a _ => shl_nm a).shw (by omega) (TyQ.sh (α := List Nm) p)
theorem shw_cms {p : List Cm} (h : p.length ≤ 10000) : Shw (eL p) := (shl_eL fun a _ => shl_cm a).shw (by omega) (TyQ.sh (α := List Cm) p)
theorem shw_ents {p : List Ent} (h : p.length ≤ 10000) : Shw (eT p) := (shl_eT fun a _ => shl_ent a).shw (by omega) (TyQ.sh (α := Tu Ent) ⟨p⟩)
theorem shl_fo {f : Fo} {n : Nat} (h : f.front.length ≤ n ∧ f.back.length ≤ n ∧ f.rem.length ≤ n) : Shl (en f) ((n * 262 + 5) * 3 + 3) := by
  refine (shl_tup (ds := [eT f.front, eT f.back, eT f.rem]) (n := n * 262 + 3) fun d hd => ?_).le ?_
  · simp only [List.mem_cons, List.not_mem_nil, or_false] at hd
    have h1 := Nat.mul_le_mul_right 262 h.1
    have h2 := Nat.mul_le_mul_right 262 h.2.1
    have h3 := Nat.mul_le_mul_right 262 h.2.2
    rcases hd with rfl | rfl | rfl
    · exact (shl_eT fun a _ => shl_ent a).le (by omega)
    · exact (shl_eT fun a _ => shl_ent a).le (by omega)
    · exact (shl_eT fun a _ => (shl_nm a).le (by omega : 122 ≤ 260)).le (by omega)
  · simp only [List.length_cons, List.length_nil]; omega
theorem shw_fo {f : Fo} {n : Nat} (h : f.front.length ≤ n ∧ f.back.length ≤ n ∧ f.rem.length ≤ n) (hn : n ≤ 10000) : Shw (en f) := (shl_fo h).shw (by omega) (TyQ.sh f)
/-- [x, y] -/
theorem ll_eqv {α β : Type} [DecidableEq α] [Ty α] [TyQ α] [DecidableEq β] [Ty β] [TyQ β] (a c : α) (b d : β) : PyData.eqv (.list [en a, en b]) (.list [en c, en d]) = decide (a = c ∧ b = d) := by
  simp only [PyData.eqv, PyData.eqvAll, TyQ.eqv, Bool.and_true, Bool.decide_and]
theorem ll_shaped {α β : Type} [DecidableEq α] [Ty α] [TyE α] [DecidableEq β] [Ty β] [TyE β] {a : α} {b : β} (h : TyE.dep α ≤ 63 := by decide) (h' : TyE.dep β ≤ 63 := by decide) : SeqAt.shaped (.list [en a, en b]) = true := by
  unfold SeqAt.shaped
  have e : (PyData.list [en a, en b]).canLay0 = true := by simp only [PyData.canLay0, PyData.canLayAll0, TyE.lay, Bool.and_self]
  rw [e, Bool.true_and, decide_eq_true_eq]
  simp only [PyData.depth, PyData.depthAll]
  have := TyE.deep a
  have := TyE.deep b
  omega
theorem ne_ll {α β : Type} [DecidableEq α] [Ty α] [TyE α] [TyQ α] [DecidableEq β] [Ty β] [TyE β] [TyQ β] {a : α} {b : β} {k : R → Prop} (q : k (.fz (.bool false))) (h : TyE.dep α ≤ 63 := by decide) (h' : TyE.dep β ≤ 63 := by decide) : neF (.list [en a, en b]) (.list [en a, en b]) k := by
  refine ⟨⟨ll_shaped h h', ll_shaped h h'⟩, ?_⟩
  rw [ll_eqv]
  simpa using q
theorem ne_LL {α β : Type} [DecidableEq α] [Ty α] [TyE α] [TyQ (List α)] [DecidableEq β] [Ty β] [TyE β] [TyQ (List β)] {a : List α} {b : List β} {k : R → Prop} (q : k (.fz (.bool false))) (h : TyE.dep α ≤ 62 := by decide) (h' : TyE.dep β ≤ 62 := by decide) : neF (.list [eL a, eL b]) (.list [eL a, eL b]) k := ne_ll (α := List α) (β := List β) q (Nat.succ_le_succ h) (Nat.succ_le_succ h')
theorem sl0 : (0 ≤ sizeLine) = True := eq_true (by decide)
theorem sl1 : (0+1 ≤ sizeLine) = True := eq_true (by decide)
theorem sl2 : (0+1+1 ≤ sizeLine) = True := eq_true (by decide)
theorem sl3 : (0+1+1+1 ≤ sizeLine) = True := eq_true (by decide)
theorem sl4 : (0+1+1+1+1 ≤ sizeLine) = True := eq_true (by decide)
theorem sl5 : (0+1+1+1+1+1 ≤ sizeLine) = True := eq_true (by decide)
theorem sl6 : (0+1+1+1+1+1+1 ≤ sizeLine) = True := eq_true (by decide)
theorem sl7 : (0+1+1+1+1+1+1+1 ≤ sizeLine) = True := eq_true (by decide)
theorem sl8 : (0+1+1+1+1+1+1+1+1 ≤ sizeLine) = True := eq_true (by decide)
theorem sl9 : (0+1+1+1+1+1+1+1+1+1 ≤ sizeLine) = True := eq_true (by decide)
theorem sl10 : (0+1+1+1+1+1+1+1+1+1+1 ≤ sizeLine) = True := eq_true (by decide)
theorem sl11 : (0+1+1+1+1+1+1+1+1+1+1+1 ≤ sizeLine) = True := eq_true (by decide)
theorem sl12 : (0+1+1+1+1+1+1+1+1+1+1+1+1 ≤ sizeLine) = True := eq_true (by decide)
theorem ll_same {α β : Type} [DecidableEq α] [Ty α] [TyE α] [TyQ (List α)] [DecidableEq β] [Ty β] [TyE β] [TyQ (List β)] (a : List α) (b : List β) {f : Bool → Prop} (q : f false) (h : TyE.dep α ≤ 62 := by decide) (h' : TyE.dep β ≤ 62 := by decide) :
    SeqAt.shaped (.list [eL a, eL b]) = true ∧ Cs (!(PyData.list [eL a, eL b]).eqv (.list [eL a, eL b])) f := by
  refine ⟨ll_shaped (α := List α) (β := List β) (Nat.succ_le_succ h) (Nat.succ_le_succ h'), ?_⟩
  have : PyData.eqv (.list [eL a, eL b]) (.list [eL a, eL b]) = true := (ll_eqv (α := List α) (β := List β) a a b b).trans (by simp)
  rw [this]; exact q
end G

namespace G
open PySem PySem.Spec L2 TL Ty
/-! ### sorted(xs) -/
section
variable {X : Cx} {K : PySem.W.Frag}
abbrev sortD (ds : List D) : List D := ds.mergeSort (PySem.W.dataLe false fun d => d)
def SortC (ds : List D) : Prop := (∀ d ∈ ds, d.hasDict = false ∧ d.depth ≤ 64) ∧ PySem.W.AllAlike ds ∧ PySem.W.Sortable ds
def rSortD (K : PySem.W.Frag) : List V → Hp → VK → Prop := fun vs H Q => ∃ (a : Addr) (xs : List V) (ds : List D), vs = [V.ref a] ∧ SqL K H a xs ∧ Reps K H xs ds ∧ SortC ds ∧
  ∀ ys p, (∀ {Hz : Hp}, Reps K Hz xs ds → Reps K Hz ys (sortD ds)) → H p = none → Q (.ref p) (upd H p (.lst ys))
theorem reps_each {Hz : Hp} : ∀ {xs : List V} {ds : List D}, Reps K Hz xs ds → ∀ b ∈ xs.zip ds, Rep K Hz b.1 b.2
  | _, _, .nil, b, h => by simp at h
  | _, _, .cons h r, b, hb => by
    rw [List.zip_cons_cons] at hb
    rcases List.mem_cons.mp hb with e | hb
    · rw [e]; exact h
    · exact reps_each r b hb
theorem reps_of {Hz : Hp} : ∀ {bs : List (V × D)}, (∀ b ∈ bs, Rep K Hz b.1 b.2) → Reps K Hz (bs.map (·.1)) (bs.map (·.2))
  | [], _ => .nil
  | b :: bs, h => .cons (h b List.mem_cons_self) (reps_of fun c hc => h c (List.mem_cons_of_mem _ hc))
theorem zip_snd {xs : List V} {ds : List D} (h : xs.length = ds.length) : (xs.zip ds).map (·.2) = ds := List.map_snd_zip (by omega)
theorem each_zip {R : Value → V × D → Prop} : ∀ {us : List Value} {xs : List V} {ds : List D}, Vals xs us → xs.length = ds.length → (∀ u b, b ∈ xs.zip ds → RelV b.1 u → R u b) → PySem.W.EachIs R us (xs.zip ds)
  | [], [], [], _, _, _ => .nil
  | _ :: _, _ :: _, _ :: _, .cons r1 r2, hl, h => .cons (h _ _ List.mem_cons_self r1) (each_zip r2 (by simpa using hl) fun u b hb => h u b (List.mem_cons_of_mem _ hb))
theorem each_vals : ∀ {us : List Value} {bs : List (V × D)}, PySem.W.EachIs (fun u b => RelV b.1 u) us bs → Vals (bs.map (·.1)) us
  | [], [], _ => .nil
  | _ :: _, _ :: _, .cons h r => .cons h (each_vals r)
set_option maxHeartbeats 1000000 in
theorem call_sortD (hu : X.A.units + 80 < cLine) : CallR X (.builtin "sorted") (rSortD X.K) := by
  intro pins s σ H vs us Q I r h
  obtain ⟨a, xs, ds, rfl, hs, rp, ⟨hd, hal, hk⟩, q⟩ := h
  obtain ⟨its, rv, hl, hz⟩ := I.list hs
  rw [Vals.ref1 r]
  have hlen := rp.len
  have e2 := zip_snd hlen
  have hb : ∀ b ∈ xs.zip ds, b.2 ∈ ds := fun b hb => (List.of_mem_zip hb).2
  refine PySem.W.sorted_data (vs := its) (bs := xs.zip ds) (enc := (·.2)) (R := fun u b => RelV b.1 u) hl.isList (each_zip rv hlen fun u b hb h => h) (each_zip rv hlen fun u b hb' h => ?_) (by rw [e2]; exact hal) (by rw [e2]; exact hk) (by rw [List.length_zip]; omega) (fun b hb' => ?_) fun out hol he => ?_
  · exact Dp.reads I b.2 b.1 u ((reps_each rp b hb').dp (hd _ (hb b hb')).1) h
  · have := (hd _ (hb b hb')).2
    omega
  · obtain ⟨ep, he'⟩ := PyProof.Rows.sortedAll_at s.heap its out.toArray
    generalize hbs : (xs.zip ds).mergeSort (PySem.W.dataLe false (·.2)) = bs at he
    have hlb : (bs.map (·.1)).length ≤ sizeLine := by
      rw [List.length_map, ← hbs, List.length_mergeSort, List.length_zip]; omega
    refine ⟨.ref _, upd H (s.heap.objs.size + 1) (.lst (bs.map (·.1))), I.laid (t' := s.toks) (fun _ _ => PyProof.Rows.sortedAll_old) (Nat.le_succ _) ⟨hlb, out, ep, each_vals he, he'⟩, rfl, q _ _ (fun {Hz} rz => ?_) (I.hok.fresh (Nat.le_succ _))⟩
    have es : sortD ds = bs.map (·.2) := by
      rw [← hbs]
      have := PySem.W.sort_maps (r := PySem.W.dataLe false (·.2)) (s := PySem.W.dataLe false fun d => d) (fun b : V × D => b.2) (l := xs.zip ds) fun _ _ _ _ => rfl
      rw [this, e2]
    rw [es]
    refine reps_of fun b hb => reps_each rz b ?_
    rw [← hbs] at hb
    exact (List.mergeSort_perm _ _).mem_iff.mp hb
def sortF : F1 := fun d k => match d with
  | .list ds => SortC ds ∧ k (.ow (.list (sortD ds)))
  | _ => False
theorem sc_sort : SC1 K (rSortD K) sortF := by
  intro env σ Hz H x dx P Q s tx h q
  unfold sortF at h
  split at h
  · rename_i ds
    obtain ⟨a, xs, rfl, hx, r⟩ := tx.list s.sub
    refine ⟨a, xs, ds, rfl, hx, r.mono s.sub, h.1, fun ys p hy hp => ?_⟩
    obtain ⟨s2, g2, r2⟩ := new_ow (d := .list _) (o := .lst ys) s hp (hy r)
    exact q _ _ _ _ h.2 s2 g2 r2
  · exact h.elim
end
/-- data in order -/
class TyO (α : Type) [DecidableEq α] [Ty α] where
  lt : α → α → Bool
  alike : ∀ a b : α, PySem.W.alike (en a) (en b) = true
  lt_eq : ∀ a b : α, PySem.W.dataLt (en a) (en b) = lt a b
/-- .. of one kind, tuples or none -/
class TyS (α : Type) [Ty α] : Prop where
  kind : (∀ a : α, ∃ x r, en a = .tuple (x :: r)) ∨ ∀ a : α, en a ≠ .none ∧ ∀ xs, en a ≠ .tuple xs
def srt {α : Type} [DecidableEq α] [Ty α] [TyO α] (xs : List α) : List α := xs.mergeSort fun a b => !TyO.lt b a
theorem sortF_e {α : Type} [DecidableEq α] [Ty α] [TyO α] [TyS α] [TyQ α] {xs : List α} {k : R → Prop} : sortF (eL xs) k = k (.ow (eL (srt xs))) := by
  show (SortC (xs.map en) ∧ k (.ow (.list (sortD (xs.map en))))) = _
  have h1 : SortC (xs.map (en (α := α))) := by
    refine ⟨fun d hd => ?_, PySem.W.AllAlike.of TyO.alike, ?_⟩
    · obtain ⟨a, _, rfl⟩ := List.mem_map.mp hd
      exact ⟨PyData.hasDict_of_canLay _ (SeqAt.canLay_of_shaped (TyQ.sh a)), SeqAt.depth_of_shaped (TyQ.sh a)⟩
    · rcases TyS.kind (α := α) with h | h
      · exact PySem.W.Sortable.tuples h
      · exact PySem.W.Sortable.others h
  have h2 : sortD (xs.map en) = (srt xs).map en := by
    unfold srt
    exact (PySem.W.sort_maps (r := fun a b => !TyO.lt b a) (s := PySem.W.dataLe false fun d => d) (en (α := α)) (l := xs) fun a _ b _ => by
      rw [PySem.W.dataLe_eq]
      show (!TyO.lt b a) = !PySem.W.dataLt (en b) (en a)
      rw [TyO.lt_eq]).symm
  rw [h2, eq_true h1, true_and]; rfl
end G

namespace G
open PySem PySem.Spec L2 TL Ty
/-! ### flat tuples, orders -/
structure T3 (α β γ : Type) where
  a : α
  b : β
  c : γ
deriving DecidableEq
structure T4 (α β γ δ : Type) where
  a : α
  b : β
  c : γ
  d : δ
deriving DecidableEq
section
variable {α β γ δ : Type}
instance [Ty α] [Ty β] [Ty γ] : Ty (T3 α β γ) := ⟨fun t => .tuple [en t.a, en t.b, en t.c]⟩
instance [Ty α] [Ty β] [Ty γ] [Ty δ] : Ty (T4 α β γ δ) := ⟨fun t => .tuple [en t.a, en t.b, en t.c, en t.d]⟩
variable [DecidableEq α] [DecidableEq β] [DecidableEq γ] [DecidableEq δ] [Ty α] [Ty β] [Ty γ] [Ty δ]
instance [TyE α] [TyE β] [TyE γ] : TyE (T3 α β γ) where
  lay t := by
    show (PyData.tuple [en t.a, en t.b, en t.c]).canLay0 = true
    simp only [PyData.canLay0, PyData.canLayAll0, TyE.lay, Bool.and_self]
  eqv t u := by
    show PyData.eqv (.tuple [en t.a, en t.b, en t.c]) (.tuple [en u.a, en u.b, en u.c]) = _
    simp only [PyData.eqv, PyData.eqvAll, TyE.eqv, Bool.and_true, ← Bool.decide_and]
    exact decide_eq_decide.mpr (by cases t; cases u; simp)
  dep := max (max (TyE.dep α) (TyE.dep β)) (TyE.dep γ) + 1
  deep t := by
    show (PyData.tuple [en t.a, en t.b, en t.c]).depth ≤ _
    simp only [PyData.depth, PyData.depthAll]
    have := TyE.deep t.a
    have := TyE.deep t.b
    have := TyE.deep t.c
    omega
instance [TyE α] [TyE β] [TyE γ] [TyE δ] : TyE (T4 α β γ δ) where
  lay t := by
    show (PyData.tuple [en t.a, en t.b, en t.c, en t.d]).canLay0 = true
    simp only [PyData.canLay0, PyData.canLayAll0, TyE.lay, Bool.and_self]
  eqv t u := by
    show PyData.eqv (.tuple [en t.a, en t.b, en t.c, en t.d]) (.tuple [en u.a, en u.b, en u.c, en u.d]) = _
    simp only [PyData.eqv, PyData.eqvAll, TyE.eqv, Bool.and_true, ← Bool.decide_and]
    exact decide_eq_decide.mpr (by cases t; cases u; simp)
  dep := max (max (max (TyE.dep α) (TyE.dep β)) (TyE.dep γ)) (TyE.dep δ) + 1
  deep t := by
    show (PyData.tuple [en t.a, en t.b, en t.c, en t.d]).depth ≤ _
    simp only [PyData.depth, PyData.depthAll]
    have := TyE.deep t.a
    have := TyE.deep t.b
    have := TyE.deep t.c
    have := TyE.deep t.d
    omega
instance : TyS (α × β) := ⟨.inl fun p => ⟨_, _, rfl⟩⟩
instance : TyS (T3 α β γ) := ⟨.inl fun p => ⟨_, _, rfl⟩⟩
instance : TyS (T4 α β γ δ) := ⟨.inl fun p => ⟨_, _, rfl⟩⟩
instance : TyS (List α) := ⟨.inr fun p => by show PyData.list (p.map en) ≠ .none ∧ ∀ xs, PyData.list (p.map en) ≠ .tuple xs; simp⟩
instance : TyS Nm := ⟨.inr fun p => by show PyData.str p.val ≠ .none ∧ ∀ xs, PyData.str p.val ≠ .tuple xs; simp⟩
instance : TyS Nat := ⟨.inr fun p => by show PyData.int p ≠ .none ∧ ∀ xs, PyData.int p ≠ .tuple xs; simp⟩
instance : TyO Nm where
  lt a b := decide (a.val.cps.toList < b.val.cps.toList)
  alike a b := by simp only [en, PySem.W.alike]
  lt_eq a b := PySem.W.dataLt_str a.val b.val
instance : TyO Nat where
  lt a b := decide (a < b)
  alike a b := by simp only [en, PySem.W.alike]
  lt_eq a b := (PySem.W.dataLt_int a b).trans (decide_eq_decide.mpr Int.ofNat_lt)
instance : TyO Ca where
  lt a b := decide (a.s.cps.toList < b.s.cps.toList)
  alike a b := by simp only [en, PySem.W.alike]
  lt_eq a b := PySem.W.dataLt_str a.s b.s
variable [TyE α] [TyE β] [TyE γ] [TyE δ] [TyO α] [TyO β] [TyO γ] [TyO δ]
theorem row_cons {x y : α} {xs ys : List D} : PyProof.Rows.lexLt PyProof.Rows.itemOrd (PySem.W.keyToksAll (en x :: xs)) (PySem.W.keyToksAll (en y :: ys)) = if x = y then PyProof.Rows.lexLt PyProof.Rows.itemOrd (PySem.W.keyToksAll xs) (PySem.W.keyToksAll ys) else TyO.lt x y := by
  rw [PySem.W.dataLt_cons (TyO.alike x y), TyE.eqv, TyO.lt_eq]
  by_cases c : x = y
  · rw [if_pos c, if_pos (decide_eq_true c)]
  · rw [if_neg c, if_neg (by rw [decide_eq_false c]; simp)]
theorem row_nil : PyProof.Rows.lexLt PyProof.Rows.itemOrd (PySem.W.keyToksAll []) (PySem.W.keyToksAll []) = false := PyProof.Rows.lex_irrefl _
instance : TyO (α × β) where
  lt p q := if p.1 = q.1 then (if p.2 = q.2 then false else TyO.lt p.2 q.2) else TyO.lt p.1 q.1
  alike p q := by
    show PySem.W.alike (.tuple [en p.1, en p.2]) (.tuple [en q.1, en q.2]) = true
    simp only [PySem.W.alike, PySem.W.alikeAll, TyO.alike, Bool.and_self]
  lt_eq p q := by
    show PySem.W.dataLt (.tuple [en p.1, en p.2]) (.tuple [en q.1, en q.2]) = _
    rw [PySem.W.dataLt_tuple, row_cons, row_cons, row_nil]
instance : TyO (T3 α β γ) where
  lt p q := if p.a = q.a then (if p.b = q.b then (if p.c = q.c then false else TyO.lt p.c q.c) else TyO.lt p.b q.b) else TyO.lt p.a q.a
  alike p q := by
    show PySem.W.alike (.tuple [en p.a, en p.b, en p.c]) (.tuple [en q.a, en q.b, en q.c]) = true
    simp only [PySem.W.alike, PySem.W.alikeAll, TyO.alike, Bool.and_self]
  lt_eq p q := by
    show PySem.W.dataLt (.tuple [en p.a, en p.b, en p.c]) (.tuple [en q.a, en q.b, en q.c]) = _
    rw [PySem.W.dataLt_tuple, row_cons, row_cons, row_cons, row_nil]
instance : TyO (T4 α β γ δ) where
  lt p q := if p.a = q.a then (if p.b = q.b then (if p.c = q.c then (if p.d = q.d then false else TyO.lt p.d q.d) else TyO.lt p.c q.c) else TyO.lt p.b q.b) else TyO.lt p.a q.a
  alike p q := by
    show PySem.W.alike (.tuple [en p.a, en p.b, en p.c, en p.d]) (.tuple [en q.a, en q.b, en q.c, en q.d]) = true
    simp only [PySem.W.alike, PySem.W.alikeAll, TyO.alike, Bool.and_self]
  lt_eq p q := by
    show PySem.W.dataLt (.tuple [en p.a, en p.b, en p.c, en p.d]) (.tuple [en q.a, en q.b, en q.c, en q.d]) = _
    rw [PySem.W.dataLt_tuple, row_cons, row_cons, row_cons, row_cons, row_nil]
def ltL : List α → List α → Bool
  | [], [] => false
  | [], _ :: _ => true
  | _ :: _, [] => false
  | x :: xs, y :: ys => if x = y then ltL xs ys else TyO.lt x y
theorem alikeL : ∀ xs ys : List α, PySem.W.alikeAll (xs.map en) (ys.map en) = true
  | [], _ => by rw [List.map_nil, PySem.W.alikeAll]
  | _ :: _, [] => by rw [List.map_nil, List.map_cons, PySem.W.alikeAll]
  | x :: xs, y :: ys => by rw [List.map_cons, List.map_cons, PySem.W.alikeAll, TyO.alike, alikeL xs ys]; rfl
theorem rowL : ∀ xs ys : List α, PyProof.Rows.lexLt PyProof.Rows.itemOrd (PySem.W.keyToksAll (xs.map en)) (PySem.W.keyToksAll (ys.map en)) = ltL xs ys
  | [], [] => row_nil
  | [], y :: ys => by
    rw [List.map_nil, List.map_cons, PySem.W.toks_all_cons]
    simp only [PySem.W.keyToksAll]
    rw [PyProof.Rows.lex_diff (O := PyProof.Rows.itemOrd) (by simp)]
    rfl
  | x :: xs, [] => by
    rw [List.map_nil, List.map_cons, PySem.W.toks_all_cons]
    simp only [PySem.W.keyToksAll]
    rw [PyProof.Rows.lex_diff (O := PyProof.Rows.itemOrd) (by simp)]
    rfl
  | x :: xs, y :: ys => by
    rw [List.map_cons, List.map_cons, row_cons, rowL xs ys]; rfl
instance : TyO (List α) where
  lt := ltL
  alike xs ys := by show PySem.W.alike (.list (xs.map en)) (.list (ys.map en)) = true; simp only [PySem.W.alike]; exact alikeL xs ys
  lt_eq xs ys := by show PySem.W.dataLt (.list (xs.map en)) (.list (ys.map en)) = _; rw [PySem.W.dataLt_list, rowL]
end
/-- a strict order of all -/
class TyL (α : Type) [DecidableEq α] [Ty α] [TyO α] : Prop where
  tr : ∀ {a b c : α}, TyO.lt a b = true → TyO.lt b c = true → TyO.lt a c = true
  irr : ∀ a : α, TyO.lt a a = false
  tri : ∀ {a b : α}, a ≠ b → TyO.lt a b = true ∨ TyO.lt b a = true
instance : TyL Nat where
  tr h1 h2 := decide_eq_true (Nat.lt_trans (of_decide_eq_true h1) (of_decide_eq_true h2))
  irr a := decide_eq_false (Nat.lt_irrefl a)
  tri {a b} h := by rcases Nat.lt_or_gt_of_ne h with h | h<;> first | exact .inl (decide_eq_true h) | exact .inr (decide_eq_true h)
theorem strL_tri {a b : Str} (h : a ≠ b) : a.cps.toList < b.cps.toList ∨ b.cps.toList < a.cps.toList := by
  have h' : a.cps.toList ≠ b.cps.toList := fun e => h (by cases a; cases b; simp_all [Array.toList_inj])
  by_cases h1 : a.cps.toList < b.cps.toList
  · exact .inl h1
  · by_cases h2 : b.cps.toList < a.cps.toList
    · exact .inr h2
    · exact absurd (List.le_antisymm (as := a.cps.toList) (bs := b.cps.toList) h2 h1) h'
instance : TyL Nm where
  tr h1 h2 := decide_eq_true (List.lt_trans (of_decide_eq_true h1) (of_decide_eq_true h2))
  irr a := decide_eq_false (List.lt_irrefl _)
  tri {a b} h := by
    rcases strL_tri (a := a.val) (b := b.val) (fun e => h (Nm.ext_iff.mpr e)) with h | h
    · exact .inl (decide_eq_true h)
    · exact .inr (decide_eq_true h)
instance : TyL Ca where
  tr h1 h2 := decide_eq_true (List.lt_trans (of_decide_eq_true h1) (of_decide_eq_true h2))
  irr a := decide_eq_false (List.lt_irrefl _)
  tri {a b} h := by
    rcases strL_tri (a := a.s) (b := b.s) (fun e => h (by cases a <;> cases b <;> first | rfl | (simp only [Ca.s, ofS, String.reduceEq] at e))) with h | h
    · exact .inl (decide_eq_true h)
    · exact .inr (decide_eq_true h)
end G

namespace G
open PySem PySem.Spec L2 TL Ty
/-! ### sorting, as lists -/
section
variable {α β γ δ : Type} [DecidableEq α] [DecidableEq β] [DecidableEq γ] [DecidableEq δ] [Ty α] [Ty β] [Ty γ] [Ty δ] [TyO α] [TyO β] [TyO γ] [TyO δ]
def Lt (a b : α) : Prop := TyO.lt a b = true
section
variable [TyL α]
theorem lt_as {a b : α} (h : TyO.lt a b = true) : TyO.lt b a = false := by
  cases e : TyO.lt b a with
  | false => rfl
  | true => have := TyL.tr h e; rw [TyL.irr] at this; cases this
theorem lt_ne {a b : α} (h : TyO.lt a b = true) : a ≠ b := fun e => by rw [e, TyL.irr] at h; cases h
theorem le_total : PySem.W.TotalLe fun a b : α => !TyO.lt b a := by
  refine ⟨fun a b c h1 h2 => ?_, fun a b => ?_⟩
  · simp only [Bool.not_eq_true'] at h1 h2 ⊢
    cases e : TyO.lt c a with
    | false => rfl
    | true =>
      by_cases k : b = a
      · subst k; rw [e] at h2; cases h2
      · rcases TyL.tri k with k | k
        · rw [k] at h1; cases h1
        · have := TyL.tr e k; rw [this] at h2; cases h2
  · simp only [Bool.not_eq_true']
    cases e : TyO.lt a b with
    | false => exact .inr rfl
    | true => exact .inl (lt_as e)
theorem srt_perm (xs : List α) : (srt xs).Perm xs := List.mergeSort_perm _ _
theorem mem_srt {xs : List α} {a : α} : a ∈ srt xs ↔ a ∈ xs := (srt_perm xs).mem_iff
theorem srt_len (xs : List α) : (srt xs).length = xs.length := (srt_perm xs).length_eq
theorem srt_pw (xs : List α) : (srt xs).Pairwise fun a b => TyO.lt b a = false := (PySem.W.sort_pairwise le_total xs).imp fun h => by simpa using h
theorem srt_lt {xs : List α} (h : xs.Nodup) : (srt xs).Pairwise Lt := by
  have h1 := srt_pw xs
  have h2 : (srt xs).Nodup := (srt_perm xs).nodup_iff.mpr h
  exact (List.pairwise_and_iff.mpr ⟨h1, h2⟩).imp fun {a b} ⟨k1, k2⟩ => (TyL.tri k2).elim id fun k => by rw [k1] at k; cases k
theorem lt_uniq : ∀ {xs ys : List α}, xs.Pairwise Lt → ys.Pairwise Lt → (∀ a, a ∈ xs ↔ a ∈ ys) → xs = ys
  | [], [], _, _, _ => rfl
  | [], y :: ys, _, _, h => absurd ((h y).mpr List.mem_cons_self) (by simp)
  | x :: xs, [], _, _, h => absurd ((h x).mp List.mem_cons_self) (by simp)
  | x :: xs, y :: ys, h1, h2, h => by
    obtain ⟨x1, x2⟩ := List.pairwise_cons.mp h1
    obtain ⟨y1, y2⟩ := List.pairwise_cons.mp h2
    have e : x = y := by
      rcases List.mem_cons.mp ((h x).mp List.mem_cons_self) with e | e
      · exact e
      · rcases List.mem_cons.mp ((h y).mpr List.mem_cons_self) with e' | e'
        · exact e'.symm
        · have a := y1 x e
          have b := x1 y e'
          have := lt_as a
          rw [show TyO.lt x y = true from b] at this; cases this
    subst e
    rw [lt_uniq x2 y2 fun a => ?_]
    constructor
    · intro ha
      rcases List.mem_cons.mp ((h a).mp (List.mem_cons_of_mem _ ha)) with e | e
      · subst e; exact absurd rfl (lt_ne (x1 a ha))
      · exact e
    · intro ha
      rcases List.mem_cons.mp ((h a).mpr (List.mem_cons_of_mem _ ha)) with e | e
      · subst e; exact absurd rfl (lt_ne (y1 a ha))
      · exact e
theorem pw_nodup {xs : List α} (h : xs.Pairwise Lt) : xs.Nodup := h.imp fun k => lt_ne k
theorem srt_uniq {xs ys : List α} (h : xs.Nodup) (h1 : ys.Pairwise Lt) (h2 : ∀ a, a ∈ ys ↔ a ∈ xs) : srt xs = ys := lt_uniq (srt_lt h) h1 fun a => mem_srt.trans (h2 a).symm
theorem srt_self {xs : List α} (h : xs.Pairwise Lt) : srt xs = xs := srt_uniq (pw_nodup h) h fun _ => .rfl
theorem srt_congr {xs ys : List α} (h : xs.Perm ys) : srt xs = srt ys := by
  have h1 := srt_pw xs
  have h2 := srt_pw ys
  have hp : (srt xs).Perm (srt ys) := (srt_perm xs).trans (h.trans (srt_perm ys).symm)
  exact List.Perm.eq_of_pairwise (fun a b _ _ k1 k2 => by
    by_cases c : a = b
    · exact c
    · rcases TyL.tri c with k | k
      · rw [k] at k2; cases k2
      · rw [k] at k1; cases k1) h1 h2 hp
end
/-- without what came before -/
def dd : List α → List α
  | [] => []
  | a :: l => a :: (dd l).filter fun b => !decide (b = a)
theorem mem_dd {a : α} : ∀ {l : List α}, a ∈ dd l ↔ a ∈ l
  | [] => by simp [dd]
  | b :: l => by
    show a ∈ b :: _ ↔ _
    rw [List.mem_cons, List.mem_cons, List.mem_filter, mem_dd]
    by_cases c : a = b <;> simp [c]
theorem dd_nodup : ∀ l : List α, (dd l).Nodup
  | [] => List.nodup_nil
  | b :: l => List.nodup_cons.mpr ⟨by simp, (dd_nodup l).filter _⟩
theorem dd_self : ∀ {l : List α}, l.Nodup → dd l = l
  | [], _ => rfl
  | b :: l, h => by
    obtain ⟨h1, h2⟩ := List.nodup_cons.mp h
    show b :: _ = _
    rw [dd_self h2, List.filter_eq_self.mpr fun c hc => ?_]
    simpa using fun e : c = b => h1 (e ▸ hc)
theorem dd_le : ∀ l : List α, (dd l).length ≤ l.length
  | [] => Nat.le_refl _
  | b :: l => by
    show (b :: _).length ≤ _
    rw [List.length_cons, List.length_cons]
    have := List.length_filter_le (fun c => !decide (c = b)) (dd l)
    have := dd_le l
    omega
theorem dd_len {l : List α} : (dd l).length = l.length ↔ l.Nodup := by
  constructor
  · induction l with
    | nil => exact fun _ => List.nodup_nil
    | cons b l ih =>
      intro h
      have h0 : (b :: (dd l).filter fun c => !decide (c = b)).length = (b :: l).length := h
      rw [List.length_cons, List.length_cons] at h0
      have h1 := List.length_filter_le (fun c => !decide (c = b)) (dd l)
      have h2 := dd_le l
      have h3 := ih (by omega)
      refine List.nodup_cons.mpr ⟨fun hb => ?_, h3⟩
      have h4 : ((dd l).filter fun c => !decide (c = b)).length = (dd l).length := by omega
      have h5 := List.length_filter_eq_length_iff.mp h4 b (mem_dd.mpr hb)
      simp at h5
  · intro h; rw [dd_self h]
/-- sorted(set(l)) -/
def sdd (l : List α) : List α := srt (dd l)
section
variable [TyL α]
theorem mem_sdd {l : List α} {a : α} : a ∈ sdd l ↔ a ∈ l := mem_srt.trans mem_dd
theorem sdd_lt (l : List α) : (sdd l).Pairwise Lt := srt_lt (dd_nodup l)
theorem sdd_nodup (l : List α) : (sdd l).Nodup := pw_nodup (sdd_lt l)
theorem sdd_le (l : List α) : (sdd l).length ≤ l.length := by unfold sdd; rw [srt_len]; exact dd_le l
theorem sdd_uniq {l ys : List α} (h1 : ys.Pairwise Lt) (h2 : ∀ a, a ∈ ys ↔ a ∈ l) : sdd l = ys := lt_uniq (sdd_lt l) h1 fun a => mem_sdd.trans (h2 a).symm
theorem sdd_congr {l m : List α} (h : ∀ a, a ∈ l ↔ a ∈ m) : sdd l = sdd m := sdd_uniq (sdd_lt m) fun a => mem_sdd.trans (h a).symm
end
section
variable [TyL α] [TyL β] [TyL γ] [TyL δ] [TyE α] [TyE β] [TyE γ] [TyE δ]
theorem ltP_iff {p q : α × β} : TyO.lt p q = true ↔ TyO.lt p.1 q.1 = true ∨ (p.1 = q.1 ∧ TyO.lt p.2 q.2 = true) := by
  show (if p.1 = q.1 then (if p.2 = q.2 then false else TyO.lt p.2 q.2) else TyO.lt p.1 q.1) = true ↔ _
  by_cases c : p.1 = q.1
  · rw [if_pos c, c, TyL.irr]
    by_cases d : p.2 = q.2
    · rw [if_pos d, d, TyL.irr]; simp
    · rw [if_neg d]; simp
  · rw [if_neg c]; simp [c]
instance : TyL (α × β) where
  tr {a b c} h1 h2 := by
    rw [ltP_iff] at *
    rcases h1 with h1 | ⟨h1, k1⟩ <;> rcases h2 with h2 | ⟨h2, k2⟩
    · exact .inl (TyL.tr h1 h2)
    · exact .inl (h2 ▸ h1)
    · exact .inl (h1 ▸ h2)
    · exact .inr ⟨h1.trans h2, TyL.tr k1 k2⟩
  irr a := by
    show (if a.1 = a.1 then (if a.2 = a.2 then false else _) else _) = false
    rw [if_pos rfl, if_pos rfl]
  tri {a b} h := by
    rw [ltP_iff, ltP_iff]
    by_cases c : a.1 = b.1
    · have d : a.2 ≠ b.2 := fun d => h (Prod.ext c d)
      exact (TyL.tri d).imp (fun k => .inr ⟨c, k⟩) fun k => .inr ⟨c.symm, k⟩
    · exact (TyL.tri c).imp .inl .inl
theorem ltT3_iff {p q : T3 α β γ} : TyO.lt p q = true ↔ TyO.lt p.a q.a = true ∨ (p.a = q.a ∧ (TyO.lt p.b q.b = true ∨ (p.b = q.b ∧ TyO.lt p.c q.c = true))) := by
  show (if p.a = q.a then (if p.b = q.b then (if p.c = q.c then false else TyO.lt p.c q.c) else TyO.lt p.b q.b) else TyO.lt p.a q.a) = true ↔ _
  by_cases c : p.a = q.a
  · rw [if_pos c, c, TyL.irr]
    by_cases d : p.b = q.b
    · rw [if_pos d, d, TyL.irr]
      by_cases e : p.c = q.c
      · rw [if_pos e, e, TyL.irr]; simp
      · rw [if_neg e]; simp
    · rw [if_neg d]; simp [d]
  · rw [if_neg c]; simp [c]
instance : TyL (T3 α β γ) where
  tr {a b c} h1 h2 := by
    rw [ltT3_iff] at *
    rcases h1 with h1 | ⟨h1, k1⟩ <;> rcases h2 with h2 | ⟨h2, k2⟩
    · exact .inl (TyL.tr h1 h2)
    · exact .inl (h2 ▸ h1)
    · exact .inl (h1 ▸ h2)
    · refine .inr ⟨h1.trans h2, ?_⟩
      rcases k1 with k1 | ⟨k1, j1⟩ <;> rcases k2 with k2 | ⟨k2, j2⟩
      · exact .inl (TyL.tr k1 k2)
      · exact .inl (k2 ▸ k1)
      · exact .inl (k1 ▸ k2)
      · exact .inr ⟨k1.trans k2, TyL.tr j1 j2⟩
  irr a := by
    show (if a.a = a.a then (if a.b = a.b then (if a.c = a.c then false else _) else _) else _) = false
    rw [if_pos rfl, if_pos rfl, if_pos rfl]
  tri {a b} h := by
    rw [ltT3_iff, ltT3_iff]
    by_cases c : a.a = b.a
    · by_cases d : a.b = b.b
      · have e : a.c ≠ b.c := fun e => h (by cases a; cases b; simp_all)
        exact (TyL.tri e).imp (fun k => .inr ⟨c, .inr ⟨d, k⟩⟩) fun k => .inr ⟨c.symm, .inr ⟨d.symm, k⟩⟩
      · exact (TyL.tri d).imp (fun k => .inr ⟨c, .inl k⟩) fun k => .inr ⟨c.symm, .inl k⟩
    · exact (TyL.tri c).imp .inl .inl
theorem ltL_cons {x y : α} {xs ys : List α} : ltL (x :: xs) (y :: ys) = true ↔ TyO.lt x y = true ∨ (x = y ∧ ltL xs ys = true) := by
  show (if x = y then ltL xs ys else TyO.lt x y) = true ↔ _
  by_cases c : x = y
  · rw [if_pos c, c, TyL.irr]; simp
  · rw [if_neg c]; simp [c]
theorem ltL_tr : ∀ {a b c : List α}, ltL a b = true → ltL b c = true → ltL a c = true
  | [], [], _, h, _ => by cases h
  | [], _ :: _, [], _, h => by cases h
  | [], _ :: _, _ :: _, _, _ => rfl
  | _ :: _, [], _, h, _ => by cases h
  | _ :: _, _ :: _, [], _, h => by cases h
  | x :: xs, y :: ys, z :: zs, h1, h2 => by
    rw [ltL_cons] at *
    rcases h1 with h1 | ⟨h1, k1⟩ <;> rcases h2 with h2 | ⟨h2, k2⟩
    · exact .inl (TyL.tr h1 h2)
    · exact .inl (h2 ▸ h1)
    · exact .inl (h1 ▸ h2)
    · exact .inr ⟨h1.trans h2, ltL_tr k1 k2⟩
theorem ltL_irr : ∀ a : List α, ltL a a = false
  | [] => rfl
  | x :: xs => by
    show (if x = x then ltL xs xs else _) = false
    rw [if_pos rfl]; exact ltL_irr xs
theorem ltL_tri : ∀ {a b : List α}, a ≠ b → ltL a b = true ∨ ltL b a = true
  | [], [], h => absurd rfl h
  | [], _ :: _, _ => .inl rfl
  | _ :: _, [], _ => .inr rfl
  | x :: xs, y :: ys, h => by
    rw [ltL_cons, ltL_cons]
    by_cases c : x = y
    · have d : xs ≠ ys := fun d => h (by rw [c, d])
      exact (ltL_tri d).imp (fun k => .inr ⟨c, k⟩) fun k => .inr ⟨c.symm, k⟩
    · exact (TyL.tri c).imp .inl .inl
instance : TyL (List α) := ⟨ltL_tr, ltL_irr, ltL_tri⟩
end
end
end G

namespace G
open PySem PySem.Spec PyProof.Rows L2 TL Ty
/-! ### sets of texts: made of a list, counted, sorted -/
def txt (e : Int × Value) : Str := match e.2 with | .str x _ => x | _ => ⟨#[]⟩
def TxtE (w : World) (e : Int × Value) : Prop := ∃ (x : Str) (k : Tok), e.2 = Value.str x k ∧ e.1 = hashStr w x
/-- the set of texts at a, its texts known by S -/
def TSet (w : World) (hp : Heap) (a : Addr) (S : Str → Bool) (num : Nat) : Prop :=
  ∃ (ob : Obj) (els : Array (Int × Value)) (age : Nat) (tb : SetTable), hp.get? a = some ob ∧ ob.ExactSet ∧ ob.data = .set els age tb ∧ (∀ e ∈ els.toList, TxtE w e) ∧ (els.toList.map txt).Nodup ∧
    (∀ x, S x = true ↔ x ∈ els.toList.map txt) ∧ els.size < scanBound ∧ tb.fits els.size = true ∧ els.size = num ∧ Ris tb.place.toList ∧ (w.params.followText "set-order" = true ∨ tb.led = true)
section
variable {P : Program} {w : World} {A : Around} {E : Value → Shared → Prop} {s : Shared} {a : Addr} {S : Str → Bool} {num : Nat} {hp hp' : Heap}
theorem TSet.at (R : TSet w hp a S num) (k : ∀ o, hp.get? a = some o → hp'.get? a = some o) : TSet w hp' a S num := by
  obtain ⟨ob, els, age, tb, h0, rest⟩ := R
  exact ⟨ob, els, age, tb, k ob h0, rest⟩
theorem TSet.congr {S' : Str → Bool} (R : TSet w hp a S num) (e : ∀ x, S' x = S x) : TSet w hp a S' num := by
  have : S' = S := funext e
  rw [this]; exact R
theorem txt_elems {l : List (Int × Value)} (g : ∀ e ∈ l, TxtE w e) : ElemsOf (strKind P w) l := fun e he => by
  obtain ⟨x, k, e1, e2⟩ := g e he
  refine ⟨⟨x, ?_, e2⟩, ?_⟩
  · rw [e1]; show Value.isStrOf x (.str x k) = true; simp [Value.isStrOf]
  · rw [e1]; rfl
theorem txt_is {e : Int × Value} (g : TxtE w e) (x : Str) : (strKind P w).is x e.2 = true ↔ txt e = x := by
  obtain ⟨y, k, e1, -⟩ := g
  unfold txt
  rw [e1]
  show Value.isStrOf x (.str y k) = true ↔ y = x
  constructor
  · intro h
    obtain ⟨t, h⟩ := Value.isStrOf_shape h
    injection h
  · rintro rfl; simp [Value.isStrOf]
theorem txt_mem {l : List (Int × Value)} (g : ∀ e ∈ l, TxtE w e) (x : Str) : x ∈ l.map txt ↔ ∃ e ∈ l, (strKind P w).is x e.2 = true := by
  rw [List.mem_map]
  exact ⟨fun ⟨e, he, q⟩ => ⟨e, he, (txt_is (g e he) x).mpr q⟩, fun ⟨e, he, q⟩ => ⟨e, he, (txt_is (g e he) x).mp q⟩⟩
theorem txt_tail {g : Bool → Sem Unit} (hg : ∀ (b : Bool) (s₁ : Shared) (Q' : Unit → Shared → Prop), Q' () s₁ → wpAny (model P w) A (g b) Q' E s₁)
    {ob : Obj} {els : Array (Int × Value)} {age : Nat} {tb : SetTable} (h0 : s.heap.get? a = some ob) (hx : ob.ExactSet) (hdt : ob.data = .set els age tb)
    {el1 : Array (Int × Value)} {tb2 : SetTable} {S' : Str → Bool} (k1 : ∀ e ∈ el1.toList, TxtE w e) (k2 : (el1.toList.map txt).Nodup) (k3 : ∀ x, S' x = true ↔ x ∈ el1.toList.map txt)
    (k4 : el1.size < scanBound) (k5 : tb2.fits el1.size = true) (k6 : Ris tb2.place.toList) (k7 : w.params.followText "set-order" = true ∨ tb2.led = true) {dummy : Bool} {R : Option Bool → Shared → Prop}
    (fin : ∀ h', Heap.SameBut a s.heap h' → TSet w h' a S' el1.size → R (some true) { s with heap := h' }) :
    wpAny (model P w) A (do
        storeSet a el1 tb2
        if (!dummy && tb2.tooFull) = true then do
            g (relayAll tb2 el1 (SetTable.grown el1.size)).2.2
            storeSet a (relayAll tb2 el1 (SetTable.grown el1.size)).1 (relayAll tb2 el1 (SetTable.grown el1.size)).2.1
            pure (some true)
          else pure (some true)) R E s := by
  refine wpAny_bind (wpAny_storeSet_of h0 hdt ?_ (fits_of_scanBound k4))
  have at1 := store_at (es' := el1) (t' := tb2) h0 hdt
  have but1 := Heap.SameBut.update s.heap a (Obj.putSet el1 tb2)
  split
  · have pm := relayAll_perm tb2 el1 (SetTable.grown el1.size)
    have ft := relayAll_fits tb2 el1 (SetTable.grown el1.size)
    have rs := relayAll_ris tb2 el1 (SetTable.grown el1.size)
    have ld := relayAll_led tb2 el1 (SetTable.grown el1.size)
    generalize relayAll tb2 el1 (SetTable.grown el1.size) = Z at pm ft rs ld ⊢
    obtain ⟨el2, tb3, gave⟩ := Z
    dsimp only at pm ft rs ld ⊢
    have sz : el2.size = el1.size := by
      have := pm.length_eq
      simpa using this
    have small : el2.size < scanBound := sz ▸ k4
    refine wpAny_bind (hg _ _ _ ?_)
    refine wpAny_bind (wpAny_storeSet_of at1 rfl ?_ (fits_of_scanBound small))
    have at2 := store_at (es' := el2) (t' := tb3) at1 rfl
    exact wpAny_pure (fin _ (but1.trans (Heap.SameBut.update _ a _)) ⟨_, el2, _, tb3, at2, hx, rfl, fun e he => k1 e (pm.mem_iff.mp he), (pm.map txt).nodup_iff.mpr k2, fun x => (k3 x).trans (pm.map txt).mem_iff.symm, small, ft, sz, rs, k7.imp id fun z => ld ▸ z⟩)
  · exact wpAny_pure (fin _ but1 ⟨_, el1, _, tb2, at1, hx, rfl, k1, k2, k3, k4, k5, rfl, k6, k7⟩)
theorem txt_add {x : Str} {k : Tok} {Q : Bool → Shared → Prop} (R : TSet w s.heap a S num) (room : num + 1 < scanBound)
    (hQ : ∀ h', Heap.SameBut a s.heap h' → (∃ num', num' ≤ num + 1 ∧ TSet w h' a (fun y => S y || decide (y = x)) num') → ∀ b, Q b { s with heap := h' }) :
    wpAny (model P w) A (setAddHashed a (.str x k) ((strKind P w).hash x)) Q E s := by
  obtain ⟨ob, els, age, tb, h0, hx, hdt, g, nd, hm, hb, hf, hn, hr, hl⟩ := R
  have key : (strKind P w).is x (.str x k) = true := by show Value.isStrOf x (.str x k) = true; simp [Value.isStrOf]
  have scn : (Value.str x k).scannable = true := rfl
  have elm : ElemsOf (strKind P w) els.toList := txt_elems g
  unfold setAddHashed setAddHashedIn
  refine wpAny_holding (wpAny_bind (wpAny_setState_of h0 hdt hf ?_))
  dsimp only
  rw [byScan_of scn hb elm]
  simp only [↓reduceIte]
  unfold setAddByScan
  refine wpAny_bind ?_
  refine wpAny_bind (wpAny_rule ?_)
  refine wpAny_bind (wpAny_setScan_of key h0 hdt hf elm ?_)
  cases hfi : List.findIdx? (fun e => (strKind P w).is x e.2) els.toList with
  | some j =>
    dsimp only
    obtain ⟨hj, pj, -⟩ := List.findIdx?_eq_some_iff_getElem.mp hfi
    have there : S x = true := (hm x).2 ((txt_mem (P := P) g x).2 ⟨els.toList[j], List.getElem_mem hj, pj⟩)
    refine wpAny_pure (wpAny_pure ?_)
    refine hQ s.heap (Heap.SameBut.refl a s.heap) ⟨num, Nat.le_succ _, ob, els, age, tb, h0, hx, hdt, g, nd, fun y => ?_, hb, hf, hn, hr, hl⟩ _
    rw [Bool.or_eq_true, decide_eq_true_eq, ← hm y]
    exact ⟨fun z => z.elim id (fun e => e ▸ there), .inl⟩
  | none =>
    dsimp only
    have nin : x ∉ els.toList.map txt := fun z => by
      obtain ⟨e, he, q⟩ := (txt_mem (P := P) g x).1 z
      have := List.findIdx?_eq_none_iff.mp hfi e he
      rw [q] at this; cases this
    have way : ∀ (b : Bool) {s₁ : Shared} {Q' : Unit → Shared → Prop}, Q' () s₁ → wpAny (model P w) A (match b with | true => rule "set.scan.the-table-gave-way" | false => pure ()) Q' E s₁ :=
      fun b s₁ Q' q => by
        cases b
        · exact wpAny_pure q
        · exact wpAny_rule q
    have pm := layNew_perm tb els ((strKind P w).hash x) (.str x k)
    have f1 := layNew_fits tb els ((strKind P w).hash x) (.str x k)
    have r1 := layNew_ris tb els ((strKind P w).hash x) (.str x k) hr
    have d1 := layNew_led tb els ((strKind P w).hash x) (.str x k)
    generalize layNew tb els ((strKind P w).hash x) (.str x k) = Z at pm f1 r1 d1 ⊢
    obtain ⟨el1, tb1, dummy, gave⟩ := Z
    dsimp only at pm f1 r1 d1 ⊢
    rw [Array.toList_push] at pm
    have pc : el1.toList.Perm (((strKind P w).hash x, Value.str x k) :: els.toList) := pm.trans (List.perm_append_singleton _ _)
    have pk : (el1.toList.map txt).Perm (x :: els.toList.map txt) := pc.map txt
    have g1 : ∀ e ∈ el1.toList, TxtE w e := fun e he => by
      rcases List.mem_cons.mp (pc.mem_iff.mp he) with z | z
      · rw [z]; exact ⟨x, k, rfl, rfl⟩
      · exact g e z
    have n1 : (el1.toList.map txt).Nodup := pk.nodup_iff.mpr (List.nodup_cons.mpr ⟨nin, nd⟩)
    have m1 : ∀ y, (S y || decide (y = x)) = true ↔ y ∈ el1.toList.map txt := fun y => by
      rw [Bool.or_eq_true, decide_eq_true_eq, hm y, pk.mem_iff, List.mem_cons]
      exact Or.comm
    have z1 : el1.size = num + 1 := by
      have := pc.length_eq
      rw [List.length_cons, Array.length_toList, Array.length_toList, hn] at this
      exact this
    have b1 : el1.size < scanBound := z1 ▸ room
    have l1 : w.params.followText "set-order" = true ∨ tb1.led = true := hl.imp id fun z => d1 ▸ z
    have fin : ∀ h', Heap.SameBut a s.heap h' → TSet w h' a (fun y => S y || decide (y = x)) el1.size → Q true { s with heap := h' } := fun h' sb r => hQ h' sb ⟨_, Nat.le_of_eq z1, r⟩ true
    refine wpAny_bind (way _ ?_)
    split
    · refine wpAny_bind ?_
      rw [hashByValue_scannable 8 scn]
      refine wpAny_pure ?_
      refine txt_tail ?_ h0 hx hdt g1 n1 m1 b1 ?_ ?_ ?_ ?_
      · intro b s₁ Q' q
        cases b
        · exact wpAny_pure q
        · exact wpAny_rule q
      · first | (split <;> first | exact f1 | exact SetTable.fits_plain_off f1) | exact f1
      · first | (split <;> exact r1) | exact r1
      · first | (split <;> exact l1) | exact l1
      · intro h' sb r; dsimp only; exact wpAny_pure (fin h' sb r)
    · refine wpAny_bind (wpAny_pure ?_)
      simp only [↓reduceIte]
      refine txt_tail ?_ h0 hx hdt g1 n1 m1 b1 f1 r1 l1 ?_
      · intro b s₁ Q' q
        cases b
        · exact wpAny_pure q
        · exact wpAny_rule q
      · intro h' sb r; dsimp only; exact wpAny_pure (fin h' sb r)

abbrev newSet (w : World) : Obj := { cls := .type "set", dict := none, data := .set #[] 0 (.fresh 0 0 (!w.params.followText "set-order")) }
theorem tset_new (h0 : hp.get? a = some (newSet w)) : TSet w hp a (fun _ => false) 0 :=
  ⟨_, #[], 0, _, h0, ⟨rfl, rfl, rfl⟩, rfl, (fun e he => by simp at he), (by simp), (fun x => by simp), (by decide), (by rfl), rfl, List.Pairwise.nil, by
    show _ ∨ (!w.params.followText "set-order") = true
    cases w.params.followText "set-order"
    · exact .inr rfl
    · exact .inl rfl⟩
theorem take_in {ys : List Str} {i : Nat} {x y : Str} (h : ys[i]? = some x) : (decide (y ∈ ys.take i) || decide (y = x)) = decide (y ∈ ys.take (i + 1)) := by
  obtain ⟨hi, rfl⟩ := List.getElem?_eq_some_iff.mp h
  rw [← Bool.decide_or]
  exact decide_eq_decide.mpr (by rw [List.take_succ_eq_append_getElem hi, List.mem_append, List.mem_singleton])
theorem txt_loop {I : Addr} {fp wr : List Addr} {G : Array GenState → Array GenState → Prop} {n : Nat} {Pv : Nat → Value → Prop} {St : Nat → Shared → Prop} {R : Result → Shared → Prop}
    (W : WalksS P w A.in1 I fp wr G n Pv St) (S0 : Addr) (away : S0 ∉ fp) (ys : List Str) (hn : n = ys.length) (hfew : ys.length + 1 < scanBound) (hval : ∀ i v, Pv i v → ∃ (x : Str) (k : Tok), ys[i]? = some x ∧ v = .str x k) :
    ∀ (m i : Nat) (s : Shared), n - i = m → i ≤ n → St i s → (∃ num, num ≤ i ∧ TSet w s.heap S0 (fun y => decide (y ∈ ys.take i)) num) →
      (∀ s' num, Moved (S0 :: wr) G s s' → TSet w s'.heap S0 (fun y => decide (y ∈ ys)) num → R (.ok (.ret .none)) s') →
      codeAny (model P w) A (.builtin "set.update.loop" ⟨[.ref S0, .ref I], []⟩) R s := by
  have away' : S0 ∉ wr := fun h => away (W.sub _ h)
  have more : ∀ b ∈ wr, b ∈ S0 :: wr := fun b hb => List.mem_cons_of_mem _ hb
  intro m
  induction m with
  | zero =>
    intro i s hm hi hst ⟨num, hnum, hS⟩ hR
    have hin : i = n := by omega
    subst hin
    refine codeAny_builtin F.entry_set_update_loop ?_
    rw [Around.under_plainId F.plain_set_update_loop _]
    show wpAny _ A.in1 (pyNext (.ref I) >>= _) _ _ s
    refine wpAny_bind (W.done s _ _ hst fun s' mv => ?_)
    show wpAny _ A.in1 (ret Value.none) _ _ s'
    exact wpAny_pure (hR s' num (mv.mono more) ((hS.at fun o e => mv.heap S0 o away' e).congr fun y => by rw [hn, List.take_length]))
  | succ m ih =>
    intro i s hm hi hst ⟨num, hnum, hS⟩ hR
    have hlt : i < n := by omega
    refine codeAny_builtin F.entry_set_update_loop ?_
    rw [Around.under_plainId F.plain_set_update_loop _]
    show wpAny _ A.in1 (pyNext (.ref I) >>= _) _ _ s
    refine wpAny_bind (W.item i s _ _ hlt hst fun v s' hP hst' mv => ?_)
    obtain ⟨x, k, hx, rfl⟩ := hval i v hP
    have hS' := hS.at (hp' := s'.heap) fun o e => mv.heap S0 o away' e
    show wpAny _ A.in1 (holding [Value.str x k] (setAdd S0 (.str x k)) >>= _) _ _ s'
    refine wpAny_bind (wpAny_holding ?_)
    unfold setAdd
    refine wpAny_holding ?_
    refine wpAny_bind ((strKind P w).pyHash (k := x) (by show Value.isStrOf x (.str x k) = true; simp [Value.isStrOf]) ?_)
    refine txt_add (s := { s' with toks := s'.toks + 1 }) hS' (by omega) fun h' hsb ⟨num2, hn2, hS2⟩ b => ?_
    refine wpAny_pure ⟨plainId_quiet F.plain_set_update_loop _, ih (i + 1) _ (by omega) hlt (W.frame _ s' _ _ hst' (Nat.le_succ _) fun b hb o e => ?_) ⟨num2, by omega, hS2.congr fun y => (take_in hx).symm⟩ fun s'' num3 mv2 hS3 => ?_⟩
    · rw [hsb.2 b (fun h : b = S0 => away (by rw [← h]; exact hb))]; exact e
    · refine hR s'' num3 (Moved.trans W.gtrans ((mv.mono more).then_heap (Nat.le_succ _) fun b o hb e => ?_) mv2) hS3
      rw [hsb.2 b (fun h : b = S0 => hb (by rw [h]; exact List.mem_cons_self))]; exact e

set_option maxHeartbeats 3200000 in
/-- set(v), by what set.__init__ does to the new set -/
theorem call_set_by {v : Value} {Q : Value → Shared → Prop} (Mid : Shared → Prop)
    (init : codeAny (model P w) A.in1 (.call (.builtin "set.__init__") ⟨[.ref s.heap.objs.size, v], []⟩) (wants (fun r s₂ => r = .none ∧ Mid s₂) E) { s with heap := s.heap.push (newSet w) })
    (fin : ∀ s₂, Mid s₂ → Q (.ref s.heap.objs.size) s₂) :
    wpAny (model P w) A (call (.type "set") [v]) Q E s := by
  obtain ⟨c, tl, hmro⟩ := F.called_set.mro
  have made := F.called_set.made
  have subs := F.called_set.sub
  refine wpAny_call (codeAny_of_tree ?_)
  show wpAny _ _ (callAny (.type "set") _) _ _ _
  refine wpAny_pure ⟨Code.quiet_builtin _ (by decide +kernel), codeAny_builtin F.entry_type_call ?_⟩
  rw [Around.under_plain (weight_type_call_type "set" [v] []) rfl]
  have n1 := F.called_set.notType
  have n2 := F.called_set.canCreate
  have n3 := F.typeCall_set_1 v
  repeat (any_goals (first | assumption | wp_step))
  refine codeAny_mono (code_set_led1 v (E := E) (Q₁ := fun ob s₁ => ob = .ref s.heap.objs.size ∧ s₁ = { s with heap := s.heap.push (newSet w) }) ⟨rfl, rfl⟩) fun r s₁ hr => ?_
  cases r with
  | error e => exact hr
  | ok fl =>
    cases fl with
    | ret ob =>
      obtain ⟨rfl, rfl⟩ := hr
      have at0 : (s.heap.push (newSet w)).get? s.heap.objs.size = some (newSet w) := Heap.get?_push_size _ rfl
      have ty0 : Shared.TypeIs { s with heap := s.heap.push (newSet w) } (.ref s.heap.objs.size) "set" := ⟨_, at0, rfl⟩
      have i1 := F.called_set.init.lookup
      have i2 := F.called_set.init.bind (.ref s.heap.objs.size)
      repeat (any_goals (first | assumption | wp_step))
      refine codeAny_mono init fun r₂ s₂ hr₂ => ?_
      cases r₂ with
      | error e => exact hr₂
      | ok fl₂ =>
        cases fl₂ with
        | ret r =>
          obtain ⟨rfl, hq⟩ := hr₂
          repeat (any_goals (first | assumption | wp_step))
          exact fin _ hq
        | _ => exact hr₂.elim
    | _ => exact hr.elim

set_option maxHeartbeats 3200000 in
/-- set(xs) of a list of texts -/
theorem call_txts_list {l : Addr} {items : Array Value} (ys : List Str) {Q : Value → Shared → Prop} (hh : A.handled = none) (hl : s.heap.IsList l items) (hit : ∀ (i : Nat) (v : Value), items[i]? = some v → ∃ (x : Str) (k : Tok), ys[i]? = some x ∧ v = .str x k) (hisz : items.size = ys.length)
    (hfew : True → ys.length + 1 < scanBound)
    (h : ∀ (h' : Heap) (tk : Nat) num, TSet w h' s.heap.objs.size (fun y => decide (y ∈ ys)) num → (∀ b o, s.heap.get? b = some o → h'.get? b = some o) → Q (.ref s.heap.objs.size) { s with heap := h', toks := tk }) :
    wpAny (model P w) A (call (.type "set") [.ref l]) Q E s := by
  have at0 : (s.heap.push (newSet w)).get? s.heap.objs.size = some (newSet w) := Heap.get?_push_size _ rfl
  have ty0 : Shared.TypeIs { s with heap := s.heap.push (newSet w) } (.ref s.heap.objs.size) "set" := ⟨_, at0, rfl⟩
  refine call_set_by (fun s₂ => ∃ h' tk num, s₂ = { s with heap := h', toks := tk } ∧ TSet w h' s.heap.objs.size (fun y => decide (y ∈ ys)) num ∧ ∀ b o, s.heap.get? b = some o → h'.get? b = some o) (codeAny_call_builtin F.called_set.init.plain F.entry_set_init (check_set_init_1 ty0 ?_)) fun s₂ ⟨h', tk, num, e, hS, hk⟩ => e ▸ h h' tk num hS hk
  obtain ⟨ol, hol, hcl, nl, hdl⟩ := hl
  obtain ⟨ocls, odict, odata, oslots⟩ := ol
  simp only at hcl hdl
  subst hcl; subst hdl
  have hol' : (s.heap.push (newSet w)).get? l = some { cls := .type "list", dict := odict, data := .seq items nl, slots := oslots } := Heap.get?_push_of_some _ hol
  have t1 := F.sub_list_set
  have t2 := F.sub_list_frozenset
  have t3 : (Value.type "list" == Value.type "dict") = false := by decide
  have src : (s.heap.push (newSet w)).IsList l items := ⟨_, hol', rfl, nl, rfl⟩
  unfold Builtin.«set.__init__» noKeywords Builtin.Frozenset.updateFrom
  generalize hPI : pyIter = PI
  wp_walk
  subst hPI
  refine wpAny_pyIter_list src ?_
  refine wpAny_bind (wpAny_runValue ?_)
  have low : l < s.heap.objs.size := Heap.lt_size hol
  have calm : A.in1.in1.in1.handled = none := by simp [hh]
  have apart : l ≠ (s.heap.push (newSet w)).objs.size := by
    rw [Heap.size_push]; exact Nat.ne_of_lt (Nat.lt_succ_of_lt low)
  have away : s.heap.objs.size ∉ [(s.heap.push (newSet w)).objs.size, l] := by
    rw [Heap.size_push]; simp only [List.mem_cons, List.mem_singleton, List.not_mem_nil, or_false, not_or]
    exact ⟨Nat.ne_of_lt (Nat.lt_succ_self _), Nat.ne_of_gt low⟩
  refine txt_loop ((Walks.list calm _ l apart items).toS) s.heap.objs.size
    away ys hisz (hfew trivial) hit (items.size - 0) 0 _ (by omega) (Nat.zero_le _)
    ⟨⟨_, Heap.get?_push_size _ rfl, rfl, rfl⟩, (src.push _)⟩ ?start ?fin
  case start =>
    have new0 : ((s.heap.push (newSet w)).push { cls := .type "list_iterator", data := .fields #[.ref l, .int 0 0] }).get? s.heap.objs.size = some (newSet w) := Heap.get?_push_of_some _ at0
    exact ⟨0, Nat.le_refl _, (tset_new new0).congr fun y => by simp⟩
  case fin =>
    intro s' num hm hS'
    obtain ⟨h', g2, d', tk', os'⟩ := s'
    have eg : g2 = s.gens := hm.gens
    have ed : d' = s.drawn := hm.drawn
    have eo : os' = s.os := hm.os
    subst eg; subst ed; subst eo
    show wpAny _ _ _ _ _ _
    refine wpAny_pure ?_
    show wpAny _ _ (ret Value.none) _ _ _
    refine wpAny_pure ⟨rfl, h', tk', num, rfl, hS', fun b o e => ?_⟩
    have lt0 : b < s.heap.objs.size := Heap.lt_size e
    refine hm.heap b o ?_ (Heap.get?_push_of_some _ (Heap.get?_push_of_some _ e))
    simp only [List.mem_cons, List.mem_singleton, List.not_mem_nil, or_false, not_or]
    refine ⟨Nat.ne_of_lt lt0, ?_⟩
    rw [Heap.size_push]; exact Nat.ne_of_lt (Nat.lt_succ_of_lt lt0)

set_option maxHeartbeats 3200000 in
/-- set(xs) of a tuple of texts -/
theorem call_txts_tuple {l : Addr} {items : Array Value} (ys : List Str) {Q : Value → Shared → Prop} (hh : A.handled = none) (hl : s.heap.IsTuple l items) (hit : ∀ (i : Nat) (v : Value), items[i]? = some v → ∃ (x : Str) (k : Tok), ys[i]? = some x ∧ v = .str x k) (hisz : items.size = ys.length)
    (hfew : True → ys.length + 1 < scanBound)
    (h : ∀ (h' : Heap) (tk : Nat) num, TSet w h' s.heap.objs.size (fun y => decide (y ∈ ys)) num → (∀ b o, s.heap.get? b = some o → h'.get? b = some o) → Q (.ref s.heap.objs.size) { s with heap := h', toks := tk }) :
    wpAny (model P w) A (call (.type "set") [.ref l]) Q E s := by
  have at0 : (s.heap.push (newSet w)).get? s.heap.objs.size = some (newSet w) := Heap.get?_push_size _ rfl
  have ty0 : Shared.TypeIs { s with heap := s.heap.push (newSet w) } (.ref s.heap.objs.size) "set" := ⟨_, at0, rfl⟩
  refine call_set_by (fun s₂ => ∃ h' tk num, s₂ = { s with heap := h', toks := tk } ∧ TSet w h' s.heap.objs.size (fun y => decide (y ∈ ys)) num ∧ ∀ b o, s.heap.get? b = some o → h'.get? b = some o) (codeAny_call_builtin F.called_set.init.plain F.entry_set_init (check_set_init_1 ty0 ?_)) fun s₂ ⟨h', tk, num, e, hS, hk⟩ => e ▸ h h' tk num hS hk
  obtain ⟨ol, hol, hcl, nl, hdl⟩ := hl
  obtain ⟨ocls, odict, odata, oslots⟩ := ol
  simp only at hcl hdl
  subst hcl; subst hdl
  have hol' : (s.heap.push (newSet w)).get? l = some { cls := .type "tuple", dict := odict, data := .seq items nl, slots := oslots } := Heap.get?_push_of_some _ hol
  have t1 := F.sub_tuple_set
  have t2 := F.sub_tuple_frozenset
  have t3 : (Value.type "tuple" == Value.type "dict") = false := by decide
  have src : (s.heap.push (newSet w)).IsTuple l items := ⟨_, hol', rfl, nl, rfl⟩
  unfold Builtin.«set.__init__» noKeywords Builtin.Frozenset.updateFrom
  generalize hPI : pyIter = PI
  wp_walk
  subst hPI
  refine wpAny_pyIter_tuple src ?_
  refine wpAny_bind (wpAny_runValue ?_)
  have low : l < s.heap.objs.size := Heap.lt_size hol
  have calm : A.in1.in1.in1.handled = none := by simp [hh]
  have apart : l ≠ (s.heap.push (newSet w)).objs.size := by
    rw [Heap.size_push]; exact Nat.ne_of_lt (Nat.lt_succ_of_lt low)
  have away : s.heap.objs.size ∉ [(s.heap.push (newSet w)).objs.size, l] := by
    rw [Heap.size_push]; simp only [List.mem_cons, List.mem_singleton, List.not_mem_nil, or_false, not_or]
    exact ⟨Nat.ne_of_lt (Nat.lt_succ_self _), Nat.ne_of_gt low⟩
  refine txt_loop ((Walks.tuple calm _ l apart items).toS) s.heap.objs.size
    away ys hisz (hfew trivial) hit (items.size - 0) 0 _ (by omega) (Nat.zero_le _)
    ⟨⟨_, Heap.get?_push_size _ rfl, rfl, rfl⟩, (src.push _)⟩ ?start ?fin
  case start =>
    have new0 : ((s.heap.push (newSet w)).push { cls := .type "tuple_iterator", data := .fields #[.ref l, .int 0 0] }).get? s.heap.objs.size = some (newSet w) := Heap.get?_push_of_some _ at0
    exact ⟨0, Nat.le_refl _, (tset_new new0).congr fun y => by simp⟩
  case fin =>
    intro s' num hm hS'
    obtain ⟨h', g2, d', tk', os'⟩ := s'
    have eg : g2 = s.gens := hm.gens
    have ed : d' = s.drawn := hm.drawn
    have eo : os' = s.os := hm.os
    subst eg; subst ed; subst eo
    show wpAny _ _ _ _ _ _
    refine wpAny_pure ?_
    show wpAny _ _ (ret Value.none) _ _ _
    refine wpAny_pure ⟨rfl, h', tk', num, rfl, hS', fun b o e => ?_⟩
    have lt0 : b < s.heap.objs.size := Heap.lt_size e
    refine hm.heap b o ?_ (Heap.get?_push_of_some _ (Heap.get?_push_of_some _ e))
    simp only [List.mem_cons, List.mem_singleton, List.not_mem_nil, or_false, not_or]
    refine ⟨Nat.ne_of_lt lt0, ?_⟩
    rw [Heap.size_push]; exact Nat.ne_of_lt (Nat.lt_succ_of_lt lt0)
end
end G

namespace G
open PySem PySem.Spec PyProof.Rows L2 TL Ty
/-! ### sorted(set(xs)), len(set(xs)), of texts -/
section
variable {P : Program} {w : World} {A : Around} {E : Value → Shared → Prop} {s : Shared} {a : Addr} {S : Str → Bool} {num : Nat}
theorem eachStr : ∀ {vs : List Value}, (∀ v ∈ vs, ∃ (x : Str) (k : Tok), v = Value.str x k) → ∃ ys : List Str, PySem.W.EachIs (fun v y => ∃ k, v = Value.str y k) vs ys ∧ vs.map (fun v => txt (0, v)) = ys
  | [], _ => ⟨[], .nil, rfl⟩
  | v :: vs, h => by
    obtain ⟨x, k, rfl⟩ := h _ List.mem_cons_self
    obtain ⟨ys, h1, h2⟩ := eachStr (vs := vs) fun u hu => h u (List.mem_cons_of_mem _ hu)
    exact ⟨x :: ys, .cons ⟨k, rfl⟩ h1, by rw [List.map_cons, h2]; rfl⟩
/-- sorted(a set of texts) -/
theorem sorted_txts {Q : Value → Shared → Prop} (R : TSet w s.heap a S num) (hh : A.handled = none) (hu : A.units + 80 < cLine)
    (hQ : ∀ s' p (out : List Value) (c : Nat) (ys : List Str), (∀ b o, s.heap.get? b = some o → s'.heap.get? b = some o) → s'.gens = s.gens → s'.os = s.os → s.heap.objs.size ≤ p →
      s'.heap.get? p = some (seqObj "list" out.toArray c) → PySem.W.EachIs (fun v y => ∃ k, v = Value.str y k) out (ys.mergeSort fun x y => decide (x.cps.toList ≤ y.cps.toList)) → ys.Nodup → (∀ x, x ∈ ys ↔ S x = true) → Q (.ref p) s') :
    wpAny (model P w) A (call (.builtin "sorted") [.ref a]) Q E s := by
  obtain ⟨ob, els, age, tb, h0, hx, hdt, g, nd, hm, hb, hf, hn, hr, hl⟩ := R
  refine Calls.call_function_entry kind_sorted plain_sorted entry_sorted (args_sorted1 _) ?_
  unfold Builtin.«sorted»
  refine wpAny_bind (m := checkCount "sorted" 1 1 _) (wpAny_pure ?_)
  refine wpAny_bind (collect_set (A := A.in1) hh ⟨ob, h0, hx.1, hdt⟩ hf hb hr hl fun s1 vs k1 hz g1 o1 pm => ?_)
  have allS : ∀ v ∈ vs, ∃ (x : Str) (k : Tok), v = Value.str x k := fun v hv => by
    obtain ⟨e, he, q⟩ := List.mem_map.mp (pm.mem_iff.mp hv)
    obtain ⟨x, k, h1, -⟩ := g e he
    exact ⟨x, k, by rw [← q]; exact h1⟩
  obtain ⟨ys, each, eys⟩ := eachStr allS
  have pk : ys.Perm (els.toList.map txt) := by
    rw [← eys]
    have := pm.map fun v => txt (0, v)
    rw [List.map_map] at this
    exact this
  have small : vs.length ≤ sizeLine := by
    have e : vs.length = els.size := by rw [pm.length_eq, List.length_map]; exact Array.length_toList
    exact fits_of_scanBound (by rw [e]; exact hb)
  refine wpAny_bind (wpAny_newList ?_ small)
  have hoL : (s1.heap.push (seqObj "list" vs.toArray 0)).get? s1.heap.objs.size = some (seqObj "list" vs.toArray 0) := Heap.get?_push_size _ rfl
  refine wpAny_bind (wpAny_holding (PySem.W.list_sort_data (vs := vs) (bs := ys) (enc := fun y => PyData.str y) (R := fun v y => ∃ k, v = Value.str y k) hoL each (each.mono fun v y ⟨k, e⟩ => ⟨[], by rw [e]; exact ⟨Reads.str _ _, by simp⟩⟩) (PySem.W.AllAlike.of fun x y => by simp only [PySem.W.alike]) (PySem.W.Sortable.others fun y => ⟨fun z => (by cases z), fun xs z => (by cases z)⟩) (by rw [← each.length]; exact small) (fun y _ => by have : A.in1.units = A.units + 1 := rfl; show A.in1.units + 1 + 0 < cLine; omega) fun out hol he => ?_))
  obtain ⟨c, hc⟩ := sortedHeap_at (vs := vs) (out := out.toArray) hoL
  refine wpAny_pure ⟨_, rfl, hQ _ s1.heap.objs.size out c ys (fun b u e => ?_) g1 o1 hz hc ?_ (pk.nodup_iff.mpr nd) fun x => by rw [pk.mem_iff, ← hm x]⟩
  · have q := k1 b u e
    have hlt := Heap.lt_size q
    show (sortedHeap (s1.heap.push (seqObj "list" vs.toArray 0)) s1.heap.objs.size vs out.toArray).get? b = some u
    rw [sortedHeap_old (Nat.ne_of_lt hlt) (by rw [size_push']; exact Nat.lt_succ_of_lt hlt)]
    exact Heap.get?_push_of_some _ q
  · rw [PySem.W.dataLe_str] at he
    exact he
end
theorem len_le_of {α : Type} [DecidableEq α] : ∀ {l m : List α}, l.Nodup → (∀ a, a ∈ l → a ∈ m) → l.length ≤ m.length
  | [], _, _, _ => Nat.zero_le _
  | a :: l, m, h, k => by
    obtain ⟨h1, h2⟩ := List.nodup_cons.mp h
    have h3 := len_le_of (m := m.erase a) h2 fun b hb => (List.mem_erase_of_ne (fun e : b = a => h1 (e ▸ hb))).mpr (k b (List.mem_cons_of_mem _ hb))
    have h4 := List.length_erase_of_mem (k a List.mem_cons_self)
    have h5 := List.length_pos_of_mem (k a List.mem_cons_self)
    rw [List.length_cons]; omega
theorem len_same {α : Type} [DecidableEq α] {l m : List α} (h : l.Nodup) (k : m.Nodup) (e : ∀ a, a ∈ l ↔ a ∈ m) : l.length = m.length := Nat.le_antisymm (len_le_of h fun a => (e a).mp) (len_le_of k fun a => (e a).mpr)
/-- what stands in order, each once -/
def sortS (ys : List Str) : List Str := ys.mergeSort fun x y => decide (x.cps.toList ≤ y.cps.toList)
section
variable {X : Cx} {K : PySem.W.Frag} {a : Expr} {ta : TE} {wa : WE} {p p2 q pos : Pos}
def tSSet (K : PySem.W.Frag) (ta : TE) : TE := fun σ H Q => ta σ H fun x H1 => ∃ (l : Addr) (ys : List Str), x = V.ref l ∧ (SqL K H1 l (ys.map V.str) ∨ SqT K H1 l (ys.map V.str)) ∧ ys.length + 1 < scanBound ∧
  ∀ (zs : List Str) (p : Addr), zs.Nodup → (∀ x, x ∈ zs ↔ x ∈ ys) → H1 p = none → Q (.ref p) (upd H1 p (.lst ((sortS zs).map V.str)))
def tLSet (K : PySem.W.Frag) (ta : TE) : TE := fun σ H Q => ta σ H fun x H1 => ∃ (l : Addr) (ys : List Str), x = V.ref l ∧ (SqL K H1 l (ys.map V.str) ∨ SqT K H1 l (ys.map V.str)) ∧ ys.length + 1 < scanBound ∧
  ∀ (n : Nat), (∃ zs : List Str, zs.Nodup ∧ (∀ x, x ∈ zs ↔ x ∈ ys) ∧ n = zs.length) → Q (.int n) H1
theorem vals_at : ∀ {ys : List Str} {us : List Value}, Vals (ys.map V.str) us → ∀ (i : Nat) (v : Value), us[i]? = some v → ∃ (x : Str) (k : Tok), ys[i]? = some x ∧ v = .str x k
  | [], _, .nil, i, v, h => by simp at h
  | y :: ys, u :: us, .cons r rs, 0, v, h => by
    obtain ⟨k, rfl⟩ := r
    simp at h
    exact ⟨y, k, rfl, h.symm⟩
  | y :: ys, u :: us, .cons r rs, i + 1, v, h => by
    obtain ⟨x, k, h1, h2⟩ := vals_at rs i v (by simpa using h)
    exact ⟨x, k, by simpa using h1, h2⟩
theorem each_back : ∀ {out : List Value} {ys : List Str}, PySem.W.EachIs (fun v y => ∃ k, v = Value.str y k) out ys → Vals (ys.map V.str) out
  | [], [], _ => .nil
  | _ :: _, _ :: _, .cons h r => .cons h (each_back r)
/-- set(xs), xs a list or a tuple of texts -/
theorem set_run {pins : List (Addr × Obj)} {σ : L2.St} {H : Hp} {s : Shared} {l : Addr} {ys : List Str} {A : Around} {E : Value → Shared → Prop} {Q : Value → Shared → Prop} (I : Inv X pins σ H s) (hh : A.handled = none) (hs : SqL X.K H l (ys.map V.str) ∨ SqT X.K H l (ys.map V.str)) (hb : ys.length + 1 < scanBound)
    (h : ∀ (b : Addr) (h' : Heap) (tk : Nat) num, TSet X.w h' b (fun y => decide (y ∈ ys)) num → Inv X pins σ H { s with heap := h', toks := tk } → Q (.ref b) { s with heap := h', toks := tk }) :
    wpAny (model X.prog X.w) A (call (.type "set") [.ref l]) Q E s := by
  rcases hs with hs | hs
  · obtain ⟨its, r, pl, hz⟩ := I.list hs
    refine call_txts_list ys hh pl.isList (fun i v hv => vals_at r i v (by simpa using hv)) (by simpa using r.length.symm) (fun _ => hb) fun h' tk num hS hk => ?_
    exact h _ h' tk num hS (I.kept fun b o e => hk b o e)
  · obtain ⟨its, r, pl, hz⟩ := I.tuple hs
    refine call_txts_tuple ys hh pl (fun i v hv => vals_at r i v (by simpa using hv)) (by simpa using r.length.symm) (fun _ => hb) fun h' tk num hS hk => ?_
    exact h _ h' tk num hS (I.kept fun b o e => hk b o e)
theorem pe_sset (g : X.A.guards = some []) (hc : X.calm = true) (hu : X.A.units + 84 < cLine) (hg : Gl X "sorted") (hm : X.mg "sorted" = none) (hg2 : Gl X "set") (hm2 : X.mg "set" = none) (ha : PE X a ta)
    (na : starEach [a] X.env = (false, eval a X.env) :: starEach [] X.env := by rfl) : PE X (.Call (.Name "sorted" p) [.Call (.Name "set" p2) [a] [] q] [] pos) (tSSet X.K ta) := by
  refine ⟨fun pins s σ H Q I h => ?_⟩
  refine Call_ (ld_blt I hg hm PyProof.Rows.boot_sorted ?_)
  refine PyProof.Rows.callWith_builtin1 (PyProof.Rows.args_cons ?_ rfl) rfl rfl
  refine Call_ (ld_blt I hg2 hm2 PyProof.Rows.boot_set ?_)
  refine PyProof.Rows.callWith_type1 (PyProof.Rows.args_cons (thn (ha.run pins s σ H _ I h) fun v s1 ⟨x, H1, I1, r1, q1⟩ => PyProof.Rows.args_nil ?_) na) na rfl
  obtain ⟨l, ys, rfl, hs, hb, q1⟩ := q1
  cases r1
  refine set_run I1 (I1.ok.hd hc) hs hb fun b h' tk num hS I2 => PyProof.Rows.args_nil ?_
  refine sorted_txts (s := { s1 with heap := h', toks := tk }) hS (I2.ok.hd hc) ?_ fun s' p out c zs keep e1 e2 hz hp he hn hmem => ?_
  · show X.A.units + 80 < cLine
    omega
  · have lz : zs.length ≤ ys.length := len_le_of hn fun x hx => by simpa using (hmem x).mp hx
    have small : (sortS zs).length ≤ sizeLine := by
      unfold sortS
      rw [List.length_mergeSort]
      exact fits_of_scanBound (by omega)
    have hH : H1 p = none := I2.hok.fresh hz
    have J : Inv X pins σ (upd H1 p (.lst ((sortS zs).map V.str))) { ({ s1 with heap := h', toks := tk } : Shared) with heap := s'.heap, gens := s'.gens, drawn := s'.drawn, toks := s'.toks } :=
      I2.call (ch := []) (Un.laid keep hz hH) (I2.hok.laid keep hz ⟨by rw [List.length_map]; exact small, out, c, each_back he, hp⟩) (by rw [e1]; exact I2.bare) (fun _ z => nomatch z)
    have es : s' = { s1 with heap := s'.heap, gens := s'.gens, drawn := s'.drawn, toks := s'.toks } := by
      cases s'
      cases s1
      cases e2
      rfl
    rw [es]
    exact ⟨.ref p, _, J, rfl, q1 zs p hn (fun x => (hmem x).trans (by simp)) hH⟩
theorem pe_lset (hc : X.calm = true) (hg : Gl X "len") (hm : X.mg "len" = none) (hg2 : Gl X "set") (hm2 : X.mg "set" = none) (ha : PE X a ta)
    (na : starEach [a] X.env = (false, eval a X.env) :: starEach [] X.env := by rfl) : PE X (.Call (.Name "len" p) [.Call (.Name "set" p2) [a] [] q] [] pos) (tLSet X.K ta) := by
  refine ⟨fun pins s σ H Q I h => ?_⟩
  refine Call_ (ld_blt I hg hm PySem.boot_len ?_)
  refine PyProof.Rows.callWith_builtin1 (PyProof.Rows.args_cons ?_ rfl) rfl rfl
  refine Call_ (ld_blt I hg2 hm2 PyProof.Rows.boot_set ?_)
  refine PyProof.Rows.callWith_type1 (PyProof.Rows.args_cons (thn (ha.run pins s σ H _ I h) fun v s1 ⟨x, H1, I1, r1, q1⟩ => PyProof.Rows.args_nil ?_) na) na rfl
  obtain ⟨l, ys, rfl, hs, hb, q1⟩ := q1
  cases r1
  refine set_run I1 (I1.ok.hd hc) hs hb fun b h' tk num hS I2 => PyProof.Rows.args_nil ?_
  obtain ⟨ob, els, age, tb, h0, hx, hdt, g, nd, hm, hb, hf, hn, hr, hl⟩ := hS
  refine call_len_set (s := { s1 with heap := h', toks := tk }) h0 hx hdt hf ?_ ⟨.int els.size, H1, I2.tok _, ⟨_, rfl⟩, q1 _ ⟨els.toList.map txt, nd, fun x => ?_, ?_⟩⟩
  · have := fits_of_scanBound hb
    unfold sizeLine at this
    omega
  · rw [← hm x]; simp
  · rw [List.length_map]; exact Array.length_toList.symm
/-! the readings -/
def wSSet (wa : WE) : WE := fun env P => wa env fun r e1 => ∃ ys : List Str, (r.get e1 = some (.list (ys.map .str)) ∨ r.get e1 = some (.tuple (ys.map .str))) ∧ ys.length ≤ 1000 ∧
  ∀ zs : List Str, zs.Nodup → (∀ x, x ∈ zs ↔ x ∈ ys) → P (.ow (.list ((sortS zs).map .str))) e1
def wLSet (wa : WE) : WE := fun env P => wa env fun r e1 => ∃ ys : List Str, (r.get e1 = some (.list (ys.map .str)) ∨ r.get e1 = some (.tuple (ys.map .str))) ∧ ys.length ≤ 1000 ∧
  ∀ zs : List Str, zs.Nodup → (∀ x, x ∈ zs ↔ x ∈ ys) → P (.fz (.int zs.length)) e1
theorem top_seq {Hz H : Hp} {v : V} {ys : List Str} (s : Same Hz H) {d : D} (t : Top K Hz H v d) (h : d = .list (ys.map .str) ∨ d = .tuple (ys.map .str)) : ∃ l, v = V.ref l ∧ (SqL K H l (ys.map V.str) ∨ SqT K H l (ys.map V.str)) := by
  rcases h with rfl | rfl
  · obtain ⟨l, xs, rfl, h1, h2⟩ := t.list s
    rw [reps_texts h2] at h1
    exact ⟨l, rfl, .inl h1⟩
  · obtain ⟨l, xs, rfl, h1, h2⟩ := t.tuple s
    rw [reps_texts h2] at h1
    exact ⟨l, rfl, .inr h1⟩
theorem reps_strs' {H : Hp} : ∀ ys : List Str, Reps K H (ys.map V.str) (ys.map PyData.str)
  | [] => .nil
  | y :: ys => .cons (.str y) (reps_strs' ys)
theorem se_sset (ha : SE K ta wa) : SE K (tSSet K ta) (wSSet wa) := by
  intro env σ Hz H P Q s w q
  refine ha env σ Hz H _ _ s w fun r e1 v Hz1 H1 ⟨ys, hy, hl, w1⟩ s1 g1 r1 => ?_
  obtain ⟨d, hd, hd2⟩ : ∃ d, r.get e1 = some d ∧ (d = .list (ys.map .str) ∨ d = .tuple (ys.map .str)) := hy.elim (fun h => ⟨_, h, .inl rfl⟩) fun h => ⟨_, h, .inr rfl⟩
  obtain ⟨l, rfl, hs⟩ := top_seq s1.sub (r1.top s1 hd) hd2
  refine ⟨l, ys, rfl, hs, by unfold scanBound; omega, fun zs p hn hm hp => ?_⟩
  obtain ⟨s2, g2, r2⟩ := new_ow (d := .list ((sortS zs).map .str)) (o := .lst ((sortS zs).map V.str)) s1 hp (reps_strs' _)
  exact q _ _ _ _ _ (w1 zs hn hm) s2 (g1.trans g2) (r2.back g1.dm)
theorem se_lset (ha : SE K ta wa) : SE K (tLSet K ta) (wLSet wa) := by
  intro env σ Hz H P Q s w q
  refine ha env σ Hz H _ _ s w fun r e1 v Hz1 H1 ⟨ys, hy, hl, w1⟩ s1 g1 r1 => ?_
  obtain ⟨d, hd, hd2⟩ : ∃ d, r.get e1 = some d ∧ (d = .list (ys.map .str) ∨ d = .tuple (ys.map .str)) := hy.elim (fun h => ⟨_, h, .inl rfl⟩) fun h => ⟨_, h, .inr rfl⟩
  obtain ⟨l, rfl, hs⟩ := top_seq s1.sub (r1.top s1 hd) hd2
  refine ⟨l, ys, rfl, hs, by unfold scanBound; omega, fun n ⟨zs, hn, hm, e⟩ => ?_⟩
  subst e
  exact q _ _ _ _ _ (w1 zs hn hm) s1 g1 (Rep.int _)
theorem ge_sset (g : X.A.guards = some []) (hu : X.A.units + 84 < cLine) (hg : Gl X "sorted") (hm : X.mg "sorted" = none) (hg2 : Gl X "set") (hm2 : X.mg "set" = none) (ha : GE X a ta wa) (hc : X.calm = true := by rfl)
    (na : starEach [a] X.env = (false, eval a X.env) :: starEach [] X.env := by rfl) : GE X (.Call (.Name "sorted" p) [.Call (.Name "set" p2) [a] [] q] [] pos) (tSSet X.K ta) (wSSet wa) := by
  obtain ⟨p1, s1⟩ := ha.ex
  exact ⟨pe_sset g hc hu hg hm hg2 hm2 p1 na, se_sset s1⟩
theorem ge_lset (hg : Gl X "len") (hm : X.mg "len" = none) (hg2 : Gl X "set") (hm2 : X.mg "set" = none) (ha : GE X a ta wa) (hc : X.calm = true := by rfl)
    (na : starEach [a] X.env = (false, eval a X.env) :: starEach [] X.env := by rfl) : GE X (.Call (.Name "len" p) [.Call (.Name "set" p2) [a] [] q] [] pos) (tLSet X.K ta) (wLSet wa) := by
  obtain ⟨p1, s1⟩ := ha.ex
  exact ⟨pe_lset hc hg hm hg2 hm2 p1 na, se_lset s1⟩
/-! of names -/
def ssetF (r : Option D) (k : R → Prop) : Prop := ∃ ys : List Str, (r = some (.list (ys.map .str)) ∨ r = some (.tuple (ys.map .str))) ∧ ys.length ≤ 1000 ∧ ∀ zs : List Str, zs.Nodup → (∀ x, x ∈ zs ↔ x ∈ ys) → k (.ow (.list ((sortS zs).map .str)))
def lsetF (r : Option D) (k : R → Prop) : Prop := ∃ ys : List Str, (r = some (.list (ys.map .str)) ∨ r = some (.tuple (ys.map .str))) ∧ ys.length ≤ 1000 ∧ ∀ zs : List Str, zs.Nodup → (∀ x, x ∈ zs ↔ x ∈ ys) → k (.fz (.int zs.length))
variable {env : Ev} {P : R → Ev → Prop}
theorem x_sset : wSSet wa env P = wa env fun r e1 => ssetF (r.get e1) (Shut (fun r => P r e1) .mk) := rfl
theorem x_lset : wLSet wa env P = wa env fun r e1 => lsetF (r.get e1) (Shut (fun r => P r e1) .mk) := rfl
theorem nm_str (xs : List Nm) : xs.map (en (α := Nm)) = (xs.map Nm.val).map PyData.str := by rw [List.map_map]; rfl
theorem nm_back {xs : List Nm} {zs : List Str} (hn : zs.Nodup) (hm : ∀ x, x ∈ zs ↔ x ∈ xs.map Nm.val) : ∃ ns : List Nm, zs = ns.map Nm.val ∧ ns.Nodup ∧ ∀ n, n ∈ ns ↔ n ∈ xs := by
  obtain ⟨ns, rfl, h⟩ := nms_in (ys := xs) (xs := zs) fun z hz => (hm z).mp hz
  have hn' := nodup_of_map _ hn
  refine ⟨ns, rfl, hn', fun n => ⟨h n, fun hx => ?_⟩⟩
  obtain ⟨m, hm1, e⟩ := List.mem_map.mp ((hm n.val).mpr (List.mem_map.mpr ⟨n, hx, rfl⟩))
  rw [← Nm.ext_iff.mpr e]; exact hm1
theorem sortS_nm (ns : List Nm) : sortS (ns.map Nm.val) = (srt ns).map Nm.val := by
  unfold sortS srt
  refine (PySem.W.sort_maps (f := Nm.val) (l := ns) fun a _ b _ => ?_).symm
  show (!decide (b.val.cps.toList < a.val.cps.toList)) = decide (a.val.cps.toList ≤ b.val.cps.toList)
  by_cases c : b.val.cps.toList < a.val.cps.toList
  · rw [decide_eq_true c, decide_eq_false (fun h => h c)]; rfl
  · rw [decide_eq_false c, decide_eq_true (show a.val.cps.toList ≤ b.val.cps.toList from c)]; rfl
theorem sset_of {xs : List Nm} {k : R → Prop} {zs : List Str} (h : k (.ow (eL (sdd xs)))) (hn : zs.Nodup) (hm : ∀ x, x ∈ zs ↔ x ∈ xs.map Nm.val) : k (.ow (.list ((sortS zs).map .str))) := by
  obtain ⟨ns, rfl, h1, h2⟩ := nm_back hn hm
  have e : srt ns = sdd xs := (sdd_uniq (srt_lt h1) fun a => mem_srt.trans (h2 a)).symm
  rw [sortS_nm, e, ← nm_str]
  exact h
theorem sset_e {xs : List Nm} {k : R → Prop} (hl : xs.length ≤ 1000) (h : k (.ow (eL (sdd xs)))) : ssetF (some (eL xs)) k := ⟨xs.map Nm.val, .inl (by unfold eL; rw [nm_str]), by rw [List.length_map]; exact hl, fun zs hn hm => sset_of h hn hm⟩
theorem sset_e' {xs : List Nm} {k : R → Prop} (hl : xs.length ≤ 1000) (h : k (.ow (eL (sdd xs)))) : ssetF (some (eT xs)) k := ⟨xs.map Nm.val, .inr (by unfold eT; rw [nm_str]), by rw [List.length_map]; exact hl, fun zs hn hm => sset_of h hn hm⟩
theorem lset_of {xs : List Nm} {k : R → Prop} {zs : List Str} (h : k (.fz (.int (dd xs).length))) (hn : zs.Nodup) (hm : ∀ x, x ∈ zs ↔ x ∈ xs.map Nm.val) : k (.fz (.int zs.length)) := by
  obtain ⟨ns, rfl, h1, h2⟩ := nm_back hn hm
  have e : ns.length = (dd xs).length := (len_same h1 (dd_nodup xs) fun a => (h2 a).trans mem_dd.symm)
  rw [List.length_map, e]
  exact h
theorem lset_e {xs : List Nm} {k : R → Prop} (hl : xs.length ≤ 1000) (h : k (.fz (.int (dd xs).length))) : lsetF (some (eL xs)) k := ⟨xs.map Nm.val, .inl (by unfold eL; rw [nm_str]), by rw [List.length_map]; exact hl, fun zs hn hm => lset_of h hn hm⟩
end
end G

namespace G
open PySem PySem.Spec L2 TL Ty
/-! ### flat tuples, read -/
section
variable {α β γ δ : Type} [Ty α] [Ty β] [Ty γ] [Ty δ] {a : α} {b : β} {c : γ} {d : δ} {t : T3 α β γ} {u : T4 α β γ δ} {ws : WGs} {env : Ev} {h : Ev → Prop} {k : R → Prop}
theorem t3_f : PyData.tuple [en a, en b, en c] = en (T3.mk a b c) := rfl
theorem t4_f : PyData.tuple [en a, en b, en c, en d] = en (T4.mk a b c d) := rfl
theorem gtup3 : wgTup 3 ws (en t) env h = ws [en t.a, en t.b, en t.c] env h := by
  show (3 = 3 ∧ _) = _
  exact propext ⟨fun h => h.2, fun h => ⟨rfl, h⟩⟩
theorem gtup4 : wgTup 4 ws (en u) env h = ws [en u.a, en u.b, en u.c, en u.d] env h := by
  show (4 = 4 ∧ _) = _
  exact propext ⟨fun h => h.2, fun h => ⟨rfl, h⟩⟩
theorem ixT3_0 : ixF (en t) (.int 0) k = k (.fz (en t.a)) := ixF_t0
theorem ixT3_1 : ixF (en t) (.int 1) k = k (.fz (en t.b)) := ixF_t1
theorem ixT3_2 : ixF (en t) (.int 2) k = k (.fz (en t.c)) := ixF_t2
end
/-- the items from n on, with their indexes -/
def idxN {α : Type} : Nat → List α → List (Nat × α)
  | _, [] => []
  | n, a :: l => (n, a) :: idxN (n + 1) l
theorem idx_from {α : Type} : ∀ (l : List α) (n : Nat), (l.zipIdx n).map (fun p => (p.2, p.1)) = idxN n l
  | [], _ => rfl
  | a :: l, n => by rw [List.zipIdx_cons, List.map_cons, idx_from l (n + 1)]; rfl
theorem idx_eq {α : Type} (l : List α) : idx l = idxN 0 l := idx_from l 0
theorem idxN_cons {α : Type} {n i : Nat} {a : α} {r : List α} {l : List (Nat × α)} (h : (i, a) :: l = idxN n r) : ∃ r', r = a :: r' ∧ i = n ∧ l = idxN (n + 1) r' := by
  cases r with
  | nil => cases h
  | cons b r =>
    have h : (i, a) :: l = (n, b) :: idxN (n + 1) r := h
    obtain ⟨h1, h2⟩ := List.cons.inj h
    cases h1
    exact ⟨r, rfl, rfl, h2⟩
theorem idxN_nil {α : Type} {n : Nat} {r : List α} (h : [] = idxN n r) : r = [] := by
  cases r with
  | nil => rfl
  | cons b r => cases h
theorem idxN_len {α : Type} : ∀ {l : List α} {n : Nat}, (idxN n l).length = l.length
  | [], _ => rfl
  | _ :: l, n => by rw [idxN, List.length_cons, idxN_len, List.length_cons]
instance : TyQ (T3 Nm Fate Fate) := .of
instance : TyQ (List (T3 Nm Fate Fate)) := .of
/-- the place that a fate tells -/
def plD : Fate → D
  | .front i => en (Fate.front i)
  | .back i => en (Fate.back i)
  | _ => .none
theorem shl_int {n : Nat} (h : n < 256) : Shl (.int (n : Int)) 3 := shl_nat h
theorem shl_fate {f : Fate} {m : Nat} (h : ∀ i, f = .front i ∨ f = .back i → i < 256) : Shl (en f) 60 := by
  cases f with
  | absent => exact ⟨by decide +kernel, by decide +kernel⟩
  | untouched => exact ⟨by decide +kernel, by decide +kernel⟩
  | front i =>
    refine (shl_tup (ds := [.str "front", .int (i : Int)]) (n := 20) fun d hd => ?_).le (by simp only [List.length_cons, List.length_nil]; omega)
    simp only [List.mem_cons, List.not_mem_nil, or_false] at hd
    rcases hd with rfl | rfl
    · exact shl_lit
    · exact (shl_int (h i (.inl rfl))).le (by decide)
  | back i =>
    refine (shl_tup (ds := [.str "back", .int (i : Int)]) (n := 20) fun d hd => ?_).le (by simp only [List.length_cons, List.length_nil]; omega)
    simp only [List.mem_cons, List.not_mem_nil, or_false] at hd
    rcases hd with rfl | rfl
    · exact shl_lit
    · exact (shl_int (h i (.inr rfl))).le (by decide)
theorem isF_fate {n : Bool} {f : Fate} {k : R → Prop} : isF n (en f) .none k = k (.fz (.bool n)) := by cases f <;> rfl
theorem ex_bd {q : Bool} {t : D} : (∃ (b : Bool) (d : D), q = b ∧ t = d) = True := eq_true ⟨q, t, rfl, rfl⟩
end G

namespace G
open PySem PySem.Spec L2 TL Ty
/-! ### the ends of a path; entries -/
inductive Ep | front | back
deriving DecidableEq
def Ep.s : Ep → Str
  | .front => "front" | .back => "back"
instance : Ty Ep := ⟨fun a => .str a.s⟩
def Fate.s : Fate → Str
  | .absent => "absent" | .untouched => "untouched" | .front _ => "front" | .back _ => "back"
instance : TyQ (T3 Nat Nm Ca) := .of
instance : TyQ (List (T3 Nat Nm Ca)) := .of
instance : TyQ (T3 Nat Nat Nm) := .of
instance : TyQ (List (T3 Nat Nat Nm)) := .of
instance : TyQ (Nat × Nm) := .of
instance : TyQ (List (Nat × Nm)) := .of
instance : TyQ (T4 Nat Nat Nm Ca) := .of
instance : TyQ (List (T4 Nat Nat Nm Ca)) := .of
section
variable {k : R → Prop} {f : Fate} {n : Nm} {c : Ca} {i j : Nat} {e : Ep} {α : Type} [Ty α] {xs : List α} {q : Prop}
theorem en_epf : en Ep.front = .str "front" := rfl
theorem en_epb : en Ep.back = .str "back" := rfl
theorem ixFa_0 : ixF (en f) (.int 0) k = k (.fz (.str f.s)) := by cases f <;> exact ixF_t0
theorem ixFa_1f : ixF (en (Fate.front i)) (.int 1) k = k (.fz (.int i)) := ixF_t1
theorem ixFa_1b : ixF (en (Fate.back i)) (.int 1) k = k (.fz (.int i)) := ixF_t1
theorem fs_a : Fate.absent.s = ("absent" : String) := rfl
theorem fs_u : Fate.untouched.s = ("untouched" : String) := rfl
theorem fs_f : (Fate.front i).s = ("front" : String) := rfl
theorem fs_b : (Fate.back i).s = ("back" : String) := rfl
theorem t3_i : PyData.tuple [.int (i : Int), en n, .str "in"] = en (T3.mk i n Ca.inn) := rfl
theorem t3_o : PyData.tuple [.int (i : Int), en n, .str "out"] = en (T3.mk i n Ca.out) := rfl
theorem t3_c : PyData.tuple [.int (i : Int), en n, en c] = en (T3.mk i n c) := rfl
theorem t2_n : PyData.tuple [.int (i : Int), en n] = en (i, n) := rfl
theorem t3_n : PyData.tuple [.int (i : Int), .int (j : Int), en n] = en (T3.mk i j n) := rfl
theorem ne0F_e {k : R → Prop} : ne0F (eL xs) (.list []) k = k (.fz (.bool (!decide (xs = [])))) := by
  cases xs with
  | nil => show ne0F (.list []) (.list []) k = _; simp [ne0F_l]
  | cons x xs => show ne0F (.list (en x :: xs.map en)) (.list []) k = _; simp [ne0F_l]
end
/-- one entry more -/
def jstep (acc : List Ent) (e : Ent) : List Ent := match acc.getLast? with
  | some l => if l.1 = e.1 then acc.dropLast ++ [(e.1, .both)] else acc ++ [e]
  | none => [e]
def joinE (es : List Ent) : List Ent := es.foldl jstep []
theorem jstep_le {acc : List Ent} {e : Ent} : (jstep acc e).length ≤ acc.length + 1 := by
  unfold jstep
  split
  · split
    · simp only [List.length_append, List.length_dropLast, List.length_cons, List.length_nil]; omega
    · simp
  · simp
theorem joinE_le (es : List Ent) : (joinE es).length ≤ es.length := by
  have : ∀ (es : List Ent) (acc : List Ent), (es.foldl jstep acc).length ≤ acc.length + es.length := by
    intro es
    induction es with
    | nil => exact fun acc => Nat.le_refl _
    | cons e es ih =>
      intro acc
      have := ih (jstep acc e)
      have := jstep_le (acc := acc) (e := e)
      rw [List.foldl_cons, List.length_cons]; omega
  have h := this es []
  rw [List.length_nil, Nat.zero_add] at h
  exact h
theorem ixN_m1 {n : Nat} (h : 0 < n) : ixN n (-1) = some (n - 1) := by
  unfold ixN
  simp only [show ((-1 : Int) + (n : Int)).toNat = n - 1 by omega]
  first
  | (rw [if_pos (by omega)]; done)
  | (rw [if_neg (by omega), if_pos (by omega)]; done)
  | (rw [if_pos (by omega), if_pos (by omega)]; done)
  | (split <;> first | (congr 1; omega) | omega | (split <;> first | (congr 1; omega) | omega))
theorem set_last {α : Type} (xs : List α) (a l : α) (h : xs.getLast? = some l) : xs.set (xs.length - 1) a = xs.dropLast ++ [a] := by
  obtain ⟨ys, rfl⟩ : ∃ ys, xs = ys ++ [l] := by
    rw [List.getLast?_eq_some_iff] at h; exact h
  simp
theorem pair_f {α β : Type} [Ty α] [Ty β] {a : α} {b : β} : PyData.tuple [en a, en b] = en (a, b) := rfl
theorem gg_tupK {X : Cx} {es : List Expr} {gs : TGs} {sl : List Nat} {ws : WGs} {pos : Pos} {k n : Nat} {K : PySem.W.Frag} (hK : X.K = K) (hc : X.calm = true) (h : GGs X es gs sl ws) (hn : (assignEach es X.env).length = n) (hst : (assignEach es X.env).findIdx? (·.1) = none) :
    GG X (.Tuple es k pos) (gTup K n gs) sl (wgTup n ws) := by
  subst hK
  exact gg_tup hc h hn hst
theorem eL_snoc2 {α : Type} [Ty α] {xs : List α} {a b : α} : PyData.list (xs.map en ++ [en a] ++ [en b]) = eL (xs ++ [a] ++ [b]) := by unfold eL; rw [List.map_append, List.map_append]; rfl
theorem cutA_btw {α : Type} {xs : List α} (i j : Nat) : cutA xs (some (i : Int)) (some (j : Int)) = (xs.drop i).take (j - i) := by
  unfold cutA
  rw [HT.sIx_nat, HT.sIx_nat]
  by_cases c : i ≤ xs.length
  · rw [Nat.min_eq_left c]
    by_cases d : j ≤ xs.length
    · rw [Nat.min_eq_left d]
    · rw [Nat.min_eq_right (by omega), List.take_of_length_le (by rw [List.length_drop]; omega), List.take_of_length_le (by rw [List.length_drop]; omega)]
  · rw [show min i xs.length = xs.length by omega, List.drop_of_length_le (Nat.le_refl _), List.drop_of_length_le (by omega : xs.length ≤ i)]; simp
theorem natc1 {i : Nat} : (i : Int) + 1 = ((i + 1 : Nat) : Int) := rfl
theorem natc2 {i : Nat} : (i : Int) + 2 = ((i + 2 : Nat) : Int) := rfl
theorem natcA {i j : Nat} : (i : Int) + (j : Int) = ((i + j : Nat) : Int) := rfl
theorem cut_dup {α : Type} {xs : List α} {i : Nat} : (xs.take i ++ (xs.drop i).take (i + 1 - i) ++ xs.drop i).length ≤ xs.length + 1 := by
  simp only [List.length_append, List.length_take, List.length_drop]; omega
theorem cut_swap {α : Type} {xs : List α} {i : Nat} : (xs.take i ++ ((xs.drop i).take (i + 2 - i)).reverse ++ xs.drop (i + 2)).length ≤ xs.length + 1 := by
  simp only [List.length_append, List.length_take, List.length_drop, List.length_reverse]; omega
end G

namespace G
open PySem PySem.Spec L2 TL Ty
/-! ### a def that changes its first argument, called with a new object -/
section
variable {K : PySem.W.Frag} {env env' : Ev} {σ : L2.St} {Hz H Hz' H' H0 Hz0 : Hp} {d d' : D} {p : Addr} {v : V} {r : R}
theorem own_ext {a : Addr} (h : Own (env ++ [.ow false d]) (σ ++ [some (.ref p)]) a) (l : env.length = σ.length) : Own env σ a ∨ a = p := by
  obtain ⟨i, q, d2, h1, h2⟩ := h
  rcases Nat.lt_or_ge i env.length with c | c
  · rw [List.getElem?_append_left c] at h1
    rw [List.getElem?_append_left (l ▸ c)] at h2
    exact .inl ⟨i, q, d2, h1, h2⟩
  · rw [List.getElem?_append_right c] at h1
    rw [List.getElem?_append_right (l ▸ c)] at h2
    have hi : i - env.length = 0 := by
      rcases Nat.lt_or_ge (i - env.length) 1 with k | k
      · omega
      · rw [List.getElem?_eq_none (by simpa using k)] at h1; cases h1
    rw [← l, hi] at h2
    simp at h2
    exact .inr h2.symm
theorem own_in {a : Addr} {u : E} {x : Option V} (h : Own env σ a) : Own (env ++ [u]) (σ ++ [x]) a := by
  obtain ⟨i, q, d2, h1, h2⟩ := h
  have c1 := (List.getElem?_eq_some_iff.mp h1).1
  have c2 := (List.getElem?_eq_some_iff.mp h2).1
  exact ⟨i, q, d2, by rw [List.getElem?_append_left c1]; exact h1, by rw [List.getElem?_append_left c2]; exact h2⟩
theorem st2_ext (s : St2 K env σ Hz H) {o : HO} (h1 : H p = some o) (h2 : Hz p = none) (h3 : ¬ Own env σ p) (h4 : RepO K Hz o d) : St2 K (env ++ [.ow false d]) (σ ++ [some (.ref p)]) Hz H := by
  have l := s.len
  have at_last : ∀ {i : Nat} {u : E}, env.length ≤ i → (env ++ [.ow false d])[i]? = some u → i = env.length ∧ u = .ow false d := fun {i u} c q => by
    rw [List.getElem?_append_right c] at q
    have hi : i - env.length = 0 := by
      rcases Nat.lt_or_ge (i - env.length) 1 with k | k
      · omega
      · rw [List.getElem?_eq_none (by simpa using k)] at q; cases q
    rw [hi] at q
    simp at q
    exact ⟨by omega, q.symm⟩
  refine ⟨by simp [l], s.sub, fun i u q => ?_, fun i j q1 q2 d1 d2 a e1 e2 k1 k2 => ?_⟩
  · rcases Nat.lt_or_ge i env.length with c | c
    · rw [List.getElem?_append_left c] at q
      obtain ⟨x, hx, ok⟩ := s.ent i u q
      exact ⟨x, by rw [List.getElem?_append_left (l ▸ c)]; exact hx, ok⟩
    · obtain ⟨rfl, rfl⟩ := at_last c q
      exact ⟨some (.ref p), by rw [l]; simp, p, o, rfl, h1, h2, h4⟩
  · rcases Nat.lt_or_ge i env.length with c | c <;> rcases Nat.lt_or_ge j env.length with c' | c'
    · rw [List.getElem?_append_left c] at e1
      rw [List.getElem?_append_left c'] at e2
      rw [List.getElem?_append_left (l ▸ c)] at k1
      rw [List.getElem?_append_left (l ▸ c')] at k2
      exact s.dis i j q1 q2 d1 d2 a e1 e2 k1 k2
    · obtain ⟨rfl, -⟩ := at_last c' e2
      rw [List.getElem?_append_left c] at e1
      rw [List.getElem?_append_left (l ▸ c)] at k1
      rw [l] at k2
      simp at k2
      subst k2
      exact absurd ⟨i, q1, d1, e1, k1⟩ h3
    · obtain ⟨rfl, -⟩ := at_last c e1
      rw [List.getElem?_append_left c'] at e2
      rw [List.getElem?_append_left (l ▸ c')] at k2
      rw [l] at k1
      simp at k1
      subst k1
      exact absurd ⟨j, q2, d2, e2, k2⟩ h3
    · rw [(at_last c e1).1, (at_last c' e2).1]
theorem st2_unext {u : E} {x : Option V} (s : St2 K (env ++ [u]) (σ ++ [x]) Hz H) : St2 K env σ Hz H := by
  have l : env.length = σ.length := by have := s.len; simpa using this
  refine ⟨l, s.sub, fun i u q => ?_, fun i j q1 q2 d1 d2 a e1 e2 k1 k2 => ?_⟩
  · have c := (List.getElem?_eq_some_iff.mp q).1
    obtain ⟨y, hy, ok⟩ := s.ent i u (by rw [List.getElem?_append_left c]; exact q)
    exact ⟨y, by rw [List.getElem?_append_left (l ▸ c)] at hy; exact hy, ok⟩
  · have c1 := (List.getElem?_eq_some_iff.mp e1).1
    have c2 := (List.getElem?_eq_some_iff.mp e2).1
    exact s.dis i j q1 q2 d1 d2 a (by rw [List.getElem?_append_left c1]; exact e1) (by rw [List.getElem?_append_left c2]; exact e2) (by rw [List.getElem?_append_left (l ▸ c1)]; exact k1) (by rw [List.getElem?_append_left (l ▸ c2)]; exact k2)
theorem go_unext {e0 : Ev} (l : env.length = σ.length) (hp : H0 p = none) (g : Go e0 σ Hz0 H0 env σ Hz H) (g' : Go (env ++ [.ow false d]) (σ ++ [some (.ref p)]) Hz H (env ++ [.ow false d']) (σ ++ [some (.ref p)]) Hz' H') : Go e0 σ Hz0 H0 env σ Hz' H' := by
  refine ⟨g.ez.trans g'.ez, fun a q => ?_, fun a o q n => ?_, fun a q => g'.dm a (g.dm a q), fun a q => g.ow a q, g.pin, rfl⟩
  · rcases g'.nz a q with z | z | z
    · exact g.nz a z
    · refine .inr (.inl ?_)
      cases c : H0 a with
      | none => rfl
      | some o => exact absurd z (g.dm a (by rw [c]; exact fun z => nomatch z))
    · rcases own_ext z l with z | z
      · rcases g.ow a z with z | z
        · exact .inr (.inr z)
        · exact .inr (.inl z)
      · exact .inr (.inl (z ▸ hp))
  · refine g'.kp a o (g.kp a o q n) fun z => ?_
    rcases own_ext z l with z | z
    · rcases g.ow a z with z | z
      · exact n z
      · rw [q] at z; cases z
    · rw [z, hp] at q; cases q
theorem repR_unext {u : E} {x : Option V} (l : env.length = σ.length) (nb : ∀ j, r ≠ .br j) (h : RepR K (env ++ [u]) (σ ++ [x]) H0 Hz H v r) : RepR K env σ H0 Hz H v r := by
  cases r with
  | fz d => exact h
  | br j => exact absurd rfl (nb j)
  | ow d =>
    obtain ⟨q, o, e, h0, h1, h2, h3, h4⟩ := h
    exact ⟨q, o, e, h0, h1, h2, fun z => h3 (own_in z), h4⟩
end
section
variable {X : Cx} {k n : Nat} {f : Addr} {fd : FuncData} {ps : List Str} {x : Str} {p pos : Pos} {e0 : Expr} {es : List Expr} {t : TA} {t0 : TE} {w0 : WE} {wa : WA2} {S : D → List D → (R → D → Prop) → Prop} {env : Ev} {P : R → Ev → Prop}
def isOw (r : R) (u : D → Prop) : Prop := match r with
  | .ow d => u d
  | _ => False
theorem isOw_o {d : D} {u : D → Prop} : isOw (.ow d) u = u d := rfl
def wCallN (n : Nat) (S : D → List D → (R → D → Prop) → Prop) (w0 : WE) (wa : WA2) : WE := fun env P => w0 env fun r0 e1 => isOw r0 fun d => wa e1 fun ds e2 => ds.length + 1 = n ∧ S d ds fun r _ => P r e2
theorem x_callN : wCallN n S w0 wa env P = w0 env fun r0 e1 => isOw r0 fun d => wa e1 fun ds e2 => ds.length + 1 = n ∧ S d ds (Shut (fun r _ => P r e2) .mk) := rfl
theorem ge_callN (F : FnG X.prog X.w X.K X.mg X.base k f fd n ps (spT X.K n S)) (g : X.A.guards = some []) (room : Room k X.A) (gl : Gl X x) (m : X.mg x = some (.ref f)) (kp : PySem.W.keepIn X.K (.ref f) = true) (b : Binds X.K fd ps [])
    (h0 : GE X e0 t0 w0) (ha : GA X es t wa) (hdb : (x == ("__debug__" : Str)) = false := by decide)
    (he : starEach (e0 :: es) X.env = (false, eval e0 X.env) :: starEach es X.env := by rfl) (hpl : (backTo pos (starEach es X.env)).any (·.1) = false := by rfl) :
    GE X (.Call (.Name x p) (e0 :: es) [] pos) (tCall (spT X.K n S) [] E0 (tCons t0 t)) (wCallN n S w0 wa) := by
  obtain ⟨p0, s0⟩ := h0.ex
  obtain ⟨pa, sa⟩ := ha.ex
  refine ⟨pe_callG F g room gl m kp b .nil (pa_cons p0 pa he) hdb he hpl, fun env σ Hz H P Q s w q => ?_⟩
  refine s0 env σ Hz H _ _ s w fun r0 e1 v0 Hz1 H1 w1 st1 g1 r1 => ?_
  cases r0 with
  | fz d => exact w1.elim
  | br i => exact w1.elim
  | ow d =>
    refine sa e1 σ Hz1 H1 _ _ st1 w1 fun ds e2 vs Hz2 H2 w2 st2 g2 r2 => ?_
    obtain ⟨pp, o, rfl, k0, k1, k2, k3, k4⟩ := r1.go g2
    have l2 := st2.len
    have sx := st2_ext st2 k1 k2 k3 k4
    have s2 : St2 X.K (.ow true d :: ds.map .fz) ((V.ref pp :: vs).map some) Hz2 H2 := by
      refine ⟨by simp [r2.len], st2.sub, fun j u q => ?_, fun j l p q d1 d2 c q1 q2 r1 r2 => ?_⟩
      · cases j with
        | zero =>
          have q : E.ow true d = u := by simpa using q
          subst q
          exact ⟨some (.ref pp), by simp, pp, o, rfl, k1, k2, k4⟩
        | succ j =>
          have q : (ds.map E.fz)[j]? = some u := by simpa using q
          rw [List.getElem?_map] at q
          cases c : ds[j]? with
          | none => rw [c] at q; cases q
          | some d2 =>
            rw [c] at q; cases q
            obtain ⟨v, j1, j2⟩ := r2.get c
            exact ⟨some v, by simp [j1], v, rfl, j2⟩
      · have z : ∀ {j : Nat} {p : Bool} {d1 : D}, (E.ow true d :: ds.map .fz)[j]? = some (.ow p d1) → j = 0 := fun {j p d1} q => by
          cases j with
          | zero => rfl
          | succ j =>
            have q : (ds.map E.fz)[j]? = some (.ow p d1) := by simpa using q
            rw [List.getElem?_map] at q
            cases c : ds[j]? with
            | none => rw [c] at q; cases q
            | some d2 => rw [c] at q; cases q
        rw [z q1, z q2]
    refine ⟨Hz2, d, ds, _, w2.1, by rw [List.append_nil]; exact s2, w2.2, fun r d' v Hz3 H3 w3 nb s3 g3 rr => ?_⟩
    rw [List.append_nil] at s3 g3 rr
    obtain ⟨a1, a2, a3⟩ := after_callT (i := e2.length) (b := false) (d := d) sx (by simp) (by rw [l2]; simp) s3 g3 rr nb
    have es : (e2 ++ [E.ow false d]).set e2.length (.ow false d') = e2 ++ [.ow false d'] := by simp
    rw [es] at a1 a2 a3
    have g12 := g1.trans g2
    have gf := go_unext l2 k0 g12 a2
    exact q _ _ _ _ _ w3 (st2_unext a1) gf ((repR_unext l2 nb a3).back g12.dm)
end
end G

namespace G
open PySem PySem.Spec L2 TL Ty
/-! ### xs.pop() -/
section
variable {X : Cx} {K : PySem.W.Frag} {y : Str} {py apos cpos : Pos} {env : Ev} {P : R → Ev → Prop}
def wPop (i : Nat) : WE := fun env P => isOL env[i]? fun q ds => Ex ds[ds.length - 1]? fun d => P (.fz d) (env.set i (.ow q (.list ds.dropLast)))
theorem Reps.dropLast {H : Hp} {vs : List V} {ds : List D} (r : Reps K H vs ds) : Reps K H vs.dropLast ds.dropLast := by
  rw [List.dropLast_eq_take, List.dropLast_eq_take, r.len]
  exact r.take _
theorem se_pop {i : Nat} : SE K (tBM0 K "list" rPop (tVar i)) (wPop i) := by
  intro env σ Hz H P Q s w q
  unfold wPop isOL at w
  split at w
  · rename_i qq ds e
    obtain ⟨d, hd, w⟩ := w
    obtain ⟨a, xs, ea, h1, h2, h3⟩ := own_at s e
    obtain ⟨v, hv, rv⟩ := h3.get hd
    refine ⟨_, ea, tyl h1, ?_⟩
    obtain ⟨s2, g2⟩ := upd_own (o := .lst xs.dropLast) (d' := .list ds.dropLast) s e ea h3.dropLast
    exact ⟨a, xs, v, rfl, rfl, h1, by rw [h3.len]; exact hv, q _ _ _ _ _ w s2 g2 (rv.mono g2.ez)⟩
  · exact w.elim
theorem ge_pop (i : Nat) (hN : X.N[i]? = some y := by rfl) (hv : Vis X.env.scope y := by first | exact Or.inl rfl | exact Or.inr (Or.inl rfl) | exact Or.inr (Or.inr rfl)) (hd : (y == ("__debug__" : Str)) = false := by decide) (hcd : (y == ("__classdict__" : Str)) = false := by decide)
    (hbase : attributeBase (.Name y py) "pop" X.env (eval (.Name y py) X.env) = eval (.Name y py) X.env := by rfl) (hline : (apos.endLine == cpos.line) = true := by rfl) :
    GE X (.Call (.Attribute (.Name y py) "pop" apos) [] [] cpos) (tBM0 X.K "list" rPop (tVar i)) (wPop i) :=
  ⟨pe_bm0 PySem.F.plainAttrs_list PySem.F.slot_list_pop PySem.F.type_list_pop mt_pop (pe_var hN hv hd hcd) hbase hline, se_pop⟩
theorem x_pop {i : Nat} : wPop i env P = isOL env[i]? fun q ds => Ex ds[ds.length - 1]? (Shut (fun d => P (.fz d) (env.set i (.ow q (.list ds.dropLast)))) .mk) := rfl
theorem eL_drop {α : Type} [Ty α] {xs : List α} : PyData.list (xs.map en).dropLast = eL xs.dropLast := by unfold eL; rw [List.map_dropLast]
theorem eL_i1 {i : Int} : PyData.list [.int i] = eL [i] := rfl
end
theorem nat1c {i : Nat} : (1 : Int) + (i : Int) = ((1 + i : Nat) : Int) := rfl
theorem nl0 : ((0 : Nat) : Int) = 0 := rfl
theorem nl1 : ((1 : Nat) : Int) = 1 := rfl
theorem nl2 : ((2 : Nat) : Int) = 2 := rfl
theorem nl3 : ((3 : Nat) : Int) = 3 := rfl
theorem nl4 : ((4 : Nat) : Int) = 4 := rfl
theorem nl5 : ((5 : Nat) : Int) = 5 := rfl
theorem nl6 : ((6 : Nat) : Int) = 6 := rfl
theorem nl7 : ((7 : Nat) : Int) = 7 := rfl
theorem nl8 : ((8 : Nat) : Int) = 8 := rfl
theorem nl9 : ((9 : Nat) : Int) = 9 := rfl
theorem nl10 : ((10 : Nat) : Int) = 10 := rfl
theorem nl11 : ((11 : Nat) : Int) = 11 := rfl
theorem nl12 : ((12 : Nat) : Int) = 12 := rfl
theorem cm_keep_skip {n : Nm} : PyData.tuple [en n, .str "keep", .str "skip"] = en (Cm.mk n .keep .skip) := rfl
theorem cm_keep_front {n : Nm} : PyData.tuple [en n, .str "keep", .str "front"] = en (Cm.mk n .keep .front) := rfl
theorem cm_keep_back {n : Nm} : PyData.tuple [en n, .str "keep", .str "back"] = en (Cm.mk n .keep .back) := rfl
theorem cm_front_skip {n : Nm} : PyData.tuple [en n, .str "front", .str "skip"] = en (Cm.mk n .front .skip) := rfl
theorem cm_front_front {n : Nm} : PyData.tuple [en n, .str "front", .str "front"] = en (Cm.mk n .front .front) := rfl
theorem cm_front_back {n : Nm} : PyData.tuple [en n, .str "front", .str "back"] = en (Cm.mk n .front .back) := rfl
theorem cm_back_skip {n : Nm} : PyData.tuple [en n, .str "back", .str "skip"] = en (Cm.mk n .back .skip) := rfl
theorem cm_back_front {n : Nm} : PyData.tuple [en n, .str "back", .str "front"] = en (Cm.mk n .back .front) := rfl
theorem cm_back_back {n : Nm} : PyData.tuple [en n, .str "back", .str "back"] = en (Cm.mk n .back .back) := rfl
theorem cm_remove_skip {n : Nm} : PyData.tuple [en n, .str "remove", .str "skip"] = en (Cm.mk n .remove .skip) := rfl
theorem cm_remove_front {n : Nm} : PyData.tuple [en n, .str "remove", .str "front"] = en (Cm.mk n .remove .front) := rfl
theorem cm_remove_back {n : Nm} : PyData.tuple [en n, .str "remove", .str "back"] = en (Cm.mk n .remove .back) := rfl
end G

namespace G
open PySem PySem.Spec L2 TL Ty
/-! ### own lists lent to a def that only reads them -/
mutual
/-- data with no list or dict in it -/
def noL : D → Bool
  | .list _ => false
  | .dict _ => false
  | .tuple ds => noLs ds
  | _ => true
def noLs : List D → Bool
  | [] => true
  | d :: ds => noL d && noLs ds
end
section
variable {K : PySem.W.Frag} {Hz Hz' : Hp}
theorem sqT_drop (h : ∀ a, Hz' a = Hz a ∨ ∃ xs, Hz a = some (.lst xs)) {a : Addr} {xs : List V} (q : SqT K Hz a xs) : SqT K Hz' a xs := by
  rcases q with (q | ⟨o, q⟩) | q
  · rcases h a with e | ⟨ys, e⟩
    · exact .inl (.inl (e.trans q))
    · rw [q] at e; cases e
  · rcases h a with e | ⟨ys, e⟩
    · exact .inl (.inr ⟨o, e.trans q⟩)
    · rw [q] at e; cases e
  · exact .inr q
mutual
theorem Rep.unlend (h : ∀ a, Hz' a = Hz a ∨ ∃ xs, Hz a = some (.lst xs)) : ∀ {v : V} {d : D}, Rep K Hz v d → noL d = true → Rep K Hz' v d
  | _, _, .non, _ => .non
  | _, _, .bl b, _ => .bl b
  | _, _, .int b, _ => .int b
  | _, _, .str b, _ => .str b
  | _, _, .lst h1 r, n => by simp [noL] at n
  | _, _, .tup h1 r, n => .tup (sqT_drop h h1) (Reps.unlend h r (by simpa [noL] using n))
  | _, _, .dic h1 r, n => by simp [noL] at n
  | _, _, .dit h1 r, n => by simp [noL] at n
theorem Reps.unlend (h : ∀ a, Hz' a = Hz a ∨ ∃ xs, Hz a = some (.lst xs)) : ∀ {v : List V} {d : List D}, Reps K Hz v d → noLs d = true → Reps K Hz' v d
  | _, _, .nil, _ => .nil
  | _, _, .cons h1 r, n => by
    simp only [noLs, Bool.and_eq_true] at n
    exact .cons (Rep.unlend h h1 n.1) (Reps.unlend h r n.2)
end
end
/-- what a def may hand back of what it was lent -/
def noLR : R → Prop
  | .fz d => noL d = true
  | .ow (.list ds) => noLs ds = true
  | _ => False
/-- arguments; own lists may be lent -/
def SAR (K : PySem.W.Frag) (t : TA) (w : WA) : Prop := ∀ (env : Ev) (σ : L2.St) (Hz H : Hp) (P : List R → Ev → Prop) (Q : List V → Hp → Prop), St2 K env σ Hz H → w env P →
  (∀ rs env' vs Hz' H', P rs env' → St2 K env' σ Hz' H' → Go env σ Hz H env' σ Hz' H' → RepRs K env' σ H Hz' H' vs rs → Q vs H') → t σ H Q
structure GAR (X : Cx) (es : List Expr) (t : TA) (w : WA) : Prop where
  ex : PA X es t ∧ SAR X.K t w
def wrNil : WA := fun env P => P [] env
def wrCons (w : WE) (wr : WA) : WA := fun env P => w env fun r e1 => wr e1 fun rs e2 => P (r :: rs) e2
section
variable {X : Cx} {K : PySem.W.Frag} {e : Expr} {es : List Expr} {t : TE} {tr : TA} {w : WE} {wr : WA}
theorem gar_nil : GAR X [] tNil wrNil := ⟨pa_nil, fun env σ Hz H P Q s w q => q _ _ _ _ _ w s .refl .nil⟩
theorem gar_cons (h : GE X e t w) (hr : GAR X es tr wr) (hs : starEach (e :: es) X.env = (false, eval e X.env) :: starEach es X.env := by rfl) : GAR X (e :: es) (tCons t tr) (wrCons w wr) := by
  obtain ⟨p, sa⟩ := h.ex
  obtain ⟨p', sb⟩ := hr.ex
  refine ⟨pa_cons p p' hs, fun env σ Hz H P Q s w q => ?_⟩
  refine sa env σ Hz H _ _ s w fun r e1 v Hz1 H1 w1 s1 g1 r1 => ?_
  refine sb e1 σ Hz1 H1 _ _ s1 w1 fun rs e2 vs Hz2 H2 w2 s2 g2 r2 => ?_
  refine q _ _ _ _ _ w2 s2 (g1.trans g2) (.cons (r1.go g2) ?_)
  clear w2 q
  induction r2 with
  | nil => exact .nil
  | cons a b ih => exact .cons (a.back g1.dm) ih
end
/-- the lists that are lent -/
def Lent (env : Ev) (σ : L2.St) (rs : List R) (a : Addr) : Prop := ∃ i, R.br i ∈ rs ∧ σ[i]? = some (some (.ref a)) ∧ ∃ q d, env[i]? = some (.ow q d)
/-- data of arguments -/
def argD (env : Ev) : R → Option D
  | .fz d => some d
  | .br i => match env[i]? with
    | some (.ow _ (.list ds)) => some (.list ds)
    | some (.fz d) => some d
    | _ => none
  | .ow _ => none
section
variable {K : PySem.W.Frag} {env : Ev} {σ : L2.St} {Hz H H0 Hz' H' : Hp} {rs : List R} {vs : List V} {ds : List D}
open Classical in
noncomputable def lendH (env : Ev) (σ : L2.St) (Hz H : Hp) (rs : List R) : Hp := fun a => if Lent env σ rs a then H a else Hz a
theorem lend_same (s : St2 K env σ Hz H) : Same (lendH env σ Hz H rs) H := fun a o e => by
  unfold lendH at e
  split at e
  · exact e
  · exact s.sub a o e
theorem lend_up (s : St2 K env σ Hz H) : Same Hz (lendH env σ Hz H rs) := fun a o e => by
  unfold lendH
  split
  · exact s.sub a o e
  · exact e
theorem lent_own {a : Addr} (h : Lent env σ rs a) : Own env σ a := by
  obtain ⟨i, _, h1, q, d, h2⟩ := h
  exact ⟨i, q, d, h2, h1⟩
theorem lend_reps (s : St2 K env σ Hz H) : ∀ {rs' : List R} {vs : List V} {ds : List D}, (∀ r ∈ rs', r ∈ rs) → RepRs K env σ H0 Hz H vs rs' → rs'.map (argD env) = ds.map some → Reps K (lendH env σ Hz H rs) vs ds
  | [], _, ds, _, .nil, e => by
    cases ds with
    | nil => exact .nil
    | cons => cases e
  | r :: rs', v :: vs, ds, hin, .cons h hr, e => by
    cases ds with
    | nil => cases e
    | cons d ds =>
      rw [List.map_cons, List.map_cons] at e
      obtain ⟨e1, e2⟩ := List.cons.inj e
      refine .cons ?_ (lend_reps s (fun r hr => hin r (List.mem_cons_of_mem _ hr)) hr e2)
      cases r with
      | fz d' =>
        cases e1
        exact Rep.mono (lend_up s) h
      | ow d' => cases e1
      | br i =>
        have h : σ[i]? = some (some v) := h
        have e1 : (match env[i]? with | some (.ow _ (.list ds)) => some (PyData.list ds) | some (.fz d) => some d | _ => none) = some d := e1
        cases q : env[i]? with
        | none => rw [q] at e1; cases e1
        | some u =>
          rw [q] at e1
          obtain ⟨x, hx, ok⟩ := s.ent i u q
          rw [h] at hx
          cases hx
          cases u with
          | un => cases e1
          | fz d' =>
            cases e1
            obtain ⟨y, z, ok⟩ := ok
            cases z
            exact Rep.mono (lend_up s) ok
          | ow p d' =>
            obtain ⟨a, o, z, h1, h2, h3⟩ := ok
            cases z
            cases d' <;> first | (cases e1; done) | skip
            cases e1
            have la : lendH env σ Hz H rs a = some o := by
              unfold lendH
              rw [if_pos ⟨i, hin _ List.mem_cons_self, h, p, _, q⟩]
              exact h1
            exact (h3.mono (lend_up s)).rep la
/-- behind the call -/
theorem after_lend {v : V} {r : R} (s : St2 K env σ Hz H) (hl : ∀ i, R.br i ∈ rs → ∀ q d, env[i]? = some (.ow q d) → ∃ ds, d = .list ds) (ez : Same (lendH env σ Hz H rs) Hz') (eh : Same H H') (sub : Same Hz' H') (nw : ∀ a, Hz' a ≠ none → lendH env σ Hz H rs a ≠ none ∨ H a = none) (rr : RepR K [] [] H Hz' H' v r) (nr : noLR r) :
    ∃ Hz2, St2 K env σ Hz2 H' ∧ Go env σ Hz H env σ Hz2 H' ∧ RepR K env σ H Hz2 H' v r := by
  classical
  let Hz2 : Hp := fun a => if Lent env σ rs a then none else Hz' a
  have lst : ∀ a, Lent env σ rs a → ∃ xs, H a = some (.lst xs) := fun a ⟨i, h1, h2, q, d, h3⟩ => by
    obtain ⟨ds, rfl⟩ := hl i h1 q d h3
    obtain ⟨x, hx, b, o, z, k1, k2, k3⟩ := s.ent i _ h3
    rw [h2] at hx
    cases hx
    cases z
    cases o <;> first | exact ⟨_, k1⟩ | exact k3.elim
  have drop : ∀ a, Hz2 a = Hz' a ∨ ∃ xs, Hz' a = some (.lst xs) := fun a => by
    by_cases c : Lent env σ rs a
    · obtain ⟨xs, hx⟩ := lst a c
      exact .inr ⟨xs, ez a _ (by unfold lendH; rw [if_pos c]; exact hx)⟩
    · exact .inl (if_neg c)
  have up : Same Hz Hz2 := fun a o e => by
    have c : ¬ Lent env σ rs a := fun c => by
      have := (Own.lt s (lent_own c)).1
      rw [this] at e; cases e
    show (if Lent env σ rs a then none else Hz' a) = some o
    rw [if_neg c]
    exact ez a o (by unfold lendH; rw [if_neg c]; exact e)
  have sub2 : Same Hz2 H' := fun a o e => by
    have e : (if Lent env σ rs a then none else Hz' a) = some o := e
    by_cases c : Lent env σ rs a
    · rw [if_pos c] at e; cases e
    · rw [if_neg c] at e; exact sub a o e
  have nz : ∀ a, Hz2 a ≠ none → Hz a ≠ none ∨ H a = none := fun a q => by
    have q : (if Lent env σ rs a then none else Hz' a) ≠ none := q
    by_cases c : Lent env σ rs a
    · rw [if_pos c] at q; exact absurd rfl q
    · rw [if_neg c] at q
      rcases nw a q with z | z
      · refine .inl ?_
        unfold lendH at z
        rw [if_neg c] at z; exact z
      · exact .inr z
  have s' : St2 K env σ Hz2 H' := s.more up eh sub2 fun a o => by
    obtain ⟨h1, u, h2⟩ := Own.lt s o
    cases c : Hz2 a with
    | none => rfl
    | some u =>
      rcases nz a (by rw [c]; exact fun z => nomatch z) with z | z
      · exact absurd h1 z
      · rw [h2] at z; cases z
  refine ⟨Hz2, s', ⟨up, fun a q => (nz a q).imp id .inl, fun a o q _ => eh a o q, fun a q z => ?_, fun a q => .inl q, fun i d q => ⟨⟨d, q⟩, rfl⟩, rfl⟩, ?_⟩
  · obtain ⟨o, q⟩ := ne_none q
    rw [eh a o q] at z; cases z
  · cases r with
    | fz d => exact Rep.unlend drop rr nr
    | br i => exact nr.elim
    | ow d =>
      obtain ⟨pp, o, e, h0, h1, h2, h3, h4⟩ := rr
      refine ⟨pp, o, e, h0, h1, ?_, fun q => own_ne s h0 q rfl, ?_⟩
      · show (if Lent env σ rs pp then none else Hz' pp) = none
        split
        · rfl
        · exact h2
      · cases d <;> first | exact nr.elim | skip
        cases o <;> first | exact h4.elim | skip
        exact Reps.unlend drop h4 nr
end
section
variable {X : Cx} {k n : Nat} {f : Addr} {fd : FuncData} {ps : List Str} {x : Str} {p pos : Pos} {e : Expr} {es : List Expr} {t : TA} {wa : WA} {S : List D → (R → Prop) → Prop} {env : Ev} {P : R → Ev → Prop}
def LentOk (env : Ev) (rs : List R) : Prop := ∀ i, R.br i ∈ rs → ∀ q d, env[i]? = some (.ow q d) → ∃ ds, d = .list ds
def argsD (env : Ev) : List R → Option (List D)
  | [] => some []
  | r :: rs => match argD env r, argsD env rs with
    | some d, some ds => some (d :: ds)
    | _, _ => none
theorem argsD_map {env : Ev} : ∀ {rs : List R} {ds : List D}, argsD env rs = some ds → rs.map (argD env) = ds.map some
  | [], ds, e => by cases e; rfl
  | r :: rs, ds, e => by
    unfold argsD at e
    split at e
    · rename_i d ds' h1 h2
      cases e
      rw [List.map_cons, List.map_cons, h1, argsD_map h2]
    · cases e
theorem lentOk_of {env : Ev} : ∀ {rs : List R} {ds : List D}, argsD env rs = some ds → LentOk env rs
  | [], ds, e => fun i h => by simp at h
  | r :: rs, ds, e => fun i h q d hq => by
    unfold argsD at e
    split at e
    · rename_i d' ds' h1 h2
      rcases List.mem_cons.mp h with h | h
      · subst h
        have h1 : (match env[i]? with | some (.ow _ (.list ds)) => some (PyData.list ds) | some (.fz d) => some d | _ => none) = some d' := h1
        rw [hq] at h1
        cases d <;> first | exact ⟨_, rfl⟩ | cases h1
      · exact lentOk_of h2 i h q d hq
    · cases e
def wCallB (n : Nat) (S : List D → (R → Prop) → Prop) (wa : WA) : WE := fun env P => wa env fun rs e1 => Ex (argsD e1 rs) fun ds => ds.length = n ∧ S ds fun r => noLR r ∧ P r e1
theorem ge_callB (F : FnG X.prog X.w X.K X.mg X.base k f fd n ps (spF X.K n S)) (g : X.A.guards = some []) (room : Room k X.A) (gl : Gl X x) (m : X.mg x = some (.ref f)) (kp : PySem.W.keepIn X.K (.ref f) = true) (b : Binds X.K fd ps [])
    (ha : GAR X (e :: es) t wa) (hdb : (x == ("__debug__" : Str)) = false := by decide) (he : starEach (e :: es) X.env = (false, eval e X.env) :: starEach es X.env := by rfl) (hpl : (backTo pos (starEach es X.env)).any (·.1) = false := by rfl) :
    GE X (.Call (.Name x p) (e :: es) [] pos) (tCall (spF X.K n S) [] E0 t) (wCallB n S wa) := by
  obtain ⟨p, sa⟩ := ha.ex
  refine ⟨pe_callG F g room gl m kp b .nil p hdb he hpl, fun env σ Hz H P Q s w q => sa env σ Hz H _ _ s w fun rs e1 vs Hz1 H1 ⟨ds, hd, w1⟩ s1 g1 r1 => ?_⟩
  refine ⟨lendH e1 σ Hz1 H1 rs, ds, _, w1.1, lend_same s1, by rw [List.append_nil]; exact lend_reps s1 (fun _ h => h) r1 (argsD_map hd), w1.2, fun r v Hz2 H2 w2 ez eh sub nw rr => ?_⟩
  obtain ⟨Hz3, s3, g3, r3⟩ := after_lend s1 (lentOk_of hd) ez eh sub nw rr w2.1
  exact q _ _ _ _ _ w2.2 s3 (g1.trans g3) (r3.back g1.dm)
theorem x_callB : wCallB n S wa env P = wa env fun rs e1 => Ex (argsD e1 rs) (Shut (fun ds => ds.length = n ∧ S ds (Shut (fun r => noLR r ∧ P r e1) .mk)) .mk) := rfl
end
section
variable {K : PySem.W.Frag} {X : Cx} {e : Expr} {t : TE} {w : WE} {env : Ev} {P : R → Ev → Prop} {u : List R → Ev → Prop} {wr : WA}
def wFrz (w : WE) : WE := fun env P => w env fun r e1 => isSome r.fzd fun d => P (.fz d) e1
theorem ge_frz (h : GE X e t w) : GE X e t (wFrz w) := by
  obtain ⟨p, s⟩ := h.ex
  refine ⟨p, fun env σ Hz H P Q s0 w0 q => s env σ Hz H _ _ s0 w0 fun r e1 v Hz1 H1 w1 s1 g1 r1 => ?_⟩
  cases er : r.fzd with
  | none => rw [er] at w1; exact w1.elim
  | some d =>
    rw [er] at w1
    obtain ⟨Hz', s', g', ez, _, rp⟩ := freezeR s1 g1 r1 er
    exact q _ _ _ _ _ w1 s' g' rp
theorem x_frz : wFrz w env P = w env fun r e1 => isSome r.fzd fun d => P (.fz d) e1 := rfl
theorem x_rnil : wrNil env u = u [] env := rfl
theorem x_rcons : wrCons w wr env u = w env fun r e1 => wr e1 fun rs e2 => u (r :: rs) e2 := rfl
def argB (o : Option E) : Option D := match o with
  | some (.ow _ (.list ds)) => some (.list ds)
  | some (.fz d) => some d
  | _ => none
def consO (a : Option D) (b : Option (List D)) : Option (List D) := match a, b with
  | some d, some ds => some (d :: ds)
  | _, _ => none
variable {r : R} {rs : List R} {d : D} {ds : List D} {i : Nat} {q : Bool} {α : Type} [Ty α] {xs : List α}
theorem argsD_n : argsD env [] = some [] := rfl
theorem argsD_c : argsD env (r :: rs) = consO (argD env r) (argsD env rs) := rfl
theorem consO_s : consO (some d) (some ds) = some (d :: ds) := rfl
theorem argD_f : argD env (.fz d) = some d := rfl
theorem argD_b : argD env (.br i) = argB env[i]? := rfl
theorem argB_l : argB (some (.ow q (.list ds))) = some (.list ds) := rfl
theorem argB_e : argB (some (.ow q (eL xs))) = some (eL xs) := rfl
theorem argB_f : argB (some (.fz d)) = some d := rfl
/-- typed data with no list in it -/
class NoL (α : Type) [Ty α] : Prop where
  no : ∀ a : α, noL (en a) = true
theorem noLs_map [NoL α] : ∀ xs : List α, noLs (xs.map en) = true
  | [] => rfl
  | x :: xs => by rw [List.map_cons, noLs, NoL.no, noLs_map xs]; rfl
instance : NoL Nm := ⟨fun _ => by simp only [en, noL]⟩
instance : NoL Nat := ⟨fun _ => by simp only [en, noL]⟩
instance : NoL Int := ⟨fun _ => by simp only [en, noL]⟩
instance : NoL Bool := ⟨fun _ => by simp only [en, noL]⟩
instance : NoL Ins := ⟨fun _ => by simp only [en, noL]⟩
instance : NoL Out := ⟨fun _ => by simp only [en, noL]⟩
instance : NoL Ca := ⟨fun _ => by simp only [en, noL]⟩
instance : NoL Fate := ⟨fun f => by cases f <;> simp only [en, noL, noLs, Bool.and_self]⟩
instance : NoL Cm := ⟨fun c => by show noL (.tuple [en c.nm, en c.ins, en c.out]) = true; simp only [noL, noLs, NoL.no, Bool.and_self]⟩
instance {α β : Type} [Ty α] [Ty β] [NoL α] [NoL β] : NoL (α × β) := ⟨fun c => by show noL (.tuple [en c.1, en c.2]) = true; simp only [noL, noLs, NoL.no, Bool.and_self]⟩
instance {α β γ : Type} [Ty α] [Ty β] [Ty γ] [NoL α] [NoL β] [NoL γ] : NoL (T3 α β γ) := ⟨fun c => by show noL (.tuple [en c.a, en c.b, en c.c]) = true; simp only [noL, noLs, NoL.no, Bool.and_self]⟩
instance [NoL α] : NoL (Tu α) := ⟨fun t => by show noL (.tuple (t.l.map en)) = true; simp only [noL]; exact noLs_map _⟩
instance : NoL Fo := ⟨fun c => by show noL (.tuple [en (Tu.mk c.front), en (Tu.mk c.back), en (Tu.mk c.rem)]) = true; simp only [noL, noLs, NoL.no, Bool.and_self]⟩
theorem noLR_e [NoL α] : noLR (.ow (eL xs)) = True := eq_true (noLs_map xs)
theorem noLR_t [NoL α] : noLR (.fz (eT xs)) = True := eq_true (NoL.no (Tu.mk xs))
theorem noLR_a [NoL α] {a : α} : noLR (.fz (en a)) = True := eq_true (NoL.no a)
theorem noLR_i {i : Int} : noLR (.fz (.int i)) = True := eq_true (by simp only [noLR, noL])
theorem noLR_b {i : Bool} : noLR (.fz (.bool i)) = True := eq_true (by simp only [noLR, noL])
theorem noLR_s {i : Str} : noLR (.fz (.str i)) = True := eq_true (by simp only [noLR, noL])
theorem noLR_n : noLR (.fz .none) = True := eq_true (by simp only [noLR, noL])
end
end G

namespace G
open PySem PySem.Spec L2 TL Ty
/-! ### truths compared -/
instance : TyE Bool where
  lay _ := by simp only [en, PyData.canLay0]
  eqv a b := by simp only [en, PyData.eqv]; cases a <;> cases b <;> rfl
  dep := 0
  deep _ := by simp only [en, PyData.depth]; exact Nat.le_refl _
instance : TyQ Bool := .of
instance : TyQ Fo := .of
instance : TyQ (List (List Cm)) := .of
theorem eqF_bb {a b : Bool} {k : R → Prop} : eqF (.bool a) (.bool b) k = k (.fz (.bool (decide (a = b)))) := eqF_e (a := a) (b := b)
theorem neF_bb {a b : Bool} {k : R → Prop} : neF (.bool a) (.bool b) k = k (.fz (.bool (!decide (a = b)))) := neF_e (a := a) (b := b)
end G

namespace G
open PySem PySem.Spec L2 TL Ty
/-! ### for x in reversed(xs) -/
section
variable {X : Cx} {K : PySem.W.Frag} {Hz : Hp} {wa : WA2} {ta : TA} {tg : Expr}
theorem wk_rev {a : Addr} {xs : List V} {ds : List D} (h : SqL K Hz a xs) (r : Reps K Hz xs ds) : WkD K (Itv K a xs.length) ds.reverse Hz := by
  have e := r.len
  unfold WkD
  rw [List.length_reverse, ← e]
  refine (walk_rev (K := K) (a := a) (xs := xs)).mono (fun H s => seqL s h) fun i H x H' hi s y => ?_
  obtain ⟨rfl, e2⟩ := y
  obtain ⟨d, e3, r3⟩ := r.get' e2
  refine ⟨d, ?_, fun env σ Hz' st s' => ⟨Hz', st, .refl, r3.mono s'⟩⟩
  rw [List.getElem?_reverse (by omega), ← e]
  exact e3
def wiRev (w : WA2) : WI := fun env P => w env fun ds e1 => match ds with
  | [.list ds] => P ds.reverse e1
  | _ => False
theorem gi_rev {a : Expr} {p pos : Pos} (hg : Gl X "reversed") (hm : X.mg "reversed" = none) (ha : GA X [a] ta wa) (hs : starEach [a] X.env = [(false, eval a X.env)] := by rfl) : GI X tg (.Call (.Name "reversed" p) [a] [] pos) (iRev X.K ta) (wiRev wa) := by
  obtain ⟨p, s1⟩ := ha.ex
  refine ⟨pi_reversed hg hm p hs, fun env σ Hz H P Q s w q => s1 env σ Hz H _ _ s w fun ds e1 vs Hz1 H1 w1 s1 g1 r1 => ?_⟩
  rcases ds with _ | ⟨d, _ | ⟨d2, l⟩⟩
  · exact w1.elim
  · cases d <;> first | exact w1.elim | skip
    obtain ⟨v, rfl, rv⟩ := reps1 r1
    cases rv with
    | lst h1 h2 => exact ⟨_, _, rfl, seqL s1.sub h1, q _ _ _ _ _ w1 s1 g1 (wk_rev h1 h2)⟩
  · cases d <;> exact w1.elim
theorem y_iRev {wr : WA2} {env : Ev} {u : List D → Ev → Prop} : wiRev wr env u = wr env fun ds e1 => isL1 ds fun ds => u ds.reverse e1 := by
  unfold wiRev
  congr 1
  funext ds e1
  unfold isL1 isL
  rcases ds with _ | ⟨d, _ | ⟨d2, ds⟩⟩
  · rfl
  · cases d <;> rfl
  · cases d <;> rfl
theorem map_rev {α : Type} {f : α → D} {xs : List α} : (xs.map f).reverse = xs.reverse.map f := List.map_reverse.symm
end
end G

namespace GM
open G
/-! ### what becomes of each name -/
def mvF (st : Fate) (i : Nat) : Mv → Fate
  | .stay => st
  | .front => .front i
  | .back => .back i
  | .gone => .absent
def fstep (x : Nm) (st : Fate) (i : Nat) (c : Cm) : Fate :=
  if c.nm = x then mvF st i (if st = .absent then c.out.mv else c.ins.mv) else st
def fateFrom (x : Nm) : Fate → Nat → List Cm → Fate
  | st, _, [] => st
  | st, i, c :: cs => fateFrom x (fstep x st i c) (i + 1) cs
def st0 (b : Bool) : Fate := if b then .untouched else .absent
def fateOf (cs : List Cm) (x : Nm) (b : Bool) : Fate := fateFrom x (st0 b) 0 cs
structure LayOk (p : List Nm) (φ : Nm → Fate) (n : Nat) (q : List Nm) (F B : List (Nat × Nm)) : Prop where
  eq : q = F.map Prod.snd ++ (p.filter fun x => decide (φ x = .untouched)) ++ B.map Prod.snd
  hF : F.Pairwise fun a b => b.1 < a.1
  hB : B.Pairwise fun a b => a.1 < b.1
  mF : ∀ i x, (i, x) ∈ F ↔ φ x = .front i
  mB : ∀ i x, (i, x) ∈ B ↔ φ x = .back i
  un : ∀ x, φ x = .untouched → x ∈ p
  bF : ∀ i x, φ x = .front i → i < n
  bB : ∀ i x, φ x = .back i → i < n
theorem LayOk.mem {p : List Nm} {φ : Nm → Fate} {n : Nat} {q : List Nm} {F B : List (Nat × Nm)} (h : LayOk p φ n q F B) (x : Nm) : x ∈ q ↔ φ x ≠ .absent := by
  rw [h.eq]
  simp only [List.mem_append, List.mem_map, List.mem_filter, decide_eq_true_eq]
  constructor
  · rintro ((⟨⟨i, y⟩, h1, rfl⟩ | h1) | ⟨⟨i, y⟩, h1, rfl⟩)
    · rw [(h.mF i y).mp h1]; simp
    · rw [h1.2]; simp
    · rw [(h.mB i y).mp h1]; simp
  · intro h1
    cases e : φ x with
    | absent => exact absurd e h1
    | untouched => exact .inl (.inr ⟨h.un x e, rfl⟩)
    | front i => exact .inl (.inl ⟨(i, x), (h.mF i x).mpr e, rfl⟩)
    | back i => exact .inr ⟨(i, x), (h.mB i x).mpr e, rfl⟩
theorem but_map (x : Nm) (F : List (Nat × Nm)) : but x (F.map Prod.snd) = (F.filter fun a => !decide (a.2 = x)).map Prod.snd := by
  unfold but
  rw [List.filter_map]; rfl
theorem LayOk.step {p : List Nm} {φ : Nm → Fate} {n : Nat} {q : List Nm} {F B : List (Nat × Nm)} (h : LayOk p φ n q F B) (c : Cm) : ∃ F' B', LayOk p (fun x => fstep x (φ x) n c) (n + 1) (apl q c) F' B' := by
  have hm : c.mv q = if φ c.nm = .absent then c.out.mv else c.ins.mv := by
    unfold Cm.mv
    by_cases e : c.nm ∈ q
    · rw [if_pos e, if_neg ((h.mem _).mp e)]
    · rw [if_neg e, if_pos (Classical.not_not.mp fun k => e ((h.mem _).mpr k))]
  have hs : ∀ y, fstep y (φ y) n c = if c.nm = y then mvF (φ y) n (c.mv q) else φ y := fun y => by
    unfold fstep
    by_cases e : c.nm = y
    · subst e; rw [if_pos rfl, if_pos rfl, hm]
    · rw [if_neg e, if_neg e]
  have hb : but c.nm q = (F.filter fun a => !decide (a.2 = c.nm)).map Prod.snd ++ ((p.filter fun x => decide (φ x = .untouched)).filter fun x => !decide (x = c.nm)) ++ (B.filter fun a => !decide (a.2 = c.nm)).map Prod.snd := by
    rw [h.eq]
    show List.filter _ _ = _
    rw [List.filter_append, List.filter_append]
    have h1 := but_map c.nm F
    have h2 := but_map c.nm B
    unfold but at h1 h2
    rw [h1, h2]
  unfold apl
  generalize c.nm = x at hm hs hb ⊢
  generalize c.mv q = m at hs ⊢
  have mid : m ≠ .stay → (p.filter fun y => decide (fstep y (φ y) n c = .untouched)) = (p.filter fun x => decide (φ x = .untouched)).filter fun y => !decide (y = x) := fun hne => by
    rw [List.filter_filter]
    refine List.filter_congr fun y _ => ?_
    rw [hs]
    by_cases e : x = y
    · subst e
      rw [if_pos rfl]
      cases m <;> first | exact absurd rfl hne | simp [mvF]
    · rw [if_neg e]
      have : ¬ y = x := fun z => e z.symm
      simp [this]
  have un' : ∀ y, fstep y (φ y) n c = .untouched → y ∈ p := fun y e => by
    rw [hs] at e
    by_cases k : x = y
    · subst k
      rw [if_pos rfl] at e
      cases m with
      | stay => exact h.un _ e
      | front => cases e
      | back => cases e
      | gone => cases e
    · rw [if_neg k] at e; exact h.un _ e
  have bF' : ∀ i y, fstep y (φ y) n c = .front i → i < n + 1 := fun i y e => by
    rw [hs] at e
    by_cases k : x = y
    · subst k
      rw [if_pos rfl] at e
      cases m with
      | stay => have := h.bF _ _ e; omega
      | front => cases e; omega
      | back => cases e
      | gone => cases e
    · rw [if_neg k] at e; have := h.bF _ _ e; omega
  have bB' : ∀ i y, fstep y (φ y) n c = .back i → i < n + 1 := fun i y e => by
    rw [hs] at e
    by_cases k : x = y
    · subst k
      rw [if_pos rfl] at e
      cases m with
      | stay => have := h.bB _ _ e; omega
      | front => cases e
      | back => cases e; omega
      | gone => cases e
    · rw [if_neg k] at e; have := h.bB _ _ e; omega
  have keyF : m ≠ .front → m ≠ .stay → ∀ i y, (i, y) ∈ (F.filter fun a => !decide (a.2 = x)) ↔ fstep y (φ y) n c = .front i := fun h1 h2 i y => by
    rw [List.mem_filter, h.mF, hs]
    by_cases k : x = y
    · subst k
      rw [if_pos rfl]
      cases m <;> first | exact absurd rfl h1 | exact absurd rfl h2 | simp [mvF]
    · rw [if_neg k]
      have : ¬ y = x := fun z => k z.symm
      simp [this]
  have keyB : m ≠ .back → m ≠ .stay → ∀ i y, (i, y) ∈ (B.filter fun a => !decide (a.2 = x)) ↔ fstep y (φ y) n c = .back i := fun h1 h2 i y => by
    rw [List.mem_filter, h.mB, hs]
    by_cases k : x = y
    · subst k
      rw [if_pos rfl]
      cases m <;> first | exact absurd rfl h1 | exact absurd rfl h2 | simp [mvF]
    · rw [if_neg k]
      have : ¬ y = x := fun z => k z.symm
      simp [this]
  have pF : (F.filter fun a => !decide (a.2 = x)).Pairwise fun a b => b.1 < a.1 := h.hF.filter _
  have pB : (B.filter fun a => !decide (a.2 = x)).Pairwise fun a b => a.1 < b.1 := h.hB.filter _
  cases m with
  | stay =>
    have e : (fun y => fstep y (φ y) n c) = φ := funext fun y => by
      rw [hs]
      by_cases k : x = y
      · rw [if_pos k]; rfl
      · rw [if_neg k]
    rw [e]
    exact ⟨F, B, h.eq, h.hF, h.hB, h.mF, h.mB, h.un, fun i y e => by have := h.bF i y e; omega, fun i y e => by have := h.bB i y e; omega⟩
  | gone =>
    refine ⟨_, _, ?_, pF, pB, keyF (by decide) (by decide), keyB (by decide) (by decide), un', bF', bB'⟩
    rw [mid (by decide)]; exact hb
  | front =>
    refine ⟨(n, x) :: (F.filter fun a => !decide (a.2 = x)), _, ?_, List.pairwise_cons.mpr ⟨?_, pF⟩, pB, ?_, keyB (by decide) (by decide), un', bF', bB'⟩
    · rw [mid (by decide)]
      show x :: but x q = _
      rw [hb]; rfl
    · rintro ⟨i, y⟩ hy
      exact h.bF i y ((h.mF i y).mp (List.mem_filter.mp hy).1)
    · intro i y
      rw [List.mem_cons, List.mem_filter, h.mF, hs]
      by_cases k : x = y
      · subst k
        rw [if_pos rfl]
        simp [mvF, eq_comm]
      · rw [if_neg k]
        have : ¬ y = x := fun z => k z.symm
        simp [this]
  | back =>
    refine ⟨_, (B.filter fun a => !decide (a.2 = x)) ++ [(n, x)], ?_, pF, List.pairwise_append.mpr ⟨pB, List.pairwise_singleton _ _, ?_⟩, keyF (by decide) (by decide), ?_, un', bF', bB'⟩
    · rw [mid (by decide)]
      show but x q ++ [x] = _
      rw [hb, List.map_append, List.append_assoc]; rfl
    · rintro ⟨i, y⟩ hy b hb'
      cases List.mem_singleton.mp hb'
      exact h.bB i y ((h.mB i y).mp (List.mem_filter.mp hy).1)
    · intro i y
      rw [List.mem_append, List.mem_filter, h.mB, hs, List.mem_singleton]
      by_cases k : x = y
      · subst k
        rw [if_pos rfl]
        simp [mvF, eq_comm]
      · rw [if_neg k]
        have : ¬ y = x := fun z => k z.symm
        simp [this]
theorem LayOk.run {p : List Nm} : ∀ (cs : List Cm) {φ : Nm → Fate} {n : Nat} {q : List Nm} {F B : List (Nat × Nm)}, LayOk p φ n q F B → ∃ F' B', LayOk p (fun x => fateFrom x (φ x) n cs) (n + cs.length) (runs q cs) F' B'
  | [], φ, n, q, F, B, h => ⟨F, B, h⟩
  | c :: cs, φ, n, q, F, B, h => by
    obtain ⟨F1, B1, h1⟩ := h.step c
    obtain ⟨F2, B2, h2⟩ := LayOk.run cs h1
    refine ⟨F2, B2, ?_⟩
    rw [List.length_cons, show n + (cs.length + 1) = n + 1 + cs.length by omega]
    exact h2
theorem lay_start (p : List Nm) : LayOk p (fun x => st0 (decide (x ∈ p))) 0 p [] [] := by
  refine ⟨?_, List.Pairwise.nil, List.Pairwise.nil, ?_, ?_, ?_, ?_, ?_⟩
  · simp only [List.map_nil, List.nil_append, List.append_nil]
    refine (List.filter_eq_self.mpr fun x hx => ?_).symm
    simp [st0, hx]
  all_goals
    simp only [st0]
    intros
    first
    | (split <;> simp)
    | skip
  · rename_i x h
    by_cases e : x ∈ p
    · exact e
    · simp [e] at h
  · rename_i h
    split at h <;> cases h
  · rename_i h
    split at h <;> cases h
/-- the result of a script: what stands at the front, the untouched, what stands at the back -/
theorem layout (p : List Nm) (cs : List Cm) : ∃ F B, LayOk p (fun x => fateOf cs x (decide (x ∈ p))) cs.length (runs p cs) F B := by
  obtain ⟨F, B, h⟩ := LayOk.run cs (lay_start p)
  rw [Nat.zero_add] at h
  exact ⟨F, B, h⟩
theorem desc_uniq {F G : List (Nat × Nm)} (hF : F.Pairwise fun a b => b.1 < a.1) (hG : G.Pairwise fun a b => b.1 < a.1) (h : ∀ a, a ∈ F ↔ a ∈ G) : F = G := by
  induction F generalizing G with
  | nil => cases G with
    | nil => rfl
    | cons g G => exact absurd ((h g).mpr List.mem_cons_self) (by simp)
  | cons f F ih =>
    cases G with
    | nil => exact absurd ((h f).mp List.mem_cons_self) (by simp)
    | cons g G =>
      obtain ⟨f1, f2⟩ := List.pairwise_cons.mp hF
      obtain ⟨g1, g2⟩ := List.pairwise_cons.mp hG
      have e : f = g := by
        rcases List.mem_cons.mp ((h f).mp List.mem_cons_self) with e | e
        · exact e
        · rcases List.mem_cons.mp ((h g).mpr List.mem_cons_self) with e' | e'
          · exact e'.symm
          · have := g1 f e; have := f1 g e'; omega
      subst e
      rw [ih f2 g2 fun a => ?_]
      constructor
      · intro ha
        rcases List.mem_cons.mp ((h a).mp (List.mem_cons_of_mem _ ha)) with e | e
        · subst e; have := f1 a ha; omega
        · exact e
      · intro ha
        rcases List.mem_cons.mp ((h a).mpr (List.mem_cons_of_mem _ ha)) with e | e
        · subst e; have := g1 a ha; omega
        · exact e
theorem asc_uniq {F G : List (Nat × Nm)} (hF : F.Pairwise fun a b => a.1 < b.1) (hG : G.Pairwise fun a b => a.1 < b.1) (h : ∀ a, a ∈ F ↔ a ∈ G) : F = G := by
  have := desc_uniq (F := F.reverse) (G := G.reverse) (List.pairwise_reverse.mpr hF) (List.pairwise_reverse.mpr hG) fun a => by rw [List.mem_reverse, List.mem_reverse]; exact h a
  exact List.reverse_inj.mp this
theorem mem_runs {p : List Nm} {cs : List Cm} {x : Nm} : x ∈ runs p cs ↔ fateOf cs x (decide (x ∈ p)) ≠ .absent := by
  obtain ⟨F, B, h⟩ := layout p cs
  exact h.mem x
/-- untouched are only present names -/
theorem fateFrom_un {x : Nm} {cs : List Cm} : ∀ {st : Fate} {n : Nat}, fateFrom x st n cs = .untouched → st = .untouched := by
  induction cs with
  | nil => exact fun h => h
  | cons c cs ih =>
    intro st n h
    have h1 := ih h
    unfold fstep at h1
    split at h1
    · revert h1
      generalize (if st = .absent then c.out.mv else c.ins.mv) = m
      cases m <;> simp [mvF]
    · exact h1
theorem fateOf_un {x : Nm} {cs : List Cm} {b : Bool} (h : fateOf cs x b = .untouched) : b = true := by
  have := fateFrom_un h
  unfold st0 at this
  cases b
  · cases this
  · rfl
/-! ### a script many times -/
def reps (p : List Nm) (cs : List Cm) : Nat → List Nm
  | 0 => p
  | n + 1 => reps (runs p cs) cs n
theorem reps_succ (p : List Nm) (cs : List Cm) : ∀ n, reps p cs (n + 1) = runs (reps p cs n) cs
  | 0 => rfl
  | n + 1 => by
    show reps (runs p cs) cs (n + 1) = _
    rw [reps_succ (runs p cs) cs n]; rfl
theorem reps_mem {p : List Nm} {cs : List Cm} {n : Nat} {x : Nm} : x ∈ reps p cs (n + 1) ↔ fateOf cs x (decide (x ∈ reps p cs n)) ≠ .absent := by rw [reps_succ]; exact mem_runs
/-- who is present comes again -/
theorem reps_per {p : List Nm} {cs : List Cm} {n : Nat} {x : Nm} : x ∈ reps p cs (n + 3) ↔ x ∈ reps p cs (n + 1) := by
  have h3 := reps_mem (p := p) (cs := cs) (n := n + 2) (x := x)
  have h2 := reps_mem (p := p) (cs := cs) (n := n + 1) (x := x)
  have h1 := reps_mem (p := p) (cs := cs) (n := n) (x := x)
  by_cases a : x ∈ reps p cs (n + 2) <;> by_cases b : x ∈ reps p cs (n + 1) <;> by_cases c : x ∈ reps p cs n <;> simp_all
def mids (cs : List Cm) (p : List Nm) : List Nm := p.filter fun x => decide (fateOf cs x true = .untouched)
theorem mid_eq {p : List Nm} {cs : List Cm} : (p.filter fun x => decide (fateOf cs x (decide (x ∈ p)) = .untouched)) = mids cs p := by
  refine List.filter_congr fun x hx => ?_
  rw [decide_eq_true hx]
theorem mids_same {p : List Nm} {cs : List Cm} {n : Nat} : mids cs (reps p cs (n + 2)) = mids cs (reps p cs (n + 1)) := by
  rw [reps_succ p cs (n + 1)]
  obtain ⟨F, B, h⟩ := layout (reps p cs (n + 1)) cs
  have key : ∀ x, fateOf cs x true = .untouched → fateOf cs x (decide (x ∈ reps p cs (n + 1))) ≠ .untouched → fateOf cs x (decide (x ∈ reps p cs (n + 1))) = .absent := fun x h1 h2 => by
    by_cases a : x ∈ reps p cs (n + 1)
    · rw [decide_eq_true a] at h2; exact absurd h1 h2
    · have h3 := reps_mem (p := p) (cs := cs) (n := n) (x := x)
      have h4 : fateOf cs x (decide (x ∈ reps p cs n)) = .absent := Classical.not_not.mp fun z => a (h3.mpr z)
      by_cases b : x ∈ reps p cs n
      · rw [decide_eq_true b, h1] at h4; cases h4
      · rw [decide_eq_false a]; rw [decide_eq_false b] at h4; exact h4
  have eF : mids cs (F.map Prod.snd) = [] := by
    refine List.filter_eq_nil_iff.mpr fun x hx => ?_
    obtain ⟨⟨i, y⟩, hy, rfl⟩ := List.mem_map.mp hx
    have h5 := (h.mF i y).mp hy
    simp only [decide_eq_true_eq]
    intro h6
    have := key y h6 (by rw [h5]; simp)
    rw [h5] at this; cases this
  have eB : mids cs (B.map Prod.snd) = [] := by
    refine List.filter_eq_nil_iff.mpr fun x hx => ?_
    obtain ⟨⟨i, y⟩, hy, rfl⟩ := List.mem_map.mp hx
    have h5 := (h.mB i y).mp hy
    simp only [decide_eq_true_eq]
    intro h6
    have := key y h6 (by rw [h5]; simp)
    rw [h5] at this; cases this
  have := h.eq
  rw [mid_eq] at this
  rw [this]
  have app : ∀ a b : List Nm, mids cs (a ++ b) = mids cs a ++ mids cs b := fun a b => List.filter_append _ _
  rw [app, app, eF, eB, List.nil_append, List.append_nil]
  unfold mids
  rw [List.filter_filter]
  exact List.filter_congr fun x _ => by simp
theorem runs_same {p q : List Nm} {cs : List Cm} (h : ∀ x, x ∈ p ↔ x ∈ q) (hm : mids cs p = mids cs q) : runs p cs = runs q cs := by
  obtain ⟨F, B, h1⟩ := layout p cs
  obtain ⟨G, C, h2⟩ := layout q cs
  have e : ∀ x, fateOf cs x (decide (x ∈ p)) = fateOf cs x (decide (x ∈ q)) := fun x => by
    rw [show decide (x ∈ p) = decide (x ∈ q) from decide_eq_decide.mpr (h x)]
  rw [h1.eq, h2.eq, mid_eq, mid_eq, hm, desc_uniq h1.hF h2.hF fun ⟨i, x⟩ => by rw [h1.mF, h2.mF, e], asc_uniq h1.hB h2.hB fun ⟨i, x⟩ => by rw [h1.mB, h2.mB, e]]
/-- from the second time on, two times more are as none -/
theorem reps_two {p : List Nm} {cs : List Cm} (n : Nat) : reps p cs (n + 4) = reps p cs (n + 2) := by
  rw [reps_succ p cs (n + 3), reps_succ p cs (n + 1)]
  exact runs_same (fun x => reps_per) (by rw [mids_same (n := n + 1), mids_same (n := n)])
def turnsOf (n : Nat) : Nat := if n < 4 then n else 2 + n % 2
theorem reps_even {p : List Nm} {cs : List Cm} (r : Nat) : ∀ k, reps p cs (2 + r + 2 * k) = reps p cs (2 + r)
  | 0 => rfl
  | k + 1 => by
    rw [show 2 + r + 2 * (k + 1) = (r + 2 * k) + 4 by omega, reps_two, show r + 2 * k + 2 = 2 + r + 2 * k by omega, reps_even r k]
theorem reps_turns {p : List Nm} {cs : List Cm} (n : Nat) : reps p cs (turnsOf n) = reps p cs n := by
  unfold turnsOf
  split
  · rfl
  · have := reps_even (p := p) (cs := cs) (n % 2) ((n - 2) / 2)
    rw [← this]
    congr 1
    omega
end GM

namespace GM
open G G.Ty
/-! ### fates and forms of scripts -/
def ment (cs : List Cm) : List Nm := sdd (cs.map Cm.nm)
def fatesOf (cs : List Cm) : List (T3 Nm Fate Fate) := (ment cs).map fun n => ⟨n, fateOf cs n true, fateOf cs n false⟩
def plc (E : Ep) (n : Nm) (c : Ca) : Fate → List (T3 Nat Nm Ca)
  | .front i => if E = .front then [⟨i, n, c⟩] else []
  | .back i => if E = .back then [⟨i, n, c⟩] else []
  | _ => []
def plN (cs : List Cm) (E : Ep) (n : Nm) : List (T3 Nat Nm Ca) := plc E n .inn (fateOf cs n true) ++ plc E n .out (fateOf cs n false)
def placedOf (cs : List Cm) (E : Ep) : List (T3 Nat Nm Ca) := (ment cs).flatMap (plN cs E)
def entsAt (cs : List Cm) (E : Ep) : List Ent := joinE ((srt (placedOf cs E)).map fun t => (t.b, t.c))
theorem plc_le {E : Ep} {n : Nm} {c : Ca} {f : Fate} : (plc E n c f).length ≤ 1 := by
  unfold plc
  split <;> (try split) <;> simp
theorem plN_le {cs : List Cm} {E : Ep} {n : Nm} : (plN cs E n).length ≤ 2 := by
  unfold plN
  rw [List.length_append]
  have := plc_le (E := E) (n := n) (c := .inn) (f := fateOf cs n true)
  have := plc_le (E := E) (n := n) (c := .out) (f := fateOf cs n false)
  omega
theorem placed_le {cs : List Cm} {E : Ep} : ∀ {ns : List Nm}, (ns.flatMap (plN cs E)).length ≤ 2 * ns.length
  | [] => by simp
  | n :: ns => by
    rw [List.flatMap_cons, List.length_append, List.length_cons]
    have := plN_le (cs := cs) (E := E) (n := n)
    have := placed_le (cs := cs) (E := E) (ns := ns)
    omega
theorem ment_le {cs : List Cm} : (ment cs).length ≤ cs.length := by
  have := sdd_le (cs.map Cm.nm)
  rw [List.length_map] at this
  exact this
theorem entsAt_le {cs : List Cm} {E : Ep} : (entsAt cs E).length ≤ 2 * cs.length := by
  unfold entsAt
  have h1 := joinE_le ((srt (placedOf cs E)).map fun t => (t.b, t.c))
  rw [List.length_map, srt_len] at h1
  have h2 := placed_le (cs := cs) (E := E) (ns := ment cs)
  have h3 := ment_le (cs := cs)
  unfold placedOf at h1 ⊢
  omega
def formOf (cs : List Cm) : Fo := ⟨entsAt cs .front, entsAt cs .back, (ment cs).filter fun n => decide (fateOf cs n true = .absent)⟩
theorem fates_filter (cs : List Cm) : ((fatesOf cs).filter fun t => decide (t.b = .absent)).map T3.a = (formOf cs).rem := by
  unfold fatesOf formOf
  rw [List.filter_map, List.map_map]
  exact List.map_id' _
theorem fate_lt {x : Nm} : ∀ (cs : List Cm) {st : Fate} {n i : Nat}, (∀ j, st = .front j ∨ st = .back j → j < n) → (fateFrom x st n cs = .front i ∨ fateFrom x st n cs = .back i) → i < n + cs.length
  | [], st, n, i, h, k => by have := h i k; omega
  | c :: cs, st, n, i, h, k => by
    have := fate_lt cs (st := fstep x st n c) (n := n + 1) (i := i) (fun j hj => by
      unfold fstep at hj
      split at hj
      · revert hj
        generalize (if st = .absent then c.out.mv else c.ins.mv) = m
        cases m with
        | stay => exact fun hj => by have := h j hj; omega
        | front => rintro (hj | hj) <;> cases hj; omega
        | back => rintro (hj | hj) <;> cases hj; omega
        | gone => rintro (hj | hj) <;> cases hj
      · have := h j hj; omega) k
    rw [List.length_cons]; omega
theorem fateOf_lt {cs : List Cm} {x : Nm} {b : Bool} {i : Nat} (k : fateOf cs x b = .front i ∨ fateOf cs x b = .back i) : i < cs.length := by
  have := fate_lt cs (st := st0 b) (n := 0) (fun j hj => by cases b <;> rcases hj with hj | hj <;> cases hj) k
  omega
theorem shw_fate {cs : List Cm} {x : Nm} {b : Bool} (h : cs.length ≤ 200) : Shw (en (fateOf cs x b)) := (shl_fate (m := 0) fun i hi => by have := fateOf_lt hi; omega).shw (by decide) (TyQ.sh _)
theorem shw_fates {cs : List Cm} (h : cs.length ≤ 200) : Shw (eL (fatesOf cs)) := by
  have hl : (fatesOf cs).length ≤ 200 := by
    unfold fatesOf ment
    rw [List.length_map]
    exact Nat.le_trans (sdd_le _) (by rw [List.length_map]; exact h)
  refine (shl_eL (n := 400) fun t ht => ?_).shw (by omega) (TyQ.sh (α := List (T3 Nm Fate Fate)) _)
  obtain ⟨n, hn, rfl⟩ := List.mem_map.mp ht
  refine (shl_tup (ds := [en n, en (fateOf cs n true), en (fateOf cs n false)]) (n := 122) fun d hd => ?_).le (by simp only [List.length_cons, List.length_nil]; omega)
  simp only [List.mem_cons, List.not_mem_nil, or_false] at hd
  rcases hd with rfl | rfl | rfl
  · exact shl_nm _
  · exact (shl_fate (m := 0) fun i hi => by have := fateOf_lt hi; omega).le (by decide)
  · exact (shl_fate (m := 0) fun i hi => by have := fateOf_lt hi; omega).le (by decide)
/-! ### what can be left out -/
def cutOut (cs : List Cm) (i : Nat) : List Cm := cs.take i ++ cs.drop (i + 1)
theorem cutOut_le {cs : List Cm} {i : Nat} : (cutOut cs i).length ≤ cs.length := by
  unfold cutOut
  rw [List.length_append, List.length_take, List.length_drop]; omega
def remov (cs : List Cm) : List Nat := (List.range cs.length).filter fun i => decide (formOf (cutOut cs i) = formOf cs)
theorem cutOut_lt {cs : List Cm} {i : Nat} (h : i < cs.length) : (cutOut cs i).length + 1 = cs.length := by
  unfold cutOut
  rw [List.length_append, List.length_take, List.length_drop]; omega
theorem remov_lt' {cs : List Cm} {a : Nat} (h : a ∈ remov cs) : a < cs.length := by
  unfold remov at h
  exact List.mem_range.mp (List.mem_filter.mp h).1
/-- the first removable one left out, again and again -/
def trimF : Nat → List Cm → List Cm
  | 0, cs => cs
  | n + 1, cs => match remov cs with
    | [] => cs
    | i :: _ => trimF n (cutOut cs i)
def trimL (cs : List Cm) : List Cm := trimF cs.length cs
theorem trimL_nil {cs : List Cm} (h : remov cs = []) : trimL cs = cs := by
  unfold trimL
  cases hn : cs.length with
  | zero => rfl
  | succ n => show (match remov cs with | [] => cs | i :: _ => trimF n (cutOut cs i)) = cs; rw [h]
theorem trimL_cons {cs : List Cm} {i : Nat} {r : List Nat} (h : remov cs = i :: r) : trimL cs = trimL (cutOut cs i) := by
  have hi : i < cs.length := remov_lt' (by rw [h]; exact List.mem_cons_self)
  have hl := cutOut_lt hi
  unfold trimL
  rw [← hl]
  show (match remov cs with | [] => cs | j :: _ => trimF (cutOut cs i).length (cutOut cs j)) = _
  rw [h]
end GM

namespace GM
open G G.Ty
/-! ### runs: parts, names, restrictions -/
theorem but_nodup {n : Nm} {p : List Nm} (h : p.Nodup) : (but n p).Nodup := h.filter _
theorem not_but {n : Nm} {p : List Nm} : n ∉ but n p := by unfold but; simp
theorem apl_nodup {p : List Nm} {c : Cm} (h : p.Nodup) : (apl p c).Nodup := by
  unfold apl mvd
  split
  · exact h
  · exact List.nodup_cons.mpr ⟨not_but, but_nodup h⟩
  · rw [List.nodup_append]
    refine ⟨but_nodup h, by simp, fun a ha b hb e => ?_⟩
    cases List.mem_singleton.mp hb
    exact not_but (e ▸ ha)
  · exact but_nodup h
theorem runs_nodup : ∀ {cs : List Cm} {p : List Nm}, p.Nodup → (runs p cs).Nodup
  | [], _, h => h
  | c :: cs, p, h => runs_nodup (cs := cs) (apl_nodup h)
theorem runs_app (p : List Nm) (as bs : List Cm) : runs p (as ++ bs) = runs (runs p as) bs := by unfold runs; rw [List.foldl_append]
theorem runs_part (p : List Nm) (cs : List Cm) (i : Nat) : runs (runs p (cs.take i)) (cs.drop i) = runs p cs := by rw [← runs_app, List.take_append_drop]
theorem filter_but (q : Nm → Bool) (n : Nm) (p : List Nm) : (but n p).filter q = but n (p.filter q) := by
  unfold but
  rw [List.filter_filter, List.filter_filter]
  exact List.filter_congr fun x _ => Bool.and_comm _ _
theorem but_none {n : Nm} {p : List Nm} (h : n ∉ p) : but n p = p := List.filter_eq_self.mpr fun x hx => by
  simpa using fun e : x = n => h (e ▸ hx)
/-- on other names a command does nothing -/
theorem filter_apl_no {q : Nm → Bool} {p : List Nm} {c : Cm} (h : q c.nm = false) : (apl p c).filter q = p.filter q := by
  have e : but c.nm (p.filter q) = p.filter q := but_none fun z => by rw [(List.mem_filter.mp z).2] at h; cases h
  unfold apl mvd
  split
  · rfl
  · rw [List.filter_cons, h, filter_but, e]; rfl
  · rw [List.filter_append, filter_but, e, List.filter_cons, h]; simp
  · rw [filter_but, e]
theorem filter_apl_yes {q : Nm → Bool} {p : List Nm} {c : Cm} (h : q c.nm = true) : (apl p c).filter q = apl (p.filter q) c := by
  have hm : c.mv (p.filter q) = c.mv p := by
    unfold Cm.mv
    by_cases k : c.nm ∈ p
    · rw [if_pos k, if_pos (List.mem_filter.mpr ⟨k, h⟩)]
    · rw [if_neg k, if_neg fun z => k (List.mem_filter.mp z).1]
  unfold apl
  rw [hm]
  unfold mvd
  split
  · rfl
  · rw [List.filter_cons, h, if_pos rfl, filter_but]
  · rw [List.filter_append, filter_but, List.filter_cons, h]; simp
  · rw [filter_but]
theorem filter_runs {q : Nm → Bool} : ∀ {cs : List Cm} {p : List Nm}, (runs p cs).filter q = runs (p.filter q) (cs.filter fun c => q c.nm)
  | [], _ => rfl
  | c :: cs, p => by
    show (runs (apl p c) cs).filter q = _
    rw [filter_runs (cs := cs)]
    cases h : q c.nm with
    | true => rw [List.filter_cons, h, if_pos rfl, filter_apl_yes h]; rfl
    | false => rw [List.filter_cons, h, filter_apl_no h]; rfl
theorem filter_runs_no {q : Nm → Bool} {cs : List Cm} {p : List Nm} (h : ∀ c ∈ cs, q c.nm = false) : (runs p cs).filter q = p.filter q := by
  have e : (cs.filter fun c => q c.nm) = [] := List.filter_eq_nil_iff.mpr fun c hc => by rw [h c hc]; simp
  rw [filter_runs, e]; rfl
end GM

namespace GM
open G G.Ty PySem PySem.Spec L2 TL
/-! ### blocks -/
def slc (g : List Str) (b e : Nat) : List Str := (g.drop b).take (e - b)
theorem slc_succ {g : List Str} {b k : Nat} (h : b ≤ k) (hk : k < g.length) : slc g b (k + 1) = slc g b k ++ [g[k]] := by
  unfold slc
  have e : k + 1 - b = (k - b) + 1 := by omega
  rw [e, List.take_succ, List.getElem?_drop]
  have : b + (k - b) = k := by omega
  rw [this, List.getElem?_eq_getElem hk]
  rfl
theorem slc_self {g : List Str} {b : Nat} : slc g b b = [] := by unfold slc; rw [Nat.sub_self, List.take_zero]
def Va (p g : List Str) (b e : Nat) : Prop := (slc g b e).Sublist p
theorem filter_in {p : List Str} (hp : p.Nodup) {q : List Str} (h : q.Sublist p) : p.filter (fun x => decide (x ∈ q)) = q := by
  induction h with
  | slnil => rfl
  | @cons l1 l2 a h ih =>
    obtain ⟨h1, h2⟩ := List.nodup_cons.mp hp
    rw [List.filter_cons_of_neg (by simpa using fun c => h1 (h.subset c))]
    exact ih h2
  | @cons_cons l1 l2 a h ih =>
    obtain ⟨h1, h2⟩ := List.nodup_cons.mp hp
    rw [List.filter_cons_of_pos (by simp)]
    congr 1
    refine Eq.trans (List.filter_congr fun x hx => ?_) (ih h2)
    have : x ≠ a := fun e => h1 (e ▸ hx)
    simp [this]
theorem filter_iff {p : List Str} (hp : p.Nodup) {q : List Str} : p.filter (fun x => decide (x ∈ q)) = q ↔ q.Sublist p := ⟨fun e => e ▸ List.filter_sublist, filter_in hp⟩
theorem mem_drop_at {p : List Str} {i j : Nat} {x : Str} (h : p[j]? = some x) (hij : i ≤ j) : x ∈ p.drop i := by
  refine List.mem_of_getElem? (i := j - i) ?_
  rw [List.getElem?_drop]
  have : i + (j - i) = j := by omega
  rw [this, h]
theorem mem_take_at {p : List Str} {i j : Nat} {x : Str} (h : p[j]? = some x) (hij : j < i) : x ∈ p.take i := by
  refine List.mem_of_getElem? (i := j) ?_
  rw [List.getElem?_take, if_pos hij, h]
theorem not_both {p : List Str} (hp : p.Nodup) {i : Nat} {x : Str} (h1 : x ∈ p.take i) (h2 : x ∈ p.drop i) : False := by
  rw [← List.take_append_drop i p] at hp
  exact (List.nodup_append.mp hp).2.2 x h1 x h2 rfl
theorem sub_lt {p : List Str} (hp : p.Nodup) {i j : Nat} {x y : Str} (hy : p[i]? = some y) (hx : p[j]? = some x) (h : [y, x].Sublist p) : i < j := by
  have hxy : y ≠ x := by
    have := h.nodup hp
    simpa using this
  have hne : i ≠ j := fun e => hxy (by subst e; exact Option.some.inj (hy.symm.trans hx))
  refine Decidable.byContradiction fun c => ?_
  have hji : j < i := by omega
  rw [← List.take_append_drop i p] at h
  obtain ⟨l1, l2, e, s1, s2⟩ := List.sublist_append_iff.mp h
  have xt := mem_take_at hx hji
  have yd := mem_drop_at hy (Nat.le_refl i)
  cases l1 with
  | nil =>
    rw [List.nil_append] at e
    subst e
    exact not_both hp xt (s2.subset (by simp))
  | cons a l1 =>
    rw [List.cons_append] at e
    obtain ⟨rfl, -⟩ := List.cons.inj e
    exact not_both hp (s1.subset (by simp)) yd
theorem sub_snoc {p : List Str} (hp : p.Nodup) {i j : Nat} {x y : Str} {q : List Str} (hy : p[i]? = some y) (hx : p[j]? = some x) (hij : i < j) (h : (q ++ [y]).Sublist p) : (q ++ [y] ++ [x]).Sublist p := by
  rw [← List.take_append_drop (i + 1) p] at h ⊢
  have h1 : (q ++ [y]).Sublist (p.take (i + 1)) := by
    obtain ⟨l1, l2, e, s1, s2⟩ := List.sublist_append_iff.mp h
    have : l2 = [] := by
      refine Decidable.byContradiction fun c => ?_
      have hl : (q ++ [y]).getLast? = some y := by simp
      rw [e, List.getLast?_append, List.getLast?_eq_some_getLast c] at hl
      have hy2 : y ∈ l2 := by
        have := List.getLast_mem c
        rw [show l2.getLast c = y by simpa using hl] at this
        exact this
      exact not_both hp (mem_take_at hy (Nat.lt_succ_self i)) (s2.subset hy2)
    subst this
    rw [List.append_nil] at e
    exact e ▸ s1
  exact h1.append (List.singleton_sublist.mpr (mem_drop_at hx hij))
/-- (b, e) is the best among the blocks seen -/
def BestOn (p g : List Str) (Pr : Nat → Nat → Prop) (b e : Nat) : Prop := b ≤ e ∧ e ≤ g.length ∧ Va p g b e ∧ (e = b → b = 0) ∧ ∀ b' e', Pr b' e' → b' < e' → e' ≤ g.length → Va p g b' e' → e' - b' < e - b ∨ (e' - b' = e - b ∧ b ≤ b')
theorem best_start {p g : List Str} {Pr : Nat → Nat → Prop} (h : ∀ b e, Pr b e → b < e → False) : BestOn p g Pr 0 0 := ⟨Nat.le_refl _, Nat.zero_le _, by unfold Va; rw [slc_self]; exact List.nil_sublist _, fun _ => rfl, fun b e hp hb => (h b e hp hb).elim⟩
theorem best_one {p g : List Str} {b e b2 e2 : Nat} (h1 : BestOn p g (fun _ _ => True) b e) (h2 : BestOn p g (fun _ _ => True) b2 e2) : b = b2 ∧ e = e2 := by
  obtain ⟨l1, n1, v1, z1, a1⟩ := h1
  obtain ⟨l2, n2, v2, z2, a2⟩ := h2
  by_cases c1 : e = b
  · by_cases c2 : e2 = b2
    · have := z1 c1; have := z2 c2; omega
    · have := a1 b2 e2 trivial (by omega) n2 v2; omega
  · have q2 := a2 b e trivial (by omega) n1 v1
    by_cases c2 : e2 = b2
    · omega
    · have q1 := a1 b2 e2 trivial (by omega) n2 v2; omega
/-- what is asked of both -/
def Blk (p g : List Str) (ds : List D) (P : R → Prop) : Prop := ds = [.list (p.map .str), .list (g.map .str)] ∧ p.Nodup ∧ g.Nodup ∧ (∀ x ∈ p, SOk x) ∧ (∀ x ∈ g, SOk x) ∧ p.length ≤ 1000 ∧ g.length ≤ 1003 ∧ ∀ b e : Nat, BestOn p g (fun _ _ => True) b e → P (.fz (.tuple [.int b, .int e]))
/-! ### routes -/
def rmC (n : Nm) : Cm := ⟨n, .remove, .skip⟩
def frC (n : Nm) : Cm := ⟨n, .front, .front⟩
def baC (n : Nm) : Cm := ⟨n, .back, .back⟩
def outs (p g : List Nm) : List Nm := p.filter fun x => !decide (x ∈ g)
theorem runs_rm : ∀ {xs p : List Nm}, runs p (xs.map rmC) = outs p xs
  | [], p => (List.filter_eq_self.mpr fun x _ => by simp).symm
  | n :: xs, p => by
    have e : apl p (rmC n) = but n p := by
      unfold apl Cm.mv rmC
      by_cases h : n ∈ p
      · simp [h, Ins.mv, mvd]
      · simp [h, Out.mv, mvd, but_none h]
    show runs (apl p (rmC n)) (xs.map rmC) = _
    rw [e, runs_rm]
    unfold outs but
    rw [List.filter_filter]
    exact List.filter_congr fun x _ => by simp [List.mem_cons, Bool.and_comm]
theorem runs_fr : ∀ {xs p : List Nm}, xs.Nodup → runs p (xs.map frC) = xs.reverse ++ outs p xs
  | [], p, _ => (List.filter_eq_self.mpr fun x _ => by simp).symm
  | n :: xs, p, h => by
    obtain ⟨h1, h2⟩ := List.nodup_cons.mp h
    have e : apl p (frC n) = n :: but n p := by
      unfold apl Cm.mv frC
      by_cases h : n ∈ p
      · simp [h, Ins.mv, mvd]
      · simp [h, Out.mv, mvd]
    show runs (apl p (frC n)) (xs.map frC) = _
    rw [e, runs_fr h2, List.reverse_cons, List.append_assoc]
    congr 1
    unfold outs but
    rw [List.filter_cons_of_pos (by simpa using h1), List.filter_filter]
    show n :: _ = n :: _
    congr 1
    exact List.filter_congr fun x _ => by simp [List.mem_cons, Bool.and_comm]
theorem runs_ba : ∀ {xs p : List Nm}, xs.Nodup → runs p (xs.map baC) = outs p xs ++ xs
  | [], p, _ => by
    show p = outs p [] ++ []
    rw [List.append_nil]
    exact (List.filter_eq_self.mpr fun x _ => by simp).symm
  | n :: xs, p, h => by
    obtain ⟨h1, h2⟩ := List.nodup_cons.mp h
    have e : apl p (baC n) = but n p ++ [n] := by
      unfold apl Cm.mv baC
      by_cases h : n ∈ p
      · simp [h, Ins.mv, mvd]
      · simp [h, Out.mv, mvd]
    show runs (apl p (baC n)) (xs.map baC) = _
    rw [e, runs_ba h2]
    unfold outs but
    rw [List.filter_append, List.filter_filter, List.filter_cons_of_pos (by simpa using h1), List.filter_nil, List.append_assoc]
    congr 1
    exact List.filter_congr fun x _ => by simp [List.mem_cons, Bool.and_comm]
/-- the route over the kept block from b to e -/
def routeOf (p g : List Nm) (b e : Nat) : List Cm := (outs p g).map rmC ++ (g.take b).reverse.map frC ++ (g.drop e).map baC
theorem filter_sub {p q : List Nm} (hp : p.Nodup) (h : q.Sublist p) : p.filter (fun x => decide (x ∈ q)) = q := by
  induction h with
  | slnil => rfl
  | @cons l1 l2 a h ih =>
    obtain ⟨h1, h2⟩ := List.nodup_cons.mp hp
    rw [List.filter_cons_of_neg (by simpa using fun c => h1 (h.subset c))]
    exact ih h2
  | @cons_cons l1 l2 a h ih =>
    obtain ⟨h1, h2⟩ := List.nodup_cons.mp hp
    rw [List.filter_cons_of_pos (by simp)]
    congr 1
    refine Eq.trans (List.filter_congr fun x hx => ?_) (ih h2)
    have : x ≠ a := fun e => h1 (e ▸ hx)
    simp [this]
theorem route_runs {p A B C : List Nm} (hp : p.Nodup) (hg : (A ++ B ++ C).Nodup) (hB : B.Sublist p) : runs p ((outs p (A ++ B ++ C)).map rmC ++ A.reverse.map frC ++ C.map baC) = A ++ B ++ C := by
  obtain ⟨n1, n2, n3⟩ := List.nodup_append.mp hg
  obtain ⟨n4, n5, n6⟩ := List.nodup_append.mp n1
  rw [runs_app, runs_app, runs_rm, runs_fr ((List.reverse_perm A).nodup_iff.mpr n4), runs_ba n2, List.reverse_reverse]
  unfold outs
  rw [List.filter_append]
  congr 1
  congr 1
  · exact List.filter_eq_self.mpr fun x hx => by simpa using fun k => n3 x (List.mem_append_left _ hx) x k rfl
  · rw [List.filter_filter, List.filter_filter]
    refine Eq.trans (List.filter_congr fun x hx => ?_) (filter_sub hp hB)
    have k1 : x ∈ B → x ∉ A := fun h1 h2 => n6 x h2 x h1 rfl
    have k2 : x ∈ B → x ∉ C := fun h1 h2 => n3 x (List.mem_append_right _ h1) x h2 rfl
    by_cases b : x ∈ B
    · have a := k1 b
      have c := k2 b
      simp [a, b, c, hx, List.mem_filter]
    · by_cases a : x ∈ A <;> by_cases c : x ∈ C <;> simp [a, b, c, hx, List.mem_filter]
/-- the best block, of names -/
def Bst (p g : List Nm) (b e : Nat) : Prop := BestOn (p.map Nm.val) (g.map Nm.val) (fun _ _ => True) b e
theorem bst_one {p g : List Nm} {b e b2 e2 : Nat} (h1 : Bst p g b e) (h2 : Bst p g b2 e2) : b = b2 ∧ e = e2 := best_one h1 h2
theorem sub_val : ∀ {a b : List Nm}, (a.map Nm.val).Sublist (b.map Nm.val) → a.Sublist b := fun {a b} h => by
  obtain ⟨l, hl, e⟩ := List.sublist_map_iff.mp h
  have : l = a := (List.map_inj_right fun x y k => Nm.ext_iff.mpr k).mp e.symm
  exact this ▸ hl
theorem route_ok {p g : List Nm} {b e : Nat} (hp : p.Nodup) (hg : g.Nodup) (h : Bst p g b e) : runs p (routeOf p g b e) = g := by
  obtain ⟨h1, h2, h3, -⟩ := h
  rw [List.length_map] at h2
  unfold Va slc at h3
  rw [← List.map_drop, ← List.map_take] at h3
  have h4 := sub_val h3
  clear h3
  have e1 : g = g.take b ++ (g.drop b).take (e - b) ++ g.drop e := by
    have : g.drop e = (g.drop b).drop (e - b) := by rw [List.drop_drop]; congr 1; omega
    rw [this, List.append_assoc, List.take_append_drop, List.take_append_drop]
  unfold routeOf
  generalize g.take b = A at e1 h4 ⊢
  generalize (g.drop b).take (e - b) = B at e1 h4 ⊢
  generalize g.drop e = C at e1 ⊢
  subst e1
  exact route_runs hp hg h4
theorem route_len {p g : List Nm} {b e : Nat} (h : Bst p g b e) : (routeOf p g b e).length = (outs p g).length + b + (g.length - e) := by
  obtain ⟨h1, h2, -⟩ := h
  rw [List.length_map] at h2
  unfold routeOf
  simp only [List.length_append, List.length_map, List.length_reverse, List.length_take, List.length_drop]
  omega
end GM

namespace GM
open G G.Ty
/-! ### results by forms -/
/-- who was placed was named there -/
theorem fateFrom_at {x : Nm} : ∀ {cs : List Cm} {st : Fate} {n i : Nat}, (fateFrom x st n cs = .front i ∨ fateFrom x st n cs = .back i) → (st = .front i ∨ st = .back i) ∨ (n ≤ i ∧ ∃ c, cs[i - n]? = some c ∧ c.nm = x)
  | [], st, n, i, h => .inl h
  | c :: cs, st, n, i, h => by
    rcases fateFrom_at (cs := cs) (st := fstep x st n c) (n := n + 1) h with h | ⟨h1, d, h2, h3⟩
    · unfold fstep at h
      by_cases e : c.nm = x
      · rw [if_pos e] at h
        revert h
        generalize (if st = .absent then c.out.mv else c.ins.mv) = m
        cases m with
        | stay => exact fun h => .inl h
        | front => rintro (h | h) <;> cases h; exact .inr ⟨Nat.le_refl _, c, by simp, e⟩
        | back => rintro (h | h) <;> cases h; exact .inr ⟨Nat.le_refl _, c, by simp, e⟩
        | gone => rintro (h | h) <;> cases h
      · rw [if_neg e] at h; exact .inl h
    · refine .inr ⟨by omega, d, ?_, h3⟩
      rw [show i - n = (i - (n + 1)) + 1 by omega, List.getElem?_cons_succ]; exact h2
theorem fateOf_at {x : Nm} {cs : List Cm} {b : Bool} {i : Nat} (h : fateOf cs x b = .front i ∨ fateOf cs x b = .back i) : ∃ c, cs[i]? = some c ∧ c.nm = x := by
  rcases fateFrom_at h with h | ⟨_, c, h1, h2⟩
  · cases b <;> rcases h with h | h <;> cases h
  · exact ⟨c, by simpa using h1, h2⟩
theorem place_inj {x y : Nm} {cs : List Cm} {b c : Bool} {i : Nat} (h : fateOf cs x b = .front i ∨ fateOf cs x b = .back i) (k : fateOf cs y c = .front i ∨ fateOf cs y c = .back i) : x = y := by
  obtain ⟨d, h1, h2⟩ := fateOf_at h
  obtain ⟨e, k1, k2⟩ := fateOf_at k
  rw [h1] at k1; cases k1
  exact h2.symm.trans k2
theorem mem_ment {cs : List Cm} {x : Nm} : x ∈ ment cs ↔ ∃ c ∈ cs, c.nm = x := by
  unfold ment; rw [mem_sdd, List.mem_map]
/-- who is not named keeps its state -/
theorem fateFrom_no {x : Nm} : ∀ {cs : List Cm} {st : Fate} {n : Nat}, (∀ c ∈ cs, c.nm ≠ x) → fateFrom x st n cs = st
  | [], _, _, _ => rfl
  | c :: cs, st, n, h => by
    show fateFrom x (fstep x st n c) (n + 1) cs = st
    rw [fateFrom_no fun d hd => h d (List.mem_cons_of_mem _ hd)]
    unfold fstep
    rw [if_neg (h c List.mem_cons_self)]
theorem fateOf_no {x : Nm} {cs : List Cm} {b : Bool} (h : x ∉ ment cs) : fateOf cs x b = st0 b := fateFrom_no fun c hc e => h (mem_ment.mpr ⟨c, hc, e⟩)
/-! who is placed, in order -/
def caB : Ca → Bool
  | .inn => true
  | _ => false
def atE (E : Ep) (f : Fate) (i : Nat) : Prop := match E with
  | .front => f = .front i
  | .back => f = .back i
theorem mem_plc {E : Ep} {n : Nm} {c : Ca} {f : Fate} {t : T3 Nat Nm Ca} : t ∈ plc E n c f ↔ t.b = n ∧ t.c = c ∧ atE E f t.a := by
  obtain ⟨i, m, d⟩ := t
  unfold plc atE
  cases f <;> cases E <;> simp
  all_goals
    constructor
    · rintro ⟨rfl, rfl, rfl⟩; exact ⟨rfl, rfl, rfl⟩
    · rintro ⟨rfl, rfl, rfl⟩; exact ⟨rfl, rfl, rfl⟩
theorem mem_placed {cs : List Cm} {E : Ep} {t : T3 Nat Nm Ca} : t ∈ placedOf cs E ↔ t.c ≠ .both ∧ atE E (fateOf cs t.b (caB t.c)) t.a := by
  unfold placedOf
  rw [List.mem_flatMap]
  constructor
  · rintro ⟨n, hn, h⟩
    unfold plN at h
    rcases List.mem_append.mp h with h | h
    · obtain ⟨rfl, h2, h3⟩ := mem_plc.mp h
      rw [h2]; exact ⟨by simp, h3⟩
    · obtain ⟨rfl, h2, h3⟩ := mem_plc.mp h
      rw [h2]; exact ⟨by simp, h3⟩
  · rintro ⟨h1, h2⟩
    refine ⟨t.b, ?_, ?_⟩
    · have : ∃ c, cs[t.a]? = some c ∧ c.nm = t.b := fateOf_at (b := caB t.c) (by cases E <;> first | exact .inl h2 | exact .inr h2)
      obtain ⟨c, k1, k2⟩ := this
      exact mem_ment.mpr ⟨c, List.mem_of_getElem? k1, k2⟩
    · unfold plN
      rw [List.mem_append, mem_plc, mem_plc]
      cases e : t.c with
      | inn => rw [e] at h2; exact .inl ⟨rfl, rfl, h2⟩
      | out => rw [e] at h2; exact .inr ⟨rfl, rfl, h2⟩
      | both => exact absurd e h1
theorem plc_nodup {E : Ep} {n : Nm} {c : Ca} {f : Fate} : (plc E n c f).Nodup := by
  unfold plc
  split <;> (try split) <;> simp
theorem placed_nodup (cs : List Cm) (E : Ep) : (placedOf cs E).Nodup := by
  unfold placedOf
  have hm := sdd_nodup (cs.map Cm.nm)
  show ((sdd (cs.map Cm.nm)).flatMap (plN cs E)).Nodup
  generalize sdd (cs.map Cm.nm) = ns at hm
  induction ns with
  | nil => exact List.nodup_nil
  | cons n ns ih =>
    obtain ⟨h1, h2⟩ := List.nodup_cons.mp hm
    rw [List.flatMap_cons, List.nodup_append]
    refine ⟨?_, ih h2, fun a ha b hb e => ?_⟩
    · unfold plN
      rw [List.nodup_append]
      refine ⟨plc_nodup, plc_nodup, fun a ha b hb e => ?_⟩
      have h3 := (mem_plc.mp ha).2.1
      have h4 := (mem_plc.mp hb).2.1
      rw [← e, h3] at h4; cases h4
    · subst e
      obtain ⟨m, hm1, hb⟩ := List.mem_flatMap.mp hb
      have k : ∀ {q : Nm}, a ∈ plN cs E q → a.b = q := fun {q} h => by
        unfold plN at h
        rcases List.mem_append.mp h with h | h
        · exact (mem_plc.mp h).1
        · exact (mem_plc.mp h).1
      exact h1 ((k ha).symm.trans (k hb) ▸ hm1)
/-- the placed ones in order -/
def seqAt (cs : List Cm) (E : Ep) : List (T3 Nat Nm Ca) := srt (placedOf cs E)
theorem mem_seq {cs : List Cm} {E : Ep} {t : T3 Nat Nm Ca} : t ∈ seqAt cs E ↔ t.c ≠ .both ∧ atE E (fateOf cs t.b (caB t.c)) t.a := mem_srt.trans mem_placed
theorem seq_lt (cs : List Cm) (E : Ep) : (seqAt cs E).Pairwise Lt := srt_lt (placed_nodup cs E)
theorem atE_inj {E : Ep} {f : Fate} {i j : Nat} (h : atE E f i) (k : atE E f j) : i = j := by
  cases E <;> (rw [atE] at h k; rw [h] at k; cases k; rfl)
theorem atE_place {E : Ep} {f : Fate} {i : Nat} (h : atE E f i) : f = .front i ∨ f = .back i := by
  cases E
  · exact .inl h
  · exact .inr h
/-- of different names: by the index -/
theorem seq_pw (cs : List Cm) (E : Ep) : (seqAt cs E).Pairwise fun t u => t.b ≠ u.b → t.a < u.a := by
  refine (List.pairwise_iff_forall_sublist.mpr fun {t u} hs hne => ?_)
  have hlt : Lt t u := List.pairwise_iff_forall_sublist.mp (seq_lt cs E) hs
  have ht := (mem_seq.mp (hs.subset List.mem_cons_self)).2
  have hu := (mem_seq.mp (hs.subset (List.mem_cons_of_mem _ List.mem_cons_self))).2
  rcases ltT3_iff.mp hlt with h | ⟨h, _⟩
  · exact of_decide_eq_true h
  · exact absurd (place_inj (atE_place ht) (by rw [h]; exact atE_place hu)) hne
/-! neighbours of one name are one entry -/
def grp : List Ent → List Ent
  | [] => []
  | [e] => [e]
  | e :: f :: l => if e.1 = f.1 then (e.1, .both) :: grp l else e :: grp (f :: l)
/-- at most two of a name, in a row or not -/
def Two (es : List Ent) : Prop := ∀ n, (es.filter fun e => decide (e.1 = n)).length ≤ 2
theorem join_grp : ∀ (m : Nat) (es acc : List Ent), es.length ≤ m → Two es → (∀ l, acc.getLast? = some l → ∀ e, es.head? = some e → e.1 ≠ l.1) → es.foldl jstep acc = acc ++ grp es
  | _, [], acc, _, _, _ => by simp [grp]
  | _, [e], acc, _, _, h => by
    show jstep acc e = acc ++ [e]
    unfold jstep
    split
    · rename_i l hl
      rw [if_neg fun z => h l hl e rfl z.symm]
    · rename_i hl
      have : acc = [] := List.getLast?_eq_none_iff.mp hl
      rw [this]; rfl
  | 0, e :: f :: l, acc, hm, _, _ => by simp at hm
  | m + 1, e :: f :: l, acc, hm, ht, h => by
    have h1 : jstep acc e = acc ++ [e] := by
      unfold jstep
      split
      · rename_i l hl
        rw [if_neg fun z => h l hl e rfl z.symm]
      · rename_i hl
        have : acc = [] := List.getLast?_eq_none_iff.mp hl
        rw [this]; rfl
    have tl : Two (f :: l) := fun n => by
      have := ht n
      rw [List.filter_cons] at this
      split at this
      · rw [List.length_cons] at this; omega
      · exact this
    have tl2 : Two l := fun n => by
      have := tl n
      rw [List.filter_cons] at this
      split at this
      · rw [List.length_cons] at this; omega
      · exact this
    show (f :: l).foldl jstep (jstep acc e) = acc ++ (if e.1 = f.1 then (e.1, .both) :: grp l else e :: grp (f :: l))
    rw [h1]
    by_cases c : e.1 = f.1
    · rw [if_pos c]
      show l.foldl jstep (jstep (acc ++ [e]) f) = _
      have h2 : jstep (acc ++ [e]) f = acc ++ [(e.1, .both)] := by
        unfold jstep
        rw [List.getLast?_append]
        simp [c]
      rw [h2, join_grp m l (acc ++ [(e.1, Ca.both)]) (by simp only [List.length_cons] at hm; omega) tl2 fun b hb g hg z => ?_]
      · simp
      · have hb : b = (e.1, .both) := by rw [List.getLast?_append] at hb; simpa using hb.symm
        subst hb
        have z : g.1 = e.1 := z
        obtain ⟨l', rfl⟩ : ∃ l', l = g :: l' := by
          cases l with
          | nil => cases hg
          | cons x l => cases hg; exact ⟨l, rfl⟩
        have := ht e.1
        simp [← c, z] at this
    · rw [if_neg c, join_grp m (f :: l) (acc ++ [e]) (by simp only [List.length_cons] at hm ⊢; omega) tl fun b hb g hg z => ?_]
      · simp
      · have hb : b = e := by rw [List.getLast?_append] at hb; simpa using hb.symm
        subst hb
        cases hg
        exact c z.symm
theorem joinE_grp {es : List Ent} (h : Two es) : joinE es = grp es := by
  have := join_grp es.length es [] (Nat.le_refl _) h (fun l hl => by cases hl)
  rw [List.nil_append] at this
  exact this
end GM

namespace GM
open G G.Ty
theorem nd_le2 : ∀ {xs ys : List Nm}, xs.Nodup → (∀ x ∈ xs, x ∈ ys) → xs.length ≤ ys.length
  | [], _, _, _ => Nat.zero_le _
  | x :: xs, ys, h, k => by
    obtain ⟨h1, h2⟩ := List.nodup_cons.mp h
    have hx := k x List.mem_cons_self
    have := nd_le2 (ys := ys.erase x) h2 fun z hz => (List.mem_erase_of_ne fun e => h1 (by rw [← e]; exact hz)).mpr (k z (List.mem_cons_of_mem _ hz))
    rw [List.length_erase_of_mem hx] at this
    have := List.length_pos_of_mem hx
    rw [List.length_cons]
    omega
theorem best_ge {p A B C : List Nm} {b e : Nat} (h : Bst p (A ++ B ++ C) b e) (hB : B.Sublist p) : B.length ≤ e - b := by
  by_cases z : B = []
  · subst z; exact Nat.zero_le _
  obtain ⟨h1, h2, h3, h4, h5⟩ := h
  have hp : 0 < B.length := List.length_pos_iff.mpr z
  have := h5 A.length (A.length + B.length) trivial (by omega) (by simp) (by
    unfold Va slc
    rw [← List.map_drop, ← List.map_take]
    have : ((A ++ B ++ C).drop A.length).take (A.length + B.length - A.length) = B := by
      rw [List.append_assoc, List.drop_left, Nat.add_sub_cancel_left, List.take_left]
    rw [this]
    exact hB.map _)
  omega
/-- no script of fewer commands leads there -/
theorem least_le {p g : List Nm} {b e : Nat} {cs : List Cm} (hp : p.Nodup) (h : Bst p g b e) (hr : runs p cs = g) : (routeOf p g b e).length ≤ cs.length := by
  rw [route_len h]
  have ⟨q1, q2, _⟩ := h
  rw [List.length_map] at q2
  have hg : g.Nodup := hr ▸ runs_nodup hp
  obtain ⟨F, B, hl⟩ := layout p cs
  have e1 := hr.symm.trans hl.eq
  have hge := best_ge (p := p) (b := b) (e := e) (by rw [← e1]; exact h) List.filter_sublist
  have hlen := congrArg List.length e1
  rw [List.length_append, List.length_append] at hlen
  have hg2 := hg
  rw [e1] at hg2
  obtain ⟨n1, n2, n3⟩ := List.nodup_append.mp hg2
  obtain ⟨n4, n5, n6⟩ := List.nodup_append.mp n1
  have named : ∀ x, fateOf cs x (decide (x ∈ p)) ≠ st0 (decide (x ∈ p)) → x ∈ cs.map Cm.nm := fun x hx => by
    refine Classical.not_not.mp fun k => hx (fateOf_no fun z => k ?_)
    obtain ⟨c, h1, h2⟩ := mem_ment.mp z
    exact List.mem_map.mpr ⟨c, h1, h2⟩
  have inF : ∀ x ∈ F.map Prod.snd, x ∈ g := fun x hx => by rw [e1]; simp [List.mem_append]; exact .inl (by simpa using hx)
  have inB : ∀ x ∈ B.map Prod.snd, x ∈ g := fun x hx => by rw [e1]; simp [List.mem_append]; exact .inr (.inr (by simpa using hx))
  have hle := nd_le2 (xs := outs p g ++ F.map Prod.snd ++ B.map Prod.snd) (ys := cs.map Cm.nm) ?_ ?_
  · rw [List.length_append, List.length_append, List.length_map (f := Cm.nm)] at hle
    omega
  · refine List.nodup_append.mpr ⟨List.nodup_append.mpr ⟨hp.filter _, n4, fun x hx y hy he => ?_⟩, n2, fun x hx y hy he => ?_⟩
    · subst he
      have := (List.mem_filter.mp hx).2
      exact absurd (inF x hy) (by simpa using this)
    · subst he
      rcases List.mem_append.mp hx with hx | hx
      · have := (List.mem_filter.mp hx).2
        exact absurd (inB x hy) (by simpa using this)
      · exact n3 x (List.mem_append_left _ hx) x hy rfl
  · intro x hx
    refine named x fun k => ?_
    rcases List.mem_append.mp hx with hx | hx
    · rcases List.mem_append.mp hx with hx | hx
      · obtain ⟨h1, h2⟩ := List.mem_filter.mp hx
        have h2 : x ∉ g := by simpa using h2
        refine h2 ?_
        rw [← hr]
        refine mem_runs.mpr ?_
        rw [k, decide_eq_true h1]
        simp [st0]
      · obtain ⟨⟨i, y⟩, hy, rfl⟩ := List.mem_map.mp hx
        have := (hl.mF i y).mp hy
        rw [this] at k
        generalize decide (y ∈ p) = d at k
        cases d <;> cases k
    · obtain ⟨⟨i, y⟩, hy, rfl⟩ := List.mem_map.mp hx
      have := (hl.mB i y).mp hy
      rw [this] at k
      generalize decide (y ∈ p) = d at k
      cases d <;> cases k
end GM

namespace GM
open G G.Ty
/-! ### the search for the goal, round by round -/
def cmdsAt (n : Nm) (a : Ins) : List Cm := [⟨n, a, .skip⟩, ⟨n, a, .front⟩, ⟨n, a, .back⟩]
def insL : List Ins := [.keep, .front, .back, .remove]
def cmdsOf (ns : List Nm) : List Cm := ns.flatMap fun n => insL.flatMap (cmdsAt n)
theorem mem_cmds {ns : List Nm} {c : Cm} : c ∈ cmdsOf ns ↔ c.nm ∈ ns := by
  unfold cmdsOf
  rw [List.mem_flatMap]
  constructor
  · rintro ⟨n, hn, h⟩
    obtain ⟨a, -, h⟩ := List.mem_flatMap.mp h
    unfold cmdsAt at h
    simp only [List.mem_cons, List.not_mem_nil, or_false] at h
    rcases h with rfl | rfl | rfl <;> exact hn
  · intro h
    refine ⟨c.nm, h, List.mem_flatMap.mpr ⟨c.ins, ?_, ?_⟩⟩
    · unfold insL; cases c.ins <;> simp
    · obtain ⟨n, a, b⟩ := c
      unfold cmdsAt; cases b <;> simp
def Nam (ns : List Nm) (cs : List Cm) : Prop := ∀ c ∈ cs, c.nm ∈ ns
structure Bfs (p ns : List Nm) (r : Nat) (known latest : List (List Nm)) : Prop where
  sound : ∀ q ∈ known, ∃ cs, cs.length ≤ r ∧ Nam ns cs ∧ runs p cs = q
  full : ∀ cs, Nam ns cs → cs.length ≤ r → runs p cs ∈ known
  lat : ∀ q ∈ latest, q ∈ known
  old : ∀ q ∈ known, q ∉ latest → ∀ c : Cm, c.nm ∈ ns → apl q c ∈ known
  nd : known.Nodup
theorem Bfs.start {p ns : List Nm} : Bfs p ns 0 [p] [p] :=
  ⟨fun q hq => ⟨[], Nat.le_refl _, (fun c h => by cases h), (List.mem_singleton.mp hq).symm⟩, fun cs _ h => by
    obtain rfl : cs = [] := List.length_eq_zero_iff.mp (Nat.le_zero.mp h)
    exact List.mem_singleton.mpr rfl, fun q h => h, fun q h k => absurd h k, by simp⟩
/-- within a round: l is left of the latest ones, l2 of the commands for x -/
structure Rnd (ns : List Nm) (known0 l : List (List Nm)) (known further : List (List Nm)) : Prop where
  sub : ∀ q ∈ known0, q ∈ known
  two : ∀ q ∈ known, q ∈ known0 ∨ q ∈ further
  ins : ∀ q ∈ further, q ∈ known ∧ ∃ q0 ∈ known0, ∃ c : Cm, c.nm ∈ ns ∧ q = apl q0 c
  don : ∀ q ∈ known0, q ∈ l ∨ ∀ c : Cm, c.nm ∈ ns → apl q c ∈ known
  nd : known.Nodup
  nf : further.Nodup
theorem Bfs.rnd {p ns : List Nm} {r : Nat} {known latest : List (List Nm)} (h : Bfs p ns r known latest) : Rnd ns known latest known [] :=
  ⟨fun q h => h, fun q h => .inl h, (fun q h => by cases h), fun q hq => by
    by_cases c : q ∈ latest
    · exact .inl c
    · exact .inr (h.old q hq c), h.nd, .nil⟩
theorem Rnd.bfs {p ns : List Nm} {r : Nat} {known0 latest known further : List (List Nm)} (h : Bfs p ns r known0 latest) (k : Rnd ns known0 [] known further) : Bfs p ns (r + 1) known further := by
  have don : ∀ q ∈ known0, ∀ c : Cm, c.nm ∈ ns → apl q c ∈ known := fun q hq => (k.don q hq).resolve_left fun z => by cases z
  refine ⟨fun q hq => ?_, fun cs hn hl => ?_, fun q hq => (k.ins q hq).1, fun q hq hf => don q ((k.two q hq).resolve_right hf), k.nd⟩
  · rcases k.two q hq with h1 | h1
    · obtain ⟨cs, a, b, c⟩ := h.sound q h1
      exact ⟨cs, by omega, b, c⟩
    · obtain ⟨-, q0, h2, c, h3, rfl⟩ := k.ins q h1
      obtain ⟨cs, a, b, rfl⟩ := h.sound q0 h2
      refine ⟨cs ++ [c], by rw [List.length_append, List.length_singleton]; omega, fun d hd => ?_, by rw [runs_app]; rfl⟩
      rcases List.mem_append.mp hd with hd | hd
      · exact b d hd
      · exact List.mem_singleton.mp hd ▸ h3
  · rcases List.eq_nil_or_concat cs with rfl | ⟨cs, c, rfl⟩
    · exact k.sub _ (h.full [] hn (Nat.zero_le _))
    · rw [List.concat_eq_append] at hn hl ⊢
      rw [List.length_append, List.length_singleton] at hl
      rw [runs_app]
      exact don _ (h.full cs (fun d hd => hn d (List.mem_append_left _ hd)) (by omega)) c (hn c (by simp))
/-- x's commands, l2 of them left -/
def Com (ns : List Nm) (x : List Nm) (l2 : List Cm) (known : List (List Nm)) : Prop := ∀ c : Cm, c.nm ∈ ns → c ∈ l2 ∨ apl x c ∈ known
theorem Rnd.step {ns x : List Nm} {known0 l known further : List (List Nm)} {c : Cm} {l2 : List Cm} (h : Rnd ns known0 l known further) (k : Com ns x (c :: l2) known) (hx : x ∈ known0) (hc : c.nm ∈ ns) (hn : apl x c ∉ known) :
    Rnd ns known0 l (known ++ [apl x c]) (further ++ [apl x c]) ∧ Com ns x l2 (known ++ [apl x c]) := by
  refine ⟨⟨fun q hq => List.mem_append_left _ (h.sub q hq), fun q hq => ?_, fun q hq => ?_, fun q hq => ?_, ?_, ?_⟩, fun d hd => ?_⟩
  · rcases List.mem_append.mp hq with hq | hq
    · exact (h.two q hq).imp id (List.mem_append_left _)
    · exact .inr (List.mem_append_right _ hq)
  · rcases List.mem_append.mp hq with hq | hq
    · exact ⟨List.mem_append_left _ (h.ins q hq).1, (h.ins q hq).2⟩
    · exact ⟨List.mem_append_right _ hq, x, hx, c, hc, List.mem_singleton.mp hq⟩
  · exact (h.don q hq).imp id fun z d hd => List.mem_append_left _ (z d hd)
  · exact List.nodup_append.mpr ⟨h.nd, by simp, fun a ha b hb e => hn (by rw [← List.mem_singleton.mp hb, ← e]; exact ha)⟩
  · exact List.nodup_append.mpr ⟨h.nf, by simp, fun a ha b hb e => hn (by rw [← List.mem_singleton.mp hb, ← e]; exact (h.ins a ha).1)⟩
  · rcases k d hd with z | z
    · rcases List.mem_cons.mp z with rfl | z
      · exact .inr (by simp)
      · exact .inl z
    · exact .inr (List.mem_append_left _ z)
theorem Com.next {ns x : List Nm} {known : List (List Nm)} {c : Cm} {l2 : List Cm} (k : Com ns x (c :: l2) known) (hn : apl x c ∈ known) : Com ns x l2 known := fun d hd => by
  rcases k d hd with z | z
  · rcases List.mem_cons.mp z with rfl | z
    · exact .inr hn
    · exact .inl z
  · exact .inr z
theorem Rnd.next {ns x : List Nm} {known0 l known further : List (List Nm)} (h : Rnd ns known0 (x :: l) known further) (k : Com ns x [] known) : Rnd ns known0 l known further :=
  ⟨h.sub, h.two, h.ins, fun q hq => by
    rcases h.don q hq with z | z
    · rcases List.mem_cons.mp z with rfl | z
      · exact .inr fun c hc => (k c hc).resolve_left fun z => by cases z
      · exact .inl z
    · exact .inr z, h.nd, h.nf⟩
theorem route_nam {p g ns : List Nm} {b e : Nat} (hp : ∀ x ∈ p, x ∈ ns) (hg : ∀ x ∈ g, x ∈ ns) : Nam ns (routeOf p g b e) := fun c hc => by
  unfold routeOf at hc
  rcases List.mem_append.mp hc with hc | hc
  · rcases List.mem_append.mp hc with hc | hc
    · obtain ⟨n, hn, rfl⟩ := List.mem_map.mp hc
      exact hp n (List.mem_filter.mp hn).1
    · obtain ⟨n, hn, rfl⟩ := List.mem_map.mp hc
      exact hg n (List.mem_of_mem_take (List.mem_reverse.mp hn))
  · obtain ⟨n, hn, rfl⟩ := List.mem_map.mp hc
    exact hg n (List.mem_of_mem_drop hn)
theorem Bfs.more {p g ns : List Nm} {b e r : Nat} {known latest : List (List Nm)} (h : Bfs p ns r known latest) (hp : p.Nodup) (hg : g.Nodup) (hpn : ∀ x ∈ p, x ∈ ns) (hgn : ∀ x ∈ g, x ∈ ns) (hB : Bst p g b e) (hn : g ∉ known) : r < (routeOf p g b e).length := by
  refine Nat.lt_of_not_le fun k => hn ?_
  rw [← route_ok hp hg hB]
  exact h.full _ (route_nam hpn hgn) k
theorem Bfs.done {p g ns : List Nm} {b e r : Nat} {known latest : List (List Nm)} (h : Bfs p ns r known latest) (hp : p.Nodup) (hB : Bst p g b e) (hn : g ∈ known) : (routeOf p g b e).length ≤ r := by
  obtain ⟨cs, h1, -, h2⟩ := h.sound g hn
  exact Nat.le_trans (least_le hp hB h2) h1
theorem reach_in {p ns : List Nm} {cs : List Cm} (hp : ∀ x ∈ p, x ∈ ns) (hn : Nam ns cs) : ∀ x ∈ runs p cs, x ∈ ns := fun x hx => by
  have h := mem_runs.mp hx
  by_cases c : x ∈ ment cs
  · obtain ⟨d, h1, h2⟩ := mem_ment.mp c
    exact h2 ▸ hn d h1
  · rw [fateOf_no c] at h
    by_cases k : x ∈ p
    · exact hp x k
    · rw [decide_eq_false k] at h
      exact absurd rfl h
/-- the lists of at most n names -/
def lists (ns : List Nm) : Nat → List (List Nm)
  | 0 => [[]]
  | n + 1 => [] :: ns.flatMap fun a => (lists ns n).map fun l => a :: l
theorem mem_lists {ns : List Nm} : ∀ {n : Nat} {q : List Nm}, q.length ≤ n → (∀ x ∈ q, x ∈ ns) → q ∈ lists ns n
  | 0, q, h, _ => by
    obtain rfl : q = [] := List.length_eq_zero_iff.mp (Nat.le_zero.mp h)
    exact List.mem_singleton.mpr rfl
  | n + 1, [], _, _ => List.mem_cons_self
  | n + 1, x :: q, h, k => by
    refine List.mem_cons_of_mem _ (List.mem_flatMap.mpr ⟨x, k x List.mem_cons_self, List.mem_map.mpr ⟨q, mem_lists (by simpa using h) fun y hy => k y (List.mem_cons_of_mem _ hy), rfl⟩⟩)
theorem len_flat {α β : Type} {f : α → List β} {k : Nat} (h : ∀ a, (f a).length ≤ k) : ∀ {xs : List α}, (xs.flatMap f).length ≤ xs.length * k
  | [] => by simp
  | x :: xs => by
    have := len_flat h (xs := xs)
    have := h x
    rw [List.flatMap_cons, List.length_append, List.length_cons, Nat.add_mul]
    omega
theorem lists_le {ns : List Nm} (h : ns.length ≤ 3) : (lists ns 3).length ≤ 40 := by
  have h0 : (lists ns 0).length = 1 := rfl
  have st : ∀ n k, (lists ns n).length ≤ k → (lists ns (n + 1)).length ≤ 1 + 3 * k := fun n k hk => by
    have := len_flat (f := fun a => (lists ns n).map fun l => a :: l) (k := k) (fun a => by rw [List.length_map]; exact hk) (xs := ns)
    have := Nat.mul_le_mul_right k h
    show ([] :: ns.flatMap fun a => (lists ns n).map fun l => a :: l).length ≤ _
    rw [List.length_cons]
    omega
  exact st 2 13 (st 1 4 (st 0 1 (by omega)))
theorem nd_le3 {α : Type} [DecidableEq α] : ∀ {xs ys : List α}, xs.Nodup → (∀ x ∈ xs, x ∈ ys) → xs.length ≤ ys.length
  | [], _, _, _ => Nat.zero_le _
  | x :: xs, ys, h, k => by
    obtain ⟨h1, h2⟩ := List.nodup_cons.mp h
    have hx := k x List.mem_cons_self
    have := nd_le3 (ys := ys.erase x) h2 fun z hz => (List.mem_erase_of_ne fun e => h1 (by rw [← e]; exact hz)).mpr (k z (List.mem_cons_of_mem _ hz))
    rw [List.length_erase_of_mem hx] at this
    have := List.length_pos_of_mem hx
    rw [List.length_cons]
    omega
/-- what is found is small -/
theorem Bfs.small {p ns : List Nm} {r : Nat} {known latest : List (List Nm)} (h : Bfs p ns r known latest) (hp : p.Nodup) (hpn : ∀ x ∈ p, x ∈ ns) (hn : ns.length ≤ 3) : ∀ q ∈ known, q.Nodup ∧ (∀ x ∈ q, x ∈ ns) ∧ q.length ≤ 3 := fun q hq => by
  obtain ⟨cs, -, h1, rfl⟩ := h.sound q hq
  have h2 := reach_in hpn h1
  have h3 := runs_nodup (cs := cs) hp
  exact ⟨h3, h2, Nat.le_trans (nd_le3 h3 h2) hn⟩
theorem Rnd.small {ns : List Nm} {known0 l known further : List (List Nm)} (h : Rnd ns known0 l known further) (hn : ns.length ≤ 3) (h0 : ∀ q ∈ known0, q.Nodup ∧ (∀ x ∈ q, x ∈ ns) ∧ q.length ≤ 3) : ∀ q ∈ known, q.Nodup ∧ (∀ x ∈ q, x ∈ ns) ∧ q.length ≤ 3 := fun q hq => by
  rcases h.two q hq with z | z
  · exact h0 q z
  · obtain ⟨-, q0, k1, c, k2, rfl⟩ := h.ins q z
    obtain ⟨a1, a2, a3⟩ := h0 q0 k1
    have h2 : ∀ x ∈ apl q0 c, x ∈ ns := reach_in (cs := [c]) a2 fun d hd => List.mem_singleton.mp hd ▸ k2
    have h3 : (apl q0 c).Nodup := runs_nodup (cs := [c]) a1
    exact ⟨h3, h2, Nat.le_trans (nd_le3 h3 h2) hn⟩
theorem known_le {ns : List Nm} {known : List (List Nm)} (hn : ns.length ≤ 3) (nd : known.Nodup) (h : ∀ q ∈ known, q.Nodup ∧ (∀ x ∈ q, x ∈ ns) ∧ q.length ≤ 3) : known.length ≤ 40 :=
  Nat.le_trans (nd_le3 nd fun q hq => mem_lists (h q hq).2.2 (h q hq).2.1) (lists_le hn)
end GM

namespace GL
open PySem PySem.Spec L2 G G.Ty GM
open PyProof.Rows (envOfC)
def topS (i : Nat) : Stmt := PySem.Challenge.pw_endplaces_k44_whole_no_shorter_route.main.body.getD i (.Pass ⟨0, 0, 0, 0⟩)
abbrev s_kept_block : Stmt := topS 1
abbrev N_kept_block : List Str := ["path", "goal", "best", "begin", "end", "name"]
theorem sc_kept_block : FnScope N_kept_block ["path", "goal"] (defScope s_kept_block) := ⟨rfl, rfl, rfl, by decide +kernel, rfl, by decide +kernel, by decide +kernel⟩
abbrev s_least_commands : Stmt := topS 2
abbrev N_least_commands : List Str := ["path", "goal", "begin", "end", "name"]
theorem sc_least_commands : FnScope N_least_commands ["path", "goal"] (defScope s_least_commands) := ⟨rfl, rfl, rfl, by decide +kernel, rfl, by decide +kernel, by decide +kernel⟩
abbrev s_law_tape : Stmt := topS 4
abbrev N_law_tape : List Str := ["_law_cell", "_law_salt", "_law_seed"]
theorem sc_law_tape : FnScope N_law_tape ["_law_cell", "_law_salt"] (defScope s_law_tape) := ⟨rfl, rfl, rfl, by decide +kernel, rfl, by decide +kernel, by decide +kernel⟩
abbrev s_law_draw : Stmt := topS 5
abbrev N_law_draw : List Str := ["_law_tape_here", "_law_count", "_law_digit"]
theorem sc_law_draw : FnScope N_law_draw ["_law_tape_here", "_law_count"] (defScope s_law_draw) := ⟨rfl, rfl, rfl, by decide +kernel, rfl, by decide +kernel, by decide +kernel⟩
abbrev s_law_name : Stmt := topS 7
abbrev N_law_name : List Str := ["_law_tape_here", "_law_chars", "_law_size", "_law_k"]
theorem sc_law_name : FnScope N_law_name ["_law_tape_here"] (defScope s_law_name) := ⟨rfl, rfl, rfl, by decide +kernel, rfl, by decide +kernel, by decide +kernel⟩
abbrev s_law_names : Stmt := topS 8
abbrev N_law_names : List Str := ["_law_tape_here", "_law_count", "_law_found", "_law_k", "_law_name_here", "_law_base", "_law_at", "_law_near"]
theorem sc_law_names : FnScope N_law_names ["_law_tape_here", "_law_count"] (defScope s_law_names) := ⟨rfl, rfl, rfl, by decide +kernel, rfl, by decide +kernel, by decide +kernel⟩
abbrev s_law_script : Stmt := topS 9
abbrev N_law_script : List Str := ["_law_tape_here", "_law_names_here", "_law_count", "_law_found", "_law_k", "_law_name_here", "_law_if_in"]
theorem sc_law_script : FnScope N_law_script ["_law_tape_here", "_law_names_here", "_law_count"] (defScope s_law_script) := ⟨rfl, rfl, rfl, by decide +kernel, rfl, by decide +kernel, by decide +kernel⟩
abbrev s_law_path : Stmt := topS 10
abbrev N_law_path : List Str := ["_law_tape_here", "_law_names_here", "_law_left", "_law_name_here", "_law_k"]
theorem sc_law_path : FnScope N_law_path ["_law_tape_here", "_law_names_here"] (defScope s_law_path) := ⟨rfl, rfl, rfl, by decide +kernel, rfl, by decide +kernel, by decide +kernel⟩
abbrev s_law_run : Stmt := topS 11
abbrev N_law_run : List Str := ["_law_path_here", "_law_script_here", "_law_current", "_law_name_here", "_law_if_in", "_law_if_out", "_law_action", "_law_other"]
theorem sc_law_run : FnScope N_law_run ["_law_path_here", "_law_script_here"] (defScope s_law_run) := ⟨rfl, rfl, rfl, by decide +kernel, rfl, by decide +kernel, by decide +kernel⟩
abbrev s_law_is_integer : Stmt := topS 12
abbrev N_law_is_integer : List Str := ["_law_value", "_law_expected"]
theorem sc_law_is_integer : FnScope N_law_is_integer ["_law_value", "_law_expected"] (defScope s_law_is_integer) := ⟨rfl, rfl, rfl, by decide +kernel, rfl, by decide +kernel, by decide +kernel⟩
abbrev s_law_commands : Stmt := topS 13
abbrev N_law_commands : List Str := ["_law_names_here", "_law_found", "_law_name_here", "_law_if_in", "_law_if_out"]
theorem sc_law_commands : FnScope N_law_commands ["_law_names_here"] (defScope s_law_commands) := ⟨rfl, rfl, rfl, by decide +kernel, rfl, by decide +kernel, by decide +kernel⟩
abbrev s_law_distance : Stmt := topS 14
abbrev N_law_distance : List Str := ["_law_path_here", "_law_goal", "_law_names_here", "_law_commands_here", "_law_known", "_law_latest", "_law_distance_here", "_law_further", "_law_some", "_law_command", "_law_result"]
theorem sc_law_distance : FnScope N_law_distance ["_law_path_here", "_law_goal", "_law_names_here"] (defScope s_law_distance) := ⟨rfl, rfl, rfl, by decide +kernel, rfl, by decide +kernel, by decide +kernel⟩
abbrev s_law : Stmt := topS 15
abbrev N_law : List Str := ["_law_script_here", "_law_tape_here", "_law_names_here", "_law_path_here", "_law_goal", "_law_k", "_law_cell", "_law_other", "_law_some", "_law_start", "_law_commands_here", "_law_number"]
theorem sc_law : FnScope N_law ["_law_script_here"] (defScope s_law) := ⟨rfl, rfl, rfl, by decide +kernel, rfl, by decide +kernel, by decide +kernel⟩
/-- what the top has left -/
structure Tx (K : PySem.W.Frag) (mg : Str → Option Value) where
  f_kept_block : Addr
  fd_kept_block : FuncData
  F_kept_block : Fun K "kept_block" "kept_block" s_kept_block f_kept_block fd_kept_block
  b_kept_block : Binds K fd_kept_block ["path", "goal"] []
  g_kept_block : mg "kept_block" = some (.ref f_kept_block)
  f_least_commands : Addr
  fd_least_commands : FuncData
  F_least_commands : Fun K "least_commands" "least_commands" s_least_commands f_least_commands fd_least_commands
  b_least_commands : Binds K fd_least_commands ["path", "goal"] []
  g_least_commands : mg "least_commands" = some (.ref f_least_commands)
  f_law_tape : Addr
  fd_law_tape : FuncData
  F_law_tape : Fun K "_law_tape" "_law_tape" s_law_tape f_law_tape fd_law_tape
  b_law_tape : Binds K fd_law_tape ["_law_cell", "_law_salt"] []
  g_law_tape : mg "_law_tape" = some (.ref f_law_tape)
  f_law_draw : Addr
  fd_law_draw : FuncData
  F_law_draw : Fun K "_law_draw" "_law_draw" s_law_draw f_law_draw fd_law_draw
  b_law_draw : Binds K fd_law_draw ["_law_tape_here", "_law_count"] []
  g_law_draw : mg "_law_draw" = some (.ref f_law_draw)
  f_law_name : Addr
  fd_law_name : FuncData
  F_law_name : Fun K "_law_name" "_law_name" s_law_name f_law_name fd_law_name
  b_law_name : Binds K fd_law_name ["_law_tape_here"] []
  g_law_name : mg "_law_name" = some (.ref f_law_name)
  f_law_names : Addr
  fd_law_names : FuncData
  F_law_names : Fun K "_law_names" "_law_names" s_law_names f_law_names fd_law_names
  b_law_names : Binds K fd_law_names ["_law_tape_here", "_law_count"] []
  g_law_names : mg "_law_names" = some (.ref f_law_names)
  f_law_script : Addr
  fd_law_script : FuncData
  F_law_script : Fun K "_law_script" "_law_script" s_law_script f_law_script fd_law_script
  b_law_script : Binds K fd_law_script ["_law_tape_here", "_law_names_here", "_law_count"] []
  g_law_script : mg "_law_script" = some (.ref f_law_script)
  f_law_path : Addr
  fd_law_path : FuncData
  F_law_path : Fun K "_law_path" "_law_path" s_law_path f_law_path fd_law_path
  b_law_path : Binds K fd_law_path ["_law_tape_here", "_law_names_here"] []
  g_law_path : mg "_law_path" = some (.ref f_law_path)
  f_law_run : Addr
  fd_law_run : FuncData
  F_law_run : Fun K "_law_run" "_law_run" s_law_run f_law_run fd_law_run
  b_law_run : Binds K fd_law_run ["_law_path_here", "_law_script_here"] []
  g_law_run : mg "_law_run" = some (.ref f_law_run)
  f_law_is_integer : Addr
  fd_law_is_integer : FuncData
  F_law_is_integer : Fun K "_law_is_integer" "_law_is_integer" s_law_is_integer f_law_is_integer fd_law_is_integer
  b_law_is_integer : Binds K fd_law_is_integer ["_law_value", "_law_expected"] []
  g_law_is_integer : mg "_law_is_integer" = some (.ref f_law_is_integer)
  f_law_commands : Addr
  fd_law_commands : FuncData
  F_law_commands : Fun K "_law_commands" "_law_commands" s_law_commands f_law_commands fd_law_commands
  b_law_commands : Binds K fd_law_commands ["_law_names_here"] []
  g_law_commands : mg "_law_commands" = some (.ref f_law_commands)
  f_law_distance : Addr
  fd_law_distance : FuncData
  F_law_distance : Fun K "_law_distance" "_law_distance" s_law_distance f_law_distance fd_law_distance
  b_law_distance : Binds K fd_law_distance ["_law_path_here", "_law_goal", "_law_names_here"] []
  g_law_distance : mg "_law_distance" = some (.ref f_law_distance)
  f_law : Addr
  fd_law : FuncData
  F_law : Fun K "law" "law" s_law f_law fd_law
  b_law : Binds K fd_law ["_law_script_here"] []
  g_law : mg "law" = some (.ref f_law)
  z_abs : mg "abs" = none
  z_bool : mg "bool" = none
  z_enumerate : mg "enumerate" = none
  z_int : mg "int" = none
  z_isinstance : mg "isinstance" = none
  z_len : mg "len" = none
  z_list : mg "list" = none
  z_max : mg "max" = none
  z_range : mg "range" = none
section
variable {P : Program} {w : World} {K : PySem.W.Frag} {mg : Str → Option Value} {base : Heap}
/-! ### kept_block -/
def S_kept_block (ds : List D) (P : R → Prop) : Prop := ∃ p g, Blk p g ds P
def KbW (p g : List Str) (l : List D) (e : Ev) : Prop := ∃ (b k s i : Nat) (u4 u5 : G.E), e = [.fz (.list (p.map .str)), .fz (.list (g.map .str)), .fz (.tuple [.int b, .int k]), .fz (.int s), u4, u5] ∧ (jO (some u4) ∧ jO (some u5)) ∧ l = (pairs (g.map .str)).drop i ∧ i ≤ g.length ∧ s ≤ i ∧ k ≤ i ∧ Va p g s i ∧ (∀ b', b' < s → ¬ Va p g b' i) ∧ BestOn p g (fun _ e' => e' ≤ i) b k
theorem va_pre {p g : List Str} {b k : Nat} (h : b ≤ k) (hk : k < g.length) (v : Va p g b (k + 1)) : Va p g b k := by
  unfold Va at v ⊢
  rw [slc_succ h hk] at v
  exact .trans (List.sublist_append_left _ _) v
theorem kb_keep {p g : List Str} {l : List D} {b k s i : Nat} {u4 u5 : G.E} (ju : jO (some u4) ∧ jO (some u5)) (el : l = (pairs (g.map .str)).drop (i + 1)) (hi : i < g.length) (hs : s ≤ i + 1) (hk : k ≤ i) (v : Va p g s (i + 1)) (hb : ∀ b', b' < s → ¬ Va p g b' (i + 1))
    (hB : BestOn p g (fun _ e' => e' ≤ i) b k) (hn : ¬ (k : Int) - b < (i : Int) + 1 - s) : KbW p g l [.fz (.list (p.map .str)), .fz (.list (g.map .str)), .fz (.tuple [.int b, .int k]), .fz (.int s), u4, u5] := by
  obtain ⟨h1, h2, h3, h4, h5⟩ := hB
  refine ⟨b, k, s, i + 1, u4, u5, rfl, ju, el, by omega, hs, by omega, v, hb, h1, h2, h3, h4, fun b' e' h q1 q2 q3 => ?_⟩
  by_cases c : e' ≤ i
  · exact h5 b' e' c q1 q2 q3
  · have : e' = i + 1 := by omega
    subst this
    have : ¬ b' < s := fun c => hb b' c q3
    omega
theorem kb_new {p g : List Str} {l : List D} {b k s i : Nat} {u4 u5 : G.E} (ju : jO (some u4) ∧ jO (some u5)) (el : l = (pairs (g.map .str)).drop (i + 1)) (hi : i < g.length) (hs : s ≤ i + 1) (hk : k ≤ i) (v : Va p g s (i + 1)) (hb : ∀ b', b' < s → ¬ Va p g b' (i + 1))
    (hB : BestOn p g (fun _ e' => e' ≤ i) b k) (hn : (k : Int) - b < (i : Int) + 1 - s) : KbW p g l [.fz (.list (p.map .str)), .fz (.list (g.map .str)), .fz (.tuple [.int s, .int ((i : Int) + 1)]), .fz (.int s), u4, u5] := by
  obtain ⟨h1, h2, h3, h4, h5⟩ := hB
  refine ⟨s, i + 1, s, i + 1, u4, u5, rfl, ju, el, by omega, hs, Nat.le_refl _, v, hb, hs, by omega, v, by omega, fun b' e' h q1 q2 q3 => ?_⟩
  by_cases c : e' ≤ i
  · have := h5 b' e' c q1 q2 q3
    omega
  · have : e' = i + 1 := by omega
    subst this
    have : ¬ b' < s := fun c => hb b' c q3
    omega
theorem slc_mem {g : List Str} {b i e : Nat} {x : Str} (h : g[i]? = some x) (h1 : b ≤ i) (h2 : i < e) : x ∈ slc g b e := by
  unfold slc
  refine List.mem_of_getElem? (i := i - b) ?_
  rw [List.getElem?_take, if_pos (by omega), List.getElem?_drop]
  have : b + (i - b) = i := by omega
  rw [this, h]
theorem val_nd {xs : List Nm} (h : xs.Nodup) : (xs.map Nm.val).Nodup := List.Pairwise.map _ (fun a b hab he => hab (Nm.ext_iff.mpr he)) h
theorem val_ok {xs : List Nm} : ∀ x ∈ xs.map Nm.val, SOk x := fun x hx => by
  obtain ⟨n, -, rfl⟩ := List.mem_map.mp hx
  exact n.property.ok
theorem eL_val {xs : List Nm} : eL xs = .list ((xs.map Nm.val).map .str) := by unfold eL; rw [List.map_map]; rfl
theorem kb_n {p g : List Nm} {P : R → Prop} (hp : p.Nodup) (hg : g.Nodup) (h1 : p.length ≤ 1000) (h2 : g.length ≤ 1003) (q : ∀ b e, Bst p g b e → P (.fz (.tuple [.int (b : Int), .int (e : Int)]))) : S_kept_block [eL p, eL g] P :=
  ⟨p.map Nm.val, g.map Nm.val, by rw [eL_val, eL_val], val_nd hp, val_nd hg, val_ok, val_ok, by rw [List.length_map]; exact h1, by rw [List.length_map]; exact h2, q⟩
set_option maxHeartbeats 4000000 in
theorem ok_kept_block (T : Tx K mg) : FnG P w K mg base 1 T.f_kept_block T.fd_kept_block 2 ["path", "goal"] (spF K 2 S_kept_block) := by
  refine fn_F (m := 4) T.F_kept_block sc_kept_block rfl rfl fun {cdv A outer s H E} g room ds PP hl hS => ?_
  refine ⟨_, _, (gb_cons (gs_set (ge_tup (ga_cons ge_int (ga_cons ge_int ga_nil))) (gg_name 2 sc_kept_block.nd))
      (gb_cons (gs_set ge_int (gg_name 3 sc_kept_block.nd))
      (gb_cons (gs_for PassesOwn.never rfl (gi_enum rfl T.z_enumerate (ga_cons (ge_var 1) ga_nil)) (gg_tup (n := 2) rfl (ggs_cons (gg_name 4 sc_kept_block.nd) (ggs_cons (gg_name 5 sc_kept_block.nd) ggs_nil)))
      (gb_cons (gs_if (gt_cmp (op_ninG (plenty room)) sr_nin (by rfl) (ge_var 5) (ge_var 0))
      (gb_one (gs_set (ge_op op_addG sr_add (ge_var 4) ge_int) (gg_name 3 sc_kept_block.nd)))
      (gb_one (gs_if (GW.gt (gw_and (gt_cmp op_gt sr_intB (nomark _) (ge_var 4) (ge_var 3)) (gw_and1 (gt_cmp op_ltG sr_lt (nomark _) (ge_index (ge_var 0) (ge_var 5)) (ge_index (ge_var 0) (ge_ix ix_seq sr_ix (ge_var 1) (ge_op op_sub sr_int0 (ge_var 4) ge_int) (fun _ _ => rfl)))))))
      (gb_one (gs_set (ge_var 4) (gg_name 3 sc_kept_block.nd)))
      gb_nil)))
      (gb_one (gs_if (gt_cmp op_gt sr_intB (nomark _) (ge_op op_sub sr_int0 (ge_op op_addG sr_add (ge_var 4) ge_int) (ge_var 3)) (ge_op op_sub sr_int0 (ge_ix ix_seq sr_ix (ge_var 2) ge_int (fun _ _ => rfl)) (ge_ix ix_seq sr_ix (ge_var 2) ge_int (fun _ _ => rfl))))
      (gb_one (gs_set (ge_tup (ga_cons (ge_var 3) (ga_cons (ge_op op_addG sr_add (ge_var 4) ge_int) ga_nil))) (gg_name 2 sc_kept_block.nd)))
      gb_nil))))
      (gb_one (gs_ret (ge_var 2)))))), ?_⟩
  obtain ⟨p, g, rfl, hp, hg, okp, okg, lp, lg, hP⟩ := hS
  have j1 : ∀ {d : D}, jO (some (G.E.fz d)) := trivial
  simp -dsimp only [↓x_seq, ↓x_next, ↓x_drop, ↓x_set, ↓x_setO, ↓x_name, ↓x_gnil, ↓x_gcons, ↓x_gtup, ↓x_bin, ↓x_var, ↓x_varF, ↓x_c, ↓x_1, ↓x_B, ↓x_and, ↓x_or, ↓x_not, ↓x_andV, ↓x_orV, ↓x_notV, ↓x_if, ↓x_ifS, ↓x_ret, ↓x_lst, ↓x_tup, ↓x_acons, ↓x_anil, ↓x_aug, ↓x_setIx, ↓x_call, ↓x_callT, ↓x_callK, ↓x_callD, ↓x_chain, ↓x_sl, ↓x_oS, ↓x_oN, ↓x_rep, ↓x_store, ↓x_app, ↓x_popAt, ↓x_insert, ↓x_ext, ↓x_strM, ↓x_listM, ↓x_isi, ↓x_LE, ↓x_yes, ↓x_iList, ↓x_iTup, ↓x_iStr, ↓x_iEnum, ↓x_iRange1, ↓x_iRange2, ↓x_for, ↓x_while, ↓x_lc, ↓x_rev, ↓x_pNil, ↓x_pCons, ↓x_dict, ↓x_dict0, ↓x_dget, cs_t, cs_f, ex_s, sh1, get_fz, get_ow, get_br, brD_ow, brD_fz, fzd_fz, fzd_ow, fzd_br, jO_un, jO_fz, jO_ow, jO_no, intF_i, intF0_i, addF_i, addF_s, addF_l, addF_t, mulF, mulSF_s, ne0F_l, subF, fdivF, modF, powF, ltF_i, ltF_s, leF, gtF, geF, absF_i, maxF, minF, lenF_l, lenF_t, lenF_s, toIntF_i, toIntF_b, toListF_l, toListF_t, toTupF_l, toTupF_t, negF_i, cutF_l, cutF_t, cutF_s, isF_bb, isF_nn, isF_ln, isF_sn, isF_in, isF_tn, List.map_cons, List.map_nil, List.cons_append, List.nil_append, List.replicate, List.getElem?_cons_zero, List.getElem?_cons_succ, List.set_cons_zero, List.set_cons_succ, List.length_cons, List.length_nil, if_true, if_false, Bool.false_eq_true, true_and, and_true, reduceCtorEq, ixF_0, ixF_1, ixF_2, ixF_t0, ixF_t1, ixF_t2, ixn0, ixn1, eqF_s, eqF_i, neF_s, neF_i, eqF_l, eqF_t, neF_l, Option.some.injEq, G.E.ow.injEq, exists_eq_left', exists_eq_left, exists_eq', exists_and_left, exists_and_right, exists_const, and_self, ne_eq, not_false_eq_true, decide_true, decide_false, Bool.not_true, Bool.not_false, restE, wipeE, List.getD_eq_getElem?_getD, Option.getD_some]
  refine ⟨by decide, for_i (KbW p g) ⟨0, 0, 0, 0, _, _, rfl, ⟨trivial, trivial⟩, rfl, Nat.zero_le _, Nat.le_refl _, Nat.le_refl _, by unfold Va; rw [slc_self]; exact List.nil_sublist _, fun _ h => absurd h (Nat.not_lt_zero _), best_start fun b e h h' => by omega⟩ ?_ ?_⟩
  · rintro d l e ⟨b, k, s, i, u4, u5, rfl, ⟨j4, j5⟩, el, hi, hs, hk, v, hb, hB⟩
    obtain ⟨ed, en⟩ := drop_cons el
    have hi : i < g.length := by
      have := (List.getElem?_eq_some_iff.mp ed).1
      rw [pairs_length, List.length_map] at this
      exact this
    have gi : g[i]? = some g[i] := List.getElem?_eq_getElem hi
    obtain rfl : d = .tuple [.int i, .str g[i]] := by
      have := pairs_get (ds := g.map PyData.str) (i := i) (d := .str g[i]) (by rw [List.getElem?_map, gi]; rfl)
      exact Option.some.inj (ed.symm.trans this)
    have okx : SOk g[i] := okg _ (List.getElem_mem hi)
    simp -dsimp only [↓x_seq, ↓x_next, ↓x_drop, ↓x_set, ↓x_setO, ↓x_name, ↓x_gnil, ↓x_gcons, ↓x_gtup, ↓x_bin, ↓x_var, ↓x_varF, ↓x_c, ↓x_1, ↓x_B, ↓x_and, ↓x_or, ↓x_not, ↓x_andV, ↓x_orV, ↓x_notV, ↓x_if, ↓x_ifS, ↓x_ret, ↓x_lst, ↓x_tup, ↓x_acons, ↓x_anil, ↓x_aug, ↓x_setIx, ↓x_call, ↓x_callT, ↓x_callK, ↓x_callD, ↓x_chain, ↓x_sl, ↓x_oS, ↓x_oN, ↓x_rep, ↓x_store, ↓x_app, ↓x_popAt, ↓x_insert, ↓x_ext, ↓x_strM, ↓x_listM, ↓x_isi, ↓x_LE, ↓x_yes, ↓x_iList, ↓x_iTup, ↓x_iStr, ↓x_iEnum, ↓x_iRange1, ↓x_iRange2, ↓x_for, ↓x_while, ↓x_lc, ↓x_rev, ↓x_pNil, ↓x_pCons, ↓x_dict, ↓x_dict0, ↓x_dget, cs_t, cs_f, ex_s, sh1, get_fz, get_ow, get_br, brD_ow, brD_fz, fzd_fz, fzd_ow, fzd_br, jO_un, jO_fz, jO_ow, jO_no, intF_i, intF0_i, addF_i, addF_s, addF_l, addF_t, mulF, mulSF_s, ne0F_l, subF, fdivF, modF, powF, ltF_i, ltF_s, leF, gtF, geF, absF_i, maxF, minF, lenF_l, lenF_t, lenF_s, toIntF_i, toIntF_b, toListF_l, toListF_t, toTupF_l, toTupF_t, negF_i, cutF_l, cutF_t, cutF_s, isF_bb, isF_nn, isF_ln, isF_sn, isF_in, isF_tn, List.map_cons, List.map_nil, List.cons_append, List.nil_append, List.replicate, List.getElem?_cons_zero, List.getElem?_cons_succ, List.set_cons_zero, List.set_cons_succ, List.length_cons, List.length_nil, if_true, if_false, Bool.false_eq_true, true_and, and_true, reduceCtorEq, ixF_0, ixF_1, ixF_2, ixF_t0, ixF_t1, ixF_t2, ixn0, ixn1, eqF_s, eqF_i, neF_s, neF_i, eqF_l, eqF_t, neF_l, Option.some.injEq, G.E.ow.injEq, exists_eq_left', exists_eq_left, exists_eq', exists_and_left, exists_and_right, exists_const, and_self, ne_eq, not_false_eq_true, decide_true, decide_false, Bool.not_true, Bool.not_false, restE, wipeE, List.getD_eq_getElem?_getD, Option.getD_some, j4, j5]
    refine nin_ss okp okx (fun hn => ?_) fun hn => ?_
    · simp -dsimp only [↓x_seq, ↓x_next, ↓x_drop, ↓x_set, ↓x_setO, ↓x_name, ↓x_gnil, ↓x_gcons, ↓x_gtup, ↓x_bin, ↓x_var, ↓x_varF, ↓x_c, ↓x_1, ↓x_B, ↓x_and, ↓x_or, ↓x_not, ↓x_andV, ↓x_orV, ↓x_notV, ↓x_if, ↓x_ifS, ↓x_ret, ↓x_lst, ↓x_tup, ↓x_acons, ↓x_anil, ↓x_aug, ↓x_setIx, ↓x_call, ↓x_callT, ↓x_callK, ↓x_callD, ↓x_chain, ↓x_sl, ↓x_oS, ↓x_oN, ↓x_rep, ↓x_store, ↓x_app, ↓x_popAt, ↓x_insert, ↓x_ext, ↓x_strM, ↓x_listM, ↓x_isi, ↓x_LE, ↓x_yes, ↓x_iList, ↓x_iTup, ↓x_iStr, ↓x_iEnum, ↓x_iRange1, ↓x_iRange2, ↓x_for, ↓x_while, ↓x_lc, ↓x_rev, ↓x_pNil, ↓x_pCons, ↓x_dict, ↓x_dict0, ↓x_dget, cs_t, cs_f, ex_s, sh1, get_fz, get_ow, get_br, brD_ow, brD_fz, fzd_fz, fzd_ow, fzd_br, jO_un, jO_fz, jO_ow, jO_no, intF_i, intF0_i, addF_i, addF_s, addF_l, addF_t, mulF, mulSF_s, ne0F_l, subF, fdivF, modF, powF, ltF_i, ltF_s, leF, gtF, geF, absF_i, maxF, minF, lenF_l, lenF_t, lenF_s, toIntF_i, toIntF_b, toListF_l, toListF_t, toTupF_l, toTupF_t, negF_i, cutF_l, cutF_t, cutF_s, isF_bb, isF_nn, isF_ln, isF_sn, isF_in, isF_tn, List.map_cons, List.map_nil, List.cons_append, List.nil_append, List.replicate, List.getElem?_cons_zero, List.getElem?_cons_succ, List.set_cons_zero, List.set_cons_succ, List.length_cons, List.length_nil, if_true, if_false, Bool.false_eq_true, true_and, and_true, reduceCtorEq, ixF_0, ixF_1, ixF_2, ixF_t0, ixF_t1, ixF_t2, ixn0, ixn1, eqF_s, eqF_i, neF_s, neF_i, eqF_l, eqF_t, neF_l, Option.some.injEq, G.E.ow.injEq, exists_eq_left', exists_eq_left, exists_eq', exists_and_left, exists_and_right, exists_const, and_self, ne_eq, not_false_eq_true, decide_true, decide_false, Bool.not_true, Bool.not_false, restE, wipeE, List.getD_eq_getElem?_getD, Option.getD_some]
      have fin1 : ∀ b', b' < i + 1 → ¬ Va p g b' (i + 1) := fun b' h c => hn (c.subset (slc_mem gi (by omega) (by omega)))
      have fin2 : Va p g (i + 1) (i + 1) := by unfold Va; rw [slc_self]; exact List.nil_sublist _
      refine cs_i (fun hlt => ?_) fun hlt => ?_
      · simp -dsimp only [↓x_seq, ↓x_next, ↓x_drop, ↓x_set, ↓x_setO, ↓x_name, ↓x_gnil, ↓x_gcons, ↓x_gtup, ↓x_bin, ↓x_var, ↓x_varF, ↓x_c, ↓x_1, ↓x_B, ↓x_and, ↓x_or, ↓x_not, ↓x_andV, ↓x_orV, ↓x_notV, ↓x_if, ↓x_ifS, ↓x_ret, ↓x_lst, ↓x_tup, ↓x_acons, ↓x_anil, ↓x_aug, ↓x_setIx, ↓x_call, ↓x_callT, ↓x_callK, ↓x_callD, ↓x_chain, ↓x_sl, ↓x_oS, ↓x_oN, ↓x_rep, ↓x_store, ↓x_app, ↓x_popAt, ↓x_insert, ↓x_ext, ↓x_strM, ↓x_listM, ↓x_isi, ↓x_LE, ↓x_yes, ↓x_iList, ↓x_iTup, ↓x_iStr, ↓x_iEnum, ↓x_iRange1, ↓x_iRange2, ↓x_for, ↓x_while, ↓x_lc, ↓x_rev, ↓x_pNil, ↓x_pCons, ↓x_dict, ↓x_dict0, ↓x_dget, cs_t, cs_f, ex_s, sh1, get_fz, get_ow, get_br, brD_ow, brD_fz, fzd_fz, fzd_ow, fzd_br, jO_un, jO_fz, jO_ow, jO_no, intF_i, intF0_i, addF_i, addF_s, addF_l, addF_t, mulF, mulSF_s, ne0F_l, subF, fdivF, modF, powF, ltF_i, ltF_s, leF, gtF, geF, absF_i, maxF, minF, lenF_l, lenF_t, lenF_s, toIntF_i, toIntF_b, toListF_l, toListF_t, toTupF_l, toTupF_t, negF_i, cutF_l, cutF_t, cutF_s, isF_bb, isF_nn, isF_ln, isF_sn, isF_in, isF_tn, List.map_cons, List.map_nil, List.cons_append, List.nil_append, List.replicate, List.getElem?_cons_zero, List.getElem?_cons_succ, List.set_cons_zero, List.set_cons_succ, List.length_cons, List.length_nil, if_true, if_false, Bool.false_eq_true, true_and, and_true, reduceCtorEq, ixF_0, ixF_1, ixF_2, ixF_t0, ixF_t1, ixF_t2, ixn0, ixn1, eqF_s, eqF_i, neF_s, neF_i, eqF_l, eqF_t, neF_l, Option.some.injEq, G.E.ow.injEq, exists_eq_left', exists_eq_left, exists_eq', exists_and_left, exists_and_right, exists_const, and_self, ne_eq, not_false_eq_true, decide_true, decide_false, Bool.not_true, Bool.not_false, restE, wipeE, List.getD_eq_getElem?_getD, Option.getD_some]
        exact ⟨by decide, kb_new ⟨j1, j1⟩ en hi (Nat.le_refl _) hk fin2 fin1 hB hlt⟩
      · simp -dsimp only [↓x_seq, ↓x_next, ↓x_drop, ↓x_set, ↓x_setO, ↓x_name, ↓x_gnil, ↓x_gcons, ↓x_gtup, ↓x_bin, ↓x_var, ↓x_varF, ↓x_c, ↓x_1, ↓x_B, ↓x_and, ↓x_or, ↓x_not, ↓x_andV, ↓x_orV, ↓x_notV, ↓x_if, ↓x_ifS, ↓x_ret, ↓x_lst, ↓x_tup, ↓x_acons, ↓x_anil, ↓x_aug, ↓x_setIx, ↓x_call, ↓x_callT, ↓x_callK, ↓x_callD, ↓x_chain, ↓x_sl, ↓x_oS, ↓x_oN, ↓x_rep, ↓x_store, ↓x_app, ↓x_popAt, ↓x_insert, ↓x_ext, ↓x_strM, ↓x_listM, ↓x_isi, ↓x_LE, ↓x_yes, ↓x_iList, ↓x_iTup, ↓x_iStr, ↓x_iEnum, ↓x_iRange1, ↓x_iRange2, ↓x_for, ↓x_while, ↓x_lc, ↓x_rev, ↓x_pNil, ↓x_pCons, ↓x_dict, ↓x_dict0, ↓x_dget, cs_t, cs_f, ex_s, sh1, get_fz, get_ow, get_br, brD_ow, brD_fz, fzd_fz, fzd_ow, fzd_br, jO_un, jO_fz, jO_ow, jO_no, intF_i, intF0_i, addF_i, addF_s, addF_l, addF_t, mulF, mulSF_s, ne0F_l, subF, fdivF, modF, powF, ltF_i, ltF_s, leF, gtF, geF, absF_i, maxF, minF, lenF_l, lenF_t, lenF_s, toIntF_i, toIntF_b, toListF_l, toListF_t, toTupF_l, toTupF_t, negF_i, cutF_l, cutF_t, cutF_s, isF_bb, isF_nn, isF_ln, isF_sn, isF_in, isF_tn, List.map_cons, List.map_nil, List.cons_append, List.nil_append, List.replicate, List.getElem?_cons_zero, List.getElem?_cons_succ, List.set_cons_zero, List.set_cons_succ, List.length_cons, List.length_nil, if_true, if_false, Bool.false_eq_true, true_and, and_true, reduceCtorEq, ixF_0, ixF_1, ixF_2, ixF_t0, ixF_t1, ixF_t2, ixn0, ixn1, eqF_s, eqF_i, neF_s, neF_i, eqF_l, eqF_t, neF_l, Option.some.injEq, G.E.ow.injEq, exists_eq_left', exists_eq_left, exists_eq', exists_and_left, exists_and_right, exists_const, and_self, ne_eq, not_false_eq_true, decide_true, decide_false, Bool.not_true, Bool.not_false, restE, wipeE, List.getD_eq_getElem?_getD, Option.getD_some]
        exact kb_keep ⟨j1, j1⟩ en hi (Nat.le_refl _) hk fin2 fin1 hB hlt
    · simp -dsimp only [↓x_seq, ↓x_next, ↓x_drop, ↓x_set, ↓x_setO, ↓x_name, ↓x_gnil, ↓x_gcons, ↓x_gtup, ↓x_bin, ↓x_var, ↓x_varF, ↓x_c, ↓x_1, ↓x_B, ↓x_and, ↓x_or, ↓x_not, ↓x_andV, ↓x_orV, ↓x_notV, ↓x_if, ↓x_ifS, ↓x_ret, ↓x_lst, ↓x_tup, ↓x_acons, ↓x_anil, ↓x_aug, ↓x_setIx, ↓x_call, ↓x_callT, ↓x_callK, ↓x_callD, ↓x_chain, ↓x_sl, ↓x_oS, ↓x_oN, ↓x_rep, ↓x_store, ↓x_app, ↓x_popAt, ↓x_insert, ↓x_ext, ↓x_strM, ↓x_listM, ↓x_isi, ↓x_LE, ↓x_yes, ↓x_iList, ↓x_iTup, ↓x_iStr, ↓x_iEnum, ↓x_iRange1, ↓x_iRange2, ↓x_for, ↓x_while, ↓x_lc, ↓x_rev, ↓x_pNil, ↓x_pCons, ↓x_dict, ↓x_dict0, ↓x_dget, cs_t, cs_f, ex_s, sh1, get_fz, get_ow, get_br, brD_ow, brD_fz, fzd_fz, fzd_ow, fzd_br, jO_un, jO_fz, jO_ow, jO_no, intF_i, intF0_i, addF_i, addF_s, addF_l, addF_t, mulF, mulSF_s, ne0F_l, subF, fdivF, modF, powF, ltF_i, ltF_s, leF, gtF, geF, absF_i, maxF, minF, lenF_l, lenF_t, lenF_s, toIntF_i, toIntF_b, toListF_l, toListF_t, toTupF_l, toTupF_t, negF_i, cutF_l, cutF_t, cutF_s, isF_bb, isF_nn, isF_ln, isF_sn, isF_in, isF_tn, List.map_cons, List.map_nil, List.cons_append, List.nil_append, List.replicate, List.getElem?_cons_zero, List.getElem?_cons_succ, List.set_cons_zero, List.set_cons_succ, List.length_cons, List.length_nil, if_true, if_false, Bool.false_eq_true, true_and, and_true, reduceCtorEq, ixF_0, ixF_1, ixF_2, ixF_t0, ixF_t1, ixF_t2, ixn0, ixn1, eqF_s, eqF_i, neF_s, neF_i, eqF_l, eqF_t, neF_l, Option.some.injEq, G.E.ow.injEq, exists_eq_left', exists_eq_left, exists_eq', exists_and_left, exists_and_right, exists_const, and_self, ne_eq, not_false_eq_true, decide_true, decide_false, Bool.not_true, Bool.not_false, restE, wipeE, List.getD_eq_getElem?_getD, Option.getD_some]
      refine cs_i (fun hsi => ?_) fun hsi => ?_
      · simp -dsimp only [↓x_seq, ↓x_next, ↓x_drop, ↓x_set, ↓x_setO, ↓x_name, ↓x_gnil, ↓x_gcons, ↓x_gtup, ↓x_bin, ↓x_var, ↓x_varF, ↓x_c, ↓x_1, ↓x_B, ↓x_and, ↓x_or, ↓x_not, ↓x_andV, ↓x_orV, ↓x_notV, ↓x_if, ↓x_ifS, ↓x_ret, ↓x_lst, ↓x_tup, ↓x_acons, ↓x_anil, ↓x_aug, ↓x_setIx, ↓x_call, ↓x_callT, ↓x_callK, ↓x_callD, ↓x_chain, ↓x_sl, ↓x_oS, ↓x_oN, ↓x_rep, ↓x_store, ↓x_app, ↓x_popAt, ↓x_insert, ↓x_ext, ↓x_strM, ↓x_listM, ↓x_isi, ↓x_LE, ↓x_yes, ↓x_iList, ↓x_iTup, ↓x_iStr, ↓x_iEnum, ↓x_iRange1, ↓x_iRange2, ↓x_for, ↓x_while, ↓x_lc, ↓x_rev, ↓x_pNil, ↓x_pCons, ↓x_dict, ↓x_dict0, ↓x_dget, cs_t, cs_f, ex_s, sh1, get_fz, get_ow, get_br, brD_ow, brD_fz, fzd_fz, fzd_ow, fzd_br, jO_un, jO_fz, jO_ow, jO_no, intF_i, intF0_i, addF_i, addF_s, addF_l, addF_t, mulF, mulSF_s, ne0F_l, subF, fdivF, modF, powF, ltF_i, ltF_s, leF, gtF, geF, absF_i, maxF, minF, lenF_l, lenF_t, lenF_s, toIntF_i, toIntF_b, toListF_l, toListF_t, toTupF_l, toTupF_t, negF_i, cutF_l, cutF_t, cutF_s, isF_bb, isF_nn, isF_ln, isF_sn, isF_in, isF_tn, List.map_cons, List.map_nil, List.cons_append, List.nil_append, List.replicate, List.getElem?_cons_zero, List.getElem?_cons_succ, List.set_cons_zero, List.set_cons_succ, List.length_cons, List.length_nil, if_true, if_false, Bool.false_eq_true, true_and, and_true, reduceCtorEq, ixF_0, ixF_1, ixF_2, ixF_t0, ixF_t1, ixF_t2, ixn0, ixn1, eqF_s, eqF_i, neF_s, neF_i, eqF_l, eqF_t, neF_l, Option.some.injEq, G.E.ow.injEq, exists_eq_left', exists_eq_left, exists_eq', exists_and_left, exists_and_right, exists_const, and_self, ne_eq, not_false_eq_true, decide_true, decide_false, Bool.not_true, Bool.not_false, restE, wipeE, List.getD_eq_getElem?_getD, Option.getD_some]
        obtain ⟨q, rfl⟩ : ∃ q, i = q + 1 := ⟨i - 1, by omega⟩
        have gq : g[q]? = some g[q] := List.getElem?_eq_getElem (by omega)
        have hv : slc g s (q + 1) = slc g s q ++ [g[q]] := slc_succ (by omega) (by omega)
        have mq : g[q] ∈ p := v.subset (slc_mem gq (by omega) (by omega))
        obtain ⟨a, la, a1, a2⟩ := idx_mem hp hn
        obtain ⟨c, lc, c1, c2⟩ := idx_mem hp mq
        have eq1 : (((q + 1 : Nat) : Int) - 1) = (q : Int) := by omega
        refine ⟨⟨_, rfl⟩, idx_n a1 a2 ?_⟩
        simp -dsimp only [↓x_seq, ↓x_next, ↓x_drop, ↓x_set, ↓x_setO, ↓x_name, ↓x_gnil, ↓x_gcons, ↓x_gtup, ↓x_bin, ↓x_var, ↓x_varF, ↓x_c, ↓x_1, ↓x_B, ↓x_and, ↓x_or, ↓x_not, ↓x_andV, ↓x_orV, ↓x_notV, ↓x_if, ↓x_ifS, ↓x_ret, ↓x_lst, ↓x_tup, ↓x_acons, ↓x_anil, ↓x_aug, ↓x_setIx, ↓x_call, ↓x_callT, ↓x_callK, ↓x_callD, ↓x_chain, ↓x_sl, ↓x_oS, ↓x_oN, ↓x_rep, ↓x_store, ↓x_app, ↓x_popAt, ↓x_insert, ↓x_ext, ↓x_strM, ↓x_listM, ↓x_isi, ↓x_LE, ↓x_yes, ↓x_iList, ↓x_iTup, ↓x_iStr, ↓x_iEnum, ↓x_iRange1, ↓x_iRange2, ↓x_for, ↓x_while, ↓x_lc, ↓x_rev, ↓x_pNil, ↓x_pCons, ↓x_dict, ↓x_dict0, ↓x_dget, cs_t, cs_f, ex_s, sh1, get_fz, get_ow, get_br, brD_ow, brD_fz, fzd_fz, fzd_ow, fzd_br, jO_un, jO_fz, jO_ow, jO_no, intF_i, intF0_i, addF_i, addF_s, addF_l, addF_t, mulF, mulSF_s, ne0F_l, subF, fdivF, modF, powF, ltF_i, ltF_s, leF, gtF, geF, absF_i, maxF, minF, lenF_l, lenF_t, lenF_s, toIntF_i, toIntF_b, toListF_l, toListF_t, toTupF_l, toTupF_t, negF_i, cutF_l, cutF_t, cutF_s, isF_bb, isF_nn, isF_ln, isF_sn, isF_in, isF_tn, List.map_cons, List.map_nil, List.cons_append, List.nil_append, List.replicate, List.getElem?_cons_zero, List.getElem?_cons_succ, List.set_cons_zero, List.set_cons_succ, List.length_cons, List.length_nil, if_true, if_false, Bool.false_eq_true, true_and, and_true, reduceCtorEq, ixF_0, ixF_1, ixF_2, ixF_t0, ixF_t1, ixF_t2, ixn0, ixn1, eqF_s, eqF_i, neF_s, neF_i, eqF_l, eqF_t, neF_l, Option.some.injEq, G.E.ow.injEq, exists_eq_left', exists_eq_left, exists_eq', exists_and_left, exists_and_right, exists_const, and_self, ne_eq, not_false_eq_true, decide_true, decide_false, Bool.not_true, Bool.not_false, restE, wipeE, List.getD_eq_getElem?_getD, Option.getD_some, eq1]
        refine ⟨⟨_, rfl⟩, ix_ln (d := .str g[q]) (by rw [List.getElem?_map, gq]; rfl) ?_⟩
        simp -dsimp only [↓x_seq, ↓x_next, ↓x_drop, ↓x_set, ↓x_setO, ↓x_name, ↓x_gnil, ↓x_gcons, ↓x_gtup, ↓x_bin, ↓x_var, ↓x_varF, ↓x_c, ↓x_1, ↓x_B, ↓x_and, ↓x_or, ↓x_not, ↓x_andV, ↓x_orV, ↓x_notV, ↓x_if, ↓x_ifS, ↓x_ret, ↓x_lst, ↓x_tup, ↓x_acons, ↓x_anil, ↓x_aug, ↓x_setIx, ↓x_call, ↓x_callT, ↓x_callK, ↓x_callD, ↓x_chain, ↓x_sl, ↓x_oS, ↓x_oN, ↓x_rep, ↓x_store, ↓x_app, ↓x_popAt, ↓x_insert, ↓x_ext, ↓x_strM, ↓x_listM, ↓x_isi, ↓x_LE, ↓x_yes, ↓x_iList, ↓x_iTup, ↓x_iStr, ↓x_iEnum, ↓x_iRange1, ↓x_iRange2, ↓x_for, ↓x_while, ↓x_lc, ↓x_rev, ↓x_pNil, ↓x_pCons, ↓x_dict, ↓x_dict0, ↓x_dget, cs_t, cs_f, ex_s, sh1, get_fz, get_ow, get_br, brD_ow, brD_fz, fzd_fz, fzd_ow, fzd_br, jO_un, jO_fz, jO_ow, jO_no, intF_i, intF0_i, addF_i, addF_s, addF_l, addF_t, mulF, mulSF_s, ne0F_l, subF, fdivF, modF, powF, ltF_i, ltF_s, leF, gtF, geF, absF_i, maxF, minF, lenF_l, lenF_t, lenF_s, toIntF_i, toIntF_b, toListF_l, toListF_t, toTupF_l, toTupF_t, negF_i, cutF_l, cutF_t, cutF_s, isF_bb, isF_nn, isF_ln, isF_sn, isF_in, isF_tn, List.map_cons, List.map_nil, List.cons_append, List.nil_append, List.replicate, List.getElem?_cons_zero, List.getElem?_cons_succ, List.set_cons_zero, List.set_cons_succ, List.length_cons, List.length_nil, if_true, if_false, Bool.false_eq_true, true_and, and_true, reduceCtorEq, ixF_0, ixF_1, ixF_2, ixF_t0, ixF_t1, ixF_t2, ixn0, ixn1, eqF_s, eqF_i, neF_s, neF_i, eqF_l, eqF_t, neF_l, Option.some.injEq, G.E.ow.injEq, exists_eq_left', exists_eq_left, exists_eq', exists_and_left, exists_and_right, exists_const, and_self, ne_eq, not_false_eq_true, decide_true, decide_false, Bool.not_true, Bool.not_false, restE, wipeE, List.getD_eq_getElem?_getD, Option.getD_some]
        refine idx_n c1 c2 ?_
        simp -dsimp only [↓x_seq, ↓x_next, ↓x_drop, ↓x_set, ↓x_setO, ↓x_name, ↓x_gnil, ↓x_gcons, ↓x_gtup, ↓x_bin, ↓x_var, ↓x_varF, ↓x_c, ↓x_1, ↓x_B, ↓x_and, ↓x_or, ↓x_not, ↓x_andV, ↓x_orV, ↓x_notV, ↓x_if, ↓x_ifS, ↓x_ret, ↓x_lst, ↓x_tup, ↓x_acons, ↓x_anil, ↓x_aug, ↓x_setIx, ↓x_call, ↓x_callT, ↓x_callK, ↓x_callD, ↓x_chain, ↓x_sl, ↓x_oS, ↓x_oN, ↓x_rep, ↓x_store, ↓x_app, ↓x_popAt, ↓x_insert, ↓x_ext, ↓x_strM, ↓x_listM, ↓x_isi, ↓x_LE, ↓x_yes, ↓x_iList, ↓x_iTup, ↓x_iStr, ↓x_iEnum, ↓x_iRange1, ↓x_iRange2, ↓x_for, ↓x_while, ↓x_lc, ↓x_rev, ↓x_pNil, ↓x_pCons, ↓x_dict, ↓x_dict0, ↓x_dget, cs_t, cs_f, ex_s, sh1, get_fz, get_ow, get_br, brD_ow, brD_fz, fzd_fz, fzd_ow, fzd_br, jO_un, jO_fz, jO_ow, jO_no, intF_i, intF0_i, addF_i, addF_s, addF_l, addF_t, mulF, mulSF_s, ne0F_l, subF, fdivF, modF, powF, ltF_i, ltF_s, leF, gtF, geF, absF_i, maxF, minF, lenF_l, lenF_t, lenF_s, toIntF_i, toIntF_b, toListF_l, toListF_t, toTupF_l, toTupF_t, negF_i, cutF_l, cutF_t, cutF_s, isF_bb, isF_nn, isF_ln, isF_sn, isF_in, isF_tn, List.map_cons, List.map_nil, List.cons_append, List.nil_append, List.replicate, List.getElem?_cons_zero, List.getElem?_cons_succ, List.set_cons_zero, List.set_cons_succ, List.length_cons, List.length_nil, if_true, if_false, Bool.false_eq_true, true_and, and_true, reduceCtorEq, ixF_0, ixF_1, ixF_2, ixF_t0, ixF_t1, ixF_t2, ixn0, ixn1, eqF_s, eqF_i, neF_s, neF_i, eqF_l, eqF_t, neF_l, Option.some.injEq, G.E.ow.injEq, exists_eq_left', exists_eq_left, exists_eq', exists_and_left, exists_and_right, exists_const, and_self, ne_eq, not_false_eq_true, decide_true, decide_false, Bool.not_true, Bool.not_false, restE, wipeE, List.getD_eq_getElem?_getD, Option.getD_some]
        have single : Va p g (q + 1) (q + 1 + 1) := by
          unfold Va; rw [slc_succ (Nat.le_refl _) hi, slc_self]; exact List.singleton_sublist.mpr hn
        refine cs_i (fun hac => ?_) fun hac => ?_
        · have none : ∀ b', b' < q + 1 → ¬ Va p g b' (q + 1 + 1) := fun b' h cc => by
            unfold Va at cc
            rw [slc_succ (by omega) hi, slc_succ (by omega) (by omega), List.append_assoc] at cc
            have := sub_lt hp c1 a1 (.trans (List.sublist_append_right _ _) cc)
            omega
          simp -dsimp only [↓x_seq, ↓x_next, ↓x_drop, ↓x_set, ↓x_setO, ↓x_name, ↓x_gnil, ↓x_gcons, ↓x_gtup, ↓x_bin, ↓x_var, ↓x_varF, ↓x_c, ↓x_1, ↓x_B, ↓x_and, ↓x_or, ↓x_not, ↓x_andV, ↓x_orV, ↓x_notV, ↓x_if, ↓x_ifS, ↓x_ret, ↓x_lst, ↓x_tup, ↓x_acons, ↓x_anil, ↓x_aug, ↓x_setIx, ↓x_call, ↓x_callT, ↓x_callK, ↓x_callD, ↓x_chain, ↓x_sl, ↓x_oS, ↓x_oN, ↓x_rep, ↓x_store, ↓x_app, ↓x_popAt, ↓x_insert, ↓x_ext, ↓x_strM, ↓x_listM, ↓x_isi, ↓x_LE, ↓x_yes, ↓x_iList, ↓x_iTup, ↓x_iStr, ↓x_iEnum, ↓x_iRange1, ↓x_iRange2, ↓x_for, ↓x_while, ↓x_lc, ↓x_rev, ↓x_pNil, ↓x_pCons, ↓x_dict, ↓x_dict0, ↓x_dget, cs_t, cs_f, ex_s, sh1, get_fz, get_ow, get_br, brD_ow, brD_fz, fzd_fz, fzd_ow, fzd_br, jO_un, jO_fz, jO_ow, jO_no, intF_i, intF0_i, addF_i, addF_s, addF_l, addF_t, mulF, mulSF_s, ne0F_l, subF, fdivF, modF, powF, ltF_i, ltF_s, leF, gtF, geF, absF_i, maxF, minF, lenF_l, lenF_t, lenF_s, toIntF_i, toIntF_b, toListF_l, toListF_t, toTupF_l, toTupF_t, negF_i, cutF_l, cutF_t, cutF_s, isF_bb, isF_nn, isF_ln, isF_sn, isF_in, isF_tn, List.map_cons, List.map_nil, List.cons_append, List.nil_append, List.replicate, List.getElem?_cons_zero, List.getElem?_cons_succ, List.set_cons_zero, List.set_cons_succ, List.length_cons, List.length_nil, if_true, if_false, Bool.false_eq_true, true_and, and_true, reduceCtorEq, ixF_0, ixF_1, ixF_2, ixF_t0, ixF_t1, ixF_t2, ixn0, ixn1, eqF_s, eqF_i, neF_s, neF_i, eqF_l, eqF_t, neF_l, Option.some.injEq, G.E.ow.injEq, exists_eq_left', exists_eq_left, exists_eq', exists_and_left, exists_and_right, exists_const, and_self, ne_eq, not_false_eq_true, decide_true, decide_false, Bool.not_true, Bool.not_false, restE, wipeE, List.getD_eq_getElem?_getD, Option.getD_some]
          refine cs_i (fun hlt => ?_) fun hlt => ?_
          · simp -dsimp only [↓x_seq, ↓x_next, ↓x_drop, ↓x_set, ↓x_setO, ↓x_name, ↓x_gnil, ↓x_gcons, ↓x_gtup, ↓x_bin, ↓x_var, ↓x_varF, ↓x_c, ↓x_1, ↓x_B, ↓x_and, ↓x_or, ↓x_not, ↓x_andV, ↓x_orV, ↓x_notV, ↓x_if, ↓x_ifS, ↓x_ret, ↓x_lst, ↓x_tup, ↓x_acons, ↓x_anil, ↓x_aug, ↓x_setIx, ↓x_call, ↓x_callT, ↓x_callK, ↓x_callD, ↓x_chain, ↓x_sl, ↓x_oS, ↓x_oN, ↓x_rep, ↓x_store, ↓x_app, ↓x_popAt, ↓x_insert, ↓x_ext, ↓x_strM, ↓x_listM, ↓x_isi, ↓x_LE, ↓x_yes, ↓x_iList, ↓x_iTup, ↓x_iStr, ↓x_iEnum, ↓x_iRange1, ↓x_iRange2, ↓x_for, ↓x_while, ↓x_lc, ↓x_rev, ↓x_pNil, ↓x_pCons, ↓x_dict, ↓x_dict0, ↓x_dget, cs_t, cs_f, ex_s, sh1, get_fz, get_ow, get_br, brD_ow, brD_fz, fzd_fz, fzd_ow, fzd_br, jO_un, jO_fz, jO_ow, jO_no, intF_i, intF0_i, addF_i, addF_s, addF_l, addF_t, mulF, mulSF_s, ne0F_l, subF, fdivF, modF, powF, ltF_i, ltF_s, leF, gtF, geF, absF_i, maxF, minF, lenF_l, lenF_t, lenF_s, toIntF_i, toIntF_b, toListF_l, toListF_t, toTupF_l, toTupF_t, negF_i, cutF_l, cutF_t, cutF_s, isF_bb, isF_nn, isF_ln, isF_sn, isF_in, isF_tn, List.map_cons, List.map_nil, List.cons_append, List.nil_append, List.replicate, List.getElem?_cons_zero, List.getElem?_cons_succ, List.set_cons_zero, List.set_cons_succ, List.length_cons, List.length_nil, if_true, if_false, Bool.false_eq_true, true_and, and_true, reduceCtorEq, ixF_0, ixF_1, ixF_2, ixF_t0, ixF_t1, ixF_t2, ixn0, ixn1, eqF_s, eqF_i, neF_s, neF_i, eqF_l, eqF_t, neF_l, Option.some.injEq, G.E.ow.injEq, exists_eq_left', exists_eq_left, exists_eq', exists_and_left, exists_and_right, exists_const, and_self, ne_eq, not_false_eq_true, decide_true, decide_false, Bool.not_true, Bool.not_false, restE, wipeE, List.getD_eq_getElem?_getD, Option.getD_some]
            exact ⟨by decide, kb_new ⟨j1, j1⟩ en hi (Nat.le_succ _) hk single none hB hlt⟩
          · simp -dsimp only [↓x_seq, ↓x_next, ↓x_drop, ↓x_set, ↓x_setO, ↓x_name, ↓x_gnil, ↓x_gcons, ↓x_gtup, ↓x_bin, ↓x_var, ↓x_varF, ↓x_c, ↓x_1, ↓x_B, ↓x_and, ↓x_or, ↓x_not, ↓x_andV, ↓x_orV, ↓x_notV, ↓x_if, ↓x_ifS, ↓x_ret, ↓x_lst, ↓x_tup, ↓x_acons, ↓x_anil, ↓x_aug, ↓x_setIx, ↓x_call, ↓x_callT, ↓x_callK, ↓x_callD, ↓x_chain, ↓x_sl, ↓x_oS, ↓x_oN, ↓x_rep, ↓x_store, ↓x_app, ↓x_popAt, ↓x_insert, ↓x_ext, ↓x_strM, ↓x_listM, ↓x_isi, ↓x_LE, ↓x_yes, ↓x_iList, ↓x_iTup, ↓x_iStr, ↓x_iEnum, ↓x_iRange1, ↓x_iRange2, ↓x_for, ↓x_while, ↓x_lc, ↓x_rev, ↓x_pNil, ↓x_pCons, ↓x_dict, ↓x_dict0, ↓x_dget, cs_t, cs_f, ex_s, sh1, get_fz, get_ow, get_br, brD_ow, brD_fz, fzd_fz, fzd_ow, fzd_br, jO_un, jO_fz, jO_ow, jO_no, intF_i, intF0_i, addF_i, addF_s, addF_l, addF_t, mulF, mulSF_s, ne0F_l, subF, fdivF, modF, powF, ltF_i, ltF_s, leF, gtF, geF, absF_i, maxF, minF, lenF_l, lenF_t, lenF_s, toIntF_i, toIntF_b, toListF_l, toListF_t, toTupF_l, toTupF_t, negF_i, cutF_l, cutF_t, cutF_s, isF_bb, isF_nn, isF_ln, isF_sn, isF_in, isF_tn, List.map_cons, List.map_nil, List.cons_append, List.nil_append, List.replicate, List.getElem?_cons_zero, List.getElem?_cons_succ, List.set_cons_zero, List.set_cons_succ, List.length_cons, List.length_nil, if_true, if_false, Bool.false_eq_true, true_and, and_true, reduceCtorEq, ixF_0, ixF_1, ixF_2, ixF_t0, ixF_t1, ixF_t2, ixn0, ixn1, eqF_s, eqF_i, neF_s, neF_i, eqF_l, eqF_t, neF_l, Option.some.injEq, G.E.ow.injEq, exists_eq_left', exists_eq_left, exists_eq', exists_and_left, exists_and_right, exists_const, and_self, ne_eq, not_false_eq_true, decide_true, decide_false, Bool.not_true, Bool.not_false, restE, wipeE, List.getD_eq_getElem?_getD, Option.getD_some]
            exact kb_keep ⟨j1, j1⟩ en hi (Nat.le_succ _) hk single none hB hlt
        · have hne : a ≠ c := fun e => by
            subst e
            have e := Option.some.inj (a1.symm.trans c1)
            have := nodup_at hg gi (gq.trans (by rw [e]))
            omega
          have long : Va p g s (q + 1 + 1) := by
            unfold Va
            rw [slc_succ (by omega) hi, hv]
            refine sub_snoc hp c1 a1 (by omega) ?_
            rw [← hv]; exact v
          have none : ∀ b', b' < s → ¬ Va p g b' (q + 1 + 1) := fun b' h cc => hb b' h (va_pre (by omega) hi cc)
          simp -dsimp only [↓x_seq, ↓x_next, ↓x_drop, ↓x_set, ↓x_setO, ↓x_name, ↓x_gnil, ↓x_gcons, ↓x_gtup, ↓x_bin, ↓x_var, ↓x_varF, ↓x_c, ↓x_1, ↓x_B, ↓x_and, ↓x_or, ↓x_not, ↓x_andV, ↓x_orV, ↓x_notV, ↓x_if, ↓x_ifS, ↓x_ret, ↓x_lst, ↓x_tup, ↓x_acons, ↓x_anil, ↓x_aug, ↓x_setIx, ↓x_call, ↓x_callT, ↓x_callK, ↓x_callD, ↓x_chain, ↓x_sl, ↓x_oS, ↓x_oN, ↓x_rep, ↓x_store, ↓x_app, ↓x_popAt, ↓x_insert, ↓x_ext, ↓x_strM, ↓x_listM, ↓x_isi, ↓x_LE, ↓x_yes, ↓x_iList, ↓x_iTup, ↓x_iStr, ↓x_iEnum, ↓x_iRange1, ↓x_iRange2, ↓x_for, ↓x_while, ↓x_lc, ↓x_rev, ↓x_pNil, ↓x_pCons, ↓x_dict, ↓x_dict0, ↓x_dget, cs_t, cs_f, ex_s, sh1, get_fz, get_ow, get_br, brD_ow, brD_fz, fzd_fz, fzd_ow, fzd_br, jO_un, jO_fz, jO_ow, jO_no, intF_i, intF0_i, addF_i, addF_s, addF_l, addF_t, mulF, mulSF_s, ne0F_l, subF, fdivF, modF, powF, ltF_i, ltF_s, leF, gtF, geF, absF_i, maxF, minF, lenF_l, lenF_t, lenF_s, toIntF_i, toIntF_b, toListF_l, toListF_t, toTupF_l, toTupF_t, negF_i, cutF_l, cutF_t, cutF_s, isF_bb, isF_nn, isF_ln, isF_sn, isF_in, isF_tn, List.map_cons, List.map_nil, List.cons_append, List.nil_append, List.replicate, List.getElem?_cons_zero, List.getElem?_cons_succ, List.set_cons_zero, List.set_cons_succ, List.length_cons, List.length_nil, if_true, if_false, Bool.false_eq_true, true_and, and_true, reduceCtorEq, ixF_0, ixF_1, ixF_2, ixF_t0, ixF_t1, ixF_t2, ixn0, ixn1, eqF_s, eqF_i, neF_s, neF_i, eqF_l, eqF_t, neF_l, Option.some.injEq, G.E.ow.injEq, exists_eq_left', exists_eq_left, exists_eq', exists_and_left, exists_and_right, exists_const, and_self, ne_eq, not_false_eq_true, decide_true, decide_false, Bool.not_true, Bool.not_false, restE, wipeE, List.getD_eq_getElem?_getD, Option.getD_some]
          refine cs_i (fun hlt => ?_) fun hlt => ?_
          · simp -dsimp only [↓x_seq, ↓x_next, ↓x_drop, ↓x_set, ↓x_setO, ↓x_name, ↓x_gnil, ↓x_gcons, ↓x_gtup, ↓x_bin, ↓x_var, ↓x_varF, ↓x_c, ↓x_1, ↓x_B, ↓x_and, ↓x_or, ↓x_not, ↓x_andV, ↓x_orV, ↓x_notV, ↓x_if, ↓x_ifS, ↓x_ret, ↓x_lst, ↓x_tup, ↓x_acons, ↓x_anil, ↓x_aug, ↓x_setIx, ↓x_call, ↓x_callT, ↓x_callK, ↓x_callD, ↓x_chain, ↓x_sl, ↓x_oS, ↓x_oN, ↓x_rep, ↓x_store, ↓x_app, ↓x_popAt, ↓x_insert, ↓x_ext, ↓x_strM, ↓x_listM, ↓x_isi, ↓x_LE, ↓x_yes, ↓x_iList, ↓x_iTup, ↓x_iStr, ↓x_iEnum, ↓x_iRange1, ↓x_iRange2, ↓x_for, ↓x_while, ↓x_lc, ↓x_rev, ↓x_pNil, ↓x_pCons, ↓x_dict, ↓x_dict0, ↓x_dget, cs_t, cs_f, ex_s, sh1, get_fz, get_ow, get_br, brD_ow, brD_fz, fzd_fz, fzd_ow, fzd_br, jO_un, jO_fz, jO_ow, jO_no, intF_i, intF0_i, addF_i, addF_s, addF_l, addF_t, mulF, mulSF_s, ne0F_l, subF, fdivF, modF, powF, ltF_i, ltF_s, leF, gtF, geF, absF_i, maxF, minF, lenF_l, lenF_t, lenF_s, toIntF_i, toIntF_b, toListF_l, toListF_t, toTupF_l, toTupF_t, negF_i, cutF_l, cutF_t, cutF_s, isF_bb, isF_nn, isF_ln, isF_sn, isF_in, isF_tn, List.map_cons, List.map_nil, List.cons_append, List.nil_append, List.replicate, List.getElem?_cons_zero, List.getElem?_cons_succ, List.set_cons_zero, List.set_cons_succ, List.length_cons, List.length_nil, if_true, if_false, Bool.false_eq_true, true_and, and_true, reduceCtorEq, ixF_0, ixF_1, ixF_2, ixF_t0, ixF_t1, ixF_t2, ixn0, ixn1, eqF_s, eqF_i, neF_s, neF_i, eqF_l, eqF_t, neF_l, Option.some.injEq, G.E.ow.injEq, exists_eq_left', exists_eq_left, exists_eq', exists_and_left, exists_and_right, exists_const, and_self, ne_eq, not_false_eq_true, decide_true, decide_false, Bool.not_true, Bool.not_false, restE, wipeE, List.getD_eq_getElem?_getD, Option.getD_some]
            exact ⟨by decide, kb_new ⟨j1, j1⟩ en hi (by omega) hk long none hB hlt⟩
          · simp -dsimp only [↓x_seq, ↓x_next, ↓x_drop, ↓x_set, ↓x_setO, ↓x_name, ↓x_gnil, ↓x_gcons, ↓x_gtup, ↓x_bin, ↓x_var, ↓x_varF, ↓x_c, ↓x_1, ↓x_B, ↓x_and, ↓x_or, ↓x_not, ↓x_andV, ↓x_orV, ↓x_notV, ↓x_if, ↓x_ifS, ↓x_ret, ↓x_lst, ↓x_tup, ↓x_acons, ↓x_anil, ↓x_aug, ↓x_setIx, ↓x_call, ↓x_callT, ↓x_callK, ↓x_callD, ↓x_chain, ↓x_sl, ↓x_oS, ↓x_oN, ↓x_rep, ↓x_store, ↓x_app, ↓x_popAt, ↓x_insert, ↓x_ext, ↓x_strM, ↓x_listM, ↓x_isi, ↓x_LE, ↓x_yes, ↓x_iList, ↓x_iTup, ↓x_iStr, ↓x_iEnum, ↓x_iRange1, ↓x_iRange2, ↓x_for, ↓x_while, ↓x_lc, ↓x_rev, ↓x_pNil, ↓x_pCons, ↓x_dict, ↓x_dict0, ↓x_dget, cs_t, cs_f, ex_s, sh1, get_fz, get_ow, get_br, brD_ow, brD_fz, fzd_fz, fzd_ow, fzd_br, jO_un, jO_fz, jO_ow, jO_no, intF_i, intF0_i, addF_i, addF_s, addF_l, addF_t, mulF, mulSF_s, ne0F_l, subF, fdivF, modF, powF, ltF_i, ltF_s, leF, gtF, geF, absF_i, maxF, minF, lenF_l, lenF_t, lenF_s, toIntF_i, toIntF_b, toListF_l, toListF_t, toTupF_l, toTupF_t, negF_i, cutF_l, cutF_t, cutF_s, isF_bb, isF_nn, isF_ln, isF_sn, isF_in, isF_tn, List.map_cons, List.map_nil, List.cons_append, List.nil_append, List.replicate, List.getElem?_cons_zero, List.getElem?_cons_succ, List.set_cons_zero, List.set_cons_succ, List.length_cons, List.length_nil, if_true, if_false, Bool.false_eq_true, true_and, and_true, reduceCtorEq, ixF_0, ixF_1, ixF_2, ixF_t0, ixF_t1, ixF_t2, ixn0, ixn1, eqF_s, eqF_i, neF_s, neF_i, eqF_l, eqF_t, neF_l, Option.some.injEq, G.E.ow.injEq, exists_eq_left', exists_eq_left, exists_eq', exists_and_left, exists_and_right, exists_const, and_self, ne_eq, not_false_eq_true, decide_true, decide_false, Bool.not_true, Bool.not_false, restE, wipeE, List.getD_eq_getElem?_getD, Option.getD_some]
            exact kb_keep ⟨j1, j1⟩ en hi (by omega) hk long none hB hlt
      · have : s = i := by omega
        subst this
        have single : Va p g s (s + 1) := by
          unfold Va; rw [slc_succ (Nat.le_refl _) hi, slc_self]; exact List.singleton_sublist.mpr hn
        have none : ∀ b', b' < s → ¬ Va p g b' (s + 1) := fun b' h cc => hb b' h (va_pre (by omega) hi cc)
        simp -dsimp only [↓x_seq, ↓x_next, ↓x_drop, ↓x_set, ↓x_setO, ↓x_name, ↓x_gnil, ↓x_gcons, ↓x_gtup, ↓x_bin, ↓x_var, ↓x_varF, ↓x_c, ↓x_1, ↓x_B, ↓x_and, ↓x_or, ↓x_not, ↓x_andV, ↓x_orV, ↓x_notV, ↓x_if, ↓x_ifS, ↓x_ret, ↓x_lst, ↓x_tup, ↓x_acons, ↓x_anil, ↓x_aug, ↓x_setIx, ↓x_call, ↓x_callT, ↓x_callK, ↓x_callD, ↓x_chain, ↓x_sl, ↓x_oS, ↓x_oN, ↓x_rep, ↓x_store, ↓x_app, ↓x_popAt, ↓x_insert, ↓x_ext, ↓x_strM, ↓x_listM, ↓x_isi, ↓x_LE, ↓x_yes, ↓x_iList, ↓x_iTup, ↓x_iStr, ↓x_iEnum, ↓x_iRange1, ↓x_iRange2, ↓x_for, ↓x_while, ↓x_lc, ↓x_rev, ↓x_pNil, ↓x_pCons, ↓x_dict, ↓x_dict0, ↓x_dget, cs_t, cs_f, ex_s, sh1, get_fz, get_ow, get_br, brD_ow, brD_fz, fzd_fz, fzd_ow, fzd_br, jO_un, jO_fz, jO_ow, jO_no, intF_i, intF0_i, addF_i, addF_s, addF_l, addF_t, mulF, mulSF_s, ne0F_l, subF, fdivF, modF, powF, ltF_i, ltF_s, leF, gtF, geF, absF_i, maxF, minF, lenF_l, lenF_t, lenF_s, toIntF_i, toIntF_b, toListF_l, toListF_t, toTupF_l, toTupF_t, negF_i, cutF_l, cutF_t, cutF_s, isF_bb, isF_nn, isF_ln, isF_sn, isF_in, isF_tn, List.map_cons, List.map_nil, List.cons_append, List.nil_append, List.replicate, List.getElem?_cons_zero, List.getElem?_cons_succ, List.set_cons_zero, List.set_cons_succ, List.length_cons, List.length_nil, if_true, if_false, Bool.false_eq_true, true_and, and_true, reduceCtorEq, ixF_0, ixF_1, ixF_2, ixF_t0, ixF_t1, ixF_t2, ixn0, ixn1, eqF_s, eqF_i, neF_s, neF_i, eqF_l, eqF_t, neF_l, Option.some.injEq, G.E.ow.injEq, exists_eq_left', exists_eq_left, exists_eq', exists_and_left, exists_and_right, exists_const, and_self, ne_eq, not_false_eq_true, decide_true, decide_false, Bool.not_true, Bool.not_false, restE, wipeE, List.getD_eq_getElem?_getD, Option.getD_some]
        refine cs_i (fun hlt => ?_) fun hlt => ?_
        · simp -dsimp only [↓x_seq, ↓x_next, ↓x_drop, ↓x_set, ↓x_setO, ↓x_name, ↓x_gnil, ↓x_gcons, ↓x_gtup, ↓x_bin, ↓x_var, ↓x_varF, ↓x_c, ↓x_1, ↓x_B, ↓x_and, ↓x_or, ↓x_not, ↓x_andV, ↓x_orV, ↓x_notV, ↓x_if, ↓x_ifS, ↓x_ret, ↓x_lst, ↓x_tup, ↓x_acons, ↓x_anil, ↓x_aug, ↓x_setIx, ↓x_call, ↓x_callT, ↓x_callK, ↓x_callD, ↓x_chain, ↓x_sl, ↓x_oS, ↓x_oN, ↓x_rep, ↓x_store, ↓x_app, ↓x_popAt, ↓x_insert, ↓x_ext, ↓x_strM, ↓x_listM, ↓x_isi, ↓x_LE, ↓x_yes, ↓x_iList, ↓x_iTup, ↓x_iStr, ↓x_iEnum, ↓x_iRange1, ↓x_iRange2, ↓x_for, ↓x_while, ↓x_lc, ↓x_rev, ↓x_pNil, ↓x_pCons, ↓x_dict, ↓x_dict0, ↓x_dget, cs_t, cs_f, ex_s, sh1, get_fz, get_ow, get_br, brD_ow, brD_fz, fzd_fz, fzd_ow, fzd_br, jO_un, jO_fz, jO_ow, jO_no, intF_i, intF0_i, addF_i, addF_s, addF_l, addF_t, mulF, mulSF_s, ne0F_l, subF, fdivF, modF, powF, ltF_i, ltF_s, leF, gtF, geF, absF_i, maxF, minF, lenF_l, lenF_t, lenF_s, toIntF_i, toIntF_b, toListF_l, toListF_t, toTupF_l, toTupF_t, negF_i, cutF_l, cutF_t, cutF_s, isF_bb, isF_nn, isF_ln, isF_sn, isF_in, isF_tn, List.map_cons, List.map_nil, List.cons_append, List.nil_append, List.replicate, List.getElem?_cons_zero, List.getElem?_cons_succ, List.set_cons_zero, List.set_cons_succ, List.length_cons, List.length_nil, if_true, if_false, Bool.false_eq_true, true_and, and_true, reduceCtorEq, ixF_0, ixF_1, ixF_2, ixF_t0, ixF_t1, ixF_t2, ixn0, ixn1, eqF_s, eqF_i, neF_s, neF_i, eqF_l, eqF_t, neF_l, Option.some.injEq, G.E.ow.injEq, exists_eq_left', exists_eq_left, exists_eq', exists_and_left, exists_and_right, exists_const, and_self, ne_eq, not_false_eq_true, decide_true, decide_false, Bool.not_true, Bool.not_false, restE, wipeE, List.getD_eq_getElem?_getD, Option.getD_some]
          exact ⟨by decide, kb_new ⟨j1, j1⟩ en hi (by omega) hk single none hB hlt⟩
        · simp -dsimp only [↓x_seq, ↓x_next, ↓x_drop, ↓x_set, ↓x_setO, ↓x_name, ↓x_gnil, ↓x_gcons, ↓x_gtup, ↓x_bin, ↓x_var, ↓x_varF, ↓x_c, ↓x_1, ↓x_B, ↓x_and, ↓x_or, ↓x_not, ↓x_andV, ↓x_orV, ↓x_notV, ↓x_if, ↓x_ifS, ↓x_ret, ↓x_lst, ↓x_tup, ↓x_acons, ↓x_anil, ↓x_aug, ↓x_setIx, ↓x_call, ↓x_callT, ↓x_callK, ↓x_callD, ↓x_chain, ↓x_sl, ↓x_oS, ↓x_oN, ↓x_rep, ↓x_store, ↓x_app, ↓x_popAt, ↓x_insert, ↓x_ext, ↓x_strM, ↓x_listM, ↓x_isi, ↓x_LE, ↓x_yes, ↓x_iList, ↓x_iTup, ↓x_iStr, ↓x_iEnum, ↓x_iRange1, ↓x_iRange2, ↓x_for, ↓x_while, ↓x_lc, ↓x_rev, ↓x_pNil, ↓x_pCons, ↓x_dict, ↓x_dict0, ↓x_dget, cs_t, cs_f, ex_s, sh1, get_fz, get_ow, get_br, brD_ow, brD_fz, fzd_fz, fzd_ow, fzd_br, jO_un, jO_fz, jO_ow, jO_no, intF_i, intF0_i, addF_i, addF_s, addF_l, addF_t, mulF, mulSF_s, ne0F_l, subF, fdivF, modF, powF, ltF_i, ltF_s, leF, gtF, geF, absF_i, maxF, minF, lenF_l, lenF_t, lenF_s, toIntF_i, toIntF_b, toListF_l, toListF_t, toTupF_l, toTupF_t, negF_i, cutF_l, cutF_t, cutF_s, isF_bb, isF_nn, isF_ln, isF_sn, isF_in, isF_tn, List.map_cons, List.map_nil, List.cons_append, List.nil_append, List.replicate, List.getElem?_cons_zero, List.getElem?_cons_succ, List.set_cons_zero, List.set_cons_succ, List.length_cons, List.length_nil, if_true, if_false, Bool.false_eq_true, true_and, and_true, reduceCtorEq, ixF_0, ixF_1, ixF_2, ixF_t0, ixF_t1, ixF_t2, ixn0, ixn1, eqF_s, eqF_i, neF_s, neF_i, eqF_l, eqF_t, neF_l, Option.some.injEq, G.E.ow.injEq, exists_eq_left', exists_eq_left, exists_eq', exists_and_left, exists_and_right, exists_const, and_self, ne_eq, not_false_eq_true, decide_true, decide_false, Bool.not_true, Bool.not_false, restE, wipeE, List.getD_eq_getElem?_getD, Option.getD_some]
          exact kb_keep ⟨j1, j1⟩ en hi (by omega) hk single none hB hlt
  · rintro e ⟨b, k, s, i, u4, u5, rfl, -, el, hi, hs, hk, v, hb, hB⟩
    simp -dsimp only [↓x_seq, ↓x_next, ↓x_drop, ↓x_set, ↓x_setO, ↓x_name, ↓x_gnil, ↓x_gcons, ↓x_gtup, ↓x_bin, ↓x_var, ↓x_varF, ↓x_c, ↓x_1, ↓x_B, ↓x_and, ↓x_or, ↓x_not, ↓x_andV, ↓x_orV, ↓x_notV, ↓x_if, ↓x_ifS, ↓x_ret, ↓x_lst, ↓x_tup, ↓x_acons, ↓x_anil, ↓x_aug, ↓x_setIx, ↓x_call, ↓x_callT, ↓x_callK, ↓x_callD, ↓x_chain, ↓x_sl, ↓x_oS, ↓x_oN, ↓x_rep, ↓x_store, ↓x_app, ↓x_popAt, ↓x_insert, ↓x_ext, ↓x_strM, ↓x_listM, ↓x_isi, ↓x_LE, ↓x_yes, ↓x_iList, ↓x_iTup, ↓x_iStr, ↓x_iEnum, ↓x_iRange1, ↓x_iRange2, ↓x_for, ↓x_while, ↓x_lc, ↓x_rev, ↓x_pNil, ↓x_pCons, ↓x_dict, ↓x_dict0, ↓x_dget, cs_t, cs_f, ex_s, sh1, get_fz, get_ow, get_br, brD_ow, brD_fz, fzd_fz, fzd_ow, fzd_br, jO_un, jO_fz, jO_ow, jO_no, intF_i, intF0_i, addF_i, addF_s, addF_l, addF_t, mulF, mulSF_s, ne0F_l, subF, fdivF, modF, powF, ltF_i, ltF_s, leF, gtF, geF, absF_i, maxF, minF, lenF_l, lenF_t, lenF_s, toIntF_i, toIntF_b, toListF_l, toListF_t, toTupF_l, toTupF_t, negF_i, cutF_l, cutF_t, cutF_s, isF_bb, isF_nn, isF_ln, isF_sn, isF_in, isF_tn, List.map_cons, List.map_nil, List.cons_append, List.nil_append, List.replicate, List.getElem?_cons_zero, List.getElem?_cons_succ, List.set_cons_zero, List.set_cons_succ, List.length_cons, List.length_nil, if_true, if_false, Bool.false_eq_true, true_and, and_true, reduceCtorEq, ixF_0, ixF_1, ixF_2, ixF_t0, ixF_t1, ixF_t2, ixn0, ixn1, eqF_s, eqF_i, neF_s, neF_i, eqF_l, eqF_t, neF_l, Option.some.injEq, G.E.ow.injEq, exists_eq_left', exists_eq_left, exists_eq', exists_and_left, exists_and_right, exists_const, and_self, ne_eq, not_false_eq_true, decide_true, decide_false, Bool.not_true, Bool.not_false, restE, wipeE, List.getD_eq_getElem?_getD, Option.getD_some]
    refine hP b k ?_
    have : g.length ≤ i := by
      have := congrArg List.length el
      rw [List.length_drop, pairs_length, List.length_map, List.length_nil] at this
      omega
    obtain ⟨h1, h2, h3, h4, h5⟩ := hB
    exact ⟨h1, h2, h3, h4, fun b' e' _ q1 q2 q3 => h5 b' e' (by omega) q1 q2 q3⟩
/-! ### _law_tape -/
/-- a tape: two ints, the second a small one -/
def Tp (d : D) : Prop := ∃ a b : Int, d = .list [.int a, .int b] ∧ 0 ≤ b ∧ b < 998244353
def S_law_tape (ds : List D) (P : R → Prop) : Prop := ∃ c k : Int, ds = [.int c, .int k] ∧ ∀ t, Tp t → P (.ow t)
theorem fmod_in {x m : Int} (h : 0 < m) : 0 ≤ x.fmod m ∧ x.fmod m < m := ⟨Int.fmod_nonneg_of_pos x h, Int.fmod_lt_of_pos x h⟩
theorem cm_r {i j : Int} (h : -1000000000000 < j ∧ j < 1000000000000) : CMul i j := .inr ⟨by omega, by omega⟩
theorem cm_l {i j : Int} (h : -1000000000000 < i ∧ i < 1000000000000) : CMul i j := .inl ⟨by omega, by omega⟩
theorem tape_n {c k : Int} {P : R → Prop} (h : ∀ t, Tp t → P (.ow t)) : S_law_tape [.int c, .int k] P := ⟨c, k, rfl, h⟩
set_option maxHeartbeats 4000000 in
theorem ok_law_tape (T : Tx K mg) : FnG P w K mg base 1 T.f_law_tape T.fd_law_tape 2 ["_law_cell", "_law_salt"] (spF K 2 S_law_tape) := by
  refine fn_F (m := 1) T.F_law_tape sc_law_tape rfl rfl fun {cdv A outer s H E} g room ds PP hl hS => ?_
  refine ⟨_, _, (gb_cons (gs_set (ge_op op_modN sr_int (ge_op op_addG sr_add (ge_op op_addG sr_add (ge_op op_mul sr_int (ge_op op_modN sr_int (ge_b1 call_abs sc_abs rfl T.z_abs (by decide +kernel) (ge_var 0)) ge_int) ge_int) (ge_op op_mul sr_int (ge_var 1) ge_int)) ge_int) ge_int) (gg_name 2 sc_law_tape.nd))
      (gb_one (gs_ret (ge_lst (ga_cons (ge_b2 (call_max2 rfl) sc_max rfl T.z_max (by decide +kernel) ge_int (ge_op op_sub sr_int0 (ge_var 0) (ge_op op_pow sr_int ge_int ge_int))) (ga_cons (ge_var 2) ga_nil)))))), ?_⟩
  obtain ⟨c, k, rfl, hP⟩ := hS
  simp -dsimp only [↓x_seq, ↓x_next, ↓x_drop, ↓x_set, ↓x_setO, ↓x_name, ↓x_gnil, ↓x_gcons, ↓x_gtup, ↓x_bin, ↓x_var, ↓x_varF, ↓x_c, ↓x_1, ↓x_B, ↓x_and, ↓x_or, ↓x_not, ↓x_andV, ↓x_orV, ↓x_notV, ↓x_if, ↓x_ifS, ↓x_ret, ↓x_lst, ↓x_tup, ↓x_acons, ↓x_anil, ↓x_aug, ↓x_setIx, ↓x_call, ↓x_callT, ↓x_callK, ↓x_callD, ↓x_chain, ↓x_sl, ↓x_oS, ↓x_oN, ↓x_rep, ↓x_store, ↓x_app, ↓x_popAt, ↓x_insert, ↓x_ext, ↓x_strM, ↓x_listM, ↓x_isi, ↓x_LE, ↓x_yes, ↓x_iList, ↓x_iTup, ↓x_iStr, ↓x_iEnum, ↓x_iRange1, ↓x_iRange2, ↓x_for, ↓x_while, ↓x_lc, ↓x_rev, ↓x_pNil, ↓x_pCons, ↓x_dict, ↓x_dict0, ↓x_dget, cs_t, cs_f, ex_s, sh1, get_fz, get_ow, get_br, brD_ow, brD_fz, fzd_fz, fzd_ow, fzd_br, jO_un, jO_fz, jO_ow, jO_no, intF_i, intF0_i, addF_i, addF_s, addF_l, addF_t, mulF, mulSF_s, ne0F_l, subF, fdivF, modF, powF, ltF_i, ltF_s, leF, gtF, geF, absF_i, maxF, minF, lenF_l, lenF_t, lenF_s, toIntF_i, toIntF_b, toListF_l, toListF_t, toTupF_l, toTupF_t, negF_i, cutF_l, cutF_t, cutF_s, isF_bb, isF_nn, isF_ln, isF_sn, isF_in, isF_tn, List.map_cons, List.map_nil, List.cons_append, List.nil_append, List.replicate, List.getElem?_cons_zero, List.getElem?_cons_succ, List.set_cons_zero, List.set_cons_succ, List.length_cons, List.length_nil, if_true, if_false, Bool.false_eq_true, true_and, and_true, reduceCtorEq, ixF_0, ixF_1, ixF_2, ixF_t0, ixF_t1, ixF_t2, ixn0, ixn1, eqF_s, eqF_i, neF_s, neF_i, eqF_l, eqF_t, neF_l, Option.some.injEq, G.E.ow.injEq, exists_eq_left', exists_eq_left, exists_eq', exists_and_left, exists_and_right, exists_const, and_self, ne_eq, not_false_eq_true, decide_true, decide_false, Bool.not_true, Bool.not_false, restE, wipeE, List.getD_eq_getElem?_getD, Option.getD_some]
  refine ⟨by decide, cm_r (by decide), cm_r (by decide), by decide, by unfold CPow; decide, by decide, hP _ ⟨_, _, rfl, ?_⟩⟩
  exact fmod_in (by decide)
/-! ### _law_draw -/
def S_law_draw (d : D) (ds : List D) (P : R → D → Prop) : Prop := Tp d ∧ ∃ n : Int, ds = [.int n] ∧ 0 < n ∧ n < 1073741824 ∧ ∀ (i : Nat) t, (i : Int) < n → Tp t → P (.fz (.int i)) t
theorem draw_to {P : R → D → Prop} {n x : Int} {t : D} (hP : ∀ (i : Nat) t, (i : Int) < n → Tp t → P (.fz (.int i)) t) (h0 : 0 ≤ x) (h1 : x < n) (ht : Tp t) : P (.fz (.int x)) t := by
  have e : ((x.toNat : Nat) : Int) = x := by omega
  have := hP x.toNat t (by omega) ht
  rw [e] at this
  exact this
theorem draw_n {d : D} {n : Int} {P : R → D → Prop} (ht : Tp d) (hn : 0 < n ∧ n < 1073741824) (h : ∀ (i : Nat) t, (i : Int) < n → Tp t → P (.fz (.int i)) t) : S_law_draw d [.int n] P := ⟨ht, n, rfl, hn.1, hn.2, h⟩
set_option maxHeartbeats 4000000 in
theorem ok_law_draw (T : Tx K mg) : FnG P w K mg base 1 T.f_law_draw T.fd_law_draw 2 ["_law_tape_here", "_law_count"] (spT K 2 S_law_draw) := by
  refine fn_T (m := 1) T.F_law_draw sc_law_draw rfl rfl fun {cdv A outer s H E} g room d ds PP hl hS => ?_
  refine ⟨_, _, (gb_cons (gs_if (gt_cmp op_gt sr_intB (nomark _) (ge_ix ix_seq sr_ix (ge_var 0) ge_int (fun _ _ => rfl)) ge_int)
      (gb_cons (gs_set (ge_op op_modN sr_int (ge_ix ix_seq sr_ix (ge_var 0) ge_int (fun _ _ => rfl)) (ge_var 1)) (gg_name 2 sc_law_draw.nd))
      (gb_cons (gs_setIx 0 (ge_op op_fdivN sr_int (ge_ix ix_seq sr_ix (ge_var 0) ge_int (fun _ _ => rfl)) (ge_var 1)) ge_int (hp := fun hk => pg_sub (pv 0) (ge_int).ex.1 hk))
      (gb_one (gs_ret (ge_var 2)))))
      gb_nil)
      (gb_cons (gs_setIx 0 (ge_op op_modN sr_int (ge_op op_addG sr_add (ge_op op_addG sr_add (ge_op op_mul sr_int (ge_ix ix_seq sr_ix (ge_var 0) ge_int (fun _ _ => rfl)) (ge_ix ix_seq sr_ix (ge_var 0) ge_int (fun _ _ => rfl))) (ge_op op_mul sr_int ge_int (ge_ix ix_seq sr_ix (ge_var 0) ge_int (fun _ _ => rfl)))) ge_int) ge_int) ge_int (hp := fun hk => pg_sub (pv 0) (ge_int).ex.1 hk))
      (gb_one (gs_ret (ge_op op_modN sr_int (ge_op op_fdivN sr_int (ge_op op_modN sr_int (ge_op op_mul sr_int (ge_ix ix_seq sr_ix (ge_var 0) ge_int (fun _ _ => rfl)) ge_int) ge_int) ge_int) (ge_var 1)))))), ?_⟩
  obtain ⟨⟨a, b, rfl, hb0, hb1⟩, n, rfl, hn0, hn1, hP⟩ := hS
  simp -dsimp only [↓x_seq, ↓x_next, ↓x_drop, ↓x_set, ↓x_setO, ↓x_name, ↓x_gnil, ↓x_gcons, ↓x_gtup, ↓x_bin, ↓x_var, ↓x_varF, ↓x_c, ↓x_1, ↓x_B, ↓x_and, ↓x_or, ↓x_not, ↓x_andV, ↓x_orV, ↓x_notV, ↓x_if, ↓x_ifS, ↓x_ret, ↓x_lst, ↓x_tup, ↓x_acons, ↓x_anil, ↓x_aug, ↓x_setIx, ↓x_call, ↓x_callT, ↓x_callK, ↓x_callD, ↓x_chain, ↓x_sl, ↓x_oS, ↓x_oN, ↓x_rep, ↓x_store, ↓x_app, ↓x_popAt, ↓x_insert, ↓x_ext, ↓x_strM, ↓x_listM, ↓x_isi, ↓x_LE, ↓x_yes, ↓x_iList, ↓x_iTup, ↓x_iStr, ↓x_iEnum, ↓x_iRange1, ↓x_iRange2, ↓x_for, ↓x_while, ↓x_lc, ↓x_rev, ↓x_pNil, ↓x_pCons, ↓x_dict, ↓x_dict0, ↓x_dget, cs_t, cs_f, ex_s, sh1, get_fz, get_ow, get_br, brD_ow, brD_fz, fzd_fz, fzd_ow, fzd_br, jO_un, jO_fz, jO_ow, jO_no, intF_i, intF0_i, addF_i, addF_s, addF_l, addF_t, mulF, mulSF_s, ne0F_l, subF, fdivF, modF, powF, ltF_i, ltF_s, leF, gtF, geF, absF_i, maxF, minF, lenF_l, lenF_t, lenF_s, toIntF_i, toIntF_b, toListF_l, toListF_t, toTupF_l, toTupF_t, negF_i, cutF_l, cutF_t, cutF_s, isF_bb, isF_nn, isF_ln, isF_sn, isF_in, isF_tn, List.map_cons, List.map_nil, List.cons_append, List.nil_append, List.replicate, List.getElem?_cons_zero, List.getElem?_cons_succ, List.set_cons_zero, List.set_cons_succ, List.length_cons, List.length_nil, if_true, if_false, Bool.false_eq_true, true_and, and_true, reduceCtorEq, ixF_0, ixF_1, ixF_2, ixF_t0, ixF_t1, ixF_t2, ixn0, ixn1, eqF_s, eqF_i, neF_s, neF_i, eqF_l, eqF_t, neF_l, Option.some.injEq, G.E.ow.injEq, exists_eq_left', exists_eq_left, exists_eq', exists_and_left, exists_and_right, exists_const, and_self, ne_eq, not_false_eq_true, decide_true, decide_false, Bool.not_true, Bool.not_false, restE, wipeE, List.getD_eq_getElem?_getD, Option.getD_some]
  have m1 := fmod_in (x := b * b + 7 * b + 40503) (m := 998244353) (by decide)
  refine cs_i (fun _ => ?_) fun _ => ?_
  · simp -dsimp only [↓x_seq, ↓x_next, ↓x_drop, ↓x_set, ↓x_setO, ↓x_name, ↓x_gnil, ↓x_gcons, ↓x_gtup, ↓x_bin, ↓x_var, ↓x_varF, ↓x_c, ↓x_1, ↓x_B, ↓x_and, ↓x_or, ↓x_not, ↓x_andV, ↓x_orV, ↓x_notV, ↓x_if, ↓x_ifS, ↓x_ret, ↓x_lst, ↓x_tup, ↓x_acons, ↓x_anil, ↓x_aug, ↓x_setIx, ↓x_call, ↓x_callT, ↓x_callK, ↓x_callD, ↓x_chain, ↓x_sl, ↓x_oS, ↓x_oN, ↓x_rep, ↓x_store, ↓x_app, ↓x_popAt, ↓x_insert, ↓x_ext, ↓x_strM, ↓x_listM, ↓x_isi, ↓x_LE, ↓x_yes, ↓x_iList, ↓x_iTup, ↓x_iStr, ↓x_iEnum, ↓x_iRange1, ↓x_iRange2, ↓x_for, ↓x_while, ↓x_lc, ↓x_rev, ↓x_pNil, ↓x_pCons, ↓x_dict, ↓x_dict0, ↓x_dget, cs_t, cs_f, ex_s, sh1, get_fz, get_ow, get_br, brD_ow, brD_fz, fzd_fz, fzd_ow, fzd_br, jO_un, jO_fz, jO_ow, jO_no, intF_i, intF0_i, addF_i, addF_s, addF_l, addF_t, mulF, mulSF_s, ne0F_l, subF, fdivF, modF, powF, ltF_i, ltF_s, leF, gtF, geF, absF_i, maxF, minF, lenF_l, lenF_t, lenF_s, toIntF_i, toIntF_b, toListF_l, toListF_t, toTupF_l, toTupF_t, negF_i, cutF_l, cutF_t, cutF_s, isF_bb, isF_nn, isF_ln, isF_sn, isF_in, isF_tn, List.map_cons, List.map_nil, List.cons_append, List.nil_append, List.replicate, List.getElem?_cons_zero, List.getElem?_cons_succ, List.set_cons_zero, List.set_cons_succ, List.length_cons, List.length_nil, if_true, if_false, Bool.false_eq_true, true_and, and_true, reduceCtorEq, ixF_0, ixF_1, ixF_2, ixF_t0, ixF_t1, ixF_t2, ixn0, ixn1, eqF_s, eqF_i, neF_s, neF_i, eqF_l, eqF_t, neF_l, Option.some.injEq, G.E.ow.injEq, exists_eq_left', exists_eq_left, exists_eq', exists_and_left, exists_and_right, exists_const, and_self, ne_eq, not_false_eq_true, decide_true, decide_false, Bool.not_true, Bool.not_false, restE, wipeE, List.getD_eq_getElem?_getD, Option.getD_some]
    exact (⟨by omega, ⟨by omega, by omega⟩, draw_to hP (fmod_in hn0).1 (fmod_in hn0).2 ⟨_, _, rfl, hb0, hb1⟩⟩)
  simp -dsimp only [↓x_seq, ↓x_next, ↓x_drop, ↓x_set, ↓x_setO, ↓x_name, ↓x_gnil, ↓x_gcons, ↓x_gtup, ↓x_bin, ↓x_var, ↓x_varF, ↓x_c, ↓x_1, ↓x_B, ↓x_and, ↓x_or, ↓x_not, ↓x_andV, ↓x_orV, ↓x_notV, ↓x_if, ↓x_ifS, ↓x_ret, ↓x_lst, ↓x_tup, ↓x_acons, ↓x_anil, ↓x_aug, ↓x_setIx, ↓x_call, ↓x_callT, ↓x_callK, ↓x_callD, ↓x_chain, ↓x_sl, ↓x_oS, ↓x_oN, ↓x_rep, ↓x_store, ↓x_app, ↓x_popAt, ↓x_insert, ↓x_ext, ↓x_strM, ↓x_listM, ↓x_isi, ↓x_LE, ↓x_yes, ↓x_iList, ↓x_iTup, ↓x_iStr, ↓x_iEnum, ↓x_iRange1, ↓x_iRange2, ↓x_for, ↓x_while, ↓x_lc, ↓x_rev, ↓x_pNil, ↓x_pCons, ↓x_dict, ↓x_dict0, ↓x_dget, cs_t, cs_f, ex_s, sh1, get_fz, get_ow, get_br, brD_ow, brD_fz, fzd_fz, fzd_ow, fzd_br, jO_un, jO_fz, jO_ow, jO_no, intF_i, intF0_i, addF_i, addF_s, addF_l, addF_t, mulF, mulSF_s, ne0F_l, subF, fdivF, modF, powF, ltF_i, ltF_s, leF, gtF, geF, absF_i, maxF, minF, lenF_l, lenF_t, lenF_s, toIntF_i, toIntF_b, toListF_l, toListF_t, toTupF_l, toTupF_t, negF_i, cutF_l, cutF_t, cutF_s, isF_bb, isF_nn, isF_ln, isF_sn, isF_in, isF_tn, List.map_cons, List.map_nil, List.cons_append, List.nil_append, List.replicate, List.getElem?_cons_zero, List.getElem?_cons_succ, List.set_cons_zero, List.set_cons_succ, List.length_cons, List.length_nil, if_true, if_false, Bool.false_eq_true, true_and, and_true, reduceCtorEq, ixF_0, ixF_1, ixF_2, ixF_t0, ixF_t1, ixF_t2, ixn0, ixn1, eqF_s, eqF_i, neF_s, neF_i, eqF_l, eqF_t, neF_l, Option.some.injEq, G.E.ow.injEq, exists_eq_left', exists_eq_left, exists_eq', exists_and_left, exists_and_right, exists_const, and_self, ne_eq, not_false_eq_true, decide_true, decide_false, Bool.not_true, Bool.not_false, restE, wipeE, List.getD_eq_getElem?_getD, Option.getD_some]
  exact ⟨cm_r (by omega), cm_l (by decide), by decide, cm_r (by decide), by decide, ⟨by decide, by decide⟩, by omega, draw_to hP (fmod_in hn0).1 (fmod_in hn0).2 ⟨_, _, rfl, m1.1, m1.2⟩⟩
/-! ### _law_run -/
def S_law_run (ds : List D) (P : R → Prop) : Prop := ∃ (p : List Nm) (cs : List Cm), ds = [eL p, eL cs] ∧ p.length + cs.length ≤ 90000 ∧ P (.fz (eL (runs p cs)))
theorem lrun_n {p : List Nm} {cs : List Cm} {P : R → Prop} (h : p.length + cs.length ≤ 90000) (k : P (.fz (eL (runs p cs)))) : S_law_run [eL p, eL cs] P := ⟨p, cs, rfl, h, k⟩
set_option maxHeartbeats 4000000 in
theorem ok_law_run (T : Tx K mg) : FnG P w K mg base 1 T.f_law_run T.fd_law_run 2 ["_law_path_here", "_law_script_here"] (spF K 2 S_law_run) := by
  refine fn_F (m := 6) T.F_law_run sc_law_run rfl rfl fun {cdv A outer s H E} g room ds PP hl hS => ?_
  refine ⟨_, _, (gb_cons (gs_set (ge_t1 call_list_of sc_toList rfl T.z_list (by decide +kernel) (ge_var 0)) (gg_name 2 sc_law_run.nd))
      (gb_kill [3, 4, 5, 6] (gb_cons (gs_for PassesOwn.never rfl (gi_list (ge_var 1)) (gg_tup (n := 3) rfl (ggs_cons (gg_name 3 sc_law_run.nd) (ggs_cons (gg_name 4 sc_law_run.nd) (ggs_cons (gg_name 5 sc_law_run.nd) ggs_nil))))
      (gb_killN [3, 4, 5, 6] (gb_cons (gs_set (ge_var 5) (gg_name 6 sc_law_run.nd))
      (gb_cons (gs_if (gt_cmp (op_inG (plenty room)) sr_in (by rfl) (ge_var 3) (ge_var 2))
      (gb_one (gs_set (ge_var 4) (gg_name 6 sc_law_run.nd)))
      gb_nil)
      (gb_cons (gs_if (gt_cmp (op_inG (plenty room)) sr_in (by rfl) (ge_var 6) (ge_tup (ga_cons ge_str (ga_cons ge_str (ga_cons ge_str ga_nil)))))
      (gb_one (gs_setLc 2 rfl sc_law_run.nd (sw_true rfl rfl rfl (by decide +kernel)) (gi_list (ge_var 2)) (blkOk_by (own := [("_law_other", 7)]) (N := N_law_run) (sc := defScope s_law_run) (by decide +kernel)) (fun _ _ _ _ _ => by exact (gg_name 7 sc_law_run.nd)) (fun _ _ _ _ _ => by refine ⟨_, gts_one (gt_cmp (op_neG (plenty room)) sr_ne (nomark _) (ge_var 7) (ge_var 3)), ?_⟩; first | (dsimp only [Cx.blk]; done) | (dsimp only [Cx.blk]; exact rfl) | exact rfl) (fun _ _ _ _ _ => by refine ⟨_, (ge_var 7), ?_⟩; first | (dsimp only [Cx.blk]; done) | (dsimp only [Cx.blk]; exact rfl) | exact rfl)))
      gb_nil)
      (gb_cons (gs_if (gt_cmp (op_eqG (plenty room)) sr_eq (nomark _) (ge_var 6) ge_str)
      (gb_one (gs_set (ge_op op_addG sr_add (ge_lst (ga_cons (ge_var 3) ga_nil)) (ge_var 2)) (gg_name 2 sc_law_run.nd)))
      gb_nil)
      (gb_one (gs_if (gt_cmp (op_eqG (plenty room)) sr_eq (nomark _) (ge_var 6) ge_str)
      (gb_one (gs_set (ge_op op_addG sr_add (ge_var 2) (ge_lst (ga_cons (ge_var 3) ga_nil))) (gg_name 2 sc_law_run.nd)))
      gb_nil))))))))
      (gb_one (gs_ret (ge_var 2)))))), ?_⟩
  obtain ⟨p, cs, rfl, hl, hP⟩ := hS
  simp -dsimp only [↓x_seq, ↓x_next, ↓x_drop, ↓x_set, ↓x_setO, ↓x_name, ↓x_gnil, ↓x_gcons, ↓x_gtup, ↓x_bin, ↓x_var, ↓x_varF, ↓x_c, ↓x_1, ↓x_B, ↓x_and, ↓x_or, ↓x_not, ↓x_andV, ↓x_orV, ↓x_notV, ↓x_if, ↓x_ifS, ↓x_ret, ↓x_lst, ↓x_tup, ↓x_acons, ↓x_anil, ↓x_aug, ↓y_setIx, ↓x_call, ↓x_callT, ↓x_callK, ↓x_callD, ↓x_chain, ↓x_sl, ↓x_oS, ↓x_oN, ↓x_rep, ↓y_store, ↓x_app, ↓y_popAt, ↓y_insert, ↓y_ext, ↓x_strM, ↓x_listM, ↓x_isi, ↓y_LE, ↓x_yes, ↓y_iList, ↓y_iTup, ↓x_iStr, ↓y_iEnum, ↓x_iRange1, ↓x_iRange2, ↓x_for, ↓x_while, ↓x_lc, ↓y_rev, ↓x_pNil, ↓x_pCons, ↓x_dict, ↓x_dict0, ↓x_dget, cs_t, cs_f, ex_s, sh1, get_fz, get_ow, get_br, brD_ow, brD_fz, fzd_fz, fzd_ow, fzd_br, jO_un, jO_fz, jO_ow, jO_no, intF_i, intF0_i, addF_i, addF_s, addF_l, addF_t, mulF, mulSF_s, ne0F_l, subF, fdivF, modF, powF, ltF_i, ltF_s, leF, gtF, geF, absF_i, maxF, minF, lenF_l, lenF_t, lenF_s, toIntF_i, toIntF_b, toListF_l, toListF_t, toTupF_l, toTupF_t, negF_i, cutF_l, cutF_t, cutF_s, isF_bb, isF_nn, isF_ln, isF_sn, isF_in, isF_tn, List.map_cons, List.map_nil, List.cons_append, List.nil_append, List.replicate, List.getElem?_cons_zero, List.getElem?_cons_succ, List.set_cons_zero, List.set_cons_succ, List.length_cons, List.length_nil, if_true, if_false, Bool.false_eq_true, true_and, and_true, reduceCtorEq, ixF_0, ixF_1, ixF_2, ixF_t0, ixF_t1, ixF_t2, ixn0, ixn1, eqF_s, eqF_i, neF_s, neF_i, eqF_l, eqF_t, neF_l, Option.some.injEq, G.E.ow.injEq, exists_eq_left', exists_eq_left, exists_eq', exists_const, and_self, ne_eq, not_false_eq_true, decide_true, decide_false, Bool.not_true, Bool.not_false, restE, wipeE, List.getD_eq_getElem?_getD, Option.getD_some, eqF_bb, neF_bb, ↓y_iRev, ↓x_sset, ↓x_lset, sortF_e, t3_f, t4_f, gtup3, gtup4, ixT3_0, ixT3_1, ixT3_2, ↓x_callB, ↓x_frz, ↓x_rnil, ↓x_rcons, argsD_n, argsD_c, consO_s, argD_f, argD_b, argB_l, argB_e, argB_f, noLR_e, noLR_t, noLR_a, noLR_i, noLR_b, noLR_s, noLR_n, ↓x_pop, eL_drop, eL_i1, ↓x_callN, isOw_o, ex_bd, en_epf, en_epb, ixFa_0, ixFa_1f, ixFa_1b, fs_a, fs_u, fs_f, fs_b, t3_i, t3_o, t3_c, t2_n, t3_n, ne0F_e, isF_fate, not_true_eq_false, Int.reduceSub, Int.reduceAdd, isL_l, isL_e, isT_t, isT_e, isOL_l, isOL_e, isL1_c, isInt_i, isSome_s, isOwL_l, isOwL_e, en_int, en_nat, en_bool, en_str, en_list, eL_1, eL_2, eL_3, eL_snoc, eL_snoc2, eL_app, eL_LL, eL_LL2, eL_LLs, addF_e, addF_t', addF_n, addF_n', lenF_e, lenF_e', toListF_e, toListF_e', toTupF_e, toTupF_e', cutF_e, cutF_e', cm_keep_skip, cm_keep_front, cm_keep_back, cm_front_skip, cm_front_front, cm_front_back, cm_back_skip, cm_back_front, cm_back_back, cm_remove_skip, cm_remove_front, cm_remove_back, nl0, nl1, nl2, nl3, nl4, nl5, nl6, nl7, nl8, nl9, nl10, nl11, nl12, Int.reduceEq, Int.reduceLT, Int.reduceLE, nat1c, natc1, natc2, natcA, cutA_btw, cutA_to, cutA_from, cutA_all, ixF_e0, ixF_e1, ixP_0, ixP_1, gtupP, pair_f, isF_Ln, isF_Tn, eqF_e, neF_e, inF_e, eqF_n, eqF_n', eqF_eL, neF_eL, eqF_eT, inF_nm, eL_pairs, pairs_e, rngD_e, eL_rev, eL_set, eL_erase, eL_ins, eL_ins', get_m, idx_len, sl0, sl1, sl2, sl3, sl4, sl5, sl6, sl7, sl8, sl9, sl10, sl11, sl12, en_keep, en_front, en_back, en_remove, en_skip, en_ofront, en_oback, en_inn, en_out, en_both, eqF_inn, eqF_out, eqF_both, neF_inn, neF_out, ixC_0, ixC_1, ixC_2, lenC, ixO_0, ixO_1, ixO_2, gtupC, gtupO, fate_a, fate_u, fate_f, fate_b, ent_i, ent_o, ent_b, inT_1, inT_2, inT_3, ofS, String.reduceEq, Bool.or_true, Bool.true_or, Bool.or_false, Bool.false_or, eq_self, ↓x_kill, ↓x_killN, ↓x_join, dropE_n, dropE_c, drop1_un, drop1_fz, drop1_ow, drop1_ot, Int.toNat_natCast, List.length_map, Option.map_some, Option.map_none]
  refine for_t (fun l e => ∃ q, e = [(.fz (eL p) : G.E), (.fz (eL cs) : G.E), (.fz (eL q) : G.E), .un, .un, .un, .un, .un] ∧ q.length + l.length ≤ 90000 ∧ runs q l = runs p cs) ⟨p, rfl, hl, rfl⟩ ?_ ?_
  · rintro ⟨n, a, b⟩ l e ⟨q, rfl, hq, hr⟩
    have hr : runs (mvd q n (if n ∈ q then a.mv else b.mv)) l = runs p cs := hr
    have hb : (q.filter fun x => !decide (x = n)).length ≤ q.length := but_le (n := n) (p := q)
    rw [List.length_cons] at hq
    simp -dsimp only [↓x_seq, ↓x_next, ↓x_drop, ↓x_set, ↓x_setO, ↓x_name, ↓x_gnil, ↓x_gcons, ↓x_gtup, ↓x_bin, ↓x_var, ↓x_varF, ↓x_c, ↓x_1, ↓x_B, ↓x_and, ↓x_or, ↓x_not, ↓x_andV, ↓x_orV, ↓x_notV, ↓x_if, ↓x_ifS, ↓x_ret, ↓x_lst, ↓x_tup, ↓x_acons, ↓x_anil, ↓x_aug, ↓y_setIx, ↓x_call, ↓x_callT, ↓x_callK, ↓x_callD, ↓x_chain, ↓x_sl, ↓x_oS, ↓x_oN, ↓x_rep, ↓y_store, ↓x_app, ↓y_popAt, ↓y_insert, ↓y_ext, ↓x_strM, ↓x_listM, ↓x_isi, ↓y_LE, ↓x_yes, ↓y_iList, ↓y_iTup, ↓x_iStr, ↓y_iEnum, ↓x_iRange1, ↓x_iRange2, ↓x_for, ↓x_while, ↓x_lc, ↓y_rev, ↓x_pNil, ↓x_pCons, ↓x_dict, ↓x_dict0, ↓x_dget, cs_t, cs_f, ex_s, sh1, get_fz, get_ow, get_br, brD_ow, brD_fz, fzd_fz, fzd_ow, fzd_br, jO_un, jO_fz, jO_ow, jO_no, intF_i, intF0_i, addF_i, addF_s, addF_l, addF_t, mulF, mulSF_s, ne0F_l, subF, fdivF, modF, powF, ltF_i, ltF_s, leF, gtF, geF, absF_i, maxF, minF, lenF_l, lenF_t, lenF_s, toIntF_i, toIntF_b, toListF_l, toListF_t, toTupF_l, toTupF_t, negF_i, cutF_l, cutF_t, cutF_s, isF_bb, isF_nn, isF_ln, isF_sn, isF_in, isF_tn, List.map_cons, List.map_nil, List.cons_append, List.nil_append, List.replicate, List.getElem?_cons_zero, List.getElem?_cons_succ, List.set_cons_zero, List.set_cons_succ, List.length_cons, List.length_nil, if_true, if_false, Bool.false_eq_true, true_and, and_true, reduceCtorEq, ixF_0, ixF_1, ixF_2, ixF_t0, ixF_t1, ixF_t2, ixn0, ixn1, eqF_s, eqF_i, neF_s, neF_i, eqF_l, eqF_t, neF_l, Option.some.injEq, G.E.ow.injEq, exists_eq_left', exists_eq_left, exists_eq', exists_const, and_self, ne_eq, not_false_eq_true, decide_true, decide_false, Bool.not_true, Bool.not_false, restE, wipeE, List.getD_eq_getElem?_getD, Option.getD_some, eqF_bb, neF_bb, ↓y_iRev, ↓x_sset, ↓x_lset, sortF_e, t3_f, t4_f, gtup3, gtup4, ixT3_0, ixT3_1, ixT3_2, ↓x_callB, ↓x_frz, ↓x_rnil, ↓x_rcons, argsD_n, argsD_c, consO_s, argD_f, argD_b, argB_l, argB_e, argB_f, noLR_e, noLR_t, noLR_a, noLR_i, noLR_b, noLR_s, noLR_n, ↓x_pop, eL_drop, eL_i1, ↓x_callN, isOw_o, ex_bd, en_epf, en_epb, ixFa_0, ixFa_1f, ixFa_1b, fs_a, fs_u, fs_f, fs_b, t3_i, t3_o, t3_c, t2_n, t3_n, ne0F_e, isF_fate, not_true_eq_false, Int.reduceSub, Int.reduceAdd, isL_l, isL_e, isT_t, isT_e, isOL_l, isOL_e, isL1_c, isInt_i, isSome_s, isOwL_l, isOwL_e, en_int, en_nat, en_bool, en_str, en_list, eL_1, eL_2, eL_3, eL_snoc, eL_snoc2, eL_app, eL_LL, eL_LL2, eL_LLs, addF_e, addF_t', addF_n, addF_n', lenF_e, lenF_e', toListF_e, toListF_e', toTupF_e, toTupF_e', cutF_e, cutF_e', cm_keep_skip, cm_keep_front, cm_keep_back, cm_front_skip, cm_front_front, cm_front_back, cm_back_skip, cm_back_front, cm_back_back, cm_remove_skip, cm_remove_front, cm_remove_back, nl0, nl1, nl2, nl3, nl4, nl5, nl6, nl7, nl8, nl9, nl10, nl11, nl12, Int.reduceEq, Int.reduceLT, Int.reduceLE, nat1c, natc1, natc2, natcA, cutA_btw, cutA_to, cutA_from, cutA_all, ixF_e0, ixF_e1, ixP_0, ixP_1, gtupP, pair_f, isF_Ln, isF_Tn, eqF_e, neF_e, inF_e, eqF_n, eqF_n', eqF_eL, neF_eL, eqF_eT, inF_nm, eL_pairs, pairs_e, rngD_e, eL_rev, eL_set, eL_erase, eL_ins, eL_ins', get_m, idx_len, sl0, sl1, sl2, sl3, sl4, sl5, sl6, sl7, sl8, sl9, sl10, sl11, sl12, en_keep, en_front, en_back, en_remove, en_skip, en_ofront, en_oback, en_inn, en_out, en_both, eqF_inn, eqF_out, eqF_both, neF_inn, neF_out, ixC_0, ixC_1, ixC_2, lenC, ixO_0, ixO_1, ixO_2, gtupC, gtupO, fate_a, fate_u, fate_f, fate_b, ent_i, ent_o, ent_b, inT_1, inT_2, inT_3, ofS, String.reduceEq, Bool.or_true, Bool.true_or, Bool.or_false, Bool.false_or, eq_self, ↓x_kill, ↓x_killN, ↓x_join, dropE_n, dropE_c, drop1_un, drop1_fz, drop1_ow, drop1_ot, Int.toNat_natCast, List.length_map, Option.map_some, Option.map_none]
    refine cs_i (fun hm => ?_) fun hm => ?_
    case' refine_1 =>
      rw [if_pos hm] at hr
      cases a
    case' refine_2 =>
      rw [if_neg hm] at hr
      cases b
    all_goals
      simp -dsimp only [↓x_seq, ↓x_next, ↓x_drop, ↓x_set, ↓x_setO, ↓x_name, ↓x_gnil, ↓x_gcons, ↓x_gtup, ↓x_bin, ↓x_var, ↓x_varF, ↓x_c, ↓x_1, ↓x_B, ↓x_and, ↓x_or, ↓x_not, ↓x_andV, ↓x_orV, ↓x_notV, ↓x_if, ↓x_ifS, ↓x_ret, ↓x_lst, ↓x_tup, ↓x_acons, ↓x_anil, ↓x_aug, ↓y_setIx, ↓x_call, ↓x_callT, ↓x_callK, ↓x_callD, ↓x_chain, ↓x_sl, ↓x_oS, ↓x_oN, ↓x_rep, ↓y_store, ↓x_app, ↓y_popAt, ↓y_insert, ↓y_ext, ↓x_strM, ↓x_listM, ↓x_isi, ↓y_LE, ↓x_yes, ↓y_iList, ↓y_iTup, ↓x_iStr, ↓y_iEnum, ↓x_iRange1, ↓x_iRange2, ↓x_for, ↓x_while, ↓x_lc, ↓y_rev, ↓x_pNil, ↓x_pCons, ↓x_dict, ↓x_dict0, ↓x_dget, cs_t, cs_f, ex_s, sh1, get_fz, get_ow, get_br, brD_ow, brD_fz, fzd_fz, fzd_ow, fzd_br, jO_un, jO_fz, jO_ow, jO_no, intF_i, intF0_i, addF_i, addF_s, addF_l, addF_t, mulF, mulSF_s, ne0F_l, subF, fdivF, modF, powF, ltF_i, ltF_s, leF, gtF, geF, absF_i, maxF, minF, lenF_l, lenF_t, lenF_s, toIntF_i, toIntF_b, toListF_l, toListF_t, toTupF_l, toTupF_t, negF_i, cutF_l, cutF_t, cutF_s, isF_bb, isF_nn, isF_ln, isF_sn, isF_in, isF_tn, List.map_cons, List.map_nil, List.cons_append, List.nil_append, List.replicate, List.getElem?_cons_zero, List.getElem?_cons_succ, List.set_cons_zero, List.set_cons_succ, List.length_cons, List.length_nil, if_true, if_false, Bool.false_eq_true, true_and, and_true, reduceCtorEq, ixF_0, ixF_1, ixF_2, ixF_t0, ixF_t1, ixF_t2, ixn0, ixn1, eqF_s, eqF_i, neF_s, neF_i, eqF_l, eqF_t, neF_l, Option.some.injEq, G.E.ow.injEq, exists_eq_left', exists_eq_left, exists_eq', exists_const, and_self, ne_eq, not_false_eq_true, decide_true, decide_false, Bool.not_true, Bool.not_false, restE, wipeE, List.getD_eq_getElem?_getD, Option.getD_some, eqF_bb, neF_bb, ↓y_iRev, ↓x_sset, ↓x_lset, sortF_e, t3_f, t4_f, gtup3, gtup4, ixT3_0, ixT3_1, ixT3_2, ↓x_callB, ↓x_frz, ↓x_rnil, ↓x_rcons, argsD_n, argsD_c, consO_s, argD_f, argD_b, argB_l, argB_e, argB_f, noLR_e, noLR_t, noLR_a, noLR_i, noLR_b, noLR_s, noLR_n, ↓x_pop, eL_drop, eL_i1, ↓x_callN, isOw_o, ex_bd, en_epf, en_epb, ixFa_0, ixFa_1f, ixFa_1b, fs_a, fs_u, fs_f, fs_b, t3_i, t3_o, t3_c, t2_n, t3_n, ne0F_e, isF_fate, not_true_eq_false, Int.reduceSub, Int.reduceAdd, isL_l, isL_e, isT_t, isT_e, isOL_l, isOL_e, isL1_c, isInt_i, isSome_s, isOwL_l, isOwL_e, en_int, en_nat, en_bool, en_str, en_list, eL_1, eL_2, eL_3, eL_snoc, eL_snoc2, eL_app, eL_LL, eL_LL2, eL_LLs, addF_e, addF_t', addF_n, addF_n', lenF_e, lenF_e', toListF_e, toListF_e', toTupF_e, toTupF_e', cutF_e, cutF_e', cm_keep_skip, cm_keep_front, cm_keep_back, cm_front_skip, cm_front_front, cm_front_back, cm_back_skip, cm_back_front, cm_back_back, cm_remove_skip, cm_remove_front, cm_remove_back, nl0, nl1, nl2, nl3, nl4, nl5, nl6, nl7, nl8, nl9, nl10, nl11, nl12, Int.reduceEq, Int.reduceLT, Int.reduceLE, nat1c, natc1, natc2, natcA, cutA_btw, cutA_to, cutA_from, cutA_all, ixF_e0, ixF_e1, ixP_0, ixP_1, gtupP, pair_f, isF_Ln, isF_Tn, eqF_e, neF_e, inF_e, eqF_n, eqF_n', eqF_eL, neF_eL, eqF_eT, inF_nm, eL_pairs, pairs_e, rngD_e, eL_rev, eL_set, eL_erase, eL_ins, eL_ins', get_m, idx_len, sl0, sl1, sl2, sl3, sl4, sl5, sl6, sl7, sl8, sl9, sl10, sl11, sl12, en_keep, en_front, en_back, en_remove, en_skip, en_ofront, en_oback, en_inn, en_out, en_both, eqF_inn, eqF_out, eqF_both, neF_inn, neF_out, ixC_0, ixC_1, ixC_2, lenC, ixO_0, ixO_1, ixO_2, gtupC, gtupO, fate_a, fate_u, fate_f, fate_b, ent_i, ent_o, ent_b, inT_1, inT_2, inT_3, ofS, String.reduceEq, Bool.or_true, Bool.true_or, Bool.or_false, Bool.false_or, eq_self, ↓x_kill, ↓x_killN, ↓x_join, dropE_n, dropE_c, drop1_un, drop1_fz, drop1_ow, drop1_ot, Int.toNat_natCast, List.length_map, Option.map_some, Option.map_none]
      first
      | exact ⟨q, rfl, by omega, hr⟩
      | skip
    all_goals
      refine lc_filter (fun x => !decide (x = n)) _ (by first | decide | exact sz0 (by omega) | exact sz0 (by simp only [List.length_take, List.length_drop, List.length_cons, List.length_nil, List.length_append, List.length_map, List.length_reverse, List.length_range, idx_len]; omega) | exact sz1 (by omega) | exact sz1 (by simp only [List.length_take, List.length_drop, List.length_cons, List.length_nil, List.length_append, List.length_map, List.length_reverse, List.length_range, idx_len]; omega) | omega | (simp only [List.length_take, List.length_drop, List.length_cons, List.length_nil, List.length_append, List.length_map, List.length_reverse, List.length_range, idx_len]; omega)) rfl (fun x hx Q Q0 h h0 => ?_) ?_
      · (simp -dsimp only [↓x_seq, ↓x_next, ↓x_drop, ↓x_set, ↓x_setO, ↓x_name, ↓x_gnil, ↓x_gcons, ↓x_gtup, ↓x_bin, ↓x_var, ↓x_varF, ↓x_c, ↓x_1, ↓x_B, ↓x_and, ↓x_or, ↓x_not, ↓x_andV, ↓x_orV, ↓x_notV, ↓x_if, ↓x_ifS, ↓x_ret, ↓x_lst, ↓x_tup, ↓x_acons, ↓x_anil, ↓x_aug, ↓y_setIx, ↓x_call, ↓x_callT, ↓x_callK, ↓x_callD, ↓x_chain, ↓x_sl, ↓x_oS, ↓x_oN, ↓x_rep, ↓y_store, ↓x_app, ↓y_popAt, ↓y_insert, ↓y_ext, ↓x_strM, ↓x_listM, ↓x_isi, ↓y_LE, ↓x_yes, ↓y_iList, ↓y_iTup, ↓x_iStr, ↓y_iEnum, ↓x_iRange1, ↓x_iRange2, ↓x_for, ↓x_while, ↓x_lc, ↓y_rev, ↓x_pNil, ↓x_pCons, ↓x_dict, ↓x_dict0, ↓x_dget, cs_t, cs_f, ex_s, sh1, get_fz, get_ow, get_br, brD_ow, brD_fz, fzd_fz, fzd_ow, fzd_br, jO_un, jO_fz, jO_ow, jO_no, intF_i, intF0_i, addF_i, addF_s, addF_l, addF_t, mulF, mulSF_s, ne0F_l, subF, fdivF, modF, powF, ltF_i, ltF_s, leF, gtF, geF, absF_i, maxF, minF, lenF_l, lenF_t, lenF_s, toIntF_i, toIntF_b, toListF_l, toListF_t, toTupF_l, toTupF_t, negF_i, cutF_l, cutF_t, cutF_s, isF_bb, isF_nn, isF_ln, isF_sn, isF_in, isF_tn, List.map_cons, List.map_nil, List.cons_append, List.nil_append, List.replicate, List.getElem?_cons_zero, List.getElem?_cons_succ, List.set_cons_zero, List.set_cons_succ, List.length_cons, List.length_nil, if_true, if_false, Bool.false_eq_true, true_and, and_true, reduceCtorEq, ixF_0, ixF_1, ixF_2, ixF_t0, ixF_t1, ixF_t2, ixn0, ixn1, eqF_s, eqF_i, neF_s, neF_i, eqF_l, eqF_t, neF_l, Option.some.injEq, G.E.ow.injEq, exists_eq_left', exists_eq_left, exists_eq', exists_const, and_self, ne_eq, not_false_eq_true, decide_true, decide_false, Bool.not_true, Bool.not_false, restE, wipeE, List.getD_eq_getElem?_getD, Option.getD_some, eqF_bb, neF_bb, ↓y_iRev, ↓x_sset, ↓x_lset, sortF_e, t3_f, t4_f, gtup3, gtup4, ixT3_0, ixT3_1, ixT3_2, ↓x_callB, ↓x_frz, ↓x_rnil, ↓x_rcons, argsD_n, argsD_c, consO_s, argD_f, argD_b, argB_l, argB_e, argB_f, noLR_e, noLR_t, noLR_a, noLR_i, noLR_b, noLR_s, noLR_n, ↓x_pop, eL_drop, eL_i1, ↓x_callN, isOw_o, ex_bd, en_epf, en_epb, ixFa_0, ixFa_1f, ixFa_1b, fs_a, fs_u, fs_f, fs_b, t3_i, t3_o, t3_c, t2_n, t3_n, ne0F_e, isF_fate, not_true_eq_false, Int.reduceSub, Int.reduceAdd, isL_l, isL_e, isT_t, isT_e, isOL_l, isOL_e, isL1_c, isInt_i, isSome_s, isOwL_l, isOwL_e, en_int, en_nat, en_bool, en_str, en_list, eL_1, eL_2, eL_3, eL_snoc, eL_snoc2, eL_app, eL_LL, eL_LL2, eL_LLs, addF_e, addF_t', addF_n, addF_n', lenF_e, lenF_e', toListF_e, toListF_e', toTupF_e, toTupF_e', cutF_e, cutF_e', cm_keep_skip, cm_keep_front, cm_keep_back, cm_front_skip, cm_front_front, cm_front_back, cm_back_skip, cm_back_front, cm_back_back, cm_remove_skip, cm_remove_front, cm_remove_back, nl0, nl1, nl2, nl3, nl4, nl5, nl6, nl7, nl8, nl9, nl10, nl11, nl12, Int.reduceEq, Int.reduceLT, Int.reduceLE, nat1c, natc1, natc2, natcA, cutA_btw, cutA_to, cutA_from, cutA_all, ixF_e0, ixF_e1, ixP_0, ixP_1, gtupP, pair_f, isF_Ln, isF_Tn, eqF_e, neF_e, inF_e, eqF_n, eqF_n', eqF_eL, neF_eL, eqF_eT, inF_nm, eL_pairs, pairs_e, rngD_e, eL_rev, eL_set, eL_erase, eL_ins, eL_ins', get_m, idx_len, sl0, sl1, sl2, sl3, sl4, sl5, sl6, sl7, sl8, sl9, sl10, sl11, sl12, en_keep, en_front, en_back, en_remove, en_skip, en_ofront, en_oback, en_inn, en_out, en_both, eqF_inn, eqF_out, eqF_both, neF_inn, neF_out, ixC_0, ixC_1, ixC_2, lenC, ixO_0, ixO_1, ixO_2, gtupC, gtupO, fate_a, fate_u, fate_f, fate_b, ent_i, ent_o, ent_b, inT_1, inT_2, inT_3, ofS, String.reduceEq, Bool.or_true, Bool.true_or, Bool.or_false, Bool.false_or, eq_self, ↓x_kill, ↓x_killN, ↓x_join, dropE_n, dropE_c, drop1_un, drop1_fz, drop1_ow, drop1_ot, Int.toNat_natCast, List.length_map, Option.map_some, Option.map_none]; exact cs_b (fun hk => by simp -dsimp only [↓x_seq, ↓x_next, ↓x_drop, ↓x_set, ↓x_setO, ↓x_name, ↓x_gnil, ↓x_gcons, ↓x_gtup, ↓x_bin, ↓x_var, ↓x_varF, ↓x_c, ↓x_1, ↓x_B, ↓x_and, ↓x_or, ↓x_not, ↓x_andV, ↓x_orV, ↓x_notV, ↓x_if, ↓x_ifS, ↓x_ret, ↓x_lst, ↓x_tup, ↓x_acons, ↓x_anil, ↓x_aug, ↓y_setIx, ↓x_call, ↓x_callT, ↓x_callK, ↓x_callD, ↓x_chain, ↓x_sl, ↓x_oS, ↓x_oN, ↓x_rep, ↓y_store, ↓x_app, ↓y_popAt, ↓y_insert, ↓y_ext, ↓x_strM, ↓x_listM, ↓x_isi, ↓y_LE, ↓x_yes, ↓y_iList, ↓y_iTup, ↓x_iStr, ↓y_iEnum, ↓x_iRange1, ↓x_iRange2, ↓x_for, ↓x_while, ↓x_lc, ↓y_rev, ↓x_pNil, ↓x_pCons, ↓x_dict, ↓x_dict0, ↓x_dget, cs_t, cs_f, ex_s, sh1, get_fz, get_ow, get_br, brD_ow, brD_fz, fzd_fz, fzd_ow, fzd_br, jO_un, jO_fz, jO_ow, jO_no, intF_i, intF0_i, addF_i, addF_s, addF_l, addF_t, mulF, mulSF_s, ne0F_l, subF, fdivF, modF, powF, ltF_i, ltF_s, leF, gtF, geF, absF_i, maxF, minF, lenF_l, lenF_t, lenF_s, toIntF_i, toIntF_b, toListF_l, toListF_t, toTupF_l, toTupF_t, negF_i, cutF_l, cutF_t, cutF_s, isF_bb, isF_nn, isF_ln, isF_sn, isF_in, isF_tn, List.map_cons, List.map_nil, List.cons_append, List.nil_append, List.replicate, List.getElem?_cons_zero, List.getElem?_cons_succ, List.set_cons_zero, List.set_cons_succ, List.length_cons, List.length_nil, if_true, if_false, Bool.false_eq_true, true_and, and_true, reduceCtorEq, ixF_0, ixF_1, ixF_2, ixF_t0, ixF_t1, ixF_t2, ixn0, ixn1, eqF_s, eqF_i, neF_s, neF_i, eqF_l, eqF_t, neF_l, Option.some.injEq, G.E.ow.injEq, exists_eq_left', exists_eq_left, exists_eq', exists_const, and_self, ne_eq, not_false_eq_true, decide_true, decide_false, Bool.not_true, Bool.not_false, restE, wipeE, List.getD_eq_getElem?_getD, Option.getD_some, eqF_bb, neF_bb, ↓y_iRev, ↓x_sset, ↓x_lset, sortF_e, t3_f, t4_f, gtup3, gtup4, ixT3_0, ixT3_1, ixT3_2, ↓x_callB, ↓x_frz, ↓x_rnil, ↓x_rcons, argsD_n, argsD_c, consO_s, argD_f, argD_b, argB_l, argB_e, argB_f, noLR_e, noLR_t, noLR_a, noLR_i, noLR_b, noLR_s, noLR_n, ↓x_pop, eL_drop, eL_i1, ↓x_callN, isOw_o, ex_bd, en_epf, en_epb, ixFa_0, ixFa_1f, ixFa_1b, fs_a, fs_u, fs_f, fs_b, t3_i, t3_o, t3_c, t2_n, t3_n, ne0F_e, isF_fate, not_true_eq_false, Int.reduceSub, Int.reduceAdd, isL_l, isL_e, isT_t, isT_e, isOL_l, isOL_e, isL1_c, isInt_i, isSome_s, isOwL_l, isOwL_e, en_int, en_nat, en_bool, en_str, en_list, eL_1, eL_2, eL_3, eL_snoc, eL_snoc2, eL_app, eL_LL, eL_LL2, eL_LLs, addF_e, addF_t', addF_n, addF_n', lenF_e, lenF_e', toListF_e, toListF_e', toTupF_e, toTupF_e', cutF_e, cutF_e', cm_keep_skip, cm_keep_front, cm_keep_back, cm_front_skip, cm_front_front, cm_front_back, cm_back_skip, cm_back_front, cm_back_back, cm_remove_skip, cm_remove_front, cm_remove_back, nl0, nl1, nl2, nl3, nl4, nl5, nl6, nl7, nl8, nl9, nl10, nl11, nl12, Int.reduceEq, Int.reduceLT, Int.reduceLE, nat1c, natc1, natc2, natcA, cutA_btw, cutA_to, cutA_from, cutA_all, ixF_e0, ixF_e1, ixP_0, ixP_1, gtupP, pair_f, isF_Ln, isF_Tn, eqF_e, neF_e, inF_e, eqF_n, eqF_n', eqF_eL, neF_eL, eqF_eT, inF_nm, eL_pairs, pairs_e, rngD_e, eL_rev, eL_set, eL_erase, eL_ins, eL_ins', get_m, idx_len, sl0, sl1, sl2, sl3, sl4, sl5, sl6, sl7, sl8, sl9, sl10, sl11, sl12, en_keep, en_front, en_back, en_remove, en_skip, en_ofront, en_oback, en_inn, en_out, en_both, eqF_inn, eqF_out, eqF_both, neF_inn, neF_out, ixC_0, ixC_1, ixC_2, lenC, ixO_0, ixO_1, ixO_2, gtupC, gtupO, fate_a, fate_u, fate_f, fate_b, ent_i, ent_o, ent_b, inT_1, inT_2, inT_3, ofS, String.reduceEq, Bool.or_true, Bool.true_or, Bool.or_false, Bool.false_or, eq_self, ↓x_kill, ↓x_killN, ↓x_join, dropE_n, dropE_c, drop1_un, drop1_fz, drop1_ow, drop1_ot, Int.toNat_natCast, List.length_map, Option.map_some, Option.map_none]; exact h hk) (fun hk => by simp -dsimp only [↓x_seq, ↓x_next, ↓x_drop, ↓x_set, ↓x_setO, ↓x_name, ↓x_gnil, ↓x_gcons, ↓x_gtup, ↓x_bin, ↓x_var, ↓x_varF, ↓x_c, ↓x_1, ↓x_B, ↓x_and, ↓x_or, ↓x_not, ↓x_andV, ↓x_orV, ↓x_notV, ↓x_if, ↓x_ifS, ↓x_ret, ↓x_lst, ↓x_tup, ↓x_acons, ↓x_anil, ↓x_aug, ↓y_setIx, ↓x_call, ↓x_callT, ↓x_callK, ↓x_callD, ↓x_chain, ↓x_sl, ↓x_oS, ↓x_oN, ↓x_rep, ↓y_store, ↓x_app, ↓y_popAt, ↓y_insert, ↓y_ext, ↓x_strM, ↓x_listM, ↓x_isi, ↓y_LE, ↓x_yes, ↓y_iList, ↓y_iTup, ↓x_iStr, ↓y_iEnum, ↓x_iRange1, ↓x_iRange2, ↓x_for, ↓x_while, ↓x_lc, ↓y_rev, ↓x_pNil, ↓x_pCons, ↓x_dict, ↓x_dict0, ↓x_dget, cs_t, cs_f, ex_s, sh1, get_fz, get_ow, get_br, brD_ow, brD_fz, fzd_fz, fzd_ow, fzd_br, jO_un, jO_fz, jO_ow, jO_no, intF_i, intF0_i, addF_i, addF_s, addF_l, addF_t, mulF, mulSF_s, ne0F_l, subF, fdivF, modF, powF, ltF_i, ltF_s, leF, gtF, geF, absF_i, maxF, minF, lenF_l, lenF_t, lenF_s, toIntF_i, toIntF_b, toListF_l, toListF_t, toTupF_l, toTupF_t, negF_i, cutF_l, cutF_t, cutF_s, isF_bb, isF_nn, isF_ln, isF_sn, isF_in, isF_tn, List.map_cons, List.map_nil, List.cons_append, List.nil_append, List.replicate, List.getElem?_cons_zero, List.getElem?_cons_succ, List.set_cons_zero, List.set_cons_succ, List.length_cons, List.length_nil, if_true, if_false, Bool.false_eq_true, true_and, and_true, reduceCtorEq, ixF_0, ixF_1, ixF_2, ixF_t0, ixF_t1, ixF_t2, ixn0, ixn1, eqF_s, eqF_i, neF_s, neF_i, eqF_l, eqF_t, neF_l, Option.some.injEq, G.E.ow.injEq, exists_eq_left', exists_eq_left, exists_eq', exists_const, and_self, ne_eq, not_false_eq_true, decide_true, decide_false, Bool.not_true, Bool.not_false, restE, wipeE, List.getD_eq_getElem?_getD, Option.getD_some, eqF_bb, neF_bb, ↓y_iRev, ↓x_sset, ↓x_lset, sortF_e, t3_f, t4_f, gtup3, gtup4, ixT3_0, ixT3_1, ixT3_2, ↓x_callB, ↓x_frz, ↓x_rnil, ↓x_rcons, argsD_n, argsD_c, consO_s, argD_f, argD_b, argB_l, argB_e, argB_f, noLR_e, noLR_t, noLR_a, noLR_i, noLR_b, noLR_s, noLR_n, ↓x_pop, eL_drop, eL_i1, ↓x_callN, isOw_o, ex_bd, en_epf, en_epb, ixFa_0, ixFa_1f, ixFa_1b, fs_a, fs_u, fs_f, fs_b, t3_i, t3_o, t3_c, t2_n, t3_n, ne0F_e, isF_fate, not_true_eq_false, Int.reduceSub, Int.reduceAdd, isL_l, isL_e, isT_t, isT_e, isOL_l, isOL_e, isL1_c, isInt_i, isSome_s, isOwL_l, isOwL_e, en_int, en_nat, en_bool, en_str, en_list, eL_1, eL_2, eL_3, eL_snoc, eL_snoc2, eL_app, eL_LL, eL_LL2, eL_LLs, addF_e, addF_t', addF_n, addF_n', lenF_e, lenF_e', toListF_e, toListF_e', toTupF_e, toTupF_e', cutF_e, cutF_e', cm_keep_skip, cm_keep_front, cm_keep_back, cm_front_skip, cm_front_front, cm_front_back, cm_back_skip, cm_back_front, cm_back_back, cm_remove_skip, cm_remove_front, cm_remove_back, nl0, nl1, nl2, nl3, nl4, nl5, nl6, nl7, nl8, nl9, nl10, nl11, nl12, Int.reduceEq, Int.reduceLT, Int.reduceLE, nat1c, natc1, natc2, natcA, cutA_btw, cutA_to, cutA_from, cutA_all, ixF_e0, ixF_e1, ixP_0, ixP_1, gtupP, pair_f, isF_Ln, isF_Tn, eqF_e, neF_e, inF_e, eqF_n, eqF_n', eqF_eL, neF_eL, eqF_eT, inF_nm, eL_pairs, pairs_e, rngD_e, eL_rev, eL_set, eL_erase, eL_ins, eL_ins', get_m, idx_len, sl0, sl1, sl2, sl3, sl4, sl5, sl6, sl7, sl8, sl9, sl10, sl11, sl12, en_keep, en_front, en_back, en_remove, en_skip, en_ofront, en_oback, en_inn, en_out, en_both, eqF_inn, eqF_out, eqF_both, neF_inn, neF_out, ixC_0, ixC_1, ixC_2, lenC, ixO_0, ixO_1, ixO_2, gtupC, gtupO, fate_a, fate_u, fate_f, fate_b, ent_i, ent_o, ent_b, inT_1, inT_2, inT_3, ofS, String.reduceEq, Bool.or_true, Bool.true_or, Bool.or_false, Bool.false_or, eq_self, ↓x_kill, ↓x_killN, ↓x_join, dropE_n, dropE_c, drop1_un, drop1_fz, drop1_ow, drop1_ot, Int.toNat_natCast, List.length_map, Option.map_some, Option.map_none]; exact h0 hk))
      · simp -dsimp only [↓x_seq, ↓x_next, ↓x_drop, ↓x_set, ↓x_setO, ↓x_name, ↓x_gnil, ↓x_gcons, ↓x_gtup, ↓x_bin, ↓x_var, ↓x_varF, ↓x_c, ↓x_1, ↓x_B, ↓x_and, ↓x_or, ↓x_not, ↓x_andV, ↓x_orV, ↓x_notV, ↓x_if, ↓x_ifS, ↓x_ret, ↓x_lst, ↓x_tup, ↓x_acons, ↓x_anil, ↓x_aug, ↓y_setIx, ↓x_call, ↓x_callT, ↓x_callK, ↓x_callD, ↓x_chain, ↓x_sl, ↓x_oS, ↓x_oN, ↓x_rep, ↓y_store, ↓x_app, ↓y_popAt, ↓y_insert, ↓y_ext, ↓x_strM, ↓x_listM, ↓x_isi, ↓y_LE, ↓x_yes, ↓y_iList, ↓y_iTup, ↓x_iStr, ↓y_iEnum, ↓x_iRange1, ↓x_iRange2, ↓x_for, ↓x_while, ↓x_lc, ↓y_rev, ↓x_pNil, ↓x_pCons, ↓x_dict, ↓x_dict0, ↓x_dget, cs_t, cs_f, ex_s, sh1, get_fz, get_ow, get_br, brD_ow, brD_fz, fzd_fz, fzd_ow, fzd_br, jO_un, jO_fz, jO_ow, jO_no, intF_i, intF0_i, addF_i, addF_s, addF_l, addF_t, mulF, mulSF_s, ne0F_l, subF, fdivF, modF, powF, ltF_i, ltF_s, leF, gtF, geF, absF_i, maxF, minF, lenF_l, lenF_t, lenF_s, toIntF_i, toIntF_b, toListF_l, toListF_t, toTupF_l, toTupF_t, negF_i, cutF_l, cutF_t, cutF_s, isF_bb, isF_nn, isF_ln, isF_sn, isF_in, isF_tn, List.map_cons, List.map_nil, List.cons_append, List.nil_append, List.replicate, List.getElem?_cons_zero, List.getElem?_cons_succ, List.set_cons_zero, List.set_cons_succ, List.length_cons, List.length_nil, if_true, if_false, Bool.false_eq_true, true_and, and_true, reduceCtorEq, ixF_0, ixF_1, ixF_2, ixF_t0, ixF_t1, ixF_t2, ixn0, ixn1, eqF_s, eqF_i, neF_s, neF_i, eqF_l, eqF_t, neF_l, Option.some.injEq, G.E.ow.injEq, exists_eq_left', exists_eq_left, exists_eq', exists_const, and_self, ne_eq, not_false_eq_true, decide_true, decide_false, Bool.not_true, Bool.not_false, restE, wipeE, List.getD_eq_getElem?_getD, Option.getD_some, eqF_bb, neF_bb, ↓y_iRev, ↓x_sset, ↓x_lset, sortF_e, t3_f, t4_f, gtup3, gtup4, ixT3_0, ixT3_1, ixT3_2, ↓x_callB, ↓x_frz, ↓x_rnil, ↓x_rcons, argsD_n, argsD_c, consO_s, argD_f, argD_b, argB_l, argB_e, argB_f, noLR_e, noLR_t, noLR_a, noLR_i, noLR_b, noLR_s, noLR_n, ↓x_pop, eL_drop, eL_i1, ↓x_callN, isOw_o, ex_bd, en_epf, en_epb, ixFa_0, ixFa_1f, ixFa_1b, fs_a, fs_u, fs_f, fs_b, t3_i, t3_o, t3_c, t2_n, t3_n, ne0F_e, isF_fate, not_true_eq_false, Int.reduceSub, Int.reduceAdd, isL_l, isL_e, isT_t, isT_e, isOL_l, isOL_e, isL1_c, isInt_i, isSome_s, isOwL_l, isOwL_e, en_int, en_nat, en_bool, en_str, en_list, eL_1, eL_2, eL_3, eL_snoc, eL_snoc2, eL_app, eL_LL, eL_LL2, eL_LLs, addF_e, addF_t', addF_n, addF_n', lenF_e, lenF_e', toListF_e, toListF_e', toTupF_e, toTupF_e', cutF_e, cutF_e', cm_keep_skip, cm_keep_front, cm_keep_back, cm_front_skip, cm_front_front, cm_front_back, cm_back_skip, cm_back_front, cm_back_back, cm_remove_skip, cm_remove_front, cm_remove_back, nl0, nl1, nl2, nl3, nl4, nl5, nl6, nl7, nl8, nl9, nl10, nl11, nl12, Int.reduceEq, Int.reduceLT, Int.reduceLE, nat1c, natc1, natc2, natcA, cutA_btw, cutA_to, cutA_from, cutA_all, ixF_e0, ixF_e1, ixP_0, ixP_1, gtupP, pair_f, isF_Ln, isF_Tn, eqF_e, neF_e, inF_e, eqF_n, eqF_n', eqF_eL, neF_eL, eqF_eT, inF_nm, eL_pairs, pairs_e, rngD_e, eL_rev, eL_set, eL_erase, eL_ins, eL_ins', get_m, idx_len, sl0, sl1, sl2, sl3, sl4, sl5, sl6, sl7, sl8, sl9, sl10, sl11, sl12, en_keep, en_front, en_back, en_remove, en_skip, en_ofront, en_oback, en_inn, en_out, en_both, eqF_inn, eqF_out, eqF_both, neF_inn, neF_out, ixC_0, ixC_1, ixC_2, lenC, ixO_0, ixO_1, ixO_2, gtupC, gtupO, fate_a, fate_u, fate_f, fate_b, ent_i, ent_o, ent_b, inT_1, inT_2, inT_3, ofS, String.reduceEq, Bool.or_true, Bool.true_or, Bool.or_false, Bool.false_or, eq_self, ↓x_kill, ↓x_killN, ↓x_join, dropE_n, dropE_c, drop1_un, drop1_fz, drop1_ow, drop1_ot, Int.toNat_natCast, List.length_map, Option.map_some, Option.map_none]
        first
        | exact ⟨_, rfl, (by first | decide | exact sz0 (by omega) | exact sz0 (by simp only [List.length_take, List.length_drop, List.length_cons, List.length_nil, List.length_append, List.length_map, List.length_reverse, List.length_range, idx_len]; omega) | exact sz1 (by omega) | exact sz1 (by simp only [List.length_take, List.length_drop, List.length_cons, List.length_nil, List.length_append, List.length_map, List.length_reverse, List.length_range, idx_len]; omega) | omega | (simp only [List.length_take, List.length_drop, List.length_cons, List.length_nil, List.length_append, List.length_map, List.length_reverse, List.length_range, idx_len]; omega)), hr⟩
        | exact ⟨(by first | decide | exact sz0 (by omega) | exact sz0 (by simp only [List.length_take, List.length_drop, List.length_cons, List.length_nil, List.length_append, List.length_map, List.length_reverse, List.length_range, idx_len]; omega) | exact sz1 (by omega) | exact sz1 (by simp only [List.length_take, List.length_drop, List.length_cons, List.length_nil, List.length_append, List.length_map, List.length_reverse, List.length_range, idx_len]; omega) | omega | (simp only [List.length_take, List.length_drop, List.length_cons, List.length_nil, List.length_append, List.length_map, List.length_reverse, List.length_range, idx_len]; omega)), _, rfl, (by first | decide | exact sz0 (by omega) | exact sz0 (by simp only [List.length_take, List.length_drop, List.length_cons, List.length_nil, List.length_append, List.length_map, List.length_reverse, List.length_range, idx_len]; omega) | exact sz1 (by omega) | exact sz1 (by simp only [List.length_take, List.length_drop, List.length_cons, List.length_nil, List.length_append, List.length_map, List.length_reverse, List.length_range, idx_len]; omega) | omega | (simp only [List.length_take, List.length_drop, List.length_cons, List.length_nil, List.length_append, List.length_map, List.length_reverse, List.length_range, idx_len]; omega)), hr⟩
  · rintro e ⟨q, rfl, hq, hr⟩
    simp -dsimp only [↓x_seq, ↓x_next, ↓x_drop, ↓x_set, ↓x_setO, ↓x_name, ↓x_gnil, ↓x_gcons, ↓x_gtup, ↓x_bin, ↓x_var, ↓x_varF, ↓x_c, ↓x_1, ↓x_B, ↓x_and, ↓x_or, ↓x_not, ↓x_andV, ↓x_orV, ↓x_notV, ↓x_if, ↓x_ifS, ↓x_ret, ↓x_lst, ↓x_tup, ↓x_acons, ↓x_anil, ↓x_aug, ↓y_setIx, ↓x_call, ↓x_callT, ↓x_callK, ↓x_callD, ↓x_chain, ↓x_sl, ↓x_oS, ↓x_oN, ↓x_rep, ↓y_store, ↓x_app, ↓y_popAt, ↓y_insert, ↓y_ext, ↓x_strM, ↓x_listM, ↓x_isi, ↓y_LE, ↓x_yes, ↓y_iList, ↓y_iTup, ↓x_iStr, ↓y_iEnum, ↓x_iRange1, ↓x_iRange2, ↓x_for, ↓x_while, ↓x_lc, ↓y_rev, ↓x_pNil, ↓x_pCons, ↓x_dict, ↓x_dict0, ↓x_dget, cs_t, cs_f, ex_s, sh1, get_fz, get_ow, get_br, brD_ow, brD_fz, fzd_fz, fzd_ow, fzd_br, jO_un, jO_fz, jO_ow, jO_no, intF_i, intF0_i, addF_i, addF_s, addF_l, addF_t, mulF, mulSF_s, ne0F_l, subF, fdivF, modF, powF, ltF_i, ltF_s, leF, gtF, geF, absF_i, maxF, minF, lenF_l, lenF_t, lenF_s, toIntF_i, toIntF_b, toListF_l, toListF_t, toTupF_l, toTupF_t, negF_i, cutF_l, cutF_t, cutF_s, isF_bb, isF_nn, isF_ln, isF_sn, isF_in, isF_tn, List.map_cons, List.map_nil, List.cons_append, List.nil_append, List.replicate, List.getElem?_cons_zero, List.getElem?_cons_succ, List.set_cons_zero, List.set_cons_succ, List.length_cons, List.length_nil, if_true, if_false, Bool.false_eq_true, true_and, and_true, reduceCtorEq, ixF_0, ixF_1, ixF_2, ixF_t0, ixF_t1, ixF_t2, ixn0, ixn1, eqF_s, eqF_i, neF_s, neF_i, eqF_l, eqF_t, neF_l, Option.some.injEq, G.E.ow.injEq, exists_eq_left', exists_eq_left, exists_eq', exists_const, and_self, ne_eq, not_false_eq_true, decide_true, decide_false, Bool.not_true, Bool.not_false, restE, wipeE, List.getD_eq_getElem?_getD, Option.getD_some, eqF_bb, neF_bb, ↓y_iRev, ↓x_sset, ↓x_lset, sortF_e, t3_f, t4_f, gtup3, gtup4, ixT3_0, ixT3_1, ixT3_2, ↓x_callB, ↓x_frz, ↓x_rnil, ↓x_rcons, argsD_n, argsD_c, consO_s, argD_f, argD_b, argB_l, argB_e, argB_f, noLR_e, noLR_t, noLR_a, noLR_i, noLR_b, noLR_s, noLR_n, ↓x_pop, eL_drop, eL_i1, ↓x_callN, isOw_o, ex_bd, en_epf, en_epb, ixFa_0, ixFa_1f, ixFa_1b, fs_a, fs_u, fs_f, fs_b, t3_i, t3_o, t3_c, t2_n, t3_n, ne0F_e, isF_fate, not_true_eq_false, Int.reduceSub, Int.reduceAdd, isL_l, isL_e, isT_t, isT_e, isOL_l, isOL_e, isL1_c, isInt_i, isSome_s, isOwL_l, isOwL_e, en_int, en_nat, en_bool, en_str, en_list, eL_1, eL_2, eL_3, eL_snoc, eL_snoc2, eL_app, eL_LL, eL_LL2, eL_LLs, addF_e, addF_t', addF_n, addF_n', lenF_e, lenF_e', toListF_e, toListF_e', toTupF_e, toTupF_e', cutF_e, cutF_e', cm_keep_skip, cm_keep_front, cm_keep_back, cm_front_skip, cm_front_front, cm_front_back, cm_back_skip, cm_back_front, cm_back_back, cm_remove_skip, cm_remove_front, cm_remove_back, nl0, nl1, nl2, nl3, nl4, nl5, nl6, nl7, nl8, nl9, nl10, nl11, nl12, Int.reduceEq, Int.reduceLT, Int.reduceLE, nat1c, natc1, natc2, natcA, cutA_btw, cutA_to, cutA_from, cutA_all, ixF_e0, ixF_e1, ixP_0, ixP_1, gtupP, pair_f, isF_Ln, isF_Tn, eqF_e, neF_e, inF_e, eqF_n, eqF_n', eqF_eL, neF_eL, eqF_eT, inF_nm, eL_pairs, pairs_e, rngD_e, eL_rev, eL_set, eL_erase, eL_ins, eL_ins', get_m, idx_len, sl0, sl1, sl2, sl3, sl4, sl5, sl6, sl7, sl8, sl9, sl10, sl11, sl12, en_keep, en_front, en_back, en_remove, en_skip, en_ofront, en_oback, en_inn, en_out, en_both, eqF_inn, eqF_out, eqF_both, neF_inn, neF_out, ixC_0, ixC_1, ixC_2, lenC, ixO_0, ixO_1, ixO_2, gtupC, gtupO, fate_a, fate_u, fate_f, fate_b, ent_i, ent_o, ent_b, inT_1, inT_2, inT_3, ofS, String.reduceEq, Bool.or_true, Bool.true_or, Bool.or_false, Bool.false_or, eq_self, ↓x_kill, ↓x_killN, ↓x_join, dropE_n, dropE_c, drop1_un, drop1_fz, drop1_ow, drop1_ot, Int.toNat_natCast, List.length_map, Option.map_some, Option.map_none]
    cases hr
    exact hP
/-! ### _law_is_integer -/
def S_law_is_integer (ds : List D) (P : R → Prop) : Prop := ∃ i : Int, ds = [.int i, .int i] ∧ P (.fz (.bool true))
theorem isint_n {i : Int} {P : R → Prop} (k : P (.fz (.bool true))) : S_law_is_integer [.int i, .int i] P := ⟨i, rfl, k⟩
set_option maxHeartbeats 4000000 in
theorem ok_law_is_integer (T : Tx K mg) : FnG P w K mg base 1 T.f_law_is_integer T.fd_law_is_integer 2 ["_law_value", "_law_expected"] (spF K 2 S_law_is_integer) := by
  refine fn_F (m := 0) T.F_law_is_integer sc_law_is_integer rfl rfl fun {cdv A outer s H E} g room ds PP hl hS => ?_
  refine ⟨_, _, (gb_one (gs_ret (ge_and (ge_isi (T := "int") rfl T.z_isinstance rfl T.z_int (by decide +kernel) (ge_var 0)) (ge_and (ge_not (ge_isi (T := "bool") rfl T.z_isinstance rfl T.z_bool (by decide +kernel) (ge_var 0))) (ge_one (ge_cmp (op_eqG (plenty room)) sr_eq (nomark _) (ge_var 0) (ge_var 1))))))), ?_⟩
  obtain ⟨i, rfl, hP⟩ := hS
  simp -dsimp only [↓x_seq, ↓x_next, ↓x_drop, ↓x_set, ↓x_setO, ↓x_name, ↓x_gnil, ↓x_gcons, ↓x_gtup, ↓x_bin, ↓x_var, ↓x_varF, ↓x_c, ↓x_1, ↓x_B, ↓x_and, ↓x_or, ↓x_not, ↓x_andV, ↓x_orV, ↓x_notV, ↓x_if, ↓x_ifS, ↓x_ret, ↓x_lst, ↓x_tup, ↓x_acons, ↓x_anil, ↓x_aug, ↓y_setIx, ↓x_call, ↓x_callT, ↓x_callK, ↓x_callD, ↓x_chain, ↓x_sl, ↓x_oS, ↓x_oN, ↓x_rep, ↓y_store, ↓x_app, ↓y_popAt, ↓y_insert, ↓y_ext, ↓x_strM, ↓x_listM, ↓x_isi, ↓y_LE, ↓x_yes, ↓y_iList, ↓y_iTup, ↓x_iStr, ↓y_iEnum, ↓x_iRange1, ↓x_iRange2, ↓x_for, ↓x_while, ↓x_lc, ↓y_rev, ↓x_pNil, ↓x_pCons, ↓x_dict, ↓x_dict0, ↓x_dget, cs_t, cs_f, ex_s, sh1, get_fz, get_ow, get_br, brD_ow, brD_fz, fzd_fz, fzd_ow, fzd_br, jO_un, jO_fz, jO_ow, jO_no, intF_i, intF0_i, addF_i, addF_s, addF_l, addF_t, mulF, mulSF_s, ne0F_l, subF, fdivF, modF, powF, ltF_i, ltF_s, leF, gtF, geF, absF_i, maxF, minF, lenF_l, lenF_t, lenF_s, toIntF_i, toIntF_b, toListF_l, toListF_t, toTupF_l, toTupF_t, negF_i, cutF_l, cutF_t, cutF_s, isF_bb, isF_nn, isF_ln, isF_sn, isF_in, isF_tn, List.map_cons, List.map_nil, List.cons_append, List.nil_append, List.replicate, List.getElem?_cons_zero, List.getElem?_cons_succ, List.set_cons_zero, List.set_cons_succ, List.length_cons, List.length_nil, if_true, if_false, Bool.false_eq_true, true_and, and_true, reduceCtorEq, ixF_0, ixF_1, ixF_2, ixF_t0, ixF_t1, ixF_t2, ixn0, ixn1, eqF_s, eqF_i, neF_s, neF_i, eqF_l, eqF_t, neF_l, Option.some.injEq, G.E.ow.injEq, exists_eq_left', exists_eq_left, exists_eq', exists_const, and_self, ne_eq, not_false_eq_true, decide_true, decide_false, Bool.not_true, Bool.not_false, restE, wipeE, List.getD_eq_getElem?_getD, Option.getD_some, eqF_bb, neF_bb, ↓y_iRev, ↓x_sset, ↓x_lset, sortF_e, t3_f, t4_f, gtup3, gtup4, ixT3_0, ixT3_1, ixT3_2, ↓x_callB, ↓x_frz, ↓x_rnil, ↓x_rcons, argsD_n, argsD_c, consO_s, argD_f, argD_b, argB_l, argB_e, argB_f, noLR_e, noLR_t, noLR_a, noLR_i, noLR_b, noLR_s, noLR_n, ↓x_pop, eL_drop, eL_i1, ↓x_callN, isOw_o, ex_bd, en_epf, en_epb, ixFa_0, ixFa_1f, ixFa_1b, fs_a, fs_u, fs_f, fs_b, t3_i, t3_o, t3_c, t2_n, t3_n, ne0F_e, isF_fate, not_true_eq_false, Int.reduceSub, Int.reduceAdd, isL_l, isL_e, isT_t, isT_e, isOL_l, isOL_e, isL1_c, isInt_i, isSome_s, isOwL_l, isOwL_e, en_int, en_nat, en_bool, en_str, en_list, eL_1, eL_2, eL_3, eL_snoc, eL_snoc2, eL_app, eL_LL, eL_LL2, eL_LLs, addF_e, addF_t', addF_n, addF_n', lenF_e, lenF_e', toListF_e, toListF_e', toTupF_e, toTupF_e', cutF_e, cutF_e', cm_keep_skip, cm_keep_front, cm_keep_back, cm_front_skip, cm_front_front, cm_front_back, cm_back_skip, cm_back_front, cm_back_back, cm_remove_skip, cm_remove_front, cm_remove_back, nl0, nl1, nl2, nl3, nl4, nl5, nl6, nl7, nl8, nl9, nl10, nl11, nl12, Int.reduceEq, Int.reduceLT, Int.reduceLE, nat1c, natc1, natc2, natcA, cutA_btw, cutA_to, cutA_from, cutA_all, ixF_e0, ixF_e1, ixP_0, ixP_1, gtupP, pair_f, isF_Ln, isF_Tn, eqF_e, neF_e, inF_e, eqF_n, eqF_n', eqF_eL, neF_eL, eqF_eT, inF_nm, eL_pairs, pairs_e, rngD_e, eL_rev, eL_set, eL_erase, eL_ins, eL_ins', get_m, idx_len, sl0, sl1, sl2, sl3, sl4, sl5, sl6, sl7, sl8, sl9, sl10, sl11, sl12, en_keep, en_front, en_back, en_remove, en_skip, en_ofront, en_oback, en_inn, en_out, en_both, eqF_inn, eqF_out, eqF_both, neF_inn, neF_out, ixC_0, ixC_1, ixC_2, lenC, ixO_0, ixO_1, ixO_2, gtupC, gtupO, fate_a, fate_u, fate_f, fate_b, ent_i, ent_o, ent_b, inT_1, inT_2, inT_3, ofS, String.reduceEq, Bool.or_true, Bool.true_or, Bool.or_false, Bool.false_or, eq_self, ↓x_kill, ↓x_killN, ↓x_join, dropE_n, dropE_c, drop1_un, drop1_fz, drop1_ow, drop1_ot, Int.toNat_natCast, List.length_map, Option.map_some, Option.map_none]
  refine ex_i (x := true) rfl ?_
  simp -dsimp only [↓x_seq, ↓x_next, ↓x_drop, ↓x_set, ↓x_setO, ↓x_name, ↓x_gnil, ↓x_gcons, ↓x_gtup, ↓x_bin, ↓x_var, ↓x_varF, ↓x_c, ↓x_1, ↓x_B, ↓x_and, ↓x_or, ↓x_not, ↓x_andV, ↓x_orV, ↓x_notV, ↓x_if, ↓x_ifS, ↓x_ret, ↓x_lst, ↓x_tup, ↓x_acons, ↓x_anil, ↓x_aug, ↓y_setIx, ↓x_call, ↓x_callT, ↓x_callK, ↓x_callD, ↓x_chain, ↓x_sl, ↓x_oS, ↓x_oN, ↓x_rep, ↓y_store, ↓x_app, ↓y_popAt, ↓y_insert, ↓y_ext, ↓x_strM, ↓x_listM, ↓x_isi, ↓y_LE, ↓x_yes, ↓y_iList, ↓y_iTup, ↓x_iStr, ↓y_iEnum, ↓x_iRange1, ↓x_iRange2, ↓x_for, ↓x_while, ↓x_lc, ↓y_rev, ↓x_pNil, ↓x_pCons, ↓x_dict, ↓x_dict0, ↓x_dget, cs_t, cs_f, ex_s, sh1, get_fz, get_ow, get_br, brD_ow, brD_fz, fzd_fz, fzd_ow, fzd_br, jO_un, jO_fz, jO_ow, jO_no, intF_i, intF0_i, addF_i, addF_s, addF_l, addF_t, mulF, mulSF_s, ne0F_l, subF, fdivF, modF, powF, ltF_i, ltF_s, leF, gtF, geF, absF_i, maxF, minF, lenF_l, lenF_t, lenF_s, toIntF_i, toIntF_b, toListF_l, toListF_t, toTupF_l, toTupF_t, negF_i, cutF_l, cutF_t, cutF_s, isF_bb, isF_nn, isF_ln, isF_sn, isF_in, isF_tn, List.map_cons, List.map_nil, List.cons_append, List.nil_append, List.replicate, List.getElem?_cons_zero, List.getElem?_cons_succ, List.set_cons_zero, List.set_cons_succ, List.length_cons, List.length_nil, if_true, if_false, Bool.false_eq_true, true_and, and_true, reduceCtorEq, ixF_0, ixF_1, ixF_2, ixF_t0, ixF_t1, ixF_t2, ixn0, ixn1, eqF_s, eqF_i, neF_s, neF_i, eqF_l, eqF_t, neF_l, Option.some.injEq, G.E.ow.injEq, exists_eq_left', exists_eq_left, exists_eq', exists_const, and_self, ne_eq, not_false_eq_true, decide_true, decide_false, Bool.not_true, Bool.not_false, restE, wipeE, List.getD_eq_getElem?_getD, Option.getD_some, eqF_bb, neF_bb, ↓y_iRev, ↓x_sset, ↓x_lset, sortF_e, t3_f, t4_f, gtup3, gtup4, ixT3_0, ixT3_1, ixT3_2, ↓x_callB, ↓x_frz, ↓x_rnil, ↓x_rcons, argsD_n, argsD_c, consO_s, argD_f, argD_b, argB_l, argB_e, argB_f, noLR_e, noLR_t, noLR_a, noLR_i, noLR_b, noLR_s, noLR_n, ↓x_pop, eL_drop, eL_i1, ↓x_callN, isOw_o, ex_bd, en_epf, en_epb, ixFa_0, ixFa_1f, ixFa_1b, fs_a, fs_u, fs_f, fs_b, t3_i, t3_o, t3_c, t2_n, t3_n, ne0F_e, isF_fate, not_true_eq_false, Int.reduceSub, Int.reduceAdd, isL_l, isL_e, isT_t, isT_e, isOL_l, isOL_e, isL1_c, isInt_i, isSome_s, isOwL_l, isOwL_e, en_int, en_nat, en_bool, en_str, en_list, eL_1, eL_2, eL_3, eL_snoc, eL_snoc2, eL_app, eL_LL, eL_LL2, eL_LLs, addF_e, addF_t', addF_n, addF_n', lenF_e, lenF_e', toListF_e, toListF_e', toTupF_e, toTupF_e', cutF_e, cutF_e', cm_keep_skip, cm_keep_front, cm_keep_back, cm_front_skip, cm_front_front, cm_front_back, cm_back_skip, cm_back_front, cm_back_back, cm_remove_skip, cm_remove_front, cm_remove_back, nl0, nl1, nl2, nl3, nl4, nl5, nl6, nl7, nl8, nl9, nl10, nl11, nl12, Int.reduceEq, Int.reduceLT, Int.reduceLE, nat1c, natc1, natc2, natcA, cutA_btw, cutA_to, cutA_from, cutA_all, ixF_e0, ixF_e1, ixP_0, ixP_1, gtupP, pair_f, isF_Ln, isF_Tn, eqF_e, neF_e, inF_e, eqF_n, eqF_n', eqF_eL, neF_eL, eqF_eT, inF_nm, eL_pairs, pairs_e, rngD_e, eL_rev, eL_set, eL_erase, eL_ins, eL_ins', get_m, idx_len, sl0, sl1, sl2, sl3, sl4, sl5, sl6, sl7, sl8, sl9, sl10, sl11, sl12, en_keep, en_front, en_back, en_remove, en_skip, en_ofront, en_oback, en_inn, en_out, en_both, eqF_inn, eqF_out, eqF_both, neF_inn, neF_out, ixC_0, ixC_1, ixC_2, lenC, ixO_0, ixO_1, ixO_2, gtupC, gtupO, fate_a, fate_u, fate_f, fate_b, ent_i, ent_o, ent_b, inT_1, inT_2, inT_3, ofS, String.reduceEq, Bool.or_true, Bool.true_or, Bool.or_false, Bool.false_or, eq_self, ↓x_kill, ↓x_killN, ↓x_join, dropE_n, dropE_c, drop1_un, drop1_fz, drop1_ow, drop1_ot, Int.toNat_natCast, List.length_map, Option.map_some, Option.map_none]
  refine ex_i (x := false) rfl ?_
  simp -dsimp only [↓x_seq, ↓x_next, ↓x_drop, ↓x_set, ↓x_setO, ↓x_name, ↓x_gnil, ↓x_gcons, ↓x_gtup, ↓x_bin, ↓x_var, ↓x_varF, ↓x_c, ↓x_1, ↓x_B, ↓x_and, ↓x_or, ↓x_not, ↓x_andV, ↓x_orV, ↓x_notV, ↓x_if, ↓x_ifS, ↓x_ret, ↓x_lst, ↓x_tup, ↓x_acons, ↓x_anil, ↓x_aug, ↓y_setIx, ↓x_call, ↓x_callT, ↓x_callK, ↓x_callD, ↓x_chain, ↓x_sl, ↓x_oS, ↓x_oN, ↓x_rep, ↓y_store, ↓x_app, ↓y_popAt, ↓y_insert, ↓y_ext, ↓x_strM, ↓x_listM, ↓x_isi, ↓y_LE, ↓x_yes, ↓y_iList, ↓y_iTup, ↓x_iStr, ↓y_iEnum, ↓x_iRange1, ↓x_iRange2, ↓x_for, ↓x_while, ↓x_lc, ↓y_rev, ↓x_pNil, ↓x_pCons, ↓x_dict, ↓x_dict0, ↓x_dget, cs_t, cs_f, ex_s, sh1, get_fz, get_ow, get_br, brD_ow, brD_fz, fzd_fz, fzd_ow, fzd_br, jO_un, jO_fz, jO_ow, jO_no, intF_i, intF0_i, addF_i, addF_s, addF_l, addF_t, mulF, mulSF_s, ne0F_l, subF, fdivF, modF, powF, ltF_i, ltF_s, leF, gtF, geF, absF_i, maxF, minF, lenF_l, lenF_t, lenF_s, toIntF_i, toIntF_b, toListF_l, toListF_t, toTupF_l, toTupF_t, negF_i, cutF_l, cutF_t, cutF_s, isF_bb, isF_nn, isF_ln, isF_sn, isF_in, isF_tn, List.map_cons, List.map_nil, List.cons_append, List.nil_append, List.replicate, List.getElem?_cons_zero, List.getElem?_cons_succ, List.set_cons_zero, List.set_cons_succ, List.length_cons, List.length_nil, if_true, if_false, Bool.false_eq_true, true_and, and_true, reduceCtorEq, ixF_0, ixF_1, ixF_2, ixF_t0, ixF_t1, ixF_t2, ixn0, ixn1, eqF_s, eqF_i, neF_s, neF_i, eqF_l, eqF_t, neF_l, Option.some.injEq, G.E.ow.injEq, exists_eq_left', exists_eq_left, exists_eq', exists_const, and_self, ne_eq, not_false_eq_true, decide_true, decide_false, Bool.not_true, Bool.not_false, restE, wipeE, List.getD_eq_getElem?_getD, Option.getD_some, eqF_bb, neF_bb, ↓y_iRev, ↓x_sset, ↓x_lset, sortF_e, t3_f, t4_f, gtup3, gtup4, ixT3_0, ixT3_1, ixT3_2, ↓x_callB, ↓x_frz, ↓x_rnil, ↓x_rcons, argsD_n, argsD_c, consO_s, argD_f, argD_b, argB_l, argB_e, argB_f, noLR_e, noLR_t, noLR_a, noLR_i, noLR_b, noLR_s, noLR_n, ↓x_pop, eL_drop, eL_i1, ↓x_callN, isOw_o, ex_bd, en_epf, en_epb, ixFa_0, ixFa_1f, ixFa_1b, fs_a, fs_u, fs_f, fs_b, t3_i, t3_o, t3_c, t2_n, t3_n, ne0F_e, isF_fate, not_true_eq_false, Int.reduceSub, Int.reduceAdd, isL_l, isL_e, isT_t, isT_e, isOL_l, isOL_e, isL1_c, isInt_i, isSome_s, isOwL_l, isOwL_e, en_int, en_nat, en_bool, en_str, en_list, eL_1, eL_2, eL_3, eL_snoc, eL_snoc2, eL_app, eL_LL, eL_LL2, eL_LLs, addF_e, addF_t', addF_n, addF_n', lenF_e, lenF_e', toListF_e, toListF_e', toTupF_e, toTupF_e', cutF_e, cutF_e', cm_keep_skip, cm_keep_front, cm_keep_back, cm_front_skip, cm_front_front, cm_front_back, cm_back_skip, cm_back_front, cm_back_back, cm_remove_skip, cm_remove_front, cm_remove_back, nl0, nl1, nl2, nl3, nl4, nl5, nl6, nl7, nl8, nl9, nl10, nl11, nl12, Int.reduceEq, Int.reduceLT, Int.reduceLE, nat1c, natc1, natc2, natcA, cutA_btw, cutA_to, cutA_from, cutA_all, ixF_e0, ixF_e1, ixP_0, ixP_1, gtupP, pair_f, isF_Ln, isF_Tn, eqF_e, neF_e, inF_e, eqF_n, eqF_n', eqF_eL, neF_eL, eqF_eT, inF_nm, eL_pairs, pairs_e, rngD_e, eL_rev, eL_set, eL_erase, eL_ins, eL_ins', get_m, idx_len, sl0, sl1, sl2, sl3, sl4, sl5, sl6, sl7, sl8, sl9, sl10, sl11, sl12, en_keep, en_front, en_back, en_remove, en_skip, en_ofront, en_oback, en_inn, en_out, en_both, eqF_inn, eqF_out, eqF_both, neF_inn, neF_out, ixC_0, ixC_1, ixC_2, lenC, ixO_0, ixO_1, ixO_2, gtupC, gtupO, fate_a, fate_u, fate_f, fate_b, ent_i, ent_o, ent_b, inT_1, inT_2, inT_3, ofS, String.reduceEq, Bool.or_true, Bool.true_or, Bool.or_false, Bool.false_or, eq_self, ↓x_kill, ↓x_killN, ↓x_join, dropE_n, dropE_c, drop1_un, drop1_fz, drop1_ow, drop1_ot, Int.toNat_natCast, List.length_map, Option.map_some, Option.map_none]
  exact hP
/-! ### _law_commands -/
def S_law_commands (ds : List D) (P : R → Prop) : Prop := ∃ (ns : List Nm), ds = [eL ns] ∧ ns.length ≤ 3 ∧ P (.ow (eL (cmdsOf ns)))
theorem commands_n {ns : List Nm} {P : R → Prop} (h : ns.length ≤ 3) (k : P (.ow (eL (cmdsOf ns)))) : S_law_commands [eL ns] P := ⟨ns, rfl, h, k⟩
set_option maxHeartbeats 4000000 in
theorem ok_law_commands (T : Tx K mg) : FnG P w K mg base 1 T.f_law_commands T.fd_law_commands 1 ["_law_names_here"] (spF K 1 S_law_commands) := by
  refine fn_F (m := 4) T.F_law_commands sc_law_commands rfl rfl fun {cdv A outer s H E} g room ds PP hl hS => ?_
  refine ⟨_, _, (gb_cons (gs_setO (i := 1) (ge_lst ga_nil) sc_law_commands.nd)
      (gb_kill [2, 3] (gb_cons (gs_for PassesOwn.never rfl (gi_list (ge_var 0)) (gg_name 2 sc_law_commands.nd)
      (gb_killN [2, 3] (gb_kill [3] (gb_one (gs_for PassesOwn.never rfl (gi_tup (ge_tup (ga_cons ge_str (ga_cons ge_str (ga_cons ge_str (ga_cons ge_str ga_nil)))))) (gg_name 3 sc_law_commands.nd)
      (gb_killN [3] (gb_one (gs_expr (ge_extend 1 (ge_lc rfl sc_law_commands.nd (gi_tup (ge_tup (ga_cons ge_str (ga_cons ge_str (ga_cons ge_str ga_nil))))) (blkOk_by (own := [("_law_if_out", 4)]) (N := N_law_commands) (sc := defScope s_law_commands) (by decide +kernel)) (fun _ _ _ _ _ => by exact (gg_name 4 sc_law_commands.nd)) (fun _ _ _ _ _ => by refine ⟨_, gts_nil, ?_⟩; first | (dsimp only [Cx.blk]; done) | (dsimp only [Cx.blk]; exact rfl) | exact rfl) (fun _ _ _ _ _ => by refine ⟨_, (ge_tup (ga_cons (ge_var 2) (ga_cons (ge_var 3) (ga_cons (ge_var 4) ga_nil)))), ?_⟩; first | (dsimp only [Cx.blk]; done) | (dsimp only [Cx.blk]; exact rfl) | exact rfl)))))))))))
      (gb_one (gs_ret (ge_var 1)))))), ?_⟩
  obtain ⟨ns, rfl, hn, hP⟩ := hS
  simp -dsimp only [↓x_seq, ↓x_next, ↓x_drop, ↓x_set, ↓x_setO, ↓x_name, ↓x_gnil, ↓x_gcons, ↓x_gtup, ↓x_bin, ↓x_var, ↓x_varF, ↓x_c, ↓x_1, ↓x_B, ↓x_and, ↓x_or, ↓x_not, ↓x_andV, ↓x_orV, ↓x_notV, ↓x_if, ↓x_ifS, ↓x_ret, ↓x_lst, ↓x_tup, ↓x_acons, ↓x_anil, ↓x_aug, ↓y_setIx, ↓x_call, ↓x_callT, ↓x_callK, ↓x_callD, ↓x_chain, ↓x_sl, ↓x_oS, ↓x_oN, ↓x_rep, ↓y_store, ↓x_app, ↓y_popAt, ↓y_insert, ↓y_ext, ↓x_strM, ↓x_listM, ↓x_isi, ↓y_LE, ↓x_yes, ↓y_iList, ↓y_iTup, ↓x_iStr, ↓y_iEnum, ↓x_iRange1, ↓x_iRange2, ↓x_for, ↓x_while, ↓x_lc, ↓y_rev, ↓x_pNil, ↓x_pCons, ↓x_dict, ↓x_dict0, ↓x_dget, cs_t, cs_f, ex_s, sh1, get_fz, get_ow, get_br, brD_ow, brD_fz, fzd_fz, fzd_ow, fzd_br, jO_un, jO_fz, jO_ow, jO_no, intF_i, intF0_i, addF_i, addF_s, addF_l, addF_t, mulF, mulSF_s, ne0F_l, subF, fdivF, modF, powF, ltF_i, ltF_s, leF, gtF, geF, absF_i, maxF, minF, lenF_l, lenF_t, lenF_s, toIntF_i, toIntF_b, toListF_l, toListF_t, toTupF_l, toTupF_t, negF_i, cutF_l, cutF_t, cutF_s, isF_bb, isF_nn, isF_ln, isF_sn, isF_in, isF_tn, List.map_cons, List.map_nil, List.cons_append, List.nil_append, List.replicate, List.getElem?_cons_zero, List.getElem?_cons_succ, List.set_cons_zero, List.set_cons_succ, List.length_cons, List.length_nil, if_true, if_false, Bool.false_eq_true, true_and, and_true, reduceCtorEq, ixF_0, ixF_1, ixF_2, ixF_t0, ixF_t1, ixF_t2, ixn0, ixn1, eqF_s, eqF_i, neF_s, neF_i, eqF_l, eqF_t, neF_l, Option.some.injEq, G.E.ow.injEq, exists_eq_left', exists_eq_left, exists_eq', exists_const, and_self, ne_eq, not_false_eq_true, decide_true, decide_false, Bool.not_true, Bool.not_false, restE, wipeE, List.getD_eq_getElem?_getD, Option.getD_some, eqF_bb, neF_bb, ↓y_iRev, ↓x_sset, ↓x_lset, sortF_e, t3_f, t4_f, gtup3, gtup4, ixT3_0, ixT3_1, ixT3_2, ↓x_callB, ↓x_frz, ↓x_rnil, ↓x_rcons, argsD_n, argsD_c, consO_s, argD_f, argD_b, argB_l, argB_e, argB_f, noLR_e, noLR_t, noLR_a, noLR_i, noLR_b, noLR_s, noLR_n, ↓x_pop, eL_drop, eL_i1, ↓x_callN, isOw_o, ex_bd, en_epf, en_epb, ixFa_0, ixFa_1f, ixFa_1b, fs_a, fs_u, fs_f, fs_b, t3_i, t3_o, t3_c, t2_n, t3_n, ne0F_e, isF_fate, not_true_eq_false, Int.reduceSub, Int.reduceAdd, isL_l, isL_e, isT_t, isT_e, isOL_l, isOL_e, isL1_c, isInt_i, isSome_s, isOwL_l, isOwL_e, en_int, en_nat, en_bool, en_str, en_list, eL_1, eL_2, eL_3, eL_snoc, eL_snoc2, eL_app, eL_LL, eL_LL2, eL_LLs, addF_e, addF_t', addF_n, addF_n', lenF_e, lenF_e', toListF_e, toListF_e', toTupF_e, toTupF_e', cutF_e, cutF_e', cm_keep_skip, cm_keep_front, cm_keep_back, cm_front_skip, cm_front_front, cm_front_back, cm_back_skip, cm_back_front, cm_back_back, cm_remove_skip, cm_remove_front, cm_remove_back, nl0, nl1, nl2, nl3, nl4, nl5, nl6, nl7, nl8, nl9, nl10, nl11, nl12, Int.reduceEq, Int.reduceLT, Int.reduceLE, nat1c, natc1, natc2, natcA, cutA_btw, cutA_to, cutA_from, cutA_all, ixF_e0, ixF_e1, ixP_0, ixP_1, gtupP, pair_f, isF_Ln, isF_Tn, eqF_e, neF_e, inF_e, eqF_n, eqF_n', eqF_eL, neF_eL, eqF_eT, inF_nm, eL_pairs, pairs_e, rngD_e, eL_rev, eL_set, eL_erase, eL_ins, eL_ins', get_m, idx_len, sl0, sl1, sl2, sl3, sl4, sl5, sl6, sl7, sl8, sl9, sl10, sl11, sl12, en_keep, en_front, en_back, en_remove, en_skip, en_ofront, en_oback, en_inn, en_out, en_both, eqF_inn, eqF_out, eqF_both, neF_inn, neF_out, ixC_0, ixC_1, ixC_2, lenC, ixO_0, ixO_1, ixO_2, gtupC, gtupO, fate_a, fate_u, fate_f, fate_b, ent_i, ent_o, ent_b, inT_1, inT_2, inT_3, ofS, String.reduceEq, Bool.or_true, Bool.true_or, Bool.or_false, Bool.false_or, eq_self, ↓x_kill, ↓x_killN, ↓x_join, dropE_n, dropE_c, drop1_un, drop1_fz, drop1_ow, drop1_ot, Int.toNat_natCast, List.length_map, Option.map_some, Option.map_none]
  refine for_t (xs := ns) (fun l e => ∃ acc : List Cm, e = [(.fz (eL ns) : G.E), (.ow false (eL acc) : G.E), .un, .un, .un] ∧ acc.length + 12 * l.length ≤ 36 ∧ acc ++ l.flatMap (fun n => insL.flatMap (cmdsAt n)) = cmdsOf ns) ⟨[], rfl, by simp only [List.length_nil]; omega, rfl⟩ ?_ ?_
  · rintro n l e ⟨acc, rfl, ha, he⟩
    rw [List.length_cons] at ha
    rw [List.flatMap_cons, ← List.append_assoc] at he
    simp -dsimp only [↓x_seq, ↓x_next, ↓x_drop, ↓x_set, ↓x_setO, ↓x_name, ↓x_gnil, ↓x_gcons, ↓x_gtup, ↓x_bin, ↓x_var, ↓x_varF, ↓x_c, ↓x_1, ↓x_B, ↓x_and, ↓x_or, ↓x_not, ↓x_andV, ↓x_orV, ↓x_notV, ↓x_if, ↓x_ifS, ↓x_ret, ↓x_lst, ↓x_tup, ↓x_acons, ↓x_anil, ↓x_aug, ↓y_setIx, ↓x_call, ↓x_callT, ↓x_callK, ↓x_callD, ↓x_chain, ↓x_sl, ↓x_oS, ↓x_oN, ↓x_rep, ↓y_store, ↓x_app, ↓y_popAt, ↓y_insert, ↓y_ext, ↓x_strM, ↓x_listM, ↓x_isi, ↓y_LE, ↓x_yes, ↓y_iList, ↓y_iTup, ↓x_iStr, ↓y_iEnum, ↓x_iRange1, ↓x_iRange2, ↓x_for, ↓x_while, ↓x_lc, ↓y_rev, ↓x_pNil, ↓x_pCons, ↓x_dict, ↓x_dict0, ↓x_dget, cs_t, cs_f, ex_s, sh1, get_fz, get_ow, get_br, brD_ow, brD_fz, fzd_fz, fzd_ow, fzd_br, jO_un, jO_fz, jO_ow, jO_no, intF_i, intF0_i, addF_i, addF_s, addF_l, addF_t, mulF, mulSF_s, ne0F_l, subF, fdivF, modF, powF, ltF_i, ltF_s, leF, gtF, geF, absF_i, maxF, minF, lenF_l, lenF_t, lenF_s, toIntF_i, toIntF_b, toListF_l, toListF_t, toTupF_l, toTupF_t, negF_i, cutF_l, cutF_t, cutF_s, isF_bb, isF_nn, isF_ln, isF_sn, isF_in, isF_tn, List.map_cons, List.map_nil, List.cons_append, List.nil_append, List.replicate, List.getElem?_cons_zero, List.getElem?_cons_succ, List.set_cons_zero, List.set_cons_succ, List.length_cons, List.length_nil, if_true, if_false, Bool.false_eq_true, true_and, and_true, reduceCtorEq, ixF_0, ixF_1, ixF_2, ixF_t0, ixF_t1, ixF_t2, ixn0, ixn1, eqF_s, eqF_i, neF_s, neF_i, eqF_l, eqF_t, neF_l, Option.some.injEq, G.E.ow.injEq, exists_eq_left', exists_eq_left, exists_eq', exists_const, and_self, ne_eq, not_false_eq_true, decide_true, decide_false, Bool.not_true, Bool.not_false, restE, wipeE, List.getD_eq_getElem?_getD, Option.getD_some, eqF_bb, neF_bb, ↓y_iRev, ↓x_sset, ↓x_lset, sortF_e, t3_f, t4_f, gtup3, gtup4, ixT3_0, ixT3_1, ixT3_2, ↓x_callB, ↓x_frz, ↓x_rnil, ↓x_rcons, argsD_n, argsD_c, consO_s, argD_f, argD_b, argB_l, argB_e, argB_f, noLR_e, noLR_t, noLR_a, noLR_i, noLR_b, noLR_s, noLR_n, ↓x_pop, eL_drop, eL_i1, ↓x_callN, isOw_o, ex_bd, en_epf, en_epb, ixFa_0, ixFa_1f, ixFa_1b, fs_a, fs_u, fs_f, fs_b, t3_i, t3_o, t3_c, t2_n, t3_n, ne0F_e, isF_fate, not_true_eq_false, Int.reduceSub, Int.reduceAdd, isL_l, isL_e, isT_t, isT_e, isOL_l, isOL_e, isL1_c, isInt_i, isSome_s, isOwL_l, isOwL_e, en_int, en_nat, en_bool, en_str, en_list, eL_1, eL_2, eL_3, eL_snoc, eL_snoc2, eL_app, eL_LL, eL_LL2, eL_LLs, addF_e, addF_t', addF_n, addF_n', lenF_e, lenF_e', toListF_e, toListF_e', toTupF_e, toTupF_e', cutF_e, cutF_e', cm_keep_skip, cm_keep_front, cm_keep_back, cm_front_skip, cm_front_front, cm_front_back, cm_back_skip, cm_back_front, cm_back_back, cm_remove_skip, cm_remove_front, cm_remove_back, nl0, nl1, nl2, nl3, nl4, nl5, nl6, nl7, nl8, nl9, nl10, nl11, nl12, Int.reduceEq, Int.reduceLT, Int.reduceLE, nat1c, natc1, natc2, natcA, cutA_btw, cutA_to, cutA_from, cutA_all, ixF_e0, ixF_e1, ixP_0, ixP_1, gtupP, pair_f, isF_Ln, isF_Tn, eqF_e, neF_e, inF_e, eqF_n, eqF_n', eqF_eL, neF_eL, eqF_eT, inF_nm, eL_pairs, pairs_e, rngD_e, eL_rev, eL_set, eL_erase, eL_ins, eL_ins', get_m, idx_len, sl0, sl1, sl2, sl3, sl4, sl5, sl6, sl7, sl8, sl9, sl10, sl11, sl12, en_keep, en_front, en_back, en_remove, en_skip, en_ofront, en_oback, en_inn, en_out, en_both, eqF_inn, eqF_out, eqF_both, neF_inn, neF_out, ixC_0, ixC_1, ixC_2, lenC, ixO_0, ixO_1, ixO_2, gtupC, gtupO, fate_a, fate_u, fate_f, fate_b, ent_i, ent_o, ent_b, inT_1, inT_2, inT_3, ofS, String.reduceEq, Bool.or_true, Bool.true_or, Bool.or_false, Bool.false_or, eq_self, ↓x_kill, ↓x_killN, ↓x_join, dropE_n, dropE_c, drop1_un, drop1_fz, drop1_ow, drop1_ot, Int.toNat_natCast, List.length_map, Option.map_some, Option.map_none]
    refine for_t (f := en) (xs := [Ins.keep, Ins.front, Ins.back, Ins.remove]) (fun l2 e => ∃ acc2 : List Cm, e = [(.fz (eL ns) : G.E), (.ow false (eL acc2) : G.E), (.fz (en n) : G.E), .un, .un] ∧ acc2.length + 3 * l2.length ≤ acc.length + 12 ∧ acc2 ++ l2.flatMap (cmdsAt n) = acc ++ insL.flatMap (cmdsAt n)) ⟨acc, rfl, Nat.le_refl _, rfl⟩ ?_ ?_
    · rintro a l2 e ⟨acc2, rfl, ha2, he2⟩
      rw [List.length_cons] at ha2
      rw [List.flatMap_cons, ← List.append_assoc] at he2
      simp -dsimp only [↓x_seq, ↓x_next, ↓x_drop, ↓x_set, ↓x_setO, ↓x_name, ↓x_gnil, ↓x_gcons, ↓x_gtup, ↓x_bin, ↓x_var, ↓x_varF, ↓x_c, ↓x_1, ↓x_B, ↓x_and, ↓x_or, ↓x_not, ↓x_andV, ↓x_orV, ↓x_notV, ↓x_if, ↓x_ifS, ↓x_ret, ↓x_lst, ↓x_tup, ↓x_acons, ↓x_anil, ↓x_aug, ↓y_setIx, ↓x_call, ↓x_callT, ↓x_callK, ↓x_callD, ↓x_chain, ↓x_sl, ↓x_oS, ↓x_oN, ↓x_rep, ↓y_store, ↓x_app, ↓y_popAt, ↓y_insert, ↓y_ext, ↓x_strM, ↓x_listM, ↓x_isi, ↓y_LE, ↓x_yes, ↓y_iList, ↓y_iTup, ↓x_iStr, ↓y_iEnum, ↓x_iRange1, ↓x_iRange2, ↓x_for, ↓x_while, ↓x_lc, ↓y_rev, ↓x_pNil, ↓x_pCons, ↓x_dict, ↓x_dict0, ↓x_dget, cs_t, cs_f, ex_s, sh1, get_fz, get_ow, get_br, brD_ow, brD_fz, fzd_fz, fzd_ow, fzd_br, jO_un, jO_fz, jO_ow, jO_no, intF_i, intF0_i, addF_i, addF_s, addF_l, addF_t, mulF, mulSF_s, ne0F_l, subF, fdivF, modF, powF, ltF_i, ltF_s, leF, gtF, geF, absF_i, maxF, minF, lenF_l, lenF_t, lenF_s, toIntF_i, toIntF_b, toListF_l, toListF_t, toTupF_l, toTupF_t, negF_i, cutF_l, cutF_t, cutF_s, isF_bb, isF_nn, isF_ln, isF_sn, isF_in, isF_tn, List.map_cons, List.map_nil, List.cons_append, List.nil_append, List.replicate, List.getElem?_cons_zero, List.getElem?_cons_succ, List.set_cons_zero, List.set_cons_succ, List.length_cons, List.length_nil, if_true, if_false, Bool.false_eq_true, true_and, and_true, reduceCtorEq, ixF_0, ixF_1, ixF_2, ixF_t0, ixF_t1, ixF_t2, ixn0, ixn1, eqF_s, eqF_i, neF_s, neF_i, eqF_l, eqF_t, neF_l, Option.some.injEq, G.E.ow.injEq, exists_eq_left', exists_eq_left, exists_eq', exists_const, and_self, ne_eq, not_false_eq_true, decide_true, decide_false, Bool.not_true, Bool.not_false, restE, wipeE, List.getD_eq_getElem?_getD, Option.getD_some, eqF_bb, neF_bb, ↓y_iRev, ↓x_sset, ↓x_lset, sortF_e, t3_f, t4_f, gtup3, gtup4, ixT3_0, ixT3_1, ixT3_2, ↓x_callB, ↓x_frz, ↓x_rnil, ↓x_rcons, argsD_n, argsD_c, consO_s, argD_f, argD_b, argB_l, argB_e, argB_f, noLR_e, noLR_t, noLR_a, noLR_i, noLR_b, noLR_s, noLR_n, ↓x_pop, eL_drop, eL_i1, ↓x_callN, isOw_o, ex_bd, en_epf, en_epb, ixFa_0, ixFa_1f, ixFa_1b, fs_a, fs_u, fs_f, fs_b, t3_i, t3_o, t3_c, t2_n, t3_n, ne0F_e, isF_fate, not_true_eq_false, Int.reduceSub, Int.reduceAdd, isL_l, isL_e, isT_t, isT_e, isOL_l, isOL_e, isL1_c, isInt_i, isSome_s, isOwL_l, isOwL_e, en_int, en_nat, en_bool, en_str, en_list, eL_1, eL_2, eL_3, eL_snoc, eL_snoc2, eL_app, eL_LL, eL_LL2, eL_LLs, addF_e, addF_t', addF_n, addF_n', lenF_e, lenF_e', toListF_e, toListF_e', toTupF_e, toTupF_e', cutF_e, cutF_e', cm_keep_skip, cm_keep_front, cm_keep_back, cm_front_skip, cm_front_front, cm_front_back, cm_back_skip, cm_back_front, cm_back_back, cm_remove_skip, cm_remove_front, cm_remove_back, nl0, nl1, nl2, nl3, nl4, nl5, nl6, nl7, nl8, nl9, nl10, nl11, nl12, Int.reduceEq, Int.reduceLT, Int.reduceLE, nat1c, natc1, natc2, natcA, cutA_btw, cutA_to, cutA_from, cutA_all, ixF_e0, ixF_e1, ixP_0, ixP_1, gtupP, pair_f, isF_Ln, isF_Tn, eqF_e, neF_e, inF_e, eqF_n, eqF_n', eqF_eL, neF_eL, eqF_eT, inF_nm, eL_pairs, pairs_e, rngD_e, eL_rev, eL_set, eL_erase, eL_ins, eL_ins', get_m, idx_len, sl0, sl1, sl2, sl3, sl4, sl5, sl6, sl7, sl8, sl9, sl10, sl11, sl12, en_keep, en_front, en_back, en_remove, en_skip, en_ofront, en_oback, en_inn, en_out, en_both, eqF_inn, eqF_out, eqF_both, neF_inn, neF_out, ixC_0, ixC_1, ixC_2, lenC, ixO_0, ixO_1, ixO_2, gtupC, gtupO, fate_a, fate_u, fate_f, fate_b, ent_i, ent_o, ent_b, inT_1, inT_2, inT_3, ofS, String.reduceEq, Bool.or_true, Bool.true_or, Bool.or_false, Bool.false_or, eq_self, ↓x_kill, ↓x_killN, ↓x_join, dropE_n, dropE_c, drop1_un, drop1_fz, drop1_ow, drop1_ot, Int.toNat_natCast, List.length_map, Option.map_some, Option.map_none]
      refine lc_map (f := en) (xs := [Out.skip, Out.front, Out.back]) (fun b => Cm.mk n a b) _ (show 3 ≤ sizeLine by decide) rfl (fun c hc Q Q0 h => ?_) ?_
      · simp -dsimp only [↓x_seq, ↓x_next, ↓x_drop, ↓x_set, ↓x_setO, ↓x_name, ↓x_gnil, ↓x_gcons, ↓x_gtup, ↓x_bin, ↓x_var, ↓x_varF, ↓x_c, ↓x_1, ↓x_B, ↓x_and, ↓x_or, ↓x_not, ↓x_andV, ↓x_orV, ↓x_notV, ↓x_if, ↓x_ifS, ↓x_ret, ↓x_lst, ↓x_tup, ↓x_acons, ↓x_anil, ↓x_aug, ↓y_setIx, ↓x_call, ↓x_callT, ↓x_callK, ↓x_callD, ↓x_chain, ↓x_sl, ↓x_oS, ↓x_oN, ↓x_rep, ↓y_store, ↓x_app, ↓y_popAt, ↓y_insert, ↓y_ext, ↓x_strM, ↓x_listM, ↓x_isi, ↓y_LE, ↓x_yes, ↓y_iList, ↓y_iTup, ↓x_iStr, ↓y_iEnum, ↓x_iRange1, ↓x_iRange2, ↓x_for, ↓x_while, ↓x_lc, ↓y_rev, ↓x_pNil, ↓x_pCons, ↓x_dict, ↓x_dict0, ↓x_dget, cs_t, cs_f, ex_s, sh1, get_fz, get_ow, get_br, brD_ow, brD_fz, fzd_fz, fzd_ow, fzd_br, jO_un, jO_fz, jO_ow, jO_no, intF_i, intF0_i, addF_i, addF_s, addF_l, addF_t, mulF, mulSF_s, ne0F_l, subF, fdivF, modF, powF, ltF_i, ltF_s, leF, gtF, geF, absF_i, maxF, minF, lenF_l, lenF_t, lenF_s, toIntF_i, toIntF_b, toListF_l, toListF_t, toTupF_l, toTupF_t, negF_i, cutF_l, cutF_t, cutF_s, isF_bb, isF_nn, isF_ln, isF_sn, isF_in, isF_tn, List.map_cons, List.map_nil, List.cons_append, List.nil_append, List.replicate, List.getElem?_cons_zero, List.getElem?_cons_succ, List.set_cons_zero, List.set_cons_succ, List.length_cons, List.length_nil, if_true, if_false, Bool.false_eq_true, true_and, and_true, reduceCtorEq, ixF_0, ixF_1, ixF_2, ixF_t0, ixF_t1, ixF_t2, ixn0, ixn1, eqF_s, eqF_i, neF_s, neF_i, eqF_l, eqF_t, neF_l, Option.some.injEq, G.E.ow.injEq, exists_eq_left', exists_eq_left, exists_eq', exists_const, and_self, ne_eq, not_false_eq_true, decide_true, decide_false, Bool.not_true, Bool.not_false, restE, wipeE, List.getD_eq_getElem?_getD, Option.getD_some, eqF_bb, neF_bb, ↓y_iRev, ↓x_sset, ↓x_lset, sortF_e, t3_f, t4_f, gtup3, gtup4, ixT3_0, ixT3_1, ixT3_2, ↓x_callB, ↓x_frz, ↓x_rnil, ↓x_rcons, argsD_n, argsD_c, consO_s, argD_f, argD_b, argB_l, argB_e, argB_f, noLR_e, noLR_t, noLR_a, noLR_i, noLR_b, noLR_s, noLR_n, ↓x_pop, eL_drop, eL_i1, ↓x_callN, isOw_o, ex_bd, en_epf, en_epb, ixFa_0, ixFa_1f, ixFa_1b, fs_a, fs_u, fs_f, fs_b, t3_i, t3_o, t3_c, t2_n, t3_n, ne0F_e, isF_fate, not_true_eq_false, Int.reduceSub, Int.reduceAdd, isL_l, isL_e, isT_t, isT_e, isOL_l, isOL_e, isL1_c, isInt_i, isSome_s, isOwL_l, isOwL_e, en_int, en_nat, en_bool, en_str, en_list, eL_1, eL_2, eL_3, eL_snoc, eL_snoc2, eL_app, eL_LL, eL_LL2, eL_LLs, addF_e, addF_t', addF_n, addF_n', lenF_e, lenF_e', toListF_e, toListF_e', toTupF_e, toTupF_e', cutF_e, cutF_e', cm_keep_skip, cm_keep_front, cm_keep_back, cm_front_skip, cm_front_front, cm_front_back, cm_back_skip, cm_back_front, cm_back_back, cm_remove_skip, cm_remove_front, cm_remove_back, nl0, nl1, nl2, nl3, nl4, nl5, nl6, nl7, nl8, nl9, nl10, nl11, nl12, Int.reduceEq, Int.reduceLT, Int.reduceLE, nat1c, natc1, natc2, natcA, cutA_btw, cutA_to, cutA_from, cutA_all, ixF_e0, ixF_e1, ixP_0, ixP_1, gtupP, pair_f, isF_Ln, isF_Tn, eqF_e, neF_e, inF_e, eqF_n, eqF_n', eqF_eL, neF_eL, eqF_eT, inF_nm, eL_pairs, pairs_e, rngD_e, eL_rev, eL_set, eL_erase, eL_ins, eL_ins', get_m, idx_len, sl0, sl1, sl2, sl3, sl4, sl5, sl6, sl7, sl8, sl9, sl10, sl11, sl12, en_keep, en_front, en_back, en_remove, en_skip, en_ofront, en_oback, en_inn, en_out, en_both, eqF_inn, eqF_out, eqF_both, neF_inn, neF_out, ixC_0, ixC_1, ixC_2, lenC, ixO_0, ixO_1, ixO_2, gtupC, gtupO, fate_a, fate_u, fate_f, fate_b, ent_i, ent_o, ent_b, inT_1, inT_2, inT_3, ofS, String.reduceEq, Bool.or_true, Bool.true_or, Bool.or_false, Bool.false_or, eq_self, ↓x_kill, ↓x_killN, ↓x_join, dropE_n, dropE_c, drop1_un, drop1_fz, drop1_ow, drop1_ot, Int.toNat_natCast, List.length_map, Option.map_some, Option.map_none]
        exact h
      rw [show [Out.skip, Out.front, Out.back].map (fun b => Cm.mk n a b) = cmdsAt n a from rfl]
      have h3 : (cmdsAt n a).length = 3 := rfl
      simp -dsimp only [↓x_seq, ↓x_next, ↓x_drop, ↓x_set, ↓x_setO, ↓x_name, ↓x_gnil, ↓x_gcons, ↓x_gtup, ↓x_bin, ↓x_var, ↓x_varF, ↓x_c, ↓x_1, ↓x_B, ↓x_and, ↓x_or, ↓x_not, ↓x_andV, ↓x_orV, ↓x_notV, ↓x_if, ↓x_ifS, ↓x_ret, ↓x_lst, ↓x_tup, ↓x_acons, ↓x_anil, ↓x_aug, ↓y_setIx, ↓x_call, ↓x_callT, ↓x_callK, ↓x_callD, ↓x_chain, ↓x_sl, ↓x_oS, ↓x_oN, ↓x_rep, ↓y_store, ↓x_app, ↓y_popAt, ↓y_insert, ↓y_ext, ↓x_strM, ↓x_listM, ↓x_isi, ↓y_LE, ↓x_yes, ↓y_iList, ↓y_iTup, ↓x_iStr, ↓y_iEnum, ↓x_iRange1, ↓x_iRange2, ↓x_for, ↓x_while, ↓x_lc, ↓y_rev, ↓x_pNil, ↓x_pCons, ↓x_dict, ↓x_dict0, ↓x_dget, cs_t, cs_f, ex_s, sh1, get_fz, get_ow, get_br, brD_ow, brD_fz, fzd_fz, fzd_ow, fzd_br, jO_un, jO_fz, jO_ow, jO_no, intF_i, intF0_i, addF_i, addF_s, addF_l, addF_t, mulF, mulSF_s, ne0F_l, subF, fdivF, modF, powF, ltF_i, ltF_s, leF, gtF, geF, absF_i, maxF, minF, lenF_l, lenF_t, lenF_s, toIntF_i, toIntF_b, toListF_l, toListF_t, toTupF_l, toTupF_t, negF_i, cutF_l, cutF_t, cutF_s, isF_bb, isF_nn, isF_ln, isF_sn, isF_in, isF_tn, List.map_cons, List.map_nil, List.cons_append, List.nil_append, List.replicate, List.getElem?_cons_zero, List.getElem?_cons_succ, List.set_cons_zero, List.set_cons_succ, List.length_cons, List.length_nil, if_true, if_false, Bool.false_eq_true, true_and, and_true, reduceCtorEq, ixF_0, ixF_1, ixF_2, ixF_t0, ixF_t1, ixF_t2, ixn0, ixn1, eqF_s, eqF_i, neF_s, neF_i, eqF_l, eqF_t, neF_l, Option.some.injEq, G.E.ow.injEq, exists_eq_left', exists_eq_left, exists_eq', exists_const, and_self, ne_eq, not_false_eq_true, decide_true, decide_false, Bool.not_true, Bool.not_false, restE, wipeE, List.getD_eq_getElem?_getD, Option.getD_some, eqF_bb, neF_bb, ↓y_iRev, ↓x_sset, ↓x_lset, sortF_e, t3_f, t4_f, gtup3, gtup4, ixT3_0, ixT3_1, ixT3_2, ↓x_callB, ↓x_frz, ↓x_rnil, ↓x_rcons, argsD_n, argsD_c, consO_s, argD_f, argD_b, argB_l, argB_e, argB_f, noLR_e, noLR_t, noLR_a, noLR_i, noLR_b, noLR_s, noLR_n, ↓x_pop, eL_drop, eL_i1, ↓x_callN, isOw_o, ex_bd, en_epf, en_epb, ixFa_0, ixFa_1f, ixFa_1b, fs_a, fs_u, fs_f, fs_b, t3_i, t3_o, t3_c, t2_n, t3_n, ne0F_e, isF_fate, not_true_eq_false, Int.reduceSub, Int.reduceAdd, isL_l, isL_e, isT_t, isT_e, isOL_l, isOL_e, isL1_c, isInt_i, isSome_s, isOwL_l, isOwL_e, en_int, en_nat, en_bool, en_str, en_list, eL_1, eL_2, eL_3, eL_snoc, eL_snoc2, eL_app, eL_LL, eL_LL2, eL_LLs, addF_e, addF_t', addF_n, addF_n', lenF_e, lenF_e', toListF_e, toListF_e', toTupF_e, toTupF_e', cutF_e, cutF_e', cm_keep_skip, cm_keep_front, cm_keep_back, cm_front_skip, cm_front_front, cm_front_back, cm_back_skip, cm_back_front, cm_back_back, cm_remove_skip, cm_remove_front, cm_remove_back, nl0, nl1, nl2, nl3, nl4, nl5, nl6, nl7, nl8, nl9, nl10, nl11, nl12, Int.reduceEq, Int.reduceLT, Int.reduceLE, nat1c, natc1, natc2, natcA, cutA_btw, cutA_to, cutA_from, cutA_all, ixF_e0, ixF_e1, ixP_0, ixP_1, gtupP, pair_f, isF_Ln, isF_Tn, eqF_e, neF_e, inF_e, eqF_n, eqF_n', eqF_eL, neF_eL, eqF_eT, inF_nm, eL_pairs, pairs_e, rngD_e, eL_rev, eL_set, eL_erase, eL_ins, eL_ins', get_m, idx_len, sl0, sl1, sl2, sl3, sl4, sl5, sl6, sl7, sl8, sl9, sl10, sl11, sl12, en_keep, en_front, en_back, en_remove, en_skip, en_ofront, en_oback, en_inn, en_out, en_both, eqF_inn, eqF_out, eqF_both, neF_inn, neF_out, ixC_0, ixC_1, ixC_2, lenC, ixO_0, ixO_1, ixO_2, gtupC, gtupO, fate_a, fate_u, fate_f, fate_b, ent_i, ent_o, ent_b, inT_1, inT_2, inT_3, ofS, String.reduceEq, Bool.or_true, Bool.true_or, Bool.or_false, Bool.false_or, eq_self, ↓x_kill, ↓x_killN, ↓x_join, dropE_n, dropE_c, drop1_un, drop1_fz, drop1_ow, drop1_ot, Int.toNat_natCast, List.length_map, Option.map_some, Option.map_none]
      exact ⟨sz0 (by rw [h3]; omega), acc2 ++ cmdsAt n a, rfl, by rw [List.length_append, h3]; omega, he2⟩
    · rintro e ⟨acc2, rfl, ha2, he2⟩
      rw [List.flatMap_nil, List.append_nil] at he2
      simp -dsimp only [↓x_seq, ↓x_next, ↓x_drop, ↓x_set, ↓x_setO, ↓x_name, ↓x_gnil, ↓x_gcons, ↓x_gtup, ↓x_bin, ↓x_var, ↓x_varF, ↓x_c, ↓x_1, ↓x_B, ↓x_and, ↓x_or, ↓x_not, ↓x_andV, ↓x_orV, ↓x_notV, ↓x_if, ↓x_ifS, ↓x_ret, ↓x_lst, ↓x_tup, ↓x_acons, ↓x_anil, ↓x_aug, ↓y_setIx, ↓x_call, ↓x_callT, ↓x_callK, ↓x_callD, ↓x_chain, ↓x_sl, ↓x_oS, ↓x_oN, ↓x_rep, ↓y_store, ↓x_app, ↓y_popAt, ↓y_insert, ↓y_ext, ↓x_strM, ↓x_listM, ↓x_isi, ↓y_LE, ↓x_yes, ↓y_iList, ↓y_iTup, ↓x_iStr, ↓y_iEnum, ↓x_iRange1, ↓x_iRange2, ↓x_for, ↓x_while, ↓x_lc, ↓y_rev, ↓x_pNil, ↓x_pCons, ↓x_dict, ↓x_dict0, ↓x_dget, cs_t, cs_f, ex_s, sh1, get_fz, get_ow, get_br, brD_ow, brD_fz, fzd_fz, fzd_ow, fzd_br, jO_un, jO_fz, jO_ow, jO_no, intF_i, intF0_i, addF_i, addF_s, addF_l, addF_t, mulF, mulSF_s, ne0F_l, subF, fdivF, modF, powF, ltF_i, ltF_s, leF, gtF, geF, absF_i, maxF, minF, lenF_l, lenF_t, lenF_s, toIntF_i, toIntF_b, toListF_l, toListF_t, toTupF_l, toTupF_t, negF_i, cutF_l, cutF_t, cutF_s, isF_bb, isF_nn, isF_ln, isF_sn, isF_in, isF_tn, List.map_cons, List.map_nil, List.cons_append, List.nil_append, List.replicate, List.getElem?_cons_zero, List.getElem?_cons_succ, List.set_cons_zero, List.set_cons_succ, List.length_cons, List.length_nil, if_true, if_false, Bool.false_eq_true, true_and, and_true, reduceCtorEq, ixF_0, ixF_1, ixF_2, ixF_t0, ixF_t1, ixF_t2, ixn0, ixn1, eqF_s, eqF_i, neF_s, neF_i, eqF_l, eqF_t, neF_l, Option.some.injEq, G.E.ow.injEq, exists_eq_left', exists_eq_left, exists_eq', exists_const, and_self, ne_eq, not_false_eq_true, decide_true, decide_false, Bool.not_true, Bool.not_false, restE, wipeE, List.getD_eq_getElem?_getD, Option.getD_some, eqF_bb, neF_bb, ↓y_iRev, ↓x_sset, ↓x_lset, sortF_e, t3_f, t4_f, gtup3, gtup4, ixT3_0, ixT3_1, ixT3_2, ↓x_callB, ↓x_frz, ↓x_rnil, ↓x_rcons, argsD_n, argsD_c, consO_s, argD_f, argD_b, argB_l, argB_e, argB_f, noLR_e, noLR_t, noLR_a, noLR_i, noLR_b, noLR_s, noLR_n, ↓x_pop, eL_drop, eL_i1, ↓x_callN, isOw_o, ex_bd, en_epf, en_epb, ixFa_0, ixFa_1f, ixFa_1b, fs_a, fs_u, fs_f, fs_b, t3_i, t3_o, t3_c, t2_n, t3_n, ne0F_e, isF_fate, not_true_eq_false, Int.reduceSub, Int.reduceAdd, isL_l, isL_e, isT_t, isT_e, isOL_l, isOL_e, isL1_c, isInt_i, isSome_s, isOwL_l, isOwL_e, en_int, en_nat, en_bool, en_str, en_list, eL_1, eL_2, eL_3, eL_snoc, eL_snoc2, eL_app, eL_LL, eL_LL2, eL_LLs, addF_e, addF_t', addF_n, addF_n', lenF_e, lenF_e', toListF_e, toListF_e', toTupF_e, toTupF_e', cutF_e, cutF_e', cm_keep_skip, cm_keep_front, cm_keep_back, cm_front_skip, cm_front_front, cm_front_back, cm_back_skip, cm_back_front, cm_back_back, cm_remove_skip, cm_remove_front, cm_remove_back, nl0, nl1, nl2, nl3, nl4, nl5, nl6, nl7, nl8, nl9, nl10, nl11, nl12, Int.reduceEq, Int.reduceLT, Int.reduceLE, nat1c, natc1, natc2, natcA, cutA_btw, cutA_to, cutA_from, cutA_all, ixF_e0, ixF_e1, ixP_0, ixP_1, gtupP, pair_f, isF_Ln, isF_Tn, eqF_e, neF_e, inF_e, eqF_n, eqF_n', eqF_eL, neF_eL, eqF_eT, inF_nm, eL_pairs, pairs_e, rngD_e, eL_rev, eL_set, eL_erase, eL_ins, eL_ins', get_m, idx_len, sl0, sl1, sl2, sl3, sl4, sl5, sl6, sl7, sl8, sl9, sl10, sl11, sl12, en_keep, en_front, en_back, en_remove, en_skip, en_ofront, en_oback, en_inn, en_out, en_both, eqF_inn, eqF_out, eqF_both, neF_inn, neF_out, ixC_0, ixC_1, ixC_2, lenC, ixO_0, ixO_1, ixO_2, gtupC, gtupO, fate_a, fate_u, fate_f, fate_b, ent_i, ent_o, ent_b, inT_1, inT_2, inT_3, ofS, String.reduceEq, Bool.or_true, Bool.true_or, Bool.or_false, Bool.false_or, eq_self, ↓x_kill, ↓x_killN, ↓x_join, dropE_n, dropE_c, drop1_un, drop1_fz, drop1_ow, drop1_ot, Int.toNat_natCast, List.length_map, Option.map_some, Option.map_none]
      exact ⟨acc2, rfl, by simp only [List.length_nil] at ha2; omega, by rw [he2]; exact he⟩
  · rintro e ⟨acc, rfl, ha, he⟩
    rw [List.flatMap_nil, List.append_nil] at he
    subst he
    simp -dsimp only [↓x_seq, ↓x_next, ↓x_drop, ↓x_set, ↓x_setO, ↓x_name, ↓x_gnil, ↓x_gcons, ↓x_gtup, ↓x_bin, ↓x_var, ↓x_varF, ↓x_c, ↓x_1, ↓x_B, ↓x_and, ↓x_or, ↓x_not, ↓x_andV, ↓x_orV, ↓x_notV, ↓x_if, ↓x_ifS, ↓x_ret, ↓x_lst, ↓x_tup, ↓x_acons, ↓x_anil, ↓x_aug, ↓y_setIx, ↓x_call, ↓x_callT, ↓x_callK, ↓x_callD, ↓x_chain, ↓x_sl, ↓x_oS, ↓x_oN, ↓x_rep, ↓y_store, ↓x_app, ↓y_popAt, ↓y_insert, ↓y_ext, ↓x_strM, ↓x_listM, ↓x_isi, ↓y_LE, ↓x_yes, ↓y_iList, ↓y_iTup, ↓x_iStr, ↓y_iEnum, ↓x_iRange1, ↓x_iRange2, ↓x_for, ↓x_while, ↓x_lc, ↓y_rev, ↓x_pNil, ↓x_pCons, ↓x_dict, ↓x_dict0, ↓x_dget, cs_t, cs_f, ex_s, sh1, get_fz, get_ow, get_br, brD_ow, brD_fz, fzd_fz, fzd_ow, fzd_br, jO_un, jO_fz, jO_ow, jO_no, intF_i, intF0_i, addF_i, addF_s, addF_l, addF_t, mulF, mulSF_s, ne0F_l, subF, fdivF, modF, powF, ltF_i, ltF_s, leF, gtF, geF, absF_i, maxF, minF, lenF_l, lenF_t, lenF_s, toIntF_i, toIntF_b, toListF_l, toListF_t, toTupF_l, toTupF_t, negF_i, cutF_l, cutF_t, cutF_s, isF_bb, isF_nn, isF_ln, isF_sn, isF_in, isF_tn, List.map_cons, List.map_nil, List.cons_append, List.nil_append, List.replicate, List.getElem?_cons_zero, List.getElem?_cons_succ, List.set_cons_zero, List.set_cons_succ, List.length_cons, List.length_nil, if_true, if_false, Bool.false_eq_true, true_and, and_true, reduceCtorEq, ixF_0, ixF_1, ixF_2, ixF_t0, ixF_t1, ixF_t2, ixn0, ixn1, eqF_s, eqF_i, neF_s, neF_i, eqF_l, eqF_t, neF_l, Option.some.injEq, G.E.ow.injEq, exists_eq_left', exists_eq_left, exists_eq', exists_const, and_self, ne_eq, not_false_eq_true, decide_true, decide_false, Bool.not_true, Bool.not_false, restE, wipeE, List.getD_eq_getElem?_getD, Option.getD_some, eqF_bb, neF_bb, ↓y_iRev, ↓x_sset, ↓x_lset, sortF_e, t3_f, t4_f, gtup3, gtup4, ixT3_0, ixT3_1, ixT3_2, ↓x_callB, ↓x_frz, ↓x_rnil, ↓x_rcons, argsD_n, argsD_c, consO_s, argD_f, argD_b, argB_l, argB_e, argB_f, noLR_e, noLR_t, noLR_a, noLR_i, noLR_b, noLR_s, noLR_n, ↓x_pop, eL_drop, eL_i1, ↓x_callN, isOw_o, ex_bd, en_epf, en_epb, ixFa_0, ixFa_1f, ixFa_1b, fs_a, fs_u, fs_f, fs_b, t3_i, t3_o, t3_c, t2_n, t3_n, ne0F_e, isF_fate, not_true_eq_false, Int.reduceSub, Int.reduceAdd, isL_l, isL_e, isT_t, isT_e, isOL_l, isOL_e, isL1_c, isInt_i, isSome_s, isOwL_l, isOwL_e, en_int, en_nat, en_bool, en_str, en_list, eL_1, eL_2, eL_3, eL_snoc, eL_snoc2, eL_app, eL_LL, eL_LL2, eL_LLs, addF_e, addF_t', addF_n, addF_n', lenF_e, lenF_e', toListF_e, toListF_e', toTupF_e, toTupF_e', cutF_e, cutF_e', cm_keep_skip, cm_keep_front, cm_keep_back, cm_front_skip, cm_front_front, cm_front_back, cm_back_skip, cm_back_front, cm_back_back, cm_remove_skip, cm_remove_front, cm_remove_back, nl0, nl1, nl2, nl3, nl4, nl5, nl6, nl7, nl8, nl9, nl10, nl11, nl12, Int.reduceEq, Int.reduceLT, Int.reduceLE, nat1c, natc1, natc2, natcA, cutA_btw, cutA_to, cutA_from, cutA_all, ixF_e0, ixF_e1, ixP_0, ixP_1, gtupP, pair_f, isF_Ln, isF_Tn, eqF_e, neF_e, inF_e, eqF_n, eqF_n', eqF_eL, neF_eL, eqF_eT, inF_nm, eL_pairs, pairs_e, rngD_e, eL_rev, eL_set, eL_erase, eL_ins, eL_ins', get_m, idx_len, sl0, sl1, sl2, sl3, sl4, sl5, sl6, sl7, sl8, sl9, sl10, sl11, sl12, en_keep, en_front, en_back, en_remove, en_skip, en_ofront, en_oback, en_inn, en_out, en_both, eqF_inn, eqF_out, eqF_both, neF_inn, neF_out, ixC_0, ixC_1, ixC_2, lenC, ixO_0, ixO_1, ixO_2, gtupC, gtupO, fate_a, fate_u, fate_f, fate_b, ent_i, ent_o, ent_b, inT_1, inT_2, inT_3, ofS, String.reduceEq, Bool.or_true, Bool.true_or, Bool.or_false, Bool.false_or, eq_self, ↓x_kill, ↓x_killN, ↓x_join, dropE_n, dropE_c, drop1_un, drop1_fz, drop1_ow, drop1_ot, Int.toNat_natCast, List.length_map, Option.map_some, Option.map_none]
    exact hP
/-! ### least_commands -/
def S_least_commands (ds : List D) (P : R → Prop) : Prop := ∃ (p g : List Nm), ds = [eL p, eL g] ∧ (p.Nodup ∧ g.Nodup) ∧ p.length ≤ 1000 ∧ g.length ≤ 1003 ∧ ∀ b e, Bst p g b e → P (.fz (.int ((routeOf p g b e).length : Nat)))
theorem least_n {p g : List Nm} {P : R → Prop} (hp : p.Nodup) (hg : g.Nodup) (h1 : p.length ≤ 1000) (h2 : g.length ≤ 1003) (q : ∀ b e, Bst p g b e → P (.fz (.int ((routeOf p g b e).length : Nat)))) : S_least_commands [eL p, eL g] P := ⟨p, g, rfl, ⟨hp, hg⟩, h1, h2, q⟩
set_option maxHeartbeats 4000000 in
theorem ok_least_commands (T : Tx K mg) : FnG P w K mg base 2 T.f_least_commands T.fd_least_commands 2 ["path", "goal"] (spF K 2 S_least_commands) := by
  refine fn_F (m := 3) T.F_least_commands sc_least_commands rfl rfl fun {cdv A outer s H E} g room ds PP hl hS => ?_
  refine ⟨_, _, (gb_cons (gs_set (ge_call (ok_kept_block T) g (room.mono (by decide)) (by rfl) T.g_kept_block T.F_kept_block.kp T.b_kept_block (ga_cons (ge_var 0) (ga_cons (ge_var 1) ga_nil))) (gg_tup (n := 2) rfl (ggs_cons (gg_name 2 sc_least_commands.nd) (ggs_cons (gg_name 3 sc_least_commands.nd) ggs_nil))))
      (gb_one (gs_ret (ge_op op_sub sr_int0 (ge_op op_addG sr_add (ge_b1 call_lenG sc_len rfl T.z_len (by decide +kernel) (ge_lc rfl sc_least_commands.nd (gi_list (ge_var 0)) (blkOk_by (own := [("name", 4)]) (N := N_least_commands) (sc := defScope s_least_commands) (by decide +kernel)) (fun _ _ _ _ _ => by exact (gg_name 4 sc_least_commands.nd)) (fun _ _ _ _ _ => by refine ⟨_, gts_one (gt_cmp (op_ninG (plenty room)) sr_nin (by rfl) (ge_var 4) (ge_var 1)), ?_⟩; first | (dsimp only [Cx.blk]; done) | (dsimp only [Cx.blk]; exact rfl) | exact rfl) (fun _ _ _ _ _ => by refine ⟨_, (ge_var 4), ?_⟩; first | (dsimp only [Cx.blk]; done) | (dsimp only [Cx.blk]; exact rfl) | exact rfl))) (ge_b1 call_lenG sc_len rfl T.z_len (by decide +kernel) (ge_var 1))) (ge_op op_sub sr_int0 (ge_var 3) (ge_var 2)))))), ?_⟩
  obtain ⟨p, g, rfl, ⟨hp, hg⟩, h1, h2, hP⟩ := hS
  simp -dsimp only [↓x_seq, ↓x_next, ↓x_drop, ↓x_set, ↓x_setO, ↓x_name, ↓x_gnil, ↓x_gcons, ↓x_gtup, ↓x_bin, ↓x_var, ↓x_varF, ↓x_c, ↓x_1, ↓x_B, ↓x_and, ↓x_or, ↓x_not, ↓x_andV, ↓x_orV, ↓x_notV, ↓x_if, ↓x_ifS, ↓x_ret, ↓x_lst, ↓x_tup, ↓x_acons, ↓x_anil, ↓x_aug, ↓y_setIx, ↓x_call, ↓x_callT, ↓x_callK, ↓x_callD, ↓x_chain, ↓x_sl, ↓x_oS, ↓x_oN, ↓x_rep, ↓y_store, ↓x_app, ↓y_popAt, ↓y_insert, ↓y_ext, ↓x_strM, ↓x_listM, ↓x_isi, ↓y_LE, ↓x_yes, ↓y_iList, ↓y_iTup, ↓x_iStr, ↓y_iEnum, ↓x_iRange1, ↓x_iRange2, ↓x_for, ↓x_while, ↓x_lc, ↓y_rev, ↓x_pNil, ↓x_pCons, ↓x_dict, ↓x_dict0, ↓x_dget, cs_t, cs_f, ex_s, sh1, get_fz, get_ow, get_br, brD_ow, brD_fz, fzd_fz, fzd_ow, fzd_br, jO_un, jO_fz, jO_ow, jO_no, intF_i, intF0_i, addF_i, addF_s, addF_l, addF_t, mulF, mulSF_s, ne0F_l, subF, fdivF, modF, powF, ltF_i, ltF_s, leF, gtF, geF, absF_i, maxF, minF, lenF_l, lenF_t, lenF_s, toIntF_i, toIntF_b, toListF_l, toListF_t, toTupF_l, toTupF_t, negF_i, cutF_l, cutF_t, cutF_s, isF_bb, isF_nn, isF_ln, isF_sn, isF_in, isF_tn, List.map_cons, List.map_nil, List.cons_append, List.nil_append, List.replicate, List.getElem?_cons_zero, List.getElem?_cons_succ, List.set_cons_zero, List.set_cons_succ, List.length_cons, List.length_nil, if_true, if_false, Bool.false_eq_true, true_and, and_true, reduceCtorEq, ixF_0, ixF_1, ixF_2, ixF_t0, ixF_t1, ixF_t2, ixn0, ixn1, eqF_s, eqF_i, neF_s, neF_i, eqF_l, eqF_t, neF_l, Option.some.injEq, G.E.ow.injEq, exists_eq_left', exists_eq_left, exists_eq', exists_const, and_self, ne_eq, not_false_eq_true, decide_true, decide_false, Bool.not_true, Bool.not_false, restE, wipeE, List.getD_eq_getElem?_getD, Option.getD_some, eqF_bb, neF_bb, ↓y_iRev, ↓x_sset, ↓x_lset, sortF_e, t3_f, t4_f, gtup3, gtup4, ixT3_0, ixT3_1, ixT3_2, ↓x_callB, ↓x_frz, ↓x_rnil, ↓x_rcons, argsD_n, argsD_c, consO_s, argD_f, argD_b, argB_l, argB_e, argB_f, noLR_e, noLR_t, noLR_a, noLR_i, noLR_b, noLR_s, noLR_n, ↓x_pop, eL_drop, eL_i1, ↓x_callN, isOw_o, ex_bd, en_epf, en_epb, ixFa_0, ixFa_1f, ixFa_1b, fs_a, fs_u, fs_f, fs_b, t3_i, t3_o, t3_c, t2_n, t3_n, ne0F_e, isF_fate, not_true_eq_false, Int.reduceSub, Int.reduceAdd, isL_l, isL_e, isT_t, isT_e, isOL_l, isOL_e, isL1_c, isInt_i, isSome_s, isOwL_l, isOwL_e, en_int, en_nat, en_bool, en_str, en_list, eL_1, eL_2, eL_3, eL_snoc, eL_snoc2, eL_app, eL_LL, eL_LL2, eL_LLs, addF_e, addF_t', addF_n, addF_n', lenF_e, lenF_e', toListF_e, toListF_e', toTupF_e, toTupF_e', cutF_e, cutF_e', cm_keep_skip, cm_keep_front, cm_keep_back, cm_front_skip, cm_front_front, cm_front_back, cm_back_skip, cm_back_front, cm_back_back, cm_remove_skip, cm_remove_front, cm_remove_back, nl0, nl1, nl2, nl3, nl4, nl5, nl6, nl7, nl8, nl9, nl10, nl11, nl12, Int.reduceEq, Int.reduceLT, Int.reduceLE, nat1c, natc1, natc2, natcA, cutA_btw, cutA_to, cutA_from, cutA_all, ixF_e0, ixF_e1, ixP_0, ixP_1, gtupP, pair_f, isF_Ln, isF_Tn, eqF_e, neF_e, inF_e, eqF_n, eqF_n', eqF_eL, neF_eL, eqF_eT, inF_nm, eL_pairs, pairs_e, rngD_e, eL_rev, eL_set, eL_erase, eL_ins, eL_ins', get_m, idx_len, sl0, sl1, sl2, sl3, sl4, sl5, sl6, sl7, sl8, sl9, sl10, sl11, sl12, en_keep, en_front, en_back, en_remove, en_skip, en_ofront, en_oback, en_inn, en_out, en_both, eqF_inn, eqF_out, eqF_both, neF_inn, neF_out, ixC_0, ixC_1, ixC_2, lenC, ixO_0, ixO_1, ixO_2, gtupC, gtupO, fate_a, fate_u, fate_f, fate_b, ent_i, ent_o, ent_b, inT_1, inT_2, inT_3, ofS, String.reduceEq, Bool.or_true, Bool.true_or, Bool.or_false, Bool.false_or, eq_self, ↓x_kill, ↓x_killN, ↓x_join, dropE_n, dropE_c, drop1_un, drop1_fz, drop1_ow, drop1_ot, Int.toNat_natCast, List.length_map, Option.map_some, Option.map_none]
  refine kb_n hp hg h1 h2 fun b e hB => ?_
  have hP := hP b e hB
  have hl := route_len hB
  obtain ⟨q1, q2, -⟩ := hB
  rw [List.length_map] at q2
  have hf := List.length_filter_le (fun x : Nm => !decide (x ∈ g)) p
  simp -dsimp only [↓x_seq, ↓x_next, ↓x_drop, ↓x_set, ↓x_setO, ↓x_name, ↓x_gnil, ↓x_gcons, ↓x_gtup, ↓x_bin, ↓x_var, ↓x_varF, ↓x_c, ↓x_1, ↓x_B, ↓x_and, ↓x_or, ↓x_not, ↓x_andV, ↓x_orV, ↓x_notV, ↓x_if, ↓x_ifS, ↓x_ret, ↓x_lst, ↓x_tup, ↓x_acons, ↓x_anil, ↓x_aug, ↓y_setIx, ↓x_call, ↓x_callT, ↓x_callK, ↓x_callD, ↓x_chain, ↓x_sl, ↓x_oS, ↓x_oN, ↓x_rep, ↓y_store, ↓x_app, ↓y_popAt, ↓y_insert, ↓y_ext, ↓x_strM, ↓x_listM, ↓x_isi, ↓y_LE, ↓x_yes, ↓y_iList, ↓y_iTup, ↓x_iStr, ↓y_iEnum, ↓x_iRange1, ↓x_iRange2, ↓x_for, ↓x_while, ↓x_lc, ↓y_rev, ↓x_pNil, ↓x_pCons, ↓x_dict, ↓x_dict0, ↓x_dget, cs_t, cs_f, ex_s, sh1, get_fz, get_ow, get_br, brD_ow, brD_fz, fzd_fz, fzd_ow, fzd_br, jO_un, jO_fz, jO_ow, jO_no, intF_i, intF0_i, addF_i, addF_s, addF_l, addF_t, mulF, mulSF_s, ne0F_l, subF, fdivF, modF, powF, ltF_i, ltF_s, leF, gtF, geF, absF_i, maxF, minF, lenF_l, lenF_t, lenF_s, toIntF_i, toIntF_b, toListF_l, toListF_t, toTupF_l, toTupF_t, negF_i, cutF_l, cutF_t, cutF_s, isF_bb, isF_nn, isF_ln, isF_sn, isF_in, isF_tn, List.map_cons, List.map_nil, List.cons_append, List.nil_append, List.replicate, List.getElem?_cons_zero, List.getElem?_cons_succ, List.set_cons_zero, List.set_cons_succ, List.length_cons, List.length_nil, if_true, if_false, Bool.false_eq_true, true_and, and_true, reduceCtorEq, ixF_0, ixF_1, ixF_2, ixF_t0, ixF_t1, ixF_t2, ixn0, ixn1, eqF_s, eqF_i, neF_s, neF_i, eqF_l, eqF_t, neF_l, Option.some.injEq, G.E.ow.injEq, exists_eq_left', exists_eq_left, exists_eq', exists_const, and_self, ne_eq, not_false_eq_true, decide_true, decide_false, Bool.not_true, Bool.not_false, restE, wipeE, List.getD_eq_getElem?_getD, Option.getD_some, eqF_bb, neF_bb, ↓y_iRev, ↓x_sset, ↓x_lset, sortF_e, t3_f, t4_f, gtup3, gtup4, ixT3_0, ixT3_1, ixT3_2, ↓x_callB, ↓x_frz, ↓x_rnil, ↓x_rcons, argsD_n, argsD_c, consO_s, argD_f, argD_b, argB_l, argB_e, argB_f, noLR_e, noLR_t, noLR_a, noLR_i, noLR_b, noLR_s, noLR_n, ↓x_pop, eL_drop, eL_i1, ↓x_callN, isOw_o, ex_bd, en_epf, en_epb, ixFa_0, ixFa_1f, ixFa_1b, fs_a, fs_u, fs_f, fs_b, t3_i, t3_o, t3_c, t2_n, t3_n, ne0F_e, isF_fate, not_true_eq_false, Int.reduceSub, Int.reduceAdd, isL_l, isL_e, isT_t, isT_e, isOL_l, isOL_e, isL1_c, isInt_i, isSome_s, isOwL_l, isOwL_e, en_int, en_nat, en_bool, en_str, en_list, eL_1, eL_2, eL_3, eL_snoc, eL_snoc2, eL_app, eL_LL, eL_LL2, eL_LLs, addF_e, addF_t', addF_n, addF_n', lenF_e, lenF_e', toListF_e, toListF_e', toTupF_e, toTupF_e', cutF_e, cutF_e', cm_keep_skip, cm_keep_front, cm_keep_back, cm_front_skip, cm_front_front, cm_front_back, cm_back_skip, cm_back_front, cm_back_back, cm_remove_skip, cm_remove_front, cm_remove_back, nl0, nl1, nl2, nl3, nl4, nl5, nl6, nl7, nl8, nl9, nl10, nl11, nl12, Int.reduceEq, Int.reduceLT, Int.reduceLE, nat1c, natc1, natc2, natcA, cutA_btw, cutA_to, cutA_from, cutA_all, ixF_e0, ixF_e1, ixP_0, ixP_1, gtupP, pair_f, isF_Ln, isF_Tn, eqF_e, neF_e, inF_e, eqF_n, eqF_n', eqF_eL, neF_eL, eqF_eT, inF_nm, eL_pairs, pairs_e, rngD_e, eL_rev, eL_set, eL_erase, eL_ins, eL_ins', get_m, idx_len, sl0, sl1, sl2, sl3, sl4, sl5, sl6, sl7, sl8, sl9, sl10, sl11, sl12, en_keep, en_front, en_back, en_remove, en_skip, en_ofront, en_oback, en_inn, en_out, en_both, eqF_inn, eqF_out, eqF_both, neF_inn, neF_out, ixC_0, ixC_1, ixC_2, lenC, ixO_0, ixO_1, ixO_2, gtupC, gtupO, fate_a, fate_u, fate_f, fate_b, ent_i, ent_o, ent_b, inT_1, inT_2, inT_3, ofS, String.reduceEq, Bool.or_true, Bool.true_or, Bool.or_false, Bool.false_or, eq_self, ↓x_kill, ↓x_killN, ↓x_join, dropE_n, dropE_c, drop1_un, drop1_fz, drop1_ow, drop1_ot, Int.toNat_natCast, List.length_map, Option.map_some, Option.map_none]
  refine lc_filter (fun x => !decide (x ∈ g)) _ (sz0 (by omega)) rfl (fun c hc Q Q0 h h0 => ?_) ?_
  · (simp -dsimp only [↓x_seq, ↓x_next, ↓x_drop, ↓x_set, ↓x_setO, ↓x_name, ↓x_gnil, ↓x_gcons, ↓x_gtup, ↓x_bin, ↓x_var, ↓x_varF, ↓x_c, ↓x_1, ↓x_B, ↓x_and, ↓x_or, ↓x_not, ↓x_andV, ↓x_orV, ↓x_notV, ↓x_if, ↓x_ifS, ↓x_ret, ↓x_lst, ↓x_tup, ↓x_acons, ↓x_anil, ↓x_aug, ↓y_setIx, ↓x_call, ↓x_callT, ↓x_callK, ↓x_callD, ↓x_chain, ↓x_sl, ↓x_oS, ↓x_oN, ↓x_rep, ↓y_store, ↓x_app, ↓y_popAt, ↓y_insert, ↓y_ext, ↓x_strM, ↓x_listM, ↓x_isi, ↓y_LE, ↓x_yes, ↓y_iList, ↓y_iTup, ↓x_iStr, ↓y_iEnum, ↓x_iRange1, ↓x_iRange2, ↓x_for, ↓x_while, ↓x_lc, ↓y_rev, ↓x_pNil, ↓x_pCons, ↓x_dict, ↓x_dict0, ↓x_dget, cs_t, cs_f, ex_s, sh1, get_fz, get_ow, get_br, brD_ow, brD_fz, fzd_fz, fzd_ow, fzd_br, jO_un, jO_fz, jO_ow, jO_no, intF_i, intF0_i, addF_i, addF_s, addF_l, addF_t, mulF, mulSF_s, ne0F_l, subF, fdivF, modF, powF, ltF_i, ltF_s, leF, gtF, geF, absF_i, maxF, minF, lenF_l, lenF_t, lenF_s, toIntF_i, toIntF_b, toListF_l, toListF_t, toTupF_l, toTupF_t, negF_i, cutF_l, cutF_t, cutF_s, isF_bb, isF_nn, isF_ln, isF_sn, isF_in, isF_tn, List.map_cons, List.map_nil, List.cons_append, List.nil_append, List.replicate, List.getElem?_cons_zero, List.getElem?_cons_succ, List.set_cons_zero, List.set_cons_succ, List.length_cons, List.length_nil, if_true, if_false, Bool.false_eq_true, true_and, and_true, reduceCtorEq, ixF_0, ixF_1, ixF_2, ixF_t0, ixF_t1, ixF_t2, ixn0, ixn1, eqF_s, eqF_i, neF_s, neF_i, eqF_l, eqF_t, neF_l, Option.some.injEq, G.E.ow.injEq, exists_eq_left', exists_eq_left, exists_eq', exists_const, and_self, ne_eq, not_false_eq_true, decide_true, decide_false, Bool.not_true, Bool.not_false, restE, wipeE, List.getD_eq_getElem?_getD, Option.getD_some, eqF_bb, neF_bb, ↓y_iRev, ↓x_sset, ↓x_lset, sortF_e, t3_f, t4_f, gtup3, gtup4, ixT3_0, ixT3_1, ixT3_2, ↓x_callB, ↓x_frz, ↓x_rnil, ↓x_rcons, argsD_n, argsD_c, consO_s, argD_f, argD_b, argB_l, argB_e, argB_f, noLR_e, noLR_t, noLR_a, noLR_i, noLR_b, noLR_s, noLR_n, ↓x_pop, eL_drop, eL_i1, ↓x_callN, isOw_o, ex_bd, en_epf, en_epb, ixFa_0, ixFa_1f, ixFa_1b, fs_a, fs_u, fs_f, fs_b, t3_i, t3_o, t3_c, t2_n, t3_n, ne0F_e, isF_fate, not_true_eq_false, Int.reduceSub, Int.reduceAdd, isL_l, isL_e, isT_t, isT_e, isOL_l, isOL_e, isL1_c, isInt_i, isSome_s, isOwL_l, isOwL_e, en_int, en_nat, en_bool, en_str, en_list, eL_1, eL_2, eL_3, eL_snoc, eL_snoc2, eL_app, eL_LL, eL_LL2, eL_LLs, addF_e, addF_t', addF_n, addF_n', lenF_e, lenF_e', toListF_e, toListF_e', toTupF_e, toTupF_e', cutF_e, cutF_e', cm_keep_skip, cm_keep_front, cm_keep_back, cm_front_skip, cm_front_front, cm_front_back, cm_back_skip, cm_back_front, cm_back_back, cm_remove_skip, cm_remove_front, cm_remove_back, nl0, nl1, nl2, nl3, nl4, nl5, nl6, nl7, nl8, nl9, nl10, nl11, nl12, Int.reduceEq, Int.reduceLT, Int.reduceLE, nat1c, natc1, natc2, natcA, cutA_btw, cutA_to, cutA_from, cutA_all, ixF_e0, ixF_e1, ixP_0, ixP_1, gtupP, pair_f, isF_Ln, isF_Tn, eqF_e, neF_e, inF_e, eqF_n, eqF_n', eqF_eL, neF_eL, eqF_eT, inF_nm, eL_pairs, pairs_e, rngD_e, eL_rev, eL_set, eL_erase, eL_ins, eL_ins', get_m, idx_len, sl0, sl1, sl2, sl3, sl4, sl5, sl6, sl7, sl8, sl9, sl10, sl11, sl12, en_keep, en_front, en_back, en_remove, en_skip, en_ofront, en_oback, en_inn, en_out, en_both, eqF_inn, eqF_out, eqF_both, neF_inn, neF_out, ixC_0, ixC_1, ixC_2, lenC, ixO_0, ixO_1, ixO_2, gtupC, gtupO, fate_a, fate_u, fate_f, fate_b, ent_i, ent_o, ent_b, inT_1, inT_2, inT_3, ofS, String.reduceEq, Bool.or_true, Bool.true_or, Bool.or_false, Bool.false_or, eq_self, ↓x_kill, ↓x_killN, ↓x_join, dropE_n, dropE_c, drop1_un, drop1_fz, drop1_ow, drop1_ot, Int.toNat_natCast, List.length_map, Option.map_some, Option.map_none]; exact cs_b (fun hk => by simp -dsimp only [↓x_seq, ↓x_next, ↓x_drop, ↓x_set, ↓x_setO, ↓x_name, ↓x_gnil, ↓x_gcons, ↓x_gtup, ↓x_bin, ↓x_var, ↓x_varF, ↓x_c, ↓x_1, ↓x_B, ↓x_and, ↓x_or, ↓x_not, ↓x_andV, ↓x_orV, ↓x_notV, ↓x_if, ↓x_ifS, ↓x_ret, ↓x_lst, ↓x_tup, ↓x_acons, ↓x_anil, ↓x_aug, ↓y_setIx, ↓x_call, ↓x_callT, ↓x_callK, ↓x_callD, ↓x_chain, ↓x_sl, ↓x_oS, ↓x_oN, ↓x_rep, ↓y_store, ↓x_app, ↓y_popAt, ↓y_insert, ↓y_ext, ↓x_strM, ↓x_listM, ↓x_isi, ↓y_LE, ↓x_yes, ↓y_iList, ↓y_iTup, ↓x_iStr, ↓y_iEnum, ↓x_iRange1, ↓x_iRange2, ↓x_for, ↓x_while, ↓x_lc, ↓y_rev, ↓x_pNil, ↓x_pCons, ↓x_dict, ↓x_dict0, ↓x_dget, cs_t, cs_f, ex_s, sh1, get_fz, get_ow, get_br, brD_ow, brD_fz, fzd_fz, fzd_ow, fzd_br, jO_un, jO_fz, jO_ow, jO_no, intF_i, intF0_i, addF_i, addF_s, addF_l, addF_t, mulF, mulSF_s, ne0F_l, subF, fdivF, modF, powF, ltF_i, ltF_s, leF, gtF, geF, absF_i, maxF, minF, lenF_l, lenF_t, lenF_s, toIntF_i, toIntF_b, toListF_l, toListF_t, toTupF_l, toTupF_t, negF_i, cutF_l, cutF_t, cutF_s, isF_bb, isF_nn, isF_ln, isF_sn, isF_in, isF_tn, List.map_cons, List.map_nil, List.cons_append, List.nil_append, List.replicate, List.getElem?_cons_zero, List.getElem?_cons_succ, List.set_cons_zero, List.set_cons_succ, List.length_cons, List.length_nil, if_true, if_false, Bool.false_eq_true, true_and, and_true, reduceCtorEq, ixF_0, ixF_1, ixF_2, ixF_t0, ixF_t1, ixF_t2, ixn0, ixn1, eqF_s, eqF_i, neF_s, neF_i, eqF_l, eqF_t, neF_l, Option.some.injEq, G.E.ow.injEq, exists_eq_left', exists_eq_left, exists_eq', exists_const, and_self, ne_eq, not_false_eq_true, decide_true, decide_false, Bool.not_true, Bool.not_false, restE, wipeE, List.getD_eq_getElem?_getD, Option.getD_some, eqF_bb, neF_bb, ↓y_iRev, ↓x_sset, ↓x_lset, sortF_e, t3_f, t4_f, gtup3, gtup4, ixT3_0, ixT3_1, ixT3_2, ↓x_callB, ↓x_frz, ↓x_rnil, ↓x_rcons, argsD_n, argsD_c, consO_s, argD_f, argD_b, argB_l, argB_e, argB_f, noLR_e, noLR_t, noLR_a, noLR_i, noLR_b, noLR_s, noLR_n, ↓x_pop, eL_drop, eL_i1, ↓x_callN, isOw_o, ex_bd, en_epf, en_epb, ixFa_0, ixFa_1f, ixFa_1b, fs_a, fs_u, fs_f, fs_b, t3_i, t3_o, t3_c, t2_n, t3_n, ne0F_e, isF_fate, not_true_eq_false, Int.reduceSub, Int.reduceAdd, isL_l, isL_e, isT_t, isT_e, isOL_l, isOL_e, isL1_c, isInt_i, isSome_s, isOwL_l, isOwL_e, en_int, en_nat, en_bool, en_str, en_list, eL_1, eL_2, eL_3, eL_snoc, eL_snoc2, eL_app, eL_LL, eL_LL2, eL_LLs, addF_e, addF_t', addF_n, addF_n', lenF_e, lenF_e', toListF_e, toListF_e', toTupF_e, toTupF_e', cutF_e, cutF_e', cm_keep_skip, cm_keep_front, cm_keep_back, cm_front_skip, cm_front_front, cm_front_back, cm_back_skip, cm_back_front, cm_back_back, cm_remove_skip, cm_remove_front, cm_remove_back, nl0, nl1, nl2, nl3, nl4, nl5, nl6, nl7, nl8, nl9, nl10, nl11, nl12, Int.reduceEq, Int.reduceLT, Int.reduceLE, nat1c, natc1, natc2, natcA, cutA_btw, cutA_to, cutA_from, cutA_all, ixF_e0, ixF_e1, ixP_0, ixP_1, gtupP, pair_f, isF_Ln, isF_Tn, eqF_e, neF_e, inF_e, eqF_n, eqF_n', eqF_eL, neF_eL, eqF_eT, inF_nm, eL_pairs, pairs_e, rngD_e, eL_rev, eL_set, eL_erase, eL_ins, eL_ins', get_m, idx_len, sl0, sl1, sl2, sl3, sl4, sl5, sl6, sl7, sl8, sl9, sl10, sl11, sl12, en_keep, en_front, en_back, en_remove, en_skip, en_ofront, en_oback, en_inn, en_out, en_both, eqF_inn, eqF_out, eqF_both, neF_inn, neF_out, ixC_0, ixC_1, ixC_2, lenC, ixO_0, ixO_1, ixO_2, gtupC, gtupO, fate_a, fate_u, fate_f, fate_b, ent_i, ent_o, ent_b, inT_1, inT_2, inT_3, ofS, String.reduceEq, Bool.or_true, Bool.true_or, Bool.or_false, Bool.false_or, eq_self, ↓x_kill, ↓x_killN, ↓x_join, dropE_n, dropE_c, drop1_un, drop1_fz, drop1_ow, drop1_ot, Int.toNat_natCast, List.length_map, Option.map_some, Option.map_none]; exact h hk) (fun hk => by simp -dsimp only [↓x_seq, ↓x_next, ↓x_drop, ↓x_set, ↓x_setO, ↓x_name, ↓x_gnil, ↓x_gcons, ↓x_gtup, ↓x_bin, ↓x_var, ↓x_varF, ↓x_c, ↓x_1, ↓x_B, ↓x_and, ↓x_or, ↓x_not, ↓x_andV, ↓x_orV, ↓x_notV, ↓x_if, ↓x_ifS, ↓x_ret, ↓x_lst, ↓x_tup, ↓x_acons, ↓x_anil, ↓x_aug, ↓y_setIx, ↓x_call, ↓x_callT, ↓x_callK, ↓x_callD, ↓x_chain, ↓x_sl, ↓x_oS, ↓x_oN, ↓x_rep, ↓y_store, ↓x_app, ↓y_popAt, ↓y_insert, ↓y_ext, ↓x_strM, ↓x_listM, ↓x_isi, ↓y_LE, ↓x_yes, ↓y_iList, ↓y_iTup, ↓x_iStr, ↓y_iEnum, ↓x_iRange1, ↓x_iRange2, ↓x_for, ↓x_while, ↓x_lc, ↓y_rev, ↓x_pNil, ↓x_pCons, ↓x_dict, ↓x_dict0, ↓x_dget, cs_t, cs_f, ex_s, sh1, get_fz, get_ow, get_br, brD_ow, brD_fz, fzd_fz, fzd_ow, fzd_br, jO_un, jO_fz, jO_ow, jO_no, intF_i, intF0_i, addF_i, addF_s, addF_l, addF_t, mulF, mulSF_s, ne0F_l, subF, fdivF, modF, powF, ltF_i, ltF_s, leF, gtF, geF, absF_i, maxF, minF, lenF_l, lenF_t, lenF_s, toIntF_i, toIntF_b, toListF_l, toListF_t, toTupF_l, toTupF_t, negF_i, cutF_l, cutF_t, cutF_s, isF_bb, isF_nn, isF_ln, isF_sn, isF_in, isF_tn, List.map_cons, List.map_nil, List.cons_append, List.nil_append, List.replicate, List.getElem?_cons_zero, List.getElem?_cons_succ, List.set_cons_zero, List.set_cons_succ, List.length_cons, List.length_nil, if_true, if_false, Bool.false_eq_true, true_and, and_true, reduceCtorEq, ixF_0, ixF_1, ixF_2, ixF_t0, ixF_t1, ixF_t2, ixn0, ixn1, eqF_s, eqF_i, neF_s, neF_i, eqF_l, eqF_t, neF_l, Option.some.injEq, G.E.ow.injEq, exists_eq_left', exists_eq_left, exists_eq', exists_const, and_self, ne_eq, not_false_eq_true, decide_true, decide_false, Bool.not_true, Bool.not_false, restE, wipeE, List.getD_eq_getElem?_getD, Option.getD_some, eqF_bb, neF_bb, ↓y_iRev, ↓x_sset, ↓x_lset, sortF_e, t3_f, t4_f, gtup3, gtup4, ixT3_0, ixT3_1, ixT3_2, ↓x_callB, ↓x_frz, ↓x_rnil, ↓x_rcons, argsD_n, argsD_c, consO_s, argD_f, argD_b, argB_l, argB_e, argB_f, noLR_e, noLR_t, noLR_a, noLR_i, noLR_b, noLR_s, noLR_n, ↓x_pop, eL_drop, eL_i1, ↓x_callN, isOw_o, ex_bd, en_epf, en_epb, ixFa_0, ixFa_1f, ixFa_1b, fs_a, fs_u, fs_f, fs_b, t3_i, t3_o, t3_c, t2_n, t3_n, ne0F_e, isF_fate, not_true_eq_false, Int.reduceSub, Int.reduceAdd, isL_l, isL_e, isT_t, isT_e, isOL_l, isOL_e, isL1_c, isInt_i, isSome_s, isOwL_l, isOwL_e, en_int, en_nat, en_bool, en_str, en_list, eL_1, eL_2, eL_3, eL_snoc, eL_snoc2, eL_app, eL_LL, eL_LL2, eL_LLs, addF_e, addF_t', addF_n, addF_n', lenF_e, lenF_e', toListF_e, toListF_e', toTupF_e, toTupF_e', cutF_e, cutF_e', cm_keep_skip, cm_keep_front, cm_keep_back, cm_front_skip, cm_front_front, cm_front_back, cm_back_skip, cm_back_front, cm_back_back, cm_remove_skip, cm_remove_front, cm_remove_back, nl0, nl1, nl2, nl3, nl4, nl5, nl6, nl7, nl8, nl9, nl10, nl11, nl12, Int.reduceEq, Int.reduceLT, Int.reduceLE, nat1c, natc1, natc2, natcA, cutA_btw, cutA_to, cutA_from, cutA_all, ixF_e0, ixF_e1, ixP_0, ixP_1, gtupP, pair_f, isF_Ln, isF_Tn, eqF_e, neF_e, inF_e, eqF_n, eqF_n', eqF_eL, neF_eL, eqF_eT, inF_nm, eL_pairs, pairs_e, rngD_e, eL_rev, eL_set, eL_erase, eL_ins, eL_ins', get_m, idx_len, sl0, sl1, sl2, sl3, sl4, sl5, sl6, sl7, sl8, sl9, sl10, sl11, sl12, en_keep, en_front, en_back, en_remove, en_skip, en_ofront, en_oback, en_inn, en_out, en_both, eqF_inn, eqF_out, eqF_both, neF_inn, neF_out, ixC_0, ixC_1, ixC_2, lenC, ixO_0, ixO_1, ixO_2, gtupC, gtupO, fate_a, fate_u, fate_f, fate_b, ent_i, ent_o, ent_b, inT_1, inT_2, inT_3, ofS, String.reduceEq, Bool.or_true, Bool.true_or, Bool.or_false, Bool.false_or, eq_self, ↓x_kill, ↓x_killN, ↓x_join, dropE_n, dropE_c, drop1_un, drop1_fz, drop1_ow, drop1_ot, Int.toNat_natCast, List.length_map, Option.map_some, Option.map_none]; exact h0 hk))
  simp -dsimp only [↓x_seq, ↓x_next, ↓x_drop, ↓x_set, ↓x_setO, ↓x_name, ↓x_gnil, ↓x_gcons, ↓x_gtup, ↓x_bin, ↓x_var, ↓x_varF, ↓x_c, ↓x_1, ↓x_B, ↓x_and, ↓x_or, ↓x_not, ↓x_andV, ↓x_orV, ↓x_notV, ↓x_if, ↓x_ifS, ↓x_ret, ↓x_lst, ↓x_tup, ↓x_acons, ↓x_anil, ↓x_aug, ↓y_setIx, ↓x_call, ↓x_callT, ↓x_callK, ↓x_callD, ↓x_chain, ↓x_sl, ↓x_oS, ↓x_oN, ↓x_rep, ↓y_store, ↓x_app, ↓y_popAt, ↓y_insert, ↓y_ext, ↓x_strM, ↓x_listM, ↓x_isi, ↓y_LE, ↓x_yes, ↓y_iList, ↓y_iTup, ↓x_iStr, ↓y_iEnum, ↓x_iRange1, ↓x_iRange2, ↓x_for, ↓x_while, ↓x_lc, ↓y_rev, ↓x_pNil, ↓x_pCons, ↓x_dict, ↓x_dict0, ↓x_dget, cs_t, cs_f, ex_s, sh1, get_fz, get_ow, get_br, brD_ow, brD_fz, fzd_fz, fzd_ow, fzd_br, jO_un, jO_fz, jO_ow, jO_no, intF_i, intF0_i, addF_i, addF_s, addF_l, addF_t, mulF, mulSF_s, ne0F_l, subF, fdivF, modF, powF, ltF_i, ltF_s, leF, gtF, geF, absF_i, maxF, minF, lenF_l, lenF_t, lenF_s, toIntF_i, toIntF_b, toListF_l, toListF_t, toTupF_l, toTupF_t, negF_i, cutF_l, cutF_t, cutF_s, isF_bb, isF_nn, isF_ln, isF_sn, isF_in, isF_tn, List.map_cons, List.map_nil, List.cons_append, List.nil_append, List.replicate, List.getElem?_cons_zero, List.getElem?_cons_succ, List.set_cons_zero, List.set_cons_succ, List.length_cons, List.length_nil, if_true, if_false, Bool.false_eq_true, true_and, and_true, reduceCtorEq, ixF_0, ixF_1, ixF_2, ixF_t0, ixF_t1, ixF_t2, ixn0, ixn1, eqF_s, eqF_i, neF_s, neF_i, eqF_l, eqF_t, neF_l, Option.some.injEq, G.E.ow.injEq, exists_eq_left', exists_eq_left, exists_eq', exists_const, and_self, ne_eq, not_false_eq_true, decide_true, decide_false, Bool.not_true, Bool.not_false, restE, wipeE, List.getD_eq_getElem?_getD, Option.getD_some, eqF_bb, neF_bb, ↓y_iRev, ↓x_sset, ↓x_lset, sortF_e, t3_f, t4_f, gtup3, gtup4, ixT3_0, ixT3_1, ixT3_2, ↓x_callB, ↓x_frz, ↓x_rnil, ↓x_rcons, argsD_n, argsD_c, consO_s, argD_f, argD_b, argB_l, argB_e, argB_f, noLR_e, noLR_t, noLR_a, noLR_i, noLR_b, noLR_s, noLR_n, ↓x_pop, eL_drop, eL_i1, ↓x_callN, isOw_o, ex_bd, en_epf, en_epb, ixFa_0, ixFa_1f, ixFa_1b, fs_a, fs_u, fs_f, fs_b, t3_i, t3_o, t3_c, t2_n, t3_n, ne0F_e, isF_fate, not_true_eq_false, Int.reduceSub, Int.reduceAdd, isL_l, isL_e, isT_t, isT_e, isOL_l, isOL_e, isL1_c, isInt_i, isSome_s, isOwL_l, isOwL_e, en_int, en_nat, en_bool, en_str, en_list, eL_1, eL_2, eL_3, eL_snoc, eL_snoc2, eL_app, eL_LL, eL_LL2, eL_LLs, addF_e, addF_t', addF_n, addF_n', lenF_e, lenF_e', toListF_e, toListF_e', toTupF_e, toTupF_e', cutF_e, cutF_e', cm_keep_skip, cm_keep_front, cm_keep_back, cm_front_skip, cm_front_front, cm_front_back, cm_back_skip, cm_back_front, cm_back_back, cm_remove_skip, cm_remove_front, cm_remove_back, nl0, nl1, nl2, nl3, nl4, nl5, nl6, nl7, nl8, nl9, nl10, nl11, nl12, Int.reduceEq, Int.reduceLT, Int.reduceLE, nat1c, natc1, natc2, natcA, cutA_btw, cutA_to, cutA_from, cutA_all, ixF_e0, ixF_e1, ixP_0, ixP_1, gtupP, pair_f, isF_Ln, isF_Tn, eqF_e, neF_e, inF_e, eqF_n, eqF_n', eqF_eL, neF_eL, eqF_eT, inF_nm, eL_pairs, pairs_e, rngD_e, eL_rev, eL_set, eL_erase, eL_ins, eL_ins', get_m, idx_len, sl0, sl1, sl2, sl3, sl4, sl5, sl6, sl7, sl8, sl9, sl10, sl11, sl12, en_keep, en_front, en_back, en_remove, en_skip, en_ofront, en_oback, en_inn, en_out, en_both, eqF_inn, eqF_out, eqF_both, neF_inn, neF_out, ixC_0, ixC_1, ixC_2, lenC, ixO_0, ixO_1, ixO_2, gtupC, gtupO, fate_a, fate_u, fate_f, fate_b, ent_i, ent_o, ent_b, inT_1, inT_2, inT_3, ofS, String.reduceEq, Bool.or_true, Bool.true_or, Bool.or_false, Bool.false_or, eq_self, ↓x_kill, ↓x_killN, ↓x_join, dropE_n, dropE_c, drop1_un, drop1_fz, drop1_ow, drop1_ot, Int.toNat_natCast, List.length_map, Option.map_some, Option.map_none]
  have e1 : ((((List.filter (fun x => !decide (x ∈ g)) p).length + g.length : Nat) : Int) - ((e : Int) - (b : Int))) = ((routeOf p g b e).length : Int) := by
    rw [hl]
    unfold outs
    omega
  rw [← e1] at hP
  exact hP
/-! ### _law_name -/
def S_law_name (d : D) (ds : List D) (P : R → D → Prop) : Prop := Tp d ∧ ds = [] ∧ ∀ (z : Str) t, IsName z → Tp t → P (.fz (.str z)) t
theorem name_n {d : D} {P : R → D → Prop} (ht : Tp d) (h : ∀ (z : Str) t, IsName z → Tp t → P (.fz (.str z)) t) : S_law_name d [] P := ⟨ht, rfl, h⟩
set_option maxHeartbeats 4000000 in
theorem ok_law_name (T : Tx K mg) : FnG P w K mg base 2 T.f_law_name T.fd_law_name 1 ["_law_tape_here"] (spT K 1 S_law_name) := by
  refine fn_T (m := 3) T.F_law_name sc_law_name rfl rfl fun {cdv A outer s H E} g room d ds PP hl hS => ?_
  refine ⟨_, _, (gb_cons (gs_set ge_str (gg_name 1 sc_law_name.nd))
      (gb_cons (gs_set (ge_ix ix_seq sr_ix (ge_lst (ga_cons ge_int (ga_cons ge_int (ga_cons ge_int (ga_cons ge_int (ga_cons (ge_op op_addG sr_add ge_int (ge_callT 0 (ok_law_draw T) g (room.mono (by decide)) (by rfl) T.g_law_draw T.F_law_draw.kp T.b_law_draw (ga_cons ge_int ga_nil))) (ga_cons ge_int ga_nil))))))) (ge_callT 0 (ok_law_draw T) g (room.mono (by decide)) (by rfl) T.g_law_draw T.F_law_draw.kp T.b_law_draw (ga_cons ge_int ga_nil)) (fun _ _ => rfl)) (gg_name 2 sc_law_name.nd))
      (gb_one (gs_ret (ge_join ge_str (ge_lc rfl sc_law_name.nd (gi_range1 rfl T.z_range (ga_cons (ge_var 2) ga_nil)) (blkOk_by (own := [("_law_k", 3)]) (N := N_law_name) (sc := defScope s_law_name) (by decide +kernel)) (fun _ _ _ _ _ => by exact (gg_name 3 sc_law_name.nd)) (fun _ _ _ _ _ => by refine ⟨_, gts_nil, ?_⟩; first | (dsimp only [Cx.blk]; done) | (dsimp only [Cx.blk]; exact rfl) | exact rfl) (fun _ _ _ _ _ => by refine ⟨_, (ge_ix ix_seq sr_ix (ge_var 1) (ge_callT 0 (ok_law_draw T) g (room.mono (by decide)) (by rfl) T.g_law_draw T.F_law_draw.kp T.b_law_draw (ga_cons ge_int ga_nil)) (fun _ _ => rfl)), ?_⟩; first | (dsimp only [Cx.blk]; done) | (dsimp only [Cx.blk]; exact rfl) | exact rfl))))))), ?_⟩
  obtain ⟨ht, rfl, hP⟩ := hS
  simp -dsimp only [↓x_seq, ↓x_next, ↓x_drop, ↓x_set, ↓x_setO, ↓x_name, ↓x_gnil, ↓x_gcons, ↓x_gtup, ↓x_bin, ↓x_var, ↓x_varF, ↓x_c, ↓x_1, ↓x_B, ↓x_and, ↓x_or, ↓x_not, ↓x_andV, ↓x_orV, ↓x_notV, ↓x_if, ↓x_ifS, ↓x_ret, ↓x_lst, ↓x_tup, ↓x_acons, ↓x_anil, ↓x_aug, ↓x_setIx, ↓x_call, ↓x_callT, ↓x_callK, ↓x_callD, ↓x_chain, ↓x_sl, ↓x_oS, ↓x_oN, ↓x_rep, ↓x_store, ↓x_app, ↓x_popAt, ↓x_insert, ↓x_ext, ↓x_strM, ↓x_listM, ↓x_isi, ↓x_LE, ↓x_yes, ↓x_iList, ↓x_iTup, ↓x_iStr, ↓x_iEnum, ↓x_iRange1, ↓x_iRange2, ↓x_for, ↓x_while, ↓x_lc, ↓x_rev, ↓x_pNil, ↓x_pCons, ↓x_dict, ↓x_dict0, ↓x_dget, cs_t, cs_f, ex_s, sh1, get_fz, get_ow, get_br, brD_ow, brD_fz, fzd_fz, fzd_ow, fzd_br, jO_un, jO_fz, jO_ow, jO_no, intF_i, intF0_i, addF_i, addF_s, addF_l, addF_t, mulF, mulSF_s, ne0F_l, subF, fdivF, modF, powF, ltF_i, ltF_s, leF, gtF, geF, absF_i, maxF, minF, lenF_l, lenF_t, lenF_s, toIntF_i, toIntF_b, toListF_l, toListF_t, toTupF_l, toTupF_t, negF_i, cutF_l, cutF_t, cutF_s, isF_bb, isF_nn, isF_ln, isF_sn, isF_in, isF_tn, List.map_cons, List.map_nil, List.cons_append, List.nil_append, List.replicate, List.getElem?_cons_zero, List.getElem?_cons_succ, List.set_cons_zero, List.set_cons_succ, List.length_cons, List.length_nil, if_true, if_false, Bool.false_eq_true, true_and, and_true, reduceCtorEq, ixF_0, ixF_1, ixF_2, ixF_t0, ixF_t1, ixF_t2, ixn0, ixn1, eqF_s, eqF_i, neF_s, neF_i, eqF_l, eqF_t, neF_l, Option.some.injEq, G.E.ow.injEq, exists_eq_left', exists_eq_left, exists_eq', exists_and_left, exists_and_right, exists_const, and_self, ne_eq, not_false_eq_true, decide_true, decide_false, Bool.not_true, Bool.not_false, restE, wipeE, List.getD_eq_getElem?_getD, Option.getD_some]
  refine draw_n ht (by decide) fun i d hi ht => ?_
  simp -dsimp only [↓x_seq, ↓x_next, ↓x_drop, ↓x_set, ↓x_setO, ↓x_name, ↓x_gnil, ↓x_gcons, ↓x_gtup, ↓x_bin, ↓x_var, ↓x_varF, ↓x_c, ↓x_1, ↓x_B, ↓x_and, ↓x_or, ↓x_not, ↓x_andV, ↓x_orV, ↓x_notV, ↓x_if, ↓x_ifS, ↓x_ret, ↓x_lst, ↓x_tup, ↓x_acons, ↓x_anil, ↓x_aug, ↓x_setIx, ↓x_call, ↓x_callT, ↓x_callK, ↓x_callD, ↓x_chain, ↓x_sl, ↓x_oS, ↓x_oN, ↓x_rep, ↓x_store, ↓x_app, ↓x_popAt, ↓x_insert, ↓x_ext, ↓x_strM, ↓x_listM, ↓x_isi, ↓x_LE, ↓x_yes, ↓x_iList, ↓x_iTup, ↓x_iStr, ↓x_iEnum, ↓x_iRange1, ↓x_iRange2, ↓x_for, ↓x_while, ↓x_lc, ↓x_rev, ↓x_pNil, ↓x_pCons, ↓x_dict, ↓x_dict0, ↓x_dget, cs_t, cs_f, ex_s, sh1, get_fz, get_ow, get_br, brD_ow, brD_fz, fzd_fz, fzd_ow, fzd_br, jO_un, jO_fz, jO_ow, jO_no, intF_i, intF0_i, addF_i, addF_s, addF_l, addF_t, mulF, mulSF_s, ne0F_l, subF, fdivF, modF, powF, ltF_i, ltF_s, leF, gtF, geF, absF_i, maxF, minF, lenF_l, lenF_t, lenF_s, toIntF_i, toIntF_b, toListF_l, toListF_t, toTupF_l, toTupF_t, negF_i, cutF_l, cutF_t, cutF_s, isF_bb, isF_nn, isF_ln, isF_sn, isF_in, isF_tn, List.map_cons, List.map_nil, List.cons_append, List.nil_append, List.replicate, List.getElem?_cons_zero, List.getElem?_cons_succ, List.set_cons_zero, List.set_cons_succ, List.length_cons, List.length_nil, if_true, if_false, Bool.false_eq_true, true_and, and_true, reduceCtorEq, ixF_0, ixF_1, ixF_2, ixF_t0, ixF_t1, ixF_t2, ixn0, ixn1, eqF_s, eqF_i, neF_s, neF_i, eqF_l, eqF_t, neF_l, Option.some.injEq, G.E.ow.injEq, exists_eq_left', exists_eq_left, exists_eq', exists_and_left, exists_and_right, exists_const, and_self, ne_eq, not_false_eq_true, decide_true, decide_false, Bool.not_true, Bool.not_false, restE, wipeE, List.getD_eq_getElem?_getD, Option.getD_some]
  refine ⟨by decide, draw_n ht (by decide) fun j d hj ht => ?_⟩
  simp -dsimp only [↓x_seq, ↓x_next, ↓x_drop, ↓x_set, ↓x_setO, ↓x_name, ↓x_gnil, ↓x_gcons, ↓x_gtup, ↓x_bin, ↓x_var, ↓x_varF, ↓x_c, ↓x_1, ↓x_B, ↓x_and, ↓x_or, ↓x_not, ↓x_andV, ↓x_orV, ↓x_notV, ↓x_if, ↓x_ifS, ↓x_ret, ↓x_lst, ↓x_tup, ↓x_acons, ↓x_anil, ↓x_aug, ↓x_setIx, ↓x_call, ↓x_callT, ↓x_callK, ↓x_callD, ↓x_chain, ↓x_sl, ↓x_oS, ↓x_oN, ↓x_rep, ↓x_store, ↓x_app, ↓x_popAt, ↓x_insert, ↓x_ext, ↓x_strM, ↓x_listM, ↓x_isi, ↓x_LE, ↓x_yes, ↓x_iList, ↓x_iTup, ↓x_iStr, ↓x_iEnum, ↓x_iRange1, ↓x_iRange2, ↓x_for, ↓x_while, ↓x_lc, ↓x_rev, ↓x_pNil, ↓x_pCons, ↓x_dict, ↓x_dict0, ↓x_dget, cs_t, cs_f, ex_s, sh1, get_fz, get_ow, get_br, brD_ow, brD_fz, fzd_fz, fzd_ow, fzd_br, jO_un, jO_fz, jO_ow, jO_no, intF_i, intF0_i, addF_i, addF_s, addF_l, addF_t, mulF, mulSF_s, ne0F_l, subF, fdivF, modF, powF, ltF_i, ltF_s, leF, gtF, geF, absF_i, maxF, minF, lenF_l, lenF_t, lenF_s, toIntF_i, toIntF_b, toListF_l, toListF_t, toTupF_l, toTupF_t, negF_i, cutF_l, cutF_t, cutF_s, isF_bb, isF_nn, isF_ln, isF_sn, isF_in, isF_tn, List.map_cons, List.map_nil, List.cons_append, List.nil_append, List.replicate, List.getElem?_cons_zero, List.getElem?_cons_succ, List.set_cons_zero, List.set_cons_succ, List.length_cons, List.length_nil, if_true, if_false, Bool.false_eq_true, true_and, and_true, reduceCtorEq, ixF_0, ixF_1, ixF_2, ixF_t0, ixF_t1, ixF_t2, ixn0, ixn1, eqF_s, eqF_i, neF_s, neF_i, eqF_l, eqF_t, neF_l, Option.some.injEq, G.E.ow.injEq, exists_eq_left', exists_eq_left, exists_eq', exists_and_left, exists_and_right, exists_const, and_self, ne_eq, not_false_eq_true, decide_true, decide_false, Bool.not_true, Bool.not_false, restE, wipeE, List.getD_eq_getElem?_getD, Option.getD_some]
  refine ix_mem (by simp only [List.length_cons, List.length_nil]; omega) fun x hx => ?_
  obtain ⟨n, rfl, hn⟩ : ∃ n : Nat, x = .int n ∧ 1 ≤ n ∧ n ≤ 12 := by
    simp only [List.mem_cons, List.not_mem_nil, or_false] at hx
    rcases hx with rfl | rfl | rfl | rfl | rfl | rfl
    · exact ⟨1, rfl, by decide, by decide⟩
    · exact ⟨1, rfl, by decide, by decide⟩
    · exact ⟨2, rfl, by decide, by decide⟩
    · exact ⟨3, rfl, by decide, by decide⟩
    · exact ⟨1 + i, rfl, by omega, by omega⟩
    · exact ⟨12, rfl, by decide, by decide⟩
  simp -dsimp only [↓x_seq, ↓x_next, ↓x_drop, ↓x_set, ↓x_setO, ↓x_name, ↓x_gnil, ↓x_gcons, ↓x_gtup, ↓x_bin, ↓x_var, ↓x_varF, ↓x_c, ↓x_1, ↓x_B, ↓x_and, ↓x_or, ↓x_not, ↓x_andV, ↓x_orV, ↓x_notV, ↓x_if, ↓x_ifS, ↓x_ret, ↓x_lst, ↓x_tup, ↓x_acons, ↓x_anil, ↓x_aug, ↓x_setIx, ↓x_call, ↓x_callT, ↓x_callK, ↓x_callD, ↓x_chain, ↓x_sl, ↓x_oS, ↓x_oN, ↓x_rep, ↓x_store, ↓x_app, ↓x_popAt, ↓x_insert, ↓x_ext, ↓x_strM, ↓x_listM, ↓x_isi, ↓x_LE, ↓x_yes, ↓x_iList, ↓x_iTup, ↓x_iStr, ↓x_iEnum, ↓x_iRange1, ↓x_iRange2, ↓x_for, ↓x_while, ↓x_lc, ↓x_rev, ↓x_pNil, ↓x_pCons, ↓x_dict, ↓x_dict0, ↓x_dget, cs_t, cs_f, ex_s, sh1, get_fz, get_ow, get_br, brD_ow, brD_fz, fzd_fz, fzd_ow, fzd_br, jO_un, jO_fz, jO_ow, jO_no, intF_i, intF0_i, addF_i, addF_s, addF_l, addF_t, mulF, mulSF_s, ne0F_l, subF, fdivF, modF, powF, ltF_i, ltF_s, leF, gtF, geF, absF_i, maxF, minF, lenF_l, lenF_t, lenF_s, toIntF_i, toIntF_b, toListF_l, toListF_t, toTupF_l, toTupF_t, negF_i, cutF_l, cutF_t, cutF_s, isF_bb, isF_nn, isF_ln, isF_sn, isF_in, isF_tn, List.map_cons, List.map_nil, List.cons_append, List.nil_append, List.replicate, List.getElem?_cons_zero, List.getElem?_cons_succ, List.set_cons_zero, List.set_cons_succ, List.length_cons, List.length_nil, if_true, if_false, Bool.false_eq_true, true_and, and_true, reduceCtorEq, ixF_0, ixF_1, ixF_2, ixF_t0, ixF_t1, ixF_t2, ixn0, ixn1, eqF_s, eqF_i, neF_s, neF_i, eqF_l, eqF_t, neF_l, Option.some.injEq, G.E.ow.injEq, exists_eq_left', exists_eq_left, exists_eq', exists_and_left, exists_and_right, exists_const, and_self, ne_eq, not_false_eq_true, decide_true, decide_false, Bool.not_true, Bool.not_false, restE, wipeE, List.getD_eq_getElem?_getD, Option.getD_some]
  refine ⟨⟨by omega, by omega⟩, lc_i (fun acc l e => ∃ t, ∃ cs : List Nat, e = [.ow true t, .fz (.str chars), .fz (.int n), .un] ∧ Tp t ∧ acc = cs.map (fun c => .str (sg c)) ∧ acc.length + l.length = n ∧ ∀ c ∈ cs, c ∈ chars.cps.toList) (by rw [rngD_length]; exact sz0 (by omega)) ⟨d, [], rfl, ht, rfl, by rw [rngD_length]; exact Nat.zero_add _, fun _ h => nomatch h⟩ ?_ ?_⟩
  · rintro acc y l e ⟨t, cs, rfl, ht, rfl, hl, hc⟩
    simp -dsimp only [↓x_seq, ↓x_next, ↓x_drop, ↓x_set, ↓x_setO, ↓x_name, ↓x_gnil, ↓x_gcons, ↓x_gtup, ↓x_bin, ↓x_var, ↓x_varF, ↓x_c, ↓x_1, ↓x_B, ↓x_and, ↓x_or, ↓x_not, ↓x_andV, ↓x_orV, ↓x_notV, ↓x_if, ↓x_ifS, ↓x_ret, ↓x_lst, ↓x_tup, ↓x_acons, ↓x_anil, ↓x_aug, ↓x_setIx, ↓x_call, ↓x_callT, ↓x_callK, ↓x_callD, ↓x_chain, ↓x_sl, ↓x_oS, ↓x_oN, ↓x_rep, ↓x_store, ↓x_app, ↓x_popAt, ↓x_insert, ↓x_ext, ↓x_strM, ↓x_listM, ↓x_isi, ↓x_LE, ↓x_yes, ↓x_iList, ↓x_iTup, ↓x_iStr, ↓x_iEnum, ↓x_iRange1, ↓x_iRange2, ↓x_for, ↓x_while, ↓x_lc, ↓x_rev, ↓x_pNil, ↓x_pCons, ↓x_dict, ↓x_dict0, ↓x_dget, cs_t, cs_f, ex_s, sh1, get_fz, get_ow, get_br, brD_ow, brD_fz, fzd_fz, fzd_ow, fzd_br, jO_un, jO_fz, jO_ow, jO_no, intF_i, intF0_i, addF_i, addF_s, addF_l, addF_t, mulF, mulSF_s, ne0F_l, subF, fdivF, modF, powF, ltF_i, ltF_s, leF, gtF, geF, absF_i, maxF, minF, lenF_l, lenF_t, lenF_s, toIntF_i, toIntF_b, toListF_l, toListF_t, toTupF_l, toTupF_t, negF_i, cutF_l, cutF_t, cutF_s, isF_bb, isF_nn, isF_ln, isF_sn, isF_in, isF_tn, List.map_cons, List.map_nil, List.cons_append, List.nil_append, List.replicate, List.getElem?_cons_zero, List.getElem?_cons_succ, List.set_cons_zero, List.set_cons_succ, List.length_cons, List.length_nil, if_true, if_false, Bool.false_eq_true, true_and, and_true, reduceCtorEq, ixF_0, ixF_1, ixF_2, ixF_t0, ixF_t1, ixF_t2, ixn0, ixn1, eqF_s, eqF_i, neF_s, neF_i, eqF_l, eqF_t, neF_l, Option.some.injEq, G.E.ow.injEq, exists_eq_left', exists_eq_left, exists_eq', exists_and_left, exists_and_right, exists_const, and_self, ne_eq, not_false_eq_true, decide_true, decide_false, Bool.not_true, Bool.not_false, restE, wipeE, List.getD_eq_getElem?_getD, Option.getD_some]
    refine draw_n ht (by decide) fun j d hj ht => ?_
    simp -dsimp only [↓x_seq, ↓x_next, ↓x_drop, ↓x_set, ↓x_setO, ↓x_name, ↓x_gnil, ↓x_gcons, ↓x_gtup, ↓x_bin, ↓x_var, ↓x_varF, ↓x_c, ↓x_1, ↓x_B, ↓x_and, ↓x_or, ↓x_not, ↓x_andV, ↓x_orV, ↓x_notV, ↓x_if, ↓x_ifS, ↓x_ret, ↓x_lst, ↓x_tup, ↓x_acons, ↓x_anil, ↓x_aug, ↓x_setIx, ↓x_call, ↓x_callT, ↓x_callK, ↓x_callD, ↓x_chain, ↓x_sl, ↓x_oS, ↓x_oN, ↓x_rep, ↓x_store, ↓x_app, ↓x_popAt, ↓x_insert, ↓x_ext, ↓x_strM, ↓x_listM, ↓x_isi, ↓x_LE, ↓x_yes, ↓x_iList, ↓x_iTup, ↓x_iStr, ↓x_iEnum, ↓x_iRange1, ↓x_iRange2, ↓x_for, ↓x_while, ↓x_lc, ↓x_rev, ↓x_pNil, ↓x_pCons, ↓x_dict, ↓x_dict0, ↓x_dget, cs_t, cs_f, ex_s, sh1, get_fz, get_ow, get_br, brD_ow, brD_fz, fzd_fz, fzd_ow, fzd_br, jO_un, jO_fz, jO_ow, jO_no, intF_i, intF0_i, addF_i, addF_s, addF_l, addF_t, mulF, mulSF_s, ne0F_l, subF, fdivF, modF, powF, ltF_i, ltF_s, leF, gtF, geF, absF_i, maxF, minF, lenF_l, lenF_t, lenF_s, toIntF_i, toIntF_b, toListF_l, toListF_t, toTupF_l, toTupF_t, negF_i, cutF_l, cutF_t, cutF_s, isF_bb, isF_nn, isF_ln, isF_sn, isF_in, isF_tn, List.map_cons, List.map_nil, List.cons_append, List.nil_append, List.replicate, List.getElem?_cons_zero, List.getElem?_cons_succ, List.set_cons_zero, List.set_cons_succ, List.length_cons, List.length_nil, if_true, if_false, Bool.false_eq_true, true_and, and_true, reduceCtorEq, ixF_0, ixF_1, ixF_2, ixF_t0, ixF_t1, ixF_t2, ixn0, ixn1, eqF_s, eqF_i, neF_s, neF_i, eqF_l, eqF_t, neF_l, Option.some.injEq, G.E.ow.injEq, exists_eq_left', exists_eq_left, exists_eq', exists_and_left, exists_and_right, exists_const, and_self, ne_eq, not_false_eq_true, decide_true, decide_false, Bool.not_true, Bool.not_false, restE, wipeE, List.getD_eq_getElem?_getD, Option.getD_some]
    refine ix_memS (show j < 39 by omega) (by decide +kernel) fun c hcc => ?_
    simp -dsimp only [↓x_seq, ↓x_next, ↓x_drop, ↓x_set, ↓x_setO, ↓x_name, ↓x_gnil, ↓x_gcons, ↓x_gtup, ↓x_bin, ↓x_var, ↓x_varF, ↓x_c, ↓x_1, ↓x_B, ↓x_and, ↓x_or, ↓x_not, ↓x_andV, ↓x_orV, ↓x_notV, ↓x_if, ↓x_ifS, ↓x_ret, ↓x_lst, ↓x_tup, ↓x_acons, ↓x_anil, ↓x_aug, ↓x_setIx, ↓x_call, ↓x_callT, ↓x_callK, ↓x_callD, ↓x_chain, ↓x_sl, ↓x_oS, ↓x_oN, ↓x_rep, ↓x_store, ↓x_app, ↓x_popAt, ↓x_insert, ↓x_ext, ↓x_strM, ↓x_listM, ↓x_isi, ↓x_LE, ↓x_yes, ↓x_iList, ↓x_iTup, ↓x_iStr, ↓x_iEnum, ↓x_iRange1, ↓x_iRange2, ↓x_for, ↓x_while, ↓x_lc, ↓x_rev, ↓x_pNil, ↓x_pCons, ↓x_dict, ↓x_dict0, ↓x_dget, cs_t, cs_f, ex_s, sh1, get_fz, get_ow, get_br, brD_ow, brD_fz, fzd_fz, fzd_ow, fzd_br, jO_un, jO_fz, jO_ow, jO_no, intF_i, intF0_i, addF_i, addF_s, addF_l, addF_t, mulF, mulSF_s, ne0F_l, subF, fdivF, modF, powF, ltF_i, ltF_s, leF, gtF, geF, absF_i, maxF, minF, lenF_l, lenF_t, lenF_s, toIntF_i, toIntF_b, toListF_l, toListF_t, toTupF_l, toTupF_t, negF_i, cutF_l, cutF_t, cutF_s, isF_bb, isF_nn, isF_ln, isF_sn, isF_in, isF_tn, List.map_cons, List.map_nil, List.cons_append, List.nil_append, List.replicate, List.getElem?_cons_zero, List.getElem?_cons_succ, List.set_cons_zero, List.set_cons_succ, List.length_cons, List.length_nil, if_true, if_false, Bool.false_eq_true, true_and, and_true, reduceCtorEq, ixF_0, ixF_1, ixF_2, ixF_t0, ixF_t1, ixF_t2, ixn0, ixn1, eqF_s, eqF_i, neF_s, neF_i, eqF_l, eqF_t, neF_l, Option.some.injEq, G.E.ow.injEq, exists_eq_left', exists_eq_left, exists_eq', exists_and_left, exists_and_right, exists_const, and_self, ne_eq, not_false_eq_true, decide_true, decide_false, Bool.not_true, Bool.not_false, restE, wipeE, List.getD_eq_getElem?_getD, Option.getD_some]
    refine ⟨d, rfl, ht, cs ++ [c], by simp [sg], by simp at hl ⊢; omega, fun x hx => ?_⟩
    rcases List.mem_append.mp hx with h | h
    · exact hc x h
    · cases List.mem_singleton.mp h; exact hcc
  · rintro acc e ⟨t, cs, rfl, ht, rfl, hl, hc⟩
    have hl : cs.length = n := by simpa using hl
    simp -dsimp only [↓x_seq, ↓x_next, ↓x_drop, ↓x_set, ↓x_setO, ↓x_name, ↓x_gnil, ↓x_gcons, ↓x_gtup, ↓x_bin, ↓x_var, ↓x_varF, ↓x_c, ↓x_1, ↓x_B, ↓x_and, ↓x_or, ↓x_not, ↓x_andV, ↓x_orV, ↓x_notV, ↓x_if, ↓x_ifS, ↓x_ret, ↓x_lst, ↓x_tup, ↓x_acons, ↓x_anil, ↓x_aug, ↓x_setIx, ↓x_call, ↓x_callT, ↓x_callK, ↓x_callD, ↓x_chain, ↓x_sl, ↓x_oS, ↓x_oN, ↓x_rep, ↓x_store, ↓x_app, ↓x_popAt, ↓x_insert, ↓x_ext, ↓x_strM, ↓x_listM, ↓x_isi, ↓x_LE, ↓x_yes, ↓x_iList, ↓x_iTup, ↓x_iStr, ↓x_iEnum, ↓x_iRange1, ↓x_iRange2, ↓x_for, ↓x_while, ↓x_lc, ↓x_rev, ↓x_pNil, ↓x_pCons, ↓x_dict, ↓x_dict0, ↓x_dget, cs_t, cs_f, ex_s, sh1, get_fz, get_ow, get_br, brD_ow, brD_fz, fzd_fz, fzd_ow, fzd_br, jO_un, jO_fz, jO_ow, jO_no, intF_i, intF0_i, addF_i, addF_s, addF_l, addF_t, mulF, mulSF_s, ne0F_l, subF, fdivF, modF, powF, ltF_i, ltF_s, leF, gtF, geF, absF_i, maxF, minF, lenF_l, lenF_t, lenF_s, toIntF_i, toIntF_b, toListF_l, toListF_t, toTupF_l, toTupF_t, negF_i, cutF_l, cutF_t, cutF_s, isF_bb, isF_nn, isF_ln, isF_sn, isF_in, isF_tn, List.map_cons, List.map_nil, List.cons_append, List.nil_append, List.replicate, List.getElem?_cons_zero, List.getElem?_cons_succ, List.set_cons_zero, List.set_cons_succ, List.length_cons, List.length_nil, if_true, if_false, Bool.false_eq_true, true_and, and_true, reduceCtorEq, ixF_0, ixF_1, ixF_2, ixF_t0, ixF_t1, ixF_t2, ixn0, ixn1, eqF_s, eqF_i, neF_s, neF_i, eqF_l, eqF_t, neF_l, Option.some.injEq, G.E.ow.injEq, exists_eq_left', exists_eq_left, exists_eq', exists_and_left, exists_and_right, exists_const, and_self, ne_eq, not_false_eq_true, decide_true, decide_false, Bool.not_true, Bool.not_false, restE, wipeE, List.getD_eq_getElem?_getD, Option.getD_some]
    refine join_sg (by omega) ?_
    simp -dsimp only [↓x_seq, ↓x_next, ↓x_drop, ↓x_set, ↓x_setO, ↓x_name, ↓x_gnil, ↓x_gcons, ↓x_gtup, ↓x_bin, ↓x_var, ↓x_varF, ↓x_c, ↓x_1, ↓x_B, ↓x_and, ↓x_or, ↓x_not, ↓x_andV, ↓x_orV, ↓x_notV, ↓x_if, ↓x_ifS, ↓x_ret, ↓x_lst, ↓x_tup, ↓x_acons, ↓x_anil, ↓x_aug, ↓x_setIx, ↓x_call, ↓x_callT, ↓x_callK, ↓x_callD, ↓x_chain, ↓x_sl, ↓x_oS, ↓x_oN, ↓x_rep, ↓x_store, ↓x_app, ↓x_popAt, ↓x_insert, ↓x_ext, ↓x_strM, ↓x_listM, ↓x_isi, ↓x_LE, ↓x_yes, ↓x_iList, ↓x_iTup, ↓x_iStr, ↓x_iEnum, ↓x_iRange1, ↓x_iRange2, ↓x_for, ↓x_while, ↓x_lc, ↓x_rev, ↓x_pNil, ↓x_pCons, ↓x_dict, ↓x_dict0, ↓x_dget, cs_t, cs_f, ex_s, sh1, get_fz, get_ow, get_br, brD_ow, brD_fz, fzd_fz, fzd_ow, fzd_br, jO_un, jO_fz, jO_ow, jO_no, intF_i, intF0_i, addF_i, addF_s, addF_l, addF_t, mulF, mulSF_s, ne0F_l, subF, fdivF, modF, powF, ltF_i, ltF_s, leF, gtF, geF, absF_i, maxF, minF, lenF_l, lenF_t, lenF_s, toIntF_i, toIntF_b, toListF_l, toListF_t, toTupF_l, toTupF_t, negF_i, cutF_l, cutF_t, cutF_s, isF_bb, isF_nn, isF_ln, isF_sn, isF_in, isF_tn, List.map_cons, List.map_nil, List.cons_append, List.nil_append, List.replicate, List.getElem?_cons_zero, List.getElem?_cons_succ, List.set_cons_zero, List.set_cons_succ, List.length_cons, List.length_nil, if_true, if_false, Bool.false_eq_true, true_and, and_true, reduceCtorEq, ixF_0, ixF_1, ixF_2, ixF_t0, ixF_t1, ixF_t2, ixn0, ixn1, eqF_s, eqF_i, neF_s, neF_i, eqF_l, eqF_t, neF_l, Option.some.injEq, G.E.ow.injEq, exists_eq_left', exists_eq_left, exists_eq', exists_and_left, exists_and_right, exists_const, and_self, ne_eq, not_false_eq_true, decide_true, decide_false, Bool.not_true, Bool.not_false, restE, wipeE, List.getD_eq_getElem?_getD, Option.getD_some]
    exact hP _ _ ⟨by show 1 ≤ cs.toArray.size; rw [List.size_toArray]; omega, by show cs.toArray.size ≤ 12; rw [List.size_toArray]; omega, by simpa using hc⟩ ht
/-! ### _law_script -/
def S_law_script (d : D) (ds : List D) (P : R → D → Prop) : Prop := Tp d ∧ ∃ (ns : List Nm) (n : Nat), ds = [eL ns, .int n] ∧ ns ≠ [] ∧ ns.length ≤ 1000 ∧ n ≤ 1000 ∧ ∀ (cs : List Cm) t, cs.length = n → (∀ c ∈ cs, c.nm ∈ ns) → Tp t → P (.ow (eL cs)) t
theorem script_n {d : D} {ns : List Nm} {n : Nat} {P : R → D → Prop} (ht : Tp d) (h1 : ns ≠ []) (h2 : ns.length ≤ 1000) (h3 : n ≤ 1000) (h : ∀ (cs : List Cm) t, cs.length = n → (∀ c ∈ cs, c.nm ∈ ns) → Tp t → P (.ow (eL cs)) t) : S_law_script d [eL ns, .int n] P := ⟨ht, ns, n, rfl, h1, h2, h3, h⟩
theorem ix_ins {i : Nat} {k : R → Prop} (h : i < 4) (q : ∀ a : Ins, k (.fz (en a))) : ixF (.list [.str "keep", .str "front", .str "back", .str "remove"]) (.int (i : Int)) k := by
  have : ixF (eL [Ins.keep, Ins.front, Ins.back, Ins.remove]) (.int (i : Int)) k := ixL (xs := [Ins.keep, Ins.front, Ins.back, Ins.remove]) (by simpa using h) (q _)
  exact this
theorem ix_outs {i : Nat} {k : R → Prop} (h : i < 3) (q : ∀ a : Out, k (.fz (en a))) : ixF (.list [.str "skip", .str "front", .str "back"]) (.int (i : Int)) k := by
  have : ixF (eL [Out.skip, Out.front, Out.back]) (.int (i : Int)) k := ixL (xs := [Out.skip, Out.front, Out.back]) (by simpa using h) (q _)
  exact this
set_option maxHeartbeats 4000000 in
theorem ok_law_script (T : Tx K mg) : FnG P w K mg base 2 T.f_law_script T.fd_law_script 3 ["_law_tape_here", "_law_names_here", "_law_count"] (spT K 3 S_law_script) := by
  refine fn_T (m := 4) T.F_law_script sc_law_script rfl rfl fun {cdv A outer s H E} g room d ds PP hl hS => ?_
  refine ⟨_, _, (gb_cons (gs_setO (i := 3) (ge_lst ga_nil) sc_law_script.nd)
      (gb_kill [4, 5, 6] (gb_cons (gs_for PassesOwn.never rfl (gi_range1 rfl T.z_range (ga_cons (ge_var 2) ga_nil)) (gg_name 4 sc_law_script.nd)
      (gb_killN [4, 5, 6] (gb_cons (gs_set (ge_ix ix_seq sr_ix (ge_var 1) (ge_callT 0 (ok_law_draw T) g (room.mono (by decide)) (by rfl) T.g_law_draw T.F_law_draw.kp T.b_law_draw (ga_cons (ge_b1 call_lenG sc_len rfl T.z_len (by decide +kernel) (ge_var 1)) ga_nil)) (fun _ _ => rfl)) (gg_name 5 sc_law_script.nd))
      (gb_cons (gs_set (ge_ix ix_seq sr_ix (ge_lst (ga_cons ge_str (ga_cons ge_str (ga_cons ge_str (ga_cons ge_str ga_nil))))) (ge_callT 0 (ok_law_draw T) g (room.mono (by decide)) (by rfl) T.g_law_draw T.F_law_draw.kp T.b_law_draw (ga_cons ge_int ga_nil)) (fun _ _ => rfl)) (gg_name 6 sc_law_script.nd))
      (gb_one (gs_expr (ge_append 3 (ge_tup (ga_cons (ge_var 5) (ga_cons (ge_var 6) (ga_cons (ge_ix ix_seq sr_ix (ge_lst (ga_cons ge_str (ga_cons ge_str (ga_cons ge_str ga_nil)))) (ge_callT 0 (ok_law_draw T) g (room.mono (by decide)) (by rfl) T.g_law_draw T.F_law_draw.kp T.b_law_draw (ga_cons ge_int ga_nil)) (fun _ _ => rfl)) ga_nil)))))))))))
      (gb_one (gs_ret (ge_var 3)))))), ?_⟩
  obtain ⟨ht, ns, n, rfl, hne, hns, hn, hP⟩ := hS
  have hp : 0 < ns.length := List.length_pos_iff.mpr hne
  simp -dsimp only [↓x_seq, ↓x_next, ↓x_drop, ↓x_set, ↓x_setO, ↓x_name, ↓x_gnil, ↓x_gcons, ↓x_gtup, ↓x_bin, ↓x_var, ↓x_varF, ↓x_c, ↓x_1, ↓x_B, ↓x_and, ↓x_or, ↓x_not, ↓x_andV, ↓x_orV, ↓x_notV, ↓x_if, ↓x_ifS, ↓x_ret, ↓x_lst, ↓x_tup, ↓x_acons, ↓x_anil, ↓x_aug, ↓y_setIx, ↓x_call, ↓x_callT, ↓x_callK, ↓x_callD, ↓x_chain, ↓x_sl, ↓x_oS, ↓x_oN, ↓x_rep, ↓y_store, ↓x_app, ↓y_popAt, ↓y_insert, ↓y_ext, ↓x_strM, ↓x_listM, ↓x_isi, ↓y_LE, ↓x_yes, ↓y_iList, ↓y_iTup, ↓x_iStr, ↓y_iEnum, ↓x_iRange1, ↓x_iRange2, ↓x_for, ↓x_while, ↓x_lc, ↓y_rev, ↓x_pNil, ↓x_pCons, ↓x_dict, ↓x_dict0, ↓x_dget, cs_t, cs_f, ex_s, sh1, get_fz, get_ow, get_br, brD_ow, brD_fz, fzd_fz, fzd_ow, fzd_br, jO_un, jO_fz, jO_ow, jO_no, intF_i, intF0_i, addF_i, addF_s, addF_l, addF_t, mulF, mulSF_s, ne0F_l, subF, fdivF, modF, powF, ltF_i, ltF_s, leF, gtF, geF, absF_i, maxF, minF, lenF_l, lenF_t, lenF_s, toIntF_i, toIntF_b, toListF_l, toListF_t, toTupF_l, toTupF_t, negF_i, cutF_l, cutF_t, cutF_s, isF_bb, isF_nn, isF_ln, isF_sn, isF_in, isF_tn, List.map_cons, List.map_nil, List.cons_append, List.nil_append, List.replicate, List.getElem?_cons_zero, List.getElem?_cons_succ, List.set_cons_zero, List.set_cons_succ, List.length_cons, List.length_nil, if_true, if_false, Bool.false_eq_true, true_and, and_true, reduceCtorEq, ixF_0, ixF_1, ixF_2, ixF_t0, ixF_t1, ixF_t2, ixn0, ixn1, eqF_s, eqF_i, neF_s, neF_i, eqF_l, eqF_t, neF_l, Option.some.injEq, G.E.ow.injEq, exists_eq_left', exists_eq_left, exists_eq', exists_const, and_self, ne_eq, not_false_eq_true, decide_true, decide_false, Bool.not_true, Bool.not_false, restE, wipeE, List.getD_eq_getElem?_getD, Option.getD_some, eqF_bb, neF_bb, ↓y_iRev, ↓x_sset, ↓x_lset, sortF_e, t3_f, t4_f, gtup3, gtup4, ixT3_0, ixT3_1, ixT3_2, ↓x_callB, ↓x_frz, ↓x_rnil, ↓x_rcons, argsD_n, argsD_c, consO_s, argD_f, argD_b, argB_l, argB_e, argB_f, noLR_e, noLR_t, noLR_a, noLR_i, noLR_b, noLR_s, noLR_n, ↓x_pop, eL_drop, eL_i1, ↓x_callN, isOw_o, ex_bd, en_epf, en_epb, ixFa_0, ixFa_1f, ixFa_1b, fs_a, fs_u, fs_f, fs_b, t3_i, t3_o, t3_c, t2_n, t3_n, ne0F_e, isF_fate, not_true_eq_false, Int.reduceSub, Int.reduceAdd, isL_l, isL_e, isT_t, isT_e, isOL_l, isOL_e, isL1_c, isInt_i, isSome_s, isOwL_l, isOwL_e, en_int, en_nat, en_bool, en_str, en_list, eL_1, eL_2, eL_3, eL_snoc, eL_snoc2, eL_app, eL_LL, eL_LL2, eL_LLs, addF_e, addF_t', addF_n, addF_n', lenF_e, lenF_e', toListF_e, toListF_e', toTupF_e, toTupF_e', cutF_e, cutF_e', cm_keep_skip, cm_keep_front, cm_keep_back, cm_front_skip, cm_front_front, cm_front_back, cm_back_skip, cm_back_front, cm_back_back, cm_remove_skip, cm_remove_front, cm_remove_back, nl0, nl1, nl2, nl3, nl4, nl5, nl6, nl7, nl8, nl9, nl10, nl11, nl12, Int.reduceEq, Int.reduceLT, Int.reduceLE, nat1c, natc1, natc2, natcA, cutA_btw, cutA_to, cutA_from, cutA_all, ixF_e0, ixF_e1, ixP_0, ixP_1, gtupP, pair_f, isF_Ln, isF_Tn, eqF_e, neF_e, inF_e, eqF_n, eqF_n', eqF_eL, neF_eL, eqF_eT, inF_nm, eL_pairs, pairs_e, rngD_e, eL_rev, eL_set, eL_erase, eL_ins, eL_ins', get_m, idx_len, sl0, sl1, sl2, sl3, sl4, sl5, sl6, sl7, sl8, sl9, sl10, sl11, sl12, en_keep, en_front, en_back, en_remove, en_skip, en_ofront, en_oback, en_inn, en_out, en_both, eqF_inn, eqF_out, eqF_both, neF_inn, neF_out, ixC_0, ixC_1, ixC_2, lenC, ixO_0, ixO_1, ixO_2, gtupC, gtupO, fate_a, fate_u, fate_f, fate_b, ent_i, ent_o, ent_b, inT_1, inT_2, inT_3, ofS, String.reduceEq, Bool.or_true, Bool.true_or, Bool.or_false, Bool.false_or, eq_self, ↓x_kill, ↓x_killN, ↓x_join, dropE_n, dropE_c, drop1_un, drop1_fz, drop1_ow, drop1_ot, Int.toNat_natCast, List.length_map, Option.map_some, Option.map_none]
  refine ⟨⟨by omega, by omega⟩, for_t (fun l e => ∃ (t : D) (cs : List Cm), e = [(.ow true t : G.E), (.fz (eL ns) : G.E), (.fz (.int n) : G.E), (.ow false (eL cs) : G.E), .un, .un, .un] ∧ Tp t ∧ cs.length + l.length = n ∧ ∀ c ∈ cs, c.nm ∈ ns) ⟨d, [], rfl, ht, by simp, by simp⟩ ?_ ?_⟩
  · rintro y l e ⟨t, cs, rfl, ht, hl, hcs⟩
    rw [List.length_cons] at hl
    simp -dsimp only [↓x_seq, ↓x_next, ↓x_drop, ↓x_set, ↓x_setO, ↓x_name, ↓x_gnil, ↓x_gcons, ↓x_gtup, ↓x_bin, ↓x_var, ↓x_varF, ↓x_c, ↓x_1, ↓x_B, ↓x_and, ↓x_or, ↓x_not, ↓x_andV, ↓x_orV, ↓x_notV, ↓x_if, ↓x_ifS, ↓x_ret, ↓x_lst, ↓x_tup, ↓x_acons, ↓x_anil, ↓x_aug, ↓y_setIx, ↓x_call, ↓x_callT, ↓x_callK, ↓x_callD, ↓x_chain, ↓x_sl, ↓x_oS, ↓x_oN, ↓x_rep, ↓y_store, ↓x_app, ↓y_popAt, ↓y_insert, ↓y_ext, ↓x_strM, ↓x_listM, ↓x_isi, ↓y_LE, ↓x_yes, ↓y_iList, ↓y_iTup, ↓x_iStr, ↓y_iEnum, ↓x_iRange1, ↓x_iRange2, ↓x_for, ↓x_while, ↓x_lc, ↓y_rev, ↓x_pNil, ↓x_pCons, ↓x_dict, ↓x_dict0, ↓x_dget, cs_t, cs_f, ex_s, sh1, get_fz, get_ow, get_br, brD_ow, brD_fz, fzd_fz, fzd_ow, fzd_br, jO_un, jO_fz, jO_ow, jO_no, intF_i, intF0_i, addF_i, addF_s, addF_l, addF_t, mulF, mulSF_s, ne0F_l, subF, fdivF, modF, powF, ltF_i, ltF_s, leF, gtF, geF, absF_i, maxF, minF, lenF_l, lenF_t, lenF_s, toIntF_i, toIntF_b, toListF_l, toListF_t, toTupF_l, toTupF_t, negF_i, cutF_l, cutF_t, cutF_s, isF_bb, isF_nn, isF_ln, isF_sn, isF_in, isF_tn, List.map_cons, List.map_nil, List.cons_append, List.nil_append, List.replicate, List.getElem?_cons_zero, List.getElem?_cons_succ, List.set_cons_zero, List.set_cons_succ, List.length_cons, List.length_nil, if_true, if_false, Bool.false_eq_true, true_and, and_true, reduceCtorEq, ixF_0, ixF_1, ixF_2, ixF_t0, ixF_t1, ixF_t2, ixn0, ixn1, eqF_s, eqF_i, neF_s, neF_i, eqF_l, eqF_t, neF_l, Option.some.injEq, G.E.ow.injEq, exists_eq_left', exists_eq_left, exists_eq', exists_const, and_self, ne_eq, not_false_eq_true, decide_true, decide_false, Bool.not_true, Bool.not_false, restE, wipeE, List.getD_eq_getElem?_getD, Option.getD_some, eqF_bb, neF_bb, ↓y_iRev, ↓x_sset, ↓x_lset, sortF_e, t3_f, t4_f, gtup3, gtup4, ixT3_0, ixT3_1, ixT3_2, ↓x_callB, ↓x_frz, ↓x_rnil, ↓x_rcons, argsD_n, argsD_c, consO_s, argD_f, argD_b, argB_l, argB_e, argB_f, noLR_e, noLR_t, noLR_a, noLR_i, noLR_b, noLR_s, noLR_n, ↓x_pop, eL_drop, eL_i1, ↓x_callN, isOw_o, ex_bd, en_epf, en_epb, ixFa_0, ixFa_1f, ixFa_1b, fs_a, fs_u, fs_f, fs_b, t3_i, t3_o, t3_c, t2_n, t3_n, ne0F_e, isF_fate, not_true_eq_false, Int.reduceSub, Int.reduceAdd, isL_l, isL_e, isT_t, isT_e, isOL_l, isOL_e, isL1_c, isInt_i, isSome_s, isOwL_l, isOwL_e, en_int, en_nat, en_bool, en_str, en_list, eL_1, eL_2, eL_3, eL_snoc, eL_snoc2, eL_app, eL_LL, eL_LL2, eL_LLs, addF_e, addF_t', addF_n, addF_n', lenF_e, lenF_e', toListF_e, toListF_e', toTupF_e, toTupF_e', cutF_e, cutF_e', cm_keep_skip, cm_keep_front, cm_keep_back, cm_front_skip, cm_front_front, cm_front_back, cm_back_skip, cm_back_front, cm_back_back, cm_remove_skip, cm_remove_front, cm_remove_back, nl0, nl1, nl2, nl3, nl4, nl5, nl6, nl7, nl8, nl9, nl10, nl11, nl12, Int.reduceEq, Int.reduceLT, Int.reduceLE, nat1c, natc1, natc2, natcA, cutA_btw, cutA_to, cutA_from, cutA_all, ixF_e0, ixF_e1, ixP_0, ixP_1, gtupP, pair_f, isF_Ln, isF_Tn, eqF_e, neF_e, inF_e, eqF_n, eqF_n', eqF_eL, neF_eL, eqF_eT, inF_nm, eL_pairs, pairs_e, rngD_e, eL_rev, eL_set, eL_erase, eL_ins, eL_ins', get_m, idx_len, sl0, sl1, sl2, sl3, sl4, sl5, sl6, sl7, sl8, sl9, sl10, sl11, sl12, en_keep, en_front, en_back, en_remove, en_skip, en_ofront, en_oback, en_inn, en_out, en_both, eqF_inn, eqF_out, eqF_both, neF_inn, neF_out, ixC_0, ixC_1, ixC_2, lenC, ixO_0, ixO_1, ixO_2, gtupC, gtupO, fate_a, fate_u, fate_f, fate_b, ent_i, ent_o, ent_b, inT_1, inT_2, inT_3, ofS, String.reduceEq, Bool.or_true, Bool.true_or, Bool.or_false, Bool.false_or, eq_self, ↓x_kill, ↓x_killN, ↓x_join, dropE_n, dropE_c, drop1_un, drop1_fz, drop1_ow, drop1_ot, Int.toNat_natCast, List.length_map, Option.map_some, Option.map_none]
    refine draw_n ht (by omega) fun i t hi ht => ?_
    simp -dsimp only [↓x_seq, ↓x_next, ↓x_drop, ↓x_set, ↓x_setO, ↓x_name, ↓x_gnil, ↓x_gcons, ↓x_gtup, ↓x_bin, ↓x_var, ↓x_varF, ↓x_c, ↓x_1, ↓x_B, ↓x_and, ↓x_or, ↓x_not, ↓x_andV, ↓x_orV, ↓x_notV, ↓x_if, ↓x_ifS, ↓x_ret, ↓x_lst, ↓x_tup, ↓x_acons, ↓x_anil, ↓x_aug, ↓y_setIx, ↓x_call, ↓x_callT, ↓x_callK, ↓x_callD, ↓x_chain, ↓x_sl, ↓x_oS, ↓x_oN, ↓x_rep, ↓y_store, ↓x_app, ↓y_popAt, ↓y_insert, ↓y_ext, ↓x_strM, ↓x_listM, ↓x_isi, ↓y_LE, ↓x_yes, ↓y_iList, ↓y_iTup, ↓x_iStr, ↓y_iEnum, ↓x_iRange1, ↓x_iRange2, ↓x_for, ↓x_while, ↓x_lc, ↓y_rev, ↓x_pNil, ↓x_pCons, ↓x_dict, ↓x_dict0, ↓x_dget, cs_t, cs_f, ex_s, sh1, get_fz, get_ow, get_br, brD_ow, brD_fz, fzd_fz, fzd_ow, fzd_br, jO_un, jO_fz, jO_ow, jO_no, intF_i, intF0_i, addF_i, addF_s, addF_l, addF_t, mulF, mulSF_s, ne0F_l, subF, fdivF, modF, powF, ltF_i, ltF_s, leF, gtF, geF, absF_i, maxF, minF, lenF_l, lenF_t, lenF_s, toIntF_i, toIntF_b, toListF_l, toListF_t, toTupF_l, toTupF_t, negF_i, cutF_l, cutF_t, cutF_s, isF_bb, isF_nn, isF_ln, isF_sn, isF_in, isF_tn, List.map_cons, List.map_nil, List.cons_append, List.nil_append, List.replicate, List.getElem?_cons_zero, List.getElem?_cons_succ, List.set_cons_zero, List.set_cons_succ, List.length_cons, List.length_nil, if_true, if_false, Bool.false_eq_true, true_and, and_true, reduceCtorEq, ixF_0, ixF_1, ixF_2, ixF_t0, ixF_t1, ixF_t2, ixn0, ixn1, eqF_s, eqF_i, neF_s, neF_i, eqF_l, eqF_t, neF_l, Option.some.injEq, G.E.ow.injEq, exists_eq_left', exists_eq_left, exists_eq', exists_const, and_self, ne_eq, not_false_eq_true, decide_true, decide_false, Bool.not_true, Bool.not_false, restE, wipeE, List.getD_eq_getElem?_getD, Option.getD_some, eqF_bb, neF_bb, ↓y_iRev, ↓x_sset, ↓x_lset, sortF_e, t3_f, t4_f, gtup3, gtup4, ixT3_0, ixT3_1, ixT3_2, ↓x_callB, ↓x_frz, ↓x_rnil, ↓x_rcons, argsD_n, argsD_c, consO_s, argD_f, argD_b, argB_l, argB_e, argB_f, noLR_e, noLR_t, noLR_a, noLR_i, noLR_b, noLR_s, noLR_n, ↓x_pop, eL_drop, eL_i1, ↓x_callN, isOw_o, ex_bd, en_epf, en_epb, ixFa_0, ixFa_1f, ixFa_1b, fs_a, fs_u, fs_f, fs_b, t3_i, t3_o, t3_c, t2_n, t3_n, ne0F_e, isF_fate, not_true_eq_false, Int.reduceSub, Int.reduceAdd, isL_l, isL_e, isT_t, isT_e, isOL_l, isOL_e, isL1_c, isInt_i, isSome_s, isOwL_l, isOwL_e, en_int, en_nat, en_bool, en_str, en_list, eL_1, eL_2, eL_3, eL_snoc, eL_snoc2, eL_app, eL_LL, eL_LL2, eL_LLs, addF_e, addF_t', addF_n, addF_n', lenF_e, lenF_e', toListF_e, toListF_e', toTupF_e, toTupF_e', cutF_e, cutF_e', cm_keep_skip, cm_keep_front, cm_keep_back, cm_front_skip, cm_front_front, cm_front_back, cm_back_skip, cm_back_front, cm_back_back, cm_remove_skip, cm_remove_front, cm_remove_back, nl0, nl1, nl2, nl3, nl4, nl5, nl6, nl7, nl8, nl9, nl10, nl11, nl12, Int.reduceEq, Int.reduceLT, Int.reduceLE, nat1c, natc1, natc2, natcA, cutA_btw, cutA_to, cutA_from, cutA_all, ixF_e0, ixF_e1, ixP_0, ixP_1, gtupP, pair_f, isF_Ln, isF_Tn, eqF_e, neF_e, inF_e, eqF_n, eqF_n', eqF_eL, neF_eL, eqF_eT, inF_nm, eL_pairs, pairs_e, rngD_e, eL_rev, eL_set, eL_erase, eL_ins, eL_ins', get_m, idx_len, sl0, sl1, sl2, sl3, sl4, sl5, sl6, sl7, sl8, sl9, sl10, sl11, sl12, en_keep, en_front, en_back, en_remove, en_skip, en_ofront, en_oback, en_inn, en_out, en_both, eqF_inn, eqF_out, eqF_both, neF_inn, neF_out, ixC_0, ixC_1, ixC_2, lenC, ixO_0, ixO_1, ixO_2, gtupC, gtupO, fate_a, fate_u, fate_f, fate_b, ent_i, ent_o, ent_b, inT_1, inT_2, inT_3, ofS, String.reduceEq, Bool.or_true, Bool.true_or, Bool.or_false, Bool.false_or, eq_self, ↓x_kill, ↓x_killN, ↓x_join, dropE_n, dropE_c, drop1_un, drop1_fz, drop1_ow, drop1_ot, Int.toNat_natCast, List.length_map, Option.map_some, Option.map_none]
    refine ixLm (by omega) fun x hx => ?_
    simp -dsimp only [↓x_seq, ↓x_next, ↓x_drop, ↓x_set, ↓x_setO, ↓x_name, ↓x_gnil, ↓x_gcons, ↓x_gtup, ↓x_bin, ↓x_var, ↓x_varF, ↓x_c, ↓x_1, ↓x_B, ↓x_and, ↓x_or, ↓x_not, ↓x_andV, ↓x_orV, ↓x_notV, ↓x_if, ↓x_ifS, ↓x_ret, ↓x_lst, ↓x_tup, ↓x_acons, ↓x_anil, ↓x_aug, ↓y_setIx, ↓x_call, ↓x_callT, ↓x_callK, ↓x_callD, ↓x_chain, ↓x_sl, ↓x_oS, ↓x_oN, ↓x_rep, ↓y_store, ↓x_app, ↓y_popAt, ↓y_insert, ↓y_ext, ↓x_strM, ↓x_listM, ↓x_isi, ↓y_LE, ↓x_yes, ↓y_iList, ↓y_iTup, ↓x_iStr, ↓y_iEnum, ↓x_iRange1, ↓x_iRange2, ↓x_for, ↓x_while, ↓x_lc, ↓y_rev, ↓x_pNil, ↓x_pCons, ↓x_dict, ↓x_dict0, ↓x_dget, cs_t, cs_f, ex_s, sh1, get_fz, get_ow, get_br, brD_ow, brD_fz, fzd_fz, fzd_ow, fzd_br, jO_un, jO_fz, jO_ow, jO_no, intF_i, intF0_i, addF_i, addF_s, addF_l, addF_t, mulF, mulSF_s, ne0F_l, subF, fdivF, modF, powF, ltF_i, ltF_s, leF, gtF, geF, absF_i, maxF, minF, lenF_l, lenF_t, lenF_s, toIntF_i, toIntF_b, toListF_l, toListF_t, toTupF_l, toTupF_t, negF_i, cutF_l, cutF_t, cutF_s, isF_bb, isF_nn, isF_ln, isF_sn, isF_in, isF_tn, List.map_cons, List.map_nil, List.cons_append, List.nil_append, List.replicate, List.getElem?_cons_zero, List.getElem?_cons_succ, List.set_cons_zero, List.set_cons_succ, List.length_cons, List.length_nil, if_true, if_false, Bool.false_eq_true, true_and, and_true, reduceCtorEq, ixF_0, ixF_1, ixF_2, ixF_t0, ixF_t1, ixF_t2, ixn0, ixn1, eqF_s, eqF_i, neF_s, neF_i, eqF_l, eqF_t, neF_l, Option.some.injEq, G.E.ow.injEq, exists_eq_left', exists_eq_left, exists_eq', exists_const, and_self, ne_eq, not_false_eq_true, decide_true, decide_false, Bool.not_true, Bool.not_false, restE, wipeE, List.getD_eq_getElem?_getD, Option.getD_some, eqF_bb, neF_bb, ↓y_iRev, ↓x_sset, ↓x_lset, sortF_e, t3_f, t4_f, gtup3, gtup4, ixT3_0, ixT3_1, ixT3_2, ↓x_callB, ↓x_frz, ↓x_rnil, ↓x_rcons, argsD_n, argsD_c, consO_s, argD_f, argD_b, argB_l, argB_e, argB_f, noLR_e, noLR_t, noLR_a, noLR_i, noLR_b, noLR_s, noLR_n, ↓x_pop, eL_drop, eL_i1, ↓x_callN, isOw_o, ex_bd, en_epf, en_epb, ixFa_0, ixFa_1f, ixFa_1b, fs_a, fs_u, fs_f, fs_b, t3_i, t3_o, t3_c, t2_n, t3_n, ne0F_e, isF_fate, not_true_eq_false, Int.reduceSub, Int.reduceAdd, isL_l, isL_e, isT_t, isT_e, isOL_l, isOL_e, isL1_c, isInt_i, isSome_s, isOwL_l, isOwL_e, en_int, en_nat, en_bool, en_str, en_list, eL_1, eL_2, eL_3, eL_snoc, eL_snoc2, eL_app, eL_LL, eL_LL2, eL_LLs, addF_e, addF_t', addF_n, addF_n', lenF_e, lenF_e', toListF_e, toListF_e', toTupF_e, toTupF_e', cutF_e, cutF_e', cm_keep_skip, cm_keep_front, cm_keep_back, cm_front_skip, cm_front_front, cm_front_back, cm_back_skip, cm_back_front, cm_back_back, cm_remove_skip, cm_remove_front, cm_remove_back, nl0, nl1, nl2, nl3, nl4, nl5, nl6, nl7, nl8, nl9, nl10, nl11, nl12, Int.reduceEq, Int.reduceLT, Int.reduceLE, nat1c, natc1, natc2, natcA, cutA_btw, cutA_to, cutA_from, cutA_all, ixF_e0, ixF_e1, ixP_0, ixP_1, gtupP, pair_f, isF_Ln, isF_Tn, eqF_e, neF_e, inF_e, eqF_n, eqF_n', eqF_eL, neF_eL, eqF_eT, inF_nm, eL_pairs, pairs_e, rngD_e, eL_rev, eL_set, eL_erase, eL_ins, eL_ins', get_m, idx_len, sl0, sl1, sl2, sl3, sl4, sl5, sl6, sl7, sl8, sl9, sl10, sl11, sl12, en_keep, en_front, en_back, en_remove, en_skip, en_ofront, en_oback, en_inn, en_out, en_both, eqF_inn, eqF_out, eqF_both, neF_inn, neF_out, ixC_0, ixC_1, ixC_2, lenC, ixO_0, ixO_1, ixO_2, gtupC, gtupO, fate_a, fate_u, fate_f, fate_b, ent_i, ent_o, ent_b, inT_1, inT_2, inT_3, ofS, String.reduceEq, Bool.or_true, Bool.true_or, Bool.or_false, Bool.false_or, eq_self, ↓x_kill, ↓x_killN, ↓x_join, dropE_n, dropE_c, drop1_un, drop1_fz, drop1_ow, drop1_ot, Int.toNat_natCast, List.length_map, Option.map_some, Option.map_none]
    refine draw_n ht (by decide) fun j t hj ht => ?_
    simp -dsimp only [↓x_seq, ↓x_next, ↓x_drop, ↓x_set, ↓x_setO, ↓x_name, ↓x_gnil, ↓x_gcons, ↓x_gtup, ↓x_bin, ↓x_var, ↓x_varF, ↓x_c, ↓x_1, ↓x_B, ↓x_and, ↓x_or, ↓x_not, ↓x_andV, ↓x_orV, ↓x_notV, ↓x_if, ↓x_ifS, ↓x_ret, ↓x_lst, ↓x_tup, ↓x_acons, ↓x_anil, ↓x_aug, ↓y_setIx, ↓x_call, ↓x_callT, ↓x_callK, ↓x_callD, ↓x_chain, ↓x_sl, ↓x_oS, ↓x_oN, ↓x_rep, ↓y_store, ↓x_app, ↓y_popAt, ↓y_insert, ↓y_ext, ↓x_strM, ↓x_listM, ↓x_isi, ↓y_LE, ↓x_yes, ↓y_iList, ↓y_iTup, ↓x_iStr, ↓y_iEnum, ↓x_iRange1, ↓x_iRange2, ↓x_for, ↓x_while, ↓x_lc, ↓y_rev, ↓x_pNil, ↓x_pCons, ↓x_dict, ↓x_dict0, ↓x_dget, cs_t, cs_f, ex_s, sh1, get_fz, get_ow, get_br, brD_ow, brD_fz, fzd_fz, fzd_ow, fzd_br, jO_un, jO_fz, jO_ow, jO_no, intF_i, intF0_i, addF_i, addF_s, addF_l, addF_t, mulF, mulSF_s, ne0F_l, subF, fdivF, modF, powF, ltF_i, ltF_s, leF, gtF, geF, absF_i, maxF, minF, lenF_l, lenF_t, lenF_s, toIntF_i, toIntF_b, toListF_l, toListF_t, toTupF_l, toTupF_t, negF_i, cutF_l, cutF_t, cutF_s, isF_bb, isF_nn, isF_ln, isF_sn, isF_in, isF_tn, List.map_cons, List.map_nil, List.cons_append, List.nil_append, List.replicate, List.getElem?_cons_zero, List.getElem?_cons_succ, List.set_cons_zero, List.set_cons_succ, List.length_cons, List.length_nil, if_true, if_false, Bool.false_eq_true, true_and, and_true, reduceCtorEq, ixF_0, ixF_1, ixF_2, ixF_t0, ixF_t1, ixF_t2, ixn0, ixn1, eqF_s, eqF_i, neF_s, neF_i, eqF_l, eqF_t, neF_l, Option.some.injEq, G.E.ow.injEq, exists_eq_left', exists_eq_left, exists_eq', exists_const, and_self, ne_eq, not_false_eq_true, decide_true, decide_false, Bool.not_true, Bool.not_false, restE, wipeE, List.getD_eq_getElem?_getD, Option.getD_some, eqF_bb, neF_bb, ↓y_iRev, ↓x_sset, ↓x_lset, sortF_e, t3_f, t4_f, gtup3, gtup4, ixT3_0, ixT3_1, ixT3_2, ↓x_callB, ↓x_frz, ↓x_rnil, ↓x_rcons, argsD_n, argsD_c, consO_s, argD_f, argD_b, argB_l, argB_e, argB_f, noLR_e, noLR_t, noLR_a, noLR_i, noLR_b, noLR_s, noLR_n, ↓x_pop, eL_drop, eL_i1, ↓x_callN, isOw_o, ex_bd, en_epf, en_epb, ixFa_0, ixFa_1f, ixFa_1b, fs_a, fs_u, fs_f, fs_b, t3_i, t3_o, t3_c, t2_n, t3_n, ne0F_e, isF_fate, not_true_eq_false, Int.reduceSub, Int.reduceAdd, isL_l, isL_e, isT_t, isT_e, isOL_l, isOL_e, isL1_c, isInt_i, isSome_s, isOwL_l, isOwL_e, en_int, en_nat, en_bool, en_str, en_list, eL_1, eL_2, eL_3, eL_snoc, eL_snoc2, eL_app, eL_LL, eL_LL2, eL_LLs, addF_e, addF_t', addF_n, addF_n', lenF_e, lenF_e', toListF_e, toListF_e', toTupF_e, toTupF_e', cutF_e, cutF_e', cm_keep_skip, cm_keep_front, cm_keep_back, cm_front_skip, cm_front_front, cm_front_back, cm_back_skip, cm_back_front, cm_back_back, cm_remove_skip, cm_remove_front, cm_remove_back, nl0, nl1, nl2, nl3, nl4, nl5, nl6, nl7, nl8, nl9, nl10, nl11, nl12, Int.reduceEq, Int.reduceLT, Int.reduceLE, nat1c, natc1, natc2, natcA, cutA_btw, cutA_to, cutA_from, cutA_all, ixF_e0, ixF_e1, ixP_0, ixP_1, gtupP, pair_f, isF_Ln, isF_Tn, eqF_e, neF_e, inF_e, eqF_n, eqF_n', eqF_eL, neF_eL, eqF_eT, inF_nm, eL_pairs, pairs_e, rngD_e, eL_rev, eL_set, eL_erase, eL_ins, eL_ins', get_m, idx_len, sl0, sl1, sl2, sl3, sl4, sl5, sl6, sl7, sl8, sl9, sl10, sl11, sl12, en_keep, en_front, en_back, en_remove, en_skip, en_ofront, en_oback, en_inn, en_out, en_both, eqF_inn, eqF_out, eqF_both, neF_inn, neF_out, ixC_0, ixC_1, ixC_2, lenC, ixO_0, ixO_1, ixO_2, gtupC, gtupO, fate_a, fate_u, fate_f, fate_b, ent_i, ent_o, ent_b, inT_1, inT_2, inT_3, ofS, String.reduceEq, Bool.or_true, Bool.true_or, Bool.or_false, Bool.false_or, eq_self, ↓x_kill, ↓x_killN, ↓x_join, dropE_n, dropE_c, drop1_un, drop1_fz, drop1_ow, drop1_ot, Int.toNat_natCast, List.length_map, Option.map_some, Option.map_none]
    refine ix_ins (by omega) fun a => ?_
    simp -dsimp only [↓x_seq, ↓x_next, ↓x_drop, ↓x_set, ↓x_setO, ↓x_name, ↓x_gnil, ↓x_gcons, ↓x_gtup, ↓x_bin, ↓x_var, ↓x_varF, ↓x_c, ↓x_1, ↓x_B, ↓x_and, ↓x_or, ↓x_not, ↓x_andV, ↓x_orV, ↓x_notV, ↓x_if, ↓x_ifS, ↓x_ret, ↓x_lst, ↓x_tup, ↓x_acons, ↓x_anil, ↓x_aug, ↓y_setIx, ↓x_call, ↓x_callT, ↓x_callK, ↓x_callD, ↓x_chain, ↓x_sl, ↓x_oS, ↓x_oN, ↓x_rep, ↓y_store, ↓x_app, ↓y_popAt, ↓y_insert, ↓y_ext, ↓x_strM, ↓x_listM, ↓x_isi, ↓y_LE, ↓x_yes, ↓y_iList, ↓y_iTup, ↓x_iStr, ↓y_iEnum, ↓x_iRange1, ↓x_iRange2, ↓x_for, ↓x_while, ↓x_lc, ↓y_rev, ↓x_pNil, ↓x_pCons, ↓x_dict, ↓x_dict0, ↓x_dget, cs_t, cs_f, ex_s, sh1, get_fz, get_ow, get_br, brD_ow, brD_fz, fzd_fz, fzd_ow, fzd_br, jO_un, jO_fz, jO_ow, jO_no, intF_i, intF0_i, addF_i, addF_s, addF_l, addF_t, mulF, mulSF_s, ne0F_l, subF, fdivF, modF, powF, ltF_i, ltF_s, leF, gtF, geF, absF_i, maxF, minF, lenF_l, lenF_t, lenF_s, toIntF_i, toIntF_b, toListF_l, toListF_t, toTupF_l, toTupF_t, negF_i, cutF_l, cutF_t, cutF_s, isF_bb, isF_nn, isF_ln, isF_sn, isF_in, isF_tn, List.map_cons, List.map_nil, List.cons_append, List.nil_append, List.replicate, List.getElem?_cons_zero, List.getElem?_cons_succ, List.set_cons_zero, List.set_cons_succ, List.length_cons, List.length_nil, if_true, if_false, Bool.false_eq_true, true_and, and_true, reduceCtorEq, ixF_0, ixF_1, ixF_2, ixF_t0, ixF_t1, ixF_t2, ixn0, ixn1, eqF_s, eqF_i, neF_s, neF_i, eqF_l, eqF_t, neF_l, Option.some.injEq, G.E.ow.injEq, exists_eq_left', exists_eq_left, exists_eq', exists_const, and_self, ne_eq, not_false_eq_true, decide_true, decide_false, Bool.not_true, Bool.not_false, restE, wipeE, List.getD_eq_getElem?_getD, Option.getD_some, eqF_bb, neF_bb, ↓y_iRev, ↓x_sset, ↓x_lset, sortF_e, t3_f, t4_f, gtup3, gtup4, ixT3_0, ixT3_1, ixT3_2, ↓x_callB, ↓x_frz, ↓x_rnil, ↓x_rcons, argsD_n, argsD_c, consO_s, argD_f, argD_b, argB_l, argB_e, argB_f, noLR_e, noLR_t, noLR_a, noLR_i, noLR_b, noLR_s, noLR_n, ↓x_pop, eL_drop, eL_i1, ↓x_callN, isOw_o, ex_bd, en_epf, en_epb, ixFa_0, ixFa_1f, ixFa_1b, fs_a, fs_u, fs_f, fs_b, t3_i, t3_o, t3_c, t2_n, t3_n, ne0F_e, isF_fate, not_true_eq_false, Int.reduceSub, Int.reduceAdd, isL_l, isL_e, isT_t, isT_e, isOL_l, isOL_e, isL1_c, isInt_i, isSome_s, isOwL_l, isOwL_e, en_int, en_nat, en_bool, en_str, en_list, eL_1, eL_2, eL_3, eL_snoc, eL_snoc2, eL_app, eL_LL, eL_LL2, eL_LLs, addF_e, addF_t', addF_n, addF_n', lenF_e, lenF_e', toListF_e, toListF_e', toTupF_e, toTupF_e', cutF_e, cutF_e', cm_keep_skip, cm_keep_front, cm_keep_back, cm_front_skip, cm_front_front, cm_front_back, cm_back_skip, cm_back_front, cm_back_back, cm_remove_skip, cm_remove_front, cm_remove_back, nl0, nl1, nl2, nl3, nl4, nl5, nl6, nl7, nl8, nl9, nl10, nl11, nl12, Int.reduceEq, Int.reduceLT, Int.reduceLE, nat1c, natc1, natc2, natcA, cutA_btw, cutA_to, cutA_from, cutA_all, ixF_e0, ixF_e1, ixP_0, ixP_1, gtupP, pair_f, isF_Ln, isF_Tn, eqF_e, neF_e, inF_e, eqF_n, eqF_n', eqF_eL, neF_eL, eqF_eT, inF_nm, eL_pairs, pairs_e, rngD_e, eL_rev, eL_set, eL_erase, eL_ins, eL_ins', get_m, idx_len, sl0, sl1, sl2, sl3, sl4, sl5, sl6, sl7, sl8, sl9, sl10, sl11, sl12, en_keep, en_front, en_back, en_remove, en_skip, en_ofront, en_oback, en_inn, en_out, en_both, eqF_inn, eqF_out, eqF_both, neF_inn, neF_out, ixC_0, ixC_1, ixC_2, lenC, ixO_0, ixO_1, ixO_2, gtupC, gtupO, fate_a, fate_u, fate_f, fate_b, ent_i, ent_o, ent_b, inT_1, inT_2, inT_3, ofS, String.reduceEq, Bool.or_true, Bool.true_or, Bool.or_false, Bool.false_or, eq_self, ↓x_kill, ↓x_killN, ↓x_join, dropE_n, dropE_c, drop1_un, drop1_fz, drop1_ow, drop1_ot, Int.toNat_natCast, List.length_map, Option.map_some, Option.map_none]
    refine draw_n ht (by decide) fun j t hj ht => ?_
    simp -dsimp only [↓x_seq, ↓x_next, ↓x_drop, ↓x_set, ↓x_setO, ↓x_name, ↓x_gnil, ↓x_gcons, ↓x_gtup, ↓x_bin, ↓x_var, ↓x_varF, ↓x_c, ↓x_1, ↓x_B, ↓x_and, ↓x_or, ↓x_not, ↓x_andV, ↓x_orV, ↓x_notV, ↓x_if, ↓x_ifS, ↓x_ret, ↓x_lst, ↓x_tup, ↓x_acons, ↓x_anil, ↓x_aug, ↓y_setIx, ↓x_call, ↓x_callT, ↓x_callK, ↓x_callD, ↓x_chain, ↓x_sl, ↓x_oS, ↓x_oN, ↓x_rep, ↓y_store, ↓x_app, ↓y_popAt, ↓y_insert, ↓y_ext, ↓x_strM, ↓x_listM, ↓x_isi, ↓y_LE, ↓x_yes, ↓y_iList, ↓y_iTup, ↓x_iStr, ↓y_iEnum, ↓x_iRange1, ↓x_iRange2, ↓x_for, ↓x_while, ↓x_lc, ↓y_rev, ↓x_pNil, ↓x_pCons, ↓x_dict, ↓x_dict0, ↓x_dget, cs_t, cs_f, ex_s, sh1, get_fz, get_ow, get_br, brD_ow, brD_fz, fzd_fz, fzd_ow, fzd_br, jO_un, jO_fz, jO_ow, jO_no, intF_i, intF0_i, addF_i, addF_s, addF_l, addF_t, mulF, mulSF_s, ne0F_l, subF, fdivF, modF, powF, ltF_i, ltF_s, leF, gtF, geF, absF_i, maxF, minF, lenF_l, lenF_t, lenF_s, toIntF_i, toIntF_b, toListF_l, toListF_t, toTupF_l, toTupF_t, negF_i, cutF_l, cutF_t, cutF_s, isF_bb, isF_nn, isF_ln, isF_sn, isF_in, isF_tn, List.map_cons, List.map_nil, List.cons_append, List.nil_append, List.replicate, List.getElem?_cons_zero, List.getElem?_cons_succ, List.set_cons_zero, List.set_cons_succ, List.length_cons, List.length_nil, if_true, if_false, Bool.false_eq_true, true_and, and_true, reduceCtorEq, ixF_0, ixF_1, ixF_2, ixF_t0, ixF_t1, ixF_t2, ixn0, ixn1, eqF_s, eqF_i, neF_s, neF_i, eqF_l, eqF_t, neF_l, Option.some.injEq, G.E.ow.injEq, exists_eq_left', exists_eq_left, exists_eq', exists_const, and_self, ne_eq, not_false_eq_true, decide_true, decide_false, Bool.not_true, Bool.not_false, restE, wipeE, List.getD_eq_getElem?_getD, Option.getD_some, eqF_bb, neF_bb, ↓y_iRev, ↓x_sset, ↓x_lset, sortF_e, t3_f, t4_f, gtup3, gtup4, ixT3_0, ixT3_1, ixT3_2, ↓x_callB, ↓x_frz, ↓x_rnil, ↓x_rcons, argsD_n, argsD_c, consO_s, argD_f, argD_b, argB_l, argB_e, argB_f, noLR_e, noLR_t, noLR_a, noLR_i, noLR_b, noLR_s, noLR_n, ↓x_pop, eL_drop, eL_i1, ↓x_callN, isOw_o, ex_bd, en_epf, en_epb, ixFa_0, ixFa_1f, ixFa_1b, fs_a, fs_u, fs_f, fs_b, t3_i, t3_o, t3_c, t2_n, t3_n, ne0F_e, isF_fate, not_true_eq_false, Int.reduceSub, Int.reduceAdd, isL_l, isL_e, isT_t, isT_e, isOL_l, isOL_e, isL1_c, isInt_i, isSome_s, isOwL_l, isOwL_e, en_int, en_nat, en_bool, en_str, en_list, eL_1, eL_2, eL_3, eL_snoc, eL_snoc2, eL_app, eL_LL, eL_LL2, eL_LLs, addF_e, addF_t', addF_n, addF_n', lenF_e, lenF_e', toListF_e, toListF_e', toTupF_e, toTupF_e', cutF_e, cutF_e', cm_keep_skip, cm_keep_front, cm_keep_back, cm_front_skip, cm_front_front, cm_front_back, cm_back_skip, cm_back_front, cm_back_back, cm_remove_skip, cm_remove_front, cm_remove_back, nl0, nl1, nl2, nl3, nl4, nl5, nl6, nl7, nl8, nl9, nl10, nl11, nl12, Int.reduceEq, Int.reduceLT, Int.reduceLE, nat1c, natc1, natc2, natcA, cutA_btw, cutA_to, cutA_from, cutA_all, ixF_e0, ixF_e1, ixP_0, ixP_1, gtupP, pair_f, isF_Ln, isF_Tn, eqF_e, neF_e, inF_e, eqF_n, eqF_n', eqF_eL, neF_eL, eqF_eT, inF_nm, eL_pairs, pairs_e, rngD_e, eL_rev, eL_set, eL_erase, eL_ins, eL_ins', get_m, idx_len, sl0, sl1, sl2, sl3, sl4, sl5, sl6, sl7, sl8, sl9, sl10, sl11, sl12, en_keep, en_front, en_back, en_remove, en_skip, en_ofront, en_oback, en_inn, en_out, en_both, eqF_inn, eqF_out, eqF_both, neF_inn, neF_out, ixC_0, ixC_1, ixC_2, lenC, ixO_0, ixO_1, ixO_2, gtupC, gtupO, fate_a, fate_u, fate_f, fate_b, ent_i, ent_o, ent_b, inT_1, inT_2, inT_3, ofS, String.reduceEq, Bool.or_true, Bool.true_or, Bool.or_false, Bool.false_or, eq_self, ↓x_kill, ↓x_killN, ↓x_join, dropE_n, dropE_c, drop1_un, drop1_fz, drop1_ow, drop1_ot, Int.toNat_natCast, List.length_map, Option.map_some, Option.map_none]
    refine ix_outs (by omega) fun b => ?_
    simp -dsimp only [↓x_seq, ↓x_next, ↓x_drop, ↓x_set, ↓x_setO, ↓x_name, ↓x_gnil, ↓x_gcons, ↓x_gtup, ↓x_bin, ↓x_var, ↓x_varF, ↓x_c, ↓x_1, ↓x_B, ↓x_and, ↓x_or, ↓x_not, ↓x_andV, ↓x_orV, ↓x_notV, ↓x_if, ↓x_ifS, ↓x_ret, ↓x_lst, ↓x_tup, ↓x_acons, ↓x_anil, ↓x_aug, ↓y_setIx, ↓x_call, ↓x_callT, ↓x_callK, ↓x_callD, ↓x_chain, ↓x_sl, ↓x_oS, ↓x_oN, ↓x_rep, ↓y_store, ↓x_app, ↓y_popAt, ↓y_insert, ↓y_ext, ↓x_strM, ↓x_listM, ↓x_isi, ↓y_LE, ↓x_yes, ↓y_iList, ↓y_iTup, ↓x_iStr, ↓y_iEnum, ↓x_iRange1, ↓x_iRange2, ↓x_for, ↓x_while, ↓x_lc, ↓y_rev, ↓x_pNil, ↓x_pCons, ↓x_dict, ↓x_dict0, ↓x_dget, cs_t, cs_f, ex_s, sh1, get_fz, get_ow, get_br, brD_ow, brD_fz, fzd_fz, fzd_ow, fzd_br, jO_un, jO_fz, jO_ow, jO_no, intF_i, intF0_i, addF_i, addF_s, addF_l, addF_t, mulF, mulSF_s, ne0F_l, subF, fdivF, modF, powF, ltF_i, ltF_s, leF, gtF, geF, absF_i, maxF, minF, lenF_l, lenF_t, lenF_s, toIntF_i, toIntF_b, toListF_l, toListF_t, toTupF_l, toTupF_t, negF_i, cutF_l, cutF_t, cutF_s, isF_bb, isF_nn, isF_ln, isF_sn, isF_in, isF_tn, List.map_cons, List.map_nil, List.cons_append, List.nil_append, List.replicate, List.getElem?_cons_zero, List.getElem?_cons_succ, List.set_cons_zero, List.set_cons_succ, List.length_cons, List.length_nil, if_true, if_false, Bool.false_eq_true, true_and, and_true, reduceCtorEq, ixF_0, ixF_1, ixF_2, ixF_t0, ixF_t1, ixF_t2, ixn0, ixn1, eqF_s, eqF_i, neF_s, neF_i, eqF_l, eqF_t, neF_l, Option.some.injEq, G.E.ow.injEq, exists_eq_left', exists_eq_left, exists_eq', exists_const, and_self, ne_eq, not_false_eq_true, decide_true, decide_false, Bool.not_true, Bool.not_false, restE, wipeE, List.getD_eq_getElem?_getD, Option.getD_some, eqF_bb, neF_bb, ↓y_iRev, ↓x_sset, ↓x_lset, sortF_e, t3_f, t4_f, gtup3, gtup4, ixT3_0, ixT3_1, ixT3_2, ↓x_callB, ↓x_frz, ↓x_rnil, ↓x_rcons, argsD_n, argsD_c, consO_s, argD_f, argD_b, argB_l, argB_e, argB_f, noLR_e, noLR_t, noLR_a, noLR_i, noLR_b, noLR_s, noLR_n, ↓x_pop, eL_drop, eL_i1, ↓x_callN, isOw_o, ex_bd, en_epf, en_epb, ixFa_0, ixFa_1f, ixFa_1b, fs_a, fs_u, fs_f, fs_b, t3_i, t3_o, t3_c, t2_n, t3_n, ne0F_e, isF_fate, not_true_eq_false, Int.reduceSub, Int.reduceAdd, isL_l, isL_e, isT_t, isT_e, isOL_l, isOL_e, isL1_c, isInt_i, isSome_s, isOwL_l, isOwL_e, en_int, en_nat, en_bool, en_str, en_list, eL_1, eL_2, eL_3, eL_snoc, eL_snoc2, eL_app, eL_LL, eL_LL2, eL_LLs, addF_e, addF_t', addF_n, addF_n', lenF_e, lenF_e', toListF_e, toListF_e', toTupF_e, toTupF_e', cutF_e, cutF_e', cm_keep_skip, cm_keep_front, cm_keep_back, cm_front_skip, cm_front_front, cm_front_back, cm_back_skip, cm_back_front, cm_back_back, cm_remove_skip, cm_remove_front, cm_remove_back, nl0, nl1, nl2, nl3, nl4, nl5, nl6, nl7, nl8, nl9, nl10, nl11, nl12, Int.reduceEq, Int.reduceLT, Int.reduceLE, nat1c, natc1, natc2, natcA, cutA_btw, cutA_to, cutA_from, cutA_all, ixF_e0, ixF_e1, ixP_0, ixP_1, gtupP, pair_f, isF_Ln, isF_Tn, eqF_e, neF_e, inF_e, eqF_n, eqF_n', eqF_eL, neF_eL, eqF_eT, inF_nm, eL_pairs, pairs_e, rngD_e, eL_rev, eL_set, eL_erase, eL_ins, eL_ins', get_m, idx_len, sl0, sl1, sl2, sl3, sl4, sl5, sl6, sl7, sl8, sl9, sl10, sl11, sl12, en_keep, en_front, en_back, en_remove, en_skip, en_ofront, en_oback, en_inn, en_out, en_both, eqF_inn, eqF_out, eqF_both, neF_inn, neF_out, ixC_0, ixC_1, ixC_2, lenC, ixO_0, ixO_1, ixO_2, gtupC, gtupO, fate_a, fate_u, fate_f, fate_b, ent_i, ent_o, ent_b, inT_1, inT_2, inT_3, ofS, String.reduceEq, Bool.or_true, Bool.true_or, Bool.or_false, Bool.false_or, eq_self, ↓x_kill, ↓x_killN, ↓x_join, dropE_n, dropE_c, drop1_un, drop1_fz, drop1_ow, drop1_ot, Int.toNat_natCast, List.length_map, Option.map_some, Option.map_none]
    refine ⟨(by first | decide | exact sz0 (by omega) | exact sz0 (by simp only [List.length_take, List.length_drop, List.length_cons, List.length_nil, List.length_append, List.length_map, List.length_reverse, List.length_range, idx_len]; omega) | exact sz1 (by omega) | exact sz1 (by simp only [List.length_take, List.length_drop, List.length_cons, List.length_nil, List.length_append, List.length_map, List.length_reverse, List.length_range, idx_len]; omega) | omega | (simp only [List.length_take, List.length_drop, List.length_cons, List.length_nil, List.length_append, List.length_map, List.length_reverse, List.length_range, idx_len]; omega)), t, cs ++ [⟨x, a, b⟩], ?_, ht, (by first | decide | exact sz0 (by omega) | exact sz0 (by simp only [List.length_take, List.length_drop, List.length_cons, List.length_nil, List.length_append, List.length_map, List.length_reverse, List.length_range, idx_len]; omega) | exact sz1 (by omega) | exact sz1 (by simp only [List.length_take, List.length_drop, List.length_cons, List.length_nil, List.length_append, List.length_map, List.length_reverse, List.length_range, idx_len]; omega) | omega | (simp only [List.length_take, List.length_drop, List.length_cons, List.length_nil, List.length_append, List.length_map, List.length_reverse, List.length_range, idx_len]; omega)), ?_⟩
    · rw [← eL_snoc]; rfl
    · intro c hc
      rcases List.mem_append.mp hc with hc | hc
      · exact hcs c hc
      · cases List.mem_singleton.mp hc; exact hx
  · rintro e ⟨t, cs, rfl, ht, hl, hcs⟩
    simp -dsimp only [↓x_seq, ↓x_next, ↓x_drop, ↓x_set, ↓x_setO, ↓x_name, ↓x_gnil, ↓x_gcons, ↓x_gtup, ↓x_bin, ↓x_var, ↓x_varF, ↓x_c, ↓x_1, ↓x_B, ↓x_and, ↓x_or, ↓x_not, ↓x_andV, ↓x_orV, ↓x_notV, ↓x_if, ↓x_ifS, ↓x_ret, ↓x_lst, ↓x_tup, ↓x_acons, ↓x_anil, ↓x_aug, ↓y_setIx, ↓x_call, ↓x_callT, ↓x_callK, ↓x_callD, ↓x_chain, ↓x_sl, ↓x_oS, ↓x_oN, ↓x_rep, ↓y_store, ↓x_app, ↓y_popAt, ↓y_insert, ↓y_ext, ↓x_strM, ↓x_listM, ↓x_isi, ↓y_LE, ↓x_yes, ↓y_iList, ↓y_iTup, ↓x_iStr, ↓y_iEnum, ↓x_iRange1, ↓x_iRange2, ↓x_for, ↓x_while, ↓x_lc, ↓y_rev, ↓x_pNil, ↓x_pCons, ↓x_dict, ↓x_dict0, ↓x_dget, cs_t, cs_f, ex_s, sh1, get_fz, get_ow, get_br, brD_ow, brD_fz, fzd_fz, fzd_ow, fzd_br, jO_un, jO_fz, jO_ow, jO_no, intF_i, intF0_i, addF_i, addF_s, addF_l, addF_t, mulF, mulSF_s, ne0F_l, subF, fdivF, modF, powF, ltF_i, ltF_s, leF, gtF, geF, absF_i, maxF, minF, lenF_l, lenF_t, lenF_s, toIntF_i, toIntF_b, toListF_l, toListF_t, toTupF_l, toTupF_t, negF_i, cutF_l, cutF_t, cutF_s, isF_bb, isF_nn, isF_ln, isF_sn, isF_in, isF_tn, List.map_cons, List.map_nil, List.cons_append, List.nil_append, List.replicate, List.getElem?_cons_zero, List.getElem?_cons_succ, List.set_cons_zero, List.set_cons_succ, List.length_cons, List.length_nil, if_true, if_false, Bool.false_eq_true, true_and, and_true, reduceCtorEq, ixF_0, ixF_1, ixF_2, ixF_t0, ixF_t1, ixF_t2, ixn0, ixn1, eqF_s, eqF_i, neF_s, neF_i, eqF_l, eqF_t, neF_l, Option.some.injEq, G.E.ow.injEq, exists_eq_left', exists_eq_left, exists_eq', exists_const, and_self, ne_eq, not_false_eq_true, decide_true, decide_false, Bool.not_true, Bool.not_false, restE, wipeE, List.getD_eq_getElem?_getD, Option.getD_some, eqF_bb, neF_bb, ↓y_iRev, ↓x_sset, ↓x_lset, sortF_e, t3_f, t4_f, gtup3, gtup4, ixT3_0, ixT3_1, ixT3_2, ↓x_callB, ↓x_frz, ↓x_rnil, ↓x_rcons, argsD_n, argsD_c, consO_s, argD_f, argD_b, argB_l, argB_e, argB_f, noLR_e, noLR_t, noLR_a, noLR_i, noLR_b, noLR_s, noLR_n, ↓x_pop, eL_drop, eL_i1, ↓x_callN, isOw_o, ex_bd, en_epf, en_epb, ixFa_0, ixFa_1f, ixFa_1b, fs_a, fs_u, fs_f, fs_b, t3_i, t3_o, t3_c, t2_n, t3_n, ne0F_e, isF_fate, not_true_eq_false, Int.reduceSub, Int.reduceAdd, isL_l, isL_e, isT_t, isT_e, isOL_l, isOL_e, isL1_c, isInt_i, isSome_s, isOwL_l, isOwL_e, en_int, en_nat, en_bool, en_str, en_list, eL_1, eL_2, eL_3, eL_snoc, eL_snoc2, eL_app, eL_LL, eL_LL2, eL_LLs, addF_e, addF_t', addF_n, addF_n', lenF_e, lenF_e', toListF_e, toListF_e', toTupF_e, toTupF_e', cutF_e, cutF_e', cm_keep_skip, cm_keep_front, cm_keep_back, cm_front_skip, cm_front_front, cm_front_back, cm_back_skip, cm_back_front, cm_back_back, cm_remove_skip, cm_remove_front, cm_remove_back, nl0, nl1, nl2, nl3, nl4, nl5, nl6, nl7, nl8, nl9, nl10, nl11, nl12, Int.reduceEq, Int.reduceLT, Int.reduceLE, nat1c, natc1, natc2, natcA, cutA_btw, cutA_to, cutA_from, cutA_all, ixF_e0, ixF_e1, ixP_0, ixP_1, gtupP, pair_f, isF_Ln, isF_Tn, eqF_e, neF_e, inF_e, eqF_n, eqF_n', eqF_eL, neF_eL, eqF_eT, inF_nm, eL_pairs, pairs_e, rngD_e, eL_rev, eL_set, eL_erase, eL_ins, eL_ins', get_m, idx_len, sl0, sl1, sl2, sl3, sl4, sl5, sl6, sl7, sl8, sl9, sl10, sl11, sl12, en_keep, en_front, en_back, en_remove, en_skip, en_ofront, en_oback, en_inn, en_out, en_both, eqF_inn, eqF_out, eqF_both, neF_inn, neF_out, ixC_0, ixC_1, ixC_2, lenC, ixO_0, ixO_1, ixO_2, gtupC, gtupO, fate_a, fate_u, fate_f, fate_b, ent_i, ent_o, ent_b, inT_1, inT_2, inT_3, ofS, String.reduceEq, Bool.or_true, Bool.true_or, Bool.or_false, Bool.false_or, eq_self, ↓x_kill, ↓x_killN, ↓x_join, dropE_n, dropE_c, drop1_un, drop1_fz, drop1_ow, drop1_ot, Int.toNat_natCast, List.length_map, Option.map_some, Option.map_none]
    exact hP cs t (by simpa using hl) hcs ht
/-! ### _law_path -/
def S_law_path (d : D) (ds : List D) (P : R → D → Prop) : Prop := Tp d ∧ ∃ xs : List Str, ds = [.list (xs.map .str)] ∧ xs.Nodup ∧ xs.length ≤ 1000 ∧ ∀ (ys : List Str) t, ys.Nodup → (∀ y ∈ ys, y ∈ xs) → ys.length ≤ xs.length → Tp t → P (.ow (.list (ys.map .str))) t
def PaW (xs : List Str) (acc l : List D) (e : Ev) : Prop := ∃ (t : D) (ys zs : List Str), e = [.ow true t, .fz (.list (xs.map .str)), .un, .un, .un] ∧ Tp t ∧ acc = ys.map .str ∧ l = zs.map .str ∧ (ys ++ zs).Sublist xs
def PbW (xs : List Str) (acc l : List D) (e : Ev) : Prop := ∃ (t : D) (ys zs : List Str) (u : G.E), e = [.ow true t, .fz (.list (xs.map .str)), .ow false (.list (zs.map .str)), u, .un] ∧ Tp t ∧ acc = ys.map .str ∧ (ys ++ zs).Nodup ∧ (∀ y ∈ ys ++ zs, y ∈ xs) ∧ (ys ++ zs).length ≤ xs.length ∧ zs.length = l.length
theorem path_n {d : D} {xs : List Str} {P : R → D → Prop} (ht : Tp d) (hn : xs.Nodup) (hl : xs.length ≤ 1000) (h : ∀ (ys : List Str) t, ys.Nodup → (∀ y ∈ ys, y ∈ xs) → ys.length ≤ xs.length → Tp t → P (.ow (.list (ys.map .str))) t) : S_law_path d [.list (xs.map .str)] P := ⟨ht, xs, rfl, hn, hl, h⟩
theorem erase_perm {ys zs : List Str} {i : Nat} (h : i < zs.length) : ((ys ++ [zs[i]]) ++ zs.eraseIdx i).Perm (ys ++ zs) := by
  rw [List.append_assoc]
  refine List.Perm.append_left ys ?_
  have e : zs = zs.take i ++ zs[i] :: zs.drop (i + 1) := by rw [← List.drop_eq_getElem_cons, List.take_append_drop]
  rw [List.eraseIdx_eq_take_drop_succ]
  refine .trans ?_ (.of_eq e.symm)
  exact (show (zs[i] :: (zs.take i ++ zs.drop (i + 1))).Perm _ from List.perm_middle.symm)
theorem map_erase (zs : List Str) (i : Nat) : (zs.map PyData.str).eraseIdx i = (zs.eraseIdx i).map PyData.str := by
  rw [List.eraseIdx_eq_take_drop_succ, List.eraseIdx_eq_take_drop_succ, List.map_append, List.map_take, List.map_drop]
theorem path_N {d : D} {xs : List Nm} {P : R → D → Prop} (ht : Tp d) (hn : xs.Nodup) (hl : xs.length ≤ 1000) (h : ∀ (ys : List Nm) t, ys.Nodup → (∀ y ∈ ys, y ∈ xs) → ys.length ≤ xs.length → Tp t → P (.ow (eL ys)) t) : S_law_path d [eL xs] P := by
  have e : eL xs = .list ((xs.map Nm.val).map .str) := by unfold eL; rw [List.map_map]; rfl
  refine ⟨ht, xs.map Nm.val, by rw [e], ?_, by rw [List.length_map]; exact hl, fun ys t h1 h2 h3 ht => ?_⟩
  · refine List.Pairwise.map _ (fun a b hab he => hab (Nm.ext_iff.mpr he)) hn
  · obtain ⟨zs, rfl, hz⟩ := nms_in h2
    have e2 : PyData.list ((zs.map Nm.val).map .str) = eL zs := by unfold eL; rw [List.map_map]; rfl
    rw [e2]
    rw [List.length_map, List.length_map] at h3
    exact h zs t (nodup_of_map _ h1) hz h3 ht
set_option maxHeartbeats 4000000 in
theorem ok_law_path (T : Tx K mg) : FnG P w K mg base 2 T.f_law_path T.fd_law_path 2 ["_law_tape_here", "_law_names_here"] (spT K 2 S_law_path) := by
  refine fn_T (m := 3) T.F_law_path sc_law_path rfl rfl fun {cdv A outer s H E} g room d ds PP hl hS => ?_
  refine ⟨_, _, (gb_cons (gs_setO (i := 2) (ge_lc rfl sc_law_path.nd (gi_list (ge_var 1)) (blkOk_by (own := [("_law_name_here", 3)]) (N := N_law_path) (sc := defScope s_law_path) (by decide +kernel)) (fun _ _ _ _ _ => by exact (gg_name 3 sc_law_path.nd)) (fun _ _ _ _ _ => by refine ⟨_, gts_one (gt_cmp op_gt sr_intB (nomark _) (ge_callT 0 (ok_law_draw T) g (room.mono (by decide)) (by rfl) T.g_law_draw T.F_law_draw.kp T.b_law_draw (ga_cons ge_int ga_nil)) ge_int), ?_⟩; first | (dsimp only [Cx.blk]; done) | (dsimp only [Cx.blk]; exact rfl) | exact rfl) (fun _ _ _ _ _ => by refine ⟨_, (ge_var 3), ?_⟩; first | (dsimp only [Cx.blk]; done) | (dsimp only [Cx.blk]; exact rfl) | exact rfl)) sc_law_path.nd)
      (gb_one (gs_ret (ge_lc rfl sc_law_path.nd (gi_range1 rfl T.z_range (ga_cons (ge_b1 call_lenG sc_len rfl T.z_len (by decide +kernel) (ge_var 2)) ga_nil)) (blkOk_by (own := [("_law_k", 4)]) (N := N_law_path) (sc := defScope s_law_path) (by decide +kernel)) (fun _ _ _ _ _ => by exact (gg_name 4 sc_law_path.nd)) (fun _ _ _ _ _ => by refine ⟨_, gts_nil, ?_⟩; first | (dsimp only [Cx.blk]; done) | (dsimp only [Cx.blk]; exact rfl) | exact rfl) (fun _ _ _ _ _ => by refine ⟨_, (ge_popAt 2 (ge_callT 0 (ok_law_draw T) g (room.mono (by decide)) (by rfl) T.g_law_draw T.F_law_draw.kp T.b_law_draw (ga_cons (ge_b1 call_lenG sc_len rfl T.z_len (by decide +kernel) (ge_var 2)) ga_nil))), ?_⟩; first | (dsimp only [Cx.blk]; done) | (dsimp only [Cx.blk]; exact rfl) | exact rfl))))), ?_⟩
  obtain ⟨ht, xs, rfl, hnd, hlen, hP⟩ := hS
  simp -dsimp only [↓x_seq, ↓x_next, ↓x_drop, ↓x_set, ↓x_setO, ↓x_name, ↓x_gnil, ↓x_gcons, ↓x_gtup, ↓x_bin, ↓x_var, ↓x_varF, ↓x_c, ↓x_1, ↓x_B, ↓x_and, ↓x_or, ↓x_not, ↓x_andV, ↓x_orV, ↓x_notV, ↓x_if, ↓x_ifS, ↓x_ret, ↓x_lst, ↓x_tup, ↓x_acons, ↓x_anil, ↓x_aug, ↓x_setIx, ↓x_call, ↓x_callT, ↓x_callK, ↓x_callD, ↓x_chain, ↓x_sl, ↓x_oS, ↓x_oN, ↓x_rep, ↓x_store, ↓x_app, ↓x_popAt, ↓x_insert, ↓x_ext, ↓x_strM, ↓x_listM, ↓x_isi, ↓x_LE, ↓x_yes, ↓x_iList, ↓x_iTup, ↓x_iStr, ↓x_iEnum, ↓x_iRange1, ↓x_iRange2, ↓x_for, ↓x_while, ↓x_lc, ↓x_rev, ↓x_pNil, ↓x_pCons, ↓x_dict, ↓x_dict0, ↓x_dget, cs_t, cs_f, ex_s, sh1, get_fz, get_ow, get_br, brD_ow, brD_fz, fzd_fz, fzd_ow, fzd_br, jO_un, jO_fz, jO_ow, jO_no, intF_i, intF0_i, addF_i, addF_s, addF_l, addF_t, mulF, mulSF_s, ne0F_l, subF, fdivF, modF, powF, ltF_i, ltF_s, leF, gtF, geF, absF_i, maxF, minF, lenF_l, lenF_t, lenF_s, toIntF_i, toIntF_b, toListF_l, toListF_t, toTupF_l, toTupF_t, negF_i, cutF_l, cutF_t, cutF_s, isF_bb, isF_nn, isF_ln, isF_sn, isF_in, isF_tn, List.map_cons, List.map_nil, List.cons_append, List.nil_append, List.replicate, List.getElem?_cons_zero, List.getElem?_cons_succ, List.set_cons_zero, List.set_cons_succ, List.length_cons, List.length_nil, if_true, if_false, Bool.false_eq_true, true_and, and_true, reduceCtorEq, ixF_0, ixF_1, ixF_2, ixF_t0, ixF_t1, ixF_t2, ixn0, ixn1, eqF_s, eqF_i, neF_s, neF_i, eqF_l, eqF_t, neF_l, Option.some.injEq, G.E.ow.injEq, exists_eq_left', exists_eq_left, exists_eq', exists_and_left, exists_and_right, exists_const, and_self, ne_eq, not_false_eq_true, decide_true, decide_false, Bool.not_true, Bool.not_false, restE, wipeE, List.getD_eq_getElem?_getD, Option.getD_some]
  refine lc_i (PaW xs) (by rw [List.length_map]; exact sz0 (by omega)) ⟨d, [], xs, rfl, ht, rfl, rfl, List.Sublist.refl _⟩ ?_ ?_
  · rintro acc y l e ⟨t, ys, zs, rfl, ht, rfl, hl, hsub⟩
    cases zs with
    | nil => cases hl
    | cons z zs =>
      obtain ⟨rfl, rfl⟩ := List.cons.inj hl
      simp -dsimp only [↓x_seq, ↓x_next, ↓x_drop, ↓x_set, ↓x_setO, ↓x_name, ↓x_gnil, ↓x_gcons, ↓x_gtup, ↓x_bin, ↓x_var, ↓x_varF, ↓x_c, ↓x_1, ↓x_B, ↓x_and, ↓x_or, ↓x_not, ↓x_andV, ↓x_orV, ↓x_notV, ↓x_if, ↓x_ifS, ↓x_ret, ↓x_lst, ↓x_tup, ↓x_acons, ↓x_anil, ↓x_aug, ↓x_setIx, ↓x_call, ↓x_callT, ↓x_callK, ↓x_callD, ↓x_chain, ↓x_sl, ↓x_oS, ↓x_oN, ↓x_rep, ↓x_store, ↓x_app, ↓x_popAt, ↓x_insert, ↓x_ext, ↓x_strM, ↓x_listM, ↓x_isi, ↓x_LE, ↓x_yes, ↓x_iList, ↓x_iTup, ↓x_iStr, ↓x_iEnum, ↓x_iRange1, ↓x_iRange2, ↓x_for, ↓x_while, ↓x_lc, ↓x_rev, ↓x_pNil, ↓x_pCons, ↓x_dict, ↓x_dict0, ↓x_dget, cs_t, cs_f, ex_s, sh1, get_fz, get_ow, get_br, brD_ow, brD_fz, fzd_fz, fzd_ow, fzd_br, jO_un, jO_fz, jO_ow, jO_no, intF_i, intF0_i, addF_i, addF_s, addF_l, addF_t, mulF, mulSF_s, ne0F_l, subF, fdivF, modF, powF, ltF_i, ltF_s, leF, gtF, geF, absF_i, maxF, minF, lenF_l, lenF_t, lenF_s, toIntF_i, toIntF_b, toListF_l, toListF_t, toTupF_l, toTupF_t, negF_i, cutF_l, cutF_t, cutF_s, isF_bb, isF_nn, isF_ln, isF_sn, isF_in, isF_tn, List.map_cons, List.map_nil, List.cons_append, List.nil_append, List.replicate, List.getElem?_cons_zero, List.getElem?_cons_succ, List.set_cons_zero, List.set_cons_succ, List.length_cons, List.length_nil, if_true, if_false, Bool.false_eq_true, true_and, and_true, reduceCtorEq, ixF_0, ixF_1, ixF_2, ixF_t0, ixF_t1, ixF_t2, ixn0, ixn1, eqF_s, eqF_i, neF_s, neF_i, eqF_l, eqF_t, neF_l, Option.some.injEq, G.E.ow.injEq, exists_eq_left', exists_eq_left, exists_eq', exists_and_left, exists_and_right, exists_const, and_self, ne_eq, not_false_eq_true, decide_true, decide_false, Bool.not_true, Bool.not_false, restE, wipeE, List.getD_eq_getElem?_getD, Option.getD_some]
      refine draw_n ht (by decide) fun i t hi ht => ?_
      simp -dsimp only [↓x_seq, ↓x_next, ↓x_drop, ↓x_set, ↓x_setO, ↓x_name, ↓x_gnil, ↓x_gcons, ↓x_gtup, ↓x_bin, ↓x_var, ↓x_varF, ↓x_c, ↓x_1, ↓x_B, ↓x_and, ↓x_or, ↓x_not, ↓x_andV, ↓x_orV, ↓x_notV, ↓x_if, ↓x_ifS, ↓x_ret, ↓x_lst, ↓x_tup, ↓x_acons, ↓x_anil, ↓x_aug, ↓x_setIx, ↓x_call, ↓x_callT, ↓x_callK, ↓x_callD, ↓x_chain, ↓x_sl, ↓x_oS, ↓x_oN, ↓x_rep, ↓x_store, ↓x_app, ↓x_popAt, ↓x_insert, ↓x_ext, ↓x_strM, ↓x_listM, ↓x_isi, ↓x_LE, ↓x_yes, ↓x_iList, ↓x_iTup, ↓x_iStr, ↓x_iEnum, ↓x_iRange1, ↓x_iRange2, ↓x_for, ↓x_while, ↓x_lc, ↓x_rev, ↓x_pNil, ↓x_pCons, ↓x_dict, ↓x_dict0, ↓x_dget, cs_t, cs_f, ex_s, sh1, get_fz, get_ow, get_br, brD_ow, brD_fz, fzd_fz, fzd_ow, fzd_br, jO_un, jO_fz, jO_ow, jO_no, intF_i, intF0_i, addF_i, addF_s, addF_l, addF_t, mulF, mulSF_s, ne0F_l, subF, fdivF, modF, powF, ltF_i, ltF_s, leF, gtF, geF, absF_i, maxF, minF, lenF_l, lenF_t, lenF_s, toIntF_i, toIntF_b, toListF_l, toListF_t, toTupF_l, toTupF_t, negF_i, cutF_l, cutF_t, cutF_s, isF_bb, isF_nn, isF_ln, isF_sn, isF_in, isF_tn, List.map_cons, List.map_nil, List.cons_append, List.nil_append, List.replicate, List.getElem?_cons_zero, List.getElem?_cons_succ, List.set_cons_zero, List.set_cons_succ, List.length_cons, List.length_nil, if_true, if_false, Bool.false_eq_true, true_and, and_true, reduceCtorEq, ixF_0, ixF_1, ixF_2, ixF_t0, ixF_t1, ixF_t2, ixn0, ixn1, eqF_s, eqF_i, neF_s, neF_i, eqF_l, eqF_t, neF_l, Option.some.injEq, G.E.ow.injEq, exists_eq_left', exists_eq_left, exists_eq', exists_and_left, exists_and_right, exists_const, and_self, ne_eq, not_false_eq_true, decide_true, decide_false, Bool.not_true, Bool.not_false, restE, wipeE, List.getD_eq_getElem?_getD, Option.getD_some]
      refine cs_i (fun _ => ?_) fun _ => ?_
      · simp -dsimp only [↓x_seq, ↓x_next, ↓x_drop, ↓x_set, ↓x_setO, ↓x_name, ↓x_gnil, ↓x_gcons, ↓x_gtup, ↓x_bin, ↓x_var, ↓x_varF, ↓x_c, ↓x_1, ↓x_B, ↓x_and, ↓x_or, ↓x_not, ↓x_andV, ↓x_orV, ↓x_notV, ↓x_if, ↓x_ifS, ↓x_ret, ↓x_lst, ↓x_tup, ↓x_acons, ↓x_anil, ↓x_aug, ↓x_setIx, ↓x_call, ↓x_callT, ↓x_callK, ↓x_callD, ↓x_chain, ↓x_sl, ↓x_oS, ↓x_oN, ↓x_rep, ↓x_store, ↓x_app, ↓x_popAt, ↓x_insert, ↓x_ext, ↓x_strM, ↓x_listM, ↓x_isi, ↓x_LE, ↓x_yes, ↓x_iList, ↓x_iTup, ↓x_iStr, ↓x_iEnum, ↓x_iRange1, ↓x_iRange2, ↓x_for, ↓x_while, ↓x_lc, ↓x_rev, ↓x_pNil, ↓x_pCons, ↓x_dict, ↓x_dict0, ↓x_dget, cs_t, cs_f, ex_s, sh1, get_fz, get_ow, get_br, brD_ow, brD_fz, fzd_fz, fzd_ow, fzd_br, jO_un, jO_fz, jO_ow, jO_no, intF_i, intF0_i, addF_i, addF_s, addF_l, addF_t, mulF, mulSF_s, ne0F_l, subF, fdivF, modF, powF, ltF_i, ltF_s, leF, gtF, geF, absF_i, maxF, minF, lenF_l, lenF_t, lenF_s, toIntF_i, toIntF_b, toListF_l, toListF_t, toTupF_l, toTupF_t, negF_i, cutF_l, cutF_t, cutF_s, isF_bb, isF_nn, isF_ln, isF_sn, isF_in, isF_tn, List.map_cons, List.map_nil, List.cons_append, List.nil_append, List.replicate, List.getElem?_cons_zero, List.getElem?_cons_succ, List.set_cons_zero, List.set_cons_succ, List.length_cons, List.length_nil, if_true, if_false, Bool.false_eq_true, true_and, and_true, reduceCtorEq, ixF_0, ixF_1, ixF_2, ixF_t0, ixF_t1, ixF_t2, ixn0, ixn1, eqF_s, eqF_i, neF_s, neF_i, eqF_l, eqF_t, neF_l, Option.some.injEq, G.E.ow.injEq, exists_eq_left', exists_eq_left, exists_eq', exists_and_left, exists_and_right, exists_const, and_self, ne_eq, not_false_eq_true, decide_true, decide_false, Bool.not_true, Bool.not_false, restE, wipeE, List.getD_eq_getElem?_getD, Option.getD_some]
        exact ⟨t, ys ++ [z], zs, rfl, ht, by rw [app_s], rfl, by rw [List.append_assoc]; exact hsub⟩
      · simp -dsimp only [↓x_seq, ↓x_next, ↓x_drop, ↓x_set, ↓x_setO, ↓x_name, ↓x_gnil, ↓x_gcons, ↓x_gtup, ↓x_bin, ↓x_var, ↓x_varF, ↓x_c, ↓x_1, ↓x_B, ↓x_and, ↓x_or, ↓x_not, ↓x_andV, ↓x_orV, ↓x_notV, ↓x_if, ↓x_ifS, ↓x_ret, ↓x_lst, ↓x_tup, ↓x_acons, ↓x_anil, ↓x_aug, ↓x_setIx, ↓x_call, ↓x_callT, ↓x_callK, ↓x_callD, ↓x_chain, ↓x_sl, ↓x_oS, ↓x_oN, ↓x_rep, ↓x_store, ↓x_app, ↓x_popAt, ↓x_insert, ↓x_ext, ↓x_strM, ↓x_listM, ↓x_isi, ↓x_LE, ↓x_yes, ↓x_iList, ↓x_iTup, ↓x_iStr, ↓x_iEnum, ↓x_iRange1, ↓x_iRange2, ↓x_for, ↓x_while, ↓x_lc, ↓x_rev, ↓x_pNil, ↓x_pCons, ↓x_dict, ↓x_dict0, ↓x_dget, cs_t, cs_f, ex_s, sh1, get_fz, get_ow, get_br, brD_ow, brD_fz, fzd_fz, fzd_ow, fzd_br, jO_un, jO_fz, jO_ow, jO_no, intF_i, intF0_i, addF_i, addF_s, addF_l, addF_t, mulF, mulSF_s, ne0F_l, subF, fdivF, modF, powF, ltF_i, ltF_s, leF, gtF, geF, absF_i, maxF, minF, lenF_l, lenF_t, lenF_s, toIntF_i, toIntF_b, toListF_l, toListF_t, toTupF_l, toTupF_t, negF_i, cutF_l, cutF_t, cutF_s, isF_bb, isF_nn, isF_ln, isF_sn, isF_in, isF_tn, List.map_cons, List.map_nil, List.cons_append, List.nil_append, List.replicate, List.getElem?_cons_zero, List.getElem?_cons_succ, List.set_cons_zero, List.set_cons_succ, List.length_cons, List.length_nil, if_true, if_false, Bool.false_eq_true, true_and, and_true, reduceCtorEq, ixF_0, ixF_1, ixF_2, ixF_t0, ixF_t1, ixF_t2, ixn0, ixn1, eqF_s, eqF_i, neF_s, neF_i, eqF_l, eqF_t, neF_l, Option.some.injEq, G.E.ow.injEq, exists_eq_left', exists_eq_left, exists_eq', exists_and_left, exists_and_right, exists_const, and_self, ne_eq, not_false_eq_true, decide_true, decide_false, Bool.not_true, Bool.not_false, restE, wipeE, List.getD_eq_getElem?_getD, Option.getD_some]
        exact ⟨t, ys, zs, rfl, ht, rfl, rfl, .trans (List.Sublist.append_left (List.sublist_cons_self z zs) ys) hsub⟩
  rintro acc e ⟨t, ys, zs, rfl, ht, rfl, hl, hsub⟩
  obtain rfl : zs = [] := List.map_eq_nil_iff.mp hl.symm
  rw [List.append_nil] at hsub
  have hlen2 := hsub.length_le
  simp -dsimp only [↓x_seq, ↓x_next, ↓x_drop, ↓x_set, ↓x_setO, ↓x_name, ↓x_gnil, ↓x_gcons, ↓x_gtup, ↓x_bin, ↓x_var, ↓x_varF, ↓x_c, ↓x_1, ↓x_B, ↓x_and, ↓x_or, ↓x_not, ↓x_andV, ↓x_orV, ↓x_notV, ↓x_if, ↓x_ifS, ↓x_ret, ↓x_lst, ↓x_tup, ↓x_acons, ↓x_anil, ↓x_aug, ↓x_setIx, ↓x_call, ↓x_callT, ↓x_callK, ↓x_callD, ↓x_chain, ↓x_sl, ↓x_oS, ↓x_oN, ↓x_rep, ↓x_store, ↓x_app, ↓x_popAt, ↓x_insert, ↓x_ext, ↓x_strM, ↓x_listM, ↓x_isi, ↓x_LE, ↓x_yes, ↓x_iList, ↓x_iTup, ↓x_iStr, ↓x_iEnum, ↓x_iRange1, ↓x_iRange2, ↓x_for, ↓x_while, ↓x_lc, ↓x_rev, ↓x_pNil, ↓x_pCons, ↓x_dict, ↓x_dict0, ↓x_dget, cs_t, cs_f, ex_s, sh1, get_fz, get_ow, get_br, brD_ow, brD_fz, fzd_fz, fzd_ow, fzd_br, jO_un, jO_fz, jO_ow, jO_no, intF_i, intF0_i, addF_i, addF_s, addF_l, addF_t, mulF, mulSF_s, ne0F_l, subF, fdivF, modF, powF, ltF_i, ltF_s, leF, gtF, geF, absF_i, maxF, minF, lenF_l, lenF_t, lenF_s, toIntF_i, toIntF_b, toListF_l, toListF_t, toTupF_l, toTupF_t, negF_i, cutF_l, cutF_t, cutF_s, isF_bb, isF_nn, isF_ln, isF_sn, isF_in, isF_tn, List.map_cons, List.map_nil, List.cons_append, List.nil_append, List.replicate, List.getElem?_cons_zero, List.getElem?_cons_succ, List.set_cons_zero, List.set_cons_succ, List.length_cons, List.length_nil, if_true, if_false, Bool.false_eq_true, true_and, and_true, reduceCtorEq, ixF_0, ixF_1, ixF_2, ixF_t0, ixF_t1, ixF_t2, ixn0, ixn1, eqF_s, eqF_i, neF_s, neF_i, eqF_l, eqF_t, neF_l, Option.some.injEq, G.E.ow.injEq, exists_eq_left', exists_eq_left, exists_eq', exists_and_left, exists_and_right, exists_const, and_self, ne_eq, not_false_eq_true, decide_true, decide_false, Bool.not_true, Bool.not_false, restE, wipeE, List.getD_eq_getElem?_getD, Option.getD_some]
  rw [List.length_map]
  refine ⟨⟨by omega, by omega⟩, lc_i (PbW xs) (by rw [rngD_length]; exact sz0 (by omega)) ⟨t, [], ys, _, rfl, ht, rfl, hsub.nodup hnd, fun y hy => hsub.subset hy, hlen2, by rw [rngD_length]; omega⟩ ?_ ?_⟩
  · rintro acc y l e ⟨t, ys, zs, u, rfl, ht, rfl, hnd, hsub, hle, hl⟩
    rw [List.length_cons] at hl
    rw [List.length_append] at hle
    simp -dsimp only [↓x_seq, ↓x_next, ↓x_drop, ↓x_set, ↓x_setO, ↓x_name, ↓x_gnil, ↓x_gcons, ↓x_gtup, ↓x_bin, ↓x_var, ↓x_varF, ↓x_c, ↓x_1, ↓x_B, ↓x_and, ↓x_or, ↓x_not, ↓x_andV, ↓x_orV, ↓x_notV, ↓x_if, ↓x_ifS, ↓x_ret, ↓x_lst, ↓x_tup, ↓x_acons, ↓x_anil, ↓x_aug, ↓x_setIx, ↓x_call, ↓x_callT, ↓x_callK, ↓x_callD, ↓x_chain, ↓x_sl, ↓x_oS, ↓x_oN, ↓x_rep, ↓x_store, ↓x_app, ↓x_popAt, ↓x_insert, ↓x_ext, ↓x_strM, ↓x_listM, ↓x_isi, ↓x_LE, ↓x_yes, ↓x_iList, ↓x_iTup, ↓x_iStr, ↓x_iEnum, ↓x_iRange1, ↓x_iRange2, ↓x_for, ↓x_while, ↓x_lc, ↓x_rev, ↓x_pNil, ↓x_pCons, ↓x_dict, ↓x_dict0, ↓x_dget, cs_t, cs_f, ex_s, sh1, get_fz, get_ow, get_br, brD_ow, brD_fz, fzd_fz, fzd_ow, fzd_br, jO_un, jO_fz, jO_ow, jO_no, intF_i, intF0_i, addF_i, addF_s, addF_l, addF_t, mulF, mulSF_s, ne0F_l, subF, fdivF, modF, powF, ltF_i, ltF_s, leF, gtF, geF, absF_i, maxF, minF, lenF_l, lenF_t, lenF_s, toIntF_i, toIntF_b, toListF_l, toListF_t, toTupF_l, toTupF_t, negF_i, cutF_l, cutF_t, cutF_s, isF_bb, isF_nn, isF_ln, isF_sn, isF_in, isF_tn, List.map_cons, List.map_nil, List.cons_append, List.nil_append, List.replicate, List.getElem?_cons_zero, List.getElem?_cons_succ, List.set_cons_zero, List.set_cons_succ, List.length_cons, List.length_nil, if_true, if_false, Bool.false_eq_true, true_and, and_true, reduceCtorEq, ixF_0, ixF_1, ixF_2, ixF_t0, ixF_t1, ixF_t2, ixn0, ixn1, eqF_s, eqF_i, neF_s, neF_i, eqF_l, eqF_t, neF_l, Option.some.injEq, G.E.ow.injEq, exists_eq_left', exists_eq_left, exists_eq', exists_and_left, exists_and_right, exists_const, and_self, ne_eq, not_false_eq_true, decide_true, decide_false, Bool.not_true, Bool.not_false, restE, wipeE, List.getD_eq_getElem?_getD, Option.getD_some]
    rw [List.length_map]
    refine ⟨⟨_, rfl⟩, draw_n ht (by omega) fun i t hi ht => ?_⟩
    have hi : i < zs.length := by omega
    simp -dsimp only [↓x_seq, ↓x_next, ↓x_drop, ↓x_set, ↓x_setO, ↓x_name, ↓x_gnil, ↓x_gcons, ↓x_gtup, ↓x_bin, ↓x_var, ↓x_varF, ↓x_c, ↓x_1, ↓x_B, ↓x_and, ↓x_or, ↓x_not, ↓x_andV, ↓x_orV, ↓x_notV, ↓x_if, ↓x_ifS, ↓x_ret, ↓x_lst, ↓x_tup, ↓x_acons, ↓x_anil, ↓x_aug, ↓x_setIx, ↓x_call, ↓x_callT, ↓x_callK, ↓x_callD, ↓x_chain, ↓x_sl, ↓x_oS, ↓x_oN, ↓x_rep, ↓x_store, ↓x_app, ↓x_popAt, ↓x_insert, ↓x_ext, ↓x_strM, ↓x_listM, ↓x_isi, ↓x_LE, ↓x_yes, ↓x_iList, ↓x_iTup, ↓x_iStr, ↓x_iEnum, ↓x_iRange1, ↓x_iRange2, ↓x_for, ↓x_while, ↓x_lc, ↓x_rev, ↓x_pNil, ↓x_pCons, ↓x_dict, ↓x_dict0, ↓x_dget, cs_t, cs_f, ex_s, sh1, get_fz, get_ow, get_br, brD_ow, brD_fz, fzd_fz, fzd_ow, fzd_br, jO_un, jO_fz, jO_ow, jO_no, intF_i, intF0_i, addF_i, addF_s, addF_l, addF_t, mulF, mulSF_s, ne0F_l, subF, fdivF, modF, powF, ltF_i, ltF_s, leF, gtF, geF, absF_i, maxF, minF, lenF_l, lenF_t, lenF_s, toIntF_i, toIntF_b, toListF_l, toListF_t, toTupF_l, toTupF_t, negF_i, cutF_l, cutF_t, cutF_s, isF_bb, isF_nn, isF_ln, isF_sn, isF_in, isF_tn, List.map_cons, List.map_nil, List.cons_append, List.nil_append, List.replicate, List.getElem?_cons_zero, List.getElem?_cons_succ, List.set_cons_zero, List.set_cons_succ, List.length_cons, List.length_nil, if_true, if_false, Bool.false_eq_true, true_and, and_true, reduceCtorEq, ixF_0, ixF_1, ixF_2, ixF_t0, ixF_t1, ixF_t2, ixn0, ixn1, eqF_s, eqF_i, neF_s, neF_i, eqF_l, eqF_t, neF_l, Option.some.injEq, G.E.ow.injEq, exists_eq_left', exists_eq_left, exists_eq', exists_and_left, exists_and_right, exists_const, and_self, ne_eq, not_false_eq_true, decide_true, decide_false, Bool.not_true, Bool.not_false, restE, wipeE, List.getD_eq_getElem?_getD, Option.getD_some]
    refine ⟨⟨by omega, by omega⟩, ex_i (x := i) ((PySem.seqIndex_of (by omega) (by rw [List.length_map]; omega)).trans (by rw [Int.toNat_natCast])) (ex_i (x := .str zs[i]) (by rw [List.getElem?_map, List.getElem?_eq_getElem hi]; rfl) ?_)⟩
    simp -dsimp only [↓x_seq, ↓x_next, ↓x_drop, ↓x_set, ↓x_setO, ↓x_name, ↓x_gnil, ↓x_gcons, ↓x_gtup, ↓x_bin, ↓x_var, ↓x_varF, ↓x_c, ↓x_1, ↓x_B, ↓x_and, ↓x_or, ↓x_not, ↓x_andV, ↓x_orV, ↓x_notV, ↓x_if, ↓x_ifS, ↓x_ret, ↓x_lst, ↓x_tup, ↓x_acons, ↓x_anil, ↓x_aug, ↓x_setIx, ↓x_call, ↓x_callT, ↓x_callK, ↓x_callD, ↓x_chain, ↓x_sl, ↓x_oS, ↓x_oN, ↓x_rep, ↓x_store, ↓x_app, ↓x_popAt, ↓x_insert, ↓x_ext, ↓x_strM, ↓x_listM, ↓x_isi, ↓x_LE, ↓x_yes, ↓x_iList, ↓x_iTup, ↓x_iStr, ↓x_iEnum, ↓x_iRange1, ↓x_iRange2, ↓x_for, ↓x_while, ↓x_lc, ↓x_rev, ↓x_pNil, ↓x_pCons, ↓x_dict, ↓x_dict0, ↓x_dget, cs_t, cs_f, ex_s, sh1, get_fz, get_ow, get_br, brD_ow, brD_fz, fzd_fz, fzd_ow, fzd_br, jO_un, jO_fz, jO_ow, jO_no, intF_i, intF0_i, addF_i, addF_s, addF_l, addF_t, mulF, mulSF_s, ne0F_l, subF, fdivF, modF, powF, ltF_i, ltF_s, leF, gtF, geF, absF_i, maxF, minF, lenF_l, lenF_t, lenF_s, toIntF_i, toIntF_b, toListF_l, toListF_t, toTupF_l, toTupF_t, negF_i, cutF_l, cutF_t, cutF_s, isF_bb, isF_nn, isF_ln, isF_sn, isF_in, isF_tn, List.map_cons, List.map_nil, List.cons_append, List.nil_append, List.replicate, List.getElem?_cons_zero, List.getElem?_cons_succ, List.set_cons_zero, List.set_cons_succ, List.length_cons, List.length_nil, if_true, if_false, Bool.false_eq_true, true_and, and_true, reduceCtorEq, ixF_0, ixF_1, ixF_2, ixF_t0, ixF_t1, ixF_t2, ixn0, ixn1, eqF_s, eqF_i, neF_s, neF_i, eqF_l, eqF_t, neF_l, Option.some.injEq, G.E.ow.injEq, exists_eq_left', exists_eq_left, exists_eq', exists_and_left, exists_and_right, exists_const, and_self, ne_eq, not_false_eq_true, decide_true, decide_false, Bool.not_true, Bool.not_false, restE, wipeE, List.getD_eq_getElem?_getD, Option.getD_some]
    have hp := erase_perm (ys := ys) hi
    refine ⟨t, ys ++ [zs[i]], zs.eraseIdx i, u, by rw [map_erase], ht, by rw [app_s], hp.nodup_iff.mpr hnd, fun y hy => hsub y (hp.mem_iff.mp hy), by rw [hp.length_eq, List.length_append]; exact hle, by rw [List.length_eraseIdx_of_lt hi]; omega⟩
  · rintro acc e ⟨t, ys, zs, u, rfl, ht, rfl, hnd, hsub, hle, hl⟩
    have : zs = [] := List.eq_nil_of_length_eq_zero hl
    subst this
    rw [List.append_nil] at hnd hsub hle
    simp -dsimp only [↓x_seq, ↓x_next, ↓x_drop, ↓x_set, ↓x_setO, ↓x_name, ↓x_gnil, ↓x_gcons, ↓x_gtup, ↓x_bin, ↓x_var, ↓x_varF, ↓x_c, ↓x_1, ↓x_B, ↓x_and, ↓x_or, ↓x_not, ↓x_andV, ↓x_orV, ↓x_notV, ↓x_if, ↓x_ifS, ↓x_ret, ↓x_lst, ↓x_tup, ↓x_acons, ↓x_anil, ↓x_aug, ↓x_setIx, ↓x_call, ↓x_callT, ↓x_callK, ↓x_callD, ↓x_chain, ↓x_sl, ↓x_oS, ↓x_oN, ↓x_rep, ↓x_store, ↓x_app, ↓x_popAt, ↓x_insert, ↓x_ext, ↓x_strM, ↓x_listM, ↓x_isi, ↓x_LE, ↓x_yes, ↓x_iList, ↓x_iTup, ↓x_iStr, ↓x_iEnum, ↓x_iRange1, ↓x_iRange2, ↓x_for, ↓x_while, ↓x_lc, ↓x_rev, ↓x_pNil, ↓x_pCons, ↓x_dict, ↓x_dict0, ↓x_dget, cs_t, cs_f, ex_s, sh1, get_fz, get_ow, get_br, brD_ow, brD_fz, fzd_fz, fzd_ow, fzd_br, jO_un, jO_fz, jO_ow, jO_no, intF_i, intF0_i, addF_i, addF_s, addF_l, addF_t, mulF, mulSF_s, ne0F_l, subF, fdivF, modF, powF, ltF_i, ltF_s, leF, gtF, geF, absF_i, maxF, minF, lenF_l, lenF_t, lenF_s, toIntF_i, toIntF_b, toListF_l, toListF_t, toTupF_l, toTupF_t, negF_i, cutF_l, cutF_t, cutF_s, isF_bb, isF_nn, isF_ln, isF_sn, isF_in, isF_tn, List.map_cons, List.map_nil, List.cons_append, List.nil_append, List.replicate, List.getElem?_cons_zero, List.getElem?_cons_succ, List.set_cons_zero, List.set_cons_succ, List.length_cons, List.length_nil, if_true, if_false, Bool.false_eq_true, true_and, and_true, reduceCtorEq, ixF_0, ixF_1, ixF_2, ixF_t0, ixF_t1, ixF_t2, ixn0, ixn1, eqF_s, eqF_i, neF_s, neF_i, eqF_l, eqF_t, neF_l, Option.some.injEq, G.E.ow.injEq, exists_eq_left', exists_eq_left, exists_eq', exists_and_left, exists_and_right, exists_const, and_self, ne_eq, not_false_eq_true, decide_true, decide_false, Bool.not_true, Bool.not_false, restE, wipeE, List.getD_eq_getElem?_getD, Option.getD_some]
    exact hP ys t hnd hsub hle ht
/-! ### _law_distance -/
def S_law_distance (ds : List D) (P : R → Prop) : Prop := ∃ (p g ns : List Nm) (b e : Nat), ds = [eL p, eL g, eL ns] ∧ (p.Nodup ∧ g.Nodup) ∧ (∀ x ∈ p, x ∈ ns) ∧ (∀ x ∈ g, x ∈ ns) ∧ ns.length ≤ 3 ∧ Bst p g b e ∧ P (.fz (.int ((routeOf p g b e).length : Nat)))
theorem dist_n {p g ns : List Nm} {b e : Nat} {P : R → Prop} (h1 : p.Nodup) (h2 : g.Nodup) (h3 : ∀ x ∈ p, x ∈ ns) (h4 : ∀ x ∈ g, x ∈ ns) (h5 : ns.length ≤ 3) (h6 : Bst p g b e) (k : P (.fz (.int ((routeOf p g b e).length : Nat)))) : S_law_distance [eL p, eL g, eL ns] P := ⟨p, g, ns, b, e, rfl, ⟨h1, h2⟩, h3, h4, h5, h6, k⟩
set_option maxHeartbeats 4000000 in
theorem ok_law_distance (T : Tx K mg) : FnG P w K mg base 2 T.f_law_distance T.fd_law_distance 3 ["_law_path_here", "_law_goal", "_law_names_here"] (spF K 3 S_law_distance) := by
  refine fn_F (m := 8) T.F_law_distance sc_law_distance rfl rfl fun {cdv A outer s H E} g room ds PP hl hS => ?_
  refine ⟨_, _, (gb_cons (gs_set (ge_call (ok_law_commands T) g (room.mono (by decide)) (by rfl) T.g_law_commands T.F_law_commands.kp T.b_law_commands (ga_cons (ge_var 2) ga_nil)) (gg_name 3 sc_law_distance.nd))
      (gb_cons (gs_setO (i := 4) (ge_lst (ga_cons (ge_var 0) ga_nil)) sc_law_distance.nd)
      (gb_cons (gs_set (ge_lst (ga_cons (ge_var 0) ga_nil)) (gg_name 5 sc_law_distance.nd))
      (gb_cons (gs_set ge_int (gg_name 6 sc_law_distance.nd))
      (gb_kill [7, 8, 9, 10] (gb_cons (gs_while PassesOwn.never (gt_cmp (op_ninG (plenty room)) sr_nin (by rfl) (ge_var 1) (ge_var 4))
      (gb_killN [7, 8, 9, 10] (gb_cons (gs_setO (i := 7) (ge_lst ga_nil) sc_law_distance.nd)
      (gb_kill [8, 9, 10] (gb_cons (gs_for PassesOwn.never rfl (gi_list (ge_var 5)) (gg_name 8 sc_law_distance.nd)
      (gb_killN [8, 9, 10] (gb_kill [9, 10] (gb_one (gs_for PassesOwn.never rfl (gi_list (ge_var 3)) (gg_name 9 sc_law_distance.nd)
      (gb_killN [9, 10] (gb_cons (gs_set (ge_call (ok_law_run T) g (room.mono (by decide)) (by rfl) T.g_law_run T.F_law_run.kp T.b_law_run (ga_cons (ge_var 8) (ga_cons (ge_lst (ga_cons (ge_var 9) ga_nil)) ga_nil))) (gg_name 10 sc_law_distance.nd))
      (gb_one (gs_if (gt_cmp (op_ninG (plenty room)) sr_nin (by rfl) (ge_var 10) (ge_var 4))
      (gb_cons (gs_expr (ge_append 4 (ge_var 10)))
      (gb_one (gs_expr (ge_append 7 (ge_var 10)))))
      gb_nil)))))))))
      (gb_cons (gs_set (ge_varF 7) (gg_name 5 sc_law_distance.nd))
      (gb_one (gs_set (ge_op op_addG sr_add (ge_var 6) ge_int) (gg_name 6 sc_law_distance.nd)))))))))
      (gb_one (gs_ret (ge_var 6))))))))), ?_⟩
  obtain ⟨p, g, ns, b, e, rfl, ⟨hp, hg⟩, hpn, hgn, hn, hB, hP⟩ := hS
  simp -dsimp only [↓x_seq, ↓x_next, ↓x_drop, ↓x_set, ↓x_setO, ↓x_name, ↓x_gnil, ↓x_gcons, ↓x_gtup, ↓x_bin, ↓x_var, ↓x_varF, ↓x_c, ↓x_1, ↓x_B, ↓x_and, ↓x_or, ↓x_not, ↓x_andV, ↓x_orV, ↓x_notV, ↓x_if, ↓x_ifS, ↓x_ret, ↓x_lst, ↓x_tup, ↓x_acons, ↓x_anil, ↓x_aug, ↓y_setIx, ↓x_call, ↓x_callT, ↓x_callK, ↓x_callD, ↓x_chain, ↓x_sl, ↓x_oS, ↓x_oN, ↓x_rep, ↓y_store, ↓x_app, ↓y_popAt, ↓y_insert, ↓y_ext, ↓x_strM, ↓x_listM, ↓x_isi, ↓y_LE, ↓x_yes, ↓y_iList, ↓y_iTup, ↓x_iStr, ↓y_iEnum, ↓x_iRange1, ↓x_iRange2, ↓x_for, ↓x_while, ↓x_lc, ↓y_rev, ↓x_pNil, ↓x_pCons, ↓x_dict, ↓x_dict0, ↓x_dget, cs_t, cs_f, ex_s, sh1, get_fz, get_ow, get_br, brD_ow, brD_fz, fzd_fz, fzd_ow, fzd_br, jO_un, jO_fz, jO_ow, jO_no, intF_i, intF0_i, addF_i, addF_s, addF_l, addF_t, mulF, mulSF_s, ne0F_l, subF, fdivF, modF, powF, ltF_i, ltF_s, leF, gtF, geF, absF_i, maxF, minF, lenF_l, lenF_t, lenF_s, toIntF_i, toIntF_b, toListF_l, toListF_t, toTupF_l, toTupF_t, negF_i, cutF_l, cutF_t, cutF_s, isF_bb, isF_nn, isF_ln, isF_sn, isF_in, isF_tn, List.map_cons, List.map_nil, List.cons_append, List.nil_append, List.replicate, List.getElem?_cons_zero, List.getElem?_cons_succ, List.set_cons_zero, List.set_cons_succ, List.length_cons, List.length_nil, if_true, if_false, Bool.false_eq_true, true_and, and_true, reduceCtorEq, ixF_0, ixF_1, ixF_2, ixF_t0, ixF_t1, ixF_t2, ixn0, ixn1, eqF_s, eqF_i, neF_s, neF_i, eqF_l, eqF_t, neF_l, Option.some.injEq, G.E.ow.injEq, exists_eq_left', exists_eq_left, exists_eq', exists_const, and_self, ne_eq, not_false_eq_true, decide_true, decide_false, Bool.not_true, Bool.not_false, restE, wipeE, List.getD_eq_getElem?_getD, Option.getD_some, eqF_bb, neF_bb, ↓y_iRev, ↓x_sset, ↓x_lset, sortF_e, t3_f, t4_f, gtup3, gtup4, ixT3_0, ixT3_1, ixT3_2, ↓x_callB, ↓x_frz, ↓x_rnil, ↓x_rcons, argsD_n, argsD_c, consO_s, argD_f, argD_b, argB_l, argB_e, argB_f, noLR_e, noLR_t, noLR_a, noLR_i, noLR_b, noLR_s, noLR_n, ↓x_pop, eL_drop, eL_i1, ↓x_callN, isOw_o, ex_bd, en_epf, en_epb, ixFa_0, ixFa_1f, ixFa_1b, fs_a, fs_u, fs_f, fs_b, t3_i, t3_o, t3_c, t2_n, t3_n, ne0F_e, isF_fate, not_true_eq_false, Int.reduceSub, Int.reduceAdd, isL_l, isL_e, isT_t, isT_e, isOL_l, isOL_e, isL1_c, isInt_i, isSome_s, isOwL_l, isOwL_e, en_int, en_nat, en_bool, en_str, en_list, eL_1, eL_2, eL_3, eL_snoc, eL_snoc2, eL_app, eL_LL, eL_LL2, eL_LLs, addF_e, addF_t', addF_n, addF_n', lenF_e, lenF_e', toListF_e, toListF_e', toTupF_e, toTupF_e', cutF_e, cutF_e', cm_keep_skip, cm_keep_front, cm_keep_back, cm_front_skip, cm_front_front, cm_front_back, cm_back_skip, cm_back_front, cm_back_back, cm_remove_skip, cm_remove_front, cm_remove_back, nl0, nl1, nl2, nl3, nl4, nl5, nl6, nl7, nl8, nl9, nl10, nl11, nl12, Int.reduceEq, Int.reduceLT, Int.reduceLE, nat1c, natc1, natc2, natcA, cutA_btw, cutA_to, cutA_from, cutA_all, ixF_e0, ixF_e1, ixP_0, ixP_1, gtupP, pair_f, isF_Ln, isF_Tn, eqF_e, neF_e, inF_e, eqF_n, eqF_n', eqF_eL, neF_eL, eqF_eT, inF_nm, eL_pairs, pairs_e, rngD_e, eL_rev, eL_set, eL_erase, eL_ins, eL_ins', get_m, idx_len, sl0, sl1, sl2, sl3, sl4, sl5, sl6, sl7, sl8, sl9, sl10, sl11, sl12, en_keep, en_front, en_back, en_remove, en_skip, en_ofront, en_oback, en_inn, en_out, en_both, eqF_inn, eqF_out, eqF_both, neF_inn, neF_out, ixC_0, ixC_1, ixC_2, lenC, ixO_0, ixO_1, ixO_2, gtupC, gtupO, fate_a, fate_u, fate_f, fate_b, ent_i, ent_o, ent_b, inT_1, inT_2, inT_3, ofS, String.reduceEq, Bool.or_true, Bool.true_or, Bool.or_false, Bool.false_or, eq_self, ↓x_kill, ↓x_killN, ↓x_join, dropE_n, dropE_c, drop1_un, drop1_fz, drop1_ow, drop1_ot, Int.toNat_natCast, List.length_map, Option.map_some, Option.map_none]
  refine commands_n hn ?_
  simp -dsimp only [↓x_seq, ↓x_next, ↓x_drop, ↓x_set, ↓x_setO, ↓x_name, ↓x_gnil, ↓x_gcons, ↓x_gtup, ↓x_bin, ↓x_var, ↓x_varF, ↓x_c, ↓x_1, ↓x_B, ↓x_and, ↓x_or, ↓x_not, ↓x_andV, ↓x_orV, ↓x_notV, ↓x_if, ↓x_ifS, ↓x_ret, ↓x_lst, ↓x_tup, ↓x_acons, ↓x_anil, ↓x_aug, ↓y_setIx, ↓x_call, ↓x_callT, ↓x_callK, ↓x_callD, ↓x_chain, ↓x_sl, ↓x_oS, ↓x_oN, ↓x_rep, ↓y_store, ↓x_app, ↓y_popAt, ↓y_insert, ↓y_ext, ↓x_strM, ↓x_listM, ↓x_isi, ↓y_LE, ↓x_yes, ↓y_iList, ↓y_iTup, ↓x_iStr, ↓y_iEnum, ↓x_iRange1, ↓x_iRange2, ↓x_for, ↓x_while, ↓x_lc, ↓y_rev, ↓x_pNil, ↓x_pCons, ↓x_dict, ↓x_dict0, ↓x_dget, cs_t, cs_f, ex_s, sh1, get_fz, get_ow, get_br, brD_ow, brD_fz, fzd_fz, fzd_ow, fzd_br, jO_un, jO_fz, jO_ow, jO_no, intF_i, intF0_i, addF_i, addF_s, addF_l, addF_t, mulF, mulSF_s, ne0F_l, subF, fdivF, modF, powF, ltF_i, ltF_s, leF, gtF, geF, absF_i, maxF, minF, lenF_l, lenF_t, lenF_s, toIntF_i, toIntF_b, toListF_l, toListF_t, toTupF_l, toTupF_t, negF_i, cutF_l, cutF_t, cutF_s, isF_bb, isF_nn, isF_ln, isF_sn, isF_in, isF_tn, List.map_cons, List.map_nil, List.cons_append, List.nil_append, List.replicate, List.getElem?_cons_zero, List.getElem?_cons_succ, List.set_cons_zero, List.set_cons_succ, List.length_cons, List.length_nil, if_true, if_false, Bool.false_eq_true, true_and, and_true, reduceCtorEq, ixF_0, ixF_1, ixF_2, ixF_t0, ixF_t1, ixF_t2, ixn0, ixn1, eqF_s, eqF_i, neF_s, neF_i, eqF_l, eqF_t, neF_l, Option.some.injEq, G.E.ow.injEq, exists_eq_left', exists_eq_left, exists_eq', exists_const, and_self, ne_eq, not_false_eq_true, decide_true, decide_false, Bool.not_true, Bool.not_false, restE, wipeE, List.getD_eq_getElem?_getD, Option.getD_some, eqF_bb, neF_bb, ↓y_iRev, ↓x_sset, ↓x_lset, sortF_e, t3_f, t4_f, gtup3, gtup4, ixT3_0, ixT3_1, ixT3_2, ↓x_callB, ↓x_frz, ↓x_rnil, ↓x_rcons, argsD_n, argsD_c, consO_s, argD_f, argD_b, argB_l, argB_e, argB_f, noLR_e, noLR_t, noLR_a, noLR_i, noLR_b, noLR_s, noLR_n, ↓x_pop, eL_drop, eL_i1, ↓x_callN, isOw_o, ex_bd, en_epf, en_epb, ixFa_0, ixFa_1f, ixFa_1b, fs_a, fs_u, fs_f, fs_b, t3_i, t3_o, t3_c, t2_n, t3_n, ne0F_e, isF_fate, not_true_eq_false, Int.reduceSub, Int.reduceAdd, isL_l, isL_e, isT_t, isT_e, isOL_l, isOL_e, isL1_c, isInt_i, isSome_s, isOwL_l, isOwL_e, en_int, en_nat, en_bool, en_str, en_list, eL_1, eL_2, eL_3, eL_snoc, eL_snoc2, eL_app, eL_LL, eL_LL2, eL_LLs, addF_e, addF_t', addF_n, addF_n', lenF_e, lenF_e', toListF_e, toListF_e', toTupF_e, toTupF_e', cutF_e, cutF_e', cm_keep_skip, cm_keep_front, cm_keep_back, cm_front_skip, cm_front_front, cm_front_back, cm_back_skip, cm_back_front, cm_back_back, cm_remove_skip, cm_remove_front, cm_remove_back, nl0, nl1, nl2, nl3, nl4, nl5, nl6, nl7, nl8, nl9, nl10, nl11, nl12, Int.reduceEq, Int.reduceLT, Int.reduceLE, nat1c, natc1, natc2, natcA, cutA_btw, cutA_to, cutA_from, cutA_all, ixF_e0, ixF_e1, ixP_0, ixP_1, gtupP, pair_f, isF_Ln, isF_Tn, eqF_e, neF_e, inF_e, eqF_n, eqF_n', eqF_eL, neF_eL, eqF_eT, inF_nm, eL_pairs, pairs_e, rngD_e, eL_rev, eL_set, eL_erase, eL_ins, eL_ins', get_m, idx_len, sl0, sl1, sl2, sl3, sl4, sl5, sl6, sl7, sl8, sl9, sl10, sl11, sl12, en_keep, en_front, en_back, en_remove, en_skip, en_ofront, en_oback, en_inn, en_out, en_both, eqF_inn, eqF_out, eqF_both, neF_inn, neF_out, ixC_0, ixC_1, ixC_2, lenC, ixO_0, ixO_1, ixO_2, gtupC, gtupO, fate_a, fate_u, fate_f, fate_b, ent_i, ent_o, ent_b, inT_1, inT_2, inT_3, ofS, String.reduceEq, Bool.or_true, Bool.true_or, Bool.or_false, Bool.false_or, eq_self, ↓x_kill, ↓x_killN, ↓x_join, dropE_n, dropE_c, drop1_un, drop1_fz, drop1_ow, drop1_ot, Int.toNat_natCast, List.length_map, Option.map_some, Option.map_none]
  refine wh_i (fun m ev => ∃ (r : Nat) (known latest : List (List Nm)), m = (routeOf p g b e).length - r ∧ r ≤ (routeOf p g b e).length ∧ ev = [(.fz (eL p) : G.E), (.fz (eL g) : G.E), (.fz (eL ns) : G.E), (.fz (eL (cmdsOf ns)) : G.E), (.ow false (eL known) : G.E), (.fz (eL latest) : G.E), (.fz (.int r) : G.E), .un, .un, .un, .un] ∧ Bfs p ns r known latest) ((routeOf p g b e).length - 0) ⟨0, [p], [p], rfl, Nat.zero_le _, rfl, Bfs.start⟩ ?_
  rintro m ev ⟨r, known, latest, rfl, hr, rfl, hb⟩
  simp -dsimp only [↓x_seq, ↓x_next, ↓x_drop, ↓x_set, ↓x_setO, ↓x_name, ↓x_gnil, ↓x_gcons, ↓x_gtup, ↓x_bin, ↓x_var, ↓x_varF, ↓x_c, ↓x_1, ↓x_B, ↓x_and, ↓x_or, ↓x_not, ↓x_andV, ↓x_orV, ↓x_notV, ↓x_if, ↓x_ifS, ↓x_ret, ↓x_lst, ↓x_tup, ↓x_acons, ↓x_anil, ↓x_aug, ↓y_setIx, ↓x_call, ↓x_callT, ↓x_callK, ↓x_callD, ↓x_chain, ↓x_sl, ↓x_oS, ↓x_oN, ↓x_rep, ↓y_store, ↓x_app, ↓y_popAt, ↓y_insert, ↓y_ext, ↓x_strM, ↓x_listM, ↓x_isi, ↓y_LE, ↓x_yes, ↓y_iList, ↓y_iTup, ↓x_iStr, ↓y_iEnum, ↓x_iRange1, ↓x_iRange2, ↓x_for, ↓x_while, ↓x_lc, ↓y_rev, ↓x_pNil, ↓x_pCons, ↓x_dict, ↓x_dict0, ↓x_dget, cs_t, cs_f, ex_s, sh1, get_fz, get_ow, get_br, brD_ow, brD_fz, fzd_fz, fzd_ow, fzd_br, jO_un, jO_fz, jO_ow, jO_no, intF_i, intF0_i, addF_i, addF_s, addF_l, addF_t, mulF, mulSF_s, ne0F_l, subF, fdivF, modF, powF, ltF_i, ltF_s, leF, gtF, geF, absF_i, maxF, minF, lenF_l, lenF_t, lenF_s, toIntF_i, toIntF_b, toListF_l, toListF_t, toTupF_l, toTupF_t, negF_i, cutF_l, cutF_t, cutF_s, isF_bb, isF_nn, isF_ln, isF_sn, isF_in, isF_tn, List.map_cons, List.map_nil, List.cons_append, List.nil_append, List.replicate, List.getElem?_cons_zero, List.getElem?_cons_succ, List.set_cons_zero, List.set_cons_succ, List.length_cons, List.length_nil, if_true, if_false, Bool.false_eq_true, true_and, and_true, reduceCtorEq, ixF_0, ixF_1, ixF_2, ixF_t0, ixF_t1, ixF_t2, ixn0, ixn1, eqF_s, eqF_i, neF_s, neF_i, eqF_l, eqF_t, neF_l, Option.some.injEq, G.E.ow.injEq, exists_eq_left', exists_eq_left, exists_eq', exists_const, and_self, ne_eq, not_false_eq_true, decide_true, decide_false, Bool.not_true, Bool.not_false, restE, wipeE, List.getD_eq_getElem?_getD, Option.getD_some, eqF_bb, neF_bb, ↓y_iRev, ↓x_sset, ↓x_lset, sortF_e, t3_f, t4_f, gtup3, gtup4, ixT3_0, ixT3_1, ixT3_2, ↓x_callB, ↓x_frz, ↓x_rnil, ↓x_rcons, argsD_n, argsD_c, consO_s, argD_f, argD_b, argB_l, argB_e, argB_f, noLR_e, noLR_t, noLR_a, noLR_i, noLR_b, noLR_s, noLR_n, ↓x_pop, eL_drop, eL_i1, ↓x_callN, isOw_o, ex_bd, en_epf, en_epb, ixFa_0, ixFa_1f, ixFa_1b, fs_a, fs_u, fs_f, fs_b, t3_i, t3_o, t3_c, t2_n, t3_n, ne0F_e, isF_fate, not_true_eq_false, Int.reduceSub, Int.reduceAdd, isL_l, isL_e, isT_t, isT_e, isOL_l, isOL_e, isL1_c, isInt_i, isSome_s, isOwL_l, isOwL_e, en_int, en_nat, en_bool, en_str, en_list, eL_1, eL_2, eL_3, eL_snoc, eL_snoc2, eL_app, eL_LL, eL_LL2, eL_LLs, addF_e, addF_t', addF_n, addF_n', lenF_e, lenF_e', toListF_e, toListF_e', toTupF_e, toTupF_e', cutF_e, cutF_e', cm_keep_skip, cm_keep_front, cm_keep_back, cm_front_skip, cm_front_front, cm_front_back, cm_back_skip, cm_back_front, cm_back_back, cm_remove_skip, cm_remove_front, cm_remove_back, nl0, nl1, nl2, nl3, nl4, nl5, nl6, nl7, nl8, nl9, nl10, nl11, nl12, Int.reduceEq, Int.reduceLT, Int.reduceLE, nat1c, natc1, natc2, natcA, cutA_btw, cutA_to, cutA_from, cutA_all, ixF_e0, ixF_e1, ixP_0, ixP_1, gtupP, pair_f, isF_Ln, isF_Tn, eqF_e, neF_e, inF_e, eqF_n, eqF_n', eqF_eL, neF_eL, eqF_eT, inF_nm, eL_pairs, pairs_e, rngD_e, eL_rev, eL_set, eL_erase, eL_ins, eL_ins', get_m, idx_len, sl0, sl1, sl2, sl3, sl4, sl5, sl6, sl7, sl8, sl9, sl10, sl11, sl12, en_keep, en_front, en_back, en_remove, en_skip, en_ofront, en_oback, en_inn, en_out, en_both, eqF_inn, eqF_out, eqF_both, neF_inn, neF_out, ixC_0, ixC_1, ixC_2, lenC, ixO_0, ixO_1, ixO_2, gtupC, gtupO, fate_a, fate_u, fate_f, fate_b, ent_i, ent_o, ent_b, inT_1, inT_2, inT_3, ofS, String.reduceEq, Bool.or_true, Bool.true_or, Bool.or_false, Bool.false_or, eq_self, ↓x_kill, ↓x_killN, ↓x_join, dropE_n, dropE_c, drop1_un, drop1_fz, drop1_ow, drop1_ot, Int.toNat_natCast, List.length_map, Option.map_some, Option.map_none]
  refine Eq.mpr (inF_e (α := List Nm) (a := g) (xs := known)) ?_
  simp -dsimp only [↓x_seq, ↓x_next, ↓x_drop, ↓x_set, ↓x_setO, ↓x_name, ↓x_gnil, ↓x_gcons, ↓x_gtup, ↓x_bin, ↓x_var, ↓x_varF, ↓x_c, ↓x_1, ↓x_B, ↓x_and, ↓x_or, ↓x_not, ↓x_andV, ↓x_orV, ↓x_notV, ↓x_if, ↓x_ifS, ↓x_ret, ↓x_lst, ↓x_tup, ↓x_acons, ↓x_anil, ↓x_aug, ↓y_setIx, ↓x_call, ↓x_callT, ↓x_callK, ↓x_callD, ↓x_chain, ↓x_sl, ↓x_oS, ↓x_oN, ↓x_rep, ↓y_store, ↓x_app, ↓y_popAt, ↓y_insert, ↓y_ext, ↓x_strM, ↓x_listM, ↓x_isi, ↓y_LE, ↓x_yes, ↓y_iList, ↓y_iTup, ↓x_iStr, ↓y_iEnum, ↓x_iRange1, ↓x_iRange2, ↓x_for, ↓x_while, ↓x_lc, ↓y_rev, ↓x_pNil, ↓x_pCons, ↓x_dict, ↓x_dict0, ↓x_dget, cs_t, cs_f, ex_s, sh1, get_fz, get_ow, get_br, brD_ow, brD_fz, fzd_fz, fzd_ow, fzd_br, jO_un, jO_fz, jO_ow, jO_no, intF_i, intF0_i, addF_i, addF_s, addF_l, addF_t, mulF, mulSF_s, ne0F_l, subF, fdivF, modF, powF, ltF_i, ltF_s, leF, gtF, geF, absF_i, maxF, minF, lenF_l, lenF_t, lenF_s, toIntF_i, toIntF_b, toListF_l, toListF_t, toTupF_l, toTupF_t, negF_i, cutF_l, cutF_t, cutF_s, isF_bb, isF_nn, isF_ln, isF_sn, isF_in, isF_tn, List.map_cons, List.map_nil, List.cons_append, List.nil_append, List.replicate, List.getElem?_cons_zero, List.getElem?_cons_succ, List.set_cons_zero, List.set_cons_succ, List.length_cons, List.length_nil, if_true, if_false, Bool.false_eq_true, true_and, and_true, reduceCtorEq, ixF_0, ixF_1, ixF_2, ixF_t0, ixF_t1, ixF_t2, ixn0, ixn1, eqF_s, eqF_i, neF_s, neF_i, eqF_l, eqF_t, neF_l, Option.some.injEq, G.E.ow.injEq, exists_eq_left', exists_eq_left, exists_eq', exists_const, and_self, ne_eq, not_false_eq_true, decide_true, decide_false, Bool.not_true, Bool.not_false, restE, wipeE, List.getD_eq_getElem?_getD, Option.getD_some, eqF_bb, neF_bb, ↓y_iRev, ↓x_sset, ↓x_lset, sortF_e, t3_f, t4_f, gtup3, gtup4, ixT3_0, ixT3_1, ixT3_2, ↓x_callB, ↓x_frz, ↓x_rnil, ↓x_rcons, argsD_n, argsD_c, consO_s, argD_f, argD_b, argB_l, argB_e, argB_f, noLR_e, noLR_t, noLR_a, noLR_i, noLR_b, noLR_s, noLR_n, ↓x_pop, eL_drop, eL_i1, ↓x_callN, isOw_o, ex_bd, en_epf, en_epb, ixFa_0, ixFa_1f, ixFa_1b, fs_a, fs_u, fs_f, fs_b, t3_i, t3_o, t3_c, t2_n, t3_n, ne0F_e, isF_fate, not_true_eq_false, Int.reduceSub, Int.reduceAdd, isL_l, isL_e, isT_t, isT_e, isOL_l, isOL_e, isL1_c, isInt_i, isSome_s, isOwL_l, isOwL_e, en_int, en_nat, en_bool, en_str, en_list, eL_1, eL_2, eL_3, eL_snoc, eL_snoc2, eL_app, eL_LL, eL_LL2, eL_LLs, addF_e, addF_t', addF_n, addF_n', lenF_e, lenF_e', toListF_e, toListF_e', toTupF_e, toTupF_e', cutF_e, cutF_e', cm_keep_skip, cm_keep_front, cm_keep_back, cm_front_skip, cm_front_front, cm_front_back, cm_back_skip, cm_back_front, cm_back_back, cm_remove_skip, cm_remove_front, cm_remove_back, nl0, nl1, nl2, nl3, nl4, nl5, nl6, nl7, nl8, nl9, nl10, nl11, nl12, Int.reduceEq, Int.reduceLT, Int.reduceLE, nat1c, natc1, natc2, natcA, cutA_btw, cutA_to, cutA_from, cutA_all, ixF_e0, ixF_e1, ixP_0, ixP_1, gtupP, pair_f, isF_Ln, isF_Tn, eqF_e, neF_e, inF_e, eqF_n, eqF_n', eqF_eL, neF_eL, eqF_eT, inF_nm, eL_pairs, pairs_e, rngD_e, eL_rev, eL_set, eL_erase, eL_ins, eL_ins', get_m, idx_len, sl0, sl1, sl2, sl3, sl4, sl5, sl6, sl7, sl8, sl9, sl10, sl11, sl12, en_keep, en_front, en_back, en_remove, en_skip, en_ofront, en_oback, en_inn, en_out, en_both, eqF_inn, eqF_out, eqF_both, neF_inn, neF_out, ixC_0, ixC_1, ixC_2, lenC, ixO_0, ixO_1, ixO_2, gtupC, gtupO, fate_a, fate_u, fate_f, fate_b, ent_i, ent_o, ent_b, inT_1, inT_2, inT_3, ofS, String.reduceEq, Bool.or_true, Bool.true_or, Bool.or_false, Bool.false_or, eq_self, ↓x_kill, ↓x_killN, ↓x_join, dropE_n, dropE_c, drop1_un, drop1_fz, drop1_ow, drop1_ot, Int.toNat_natCast, List.length_map, Option.map_some, Option.map_none]
  refine cs_b (fun h => ?_) fun h => ?_
  · have hgk : g ∉ known := by simpa using h
    have hlt := hb.more hp hg hpn hgn hB hgk
    have hs := hb.small hp hpn hn
    simp -dsimp only [↓x_seq, ↓x_next, ↓x_drop, ↓x_set, ↓x_setO, ↓x_name, ↓x_gnil, ↓x_gcons, ↓x_gtup, ↓x_bin, ↓x_var, ↓x_varF, ↓x_c, ↓x_1, ↓x_B, ↓x_and, ↓x_or, ↓x_not, ↓x_andV, ↓x_orV, ↓x_notV, ↓x_if, ↓x_ifS, ↓x_ret, ↓x_lst, ↓x_tup, ↓x_acons, ↓x_anil, ↓x_aug, ↓y_setIx, ↓x_call, ↓x_callT, ↓x_callK, ↓x_callD, ↓x_chain, ↓x_sl, ↓x_oS, ↓x_oN, ↓x_rep, ↓y_store, ↓x_app, ↓y_popAt, ↓y_insert, ↓y_ext, ↓x_strM, ↓x_listM, ↓x_isi, ↓y_LE, ↓x_yes, ↓y_iList, ↓y_iTup, ↓x_iStr, ↓y_iEnum, ↓x_iRange1, ↓x_iRange2, ↓x_for, ↓x_while, ↓x_lc, ↓y_rev, ↓x_pNil, ↓x_pCons, ↓x_dict, ↓x_dict0, ↓x_dget, cs_t, cs_f, ex_s, sh1, get_fz, get_ow, get_br, brD_ow, brD_fz, fzd_fz, fzd_ow, fzd_br, jO_un, jO_fz, jO_ow, jO_no, intF_i, intF0_i, addF_i, addF_s, addF_l, addF_t, mulF, mulSF_s, ne0F_l, subF, fdivF, modF, powF, ltF_i, ltF_s, leF, gtF, geF, absF_i, maxF, minF, lenF_l, lenF_t, lenF_s, toIntF_i, toIntF_b, toListF_l, toListF_t, toTupF_l, toTupF_t, negF_i, cutF_l, cutF_t, cutF_s, isF_bb, isF_nn, isF_ln, isF_sn, isF_in, isF_tn, List.map_cons, List.map_nil, List.cons_append, List.nil_append, List.replicate, List.getElem?_cons_zero, List.getElem?_cons_succ, List.set_cons_zero, List.set_cons_succ, List.length_cons, List.length_nil, if_true, if_false, Bool.false_eq_true, true_and, and_true, reduceCtorEq, ixF_0, ixF_1, ixF_2, ixF_t0, ixF_t1, ixF_t2, ixn0, ixn1, eqF_s, eqF_i, neF_s, neF_i, eqF_l, eqF_t, neF_l, Option.some.injEq, G.E.ow.injEq, exists_eq_left', exists_eq_left, exists_eq', exists_const, and_self, ne_eq, not_false_eq_true, decide_true, decide_false, Bool.not_true, Bool.not_false, restE, wipeE, List.getD_eq_getElem?_getD, Option.getD_some, eqF_bb, neF_bb, ↓y_iRev, ↓x_sset, ↓x_lset, sortF_e, t3_f, t4_f, gtup3, gtup4, ixT3_0, ixT3_1, ixT3_2, ↓x_callB, ↓x_frz, ↓x_rnil, ↓x_rcons, argsD_n, argsD_c, consO_s, argD_f, argD_b, argB_l, argB_e, argB_f, noLR_e, noLR_t, noLR_a, noLR_i, noLR_b, noLR_s, noLR_n, ↓x_pop, eL_drop, eL_i1, ↓x_callN, isOw_o, ex_bd, en_epf, en_epb, ixFa_0, ixFa_1f, ixFa_1b, fs_a, fs_u, fs_f, fs_b, t3_i, t3_o, t3_c, t2_n, t3_n, ne0F_e, isF_fate, not_true_eq_false, Int.reduceSub, Int.reduceAdd, isL_l, isL_e, isT_t, isT_e, isOL_l, isOL_e, isL1_c, isInt_i, isSome_s, isOwL_l, isOwL_e, en_int, en_nat, en_bool, en_str, en_list, eL_1, eL_2, eL_3, eL_snoc, eL_snoc2, eL_app, eL_LL, eL_LL2, eL_LLs, addF_e, addF_t', addF_n, addF_n', lenF_e, lenF_e', toListF_e, toListF_e', toTupF_e, toTupF_e', cutF_e, cutF_e', cm_keep_skip, cm_keep_front, cm_keep_back, cm_front_skip, cm_front_front, cm_front_back, cm_back_skip, cm_back_front, cm_back_back, cm_remove_skip, cm_remove_front, cm_remove_back, nl0, nl1, nl2, nl3, nl4, nl5, nl6, nl7, nl8, nl9, nl10, nl11, nl12, Int.reduceEq, Int.reduceLT, Int.reduceLE, nat1c, natc1, natc2, natcA, cutA_btw, cutA_to, cutA_from, cutA_all, ixF_e0, ixF_e1, ixP_0, ixP_1, gtupP, pair_f, isF_Ln, isF_Tn, eqF_e, neF_e, inF_e, eqF_n, eqF_n', eqF_eL, neF_eL, eqF_eT, inF_nm, eL_pairs, pairs_e, rngD_e, eL_rev, eL_set, eL_erase, eL_ins, eL_ins', get_m, idx_len, sl0, sl1, sl2, sl3, sl4, sl5, sl6, sl7, sl8, sl9, sl10, sl11, sl12, en_keep, en_front, en_back, en_remove, en_skip, en_ofront, en_oback, en_inn, en_out, en_both, eqF_inn, eqF_out, eqF_both, neF_inn, neF_out, ixC_0, ixC_1, ixC_2, lenC, ixO_0, ixO_1, ixO_2, gtupC, gtupO, fate_a, fate_u, fate_f, fate_b, ent_i, ent_o, ent_b, inT_1, inT_2, inT_3, ofS, String.reduceEq, Bool.or_true, Bool.true_or, Bool.or_false, Bool.false_or, eq_self, ↓x_kill, ↓x_killN, ↓x_join, dropE_n, dropE_c, drop1_un, drop1_fz, drop1_ow, drop1_ot, Int.toNat_natCast, List.length_map, Option.map_some, Option.map_none]
    refine for_t (f := eL) (xs := latest) (fun l ev => ∃ (known2 further : List (List Nm)), ev = [(.fz (eL p) : G.E), (.fz (eL g) : G.E), (.fz (eL ns) : G.E), (.fz (eL (cmdsOf ns)) : G.E), (.ow false (eL known2) : G.E), (.fz (eL latest) : G.E), (.fz (.int r) : G.E), (.ow false (eL further) : G.E), .un, .un, .un] ∧ (∀ x ∈ l, x ∈ known) ∧ Rnd ns known l known2 further) ⟨known, [], rfl, hb.lat, hb.rnd⟩ ?_ ?_
    · rintro x l ev ⟨known2, further, rfl, hx, hR⟩
      have hxk := hx x List.mem_cons_self
      have hxl := (hs x hxk).2.2
      simp -dsimp only [↓x_seq, ↓x_next, ↓x_drop, ↓x_set, ↓x_setO, ↓x_name, ↓x_gnil, ↓x_gcons, ↓x_gtup, ↓x_bin, ↓x_var, ↓x_varF, ↓x_c, ↓x_1, ↓x_B, ↓x_and, ↓x_or, ↓x_not, ↓x_andV, ↓x_orV, ↓x_notV, ↓x_if, ↓x_ifS, ↓x_ret, ↓x_lst, ↓x_tup, ↓x_acons, ↓x_anil, ↓x_aug, ↓y_setIx, ↓x_call, ↓x_callT, ↓x_callK, ↓x_callD, ↓x_chain, ↓x_sl, ↓x_oS, ↓x_oN, ↓x_rep, ↓y_store, ↓x_app, ↓y_popAt, ↓y_insert, ↓y_ext, ↓x_strM, ↓x_listM, ↓x_isi, ↓y_LE, ↓x_yes, ↓y_iList, ↓y_iTup, ↓x_iStr, ↓y_iEnum, ↓x_iRange1, ↓x_iRange2, ↓x_for, ↓x_while, ↓x_lc, ↓y_rev, ↓x_pNil, ↓x_pCons, ↓x_dict, ↓x_dict0, ↓x_dget, cs_t, cs_f, ex_s, sh1, get_fz, get_ow, get_br, brD_ow, brD_fz, fzd_fz, fzd_ow, fzd_br, jO_un, jO_fz, jO_ow, jO_no, intF_i, intF0_i, addF_i, addF_s, addF_l, addF_t, mulF, mulSF_s, ne0F_l, subF, fdivF, modF, powF, ltF_i, ltF_s, leF, gtF, geF, absF_i, maxF, minF, lenF_l, lenF_t, lenF_s, toIntF_i, toIntF_b, toListF_l, toListF_t, toTupF_l, toTupF_t, negF_i, cutF_l, cutF_t, cutF_s, isF_bb, isF_nn, isF_ln, isF_sn, isF_in, isF_tn, List.map_cons, List.map_nil, List.cons_append, List.nil_append, List.replicate, List.getElem?_cons_zero, List.getElem?_cons_succ, List.set_cons_zero, List.set_cons_succ, List.length_cons, List.length_nil, if_true, if_false, Bool.false_eq_true, true_and, and_true, reduceCtorEq, ixF_0, ixF_1, ixF_2, ixF_t0, ixF_t1, ixF_t2, ixn0, ixn1, eqF_s, eqF_i, neF_s, neF_i, eqF_l, eqF_t, neF_l, Option.some.injEq, G.E.ow.injEq, exists_eq_left', exists_eq_left, exists_eq', exists_const, and_self, ne_eq, not_false_eq_true, decide_true, decide_false, Bool.not_true, Bool.not_false, restE, wipeE, List.getD_eq_getElem?_getD, Option.getD_some, eqF_bb, neF_bb, ↓y_iRev, ↓x_sset, ↓x_lset, sortF_e, t3_f, t4_f, gtup3, gtup4, ixT3_0, ixT3_1, ixT3_2, ↓x_callB, ↓x_frz, ↓x_rnil, ↓x_rcons, argsD_n, argsD_c, consO_s, argD_f, argD_b, argB_l, argB_e, argB_f, noLR_e, noLR_t, noLR_a, noLR_i, noLR_b, noLR_s, noLR_n, ↓x_pop, eL_drop, eL_i1, ↓x_callN, isOw_o, ex_bd, en_epf, en_epb, ixFa_0, ixFa_1f, ixFa_1b, fs_a, fs_u, fs_f, fs_b, t3_i, t3_o, t3_c, t2_n, t3_n, ne0F_e, isF_fate, not_true_eq_false, Int.reduceSub, Int.reduceAdd, isL_l, isL_e, isT_t, isT_e, isOL_l, isOL_e, isL1_c, isInt_i, isSome_s, isOwL_l, isOwL_e, en_int, en_nat, en_bool, en_str, en_list, eL_1, eL_2, eL_3, eL_snoc, eL_snoc2, eL_app, eL_LL, eL_LL2, eL_LLs, addF_e, addF_t', addF_n, addF_n', lenF_e, lenF_e', toListF_e, toListF_e', toTupF_e, toTupF_e', cutF_e, cutF_e', cm_keep_skip, cm_keep_front, cm_keep_back, cm_front_skip, cm_front_front, cm_front_back, cm_back_skip, cm_back_front, cm_back_back, cm_remove_skip, cm_remove_front, cm_remove_back, nl0, nl1, nl2, nl3, nl4, nl5, nl6, nl7, nl8, nl9, nl10, nl11, nl12, Int.reduceEq, Int.reduceLT, Int.reduceLE, nat1c, natc1, natc2, natcA, cutA_btw, cutA_to, cutA_from, cutA_all, ixF_e0, ixF_e1, ixP_0, ixP_1, gtupP, pair_f, isF_Ln, isF_Tn, eqF_e, neF_e, inF_e, eqF_n, eqF_n', eqF_eL, neF_eL, eqF_eT, inF_nm, eL_pairs, pairs_e, rngD_e, eL_rev, eL_set, eL_erase, eL_ins, eL_ins', get_m, idx_len, sl0, sl1, sl2, sl3, sl4, sl5, sl6, sl7, sl8, sl9, sl10, sl11, sl12, en_keep, en_front, en_back, en_remove, en_skip, en_ofront, en_oback, en_inn, en_out, en_both, eqF_inn, eqF_out, eqF_both, neF_inn, neF_out, ixC_0, ixC_1, ixC_2, lenC, ixO_0, ixO_1, ixO_2, gtupC, gtupO, fate_a, fate_u, fate_f, fate_b, ent_i, ent_o, ent_b, inT_1, inT_2, inT_3, ofS, String.reduceEq, Bool.or_true, Bool.true_or, Bool.or_false, Bool.false_or, eq_self, ↓x_kill, ↓x_killN, ↓x_join, dropE_n, dropE_c, drop1_un, drop1_fz, drop1_ow, drop1_ot, Int.toNat_natCast, List.length_map, Option.map_some, Option.map_none]
      refine for_t (xs := cmdsOf ns) (fun l2 ev => ∃ (known3 further3 : List (List Nm)), ev = [(.fz (eL p) : G.E), (.fz (eL g) : G.E), (.fz (eL ns) : G.E), (.fz (eL (cmdsOf ns)) : G.E), (.ow false (eL known3) : G.E), (.fz (eL latest) : G.E), (.fz (.int r) : G.E), (.ow false (eL further3) : G.E), (.fz (eL x) : G.E), .un, .un] ∧ (∀ c ∈ l2, c.nm ∈ ns) ∧ Rnd ns known (x :: l) known3 further3 ∧ Com ns x l2 known3) ⟨known2, further, rfl, fun c hc => mem_cmds.mp hc, hR, fun c hc => .inl (mem_cmds.mpr hc)⟩ ?_ ?_
      · rintro c l2 ev ⟨known3, further3, rfl, hc, hR, hC⟩
        have hcn := hc c List.mem_cons_self
        have hc' := fun d hd => hc d (List.mem_cons_of_mem _ hd)
        have hkl := known_le hn hR.nd (hR.small hn hs)
        have hfl : further3.length ≤ known3.length := nd_le3 hR.nf fun q hq => (hR.ins q hq).1
        simp -dsimp only [↓x_seq, ↓x_next, ↓x_drop, ↓x_set, ↓x_setO, ↓x_name, ↓x_gnil, ↓x_gcons, ↓x_gtup, ↓x_bin, ↓x_var, ↓x_varF, ↓x_c, ↓x_1, ↓x_B, ↓x_and, ↓x_or, ↓x_not, ↓x_andV, ↓x_orV, ↓x_notV, ↓x_if, ↓x_ifS, ↓x_ret, ↓x_lst, ↓x_tup, ↓x_acons, ↓x_anil, ↓x_aug, ↓y_setIx, ↓x_call, ↓x_callT, ↓x_callK, ↓x_callD, ↓x_chain, ↓x_sl, ↓x_oS, ↓x_oN, ↓x_rep, ↓y_store, ↓x_app, ↓y_popAt, ↓y_insert, ↓y_ext, ↓x_strM, ↓x_listM, ↓x_isi, ↓y_LE, ↓x_yes, ↓y_iList, ↓y_iTup, ↓x_iStr, ↓y_iEnum, ↓x_iRange1, ↓x_iRange2, ↓x_for, ↓x_while, ↓x_lc, ↓y_rev, ↓x_pNil, ↓x_pCons, ↓x_dict, ↓x_dict0, ↓x_dget, cs_t, cs_f, ex_s, sh1, get_fz, get_ow, get_br, brD_ow, brD_fz, fzd_fz, fzd_ow, fzd_br, jO_un, jO_fz, jO_ow, jO_no, intF_i, intF0_i, addF_i, addF_s, addF_l, addF_t, mulF, mulSF_s, ne0F_l, subF, fdivF, modF, powF, ltF_i, ltF_s, leF, gtF, geF, absF_i, maxF, minF, lenF_l, lenF_t, lenF_s, toIntF_i, toIntF_b, toListF_l, toListF_t, toTupF_l, toTupF_t, negF_i, cutF_l, cutF_t, cutF_s, isF_bb, isF_nn, isF_ln, isF_sn, isF_in, isF_tn, List.map_cons, List.map_nil, List.cons_append, List.nil_append, List.replicate, List.getElem?_cons_zero, List.getElem?_cons_succ, List.set_cons_zero, List.set_cons_succ, List.length_cons, List.length_nil, if_true, if_false, Bool.false_eq_true, true_and, and_true, reduceCtorEq, ixF_0, ixF_1, ixF_2, ixF_t0, ixF_t1, ixF_t2, ixn0, ixn1, eqF_s, eqF_i, neF_s, neF_i, eqF_l, eqF_t, neF_l, Option.some.injEq, G.E.ow.injEq, exists_eq_left', exists_eq_left, exists_eq', exists_const, and_self, ne_eq, not_false_eq_true, decide_true, decide_false, Bool.not_true, Bool.not_false, restE, wipeE, List.getD_eq_getElem?_getD, Option.getD_some, eqF_bb, neF_bb, ↓y_iRev, ↓x_sset, ↓x_lset, sortF_e, t3_f, t4_f, gtup3, gtup4, ixT3_0, ixT3_1, ixT3_2, ↓x_callB, ↓x_frz, ↓x_rnil, ↓x_rcons, argsD_n, argsD_c, consO_s, argD_f, argD_b, argB_l, argB_e, argB_f, noLR_e, noLR_t, noLR_a, noLR_i, noLR_b, noLR_s, noLR_n, ↓x_pop, eL_drop, eL_i1, ↓x_callN, isOw_o, ex_bd, en_epf, en_epb, ixFa_0, ixFa_1f, ixFa_1b, fs_a, fs_u, fs_f, fs_b, t3_i, t3_o, t3_c, t2_n, t3_n, ne0F_e, isF_fate, not_true_eq_false, Int.reduceSub, Int.reduceAdd, isL_l, isL_e, isT_t, isT_e, isOL_l, isOL_e, isL1_c, isInt_i, isSome_s, isOwL_l, isOwL_e, en_int, en_nat, en_bool, en_str, en_list, eL_1, eL_2, eL_3, eL_snoc, eL_snoc2, eL_app, eL_LL, eL_LL2, eL_LLs, addF_e, addF_t', addF_n, addF_n', lenF_e, lenF_e', toListF_e, toListF_e', toTupF_e, toTupF_e', cutF_e, cutF_e', cm_keep_skip, cm_keep_front, cm_keep_back, cm_front_skip, cm_front_front, cm_front_back, cm_back_skip, cm_back_front, cm_back_back, cm_remove_skip, cm_remove_front, cm_remove_back, nl0, nl1, nl2, nl3, nl4, nl5, nl6, nl7, nl8, nl9, nl10, nl11, nl12, Int.reduceEq, Int.reduceLT, Int.reduceLE, nat1c, natc1, natc2, natcA, cutA_btw, cutA_to, cutA_from, cutA_all, ixF_e0, ixF_e1, ixP_0, ixP_1, gtupP, pair_f, isF_Ln, isF_Tn, eqF_e, neF_e, inF_e, eqF_n, eqF_n', eqF_eL, neF_eL, eqF_eT, inF_nm, eL_pairs, pairs_e, rngD_e, eL_rev, eL_set, eL_erase, eL_ins, eL_ins', get_m, idx_len, sl0, sl1, sl2, sl3, sl4, sl5, sl6, sl7, sl8, sl9, sl10, sl11, sl12, en_keep, en_front, en_back, en_remove, en_skip, en_ofront, en_oback, en_inn, en_out, en_both, eqF_inn, eqF_out, eqF_both, neF_inn, neF_out, ixC_0, ixC_1, ixC_2, lenC, ixO_0, ixO_1, ixO_2, gtupC, gtupO, fate_a, fate_u, fate_f, fate_b, ent_i, ent_o, ent_b, inT_1, inT_2, inT_3, ofS, String.reduceEq, Bool.or_true, Bool.true_or, Bool.or_false, Bool.false_or, eq_self, ↓x_kill, ↓x_killN, ↓x_join, dropE_n, dropE_c, drop1_un, drop1_fz, drop1_ow, drop1_ot, Int.toNat_natCast, List.length_map, Option.map_some, Option.map_none]
        refine lrun_n (cs := [c]) (by simp; omega) ?_
        rw [show runs x [c] = apl x c from rfl]
        simp -dsimp only [↓x_seq, ↓x_next, ↓x_drop, ↓x_set, ↓x_setO, ↓x_name, ↓x_gnil, ↓x_gcons, ↓x_gtup, ↓x_bin, ↓x_var, ↓x_varF, ↓x_c, ↓x_1, ↓x_B, ↓x_and, ↓x_or, ↓x_not, ↓x_andV, ↓x_orV, ↓x_notV, ↓x_if, ↓x_ifS, ↓x_ret, ↓x_lst, ↓x_tup, ↓x_acons, ↓x_anil, ↓x_aug, ↓y_setIx, ↓x_call, ↓x_callT, ↓x_callK, ↓x_callD, ↓x_chain, ↓x_sl, ↓x_oS, ↓x_oN, ↓x_rep, ↓y_store, ↓x_app, ↓y_popAt, ↓y_insert, ↓y_ext, ↓x_strM, ↓x_listM, ↓x_isi, ↓y_LE, ↓x_yes, ↓y_iList, ↓y_iTup, ↓x_iStr, ↓y_iEnum, ↓x_iRange1, ↓x_iRange2, ↓x_for, ↓x_while, ↓x_lc, ↓y_rev, ↓x_pNil, ↓x_pCons, ↓x_dict, ↓x_dict0, ↓x_dget, cs_t, cs_f, ex_s, sh1, get_fz, get_ow, get_br, brD_ow, brD_fz, fzd_fz, fzd_ow, fzd_br, jO_un, jO_fz, jO_ow, jO_no, intF_i, intF0_i, addF_i, addF_s, addF_l, addF_t, mulF, mulSF_s, ne0F_l, subF, fdivF, modF, powF, ltF_i, ltF_s, leF, gtF, geF, absF_i, maxF, minF, lenF_l, lenF_t, lenF_s, toIntF_i, toIntF_b, toListF_l, toListF_t, toTupF_l, toTupF_t, negF_i, cutF_l, cutF_t, cutF_s, isF_bb, isF_nn, isF_ln, isF_sn, isF_in, isF_tn, List.map_cons, List.map_nil, List.cons_append, List.nil_append, List.replicate, List.getElem?_cons_zero, List.getElem?_cons_succ, List.set_cons_zero, List.set_cons_succ, List.length_cons, List.length_nil, if_true, if_false, Bool.false_eq_true, true_and, and_true, reduceCtorEq, ixF_0, ixF_1, ixF_2, ixF_t0, ixF_t1, ixF_t2, ixn0, ixn1, eqF_s, eqF_i, neF_s, neF_i, eqF_l, eqF_t, neF_l, Option.some.injEq, G.E.ow.injEq, exists_eq_left', exists_eq_left, exists_eq', exists_const, and_self, ne_eq, not_false_eq_true, decide_true, decide_false, Bool.not_true, Bool.not_false, restE, wipeE, List.getD_eq_getElem?_getD, Option.getD_some, eqF_bb, neF_bb, ↓y_iRev, ↓x_sset, ↓x_lset, sortF_e, t3_f, t4_f, gtup3, gtup4, ixT3_0, ixT3_1, ixT3_2, ↓x_callB, ↓x_frz, ↓x_rnil, ↓x_rcons, argsD_n, argsD_c, consO_s, argD_f, argD_b, argB_l, argB_e, argB_f, noLR_e, noLR_t, noLR_a, noLR_i, noLR_b, noLR_s, noLR_n, ↓x_pop, eL_drop, eL_i1, ↓x_callN, isOw_o, ex_bd, en_epf, en_epb, ixFa_0, ixFa_1f, ixFa_1b, fs_a, fs_u, fs_f, fs_b, t3_i, t3_o, t3_c, t2_n, t3_n, ne0F_e, isF_fate, not_true_eq_false, Int.reduceSub, Int.reduceAdd, isL_l, isL_e, isT_t, isT_e, isOL_l, isOL_e, isL1_c, isInt_i, isSome_s, isOwL_l, isOwL_e, en_int, en_nat, en_bool, en_str, en_list, eL_1, eL_2, eL_3, eL_snoc, eL_snoc2, eL_app, eL_LL, eL_LL2, eL_LLs, addF_e, addF_t', addF_n, addF_n', lenF_e, lenF_e', toListF_e, toListF_e', toTupF_e, toTupF_e', cutF_e, cutF_e', cm_keep_skip, cm_keep_front, cm_keep_back, cm_front_skip, cm_front_front, cm_front_back, cm_back_skip, cm_back_front, cm_back_back, cm_remove_skip, cm_remove_front, cm_remove_back, nl0, nl1, nl2, nl3, nl4, nl5, nl6, nl7, nl8, nl9, nl10, nl11, nl12, Int.reduceEq, Int.reduceLT, Int.reduceLE, nat1c, natc1, natc2, natcA, cutA_btw, cutA_to, cutA_from, cutA_all, ixF_e0, ixF_e1, ixP_0, ixP_1, gtupP, pair_f, isF_Ln, isF_Tn, eqF_e, neF_e, inF_e, eqF_n, eqF_n', eqF_eL, neF_eL, eqF_eT, inF_nm, eL_pairs, pairs_e, rngD_e, eL_rev, eL_set, eL_erase, eL_ins, eL_ins', get_m, idx_len, sl0, sl1, sl2, sl3, sl4, sl5, sl6, sl7, sl8, sl9, sl10, sl11, sl12, en_keep, en_front, en_back, en_remove, en_skip, en_ofront, en_oback, en_inn, en_out, en_both, eqF_inn, eqF_out, eqF_both, neF_inn, neF_out, ixC_0, ixC_1, ixC_2, lenC, ixO_0, ixO_1, ixO_2, gtupC, gtupO, fate_a, fate_u, fate_f, fate_b, ent_i, ent_o, ent_b, inT_1, inT_2, inT_3, ofS, String.reduceEq, Bool.or_true, Bool.true_or, Bool.or_false, Bool.false_or, eq_self, ↓x_kill, ↓x_killN, ↓x_join, dropE_n, dropE_c, drop1_un, drop1_fz, drop1_ow, drop1_ot, Int.toNat_natCast, List.length_map, Option.map_some, Option.map_none]
        refine Eq.mpr (inF_e (α := List Nm) (a := apl x c) (xs := known3)) ?_
        simp -dsimp only [↓x_seq, ↓x_next, ↓x_drop, ↓x_set, ↓x_setO, ↓x_name, ↓x_gnil, ↓x_gcons, ↓x_gtup, ↓x_bin, ↓x_var, ↓x_varF, ↓x_c, ↓x_1, ↓x_B, ↓x_and, ↓x_or, ↓x_not, ↓x_andV, ↓x_orV, ↓x_notV, ↓x_if, ↓x_ifS, ↓x_ret, ↓x_lst, ↓x_tup, ↓x_acons, ↓x_anil, ↓x_aug, ↓y_setIx, ↓x_call, ↓x_callT, ↓x_callK, ↓x_callD, ↓x_chain, ↓x_sl, ↓x_oS, ↓x_oN, ↓x_rep, ↓y_store, ↓x_app, ↓y_popAt, ↓y_insert, ↓y_ext, ↓x_strM, ↓x_listM, ↓x_isi, ↓y_LE, ↓x_yes, ↓y_iList, ↓y_iTup, ↓x_iStr, ↓y_iEnum, ↓x_iRange1, ↓x_iRange2, ↓x_for, ↓x_while, ↓x_lc, ↓y_rev, ↓x_pNil, ↓x_pCons, ↓x_dict, ↓x_dict0, ↓x_dget, cs_t, cs_f, ex_s, sh1, get_fz, get_ow, get_br, brD_ow, brD_fz, fzd_fz, fzd_ow, fzd_br, jO_un, jO_fz, jO_ow, jO_no, intF_i, intF0_i, addF_i, addF_s, addF_l, addF_t, mulF, mulSF_s, ne0F_l, subF, fdivF, modF, powF, ltF_i, ltF_s, leF, gtF, geF, absF_i, maxF, minF, lenF_l, lenF_t, lenF_s, toIntF_i, toIntF_b, toListF_l, toListF_t, toTupF_l, toTupF_t, negF_i, cutF_l, cutF_t, cutF_s, isF_bb, isF_nn, isF_ln, isF_sn, isF_in, isF_tn, List.map_cons, List.map_nil, List.cons_append, List.nil_append, List.replicate, List.getElem?_cons_zero, List.getElem?_cons_succ, List.set_cons_zero, List.set_cons_succ, List.length_cons, List.length_nil, if_true, if_false, Bool.false_eq_true, true_and, and_true, reduceCtorEq, ixF_0, ixF_1, ixF_2, ixF_t0, ixF_t1, ixF_t2, ixn0, ixn1, eqF_s, eqF_i, neF_s, neF_i, eqF_l, eqF_t, neF_l, Option.some.injEq, G.E.ow.injEq, exists_eq_left', exists_eq_left, exists_eq', exists_const, and_self, ne_eq, not_false_eq_true, decide_true, decide_false, Bool.not_true, Bool.not_false, restE, wipeE, List.getD_eq_getElem?_getD, Option.getD_some, eqF_bb, neF_bb, ↓y_iRev, ↓x_sset, ↓x_lset, sortF_e, t3_f, t4_f, gtup3, gtup4, ixT3_0, ixT3_1, ixT3_2, ↓x_callB, ↓x_frz, ↓x_rnil, ↓x_rcons, argsD_n, argsD_c, consO_s, argD_f, argD_b, argB_l, argB_e, argB_f, noLR_e, noLR_t, noLR_a, noLR_i, noLR_b, noLR_s, noLR_n, ↓x_pop, eL_drop, eL_i1, ↓x_callN, isOw_o, ex_bd, en_epf, en_epb, ixFa_0, ixFa_1f, ixFa_1b, fs_a, fs_u, fs_f, fs_b, t3_i, t3_o, t3_c, t2_n, t3_n, ne0F_e, isF_fate, not_true_eq_false, Int.reduceSub, Int.reduceAdd, isL_l, isL_e, isT_t, isT_e, isOL_l, isOL_e, isL1_c, isInt_i, isSome_s, isOwL_l, isOwL_e, en_int, en_nat, en_bool, en_str, en_list, eL_1, eL_2, eL_3, eL_snoc, eL_snoc2, eL_app, eL_LL, eL_LL2, eL_LLs, addF_e, addF_t', addF_n, addF_n', lenF_e, lenF_e', toListF_e, toListF_e', toTupF_e, toTupF_e', cutF_e, cutF_e', cm_keep_skip, cm_keep_front, cm_keep_back, cm_front_skip, cm_front_front, cm_front_back, cm_back_skip, cm_back_front, cm_back_back, cm_remove_skip, cm_remove_front, cm_remove_back, nl0, nl1, nl2, nl3, nl4, nl5, nl6, nl7, nl8, nl9, nl10, nl11, nl12, Int.reduceEq, Int.reduceLT, Int.reduceLE, nat1c, natc1, natc2, natcA, cutA_btw, cutA_to, cutA_from, cutA_all, ixF_e0, ixF_e1, ixP_0, ixP_1, gtupP, pair_f, isF_Ln, isF_Tn, eqF_e, neF_e, inF_e, eqF_n, eqF_n', eqF_eL, neF_eL, eqF_eT, inF_nm, eL_pairs, pairs_e, rngD_e, eL_rev, eL_set, eL_erase, eL_ins, eL_ins', get_m, idx_len, sl0, sl1, sl2, sl3, sl4, sl5, sl6, sl7, sl8, sl9, sl10, sl11, sl12, en_keep, en_front, en_back, en_remove, en_skip, en_ofront, en_oback, en_inn, en_out, en_both, eqF_inn, eqF_out, eqF_both, neF_inn, neF_out, ixC_0, ixC_1, ixC_2, lenC, ixO_0, ixO_1, ixO_2, gtupC, gtupO, fate_a, fate_u, fate_f, fate_b, ent_i, ent_o, ent_b, inT_1, inT_2, inT_3, ofS, String.reduceEq, Bool.or_true, Bool.true_or, Bool.or_false, Bool.false_or, eq_self, ↓x_kill, ↓x_killN, ↓x_join, dropE_n, dropE_c, drop1_un, drop1_fz, drop1_ow, drop1_ot, Int.toNat_natCast, List.length_map, Option.map_some, Option.map_none]
        refine cs_b (fun h => ?_) fun h => ?_
        · have hn3 : apl x c ∉ known3 := by simpa using h
          simp -dsimp only [↓x_seq, ↓x_next, ↓x_drop, ↓x_set, ↓x_setO, ↓x_name, ↓x_gnil, ↓x_gcons, ↓x_gtup, ↓x_bin, ↓x_var, ↓x_varF, ↓x_c, ↓x_1, ↓x_B, ↓x_and, ↓x_or, ↓x_not, ↓x_andV, ↓x_orV, ↓x_notV, ↓x_if, ↓x_ifS, ↓x_ret, ↓x_lst, ↓x_tup, ↓x_acons, ↓x_anil, ↓x_aug, ↓y_setIx, ↓x_call, ↓x_callT, ↓x_callK, ↓x_callD, ↓x_chain, ↓x_sl, ↓x_oS, ↓x_oN, ↓x_rep, ↓y_store, ↓x_app, ↓y_popAt, ↓y_insert, ↓y_ext, ↓x_strM, ↓x_listM, ↓x_isi, ↓y_LE, ↓x_yes, ↓y_iList, ↓y_iTup, ↓x_iStr, ↓y_iEnum, ↓x_iRange1, ↓x_iRange2, ↓x_for, ↓x_while, ↓x_lc, ↓y_rev, ↓x_pNil, ↓x_pCons, ↓x_dict, ↓x_dict0, ↓x_dget, cs_t, cs_f, ex_s, sh1, get_fz, get_ow, get_br, brD_ow, brD_fz, fzd_fz, fzd_ow, fzd_br, jO_un, jO_fz, jO_ow, jO_no, intF_i, intF0_i, addF_i, addF_s, addF_l, addF_t, mulF, mulSF_s, ne0F_l, subF, fdivF, modF, powF, ltF_i, ltF_s, leF, gtF, geF, absF_i, maxF, minF, lenF_l, lenF_t, lenF_s, toIntF_i, toIntF_b, toListF_l, toListF_t, toTupF_l, toTupF_t, negF_i, cutF_l, cutF_t, cutF_s, isF_bb, isF_nn, isF_ln, isF_sn, isF_in, isF_tn, List.map_cons, List.map_nil, List.cons_append, List.nil_append, List.replicate, List.getElem?_cons_zero, List.getElem?_cons_succ, List.set_cons_zero, List.set_cons_succ, List.length_cons, List.length_nil, if_true, if_false, Bool.false_eq_true, true_and, and_true, reduceCtorEq, ixF_0, ixF_1, ixF_2, ixF_t0, ixF_t1, ixF_t2, ixn0, ixn1, eqF_s, eqF_i, neF_s, neF_i, eqF_l, eqF_t, neF_l, Option.some.injEq, G.E.ow.injEq, exists_eq_left', exists_eq_left, exists_eq', exists_const, and_self, ne_eq, not_false_eq_true, decide_true, decide_false, Bool.not_true, Bool.not_false, restE, wipeE, List.getD_eq_getElem?_getD, Option.getD_some, eqF_bb, neF_bb, ↓y_iRev, ↓x_sset, ↓x_lset, sortF_e, t3_f, t4_f, gtup3, gtup4, ixT3_0, ixT3_1, ixT3_2, ↓x_callB, ↓x_frz, ↓x_rnil, ↓x_rcons, argsD_n, argsD_c, consO_s, argD_f, argD_b, argB_l, argB_e, argB_f, noLR_e, noLR_t, noLR_a, noLR_i, noLR_b, noLR_s, noLR_n, ↓x_pop, eL_drop, eL_i1, ↓x_callN, isOw_o, ex_bd, en_epf, en_epb, ixFa_0, ixFa_1f, ixFa_1b, fs_a, fs_u, fs_f, fs_b, t3_i, t3_o, t3_c, t2_n, t3_n, ne0F_e, isF_fate, not_true_eq_false, Int.reduceSub, Int.reduceAdd, isL_l, isL_e, isT_t, isT_e, isOL_l, isOL_e, isL1_c, isInt_i, isSome_s, isOwL_l, isOwL_e, en_int, en_nat, en_bool, en_str, en_list, eL_1, eL_2, eL_3, eL_snoc, eL_snoc2, eL_app, eL_LL, eL_LL2, eL_LLs, addF_e, addF_t', addF_n, addF_n', lenF_e, lenF_e', toListF_e, toListF_e', toTupF_e, toTupF_e', cutF_e, cutF_e', cm_keep_skip, cm_keep_front, cm_keep_back, cm_front_skip, cm_front_front, cm_front_back, cm_back_skip, cm_back_front, cm_back_back, cm_remove_skip, cm_remove_front, cm_remove_back, nl0, nl1, nl2, nl3, nl4, nl5, nl6, nl7, nl8, nl9, nl10, nl11, nl12, Int.reduceEq, Int.reduceLT, Int.reduceLE, nat1c, natc1, natc2, natcA, cutA_btw, cutA_to, cutA_from, cutA_all, ixF_e0, ixF_e1, ixP_0, ixP_1, gtupP, pair_f, isF_Ln, isF_Tn, eqF_e, neF_e, inF_e, eqF_n, eqF_n', eqF_eL, neF_eL, eqF_eT, inF_nm, eL_pairs, pairs_e, rngD_e, eL_rev, eL_set, eL_erase, eL_ins, eL_ins', get_m, idx_len, sl0, sl1, sl2, sl3, sl4, sl5, sl6, sl7, sl8, sl9, sl10, sl11, sl12, en_keep, en_front, en_back, en_remove, en_skip, en_ofront, en_oback, en_inn, en_out, en_both, eqF_inn, eqF_out, eqF_both, neF_inn, neF_out, ixC_0, ixC_1, ixC_2, lenC, ixO_0, ixO_1, ixO_2, gtupC, gtupO, fate_a, fate_u, fate_f, fate_b, ent_i, ent_o, ent_b, inT_1, inT_2, inT_3, ofS, String.reduceEq, Bool.or_true, Bool.true_or, Bool.or_false, Bool.false_or, eq_self, ↓x_kill, ↓x_killN, ↓x_join, dropE_n, dropE_c, drop1_un, drop1_fz, drop1_ow, drop1_ot, Int.toNat_natCast, List.length_map, Option.map_some, Option.map_none]
          obtain ⟨hR', hC'⟩ := hR.step hC hxk hcn hn3
          exact ⟨Nat.lt_of_le_of_lt hkl (by decide), Nat.lt_of_le_of_lt (Nat.le_trans hfl hkl) (by decide), _, _, rfl, hc', hR', hC'⟩
        · have hn3 : apl x c ∈ known3 := by simpa using h
          simp -dsimp only [↓x_seq, ↓x_next, ↓x_drop, ↓x_set, ↓x_setO, ↓x_name, ↓x_gnil, ↓x_gcons, ↓x_gtup, ↓x_bin, ↓x_var, ↓x_varF, ↓x_c, ↓x_1, ↓x_B, ↓x_and, ↓x_or, ↓x_not, ↓x_andV, ↓x_orV, ↓x_notV, ↓x_if, ↓x_ifS, ↓x_ret, ↓x_lst, ↓x_tup, ↓x_acons, ↓x_anil, ↓x_aug, ↓y_setIx, ↓x_call, ↓x_callT, ↓x_callK, ↓x_callD, ↓x_chain, ↓x_sl, ↓x_oS, ↓x_oN, ↓x_rep, ↓y_store, ↓x_app, ↓y_popAt, ↓y_insert, ↓y_ext, ↓x_strM, ↓x_listM, ↓x_isi, ↓y_LE, ↓x_yes, ↓y_iList, ↓y_iTup, ↓x_iStr, ↓y_iEnum, ↓x_iRange1, ↓x_iRange2, ↓x_for, ↓x_while, ↓x_lc, ↓y_rev, ↓x_pNil, ↓x_pCons, ↓x_dict, ↓x_dict0, ↓x_dget, cs_t, cs_f, ex_s, sh1, get_fz, get_ow, get_br, brD_ow, brD_fz, fzd_fz, fzd_ow, fzd_br, jO_un, jO_fz, jO_ow, jO_no, intF_i, intF0_i, addF_i, addF_s, addF_l, addF_t, mulF, mulSF_s, ne0F_l, subF, fdivF, modF, powF, ltF_i, ltF_s, leF, gtF, geF, absF_i, maxF, minF, lenF_l, lenF_t, lenF_s, toIntF_i, toIntF_b, toListF_l, toListF_t, toTupF_l, toTupF_t, negF_i, cutF_l, cutF_t, cutF_s, isF_bb, isF_nn, isF_ln, isF_sn, isF_in, isF_tn, List.map_cons, List.map_nil, List.cons_append, List.nil_append, List.replicate, List.getElem?_cons_zero, List.getElem?_cons_succ, List.set_cons_zero, List.set_cons_succ, List.length_cons, List.length_nil, if_true, if_false, Bool.false_eq_true, true_and, and_true, reduceCtorEq, ixF_0, ixF_1, ixF_2, ixF_t0, ixF_t1, ixF_t2, ixn0, ixn1, eqF_s, eqF_i, neF_s, neF_i, eqF_l, eqF_t, neF_l, Option.some.injEq, G.E.ow.injEq, exists_eq_left', exists_eq_left, exists_eq', exists_const, and_self, ne_eq, not_false_eq_true, decide_true, decide_false, Bool.not_true, Bool.not_false, restE, wipeE, List.getD_eq_getElem?_getD, Option.getD_some, eqF_bb, neF_bb, ↓y_iRev, ↓x_sset, ↓x_lset, sortF_e, t3_f, t4_f, gtup3, gtup4, ixT3_0, ixT3_1, ixT3_2, ↓x_callB, ↓x_frz, ↓x_rnil, ↓x_rcons, argsD_n, argsD_c, consO_s, argD_f, argD_b, argB_l, argB_e, argB_f, noLR_e, noLR_t, noLR_a, noLR_i, noLR_b, noLR_s, noLR_n, ↓x_pop, eL_drop, eL_i1, ↓x_callN, isOw_o, ex_bd, en_epf, en_epb, ixFa_0, ixFa_1f, ixFa_1b, fs_a, fs_u, fs_f, fs_b, t3_i, t3_o, t3_c, t2_n, t3_n, ne0F_e, isF_fate, not_true_eq_false, Int.reduceSub, Int.reduceAdd, isL_l, isL_e, isT_t, isT_e, isOL_l, isOL_e, isL1_c, isInt_i, isSome_s, isOwL_l, isOwL_e, en_int, en_nat, en_bool, en_str, en_list, eL_1, eL_2, eL_3, eL_snoc, eL_snoc2, eL_app, eL_LL, eL_LL2, eL_LLs, addF_e, addF_t', addF_n, addF_n', lenF_e, lenF_e', toListF_e, toListF_e', toTupF_e, toTupF_e', cutF_e, cutF_e', cm_keep_skip, cm_keep_front, cm_keep_back, cm_front_skip, cm_front_front, cm_front_back, cm_back_skip, cm_back_front, cm_back_back, cm_remove_skip, cm_remove_front, cm_remove_back, nl0, nl1, nl2, nl3, nl4, nl5, nl6, nl7, nl8, nl9, nl10, nl11, nl12, Int.reduceEq, Int.reduceLT, Int.reduceLE, nat1c, natc1, natc2, natcA, cutA_btw, cutA_to, cutA_from, cutA_all, ixF_e0, ixF_e1, ixP_0, ixP_1, gtupP, pair_f, isF_Ln, isF_Tn, eqF_e, neF_e, inF_e, eqF_n, eqF_n', eqF_eL, neF_eL, eqF_eT, inF_nm, eL_pairs, pairs_e, rngD_e, eL_rev, eL_set, eL_erase, eL_ins, eL_ins', get_m, idx_len, sl0, sl1, sl2, sl3, sl4, sl5, sl6, sl7, sl8, sl9, sl10, sl11, sl12, en_keep, en_front, en_back, en_remove, en_skip, en_ofront, en_oback, en_inn, en_out, en_both, eqF_inn, eqF_out, eqF_both, neF_inn, neF_out, ixC_0, ixC_1, ixC_2, lenC, ixO_0, ixO_1, ixO_2, gtupC, gtupO, fate_a, fate_u, fate_f, fate_b, ent_i, ent_o, ent_b, inT_1, inT_2, inT_3, ofS, String.reduceEq, Bool.or_true, Bool.true_or, Bool.or_false, Bool.false_or, eq_self, ↓x_kill, ↓x_killN, ↓x_join, dropE_n, dropE_c, drop1_un, drop1_fz, drop1_ow, drop1_ot, Int.toNat_natCast, List.length_map, Option.map_some, Option.map_none]
          exact ⟨_, _, rfl, hc', hR, hC.next hn3⟩
      · rintro ev ⟨known3, further3, rfl, -, hR, hC⟩
        simp -dsimp only [↓x_seq, ↓x_next, ↓x_drop, ↓x_set, ↓x_setO, ↓x_name, ↓x_gnil, ↓x_gcons, ↓x_gtup, ↓x_bin, ↓x_var, ↓x_varF, ↓x_c, ↓x_1, ↓x_B, ↓x_and, ↓x_or, ↓x_not, ↓x_andV, ↓x_orV, ↓x_notV, ↓x_if, ↓x_ifS, ↓x_ret, ↓x_lst, ↓x_tup, ↓x_acons, ↓x_anil, ↓x_aug, ↓y_setIx, ↓x_call, ↓x_callT, ↓x_callK, ↓x_callD, ↓x_chain, ↓x_sl, ↓x_oS, ↓x_oN, ↓x_rep, ↓y_store, ↓x_app, ↓y_popAt, ↓y_insert, ↓y_ext, ↓x_strM, ↓x_listM, ↓x_isi, ↓y_LE, ↓x_yes, ↓y_iList, ↓y_iTup, ↓x_iStr, ↓y_iEnum, ↓x_iRange1, ↓x_iRange2, ↓x_for, ↓x_while, ↓x_lc, ↓y_rev, ↓x_pNil, ↓x_pCons, ↓x_dict, ↓x_dict0, ↓x_dget, cs_t, cs_f, ex_s, sh1, get_fz, get_ow, get_br, brD_ow, brD_fz, fzd_fz, fzd_ow, fzd_br, jO_un, jO_fz, jO_ow, jO_no, intF_i, intF0_i, addF_i, addF_s, addF_l, addF_t, mulF, mulSF_s, ne0F_l, subF, fdivF, modF, powF, ltF_i, ltF_s, leF, gtF, geF, absF_i, maxF, minF, lenF_l, lenF_t, lenF_s, toIntF_i, toIntF_b, toListF_l, toListF_t, toTupF_l, toTupF_t, negF_i, cutF_l, cutF_t, cutF_s, isF_bb, isF_nn, isF_ln, isF_sn, isF_in, isF_tn, List.map_cons, List.map_nil, List.cons_append, List.nil_append, List.replicate, List.getElem?_cons_zero, List.getElem?_cons_succ, List.set_cons_zero, List.set_cons_succ, List.length_cons, List.length_nil, if_true, if_false, Bool.false_eq_true, true_and, and_true, reduceCtorEq, ixF_0, ixF_1, ixF_2, ixF_t0, ixF_t1, ixF_t2, ixn0, ixn1, eqF_s, eqF_i, neF_s, neF_i, eqF_l, eqF_t, neF_l, Option.some.injEq, G.E.ow.injEq, exists_eq_left', exists_eq_left, exists_eq', exists_const, and_self, ne_eq, not_false_eq_true, decide_true, decide_false, Bool.not_true, Bool.not_false, restE, wipeE, List.getD_eq_getElem?_getD, Option.getD_some, eqF_bb, neF_bb, ↓y_iRev, ↓x_sset, ↓x_lset, sortF_e, t3_f, t4_f, gtup3, gtup4, ixT3_0, ixT3_1, ixT3_2, ↓x_callB, ↓x_frz, ↓x_rnil, ↓x_rcons, argsD_n, argsD_c, consO_s, argD_f, argD_b, argB_l, argB_e, argB_f, noLR_e, noLR_t, noLR_a, noLR_i, noLR_b, noLR_s, noLR_n, ↓x_pop, eL_drop, eL_i1, ↓x_callN, isOw_o, ex_bd, en_epf, en_epb, ixFa_0, ixFa_1f, ixFa_1b, fs_a, fs_u, fs_f, fs_b, t3_i, t3_o, t3_c, t2_n, t3_n, ne0F_e, isF_fate, not_true_eq_false, Int.reduceSub, Int.reduceAdd, isL_l, isL_e, isT_t, isT_e, isOL_l, isOL_e, isL1_c, isInt_i, isSome_s, isOwL_l, isOwL_e, en_int, en_nat, en_bool, en_str, en_list, eL_1, eL_2, eL_3, eL_snoc, eL_snoc2, eL_app, eL_LL, eL_LL2, eL_LLs, addF_e, addF_t', addF_n, addF_n', lenF_e, lenF_e', toListF_e, toListF_e', toTupF_e, toTupF_e', cutF_e, cutF_e', cm_keep_skip, cm_keep_front, cm_keep_back, cm_front_skip, cm_front_front, cm_front_back, cm_back_skip, cm_back_front, cm_back_back, cm_remove_skip, cm_remove_front, cm_remove_back, nl0, nl1, nl2, nl3, nl4, nl5, nl6, nl7, nl8, nl9, nl10, nl11, nl12, Int.reduceEq, Int.reduceLT, Int.reduceLE, nat1c, natc1, natc2, natcA, cutA_btw, cutA_to, cutA_from, cutA_all, ixF_e0, ixF_e1, ixP_0, ixP_1, gtupP, pair_f, isF_Ln, isF_Tn, eqF_e, neF_e, inF_e, eqF_n, eqF_n', eqF_eL, neF_eL, eqF_eT, inF_nm, eL_pairs, pairs_e, rngD_e, eL_rev, eL_set, eL_erase, eL_ins, eL_ins', get_m, idx_len, sl0, sl1, sl2, sl3, sl4, sl5, sl6, sl7, sl8, sl9, sl10, sl11, sl12, en_keep, en_front, en_back, en_remove, en_skip, en_ofront, en_oback, en_inn, en_out, en_both, eqF_inn, eqF_out, eqF_both, neF_inn, neF_out, ixC_0, ixC_1, ixC_2, lenC, ixO_0, ixO_1, ixO_2, gtupC, gtupO, fate_a, fate_u, fate_f, fate_b, ent_i, ent_o, ent_b, inT_1, inT_2, inT_3, ofS, String.reduceEq, Bool.or_true, Bool.true_or, Bool.or_false, Bool.false_or, eq_self, ↓x_kill, ↓x_killN, ↓x_join, dropE_n, dropE_c, drop1_un, drop1_fz, drop1_ow, drop1_ot, Int.toNat_natCast, List.length_map, Option.map_some, Option.map_none]
        exact ⟨_, _, rfl, fun y hy => hx y (List.mem_cons_of_mem _ hy), hR.next hC⟩
    · rintro ev ⟨known2, further, rfl, -, hR⟩
      simp -dsimp only [↓x_seq, ↓x_next, ↓x_drop, ↓x_set, ↓x_setO, ↓x_name, ↓x_gnil, ↓x_gcons, ↓x_gtup, ↓x_bin, ↓x_var, ↓x_varF, ↓x_c, ↓x_1, ↓x_B, ↓x_and, ↓x_or, ↓x_not, ↓x_andV, ↓x_orV, ↓x_notV, ↓x_if, ↓x_ifS, ↓x_ret, ↓x_lst, ↓x_tup, ↓x_acons, ↓x_anil, ↓x_aug, ↓y_setIx, ↓x_call, ↓x_callT, ↓x_callK, ↓x_callD, ↓x_chain, ↓x_sl, ↓x_oS, ↓x_oN, ↓x_rep, ↓y_store, ↓x_app, ↓y_popAt, ↓y_insert, ↓y_ext, ↓x_strM, ↓x_listM, ↓x_isi, ↓y_LE, ↓x_yes, ↓y_iList, ↓y_iTup, ↓x_iStr, ↓y_iEnum, ↓x_iRange1, ↓x_iRange2, ↓x_for, ↓x_while, ↓x_lc, ↓y_rev, ↓x_pNil, ↓x_pCons, ↓x_dict, ↓x_dict0, ↓x_dget, cs_t, cs_f, ex_s, sh1, get_fz, get_ow, get_br, brD_ow, brD_fz, fzd_fz, fzd_ow, fzd_br, jO_un, jO_fz, jO_ow, jO_no, intF_i, intF0_i, addF_i, addF_s, addF_l, addF_t, mulF, mulSF_s, ne0F_l, subF, fdivF, modF, powF, ltF_i, ltF_s, leF, gtF, geF, absF_i, maxF, minF, lenF_l, lenF_t, lenF_s, toIntF_i, toIntF_b, toListF_l, toListF_t, toTupF_l, toTupF_t, negF_i, cutF_l, cutF_t, cutF_s, isF_bb, isF_nn, isF_ln, isF_sn, isF_in, isF_tn, List.map_cons, List.map_nil, List.cons_append, List.nil_append, List.replicate, List.getElem?_cons_zero, List.getElem?_cons_succ, List.set_cons_zero, List.set_cons_succ, List.length_cons, List.length_nil, if_true, if_false, Bool.false_eq_true, true_and, and_true, reduceCtorEq, ixF_0, ixF_1, ixF_2, ixF_t0, ixF_t1, ixF_t2, ixn0, ixn1, eqF_s, eqF_i, neF_s, neF_i, eqF_l, eqF_t, neF_l, Option.some.injEq, G.E.ow.injEq, exists_eq_left', exists_eq_left, exists_eq', exists_const, and_self, ne_eq, not_false_eq_true, decide_true, decide_false, Bool.not_true, Bool.not_false, restE, wipeE, List.getD_eq_getElem?_getD, Option.getD_some, eqF_bb, neF_bb, ↓y_iRev, ↓x_sset, ↓x_lset, sortF_e, t3_f, t4_f, gtup3, gtup4, ixT3_0, ixT3_1, ixT3_2, ↓x_callB, ↓x_frz, ↓x_rnil, ↓x_rcons, argsD_n, argsD_c, consO_s, argD_f, argD_b, argB_l, argB_e, argB_f, noLR_e, noLR_t, noLR_a, noLR_i, noLR_b, noLR_s, noLR_n, ↓x_pop, eL_drop, eL_i1, ↓x_callN, isOw_o, ex_bd, en_epf, en_epb, ixFa_0, ixFa_1f, ixFa_1b, fs_a, fs_u, fs_f, fs_b, t3_i, t3_o, t3_c, t2_n, t3_n, ne0F_e, isF_fate, not_true_eq_false, Int.reduceSub, Int.reduceAdd, isL_l, isL_e, isT_t, isT_e, isOL_l, isOL_e, isL1_c, isInt_i, isSome_s, isOwL_l, isOwL_e, en_int, en_nat, en_bool, en_str, en_list, eL_1, eL_2, eL_3, eL_snoc, eL_snoc2, eL_app, eL_LL, eL_LL2, eL_LLs, addF_e, addF_t', addF_n, addF_n', lenF_e, lenF_e', toListF_e, toListF_e', toTupF_e, toTupF_e', cutF_e, cutF_e', cm_keep_skip, cm_keep_front, cm_keep_back, cm_front_skip, cm_front_front, cm_front_back, cm_back_skip, cm_back_front, cm_back_back, cm_remove_skip, cm_remove_front, cm_remove_back, nl0, nl1, nl2, nl3, nl4, nl5, nl6, nl7, nl8, nl9, nl10, nl11, nl12, Int.reduceEq, Int.reduceLT, Int.reduceLE, nat1c, natc1, natc2, natcA, cutA_btw, cutA_to, cutA_from, cutA_all, ixF_e0, ixF_e1, ixP_0, ixP_1, gtupP, pair_f, isF_Ln, isF_Tn, eqF_e, neF_e, inF_e, eqF_n, eqF_n', eqF_eL, neF_eL, eqF_eT, inF_nm, eL_pairs, pairs_e, rngD_e, eL_rev, eL_set, eL_erase, eL_ins, eL_ins', get_m, idx_len, sl0, sl1, sl2, sl3, sl4, sl5, sl6, sl7, sl8, sl9, sl10, sl11, sl12, en_keep, en_front, en_back, en_remove, en_skip, en_ofront, en_oback, en_inn, en_out, en_both, eqF_inn, eqF_out, eqF_both, neF_inn, neF_out, ixC_0, ixC_1, ixC_2, lenC, ixO_0, ixO_1, ixO_2, gtupC, gtupO, fate_a, fate_u, fate_f, fate_b, ent_i, ent_o, ent_b, inT_1, inT_2, inT_3, ofS, String.reduceEq, Bool.or_true, Bool.true_or, Bool.or_false, Bool.false_or, eq_self, ↓x_kill, ↓x_killN, ↓x_join, dropE_n, dropE_c, drop1_un, drop1_fz, drop1_ow, drop1_ot, Int.toNat_natCast, List.length_map, Option.map_some, Option.map_none]
      exact ⟨(routeOf p g b e).length - (r + 1), by omega, r + 1, known2, further, rfl, by omega, rfl, Rnd.bfs hb hR⟩
  · have hgk : g ∈ known := by simpa using h
    have hge := hb.done hp hB hgk
    obtain rfl : r = (routeOf p g b e).length := by omega
    simp -dsimp only [↓x_seq, ↓x_next, ↓x_drop, ↓x_set, ↓x_setO, ↓x_name, ↓x_gnil, ↓x_gcons, ↓x_gtup, ↓x_bin, ↓x_var, ↓x_varF, ↓x_c, ↓x_1, ↓x_B, ↓x_and, ↓x_or, ↓x_not, ↓x_andV, ↓x_orV, ↓x_notV, ↓x_if, ↓x_ifS, ↓x_ret, ↓x_lst, ↓x_tup, ↓x_acons, ↓x_anil, ↓x_aug, ↓y_setIx, ↓x_call, ↓x_callT, ↓x_callK, ↓x_callD, ↓x_chain, ↓x_sl, ↓x_oS, ↓x_oN, ↓x_rep, ↓y_store, ↓x_app, ↓y_popAt, ↓y_insert, ↓y_ext, ↓x_strM, ↓x_listM, ↓x_isi, ↓y_LE, ↓x_yes, ↓y_iList, ↓y_iTup, ↓x_iStr, ↓y_iEnum, ↓x_iRange1, ↓x_iRange2, ↓x_for, ↓x_while, ↓x_lc, ↓y_rev, ↓x_pNil, ↓x_pCons, ↓x_dict, ↓x_dict0, ↓x_dget, cs_t, cs_f, ex_s, sh1, get_fz, get_ow, get_br, brD_ow, brD_fz, fzd_fz, fzd_ow, fzd_br, jO_un, jO_fz, jO_ow, jO_no, intF_i, intF0_i, addF_i, addF_s, addF_l, addF_t, mulF, mulSF_s, ne0F_l, subF, fdivF, modF, powF, ltF_i, ltF_s, leF, gtF, geF, absF_i, maxF, minF, lenF_l, lenF_t, lenF_s, toIntF_i, toIntF_b, toListF_l, toListF_t, toTupF_l, toTupF_t, negF_i, cutF_l, cutF_t, cutF_s, isF_bb, isF_nn, isF_ln, isF_sn, isF_in, isF_tn, List.map_cons, List.map_nil, List.cons_append, List.nil_append, List.replicate, List.getElem?_cons_zero, List.getElem?_cons_succ, List.set_cons_zero, List.set_cons_succ, List.length_cons, List.length_nil, if_true, if_false, Bool.false_eq_true, true_and, and_true, reduceCtorEq, ixF_0, ixF_1, ixF_2, ixF_t0, ixF_t1, ixF_t2, ixn0, ixn1, eqF_s, eqF_i, neF_s, neF_i, eqF_l, eqF_t, neF_l, Option.some.injEq, G.E.ow.injEq, exists_eq_left', exists_eq_left, exists_eq', exists_const, and_self, ne_eq, not_false_eq_true, decide_true, decide_false, Bool.not_true, Bool.not_false, restE, wipeE, List.getD_eq_getElem?_getD, Option.getD_some, eqF_bb, neF_bb, ↓y_iRev, ↓x_sset, ↓x_lset, sortF_e, t3_f, t4_f, gtup3, gtup4, ixT3_0, ixT3_1, ixT3_2, ↓x_callB, ↓x_frz, ↓x_rnil, ↓x_rcons, argsD_n, argsD_c, consO_s, argD_f, argD_b, argB_l, argB_e, argB_f, noLR_e, noLR_t, noLR_a, noLR_i, noLR_b, noLR_s, noLR_n, ↓x_pop, eL_drop, eL_i1, ↓x_callN, isOw_o, ex_bd, en_epf, en_epb, ixFa_0, ixFa_1f, ixFa_1b, fs_a, fs_u, fs_f, fs_b, t3_i, t3_o, t3_c, t2_n, t3_n, ne0F_e, isF_fate, not_true_eq_false, Int.reduceSub, Int.reduceAdd, isL_l, isL_e, isT_t, isT_e, isOL_l, isOL_e, isL1_c, isInt_i, isSome_s, isOwL_l, isOwL_e, en_int, en_nat, en_bool, en_str, en_list, eL_1, eL_2, eL_3, eL_snoc, eL_snoc2, eL_app, eL_LL, eL_LL2, eL_LLs, addF_e, addF_t', addF_n, addF_n', lenF_e, lenF_e', toListF_e, toListF_e', toTupF_e, toTupF_e', cutF_e, cutF_e', cm_keep_skip, cm_keep_front, cm_keep_back, cm_front_skip, cm_front_front, cm_front_back, cm_back_skip, cm_back_front, cm_back_back, cm_remove_skip, cm_remove_front, cm_remove_back, nl0, nl1, nl2, nl3, nl4, nl5, nl6, nl7, nl8, nl9, nl10, nl11, nl12, Int.reduceEq, Int.reduceLT, Int.reduceLE, nat1c, natc1, natc2, natcA, cutA_btw, cutA_to, cutA_from, cutA_all, ixF_e0, ixF_e1, ixP_0, ixP_1, gtupP, pair_f, isF_Ln, isF_Tn, eqF_e, neF_e, inF_e, eqF_n, eqF_n', eqF_eL, neF_eL, eqF_eT, inF_nm, eL_pairs, pairs_e, rngD_e, eL_rev, eL_set, eL_erase, eL_ins, eL_ins', get_m, idx_len, sl0, sl1, sl2, sl3, sl4, sl5, sl6, sl7, sl8, sl9, sl10, sl11, sl12, en_keep, en_front, en_back, en_remove, en_skip, en_ofront, en_oback, en_inn, en_out, en_both, eqF_inn, eqF_out, eqF_both, neF_inn, neF_out, ixC_0, ixC_1, ixC_2, lenC, ixO_0, ixO_1, ixO_2, gtupC, gtupO, fate_a, fate_u, fate_f, fate_b, ent_i, ent_o, ent_b, inT_1, inT_2, inT_3, ofS, String.reduceEq, Bool.or_true, Bool.true_or, Bool.or_false, Bool.false_or, eq_self, ↓x_kill, ↓x_killN, ↓x_join, dropE_n, dropE_c, drop1_un, drop1_fz, drop1_ow, drop1_ot, Int.toNat_natCast, List.length_map, Option.map_some, Option.map_none]
    exact hP
/-! ### _law_names -/
def S_law_names (d : D) (ds : List D) (P : R → D → Prop) : Prop := Tp d ∧ ∃ n : Nat, ds = [.int n] ∧ 1 ≤ n ∧ n ≤ 1000 ∧ ∀ (xs : List Str) t, xs ≠ [] → xs.Nodup → xs.length ≤ n → (∀ z ∈ xs, IsName z) → Tp t → P (.ow (.list (xs.map .str))) t
def InC (z : Str) : Prop := ∀ c ∈ z.cps.toList, c ∈ chars.cps.toList
theorem InC.app {x y : Str} (h : InC x) (k : InC y) : InC (x ++ y) := fun c q => by
  have q : c ∈ TL.tl (x ++ y) := q
  rw [TL.tl_append] at q
  exact (List.mem_append.mp q).elim (h c) (k c)
theorem InC.cut {x : Str} {lo hi : Option Int} (h : InC x) : InC (cutS x lo hi) := fun c q => h c (mem_cut q)
/-- the loop's: tape, found names, what else may be set again -/
def NmW (n : Nat) (l : List D) (e : Ev) : Prop := ∃ (t : D) (xs : List Str) (u3 u4 u5 u6 u7 : G.E), e = [.ow true t, .fz (.int n), .ow false (.list (xs.map .str)), u3, u4, u5, u6, u7] ∧ (jO (some u3) ∧ jO (some u4) ∧ jO (some u5) ∧ jO (some u6) ∧ jO (some u7)) ∧ Tp t ∧ xs ≠ [] ∧ xs.Nodup ∧ xs.length + l.length ≤ n ∧ ∀ z ∈ xs, IsName z
theorem nmW {n : Nat} {l : List D} {t : D} {xs : List Str} {u3 u4 u5 u6 u7 : G.E} (h : jO (some u3) ∧ jO (some u4) ∧ jO (some u5) ∧ jO (some u6) ∧ jO (some u7)) (ht : Tp t) (hne : xs ≠ []) (hnd : xs.Nodup) (hl : xs.length + l.length ≤ n) (hz : ∀ z ∈ xs, IsName z) : NmW n l [.ow true t, .fz (.int n), .ow false (.list (xs.map .str)), u3, u4, u5, u6, u7] := ⟨t, xs, u3, u4, u5, u6, u7, rfl, h, ht, hne, hnd, hl, hz⟩
theorem nmW_app {n : Nat} {l : List D} {t : D} {xs : List Str} {z : Str} {u3 u4 u5 u6 u7 : G.E} (h : jO (some u3) ∧ jO (some u4) ∧ jO (some u5) ∧ jO (some u6) ∧ jO (some u7)) (ht : Tp t) (hnd : xs.Nodup) (hl : xs.length + l.length + 1 ≤ n) (hnm : ∀ z ∈ xs, IsName z) (hz : IsName z) (hx : z ∉ xs) : NmW n l [.ow true t, .fz (.int n), .ow false (.list (xs.map .str ++ [.str z])), u3, u4, u5, u6, u7] := by
  rw [app_s]
  refine nmW h ht (by simp) ?_ ?_ ?_
  · rw [List.nodup_append]; refine ⟨hnd, by simp, ?_⟩
    intro a ha b hb e; cases List.mem_singleton.mp hb; exact hx (e ▸ ha)
  · simp only [List.length_append, List.length_cons, List.length_nil]; omega
  · intro a ha
    rcases List.mem_append.mp ha with h | h
    · exact hnm a h
    · cases List.mem_singleton.mp h; exact hz
theorem near_names {b z : Str} (hb : IsName b) (hz : IsName z) {i : Nat} (hi : i < b.length) : ∀ x ∈ [PyData.str (cutS b none (some (i : Int)) ++ cutS z none (some 1) ++ cutS b (some ((i : Int) + 1)) none), .str (cutS (b ++ z) none (some 12)), .str (cutS b none (some (-1)) ++ cutS z none (some 1)), .str (cutS z none (some 1) ++ cutS b none (some 11))], ∃ y, x = .str y ∧ IsName y := by
  have hb1 := hb.1
  have hb2 := hb.2.1
  have hz1 := hz.1
  have hz2 := hz.2.1
  have cb : InC b := hb.2.2
  have cz : InC z := hz.2.2
  have e1 : ((i : Int) + 1) = ((i + 1 : Nat) : Int) := by omega
  intro x hx
  simp only [List.cons_append, List.nil_append, List.mem_cons, List.not_mem_nil, or_false] at hx
  rcases hx with rfl | rfl | rfl | rfl
  · refine ⟨_, rfl, ?_, ?_, (cb.cut.app cz.cut).app cb.cut⟩ <;> simp only [len_app, len_cut, sIx_some, HT.sIx_none] <;> (repeat' split) <;> omega
  · refine ⟨_, rfl, ?_, ?_, (cb.app cz).cut⟩ <;> simp only [len_app, len_cut, sIx_some, HT.sIx_none] <;> (repeat' split) <;> omega
  · refine ⟨_, rfl, ?_, ?_, cb.cut.app cz.cut⟩ <;> simp only [len_app, len_cut, sIx_some, HT.sIx_none] <;> (repeat' split) <;> omega
  · refine ⟨_, rfl, ?_, ?_, cz.cut.app cb.cut⟩ <;> simp only [len_app, len_cut, sIx_some, HT.sIx_none] <;> (repeat' split) <;> omega
theorem names_n {d : D} {n : Nat} {P : R → D → Prop} (ht : Tp d) (h1 : 1 ≤ n) (h2 : n ≤ 1000) (h : ∀ (xs : List Nm) t, xs ≠ [] → xs.Nodup → xs.length ≤ n → Tp t → P (.ow (eL xs)) t) : S_law_names d [.int n] P := by
  refine ⟨ht, n, rfl, h1, h2, fun xs t hne hnd hl hnm ht => ?_⟩
  obtain ⟨ys, rfl⟩ := nms_of hnm
  rw [nms_str]
  exact h ys t (fun e => hne (by rw [e]; rfl)) (nodup_of_map _ hnd) (by rw [List.length_map] at hl; exact hl) ht
set_option maxHeartbeats 4000000 in
theorem ok_law_names (T : Tx K mg) : FnG P w K mg base 3 T.f_law_names T.fd_law_names 2 ["_law_tape_here", "_law_count"] (spT K 2 S_law_names) := by
  refine fn_T (m := 6) T.F_law_names sc_law_names rfl rfl fun {cdv A outer s H E} g room d ds PP hl hS => ?_
  refine ⟨_, _, (gb_cons (gs_setO (i := 2) (ge_lst (ga_cons (ge_callT 0 (ok_law_name T) g (room.mono (by decide)) (by rfl) T.g_law_name T.F_law_name.kp T.b_law_name ga_nil) ga_nil)) sc_law_names.nd)
      (gb_cons (gs_for PassesOwn.never rfl (gi_range1 rfl T.z_range (ga_cons (ge_op op_sub sr_int0 (ge_var 1) ge_int) ga_nil)) (gg_name 3 sc_law_names.nd)
      (gb_cons (gs_set (ge_callT 0 (ok_law_name T) g (room.mono (by decide)) (by rfl) T.g_law_name T.F_law_name.kp T.b_law_name ga_nil) (gg_name 4 sc_law_names.nd))
      (gb_cons (gs_if (gt_cmp (op_eqG (plenty room)) sr_eq (nomark _) (ge_callT 0 (ok_law_draw T) g (room.mono (by decide)) (by rfl) T.g_law_draw T.F_law_draw.kp T.b_law_draw (ga_cons ge_int ga_nil)) ge_int)
      (gb_cons (gs_set (ge_ix ix_seq sr_ix (ge_var 2) (ge_callT 0 (ok_law_draw T) g (room.mono (by decide)) (by rfl) T.g_law_draw T.F_law_draw.kp T.b_law_draw (ga_cons (ge_b1 call_lenG sc_len rfl T.z_len (by decide +kernel) (ge_var 2)) ga_nil)) (fun _ _ => rfl)) (gg_name 5 sc_law_names.nd))
      (gb_cons (gs_set (ge_callT 0 (ok_law_draw T) g (room.mono (by decide)) (by rfl) T.g_law_draw T.F_law_draw.kp T.b_law_draw (ga_cons (ge_b1 call_lenG sc_len rfl T.z_len (by decide +kernel) (ge_var 5)) ga_nil)) (gg_name 6 sc_law_names.nd))
      (gb_cons (gs_set (ge_lst (ga_cons (ge_op op_addG sr_add (ge_op op_addG sr_add (ge_slice (ge_var 5) go_none (go_some (ge_var 6))) (ge_slice (ge_var 4) go_none (go_some ge_int))) (ge_slice (ge_var 5) (go_some (ge_op op_addG sr_add (ge_var 6) ge_int)) go_none)) (ga_cons (ge_slice (ge_op op_addG sr_add (ge_var 5) (ge_var 4)) go_none (go_some ge_int)) ga_nil))) (gg_name 7 sc_law_names.nd))
      (gb_one (gs_set (ge_ix ix_seq sr_ix (ge_op op_addG sr_add (ge_var 7) (ge_lst (ga_cons (ge_op op_addG sr_add (ge_slice (ge_var 5) go_none (go_some (ge_neg ge_int))) (ge_slice (ge_var 4) go_none (go_some ge_int))) (ga_cons (ge_op op_addG sr_add (ge_slice (ge_var 4) go_none (go_some ge_int)) (ge_slice (ge_var 5) go_none (go_some ge_int))) ga_nil)))) (ge_callT 0 (ok_law_draw T) g (room.mono (by decide)) (by rfl) T.g_law_draw T.F_law_draw.kp T.b_law_draw (ga_cons ge_int ga_nil)) (fun _ _ => rfl)) (gg_name 4 sc_law_names.nd))))))
      gb_nil)
      (gb_one (gs_if (gt_cmp (op_ninG (plenty room)) sr_nin (by rfl) (ge_var 4) (ge_var 2))
      (gb_one (gs_expr (ge_append 2 (ge_var 4))))
      gb_nil)))))
      (gb_one (gs_ret (ge_var 2))))), ?_⟩
  obtain ⟨ht, n, rfl, h1, h2, hP⟩ := hS
  simp -dsimp only [↓x_seq, ↓x_next, ↓x_drop, ↓x_set, ↓x_setO, ↓x_name, ↓x_gnil, ↓x_gcons, ↓x_gtup, ↓x_bin, ↓x_var, ↓x_varF, ↓x_c, ↓x_1, ↓x_B, ↓x_and, ↓x_or, ↓x_not, ↓x_andV, ↓x_orV, ↓x_notV, ↓x_if, ↓x_ifS, ↓x_ret, ↓x_lst, ↓x_tup, ↓x_acons, ↓x_anil, ↓x_aug, ↓x_setIx, ↓x_call, ↓x_callT, ↓x_callK, ↓x_callD, ↓x_chain, ↓x_sl, ↓x_oS, ↓x_oN, ↓x_rep, ↓x_store, ↓x_app, ↓x_popAt, ↓x_insert, ↓x_ext, ↓x_strM, ↓x_listM, ↓x_isi, ↓x_LE, ↓x_yes, ↓x_iList, ↓x_iTup, ↓x_iStr, ↓x_iEnum, ↓x_iRange1, ↓x_iRange2, ↓x_for, ↓x_while, ↓x_lc, ↓x_rev, ↓x_pNil, ↓x_pCons, ↓x_dict, ↓x_dict0, ↓x_dget, cs_t, cs_f, ex_s, sh1, get_fz, get_ow, get_br, brD_ow, brD_fz, fzd_fz, fzd_ow, fzd_br, jO_un, jO_fz, jO_ow, jO_no, intF_i, intF0_i, addF_i, addF_s, addF_l, addF_t, mulF, mulSF_s, ne0F_l, subF, fdivF, modF, powF, ltF_i, ltF_s, leF, gtF, geF, absF_i, maxF, minF, lenF_l, lenF_t, lenF_s, toIntF_i, toIntF_b, toListF_l, toListF_t, toTupF_l, toTupF_t, negF_i, cutF_l, cutF_t, cutF_s, isF_bb, isF_nn, isF_ln, isF_sn, isF_in, isF_tn, List.map_cons, List.map_nil, List.cons_append, List.nil_append, List.replicate, List.getElem?_cons_zero, List.getElem?_cons_succ, List.set_cons_zero, List.set_cons_succ, List.length_cons, List.length_nil, if_true, if_false, Bool.false_eq_true, true_and, and_true, reduceCtorEq, ixF_0, ixF_1, ixF_2, ixF_t0, ixF_t1, ixF_t2, ixn0, ixn1, eqF_s, eqF_i, neF_s, neF_i, eqF_l, eqF_t, neF_l, Option.some.injEq, G.E.ow.injEq, exists_eq_left', exists_eq_left, exists_eq', exists_and_left, exists_and_right, exists_const, and_self, ne_eq, not_false_eq_true, decide_true, decide_false, Bool.not_true, Bool.not_false, restE, wipeE, List.getD_eq_getElem?_getD, Option.getD_some]
  refine name_n ht fun z t hz ht => ?_
  simp -dsimp only [↓x_seq, ↓x_next, ↓x_drop, ↓x_set, ↓x_setO, ↓x_name, ↓x_gnil, ↓x_gcons, ↓x_gtup, ↓x_bin, ↓x_var, ↓x_varF, ↓x_c, ↓x_1, ↓x_B, ↓x_and, ↓x_or, ↓x_not, ↓x_andV, ↓x_orV, ↓x_notV, ↓x_if, ↓x_ifS, ↓x_ret, ↓x_lst, ↓x_tup, ↓x_acons, ↓x_anil, ↓x_aug, ↓x_setIx, ↓x_call, ↓x_callT, ↓x_callK, ↓x_callD, ↓x_chain, ↓x_sl, ↓x_oS, ↓x_oN, ↓x_rep, ↓x_store, ↓x_app, ↓x_popAt, ↓x_insert, ↓x_ext, ↓x_strM, ↓x_listM, ↓x_isi, ↓x_LE, ↓x_yes, ↓x_iList, ↓x_iTup, ↓x_iStr, ↓x_iEnum, ↓x_iRange1, ↓x_iRange2, ↓x_for, ↓x_while, ↓x_lc, ↓x_rev, ↓x_pNil, ↓x_pCons, ↓x_dict, ↓x_dict0, ↓x_dget, cs_t, cs_f, ex_s, sh1, get_fz, get_ow, get_br, brD_ow, brD_fz, fzd_fz, fzd_ow, fzd_br, jO_un, jO_fz, jO_ow, jO_no, intF_i, intF0_i, addF_i, addF_s, addF_l, addF_t, mulF, mulSF_s, ne0F_l, subF, fdivF, modF, powF, ltF_i, ltF_s, leF, gtF, geF, absF_i, maxF, minF, lenF_l, lenF_t, lenF_s, toIntF_i, toIntF_b, toListF_l, toListF_t, toTupF_l, toTupF_t, negF_i, cutF_l, cutF_t, cutF_s, isF_bb, isF_nn, isF_ln, isF_sn, isF_in, isF_tn, List.map_cons, List.map_nil, List.cons_append, List.nil_append, List.replicate, List.getElem?_cons_zero, List.getElem?_cons_succ, List.set_cons_zero, List.set_cons_succ, List.length_cons, List.length_nil, if_true, if_false, Bool.false_eq_true, true_and, and_true, reduceCtorEq, ixF_0, ixF_1, ixF_2, ixF_t0, ixF_t1, ixF_t2, ixn0, ixn1, eqF_s, eqF_i, neF_s, neF_i, eqF_l, eqF_t, neF_l, Option.some.injEq, G.E.ow.injEq, exists_eq_left', exists_eq_left, exists_eq', exists_and_left, exists_and_right, exists_const, and_self, ne_eq, not_false_eq_true, decide_true, decide_false, Bool.not_true, Bool.not_false, restE, wipeE, List.getD_eq_getElem?_getD, Option.getD_some]
  refine ⟨by decide, ⟨by omega, by omega⟩, for_i (NmW n) (nmW (xs := [z]) ⟨trivial, trivial, trivial, trivial, trivial⟩ ht (by simp) (by simp) (by rw [rngD_length]; simp only [List.length_cons, List.length_nil]; omega) (by simpa using hz)) ?_ ?_⟩
  · rintro y l e ⟨t, xs, u3, u4, u5, u6, u7, rfl, ⟨j3, j4, j5, j6, j7⟩, ht, hne, hnd, hlen, hnm⟩
    have hok : ∀ x ∈ xs, SOk x := fun x hx => (hnm x hx).ok
    have hlx : xs.length + l.length + 1 ≤ n := by simp only [List.length_cons] at hlen; omega
    have hly : xs.length < sizeLine := sz1 (by omega)
    have j1 : ∀ {d : D}, jO (some (G.E.fz d)) := trivial
    simp -dsimp only [↓x_seq, ↓x_next, ↓x_drop, ↓x_set, ↓x_setO, ↓x_name, ↓x_gnil, ↓x_gcons, ↓x_gtup, ↓x_bin, ↓x_var, ↓x_varF, ↓x_c, ↓x_1, ↓x_B, ↓x_and, ↓x_or, ↓x_not, ↓x_andV, ↓x_orV, ↓x_notV, ↓x_if, ↓x_ifS, ↓x_ret, ↓x_lst, ↓x_tup, ↓x_acons, ↓x_anil, ↓x_aug, ↓x_setIx, ↓x_call, ↓x_callT, ↓x_callK, ↓x_callD, ↓x_chain, ↓x_sl, ↓x_oS, ↓x_oN, ↓x_rep, ↓x_store, ↓x_app, ↓x_popAt, ↓x_insert, ↓x_ext, ↓x_strM, ↓x_listM, ↓x_isi, ↓x_LE, ↓x_yes, ↓x_iList, ↓x_iTup, ↓x_iStr, ↓x_iEnum, ↓x_iRange1, ↓x_iRange2, ↓x_for, ↓x_while, ↓x_lc, ↓x_rev, ↓x_pNil, ↓x_pCons, ↓x_dict, ↓x_dict0, ↓x_dget, cs_t, cs_f, ex_s, sh1, get_fz, get_ow, get_br, brD_ow, brD_fz, fzd_fz, fzd_ow, fzd_br, jO_un, jO_fz, jO_ow, jO_no, intF_i, intF0_i, addF_i, addF_s, addF_l, addF_t, mulF, mulSF_s, ne0F_l, subF, fdivF, modF, powF, ltF_i, ltF_s, leF, gtF, geF, absF_i, maxF, minF, lenF_l, lenF_t, lenF_s, toIntF_i, toIntF_b, toListF_l, toListF_t, toTupF_l, toTupF_t, negF_i, cutF_l, cutF_t, cutF_s, isF_bb, isF_nn, isF_ln, isF_sn, isF_in, isF_tn, List.map_cons, List.map_nil, List.cons_append, List.nil_append, List.replicate, List.getElem?_cons_zero, List.getElem?_cons_succ, List.set_cons_zero, List.set_cons_succ, List.length_cons, List.length_nil, if_true, if_false, Bool.false_eq_true, true_and, and_true, reduceCtorEq, ixF_0, ixF_1, ixF_2, ixF_t0, ixF_t1, ixF_t2, ixn0, ixn1, eqF_s, eqF_i, neF_s, neF_i, eqF_l, eqF_t, neF_l, Option.some.injEq, G.E.ow.injEq, exists_eq_left', exists_eq_left, exists_eq', exists_and_left, exists_and_right, exists_const, and_self, ne_eq, not_false_eq_true, decide_true, decide_false, Bool.not_true, Bool.not_false, restE, wipeE, List.getD_eq_getElem?_getD, Option.getD_some]
    refine ⟨j3, name_n ht fun z t hz ht => ?_⟩
    simp -dsimp only [↓x_seq, ↓x_next, ↓x_drop, ↓x_set, ↓x_setO, ↓x_name, ↓x_gnil, ↓x_gcons, ↓x_gtup, ↓x_bin, ↓x_var, ↓x_varF, ↓x_c, ↓x_1, ↓x_B, ↓x_and, ↓x_or, ↓x_not, ↓x_andV, ↓x_orV, ↓x_notV, ↓x_if, ↓x_ifS, ↓x_ret, ↓x_lst, ↓x_tup, ↓x_acons, ↓x_anil, ↓x_aug, ↓x_setIx, ↓x_call, ↓x_callT, ↓x_callK, ↓x_callD, ↓x_chain, ↓x_sl, ↓x_oS, ↓x_oN, ↓x_rep, ↓x_store, ↓x_app, ↓x_popAt, ↓x_insert, ↓x_ext, ↓x_strM, ↓x_listM, ↓x_isi, ↓x_LE, ↓x_yes, ↓x_iList, ↓x_iTup, ↓x_iStr, ↓x_iEnum, ↓x_iRange1, ↓x_iRange2, ↓x_for, ↓x_while, ↓x_lc, ↓x_rev, ↓x_pNil, ↓x_pCons, ↓x_dict, ↓x_dict0, ↓x_dget, cs_t, cs_f, ex_s, sh1, get_fz, get_ow, get_br, brD_ow, brD_fz, fzd_fz, fzd_ow, fzd_br, jO_un, jO_fz, jO_ow, jO_no, intF_i, intF0_i, addF_i, addF_s, addF_l, addF_t, mulF, mulSF_s, ne0F_l, subF, fdivF, modF, powF, ltF_i, ltF_s, leF, gtF, geF, absF_i, maxF, minF, lenF_l, lenF_t, lenF_s, toIntF_i, toIntF_b, toListF_l, toListF_t, toTupF_l, toTupF_t, negF_i, cutF_l, cutF_t, cutF_s, isF_bb, isF_nn, isF_ln, isF_sn, isF_in, isF_tn, List.map_cons, List.map_nil, List.cons_append, List.nil_append, List.replicate, List.getElem?_cons_zero, List.getElem?_cons_succ, List.set_cons_zero, List.set_cons_succ, List.length_cons, List.length_nil, if_true, if_false, Bool.false_eq_true, true_and, and_true, reduceCtorEq, ixF_0, ixF_1, ixF_2, ixF_t0, ixF_t1, ixF_t2, ixn0, ixn1, eqF_s, eqF_i, neF_s, neF_i, eqF_l, eqF_t, neF_l, Option.some.injEq, G.E.ow.injEq, exists_eq_left', exists_eq_left, exists_eq', exists_and_left, exists_and_right, exists_const, and_self, ne_eq, not_false_eq_true, decide_true, decide_false, Bool.not_true, Bool.not_false, restE, wipeE, List.getD_eq_getElem?_getD, Option.getD_some]
    refine ⟨j4, draw_n ht (by decide) fun i t hi ht => ?_⟩
    simp -dsimp only [↓x_seq, ↓x_next, ↓x_drop, ↓x_set, ↓x_setO, ↓x_name, ↓x_gnil, ↓x_gcons, ↓x_gtup, ↓x_bin, ↓x_var, ↓x_varF, ↓x_c, ↓x_1, ↓x_B, ↓x_and, ↓x_or, ↓x_not, ↓x_andV, ↓x_orV, ↓x_notV, ↓x_if, ↓x_ifS, ↓x_ret, ↓x_lst, ↓x_tup, ↓x_acons, ↓x_anil, ↓x_aug, ↓x_setIx, ↓x_call, ↓x_callT, ↓x_callK, ↓x_callD, ↓x_chain, ↓x_sl, ↓x_oS, ↓x_oN, ↓x_rep, ↓x_store, ↓x_app, ↓x_popAt, ↓x_insert, ↓x_ext, ↓x_strM, ↓x_listM, ↓x_isi, ↓x_LE, ↓x_yes, ↓x_iList, ↓x_iTup, ↓x_iStr, ↓x_iEnum, ↓x_iRange1, ↓x_iRange2, ↓x_for, ↓x_while, ↓x_lc, ↓x_rev, ↓x_pNil, ↓x_pCons, ↓x_dict, ↓x_dict0, ↓x_dget, cs_t, cs_f, ex_s, sh1, get_fz, get_ow, get_br, brD_ow, brD_fz, fzd_fz, fzd_ow, fzd_br, jO_un, jO_fz, jO_ow, jO_no, intF_i, intF0_i, addF_i, addF_s, addF_l, addF_t, mulF, mulSF_s, ne0F_l, subF, fdivF, modF, powF, ltF_i, ltF_s, leF, gtF, geF, absF_i, maxF, minF, lenF_l, lenF_t, lenF_s, toIntF_i, toIntF_b, toListF_l, toListF_t, toTupF_l, toTupF_t, negF_i, cutF_l, cutF_t, cutF_s, isF_bb, isF_nn, isF_ln, isF_sn, isF_in, isF_tn, List.map_cons, List.map_nil, List.cons_append, List.nil_append, List.replicate, List.getElem?_cons_zero, List.getElem?_cons_succ, List.set_cons_zero, List.set_cons_succ, List.length_cons, List.length_nil, if_true, if_false, Bool.false_eq_true, true_and, and_true, reduceCtorEq, ixF_0, ixF_1, ixF_2, ixF_t0, ixF_t1, ixF_t2, ixn0, ixn1, eqF_s, eqF_i, neF_s, neF_i, eqF_l, eqF_t, neF_l, Option.some.injEq, G.E.ow.injEq, exists_eq_left', exists_eq_left, exists_eq', exists_and_left, exists_and_right, exists_const, and_self, ne_eq, not_false_eq_true, decide_true, decide_false, Bool.not_true, Bool.not_false, restE, wipeE, List.getD_eq_getElem?_getD, Option.getD_some]
    refine cs_i (fun hi0 => ?_) fun hi0 => ?_
    · simp -dsimp only [↓x_seq, ↓x_next, ↓x_drop, ↓x_set, ↓x_setO, ↓x_name, ↓x_gnil, ↓x_gcons, ↓x_gtup, ↓x_bin, ↓x_var, ↓x_varF, ↓x_c, ↓x_1, ↓x_B, ↓x_and, ↓x_or, ↓x_not, ↓x_andV, ↓x_orV, ↓x_notV, ↓x_if, ↓x_ifS, ↓x_ret, ↓x_lst, ↓x_tup, ↓x_acons, ↓x_anil, ↓x_aug, ↓x_setIx, ↓x_call, ↓x_callT, ↓x_callK, ↓x_callD, ↓x_chain, ↓x_sl, ↓x_oS, ↓x_oN, ↓x_rep, ↓x_store, ↓x_app, ↓x_popAt, ↓x_insert, ↓x_ext, ↓x_strM, ↓x_listM, ↓x_isi, ↓x_LE, ↓x_yes, ↓x_iList, ↓x_iTup, ↓x_iStr, ↓x_iEnum, ↓x_iRange1, ↓x_iRange2, ↓x_for, ↓x_while, ↓x_lc, ↓x_rev, ↓x_pNil, ↓x_pCons, ↓x_dict, ↓x_dict0, ↓x_dget, cs_t, cs_f, ex_s, sh1, get_fz, get_ow, get_br, brD_ow, brD_fz, fzd_fz, fzd_ow, fzd_br, jO_un, jO_fz, jO_ow, jO_no, intF_i, intF0_i, addF_i, addF_s, addF_l, addF_t, mulF, mulSF_s, ne0F_l, subF, fdivF, modF, powF, ltF_i, ltF_s, leF, gtF, geF, absF_i, maxF, minF, lenF_l, lenF_t, lenF_s, toIntF_i, toIntF_b, toListF_l, toListF_t, toTupF_l, toTupF_t, negF_i, cutF_l, cutF_t, cutF_s, isF_bb, isF_nn, isF_ln, isF_sn, isF_in, isF_tn, List.map_cons, List.map_nil, List.cons_append, List.nil_append, List.replicate, List.getElem?_cons_zero, List.getElem?_cons_succ, List.set_cons_zero, List.set_cons_succ, List.length_cons, List.length_nil, if_true, if_false, Bool.false_eq_true, true_and, and_true, reduceCtorEq, ixF_0, ixF_1, ixF_2, ixF_t0, ixF_t1, ixF_t2, ixn0, ixn1, eqF_s, eqF_i, neF_s, neF_i, eqF_l, eqF_t, neF_l, Option.some.injEq, G.E.ow.injEq, exists_eq_left', exists_eq_left, exists_eq', exists_and_left, exists_and_right, exists_const, and_self, ne_eq, not_false_eq_true, decide_true, decide_false, Bool.not_true, Bool.not_false, restE, wipeE, List.getD_eq_getElem?_getD, Option.getD_some]
      have hp : 0 < xs.length := List.length_pos_iff.mpr hne
      rw [List.length_map]
      refine draw_n ht (by omega) fun i t hi ht => ?_
      simp -dsimp only [↓x_seq, ↓x_next, ↓x_drop, ↓x_set, ↓x_setO, ↓x_name, ↓x_gnil, ↓x_gcons, ↓x_gtup, ↓x_bin, ↓x_var, ↓x_varF, ↓x_c, ↓x_1, ↓x_B, ↓x_and, ↓x_or, ↓x_not, ↓x_andV, ↓x_orV, ↓x_notV, ↓x_if, ↓x_ifS, ↓x_ret, ↓x_lst, ↓x_tup, ↓x_acons, ↓x_anil, ↓x_aug, ↓x_setIx, ↓x_call, ↓x_callT, ↓x_callK, ↓x_callD, ↓x_chain, ↓x_sl, ↓x_oS, ↓x_oN, ↓x_rep, ↓x_store, ↓x_app, ↓x_popAt, ↓x_insert, ↓x_ext, ↓x_strM, ↓x_listM, ↓x_isi, ↓x_LE, ↓x_yes, ↓x_iList, ↓x_iTup, ↓x_iStr, ↓x_iEnum, ↓x_iRange1, ↓x_iRange2, ↓x_for, ↓x_while, ↓x_lc, ↓x_rev, ↓x_pNil, ↓x_pCons, ↓x_dict, ↓x_dict0, ↓x_dget, cs_t, cs_f, ex_s, sh1, get_fz, get_ow, get_br, brD_ow, brD_fz, fzd_fz, fzd_ow, fzd_br, jO_un, jO_fz, jO_ow, jO_no, intF_i, intF0_i, addF_i, addF_s, addF_l, addF_t, mulF, mulSF_s, ne0F_l, subF, fdivF, modF, powF, ltF_i, ltF_s, leF, gtF, geF, absF_i, maxF, minF, lenF_l, lenF_t, lenF_s, toIntF_i, toIntF_b, toListF_l, toListF_t, toTupF_l, toTupF_t, negF_i, cutF_l, cutF_t, cutF_s, isF_bb, isF_nn, isF_ln, isF_sn, isF_in, isF_tn, List.map_cons, List.map_nil, List.cons_append, List.nil_append, List.replicate, List.getElem?_cons_zero, List.getElem?_cons_succ, List.set_cons_zero, List.set_cons_succ, List.length_cons, List.length_nil, if_true, if_false, Bool.false_eq_true, true_and, and_true, reduceCtorEq, ixF_0, ixF_1, ixF_2, ixF_t0, ixF_t1, ixF_t2, ixn0, ixn1, eqF_s, eqF_i, neF_s, neF_i, eqF_l, eqF_t, neF_l, Option.some.injEq, G.E.ow.injEq, exists_eq_left', exists_eq_left, exists_eq', exists_and_left, exists_and_right, exists_const, and_self, ne_eq, not_false_eq_true, decide_true, decide_false, Bool.not_true, Bool.not_false, restE, wipeE, List.getD_eq_getElem?_getD, Option.getD_some]
      refine ix_mem (by rw [List.length_map]; omega) fun b hb => ?_
      obtain ⟨b, hc, rfl⟩ := List.mem_map.mp hb
      have hb := hnm _ hc
      have hb1 := hb.1
      have hb2 := hb.2.1
      have hz1 := hz.1
      have hz2 := hz.2.1
      simp -dsimp only [↓x_seq, ↓x_next, ↓x_drop, ↓x_set, ↓x_setO, ↓x_name, ↓x_gnil, ↓x_gcons, ↓x_gtup, ↓x_bin, ↓x_var, ↓x_varF, ↓x_c, ↓x_1, ↓x_B, ↓x_and, ↓x_or, ↓x_not, ↓x_andV, ↓x_orV, ↓x_notV, ↓x_if, ↓x_ifS, ↓x_ret, ↓x_lst, ↓x_tup, ↓x_acons, ↓x_anil, ↓x_aug, ↓x_setIx, ↓x_call, ↓x_callT, ↓x_callK, ↓x_callD, ↓x_chain, ↓x_sl, ↓x_oS, ↓x_oN, ↓x_rep, ↓x_store, ↓x_app, ↓x_popAt, ↓x_insert, ↓x_ext, ↓x_strM, ↓x_listM, ↓x_isi, ↓x_LE, ↓x_yes, ↓x_iList, ↓x_iTup, ↓x_iStr, ↓x_iEnum, ↓x_iRange1, ↓x_iRange2, ↓x_for, ↓x_while, ↓x_lc, ↓x_rev, ↓x_pNil, ↓x_pCons, ↓x_dict, ↓x_dict0, ↓x_dget, cs_t, cs_f, ex_s, sh1, get_fz, get_ow, get_br, brD_ow, brD_fz, fzd_fz, fzd_ow, fzd_br, jO_un, jO_fz, jO_ow, jO_no, intF_i, intF0_i, addF_i, addF_s, addF_l, addF_t, mulF, mulSF_s, ne0F_l, subF, fdivF, modF, powF, ltF_i, ltF_s, leF, gtF, geF, absF_i, maxF, minF, lenF_l, lenF_t, lenF_s, toIntF_i, toIntF_b, toListF_l, toListF_t, toTupF_l, toTupF_t, negF_i, cutF_l, cutF_t, cutF_s, isF_bb, isF_nn, isF_ln, isF_sn, isF_in, isF_tn, List.map_cons, List.map_nil, List.cons_append, List.nil_append, List.replicate, List.getElem?_cons_zero, List.getElem?_cons_succ, List.set_cons_zero, List.set_cons_succ, List.length_cons, List.length_nil, if_true, if_false, Bool.false_eq_true, true_and, and_true, reduceCtorEq, ixF_0, ixF_1, ixF_2, ixF_t0, ixF_t1, ixF_t2, ixn0, ixn1, eqF_s, eqF_i, neF_s, neF_i, eqF_l, eqF_t, neF_l, Option.some.injEq, G.E.ow.injEq, exists_eq_left', exists_eq_left, exists_eq', exists_and_left, exists_and_right, exists_const, and_self, ne_eq, not_false_eq_true, decide_true, decide_false, Bool.not_true, Bool.not_false, restE, wipeE, List.getD_eq_getElem?_getD, Option.getD_some]
      refine ⟨j5, sz0 (by omega), draw_n ht (by omega) fun i t hi ht => ?_⟩
      simp -dsimp only [↓x_seq, ↓x_next, ↓x_drop, ↓x_set, ↓x_setO, ↓x_name, ↓x_gnil, ↓x_gcons, ↓x_gtup, ↓x_bin, ↓x_var, ↓x_varF, ↓x_c, ↓x_1, ↓x_B, ↓x_and, ↓x_or, ↓x_not, ↓x_andV, ↓x_orV, ↓x_notV, ↓x_if, ↓x_ifS, ↓x_ret, ↓x_lst, ↓x_tup, ↓x_acons, ↓x_anil, ↓x_aug, ↓x_setIx, ↓x_call, ↓x_callT, ↓x_callK, ↓x_callD, ↓x_chain, ↓x_sl, ↓x_oS, ↓x_oN, ↓x_rep, ↓x_store, ↓x_app, ↓x_popAt, ↓x_insert, ↓x_ext, ↓x_strM, ↓x_listM, ↓x_isi, ↓x_LE, ↓x_yes, ↓x_iList, ↓x_iTup, ↓x_iStr, ↓x_iEnum, ↓x_iRange1, ↓x_iRange2, ↓x_for, ↓x_while, ↓x_lc, ↓x_rev, ↓x_pNil, ↓x_pCons, ↓x_dict, ↓x_dict0, ↓x_dget, cs_t, cs_f, ex_s, sh1, get_fz, get_ow, get_br, brD_ow, brD_fz, fzd_fz, fzd_ow, fzd_br, jO_un, jO_fz, jO_ow, jO_no, intF_i, intF0_i, addF_i, addF_s, addF_l, addF_t, mulF, mulSF_s, ne0F_l, subF, fdivF, modF, powF, ltF_i, ltF_s, leF, gtF, geF, absF_i, maxF, minF, lenF_l, lenF_t, lenF_s, toIntF_i, toIntF_b, toListF_l, toListF_t, toTupF_l, toTupF_t, negF_i, cutF_l, cutF_t, cutF_s, isF_bb, isF_nn, isF_ln, isF_sn, isF_in, isF_tn, List.map_cons, List.map_nil, List.cons_append, List.nil_append, List.replicate, List.getElem?_cons_zero, List.getElem?_cons_succ, List.set_cons_zero, List.set_cons_succ, List.length_cons, List.length_nil, if_true, if_false, Bool.false_eq_true, true_and, and_true, reduceCtorEq, ixF_0, ixF_1, ixF_2, ixF_t0, ixF_t1, ixF_t2, ixn0, ixn1, eqF_s, eqF_i, neF_s, neF_i, eqF_l, eqF_t, neF_l, Option.some.injEq, G.E.ow.injEq, exists_eq_left', exists_eq_left, exists_eq', exists_and_left, exists_and_right, exists_const, and_self, ne_eq, not_false_eq_true, decide_true, decide_false, Bool.not_true, Bool.not_false, restE, wipeE, List.getD_eq_getElem?_getD, Option.getD_some]
      have q1 := cutS_length b none (some (i : Int))
      have q2 := cutS_length z none (some 1)
      have q3 := cutS_length b (some ((i : Int) + 1)) none
      have q4 := cutS_length b none (some (-1))
      have q5 := cutS_length b none (some 11)
      refine ⟨j6, ?_⟩
      repeat (first | refine ⟨j7, ?_⟩ | refine ⟨sz0 (by (try simp only [len_app]); omega), ?_⟩)
      refine draw_n ht (by decide) fun k t hk ht => ?_
      simp -dsimp only [↓x_seq, ↓x_next, ↓x_drop, ↓x_set, ↓x_setO, ↓x_name, ↓x_gnil, ↓x_gcons, ↓x_gtup, ↓x_bin, ↓x_var, ↓x_varF, ↓x_c, ↓x_1, ↓x_B, ↓x_and, ↓x_or, ↓x_not, ↓x_andV, ↓x_orV, ↓x_notV, ↓x_if, ↓x_ifS, ↓x_ret, ↓x_lst, ↓x_tup, ↓x_acons, ↓x_anil, ↓x_aug, ↓x_setIx, ↓x_call, ↓x_callT, ↓x_callK, ↓x_callD, ↓x_chain, ↓x_sl, ↓x_oS, ↓x_oN, ↓x_rep, ↓x_store, ↓x_app, ↓x_popAt, ↓x_insert, ↓x_ext, ↓x_strM, ↓x_listM, ↓x_isi, ↓x_LE, ↓x_yes, ↓x_iList, ↓x_iTup, ↓x_iStr, ↓x_iEnum, ↓x_iRange1, ↓x_iRange2, ↓x_for, ↓x_while, ↓x_lc, ↓x_rev, ↓x_pNil, ↓x_pCons, ↓x_dict, ↓x_dict0, ↓x_dget, cs_t, cs_f, ex_s, sh1, get_fz, get_ow, get_br, brD_ow, brD_fz, fzd_fz, fzd_ow, fzd_br, jO_un, jO_fz, jO_ow, jO_no, intF_i, intF0_i, addF_i, addF_s, addF_l, addF_t, mulF, mulSF_s, ne0F_l, subF, fdivF, modF, powF, ltF_i, ltF_s, leF, gtF, geF, absF_i, maxF, minF, lenF_l, lenF_t, lenF_s, toIntF_i, toIntF_b, toListF_l, toListF_t, toTupF_l, toTupF_t, negF_i, cutF_l, cutF_t, cutF_s, isF_bb, isF_nn, isF_ln, isF_sn, isF_in, isF_tn, List.map_cons, List.map_nil, List.cons_append, List.nil_append, List.replicate, List.getElem?_cons_zero, List.getElem?_cons_succ, List.set_cons_zero, List.set_cons_succ, List.length_cons, List.length_nil, if_true, if_false, Bool.false_eq_true, true_and, and_true, reduceCtorEq, ixF_0, ixF_1, ixF_2, ixF_t0, ixF_t1, ixF_t2, ixn0, ixn1, eqF_s, eqF_i, neF_s, neF_i, eqF_l, eqF_t, neF_l, Option.some.injEq, G.E.ow.injEq, exists_eq_left', exists_eq_left, exists_eq', exists_and_left, exists_and_right, exists_const, and_self, ne_eq, not_false_eq_true, decide_true, decide_false, Bool.not_true, Bool.not_false, restE, wipeE, List.getD_eq_getElem?_getD, Option.getD_some]
      refine ix_mem (by simp only [List.length_cons, List.length_nil]; omega) fun x hx => ?_
      obtain ⟨z, rfl, hz⟩ := near_names hb hz (by omega) x hx
      simp -dsimp only [↓x_seq, ↓x_next, ↓x_drop, ↓x_set, ↓x_setO, ↓x_name, ↓x_gnil, ↓x_gcons, ↓x_gtup, ↓x_bin, ↓x_var, ↓x_varF, ↓x_c, ↓x_1, ↓x_B, ↓x_and, ↓x_or, ↓x_not, ↓x_andV, ↓x_orV, ↓x_notV, ↓x_if, ↓x_ifS, ↓x_ret, ↓x_lst, ↓x_tup, ↓x_acons, ↓x_anil, ↓x_aug, ↓x_setIx, ↓x_call, ↓x_callT, ↓x_callK, ↓x_callD, ↓x_chain, ↓x_sl, ↓x_oS, ↓x_oN, ↓x_rep, ↓x_store, ↓x_app, ↓x_popAt, ↓x_insert, ↓x_ext, ↓x_strM, ↓x_listM, ↓x_isi, ↓x_LE, ↓x_yes, ↓x_iList, ↓x_iTup, ↓x_iStr, ↓x_iEnum, ↓x_iRange1, ↓x_iRange2, ↓x_for, ↓x_while, ↓x_lc, ↓x_rev, ↓x_pNil, ↓x_pCons, ↓x_dict, ↓x_dict0, ↓x_dget, cs_t, cs_f, ex_s, sh1, get_fz, get_ow, get_br, brD_ow, brD_fz, fzd_fz, fzd_ow, fzd_br, jO_un, jO_fz, jO_ow, jO_no, intF_i, intF0_i, addF_i, addF_s, addF_l, addF_t, mulF, mulSF_s, ne0F_l, subF, fdivF, modF, powF, ltF_i, ltF_s, leF, gtF, geF, absF_i, maxF, minF, lenF_l, lenF_t, lenF_s, toIntF_i, toIntF_b, toListF_l, toListF_t, toTupF_l, toTupF_t, negF_i, cutF_l, cutF_t, cutF_s, isF_bb, isF_nn, isF_ln, isF_sn, isF_in, isF_tn, List.map_cons, List.map_nil, List.cons_append, List.nil_append, List.replicate, List.getElem?_cons_zero, List.getElem?_cons_succ, List.set_cons_zero, List.set_cons_succ, List.length_cons, List.length_nil, if_true, if_false, Bool.false_eq_true, true_and, and_true, reduceCtorEq, ixF_0, ixF_1, ixF_2, ixF_t0, ixF_t1, ixF_t2, ixn0, ixn1, eqF_s, eqF_i, neF_s, neF_i, eqF_l, eqF_t, neF_l, Option.some.injEq, G.E.ow.injEq, exists_eq_left', exists_eq_left, exists_eq', exists_and_left, exists_and_right, exists_const, and_self, ne_eq, not_false_eq_true, decide_true, decide_false, Bool.not_true, Bool.not_false, restE, wipeE, List.getD_eq_getElem?_getD, Option.getD_some]
      refine nin_ss hok hz.ok (fun h => ?_) fun h => ?_
      · simp -dsimp only [↓x_seq, ↓x_next, ↓x_drop, ↓x_set, ↓x_setO, ↓x_name, ↓x_gnil, ↓x_gcons, ↓x_gtup, ↓x_bin, ↓x_var, ↓x_varF, ↓x_c, ↓x_1, ↓x_B, ↓x_and, ↓x_or, ↓x_not, ↓x_andV, ↓x_orV, ↓x_notV, ↓x_if, ↓x_ifS, ↓x_ret, ↓x_lst, ↓x_tup, ↓x_acons, ↓x_anil, ↓x_aug, ↓x_setIx, ↓x_call, ↓x_callT, ↓x_callK, ↓x_callD, ↓x_chain, ↓x_sl, ↓x_oS, ↓x_oN, ↓x_rep, ↓x_store, ↓x_app, ↓x_popAt, ↓x_insert, ↓x_ext, ↓x_strM, ↓x_listM, ↓x_isi, ↓x_LE, ↓x_yes, ↓x_iList, ↓x_iTup, ↓x_iStr, ↓x_iEnum, ↓x_iRange1, ↓x_iRange2, ↓x_for, ↓x_while, ↓x_lc, ↓x_rev, ↓x_pNil, ↓x_pCons, ↓x_dict, ↓x_dict0, ↓x_dget, cs_t, cs_f, ex_s, sh1, get_fz, get_ow, get_br, brD_ow, brD_fz, fzd_fz, fzd_ow, fzd_br, jO_un, jO_fz, jO_ow, jO_no, intF_i, intF0_i, addF_i, addF_s, addF_l, addF_t, mulF, mulSF_s, ne0F_l, subF, fdivF, modF, powF, ltF_i, ltF_s, leF, gtF, geF, absF_i, maxF, minF, lenF_l, lenF_t, lenF_s, toIntF_i, toIntF_b, toListF_l, toListF_t, toTupF_l, toTupF_t, negF_i, cutF_l, cutF_t, cutF_s, isF_bb, isF_nn, isF_ln, isF_sn, isF_in, isF_tn, List.map_cons, List.map_nil, List.cons_append, List.nil_append, List.replicate, List.getElem?_cons_zero, List.getElem?_cons_succ, List.set_cons_zero, List.set_cons_succ, List.length_cons, List.length_nil, if_true, if_false, Bool.false_eq_true, true_and, and_true, reduceCtorEq, ixF_0, ixF_1, ixF_2, ixF_t0, ixF_t1, ixF_t2, ixn0, ixn1, eqF_s, eqF_i, neF_s, neF_i, eqF_l, eqF_t, neF_l, Option.some.injEq, G.E.ow.injEq, exists_eq_left', exists_eq_left, exists_eq', exists_and_left, exists_and_right, exists_const, and_self, ne_eq, not_false_eq_true, decide_true, decide_false, Bool.not_true, Bool.not_false, restE, wipeE, List.getD_eq_getElem?_getD, Option.getD_some]
        exact ⟨⟨_, rfl⟩, by rw [List.length_map]; exact hly, nmW_app ⟨j1, j1, j1, j1, j1⟩ ht hnd hlx hnm hz h⟩
      · simp -dsimp only [↓x_seq, ↓x_next, ↓x_drop, ↓x_set, ↓x_setO, ↓x_name, ↓x_gnil, ↓x_gcons, ↓x_gtup, ↓x_bin, ↓x_var, ↓x_varF, ↓x_c, ↓x_1, ↓x_B, ↓x_and, ↓x_or, ↓x_not, ↓x_andV, ↓x_orV, ↓x_notV, ↓x_if, ↓x_ifS, ↓x_ret, ↓x_lst, ↓x_tup, ↓x_acons, ↓x_anil, ↓x_aug, ↓x_setIx, ↓x_call, ↓x_callT, ↓x_callK, ↓x_callD, ↓x_chain, ↓x_sl, ↓x_oS, ↓x_oN, ↓x_rep, ↓x_store, ↓x_app, ↓x_popAt, ↓x_insert, ↓x_ext, ↓x_strM, ↓x_listM, ↓x_isi, ↓x_LE, ↓x_yes, ↓x_iList, ↓x_iTup, ↓x_iStr, ↓x_iEnum, ↓x_iRange1, ↓x_iRange2, ↓x_for, ↓x_while, ↓x_lc, ↓x_rev, ↓x_pNil, ↓x_pCons, ↓x_dict, ↓x_dict0, ↓x_dget, cs_t, cs_f, ex_s, sh1, get_fz, get_ow, get_br, brD_ow, brD_fz, fzd_fz, fzd_ow, fzd_br, jO_un, jO_fz, jO_ow, jO_no, intF_i, intF0_i, addF_i, addF_s, addF_l, addF_t, mulF, mulSF_s, ne0F_l, subF, fdivF, modF, powF, ltF_i, ltF_s, leF, gtF, geF, absF_i, maxF, minF, lenF_l, lenF_t, lenF_s, toIntF_i, toIntF_b, toListF_l, toListF_t, toTupF_l, toTupF_t, negF_i, cutF_l, cutF_t, cutF_s, isF_bb, isF_nn, isF_ln, isF_sn, isF_in, isF_tn, List.map_cons, List.map_nil, List.cons_append, List.nil_append, List.replicate, List.getElem?_cons_zero, List.getElem?_cons_succ, List.set_cons_zero, List.set_cons_succ, List.length_cons, List.length_nil, if_true, if_false, Bool.false_eq_true, true_and, and_true, reduceCtorEq, ixF_0, ixF_1, ixF_2, ixF_t0, ixF_t1, ixF_t2, ixn0, ixn1, eqF_s, eqF_i, neF_s, neF_i, eqF_l, eqF_t, neF_l, Option.some.injEq, G.E.ow.injEq, exists_eq_left', exists_eq_left, exists_eq', exists_and_left, exists_and_right, exists_const, and_self, ne_eq, not_false_eq_true, decide_true, decide_false, Bool.not_true, Bool.not_false, restE, wipeE, List.getD_eq_getElem?_getD, Option.getD_some]
        exact nmW ⟨j1, j1, j1, j1, j1⟩ ht hne hnd (by omega) hnm
    · simp -dsimp only [↓x_seq, ↓x_next, ↓x_drop, ↓x_set, ↓x_setO, ↓x_name, ↓x_gnil, ↓x_gcons, ↓x_gtup, ↓x_bin, ↓x_var, ↓x_varF, ↓x_c, ↓x_1, ↓x_B, ↓x_and, ↓x_or, ↓x_not, ↓x_andV, ↓x_orV, ↓x_notV, ↓x_if, ↓x_ifS, ↓x_ret, ↓x_lst, ↓x_tup, ↓x_acons, ↓x_anil, ↓x_aug, ↓x_setIx, ↓x_call, ↓x_callT, ↓x_callK, ↓x_callD, ↓x_chain, ↓x_sl, ↓x_oS, ↓x_oN, ↓x_rep, ↓x_store, ↓x_app, ↓x_popAt, ↓x_insert, ↓x_ext, ↓x_strM, ↓x_listM, ↓x_isi, ↓x_LE, ↓x_yes, ↓x_iList, ↓x_iTup, ↓x_iStr, ↓x_iEnum, ↓x_iRange1, ↓x_iRange2, ↓x_for, ↓x_while, ↓x_lc, ↓x_rev, ↓x_pNil, ↓x_pCons, ↓x_dict, ↓x_dict0, ↓x_dget, cs_t, cs_f, ex_s, sh1, get_fz, get_ow, get_br, brD_ow, brD_fz, fzd_fz, fzd_ow, fzd_br, jO_un, jO_fz, jO_ow, jO_no, intF_i, intF0_i, addF_i, addF_s, addF_l, addF_t, mulF, mulSF_s, ne0F_l, subF, fdivF, modF, powF, ltF_i, ltF_s, leF, gtF, geF, absF_i, maxF, minF, lenF_l, lenF_t, lenF_s, toIntF_i, toIntF_b, toListF_l, toListF_t, toTupF_l, toTupF_t, negF_i, cutF_l, cutF_t, cutF_s, isF_bb, isF_nn, isF_ln, isF_sn, isF_in, isF_tn, List.map_cons, List.map_nil, List.cons_append, List.nil_append, List.replicate, List.getElem?_cons_zero, List.getElem?_cons_succ, List.set_cons_zero, List.set_cons_succ, List.length_cons, List.length_nil, if_true, if_false, Bool.false_eq_true, true_and, and_true, reduceCtorEq, ixF_0, ixF_1, ixF_2, ixF_t0, ixF_t1, ixF_t2, ixn0, ixn1, eqF_s, eqF_i, neF_s, neF_i, eqF_l, eqF_t, neF_l, Option.some.injEq, G.E.ow.injEq, exists_eq_left', exists_eq_left, exists_eq', exists_and_left, exists_and_right, exists_const, and_self, ne_eq, not_false_eq_true, decide_true, decide_false, Bool.not_true, Bool.not_false, restE, wipeE, List.getD_eq_getElem?_getD, Option.getD_some]
      refine nin_ss hok hz.ok (fun h => ?_) fun h => ?_
      · simp -dsimp only [↓x_seq, ↓x_next, ↓x_drop, ↓x_set, ↓x_setO, ↓x_name, ↓x_gnil, ↓x_gcons, ↓x_gtup, ↓x_bin, ↓x_var, ↓x_varF, ↓x_c, ↓x_1, ↓x_B, ↓x_and, ↓x_or, ↓x_not, ↓x_andV, ↓x_orV, ↓x_notV, ↓x_if, ↓x_ifS, ↓x_ret, ↓x_lst, ↓x_tup, ↓x_acons, ↓x_anil, ↓x_aug, ↓x_setIx, ↓x_call, ↓x_callT, ↓x_callK, ↓x_callD, ↓x_chain, ↓x_sl, ↓x_oS, ↓x_oN, ↓x_rep, ↓x_store, ↓x_app, ↓x_popAt, ↓x_insert, ↓x_ext, ↓x_strM, ↓x_listM, ↓x_isi, ↓x_LE, ↓x_yes, ↓x_iList, ↓x_iTup, ↓x_iStr, ↓x_iEnum, ↓x_iRange1, ↓x_iRange2, ↓x_for, ↓x_while, ↓x_lc, ↓x_rev, ↓x_pNil, ↓x_pCons, ↓x_dict, ↓x_dict0, ↓x_dget, cs_t, cs_f, ex_s, sh1, get_fz, get_ow, get_br, brD_ow, brD_fz, fzd_fz, fzd_ow, fzd_br, jO_un, jO_fz, jO_ow, jO_no, intF_i, intF0_i, addF_i, addF_s, addF_l, addF_t, mulF, mulSF_s, ne0F_l, subF, fdivF, modF, powF, ltF_i, ltF_s, leF, gtF, geF, absF_i, maxF, minF, lenF_l, lenF_t, lenF_s, toIntF_i, toIntF_b, toListF_l, toListF_t, toTupF_l, toTupF_t, negF_i, cutF_l, cutF_t, cutF_s, isF_bb, isF_nn, isF_ln, isF_sn, isF_in, isF_tn, List.map_cons, List.map_nil, List.cons_append, List.nil_append, List.replicate, List.getElem?_cons_zero, List.getElem?_cons_succ, List.set_cons_zero, List.set_cons_succ, List.length_cons, List.length_nil, if_true, if_false, Bool.false_eq_true, true_and, and_true, reduceCtorEq, ixF_0, ixF_1, ixF_2, ixF_t0, ixF_t1, ixF_t2, ixn0, ixn1, eqF_s, eqF_i, neF_s, neF_i, eqF_l, eqF_t, neF_l, Option.some.injEq, G.E.ow.injEq, exists_eq_left', exists_eq_left, exists_eq', exists_and_left, exists_and_right, exists_const, and_self, ne_eq, not_false_eq_true, decide_true, decide_false, Bool.not_true, Bool.not_false, restE, wipeE, List.getD_eq_getElem?_getD, Option.getD_some]
        exact ⟨⟨_, rfl⟩, by rw [List.length_map]; exact hly, nmW_app ⟨j1, j1, j5, j6, j7⟩ ht hnd hlx hnm hz h⟩
      · simp -dsimp only [↓x_seq, ↓x_next, ↓x_drop, ↓x_set, ↓x_setO, ↓x_name, ↓x_gnil, ↓x_gcons, ↓x_gtup, ↓x_bin, ↓x_var, ↓x_varF, ↓x_c, ↓x_1, ↓x_B, ↓x_and, ↓x_or, ↓x_not, ↓x_andV, ↓x_orV, ↓x_notV, ↓x_if, ↓x_ifS, ↓x_ret, ↓x_lst, ↓x_tup, ↓x_acons, ↓x_anil, ↓x_aug, ↓x_setIx, ↓x_call, ↓x_callT, ↓x_callK, ↓x_callD, ↓x_chain, ↓x_sl, ↓x_oS, ↓x_oN, ↓x_rep, ↓x_store, ↓x_app, ↓x_popAt, ↓x_insert, ↓x_ext, ↓x_strM, ↓x_listM, ↓x_isi, ↓x_LE, ↓x_yes, ↓x_iList, ↓x_iTup, ↓x_iStr, ↓x_iEnum, ↓x_iRange1, ↓x_iRange2, ↓x_for, ↓x_while, ↓x_lc, ↓x_rev, ↓x_pNil, ↓x_pCons, ↓x_dict, ↓x_dict0, ↓x_dget, cs_t, cs_f, ex_s, sh1, get_fz, get_ow, get_br, brD_ow, brD_fz, fzd_fz, fzd_ow, fzd_br, jO_un, jO_fz, jO_ow, jO_no, intF_i, intF0_i, addF_i, addF_s, addF_l, addF_t, mulF, mulSF_s, ne0F_l, subF, fdivF, modF, powF, ltF_i, ltF_s, leF, gtF, geF, absF_i, maxF, minF, lenF_l, lenF_t, lenF_s, toIntF_i, toIntF_b, toListF_l, toListF_t, toTupF_l, toTupF_t, negF_i, cutF_l, cutF_t, cutF_s, isF_bb, isF_nn, isF_ln, isF_sn, isF_in, isF_tn, List.map_cons, List.map_nil, List.cons_append, List.nil_append, List.replicate, List.getElem?_cons_zero, List.getElem?_cons_succ, List.set_cons_zero, List.set_cons_succ, List.length_cons, List.length_nil, if_true, if_false, Bool.false_eq_true, true_and, and_true, reduceCtorEq, ixF_0, ixF_1, ixF_2, ixF_t0, ixF_t1, ixF_t2, ixn0, ixn1, eqF_s, eqF_i, neF_s, neF_i, eqF_l, eqF_t, neF_l, Option.some.injEq, G.E.ow.injEq, exists_eq_left', exists_eq_left, exists_eq', exists_and_left, exists_and_right, exists_const, and_self, ne_eq, not_false_eq_true, decide_true, decide_false, Bool.not_true, Bool.not_false, restE, wipeE, List.getD_eq_getElem?_getD, Option.getD_some]
        exact nmW ⟨j1, j1, j5, j6, j7⟩ ht hne hnd (by omega) hnm
  · rintro e ⟨t, xs, u3, u4, u5, u6, u7, rfl, ⟨j3, j4, j5, j6, j7⟩, ht, hne, hnd, hlen, hnm⟩
    simp -dsimp only [↓x_seq, ↓x_next, ↓x_drop, ↓x_set, ↓x_setO, ↓x_name, ↓x_gnil, ↓x_gcons, ↓x_gtup, ↓x_bin, ↓x_var, ↓x_varF, ↓x_c, ↓x_1, ↓x_B, ↓x_and, ↓x_or, ↓x_not, ↓x_andV, ↓x_orV, ↓x_notV, ↓x_if, ↓x_ifS, ↓x_ret, ↓x_lst, ↓x_tup, ↓x_acons, ↓x_anil, ↓x_aug, ↓x_setIx, ↓x_call, ↓x_callT, ↓x_callK, ↓x_callD, ↓x_chain, ↓x_sl, ↓x_oS, ↓x_oN, ↓x_rep, ↓x_store, ↓x_app, ↓x_popAt, ↓x_insert, ↓x_ext, ↓x_strM, ↓x_listM, ↓x_isi, ↓x_LE, ↓x_yes, ↓x_iList, ↓x_iTup, ↓x_iStr, ↓x_iEnum, ↓x_iRange1, ↓x_iRange2, ↓x_for, ↓x_while, ↓x_lc, ↓x_rev, ↓x_pNil, ↓x_pCons, ↓x_dict, ↓x_dict0, ↓x_dget, cs_t, cs_f, ex_s, sh1, get_fz, get_ow, get_br, brD_ow, brD_fz, fzd_fz, fzd_ow, fzd_br, jO_un, jO_fz, jO_ow, jO_no, intF_i, intF0_i, addF_i, addF_s, addF_l, addF_t, mulF, mulSF_s, ne0F_l, subF, fdivF, modF, powF, ltF_i, ltF_s, leF, gtF, geF, absF_i, maxF, minF, lenF_l, lenF_t, lenF_s, toIntF_i, toIntF_b, toListF_l, toListF_t, toTupF_l, toTupF_t, negF_i, cutF_l, cutF_t, cutF_s, isF_bb, isF_nn, isF_ln, isF_sn, isF_in, isF_tn, List.map_cons, List.map_nil, List.cons_append, List.nil_append, List.replicate, List.getElem?_cons_zero, List.getElem?_cons_succ, List.set_cons_zero, List.set_cons_succ, List.length_cons, List.length_nil, if_true, if_false, Bool.false_eq_true, true_and, and_true, reduceCtorEq, ixF_0, ixF_1, ixF_2, ixF_t0, ixF_t1, ixF_t2, ixn0, ixn1, eqF_s, eqF_i, neF_s, neF_i, eqF_l, eqF_t, neF_l, Option.some.injEq, G.E.ow.injEq, exists_eq_left', exists_eq_left, exists_eq', exists_and_left, exists_and_right, exists_const, and_self, ne_eq, not_false_eq_true, decide_true, decide_false, Bool.not_true, Bool.not_false, restE, wipeE, List.getD_eq_getElem?_getD, Option.getD_some]
    exact hP _ _ hne hnd hlen hnm ht
/-! ### law -/
abbrev S_law := SLaw 63
set_option maxHeartbeats 4000000 in
theorem ok_law (T : Tx K mg) : FnG P w K mg base 4 T.f_law T.fd_law 1 ["_law_script_here"] (spF K 1 S_law) := by
  refine fn_F (m := 11) T.F_law sc_law rfl rfl fun {cdv A outer s H E} g room ds PP hl hS => ?_
  refine ⟨_, _, (gb_cons (gs_setO (i := 1) (ge_call (ok_law_tape T) g (room.mono (by decide)) (by rfl) T.g_law_tape T.F_law_tape.kp T.b_law_tape (ga_cons (ge_ix ix_seq sr_ix (ge_op op_addG sr_add (ge_var 0) (ge_lst (ga_cons ge_int ga_nil))) ge_int (fun _ _ => rfl)) (ga_cons ge_int ga_nil))) sc_law.nd)
      (gb_cons (gs_set (ge_callT 1 (ok_law_names T) g (room.mono (by decide)) (by rfl) T.g_law_names T.F_law_names.kp T.b_law_names (ga_cons ge_int ga_nil)) (gg_name 2 sc_law.nd))
      (gb_cons (gs_set (ge_callT 1 (ok_law_path T) g (room.mono (by decide)) (by rfl) T.g_law_path T.F_law_path.kp T.b_law_path (ga_cons (ge_var 2) ga_nil)) (gg_name 3 sc_law.nd))
      (gb_cons (gs_set (ge_callT 1 (ok_law_path T) g (room.mono (by decide)) (by rfl) T.g_law_path T.F_law_path.kp T.b_law_path (ga_cons (ge_var 2) ga_nil)) (gg_name 4 sc_law.nd))
      (gb_cons (gs_if (gt_not (gt_val (ge_call (ok_law_is_integer T) g (room.mono (by decide)) (by rfl) T.g_law_is_integer T.F_law_is_integer.kp T.b_law_is_integer (ga_cons (ge_call (ok_least_commands T) g (room.mono (by decide)) (by rfl) T.g_least_commands T.F_least_commands.kp T.b_least_commands (ga_cons (ge_var 3) (ga_cons (ge_var 4) ga_nil))) (ga_cons (ge_call (ok_law_distance T) g (room.mono (by decide)) (by rfl) T.g_law_distance T.F_law_distance.kp T.b_law_distance (ga_cons (ge_var 3) (ga_cons (ge_var 4) (ga_cons (ge_var 2) ga_nil)))) ga_nil)))))
      (gb_one (gs_ret ge_bl))
      gb_nil)
      (gb_kill [1, 3, 4, 5, 6, 7, 8, 9, 10, 11] (gb_cons (gs_for PassesOwn.never rfl (gi_enum rfl T.z_enumerate (ga_cons (ge_slice (ge_var 0) (go_some ge_int) (go_some ge_int)) ga_nil)) (gg_tup (n := 2) rfl (ggs_cons (gg_name 5 sc_law.nd) (ggs_cons (gg_name 6 sc_law.nd) ggs_nil)))
      (gb_killN [5, 6, 7, 8, 9, 10, 11] (gb_cons (gs_setO (i := 7) (ge_call (ok_law_tape T) g (room.mono (by decide)) (by rfl) T.g_law_tape T.F_law_tape.kp T.b_law_tape (ga_cons (ge_var 6) (ga_cons (ge_var 5) ga_nil))) sc_law.nd)
      (gb_cons (gs_set (ge_callT 7 (ok_law_names T) g (room.mono (by decide)) (by rfl) T.g_law_names T.F_law_names.kp T.b_law_names (ga_cons (ge_ix ix_seq sr_ix (ge_lst (ga_cons ge_int (ga_cons ge_int ga_nil))) (ge_t1 call_int1 sc_toInt rfl T.z_int (by decide +kernel) (ge_cmp (op_eqG (plenty room)) sr_eq (nomark _) (ge_callT 7 (ok_law_draw T) g (room.mono (by decide)) (by rfl) T.g_law_draw T.F_law_draw.kp T.b_law_draw (ga_cons ge_int ga_nil)) ge_int)) (fun _ _ => rfl)) ga_nil)) (gg_name 8 sc_law.nd))
      (gb_cons (gs_set (ge_callT 7 (ok_law_path T) g (room.mono (by decide)) (by rfl) T.g_law_path T.F_law_path.kp T.b_law_path (ga_cons (ge_var 8) ga_nil)) (gg_name 9 sc_law.nd))
      (gb_cons (gs_set (ge_callT 7 (ok_law_script T) g (room.mono (by decide)) (by rfl) T.g_law_script T.F_law_script.kp T.b_law_script (ga_cons (ge_var 8) (ga_cons (ge_callT 7 (ok_law_draw T) g (room.mono (by decide)) (by rfl) T.g_law_draw T.F_law_draw.kp T.b_law_draw (ga_cons ge_int ga_nil)) ga_nil))) (gg_name 10 sc_law.nd))
      (gb_cons (gs_set (ge_call (ok_least_commands T) g (room.mono (by decide)) (by rfl) T.g_least_commands T.F_least_commands.kp T.b_least_commands (ga_cons (ge_var 9) (ga_cons (ge_call (ok_law_run T) g (room.mono (by decide)) (by rfl) T.g_law_run T.F_law_run.kp T.b_law_run (ga_cons (ge_var 9) (ga_cons (ge_var 10) ga_nil))) ga_nil))) (gg_name 11 sc_law.nd))
      (gb_one (gs_if (GW.gt (gw_or (gt_not (gt_val (ge_isi (T := "int") rfl T.z_isinstance rfl T.z_int (by decide +kernel) (ge_var 11)))) (gw_or (gt_val (ge_isi (T := "bool") rfl T.z_isinstance rfl T.z_bool (by decide +kernel) (ge_var 11))) (gw_or1 (gt_not (gt_chain op_le sr_intB op_le sr_intB ge_int (ge_var 11) (ge_b1 call_lenG sc_len rfl T.z_len (by decide +kernel) (ge_var 10))))))))
      (gb_one (gs_ret ge_bl))
      gb_nil)))))))))
      (gb_one (gs_ret (ge_cmp (op_eqG (plenty room)) sr_eq (nomark _) (ge_call (ok_least_commands T) g (room.mono (by decide)) (by rfl) T.g_least_commands T.F_least_commands.kp T.b_least_commands (ga_cons (ge_var 2) (ga_cons (ge_var 2) ga_nil))) ge_int)))))))))), ?_⟩
  obtain ⟨⟨ns, rfl, hns⟩, hP⟩ := hS
  rw [show PyData.list (ns.map PyData.int) = eL ns from rfl]
  simp -dsimp only [↓x_seq, ↓x_next, ↓x_drop, ↓x_set, ↓x_setO, ↓x_name, ↓x_gnil, ↓x_gcons, ↓x_gtup, ↓x_bin, ↓x_var, ↓x_varF, ↓x_c, ↓x_1, ↓x_B, ↓x_and, ↓x_or, ↓x_not, ↓x_andV, ↓x_orV, ↓x_notV, ↓x_if, ↓x_ifS, ↓x_ret, ↓x_lst, ↓x_tup, ↓x_acons, ↓x_anil, ↓x_aug, ↓y_setIx, ↓x_call, ↓x_callT, ↓x_callK, ↓x_callD, ↓x_chain, ↓x_sl, ↓x_oS, ↓x_oN, ↓x_rep, ↓y_store, ↓x_app, ↓y_popAt, ↓y_insert, ↓y_ext, ↓x_strM, ↓x_listM, ↓x_isi, ↓y_LE, ↓x_yes, ↓y_iList, ↓y_iTup, ↓x_iStr, ↓y_iEnum, ↓x_iRange1, ↓x_iRange2, ↓x_for, ↓x_while, ↓x_lc, ↓y_rev, ↓x_pNil, ↓x_pCons, ↓x_dict, ↓x_dict0, ↓x_dget, cs_t, cs_f, ex_s, sh1, get_fz, get_ow, get_br, brD_ow, brD_fz, fzd_fz, fzd_ow, fzd_br, jO_un, jO_fz, jO_ow, jO_no, intF_i, intF0_i, addF_i, addF_s, addF_l, addF_t, mulF, mulSF_s, ne0F_l, subF, fdivF, modF, powF, ltF_i, ltF_s, leF, gtF, geF, absF_i, maxF, minF, lenF_l, lenF_t, lenF_s, toIntF_i, toIntF_b, toListF_l, toListF_t, toTupF_l, toTupF_t, negF_i, cutF_l, cutF_t, cutF_s, isF_bb, isF_nn, isF_ln, isF_sn, isF_in, isF_tn, List.map_cons, List.map_nil, List.cons_append, List.nil_append, List.replicate, List.getElem?_cons_zero, List.getElem?_cons_succ, List.set_cons_zero, List.set_cons_succ, List.length_cons, List.length_nil, if_true, if_false, Bool.false_eq_true, true_and, and_true, reduceCtorEq, ixF_0, ixF_1, ixF_2, ixF_t0, ixF_t1, ixF_t2, ixn0, ixn1, eqF_s, eqF_i, neF_s, neF_i, eqF_l, eqF_t, neF_l, Option.some.injEq, G.E.ow.injEq, exists_eq_left', exists_eq_left, exists_eq', exists_const, and_self, ne_eq, not_false_eq_true, decide_true, decide_false, Bool.not_true, Bool.not_false, restE, wipeE, List.getD_eq_getElem?_getD, Option.getD_some, eqF_bb, neF_bb, ↓y_iRev, ↓x_sset, ↓x_lset, sortF_e, t3_f, t4_f, gtup3, gtup4, ixT3_0, ixT3_1, ixT3_2, ↓x_callB, ↓x_frz, ↓x_rnil, ↓x_rcons, argsD_n, argsD_c, consO_s, argD_f, argD_b, argB_l, argB_e, argB_f, noLR_e, noLR_t, noLR_a, noLR_i, noLR_b, noLR_s, noLR_n, ↓x_pop, eL_drop, eL_i1, ↓x_callN, isOw_o, ex_bd, en_epf, en_epb, ixFa_0, ixFa_1f, ixFa_1b, fs_a, fs_u, fs_f, fs_b, t3_i, t3_o, t3_c, t2_n, t3_n, ne0F_e, isF_fate, not_true_eq_false, Int.reduceSub, Int.reduceAdd, isL_l, isL_e, isT_t, isT_e, isOL_l, isOL_e, isL1_c, isInt_i, isSome_s, isOwL_l, isOwL_e, en_int, en_nat, en_bool, en_str, en_list, eL_1, eL_2, eL_3, eL_snoc, eL_snoc2, eL_app, eL_LL, eL_LL2, eL_LLs, addF_e, addF_t', addF_n, addF_n', lenF_e, lenF_e', toListF_e, toListF_e', toTupF_e, toTupF_e', cutF_e, cutF_e', cm_keep_skip, cm_keep_front, cm_keep_back, cm_front_skip, cm_front_front, cm_front_back, cm_back_skip, cm_back_front, cm_back_back, cm_remove_skip, cm_remove_front, cm_remove_back, nl0, nl1, nl2, nl3, nl4, nl5, nl6, nl7, nl8, nl9, nl10, nl11, nl12, Int.reduceEq, Int.reduceLT, Int.reduceLE, nat1c, natc1, natc2, natcA, cutA_btw, cutA_to, cutA_from, cutA_all, ixF_e0, ixF_e1, ixP_0, ixP_1, gtupP, pair_f, isF_Ln, isF_Tn, eqF_e, neF_e, inF_e, eqF_n, eqF_n', eqF_eL, neF_eL, eqF_eT, inF_nm, eL_pairs, pairs_e, rngD_e, eL_rev, eL_set, eL_erase, eL_ins, eL_ins', get_m, idx_len, sl0, sl1, sl2, sl3, sl4, sl5, sl6, sl7, sl8, sl9, sl10, sl11, sl12, en_keep, en_front, en_back, en_remove, en_skip, en_ofront, en_oback, en_inn, en_out, en_both, eqF_inn, eqF_out, eqF_both, neF_inn, neF_out, ixC_0, ixC_1, ixC_2, lenC, ixO_0, ixO_1, ixO_2, gtupC, gtupO, fate_a, fate_u, fate_f, fate_b, ent_i, ent_o, ent_b, inT_1, inT_2, inT_3, ofS, String.reduceEq, Bool.or_true, Bool.true_or, Bool.or_false, Bool.false_or, eq_self, ↓x_kill, ↓x_killN, ↓x_join, dropE_n, dropE_c, drop1_un, drop1_fz, drop1_ow, drop1_ot, Int.toNat_natCast, List.length_map, Option.map_some, Option.map_none]
  refine ⟨(by first | decide | exact sz0 (by omega) | exact sz0 (by simp only [List.length_take, List.length_drop, List.length_cons, List.length_nil, List.length_append, List.length_map, List.length_reverse, List.length_range, idx_len]; omega) | exact sz1 (by omega) | exact sz1 (by simp only [List.length_take, List.length_drop, List.length_cons, List.length_nil, List.length_append, List.length_map, List.length_reverse, List.length_range, idx_len]; omega) | omega | (simp only [List.length_take, List.length_drop, List.length_cons, List.length_nil, List.length_append, List.length_map, List.length_reverse, List.length_range, idx_len]; omega)), ixL (i := 0) (by simp) ?_⟩
  simp -dsimp only [↓x_seq, ↓x_next, ↓x_drop, ↓x_set, ↓x_setO, ↓x_name, ↓x_gnil, ↓x_gcons, ↓x_gtup, ↓x_bin, ↓x_var, ↓x_varF, ↓x_c, ↓x_1, ↓x_B, ↓x_and, ↓x_or, ↓x_not, ↓x_andV, ↓x_orV, ↓x_notV, ↓x_if, ↓x_ifS, ↓x_ret, ↓x_lst, ↓x_tup, ↓x_acons, ↓x_anil, ↓x_aug, ↓y_setIx, ↓x_call, ↓x_callT, ↓x_callK, ↓x_callD, ↓x_chain, ↓x_sl, ↓x_oS, ↓x_oN, ↓x_rep, ↓y_store, ↓x_app, ↓y_popAt, ↓y_insert, ↓y_ext, ↓x_strM, ↓x_listM, ↓x_isi, ↓y_LE, ↓x_yes, ↓y_iList, ↓y_iTup, ↓x_iStr, ↓y_iEnum, ↓x_iRange1, ↓x_iRange2, ↓x_for, ↓x_while, ↓x_lc, ↓y_rev, ↓x_pNil, ↓x_pCons, ↓x_dict, ↓x_dict0, ↓x_dget, cs_t, cs_f, ex_s, sh1, get_fz, get_ow, get_br, brD_ow, brD_fz, fzd_fz, fzd_ow, fzd_br, jO_un, jO_fz, jO_ow, jO_no, intF_i, intF0_i, addF_i, addF_s, addF_l, addF_t, mulF, mulSF_s, ne0F_l, subF, fdivF, modF, powF, ltF_i, ltF_s, leF, gtF, geF, absF_i, maxF, minF, lenF_l, lenF_t, lenF_s, toIntF_i, toIntF_b, toListF_l, toListF_t, toTupF_l, toTupF_t, negF_i, cutF_l, cutF_t, cutF_s, isF_bb, isF_nn, isF_ln, isF_sn, isF_in, isF_tn, List.map_cons, List.map_nil, List.cons_append, List.nil_append, List.replicate, List.getElem?_cons_zero, List.getElem?_cons_succ, List.set_cons_zero, List.set_cons_succ, List.length_cons, List.length_nil, if_true, if_false, Bool.false_eq_true, true_and, and_true, reduceCtorEq, ixF_0, ixF_1, ixF_2, ixF_t0, ixF_t1, ixF_t2, ixn0, ixn1, eqF_s, eqF_i, neF_s, neF_i, eqF_l, eqF_t, neF_l, Option.some.injEq, G.E.ow.injEq, exists_eq_left', exists_eq_left, exists_eq', exists_const, and_self, ne_eq, not_false_eq_true, decide_true, decide_false, Bool.not_true, Bool.not_false, restE, wipeE, List.getD_eq_getElem?_getD, Option.getD_some, eqF_bb, neF_bb, ↓y_iRev, ↓x_sset, ↓x_lset, sortF_e, t3_f, t4_f, gtup3, gtup4, ixT3_0, ixT3_1, ixT3_2, ↓x_callB, ↓x_frz, ↓x_rnil, ↓x_rcons, argsD_n, argsD_c, consO_s, argD_f, argD_b, argB_l, argB_e, argB_f, noLR_e, noLR_t, noLR_a, noLR_i, noLR_b, noLR_s, noLR_n, ↓x_pop, eL_drop, eL_i1, ↓x_callN, isOw_o, ex_bd, en_epf, en_epb, ixFa_0, ixFa_1f, ixFa_1b, fs_a, fs_u, fs_f, fs_b, t3_i, t3_o, t3_c, t2_n, t3_n, ne0F_e, isF_fate, not_true_eq_false, Int.reduceSub, Int.reduceAdd, isL_l, isL_e, isT_t, isT_e, isOL_l, isOL_e, isL1_c, isInt_i, isSome_s, isOwL_l, isOwL_e, en_int, en_nat, en_bool, en_str, en_list, eL_1, eL_2, eL_3, eL_snoc, eL_snoc2, eL_app, eL_LL, eL_LL2, eL_LLs, addF_e, addF_t', addF_n, addF_n', lenF_e, lenF_e', toListF_e, toListF_e', toTupF_e, toTupF_e', cutF_e, cutF_e', cm_keep_skip, cm_keep_front, cm_keep_back, cm_front_skip, cm_front_front, cm_front_back, cm_back_skip, cm_back_front, cm_back_back, cm_remove_skip, cm_remove_front, cm_remove_back, nl0, nl1, nl2, nl3, nl4, nl5, nl6, nl7, nl8, nl9, nl10, nl11, nl12, Int.reduceEq, Int.reduceLT, Int.reduceLE, nat1c, natc1, natc2, natcA, cutA_btw, cutA_to, cutA_from, cutA_all, ixF_e0, ixF_e1, ixP_0, ixP_1, gtupP, pair_f, isF_Ln, isF_Tn, eqF_e, neF_e, inF_e, eqF_n, eqF_n', eqF_eL, neF_eL, eqF_eT, inF_nm, eL_pairs, pairs_e, rngD_e, eL_rev, eL_set, eL_erase, eL_ins, eL_ins', get_m, idx_len, sl0, sl1, sl2, sl3, sl4, sl5, sl6, sl7, sl8, sl9, sl10, sl11, sl12, en_keep, en_front, en_back, en_remove, en_skip, en_ofront, en_oback, en_inn, en_out, en_both, eqF_inn, eqF_out, eqF_both, neF_inn, neF_out, ixC_0, ixC_1, ixC_2, lenC, ixO_0, ixO_1, ixO_2, gtupC, gtupO, fate_a, fate_u, fate_f, fate_b, ent_i, ent_o, ent_b, inT_1, inT_2, inT_3, ofS, String.reduceEq, Bool.or_true, Bool.true_or, Bool.or_false, Bool.false_or, eq_self, ↓x_kill, ↓x_killN, ↓x_join, dropE_n, dropE_c, drop1_un, drop1_fz, drop1_ow, drop1_ot, Int.toNat_natCast, List.length_map, Option.map_some, Option.map_none]
  refine tape_n fun t ht => ?_
  simp -dsimp only [↓x_seq, ↓x_next, ↓x_drop, ↓x_set, ↓x_setO, ↓x_name, ↓x_gnil, ↓x_gcons, ↓x_gtup, ↓x_bin, ↓x_var, ↓x_varF, ↓x_c, ↓x_1, ↓x_B, ↓x_and, ↓x_or, ↓x_not, ↓x_andV, ↓x_orV, ↓x_notV, ↓x_if, ↓x_ifS, ↓x_ret, ↓x_lst, ↓x_tup, ↓x_acons, ↓x_anil, ↓x_aug, ↓y_setIx, ↓x_call, ↓x_callT, ↓x_callK, ↓x_callD, ↓x_chain, ↓x_sl, ↓x_oS, ↓x_oN, ↓x_rep, ↓y_store, ↓x_app, ↓y_popAt, ↓y_insert, ↓y_ext, ↓x_strM, ↓x_listM, ↓x_isi, ↓y_LE, ↓x_yes, ↓y_iList, ↓y_iTup, ↓x_iStr, ↓y_iEnum, ↓x_iRange1, ↓x_iRange2, ↓x_for, ↓x_while, ↓x_lc, ↓y_rev, ↓x_pNil, ↓x_pCons, ↓x_dict, ↓x_dict0, ↓x_dget, cs_t, cs_f, ex_s, sh1, get_fz, get_ow, get_br, brD_ow, brD_fz, fzd_fz, fzd_ow, fzd_br, jO_un, jO_fz, jO_ow, jO_no, intF_i, intF0_i, addF_i, addF_s, addF_l, addF_t, mulF, mulSF_s, ne0F_l, subF, fdivF, modF, powF, ltF_i, ltF_s, leF, gtF, geF, absF_i, maxF, minF, lenF_l, lenF_t, lenF_s, toIntF_i, toIntF_b, toListF_l, toListF_t, toTupF_l, toTupF_t, negF_i, cutF_l, cutF_t, cutF_s, isF_bb, isF_nn, isF_ln, isF_sn, isF_in, isF_tn, List.map_cons, List.map_nil, List.cons_append, List.nil_append, List.replicate, List.getElem?_cons_zero, List.getElem?_cons_succ, List.set_cons_zero, List.set_cons_succ, List.length_cons, List.length_nil, if_true, if_false, Bool.false_eq_true, true_and, and_true, reduceCtorEq, ixF_0, ixF_1, ixF_2, ixF_t0, ixF_t1, ixF_t2, ixn0, ixn1, eqF_s, eqF_i, neF_s, neF_i, eqF_l, eqF_t, neF_l, Option.some.injEq, G.E.ow.injEq, exists_eq_left', exists_eq_left, exists_eq', exists_const, and_self, ne_eq, not_false_eq_true, decide_true, decide_false, Bool.not_true, Bool.not_false, restE, wipeE, List.getD_eq_getElem?_getD, Option.getD_some, eqF_bb, neF_bb, ↓y_iRev, ↓x_sset, ↓x_lset, sortF_e, t3_f, t4_f, gtup3, gtup4, ixT3_0, ixT3_1, ixT3_2, ↓x_callB, ↓x_frz, ↓x_rnil, ↓x_rcons, argsD_n, argsD_c, consO_s, argD_f, argD_b, argB_l, argB_e, argB_f, noLR_e, noLR_t, noLR_a, noLR_i, noLR_b, noLR_s, noLR_n, ↓x_pop, eL_drop, eL_i1, ↓x_callN, isOw_o, ex_bd, en_epf, en_epb, ixFa_0, ixFa_1f, ixFa_1b, fs_a, fs_u, fs_f, fs_b, t3_i, t3_o, t3_c, t2_n, t3_n, ne0F_e, isF_fate, not_true_eq_false, Int.reduceSub, Int.reduceAdd, isL_l, isL_e, isT_t, isT_e, isOL_l, isOL_e, isL1_c, isInt_i, isSome_s, isOwL_l, isOwL_e, en_int, en_nat, en_bool, en_str, en_list, eL_1, eL_2, eL_3, eL_snoc, eL_snoc2, eL_app, eL_LL, eL_LL2, eL_LLs, addF_e, addF_t', addF_n, addF_n', lenF_e, lenF_e', toListF_e, toListF_e', toTupF_e, toTupF_e', cutF_e, cutF_e', cm_keep_skip, cm_keep_front, cm_keep_back, cm_front_skip, cm_front_front, cm_front_back, cm_back_skip, cm_back_front, cm_back_back, cm_remove_skip, cm_remove_front, cm_remove_back, nl0, nl1, nl2, nl3, nl4, nl5, nl6, nl7, nl8, nl9, nl10, nl11, nl12, Int.reduceEq, Int.reduceLT, Int.reduceLE, nat1c, natc1, natc2, natcA, cutA_btw, cutA_to, cutA_from, cutA_all, ixF_e0, ixF_e1, ixP_0, ixP_1, gtupP, pair_f, isF_Ln, isF_Tn, eqF_e, neF_e, inF_e, eqF_n, eqF_n', eqF_eL, neF_eL, eqF_eT, inF_nm, eL_pairs, pairs_e, rngD_e, eL_rev, eL_set, eL_erase, eL_ins, eL_ins', get_m, idx_len, sl0, sl1, sl2, sl3, sl4, sl5, sl6, sl7, sl8, sl9, sl10, sl11, sl12, en_keep, en_front, en_back, en_remove, en_skip, en_ofront, en_oback, en_inn, en_out, en_both, eqF_inn, eqF_out, eqF_both, neF_inn, neF_out, ixC_0, ixC_1, ixC_2, lenC, ixO_0, ixO_1, ixO_2, gtupC, gtupO, fate_a, fate_u, fate_f, fate_b, ent_i, ent_o, ent_b, inT_1, inT_2, inT_3, ofS, String.reduceEq, Bool.or_true, Bool.true_or, Bool.or_false, Bool.false_or, eq_self, ↓x_kill, ↓x_killN, ↓x_join, dropE_n, dropE_c, drop1_un, drop1_fz, drop1_ow, drop1_ot, Int.toNat_natCast, List.length_map, Option.map_some, Option.map_none]
  refine names_n (n := 3) ht (by omega) (by omega) fun xs t hne hnd hxl ht => ?_
  simp -dsimp only [↓x_seq, ↓x_next, ↓x_drop, ↓x_set, ↓x_setO, ↓x_name, ↓x_gnil, ↓x_gcons, ↓x_gtup, ↓x_bin, ↓x_var, ↓x_varF, ↓x_c, ↓x_1, ↓x_B, ↓x_and, ↓x_or, ↓x_not, ↓x_andV, ↓x_orV, ↓x_notV, ↓x_if, ↓x_ifS, ↓x_ret, ↓x_lst, ↓x_tup, ↓x_acons, ↓x_anil, ↓x_aug, ↓y_setIx, ↓x_call, ↓x_callT, ↓x_callK, ↓x_callD, ↓x_chain, ↓x_sl, ↓x_oS, ↓x_oN, ↓x_rep, ↓y_store, ↓x_app, ↓y_popAt, ↓y_insert, ↓y_ext, ↓x_strM, ↓x_listM, ↓x_isi, ↓y_LE, ↓x_yes, ↓y_iList, ↓y_iTup, ↓x_iStr, ↓y_iEnum, ↓x_iRange1, ↓x_iRange2, ↓x_for, ↓x_while, ↓x_lc, ↓y_rev, ↓x_pNil, ↓x_pCons, ↓x_dict, ↓x_dict0, ↓x_dget, cs_t, cs_f, ex_s, sh1, get_fz, get_ow, get_br, brD_ow, brD_fz, fzd_fz, fzd_ow, fzd_br, jO_un, jO_fz, jO_ow, jO_no, intF_i, intF0_i, addF_i, addF_s, addF_l, addF_t, mulF, mulSF_s, ne0F_l, subF, fdivF, modF, powF, ltF_i, ltF_s, leF, gtF, geF, absF_i, maxF, minF, lenF_l, lenF_t, lenF_s, toIntF_i, toIntF_b, toListF_l, toListF_t, toTupF_l, toTupF_t, negF_i, cutF_l, cutF_t, cutF_s, isF_bb, isF_nn, isF_ln, isF_sn, isF_in, isF_tn, List.map_cons, List.map_nil, List.cons_append, List.nil_append, List.replicate, List.getElem?_cons_zero, List.getElem?_cons_succ, List.set_cons_zero, List.set_cons_succ, List.length_cons, List.length_nil, if_true, if_false, Bool.false_eq_true, true_and, and_true, reduceCtorEq, ixF_0, ixF_1, ixF_2, ixF_t0, ixF_t1, ixF_t2, ixn0, ixn1, eqF_s, eqF_i, neF_s, neF_i, eqF_l, eqF_t, neF_l, Option.some.injEq, G.E.ow.injEq, exists_eq_left', exists_eq_left, exists_eq', exists_const, and_self, ne_eq, not_false_eq_true, decide_true, decide_false, Bool.not_true, Bool.not_false, restE, wipeE, List.getD_eq_getElem?_getD, Option.getD_some, eqF_bb, neF_bb, ↓y_iRev, ↓x_sset, ↓x_lset, sortF_e, t3_f, t4_f, gtup3, gtup4, ixT3_0, ixT3_1, ixT3_2, ↓x_callB, ↓x_frz, ↓x_rnil, ↓x_rcons, argsD_n, argsD_c, consO_s, argD_f, argD_b, argB_l, argB_e, argB_f, noLR_e, noLR_t, noLR_a, noLR_i, noLR_b, noLR_s, noLR_n, ↓x_pop, eL_drop, eL_i1, ↓x_callN, isOw_o, ex_bd, en_epf, en_epb, ixFa_0, ixFa_1f, ixFa_1b, fs_a, fs_u, fs_f, fs_b, t3_i, t3_o, t3_c, t2_n, t3_n, ne0F_e, isF_fate, not_true_eq_false, Int.reduceSub, Int.reduceAdd, isL_l, isL_e, isT_t, isT_e, isOL_l, isOL_e, isL1_c, isInt_i, isSome_s, isOwL_l, isOwL_e, en_int, en_nat, en_bool, en_str, en_list, eL_1, eL_2, eL_3, eL_snoc, eL_snoc2, eL_app, eL_LL, eL_LL2, eL_LLs, addF_e, addF_t', addF_n, addF_n', lenF_e, lenF_e', toListF_e, toListF_e', toTupF_e, toTupF_e', cutF_e, cutF_e', cm_keep_skip, cm_keep_front, cm_keep_back, cm_front_skip, cm_front_front, cm_front_back, cm_back_skip, cm_back_front, cm_back_back, cm_remove_skip, cm_remove_front, cm_remove_back, nl0, nl1, nl2, nl3, nl4, nl5, nl6, nl7, nl8, nl9, nl10, nl11, nl12, Int.reduceEq, Int.reduceLT, Int.reduceLE, nat1c, natc1, natc2, natcA, cutA_btw, cutA_to, cutA_from, cutA_all, ixF_e0, ixF_e1, ixP_0, ixP_1, gtupP, pair_f, isF_Ln, isF_Tn, eqF_e, neF_e, inF_e, eqF_n, eqF_n', eqF_eL, neF_eL, eqF_eT, inF_nm, eL_pairs, pairs_e, rngD_e, eL_rev, eL_set, eL_erase, eL_ins, eL_ins', get_m, idx_len, sl0, sl1, sl2, sl3, sl4, sl5, sl6, sl7, sl8, sl9, sl10, sl11, sl12, en_keep, en_front, en_back, en_remove, en_skip, en_ofront, en_oback, en_inn, en_out, en_both, eqF_inn, eqF_out, eqF_both, neF_inn, neF_out, ixC_0, ixC_1, ixC_2, lenC, ixO_0, ixO_1, ixO_2, gtupC, gtupO, fate_a, fate_u, fate_f, fate_b, ent_i, ent_o, ent_b, inT_1, inT_2, inT_3, ofS, String.reduceEq, Bool.or_true, Bool.true_or, Bool.or_false, Bool.false_or, eq_self, ↓x_kill, ↓x_killN, ↓x_join, dropE_n, dropE_c, drop1_un, drop1_fz, drop1_ow, drop1_ot, Int.toNat_natCast, List.length_map, Option.map_some, Option.map_none]
  refine path_N ht hnd (by omega) fun p t hpd hpx hpl ht => ?_
  simp -dsimp only [↓x_seq, ↓x_next, ↓x_drop, ↓x_set, ↓x_setO, ↓x_name, ↓x_gnil, ↓x_gcons, ↓x_gtup, ↓x_bin, ↓x_var, ↓x_varF, ↓x_c, ↓x_1, ↓x_B, ↓x_and, ↓x_or, ↓x_not, ↓x_andV, ↓x_orV, ↓x_notV, ↓x_if, ↓x_ifS, ↓x_ret, ↓x_lst, ↓x_tup, ↓x_acons, ↓x_anil, ↓x_aug, ↓y_setIx, ↓x_call, ↓x_callT, ↓x_callK, ↓x_callD, ↓x_chain, ↓x_sl, ↓x_oS, ↓x_oN, ↓x_rep, ↓y_store, ↓x_app, ↓y_popAt, ↓y_insert, ↓y_ext, ↓x_strM, ↓x_listM, ↓x_isi, ↓y_LE, ↓x_yes, ↓y_iList, ↓y_iTup, ↓x_iStr, ↓y_iEnum, ↓x_iRange1, ↓x_iRange2, ↓x_for, ↓x_while, ↓x_lc, ↓y_rev, ↓x_pNil, ↓x_pCons, ↓x_dict, ↓x_dict0, ↓x_dget, cs_t, cs_f, ex_s, sh1, get_fz, get_ow, get_br, brD_ow, brD_fz, fzd_fz, fzd_ow, fzd_br, jO_un, jO_fz, jO_ow, jO_no, intF_i, intF0_i, addF_i, addF_s, addF_l, addF_t, mulF, mulSF_s, ne0F_l, subF, fdivF, modF, powF, ltF_i, ltF_s, leF, gtF, geF, absF_i, maxF, minF, lenF_l, lenF_t, lenF_s, toIntF_i, toIntF_b, toListF_l, toListF_t, toTupF_l, toTupF_t, negF_i, cutF_l, cutF_t, cutF_s, isF_bb, isF_nn, isF_ln, isF_sn, isF_in, isF_tn, List.map_cons, List.map_nil, List.cons_append, List.nil_append, List.replicate, List.getElem?_cons_zero, List.getElem?_cons_succ, List.set_cons_zero, List.set_cons_succ, List.length_cons, List.length_nil, if_true, if_false, Bool.false_eq_true, true_and, and_true, reduceCtorEq, ixF_0, ixF_1, ixF_2, ixF_t0, ixF_t1, ixF_t2, ixn0, ixn1, eqF_s, eqF_i, neF_s, neF_i, eqF_l, eqF_t, neF_l, Option.some.injEq, G.E.ow.injEq, exists_eq_left', exists_eq_left, exists_eq', exists_const, and_self, ne_eq, not_false_eq_true, decide_true, decide_false, Bool.not_true, Bool.not_false, restE, wipeE, List.getD_eq_getElem?_getD, Option.getD_some, eqF_bb, neF_bb, ↓y_iRev, ↓x_sset, ↓x_lset, sortF_e, t3_f, t4_f, gtup3, gtup4, ixT3_0, ixT3_1, ixT3_2, ↓x_callB, ↓x_frz, ↓x_rnil, ↓x_rcons, argsD_n, argsD_c, consO_s, argD_f, argD_b, argB_l, argB_e, argB_f, noLR_e, noLR_t, noLR_a, noLR_i, noLR_b, noLR_s, noLR_n, ↓x_pop, eL_drop, eL_i1, ↓x_callN, isOw_o, ex_bd, en_epf, en_epb, ixFa_0, ixFa_1f, ixFa_1b, fs_a, fs_u, fs_f, fs_b, t3_i, t3_o, t3_c, t2_n, t3_n, ne0F_e, isF_fate, not_true_eq_false, Int.reduceSub, Int.reduceAdd, isL_l, isL_e, isT_t, isT_e, isOL_l, isOL_e, isL1_c, isInt_i, isSome_s, isOwL_l, isOwL_e, en_int, en_nat, en_bool, en_str, en_list, eL_1, eL_2, eL_3, eL_snoc, eL_snoc2, eL_app, eL_LL, eL_LL2, eL_LLs, addF_e, addF_t', addF_n, addF_n', lenF_e, lenF_e', toListF_e, toListF_e', toTupF_e, toTupF_e', cutF_e, cutF_e', cm_keep_skip, cm_keep_front, cm_keep_back, cm_front_skip, cm_front_front, cm_front_back, cm_back_skip, cm_back_front, cm_back_back, cm_remove_skip, cm_remove_front, cm_remove_back, nl0, nl1, nl2, nl3, nl4, nl5, nl6, nl7, nl8, nl9, nl10, nl11, nl12, Int.reduceEq, Int.reduceLT, Int.reduceLE, nat1c, natc1, natc2, natcA, cutA_btw, cutA_to, cutA_from, cutA_all, ixF_e0, ixF_e1, ixP_0, ixP_1, gtupP, pair_f, isF_Ln, isF_Tn, eqF_e, neF_e, inF_e, eqF_n, eqF_n', eqF_eL, neF_eL, eqF_eT, inF_nm, eL_pairs, pairs_e, rngD_e, eL_rev, eL_set, eL_erase, eL_ins, eL_ins', get_m, idx_len, sl0, sl1, sl2, sl3, sl4, sl5, sl6, sl7, sl8, sl9, sl10, sl11, sl12, en_keep, en_front, en_back, en_remove, en_skip, en_ofront, en_oback, en_inn, en_out, en_both, eqF_inn, eqF_out, eqF_both, neF_inn, neF_out, ixC_0, ixC_1, ixC_2, lenC, ixO_0, ixO_1, ixO_2, gtupC, gtupO, fate_a, fate_u, fate_f, fate_b, ent_i, ent_o, ent_b, inT_1, inT_2, inT_3, ofS, String.reduceEq, Bool.or_true, Bool.true_or, Bool.or_false, Bool.false_or, eq_self, ↓x_kill, ↓x_killN, ↓x_join, dropE_n, dropE_c, drop1_un, drop1_fz, drop1_ow, drop1_ot, Int.toNat_natCast, List.length_map, Option.map_some, Option.map_none]
  refine path_N ht hnd (by omega) fun g t hgd hgx hgl ht => ?_
  simp -dsimp only [↓x_seq, ↓x_next, ↓x_drop, ↓x_set, ↓x_setO, ↓x_name, ↓x_gnil, ↓x_gcons, ↓x_gtup, ↓x_bin, ↓x_var, ↓x_varF, ↓x_c, ↓x_1, ↓x_B, ↓x_and, ↓x_or, ↓x_not, ↓x_andV, ↓x_orV, ↓x_notV, ↓x_if, ↓x_ifS, ↓x_ret, ↓x_lst, ↓x_tup, ↓x_acons, ↓x_anil, ↓x_aug, ↓y_setIx, ↓x_call, ↓x_callT, ↓x_callK, ↓x_callD, ↓x_chain, ↓x_sl, ↓x_oS, ↓x_oN, ↓x_rep, ↓y_store, ↓x_app, ↓y_popAt, ↓y_insert, ↓y_ext, ↓x_strM, ↓x_listM, ↓x_isi, ↓y_LE, ↓x_yes, ↓y_iList, ↓y_iTup, ↓x_iStr, ↓y_iEnum, ↓x_iRange1, ↓x_iRange2, ↓x_for, ↓x_while, ↓x_lc, ↓y_rev, ↓x_pNil, ↓x_pCons, ↓x_dict, ↓x_dict0, ↓x_dget, cs_t, cs_f, ex_s, sh1, get_fz, get_ow, get_br, brD_ow, brD_fz, fzd_fz, fzd_ow, fzd_br, jO_un, jO_fz, jO_ow, jO_no, intF_i, intF0_i, addF_i, addF_s, addF_l, addF_t, mulF, mulSF_s, ne0F_l, subF, fdivF, modF, powF, ltF_i, ltF_s, leF, gtF, geF, absF_i, maxF, minF, lenF_l, lenF_t, lenF_s, toIntF_i, toIntF_b, toListF_l, toListF_t, toTupF_l, toTupF_t, negF_i, cutF_l, cutF_t, cutF_s, isF_bb, isF_nn, isF_ln, isF_sn, isF_in, isF_tn, List.map_cons, List.map_nil, List.cons_append, List.nil_append, List.replicate, List.getElem?_cons_zero, List.getElem?_cons_succ, List.set_cons_zero, List.set_cons_succ, List.length_cons, List.length_nil, if_true, if_false, Bool.false_eq_true, true_and, and_true, reduceCtorEq, ixF_0, ixF_1, ixF_2, ixF_t0, ixF_t1, ixF_t2, ixn0, ixn1, eqF_s, eqF_i, neF_s, neF_i, eqF_l, eqF_t, neF_l, Option.some.injEq, G.E.ow.injEq, exists_eq_left', exists_eq_left, exists_eq', exists_const, and_self, ne_eq, not_false_eq_true, decide_true, decide_false, Bool.not_true, Bool.not_false, restE, wipeE, List.getD_eq_getElem?_getD, Option.getD_some, eqF_bb, neF_bb, ↓y_iRev, ↓x_sset, ↓x_lset, sortF_e, t3_f, t4_f, gtup3, gtup4, ixT3_0, ixT3_1, ixT3_2, ↓x_callB, ↓x_frz, ↓x_rnil, ↓x_rcons, argsD_n, argsD_c, consO_s, argD_f, argD_b, argB_l, argB_e, argB_f, noLR_e, noLR_t, noLR_a, noLR_i, noLR_b, noLR_s, noLR_n, ↓x_pop, eL_drop, eL_i1, ↓x_callN, isOw_o, ex_bd, en_epf, en_epb, ixFa_0, ixFa_1f, ixFa_1b, fs_a, fs_u, fs_f, fs_b, t3_i, t3_o, t3_c, t2_n, t3_n, ne0F_e, isF_fate, not_true_eq_false, Int.reduceSub, Int.reduceAdd, isL_l, isL_e, isT_t, isT_e, isOL_l, isOL_e, isL1_c, isInt_i, isSome_s, isOwL_l, isOwL_e, en_int, en_nat, en_bool, en_str, en_list, eL_1, eL_2, eL_3, eL_snoc, eL_snoc2, eL_app, eL_LL, eL_LL2, eL_LLs, addF_e, addF_t', addF_n, addF_n', lenF_e, lenF_e', toListF_e, toListF_e', toTupF_e, toTupF_e', cutF_e, cutF_e', cm_keep_skip, cm_keep_front, cm_keep_back, cm_front_skip, cm_front_front, cm_front_back, cm_back_skip, cm_back_front, cm_back_back, cm_remove_skip, cm_remove_front, cm_remove_back, nl0, nl1, nl2, nl3, nl4, nl5, nl6, nl7, nl8, nl9, nl10, nl11, nl12, Int.reduceEq, Int.reduceLT, Int.reduceLE, nat1c, natc1, natc2, natcA, cutA_btw, cutA_to, cutA_from, cutA_all, ixF_e0, ixF_e1, ixP_0, ixP_1, gtupP, pair_f, isF_Ln, isF_Tn, eqF_e, neF_e, inF_e, eqF_n, eqF_n', eqF_eL, neF_eL, eqF_eT, inF_nm, eL_pairs, pairs_e, rngD_e, eL_rev, eL_set, eL_erase, eL_ins, eL_ins', get_m, idx_len, sl0, sl1, sl2, sl3, sl4, sl5, sl6, sl7, sl8, sl9, sl10, sl11, sl12, en_keep, en_front, en_back, en_remove, en_skip, en_ofront, en_oback, en_inn, en_out, en_both, eqF_inn, eqF_out, eqF_both, neF_inn, neF_out, ixC_0, ixC_1, ixC_2, lenC, ixO_0, ixO_1, ixO_2, gtupC, gtupO, fate_a, fate_u, fate_f, fate_b, ent_i, ent_o, ent_b, inT_1, inT_2, inT_3, ofS, String.reduceEq, Bool.or_true, Bool.true_or, Bool.or_false, Bool.false_or, eq_self, ↓x_kill, ↓x_killN, ↓x_join, dropE_n, dropE_c, drop1_un, drop1_fz, drop1_ow, drop1_ot, Int.toNat_natCast, List.length_map, Option.map_some, Option.map_none]
  refine least_n hpd hgd (by omega) (by omega) fun b e hB => ?_
  simp -dsimp only [↓x_seq, ↓x_next, ↓x_drop, ↓x_set, ↓x_setO, ↓x_name, ↓x_gnil, ↓x_gcons, ↓x_gtup, ↓x_bin, ↓x_var, ↓x_varF, ↓x_c, ↓x_1, ↓x_B, ↓x_and, ↓x_or, ↓x_not, ↓x_andV, ↓x_orV, ↓x_notV, ↓x_if, ↓x_ifS, ↓x_ret, ↓x_lst, ↓x_tup, ↓x_acons, ↓x_anil, ↓x_aug, ↓y_setIx, ↓x_call, ↓x_callT, ↓x_callK, ↓x_callD, ↓x_chain, ↓x_sl, ↓x_oS, ↓x_oN, ↓x_rep, ↓y_store, ↓x_app, ↓y_popAt, ↓y_insert, ↓y_ext, ↓x_strM, ↓x_listM, ↓x_isi, ↓y_LE, ↓x_yes, ↓y_iList, ↓y_iTup, ↓x_iStr, ↓y_iEnum, ↓x_iRange1, ↓x_iRange2, ↓x_for, ↓x_while, ↓x_lc, ↓y_rev, ↓x_pNil, ↓x_pCons, ↓x_dict, ↓x_dict0, ↓x_dget, cs_t, cs_f, ex_s, sh1, get_fz, get_ow, get_br, brD_ow, brD_fz, fzd_fz, fzd_ow, fzd_br, jO_un, jO_fz, jO_ow, jO_no, intF_i, intF0_i, addF_i, addF_s, addF_l, addF_t, mulF, mulSF_s, ne0F_l, subF, fdivF, modF, powF, ltF_i, ltF_s, leF, gtF, geF, absF_i, maxF, minF, lenF_l, lenF_t, lenF_s, toIntF_i, toIntF_b, toListF_l, toListF_t, toTupF_l, toTupF_t, negF_i, cutF_l, cutF_t, cutF_s, isF_bb, isF_nn, isF_ln, isF_sn, isF_in, isF_tn, List.map_cons, List.map_nil, List.cons_append, List.nil_append, List.replicate, List.getElem?_cons_zero, List.getElem?_cons_succ, List.set_cons_zero, List.set_cons_succ, List.length_cons, List.length_nil, if_true, if_false, Bool.false_eq_true, true_and, and_true, reduceCtorEq, ixF_0, ixF_1, ixF_2, ixF_t0, ixF_t1, ixF_t2, ixn0, ixn1, eqF_s, eqF_i, neF_s, neF_i, eqF_l, eqF_t, neF_l, Option.some.injEq, G.E.ow.injEq, exists_eq_left', exists_eq_left, exists_eq', exists_const, and_self, ne_eq, not_false_eq_true, decide_true, decide_false, Bool.not_true, Bool.not_false, restE, wipeE, List.getD_eq_getElem?_getD, Option.getD_some, eqF_bb, neF_bb, ↓y_iRev, ↓x_sset, ↓x_lset, sortF_e, t3_f, t4_f, gtup3, gtup4, ixT3_0, ixT3_1, ixT3_2, ↓x_callB, ↓x_frz, ↓x_rnil, ↓x_rcons, argsD_n, argsD_c, consO_s, argD_f, argD_b, argB_l, argB_e, argB_f, noLR_e, noLR_t, noLR_a, noLR_i, noLR_b, noLR_s, noLR_n, ↓x_pop, eL_drop, eL_i1, ↓x_callN, isOw_o, ex_bd, en_epf, en_epb, ixFa_0, ixFa_1f, ixFa_1b, fs_a, fs_u, fs_f, fs_b, t3_i, t3_o, t3_c, t2_n, t3_n, ne0F_e, isF_fate, not_true_eq_false, Int.reduceSub, Int.reduceAdd, isL_l, isL_e, isT_t, isT_e, isOL_l, isOL_e, isL1_c, isInt_i, isSome_s, isOwL_l, isOwL_e, en_int, en_nat, en_bool, en_str, en_list, eL_1, eL_2, eL_3, eL_snoc, eL_snoc2, eL_app, eL_LL, eL_LL2, eL_LLs, addF_e, addF_t', addF_n, addF_n', lenF_e, lenF_e', toListF_e, toListF_e', toTupF_e, toTupF_e', cutF_e, cutF_e', cm_keep_skip, cm_keep_front, cm_keep_back, cm_front_skip, cm_front_front, cm_front_back, cm_back_skip, cm_back_front, cm_back_back, cm_remove_skip, cm_remove_front, cm_remove_back, nl0, nl1, nl2, nl3, nl4, nl5, nl6, nl7, nl8, nl9, nl10, nl11, nl12, Int.reduceEq, Int.reduceLT, Int.reduceLE, nat1c, natc1, natc2, natcA, cutA_btw, cutA_to, cutA_from, cutA_all, ixF_e0, ixF_e1, ixP_0, ixP_1, gtupP, pair_f, isF_Ln, isF_Tn, eqF_e, neF_e, inF_e, eqF_n, eqF_n', eqF_eL, neF_eL, eqF_eT, inF_nm, eL_pairs, pairs_e, rngD_e, eL_rev, eL_set, eL_erase, eL_ins, eL_ins', get_m, idx_len, sl0, sl1, sl2, sl3, sl4, sl5, sl6, sl7, sl8, sl9, sl10, sl11, sl12, en_keep, en_front, en_back, en_remove, en_skip, en_ofront, en_oback, en_inn, en_out, en_both, eqF_inn, eqF_out, eqF_both, neF_inn, neF_out, ixC_0, ixC_1, ixC_2, lenC, ixO_0, ixO_1, ixO_2, gtupC, gtupO, fate_a, fate_u, fate_f, fate_b, ent_i, ent_o, ent_b, inT_1, inT_2, inT_3, ofS, String.reduceEq, Bool.or_true, Bool.true_or, Bool.or_false, Bool.false_or, eq_self, ↓x_kill, ↓x_killN, ↓x_join, dropE_n, dropE_c, drop1_un, drop1_fz, drop1_ow, drop1_ot, Int.toNat_natCast, List.length_map, Option.map_some, Option.map_none]
  refine dist_n hpd hgd hpx hgx hxl hB ?_
  simp -dsimp only [↓x_seq, ↓x_next, ↓x_drop, ↓x_set, ↓x_setO, ↓x_name, ↓x_gnil, ↓x_gcons, ↓x_gtup, ↓x_bin, ↓x_var, ↓x_varF, ↓x_c, ↓x_1, ↓x_B, ↓x_and, ↓x_or, ↓x_not, ↓x_andV, ↓x_orV, ↓x_notV, ↓x_if, ↓x_ifS, ↓x_ret, ↓x_lst, ↓x_tup, ↓x_acons, ↓x_anil, ↓x_aug, ↓y_setIx, ↓x_call, ↓x_callT, ↓x_callK, ↓x_callD, ↓x_chain, ↓x_sl, ↓x_oS, ↓x_oN, ↓x_rep, ↓y_store, ↓x_app, ↓y_popAt, ↓y_insert, ↓y_ext, ↓x_strM, ↓x_listM, ↓x_isi, ↓y_LE, ↓x_yes, ↓y_iList, ↓y_iTup, ↓x_iStr, ↓y_iEnum, ↓x_iRange1, ↓x_iRange2, ↓x_for, ↓x_while, ↓x_lc, ↓y_rev, ↓x_pNil, ↓x_pCons, ↓x_dict, ↓x_dict0, ↓x_dget, cs_t, cs_f, ex_s, sh1, get_fz, get_ow, get_br, brD_ow, brD_fz, fzd_fz, fzd_ow, fzd_br, jO_un, jO_fz, jO_ow, jO_no, intF_i, intF0_i, addF_i, addF_s, addF_l, addF_t, mulF, mulSF_s, ne0F_l, subF, fdivF, modF, powF, ltF_i, ltF_s, leF, gtF, geF, absF_i, maxF, minF, lenF_l, lenF_t, lenF_s, toIntF_i, toIntF_b, toListF_l, toListF_t, toTupF_l, toTupF_t, negF_i, cutF_l, cutF_t, cutF_s, isF_bb, isF_nn, isF_ln, isF_sn, isF_in, isF_tn, List.map_cons, List.map_nil, List.cons_append, List.nil_append, List.replicate, List.getElem?_cons_zero, List.getElem?_cons_succ, List.set_cons_zero, List.set_cons_succ, List.length_cons, List.length_nil, if_true, if_false, Bool.false_eq_true, true_and, and_true, reduceCtorEq, ixF_0, ixF_1, ixF_2, ixF_t0, ixF_t1, ixF_t2, ixn0, ixn1, eqF_s, eqF_i, neF_s, neF_i, eqF_l, eqF_t, neF_l, Option.some.injEq, G.E.ow.injEq, exists_eq_left', exists_eq_left, exists_eq', exists_const, and_self, ne_eq, not_false_eq_true, decide_true, decide_false, Bool.not_true, Bool.not_false, restE, wipeE, List.getD_eq_getElem?_getD, Option.getD_some, eqF_bb, neF_bb, ↓y_iRev, ↓x_sset, ↓x_lset, sortF_e, t3_f, t4_f, gtup3, gtup4, ixT3_0, ixT3_1, ixT3_2, ↓x_callB, ↓x_frz, ↓x_rnil, ↓x_rcons, argsD_n, argsD_c, consO_s, argD_f, argD_b, argB_l, argB_e, argB_f, noLR_e, noLR_t, noLR_a, noLR_i, noLR_b, noLR_s, noLR_n, ↓x_pop, eL_drop, eL_i1, ↓x_callN, isOw_o, ex_bd, en_epf, en_epb, ixFa_0, ixFa_1f, ixFa_1b, fs_a, fs_u, fs_f, fs_b, t3_i, t3_o, t3_c, t2_n, t3_n, ne0F_e, isF_fate, not_true_eq_false, Int.reduceSub, Int.reduceAdd, isL_l, isL_e, isT_t, isT_e, isOL_l, isOL_e, isL1_c, isInt_i, isSome_s, isOwL_l, isOwL_e, en_int, en_nat, en_bool, en_str, en_list, eL_1, eL_2, eL_3, eL_snoc, eL_snoc2, eL_app, eL_LL, eL_LL2, eL_LLs, addF_e, addF_t', addF_n, addF_n', lenF_e, lenF_e', toListF_e, toListF_e', toTupF_e, toTupF_e', cutF_e, cutF_e', cm_keep_skip, cm_keep_front, cm_keep_back, cm_front_skip, cm_front_front, cm_front_back, cm_back_skip, cm_back_front, cm_back_back, cm_remove_skip, cm_remove_front, cm_remove_back, nl0, nl1, nl2, nl3, nl4, nl5, nl6, nl7, nl8, nl9, nl10, nl11, nl12, Int.reduceEq, Int.reduceLT, Int.reduceLE, nat1c, natc1, natc2, natcA, cutA_btw, cutA_to, cutA_from, cutA_all, ixF_e0, ixF_e1, ixP_0, ixP_1, gtupP, pair_f, isF_Ln, isF_Tn, eqF_e, neF_e, inF_e, eqF_n, eqF_n', eqF_eL, neF_eL, eqF_eT, inF_nm, eL_pairs, pairs_e, rngD_e, eL_rev, eL_set, eL_erase, eL_ins, eL_ins', get_m, idx_len, sl0, sl1, sl2, sl3, sl4, sl5, sl6, sl7, sl8, sl9, sl10, sl11, sl12, en_keep, en_front, en_back, en_remove, en_skip, en_ofront, en_oback, en_inn, en_out, en_both, eqF_inn, eqF_out, eqF_both, neF_inn, neF_out, ixC_0, ixC_1, ixC_2, lenC, ixO_0, ixO_1, ixO_2, gtupC, gtupO, fate_a, fate_u, fate_f, fate_b, ent_i, ent_o, ent_b, inT_1, inT_2, inT_3, ofS, String.reduceEq, Bool.or_true, Bool.true_or, Bool.or_false, Bool.false_or, eq_self, ↓x_kill, ↓x_killN, ↓x_join, dropE_n, dropE_c, drop1_un, drop1_fz, drop1_ow, drop1_ot, Int.toNat_natCast, List.length_map, Option.map_some, Option.map_none]
  refine isint_n ?_
  simp -dsimp only [↓x_seq, ↓x_next, ↓x_drop, ↓x_set, ↓x_setO, ↓x_name, ↓x_gnil, ↓x_gcons, ↓x_gtup, ↓x_bin, ↓x_var, ↓x_varF, ↓x_c, ↓x_1, ↓x_B, ↓x_and, ↓x_or, ↓x_not, ↓x_andV, ↓x_orV, ↓x_notV, ↓x_if, ↓x_ifS, ↓x_ret, ↓x_lst, ↓x_tup, ↓x_acons, ↓x_anil, ↓x_aug, ↓y_setIx, ↓x_call, ↓x_callT, ↓x_callK, ↓x_callD, ↓x_chain, ↓x_sl, ↓x_oS, ↓x_oN, ↓x_rep, ↓y_store, ↓x_app, ↓y_popAt, ↓y_insert, ↓y_ext, ↓x_strM, ↓x_listM, ↓x_isi, ↓y_LE, ↓x_yes, ↓y_iList, ↓y_iTup, ↓x_iStr, ↓y_iEnum, ↓x_iRange1, ↓x_iRange2, ↓x_for, ↓x_while, ↓x_lc, ↓y_rev, ↓x_pNil, ↓x_pCons, ↓x_dict, ↓x_dict0, ↓x_dget, cs_t, cs_f, ex_s, sh1, get_fz, get_ow, get_br, brD_ow, brD_fz, fzd_fz, fzd_ow, fzd_br, jO_un, jO_fz, jO_ow, jO_no, intF_i, intF0_i, addF_i, addF_s, addF_l, addF_t, mulF, mulSF_s, ne0F_l, subF, fdivF, modF, powF, ltF_i, ltF_s, leF, gtF, geF, absF_i, maxF, minF, lenF_l, lenF_t, lenF_s, toIntF_i, toIntF_b, toListF_l, toListF_t, toTupF_l, toTupF_t, negF_i, cutF_l, cutF_t, cutF_s, isF_bb, isF_nn, isF_ln, isF_sn, isF_in, isF_tn, List.map_cons, List.map_nil, List.cons_append, List.nil_append, List.replicate, List.getElem?_cons_zero, List.getElem?_cons_succ, List.set_cons_zero, List.set_cons_succ, List.length_cons, List.length_nil, if_true, if_false, Bool.false_eq_true, true_and, and_true, reduceCtorEq, ixF_0, ixF_1, ixF_2, ixF_t0, ixF_t1, ixF_t2, ixn0, ixn1, eqF_s, eqF_i, neF_s, neF_i, eqF_l, eqF_t, neF_l, Option.some.injEq, G.E.ow.injEq, exists_eq_left', exists_eq_left, exists_eq', exists_const, and_self, ne_eq, not_false_eq_true, decide_true, decide_false, Bool.not_true, Bool.not_false, restE, wipeE, List.getD_eq_getElem?_getD, Option.getD_some, eqF_bb, neF_bb, ↓y_iRev, ↓x_sset, ↓x_lset, sortF_e, t3_f, t4_f, gtup3, gtup4, ixT3_0, ixT3_1, ixT3_2, ↓x_callB, ↓x_frz, ↓x_rnil, ↓x_rcons, argsD_n, argsD_c, consO_s, argD_f, argD_b, argB_l, argB_e, argB_f, noLR_e, noLR_t, noLR_a, noLR_i, noLR_b, noLR_s, noLR_n, ↓x_pop, eL_drop, eL_i1, ↓x_callN, isOw_o, ex_bd, en_epf, en_epb, ixFa_0, ixFa_1f, ixFa_1b, fs_a, fs_u, fs_f, fs_b, t3_i, t3_o, t3_c, t2_n, t3_n, ne0F_e, isF_fate, not_true_eq_false, Int.reduceSub, Int.reduceAdd, isL_l, isL_e, isT_t, isT_e, isOL_l, isOL_e, isL1_c, isInt_i, isSome_s, isOwL_l, isOwL_e, en_int, en_nat, en_bool, en_str, en_list, eL_1, eL_2, eL_3, eL_snoc, eL_snoc2, eL_app, eL_LL, eL_LL2, eL_LLs, addF_e, addF_t', addF_n, addF_n', lenF_e, lenF_e', toListF_e, toListF_e', toTupF_e, toTupF_e', cutF_e, cutF_e', cm_keep_skip, cm_keep_front, cm_keep_back, cm_front_skip, cm_front_front, cm_front_back, cm_back_skip, cm_back_front, cm_back_back, cm_remove_skip, cm_remove_front, cm_remove_back, nl0, nl1, nl2, nl3, nl4, nl5, nl6, nl7, nl8, nl9, nl10, nl11, nl12, Int.reduceEq, Int.reduceLT, Int.reduceLE, nat1c, natc1, natc2, natcA, cutA_btw, cutA_to, cutA_from, cutA_all, ixF_e0, ixF_e1, ixP_0, ixP_1, gtupP, pair_f, isF_Ln, isF_Tn, eqF_e, neF_e, inF_e, eqF_n, eqF_n', eqF_eL, neF_eL, eqF_eT, inF_nm, eL_pairs, pairs_e, rngD_e, eL_rev, eL_set, eL_erase, eL_ins, eL_ins', get_m, idx_len, sl0, sl1, sl2, sl3, sl4, sl5, sl6, sl7, sl8, sl9, sl10, sl11, sl12, en_keep, en_front, en_back, en_remove, en_skip, en_ofront, en_oback, en_inn, en_out, en_both, eqF_inn, eqF_out, eqF_both, neF_inn, neF_out, ixC_0, ixC_1, ixC_2, lenC, ixO_0, ixO_1, ixO_2, gtupC, gtupO, fate_a, fate_u, fate_f, fate_b, ent_i, ent_o, ent_b, inT_1, inT_2, inT_3, ofS, String.reduceEq, Bool.or_true, Bool.true_or, Bool.or_false, Bool.false_or, eq_self, ↓x_kill, ↓x_killN, ↓x_join, dropE_n, dropE_c, drop1_un, drop1_fz, drop1_ow, drop1_ot, Int.toNat_natCast, List.length_map, Option.map_some, Option.map_none]
  refine for_t (fun l e => e = [(.fz (eL ns) : G.E), .un, (.fz (eL xs) : G.E), .un, .un, .un, .un, .un, .un, .un, .un, .un]) rfl ?_ ?_
  · rintro ⟨k, c⟩ l e rfl
    simp -dsimp only [↓x_seq, ↓x_next, ↓x_drop, ↓x_set, ↓x_setO, ↓x_name, ↓x_gnil, ↓x_gcons, ↓x_gtup, ↓x_bin, ↓x_var, ↓x_varF, ↓x_c, ↓x_1, ↓x_B, ↓x_and, ↓x_or, ↓x_not, ↓x_andV, ↓x_orV, ↓x_notV, ↓x_if, ↓x_ifS, ↓x_ret, ↓x_lst, ↓x_tup, ↓x_acons, ↓x_anil, ↓x_aug, ↓y_setIx, ↓x_call, ↓x_callT, ↓x_callK, ↓x_callD, ↓x_chain, ↓x_sl, ↓x_oS, ↓x_oN, ↓x_rep, ↓y_store, ↓x_app, ↓y_popAt, ↓y_insert, ↓y_ext, ↓x_strM, ↓x_listM, ↓x_isi, ↓y_LE, ↓x_yes, ↓y_iList, ↓y_iTup, ↓x_iStr, ↓y_iEnum, ↓x_iRange1, ↓x_iRange2, ↓x_for, ↓x_while, ↓x_lc, ↓y_rev, ↓x_pNil, ↓x_pCons, ↓x_dict, ↓x_dict0, ↓x_dget, cs_t, cs_f, ex_s, sh1, get_fz, get_ow, get_br, brD_ow, brD_fz, fzd_fz, fzd_ow, fzd_br, jO_un, jO_fz, jO_ow, jO_no, intF_i, intF0_i, addF_i, addF_s, addF_l, addF_t, mulF, mulSF_s, ne0F_l, subF, fdivF, modF, powF, ltF_i, ltF_s, leF, gtF, geF, absF_i, maxF, minF, lenF_l, lenF_t, lenF_s, toIntF_i, toIntF_b, toListF_l, toListF_t, toTupF_l, toTupF_t, negF_i, cutF_l, cutF_t, cutF_s, isF_bb, isF_nn, isF_ln, isF_sn, isF_in, isF_tn, List.map_cons, List.map_nil, List.cons_append, List.nil_append, List.replicate, List.getElem?_cons_zero, List.getElem?_cons_succ, List.set_cons_zero, List.set_cons_succ, List.length_cons, List.length_nil, if_true, if_false, Bool.false_eq_true, true_and, and_true, reduceCtorEq, ixF_0, ixF_1, ixF_2, ixF_t0, ixF_t1, ixF_t2, ixn0, ixn1, eqF_s, eqF_i, neF_s, neF_i, eqF_l, eqF_t, neF_l, Option.some.injEq, G.E.ow.injEq, exists_eq_left', exists_eq_left, exists_eq', exists_const, and_self, ne_eq, not_false_eq_true, decide_true, decide_false, Bool.not_true, Bool.not_false, restE, wipeE, List.getD_eq_getElem?_getD, Option.getD_some, eqF_bb, neF_bb, ↓y_iRev, ↓x_sset, ↓x_lset, sortF_e, t3_f, t4_f, gtup3, gtup4, ixT3_0, ixT3_1, ixT3_2, ↓x_callB, ↓x_frz, ↓x_rnil, ↓x_rcons, argsD_n, argsD_c, consO_s, argD_f, argD_b, argB_l, argB_e, argB_f, noLR_e, noLR_t, noLR_a, noLR_i, noLR_b, noLR_s, noLR_n, ↓x_pop, eL_drop, eL_i1, ↓x_callN, isOw_o, ex_bd, en_epf, en_epb, ixFa_0, ixFa_1f, ixFa_1b, fs_a, fs_u, fs_f, fs_b, t3_i, t3_o, t3_c, t2_n, t3_n, ne0F_e, isF_fate, not_true_eq_false, Int.reduceSub, Int.reduceAdd, isL_l, isL_e, isT_t, isT_e, isOL_l, isOL_e, isL1_c, isInt_i, isSome_s, isOwL_l, isOwL_e, en_int, en_nat, en_bool, en_str, en_list, eL_1, eL_2, eL_3, eL_snoc, eL_snoc2, eL_app, eL_LL, eL_LL2, eL_LLs, addF_e, addF_t', addF_n, addF_n', lenF_e, lenF_e', toListF_e, toListF_e', toTupF_e, toTupF_e', cutF_e, cutF_e', cm_keep_skip, cm_keep_front, cm_keep_back, cm_front_skip, cm_front_front, cm_front_back, cm_back_skip, cm_back_front, cm_back_back, cm_remove_skip, cm_remove_front, cm_remove_back, nl0, nl1, nl2, nl3, nl4, nl5, nl6, nl7, nl8, nl9, nl10, nl11, nl12, Int.reduceEq, Int.reduceLT, Int.reduceLE, nat1c, natc1, natc2, natcA, cutA_btw, cutA_to, cutA_from, cutA_all, ixF_e0, ixF_e1, ixP_0, ixP_1, gtupP, pair_f, isF_Ln, isF_Tn, eqF_e, neF_e, inF_e, eqF_n, eqF_n', eqF_eL, neF_eL, eqF_eT, inF_nm, eL_pairs, pairs_e, rngD_e, eL_rev, eL_set, eL_erase, eL_ins, eL_ins', get_m, idx_len, sl0, sl1, sl2, sl3, sl4, sl5, sl6, sl7, sl8, sl9, sl10, sl11, sl12, en_keep, en_front, en_back, en_remove, en_skip, en_ofront, en_oback, en_inn, en_out, en_both, eqF_inn, eqF_out, eqF_both, neF_inn, neF_out, ixC_0, ixC_1, ixC_2, lenC, ixO_0, ixO_1, ixO_2, gtupC, gtupO, fate_a, fate_u, fate_f, fate_b, ent_i, ent_o, ent_b, inT_1, inT_2, inT_3, ofS, String.reduceEq, Bool.or_true, Bool.true_or, Bool.or_false, Bool.false_or, eq_self, ↓x_kill, ↓x_killN, ↓x_join, dropE_n, dropE_c, drop1_un, drop1_fz, drop1_ow, drop1_ot, Int.toNat_natCast, List.length_map, Option.map_some, Option.map_none]
    refine tape_n fun t ht => ?_
    simp -dsimp only [↓x_seq, ↓x_next, ↓x_drop, ↓x_set, ↓x_setO, ↓x_name, ↓x_gnil, ↓x_gcons, ↓x_gtup, ↓x_bin, ↓x_var, ↓x_varF, ↓x_c, ↓x_1, ↓x_B, ↓x_and, ↓x_or, ↓x_not, ↓x_andV, ↓x_orV, ↓x_notV, ↓x_if, ↓x_ifS, ↓x_ret, ↓x_lst, ↓x_tup, ↓x_acons, ↓x_anil, ↓x_aug, ↓y_setIx, ↓x_call, ↓x_callT, ↓x_callK, ↓x_callD, ↓x_chain, ↓x_sl, ↓x_oS, ↓x_oN, ↓x_rep, ↓y_store, ↓x_app, ↓y_popAt, ↓y_insert, ↓y_ext, ↓x_strM, ↓x_listM, ↓x_isi, ↓y_LE, ↓x_yes, ↓y_iList, ↓y_iTup, ↓x_iStr, ↓y_iEnum, ↓x_iRange1, ↓x_iRange2, ↓x_for, ↓x_while, ↓x_lc, ↓y_rev, ↓x_pNil, ↓x_pCons, ↓x_dict, ↓x_dict0, ↓x_dget, cs_t, cs_f, ex_s, sh1, get_fz, get_ow, get_br, brD_ow, brD_fz, fzd_fz, fzd_ow, fzd_br, jO_un, jO_fz, jO_ow, jO_no, intF_i, intF0_i, addF_i, addF_s, addF_l, addF_t, mulF, mulSF_s, ne0F_l, subF, fdivF, modF, powF, ltF_i, ltF_s, leF, gtF, geF, absF_i, maxF, minF, lenF_l, lenF_t, lenF_s, toIntF_i, toIntF_b, toListF_l, toListF_t, toTupF_l, toTupF_t, negF_i, cutF_l, cutF_t, cutF_s, isF_bb, isF_nn, isF_ln, isF_sn, isF_in, isF_tn, List.map_cons, List.map_nil, List.cons_append, List.nil_append, List.replicate, List.getElem?_cons_zero, List.getElem?_cons_succ, List.set_cons_zero, List.set_cons_succ, List.length_cons, List.length_nil, if_true, if_false, Bool.false_eq_true, true_and, and_true, reduceCtorEq, ixF_0, ixF_1, ixF_2, ixF_t0, ixF_t1, ixF_t2, ixn0, ixn1, eqF_s, eqF_i, neF_s, neF_i, eqF_l, eqF_t, neF_l, Option.some.injEq, G.E.ow.injEq, exists_eq_left', exists_eq_left, exists_eq', exists_const, and_self, ne_eq, not_false_eq_true, decide_true, decide_false, Bool.not_true, Bool.not_false, restE, wipeE, List.getD_eq_getElem?_getD, Option.getD_some, eqF_bb, neF_bb, ↓y_iRev, ↓x_sset, ↓x_lset, sortF_e, t3_f, t4_f, gtup3, gtup4, ixT3_0, ixT3_1, ixT3_2, ↓x_callB, ↓x_frz, ↓x_rnil, ↓x_rcons, argsD_n, argsD_c, consO_s, argD_f, argD_b, argB_l, argB_e, argB_f, noLR_e, noLR_t, noLR_a, noLR_i, noLR_b, noLR_s, noLR_n, ↓x_pop, eL_drop, eL_i1, ↓x_callN, isOw_o, ex_bd, en_epf, en_epb, ixFa_0, ixFa_1f, ixFa_1b, fs_a, fs_u, fs_f, fs_b, t3_i, t3_o, t3_c, t2_n, t3_n, ne0F_e, isF_fate, not_true_eq_false, Int.reduceSub, Int.reduceAdd, isL_l, isL_e, isT_t, isT_e, isOL_l, isOL_e, isL1_c, isInt_i, isSome_s, isOwL_l, isOwL_e, en_int, en_nat, en_bool, en_str, en_list, eL_1, eL_2, eL_3, eL_snoc, eL_snoc2, eL_app, eL_LL, eL_LL2, eL_LLs, addF_e, addF_t', addF_n, addF_n', lenF_e, lenF_e', toListF_e, toListF_e', toTupF_e, toTupF_e', cutF_e, cutF_e', cm_keep_skip, cm_keep_front, cm_keep_back, cm_front_skip, cm_front_front, cm_front_back, cm_back_skip, cm_back_front, cm_back_back, cm_remove_skip, cm_remove_front, cm_remove_back, nl0, nl1, nl2, nl3, nl4, nl5, nl6, nl7, nl8, nl9, nl10, nl11, nl12, Int.reduceEq, Int.reduceLT, Int.reduceLE, nat1c, natc1, natc2, natcA, cutA_btw, cutA_to, cutA_from, cutA_all, ixF_e0, ixF_e1, ixP_0, ixP_1, gtupP, pair_f, isF_Ln, isF_Tn, eqF_e, neF_e, inF_e, eqF_n, eqF_n', eqF_eL, neF_eL, eqF_eT, inF_nm, eL_pairs, pairs_e, rngD_e, eL_rev, eL_set, eL_erase, eL_ins, eL_ins', get_m, idx_len, sl0, sl1, sl2, sl3, sl4, sl5, sl6, sl7, sl8, sl9, sl10, sl11, sl12, en_keep, en_front, en_back, en_remove, en_skip, en_ofront, en_oback, en_inn, en_out, en_both, eqF_inn, eqF_out, eqF_both, neF_inn, neF_out, ixC_0, ixC_1, ixC_2, lenC, ixO_0, ixO_1, ixO_2, gtupC, gtupO, fate_a, fate_u, fate_f, fate_b, ent_i, ent_o, ent_b, inT_1, inT_2, inT_3, ofS, String.reduceEq, Bool.or_true, Bool.true_or, Bool.or_false, Bool.false_or, eq_self, ↓x_kill, ↓x_killN, ↓x_join, dropE_n, dropE_c, drop1_un, drop1_fz, drop1_ow, drop1_ot, Int.toNat_natCast, List.length_map, Option.map_some, Option.map_none]
    refine draw_n ht (by decide) fun i t hi ht => ?_
    simp -dsimp only [↓x_seq, ↓x_next, ↓x_drop, ↓x_set, ↓x_setO, ↓x_name, ↓x_gnil, ↓x_gcons, ↓x_gtup, ↓x_bin, ↓x_var, ↓x_varF, ↓x_c, ↓x_1, ↓x_B, ↓x_and, ↓x_or, ↓x_not, ↓x_andV, ↓x_orV, ↓x_notV, ↓x_if, ↓x_ifS, ↓x_ret, ↓x_lst, ↓x_tup, ↓x_acons, ↓x_anil, ↓x_aug, ↓y_setIx, ↓x_call, ↓x_callT, ↓x_callK, ↓x_callD, ↓x_chain, ↓x_sl, ↓x_oS, ↓x_oN, ↓x_rep, ↓y_store, ↓x_app, ↓y_popAt, ↓y_insert, ↓y_ext, ↓x_strM, ↓x_listM, ↓x_isi, ↓y_LE, ↓x_yes, ↓y_iList, ↓y_iTup, ↓x_iStr, ↓y_iEnum, ↓x_iRange1, ↓x_iRange2, ↓x_for, ↓x_while, ↓x_lc, ↓y_rev, ↓x_pNil, ↓x_pCons, ↓x_dict, ↓x_dict0, ↓x_dget, cs_t, cs_f, ex_s, sh1, get_fz, get_ow, get_br, brD_ow, brD_fz, fzd_fz, fzd_ow, fzd_br, jO_un, jO_fz, jO_ow, jO_no, intF_i, intF0_i, addF_i, addF_s, addF_l, addF_t, mulF, mulSF_s, ne0F_l, subF, fdivF, modF, powF, ltF_i, ltF_s, leF, gtF, geF, absF_i, maxF, minF, lenF_l, lenF_t, lenF_s, toIntF_i, toIntF_b, toListF_l, toListF_t, toTupF_l, toTupF_t, negF_i, cutF_l, cutF_t, cutF_s, isF_bb, isF_nn, isF_ln, isF_sn, isF_in, isF_tn, List.map_cons, List.map_nil, List.cons_append, List.nil_append, List.replicate, List.getElem?_cons_zero, List.getElem?_cons_succ, List.set_cons_zero, List.set_cons_succ, List.length_cons, List.length_nil, if_true, if_false, Bool.false_eq_true, true_and, and_true, reduceCtorEq, ixF_0, ixF_1, ixF_2, ixF_t0, ixF_t1, ixF_t2, ixn0, ixn1, eqF_s, eqF_i, neF_s, neF_i, eqF_l, eqF_t, neF_l, Option.some.injEq, G.E.ow.injEq, exists_eq_left', exists_eq_left, exists_eq', exists_const, and_self, ne_eq, not_false_eq_true, decide_true, decide_false, Bool.not_true, Bool.not_false, restE, wipeE, List.getD_eq_getElem?_getD, Option.getD_some, eqF_bb, neF_bb, ↓y_iRev, ↓x_sset, ↓x_lset, sortF_e, t3_f, t4_f, gtup3, gtup4, ixT3_0, ixT3_1, ixT3_2, ↓x_callB, ↓x_frz, ↓x_rnil, ↓x_rcons, argsD_n, argsD_c, consO_s, argD_f, argD_b, argB_l, argB_e, argB_f, noLR_e, noLR_t, noLR_a, noLR_i, noLR_b, noLR_s, noLR_n, ↓x_pop, eL_drop, eL_i1, ↓x_callN, isOw_o, ex_bd, en_epf, en_epb, ixFa_0, ixFa_1f, ixFa_1b, fs_a, fs_u, fs_f, fs_b, t3_i, t3_o, t3_c, t2_n, t3_n, ne0F_e, isF_fate, not_true_eq_false, Int.reduceSub, Int.reduceAdd, isL_l, isL_e, isT_t, isT_e, isOL_l, isOL_e, isL1_c, isInt_i, isSome_s, isOwL_l, isOwL_e, en_int, en_nat, en_bool, en_str, en_list, eL_1, eL_2, eL_3, eL_snoc, eL_snoc2, eL_app, eL_LL, eL_LL2, eL_LLs, addF_e, addF_t', addF_n, addF_n', lenF_e, lenF_e', toListF_e, toListF_e', toTupF_e, toTupF_e', cutF_e, cutF_e', cm_keep_skip, cm_keep_front, cm_keep_back, cm_front_skip, cm_front_front, cm_front_back, cm_back_skip, cm_back_front, cm_back_back, cm_remove_skip, cm_remove_front, cm_remove_back, nl0, nl1, nl2, nl3, nl4, nl5, nl6, nl7, nl8, nl9, nl10, nl11, nl12, Int.reduceEq, Int.reduceLT, Int.reduceLE, nat1c, natc1, natc2, natcA, cutA_btw, cutA_to, cutA_from, cutA_all, ixF_e0, ixF_e1, ixP_0, ixP_1, gtupP, pair_f, isF_Ln, isF_Tn, eqF_e, neF_e, inF_e, eqF_n, eqF_n', eqF_eL, neF_eL, eqF_eT, inF_nm, eL_pairs, pairs_e, rngD_e, eL_rev, eL_set, eL_erase, eL_ins, eL_ins', get_m, idx_len, sl0, sl1, sl2, sl3, sl4, sl5, sl6, sl7, sl8, sl9, sl10, sl11, sl12, en_keep, en_front, en_back, en_remove, en_skip, en_ofront, en_oback, en_inn, en_out, en_both, eqF_inn, eqF_out, eqF_both, neF_inn, neF_out, ixC_0, ixC_1, ixC_2, lenC, ixO_0, ixO_1, ixO_2, gtupC, gtupO, fate_a, fate_u, fate_f, fate_b, ent_i, ent_o, ent_b, inT_1, inT_2, inT_3, ofS, String.reduceEq, Bool.or_true, Bool.true_or, Bool.or_false, Bool.false_or, eq_self, ↓x_kill, ↓x_killN, ↓x_join, dropE_n, dropE_c, drop1_un, drop1_fz, drop1_ow, drop1_ot, Int.toNat_natCast, List.length_map, Option.map_some, Option.map_none]
    refine ix_2 (x := 8) (y := 20) fun n hn => ?_
    simp -dsimp only [↓x_seq, ↓x_next, ↓x_drop, ↓x_set, ↓x_setO, ↓x_name, ↓x_gnil, ↓x_gcons, ↓x_gtup, ↓x_bin, ↓x_var, ↓x_varF, ↓x_c, ↓x_1, ↓x_B, ↓x_and, ↓x_or, ↓x_not, ↓x_andV, ↓x_orV, ↓x_notV, ↓x_if, ↓x_ifS, ↓x_ret, ↓x_lst, ↓x_tup, ↓x_acons, ↓x_anil, ↓x_aug, ↓y_setIx, ↓x_call, ↓x_callT, ↓x_callK, ↓x_callD, ↓x_chain, ↓x_sl, ↓x_oS, ↓x_oN, ↓x_rep, ↓y_store, ↓x_app, ↓y_popAt, ↓y_insert, ↓y_ext, ↓x_strM, ↓x_listM, ↓x_isi, ↓y_LE, ↓x_yes, ↓y_iList, ↓y_iTup, ↓x_iStr, ↓y_iEnum, ↓x_iRange1, ↓x_iRange2, ↓x_for, ↓x_while, ↓x_lc, ↓y_rev, ↓x_pNil, ↓x_pCons, ↓x_dict, ↓x_dict0, ↓x_dget, cs_t, cs_f, ex_s, sh1, get_fz, get_ow, get_br, brD_ow, brD_fz, fzd_fz, fzd_ow, fzd_br, jO_un, jO_fz, jO_ow, jO_no, intF_i, intF0_i, addF_i, addF_s, addF_l, addF_t, mulF, mulSF_s, ne0F_l, subF, fdivF, modF, powF, ltF_i, ltF_s, leF, gtF, geF, absF_i, maxF, minF, lenF_l, lenF_t, lenF_s, toIntF_i, toIntF_b, toListF_l, toListF_t, toTupF_l, toTupF_t, negF_i, cutF_l, cutF_t, cutF_s, isF_bb, isF_nn, isF_ln, isF_sn, isF_in, isF_tn, List.map_cons, List.map_nil, List.cons_append, List.nil_append, List.replicate, List.getElem?_cons_zero, List.getElem?_cons_succ, List.set_cons_zero, List.set_cons_succ, List.length_cons, List.length_nil, if_true, if_false, Bool.false_eq_true, true_and, and_true, reduceCtorEq, ixF_0, ixF_1, ixF_2, ixF_t0, ixF_t1, ixF_t2, ixn0, ixn1, eqF_s, eqF_i, neF_s, neF_i, eqF_l, eqF_t, neF_l, Option.some.injEq, G.E.ow.injEq, exists_eq_left', exists_eq_left, exists_eq', exists_const, and_self, ne_eq, not_false_eq_true, decide_true, decide_false, Bool.not_true, Bool.not_false, restE, wipeE, List.getD_eq_getElem?_getD, Option.getD_some, eqF_bb, neF_bb, ↓y_iRev, ↓x_sset, ↓x_lset, sortF_e, t3_f, t4_f, gtup3, gtup4, ixT3_0, ixT3_1, ixT3_2, ↓x_callB, ↓x_frz, ↓x_rnil, ↓x_rcons, argsD_n, argsD_c, consO_s, argD_f, argD_b, argB_l, argB_e, argB_f, noLR_e, noLR_t, noLR_a, noLR_i, noLR_b, noLR_s, noLR_n, ↓x_pop, eL_drop, eL_i1, ↓x_callN, isOw_o, ex_bd, en_epf, en_epb, ixFa_0, ixFa_1f, ixFa_1b, fs_a, fs_u, fs_f, fs_b, t3_i, t3_o, t3_c, t2_n, t3_n, ne0F_e, isF_fate, not_true_eq_false, Int.reduceSub, Int.reduceAdd, isL_l, isL_e, isT_t, isT_e, isOL_l, isOL_e, isL1_c, isInt_i, isSome_s, isOwL_l, isOwL_e, en_int, en_nat, en_bool, en_str, en_list, eL_1, eL_2, eL_3, eL_snoc, eL_snoc2, eL_app, eL_LL, eL_LL2, eL_LLs, addF_e, addF_t', addF_n, addF_n', lenF_e, lenF_e', toListF_e, toListF_e', toTupF_e, toTupF_e', cutF_e, cutF_e', cm_keep_skip, cm_keep_front, cm_keep_back, cm_front_skip, cm_front_front, cm_front_back, cm_back_skip, cm_back_front, cm_back_back, cm_remove_skip, cm_remove_front, cm_remove_back, nl0, nl1, nl2, nl3, nl4, nl5, nl6, nl7, nl8, nl9, nl10, nl11, nl12, Int.reduceEq, Int.reduceLT, Int.reduceLE, nat1c, natc1, natc2, natcA, cutA_btw, cutA_to, cutA_from, cutA_all, ixF_e0, ixF_e1, ixP_0, ixP_1, gtupP, pair_f, isF_Ln, isF_Tn, eqF_e, neF_e, inF_e, eqF_n, eqF_n', eqF_eL, neF_eL, eqF_eT, inF_nm, eL_pairs, pairs_e, rngD_e, eL_rev, eL_set, eL_erase, eL_ins, eL_ins', get_m, idx_len, sl0, sl1, sl2, sl3, sl4, sl5, sl6, sl7, sl8, sl9, sl10, sl11, sl12, en_keep, en_front, en_back, en_remove, en_skip, en_ofront, en_oback, en_inn, en_out, en_both, eqF_inn, eqF_out, eqF_both, neF_inn, neF_out, ixC_0, ixC_1, ixC_2, lenC, ixO_0, ixO_1, ixO_2, gtupC, gtupO, fate_a, fate_u, fate_f, fate_b, ent_i, ent_o, ent_b, inT_1, inT_2, inT_3, ofS, String.reduceEq, Bool.or_true, Bool.true_or, Bool.or_false, Bool.false_or, eq_self, ↓x_kill, ↓x_killN, ↓x_join, dropE_n, dropE_c, drop1_un, drop1_fz, drop1_ow, drop1_ot, Int.toNat_natCast, List.length_map, Option.map_some, Option.map_none]
    refine names_n ht (by omega) (by omega) fun ys t hyne hynd hyl ht => ?_
    simp -dsimp only [↓x_seq, ↓x_next, ↓x_drop, ↓x_set, ↓x_setO, ↓x_name, ↓x_gnil, ↓x_gcons, ↓x_gtup, ↓x_bin, ↓x_var, ↓x_varF, ↓x_c, ↓x_1, ↓x_B, ↓x_and, ↓x_or, ↓x_not, ↓x_andV, ↓x_orV, ↓x_notV, ↓x_if, ↓x_ifS, ↓x_ret, ↓x_lst, ↓x_tup, ↓x_acons, ↓x_anil, ↓x_aug, ↓y_setIx, ↓x_call, ↓x_callT, ↓x_callK, ↓x_callD, ↓x_chain, ↓x_sl, ↓x_oS, ↓x_oN, ↓x_rep, ↓y_store, ↓x_app, ↓y_popAt, ↓y_insert, ↓y_ext, ↓x_strM, ↓x_listM, ↓x_isi, ↓y_LE, ↓x_yes, ↓y_iList, ↓y_iTup, ↓x_iStr, ↓y_iEnum, ↓x_iRange1, ↓x_iRange2, ↓x_for, ↓x_while, ↓x_lc, ↓y_rev, ↓x_pNil, ↓x_pCons, ↓x_dict, ↓x_dict0, ↓x_dget, cs_t, cs_f, ex_s, sh1, get_fz, get_ow, get_br, brD_ow, brD_fz, fzd_fz, fzd_ow, fzd_br, jO_un, jO_fz, jO_ow, jO_no, intF_i, intF0_i, addF_i, addF_s, addF_l, addF_t, mulF, mulSF_s, ne0F_l, subF, fdivF, modF, powF, ltF_i, ltF_s, leF, gtF, geF, absF_i, maxF, minF, lenF_l, lenF_t, lenF_s, toIntF_i, toIntF_b, toListF_l, toListF_t, toTupF_l, toTupF_t, negF_i, cutF_l, cutF_t, cutF_s, isF_bb, isF_nn, isF_ln, isF_sn, isF_in, isF_tn, List.map_cons, List.map_nil, List.cons_append, List.nil_append, List.replicate, List.getElem?_cons_zero, List.getElem?_cons_succ, List.set_cons_zero, List.set_cons_succ, List.length_cons, List.length_nil, if_true, if_false, Bool.false_eq_true, true_and, and_true, reduceCtorEq, ixF_0, ixF_1, ixF_2, ixF_t0, ixF_t1, ixF_t2, ixn0, ixn1, eqF_s, eqF_i, neF_s, neF_i, eqF_l, eqF_t, neF_l, Option.some.injEq, G.E.ow.injEq, exists_eq_left', exists_eq_left, exists_eq', exists_const, and_self, ne_eq, not_false_eq_true, decide_true, decide_false, Bool.not_true, Bool.not_false, restE, wipeE, List.getD_eq_getElem?_getD, Option.getD_some, eqF_bb, neF_bb, ↓y_iRev, ↓x_sset, ↓x_lset, sortF_e, t3_f, t4_f, gtup3, gtup4, ixT3_0, ixT3_1, ixT3_2, ↓x_callB, ↓x_frz, ↓x_rnil, ↓x_rcons, argsD_n, argsD_c, consO_s, argD_f, argD_b, argB_l, argB_e, argB_f, noLR_e, noLR_t, noLR_a, noLR_i, noLR_b, noLR_s, noLR_n, ↓x_pop, eL_drop, eL_i1, ↓x_callN, isOw_o, ex_bd, en_epf, en_epb, ixFa_0, ixFa_1f, ixFa_1b, fs_a, fs_u, fs_f, fs_b, t3_i, t3_o, t3_c, t2_n, t3_n, ne0F_e, isF_fate, not_true_eq_false, Int.reduceSub, Int.reduceAdd, isL_l, isL_e, isT_t, isT_e, isOL_l, isOL_e, isL1_c, isInt_i, isSome_s, isOwL_l, isOwL_e, en_int, en_nat, en_bool, en_str, en_list, eL_1, eL_2, eL_3, eL_snoc, eL_snoc2, eL_app, eL_LL, eL_LL2, eL_LLs, addF_e, addF_t', addF_n, addF_n', lenF_e, lenF_e', toListF_e, toListF_e', toTupF_e, toTupF_e', cutF_e, cutF_e', cm_keep_skip, cm_keep_front, cm_keep_back, cm_front_skip, cm_front_front, cm_front_back, cm_back_skip, cm_back_front, cm_back_back, cm_remove_skip, cm_remove_front, cm_remove_back, nl0, nl1, nl2, nl3, nl4, nl5, nl6, nl7, nl8, nl9, nl10, nl11, nl12, Int.reduceEq, Int.reduceLT, Int.reduceLE, nat1c, natc1, natc2, natcA, cutA_btw, cutA_to, cutA_from, cutA_all, ixF_e0, ixF_e1, ixP_0, ixP_1, gtupP, pair_f, isF_Ln, isF_Tn, eqF_e, neF_e, inF_e, eqF_n, eqF_n', eqF_eL, neF_eL, eqF_eT, inF_nm, eL_pairs, pairs_e, rngD_e, eL_rev, eL_set, eL_erase, eL_ins, eL_ins', get_m, idx_len, sl0, sl1, sl2, sl3, sl4, sl5, sl6, sl7, sl8, sl9, sl10, sl11, sl12, en_keep, en_front, en_back, en_remove, en_skip, en_ofront, en_oback, en_inn, en_out, en_both, eqF_inn, eqF_out, eqF_both, neF_inn, neF_out, ixC_0, ixC_1, ixC_2, lenC, ixO_0, ixO_1, ixO_2, gtupC, gtupO, fate_a, fate_u, fate_f, fate_b, ent_i, ent_o, ent_b, inT_1, inT_2, inT_3, ofS, String.reduceEq, Bool.or_true, Bool.true_or, Bool.or_false, Bool.false_or, eq_self, ↓x_kill, ↓x_killN, ↓x_join, dropE_n, dropE_c, drop1_un, drop1_fz, drop1_ow, drop1_ot, Int.toNat_natCast, List.length_map, Option.map_some, Option.map_none]
    refine path_N ht hynd (by omega) fun q t hqd hqx hql ht => ?_
    simp -dsimp only [↓x_seq, ↓x_next, ↓x_drop, ↓x_set, ↓x_setO, ↓x_name, ↓x_gnil, ↓x_gcons, ↓x_gtup, ↓x_bin, ↓x_var, ↓x_varF, ↓x_c, ↓x_1, ↓x_B, ↓x_and, ↓x_or, ↓x_not, ↓x_andV, ↓x_orV, ↓x_notV, ↓x_if, ↓x_ifS, ↓x_ret, ↓x_lst, ↓x_tup, ↓x_acons, ↓x_anil, ↓x_aug, ↓y_setIx, ↓x_call, ↓x_callT, ↓x_callK, ↓x_callD, ↓x_chain, ↓x_sl, ↓x_oS, ↓x_oN, ↓x_rep, ↓y_store, ↓x_app, ↓y_popAt, ↓y_insert, ↓y_ext, ↓x_strM, ↓x_listM, ↓x_isi, ↓y_LE, ↓x_yes, ↓y_iList, ↓y_iTup, ↓x_iStr, ↓y_iEnum, ↓x_iRange1, ↓x_iRange2, ↓x_for, ↓x_while, ↓x_lc, ↓y_rev, ↓x_pNil, ↓x_pCons, ↓x_dict, ↓x_dict0, ↓x_dget, cs_t, cs_f, ex_s, sh1, get_fz, get_ow, get_br, brD_ow, brD_fz, fzd_fz, fzd_ow, fzd_br, jO_un, jO_fz, jO_ow, jO_no, intF_i, intF0_i, addF_i, addF_s, addF_l, addF_t, mulF, mulSF_s, ne0F_l, subF, fdivF, modF, powF, ltF_i, ltF_s, leF, gtF, geF, absF_i, maxF, minF, lenF_l, lenF_t, lenF_s, toIntF_i, toIntF_b, toListF_l, toListF_t, toTupF_l, toTupF_t, negF_i, cutF_l, cutF_t, cutF_s, isF_bb, isF_nn, isF_ln, isF_sn, isF_in, isF_tn, List.map_cons, List.map_nil, List.cons_append, List.nil_append, List.replicate, List.getElem?_cons_zero, List.getElem?_cons_succ, List.set_cons_zero, List.set_cons_succ, List.length_cons, List.length_nil, if_true, if_false, Bool.false_eq_true, true_and, and_true, reduceCtorEq, ixF_0, ixF_1, ixF_2, ixF_t0, ixF_t1, ixF_t2, ixn0, ixn1, eqF_s, eqF_i, neF_s, neF_i, eqF_l, eqF_t, neF_l, Option.some.injEq, G.E.ow.injEq, exists_eq_left', exists_eq_left, exists_eq', exists_const, and_self, ne_eq, not_false_eq_true, decide_true, decide_false, Bool.not_true, Bool.not_false, restE, wipeE, List.getD_eq_getElem?_getD, Option.getD_some, eqF_bb, neF_bb, ↓y_iRev, ↓x_sset, ↓x_lset, sortF_e, t3_f, t4_f, gtup3, gtup4, ixT3_0, ixT3_1, ixT3_2, ↓x_callB, ↓x_frz, ↓x_rnil, ↓x_rcons, argsD_n, argsD_c, consO_s, argD_f, argD_b, argB_l, argB_e, argB_f, noLR_e, noLR_t, noLR_a, noLR_i, noLR_b, noLR_s, noLR_n, ↓x_pop, eL_drop, eL_i1, ↓x_callN, isOw_o, ex_bd, en_epf, en_epb, ixFa_0, ixFa_1f, ixFa_1b, fs_a, fs_u, fs_f, fs_b, t3_i, t3_o, t3_c, t2_n, t3_n, ne0F_e, isF_fate, not_true_eq_false, Int.reduceSub, Int.reduceAdd, isL_l, isL_e, isT_t, isT_e, isOL_l, isOL_e, isL1_c, isInt_i, isSome_s, isOwL_l, isOwL_e, en_int, en_nat, en_bool, en_str, en_list, eL_1, eL_2, eL_3, eL_snoc, eL_snoc2, eL_app, eL_LL, eL_LL2, eL_LLs, addF_e, addF_t', addF_n, addF_n', lenF_e, lenF_e', toListF_e, toListF_e', toTupF_e, toTupF_e', cutF_e, cutF_e', cm_keep_skip, cm_keep_front, cm_keep_back, cm_front_skip, cm_front_front, cm_front_back, cm_back_skip, cm_back_front, cm_back_back, cm_remove_skip, cm_remove_front, cm_remove_back, nl0, nl1, nl2, nl3, nl4, nl5, nl6, nl7, nl8, nl9, nl10, nl11, nl12, Int.reduceEq, Int.reduceLT, Int.reduceLE, nat1c, natc1, natc2, natcA, cutA_btw, cutA_to, cutA_from, cutA_all, ixF_e0, ixF_e1, ixP_0, ixP_1, gtupP, pair_f, isF_Ln, isF_Tn, eqF_e, neF_e, inF_e, eqF_n, eqF_n', eqF_eL, neF_eL, eqF_eT, inF_nm, eL_pairs, pairs_e, rngD_e, eL_rev, eL_set, eL_erase, eL_ins, eL_ins', get_m, idx_len, sl0, sl1, sl2, sl3, sl4, sl5, sl6, sl7, sl8, sl9, sl10, sl11, sl12, en_keep, en_front, en_back, en_remove, en_skip, en_ofront, en_oback, en_inn, en_out, en_both, eqF_inn, eqF_out, eqF_both, neF_inn, neF_out, ixC_0, ixC_1, ixC_2, lenC, ixO_0, ixO_1, ixO_2, gtupC, gtupO, fate_a, fate_u, fate_f, fate_b, ent_i, ent_o, ent_b, inT_1, inT_2, inT_3, ofS, String.reduceEq, Bool.or_true, Bool.true_or, Bool.or_false, Bool.false_or, eq_self, ↓x_kill, ↓x_killN, ↓x_join, dropE_n, dropE_c, drop1_un, drop1_fz, drop1_ow, drop1_ot, Int.toNat_natCast, List.length_map, Option.map_some, Option.map_none]
    refine draw_n ht (by decide) fun m t hm ht => ?_
    simp -dsimp only [↓x_seq, ↓x_next, ↓x_drop, ↓x_set, ↓x_setO, ↓x_name, ↓x_gnil, ↓x_gcons, ↓x_gtup, ↓x_bin, ↓x_var, ↓x_varF, ↓x_c, ↓x_1, ↓x_B, ↓x_and, ↓x_or, ↓x_not, ↓x_andV, ↓x_orV, ↓x_notV, ↓x_if, ↓x_ifS, ↓x_ret, ↓x_lst, ↓x_tup, ↓x_acons, ↓x_anil, ↓x_aug, ↓y_setIx, ↓x_call, ↓x_callT, ↓x_callK, ↓x_callD, ↓x_chain, ↓x_sl, ↓x_oS, ↓x_oN, ↓x_rep, ↓y_store, ↓x_app, ↓y_popAt, ↓y_insert, ↓y_ext, ↓x_strM, ↓x_listM, ↓x_isi, ↓y_LE, ↓x_yes, ↓y_iList, ↓y_iTup, ↓x_iStr, ↓y_iEnum, ↓x_iRange1, ↓x_iRange2, ↓x_for, ↓x_while, ↓x_lc, ↓y_rev, ↓x_pNil, ↓x_pCons, ↓x_dict, ↓x_dict0, ↓x_dget, cs_t, cs_f, ex_s, sh1, get_fz, get_ow, get_br, brD_ow, brD_fz, fzd_fz, fzd_ow, fzd_br, jO_un, jO_fz, jO_ow, jO_no, intF_i, intF0_i, addF_i, addF_s, addF_l, addF_t, mulF, mulSF_s, ne0F_l, subF, fdivF, modF, powF, ltF_i, ltF_s, leF, gtF, geF, absF_i, maxF, minF, lenF_l, lenF_t, lenF_s, toIntF_i, toIntF_b, toListF_l, toListF_t, toTupF_l, toTupF_t, negF_i, cutF_l, cutF_t, cutF_s, isF_bb, isF_nn, isF_ln, isF_sn, isF_in, isF_tn, List.map_cons, List.map_nil, List.cons_append, List.nil_append, List.replicate, List.getElem?_cons_zero, List.getElem?_cons_succ, List.set_cons_zero, List.set_cons_succ, List.length_cons, List.length_nil, if_true, if_false, Bool.false_eq_true, true_and, and_true, reduceCtorEq, ixF_0, ixF_1, ixF_2, ixF_t0, ixF_t1, ixF_t2, ixn0, ixn1, eqF_s, eqF_i, neF_s, neF_i, eqF_l, eqF_t, neF_l, Option.some.injEq, G.E.ow.injEq, exists_eq_left', exists_eq_left, exists_eq', exists_const, and_self, ne_eq, not_false_eq_true, decide_true, decide_false, Bool.not_true, Bool.not_false, restE, wipeE, List.getD_eq_getElem?_getD, Option.getD_some, eqF_bb, neF_bb, ↓y_iRev, ↓x_sset, ↓x_lset, sortF_e, t3_f, t4_f, gtup3, gtup4, ixT3_0, ixT3_1, ixT3_2, ↓x_callB, ↓x_frz, ↓x_rnil, ↓x_rcons, argsD_n, argsD_c, consO_s, argD_f, argD_b, argB_l, argB_e, argB_f, noLR_e, noLR_t, noLR_a, noLR_i, noLR_b, noLR_s, noLR_n, ↓x_pop, eL_drop, eL_i1, ↓x_callN, isOw_o, ex_bd, en_epf, en_epb, ixFa_0, ixFa_1f, ixFa_1b, fs_a, fs_u, fs_f, fs_b, t3_i, t3_o, t3_c, t2_n, t3_n, ne0F_e, isF_fate, not_true_eq_false, Int.reduceSub, Int.reduceAdd, isL_l, isL_e, isT_t, isT_e, isOL_l, isOL_e, isL1_c, isInt_i, isSome_s, isOwL_l, isOwL_e, en_int, en_nat, en_bool, en_str, en_list, eL_1, eL_2, eL_3, eL_snoc, eL_snoc2, eL_app, eL_LL, eL_LL2, eL_LLs, addF_e, addF_t', addF_n, addF_n', lenF_e, lenF_e', toListF_e, toListF_e', toTupF_e, toTupF_e', cutF_e, cutF_e', cm_keep_skip, cm_keep_front, cm_keep_back, cm_front_skip, cm_front_front, cm_front_back, cm_back_skip, cm_back_front, cm_back_back, cm_remove_skip, cm_remove_front, cm_remove_back, nl0, nl1, nl2, nl3, nl4, nl5, nl6, nl7, nl8, nl9, nl10, nl11, nl12, Int.reduceEq, Int.reduceLT, Int.reduceLE, nat1c, natc1, natc2, natcA, cutA_btw, cutA_to, cutA_from, cutA_all, ixF_e0, ixF_e1, ixP_0, ixP_1, gtupP, pair_f, isF_Ln, isF_Tn, eqF_e, neF_e, inF_e, eqF_n, eqF_n', eqF_eL, neF_eL, eqF_eT, inF_nm, eL_pairs, pairs_e, rngD_e, eL_rev, eL_set, eL_erase, eL_ins, eL_ins', get_m, idx_len, sl0, sl1, sl2, sl3, sl4, sl5, sl6, sl7, sl8, sl9, sl10, sl11, sl12, en_keep, en_front, en_back, en_remove, en_skip, en_ofront, en_oback, en_inn, en_out, en_both, eqF_inn, eqF_out, eqF_both, neF_inn, neF_out, ixC_0, ixC_1, ixC_2, lenC, ixO_0, ixO_1, ixO_2, gtupC, gtupO, fate_a, fate_u, fate_f, fate_b, ent_i, ent_o, ent_b, inT_1, inT_2, inT_3, ofS, String.reduceEq, Bool.or_true, Bool.true_or, Bool.or_false, Bool.false_or, eq_self, ↓x_kill, ↓x_killN, ↓x_join, dropE_n, dropE_c, drop1_un, drop1_fz, drop1_ow, drop1_ot, Int.toNat_natCast, List.length_map, Option.map_some, Option.map_none]
    refine script_n ht hyne (by omega) (by omega) fun sc t hsl hsn ht => ?_
    have hrl := runs_le (p := q) (cs := sc)
    simp -dsimp only [↓x_seq, ↓x_next, ↓x_drop, ↓x_set, ↓x_setO, ↓x_name, ↓x_gnil, ↓x_gcons, ↓x_gtup, ↓x_bin, ↓x_var, ↓x_varF, ↓x_c, ↓x_1, ↓x_B, ↓x_and, ↓x_or, ↓x_not, ↓x_andV, ↓x_orV, ↓x_notV, ↓x_if, ↓x_ifS, ↓x_ret, ↓x_lst, ↓x_tup, ↓x_acons, ↓x_anil, ↓x_aug, ↓y_setIx, ↓x_call, ↓x_callT, ↓x_callK, ↓x_callD, ↓x_chain, ↓x_sl, ↓x_oS, ↓x_oN, ↓x_rep, ↓y_store, ↓x_app, ↓y_popAt, ↓y_insert, ↓y_ext, ↓x_strM, ↓x_listM, ↓x_isi, ↓y_LE, ↓x_yes, ↓y_iList, ↓y_iTup, ↓x_iStr, ↓y_iEnum, ↓x_iRange1, ↓x_iRange2, ↓x_for, ↓x_while, ↓x_lc, ↓y_rev, ↓x_pNil, ↓x_pCons, ↓x_dict, ↓x_dict0, ↓x_dget, cs_t, cs_f, ex_s, sh1, get_fz, get_ow, get_br, brD_ow, brD_fz, fzd_fz, fzd_ow, fzd_br, jO_un, jO_fz, jO_ow, jO_no, intF_i, intF0_i, addF_i, addF_s, addF_l, addF_t, mulF, mulSF_s, ne0F_l, subF, fdivF, modF, powF, ltF_i, ltF_s, leF, gtF, geF, absF_i, maxF, minF, lenF_l, lenF_t, lenF_s, toIntF_i, toIntF_b, toListF_l, toListF_t, toTupF_l, toTupF_t, negF_i, cutF_l, cutF_t, cutF_s, isF_bb, isF_nn, isF_ln, isF_sn, isF_in, isF_tn, List.map_cons, List.map_nil, List.cons_append, List.nil_append, List.replicate, List.getElem?_cons_zero, List.getElem?_cons_succ, List.set_cons_zero, List.set_cons_succ, List.length_cons, List.length_nil, if_true, if_false, Bool.false_eq_true, true_and, and_true, reduceCtorEq, ixF_0, ixF_1, ixF_2, ixF_t0, ixF_t1, ixF_t2, ixn0, ixn1, eqF_s, eqF_i, neF_s, neF_i, eqF_l, eqF_t, neF_l, Option.some.injEq, G.E.ow.injEq, exists_eq_left', exists_eq_left, exists_eq', exists_const, and_self, ne_eq, not_false_eq_true, decide_true, decide_false, Bool.not_true, Bool.not_false, restE, wipeE, List.getD_eq_getElem?_getD, Option.getD_some, eqF_bb, neF_bb, ↓y_iRev, ↓x_sset, ↓x_lset, sortF_e, t3_f, t4_f, gtup3, gtup4, ixT3_0, ixT3_1, ixT3_2, ↓x_callB, ↓x_frz, ↓x_rnil, ↓x_rcons, argsD_n, argsD_c, consO_s, argD_f, argD_b, argB_l, argB_e, argB_f, noLR_e, noLR_t, noLR_a, noLR_i, noLR_b, noLR_s, noLR_n, ↓x_pop, eL_drop, eL_i1, ↓x_callN, isOw_o, ex_bd, en_epf, en_epb, ixFa_0, ixFa_1f, ixFa_1b, fs_a, fs_u, fs_f, fs_b, t3_i, t3_o, t3_c, t2_n, t3_n, ne0F_e, isF_fate, not_true_eq_false, Int.reduceSub, Int.reduceAdd, isL_l, isL_e, isT_t, isT_e, isOL_l, isOL_e, isL1_c, isInt_i, isSome_s, isOwL_l, isOwL_e, en_int, en_nat, en_bool, en_str, en_list, eL_1, eL_2, eL_3, eL_snoc, eL_snoc2, eL_app, eL_LL, eL_LL2, eL_LLs, addF_e, addF_t', addF_n, addF_n', lenF_e, lenF_e', toListF_e, toListF_e', toTupF_e, toTupF_e', cutF_e, cutF_e', cm_keep_skip, cm_keep_front, cm_keep_back, cm_front_skip, cm_front_front, cm_front_back, cm_back_skip, cm_back_front, cm_back_back, cm_remove_skip, cm_remove_front, cm_remove_back, nl0, nl1, nl2, nl3, nl4, nl5, nl6, nl7, nl8, nl9, nl10, nl11, nl12, Int.reduceEq, Int.reduceLT, Int.reduceLE, nat1c, natc1, natc2, natcA, cutA_btw, cutA_to, cutA_from, cutA_all, ixF_e0, ixF_e1, ixP_0, ixP_1, gtupP, pair_f, isF_Ln, isF_Tn, eqF_e, neF_e, inF_e, eqF_n, eqF_n', eqF_eL, neF_eL, eqF_eT, inF_nm, eL_pairs, pairs_e, rngD_e, eL_rev, eL_set, eL_erase, eL_ins, eL_ins', get_m, idx_len, sl0, sl1, sl2, sl3, sl4, sl5, sl6, sl7, sl8, sl9, sl10, sl11, sl12, en_keep, en_front, en_back, en_remove, en_skip, en_ofront, en_oback, en_inn, en_out, en_both, eqF_inn, eqF_out, eqF_both, neF_inn, neF_out, ixC_0, ixC_1, ixC_2, lenC, ixO_0, ixO_1, ixO_2, gtupC, gtupO, fate_a, fate_u, fate_f, fate_b, ent_i, ent_o, ent_b, inT_1, inT_2, inT_3, ofS, String.reduceEq, Bool.or_true, Bool.true_or, Bool.or_false, Bool.false_or, eq_self, ↓x_kill, ↓x_killN, ↓x_join, dropE_n, dropE_c, drop1_un, drop1_fz, drop1_ow, drop1_ot, Int.toNat_natCast, List.length_map, Option.map_some, Option.map_none]
    refine lrun_n (by omega) ?_
    simp -dsimp only [↓x_seq, ↓x_next, ↓x_drop, ↓x_set, ↓x_setO, ↓x_name, ↓x_gnil, ↓x_gcons, ↓x_gtup, ↓x_bin, ↓x_var, ↓x_varF, ↓x_c, ↓x_1, ↓x_B, ↓x_and, ↓x_or, ↓x_not, ↓x_andV, ↓x_orV, ↓x_notV, ↓x_if, ↓x_ifS, ↓x_ret, ↓x_lst, ↓x_tup, ↓x_acons, ↓x_anil, ↓x_aug, ↓y_setIx, ↓x_call, ↓x_callT, ↓x_callK, ↓x_callD, ↓x_chain, ↓x_sl, ↓x_oS, ↓x_oN, ↓x_rep, ↓y_store, ↓x_app, ↓y_popAt, ↓y_insert, ↓y_ext, ↓x_strM, ↓x_listM, ↓x_isi, ↓y_LE, ↓x_yes, ↓y_iList, ↓y_iTup, ↓x_iStr, ↓y_iEnum, ↓x_iRange1, ↓x_iRange2, ↓x_for, ↓x_while, ↓x_lc, ↓y_rev, ↓x_pNil, ↓x_pCons, ↓x_dict, ↓x_dict0, ↓x_dget, cs_t, cs_f, ex_s, sh1, get_fz, get_ow, get_br, brD_ow, brD_fz, fzd_fz, fzd_ow, fzd_br, jO_un, jO_fz, jO_ow, jO_no, intF_i, intF0_i, addF_i, addF_s, addF_l, addF_t, mulF, mulSF_s, ne0F_l, subF, fdivF, modF, powF, ltF_i, ltF_s, leF, gtF, geF, absF_i, maxF, minF, lenF_l, lenF_t, lenF_s, toIntF_i, toIntF_b, toListF_l, toListF_t, toTupF_l, toTupF_t, negF_i, cutF_l, cutF_t, cutF_s, isF_bb, isF_nn, isF_ln, isF_sn, isF_in, isF_tn, List.map_cons, List.map_nil, List.cons_append, List.nil_append, List.replicate, List.getElem?_cons_zero, List.getElem?_cons_succ, List.set_cons_zero, List.set_cons_succ, List.length_cons, List.length_nil, if_true, if_false, Bool.false_eq_true, true_and, and_true, reduceCtorEq, ixF_0, ixF_1, ixF_2, ixF_t0, ixF_t1, ixF_t2, ixn0, ixn1, eqF_s, eqF_i, neF_s, neF_i, eqF_l, eqF_t, neF_l, Option.some.injEq, G.E.ow.injEq, exists_eq_left', exists_eq_left, exists_eq', exists_const, and_self, ne_eq, not_false_eq_true, decide_true, decide_false, Bool.not_true, Bool.not_false, restE, wipeE, List.getD_eq_getElem?_getD, Option.getD_some, eqF_bb, neF_bb, ↓y_iRev, ↓x_sset, ↓x_lset, sortF_e, t3_f, t4_f, gtup3, gtup4, ixT3_0, ixT3_1, ixT3_2, ↓x_callB, ↓x_frz, ↓x_rnil, ↓x_rcons, argsD_n, argsD_c, consO_s, argD_f, argD_b, argB_l, argB_e, argB_f, noLR_e, noLR_t, noLR_a, noLR_i, noLR_b, noLR_s, noLR_n, ↓x_pop, eL_drop, eL_i1, ↓x_callN, isOw_o, ex_bd, en_epf, en_epb, ixFa_0, ixFa_1f, ixFa_1b, fs_a, fs_u, fs_f, fs_b, t3_i, t3_o, t3_c, t2_n, t3_n, ne0F_e, isF_fate, not_true_eq_false, Int.reduceSub, Int.reduceAdd, isL_l, isL_e, isT_t, isT_e, isOL_l, isOL_e, isL1_c, isInt_i, isSome_s, isOwL_l, isOwL_e, en_int, en_nat, en_bool, en_str, en_list, eL_1, eL_2, eL_3, eL_snoc, eL_snoc2, eL_app, eL_LL, eL_LL2, eL_LLs, addF_e, addF_t', addF_n, addF_n', lenF_e, lenF_e', toListF_e, toListF_e', toTupF_e, toTupF_e', cutF_e, cutF_e', cm_keep_skip, cm_keep_front, cm_keep_back, cm_front_skip, cm_front_front, cm_front_back, cm_back_skip, cm_back_front, cm_back_back, cm_remove_skip, cm_remove_front, cm_remove_back, nl0, nl1, nl2, nl3, nl4, nl5, nl6, nl7, nl8, nl9, nl10, nl11, nl12, Int.reduceEq, Int.reduceLT, Int.reduceLE, nat1c, natc1, natc2, natcA, cutA_btw, cutA_to, cutA_from, cutA_all, ixF_e0, ixF_e1, ixP_0, ixP_1, gtupP, pair_f, isF_Ln, isF_Tn, eqF_e, neF_e, inF_e, eqF_n, eqF_n', eqF_eL, neF_eL, eqF_eT, inF_nm, eL_pairs, pairs_e, rngD_e, eL_rev, eL_set, eL_erase, eL_ins, eL_ins', get_m, idx_len, sl0, sl1, sl2, sl3, sl4, sl5, sl6, sl7, sl8, sl9, sl10, sl11, sl12, en_keep, en_front, en_back, en_remove, en_skip, en_ofront, en_oback, en_inn, en_out, en_both, eqF_inn, eqF_out, eqF_both, neF_inn, neF_out, ixC_0, ixC_1, ixC_2, lenC, ixO_0, ixO_1, ixO_2, gtupC, gtupO, fate_a, fate_u, fate_f, fate_b, ent_i, ent_o, ent_b, inT_1, inT_2, inT_3, ofS, String.reduceEq, Bool.or_true, Bool.true_or, Bool.or_false, Bool.false_or, eq_self, ↓x_kill, ↓x_killN, ↓x_join, dropE_n, dropE_c, drop1_un, drop1_fz, drop1_ow, drop1_ot, Int.toNat_natCast, List.length_map, Option.map_some, Option.map_none]
    refine least_n hqd (runs_nodup hqd) (by omega) (by omega) fun b e hB => ?_
    have hle := least_le hqd hB rfl
    generalize (routeOf q (runs q sc) b e).length = v at hle
    simp -dsimp only [↓x_seq, ↓x_next, ↓x_drop, ↓x_set, ↓x_setO, ↓x_name, ↓x_gnil, ↓x_gcons, ↓x_gtup, ↓x_bin, ↓x_var, ↓x_varF, ↓x_c, ↓x_1, ↓x_B, ↓x_and, ↓x_or, ↓x_not, ↓x_andV, ↓x_orV, ↓x_notV, ↓x_if, ↓x_ifS, ↓x_ret, ↓x_lst, ↓x_tup, ↓x_acons, ↓x_anil, ↓x_aug, ↓y_setIx, ↓x_call, ↓x_callT, ↓x_callK, ↓x_callD, ↓x_chain, ↓x_sl, ↓x_oS, ↓x_oN, ↓x_rep, ↓y_store, ↓x_app, ↓y_popAt, ↓y_insert, ↓y_ext, ↓x_strM, ↓x_listM, ↓x_isi, ↓y_LE, ↓x_yes, ↓y_iList, ↓y_iTup, ↓x_iStr, ↓y_iEnum, ↓x_iRange1, ↓x_iRange2, ↓x_for, ↓x_while, ↓x_lc, ↓y_rev, ↓x_pNil, ↓x_pCons, ↓x_dict, ↓x_dict0, ↓x_dget, cs_t, cs_f, ex_s, sh1, get_fz, get_ow, get_br, brD_ow, brD_fz, fzd_fz, fzd_ow, fzd_br, jO_un, jO_fz, jO_ow, jO_no, intF_i, intF0_i, addF_i, addF_s, addF_l, addF_t, mulF, mulSF_s, ne0F_l, subF, fdivF, modF, powF, ltF_i, ltF_s, leF, gtF, geF, absF_i, maxF, minF, lenF_l, lenF_t, lenF_s, toIntF_i, toIntF_b, toListF_l, toListF_t, toTupF_l, toTupF_t, negF_i, cutF_l, cutF_t, cutF_s, isF_bb, isF_nn, isF_ln, isF_sn, isF_in, isF_tn, List.map_cons, List.map_nil, List.cons_append, List.nil_append, List.replicate, List.getElem?_cons_zero, List.getElem?_cons_succ, List.set_cons_zero, List.set_cons_succ, List.length_cons, List.length_nil, if_true, if_false, Bool.false_eq_true, true_and, and_true, reduceCtorEq, ixF_0, ixF_1, ixF_2, ixF_t0, ixF_t1, ixF_t2, ixn0, ixn1, eqF_s, eqF_i, neF_s, neF_i, eqF_l, eqF_t, neF_l, Option.some.injEq, G.E.ow.injEq, exists_eq_left', exists_eq_left, exists_eq', exists_const, and_self, ne_eq, not_false_eq_true, decide_true, decide_false, Bool.not_true, Bool.not_false, restE, wipeE, List.getD_eq_getElem?_getD, Option.getD_some, eqF_bb, neF_bb, ↓y_iRev, ↓x_sset, ↓x_lset, sortF_e, t3_f, t4_f, gtup3, gtup4, ixT3_0, ixT3_1, ixT3_2, ↓x_callB, ↓x_frz, ↓x_rnil, ↓x_rcons, argsD_n, argsD_c, consO_s, argD_f, argD_b, argB_l, argB_e, argB_f, noLR_e, noLR_t, noLR_a, noLR_i, noLR_b, noLR_s, noLR_n, ↓x_pop, eL_drop, eL_i1, ↓x_callN, isOw_o, ex_bd, en_epf, en_epb, ixFa_0, ixFa_1f, ixFa_1b, fs_a, fs_u, fs_f, fs_b, t3_i, t3_o, t3_c, t2_n, t3_n, ne0F_e, isF_fate, not_true_eq_false, Int.reduceSub, Int.reduceAdd, isL_l, isL_e, isT_t, isT_e, isOL_l, isOL_e, isL1_c, isInt_i, isSome_s, isOwL_l, isOwL_e, en_int, en_nat, en_bool, en_str, en_list, eL_1, eL_2, eL_3, eL_snoc, eL_snoc2, eL_app, eL_LL, eL_LL2, eL_LLs, addF_e, addF_t', addF_n, addF_n', lenF_e, lenF_e', toListF_e, toListF_e', toTupF_e, toTupF_e', cutF_e, cutF_e', cm_keep_skip, cm_keep_front, cm_keep_back, cm_front_skip, cm_front_front, cm_front_back, cm_back_skip, cm_back_front, cm_back_back, cm_remove_skip, cm_remove_front, cm_remove_back, nl0, nl1, nl2, nl3, nl4, nl5, nl6, nl7, nl8, nl9, nl10, nl11, nl12, Int.reduceEq, Int.reduceLT, Int.reduceLE, nat1c, natc1, natc2, natcA, cutA_btw, cutA_to, cutA_from, cutA_all, ixF_e0, ixF_e1, ixP_0, ixP_1, gtupP, pair_f, isF_Ln, isF_Tn, eqF_e, neF_e, inF_e, eqF_n, eqF_n', eqF_eL, neF_eL, eqF_eT, inF_nm, eL_pairs, pairs_e, rngD_e, eL_rev, eL_set, eL_erase, eL_ins, eL_ins', get_m, idx_len, sl0, sl1, sl2, sl3, sl4, sl5, sl6, sl7, sl8, sl9, sl10, sl11, sl12, en_keep, en_front, en_back, en_remove, en_skip, en_ofront, en_oback, en_inn, en_out, en_both, eqF_inn, eqF_out, eqF_both, neF_inn, neF_out, ixC_0, ixC_1, ixC_2, lenC, ixO_0, ixO_1, ixO_2, gtupC, gtupO, fate_a, fate_u, fate_f, fate_b, ent_i, ent_o, ent_b, inT_1, inT_2, inT_3, ofS, String.reduceEq, Bool.or_true, Bool.true_or, Bool.or_false, Bool.false_or, eq_self, ↓x_kill, ↓x_killN, ↓x_join, dropE_n, dropE_c, drop1_un, drop1_fz, drop1_ow, drop1_ot, Int.toNat_natCast, List.length_map, Option.map_some, Option.map_none]
    refine ex_i (x := true) rfl ?_
    simp -dsimp only [↓x_seq, ↓x_next, ↓x_drop, ↓x_set, ↓x_setO, ↓x_name, ↓x_gnil, ↓x_gcons, ↓x_gtup, ↓x_bin, ↓x_var, ↓x_varF, ↓x_c, ↓x_1, ↓x_B, ↓x_and, ↓x_or, ↓x_not, ↓x_andV, ↓x_orV, ↓x_notV, ↓x_if, ↓x_ifS, ↓x_ret, ↓x_lst, ↓x_tup, ↓x_acons, ↓x_anil, ↓x_aug, ↓y_setIx, ↓x_call, ↓x_callT, ↓x_callK, ↓x_callD, ↓x_chain, ↓x_sl, ↓x_oS, ↓x_oN, ↓x_rep, ↓y_store, ↓x_app, ↓y_popAt, ↓y_insert, ↓y_ext, ↓x_strM, ↓x_listM, ↓x_isi, ↓y_LE, ↓x_yes, ↓y_iList, ↓y_iTup, ↓x_iStr, ↓y_iEnum, ↓x_iRange1, ↓x_iRange2, ↓x_for, ↓x_while, ↓x_lc, ↓y_rev, ↓x_pNil, ↓x_pCons, ↓x_dict, ↓x_dict0, ↓x_dget, cs_t, cs_f, ex_s, sh1, get_fz, get_ow, get_br, brD_ow, brD_fz, fzd_fz, fzd_ow, fzd_br, jO_un, jO_fz, jO_ow, jO_no, intF_i, intF0_i, addF_i, addF_s, addF_l, addF_t, mulF, mulSF_s, ne0F_l, subF, fdivF, modF, powF, ltF_i, ltF_s, leF, gtF, geF, absF_i, maxF, minF, lenF_l, lenF_t, lenF_s, toIntF_i, toIntF_b, toListF_l, toListF_t, toTupF_l, toTupF_t, negF_i, cutF_l, cutF_t, cutF_s, isF_bb, isF_nn, isF_ln, isF_sn, isF_in, isF_tn, List.map_cons, List.map_nil, List.cons_append, List.nil_append, List.replicate, List.getElem?_cons_zero, List.getElem?_cons_succ, List.set_cons_zero, List.set_cons_succ, List.length_cons, List.length_nil, if_true, if_false, Bool.false_eq_true, true_and, and_true, reduceCtorEq, ixF_0, ixF_1, ixF_2, ixF_t0, ixF_t1, ixF_t2, ixn0, ixn1, eqF_s, eqF_i, neF_s, neF_i, eqF_l, eqF_t, neF_l, Option.some.injEq, G.E.ow.injEq, exists_eq_left', exists_eq_left, exists_eq', exists_const, and_self, ne_eq, not_false_eq_true, decide_true, decide_false, Bool.not_true, Bool.not_false, restE, wipeE, List.getD_eq_getElem?_getD, Option.getD_some, eqF_bb, neF_bb, ↓y_iRev, ↓x_sset, ↓x_lset, sortF_e, t3_f, t4_f, gtup3, gtup4, ixT3_0, ixT3_1, ixT3_2, ↓x_callB, ↓x_frz, ↓x_rnil, ↓x_rcons, argsD_n, argsD_c, consO_s, argD_f, argD_b, argB_l, argB_e, argB_f, noLR_e, noLR_t, noLR_a, noLR_i, noLR_b, noLR_s, noLR_n, ↓x_pop, eL_drop, eL_i1, ↓x_callN, isOw_o, ex_bd, en_epf, en_epb, ixFa_0, ixFa_1f, ixFa_1b, fs_a, fs_u, fs_f, fs_b, t3_i, t3_o, t3_c, t2_n, t3_n, ne0F_e, isF_fate, not_true_eq_false, Int.reduceSub, Int.reduceAdd, isL_l, isL_e, isT_t, isT_e, isOL_l, isOL_e, isL1_c, isInt_i, isSome_s, isOwL_l, isOwL_e, en_int, en_nat, en_bool, en_str, en_list, eL_1, eL_2, eL_3, eL_snoc, eL_snoc2, eL_app, eL_LL, eL_LL2, eL_LLs, addF_e, addF_t', addF_n, addF_n', lenF_e, lenF_e', toListF_e, toListF_e', toTupF_e, toTupF_e', cutF_e, cutF_e', cm_keep_skip, cm_keep_front, cm_keep_back, cm_front_skip, cm_front_front, cm_front_back, cm_back_skip, cm_back_front, cm_back_back, cm_remove_skip, cm_remove_front, cm_remove_back, nl0, nl1, nl2, nl3, nl4, nl5, nl6, nl7, nl8, nl9, nl10, nl11, nl12, Int.reduceEq, Int.reduceLT, Int.reduceLE, nat1c, natc1, natc2, natcA, cutA_btw, cutA_to, cutA_from, cutA_all, ixF_e0, ixF_e1, ixP_0, ixP_1, gtupP, pair_f, isF_Ln, isF_Tn, eqF_e, neF_e, inF_e, eqF_n, eqF_n', eqF_eL, neF_eL, eqF_eT, inF_nm, eL_pairs, pairs_e, rngD_e, eL_rev, eL_set, eL_erase, eL_ins, eL_ins', get_m, idx_len, sl0, sl1, sl2, sl3, sl4, sl5, sl6, sl7, sl8, sl9, sl10, sl11, sl12, en_keep, en_front, en_back, en_remove, en_skip, en_ofront, en_oback, en_inn, en_out, en_both, eqF_inn, eqF_out, eqF_both, neF_inn, neF_out, ixC_0, ixC_1, ixC_2, lenC, ixO_0, ixO_1, ixO_2, gtupC, gtupO, fate_a, fate_u, fate_f, fate_b, ent_i, ent_o, ent_b, inT_1, inT_2, inT_3, ofS, String.reduceEq, Bool.or_true, Bool.true_or, Bool.or_false, Bool.false_or, eq_self, ↓x_kill, ↓x_killN, ↓x_join, dropE_n, dropE_c, drop1_un, drop1_fz, drop1_ow, drop1_ot, Int.toNat_natCast, List.length_map, Option.map_some, Option.map_none]
    refine ex_i (x := false) rfl ?_
    simp -dsimp only [↓x_seq, ↓x_next, ↓x_drop, ↓x_set, ↓x_setO, ↓x_name, ↓x_gnil, ↓x_gcons, ↓x_gtup, ↓x_bin, ↓x_var, ↓x_varF, ↓x_c, ↓x_1, ↓x_B, ↓x_and, ↓x_or, ↓x_not, ↓x_andV, ↓x_orV, ↓x_notV, ↓x_if, ↓x_ifS, ↓x_ret, ↓x_lst, ↓x_tup, ↓x_acons, ↓x_anil, ↓x_aug, ↓y_setIx, ↓x_call, ↓x_callT, ↓x_callK, ↓x_callD, ↓x_chain, ↓x_sl, ↓x_oS, ↓x_oN, ↓x_rep, ↓y_store, ↓x_app, ↓y_popAt, ↓y_insert, ↓y_ext, ↓x_strM, ↓x_listM, ↓x_isi, ↓y_LE, ↓x_yes, ↓y_iList, ↓y_iTup, ↓x_iStr, ↓y_iEnum, ↓x_iRange1, ↓x_iRange2, ↓x_for, ↓x_while, ↓x_lc, ↓y_rev, ↓x_pNil, ↓x_pCons, ↓x_dict, ↓x_dict0, ↓x_dget, cs_t, cs_f, ex_s, sh1, get_fz, get_ow, get_br, brD_ow, brD_fz, fzd_fz, fzd_ow, fzd_br, jO_un, jO_fz, jO_ow, jO_no, intF_i, intF0_i, addF_i, addF_s, addF_l, addF_t, mulF, mulSF_s, ne0F_l, subF, fdivF, modF, powF, ltF_i, ltF_s, leF, gtF, geF, absF_i, maxF, minF, lenF_l, lenF_t, lenF_s, toIntF_i, toIntF_b, toListF_l, toListF_t, toTupF_l, toTupF_t, negF_i, cutF_l, cutF_t, cutF_s, isF_bb, isF_nn, isF_ln, isF_sn, isF_in, isF_tn, List.map_cons, List.map_nil, List.cons_append, List.nil_append, List.replicate, List.getElem?_cons_zero, List.getElem?_cons_succ, List.set_cons_zero, List.set_cons_succ, List.length_cons, List.length_nil, if_true, if_false, Bool.false_eq_true, true_and, and_true, reduceCtorEq, ixF_0, ixF_1, ixF_2, ixF_t0, ixF_t1, ixF_t2, ixn0, ixn1, eqF_s, eqF_i, neF_s, neF_i, eqF_l, eqF_t, neF_l, Option.some.injEq, G.E.ow.injEq, exists_eq_left', exists_eq_left, exists_eq', exists_const, and_self, ne_eq, not_false_eq_true, decide_true, decide_false, Bool.not_true, Bool.not_false, restE, wipeE, List.getD_eq_getElem?_getD, Option.getD_some, eqF_bb, neF_bb, ↓y_iRev, ↓x_sset, ↓x_lset, sortF_e, t3_f, t4_f, gtup3, gtup4, ixT3_0, ixT3_1, ixT3_2, ↓x_callB, ↓x_frz, ↓x_rnil, ↓x_rcons, argsD_n, argsD_c, consO_s, argD_f, argD_b, argB_l, argB_e, argB_f, noLR_e, noLR_t, noLR_a, noLR_i, noLR_b, noLR_s, noLR_n, ↓x_pop, eL_drop, eL_i1, ↓x_callN, isOw_o, ex_bd, en_epf, en_epb, ixFa_0, ixFa_1f, ixFa_1b, fs_a, fs_u, fs_f, fs_b, t3_i, t3_o, t3_c, t2_n, t3_n, ne0F_e, isF_fate, not_true_eq_false, Int.reduceSub, Int.reduceAdd, isL_l, isL_e, isT_t, isT_e, isOL_l, isOL_e, isL1_c, isInt_i, isSome_s, isOwL_l, isOwL_e, en_int, en_nat, en_bool, en_str, en_list, eL_1, eL_2, eL_3, eL_snoc, eL_snoc2, eL_app, eL_LL, eL_LL2, eL_LLs, addF_e, addF_t', addF_n, addF_n', lenF_e, lenF_e', toListF_e, toListF_e', toTupF_e, toTupF_e', cutF_e, cutF_e', cm_keep_skip, cm_keep_front, cm_keep_back, cm_front_skip, cm_front_front, cm_front_back, cm_back_skip, cm_back_front, cm_back_back, cm_remove_skip, cm_remove_front, cm_remove_back, nl0, nl1, nl2, nl3, nl4, nl5, nl6, nl7, nl8, nl9, nl10, nl11, nl12, Int.reduceEq, Int.reduceLT, Int.reduceLE, nat1c, natc1, natc2, natcA, cutA_btw, cutA_to, cutA_from, cutA_all, ixF_e0, ixF_e1, ixP_0, ixP_1, gtupP, pair_f, isF_Ln, isF_Tn, eqF_e, neF_e, inF_e, eqF_n, eqF_n', eqF_eL, neF_eL, eqF_eT, inF_nm, eL_pairs, pairs_e, rngD_e, eL_rev, eL_set, eL_erase, eL_ins, eL_ins', get_m, idx_len, sl0, sl1, sl2, sl3, sl4, sl5, sl6, sl7, sl8, sl9, sl10, sl11, sl12, en_keep, en_front, en_back, en_remove, en_skip, en_ofront, en_oback, en_inn, en_out, en_both, eqF_inn, eqF_out, eqF_both, neF_inn, neF_out, ixC_0, ixC_1, ixC_2, lenC, ixO_0, ixO_1, ixO_2, gtupC, gtupO, fate_a, fate_u, fate_f, fate_b, ent_i, ent_o, ent_b, inT_1, inT_2, inT_3, ofS, String.reduceEq, Bool.or_true, Bool.true_or, Bool.or_false, Bool.false_or, eq_self, ↓x_kill, ↓x_killN, ↓x_join, dropE_n, dropE_c, drop1_un, drop1_fz, drop1_ow, drop1_ot, Int.toNat_natCast, List.length_map, Option.map_some, Option.map_none]
    refine cs_i (fun _ => ?_) fun h => absurd h (by omega)
    simp -dsimp only [↓x_seq, ↓x_next, ↓x_drop, ↓x_set, ↓x_setO, ↓x_name, ↓x_gnil, ↓x_gcons, ↓x_gtup, ↓x_bin, ↓x_var, ↓x_varF, ↓x_c, ↓x_1, ↓x_B, ↓x_and, ↓x_or, ↓x_not, ↓x_andV, ↓x_orV, ↓x_notV, ↓x_if, ↓x_ifS, ↓x_ret, ↓x_lst, ↓x_tup, ↓x_acons, ↓x_anil, ↓x_aug, ↓y_setIx, ↓x_call, ↓x_callT, ↓x_callK, ↓x_callD, ↓x_chain, ↓x_sl, ↓x_oS, ↓x_oN, ↓x_rep, ↓y_store, ↓x_app, ↓y_popAt, ↓y_insert, ↓y_ext, ↓x_strM, ↓x_listM, ↓x_isi, ↓y_LE, ↓x_yes, ↓y_iList, ↓y_iTup, ↓x_iStr, ↓y_iEnum, ↓x_iRange1, ↓x_iRange2, ↓x_for, ↓x_while, ↓x_lc, ↓y_rev, ↓x_pNil, ↓x_pCons, ↓x_dict, ↓x_dict0, ↓x_dget, cs_t, cs_f, ex_s, sh1, get_fz, get_ow, get_br, brD_ow, brD_fz, fzd_fz, fzd_ow, fzd_br, jO_un, jO_fz, jO_ow, jO_no, intF_i, intF0_i, addF_i, addF_s, addF_l, addF_t, mulF, mulSF_s, ne0F_l, subF, fdivF, modF, powF, ltF_i, ltF_s, leF, gtF, geF, absF_i, maxF, minF, lenF_l, lenF_t, lenF_s, toIntF_i, toIntF_b, toListF_l, toListF_t, toTupF_l, toTupF_t, negF_i, cutF_l, cutF_t, cutF_s, isF_bb, isF_nn, isF_ln, isF_sn, isF_in, isF_tn, List.map_cons, List.map_nil, List.cons_append, List.nil_append, List.replicate, List.getElem?_cons_zero, List.getElem?_cons_succ, List.set_cons_zero, List.set_cons_succ, List.length_cons, List.length_nil, if_true, if_false, Bool.false_eq_true, true_and, and_true, reduceCtorEq, ixF_0, ixF_1, ixF_2, ixF_t0, ixF_t1, ixF_t2, ixn0, ixn1, eqF_s, eqF_i, neF_s, neF_i, eqF_l, eqF_t, neF_l, Option.some.injEq, G.E.ow.injEq, exists_eq_left', exists_eq_left, exists_eq', exists_const, and_self, ne_eq, not_false_eq_true, decide_true, decide_false, Bool.not_true, Bool.not_false, restE, wipeE, List.getD_eq_getElem?_getD, Option.getD_some, eqF_bb, neF_bb, ↓y_iRev, ↓x_sset, ↓x_lset, sortF_e, t3_f, t4_f, gtup3, gtup4, ixT3_0, ixT3_1, ixT3_2, ↓x_callB, ↓x_frz, ↓x_rnil, ↓x_rcons, argsD_n, argsD_c, consO_s, argD_f, argD_b, argB_l, argB_e, argB_f, noLR_e, noLR_t, noLR_a, noLR_i, noLR_b, noLR_s, noLR_n, ↓x_pop, eL_drop, eL_i1, ↓x_callN, isOw_o, ex_bd, en_epf, en_epb, ixFa_0, ixFa_1f, ixFa_1b, fs_a, fs_u, fs_f, fs_b, t3_i, t3_o, t3_c, t2_n, t3_n, ne0F_e, isF_fate, not_true_eq_false, Int.reduceSub, Int.reduceAdd, isL_l, isL_e, isT_t, isT_e, isOL_l, isOL_e, isL1_c, isInt_i, isSome_s, isOwL_l, isOwL_e, en_int, en_nat, en_bool, en_str, en_list, eL_1, eL_2, eL_3, eL_snoc, eL_snoc2, eL_app, eL_LL, eL_LL2, eL_LLs, addF_e, addF_t', addF_n, addF_n', lenF_e, lenF_e', toListF_e, toListF_e', toTupF_e, toTupF_e', cutF_e, cutF_e', cm_keep_skip, cm_keep_front, cm_keep_back, cm_front_skip, cm_front_front, cm_front_back, cm_back_skip, cm_back_front, cm_back_back, cm_remove_skip, cm_remove_front, cm_remove_back, nl0, nl1, nl2, nl3, nl4, nl5, nl6, nl7, nl8, nl9, nl10, nl11, nl12, Int.reduceEq, Int.reduceLT, Int.reduceLE, nat1c, natc1, natc2, natcA, cutA_btw, cutA_to, cutA_from, cutA_all, ixF_e0, ixF_e1, ixP_0, ixP_1, gtupP, pair_f, isF_Ln, isF_Tn, eqF_e, neF_e, inF_e, eqF_n, eqF_n', eqF_eL, neF_eL, eqF_eT, inF_nm, eL_pairs, pairs_e, rngD_e, eL_rev, eL_set, eL_erase, eL_ins, eL_ins', get_m, idx_len, sl0, sl1, sl2, sl3, sl4, sl5, sl6, sl7, sl8, sl9, sl10, sl11, sl12, en_keep, en_front, en_back, en_remove, en_skip, en_ofront, en_oback, en_inn, en_out, en_both, eqF_inn, eqF_out, eqF_both, neF_inn, neF_out, ixC_0, ixC_1, ixC_2, lenC, ixO_0, ixO_1, ixO_2, gtupC, gtupO, fate_a, fate_u, fate_f, fate_b, ent_i, ent_o, ent_b, inT_1, inT_2, inT_3, ofS, String.reduceEq, Bool.or_true, Bool.true_or, Bool.or_false, Bool.false_or, eq_self, ↓x_kill, ↓x_killN, ↓x_join, dropE_n, dropE_c, drop1_un, drop1_fz, drop1_ow, drop1_ot, Int.toNat_natCast, List.length_map, Option.map_some, Option.map_none]
    refine cs_b (fun h => ?_) fun h => ?_
    · have h : ¬ ((v : Int) ≤ (sc.length : Int)) := by simpa using h
      exact absurd h (by omega)
    · simp -dsimp only [↓x_seq, ↓x_next, ↓x_drop, ↓x_set, ↓x_setO, ↓x_name, ↓x_gnil, ↓x_gcons, ↓x_gtup, ↓x_bin, ↓x_var, ↓x_varF, ↓x_c, ↓x_1, ↓x_B, ↓x_and, ↓x_or, ↓x_not, ↓x_andV, ↓x_orV, ↓x_notV, ↓x_if, ↓x_ifS, ↓x_ret, ↓x_lst, ↓x_tup, ↓x_acons, ↓x_anil, ↓x_aug, ↓y_setIx, ↓x_call, ↓x_callT, ↓x_callK, ↓x_callD, ↓x_chain, ↓x_sl, ↓x_oS, ↓x_oN, ↓x_rep, ↓y_store, ↓x_app, ↓y_popAt, ↓y_insert, ↓y_ext, ↓x_strM, ↓x_listM, ↓x_isi, ↓y_LE, ↓x_yes, ↓y_iList, ↓y_iTup, ↓x_iStr, ↓y_iEnum, ↓x_iRange1, ↓x_iRange2, ↓x_for, ↓x_while, ↓x_lc, ↓y_rev, ↓x_pNil, ↓x_pCons, ↓x_dict, ↓x_dict0, ↓x_dget, cs_t, cs_f, ex_s, sh1, get_fz, get_ow, get_br, brD_ow, brD_fz, fzd_fz, fzd_ow, fzd_br, jO_un, jO_fz, jO_ow, jO_no, intF_i, intF0_i, addF_i, addF_s, addF_l, addF_t, mulF, mulSF_s, ne0F_l, subF, fdivF, modF, powF, ltF_i, ltF_s, leF, gtF, geF, absF_i, maxF, minF, lenF_l, lenF_t, lenF_s, toIntF_i, toIntF_b, toListF_l, toListF_t, toTupF_l, toTupF_t, negF_i, cutF_l, cutF_t, cutF_s, isF_bb, isF_nn, isF_ln, isF_sn, isF_in, isF_tn, List.map_cons, List.map_nil, List.cons_append, List.nil_append, List.replicate, List.getElem?_cons_zero, List.getElem?_cons_succ, List.set_cons_zero, List.set_cons_succ, List.length_cons, List.length_nil, if_true, if_false, Bool.false_eq_true, true_and, and_true, reduceCtorEq, ixF_0, ixF_1, ixF_2, ixF_t0, ixF_t1, ixF_t2, ixn0, ixn1, eqF_s, eqF_i, neF_s, neF_i, eqF_l, eqF_t, neF_l, Option.some.injEq, G.E.ow.injEq, exists_eq_left', exists_eq_left, exists_eq', exists_const, and_self, ne_eq, not_false_eq_true, decide_true, decide_false, Bool.not_true, Bool.not_false, restE, wipeE, List.getD_eq_getElem?_getD, Option.getD_some, eqF_bb, neF_bb, ↓y_iRev, ↓x_sset, ↓x_lset, sortF_e, t3_f, t4_f, gtup3, gtup4, ixT3_0, ixT3_1, ixT3_2, ↓x_callB, ↓x_frz, ↓x_rnil, ↓x_rcons, argsD_n, argsD_c, consO_s, argD_f, argD_b, argB_l, argB_e, argB_f, noLR_e, noLR_t, noLR_a, noLR_i, noLR_b, noLR_s, noLR_n, ↓x_pop, eL_drop, eL_i1, ↓x_callN, isOw_o, ex_bd, en_epf, en_epb, ixFa_0, ixFa_1f, ixFa_1b, fs_a, fs_u, fs_f, fs_b, t3_i, t3_o, t3_c, t2_n, t3_n, ne0F_e, isF_fate, not_true_eq_false, Int.reduceSub, Int.reduceAdd, isL_l, isL_e, isT_t, isT_e, isOL_l, isOL_e, isL1_c, isInt_i, isSome_s, isOwL_l, isOwL_e, en_int, en_nat, en_bool, en_str, en_list, eL_1, eL_2, eL_3, eL_snoc, eL_snoc2, eL_app, eL_LL, eL_LL2, eL_LLs, addF_e, addF_t', addF_n, addF_n', lenF_e, lenF_e', toListF_e, toListF_e', toTupF_e, toTupF_e', cutF_e, cutF_e', cm_keep_skip, cm_keep_front, cm_keep_back, cm_front_skip, cm_front_front, cm_front_back, cm_back_skip, cm_back_front, cm_back_back, cm_remove_skip, cm_remove_front, cm_remove_back, nl0, nl1, nl2, nl3, nl4, nl5, nl6, nl7, nl8, nl9, nl10, nl11, nl12, Int.reduceEq, Int.reduceLT, Int.reduceLE, nat1c, natc1, natc2, natcA, cutA_btw, cutA_to, cutA_from, cutA_all, ixF_e0, ixF_e1, ixP_0, ixP_1, gtupP, pair_f, isF_Ln, isF_Tn, eqF_e, neF_e, inF_e, eqF_n, eqF_n', eqF_eL, neF_eL, eqF_eT, inF_nm, eL_pairs, pairs_e, rngD_e, eL_rev, eL_set, eL_erase, eL_ins, eL_ins', get_m, idx_len, sl0, sl1, sl2, sl3, sl4, sl5, sl6, sl7, sl8, sl9, sl10, sl11, sl12, en_keep, en_front, en_back, en_remove, en_skip, en_ofront, en_oback, en_inn, en_out, en_both, eqF_inn, eqF_out, eqF_both, neF_inn, neF_out, ixC_0, ixC_1, ixC_2, lenC, ixO_0, ixO_1, ixO_2, gtupC, gtupO, fate_a, fate_u, fate_f, fate_b, ent_i, ent_o, ent_b, inT_1, inT_2, inT_3, ofS, String.reduceEq, Bool.or_true, Bool.true_or, Bool.or_false, Bool.false_or, eq_self, ↓x_kill, ↓x_killN, ↓x_join, dropE_n, dropE_c, drop1_un, drop1_fz, drop1_ow, drop1_ot, Int.toNat_natCast, List.length_map, Option.map_some, Option.map_none]
  · rintro e rfl
    simp -dsimp only [↓x_seq, ↓x_next, ↓x_drop, ↓x_set, ↓x_setO, ↓x_name, ↓x_gnil, ↓x_gcons, ↓x_gtup, ↓x_bin, ↓x_var, ↓x_varF, ↓x_c, ↓x_1, ↓x_B, ↓x_and, ↓x_or, ↓x_not, ↓x_andV, ↓x_orV, ↓x_notV, ↓x_if, ↓x_ifS, ↓x_ret, ↓x_lst, ↓x_tup, ↓x_acons, ↓x_anil, ↓x_aug, ↓y_setIx, ↓x_call, ↓x_callT, ↓x_callK, ↓x_callD, ↓x_chain, ↓x_sl, ↓x_oS, ↓x_oN, ↓x_rep, ↓y_store, ↓x_app, ↓y_popAt, ↓y_insert, ↓y_ext, ↓x_strM, ↓x_listM, ↓x_isi, ↓y_LE, ↓x_yes, ↓y_iList, ↓y_iTup, ↓x_iStr, ↓y_iEnum, ↓x_iRange1, ↓x_iRange2, ↓x_for, ↓x_while, ↓x_lc, ↓y_rev, ↓x_pNil, ↓x_pCons, ↓x_dict, ↓x_dict0, ↓x_dget, cs_t, cs_f, ex_s, sh1, get_fz, get_ow, get_br, brD_ow, brD_fz, fzd_fz, fzd_ow, fzd_br, jO_un, jO_fz, jO_ow, jO_no, intF_i, intF0_i, addF_i, addF_s, addF_l, addF_t, mulF, mulSF_s, ne0F_l, subF, fdivF, modF, powF, ltF_i, ltF_s, leF, gtF, geF, absF_i, maxF, minF, lenF_l, lenF_t, lenF_s, toIntF_i, toIntF_b, toListF_l, toListF_t, toTupF_l, toTupF_t, negF_i, cutF_l, cutF_t, cutF_s, isF_bb, isF_nn, isF_ln, isF_sn, isF_in, isF_tn, List.map_cons, List.map_nil, List.cons_append, List.nil_append, List.replicate, List.getElem?_cons_zero, List.getElem?_cons_succ, List.set_cons_zero, List.set_cons_succ, List.length_cons, List.length_nil, if_true, if_false, Bool.false_eq_true, true_and, and_true, reduceCtorEq, ixF_0, ixF_1, ixF_2, ixF_t0, ixF_t1, ixF_t2, ixn0, ixn1, eqF_s, eqF_i, neF_s, neF_i, eqF_l, eqF_t, neF_l, Option.some.injEq, G.E.ow.injEq, exists_eq_left', exists_eq_left, exists_eq', exists_const, and_self, ne_eq, not_false_eq_true, decide_true, decide_false, Bool.not_true, Bool.not_false, restE, wipeE, List.getD_eq_getElem?_getD, Option.getD_some, eqF_bb, neF_bb, ↓y_iRev, ↓x_sset, ↓x_lset, sortF_e, t3_f, t4_f, gtup3, gtup4, ixT3_0, ixT3_1, ixT3_2, ↓x_callB, ↓x_frz, ↓x_rnil, ↓x_rcons, argsD_n, argsD_c, consO_s, argD_f, argD_b, argB_l, argB_e, argB_f, noLR_e, noLR_t, noLR_a, noLR_i, noLR_b, noLR_s, noLR_n, ↓x_pop, eL_drop, eL_i1, ↓x_callN, isOw_o, ex_bd, en_epf, en_epb, ixFa_0, ixFa_1f, ixFa_1b, fs_a, fs_u, fs_f, fs_b, t3_i, t3_o, t3_c, t2_n, t3_n, ne0F_e, isF_fate, not_true_eq_false, Int.reduceSub, Int.reduceAdd, isL_l, isL_e, isT_t, isT_e, isOL_l, isOL_e, isL1_c, isInt_i, isSome_s, isOwL_l, isOwL_e, en_int, en_nat, en_bool, en_str, en_list, eL_1, eL_2, eL_3, eL_snoc, eL_snoc2, eL_app, eL_LL, eL_LL2, eL_LLs, addF_e, addF_t', addF_n, addF_n', lenF_e, lenF_e', toListF_e, toListF_e', toTupF_e, toTupF_e', cutF_e, cutF_e', cm_keep_skip, cm_keep_front, cm_keep_back, cm_front_skip, cm_front_front, cm_front_back, cm_back_skip, cm_back_front, cm_back_back, cm_remove_skip, cm_remove_front, cm_remove_back, nl0, nl1, nl2, nl3, nl4, nl5, nl6, nl7, nl8, nl9, nl10, nl11, nl12, Int.reduceEq, Int.reduceLT, Int.reduceLE, nat1c, natc1, natc2, natcA, cutA_btw, cutA_to, cutA_from, cutA_all, ixF_e0, ixF_e1, ixP_0, ixP_1, gtupP, pair_f, isF_Ln, isF_Tn, eqF_e, neF_e, inF_e, eqF_n, eqF_n', eqF_eL, neF_eL, eqF_eT, inF_nm, eL_pairs, pairs_e, rngD_e, eL_rev, eL_set, eL_erase, eL_ins, eL_ins', get_m, idx_len, sl0, sl1, sl2, sl3, sl4, sl5, sl6, sl7, sl8, sl9, sl10, sl11, sl12, en_keep, en_front, en_back, en_remove, en_skip, en_ofront, en_oback, en_inn, en_out, en_both, eqF_inn, eqF_out, eqF_both, neF_inn, neF_out, ixC_0, ixC_1, ixC_2, lenC, ixO_0, ixO_1, ixO_2, gtupC, gtupO, fate_a, fate_u, fate_f, fate_b, ent_i, ent_o, ent_b, inT_1, inT_2, inT_3, ofS, String.reduceEq, Bool.or_true, Bool.true_or, Bool.or_false, Bool.false_or, eq_self, ↓x_kill, ↓x_killN, ↓x_join, dropE_n, dropE_c, drop1_un, drop1_fz, drop1_ow, drop1_ot, Int.toNat_natCast, List.length_map, Option.map_some, Option.map_none]
    refine least_n hnd hnd (by omega) (by omega) fun b e hB => ?_
    have hle := least_le (cs := []) hnd hB rfl
    have h0 : (routeOf xs xs b e).length = 0 := Nat.le_zero.mp hle
    rw [h0]
    simp -dsimp only [↓x_seq, ↓x_next, ↓x_drop, ↓x_set, ↓x_setO, ↓x_name, ↓x_gnil, ↓x_gcons, ↓x_gtup, ↓x_bin, ↓x_var, ↓x_varF, ↓x_c, ↓x_1, ↓x_B, ↓x_and, ↓x_or, ↓x_not, ↓x_andV, ↓x_orV, ↓x_notV, ↓x_if, ↓x_ifS, ↓x_ret, ↓x_lst, ↓x_tup, ↓x_acons, ↓x_anil, ↓x_aug, ↓y_setIx, ↓x_call, ↓x_callT, ↓x_callK, ↓x_callD, ↓x_chain, ↓x_sl, ↓x_oS, ↓x_oN, ↓x_rep, ↓y_store, ↓x_app, ↓y_popAt, ↓y_insert, ↓y_ext, ↓x_strM, ↓x_listM, ↓x_isi, ↓y_LE, ↓x_yes, ↓y_iList, ↓y_iTup, ↓x_iStr, ↓y_iEnum, ↓x_iRange1, ↓x_iRange2, ↓x_for, ↓x_while, ↓x_lc, ↓y_rev, ↓x_pNil, ↓x_pCons, ↓x_dict, ↓x_dict0, ↓x_dget, cs_t, cs_f, ex_s, sh1, get_fz, get_ow, get_br, brD_ow, brD_fz, fzd_fz, fzd_ow, fzd_br, jO_un, jO_fz, jO_ow, jO_no, intF_i, intF0_i, addF_i, addF_s, addF_l, addF_t, mulF, mulSF_s, ne0F_l, subF, fdivF, modF, powF, ltF_i, ltF_s, leF, gtF, geF, absF_i, maxF, minF, lenF_l, lenF_t, lenF_s, toIntF_i, toIntF_b, toListF_l, toListF_t, toTupF_l, toTupF_t, negF_i, cutF_l, cutF_t, cutF_s, isF_bb, isF_nn, isF_ln, isF_sn, isF_in, isF_tn, List.map_cons, List.map_nil, List.cons_append, List.nil_append, List.replicate, List.getElem?_cons_zero, List.getElem?_cons_succ, List.set_cons_zero, List.set_cons_succ, List.length_cons, List.length_nil, if_true, if_false, Bool.false_eq_true, true_and, and_true, reduceCtorEq, ixF_0, ixF_1, ixF_2, ixF_t0, ixF_t1, ixF_t2, ixn0, ixn1, eqF_s, eqF_i, neF_s, neF_i, eqF_l, eqF_t, neF_l, Option.some.injEq, G.E.ow.injEq, exists_eq_left', exists_eq_left, exists_eq', exists_const, and_self, ne_eq, not_false_eq_true, decide_true, decide_false, Bool.not_true, Bool.not_false, restE, wipeE, List.getD_eq_getElem?_getD, Option.getD_some, eqF_bb, neF_bb, ↓y_iRev, ↓x_sset, ↓x_lset, sortF_e, t3_f, t4_f, gtup3, gtup4, ixT3_0, ixT3_1, ixT3_2, ↓x_callB, ↓x_frz, ↓x_rnil, ↓x_rcons, argsD_n, argsD_c, consO_s, argD_f, argD_b, argB_l, argB_e, argB_f, noLR_e, noLR_t, noLR_a, noLR_i, noLR_b, noLR_s, noLR_n, ↓x_pop, eL_drop, eL_i1, ↓x_callN, isOw_o, ex_bd, en_epf, en_epb, ixFa_0, ixFa_1f, ixFa_1b, fs_a, fs_u, fs_f, fs_b, t3_i, t3_o, t3_c, t2_n, t3_n, ne0F_e, isF_fate, not_true_eq_false, Int.reduceSub, Int.reduceAdd, isL_l, isL_e, isT_t, isT_e, isOL_l, isOL_e, isL1_c, isInt_i, isSome_s, isOwL_l, isOwL_e, en_int, en_nat, en_bool, en_str, en_list, eL_1, eL_2, eL_3, eL_snoc, eL_snoc2, eL_app, eL_LL, eL_LL2, eL_LLs, addF_e, addF_t', addF_n, addF_n', lenF_e, lenF_e', toListF_e, toListF_e', toTupF_e, toTupF_e', cutF_e, cutF_e', cm_keep_skip, cm_keep_front, cm_keep_back, cm_front_skip, cm_front_front, cm_front_back, cm_back_skip, cm_back_front, cm_back_back, cm_remove_skip, cm_remove_front, cm_remove_back, nl0, nl1, nl2, nl3, nl4, nl5, nl6, nl7, nl8, nl9, nl10, nl11, nl12, Int.reduceEq, Int.reduceLT, Int.reduceLE, nat1c, natc1, natc2, natcA, cutA_btw, cutA_to, cutA_from, cutA_all, ixF_e0, ixF_e1, ixP_0, ixP_1, gtupP, pair_f, isF_Ln, isF_Tn, eqF_e, neF_e, inF_e, eqF_n, eqF_n', eqF_eL, neF_eL, eqF_eT, inF_nm, eL_pairs, pairs_e, rngD_e, eL_rev, eL_set, eL_erase, eL_ins, eL_ins', get_m, idx_len, sl0, sl1, sl2, sl3, sl4, sl5, sl6, sl7, sl8, sl9, sl10, sl11, sl12, en_keep, en_front, en_back, en_remove, en_skip, en_ofront, en_oback, en_inn, en_out, en_both, eqF_inn, eqF_out, eqF_both, neF_inn, neF_out, ixC_0, ixC_1, ixC_2, lenC, ixO_0, ixO_1, ixO_2, gtupC, gtupO, fate_a, fate_u, fate_f, fate_b, ent_i, ent_o, ent_b, inT_1, inT_2, inT_3, ofS, String.reduceEq, Bool.or_true, Bool.true_or, Bool.or_false, Bool.false_or, eq_self, ↓x_kill, ↓x_killN, ↓x_join, dropE_n, dropE_c, drop1_un, drop1_fz, drop1_ow, drop1_ot, Int.toNat_natCast, List.length_map, Option.map_some, Option.map_none]
    exact hP
end
end GL
namespace GL
open PySem PySem.Spec L2 G
def tx_mk {K : PySem.W.Frag} {h : Heap} {mg : Str → Option Value} (X : K.In h) (G : h.Ns mainGlobals mg)
    {f_kept_block : Addr} {od_kept_block an_kept_block : Option Addr} {sl_kept_block : Array (Option Value)} {oc_kept_block kV_kept_block dc_kept_block pm_kept_block cd_kept_block ct_kept_block : Value}
    (a_kept_block : PySem.W.nsIn K mainGlobals "kept_block" = some (some (.ref f_kept_block))) (l_kept_block : K.lookup f_kept_block = some ⟨oc_kept_block, od_kept_block, .func (PySem.W.fnOf "kept_block" "kept_block" (defArgs s_kept_block) (defBody s_kept_block) (defScope s_kept_block) .none kV_kept_block dc_kept_block pm_kept_block an_kept_block cd_kept_block ct_kept_block), sl_kept_block⟩) (c_kept_block : PySem.W.codeIn K cd_kept_block "kept_block" = true) (k_kept_block : PySem.W.keepIn K (.ref f_kept_block) = true)
    {f_least_commands : Addr} {od_least_commands an_least_commands : Option Addr} {sl_least_commands : Array (Option Value)} {oc_least_commands kV_least_commands dc_least_commands pm_least_commands cd_least_commands ct_least_commands : Value}
    (a_least_commands : PySem.W.nsIn K mainGlobals "least_commands" = some (some (.ref f_least_commands))) (l_least_commands : K.lookup f_least_commands = some ⟨oc_least_commands, od_least_commands, .func (PySem.W.fnOf "least_commands" "least_commands" (defArgs s_least_commands) (defBody s_least_commands) (defScope s_least_commands) .none kV_least_commands dc_least_commands pm_least_commands an_least_commands cd_least_commands ct_least_commands), sl_least_commands⟩) (c_least_commands : PySem.W.codeIn K cd_least_commands "least_commands" = true) (k_least_commands : PySem.W.keepIn K (.ref f_least_commands) = true)
    {f_law_tape : Addr} {od_law_tape an_law_tape : Option Addr} {sl_law_tape : Array (Option Value)} {oc_law_tape kV_law_tape dc_law_tape pm_law_tape cd_law_tape ct_law_tape : Value}
    (a_law_tape : PySem.W.nsIn K mainGlobals "_law_tape" = some (some (.ref f_law_tape))) (l_law_tape : K.lookup f_law_tape = some ⟨oc_law_tape, od_law_tape, .func (PySem.W.fnOf "_law_tape" "_law_tape" (defArgs s_law_tape) (defBody s_law_tape) (defScope s_law_tape) .none kV_law_tape dc_law_tape pm_law_tape an_law_tape cd_law_tape ct_law_tape), sl_law_tape⟩) (c_law_tape : PySem.W.codeIn K cd_law_tape "_law_tape" = true) (k_law_tape : PySem.W.keepIn K (.ref f_law_tape) = true)
    {f_law_draw : Addr} {od_law_draw an_law_draw : Option Addr} {sl_law_draw : Array (Option Value)} {oc_law_draw kV_law_draw dc_law_draw pm_law_draw cd_law_draw ct_law_draw : Value}
    (a_law_draw : PySem.W.nsIn K mainGlobals "_law_draw" = some (some (.ref f_law_draw))) (l_law_draw : K.lookup f_law_draw = some ⟨oc_law_draw, od_law_draw, .func (PySem.W.fnOf "_law_draw" "_law_draw" (defArgs s_law_draw) (defBody s_law_draw) (defScope s_law_draw) .none kV_law_draw dc_law_draw pm_law_draw an_law_draw cd_law_draw ct_law_draw), sl_law_draw⟩) (c_law_draw : PySem.W.codeIn K cd_law_draw "_law_draw" = true) (k_law_draw : PySem.W.keepIn K (.ref f_law_draw) = true)
    {f_law_name : Addr} {od_law_name an_law_name : Option Addr} {sl_law_name : Array (Option Value)} {oc_law_name kV_law_name dc_law_name pm_law_name cd_law_name ct_law_name : Value}
    (a_law_name : PySem.W.nsIn K mainGlobals "_law_name" = some (some (.ref f_law_name))) (l_law_name : K.lookup f_law_name = some ⟨oc_law_name, od_law_name, .func (PySem.W.fnOf "_law_name" "_law_name" (defArgs s_law_name) (defBody s_law_name) (defScope s_law_name) .none kV_law_name dc_law_name pm_law_name an_law_name cd_law_name ct_law_name), sl_law_name⟩) (c_law_name : PySem.W.codeIn K cd_law_name "_law_name" = true) (k_law_name : PySem.W.keepIn K (.ref f_law_name) = true)
    {f_law_names : Addr} {od_law_names an_law_names : Option Addr} {sl_law_names : Array (Option Value)} {oc_law_names kV_law_names dc_law_names pm_law_names cd_law_names ct_law_names : Value}
    (a_law_names : PySem.W.nsIn K mainGlobals "_law_names" = some (some (.ref f_law_names))) (l_law_names : K.lookup f_law_names = some ⟨oc_law_names, od_law_names, .func (PySem.W.fnOf "_law_names" "_law_names" (defArgs s_law_names) (defBody s_law_names) (defScope s_law_names) .none kV_law_names dc_law_names pm_law_names an_law_names cd_law_names ct_law_names), sl_law_names⟩) (c_law_names : PySem.W.codeIn K cd_law_names "_law_names" = true) (k_law_names : PySem.W.keepIn K (.ref f_law_names) = true)
    {f_law_script : Addr} {od_law_script an_law_script : Option Addr} {sl_law_script : Array (Option Value)} {oc_law_script kV_law_script dc_law_script pm_law_script cd_law_script ct_law_script : Value}
    (a_law_script : PySem.W.nsIn K mainGlobals "_law_script" = some (some (.ref f_law_script))) (l_law_script : K.lookup f_law_script = some ⟨oc_law_script, od_law_script, .func (PySem.W.fnOf "_law_script" "_law_script" (defArgs s_law_script) (defBody s_law_script) (defScope s_law_script) .none kV_law_script dc_law_script pm_law_script an_law_script cd_law_script ct_law_script), sl_law_script⟩) (c_law_script : PySem.W.codeIn K cd_law_script "_law_script" = true) (k_law_script : PySem.W.keepIn K (.ref f_law_script) = true)
    {f_law_path : Addr} {od_law_path an_law_path : Option Addr} {sl_law_path : Array (Option Value)} {oc_law_path kV_law_path dc_law_path pm_law_path cd_law_path ct_law_path : Value}
    (a_law_path : PySem.W.nsIn K mainGlobals "_law_path" = some (some (.ref f_law_path))) (l_law_path : K.lookup f_law_path = some ⟨oc_law_path, od_law_path, .func (PySem.W.fnOf "_law_path" "_law_path" (defArgs s_law_path) (defBody s_law_path) (defScope s_law_path) .none kV_law_path dc_law_path pm_law_path an_law_path cd_law_path ct_law_path), sl_law_path⟩) (c_law_path : PySem.W.codeIn K cd_law_path "_law_path" = true) (k_law_path : PySem.W.keepIn K (.ref f_law_path) = true)
    {f_law_run : Addr} {od_law_run an_law_run : Option Addr} {sl_law_run : Array (Option Value)} {oc_law_run kV_law_run dc_law_run pm_law_run cd_law_run ct_law_run : Value}
    (a_law_run : PySem.W.nsIn K mainGlobals "_law_run" = some (some (.ref f_law_run))) (l_law_run : K.lookup f_law_run = some ⟨oc_law_run, od_law_run, .func (PySem.W.fnOf "_law_run" "_law_run" (defArgs s_law_run) (defBody s_law_run) (defScope s_law_run) .none kV_law_run dc_law_run pm_law_run an_law_run cd_law_run ct_law_run), sl_law_run⟩) (c_law_run : PySem.W.codeIn K cd_law_run "_law_run" = true) (k_law_run : PySem.W.keepIn K (.ref f_law_run) = true)
    {f_law_is_integer : Addr} {od_law_is_integer an_law_is_integer : Option Addr} {sl_law_is_integer : Array (Option Value)} {oc_law_is_integer kV_law_is_integer dc_law_is_integer pm_law_is_integer cd_law_is_integer ct_law_is_integer : Value}
    (a_law_is_integer : PySem.W.nsIn K mainGlobals "_law_is_integer" = some (some (.ref f_law_is_integer))) (l_law_is_integer : K.lookup f_law_is_integer = some ⟨oc_law_is_integer, od_law_is_integer, .func (PySem.W.fnOf "_law_is_integer" "_law_is_integer" (defArgs s_law_is_integer) (defBody s_law_is_integer) (defScope s_law_is_integer) .none kV_law_is_integer dc_law_is_integer pm_law_is_integer an_law_is_integer cd_law_is_integer ct_law_is_integer), sl_law_is_integer⟩) (c_law_is_integer : PySem.W.codeIn K cd_law_is_integer "_law_is_integer" = true) (k_law_is_integer : PySem.W.keepIn K (.ref f_law_is_integer) = true)
    {f_law_commands : Addr} {od_law_commands an_law_commands : Option Addr} {sl_law_commands : Array (Option Value)} {oc_law_commands kV_law_commands dc_law_commands pm_law_commands cd_law_commands ct_law_commands : Value}
    (a_law_commands : PySem.W.nsIn K mainGlobals "_law_commands" = some (some (.ref f_law_commands))) (l_law_commands : K.lookup f_law_commands = some ⟨oc_law_commands, od_law_commands, .func (PySem.W.fnOf "_law_commands" "_law_commands" (defArgs s_law_commands) (defBody s_law_commands) (defScope s_law_commands) .none kV_law_commands dc_law_commands pm_law_commands an_law_commands cd_law_commands ct_law_commands), sl_law_commands⟩) (c_law_commands : PySem.W.codeIn K cd_law_commands "_law_commands" = true) (k_law_commands : PySem.W.keepIn K (.ref f_law_commands) = true)
    {f_law_distance : Addr} {od_law_distance an_law_distance : Option Addr} {sl_law_distance : Array (Option Value)} {oc_law_distance kV_law_distance dc_law_distance pm_law_distance cd_law_distance ct_law_distance : Value}
    (a_law_distance : PySem.W.nsIn K mainGlobals "_law_distance" = some (some (.ref f_law_distance))) (l_law_distance : K.lookup f_law_distance = some ⟨oc_law_distance, od_law_distance, .func (PySem.W.fnOf "_law_distance" "_law_distance" (defArgs s_law_distance) (defBody s_law_distance) (defScope s_law_distance) .none kV_law_distance dc_law_distance pm_law_distance an_law_distance cd_law_distance ct_law_distance), sl_law_distance⟩) (c_law_distance : PySem.W.codeIn K cd_law_distance "_law_distance" = true) (k_law_distance : PySem.W.keepIn K (.ref f_law_distance) = true)
    {f_law : Addr} {od_law an_law : Option Addr} {sl_law : Array (Option Value)} {oc_law kV_law dc_law pm_law cd_law ct_law : Value}
    (a_law : PySem.W.nsIn K mainGlobals "law" = some (some (.ref f_law))) (l_law : K.lookup f_law = some ⟨oc_law, od_law, .func (PySem.W.fnOf "law" "law" (defArgs s_law) (defBody s_law) (defScope s_law) .none kV_law dc_law pm_law an_law cd_law ct_law), sl_law⟩) (c_law : PySem.W.codeIn K cd_law "law" = true) (k_law : PySem.W.keepIn K (.ref f_law) = true)
    (z_abs : PySem.W.nsIn K mainGlobals "abs" = some none)
    (z_bool : PySem.W.nsIn K mainGlobals "bool" = some none)
    (z_enumerate : PySem.W.nsIn K mainGlobals "enumerate" = some none)
    (z_int : PySem.W.nsIn K mainGlobals "int" = some none)
    (z_isinstance : PySem.W.nsIn K mainGlobals "isinstance" = some none)
    (z_len : PySem.W.nsIn K mainGlobals "len" = some none)
    (z_list : PySem.W.nsIn K mainGlobals "list" = some none)
    (z_max : PySem.W.nsIn K mainGlobals "max" = some none)
    (z_range : PySem.W.nsIn K mainGlobals "range" = some none) : Tx K mg where
  f_kept_block := f_kept_block
  fd_kept_block := (PySem.W.fnOf "kept_block" "kept_block" (defArgs s_kept_block) (defBody s_kept_block) (defScope s_kept_block) .none kV_kept_block dc_kept_block pm_kept_block an_kept_block cd_kept_block ct_kept_block)
  F_kept_block := fun_mk (st := s_kept_block) l_kept_block c_kept_block k_kept_block
  b_kept_block := (fun_mk (st := s_kept_block) l_kept_block c_kept_block k_kept_block).binds (ps := ["path", "goal"]) fun _ _ _ _ _ _ us hl => match us, hl with | [_, _], _ => rfl
  g_kept_block := PySem.W.mg_of X G a_kept_block
  f_least_commands := f_least_commands
  fd_least_commands := (PySem.W.fnOf "least_commands" "least_commands" (defArgs s_least_commands) (defBody s_least_commands) (defScope s_least_commands) .none kV_least_commands dc_least_commands pm_least_commands an_least_commands cd_least_commands ct_least_commands)
  F_least_commands := fun_mk (st := s_least_commands) l_least_commands c_least_commands k_least_commands
  b_least_commands := (fun_mk (st := s_least_commands) l_least_commands c_least_commands k_least_commands).binds (ps := ["path", "goal"]) fun _ _ _ _ _ _ us hl => match us, hl with | [_, _], _ => rfl
  g_least_commands := PySem.W.mg_of X G a_least_commands
  f_law_tape := f_law_tape
  fd_law_tape := (PySem.W.fnOf "_law_tape" "_law_tape" (defArgs s_law_tape) (defBody s_law_tape) (defScope s_law_tape) .none kV_law_tape dc_law_tape pm_law_tape an_law_tape cd_law_tape ct_law_tape)
  F_law_tape := fun_mk (st := s_law_tape) l_law_tape c_law_tape k_law_tape
  b_law_tape := (fun_mk (st := s_law_tape) l_law_tape c_law_tape k_law_tape).binds (ps := ["_law_cell", "_law_salt"]) fun _ _ _ _ _ _ us hl => match us, hl with | [_, _], _ => rfl
  g_law_tape := PySem.W.mg_of X G a_law_tape
  f_law_draw := f_law_draw
  fd_law_draw := (PySem.W.fnOf "_law_draw" "_law_draw" (defArgs s_law_draw) (defBody s_law_draw) (defScope s_law_draw) .none kV_law_draw dc_law_draw pm_law_draw an_law_draw cd_law_draw ct_law_draw)
  F_law_draw := fun_mk (st := s_law_draw) l_law_draw c_law_draw k_law_draw
  b_law_draw := (fun_mk (st := s_law_draw) l_law_draw c_law_draw k_law_draw).binds (ps := ["_law_tape_here", "_law_count"]) fun _ _ _ _ _ _ us hl => match us, hl with | [_, _], _ => rfl
  g_law_draw := PySem.W.mg_of X G a_law_draw
  f_law_name := f_law_name
  fd_law_name := (PySem.W.fnOf "_law_name" "_law_name" (defArgs s_law_name) (defBody s_law_name) (defScope s_law_name) .none kV_law_name dc_law_name pm_law_name an_law_name cd_law_name ct_law_name)
  F_law_name := fun_mk (st := s_law_name) l_law_name c_law_name k_law_name
  b_law_name := (fun_mk (st := s_law_name) l_law_name c_law_name k_law_name).binds (ps := ["_law_tape_here"]) fun _ _ _ _ _ _ us hl => match us, hl with | [_], _ => rfl
  g_law_name := PySem.W.mg_of X G a_law_name
  f_law_names := f_law_names
  fd_law_names := (PySem.W.fnOf "_law_names" "_law_names" (defArgs s_law_names) (defBody s_law_names) (defScope s_law_names) .none kV_law_names dc_law_names pm_law_names an_law_names cd_law_names ct_law_names)
  F_law_names := fun_mk (st := s_law_names) l_law_names c_law_names k_law_names
  b_law_names := (fun_mk (st := s_law_names) l_law_names c_law_names k_law_names).binds (ps := ["_law_tape_here", "_law_count"]) fun _ _ _ _ _ _ us hl => match us, hl with | [_, _], _ => rfl
  g_law_names := PySem.W.mg_of X G a_law_names
  f_law_script := f_law_script
  fd_law_script := (PySem.W.fnOf "_law_script" "_law_script" (defArgs s_law_script) (defBody s_law_script) (defScope s_law_script) .none kV_law_script dc_law_script pm_law_script an_law_script cd_law_script ct_law_script)
  F_law_script := fun_mk (st := s_law_script) l_law_script c_law_script k_law_script
  b_law_script := (fun_mk (st := s_law_script) l_law_script c_law_script k_law_script).binds (ps := ["_law_tape_here", "_law_names_here", "_law_count"]) fun _ _ _ _ _ _ us hl => match us, hl with | [_, _, _], _ => rfl
  g_law_script := PySem.W.mg_of X G a_law_script
  f_law_path := f_law_path
  fd_law_path := (PySem.W.fnOf "_law_path" "_law_path" (defArgs s_law_path) (defBody s_law_path) (defScope s_law_path) .none kV_law_path dc_law_path pm_law_path an_law_path cd_law_path ct_law_path)
  F_law_path := fun_mk (st := s_law_path) l_law_path c_law_path k_law_path
  b_law_path := (fun_mk (st := s_law_path) l_law_path c_law_path k_law_path).binds (ps := ["_law_tape_here", "_law_names_here"]) fun _ _ _ _ _ _ us hl => match us, hl with | [_, _], _ => rfl
  g_law_path := PySem.W.mg_of X G a_law_path
  f_law_run := f_law_run
  fd_law_run := (PySem.W.fnOf "_law_run" "_law_run" (defArgs s_law_run) (defBody s_law_run) (defScope s_law_run) .none kV_law_run dc_law_run pm_law_run an_law_run cd_law_run ct_law_run)
  F_law_run := fun_mk (st := s_law_run) l_law_run c_law_run k_law_run
  b_law_run := (fun_mk (st := s_law_run) l_law_run c_law_run k_law_run).binds (ps := ["_law_path_here", "_law_script_here"]) fun _ _ _ _ _ _ us hl => match us, hl with | [_, _], _ => rfl
  g_law_run := PySem.W.mg_of X G a_law_run
  f_law_is_integer := f_law_is_integer
  fd_law_is_integer := (PySem.W.fnOf "_law_is_integer" "_law_is_integer" (defArgs s_law_is_integer) (defBody s_law_is_integer) (defScope s_law_is_integer) .none kV_law_is_integer dc_law_is_integer pm_law_is_integer an_law_is_integer cd_law_is_integer ct_law_is_integer)
  F_law_is_integer := fun_mk (st := s_law_is_integer) l_law_is_integer c_law_is_integer k_law_is_integer
  b_law_is_integer := (fun_mk (st := s_law_is_integer) l_law_is_integer c_law_is_integer k_law_is_integer).binds (ps := ["_law_value", "_law_expected"]) fun _ _ _ _ _ _ us hl => match us, hl with | [_, _], _ => rfl
  g_law_is_integer := PySem.W.mg_of X G a_law_is_integer
  f_law_commands := f_law_commands
  fd_law_commands := (PySem.W.fnOf "_law_commands" "_law_commands" (defArgs s_law_commands) (defBody s_law_commands) (defScope s_law_commands) .none kV_law_commands dc_law_commands pm_law_commands an_law_commands cd_law_commands ct_law_commands)
  F_law_commands := fun_mk (st := s_law_commands) l_law_commands c_law_commands k_law_commands
  b_law_commands := (fun_mk (st := s_law_commands) l_law_commands c_law_commands k_law_commands).binds (ps := ["_law_names_here"]) fun _ _ _ _ _ _ us hl => match us, hl with | [_], _ => rfl
  g_law_commands := PySem.W.mg_of X G a_law_commands
  f_law_distance := f_law_distance
  fd_law_distance := (PySem.W.fnOf "_law_distance" "_law_distance" (defArgs s_law_distance) (defBody s_law_distance) (defScope s_law_distance) .none kV_law_distance dc_law_distance pm_law_distance an_law_distance cd_law_distance ct_law_distance)
  F_law_distance := fun_mk (st := s_law_distance) l_law_distance c_law_distance k_law_distance
  b_law_distance := (fun_mk (st := s_law_distance) l_law_distance c_law_distance k_law_distance).binds (ps := ["_law_path_here", "_law_goal", "_law_names_here"]) fun _ _ _ _ _ _ us hl => match us, hl with | [_, _, _], _ => rfl
  g_law_distance := PySem.W.mg_of X G a_law_distance
  f_law := f_law
  fd_law := (PySem.W.fnOf "law" "law" (defArgs s_law) (defBody s_law) (defScope s_law) .none kV_law dc_law pm_law an_law cd_law ct_law)
  F_law := fun_mk (st := s_law) l_law c_law k_law
  b_law := (fun_mk (st := s_law) l_law c_law k_law).binds (ps := ["_law_script_here"]) fun _ _ _ _ _ _ us hl => match us, hl with | [_], _ => rfl
  g_law := PySem.W.mg_of X G a_law
  z_abs := PySem.W.mg_none_of X G z_abs
  z_bool := PySem.W.mg_none_of X G z_bool
  z_enumerate := PySem.W.mg_none_of X G z_enumerate
  z_int := PySem.W.mg_none_of X G z_int
  z_isinstance := PySem.W.mg_none_of X G z_isinstance
  z_len := PySem.W.mg_none_of X G z_len
  z_list := PySem.W.mg_none_of X G z_list
  z_max := PySem.W.mg_none_of X G z_max
  z_range := PySem.W.mg_none_of X G z_range
theorem all_mk {l : PySem.W.OpenLaw} {w : World} {K : PySem.W.Frag} {h : Heap} {mg : Str → Option Value} {fa : Addr} (X : K.In h) (G : h.Ns mainGlobals mg) (hfa : mg "law" = some (.ref fa))
    {f_kept_block : Addr} {od_kept_block an_kept_block : Option Addr} {sl_kept_block : Array (Option Value)} {oc_kept_block kV_kept_block dc_kept_block pm_kept_block cd_kept_block ct_kept_block : Value}
    (a_kept_block : PySem.W.nsIn K mainGlobals "kept_block" = some (some (.ref f_kept_block))) (l_kept_block : K.lookup f_kept_block = some ⟨oc_kept_block, od_kept_block, .func (PySem.W.fnOf "kept_block" "kept_block" (defArgs s_kept_block) (defBody s_kept_block) (defScope s_kept_block) .none kV_kept_block dc_kept_block pm_kept_block an_kept_block cd_kept_block ct_kept_block), sl_kept_block⟩) (c_kept_block : PySem.W.codeIn K cd_kept_block "kept_block" = true) (k_kept_block : PySem.W.keepIn K (.ref f_kept_block) = true)
    {f_least_commands : Addr} {od_least_commands an_least_commands : Option Addr} {sl_least_commands : Array (Option Value)} {oc_least_commands kV_least_commands dc_least_commands pm_least_commands cd_least_commands ct_least_commands : Value}
    (a_least_commands : PySem.W.nsIn K mainGlobals "least_commands" = some (some (.ref f_least_commands))) (l_least_commands : K.lookup f_least_commands = some ⟨oc_least_commands, od_least_commands, .func (PySem.W.fnOf "least_commands" "least_commands" (defArgs s_least_commands) (defBody s_least_commands) (defScope s_least_commands) .none kV_least_commands dc_least_commands pm_least_commands an_least_commands cd_least_commands ct_least_commands), sl_least_commands⟩) (c_least_commands : PySem.W.codeIn K cd_least_commands "least_commands" = true) (k_least_commands : PySem.W.keepIn K (.ref f_least_commands) = true)
    {f_law_tape : Addr} {od_law_tape an_law_tape : Option Addr} {sl_law_tape : Array (Option Value)} {oc_law_tape kV_law_tape dc_law_tape pm_law_tape cd_law_tape ct_law_tape : Value}
    (a_law_tape : PySem.W.nsIn K mainGlobals "_law_tape" = some (some (.ref f_law_tape))) (l_law_tape : K.lookup f_law_tape = some ⟨oc_law_tape, od_law_tape, .func (PySem.W.fnOf "_law_tape" "_law_tape" (defArgs s_law_tape) (defBody s_law_tape) (defScope s_law_tape) .none kV_law_tape dc_law_tape pm_law_tape an_law_tape cd_law_tape ct_law_tape), sl_law_tape⟩) (c_law_tape : PySem.W.codeIn K cd_law_tape "_law_tape" = true) (k_law_tape : PySem.W.keepIn K (.ref f_law_tape) = true)
    {f_law_draw : Addr} {od_law_draw an_law_draw : Option Addr} {sl_law_draw : Array (Option Value)} {oc_law_draw kV_law_draw dc_law_draw pm_law_draw cd_law_draw ct_law_draw : Value}
    (a_law_draw : PySem.W.nsIn K mainGlobals "_law_draw" = some (some (.ref f_law_draw))) (l_law_draw : K.lookup f_law_draw = some ⟨oc_law_draw, od_law_draw, .func (PySem.W.fnOf "_law_draw" "_law_draw" (defArgs s_law_draw) (defBody s_law_draw) (defScope s_law_draw) .none kV_law_draw dc_law_draw pm_law_draw an_law_draw cd_law_draw ct_law_draw), sl_law_draw⟩) (c_law_draw : PySem.W.codeIn K cd_law_draw "_law_draw" = true) (k_law_draw : PySem.W.keepIn K (.ref f_law_draw) = true)
    {f_law_name : Addr} {od_law_name an_law_name : Option Addr} {sl_law_name : Array (Option Value)} {oc_law_name kV_law_name dc_law_name pm_law_name cd_law_name ct_law_name : Value}
    (a_law_name : PySem.W.nsIn K mainGlobals "_law_name" = some (some (.ref f_law_name))) (l_law_name : K.lookup f_law_name = some ⟨oc_law_name, od_law_name, .func (PySem.W.fnOf "_law_name" "_law_name" (defArgs s_law_name) (defBody s_law_name) (defScope s_law_name) .none kV_law_name dc_law_name pm_law_name an_law_name cd_law_name ct_law_name), sl_law_name⟩) (c_law_name : PySem.W.codeIn K cd_law_name "_law_name" = true) (k_law_name : PySem.W.keepIn K (.ref f_law_name) = true)
    {f_law_names : Addr} {od_law_names an_law_names : Option Addr} {sl_law_names : Array (Option Value)} {oc_law_names kV_law_names dc_law_names pm_law_names cd_law_names ct_law_names : Value}
    (a_law_names : PySem.W.nsIn K mainGlobals "_law_names" = some (some (.ref f_law_names))) (l_law_names : K.lookup f_law_names = some ⟨oc_law_names, od_law_names, .func (PySem.W.fnOf "_law_names" "_law_names" (defArgs s_law_names) (defBody s_law_names) (defScope s_law_names) .none kV_law_names dc_law_names pm_law_names an_law_names cd_law_names ct_law_names), sl_law_names⟩) (c_law_names : PySem.W.codeIn K cd_law_names "_law_names" = true) (k_law_names : PySem.W.keepIn K (.ref f_law_names) = true)
    {f_law_script : Addr} {od_law_script an_law_script : Option Addr} {sl_law_script : Array (Option Value)} {oc_law_script kV_law_script dc_law_script pm_law_script cd_law_script ct_law_script : Value}
    (a_law_script : PySem.W.nsIn K mainGlobals "_law_script" = some (some (.ref f_law_script))) (l_law_script : K.lookup f_law_script = some ⟨oc_law_script, od_law_script, .func (PySem.W.fnOf "_law_script" "_law_script" (defArgs s_law_script) (defBody s_law_script) (defScope s_law_script) .none kV_law_script dc_law_script pm_law_script an_law_script cd_law_script ct_law_script), sl_law_script⟩) (c_law_script : PySem.W.codeIn K cd_law_script "_law_script" = true) (k_law_script : PySem.W.keepIn K (.ref f_law_script) = true)
    {f_law_path : Addr} {od_law_path an_law_path : Option Addr} {sl_law_path : Array (Option Value)} {oc_law_path kV_law_path dc_law_path pm_law_path cd_law_path ct_law_path : Value}
    (a_law_path : PySem.W.nsIn K mainGlobals "_law_path" = some (some (.ref f_law_path))) (l_law_path : K.lookup f_law_path = some ⟨oc_law_path, od_law_path, .func (PySem.W.fnOf "_law_path" "_law_path" (defArgs s_law_path) (defBody s_law_path) (defScope s_law_path) .none kV_law_path dc_law_path pm_law_path an_law_path cd_law_path ct_law_path), sl_law_path⟩) (c_law_path : PySem.W.codeIn K cd_law_path "_law_path" = true) (k_law_path : PySem.W.keepIn K (.ref f_law_path) = true)
    {f_law_run : Addr} {od_law_run an_law_run : Option Addr} {sl_law_run : Array (Option Value)} {oc_law_run kV_law_run dc_law_run pm_law_run cd_law_run ct_law_run : Value}
    (a_law_run : PySem.W.nsIn K mainGlobals "_law_run" = some (some (.ref f_law_run))) (l_law_run : K.lookup f_law_run = some ⟨oc_law_run, od_law_run, .func (PySem.W.fnOf "_law_run" "_law_run" (defArgs s_law_run) (defBody s_law_run) (defScope s_law_run) .none kV_law_run dc_law_run pm_law_run an_law_run cd_law_run ct_law_run), sl_law_run⟩) (c_law_run : PySem.W.codeIn K cd_law_run "_law_run" = true) (k_law_run : PySem.W.keepIn K (.ref f_law_run) = true)
    {f_law_is_integer : Addr} {od_law_is_integer an_law_is_integer : Option Addr} {sl_law_is_integer : Array (Option Value)} {oc_law_is_integer kV_law_is_integer dc_law_is_integer pm_law_is_integer cd_law_is_integer ct_law_is_integer : Value}
    (a_law_is_integer : PySem.W.nsIn K mainGlobals "_law_is_integer" = some (some (.ref f_law_is_integer))) (l_law_is_integer : K.lookup f_law_is_integer = some ⟨oc_law_is_integer, od_law_is_integer, .func (PySem.W.fnOf "_law_is_integer" "_law_is_integer" (defArgs s_law_is_integer) (defBody s_law_is_integer) (defScope s_law_is_integer) .none kV_law_is_integer dc_law_is_integer pm_law_is_integer an_law_is_integer cd_law_is_integer ct_law_is_integer), sl_law_is_integer⟩) (c_law_is_integer : PySem.W.codeIn K cd_law_is_integer "_law_is_integer" = true) (k_law_is_integer : PySem.W.keepIn K (.ref f_law_is_integer) = true)
    {f_law_commands : Addr} {od_law_commands an_law_commands : Option Addr} {sl_law_commands : Array (Option Value)} {oc_law_commands kV_law_commands dc_law_commands pm_law_commands cd_law_commands ct_law_commands : Value}
    (a_law_commands : PySem.W.nsIn K mainGlobals "_law_commands" = some (some (.ref f_law_commands))) (l_law_commands : K.lookup f_law_commands = some ⟨oc_law_commands, od_law_commands, .func (PySem.W.fnOf "_law_commands" "_law_commands" (defArgs s_law_commands) (defBody s_law_commands) (defScope s_law_commands) .none kV_law_commands dc_law_commands pm_law_commands an_law_commands cd_law_commands ct_law_commands), sl_law_commands⟩) (c_law_commands : PySem.W.codeIn K cd_law_commands "_law_commands" = true) (k_law_commands : PySem.W.keepIn K (.ref f_law_commands) = true)
    {f_law_distance : Addr} {od_law_distance an_law_distance : Option Addr} {sl_law_distance : Array (Option Value)} {oc_law_distance kV_law_distance dc_law_distance pm_law_distance cd_law_distance ct_law_distance : Value}
    (a_law_distance : PySem.W.nsIn K mainGlobals "_law_distance" = some (some (.ref f_law_distance))) (l_law_distance : K.lookup f_law_distance = some ⟨oc_law_distance, od_law_distance, .func (PySem.W.fnOf "_law_distance" "_law_distance" (defArgs s_law_distance) (defBody s_law_distance) (defScope s_law_distance) .none kV_law_distance dc_law_distance pm_law_distance an_law_distance cd_law_distance ct_law_distance), sl_law_distance⟩) (c_law_distance : PySem.W.codeIn K cd_law_distance "_law_distance" = true) (k_law_distance : PySem.W.keepIn K (.ref f_law_distance) = true)
    {f_law : Addr} {od_law an_law : Option Addr} {sl_law : Array (Option Value)} {oc_law kV_law dc_law pm_law cd_law ct_law : Value}
    (a_law : PySem.W.nsIn K mainGlobals "law" = some (some (.ref f_law))) (l_law : K.lookup f_law = some ⟨oc_law, od_law, .func (PySem.W.fnOf "law" "law" (defArgs s_law) (defBody s_law) (defScope s_law) .none kV_law dc_law pm_law an_law cd_law ct_law), sl_law⟩) (c_law : PySem.W.codeIn K cd_law "law" = true) (k_law : PySem.W.keepIn K (.ref f_law) = true)
    (z_abs : PySem.W.nsIn K mainGlobals "abs" = some none)
    (z_bool : PySem.W.nsIn K mainGlobals "bool" = some none)
    (z_enumerate : PySem.W.nsIn K mainGlobals "enumerate" = some none)
    (z_int : PySem.W.nsIn K mainGlobals "int" = some none)
    (z_isinstance : PySem.W.nsIn K mainGlobals "isinstance" = some none)
    (z_len : PySem.W.nsIn K mainGlobals "len" = some none)
    (z_list : PySem.W.nsIn K mainGlobals "list" = some none)
    (z_max : PySem.W.nsIn K mainGlobals "max" = some none)
    (z_range : PySem.W.nsIn K mainGlobals "range" = some none) :
    ∃ fd : FuncData, (∀ (s : Shared) (v : Value), BindsTo s fd ⟨[v], []⟩ [("_law_script_here", v)]) ∧ ∀ base : Heap, K.In base → base.Ns mainGlobals mg → FnG l.prog w K mg base 4 fa fd 1 ["_law_script_here"] (spF K 1 (SLaw 63)) := by
  have e := hfa.symm.trans (PySem.W.mg_of X G a_law)
  cases e
  exact ⟨_, fun s v => .of_eq rfl, fun base _ _ => ok_law (tx_mk X G a_kept_block l_kept_block c_kept_block k_kept_block a_least_commands l_least_commands c_least_commands k_least_commands a_law_tape l_law_tape c_law_tape k_law_tape a_law_draw l_law_draw c_law_draw k_law_draw a_law_name l_law_name c_law_name k_law_name a_law_names l_law_names c_law_names k_law_names a_law_script l_law_script c_law_script k_law_script a_law_path l_law_path c_law_path k_law_path a_law_run l_law_run c_law_run k_law_run a_law_is_integer l_law_is_integer c_law_is_integer k_law_is_integer a_law_commands l_law_commands c_law_commands k_law_commands a_law_distance l_law_distance c_law_distance k_law_distance a_law l_law c_law k_law z_abs z_bool z_enumerate z_int z_isinstance z_len z_list z_max z_range)⟩
end GL
open PySem PySem.W PyProof.Rows
set_option maxHeartbeats 0 in
theorem PySem.Challenge.cw_endplaces_k44_whole_no_shorter_route_holds : PySem.Challenge.rw_endplaces_k44_whole_no_shorter_route.Holds := by
  w_on; o_law; k_head; (case hw => w_witness2)
  k_fill
  refine G.walk_G (l := PySem.Challenge.rw_endplaces_k44_whole_no_shorter_route) (n := 63) (k := 4) (x := "_law_script_here") rfl (by decide) rfl ⟨rfl, by decide, by decide⟩ (fun w h Y => PySem.W.kIn_of Y) ?F
  case F =>
    intro w mg fa h KX G hmg
    refine' GL.all_mk KX G hmg ?a_kept_block ?l_kept_block ?c_kept_block ?k_kept_block ?a_least_commands ?l_least_commands ?c_least_commands ?k_least_commands ?a_law_tape ?l_law_tape ?c_law_tape ?k_law_tape ?a_law_draw ?l_law_draw ?c_law_draw ?k_law_draw ?a_law_name ?l_law_name ?c_law_name ?k_law_name ?a_law_names ?l_law_names ?c_law_names ?k_law_names ?a_law_script ?l_law_script ?c_law_script ?k_law_script ?a_law_path ?l_law_path ?c_law_path ?k_law_path ?a_law_run ?l_law_run ?c_law_run ?k_law_run ?a_law_is_integer ?l_law_is_integer ?c_law_is_integer ?k_law_is_integer ?a_law_commands ?l_law_commands ?c_law_commands ?k_law_commands ?a_law_distance ?l_law_distance ?c_law_distance ?k_law_distance ?a_law ?l_law ?c_law ?k_law ?z_abs ?z_bool ?z_enumerate ?z_int ?z_isinstance ?z_len ?z_list ?z_max ?z_range
    (case a_kept_block => k_is)
    (case l_kept_block => k_is)
    (case c_kept_block => k_is)
    (case k_kept_block => k_is)
    (case a_least_commands => k_is)
    (case l_least_commands => k_is)
    (case c_least_commands => k_is)
    (case k_least_commands => k_is)
    (case a_law_tape => k_is)
    (case l_law_tape => k_is)
    (case c_law_tape => k_is)
    (case k_law_tape => k_is)
    (case a_law_draw => k_is)
    (case l_law_draw => k_is)
    (case c_law_draw => k_is)
    (case k_law_draw => k_is)
    (case a_law_name => k_is)
    (case l_law_name => k_is)
    (case c_law_name => k_is)
    (case k_law_name => k_is)
    (case a_law_names => k_is)
    (case l_law_names => k_is)
    (case c_law_names => k_is)
    (case k_law_names => k_is)
    (case a_law_script => k_is)
    (case l_law_script => k_is)
    (case c_law_script => k_is)
    (case k_law_script => k_is)
    (case a_law_path => k_is)
    (case l_law_path => k_is)
    (case c_law_path => k_is)
    (case k_law_path => k_is)
    (case a_law_run => k_is)
    (case l_law_run => k_is)
    (case c_law_run => k_is)
    (case k_law_run => k_is)
    (case a_law_is_integer => k_is)
    (case l_law_is_integer => k_is)
    (case c_law_is_integer => k_is)
    (case k_law_is_integer => k_is)
    (case a_law_commands => k_is)
    (case l_law_commands => k_is)
    (case c_law_commands => k_is)
    (case k_law_commands => k_is)
    (case a_law_distance => k_is)
    (case l_law_distance => k_is)
    (case c_law_distance => k_is)
    (case k_law_distance => k_is)
    (case a_law => k_is)
    (case l_law => k_is)
    (case c_law => k_is)
    (case k_law => k_is)
    (case z_abs => k_is)
    (case z_bool => k_is)
    (case z_enumerate => k_is)
    (case z_int => k_is)
    (case z_isinstance => k_is)
    (case z_len => k_is)
    (case z_list => k_is)
    (case z_max => k_is)
    (case z_range => k_is)
