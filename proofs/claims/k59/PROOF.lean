import PyProof.Rows.All
import Wide.All
import OpenK.AllK
import Wide.FinOn
import HandS.ForMost
import HandS.Exc
import HandS.Style
import HandS.More
import HandS.Conv
import HandS.ListItems
import HandS.SortInts
import HandS.ListEq
import HandS.DictEq
import HandS.Text
import HandS.Iter
import HandS.Small
import HandS.Comp
import HandS.DictComp
import HandS.SetFor
import HandS.Strs
import HandS.Words
import HandS.ExcOwn
import HandS.TryOnly
import HandS.SetKeys
import HandS.IsInst
import PySem.Challenge.RW_sameinsameout_k59_whole_fleets_brought_a
set_option Elab.async false
set_option linter.all false
set_option maxRecDepth 100000
set_option maxHeartbeats 4000000
/-! PDa: pure data over the hand layer: data D, the memory of objects that may change, states, what stands for what. -/
noncomputable section
namespace PD
open PySem L2

/-- data without a heap: never changed once it is made -/
inductive D where
  | non | bl (b : Bool) | int (i : Int) | str (x : Str)
  | lst (xs : List D) | tup (xs : List D)
  | dK (kvs : List (Key × D)) | dT (kvs : List (List Key × D))
  /-- a list that is only read (the script) -/
  | sl (xs : List D)
/-- a value: data, an object that may change (by its number in the memory), an address that is known -/
inductive W where
  | fz (d : D) | ob (n : Nat) | ad (a : Addr)
/-- an object that may change -/
inductive MO where
  | lst (xs : List D) | dK (kvs : List (Key × D)) | dT (kvs : List (List Key × D)) | lw (xs : List W) | dw (kvs : List (Key × W)) | ins (c : Nat) (fs : List (Str × W)) | lk (m : MO) | dead
/-- an exception: its class by number, its fields -/
structure Exc where
  c : Nat
  fs : List (Str × D)
structure S where
  r : List (Option W)
  m : List MO

/-! ### what stands for what -/
section
variable (K : PySem.W.Frag) (F : Hp)
mutual
inductive Rep : D → V → Prop
  | non : Rep .non .non
  | bl (b : Bool) : Rep (.bl b) (.bl b)
  | int (i : Int) : Rep (.int i) (.int i)
  | str (x : Str) : Rep (.str x) (.str x)
  | lst {a : Addr} {vs : List V} {ds : List D} : F a = some (.lst vs) → Reps ds vs → Rep (.lst ds) (.ref a)
  | sl {a : Addr} {vs : List V} {ds : List D} : SqL K F a vs → Reps ds vs → Rep (.sl ds) (.ref a)
  | tup {a : Addr} {vs : List V} {ds : List D} : SqT K F a vs → Reps ds vs → Rep (.tup ds) (.ref a)
  | dK {a : Addr} {vs : List (Key × V)} {ds : List (Key × D)} : F a = some (.dK vs) → RepK ds vs → Rep (.dK ds) (.ref a)
  | dT {a : Addr} {vs : List (List Key × V)} {ds : List (List Key × D)} : F a = some (.dT vs) → RepT ds vs → Rep (.dT ds) (.ref a)
inductive Reps : List D → List V → Prop
  | nil : Reps [] []
  | cons {d : D} {v : V} {ds : List D} {vs : List V} : Rep d v → Reps ds vs → Reps (d :: ds) (v :: vs)
inductive RepK : List (Key × D) → List (Key × V) → Prop
  | nil : RepK [] []
  | cons {k : Key} {d : D} {v : V} {ds : List (Key × D)} {vs : List (Key × V)} : Rep d v → RepK ds vs → RepK ((k, d) :: ds) ((k, v) :: vs)
inductive RepT : List (List Key × D) → List (List Key × V) → Prop
  | nil : RepT [] []
  | cons {k : List Key} {d : D} {v : V} {ds : List (List Key × D)} {vs : List (List Key × V)} : Rep d v → RepT ds vs → RepT ((k, d) :: ds) ((k, v) :: vs)
end
end

def Ex (F F' : Hp) : Prop := ∀ a o, F a = some o → F' a = some o
theorem Ex.refl (F : Hp) : Ex F F := fun _ _ h => h
theorem Ex.trans {F G H : Hp} (a : Ex F G) (b : Ex G H) : Ex F H := fun x o h => b x o (a x o h)
theorem Ex.new {H : Hp} {p : Addr} {o : HO} (h : H p = none) : Ex H (upd H p o) := fun a u e => by
  rw [upd_ne (ne_of_none e h)]
  exact e
theorem Ex.rd {H H' : Hp} {a : Addr} {u : HO} (e : Ex H H') (h : Rd H a u) : Rd H' a u := by
  rcases h with h | ⟨o, h⟩
  · exact .inl (e a _ h)
  · exact .inr ⟨o, e a _ h⟩
section
variable {K : PySem.W.Frag} {F F' : Hp}
theorem Ex.sl {a : Addr} {xs : List V} (e : Ex F F') (h : SqL K F a xs) : SqL K F' a xs := by
  rcases h with h | h
  · exact .inl (e.rd h)
  · exact .inr h
theorem Ex.st {a : Addr} {xs : List V} (e : Ex F F') (h : SqT K F a xs) : SqT K F' a xs := by
  rcases h with h | h
  · exact .inl (e.rd h)
  · exact .inr h
mutual
theorem Rep.mono (e : Ex F F') : ∀ {d : D} {v : V}, Rep K F d v → Rep K F' d v
  | _, _, .non => .non
  | _, _, .bl b => .bl b
  | _, _, .int i => .int i
  | _, _, .str x => .str x
  | _, _, .lst h r => .lst (e _ _ h) (Reps.mono e r)
  | _, _, .sl h r => .sl (e.sl h) (Reps.mono e r)
  | _, _, .tup h r => .tup (e.st h) (Reps.mono e r)
  | _, _, .dK h r => .dK (e _ _ h) (RepK.mono e r)
  | _, _, .dT h r => .dT (e _ _ h) (RepT.mono e r)
theorem Reps.mono (e : Ex F F') : ∀ {d : List D} {v : List V}, Reps K F d v → Reps K F' d v
  | _, _, .nil => .nil
  | _, _, .cons h r => .cons (Rep.mono e h) (Reps.mono e r)
theorem RepK.mono (e : Ex F F') : ∀ {d : List (Key × D)} {v : List (Key × V)}, RepK K F d v → RepK K F' d v
  | _, _, .nil => .nil
  | _, _, .cons h r => .cons (Rep.mono e h) (RepK.mono e r)
theorem RepT.mono (e : Ex F F') : ∀ {d : List (List Key × D)} {v : List (List Key × V)}, RepT K F d v → RepT K F' d v
  | _, _, .nil => .nil
  | _, _, .cons h r => .cons (Rep.mono e h) (RepT.mono e r)
end
theorem Reps.length : ∀ {ds : List D} {vs : List V}, Reps K F ds vs → ds.length = vs.length
  | _, _, .nil => rfl
  | _, _, .cons _ r => by simp [Reps.length r]
theorem RepK.length : ∀ {ds : List (Key × D)} {vs : List (Key × V)}, RepK K F ds vs → ds.length = vs.length
  | _, _, .nil => rfl
  | _, _, .cons _ r => by simp [RepK.length r]
theorem RepT.length : ∀ {ds : List (List Key × D)} {vs : List (List Key × V)}, RepT K F ds vs → ds.length = vs.length
  | _, _, .nil => rfl
  | _, _, .cons _ r => by simp [RepT.length r]
theorem Reps.get : ∀ {ds : List D} {vs : List V} {i : Nat} {d : D}, Reps K F ds vs → ds[i]? = some d → ∃ v, vs[i]? = some v ∧ Rep K F d v
  | _, _, _, _, .nil, e => by simp at e
  | _, _, 0, _, .cons h _, e => by simp at e; subst e; exact ⟨_, rfl, h⟩
  | _, _, i + 1, _, .cons _ r, e => by simpa using Reps.get (i := i) r (by simpa using e)
theorem Reps.get' : ∀ {ds : List D} {vs : List V} {i : Nat} {v : V}, Reps K F ds vs → vs[i]? = some v → ∃ d, ds[i]? = some d ∧ Rep K F d v
  | _, _, _, _, .nil, e => by simp at e
  | _, _, 0, _, .cons h _, e => by simp at e; subst e; exact ⟨_, rfl, h⟩
  | _, _, i + 1, _, .cons _ r, e => by simpa using Reps.get' (i := i) r (by simpa using e)
theorem Reps.append : ∀ {ds es : List D} {vs ws : List V}, Reps K F ds vs → Reps K F es ws → Reps K F (ds ++ es) (vs ++ ws)
  | _, _, _, _, .nil, s => s
  | _, _, _, _, .cons h r, s => .cons h (Reps.append r s)
theorem Reps.snoc {ds : List D} {vs : List V} {d : D} {v : V} (h : Reps K F ds vs) (r : Rep K F d v) : Reps K F (ds ++ [d]) (vs ++ [v]) := h.append (.cons r .nil)
theorem Reps.take : ∀ {ds : List D} {vs : List V} (n : Nat), Reps K F ds vs → Reps K F (ds.take n) (vs.take n)
  | _, _, 0, _ => by simpa using Reps.nil
  | _, _, _ + 1, .nil => .nil
  | _, _, n + 1, .cons h r => .cons h (Reps.take n r)
theorem Reps.drop : ∀ {ds : List D} {vs : List V} (n : Nat), Reps K F ds vs → Reps K F (ds.drop n) (vs.drop n)
  | _, _, 0, h => by simpa using h
  | _, _, _ + 1, .nil => .nil
  | _, _, n + 1, .cons _ r => Reps.drop n r
end

/-- the frozen part as it stands in the heap: a dict may be locked while it is walked -/
def isD : HO → Bool
  | .dK _ => true
  | .dT _ => true
  | _ => false
def ExR (F H : Hp) : Prop := ∀ a u, F a = some u → H a = some u ∨ (isD u = true ∧ ∃ o, H a = some (.frz o u))
theorem ExR.ne {F H : Hp} (e : ExR F H) {a : Addr} {u : HO} (h : F a = some u) : H a ≠ none := by
  rcases e a u h with h | ⟨_, o, h⟩ <;> rw [h] <;> exact fun z => nomatch z
theorem ExR.rd {F H : Hp} (e : ExR F H) {a : Addr} {u : HO} (h : F a = some u) : Rd H a u := by
  rcases e a u h with h | ⟨_, h⟩
  · exact .inl h
  · exact .inr h
theorem ExR.at {F H : Hp} (e : ExR F H) {a : Addr} {u : HO} (h : F a = some u) (n : isD u = false) : H a = some u := by
  rcases e a u h with h | ⟨d, _⟩
  · exact h
  · rw [n] at d; cases d
section
variable {K : PySem.W.Frag} {F H : Hp}
theorem ExR.sl (e : ExR F H) {a : Addr} {xs : List V} (h : SqL K F a xs) : SqL K H a xs := by
  rcases h with (h | ⟨o, h⟩) | h
  · exact .inl (.inl (e.at h rfl))
  · exact .inl (.inr ⟨o, e.at h rfl⟩)
  · exact .inr h
theorem ExR.st (e : ExR F H) {a : Addr} {xs : List V} (h : SqT K F a xs) : SqT K H a xs := by
  rcases h with (h | ⟨o, h⟩) | h
  · exact .inl (.inl (e.at h rfl))
  · exact .inl (.inr ⟨o, e.at h rfl⟩)
  · exact .inr h
end

/-! ### values, objects, the memory -/
section
variable (K : PySem.W.Frag) (C : Nat → Addr) (F : Hp) (A : List Addr)
inductive RepW : W → V → Prop
  | fz {d : D} {v : V} : Rep K F d v → RepW (.fz d) v
  | ob {n : Nat} {a : Addr} : A[n]? = some a → RepW (.ob n) (.ref a)
  | ad {a : Addr} : RepW (.ad a) (.ref a)
abbrev RepWs : List W → List V → Prop := Paired (RepW K F A)
def HoRep : MO → HO → Prop
  | .lst ds, o => ∃ vs, o = .lst vs ∧ Reps K F ds vs
  | .dK ds, o => ∃ vs, o = .dK vs ∧ RepK K F ds vs
  | .dT ds, o => ∃ vs, o = .dT vs ∧ RepT K F ds vs
  | .lw ws, o => ∃ vs, o = .lst vs ∧ RepWs K F A ws vs
  | .dw ws, o => ∃ vs, o = .dK vs ∧ Paired (fun (p : Key × W) (q : Key × V) => p.1 = q.1 ∧ RepW K F A p.2 q.2) ws vs
  | .ins c ws, o => ∃ dx vs, o = .ins (C c) dx vs ∧ Paired (fun (p : Str × W) (q : Str × V) => p.1 = q.1 ∧ RepW K F A p.2 q.2) ws vs
  | .lk m, o => ∃ ob u, o = .frz ob u ∧ HoRep m u
  | .dead, _ => True
end
section
variable {K : PySem.W.Frag} {C : Nat → Addr} {F F' : Hp} {A A' : List Addr}
theorem pre_get {A A' : List Addr} (h : A <+: A') {n : Nat} {a : Addr} (e : A[n]? = some a) : A'[n]? = some a := by
  obtain ⟨t, rfl⟩ := h
  obtain ⟨hn, _⟩ := List.getElem?_eq_some_iff.mp e
  rw [List.getElem?_append_left hn]
  exact e
theorem RepW.mono (e : Ex F F') (p : A <+: A') {w : W} {v : V} (h : RepW K F A w v) : RepW K F' A' w v := by
  cases h with
  | fz h => exact .fz (h.mono e)
  | ob h => exact .ob (pre_get p h)
  | ad => exact .ad
theorem RepWs.mono (e : Ex F F') (p : A <+: A') {w : List W} {v : List V} (h : RepWs K F A w v) : RepWs K F' A' w v := L2.Paired.mapP h fun _ _ r => r.mono e p
theorem HoRep.mono (e : Ex F F') (p : A <+: A') : ∀ {m : MO} {o : HO}, HoRep K C F A m o → HoRep K C F' A' m o
  | .lst ds, o, ⟨vs, h1, h2⟩ => ⟨vs, h1, h2.mono e⟩
  | .dK ds, o, ⟨vs, h1, h2⟩ => ⟨vs, h1, h2.mono e⟩
  | .dT ds, o, ⟨vs, h1, h2⟩ => ⟨vs, h1, h2.mono e⟩
  | .lw ws, o, ⟨vs, h1, h2⟩ => ⟨vs, h1, RepWs.mono e p h2⟩
  | .dw ws, o, ⟨vs, h1, h2⟩ => ⟨vs, h1, L2.Paired.mapP h2 fun _ _ r => ⟨r.1, r.2.mono e p⟩⟩
  | .ins c ws, o, ⟨dx, vs, h1, h2⟩ => ⟨dx, vs, h1, L2.Paired.mapP h2 fun _ _ r => ⟨r.1, r.2.mono e p⟩⟩
  | .lk m, o, ⟨ob, u, h1, h2⟩ => ⟨ob, u, h1, HoRep.mono e p h2⟩
  | .dead, _, _ => trivial
end

def isDead : MO → Bool
  | .dead => true
  | _ => false
def isFrz : HO → Bool
  | .frz _ _ => true
  | _ => false
/-- the memory's objects stand in the heap; G: what is to stay as it is besides -/
structure SimM (K : PySem.W.Frag) (C : Nat → Addr) (F : Hp) (A : List Addr) (G : Hp) (M : List MO) (H : Hp) : Prop where
  ex : ExR F H
  gd : Ex G H
  len : A.length = M.length
  nd : A.Nodup
  ob : ∀ (n : Nat) (a : Addr) (m : MO), A[n]? = some a → M[n]? = some m → ∃ o, H a = some o ∧ HoRep K C F A m o
  own : ∀ (n : Nat) (a : Addr) (m : MO), A[n]? = some a → M[n]? = some m → isDead m = false → F a = none ∧ G a = none
  gF : ∀ (a : Addr) (u : HO), F a = some u → ∀ o, G a = some o → isFrz o = true
  gA : ∀ (a : Addr), a ∈ A → ∀ o, G a = some o → isFrz o = true
structure Sim (K : PySem.W.Frag) (C : Nat → Addr) (F : Hp) (A : List Addr) (G : Hp) (s : S) (σ : L2.St) (H : Hp) : Prop where
  mem : SimM K C F A G s.m H
  len : s.r.length = σ.length
  slot : ∀ (i : Nat) (w : W), s.r[i]? = some (some w) → ∃ v, σ[i]? = some (some v) ∧ RepW K F A w v
section
variable {K : PySem.W.Frag} {C : Nat → Addr} {F F' G H H' : Hp} {A A' : List Addr} {M M' : List MO} {s : S} {σ : L2.St}
theorem SimM.objs (h : SimM K C F A G M H) {n : Nat} {a : Addr} (e : A[n]? = some a) : H a ≠ none := by
  have hn : n < M.length := by rw [← h.len]; exact (List.getElem?_eq_some_iff.mp e).1
  obtain ⟨o, e', _⟩ := h.ob n a M[n] e (List.getElem?_eq_getElem hn)
  rw [e']
  exact fun z => nomatch z
theorem SimM.mem (h : SimM K C F A G M H) {a : Addr} (e : a ∈ A) : H a ≠ none := by
  obtain ⟨n, e⟩ := List.getElem?_of_mem e
  exact h.objs e
theorem SimM.fresh (h : SimM K C F A G M H) {p : Addr} (hp : H p = none) : F p = none ∧ G p = none ∧ p ∉ A := by
  refine ⟨?_, ?_, fun z => h.mem z hp⟩
  · cases e : F p with
    | none => rfl
    | some u => exact absurd hp (h.ex.ne e)
  · cases e : G p with
    | none => rfl
    | some u => rw [h.gd p u e] at hp; cases hp
/-- a new frozen object -/
theorem SimM.allocF (h : SimM K C F A G M H) {p : Addr} {o : HO} (hp : H p = none) : SimM K C (upd F p o) A G M (upd H p o) := by
  obtain ⟨f1, f2, f3⟩ := h.fresh hp
  have nA : ∀ {n : Nat} {a : Addr}, A[n]? = some a → a ≠ p := fun e z => f3 (z ▸ List.mem_of_getElem? e)
  refine ⟨fun a u e => ?_, h.gd.trans (Ex.new hp), h.len, h.nd, fun n a m e1 e2 => ?_, fun n a m e1 e2 e3 => ?_, fun a u e o g => ?_, h.gA⟩
  rotate_right
  · by_cases ha : a = p
    · subst ha; rw [f2] at g; cases g
    · rw [upd_ne ha] at e; exact h.gF a u e o g
  · by_cases ha : a = p
    · subst ha
      rw [upd_same] at e ⊢
      exact .inl e
    · rw [upd_ne ha] at e
      rw [upd_ne ha]
      exact h.ex a u e
  · obtain ⟨u, e, r⟩ := h.ob n a m e1 e2
    exact ⟨u, by rw [upd_ne (nA e1)]; exact e, r.mono (Ex.new f1) (List.prefix_refl _)⟩
  · obtain ⟨q1, q2⟩ := h.own n a m e1 e2 e3
    exact ⟨by rw [upd_ne (nA e1)]; exact q1, q2⟩
/-- a new object that may change -/
theorem SimM.allocO (h : SimM K C F A G M H) {p : Addr} {o : HO} {m : MO} (hp : H p = none) (r : HoRep K C F (A ++ [p]) m o) : SimM K C F (A ++ [p]) G (M ++ [m]) (upd H p o) := by
  obtain ⟨f1, f2, f3⟩ := h.fresh hp
  have nA : ∀ {n : Nat} {a : Addr}, A[n]? = some a → a ≠ p := fun e z => f3 (z ▸ List.mem_of_getElem? e)
  have pr : A <+: A ++ [p] := List.prefix_append _ _
  have cs : ∀ {n : Nat} {a : Addr} {m' : MO}, (A ++ [p])[n]? = some a → (M ++ [m])[n]? = some m' → (A[n]? = some a ∧ M[n]? = some m') ∨ (a = p ∧ m' = m) := fun {n a m'} e1 e2 => by
    by_cases hn : n < A.length
    · rw [List.getElem?_append_left hn] at e1
      rw [List.getElem?_append_left (by rw [← h.len]; exact hn)] at e2
      exact .inl ⟨e1, e2⟩
    · have hl := h.len
      rw [List.getElem?_append_right (by omega)] at e1 e2
      have h1 : n - A.length = 0 := by
        have := (List.getElem?_eq_some_iff.mp e1).1
        simp at this
        omega
      rw [← hl] at e2
      rw [h1] at e1 e2
      simp at e1 e2
      exact .inr ⟨e1.symm, e2.symm⟩
  refine ⟨fun a u e => ?_, h.gd.trans (Ex.new hp), by simp [h.len], List.nodup_append.mpr ⟨h.nd, by simp, fun a ha b hb => by simp at hb; subst hb; exact fun z => f3 (z ▸ ha)⟩, fun n a m' e1 e2 => ?_, fun n a m' e1 e2 e3 => ?_, h.gF, fun a ha o g => ?_⟩
  rotate_right
  · rcases List.mem_append.mp ha with ha | ha
    · exact h.gA a ha o g
    · obtain rfl : a = p := by simpa using ha
      rw [f2] at g; cases g
  · have ha : a ≠ p := fun z => by subst z; rw [f1] at e; cases e
    rw [upd_ne ha]
    exact h.ex a u e
  · rcases cs e1 e2 with ⟨e1, e2⟩ | ⟨rfl, rfl⟩
    · obtain ⟨u, e, r⟩ := h.ob n a m' e1 e2
      exact ⟨u, by rw [upd_ne (nA e1)]; exact e, r.mono (Ex.refl _) pr⟩
    · exact ⟨o, upd_same, r⟩
  · rcases cs e1 e2 with ⟨e1, e2⟩ | ⟨rfl, rfl⟩
    · exact h.own n a m' e1 e2 e3
    · exact ⟨f1, f2⟩
/-- an object is written -/
theorem SimM.write (h : SimM K C F A G M H) {n : Nat} {a : Addr} {m m' : MO} {o : HO} (ha : A[n]? = some a) (hm : M[n]? = some m) (hd : isDead m = false) (r : HoRep K C F A m' o) : SimM K C F A G (M.set n m') (upd H a o) := by
  obtain ⟨f1, f2⟩ := h.own n a m ha hm hd
  have hlA : n < A.length := (List.getElem?_eq_some_iff.mp ha).1
  have inj : ∀ {k : Nat}, A[k]? = some a → k = n := fun {k} e => by
    obtain ⟨h1, e1⟩ := List.getElem?_eq_some_iff.mp e
    obtain ⟨h2, e2⟩ := List.getElem?_eq_some_iff.mp ha
    exact (List.getElem_inj h.nd).mp (e1.trans e2.symm)
  have cs : ∀ {k : Nat} {b : Addr} {m1 : MO}, A[k]? = some b → (M.set n m')[k]? = some m1 → (k ≠ n ∧ b ≠ a ∧ M[k]? = some m1) ∨ (k = n ∧ b = a ∧ m1 = m') := fun {k b m1} e1 e2 => by
    by_cases hk : k = n
    · subst hk
      rw [ha] at e1; cases e1
      rw [List.getElem?_set_self (by rw [← h.len]; exact hlA)] at e2; cases e2
      exact .inr ⟨rfl, rfl, rfl⟩
    · rw [List.getElem?_set_ne (Ne.symm hk)] at e2
      exact .inl ⟨hk, fun z => hk (inj (z ▸ e1)), e2⟩
  refine ⟨fun b u e => ?_, fun b u e => ?_, by simp [h.len], h.nd, fun k b m1 e1 e2 => ?_, fun k b m1 e1 e2 e3 => ?_, h.gF, h.gA⟩
  · rw [upd_ne (fun z => by rw [z, f1] at e; cases e)]
    exact h.ex b u e
  · rw [upd_ne (fun z => by rw [z, f2] at e; cases e)]
    exact h.gd b u e
  · rcases cs e1 e2 with ⟨_, hb, e2⟩ | ⟨rfl, rfl, rfl⟩
    · rw [upd_ne hb]
      exact h.ob k b m1 e1 e2
    · exact ⟨o, upd_same, r⟩
  · rcases cs e1 e2 with ⟨_, hb, e2⟩ | ⟨rfl, rfl, rfl⟩
    · exact h.own k b m1 e1 e2 e3
    · exact ⟨f1, f2⟩
/-- an object becomes data -/
theorem SimM.freeze (h : SimM K C F A G M H) {n : Nat} {a : Addr} {m : MO} {o : HO} (ha : A[n]? = some a) (hm : M[n]? = some m) (hd : isDead m = false) (hH : H a = some o) : Ex F (upd F a o) ∧ SimM K C (upd F a o) A G (M.set n .dead) H := by
  obtain ⟨f1, f2⟩ := h.own n a m ha hm hd
  have hlA : n < A.length := (List.getElem?_eq_some_iff.mp ha).1
  have inj : ∀ {k : Nat}, A[k]? = some a → k = n := fun {k} e => by
    obtain ⟨h1, e1⟩ := List.getElem?_eq_some_iff.mp e
    obtain ⟨h2, e2⟩ := List.getElem?_eq_some_iff.mp ha
    exact (List.getElem_inj h.nd).mp (e1.trans e2.symm)
  have cs : ∀ {k : Nat} {b : Addr} {m1 : MO}, A[k]? = some b → (M.set n .dead)[k]? = some m1 → (k ≠ n ∧ b ≠ a ∧ M[k]? = some m1) ∨ (k = n ∧ b = a ∧ m1 = .dead) := fun {k b m1} e1 e2 => by
    by_cases hk : k = n
    · subst hk
      rw [ha] at e1; cases e1
      rw [List.getElem?_set_self (by rw [← h.len]; exact hlA)] at e2; cases e2
      exact .inr ⟨rfl, rfl, rfl⟩
    · rw [List.getElem?_set_ne (Ne.symm hk)] at e2
      exact .inl ⟨hk, fun z => hk (inj (z ▸ e1)), e2⟩
  refine ⟨Ex.new f1, fun b u e => ?_, h.gd, by simp [h.len], h.nd, fun k b m1 e1 e2 => ?_, fun k b m1 e1 e2 e3 => ?_, fun b u e o g => ?_, h.gA⟩
  rotate_right
  · by_cases hb : b = a
    · subst hb; rw [f2] at g; cases g
    · rw [upd_ne hb] at e; exact h.gF b u e o g
  · by_cases hb : b = a
    · subst hb
      rw [upd_same] at e; cases e
      exact .inl hH
    · rw [upd_ne hb] at e
      exact h.ex b u e
  · rcases cs e1 e2 with ⟨_, hb, e2⟩ | ⟨rfl, rfl, rfl⟩
    · obtain ⟨u, e, r⟩ := h.ob k b m1 e1 e2
      exact ⟨u, e, r.mono (Ex.new f1) (List.prefix_refl _)⟩
    · exact ⟨o, hH, trivial⟩
  · rcases cs e1 e2 with ⟨_, hb, e2⟩ | ⟨rfl, rfl, rfl⟩
    · rw [upd_ne hb]
      exact h.own k b m1 e1 e2 e3
    · cases e3
/-- something more is to stay as it is -/
theorem SimM.guard (h : SimM K C F A G M H) {p : Addr} {o : HO} (hp : H p = none) : SimM K C F A (upd G p o) M (upd H p o) := by
  obtain ⟨f1, f2, f3⟩ := h.fresh hp
  have nA : ∀ {n : Nat} {a : Addr}, A[n]? = some a → a ≠ p := fun e z => f3 (z ▸ List.mem_of_getElem? e)
  refine ⟨fun a u e => ?_, fun a u e => ?_, h.len, h.nd, fun n a m e1 e2 => ?_, fun n a m e1 e2 e3 => ?_, fun a u e o g => ?_, fun a ha o g => ?_⟩
  rotate_right 2
  · rw [upd_ne (fun z => by subst z; rw [f1] at e; cases e)] at g
    exact h.gF a u e o g
  · rw [upd_ne (fun z => f3 (by rw [← z]; exact ha))] at g
    exact h.gA a ha o g
  · rw [upd_ne (fun z => by subst z; rw [f1] at e; cases e)]
    exact h.ex a u e
  · by_cases ha : a = p
    · subst ha
      rw [upd_same] at e ⊢
      exact e
    · rw [upd_ne ha] at e
      rw [upd_ne ha]
      exact h.gd a u e
  · obtain ⟨u, e, r⟩ := h.ob n a m e1 e2
    exact ⟨u, by rw [upd_ne (nA e1)]; exact e, r⟩
  · obtain ⟨q1, q2⟩ := h.own n a m e1 e2 e3
    exact ⟨q1, by rw [upd_ne (nA e1)]; exact q2⟩
/-- what was guarded is changed (it is neither data nor in the memory) -/
theorem SimM.gwrite (h : SimM K C F A (upd G p o) M H) (hF : F p = none) (hA : p ∉ A) : SimM K C F A (upd G p o') M (upd H p o') := by
  have nA : ∀ {n : Nat} {a : Addr}, A[n]? = some a → a ≠ p := fun e z => hA (z ▸ List.mem_of_getElem? e)
  refine ⟨fun a u e => ?_, fun a u e => ?_, h.len, h.nd, fun n a m e1 e2 => ?_, fun n a m e1 e2 e3 => ?_, fun a u e o2 g => ?_, fun a ha o2 g => ?_⟩
  rotate_right 2
  · have ne : a ≠ p := fun z => by subst z; rw [hF] at e; cases e
    rw [upd_ne ne] at g
    exact h.gF a u e o2 (by rw [upd_ne ne]; exact g)
  · have ne : a ≠ p := fun z => hA (z ▸ ha)
    rw [upd_ne ne] at g
    exact h.gA a ha o2 (by rw [upd_ne ne]; exact g)
  · rw [upd_ne (fun z => by subst z; rw [hF] at e; cases e)]
    exact h.ex a u e
  · by_cases ha : a = p
    · subst ha
      rw [upd_same] at e ⊢
      exact e
    · rw [upd_ne ha] at e
      rw [upd_ne ha]
      exact h.gd a u (by rw [upd_ne ha]; exact e)
  · obtain ⟨u, e, r⟩ := h.ob n a m e1 e2
    exact ⟨u, by rw [upd_ne (nA e1)]; exact e, r⟩
  · obtain ⟨q1, q2⟩ := h.own n a m e1 e2 e3
    exact ⟨q1, by rw [upd_ne (nA e1)] at q2 ⊢; exact q2⟩
/-- what was guarded becomes data -/
theorem SimM.gfreeze (h : SimM K C F A (upd G p o) M H) (hF : F p = none) (hA : p ∉ A) (hG : G p = none) : Ex F (upd F p o) ∧ SimM K C (upd F p o) A G M H := by
  have nA : ∀ {n : Nat} {a : Addr}, A[n]? = some a → a ≠ p := fun e z => hA (z ▸ List.mem_of_getElem? e)
  refine ⟨Ex.new hF, fun a u e => ?_, fun a u e => h.gd a u (by rw [upd_ne (fun z => by subst z; rw [hG] at e; cases e)]; exact e), h.len, h.nd, fun n a m e1 e2 => ?_, fun n a m e1 e2 e3 => ?_, fun a u e o2 g => ?_, fun a ha o2 g => h.gA a ha o2 (by rw [upd_ne (fun z => hA (by rw [← z]; exact ha))]; exact g)⟩
  rotate_right
  · have ne : a ≠ p := fun z => by subst z; rw [hG] at g; cases g
    rw [upd_ne ne] at e
    exact h.gF a u e o2 (by rw [upd_ne ne]; exact g)
  · by_cases ha : a = p
    · subst ha
      rw [upd_same] at e; cases e
      exact .inl (h.gd a _ upd_same)
    · rw [upd_ne ha] at e
      exact h.ex a u e
  · obtain ⟨u, e, r⟩ := h.ob n a m e1 e2
    exact ⟨u, e, r.mono (Ex.new hF) (List.prefix_refl _)⟩
  · obtain ⟨q1, q2⟩ := h.own n a m e1 e2 e3
    exact ⟨by rw [upd_ne (nA e1)]; exact q1, by rw [upd_ne (nA e1)] at q2; exact q2⟩
/-- what was guarded becomes an object of the memory -/
theorem SimM.gobj (h : SimM K C F A (upd G p o) M H) (hF : F p = none) (hA : p ∉ A) (hG : G p = none) {m : MO} (r : HoRep K C F (A ++ [p]) m o) : SimM K C F (A ++ [p]) G (M ++ [m]) H := by
  have nA : ∀ {n : Nat} {a : Addr}, A[n]? = some a → a ≠ p := fun e z => hA (z ▸ List.mem_of_getElem? e)
  have pr : A <+: A ++ [p] := List.prefix_append _ _
  have cs : ∀ {n : Nat} {a : Addr} {m' : MO}, (A ++ [p])[n]? = some a → (M ++ [m])[n]? = some m' → (A[n]? = some a ∧ M[n]? = some m') ∨ (a = p ∧ m' = m) := fun {n a m'} e1 e2 => by
    by_cases hn : n < A.length
    · rw [List.getElem?_append_left hn] at e1
      rw [List.getElem?_append_left (by rw [← h.len]; exact hn)] at e2
      exact .inl ⟨e1, e2⟩
    · have hl := h.len
      rw [List.getElem?_append_right (by omega)] at e1 e2
      have h1 : n - A.length = 0 := by
        have := (List.getElem?_eq_some_iff.mp e1).1
        simp at this
        omega
      rw [← hl] at e2
      rw [h1] at e1 e2
      simp at e1 e2
      exact .inr ⟨e1.symm, e2.symm⟩
  refine ⟨h.ex, fun a u e => h.gd a u (by rw [upd_ne (fun z => by subst z; rw [hG] at e; cases e)]; exact e), by simp [h.len], List.nodup_append.mpr ⟨h.nd, by simp, fun a ha b hb => by simp at hb; subst hb; exact fun z => hA (z ▸ ha)⟩, fun n a m' e1 e2 => ?_, fun n a m' e1 e2 e3 => ?_, fun a u e o2 g => ?_, fun a ha o2 g => ?_⟩
  rotate_right 2
  · have ne : a ≠ p := fun z => by subst z; rw [hG] at g; cases g
    exact h.gF a u e o2 (by rw [upd_ne ne]; exact g)
  · have ne : a ≠ p := fun z => by subst z; rw [hG] at g; cases g
    rcases List.mem_append.mp ha with ha | ha
    · exact h.gA a ha o2 (by rw [upd_ne ne]; exact g)
    · exact absurd (by simpa using ha) ne
  · rcases cs e1 e2 with ⟨e1, e2⟩ | ⟨rfl, rfl⟩
    · obtain ⟨u, e, r⟩ := h.ob n a m' e1 e2
      exact ⟨u, e, r.mono (Ex.refl _) pr⟩
    · exact ⟨o, h.gd _ _ upd_same, r⟩
  · rcases cs e1 e2 with ⟨e1, e2⟩ | ⟨rfl, rfl⟩
    · obtain ⟨q1, q2⟩ := h.own n a m' e1 e2 e3
      exact ⟨q1, by rw [upd_ne (nA e1)] at q2; exact q2⟩
    · exact ⟨hF, hG⟩

/-! ### what is thrown away behind a def -/
def noLabW : W → Bool
  | .ob _ => false
  | _ => true
def noLab : MO → Bool
  | .lw xs => xs.all noLabW
  | .dw kvs => kvs.all fun p => noLabW p.2
  | .ins _ fs => fs.all fun p => noLabW p.2
  | .lk m => noLab m
  | _ => true
/-- the first objects are as they were, or hold no others -/
def OkDrop (M M' : List MO) : Prop := M.length ≤ M'.length ∧ ∀ k, k < M.length → M'[k]? = M[k]? ∨ ∃ m, M'[k]? = some m ∧ noLab m = true
open Classical in
def trunc (M M' : List MO) : Option (List MO) := if OkDrop M M' then some (M'.take M.length) else none
theorem RepW.cut {n : Nat} {w : W} {v : V} (h : RepW K F A' w v) (hw : noLabW w = true) : RepW K F (A'.take n) w v := by
  cases h with
  | fz h => exact .fz h
  | ob h => cases hw
  | ad => exact .ad
theorem HoRep.cut {n : Nat} : ∀ {m : MO} {o : HO}, HoRep K C F A' m o → noLab m = true → HoRep K C F (A'.take n) m o
  | .lst ds, o, h, _ => h
  | .dK ds, o, h, _ => h
  | .dT ds, o, h, _ => h
  | .dead, _, _, _ => trivial
  | .lk m, o, ⟨ob, u, h1, h2⟩, q => ⟨ob, u, h1, HoRep.cut h2 q⟩
  | .lw ws, o, ⟨vs, h1, h2⟩, q => ⟨vs, h1, by
      clear h1
      induction h2 with
      | nil => exact .nil
      | cons r _ ih =>
        have q : (noLabW _ && List.all _ noLabW) = true := q
        rw [Bool.and_eq_true] at q
        exact .cons (r.cut q.1) (ih q.2)⟩
  | .dw ws, o, ⟨vs, h1, h2⟩, q => ⟨vs, h1, by
      clear h1
      induction h2 with
      | nil => exact .nil
      | cons r _ ih =>
        have q : (noLabW _ && List.all _ fun (p : Key × W) => noLabW p.2) = true := q
        rw [Bool.and_eq_true] at q
        exact .cons ⟨r.1, r.2.cut q.1⟩ (ih q.2)⟩
  | .ins c ws, o, ⟨dx, vs, h1, h2⟩, q => ⟨dx, vs, h1, by
      clear h1
      induction h2 with
      | nil => exact .nil
      | cons r _ ih =>
        have q : (noLabW _ && List.all _ fun (p : Str × W) => noLabW p.2) = true := q
        rw [Bool.and_eq_true] at q
        exact .cons ⟨r.1, r.2.cut q.1⟩ (ih q.2)⟩
/-- a value's own mention of an object is there in the shorter memory -/
theorem RepW.down {w : W} {v : V} (p : A <+: A') (h0 : ∃ v0, RepW K F A w v0) (h : RepW K F' A' w v) : RepW K F' A w v := by
  cases h with
  | fz h => exact .fz h
  | @ob n a h =>
    obtain ⟨v0, h0⟩ := h0
    cases h0 with
    | ob e =>
      have e' := pre_get p e
      rw [h] at e'
      cases e'
      exact .ob e
  | ad => exact .ad
theorem Paired.down {α β : Type} {P Q R : α → β → Prop} {P0 : α → β → Prop} : ∀ {xs : List α} {ys : List β} {zs : List β}, Paired P0 xs zs → Paired P xs ys → (∀ a b c, P0 a c → P a b → R a b) → Paired R xs ys
  | _, _, _, .nil, .nil, _ => .nil
  | _, _, _, .cons r0 t0, .cons r t, f => .cons (f _ _ _ r0 r) (Paired.down (Q := Q) t0 t f)
theorem HoRep.down (p : A <+: A') : ∀ {m : MO} {o o0 : HO}, HoRep K C F A m o0 → HoRep K C F' A' m o → HoRep K C F' A m o
  | .lst ds, o, _, _, h => h
  | .dK ds, o, _, _, h => h
  | .dT ds, o, _, _, h => h
  | .dead, _, _, _, _ => trivial
  | .lk m, o, _, ⟨_, _, _, h0⟩, ⟨ob, u, h1, h2⟩ => ⟨ob, u, h1, HoRep.down p h0 h2⟩
  | .lw ws, o, _, ⟨_, _, h0⟩, ⟨vs, h1, h2⟩ => ⟨vs, h1, Paired.down (Q := fun _ _ => True) h0 h2 fun _ _ _ a b => RepW.down p ⟨_, a⟩ b⟩
  | .dw ws, o, _, ⟨_, _, h0⟩, ⟨vs, h1, h2⟩ => ⟨vs, h1, Paired.down (Q := fun _ _ => True) h0 h2 fun _ _ _ a b => ⟨b.1, RepW.down p ⟨_, a.2⟩ b.2⟩⟩
  | .ins c ws, o, _, ⟨_, _, _, h0⟩, ⟨dx, vs, h1, h2⟩ => ⟨dx, vs, h1, Paired.down (Q := fun _ _ => True) h0 h2 fun _ _ _ a b => ⟨b.1, RepW.down p ⟨_, a.2⟩ b.2⟩⟩
/-- what a def made and nobody holds is forgotten -/
theorem SimM.drop {H0 : Hp} (h0 : SimM K C F A G M H0) (e : Ex F F') (p : A <+: A') (h : SimM K C F' A' G M' H) {M2 : List MO} (t : trunc M M' = some M2) : SimM K C F' A G M2 H := by
  unfold trunc at t
  split at t
  · rename_i ok
    cases t
    obtain ⟨l, k⟩ := ok
    have hA : A'.take M.length = A := by
      rw [← h0.len]
      exact (List.prefix_iff_eq_take.mp p).symm
    have sub : ∀ {n : Nat} {a : Addr} {m : MO}, A[n]? = some a → (M'.take M.length)[n]? = some m → n < M.length ∧ A'[n]? = some a ∧ M'[n]? = some m := fun {n a m} e1 e2 => by
      have hn : n < M.length := by rw [← h0.len]; exact (List.getElem?_eq_some_iff.mp e1).1
      rw [List.getElem?_take_of_lt hn] at e2
      exact ⟨hn, pre_get p e1, e2⟩
    refine ⟨h.ex, h.gd, by rw [List.length_take, h0.len]; omega, h0.nd, fun n a m e1 e2 => ?_, fun n a m e1 e2 e3 => ?_, h.gF, fun a ha o g => h.gA a (p.subset ha) o g⟩
    · obtain ⟨hn, q1, q2⟩ := sub e1 e2
      obtain ⟨o, ho, r⟩ := h.ob n a m q1 q2
      refine ⟨o, ho, ?_⟩
      rcases k n hn with z | ⟨m', z, nl⟩
      · rw [q2] at z
        obtain ⟨o0, _, r0⟩ := h0.ob n a m e1 z.symm
        exact r0.down p r
      · rw [q2] at z; cases z
        rw [← hA]
        exact r.cut nl
    · obtain ⟨hn, q1, q2⟩ := sub e1 e2
      exact h.own n a m q1 q2 e3
  · cases t
theorem okDrop_same {M L : List MO} : OkDrop M (M ++ L) := ⟨by simp, fun k hk => .inl (List.getElem?_append_left hk)⟩
theorem trunc_same {M L : List MO} : trunc M (M ++ L) = some M := by
  unfold trunc
  rw [if_pos okDrop_same]
  simp
theorem trunc_refl {M : List MO} : trunc M M = some M := by
  have h := @trunc_same M []
  rwa [List.append_nil] at h
theorem okDrop_set {M L : List MO} {n : Nat} {m : MO} (h : noLab m = true) : OkDrop M (M.set n m ++ L) := ⟨by simp, fun k hk => by
  rw [List.getElem?_append_left (by simpa using hk)]
  by_cases hn : n = k
  · subst hn
    exact .inr ⟨m, List.getElem?_set_self hk, h⟩
  · exact .inl (List.getElem?_set_ne hn)⟩
theorem trunc_set {M L : List MO} {n : Nat} {m : MO} (h : noLab m = true) : trunc M (M.set n m ++ L) = some (M.set n m) := by
  unfold trunc
  rw [if_pos (okDrop_set h), show M.length = (M.set n m).length by simp, List.take_left']
  rfl
theorem trunc_set0 {M : List MO} {n : Nat} {m : MO} (h : noLab m = true) : trunc M (M.set n m) = some (M.set n m) := by
  have q := @trunc_set M [] n m h
  rwa [List.append_nil] at q
end
end PD

/-! PDb: what is reckoned on states of data, and how a reading of the hand layer follows from it. -/
noncomputable section
namespace PD
open PySem L2

abbrev R (α : Type) := Option (Except Exc α × S)
abbrev Mo (α : Type) := S → R α
inductive Fl where
  | nx | rt (w : W) | bk | ct
def ret {α : Type} (a : α) : Mo α := fun s => some (.ok a, s)
def stuck {α : Type} : Mo α := fun _ => none
def bnd {α β : Type} (f : Mo α) (k : α → Mo β) : Mo β := fun s => match f s with
  | some (.ok a, s1) => k a s1
  | some (.error e, s1) => some (.error e, s1)
  | none => none
theorem bnd_ok {α β : Type} {f : Mo α} {k : α → Mo β} {s s1 : S} {a : α} (h : f s = some (.ok a, s1)) : bnd f k s = k a s1 := by unfold bnd; rw [h]
theorem bnd_er {α β : Type} {f : Mo α} {k : α → Mo β} {s s1 : S} {e : Exc} (h : f s = some (.error e, s1)) : bnd f k s = some (.error e, s1) := by unfold bnd; rw [h]
theorem bnd_no {α β : Type} {f : Mo α} {k : α → Mo β} {s : S} (h : f s = none) : bnd f k s = none := by unfold bnd; rw [h]
/-- by an option -/
def ofO {α : Type} (o : Option α) : Mo α := fun s => match o with
  | some a => some (.ok a, s)
  | none => none

/-- what is wished of an exception, by what stands at the entry -/
structure XT where
  p : Hp → List Addr → Hp → Exc → S → Prop
  mono : ∀ {F F' : Hp} {A A' : List Addr} {G : Hp} {e : Exc} {s : S}, Ex F F' → A <+: A' → p F A G e s → p F' A' G e s
  gm : ∀ {F : Hp} {A : List Addr} {G G' : Hp} {e : Exc} {s : S}, Ex G G' → p F A G e s → p F A G' e s
/-- no exception comes -/
def XF : XT := ⟨fun _ _ _ _ _ => False, fun _ _ h => h, fun _ h => h⟩

section
variable (K : PySem.W.Frag) (C : Nat → Addr) (T : XT)
/-- the end of what was reckoned, wished for -/
def Out {α β : Type} (Rp : Hp → List Addr → α → β → Prop) (F : Hp) (A : List Addr) (G : Hp) (res : R α) (σ : L2.St) (Q : β → Hp → Prop) : Prop := ∃ r s', res = some (r, s') ∧ match r with
  | .ok a => ∀ b F' A' H', Ex F F' → A <+: A' → Sim K C F' A' G s' σ H' → Rp F' A' a b → Q b H'
  | .error e => T.p F A G e s'
/-- the reading -/
def rd {α β : Type} (Rp : Hp → List Addr → α → β → Prop) (f : Mo α) : L2.St → Hp → (β → Hp → Prop) → Prop := fun σ H Q => ∃ F A G s, Sim K C F A G s σ H ∧ Out K C T Rp F A G (f s) σ Q
def rB (_ : Hp) (_ : List Addr) (a b : Bool) : Prop := a = b
abbrev tE (f : Mo W) : TE := rd K C T (RepW K) f
abbrev tT (f : Mo Bool) : TT := rd K C T rB f
abbrev tA (f : Mo (List W)) : TA := rd K C T (fun F A => RepWs K F A) f
def rO (_ : Hp) (_ : List Addr) (a b : Option Int) : Prop := a = b
abbrev tO (f : Mo (Option Int)) : TO := rd K C T rO f
end
section
variable {K : PySem.W.Frag} {C : Nat → Addr} {T : XT} {F F' G : Hp} {A A' : List Addr} {s s1 : S} {σ : L2.St} {H : Hp}
variable {α β γ δ : Type} {Rp : Hp → List Addr → α → β → Prop} {Rq : Hp → List Addr → γ → δ → Prop}
theorem Out.mono {res : R α} {Q : β → Hp → Prop} (e : Ex F F') (p : A <+: A') (h : Out K C T Rp F A G res σ Q) : Out K C T Rp F' A' G res σ Q := by
  obtain ⟨r, s', h1, h2⟩ := h
  refine ⟨r, s', h1, ?_⟩
  cases r with
  | ok a => exact fun b F2 A2 H2 e2 p2 => h2 b F2 A2 H2 (e.trans e2) (p.trans p2)
  | error x => exact T.mono e p h2
/-- first f, then what follows -/
theorem Out.bnd {f : Mo α} {k : α → Mo γ} {Q : δ → Hp → Prop} (h : Out K C T Rq F A G (bnd f k s) σ Q) :
    Out K C T Rp F A G (f s) σ fun b H1 => ∃ F1 A1 s1 a, Ex F F1 ∧ A <+: A1 ∧ Sim K C F1 A1 G s1 σ H1 ∧ Rp F1 A1 a b ∧ Out K C T Rq F1 A1 G (k a s1) σ Q := by
  cases hf : f s with
  | none =>
    rw [bnd_no hf] at h
    obtain ⟨r, s', h1, _⟩ := h
    cases h1
  | some q =>
    obtain ⟨r, s1⟩ := q
    cases r with
    | error e =>
      rw [bnd_er hf] at h
      obtain ⟨r, s', h1, h2⟩ := h
      cases h1
      exact ⟨_, _, rfl, h2⟩
    | ok a =>
      rw [bnd_ok hf] at h
      exact ⟨_, _, rfl, fun b F1 A1 H1 e p hs r => ⟨F1, A1, s1, a, e, p, hs, r, h.mono e p⟩⟩
theorem Out.retE {a : α} {b : β} {Q : β → Hp → Prop} (h : Out K C T Rp F A G (ret a s) σ Q) (hs : Sim K C F A G s σ H) (r : Rp F A a b) : Q b H := by
  obtain ⟨r', s', h1, h2⟩ := h
  cases h1
  exact h2 b F A H (Ex.refl F) (List.prefix_refl A) hs r
theorem Out.ofOE {o : Option α} {Q : β → Hp → Prop} (h : Out K C T Rp F A G (ofO o s) σ Q) : ∃ a, o = some a ∧ Out K C T Rp F A G (ret a s) σ Q := by
  cases o with
  | none =>
    obtain ⟨_, _, h1, _⟩ := h
    cases h1
  | some a => exact ⟨a, rfl, h⟩
theorem Out.at {a : α} {b : β} {s' : S} {Q : β → Hp → Prop} {F2 : Hp} {A2 : List Addr} {res : R α} (h : Out K C T Rp F A G res σ Q) (e : res = some (.ok a, s')) (eF : Ex F F2) (pA : A <+: A2) (hs : Sim K C F2 A2 G s' σ H) (r : Rp F2 A2 a b) : Q b H := by
  obtain ⟨r', s2, h1, h2⟩ := h
  rw [e] at h1
  cases h1
  exact h2 b F2 A2 H eF pA hs r
theorem Sim.of (h : Sim K C F A G s σ H) {M : List MO} {H' : Hp} {F' : Hp} {A' : List Addr} (e : Ex F F') (p : A <+: A') (m : SimM K C F' A' G M H') : Sim K C F' A' G { s with m := M } σ H' :=
  ⟨m, h.len, fun i w q => let ⟨v, h1, h2⟩ := h.slot i w q; ⟨v, h1, h2.mono e p⟩⟩

theorem Ex.bot : Ex (fun _ => none) F := fun a o z => by
  have z' : (none : Option HO) = some o := z
  cases z'
/-- one step of a reading -/
theorem rd_go {f : Mo α} {k : α → Mo γ} {Q : δ → Hp → Prop} {Q' : β → Hp → Prop} (hs : Sim K C F A G s σ H) (h : Out K C T Rq F A G (bnd f k s) σ Q)
    (step : ∀ b F1 A1 H1 s1 a, Ex F F1 → A <+: A1 → Sim K C F1 A1 G s1 σ H1 → Rp F1 A1 a b → Out K C T Rq F1 A1 G (k a s1) σ Q → Q' b H1) : rd K C T Rp f σ H Q' := by
  obtain ⟨r1, s1, h1, h2⟩ := Out.bnd (Rp := Rp) h
  refine ⟨F, A, G, s, hs, r1, s1, h1, ?_⟩
  cases r1 with
  | error e => exact h2
  | ok a =>
    intro b F1 A1 H1 e1 p1 hs1 rx
    obtain ⟨F2, A2, s2, a2, e2, p2, hs2, ra, hq2⟩ := h2 b F1 A1 H1 e1 p1 hs1 rx
    exact step b F2 A2 H1 s2 a2 e2 p2 hs2 ra hq2

/-! ### expressions -/
/-- a name -/
def nm (i : Nat) : Mo W := fun s => match s.r[i]? with
  | some (some w) => some (.ok w, s)
  | _ => none
theorem pe_nm {X : Cx} {e : Expr} {i : Nat} (h : PE X e (tVar i)) : PE X e (tE X.K C T (nm i)) := ⟨fun pins s σ H Q I hq => h.run pins s σ H Q I (by
  obtain ⟨F, A, G, st, hs, r, s', h1, h2⟩ := hq
  unfold nm at h1
  split at h1
  · rename_i w q
    cases h1
    obtain ⟨v, e1, e2⟩ := hs.slot i w q
    exact ⟨v, e1, h2 v F A H (Ex.refl F) (List.prefix_refl A) hs e2⟩
  · cases h1)⟩
/-- the data of an object -/
def data : MO → Option D
  | .lst ds => some (.lst ds)
  | .dK ds => some (.dK ds)
  | .dT ds => some (.dT ds)
  | _ => none
/-- a name; an object becomes data -/
def nz (i : Nat) : Mo W := fun s => match s.r[i]? with
  | some (some (.ob n)) => match s.m[n]? with
    | some m => match data m with
      | some d => some (.ok (.fz d), { r := s.r.set i (some (.fz d)), m := s.m.set n .dead })
      | none => none
    | none => none
  | some (some w) => some (.ok w, s)
  | _ => none
theorem data_dead {m : MO} {d : D} (h : data m = some d) : isDead m = false := by cases m <;> first | rfl | cases h
theorem data_rep {m : MO} {d : D} {o : HO} {a : Addr} (h : data m = some d) (r : HoRep K C F A m o) (f : F a = none) : Rep K (upd F a o) d (.ref a) := by
  cases m with
  | lst ds =>
    cases h
    obtain ⟨vs, rfl, r⟩ := r
    exact .lst upd_same (r.mono (Ex.new f))
  | dK ds =>
    cases h
    obtain ⟨vs, rfl, r⟩ := r
    exact .dK upd_same (r.mono (Ex.new f))
  | dT ds =>
    cases h
    obtain ⟨vs, rfl, r⟩ := r
    exact .dT upd_same (r.mono (Ex.new f))
  | _ => cases h
theorem pe_nz {X : Cx} {e : Expr} {i : Nat} (h : PE X e (tVar i)) : PE X e (tE X.K C T (nz i)) := ⟨fun pins s σ H Q I hq => h.run pins s σ H Q I (by
  obtain ⟨F, A, G, st, hs, r, s', h1, h2⟩ := hq
  unfold nz at h1
  split at h1
  · rename_i n q
    split at h1
    · rename_i m hm
      split at h1
      · rename_i d hd
        cases h1
        obtain ⟨v, e1, e2⟩ := hs.slot i _ q
        cases e2 with
        | @ob _ a ha =>
          obtain ⟨o, ho, ro⟩ := hs.mem.ob n a m ha hm
          obtain ⟨f1, f2⟩ := hs.mem.own n a m ha hm (data_dead hd)
          obtain ⟨eF, sm⟩ := hs.mem.freeze ha hm (data_dead hd) ho
          have rr := data_rep hd ro f1
          refine ⟨_, e1, h2 _ _ A H eF (List.prefix_refl A) ⟨sm, by simp [hs.len], fun j w hw => ?_⟩ (.fz rr)⟩
          by_cases hj : i = j
          · subst hj
            have hi : i < st.r.length := (List.getElem?_eq_some_iff.mp q).1
            rw [List.getElem?_set_self hi] at hw
            cases hw
            exact ⟨_, e1, .fz rr⟩
          · rw [List.getElem?_set_ne hj] at hw
            obtain ⟨v', q1, q2⟩ := hs.slot j w hw
            exact ⟨v', q1, q2.mono eF (List.prefix_refl A)⟩
      · cases h1
    · cases h1
  · rename_i w q0 q
    cases h1
    obtain ⟨v, e1, e2⟩ := hs.slot i w q
    exact ⟨v, e1, h2 v F A H (Ex.refl F) (List.prefix_refl A) hs e2⟩
  · cases h1)⟩
/-- a constant -/
def ck (d : D) : Mo W := ret (.fz d)
theorem pe_ck {X : Cx} {e : Expr} {d : D} {v : V} (h : PE X e (tC v)) (r : Rep X.K (fun _ => none) d v) : PE X e (tE X.K C T (ck d)) := ⟨fun pins s σ H Q I hq => h.run pins s σ H Q I (by
  obtain ⟨F, A, G, st, hs, hq⟩ := hq
  exact hq.retE hs (.fz (r.mono Ex.bot)))⟩
def ka (a : Addr) : Mo W := ret (.ad a)
theorem pe_ka {X : Cx} {e : Expr} {a : Addr} (h : PE X e (tC (.ref a))) : PE X e (tE X.K C T (ka a)) := ⟨fun pins s σ H Q I hq => h.run pins s σ H Q I (by
  obtain ⟨F, A, G, st, hs, hq⟩ := hq
  exact hq.retE hs .ad)⟩

/-- an operation on values that reads the memory and makes data at most -/
def Snd2 (K : PySem.W.Frag) (C : Nat → Addr) (r : R2) (o : List MO → W → W → Option W) : Prop :=
  ∀ {F : Hp} {A : List Addr} {G : Hp} {M : List MO} {H : Hp} {w1 w2 w : W} {x y : V} {Q : VK}, SimM K C F A G M H → RepW K F A w1 x → RepW K F A w2 y → o M w1 w2 = some w →
    (∀ v F' H', Ex F F' → SimM K C F' A G M H' → RepW K F' A w v → Q v H') → r x y H Q
def op2 (o : List MO → W → W → Option W) (a b : Mo W) : Mo W := bnd a fun x => bnd b fun y => fun s => ofO (o s.m x y) s
theorem snd2_rd {X : Cx} {r : R2} {o : List MO → W → W → Option W} (so : Snd2 X.K C r o) {fa fb : Mo W} : ∀ σ H Q, tE X.K C T (op2 o fa fb) σ H Q → tOp r (tE X.K C T fa) (tE X.K C T fb) σ H Q := fun σ H Q ⟨F, A, G, s, hs, hq⟩ =>
  rd_go hs hq fun x F1 A1 H1 s1 w1 _ _ hs1 rx hq1 => rd_go hs1 hq1 fun y F2 A2 H2 s2 w2 e2 p2 hs2 ry hq2 => by
    obtain ⟨w, ho, hq3⟩ := hq2.ofOE
    exact so hs2.mem (rx.mono e2 p2) ry ho fun v F' H' e5 hs5 rv => hq3.at rfl e5 (List.prefix_refl A2) (hs2.of e5 (List.prefix_refl A2) hs5) rv
theorem _root_.L2.PE.imp {X : Cx} {e : Expr} {t t' : TE} (h : PE X e t) (i : ∀ σ H Q, t' σ H Q → t σ H Q) : PE X e t' := ⟨fun pins s σ H Q I hq => h.run pins s σ H Q I (i σ H Q hq)⟩
theorem _root_.L2.PT.imp {X : Cx} {e : Expr} {t t' : TT} (h : PT X e t) (i : ∀ σ H Q, t' σ H Q → t σ H Q) : PT X e t' := ⟨fun pins s σ H Q I hq => h.run pins s σ H Q I (i σ H Q hq)⟩
theorem _root_.L2.PW.imp {X : Cx} {e : Expr} {t t' : TT} (h : PW X e t) (i : ∀ σ H Q, t' σ H Q → t σ H Q) : PW X e t' := ⟨fun wh pins s σ H Q I hq => h.run wh pins s σ H Q I (i σ H Q hq)⟩
theorem _root_.L2.PA.imp {X : Cx} {e : List Expr} {t t' : TA} (h : PA X e t) (i : ∀ σ H Q, t' σ H Q → t σ H Q) : PA X e t' := ⟨fun pos pins s σ H Q I hq => h.run pos pins s σ H Q I (i σ H Q hq)⟩
theorem _root_.L2.PO.imp {X : Cx} {e : Option Expr} {t t' : TO} (h : PO X e t) (i : ∀ σ H Q, t' σ H Q → t σ H Q) : PO X e t' := ⟨fun pins s σ H Q I hq => h.run pins s σ H Q I (i σ H Q hq)⟩
theorem pd_op {X : Cx} {a b : Expr} {op : Operator} {r : R2} {o : List MO → W → W → Option W} {fa fb : Mo W} {pos : Pos} (ho : OpR X (binaryOp op) r) (so : Snd2 X.K C r o) (ha : PE X a (tE X.K C T fa)) (hb : PE X b (tE X.K C T fb)) : PE X (.BinOp a op b pos) (tE X.K C T (op2 o fa fb)) :=
  (pe_op ho ha hb).imp (snd2_rd so)
theorem pd_cmp {X : Cx} {a b : Expr} {op : CmpOp} {r : R2} {o : List MO → W → W → Option W} {fa fb : Mo W} {pos : Pos} (ho : OpR X (compareOp op) r) (so : Snd2 X.K C r o) (ha : PE X a (tE X.K C T fa)) (hb : PE X b (tE X.K C T fb)) (hm : behindInMarks op b = false) : PE X (.Compare a [op] [b] pos) (tE X.K C T (op2 o fa fb)) :=
  (pe_cmpR ho ha hb hm).imp (snd2_rd so)
/-- the truth of data and objects -/
def asB : W → Option Bool
  | .fz (.bl b) => some b
  | _ => none
def tst (f : Mo W) : Mo Bool := bnd f fun w => ofO (asB w)
theorem tst_rd {X : Cx} {f : Mo W} {σ : L2.St} {H : Hp} {Q : Bool → Hp → Prop} (h : tT X.K C T (tst f) σ H Q) : tE X.K C T f σ H fun x H' => ∃ k, x = .bl k ∧ Q k H' := by
  obtain ⟨F, A, G, s, hs, hq⟩ := h
  refine rd_go hs hq fun x F1 A1 H1 s1 w1 _ _ hs1 rx hq1 => ?_
  obtain ⟨k, hk, hq3⟩ := hq1.ofOE
  unfold asB at hk
  split at hk
  · cases hk
    cases rx with
    | fz ra =>
      cases ra
      exact ⟨_, rfl, hq3.retE hs1 rfl⟩
  · cases hk
theorem pd_cmpT {X : Cx} {a b : Expr} {op : CmpOp} {r : R2} {o : List MO → W → W → Option W} {fa fb : Mo W} {pos : Pos} (ho : OpR X (compareOp op) r) (so : Snd2 X.K C r o) (ha : PE X a (tE X.K C T fa)) (hb : PE X b (tE X.K C T fb)) (hm : behindInMarks op b = false) : PT X (.Compare a [op] [b] pos) (tT X.K C T (tst (op2 o fa fb))) :=
  (pt_cmpR ho ha hb hm).imp fun σ H Q hq => snd2_rd (T := T) so σ H _ (tst_rd hq)
end
end PD

/-! PDc: further forms of expressions. -/
noncomputable section
namespace PD
open PySem L2
abbrev LIM : Nat := 16777216
theorem lim_ok {n : Nat} (h : n ≤ LIM) : n ≤ sizeLine := by rw [sizeLine_eq]; exact h
theorem lim_lt {n : Nat} (h : n < LIM) : n < sizeLine := by rw [sizeLine_eq]; exact h

/-! ### what a value holds -/
/-- a list, the script too -/
def asS (M : List MO) : W → Option (List D)
  | .fz (.lst ds) => some ds
  | .fz (.sl ds) => some ds
  | .ob n => match M[n]? with
    | some (.lst ds) => some ds
    | _ => none
  | _ => none
def asL (M : List MO) : W → Option (List D)
  | .fz (.lst ds) => some ds
  | .ob n => match M[n]? with
    | some (.lst ds) => some ds
    | _ => none
  | _ => none
def asT : W → Option (List D)
  | .fz (.tup ds) => some ds
  | _ => none
def asD (M : List MO) : W → Option (List (Key × D))
  | .fz (.dK ds) => some ds
  | .ob n => match M[n]? with
    | some (.dK ds) => some ds
    | some (.lk (.dK ds)) => some ds
    | _ => none
  | _ => none
def asDT (M : List MO) : W → Option (List (List Key × D))
  | .fz (.dT ds) => some ds
  | .ob n => match M[n]? with
    | some (.dT ds) => some ds
    | some (.lk (.dT ds)) => some ds
    | _ => none
  | _ => none
section
variable {K : PySem.W.Frag} {C : Nat → Addr} {T : XT} {F F' G : Hp} {A A' : List Addr} {s s1 : S} {σ : L2.St} {H : Hp} {M : List MO} {w w1 w2 : W} {x y v : V}
theorem asL_ok {ds : List D} (m : SimM K C F A G M H) (r : RepW K F A w v) (h : asL M w = some ds) : ∃ a vs, v = .ref a ∧ H a = some (.lst vs) ∧ Reps K F ds vs := by
  cases r with
  | fz r =>
    cases r <;> first
      | (cases h; done)
      | skip
    case lst a vs ds' hs hr => cases h; exact ⟨a, vs, rfl, m.ex.at hs rfl, hr⟩
  | @ob n a ha =>
    have h : (match M[n]? with
      | some (.lst ds) => some ds
      | _ => none) = some ds := h
    split at h
    · rename_i ds' hm
      cases h
      obtain ⟨o, ho, vs, rfl, hr⟩ := m.ob _ _ _ ha hm
      exact ⟨a, vs, rfl, ho, hr⟩
    · cases h
  | ad => cases h
theorem asS_ok {ds : List D} (m : SimM K C F A G M H) (r : RepW K F A w v) (h : asS M w = some ds) : ∃ a vs, v = .ref a ∧ SqL K H a vs ∧ Reps K F ds vs := by
  cases r with
  | fz r =>
    cases r <;> first
      | (cases h; done)
      | skip
    case lst a vs ds' hs hr => cases h; exact ⟨a, vs, rfl, .inl (.inl (m.ex.at hs rfl)), hr⟩
    case sl a vs ds' hs hr => cases h; exact ⟨a, vs, rfl, m.ex.sl hs, hr⟩
  | @ob n a ha =>
    have h : (match M[n]? with
      | some (.lst ds) => some ds
      | _ => none) = some ds := h
    split at h
    · rename_i ds' hm
      cases h
      obtain ⟨o, ho, vs, rfl, hr⟩ := m.ob _ _ _ ha hm
      exact ⟨a, vs, rfl, .inl (.inl ho), hr⟩
    · cases h
  | ad => cases h
theorem asT_ok {ds : List D} (m : SimM K C F A G M H) (r : RepW K F A w v) (h : asT w = some ds) : ∃ a vs, v = .ref a ∧ SqT K H a vs ∧ Reps K F ds vs := by
  cases r with
  | fz r =>
    cases r <;> first
      | (cases h; done)
      | skip
    case tup a vs ds' hs hr => cases h; exact ⟨a, vs, rfl, m.ex.st hs, hr⟩
  | ob ha => cases h
  | ad => cases h
theorem asD_ok {ds : List (Key × D)} (m : SimM K C F A G M H) (r : RepW K F A w v) (h : asD M w = some ds) : ∃ a vs, v = .ref a ∧ Rd H a (.dK vs) ∧ RepK K F ds vs := by
  cases r with
  | fz r =>
    cases r <;> first
      | (cases h; done)
      | skip
    case dK a vs ds' hs hr => cases h; exact ⟨a, vs, rfl, m.ex.rd hs, hr⟩
  | @ob n a ha =>
    have h : (match M[n]? with
      | some (.dK ds) => some ds
      | some (.lk (.dK ds)) => some ds
      | _ => none) = some ds := h
    split at h
    · rename_i ds' hm
      cases h
      obtain ⟨o, ho, vs, rfl, hr⟩ := m.ob _ _ _ ha hm
      exact ⟨a, vs, rfl, .inl ho, hr⟩
    · rename_i ds' hm
      cases h
      obtain ⟨o, ho, ob, u, rfl, vs, rfl, hr⟩ := m.ob _ _ _ ha hm
      exact ⟨a, vs, rfl, .inr ⟨_, ho⟩, hr⟩
    · cases h
  | ad => cases h
theorem asDT_ok {ds : List (List Key × D)} (m : SimM K C F A G M H) (r : RepW K F A w v) (h : asDT M w = some ds) : ∃ a vs, v = .ref a ∧ Rd H a (.dT vs) ∧ RepT K F ds vs := by
  cases r with
  | fz r =>
    cases r <;> first
      | (cases h; done)
      | skip
    case dT a vs ds' hs hr => cases h; exact ⟨a, vs, rfl, m.ex.rd hs, hr⟩
  | @ob n a ha =>
    have h : (match M[n]? with
      | some (.dT ds) => some ds
      | some (.lk (.dT ds)) => some ds
      | _ => none) = some ds := h
    split at h
    · rename_i ds' hm
      cases h
      obtain ⟨o, ho, vs, rfl, hr⟩ := m.ob _ _ _ ha hm
      exact ⟨a, vs, rfl, .inl ho, hr⟩
    · rename_i ds' hm
      cases h
      obtain ⟨o, ho, ob, u, rfl, vs, rfl, hr⟩ := m.ob _ _ _ ha hm
      exact ⟨a, vs, rfl, .inr ⟨_, ho⟩, hr⟩
    · cases h
  | ad => cases h

/-! ### truth -/
def TruW (K : PySem.W.Frag) (x : V) (H : Hp) (k : Bool) : Prop := TruV K x H k ∨ (∃ p kvs, x = .ref p ∧ Rd H p (.dK kvs) ∧ k = !kvs.isEmpty)
theorem truW_ok {X : Cx} : TruR X (fun x H Q => ∃ k, TruW X.K x H k ∧ Q k H) := by
  intro pins s σ H x v Q I rx h
  obtain ⟨k, e, q⟩ := h
  rcases e with e | ⟨p, kvs, rfl, hd, rfl⟩
  · exact tru_ok pins s σ H x v Q I rx ⟨k, e, q⟩
  · obtain rfl : v = Value.ref p := rx
    exact d_truth I hd fun s' I' => ⟨H, I', q⟩
def truB (M : List MO) (w : W) : Option Bool := match w with
  | .fz .non => some false
  | .fz (.bl b) => some b
  | .fz (.int i) => some (i != 0)
  | .fz (.str x) => if x.length ≤ LIM then some (x.length != 0) else none
  | .fz (.tup ds) => some (!ds.isEmpty)
  | w => match asS M w with
    | some ds => some (!ds.isEmpty)
    | none => (asD M w).map fun ds => !ds.isEmpty
theorem Reps.empty {ds : List D} {vs : List V} (h : Reps K F ds vs) : (!ds.isEmpty) = !vs.isEmpty := by cases h <;> rfl
theorem RepK.empty {ds : List (Key × D)} {vs : List (Key × V)} (h : RepK K F ds vs) : (!ds.isEmpty) = !vs.isEmpty := by cases h <;> rfl
theorem truB_ok {k : Bool} (m : SimM K C F A G M H) (r : RepW K F A w v) (h : truB M w = some k) : TruW K v H k := by
  unfold truB at h
  split at h
  · cases h; cases r with | fz r => cases r; exact .inl rfl
  · cases h; cases r with | fz r => cases r; exact .inl rfl
  · cases h; cases r with | fz r => cases r; exact .inl rfl
  · cases r with
    | fz r =>
      cases r
      split at h
      · rename_i x hx
        cases h
        refine .inl ⟨lim_ok hx, ?_⟩
        by_cases e : x.length = 0
        · rw [e]; rfl
        · have e2 : ((x.length : Int) != 0) = true := by simpa using e
          rw [e2]; simpa using e
      · cases h
  · cases h
    obtain ⟨a, vs, rfl, h1, h2⟩ := asT_ok (ds := _) m r rfl
    rw [h2.empty]
    exact .inl (.inr (.inl ⟨vs, h1, rfl⟩))
  · split at h
    · rename_i ds hl
      cases h
      obtain ⟨a, vs, rfl, h1, h2⟩ := asS_ok m r hl
      rw [h2.empty]
      exact .inl (.inl ⟨vs, h1, rfl⟩)
    · obtain ⟨ds, hd, rfl⟩ := Option.map_eq_some_iff.mp h
      obtain ⟨a, vs, rfl, h1, h2⟩ := asD_ok m r hd
      rw [h2.empty]
      exact .inr ⟨a, vs, rfl, h1, rfl⟩
def tru (f : Mo W) : Mo Bool := bnd f fun w => fun s => ofO (truB s.m w) s
theorem tru_rd {X : Cx} {f : Mo W} {σ : L2.St} {H : Hp} {Q : Bool → Hp → Prop} (h : tT X.K C T (tru f) σ H Q) : tE X.K C T f σ H fun x H' => ∃ k, TruW X.K x H' k ∧ Q k H' := by
  obtain ⟨F, A, G, s, hs, hq⟩ := h
  refine rd_go hs hq fun x F1 A1 H1 s1 w1 _ _ hs1 rx hq1 => ?_
  obtain ⟨k, hk, hq3⟩ := hq1.ofOE
  exact ⟨k, truB_ok hs1.mem rx hk, hq3.retE hs1 rfl⟩
theorem pd_tru {X : Cx} {a : Expr} {f : Mo W} (ha : PE X a (tE X.K C T f)) (he : ∀ whole, isTrue a X.env whole = (do let v ← whole; standAt a.pos; holding [v] (truthy v)) := by intro _; rfl) : PT X a (tT X.K C T (tru f)) :=
  ⟨fun pins s σ H Q I h => PyProof.Rows.isTrue_plain (thn (ha.run pins s σ H _ I (tru_rd h)) fun v s1 ⟨x, H1, I1, r1, q1⟩ => truW_ok pins s1 σ H1 x v Q I1 r1 q1) (he _)⟩

/-! ### and, or, not, a if t else b -/
def andT (f g : Mo Bool) : Mo Bool := bnd f fun c => if c then g else ret false
def orT (f g : Mo Bool) : Mo Bool := bnd f fun c => if c then ret true else g
def notT (f : Mo Bool) : Mo Bool := bnd f fun c => ret (!c)
theorem pd_andT1 {X : Cx} {a : Expr} {f : Mo Bool} {pos : Pos} (h : PT X a (tT X.K C T f)) : PW X (.BoolOp .And [a] pos) (tT X.K C T f) := pw_and1 h
theorem pd_orT1 {X : Cx} {a : Expr} {f : Mo Bool} {pos : Pos} (h : PT X a (tT X.K C T f)) : PW X (.BoolOp .Or [a] pos) (tT X.K C T f) := pw_or1 h
theorem pd_andT {X : Cx} {a b : Expr} {r : List Expr} {f g : Mo Bool} {pos : Pos} (ha : PT X a (tT X.K C T f)) (hb : PW X (.BoolOp .And (b :: r) pos) (tT X.K C T g)) : PW X (.BoolOp .And (a :: b :: r) pos) (tT X.K C T (andT f g)) :=
  (pw_and ha hb).imp fun σ H Q ⟨F, A, G, s, hs, hq⟩ => rd_go hs hq fun x F1 A1 H1 s1 w1 _ _ hs1 rx hq1 => by
    cases rx
    cases x with
    | true => exact ⟨F1, A1, G, s1, hs1, hq1⟩
    | false => exact hq1.retE hs1 rfl
theorem pd_orT {X : Cx} {a b : Expr} {r : List Expr} {f g : Mo Bool} {pos : Pos} (ha : PT X a (tT X.K C T f)) (hb : PW X (.BoolOp .Or (b :: r) pos) (tT X.K C T g)) : PW X (.BoolOp .Or (a :: b :: r) pos) (tT X.K C T (orT f g)) :=
  (pw_or ha hb).imp fun σ H Q ⟨F, A, G, s, hs, hq⟩ => rd_go hs hq fun x F1 A1 H1 s1 w1 _ _ hs1 rx hq1 => by
    cases rx
    cases x with
    | false => exact ⟨F1, A1, G, s1, hs1, hq1⟩
    | true => exact hq1.retE hs1 rfl
theorem pd_notT {X : Cx} {a : Expr} {f : Mo Bool} {pos : Pos} (ha : PT X a (tT X.K C T f)) : PT X (.UnaryOp .Not a pos) (tT X.K C T (notT f)) :=
  (pt_not ha).imp fun σ H Q ⟨F, A, G, s, hs, hq⟩ => rd_go hs hq fun x F1 A1 H1 s1 w1 _ _ hs1 rx hq1 => by
    cases rx
    exact hq1.retE hs1 rfl
/-- as values: the truth decides, the value is handed on -/
def andV (f g : Mo W) : Mo W := bnd f fun w => fun s => match truB s.m w with
  | some true => g s
  | some false => some (.ok w, s)
  | none => none
def orV (f g : Mo W) : Mo W := bnd f fun w => fun s => match truB s.m w with
  | some false => g s
  | some true => some (.ok w, s)
  | none => none
def notV (f : Mo W) : Mo W := bnd f fun w => fun s => ofO ((truB s.m w).map fun k => .fz (.bl !k)) s
theorem pd_one {X : Cx} {a : Expr} {op : BoolOp} {f : Mo W} {pos : Pos} (h : PE X a (tE X.K C T f)) : PE X (.BoolOp op [a] pos) (tE X.K C T f) := pe_one h
def tAndW (K : PySem.W.Frag) (ta tb : TE) : TE := fun σ H Q => ta σ H fun x H1 => ∃ k, TruW K x H1 k ∧ if k = true then tb σ H1 Q else Q x H1
def tOrW (K : PySem.W.Frag) (ta tb : TE) : TE := fun σ H Q => ta σ H fun x H1 => ∃ k, TruW K x H1 k ∧ if k = true then Q x H1 else tb σ H1 Q
theorem pe_andW {X : Cx} {a b : Expr} {rest : List Expr} {pos : Pos} {ta tb : TE} (ha : PE X a ta) (hb : PE X (.BoolOp .And (b :: rest) pos) tb) : PE X (.BoolOp .And (a :: b :: rest) pos) (tAndW X.K ta tb) := by
  refine ⟨fun pins s σ H Q I h => ?_⟩
  refine PyProof.Rows.BoolOp_and (thn (ha.run pins s σ H _ I h) fun v s1 ⟨x, H1, I1, r1, q1⟩ => ?_)
  obtain ⟨k, e, q1⟩ := q1
  refine thn (truW_ok pins s1 σ H1 x v (fun c H2 => c = k ∧ H2 = H1) I1 r1 ⟨k, e, rfl, rfl⟩) fun c s2 hc => ?_
  obtain ⟨H2, I2, e1, e2⟩ := hc
  rw [e2] at I2
  rw [← e1] at q1
  cases c with
  | true => exact hb.run pins s2 σ H1 Q I2 q1
  | false => exact ⟨x, H1, I2, r1, q1⟩
theorem pe_orW {X : Cx} {a b : Expr} {rest : List Expr} {pos : Pos} {ta tb : TE} (ha : PE X a ta) (hb : PE X (.BoolOp .Or (b :: rest) pos) tb) : PE X (.BoolOp .Or (a :: b :: rest) pos) (tOrW X.K ta tb) := by
  refine ⟨fun pins s σ H Q I h => ?_⟩
  refine PyProof.Rows.BoolOp_or (thn (ha.run pins s σ H _ I h) fun v s1 ⟨x, H1, I1, r1, q1⟩ => ?_)
  obtain ⟨k, e, q1⟩ := q1
  refine thn (truW_ok pins s1 σ H1 x v (fun c H2 => c = k ∧ H2 = H1) I1 r1 ⟨k, e, rfl, rfl⟩) fun c s2 hc => ?_
  obtain ⟨H2, I2, e1, e2⟩ := hc
  rw [e2] at I2
  rw [← e1] at q1
  cases c with
  | true => exact ⟨x, H1, I2, r1, q1⟩
  | false => exact hb.run pins s2 σ H1 Q I2 q1
theorem pd_andV {X : Cx} {a b : Expr} {r : List Expr} {f g : Mo W} {pos : Pos} (ha : PE X a (tE X.K C T f)) (hb : PE X (.BoolOp .And (b :: r) pos) (tE X.K C T g)) : PE X (.BoolOp .And (a :: b :: r) pos) (tE X.K C T (andV f g)) :=
  (pe_andW ha hb).imp fun σ H Q ⟨F, A, G, s, hs, hq⟩ => rd_go hs hq fun x F1 A1 H1 s1 w1 _ _ hs1 rx hq1 => by
    obtain ⟨r, s', h1, h2⟩ := hq1
    split at h1
    · rename_i hk
      exact ⟨true, truB_ok hs1.mem rx hk, F1, A1, G, s1, hs1, r, s', h1, h2⟩
    · rename_i hk
      cases h1
      exact ⟨false, truB_ok hs1.mem rx hk, h2 x F1 A1 H1 (Ex.refl _) (List.prefix_refl _) hs1 rx⟩
    · cases h1
theorem pd_orV {X : Cx} {a b : Expr} {r : List Expr} {f g : Mo W} {pos : Pos} (ha : PE X a (tE X.K C T f)) (hb : PE X (.BoolOp .Or (b :: r) pos) (tE X.K C T g)) : PE X (.BoolOp .Or (a :: b :: r) pos) (tE X.K C T (orV f g)) :=
  (pe_orW ha hb).imp fun σ H Q ⟨F, A, G, s, hs, hq⟩ => rd_go hs hq fun x F1 A1 H1 s1 w1 _ _ hs1 rx hq1 => by
    obtain ⟨r, s', h1, h2⟩ := hq1
    split at h1
    · rename_i hk
      exact ⟨false, truB_ok hs1.mem rx hk, F1, A1, G, s1, hs1, r, s', h1, h2⟩
    · rename_i hk
      cases h1
      exact ⟨true, truB_ok hs1.mem rx hk, h2 x F1 A1 H1 (Ex.refl _) (List.prefix_refl _) hs1 rx⟩
    · cases h1
def tNotW (K : PySem.W.Frag) (ta : TE) : TE := fun σ H Q => ta σ H fun x H1 => ∃ k, TruW K x H1 k ∧ Q (.bl (!k)) H1
theorem pe_notW {X : Cx} {a : Expr} {pos : Pos} {ta : TE} (ha : PE X a ta) : PE X (.UnaryOp .Not a pos) (tNotW X.K ta) := by
  refine ⟨fun pins s σ H Q I h => ?_⟩
  refine PyProof.Rows.UnaryOp_ (thn (ha.run pins s σ H _ I h) fun v s1 ⟨x, H1, I1, r1, q1⟩ => ?_)
  obtain ⟨k, e, q1⟩ := q1
  refine PyProof.Rows.not_of (thn (truW_ok pins s1 σ H1 x v (fun c H2 => c = k ∧ H2 = H1) I1 r1 ⟨k, e, rfl, rfl⟩) fun c s2 hc => ?_)
  obtain ⟨H2, I2, e1, e2⟩ := hc
  rw [e2] at I2
  rw [← e1] at q1
  exact ⟨.bl (!c), H1, I2, rfl, q1⟩
theorem pd_notV {X : Cx} {a : Expr} {f : Mo W} {pos : Pos} (ha : PE X a (tE X.K C T f)) : PE X (.UnaryOp .Not a pos) (tE X.K C T (notV f)) :=
  (pe_notW ha).imp fun σ H Q ⟨F, A, G, s, hs, hq⟩ => rd_go hs hq fun x F1 A1 H1 s1 w1 _ _ hs1 rx hq1 => by
    obtain ⟨w, hk0, hq3⟩ := hq1.ofOE
    obtain ⟨k, hk, rfl⟩ := Option.map_eq_some_iff.mp hk0
    exact ⟨k, truB_ok hs1.mem rx hk, hq3.retE hs1 (.fz (.bl _))⟩
def iffE (c : Mo Bool) (f g : Mo W) : Mo W := bnd c fun k => if k then f else g
theorem pd_if {X : Cx} {c a b : Expr} {fc : Mo Bool} {f g : Mo W} {pos : Pos} (hc : PT X c (tT X.K C T fc)) (ha : PE X a (tE X.K C T f)) (hb : PE X b (tE X.K C T g)) : PE X (.IfExp c a b pos) (tE X.K C T (iffE fc f g)) :=
  (pe_ifExp hc ha hb).imp fun σ H Q ⟨F, A, G, s, hs, hq⟩ => rd_go hs hq fun x F1 A1 H1 s1 w1 _ _ hs1 rx hq1 => by
    cases rx
    cases x with
    | true => exact ⟨F1, A1, G, s1, hs1, hq1⟩
    | false => exact ⟨F1, A1, G, s1, hs1, hq1⟩

/-! ### arguments, calls of what is built in, displays -/
def aN : Mo (List W) := ret []
def aC (f : Mo W) (g : Mo (List W)) : Mo (List W) := bnd f fun w => bnd g fun ws => ret (w :: ws)
theorem pd_aN {X : Cx} : PA X [] (tA X.K C T aN) := pa_nil.imp fun σ H Q ⟨F, A, G, s, hs, hq⟩ => hq.retE hs .nil
theorem pd_aC {X : Cx} {e : Expr} {es : List Expr} {f : Mo W} {g : Mo (List W)} (he : PE X e (tE X.K C T f)) (hr : PA X es (tA X.K C T g)) (hs : starEach (e :: es) X.env = (false, eval e X.env) :: starEach es X.env := by rfl) : PA X (e :: es) (tA X.K C T (aC f g)) :=
  (pa_cons he hr hs).imp fun σ H Q ⟨F, A, G, s, hs, hq⟩ => rd_go hs hq fun x F1 A1 H1 s1 w1 _ _ hs1 rx hq1 => rd_go hs1 hq1 fun xs F2 A2 H2 s2 ws e2 p2 hs2 rs hq2 => hq2.retE hs2 (.cons (rx.mono e2 p2) rs)
/-- a call by values that reads the memory and makes data at most -/
def SndN (K : PySem.W.Frag) (C : Nat → Addr) (r : List V → Hp → VK → Prop) (o : List MO → List W → Option W) : Prop :=
  ∀ {F : Hp} {A : List Addr} {G : Hp} {M : List MO} {H : Hp} {ws : List W} {w : W} {xs : List V} {Q : VK}, SimM K C F A G M H → RepWs K F A ws xs → o M ws = some w →
    (∀ v F' H', Ex F F' → SimM K C F' A G M H' → RepW K F' A w v → Q v H') → r xs H Q
def opN (o : List MO → List W → Option W) (f : Mo (List W)) : Mo W := bnd f fun ws => fun s => ofO (o s.m ws) s
theorem sndN_rd {X : Cx} {r : List V → Hp → VK → Prop} {o : List MO → List W → Option W} (so : SndN X.K C r o) {f : Mo (List W)} : ∀ σ H Q, tE X.K C T (opN o f) σ H Q → tCB r (tA X.K C T f) σ H Q := fun σ H Q ⟨F, A, G, s, hs, hq⟩ =>
  rd_go hs hq fun xs F1 A1 H1 s1 ws _ _ hs1 rs hq1 => by
    obtain ⟨w, ho, hq3⟩ := hq1.ofOE
    exact so hs1.mem rs ho fun v F' H' e5 hs5 rv => hq3.at rfl e5 (List.prefix_refl A1) (hs1.of e5 (List.prefix_refl A1) hs5) rv
theorem pd_callB {X : Cx} {id : String} {x : Str} {e : Expr} {es : List Expr} {p pos : Pos} {r : List V → Hp → VK → Prop} {o : List MO → List W → Option W} {f : Mo (List W)} (hc : CallR X (.builtin id) r) (so : SndN X.K C r o) (hg : Gl X x) (hm : X.mg x = none) (hv : bootBuiltins x = some (.builtin id)) (ha : PA X (e :: es) (tA X.K C T f)) (hn : x ≠ "__name__" := by decide) (hdb : (x == ("__debug__" : Str)) = false := by decide)
    (he : starEach (e :: es) X.env = (false, eval e X.env) :: starEach es X.env := by rfl) (hpl : (backTo pos (starEach es X.env)).any (·.1) = false := by rfl) : PE X (.Call (.Name x p) (e :: es) [] pos) (tE X.K C T (opN o f)) :=
  (pe_callB hc hg hm hv ha hn hdb he hpl).imp (sndN_rd so)
theorem pd_callTy {X : Cx} {Ty : String} {x : Str} {e : Expr} {es : List Expr} {p pos : Pos} {r : List V → Hp → VK → Prop} {o : List MO → List W → Option W} {f : Mo (List W)} (hc : CallR X (.type Ty) r) (so : SndN X.K C r o) (hg : Gl X x) (hm : X.mg x = none) (hv : bootBuiltins x = some (.type Ty)) (ha : PA X (e :: es) (tA X.K C T f)) (hn : x ≠ "__name__" := by decide) (hdb : (x == ("__debug__" : Str)) = false := by decide)
    (he : starEach (e :: es) X.env = (false, eval e X.env) :: starEach es X.env := by rfl) (hpl : (backTo pos (starEach es X.env)).any (·.1) = false := by rfl) : PE X (.Call (.Name x p) (e :: es) [] pos) (tE X.K C T (opN o f)) :=
  (pe_callTy hc hg hm hv ha hn hdb he hpl).imp (sndN_rd so)
/-- values that are data -/
def unW : List W → Option (List D)
  | [] => some []
  | .fz d :: r => (unW r).map (d :: ·)
  | _ => none
theorem unW_ok : ∀ {ws : List W} {ds : List D} {vs : List V}, unW ws = some ds → RepWs K F A ws vs → Reps K F ds vs
  | [], _, _, h, .nil => by cases h; exact .nil
  | .fz d :: r, _, _, h, .cons q t => by
    obtain ⟨ds, h1, rfl⟩ := Option.map_eq_some_iff.mp (show (unW r).map (d :: ·) = some _ from h)
    cases q with
    | fz q => exact .cons q (unW_ok h1 t)
  | .ob _ :: _, _, _, h, _ => by cases h
  | .ad _ :: _, _, _, h, _ => by cases h
def tupO (_ : List MO) (ws : List W) : Option W := if ws.length ≤ LIM then (unW ws).map fun ds => .fz (.tup ds) else none
def lstO (_ : List MO) (ws : List W) : Option W := if ws.length ≤ LIM then (unW ws).map fun ds => .fz (.lst ds) else none
theorem pd_tup {X : Cx} {es : List Expr} {k : Nat} {pos : Pos} {f : Mo (List W)} (h : PA X es (tA X.K C T f)) : PE X (.Tuple es k pos) (tE X.K C T (opN tupO f)) :=
  (pe_tup h).imp fun σ H Q hq => sndN_rd (r := fun xs H1 Q => xs.length ≤ sizeLine ∧ ∀ p, H1 p = none → Q (.ref p) (upd H1 p (.tup xs))) (fun {F A G M H ws w xs Q} m r h q => by
    unfold tupO at h
    split at h
    · rename_i hl
      obtain ⟨ds, h1, rfl⟩ := Option.map_eq_some_iff.mp h
      have rr := unW_ok h1 r
      refine ⟨lim_ok (by rw [← Paired.length r]; exact hl), fun p hp => ?_⟩
      have ff := (m.fresh hp).1
      exact q _ _ _ (Ex.new ff) (m.allocF hp) (.fz (.tup (.inl (.inl upd_same)) (rr.mono (Ex.new ff))))
    · cases h) σ H Q hq
theorem pd_lst {X : Cx} {es : List Expr} {pos : Pos} {f : Mo (List W)} (h : PA X es (tA X.K C T f)) : PE X (.List es pos) (tE X.K C T (opN lstO f)) :=
  (pe_lst h).imp fun σ H Q hq => sndN_rd (r := fun xs H1 Q => xs.length ≤ sizeLine ∧ ∀ p, H1 p = none → Q (.ref p) (upd H1 p (.lst xs))) (fun {F A G M H ws w xs Q} m r h q => by
    unfold lstO at h
    split at h
    · rename_i hl
      obtain ⟨ds, h1, rfl⟩ := Option.map_eq_some_iff.mp h
      have rr := unW_ok h1 r
      refine ⟨lim_ok (by rw [← Paired.length r]; exact hl), fun p hp => ?_⟩
      have ff := (m.fresh hp).1
      exact q _ _ _ (Ex.new ff) (m.allocF hp) (.fz (.lst upd_same (rr.mono (Ex.new ff))))
    · cases h) σ H Q hq
/-- data becomes an object that may change: a display that is stored in a name at once -/
def newO (f : Mo MO) : Mo W := bnd f fun m => fun s => some (.ok (.ob s.m.length), { s with m := s.m ++ [m] })
def lstM (f : Mo (List W)) : Mo W := newO (bnd f fun ws => ofO (if ws.length ≤ LIM then (unW ws).map .lst else none))
theorem pd_lstM {X : Cx} {es : List Expr} {pos : Pos} {f : Mo (List W)} (h : PA X es (tA X.K C T f)) : PE X (.List es pos) (tE X.K C T (lstM f)) :=
  (pe_lst h).imp fun σ H Q ⟨F, A, G, s, hs, hq⟩ => by
    have hq : Out X.K C T (RepW X.K) F A G (bnd f (fun ws => bnd (ofO (if ws.length ≤ LIM then (unW ws).map MO.lst else none)) fun m => fun s => some (.ok (W.ob s.m.length), { s with m := s.m ++ [m] })) s) σ Q := by
      obtain ⟨r, s', h1, h2⟩ := hq
      refine ⟨r, s', ?_, h2⟩
      rw [← h1]
      unfold lstM newO bnd
      cases f s with
      | none => rfl
      | some q =>
        obtain ⟨r, s1⟩ := q
        cases r <;> rfl
    refine rd_go hs hq fun xs F1 A1 H1 s1 ws _ _ hs1 rs hq1 => ?_
    obtain ⟨r, s', h1, h2⟩ := hq1
    unfold bnd ofO at h1
    split at h1
    · rename_i m s2 e
      split at e
      · rename_i m' e2
        cases e
        split at e2
        · rename_i hl
          obtain ⟨ds, h3, rfl⟩ := Option.map_eq_some_iff.mp e2
          cases h1
          have rr := unW_ok h3 rs
          refine ⟨lim_ok (by rw [← Paired.length rs]; exact hl), fun p hp => ?_⟩
          have pr : A1 <+: A1 ++ [p] := List.prefix_append _ _
          have sm := hs1.mem.allocO (o := .lst xs) (m := .lst ds) hp ⟨xs, rfl, rr⟩
          refine h2 (.ref p) F1 (A1 ++ [p]) _ (Ex.refl _) pr (hs1.of (Ex.refl _) pr sm) (.ob ?_)
          rw [← hs1.mem.len]
          simp
        · cases e2
      · cases e
    · cases h1
      rename_i e
      split at e <;> cases e
    · cases h1
end
end PD

/-! PDd: operators, comparisons, what is built in, on data. -/
noncomputable section
namespace PD
open PySem L2
section
variable {K : PySem.W.Frag} {C : Nat → Addr} {F G : Hp} {A : List Addr} {H : Hp} {M : List MO} {Q : VK}
theorem SimM.newL (m : SimM K C F A G M H) {p : Addr} (hp : H p = none) {ds : List D} {vs : List V} (r : Reps K F ds vs)
    (q : ∀ v F' H', Ex F F' → SimM K C F' A G M H' → RepW K F' A (.fz (.lst ds)) v → Q v H') : Q (.ref p) (upd H p (.lst vs)) := by
  have ff := (m.fresh hp).1
  exact q _ _ _ (Ex.new ff) (m.allocF hp) (.fz (.lst upd_same (r.mono (Ex.new ff))))
theorem SimM.newT (m : SimM K C F A G M H) {p : Addr} (hp : H p = none) {ds : List D} {vs : List V} (r : Reps K F ds vs)
    (q : ∀ v F' H', Ex F F' → SimM K C F' A G M H' → RepW K F' A (.fz (.tup ds)) v → Q v H') : Q (.ref p) (upd H p (.tup vs)) := by
  have ff := (m.fresh hp).1
  exact q _ _ _ (Ex.new ff) (m.allocF hp) (.fz (.tup (.inl (.inl upd_same)) (r.mono (Ex.new ff))))
theorem SimM.newD (m : SimM K C F A G M H) {p : Addr} (hp : H p = none) {ds : List (Key × D)} {vs : List (Key × V)} (r : RepK K F ds vs)
    (q : ∀ v F' H', Ex F F' → SimM K C F' A G M H' → RepW K F' A (.fz (.dK ds)) v → Q v H') : Q (.ref p) (upd H p (.dK vs)) := by
  have ff := (m.fresh hp).1
  exact q _ _ _ (Ex.new ff) (m.allocF hp) (.fz (.dK upd_same (r.mono (Ex.new ff))))
/-- the same value, nothing new -/
theorem SimM.old (m : SimM K C F A G M H) {w : W} {v : V} (r : RepW K F A w v) (q : ∀ v F' H', Ex F F' → SimM K C F' A G M H' → RepW K F' A w v → Q v H') : Q v H := q v F H (Ex.refl F) m r
end
section
variable {K : PySem.W.Frag} {C : Nat → Addr}
theorem rInt {F : Hp} {A : List Addr} {i : Int} {x : V} (r : RepW K F A (.fz (.int i)) x) : x = .int i := by cases r with | fz r => cases r; rfl
theorem rStr {F : Hp} {A : List Addr} {i : Str} {x : V} (r : RepW K F A (.fz (.str i)) x) : x = .str i := by cases r with | fz r => cases r; rfl
theorem rBl {F : Hp} {A : List Addr} {i : Bool} {x : V} (r : RepW K F A (.fz (.bl i)) x) : x = .bl i := by cases r with | fz r => cases r; rfl
theorem rNon {F : Hp} {A : List Addr} {x : V} (r : RepW K F A (.fz .non) x) : x = .non := by cases r with | fz r => cases r; rfl

/-! ### + -/
def addO (M : List MO) : W → W → Option W
  | .fz (.int i), .fz (.int j) => some (.fz (.int (i + j)))
  | .fz (.str x), .fz (.str y) => if x.length + y.length ≤ LIM then some (.fz (.str (x ++ y))) else none
  | .fz (.tup a), .fz (.tup b) => if a ≠ [] ∧ a.length + b.length ≤ LIM then some (.fz (.tup (a ++ b))) else if a = [] ∧ b = [] then none else none
  | w1, w2 => match asL M w1, asL M w2 with
    | some a, some b => if a.length + b.length ≤ LIM then some (.fz (.lst (a ++ b))) else none
    | _, _ => none
def rAddW (K : PySem.W.Frag) : R2 := fun x y H Q => rI0 (fun i j => .int (i + j)) x y H Q ∨ (∃ i j, x = .str i ∧ y = .str j ∧ i.length + j.length ≤ sizeLine ∧ Q (.str (i ++ j)) H) ∨ rCatT K x y H Q ∨ rCat x y H Q
theorem opAdd {X : Cx} : OpR X (binaryOp .Add) (rAddW X.K) := op_add.or (op_add_str.or (op_catT.or op_cat))
theorem sAdd : Snd2 K C (rAddW K) addO := by
  intro F A G M H w1 w2 w x y Q m r1 r2 h q
  unfold addO at h
  split at h
  · cases h
    refine .inl ⟨_, _, rInt r1, rInt r2, m.old (.fz (.int _)) q⟩
  · split at h
    · rename_i hl
      cases h
      exact .inr (.inl ⟨_, _, rStr r1, rStr r2, lim_ok hl, m.old (.fz (.str _)) q⟩)
    · cases h
  · split at h
    · rename_i a b hc
      cases h
      obtain ⟨pa, va, rfl, h1, h2⟩ := asT_ok m r1 rfl
      obtain ⟨pb, vb, rfl, h3, h4⟩ := asT_ok m r2 rfl
      refine .inr (.inr (.inl ⟨pa, pb, va, vb, rfl, rfl, h1, h3, fun z => hc.1 (by have := h2.length; rw [z] at this; exact List.eq_nil_of_length_eq_zero this), lim_ok (by rw [← h2.length, ← h4.length]; exact hc.2), fun z => ?_, fun z p hp => m.newT hp (h2.append h4) q⟩))
      have hb : b = [] := List.eq_nil_of_length_eq_zero (by rw [h4.length, z]; rfl)
      rw [hb, List.append_nil] at q
      exact m.old r1 q
    · split at h <;> cases h
  · split at h
    · rename_i a b ha hb
      split at h
      · rename_i hl
        cases h
        obtain ⟨pa, va, rfl, h1, h2⟩ := asL_ok m r1 ha
        obtain ⟨pb, vb, rfl, h3, h4⟩ := asL_ok m r2 hb
        exact .inr (.inr (.inr ⟨pa, pb, va, vb, rfl, rfl, h1, h3, lim_ok (by rw [← h2.length, ← h4.length]; exact hl), fun p hp => m.newL hp (h2.append h4) q⟩))
      · cases h
    · cases h

/-! ### - * // % -/
def subO (_ : List MO) : W → W → Option W
  | .fz (.int i), .fz (.int j) => some (.fz (.int (i - j)))
  | _, _ => none
theorem sSub : Snd2 K C (rI0 fun i j => .int (i - j)) subO := by
  intro F A G M H w1 w2 w x y Q m r1 r2 h q
  unfold subO at h
  split at h
  · cases h
    exact ⟨_, _, rInt r1, rInt r2, m.old (.fz (.int _)) q⟩
  · cases h
def repS (x : Str) (n : Nat) : Str := ⟨(List.replicate n x.cps.toList).flatten.toArray⟩
def mulO (_ : List MO) : W → W → Option W
  | .fz (.int i), .fz (.int j) => if (-(2 ^ 64) < i ∧ i < 2 ^ 64) ∨ (-(2 ^ 64) < j ∧ j < 2 ^ 64) then some (.fz (.int (i * j))) else none
  | .fz (.str x), .fz (.int n) => if 0 ≤ n ∧ n ≤ 1000000 ∧ x.length * n.toNat ≤ LIM then some (.fz (.str (repS x n.toNat))) else none
  | _, _ => none
def rMulS : R2 := fun x y H Q => ∃ z n, x = .str z ∧ y = .int n ∧ 0 ≤ n ∧ n ≤ 1000000 ∧ z.length * n.toNat ≤ LIM ∧ Q (.str (repS z n.toNat)) H
theorem fold_app (xs : Array Nat) : ∀ (n : Nat) (acc : Array Nat), (List.replicate n xs).foldl (· ++ ·) acc = ⟨acc.toList ++ (List.replicate n xs.toList).flatten⟩
  | 0, acc => by simp
  | n + 1, acc => by
    rw [List.replicate_succ, List.foldl_cons, fold_app xs n]
    simp [List.replicate_succ]
theorem op_mulS {X : Cx} : OpR X (binaryOp .Mult) rMulS := by
  intro pins s σ H x y v u Q I rx ry h
  obtain ⟨z, n, rfl, rfl, h0, h1, h2, q⟩ := h
  obtain ⟨t, rfl⟩ := rx
  obtain ⟨t', rfl⟩ := ry
  refine PySem.P.mul_str (by simp; omega) (fun _ _ => ?_) (fun _ _ => ?_) ?_
  · rename_i hn _
    intro hc
    have h3 : (z.length : Int) * n ≤ 16777216 := by
      have : ((z.length * n.toNat : Nat) : Int) ≤ ((16777216 : Nat) : Int) := by exact_mod_cast h2
      rw [Int.natCast_mul, Int.toNat_of_nonneg h0] at this
      exact this
    have h4 : (z.length : Int) ≤ 16777216 := by
      have hn1 : 1 ≤ n := by omega
      have : (z.length : Int) * 1 ≤ (z.length : Int) * n := Int.mul_le_mul_of_nonneg_left hn1 (Int.natCast_nonneg _)
      omega
    have h5 : (16777216 : Int) ≤ (2 ^ 63 - 1) / n := by
      rw [Int.le_ediv_iff_mul_le (by omega)]
      omega
    omega
  · have h2' : z.length * n.toNat ≤ 16777216 := h2
    have : ¬ (z.length * n.toNat > sizeLine) := by rw [sizeLine_eq]; exact Nat.not_lt.mpr h2'
    show (decide (_ > sizeLine)) = false
    exact decide_eq_false this
  · by_cases hn : n < 1
    · rw [if_pos hn]
      have e : n = 0 := by omega
      subst e
      refine ⟨by decide, ?_⟩
      exact ⟨.str Str.empty, H, I.tok _, ⟨_, rfl⟩, q⟩
    · rw [if_neg hn]
      by_cases hc : (n == 1 || z.length == 0) = true
      · rw [if_pos hc]
        have e : repS z n.toNat = z := by
          rw [Bool.or_eq_true, beq_iff_eq, beq_iff_eq] at hc
          unfold repS
          rcases hc with rfl | hz
          · simp
          · have e : z.cps = #[] := by
              have : z.cps.size = 0 := hz
              exact Array.eq_empty_of_size_eq_zero this
            rw [e]
            have : (List.replicate n.toNat (#[] : Array Nat).toList).flatten = [] := by simp
            rw [this]
            cases z
            simp at e
            rw [e]
        rw [e] at q
        exact ⟨.str z, H, I, ⟨_, rfl⟩, q⟩
      · rw [if_neg hc]
        refine ⟨?_, ?_⟩
        · rw [fold_app]
          have h2' : z.length * n.toNat ≤ 16777216 := h2
          show (([] : List Nat) ++ (List.replicate n.toNat z.cps.toList).flatten).toArray.size ≤ sizeLine
          rw [sizeLine_eq]
          have e : z.cps.toList.length = z.length := by simp [Str.length]
          simp [List.length_flatten] 
          rw [Nat.mul_comm]
          exact h2'
        refine ⟨.str (repS z n.toNat), H, I.tok _, ⟨s.toks, ?_⟩, q⟩
        rw [fold_app]
        rfl
def rMulW : R2 := fun x y H Q => rI CMul (fun i j => .int (i * j)) x y H Q ∨ rMulS x y H Q
theorem opMul {X : Cx} : OpR X (binaryOp .Mult) rMulW := op_mul.or op_mulS
theorem sMul : Snd2 K C rMulW mulO := by
  intro F A G M H w1 w2 w x y Q m r1 r2 h q
  unfold mulO at h
  split at h
  · split at h
    · rename_i hc
      cases h
      exact .inl ⟨_, _, rInt r1, rInt r2, hc, m.old (.fz (.int _)) q⟩
    · cases h
  · split at h
    · rename_i hc
      cases h
      exact .inr ⟨_, _, rStr r1, rInt r2, hc.1, hc.2.1, hc.2.2, m.old (.fz (.str _)) q⟩
    · cases h
  · cases h
def fdvO (_ : List MO) : W → W → Option W
  | .fz (.int i), .fz (.int j) => if 0 < j ∧ j < 1073741824 then some (.fz (.int (i / j))) else none
  | _, _ => none
theorem sFdv : Snd2 K C (rI CDiv fun i j => .int (i / j)) fdvO := by
  intro F A G M H w1 w2 w x y Q m r1 r2 h q
  unfold fdvO at h
  split at h
  · split at h
    · rename_i hc
      cases h
      exact ⟨_, _, rInt r1, rInt r2, hc, m.old (.fz (.int _)) q⟩
    · cases h
  · cases h
def modO (_ : List MO) : W → W → Option W
  | .fz (.int i), .fz (.int j) => if 0 < j then some (.fz (.int (i % j))) else none
  | _, _ => none
theorem sMod : Snd2 K C (rI (fun _ j => 0 < j) fun i j => .int (i % j)) modO := by
  intro F A G M H w1 w2 w x y Q m r1 r2 h q
  unfold modO at h
  split at h
  · split at h
    · rename_i hc
      cases h
      exact ⟨_, _, rInt r1, rInt r2, hc, m.old (.fz (.int _)) q⟩
    · cases h
  · cases h

/-! ### < <= > >= -/
def ltO (_ : List MO) : W → W → Option W
  | .fz (.int i), .fz (.int j) => some (.fz (.bl (decide (i < j))))
  | .fz (.str x), .fz (.str y) => some (.fz (.bl (decide (x.cps.toList < y.cps.toList))))
  | _, _ => none
def leO (_ : List MO) : W → W → Option W
  | .fz (.int i), .fz (.int j) => some (.fz (.bl (decide (i ≤ j))))
  | .fz (.str x), .fz (.str y) => some (.fz (.bl (!decide (y.cps.toList < x.cps.toList))))
  | _, _ => none
def gtO (_ : List MO) : W → W → Option W
  | .fz (.int i), .fz (.int j) => some (.fz (.bl (decide (j < i))))
  | .fz (.str x), .fz (.str y) => some (.fz (.bl (decide (y.cps.toList < x.cps.toList))))
  | _, _ => none
def geO (_ : List MO) : W → W → Option W
  | .fz (.int i), .fz (.int j) => some (.fz (.bl (decide (j ≤ i))))
  | .fz (.str x), .fz (.str y) => some (.fz (.bl (!decide (x.cps.toList < y.cps.toList))))
  | _, _ => none
def rLtW : R2 := fun x y H Q => rI0 (fun i j => .bl (decide (i < j))) x y H Q ∨ (∃ i j, x = .str i ∧ y = .str j ∧ Q (.bl (decide (i.cps.toList < j.cps.toList))) H)
def rLeW : R2 := fun x y H Q => rI0 (fun i j => .bl (decide (i ≤ j))) x y H Q ∨ (∃ i j, x = .str i ∧ y = .str j ∧ Q (.bl (!decide (j.cps.toList < i.cps.toList))) H)
def rGtW : R2 := fun x y H Q => rI0 (fun i j => .bl (decide (j < i))) x y H Q ∨ (∃ i j, x = .str i ∧ y = .str j ∧ Q (.bl (decide (j.cps.toList < i.cps.toList))) H)
def rGeW : R2 := fun x y H Q => rI0 (fun i j => .bl (decide (j ≤ i))) x y H Q ∨ (∃ i j, x = .str i ∧ y = .str j ∧ Q (.bl (!decide (i.cps.toList < j.cps.toList))) H)
theorem opLt {X : Cx} : OpR X (compareOp .Lt) rLtW := op_lt.or op_lt_str
theorem opLe {X : Cx} : OpR X (compareOp .LtE) rLeW := op_le.or op_le_str
theorem opGt {X : Cx} : OpR X (compareOp .Gt) rGtW := op_gt.or op_gt_str
theorem opGe {X : Cx} : OpR X (compareOp .GtE) rGeW := op_ge.or op_ge_str
theorem sLt : Snd2 K C rLtW ltO := by
  intro F A G M H w1 w2 w x y Q m r1 r2 h q
  unfold ltO at h
  split at h
  · cases h
    exact .inl ⟨_, _, rInt r1, rInt r2, m.old (.fz (.bl _)) q⟩
  · cases h
    exact .inr ⟨_, _, rStr r1, rStr r2, m.old (.fz (.bl _)) q⟩
  · cases h
theorem sLe : Snd2 K C rLeW leO := by
  intro F A G M H w1 w2 w x y Q m r1 r2 h q
  unfold leO at h
  split at h
  · cases h
    exact .inl ⟨_, _, rInt r1, rInt r2, m.old (.fz (.bl _)) q⟩
  · cases h
    exact .inr ⟨_, _, rStr r1, rStr r2, m.old (.fz (.bl _)) q⟩
  · cases h
theorem sGt : Snd2 K C rGtW gtO := by
  intro F A G M H w1 w2 w x y Q m r1 r2 h q
  unfold gtO at h
  split at h
  · cases h
    exact .inl ⟨_, _, rInt r1, rInt r2, m.old (.fz (.bl _)) q⟩
  · cases h
    exact .inr ⟨_, _, rStr r1, rStr r2, m.old (.fz (.bl _)) q⟩
  · cases h
theorem sGe : Snd2 K C rGeW geO := by
  intro F A G M H w1 w2 w x y Q m r1 r2 h q
  unfold geO at h
  split at h
  · cases h
    exact .inl ⟨_, _, rInt r1, rInt r2, m.old (.fz (.bl _)) q⟩
  · cases h
    exact .inr ⟨_, _, rStr r1, rStr r2, m.old (.fz (.bl _)) q⟩
  · cases h

/-! ### is None, is True -/
def rIsW : R2 := fun x y H Q => (y = .non ∧ Q (.bl (decide (x = .non))) H) ∨ rIsB x y H Q
def rNotIsW : R2 := fun x y H Q => (y = .non ∧ Q (.bl (!decide (x = .non))) H) ∨ rNotB x y H Q
theorem opIs {X : Cx} : OpR X (compareOp .Is) rIsW := op_isN.or op_isBl
theorem opIsNot {X : Cx} : OpR X (compareOp .IsNot) rNotIsW := op_notN.or op_notBl
def isNonW : W → Bool
  | .fz .non => true
  | _ => false
def isO (_ : List MO) : W → W → Option W
  | w, .fz .non => some (.fz (.bl (isNonW w)))
  | .fz (.bl a), .fz (.bl b) => some (.fz (.bl (decide (a = b))))
  | _, _ => none
def isNotO (_ : List MO) : W → W → Option W
  | w, .fz .non => some (.fz (.bl (!isNonW w)))
  | .fz (.bl a), .fz (.bl b) => some (.fz (.bl (!decide (a = b))))
  | _, _ => none
theorem isNon_ok {F : Hp} {A : List Addr} {w : W} {x : V} (r : RepW K F A w x) : decide (x = .non) = isNonW w := by
  cases r with
  | fz r => cases r <;> rfl
  | ob _ => rfl
  | ad => rfl
theorem sIs : Snd2 K C rIsW isO := by
  intro F A G M H w1 w2 w x y Q m r1 r2 h q
  unfold isO at h
  split at h
  · cases h
    refine .inl ⟨rNon r2, ?_⟩
    rw [isNon_ok r1]
    exact m.old (.fz (.bl _)) q
  · cases h
    exact .inr ⟨_, _, rBl r1, rBl r2, m.old (.fz (.bl _)) q⟩
  · cases h
theorem sIsNot : Snd2 K C rNotIsW isNotO := by
  intro F A G M H w1 w2 w x y Q m r1 r2 h q
  unfold isNotO at h
  split at h
  · cases h
    refine .inl ⟨rNon r2, ?_⟩
    rw [isNon_ok r1]
    exact m.old (.fz (.bl _)) q
  · cases h
    exact .inr ⟨_, _, rBl r1, rBl r2, m.old (.fz (.bl _)) q⟩
  · cases h
end
end PD

/-! PDe: == of data at any depth; in. -/
noncomputable section
namespace PD
open PySem L2

/-! ### == -/
def all2 (f : D → D → Option Bool) : List D → List D → Option Bool
  | a :: as, b :: bs => match f a b, all2 f as bs with
    | some x, some y => some (x && y)
    | _, _ => none
  | _, _ => some true
/-- dict-free data -/
def eqA : Nat → D → D → Option Bool
  | 0, _, _ => none
  | n + 1, d, e => match d, e with
    | .non, .non => some true
    | .bl a, .bl b => some (a == b)
    | .int a, .int b => some (a == b)
    | .str a, .str b => some (a == b)
    | .non, .int _ => some false
    | .int _, .non => some false
    | .non, .str _ => some false
    | .str _, .non => some false
    | .non, .bl _ => some false
    | .bl _, .non => some false
    | .str _, .int _ => some false
    | .int _, .str _ => some false
    | .non, .tup _ => some false
    | .tup _, .non => some false
    | .non, .lst _ => some false
    | .lst _, .non => some false
    | .lst a, .lst b => if a.length = b.length then all2 (eqA n) a b else some false
    | .tup a, .tup b => (all2 (eqA n) a b).map fun k => k && a.length == b.length
    | _, _ => none
section
variable {K : PySem.W.Frag} {C : Nat → Addr} {F G : Hp} {A : List Addr} {H : Hp} {M : List MO} {Q : VK}
theorem all2_get {f : D → D → Option Bool} : ∀ {as bs : List D} {k : Bool}, all2 f as bs = some k → ∃ g : Nat → Bool, (∀ (j : Nat) (a b : D), as[j]? = some a → bs[j]? = some b → f a b = some (g j)) ∧ (List.range (min as.length bs.length)).all g = k
  | a :: as, b :: bs, k, h => by
    unfold all2 at h
    split at h
    · rename_i x y h1 h2
      cases h
      obtain ⟨g, g1, g2⟩ := all2_get h2
      refine ⟨fun j => match j with | 0 => x | j + 1 => g j, fun j u v hu hv => ?_, ?_⟩
      · cases j with
        | zero => cases hu; cases hv; exact h1
        | succ j => exact g1 j u v (by simpa using hu) (by simpa using hv)
      · rw [show min (a :: as).length (b :: bs).length = min as.length bs.length + 1 by simp [Nat.succ_min_succ], List.range_succ_eq_map, List.all_cons, List.all_map]
        rw [← g2]
        rfl
    · cases h
  | [], bs, k, h => by
    have h : some true = some k := h
    cases h
    exact ⟨fun _ => true, fun j x y hx _ => by simp at hx, by simp⟩
  | a :: as, [], k, h => by
    have h : some true = some k := h
    cases h
    exact ⟨fun _ => true, fun j x y _ hy => by simp at hy, by simp⟩
end
section
variable {X : Cx} {C : Nat → Addr} {pins : List (Addr × Obj)} {σ : L2.St} {F G : Hp} {A : List Addr} {H : Hp} {s : Shared}
theorem list_not_tuple {h : Heap} {a : Addr} {its its' : Array Value} (p : h.IsList a its) (q : h.IsTuple a its') : False := by
  obtain ⟨o, h1, hc, _⟩ := p
  obtain ⟨o', h2, hc', _⟩ := q
  rw [h1] at h2; cases h2
  rw [hc] at hc'
  exact absurd (Value.type.inj hc') (by decide)
/-- what two stand for, by one object, is compared as one with itself -/
theorem eqA_ref (I : Inv X pins σ H s) (e : ExR F H) : ∀ {n : Nat} {d d' : D} {v : V} {k : Bool}, eqA n d d' = some k → Rep X.K F d v → Rep X.K F d' v → k = true
  | 0, _, _, _, _, h, _, _ => by cases h
  | n + 1, d, d', v, k, h, r, r' => by
    have l2 : ∀ {as bs : List D} {vs : List V} {k : Bool}, all2 (eqA n) as bs = some k → Reps X.K F as vs → Reps X.K F bs vs → k = true := fun {as bs vs k} h r r' => by
      obtain ⟨g, g1, g2⟩ := all2_get h
      rw [← g2, List.all_eq_true]
      intro j hj
      have hj := List.mem_range.mp hj
      have h1 : j < as.length := by omega
      have h2 : j < bs.length := by omega
      obtain ⟨v1, e1, q1⟩ := r.get (List.getElem?_eq_getElem h1)
      obtain ⟨v2, e2, q2⟩ := r'.get (List.getElem?_eq_getElem h2)
      rw [e1] at e2; cases e2
      exact eqA_ref I e (g1 j _ _ (List.getElem?_eq_getElem h1) (List.getElem?_eq_getElem h2)) q1 q2
    cases r with
    | non => cases r'; cases h; rfl
    | bl b => cases r'; have h : some (b == b) = some k := h; cases h; simp
    | int b => cases r'; have h : some (b == b) = some k := h; cases h; simp
    | str b => cases r'; have h : some (b == b) = some k := h; cases h; simp
    | sl _ _ => cases h
    | @lst a vs ds hf hr =>
      cases r' with
      | @lst _ vs' ds' hf' hr' =>
        rw [hf] at hf'; cases hf'
        have h : (if ds.length = ds'.length then all2 (eqA n) ds ds' else some false) = some k := h
        rw [if_pos (by rw [hr.length, hr'.length])] at h
        exact l2 h hr hr'
      | sl _ _ => cases h
      | tup ht hr' =>
        obtain ⟨its, _, pl, _⟩ := I.list (.inl (.inl (e.at hf rfl)))
        obtain ⟨its', _, pt, _⟩ := I.tuple (e.st ht)
        exact (list_not_tuple pl.isList pt).elim
      | dK _ _ => cases h
      | dT _ _ => cases h
    | @tup a vs ds ht hr =>
      cases r' with
      | @tup _ vs' ds' ht' hr' =>
        have ev := I.tuple_inj (e.st ht) (e.st ht')
        subst ev
        have h : ((all2 (eqA n) ds ds').map fun k => k && ds.length == ds'.length) = some k := h
        obtain ⟨k', h', rfl⟩ := Option.map_eq_some_iff.mp h
        rw [l2 h' hr hr', hr.length, hr'.length]
        simp
      | sl _ _ => cases h
      | lst hf hr' =>
        obtain ⟨its, _, pl, _⟩ := I.list (.inl (.inl (e.at hf rfl)))
        obtain ⟨its', _, pt, _⟩ := I.tuple (e.st ht)
        exact (list_not_tuple pl.isList pt).elim
      | dK _ _ => cases h
      | dT _ _ => cases h
    | dK _ _ => cases r' <;> cases h
    | dT _ _ => cases r' <;> cases h
open SeqAt in
/-- two refs: by what they hold -/
theorem eqAt_two {Ar : Around} {a b : Addr} {k : Bool} (same : a = b → k = true) (h : RcAt Ar s (.ref a) (.ref b) k) : EqAt Ar s (.ref a) (.ref b) k := by
  by_cases e : a = b
  · subst e
    rw [same rfl]
    exact EqAt.same _
  · exact EqAt.of_refs e h
open SeqAt in
/-- what is compared within: one value with another -/
theorem eqA_run (I : Inv X pins σ H s) (e : ExR F H) : ∀ (n : Nat) (Ar : Around), Ar.units + n < cLine → ∀ {d d' : D} {x y : V} {v u : Value} {k : Bool}, eqA n d d' = some k → Rep X.K F d x → Rep X.K F d' y → RelV x v → RelV y u → EqAt Ar s v u k
  | 0, _, _, _, _, _, _, _, _, _, h, _, _, _, _ => by cases h
  | n + 1, Ar, hu, d, d', x, y, v, u, k, h, r, r', rx, ry => by
    have hu0 : Ar.units < cLine := by omega
    have hu1 : Ar.in1.units + n < cLine := by show Ar.units + 1 + n < cLine; omega
    have hk : ∀ {a b : Addr}, x = .ref a → y = .ref b → a = b → k = true := fun {a b} e1 e2 e3 => by
      subst e1 e2 e3
      exact eqA_ref I e h r r'
    have scan : ∀ {as bs : List D} {vs ws : List V} {us ts : List Value} {k : Bool}, all2 (eqA n) as bs = some k → Reps X.K F as vs → Reps X.K F bs ws → Vals vs us → Vals ws ts →
        ∃ f : Nat → Bool, (∀ j (h1 : j < us.length) (h2 : j < ts.length), EqAt Ar.in1 s us[j] ts[j] (f j)) ∧ (List.range (min us.length ts.length)).all f = k := by
      intro as bs vs ws us ts k h r r' hv hw
      obtain ⟨f, f1, f2⟩ := all2_get h
      refine ⟨f, fun j h1 h2 => ?_, ?_⟩
      · have l1 : j < as.length := by rw [r.length, hv.length]; exact h1
        have l2 : j < bs.length := by rw [r'.length, hw.length]; exact h2
        obtain ⟨x1, g1, q1⟩ := r.get (List.getElem?_eq_getElem l1)
        obtain ⟨x2, g2, q2⟩ := r'.get (List.getElem?_eq_getElem l2)
        obtain ⟨u1, e1, rr1⟩ := hv.get g1
        obtain ⟨u2, e2, rr2⟩ := hw.get g2
        rw [List.getElem?_eq_getElem h1] at e1; cases e1
        rw [List.getElem?_eq_getElem h2] at e2; cases e2
        exact eqA_run I e n Ar.in1 hu1 (f1 j _ _ (List.getElem?_eq_getElem l1) (List.getElem?_eq_getElem l2)) q1 q2 rr1 rr2
      · rw [← hv.length, ← hw.length, ← r.length, ← r'.length]
        exact f2
    cases r with
    | non =>
      cases rx
      cases r' with
      | non => cases ry; cases h; exact EqAt.same _
      | bl b => cases ry; cases h; exact EqAt.none_bool b
      | int b => obtain ⟨t, rfl⟩ := ry; cases h; exact EqAt.none_int b t
      | str b => obtain ⟨t, rfl⟩ := ry; cases h; exact EqAt.none_str b t
      | lst hf hr => cases ry; cases h; obtain ⟨its, _, pl, _⟩ := I.list (.inl (.inl (e.at hf rfl))); exact EqAt.none_list pl.isList hu0
      | tup ht hr => cases ry; cases h; obtain ⟨its, _, pt, _⟩ := I.tuple (e.st ht); exact EqAt.none_tuple pt hu0
      | sl _ _ => cases h
      | dK _ _ => cases h
      | dT _ _ => cases h
    | bl a =>
      cases rx
      cases r' with
      | non => cases ry; cases h; exact EqAt.bool_none a
      | bl b => cases ry; have h : some (a == b) = some k := h; cases h; exact EqAt.bool_bool a b
      | _ => cases h
    | int a =>
      obtain ⟨t, rfl⟩ := rx
      cases r' with
      | non => cases ry; cases h; exact EqAt.int_none a t
      | int b => obtain ⟨t', rfl⟩ := ry; have h : some (a == b) = some k := h; cases h; exact EqAt.int_int a t b t'
      | str b => obtain ⟨t', rfl⟩ := ry; cases h; exact EqAt.int_str a t b t'
      | _ => cases h
    | str a =>
      obtain ⟨t, rfl⟩ := rx
      cases r' with
      | non => cases ry; cases h; exact EqAt.str_none a t
      | int b => obtain ⟨t', rfl⟩ := ry; cases h; exact EqAt.str_int a t b t'
      | str b => obtain ⟨t', rfl⟩ := ry; have h : some (a == b) = some k := h; cases h; exact EqAt.str_str a t b t'
      | _ => cases h
    | @lst a vs ds hf hr =>
      obtain rfl : v = Value.ref a := rx
      obtain ⟨its, rv, pl, _⟩ := I.list (.inl (.inl (e.at hf rfl)))
      cases r' with
      | non => cases ry; cases h; exact EqAt.list_none pl.isList hu0
      | @lst b vs' ds' hf' hr' =>
        obtain rfl : u = Value.ref b := ry
        obtain ⟨its', rv', pl', _⟩ := I.list (.inl (.inl (e.at hf' rfl)))
        refine eqAt_two (hk rfl rfl) ?_
        have h : (if ds.length = ds'.length then all2 (eqA n) ds ds' else some false) = some k := h
        split at h
        · rename_i hl
          obtain ⟨f, f1, f2⟩ := scan h hr hr' rv rv'
          have el : its.length = its'.length := by rw [← rv.length, ← rv'.length, ← hr.length, ← hr'.length]; exact hl
          rw [← f2, ← el, Nat.min_self]
          have := RcAt.lists (e := f) pl.isList pl'.isList (by simpa using el) hu0 (fun j h1 h2 => by simpa using f1 j (by simpa using h1) (by simpa using h2))
          simpa using this
        · rename_i hl
          cases h
          exact RcAt.lists_lengths pl.isList pl'.isList (by
            have : its.length ≠ its'.length := by rw [← rv.length, ← rv'.length, ← hr.length, ← hr'.length]; exact hl
            simpa using this) hu0
      | _ => cases h
    | @tup a vs ds ht hr =>
      obtain rfl : v = Value.ref a := rx
      obtain ⟨its, rv, pt, _⟩ := I.tuple (e.st ht)
      cases r' with
      | non => cases ry; cases h; exact EqAt.tuple_none pt hu0
      | @tup b vs' ds' ht' hr' =>
        obtain rfl : u = Value.ref b := ry
        obtain ⟨its', rv', pt', _⟩ := I.tuple (e.st ht')
        refine eqAt_two (hk rfl rfl) ?_
        have h : ((all2 (eqA n) ds ds').map fun k => k && ds.length == ds'.length) = some k := h
        obtain ⟨k', h', rfl⟩ := Option.map_eq_some_iff.mp h
        obtain ⟨f, f1, f2⟩ := scan h' hr hr' rv rv'
        have := RcAt.tuples (e := f) pt pt' hu0 (fun j h1 h2 => by simpa using f1 j (by simpa using h1) (by simpa using h2))
        rw [← f2, hr.length, hr'.length, rv.length, rv'.length]
        simpa using this
      | _ => cases h
    | sl _ _ => cases h
    | dK _ _ => cases h
    | dT _ _ => cases h
open SeqAt in
/-- a comparison by itself -/
theorem eqA_top (I : Inv X pins σ H s) (e : ExR F H) {n : Nat} {Ar : Around} (hu : Ar.units + n < cLine) {d d' : D} {x y : V} {v u : Value} {k : Bool} (h : eqA n d d' = some k) (r : Rep X.K F d x) (r' : Rep X.K F d' y) (rx : RelV x v) (ry : RelV y u) : RcAt Ar s v u k ∧ RcNeAt Ar s v u (!k) := by
  cases n with
  | zero => cases h
  | succ n =>
    have hu0 : Ar.units < cLine := by omega
    have hu1 : Ar.in1.units + n < cLine := by show Ar.units + 1 + n < cLine; omega
    have scan : ∀ {as bs : List D} {vs ws : List V} {us ts : List Value} {k : Bool}, all2 (eqA n) as bs = some k → Reps X.K F as vs → Reps X.K F bs ws → Vals vs us → Vals ws ts →
        ∃ f : Nat → Bool, (∀ j (h1 : j < us.length) (h2 : j < ts.length), EqAt Ar.in1 s us[j] ts[j] (f j)) ∧ (List.range (min us.length ts.length)).all f = k := by
      intro as bs vs ws us ts k h r r' hv hw
      obtain ⟨f, f1, f2⟩ := all2_get h
      refine ⟨f, fun j h1 h2 => ?_, ?_⟩
      · have l1 : j < as.length := by rw [r.length, hv.length]; exact h1
        have l2 : j < bs.length := by rw [r'.length, hw.length]; exact h2
        obtain ⟨x1, g1, q1⟩ := r.get (List.getElem?_eq_getElem l1)
        obtain ⟨x2, g2, q2⟩ := r'.get (List.getElem?_eq_getElem l2)
        obtain ⟨u1, e1, rr1⟩ := hv.get g1
        obtain ⟨u2, e2, rr2⟩ := hw.get g2
        rw [List.getElem?_eq_getElem h1] at e1; cases e1
        rw [List.getElem?_eq_getElem h2] at e2; cases e2
        exact eqA_run I e n Ar.in1 hu1 (f1 j _ _ (List.getElem?_eq_getElem l1) (List.getElem?_eq_getElem l2)) q1 q2 rr1 rr2
      · rw [← hv.length, ← hw.length, ← r.length, ← r'.length]
        exact f2
    cases r with
    | non =>
      cases rx
      cases r' with
      | non => cases ry; cases h; exact ⟨RcAt.none_none, RcNeAt.none_none⟩
      | bl b => cases ry; cases h; exact ⟨RcAt.none_bool b, RcNeAt.none_bool b⟩
      | int b => obtain ⟨t, rfl⟩ := ry; cases h; exact ⟨RcAt.none_int b t, RcNeAt.none_int b t⟩
      | str b => obtain ⟨t, rfl⟩ := ry; cases h; exact ⟨RcAt.none_str b t, RcNeAt.none_str b t⟩
      | lst hf hr => cases ry; cases h; obtain ⟨its, _, pl, _⟩ := I.list (.inl (.inl (e.at hf rfl))); exact ⟨RcAt.none_list pl.isList hu0, RcNeAt.none_list pl.isList hu0⟩
      | tup ht hr => cases ry; cases h; obtain ⟨its, _, pt, _⟩ := I.tuple (e.st ht); exact ⟨RcAt.none_tuple pt hu0, RcNeAt.none_tuple pt hu0⟩
      | sl _ _ => cases h
      | dK _ _ => cases h
      | dT _ _ => cases h
    | bl a =>
      cases rx
      cases r' with
      | non => cases ry; cases h; exact ⟨RcAt.bool_none a, RcNeAt.bool_none a⟩
      | bl b => cases ry; have h : some (a == b) = some k := h; cases h; exact ⟨RcAt.bool_bool a b, RcNeAt.bool_bool a b⟩
      | _ => cases h
    | int a =>
      obtain ⟨t, rfl⟩ := rx
      cases r' with
      | non => cases ry; cases h; exact ⟨RcAt.int_none a t, RcNeAt.int_none a t⟩
      | int b => obtain ⟨t', rfl⟩ := ry; have h : some (a == b) = some k := h; cases h; exact ⟨RcAt.int_int a t b t', RcNeAt.int_int a t b t'⟩
      | str b => obtain ⟨t', rfl⟩ := ry; cases h; exact ⟨RcAt.int_str a t b t', RcNeAt.int_str a t b t'⟩
      | _ => cases h
    | str a =>
      obtain ⟨t, rfl⟩ := rx
      cases r' with
      | non => cases ry; cases h; exact ⟨RcAt.str_none a t, RcNeAt.str_none a t⟩
      | int b => obtain ⟨t', rfl⟩ := ry; cases h; exact ⟨RcAt.str_int a t b t', RcNeAt.str_int a t b t'⟩
      | str b => obtain ⟨t', rfl⟩ := ry; have h : some (a == b) = some k := h; cases h; exact ⟨RcAt.str_str a t b t', RcNeAt.str_str a t b t'⟩
      | _ => cases h
    | @lst a vs ds hf hr =>
      obtain rfl : v = Value.ref a := rx
      obtain ⟨its, rv, pl, _⟩ := I.list (.inl (.inl (e.at hf rfl)))
      cases r' with
      | non => cases ry; cases h; exact ⟨RcAt.list_none pl.isList hu0, RcNeAt.list_none pl.isList hu0⟩
      | @lst b vs' ds' hf' hr' =>
        obtain rfl : u = Value.ref b := ry
        obtain ⟨its', rv', pl', _⟩ := I.list (.inl (.inl (e.at hf' rfl)))
        have h : (if ds.length = ds'.length then all2 (eqA n) ds ds' else some false) = some k := h
        split at h
        · rename_i hl
          obtain ⟨f, f1, f2⟩ := scan h hr hr' rv rv'
          have el : its.length = its'.length := by rw [← rv.length, ← rv'.length, ← hr.length, ← hr'.length]; exact hl
          rw [← f2, ← el, Nat.min_self]
          have t1 := RcAt.lists (e := f) pl.isList pl'.isList (by simpa using el) hu0 (fun j h1 h2 => by simpa using f1 j (by simpa using h1) (by simpa using h2))
          have t2 := RcNeAt.lists (e := f) pl.isList pl'.isList (by simpa using el) hu0 (fun j h1 h2 => by simpa using f1 j (by simpa using h1) (by simpa using h2))
          exact ⟨by simpa using t1, by simpa using t2⟩
        · rename_i hl
          cases h
          have hne : (its.toArray.size != its'.toArray.size) = true := by
            have : its.length ≠ its'.length := by rw [← rv.length, ← rv'.length, ← hr.length, ← hr'.length]; exact hl
            simpa using this
          exact ⟨RcAt.lists_lengths pl.isList pl'.isList hne hu0, RcNeAt.lists_lengths pl.isList pl'.isList hne hu0⟩
      | _ => cases h
    | @tup a vs ds ht hr =>
      obtain rfl : v = Value.ref a := rx
      obtain ⟨its, rv, pt, _⟩ := I.tuple (e.st ht)
      cases r' with
      | non => cases ry; cases h; exact ⟨RcAt.tuple_none pt hu0, RcNeAt.tuple_none pt hu0⟩
      | @tup b vs' ds' ht' hr' =>
        obtain rfl : u = Value.ref b := ry
        obtain ⟨its', rv', pt', _⟩ := I.tuple (e.st ht')
        have h : ((all2 (eqA n) ds ds').map fun k => k && ds.length == ds'.length) = some k := h
        obtain ⟨k', h', rfl⟩ := Option.map_eq_some_iff.mp h
        obtain ⟨f, f1, f2⟩ := scan h' hr hr' rv rv'
        have t1 := RcAt.tuples (e := f) pt pt' hu0 (fun j h1 h2 => by simpa using f1 j (by simpa using h1) (by simpa using h2))
        have t2 := RcNeAt.tuples (e := f) pt pt' hu0 (fun j h1 h2 => by simpa using f1 j (by simpa using h1) (by simpa using h2))
        rw [← f2, hr.length, hr'.length, rv.length, rv'.length]
        exact ⟨by simpa using t1, by simpa using t2⟩
      | _ => cases h
    | sl _ _ => cases h
    | dK _ _ => cases h
    | dT _ _ => cases h
end

/-! ### dicts -/
section
variable {β : Type}
def dget (kvs : List (Key × β)) (k : Key) : Option β := (kvs.find? fun kv => decide (kv.1 = k)).map (·.2)
def dput (kvs : List (Key × β)) (k : Key) (v : β) : List (Key × β) := if kvs.any (fun kv => decide (kv.1 = k)) then kvs.map fun kv => if kv.1 = k then (kv.1, v) else kv else kvs ++ [(k, v)]
def ddel (kvs : List (Key × β)) (k : Key) : List (Key × β) := kvs.filter fun kv => decide (kv.1 ≠ k)
end
section
variable {K : PySem.W.Frag} {C : Nat → Addr} {F G : Hp} {A : List Addr} {H : Hp} {M : List MO} {Q : VK}
theorem RepK.get : ∀ {ds : List (Key × D)} {vs : List (Key × V)} (k : Key), RepK K F ds vs → (∀ d, dget ds k = some d → ∃ v, valV vs k = some v ∧ Rep K F d v) ∧ (dget ds k = none → valV vs k = none)
  | _, _, k, .nil => ⟨fun d h => (nomatch h), fun _ => rfl⟩
  | (k', d) :: ds, (_, v) :: vs, k, .cons r t => by
    obtain ⟨h1, h2⟩ := RepK.get k t
    unfold dget valV at *
    rw [List.find?_cons, List.find?_cons]
    by_cases e : k' = k
    · rw [decide_eq_true (show (k', d).1 = k from e)]
      exact ⟨fun d' hd => by cases hd; exact ⟨v, rfl, r⟩, fun h => nomatch h⟩
    · rw [decide_eq_false (show ¬ (k', d).1 = k from e)]
      exact ⟨h1, h2⟩
theorem RepK.any : ∀ {ds : List (Key × D)} {vs : List (Key × V)} (k : Key), RepK K F ds vs → (ds.any fun kv => decide (kv.1 = k)) = vs.any fun kv => decide (kv.1 = k)
  | _, _, _, .nil => rfl
  | (k', d) :: ds, (_, v) :: vs, k, .cons r t => by rw [List.any_cons, List.any_cons, RepK.any k t]
theorem RepK.map : ∀ {ds : List (Key × D)} {vs : List (Key × V)} (k : Key) {d : D} {v : V}, RepK K F ds vs → Rep K F d v → RepK K F (ds.map fun kv => if kv.1 = k then (kv.1, d) else kv) (vs.map fun kv => if kv.1 = k then (kv.1, v) else kv)
  | _, _, _, _, _, .nil, _ => .nil
  | (k', d0) :: ds, (_, v0) :: vs, k, d, v, .cons r t, q => by
    rw [List.map_cons, List.map_cons]
    by_cases e : k' = k
    · rw [if_pos (show (k', d0).1 = k from e), if_pos (show (k', v0).1 = k from e)]
      exact .cons q (RepK.map k t q)
    · rw [if_neg (show ¬ (k', d0).1 = k from e), if_neg (show ¬ (k', v0).1 = k from e)]
      exact .cons r (RepK.map k t q)
theorem RepK.append : ∀ {ds es : List (Key × D)} {vs ws : List (Key × V)}, RepK K F ds vs → RepK K F es ws → RepK K F (ds ++ es) (vs ++ ws)
  | _, _, _, _, .nil, s => s
  | _, _, _, _, .cons h r, s => .cons h (RepK.append r s)
theorem RepK.put {ds : List (Key × D)} {vs : List (Key × V)} (k : Key) {d : D} {v : V} (r : RepK K F ds vs) (q : Rep K F d v) : RepK K F (dput ds k d) (putK vs k v) := by
  unfold dput putK
  rw [r.any k]
  split
  · exact r.map k q
  · exact r.append (.cons q .nil)
theorem RepK.del : ∀ {ds : List (Key × D)} {vs : List (Key × V)} (k : Key), RepK K F ds vs → RepK K F (ddel ds k) (dropK vs k)
  | _, _, _, .nil => .nil
  | (k', d) :: ds, (_, v) :: vs, k, .cons r t => by
    have ih := RepK.del k t
    unfold ddel dropK at *
    rw [List.filter_cons, List.filter_cons]
    by_cases e : k' = k
    · rw [if_neg (by simp [e]), if_neg (by simp [e])]
      exact ih
    · rw [if_pos (by simp [e]), if_pos (by simp [e])]
      exact .cons r ih
theorem RepK.keys : ∀ {ds : List (Key × D)} {vs : List (Key × V)}, RepK K F ds vs → ds.map (·.1) = vs.map (·.1)
  | _, _, .nil => rfl
  | _, _, .cons r t => by rw [List.map_cons, List.map_cons, RepK.keys t]
/-- the values of a dict in another -/
def hitsD (n : Nat) (b : List (Key × D)) : List (Key × D) → Option Bool
  | [] => some true
  | (k, v) :: r => match dget b k with
    | none => some false
    | some v' => match eqA n v v', hitsD n b r with
      | some x, some y => some (x && y)
      | _, _ => none
def eqT (n : Nat) (d e : D) : Option Bool := match d, e with
  | .dK a, .dK b => if a.length = b.length then hitsD n b a else some false
  | d, e => eqA n d e
end
section
variable {X : Cx} {C : Nat → Addr} {pins : List (Addr × Obj)} {σ : L2.St} {F G : Hp} {A : List Addr} {H : Hp} {s : Shared}
theorem hits_run (I : Inv X pins σ H s) (e : ExR F H) {n : Nat} {Ar : Around} (hu : Ar.units + n < cLine) {b : List (Key × D)} {ls : List (Key × V)} {vb : List (Key × Value)} (rb : RepK X.K F b ls) (kb : KV ls vb) :
    ∀ {a : List (Key × D)} {ks : List (Key × V)} {va : List (Key × Value)} {k : Bool}, hitsD n b a = some k → RepK X.K F a ks → KV ks va → PySem.W.KeqHits Ar s vb va k
  | [], _, _, k, h, .nil, .nil => by cases h; exact .nil
  | (k1, d1) :: r, (_, v1) :: _, (k2, u1) :: _, k, h, .cons q t, .cons p pt => by
    obtain ⟨p1, p2⟩ := p
    have p1 : k1 = k2 := p1
    subst p1
    have h : (match dget b k1 with
      | none => some false
      | some v' => match eqA n d1 v', hitsD n b r with
        | some x, some y => some (x && y)
        | _, _ => none) = some k := h
    split at h
    · rename_i hn
      cases h
      have z := (rb.get k1).2 hn
      have rr := kb.val k1
      rw [z] at rr
      exact .miss rr.none_of
    · rename_i v' hv
      obtain ⟨w, hw, rw'⟩ := (rb.get k1).1 v' hv
      have rr := kb.val k1
      rw [hw] at rr
      obtain ⟨y, hy, ry⟩ := rr.some_of
      split at h
      · rename_i x z h1 h2
        cases h
        exact .hit hy (eqA_run I e n Ar hu h1 q rw' p2 ry) (hits_run I e hu rb kb h2 t pt)
      · cases h
/-- == and != of what stands for data -/
theorem eqT_run (I : Inv X pins σ H s) (e : ExR F H) {n : Nat} (hu : X.A.units + n + 1 < cLine) {d d' : D} {x y : V} {v u : Value} {k : Bool} (h : eqT n d d' = some k) (r : Rep X.K F d x) (r' : Rep X.K F d' y) (rx : RelV x v) (ry : RelV y u) {Q : Value → Shared → Prop} {E : Value → Shared → Prop} :
    (Q (.bool k) s → wpAny (model X.prog X.w) X.A (compareOp .Eq v u) Q E s) ∧ (Q (.bool (!k)) s → wpAny (model X.prog X.w) X.A (compareOp .NotEq v u) Q E s) := by
  have plain : eqA n d d' = some k → (Q (.bool k) s → wpAny (model X.prog X.w) X.A (compareOp .Eq v u) Q E s) ∧ (Q (.bool (!k)) s → wpAny (model X.prog X.w) X.A (compareOp .NotEq v u) Q E s) := fun h => by
    obtain ⟨h1, h2⟩ := eqA_top I e (Ar := X.A) (by omega) h r r' rx ry
    exact ⟨fun q => h1 X.prog X.w E Q q, fun q => h2 X.prog X.w E Q q⟩
  cases d with
  | dK a =>
    cases d' with
    | dK b =>
      cases r with
      | @dK p ks _ hf hr =>
      cases r' with
      | @dK p' ls _ hf' hr' =>
      have h : (if a.length = b.length then hitsD n b a else some false) = some k := h
      obtain rfl : v = Value.ref p := rx
      obtain rfl : u = Value.ref p' := ry
      obtain ⟨_, ya, va, ra, da⟩ := dk_rd I.hok (e.rd hf)
      obtain ⟨_, yb, vb, rb, db⟩ := dk_rd I.hok (e.rd hf')
      have la : a.length = va.length := by rw [hr.length, ra.length]
      have lb : b.length = vb.length := by rw [hr'.length, rb.length]
      split at h
      · rename_i hl
        have hits := hits_run I e (n := n) (Ar := X.A.in1) (by show X.A.units + 1 + n < cLine; omega) hr' rb h hr ra
        have ek : (va.length == vb.length && k) = k := by rw [← la, ← lb, hl]; simp
        exact ⟨fun q => PySem.W.keq_eq (knd := mixKind X.prog X.w) (r := k) ya yb da db (by omega) (fun _ => hits) (by rw [ek]; exact q),
          fun q => PySem.W.keq_ne (knd := mixKind X.prog X.w) (r := k) ya yb da db (by omega) (fun _ => hits) (by rw [ek]; exact q)⟩
      · rename_i hl
        cases h
        have hne : ¬ va.length = vb.length := by rw [← la, ← lb]; exact hl
        have ek : ∀ r : Bool, (va.length == vb.length && r) = false := fun r => by
          have : (va.length == vb.length) = false := by simpa using hne
          rw [this]; rfl
        exact ⟨fun q => PySem.W.keq_eq (knd := mixKind X.prog X.w) (r := true) ya yb da db (by omega) (fun z => absurd z hne) (by rw [ek]; exact q),
          fun q => PySem.W.keq_ne (knd := mixKind X.prog X.w) (r := true) ya yb da db (by omega) (fun z => absurd z hne) (by rw [ek]; exact q)⟩
    | _ => exact plain h
  | _ => exact plain h
end

/-! ### values as data, the memory's objects too -/
def wD (M : List MO) : W → Option D
  | .fz d => some d
  | .ob n => match M[n]? with
    | some (.lst ds) => some (.lst ds)
    | some (.dK ds) => some (.dK ds)
    | some (.dT ds) => some (.dT ds)
    | some (.lk (.dK ds)) => some (.dK ds)
    | some (.lk (.dT ds)) => some (.dT ds)
    | _ => none
  | .ad _ => none
open Classical in
def star (F : Hp) (A : List Addr) (H : Hp) : Hp := fun a => match F a with
  | some u => some u
  | none => if a ∈ A then (match H a with
    | some (.frz _ u) => if isD u = true then some u else none
    | o => o) else none
section
variable {K : PySem.W.Frag} {C : Nat → Addr} {F G : Hp} {A : List Addr} {H : Hp} {M : List MO} {Q : VK}
theorem star_ex : Ex F (star F A H) := fun a u h => by
  unfold star
  rw [h]
theorem star_exR (e : ExR F H) : ExR (star F A H) H := fun a u h => by
  unfold star at h
  split at h
  · rename_i u' hu
    cases h
    exact e a _ hu
  · split at h
    · split at h
      · rename_i ob u' hH
        split at h
        · rename_i hd
          cases h
          exact .inr ⟨hd, ob, hH⟩
        · cases h
      · exact .inl h
    · cases h
theorem wD_ok (m : SimM K C F A G M H) {w : W} {v : V} {d : D} (r : RepW K F A w v) (h : wD M w = some d) : Rep K (star F A H) d v := by
  cases r with
  | fz r => cases h; exact r.mono star_ex
  | ad => cases h
  | @ob n a ha =>
    have hm : a ∈ A := List.mem_of_getElem? ha
    have at1 : ∀ {m' : MO}, M[n]? = some m' → isDead m' = false → ∀ {u : HO}, H a = some u → (∀ ob u', u ≠ .frz ob u') → star F A H a = some u := fun {m'} h1 h2 {u} h3 h4 => by
      unfold star
      rw [(m.own n a m' ha h1 h2).1]
      simp only [hm, if_true]
      rw [h3]
      cases u <;> first | rfl | exact absurd rfl (h4 _ _)
    have at2 : ∀ {m' : MO}, M[n]? = some m' → isDead m' = false → ∀ {ob : Obj} {u : HO}, H a = some (.frz ob u) → isD u = true → star F A H a = some u := fun {m'} h1 h2 {ob u} h3 h4 => by
      unfold star
      rw [(m.own n a m' ha h1 h2).1]
      simp only [hm, if_true]
      rw [h3]
      simp only [h4, if_true]
    have h : (match M[n]? with
      | some (.lst ds) => some (D.lst ds)
      | some (.dK ds) => some (.dK ds)
      | some (.dT ds) => some (.dT ds)
      | some (.lk (.dK ds)) => some (.dK ds)
      | some (.lk (.dT ds)) => some (.dT ds)
      | _ => none) = some d := h
    split at h
    · rename_i ds hM
      cases h
      obtain ⟨o, ho, vs, rfl, hr⟩ := m.ob _ _ _ ha hM
      exact .lst (at1 hM rfl ho fun _ _ z => nomatch z) (hr.mono star_ex)
    · rename_i ds hM
      cases h
      obtain ⟨o, ho, vs, rfl, hr⟩ := m.ob _ _ _ ha hM
      exact .dK (at1 hM rfl ho fun _ _ z => nomatch z) (hr.mono star_ex)
    · rename_i ds hM
      cases h
      obtain ⟨o, ho, vs, rfl, hr⟩ := m.ob _ _ _ ha hM
      exact .dT (at1 hM rfl ho fun _ _ z => nomatch z) (hr.mono star_ex)
    · rename_i ds hM
      cases h
      obtain ⟨o, ho, ob, u, rfl, vs, rfl, hr⟩ := m.ob _ _ _ ha hM
      exact .dK (at2 hM rfl ho rfl) (hr.mono star_ex)
    · rename_i ds hM
      cases h
      obtain ⟨o, ho, ob, u, rfl, vs, rfl, hr⟩ := m.ob _ _ _ ha hM
      exact .dT (at2 hM rfl ho rfl) (hr.mono star_ex)
    · cases h
def eqO (M : List MO) (w1 w2 : W) : Option W := match wD M w1, wD M w2 with
  | some d, some e => (eqT 40 d e).map fun k => .fz (.bl k)
  | _, _ => none
def neO (M : List MO) (w1 w2 : W) : Option W := match wD M w1, wD M w2 with
  | some d, some e => (eqT 40 d e).map fun k => .fz (.bl (!k))
  | _, _ => none
def rEqX (K : PySem.W.Frag) (g : Bool → Bool) : R2 := fun x y H Q => ∃ F d d' k, ExR F H ∧ Rep K F d x ∧ Rep K F d' y ∧ eqT 40 d d' = some k ∧ Q (.bl (g k)) H
theorem opEq {X : Cx} (hu : X.A.units + 64 < cLine) : OpR X (compareOp .Eq) (rEqX X.K id) := by
  intro pins s σ H x y v u Q I rx ry h
  obtain ⟨F, d, d', k, e, r, r', h, q⟩ := h
  exact (eqT_run I e (by omega) h r r' rx ry).1 ⟨.bl k, H, I, rfl, q⟩
theorem opNe {X : Cx} (hu : X.A.units + 64 < cLine) : OpR X (compareOp .NotEq) (rEqX X.K not) := by
  intro pins s σ H x y v u Q I rx ry h
  obtain ⟨F, d, d', k, e, r, r', h, q⟩ := h
  exact (eqT_run I e (by omega) h r r' rx ry).2 ⟨.bl (!k), H, I, rfl, q⟩
theorem sEq : Snd2 K C (rEqX K id) eqO := by
  intro F A G M H w1 w2 w x y Q m r1 r2 h q
  unfold eqO at h
  split at h
  · rename_i d e h1 h2
    obtain ⟨k, hk, rfl⟩ := Option.map_eq_some_iff.mp h
    exact ⟨_, d, e, k, star_exR m.ex, wD_ok m r1 h1, wD_ok m r2 h2, hk, m.old (.fz (.bl _)) q⟩
  · cases h
theorem sNe : Snd2 K C (rEqX K not) neO := by
  intro F A G M H w1 w2 w x y Q m r1 r2 h q
  unfold neO at h
  split at h
  · rename_i d e h1 h2
    obtain ⟨k, hk, rfl⟩ := Option.map_eq_some_iff.mp h
    exact ⟨_, d, e, k, star_exR m.ex, wD_ok m r1 h1, wD_ok m r2 h2, hk, m.old (.fz (.bl _)) q⟩
  · cases h
end
end PD

/-! PDf: in; built-in calls; subscripts; slices. -/
noncomputable section
namespace PD
open PySem L2 PyProof.Rows
open PySem.Spec (ltCps)

/-! ### flat data -/
def flatD : D → Bool
  | .non => true
  | .bl _ => true
  | .int _ => true
  | .str _ => true
  | _ => false
def toV : D → V
  | .bl b => .bl b
  | .int i => .int i
  | .str x => .str x
  | _ => .non
def keyD : D → Option Key
  | .int i => some (.inl i)
  | .str x => some (.inr x)
  | _ => none
def keyW : W → Option Key
  | .fz d => keyD d
  | _ => none
/-- what is new in a heap is data -/
def grow (F H H' : Hp) : Hp := fun a => match H a with
  | some _ => F a
  | none => H' a
section
variable {K : PySem.W.Frag} {C : Nat → Addr} {F G : Hp} {A : List Addr} {H : Hp} {M : List MO} {Q : VK}
theorem flat_rep {d : D} {v : V} (f : flatD d = true) (r : Rep K F d v) : v = toV d ∧ flatV v = true := by
  cases r <;> first | exact ⟨rfl, rfl⟩ | cases f
theorem flat_reps : ∀ {ds : List D} {vs : List V}, ds.all flatD = true → Reps K F ds vs → vs = ds.map toV ∧ vs.all flatV = true
  | _, _, _, .nil => ⟨rfl, rfl⟩
  | d :: ds, v :: vs, f, .cons r t => by
    rw [List.all_cons, Bool.and_eq_true] at f
    obtain ⟨h1, h2⟩ := flat_rep f.1 r
    obtain ⟨h3, h4⟩ := flat_reps f.2 t
    rw [h1] at h2
    subst h1 h3
    exact ⟨rfl, by rw [List.all_cons, h2, h4]; rfl⟩
theorem keyD_ok {d : D} {k : Key} {v : V} (h : keyD d = some k) (r : Rep K F d v) : v = kV k := by
  cases r <;> first | (cases h; rfl) | cases h
theorem keyW_ok {w : W} {k : Key} {v : V} (h : keyW w = some k) (r : RepW K F A w v) : v = kV k := by
  cases r with
  | fz r => exact keyD_ok h r
  | ob _ => cases h
  | ad => cases h
theorem SimM.grow (m : SimM K C F A G M H) {H' : Hp} (e : Ex H H') : Ex F (grow F H H') ∧ SimM K C (PD.grow F H H') A G M H' := by
  have eF : Ex F (PD.grow F H H') := fun a u h => by
    unfold PD.grow
    cases hh : H a with
    | none => exact absurd hh (m.ex.ne h)
    | some _ => exact h
  refine ⟨eF, fun a u h => ?_, m.gd.trans e, m.len, m.nd, fun n a mo e1 e2 => ?_, fun n a mo e1 e2 e3 => ?_, fun a u h o g => ?_, m.gA⟩
  rotate_right
  · unfold PD.grow at h
    split at h
    · exact m.gF a u h o g
    · rename_i hh
      rw [m.gd a o g] at hh; cases hh
  · unfold PD.grow at h
    split at h
    · rename_i o hh
      rcases m.ex a u h with h1 | ⟨d, ob, h1⟩
      · exact .inl (e a _ h1)
      · exact .inr ⟨d, ob, e a _ h1⟩
    · exact .inl h
  · obtain ⟨o, h1, h2⟩ := m.ob n a mo e1 e2
    exact ⟨o, e a _ h1, h2.mono eF (List.prefix_refl _)⟩
  · obtain ⟨h1, h2⟩ := m.own n a mo e1 e2 e3
    refine ⟨?_, h2⟩
    unfold PD.grow
    cases hh : H a with
    | none => exact absurd hh (m.objs e1)
    | some _ => exact h1

/-! ### in, not in -/
def inD (M : List MO) (w1 w2 : W) : Option Bool := match keyW w1, asD M w2 with
  | some k, some kvs => some (dget kvs k).isSome
  | _, _ => match w1, w2 with
    | .fz (.str x), .fz (.str y) => if h : x.cps.size = 1 then some (decide (x.cps[0]'(by omega) ∈ y.cps.toList)) else some (!(Builtin.Str.occurrences y x 0 y.length 1).isEmpty)
    | .fz d, .fz (.tup ds) => if flatD d && ds.all flatD then some (inV (toV d) (ds.map toV)) else none
    | .fz d, w2 => match asS M w2 with
      | some ds => if flatD d && ds.all flatD then some (inV (toV d) (ds.map toV)) else none
      | none => none
    | _, _ => none
def inO (M : List MO) (w1 w2 : W) : Option W := (inD M w1 w2).map fun k => .fz (.bl k)
def ninO (M : List MO) (w1 w2 : W) : Option W := (inD M w1 w2).map fun k => .fz (.bl !k)
/-- all kinds of in: g is id or not -/
def rInX (K : PySem.W.Frag) (g : Bool → Bool) : R2 := fun x y H Q =>
  (∃ a o, y = .ref a ∧ DGet H a x o ∧ Q (.bl (g o.isSome)) H) ∨
  (∃ (c : Nat) (z : Str), x = .str ⟨#[c]⟩ ∧ y = .str z ∧ Q (.bl (g (decide (c ∈ z.cps.toList)))) H) ∨
  (∃ i j, x = .str i ∧ y = .str j ∧ Q (.bl (g (!(Builtin.Str.occurrences j i 0 j.length 1).isEmpty))) H) ∨
  (∃ p xs, y = .ref p ∧ (SqL K H p xs ∨ SqT K H p xs) ∧ flatV x = true ∧ xs.all flatV = true ∧ Q (.bl (g (inV x xs))) H)
theorem opIn {X : Cx} (hu : X.A.units + 1 < cLine) : OpR X (compareOp .In) (rInX X.K id) := by
  intro pins s σ H x y v u Q I rx ry h
  rcases h with ⟨a, o, rfl, g, q⟩ | h | h | ⟨p, xs, h1, h2, h3, h4, h5⟩
  · obtain rfl : u = Value.ref a := ry
    exact d_in hu I g rx fun s' I' => ⟨.bl o.isSome, H, I', rfl, q⟩
  · exact op_in_sign pins s σ H x y v u Q I rx ry h
  · exact op_in_str pins s σ H x y v u Q I rx ry h
  · exact op_in_seq pins s σ H x y v u Q I rx ry ⟨p, xs, h1, h2, h3, h4, h5⟩
theorem opNin {X : Cx} (hu : X.A.units + 1 < cLine) : OpR X (compareOp .NotIn) (rInX X.K not) := by
  intro pins s σ H x y v u Q I rx ry h
  rcases h with ⟨a, o, rfl, g, q⟩ | h | h | ⟨p, xs, h1, h2, h3, h4, h5⟩
  · obtain rfl : u = Value.ref a := ry
    exact d_notIn hu I g rx fun s' I' => ⟨.bl (!o.isSome), H, I', rfl, q⟩
  · exact op_notIn_sign pins s σ H x y v u Q I rx ry h
  · exact op_notin_str pins s σ H x y v u Q I rx ry h
  · exact op_notIn_seq pins s σ H x y v u Q I rx ry ⟨p, xs, h1, h2, h3, h4, h5⟩
theorem one_sign {x : Str} (h : x.cps.size = 1) : x = ⟨#[x.cps[0]'(by omega)]⟩ := by
  obtain ⟨⟨l⟩⟩ := x
  match l, h with
  | [c], _ => rfl
theorem inD_ok {g : Bool → Bool} {w1 w2 : W} {x y : V} {k : Bool} (m : SimM K C F A G M H) (r1 : RepW K F A w1 x) (r2 : RepW K F A w2 y) (h : inD M w1 w2 = some k) (q : Q (.bl (g k)) H) : rInX K g x y H Q := by
  unfold inD at h
  split at h
  · rename_i k' kvs h1 h2
    cases h
    obtain ⟨a, vs, rfl, hd, hr⟩ := asD_ok m r2 h2
    have ek := keyW_ok h1 r1
    refine .inl ⟨a, valV vs k', rfl, .inl ⟨vs, k', hd, ek, rfl⟩, ?_⟩
    have e : (valV vs k').isSome = (dget kvs k').isSome := by
      cases hg : dget kvs k' with
      | none => rw [(hr.get k').2 hg]; rfl
      | some d =>
        obtain ⟨v, hv, _⟩ := (hr.get k').1 d hg
        rw [hv]
        rfl
    rw [e]
    exact q
  · split at h
    · rename_i x' y' _
      split at h
      · rename_i hs
        cases h
        refine .inr (.inl ⟨_, y', ?_, rStr r2, q⟩)
        rw [rStr r1]
        congr 1
        exact one_sign hs
      · cases h
        exact .inr (.inr (.inl ⟨_, _, rStr r1, rStr r2, q⟩))
    · rename_i d ds _
      split at h
      · rename_i hf
        cases h
        rw [Bool.and_eq_true] at hf
        obtain ⟨a, vs, rfl, hs, hr⟩ := asT_ok m r2 rfl
        cases r1 with
        | fz r1 =>
          obtain ⟨e1, f1⟩ := flat_rep hf.1 r1
          obtain ⟨e2, f2⟩ := flat_reps hf.2 hr
          refine .inr (.inr (.inr ⟨a, vs, rfl, .inr hs, f1, f2, ?_⟩))
          rw [e1, e2]
          exact q
      · cases h
    · rename_i d w2 _ _
      split at h
      · rename_i ds hl
        split at h
        · rename_i hf
          cases h
          rw [Bool.and_eq_true] at hf
          obtain ⟨a, vs, rfl, hs, hr⟩ := asS_ok m r2 hl
          cases r1 with
          | fz r1 =>
            obtain ⟨e1, f1⟩ := flat_rep hf.1 r1
            obtain ⟨e2, f2⟩ := flat_reps hf.2 hr
            refine .inr (.inr (.inr ⟨a, vs, rfl, .inl hs, f1, f2, ?_⟩))
            rw [e1, e2]
            exact q
        · cases h
      · cases h
    · cases h
theorem sIn : Snd2 K C (rInX K id) inO := by
  intro F A G M H w1 w2 w x y Q m r1 r2 h q
  obtain ⟨k, hk, rfl⟩ := Option.map_eq_some_iff.mp h
  exact inD_ok m r1 r2 hk (m.old (.fz (.bl _)) q)
theorem sNin : Snd2 K C (rInX K not) ninO := by
  intro F A G M H w1 w2 w x y Q m r1 r2 h q
  obtain ⟨k, hk, rfl⟩ := Option.map_eq_some_iff.mp h
  exact inD_ok m r1 r2 hk (m.old (.fz (.bl _)) q)

/-! ### built-in calls -/
theorem rWs1 {w : W} {xs : List V} (r : RepWs K F A [w] xs) : ∃ x, xs = [x] ∧ RepW K F A w x := by
  cases r with
  | cons r t => cases t; exact ⟨_, rfl, r⟩
theorem rWs2 {w1 w2 : W} {xs : List V} (r : RepWs K F A [w1, w2] xs) : ∃ x y, xs = [x, y] ∧ RepW K F A w1 x ∧ RepW K F A w2 y := by
  cases r with
  | cons r t => cases t with | cons r' t => cases t; exact ⟨_, _, rfl, r, r'⟩
def lenO (M : List MO) : List W → Option W
  | [.fz (.str x)] => if x.length ≤ LIM then some (.fz (.int x.length)) else none
  | [.fz (.tup ds)] => some (.fz (.int ds.length))
  | [w] => match asS M w with
    | some ds => some (.fz (.int ds.length))
    | none => (asD M w).map fun ds => .fz (.int ds.length)
  | _ => none
def rLenX (K : PySem.W.Frag) : List V → Hp → VK → Prop := fun xs H Q => (∃ x n, xs = [x] ∧ LenV K x H n ∧ Q (.int n) H) ∨ (∃ a kvs, xs = [V.ref a] ∧ Rd H a (.dK kvs) ∧ Q (.int kvs.length) H)
theorem cLen {X : Cx} : CallR X (.builtin "len") (rLenX X.K) := by
  intro pins s σ H xs us Q I r h
  rcases h with h | ⟨a, kvs, rfl, ha, q⟩
  · exact call_len pins s σ H xs us Q I r h
  · obtain ⟨u, rfl, ru⟩ := vals1 r
    cases ru
    exact d_len I ha fun t s' I' => ⟨.int kvs.length, H, I', ⟨t, rfl⟩, q⟩
theorem sLen : SndN K C (rLenX K) lenO := by
  intro F A G M H ws w xs Q m r h q
  unfold lenO at h
  split at h
  · split at h
    · rename_i x hl
      cases h
      obtain ⟨v, rfl, rv⟩ := rWs1 r
      exact .inl ⟨.str x, x.length, by rw [rStr rv], ⟨lim_ok hl, rfl⟩, m.old (.fz (.int _)) q⟩
    · cases h
  · rename_i ds
    cases h
    obtain ⟨v, rfl, rv⟩ := rWs1 r
    obtain ⟨a, vs, rfl, h1, h2⟩ := asT_ok m rv rfl
    exact .inl ⟨_, ds.length, rfl, .inr ⟨vs, h1, h2.length⟩, m.old (.fz (.int _)) q⟩
  · obtain ⟨v, rfl, rv⟩ := rWs1 r
    split at h
    · rename_i ds hl
      cases h
      obtain ⟨a, vs, rfl, h1, h2⟩ := asS_ok m rv hl
      exact .inl ⟨_, ds.length, rfl, .inl ⟨vs, h1, h2.length⟩, m.old (.fz (.int _)) q⟩
    · obtain ⟨ds, hd, rfl⟩ := Option.map_eq_some_iff.mp h
      obtain ⟨a, vs, rfl, h1, h2⟩ := asD_ok m rv hd
      refine .inr ⟨a, vs, rfl, h1, ?_⟩
      rw [← h2.length]
      exact m.old (.fz (.int _)) q
  · cases h
def strI (i : Int) : Str := Str.ofString (toString i)
def strO (_ : List MO) : List W → Option W
  | [.fz (.int i)] => if i.natAbs.log2 < 1920 then some (.fz (.str (strI i))) else none
  | _ => none
theorem sStr : SndN K C (fun xs H Q => ∃ i, xs = [.int i] ∧ i.natAbs.log2 < 1920 ∧ Q (.str (toString i)) H) strO := by
  intro F A G M H ws w xs Q m r h q
  unfold strO at h
  split at h
  · split at h
    · rename_i i hl
      cases h
      obtain ⟨v, rfl, rv⟩ := rWs1 r
      exact ⟨i, by rw [rInt rv], hl, m.old (.fz (.str _)) q⟩
    · cases h
  · cases h
def intO (_ : List MO) : List W → Option W
  | [.fz (.int i)] => some (.fz (.int i))
  | [.fz (.bl b)] => some (.fz (.int (if b then 1 else 0)))
  | [.fz (.str x)] => if x.length ≤ 640 then (PySem.intText? x).map fun n => .fz (.int n) else none
  | _ => none
def rIntX : List V → Hp → VK → Prop := fun xs H Q => ((∃ i, xs = [.int i] ∧ Q (.int i) H) ∨ ∃ k, xs = [.bl k] ∧ Q (.int (if k then 1 else 0)) H) ∨ (∃ a n, xs = [.str a] ∧ PySem.intText? a = some n ∧ a.length ≤ 640 ∧ Q (.int n) H)
theorem cInt {X : Cx} : CallR X (.type "int") rIntX := call_int1.or call_int_str
theorem sInt : SndN K C rIntX intO := by
  intro F A G M H ws w xs Q m r h q
  unfold intO at h
  split at h
  · cases h
    obtain ⟨v, rfl, rv⟩ := rWs1 r
    exact .inl (.inl ⟨_, by rw [rInt rv], m.old (.fz (.int _)) q⟩)
  · cases h
    obtain ⟨v, rfl, rv⟩ := rWs1 r
    exact .inl (.inr ⟨_, by rw [rBl rv], m.old (.fz (.int _)) q⟩)
  · split at h
    · rename_i x hl
      obtain ⟨n, hn, rfl⟩ := Option.map_eq_some_iff.mp h
      obtain ⟨v, rfl, rv⟩ := rWs1 r
      exact .inr ⟨x, n, by rw [rStr rv], hn, hl, m.old (.fz (.int _)) q⟩
    · cases h
  · cases h
def absO (_ : List MO) : List W → Option W
  | [.fz (.int i)] => some (.fz (.int (if i < 0 then -i else i)))
  | _ => none
theorem sAbs : SndN K C (fun xs H Q => ∃ i, xs = [.int i] ∧ Q (.int (if i < 0 then -i else i)) H) absO := by
  intro F A G M H ws w xs Q m r h q
  unfold absO at h
  split at h
  · cases h
    obtain ⟨v, rfl, rv⟩ := rWs1 r
    exact ⟨_, by rw [rInt rv], m.old (.fz (.int _)) q⟩
  · cases h
def ordO (_ : List MO) : List W → Option W
  | [.fz (.str x)] => if x.length = 1 then some (.fz (.int (x.cps.getD 0 0 : Nat))) else none
  | _ => none
theorem sOrd : SndN K C (fun xs H Q => ∃ x, xs = [.str x] ∧ x.length = 1 ∧ Q (.int (x.cps.getD 0 0 : Nat)) H) ordO := by
  intro F A G M H ws w xs Q m r h q
  unfold ordO at h
  split at h
  · split at h
    · rename_i x hl
      cases h
      obtain ⟨v, rfl, rv⟩ := rWs1 r
      exact ⟨x, by rw [rStr rv], hl, m.old (.fz (.int _)) q⟩
    · cases h
  · cases h
end
/-- whole numbers, texts, truths -/
def dInts : List D → Option (List Int)
  | [] => some []
  | .int i :: r => (dInts r).map (i :: ·)
  | _ => none
def dTxts : List D → Option (List Str)
  | [] => some []
  | .str x :: r => (dTxts r).map (x :: ·)
  | _ => none
def dBls : List D → Option (List Bool)
  | [] => some []
  | .bl x :: r => (dBls r).map (x :: ·)
  | _ => none
def keyI : List (Key × D) → Option (List Int)
  | [] => some []
  | (.inl i, _) :: r => (keyI r).map (i :: ·)
  | _ => none
def keyS : List (Key × D) → Option (List Str)
  | [] => some []
  | (.inr i, _) :: r => (keyS r).map (i :: ·)
  | _ => none
def leS (a b : Str) : Bool := !decide (b.cps.toList < a.cps.toList)
def sortS (l : List Str) : List Str := l.mergeSort leS
def sortI (l : List Int) : List Int := l.mergeSort fun a b => decide (a ≤ b)
theorem leS_iff {a b : Str} : leS a b = true ↔ a.cps.toList ≤ b.cps.toList := by
  unfold leS
  rw [Bool.not_eq_true', decide_eq_false_iff_not]
  exact Iff.rfl
theorem leS_trans (a b c : Str) (h : leS a b = true) (k : leS b c = true) : leS a c = true := leS_iff.mpr (List.le_trans (leS_iff.mp h) (leS_iff.mp k))
theorem leS_total (a b : Str) : (leS a b || leS b a) = true := by
  rw [Bool.or_eq_true, leS_iff, leS_iff]
  exact List.le_total _ _
theorem str_cps {a b : Str} (h : a.cps.toList = b.cps.toList) : a = b := by
  obtain ⟨⟨l⟩⟩ := a
  obtain ⟨⟨m⟩⟩ := b
  have h : l = m := h
  subst h
  rfl
theorem leS_anti {a b : Str} (h : leS a b = true) (k : leS b a = true) : a = b := str_cps (List.le_antisymm (leS_iff.mp h) (leS_iff.mp k))
theorem rising_pw : ∀ (p : Str) (l : List Str), risingS p l = true → (p :: l).Pairwise fun a b => leS a b = true
  | p, [], _ => by simp
  | p, x :: r, h => by
    have h : (!ltCps x.cps.toList p.cps.toList && risingS x r) = true := h
    rw [Bool.and_eq_true, ltCps_eq] at h
    have ih := rising_pw x r h.2
    refine List.pairwise_cons.mpr ⟨fun b hb => ?_, ih⟩
    rcases List.mem_cons.mp hb with rfl | hb
    · exact h.1
    · exact leS_trans _ _ _ h.1 (List.rel_of_pairwise_cons ih hb)
theorem sortS_eq {l m : List Str} (p : m.Perm l) (h : sortedS m = true) : m = sortS l := by
  have h1 : m.Pairwise fun a b => leS a b = true := by
    cases m with
    | nil => exact List.Pairwise.nil
    | cons x r => exact rising_pw x r h
  refine List.Perm.eq_of_pairwise (fun a b _ _ => leS_anti) h1 (List.pairwise_mergeSort leS_trans leS_total l) (p.trans (List.mergeSort_perm l leS).symm)
theorem sortI_eq {l m : List Int} (p : m.Perm l) (h : m.Pairwise (· ≤ ·)) : m = sortI l := by
  have h2 := List.pairwise_mergeSort (le := fun a b : Int => decide (a ≤ b)) (fun a b c x y => by simp at *; omega) (fun a b => by simp; omega) l
  refine List.Perm.eq_of_pairwise (le := fun a b => a ≤ b) (fun a b _ _ => Int.le_antisymm) h (h2.imp fun z => of_decide_eq_true z) (p.trans (List.mergeSort_perm l _).symm)
section
variable {K : PySem.W.Frag} {C : Nat → Addr} {F G : Hp} {A : List Addr} {H : Hp} {M : List MO} {Q : VK}
theorem dInts_rep : ∀ {ds : List D} {ns : List Int} {vs : List V}, dInts ds = some ns → Reps K F ds vs → vs = ns.map V.int
  | [], _, _, h, .nil => by cases h; rfl
  | .int i :: r, _, _, h, .cons (.int _) t => by
    obtain ⟨ns, h1, rfl⟩ := Option.map_eq_some_iff.mp (show (dInts r).map (i :: ·) = some _ from h)
    rw [dInts_rep h1 t]
    rfl
  | .non :: _, _, _, h, _ => nomatch h
  | .bl _ :: _, _, _, h, _ => nomatch h
  | .str _ :: _, _, _, h, _ => nomatch h
  | .lst _ :: _, _, _, h, _ => nomatch h
  | .tup _ :: _, _, _, h, _ => nomatch h
  | .dK _ :: _, _, _, h, _ => nomatch h
  | .dT _ :: _, _, _, h, _ => nomatch h
  | .sl _ :: _, _, _, h, _ => nomatch h
theorem txts_rep : ∀ {ds : List D} {ns : List Str} {vs : List V}, dTxts ds = some ns → Reps K F ds vs → vs = ns.map V.str
  | [], _, _, h, .nil => by cases h; rfl
  | .str i :: r, _, _, h, .cons (.str _) t => by
    obtain ⟨ns, h1, rfl⟩ := Option.map_eq_some_iff.mp (show (dTxts r).map (i :: ·) = some _ from h)
    rw [txts_rep h1 t]
    rfl
  | .non :: _, _, _, h, _ => nomatch h
  | .bl _ :: _, _, _, h, _ => nomatch h
  | .int _ :: _, _, _, h, _ => nomatch h
  | .lst _ :: _, _, _, h, _ => nomatch h
  | .tup _ :: _, _, _, h, _ => nomatch h
  | .dK _ :: _, _, _, h, _ => nomatch h
  | .dT _ :: _, _, _, h, _ => nomatch h
  | .sl _ :: _, _, _, h, _ => nomatch h
theorem bls_rep : ∀ {ds : List D} {ns : List Bool} {vs : List V}, dBls ds = some ns → Reps K F ds vs → vs = ns.map V.bl
  | [], _, _, h, .nil => by cases h; rfl
  | .bl i :: r, _, _, h, .cons (.bl _) t => by
    obtain ⟨ns, h1, rfl⟩ := Option.map_eq_some_iff.mp (show (dBls r).map (i :: ·) = some _ from h)
    rw [bls_rep h1 t]
    rfl
  | .non :: _, _, _, h, _ => nomatch h
  | .str _ :: _, _, _, h, _ => nomatch h
  | .int _ :: _, _, _, h, _ => nomatch h
  | .lst _ :: _, _, _, h, _ => nomatch h
  | .tup _ :: _, _, _, h, _ => nomatch h
  | .dK _ :: _, _, _, h, _ => nomatch h
  | .dT _ :: _, _, _, h, _ => nomatch h
  | .sl _ :: _, _, _, h, _ => nomatch h
theorem keyI_ok : ∀ {ds : List (Key × D)} {ns : List Int}, keyI ds = some ns → ds.map (·.1) = ns.map Sum.inl
  | [], _, h => by cases h; rfl
  | (.inl i, d) :: r, _, h => by
    obtain ⟨ns, h1, rfl⟩ := Option.map_eq_some_iff.mp (show (keyI r).map (i :: ·) = some _ from h)
    rw [List.map_cons, List.map_cons, keyI_ok h1]
  | (.inr i, d) :: r, _, h => nomatch h
theorem keyS_ok : ∀ {ds : List (Key × D)} {ns : List Str}, keyS ds = some ns → ds.map (·.1) = ns.map Sum.inr
  | [], _, h => by cases h; rfl
  | (.inr i, d) :: r, _, h => by
    obtain ⟨ns, h1, rfl⟩ := Option.map_eq_some_iff.mp (show (keyS r).map (i :: ·) = some _ from h)
    rw [List.map_cons, List.map_cons, keyS_ok h1]
  | (.inl i, d) :: r, _, h => nomatch h
theorem reps_ints : ∀ {ns : List Int}, Reps K F (ns.map D.int) (ns.map V.int)
  | [] => .nil
  | _ :: _ => .cons (.int _) reps_ints
theorem reps_txts : ∀ {ns : List Str}, Reps K F (ns.map D.str) (ns.map V.str)
  | [] => .nil
  | _ :: _ => .cons (.str _) reps_txts
def sortedL (ds : List D) : Option W := match dInts ds with
  | some ns => some (.fz (.lst ((sortI ns).map .int)))
  | none => match dTxts ds with
    | some ns => if ns.length < 64 then some (.fz (.lst ((sortS ns).map .str))) else none
    | none => none
def sortedK (ds : List (Key × D)) : Option W := match keyS ds with
  | some ns => if ns.length < 64 then some (.fz (.lst ((sortS ns).map .str))) else none
  | none => match keyI ds with
    | some ns => if ns.length < 64 then some (.fz (.lst ((sortI ns).map .int))) else none
    | none => none
def sortedO (M : List MO) : List W → Option W
  | [w] => match asS M w with
    | some ds => sortedL ds
    | none => match asD M w with
      | some ds => sortedK ds
      | none => none
  | _ => none
def rSortedX (K : PySem.W.Frag) : List V → Hp → VK → Prop := fun vs H Q => rSortedI K vs H Q ∨ rSortedS K vs H Q ∨
  (∃ (a : Addr) (kvs : List (Key × V)) (ks : List Str), vs = [.ref a] ∧ Rd H a (.dK kvs) ∧ kvs.map (·.1) = ks.map Sum.inr ∧ ks.length < 64 ∧ ∀ ys p, ys.Perm ks → sortedS ys = true → H p = none → Q (.ref p) (upd H p (.lst (ys.map V.str)))) ∨
  (∃ (a : Addr) (kvs : List (Key × V)) (ks : List Int), vs = [.ref a] ∧ Rd H a (.dK kvs) ∧ kvs.map (·.1) = ks.map Sum.inl ∧ ks.length < 64 ∧ ∀ (ys : List Int) (p : Addr), ys.Perm ks → ys.Pairwise (· ≤ ·) → H p = none → Q (.ref p) (upd H p (.lst (ys.map V.int))))
theorem cSorted {X : Cx} (hc : X.calm = true) : CallR X (.builtin "sorted") (rSortedX X.K) := by
  intro pins s σ H xs us Q I r h
  rcases h with h | h | h | h
  · exact cr_sortedI pins s σ H xs us Q I r h
  · exact cr_sortedS pins s σ H xs us Q I r h
  · exact call_sortedD hc pins s σ H xs us Q I r h
  · exact call_sortedDI hc pins s σ H xs us Q I r h
theorem sSorted : SndN K C (rSortedX K) sortedO := by
  intro F A G M H ws w xs Q m r h q
  unfold sortedO at h
  split at h
  · obtain ⟨v, rfl, rv⟩ := rWs1 r
    split at h
    · rename_i ds hl
      obtain ⟨a, vs, rfl, h1, h2⟩ := asS_ok m rv hl
      unfold sortedL at h
      split at h
      · rename_i ns hn
        cases h
        rw [dInts_rep hn h2] at h1
        refine .inl ⟨a, ns, rfl, h1, fun ns' p pe pw hp => ?_⟩
        rw [sortI_eq pe pw]
        exact m.newL hp reps_ints q
      · split at h
        · rename_i ns hn
          split at h
          · rename_i hlt
            cases h
            rw [txts_rep hn h2] at h1
            refine .inr (.inl ⟨a, ns, rfl, h1, hlt, fun ns' p pe pw hp => ?_⟩)
            rw [sortS_eq pe pw]
            exact m.newL hp reps_txts q
          · cases h
        · cases h
    · split at h
      · rename_i ds hl
        obtain ⟨a, vs, rfl, h1, h2⟩ := asD_ok m rv hl
        unfold sortedK at h
        split at h
        · rename_i ns hn
          split at h
          · rename_i hlt
            cases h
            refine .inr (.inr (.inl ⟨a, vs, ns, rfl, h1, by rw [← h2.keys]; exact keyS_ok hn, hlt, fun ys p pe pw hp => ?_⟩))
            rw [sortS_eq pe pw]
            exact m.newL hp reps_txts q
          · cases h
        · split at h
          · rename_i ns hn
            split at h
            · rename_i hlt
              cases h
              refine .inr (.inr (.inr ⟨a, vs, ns, rfl, h1, by rw [← h2.keys]; exact keyI_ok hn, hlt, fun ys p pe pw hp => ?_⟩))
              rw [sortI_eq pe pw]
              exact m.newL hp reps_ints q
            · cases h
          · cases h
      · cases h
  · cases h
end
end PD

/-! PDg: new objects; subscripts, slices, methods of texts; lists and dicts made of others. -/
noncomputable section
namespace PD
open PySem L2 PyProof.Rows

/-! ### a new object: data, or one that may change -/
def tNew (K : PySem.W.Frag) (C : Nat → Addr) (T : XT) (f : Mo MO) : TE := fun σ H Q => rd K C T (fun F A => HoRep K C F A) f σ H fun o H' => ∀ p, H' p = none → Q (.ref p) (upd H' p o)
def frz (f : Mo MO) : Mo W := bnd f fun m => ofO ((data m).map .fz)
section
variable {X : Cx} {C : Nat → Addr} {T : XT} {e : Expr} {f : Mo MO}
theorem new_fz (h : PE X e (tNew X.K C T f)) : PE X e (tE X.K C T (frz f)) := h.imp fun σ H Q ⟨F, A, G, s, hs, hq⟩ => rd_go hs hq fun o F1 A1 H1 s1 m _ _ hs1 ro hq1 => fun p hp => by
  obtain ⟨w, hw, hq2⟩ := hq1.ofOE
  obtain ⟨d, hd, rfl⟩ := Option.map_eq_some_iff.mp hw
  have ff := (hs1.mem.fresh hp).1
  exact hq2.at rfl (Ex.new ff) (List.prefix_refl _) (hs1.of (Ex.new ff) (List.prefix_refl _) (hs1.mem.allocF hp)) (.fz (data_rep hd ro ff))
theorem new_ob (h : PE X e (tNew X.K C T f)) : PE X e (tE X.K C T (newO f)) := h.imp fun σ H Q ⟨F, A, G, s, hs, hq⟩ => rd_go hs hq fun o F1 A1 H1 s1 m _ _ hs1 ro hq1 => fun p hp => by
  have pr : A1 <+: A1 ++ [p] := List.prefix_append _ _
  have sm := hs1.mem.allocO (o := o) (m := m) hp (ro.mono (Ex.refl _) pr)
  refine hq1.at rfl (Ex.refl _) pr (hs1.of (Ex.refl _) pr sm) (.ob ?_)
  rw [← hs1.mem.len]
  simp
/-- a new object by values -/
def SndO (K : PySem.W.Frag) (C : Nat → Addr) (r : List V → Hp → VK → Prop) (o : List MO → List W → Option MO) : Prop :=
  ∀ {F : Hp} {A : List Addr} {G : Hp} {M : List MO} {H : Hp} {ws : List W} {m : MO} {xs : List V} {Q : VK}, SimM K C F A G M H → RepWs K F A ws xs → o M ws = some m →
    (∀ (u : HO) (p : Addr), HoRep K C F A m u → H p = none → Q (.ref p) (upd H p u)) → r xs H Q
def opO (o : List MO → List W → Option MO) (f : Mo (List W)) : Mo MO := bnd f fun ws => fun s => ofO (o s.m ws) s
theorem sndO_rd {r : List V → Hp → VK → Prop} {o : List MO → List W → Option MO} (so : SndO X.K C r o) {f : Mo (List W)} : ∀ σ H Q, tNew X.K C T (opO o f) σ H Q → tCB r (tA X.K C T f) σ H Q := fun σ H Q ⟨F, A, G, s, hs, hq⟩ =>
  rd_go hs hq fun xs F1 A1 H1 s1 ws _ _ hs1 rs hq1 => by
    obtain ⟨m, ho, hq3⟩ := hq1.ofOE
    exact so hs1.mem rs ho fun u p hu hp => hq3.retE hs1 hu p hp
theorem pd_newTy {Ty : String} {x : Str} {e : Expr} {es : List Expr} {p pos : Pos} {r : List V → Hp → VK → Prop} {o : List MO → List W → Option MO} {f : Mo (List W)} (hc : CallR X (.type Ty) r) (so : SndO X.K C r o) (hg : Gl X x) (hm : X.mg x = none) (hv : bootBuiltins x = some (.type Ty)) (ha : PA X (e :: es) (tA X.K C T f)) (hn : x ≠ "__name__" := by decide) (hdb : (x == ("__debug__" : Str)) = false := by decide)
    (he : starEach (e :: es) X.env = (false, eval e X.env) :: starEach es X.env := by rfl) (hpl : (backTo pos (starEach es X.env)).any (·.1) = false := by rfl) : PE X (.Call (.Name x p) (e :: es) [] pos) (tNew X.K C T (opO o f)) :=
  (pe_callTy hc hg hm hv ha hn hdb he hpl).imp (sndO_rd so)
end

section
variable {K : PySem.W.Frag} {C : Nat → Addr} {T : XT} {F G : Hp} {A : List Addr} {H : Hp} {M : List MO} {Q : VK}
/-! ### a[b] -/
def asW (M : List MO) : W → Option (List W)
  | .ob n => match M[n]? with
    | some (.lw ws) => some ws
    | _ => none
  | _ => none
def asDW (M : List MO) : W → Option (List (Key × W))
  | .ob n => match M[n]? with
    | some (.dw ws) => some ws
    | some (.lk (.dw ws)) => some ws
    | _ => none
  | _ => none
def seqAt (M : List MO) (w : W) (i : Int) : Option W := match w with
  | .fz (.str z) => if z.length ≤ LIM then (atI z.cps.toList i).map fun c => .fz (.str ⟨#[c]⟩) else none
  | .fz (.tup ds) => (atI ds i).map .fz
  | w => match asS M w with
    | some ds => (atI ds i).map .fz
    | none => match asW M w with
      | some ws => atI ws i
      | none => none
def atO (M : List MO) (w i : W) : Option W := match keyW i, asD M w with
  | some k, some kvs => (dget kvs k).map .fz
  | _, _ => match i with
    | .fz (.int j) => seqAt M w j
    | _ => none
def rAt (K : PySem.W.Frag) : R2 := fun x y H Q => (∃ a v, x = .ref a ∧ DGet H a y (some v) ∧ Q v H) ∨ rIxL K x y H Q ∨ rIxT K x y H Q ∨ rIxS x y H Q
theorem ix_d {X : Cx} (hu : X.A.units + 1 < cLine) : IxR X (fun x y H Q => ∃ a v, x = .ref a ∧ DGet H a y (some v) ∧ Q v H) := by
  intro value slice pins s σ H x y v u Q I rx ry h hs
  obtain ⟨a, z, rfl, g, q⟩ := h
  obtain rfl : v = Value.ref a := rx
  exact tail_any (dict_typeIs I g) F.slot_dict_getitem.lookup (d_getItem hu I g ry fun w' s' I' r' => ⟨z, H, I', r', q⟩) hs
theorem ixAt {X : Cx} (hu : X.A.units + 1 < cLine) : IxR X (rAt X.K) := (ix_d hu).or (ix_list.or (ix_tup.or ix_str))
theorem Reps.atI {ds : List D} {vs : List V} {i : Int} {d : D} (r : Reps K F ds vs) (h : L2.atI ds i = some d) : ∃ v, L2.atI vs i = some v ∧ Rep K F d v := by
  unfold L2.atI at *
  rw [r.length] at h
  obtain ⟨j, h1, h2⟩ := Option.bind_eq_some_iff.mp h
  obtain ⟨v, h3, h4⟩ := r.get h2
  exact ⟨v, by rw [h1]; exact h3, h4⟩
theorem RepWs.get : ∀ {ws : List W} {vs : List V} {i : Nat} {w : W}, RepWs K F A ws vs → ws[i]? = some w → ∃ v, vs[i]? = some v ∧ RepW K F A w v
  | _, _, _, _, .nil, e => by simp at e
  | _, _, 0, _, .cons h _, e => by simp at e; subst e; exact ⟨_, rfl, h⟩
  | _, _, i + 1, _, .cons _ r, e => by simpa using RepWs.get (i := i) r (by simpa using e)
theorem RepWs.atI {ds : List W} {vs : List V} {i : Int} {d : W} (r : RepWs K F A ds vs) (h : L2.atI ds i = some d) : ∃ v, L2.atI vs i = some v ∧ RepW K F A d v := by
  unfold L2.atI at *
  rw [Paired.length r] at h
  obtain ⟨j, h1, h2⟩ := Option.bind_eq_some_iff.mp h
  obtain ⟨v, h3, h4⟩ := RepWs.get r h2
  exact ⟨v, by rw [h1]; exact h3, h4⟩
theorem asW_ok {ws : List W} {w : W} {v : V} (m : SimM K C F A G M H) (r : RepW K F A w v) (h : asW M w = some ws) : ∃ a vs, v = .ref a ∧ H a = some (.lst vs) ∧ RepWs K F A ws vs := by
  cases r with
  | fz r => cases h
  | ad => cases h
  | @ob n a ha =>
    have h : (match M[n]? with
      | some (.lw ws) => some ws
      | _ => none) = some ws := h
    split at h
    · rename_i ds' hm
      cases h
      obtain ⟨o, ho, vs, rfl, hr⟩ := m.ob _ _ _ ha hm
      exact ⟨a, vs, rfl, ho, hr⟩
    · cases h
theorem sAt : Snd2 K C (rAt K) atO := by
  intro F A G M H w1 w2 w x y Q m r1 r2 h q
  unfold atO at h
  split at h
  · rename_i k kvs h1 h2
    obtain ⟨d, hd, rfl⟩ := Option.map_eq_some_iff.mp h
    obtain ⟨a, vs, rfl, ha, hr⟩ := asD_ok m r1 h2
    obtain ⟨v, hv, rv⟩ := (hr.get k).1 d hd
    refine .inl ⟨a, v, rfl, .inl ⟨vs, k, ha, keyW_ok h1 r2, hv.symm⟩, m.old (.fz rv) q⟩
  · split at h
    · rename_i j _
      have ey := rInt r2
      unfold seqAt at h
      split at h
      · split at h
        · rename_i hz
          obtain ⟨c, hc, rfl⟩ := Option.map_eq_some_iff.mp h
          exact .inr (.inr (.inr ⟨_, j, c, rStr r1, ey, lim_ok hz, hc, m.old (.fz (.str _)) q⟩))
        · cases h
      · rename_i ds
        obtain ⟨d, hd, rfl⟩ := Option.map_eq_some_iff.mp h
        obtain ⟨a, vs, rfl, ha, hr⟩ := asT_ok m r1 rfl
        obtain ⟨v, hv, rv⟩ := hr.atI hd
        exact .inr (.inr (.inl ⟨a, vs, j, v, rfl, ey, ha, hv, m.old (.fz rv) q⟩))
      · split at h
        · rename_i ds hl
          obtain ⟨d, hd, rfl⟩ := Option.map_eq_some_iff.mp h
          obtain ⟨a, vs, rfl, ha, hr⟩ := asS_ok m r1 hl
          obtain ⟨v, hv, rv⟩ := hr.atI hd
          exact .inr (.inl ⟨a, vs, j, v, rfl, ey, ha, hv, m.old (.fz rv) q⟩)
        · split at h
          · rename_i ws hl
            obtain ⟨a, vs, rfl, ha, hr⟩ := asW_ok m r1 hl
            obtain ⟨v, hv, rv⟩ := RepWs.atI hr h
            exact .inr (.inl ⟨a, vs, j, v, rfl, ey, .inl (.inl ha), hv, m.old rv q⟩)
          · cases h
    · cases h
theorem pd_ix {X : Cx} {a b : Expr} {pos : Pos} {fa fb : Mo W} (hu : X.A.units + 1 < cLine) (ha : PE X a (tE X.K C T fa)) (hb : PE X b (tE X.K C T fb)) (hs : PlainIx b := by intros _ _; rfl) : PE X (.Subscript a b pos) (tE X.K C T (op2 atO fa fb)) :=
  (pe_ix (ixAt hu) ha hb hs).imp (snd2_rd sAt)

/-! ### a[lo:hi] -/
def poN : Mo (Option Int) := ret none
def poS (f : Mo W) : Mo (Option Int) := bnd f fun w => ofO (match w with
  | .fz (.int i) => some (some i)
  | _ => none)
theorem pd_poN {X : Cx} : PO X none (tO X.K C T poN) := po_none.imp fun σ H Q ⟨F, A, G, s, hs, hq⟩ => hq.retE hs rfl
theorem pd_poS {X : Cx} {e : Expr} {f : Mo W} (h : PE X e (tE X.K C T f)) : PO X (some e) (tO X.K C T (poS f)) := (po_some h).imp fun σ H Q ⟨F, A, G, s, hs, hq⟩ => rd_go hs hq fun x F1 A1 H1 s1 w1 _ _ hs1 rx hq1 => by
  obtain ⟨o, ho, hq3⟩ := hq1.ofOE
  split at ho
  · cases ho
    exact ⟨_, rInt rx, hq3.retE hs1 rfl⟩
  · cases ho
def cutD {α : Type} (xs : List α) (lo hi : Option Int) : List α := (xs.drop (HT.sIx xs.length 0 lo)).take (HT.sIx xs.length xs.length hi - HT.sIx xs.length 0 lo)
def cutO (M : List MO) (w : W) (lo hi : Option Int) : Option W := match w with
  | .fz (.str z) => if z.length ≤ LIM then some (.fz (.str ⟨(cutD z.cps.toList lo hi).toArray⟩)) else none
  | .fz (.tup ds) => if HT.sIx ds.length 0 lo = 0 ∧ HT.sIx ds.length ds.length hi = ds.length then none else some (.fz (.tup (cutD ds lo hi)))
  | w => (asS M w).map fun ds => .fz (.lst (cutD ds lo hi))
def slO (f : Mo W) (g h : Mo (Option Int)) : Mo W := bnd f fun w => bnd g fun lo => bnd h fun hi => fun s => ofO (cutO s.m w lo hi) s
def rCut (K : PySem.W.Frag) : V → Option Int → Option Int → Hp → VK → Prop := fun x lo hi H Q => rSlS x lo hi H Q ∨ rSlT K x lo hi H Q ∨ rSlL K x lo hi H Q
theorem cutS_eq (z : Str) (lo hi : Option Int) : cutS z lo hi = ⟨(cutD z.cps.toList lo hi).toArray⟩ := by
  have e : z.cps.toList.length = z.length := by simp [Str.length]
  unfold cutS cutD
  rw [e]
theorem Reps.cut {ds : List D} {vs : List V} (r : Reps K F ds vs) (lo hi : Option Int) : Reps K F (cutD ds lo hi) (cutV vs lo hi) := by
  unfold cutD cutV
  rw [r.length]
  exact (r.drop _).take _
theorem pd_slice {X : Cx} {e : Expr} {lo hi : Option Expr} {p2 pos : Pos} {f : Mo W} {g h : Mo (Option Int)} (he : PE X e (tE X.K C T f)) (hl : PO X lo (tO X.K C T g)) (hh : PO X hi (tO X.K C T h)) : PE X (.Subscript e (.Slice lo hi none p2) pos) (tE X.K C T (slO f g h)) :=
  (pe_slice (r := rCut X.K) (sl_str.or (sl_tup.or sl_list)) he hl hh).imp fun σ H Q ⟨F, A, G, s, hs, hq⟩ => rd_go hs hq fun x F1 A1 H1 s1 w1 _ _ hs1 rx hq1 => rd_go hs1 hq1 fun y F2 A2 H2 s2 lo' e2 p2' hs2 ry hq2 => rd_go hs2 hq2 fun z F3 A3 H3 s3 hi' e3 p3 hs3 rz hq3 => by
    cases ry
    cases rz
    obtain ⟨w, ho, hq4⟩ := hq3.ofOE
    have rx := rx.mono (e2.trans e3) (p2'.trans p3)
    have m := hs3.mem
    have fin : ∀ v F' H', Ex F3 F' → SimM X.K C F' A3 G s3.m H' → RepW X.K F' A3 w v → Q v H' := fun v F' H' e5 hs5 rv => hq4.at rfl e5 (List.prefix_refl _) (hs3.of e5 (List.prefix_refl _) hs5) rv
    unfold cutO at ho
    split at ho
    · split at ho
      · rename_i hz
        cases ho
        refine .inl ⟨_, rStr rx, lim_ok hz, ?_⟩
        rw [cutS_eq]
        exact m.old (.fz (.str _)) fin
      · cases ho
    · split at ho
      · cases ho
      · rename_i ds hn
        cases ho
        obtain ⟨a, vs, rfl, h1, h2⟩ := asT_ok m rx rfl
        exact .inr (.inl ⟨a, vs, rfl, h1, by rw [← h2.length]; exact hn, fun p hp => m.newT hp (h2.cut _ _) fin⟩)
    · obtain ⟨ds, hd, rfl⟩ := Option.map_eq_some_iff.mp ho
      obtain ⟨a, vs, rfl, h1, h2⟩ := asS_ok m rx hd
      exact .inr (.inr ⟨a, vs, rfl, h1, fun p hp => m.newL hp (h2.cut _ _) fin⟩)
/-- a[::-1] -/
def revO (f : Mo W) : Mo W := bnd f fun w => fun s => ofO ((asS s.m w).map fun ds => .fz (.lst ds.reverse)) s
theorem Reps.rev : ∀ {ds : List D} {vs : List V}, Reps K F ds vs → Reps K F ds.reverse vs.reverse
  | _, _, .nil => .nil
  | _, _, .cons h r => by
    rw [List.reverse_cons, List.reverse_cons]
    exact (Reps.rev r).snoc h
theorem pd_rev {X : Cx} {e : Expr} {k : Nat} {p1 p2 p3 pos : Pos} {f : Mo W} (he : PE X e (tE X.K C T f)) : PE X (.Subscript e (.Slice none none (some (.UnaryOp .USub (.Constant (.int 1) k p1) p2)) p3) pos) (tE X.K C T (revO f)) :=
  (pe_revL he).imp fun σ H Q ⟨F, A, G, s, hs, hq⟩ => rd_go hs hq fun x F1 A1 H1 s1 w1 _ _ hs1 rx hq1 => by
    obtain ⟨w, ho, hq4⟩ := hq1.ofOE
    obtain ⟨ds, hd, rfl⟩ := Option.map_eq_some_iff.mp ho
    obtain ⟨a, vs, rfl, h1, h2⟩ := asS_ok hs1.mem rx hd
    exact ⟨a, vs, rfl, h1, fun p hp => hs1.mem.newL hp h2.rev fun v F' H' e5 hs5 rv => hq4.at rfl e5 (List.prefix_refl _) (hs1.of e5 (List.prefix_refl _) hs5) rv⟩

/-! ### methods of texts -/
def SndM (K : PySem.W.Frag) (C : Nat → Addr) (r : V → List V → Hp → VK → Prop) (o : List MO → W → List W → Option W) : Prop :=
  ∀ {F : Hp} {A : List Addr} {G : Hp} {M : List MO} {H : Hp} {w0 : W} {ws : List W} {w : W} {x : V} {xs : List V} {Q : VK}, SimM K C F A G M H → RepW K F A w0 x → RepWs K F A ws xs → o M w0 ws = some w →
    (∀ v F' H', Ex F F' → SimM K C F' A G M H' → RepW K F' A w v → Q v H') → r x xs H Q
def isStr : W → Bool
  | .fz (.str _) => true
  | _ => false
/-- the receiver first: it is a text -/
def sm0 (o : List MO → W → List W → Option W) (f : Mo W) : Mo W := bnd f fun w => bnd (ofO (if isStr w = true then some () else none)) fun _ => fun s => ofO (o s.m w []) s
def sm1 (o : List MO → W → List W → Option W) (f g : Mo W) : Mo W := bnd f fun w => bnd (ofO (if isStr w = true then some () else none)) fun _ => bnd g fun u => fun s => ofO (o s.m w [u]) s
theorem isStr_ok {w : W} {x : V} (r : RepW K F A w x) (h : isStr w = true) : ∃ z, x = .str z := by
  unfold isStr at h
  split at h
  · exact ⟨_, rStr r⟩
  · cases h
theorem Out.unit {α β : Type} {Rp : Hp → List Addr → α → β → Prop} {s : S} {σ : L2.St} {Q : β → Hp → Prop} {c : Bool} {k : Unit → Mo α} (h : Out K C T Rp F A G (PD.bnd (ofO (if c = true then some () else none)) k s) σ Q) : c = true ∧ Out K C T Rp F A G (k () s) σ Q := by
  cases c with
  | false =>
    obtain ⟨r, s', h1, _⟩ := h
    cases h1
  | true => exact ⟨rfl, h⟩
theorem pd_sm1 {X : Cx} {o e : Expr} {id : String} {name : Str} {apos pos : Pos} {r : V → List V → Hp → VK → Prop} {op : List MO → W → List W → Option W} {f g : Mo W} (slot : Slot "str" name id) (ty : typeOf (.builtin id) = pure (.type "method_descriptor")) (rule : MtR X id r) (so : SndM X.K C r op) (ho : PE X o (tE X.K C T f)) (he : PE X e (tE X.K C T g))
    (hs : starEach [e] X.env = [(false, eval e X.env)] := by rfl) (hbase : attributeBase o name X.env (eval o X.env) = eval o X.env := by rfl) (hline : (apos.endLine == pos.line) = true := by rfl) :
    PE X (.Call (.Attribute o name apos) [e] [] pos) (tE X.K C T (sm1 op f g)) :=
  (pe_m1 slot ty rule ho he hs hbase hline).imp fun σ H Q ⟨F, A, G, s, hs, hq⟩ => rd_go hs hq fun x F1 A1 H1 s1 w1 _ _ hs1 rx hq1 => by
    obtain ⟨hw, hq2⟩ := hq1.unit
    refine ⟨isStr_ok rx hw, rd_go hs1 hq2 fun y F2 A2 H2 s2 w2 e2 p2 hs2 ry hq3 => ?_⟩
    obtain ⟨w, ho, hq4⟩ := hq3.ofOE
    exact so hs2.mem (rx.mono e2 p2) (.cons ry .nil) ho fun v F' H' e5 hs5 rv => hq4.at rfl e5 (List.prefix_refl _) (hs2.of e5 (List.prefix_refl _) hs5) rv
theorem pd_sm0 {X : Cx} {o : Expr} {id : String} {name : Str} {apos pos : Pos} {r : V → List V → Hp → VK → Prop} {op : List MO → W → List W → Option W} {f : Mo W} (slot : Slot "str" name id) (ty : typeOf (.builtin id) = pure (.type "method_descriptor")) (rule : MtR X id r) (so : SndM X.K C r op) (ho : PE X o (tE X.K C T f))
    (hbase : attributeBase o name X.env (eval o X.env) = eval o X.env := by rfl) (hline : (apos.endLine == pos.line) = true := by rfl) :
    PE X (.Call (.Attribute o name apos) [] [] pos) (tE X.K C T (sm0 op f)) :=
  (pe_m0 slot ty rule ho hbase hline).imp fun σ H Q ⟨F, A, G, s, hs, hq⟩ => rd_go hs hq fun x F1 A1 H1 s1 w1 _ _ hs1 rx hq1 => by
    obtain ⟨hw, hq2⟩ := hq1.unit
    refine ⟨isStr_ok rx hw, ?_⟩
    obtain ⟨w, ho, hq4⟩ := hq2.ofOE
    exact so hs1.mem rx .nil ho fun v F' H' e5 hs5 rv => hq4.at rfl e5 (List.prefix_refl _) (hs1.of e5 (List.prefix_refl _) hs5) rv
def startsO (_ : List MO) (w : W) (ws : List W) : Option W := match w, ws with
  | .fz (.str a), [.fz (.str b)] => some (.fz (.bl (Txt.startswith a b)))
  | _, _ => none
def endsO (_ : List MO) (w : W) (ws : List W) : Option W := match w, ws with
  | .fz (.str a), [.fz (.str b)] => some (.fz (.bl (Txt.endswith a b)))
  | _, _ => none
def partO (_ : List MO) (w : W) (ws : List W) : Option W := match w, ws with
  | .fz (.str a), [.fz (.str b)] => if (b.length == 0) = false ∧ a.length ≤ LIM then some (.fz (.tup [.str (Txt.partition a b).1, .str (Txt.partition a b).2.1, .str (Txt.partition a b).2.2])) else none
  | _, _ => none
def splitO (_ : List MO) (w : W) (ws : List W) : Option W := match w, ws with
  | .fz (.str a), [.fz (.str b)] => if (b.length == 0) = false ∧ a.length + 2 ≤ LIM then some (.fz (.lst ((Txt.split a b).map .str))) else none
  | _, _ => none
def joinO (M : List MO) (w : W) (ws : List W) : Option W := match w, ws with
  | .fz (.str a), [u] => match asS M u with
    | some ds => match dTxts ds with
      | some ys => if (ys.map (·.length)).sum + ys.length * a.length ≤ 16777216 then some (.fz (.str (Txt.join a ys))) else none
      | none => none
    | none => none
  | _, _ => none
theorem sStarts : SndM K C (fun x xs H Q => ∃ a b, x = .str a ∧ xs = [.str b] ∧ Q (.bl (Txt.startswith a b)) H) startsO := by
  intro F A G M H w0 ws w x xs Q m r0 r h q
  unfold startsO at h
  split at h
  · cases h
    obtain ⟨v, rfl, rv⟩ := rWs1 r
    exact ⟨_, _, rStr r0, by rw [rStr rv], m.old (.fz (.bl _)) q⟩
  · cases h
theorem sEnds : SndM K C (fun x xs H Q => ∃ a b, x = .str a ∧ xs = [.str b] ∧ Q (.bl (Txt.endswith a b)) H) endsO := by
  intro F A G M H w0 ws w x xs Q m r0 r h q
  unfold endsO at h
  split at h
  · cases h
    obtain ⟨v, rfl, rv⟩ := rWs1 r
    exact ⟨_, _, rStr r0, by rw [rStr rv], m.old (.fz (.bl _)) q⟩
  · cases h
theorem sPart : SndM K C (fun x xs H Q => ∃ a b, x = .str a ∧ xs = [.str b] ∧ (b.length == 0) = false ∧ a.length ≤ sizeLine ∧
      ∀ p, H p = none → Q (.ref p) (upd H p (.tup [.str (Txt.partition a b).1, .str (Txt.partition a b).2.1, .str (Txt.partition a b).2.2]))) partO := by
  intro F A G M H w0 ws w x xs Q m r0 r h q
  unfold partO at h
  split at h
  · split at h
    · rename_i a b hc
      cases h
      obtain ⟨v, rfl, rv⟩ := rWs1 r
      exact ⟨_, _, rStr r0, by rw [rStr rv], hc.1, lim_ok hc.2, fun p hp => m.newT hp (.cons (.str _) (.cons (.str _) (.cons (.str _) .nil))) q⟩
    · cases h
  · cases h
theorem sSplit : SndM K C (fun x xs H Q => ∃ a b, x = .str a ∧ xs = [.str b] ∧ (b.length == 0) = false ∧ a.length + 2 ≤ sizeLine ∧ rNewStrs (Txt.split a b) H Q) splitO := by
  intro F A G M H w0 ws w x xs Q m r0 r h q
  unfold splitO at h
  split at h
  · split at h
    · rename_i a b hc
      cases h
      obtain ⟨v, rfl, rv⟩ := rWs1 r
      exact ⟨_, _, rStr r0, by rw [rStr rv], hc.1, lim_ok hc.2, fun p hp => m.newL hp reps_txts q⟩
    · cases h
  · cases h
theorem sJoin : SndM K C (fun x xs H Q => ∃ a p, ∃ ys : List Str, x = .str a ∧ xs = [.ref p] ∧ (SqL K H p (ys.map V.str) ∨ SqT K H p (ys.map V.str)) ∧
      (ys.map (·.length)).sum + ys.length * a.length ≤ 16777216 ∧ Q (.str (Txt.join a ys)) H) joinO := by
  intro F A G M H w0 ws w x xs Q m r0 r h q
  unfold joinO at h
  split at h
  · split at h
    · rename_i ds hl
      split at h
      · rename_i ys hy
        split at h
        · rename_i hz
          cases h
          obtain ⟨v, rfl, rv⟩ := rWs1 r
          obtain ⟨p, vs, rfl, h1, h2⟩ := asS_ok m rv hl
          rw [txts_rep hy h2] at h1
          exact ⟨_, p, ys, rStr r0, rfl, .inl h1, hz, m.old (.fz (.str _)) q⟩
        · cases h
      · cases h
    · cases h
  · cases h
end
end PD

/-! PDh: lists and dicts of others; sums; what changes an object. -/
noncomputable section
namespace PD
open PySem L2 PyProof.Rows
section
variable {K : PySem.W.Frag} {C : Nat → Addr} {T : XT} {F G : Hp} {A : List Addr} {H : Hp} {M : List MO} {Q : VK}

/-! ### list(x), dict(x), tuple(x) -/
def kD : Key → D
  | .inl i => .int i
  | .inr x => .str x
theorem rep_kD {k : Key} : Rep K F (kD k) (kV k) := by cases k <;> constructor
theorem RepK.kds : ∀ {ds : List (Key × D)} {vs : List (Key × V)}, RepK K F ds vs → Reps K F (ds.map fun kv => kD kv.1) (vs.map fun kv => kV kv.1)
  | _, _, .nil => .nil
  | _, _, .cons _ t => .cons rep_kD (RepK.kds t)
def listO (M : List MO) : List W → Option MO
  | [.fz (.tup ds)] => some (.lst ds)
  | [w] => match asS M w with
    | some ds => some (.lst ds)
    | none => (asD M w).map fun kvs => .lst (kvs.map fun kv => kD kv.1)
  | _ => none
def rListX (K : PySem.W.Frag) : List V → Hp → VK → Prop := fun xs H Q => (∃ p ys, xs = [.ref p] ∧ (SqL K H p ys ∨ SqT K H p ys) ∧ ∀ l, H l = none → Q (.ref l) (upd H l (.lst ys))) ∨
  (∃ (a : Addr) (kvs : List (Key × V)), xs = [.ref a] ∧ Rd H a (.dK kvs) ∧ ∀ p, H p = none → Q (.ref p) (upd H p (.lst (kvs.map fun kv => kV kv.1))))
theorem cList {X : Cx} (hc : X.calm = true) : CallR X (.type "list") (rListX X.K) := call_list_of.or (call_listD hc)
theorem sList : SndO K C (rListX K) listO := by
  intro F A G M H ws m xs Q sm r h q
  unfold listO at h
  split at h
  · cases h
    obtain ⟨v, rfl, rv⟩ := rWs1 r
    obtain ⟨a, vs, rfl, h1, h2⟩ := asT_ok sm rv rfl
    exact .inl ⟨a, vs, rfl, .inr h1, fun p hp => q _ p ⟨vs, rfl, h2⟩ hp⟩
  · obtain ⟨v, rfl, rv⟩ := rWs1 r
    split at h
    · rename_i ds hl
      cases h
      obtain ⟨a, vs, rfl, h1, h2⟩ := asS_ok sm rv hl
      exact .inl ⟨a, vs, rfl, .inl h1, fun p hp => q _ p ⟨vs, rfl, h2⟩ hp⟩
    · obtain ⟨ds, hd, rfl⟩ := Option.map_eq_some_iff.mp h
      obtain ⟨a, vs, rfl, h1, h2⟩ := asD_ok sm rv hd
      exact .inr ⟨a, vs, rfl, h1, fun p hp => q _ p ⟨_, rfl, h2.kds⟩ hp⟩
  · cases h
/-- pairs -/
def pairL : List D → Option (Key × D)
  | [k, v] => (keyD k).map fun k => (k, v)
  | _ => none
def pairD : D → Option (Key × D)
  | .tup ds => pairL ds
  | _ => none
def dPairs : List D → Option (List (Key × D))
  | [] => some []
  | d :: r => match pairD d, dPairs r with
    | some p, some q => some (p :: q)
    | _, _ => none
def mergeD (kvs more : List (Key × D)) : List (Key × D) := more.foldl (fun acc kv => dput acc kv.1 kv.2) kvs
theorem RepK.merge : ∀ {more : List (Key × D)} {ms : List (Key × V)} {ds : List (Key × D)} {vs : List (Key × V)}, RepK K F more ms → RepK K F ds vs → RepK K F (mergeD ds more) (mergeK vs ms)
  | _, _, _, _, .nil, r => r
  | (k, d) :: more, (_, v) :: ms, _, _, .cons h t, r => RepK.merge (more := more) (ms := ms) t (r.put k h)
theorem pairD_ok {d : D} {kv : Key × D} {v : V} (h : pairD d = some kv) (r : Rep K F d v) : ∃ (a : Addr) (y : V), v = .ref a ∧ SqT K F a [kV kv.1, y] ∧ Rep K F kv.2 y := by
  cases r with
  | @tup a vs ds ht hr =>
    have h : pairL ds = some kv := h
    unfold pairL at h
    split at h
    · rename_i k v' hr _
      obtain ⟨k', hk, rfl⟩ := Option.map_eq_some_iff.mp h
      cases hr with
      | cons rk t =>
        cases t with
        | cons rv t =>
          cases t
          have ek := keyD_ok hk rk
          rw [ek] at ht
          exact ⟨a, _, rfl, ht, rv⟩
    · cases h
  | _ => cases h
theorem dPairs_ok : ∀ (ds : List D) {kvs : List (Key × D)} {vs : List V}, dPairs ds = some kvs → Reps K F ds vs → ∃ (ps : List Addr) (ks : List (Key × V)), vs = ps.map V.ref ∧ Paired (fun p kv => SqT K F p [kV kv.1, kv.2]) ps ks ∧ RepK K F kvs ks := by
  intro ds
  induction ds with
  | nil =>
    intro kvs vs h r
    cases h
    cases r
    exact ⟨[], [], rfl, .nil, .nil⟩
  | cons d ds ih =>
    intro kvs vs h r
    have h : (match pairD d, dPairs ds with
      | some p, some q => some (p :: q)
      | _, _ => none) = some kvs := h
    split at h
    · rename_i p q hp hq
      cases h
      cases r with
      | cons r0 t =>
        obtain ⟨ps, ks, e1, e2, e3⟩ := ih hq t
        obtain ⟨a, y, e4, e5, e6⟩ := pairD_ok hp r0
        subst e1 e4
        obtain ⟨k, dd⟩ := p
        exact ⟨a :: ps, (k, y) :: ks, rfl, .cons e5 e2, .cons e6 e3⟩
    · cases h
def dictO (M : List MO) : List W → Option MO
  | [w] => match asD M w with
    | some kvs => some (.dK kvs)
    | none => match asS M w with
      | some ds => (dPairs ds).map fun kvs => .dK (mergeD [] kvs)
      | none => none
  | _ => none
def rDictX (K : PySem.W.Frag) : List V → Hp → VK → Prop := fun xs H Q => (∃ (a : Addr) (kvs : List (Key × V)), xs = [.ref a] ∧ Rd H a (.dK kvs) ∧ ∀ p, H p = none → Q (.ref p) (upd H p (.dK kvs))) ∨
  (∃ (a : Addr) (ps : List Addr) (kvs : List (Key × V)), xs = [.ref a] ∧ SqL K H a (ps.map V.ref) ∧ Paired (fun p kv => SqT K H p [kV kv.1, kv.2]) ps kvs ∧
    ∀ p, H p = none → Q (.ref p) (upd H p (.dK (mergeK [] kvs))))
theorem cDict {X : Cx} (hc : X.calm = true) : CallR X (.type "dict") (rDictX X.K) := call_dictD.or (call_dictP hc)
/-- the parts of what an object holds stand in F -/
theorem asS_in {w : W} {v : V} {ds : List D} (m : SimM K C F A G M H) (r : RepW K F A w v) (h : asS M w = some ds) : ∃ a vs, v = .ref a ∧ SqL K H a vs ∧ Reps K F ds vs := asS_ok m r h
theorem sDict : SndO K C (rDictX K) dictO := by
  intro F A G M H ws m xs Q sm r h q
  unfold dictO at h
  split at h
  · obtain ⟨v, rfl, rv⟩ := rWs1 r
    split at h
    · rename_i kvs hd
      cases h
      obtain ⟨a, vs, rfl, h1, h2⟩ := asD_ok sm rv hd
      exact .inl ⟨a, vs, rfl, h1, fun p hp => q _ p ⟨vs, rfl, h2⟩ hp⟩
    · split at h
      · rename_i ds hl
        obtain ⟨kvs, hk, rfl⟩ := Option.map_eq_some_iff.mp h
        obtain ⟨a, vs, rfl, h1, h2⟩ := asS_ok sm rv hl
        obtain ⟨ps, ks, rfl, e2, e3⟩ := dPairs_ok _ hk h2
        exact .inr ⟨a, ps, ks, rfl, h1, L2.Paired.mapP e2 fun _ _ z => sm.ex.st z, fun p hp => q _ p ⟨_, rfl, e3.merge .nil⟩ hp⟩
      · cases h
  · cases h
def tupleO (M : List MO) : List W → Option W
  | [.fz (.tup ds)] => some (.fz (.tup ds))
  | [w] => (asS M w).map fun ds => .fz (.tup ds)
  | _ => none
theorem sTuple : SndN K C (fun xs H Q => ∃ p ys, xs = [.ref p] ∧ ((SqL K H p ys ∧ ∀ l, H l = none → Q (.ref l) (upd H l (.tup ys))) ∨ (SqT K H p ys ∧ Q (.ref p) H))) tupleO := by
  intro F A G M H ws w xs Q m r h q
  unfold tupleO at h
  split at h
  · cases h
    obtain ⟨v, rfl, rv⟩ := rWs1 r
    obtain ⟨a, vs, rfl, h1, h2⟩ := asT_ok m rv rfl
    exact ⟨a, vs, rfl, .inr ⟨h1, m.old rv q⟩⟩
  · obtain ⟨v, rfl, rv⟩ := rWs1 r
    obtain ⟨ds, hd, rfl⟩ := Option.map_eq_some_iff.mp h
    obtain ⟨a, vs, rfl, h1, h2⟩ := asS_ok m rv hd
    exact ⟨a, vs, rfl, .inl ⟨h1, fun p hp => m.newT hp h2 q⟩⟩
  · cases h

/-! ### max, min, sum, any, all -/
def maxO (M : List MO) : List W → Option W
  | [.fz (.int i), .fz (.int j)] => some (.fz (.int (if j > i then j else i)))
  | [w] => match asS M w with
    | some ds => match dInts ds with
      | some ns => ns.max?.map fun m => .fz (.int m)
      | none => none
    | none => none
  | _ => none
def minO (M : List MO) : List W → Option W
  | [.fz (.int i), .fz (.int j)] => some (.fz (.int (if j < i then j else i)))
  | [w] => match asS M w with
    | some ds => match dInts ds with
      | some ns => ns.min?.map fun m => .fz (.int m)
      | none => none
    | none => none
  | _ => none
def rMaxX (K : PySem.W.Frag) : List V → Hp → VK → Prop := fun xs H Q => (∃ i j, xs = [.int i, .int j] ∧ Q (.int (if j > i then j else i)) H) ∨ rMax K xs H Q
def rMinX (K : PySem.W.Frag) : List V → Hp → VK → Prop := fun xs H Q => (∃ i j, xs = [.int i, .int j] ∧ Q (.int (if j < i then j else i)) H) ∨ rMin K xs H Q
theorem cMax {X : Cx} (hc : X.calm = true) : CallR X (.builtin "max") (rMaxX X.K) := (call_max2 hc).or (cr_max hc)
theorem cMin {X : Cx} (hc : X.calm = true) : CallR X (.builtin "min") (rMinX X.K) := (call_min2 hc).or (cr_min hc)
theorem max_one {ns : List Int} {m m' : Int} (h : ns.max? = some m) (h1 : m' ∈ ns) (h2 : ∀ y, y ∈ ns → y ≤ m') : m' = m := by
  obtain ⟨k1, k2⟩ := List.max?_eq_some_iff.mp h
  exact Int.le_antisymm (k2 _ h1) (h2 _ k1)
theorem min_one {ns : List Int} {m m' : Int} (h : ns.min? = some m) (h1 : m' ∈ ns) (h2 : ∀ y, y ∈ ns → m' ≤ y) : m' = m := by
  obtain ⟨k1, k2⟩ := List.min?_eq_some_iff.mp h
  exact Int.le_antisymm (h2 _ k1) (k2 _ h1)
theorem sMax : SndN K C (rMaxX K) maxO := by
  intro F A G M H ws w xs Q m r h q
  unfold maxO at h
  split at h
  · cases h
    obtain ⟨x, y, rfl, r1, r2⟩ := rWs2 r
    exact .inl ⟨_, _, by rw [rInt r1, rInt r2], m.old (.fz (.int _)) q⟩
  · obtain ⟨v, rfl, rv⟩ := rWs1 r
    split at h
    · rename_i ds hl
      split at h
      · rename_i ns hn
        obtain ⟨k, hk, rfl⟩ := Option.map_eq_some_iff.mp h
        obtain ⟨a, vs, rfl, h1, h2⟩ := asS_ok m rv hl
        rw [dInts_rep hn h2] at h1
        have hne : 0 < ns.length := by cases ns with | nil => cases hk | cons _ _ => simp
        refine .inr ⟨a, ns, rfl, h1, hne, fun k' p1 p2 => ?_⟩
        rw [max_one hk p1 p2]
        exact m.old (.fz (.int _)) q
      · cases h
    · cases h
  · cases h
theorem sMin : SndN K C (rMinX K) minO := by
  intro F A G M H ws w xs Q m r h q
  unfold minO at h
  split at h
  · cases h
    obtain ⟨x, y, rfl, r1, r2⟩ := rWs2 r
    exact .inl ⟨_, _, by rw [rInt r1, rInt r2], m.old (.fz (.int _)) q⟩
  · obtain ⟨v, rfl, rv⟩ := rWs1 r
    split at h
    · rename_i ds hl
      split at h
      · rename_i ns hn
        obtain ⟨k, hk, rfl⟩ := Option.map_eq_some_iff.mp h
        obtain ⟨a, vs, rfl, h1, h2⟩ := asS_ok m rv hl
        rw [dInts_rep hn h2] at h1
        have hne : 0 < ns.length := by cases ns with | nil => cases hk | cons _ _ => simp
        refine .inr ⟨a, ns, rfl, h1, hne, fun k' p1 p2 => ?_⟩
        rw [min_one hk p1 p2]
        exact m.old (.fz (.int _)) q
      · cases h
    · cases h
  · cases h
def sumO (M : List MO) : List W → Option W
  | [w] => match asS M w with
    | some ds => (dInts ds).map fun ns => .fz (.int ns.sum)
    | none => none
  | _ => none
def anyO (M : List MO) : List W → Option W
  | [w] => match asS M w with
    | some ds => (dBls ds).map fun ns => .fz (.bl (ns.any id))
    | none => none
  | _ => none
def allO (M : List MO) : List W → Option W
  | [w] => match asS M w with
    | some ds => (dBls ds).map fun ns => .fz (.bl (ns.all id))
    | none => none
  | _ => none
theorem sSum : SndN K C (rSum K) sumO := by
  intro F A G M H ws w xs Q m r h q
  unfold sumO at h
  split at h
  · obtain ⟨v, rfl, rv⟩ := rWs1 r
    split at h
    · rename_i ds hl
      obtain ⟨ns, hn, rfl⟩ := Option.map_eq_some_iff.mp h
      obtain ⟨a, vs, rfl, h1, h2⟩ := asS_ok m rv hl
      rw [dInts_rep hn h2] at h1
      exact ⟨a, ns, rfl, h1, m.old (.fz (.int _)) q⟩
    · cases h
  · cases h
theorem sAny : SndN K C (rAny K) anyO := by
  intro F A G M H ws w xs Q m r h q
  unfold anyO at h
  split at h
  · obtain ⟨v, rfl, rv⟩ := rWs1 r
    split at h
    · rename_i ds hl
      obtain ⟨ns, hn, rfl⟩ := Option.map_eq_some_iff.mp h
      obtain ⟨a, vs, rfl, h1, h2⟩ := asS_ok m rv hl
      rw [bls_rep hn h2] at h1
      exact ⟨a, ns, rfl, h1, m.old (.fz (.bl _)) q⟩
    · cases h
  · cases h
theorem sAll : SndN K C (rAll K) allO := by
  intro F A G M H ws w xs Q m r h q
  unfold allO at h
  split at h
  · obtain ⟨v, rfl, rv⟩ := rWs1 r
    split at h
    · rename_i ds hl
      obtain ⟨ns, hn, rfl⟩ := Option.map_eq_some_iff.mp h
      obtain ⟨a, vs, rfl, h1, h2⟩ := asS_ok m rv hl
      rw [bls_rep hn h2] at h1
      exact ⟨a, ns, rfl, h1, m.old (.fz (.bl _)) q⟩
    · cases h
  · cases h

/-! ### methods of lists -/
def SndB (K : PySem.W.Frag) (C : Nat → Addr) (r : V → List V → Hp → VK → Prop) (o : List MO → W → List W → Option (W × List MO)) : Prop :=
  ∀ {F : Hp} {A : List Addr} {G : Hp} {M M' : List MO} {H : Hp} {w0 : W} {ws : List W} {w : W} {x : V} {xs : List V} {Q : VK}, SimM K C F A G M H → RepW K F A w0 x → RepWs K F A ws xs → o M w0 ws = some (w, M') →
    (∀ v F' H', Ex F F' → SimM K C F' A G M' H' → RepW K F' A w v → Q v H') → r x xs H Q
def isLs (M : List MO) (w : W) : Bool := (asS M w).isSome || (asW M w).isSome
theorem isLs_ok {w : W} {x : V} (m : SimM K C F A G M H) (r : RepW K F A w x) (h : isLs M w = true) : tyV K "list" x H := by
  unfold isLs at h
  rw [Bool.or_eq_true] at h
  rcases h with h | h
  · obtain ⟨ds, hd⟩ := Option.isSome_iff_exists.mp h
    obtain ⟨a, vs, rfl, h1, _⟩ := asS_ok m r hd
    exact .inl ⟨rfl, vs, h1⟩
  · obtain ⟨ds, hd⟩ := Option.isSome_iff_exists.mp h
    obtain ⟨a, vs, rfl, h1, _⟩ := asW_ok m r hd
    exact .inl ⟨rfl, vs, .inl (.inl h1)⟩
def bm (chk : List MO → W → Bool) (o : List MO → W → List W → Option (W × List MO)) (f : Mo W) (g : Mo (List W)) : Mo W := bnd f fun w => bnd (fun s => ofO (if chk s.m w = true then some () else none) s) fun _ => bnd g fun ws => fun s => match o s.m w ws with
  | some (v, M) => some (.ok v, { s with m := M })
  | none => none
theorem pd_bmL {X : Cx} {o e : Expr} {es : List Expr} {name : Str} {apos cpos : Pos} {id : String} {r : V → List V → Hp → VK → Prop} {op : List MO → W → List W → Option (W × List MO)} {f : Mo W} {g : Mo (List W)} (slot : Slot "list" name id) (hty : typeOf (.builtin id) = pure (.type "method_descriptor")) (hm : MtR X id r) (so : SndB X.K C r op) (ho : PE X o (tE X.K C T f)) (ha : PA X (e :: es) (tA X.K C T g))
    (hbase : attributeBase o name X.env (eval o X.env) = eval o X.env := by rfl)
    (hfew : ((backTo cpos (starEach (e :: es) X.env)).all (fun x => !x.1) && (backToKw cpos (keywordEach [] X.env)).all (fun x => x.1.isSome)
      && decide ((e :: es).length + ([] : List Keyword).length + (if ([] : List Keyword).isEmpty then 0 else 1) < 30)) = true := by rfl)
    (hline : (apos.endLine == cpos.line) = true := by rfl) (hs : starEach (e :: es) X.env = (false, eval e X.env) :: starEach es X.env := by rfl) (hplain : (backTo cpos (starEach es X.env)).any (·.1) = false := by rfl) :
    PE X (.Call (.Attribute o name apos) (e :: es) [] cpos) (tE X.K C T (bm isLs op f g)) :=
  (pe_bm F.plainAttrs_list slot hty hm ho ha hbase hfew hline hs hplain).imp fun σ H Q ⟨F, A, G, s, hs, hq⟩ => rd_go hs hq fun x F1 A1 H1 s1 w1 _ _ hs1 rx hq1 => by
    obtain ⟨hw, hq2⟩ := hq1.unit
    refine ⟨isLs_ok hs1.mem rx hw, rd_go hs1 hq2 fun y F2 A2 H2 s2 ws e2 p2 hs2 ry hq3 => ?_⟩
    obtain ⟨r', s', h1, h2⟩ := hq3
    split at h1
    · rename_i v M ho
      cases h1
      exact so hs2.mem (rx.mono e2 p2) ry ho fun v F' H' e5 hs5 rv => h2 v F' A2 H' e5 (List.prefix_refl _) (hs2.of e5 (List.prefix_refl _) hs5) rv
    · cases h1
theorem pd_bmL0 {X : Cx} {o : Expr} {name : Str} {apos cpos : Pos} {id : String} {r : V → List V → Hp → VK → Prop} {op : List MO → W → List W → Option (W × List MO)} {f : Mo W} (slot : Slot "list" name id) (hty : typeOf (.builtin id) = pure (.type "method_descriptor")) (hm : MtR X id r) (so : SndB X.K C r op) (ho : PE X o (tE X.K C T f))
    (hbase : attributeBase o name X.env (eval o X.env) = eval o X.env := by rfl) (hline : (apos.endLine == cpos.line) = true := by rfl) :
    PE X (.Call (.Attribute o name apos) [] [] cpos) (tE X.K C T (bm isLs op f aN)) :=
  (pe_bm0 F.plainAttrs_list slot hty hm ho hbase hline).imp fun σ H Q ⟨F, A, G, s, hs, hq⟩ => rd_go hs hq fun x F1 A1 H1 s1 w1 _ _ hs1 rx hq1 => by
    obtain ⟨hw, hq2⟩ := hq1.unit
    refine ⟨isLs_ok hs1.mem rx hw, ?_⟩
    obtain ⟨r', s', h1, h2⟩ := hq2
    unfold aN bnd ret at h1
    simp only at h1
    split at h1
    · rename_i v M ho
      cases h1
      exact so hs1.mem rx .nil ho fun v F' H' e5 hs5 rv => h2 v F' A1 H' e5 (List.prefix_refl _) (hs1.of e5 (List.prefix_refl _) hs5) rv
    · cases h1
/-- a list with one more -/
def addL (m : MO) (w : W) : Option MO := match m, w with
  | .lst ds, .fz d => if ds.length < LIM then some (.lst (ds ++ [d])) else none
  | .lst [], w => some (.lw [w])
  | .lw ws, w => if ws.length < LIM then some (.lw (ws ++ [w])) else none
  | _, _ => none
theorem RepWs.append : ∀ {ds es : List W} {vs us : List V}, RepWs K F A ds vs → RepWs K F A es us → RepWs K F A (ds ++ es) (vs ++ us)
  | _, _, _, _, .nil, s => s
  | _, _, _, _, .cons h r, s => .cons h (RepWs.append r s)
theorem addL_ok {m m' : MO} {w : W} {o : HO} {y : V} (h : addL m w = some m') (r : HoRep K C F A m o) (ry : RepW K F A w y) : isDead m = false ∧ ∃ xs, o = .lst xs ∧ xs.length < sizeLine ∧ HoRep K C F A m' (.lst (xs ++ [y])) := by
  unfold addL at h
  split at h
  · split at h
    · rename_i hl
      cases h
      obtain ⟨vs, rfl, r⟩ := r
      cases ry with
      | fz ry => exact ⟨rfl, vs, rfl, lim_lt (by rw [← r.length]; exact hl), _, rfl, r.snoc ry⟩
    · cases h
  · cases h
    obtain ⟨vs, rfl, r⟩ := r
    cases r
    exact ⟨rfl, [], rfl, lim_lt (by decide), _, rfl, .cons ry .nil⟩
  · split at h
    · rename_i hl
      cases h
      obtain ⟨vs, rfl, r⟩ := r
      exact ⟨rfl, vs, rfl, lim_lt (by rw [← Paired.length r]; exact hl), _, rfl, RepWs.append r (.cons ry .nil)⟩
    · cases h
  · cases h
def appO (M : List MO) (w : W) (ws : List W) : Option (W × List MO) := match w, ws with
  | .ob n, [u] => match M[n]? with
    | some m => (addL m u).map fun m' => (.fz .non, M.set n m')
    | none => none
  | _, _ => none
theorem sApp : SndB K C rAppend appO := by
  intro F A G M M' H w0 ws w x xs Q sm r0 r h q
  unfold appO at h
  split at h
  · split at h
    · rename_i m hm
      obtain ⟨m', h1, h2⟩ := Option.map_eq_some_iff.mp h
      cases h2
      obtain ⟨y, rfl, ry⟩ := rWs1 r
      cases r0 with
      | @ob _ a ha =>
        obtain ⟨o, ho, ro⟩ := sm.ob _ _ _ ha hm
        obtain ⟨hd, vs, rfl, hl, ro'⟩ := addL_ok h1 ro ry
        exact ⟨a, vs, y, rfl, rfl, ho, hl, q _ F _ (Ex.refl F) (sm.write ha hm hd ro') (.fz .non)⟩
    · cases h
  · cases h
def extO (M : List MO) (w : W) (ws : List W) : Option (W × List MO) := match w, ws with
  | .ob n, [u] => match M[n]?, asL M u with
    | some (.lst ds), some es => if ds.length + es.length ≤ LIM then some (.fz .non, M.set n (.lst (ds ++ es))) else none
    | _, _ => none
  | _, _ => none
theorem sExt : SndB K C rExtend extO := by
  intro F A G M M' H w0 ws w x xs Q sm r0 r h q
  unfold extO at h
  split at h
  · split at h
    · rename_i ds es hm he
      split at h
      · rename_i hl
        cases h
        obtain ⟨y, rfl, ry⟩ := rWs1 r
        cases r0 with
        | @ob _ a ha =>
          obtain ⟨o, ho, vs, rfl, ro⟩ := sm.ob _ _ _ ha hm
          obtain ⟨b, us, rfl, h1, h2⟩ := asL_ok sm ry he
          exact ⟨a, b, vs, us, rfl, rfl, ho, h1, lim_ok (by rw [← ro.length, ← h2.length]; exact hl), q _ F _ (Ex.refl F) (sm.write (m' := .lst (ds ++ es)) ha hm rfl ⟨_, rfl, ro.append h2⟩) (.fz .non)⟩
      · cases h
    · cases h
  · cases h
theorem Reps.dropLast : ∀ {ds : List D} {vs : List V}, Reps K F ds vs → Reps K F ds.dropLast vs.dropLast
  | _, _, .nil => .nil
  | _, _, .cons _ .nil => .nil
  | _, _, .cons h (.cons h' r) => .cons h (Reps.dropLast (.cons h' r))
def popO (M : List MO) (w : W) (ws : List W) : Option (W × List MO) := match w, ws with
  | .ob n, [] => match M[n]? with
    | some (.lst ds) => match ds[ds.length - 1]? with
      | some d => some (.fz d, M.set n (.lst ds.dropLast))
      | none => none
    | _ => none
  | _, _ => none
theorem sPop : SndB K C rPop popO := by
  intro F A G M M' H w0 ws w x xs Q sm r0 r h q
  unfold popO at h
  split at h
  · split at h
    · rename_i ds hm
      split at h
      · rename_i d hd
        cases h
        cases r
        cases r0 with
        | @ob _ a ha =>
          obtain ⟨o, ho, vs, rfl, ro⟩ := sm.ob _ _ _ ha hm
          obtain ⟨v, hv, rv⟩ := ro.get hd
          exact ⟨a, vs, v, rfl, rfl, ho, by rw [← ro.length]; exact hv, q _ F _ (Ex.refl F) (sm.write (m' := .lst ds.dropLast) ha hm rfl ⟨_, rfl, ro.dropLast⟩) (.fz rv)⟩
      · cases h
    · cases h
  · cases h

/-! ### a dict's get and pop -/
def isDc (M : List MO) (w : W) : Bool := (asD M w).isSome
theorem isDc_ok {w : W} {x : V} (m : SimM K C F A G M H) (r : RepW K F A w x) (h : isDc M w = true) : ∃ a, x = .ref a ∧ IsD H a := by
  obtain ⟨ds, hd⟩ := Option.isSome_iff_exists.mp h
  obtain ⟨a, vs, rfl, h1, _⟩ := asD_ok m r hd
  exact ⟨a, rfl, .inl ⟨vs, h1⟩⟩
def getO (M : List MO) (w i z : W) : Option W := match keyW i, asD M w with
  | some k, some kvs => some (match dget kvs k with | some d => .fz d | none => z)
  | _, _ => none
theorem get_ok {w i z v : W} {a : Addr} {y zz : V} (m : SimM K C F A G M H) (r : RepW K F A w (.ref a)) (ri : RepW K F A i y) (rz : RepW K F A z zz) (h : getO M w i z = some v) : ∃ o, DGet H a y o ∧ RepW K F A v (o.getD zz) := by
  unfold getO at h
  split at h
  · rename_i k kvs hk hd
    cases h
    obtain ⟨a', vs, e, ha, hr⟩ := asD_ok m r hd
    cases e
    refine ⟨_, .inl ⟨vs, k, ha, keyW_ok hk ri, rfl⟩, ?_⟩
    cases hg : dget kvs k with
    | none =>
      rw [(hr.get k).2 hg]
      exact rz
    | some d =>
      obtain ⟨v, hv, rv⟩ := (hr.get k).1 d hg
      rw [hv]
      exact .fz rv
  · cases h
def get1 (f g : Mo W) : Mo W := bnd f fun w => bnd (fun s => ofO (if isDc s.m w = true then some () else none) s) fun _ => bnd g fun i => fun s => ofO (getO s.m w i (.fz .non)) s
def get2 (f g h : Mo W) : Mo W := bnd f fun w => bnd (fun s => ofO (if isDc s.m w = true then some () else none) s) fun _ => bnd g fun i => bnd h fun z => fun s => ofO (getO s.m w i z) s
theorem pd_get1 {X : Cx} {o e : Expr} {apos cpos : Pos} {f g : Mo W} (hu : X.A.units + 1 < cLine) (ho : PE X o (tE X.K C T f)) (he : PE X e (tE X.K C T g)) (m : M1 X o "get" apos e cpos := by exact ⟨rfl, rfl, rfl, rfl⟩) : PE X (.Call (.Attribute o "get" apos) [e] [] cpos) (tE X.K C T (get1 f g)) :=
  (pe_dget1 hu ho he m).imp fun σ H Q ⟨F, A, G, s, hs, hq⟩ => rd_go hs hq fun x F1 A1 H1 s1 w1 _ _ hs1 rx hq1 => by
    obtain ⟨hw, hq2⟩ := hq1.unit
    obtain ⟨a, rfl, ha⟩ := isDc_ok hs1.mem rx hw
    refine ⟨a, rfl, ha, rd_go hs1 hq2 fun y F2 A2 H2 s2 w2 e2 p2 hs2 ry hq3 => ?_⟩
    obtain ⟨w, ho, hq4⟩ := hq3.ofOE
    obtain ⟨o, hg, rv⟩ := get_ok hs2.mem (rx.mono e2 p2) ry (.fz .non) ho
    exact ⟨o, hg, hq4.retE hs2 rv⟩
theorem pd_get2 {X : Cx} {o e e' : Expr} {apos cpos : Pos} {f g h : Mo W} (hu : X.A.units + 1 < cLine) (ho : PE X o (tE X.K C T f)) (he : PE X e (tE X.K C T g)) (he' : PE X e' (tE X.K C T h)) (m : M2 X o "get" apos e e' cpos := by exact ⟨rfl, rfl, rfl, rfl⟩) : PE X (.Call (.Attribute o "get" apos) [e, e'] [] cpos) (tE X.K C T (get2 f g h)) :=
  (pe_dget2 hu ho he he' m).imp fun σ H Q ⟨F, A, G, s, hs, hq⟩ => rd_go hs hq fun x F1 A1 H1 s1 w1 _ _ hs1 rx hq1 => by
    obtain ⟨hw, hq2⟩ := hq1.unit
    obtain ⟨a, rfl, ha⟩ := isDc_ok hs1.mem rx hw
    refine ⟨a, rfl, ha, rd_go hs1 hq2 fun y F2 A2 H2 s2 w2 e2 p2 hs2 ry hq3 => rd_go hs2 hq3 fun z F3 A3 H3 s3 w3 e3 p3 hs3 rz hq4 => ?_⟩
    obtain ⟨w, ho, hq5⟩ := hq4.ofOE
    obtain ⟨o, hg, rv⟩ := get_ok hs3.mem (rx.mono (e2.trans e3) (p2.trans p3)) (ry.mono e3 p3) rz ho
    exact ⟨o, hg, hq5.retE hs3 rv⟩
def dpopO (M : List MO) (w i z : W) : Option (W × List MO) := match w, keyW i with
  | .ob n, some k => match M[n]? with
    | some (.dK kvs) => some (match dget kvs k with
      | some d => (.fz d, M.set n (.dK (ddel kvs k)))
      | none => (z, M))
    | _ => none
  | _, _ => none
def dpop2 (f g h : Mo W) : Mo W := bnd f fun w => bnd (fun s => ofO (if isDc s.m w = true then some () else none) s) fun _ => bnd g fun i => bnd h fun z => fun s => match dpopO s.m w i z with
  | some (v, M) => some (.ok v, { s with m := M })
  | none => none
theorem pd_dpop2 {X : Cx} {o e e' : Expr} {apos cpos : Pos} {f g h : Mo W} (ho : PE X o (tE X.K C T f)) (he : PE X e (tE X.K C T g)) (he' : PE X e' (tE X.K C T h)) (m : M2 X o "pop" apos e e' cpos := by exact ⟨rfl, rfl, rfl, rfl⟩) : PE X (.Call (.Attribute o "pop" apos) [e, e'] [] cpos) (tE X.K C T (dpop2 f g h)) :=
  (pe_dpop2 ho he he' m).imp fun σ H Q ⟨F, A, G, s, hs, hq⟩ => rd_go hs hq fun x F1 A1 H1 s1 w1 _ _ hs1 rx hq1 => by
    obtain ⟨hw, hq2⟩ := hq1.unit
    obtain ⟨a, rfl, ha⟩ := isDc_ok hs1.mem rx hw
    refine ⟨a, rfl, ha, rd_go hs1 hq2 fun y F2 A2 H2 s2 w2 e2 p2 hs2 ry hq3 => rd_go hs2 hq3 fun z F3 A3 H3 s3 w3 e3 p3 hs3 rz hq4 => ?_⟩
    obtain ⟨r', s', h1, h2⟩ := hq4
    have rx3 := rx.mono (e2.trans e3) (p2.trans p3)
    have ry3 := ry.mono e3 p3
    split at h1
    · rename_i v M ho
      cases h1
      unfold dpopO at ho
      split at ho
      · rename_i n k hk
        split at ho
        · rename_i kvs hm
          cases rx3 with
          | ob ha =>
            obtain ⟨u, hu, vs, rfl, hr⟩ := hs3.mem.ob _ _ _ ha hm
            refine ⟨vs, k, hu, keyW_ok hk ry3, fun v' hv' => ?_, fun hn => ?_⟩
            · cases hg : dget kvs k with
              | none => rw [(hr.get k).2 hg] at hv'; cases hv'
              | some d =>
                rw [hg] at ho
                cases ho
                obtain ⟨v2, e2, rv⟩ := (hr.get k).1 d hg
                rw [hv'] at e2; cases e2
                have sm := hs3.mem.write (m' := .dK (ddel kvs k)) ha hm rfl ⟨_, rfl, hr.del k⟩
                exact h2 v' F3 A3 _ (Ex.refl _) (List.prefix_refl _) (hs3.of (Ex.refl _) (List.prefix_refl _) sm) (.fz rv)
            · cases hg : dget kvs k with
              | some d =>
                obtain ⟨v2, e2, rv⟩ := (hr.get k).1 d hg
                rw [hn] at e2; cases e2
              | none =>
                rw [hg] at ho
                cases ho
                exact h2 z F3 A3 _ (Ex.refl _) (List.prefix_refl _) hs3 rz
        · cases ho
      · cases ho
    · cases h1

/-! ### o[i] = w -/
def dputW (kvs : List (Key × W)) (k : Key) (v : W) : List (Key × W) := dput kvs k v
def stO (M : List MO) (o i w : W) : Option (List MO) := match o with
  | .ob n => match M[n]? with
    | some (.lst ds) => match i, w with
      | .fz (.int j), .fz d => (ixN ds.length j).map fun k => M.set n (.lst (ds.set k d))
      | _, _ => none
    | some (.lw ws) => match i with
      | .fz (.int j) => (ixN ws.length j).map fun k => M.set n (.lw (ws.set k w))
      | _ => none
    | some (.dK kvs) => match keyW i, w with
      | some k, .fz d => if kvs.length < LIM then some (M.set n (.dK (dput kvs k d))) else none
      | _, _ => none
    | _ => none
  | _ => none
theorem Reps.set : ∀ {ds : List D} {vs : List V} {k : Nat} {d : D} {v : V}, Reps K F ds vs → Rep K F d v → Reps K F (ds.set k d) (vs.set k v)
  | _, _, _, _, _, .nil, _ => .nil
  | _, _, 0, _, _, .cons _ r, q => .cons q r
  | _, _, k + 1, _, _, .cons h r, q => .cons h (Reps.set r q)
theorem RepWs.set : ∀ {ds : List W} {vs : List V} {k : Nat} {d : W} {v : V}, RepWs K F A ds vs → RepW K F A d v → RepWs K F A (ds.set k d) (vs.set k v)
  | _, _, _, _, _, .nil, _ => .nil
  | _, _, 0, _, _, .cons _ r, q => .cons q r
  | _, _, k + 1, _, _, .cons h r, q => .cons h (RepWs.set r q)
def rSetX : TSet := fun o i v H Q => rSetL o i v H Q ∨ rSetD o i v H Q
theorem cSet {X : Cx} (hu : X.A.units + 1 < cLine) : PSet X rSetX := by
  intro pins s σ H o i v ov iv u Q I ro ri rv h
  rcases h with h | h
  · exact set_list pins s σ H o i v ov iv u Q I ro ri rv h
  · exact set_dict hu pins s σ H o i v ov iv u Q I ro ri rv h
theorem st_ok {o i w : W} {M' : List MO} {x y v : V} {Q : Hp → Prop} (m : SimM K C F A G M H) (ro : RepW K F A o x) (ri : RepW K F A i y) (rw' : RepW K F A w v) (h : stO M o i w = some M') (q : ∀ H', SimM K C F A G M' H' → Q H') : rSetX x y v H Q := by
  unfold stO at h
  split at h
  · cases ro with
    | @ob _ a ha =>
    split at h
    · rename_i ds hm
      obtain ⟨u, hu, vs, rfl, hr⟩ := m.ob _ _ _ ha hm
      split at h
      · obtain ⟨k, hk, rfl⟩ := Option.map_eq_some_iff.mp h
        cases rw' with
        | fz rd => exact .inl ⟨a, vs, _, k, rfl, rInt ri, hu, by rw [← hr.length]; exact hk, q _ (m.write (m' := .lst (ds.set k _)) ha hm rfl ⟨_, rfl, hr.set rd⟩)⟩
      · cases h
    · rename_i ws hm
      obtain ⟨u, hu, vs, rfl, hr⟩ := m.ob _ _ _ ha hm
      split at h
      · obtain ⟨k, hk, rfl⟩ := Option.map_eq_some_iff.mp h
        exact .inl ⟨a, vs, _, k, rfl, rInt ri, hu, by rw [← Paired.length hr]; exact hk, q _ (m.write (m' := .lw (ws.set k _)) ha hm rfl ⟨_, rfl, RepWs.set hr rw'⟩)⟩
      · cases h
    · rename_i kvs hm
      obtain ⟨u, hu, vs, rfl, hr⟩ := m.ob _ _ _ ha hm
      split at h
      · rename_i k d hk
        split at h
        · rename_i hl
          cases h
          cases rw' with
          | fz rd => exact .inr ⟨a, _, rfl, .inl ⟨vs, k, hu, keyW_ok hk ri, lim_lt (by rw [← hr.length]; exact hl), rfl⟩, q _ (m.write (m' := .dK (dput kvs k d)) ha hm rfl ⟨_, rfl, hr.put k rd⟩)⟩
        · cases h
      · cases h
    · cases h
  · cases h
end
end PD

/-! PDi: statements. -/
noncomputable section
namespace PD
open PySem L2 PyProof.Rows
section
variable (K : PySem.W.Frag) (C : Nat → Addr) (T : XT)
/-- the end of a statement, wished for -/
def OutS (F : Hp) (A : List Addr) (G : Hp) (res : R Fl) (D : Ends) : Prop := ∃ r s', res = some (r, s') ∧ match r with
  | .ok .nx => ∀ σ' F' A' H', Ex F F' → A <+: A' → Sim K C F' A' G s' σ' H' → D.nx σ' H'
  | .ok .bk => ∀ σ' F' A' H', Ex F F' → A <+: A' → Sim K C F' A' G s' σ' H' → D.bk σ' H'
  | .ok .ct => ∀ σ' F' A' H', Ex F F' → A <+: A' → Sim K C F' A' G s' σ' H' → D.ct σ' H'
  | .ok (.rt w) => ∀ v σ' F' A' H', Ex F F' → A <+: A' → Sim K C F' A' G s' σ' H' → RepW K F' A' w v → D.rt v H'
  | .error e => T.p F A G e s'
def tS (f : Mo Fl) : TS := fun D σ H => ∃ F A G s, Sim K C F A G s σ H ∧ OutS K C T F A G (f s) D
/-- a target -/
def tG (g : W → Mo Unit) : TG := fun v σ H Q => ∃ F A G s w, Sim K C F A G s σ H ∧ RepW K F A w v ∧ ∃ r s', g w s = some (r, s') ∧ match r with
  | .ok _ => ∀ σ' F' A' H', Ex F F' → A <+: A' → Sim K C F' A' G s' σ' H' → Q σ' H'
  | .error e => T.p F A G e s'
end
section
variable {K : PySem.W.Frag} {C : Nat → Addr} {T : XT} {F F' G G' : Hp} {A A' : List Addr} {s s1 : S} {σ : L2.St} {H : Hp}
theorem OutS.mono {res : R Fl} {D : Ends} (e : Ex F F') (p : A <+: A') (h : OutS K C T F A G res D) : OutS K C T F' A' G res D := by
  obtain ⟨r, s', h1, h2⟩ := h
  refine ⟨r, s', h1, ?_⟩
  rcases r with x | f
  · exact T.mono e p h2
  · cases f with
    | rt w => exact fun v σ F2 A2 H2 e2 p2 => h2 v σ F2 A2 H2 (e.trans e2) (p.trans p2)
    | _ => exact fun σ F2 A2 H2 e2 p2 => h2 σ F2 A2 H2 (e.trans e2) (p.trans p2)
theorem SimM.unguard {M : List MO} (h : SimM K C F A G' M H) (e : Ex G G') : SimM K C F A G M H := by
  refine ⟨h.ex, e.trans h.gd, h.len, h.nd, h.ob, fun n a m e1 e2 e3 => ⟨(h.own n a m e1 e2 e3).1, ?_⟩, fun a u h1 o h2 => h.gF a u h1 o (e a o h2), fun a h1 o h2 => h.gA a h1 o (e a o h2)⟩
  cases hg : G a with
  | none => rfl
  | some o => have z := (h.own n a m e1 e2 e3).2; rw [e a o hg] at z; cases z
theorem Sim.unguard (h : Sim K C F A G' s σ H) (e : Ex G G') : Sim K C F A G s σ H := ⟨h.mem.unguard e, h.len, h.slot⟩
theorem Out.guard {α β : Type} {Rp : Hp → List Addr → α → β → Prop} {res : R α} {Q : β → Hp → Prop} (e : Ex G G') (h : Out K C T Rp F A G res σ Q) : Out K C T Rp F A G' res σ Q := by
  obtain ⟨r, s', h1, h2⟩ := h
  refine ⟨r, s', h1, ?_⟩
  cases r with
  | ok a => exact fun b F2 A2 H2 e2 p2 hs => h2 b F2 A2 H2 e2 p2 (hs.unguard e)
  | error x => exact T.gm e h2
theorem OutS.guard {res : R Fl} {D : Ends} (e : Ex G G') (h : OutS K C T F A G res D) : OutS K C T F A G' res D := by
  obtain ⟨r, s', h1, h2⟩ := h
  refine ⟨r, s', h1, ?_⟩
  rcases r with x | f
  · exact T.gm e h2
  · cases f with
    | rt w => exact fun v σ F2 A2 H2 e2 p2 hs => h2 v σ F2 A2 H2 e2 p2 (hs.unguard e)
    | _ => exact fun σ F2 A2 H2 e2 p2 hs => h2 σ F2 A2 H2 e2 p2 (hs.unguard e)
theorem OutS.bnd {α β : Type} {Rp : Hp → List Addr → α → β → Prop} {f : Mo α} {k : α → Mo Fl} {D : Ends} (h : OutS K C T F A G (PD.bnd f k s) D) :
    Out K C T Rp F A G (f s) σ fun b H1 => ∃ F1 A1 s1 a, Ex F F1 ∧ A <+: A1 ∧ Sim K C F1 A1 G s1 σ H1 ∧ Rp F1 A1 a b ∧ OutS K C T F1 A1 G (k a s1) D := by
  cases hf : f s with
  | none =>
    rw [bnd_no hf] at h
    obtain ⟨r, s', h1, _⟩ := h
    cases h1
  | some q =>
    obtain ⟨r, s1⟩ := q
    cases r with
    | error e =>
      rw [bnd_er hf] at h
      obtain ⟨r, s', h1, h2⟩ := h
      cases h1
      exact ⟨_, _, rfl, h2⟩
    | ok a =>
      rw [bnd_ok hf] at h
      exact ⟨_, _, rfl, fun b F1 A1 H1 e p hs r => ⟨F1, A1, s1, a, e, p, hs, r, h.mono e p⟩⟩
theorem rdS_go {α β : Type} {Rp : Hp → List Addr → α → β → Prop} {f : Mo α} {k : α → Mo Fl} {D : Ends} {Q' : β → Hp → Prop} (hs : Sim K C F A G s σ H) (h : OutS K C T F A G (bnd f k s) D)
    (step : ∀ b F1 A1 H1 s1 a, Ex F F1 → A <+: A1 → Sim K C F1 A1 G s1 σ H1 → Rp F1 A1 a b → OutS K C T F1 A1 G (k a s1) D → Q' b H1) : rd K C T Rp f σ H Q' := by
  obtain ⟨r1, s1, h1, h2⟩ := OutS.bnd (Rp := Rp) (σ := σ) h
  refine ⟨F, A, G, s, hs, r1, s1, h1, ?_⟩
  cases r1 with
  | error e => exact h2
  | ok a =>
    intro b F1 A1 H1 e1 p1 hs1 rx
    obtain ⟨F2, A2, s2, a2, e2, p2, hs2, ra, hq2⟩ := h2 b F1 A1 H1 e1 p1 hs1 rx
    exact step b F2 A2 H1 s2 a2 e2 p2 hs2 ra hq2
theorem OutS.nx {D : Ends} (h : OutS K C T F A G (ret .nx s) D) (hs : Sim K C F A G s σ H) : D.nx σ H := by
  obtain ⟨r, s', h1, h2⟩ := h
  cases h1
  exact h2 σ F A H (Ex.refl F) (List.prefix_refl A) hs
theorem OutS.rt {D : Ends} {w : W} {v : V} (h : OutS K C T F A G (ret (.rt w) s) D) (hs : Sim K C F A G s σ H) (r : RepW K F A w v) : D.rt v H := by
  obtain ⟨r', s', h1, h2⟩ := h
  cases h1
  exact h2 v σ F A H (Ex.refl F) (List.prefix_refl A) hs r
theorem OutS.tgt {g : W → Mo Unit} {w : W} {v : V} {k : Unit → Mo Fl} {D : Ends} {Q : L2.St → Hp → Prop} (h : OutS K C T F A G (PD.bnd (g w) k s) D) (hs : Sim K C F A G s σ H) (r : RepW K F A w v)
    (step : ∀ F1 A1 H1 s1 σ1, Ex F F1 → A <+: A1 → Sim K C F1 A1 G s1 σ1 H1 → OutS K C T F1 A1 G (k () s1) D → Q σ1 H1) : tG K C T g v σ H Q := by
  refine ⟨F, A, G, s, w, hs, r, ?_⟩
  cases hf : g w s with
  | none =>
    rw [bnd_no hf] at h
    obtain ⟨r, s', h1, _⟩ := h
    cases h1
  | some q =>
    obtain ⟨r, s1⟩ := q
    refine ⟨r, s1, rfl, ?_⟩
    cases r with
    | error e =>
      rw [bnd_er hf] at h
      obtain ⟨r, s', h1, h2⟩ := h
      cases h1
      exact h2
    | ok a =>
      rw [bnd_ok hf] at h
      exact fun σ1 F1 A1 H1 e p hs => step F1 A1 H1 s1 σ1 e p hs (h.mono e p)

/-! ### one behind the other -/
def seqS (f g : Mo Fl) : Mo Fl := fun s => match f s with
  | some (.ok .nx, s1) => g s1
  | r => r
theorem seq_rd {f g : Mo Fl} {D : Ends} (h : tS K C T (seqS f g) D σ H) : tSeq (tS K C T f) (tS K C T g) D σ H := by
  obtain ⟨F, A, G, s, hs, r, s', h1, h2⟩ := h
  unfold seqS at h1
  cases hf : f s with
  | none => rw [hf] at h1; cases h1
  | some q =>
    obtain ⟨r1, s1⟩ := q
    rw [hf] at h1
    refine ⟨F, A, G, s, hs, r1, s1, hf, ?_⟩
    rcases r1 with x | f1
    · cases h1; exact h2
    · cases f1 with
      | nx =>
        intro σ' F' A' H' e p hs'
        exact ⟨F', A', G, s1, hs', OutS.mono e p ⟨r, s', h1, h2⟩⟩
      | rt w => cases h1; exact h2
      | bk => cases h1; exact h2
      | ct => cases h1; exact h2
theorem _root_.L2.PS.imp {X : Cx} {st : Stmt} {t t' : TS} (h : PS X st t) (i : ∀ D σ H, t' D σ H → t D σ H) : PS X st t' := ⟨fun pins s σ H D I hq => h.run pins s σ H D I (i D σ H hq)⟩
theorem _root_.L2.PSs.imp {X : Cx} {st : List Stmt} {t t' : TS} (h : PSs X st t) (i : ∀ D σ H, t' D σ H → t D σ H) : PSs X st t' := ⟨fun pins s σ H D I hq => h.run pins s σ H D I (i D σ H hq)⟩
theorem _root_.L2.PG.imp {X : Cx} {e : Expr} {t t' : TG} (h : PG X e t) (i : ∀ v σ H Q, t' v σ H Q → t v σ H Q) : PG X e t' := ⟨fun pins s σ H v u Q I r hq => h.run pins s σ H v u Q I r (i v σ H Q hq)⟩
theorem _root_.L2.PI.imp {X : Cx} {tg e : Expr} {t t' : TI} (h : PI X tg e t) (i : ∀ σ H R, t' σ H R → t σ H R) : PI X tg e t' := ⟨fun pins s σ H R I hq => h.run pins s σ H R I (i σ H R hq)⟩
def nxS : Mo Fl := ret .nx
variable {X : Cx}
theorem pd_nil : PSs X [] (tS X.K C T nxS) := pss_nil.imp fun D σ H ⟨F, A, G, s, hs, hq⟩ => hq.nx hs
theorem pd_cons {st : Stmt} {r : List Stmt} {f g : Mo Fl} (h1 : PS X st (tS X.K C T f)) (h2 : PSs X r (tS X.K C T g)) : PSs X (st :: r) (tS X.K C T (seqS f g)) := (pss_cons h1 h2).imp fun D σ H h => seq_rd h
theorem pd_one1 {st : Stmt} {f : Mo Fl} (h1 : PS X st (tS X.K C T f)) : PSs X [st] (tS X.K C T f) := pss_one h1
theorem pd_pass {pos : Pos} : PS X (.Pass pos) (tS X.K C T nxS) := ps_pass.imp fun D σ H ⟨F, A, G, s, hs, hq⟩ => hq.nx hs
def bkS : Mo Fl := ret .bk
def ctS : Mo Fl := ret .ct
theorem pd_break {pos : Pos} : PS X (.Break pos) (tS X.K C T bkS) := ps_break.imp fun D σ H ⟨F, A, G, s, hs, r, s', h1, h2⟩ => by
  cases h1
  exact h2 σ F A H (Ex.refl F) (List.prefix_refl A) hs
theorem pd_cont {pos : Pos} : PS X (.Continue pos) (tS X.K C T ctS) := ps_continue.imp fun D σ H ⟨F, A, G, s, hs, r, s', h1, h2⟩ => by
  cases h1
  exact h2 σ F A H (Ex.refl F) (List.prefix_refl A) hs
def drpS (f : Mo W) : Mo Fl := bnd f fun _ => nxS
theorem pd_expr {e : Expr} {pos : Pos} {f : Mo W} (he : PE X e (tE X.K C T f)) (hs : swapsWith e none pos.line X.env = pure false := by rfl) : PS X (.Expr e pos) (tS X.K C T (drpS f)) :=
  (ps_expr he hs).imp fun D σ H ⟨F, A, G, s, hs, hq⟩ => rdS_go hs hq fun x F1 A1 H1 s1 w1 _ _ hs1 rx hq1 => hq1.nx hs1
def retS (f : Mo W) : Mo Fl := bnd f fun w => ret (.rt w)
theorem pd_ret {e : Expr} {pos : Pos} {f : Mo W} (he : PE X e (tE X.K C T f)) : PS X (.Return (some e) pos) (tS X.K C T (retS f)) :=
  (ps_ret he).imp fun D σ H ⟨F, A, G, s, hs, hq⟩ => rdS_go hs hq fun x F1 A1 H1 s1 w1 _ _ hs1 rx hq1 => hq1.rt hs1 rx
def retN : Mo Fl := ret (.rt (.fz .non))
theorem pd_retN {pos : Pos} : PS X (.Return none pos) (tS X.K C T retN) := ps_retN.imp fun D σ H ⟨F, A, G, s, hs, hq⟩ => hq.rt hs (.fz .non)
def ifS (c : Mo Bool) (f g : Mo Fl) : Mo Fl := bnd c fun b => if b then f else g
theorem pd_ifS {c : Expr} {a b : List Stmt} {pos : Pos} {fc : Mo Bool} {f g : Mo Fl} (hc : PT X c (tT X.K C T fc)) (ha : PSs X a (tS X.K C T f)) (hb : PSs X b (tS X.K C T g)) : PS X (.If c a b pos) (tS X.K C T (ifS fc f g)) :=
  (ps_if hc ha hb).imp fun D σ H ⟨F, A, G, s, hs, hq⟩ => rdS_go hs hq fun x F1 A1 H1 s1 w1 _ _ hs1 rx hq1 => by
    cases rx
    cases x with
    | true => exact ⟨F1, A1, G, s1, hs1, hq1⟩
    | false => exact ⟨F1, A1, G, s1, hs1, hq1⟩
/-- never reached -/
def nvS : Mo Fl := fun _ => none
theorem pd_never {st : Stmt} : PS X st (tS X.K C T nvS) := ps_never.imp fun D σ H ⟨F, A, G, s, hs, r, s', h1, h2⟩ => nomatch h1
theorem pd_nevers {st : List Stmt} : PSs X st (tS X.K C T nvS) := pss_never.imp fun D σ H ⟨F, A, G, s, hs, r, s', h1, h2⟩ => nomatch h1

/-! ### targets -/
def setR (s : S) (i : Nat) (w : W) : S := { s with r := s.r.set i (some w) }
theorem Sim.set (hs : Sim K C F A G s σ H) {i : Nat} {w : W} {v : V} (r : RepW K F A w v) : Sim K C F A G (setR s i w) (σ.set i (some v)) H := by
  refine ⟨hs.mem, by simp [setR, hs.len], fun j w' hw => ?_⟩
  have hw : (s.r.set i (some w))[j]? = some (some w') := hw
  by_cases hj : i = j
  · subst hj
    by_cases hi : i < s.r.length
    · rw [List.getElem?_set_self hi] at hw
      cases hw
      exact ⟨v, List.getElem?_set_self (by rw [← hs.len]; exact hi), r⟩
    · rw [List.getElem?_eq_none (by simpa using hi)] at hw
      cases hw
  · rw [List.getElem?_set_ne hj] at hw
    obtain ⟨v', q1, q2⟩ := hs.slot j w' hw
    exact ⟨v', by rw [List.getElem?_set_ne hj]; exact q1, q2⟩
def gNm (i : Nat) (w : W) : Mo Unit := fun s => some (.ok (), setR s i w)
theorem pd_gNm {x : Str} {i : Nat} {pos : Pos} (hN : X.N.Nodup) (hi : X.N[i]? = some x) (hx : Loc X.env.scope x) (hf : X.fn x = true ∨ X.env.scope.names.lookup x = some .local := by first | exact .inl rfl | exact .inr rfl | assumption) : PG X (.Name x pos) (tG X.K C T (gNm i)) :=
  (pg_name hN hi hx hf).imp fun v σ H Q ⟨F, A, G, s, w, hs, rw', r, s', h1, h2⟩ => by
    cases h1
    exact h2 _ F A H (Ex.refl F) (List.prefix_refl A) (hs.set rw')
/-- targets one behind the other -/
def gNl (ws : List W) : Mo Unit := fun s => if ws = [] then some (.ok (), s) else none
def gCn (g : W → Mo Unit) (h : List W → Mo Unit) (ws : List W) : Mo Unit := match ws with
  | [] => fun _ => none
  | w :: r => bnd (g w) fun _ => h r
def tGs (K : PySem.W.Frag) (C : Nat → Addr) (T : XT) (g : List W → Mo Unit) : TGs := fun vs σ H Q => ∃ F A G s ws, Sim K C F A G s σ H ∧ RepWs K F A ws vs ∧ ∃ r s', g ws s = some (r, s') ∧ match r with
  | .ok _ => ∀ σ' F' A' H', Ex F F' → A <+: A' → Sim K C F' A' G s' σ' H' → Q σ' H'
  | .error e => T.p F A G e s'
theorem _root_.L2.PGs.imp {X : Cx} {es : List Expr} {t t' : TGs} (h : PGs X es t) (i : ∀ v σ H Q, t' v σ H Q → t v σ H Q) : PGs X es t' := ⟨fun pins s σ H v u Q I r hq => h.run pins s σ H v u Q I r (i v σ H Q hq)⟩
theorem pd_gNl : PGs X [] (tGs X.K C T gNl) := pgs_nil.imp fun vs σ H Q ⟨F, A, G, s, ws, hs, rw', r, s', h1, h2⟩ => by
  unfold gNl at h1
  split at h1
  · rename_i e
    cases h1
    subst e
    cases rw'
    exact ⟨rfl, h2 _ F A H (Ex.refl F) (List.prefix_refl A) hs⟩
  · cases h1
theorem pd_gCn {e : Expr} {es : List Expr} {g : W → Mo Unit} {h : List W → Mo Unit} (h1 : PG X e (tG X.K C T g)) (h2 : PGs X es (tGs X.K C T h))
    (hs : (assignEach (e :: es) X.env).map (·.2) = assign e X.env :: (assignEach es X.env).map (·.2) := by rfl) : PGs X (e :: es) (tGs X.K C T (gCn g h)) :=
  (pgs_cons h1 h2 hs).imp fun vs σ H Q ⟨F, A, G, s, ws, hs, rw', r, s', e1, e2⟩ => by
    cases rw' with
    | nil => cases e1
    | @cons w v ws vs r0 rr =>
      refine ⟨v, vs, rfl, F, A, G, s, w, hs, r0, ?_⟩
      have e1 : bnd (g w) (fun _ => h ws) s = some (r, s') := e1
      cases hf : g w s with
      | none => rw [bnd_no hf] at e1; cases e1
      | some q =>
        obtain ⟨r1, s1⟩ := q
        refine ⟨r1, s1, rfl, ?_⟩
        cases r1 with
        | error x => rw [bnd_er hf] at e1; cases e1; exact e2
        | ok u =>
          rw [bnd_ok hf] at e1
          intro σ1 F1 A1 H1 ee pp hs1
          refine ⟨F1, A1, G, s1, ws, hs1, RepWs.mono ee pp rr, r, s', e1, ?_⟩
          cases r with
          | error x => exact T.mono ee pp e2
          | ok u => exact fun σ2 F2 A2 H2 e3 p3 hs2 => e2 σ2 F2 A2 H2 (ee.trans e3) (pp.trans p3) hs2
def gTp (n : Nat) (g : List W → Mo Unit) (w : W) : Mo Unit := match asT w with
  | some ds => if ds.length = n then g (ds.map .fz) else fun _ => none
  | none => fun _ => none
theorem reps_fz : ∀ {ds : List D} {vs : List V}, Reps K F ds vs → RepWs K F A (ds.map .fz) vs
  | _, _, .nil => .nil
  | _, _, .cons h r => .cons (.fz h) (reps_fz r)
theorem tup_in {w : W} {v : V} {ds : List D} (r : RepW K F A w v) (h : asT w = some ds) : ∃ a vs, v = .ref a ∧ SqT K F a vs ∧ Reps K F ds vs := by
  cases r with
  | fz r =>
    cases r <;> first
      | (cases h; done)
      | skip
    case tup a vs ds' hs hr => cases h; exact ⟨a, vs, rfl, hs, hr⟩
  | ob ha => cases h
  | ad => cases h
theorem pd_gTp {es : List Expr} {k : Nat} {pos : Pos} {n : Nat} {g : List W → Mo Unit} (hc : X.calm = true) (h : PGs X es (tGs X.K C T g))
    (hn : (assignEach es X.env).length = n := by rfl) (hst : (assignEach es X.env).findIdx? (·.1) = none := by rfl) : PG X (.Tuple es k pos) (tG X.K C T (gTp n g)) :=
  (pg_tup hc h hn hst).imp fun v σ H Q ⟨F, A, G, s, w, hs, rw', r, s', e1, e2⟩ => by
    unfold gTp at e1
    cases hd : asT w with
    | none => rw [hd] at e1; cases e1
    | some ds =>
      rw [hd] at e1
      simp only at e1
      by_cases hl : ds.length = n
      · rw [if_pos hl] at e1
        obtain ⟨a, vs, rfl, h1, h2⟩ := tup_in rw' hd
        exact ⟨a, vs, rfl, hs.mem.ex.st h1, by rw [← h2.length]; exact hl, F, A, G, s, _, hs, reps_fz h2, r, s', e1, e2⟩
      · rw [if_neg hl] at e1; cases e1
/-- o[i] = .. -/
def gSb (f g : Mo W) (w : W) : Mo Unit := bnd f fun o => bnd g fun i => fun s => match stO s.m o i w with
  | some M => some (.ok (), { s with m := M })
  | none => none
theorem pd_gSb {o i : Expr} {pos : Pos} {f g : Mo W} (hu : X.A.units + 1 < cLine) (ho : PE X o (tE X.K C T f)) (hi : PE X i (tE X.K C T g))
    (ha : ∀ v, assign (.Subscript o i pos) X.env v = (do
      let ov ← holding [v] (eval o X.env)
      let iv ← holding [v, ov] (eval i X.env)
      standAt pos
      holding [v, ov, iv] (setItem ov iv v)
      release [v, ov, iv] []) := by intro _; rfl) : PG X (.Subscript o i pos) (tG X.K C T (gSb f g)) :=
  (pg_sub ho hi (cSet hu) ha).imp fun v σ H Q ⟨F, A, G, s, w, hs, rw', r, s', e1, e2⟩ => by
    have hq : Out X.K C T (fun _ _ (_ : Unit) (_ : Unit) => True) F A G (gSb f g w s) σ (fun _ H' => Q σ H') := ⟨r, s', e1, by
      cases r with
      | error x => exact e2
      | ok u => exact fun b F2 A2 H2 a1 a2 a3 _ => e2 σ F2 A2 H2 a1 a2 a3⟩
    refine rd_go hs hq fun x F1 A1 H1 s1 w1 ee1 pp1 hs1 rx hq1 => rd_go hs1 hq1 fun y F2 A2 H2 s2 w2 ee2 pp2 hs2 ry hq2 => ?_
    obtain ⟨r3, s3, h1, h2⟩ := hq2
    split at h1
    · rename_i M hM
      cases h1
      exact st_ok hs2.mem (rx.mono ee2 pp2) ry ((rw'.mono ee1 pp1).mono ee2 pp2) hM fun H' sm => h2 () F2 A2 H' (Ex.refl _) (List.prefix_refl _) (hs2.of (Ex.refl _) (List.prefix_refl _) sm) trivial
    · cases h1
/-- target = value -/
def asgS (f : Mo W) (g : W → Mo Unit) : Mo Fl := bnd f fun w => bnd (g w) fun _ => nxS
theorem asg_rd {f : Mo W} {g : W → Mo Unit} {D : Ends} (h : tS K C T (asgS f g) D σ H) : tAsg (tE K C T f) (tG K C T g) D σ H := by
  obtain ⟨F, A, G, s, hs, hq⟩ := h
  exact rdS_go hs hq fun x F1 A1 H1 s1 w1 _ _ hs1 rx hq1 => hq1.tgt hs1 rx fun F2 A2 H2 s2 σ2 e2 p2 hs2 hq2 => hq2.nx hs2
theorem pd_asg {tg e : Expr} {pos : Pos} {f : Mo W} {g : W → Mo Unit} (he : PE X e (tE X.K C T f)) (hg : PG X tg (tG X.K C T g)) (hs : swapsWithSole [tg] e pos.line X.env = pure false := by rfl) (hw : swappedStores [tg] e X.env = pure none := by rfl)
    (h1 : (assignEach [tg] X.env).map (·.2) = [assign tg X.env] := by rfl) : PS X (.Assign [tg] e pos) (tS X.K C T (asgS f g)) :=
  (ps_asg he hg hs hw h1).imp fun D σ H h => asg_rd h
theorem pd_set {i : Nat} {x : Str} {e : Expr} {pos pos' : Pos} {f : Mo W} (hN : X.N.Nodup) (hi : X.N[i]? = some x) (hx : Loc X.env.scope x) (he : PE X e (tE X.K C T f)) (hs : swapsWith e (some (.Name x pos')) pos.line X.env = pure false := by rfl) (hf : X.fn x = true ∨ X.env.scope.names.lookup x = some .local := by first | exact .inl rfl | exact .inr rfl | assumption) :
    PS X (.Assign [.Name x pos'] e pos) (tS X.K C T (asgS f (gNm i))) :=
  (ps_set hN hi hx he hs hf).imp fun D σ H ⟨F, A, G, s, hs, hq⟩ => rdS_go hs hq fun x F1 A1 H1 s1 w1 _ _ hs1 rx hq1 => by
    have hq2 : OutS X.K C T F1 A1 G (ret .nx (setR s1 i w1)) D := hq1
    exact hq2.nx (hs1.set rx)
/-- o[i] = value -/
def putS (v o i : Mo W) : Mo Fl := asgS v (gSb o i)
theorem pd_put {o i value : Expr} {pos pos' : Pos} {fv fo fi : Mo W} (hu : X.A.units + 1 < cLine) (hv : PE X value (tE X.K C T fv)) (ho : PE X o (tE X.K C T fo)) (hi : PE X i (tE X.K C T fi)) (hs : swapsWithSole [.Subscript o i pos'] value pos.line X.env = pure false := by rfl) (hw : swappedStores [.Subscript o i pos'] value X.env = pure none := by rfl)
    (ha : ∀ v, assign (.Subscript o i pos') X.env v = (do
      let ov ← holding [v] (eval o X.env)
      let iv ← holding [v, ov] (eval i X.env)
      standAt pos'
      holding [v, ov, iv] (setItem ov iv v)
      release [v, ov, iv] []) := by intro _; rfl)
    (h1 : (assignEach [.Subscript o i pos'] X.env).map (·.2) = [assign (.Subscript o i pos') X.env] := by rfl) : PS X (.Assign [.Subscript o i pos'] value pos) (tS X.K C T (putS fv fo fi)) :=
  pd_asg hv (pd_gSb hu ho hi ha) hs hw h1
/-- a, b = x, y -/
def parS (i j : Nat) (f : Mo (List W)) : Mo Fl := bnd f fun ws => fun s => match ws with
  | [v, w] => some (.ok .nx, setR (setR s i v) j w)
  | _ => none
theorem pd_par {i j : Nat} {x y : Str} {a b : Expr} {px py pt pos : Pos} {kt k2 pt2} {f : Mo (List W)} (hc : X.calm = true) (hN : X.N.Nodup) (hi : X.N[i]? = some x) (hj : X.N[j]? = some y) (hij : i ≠ j)
    (hx : X.env.scope.names.lookup x = some .local) (hy : X.env.scope.names.lookup y = some .local) (ha : PA X [a, b] (tA X.K C T f))
    (hw : swappedStores [.Tuple [.Name x px, .Name y py] kt pt] (.Tuple [a, b] k2 pt2) X.env = pure (some [x, y]))
    (hs : swapsWithSole [.Tuple [.Name x px, .Name y py] kt pt] (.Tuple [a, b] k2 pt2) pos.line X.env = pure false := by rfl) :
    PS X (.Assign [.Tuple [.Name x px, .Name y py] kt pt] (.Tuple [a, b] k2 pt2) pos) (tS X.K C T (parS i j f)) :=
  (ps_par hc hN hi hj hij hx hy ha hw hs).imp fun D σ H ⟨F, A, G, s, hs, hq⟩ => rdS_go hs hq fun xs F1 A1 H1 s1 ws _ _ hs1 rx hq1 => by
    obtain ⟨r, s', h1, h2⟩ := hq1
    split at h1
    · cases h1
      obtain ⟨v, w, rfl, r1, r2⟩ := rWs2 rx
      exact ⟨v, w, rfl, h2 _ F1 A1 H1 (Ex.refl _) (List.prefix_refl _) ((hs1.set r1).set r2)⟩
    · cases h1
/-- name op= e -/
def augS (i : Nat) (o : List MO → W → W → Option W) (f : Mo W) : Mo Fl := bnd (nm i) fun x => bnd f fun y => fun s => match o s.m x y with
  | some w => some (.ok .nx, setR s i w)
  | none => none
theorem pd_aug {i : Nat} {x : Str} {e : Expr} {op : Operator} {pos pos' : Pos} {r : R2} {o : List MO → W → W → Option W} {f : Mo W} (hN : X.N.Nodup) (hi : X.N[i]? = some x) (hx : Loc X.env.scope x) (ho : OpR X (inplaceOp op) r) (so : Snd2 X.K C r o) (he : PE X e (tE X.K C T f)) (hf : X.fn x = true ∨ X.env.scope.names.lookup x = some .local := by first | exact .inl rfl | exact .inr rfl | assumption) :
    PS X (.AugAssign (.Name x pos') op e pos) (tS X.K C T (augS i o f)) :=
  (ps_aug (ti := r) hN hi hx he ho hf).imp fun D σ H ⟨F, A, G, s, hs, r, s', h1, h2⟩ => by
    unfold augS at h1
    cases hn : nm i s with
    | none => rw [bnd_no hn] at h1; cases h1
    | some q =>
      obtain ⟨rr, s0⟩ := q
      unfold nm at hn
      split at hn
      · rename_i w hw
        cases hn
        obtain ⟨v, e1, e2⟩ := hs.slot i w hw
        refine ⟨v, e1, ?_⟩
        have hq : OutS X.K C T F A G (bnd f (fun y s => match o s.m w y with
          | some w => some (.ok .nx, setR s i w)
          | none => none) s) D := ⟨r, s', by
            have e0 : nm i s = some (.ok w, s) := by unfold nm; rw [hw]
            rw [bnd_ok e0] at h1
            exact h1, h2⟩
        refine rdS_go hs hq fun y F1 A1 H1 s1 w1 ee1 pp1 hs1 ry hq1 => ?_
        obtain ⟨r', s2, h3, h4⟩ := hq1
        split at h3
        · rename_i w2 hw2
          cases h3
          exact so hs1.mem (e2.mono ee1 pp1) ry hw2 fun z F2 H2 ee2 sm2 rz => h4 _ F2 A1 H2 ee2 (List.prefix_refl _) ((hs1.of ee2 (List.prefix_refl _) sm2).set rz)
        · cases h3
      · cases hn
def rIaddX : R2 := fun x y H Q => rI0 (fun i j => .int (i + j)) x y H Q ∨ (∃ i j, x = .str i ∧ y = .str j ∧ i.length + j.length ≤ sizeLine ∧ Q (.str (i ++ j)) H)
theorem cIadd : OpR X (inplaceOp .Add) rIaddX := iop_add.or iop_add_str
def iaddO (_ : List MO) : W → W → Option W
  | .fz (.int i), .fz (.int j) => some (.fz (.int (i + j)))
  | .fz (.str x), .fz (.str y) => if x.length + y.length ≤ LIM then some (.fz (.str (x ++ y))) else none
  | _, _ => none
theorem sIadd : Snd2 K C rIaddX iaddO := by
  intro F A G M H w1 w2 w x y Q m r1 r2 h q
  unfold iaddO at h
  split at h
  · cases h
    exact .inl ⟨_, _, rInt r1, rInt r2, m.old (.fz (.int _)) q⟩
  · split at h
    · rename_i hl
      cases h
      exact .inr ⟨_, _, rStr r1, rStr r2, lim_ok hl, m.old (.fz (.str _)) q⟩
    · cases h
  · cases h

/-! ### while -/
def whL : Nat → Mo Bool → Mo Fl → Mo Fl
  | 0, _, _ => fun _ => none
  | n + 1, c, b => bnd c fun k => if k then (fun s => match b s with
      | some (.ok .nx, s1) => whL n c b s1
      | some (.ok .ct, s1) => whL n c b s1
      | some (.ok .bk, s1) => some (.ok .nx, s1)
      | r => r) else nxS
theorem pd_while {c : Expr} {body : List Stmt} {pos : Pos} {fc : Mo Bool} {fb : Mo Fl} {n : Nat} (hp : PassesOwn (model X.prog X.w) X.A X.env X.xe) (hc : PT X c (tT X.K C T fc)) (hb : PSs X body (tS X.K C T fb)) : PS X (.While c body [] pos) (tS X.K C T (whL n fc fb)) :=
  (ps_while hp hc hb).imp fun D σ H ⟨F, A, G, s, hs, hq⟩ => by
    refine ⟨fun m σ1 H1 => ∃ F1 A1 s1, Sim X.K C F1 A1 G s1 σ1 H1 ∧ OutS X.K C T F1 A1 G (whL m fc fb s1) D, ⟨n, F, A, s, hs, hq⟩, fun m σ1 H1 ⟨F1, A1, s1, hs1, hq1⟩ => ?_⟩
    cases m with
    | zero => obtain ⟨_, _, h1, _⟩ := hq1; cases h1
    | succ m =>
      refine rdS_go hs1 hq1 fun x F2 A2 H2 s2 w2 e2 p2 hs2 rx hq2 => ?_
      cases rx
      cases x with
      | false => exact hq2.nx hs2
      | true =>
        simp only [if_true] at hq2 ⊢
        refine ⟨fun σ' H' => ∃ F1 A1 s1, Sim X.K C F1 A1 G s1 σ' H' ∧ OutS X.K C T F1 A1 G (whL m fc fb s1) D, fun σ' H' h => ⟨m, Nat.lt_succ_self m, h⟩, F2, A2, G, s2, hs2, ?_⟩
        obtain ⟨r, s3, h1, h2⟩ := hq2
        cases hf : fb s2 with
        | none => rw [hf] at h1; cases h1
        | some q =>
          obtain ⟨r1, s4⟩ := q
          rw [hf] at h1
          refine ⟨r1, s4, rfl, ?_⟩
          rcases r1 with x | f1
          · cases h1; exact h2
          · cases f1 with
            | nx => exact fun σ' F' A' H' e p hs' => ⟨F', A', s4, hs', OutS.mono e p ⟨r, s3, h1, h2⟩⟩
            | ct => exact fun σ' F' A' H' e p hs' => ⟨F', A', s4, hs', OutS.mono e p ⟨r, s3, h1, h2⟩⟩
            | bk => cases h1; exact h2
            | rt w => cases h1; exact h2
end
end PD

/-! PDj: what is walked; for; comprehensions. -/
noncomputable section
namespace PD
open PySem L2 PyProof.Rows
/-- what is walked: its values, and what must be true of the memory meanwhile -/
structure Wk where
  ws : List W
  ok : List MO → Bool
def Wk.of (ws : List W) : Wk := ⟨ws, fun _ => true⟩
/-- an iterator that gives these values, whatever else happens -/
structure Serv (K : PySem.W.Frag) (C : Nat → Addr) (F : Hp) (A : List Addr) (G : Hp) (J : It) (k : Wk) : Prop where
  go : ∀ {F2 : Hp} {A2 : List Addr} {G2 : Hp} {M : List MO} {H : Hp} {i : Nat} {w : W}, Ex F F2 → A <+: A2 → Ex G G2 → SimM K C F2 A2 G2 M H → k.ok M = true → k.ws[i]? = some w → J.go i H ∧ ∀ x H', J.yld i H x H' → ∃ F3, Ex F2 F3 ∧ SimM K C F3 A2 G2 M H' ∧ RepW K F3 A2 w x
  stop : ∀ {F2 : Hp} {A2 : List Addr} {G2 : Hp} {M : List MO} {H : Hp} {i : Nat}, Ex F F2 → A <+: A2 → Ex G G2 → SimM K C F2 A2 G2 M H → k.ok M = true → k.ws.length ≤ i → J.stop i H
def tIt (K : PySem.W.Frag) (C : Nat → Addr) (T : XT) (f : Mo Wk) : TI := fun σ H R => ∃ F A G s, Sim K C F A G s σ H ∧ ∃ r s', f s = some (r, s') ∧ match r with
  | .ok ws => ∀ J F' A' G' H', Ex F F' → A <+: A' → Ex G G' → Sim K C F' A' G' s' σ H' → Serv K C F' A' G' J ws → R J H'
  | .error e => T.p F A G e s'
section
variable {K : PySem.W.Frag} {C : Nat → Addr} {T : XT} {F F' G G' : Hp} {A A' : List Addr} {s s1 : S} {σ : L2.St} {H : Hp}
/-- the list is as it was -/
def okL (M : List MO) (n : Nat) (ds : List D) : Bool := @decide (M[n]? = some (MO.lst ds)) (Classical.propDecidable _)
theorem okL_iff {M : List MO} {n : Nat} {ds : List D} : okL M n ds = true ↔ M[n]? = some (.lst ds) := by
  unfold okL
  exact @decide_eq_true_iff _ (Classical.propDecidable _)
/-- the values of what is walked, from the expression's value -/
def walkV (M : List MO) (w : W) : Option Wk := match w with
  | .fz (.lst ds) => some (Wk.of (ds.map .fz))
  | .fz (.sl ds) => some (Wk.of (ds.map .fz))
  | .fz (.tup ds) => some (Wk.of (ds.map .fz))
  | .fz (.str x) => some (Wk.of (x.cps.toList.map fun c => .fz (.str ⟨#[c]⟩)))
  | .fz (.dK kvs) => some (Wk.of (kvs.map fun kv => .fz (kD kv.1)))
  | .ob n => match M[n]? with
    | some (.lst ds) => some ⟨ds.map .fz, fun M' => okL M' n ds⟩
    | _ => none
  | _ => none
/-- by a value -/
def rWalk (X : Cx) : V → Hp → (It → Hp → Prop) → Prop := fun x H R =>
  (∃ a xs, x = .ref a ∧ SqL X.K H a xs ∧ R (Itl X.K a) H) ∨ (∃ a xs, x = .ref a ∧ SqT X.K H a xs ∧ R (Itt X.K a) H) ∨ (∃ z, x = .str z ∧ R (Its z) H) ∨
  (∃ d kvs, x = .ref d ∧ ((H d = some (.dK kvs) ∧ ∀ o, R (Itk d o kvs) (upd H d (.frz o (.dK kvs)))) ∨ ∃ o, H d = some (.frz o (.dK kvs)) ∧ R (Itk d o kvs) H))
def iWalk (X : Cx) (te : TE) : TI := fun σ H R => te σ H fun x H1 => rWalk X x H1 R
theorem pi_walk {X : Cx} {tg e : Expr} {te : TE} (he : PE X e te) : PI X tg e (iWalk X te) := by
  refine ⟨fun pins s σ H R I h => ?_⟩
  refine thn (he.run pins s σ H _ I h) fun v s1 ⟨x, H1, I1, r1, q⟩ => ?_
  have keys : ∀ {H2 : Hp} {d : Addr} {o : Obj} {kvs : List (Key × V)}, Inv X pins σ H2 s1 → H2 d = some (.frz o (.dK kvs)) → R (Itk d o kvs) H2 → wpAny (model X.prog X.w) X.A (pyIter (.ref d)) (PIE X pins σ tg R) X.xe s1 := fun {H2 d o kvs} I2 hd q => by
    obtain ⟨k1, k2, k3, es, ep, vs, k4, k5, kv, hm⟩ := I2.frzK hd
    exact iter_keys k1 k2 k3 k4 (pi_one (tk := s1.toks) I2 _ (turn_keys _ k4) ⟨_, Heap.get?_push_size _ rfl, rfl, by rw [k5] <;> rfl⟩ q)
  rcases q with ⟨a, xs, rfl, hq, q⟩ | ⟨a, xs, rfl, hq, q⟩ | ⟨z, rfl, q⟩ | ⟨d, kvs, rfl, ⟨hd, q⟩ | ⟨o, hd, q⟩⟩
  · cases r1
    obtain ⟨its, rv, p, hz⟩ := I1.list hq
    exact wpAny_pyIter_list p.isList (pi_one (tk := s1.toks) I1 _ (turn_list a _) ⟨_, Heap.get?_push_size _ rfl, rfl, rfl⟩ q)
  · cases r1
    obtain ⟨its, rv, p, hz⟩ := I1.tuple hq
    exact wpAny_pyIter_tuple (show s1.heap.IsTuple a its.toArray from p) (pi_one (tk := s1.toks) I1 _ (turn_tuple a _) ⟨_, Heap.get?_push_size _ rfl, rfl, rfl⟩ q)
  · obtain ⟨t, rfl⟩ := r1
    cases ha : z.cps.all (· < 128)
    · exact wpAny_pyIter_wide ha (pi_one (tk := s1.toks) I1 _ (turn_str _ z t "str_iterator" (.inr rfl)) ⟨_, Heap.get?_push_size _ rfl, rfl, rfl⟩ q)
    · exact wpAny_pyIter_ascii ha (pi_one (tk := s1.toks) I1 _ (turn_str _ z t "str_ascii_iterator" (.inl rfl)) ⟨_, Heap.get?_push_size _ rfl, rfl, rfl⟩ q)
  · obtain rfl : v = Value.ref d := r1
    obtain ⟨od, I2⟩ := I1.lock hd trivial
    exact keys I2 upd_same (q od)
  · obtain rfl : v = Value.ref d := r1
    exact keys I1 hd q
/-- the frozen dict at d is locked, and guarded so -/
theorem SimM.lockG {M : List MO} (m : SimM K C F A G M H) {d : Addr} {u : HO} (hF : F d = some u) (hu : isD u = true) (hH : H d = some u) (o : Obj) : ∃ G', Ex G G' ∧ G' d = some (.frz o u) ∧ SimM K C F A G' M (upd H d (.frz o u)) := by
  have hG : G d = none := by
    cases hg : G d with
    | none => rfl
    | some g =>
      have h1 := m.gF d u hF g hg
      have h2 := m.gd d g hg
      rw [hH] at h2
      cases h2
      cases u <;> first | (simp [isD] at hu; done) | (simp [isFrz] at h1; done)
  have nA : ∀ {n : Nat} {a : Addr} {mo : MO}, A[n]? = some a → M[n]? = some mo → isDead mo = false → a ≠ d := fun e1 e2 e3 z => by
    have := (m.own _ _ _ e1 e2 e3).1
    rw [z, hF] at this; cases this
  refine ⟨upd G d (.frz o u), Ex.new hG, upd_same, fun a v e => ?_, fun a v e => ?_, m.len, m.nd, fun n a mo e1 e2 => ?_, fun n a mo e1 e2 e3 => ?_, fun a v e o2 g => ?_, fun a ha o2 g => ?_⟩
  · by_cases ha : a = d
    · subst ha
      rw [hF] at e; cases e
      exact .inr ⟨hu, o, upd_same⟩
    · rw [upd_ne ha]; exact m.ex a v e
  · by_cases ha : a = d
    · subst ha
      rw [upd_same] at e ⊢; exact e
    · rw [upd_ne ha] at e ⊢; exact m.gd a v e
  · cases hm : isDead mo with
    | true => 
      cases mo <;> first | cases hm | skip
      by_cases ha : a = d
      · exact ⟨_, by rw [ha]; exact upd_same, trivial⟩
      · obtain ⟨v, h1, h2⟩ := m.ob n a _ e1 e2
        exact ⟨v, by rw [upd_ne ha]; exact h1, h2⟩
    | false =>
      obtain ⟨v, h1, h2⟩ := m.ob n a _ e1 e2
      exact ⟨v, by rw [upd_ne (nA e1 e2 hm)]; exact h1, h2⟩
  · obtain ⟨h1, h2⟩ := m.own n a mo e1 e2 e3
    exact ⟨h1, by rw [upd_ne (nA e1 e2 e3)]; exact h2⟩
  · by_cases ha : a = d
    · subst ha
      rw [upd_same] at g; cases g; rfl
    · rw [upd_ne ha] at g; exact m.gF a v e o2 g
  · by_cases h : a = d
    · subst h
      rw [upd_same] at g; cases g; rfl
    · rw [upd_ne h] at g; exact m.gA a ha o2 g
/-- .. it was locked already -/
theorem SimM.lockG' {M : List MO} (m : SimM K C F A G M H) {d : Addr} {u : HO} {o : Obj} (hF : F d = some u) (hu : isD u = true) (hH : H d = some (.frz o u)) : ∃ G', Ex G G' ∧ G' d = some (.frz o u) ∧ SimM K C F A G' M H := by
  cases hg : G d with
  | some g =>
    have h2 := m.gd d g hg
    rw [hH] at h2
    cases h2
    exact ⟨G, Ex.refl G, hg, m⟩
  | none =>
    refine ⟨upd G d (.frz o u), Ex.new hg, upd_same, m.ex, fun a v e => ?_, m.len, m.nd, m.ob, fun n a mo e1 e2 e3 => ?_, fun a v e o2 g => ?_, fun a ha o2 g => ?_⟩
    · by_cases ha : a = d
      · subst ha
        rw [upd_same] at e; cases e; exact hH
      · rw [upd_ne ha] at e; exact m.gd a v e
    · obtain ⟨h1, h2⟩ := m.own n a mo e1 e2 e3
      exact ⟨h1, by rw [upd_ne (fun z => by rw [z, hF] at h1; cases h1)]; exact h2⟩
    · by_cases ha : a = d
      · subst ha
        rw [upd_same] at g; cases g; rfl
      · rw [upd_ne ha] at g; exact m.gF a v e o2 g
    · by_cases h : a = d
      · subst h
        rw [upd_same] at g; cases g; rfl
      · rw [upd_ne h] at g; exact m.gA a ha o2 g
theorem getD {α β : Type} {f : α → β} {l : List α} {i : Nat} {w : β} (h : (l.map f)[i]? = some w) : ∃ a, l[i]? = some a ∧ w = f a := by
  rw [List.getElem?_map] at h
  obtain ⟨a, h1, h2⟩ := Option.map_eq_some_iff.mp h
  exact ⟨a, h1, h2.symm⟩
theorem serv_list {a : Addr} {vs : List V} {ds : List D} (h : SqL K F a vs) (r : Reps K F ds vs) : Serv K C F A G (Itl K a) (Wk.of (ds.map .fz)) where
  go := fun {F2 A2 G2 M H i w} e p eg m ok hw => by
    obtain ⟨d, hd, rfl⟩ := getD hw
    obtain ⟨v, hv, rv⟩ := r.get hd
    have hq : SqL K H a vs := m.ex.sl (e.sl h)
    refine ⟨⟨vs, v, hq, hv⟩, fun x H' y => ?_⟩
    obtain ⟨rfl, y⟩ := y
    have := y vs hq
    rw [hv] at this
    cases this
    exact ⟨F2, Ex.refl _, m, .fz (rv.mono e)⟩
  stop := fun {F2 A2 G2 M H i} e p eg m ok hi => ⟨vs, m.ex.sl (e.sl h), by rw [← r.length]; simpa [Wk.of] using hi⟩
theorem serv_ob {a : Addr} {n : Nat} {ds : List D} (h : A[n]? = some a) : Serv K C F A G (Itl K a) ⟨ds.map .fz, fun M' => okL M' n ds⟩ where
  go := fun {F2 A2 G2 M H i w} e p eg m ok hw => by
    obtain ⟨d, hd, rfl⟩ := getD hw
    obtain ⟨o, ho, vs, rfl, r⟩ := m.ob n a _ (pre_get p h) (okL_iff.mp ok)
    obtain ⟨v, hv, rv⟩ := r.get hd
    have hq : SqL K H a vs := .inl (.inl ho)
    refine ⟨⟨vs, v, hq, hv⟩, fun x H' y => ?_⟩
    obtain ⟨rfl, y⟩ := y
    have := y vs hq
    rw [hv] at this
    cases this
    exact ⟨F2, Ex.refl _, m, .fz rv⟩
  stop := fun {F2 A2 G2 M H i} e p eg m ok hi => by
    obtain ⟨o, ho, vs, rfl, r⟩ := m.ob n a _ (pre_get p h) (okL_iff.mp ok)
    exact ⟨vs, .inl (.inl ho), by rw [← r.length]; simpa [Wk.of] using hi⟩
theorem serv_tup {a : Addr} {vs : List V} {ds : List D} (h : SqT K F a vs) (r : Reps K F ds vs) : Serv K C F A G (Itt K a) (Wk.of (ds.map .fz)) where
  go := fun {F2 A2 G2 M H i w} e p eg m ok hw => by
    obtain ⟨d, hd, rfl⟩ := getD hw
    obtain ⟨v, hv, rv⟩ := r.get hd
    have hq : SqT K H a vs := m.ex.st (e.st h)
    refine ⟨⟨vs, v, hq, hv⟩, fun x H' y => ?_⟩
    obtain ⟨rfl, y⟩ := y
    have := y vs hq
    rw [hv] at this
    cases this
    exact ⟨F2, Ex.refl _, m, .fz (rv.mono e)⟩
  stop := fun {F2 A2 G2 M H i} e p eg m ok hi => ⟨vs, m.ex.st (e.st h), by rw [← r.length]; simpa [Wk.of] using hi⟩
theorem serv_str {z : Str} : Serv K C F A G (Its z) (Wk.of (z.cps.toList.map fun c => .fz (.str ⟨#[c]⟩))) where
  go := fun {F2 A2 G2 M H i w} e p eg m ok hw => by
    obtain ⟨c, hc, rfl⟩ := getD hw
    have hi : i < z.cps.size := by simpa using (List.getElem?_eq_some_iff.mp hc).1
    refine ⟨hi, fun x H' y => ?_⟩
    obtain ⟨rfl, c', hc', rfl⟩ := y
    have : z.cps[i]? = some c := by simpa using hc
    rw [hc'] at this
    cases this
    exact ⟨F2, Ex.refl _, m, .fz (.str _)⟩
  stop := fun {F2 A2 G2 M H i} e p eg m ok hi => by
    show z.cps.size ≤ i
    simpa [Wk.of] using hi
theorem RepK.at : ∀ {ds : List (Key × D)} {vs : List (Key × V)} {i : Nat} {k : Key} {d : D}, RepK K F ds vs → ds[i]? = some (k, d) → ∃ v, vs[i]? = some (k, v) ∧ Rep K F d v
  | _, _, _, _, _, .nil, e => by simp at e
  | _, _, 0, _, _, .cons r _, e => by simp at e; obtain ⟨rfl, rfl⟩ := e; exact ⟨_, rfl, r⟩
  | _, _, i + 1, _, _, .cons _ t, e => by simpa using RepK.at (i := i) t (by simpa using e)
theorem serv_keys {d : Addr} {o : Obj} {vs : List (Key × V)} {kvs : List (Key × D)} (h : G d = some (.frz o (.dK vs))) (r : RepK K F kvs vs) : Serv K C F A G (Itk d o vs) (Wk.of (kvs.map fun kv => .fz (kD kv.1))) where
  go := fun {F2 A2 G2 M H i w} e p eg m ok hw => by
    obtain ⟨⟨k, dd⟩, hd, rfl⟩ := getD hw
    obtain ⟨v, hv, rv⟩ := r.at hd
    refine ⟨⟨m.gd _ _ (eg _ _ h), (List.getElem?_eq_some_iff.mp hv).1⟩, fun x H' y => ?_⟩
    obtain ⟨rfl, k', v', hv', rfl⟩ := y
    rw [hv] at hv'
    cases hv'
    exact ⟨F2, Ex.refl _, m, .fz rep_kD⟩
  stop := fun {F2 A2 G2 M H i} e p eg m ok hi => ⟨m.gd _ _ (eg _ _ h), by rw [← r.length]; simpa [Wk.of] using hi⟩
def walk (f : Mo W) : Mo Wk := bnd f fun w => fun s => ofO (walkV s.m w) s
theorem tIt_go {α β : Type} {Rp : Hp → List Addr → α → β → Prop} {f : Mo α} {k : α → Mo Wk} {R : It → Hp → Prop} {Q : β → Hp → Prop} (h : tIt K C T (bnd f k) σ H R)
    (step : ∀ b F A G H1 s1 a r s', Sim K C F A G s1 σ H1 → Rp F A a b → k a s1 = some (r, s') → (match r with
      | .ok ws => ∀ J F' A' G' H', Ex F F' → A <+: A' → Ex G G' → Sim K C F' A' G' s' σ H' → Serv K C F' A' G' J ws → R J H'
      | .error e => T.p F A G e s') → Q b H1) : rd K C T Rp f σ H Q := by
  obtain ⟨F, A, G, s, hs, r, s', h1, h2⟩ := h
  cases hf : f s with
  | none => rw [bnd_no hf] at h1; cases h1
  | some q =>
    obtain ⟨r1, s1⟩ := q
    refine ⟨F, A, G, s, hs, r1, s1, hf, ?_⟩
    cases r1 with
    | error x => rw [bnd_er hf] at h1; cases h1; exact h2
    | ok a =>
      rw [bnd_ok hf] at h1
      intro b F1 A1 H1 e p hs1 ra
      refine step b F1 A1 G H1 s1 a r s' hs1 ra h1 ?_
      cases r with
      | error x => exact T.mono e p h2
      | ok ws => exact fun J F' A' G' H' e2 p2 => h2 J F' A' G' H' (e.trans e2) (p.trans p2)
theorem Sim.to {H' : Hp} (h : Sim K C F A G s σ H) (m : SimM K C F A G' s.m H') : Sim K C F A G' s σ H' := ⟨m, h.len, h.slot⟩
variable {X : Cx}
theorem pd_walk {tg e : Expr} {f : Mo W} (he : PE X e (tE X.K C T f)) : PI X tg e (tIt X.K C T (walk f)) :=
  (pi_walk he).imp fun σ H R h => tIt_go h fun x F A G H1 s1 w r s' hs rx hk hq => by
    obtain ⟨ws, hw, e⟩ : ∃ ws, walkV s1.m w = some ws ∧ (r, s') = (.ok ws, s1) := by
      unfold ofO at hk
      split at hk
      · rename_i a ha
        exact ⟨a, ha, by cases hk; rfl⟩
      · cases hk
    cases e
    have stay : ∀ J, Serv X.K C F A G J ws → R J H1 := fun J sv => hq J F A G H1 (Ex.refl _) (List.prefix_refl _) (Ex.refl _) hs sv
    unfold walkV at hw
    split at hw
    · cases hw
      cases rx with
      | fz rx => cases rx with
        | lst h1 h2 => exact .inl ⟨_, _, rfl, .inl (.inl (hs.mem.ex.at h1 rfl)), stay _ (serv_list (.inl (.inl h1)) h2)⟩
    · cases hw
      cases rx with
      | fz rx => cases rx with
        | sl h1 h2 => exact .inl ⟨_, _, rfl, hs.mem.ex.sl h1, stay _ (serv_list h1 h2)⟩
    · cases hw
      cases rx with
      | fz rx => cases rx with
        | tup h1 h2 => exact .inr (.inl ⟨_, _, rfl, hs.mem.ex.st h1, stay _ (serv_tup h1 h2)⟩)
    · cases hw
      cases rx with
      | fz rx => cases rx with
        | str => exact .inr (.inr (.inl ⟨_, rfl, stay _ serv_str⟩))
    · cases hw
      cases rx with
      | fz rx => cases rx with
        | @dK d vs _ h1 h2 =>
          refine .inr (.inr (.inr ⟨d, vs, rfl, ?_⟩))
          rcases hs.mem.ex d _ h1 with hH | ⟨_, o, hH⟩
          · refine .inl ⟨hH, fun o => ?_⟩
            obtain ⟨G', g1, g2, g3⟩ := hs.mem.lockG h1 rfl hH o
            exact hq _ F A G' _ (Ex.refl _) (List.prefix_refl _) g1 (hs.to g3) (serv_keys g2 h2)
          · refine .inr ⟨o, hH, ?_⟩
            obtain ⟨G', g1, g2, g3⟩ := hs.mem.lockG' h1 rfl hH
            exact hq _ F A G' _ (Ex.refl _) (List.prefix_refl _) g1 (hs.to g3) (serv_keys g2 h2)
    · split at hw
      · rename_i ds hm
        cases hw
        cases rx with
        | ob ha =>
          obtain ⟨o, ho, vs, rfl, r⟩ := hs.mem.ob _ _ _ ha hm
          exact .inl ⟨_, vs, rfl, .inl (.inl ho), stay _ (serv_ob ha)⟩
      · cases hw
    · cases hw

/-! ### range, items, values, enumerate, zip -/
def rngV (a b : Int) : List W := (List.range (b - a).toNat).map fun (k : Nat) => W.fz (.int (a + (k : Int)))
theorem serv_rng {a b : Int} : Serv K C F A G (Itr a (b - a).toNat) (Wk.of (rngV a b)) where
  go := fun {F2 A2 G2 M H i w} e p eg m ok hw => by
    obtain ⟨k, hk, rfl⟩ := getD hw
    obtain ⟨h1, h2⟩ := List.getElem?_eq_some_iff.mp hk
    have h1 : i < (b - a).toNat := by simpa using h1
    have h2 : i = k := by simpa using h2
    subst h2
    refine ⟨h1, fun x H' y => ?_⟩
    obtain ⟨rfl, rfl⟩ := y
    exact ⟨F2, Ex.refl _, m, .fz (.int _)⟩
  stop := fun {F2 A2 G2 M H i} e p eg m ok hi => by
    have : (rngV a b).length ≤ i := hi
    show (b - a).toNat ≤ i
    simpa [rngV] using this
def bdI (i : Int) : Bool := decide (-(2 ^ 62) ≤ i) && decide (i < 2 ^ 62)
def rng1 (f : Mo (List W)) : Mo Wk := bnd f fun ws => ofO (match ws with
  | [.fz (.int j)] => if bdI j then some (Wk.of (rngV 0 j)) else none
  | _ => none)
def rng2 (f : Mo (List W)) : Mo Wk := bnd f fun ws => ofO (match ws with
  | [.fz (.int i), .fz (.int j)] => if bdI i && bdI j then some (Wk.of (rngV i j)) else none
  | _ => none)
theorem ofO_is {α : Type} {o : Option α} {s : S} {r : Except Exc α} {s' : S} (h : ofO o s = some (r, s')) : ∃ a, o = some a ∧ r = .ok a ∧ s' = s := by
  unfold ofO at h
  split at h
  · cases h
    exact ⟨_, rfl, rfl, rfl⟩
  · cases h
theorem bdI_ok {i : Int} (h : bdI i = true) : -(2 ^ 62) ≤ i ∧ i < 2 ^ 62 := by
  unfold bdI at h
  rw [Bool.and_eq_true] at h
  exact ⟨of_decide_eq_true h.1, of_decide_eq_true h.2⟩
theorem pd_rng1 {tg a : Expr} {p pos : Pos} {f : Mo (List W)} (hg : Gl X "range") (hm : X.mg "range" = none) (ha : PA X [a] (tA X.K C T f)) (hs : starEach [a] X.env = [(false, eval a X.env)] := by rfl) : PI X tg (.Call (.Name "range" p) [a] [] pos) (tIt X.K C T (rng1 f)) :=
  (pi_range1 hg hm ha hs).imp fun σ H R h => tIt_go h fun x F A G H1 s1 w r s' hs rx hk hq => by
    obtain ⟨ws, hw, rfl, rfl⟩ := ofO_is hk
    split at hw
    · split at hw
      · rename_i j hj
        cases hw
        obtain ⟨v, rfl, rv⟩ := rWs1 rx
        obtain ⟨h1, h2⟩ := bdI_ok hj
        refine ⟨j, by rw [rInt rv], h1, h2, ?_⟩
        have e : j.toNat = (j - 0).toNat := by rw [Int.sub_zero]
        rw [e]
        exact hq _ F A G H1 (Ex.refl _) (List.prefix_refl _) (Ex.refl _) hs serv_rng
      · cases hw
    · cases hw
theorem pd_rng2 {tg a b : Expr} {p pos : Pos} {f : Mo (List W)} (hg : Gl X "range") (hm : X.mg "range" = none) (ha : PA X [a, b] (tA X.K C T f)) (hs : starEach [a, b] X.env = [(false, eval a X.env), (false, eval b X.env)] := by rfl) (hs2 : starEach [b] X.env = [(false, eval b X.env)] := by rfl) : PI X tg (.Call (.Name "range" p) [a, b] [] pos) (tIt X.K C T (rng2 f)) :=
  (pi_range2 hg hm ha hs hs2).imp fun σ H R h => tIt_go h fun x F A G H1 s1 w r s' hs rx hk hq => by
    obtain ⟨ws, hw, rfl, rfl⟩ := ofO_is hk
    split at hw
    · split at hw
      · rename_i i j hj
        cases hw
        rw [Bool.and_eq_true] at hj
        obtain ⟨u, v, rfl, ru, rv⟩ := rWs2 rx
        obtain ⟨h1, h2⟩ := bdI_ok hj.1
        obtain ⟨h3, h4⟩ := bdI_ok hj.2
        exact ⟨i, j, by rw [rInt ru, rInt rv], ⟨h1, h2, h3, h4⟩, hq _ F A G H1 (Ex.refl _) (List.prefix_refl _) (Ex.refl _) hs serv_rng⟩
      · cases hw
    · cases hw
/-- d.items() under a lock laid here -/
def iItL (te : TE) : TI := fun σ H R => te σ H fun x H1 => ∃ d kvs, x = .ref d ∧ ((H1 d = some (.dK kvs) ∧ ∀ o, R (Iti d o kvs) (upd H1 d (.frz o (.dK kvs)))) ∨ ∃ o, H1 d = some (.frz o (.dK kvs)) ∧ R (Iti d o kvs) H1)
def iVaL (te : TE) : TI := fun σ H R => te σ H fun x H1 => ∃ d kvs, x = .ref d ∧ ((H1 d = some (.dK kvs) ∧ ∀ o, R (Itd d o kvs) (upd H1 d (.frz o (.dK kvs)))) ∨ ∃ o, H1 d = some (.frz o (.dK kvs)) ∧ R (Itd d o kvs) H1)
theorem locked {X : Cx} {pins : List (Addr × Obj)} {σ : L2.St} {H : Hp} {s : Shared} {d : Addr} {kvs : List (Key × V)} {B : Obj → Hp → Prop} (I : Inv X pins σ H s) (h : (H d = some (.dK kvs) ∧ ∀ o, B o (upd H d (.frz o (.dK kvs)))) ∨ ∃ o, H d = some (.frz o (.dK kvs)) ∧ B o H) :
    ∃ o H2, Inv X pins σ H2 s ∧ H2 d = some (.frz o (.dK kvs)) ∧ B o H2 := by
  rcases h with ⟨h, q⟩ | ⟨o, h, q⟩
  · obtain ⟨od, I2⟩ := I.lock h trivial
    exact ⟨od, _, I2, upd_same, q od⟩
  · exact ⟨o, H, I, h, q⟩
theorem pi_itL {e : Expr} {te : TE} {apos cpos : Pos} {elts : List Expr} {kk : Nat} {tpos : Pos} (he : PE X e te) (hbase : attributeBase e "items" X.env (eval e X.env) = eval e X.env := by rfl) (hline : (apos.endLine == cpos.line) = true := by rfl) :
    PI X (.Tuple elts kk tpos) (.Call (.Attribute e "items" apos) [] [] cpos) (iItL te) := by
  refine ⟨fun pins s σ H R I h => ?_⟩
  refine wpAny_Call_method (T := "dict") (id := "dict.items") hbase rfl hline F.plainAttrs_dict F.slot_dict_items F.type_dict_items (thn (he.run pins s σ H _ I h) fun u s1 ⟨x, H1, I1, rx, d, kvs, ex, q⟩ => ?_)
  subst ex
  obtain rfl : u = Value.ref d := rx
  obtain ⟨o, H2, I2, hd, q⟩ := locked (B := fun o H' => R (Iti d o kvs) H') I1 q
  obtain ⟨k1, _, _, es, ep, vs, k4, _, kv, hm⟩ := I2.frzK hd
  refine ⟨hm.dictOf.typeIs, hm.dictOf.mapOf.noDict, ?_⟩
  have I3 := I2.kept (h' := s1.heap.push { cls := .type "dict_items", data := .fields #[.ref d] }) (t' := s1.toks) fun b ob z => Heap.get?_push_of_some _ z
  show wpAny _ _ (callWith cpos (.builtin "dict.items") [.ref d] [] []) _ X.xe s1
  refine method_meetsIn F.slot_dict_items F.entry_dict_items rfl (PySem.evalArgs_none ⟨rfl, hm.dictOf.typeIs, F.args_dict_items_1 _, _, meets_dict_items (mixKind X.prog X.w) d k1, ⟨vs, hm.dictOf⟩, ?_⟩)
  refine wpAny_pyIter_items (d := d) (knd := mixKind X.prog X.w) ⟨_, Heap.get?_push_size _ rfl, rfl, rfl⟩ (hm.push _) (pi_one (tk := s1.toks) I3 _ (turn_items _ k4) ⟨.none, .none, ?_⟩ q)
  have hl := Paired.length kv
  rw [hl]
  exact Heap.get?_push_size _ rfl
theorem pi_vaL {tg e : Expr} {te : TE} {apos cpos : Pos} (he : PE X e te) (hbase : attributeBase e "values" X.env (eval e X.env) = eval e X.env := by rfl) (hline : (apos.endLine == cpos.line) = true := by rfl) :
    PI X tg (.Call (.Attribute e "values" apos) [] [] cpos) (iVaL te) := by
  refine ⟨fun pins s σ H R I h => ?_⟩
  refine wpAny_Call_method (T := "dict") (id := "dict.values") hbase rfl hline F.plainAttrs_dict F.slot_dict_values F.type_dict_values (thn (he.run pins s σ H _ I h) fun u s1 ⟨x, H1, I1, rx, d, kvs, ex, q⟩ => ?_)
  subst ex
  obtain rfl : u = Value.ref d := rx
  obtain ⟨o, H2, I2, hd, q⟩ := locked (B := fun o H' => R (Itd d o kvs) H') I1 q
  obtain ⟨k1, _, _, es, ep, vs, k4, _, kv, hm⟩ := I2.frzK hd
  refine ⟨hm.dictOf.typeIs, hm.dictOf.mapOf.noDict, ?_⟩
  have I3 := I2.kept (h' := s1.heap.push { cls := .type "dict_values", data := .fields #[.ref d] }) (t' := s1.toks) fun b ob z => Heap.get?_push_of_some _ z
  show wpAny _ _ (callWith cpos (.builtin "dict.values") [.ref d] [] []) _ X.xe s1
  refine method_meetsIn F.slot_dict_values F.entry_dict_values rfl (PySem.evalArgs_none ⟨rfl, hm.dictOf.typeIs, F.args_dict_values_1 _, _, meets_dict_values (mixKind X.prog X.w) d k1, ⟨vs, hm.dictOf⟩, ?_⟩)
  refine wpAny_pyIter_values (d := d) (knd := mixKind X.prog X.w) ⟨_, Heap.get?_push_size _ rfl, rfl, rfl⟩ (hm.push _) (pi_one (tk := s1.toks) I3 _ (turn_vals _ k4) ⟨_, Heap.get?_push_size _ rfl, rfl, ?_⟩ q)
  have hl := Paired.length kv
  rw [hl] <;> rfl
theorem serv_items {d : Addr} {o : Obj} {vs : List (Key × V)} {kvs : List (Key × D)} (h : G d = some (.frz o (.dK vs))) (r : RepK K F kvs vs) : Serv K C F A G (Iti d o vs) (Wk.of (kvs.map fun kv => .fz (.tup [kD kv.1, kv.2]))) where
  go := fun {F2 A2 G2 M H i w} e p eg m ok hw => by
    obtain ⟨⟨k, dd⟩, hd, rfl⟩ := getD hw
    obtain ⟨v, hv, rv⟩ := r.at hd
    refine ⟨⟨m.gd _ _ (eg _ _ h), (List.getElem?_eq_some_iff.mp hv).1⟩, fun x H' y => ?_⟩
    obtain ⟨T, k', v', hv', rfl, hT, rfl⟩ := y
    rw [hv] at hv'
    cases hv'
    have ff := (m.fresh hT).1
    exact ⟨_, Ex.new ff, m.allocF hT, .fz (.tup (.inl (.inl upd_same)) (.cons rep_kD (.cons ((rv.mono e).mono (Ex.new ff)) .nil)))⟩
  stop := fun {F2 A2 G2 M H i} e p eg m ok hi => ⟨m.gd _ _ (eg _ _ h), by rw [← r.length]; simpa [Wk.of] using hi⟩
theorem serv_vals {d : Addr} {o : Obj} {vs : List (Key × V)} {kvs : List (Key × D)} (h : G d = some (.frz o (.dK vs))) (r : RepK K F kvs vs) : Serv K C F A G (Itd d o vs) (Wk.of (kvs.map fun kv => .fz kv.2)) where
  go := fun {F2 A2 G2 M H i w} e p eg m ok hw => by
    obtain ⟨⟨k, dd⟩, hd, rfl⟩ := getD hw
    obtain ⟨v, hv, rv⟩ := r.at hd
    refine ⟨⟨m.gd _ _ (eg _ _ h), (List.getElem?_eq_some_iff.mp hv).1⟩, fun x H' y => ?_⟩
    obtain ⟨rfl, k', hv'⟩ := y
    rw [hv] at hv'
    cases hv'
    exact ⟨F2, Ex.refl _, m, .fz (rv.mono e)⟩
  stop := fun {F2 A2 G2 M H i} e p eg m ok hi => ⟨m.gd _ _ (eg _ _ h), by rw [← r.length]; simpa [Wk.of] using hi⟩
def frD : W → Option (List (Key × D))
  | .fz (.dK kvs) => some kvs
  | _ => none
def items (f : Mo W) : Mo Wk := bnd f fun w => ofO ((frD w).map fun kvs => Wk.of (kvs.map fun kv => .fz (.tup [kD kv.1, kv.2])))
def vals (f : Mo W) : Mo Wk := bnd f fun w => ofO ((frD w).map fun kvs => Wk.of (kvs.map fun kv => .fz kv.2))
theorem frD_ok {w : W} {kvs : List (Key × D)} {x : V} (r : RepW K F A w x) (h : frD w = some kvs) : ∃ d vs, x = .ref d ∧ F d = some (.dK vs) ∧ RepK K F kvs vs := by
  cases r with
  | fz r =>
    cases r <;> first
      | (cases h; done)
      | skip
    case dK d vs ds' hs hr => cases h; exact ⟨d, vs, rfl, hs, hr⟩
  | ob ha => cases h
  | ad => cases h
theorem pd_items {e : Expr} {apos cpos : Pos} {elts : List Expr} {kk : Nat} {tpos : Pos} {f : Mo W} (he : PE X e (tE X.K C T f)) (hbase : attributeBase e "items" X.env (eval e X.env) = eval e X.env := by rfl) (hline : (apos.endLine == cpos.line) = true := by rfl) :
    PI X (.Tuple elts kk tpos) (.Call (.Attribute e "items" apos) [] [] cpos) (tIt X.K C T (items f)) :=
  (pi_itL he hbase hline).imp fun σ H R h => tIt_go h fun x F A G H1 s1 w r s' hs rx hk hq => by
    obtain ⟨ws, hw, rfl, rfl⟩ := ofO_is hk
    obtain ⟨kvs, hd, rfl⟩ := Option.map_eq_some_iff.mp hw
    obtain ⟨d, vs, rfl, h1, h2⟩ := frD_ok rx hd
    refine ⟨d, vs, rfl, ?_⟩
    rcases hs.mem.ex d _ h1 with hH | ⟨_, o, hH⟩
    · refine .inl ⟨hH, fun o => ?_⟩
      obtain ⟨G', g1, g2, g3⟩ := hs.mem.lockG h1 rfl hH o
      exact hq _ F A G' _ (Ex.refl _) (List.prefix_refl _) g1 (hs.to g3) (serv_items g2 h2)
    · refine .inr ⟨o, hH, ?_⟩
      obtain ⟨G', g1, g2, g3⟩ := hs.mem.lockG' h1 rfl hH
      exact hq _ F A G' _ (Ex.refl _) (List.prefix_refl _) g1 (hs.to g3) (serv_items g2 h2)
theorem pd_vals {tg e : Expr} {apos cpos : Pos} {f : Mo W} (he : PE X e (tE X.K C T f)) (hbase : attributeBase e "values" X.env (eval e X.env) = eval e X.env := by rfl) (hline : (apos.endLine == cpos.line) = true := by rfl) :
    PI X tg (.Call (.Attribute e "values" apos) [] [] cpos) (tIt X.K C T (vals f)) :=
  (pi_vaL he hbase hline).imp fun σ H R h => tIt_go h fun x F A G H1 s1 w r s' hs rx hk hq => by
    obtain ⟨ws, hw, rfl, rfl⟩ := ofO_is hk
    obtain ⟨kvs, hd, rfl⟩ := Option.map_eq_some_iff.mp hw
    obtain ⟨d, vs, rfl, h1, h2⟩ := frD_ok rx hd
    refine ⟨d, vs, rfl, ?_⟩
    rcases hs.mem.ex d _ h1 with hH | ⟨_, o, hH⟩
    · refine .inl ⟨hH, fun o => ?_⟩
      obtain ⟨G', g1, g2, g3⟩ := hs.mem.lockG h1 rfl hH o
      exact hq _ F A G' _ (Ex.refl _) (List.prefix_refl _) g1 (hs.to g3) (serv_vals g2 h2)
    · refine .inr ⟨o, hH, ?_⟩
      obtain ⟨G', g1, g2, g3⟩ := hs.mem.lockG' h1 rfl hH
      exact hq _ F A G' _ (Ex.refl _) (List.prefix_refl _) g1 (hs.to g3) (serv_vals g2 h2)

/-! ### for -/
def forL (g : W → Mo Unit) (b : Mo Fl) (ok : List MO → Bool) : List W → Mo Fl
  | [] => fun s => if ok s.m = true then some (.ok .nx, s) else none
  | w :: r => fun s => if ok s.m = true then bnd (g w) (fun _ => fun s => match b s with
    | some (.ok .nx, s1) => forL g b ok r s1
    | some (.ok .ct, s1) => forL g b ok r s1
    | some (.ok .bk, s1) => some (.ok .nx, s1)
    | r => r) s else none
def forS (f : Mo Wk) (g : W → Mo Unit) (b : Mo Fl) : Mo Fl := bnd f fun k => forL g b k.ok k.ws
theorem pd_for {tg iter : Expr} {body : List Stmt} {pos : Pos} {f : Mo Wk} {g : W → Mo Unit} {b : Mo Fl} (hp : PassesOwn (model X.prog X.w) X.A X.env X.xe) (hc : X.calm = true) (hi : PI X tg iter (tIt X.K C T f)) (hg : PG X tg (tG X.K C T g)) (hb : PSs X body (tS X.K C T b))
    (hs : ∀ x, foldedSetIterable iter X.env x = pure x := by intro _; rfl) : PS X (.For tg iter body [] pos) (tS X.K C T (forS f g b)) :=
  (ps_for hp hc hi hg hb hs).imp fun D σ H ⟨F, A, G, s, hs, hq⟩ => by
    refine ⟨F, A, G, s, hs, ?_⟩
    cases hf : f s with
    | none =>
      obtain ⟨_, _, h1, _⟩ := hq
      unfold forS at h1
      rw [bnd_no hf] at h1; cases h1
    | some q =>
      obtain ⟨r1, s1⟩ := q
      refine ⟨r1, s1, rfl, ?_⟩
      cases r1 with
      | error x =>
        obtain ⟨_, _, h1, h2⟩ := hq
        unfold forS at h1
        rw [bnd_er hf] at h1; cases h1; exact h2
      | ok kk =>
        obtain ⟨ws, ok⟩ := kk
        intro J F1 A1 G1 H1 e1 p1 g1 hs1 sv
        have hq1 : OutS X.K C T F1 A1 G1 (forL g b ok ws s1) D := by
          refine (OutS.mono e1 p1 ?_).guard g1
          obtain ⟨r, s', h1, h2⟩ := hq
          unfold forS at h1
          rw [bnd_ok hf] at h1
          exact ⟨r, s', h1, h2⟩
        refine ⟨fun i m σ' H' => m = ws.length - i ∧ i ≤ ws.length ∧ ∃ F2 A2 s2, Ex F1 F2 ∧ A1 <+: A2 ∧ Sim X.K C F2 A2 G1 s2 σ' H' ∧ OutS X.K C T F2 A2 G1 (forL g b ok (ws.drop i) s2) D, ⟨_, rfl, Nat.zero_le _, F1, A1, s1, Ex.refl _, List.prefix_refl _, hs1, hq1⟩, ?_⟩
        rintro i m σ2 H2 ⟨rfl, hi, F2, A2, s2, e2, p2, hs2, hq2⟩
        by_cases hlt : i < ws.length
        · rw [List.drop_eq_getElem_cons hlt] at hq2
          obtain ⟨hok, hq2⟩ : ok s2.m = true ∧ OutS X.K C T F2 A2 G1 (bnd (g ws[i]) (fun _ => fun s => match b s with
            | some (.ok .nx, s1) => forL g b ok (ws.drop (i + 1)) s1
            | some (.ok .ct, s1) => forL g b ok (ws.drop (i + 1)) s1
            | some (.ok .bk, s1) => some (.ok .nx, s1)
            | r => r) s2) D := by
            unfold forL at hq2
            by_cases hok : ok s2.m = true
            · rw [if_pos hok] at hq2
              exact ⟨hok, hq2⟩
            · rw [if_neg hok] at hq2
              obtain ⟨_, _, z, _⟩ := hq2
              cases z
          obtain ⟨go, yl⟩ := sv.go e2 p2 (Ex.refl _) hs2.mem hok (List.getElem?_eq_getElem hlt)
          refine .inr ⟨go, fun σ' H' => ∃ F2 A2 s2, Ex F1 F2 ∧ A1 <+: A2 ∧ Sim X.K C F2 A2 G1 s2 σ' H' ∧ OutS X.K C T F2 A2 G1 (forL g b ok (ws.drop (i + 1)) s2) D, fun σ' H' h => ⟨_, by omega, rfl, hlt, h⟩, fun x H' y => ?_⟩
          obtain ⟨F3, e3, sm3, rx⟩ := yl x H' y
          have hs3 : Sim X.K C F3 A2 G1 s2 σ2 H' := hs2.of e3 (List.prefix_refl _) sm3
          refine OutS.tgt (hq2.mono e3 (List.prefix_refl _)) hs3 rx fun F4 A4 H4 s4 σ4 e4 p4 hs4 hq4 => ?_
          refine ⟨F4, A4, G1, s4, hs4, ?_⟩
          obtain ⟨r, s5, h1, h2⟩ := hq4
          have step : ∀ {s6 : S}, forL g b ok (ws.drop (i + 1)) s6 = some (r, s5) → ∀ σ' F' A' H', Ex F4 F' → A4 <+: A' → Sim X.K C F' A' G1 s6 σ' H' → ∃ F2 A2 s2, Ex F1 F2 ∧ A1 <+: A2 ∧ Sim X.K C F2 A2 G1 s2 σ' H' ∧ OutS X.K C T F2 A2 G1 (forL g b ok (ws.drop (i + 1)) s2) D := fun {s6} hf6 σ' F' A' H' e p hs' =>
            ⟨F', A', s6, ((e2.trans e3).trans e4).trans e, ((p2).trans p4).trans p, hs', OutS.mono e p ⟨r, s5, hf6, h2⟩⟩
          cases hb4 : b s4 with
          | none => rw [hb4] at h1; cases h1
          | some q4 =>
            obtain ⟨r4, s6⟩ := q4
            rw [hb4] at h1
            refine ⟨r4, s6, rfl, ?_⟩
            rcases r4 with x4 | f4
            · cases h1; exact h2
            · cases f4 with
              | nx => exact step h1
              | ct => exact step h1
              | bk => cases h1; exact h2
              | rt w4 => cases h1; exact h2
        · have e : i = ws.length := by omega
          subst e
          rw [List.drop_length] at hq2
          obtain ⟨hok, hq2⟩ : ok s2.m = true ∧ OutS X.K C T F2 A2 G1 (ret .nx s2) D := by
            unfold forL at hq2
            by_cases hok : ok s2.m = true
            · rw [if_pos hok] at hq2
              exact ⟨hok, hq2⟩
            · rw [if_neg hok] at hq2
              obtain ⟨_, _, z, _⟩ := hq2
              cases z
          exact .inl ⟨sv.stop e2 p2 (Ex.refl _) hs2.mem hok (Nat.le_refl _), hq2.nx hs2⟩
end
end PD

/-! PDk: comprehensions. -/
noncomputable section
namespace PD
open PySem L2 PyProof.Rows
def wipeR (r : List (Option W)) : List Nat → List (Option W)
  | [] => r
  | v :: vs => (wipeR r vs).set v none
theorem wipeR_some {r : List (Option W)} {i : Nat} {w : W} : ∀ {vs : List Nat}, (wipeR r vs)[i]? = some (some w) → r[i]? = some (some w) ∧ i ∉ vs
  | [], h => ⟨h, by simp⟩
  | v :: vs, h => by
    unfold wipeR at h
    by_cases hi : v = i
    · subst hi
      by_cases hv : v < (wipeR r vs).length
      · rw [List.getElem?_set_self hv] at h; cases h
      · rw [List.getElem?_eq_none (by simpa using hv)] at h; cases h
    · rw [List.getElem?_set_ne hi] at h
      obtain ⟨h1, h2⟩ := wipeR_some h
      exact ⟨h1, by simp only [List.mem_cons, not_or]; exact ⟨fun e => hi e.symm, h2⟩⟩
theorem wipe_get {σ : L2.St} {i : Nat} : ∀ {vs : List Nat}, i ∉ vs → (L2.wipe σ vs)[i]? = σ[i]?
  | [], _ => rfl
  | v :: vs, h => by
    unfold L2.wipe
    rw [List.mem_cons, not_or] at h
    rw [List.getElem?_set_ne (fun e => h.1 e.symm)]
    exact wipe_get h.2
theorem wipe_in {σ : L2.St} {i : Nat} : ∀ {vs : List Nat}, i ∈ vs → (L2.wipe σ vs)[i]? = if i < σ.length then some none else none
  | [], h => by simp at h
  | v :: vs, h => by
    unfold L2.wipe
    by_cases e : v = i
    · subst e
      by_cases hv : v < σ.length
      · rw [List.getElem?_set_self (by rw [L2.wipe_length]; exact hv), if_pos hv]
      · rw [List.getElem?_eq_none (by rw [List.length_set, L2.wipe_length]; omega), if_neg hv]
    · rw [List.getElem?_set_ne e]
      exact wipe_in (by rcases List.mem_cons.mp h with z | z; exact absurd z.symm e; exact z)
theorem wipe_idem {σ : L2.St} {vs : List Nat} : L2.wipe (L2.wipe σ vs) vs = L2.wipe σ vs := by
  apply List.ext_getElem?
  intro i
  by_cases h : i ∈ vs
  · rw [wipe_in h, wipe_in h, L2.wipe_length]
  · rw [wipe_get h]
theorem wipeR_length {r : List (Option W)} : ∀ {vs : List Nat}, (wipeR r vs).length = r.length
  | [] => rfl
  | v :: vs => by unfold wipeR; rw [List.length_set, wipeR_length]
theorem wipe_set {σ : L2.St} {i : Nat} {v : Option V} : ∀ {vs : List Nat}, i ∈ vs → L2.wipe (σ.set i v) vs = L2.wipe σ vs
  | [], h => by simp at h
  | u :: vs, h => by
    unfold L2.wipe
    by_cases hi : i ∈ vs
    · rw [wipe_set hi]
    · have e : i = u := by rcases List.mem_cons.mp h with e | e; exact e; exact absurd e hi
      subst e
      have : ∀ {vs : List Nat}, i ∉ vs → L2.wipe (σ.set i v) vs = (L2.wipe σ vs).set i v := by
        intro vs
        induction vs with
        | nil => intro _; rfl
        | cons a vs ih =>
          intro h
          rw [List.mem_cons, not_or] at h
          unfold L2.wipe
          rw [ih h.2, List.set_comm _ _ h.1]
      rw [this hi, List.set_set]
section
variable {K : PySem.W.Frag} {C : Nat → Addr} {T : XT} {F F' G G' : Hp} {A A' : List Addr} {s s1 : S} {σ : L2.St} {H : Hp}
theorem Sim.wiped (h : Sim K C F A G s σ H) (vs : List Nat) : Sim K C F A G { s with r := wipeR s.r vs } (L2.wipe σ vs) H :=
  ⟨h.mem, by rw [L2.wipe_length]; show (wipeR s.r vs).length = _; rw [wipeR_length, h.len], fun i w q => by
    obtain ⟨q1, q2⟩ := wipeR_some q
    rw [wipe_get q2]
    exact h.slot i w q1⟩
/-- a comprehension's target: it sets slots of the block's own only -/
def tGC (K : PySem.W.Frag) (C : Nat → Addr) (vs : List Nat) (g : W → Mo Unit) : TG := fun v σ H Q => ∃ F A G s w s', Sim K C F A G s σ H ∧ RepW K F A w v ∧ g w s = some (.ok (), s') ∧
  ∀ σ' F' A' H', Ex F F' → A <+: A' → Sim K C F' A' G s' σ' H' → L2.wipe σ' vs = L2.wipe σ vs → Q σ' H'
def tGsC (K : PySem.W.Frag) (C : Nat → Addr) (vs : List Nat) (g : List W → Mo Unit) : TGs := fun us σ H Q => ∃ F A G s ws s', Sim K C F A G s σ H ∧ RepWs K F A ws us ∧ g ws s = some (.ok (), s') ∧
  ∀ σ' F' A' H', Ex F F' → A <+: A' → Sim K C F' A' G s' σ' H' → L2.wipe σ' vs = L2.wipe σ vs → Q σ' H'
variable {X : Cx}
theorem pd_cNm {x : Str} {i : Nat} {pos : Pos} {vs : List Nat} (hN : X.N.Nodup) (hi : X.N[i]? = some x) (hv : i ∈ vs) (hx : Loc X.env.scope x) (hf : X.fn x = true ∨ X.env.scope.names.lookup x = some .local := by first | exact .inl rfl | exact .inr rfl | assumption) : PG X (.Name x pos) (tGC X.K C vs (gNm i)) :=
  (pg_name hN hi hx hf).imp fun v σ H Q ⟨F, A, G, s, w, s', hs, rw', h1, h2⟩ => by
    cases h1
    exact h2 _ F A H (Ex.refl F) (List.prefix_refl A) (hs.set rw') (wipe_set hv)
theorem pd_cNl {vs : List Nat} : PGs X [] (tGsC X.K C vs gNl) := pgs_nil.imp fun us σ H Q ⟨F, A, G, s, ws, s', hs, rw', h1, h2⟩ => by
  unfold gNl at h1
  split at h1
  · rename_i e
    cases h1
    subst e
    cases rw'
    exact ⟨rfl, h2 _ F A H (Ex.refl F) (List.prefix_refl A) hs rfl⟩
  · cases h1
theorem bnd_is {α β : Type} {f : Mo α} {k : α → Mo β} {s s' : S} {b : β} (h : bnd f k s = some (.ok b, s')) : ∃ a s1, f s = some (.ok a, s1) ∧ k a s1 = some (.ok b, s') := by
  cases hf : f s with
  | none => rw [bnd_no hf] at h; cases h
  | some q =>
    obtain ⟨r, s1⟩ := q
    cases r with
    | error e => rw [bnd_er hf] at h; cases h
    | ok a => rw [bnd_ok hf] at h; exact ⟨a, s1, rfl, h⟩
theorem pd_cCn {e : Expr} {es : List Expr} {vs : List Nat} {g : W → Mo Unit} {h : List W → Mo Unit} (h1 : PG X e (tGC X.K C vs g)) (h2 : PGs X es (tGsC X.K C vs h))
    (hs : (assignEach (e :: es) X.env).map (·.2) = assign e X.env :: (assignEach es X.env).map (·.2) := by rfl) : PGs X (e :: es) (tGsC X.K C vs (gCn g h)) :=
  (pgs_cons h1 h2 hs).imp fun us σ H Q ⟨F, A, G, s, ws, s', hs, rw', e1, e2⟩ => by
    cases rw' with
    | nil => cases e1
    | @cons w v ws us r0 rr =>
      refine ⟨v, us, rfl, ?_⟩
      obtain ⟨_, s1, h3, h4⟩ := bnd_is (show bnd (g w) (fun _ => h ws) s = _ from e1)
      exact ⟨F, A, G, s, w, s1, hs, r0, h3, fun σ1 F1 A1 H1 ee pp hs1 w1 => ⟨F1, A1, G, s1, ws, s', hs1, RepWs.mono ee pp rr, h4, fun σ2 F2 A2 H2 e3 p3 hs2 w2 => e2 σ2 F2 A2 H2 (ee.trans e3) (pp.trans p3) hs2 (w2.trans w1)⟩⟩
theorem pd_cTp {es : List Expr} {k : Nat} {pos : Pos} {n : Nat} {vs : List Nat} {g : List W → Mo Unit} (hc : X.calm = true) (h : PGs X es (tGsC X.K C vs g))
    (hn : (assignEach es X.env).length = n := by rfl) (hst : (assignEach es X.env).findIdx? (·.1) = none := by rfl) : PG X (.Tuple es k pos) (tGC X.K C vs (gTp n g)) :=
  (pg_tup hc h hn hst).imp fun v σ H Q ⟨F, A, G, s, w, s', hs, rw', e1, e2⟩ => by
    unfold gTp at e1
    cases hd : asT w with
    | none => rw [hd] at e1; cases e1
    | some ds =>
      rw [hd] at e1
      simp only at e1
      by_cases hl : ds.length = n
      · rw [if_pos hl] at e1
        obtain ⟨a, us, rfl, h1, h2⟩ := tup_in rw' hd
        exact ⟨a, us, rfl, hs.mem.ex.st h1, by rw [← h2.length]; exact hl, F, A, G, s, _, s', hs, reps_fz h2, e1, e2⟩
      · rw [if_neg hl] at e1; cases e1

/-! ### the loop -/
section
variable {α : Type}
def cmpL (g : W → Mo Unit) (t : Mo Bool) (st : α → Mo α) (r0 : List (Option W)) (ok : List MO → Bool) : List W → α → Mo α
  | [], acc => fun s => if ok s.m = true then some (.ok acc, s) else none
  | w :: ws, acc => fun s => if ok s.m = true then bnd (g w) (fun _ => bnd t fun k => if k then bnd (st acc) (fun acc' s => cmpL g t st r0 ok ws acc' { s with r := r0 }) else fun s => cmpL g t st r0 ok ws acc { s with r := r0 }) s else none
def cmpM (f : Mo Wk) (vs : List Nat) (g : W → Mo Unit) (t : Mo Bool) (st : α → Mo α) (a0 : α) (fin : α → MO) : Mo MO := bnd f fun k => fun s => match cmpL g t st (wipeR s.r vs) k.ok k.ws a0 { s with r := wipeR s.r vs } with
  | some (.ok a, s') => some (.ok (fin a), { s' with r := s.r })
  | _ => none
theorem SimM.rmv {M : List MO} {D : Addr} {o : HO} (h : SimM K C F A (upd G D o) M H) (hF : F D = none) (hA : D ∉ A) (hG : G D = none) : SimM K C F A G M (fun a => if a = D then none else H a) := by
  have nA : ∀ {n : Nat} {a : Addr}, A[n]? = some a → a ≠ D := fun e z => hA (z ▸ List.mem_of_getElem? e)
  refine ⟨fun a u e => ?_, fun a u e => ?_, h.len, h.nd, fun n a m e1 e2 => ?_, fun n a m e1 e2 e3 => ?_, fun a u e o2 g => ?_, fun a ha o2 g => ?_⟩
  · rw [if_neg (fun z => by subst z; rw [hF] at e; cases e)]
    exact h.ex a u e
  · have ne : a ≠ D := fun z => by subst z; rw [hG] at e; cases e
    rw [if_neg ne]
    exact h.gd a u (by rw [upd_ne ne]; exact e)
  · obtain ⟨u, e, r⟩ := h.ob n a m e1 e2
    exact ⟨u, by rw [if_neg (nA e1)]; exact e, r⟩
  · obtain ⟨q1, q2⟩ := h.own n a m e1 e2 e3
    exact ⟨q1, by rw [upd_ne (nA e1)] at q2; exact q2⟩
  · have ne : a ≠ D := fun z => by subst z; rw [hG] at g; cases g
    exact h.gF a u e o2 (by rw [upd_ne ne]; exact g)
  · have ne : a ≠ D := fun z => by subst z; rw [hG] at g; cases g
    exact h.gA a ha o2 (by rw [upd_ne ne]; exact g)
theorem put_back {D : Addr} {o : HO} (h : H D = some o) : upd (fun a => if a = D then none else H a) D o = H := by
  funext a
  by_cases e : a = D
  · subst e; rw [upd_same, h]
  · rw [upd_ne e, if_neg e]
theorem cmp_rd {Ru : Hp → List Addr → α → HO → Prop} {f : Mo Wk} {vs : List Nat} {g : W → Mo Unit} {t : Mo Bool} {st : α → Mo α} {a0 : α} {fin : α → MO} {o0 : HO} {turnR : Addr → (Hp → Prop) → L2.St → Hp → Prop}
    (rm : ∀ {F F' : Hp} {A A' : List Addr} {a : α} {o : HO}, Ex F F' → A <+: A' → Ru F A a o → Ru F' A' a o)
    (h0 : ∀ {F A}, Ru F A a0 o0) (hfin : ∀ {F A acc o}, Ru F A acc o → HoRep K C F A (fin acc) o) (nf : ∀ {F A acc o}, Ru F A acc o → isFrz o = false)
    (hst : ∀ {D : Addr} {F : Hp} {A : List Addr} {G : Hp} {s s' : S} {σ : L2.St} {H : Hp} {acc acc' : α} {o : HO} {Nx : Hp → Prop}, Sim K C F A (upd G D o) s σ H → Ru F A acc o → st acc s = some (.ok acc', s') →
      (∀ F' A' H' o', Ex F F' → A <+: A' → Sim K C F' A' (upd G D o') s' σ H' → Ru F' A' acc' o' → Nx H') → turnR D Nx σ H)
    {Q : VK} (h : tNew K C T (cmpM f vs g t st a0 fin) σ H Q) :
    tIt K C T f σ H fun J H1 => ∀ D, H1 D = none → ∃ W : Nat → Nat → Hp → Prop, (∃ m, W 0 m (upd H1 D o0)) ∧ ∀ i m H, W i m H →
      (J.stop i H ∧ Q (.ref D) H) ∨ (J.go i H ∧ ∃ Nx : Hp → Prop, (∀ H', Nx H' → ∃ m', m' < m ∧ W (i + 1) m' H') ∧ ∀ x H', J.yld i H x H' → tGC K C vs g x (L2.wipe σ vs) H' fun σ2 H2 => L2.wipe σ2 vs = L2.wipe σ vs ∧ tT K C XF t σ2 H2 fun b H3 =>
        if b = true then turnR D Nx σ2 H3 else Nx H3) := by
  obtain ⟨F, A, G, s, hs, r, s', h1, h2⟩ := h
  refine ⟨F, A, G, s, hs, ?_⟩
  cases hf : f s with
  | none => unfold cmpM at h1; rw [bnd_no hf] at h1; cases h1
  | some q =>
    obtain ⟨r1, s1⟩ := q
    refine ⟨r1, s1, rfl, ?_⟩
    cases r1 with
    | error x => unfold cmpM at h1; rw [bnd_er hf] at h1; cases h1; exact h2
    | ok kk =>
      obtain ⟨ws, ok⟩ := kk
      intro J F1 A1 G1 H1 e1 p1 g1 hs1 sv D hD
      unfold cmpM at h1
      rw [bnd_ok hf] at h1
      obtain ⟨res, s2, hL, er, es⟩ : ∃ res s2, cmpL g t st (wipeR s1.r vs) ok ws a0 { s1 with r := wipeR s1.r vs } = some (.ok res, s2) ∧ r = .ok (fin res) ∧ s' = { s2 with r := s1.r } := by
        split at h1
        · rename_i a sx hx
          cases h1
          exact ⟨a, sx, hx, rfl, rfl⟩
        · cases h1
      subst er es
      obtain ⟨fD, gD, aD⟩ := hs1.mem.fresh hD
      have hs1w := hs1.wiped vs
      -- what stands at each turn
      refine ⟨fun i m H' => m = ws.length - i ∧ i ≤ ws.length ∧ ∃ F2 A2 M acc o, Ex F1 F2 ∧ A1 <+: A2 ∧ SimM K C F2 A2 (upd G1 D o) M H' ∧ Ru F2 A2 acc o ∧ cmpL g t st (wipeR s1.r vs) ok (ws.drop i) acc ⟨wipeR s1.r vs, M⟩ = some (.ok res, s2),
        ⟨_, rfl, Nat.zero_le _, F1, A1, s1.m, a0, o0, Ex.refl _, List.prefix_refl _, hs1.mem.guard hD, h0, by rw [List.drop_zero]; exact hL⟩, ?_⟩
      rintro i m H2 ⟨rfl, hi, F2, A2, M, acc, o, e2, p2, sm2, ru, hL2⟩
      have slots : ∀ {F3 : Hp} {A3 : List Addr} {M3 : List MO} {G3 H3 : Hp}, Ex F1 F3 → A1 <+: A3 → SimM K C F3 A3 G3 M3 H3 → Sim K C F3 A3 G3 ⟨wipeR s1.r vs, M3⟩ (L2.wipe σ vs) H3 := fun e p m => ⟨m, hs1w.len, fun i w q => let ⟨v, k1, k2⟩ := hs1w.slot i w q; ⟨v, k1, k2.mono e p⟩⟩
      have hoD : H2 D = some o := sm2.gd D o upd_same
      have ufr : ∀ {F3 : Hp} {A3 : List Addr} {M3 : List MO} {H3 : Hp} {o3 : HO} {acc3 : α}, SimM K C F3 A3 (upd G1 D o3) M3 H3 → Ru F3 A3 acc3 o3 → F3 D = none ∧ D ∉ A3 := fun {F3 A3 M3 H3 o3 acc3} m r3 => by
        refine ⟨?_, fun z => ?_⟩
        · cases hF : F3 D with
          | none => rfl
          | some u =>
            have := m.gF D u hF o3 upd_same
            rw [nf r3] at this; cases this
        · have := m.gA D z o3 upd_same
          rw [nf r3] at this; cases this
      have grd : Ex G1 (upd G1 D o) := Ex.new gD
      by_cases hlt : i < ws.length
      · rw [List.drop_eq_getElem_cons hlt] at hL2
        obtain ⟨hok, hL2⟩ : ok M = true ∧ bnd (g ws[i]) (fun _ => bnd t fun k => if k then bnd (st acc) (fun acc' s => cmpL g t st (wipeR s1.r vs) ok (ws.drop (i + 1)) acc' { s with r := wipeR s1.r vs }) else fun s => cmpL g t st (wipeR s1.r vs) ok (ws.drop (i + 1)) acc { s with r := wipeR s1.r vs }) ⟨wipeR s1.r vs, M⟩ = some (.ok res, s2) := by
          unfold cmpL at hL2
          split at hL2
          · rename_i hok
            exact ⟨hok, hL2⟩
          · cases hL2
        obtain ⟨go, yl⟩ := sv.go e2 p2 grd sm2 hok (List.getElem?_eq_getElem hlt)
        refine .inr ⟨go, fun H' => ∃ F2 A2 M acc o, Ex F1 F2 ∧ A1 <+: A2 ∧ SimM K C F2 A2 (upd G1 D o) M H' ∧ Ru F2 A2 acc o ∧ cmpL g t st (wipeR s1.r vs) ok (ws.drop (i + 1)) acc ⟨wipeR s1.r vs, M⟩ = some (.ok res, s2), fun H' h => ⟨_, by omega, rfl, hlt, h⟩, fun x H' y => ?_⟩
        obtain ⟨F3, e3, sm3, rx⟩ := yl x H' y
        have hs3 := slots (e2.trans e3) p2 sm3
        obtain ⟨_, s4, hg, hL4⟩ := bnd_is hL2
        refine ⟨F3, A2, _, _, ws[i], s4, hs3, rx, hg, fun σ4 F4 A4 H4 e4 p4 hs4 w4 => ⟨w4.trans wipe_idem, ?_⟩⟩
        obtain ⟨k, s5, ht, hL5⟩ := bnd_is hL4
        refine ⟨F4, A4, _, s4, hs4, .ok k, s5, ht, fun b F5 A5 H5 e5 p5 hs5 hb => ?_⟩
        cases hb
        have E5 : Ex F1 F5 := ((e2.trans e3).trans e4).trans e5
        have P5 : A1 <+: A5 := (p2.trans p4).trans p5
        have ru5 := rm ((e3.trans e4).trans e5) (p4.trans p5) ru
        cases k with
        | false =>
          simp only [Bool.false_eq_true, if_false] at hL5 ⊢
          exact ⟨F5, A5, s5.m, acc, o, E5, P5, hs5.mem, ru5, hL5⟩
        | true =>
          simp only [if_true] at hL5 ⊢
          obtain ⟨acc', s6, hs6, hL6⟩ := bnd_is hL5
          exact hst hs5 ru5 hs6 fun F6 A6 H6 o6 e6 p6 hs6' ru6 => ⟨F6, A6, s6.m, acc', o6, E5.trans e6, P5.trans p6, hs6'.mem, ru6, hL6⟩
      · have e : i = ws.length := by omega
        subst e
        rw [List.drop_length] at hL2
        obtain ⟨hok, hL2⟩ : ok M = true ∧ some (Except.ok acc, (⟨wipeR s1.r vs, M⟩ : S)) = some (.ok res, s2) := by
          unfold cmpL at hL2
          split at hL2
          · rename_i hok
            exact ⟨hok, hL2⟩
          · cases hL2
        cases hL2
        refine .inl ⟨sv.stop e2 p2 grd sm2 hok (Nat.le_refl _), ?_⟩
        obtain ⟨f3, a3⟩ := ufr sm2 ru
        have sm3 := sm2.rmv f3 a3 gD
        have hb := h2 o F2 A2 _ (e1.trans e2) (p1.trans p2) ⟨sm3.unguard g1, hs1.len, fun i w q => let ⟨v, k1, k2⟩ := hs1.slot i w q; ⟨v, k1, k2.mono e2 p2⟩⟩ (hfin ru) D (by simp)
        rw [put_back hoD] at hb
        exact hb
end
/-! ### lists -/
def mkL (ws : List W) : MO := match unW ws with
  | some ds => .lst ds
  | none => .lw ws
def lcE (e : Mo W) (acc : List W) : Mo (List W) := bnd e fun w => ofO (if acc.length < LIM then some (acc ++ [w]) else none)
def lcM (f : Mo Wk) (vs : List Nat) (g : W → Mo Unit) (t : Mo Bool) (e : Mo W) : Mo MO := cmpM f vs g t (lcE e) [] mkL
def RuL (K : PySem.W.Frag) (F : Hp) (A : List Addr) (ws : List W) (o : HO) : Prop := ∃ xs, o = .lst xs ∧ RepWs K F A ws xs
theorem mkL_ok {ws : List W} {o : HO} (h : RuL K F A ws o) : HoRep K C F A (mkL ws) o := by
  obtain ⟨xs, rfl, r⟩ := h
  unfold mkL
  split
  · rename_i ds hd
    exact ⟨xs, rfl, unW_ok hd r⟩
  · exact ⟨xs, rfl, r⟩
theorem lc_rd {f : Mo Wk} {vs : List Nat} {g : W → Mo Unit} {t : Mo Bool} {e : Mo W} {Q : VK} (h : tNew K C T (lcM f vs g t e) σ H Q) : tLc (tIt K C T f) (tGC K C vs g) (tT K C XF t) (tE K C XF e) vs σ H Q :=
  cmp_rd (Ru := RuL K) (o0 := .lst []) (turnR := fun D Nx σ H => tE K C XF e σ H fun y H4 => ∃ acc, H4 D = some (.lst acc) ∧ acc.length < sizeLine ∧ Nx (upd H4 D (.lst (acc ++ [y]))))
    (fun e p ⟨xs, h1, h2⟩ => ⟨xs, h1, RepWs.mono e p h2⟩) ⟨[], rfl, .nil⟩ mkL_ok (fun ⟨xs, h1, _⟩ => by rw [h1]; rfl)
    (fun {D F A G s s' σ H acc acc' o Nx} hs ru hst nx => by
      obtain ⟨xs, rfl, r⟩ := ru
      obtain ⟨w, s1, h1, h2⟩ := bnd_is hst
      obtain ⟨_, h3, h4, rfl⟩ := ofO_is h2
      cases h4
      split at h3
      · rename_i hl
        cases h3
        refine ⟨F, A, _, s, hs, .ok w, s', h1, fun y F2 A2 H2 e2 p2 hs2 ry => ?_⟩
        have r2 := RepWs.mono e2 p2 r
        have hD := hs2.mem.gd D _ upd_same
        have f2 : F2 D = none := by
          cases hF : F2 D with
          | none => rfl
          | some u => have := hs2.mem.gF D u hF _ upd_same; cases this
        have a2 : D ∉ A2 := fun z => by have := hs2.mem.gA D z _ upd_same; cases this
        exact ⟨xs, hD, lim_lt (by rw [← Paired.length r]; exact hl), nx F2 A2 _ (.lst (xs ++ [y])) e2 p2 ⟨hs2.mem.gwrite f2 a2, hs2.len, hs2.slot⟩ ⟨_, rfl, RepWs.append r2 (.cons ry .nil)⟩⟩
      · cases h3) h
theorem pd_tN {X : Cx} : PTs X [] (tT X.K C XF (ret true)) := ⟨fun pins s σ H Q I ⟨F, A, G, s0, hs, hq⟩ => pts_nil.run pins s σ H Q I (hq.retE hs rfl)⟩
theorem pd_t1 {X : Cx} {c : Expr} {t : Mo Bool} (h : PT X c (tT X.K C XF t)) : PTs X [c] (tT X.K C XF t) := pts_one h
theorem pd_lc {elt tg iter : Expr} {ifs : List Expr} {scope : Scope} {own : List (Str × Nat)} {pos : Pos} {f : Mo Wk} {g : W → Mo Unit} {t : Mo Bool} {e : Mo W} (hc : X.calm = true) (hN : X.N.Nodup) (hi : PI X tg iter (tIt X.K C T f)) (ok : BlkOk X.N X.env.scope scope own)
    (hg : ∀ (s : Shared) (H : Hp) (C' : Addr) (cl : List (Str × Addr)) (fp : List Addr), PG (X.blk s H scope (compEnvC scope cl C' X.env) fp) tg (tGC X.K C (own.map (·.2)) g)) (ht : ∀ (s : Shared) (H : Hp) (C' : Addr) (cl : List (Str × Addr)) (fp : List Addr), PTs (X.blk s H scope (compEnvC scope cl C' X.env) fp) ifs (tT X.K C XF t))
    (he : ∀ (s : Shared) (H : Hp) (C' : Addr) (cl : List (Str × Addr)) (fp : List Addr), PE (X.blk s H scope (compEnvC scope cl C' X.env) fp) elt (tE X.K C XF e)) (hs : ∀ x, foldedSetIterable iter X.env x = pure x := by intro _; rfl) :
    PE X (.ListComp elt [⟨tg, iter, ifs, 0⟩] scope pos) (tNew X.K C T (lcM f (own.map (·.2)) g t e)) := (pe_lc hc hN hi ok hg ht he hs).imp fun σ H Q h => lc_rd h
/-- name = [..] -/
def setN (i : Nat) (f : Mo W) : Mo Fl := asgS f (gNm i)
theorem tE_frz {f : Mo MO} {σ : L2.St} {H : Hp} {Q : VK} (h : tE K C T (frz f) σ H Q) : tNew K C T f σ H Q := by
  obtain ⟨F, A, G, s, hs, hq⟩ := h
  exact rd_go hs hq fun o F1 A1 H1 s1 m _ _ hs1 ro hq1 => fun p hp => by
    obtain ⟨w, hw, hq2⟩ := hq1.ofOE
    obtain ⟨d, hd, rfl⟩ := Option.map_eq_some_iff.mp hw
    have ff := (hs1.mem.fresh hp).1
    exact hq2.at rfl (Ex.new ff) (List.prefix_refl _) (hs1.of (Ex.new ff) (List.prefix_refl _) (hs1.mem.allocF hp)) (.fz (data_rep hd ro ff))
theorem tE_new {f : Mo MO} {σ : L2.St} {H : Hp} {Q : VK} (h : tE K C T (newO f) σ H Q) : tNew K C T f σ H Q := by
  obtain ⟨F, A, G, s, hs, hq⟩ := h
  exact rd_go hs hq fun o F1 A1 H1 s1 m _ _ hs1 ro hq1 => fun p hp => by
    have pr : A1 <+: A1 ++ [p] := List.prefix_append _ _
    have sm := hs1.mem.allocO (o := o) (m := m) hp (ro.mono (Ex.refl _) pr)
    refine hq1.at rfl (Ex.refl _) pr (hs1.of (Ex.refl _) pr sm) (.ob ?_)
    rw [← hs1.mem.len]
    simp
theorem asg_name {f : Mo W} {i : Nat} {D : Ends} (h : tS K C T (asgS f (gNm i)) D σ H) : tE K C T f σ H fun x H1 => gName i x σ H1 D.nx := by
  obtain ⟨F, A, G, s, hs, hq⟩ := h
  exact rdS_go hs hq fun x F1 A1 H1 s1 w1 _ _ hs1 rx hq1 => by
    have hq2 : OutS K C T F1 A1 G (ret .nx (setR s1 i w1)) D := hq1
    exact hq2.nx (hs1.set rx)
theorem pd_setLcF {i : Nat} {y : Str} {py : Pos} {elt tg iter : Expr} {ifs : List Expr} {scope : Scope} {own : List (Str × Nat)} {pos spos : Pos} {f : Mo Wk} {g : W → Mo Unit} {t : Mo Bool} {e : Mo W} (hc : X.calm = true) (hN : X.N.Nodup) (hy : X.N[i]? = some y) (hyl : X.env.scope.names.lookup y = some .local)
    (hsw : swapsWith (.ListComp elt [⟨tg, iter, ifs, 0⟩] scope pos) (some (.Name y py)) spos.line X.env = pure true) (hi : PI X tg iter (tIt X.K C T f)) (ok : BlkOk X.N X.env.scope scope own)
    (hg : ∀ (s : Shared) (H : Hp) (C' : Addr) (cl : List (Str × Addr)) (fp : List Addr), PG (X.blk s H scope (compEnvC scope cl C' X.env) fp) tg (tGC X.K C (own.map (·.2)) g)) (ht : ∀ (s : Shared) (H : Hp) (C' : Addr) (cl : List (Str × Addr)) (fp : List Addr), PTs (X.blk s H scope (compEnvC scope cl C' X.env) fp) ifs (tT X.K C XF t))
    (he : ∀ (s : Shared) (H : Hp) (C' : Addr) (cl : List (Str × Addr)) (fp : List Addr), PE (X.blk s H scope (compEnvC scope cl C' X.env) fp) elt (tE X.K C XF e)) (hs : ∀ x, foldedSetIterable iter X.env x = pure x := by intro _; rfl) :
    PS X (.Assign [.Name y py] (.ListComp elt [⟨tg, iter, ifs, 0⟩] scope pos) spos) (tS X.K C T (asgS (frz (lcM f (own.map (·.2)) g t e)) (gNm i))) :=
  (ps_setLc hc hN hy hyl hsw hi ok hg ht he hs).imp fun D σ H h => lc_rd (tE_frz (asg_name h))
theorem pd_setLcM {i : Nat} {y : Str} {py : Pos} {elt tg iter : Expr} {ifs : List Expr} {scope : Scope} {own : List (Str × Nat)} {pos spos : Pos} {f : Mo Wk} {g : W → Mo Unit} {t : Mo Bool} {e : Mo W} (hc : X.calm = true) (hN : X.N.Nodup) (hy : X.N[i]? = some y) (hyl : X.env.scope.names.lookup y = some .local)
    (hsw : swapsWith (.ListComp elt [⟨tg, iter, ifs, 0⟩] scope pos) (some (.Name y py)) spos.line X.env = pure true) (hi : PI X tg iter (tIt X.K C T f)) (ok : BlkOk X.N X.env.scope scope own)
    (hg : ∀ (s : Shared) (H : Hp) (C' : Addr) (cl : List (Str × Addr)) (fp : List Addr), PG (X.blk s H scope (compEnvC scope cl C' X.env) fp) tg (tGC X.K C (own.map (·.2)) g)) (ht : ∀ (s : Shared) (H : Hp) (C' : Addr) (cl : List (Str × Addr)) (fp : List Addr), PTs (X.blk s H scope (compEnvC scope cl C' X.env) fp) ifs (tT X.K C XF t))
    (he : ∀ (s : Shared) (H : Hp) (C' : Addr) (cl : List (Str × Addr)) (fp : List Addr), PE (X.blk s H scope (compEnvC scope cl C' X.env) fp) elt (tE X.K C XF e)) (hs : ∀ x, foldedSetIterable iter X.env x = pure x := by intro _; rfl) :
    PS X (.Assign [.Name y py] (.ListComp elt [⟨tg, iter, ifs, 0⟩] scope pos) spos) (tS X.K C T (asgS (newO (lcM f (own.map (·.2)) g t e)) (gNm i))) :=
  (ps_setLc hc hN hy hyl hsw hi ok hg ht he hs).imp fun D σ H h => lc_rd (tE_new (asg_name h))

/-! ### dicts -/
def dcE (k e : Mo W) (acc : List (Key × D)) : Mo (List (Key × D)) := bnd k fun kw => bnd e fun w => ofO (match keyW kw, w with
  | some kk, .fz d => if acc.length < LIM then some (dput acc kk d) else none
  | _, _ => none)
def dcM (f : Mo Wk) (vs : List Nat) (g : W → Mo Unit) (t : Mo Bool) (k e : Mo W) : Mo MO := cmpM f vs g t (dcE k e) [] .dK
theorem dc_rd {f : Mo Wk} {vs : List Nat} {g : W → Mo Unit} {t : Mo Bool} {k e : Mo W} {Q : VK} (h : tNew K C T (dcM f vs g t k e) σ H Q) : tDc (tIt K C T f) (tGC K C vs g) (tT K C XF t) (tE K C XF k) (tE K C XF e) vs σ H Q :=
  cmp_rd (fin := MO.dK) (Ru := fun F A ds o => ∃ xs, o = .dK xs ∧ RepK K F ds xs) (o0 := .dK []) (turnR := fun D Nx σ H => tE K C XF k σ H fun y H4 => tE K C XF e σ H4 fun z H5 => ∃ kvs k, y = kV k ∧ H5 D = some (.dK kvs) ∧ kvs.length < sizeLine ∧ Nx (upd H5 D (.dK (putK kvs k z))))
    (fun e p ⟨xs, h1, h2⟩ => ⟨xs, h1, h2.mono e⟩) ⟨[], rfl, .nil⟩ (fun h => h) (fun ⟨xs, h1, _⟩ => by rw [h1]; rfl)
    (fun {D F A G s s' σ H acc acc' o Nx} hs ru hst nx => by
      obtain ⟨xs, rfl, r⟩ := ru
      obtain ⟨kw, s1, h1, h2⟩ := bnd_is hst
      obtain ⟨w, s2, h3, h4⟩ := bnd_is h2
      obtain ⟨_, h5, h6, rfl⟩ := ofO_is h4
      cases h6
      refine ⟨F, A, _, s, hs, .ok kw, s1, h1, fun y F2 A2 H2 e2 p2 hs2 ry => ⟨F2, A2, _, s1, hs2, .ok w, s', h3, fun z F3 A3 H3 e3 p3 hs3 rz => ?_⟩⟩
      split at h5
      · rename_i kk d hk
        split at h5
        · rename_i hl
          cases h5
          have r2 := r.mono (e2.trans e3)
          have hD := hs3.mem.gd D _ upd_same
          have f2 : F3 D = none := by
            cases hF : F3 D with
            | none => rfl
            | some u => have := hs3.mem.gF D u hF _ upd_same; cases this
          have a2 : D ∉ A3 := fun z => by have := hs3.mem.gA D z _ upd_same; cases this
          cases rz with
          | fz rz => exact ⟨xs, kk, keyW_ok hk ry, hD, lim_lt (by rw [← r.length]; exact hl), nx F3 A3 _ (.dK (putK xs kk z)) (e2.trans e3) (p2.trans p3) ⟨hs3.mem.gwrite f2 a2, hs3.len, hs3.slot⟩ ⟨_, rfl, r2.put kk rz⟩⟩
        · cases h5
      · cases h5) h
theorem pd_dc {kx vx tg iter : Expr} {ifs : List Expr} {scope : Scope} {own : List (Str × Nat)} {pos : Pos} {f : Mo Wk} {g : W → Mo Unit} {t : Mo Bool} {k e : Mo W} (hc : X.calm = true) (hN : X.N.Nodup) (hi : PI X tg iter (tIt X.K C T f)) (ok : BlkOk X.N X.env.scope scope own)
    (hg : ∀ (s : Shared) (H : Hp) (C' : Addr) (cl : List (Str × Addr)) (fp : List Addr), PG (X.blk s H scope (compEnvC scope cl C' X.env) fp) tg (tGC X.K C (own.map (·.2)) g)) (ht : ∀ (s : Shared) (H : Hp) (C' : Addr) (cl : List (Str × Addr)) (fp : List Addr), PTs (X.blk s H scope (compEnvC scope cl C' X.env) fp) ifs (tT X.K C XF t))
    (hk : ∀ (s : Shared) (H : Hp) (C' : Addr) (cl : List (Str × Addr)) (fp : List Addr), PE (X.blk s H scope (compEnvC scope cl C' X.env) fp) kx (tE X.K C XF k))
    (he : ∀ (s : Shared) (H : Hp) (C' : Addr) (cl : List (Str × Addr)) (fp : List Addr), PE (X.blk s H scope (compEnvC scope cl C' X.env) fp) vx (tE X.K C XF e)) (hs : ∀ x, foldedSetIterable iter X.env x = pure x := by intro _; rfl) :
    PE X (.DictComp kx vx [⟨tg, iter, ifs, 0⟩] scope pos) (tNew X.K C T (dcM f (own.map (·.2)) g t k e)) := (pe_dc hc hN hi ok hg ht hk he hs).imp fun σ H Q h => dc_rd h
end
end PD

/-! PDl: sorted(set(ints)), list(d.items()), displays of dicts, names of the module, signs. -/
noncomputable section
namespace PD
open PySem L2 PyProof.Rows
/-! ### set(list of ints) -/
abbrev set0 (w : World) : Obj := { cls := .type "set", dict := none, data := .set #[] 0 (.fresh 0 0 (!w.params.followText "set-order")) }
section
variable {P : Program} {w : World} {A : Around} {E : Value → Shared → Prop} {s : Shared}
theorem set_of_ints {l : Addr} {items : Array Value} (ns : List Int) {Q : Value → Shared → Prop} (hh : A.handled = none) (hl : s.heap.IsList l items) (hit : IntsAre items.toList ns) (hb : ns.length + 1 < scanBound)
    (k : ∀ (h' : Heap) (tk c : Nat), SetR w h' s.heap.objs.size (fun j => decide (j ∈ ns)) c → c ≤ ns.length → (∀ b o, s.heap.get? b = some o → h'.get? b = some o) → Q (.ref s.heap.objs.size) { s with heap := h', toks := tk }) :
    wpAny (model P w) A (call (.type "set") [.ref l]) Q E s := by
  have len : items.size = ns.length := by
    have z := IntsAre.length hit
    rwa [Array.length_toList] at z
  obtain ⟨c0, t0, m1⟩ := F.called_set.mro
  have m2 := F.called_set.made
  have m3 := F.called_set.sub
  refine wpAny_call (codeAny_of_tree ?_)
  show wpAny _ _ (callAny (.type "set") _) _ _ _
  refine wpAny_pure ⟨Code.quiet_builtin _ (by decide +kernel), codeAny_builtin F.entry_type_call ?_⟩
  rw [Around.under_plain (weight_type_call_type "set" [.ref l] []) rfl]
  have m4 := F.called_set.notType
  have m5 := F.called_set.canCreate
  have m6 := F.typeCall_set_1 (.ref l)
  repeat (any_goals (first | assumption | wp_step))
  refine codeAny_mono (code_set_led1 (.ref l) (E := E) (Q₁ := fun x s1 => x = .ref s.heap.objs.size ∧ s1 = { s with heap := s.heap.push (set0 w) }) ⟨rfl, rfl⟩) fun r s1 hr => ?_
  cases r with
  | error e => exact hr
  | ok fl =>
    cases fl with
    | ret x =>
      obtain ⟨rfl, rfl⟩ := hr
      have at0 : (s.heap.push (set0 w)).get? s.heap.objs.size = some (set0 w) := Heap.get?_push_size _ rfl
      have ty0 : Shared.TypeIs { s with heap := s.heap.push (set0 w) } (.ref s.heap.objs.size) "set" := ⟨_, at0, rfl⟩
      have i1 := F.called_set.init.lookup
      have i2 := F.called_set.init.bind (.ref s.heap.objs.size)
      repeat (any_goals (first | assumption | wp_step))
      refine codeAny_mono (codeAny_call_builtin (R := wants (fun r s2 => r = .none ∧ ∃ h' tk c, s2 = { s with heap := h', toks := tk } ∧ SetR w h' s.heap.objs.size (fun j => decide (j ∈ ns)) c ∧ c ≤ ns.length ∧
          (∀ b o, s.heap.get? b = some o → h'.get? b = some o)) E) F.called_set.init.plain F.entry_set_init (check_set_init_1 ty0 ?_)) fun r2 s2 hr2 => ?_
      · have sub1 := F.sub_list_set
        have sub2 := F.sub_list_frozenset
        obtain ⟨⟨ocls, odict, odata, oslots⟩, ol, oc, on, od⟩ := hl
        simp only at oc od
        subst oc; subst od
        have lt : l < s.heap.objs.size := Heap.lt_size ol
        have nd : (Value.type "list" == Value.type "dict") = false := by decide
        have hol := Heap.get?_push_of_some (set0 w) ol
        have hl1 : (s.heap.push (set0 w)).IsList l items := ⟨_, hol, rfl, on, rfl⟩
        unfold Builtin.«set.__init__» noKeywords Builtin.Frozenset.updateFrom
        generalize hPI : pyIter = PI
        wp_walk
        subst hPI
        refine wpAny_pyIter_list hl1 ?_
        refine wpAny_bind (wpAny_runValue ?_)
        have hh3 : A.in1.in1.in1.handled = none := by simp [hh]
        have sz : (s.heap.push (set0 w)).objs.size = s.heap.objs.size + 1 := Heap.size_push ..
        have ne1 : l ≠ (s.heap.push (set0 w)).objs.size := by rw [sz]; exact Nat.ne_of_lt (Nat.lt_succ_of_lt lt)
        have off : s.heap.objs.size ∉ [(s.heap.push (set0 w)).objs.size, l] := by
          rw [sz]
          simp only [List.mem_cons, List.mem_singleton, List.not_mem_nil, or_false, not_or]
          exact ⟨Nat.ne_of_lt (Nat.lt_succ_self _), Nat.ne_of_gt lt⟩
        have got : ∀ (i : Nat) (v : Value), items[i]? = some v → ∃ k t, ns[i]? = some k ∧ v = .int k t := fun i v hv => by
          have hi : i < ns.length := by rw [← len]; exact (Array.getElem?_eq_some_iff.mp hv).1
          obtain ⟨t, e⟩ := PyProof.Rows.IntsAre.int_at hit i v (by rw [Array.getElem?_toList]; exact hv)
          exact ⟨ns[i], t, List.getElem?_eq_getElem hi, by rw [e, List.getD_eq_getElem?_getD, List.getElem?_eq_getElem hi] <;> rfl⟩
        refine set_update_ints ((Walks.list hh3 _ l ne1 items).toS) s.heap.objs.size off ns len hb got (items.size - 0) 0 _ (by omega) (Nat.zero_le _) ⟨⟨_, Heap.get?_push_size _ rfl, rfl, rfl⟩, (hl1.push _)⟩ ?start ?fin
        case start => exact ⟨0, Nat.le_refl 0, setR_new_at (Heap.get?_push_of_some _ at0)⟩
        case fin =>
          intro s3 c3 m hc3 hS3
          obtain ⟨h3, g3, d3, k3, o3⟩ := s3
          obtain rfl : g3 = s.gens := m.gens
          obtain rfl : d3 = s.drawn := m.drawn
          obtain rfl : o3 = s.os := m.os
          show wpAny _ _ _ _ _ _
          refine wpAny_pure ?_
          show wpAny _ _ (PySem.ret Value.none) _ _ _
          rw [len] at hc3
          refine wpAny_pure ⟨rfl, h3, k3, c3, rfl, hS3, hc3, fun b o e => ?_⟩
          have lb : b < s.heap.objs.size := Heap.lt_size e
          exact m.heap b o (by
            rw [sz]
            simp only [List.mem_cons, List.mem_singleton, List.not_mem_nil, or_false, not_or]
            exact ⟨Nat.ne_of_lt lb, Nat.ne_of_lt (Nat.lt_succ_of_lt lb)⟩) (Heap.get?_push_of_some _ (Heap.get?_push_of_some _ e))
      · cases r2 with
        | error e => exact hr2
        | ok fl2 =>
          cases fl2 with
          | ret r =>
            obtain ⟨rfl, h', tk, c', rfl, hS', hc', hk'⟩ := hr2
            repeat (any_goals (first | assumption | wp_step))
            exact k _ _ _ hS' hc' hk'
          | _ => exact hr2.elim
    | _ => exact hr.elim
end
section
variable {K : PySem.W.Frag} {C : Nat → Addr} {T : XT} {F F' G G' : Hp} {A A' : List Addr} {s s1 : S} {σ : L2.St} {H : Hp} {M : List MO} {Q : VK} {X : Cx}
/-- set(x), x a list of ints: a thing of which only this is known -/
def rSetI (K : PySem.W.Frag) (w : World) : List V → Hp → VK → Prop := fun xs H Q => ∃ (l : Addr) (ns : List Int), xs = [V.ref l] ∧ SqL K H l (ns.map V.int) ∧ ns.length < 64 ∧
  ∀ a c, H a = none → c ≤ ns.length → Q (.ref a) (upd H a (SetO w a (fun j => decide (j ∈ ns)) c))
theorem cr_setI (hc : X.calm = true) : CallR X (.type "set") (rSetI X.K X.w) := by
  intro pins s σ H xs us Q I r h
  obtain ⟨l, ns, rfl, hl, hn, q⟩ := h
  obtain ⟨its, rv, pl, hz⟩ := I.list hl
  rw [Vals.ref1 r]
  refine set_of_ints ns (I.ok.hd hc) pl.isList (by simpa using rv.ints) (by unfold scanBound; omega) fun h' tk c hS hcn hk => ?_
  have fr := I.hok.fresh (Nat.le_refl s.heap.objs.size)
  exact ⟨.ref _, _, I.laid (t' := tk) hk (Nat.le_refl _) (setO_new hS), rfl, q _ c fr hcn⟩
theorem SimM.junk (m : SimM K C F A G M H) {p : Addr} {o : HO} (hp : H p = none) : SimM K C F A G M (upd H p o) := (m.guard hp).unguard (Ex.new (m.fresh hp).2.1)
/-! ### sorted(set(ints)) -/
def insU (x : Int) : List Int → List Int
  | [] => [x]
  | y :: r => if x < y then x :: y :: r else if x = y then y :: r else y :: insU x r
def uniqI (l : List Int) : List Int := l.foldr insU []
theorem mem_insU {x z : Int} : ∀ {l : List Int}, z ∈ insU x l ↔ z = x ∨ z ∈ l
  | [] => by simp [insU]
  | y :: r => by
    unfold insU
    split
    · simp
    · split
      · rename_i e
        subst e
        simp
      · rw [List.mem_cons, mem_insU, List.mem_cons]
        constructor
        · rintro (h | h | h)
          · exact .inr (.inl h)
          · exact .inl h
          · exact .inr (.inr h)
        · rintro (h | h | h)
          · exact .inr (.inl h)
          · exact .inl h
          · exact .inr (.inr h)
theorem pw_insU {x : Int} : ∀ {l : List Int}, l.Pairwise (· < ·) → (insU x l).Pairwise (· < ·)
  | [], _ => by simp [insU]
  | y :: r, h => by
    obtain ⟨h1, h2⟩ := List.pairwise_cons.mp h
    unfold insU
    split
    · rename_i hx
      exact List.pairwise_cons.mpr ⟨fun z hz => by
        rcases List.mem_cons.mp hz with e | hz
        · rw [e]; exact hx
        · exact Int.lt_trans hx (h1 z hz), h⟩
    · split
      · exact h
      · exact List.pairwise_cons.mpr ⟨fun z hz => by
          rcases mem_insU.mp hz with e | hz
          · omega
          · exact h1 z hz, pw_insU h2⟩
theorem mem_uniqI {z : Int} : ∀ {l : List Int}, z ∈ uniqI l ↔ z ∈ l
  | [] => by simp [uniqI]
  | x :: r => by
    show z ∈ insU x (uniqI r) ↔ _
    rw [mem_insU, mem_uniqI, List.mem_cons]
theorem pw_uniqI : ∀ {l : List Int}, (uniqI l).Pairwise (· < ·)
  | [] => by simp [uniqI]
  | x :: r => pw_insU pw_uniqI
theorem uniqI_eq {l m : List Int} (p : m.Pairwise (· < ·)) (h : ∀ z, z ∈ m ↔ z ∈ l) : m = uniqI l := by
  have nd : ∀ {a : List Int}, a.Pairwise (· < ·) → a.Nodup := fun q => q.imp fun z e => by omega
  have pm : m.Perm (uniqI l) := (List.perm_ext_iff_of_nodup (nd p) (nd pw_uniqI)).mpr fun z => (h z).trans mem_uniqI.symm
  exact List.Perm.eq_of_pairwise (le := fun a b => a < b) (fun a b _ _ h1 h2 => by omega) p pw_uniqI pm
def sortSetO (M : List MO) : List W → Option W
  | [w] => match asS M w with
    | some ds => match dInts ds with
      | some ns => if ns.length < 64 then some (.fz (.lst ((uniqI ns).map .int))) else none
      | none => none
    | none => none
  | _ => none
theorem pd_sortSet {e : Expr} {p p2 pos pos2 : Pos} {f : Mo (List W)} (hc : X.calm = true) (g1 : Gl X "sorted") (m1 : X.mg "sorted" = none) (g2 : Gl X "set") (m2 : X.mg "set" = none) (ha : PA X [e] (tA X.K C T f))
    (he : starEach [e] X.env = (false, eval e X.env) :: starEach [] X.env := by rfl) (hpl : (backTo pos2 (starEach [] X.env)).any (·.1) = false := by rfl)
    (he2 : starEach [.Call (.Name "set" p2) [e] [] pos2] X.env = (false, eval (.Call (.Name "set" p2) [e] [] pos2) X.env) :: starEach [] X.env := by rfl) (hpl2 : (backTo pos (starEach [] X.env)).any (·.1) = false := by rfl) :
    PE X (.Call (.Name "sorted" p) [.Call (.Name "set" p2) [e] [] pos2] [] pos) (tE X.K C T (opN sortSetO f)) :=
  (pe_callB (cr_sortedSet hc) g1 m1 PyProof.Rows.boot_sorted (pa_cons (pe_callTy (cr_setI hc) g2 m2 boot_set ha (he := he) (hpl := hpl)) pa_nil he2) (he := he2) (hpl := hpl2)).imp fun σ H Q ⟨F, A, G, s, hs, hq⟩ =>
    rd_go hs hq fun xs F1 A1 H1 s1 ws _ _ hs1 rs hq1 => by
      obtain ⟨w, ho, hq3⟩ := hq1.ofOE
      unfold sortSetO at ho
      split at ho
      · split at ho
        · rename_i ds hl
          split at ho
          · rename_i ns hn
            split at ho
            · rename_i h64
              cases ho
              obtain ⟨v, rfl, rv⟩ := rWs1 rs
              obtain ⟨a, vs, rfl, h1, h2⟩ := asS_ok hs1.mem rv hl
              rw [dInts_rep hn h2] at h1
              refine ⟨a, ns, rfl, h1, h64, fun b c hb hc' => ⟨b, _, c, rfl, upd_same, by omega, fun ns' p' pw hm _ hp => ?_⟩⟩
              have e : ns' = uniqI ns := uniqI_eq pw fun z => by rw [hm z]; simp
              subst e
              exact (hs1.mem.junk hb).newL hp reps_ints fun v F' H' e5 hs5 rv => hq3.at rfl e5 (List.prefix_refl A1) (hs1.of e5 (List.prefix_refl A1) hs5) rv
            · cases ho
          · cases ho
        · cases ho
      · cases ho

/-! ### list(d.items()) -/
def rItL : V → Hp → VK → Prop := fun x H Q => ∃ (d : Addr) (kvs : List (Key × V)), x = .ref d ∧ Rd H d (.dK kvs) ∧
  ∀ (H' : Hp) (p : Addr) (ts : List Addr), (∀ b o, H b = some o → H' b = some o) → H p = none → (∀ t ∈ ts, H t = none) → H' p = some (.lst (ts.map V.ref)) → Paired (fun (t : Addr) (q : Key × V) => H' t = some (.tup [kV q.1, q.2])) ts kvs → Q (.ref p) H'
theorem pe_itemsL {e : Expr} {te : TE} {p apos cpos pos : Pos} (hc : X.calm = true) (he : PE X e te) (hg : Gl X "list") (hm : X.mg "list" = none) (hbase : attributeBase e "items" X.env (eval e X.env) = eval e X.env := by rfl) (hline : (apos.endLine == cpos.line) = true := by rfl)
    (hs : starEach [.Call (.Attribute e "items" apos) [] [] cpos] X.env = (false, eval (.Call (.Attribute e "items" apos) [] [] cpos) X.env) :: starEach [] X.env := by rfl) :
    PE X (.Call (.Name "list" p) [.Call (.Attribute e "items" apos) [] [] cpos] [] pos) (fun σ H Q => te σ H fun x H1 => rItL x H1 Q) := by
  refine ⟨fun pins s σ H Q I hq => ?_⟩
  refine wpAny_Call_Name_kw (ld_blt I hg hm boot_list ?_)
  refine PyProof.Rows.callWith_type1 ?_ hs rfl
  rw [hs]
  show wpAny _ _ (spliced ((false, eval (.Call (.Attribute e "items" apos) [] [] cpos) X.env) :: backTo pos (starEach [] X.env))) _ _ s
  refine Calls.spliced_cons (wpAny_Call_method (T := "dict") (id := "dict.items") hbase rfl hline F.plainAttrs_dict F.slot_dict_items F.type_dict_items (thn (he.run pins s σ H _ I hq) fun u s1 ⟨x, H1, I1, rx, d, kvs, ex, hd, q⟩ => ?_))
  subst ex
  obtain rfl : u = Value.ref d := rx
  obtain ⟨z1, z2, vs, kv, dd⟩ := dk_rd I1.hok hd
  obtain ⟨ep, at1⟩ := dd.dictAt
  have ll : kvs.length = vs.length := Paired.length kv
  have I2 := I1.kept (h' := s1.heap.push { cls := .type "dict_items", data := .fields #[.ref d] }) (t' := s1.toks) fun b ob q => Heap.get?_push_of_some _ q
  refine ⟨dd.typeIs, dd.mapOf.noDict, ?_⟩
  show wpAny _ _ (callWith cpos (.builtin "dict.items") [.ref d] [] []) _ X.xe s1
  refine method_meetsIn F.slot_dict_items F.entry_dict_items rfl (PySem.evalArgs_none ⟨rfl, dd.typeIs, F.args_dict_items_1 _, _, meets_dict_items (mixKind X.prog X.w) d z2, ⟨vs, dd⟩, Calls.spliced_nil ?_⟩)
  refine PySem.W.kdx_call (knd := mixKind X.prog X.w) (kvs := vs) (ep := ep) (I1.ok.hd hc) ⟨_, Heap.get?_push_size _ rfl, rfl, rfl⟩ (at1.push _) (by omega) fun h' tk acc c as hk hS hl hG hacc => ?_
  obtain ⟨H', k1, k2, k3, k4, k5, k6, J⟩ := LiI.items_laid (tk := tk) I2 z1 kv hk hS hl hG hacc
  exact ⟨.ref _, H', J, rfl, q H' _ as k1 k2 k3 k5 k6⟩
def itemsL (f : Mo W) : Mo W := bnd f fun w => fun s => ofO ((asD s.m w).map fun kvs => .fz (.lst (kvs.map fun kv => .tup [kD kv.1, kv.2]))) s
theorem laid_reps {F1 : Hp} : ∀ {ds : List (Key × D)} {vs : List (Key × V)} {ts : List Addr}, RepK K F ds vs → Ex F F1 → Paired (fun (t : Addr) (q : Key × V) => F1 t = some (.tup [kV q.1, q.2])) ts vs → Reps K F1 (ds.map fun kv => .tup [kD kv.1, kv.2]) (ts.map V.ref)
  | _, _, _, .nil, _, .nil => .nil
  | _, _, _, .cons r t, e, .cons h p => .cons (.tup (.inl (.inl h)) (.cons rep_kD (.cons (r.mono e) .nil))) (laid_reps t e p)
theorem pd_itemsL {e : Expr} {p apos cpos pos : Pos} {f : Mo W} (hc : X.calm = true) (he : PE X e (tE X.K C T f)) (hg : Gl X "list") (hm : X.mg "list" = none) (hbase : attributeBase e "items" X.env (eval e X.env) = eval e X.env := by rfl) (hline : (apos.endLine == cpos.line) = true := by rfl)
    (hs : starEach [.Call (.Attribute e "items" apos) [] [] cpos] X.env = (false, eval (.Call (.Attribute e "items" apos) [] [] cpos) X.env) :: starEach [] X.env := by rfl) :
    PE X (.Call (.Name "list" p) [.Call (.Attribute e "items" apos) [] [] cpos] [] pos) (tE X.K C T (itemsL f)) :=
  (pe_itemsL hc he hg hm hbase hline hs).imp fun σ H Q ⟨F, A, G, s, hs, hq⟩ => rd_go hs hq fun x F1 A1 H1 s1 w1 _ _ hs1 rx hq1 => by
    obtain ⟨w, ho, hq4⟩ := hq1.ofOE
    obtain ⟨ds, hd, rfl⟩ := Option.map_eq_some_iff.mp ho
    obtain ⟨d, vs, rfl, h1, h2⟩ := asD_ok hs1.mem rx hd
    refine ⟨d, vs, rfl, h1, fun H' p' ts e1 e2 e3 e4 e5 => ?_⟩
    obtain ⟨eF, sm⟩ := hs1.mem.grow e1
    have inF : ∀ {b : Addr} {o : HO}, H1 b = none → H' b = some o → PD.grow F1 H1 H' b = some o := fun {b o} hb ho => by
      unfold PD.grow
      rw [hb]
      exact ho
    have pr : ∀ {ts : List Addr} {vs : List (Key × V)}, (∀ t ∈ ts, H1 t = none) → Paired (fun (t : Addr) (q : Key × V) => H' t = some (.tup [kV q.1, q.2])) ts vs → Paired (fun (t : Addr) (q : Key × V) => PD.grow F1 H1 H' t = some (.tup [kV q.1, q.2])) ts vs := by
      intro ts vs hn hp
      induction hp with
      | nil => exact .nil
      | cons h _ ih => exact .cons (inF (hn _ List.mem_cons_self) h) (ih fun t ht => hn t (List.mem_cons_of_mem _ ht))
    exact hq4.at rfl eF (List.prefix_refl _) (hs1.of eF (List.prefix_refl _) sm) (.fz (.lst (inF e2 e4) (laid_reps h2 eF (pr e3 e5))))

/-! ### displays of dicts -/
def pairsM : List (Mo W × Mo W) → Mo (List (Key × D))
  | [] => ret []
  | (k, v) :: r => bnd k fun kw => bnd v fun w => bnd (pairsM r) fun rest => ofO (match keyW kw, w with
    | some kk, .fz d => some ((kk, d) :: rest)
    | _, _ => none)
def RKV (K : PySem.W.Frag) (F : Hp) (_ : List Addr) (ds : List (Key × D)) (ps : List (V × V)) : Prop := ∃ ks : List (Key × V), ps = ks.map (fun kv => (kV kv.1, kv.2)) ∧ RepK K F ds ks
theorem pairs_rd : ∀ (prs : List (Mo W × Mo W)) {σ : L2.St} {H : Hp} {Q : List (V × V) → Hp → Prop}, rd K C T (RKV K) (pairsM prs) σ H Q → tPairs (prs.map fun p => (tE K C T p.1, tE K C T p.2)) σ H Q
  | [], σ, H, Q, ⟨F, A, G, s, hs, hq⟩ => hq.retE hs ⟨[], rfl, .nil⟩
  | (k, v) :: r, σ, H, Q, ⟨F, A, G, s, hs, hq⟩ => rd_go hs hq fun x F1 A1 H1 s1 kw _ _ hs1 rx hq1 => rd_go hs1 hq1 fun y F2 A2 H2 s2 w e2 p2 hs2 ry hq2 => pairs_rd r (rd_go hs2 hq2 fun ps F3 A3 H3 s3 rest e3 p3 hs3 rp hq3 => by
      obtain ⟨a, ho, hq4⟩ := hq3.ofOE
      split at ho
      · rename_i kk d hk
        cases ho
        obtain ⟨ks, rfl, rk⟩ := rp
        cases ry with
        | fz ry =>
          have ex := keyW_ok hk rx
          subst ex
          exact hq4.retE hs3 ⟨(kk, y) :: ks, rfl, .cons (ry.mono e3) rk⟩
      · cases ho)
def dispM (prs : List (Mo W × Mo W)) : Mo MO := bnd (pairsM prs) fun kvs => ofO (if kvs.length ≤ 15 then some (.dK (mergeD [] kvs)) else none)
theorem pd_disp {pos : Pos} {keys : List (Option Expr)} {values : List Expr} {prs : List (Mo W × Mo W)} (h : PPs X pos keys values (prs.map fun p => (tE X.K C XF p.1, tE X.K C XF p.2))) (hall : keys.all (·.isSome) = true) (hl : keys.length = values.length) (h0 : keys ≠ [])
    (h15 : keys.length ≤ 15) : PE X (.Dict keys values pos) (tNew X.K C XF (dispM prs)) :=
  (pe_disp h hall hl h0 h15).imp fun σ H Q ⟨F, A, G, s, hs, r, s', h1, h2⟩ => fun p hp => by
    have hr : ∃ kvs, pairsM prs s = some (.ok kvs, s') ∧ kvs.length ≤ 15 ∧ r = .ok (.dK (mergeD [] kvs)) := by
      cases r with
      | error x => exact h2.elim
      | ok m =>
        obtain ⟨kvs, s1, h3, h4⟩ := bnd_is h1
        obtain ⟨_, h5, h6, rfl⟩ := ofO_is h4
        split at h5
        · rename_i hl
          cases h5
          cases h6
          exact ⟨kvs, h3, hl, rfl⟩
        · cases h5
    obtain ⟨kvs, hp1, hlen, rfl⟩ := hr
    obtain ⟨fD, gD, aD⟩ := hs.mem.fresh hp
    refine pairs_rd prs ⟨F, A, upd G p (.dK []), s, ⟨hs.mem.guard hp, hs.len, hs.slot⟩, .ok kvs, s', hp1, fun ps F2 A2 H2 e2 p2 hs2 rp => ?_⟩
    obtain ⟨ks, rfl, rk⟩ := rp
    have hD := hs2.mem.gd p _ upd_same
    have f2 : F2 p = none := by
      cases hF : F2 p with
      | none => rfl
      | some u => have := hs2.mem.gF p u hF _ upd_same; cases this
    have a2 : p ∉ A2 := fun z => by have := hs2.mem.gA p z _ upd_same; cases this
    refine ⟨hD, ks, rfl, by rw [← rk.length]; exact hlen, ?_⟩
    have sm := (hs2.mem.gwrite (o' := .dK (mergeK [] ks)) f2 a2).rmv f2 a2 gD
    have hb := h2 (.dK (mergeK [] ks)) F2 A2 _ e2 p2 ⟨sm, hs2.len, hs2.slot⟩ ⟨_, rfl, rk.merge .nil⟩ p (by simp)
    rw [put_back upd_same] at hb
    exact hb
def dict0 : Mo MO := ret (.dK [])
theorem pd_dict0 {pos : Pos} : PE X (.Dict [] [] pos) (tNew X.K C T dict0) := pe_dnewK.imp fun σ H Q ⟨F, A, G, s, hs, hq⟩ => fun p hp => hq.retE hs ⟨[], rfl, .nil⟩ p hp

/-! ### names of the module, signs -/
theorem pd_gI {x : Str} {pos : Pos} {n : Int} (hg : Gl X x) (hm : ∃ t, X.mg x = some (.int n t)) (hd : (x == ("__debug__" : Str)) = false := by decide) : PE X (.Name x pos) (tE X.K C T (ck (.int n))) := by
  obtain ⟨t, hm⟩ := hm
  exact pe_ck (pe_glob (v := .int n) hg hm ⟨t, rfl⟩ hd) (.int n)
theorem pd_gS {x : Str} {pos : Pos} {z : Str} (hg : Gl X x) (hm : ∃ t, X.mg x = some (.str z t)) (hd : (x == ("__debug__" : Str)) = false := by decide) : PE X (.Name x pos) (tE X.K C T (ck (.str z))) := by
  obtain ⟨t, hm⟩ := hm
  exact pe_ck (pe_glob (v := .str z) hg hm ⟨t, rfl⟩ hd) (.str z)
theorem pd_int {i : Int} {j : Nat} {pos : Pos} : PE X (.Constant (.int i) j pos) (tE X.K C T (ck (.int i))) := pe_ck pe_int (.int i)
theorem pd_str {x : Str} {j : Nat} {pos : Pos} : PE X (.Constant (.str x) j pos) (tE X.K C T (ck (.str x))) := pe_ck pe_str (.str x)
theorem pd_bl {b : Bool} {j : Nat} {pos : Pos} : PE X (.Constant (.bool b) j pos) (tE X.K C T (ck (.bl b))) := pe_ck pe_bl (.bl b)
theorem pd_non {j : Nat} {pos : Pos} : PE X (.Constant .none j pos) (tE X.K C T (ck .non)) := pe_ck pe_non .non
def negM (f : Mo W) : Mo W := bnd f fun w => ofO (match w with
  | .fz (.int i) => some (.fz (.int (-i)))
  | _ => none)
theorem pd_neg {e : Expr} {pos : Pos} {f : Mo W} (h : PE X e (tE X.K C T f)) : PE X (.UnaryOp .USub e pos) (tE X.K C T (negM f)) := (pe_un un_neg h).imp fun σ H Q ⟨F, A, G, s, hs, hq⟩ => rd_go hs hq fun x F1 A1 H1 s1 w1 _ _ hs1 rx hq1 => by
  obtain ⟨w, ho, hq3⟩ := hq1.ofOE
  split at ho
  · cases ho
    exact ⟨_, rInt rx, hq3.retE hs1 (.fz (.int _))⟩
  · cases ho
end
end PD

/-! PDm: defs. -/
noncomputable section
namespace PD
open PySem L2 PyProof.Rows
/-- enough turns for a while -/
def FUEL : Nat := 20000000
/-- what a def does to the memory, by its arguments -/
abbrev Fn := List W → List MO → Option (Except Exc W × List MO)
/-- what a def hands back, without the garbage: an object that it made comes behind the memory that was -/
def retW (M : List MO) (w : W) (M1 : List MO) : Option (W × List MO) := match w with
  | .ob n => if n < M.length then (trunc M M1).map fun M2 => (.ob n, M2) else match M1[n]? with
    | some m => if noLab m = true then (trunc M M1).map fun M2 => (.ob M.length, M2 ++ [m]) else none
    | none => none
  | w => (trunc M M1).map fun M2 => (w, M2)
def start0 (n : Nat) (ws : List W) : List (Option W) := ws.map some ++ List.replicate (n - ws.length) none
def fnD (n : Nat) (b : Mo Fl) : Fn := fun ws M => match b ⟨start0 n ws, M⟩ with
  | some (.ok (.rt w), s) => (retW M w s.m).map fun p => (.ok p.1, p.2)
  | some (.ok .nx, s) => (retW M (.fz .non) s.m).map fun p => (.ok p.1, p.2)
  | _ => none
section
variable {K : PySem.W.Frag} {C : Nat → Addr} {F F' G : Hp} {A A' : List Addr} {H H0 : Hp} {M M1 : List MO}
theorem noLab_cut {m : MO} {o : HO} (h : HoRep K C F' A' m o) (q : noLab m = true) (A2 : List Addr) : HoRep K C F' A2 m o := by
  have z := h.cut (n := 0) (F := F') q
  rw [List.take_zero] at z
  exact z.mono (Ex.refl _) (List.nil_prefix)
theorem SimM.retW (h0 : SimM K C F A G M H0) (e : Ex F F') (p : A <+: A') (h : SimM K C F' A' G M1 H) {w w' : W} {M' : List MO} {v : V} (r : RepW K F' A' w v) (t : PD.retW M w M1 = some (w', M')) : ∃ A2, A <+: A2 ∧ SimM K C F' A2 G M' H ∧ RepW K F' A2 w' v := by
  cases r with
  | fz r =>
    obtain ⟨M2, h1, h2⟩ := Option.map_eq_some_iff.mp (show (trunc M M1).map (fun M2 => (W.fz _, M2)) = some (w', M') from t)
    cases h2
    exact ⟨A, List.prefix_refl _, h0.drop e p h h1, .fz r⟩
  | ad =>
    obtain ⟨M2, h1, h2⟩ := Option.map_eq_some_iff.mp (show (trunc M M1).map (fun M2 => (W.ad _, M2)) = some (w', M') from t)
    cases h2
    exact ⟨A, List.prefix_refl _, h0.drop e p h h1, .ad⟩
  | @ob n a ha =>
    have t : (if n < M.length then (trunc M M1).map (fun M2 => (W.ob n, M2)) else match M1[n]? with
      | some m => if noLab m = true then (trunc M M1).map (fun M2 => (W.ob M.length, M2 ++ [m])) else none
      | none => none) = some (w', M') := t
    split at t
    · rename_i hn
      obtain ⟨M2, h1, h2⟩ := Option.map_eq_some_iff.mp t
      cases h2
      refine ⟨A, List.prefix_refl _, h0.drop e p h h1, .ob ?_⟩
      obtain ⟨t2, rfl⟩ := p
      rw [List.getElem?_append_left (by rw [h0.len]; exact hn)] at ha
      exact ha
    · rename_i hn
      split at t
      · rename_i m hm
        split at t
        · rename_i nl
          obtain ⟨M2, h1, h2⟩ := Option.map_eq_some_iff.mp t
          cases h2
          have d := h0.drop e p h h1
          have hA : a ∉ A := fun z => by
            obtain ⟨j, hj⟩ := List.getElem?_of_mem z
            have hj' := pre_get p hj
            obtain ⟨l1, q1⟩ := List.getElem?_eq_some_iff.mp hj'
            obtain ⟨l2, q2⟩ := List.getElem?_eq_some_iff.mp ha
            have : j = n := (List.getElem_inj h.nd).mp (q1.trans q2.symm)
            have l3 := (List.getElem?_eq_some_iff.mp hj).1
            rw [h0.len] at l3
            omega
          have lM2 : M2.length = A.length := d.len.symm
          obtain ⟨o, ho, ro⟩ := h.ob n a m ha hm
          have cs : ∀ {k : Nat} {b : Addr} {mo : MO}, (A ++ [a])[k]? = some b → (M2 ++ [m])[k]? = some mo → (A[k]? = some b ∧ M2[k]? = some mo) ∨ (b = a ∧ mo = m) := fun {k b mo} e1 e2 => by
            by_cases hk : k < A.length
            · rw [List.getElem?_append_left hk] at e1
              rw [List.getElem?_append_left (by rw [lM2]; exact hk)] at e2
              exact .inl ⟨e1, e2⟩
            · rw [List.getElem?_append_right (by omega)] at e1 e2
              have z : k - A.length = 0 := by
                have := (List.getElem?_eq_some_iff.mp e1).1
                simp at this
                omega
              rw [lM2] at e2
              rw [z] at e1 e2
              simp at e1 e2
              exact .inr ⟨e1.symm, e2.symm⟩
          refine ⟨A ++ [a], List.prefix_append _ _, ⟨d.ex, d.gd, by simp [lM2], List.nodup_append.mpr ⟨d.nd, by simp, fun x hx y hy => by simp at hy; subst hy; exact fun z => hA (z ▸ hx)⟩, fun k b mo e1 e2 => ?_, fun k b mo e1 e2 e3 => ?_, d.gF, fun b hb o2 g => ?_⟩, .ob ?_⟩
          · rcases cs e1 e2 with ⟨e1, e2⟩ | ⟨rfl, rfl⟩
            · obtain ⟨o2, q1, q2⟩ := d.ob k b mo e1 e2
              exact ⟨o2, q1, q2.mono (Ex.refl _) (List.prefix_append _ _)⟩
            · exact ⟨o, ho, noLab_cut ro nl _⟩
          · rcases cs e1 e2 with ⟨e1, e2⟩ | ⟨rfl, rfl⟩
            · exact d.own k b mo e1 e2 e3
            · exact h.own n b mo ha hm e3
          · rcases List.mem_append.mp hb with hb | hb
            · exact d.gA b hb o2 g
            · obtain rfl : b = a := by simpa using hb
              exact h.gA b (List.mem_of_getElem? ha) o2 g
          · rw [← h0.len]
            simp
        · cases t
      · cases t
/-- a, b, .. = x, y, ..: one behind the other, the tuple forgotten -/
def parG (n : Nat) (f : Mo (List W)) (g : List W → Mo Unit) : Mo Fl := bnd f fun ws => if ws.length = n ∧ n ≤ LIM then bnd (g ws) fun _ => nxS else fun _ => none
theorem OutS.tgts {T : XT} {s : S} {σ : L2.St} {g : List W → Mo Unit} {ws : List W} {vs : List V} {k : Unit → Mo Fl} {D : Ends} {Q : L2.St → Hp → Prop} (h : OutS K C T F A G (PD.bnd (g ws) k s) D) (hs : Sim K C F A G s σ H) (r : RepWs K F A ws vs)
    (step : ∀ F1 A1 H1 s1 σ1, Ex F F1 → A <+: A1 → Sim K C F1 A1 G s1 σ1 H1 → OutS K C T F1 A1 G (k () s1) D → Q σ1 H1) : tGs K C T g vs σ H Q := by
  refine ⟨F, A, G, s, ws, hs, r, ?_⟩
  cases hf : g ws s with
  | none =>
    rw [bnd_no hf] at h
    obtain ⟨r, s', h1, h2⟩ := h
    cases h1
  | some q =>
    obtain ⟨r, s1⟩ := q
    refine ⟨r, s1, rfl, ?_⟩
    cases r with
    | error e =>
      rw [bnd_er hf] at h
      obtain ⟨r, s', h1, h2⟩ := h
      cases h1
      exact h2
    | ok a =>
      rw [bnd_ok hf] at h
      exact fun σ1 F1 A1 H1 e p hs => step F1 A1 H1 s1 σ1 e p hs (h.mono e p)
theorem pd_parG {X : Cx} {T : XT} {ts es : List Expr} {k1 k2 n : Nat} {p1 p2 pos : Pos} {f : Mo (List W)} {g : List W → Mo Unit} (hc : X.calm = true) (ha : PA X es (tA X.K C T f)) (hg : PGs X ts (tGs X.K C T g))
    (hn : (assignEach ts X.env).length = n := by rfl) (hst : (assignEach ts X.env).findIdx? (·.1) = none := by rfl) (hs : swapsWithSole [.Tuple ts k1 p1] (.Tuple es k2 p2) pos.line X.env = pure false := by rfl) (hw : swappedStores [.Tuple ts k1 p1] (.Tuple es k2 p2) X.env = pure none := by rfl)
    (h1 : (assignEach [.Tuple ts k1 p1] X.env).map (·.2) = [assign (.Tuple ts k1 p1) X.env] := by rfl) : PS X (.Assign [.Tuple ts k1 p1] (.Tuple es k2 p2) pos) (tS X.K C T (parG n f g)) :=
  (ps_asg (pe_tup ha) (pg_tup hc hg hn hst) hs hw h1).imp fun D σ H ⟨F, A, G, s, hs, hq⟩ => rdS_go hs hq fun xs F1 A1 H1 s1 ws _ _ hs1 rs hq1 => by
    split at hq1
    · rename_i hl
      refine ⟨lim_ok (by rw [← Paired.length rs, hl.1]; exact hl.2), fun p hp => ⟨p, xs, rfl, .inl (.inl upd_same), by rw [← Paired.length rs]; exact hl.1, ?_⟩⟩
      exact OutS.tgts hq1 ⟨hs1.mem.junk hp, hs1.len, hs1.slot⟩ rs fun F2 A2 H2 s2 σ2 e2 p2 hs2 hq2 => hq2.nx hs2
    · obtain ⟨_, _, z, _⟩ := hq1
      cases z
/-- name = {..} on one line, the name a local -/
theorem sw_dict {kx vx : Expr} {gs : List Comprehension} {scope : Scope} {pos py : Pos} {y : Str} {l : Nat} {env : Env} (hk : env.scope.kind = .function) (hy : env.scope.names.lookup y = some .local) (hl : (py.line == pos.line) = true)
    (ha : (scope.names.any fun (n, k) => n == y && (k == .local || k == .cell)) = false) : swapsWith (.DictComp kx vx gs scope pos) (some (.Name y py)) l env = pure true := by
  have k1 : env.kindOf y = some .local := hy
  have k2 : env.blockKind = .function := by unfold Env.blockKind; rw [hk]; rfl
  unfold swapsWith
  simp only [k2, k1, ha, Expr.pos, hl]
  rfl
theorem pd_setDc {X : Cx} {T : XT} {i : Nat} {y : Str} {py : Pos} {kx vx tg iter : Expr} {ifs : List Expr} {scope : Scope} {own : List (Str × Nat)} {pos spos : Pos} {f : Mo Wk} {g : W → Mo Unit} {t : Mo Bool} {k e : Mo W} {h : Mo MO → Mo W} (hh : h = frz ∨ h = newO) (hc : X.calm = true) (hN : X.N.Nodup) (hy : X.N[i]? = some y) (hyl : X.env.scope.names.lookup y = some .local)
    (hsw : swapsWith (.DictComp kx vx [⟨tg, iter, ifs, 0⟩] scope pos) (some (.Name y py)) spos.line X.env = pure true) (hi : PI X tg iter (tIt X.K C T f)) (ok : BlkOk X.N X.env.scope scope own)
    (hg : ∀ (s : Shared) (H : Hp) (C' : Addr) (cl : List (Str × Addr)) (fp : List Addr), PG (X.blk s H scope (compEnvC scope cl C' X.env) fp) tg (tGC X.K C (own.map (·.2)) g)) (ht : ∀ (s : Shared) (H : Hp) (C' : Addr) (cl : List (Str × Addr)) (fp : List Addr), PTs (X.blk s H scope (compEnvC scope cl C' X.env) fp) ifs (tT X.K C XF t))
    (hk : ∀ (s : Shared) (H : Hp) (C' : Addr) (cl : List (Str × Addr)) (fp : List Addr), PE (X.blk s H scope (compEnvC scope cl C' X.env) fp) kx (tE X.K C XF k))
    (he : ∀ (s : Shared) (H : Hp) (C' : Addr) (cl : List (Str × Addr)) (fp : List Addr), PE (X.blk s H scope (compEnvC scope cl C' X.env) fp) vx (tE X.K C XF e)) (hs : ∀ x, foldedSetIterable iter X.env x = pure x := by intro _; rfl) :
    PS X (.Assign [.Name y py] (.DictComp kx vx [⟨tg, iter, ifs, 0⟩] scope pos) spos) (tS X.K C T (asgS (h (dcM f (own.map (·.2)) g t k e)) (gNm i))) := by
  refine ⟨fun pins s σ H D I hq => ?_⟩
  have hq2 : tDc (tIt X.K C T f) (tGC X.K C (own.map (·.2)) g) (tT X.K C XF t) (tE X.K C XF k) (tE X.K C XF e) (own.map (·.2)) σ H (fun x H1 => gName i x σ H1 D.nx) := by
    rcases hh with rfl | rfl
    · exact dc_rd (tE_frz (asg_name hq))
    · exact dc_rd (tE_new (asg_name hq))
  rw [exec_Assign_Name_used _ _ _ _ hsw]
  refine wpAny_bind (wpAny_standAt (wpAny_bind ?_))
  show wpAny _ X.A (do let _ ← comprehension (.DictComp kx vx [⟨tg, iter, ifs, 0⟩] scope pos) scope X.env (firstIterPos [⟨tg, iter, ifs, 0⟩] pos) newDict false (eval iter X.env) (some (assign (.Name y py) X.env))) _ _ s
  refine wpAny_bind (thn (dc_core (Qf := fun _ s' => SP X pins D .next s') hc hN I hi ok hg ht hk he hs hq2 fun L B s' m H' I' q hn fo => ?_) fun _ s' z => wpAny_pure (wpAny_pure z))
  show wpAny _ _ (assign (.Name y py) X.env (.ref L)) _ _ _
  refine wpAny_assign_Name (store_ok2 (v := V.ref L) I' hN hy (.inl hyl) rfl (fun s2 I2 ⟨a, sb, ha⟩ => ?_) (.inr hyl))
  obtain ⟨f0, f1, f2, f3, f4, f5⟩ := fo
  have ne : B ≠ a := by
    rcases ha with z | z
    · rw [z]; exact f1
    · exact fun e => f4 y a z e.symm
  exact ⟨m, hn.sameBut sb ne, fun h3 sb3 => ⟨_, H', I2.turned (t' := s2.toks) (fun b o hb e => (sb3.2 b hb).trans e) f0 f1 f3 f4 f5, q⟩⟩
/-- a def's promise -/
def spD (K : PySem.W.Frag) (C : Nat → Addr) (n : Nat) (g : Fn) : Sp := fun vs H Q _ => ∃ F A G M ws w M', SimM K C F A G M H ∧ RepWs K F A ws vs ∧ ws.length = n ∧ g ws M = some (.ok w, M') ∧
  ∀ v F' A' H', Ex F F' → A <+: A' → SimM K C F' A' G M' H' → RepW K F' A' w v → Q v H'
theorem spD_len {n : Nat} {g : Fn} {vs : List V} {H : Hp} {Q : VK} {E : XK} (h : spD K C n g vs H Q E) : vs.length = n := by
  obtain ⟨F, A, G, M, ws, w, M', _, h2, h3, _⟩ := h
  rw [← Paired.length h2, h3]
theorem start_sim {N : List Str} {vs : List V} {ws : List W} {n : Nat} (h : SimM K C F A G M H) (r : RepWs K F A ws vs) : Sim K C F A G ⟨start0 N.length ws, M⟩ (L2.start N vs) H := by
  have lw := Paired.length r
  refine ⟨h, ?_, fun i w hw => ?_⟩
  · show (start0 N.length ws).length = (L2.start N vs).length
    unfold start0 L2.start
    simp [lw]
  · have hw : (start0 N.length ws)[i]? = some (some w) := hw
    unfold start0 at hw
    unfold L2.start
    by_cases hi : i < ws.length
    · rw [List.getElem?_append_left (by simpa using hi), List.getElem?_map] at hw
      rw [List.getElem?_append_left (by simpa [← lw] using hi), List.getElem?_map]
      obtain ⟨w', h1, h2⟩ := Option.map_eq_some_iff.mp hw
      cases h2
      obtain ⟨v, h3, h4⟩ := RepWs.get r h1
      exact ⟨v, by rw [h3]; rfl, h4⟩
    · rw [List.getElem?_append_right (by simpa using hi), List.getElem?_replicate] at hw
      split at hw <;> cases hw
theorem fnD_ok {P : Program} {w : World} {mg : Str → Option Value} {base : Heap} {x qual : Str} {st : Stmt} {f : Addr} {fd : FuncData} {N ps : List Str} {k n n0 : Nat} {b : Mo Fl} {g : Fn} (Fu : Fun K x qual st f fd) (S : FnScope N ps (defScope st)) (hn : ps.length = n) (h0 : N.length = n0) (hg : g = fnD n0 b)
    (hbody : ∀ (cdv : Value) (A : Around) (outer : List Env) (s : Shared) (H : Hp) (E : XK), Room k (A.deeper (envOfC qual (defScope st) s.heap.objs.size f cdv)) →
      PSs (cxOf CX0 P w K mg base N qual (defScope st) f cdv A outer s H E).nox (defBody st) (tS K C XF b)) : FnOk P w K mg base CX0 (k + 1) f fd ps (spD K C n g) := by
  subst hg h0
  refine Fu.ok S (fun vs H Q E h => by rw [hn]; exact spD_len h) fun cdv A outer s H vs Q E hr ⟨F, A0, G, M, ws, w, M', h1, h2, h3, h4, h5⟩ => ⟨_, hbody cdv A outer s H E hr, ?_⟩
  unfold fnD at h4
  refine ⟨F, A0, G, _, start_sim (n := n) (N := N) h1 h2, ?_⟩
  cases hb : b ⟨start0 N.length ws, M⟩ with
  | none => rw [hb] at h4; cases h4
  | some q =>
    obtain ⟨r, s'⟩ := q
    rw [hb] at h4
    refine ⟨r, s', rfl, ?_⟩
    rcases r with e | fl
    · cases h4
    · cases fl with
      | rt w0 =>
        obtain ⟨⟨w1, M1⟩, h6, h7⟩ := Option.map_eq_some_iff.mp h4
        cases h7
        intro v σ' F' A' H' e p hs r
        obtain ⟨A2, p2, sm, rr⟩ := h1.retW e p hs.mem r h6
        exact h5 v F' A2 H' e p2 sm rr
      | nx =>
        obtain ⟨⟨w1, M1⟩, h6, h7⟩ := Option.map_eq_some_iff.mp h4
        cases h7
        intro σ' F' A' H' e p hs
        obtain ⟨A2, p2, sm, rr⟩ := h1.retW e p hs.mem (.fz .non) h6
        exact h5 .non F' A2 H' e p2 sm rr
      | bk => cases h4
      | ct => cases h4
/-- a def of the module as it stands, under its name -/
structure DefAt (K : PySem.W.Frag) (mg : Str → Option Value) (x : Str) (st : Stmt) (ps : List Str) where
  a : Addr
  d : FuncData
  F : L2.Fun K x x st a d
  m : mg x = some (.ref a)
  b : Binds K d ps []
/-- f(..) -/
def callF (n : Nat) (g : Fn) (f : Mo (List W)) : Mo W := bnd f fun ws => fun s => if ws.length = n then (match g ws s.m with
  | some (.ok w, M) => some (.ok w, { s with m := M })
  | _ => none) else none
theorem pd_call {X : Cx} {T : XT} {n k j : Nat} {fa : Addr} {fd : FuncData} {ps : List Str} {g : Fn} {x : Str} {p pos : Pos} {e : Expr} {es : List Expr} {f : Mo (List W)} (Fo : FnOk X.prog X.w X.K X.mg X.base CX0 k fa fd ps (spD X.K C n g)) (hr : Room j X.A) (hk : k ≤ j) (hg : Gl X x) (hm : X.mg x = some (.ref fa)) (kp : PySem.W.keepIn X.K (.ref fa) = true) (hb : Binds X.K fd ps [])
    (ha : PA X (e :: es) (tA X.K C T f)) (hdb : (x == ("__debug__" : Str)) = false := by decide) (he : starEach (e :: es) X.env = (false, eval e X.env) :: starEach es X.env := by rfl) (hpl : (backTo pos (starEach es X.env)).any (·.1) = false := by rfl) : PE X (.Call (.Name x p) (e :: es) [] pos) (tE X.K C T (callF n g f)) :=
  (pe_call Fo (hr.mono hk) hg hm kp hb .nil pass0 ha hdb he hpl).imp fun σ H Q ⟨F, A, G, s, hs, hq⟩ => rd_go hs hq fun xs F1 A1 H1 s1 ws _ _ hs1 rs hq1 => by
    obtain ⟨r, s', h1, h2⟩ := hq1
    split at h1
    · rename_i hn
      split at h1
      · rename_i w M hM
        cases h1
        refine ⟨F1, A1, G, s1.m, ws, w, M, hs1.mem, by rw [List.append_nil]; exact rs, hn, hM, fun v F' A' H' e p sm r => h2 v F' A' H' e p (hs1.of e p sm) r⟩
      · cases h1
    · cases h1
end
/-- a law's own promise, from what its def computes on every script -/
theorem law_end {g : Fn} {n : Nat} (h : ∀ ns : List Int, ns.length ≤ n → ∃ M', g [.fz (.sl (ns.map .int))] [] = some (.ok (.fz (.bl true)), M')) (K : PySem.W.Frag) (C : Nat → Addr) (H : Hp) (a : Addr) (ns : List Int) (hl : ns.length ≤ n) (hs : SqL K H a (ns.map V.int)) (E : XK) :
    spD K C 1 g [.ref a] H (fun v _ => v = .bl true) E := by
  obtain ⟨M', hM⟩ := h ns hl
  refine ⟨fun b => if b = a then H a else none, [], fun _ => none, [], [.fz (.sl (ns.map .int))], _, M', ⟨fun b u e => ?_, fun b u e => ?_, rfl, .nil, fun n b m e => ?_, fun n b m e => ?_, fun b u _ o e => ?_, fun b hb => ?_⟩, .cons (.fz (.sl (vs := ns.map V.int) ?_ reps_ints)) .nil, rfl, hM, fun v F' A' H' _ _ _ r => ?_⟩
  · have e : (if b = a then H a else none) = some u := e
    split at e
    · rename_i hb
      rw [hb]
      exact .inl e
    · cases e
  · cases e
  · simp at e
  · simp at e
  · cases e
  · simp at hb
  · rcases hs with (h | ⟨o, h⟩) | h
    · exact .inl (.inl (by show (if a = a then H a else none) = _; rw [if_pos rfl]; exact h))
    · exact .inl (.inr ⟨o, by show (if a = a then H a else none) = _; rw [if_pos rfl]; exact h⟩)
    · exact .inr h
  · exact rBl r
end PD

/-! PDn: exceptions of the program's own classes; setdefault, update, isinstance, index. -/
noncomputable section
namespace PD
open PySem L2 PyProof.Rows
theorem tk0 {X : Cx} : Takes X (fun _ _ _ _ => False) := fun _ _ x => by
  obtain ⟨_, _, _, _, _, _, _, _, _, _, _, _, _, _, _, _, z⟩ := x
  exact z.elim
section
variable {K : PySem.W.Frag} {C : Nat → Addr} {F F' G G' : Hp} {A A' : List Addr} {s s1 : S} {σ : L2.St} {H : Hp} {M : List MO}
/-- what is wished of an exception, from the kit's wish -/
def XW (K : PySem.W.Frag) (C : Nat → Addr) (W : WX) : XT where
  p F A G e s := e.fs = [] ∧ ∀ σ' F' A' H', Ex F F' → A <+: A' → Sim K C F' A' G s σ' H' → W (.ref (C e.c)) none σ' H'
  mono := fun e p h => ⟨h.1, fun σ' F' A' H' e2 p2 hs => h.2 σ' F' A' H' (e.trans e2) (p.trans p2) hs⟩
  gm := fun eg h => ⟨h.1, fun σ' F' A' H' e2 p2 hs => h.2 σ' F' A' H' e2 p2 (hs.unguard eg)⟩
/-- T wishes no less -/
def XT.le (T T' : XT) : Prop := ∀ F A G e s, T.p F A G e s → T'.p F A G e s
theorem XT.le_refl {T : XT} : T.le T := fun _ _ _ _ _ h => h
theorem XT.le_F {T : XT} : XF.le T := fun _ _ _ _ _ h => h.elim
end
section
variable {X : Cx} {C : Nat → Addr}
/-- raise X('..') -/
def rsS (c : Nat) : Mo Fl := fun s => some (.error ⟨c, []⟩, s)
theorem pd_raise {W : WX} {c : Nat} {x m : Str} {j : Nat} {p p2 pos pos' : Pos} {bmB : List Value} {B newId initId : String} (hc : X.calm = true) (tk : Takes X W) (Fb : ExcBaseFacts B newId initId bmB) (q : PySem.W.excIn X.K (C c) bmB newId = true) (gC : X.mg x = some (.ref (C c))) (kC : PySem.W.keepIn X.K (.ref (C c)) = true) (r : Raises X (.ref (C c))) (hg : Gl X x)
    (hdb : (x == ("__debug__" : Str)) = false := by decide) : PS X (.Raise (some (.Call (.Name x p) [.Constant (.str m) j p2] [] pos)) none pos') (tS X.K C (XW X.K C W) (rsS c)) :=
  (ps_raise hc tk (pmk_own Fb q gC kC r hg hdb)).imp fun D σ H ⟨F, A, G, s, hs, r, s', h1, h2⟩ => by
    cases h1
    exact h2.2 σ F A H (Ex.refl F) (List.prefix_refl A) hs
/-- what a def that may raise promises -/
def spX (K : PySem.W.Frag) (C : Nat → Addr) (n : Nat) (g : Fn) : Sp := fun vs H Q E => ∃ F A G M ws r M', SimM K C F A G M H ∧ RepWs K F A ws vs ∧ ws.length = n ∧ g ws M = some (r, M') ∧ match r with
  | .ok w => ∀ v F' A' H', Ex F F' → A <+: A' → SimM K C F' A' G M' H' → RepW K F' A' w v → Q v H'
  | .error e => e.fs = [] ∧ ∀ F' A' H', Ex F F' → A <+: A' → SimM K C F' A' G M' H' → E (.ref (C e.c)) none H'
/-- f(..), that may raise -/
def callX (n : Nat) (g : Fn) (f : Mo (List W)) : Mo W := bnd f fun ws => fun s => if ws.length = n then (match g ws s.m with
  | some (.ok w, M) => some (.ok w, { s with m := M })
  | some (.error e, M) => some (.error e, { s with m := M })
  | none => none) else none
theorem pd_callX {T : XT} {Wx : WX} {n k j : Nat} {fa : Addr} {fd : FuncData} {ps : List Str} {g : Fn} {x : Str} {p pos : Pos} {e : Expr} {es : List Expr} {f : Mo (List W)} (Fo : FnOk X.prog X.w X.K X.mg X.base (L2.CX X.prog X.w) k fa fd ps (spX X.K C n g)) (hr : Room j X.A) (hk : k ≤ j) (hg : Gl X x) (hm : X.mg x = some (.ref fa)) (kp : PySem.W.keepIn X.K (.ref fa) = true) (hb : Binds X.K fd ps [])
    (tk : Takes X Wx) (hT : T.le (XW X.K C Wx))
    (ha : PA X (e :: es) (tA X.K C T f)) (hdb : (x == ("__debug__" : Str)) = false := by decide) (he : starEach (e :: es) X.env = (false, eval e X.env) :: starEach es X.env := by rfl) (hpl : (backTo pos (starEach es X.env)).any (·.1) = false := by rfl) : PE X (.Call (.Name x p) (e :: es) [] pos) (tE X.K C T (callX n g f)) :=
  (pe_callS (E := WE Wx) Fo (hr.mono hk) hg hm kp hb (fun σ => passAt tk σ) ha hdb he hpl).imp fun σ H Q ⟨F, A, G, s, hs, hq⟩ => rd_go hs hq fun xs F1 A1 H1 s1 ws _ _ hs1 rs hq1 => by
    obtain ⟨r, s', h1, h2⟩ := hq1
    split at h1
    · rename_i hn
      split at h1
      · rename_i w M hM
        cases h1
        exact ⟨F1, A1, G, s1.m, ws, .ok w, M, hs1.mem, rs, hn, hM, fun v F' A' H' e p sm r => h2 v F' A' H' e p (hs1.of e p sm) r⟩
      · rename_i e M hM
        cases h1
        have h3 := hT _ _ _ _ _ h2
        exact ⟨F1, A1, G, s1.m, ws, .error e, M, hs1.mem, rs, hn, hM, h3.1, fun F' A' H' e p sm => h3.2 σ F' A' H' e p (hs1.of e p sm)⟩
      · cases h1
    · cases h1
/-- a def that may raise, from its body -/
def fnX (n : Nat) (b : Mo Fl) : Fn := fun ws M => match b ⟨start0 n ws, M⟩ with
  | some (.ok (.rt w), s) => (retW M w s.m).map fun p => (.ok p.1, p.2)
  | some (.ok .nx, s) => (retW M (.fz .non) s.m).map fun p => (.ok p.1, p.2)
  | some (.error e, s) => if e.fs.isEmpty = true then (trunc M s.m).map fun M2 => (.error e, M2) else none
  | _ => none
theorem spX_len {K : PySem.W.Frag} {n : Nat} {g : Fn} {vs : List V} {H : Hp} {Q : VK} {E : XK} (h : spX K C n g vs H Q E) : vs.length = n := by
  obtain ⟨_, _, _, _, _, _, _, _, h2, h3, _⟩ := h
  rw [← Paired.length h2, h3]
theorem fnX_ok {P : Program} {w : World} {K : PySem.W.Frag} {mg : Str → Option Value} {base : Heap} {x qual : Str} {st : Stmt} {f : Addr} {fd : FuncData} {N ps : List Str} {k n n0 : Nat} {b : Mo Fl} {g : Fn} (Fu : Fun K x qual st f fd) (S : FnScope N ps (defScope st)) (hn : ps.length = n) (h0 : N.length = n0) (hg : g = fnX n0 b)
    (hbody : ∀ (cdv : Value) (A : Around) (outer : List Env) (s : Shared) (H : Hp) (E : XK), Room k (A.deeper (envOfC qual (defScope st) s.heap.objs.size f cdv)) →
      PSs (cxOf (L2.CX P w) P w K mg base N qual (defScope st) f cdv A outer s H E) (defBody st) (tS K C (XW K C fun cls d _ H => E cls d H) b)) : FnOk P w K mg base (L2.CX P w) (k + 1) f fd ps (spX K C n g) := by
  subst hg h0
  obtain ⟨oc, od, kV, doc, pm, an, cdv, ct, osl, rfl, lk, hcd⟩ := Fu.ex
  refine fn_of lk hcd S (fun vs H Q E h => by rw [hn]; exact spX_len h) fun A outer s H vs Q E hr ⟨F, A0, G, M, ws, r, M', h1, h2, h3, h4, h5⟩ => ⟨_, hbody cdv A outer s H E hr, ?_⟩
  unfold fnX at h4
  refine ⟨F, A0, G, _, start_sim (n := n) (N := N) h1 h2, ?_⟩
  cases hb : b ⟨start0 N.length ws, M⟩ with
  | none => rw [hb] at h4; cases h4
  | some q =>
    obtain ⟨r, s'⟩ := q
    rw [hb] at h4
    refine ⟨r, s', rfl, ?_⟩
    rcases r with e | fl
    · have h4 : (if e.fs.isEmpty = true then (trunc M s'.m).map fun M2 => ((.error e : Except Exc W), M2) else none) = some _ := h4
      split at h4
      · rename_i hf
        obtain ⟨M2, h6, h7⟩ := Option.map_eq_some_iff.mp h4
        cases h7
        refine ⟨List.isEmpty_iff.mp hf, fun σ' F' A' H' e2 p2 hs => h5.2 F' A0 H' e2 (List.prefix_refl _) (h1.drop e2 p2 hs.mem h6)⟩
      · cases h4
    · cases fl with
      | rt w0 =>
        obtain ⟨⟨w1, M1⟩, h6, h7⟩ := Option.map_eq_some_iff.mp h4
        cases h7
        intro v σ' F' A' H' e p hs r
        obtain ⟨A2, p2, sm, rr⟩ := h1.retW e p hs.mem r h6
        exact h5 v F' A2 H' e p2 sm rr
      | nx =>
        obtain ⟨⟨w1, M1⟩, h6, h7⟩ := Option.map_eq_some_iff.mp h4
        cases h7
        intro σ' F' A' H' e p hs
        obtain ⟨A2, p2, sm, rr⟩ := h1.retW e p hs.mem (.fz .non) h6
        exact h5 .non F' A2 H' e p2 sm rr
      | bk => cases h4
      | ct => cases h4
/-- try: .. except X: .. (the suite raises nothing) -/
def tryS (b : Mo Fl) (c : Nat) (h : Mo Fl) : Mo Fl := fun s => match b s with
  | some (.error e, s1) => if e.c = c ∧ e.fs.isEmpty = true then (match h s1 with
    | some (.ok f, s2) => some (.ok f, s2)
    | _ => none) else none
  | r => r
theorem pd_try {T : XT} {x : Str} {c : Nat} {body suite : List Stmt} {b₀ : Stmt} {np pos pos' : Pos} {b h : Mo Fl} (hs : X.stack = X.env :: X.outer) (hf : X.env.frame = some X.env.locals) (hc : Names X x (.ref (C c))) (eP : PySem.W.exmOne X.K (.ref (C c)) (.ref (C c)) = some true)
    (hb : ∀ (W : WX) (pn : List (Addr × Obj)) (xe : Value → Shared → Prop), Takes (X.tr pn xe) W → PassesOwn (model X.prog X.w) X.A X.env xe → PSs (X.tr pn xe) body (tS X.K C (XW X.K C W) b))
    (hsu : ∀ (a : Addr) (oe : Obj) (cls : Value) (d : Option Addr) (pn : List (Addr × Obj)), PSs (X.suite a ((a, oe) :: pn)) (b₀ :: suite) (tS X.K C XF h)) :
    PS X (.Try body [.ExceptHandler (some (.Name x np)) none (b₀ :: suite) pos'] [] [] pos) (tS X.K C T (tryS b c h)) :=
  (ps_try_only (ts := fun _ _ _ => tS X.K C XF h) hs hf hc tk0 hb (fun a oe cls d pn _ _ => hsu a oe cls d pn)).imp fun D σ H ⟨F, A, G, s, hsm, r, s', h1, h2⟩ => by
    refine ⟨F, A, G, s, hsm, ?_⟩
    unfold tryS at h1
    cases hbs : b s with
    | none => rw [hbs] at h1; cases h1
    | some q =>
      obtain ⟨r1, s1⟩ := q
      rw [hbs] at h1
      cases r1 with
      | ok fl =>
        cases h1
        refine ⟨.ok fl, _, rfl, ?_⟩
        cases fl <;> exact h2
      | error e =>
        have h9 : (if e.c = c ∧ e.fs.isEmpty = true then (match h s1 with
          | some (.ok f, s2) => some ((.ok f : Except Exc Fl), s2)
          | _ => none) else none) = some (r, s') := h1
        by_cases hec : e.c = c ∧ e.fs.isEmpty = true
        · rw [if_pos hec] at h9
          obtain ⟨hec, hfs⟩ := hec
          subst hec
          cases hh : h s1 with
          | none => rw [hh] at h9; cases h9
          | some q2 =>
            obtain ⟨r2, s2⟩ := q2
            rw [hh] at h9
            cases r2 with
            | error e2 => cases h9
            | ok f =>
              cases h9
              refine ⟨.error e, s1, rfl, List.isEmpty_iff.mp hfs, fun σ' F' A' H' e2 p2 hs' => ⟨true, eP, fun _ a _ => ⟨F', A', G, s1, hs', .ok f, _, hh, ?_⟩, fun q => nomatch q⟩⟩
              cases f with
              | nx => exact fun σ3 F3 A3 H3 e3 p3 => h2 σ3 F3 A3 H3 (e2.trans e3) (p2.trans p3)
              | bk => exact fun σ3 F3 A3 H3 e3 p3 => h2 σ3 F3 A3 H3 (e2.trans e3) (p2.trans p3)
              | ct => exact fun σ3 F3 A3 H3 e3 p3 => h2 σ3 F3 A3 H3 (e2.trans e3) (p2.trans p3)
              | rt w => exact fun v σ3 F3 A3 H3 e3 p3 => h2 v σ3 F3 A3 H3 (e2.trans e3) (p2.trans p3)
        · rw [if_neg hec] at h9
          cases h9
end
/-- a class of exceptions of the program -/
structure ExcAt (K : PySem.W.Frag) (mg : Str → Option Value) (C : Nat → Addr) (c : Nat) (x : Str) : Prop where
  g : mg x = some (.ref (C c))
  q : PySem.W.excIn K (C c) [.type "ValueError", .type "Exception", .type "BaseException", .type "object"] "ValueError.__new__" = true
  k : PySem.W.keepIn K (.ref (C c)) = true
  b : PySem.W.subIn K (.ref (C c)) (.type "BaseException") = some true
  t : PySem.W.typeIn K (.ref (C c)) = some (.type "type")
  e : PySem.W.exmOne K (.ref (C c)) (.ref (C c)) = some true
/-- what such an error is caught by -/
theorem exm_me {K : PySem.W.Frag} {S : Addr} (h1 : PySem.W.subIn K (.ref S) (.type "BaseException") = some true) (h2 : PySem.W.isClsIn K S = true) (h3 : PySem.W.typeIn K (.ref S) = some (.type "type")) (h4 : PySem.W.subIn K (.ref S) (.ref S) = some true) : PySem.W.exmOne K (.ref S) (.ref S) = some true := by
  unfold PySem.W.exmOne PySem.W.kitCls
  have h2 : (PySem.W.clsIn K S).isSome = true := h2
  simp only [h1, h2, h3, h4, beq_self_eq_true, Bool.and_self, if_true]
/-- for every numbering of the classes -/
def spA (K : PySem.W.Frag) (n : Nat) (g : Fn) : Sp := fun vs H Q E => ∀ C : Nat → Addr, spD K C n g vs H Q E
theorem spA_ok {P : Program} {w : World} {K : PySem.W.Frag} {mg : Str → Option Value} {base : Heap} {CX : CXT} {k n : Nat} {f : Addr} {fd : FuncData} {ps : List Str} {g : Fn} {C : Nat → Addr} (F : FnOk P w K mg base CX k f fd ps (spD K C n g)) : FnOk P w K mg base CX k f fd ps (spA K n g) := F.imp fun _ _ _ _ h => h C
end PD

/-! PDo: setdefault, update, isinstance, index. -/
noncomputable section
namespace PD
open PySem L2 PyProof.Rows
section
variable {K : PySem.W.Frag} {C : Nat → Addr} {T : XT} {F F' G G' : Hp} {A A' : List Addr} {s s1 : S} {σ : L2.St} {H : Hp} {M : List MO} {X : Cx}
/-! ### d.setdefault(k, v) -/
def setdO (M : List MO) (w i z : W) : Option (W × List MO) := match w, keyW i, z with
  | .ob n, some k, .fz e => match M[n]? with
    | some (.dK kvs) => if kvs.length < LIM then some (match dget kvs k with
      | some d => (.fz d, M)
      | none => (.fz e, M.set n (.dK (dput kvs k e)))) else none
    | _ => none
  | _, _, _ => none
def setd (f g h : Mo W) : Mo W := bnd f fun w => bnd (fun s => ofO (if isDc s.m w = true then some () else none) s) fun _ => bnd g fun i => bnd h fun z => fun s => match setdO s.m w i z with
  | some (v, M) => some (.ok v, { s with m := M })
  | none => none
theorem pd_setd {o e e' : Expr} {apos cpos : Pos} {f g h : Mo W} (ho : PE X o (tE X.K C T f)) (he : PE X e (tE X.K C T g)) (he' : PE X e' (tE X.K C T h)) (m : M2 X o "setdefault" apos e e' cpos := by exact ⟨rfl, rfl, rfl, rfl⟩) : PE X (.Call (.Attribute o "setdefault" apos) [e, e'] [] cpos) (tE X.K C T (setd f g h)) :=
  (pe_dsetd ho he he' m).imp fun σ H Q ⟨F, A, G, s, hs, hq⟩ => rd_go hs hq fun x F1 A1 H1 s1 w1 _ _ hs1 rx hq1 => by
    obtain ⟨hw, hq2⟩ := hq1.unit
    obtain ⟨a, rfl, ha⟩ := isDc_ok hs1.mem rx hw
    refine ⟨a, rfl, ha, rd_go hs1 hq2 fun y F2 A2 H2 s2 w2 e2 p2 hs2 ry hq3 => rd_go hs2 hq3 fun z F3 A3 H3 s3 w3 e3 p3 hs3 rz hq4 => ?_⟩
    obtain ⟨r', s', h1, h2⟩ := hq4
    have rx3 := rx.mono (e2.trans e3) (p2.trans p3)
    have ry3 := ry.mono e3 p3
    split at h1
    · rename_i v M ho
      cases h1
      unfold setdO at ho
      split at ho
      · rename_i n k ee hk
        split at ho
        · rename_i kvs hm
          split at ho
          · rename_i hl
            cases rx3 with
            | ob ha =>
              obtain ⟨u, hu, vs, rfl, hr⟩ := hs3.mem.ob _ _ _ ha hm
              cases rz with
              | fz rz =>
                refine ⟨vs, k, hu, keyW_ok hk ry3, lim_lt (by rw [← hr.length]; exact hl), fun v' hv' => ?_, fun hn => ?_⟩
                · cases hg : dget kvs k with
                  | none => rw [(hr.get k).2 hg] at hv'; cases hv'
                  | some d =>
                    rw [hg] at ho
                    cases ho
                    obtain ⟨v2, e2, rv⟩ := (hr.get k).1 d hg
                    rw [e2] at hv'
                    cases hv'
                    exact h2 _ F3 A3 H3 (Ex.refl _) (List.prefix_refl _) hs3 (.fz rv)
                · cases hg : dget kvs k with
                  | some d =>
                    obtain ⟨v2, e2, rv⟩ := (hr.get k).1 d hg
                    rw [e2] at hn
                    cases hn
                  | none =>
                    rw [hg] at ho
                    cases ho
                    exact h2 _ F3 A3 _ (Ex.refl _) (List.prefix_refl _) (hs3.of (Ex.refl _) (List.prefix_refl _) (hs3.mem.write (m' := .dK (dput kvs k ee)) ha hm rfl ⟨_, rfl, hr.put k rz⟩)) (.fz rz)
          · cases ho
        · cases ho
      · cases ho
    · cases h1
/-! ### d.update(e) -/
theorem d_update {pins : List (Addr × Obj)} {s : Shared} {a o : Addr} {kvs more : List (Key × V)} {Ar : Around} {E : Value → Shared → Prop} {Q : Value → Shared → Prop} (I : Inv X pins σ H s) (e : H a = some (.dK kvs)) (g : Rd H o (.dK more)) (hne : a ≠ o) (hl : kvs.length + more.length ≤ sizeLine)
    (h : ∀ s', Inv X pins σ (upd H a (.dK (mergeK kvs more))) s' → Q .none s') : wpAny (model X.prog X.w) Ar (call (.builtin "dict.update") [.ref a, .ref o]) Q E s := by
  obtain ⟨z, hd, vs, rel, dd⟩ := dk_of I.hok e
  obtain ⟨z2, hd2, rs, rel2, dd2⟩ := dk_rd I.hok g
  refine call_meetsIn PySem.F.slot_dict_update dd.typeIs PySem.F.entry_dict_update (PySem.F.args_dict_update_2 _ _) (meets_dict_update (mixKind X.prog X.w) a o hne hd2)
    ⟨vs, rs, dd, dd2, (by rw [← rel.length, ← rel2.length]; exact hl), fun h' dd' _ hs => ?_⟩
  have he : ∃ q, h'.get? a = some q := let ⟨q, _, _, hq, _⟩ := dd'; ⟨q, hq⟩
  exact h _ (d_write (t' := s.toks) I (by rw [e]; exact True.intro) hs he (dk_new (Nat.le_trans (length_mergeK more kvs) hl) hd (KV.merge rel2 rel) dd'))
def tDUpd (td ty : TE) : TE := fun σ H Q => td σ H fun x H1 => ∃ a, x = .ref a ∧ IsD H1 a ∧ ty σ H1 fun y H2 => ∃ (kvs more : List (Key × V)) (o : Addr), H2 a = some (.dK kvs) ∧ y = .ref o ∧ Rd H2 o (.dK more) ∧ a ≠ o ∧ kvs.length + more.length ≤ sizeLine ∧ Q .non (upd H2 a (.dK (mergeK kvs more)))
theorem pe_dupd {o e : Expr} {td ty : TE} {apos cpos : Pos} (ho : PE X o td) (he : PE X e ty) (m : M1 X o "update" apos e cpos) : PE X (.Call (.Attribute o "update" apos) [e] [] cpos) (tDUpd td ty) := by
  refine ⟨fun pins s σ H Q I h => ?_⟩
  refine wpAny_Call_method m.base m.few m.line PySem.F.plainAttrs_dict PySem.F.slot_dict_update PySem.F.type_dict_update (thn (ho.run pins s σ H _ I h) fun u s1 ⟨x, H1, I1, rx, a, ex, d, q1⟩ => ?_)
  subst ex
  obtain rfl : u = Value.ref a := rx
  obtain ⟨t1, t2, _⟩ := isD_at I1 d
  refine ⟨t1, t2, ?_⟩
  rw [m.trees]
  refine Calls.callWith_builtin rfl (Calls.evalArgs_plain (Calls.spliced_cons (thn (he.run pins s1 σ H1 _ I1 q1) fun iv s2 ⟨y, H2, I2, ry, kvs, more, o, ea, ey, g, hne, hl, q2⟩ => Calls.spliced_nil ?_)))
  subst ey
  obtain rfl : iv = Value.ref o := ry
  exact d_update I2 ea g hne hl fun s3 I3 => ⟨.non, _, I3, rfl, q2⟩
def updO (M : List MO) (w u : W) : Option (List MO) := match w, u with
  | .ob n, .fz (.dK more) => match M[n]? with
    | some (.dK kvs) => if kvs.length + more.length ≤ LIM then some (M.set n (.dK (mergeD kvs more))) else none
    | _ => none
  | _, _ => none
def updM (f g : Mo W) : Mo W := bnd f fun w => bnd (fun s => ofO (if isDc s.m w = true then some () else none) s) fun _ => bnd g fun u => fun s => match updO s.m w u with
  | some M => some (.ok (.fz .non), { s with m := M })
  | none => none
theorem pd_upd {o e : Expr} {apos cpos : Pos} {f g : Mo W} (ho : PE X o (tE X.K C T f)) (he : PE X e (tE X.K C T g)) (m : M1 X o "update" apos e cpos := by exact ⟨rfl, rfl, rfl, rfl⟩) : PE X (.Call (.Attribute o "update" apos) [e] [] cpos) (tE X.K C T (updM f g)) :=
  (pe_dupd ho he m).imp fun σ H Q ⟨F, A, G, s, hs, hq⟩ => rd_go hs hq fun x F1 A1 H1 s1 w1 _ _ hs1 rx hq1 => by
    obtain ⟨hw, hq2⟩ := hq1.unit
    obtain ⟨a, rfl, ha⟩ := isDc_ok hs1.mem rx hw
    refine ⟨a, rfl, ha, rd_go hs1 hq2 fun y F2 A2 H2 s2 w2 e2 p2 hs2 ry hq3 => ?_⟩
    obtain ⟨r', s', h1, h2⟩ := hq3
    have rx2 := rx.mono e2 p2
    split at h1
    · rename_i M ho
      cases h1
      unfold updO at ho
      split at ho
      · rename_i n more
        split at ho
        · rename_i kvs hm
          split at ho
          · rename_i hl
            cases ho
            cases rx2 with
            | ob ha =>
              obtain ⟨u, hu, vs, rfl, hr⟩ := hs2.mem.ob _ _ _ ha hm
              have ⟨o, ms, e3, fo, hr2⟩ := frD_ok ry (show frD (.fz (.dK more)) = some more from rfl)
              have ho2 : Rd H2 o (.dK ms) := by
                rcases hs2.mem.ex _ _ fo with h | ⟨_, o', h⟩
                · exact .inl h
                · exact .inr ⟨o', h⟩
              have hne : a ≠ o := fun z => by
                subst z
                have := (hs2.mem.own n a _ ha hm rfl).1
                rw [fo] at this
                cases this
              exact ⟨vs, ms, o, hu, e3, ho2, hne, lim_ok (by rw [← hr.length, ← hr2.length]; exact hl), h2 _ F2 A2 _ (Ex.refl _) (List.prefix_refl _) (hs2.of (Ex.refl _) (List.prefix_refl _) (hs2.mem.write (m' := .dK (mergeD kvs more)) ha hm rfl ⟨_, rfl, hr2.merge hr⟩)) (.fz .non)⟩
          · cases ho
        · cases ho
      · cases ho
    · cases h1
/-! ### xs.index(y) -/
def idxO (M : List MO) (w : W) (ws : List W) : Option (W × List MO) := match ws with
  | [.fz y] => match asS M w with
    | some ds => if flatD y = true ∧ ds.all flatD = true then ((ds.map toV).findIdx? fun z => eqV z (toV y)).map fun (j : Nat) => (.fz (.int (j : Int)), M) else none
    | none => none
  | _ => none
theorem sIdx : SndB K C (rIndex K) idxO := by
  intro F A G M M' H w0 ws w x xs Q sm r0 r h q
  unfold idxO at h
  split at h
  · rename_i y
    split at h
    · rename_i ds hd
      split at h
      · rename_i hf
        obtain ⟨j, hj, e⟩ := Option.map_eq_some_iff.mp h
        cases e
        obtain ⟨y', rfl, ry⟩ := rWs1 r
        obtain ⟨a, vs, rfl, h1, h2⟩ := asS_ok sm r0 hd
        cases ry with
        | fz ry =>
          obtain ⟨e1, f1⟩ := flat_rep hf.1 ry
          obtain ⟨e2, f2⟩ := flat_reps hf.2 h2
          subst e1 e2
          rw [List.findIdx?_eq_some_iff_getElem] at hj
          obtain ⟨hlt, hp, hb⟩ := hj
          refine ⟨a, _, _, j, _, rfl, rfl, h1, f1, f2, List.getElem?_eq_getElem hlt, hp, fun m z' hm hz => ?_, q _ F _ (Ex.refl F) sm (.fz (.int _))⟩
          have hm2 : m < (ds.map toV).length := (List.getElem?_eq_some_iff.mp hz).1
          rw [List.getElem?_eq_getElem hm2] at hz
          cases hz
          have := hb m hm
          simpa using this
      · cases h
    · cases h
  · cases h
/-! ### isinstance(x, str) -/
def isiO (_ : List MO) : W → Option W
  | .fz (.str _) => some (.fz (.bl true))
  | .fz (.tup _) => some (.fz (.bl false))
  | _ => none
def isiS (f : Mo W) : Mo W := bnd f fun w => fun s => ofO (isiO s.m w) s
theorem kit_ss {K : PySem.W.Frag} : PySem.W.kitOne K (.type "str") (.type "str") = some true := kit_ty (by decide +kernel)
theorem kit_ts {K : PySem.W.Frag} : PySem.W.kitOne K (.type "tuple") (.type "str") = some false := kit_ty (by decide +kernel)
theorem pd_isiStr {e : Expr} {p p2 pos : Pos} {f : Mo W} (hg : Gl X "isinstance") (hm : X.mg "isinstance" = none) (hb : bootBuiltins "isinstance" = some (.builtin "isinstance")) (hg2 : Gl X "str") (hm2 : X.mg "str" = none) (hb2 : bootBuiltins "str" = some (.type "str")) (he : PE X e (tE X.K C T f))
    (hse : starEach [e, .Name "str" p2] X.env = (false, eval e X.env) :: starEach [.Name "str" p2] X.env := by rfl) (hpl : (backTo pos (starEach [.Name "str" p2] X.env)).any (·.1) = false := by rfl) :
    PE X (.Call (.Name "isinstance" p) [e, .Name "str" p2] [] pos) (tE X.K C T (isiS f)) :=
  (pe_callB call_isi hg hm hb (pa_cons he (pa_cons (pe_bltn (v := .ty "str") hg2 hm2 hb2 rfl) pa_nil) (hs := hse)) (by decide) (by decide) hse hpl).imp fun σ H Q ⟨F, A, G, s, hs, hq⟩ => rd_go hs hq fun x F1 A1 H1 s1 w1 _ _ hs1 rx hq1 => by
    show rIsi X.K [x, .ty "str"] H1 Q
    obtain ⟨w, ho, hq2⟩ := hq1.ofOE
    unfold isiO at ho
    split at ho
    · cases ho
      cases rx with
      | fz rx =>
        cases rx
        exact ⟨_, _, _, _, _, rfl, .ty _, .base (.str _), kit_ss, hq2.retE hs1 (.fz (.bl _))⟩
    · cases ho
      cases rx with
      | fz rx =>
        cases rx with
        | @tup a vs ds ht hr =>
          have ht := hs1.mem.ex.st ht
          have ty : TyX X.K H1 (.ref a) (.type "tuple") := by
            rcases ht with (h | ⟨o, h⟩) | ⟨o, its, n, h1, h2, _⟩
            · exact .base (.tup h)
            · exact .fTuple h
            · exact .kTuple h1 h2
          exact ⟨_, _, _, _, _, rfl, .ty _, ty, kit_ts, hq2.retE hs1 (.fz (.bl _))⟩
    · cases ho
/-- a, b, c = x, y, z -/
def parS3 (i j l : Nat) (f : Mo (List W)) : Mo Fl := bnd f fun ws => fun s => match ws with
  | [u, v, w] => some (.ok .nx, setR (setR (setR s i u) j v) l w)
  | _ => none
theorem pd_par3 {i j l : Nat} {x y z : Str} {a b c : Expr} {px py pz pt pos : Pos} {kt k2 pt2} {f : Mo (List W)} (hc : X.calm = true) (hN : X.N.Nodup) (hi : X.N[i]? = some x) (hj : X.N[j]? = some y) (hl : X.N[l]? = some z) (hij : i ≠ j) (hil : i ≠ l) (hjl : j ≠ l)
    (hx : X.env.scope.names.lookup x = some .local) (hy : X.env.scope.names.lookup y = some .local) (hz : X.env.scope.names.lookup z = some .local) (ha : PA X [a, b, c] (tA X.K C T f))
    (hw : swappedStores [.Tuple [.Name x px, .Name y py, .Name z pz] kt pt] (.Tuple [a, b, c] k2 pt2) X.env = pure (some [x, y, z]))
    (hs : swapsWithSole [.Tuple [.Name x px, .Name y py, .Name z pz] kt pt] (.Tuple [a, b, c] k2 pt2) pos.line X.env = pure false := by rfl) :
    PS X (.Assign [.Tuple [.Name x px, .Name y py, .Name z pz] kt pt] (.Tuple [a, b, c] k2 pt2) pos) (tS X.K C T (parS3 i j l f)) :=
  (ps_par3 hc hN hi hj hl hij hil hjl hx hy hz ha hw hs).imp fun D σ H ⟨F, A, G, s, hs, hq⟩ => rdS_go hs hq fun xs F1 A1 H1 s1 ws _ _ hs1 rx hq1 => by
    obtain ⟨r, s', h1, h2⟩ := hq1
    split at h1
    · cases h1
      cases rx with
      | cons r1 t =>
        cases t with
        | cons r2 t =>
          cases t with
          | cons r3 t =>
            cases t
            exact ⟨_, _, _, rfl, h2 _ F1 A1 H1 (Ex.refl _) (List.prefix_refl _) (((hs1.set r1).set r2).set r3)⟩
    · cases h1
end
end PD

noncomputable section
namespace PD
open PySem L2 PyProof.Rows
/-- number_of(text): 0 text, 1 found, 2 char -/
def fb_number_of : Mo Fl := (seqS (asgS (op2 addO (opN lenO (aC (nm 0) aN)) (ck (.int 7))) (gNm 1))
  (seqS (forS (walk (nm 0)) (gNm 2) (asgS (op2 modO (op2 addO (op2 mulO (nm 1) (ck (.int 2000003))) (opN ordO (aC (nm 2) aN))) (ck (.int 2305843009213693951))) (gNm 1)))
  (retS (nm 1))))
def fs_number_of : Fn := fnD 3 fb_number_of

/-- digest(text): 0 text, 1 number, 2 found, 3 _ -/
def fb_digest : Mo Fl := (seqS (parS 1 2 (aC (callF 1 fs_number_of (aC (nm 0) aN)) (aC (ck (.str "")) aN)))
  (seqS (forS (rng1 (aC (ck (.int 16)) aN)) (gNm 3) (seqS (asgS (op2 addO (op2 atO (ck (.str "0123456789abcdef")) (op2 modO (nm 1) (ck (.int 16)))) (nm 2)) (gNm 2))
  (augS 1 fdvO (ck (.int 16)))))
  (retS (nm 2))))
def fs_digest : Fn := fnD 4 fb_digest

/-- write_image(files): 0 files, 1 parts*, 2 path -/
def fb_write_image : Mo Fl := (seqS (asgS (lstM (aC (op2 addO (op2 addO (ck (.str "image ")) (opN strO (aC (opN lenO (aC (nm 0) aN)) aN))) (ck (.str "\n"))) aN)) (gNm 1))
  (seqS (forS (walk (opN sortedO (aC (nm 0) aN))) (gNm 2) (drpS (bm isLs appO (nm 1) (aC (op2 addO (op2 addO (op2 addO (op2 addO (op2 addO (nm 2) (ck (.str " "))) (opN strO (aC (opN lenO (aC (op2 atO (nm 0) (nm 2)) aN)) aN))) (ck (.str "\n"))) (op2 atO (nm 0) (nm 2))) (ck (.str "\n"))) aN))))
  (retS (sm1 joinO (ck (.str "")) (nm 1)))))
def fs_write_image : Fn := fnD 3 fb_write_image

/-- number_at(text, at): 0 text, 1 at, 2 end -/
def fb_number_at : Mo Fl := (seqS (asgS (nm 1) (gNm 2))
  (seqS (whL FUEL (andT (tst (op2 ltO (nm 2) (opN lenO (aC (nm 0) aN)))) (tst (op2 inO (op2 atO (nm 0) (nm 2)) (ck (.str "0123456789"))))) (augS 2 iaddO (ck (.int 1))))
  (seqS (ifS (orT (tst (op2 eqO (nm 2) (nm 1))) (orT (tst (op2 neO (slO (nm 0) (poS (nm 2)) (poS (op2 addO (nm 2) (ck (.int 1))))) (ck (.str "\n")))) (tst (op2 gtO (op2 subO (nm 2) (nm 1)) (ck (.int 9)))))) nvS nxS)
  (retS (opN tupO (aC (opN intO (aC (slO (nm 0) (poS (nm 1)) (poS (nm 2))) aN)) (aC (op2 addO (nm 2) (ck (.int 1))) aN)))))))
def fs_number_at : Fn := fnD 3 fb_number_at

/-- read_image(text): 0 text, 1 count, 2 at, 3 found*, 4 before, 5 _, 6 head, 7 size, 8 begin -/
def fb_read_image : Mo Fl := (seqS (ifS (notT (tru (sm1 startsO (nm 0) (ck (.str "image "))))) nvS nxS)
  (seqS (asgS (callF 2 fs_number_at (aC (nm 0) (aC (ck (.int 6)) aN))) (gTp 2 (gCn (gNm 1) (gCn (gNm 2) gNl))))
  (seqS (parS 3 4 (aC (newO dict0) (aC (ck (.str "")) aN)))
  (seqS (forS (rng1 (aC (nm 1) aN)) (gNm 5) (seqS (asgS (op2 atO (sm1 partO (slO (nm 0) (poS (nm 2)) poN) (ck (.str " "))) (ck (.int 0))) (gNm 6))
  (seqS (ifS (orT (tst (op2 eqO (nm 6) (ck (.str "")))) (orT (tst (op2 leO (nm 6) (nm 4))) (tst (op2 inO (ck (.str "\n")) (nm 6))))) nvS nxS)
  (seqS (asgS (callF 2 fs_number_at (aC (nm 0) (aC (op2 addO (op2 addO (nm 2) (opN lenO (aC (nm 6) aN))) (ck (.int 1))) aN))) (gTp 2 (gCn (gNm 7) (gCn (gNm 8) gNl))))
  (seqS (putS (slO (nm 0) (poS (nm 8)) (poS (op2 addO (nm 8) (nm 7)))) (nm 3) (nm 6))
  (seqS (parS 2 4 (aC (op2 addO (op2 addO (nm 8) (nm 7)) (ck (.int 1))) (aC (nm 6) aN)))
  (ifS (orT (tst (op2 ltO (opN lenO (aC (op2 atO (nm 3) (nm 6)) aN)) (nm 7))) (tst (op2 neO (slO (nm 0) (poS (op2 subO (nm 2) (ck (.int 1)))) (poS (nm 2))) (ck (.str "\n"))))) nvS nxS)))))))
  (seqS (ifS (orT (tst (op2 neO (nm 2) (opN lenO (aC (nm 0) aN)))) (tst (op2 neO (callF 1 fs_write_image (aC (nm 3) aN)) (nm 0)))) nvS nxS)
  (retS (nz 3)))))))
def fs_read_image : Fn := fnD 9 fb_read_image

/-- patch(old, new): 0 old, 1 new, 2 places*, 3 start, 4 parts*, 5 plain, 6 at, 7 size -/
def fb_patch : Mo Fl := (seqS (asgS (newO dict0) (gNm 2))
  (seqS (forS (rng1 (aC (op2 addO (op2 subO (opN lenO (aC (nm 0) aN)) (ck (.int 8))) (ck (.int 1))) aN)) (gNm 3) (drpS (setd (nm 2) (slO (nm 0) (poS (nm 3)) (poS (op2 addO (nm 3) (ck (.int 8))))) (nm 3))))
  (seqS (parS3 4 5 6 (aC (lstM aN) (aC (ck (.str "")) (aC (ck (.int 0)) aN))))
  (seqS (whL FUEL (tst (op2 ltO (nm 6) (opN lenO (aC (nm 1) aN)))) (seqS (asgS (get1 (nm 2) (slO (nm 1) (poS (nm 6)) (poS (op2 addO (nm 6) (ck (.int 8)))))) (gNm 3))
  (seqS (ifS (tst (op2 isO (nm 3) (ck .non))) (seqS (augS 5 iaddO (op2 atO (nm 1) (nm 6)))
  (seqS (augS 6 iaddO (ck (.int 1)))
  ctS)) nxS)
  (seqS (asgS (ck (.int 8)) (gNm 7))
  (seqS (whL FUEL (andT (tst (op2 ltO (op2 addO (nm 6) (nm 7)) (opN lenO (aC (nm 1) aN)))) (andT (tst (op2 ltO (op2 addO (nm 3) (nm 7)) (opN lenO (aC (nm 0) aN)))) (tst (op2 eqO (op2 atO (nm 1) (op2 addO (nm 6) (nm 7))) (op2 atO (nm 0) (op2 addO (nm 3) (nm 7))))))) (augS 7 iaddO (ck (.int 1))))
  (seqS (ifS (tru (nm 5)) (seqS (drpS (bm isLs appO (nm 4) (aC (nm 5) aN)))
  (asgS (ck (.str "")) (gNm 5))) nxS)
  (seqS (drpS (bm isLs appO (nm 4) (aC (opN tupO (aC (nm 3) (aC (nm 7) aN))) aN)))
  (augS 6 iaddO (nm 7)))))))))
  (seqS (ifS (tru (nm 5)) (drpS (bm isLs appO (nm 4) (aC (nm 5) aN))) nxS)
  (retS (opN tupO (aC (opN tupO (aC (callF 1 fs_digest (aC (nm 0) aN)) (aC (callF 1 fs_digest (aC (nm 1) aN)) aN))) (aC (opN tupleO (aC (nm 4) aN)) aN)))))))))
def fs_patch : Fn := fnD 8 fb_patch

/-- patched(old, told): 0 old, 1 told, 2 before, 3 after, 4 parts, 5 found, 6 part, 7 start, 8 size -/
def fb_patched : Mo Fl := (seqS (asgS (nm 1) (gTp 2 (gCn (gTp 2 (gCn (gNm 2) (gCn (gNm 3) gNl))) (gCn (gNm 4) gNl))))
  (seqS (ifS (tst (op2 neO (callF 1 fs_digest (aC (nm 0) aN)) (nm 2))) (rsS 0) nxS)
  (seqS (asgS (ck (.str "")) (gNm 5))
  (seqS (forS (walk (nm 4)) (gNm 6) (ifS (tru (isiS (nm 6))) (augS 5 iaddO (nm 6)) (seqS (asgS (nm 6) (gTp 2 (gCn (gNm 7) (gCn (gNm 8) gNl))))
  (seqS (ifS (orT (tst (op2 ltO (nm 7) (ck (.int 0)))) (orT (tst (op2 ltO (nm 8) (ck (.int 1)))) (tst (op2 gtO (op2 addO (nm 7) (nm 8)) (opN lenO (aC (nm 0) aN)))))) (rsS 0) nxS)
  (augS 5 iaddO (slO (nm 0) (poS (nm 7)) (poS (op2 addO (nm 7) (nm 8)))))))))
  (seqS (ifS (tst (op2 neO (callF 1 fs_digest (aC (nm 5) aN)) (nm 3))) (rsS 0) nxS)
  (retS (nm 5)))))))
def fs_patched : Fn := fnX 9 fb_patched

/-- patch_size(told): 0 told, 1 part -/
def fb_patch_size : Mo Fl := (retS (opN sumO (aC (frz (lcM (walk (op2 atO (nm 0) (ck (.int 1)))) [1] (gNm 1) (ret true) (iffE (tru (isiS (nm 1))) (opN lenO (aC (nm 1) aN)) (ck (.int 8))))) aN)))
def fs_patch_size : Fn := fnD 2 fb_patch_size

/-- joined_patches(old, row): 0 old, 1 row, 2 told -/
def fb_joined_patches : Mo Fl := (seqS (forS (walk (nm 1)) (gNm 2) (asgS (callX 2 fs_patched (aC (nm 0) (aC (nm 2) aN))) (gNm 0)))
  (retS (nm 0)))
def fs_joined_patches : Fn := fnX 3 fb_joined_patches

/-- put(disk, write): 0 disk*, 1 write, 2 path, 3 text -/
def fb_put : Mo Fl := (seqS (asgS (nm 1) (gTp 2 (gCn (gNm 2) (gCn (gNm 3) gNl))))
  (ifS (tst (op2 isO (nm 3) (ck .non))) (drpS (dpop2 (nm 0) (nm 2) (ck .non))) (putS (nm 3) (nm 0) (nm 2))))
def fs_put : Fn := fnD 4 fb_put

/-- number_in(word): 0 word, 1 char -/
def fb_number_in : Mo Fl := (seqS (ifS (orT (tst (op2 eqO (nm 0) (ck (.str "")))) (orT (tst (op2 gtO (opN lenO (aC (nm 0) aN)) (ck (.int 9)))) (notT (tru (opN allO (aC (frz (lcM (walk (nm 0)) [1] (gNm 1) (ret true) (op2 inO (nm 1) (ck (.str "0123456789"))))) aN)))))) (retS (negM (ck (.int 1)))) nxS)
  (retS (iffE (orT (tst (op2 eqO (nm 0) (ck (.str "0")))) (tst (op2 neO (op2 atO (nm 0) (ck (.int 0))) (ck (.str "0"))))) (opN intO (aC (nm 0) aN)) (negM (ck (.int 1))))))
def fs_number_in : Fn := fnD 2 fb_number_in

/-- numbers(disk): 0 disk, 1 found*, 2 path, 3 head -/
def fb_numbers : Mo Fl := (seqS (asgS (newO dict0) (gNm 1))
  (seqS (forS (walk (nm 0)) (gNm 2) (seqS (asgS (op2 atO (sm1 partO (nm 2) (ck (.str "/"))) (ck (.int 0))) (gNm 3))
  (ifS (andT (tst (op2 eqO (slO (nm 3) poN (poS (ck (.int 1)))) (ck (.str "g")))) (tst (op2 geO (callF 1 fs_number_in (aC (slO (nm 3) (poS (ck (.int 1))) poN) aN)) (ck (.int 0))))) (putS (ck (.bl true)) (nm 1) (callF 1 fs_number_in (aC (slO (nm 3) (poS (ck (.int 1))) poN) aN))) nxS)))
  (retS (opN sortedO (aC (nm 1) aN)))))
def fs_numbers : Fn := fnD 4 fb_numbers

/-- install_writes(disk, image): 0 disk, 1 image, 2 files, 3 number, 4 base, 5 found, 6 path -/
def fb_install_writes : Mo Fl := (seqS (asgS (callF 1 fs_read_image (aC (nm 1) aN)) (gNm 2))
  (seqS (asgS (op2 addO (op2 atO (op2 addO (opN lstO (aC (ck (.int 0)) aN)) (callF 1 fs_numbers (aC (nm 0) aN))) (negM (ck (.int 1)))) (ck (.int 1))) (gNm 3))
  (seqS (ifS (tst (op2 gtO (opN lenO (aC (opN strO (aC (nm 3) aN)) aN)) (ck (.int 9)))) nvS nxS)
  (seqS (asgS (op2 addO (op2 addO (ck (.str "g")) (opN strO (aC (nm 3) aN))) (ck (.str "/"))) (gNm 4))
  (seqS (asgS (frz (lcM (walk (opN sortedO (aC (nm 2) aN))) [6] (gNm 6) (ret true) (opN tupO (aC (op2 addO (op2 addO (nm 4) (ck (.str "f/"))) (nm 6)) (aC (op2 atO (nm 2) (nm 6)) aN))))) (gNm 5))
  (retS (op2 addO (nm 5) (opN lstO (aC (opN tupO (aC (op2 addO (nm 4) (ck (.str "done"))) (aC (callF 1 fs_digest (aC (nm 1) aN)) aN))) (aC (opN tupO (aC (ck (.str "current")) (aC (opN strO (aC (nm 3) aN)) aN))) aN))))))))))
def fs_install_writes : Fn := fnD 7 fb_install_writes

/-- new_disk(image): 0 image, 1 disk*, 2 write -/
def fb_new_disk : Mo Fl := (seqS (asgS (newO dict0) (gNm 1))
  (seqS (forS (walk (callF 2 fs_install_writes (aC (frz dict0) (aC (nm 0) aN)))) (gNm 2) (drpS (callF 2 fs_put (aC (nm 1) (aC (nm 2) aN)))))
  (retS (nz 1))))
def fs_new_disk : Fn := fnD 3 fb_new_disk

/-- files_of(disk, number): 0 disk, 1 number, 2 base, 3 head, 4 files, 5 path, 6 text -/
def fb_files_of : Mo Fl := (seqS (asgS (op2 addO (op2 addO (ck (.str "g")) (opN strO (aC (nm 1) aN))) (ck (.str "/"))) (gNm 2))
  (seqS (ifS (tst (op2 ninO (op2 addO (nm 2) (ck (.str "done"))) (nm 0))) (retS (ck .non)) nxS)
  (seqS (asgS (op2 addO (nm 2) (ck (.str "f/"))) (gNm 3))
  (seqS (asgS (frz (dcM (items (nm 0)) [5, 6] (gTp 2 (gCn (gNm 5) (gCn (gNm 6) gNl))) (tru (sm1 startsO (nm 5) (nm 3))) (slO (nm 5) (poS (opN lenO (aC (nm 3) aN))) poN) (nm 6))) (gNm 4))
  (retS (iffE (tst (op2 eqO (callF 1 fs_digest (aC (callF 1 fs_write_image (aC (nm 4) aN)) aN)) (op2 atO (nm 0) (op2 addO (nm 2) (ck (.str "done")))))) (nm 4) (ck .non)))))))
def fs_files_of : Fn := fnD 7 fb_files_of

/-- whole_numbers(disk): 0 disk, 1 number -/
def fb_whole_numbers : Mo Fl := (retS (frz (lcM (walk (callF 1 fs_numbers (aC (nm 0) aN))) [1] (gNm 1) (tst (op2 isNotO (callF 2 fs_files_of (aC (nm 0) (aC (nm 1) aN))) (ck .non))) (nm 1))))
def fs_whole_numbers : Fn := fnD 2 fb_whole_numbers

/-- current(disk): 0 disk, 1 number, 2 files -/
def fb_current : Mo Fl := (seqS (asgS (callF 1 fs_number_in (aC (get2 (nm 0) (ck (.str "current")) (ck (.str ""))) aN)) (gNm 1))
  (seqS (ifS (tst (op2 ltO (nm 1) (ck (.int 0)))) nvS nxS)
  (seqS (asgS (callF 2 fs_files_of (aC (nm 0) (aC (nm 1) aN))) (gNm 2))
  (seqS (ifS (tst (op2 isO (nm 2) (ck .non))) nvS nxS)
  (retS (opN tupO (aC (nm 1) (aC (callF 1 fs_write_image (aC (nm 2) aN)) aN))))))))
def fs_current : Fn := fnD 3 fb_current

/-- recovered(disk): 0 disk, 1 found*, 2 number, 3 base, 4 path -/
def fb_recovered : Mo Fl := (seqS (asgS (lstM aN) (gNm 1))
  (seqS (forS (walk (callF 1 fs_numbers (aC (nm 0) aN))) (gNm 2) (seqS (asgS (op2 addO (op2 addO (ck (.str "g")) (opN strO (aC (nm 2) aN))) (ck (.str "/"))) (gNm 3))
  (ifS (tst (op2 ninO (op2 addO (nm 3) (ck (.str "done"))) (nm 0))) (drpS (bm isLs extO (nm 1) (aC (frz (lcM (walk (opN sortedO (aC (nm 0) aN))) [4] (gNm 4) (tru (sm1 startsO (nm 4) (nm 3))) (opN tupO (aC (nm 4) (aC (ck .non) aN))))) aN))) nxS)))
  (retS (nz 1))))
def fs_recovered : Fn := fnD 5 fb_recovered

/-- back_writes(disk, number): 0 disk, 1 number -/
def fb_back_writes : Mo Fl := (seqS (ifS (tst (op2 isO (callF 2 fs_files_of (aC (nm 0) (aC (nm 1) aN))) (ck .non))) nvS nxS)
  (retS (opN lstO (aC (opN tupO (aC (ck (.str "current")) (aC (opN strO (aC (nm 1) aN)) aN))) aN))))
def fs_back_writes : Fn := fnD 2 fb_back_writes

/-- clean_writes(disk, count): 0 disk, 1 count, 2 holds, 3 kept, 4 found*, 5 number, 6 base, 7 path -/
def fb_clean_writes : Mo Fl := (seqS (asgS (op2 atO (callF 1 fs_current (aC (nm 0) aN)) (ck (.int 0))) (gNm 2))
  (seqS (asgS (op2 addO (slO (revO (frz (lcM (walk (callF 1 fs_whole_numbers (aC (nm 0) aN))) [5] (gNm 5) (tst (op2 neO (nm 5) (nm 2))) (nm 5)))) poN (poS (nm 1))) (opN lstO (aC (nm 2) aN))) (gNm 3))
  (seqS (asgS (lstM aN) (gNm 4))
  (seqS (forS (walk (callF 1 fs_numbers (aC (nm 0) aN))) (gNm 5) (ifS (tst (op2 ninO (nm 5) (nm 3))) (seqS (asgS (op2 addO (op2 addO (ck (.str "g")) (opN strO (aC (nm 5) aN))) (ck (.str "/"))) (gNm 6))
  (seqS (drpS (bm isLs appO (nm 4) (aC (opN tupO (aC (op2 addO (nm 6) (ck (.str "done"))) (aC (ck .non) aN))) aN)))
  (drpS (bm isLs extO (nm 4) (aC (frz (lcM (walk (opN sortedO (aC (nm 0) aN))) [7] (gNm 7) (tru (sm1 startsO (nm 7) (op2 addO (nm 6) (ck (.str "f/"))))) (opN tupO (aC (nm 7) (aC (ck .non) aN))))) aN))))) nxS))
  (retS (nz 4))))))
def fs_clean_writes : Fn := fnD 8 fb_clean_writes

/-- after(disk, writes, count): 0 disk, 1 writes, 2 count, 3 found*, 4 write -/
def fb_after : Mo Fl := (seqS (asgS (newO (opO dictO (aC (nm 0) aN))) (gNm 3))
  (seqS (forS (walk (slO (nm 1) poN (poS (nm 2)))) (gNm 4) (drpS (callF 2 fs_put (aC (nm 3) (aC (nm 4) aN)))))
  (retS (nz 3))))
def fs_after : Fn := fnD 5 fb_after

/-- _law_tape(script): 0 script, 1 cells, 2 seed, 3 cell -/
def fb__law_tape : Mo Fl := (seqS (asgS (frz (lcM (walk (nm 0)) [3] (gNm 3) (ret true) (opN absO (aC (opN intO (aC (nm 3) aN)) aN)))) (gNm 1))
  (seqS (asgS (ck (.int 7)) (gNm 2))
  (seqS (forS (walk (nm 1)) (gNm 3) (asgS (op2 modO (opN intO (aC (op2 addO (op2 mulO (nm 2) (ck (.int 31))) (nm 3)) aN)) (ck (.int 2147483647))) (gNm 2)))
  (retS (newO (dispM [((ck (.str "cells")), (nm 1)), ((ck (.str "at")), (ck (.int 0))), ((ck (.str "left")), (ck (.int 0))), ((ck (.str "seed")), (nm 2)), ((ck (.str "salt")), (ck (.int 0)))]))))))
def fs__law_tape : Fn := fnD 4 fb__law_tape

/-- _law_take(tape, many): 0 tape*, 1 many, 2 drawn, 3 mixed -/
def fb__law_take : Mo Fl := (seqS (ifS (andT (tst (op2 eqO (op2 atO (nm 0) (ck (.str "left"))) (ck (.int 0)))) (tst (op2 ltO (op2 atO (nm 0) (ck (.str "at"))) (opN lenO (aC (op2 atO (nm 0) (ck (.str "cells"))) aN))))) (seqS (putS (op2 atO (op2 atO (nm 0) (ck (.str "cells"))) (op2 atO (nm 0) (ck (.str "at")))) (nm 0) (ck (.str "left")))
  (putS (op2 addO (op2 atO (nm 0) (ck (.str "at"))) (ck (.int 1))) (nm 0) (ck (.str "at")))) nxS)
  (seqS (ifS (tst (op2 gtO (op2 atO (nm 0) (ck (.str "left"))) (ck (.int 0)))) (seqS (asgS (op2 modO (opN intO (aC (op2 atO (nm 0) (ck (.str "left"))) aN)) (nm 1)) (gNm 2))
  (seqS (putS (op2 fdvO (op2 atO (nm 0) (ck (.str "left"))) (nm 1)) (nm 0) (ck (.str "left")))
  (retS (nm 2)))) nxS)
  (seqS (putS (op2 addO (op2 atO (nm 0) (ck (.str "salt"))) (ck (.int 1))) (nm 0) (ck (.str "salt")))
  (seqS (asgS (op2 modO (opN intO (aC (op2 addO (op2 mulO (op2 atO (nm 0) (ck (.str "seed"))) (ck (.int 48271))) (op2 mulO (op2 atO (nm 0) (ck (.str "salt"))) (ck (.int 69621)))) aN)) (ck (.int 2147483647))) (gNm 3))
  (seqS (asgS (op2 modO (opN intO (aC (op2 addO (op2 addO (op2 mulO (nm 3) (nm 3)) (op2 mulO (op2 atO (nm 0) (ck (.str "salt"))) (ck (.int 40692)))) (ck (.int 12345))) aN)) (ck (.int 2147483399))) (gNm 3))
  (retS (op2 modO (opN intO (aC (nm 3) aN)) (nm 1))))))))
def fs__law_take : Fn := fnD 4 fb__law_take

/-- _law_digest(text): 0 text, 1 found, 2 told, 3 sign, 4 k -/
def fb__law_digest : Mo Fl := (seqS (parS 1 2 (aC (op2 addO (opN lenO (aC (nm 0) aN)) (ck (.int 7))) (aC (ck (.str "")) aN)))
  (seqS (forS (walk (nm 0)) (gNm 3) (asgS (op2 modO (opN intO (aC (op2 addO (op2 mulO (nm 1) (ck (.int 2000003))) (opN ordO (aC (nm 3) aN))) aN)) (ck (.int 2305843009213693951))) (gNm 1)))
  (seqS (forS (rng1 (aC (ck (.int 16)) aN)) (gNm 4) (seqS (asgS (op2 addO (op2 atO (ck (.str "0123456789abcdef")) (op2 modO (opN intO (aC (nm 1) aN)) (ck (.int 16)))) (nm 2)) (gNm 2))
  (asgS (op2 fdvO (nm 1) (ck (.int 16))) (gNm 1))))
  (retS (nm 2)))))
def fs__law_digest : Fn := fnD 5 fb__law_digest

/-- _law_name(met, text): 0 met*, 1 text, 2 told -/
def fb__law_name : Mo Fl := (seqS (asgS (callF 1 fs__law_digest (aC (nm 1) aN)) (gNm 2))
  (seqS (ifS (tst (op2 neO (get2 (nm 0) (nm 2) (nm 1)) (nm 1))) (putS (nm 2) (nm 0) (ck (.str "clash"))) nxS)
  (seqS (putS (nm 1) (nm 0) (nm 2))
  (retS (nm 2)))))
def fs__law_name : Fn := fnD 3 fb__law_name

/-- _law_image(files): 0 files, 1 text, 2 path -/
def fb__law_image : Mo Fl := (seqS (asgS (op2 addO (op2 addO (ck (.str "image ")) (opN strO (aC (opN lenO (aC (nm 0) aN)) aN))) (ck (.str "\n"))) (gNm 1))
  (seqS (forS (walk (opN sortedO (aC (nm 0) aN))) (gNm 2) (asgS (op2 addO (op2 addO (op2 addO (op2 addO (op2 addO (op2 addO (nm 1) (nm 2)) (ck (.str " "))) (opN strO (aC (opN lenO (aC (op2 atO (nm 0) (nm 2)) aN)) aN))) (ck (.str "\n"))) (op2 atO (nm 0) (nm 2))) (ck (.str "\n"))) (gNm 1)))
  (retS (nm 1))))
def fs__law_image : Fn := fnD 3 fb__law_image

/-- _law_after(flat, writes, count): 0 flat, 1 writes, 2 count, 3 found*, 4 path, 5 text -/
def fb__law_after : Mo Fl := (seqS (asgS (newO (opO dictO (aC (itemsL (nm 0)) aN))) (gNm 3))
  (seqS (forS (walk (slO (nm 1) poN (poS (nm 2)))) (gTp 2 (gCn (gNm 4) (gCn (gNm 5) gNl))) (ifS (tst (op2 isO (nm 5) (ck .non))) (drpS (dpop2 (nm 3) (nm 4) (ck .non))) (putS (nm 5) (nm 3) (nm 4))))
  (retS (nz 3))))
def fs__law_after : Fn := fnD 6 fb__law_after

/-- _law_generation(head): 0 head, 1 word, 2 sign -/
def fb__law_generation : Mo Fl := (seqS (asgS (slO (nm 0) (poS (ck (.int 1))) poN) (gNm 1))
  (seqS (ifS (orT (tst (op2 neO (slO (nm 0) poN (poS (ck (.int 1)))) (ck (.str "g")))) (orT (tst (op2 eqO (nm 1) (ck (.str "")))) (orT (tst (op2 gtO (opN lenO (aC (nm 1) aN)) (ck (.int 9)))) (orT (tru (opN anyO (aC (frz (lcM (walk (nm 1)) [2] (gNm 2) (ret true) (op2 ninO (nm 2) (ck (.str "0123456789"))))) aN))) (andT (tst (op2 neO (nm 1) (ck (.str "0")))) (tst (op2 eqO (op2 atO (nm 1) (ck (.int 0))) (ck (.str "0"))))))))) (retS (negM (ck (.int 1)))) nxS)
  (retS (opN intO (aC (nm 1) aN)))))
def fs__law_generation : Fn := fnD 3 fb__law_generation

/-- _law_numbers(flat): 0 flat, 1 found, 2 path, 3 number -/
def fb__law_numbers : Mo Fl := (seqS (asgS (frz (lcM (walk (nm 0)) [2] (gNm 2) (ret true) (callF 1 fs__law_generation (aC (op2 atO (sm1 splitO (nm 2) (ck (.str "/"))) (ck (.int 0))) aN)))) (gNm 1))
  (retS (opN sortSetO (aC (frz (lcM (walk (nm 1)) [3] (gNm 3) (tst (op2 geO (nm 3) (ck (.int 0)))) (nm 3))) aN))))
def fs__law_numbers : Fn := fnD 4 fb__law_numbers

/-- _law_files_of(flat, number): 0 flat, 1 number, 2 head, 3 files, 4 done, 5 path -/
def fb__law_files_of : Mo Fl := (seqS (asgS (op2 addO (op2 addO (ck (.str "g")) (opN strO (aC (nm 1) aN))) (ck (.str "/f/"))) (gNm 2))
  (seqS (asgS (frz (opO dictO (aC (frz (lcM (walk (nm 0)) [5] (gNm 5) (tst (op2 eqO (slO (nm 5) poN (poS (opN lenO (aC (nm 2) aN)))) (nm 2))) (opN tupO (aC (slO (nm 5) (poS (opN lenO (aC (nm 2) aN))) poN) (aC (op2 atO (nm 0) (nm 5)) aN))))) aN))) (gNm 3))
  (seqS (asgS (get2 (nm 0) (op2 addO (op2 addO (ck (.str "g")) (opN strO (aC (nm 1) aN))) (ck (.str "/done"))) (ck .non)) (gNm 4))
  (retS (iffE (andT (tst (op2 isNotO (nm 4) (ck .non))) (tst (op2 eqO (callF 1 fs__law_digest (aC (callF 1 fs__law_image (aC (nm 3) aN)) aN)) (nm 4)))) (nm 3) (ck .non))))))
def fs__law_files_of : Fn := fnD 6 fb__law_files_of

/-- _law_whole(flat): 0 flat, 1 number -/
def fb__law_whole : Mo Fl := (retS (frz (lcM (walk (callF 1 fs__law_numbers (aC (nm 0) aN))) [1] (gNm 1) (tst (op2 isNotO (callF 2 fs__law_files_of (aC (nm 0) (aC (nm 1) aN))) (ck .non))) (nm 1))))
def fs__law_whole : Fn := fnD 2 fb__law_whole

/-- _law_current(flat): 0 flat, 1 number -/
def fb__law_current : Mo Fl := (seqS (asgS (callF 1 fs__law_generation (aC (op2 addO (ck (.str "g")) (get2 (nm 0) (ck (.str "current")) (ck (.str "")))) aN)) (gNm 1))
  (seqS (ifS (orT (tst (op2 ltO (nm 1) (ck (.int 0)))) (tst (op2 isO (callF 2 fs__law_files_of (aC (nm 0) (aC (nm 1) aN))) (ck .non)))) (retS (ck .non)) nxS)
  (retS (opN tupO (aC (nm 1) (aC (callF 1 fs__law_image (aC (callF 2 fs__law_files_of (aC (nm 0) (aC (nm 1) aN))) aN)) aN))))))
def fs__law_current : Fn := fnD 2 fb__law_current

/-- _law_install(flat, files): 0 flat, 1 files, 2 number, 3 base, 4 path -/
def fb__law_install : Mo Fl := (seqS (asgS (op2 addO (opN maxO (aC (op2 addO (opN lstO (aC (ck (.int 0)) aN)) (callF 1 fs__law_numbers (aC (nm 0) aN))) aN)) (ck (.int 1))) (gNm 2))
  (seqS (asgS (op2 addO (op2 addO (ck (.str "g")) (opN strO (aC (nm 2) aN))) (ck (.str "/"))) (gNm 3))
  (retS (op2 addO (frz (lcM (walk (opN sortedO (aC (nm 1) aN))) [4] (gNm 4) (ret true) (opN tupO (aC (op2 addO (op2 addO (nm 3) (ck (.str "f/"))) (nm 4)) (aC (op2 atO (nm 1) (nm 4)) aN))))) (opN lstO (aC (opN tupO (aC (op2 addO (nm 3) (ck (.str "done"))) (aC (callF 1 fs__law_digest (aC (callF 1 fs__law_image (aC (nm 1) aN)) aN)) aN))) (aC (opN tupO (aC (ck (.str "current")) (aC (opN strO (aC (nm 2) aN)) aN))) aN)))))))
def fs__law_install : Fn := fnD 5 fb__law_install

/-- _law_recover(flat): 0 flat, 1 found, 2 number, 3 base, 4 path -/
def fb__law_recover : Mo Fl := (seqS (asgS (opN lstO aN) (gNm 1))
  (seqS (forS (walk (callF 1 fs__law_numbers (aC (nm 0) aN))) (gNm 2) (seqS (asgS (op2 addO (op2 addO (ck (.str "g")) (opN strO (aC (nm 2) aN))) (ck (.str "/"))) (gNm 3))
  (ifS (tst (op2 ninO (op2 addO (nm 3) (ck (.str "done"))) (nm 0))) (asgS (op2 addO (nm 1) (frz (lcM (walk (opN sortedO (aC (nm 0) aN))) [4] (gNm 4) (tst (op2 eqO (slO (nm 4) poN (poS (opN lenO (aC (nm 3) aN)))) (nm 3))) (opN tupO (aC (nm 4) (aC (ck .non) aN)))))) (gNm 1)) nxS)))
  (retS (nm 1))))
def fs__law_recover : Fn := fnD 5 fb__law_recover

/-- _law_clean(flat, count): 0 flat, 1 count, 2 holds, 3 found, 4 kept, 5 number, 6 base, 7 path -/
def fb__law_clean : Mo Fl := (seqS (parG 2 (aC (op2 atO (callF 1 fs__law_current (aC (nm 0) aN)) (ck (.int 0))) (aC (opN lstO aN) aN)) (gCn (gNm 2) (gCn (gNm 3) gNl)))
  (seqS (asgS (op2 addO (slO (revO (frz (lcM (walk (callF 1 fs__law_whole (aC (nm 0) aN))) [5] (gNm 5) (tst (op2 neO (nm 5) (nm 2))) (nm 5)))) poN (poS (nm 1))) (opN lstO (aC (nm 2) aN))) (gNm 4))
  (seqS (forS (walk (callF 1 fs__law_numbers (aC (nm 0) aN))) (gNm 5) (seqS (asgS (op2 addO (op2 addO (ck (.str "g")) (opN strO (aC (nm 5) aN))) (ck (.str "/"))) (gNm 6))
  (ifS (tst (op2 ninO (nm 5) (nm 4))) (asgS (op2 addO (op2 addO (nm 3) (opN lstO (aC (opN tupO (aC (op2 addO (nm 6) (ck (.str "done"))) (aC (ck .non) aN))) aN))) (frz (lcM (walk (opN sortedO (aC (nm 0) aN))) [7] (gNm 7) (tst (op2 eqO (slO (nm 7) poN (poS (op2 addO (opN lenO (aC (nm 6) aN)) (ck (.int 2))))) (op2 addO (nm 6) (ck (.str "f/"))))) (opN tupO (aC (nm 7) (aC (ck .non) aN)))))) (gNm 3)) nxS)))
  (retS (nm 3)))))
def fs__law_clean : Fn := fnD 8 fb__law_clean

/-- _law_some_files(tape, most): 0 tape*, 1 most, 2 k -/
def fb__law_some_files : Mo Fl := (retS (frz (opO dictO (aC (frz (lcM (rng1 (aC (nm 1) aN)) [2] (gNm 2) (orT (tst (op2 eqO (nm 2) (ck (.int 0)))) (tst (op2 eqO (callF 2 fs__law_take (aC (nm 0) (aC (ck (.int 2)) aN))) (ck (.int 0))))) (opN tupO (aC (op2 atO (opN lstO (aC (ck (.str "a/o")) (aC (ck (.str "b/n/s.txt")) (aC (ck (.str "b/o.txt")) (aC (ck (.str "c")) (aC (ck (.str "d/e")) aN)))))) (nm 2)) (aC (op2 addO (op2 addO (ck (.str "v")) (opN strO (aC (callF 2 fs__law_take (aC (nm 0) (aC (ck (.int 6)) aN))) aN))) (op2 mulO (ck (.str "\n")) (callF 2 fs__law_take (aC (nm 0) (aC (ck (.int 2)) aN))))) aN))))) aN))))
def fs__law_some_files : Fn := fnD 3 fb__law_some_files

/-- _law_patched(text, told): 0 text, 1 told -/
def fb__law_patched : Mo Fl := (tryS (retS (callX 2 fs_joined_patches (aC (nm 0) (aC (frz (opO listO (aC (nm 1) aN))) aN)))) 0 (retS (ck .non)))
def fs__law_patched : Fn := fnD 2 fb__law_patched

/-- _law_cut(tape, disk, flat, files): 0 tape*, 1 disk, 2 flat, 3 files, 4 writes, 5 cut, 6 clean -/
def fb__law_cut : Mo Fl := (seqS (asgS (callF 2 fs_install_writes (aC (frz (opO dictO (aC (nm 1) aN))) (aC (callF 1 fs__law_image (aC (nm 3) aN)) aN))) (gNm 4))
  (seqS (ifS (tst (op2 neO (nm 4) (callF 2 fs__law_install (aC (nm 2) (aC (nm 3) aN))))) (retS (ck .non)) nxS)
  (seqS (asgS (callF 2 fs__law_take (aC (nm 0) (aC (op2 addO (opN lenO (aC (nm 4) aN)) (ck (.int 1))) aN))) (gNm 5))
  (seqS (parS 1 2 (aC (callF 3 fs_after (aC (nm 1) (aC (nm 4) (aC (nm 5) aN)))) (aC (callF 3 fs__law_after (aC (nm 2) (aC (nm 4) (aC (nm 5) aN)))) aN)))
  (seqS (asgS (callF 1 fs_recovered (aC (frz (opO dictO (aC (nm 1) aN))) aN)) (gNm 6))
  (seqS (ifS (orT (tst (op2 neO (nm 6) (callF 1 fs__law_recover (aC (nm 2) aN)))) (tst (op2 neO (nm 1) (nm 2)))) (retS (ck .non)) nxS)
  (retS (opN tupO (aC (callF 3 fs_after (aC (nm 1) (aC (nm 6) (aC (opN lenO (aC (nm 6) aN)) aN)))) (aC (callF 3 fs__law_after (aC (nm 2) (aC (nm 6) (aC (opN lenO (aC (nm 6) aN)) aN)))) aN))))))))))
def fs__law_cut : Fn := fnD 7 fb__law_cut

/-- _law_machine(tape, files, images, patches): 0 tape*, 1 files, 2 images, 3 patches, 4 k, 5 disk, 6 flat, 7 turn, 8 here, 9 last, 10 goal, 11 told, 12 number, 13 part, 14 count -/
def fb__law_machine : Mo Fl := (seqS (asgS (callF 2 fs__law_take (aC (nm 0) (aC (ck (.int 5)) aN))) (gNm 4))
  (seqS (parS 5 6 (aC (callF 1 fs_new_disk (aC (op2 atO (nm 2) (nm 4)) aN)) (aC (callF 3 fs__law_after (aC (frz dict0) (aC (callF 2 fs__law_install (aC (frz dict0) (aC (op2 atO (nm 1) (nm 4)) aN))) (aC (ck (.int 999)) aN)))) aN)))
  (seqS (forS (rng1 (aC (ck (.int 8)) aN)) (gNm 7) (seqS (asgS (op2 atO (callF 1 fs_current (aC (frz (opO dictO (aC (nm 5) aN))) aN)) (ck (.int 1))) (gNm 8))
  (seqS (ifS (orT (tst (op2 neO (nm 8) (op2 atO (callF 1 fs__law_current (aC (nm 6) aN)) (ck (.int 1))))) (tst (op2 ninO (nm 8) (nm 2)))) (retS (ck (.bl false))) nxS)
  (seqS (parS 4 9 (aC (bm isLs idxO (nm 2) (aC (nm 8) aN)) (aC (op2 addO (ck (.int 1)) (callF 2 fs__law_take (aC (nm 0) (aC (ck (.int 4)) aN)))) aN)))
  (seqS (ifS (tst (op2 eqO (nm 4) (ck (.int 4)))) bkS nxS)
  (seqS (asgS (opN maxO (aC (nm 9) (aC (op2 addO (nm 4) (ck (.int 1))) aN))) (gNm 9))
  (seqS (asgS (callF 2 fs__law_patched (aC (nm 8) (aC (slO (nm 3) (poS (nm 4)) (poS (nm 9))) aN))) (gNm 10))
  (seqS (ifS (orT (tst (op2 neO (nm 10) (op2 atO (nm 2) (nm 9)))) (tst (op2 neO (callX 2 fs_patched (aC (nm 8) (aC (callF 2 fs_patch (aC (nm 8) (aC (op2 atO (nm 2) (nm 9)) aN))) aN))) (nm 10)))) (retS (ck (.bl false))) nxS)
  (seqS (asgS (iffE (tst (op2 eqO (callF 2 fs__law_take (aC (nm 0) (aC (ck (.int 2)) aN))) (ck (.int 0)))) (callF 4 fs__law_cut (aC (nm 0) (aC (nm 5) (aC (nm 6) (aC (op2 atO (nm 1) (nm 9)) aN))))) (ck .non)) (gNm 11))
  (ifS (tst (op2 isNotO (nm 11) (ck .non))) (asgS (nm 11) (gTp 2 (gCn (gNm 5) (gCn (gNm 6) gNl)))) (parS 5 6 (aC (callF 3 fs_after (aC (nm 5) (aC (callF 2 fs_install_writes (aC (frz (opO dictO (aC (nm 5) aN))) (aC (nm 10) aN))) (aC (ck (.int 999)) aN)))) (aC (callF 3 fs__law_after (aC (nm 6) (aC (callF 2 fs__law_install (aC (nm 6) (aC (op2 atO (nm 1) (nm 9)) aN))) (aC (ck (.int 999)) aN)))) aN)))))))))))))
  (seqS (parS 8 9 (aC (op2 atO (callF 1 fs_current (aC (frz (opO dictO (aC (nm 5) aN))) aN)) (ck (.int 1))) (aC (op2 atO (nm 2) (ck (.int 4))) aN)))
  (seqS (asgS (callF 2 fs__law_patched (aC (nm 8) (aC (slO (nm 3) (poS (bm isLs idxO (nm 2) (aC (nm 8) aN))) poN) aN))) (gNm 10))
  (seqS (ifS (tst (op2 neO (nm 10) (nm 9))) (retS (ck (.bl false))) nxS)
  (seqS (parS 5 6 (aC (callF 3 fs_after (aC (nm 5) (aC (callF 2 fs_install_writes (aC (frz (opO dictO (aC (nm 5) aN))) (aC (nm 10) aN))) (aC (ck (.int 999)) aN)))) (aC (callF 3 fs__law_after (aC (nm 6) (aC (callF 2 fs__law_install (aC (nm 6) (aC (op2 atO (nm 1) (ck (.int 4))) aN))) (aC (ck (.int 999)) aN)))) aN)))
  (seqS (ifS (orT (tst (op2 neO (nm 5) (nm 6))) (orT (tst (op2 neO (callF 1 fs_current (aC (frz (opO dictO (aC (nm 5) aN))) aN)) (callF 1 fs__law_current (aC (nm 6) aN)))) (orT (tst (op2 neO (op2 atO (callF 1 fs_current (aC (frz (opO dictO (aC (nm 5) aN))) aN)) (ck (.int 1))) (nm 9))) (tst (op2 neO (callF 1 fs_whole_numbers (aC (frz (opO dictO (aC (nm 5) aN))) aN)) (callF 1 fs__law_whole (aC (nm 6) aN))))))) (retS (ck (.bl false))) nxS)
  (seqS (forS (walk (callF 1 fs__law_whole (aC (nm 6) aN))) (gNm 12) (seqS (asgS (callF 3 fs_after (aC (nm 5) (aC (callF 2 fs_back_writes (aC (frz (opO dictO (aC (nm 5) aN))) (aC (nm 12) aN))) (aC (ck (.int 1)) aN)))) (gNm 13))
  (ifS (orT (tst (op2 ninO (op2 atO (callF 1 fs_current (aC (nm 13) aN)) (ck (.int 1))) (nm 2))) (tst (op2 neO (op2 atO (callF 1 fs_current (aC (nm 13) aN)) (ck (.int 1))) (callF 1 fs__law_image (aC (callF 2 fs__law_files_of (aC (nm 6) (aC (nm 12) aN))) aN))))) (retS (ck (.bl false))) nxS)))
  (seqS (asgS (callF 2 fs__law_take (aC (nm 0) (aC (ck (.int 3)) aN))) (gNm 14))
  (retS (op2 eqO (callF 3 fs_after (aC (nm 5) (aC (callF 2 fs_clean_writes (aC (frz (opO dictO (aC (nm 5) aN))) (aC (nm 14) aN))) (aC (ck (.int 999)) aN)))) (callF 3 fs__law_after (aC (nm 6) (aC (callF 2 fs__law_clean (aC (nm 6) (aC (nm 14) aN))) (aC (ck (.int 999)) aN))))))))))))))))
def fs__law_machine : Fn := fnD 15 fb__law_machine

/-- law(script): 0 script, 1 tape*, 2 files*, 3 met*, 4 k, 5 some*, 6 images, 7 n, 8 patches, 9 back, 10 path -/
def fb_law : Mo Fl := (seqS (asgS (callF 1 fs__law_tape (aC (nm 0) aN)) (gNm 1))
  (seqS (parG 2 (aC (lstM aN) (aC (newO dict0) aN)) (gCn (gNm 2) (gCn (gNm 3) gNl)))
  (seqS (forS (rng1 (aC (ck (.int 5)) aN)) (gNm 4) (seqS (asgS (iffE (andT (tst (op2 neO (nm 2) (opN lstO aN))) (tst (op2 gtO (callF 2 fs__law_take (aC (nm 1) (aC (ck (.int 3)) aN))) (ck (.int 0))))) (newO (opO dictO (aC (itemsL (op2 atO (nm 2) (negM (ck (.int 1))))) aN))) (newO dict0)) (gNm 5))
  (seqS (drpS (updM (nm 5) (callF 2 fs__law_some_files (aC (nm 1) (aC (ck (.int 4)) aN)))))
  (seqS (putS (op2 addO (ck (.str "n")) (op2 mulO (opN strO (aC (nm 4) aN)) (op2 addO (ck (.int 1)) (callF 2 fs__law_take (aC (nm 1) (aC (ck (.int 20)) aN)))))) (nm 5) (ck (.str "k")))
  (drpS (bm isLs appO (nm 2) (aC (nz 5) aN)))))))
  (seqS (asgS (frz (lcM (walk (nm 2)) [5] (gNm 5) (ret true) (callF 1 fs__law_image (aC (nm 5) aN)))) (gNm 6))
  (seqS (forS (rng1 (aC (ck (.int 5)) aN)) (gNm 4) (forS (rng1 (aC (op2 addO (opN lenO (aC (op2 atO (nm 2) (nm 4)) aN)) (ck (.int 1))) aN)) (gNm 7) (drpS (callF 2 fs__law_name (aC (nm 3) (aC (callF 1 fs__law_image (aC (frz (opO dictO (aC (frz (lcM (walk (slO (opN sortedO (aC (op2 atO (nm 2) (nm 4)) aN)) poN (poS (nm 7)))) [10] (gNm 10) (ret true) (opN tupO (aC (nm 10) (aC (op2 atO (op2 atO (nm 2) (nm 4)) (nm 10)) aN))))) aN))) aN)) aN))))))
  (seqS (ifS (tst (op2 inO (ck (.str "clash")) (nm 3))) (retS (ck (.bl true))) nxS)
  (seqS (asgS (frz (lcM (rng1 (aC (ck (.int 4)) aN)) [4] (gNm 4) (ret true) (callF 2 fs_patch (aC (op2 atO (nm 6) (nm 4)) (aC (op2 atO (nm 6) (op2 addO (nm 4) (ck (.int 1)))) aN))))) (gNm 8))
  (seqS (forS (rng1 (aC (ck (.int 4)) aN)) (gNm 4) (seqS (ifS (orT (tst (op2 gtO (callF 1 fs_patch_size (aC (op2 atO (nm 8) (nm 4)) aN)) (opN lenO (aC (op2 atO (nm 6) (op2 addO (nm 4) (ck (.int 1)))) aN)))) (tst (op2 neO (callX 2 fs_patched (aC (op2 atO (nm 6) (nm 4)) (aC (op2 atO (nm 8) (nm 4)) aN))) (op2 atO (nm 6) (op2 addO (nm 4) (ck (.int 1))))))) (retS (ck (.bl false))) nxS)
  (forS (rng1 (aC (ck (.int 5)) aN)) (gNm 7) (ifS (tst (op2 eqO (op2 isO (callF 2 fs__law_patched (aC (op2 atO (nm 6) (nm 7)) (aC (opN lstO (aC (op2 atO (nm 8) (nm 4)) aN)) aN))) (ck .non)) (op2 eqO (nm 7) (nm 4)))) (retS (ck (.bl false))) nxS))))
  (seqS (ifS (orT (tst (op2 isNotO (callF 2 fs__law_patched (aC (op2 atO (nm 6) (ck (.int 0))) (aC (revO (nm 8)) aN))) (ck .non))) (orT (tst (op2 isNotO (callF 2 fs__law_patched (aC (op2 atO (nm 6) (ck (.int 0))) (aC (slO (nm 8) (poS (ck (.int 1))) poN) aN))) (ck .non))) (tst (op2 neO (callF 2 fs__law_patched (aC (op2 atO (nm 6) (ck (.int 0))) (aC (nm 8) aN))) (op2 atO (nm 6) (ck (.int 4))))))) (retS (ck (.bl false))) nxS)
  (seqS (asgS (callF 2 fs_patch (aC (op2 atO (nm 6) (ck (.int 4))) (aC (op2 atO (nm 6) (ck (.int 0))) aN))) (gNm 9))
  (seqS (ifS (tst (op2 neO (callF 2 fs__law_patched (aC (op2 atO (nm 6) (ck (.int 0))) (aC (op2 addO (op2 addO (nm 8) (opN lstO (aC (nm 9) aN))) (nm 8)) aN))) (op2 atO (nm 6) (ck (.int 4))))) (retS (ck (.bl false))) nxS)
  (retS (opN allO (aC (frz (lcM (rng1 (aC (ck (.int 3)) aN)) [4] (gNm 4) (ret true) (callF 4 fs__law_machine (aC (nm 1) (aC (nm 2) (aC (nm 6) (aC (nm 8) aN))))))) aN))))))))))))))
def fs_law : Fn := fnD 11 fb_law

end PD

noncomputable section
namespace PD
open PySem L2 PyProof.Rows
/-! ### evaluation -/
section
variable {s : S} {α β : Type}
theorem ev_bnd {f : Mo α} {k : α → Mo β} {s s1 : S} {a : α} (h : f s = some (.ok a, s1)) : bnd f k s = k a s1 := bnd_ok h
@[simp] theorem ev_ret {a : α} : ret a s = some (.ok a, s) := rfl
@[simp] theorem ev_ck {d : D} : ck d s = some (.ok (.fz d), s) := rfl
@[simp] theorem ev_ofO {a : α} : ofO (some a) s = some (.ok a, s) := rfl
@[simp] theorem ev_nx : nxS s = some (.ok .nx, s) := rfl
@[simp] theorem ev_aN : aN s = some (.ok [], s) := rfl
theorem ev_nm {i : Nat} {w : W} (h : s.r[i]? = some (some w)) : nm i s = some (.ok w, s) := by unfold nm; rw [h]
theorem ev_seq {f g : Mo Fl} {s s1 : S} (h : f s = some (.ok .nx, s1)) : seqS f g s = g s1 := by unfold seqS; rw [h]
end
/-- a loop by an invariant -/
theorem forL_ind {g : W → Mo Unit} {b : Mo Fl} {ok : List MO → Bool} (I : Nat → S → Prop) : ∀ (ws : List W) (n : Nat) (s : S), (∀ i w s, ws[i]? = some w → I (n + i) s → ok s.m = true ∧ ∃ s', (bnd (g w) (fun _ => b) s = some (.ok .nx, s') ∨ bnd (g w) (fun _ => b) s = some (.ok .ct, s')) ∧ I (n + i + 1) s') → (∀ s, I (n + ws.length) s → ok s.m = true) → I n s →
    ∃ s', forL g b ok ws s = some (.ok .nx, s') ∧ I (n + ws.length) s'
  | [], n, s, _, hk, h => ⟨s, by unfold forL; rw [if_pos (hk s h)], h⟩
  | w :: ws, n, s, hs, hk, h => by
    obtain ⟨ok1, s1, h1, h2⟩ := hs 0 w s rfl h
    obtain ⟨s2, h3, h4⟩ := forL_ind I ws (n + 1) s1 (fun i w s hw hi => by
      have := hs (i + 1) w s (by simpa using hw) (by rw [show n + (i + 1) = n + 1 + i by omega]; exact hi)
      rw [show n + (i + 1) + 1 = n + 1 + i + 1 by omega] at this
      exact this) (fun s hI => hk s (by rw [show n + (w :: ws).length = n + 1 + ws.length by simp; omega]; exact hI)) h2
    refine ⟨s2, ?_, by rw [show n + (w :: ws).length = n + 1 + ws.length by simp; omega]; exact h4⟩
    unfold forL
    rw [if_pos ok1]
    rcases h1 with h1 | h1
    all_goals
      obtain ⟨u, sg, hg⟩ : ∃ u sg, g w s = some (.ok u, sg) := by
        cases hg : g w s with
        | none => rw [bnd_no hg] at h1; cases h1
        | some q =>
          obtain ⟨r, sg⟩ := q
          cases r with
          | error e => rw [bnd_er hg] at h1; cases h1
          | ok u => exact ⟨u, sg, rfl⟩
      rw [bnd_ok hg] at h1 ⊢
      simp only [h1]
      exact h3
/-! ### texts -/
def tl (x : Str) : List Nat := x.cps.toList
def ofL (l : List Nat) : Str := ⟨l.toArray⟩
@[simp] theorem tl_ofL (l : List Nat) : tl (ofL l) = l := by simp [ofL, tl]
@[simp] theorem ofL_tl (x : Str) : ofL (tl x) = x := by cases x; simp [ofL, tl]
theorem tl_inj {x y : Str} (h : tl x = tl y) : x = y := str_cps h
@[simp] theorem tl_app (x y : Str) : tl (x ++ y) = tl x ++ tl y := by
  show (x.cps ++ y.cps).toList = x.cps.toList ++ y.cps.toList
  simp
theorem len_tl (x : Str) : x.length = (tl x).length := by simp [Str.length, tl]
/-- what is walked -/
theorem ev_walk_str {f : Mo W} {s s1 : S} {x : Str} (h : f s = some (.ok (.fz (.str x)), s1)) : walk f s = some (.ok (Wk.of ((tl x).map fun c => .fz (.str ⟨#[c]⟩))), s1) := by
  unfold walk
  rw [ev_bnd h]
  rfl
theorem ev_for {f : Mo Wk} {g : W → Mo Unit} {b : Mo Fl} {s s1 : S} {k : Wk} (h : f s = some (.ok k, s1)) : forS f g b s = forL g b k.ok k.ws s1 := by
  unfold forS
  rw [ev_bnd h]
/-! ### digests -/
def DP : Int := 2305843009213693951
def numOf (x : Str) : Int := (tl x).foldl (fun (f : Int) (c : Nat) => (f * 2000003 + (c : Int)) % DP) (x.length + 7 : Int)
theorem fin_ok {n : Nat} {b : Mo Fl} {ws : List W} {M : List MO} {d : D} {s : S} (h : b ⟨start0 n ws, M⟩ = some (.ok (.rt (.fz d)), s)) (hm : s.m = M) : fnD n b ws M = some (.ok (.fz d), M) := by
  unfold fnD
  rw [h]
  simp only [hm]
  show ((trunc M M).map fun M2 => (W.fz d, M2)).map _ = _
  rw [trunc_refl]
  rfl
theorem foldl_take {α β : Type} {f : β → α → β} {b : β} {l : List α} {i : Nat} {a : α} (h : l[i]? = some a) : (l.take (i + 1)).foldl f b = f ((l.take i).foldl f b) a := by
  rw [List.take_succ, h]
  simp
theorem s_number_of (x : Str) (M : List MO) (hx : x.length ≤ LIM) : fs_number_of [.fz (.str x)] M = some (.ok (.fz (.int (numOf x))), M) := by
  have init : (asgS (op2 addO (opN lenO (aC (nm 0) aN)) (ck (.int 7))) (gNm 1)) ⟨[some (.fz (.str x)), none, none], M⟩ = some (.ok .nx, ⟨[some (.fz (.str x)), some (.fz (.int (x.length + 7))), none], M⟩) := by
    simp [asgS, bnd, op2, opN, aC, nm, lenO, hx, addO, gNm, setR, ofO]
  obtain ⟨s2, h2, o, h3⟩ := forL_ind (g := gNm 2) (b := asgS (op2 modO (op2 addO (op2 mulO (nm 1) (ck (.int 2000003))) (opN ordO (aC (nm 2) aN))) (ck (.int 2305843009213693951))) (gNm 1)) (ok := fun _ => true)
    (fun i s => ∃ o, s = ⟨[some (.fz (.str x)), some (.fz (.int ((tl x).take i |>.foldl (fun (f : Int) (c : Nat) => (f * 2000003 + (c : Int)) % DP) (x.length + 7 : Int)))), o], M⟩)
    ((tl x).map fun c => .fz (.str ⟨#[c]⟩)) 0 ⟨[some (.fz (.str x)), some (.fz (.int (x.length + 7))), none], M⟩
    (fun i w s hw ⟨o, hs⟩ => by
      subst hs
      obtain ⟨c, hc, rfl⟩ := getD hw
      refine ⟨rfl, _, .inl ?_, some (.fz (.str ⟨#[c]⟩)), rfl⟩
      simp only [Nat.zero_add]
      rw [foldl_take hc]
      simp [asgS, bnd, op2, opN, aC, nm, mulO, ordO, modO, addO, gNm, setR, ofO, DP, Str.length])
    (fun _ _ => rfl) ⟨none, by simp⟩
  have e : fs_number_of = fnD 3 fb_number_of := rfl
  rw [e]
  refine fin_ok (s := s2) ?_ (by rw [h3])
  unfold fb_number_of
  rw [show start0 3 [W.fz (.str x)] = [some (.fz (.str x)), none, none] from rfl, ev_seq init]
  rw [ev_seq ((ev_for (ev_walk_str (ev_nm rfl))).trans h2), h3]
  simp [retS, bnd, nm, numOf]
end PD

noncomputable section
namespace PD
open PySem L2 PyProof.Rows
def hexS : Str := "0123456789abcdef"
def hexc (i : Int) : Nat := hexS.cps.toList.getD i.toNat 0
theorem hex_at {i : Int} (h0 : 0 ≤ i) (h1 : i < 16) : L2.atI hexS.cps.toList i = some (hexc i) := by
  obtain ⟨k, rfl⟩ := Int.eq_ofNat_of_zero_le h0
  have : ∀ k : Fin 16, L2.atI hexS.cps.toList ((k : Nat) : Int) = some (hexc ((k : Nat) : Int)) := by decide
  exact this ⟨k, by omega⟩
def dstep (p : Int × Str) : Int × Str := (p.1 / 16, ⟨#[hexc (p.1 % 16)]⟩ ++ p.2)
def dgo : Nat → Int × Str → Int × Str
  | 0, p => p
  | n + 1, p => dstep (dgo n p)
def dig (x : Str) : Str := (dgo 16 (numOf x, Str.ofString "")).2
theorem app_len (x y : Str) : (x ++ y).length = x.length + y.length := by
  rw [len_tl, tl_app, List.length_append, ← len_tl, ← len_tl]
theorem dgo_len (p : Int × Str) : ∀ n, (dgo n p).2.length = n + p.2.length
  | 0 => by simp [dgo]
  | n + 1 => by
    show (dstep (dgo n p)).2.length = _
    unfold dstep
    rw [app_len, dgo_len p n]
    simp [Str.length]
    omega
theorem hex_len : hexS.length ≤ LIM := by decide
/-- one turn of the digits -/
theorem hex_step {s : S} {f : Mo W} {n : Int} (hn : f s = some (.ok (.fz (.int n)), s)) : op2 atO (ck (.str hexS)) f s = none ∨ True := .inr trivial
theorem ev_hex {s : S} {f : Mo W} {n : Int} (hf : f s = some (.ok (.fz (.int (n % 16))), s)) : op2 atO (ck (.str "0123456789abcdef")) f s = some (.ok (.fz (.str ⟨#[hexc (n % 16)]⟩)), s) := by
  have h := hex_at (i := n % 16) (by omega) (by omega)
  show op2 atO (ck (.str hexS)) f s = _
  simp [op2, bnd, hf, atO, keyW, keyD, asD, seqAt, hex_len, h, ofO]
theorem digits_loop {x : Str} {M : List MO} : ∃ s', forL (gNm 3) (seqS (asgS (op2 addO (op2 atO (ck (.str "0123456789abcdef")) (op2 modO (nm 1) (ck (.int 16)))) (nm 2)) (gNm 2)) (augS 1 fdvO (ck (.int 16)))) (fun _ => true) (rngV 0 16) ⟨[some (.fz (.str x)), some (.fz (.int (numOf x))), some (.fz (.str "")), none], M⟩ = some (.ok .nx, s') ∧
    ∃ o, s' = ⟨[some (.fz (.str x)), some (.fz (.int (dgo 16 (numOf x, Str.ofString "")).1)), some (.fz (.str (dig x))), o], M⟩ := by
  have h := forL_ind (g := gNm 3) (b := seqS (asgS (op2 addO (op2 atO (ck (.str "0123456789abcdef")) (op2 modO (nm 1) (ck (.int 16)))) (nm 2)) (gNm 2)) (augS 1 fdvO (ck (.int 16)))) (ok := fun _ => true)
    (fun i s => i ≤ 16 → ∃ o, s = ⟨[some (.fz (.str x)), some (.fz (.int (dgo i (numOf x, Str.ofString "")).1)), some (.fz (.str (dgo i (numOf x, Str.ofString "")).2)), o], M⟩)
    (rngV 0 16) 0 ⟨[some (.fz (.str x)), some (.fz (.int (numOf x))), some (.fz (.str "")), none], M⟩
    (fun i w s hw hs => by
      have hi : i < 16 := by
        have := (List.getElem?_eq_some_iff.mp hw).1
        simpa [rngV] using this
      obtain ⟨o, rfl⟩ := hs (by omega)
      refine ⟨rfl, ⟨[some (.fz (.str x)), some (.fz (.int (dgo (i + 1) (numOf x, Str.ofString "")).1)), some (.fz (.str (dgo (i + 1) (numOf x, Str.ofString "")).2)), some w], M⟩, .inl ?_, fun _ => ⟨some w, by rw [Nat.zero_add]⟩⟩
      have hl := dgo_len (numOf x, Str.ofString "") i
      have hl2 : (Str.ofString "").length = 0 := by decide
      have hb : 1 + (dgo i (numOf x, Str.ofString "")).2.length ≤ LIM := by rw [hl]; simp only [hl2]; show 1 + (i + 0) ≤ 16777216; omega
      rw [ev_bnd (show gNm 3 w _ = some (.ok (), _) from rfl)]
      simp only [Nat.zero_add]
      have e1 : (op2 modO (nm 1) (ck (.int 16))) (setR ⟨[some (.fz (.str x)), some (.fz (.int (dgo i (numOf x, Str.ofString "")).1)), some (.fz (.str (dgo i (numOf x, Str.ofString "")).2)), o], M⟩ 3 w) = some (.ok (.fz (.int ((dgo i (numOf x, Str.ofString "")).1 % 16))), setR ⟨[some (.fz (.str x)), some (.fz (.int (dgo i (numOf x, Str.ofString "")).1)), some (.fz (.str (dgo i (numOf x, Str.ofString "")).2)), o], M⟩ 3 w) := by
        simp [op2, bnd, nm, setR, modO, ofO]
      have e2 := ev_hex e1
      have e3 : asgS (op2 addO (op2 atO (ck (.str "0123456789abcdef")) (op2 modO (nm 1) (ck (.int 16)))) (nm 2)) (gNm 2) (setR ⟨[some (.fz (.str x)), some (.fz (.int (dgo i (numOf x, Str.ofString "")).1)), some (.fz (.str (dgo i (numOf x, Str.ofString "")).2)), o], M⟩ 3 w) = some (.ok .nx, ⟨[some (.fz (.str x)), some (.fz (.int (dgo i (numOf x, Str.ofString "")).1)), some (.fz (.str (dgo (i + 1) (numOf x, Str.ofString "")).2)), some w], M⟩) := by
        unfold asgS
        rw [show op2 addO (op2 atO (ck (.str "0123456789abcdef")) (op2 modO (nm 1) (ck (.int 16)))) (nm 2) = bnd (op2 atO (ck (.str "0123456789abcdef")) (op2 modO (nm 1) (ck (.int 16)))) fun u => bnd (nm 2) fun y => fun s => ofO (addO s.m u y) s from rfl]
        have e4 : (bnd (op2 atO (ck (.str "0123456789abcdef")) (op2 modO (nm 1) (ck (.int 16)))) fun u => bnd (nm 2) fun y => fun s => ofO (addO s.m u y) s) (setR ⟨[some (.fz (.str x)), some (.fz (.int (dgo i (numOf x, Str.ofString "")).1)), some (.fz (.str (dgo i (numOf x, Str.ofString "")).2)), o], M⟩ 3 w) = some (.ok (.fz (.str (dgo (i + 1) (numOf x, Str.ofString "")).2)), setR ⟨[some (.fz (.str x)), some (.fz (.int (dgo i (numOf x, Str.ofString "")).1)), some (.fz (.str (dgo i (numOf x, Str.ofString "")).2)), o], M⟩ 3 w) := by
          rw [ev_bnd e2]
          have hb' : Str.length ⟨#[hexc ((dgo i (numOf x, Str.ofString "")).1 % 16)]⟩ + (dgo i (numOf x, Str.ofString "")).2.length ≤ LIM := hb
          simp [bnd, nm, setR, addO, hb', ofO, dgo, dstep]
        rw [ev_bnd e4]
        simp [bnd, gNm, setR]
      rw [ev_seq e3]
      simp [augS, bnd, nm, fdvO, setR, dgo, dstep])
    (fun _ _ => rfl) (fun _ => ⟨none, rfl⟩)
  obtain ⟨s', h1, h2⟩ := h
  have : 0 + (rngV 0 16).length = 16 := by simp [rngV]
  rw [this] at h2
  obtain ⟨o, e⟩ := h2 (by omega)
  exact ⟨s', h1, o, e⟩
theorem s_digest (x : Str) (M : List MO) (hx : x.length ≤ LIM) : fs_digest [.fz (.str x)] M = some (.ok (.fz (.str (dig x))), M) := by
  obtain ⟨s2, h2, o, h3⟩ := digits_loop (x := x) (M := M)
  rw [show fs_digest = fnD 4 fb_digest from rfl]
  refine fin_ok (s := s2) ?_ (by rw [h3])
  unfold fb_digest
  have init : (parS 1 2 (aC (callF 1 fs_number_of (aC (nm 0) aN)) (aC (ck (.str "")) aN))) ⟨start0 4 [.fz (.str x)], M⟩ = some (.ok .nx, ⟨[some (.fz (.str x)), some (.fz (.int (numOf x))), some (.fz (.str "")), none], M⟩) := by
    simp [parS, bnd, aC, callF, nm, start0, s_number_of x M hx, setR]
  rw [ev_seq init, ev_seq ((ev_for (k := Wk.of (rngV 0 16)) (s1 := ⟨[some (.fz (.str x)), some (.fz (.int (numOf x))), some (.fz (.str "")), none], M⟩) (by simp [rng1, bnd, aC, bdI, ofO])).trans h2), h3]
  simp [retS, bnd, nm]
end PD

noncomputable section
namespace PD
open PySem L2 PyProof.Rows
@[simp] theorem intO_i {M : List MO} {i : Int} : intO M [.fz (.int i)] = some (.fz (.int i)) := rfl
@[simp] theorem eqO_ii {M : List MO} {a b : Int} : eqO M (.fz (.int a)) (.fz (.int b)) = some (.fz (.bl (a == b))) := rfl
@[simp] theorem eqO_ss {M : List MO} {a b : Str} : eqO M (.fz (.str a)) (.fz (.str b)) = some (.fz (.bl (a == b))) := rfl
@[simp] theorem neO_ii {M : List MO} {a b : Int} : neO M (.fz (.int a)) (.fz (.int b)) = some (.fz (.bl (!(a == b)))) := rfl
@[simp] theorem neO_ss {M : List MO} {a b : Str} : neO M (.fz (.str a)) (.fz (.str b)) = some (.fz (.bl (!(a == b)))) := rfl
@[simp] theorem ltO_ii {M : List MO} {a b : Int} : ltO M (.fz (.int a)) (.fz (.int b)) = some (.fz (.bl (decide (a < b)))) := rfl
@[simp] theorem gtO_ii {M : List MO} {a b : Int} : gtO M (.fz (.int a)) (.fz (.int b)) = some (.fz (.bl (decide (b < a)))) := rfl
@[simp] theorem geO_ii {M : List MO} {a b : Int} : geO M (.fz (.int a)) (.fz (.int b)) = some (.fz (.bl (decide (b ≤ a)))) := rfl
@[simp] theorem subO_ii {M : List MO} {a b : Int} : subO M (.fz (.int a)) (.fz (.int b)) = some (.fz (.int (a - b))) := rfl
@[simp] theorem iaddO_ii {M : List MO} {a b : Int} : iaddO M (.fz (.int a)) (.fz (.int b)) = some (.fz (.int (a + b))) := rfl
@[simp] theorem lenO_dK {M : List MO} {kvs : List (Key × D)} : lenO M [.fz (.dK kvs)] = some (.fz (.int kvs.length)) := rfl
@[simp] theorem lenO_str {M : List MO} {x : Str} : lenO M [.fz (.str x)] = if x.length ≤ LIM then some (.fz (.int x.length)) else none := rfl
@[simp] theorem lenO_lst {M : List MO} {ds : List D} : lenO M [.fz (.lst ds)] = some (.fz (.int ds.length)) := rfl
@[simp] theorem addO_ii {M : List MO} {i j : Int} : addO M (.fz (.int i)) (.fz (.int j)) = some (.fz (.int (i + j))) := rfl
@[simp] theorem addO_ss {M : List MO} {x y : Str} : addO M (.fz (.str x)) (.fz (.str y)) = if x.length + y.length ≤ LIM then some (.fz (.str (x ++ y))) else none := rfl
@[simp] theorem addO_ll {M : List MO} {a b : List D} : addO M (.fz (.lst a)) (.fz (.lst b)) = if a.length + b.length ≤ LIM then some (.fz (.lst (a ++ b))) else none := rfl
@[simp] theorem atO_hex {M : List MO} (n : Int) : atO M (.fz (.str "0123456789abcdef")) (.fz (.int (n % 16))) = some (.fz (.str ⟨#[hexc (n % 16)]⟩)) := by
  have h := hex_at (i := n % 16) (by omega) (by omega)
  show atO M (.fz (.str hexS)) (.fz (.int (n % 16))) = _
  simp [atO, keyW, keyD, asD, seqAt, hex_len, h]
theorem dgo_hl (n : Int) (i : Nat) (hi : i < 16) (c : Nat) : Str.length ⟨#[c]⟩ + (dgo i (n, Str.ofString "")).2.length ≤ LIM := by
  rw [dgo_len]
  have h0 : (Str.ofString "").length = 0 := by decide
  simp only [h0]
  show 1 + (i + 0) ≤ 16777216
  omega
theorem s_law_digest (x : Str) (M : List MO) (hx : x.length ≤ LIM) : fs__law_digest [.fz (.str x)] M = some (.ok (.fz (.str (dig x))), M) := by
  rw [show fs__law_digest = fnD 5 fb__law_digest from rfl]
  let st := fun (n : Int) (t : Str) (o p : Option W) => (⟨[some (.fz (.str x)), some (.fz (.int n)), some (.fz (.str t)), o, p], M⟩ : S)
  obtain ⟨s2, h2, o, h3⟩ := forL_ind (g := gNm 3) (b := asgS (op2 modO (opN intO (aC (op2 addO (op2 mulO (nm 1) (ck (.int 2000003))) (opN ordO (aC (nm 3) aN))) aN)) (ck (.int 2305843009213693951))) (gNm 1)) (ok := fun _ => true)
    (fun i s => ∃ o, s = st ((tl x).take i |>.foldl (fun (f : Int) (c : Nat) => (f * 2000003 + (c : Int)) % DP) (x.length + 7 : Int)) (Str.ofString "") o none)
    ((tl x).map fun c => .fz (.str ⟨#[c]⟩)) 0 (st (x.length + 7) (Str.ofString "") none none)
    (fun i w s hw ⟨o, hs⟩ => by
      subst hs
      obtain ⟨c, hc, rfl⟩ := getD hw
      refine ⟨rfl, _, .inl ?_, some (.fz (.str ⟨#[c]⟩)), rfl⟩
      simp only [Nat.zero_add]
      rw [foldl_take hc]
      simp [asgS, bnd, op2, opN, aC, nm, gNm, setR, ofO, ret, ck, parS, parG, callF, tst, asB, tru, truB, andT, orT, notT, iffE, ifS, seqS, retS, retN, drpS, nxS, augS, aN, mulO, modO, fdvO, poN, poS, slO, gTp, gCn, gNl, asT, negM, frz, newO, data, sm0, sm1, isStr, bm, isLs, ordO, DP, Str.length, st])
    (fun _ _ => rfl) ⟨none, by simp⟩
  have e3 : s2 = st (numOf x) (Str.ofString "") o none := by
    rw [h3]
    simp only [Nat.zero_add, List.length_map, List.take_length]
    rfl
  obtain ⟨s4, h4, h5⟩ := forL_ind (g := gNm 4) (b := seqS (asgS (op2 addO (op2 atO (ck (.str "0123456789abcdef")) (op2 modO (opN intO (aC (nm 1) aN)) (ck (.int 16)))) (nm 2)) (gNm 2)) (asgS (op2 fdvO (nm 1) (ck (.int 16))) (gNm 1))) (ok := fun _ => true)
    (fun i s => i ≤ 16 → ∃ p, s = st (dgo i (numOf x, Str.ofString "")).1 (dgo i (numOf x, Str.ofString "")).2 o p)
    (rngV 0 16) 0 s2
    (fun i w s hw hs => by
      have hi : i < 16 := by simpa [rngV] using (List.getElem?_eq_some_iff.mp hw).1
      obtain ⟨p, rfl⟩ := hs (by omega)
      refine ⟨rfl, st (dgo (i + 1) (numOf x, Str.ofString "")).1 (dgo (i + 1) (numOf x, Str.ofString "")).2 o (some w), .inl ?_, fun _ => ⟨some w, by rw [Nat.zero_add]⟩⟩
      simp only [Nat.zero_add]
      have hl := dgo_hl (numOf x) i hi (hexc ((dgo i (numOf x, Str.ofString "")).1 % 16))
      simp [asgS, bnd, op2, opN, aC, nm, gNm, setR, ofO, ret, ck, parS, parG, callF, tst, asB, tru, truB, andT, orT, notT, iffE, ifS, seqS, retS, retN, drpS, nxS, augS, aN, mulO, modO, fdvO, poN, poS, slO, gTp, gCn, gNl, asT, negM, frz, newO, data, sm0, sm1, isStr, bm, isLs, st, hl, dgo, dstep])
    (fun _ _ => rfl) (fun _ => ⟨none, e3⟩)
  rw [show 0 + (rngV 0 16).length = 16 by simp [rngV]] at h5
  obtain ⟨p, e5⟩ := h5 (by omega)
  refine fin_ok (s := s4) ?_ (by rw [e5])
  unfold fb__law_digest
  have init : (parS 1 2 (aC (op2 addO (opN lenO (aC (nm 0) aN)) (ck (.int 7))) (aC (ck (.str "")) aN))) ⟨start0 5 [.fz (.str x)], M⟩ = some (.ok .nx, st (x.length + 7) (Str.ofString "") none none) := by
    simp [asgS, bnd, op2, opN, aC, nm, gNm, setR, ofO, ret, ck, parS, parG, callF, tst, asB, tru, truB, andT, orT, notT, iffE, ifS, seqS, retS, retN, drpS, nxS, augS, aN, mulO, modO, fdvO, poN, poS, slO, gTp, gCn, gNl, asT, negM, frz, newO, data, sm0, sm1, isStr, bm, isLs, start0, hx, st]
  rw [ev_seq init, ev_seq ((ev_for (ev_walk_str (ev_nm rfl))).trans h2), ev_seq ((ev_for (k := Wk.of (rngV 0 16)) (s1 := s2) (by simp [rng1, asgS, bnd, op2, opN, aC, nm, gNm, setR, ofO, ret, ck, parS, parG, callF, tst, asB, tru, truB, andT, orT, notT, iffE, ifS, seqS, retS, retN, drpS, nxS, augS, aN, mulO, modO, fdvO, poN, poS, slO, gTp, gCn, gNl, asT, negM, frz, newO, data, sm0, sm1, isStr, bm, isLs, bdI])).trans h4), e5]
  simp [asgS, bnd, op2, opN, aC, nm, gNm, setR, ofO, ret, ck, parS, parG, callF, tst, asB, tru, truB, andT, orT, notT, iffE, ifS, seqS, retS, retN, drpS, nxS, augS, aN, mulO, modO, fdvO, poN, poS, slO, gTp, gCn, gNl, asT, negM, frz, newO, data, sm0, sm1, isStr, bm, isLs, st, dig]
end PD

noncomputable section
namespace PD
open PySem L2 PyProof.Rows
/-! ### dicts of texts -/
abbrev FS := List (Str × Str)
def eF (f : FS) : List (Key × D) := f.map fun p => (.inr p.1, .str p.2)
def kF (f : FS) : List Str := f.map (·.1)
def gF (f : FS) (p : Str) : Option Str := (f.find? fun q => decide (q.1 = p)).map (·.2)
def vF (f : FS) (p : Str) : Str := (gF f p).getD (Str.ofString "")
@[simp] theorem len_eF (f : FS) : (eF f).length = f.length := by simp [eF]
@[simp] theorem dget_eF (f : FS) (p : Str) : dget (eF f) (.inr p) = (gF f p).map .str := by
  unfold dget gF eF
  induction f with
  | nil => rfl
  | cons q f ih =>
    rw [List.map_cons, List.find?_cons, List.find?_cons]
    by_cases e : q.1 = p
    · rw [e]
      simp
    · have e2 : ¬ (Sum.inr q.1 : Key) = .inr p := fun z => e (Sum.inr.inj z)
      rw [decide_eq_false e, decide_eq_false e2]
      exact ih
theorem gF_mem {f : FS} {p : Str} (h : p ∈ kF f) : ∃ t, gF f p = some t := by
  unfold kF gF at *
  induction f with
  | nil => simp at h
  | cons q f ih =>
    rw [List.find?_cons]
    by_cases e : q.1 = p
    · rw [decide_eq_true e]; exact ⟨q.2, rfl⟩
    · rw [decide_eq_false e]
      rw [List.map_cons, List.mem_cons] at h
      exact ih (h.resolve_left fun z => e z.symm)
theorem gF_val {f : FS} {p : Str} (h : p ∈ kF f) : gF f p = some (vF f p) := by
  obtain ⟨t, e⟩ := gF_mem h
  unfold vF
  rw [e]
  rfl
@[simp] theorem keyS_eF (f : FS) : keyS (eF f) = some (kF f) := by
  induction f with
  | nil => rfl
  | cons q f ih =>
    show (keyS (eF f)).map (q.1 :: ·) = _
    rw [ih]
    rfl
@[simp] theorem atO_dS {M : List MO} {kvs : List (Key × D)} {x : Str} : atO M (.fz (.dK kvs)) (.fz (.str x)) = (dget kvs (.inr x)).map .fz := rfl
theorem strO_nat {M : List MO} {n : Nat} (h : n < 2 ^ 1919) : strO M [.fz (.int (n : Int))] = some (.fz (.str (strI n))) := by
  have hl : (n : Int).natAbs.log2 < 1920 := by
    rw [Int.natAbs_natCast]
    exact Nat.lt_of_le_of_lt (Nat.log2_le_self n |> fun _ => by
      by_cases h0 : n = 0
      · rw [h0]; decide
      · exact Nat.le_of_lt_succ (Nat.lt_succ_of_lt ((Nat.log2_lt h0).mpr h))) (by decide : 1919 < 1920)
  unfold strO
  simp only [hl, if_true]
theorem strO_len {M : List MO} {n : Nat} (h : n ≤ LIM) : strO M [.fz (.int (n : Int))] = some (.fz (.str (strI n))) := strO_nat (Nat.lt_of_le_of_lt h (by decide))
@[simp] theorem sortedO_eF {M : List MO} (f : FS) : sortedO M [.fz (.dK (eF f))] = if (kF f).length < 64 then some (.fz (.lst ((sortS (kF f)).map .str))) else none := by
  show sortedK (eF f) = _
  unfold sortedK
  rw [keyS_eF]
theorem mem_sortS {l : List Str} {x : Str} : x ∈ sortS l ↔ x ∈ l := (List.mergeSort_perm l leS).mem_iff
theorem len_sortS (l : List Str) : (sortS l).length = l.length := (List.mergeSort_perm l leS).length_eq
def headI (f : FS) : Str := (Str.ofString "image ") ++ strI f.length ++ Str.ofString "\n"
def partI (f : FS) (p : Str) : Str := p ++ Str.ofString " " ++ strI (vF f p).length ++ Str.ofString "\n" ++ vF f p ++ Str.ofString "\n"
def imgGo (f : FS) (l : List Str) (t : Str) : Str := l.foldl (fun t p => t ++ partI f p) t
def img (f : FS) : Str := imgGo f (sortS (kF f)) (headI f)
theorem imgGo_len (f : FS) : ∀ (l : List Str) (t : Str), (imgGo f l t).length = t.length + (l.map fun p => (partI f p).length).sum
  | [], t => by simp [imgGo]
  | p :: l, t => by
    show (imgGo f l (t ++ partI f p)).length = _
    rw [imgGo_len f l, app_len, List.map_cons, List.sum_cons]
    omega
theorem imgGo_take_le (f : FS) (l : List Str) (t : Str) (i : Nat) : (imgGo f (l.take i) t).length ≤ (imgGo f l t).length := by
  rw [imgGo_len, imgGo_len]
  have : ((l.take i).map fun p => (partI f p).length).sum ≤ (l.map fun p => (partI f p).length).sum := by
    conv => rhs; rw [← List.take_append_drop i l, List.map_append, List.sum_append]
    omega
  omega
theorem imgGo_take {f : FS} {l : List Str} {t : Str} {i : Nat} {p : Str} (h : l[i]? = some p) : imgGo f (l.take (i + 1)) t = imgGo f (l.take i) t ++ partI f p := foldl_take h
theorem str_assoc (x y z : Str) : x ++ y ++ z = x ++ (y ++ z) := tl_inj (by simp)
/-- what the law's own text is -/
theorem s_law_image (f : FS) (M : List MO) (hk : (kF f).length < 64) (hi : (img f).length ≤ LIM) : fs__law_image [.fz (.dK (eF f))] M = some (.ok (.fz (.str (img f))), M) := by
  rw [show fs__law_image = fnD 3 fb__law_image from rfl]
  let st := fun (t : Str) (o : Option W) => (⟨[some (.fz (.dK (eF f))), some (.fz (.str t)), o], M⟩ : S)
  have hlen : f.length ≤ LIM := by
    have : (kF f).length = f.length := by simp [kF]
    show _ ≤ 16777216
    omega
  have hh : (headI f).length ≤ LIM := by
    have := imgGo_take_le f (sortS (kF f)) (headI f) 0
    have h2 : imgGo f [] (headI f) = headI f := rfl
    rw [List.take_zero, h2] at this
    exact Nat.le_trans this hi
  obtain ⟨s2, h2, o, h3⟩ := forL_ind (g := gNm 2) (b := asgS (op2 addO (op2 addO (op2 addO (op2 addO (op2 addO (op2 addO (nm 1) (nm 2)) (ck (.str " "))) (opN strO (aC (opN lenO (aC (op2 atO (nm 0) (nm 2)) aN)) aN))) (ck (.str "\n"))) (op2 atO (nm 0) (nm 2))) (ck (.str "\n"))) (gNm 1)) (ok := fun _ => true)
    (fun i s => ∃ o, s = st (imgGo f ((sortS (kF f)).take i) (headI f)) o) ((sortS (kF f)).map fun p => .fz (.str p)) 0 (st (headI f) none)
    (fun i w s hw ⟨o, hs⟩ => by
      subst hs
      obtain ⟨p, hp, rfl⟩ := getD hw
      refine ⟨rfl, _, .inl ?_, some (.fz (.str p)), rfl⟩
      simp only [Nat.zero_add]
      have b := imgGo_take_le f (sortS (kF f)) (headI f) (i + 1)
      rw [imgGo_take hp] at b ⊢
      have b := Nat.le_trans b hi
      generalize imgGo f ((sortS (kF f)).take i) (headI f) = t at *
      have hm := gF_val (mem_sortS.mp (List.mem_of_getElem? hp))
      unfold partI at b ⊢
      rw [← str_assoc, ← str_assoc, ← str_assoc, ← str_assoc, ← str_assoc] at b ⊢
      simp only [app_len] at b
      have hv : (vF f p).length ≤ LIM := by omega
      have q1 : t.length + p.length ≤ LIM := by omega
      have q2 : (t ++ p).length + Str.length " " ≤ LIM := by rw [app_len]; omega
      have q3 : (t ++ p ++ Str.ofString " ").length + (strI (vF f p).length).length ≤ LIM := by simp only [app_len]; omega
      have q4 : (t ++ p ++ Str.ofString " " ++ strI (vF f p).length).length + Str.length "\n" ≤ LIM := by simp only [app_len]; omega
      have q5 : (t ++ p ++ Str.ofString " " ++ strI (vF f p).length ++ Str.ofString "\n").length + (vF f p).length ≤ LIM := by simp only [app_len]; omega
      have q6 : (t ++ p ++ Str.ofString " " ++ strI (vF f p).length ++ Str.ofString "\n" ++ vF f p).length + Str.length "\n" ≤ LIM := by simp only [app_len]; omega
      simp [asgS, bnd, op2, opN, aC, nm, gNm, setR, ofO, ret, ck, parS, parG, callF, tst, asB, tru, truB, andT, orT, notT, iffE, ifS, seqS, retS, retN, drpS, nxS, augS, aN, mulO, modO, fdvO, poN, poS, slO, gTp, gCn, gNl, asT, negM, frz, newO, data, sm0, sm1, isStr, bm, isLs, st, hm, hv, strO_len hv, q1, q2, q3, q4, q5, q6])
    (fun _ _ => rfl) ⟨none, rfl⟩
  refine fin_ok (s := s2) ?_ (by rw [h3])
  unfold fb__law_image
  have g1 : (Str.length "image ") + (strI f.length).length ≤ LIM := by unfold headI at hh; simp only [app_len] at hh; omega
  have g2 : (Str.ofString "image " ++ strI f.length).length + Str.length "\n" ≤ LIM := by unfold headI at hh; simp only [app_len] at hh ⊢; omega
  have init : (asgS (op2 addO (op2 addO (ck (.str "image ")) (opN strO (aC (opN lenO (aC (nm 0) aN)) aN))) (ck (.str "\n"))) (gNm 1)) ⟨start0 3 [.fz (.dK (eF f))], M⟩ = some (.ok .nx, st (headI f) none) := by
    simp [asgS, bnd, op2, opN, aC, nm, gNm, setR, ofO, ret, ck, parS, parG, callF, tst, asB, tru, truB, andT, orT, notT, iffE, ifS, seqS, retS, retN, drpS, nxS, augS, aN, mulO, modO, fdvO, poN, poS, slO, gTp, gCn, gNl, asT, negM, frz, newO, data, sm0, sm1, isStr, bm, isLs, start0, strO_len hlen, g1, g2, st, headI]
  rw [ev_seq init, ev_seq ((ev_for (k := Wk.of ((sortS (kF f)).map fun p => .fz (.str p))) (s1 := st (headI f) none) (by simp [walk, walkV, asgS, bnd, op2, opN, aC, nm, gNm, setR, ofO, ret, ck, parS, parG, callF, tst, asB, tru, truB, andT, orT, notT, iffE, ifS, seqS, retS, retN, drpS, nxS, augS, aN, mulO, modO, fdvO, poN, poS, slO, gTp, gCn, gNl, asT, negM, frz, newO, data, sm0, sm1, isStr, bm, isLs, st, hk]; rfl)).trans h2), h3]
  simp [asgS, bnd, op2, opN, aC, nm, gNm, setR, ofO, ret, ck, parS, parG, callF, tst, asB, tru, truB, andT, orT, notT, iffE, ifS, seqS, retS, retN, drpS, nxS, augS, aN, mulO, modO, fdvO, poN, poS, slO, gTp, gCn, gNl, asT, negM, frz, newO, data, sm0, sm1, isStr, bm, isLs, st, img, List.take_of_length_le]
end PD

noncomputable section
namespace PD
open PySem L2 PyProof.Rows
theorem fin_okL {n : Nat} {b : Mo Fl} {ws : List W} {M L : List MO} {d : D} {s : S} (h : b ⟨start0 n ws, M⟩ = some (.ok (.rt (.fz d)), s)) (hm : s.m = M ++ L) : fnD n b ws M = some (.ok (.fz d), M) := by
  unfold fnD
  rw [h]
  simp only [hm]
  show ((trunc M (M ++ L)).map fun M2 => (W.fz d, M2)).map _ = _
  rw [trunc_same]
  rfl
@[simp] theorem set_last {M : List MO} {x y : MO} : (M ++ [x]).set M.length y = M ++ [y] := by simp
@[simp] theorem get_last {M : List MO} {x : MO} : (M ++ [x])[M.length]? = some x := by simp
/-- a value that holds this dict of texts, however the memory grows -/
structure IsD' (M : List MO) (w : W) (f : FS) : Prop where
  d : ∀ L, asD (M ++ L) w = some (eF f)
  s : ∀ L, asS (M ++ L) w = none
  n : ∀ x, w ≠ .fz (.str x)
  t : ∀ x, w ≠ .fz (.tup x)
theorem isD_fz {M : List MO} {f : FS} : IsD' M (.fz (.dK (eF f))) f := ⟨fun _ => rfl, fun _ => rfl, (fun _ e => nomatch e), (fun _ e => nomatch e)⟩
theorem isD_ob {M : List MO} {n : Nat} {f : FS} (h : M[n]? = some (.dK (eF f))) : IsD' M (.ob n) f := by
  have hn := (List.getElem?_eq_some_iff.mp h).1
  have e : ∀ L : List MO, (M ++ L)[n]? = some (.dK (eF f)) := fun L => by rw [List.getElem?_append_left hn]; exact h
  exact ⟨fun L => by unfold asD; simp only [e], fun L => by unfold asS; simp only [e], (fun _ e => nomatch e), (fun _ e => nomatch e)⟩
theorem lenO_D {M : List MO} {w : W} {f : FS} (h : IsD' M w f) (L : List MO) : lenO (M ++ L) [w] = some (.fz (.int f.length)) := by
  unfold lenO
  split
  · rename_i x e
    cases e
    exact absurd rfl (h.n x)
  · rename_i ds e
    cases e
    exact absurd rfl (h.t ds)
  · rename_i w' _ _ e
    cases e
    rw [h.s L]
    simp [h.d L]
  · rename_i h1 h2 h3
    exact absurd rfl (h3 w)
theorem sortedO_D {M : List MO} {w : W} {f : FS} (h : IsD' M w f) (L : List MO) : sortedO (M ++ L) [w] = if (kF f).length < 64 then some (.fz (.lst ((sortS (kF f)).map .str))) else none := by
  show (match asS (M ++ L) w with
    | some ds => sortedL ds
    | none => match asD (M ++ L) w with
      | some ds => sortedK ds
      | none => none) = _
  rw [h.s L, h.d L]
  show sortedK (eF f) = _
  unfold sortedK
  rw [keyS_eF]
theorem atO_D {M : List MO} {w : W} {f : FS} (h : IsD' M w f) (L : List MO) (p : Str) : atO (M ++ L) w (.fz (.str p)) = ((gF f p).map D.str).map .fz := by
  unfold atO
  rw [h.d L]
  simp [keyW, keyD]
theorem tl_joinE (ps : List Str) : tl (Txt.join (Str.ofString "") ps) = (ps.map tl).flatten := by
  show TL.tl (Txt.join (Str.ofString "") ps) = (ps.map TL.tl).flatten
  rw [TL.join_eq, TL.tl_join]
  have : TL.tl (Str.ofString "") = [] := by decide
  rw [this]
  generalize ps.map TL.tl = l
  induction l with
  | nil => rfl
  | cons a l ih =>
    cases l with
    | nil => simp [TL.joinL]
    | cons b l =>
      show a ++ ([] ++ TL.joinL [] (b :: l)) = _
      rw [ih]
      simp
theorem tl_imgGo (f : FS) : ∀ (l : List Str) (t : Str), tl (imgGo f l t) = tl t ++ (l.map fun p => tl (partI f p)).flatten
  | [], t => by simp [imgGo]
  | p :: l, t => by
    show tl (imgGo f l (t ++ partI f p)) = _
    rw [tl_imgGo f l, tl_app]
    simp
theorem join_img (f : FS) : Txt.join (Str.ofString "") (headI f :: (sortS (kF f)).map (partI f)) = img f := by
  apply tl_inj
  rw [tl_joinE]
  unfold img
  rw [tl_imgGo]
  simp [Function.comp_def]
theorem dTxts_str : ∀ l : List Str, dTxts (l.map .str) = some l
  | [] => rfl
  | x :: l => by
    show (dTxts (l.map .str)).map (x :: ·) = _
    rw [dTxts_str l]
    rfl
theorem le_sum {l : List Nat} {x : Nat} (h : x ∈ l) : x ≤ l.sum := by
  induction l with
  | nil => simp at h
  | cons a l ih =>
    rw [List.sum_cons]
    rcases List.mem_cons.mp h with e | h
    · omega
    · have := ih h
      omega
theorem s_write_image {w : W} (f : FS) (M : List MO) (hw : IsD' M w f) (hk : (kF f).length < 64) (hi : (img f).length ≤ LIM) : fs_write_image [w] M = some (.ok (.fz (.str (img f))), M) := by
  rw [show fs_write_image = fnD 3 fb_write_image from rfl]
  let st := fun (ps : List Str) (o : Option W) => (⟨[some w, some (.ob M.length), o], M ++ [.lst (ps.map .str)]⟩ : S)
  have kl : (kF f).length = f.length := by simp [kF]
  have hlen : f.length ≤ LIM := by show _ ≤ 16777216; omega
  have isum := imgGo_len f (sortS (kF f)) (headI f)
  have hh : (headI f).length ≤ LIM := by have : (img f).length = _ := isum; omega
  obtain ⟨s2, h2, o, h3⟩ := forL_ind (g := gNm 2) (b := drpS (bm isLs appO (nm 1) (aC (op2 addO (op2 addO (op2 addO (op2 addO (op2 addO (nm 2) (ck (.str " "))) (opN strO (aC (opN lenO (aC (op2 atO (nm 0) (nm 2)) aN)) aN))) (ck (.str "\n"))) (op2 atO (nm 0) (nm 2))) (ck (.str "\n"))) aN))) (ok := fun _ => true)
    (fun i s => i ≤ 64 ∧ ∃ o, s = st (headI f :: ((sortS (kF f)).take i).map (partI f)) o) ((sortS (kF f)).map fun p => .fz (.str p)) 0 (st [headI f] none)
    (fun i x s hx ⟨hi64, o, hs⟩ => by
      subst hs
      obtain ⟨p, hp, rfl⟩ := getD hx
      have hil : i < (sortS (kF f)).length := (List.getElem?_eq_some_iff.mp hp).1
      rw [len_sortS] at hil
      refine ⟨rfl, st (headI f :: ((sortS (kF f)).take (i + 1)).map (partI f)) (some (.fz (.str p))), .inl ?_, by omega, some (.fz (.str p)), by rw [Nat.zero_add]⟩
      simp only [Nat.zero_add]
      have hm := gF_val (mem_sortS.mp (List.mem_of_getElem? hp))
      have pl : (partI f p).length ≤ LIM := by
        have : (partI f p).length ≤ ((sortS (kF f)).map fun p => (partI f p).length).sum := le_sum (List.mem_map.mpr ⟨p, List.mem_of_getElem? hp, rfl⟩)
        have : (img f).length = _ := isum
        omega
      rw [List.take_succ, hp]
      simp only [Option.toList_some, List.map_append, List.map_cons, List.map_nil]
      have ll : (D.str (headI f) :: (((sortS (kF f)).take i).map (partI f)).map D.str).length < LIM := by
        simp only [List.length_cons, List.length_map, List.length_take]
        show _ < 16777216
        omega
      have pe : partI f p = p ++ Str.ofString " " ++ strI (vF f p).length ++ Str.ofString "\n" ++ vF f p ++ Str.ofString "\n" := rfl
      rw [pe] at pl ⊢
      simp only [app_len] at pl
      have hv : (vF f p).length ≤ LIM := by omega
      have q2 : p.length + Str.length " " ≤ LIM := by omega
      have q3 : (p ++ Str.ofString " ").length + (strI (vF f p).length).length ≤ LIM := by simp only [app_len]; omega
      have q4 : (p ++ Str.ofString " " ++ strI (vF f p).length).length + Str.length "\n" ≤ LIM := by simp only [app_len]; omega
      have q5 : (p ++ Str.ofString " " ++ strI (vF f p).length ++ Str.ofString "\n").length + (vF f p).length ≤ LIM := by simp only [app_len]; omega
      have q6 : (p ++ Str.ofString " " ++ strI (vF f p).length ++ Str.ofString "\n" ++ vF f p).length + Str.length "\n" ≤ LIM := by simp only [app_len]; omega
      have at1 := fun L => atO_D hw L p
      simp only [hm, Option.map_some] at at1
      simp only [List.length_cons, List.length_map, List.length_take] at ll
      simp [asgS, bnd, op2, opN, aC, nm, gNm, setR, ofO, ret, ck, parS, parG, callF, tst, asB, tru, truB, andT, orT, notT, iffE, ifS, seqS, retS, retN, drpS, nxS, augS, aN, mulO, modO, fdvO, poN, poS, slO, gTp, gCn, gNl, asT, negM, frz, newO, data, sm0, sm1, isStr, bm, isLs, st, at1, hv, strO_len hv, q2, q3, q4, q5, q6, asS, asW, appO, addL, ll])
    (fun _ _ => rfl) ⟨by omega, none, rfl⟩
  obtain ⟨_, o, e⟩ : _ ∧ ∃ o, s2 = _ := ⟨o, h3⟩
  rw [show 0 + ((sortS (kF f)).map fun p => W.fz (.str p)).length = (sortS (kF f)).length by simp, List.take_length] at e
  refine fin_okL (s := s2) (L := [.lst ((headI f :: (sortS (kF f)).map (partI f)).map .str)]) ?_ (by rw [e])
  unfold fb_write_image
  have hhs : (headI f).length = Str.length "image " + (strI f.length).length + Str.length "\n" := by unfold headI; simp only [app_len]
  have g1 : Str.length "image " + (strI f.length).length ≤ LIM := by omega
  have g2 : (Str.ofString "image " ++ strI f.length).length + Str.length "\n" ≤ LIM := by simp only [app_len]; omega
  have l0 := lenO_D hw []
  rw [List.append_nil] at l0
  have init : (asgS (lstM (aC (op2 addO (op2 addO (ck (.str "image ")) (opN strO (aC (opN lenO (aC (nm 0) aN)) aN))) (ck (.str "\n"))) aN)) (gNm 1)) ⟨start0 3 [w], M⟩ = some (.ok .nx, st [headI f] none) := by
    have one : (1 : Nat) ≤ LIM := by decide
    simp [asgS, bnd, op2, opN, aC, nm, gNm, setR, ofO, ret, ck, parS, parG, callF, tst, asB, tru, truB, andT, orT, notT, iffE, ifS, seqS, retS, retN, drpS, nxS, augS, aN, mulO, modO, fdvO, poN, poS, slO, gTp, gCn, gNl, asT, negM, frz, newO, data, sm0, sm1, isStr, bm, isLs, lstM, start0, l0, strO_len hlen, g1, g2, st, headI, unW, one]
  rw [ev_seq init, ev_seq ((ev_for (k := Wk.of ((sortS (kF f)).map fun p => .fz (.str p))) (s1 := st [headI f] none) (by simp [walk, walkV, asgS, bnd, op2, opN, aC, nm, gNm, setR, ofO, ret, ck, parS, parG, callF, tst, asB, tru, truB, andT, orT, notT, iffE, ifS, seqS, retS, retN, drpS, nxS, augS, aN, mulO, modO, fdvO, poN, poS, slO, gTp, gCn, gNl, asT, negM, frz, newO, data, sm0, sm1, isStr, bm, isLs, st, sortedO_D hw, hk]; rfl)).trans h2), e]
  have js : ((headI f :: (sortS (kF f)).map (partI f)).map (·.length)).sum + (headI f :: (sortS (kF f)).map (partI f)).length * (Str.length "") ≤ 16777216 := by
    have h0 : Str.length "" = 0 := by decide
    rw [h0, Nat.mul_zero, Nat.add_zero, List.map_cons, List.sum_cons, List.map_map]
    have : (img f).length = _ := isum
    have hi' : (img f).length ≤ 16777216 := hi
    rw [this] at hi'
    exact hi'
  have dt := dTxts_str (headI f :: (sortS (kF f)).map (partI f))
  simp only [asgS, bnd, op2, opN, aC, nm, gNm, setR, ofO, ret, ck, parS, parG, callF, tst, asB, tru, truB, andT, orT, notT, iffE, ifS, seqS, retS, retN, drpS, nxS, augS, aN, mulO, modO, fdvO, poN, poS, slO, gTp, gCn, gNl, asT, negM, frz, newO, data, sm0, sm1, isStr, bm, isLs, st, sm1, joinO, asS, get_last]
  simp only [List.getElem?_cons_zero, List.getElem?_cons_succ, List.getElem?_nil, isStr, if_true, asS, get_last, dt, js, join_img]
end PD

noncomputable section
namespace PD
open PySem L2 PyProof.Rows
theorem whL_run {c : Mo Bool} {b : Mo Fl} {I : Nat → S → Prop} {n : Nat} (h : ∀ i s, i < n → I i s → c s = some (.ok true, s) ∧ ∃ s', b s = some (.ok .nx, s') ∧ I (i + 1) s') (he : ∀ s, I n s → c s = some (.ok false, s)) :
    ∀ (k i fuel : Nat) (s : S), i + k = n → k < fuel → I i s → ∃ s', whL fuel c b s = some (.ok .nx, s') ∧ I n s'
  | k, i, 0, s, _, hf, _ => by omega
  | 0, i, fuel + 1, s, e, _, hI => by
    have e : i = n := by omega
    subst e
    refine ⟨s, ?_, hI⟩
    unfold whL
    rw [ev_bnd (he s hI)]
    rfl
  | k + 1, i, fuel + 1, s, e, hf, hI => by
    obtain ⟨h1, s1, h2, h3⟩ := h i s (by omega) hI
    obtain ⟨s2, h4, h5⟩ := whL_run h he k (i + 1) fuel s1 (by omega) (by omega) h3
    refine ⟨s2, ?_, h5⟩
    unfold whL
    rw [ev_bnd h1]
    simp only [if_true, h2]
    exact h4
@[simp] theorem cutO_s {M : List MO} {x : Str} {lo hi : Option Int} : cutO M (.fz (.str x)) lo hi = if x.length ≤ LIM then some (.fz (.str (ofL (cutD (tl x) lo hi)))) else none := rfl
@[simp] theorem inO_sign {M : List MO} {c : Nat} {y : Str} : inO M (.fz (.str ⟨#[c]⟩)) (.fz (.str y)) = some (.fz (.bl (decide (c ∈ tl y)))) := by
  unfold inO inD
  simp [keyW, keyD, asD, tl]
theorem cutD_nat {α : Type} (l : List α) (a b : Nat) (h1 : a ≤ l.length) (h2 : b ≤ l.length) : cutD l (some (a : Int)) (some (b : Int)) = (l.drop a).take (b - a) := by
  unfold cutD
  rw [HT.sIx_nat, HT.sIx_nat, Nat.min_eq_left h1, Nat.min_eq_left h2]
theorem cutD_from {α : Type} (l : List α) (a : Nat) (h1 : a ≤ l.length) : cutD l (some (a : Int)) none = l.drop a := by
  unfold cutD
  rw [HT.sIx_nat, HT.sIx_none, Nat.min_eq_left h1]
  apply List.take_of_length_le
  simp
theorem atO_sn {M : List MO} {x : Str} {i c : Nat} (hx : x.length ≤ LIM) (h : (tl x)[i]? = some c) : atO M (.fz (.str x)) (.fz (.int (i : Int))) = some (.fz (.str ⟨#[c]⟩)) := by
  have h : x.cps.toList[i]? = some c := h
  simp [atO, keyW, keyD, asD, seqAt, hx, L2.atI_nat h]
theorem digits_mem {c : Nat} : (c ∈ tl ("0123456789" : Str)) ↔ (48 ≤ c ∧ c ≤ 57) := by
  have e : tl ("0123456789" : Str) = [48, 49, 50, 51, 52, 53, 54, 55, 56, 57] := by decide
  rw [e]
  simp
  omega
theorem intO_digits {M : List MO} {x : Str} {n : Nat} (h : tl x = TL.numL n) (hl : (TL.numL n).length ≤ 9) : intO M [.fz (.str x)] = some (.fz (.int n)) := by
  have hx : x.length ≤ 640 := by rw [len_tl, h]; omega
  have e : PySem.intText? x = some (n : Int) := by
    have hd : NumText.AllDigits x.cps.toList := by
      have : x.cps.toList = TL.numL n := h
      rw [this]; exact TL.numL_digits n
    rw [PySem.intText_digits hd (by have : x.cps.toList = TL.numL n := h; rw [this]; exact TL.numL_ne n) (by omega)]
    have : x.cps.toList = TL.numL n := h
    rw [this, TL.numL_val]
  unfold intO
  simp [hx, e]
theorem s_number_at (x : Str) (M : List MO) (n : Nat) (pre post : List Nat) (hx : x.length ≤ LIM) (ht : tl x = pre ++ (TL.numL n ++ 10 :: post)) (hn : (TL.numL n).length ≤ 9) :
    fs_number_at [.fz (.str x), .fz (.int pre.length)] M = some (.ok (.fz (.tup [.int n, .int ((pre.length + (TL.numL n).length + 1 : Nat) : Int)])), M) := by
  rw [show fs_number_at = fnD 3 fb_number_at from rfl]
  let st := fun (e : Nat) => (⟨[some (.fz (.str x)), some (.fz (.int pre.length)), some (.fz (.int (e : Int)))], M⟩ : S)
  have hlen : (tl x).length = x.length := (len_tl x).symm
  have htl : (tl x).length = pre.length + ((TL.numL n).length + (post.length + 1)) := by rw [ht]; simp
  obtain ⟨s2, h2, h3⟩ := whL_run (c := andT (tst (op2 ltO (nm 2) (opN lenO (aC (nm 0) aN)))) (tst (op2 inO (op2 atO (nm 0) (nm 2)) (ck (.str "0123456789"))))) (b := augS 2 iaddO (ck (.int 1)))
    (I := fun i s => s = st (pre.length + i)) (n := (TL.numL n).length)
    (fun i s hi hs => by
      subst hs
      have hc : (tl x)[pre.length + i]? = some ((TL.numL n)[i]) := by
        rw [ht, List.getElem?_append_right (by omega), show pre.length + i - pre.length = i by omega, List.getElem?_append_left hi, List.getElem?_eq_getElem hi]
      have hd : (TL.numL n)[i] ∈ tl ("0123456789" : Str) := digits_mem.mpr (TL.numL_digits n _ (List.getElem_mem hi))
      have hlt : ((pre.length + i : Nat) : Int) < (x.length : Int) := by omega
      have a1 := atO_sn (M := M) hx hc
      refine ⟨?_, st (pre.length + (i + 1)), ?_, rfl⟩
      · simp only [asgS, bnd, op2, opN, aC, nm, gNm, setR, ofO, ret, ck, parS, parG, callF, tst, asB, tru, truB, andT, orT, notT, iffE, ifS, seqS, retS, retN, drpS, nxS, augS, aN, mulO, modO, fdvO, poN, poS, slO, gTp, gCn, gNl, asT, negM, frz, newO, data, sm0, sm1, isStr, bm, isLs, st, List.getElem?_cons_zero, List.getElem?_cons_succ, lenO_str, hx, if_true, ltO_ii, hlt, decide_true, a1, inO_sign, hd]
      · simp [asgS, bnd, op2, opN, aC, nm, gNm, setR, ofO, ret, ck, parS, parG, callF, tst, asB, tru, truB, andT, orT, notT, iffE, ifS, seqS, retS, retN, drpS, nxS, augS, aN, mulO, modO, fdvO, poN, poS, slO, gTp, gCn, gNl, asT, negM, frz, newO, data, sm0, sm1, isStr, bm, isLs, st]
        omega)
    (fun s hs => by
      subst hs
      have hc : (tl x)[pre.length + (TL.numL n).length]? = some 10 := by
        rw [ht, List.getElem?_append_right (by omega), show pre.length + (TL.numL n).length - pre.length = (TL.numL n).length by omega, List.getElem?_append_right (Nat.le_refl _), Nat.sub_self]
        rfl
      have hd : ¬ (10 ∈ tl ("0123456789" : Str)) := by rw [digits_mem]; omega
      have hlt : ((pre.length + (TL.numL n).length : Nat) : Int) < (x.length : Int) := by omega
      have a1 := atO_sn (M := M) hx hc
      simp only [asgS, bnd, op2, opN, aC, nm, gNm, setR, ofO, ret, ck, parS, parG, callF, tst, asB, tru, truB, andT, orT, notT, iffE, ifS, seqS, retS, retN, drpS, nxS, augS, aN, mulO, modO, fdvO, poN, poS, slO, gTp, gCn, gNl, asT, negM, frz, newO, data, sm0, sm1, isStr, bm, isLs, st, List.getElem?_cons_zero, List.getElem?_cons_succ, lenO_str, hx, if_true, ltO_ii, hlt, decide_true, a1, inO_sign, hd, decide_false])
    (TL.numL n).length 0 FUEL (st (pre.length + 0)) (by omega) (by unfold FUEL; omega) rfl
  refine fin_ok (s := s2) ?_ (by rw [h3])
  unfold fb_number_at
  have init : asgS (nm 1) (gNm 2) ⟨start0 3 [.fz (.str x), .fz (.int pre.length)], M⟩ = some (.ok .nx, st (pre.length + 0)) := by
    simp [asgS, bnd, op2, opN, aC, nm, gNm, setR, ofO, ret, ck, parS, parG, callF, tst, asB, tru, truB, andT, orT, notT, iffE, ifS, seqS, retS, retN, drpS, nxS, augS, aN, mulO, modO, fdvO, poN, poS, slO, gTp, gCn, gNl, asT, negM, frz, newO, data, sm0, sm1, isStr, bm, isLs, start0, st]
  have hne := TL.numL_ne n
  have hpos : 0 < (TL.numL n).length := List.length_pos_iff.mpr hne
  have c1 : cutD (tl x) (some ((pre.length + (TL.numL n).length : Nat) : Int)) (some (((pre.length + (TL.numL n).length : Nat) : Int) + 1)) = [10] := by
    rw [show (((pre.length + (TL.numL n).length : Nat) : Int) + 1) = ((pre.length + (TL.numL n).length + 1 : Nat) : Int) by omega, cutD_nat _ _ _ (by omega) (by omega), ht, ← List.append_assoc, List.drop_left' (by simp)]
    rw [show pre.length + (TL.numL n).length + 1 - (pre.length + (TL.numL n).length) = 1 by omega]
    rfl
  have c2 : cutD (tl x) (some (pre.length : Int)) (some ((pre.length + (TL.numL n).length : Nat) : Int)) = TL.numL n := by
    rw [cutD_nat _ _ _ (by omega) (by omega), ht, List.drop_left' rfl, show pre.length + (TL.numL n).length - pre.length = (TL.numL n).length by omega, List.take_left' rfl]
  have nl : ofL [10] = ("\n" : Str) := by decide
  have t1 : (((pre.length + (TL.numL n).length : Nat) : Int) == (pre.length : Int)) = false := by
    rw [beq_eq_false_iff_ne]; omega
  have t2 : decide ((9 : Int) < ((pre.length + (TL.numL n).length : Nat) : Int) - (pre.length : Int)) = false := decide_eq_false (by omega)
  have t3 : (("\n" : Str) == ("\n" : Str)) = true := by decide
  have io := intO_digits (M := M) (x := ofL (TL.numL n)) (n := n) (tl_ofL _) hn
  have two : (2 : Nat) ≤ LIM := by decide
  rw [ev_seq init, ev_seq h2, h3]
  simp only [asgS, bnd, op2, opN, aC, nm, gNm, setR, ofO, ret, ck, parS, parG, callF, tst, asB, tru, truB, andT, orT, notT, iffE, ifS, seqS, retS, retN, drpS, nxS, augS, aN, mulO, modO, fdvO, poN, poS, slO, gTp, gCn, gNl, asT, negM, frz, newO, data, sm0, sm1, isStr, bm, isLs, st, List.getElem?_cons_zero, List.getElem?_cons_succ, eqO_ii, t1, addO_ii, cutO_s, hx, if_true, c1, nl, neO_ss, t3, subO_ii, gtO_ii, t2, c2, io, Bool.not_true, Bool.false_eq_true, if_false]
  simp [tupO, unW, two]
end PD

noncomputable section
namespace PD
open PySem L2 PyProof.Rows
@[simp] theorem leO_ss {M : List MO} {a b : Str} : leO M (.fz (.str a)) (.fz (.str b)) = some (.fz (.bl (!decide (tl b < tl a)))) := rfl
@[simp] theorem inO_nl {M : List MO} {y : Str} : inO M (.fz (.str "\n")) (.fz (.str y)) = some (.fz (.bl (decide (10 ∈ tl y)))) := inO_sign (c := 10)
@[simp] theorem atO_t0 {M : List MO} {d : D} {ds : List D} : atO M (.fz (.tup (d :: ds))) (.fz (.int 0)) = some (.fz d) := by
  have h : L2.atI (d :: ds) ((0 : Nat) : Int) = some d := L2.atI_nat rfl
  have h : L2.atI (d :: ds) 0 = some d := h
  simp [atO, keyW, keyD, asD, seqAt, h]
/-- files whose image can be read back -/
structure FOK (f : FS) : Prop where
  sorted : sortS (kF f) = kF f
  inc : (f.map fun q => tl q.1).Pairwise (· < ·)
  few : f.length < 64
  ne : ∀ q ∈ f, tl q.1 ≠ []
  sp : ∀ q ∈ f, 32 ∉ tl q.1
  nl : ∀ q ∈ f, 10 ∉ tl q.1
  small : (img f).length ≤ 1000000
def prt (q : Str × Str) : List Nat := tl q.1 ++ (32 :: (TL.numL q.2.length ++ (10 :: (tl q.2 ++ [10]))))
theorem tl_strI (n : Nat) : tl (strI n) = TL.numL n := TL.tl_num n
theorem nodup_inc {f : FS} (h : (f.map fun q => tl q.1).Pairwise (· < ·)) : (kF f).Nodup := by
  unfold kF
  rw [List.pairwise_map] at h
  show (f.map (·.1)).Pairwise (· ≠ ·)
  rw [List.pairwise_map]
  exact h.imp fun {a b} z e => by
    rw [e] at z
    exact absurd z (List.lt_irrefl _)
theorem gF_of {f : FS} (h : (kF f).Nodup) {q : Str × Str} (hq : q ∈ f) : gF f q.1 = some q.2 := by
  induction f with
  | nil => simp at hq
  | cons a f ih =>
    have h : (a.1 :: kF f).Nodup := h
    obtain ⟨h1, h2⟩ := List.nodup_cons.mp h
    unfold gF
    rw [List.find?_cons]
    rcases List.mem_cons.mp hq with e | hq
    · rw [e]; simp
    · have ne : ¬ a.1 = q.1 := fun e => h1 (by rw [e]; exact List.mem_map.mpr ⟨q, hq, rfl⟩)
      rw [decide_eq_false ne]
      exact ih h2 hq
theorem tl_part {f : FS} (h : (kF f).Nodup) {q : Str × Str} (hq : q ∈ f) : tl (partI f q.1) = prt q := by
  have e : vF f q.1 = q.2 := by unfold vF; rw [gF_of h hq]; rfl
  unfold partI prt
  rw [e]
  have a1 : tl (Str.ofString " ") = [32] := by decide
  have a2 : tl (Str.ofString "\n") = [10] := by decide
  simp [a1, a2, tl_strI]
theorem tl_img {f : FS} (h : FOK f) : tl (img f) = tl (headI f) ++ (f.map prt).flatten := by
  unfold img
  rw [tl_imgGo, h.sorted]
  congr 2
  unfold kF
  rw [List.map_map]
  exact List.map_congr_left fun q hq => tl_part (nodup_inc h.inc) hq
def posI (f : FS) (i : Nat) : Nat := (headI f).length + ((f.take i).map prt).flatten.length
theorem dput_new {kvs : List (Key × D)} {k : Key} {v : D} (h : k ∉ kvs.map (·.1)) : dput kvs k v = kvs ++ [(k, v)] := by
  unfold dput
  rw [if_neg]
  intro z
  obtain ⟨p, hp, e⟩ := List.any_eq_true.mp z
  exact h (List.mem_map.mpr ⟨p, hp, of_decide_eq_true e⟩)
theorem take_snoc {α : Type} {l : List α} {i : Nat} {a : α} (h : l[i]? = some a) : l.take (i + 1) = l.take i ++ [a] := by
  rw [List.take_succ, h]
  rfl
def befI (f : FS) (i : Nat) : Str := match i with
  | 0 => Str.ofString ""
  | i + 1 => (f[i]?.getD (Str.ofString "", Str.ofString "")).1
theorem numL_small {n : Nat} (h : n ≤ 1000000) : (TL.numL n).length ≤ 9 := TL.numL_len (by decide) (Nat.lt_of_le_of_lt h (by decide))
def stI (f : FS) (M : List MO) (i : Nat) (o5 o6 o7 o8 : Option W) : S := ⟨[some (.fz (.str (img f))), some (.fz (.int (f.length : Int))), some (.fz (.int (posI f i : Int))), some (.ob M.length), some (.fz (.str (befI f i))), o5, o6, o7, o8], M ++ [.dK (eF (f.take i))]⟩
def bdRead : Mo Fl := (seqS (asgS (op2 atO (sm1 partO (slO (nm 0) (poS (nm 2)) poN) (ck (.str " "))) (ck (.int 0))) (gNm 6))
  (seqS (ifS (orT (tst (op2 eqO (nm 6) (ck (.str "")))) (orT (tst (op2 leO (nm 6) (nm 4))) (tst (op2 inO (ck (.str "\n")) (nm 6))))) nvS nxS)
  (seqS (asgS (callF 2 fs_number_at (aC (nm 0) (aC (op2 addO (op2 addO (nm 2) (opN lenO (aC (nm 6) aN))) (ck (.int 1))) aN))) (gTp 2 (gCn (gNm 7) (gCn (gNm 8) gNl))))
  (seqS (putS (slO (nm 0) (poS (nm 8)) (poS (op2 addO (nm 8) (nm 7)))) (nm 3) (nm 6))
  (seqS (parS 2 4 (aC (op2 addO (op2 addO (nm 8) (nm 7)) (ck (.int 1))) (aC (nm 6) aN)))
  (ifS (orT (tst (op2 ltO (opN lenO (aC (op2 atO (nm 3) (nm 6)) aN)) (nm 7))) (tst (op2 neO (slO (nm 0) (poS (op2 subO (nm 2) (ck (.int 1)))) (poS (nm 2))) (ck (.str "\n"))))) nvS nxS))))))
theorem read_step (f : FS) (M : List MO) (h : FOK f) (i : Nat) (w : W) (o5 o6 o7 o8 : Option W) (hi : i < f.length) : ∃ o5' o6' o7' o8', bnd (gNm 5 w) (fun _ => bdRead) (stI f M i o5 o6 o7 o8) = some (.ok .nx, stI f M (i + 1) o5' o6' o7' o8') := by
  have nd := nodup_inc h.inc
  have hx : (img f).length ≤ LIM := Nat.le_trans h.small (by decide)
  have htl := tl_img h
  have hlen : (tl (img f)).length = (img f).length := (len_tl _).symm
  let st := stI f M
  obtain ⟨q, hq⟩ : ∃ q, f[i]? = some q := ⟨_, List.getElem?_eq_getElem hi⟩
  obtain ⟨p, t⟩ := q
  have hm : (p, t) ∈ f := List.mem_of_getElem? hq
  have hsplit : f = f.take i ++ (p, t) :: f.drop (i + 1) := by
    have := List.take_append_drop i f
    rw [List.drop_eq_getElem_cons hi] at this
    rw [List.getElem?_eq_getElem hi] at hq
    rw [Option.some.inj hq] at this
    exact this.symm
  let P := ((f.take i).map prt).flatten
  let R := ((f.drop (i + 1)).map prt).flatten
  let pre0 := tl (headI f) ++ P
  let pre1 := pre0 ++ (tl p ++ [32])
  have e0 : tl (img f) = pre0 ++ (prt (p, t) ++ R) := by
    rw [htl]
    conv => lhs; rw [hsplit, List.map_append, List.map_cons, List.flatten_append, List.flatten_cons]
    show tl (headI _) ++ _ = tl (headI f) ++ P ++ (prt (p, t) ++ R)
    rw [← hsplit, List.append_assoc]
  have hp0 : pre0.length = posI f i := by
    show (tl (headI f) ++ P).length = _
    rw [List.length_append, ← len_tl]
    rfl
  have e1 : tl (img f) = pre1 ++ (TL.numL t.length ++ 10 :: (tl t ++ (10 :: R))) := by
    rw [e0]
    simp [pre1, prt]
  have hp1 : pre1.length = posI f i + p.length + 1 := by
    simp only [pre1, List.length_append, hp0, List.length_singleton, ← len_tl]
    omega
  have L0 : (tl (img f)).length = pre1.length + ((TL.numL t.length).length + (1 + (t.length + (1 + R.length)))) := by
    rw [e1, List.length_append]
    simp only [List.length_append, List.length_cons, ← len_tl]
    omega
  have hsm : (img f).length ≤ 1000000 := h.small
  have hnum : (TL.numL t.length).length ≤ 9 := numL_small (by omega)
  let b := pre1.length + (TL.numL t.length).length + 1
  have hb : b = pre1.length + (TL.numL t.length).length + 1 := rfl
  have hpos' : posI f (i + 1) = b + t.length + 1 := by
    unfold posI
    rw [take_snoc hq, List.map_append, List.flatten_append, List.length_append]
    have hp0' : posI f i = (headI f).length + P.length := rfl
    have : ([(p, t)].map prt).flatten.length = p.length + (1 + ((TL.numL t.length).length + (1 + (t.length + 1)))) := by
      simp [prt, ← len_tl]
      omega
    rw [this]
    show (headI f).length + (P.length + _) = _
    omega
  have c1 : cutD (tl (img f)) (some ((posI f i : Nat) : Int)) none = prt (p, t) ++ R := by
    rw [cutD_from _ _ (by omega), e0, ← hp0, List.drop_left' rfl]
  have sp1 : tl (Str.ofString " ") = [32] := by decide
  have pt : Txt.partition (ofL (prt (p, t) ++ R)) (" " : Str) = (p, (" " : Str), ofL (TL.numL t.length ++ (10 :: (tl t ++ (10 :: R))))) := by
    have e : ofL (prt (p, t) ++ R) = p ++ (" " : Str) ++ ofL (TL.numL t.length ++ (10 :: (tl t ++ (10 :: R)))) := tl_inj (by simp [prt, sp1])
    rw [e]
    exact TL.partition_app sp1 (h.sp _ hm)
  have pl : (ofL (prt (p, t) ++ R)).length ≤ LIM := by
    rw [len_tl, tl_ofL]
    have := congrArg List.length e0
    rw [List.length_append] at this
    show _ ≤ 16777216
    omega
  have hpl : p.length ≤ LIM := by show _ ≤ 16777216; omega
  have htl' : t.length ≤ LIM := by show _ ≤ 16777216; omega
  have sp0 : (Str.length " " == 0) = false := by decide
  have pne : (p == ("" : Str)) = false := by
    rw [beq_eq_false_iff_ne]
    intro e
    exact h.ne _ hm (by rw [show (p, t).1 = p from rfl, e]; decide)
  have hbef : tl (befI f i) < tl p := by
    cases i with
    | zero =>
      show tl (Str.ofString "") < tl p
      have : tl (Str.ofString "") = [] := by decide
      rw [this]
      have hne := h.ne _ hm
      cases hh : tl p with
      | nil => exact absurd hh hne
      | cons c r => exact List.nil_lt_cons c r
    | succ i =>
      have hi' : i < f.length := by omega
      have eb : befI f (i + 1) = (f[i]).1 := by
        show (f[i]?.getD _).1 = _
        rw [List.getElem?_eq_getElem hi']
        rfl
      rw [eb]
      have := List.pairwise_iff_getElem.mp h.inc i (i + 1) (by simpa using hi') (by simpa using hi) (by omega)
      simp only [List.getElem_map] at this
      have e2 : f[i + 1] = (p, t) := by
        rw [List.getElem?_eq_getElem hi] at hq
        exact Option.some.inj hq
      rw [e2] at this
      exact this
  have nnl : ¬ 10 ∈ tl p := h.nl _ hm
  have na := s_number_at (img f) (M ++ [.dK (eF (f.take i))]) t.length pre1 (tl t ++ (10 :: R)) hx e1 hnum
  have ea : ((posI f i : Nat) : Int) + (p.length : Int) + 1 = (pre1.length : Int) := by omega
  have c2 : cutD (tl (img f)) (some ((b : Nat) : Int)) (some (((b + t.length : Nat) : Int))) = tl t := by
    rw [cutD_nat _ _ _ (by omega) (by omega), show b + t.length - b = t.length by omega]
    rw [show tl (img f) = (pre1 ++ (TL.numL t.length ++ [10])) ++ (tl t ++ (10 :: R)) by rw [e1]; simp]
    rw [List.drop_left' (by simp; omega), List.take_left' (len_tl t).symm]
  have c3 : cutD (tl (img f)) (some ((b + t.length : Nat) : Int)) (some ((b + t.length + 1 : Nat) : Int)) = [10] := by
    rw [cutD_nat _ _ _ (by omega) (by omega), show b + t.length + 1 - (b + t.length) = 1 by omega]
    rw [show tl (img f) = (pre1 ++ (TL.numL t.length ++ ([10] ++ tl t))) ++ (10 :: R) by rw [e1]; simp]
    rw [List.drop_left' (by simp [← len_tl]; omega)]
    rfl
  have hnew : (Sum.inr p : Key) ∉ (eF (f.take i)).map (·.1) := by
    intro z
    unfold eF at z
    rw [List.map_map] at z
    obtain ⟨q, hq2, e⟩ := List.mem_map.mp z
    have e : q.1 = p := Sum.inr.inj e
    have nd2 : (kF (f.take i ++ (p, t) :: f.drop (i + 1))).Nodup := by rw [← hsplit]; exact nd
    unfold kF at nd2
    rw [List.map_append, List.map_cons] at nd2
    exact (List.nodup_append.mp nd2).2.2 q.1 (List.mem_map.mpr ⟨q, hq2, rfl⟩) p List.mem_cons_self e
  have dp : dput (eF (f.take i)) (.inr p) (.str t) = eF (f.take (i + 1)) := by
    rw [dput_new hnew, take_snoc hq]
    unfold eF
    rw [List.map_append]
    rfl
  have few : (eF (f.take i)).length < LIM := by
    have := h.few
    rw [len_eF, List.length_take]
    show _ < 16777216
    omega
  have gp : gF (f.take (i + 1)) p = some t := by
    have nd3 : (kF (f.take (i + 1))).Nodup := by
      unfold kF at nd ⊢
      rw [List.map_take]
      exact nd.sublist (List.take_sublist _ _)
    exact gF_of nd3 (q := (p, t)) (by rw [take_snoc hq]; simp)
  have nl1 : ofL [10] = ("\n" : Str) := by decide
  have nl2 : (("\n" : Str) == ("\n" : Str)) = true := by decide
  have lt0 : decide ((t.length : Int) < (t.length : Int)) = false := decide_eq_false (by omega)
  refine ⟨some w, some (.fz (.str p)), some (.fz (.int t.length)), some (.fz (.int ((b : Nat) : Int))), ?_⟩
  rw [ev_bnd (show gNm 5 w _ = some (.ok (), _) from rfl)]
  have k1 : asgS (op2 atO (sm1 partO (slO (nm 0) (poS (nm 2)) poN) (ck (.str " "))) (ck (.int 0))) (gNm 6) (setR (st i o5 o6 o7 o8) 5 w) = some (.ok .nx, st i (some w) (some (.fz (.str p))) o7 o8) := by
    simp only [asgS, bnd, op2, opN, aC, nm, gNm, setR, ofO, ret, ck, parS, parG, callF, tst, asB, tru, truB, andT, orT, notT, iffE, ifS, seqS, retS, retN, drpS, nxS, augS, aN, mulO, modO, fdvO, poN, poS, slO, gTp, gCn, gNl, asT, negM, frz, newO, data, sm0, sm1, isStr, bm, isLs, st, stI, List.set_cons_zero, List.set_cons_succ, List.getElem?_cons_zero, List.getElem?_cons_succ, cutO_s, hx, if_true, c1, partO, sp0, pl, and_self, pt, atO_t0]
  have k2 : ifS (orT (tst (op2 eqO (nm 6) (ck (.str "")))) (orT (tst (op2 leO (nm 6) (nm 4))) (tst (op2 inO (ck (.str "\n")) (nm 6))))) nvS nxS (st i (some w) (some (.fz (.str p))) o7 o8) = some (.ok .nx, st i (some w) (some (.fz (.str p))) o7 o8) := by
    simp only [asgS, bnd, op2, opN, aC, nm, gNm, setR, ofO, ret, ck, parS, parG, callF, tst, asB, tru, truB, andT, orT, notT, iffE, ifS, seqS, retS, retN, drpS, nxS, augS, aN, mulO, modO, fdvO, poN, poS, slO, gTp, gCn, gNl, asT, negM, frz, newO, data, sm0, sm1, isStr, bm, isLs, st, stI, List.getElem?_cons_zero, List.getElem?_cons_succ, eqO_ss, pne, leO_ss, hbef, decide_true, Bool.not_true, inO_nl, nnl, decide_false, Bool.false_eq_true, if_false]
  have k3 : asgS (callF 2 fs_number_at (aC (nm 0) (aC (op2 addO (op2 addO (nm 2) (opN lenO (aC (nm 6) aN))) (ck (.int 1))) aN))) (gTp 2 (gCn (gNm 7) (gCn (gNm 8) gNl))) (st i (some w) (some (.fz (.str p))) o7 o8) = some (.ok .nx, st i (some w) (some (.fz (.str p))) (some (.fz (.int t.length))) (some (.fz (.int ((b : Nat) : Int))))) := by
    simp only [asgS, bnd, op2, opN, aC, nm, gNm, setR, ofO, ret, ck, parS, parG, callF, tst, asB, tru, truB, andT, orT, notT, iffE, ifS, seqS, retS, retN, drpS, nxS, augS, aN, mulO, modO, fdvO, poN, poS, slO, gTp, gCn, gNl, asT, negM, frz, newO, data, sm0, sm1, isStr, bm, isLs, st, stI, List.getElem?_cons_zero, List.getElem?_cons_succ, lenO_str, hpl, if_true, addO_ii, ea, List.length_cons, List.length_nil, na, List.map_cons, List.map_nil, List.set_cons_zero, List.set_cons_succ, hb]
  have k4 : putS (slO (nm 0) (poS (nm 8)) (poS (op2 addO (nm 8) (nm 7)))) (nm 3) (nm 6) (st i (some w) (some (.fz (.str p))) (some (.fz (.int t.length))) (some (.fz (.int ((b : Nat) : Int))))) = some (.ok .nx, ⟨(st i (some w) (some (.fz (.str p))) (some (.fz (.int t.length))) (some (.fz (.int ((b : Nat) : Int))))).r, M ++ [.dK (eF (f.take (i + 1)))]⟩) := by
    have eb : ((b : Nat) : Int) + (t.length : Int) = ((b + t.length : Nat) : Int) := by omega
    simp only [asgS, bnd, op2, opN, aC, nm, gNm, setR, ofO, ret, ck, parS, parG, callF, tst, asB, tru, truB, andT, orT, notT, iffE, ifS, seqS, retS, retN, drpS, nxS, augS, aN, mulO, modO, fdvO, poN, poS, slO, gTp, gCn, gNl, asT, negM, frz, newO, data, sm0, sm1, isStr, bm, isLs, putS, gSb, stO, st, stI, List.getElem?_cons_zero, List.getElem?_cons_succ, addO_ii, eb, cutO_s, hx, if_true, c2, ofL_tl, get_last, keyW, keyD, few, dp, set_last]
  have k5 : parS 2 4 (aC (op2 addO (op2 addO (nm 8) (nm 7)) (ck (.int 1))) (aC (nm 6) aN)) ⟨(st i (some w) (some (.fz (.str p))) (some (.fz (.int t.length))) (some (.fz (.int ((b : Nat) : Int))))).r, M ++ [.dK (eF (f.take (i + 1)))]⟩ = some (.ok .nx, st (i + 1) (some w) (some (.fz (.str p))) (some (.fz (.int t.length))) (some (.fz (.int ((b : Nat) : Int))))) := by
    have eb : ((b : Nat) : Int) + (t.length : Int) + 1 = ((posI f (i + 1) : Nat) : Int) := by rw [hpos']; omega
    have ebf : befI f (i + 1) = p := by
      show (f[i]?.getD _).1 = p
      rw [hq]
      rfl
    simp only [asgS, bnd, op2, opN, aC, nm, gNm, setR, ofO, ret, ck, parS, parG, callF, tst, asB, tru, truB, andT, orT, notT, iffE, ifS, seqS, retS, retN, drpS, nxS, augS, aN, mulO, modO, fdvO, poN, poS, slO, gTp, gCn, gNl, asT, negM, frz, newO, data, sm0, sm1, isStr, bm, isLs, st, stI, List.getElem?_cons_zero, List.getElem?_cons_succ, addO_ii, eb, List.set_cons_zero, List.set_cons_succ, ebf]
  have k6 : ifS (orT (tst (op2 ltO (opN lenO (aC (op2 atO (nm 3) (nm 6)) aN)) (nm 7))) (tst (op2 neO (slO (nm 0) (poS (op2 subO (nm 2) (ck (.int 1)))) (poS (nm 2))) (ck (.str "\n"))))) nvS nxS (st (i + 1) (some w) (some (.fz (.str p))) (some (.fz (.int t.length))) (some (.fz (.int ((b : Nat) : Int))))) = some (.ok .nx, st (i + 1) (some w) (some (.fz (.str p))) (some (.fz (.int t.length))) (some (.fz (.int ((b : Nat) : Int))))) := by
    have a1 := atO_D (isD_ob (M := M ++ [.dK (eF (f.take (i + 1)))]) (n := M.length) (f := f.take (i + 1)) get_last) [] p
    rw [List.append_nil, gp] at a1
    have es : ((b + t.length + 1 : Nat) : Int) - 1 = ((b + t.length : Nat) : Int) := by omega
    have es2 : ((posI f (i + 1) : Nat) : Int) = ((b + t.length + 1 : Nat) : Int) := by rw [hpos']
    simp only [asgS, bnd, op2, opN, aC, nm, gNm, setR, ofO, ret, ck, parS, parG, callF, tst, asB, tru, truB, andT, orT, notT, iffE, ifS, seqS, retS, retN, drpS, nxS, augS, aN, mulO, modO, fdvO, poN, poS, slO, gTp, gCn, gNl, asT, negM, frz, newO, data, sm0, sm1, isStr, bm, isLs, st, stI, List.getElem?_cons_zero, List.getElem?_cons_succ, a1, Option.map_some, lenO_str, htl', if_true, ltO_ii, lt0, subO_ii, es, es2, cutO_s, hx, c3, nl1, neO_ss, nl2, Bool.not_true, Bool.false_eq_true, if_false]
  unfold bdRead
  rw [ev_seq k1, ev_seq k2, ev_seq k3, ev_seq k4, ev_seq k5]
  exact k6
theorem bdI_nat {n : Nat} (h : n ≤ 1000000) : bdI (n : Int) = true := by
  unfold bdI
  rw [Bool.and_eq_true]
  exact ⟨decide_eq_true (by omega), decide_eq_true (by omega)⟩
theorem ev_rng1 {f : Mo (List W)} {s s1 : S} {n : Nat} (h : f s = some (.ok [.fz (.int (n : Int))], s1)) (hn : n ≤ 1000000) : rng1 f s = some (.ok (Wk.of (rngV 0 (n : Int))), s1) := by
  unfold rng1
  rw [ev_bnd h]
  simp only [bdI_nat hn, if_true]
  rfl
theorem s_read_image (f : FS) (M : List MO) (h : FOK f) : fs_read_image [.fz (.str (img f))] M = some (.ok (.fz (.dK (eF f))), M) := by
  rw [show fs_read_image = fnD 9 fb_read_image from rfl]
  have nd := nodup_inc h.inc
  have hx : (img f).length ≤ LIM := Nat.le_trans h.small (by decide)
  have htl := tl_img h
  have hlen : (tl (img f)).length = (img f).length := (len_tl _).symm
  have hhd : tl (headI f) = tl ("image " : Str) ++ (TL.numL f.length ++ 10 :: []) := by
    unfold headI
    have a2 : tl (Str.ofString "\n") = [10] := by decide
    simp [tl_strI, a2]
  let st := stI f M
  obtain ⟨s2, h2, h3⟩ := forL_ind (g := gNm 5) (b := bdRead) (ok := fun _ => true)
    (fun i s => i ≤ f.length ∧ ∃ o5 o6 o7 o8, s = stI f M i o5 o6 o7 o8) (rngV 0 (f.length : Int)) 0 (stI f M 0 none none none none)
    (fun i w s hw ⟨_, o5, o6, o7, o8, hs⟩ => by
      subst hs
      have hi : i < f.length := by
        have := (List.getElem?_eq_some_iff.mp hw).1
        simpa [rngV] using this
      simp only [Nat.zero_add]
      obtain ⟨a5, a6, a7, a8, e⟩ := read_step f M h i w o5 o6 o7 o8 hi
      exact ⟨trivial, _, .inl e, hi, a5, a6, a7, a8, rfl⟩)
    (fun _ _ => rfl) ⟨by omega, none, none, none, none, rfl⟩
  obtain ⟨_, o5, o6, o7, o8, e⟩ := h3
  rw [show 0 + (rngV 0 (f.length : Int)).length = f.length by simp [rngV]] at e
  refine fin_okL (s := ⟨[some (.fz (.str (img f))), some (.fz (.int (f.length : Int))), some (.fz (.int (posI f f.length : Int))), some (.fz (.dK (eF f))), some (.fz (.str (befI f f.length))), o5, o6, o7, o8], M ++ [.dead]⟩) (L := [.dead]) ?_ rfl
  unfold fb_read_image
  unfold bdRead at h2
  have im : tl ("image " : Str) = [105, 109, 97, 103, 101, 32] := by decide
  have h0 : tl (img f) = [105, 109, 97, 103, 101, 32] ++ (TL.numL f.length ++ 10 :: (f.map prt).flatten) := by
    rw [htl, hhd, im]
    simp
  have sw : Txt.startswith (img f) ("image " : Str) = true := by
    unfold Txt.startswith
    have l6 : Str.length "image " = 6 := by decide
    have hl : 6 ≤ (img f).length := by rw [← hlen, h0]; simp
    rw [l6, Bool.and_eq_true]
    refine ⟨decide_eq_true (by omega), ?_⟩
    unfold PySem.Builtin.Str.subAt
    rw [beq_iff_eq]
    apply Array.ext'
    rw [Array.toList_extract]
    show ((tl (img f)).extract 0 (0 + Str.length "image ")) = tl ("image " : Str)
    rw [h0, l6, im]
    rfl
  have few0 := h.few
  have na := s_number_at (img f) M f.length [105, 109, 97, 103, 101, 32] (f.map prt).flatten hx h0 (numL_small (by omega))
  have k1 : ifS (notT (tru (sm1 startsO (nm 0) (ck (.str "image "))))) nvS nxS ⟨start0 9 [.fz (.str (img f))], M⟩ = some (.ok .nx, ⟨[some (.fz (.str (img f))), none, none, none, none, none, none, none, none], M⟩) := by
    simp [asgS, bnd, op2, opN, aC, nm, gNm, setR, ofO, ret, ck, parS, parG, callF, tst, asB, tru, truB, andT, orT, notT, iffE, ifS, seqS, retS, retN, drpS, nxS, augS, aN, mulO, modO, fdvO, poN, poS, slO, gTp, gCn, gNl, asT, negM, frz, newO, data, sm0, sm1, isStr, bm, isLs, start0, startsO, sw]
  have p0 : posI f 0 = 6 + (TL.numL f.length).length + 1 := by
    unfold posI
    rw [len_tl, hhd, im]
    simp
    omega
  have k2 : asgS (callF 2 fs_number_at (aC (nm 0) (aC (ck (.int 6)) aN))) (gTp 2 (gCn (gNm 1) (gCn (gNm 2) gNl))) ⟨[some (.fz (.str (img f))), none, none, none, none, none, none, none, none], M⟩ = some (.ok .nx, ⟨[some (.fz (.str (img f))), some (.fz (.int (f.length : Int))), some (.fz (.int (posI f 0 : Int))), none, none, none, none, none, none], M⟩) := by
    have na' : fs_number_at [.fz (.str (img f)), .fz (.int 6)] M = some (.ok (.fz (.tup [.int f.length, .int (posI f 0 : Int)])), M) := by rw [p0]; exact na
    simp only [asgS, bnd, op2, opN, aC, nm, gNm, setR, ofO, ret, ck, parS, parG, callF, tst, asB, tru, truB, andT, orT, notT, iffE, ifS, seqS, retS, retN, drpS, nxS, augS, aN, mulO, modO, fdvO, poN, poS, slO, gTp, gCn, gNl, asT, negM, frz, newO, data, sm0, sm1, isStr, bm, isLs, List.getElem?_cons_zero, List.getElem?_cons_succ, List.length_cons, List.length_nil, na', List.map_cons, List.map_nil, List.set_cons_zero, List.set_cons_succ, if_true]
  have k3 : parS 3 4 (aC (newO dict0) (aC (ck (.str "")) aN)) ⟨[some (.fz (.str (img f))), some (.fz (.int (f.length : Int))), some (.fz (.int (posI f 0 : Int))), none, none, none, none, none, none], M⟩ = some (.ok .nx, st 0 none none none none) := by
    simp [asgS, bnd, op2, opN, aC, nm, gNm, setR, ofO, ret, ck, parS, parG, callF, tst, asB, tru, truB, andT, orT, notT, iffE, ifS, seqS, retS, retN, drpS, nxS, augS, aN, mulO, modO, fdvO, poN, poS, slO, gTp, gCn, gNl, asT, negM, frz, newO, data, sm0, sm1, isStr, bm, isLs, dict0, st, stI, eF, befI]
  have k4 : rng1 (aC (nm 1) aN) (st 0 none none none none) = some (.ok (Wk.of (rngV 0 (f.length : Int))), st 0 none none none none) :=
    ev_rng1 (by simp only [asgS, bnd, op2, opN, aC, nm, gNm, setR, ofO, ret, ck, parS, parG, callF, tst, asB, tru, truB, andT, orT, notT, iffE, ifS, seqS, retS, retN, drpS, nxS, augS, aN, mulO, modO, fdvO, poN, poS, slO, gTp, gCn, gNl, asT, negM, frz, newO, data, sm0, sm1, isStr, bm, isLs, st, stI, List.getElem?_cons_zero, List.getElem?_cons_succ]) (by omega)
  have pe : posI f f.length = (img f).length := by
    unfold posI
    rw [List.take_length, ← hlen, htl, List.length_append, ← len_tl]
  have wi := s_write_image (w := .ob M.length) f (M ++ [.dK (eF f)]) (isD_ob get_last) (by unfold kF; rw [List.length_map]; exact h.few) hx
  have t1 : (((img f).length : Int) == ((img f).length : Int)) = true := by simp
  have t2 : (img f == img f) = true := by simp
  rw [ev_seq k1, ev_seq k2, ev_seq k3, ev_seq ((ev_for k4).trans h2), e]
  have k5 : ifS (orT (tst (op2 neO (nm 2) (opN lenO (aC (nm 0) aN)))) (tst (op2 neO (callF 1 fs_write_image (aC (nm 3) aN)) (nm 0)))) nvS nxS (st f.length o5 o6 o7 o8) = some (.ok .nx, st f.length o5 o6 o7 o8) := by
    simp only [asgS, bnd, op2, opN, aC, nm, gNm, setR, ofO, ret, ck, parS, parG, callF, tst, asB, tru, truB, andT, orT, notT, iffE, ifS, seqS, retS, retN, drpS, nxS, augS, aN, mulO, modO, fdvO, poN, poS, slO, gTp, gCn, gNl, asT, negM, frz, newO, data, sm0, sm1, isStr, bm, isLs, st, stI, List.take_length, List.getElem?_cons_zero, List.getElem?_cons_succ, lenO_str, hx, if_true, pe, neO_ii, t1, List.length_cons, List.length_nil, wi, neO_ss, t2, Bool.not_true, Bool.false_eq_true, if_false]
  rw [ev_seq k5]
  simp [asgS, bnd, op2, opN, aC, nm, gNm, setR, ofO, ret, ck, parS, parG, callF, tst, asB, tru, truB, andT, orT, notT, iffE, ifS, seqS, retS, retN, drpS, nxS, augS, aN, mulO, modO, fdvO, poN, poS, slO, gTp, gCn, gNl, asT, negM, frz, newO, data, sm0, sm1, isStr, bm, isLs, nz, st, stI]
end PD

noncomputable section
namespace PD
open PySem L2 PyProof.Rows
/-! ### a comprehension that leaves the memory as it is -/
theorem cmpL_lc {g : W → Mo Unit} {t : Mo Bool} {e : Mo W} {r0 : List (Option W)} {M : List MO} {tt : W → Bool} {ff : W → W} : ∀ (ws : List W) (acc : List W), (∀ w ∈ ws, ∃ s1 s2, g w ⟨r0, M⟩ = some (.ok (), s1) ∧ t s1 = some (.ok (tt w), s2) ∧ s2.m = M ∧ (tt w = true → ∃ s3, e s2 = some (.ok (ff w), s3) ∧ s3.m = M)) → acc.length + ws.length ≤ LIM →
    cmpL g t (lcE e) r0 (fun _ => true) ws acc ⟨r0, M⟩ = some (.ok (acc ++ (ws.filter tt).map ff), ⟨r0, M⟩)
  | [], acc, _, _ => by simp [cmpL]
  | w :: ws, acc, h, hl => by
    obtain ⟨s1, s2, h1, h2, h3, h4⟩ := h w List.mem_cons_self
    have hl' : acc.length + (ws.length + 1) ≤ LIM := by simpa using hl
    unfold cmpL
    simp only [if_true]
    rw [ev_bnd h1, ev_bnd h2]
    cases hk : tt w with
    | false =>
      simp only [Bool.false_eq_true, if_false]
      obtain ⟨r2, m2⟩ := s2
      have h3 : m2 = M := h3
      subst h3
      rw [cmpL_lc ws acc (fun w hw => h w (List.mem_cons_of_mem _ hw)) (by omega)]
      simp [List.filter_cons, hk]
    | true =>
      simp only [if_true]
      obtain ⟨s3, h5, h6⟩ := h4 hk
      have hlt : acc.length < LIM := by omega
      have hs : lcE e acc s2 = some (.ok (acc ++ [ff w]), s3) := by
        unfold lcE
        rw [ev_bnd h5]
        simp [hlt]
      rw [ev_bnd hs]
      obtain ⟨r3, m3⟩ := s3
      have h6 : m3 = M := h6
      subst h6
      rw [cmpL_lc ws (acc ++ [ff w]) (fun w hw => h w (List.mem_cons_of_mem _ hw)) (by simp; omega)]
      simp [List.filter_cons, hk]
theorem lcM_eval {f : Mo Wk} {vs : List Nat} {g : W → Mo Unit} {t : Mo Bool} {e : Mo W} {s : S} {ws : List W} {tt : W → Bool} {ff : W → W} (hf : f s = some (.ok (Wk.of ws), s)) (hl : ws.length ≤ LIM)
    (hb : ∀ w ∈ ws, ∃ s1 s2, g w ⟨wipeR s.r vs, s.m⟩ = some (.ok (), s1) ∧ t s1 = some (.ok (tt w), s2) ∧ s2.m = s.m ∧ (tt w = true → ∃ s3, e s2 = some (.ok (ff w), s3) ∧ s3.m = s.m)) :
    lcM f vs g t e s = some (.ok (mkL ((ws.filter tt).map ff)), s) := by
  unfold lcM cmpM
  rw [ev_bnd hf]
  have h := cmpL_lc (r0 := wipeR s.r vs) (M := s.m) ws [] hb (by simpa using hl)
  have e1 : (Wk.of ws).ok = fun _ => true := rfl
  have e2 : (Wk.of ws).ws = ws := rfl
  simp only [e1, e2, h, List.nil_append]
theorem mkL_fz (ds : List D) : mkL (ds.map .fz) = .lst ds := by
  have : unW (ds.map W.fz) = some ds := by
    induction ds with
    | nil => rfl
    | cons d ds ih =>
      show (unW (ds.map W.fz)).map (d :: ·) = _
      rw [ih]
      rfl
  unfold mkL
  rw [this]
end PD

noncomputable section
namespace PD
open PySem L2 PyProof.Rows
/-! ### numbers of generations -/
def isd (c : Nat) : Bool := decide (48 ≤ c ∧ c ≤ 57)
/-- a word's number, or -1 -/
def genW (w : Str) : Int := if tl w = [] ∨ 9 < w.length ∨ (tl w).all isd = false then -1 else if tl w = [48] ∨ (tl w).head? ≠ some 48 then ((NumText.digitsVal (tl w) : Nat) : Int) else -1
theorem dBls_bl : ∀ l : List Bool, dBls (l.map .bl) = some l
  | [] => rfl
  | x :: l => by
    show (dBls (l.map .bl)).map (x :: ·) = _
    rw [dBls_bl l]
    rfl
theorem isd_mem {c : Nat} : decide (c ∈ tl ("0123456789" : Str)) = isd c := by
  unfold isd
  exact decide_eq_decide.mpr digits_mem
theorem allO_lst {M : List MO} (l : List Bool) : allO M [.fz (.lst (l.map .bl))] = some (.fz (.bl (l.all id))) := by
  show (dBls (l.map D.bl)).map _ = _
  rw [dBls_bl]
  rfl
theorem digits_comp {w : Str} {M : List MO} (hw : w.length ≤ LIM) (r1 : Option W) : (frz (lcM (walk (nm 0)) [1] (gNm 1) (ret true) (op2 inO (nm 1) (ck (.str "0123456789"))))) ⟨[some (.fz (.str w)), r1], M⟩ = some (.ok (.fz (.lst (((tl w).map isd).map .bl))), ⟨[some (.fz (.str w)), r1], M⟩) := by
  have h := lcM_eval (f := walk (nm 0)) (vs := [1]) (g := gNm 1) (t := ret true) (e := op2 inO (nm 1) (ck (.str "0123456789"))) (s := ⟨[some (.fz (.str w)), r1], M⟩) (ws := (tl w).map fun c => .fz (.str ⟨#[c]⟩)) (tt := fun _ => true) (ff := fun x => match x with | .fz (.str z) => .fz (.bl (isd (z.cps.getD 0 0))) | x => x)
    (ev_walk_str (ev_nm rfl)) (by rw [List.length_map, ← len_tl]; exact hw) (fun x hx => by
      obtain ⟨c, hc, rfl⟩ := List.mem_map.mp hx
      refine ⟨_, _, rfl, rfl, rfl, fun _ => ⟨⟨[some (.fz (.str w)), some (.fz (.str ⟨#[c]⟩))], M⟩, ?_, rfl⟩⟩
      simp [asgS, bnd, op2, opN, aC, nm, gNm, setR, ofO, ret, ck, parS, parG, callF, tst, asB, tru, truB, andT, orT, notT, iffE, ifS, seqS, retS, retN, drpS, nxS, augS, aN, mulO, modO, fdvO, poN, poS, slO, gTp, gCn, gNl, asT, negM, frz, newO, data, sm0, sm1, isStr, bm, isLs, wipeR, isd_mem])
  unfold frz
  rw [ev_bnd h]
  have e : (((tl w).map fun c => W.fz (.str ⟨#[c]⟩)).filter fun _ => true).map (fun x => match x with | .fz (.str z) => W.fz (.bl (isd (z.cps.getD 0 0))) | x => x) = (((tl w).map isd).map D.bl).map W.fz := by
    rw [List.filter_eq_self.mpr (fun _ _ => rfl)]
    simp [Function.comp_def]
  rw [e, mkL_fz]
  rfl
end PD

noncomputable section
namespace PD
open PySem L2 PyProof.Rows
theorem beq_tl (x y : Str) : (x == y) = decide (tl x = tl y) := by
  by_cases h : x = y
  · subst h; simp
  · have h2 : ¬ tl x = tl y := fun e => h (tl_inj e)
    rw [decide_eq_false h2]
    exact beq_eq_false_iff_ne.mpr h
theorem intO_dig {M : List MO} {x : Str} (h : (tl x).all isd = true) (h1 : tl x ≠ []) (hl : x.length ≤ 9) : intO M [.fz (.str x)] = some (.fz (.int ((NumText.digitsVal (tl x) : Nat) : Int))) := by
  have e : PySem.intText? x = some ((NumText.digitsVal (tl x) : Nat) : Int) := PySem.intText_digits (fun c hc => by
    have := List.all_eq_true.mp h c hc
    exact of_decide_eq_true this) h1 (by omega)
  have hx : x.length ≤ 640 := by omega
  unfold intO
  simp [hx, e]
theorem s_number_in (w : Str) (M : List MO) (hw : w.length ≤ LIM) : fs_number_in [.fz (.str w)] M = some (.ok (.fz (.int (genW w))), M) := by
  rw [show fs_number_in = fnD 2 fb_number_in from rfl]
  refine fin_ok (s := ⟨[some (.fz (.str w)), none], M⟩) ?_ rfl
  unfold fb_number_in
  have e0 : tl ("" : Str) = [] := by decide
  have e1 : tl ("0" : Str) = [48] := by decide
  have b1 : (w == ("" : Str)) = decide (tl w = []) := by rw [beq_tl, e0]
  have b2 : (w == ("0" : Str)) = decide (tl w = [48]) := by rw [beq_tl, e1]
  have dc := digits_comp (w := w) (M := M) hw none
  have all1 : ((((tl w).map isd)).all id) = (tl w).all isd := by rw [List.all_map]; rfl
  have st0 : start0 2 [W.fz (.str w)] = [some (.fz (.str w)), none] := rfl
  rw [st0]
  generalize (frz (lcM (walk (nm 0)) [1] (gNm 1) (ret true) (op2 inO (nm 1) (ck (.str "0123456789"))))) = q at dc ⊢
  unfold genW
  by_cases h1 : tl w = []
  · simp [asgS, bnd, op2, opN, aC, nm, gNm, setR, ofO, ret, ck, parS, parG, callF, tst, asB, tru, truB, andT, orT, notT, iffE, ifS, seqS, retS, retN, drpS, nxS, augS, aN, mulO, modO, fdvO, poN, poS, slO, gTp, gCn, gNl, asT, negM, frz, newO, data, sm0, sm1, isStr, bm, isLs, b1, h1, List.getElem?_cons_zero]
  · by_cases h2 : 9 < w.length
    · have h2' : decide ((9 : Int) < (w.length : Int)) = true := decide_eq_true (by omega)
      have h2i : (9 : Int) < (w.length : Int) := by omega
      simp [asgS, bnd, op2, opN, aC, nm, gNm, setR, ofO, ret, ck, parS, parG, callF, tst, asB, tru, truB, andT, orT, notT, iffE, ifS, seqS, retS, retN, drpS, nxS, augS, aN, mulO, modO, fdvO, poN, poS, slO, gTp, gCn, gNl, asT, negM, frz, newO, data, sm0, sm1, isStr, bm, isLs, b1, h1, hw, h2, h2i]
    · have h2i : ¬ (9 : Int) < (w.length : Int) := by omega
      have al := allO_lst (M := M) ((tl w).map isd)
      rw [all1] at al
      cases h3 : (tl w).all isd with
      | false =>
        rw [h3] at al
        simp [-List.map_map, asgS, bnd, op2, opN, aC, nm, gNm, setR, ofO, ret, ck, parS, parG, callF, tst, asB, tru, truB, andT, orT, notT, iffE, ifS, seqS, retS, retN, drpS, nxS, augS, aN, mulO, modO, fdvO, poN, poS, slO, gTp, gCn, gNl, asT, negM, newO, data, sm0, sm1, isStr, bm, isLs, b1, h1, hw, h2, h2i, dc, al]
      | true =>
        rw [h3] at al
        have io := intO_dig (M := M) h3 h1 (by omega)
        cases hh : tl w with
        | nil => exact absurd hh h1
        | cons c r =>
          have a0 := atO_sn (M := M) (x := w) (i := 0) (c := c) hw (by rw [hh]; rfl)
          have a0 : atO M (.fz (.str w)) (.fz (.int 0)) = some (.fz (.str ⟨#[c]⟩)) := a0
          have b3 : ((⟨#[c]⟩ : Str) == ("0" : Str)) = decide (c = 48) := by
            rw [beq_tl, e1]
            have : tl (⟨#[c]⟩ : Str) = [c] := rfl
            rw [this]
            simp
          rw [hh] at b1 b2 io
          by_cases h4 : c :: r = [48]
          · simp [-List.map_map, asgS, bnd, op2, opN, aC, nm, gNm, setR, ofO, ret, ck, parS, parG, callF, tst, asB, tru, truB, andT, orT, notT, iffE, ifS, seqS, retS, retN, drpS, nxS, augS, aN, mulO, modO, fdvO, poN, poS, slO, gTp, gCn, gNl, asT, negM, newO, data, sm0, sm1, isStr, bm, isLs, b1, b2, hw, h2, h2i, dc, al, io, h4]
          · by_cases h5 : c = 48
            · have z0 : (⟨#[48]⟩ : Str) = ("0" : Str) := by decide
              have hr : r ≠ [] := fun e => h4 (by rw [h5, e])
              simp [-List.map_map, asgS, bnd, op2, opN, aC, nm, gNm, setR, ofO, ret, ck, parS, parG, callF, tst, asB, tru, truB, andT, orT, notT, iffE, ifS, seqS, retS, retN, drpS, nxS, augS, aN, mulO, modO, fdvO, poN, poS, slO, gTp, gCn, gNl, asT, negM, newO, data, sm0, sm1, isStr, bm, isLs, b1, b2, hw, h2, h2i, dc, al, io, h4, h5, a0, b3, hr, z0]
            · simp [-List.map_map, asgS, bnd, op2, opN, aC, nm, gNm, setR, ofO, ret, ck, parS, parG, callF, tst, asB, tru, truB, andT, orT, notT, iffE, ifS, seqS, retS, retN, drpS, nxS, augS, aN, mulO, modO, fdvO, poN, poS, slO, gTp, gCn, gNl, asT, negM, newO, data, sm0, sm1, isStr, bm, isLs, b1, b2, hw, h2, h2i, dc, al, io, h4, h5, a0, b3]
end PD

noncomputable section
namespace PD
open PySem L2 PyProof.Rows
/-- a path's first part: its number, or -1 -/
def genH (h : Str) : Int := if (tl h).take 1 = [103] then genW (ofL ((tl h).drop 1)) else -1
@[simp] theorem ninO_sign {M : List MO} {c : Nat} {y : Str} : ninO M (.fz (.str ⟨#[c]⟩)) (.fz (.str y)) = some (.fz (.bl (!decide (c ∈ tl y)))) := by
  unfold ninO inD
  simp [keyW, keyD, asD, tl]
theorem anyO_lst {M : List MO} (l : List Bool) : anyO M [.fz (.lst (l.map .bl))] = some (.fz (.bl (l.any id))) := by
  show (dBls (l.map D.bl)).map _ = _
  rw [dBls_bl]
  rfl
theorem cutD_to {α : Type} (l : List α) (b : Nat) : cutD l none (some (b : Int)) = l.take b := by
  unfold cutD
  rw [HT.sIx_nat, HT.sIx_none, Nat.sub_zero, List.drop_zero]
  by_cases h : b ≤ l.length
  · rw [Nat.min_eq_left h]
  · rw [Nat.min_eq_right (by omega), List.take_length, List.take_of_length_le (by omega)]
theorem cutD_from' {α : Type} (l : List α) (a : Nat) : cutD l (some (a : Int)) none = l.drop a := by
  by_cases h : a ≤ l.length
  · exact cutD_from l a h
  · unfold cutD
    rw [HT.sIx_nat, HT.sIx_none, Nat.min_eq_right (by omega), List.drop_length, List.drop_of_length_le (by omega), List.take_nil]
theorem ndigits_comp {h w : Str} {M : List MO} (hw : w.length ≤ LIM) (r2 : Option W) : (frz (lcM (walk (nm 1)) [2] (gNm 2) (ret true) (op2 ninO (nm 2) (ck (.str "0123456789"))))) ⟨[some (.fz (.str h)), some (.fz (.str w)), r2], M⟩ = some (.ok (.fz (.lst (((tl w).map fun c => !isd c).map .bl))), ⟨[some (.fz (.str h)), some (.fz (.str w)), r2], M⟩) := by
  have h := lcM_eval (f := walk (nm 1)) (vs := [2]) (g := gNm 2) (t := ret true) (e := op2 ninO (nm 2) (ck (.str "0123456789"))) (s := ⟨[some (.fz (.str h)), some (.fz (.str w)), r2], M⟩) (ws := (tl w).map fun c => .fz (.str ⟨#[c]⟩)) (tt := fun _ => true) (ff := fun x => match x with | .fz (.str z) => .fz (.bl (!isd (z.cps.getD 0 0))) | x => x)
    (ev_walk_str (ev_nm rfl)) (by rw [List.length_map, ← len_tl]; exact hw) (fun x hx => by
      obtain ⟨c, hc, rfl⟩ := List.mem_map.mp hx
      refine ⟨_, _, rfl, rfl, rfl, fun _ => ⟨⟨[some (.fz (.str h)), some (.fz (.str w)), some (.fz (.str ⟨#[c]⟩))], M⟩, ?_, rfl⟩⟩
      simp [asgS, bnd, op2, opN, aC, nm, gNm, setR, ofO, ret, ck, parS, parG, callF, tst, asB, tru, truB, andT, orT, notT, iffE, ifS, seqS, retS, retN, drpS, nxS, augS, aN, mulO, modO, fdvO, poN, poS, slO, gTp, gCn, gNl, asT, negM, frz, newO, data, sm0, sm1, isStr, bm, isLs, wipeR, isd_mem])
  unfold frz
  rw [ev_bnd h]
  have e : (((tl w).map fun c => W.fz (.str ⟨#[c]⟩)).filter fun _ => true).map (fun x => match x with | .fz (.str z) => W.fz (.bl (!isd (z.cps.getD 0 0))) | x => x) = (((tl w).map fun c => !isd c).map D.bl).map W.fz := by
    rw [List.filter_eq_self.mpr (fun _ _ => rfl)]
    simp [Function.comp_def]
  rw [e, mkL_fz]
  rfl
end PD

noncomputable section
namespace PD
open PySem L2 PyProof.Rows
/-! ### one step of an evaluation -/
section
variable {s s1 : S} {f g h : Mo W} {x y z v : W} {a b : Bool}
theorem e_op2 {o : List MO → W → W → Option W} (hf : f s = some (.ok x, s)) (hg : g s = some (.ok y, s)) (ho : o s.m x y = some z) : op2 o f g s = some (.ok z, s) := by
  unfold op2
  rw [ev_bnd hf, ev_bnd hg, ho]
  rfl
theorem e_a1 (hf : f s = some (.ok x, s)) : aC f aN s = some (.ok [x], s) := by
  unfold aC
  rw [ev_bnd hf]
  rfl
theorem e_a2 (hf : f s = some (.ok x, s)) (hg : g s = some (.ok y, s)) : aC f (aC g aN) s = some (.ok [x, y], s) := by
  unfold aC
  rw [ev_bnd hf, ev_bnd (ev_bnd hg)]
  rfl
theorem e_a3 (hf : f s = some (.ok x, s)) (hg : g s = some (.ok y, s)) (hh : h s = some (.ok z, s)) : aC f (aC g (aC h aN)) s = some (.ok [x, y, z], s) := by
  show bnd f _ s = _
  rw [ev_bnd hf, ev_bnd (e_a2 hg hh)]
  rfl
theorem e_aC {fs : Mo (List W)} {ws : List W} (hf : f s = some (.ok x, s)) (hg : fs s = some (.ok ws, s)) : aC f fs s = some (.ok (x :: ws), s) := by
  unfold aC
  rw [ev_bnd hf, ev_bnd hg]
  rfl
theorem e_opN {o : List MO → List W → Option W} {fs : Mo (List W)} {ws : List W} (hf : fs s = some (.ok ws, s)) (ho : o s.m ws = some z) : opN o fs s = some (.ok z, s) := by
  unfold opN
  rw [ev_bnd hf, ho]
  rfl
theorem e_opO {o : List MO → List W → Option MO} {fs : Mo (List W)} {ws : List W} {m : MO} (hf : fs s = some (.ok ws, s)) (ho : o s.m ws = some m) : opO o fs s = some (.ok m, s) := by
  unfold opO
  rw [ev_bnd hf, ho]
  rfl
theorem e_frz {f : Mo MO} {m : MO} {d : D} (hf : f s = some (.ok m, s)) (ho : data m = some d) : frz f s = some (.ok (.fz d), s) := by
  unfold frz
  rw [ev_bnd hf, ho]
  rfl
theorem e_call {n : Nat} {G : Fn} {fs : Mo (List W)} {ws : List W} (hf : fs s = some (.ok ws, s)) (hn : ws.length = n) (hG : G ws s.m = some (.ok z, s.m)) : callF n G fs s = some (.ok z, s) := by
  unfold callF
  rw [ev_bnd hf]
  simp only [hn, if_true, hG]
theorem e_tst (hf : f s = some (.ok (.fz (.bl a)), s)) : tst f s = some (.ok a, s) := by
  unfold tst
  rw [ev_bnd hf]
  rfl
theorem e_tru (hf : f s = some (.ok (.fz (.bl a)), s)) : tru f s = some (.ok a, s) := by
  unfold tru
  rw [ev_bnd hf]
  rfl
theorem e_not {c : Mo Bool} (hf : c s = some (.ok a, s)) : notT c s = some (.ok (!a), s) := by
  unfold notT
  rw [ev_bnd hf]
  rfl
theorem e_or {c d : Mo Bool} (hf : c s = some (.ok a, s)) (hd : a = false → d s = some (.ok b, s)) : orT c d s = some (.ok (a || b), s) := by
  unfold orT
  rw [ev_bnd hf]
  cases a with
  | true => rfl
  | false => exact hd rfl
theorem e_and {c d : Mo Bool} (hf : c s = some (.ok a, s)) (hd : a = true → d s = some (.ok b, s)) : andT c d s = some (.ok (a && b), s) := by
  unfold andT
  rw [ev_bnd hf]
  cases a with
  | false => rfl
  | true => exact hd rfl
theorem e_if {c : Mo Bool} {p q : Mo Fl} (hf : c s = some (.ok a, s)) : ifS c p q s = if a then p s else q s := by
  unfold ifS
  rw [ev_bnd hf]
  cases a <;> rfl
theorem e_iffE {c : Mo Bool} (hf : c s = some (.ok a, s)) : iffE c f g s = if a then f s else g s := by
  unfold iffE
  rw [ev_bnd hf]
  cases a <;> rfl
theorem e_asg {i : Nat} (hf : f s = some (.ok x, s1)) : asgS f (gNm i) s = some (.ok .nx, setR s1 i x) := by
  unfold asgS
  rw [ev_bnd hf]
  rfl
theorem e_ret (hf : f s = some (.ok x, s1)) : retS f s = some (.ok (.rt x), s1) := by
  unfold retS
  rw [ev_bnd hf]
  rfl
theorem e_drp (hf : f s = some (.ok x, s1)) : drpS f s = some (.ok .nx, s1) := by
  unfold drpS
  rw [ev_bnd hf]
  rfl
theorem e_walk {k : Wk} (hf : f s = some (.ok x, s)) (ho : walkV s.m x = some k) : walk f s = some (.ok k, s) := by
  unfold walk
  rw [ev_bnd hf, ho]
  rfl
theorem e_slTo {i : Int} (hf : f s = some (.ok x, s)) (hg : g s = some (.ok (.fz (.int i)), s)) (ho : cutO s.m x none (some i) = some z) : slO f poN (poS g) s = some (.ok z, s) := by
  unfold slO poN poS
  rw [ev_bnd hf, ev_bnd ev_ret, ev_bnd (show bnd g _ s = some (.ok (some i), s) by rw [ev_bnd hg]; rfl), ho]
  rfl
theorem e_slFrom {i : Int} (hf : f s = some (.ok x, s)) (hg : g s = some (.ok (.fz (.int i)), s)) (ho : cutO s.m x (some i) none = some z) : slO f (poS g) poN s = some (.ok z, s) := by
  unfold slO poN poS
  rw [ev_bnd hf, ev_bnd (show bnd g _ s = some (.ok (some i), s) by rw [ev_bnd hg]; rfl), ev_bnd ev_ret, ho]
  rfl
theorem e_sm1 {o : List MO → W → List W → Option W} {t : Str} (hf : f s = some (.ok (.fz (.str t)), s)) (hg : g s = some (.ok y, s)) (ho : o s.m (.fz (.str t)) [y] = some z) : sm1 o f g s = some (.ok z, s) := by
  unfold sm1
  rw [ev_bnd hf, ev_bnd (show ofO (if isStr (W.fz (D.str t)) = true then some () else none) s = some (.ok (), s) from rfl), ev_bnd hg, ho]
  rfl
theorem e_get2 (hf : f s = some (.ok x, s)) (hc : isDc s.m x = true) (hg : g s = some (.ok y, s)) (hh : h s = some (.ok z, s)) (ho : getO s.m x y z = some v) : get2 f g h s = some (.ok v, s) := by
  unfold get2
  have c : (fun s => ofO (if isDc s.m x = true then some () else none) s) s = some (.ok (), s) := by simp [hc]
  rw [ev_bnd hf, ev_bnd (f := fun s => ofO (if isDc s.m x = true then some () else none) s) c, ev_bnd hg, ev_bnd hh, ho]
  rfl
theorem e_get1 (hf : f s = some (.ok x, s)) (hc : isDc s.m x = true) (hg : g s = some (.ok y, s)) (ho : getO s.m x y (.fz .non) = some v) : get1 f g s = some (.ok v, s) := by
  unfold get1
  have c : (fun s => ofO (if isDc s.m x = true then some () else none) s) s = some (.ok (), s) := by simp [hc]
  rw [ev_bnd hf, ev_bnd (f := fun s => ofO (if isDc s.m x = true then some () else none) s) c, ev_bnd hg, ho]
  rfl
/-! with a state that changes -/
section
variable {s2 s3 : S}
theorem x_a1 (hf : f s = some (.ok x, s1)) : aC f aN s = some (.ok [x], s1) := by
  unfold aC
  rw [ev_bnd hf]
  rfl
theorem x_aC {fs : Mo (List W)} {ws : List W} (hf : f s = some (.ok x, s1)) (hg : fs s1 = some (.ok ws, s2)) : aC f fs s = some (.ok (x :: ws), s2) := by
  unfold aC
  rw [ev_bnd hf, ev_bnd hg]
  rfl
theorem x_a2 (hf : f s = some (.ok x, s1)) (hg : g s1 = some (.ok y, s2)) : aC f (aC g aN) s = some (.ok [x, y], s2) := x_aC hf (x_a1 hg)
theorem x_op2 {o : List MO → W → W → Option W} (hf : f s = some (.ok x, s1)) (hg : g s1 = some (.ok y, s2)) (ho : o s2.m x y = some z) : op2 o f g s = some (.ok z, s2) := by
  unfold op2
  rw [ev_bnd hf, ev_bnd hg, ho]
  rfl
theorem x_opN {o : List MO → List W → Option W} {fs : Mo (List W)} {ws : List W} (hf : fs s = some (.ok ws, s1)) (ho : o s1.m ws = some z) : opN o fs s = some (.ok z, s1) := by
  unfold opN
  rw [ev_bnd hf, ho]
  rfl
theorem x_opO {o : List MO → List W → Option MO} {fs : Mo (List W)} {ws : List W} {m : MO} (hf : fs s = some (.ok ws, s1)) (ho : o s1.m ws = some m) : opO o fs s = some (.ok m, s1) := by
  unfold opO
  rw [ev_bnd hf, ho]
  rfl
theorem x_frz {f : Mo MO} {m : MO} {d : D} (hf : f s = some (.ok m, s1)) (ho : data m = some d) : frz f s = some (.ok (.fz d), s1) := by
  unfold frz
  rw [ev_bnd hf, ho]
  rfl
theorem x_call {n : Nat} {G : Fn} {fs : Mo (List W)} {ws : List W} {M : List MO} (hf : fs s = some (.ok ws, s1)) (hn : ws.length = n) (hG : G ws s1.m = some (.ok z, M)) : callF n G fs s = some (.ok z, ⟨s1.r, M⟩) := by
  unfold callF
  rw [ev_bnd hf]
  simp only [hn, if_true, hG]
theorem x_tst (hf : f s = some (.ok (.fz (.bl a)), s1)) : tst f s = some (.ok a, s1) := by
  unfold tst
  rw [ev_bnd hf]
  rfl
theorem x_orF {c d : Mo Bool} (hf : c s = some (.ok false, s1)) (hd : d s1 = some (.ok b, s2)) : orT c d s = some (.ok b, s2) := by
  unfold orT
  rw [ev_bnd hf]
  exact hd
theorem x_orT {c d : Mo Bool} (hf : c s = some (.ok true, s1)) : orT c d s = some (.ok true, s1) := by
  unfold orT
  rw [ev_bnd hf]
  rfl
theorem x_if {c : Mo Bool} {p q : Mo Fl} (hf : c s = some (.ok a, s1)) : ifS c p q s = if a then p s1 else q s1 := by
  unfold ifS
  rw [ev_bnd hf]
  cases a <;> rfl
end
end
end PD

noncomputable section
namespace PD
open PySem L2 PyProof.Rows
theorem genH_if (h : Str) : genH h = if (!decide ((tl h).take 1 = [103]) || (decide (tl (ofL ((tl h).drop 1)) = []) || (decide (9 < (ofL ((tl h).drop 1)).length) || (!((tl (ofL ((tl h).drop 1))).all isd) || (!decide (tl (ofL ((tl h).drop 1)) = [48]) && decide ((tl (ofL ((tl h).drop 1))).head? = some 48)))))) then -1 else ((NumText.digitsVal (tl (ofL ((tl h).drop 1))) : Nat) : Int) := by
  unfold genH genW
  generalize ofL ((tl h).drop 1) = w
  by_cases h1 : (tl h).take 1 = [103]
  · by_cases h2 : tl w = []
    · simp [h1, h2]
    · by_cases h3 : 9 < w.length
      · simp [h1, h3]
      · cases h4 : (tl w).all isd with
        | false => simp [h1, h2, h3, h4]
        | true =>
          by_cases h5 : tl w = [48]
          · simp [h1, h3, h5, isd]
          · by_cases h6 : (tl w).head? = some 48
            · simp [h1, h2, h3, h4, h5, h6]
            · simp [h1, h2, h3, h4, h5, h6]
  · simp [h1]
theorem s_law_generation (h : Str) (M : List MO) (hh : h.length ≤ LIM) : fs__law_generation [.fz (.str h)] M = some (.ok (.fz (.int (genH h))), M) := by
  rw [show fs__law_generation = fnD 3 fb__law_generation from rfl]
  let w : Str := ofL ((tl h).drop 1)
  have hw : w.length ≤ LIM := by
    have := len_tl h
    rw [len_tl, tl_ofL, List.length_drop]
    omega
  let st : S := ⟨[some (.fz (.str h)), some (.fz (.str w)), none], M⟩
  refine fin_ok (s := st) ?_ rfl
  unfold fb__law_generation
  have e0 : tl ("" : Str) = [] := by decide
  have e1 : tl ("0" : Str) = [48] := by decide
  have eg : tl ("g" : Str) = [103] := by decide
  have k1 : asgS (slO (nm 0) (poS (ck (.int 1))) poN) (gNm 1) ⟨start0 3 [.fz (.str h)], M⟩ = some (.ok .nx, st) := by
    refine e_asg (s1 := ⟨start0 3 [.fz (.str h)], M⟩) (e_slFrom (ev_nm rfl) ev_ck ?_)
    rw [cutO_s, if_pos hh, show ((1 : Int)) = ((1 : Nat) : Int) from rfl, cutD_from']
  rw [ev_seq k1]
  have c1 : tst (op2 neO (slO (nm 0) poN (poS (ck (.int 1)))) (ck (.str "g"))) st = some (.ok (!decide ((tl h).take 1 = [103])), st) := by
    refine e_tst (e_op2 (e_slTo (ev_nm rfl) ev_ck (by rw [cutO_s, if_pos hh, show ((1 : Int)) = ((1 : Nat) : Int) from rfl, cutD_to])) ev_ck ?_)
    rw [neO_ss, beq_tl, tl_ofL, eg]
  have c2 : tst (op2 eqO (nm 1) (ck (.str ""))) st = some (.ok (decide (tl w = [])), st) := by
    refine e_tst (e_op2 (ev_nm rfl) ev_ck ?_)
    rw [eqO_ss, beq_tl, e0]
  have c3 : tst (op2 gtO (opN lenO (aC (nm 1) aN)) (ck (.int 9))) st = some (.ok (decide (9 < w.length)), st) := by
    refine e_tst (e_op2 (e_opN (e_a1 (ev_nm rfl)) (by rw [lenO_str, if_pos hw])) ev_ck ?_)
    rw [gtO_ii]
    have : decide ((9 : Int) < (w.length : Int)) = decide (9 < w.length) := decide_eq_decide.mpr (by omega)
    rw [this]
  have c4 : tru (opN anyO (aC (frz (lcM (walk (nm 1)) [2] (gNm 2) (ret true) (op2 ninO (nm 2) (ck (.str "0123456789"))))) aN)) st = some (.ok (!((tl w).all isd)), st) := by
    refine e_tru (e_opN (e_a1 (ndigits_comp hw none)) ?_)
    rw [anyO_lst, List.any_map]
    have : ((tl w).any (id ∘ fun c => !isd c)) = !((tl w).all isd) := by
      generalize tl w = l
      induction l with
      | nil => rfl
      | cons c l ih => rw [List.any_cons, List.all_cons, ih]; show (!isd c || !l.all isd) = !(isd c && l.all isd); cases isd c <;> rfl
    rw [this]
  have c5 : tl w ≠ [] → andT (tst (op2 neO (nm 1) (ck (.str "0")))) (tst (op2 eqO (op2 atO (nm 1) (ck (.int 0))) (ck (.str "0")))) st = some (.ok (!decide (tl w = [48]) && decide ((tl w).head? = some 48)), st) := fun hne => by
    refine e_and (e_tst (e_op2 (ev_nm rfl) ev_ck (by rw [neO_ss, beq_tl, e1]))) fun _ => ?_
    obtain ⟨c, r, hc⟩ := List.exists_cons_of_ne_nil hne
    refine e_tst (e_op2 (e_op2 (ev_nm rfl) ev_ck (atO_sn (i := 0) (c := c) hw (by rw [hc]; rfl))) ev_ck ?_)
    rw [eqO_ss, beq_tl, e1, hc]
    have : decide (tl (⟨#[c]⟩ : Str) = [48]) = decide ((c :: r).head? = some 48) := decide_eq_decide.mpr (by
      rw [show tl (⟨#[c]⟩ : Str) = [c] from rfl]
      simp)
    rw [this]
  have cc := e_or c1 fun _ => e_or c2 fun a2 => e_or c3 fun _ => e_or c4 fun _ => c5 (of_decide_eq_false a2)
  have gi := genH_if h
  rw [show ofL ((tl h).drop 1) = w from rfl] at gi
  generalize hb : (!decide ((tl h).take 1 = [103]) || (decide (tl w = []) || (decide (9 < w.length) || (!((tl w).all isd) || (!decide (tl w = [48]) && decide ((tl w).head? = some 48)))))) = B at cc gi
  unfold seqS
  rw [e_if cc, gi]
  cases hB : B with
  | true => rfl
  | false =>
    have n2 : tl w ≠ [] := by rintro e; rw [hB] at hb; simp [e] at hb
    have n3 : ¬ 9 < w.length := by intro e; rw [hB] at hb; simp [e] at hb
    have n4 : (tl w).all isd = true := by
      cases h4 : (tl w).all isd with
      | true => rfl
      | false => rw [hB, h4] at hb; simp at hb
    simp only [Bool.false_eq_true, if_false]
    exact e_ret (e_opN (e_a1 (ev_nm rfl)) (intO_dig n4 n2 (by omega)))
end PD

noncomputable section
namespace PD
open PySem L2 PyProof.Rows
/-! ### comprehensions by a typed list -/
theorem cmpL_lcF {α : Type} {g : W → Mo Unit} {t : Mo Bool} {e : Mo W} {r0 : List (Option W)} {M : List MO} {em : α → W} {tt : α → Bool} {ff : α → D} : ∀ (l : List α) (acc : List W), (∀ a ∈ l, ∃ s1, g (em a) ⟨r0, M⟩ = some (.ok (), s1) ∧ t s1 = some (.ok (tt a), s1) ∧ s1.m = M ∧ (tt a = true → e s1 = some (.ok (.fz (ff a)), s1))) → acc.length + l.length ≤ LIM →
    cmpL g t (lcE e) r0 (fun _ => true) (l.map em) acc ⟨r0, M⟩ = some (.ok (acc ++ ((l.filter tt).map ff).map .fz), ⟨r0, M⟩)
  | [], acc, _, _ => by simp [cmpL]
  | a :: l, acc, h, hl => by
    obtain ⟨s1, h1, h2, h3, h4⟩ := h a List.mem_cons_self
    have hl' : acc.length + (l.length + 1) ≤ LIM := by simpa using hl
    rw [List.map_cons]
    unfold cmpL
    simp only [if_true]
    rw [ev_bnd h1, ev_bnd h2]
    obtain ⟨r1, m1⟩ := s1
    have h3 : m1 = M := h3
    subst h3
    cases hk : tt a with
    | false =>
      simp only [Bool.false_eq_true, if_false]
      rw [cmpL_lcF l acc (fun w hw => h w (List.mem_cons_of_mem _ hw)) (by omega)]
      simp [List.filter_cons, hk]
    | true =>
      simp only [if_true]
      have h5 := h4 hk
      have hlt : acc.length < LIM := by omega
      have hs : lcE e acc ⟨r1, m1⟩ = some (.ok (acc ++ [.fz (ff a)]), ⟨r1, m1⟩) := by
        unfold lcE
        rw [ev_bnd h5]
        simp [hlt]
      rw [ev_bnd hs]
      refine (cmpL_lcF l (acc ++ [.fz (ff a)]) (fun w hw => h w (List.mem_cons_of_mem _ hw)) (by simp; omega)).trans ?_
      simp [List.filter_cons, hk]
theorem e_lcF {α : Type} {f : Mo Wk} {vs : List Nat} {g : W → Mo Unit} {t : Mo Bool} {e : Mo W} {s : S} {l : List α} {em : α → W} {tt : α → Bool} {ff : α → D} (hf : f s = some (.ok (Wk.of (l.map em)), s)) (hl : l.length ≤ LIM)
    (hb : ∀ a ∈ l, ∃ s1, g (em a) ⟨wipeR s.r vs, s.m⟩ = some (.ok (), s1) ∧ t s1 = some (.ok (tt a), s1) ∧ s1.m = s.m ∧ (tt a = true → e s1 = some (.ok (.fz (ff a)), s1))) :
    frz (lcM f vs g t e) s = some (.ok (.fz (.lst ((l.filter tt).map ff))), s) := by
  have h := cmpL_lcF (r0 := wipeR s.r vs) (M := s.m) l [] hb (by simpa using hl)
  have h2 : lcM f vs g t e s = some (.ok (.lst ((l.filter tt).map ff)), s) := by
    unfold lcM cmpM
    rw [ev_bnd hf]
    have e1 : (Wk.of (l.map em)).ok = fun _ => true := rfl
    have e2 : (Wk.of (l.map em)).ws = l.map em := rfl
    simp only [e1, e2, h, List.nil_append, mkL_fz]
  exact e_frz h2 rfl
/-- a comprehension of all -/
theorem e_lcA {α : Type} {f : Mo Wk} {vs : List Nat} {g : W → Mo Unit} {e : Mo W} {s : S} {l : List α} {em : α → W} {ff : α → D} (hf : f s = some (.ok (Wk.of (l.map em)), s)) (hl : l.length ≤ LIM)
    (hb : ∀ a ∈ l, ∃ s1, g (em a) ⟨wipeR s.r vs, s.m⟩ = some (.ok (), s1) ∧ s1.m = s.m ∧ e s1 = some (.ok (.fz (ff a)), s1)) :
    frz (lcM f vs g (ret true) e) s = some (.ok (.fz (.lst (l.map ff))), s) := by
  have h := e_lcF (t := ret true) (tt := fun _ => true) hf hl (fun a ha => by
    obtain ⟨s1, h1, h2, h3⟩ := hb a ha
    exact ⟨s1, h1, rfl, h2, fun _ => h3⟩)
  rw [List.filter_eq_self.mpr (fun _ _ => rfl)] at h
  exact h
theorem cmpL_dcF {α : Type} {g : W → Mo Unit} {t : Mo Bool} {k e : Mo W} {r0 : List (Option W)} {M : List MO} {em : α → W} {tt : α → Bool} {kk : α → Key} {ff : α → D} : ∀ (l : List α) (acc : List (Key × D)), (∀ a ∈ l, ∃ s1, g (em a) ⟨r0, M⟩ = some (.ok (), s1) ∧ t s1 = some (.ok (tt a), s1) ∧ s1.m = M ∧ (tt a = true → ∃ kw, k s1 = some (.ok kw, s1) ∧ keyW kw = some (kk a) ∧ e s1 = some (.ok (.fz (ff a)), s1))) → ((acc.map (·.1)) ++ (l.filter tt).map kk).Nodup → acc.length + l.length ≤ LIM →
    cmpL g t (dcE k e) r0 (fun _ => true) (l.map em) acc ⟨r0, M⟩ = some (.ok (acc ++ (l.filter tt).map fun a => (kk a, ff a)), ⟨r0, M⟩)
  | [], acc, _, _, _ => by simp [cmpL]
  | a :: l, acc, h, nd, hl => by
    obtain ⟨s1, h1, h2, h3, h4⟩ := h a List.mem_cons_self
    have hl' : acc.length + (l.length + 1) ≤ LIM := by simpa using hl
    rw [List.map_cons]
    unfold cmpL
    simp only [if_true]
    rw [ev_bnd h1, ev_bnd h2]
    obtain ⟨r1, m1⟩ := s1
    have h3 : m1 = M := h3
    subst h3
    cases hk : tt a with
    | false =>
      simp only [Bool.false_eq_true, if_false]
      rw [List.filter_cons, hk] at nd
      rw [cmpL_dcF l acc (fun w hw => h w (List.mem_cons_of_mem _ hw)) nd (by omega)]
      simp [List.filter_cons, hk]
    | true =>
      simp only [if_true]
      obtain ⟨kw, h5, h6, h7⟩ := h4 hk
      rw [List.filter_cons, hk] at nd
      have hlt : acc.length < LIM := by omega
      have hnew : kk a ∉ acc.map (·.1) := by
        have := (List.nodup_append.mp nd).2.2
        intro z
        exact this _ z (kk a) (by simp) rfl
      have hs : dcE k e acc ⟨r1, m1⟩ = some (.ok (acc ++ [(kk a, ff a)]), ⟨r1, m1⟩) := by
        unfold dcE
        rw [ev_bnd h5, ev_bnd h7]
        simp [hlt, h6, dput_new hnew]
      rw [ev_bnd hs]
      rw [cmpL_dcF l (acc ++ [(kk a, ff a)]) (fun w hw => h w (List.mem_cons_of_mem _ hw)) (by simpa using nd) (by simp; omega)]
      simp [List.filter_cons, hk]
theorem e_dcF {α : Type} {f : Mo Wk} {vs : List Nat} {g : W → Mo Unit} {t : Mo Bool} {k e : Mo W} {s : S} {l : List α} {em : α → W} {tt : α → Bool} {kk : α → Key} {ff : α → D} (hf : f s = some (.ok (Wk.of (l.map em)), s)) (hl : l.length ≤ LIM)
    (hb : ∀ a ∈ l, ∃ s1, g (em a) ⟨wipeR s.r vs, s.m⟩ = some (.ok (), s1) ∧ t s1 = some (.ok (tt a), s1) ∧ s1.m = s.m ∧ (tt a = true → ∃ kw, k s1 = some (.ok kw, s1) ∧ keyW kw = some (kk a) ∧ e s1 = some (.ok (.fz (ff a)), s1))) (nd : ((l.filter tt).map kk).Nodup) :
    frz (dcM f vs g t k e) s = some (.ok (.fz (.dK ((l.filter tt).map fun a => (kk a, ff a)))), s) := by
  have h := cmpL_dcF (r0 := wipeR s.r vs) (M := s.m) l [] hb (by simpa using nd) (by simpa using hl)
  have h2 : dcM f vs g t k e s = some (.ok (.dK ((l.filter tt).map fun a => (kk a, ff a))), s) := by
    unfold dcM cmpM
    rw [ev_bnd hf]
    have e1 : (Wk.of (l.map em)).ok = fun _ => true := rfl
    have e2 : (Wk.of (l.map em)).ws = l.map em := rfl
    simp only [e1, e2, h, List.nil_append]
  exact e_frz h2 rfl
theorem mergeD_app : ∀ (l : List (Key × D)) (acc : List (Key × D)), ((acc.map (·.1)) ++ l.map (·.1)).Nodup → mergeD acc l = acc ++ l
  | [], acc, _ => by simp [mergeD]
  | (k, d) :: l, acc, nd => by
    show mergeD (dput acc k d) l = _
    have hnew : k ∉ acc.map (·.1) := fun z => (List.nodup_append.mp nd).2.2 _ z k (by simp) rfl
    rw [dput_new hnew, mergeD_app l _ (by simpa using nd)]
    simp
theorem mergeD_nil {l : List (Key × D)} (nd : (l.map (·.1)).Nodup) : mergeD [] l = l := by
  rw [mergeD_app l [] (by simpa using nd)]
  rfl
theorem dPairs_str : ∀ (l : FS), dPairs (l.map fun q => .tup [.str q.1, .str q.2]) = some (eF l)
  | [] => rfl
  | q :: l => by
    rw [List.map_cons]
    unfold dPairs
    rw [dPairs_str l]
    rfl
theorem keys_eF (d : FS) : (eF d).map (·.1) = (kF d).map Sum.inr := by simp [eF, kF]
theorem nd_inr {l : List Str} (h : l.Nodup) : (l.map (Sum.inr : Str → Key)).Nodup := by
  unfold List.Nodup at *
  rw [List.pairwise_map]
  exact h.imp fun hab e => hab (Sum.inr.inj e)
theorem dictO_prs {M : List MO} {l : FS} (nd : (kF l).Nodup) : dictO M [.fz (.lst (l.map fun q => .tup [.str q.1, .str q.2]))] = some (.dK (eF l)) := by
  show (dPairs (l.map fun q => D.tup [.str q.1, .str q.2])).map (fun kvs => MO.dK (mergeD [] kvs)) = _
  rw [dPairs_str, Option.map_some, mergeD_nil (by rw [keys_eF]; exact nd_inr nd)]
@[simp] theorem dictO_dK {M : List MO} {kvs : List (Key × D)} : dictO M [.fz (.dK kvs)] = some (.dK kvs) := rfl
@[simp] theorem walkV_eF {M : List MO} {d : FS} : walkV M (.fz (.dK (eF d))) = some (Wk.of ((kF d).map fun p => .fz (.str p))) := by
  show some (Wk.of ((eF d).map fun kv => .fz (kD kv.1))) = _
  simp [eF, kF, kD, Function.comp_def]
@[simp] theorem walkV_lst {M : List MO} {ds : List D} : walkV M (.fz (.lst ds)) = some (Wk.of (ds.map .fz)) := rfl
theorem items_eF {f : Mo W} {s : S} {d : FS} (h : f s = some (.ok (.fz (.dK (eF d))), s)) : items f s = some (.ok (Wk.of (d.map fun q => .fz (.tup [.str q.1, .str q.2]))), s) := by
  unfold items
  rw [ev_bnd h]
  show ofO (some (Wk.of ((eF d).map fun kv => .fz (.tup [kD kv.1, kv.2])))) s = _
  simp [eF, kD, Function.comp_def]
@[simp] theorem inO_eF {M : List MO} {d : FS} {p : Str} : inO M (.fz (.str p)) (.fz (.dK (eF d))) = some (.fz (.bl (gF d p).isSome)) := by
  show some (W.fz (.bl (dget (eF d) (.inr p)).isSome)) = _
  rw [dget_eF]
  cases gF d p <;> rfl
@[simp] theorem ninO_eF {M : List MO} {d : FS} {p : Str} : ninO M (.fz (.str p)) (.fz (.dK (eF d))) = some (.fz (.bl (!(gF d p).isSome))) := by
  show some (W.fz (.bl (!(dget (eF d) (.inr p)).isSome))) = _
  rw [dget_eF]
  cases gF d p <;> rfl
@[simp] theorem isDc_dK {M : List MO} {kvs : List (Key × D)} : isDc M (.fz (.dK kvs)) = true := rfl
theorem getO_eF {M : List MO} {d : FS} {p : Str} {z : W} : getO M (.fz (.dK (eF d))) (.fz (.str p)) z = some (match gF d p with | some t => .fz (.str t) | none => z) := by
  show some (match dget (eF d) (.inr p) with | some d => W.fz d | none => z) = _
  rw [dget_eF]
  cases gF d p <;> rfl
/-! ### heads of paths -/
def headP (p : Str) : Str := ofL ((tl p).takeWhile fun c => decide (c ≠ 47))
theorem takeW (l : List Nat) : (47 ∉ l ∧ (l.takeWhile fun c => decide (c ≠ 47)) = l) ∨ ∃ r, l = (l.takeWhile fun c => decide (c ≠ 47)) ++ 47 :: r ∧ 47 ∉ (l.takeWhile fun c => decide (c ≠ 47)) := by
  induction l with
  | nil => exact .inl ⟨by simp, rfl⟩
  | cons c l ih =>
    by_cases hc : c = 47
    · refine .inr ⟨l, ?_, ?_⟩
      · rw [List.takeWhile_cons]; simp [hc]
      · rw [List.takeWhile_cons]; simp [hc]
    · rw [List.takeWhile_cons]
      simp only [hc, ne_eq, not_false_eq_true, decide_true, if_true]
      rcases ih with ⟨h1, h2⟩ | ⟨r, h1, h2⟩
      · refine .inl ⟨?_, by rw [h2]⟩
        intro z
        rcases List.mem_cons.mp z with e | z
        · exact hc e.symm
        · exact h1 z
      · refine .inr ⟨r, by rw [List.cons_append, ← h1], ?_⟩
        intro z
        rcases List.mem_cons.mp z with e | z
        · exact hc e.symm
        · exact h2 z
theorem head_cut (p : Str) : (47 ∉ tl p ∧ headP p = p) ∨ ∃ r, p = headP p ++ ("/" : Str) ++ ofL r ∧ 47 ∉ tl (headP p) := by
  have e2 : tl ("/" : Str) = [47] := by decide
  rcases takeW (tl p) with ⟨h1, h2⟩ | ⟨r, h1, h2⟩
  · exact .inl ⟨h1, tl_inj (by unfold headP; rw [tl_ofL, h2])⟩
  · refine .inr ⟨r, tl_inj ?_, by unfold headP; rw [tl_ofL]; exact h2⟩
    rw [tl_app, tl_app, e2, tl_ofL]
    unfold headP
    rw [tl_ofL, List.append_assoc]
    exact h1
theorem part_head (p : Str) : (Txt.partition p ("/" : Str)).1 = headP p := by
  have e2 : TL.tl ("/" : Str) = [47] := by decide
  rcases head_cut p with ⟨h1, h2⟩ | ⟨r, h1, h2⟩
  · rw [TL.partition_none e2 h1, h2]
  · conv => lhs; rw [h1]
    rw [TL.partition_app e2 h2]
theorem split_head (p : Str) : ∃ r, Txt.split p ("/" : Str) = headP p :: r := by
  have e2 : TL.tl ("/" : Str) = [47] := by decide
  have sp := TL.split_spl p ("/" : Str) (by rw [e2]; simp) (TL.kind_ok (by rw [← Array.all_toList]; decide))
  rw [e2] at sp
  have key : ∃ r, (Txt.split p ("/" : Str)).map TL.tl = tl (headP p) :: r := by
    rcases head_cut p with ⟨h1, h2⟩ | ⟨r, h1, h2⟩
    · refine ⟨[], ?_⟩
      rw [sp, TL.spl_last1 (show 47 ∉ TL.tl p from h1), h2]
      rfl
    · have e3 : TL.tl p = TL.tl (headP p) ++ (47 :: [] ++ r) := by
        have := congrArg tl h1
        rw [tl_app, tl_app, tl_ofL, show tl ("/" : Str) = [47] from e2, List.append_assoc] at this
        exact this
      refine ⟨TL.spl [47] 0 [] r, ?_⟩
      rw [sp, e3, TL.spl_part1 (show 47 ∉ TL.tl (headP p) from h2)]
      rfl
  obtain ⟨r, hr⟩ := key
  cases hs : Txt.split p ("/" : Str) with
  | nil => rw [hs] at hr; cases hr
  | cons a l =>
    rw [hs] at hr
    obtain ⟨h1, _⟩ := List.cons.inj hr
    exact ⟨l, by rw [tl_inj (x := a) (y := headP p) h1]⟩
theorem head_len (p : Str) : (headP p).length ≤ p.length := by
  unfold headP
  rw [len_tl, tl_ofL, len_tl]
  exact (List.takeWhile_sublist _).length_le
def gnum (p : Str) : Int := genH (headP p)
end PD

noncomputable section
namespace PD
open PySem L2 PyProof.Rows
/-! ### numbers -/
structure Small (d : FS) : Prop where
  nd : (kF d).Nodup
  few : d.length < 64
  ks : ∀ q ∈ d, q.1.length ≤ 100
  vs : ∀ q ∈ d, q.2.length ≤ 100
def NS (d : FS) : List Int := uniqI ((kF d).map gnum |>.filter fun n => decide (0 ≤ n))
theorem kF_len (d : FS) : (kF d).length = d.length := by simp [kF]
theorem lim_of {n m : Nat} (h : n ≤ m) (hm : m ≤ 16777216 := by decide) : n ≤ LIM := Nat.le_trans h hm
theorem Small.klen {d : FS} (h : Small d) {p : Str} (hp : p ∈ kF d) : p.length ≤ 100 := by
  obtain ⟨q, hq, rfl⟩ := List.mem_map.mp hp
  exact h.ks q hq
theorem dInts_int : ∀ l : List Int, dInts (l.map .int) = some l
  | [] => rfl
  | x :: l => by
    show (dInts (l.map .int)).map (x :: ·) = _
    rw [dInts_int l]
    rfl
theorem sortSetO_l {M : List MO} {l : List Int} (h : l.length < 64) : sortSetO M [.fz (.lst (l.map .int))] = some (.fz (.lst ((uniqI l).map .int))) := by
  show (match dInts (l.map D.int) with
      | some ns => if ns.length < 64 then some (W.fz (.lst ((uniqI ns).map .int))) else none
      | none => none) = _
  rw [dInts_int]
  simp only [h, if_true]
theorem atO_l0 {M : List MO} {d : D} {ds : List D} : atO M (.fz (.lst (d :: ds))) (.fz (.int 0)) = some (.fz d) := by
  have h : L2.atI (d :: ds) ((0 : Nat) : Int) = some d := L2.atI_nat rfl
  have h : L2.atI (d :: ds) 0 = some d := h
  show (L2.atI (d :: ds) 0).map W.fz = _
  rw [h]
  rfl
theorem s_law_numbers (d : FS) (M : List MO) (h : Small d) : fs__law_numbers [.fz (.dK (eF d))] M = some (.ok (.fz (.lst ((NS d).map .int))), M) := by
  rw [show fs__law_numbers = fnD 4 fb__law_numbers from rfl]
  let st := fun (o1 : Option W) => (⟨[some (.fz (.dK (eF d))), o1, none, none], M⟩ : S)
  let fo : W := .fz (.lst (((kF d).map gnum).map .int))
  refine fin_ok (s := st (some fo)) ?_ rfl
  unfold fb__law_numbers
  have fw := h.few
  have kl := kF_len d
  have k1 : frz (lcM (walk (nm 0)) [2] (gNm 2) (ret true) (callF 1 fs__law_generation (aC (op2 atO (sm1 splitO (nm 2) (ck (.str "/"))) (ck (.int 0))) aN))) (st none) = some (.ok fo, st none) := by
    have := e_lcA (f := walk (nm 0)) (vs := [2]) (g := gNm 2) (e := callF 1 fs__law_generation (aC (op2 atO (sm1 splitO (nm 2) (ck (.str "/"))) (ck (.int 0))) aN)) (s := st none) (l := kF d) (em := fun p => .fz (.str p)) (ff := fun p => .int (gnum p))
      (e_walk (ev_nm rfl) walkV_eF) (lim_of (m := 64) (by omega)) (fun p hp => by
        have lp := h.klen hp
        obtain ⟨r, hr⟩ := split_head p
        have sp0 : (Str.length "/" == 0) = false := by decide
        refine ⟨⟨[some (.fz (.dK (eF d))), none, some (.fz (.str p)), none], M⟩, rfl, rfl, e_call (e_a1 (e_op2 (e_sm1 (t := p) (z := .fz (.lst ((headP p :: r).map .str))) (ev_nm rfl) ev_ck ?_) ev_ck atO_l0)) rfl (s_law_generation _ _ (lim_of (m := 100) (Nat.le_trans (head_len p) lp)))⟩
        show (if (Str.length "/" == 0) = false ∧ p.length + 2 ≤ LIM then some (W.fz (.lst ((Txt.split p "/").map .str))) else none) = _
        rw [if_pos ⟨sp0, lim_of (m := 102) (by omega)⟩]
        rw [show Txt.split p "/" = headP p :: r from hr])
    rw [this]
    show _ = some (Except.ok (W.fz (.lst (((kF d).map gnum).map .int))), _)
    rw [List.map_map]
    rfl
  have k2 : frz (lcM (walk (nm 1)) [3] (gNm 3) (tst (op2 geO (nm 3) (ck (.int 0)))) (nm 3)) (st (some fo)) = some (.ok (.fz (.lst (((kF d).map gnum |>.filter fun n => decide (0 ≤ n)).map .int))), st (some fo)) :=
    e_lcF (l := (kF d).map gnum) (em := fun n => .fz (.int n)) (tt := fun n => decide (0 ≤ n)) (ff := .int) (e_walk (ev_nm rfl) (by rw [walkV_lst, List.map_map]; rfl)) (lim_of (m := 64) (by rw [List.length_map]; omega)) (fun n hn =>
      ⟨⟨[some (.fz (.dK (eF d))), some fo, none, some (.fz (.int n))], M⟩, rfl, e_tst (e_op2 (ev_nm rfl) ev_ck geO_ii), rfl, fun _ => ev_nm rfl⟩)
  show seqS _ _ (st none) = _
  rw [ev_seq (e_asg k1)]
  refine e_ret (e_opN (e_a1 k2) (sortSetO_l ?_))
  have := (List.filter_sublist (p := fun n => decide (0 ≤ n)) (l := (kF d).map gnum)).length_le
  rw [List.length_map] at this
  omega
/-- what is kept of a list -/
def ddI (l : List Int) : List Int := l.foldl (fun acc x => if x ∈ acc then acc else acc ++ [x]) []
theorem ddI_go : ∀ (l acc : List Int), acc.Nodup → (l.foldl (fun acc x => if x ∈ acc then acc else acc ++ [x]) acc).Nodup ∧ ∀ z, z ∈ (l.foldl (fun acc x => if x ∈ acc then acc else acc ++ [x]) acc) ↔ z ∈ acc ∨ z ∈ l
  | [], acc, h => ⟨h, by simp⟩
  | x :: l, acc, h => by
    rw [List.foldl_cons]
    by_cases hx : x ∈ acc
    · rw [if_pos hx]
      obtain ⟨h1, h2⟩ := ddI_go l acc h
      exact ⟨h1, fun z => by
        rw [h2, List.mem_cons]
        constructor
        · rintro (a | a)
          · exact .inl a
          · exact .inr (.inr a)
        · rintro (a | rfl | a)
          · exact .inl a
          · exact .inl hx
          · exact .inr a⟩
    · rw [if_neg hx]
      obtain ⟨h1, h2⟩ := ddI_go l (acc ++ [x]) (List.nodup_append.mpr ⟨h, by simp, fun a ha b hb e => by simp at hb; subst hb; subst e; exact hx ha⟩)
      exact ⟨h1, fun z => by rw [h2, List.mem_cons, List.mem_append, List.mem_singleton, or_assoc]⟩
theorem sortI_dd (l : List Int) : sortI (ddI l) = uniqI l := by
  obtain ⟨h1, h2⟩ := ddI_go l [] (by simp)
  have pm : (sortI (ddI l)).Perm (ddI l) := List.mergeSort_perm _ _
  refine uniqI_eq ?_ fun z => by rw [pm.mem_iff]; exact (h2 z).trans (by simp)
  have pw : (sortI (ddI l)).Pairwise fun a b => decide (a ≤ b) = true := List.pairwise_mergeSort (le := fun a b => decide (a ≤ b)) (fun a b c h1 h2 => by simp at *; omega) (fun a b => by simp; omega) _
  have nd : (sortI (ddI l)).Nodup := pm.nodup_iff.mpr h1
  exact (pw.and nd).imp fun ⟨h, h'⟩ => by simp at h; omega
def iK (l : List Int) : List (Key × D) := l.map fun i => (.inl i, .bl true)
theorem keyI_iK : ∀ l : List Int, keyI (iK l) = some l
  | [] => rfl
  | x :: l => by
    show (keyI (iK l)).map (x :: ·) = _
    rw [keyI_iK l]
    rfl
theorem dput_iK (l : List Int) (x : Int) : dput (iK l) (.inl x) (.bl true) = iK (if x ∈ l then l else l ++ [x]) := by
  by_cases hx : x ∈ l
  · rw [if_pos hx]
    unfold dput
    have e : (iK l).any (fun kv => decide (kv.1 = Sum.inl x)) = true := List.any_eq_true.mpr ⟨((.inl x : Key), D.bl true), List.mem_map.mpr ⟨x, hx, rfl⟩, by simp⟩
    rw [if_pos e]
    unfold iK
    rw [List.map_map]
    refine List.map_congr_left fun a ha => ?_
    simp only [Function.comp_apply]
    split <;> simp_all
  · rw [if_neg hx, dput_new (fun z => by
      unfold iK at z
      rw [List.map_map] at z
      obtain ⟨a, ha, e⟩ := List.mem_map.mp z
      exact hx (by cases e; exact ha))]
    unfold iK
    rw [List.map_append]
    rfl
theorem sortedO_iK {M : List MO} {n : Nat} {l : List Int} (h : M[n]? = some (.dK (iK l))) (hl : l.length < 64) : sortedO M [.ob n] = some (.fz (.lst ((sortI l).map .int))) := by
  have a1 : asS M (.ob n) = none := by unfold asS; simp only [h]
  have a2 : asD M (.ob n) = some (iK l) := by unfold asD; simp only [h]
  unfold sortedO
  simp only [a1, a2]
  unfold sortedK
  cases l with
  | nil => simp [iK, keyS, sortS, sortI]
  | cons x l =>
    have : keyS (iK (x :: l)) = none := rfl
    rw [this]
    simp only [keyI_iK, hl, if_true]
theorem fold_ge (l : List Int) : ∀ acc : List Int, (l.foldl (fun acc x => if 0 ≤ x then (if x ∈ acc then acc else acc ++ [x]) else acc) acc) = (l.filter fun n => decide (0 ≤ n)).foldl (fun acc x => if x ∈ acc then acc else acc ++ [x]) acc := by
  induction l with
  | nil => intro acc; rfl
  | cons x l ih =>
    intro acc
    rw [List.foldl_cons, ih]
    by_cases hx : 0 ≤ x
    · rw [if_pos hx, List.filter_cons, if_pos (decide_eq_true hx)]
      rfl
    · rw [if_neg hx, List.filter_cons, if_neg (by rw [decide_eq_false hx]; exact Bool.false_ne_true)]
def stN (d : FS) (M : List MO) (acc : List Int) (o2 o3 : Option W) : S := ⟨[some (.fz (.dK (eF d))), some (.ob M.length), o2, o3], M ++ [.dK (iK acc)]⟩
def bdNum : Mo Fl := (seqS (asgS (op2 atO (sm1 partO (nm 2) (ck (.str "/"))) (ck (.int 0))) (gNm 3))
  (ifS (andT (tst (op2 eqO (slO (nm 3) poN (poS (ck (.int 1)))) (ck (.str "g")))) (tst (op2 geO (callF 1 fs_number_in (aC (slO (nm 3) (poS (ck (.int 1))) poN) aN)) (ck (.int 0))))) (putS (ck (.bl true)) (nm 1) (callF 1 fs_number_in (aC (slO (nm 3) (poS (ck (.int 1))) poN) aN))) nxS))
theorem num_step (d : FS) (M : List MO) (acc : List Int) (o2 o3 : Option W) (p : Str) (lp : p.length ≤ 100) (ha : acc.length < 64) : ∃ a2 a3, bnd (gNm 2 (.fz (.str p))) (fun _ => bdNum) (stN d M acc o2 o3) = some (.ok .nx, stN d M (if 0 ≤ gnum p then (if gnum p ∈ acc then acc else acc ++ [gnum p]) else acc) a2 a3) := by
  refine ⟨some (.fz (.str p)), some (.fz (.str (headP p))), ?_⟩
  rw [ev_bnd (show gNm 2 (.fz (.str p)) _ = some (.ok (), _) from rfl)]
  have lh : (headP p).length ≤ LIM := lim_of (m := 100) (Nat.le_trans (head_len p) lp)
  have sp0 : (Str.length "/" == 0) = false := by decide
  let st := fun acc => stN d M acc (some (.fz (.str p))) (some (.fz (.str (headP p))))
  have k1 : asgS (op2 atO (sm1 partO (nm 2) (ck (.str "/"))) (ck (.int 0))) (gNm 3) (stN d M acc (some (.fz (.str p))) o3) = some (.ok .nx, st acc) := by
    refine (e_asg (s1 := stN d M acc (some (.fz (.str p))) o3) (x := .fz (.str (headP p))) (e_op2 (e_sm1 (t := p) (ev_nm rfl) ev_ck (show (if (Str.length "/" == 0) = false ∧ p.length ≤ LIM then some (W.fz (.tup [.str (Txt.partition p "/").1, .str (Txt.partition p "/").2.1, .str (Txt.partition p "/").2.2])) else none) = _ from if_pos ⟨sp0, lim_of (m := 100) lp⟩)) ev_ck ?_)).trans rfl
    rw [atO_t0, part_head]
  have eg : tl ("g" : Str) = [103] := by decide
  let w : Str := ofL ((tl (headP p)).drop 1)
  have lw : w.length ≤ LIM := by
    refine lim_of (m := 100) ?_
    rw [len_tl, tl_ofL, List.length_drop]
    have := head_len p
    rw [len_tl] at this
    omega
  have c0 : ∀ acc, slO (nm 3) (poS (ck (.int 1))) poN (st acc) = some (.ok (.fz (.str w)), st acc) := fun acc =>
    e_slFrom (ev_nm rfl) ev_ck (by rw [cutO_s, if_pos lh, show ((1 : Int)) = ((1 : Nat) : Int) from rfl, cutD_from'])
  have c1 : tst (op2 eqO (slO (nm 3) poN (poS (ck (.int 1)))) (ck (.str "g"))) (st acc) = some (.ok (decide ((tl (headP p)).take 1 = [103])), st acc) := by
    refine e_tst (e_op2 (e_slTo (ev_nm rfl) ev_ck (by rw [cutO_s, if_pos lh, show ((1 : Int)) = ((1 : Nat) : Int) from rfl, cutD_to])) ev_ck ?_)
    rw [eqO_ss, beq_tl, tl_ofL, eg]
  have c2 : ∀ acc, callF 1 fs_number_in (aC (slO (nm 3) (poS (ck (.int 1))) poN) aN) (st acc) = some (.ok (.fz (.int (genW w))), st acc) := fun acc => e_call (e_a1 (c0 acc)) rfl (s_number_in w _ lw)
  have cc := e_and c1 fun _ => e_tst (e_op2 (c2 acc) (ev_ck (d := .int 0)) geO_ii)
  unfold bdNum
  rw [show setR (stN d M acc o2 o3) 2 (.fz (.str p)) = stN d M acc (some (.fz (.str p))) o3 from rfl, ev_seq k1, e_if cc]
  have hg : gnum p = if (tl (headP p)).take 1 = [103] then genW w else -1 := rfl
  by_cases h1 : (tl (headP p)).take 1 = [103]
  · rw [if_pos h1] at hg
    rw [hg]
    by_cases h2 : 0 ≤ genW w
    · simp only [h1, h2, decide_true, Bool.and_true, if_true]
      unfold putS asgS
      rw [ev_bnd ev_ck]
      unfold gSb
      have few : (iK acc).length < LIM := by unfold iK; rw [List.length_map]; show _ < 16777216; omega
      rw [show bnd (bnd (nm 1) _) _ (st acc) = bnd (bnd (callF 1 fs_number_in (aC (slO (nm 3) (poS (ck (.int 1))) poN) aN)) fun i => fun s => match stO s.m (.ob M.length) i (.fz (.bl true)) with | some M' => some (.ok (), { s with m := M' }) | none => none) (fun _ => nxS) (st acc) from rfl]
      rw [ev_bnd (s1 := stN d M (if genW w ∈ acc then acc else acc ++ [genW w]) (some (.fz (.str p))) (some (.fz (.str (headP p))))) (a := ()) (by
        rw [ev_bnd (c2 acc)]
        have : stO (st acc).m (.ob M.length) (.fz (.int (genW w))) (.fz (.bl true)) = some (M ++ [.dK (iK (if genW w ∈ acc then acc else acc ++ [genW w]))]) := by
          show stO (M ++ [.dK (iK acc)]) _ _ _ = _
          unfold stO
          simp only [get_last, keyW, keyD, few, if_true, dput_iK, set_last]
        rw [this]
        rfl)]
      rfl
    · simp only [h1, h2, decide_true, decide_false, Bool.and_false, Bool.false_eq_true, if_false]
      rfl
  · rw [if_neg h1] at hg
    have h0 : ¬ (0 : Int) ≤ gnum p := by rw [hg]; decide
    simp only [h1, decide_false, Bool.false_and, Bool.false_eq_true, if_false, h0]
    rfl
theorem dd_len : ∀ (l acc : List Int), (l.foldl (fun acc x => if 0 ≤ x then (if x ∈ acc then acc else acc ++ [x]) else acc) acc).length ≤ acc.length + l.length
  | [], acc => by simp
  | x :: l, acc => by
    rw [List.foldl_cons]
    refine Nat.le_trans (dd_len l _) ?_
    split
    · split <;> simp <;> omega
    · simp <;> omega
theorem s_numbers (d : FS) (M : List MO) (h : Small d) : fs_numbers [.fz (.dK (eF d))] M = some (.ok (.fz (.lst ((NS d).map .int))), M) := by
  rw [show fs_numbers = fnD 4 fb_numbers from rfl]
  have fw := h.few
  have kl := kF_len d
  let G := fun (l : List Int) => l.foldl (fun acc x => if 0 ≤ x then (if x ∈ acc then acc else acc ++ [x]) else acc) ([] : List Int)
  obtain ⟨s2, h2, o2, o3, e⟩ := forL_ind (g := gNm 2) (b := bdNum) (ok := fun _ => true)
    (fun i s => ∃ o2 o3, s = stN d M (G (((kF d).take i).map gnum)) o2 o3) ((kF d).map fun p => .fz (.str p)) 0 (stN d M [] none none)
    (fun i w s hw ⟨o2, o3, hs⟩ => by
      subst hs
      obtain ⟨p, hp, rfl⟩ := getD hw
      simp only [Nat.zero_add]
      have hl : (G (((kF d).take i).map gnum)).length < 64 := by
        have := dd_len (((kF d).take i).map gnum) []
        simp only [List.length_map, List.length_take, List.length_nil] at this
        exact Nat.lt_of_le_of_lt this (by omega)
      obtain ⟨a2, a3, e⟩ := num_step d M _ o2 o3 p (h.klen (List.mem_of_getElem? hp)) hl
      refine ⟨trivial, _, .inl e, a2, a3, ?_⟩
      rw [take_snoc hp, List.map_append, show G (List.map gnum (List.take i (kF d)) ++ List.map gnum [p]) = (if 0 ≤ gnum p then (if gnum p ∈ G (List.map gnum (List.take i (kF d))) then G (List.map gnum (List.take i (kF d))) else G (List.map gnum (List.take i (kF d))) ++ [gnum p]) else G (List.map gnum (List.take i (kF d)))) by
        show List.foldl _ _ _ = _
        rw [List.foldl_append]
        rfl])
    (fun _ _ => rfl) ⟨none, none, rfl⟩
  rw [show 0 + ((kF d).map fun p => W.fz (.str p)).length = (kF d).length by simp, List.take_length] at e
  have eG : G ((kF d).map gnum) = ddI (((kF d).map gnum).filter fun n => decide (0 ≤ n)) := fold_ge _ _
  refine fin_okL (s := s2) (L := [.dK (iK (G ((kF d).map gnum)))]) ?_ (by rw [e]; rfl)
  unfold fb_numbers
  unfold bdNum at h2
  have k1 : asgS (newO dict0) (gNm 1) ⟨start0 4 [.fz (.dK (eF d))], M⟩ = some (.ok .nx, stN d M [] none none) := rfl
  have hl : (G ((kF d).map gnum)).length < 64 := by
    have := dd_len ((kF d).map gnum) []
    simp only [List.length_map, List.length_nil] at this
    exact Nat.lt_of_le_of_lt this (by omega)
  rw [ev_seq k1, ev_seq ((ev_for (k := Wk.of ((kF d).map fun p => .fz (.str p))) (s1 := stN d M [] none none) (e_walk (ev_nm rfl) walkV_eF)).trans h2), e]
  refine e_ret (e_opN (e_a1 (ev_nm rfl)) ?_)
  refine (sortedO_iK (l := G ((kF d).map gnum)) get_last hl).trans ?_
  rw [eG, sortI_dd]
  rfl
end PD

noncomputable section
namespace PD
open PySem L2 PyProof.Rows
/-! ### the files of a generation -/
def pfx (h p : Str) : Bool := decide ((tl p).take (tl h).length = tl h)
def cutP (h p : Str) : Str := ofL ((tl p).drop (tl h).length)
theorem starts_pfx (p h : Str) : Txt.startswith p h = pfx h p := by
  have key : Txt.startswith p h = true ↔ (tl p).take (tl h).length = tl h := by
    unfold Txt.startswith
    rw [Bool.and_eq_true]
    unfold PySem.Builtin.Str.subAt
    rw [beq_iff_eq]
    constructor
    · rintro ⟨_, h2⟩
      have h3 := congrArg Array.toList h2
      rw [Array.toList_extract] at h3
      have h3 : (tl p).extract 0 (0 + h.length) = tl h := h3
      rw [List.extract_eq_take_drop, List.drop_zero] at h3
      rw [← len_tl]
      simpa using h3
    · intro h3
      have hl : h.length ≤ p.length := by
        have := congrArg List.length h3
        rw [List.length_take] at this
        rw [len_tl, len_tl]
        omega
      refine ⟨decide_eq_true (by omega), ?_⟩
      apply Array.ext'
      rw [Array.toList_extract]
      show (tl p).extract 0 (0 + h.length) = tl h
      rw [List.extract_eq_take_drop, List.drop_zero, len_tl]
      simpa using h3
  unfold pfx
  by_cases hh : (tl p).take (tl h).length = tl h
  · rw [decide_eq_true hh]; exact key.mpr hh
  · rw [decide_eq_false hh]
    cases hs : Txt.startswith p h with
    | false => rfl
    | true => exact absurd (key.mp hs) hh
theorem pfx_iff {h p : Str} : pfx h p = true ↔ p = h ++ cutP h p := by
  unfold pfx cutP
  rw [decide_eq_true_iff]
  constructor
  · intro e
    apply tl_inj
    rw [tl_app, tl_ofL]
    conv => lhs; rw [← List.take_append_drop (tl h).length (tl p), e]
  · intro e
    have := congrArg tl e
    rw [tl_app, tl_ofL] at this
    rw [this]
    simp
theorem pfx_app (h r : Str) : pfx h (h ++ r) = true := by
  unfold pfx
  rw [tl_app]
  simp
theorem cutP_app (h r : Str) : cutP h (h ++ r) = r := by
  unfold cutP
  rw [tl_app]
  simp
def filesP (d : FS) (h : Str) : FS := (d.filter fun q => pfx h q.1).map fun q => (cutP h q.1, q.2)
theorem kF_filesP (d : FS) (h : Str) : kF (filesP d h) = (d.filter fun q => pfx h q.1).map fun q => cutP h q.1 := by
  unfold kF filesP
  rw [List.map_map]
  rfl
theorem nd_filesP {d : FS} (hd : (kF d).Nodup) (h : Str) : (kF (filesP d h)).Nodup := by
  rw [kF_filesP]
  unfold kF List.Nodup at *
  rw [List.pairwise_map] at *
  refine (hd.filter fun q => pfx h q.1).imp_of_mem ?_
  intro a b ha hb hab e
  rw [List.mem_filter] at ha hb
  apply hab
  rw [pfx_iff.mp ha.2, pfx_iff.mp hb.2, e]
theorem small_filesP {d : FS} (hd : Small d) (h : Str) : Small (filesP d h) := by
  refine ⟨nd_filesP hd.nd h, ?_, ?_, ?_⟩
  · unfold filesP
    rw [List.length_map]
    exact Nat.lt_of_le_of_lt (List.filter_sublist ..).length_le hd.few
  · intro q hq
    obtain ⟨z, hz, rfl⟩ := List.mem_map.mp hq
    have := hd.ks z (List.mem_filter.mp hz).1
    show (cutP h z.1).length ≤ 100
    unfold cutP
    rw [len_tl, tl_ofL, List.length_drop, ← len_tl]
    omega
  · intro q hq
    obtain ⟨z, hz, rfl⟩ := List.mem_map.mp hq
    exact hd.vs z (List.mem_filter.mp hz).1
theorem strI_len {n : Nat} (h : n ≤ 1000000) : (strI n).length ≤ 9 := by
  rw [len_tl, tl_strI]
  exact numL_small h
theorem gF_mem2 {f : FS} {p t : Str} (h : gF f p = some t) : (p, t) ∈ f := by
  unfold gF at h
  obtain ⟨q, h1, h2⟩ := Option.map_eq_some_iff.mp h
  have h3 := List.find?_some h1
  have h3 : q.1 = p := of_decide_eq_true h3
  have h4 := List.mem_of_find?_eq_some h1
  obtain ⟨a, b⟩ := q
  cases h2
  cases h3
  exact h4
theorem gF_none {f : FS} {p : Str} : gF f p = none ↔ p ∉ kF f := by
  constructor
  · intro h hp
    obtain ⟨t, e⟩ := gF_mem hp
    rw [h] at e
    cases e
  · intro h
    cases e : gF f p with
    | none => rfl
    | some t => exact absurd (List.mem_map.mpr ⟨_, gF_mem2 e, rfl⟩) h
theorem vF_len {f : FS} (h : Small f) (p : Str) : (vF f p).length ≤ 100 := by
  unfold vF
  cases e : gF f p with
  | none => exact (by decide : (Str.ofString "").length ≤ 100)
  | some t => exact h.vs _ (gF_mem2 e)
theorem sum_le {l : List Nat} {b : Nat} (h : ∀ x ∈ l, x ≤ b) : l.sum ≤ l.length * b := by
  induction l with
  | nil => simp
  | cons a l ih =>
    rw [List.sum_cons, List.length_cons, Nat.succ_mul]
    have := h a List.mem_cons_self
    have := ih fun x hx => h x (List.mem_cons_of_mem _ hx)
    omega
theorem img_small {f : FS} (h : Small f) : (img f).length ≤ 20000 := by
  have e : (img f).length = _ := imgGo_len f (sortS (kF f)) (headI f)
  have fw := h.few
  have kl := kF_len f
  have h1 : (headI f).length ≤ 16 := by
    unfold headI
    simp only [app_len]
    have a := strI_len (n := f.length) (by omega)
    have b1 : (Str.ofString "image ").length = 6 := by decide
    have b2 : (Str.ofString "\n").length = 1 := by decide
    omega
  have h2 : ((sortS (kF f)).map fun p => (partI f p).length).sum ≤ 64 * 300 := by
    refine Nat.le_trans (sum_le (b := 300) fun x hx => ?_) ?_
    · obtain ⟨p, hp, rfl⟩ := List.mem_map.mp hx
      have a1 := h.klen (mem_sortS.mp hp)
      have a2 := vF_len h p
      have a3 := strI_len (n := (vF f p).length) (by omega)
      have b1 : (Str.ofString " ").length = 1 := by decide
      have b2 : (Str.ofString "\n").length = 1 := by decide
      unfold partI
      simp only [app_len]
      omega
    · rw [List.length_map, len_sortS, kl]
      exact Nat.mul_le_mul_right _ (by omega)
  omega
/-! names -/
def gN (n : Nat) : Str := ("g" : Str) ++ strI n
def bN (n : Nat) : Str := gN n ++ ("/" : Str)
def dN (n : Nat) : Str := bN n ++ ("done" : Str)
def hN (n : Nat) : Str := bN n ++ ("f/" : Str)
theorem strI_10 {n : Nat} (h : n ≤ 2000000000) : (strI n).length ≤ 10 := by
  rw [len_tl, tl_strI]
  exact TL.numL_len (by decide) (Nat.lt_of_le_of_lt h (by decide))
theorem gN_len {n : Nat} (h : n ≤ 2000000000) : (gN n).length ≤ 11 := by
  unfold gN
  rw [app_len]
  have := strI_10 h
  have b1 : Str.length "g" = 1 := by decide
  omega
theorem bN_len {n : Nat} (h : n ≤ 2000000000) : (bN n).length ≤ 12 := by
  unfold bN
  rw [app_len]
  have := gN_len h
  have b1 : Str.length "/" = 1 := by decide
  omega
theorem dN_len {n : Nat} (h : n ≤ 2000000000) : (dN n).length ≤ 16 := by
  unfold dN
  rw [app_len]
  have := bN_len h
  have b1 : Str.length "done" = 4 := by decide
  omega
theorem hN_len {n : Nat} (h : n ≤ 2000000000) : (hN n).length ≤ 14 := by
  unfold hN
  rw [app_len]
  have := bN_len h
  have b1 : Str.length "f/" = 2 := by decide
  omega
def fo (d : FS) (n : Nat) : Option FS := match gF d (dN n) with
  | none => none
  | some t => if dig (img (filesP d (hN n))) = t then some (filesP d (hN n)) else none
def oF : Option FS → D
  | none => .non
  | some f => .dK (eF f)
theorem strO_big {M : List MO} {n : Nat} (h : n ≤ 2000000000) : strO M [.fz (.int (n : Int))] = some (.fz (.str (strI n))) := strO_nat (Nat.lt_of_le_of_lt h (by decide))
theorem addS {M : List MO} {x y z : Str} (h : x.length + y.length ≤ 1000000 := by simp only [app_len] <;> omega) (e : x ++ y = z := by rfl) : addO M (.fz (.str x)) (.fz (.str y)) = some (.fz (.str z)) := by
  rw [addO_ss, if_pos (lim_of h), e]
theorem e_gN {s : S} {i n : Nat} (h : nm i s = some (.ok (.fz (.int (n : Int))), s)) (hn : n ≤ 2000000000) : op2 addO (ck (.str "g")) (opN strO (aC (nm i) aN)) s = some (.ok (.fz (.str (gN n))), s) := by
  refine e_op2 ev_ck (e_opN (e_a1 h) (strO_big hn)) (addS ?_)
  have := strI_10 hn
  have b1 : Str.length "g" = 1 := by decide
  omega
theorem e_addc {s : S} {f : Mo W} {x z c : Str} (h : f s = some (.ok (.fz (.str x)), s)) (hx : x.length ≤ 1000) (hc : c.length ≤ 1000) (e : x ++ c = z) : op2 addO f (ck (.str c)) s = some (.ok (.fz (.str z)), s) :=
  e_op2 h ev_ck (addS (by omega) e)
theorem e_bN {s : S} {i n : Nat} (h : nm i s = some (.ok (.fz (.int (n : Int))), s)) (hn : n ≤ 2000000000) : op2 addO (op2 addO (ck (.str "g")) (opN strO (aC (nm i) aN))) (ck (.str "/")) s = some (.ok (.fz (.str (bN n))), s) :=
  e_addc (e_gN h hn) (by have := gN_len hn; omega) (by decide) rfl
theorem eq_opt {M : List MO} {a b : Str} : (a == b) = decide (a = b) := by
  by_cases h : a = b
  · subst h; simp
  · rw [decide_eq_false h]; exact beq_eq_false_iff_ne.mpr h
theorem s_files_of (d : FS) (n : Nat) (M : List MO) (h : Small d) (hn : n ≤ 2000000000) : fs_files_of [.fz (.dK (eF d)), .fz (.int (n : Int))] M = some (.ok (.fz (oF (fo d n))), M) := by
  rw [show fs_files_of = fnD 7 fb_files_of from rfl]
  let st := fun (o2 o3 o4 : Option W) => (⟨[some (.fz (.dK (eF d))), some (.fz (.int (n : Int))), o2, o3, o4, none, none], M⟩ : S)
  let b : W := .fz (.str (bN n))
  let hh : W := .fz (.str (hN n))
  let ff : W := .fz (.dK (eF (filesP d (hN n))))
  have lb := bN_len hn
  have lh := hN_len hn
  have sf := small_filesP h (hN n)
  have k1 : asgS (op2 addO (op2 addO (ck (.str "g")) (opN strO (aC (nm 1) aN))) (ck (.str "/"))) (gNm 2) (st none none none) = some (.ok .nx, st (some b) none none) := e_asg (e_bN (ev_nm rfl) hn)
  have dn : ∀ o3 o4, op2 addO (nm 2) (ck (.str "done")) (st (some b) o3 o4) = some (.ok (.fz (.str (dN n))), st (some b) o3 o4) := fun o3 o4 => e_addc (ev_nm rfl) (by omega) (by decide) rfl
  have c1 : tst (op2 ninO (op2 addO (nm 2) (ck (.str "done"))) (nm 0)) (st (some b) none none) = some (.ok (!(gF d (dN n)).isSome), st (some b) none none) := e_tst (e_op2 (dn _ _) (ev_nm rfl) ninO_eF)
  cases hg : gF d (dN n) with
  | none =>
    refine fin_ok (s := st (some b) none none) ?_ rfl
    unfold fb_files_of
    show seqS _ _ (st none none none) = _
    rw [ev_seq k1]
    rw [hg] at c1
    unfold seqS
    rw [e_if c1]
    have : fo d n = none := by unfold fo; rw [hg]
    rw [this]
    rfl
  | some t =>
    have k3 : asgS (op2 addO (nm 2) (ck (.str "f/"))) (gNm 3) (st (some b) none none) = some (.ok .nx, st (some b) (some hh) none) := e_asg (e_addc (ev_nm rfl) (by omega) (by decide) rfl)
    have k4 : asgS (frz (dcM (items (nm 0)) [5, 6] (gTp 2 (gCn (gNm 5) (gCn (gNm 6) gNl))) (tru (sm1 startsO (nm 5) (nm 3))) (slO (nm 5) (poS (opN lenO (aC (nm 3) aN))) poN) (nm 6))) (gNm 4) (st (some b) (some hh) none) = some (.ok .nx, st (some b) (some hh) (some ff)) := by
      have := e_dcF (f := items (nm 0)) (vs := [5, 6]) (g := gTp 2 (gCn (gNm 5) (gCn (gNm 6) gNl))) (t := tru (sm1 startsO (nm 5) (nm 3))) (k := slO (nm 5) (poS (opN lenO (aC (nm 3) aN))) poN) (e := nm 6) (s := st (some b) (some hh) none) (l := d) (em := fun q => .fz (.tup [.str q.1, .str q.2])) (tt := fun q => pfx (hN n) q.1) (kk := fun q => .inr (cutP (hN n) q.1)) (ff := fun q => .str q.2)
        (items_eF (ev_nm rfl)) (lim_of (m := 64) (by have := h.few; omega)) (fun q hq => by
          have lq := h.ks q hq
          refine ⟨⟨[some (.fz (.dK (eF d))), some (.fz (.int (n : Int))), some b, some hh, none, some (.fz (.str q.1)), some (.fz (.str q.2))], M⟩, rfl, e_tru (e_sm1 (ev_nm rfl) (ev_nm rfl) (show some (W.fz (.bl (Txt.startswith q.1 (hN n)))) = _ by rw [starts_pfx])), rfl, fun _ => ⟨.fz (.str (cutP (hN n) q.1)), e_slFrom (ev_nm rfl) (e_opN (e_a1 (ev_nm rfl)) (by rw [lenO_str, if_pos (lim_of (m := 14) lh)])) (by rw [cutO_s, if_pos (lim_of (m := 100) lq), cutD_from', len_tl]; rfl), rfl, ev_nm rfl⟩⟩)
        (by
          have := nd_inr (nd_filesP h.nd (hN n))
          rw [kF_filesP, List.map_map] at this
          exact this)
      have e2 : ((d.filter fun q => pfx (hN n) q.1).map fun q => ((.inr (cutP (hN n) q.1) : Key), D.str q.2)) = eF (filesP d (hN n)) := by
        unfold eF filesP
        rw [List.map_map]
        rfl
      rw [e2] at this
      exact e_asg this
    have li := img_small sf
    have c5 : tst (op2 eqO (callF 1 fs_digest (aC (callF 1 fs_write_image (aC (nm 4) aN)) aN)) (op2 atO (nm 0) (op2 addO (nm 2) (ck (.str "done"))))) (st (some b) (some hh) (some ff)) = some (.ok (decide (dig (img (filesP d (hN n))) = t)), st (some b) (some hh) (some ff)) := by
      have kl := kF_len (filesP d (hN n))
      have fw := sf.few
      refine e_tst (e_op2 (e_call (e_a1 (e_call (e_a1 (ev_nm rfl)) rfl (s_write_image (filesP d (hN n)) _ isD_fz (by omega) (lim_of (m := 20000) li)))) rfl (s_digest _ _ (lim_of (m := 20000) li))) (e_op2 (ev_nm rfl) (dn _ _) (show atO M (.fz (.dK (eF d))) (.fz (.str (dN n))) = some (.fz (.str t)) by rw [atO_dS, dget_eF, hg]; rfl)) ?_)
      rw [eqO_ss, eq_opt (M := M)]
    refine fin_ok (s := st (some b) (some hh) (some ff)) ?_ rfl
    unfold fb_files_of
    show seqS _ _ (st none none none) = _
    rw [hg] at c1
    have k2 : ifS (tst (op2 ninO (op2 addO (nm 2) (ck (.str "done"))) (nm 0))) (retS (ck .non)) nxS (st (some b) none none) = some (.ok .nx, st (some b) none none) := by rw [e_if c1]; rfl
    rw [ev_seq k1, ev_seq k2, ev_seq k3, ev_seq k4]
    refine e_ret ?_
    rw [e_iffE c5]
    have : fo d n = if dig (img (filesP d (hN n))) = t then some (filesP d (hN n)) else none := by unfold fo; rw [hg]
    rw [this]
    by_cases hd : dig (img (filesP d (hN n))) = t
    · rw [decide_eq_true hd, if_pos hd]
      rfl
    · rw [decide_eq_false hd, if_neg hd]
      rfl
end PD

noncomputable section
namespace PD
open PySem L2 PyProof.Rows
theorem tl_slash_f : tl ("/f/" : Str) = tl ("/" : Str) ++ tl ("f/" : Str) := by decide
theorem tl_slash_d : tl ("/done" : Str) = tl ("/" : Str) ++ tl ("done" : Str) := by decide
theorem gN_f (n : Nat) : gN n ++ ("/f/" : Str) = hN n := tl_inj (by unfold hN bN; simp only [tl_app, tl_slash_f, List.append_assoc])
theorem gN_d (n : Nat) : gN n ++ ("/done" : Str) = dN n := tl_inj (by unfold dN bN; simp only [tl_app, tl_slash_d, List.append_assoc])
theorem ofL_take_eq {h p : Str} : ((ofL ((tl p).take (tl h).length)) == h) = pfx h p := by
  rw [beq_tl, tl_ofL]
  rfl
theorem tup2 {M : List MO} {x y : D} : tupO M [.fz x, .fz y] = some (.fz (.tup [x, y])) := by
  unfold tupO
  rw [if_pos (show [W.fz x, W.fz y].length ≤ LIM from (by decide : (2 : Nat) ≤ LIM))]
  rfl
theorem eqO_sn {M : List MO} {a : Str} : isNotO M (.fz .non) (.fz .non) = some (.fz (.bl false)) := rfl
theorem s_law_files_of (d : FS) (n : Nat) (M : List MO) (h : Small d) (hn : n ≤ 2000000000) : fs__law_files_of [.fz (.dK (eF d)), .fz (.int (n : Int))] M = some (.ok (.fz (oF (fo d n))), M) := by
  rw [show fs__law_files_of = fnD 6 fb__law_files_of from rfl]
  let st := fun (o2 o3 o4 : Option W) => (⟨[some (.fz (.dK (eF d))), some (.fz (.int (n : Int))), o2, o3, o4, none], M⟩ : S)
  let hh : W := .fz (.str (hN n))
  let ff : W := .fz (.dK (eF (filesP d (hN n))))
  let dd : W := match gF d (dN n) with | some t => .fz (.str t) | none => .fz .non
  have lb := gN_len hn
  have lh := hN_len hn
  have sf := small_filesP h (hN n)
  have k1 : asgS (op2 addO (op2 addO (ck (.str "g")) (opN strO (aC (nm 1) aN))) (ck (.str "/f/"))) (gNm 2) (st none none none) = some (.ok .nx, st (some hh) none none) := e_asg (e_addc (e_gN (ev_nm rfl) hn) (by omega) (by decide) (gN_f n))
  have k2 : asgS (frz (opO dictO (aC (frz (lcM (walk (nm 0)) [5] (gNm 5) (tst (op2 eqO (slO (nm 5) poN (poS (opN lenO (aC (nm 2) aN)))) (nm 2))) (opN tupO (aC (slO (nm 5) (poS (opN lenO (aC (nm 2) aN))) poN) (aC (op2 atO (nm 0) (nm 5)) aN))))) aN))) (gNm 3) (st (some hh) none none) = some (.ok .nx, st (some hh) (some ff) none) := by
    have := e_lcF (f := walk (nm 0)) (vs := [5]) (g := gNm 5) (t := tst (op2 eqO (slO (nm 5) poN (poS (opN lenO (aC (nm 2) aN)))) (nm 2))) (e := opN tupO (aC (slO (nm 5) (poS (opN lenO (aC (nm 2) aN))) poN) (aC (op2 atO (nm 0) (nm 5)) aN))) (s := st (some hh) none none) (l := d) (em := fun q => .fz (.str q.1)) (tt := fun q => pfx (hN n) q.1) (ff := fun q => .tup [.str (cutP (hN n) q.1), .str q.2])
      (e_walk (ev_nm rfl) (by rw [walkV_eF]; unfold kF; rw [List.map_map]; rfl)) (lim_of (m := 64) (by have := h.few; omega)) (fun q hq => by
        have lq := h.ks q hq
        refine ⟨⟨[some (.fz (.dK (eF d))), some (.fz (.int (n : Int))), some hh, none, none, some (.fz (.str q.1))], M⟩, rfl, e_tst (e_op2 (e_slTo (ev_nm rfl) (e_opN (e_a1 (ev_nm rfl)) (by rw [lenO_str, if_pos (lim_of (m := 14) lh)])) (by rw [cutO_s, if_pos (lim_of (m := 100) lq), cutD_to, len_tl])) (ev_nm rfl) (by rw [eqO_ss, ofL_take_eq])), rfl, fun _ => e_opN (e_a2 (e_slFrom (ev_nm rfl) (e_opN (e_a1 (ev_nm rfl)) (by rw [lenO_str, if_pos (lim_of (m := 14) lh)])) (by rw [cutO_s, if_pos (lim_of (m := 100) lq), cutD_from', len_tl]; rfl)) (e_op2 (ev_nm rfl) (ev_nm rfl) (z := .fz (.str q.2)) (by rw [atO_dS, dget_eF, gF_of h.nd hq]; rfl))) tup2⟩)
    have e2 : ((d.filter fun q => pfx (hN n) q.1).map fun q => D.tup [.str (cutP (hN n) q.1), .str q.2]) = (filesP d (hN n)).map fun q => .tup [.str q.1, .str q.2] := by
      unfold filesP
      rw [List.map_map]
      rfl
    rw [e2] at this
    exact e_asg (e_frz (e_opO (e_a1 this) (dictO_prs (nd_filesP h.nd (hN n)))) rfl)
  have k3 : asgS (get2 (nm 0) (op2 addO (op2 addO (ck (.str "g")) (opN strO (aC (nm 1) aN))) (ck (.str "/done"))) (ck .non)) (gNm 4) (st (some hh) (some ff) none) = some (.ok .nx, st (some hh) (some ff) (some dd)) :=
    e_asg (e_get2 (ev_nm rfl) isDc_dK (e_addc (e_gN (ev_nm rfl) hn) (by omega) (by decide) (gN_d n)) ev_ck getO_eF)
  have li := img_small sf
  have kl := kF_len (filesP d (hN n))
  have fw := sf.few
  have ci : op2 eqO (callF 1 fs__law_digest (aC (callF 1 fs__law_image (aC (nm 3) aN)) aN)) (nm 4) (st (some hh) (some ff) (some dd)) = op2 eqO (ck (.str (dig (img (filesP d (hN n)))))) (nm 4) (st (some hh) (some ff) (some dd)) := by
    have c : callF 1 fs__law_digest (aC (callF 1 fs__law_image (aC (nm 3) aN)) aN) (st (some hh) (some ff) (some dd)) = some (.ok (.fz (.str (dig (img (filesP d (hN n)))))), st (some hh) (some ff) (some dd)) := (e_call (e_a1 (e_call (e_a1 (ev_nm rfl)) rfl (s_law_image (filesP d (hN n)) _ (by omega) (lim_of (m := 20000) li)))) rfl (s_law_digest _ _ (lim_of (m := 20000) li)))
    unfold op2
    rw [ev_bnd c, ev_bnd ev_ck]
  refine fin_ok (s := st (some hh) (some ff) (some dd)) ?_ rfl
  unfold fb__law_files_of
  show seqS _ _ (st none none none) = _
  rw [ev_seq k1, ev_seq k2, ev_seq k3]
  refine e_ret ?_
  cases hg : gF d (dN n) with
  | none =>
    have edd : dd = .fz .non := by show (match gF d (dN n) with | some t => W.fz (.str t) | none => .fz .non) = _; rw [hg]
    have c1 : andT (tst (op2 isNotO (nm 4) (ck .non))) (tst (op2 eqO (callF 1 fs__law_digest (aC (callF 1 fs__law_image (aC (nm 3) aN)) aN)) (nm 4))) (st (some hh) (some ff) (some dd)) = some (.ok (false && false), st (some hh) (some ff) (some dd)) :=
      e_and (e_tst (e_op2 (ev_nm rfl) ev_ck (by rw [edd]; rfl))) (fun e => by cases e)
    rw [e_iffE c1]
    have : fo d n = none := by unfold fo; rw [hg]
    rw [this]
    rfl
  | some t =>
    have edd : dd = .fz (.str t) := by show (match gF d (dN n) with | some t => W.fz (.str t) | none => .fz .non) = _; rw [hg]
    have c1 : andT (tst (op2 isNotO (nm 4) (ck .non))) (tst (op2 eqO (callF 1 fs__law_digest (aC (callF 1 fs__law_image (aC (nm 3) aN)) aN)) (nm 4))) (st (some hh) (some ff) (some dd)) = some (.ok (true && decide (dig (img (filesP d (hN n))) = t)), st (some hh) (some ff) (some dd)) :=
      e_and (e_tst (e_op2 (ev_nm rfl) ev_ck (by rw [edd]; rfl))) (fun _ => e_tst (ci.trans (e_op2 ev_ck (ev_nm rfl) (by rw [edd, eqO_ss, eq_opt (M := M)]))))
    rw [e_iffE c1]
    have : fo d n = if dig (img (filesP d (hN n))) = t then some (filesP d (hN n)) else none := by unfold fo; rw [hg]
    rw [this]
    by_cases hd : dig (img (filesP d (hN n))) = t
    · rw [decide_eq_true hd, if_pos hd]
      rfl
    · rw [decide_eq_false hd, if_neg hd]
      rfl
/-! ### which are whole -/
theorem fold_lt : ∀ (l : List Nat) (a : Nat), (∀ c ∈ l, c ≤ 57) → l.foldl (fun acc c => acc * 10 + (c - 48)) a < (a + 1) * 10 ^ l.length
  | [], a, _ => by simp
  | c :: l, a, h => by
    rw [List.foldl_cons]
    have h1 := fold_lt l (a * 10 + (c - 48)) fun x hx => h x (List.mem_cons_of_mem _ hx)
    have h2 := h c List.mem_cons_self
    refine Nat.lt_of_lt_of_le h1 ?_
    rw [List.length_cons, Nat.pow_succ, Nat.mul_comm (10 ^ l.length) 10, ← Nat.mul_assoc]
    exact Nat.mul_le_mul_right _ (by omega)
theorem digitsVal_lt {l : List Nat} (h : l.length ≤ 9) (hd : l.all isd = true) : NumText.digitsVal l < 1000000000 := by
  have h1 := fold_lt l 0 fun c hc => (of_decide_eq_true (List.all_eq_true.mp hd c hc) : 48 ≤ c ∧ c ≤ 57).2
  have h2 : 10 ^ l.length ≤ 10 ^ 9 := Nat.pow_le_pow_right (by decide) h
  show l.foldl _ 0 < _
  have h3 : (10 : Nat) ^ 9 = 1000000000 := by decide
  omega
theorem genW_lt (w : Str) : genW w < 1000000000 := by
  unfold genW
  split
  · decide
  · rename_i h
    split
    · have h3 : (tl w).all isd = true := by
        cases hh : (tl w).all isd with
        | true => rfl
        | false => exact absurd (.inr (.inr hh)) h
      have h4 : ¬ 9 < w.length := fun e => h (.inr (.inl e))
      have := digitsVal_lt (l := tl w) (by rw [← len_tl]; omega) h3
      omega
    · decide
theorem genH_lt (w : Str) : genH w < 1000000000 := by
  unfold genH
  split
  · exact genW_lt _
  · decide
theorem mem_NS {d : FS} {n : Int} : n ∈ NS d ↔ 0 ≤ n ∧ ∃ p ∈ kF d, gnum p = n := by
  unfold NS
  rw [mem_uniqI, List.mem_filter, List.mem_map, decide_eq_true_iff]
  exact ⟨fun ⟨⟨p, h1, h2⟩, h3⟩ => ⟨h3, p, h1, h2⟩, fun ⟨h3, p, h1, h2⟩ => ⟨⟨p, h1, h2⟩, h3⟩⟩
theorem NS_nat {d : FS} {n : Int} (h : n ∈ NS d) : ∃ k : Nat, n = (k : Int) ∧ k < 1000000000 := by
  obtain ⟨h0, p, _, e⟩ := mem_NS.mp h
  have := genH_lt (headP p)
  have e : genH (headP p) = n := e
  exact ⟨n.toNat, by omega, by omega⟩
theorem pw_NS (d : FS) : (NS d).Pairwise (· < ·) := pw_uniqI
theorem len_insU (x : Int) : ∀ l : List Int, (insU x l).length ≤ l.length + 1
  | [] => by simp [insU]
  | y :: r => by
    unfold insU
    split
    · simp
    · split
      · simp
      · have := len_insU x r
        simp
        omega
theorem len_uniqI : ∀ l : List Int, (uniqI l).length ≤ l.length
  | [] => by simp [uniqI]
  | x :: r => by
    have h1 := len_insU x (uniqI r)
    have h2 := len_uniqI r
    show (insU x (uniqI r)).length ≤ _
    rw [List.length_cons]
    omega
theorem len_NS {d : FS} (h : Small d) : (NS d).length < 64 := by
  unfold NS
  refine Nat.lt_of_le_of_lt (len_uniqI _) ?_
  refine Nat.lt_of_le_of_lt (List.filter_sublist ..).length_le ?_
  rw [List.length_map, kF_len]
  exact h.few
def wholeF (d : FS) : List Int := (NS d).filter fun n => (fo d n.toNat).isSome
theorem isNotO_oF {M : List MO} {f : Option FS} : isNotO M (.fz (oF f)) (.fz .non) = some (.fz (.bl f.isSome)) := by cases f <;> rfl
theorem isO_oF {M : List MO} {f : Option FS} : isO M (.fz (oF f)) (.fz .non) = some (.fz (.bl (!f.isSome))) := by cases f <;> rfl
theorem s_whole_numbers (d : FS) (M : List MO) (h : Small d) : fs_whole_numbers [.fz (.dK (eF d))] M = some (.ok (.fz (.lst ((wholeF d).map .int))), M) := by
  rw [show fs_whole_numbers = fnD 2 fb_whole_numbers from rfl]
  let st : S := ⟨[some (.fz (.dK (eF d))), none], M⟩
  refine fin_ok (s := st) ?_ rfl
  unfold fb_whole_numbers
  show retS _ st = _
  refine e_ret (e_lcF (l := NS d) (em := fun n => .fz (.int n)) (tt := fun n => (fo d n.toNat).isSome) (ff := .int) (e_walk (e_call (e_a1 (ev_nm rfl)) rfl (s_numbers d M h)) (by rw [walkV_lst, List.map_map]; rfl)) (lim_of (m := 64) (by have := len_NS h; omega)) fun n hn => ?_)
  obtain ⟨k, rfl, hk⟩ := NS_nat hn
  exact ⟨⟨[some (.fz (.dK (eF d))), some (.fz (.int k))], M⟩, rfl, e_tst (e_op2 (e_call (e_a2 (ev_nm rfl) (ev_nm rfl)) rfl (s_files_of d k M h (by omega))) ev_ck isNotO_oF), rfl, fun _ => ev_nm rfl⟩
theorem s_law_whole (d : FS) (M : List MO) (h : Small d) : fs__law_whole [.fz (.dK (eF d))] M = some (.ok (.fz (.lst ((wholeF d).map .int))), M) := by
  rw [show fs__law_whole = fnD 2 fb__law_whole from rfl]
  let st : S := ⟨[some (.fz (.dK (eF d))), none], M⟩
  refine fin_ok (s := st) ?_ rfl
  unfold fb__law_whole
  show retS _ st = _
  refine e_ret (e_lcF (l := NS d) (em := fun n => .fz (.int n)) (tt := fun n => (fo d n.toNat).isSome) (ff := .int) (e_walk (e_call (e_a1 (ev_nm rfl)) rfl (s_law_numbers d M h)) (by rw [walkV_lst, List.map_map]; rfl)) (lim_of (m := 64) (by have := len_NS h; omega)) fun n hn => ?_)
  obtain ⟨k, rfl, hk⟩ := NS_nat hn
  exact ⟨⟨[some (.fz (.dK (eF d))), some (.fz (.int k))], M⟩, rfl, e_tst (e_op2 (e_call (e_a2 (ev_nm rfl) (ev_nm rfl)) rfl (s_law_files_of d k M h (by omega))) ev_ck isNotO_oF), rfl, fun _ => ev_nm rfl⟩
/-! ### what is current -/
structure Cur (d : FS) (n : Nat) (f : FS) : Prop where
  nn : genW (vF d ("current" : Str)) = (n : Int)
  f : fo d n = some f
theorem Cur.lt {d : FS} {n : Nat} {f : FS} (h : Cur d n f) : n < 1000000000 := by
  have := genW_lt (vF d ("current" : Str))
  rw [h.nn] at this
  omega
theorem fo_small {d : FS} (h : Small d) {n : Nat} {f : FS} (e : fo d n = some f) : Small f := by
  unfold fo at e
  split at e
  · cases e
  · split at e
    · cases e; exact small_filesP h _
    · cases e
theorem e_cur {d : FS} {s : S} (h : nm 0 s = some (.ok (.fz (.dK (eF d))), s)) : get2 (nm 0) (ck (.str "current")) (ck (.str "")) s = some (.ok (.fz (.str (vF d ("current" : Str)))), s) := by
  refine e_get2 h isDc_dK ev_ck ev_ck ?_
  rw [getO_eF]
  unfold vF
  cases gF d ("current" : Str) <;> rfl
theorem tupD {M : List MO} {x y : D} : tupO M [.fz x, .fz y] = some (.fz (.tup [x, y])) := tup2
theorem s_current (d : FS) (M : List MO) (h : Small d) {n : Nat} {f : FS} (c : Cur d n f) : fs_current [.fz (.dK (eF d))] M = some (.ok (.fz (.tup [.int n, .str (img f)])), M) := by
  rw [show fs_current = fnD 3 fb_current from rfl]
  let st := fun (o1 o2 : Option W) => (⟨[some (.fz (.dK (eF d))), o1, o2], M⟩ : S)
  have lt := c.lt
  have sf := fo_small h c.f
  have lv : (vF d ("current" : Str)).length ≤ LIM := lim_of (m := 100) (vF_len h _)
  have k1 : asgS (callF 1 fs_number_in (aC (get2 (nm 0) (ck (.str "current")) (ck (.str ""))) aN)) (gNm 1) (st none none) = some (.ok .nx, st (some (.fz (.int n))) none) := e_asg (e_call (e_a1 (e_cur (ev_nm rfl))) rfl (by rw [s_number_in _ _ lv, c.nn]))
  have k2 : ifS (tst (op2 ltO (nm 1) (ck (.int 0)))) nvS nxS (st (some (.fz (.int n))) none) = some (.ok .nx, st (some (.fz (.int n))) none) := by
    rw [e_if (e_tst (e_op2 (ev_nm rfl) ev_ck ltO_ii)), decide_eq_false (by omega)]
    rfl
  have k3 : asgS (callF 2 fs_files_of (aC (nm 0) (aC (nm 1) aN))) (gNm 2) (st (some (.fz (.int n))) none) = some (.ok .nx, st (some (.fz (.int n))) (some (.fz (.dK (eF f))))) := e_asg (e_call (e_a2 (ev_nm rfl) (ev_nm rfl)) rfl (by rw [s_files_of d n _ h (by omega), c.f]; rfl))
  have k4 : ifS (tst (op2 isO (nm 2) (ck .non))) nvS nxS (st (some (.fz (.int n))) (some (.fz (.dK (eF f))))) = some (.ok .nx, st (some (.fz (.int n))) (some (.fz (.dK (eF f))))) := by
    rw [e_if (e_tst (e_op2 (ev_nm rfl) ev_ck (show isO M (.fz (.dK (eF f))) (.fz .non) = some (.fz (.bl false)) from rfl)))]
    rfl
  refine fin_ok (s := st (some (.fz (.int n))) (some (.fz (.dK (eF f))))) ?_ rfl
  unfold fb_current
  show seqS _ _ (st none none) = _
  rw [ev_seq k1, ev_seq k2, ev_seq k3, ev_seq k4]
  exact e_ret (e_opN (e_a2 (ev_nm rfl) (e_call (e_a1 (ev_nm rfl)) rfl (s_write_image f M isD_fz (by rw [kF_len]; exact sf.few) (lim_of (m := 20000) (img_small sf))))) tup2)
theorem genH_g (w : Str) : genH (("g" : Str) ++ w) = genW w := by
  unfold genH
  have eg : tl ("g" : Str) = [103] := by decide
  rw [tl_app, eg]
  simp
theorem s_law_current (d : FS) (M : List MO) (h : Small d) {n : Nat} {f : FS} (c : Cur d n f) : fs__law_current [.fz (.dK (eF d))] M = some (.ok (.fz (.tup [.int n, .str (img f)])), M) := by
  rw [show fs__law_current = fnD 2 fb__law_current from rfl]
  let st := fun (o1 : Option W) => (⟨[some (.fz (.dK (eF d))), o1], M⟩ : S)
  have lt := c.lt
  have sf := fo_small h c.f
  have lv := vF_len h ("current" : Str)
  have b1 : Str.length "g" = 1 := by decide
  have k1 : asgS (callF 1 fs__law_generation (aC (op2 addO (ck (.str "g")) (get2 (nm 0) (ck (.str "current")) (ck (.str "")))) aN)) (gNm 1) (st none) = some (.ok .nx, st (some (.fz (.int n)))) := e_asg (e_call (e_a1 (e_op2 ev_ck (e_cur (ev_nm rfl)) (addS (by omega) rfl))) rfl (by rw [s_law_generation _ _ (lim_of (m := 101) (by rw [app_len]; omega)), genH_g, c.nn]))
  have kf : callF 2 fs__law_files_of (aC (nm 0) (aC (nm 1) aN)) (st (some (.fz (.int n)))) = some (.ok (.fz (.dK (eF f))), st (some (.fz (.int n)))) := e_call (e_a2 (ev_nm rfl) (ev_nm rfl)) rfl (by rw [s_law_files_of d n _ h (by omega), c.f]; rfl)
  have k2 : ifS (orT (tst (op2 ltO (nm 1) (ck (.int 0)))) (tst (op2 isO (callF 2 fs__law_files_of (aC (nm 0) (aC (nm 1) aN))) (ck .non)))) (retS (ck .non)) nxS (st (some (.fz (.int n)))) = some (.ok .nx, st (some (.fz (.int n)))) := by
    have c2 := e_or (e_tst (e_op2 (ev_nm (i := 1) (s := st (some (.fz (.int n)))) rfl) (ev_ck (d := .int 0)) ltO_ii)) fun _ => e_tst (e_op2 kf (ev_ck (d := .non)) (show isO M (.fz (.dK (eF f))) (.fz .non) = some (.fz (.bl false)) from rfl))
    rw [e_if c2, decide_eq_false (by omega)]
    rfl
  refine fin_ok (s := st (some (.fz (.int n)))) ?_ rfl
  unfold fb__law_current
  show seqS _ _ (st none) = _
  rw [ev_seq k1, ev_seq k2]
  exact e_ret (e_opN (e_a2 (ev_nm rfl) (e_call (e_a1 kf) rfl (s_law_image f M (by rw [kF_len]; exact sf.few) (lim_of (m := 20000) (img_small sf))))) tup2)
end PD

noncomputable section
namespace PD
open PySem L2 PyProof.Rows
/-! ### writes -/
abbrev Wr := Str × Option Str
def oS : Option Str → D
  | none => .non
  | some t => .str t
def eW (w : Wr) : D := .tup [.str w.1, oS w.2]
def eWs (ws : List Wr) : D := .lst (ws.map eW)
def topI (d : FS) : Int := (0 :: NS d).getLast (by simp)
theorem topI_mem (d : FS) : topI d = 0 ∨ topI d ∈ NS d := by
  have := List.getLast_mem (l := 0 :: NS d) (by simp)
  exact List.mem_cons.mp this
theorem topI_range (d : FS) : ∃ k : Nat, topI d = (k : Int) ∧ k < 1000000000 := by
  rcases topI_mem d with h | h
  · exact ⟨0, h, by decide⟩
  · exact NS_nat h
def nxt (d : FS) : Nat := (topI d).toNat + 1
theorem nxt_eq (d : FS) : topI d + 1 = ((nxt d : Nat) : Int) := by
  obtain ⟨k, e, _⟩ := topI_range d
  unfold nxt
  omega
theorem nxt_le (d : FS) : nxt d ≤ 1000000000 := by
  obtain ⟨k, e, _⟩ := topI_range d
  unfold nxt
  omega
theorem topI_ge (d : FS) : ∀ x ∈ NS d, x ≤ topI d := by
  intro x hx
  have hne : NS d ≠ [] := List.ne_nil_of_mem hx
  have e : topI d = (NS d).getLast hne := by
    unfold topI
    exact List.getLast_cons hne
  rw [e]
  have pw := pw_NS d
  have hs := List.dropLast_concat_getLast hne
  rw [← hs] at hx pw
  rcases List.mem_append.mp hx with h | h
  · have := (List.pairwise_append.mp pw).2.2 x h ((NS d).getLast hne) (by simp)
    omega
  · simp at h
    omega
theorem topI_max (d : FS) : (0 :: NS d).max? = some (topI d) := by
  rw [List.max?_eq_some_iff]
  refine ⟨?_, ?_⟩
  · exact List.getLast_mem (l := 0 :: NS d) (by simp)
  · intro b hb
    rcases List.mem_cons.mp hb with e | h
    · obtain ⟨k, e2, _⟩ := topI_range d
      omega
    · exact topI_ge d b h
def install (d f : FS) : List Wr := ((sortS (kF f)).map fun p => (hN (nxt d) ++ p, some (vF f p))) ++ [(dN (nxt d), some (dig (img f))), (("current" : Str), some (strI (nxt d)))]
theorem lstO_one {M : List MO} {x : D} : lstO M [.fz x] = some (.fz (.lst [x])) := by
  unfold lstO
  rw [if_pos (show [W.fz x].length ≤ LIM from (by decide : (1 : Nat) ≤ LIM))]
  rfl
theorem lstO_two {M : List MO} {x y : D} : lstO M [.fz x, .fz y] = some (.fz (.lst [x, y])) := by
  unfold lstO
  rw [if_pos (show [W.fz x, W.fz y].length ≤ LIM from (by decide : (2 : Nat) ≤ LIM))]
  rfl
theorem addL_d {M : List MO} {a b c : List D} (h : a.length + b.length ≤ 1000000) (e : a ++ b = c) : addO M (.fz (.lst a)) (.fz (.lst b)) = some (.fz (.lst c)) := by
  rw [addO_ll, if_pos (lim_of h), e]
theorem atO_last {M : List MO} {ds : List D} {d : D} (h : ∀ z, (d0 :: ds).getLast? = some z → z = d) : atO M (.fz (.lst (d0 :: ds))) (.fz (.int (-1))) = some (.fz d) := by
  have hne : (d0 :: ds) ≠ [] := by simp
  have e := L2.atI_last ((d0 :: ds).dropLast) ((d0 :: ds).getLast hne)
  rw [List.dropLast_concat_getLast] at e
  show (L2.atI (d0 :: ds) (-1)).map W.fz = _
  rw [e, h _ (List.getLast?_eq_some_getLast hne)]
  rfl
theorem e_neg {s : S} {i : Int} : negM (ck (.int i)) s = some (.ok (.fz (.int (-i))), s) := rfl
def wrF (d f : FS) : List D := (sortS (kF f)).map fun p => .tup [.str (hN (nxt d) ++ p), .str (vF f p)]
def wrE (d : FS) (t : Str) : List D := [.tup [.str (dN (nxt d)), .str t], .tup [.str "current", .str (strI (nxt d))]]
theorem wr_install (d f : FS) : wrF d f ++ wrE d (dig (img f)) = (install d f).map eW := by
  unfold wrF wrE install
  rw [List.map_append, List.map_map]
  rfl
theorem e_wrF {d f : FS} {s : S} {i j : Nat} {g : W → Mo Unit} {v : Nat} (sf : Small f) (hf : nm i s = some (.ok (.fz (.dK (eF f))), s)) (h : ∀ p, ∃ s1, g (.fz (.str p)) ⟨wipeR s.r [v], s.m⟩ = some (.ok (), s1) ∧ s1.m = s.m ∧ nm v s1 = some (.ok (.fz (.str p)), s1) ∧ nm i s1 = some (.ok (.fz (.dK (eF f))), s1) ∧ nm j s1 = some (.ok (.fz (.str (bN (nxt d)))), s1)) :
    frz (lcM (walk (opN sortedO (aC (nm i) aN))) [v] g (ret true) (opN tupO (aC (op2 addO (op2 addO (nm j) (ck (.str "f/"))) (nm v)) (aC (op2 atO (nm i) (nm v)) aN)))) s = some (.ok (.fz (.lst (wrF d f))), s) := by
  have kl := kF_len f
  have fw := sf.few
  have ln := nxt_le d
  have lb := bN_len (n := nxt d) (by omega)
  have lh := hN_len (n := nxt d) (by omega)
  refine e_lcA (l := sortS (kF f)) (em := fun p => .fz (.str p)) (ff := fun p => .tup [.str (hN (nxt d) ++ p), .str (vF f p)]) (e_walk (e_opN (e_a1 hf) (by rw [sortedO_eF, if_pos (by omega)])) (by rw [walkV_lst, List.map_map]; rfl)) (lim_of (m := 64) (by rw [len_sortS]; omega)) fun p hp => ?_
  obtain ⟨s1, h1, h2, h3, h4, h5⟩ := h p
  have hp := mem_sortS.mp hp
  have lp := sf.klen hp
  have b1 : Str.length "f/" = 2 := by decide
  refine ⟨s1, h1, h2, e_opN (e_a2 (e_op2 (e_addc h5 (by omega) (by omega) (show bN (nxt d) ++ ("f/" : Str) = hN (nxt d) from rfl)) h3 (addS (by omega) rfl)) (e_op2 h4 h3 (z := .fz (.str (vF f p))) (by rw [atO_dS, dget_eF, gF_val hp]; rfl))) tup2⟩
theorem e_wrE {d : FS} {s : S} {i j : Nat} {t : Str} {g : Mo W} (hg : g s = some (.ok (.fz (.str t)), s)) (hj : nm j s = some (.ok (.fz (.str (bN (nxt d)))), s)) (hi : nm i s = some (.ok (.fz (.int (nxt d : Nat))), s)) :
    opN lstO (aC (opN tupO (aC (op2 addO (nm j) (ck (.str "done"))) (aC g aN))) (aC (opN tupO (aC (ck (.str "current")) (aC (opN strO (aC (nm i) aN)) aN))) aN)) s = some (.ok (.fz (.lst (wrE d t))), s) := by
  have ln := nxt_le d
  have lb := bN_len (n := nxt d) (by omega)
  have b1 : Str.length "done" = 4 := by decide
  exact e_opN (e_a2 (e_opN (e_a2 (e_addc hj (by omega) (by omega) (show bN (nxt d) ++ ("done" : Str) = dN (nxt d) from rfl)) hg) tup2) (e_opN (e_a2 ev_ck (e_opN (e_a1 hi) (strO_big (by omega)))) tup2)) lstO_two
theorem s_law_install (d f : FS) (M : List MO) (h : Small d) (sf : Small f) : fs__law_install [.fz (.dK (eF d)), .fz (.dK (eF f))] M = some (.ok (.fz (eWs (install d f))), M) := by
  rw [show fs__law_install = fnD 5 fb__law_install from rfl]
  let st := fun (o2 o3 : Option W) => (⟨[some (.fz (.dK (eF d))), some (.fz (.dK (eF f))), o2, o3, none], M⟩ : S)
  let n : W := .fz (.int (nxt d : Nat))
  let b : W := .fz (.str (bN (nxt d)))
  have ln := nxt_le d
  have sl := len_NS h
  have kl := kF_len f
  have fw := sf.few
  have k1 : asgS (op2 addO (opN maxO (aC (op2 addO (opN lstO (aC (ck (.int 0)) aN)) (callF 1 fs__law_numbers (aC (nm 0) aN))) aN)) (ck (.int 1))) (gNm 2) (st none none) = some (.ok .nx, st (some n) none) := by
    refine e_asg (e_op2 (e_opN (e_a1 (e_op2 (e_opN (e_a1 ev_ck) lstO_one) (e_call (e_a1 (ev_nm rfl)) rfl (s_law_numbers d M h)) (addL_d (c := (0 :: NS d).map .int) (by simp; omega) rfl))) (z := .fz (.int (topI d))) ?_) ev_ck ?_)
    · show (match dInts ((0 :: NS d).map D.int) with
        | some ns => ns.max?.map fun m => W.fz (.int m)
        | none => none) = _
      rw [dInts_int]
      show ((0 :: NS d).max?).map _ = _
      rw [topI_max]
      rfl
    · rw [addO_ii, nxt_eq]
  have k2 : asgS (op2 addO (op2 addO (ck (.str "g")) (opN strO (aC (nm 2) aN))) (ck (.str "/"))) (gNm 3) (st (some n) none) = some (.ok .nx, st (some n) (some b)) := e_asg (e_bN (ev_nm rfl) (by omega))
  refine fin_ok (s := st (some n) (some b)) ?_ rfl
  unfold fb__law_install
  show seqS _ _ (st none none) = _
  rw [ev_seq k1, ev_seq k2]
  have li := img_small sf
  refine e_ret (e_op2 (e_wrF (d := d) (j := 3) sf (ev_nm rfl) fun p => ⟨⟨[some (.fz (.dK (eF d))), some (.fz (.dK (eF f))), some n, some b, some (.fz (.str p))], M⟩, rfl, rfl, ev_nm rfl, ev_nm rfl, ev_nm rfl⟩) (e_wrE (e_call (e_a1 (e_call (e_a1 (ev_nm rfl)) rfl (s_law_image f _ (by omega) (lim_of (m := 20000) li)))) rfl (s_law_digest _ _ (lim_of (m := 20000) li))) (ev_nm rfl) (ev_nm rfl)) (addL_d (c := (install d f).map eW) ?_ (wr_install d f)))
  unfold wrF wrE
  rw [List.length_map, len_sortS]
  simp
  omega
theorem s_install_writes (d f : FS) (M : List MO) (h : Small d) (sf : Small f) (fok : FOK f) (hn : nxt d < 1000000000) : fs_install_writes [.fz (.dK (eF d)), .fz (.str (img f))] M = some (.ok (.fz (eWs (install d f))), M) := by
  rw [show fs_install_writes = fnD 7 fb_install_writes from rfl]
  let st := fun (o2 o3 o4 o5 : Option W) => (⟨[some (.fz (.dK (eF d))), some (.fz (.str (img f))), o2, o3, o4, o5, none], M⟩ : S)
  let n : W := .fz (.int (nxt d : Nat))
  let b : W := .fz (.str (bN (nxt d)))
  let ff : W := .fz (.dK (eF f))
  let fw' : W := .fz (.lst (wrF d f))
  have sl := len_NS h
  have kl := kF_len f
  have fw := sf.few
  have li := img_small sf
  have k0 : asgS (callF 1 fs_read_image (aC (nm 1) aN)) (gNm 2) (st none none none none) = some (.ok .nx, st (some ff) none none none) := e_asg (e_call (e_a1 (ev_nm rfl)) rfl (s_read_image f M fok))
  have k1 : asgS (op2 addO (op2 atO (op2 addO (opN lstO (aC (ck (.int 0)) aN)) (callF 1 fs_numbers (aC (nm 0) aN))) (negM (ck (.int 1)))) (ck (.int 1))) (gNm 3) (st (some ff) none none none) = some (.ok .nx, st (some ff) (some n) none none) := by
    refine e_asg (e_op2 (e_op2 (e_op2 (e_opN (e_a1 ev_ck) lstO_one) (e_call (e_a1 (ev_nm rfl)) rfl (s_numbers d M h)) (addL_d (c := D.int 0 :: (NS d).map .int) (by simp; omega) rfl)) e_neg (atO_last (d := .int (topI d)) ?_)) ev_ck ?_)
    · intro z hz
      have e : D.int 0 :: (NS d).map D.int = (0 :: NS d).map D.int := rfl
      rw [e, List.getLast?_map, List.getLast?_eq_some_getLast (by simp)] at hz
      exact (Option.some.inj hz).symm
    · rw [addO_ii, nxt_eq]
  have ls : (strI (nxt d)).length ≤ 9 := by
    rw [len_tl, tl_strI]
    exact TL.numL_len (by decide) (Nat.lt_of_lt_of_le hn (by decide))
  have k2 : ifS (tst (op2 gtO (opN lenO (aC (opN strO (aC (nm 3) aN)) aN)) (ck (.int 9)))) nvS nxS (st (some ff) (some n) none none) = some (.ok .nx, st (some ff) (some n) none none) := by
    rw [e_if (e_tst (e_op2 (e_opN (e_a1 (e_opN (e_a1 (ev_nm rfl)) (strO_big (by omega)))) (by rw [lenO_str, if_pos (lim_of (m := 9) ls)])) ev_ck gtO_ii)), decide_eq_false (by omega)]
    rfl
  have k3 : asgS (op2 addO (op2 addO (ck (.str "g")) (opN strO (aC (nm 3) aN))) (ck (.str "/"))) (gNm 4) (st (some ff) (some n) none none) = some (.ok .nx, st (some ff) (some n) (some b) none) := e_asg (e_bN (ev_nm rfl) (by omega))
  have k4 : asgS (frz (lcM (walk (opN sortedO (aC (nm 2) aN))) [6] (gNm 6) (ret true) (opN tupO (aC (op2 addO (op2 addO (nm 4) (ck (.str "f/"))) (nm 6)) (aC (op2 atO (nm 2) (nm 6)) aN))))) (gNm 5) (st (some ff) (some n) (some b) none) = some (.ok .nx, st (some ff) (some n) (some b) (some fw')) :=
    e_asg (e_wrF (d := d) (j := 4) sf (ev_nm rfl) fun p => ⟨⟨[some (.fz (.dK (eF d))), some (.fz (.str (img f))), some ff, some n, some b, none, some (.fz (.str p))], M⟩, rfl, rfl, ev_nm rfl, ev_nm rfl, ev_nm rfl⟩)
  refine fin_ok (s := st (some ff) (some n) (some b) (some fw')) ?_ rfl
  unfold fb_install_writes
  show seqS _ _ (st none none none none) = _
  rw [ev_seq k0, ev_seq k1, ev_seq k2, ev_seq k3, ev_seq k4]
  refine e_ret (e_op2 (ev_nm rfl) (e_wrE (e_call (e_a1 (ev_nm rfl)) rfl (s_digest _ _ (lim_of (m := 20000) li))) (ev_nm rfl) (ev_nm rfl)) (addL_d (c := (install d f).map eW) ?_ (wr_install d f)))
  unfold wrF wrE
  rw [List.length_map, len_sortS]
  simp
  omega
/-! ### back -/
def backW (n : Nat) : List Wr := [(("current" : Str), some (strI n))]
theorem e_back {s : S} {i n : Nat} (h : nm i s = some (.ok (.fz (.int (n : Int))), s)) (hn : n ≤ 2000000000) : opN lstO (aC (opN tupO (aC (ck (.str "current")) (aC (opN strO (aC (nm i) aN)) aN))) aN) s = some (.ok (.fz (eWs (backW n))), s) :=
  e_opN (e_a1 (e_opN (e_a2 ev_ck (e_opN (e_a1 h) (strO_big hn))) tup2)) lstO_one
theorem s_back_writes (d : FS) (n : Nat) (M : List MO) (h : Small d) (hn : n ≤ 2000000000) {f : FS} (hf : fo d n = some f) : fs_back_writes [.fz (.dK (eF d)), .fz (.int (n : Int))] M = some (.ok (.fz (eWs (backW n))), M) := by
  rw [show fs_back_writes = fnD 2 fb_back_writes from rfl]
  let st : S := ⟨[some (.fz (.dK (eF d))), some (.fz (.int (n : Int)))], M⟩
  refine fin_ok (s := st) ?_ rfl
  unfold fb_back_writes
  show seqS _ _ st = _
  have k1 : ifS (tst (op2 isO (callF 2 fs_files_of (aC (nm 0) (aC (nm 1) aN))) (ck .non))) nvS nxS st = some (.ok .nx, st) := by
    have c : tst (op2 isO (callF 2 fs_files_of (aC (nm 0) (aC (nm 1) aN))) (ck .non)) st = some (.ok (!(fo d n).isSome), st) := e_tst (e_op2 (e_call (e_a2 (ev_nm rfl) (ev_nm rfl)) rfl (s_files_of d n M h hn)) ev_ck isO_oF)
    rw [e_if c, hf]
    rfl
  rw [ev_seq k1]
  exact e_ret (e_back (ev_nm rfl) hn)
end PD

noncomputable section
namespace PD
open PySem L2 PyProof.Rows
theorem e_bm {chk : List MO → W → Bool} {o : List MO → W → List W → Option (W × List MO)} {f : Mo W} {g : Mo (List W)} {s : S} {x v : W} {ws : List W} {M' : List MO} (hf : f s = some (.ok x, s)) (hc : chk s.m x = true) (hg : g s = some (.ok ws, s)) (ho : o s.m x ws = some (v, M')) : bm chk o f g s = some (.ok v, { s with m := M' }) := by
  unfold bm
  have c : (fun s => ofO (if chk s.m x = true then some () else none) s) s = some (.ok (), s) := by simp [hc]
  rw [ev_bnd hf, ev_bnd (f := fun s => ofO (if chk s.m x = true then some () else none) s) c, ev_bnd hg, ho]
theorem isLs_last {M : List MO} {ds : List D} : isLs (M ++ [.lst ds]) (.ob M.length) = true := by
  unfold isLs asS
  simp only [get_last]
  rfl
theorem app_last {M : List MO} {ds : List D} {d : D} (h : ds.length < 1000000) : appO (M ++ [.lst ds]) (.ob M.length) [.fz d] = some (.fz .non, M ++ [.lst (ds ++ [d])]) := by
  unfold appO
  simp only [get_last, addL]
  rw [if_pos (show ds.length < LIM from Nat.lt_trans h (by decide))]
  simp only [Option.map_some, set_last]
theorem ext_last {M : List MO} {ds es : List D} (h : ds.length + es.length ≤ 1000000) : extO (M ++ [.lst ds]) (.ob M.length) [.fz (.lst es)] = some (.fz .non, M ++ [.lst (ds ++ es)]) := by
  unfold extO
  simp only [get_last, asL]
  rw [if_pos (lim_of h), set_last]
/-! ### paths under a head -/
def under (d : FS) (b : Str) : List Wr := ((sortS (kF d)).filter (pfx b)).map fun p => (p, none)
theorem under_len (d : FS) (b : Str) : (under d b).length ≤ d.length := by
  unfold under
  rw [List.length_map]
  refine Nat.le_trans (List.filter_sublist ..).length_le ?_
  rw [len_sortS, kF_len]
  exact Nat.le_refl _
theorem e_under {d : FS} {s : S} {v : Nat} {g : W → Mo Unit} {t : Mo Bool} {b : Str} (hd : Small d) (hf : nm 0 s = some (.ok (.fz (.dK (eF d))), s)) (h : ∀ p : Str, p.length ≤ 100 → ∃ s1, g (.fz (.str p)) ⟨wipeR s.r [v], s.m⟩ = some (.ok (), s1) ∧ s1.m = s.m ∧ nm v s1 = some (.ok (.fz (.str p)), s1) ∧ t s1 = some (.ok (pfx b p), s1)) :
    frz (lcM (walk (opN sortedO (aC (nm 0) aN))) [v] g t (opN tupO (aC (nm v) (aC (ck .non) aN)))) s = some (.ok (.fz (eWs (under d b))), s) := by
  have kl := kF_len d
  have fw := hd.few
  have := e_lcF (f := walk (opN sortedO (aC (nm 0) aN))) (vs := [v]) (g := g) (t := t) (e := opN tupO (aC (nm v) (aC (ck .non) aN))) (s := s) (l := sortS (kF d)) (em := fun p => .fz (.str p)) (tt := pfx b) (ff := fun p => .tup [.str p, .non]) (e_walk (e_opN (e_a1 hf) (by rw [sortedO_eF, if_pos (by omega)])) (by rw [walkV_lst, List.map_map]; rfl)) (lim_of (m := 64) (by rw [len_sortS]; omega)) fun p hp => by
    obtain ⟨s1, h1, h2, h3, h4⟩ := h p (hd.klen (mem_sortS.mp hp))
    exact ⟨s1, h1, h4, h2, fun _ => e_opN (e_a2 h3 ev_ck) tup2⟩
  rw [this]
  unfold eWs under
  rw [List.map_map]
  rfl
/-! ### recovery -/
def recP (d : FS) (n : Int) : List Wr := if (gF d (dN n.toNat)).isSome then [] else under d (bN n.toNat)
def recF (d : FS) : List Wr := (NS d).flatMap (recP d)
theorem flat_take {α β : Type} {l : List α} {f : α → List β} {i : Nat} {a : α} (h : l[i]? = some a) : (l.take (i + 1)).flatMap f = (l.take i).flatMap f ++ f a := by
  rw [take_snoc h, List.flatMap_append]
  simp
theorem flat_len {α β : Type} {f : α → List β} {b : Nat} : ∀ (l : List α), (∀ a ∈ l, (f a).length ≤ b) → (l.flatMap f).length ≤ l.length * b
  | [], _ => by simp
  | a :: l, h => by
    rw [List.flatMap_cons, List.length_append, List.length_cons, Nat.succ_mul]
    have h1 := h a List.mem_cons_self
    have h2 := flat_len l fun a ha => h a (List.mem_cons_of_mem _ ha)
    omega
theorem recP_len {d : FS} (h : Small d) (n : Int) : (recP d n).length ≤ 64 := by
  unfold recP
  split
  · simp
  · have := under_len d (bN n.toNat)
    have := h.few
    omega
theorem e_neAsg {f : FS} : True := trivial
theorem s_law_recover (d : FS) (M : List MO) (h : Small d) : fs__law_recover [.fz (.dK (eF d))] M = some (.ok (.fz (eWs (recF d))), M) := by
  rw [show fs__law_recover = fnD 5 fb__law_recover from rfl]
  let st := fun (acc : List Wr) (o2 o3 : Option W) => (⟨[some (.fz (.dK (eF d))), some (.fz (eWs acc)), o2, o3, none], M⟩ : S)
  have sl := len_NS h
  obtain ⟨s2, h2, o2, o3, e⟩ := forL_ind (g := gNm 2) (b := (seqS (asgS (op2 addO (op2 addO (ck (.str "g")) (opN strO (aC (nm 2) aN))) (ck (.str "/"))) (gNm 3))
  (ifS (tst (op2 ninO (op2 addO (nm 3) (ck (.str "done"))) (nm 0))) (asgS (op2 addO (nm 1) (frz (lcM (walk (opN sortedO (aC (nm 0) aN))) [4] (gNm 4) (tst (op2 eqO (slO (nm 4) poN (poS (opN lenO (aC (nm 3) aN)))) (nm 3))) (opN tupO (aC (nm 4) (aC (ck .non) aN)))))) (gNm 1)) nxS))) (ok := fun _ => true)
    (fun i s => ∃ o2 o3, s = st (((NS d).take i).flatMap (recP d)) o2 o3) ((NS d).map fun n => .fz (.int n)) 0 (st [] none none)
    (fun i w s hw ⟨o2, o3, hs⟩ => by
      subst hs
      obtain ⟨n, hn, rfl⟩ := getD hw
      have hi : i < (NS d).length := (List.getElem?_eq_some_iff.mp hn).1
      obtain ⟨k, rfl, hk⟩ := NS_nat (List.mem_of_getElem? hn)
      simp only [Nat.zero_add]
      rw [flat_take hn]
      have la : (((NS d).take i).flatMap (recP d)).length ≤ 64 * 64 := by
        refine Nat.le_trans (flat_len (b := 64) _ fun a _ => recP_len h a) (Nat.mul_le_mul_right _ ?_)
        rw [List.length_take]
        omega
      generalize ((NS d).take i).flatMap (recP d) = acc at *
      have lb := bN_len (n := k) (by omega)
      let n : W := .fz (.int (k : Int))
      let b : W := .fz (.str (bN k))
      refine ⟨trivial, st (acc ++ recP d k) (some n) (some b), .inl ?_, _, _, rfl⟩
      rw [ev_bnd (show gNm 2 n (st acc o2 o3) = some (.ok (), st acc (some n) o3) from rfl)]
      have k1 : asgS (op2 addO (op2 addO (ck (.str "g")) (opN strO (aC (nm 2) aN))) (ck (.str "/"))) (gNm 3) (st acc (some n) o3) = some (.ok .nx, st acc (some n) (some b)) := e_asg (e_bN (ev_nm rfl) (by omega))
      rw [ev_seq k1]
      have c1 : tst (op2 ninO (op2 addO (nm 3) (ck (.str "done"))) (nm 0)) (st acc (some n) (some b)) = some (.ok (!(gF d (dN k)).isSome), st acc (some n) (some b)) := e_tst (e_op2 (e_addc (ev_nm rfl) (by omega) (by decide) rfl) (ev_nm rfl) ninO_eF)
      rw [e_if c1]
      have ek : ((k : Int)).toNat = k := by omega
      unfold recP
      rw [ek]
      cases hg : (gF d (dN k)).isSome with
      | true =>
        simp only [Bool.not_true, Bool.false_eq_true, if_false, if_true, List.append_nil]
        rfl
      | false =>
        simp only [Bool.not_false, Bool.false_eq_true, if_false, if_true]
        have lu := under_len d (bN k)
        have fw := h.few
        refine (e_asg (x := .fz (eWs (acc ++ under d (bN k)))) (e_op2 (ev_nm rfl) (e_under (b := bN k) h (ev_nm rfl) fun p hp => ⟨⟨[some (.fz (.dK (eF d))), some (.fz (eWs acc)), some n, some b, some (.fz (.str p))], M⟩, rfl, rfl, ev_nm rfl, e_tst (e_op2 (e_slTo (ev_nm rfl) (e_opN (e_a1 (ev_nm rfl)) (by rw [lenO_str, if_pos (lim_of (m := 12) lb)])) (by rw [cutO_s, if_pos (lim_of (m := 100) hp), cutD_to, len_tl])) (ev_nm rfl) (by rw [eqO_ss, ofL_take_eq]))⟩) (addL_d (by rw [List.length_map, List.length_map]; omega) (by rw [← List.map_append])))).trans ?_
        rfl)
    (fun _ _ => rfl) ⟨none, none, rfl⟩
  rw [show 0 + ((NS d).map fun n => W.fz (.int n)).length = (NS d).length by simp, List.take_length] at e
  refine fin_ok (s := s2) ?_ (by rw [e])
  unfold fb__law_recover
  have k1 : asgS (opN lstO aN) (gNm 1) ⟨start0 5 [.fz (.dK (eF d))], M⟩ = some (.ok .nx, st [] none none) := rfl
  have kw : walk (callF 1 fs__law_numbers (aC (nm 0) aN)) (st [] none none) = some (.ok (Wk.of ((NS d).map fun n => .fz (.int n))), st [] none none) := e_walk (e_call (e_a1 (ev_nm rfl)) rfl (s_law_numbers d M h)) (by rw [walkV_lst, List.map_map]; rfl)
  rw [ev_seq k1, ev_seq ((ev_for kw).trans h2), e]
  exact e_ret (ev_nm rfl)
theorem s_recovered (d : FS) (M : List MO) (h : Small d) : fs_recovered [.fz (.dK (eF d))] M = some (.ok (.fz (eWs (recF d))), M) := by
  rw [show fs_recovered = fnD 5 fb_recovered from rfl]
  let st := fun (acc : List Wr) (o2 o3 : Option W) => (⟨[some (.fz (.dK (eF d))), some (.ob M.length), o2, o3, none], M ++ [.lst (acc.map eW)]⟩ : S)
  have sl := len_NS h
  obtain ⟨s2, h2, o2, o3, e⟩ := forL_ind (g := gNm 2) (b := (seqS (asgS (op2 addO (op2 addO (ck (.str "g")) (opN strO (aC (nm 2) aN))) (ck (.str "/"))) (gNm 3))
  (ifS (tst (op2 ninO (op2 addO (nm 3) (ck (.str "done"))) (nm 0))) (drpS (bm isLs extO (nm 1) (aC (frz (lcM (walk (opN sortedO (aC (nm 0) aN))) [4] (gNm 4) (tru (sm1 startsO (nm 4) (nm 3))) (opN tupO (aC (nm 4) (aC (ck .non) aN))))) aN))) nxS))) (ok := fun _ => true)
    (fun i s => ∃ o2 o3, s = st (((NS d).take i).flatMap (recP d)) o2 o3) ((NS d).map fun n => .fz (.int n)) 0 (st [] none none)
    (fun i w s hw ⟨o2, o3, hs⟩ => by
      subst hs
      obtain ⟨n, hn, rfl⟩ := getD hw
      have hi : i < (NS d).length := (List.getElem?_eq_some_iff.mp hn).1
      obtain ⟨k, rfl, hk⟩ := NS_nat (List.mem_of_getElem? hn)
      simp only [Nat.zero_add]
      rw [flat_take hn]
      have la : (((NS d).take i).flatMap (recP d)).length ≤ 64 * 64 := by
        refine Nat.le_trans (flat_len (b := 64) _ fun a _ => recP_len h a) (Nat.mul_le_mul_right _ ?_)
        rw [List.length_take]
        omega
      generalize ((NS d).take i).flatMap (recP d) = acc at *
      have lb := bN_len (n := k) (by omega)
      let n : W := .fz (.int (k : Int))
      let b : W := .fz (.str (bN k))
      refine ⟨trivial, st (acc ++ recP d k) (some n) (some b), .inl ?_, _, _, rfl⟩
      rw [ev_bnd (show gNm 2 n (st acc o2 o3) = some (.ok (), st acc (some n) o3) from rfl)]
      have k1 : asgS (op2 addO (op2 addO (ck (.str "g")) (opN strO (aC (nm 2) aN))) (ck (.str "/"))) (gNm 3) (st acc (some n) o3) = some (.ok .nx, st acc (some n) (some b)) := e_asg (e_bN (ev_nm rfl) (by omega))
      rw [ev_seq k1]
      have c1 : tst (op2 ninO (op2 addO (nm 3) (ck (.str "done"))) (nm 0)) (st acc (some n) (some b)) = some (.ok (!(gF d (dN k)).isSome), st acc (some n) (some b)) := e_tst (e_op2 (e_addc (ev_nm rfl) (by omega) (by decide) rfl) (ev_nm rfl) ninO_eF)
      rw [e_if c1]
      have ek : ((k : Int)).toNat = k := by omega
      unfold recP
      rw [ek]
      cases hg : (gF d (dN k)).isSome with
      | true =>
        simp only [Bool.not_true, Bool.false_eq_true, if_false, if_true, List.append_nil]
        rfl
      | false =>
        simp only [Bool.not_false, Bool.false_eq_true, if_false, if_true]
        have lu := under_len d (bN k)
        have fw := h.few
        have kx := e_drp (e_bm (chk := isLs) (o := extO) (f := nm 1) (g := aC (frz (lcM (walk (opN sortedO (aC (nm 0) aN))) [4] (gNm 4) (tru (sm1 startsO (nm 4) (nm 3))) (opN tupO (aC (nm 4) (aC (ck .non) aN))))) aN) (s := st acc (some n) (some b)) (ev_nm rfl) isLs_last (e_a1 (e_under (b := bN k) h (ev_nm rfl) fun p hp => ⟨⟨[some (.fz (.dK (eF d))), some (.ob M.length), some n, some b, some (.fz (.str p))], M ++ [.lst (acc.map eW)]⟩, rfl, rfl, ev_nm rfl, e_tru (e_sm1 (ev_nm rfl) (ev_nm rfl) (show some (W.fz (.bl (Txt.startswith p (bN k)))) = _ by rw [starts_pfx]))⟩)) (ext_last (by rw [List.length_map, List.length_map]; omega)))
        rw [← List.map_append] at kx
        exact kx)
    (fun _ _ => rfl) ⟨none, none, rfl⟩
  rw [show 0 + ((NS d).map fun n => W.fz (.int n)).length = (NS d).length by simp, List.take_length] at e
  refine fin_okL (s := ⟨[some (.fz (.dK (eF d))), some (.fz (eWs (recF d))), o2, o3, none], M ++ [.dead]⟩) (L := [.dead]) ?_ rfl
  unfold fb_recovered
  have k1 : asgS (lstM aN) (gNm 1) ⟨start0 5 [.fz (.dK (eF d))], M⟩ = some (.ok .nx, st [] none none) := rfl
  have kw : walk (callF 1 fs_numbers (aC (nm 0) aN)) (st [] none none) = some (.ok (Wk.of ((NS d).map fun n => .fz (.int n))), st [] none none) := e_walk (e_call (e_a1 (ev_nm rfl)) rfl (s_numbers d _ h)) (by rw [walkV_lst, List.map_map]; rfl)
  rw [ev_seq k1, ev_seq ((ev_for kw).trans h2), e]
  refine e_ret ?_
  simp only [nz, st, List.getElem?_cons_zero, List.getElem?_cons_succ, get_last, data, set_last]
  rfl
end PD

noncomputable section
namespace PD
open PySem L2 PyProof.Rows
/-! ### cleaning -/
def keptF (d : FS) (h : Int) (c : Nat) : List Int := ((wholeF d).filter fun n => !(n == h)).reverse.take c ++ [h]
def clnP (d : FS) (kept : List Int) (n : Int) : List Wr := if n ∈ kept then [] else (dN n.toNat, none) :: under d (hN n.toNat)
def clnF (d : FS) (h : Int) (c : Nat) : List Wr := (NS d).flatMap (clnP d (keptF d h c))
theorem clnP_len {d : FS} (h : Small d) (kept : List Int) (n : Int) : (clnP d kept n).length ≤ 64 := by
  unfold clnP
  split
  · simp
  · have := under_len d (hN n.toNat)
    have := h.few
    rw [List.length_cons]
    omega
theorem inV_int (n : Int) (l : List Int) : inV (.int n) ((l.map D.int).map toV) = decide (n ∈ l) := by
  unfold inV
  induction l with
  | nil => rfl
  | cons a l ih =>
    rw [List.map_cons, List.map_cons, List.any_cons, ih]
    show ((a == n) || _) = _
    by_cases e : a = n
    · subst e; simp
    · have e2 : ¬ n = a := fun z => e z.symm
      have e3 : (a == n) = false := beq_eq_false_iff_ne.mpr e
      rw [e3, Bool.false_or]
      exact decide_eq_decide.mpr (by simp [e2])
theorem ninO_ints {M : List MO} {n : Int} {l : List Int} : ninO M (.fz (.int n)) (.fz (.lst (l.map .int))) = some (.fz (.bl (!decide (n ∈ l)))) := by
  have hf : (l.map D.int).all flatD = true := by
    rw [List.all_map]
    exact List.all_eq_true.mpr fun _ _ => rfl
  have : inD M (.fz (.int n)) (.fz (.lst (l.map .int))) = some (inV (.int n) ((l.map D.int).map toV)) := by
    show (if (flatD (.int n) && (l.map D.int).all flatD) = true then some (inV (toV (.int n)) ((l.map D.int).map toV)) else none) = _
    rw [hf]
    rfl
  unfold ninO
  rw [this, inV_int]
  rfl
theorem wholeF_sub (d : FS) : ∀ n ∈ wholeF d, n ∈ NS d := fun n hn => (List.mem_filter.mp hn).1
theorem wholeF_len {d : FS} (h : Small d) : (wholeF d).length < 64 := Nat.lt_of_le_of_lt (List.filter_sublist ..).length_le (len_NS h)
/-- the numbers that are kept, in both texts -/
theorem e_kept {d : FS} {s : S} {i j v : Nat} {g : W → Mo Unit} {G : Fn} {hold : Int} {c : Nat} (h : Small d) (hG : G [.fz (.dK (eF d))] s.m = some (.ok (.fz (.lst ((wholeF d).map .int))), s.m)) (h0 : nm 0 s = some (.ok (.fz (.dK (eF d))), s)) (hi : nm i s = some (.ok (.fz (.int hold)), s)) (hj : nm j s = some (.ok (.fz (.int (c : Int))), s))
    (hv : ∀ n, ∃ s1, g (.fz (.int n)) ⟨wipeR s.r [v], s.m⟩ = some (.ok (), s1) ∧ s1.m = s.m ∧ nm v s1 = some (.ok (.fz (.int n)), s1) ∧ nm i s1 = some (.ok (.fz (.int hold)), s1)) :
    op2 addO (slO (revO (frz (lcM (walk (callF 1 G (aC (nm 0) aN))) [v] g (tst (op2 neO (nm v) (nm i))) (nm v)))) poN (poS (nm j))) (opN lstO (aC (nm i) aN)) s = some (.ok (.fz (.lst ((keptF d hold c).map .int))), s) := by
  have wl := wholeF_len h
  have kw : walk (callF 1 G (aC (nm 0) aN)) s = some (.ok (Wk.of ((wholeF d).map fun n => .fz (.int n))), s) := e_walk (e_call (e_a1 h0) rfl hG) (by rw [walkV_lst, List.map_map]; rfl)
  have k1 := e_lcF (f := walk (callF 1 G (aC (nm 0) aN))) (vs := [v]) (g := g) (t := tst (op2 neO (nm v) (nm i))) (e := nm v) (s := s) (l := wholeF d) (em := fun n => .fz (.int n)) (tt := fun n => !(n == hold)) (ff := .int) kw (lim_of (m := 64) (by omega)) fun n _ => by
    obtain ⟨s1, h1, h2, h3, h4⟩ := hv n
    exact ⟨s1, h1, e_tst (e_op2 h3 h4 neO_ii), h2, fun _ => h3⟩
  have k2 : revO (frz (lcM (walk (callF 1 G (aC (nm 0) aN))) [v] g (tst (op2 neO (nm v) (nm i))) (nm v))) s = some (.ok (.fz (.lst (((wholeF d).filter fun n => !(n == hold)).reverse.map .int))), s) := by
    unfold revO
    rw [ev_bnd k1, List.map_reverse]
    rfl
  refine e_op2 (e_slTo k2 hj (z := .fz (.lst ((((wholeF d).filter fun n => !(n == hold)).reverse.take c).map .int))) ?_) (e_opN (e_a1 hi) lstO_one) (addL_d ?_ ?_)
  · show some (W.fz (.lst (cutD (((wholeF d).filter fun n => !(n == hold)).reverse.map D.int) none (some (c : Int))))) = _
    rw [cutD_to, List.map_take]
  · rw [List.length_map, List.length_take, List.length_reverse]
    have := (List.filter_sublist (p := fun n => !(n == hold)) (l := wholeF d)).length_le
    simp
    omega
  · unfold keptF
    rw [List.map_append]
    rfl
theorem s_law_clean (d : FS) (c : Nat) (M : List MO) (h : Small d) {n : Nat} {f : FS} (cu : Cur d n f) : fs__law_clean [.fz (.dK (eF d)), .fz (.int (c : Int))] M = some (.ok (.fz (eWs (clnF d n c))), M) := by
  rw [show fs__law_clean = fnD 8 fb__law_clean from rfl]
  let hd : W := .fz (.int (n : Int))
  let kp := keptF d n c
  let st := fun (acc : List Wr) (o5 o6 : Option W) => (⟨[some (.fz (.dK (eF d))), some (.fz (.int (c : Int))), some hd, some (.fz (eWs acc)), some (.fz (.lst (kp.map .int))), o5, o6, none], M⟩ : S)
  have sl := len_NS h
  obtain ⟨s2, h2, o5, o6, e⟩ := forL_ind (g := gNm 5) (b := (seqS (asgS (op2 addO (op2 addO (ck (.str "g")) (opN strO (aC (nm 5) aN))) (ck (.str "/"))) (gNm 6))
  (ifS (tst (op2 ninO (nm 5) (nm 4))) (asgS (op2 addO (op2 addO (nm 3) (opN lstO (aC (opN tupO (aC (op2 addO (nm 6) (ck (.str "done"))) (aC (ck .non) aN))) aN))) (frz (lcM (walk (opN sortedO (aC (nm 0) aN))) [7] (gNm 7) (tst (op2 eqO (slO (nm 7) poN (poS (op2 addO (opN lenO (aC (nm 6) aN)) (ck (.int 2))))) (op2 addO (nm 6) (ck (.str "f/"))))) (opN tupO (aC (nm 7) (aC (ck .non) aN)))))) (gNm 3)) nxS))) (ok := fun _ => true)
    (fun i s => ∃ o5 o6, s = st (((NS d).take i).flatMap (clnP d kp)) o5 o6) ((NS d).map fun n => .fz (.int n)) 0 (st [] none none)
    (fun i w s hw ⟨o2, o3, hs⟩ => by
      subst hs
      obtain ⟨m, hn, rfl⟩ := getD hw
      have hi : i < (NS d).length := (List.getElem?_eq_some_iff.mp hn).1
      obtain ⟨k, rfl, hk⟩ := NS_nat (List.mem_of_getElem? hn)
      simp only [Nat.zero_add]
      rw [flat_take hn]
      have la : (((NS d).take i).flatMap (clnP d kp)).length ≤ 64 * 64 := by
        refine Nat.le_trans (flat_len (b := 64) _ fun a _ => clnP_len h kp a) (Nat.mul_le_mul_right _ ?_)
        rw [List.length_take]
        omega
      generalize ((NS d).take i).flatMap (clnP d kp) = acc at *
      have lb := bN_len (n := k) (by omega)
      let m : W := .fz (.int (k : Int))
      let b : W := .fz (.str (bN k))
      refine ⟨trivial, st (acc ++ clnP d kp k) (some m) (some b), .inl ?_, _, _, rfl⟩
      rw [ev_bnd (show gNm 5 m (st acc o2 o3) = some (.ok (), st acc (some m) o3) from rfl)]
      have k1 : asgS (op2 addO (op2 addO (ck (.str "g")) (opN strO (aC (nm 5) aN))) (ck (.str "/"))) (gNm 6) (st acc (some m) o3) = some (.ok .nx, st acc (some m) (some b)) := e_asg (e_bN (ev_nm rfl) (by omega))
      rw [ev_seq k1]
      have c1 : tst (op2 ninO (nm 5) (nm 4)) (st acc (some m) (some b)) = some (.ok (!decide ((k : Int) ∈ kp)), st acc (some m) (some b)) := e_tst (e_op2 (ev_nm rfl) (ev_nm rfl) ninO_ints)
      rw [e_if c1]
      have ek : ((k : Int)).toNat = k := by omega
      unfold clnP
      rw [ek]
      by_cases hg : (k : Int) ∈ kp
      · rw [decide_eq_true hg, if_pos hg]
        simp only [Bool.not_true, Bool.false_eq_true, if_false, List.append_nil]
        rfl
      · rw [decide_eq_false hg, if_neg hg]
        simp only [Bool.not_false, if_true]
        have lu := under_len d (hN k)
        have fw := h.few
        have b2 : tl (hN k) = tl (bN k) ++ [102, 47] := by
          have : tl ("f/" : Str) = [102, 47] := by decide
          unfold hN
          rw [tl_app, this]
        refine (e_asg (x := .fz (eWs (acc ++ (dN k, none) :: under d (hN k)))) (e_op2 (e_op2 (ev_nm rfl) (e_opN (e_a1 (e_opN (e_a2 (e_addc (ev_nm rfl) (by omega) (by decide) (show bN k ++ ("done" : Str) = dN k from rfl)) ev_ck) tup2)) lstO_one) (addL_d (c := (acc ++ [(dN k, none)]).map eW) (by rw [List.length_map]; simp; omega) (by rw [List.map_append]; rfl))) (e_under (b := hN k) h (ev_nm rfl) fun p hp => ⟨⟨[some (.fz (.dK (eF d))), some (.fz (.int (c : Int))), some hd, some (.fz (eWs acc)), some (.fz (.lst (kp.map .int))), some m, some b, some (.fz (.str p))], M⟩, rfl, rfl, ev_nm rfl, e_tst (e_op2 (e_slTo (ev_nm rfl) (e_op2 (e_opN (e_a1 (ev_nm rfl)) (by rw [lenO_str, if_pos (lim_of (m := 12) lb)])) ev_ck addO_ii) (by rw [cutO_s, if_pos (lim_of (m := 100) hp), show ((bN k).length : Int) + 2 = (((tl (hN k)).length : Nat) : Int) by rw [b2, len_tl]; simp, cutD_to])) (e_addc (ev_nm rfl) (by omega) (by decide) (show bN k ++ ("f/" : Str) = hN k from rfl)) (by rw [eqO_ss, ofL_take_eq]))⟩) (addL_d (by rw [List.length_map, List.length_map]; simp; omega) (by rw [← List.map_append, List.append_assoc]; rfl)))).trans ?_
        rfl)
    (fun _ _ => rfl) ⟨none, none, rfl⟩
  rw [show 0 + ((NS d).map fun n => W.fz (.int n)).length = (NS d).length by simp, List.take_length] at e
  refine fin_ok (s := s2) ?_ (by rw [e])
  unfold fb__law_clean
  have k1 : parG 2 (aC (op2 atO (callF 1 fs__law_current (aC (nm 0) aN)) (ck (.int 0))) (aC (opN lstO aN) aN)) (gCn (gNm 2) (gCn (gNm 3) gNl)) ⟨start0 8 [.fz (.dK (eF d)), .fz (.int (c : Int))], M⟩ = some (.ok .nx, ⟨[some (.fz (.dK (eF d))), some (.fz (.int (c : Int))), some hd, some (.fz (eWs [])), none, none, none, none], M⟩) := by
    unfold parG
    have ka : aC (op2 atO (callF 1 fs__law_current (aC (nm 0) aN)) (ck (.int 0))) (aC (opN lstO aN) aN) ⟨start0 8 [.fz (.dK (eF d)), .fz (.int (c : Int))], M⟩ = some (.ok [hd, .fz (eWs [])], ⟨start0 8 [.fz (.dK (eF d)), .fz (.int (c : Int))], M⟩) := e_a2 (e_op2 (e_call (e_a1 (ev_nm rfl)) rfl (s_law_current d M h cu)) ev_ck atO_t0) rfl
    rw [ev_bnd ka]
    rw [if_pos ⟨rfl, (by decide : (2 : Nat) ≤ LIM)⟩]
    rfl
  have k2 : asgS (op2 addO (slO (revO (frz (lcM (walk (callF 1 fs__law_whole (aC (nm 0) aN))) [5] (gNm 5) (tst (op2 neO (nm 5) (nm 2))) (nm 5)))) poN (poS (nm 1))) (opN lstO (aC (nm 2) aN))) (gNm 4) ⟨[some (.fz (.dK (eF d))), some (.fz (.int (c : Int))), some hd, some (.fz (eWs [])), none, none, none, none], M⟩ = some (.ok .nx, st [] none none) :=
    e_asg (e_kept (v := 5) (i := 2) (j := 1) (hold := n) (c := c) h (s_law_whole d M h) (ev_nm rfl) (ev_nm rfl) (ev_nm rfl) fun z => ⟨⟨[some (.fz (.dK (eF d))), some (.fz (.int (c : Int))), some hd, some (.fz (eWs [])), none, some (.fz (.int z)), none, none], M⟩, rfl, rfl, ev_nm rfl, ev_nm rfl⟩)
  have kw : walk (callF 1 fs__law_numbers (aC (nm 0) aN)) (st [] none none) = some (.ok (Wk.of ((NS d).map fun n => .fz (.int n))), st [] none none) := e_walk (e_call (e_a1 (ev_nm rfl)) rfl (s_law_numbers d M h)) (by rw [walkV_lst, List.map_map]; rfl)
  rw [ev_seq k1, ev_seq k2, ev_seq ((ev_for kw).trans h2), e]
  exact e_ret (ev_nm rfl)
theorem s_clean_writes (d : FS) (c : Nat) (M : List MO) (h : Small d) {n : Nat} {f : FS} (cu : Cur d n f) : fs_clean_writes [.fz (.dK (eF d)), .fz (.int (c : Int))] M = some (.ok (.fz (eWs (clnF d n c))), M) := by
  rw [show fs_clean_writes = fnD 8 fb_clean_writes from rfl]
  let hd : W := .fz (.int (n : Int))
  let kp := keptF d n c
  let st := fun (acc : List Wr) (o5 o6 : Option W) => (⟨[some (.fz (.dK (eF d))), some (.fz (.int (c : Int))), some hd, some (.fz (.lst (kp.map .int))), some (.ob M.length), o5, o6, none], M ++ [.lst (acc.map eW)]⟩ : S)
  have sl := len_NS h
  obtain ⟨s2, h2, o5, o6, e⟩ := forL_ind (g := gNm 5) (b := (ifS (tst (op2 ninO (nm 5) (nm 3))) (seqS (asgS (op2 addO (op2 addO (ck (.str "g")) (opN strO (aC (nm 5) aN))) (ck (.str "/"))) (gNm 6))
  (seqS (drpS (bm isLs appO (nm 4) (aC (opN tupO (aC (op2 addO (nm 6) (ck (.str "done"))) (aC (ck .non) aN))) aN)))
  (drpS (bm isLs extO (nm 4) (aC (frz (lcM (walk (opN sortedO (aC (nm 0) aN))) [7] (gNm 7) (tru (sm1 startsO (nm 7) (op2 addO (nm 6) (ck (.str "f/"))))) (opN tupO (aC (nm 7) (aC (ck .non) aN))))) aN))))) nxS)) (ok := fun _ => true)
    (fun i s => ∃ o5 o6, s = st (((NS d).take i).flatMap (clnP d kp)) o5 o6) ((NS d).map fun n => .fz (.int n)) 0 (st [] none none)
    (fun i w s hw ⟨o2, o3, hs⟩ => by
      subst hs
      obtain ⟨m, hn, rfl⟩ := getD hw
      have hi : i < (NS d).length := (List.getElem?_eq_some_iff.mp hn).1
      obtain ⟨k, rfl, hk⟩ := NS_nat (List.mem_of_getElem? hn)
      simp only [Nat.zero_add]
      rw [flat_take hn]
      have la : (((NS d).take i).flatMap (clnP d kp)).length ≤ 64 * 64 := by
        refine Nat.le_trans (flat_len (b := 64) _ fun a _ => clnP_len h kp a) (Nat.mul_le_mul_right _ ?_)
        rw [List.length_take]
        omega
      generalize ((NS d).take i).flatMap (clnP d kp) = acc at *
      have lb := bN_len (n := k) (by omega)
      let m : W := .fz (.int (k : Int))
      let b : W := .fz (.str (bN k))
      have c1 : tst (op2 ninO (nm 5) (nm 3)) (st acc (some m) o3) = some (.ok (!decide ((k : Int) ∈ kp)), st acc (some m) o3) := e_tst (e_op2 (ev_nm rfl) (ev_nm rfl) ninO_ints)
      have ek : ((k : Int)).toNat = k := by omega
      have g1 : gNm 5 m (st acc o2 o3) = some (.ok (), st acc (some m) o3) := rfl
      by_cases hg : (k : Int) ∈ kp
      · refine ⟨trivial, st acc (some m) o3, .inl ?_, some m, o3, ?_⟩
        · rw [ev_bnd g1, e_if c1, decide_eq_true hg]
          rfl
        · unfold clnP
          rw [if_pos hg, List.append_nil]
      · refine ⟨trivial, st (acc ++ clnP d kp k) (some m) (some b), .inl ?_, _, _, rfl⟩
        rw [ev_bnd g1, e_if c1]
        unfold clnP
        rw [ek, decide_eq_false hg, if_neg hg]
        simp only [Bool.not_false, if_true]
        have k1 : asgS (op2 addO (op2 addO (ck (.str "g")) (opN strO (aC (nm 5) aN))) (ck (.str "/"))) (gNm 6) (st acc (some m) o3) = some (.ok .nx, st acc (some m) (some b)) := e_asg (e_bN (ev_nm rfl) (by omega))
        have lu := under_len d (hN k)
        have fw := h.few
        have ap : appO (M ++ [.lst (acc.map eW)]) (.ob M.length) [.fz (eW (dN k, none))] = some (.fz .non, M ++ [.lst ((acc ++ [(dN k, none)]).map eW)]) := by
          rw [app_last (by rw [List.length_map]; omega), List.map_append]
          rfl
        have ex : extO (M ++ [.lst ((acc ++ [(dN k, none)]).map eW)]) (.ob M.length) [.fz (eWs (under d (hN k)))] = some (.fz .non, M ++ [.lst ((acc ++ (dN k, none) :: under d (hN k)).map eW)]) := by
          unfold eWs
          rw [ext_last (by rw [List.length_map, List.length_map, List.length_append]; simp; omega), ← List.map_append, List.append_assoc]
          rfl
        have k2 := e_drp (e_bm (chk := isLs) (o := appO) (f := nm 4) (g := aC (opN tupO (aC (op2 addO (nm 6) (ck (.str "done"))) (aC (ck .non) aN))) aN) (s := st acc (some m) (some b)) (ev_nm rfl) isLs_last (e_a1 (e_opN (e_a2 (e_addc (ev_nm rfl) (by omega) (by decide) (show bN k ++ ("done" : Str) = dN k from rfl)) ev_ck) tup2)) ap)
        have k2 : drpS (bm isLs appO (nm 4) (aC (opN tupO (aC (op2 addO (nm 6) (ck (.str "done"))) (aC (ck .non) aN))) aN)) (st acc (some m) (some b)) = some (.ok .nx, st (acc ++ [(dN k, none)]) (some m) (some b)) := by
          exact k2
        have k3 := e_drp (e_bm (chk := isLs) (o := extO) (f := nm 4) (g := aC (frz (lcM (walk (opN sortedO (aC (nm 0) aN))) [7] (gNm 7) (tru (sm1 startsO (nm 7) (op2 addO (nm 6) (ck (.str "f/"))))) (opN tupO (aC (nm 7) (aC (ck .non) aN))))) aN) (s := st (acc ++ [(dN k, none)]) (some m) (some b)) (ev_nm rfl) isLs_last (e_a1 (e_under (b := hN k) h (ev_nm rfl) fun p hp => ⟨⟨[some (.fz (.dK (eF d))), some (.fz (.int (c : Int))), some hd, some (.fz (.lst (kp.map .int))), some (.ob M.length), some m, some b, some (.fz (.str p))], M ++ [.lst ((acc ++ [(dN k, none)]).map eW)]⟩, rfl, rfl, ev_nm rfl, e_tru (e_sm1 (ev_nm rfl) (e_addc (ev_nm rfl) (by omega) (by decide) (show bN k ++ ("f/" : Str) = hN k from rfl)) (show some (W.fz (.bl (Txt.startswith p (hN k)))) = _ by rw [starts_pfx]))⟩)) ex)
        rw [ev_seq k1, ev_seq k2]
        exact k3)
    (fun _ _ => rfl) ⟨none, none, rfl⟩
  rw [show 0 + ((NS d).map fun n => W.fz (.int n)).length = (NS d).length by simp, List.take_length] at e
  refine fin_okL (s := ⟨[some (.fz (.dK (eF d))), some (.fz (.int (c : Int))), some hd, some (.fz (.lst (kp.map .int))), some (.fz (eWs (clnF d n c))), o5, o6, none], M ++ [.dead]⟩) (L := [.dead]) ?_ rfl
  unfold fb_clean_writes
  let s0 := fun (o2 o3 : Option W) => (⟨[some (.fz (.dK (eF d))), some (.fz (.int (c : Int))), o2, o3, none, none, none, none], M⟩ : S)
  have k1 : asgS (op2 atO (callF 1 fs_current (aC (nm 0) aN)) (ck (.int 0))) (gNm 2) (s0 none none) = some (.ok .nx, s0 (some hd) none) := e_asg (e_op2 (e_call (e_a1 (ev_nm rfl)) rfl (s_current d M h cu)) ev_ck atO_t0)
  have k2 : asgS (op2 addO (slO (revO (frz (lcM (walk (callF 1 fs_whole_numbers (aC (nm 0) aN))) [5] (gNm 5) (tst (op2 neO (nm 5) (nm 2))) (nm 5)))) poN (poS (nm 1))) (opN lstO (aC (nm 2) aN))) (gNm 3) (s0 (some hd) none) = some (.ok .nx, s0 (some hd) (some (.fz (.lst (kp.map .int))))) :=
    e_asg (e_kept (v := 5) (i := 2) (j := 1) (hold := n) (c := c) h (s_whole_numbers d M h) (ev_nm rfl) (ev_nm rfl) (ev_nm rfl) fun z => ⟨⟨[some (.fz (.dK (eF d))), some (.fz (.int (c : Int))), some hd, none, none, some (.fz (.int z)), none, none], M⟩, rfl, rfl, ev_nm rfl, ev_nm rfl⟩)
  have k3 : asgS (lstM aN) (gNm 4) (s0 (some hd) (some (.fz (.lst (kp.map .int))))) = some (.ok .nx, st [] none none) := rfl
  have kw : walk (callF 1 fs_numbers (aC (nm 0) aN)) (st [] none none) = some (.ok (Wk.of ((NS d).map fun n => .fz (.int n))), st [] none none) := e_walk (e_call (e_a1 (ev_nm rfl)) rfl (s_numbers d _ h)) (by rw [walkV_lst, List.map_map]; rfl)
  show seqS _ _ (s0 none none) = _
  rw [ev_seq k1, ev_seq k2, ev_seq k3, ev_seq ((ev_for kw).trans h2), e]
  refine e_ret ?_
  simp only [nz, st, List.getElem?_cons_zero, List.getElem?_cons_succ, get_last, data, set_last]
  rfl
end PD

noncomputable section
namespace PD
open PySem L2 PyProof.Rows
/-! ### what the writes do -/
def putF (d : FS) (p t : Str) : FS := if p ∈ kF d then d.map fun q => if q.1 = p then (q.1, t) else q else d ++ [(p, t)]
def delF (d : FS) (p : Str) : FS := d.filter fun q => decide (q.1 ≠ p)
def ap (d : FS) (w : Wr) : FS := match w.2 with
  | none => delF d w.1
  | some t => putF d w.1 t
def aft (d : FS) (ws : List Wr) : FS := ws.foldl ap d
theorem dput_eF (d : FS) (p t : Str) : dput (eF d) (.inr p) (.str t) = eF (putF d p t) := by
  unfold dput putF
  have e : ((eF d).any fun kv => decide (kv.1 = Sum.inr p)) = decide (p ∈ kF d) := by
    unfold eF kF
    induction d with
    | nil => rfl
    | cons q d ih =>
      rw [List.map_cons, List.any_cons, ih]
      by_cases e : q.1 = p
      · simp [e]
      · have e2 : ¬ p = q.1 := fun z => e z.symm
        rw [decide_eq_false (fun z => e (Sum.inr.inj z)), Bool.false_or]
        exact decide_eq_decide.mpr (by simp [e2])
  rw [e]
  by_cases h : p ∈ kF d
  · rw [decide_eq_true h, if_pos rfl, if_pos h]
    unfold eF
    rw [List.map_map, List.map_map]
    refine List.map_congr_left fun q _ => ?_
    simp only [Function.comp_apply]
    by_cases e : q.1 = p
    · rw [if_pos (congrArg Sum.inr e), if_pos e]
    · rw [if_neg (fun z => e (Sum.inr.inj z)), if_neg e]
  · rw [decide_eq_false h, if_neg (by decide), if_neg h]
    unfold eF
    rw [List.map_append]
    rfl
theorem ddel_eF (d : FS) (p : Str) : ddel (eF d) (.inr p) = eF (delF d p) := by
  unfold ddel delF eF
  rw [List.filter_map]
  congr 1
  refine List.filter_congr fun q _ => ?_
  simp only [Function.comp_apply]
  exact decide_eq_decide.mpr (by simp)
theorem delF_none {d : FS} {p : Str} (h : gF d p = none) : delF d p = d := by
  rw [gF_none] at h
  exact List.filter_eq_self.mpr fun q hq => decide_eq_true fun e => h (List.mem_map.mpr ⟨q, hq, e⟩)
theorem ap_len (d : FS) (w : Wr) : (ap d w).length ≤ d.length + 1 := by
  unfold ap
  split
  · have := (List.filter_sublist (p := fun q => decide (q.1 ≠ w.1)) (l := d)).length_le
    unfold delF
    omega
  · unfold putF
    split
    · rw [List.length_map]; omega
    · rw [List.length_append]; simp
theorem aft_len : ∀ (ws : List Wr) (d : FS), (aft d ws).length ≤ d.length + ws.length
  | [], d => by simp [aft]
  | w :: ws, d => by
    have h1 := ap_len d w
    have h2 := aft_len ws (ap d w)
    show (aft (ap d w) ws).length ≤ _
    rw [List.length_cons]
    omega
theorem aft_snoc {d : FS} {ws : List Wr} {i : Nat} {w : Wr} (h : ws[i]? = some w) : aft d (ws.take (i + 1)) = ap (aft d (ws.take i)) w := foldl_take h
/-- one write, with the dict at n -/
theorem e_write {s : S} {n a b o : Nat} {d : FS} {w : Wr} (ho : nm o s = some (.ok (.ob n), s)) (hn : s.m[n]? = some (.dK (eF d))) (ha : nm a s = some (.ok (.fz (.str w.1)), s)) (hb : nm b s = some (.ok (.fz (oS w.2)), s)) (hl : d.length < 1000000) :
    ifS (tst (op2 isO (nm b) (ck .non))) (drpS (dpop2 (nm o) (nm a) (ck .non))) (putS (nm b) (nm o) (nm a)) s = some (.ok .nx, ⟨s.r, s.m.set n (.dK (eF (ap d w)))⟩) := by
  obtain ⟨p, t⟩ := w
  have hd : isDc s.m (.ob n) = true := by
    unfold isDc asD
    simp only [hn]
    rfl
  cases t with
  | none =>
    have c : tst (op2 isO (nm b) (ck .non)) s = some (.ok true, s) := e_tst (e_op2 hb ev_ck rfl)
    rw [e_if c]
    show drpS (dpop2 (nm o) (nm a) (ck .non)) s = _
    have cc : (fun s => ofO (if isDc s.m (.ob n) = true then some () else none) s) s = some (.ok (), s) := by simp [hd]
    have dp : ∃ v, dpopO s.m (.ob n) (.fz (.str p)) (.fz .non) = some (v, s.m.set n (.dK (eF (delF d p)))) := by
      unfold dpopO
      simp only [keyW, keyD, hn, dget_eF]
      cases hg : gF d p with
      | none =>
        rw [delF_none hg]
        refine ⟨.fz .non, ?_⟩
        have : s.m.set n (.dK (eF d)) = s.m := by
          apply List.ext_getElem?
          intro i
          rw [List.getElem?_set]
          split
          · rename_i e
            subst e
            split
            · exact hn.symm
            · rename_i h2
              rw [List.getElem?_eq_none (by omega)]
          · rfl
        rw [this]
        rfl
      | some t => exact ⟨.fz (.str t), by rw [← ddel_eF]; rfl⟩
    obtain ⟨v, dp⟩ := dp
    have k : dpop2 (nm o) (nm a) (ck .non) s = some (.ok v, ⟨s.r, s.m.set n (.dK (eF (delF d p)))⟩) := by
      unfold dpop2
      rw [ev_bnd ho, ev_bnd (f := fun s => ofO (if isDc s.m (.ob n) = true then some () else none) s) cc, ev_bnd ha, ev_bnd ev_ck]
      simp only [dp]
    exact e_drp k
  | some t =>
    have c : tst (op2 isO (nm b) (ck .non)) s = some (.ok false, s) := e_tst (e_op2 hb ev_ck rfl)
    rw [e_if c]
    show putS (nm b) (nm o) (nm a) s = _
    have st : stO s.m (.ob n) (.fz (.str p)) (.fz (.str t)) = some (s.m.set n (.dK (eF (putF d p t)))) := by
      unfold stO
      have hl2 : d.length < 16777216 := by omega
      simp only [hn, keyW, keyD, len_eF]
      rw [if_pos hl2, dput_eF]
    have k : gSb (nm o) (nm a) (.fz (.str t)) s = some (.ok (), ⟨s.r, s.m.set n (.dK (eF (putF d p t)))⟩) := by
      unfold gSb
      rw [ev_bnd ho, ev_bnd ha]
      simp only [st]
    unfold putS asgS
    rw [ev_bnd hb]
    exact (ev_bnd k).trans rfl
theorem s_put (n : Nat) (d : FS) (w : Wr) (M : List MO) (hn : M[n]? = some (.dK (eF d))) (hl : d.length < 1000000) : fs_put [.ob n, .fz (eW w)] M = some (.ok (.fz .non), M.set n (.dK (eF (ap d w)))) := by
  rw [show fs_put = fnD 4 fb_put from rfl]
  let st : S := ⟨[some (.ob n), some (.fz (eW w)), some (.fz (.str w.1)), some (.fz (oS w.2))], M⟩
  have k1 : asgS (nm 1) (gTp 2 (gCn (gNm 2) (gCn (gNm 3) gNl))) ⟨start0 4 [.ob n, .fz (eW w)], M⟩ = some (.ok .nx, st) := rfl
  have k2 := e_write (s := st) (n := n) (a := 2) (b := 3) (o := 0) (d := d) (w := w) (ev_nm rfl) hn (ev_nm rfl) (ev_nm rfl) hl
  have kb : fb_put ⟨start0 4 [.ob n, .fz (eW w)], M⟩ = some (.ok .nx, ⟨st.r, M.set n (.dK (eF (ap d w)))⟩) := by
    unfold fb_put
    rw [ev_seq k1]
    exact k2
  unfold fnD
  rw [kb]
  show ((trunc M (M.set n (.dK (eF (ap d w))))).map fun M2 => (W.fz .non, M2)).map _ = _
  rw [trunc_set0 rfl]
  rfl
theorem s_after (d : FS) (ws : List Wr) (c : Nat) (M : List MO) (hd : d.length ≤ 1000) (hw : ws.length ≤ 10000) : fs_after [.fz (.dK (eF d)), .fz (eWs ws), .fz (.int (c : Int))] M = some (.ok (.fz (.dK (eF (aft d (ws.take c))))), M) := by
  rw [show fs_after = fnD 5 fb_after from rfl]
  let st := fun (f : FS) (o : Option W) => (⟨[some (.fz (.dK (eF d))), some (.fz (eWs ws)), some (.fz (.int (c : Int))), some (.ob M.length), o], M ++ [.dK (eF f)]⟩ : S)
  obtain ⟨s2, h2, o, e⟩ := forL_ind (g := gNm 4) (b := drpS (callF 2 fs_put (aC (nm 3) (aC (nm 4) aN)))) (ok := fun _ => true)
    (fun i s => ∃ o, s = st (aft d ((ws.take c).take i)) o) ((ws.take c).map fun w => .fz (eW w)) 0 (st d none)
    (fun i w s hw' ⟨o, hs⟩ => by
      subst hs
      obtain ⟨w, hn, rfl⟩ := getD hw'
      simp only [Nat.zero_add]
      refine ⟨trivial, _, .inl ?_, some (.fz (eW w)), rfl⟩
      rw [aft_snoc hn]
      have la := aft_len ((ws.take c).take i) d
      rw [List.length_take, List.length_take] at la
      generalize aft d ((ws.take c).take i) = f at *
      rw [ev_bnd (show gNm 4 (.fz (eW w)) (st f o) = some (.ok (), st f (some (.fz (eW w)))) from rfl)]
      have sp := s_put M.length f w (M ++ [.dK (eF f)]) get_last (by omega)
      rw [set_last] at sp
      have k : callF 2 fs_put (aC (nm 3) (aC (nm 4) aN)) (st f (some (.fz (eW w)))) = some (.ok (.fz .non), st (ap f w) (some (.fz (eW w)))) := by
        unfold callF
        have ka : aC (nm 3) (aC (nm 4) aN) (st f (some (.fz (eW w)))) = some (.ok [.ob M.length, .fz (eW w)], st f (some (.fz (eW w)))) := e_a2 (ev_nm rfl) (ev_nm rfl)
        rw [ev_bnd ka]
        have sp : fs_put [.ob M.length, .fz (eW w)] (st f (some (.fz (eW w)))).m = _ := sp
        simp only [List.length_cons, List.length_nil, if_true, sp]
        rfl
      exact e_drp k)
    (fun _ _ => rfl) ⟨none, rfl⟩
  rw [show 0 + ((ws.take c).map fun w => W.fz (eW w)).length = (ws.take c).length by simp, List.take_length] at e
  refine fin_okL (s := ⟨[some (.fz (.dK (eF d))), some (.fz (eWs ws)), some (.fz (.int (c : Int))), some (.fz (.dK (eF (aft d (ws.take c))))), o], M ++ [.dead]⟩) (L := [.dead]) ?_ rfl
  unfold fb_after
  have k1 : asgS (newO (opO dictO (aC (nm 0) aN))) (gNm 3) ⟨start0 5 [.fz (.dK (eF d)), .fz (eWs ws), .fz (.int (c : Int))], M⟩ = some (.ok .nx, st d none) := rfl
  have kw : walk (slO (nm 1) poN (poS (nm 2))) (st d none) = some (.ok (Wk.of ((ws.take c).map fun w => .fz (eW w))), st d none) := by
    refine e_walk (e_slTo (ev_nm rfl) (ev_nm rfl) (z := .fz (.lst ((ws.take c).map eW))) ?_) (by rw [walkV_lst, List.map_map]; rfl)
    show some (W.fz (.lst (cutD (ws.map eW) none (some (c : Int))))) = _
    rw [cutD_to, List.map_take]
  rw [ev_seq k1, ev_seq ((ev_for kw).trans h2), e]
  refine e_ret ?_
  simp only [nz, st, List.getElem?_cons_zero, List.getElem?_cons_succ, get_last, data, set_last]
  rfl
theorem s_law_after (d : FS) (ws : List Wr) (c : Nat) (M : List MO) (nd : (kF d).Nodup) (hd : d.length ≤ 1000) (hw : ws.length ≤ 10000) : fs__law_after [.fz (.dK (eF d)), .fz (eWs ws), .fz (.int (c : Int))] M = some (.ok (.fz (.dK (eF (aft d (ws.take c))))), M) := by
  rw [show fs__law_after = fnD 6 fb__law_after from rfl]
  let st := fun (f : FS) (o p : Option W) => (⟨[some (.fz (.dK (eF d))), some (.fz (eWs ws)), some (.fz (.int (c : Int))), some (.ob M.length), o, p], M ++ [.dK (eF f)]⟩ : S)
  obtain ⟨s2, h2, o, p, e⟩ := forL_ind (g := gTp 2 (gCn (gNm 4) (gCn (gNm 5) gNl))) (b := (ifS (tst (op2 isO (nm 5) (ck .non))) (drpS (dpop2 (nm 3) (nm 4) (ck .non))) (putS (nm 5) (nm 3) (nm 4)))) (ok := fun _ => true)
    (fun i s => ∃ o p, s = st (aft d ((ws.take c).take i)) o p) ((ws.take c).map fun w => .fz (eW w)) 0 (st d none none)
    (fun i w s hw' ⟨o, p, hs⟩ => by
      subst hs
      obtain ⟨w, hn, rfl⟩ := getD hw'
      simp only [Nat.zero_add]
      refine ⟨trivial, _, .inl ?_, some (.fz (.str w.1)), some (.fz (oS w.2)), rfl⟩
      rw [aft_snoc hn]
      have la := aft_len ((ws.take c).take i) d
      rw [List.length_take, List.length_take] at la
      generalize aft d ((ws.take c).take i) = f at *
      rw [ev_bnd (show gTp 2 (gCn (gNm 4) (gCn (gNm 5) gNl)) (.fz (eW w)) (st f o p) = some (.ok (), st f (some (.fz (.str w.1))) (some (.fz (oS w.2)))) from rfl)]
      have k := e_write (s := st f (some (.fz (.str w.1))) (some (.fz (oS w.2)))) (n := M.length) (a := 4) (b := 5) (o := 3) (d := f) (w := w) (ev_nm rfl) get_last (ev_nm rfl) (ev_nm rfl) (by omega)
      rw [k]
      show some (Except.ok Fl.nx, (⟨_, (M ++ [MO.dK (eF f)]).set M.length (.dK (eF (ap f w)))⟩ : S)) = _
      rw [set_last])
    (fun _ _ => rfl) ⟨none, none, rfl⟩
  rw [show 0 + ((ws.take c).map fun w => W.fz (eW w)).length = (ws.take c).length by simp, List.take_length] at e
  refine fin_okL (s := ⟨[some (.fz (.dK (eF d))), some (.fz (eWs ws)), some (.fz (.int (c : Int))), some (.fz (.dK (eF (aft d (ws.take c))))), o, p], M ++ [.dead]⟩) (L := [.dead]) ?_ rfl
  unfold fb__law_after
  let s0 : S := ⟨start0 6 [.fz (.dK (eF d)), .fz (eWs ws), .fz (.int (c : Int))], M⟩
  have ki : itemsL (nm 0) s0 = some (.ok (.fz (.lst (d.map fun q => .tup [.str q.1, .str q.2]))), s0) := by
    unfold itemsL
    rw [ev_bnd (ev_nm (w := .fz (.dK (eF d))) rfl)]
    show some (Except.ok (W.fz (.lst ((eF d).map fun kv => .tup [kD kv.1, kv.2]))), s0) = _
    unfold eF
    rw [List.map_map]
    rfl
  have k1 : asgS (newO (opO dictO (aC (itemsL (nm 0)) aN))) (gNm 3) s0 = some (.ok .nx, st d none none) := by
    have kn : newO (opO dictO (aC (itemsL (nm 0)) aN)) s0 = some (.ok (.ob M.length), ⟨s0.r, M ++ [.dK (eF d)]⟩) := by
      unfold newO
      rw [ev_bnd (e_opO (e_a1 ki) (dictO_prs nd))]
    exact e_asg kn
  have kw : walk (slO (nm 1) poN (poS (nm 2))) (st d none none) = some (.ok (Wk.of ((ws.take c).map fun w => .fz (eW w))), st d none none) := by
    refine e_walk (e_slTo (ev_nm rfl) (ev_nm rfl) (z := .fz (.lst ((ws.take c).map eW))) ?_) (by rw [walkV_lst, List.map_map]; rfl)
    show some (W.fz (.lst (cutD (ws.map eW) none (some (c : Int))))) = _
    rw [cutD_to, List.map_take]
  rw [ev_seq k1, ev_seq ((ev_for kw).trans h2), e]
  refine e_ret ?_
  simp only [nz, st, List.getElem?_cons_zero, List.getElem?_cons_succ, get_last, data, set_last]
  rfl
end PD

noncomputable section
namespace PD
open PySem L2 PyProof.Rows
/-! ### the tape -/
structure Tp where
  c : List Int
  a : Nat
  l : Int
  se : Int
  sa : Int
def tpD (t : Tp) : List (Key × D) := [(.inr "cells", .lst (t.c.map .int)), (.inr "at", .int t.a), (.inr "left", .int t.l), (.inr "seed", .int t.se), (.inr "salt", .int t.sa)]
theorem kne1 : decide ((Sum.inr "cells" : Key) = (Sum.inr "at" : Key)) = false := by decide
theorem kne2 : decide ((Sum.inr "cells" : Key) = (Sum.inr "left" : Key)) = false := by decide
theorem kne3 : decide ((Sum.inr "cells" : Key) = (Sum.inr "seed" : Key)) = false := by decide
theorem kne4 : decide ((Sum.inr "cells" : Key) = (Sum.inr "salt" : Key)) = false := by decide
theorem kne5 : decide ((Sum.inr "at" : Key) = (Sum.inr "left" : Key)) = false := by decide
theorem kne6 : decide ((Sum.inr "at" : Key) = (Sum.inr "seed" : Key)) = false := by decide
theorem kne7 : decide ((Sum.inr "at" : Key) = (Sum.inr "salt" : Key)) = false := by decide
theorem kne8 : decide ((Sum.inr "left" : Key) = (Sum.inr "seed" : Key)) = false := by decide
theorem kne9 : decide ((Sum.inr "left" : Key) = (Sum.inr "salt" : Key)) = false := by decide
theorem kne10 : decide ((Sum.inr "seed" : Key) = (Sum.inr "salt" : Key)) = false := by decide
theorem tget_c (t : Tp) : dget (tpD t) (.inr "cells") = some (.lst (t.c.map .int)) := by
  unfold dget tpD; simp only [List.find?_cons, decide_true, Option.map_some]
theorem tget_a (t : Tp) : dget (tpD t) (.inr "at") = some (.int t.a) := by
  unfold dget tpD; simp only [List.find?_cons, kne1, decide_true, Option.map_some]
theorem tget_l (t : Tp) : dget (tpD t) (.inr "left") = some (.int t.l) := by
  unfold dget tpD; simp only [List.find?_cons, kne2, kne5, decide_true, Option.map_some]
theorem tget_se (t : Tp) : dget (tpD t) (.inr "seed") = some (.int t.se) := by
  unfold dget tpD; simp only [List.find?_cons, kne3, kne6, kne8, decide_true, Option.map_some]
theorem tget_sa (t : Tp) : dget (tpD t) (.inr "salt") = some (.int t.sa) := by
  unfold dget tpD; simp only [List.find?_cons, kne4, kne7, kne9, kne10, decide_true, Option.map_some]
theorem tput_a (t : Tp) (n : Nat) : dput (tpD t) (.inr "at") (.int n) = tpD { t with a := n } := rfl
theorem tput_l (t : Tp) (n : Int) : dput (tpD t) (.inr "left") (.int n) = tpD { t with l := n } := rfl
theorem tput_sa (t : Tp) (n : Int) : dput (tpD t) (.inr "salt") (.int n) = tpD { t with sa := n } := rfl
theorem ev_seqR {f g : Mo Fl} {s s1 : S} {w : W} (h : f s = some (.ok (.rt w), s1)) : seqS f g s = some (.ok (.rt w), s1) := by unfold seqS; rw [h]
/-- what lies at n is a tape -/
def stT (n : Nat) (m : Nat) (M : List MO) (t : Tp) (o2 o3 : Option W) : S := ⟨[some (.ob n), some (.fz (.int (m : Int))), o2, o3], M.set n (.dK (tpD t))⟩
theorem asD_set {M : List MO} {n : Nat} {kvs : List (Key × D)} (hn : n < M.length) : asD (M.set n (.dK kvs)) (.ob n) = some kvs := by
  have h := List.getElem?_set_self (a := MO.dK kvs) hn
  unfold asD
  simp only [h]
theorem e_tat {s : S} {n : Nat} {t : Tp} {x : Str} {d : D} {M : List MO} (h0 : nm 0 s = some (.ok (.ob n), s)) (hm : s.m = M.set n (.dK (tpD t))) (hn : n < M.length) (h : dget (tpD t) (.inr x) = some d) : op2 atO (nm 0) (ck (.str x)) s = some (.ok (.fz d), s) := by
  refine e_op2 h0 ev_ck ?_
  unfold atO
  rw [hm, asD_set hn]
  simp only [keyW, keyD, h, Option.map_some]
theorem e_tput {s : S} {n : Nat} {t t' : Tp} {x : Str} {d : D} {v : Mo W} {M : List MO} (h0 : nm 0 s = some (.ok (.ob n), s)) (hm : s.m = M.set n (.dK (tpD t))) (hn : n < M.length) (hv : v s = some (.ok (.fz d), s)) (h : dput (tpD t) (.inr x) d = tpD t') : putS v (nm 0) (ck (.str x)) s = some (.ok .nx, ⟨s.r, M.set n (.dK (tpD t'))⟩) := by
  unfold putS asgS
  rw [ev_bnd hv]
  have k : gSb (nm 0) (ck (.str x)) (.fz d) s = some (.ok (), ⟨s.r, M.set n (.dK (tpD t'))⟩) := by
    unfold gSb
    rw [ev_bnd h0, ev_bnd ev_ck]
    have st : stO s.m (.ob n) (.fz (.str x)) (.fz d) = some (M.set n (.dK (tpD t'))) := by
      have hg := List.getElem?_set_self (a := MO.dK (tpD t)) hn
      rw [hm]
      unfold stO
      simp only [hg, keyW, keyD]
      rw [if_pos (show (tpD t).length < LIM from (by decide : (5 : Nat) < LIM)), h, List.set_set]
    simp only [st]
  exact (ev_bnd k).trans rfl
theorem mulO_i {M : List MO} {i j : Int} (h : (-(2 ^ 64) < i ∧ i < 2 ^ 64) ∨ (-(2 ^ 64) < j ∧ j < 2 ^ 64)) : mulO M (.fz (.int i)) (.fz (.int j)) = some (.fz (.int (i * j))) := by
  unfold mulO
  exact if_pos h
theorem modO_i {M : List MO} {i j : Int} (h : 0 < j) : modO M (.fz (.int i)) (.fz (.int j)) = some (.fz (.int (i % j))) := if_pos h
theorem fdvO_i {M : List MO} {i j : Int} (h : 0 < j ∧ j < 1073741824) : fdvO M (.fz (.int i)) (.fz (.int j)) = some (.fz (.int (i / j))) := if_pos h
theorem s_law_take (n m : Nat) (t : Tp) (M : List MO) (hn : n < M.length) (hm : 0 < m ∧ m < 1000) : ∃ (r : Nat) (t' : Tp), r < m ∧ fs__law_take [.ob n, .fz (.int (m : Int))] (M.set n (.dK (tpD t))) = some (.ok (.fz (.int (r : Int))), M.set n (.dK (tpD t'))) := by
  rw [show fs__law_take = fnD 4 fb__law_take from rfl]
  let st := stT n m M
  have h0 : ∀ t o2 o3, nm 0 (st t o2 o3) = some (.ok (.ob n), st t o2 o3) := fun _ _ _ => ev_nm rfl
  -- the first step
  have k1 : ∃ t1 : Tp, ifS (andT (tst (op2 eqO (op2 atO (nm 0) (ck (.str "left"))) (ck (.int 0)))) (tst (op2 ltO (op2 atO (nm 0) (ck (.str "at"))) (opN lenO (aC (op2 atO (nm 0) (ck (.str "cells"))) aN))))) (seqS (putS (op2 atO (op2 atO (nm 0) (ck (.str "cells"))) (op2 atO (nm 0) (ck (.str "at")))) (nm 0) (ck (.str "left")))
  (putS (op2 addO (op2 atO (nm 0) (ck (.str "at"))) (ck (.int 1))) (nm 0) (ck (.str "at")))) nxS (st t none none) = some (.ok .nx, st t1 none none) := by
    have c : andT (tst (op2 eqO (op2 atO (nm 0) (ck (.str "left"))) (ck (.int 0)))) (tst (op2 ltO (op2 atO (nm 0) (ck (.str "at"))) (opN lenO (aC (op2 atO (nm 0) (ck (.str "cells"))) aN)))) (st t none none) = some (.ok ((t.l == 0) && decide ((t.a : Int) < ((t.c.map D.int).length : Int))), st t none none) :=
      e_and (e_tst (e_op2 (e_tat (h0 _ _ _) rfl hn (tget_l t)) ev_ck eqO_ii)) fun _ => e_tst (e_op2 (e_tat (h0 _ _ _) rfl hn (tget_a t)) (e_opN (e_a1 (e_tat (h0 _ _ _) rfl hn (tget_c t))) lenO_lst) ltO_ii)
    rw [e_if c]
    cases hb : ((t.l == 0) && decide ((t.a : Int) < ((t.c.map D.int).length : Int))) with
    | false => exact ⟨t, rfl⟩
    | true =>
      simp only [if_true]
      obtain ⟨_, h2⟩ := Bool.and_eq_true _ _ ▸ hb
      have h2 := of_decide_eq_true h2
      rw [List.length_map] at h2
      have h2 : t.a < t.c.length := by omega
      have hg : (t.c.map D.int)[t.a]? = some (.int t.c[t.a]) := by
        rw [List.getElem?_map, List.getElem?_eq_getElem h2]
        rfl
      refine ⟨⟨t.c, t.a + 1, t.c[t.a], t.se, t.sa⟩, ?_⟩
      have p1 := e_tput (s := st t none none) (t := t) (v := op2 atO (op2 atO (nm 0) (ck (.str "cells"))) (op2 atO (nm 0) (ck (.str "at")))) (M := M) (h0 _ _ _) rfl hn (e_op2 (e_tat (h0 _ _ _) rfl hn (tget_c t)) (e_tat (h0 _ _ _) rfl hn (tget_a t)) (z := .fz (.int t.c[t.a])) (by
        show (L2.atI (t.c.map D.int) (t.a : Int)).map W.fz = _
        rw [L2.atI_nat hg]
        rfl)) (tput_l t t.c[t.a])
      rw [ev_seq p1]
      have p2 := e_tput (s := st { t with l := t.c[t.a] } none none) (t := { t with l := t.c[t.a] }) (v := op2 addO (op2 atO (nm 0) (ck (.str "at"))) (ck (.int 1))) (M := M) (h0 _ _ _) rfl hn (e_op2 (e_tat (h0 _ _ _) rfl hn (tget_a { t with l := t.c[t.a] })) ev_ck addO_ii) (tput_a _ (t.a + 1))
      exact p2
  obtain ⟨t1, k1⟩ := k1
  have mi : (0 : Int) < (m : Int) := by omega
  have md : (0 : Int) < (m : Int) ∧ (m : Int) < 1073741824 := by omega
  have rg : ∀ z : Int, ∃ r : Nat, z % (m : Int) = (r : Int) ∧ r < m := fun z => by
    have h1 := Int.emod_nonneg z (b := (m : Int)) (by omega)
    have h2 := Int.emod_lt_of_pos z mi
    exact ⟨(z % (m : Int)).toNat, by omega, by omega⟩
  have c2 : tst (op2 gtO (op2 atO (nm 0) (ck (.str "left"))) (ck (.int 0))) (st t1 none none) = some (.ok (decide (0 < t1.l)), st t1 none none) := e_tst (e_op2 (e_tat (h0 _ _ _) rfl hn (tget_l t1)) ev_ck gtO_ii)
  by_cases hl : 0 < t1.l
  · obtain ⟨r, hr, hlt⟩ := rg t1.l
    refine ⟨r, { t1 with l := t1.l / (m : Int) }, hlt, ?_⟩
    let t2 : Tp := { t1 with l := t1.l / (m : Int) }
    have kb : fb__law_take ⟨start0 4 [.ob n, .fz (.int (m : Int))], M.set n (.dK (tpD t))⟩ = some (.ok (.rt (.fz (.int (r : Int)))), st t2 (some (.fz (.int r))) none) := by
      unfold fb__law_take
      show seqS _ _ (st t none none) = _
      rw [ev_seq k1]
      have i1 : asgS (op2 modO (opN intO (aC (op2 atO (nm 0) (ck (.str "left"))) aN)) (nm 1)) (gNm 2) (st t1 none none) = some (.ok .nx, st t1 (some (.fz (.int r))) none) := e_asg (e_op2 (e_opN (e_a1 (e_tat (h0 _ _ _) rfl hn (tget_l t1))) intO_i) (ev_nm rfl) (by rw [modO_i mi, hr]))
      have i2 : putS (op2 fdvO (op2 atO (nm 0) (ck (.str "left"))) (nm 1)) (nm 0) (ck (.str "left")) (st t1 (some (.fz (.int r))) none) = some (.ok .nx, st t2 (some (.fz (.int r))) none) := e_tput (t := t1) (h0 _ _ _) rfl hn (e_op2 (e_tat (h0 _ _ _) rfl hn (tget_l t1)) (ev_nm rfl) (fdvO_i md)) (tput_l _ _)
      have i3 : ifS (tst (op2 gtO (op2 atO (nm 0) (ck (.str "left"))) (ck (.int 0)))) (seqS (asgS (op2 modO (opN intO (aC (op2 atO (nm 0) (ck (.str "left"))) aN)) (nm 1)) (gNm 2))
  (seqS (putS (op2 fdvO (op2 atO (nm 0) (ck (.str "left"))) (nm 1)) (nm 0) (ck (.str "left")))
  (retS (nm 2)))) nxS (st t1 none none) = some (.ok (.rt (.fz (.int (r : Int)))), st t2 (some (.fz (.int r))) none) := by
        rw [e_if c2, decide_eq_true hl, if_pos rfl, ev_seq i1, ev_seq i2]
        exact e_ret (ev_nm rfl)
      exact ev_seqR i3
    unfold fnD
    rw [kb]
    have tr : trunc (M.set n (.dK (tpD t))) (M.set n (.dK (tpD t2))) = some (M.set n (.dK (tpD t2))) := by
      have := trunc_set0 (M := M.set n (.dK (tpD t))) (n := n) (m := .dK (tpD t2)) rfl
      rwa [List.set_set] at this
    show ((trunc (M.set n (.dK (tpD t))) (M.set n (.dK (tpD t2)))).map fun M2 => (W.fz (.int (r : Int)), M2)).map _ = _
    rw [tr]
    rfl
  · let t2 : Tp := { t1 with sa := t1.sa + 1 }
    let x1 : Int := (t2.se * 48271 + t2.sa * 69621) % 2147483647
    let x2 : Int := (x1 * x1 + t2.sa * 40692 + 12345) % 2147483399
    obtain ⟨r, hr, hlt⟩ := rg x2
    refine ⟨r, t2, hlt, ?_⟩
    have kb : fb__law_take ⟨start0 4 [.ob n, .fz (.int (m : Int))], M.set n (.dK (tpD t))⟩ = some (.ok (.rt (.fz (.int (r : Int)))), st t2 none (some (.fz (.int x2)))) := by
      unfold fb__law_take
      show seqS _ _ (st t none none) = _
      rw [ev_seq k1]
      have i3 : ∀ p, ifS (tst (op2 gtO (op2 atO (nm 0) (ck (.str "left"))) (ck (.int 0)))) p nxS (st t1 none none) = some (.ok .nx, st t1 none none) := fun p => by
        rw [e_if c2, decide_eq_false hl]
        rfl
      have i4 : putS (op2 addO (op2 atO (nm 0) (ck (.str "salt"))) (ck (.int 1))) (nm 0) (ck (.str "salt")) (st t1 none none) = some (.ok .nx, st t2 none none) := e_tput (t := t1) (h0 _ _ _) rfl hn (e_op2 (e_tat (h0 _ _ _) rfl hn (tget_sa t1)) ev_ck addO_ii) (tput_sa _ _)
      have i5 : asgS (op2 modO (opN intO (aC (op2 addO (op2 mulO (op2 atO (nm 0) (ck (.str "seed"))) (ck (.int 48271))) (op2 mulO (op2 atO (nm 0) (ck (.str "salt"))) (ck (.int 69621)))) aN)) (ck (.int 2147483647))) (gNm 3) (st t2 none none) = some (.ok .nx, st t2 none (some (.fz (.int x1)))) :=
        e_asg (e_op2 (e_opN (e_a1 (e_op2 (e_op2 (e_tat (h0 _ _ _) rfl hn (tget_se t2)) ev_ck (mulO_i (.inr (by decide)))) (e_op2 (e_tat (h0 _ _ _) rfl hn (tget_sa t2)) ev_ck (mulO_i (.inr (by decide)))) addO_ii)) intO_i) ev_ck (modO_i (by decide)))
      have xb : -(2 ^ 64) < x1 ∧ x1 < 2 ^ 64 := by
        have h1 := Int.emod_nonneg (t2.se * 48271 + t2.sa * 69621) (b := 2147483647) (by decide)
        have h2 := Int.emod_lt_of_pos (t2.se * 48271 + t2.sa * 69621) (b := 2147483647) (by decide)
        have e : x1 = (t2.se * 48271 + t2.sa * 69621) % 2147483647 := rfl
        rw [e]
        omega
      have i6 : asgS (op2 modO (opN intO (aC (op2 addO (op2 addO (op2 mulO (nm 3) (nm 3)) (op2 mulO (op2 atO (nm 0) (ck (.str "salt"))) (ck (.int 40692)))) (ck (.int 12345))) aN)) (ck (.int 2147483399))) (gNm 3) (st t2 none (some (.fz (.int x1)))) = some (.ok .nx, st t2 none (some (.fz (.int x2)))) :=
        e_asg (e_op2 (e_opN (e_a1 (e_op2 (e_op2 (e_op2 (ev_nm rfl) (ev_nm rfl) (mulO_i (.inl xb))) (e_op2 (e_tat (h0 _ _ _) rfl hn (tget_sa t2)) ev_ck (mulO_i (.inr (by decide)))) addO_ii) ev_ck addO_ii)) intO_i) ev_ck (modO_i (by decide)))
      rw [ev_seq (i3 _), ev_seq i4, ev_seq i5, ev_seq i6]
      exact e_ret (e_op2 (e_opN (e_a1 (ev_nm rfl)) intO_i) (ev_nm rfl) (by rw [modO_i mi, hr]))
    unfold fnD
    rw [kb]
    have tr : trunc (M.set n (.dK (tpD t))) (M.set n (.dK (tpD t2))) = some (M.set n (.dK (tpD t2))) := by
      have := trunc_set0 (M := M.set n (.dK (tpD t))) (n := n) (m := .dK (tpD t2)) rfl
      rwa [List.set_set] at this
    show ((trunc (M.set n (.dK (tpD t))) (M.set n (.dK (tpD t2)))).map fun M2 => (W.fz (.int (r : Int)), M2)).map _ = _
    rw [tr]
    rfl
end PD

noncomputable section
namespace PD
open PySem L2 PyProof.Rows
theorem s_law_tape (ns : List Int) (M : List MO) (hn : ns.length ≤ 63) : ∃ t : Tp, fs__law_tape [.fz (.sl (ns.map .int))] M = some (.ok (.ob M.length), M ++ [.dK (tpD t)]) := by
  let cs : List Int := ns.map fun i => if i < 0 then -i else i
  let a0 : W := .fz (.sl (ns.map .int))
  let cw : W := .fz (.lst (cs.map .int))
  let st := fun (se : Int) (o : Option W) => (⟨[some a0, some cw, some (.fz (.int se)), o], M⟩ : S)
  have k1 : asgS (frz (lcM (walk (nm 0)) [3] (gNm 3) (ret true) (opN absO (aC (opN intO (aC (nm 3) aN)) aN)))) (gNm 1) ⟨start0 4 [a0], M⟩ = some (.ok .nx, ⟨[some a0, some cw, none, none], M⟩) := by
    have := e_lcA (f := walk (nm 0)) (vs := [3]) (g := gNm 3) (e := opN absO (aC (opN intO (aC (nm 3) aN)) aN)) (s := ⟨start0 4 [a0], M⟩) (l := ns) (em := fun i => .fz (.int i)) (ff := fun i => .int (if i < 0 then -i else i))
      (e_walk (ev_nm rfl) (show some (Wk.of ((ns.map D.int).map .fz)) = _ by rw [List.map_map]; rfl)) (lim_of (m := 63) hn) (fun i _ => ⟨⟨[some a0, none, none, some (.fz (.int i))], M⟩, rfl, rfl, e_opN (e_a1 (e_opN (e_a1 (ev_nm rfl)) intO_i)) rfl⟩)
    refine (e_asg this).trans ?_
    show some (Except.ok Fl.nx, (⟨[some a0, some (.fz (.lst (ns.map fun i => .int (if i < 0 then -i else i)))), none, none], M⟩ : S)) = some (.ok .nx, ⟨[some a0, some (.fz (.lst ((ns.map fun i => if i < 0 then -i else i).map .int))), none, none], M⟩)
    rw [List.map_map]
    rfl
  obtain ⟨s2, h2, se, o, e⟩ := forL_ind (g := gNm 3) (b := asgS (op2 modO (opN intO (aC (op2 addO (op2 mulO (nm 2) (ck (.int 31))) (nm 3)) aN)) (ck (.int 2147483647))) (gNm 2)) (ok := fun _ => true)
    (fun i s => ∃ se o, s = st se o) (cs.map fun i => .fz (.int i)) 0 (st 7 none)
    (fun i w s hw ⟨se, o, hs⟩ => by
      subst hs
      obtain ⟨c, hc, rfl⟩ := getD hw
      refine ⟨rfl, st ((se * 31 + c) % 2147483647) (some (.fz (.int c))), .inl ?_, _, _, rfl⟩
      rw [ev_bnd (show gNm 3 (.fz (.int c)) (st se o) = some (.ok (), st se (some (.fz (.int c)))) from rfl)]
      exact e_asg (e_op2 (e_opN (e_a1 (e_op2 (e_op2 (ev_nm rfl) ev_ck (mulO_i (.inr (by decide)))) (ev_nm rfl) addO_ii)) intO_i) ev_ck (modO_i (by decide))))
    (fun _ _ => rfl) ⟨7, none, rfl⟩
  refine ⟨⟨cs, 0, 0, se, 0⟩, ?_⟩
  rw [show fs__law_tape = fnD 4 fb__law_tape from rfl]
  have kb : fb__law_tape ⟨start0 4 [a0], M⟩ = some (.ok (.rt (.ob M.length)), ⟨(st se o).r, M ++ [.dK (tpD ⟨cs, 0, 0, se, 0⟩)]⟩) := by
    unfold fb__law_tape
    have k2 : asgS (ck (.int 7)) (gNm 2) ⟨[some a0, some cw, none, none], M⟩ = some (.ok .nx, st 7 none) := rfl
    have kw : walk (nm 1) (st 7 none) = some (.ok (Wk.of (cs.map fun i => .fz (.int i))), st 7 none) := e_walk (ev_nm rfl) (show some (Wk.of ((cs.map D.int).map .fz)) = _ by rw [List.map_map]; rfl)
    rw [ev_seq k1, ev_seq k2, ev_seq ((ev_for kw).trans h2), e]
    rfl
  unfold fnD
  rw [kb]
  have hnl : ¬ M.length < M.length := by omega
  show (retW M (.ob M.length) (M ++ [.dK (tpD ⟨cs, 0, 0, se, 0⟩)])).map _ = _
  unfold retW
  simp only [hnl, if_false, get_last]
  rw [if_pos (show noLab (.dK (tpD ⟨cs, 0, 0, se, 0⟩)) = true from rfl), trunc_same]
  rfl
/-! ### names -/
theorem e_putF {s : S} {n : Nat} {f : FS} {p t : Str} {v k : Mo W} {o : Nat} {M : List MO} (h0 : nm o s = some (.ok (.ob n), s)) (hm : s.m = M.set n (.dK (eF f))) (hn : n < M.length) (hl : f.length < 1000000) (hv : v s = some (.ok (.fz (.str t)), s)) (hk : k s = some (.ok (.fz (.str p)), s)) : putS v (nm o) k s = some (.ok .nx, ⟨s.r, M.set n (.dK (eF (putF f p t)))⟩) := by
  unfold putS asgS
  rw [ev_bnd hv]
  have k : gSb (nm o) k (.fz (.str t)) s = some (.ok (), ⟨s.r, M.set n (.dK (eF (putF f p t)))⟩) := by
    unfold gSb
    rw [ev_bnd h0, ev_bnd hk]
    have st : stO s.m (.ob n) (.fz (.str p)) (.fz (.str t)) = some (M.set n (.dK (eF (putF f p t)))) := by
      have hg := List.getElem?_set_self (a := MO.dK (eF f)) hn
      rw [hm]
      unfold stO
      simp only [hg, keyW, keyD]
      have hl2 : (eF f).length < LIM := by rw [len_eF]; show _ < 16777216; omega
      rw [if_pos hl2, dput_eF, List.set_set]
    simp only [st]
  exact (ev_bnd k).trans rfl
theorem putF_len (f : FS) (p t : Str) : (putF f p t).length ≤ f.length + 1 := ap_len f (p, some t)
theorem s_law_name (n : Nat) (f : FS) (x : Str) (M : List MO) (hn : n < M.length) (hl : f.length < 100000) (hx : x.length ≤ LIM) : ∃ f' : FS, f'.length ≤ f.length + 2 ∧ fs__law_name [.ob n, .fz (.str x)] (M.set n (.dK (eF f))) = some (.ok (.fz (.str (dig x))), M.set n (.dK (eF f'))) := by
  let st := fun (f : FS) (o : Option W) => (⟨[some (.ob n), some (.fz (.str x)), o], M.set n (.dK (eF f))⟩ : S)
  let tw : W := .fz (.str (dig x))
  have k1 : asgS (callF 1 fs__law_digest (aC (nm 1) aN)) (gNm 2) (st f none) = some (.ok .nx, st f (some tw)) := e_asg (e_call (e_a1 (ev_nm rfl)) rfl (s_law_digest x _ hx))
  have c : ∃ b, tst (op2 neO (get2 (nm 0) (nm 2) (nm 1)) (nm 1)) (st f (some tw)) = some (.ok b, st f (some tw)) := by
    have hd : asD (st f (some tw)).m (.ob n) = some (eF f) := asD_set hn
    have hc : isDc (st f (some tw)).m (.ob n) = true := by unfold isDc; rw [hd]; rfl
    refine ⟨!(((gF f (dig x)).getD x) == x), e_tst (e_op2 (e_get2 (ev_nm rfl) hc (ev_nm rfl) (ev_nm rfl) (v := .fz (.str ((gF f (dig x)).getD x))) ?_) (ev_nm rfl) neO_ss)⟩
    unfold getO
    rw [hd]
    simp only [keyW, keyD, dget_eF, tw]
    cases gF f (dig x) <;> rfl
  obtain ⟨b, c⟩ := c
  have k2 : ∃ f1 : FS, f1.length ≤ f.length + 1 ∧ ifS (tst (op2 neO (get2 (nm 0) (nm 2) (nm 1)) (nm 1))) (putS (nm 2) (nm 0) (ck (.str "clash"))) nxS (st f (some tw)) = some (.ok .nx, st f1 (some tw)) := by
    rw [e_if c]
    cases b with
    | false => exact ⟨f, by omega, rfl⟩
    | true => exact ⟨putF f "clash" (dig x), putF_len _ _ _, e_putF (M := M) (ev_nm rfl) rfl hn (by omega) (ev_nm rfl) ev_ck⟩
  obtain ⟨f1, hf1, k2⟩ := k2
  have k3 : putS (nm 1) (nm 0) (nm 2) (st f1 (some tw)) = some (.ok .nx, st (putF f1 (dig x) x) (some tw)) := e_putF (M := M) (ev_nm rfl) rfl hn (by omega) (ev_nm rfl) (ev_nm rfl)
  refine ⟨putF f1 (dig x) x, Nat.le_trans (putF_len _ _ _) (by omega), ?_⟩
  rw [show fs__law_name = fnD 3 fb__law_name from rfl]
  have kb : fb__law_name ⟨start0 3 [.ob n, .fz (.str x)], M.set n (.dK (eF f))⟩ = some (.ok (.rt tw), st (putF f1 (dig x) x) (some tw)) := by
    unfold fb__law_name
    show seqS _ _ (st f none) = _
    rw [ev_seq k1, ev_seq k2, ev_seq k3]
    exact e_ret (ev_nm rfl)
  unfold fnD
  rw [kb]
  have tr : trunc (M.set n (.dK (eF f))) (M.set n (.dK (eF (putF f1 (dig x) x)))) = some (M.set n (.dK (eF (putF f1 (dig x) x)))) := by
    have := trunc_set0 (M := M.set n (.dK (eF f))) (n := n) (m := .dK (eF (putF f1 (dig x) x))) rfl
    rwa [List.set_set] at this
  show ((trunc (M.set n (.dK (eF f))) (M.set n (.dK (eF (putF f1 (dig x) x))))).map fun M2 => (tw, M2)).map _ = _
  rw [tr]
  rfl
/-! ### files that are drawn -/
def nmK (k : Nat) : Str := match k with
  | 0 => "a/o"
  | 1 => "b/n/s.txt"
  | 2 => "b/o.txt"
  | _ => "c"
def txF (r c : Nat) : Str := (("v" : Str) ++ strI r) ++ repS ("\n" : Str) c
/-- what may be drawn -/
structure FD (m : Nat) (f : FS) : Prop where
  ks : ∃ ks : List Nat, ks.Sublist (List.range m) ∧ kF f = ks.map nmK
  vs : ∀ q ∈ f, ∃ r c, r < 6 ∧ c < 2 ∧ q.2 = txF r c
theorem FD.nil : FD 0 [] := ⟨⟨[], by simp, rfl⟩, by simp⟩
theorem FD.skip {m : Nat} {f : FS} (h : FD m f) : FD (m + 1) f := by
  obtain ⟨ks, h1, h2⟩ := h.ks
  refine ⟨⟨ks, ?_, h2⟩, h.vs⟩
  rw [List.range_succ]
  exact h1.trans (List.sublist_append_left _ _)
theorem FD.take {m : Nat} {f : FS} (h : FD m f) {r c : Nat} (hr : r < 6) (hc : c < 2) : FD (m + 1) (f ++ [(nmK m, txF r c)]) := by
  obtain ⟨ks, h1, h2⟩ := h.ks
  refine ⟨⟨ks ++ [m], ?_, ?_⟩, ?_⟩
  · rw [List.range_succ]
    exact h1.append (List.Sublist.refl _)
  · unfold kF at *
    rw [List.map_append, List.map_append, h2]
    rfl
  · intro q hq
    rcases List.mem_append.mp hq with hq | hq
    · exact h.vs q hq
    · simp at hq
      subst hq
      exact ⟨r, c, hr, hc, rfl⟩
theorem e_take {s : S} {n i : Nat} {t : Tp} {M : List MO} (m : Nat) (mi : Int) (h0 : nm i s = some (.ok (.ob n), s)) (hm : s.m = M.set n (.dK (tpD t))) (hn : n < M.length) (hb : 0 < m ∧ m < 1000) (e : mi = (m : Int)) : ∃ (r : Nat) (t' : Tp), r < m ∧ callF 2 fs__law_take (aC (nm i) (aC (ck (.int mi)) aN)) s = some (.ok (.fz (.int (r : Int))), ⟨s.r, M.set n (.dK (tpD t'))⟩) := by
  obtain ⟨r, t', hr, h⟩ := s_law_take n m t M hn hb
  subst e
  refine ⟨r, t', hr, x_call (e_a2 h0 ev_ck) rfl ?_⟩
  rw [hm]
  exact h
def elF : Mo W := (opN tupO (aC (op2 atO (opN lstO (aC (ck (.str "a/o")) (aC (ck (.str "b/n/s.txt")) (aC (ck (.str "b/o.txt")) (aC (ck (.str "c")) (aC (ck (.str "d/e")) aN)))))) (nm 2)) (aC (op2 addO (op2 addO (ck (.str "v")) (opN strO (aC (callF 2 fs__law_take (aC (nm 0) (aC (ck (.int 6)) aN))) aN))) (op2 mulO (ck (.str "\n")) (callF 2 fs__law_take (aC (nm 0) (aC (ck (.int 2)) aN))))) aN)))
def teF : Mo Bool := (orT (tst (op2 eqO (nm 2) (ck (.int 0)))) (tst (op2 eqO (callF 2 fs__law_take (aC (nm 0) (aC (ck (.int 2)) aN))) (ck (.int 0)))))
def stF (n : Nat) (M : List MO) (t : Tp) (o : Option W) : S := ⟨[some (.ob n), some (.fz (.int 4)), o], M.set n (.dK (tpD t))⟩
def prW (k r c : Nat) : D := .tup [.str (nmK k), .str (txF r c)]
theorem nmK_at {M : List MO} {k : Nat} (hk : k < 4) : atO M (.fz (.lst [.str "a/o", .str "b/n/s.txt", .str "b/o.txt", .str "c", .str "d/e"])) (.fz (.int (k : Int))) = some (.fz (.str (nmK k))) := by
  show (L2.atI [D.str "a/o", .str "b/n/s.txt", .str "b/o.txt", .str "c", .str "d/e"] (k : Int)).map W.fz = _
  have h : [D.str "a/o", .str "b/n/s.txt", .str "b/o.txt", .str "c", .str "d/e"][k]? = some (.str (nmK k)) := by
    rcases k with _ | _ | _ | _ | k
    · rfl
    · rfl
    · rfl
    · rfl
    · omega
  rw [L2.atI_nat h]
  rfl
theorem el_ev {n k : Nat} {M : List MO} {t : Tp} (hn : n < M.length) (hk : k < 4) : ∃ r c t', r < 6 ∧ c < 2 ∧ elF (stF n M t (some (.fz (.int (k : Int))))) = some (.ok (.fz (prW k r c)), stF n M t' (some (.fz (.int (k : Int))))) := by
  let o : Option W := some (.fz (.int (k : Int)))
  obtain ⟨r, t1, hr, h1⟩ := e_take (s := stF n M t o) (i := 0) 6 6 (ev_nm rfl) rfl hn (by decide) rfl
  obtain ⟨c, t2, hc, h2⟩ := e_take (s := stF n M t1 o) (i := 0) 2 2 (ev_nm rfl) rfl hn (by decide) rfl
  refine ⟨r, c, t2, hr, hc, ?_⟩
  have hl : opN lstO (aC (ck (.str "a/o")) (aC (ck (.str "b/n/s.txt")) (aC (ck (.str "b/o.txt")) (aC (ck (.str "c")) (aC (ck (.str "d/e")) aN))))) (stF n M t o) = some (.ok (.fz (.lst [.str "a/o", .str "b/n/s.txt", .str "b/o.txt", .str "c", .str "d/e"])), stF n M t o) := by
    refine e_opN (e_aC ev_ck (e_aC ev_ck (e_aC ev_ck (e_aC ev_ck (e_a1 ev_ck))))) ?_
    unfold lstO
    exact if_pos (by decide : (5 : Nat) ≤ LIM)
  have ha : op2 atO (opN lstO (aC (ck (.str "a/o")) (aC (ck (.str "b/n/s.txt")) (aC (ck (.str "b/o.txt")) (aC (ck (.str "c")) (aC (ck (.str "d/e")) aN)))))) (nm 2) (stF n M t o) = some (.ok (.fz (.str (nmK k))), stF n M t o) := e_op2 hl (ev_nm rfl) (nmK_at hk)
  have ls : (strI r).length ≤ 9 := strI_len (by omega)
  have b1 : Str.length "v" = 1 := by decide
  have b2 : Str.length "\n" = 1 := by decide
  have hs : op2 addO (ck (.str "v")) (opN strO (aC (callF 2 fs__law_take (aC (nm 0) (aC (ck (.int 6)) aN))) aN)) (stF n M t o) = some (.ok (.fz (.str (("v" : Str) ++ strI r))), stF n M t1 o) := x_op2 ev_ck (x_opN (x_a1 h1) (strO_big (by omega))) (addS (by omega) rfl)
  have hm : op2 mulO (ck (.str "\n")) (callF 2 fs__law_take (aC (nm 0) (aC (ck (.int 2)) aN))) (stF n M t1 o) = some (.ok (.fz (.str (repS "\n" c))), stF n M t2 o) := by
    refine x_op2 ev_ck h2 ?_
    have e : ((c : Int)).toNat = c := by omega
    unfold mulO
    simp only [e]
    exact if_pos ⟨by omega, by omega, lim_of (m := 2) (by rw [b2]; omega)⟩
  have lr : (repS ("\n" : Str) c).length ≤ 2 := by
    have : ∀ c : Fin 2, (repS ("\n" : Str) c).length ≤ 2 := by decide
    exact this ⟨c, hc⟩
  have ht : op2 addO (op2 addO (ck (.str "v")) (opN strO (aC (callF 2 fs__law_take (aC (nm 0) (aC (ck (.int 6)) aN))) aN))) (op2 mulO (ck (.str "\n")) (callF 2 fs__law_take (aC (nm 0) (aC (ck (.int 2)) aN)))) (stF n M t o) = some (.ok (.fz (.str (txF r c))), stF n M t2 o) := x_op2 hs hm (addS (x := ("v" : Str) ++ strI r) (by rw [app_len]; omega) rfl)
  exact x_opN (x_a2 ha ht) tup2
theorem some_step {n k : Nat} {M : List MO} {t : Tp} {ws acc : List W} (hn : n < M.length) (hk : k < 4) (hl : acc.length < 1000) :
    ∃ t', (∃ r c, r < 6 ∧ c < 2 ∧ cmpL (gNm 2) teF (lcE elF) [some (.ob n), some (.fz (.int 4)), none] (fun _ => true) (.fz (.int (k : Int)) :: ws) acc (stF n M t none) = cmpL (gNm 2) teF (lcE elF) [some (.ob n), some (.fz (.int 4)), none] (fun _ => true) ws (acc ++ [.fz (prW k r c)]) (stF n M t' none)) ∨
      cmpL (gNm 2) teF (lcE elF) [some (.ob n), some (.fz (.int 4)), none] (fun _ => true) (.fz (.int (k : Int)) :: ws) acc (stF n M t none) = cmpL (gNm 2) teF (lcE elF) [some (.ob n), some (.fz (.int 4)), none] (fun _ => true) ws acc (stF n M t' none) := by
  let o : Option W := some (.fz (.int (k : Int)))
  have ht : ∃ b t1, teF (stF n M t o) = some (.ok b, stF n M t1 o) := by
    have c1 : tst (op2 eqO (nm 2) (ck (.int 0))) (stF n M t o) = some (.ok ((k : Int) == 0), stF n M t o) := e_tst (e_op2 (ev_nm rfl) ev_ck eqO_ii)
    unfold teF
    cases hb : ((k : Int) == 0) with
    | true =>
      rw [hb] at c1
      exact ⟨true, t, by unfold orT; rw [ev_bnd c1]; rfl⟩
    | false =>
      rw [hb] at c1
      obtain ⟨r, t1, _, h1⟩ := e_take (s := stF n M t o) (i := 0) 2 2 (ev_nm rfl) rfl hn (by decide) rfl
      refine ⟨((r : Int) == 0), t1, ?_⟩
      exact x_orF c1 (x_tst (x_op2 h1 ev_ck eqO_ii))
  obtain ⟨b, t1, ht⟩ := ht
  have g1 : gNm 2 (.fz (.int (k : Int))) (stF n M t none) = some (.ok (), stF n M t o) := rfl
  cases b with
  | false =>
    refine ⟨t1, .inr ?_⟩
    conv => lhs; unfold cmpL
    simp only [if_true]
    rw [ev_bnd g1, ev_bnd ht]
    rfl
  | true =>
    obtain ⟨r, c, t2, hr, hc, he⟩ := el_ev (t := t1) hn hk
    refine ⟨t2, .inl ⟨r, c, hr, hc, ?_⟩⟩
    conv => lhs; unfold cmpL
    simp only [if_true]
    rw [ev_bnd g1, ev_bnd ht]
    have hs : lcE elF acc (stF n M t1 o) = some (.ok (acc ++ [.fz (prW k r c)]), stF n M t2 o) := by
      unfold lcE
      rw [ev_bnd he, if_pos (show acc.length < LIM from Nat.lt_trans hl (by decide))]
      rfl
    simp only [if_true]
    rw [ev_bnd hs]
    rfl
theorem some_go {n : Nat} {M : List MO} (hn : n < M.length) : ∀ (j k : Nat) (t : Tp) (f : FS), j + k = 4 → FD k f → f.length < 900 → ∃ t' f', FD 4 f' ∧ cmpL (gNm 2) teF (lcE elF) [some (.ob n), some (.fz (.int 4)), none] (fun _ => true) ((List.range' k j).map fun (i : Nat) => .fz (.int (i : Int))) (f.map fun q => .fz (.tup [.str q.1, .str q.2])) (stF n M t none) = some (.ok (f'.map fun q => .fz (.tup [.str q.1, .str q.2])), stF n M t' none)
  | 0, k, t, f, e, h, _ => by
    have : k = 4 := by omega
    subst this
    exact ⟨t, f, h, rfl⟩
  | j + 1, k, t, f, e, h, hl => by
    rw [List.range'_succ, List.map_cons]
    obtain ⟨t1, hh⟩ := some_step (n := n) (k := k) (M := M) (t := t) (ws := (List.range' (k + 1) j).map fun (i : Nat) => .fz (.int (i : Int))) (acc := f.map fun q => .fz (.tup [.str q.1, .str q.2])) hn (by omega) (by rw [List.length_map]; omega)
    rcases hh with ⟨r, c, hr, hc, hh⟩ | hh
    · obtain ⟨t2, f2, h1, h2⟩ := some_go hn j (k + 1) t1 (f ++ [(nmK k, txF r c)]) (by omega) (h.take hr hc) (by
        have hk2 : f.length ≤ 4 := by
          obtain ⟨ks, k1, k2⟩ := h.ks
          have := congrArg List.length k2
          rw [kF_len, List.length_map] at this
          have := k1.length_le
          rw [List.length_range] at this
          omega
        simp
        omega)
      refine ⟨t2, f2, h1, ?_⟩
      rw [hh]
      rw [List.map_append] at h2
      exact h2
    · obtain ⟨t2, f2, h1, h2⟩ := some_go hn j (k + 1) t1 f (by omega) h.skip hl
      exact ⟨t2, f2, h1, hh.trans h2⟩
theorem nmK_nodup : ((List.range 4).map nmK).Nodup := by decide
theorem nmK_len : ∀ k : Nat, (nmK k).length ≤ 9 := fun k => by
  rcases k with _ | _ | _ | k
  · decide
  · decide
  · decide
  · show Str.length "c" ≤ 9
    decide
theorem txF_len {r c : Nat} (hr : r < 6) (hc : c < 2) : (txF r c).length ≤ 20 := by
  unfold txF
  have ls : (strI r).length ≤ 9 := strI_len (by omega)
  have b1 : Str.length "v" = 1 := by decide
  have lr : (repS ("\n" : Str) c).length ≤ 2 := by
    have : ∀ c : Fin 2, (repS ("\n" : Str) c).length ≤ 2 := by decide
    exact this ⟨c, hc⟩
  simp only [app_len]
  omega
theorem FD.sub {f : FS} (h : FD 4 f) : (kF f).Sublist ((List.range 4).map nmK) := by
  obtain ⟨ks, h1, h2⟩ := h.ks
  rw [h2]
  exact h1.map _
theorem FD.nd {f : FS} (h : FD 4 f) : (kF f).Nodup := nmK_nodup.sublist h.sub
theorem FD.len {f : FS} (h : FD 4 f) : f.length ≤ 4 := by
  have := h.sub.length_le
  rw [kF_len] at this
  simpa using this
theorem FD.mem {f : FS} (h : FD 4 f) {q : Str × Str} (hq : q ∈ f) : ∃ k, k < 4 ∧ q.1 = nmK k := by
  have := h.sub.subset (List.mem_map.mpr ⟨q, hq, rfl⟩)
  obtain ⟨k, h1, h2⟩ := List.mem_map.mp this
  exact ⟨k, List.mem_range.mp h1, h2.symm⟩
theorem FD.small {f : FS} (h : FD 4 f) : Small f := by
  refine ⟨h.nd, by have := h.len; omega, fun q hq => ?_, fun q hq => ?_⟩
  · obtain ⟨k, _, e⟩ := h.mem hq
    rw [e]
    have := nmK_len k
    omega
  · obtain ⟨r, c, hr, hc, e⟩ := h.vs q hq
    rw [e]
    have := txF_len hr hc
    omega
theorem nm_sorted : (((List.range 4).map nmK).map tl).Pairwise (· < ·) := by decide
theorem FD.fok {f : FS} (h : FD 4 f) : FOK f := by
  have inc : ((kF f).map tl).Pairwise (· < ·) := nm_sorted.sublist (h.sub.map tl)
  refine ⟨?_, ?_, by have := h.len; omega, fun q hq => ?_, fun q hq => ?_, fun q hq => ?_, Nat.le_trans (img_small h.small) (by decide)⟩
  · unfold sortS
    apply List.mergeSort_of_pairwise
    rw [List.pairwise_map] at inc
    exact inc.imp fun {a b} hab => by
      unfold leS
      have : ¬ b.cps.toList < a.cps.toList := fun e => List.lt_irrefl _ (List.lt_trans (show tl a < tl b from hab) e)
      rw [decide_eq_false this]
      rfl
  · unfold kF at inc
    rw [List.map_map] at inc
    exact inc
  · obtain ⟨k, hk, e⟩ := h.mem hq
    rw [e]
    have : ∀ k : Fin 4, tl (nmK k) ≠ [] := by decide
    exact this ⟨k, hk⟩
  · obtain ⟨k, hk, e⟩ := h.mem hq
    rw [e]
    have : ∀ k : Fin 4, 32 ∉ tl (nmK k) := by decide
    exact this ⟨k, hk⟩
  · obtain ⟨k, hk, e⟩ := h.mem hq
    rw [e]
    have : ∀ k : Fin 4, 10 ∉ tl (nmK k) := by decide
    exact this ⟨k, hk⟩
theorem s_law_some_files (n : Nat) (t : Tp) (M : List MO) (hn : n < M.length) : ∃ (t' : Tp) (f : FS), FD 4 f ∧ fs__law_some_files [.ob n, .fz (.int 4)] (M.set n (.dK (tpD t))) = some (.ok (.fz (.dK (eF f))), M.set n (.dK (tpD t'))) := by
  obtain ⟨t', f, hf, hc⟩ := some_go (n := n) (M := M) hn 4 0 t [] rfl FD.nil (by decide)
  refine ⟨t', f, hf, ?_⟩
  rw [show fs__law_some_files = fnD 3 fb__law_some_files from rfl]
  have kb : fb__law_some_files ⟨start0 3 [.ob n, .fz (.int 4)], M.set n (.dK (tpD t))⟩ = some (.ok (.rt (.fz (.dK (eF f)))), stF n M t' none) := by
    have kl : frz (lcM (rng1 (aC (nm 1) aN)) [2] (gNm 2) teF elF) (stF n M t none) = some (.ok (.fz (.lst (f.map fun q => .tup [.str q.1, .str q.2]))), stF n M t' none) := by
      have kr : rng1 (aC (nm 1) aN) (stF n M t none) = some (.ok (Wk.of (rngV 0 ((4 : Nat) : Int))), stF n M t none) := ev_rng1 (e_a1 (ev_nm rfl)) (by decide)
      refine x_frz (m := .lst (f.map fun q => .tup [.str q.1, .str q.2])) ?_ rfl
      unfold lcM cmpM
      rw [ev_bnd kr]
      have e0 : (wipeR (stF n M t none).r [2]) = [some (.ob n), some (.fz (.int 4)), none] := rfl
      have e1 : (Wk.of (rngV 0 ((4 : Nat) : Int))).ws = (List.range' 0 4).map fun (i : Nat) => .fz (.int (i : Int)) := rfl
      have e2 : (Wk.of (rngV 0 ((4 : Nat) : Int))).ok = fun _ => true := rfl
      have hc : cmpL (gNm 2) teF (lcE elF) [some (.ob n), some (.fz (.int 4)), none] (fun _ => true) ((List.range' 0 4).map fun (i : Nat) => .fz (.int (i : Int))) [] ⟨[some (.ob n), some (.fz (.int 4)), none], M.set n (.dK (tpD t))⟩ = _ := hc
      simp only [e0, e1, e2]
      rw [show ({ r := [some (.ob n), some (.fz (.int 4)), none], m := (stF n M t none).m } : S) = ⟨[some (.ob n), some (.fz (.int 4)), none], M.set n (.dK (tpD t))⟩ from rfl, hc]
      have : mkL (f.map fun q => W.fz (.tup [.str q.1, .str q.2])) = .lst (f.map fun q => .tup [.str q.1, .str q.2]) := by
        rw [← mkL_fz, List.map_map]
        rfl
      simp only [this]
      rfl
    unfold fb__law_some_files
    exact e_ret (x_frz (x_opO (x_a1 kl) (dictO_prs hf.nd)) rfl)
  unfold fnD
  rw [kb]
  have tr : trunc (M.set n (.dK (tpD t))) (M.set n (.dK (tpD t'))) = some (M.set n (.dK (tpD t'))) := by
    have := trunc_set0 (M := M.set n (.dK (tpD t))) (n := n) (m := .dK (tpD t')) rfl
    rwa [List.set_set] at this
  show ((trunc (M.set n (.dK (tpD t))) (M.set n (.dK (tpD t')))).map fun M2 => (W.fz (.dK (eF f)), M2)).map _ = _
  rw [tr]
  rfl
end PD

noncomputable section
namespace PD
open PySem L2 PyProof.Rows
/-! ### what is equal to itself -/
theorem all2_refl {f : D → D → Option Bool} : ∀ l : List D, (∀ d ∈ l, f d d = some true) → all2 f l l = some true
  | [], _ => rfl
  | a :: l, h => by
    unfold all2
    rw [h a List.mem_cons_self, all2_refl l fun d hd => h d (List.mem_cons_of_mem _ hd)]
    rfl
theorem eqA_str {n : Nat} {x : Str} : eqA (n + 1) (.str x) (.str x) = some true := by
  show some (x == x) = _
  rw [beq_self_eq_true]
theorem eqA_int {n : Nat} {x : Int} : eqA (n + 1) (.int x) (.int x) = some true := by
  show some (x == x) = _
  rw [beq_self_eq_true]
theorem eqA_non {n : Nat} : eqA (n + 1) .non .non = some true := rfl
theorem eqA_lst {n : Nat} {l : List D} (h : ∀ d ∈ l, eqA n d d = some true) : eqA (n + 1) (.lst l) (.lst l) = some true := by
  show (if l.length = l.length then all2 (eqA n) l l else some false) = _
  rw [if_pos rfl, all2_refl l h]
theorem eqA_tup {n : Nat} {l : List D} (h : ∀ d ∈ l, eqA n d d = some true) : eqA (n + 1) (.tup l) (.tup l) = some true := by
  show (all2 (eqA n) l l).map (fun k => k && l.length == l.length) = _
  rw [all2_refl l h]
  simp
theorem eqA_ints {n : Nat} (l : List Int) : eqA (n + 2) (.lst (l.map .int)) (.lst (l.map .int)) = some true := eqA_lst fun d hd => by
  obtain ⟨i, _, rfl⟩ := List.mem_map.mp hd
  exact eqA_int
theorem eqA_wr {n : Nat} (ws : List Wr) : eqA (n + 3) (eWs ws) (eWs ws) = some true := eqA_lst fun d hd => by
  obtain ⟨w, _, rfl⟩ := List.mem_map.mp hd
  refine eqA_tup fun d hd => ?_
  simp at hd
  rcases hd with rfl | rfl
  · exact eqA_str
  · obtain ⟨p, t⟩ := w
    cases t
    · exact eqA_non
    · exact eqA_str
theorem eqA_is {n : Nat} (i : Int) (x : Str) : eqA (n + 2) (.tup [.int i, .str x]) (.tup [.int i, .str x]) = some true := eqA_tup fun d hd => by
  simp at hd
  rcases hd with rfl | rfl
  · exact eqA_int
  · exact eqA_str
theorem hits_str {n : Nat} {b : FS} (nd : (kF b).Nodup) : ∀ l : FS, (∀ q ∈ l, q ∈ b) → hitsD (n + 1) (eF b) (eF l) = some true
  | [], _ => rfl
  | q :: l, h => by
    show (match dget (eF b) (.inr q.1) with
      | none => some false
      | some v' => match eqA (n + 1) (.str q.2) v', hitsD (n + 1) (eF b) (eF l) with
        | some x, some y => some (x && y)
        | _, _ => none) = some true
    rw [dget_eF, gF_of nd (h q List.mem_cons_self), hits_str nd l fun q hq => h q (List.mem_cons_of_mem _ hq)]
    show (match eqA (n + 1) (.str q.2) (.str q.2), some true with
        | some x, some y => some (x && y)
        | _, _ => none) = some true
    rw [eqA_str]
    rfl
theorem eqT_dK {b : FS} (nd : (kF b).Nodup) : eqT 40 (.dK (eF b)) (.dK (eF b)) = some true := by
  show (if (eF b).length = (eF b).length then hitsD 40 (eF b) (eF b) else some false) = _
  rw [if_pos rfl]
  exact hits_str nd b fun q hq => hq
theorem neO_T {M : List MO} {d : D} (h : eqT 40 d d = some true) : neO M (.fz d) (.fz d) = some (.fz (.bl false)) := by
  show (eqT 40 d d).map (fun k => W.fz (.bl (!k))) = _
  rw [h]
  rfl
theorem eqO_T {M : List MO} {d : D} (h : eqT 40 d d = some true) : eqO M (.fz d) (.fz d) = some (.fz (.bl true)) := by
  show (eqT 40 d d).map (fun k => W.fz (.bl k)) = _
  rw [h]
  rfl
theorem eqT_oF {x : Option FS} (h : ∀ f, x = some f → (kF f).Nodup) : eqT 40 (oF x) (oF x) = some true := by
  cases x with
  | none => rfl
  | some f => exact eqT_dK (h f rfl)
theorem e_dict {s : S} {i : Nat} {d : FS} (h : nm i s = some (.ok (.fz (.dK (eF d))), s)) : frz (opO dictO (aC (nm i) aN)) s = some (.ok (.fz (.dK (eF d))), s) := e_frz (e_opO (e_a1 h) dictO_dK) rfl
/-! ### what is due -/
def dueF (how : Nat) (d f : FS) (n c h : Nat) : List Wr := if how < 2 then install d f else if how = 2 then backW n else if how = 3 then clnF d h c else recF d
theorem dueF_len {how : Nat} {d f : FS} {n c h : Nat} (hd : Small d) (hf : Small f) : (dueF how d f n c h).length ≤ 5000 := by
  unfold dueF
  split
  · unfold install
    rw [List.length_append, List.length_map, len_sortS, kF_len]
    have := hf.few
    simp
    omega
  · split
    · unfold backW; simp
    · have sl := len_NS hd
      split
      · unfold clnF
        exact Nat.le_trans (flat_len (b := 64) _ fun a _ => clnP_len hd _ a) (by omega)
      · unfold recF
        exact Nat.le_trans (flat_len (b := 64) _ fun a _ => recP_len hd a) (by omega)
end PD

noncomputable section
namespace PD
open PySem L2 PyProof.Rows
/-! ### numbers and heads -/
theorem numL_head : ∀ n : Nat, 1 ≤ n → ∃ c r, TL.numL n = c :: r ∧ 49 ≤ c := by
  intro n
  induction n using Nat.strongRecOn with
  | _ n ih =>
    intro h1
    by_cases h : n < 10
    · exact ⟨48 + n, [], TL.numL_lt h, by omega⟩
    · obtain ⟨c, r, e, hc⟩ := ih (n / 10) (by omega) (by omega)
      exact ⟨c, r ++ [48 + n % 10], by rw [TL.numL_step (by omega), e]; rfl, hc⟩
theorem numL_isd (n : Nat) : (TL.numL n).all isd = true := List.all_eq_true.mpr fun c hc => decide_eq_true (TL.numL_digits n c hc)
theorem genW_num {n : Nat} (h : n < 1000000000) : genW (strI n) = (n : Int) := by
  have e := tl_strI n
  have hl : (TL.numL n).length ≤ 9 := TL.numL_len (by decide) (Nat.lt_of_lt_of_le h (by decide))
  unfold genW
  rw [len_tl, e, if_neg, if_pos, TL.numL_val]
  · by_cases h0 : n = 0
    · subst h0
      exact .inl (TL.numL_lt (by decide))
    · obtain ⟨c, r, e, hc⟩ := numL_head n (by omega)
      refine .inr ?_
      rw [e]
      intro z
      have : c = 48 := Option.some.inj z
      omega
  · rintro (h1 | h1 | h1)
    · exact TL.numL_ne n h1
    · omega
    · rw [numL_isd] at h1
      cases h1
theorem tl_gN (n : Nat) : tl (gN n) = 103 :: TL.numL n := by
  have eg : tl ("g" : Str) = [103] := by decide
  unfold gN
  rw [tl_app, eg, tl_strI]
  rfl
theorem tl_bN (n : Nat) : tl (bN n) = (103 :: TL.numL n) ++ [47] := by
  have eg : tl ("/" : Str) = [47] := by decide
  unfold bN
  rw [tl_app, eg, tl_gN]
theorem gN_free (n : Nat) : 47 ∉ tl (gN n) := by
  rw [tl_gN]
  intro h
  rcases List.mem_cons.mp h with e | h
  · cases e
  · exact TL.numL_free (by omega) h
theorem head_bN (n : Nat) (r : Str) : headP (bN n ++ r) = gN n := by
  have e : tl (bN n ++ r) = tl (gN n) ++ 47 :: tl r := by
    rw [tl_app, tl_bN, tl_gN]
    simp
  apply tl_inj
  unfold headP
  rw [tl_ofL, e, List.takeWhile_append_of_pos]
  · rw [List.takeWhile_cons]
    simp
  · intro c hc
    refine decide_eq_true fun z => ?_
    subst z
    exact gN_free n hc
theorem genH_gN {n : Nat} (h : n < 1000000000) : genH (gN n) = (n : Int) := by
  unfold gN
  rw [genH_g, genW_num h]
theorem gnum_bN {n : Nat} (h : n < 1000000000) (r : Str) : gnum (bN n ++ r) = (n : Int) := by
  unfold gnum
  rw [head_bN, genH_gN h]
theorem app_inj {x y z : Str} (h : x ++ y = x ++ z) : y = z := by
  have := congrArg tl h
  rw [tl_app, tl_app] at this
  exact tl_inj (List.append_cancel_left this)
theorem app_assoc (x y z : Str) : x ++ y ++ z = x ++ (y ++ z) := str_assoc x y z
/-! ### disks without their numbers -/
inductive KA where
  | cur | gen (n : Nat) (r : Str) | oth (p : Str)
deriving DecidableEq
inductive VA where
  | tx (s : Str) | nu (n : Nat)
abbrev AD := List (KA × VA)
def eKA (o : Nat) : KA → Str
  | .cur => "current"
  | .gen n r => bN (n + o) ++ r
  | .oth p => p
def eVA (o : Nat) : VA → Str
  | .tx s => s
  | .nu n => strI ((n + o : Nat) : Int)
def enc (o : Nat) (A : AD) : FS := A.map fun q => (eKA o q.1, eVA o q.2)
/-- what keys may be there -/
def WKA (B : Nat) : KA → Prop
  | .cur => True
  | .gen n r => 1 ≤ n ∧ n ≤ B ∧ r.length ≤ 20
  | .oth p => p ≠ ("current" : Str) ∧ gnum p = -1 ∧ p.length ≤ 20
def gKA (o : Nat) : KA → Int
  | .gen n _ => ((n + o : Nat) : Int)
  | _ => -1
def isB (m : Nat) : KA → Bool
  | .gen n _ => decide (n = m)
  | _ => false
def isF (m : Nat) : KA → Bool
  | .gen n r => decide (n = m) && pfx ("f/" : Str) r
  | _ => false
theorem gnum_cur : gnum ("current" : Str) = -1 := by
  have e : headP ("current" : Str) = "current" := by decide
  unfold gnum
  rw [e]
  unfold genH
  rw [if_neg (by decide)]
section
variable {B o : Nat} (ho : B + o < 1000000000)
include ho
theorem gnum_enc {k : KA} (h : WKA B k) : gnum (eKA o k) = gKA o k := by
  cases k with
  | cur => exact gnum_cur
  | gen n r => exact gnum_bN (by have := h.2.1; omega) r
  | oth p => exact h.2.1
theorem eKA_inj {k k' : KA} (h : WKA B k) (h' : WKA B k') (e : eKA o k = eKA o k') : k = k' := by
  have g := gnum_enc ho h
  have g' := gnum_enc ho h'
  rw [e, g'] at g
  cases k with
  | cur =>
    cases k' with
    | cur => rfl
    | gen n r => simp [gKA] at g; omega
    | oth p => exact absurd e.symm h'.1
  | gen n r =>
    cases k' with
    | cur => simp [gKA] at g; omega
    | gen m r' =>
      have : n = m := by simp [gKA] at g; omega
      subst this
      rw [app_inj (show bN (n + o) ++ r = bN (n + o) ++ r' from e)]
    | oth p => simp [gKA] at g; omega
  | oth p =>
    cases k' with
    | cur => exact absurd e h.1
    | gen n r => simp [gKA] at g; omega
    | oth q =>
      have : p = q := e
      rw [this]
/-- under a base -/
theorem pfx_bN {k : KA} (h : WKA B k) {m : Nat} (hm : m ≤ B) : pfx (bN (m + o)) (eKA o k) = isB m k := by
  have key : pfx (bN (m + o)) (eKA o k) = true → ∃ r, k = .gen m r := fun hp => by
    have e := pfx_iff.mp hp
    have g := gnum_enc ho h
    rw [e, gnum_bN (by omega)] at g
    cases k with
    | cur => simp [gKA] at g; omega
    | gen n r =>
      have : n = m := by simp [gKA] at g; omega
      exact ⟨r, by rw [this]⟩
    | oth p => simp [gKA] at g; omega
  cases hb : pfx (bN (m + o)) (eKA o k) with
  | true =>
    obtain ⟨r, rfl⟩ := key hb
    simp [isB]
  | false =>
    cases k with
    | cur => rfl
    | gen n r =>
      by_cases e : n = m
      · subst e
        have : pfx (bN (n + o)) (bN (n + o) ++ r) = true := pfx_app _ _
        rw [show eKA o (.gen n r) = bN (n + o) ++ r from rfl, this] at hb
        cases hb
      · simp [isB, e]
    | oth p => rfl
theorem pfx_two {b c p : Str} : pfx (b ++ c) (b ++ p) = pfx c p := by
  unfold pfx
  rw [tl_app, tl_app, List.length_append]
  refine decide_eq_decide.mpr ?_
  rw [List.take_length_add_append]
  exact ⟨List.append_cancel_left, fun e => by rw [e]⟩
theorem pfx_hN {k : KA} (h : WKA B k) {m : Nat} (hm : m ≤ B) : pfx (hN (m + o)) (eKA o k) = isF m k := by
  cases hb : pfx (bN (m + o)) (eKA o k) with
  | true =>
    rw [pfx_bN ho h hm] at hb
    cases k with
    | cur => cases hb
    | gen n r =>
      have e : n = m := by simpa [isB] using hb
      subst e
      show pfx (bN (n + o) ++ ("f/" : Str)) (bN (n + o) ++ r) = _
      rw [pfx_two ho]
      simp [isF]
    | oth p => cases hb
  | false =>
    have h1 : pfx (hN (m + o)) (eKA o k) = false := by
      cases h2 : pfx (hN (m + o)) (eKA o k) with
      | false => rfl
      | true =>
        have e := pfx_iff.mp h2
        rw [e, show hN (m + o) = bN (m + o) ++ ("f/" : Str) from rfl, app_assoc, pfx_app] at hb
        cases hb
    rw [h1]
    rw [pfx_bN ho h hm] at hb
    cases k with
    | cur => rfl
    | gen n r =>
      have hb : decide (n = m) = false := hb
      show false = (decide (n = m) && _)
      rw [hb]
      rfl
    | oth p => rfl
end
end PD

noncomputable section
namespace PD
open PySem L2 PyProof.Rows
structure WA (B : Nat) (A : AD) : Prop where
  nd : (A.map (·.1)).Nodup
  wk : ∀ q ∈ A, WKA B q.1
  cv : ∀ q ∈ A, q.1 = .cur → ∃ n, q.2 = .nu n ∧ 1 ≤ n ∧ n ≤ B
  tv : ∀ q ∈ A, q.1 ≠ .cur → ∃ s, q.2 = .tx s ∧ s.length ≤ 30
  few : A.length < 64
theorem kF_enc (o : Nat) (A : AD) : kF (enc o A) = A.map fun q => eKA o q.1 := by
  unfold kF enc
  rw [List.map_map]
  rfl
theorem nodup_map {α β : Type} {f : α → β} {l : List α} (nd : l.Nodup) (h : ∀ a ∈ l, ∀ b ∈ l, f a = f b → a = b) : (l.map f).Nodup := by
  unfold List.Nodup at *
  rw [List.pairwise_map]
  exact nd.imp_of_mem fun {a b} ha hb hab e => hab (h a ha b hb e)
section
variable {B o : Nat} (ho : B + o < 1000000000) {A : AD} (w : WA B A)
include ho w
theorem small_enc : Small (enc o A) := by
  refine ⟨?_, by unfold enc; rw [List.length_map]; exact w.few, fun q hq => ?_, fun q hq => ?_⟩
  · have := nodup_map (f := eKA o) w.nd fun a ha b hb e => by
      obtain ⟨q, hq, rfl⟩ := List.mem_map.mp ha
      obtain ⟨r, hr, rfl⟩ := List.mem_map.mp hb
      exact eKA_inj ho (w.wk q hq) (w.wk r hr) e
    rw [List.map_map] at this
    rw [kF_enc]
    exact this
  · obtain ⟨a, ha, rfl⟩ := List.mem_map.mp hq
    have hk := w.wk a ha
    show (eKA o a.1).length ≤ 100
    cases hh : a.1 with
    | cur => exact (by decide : Str.length "current" ≤ 100)
    | gen n r =>
      rw [hh] at hk
      have := bN_len (n := n + o) (by have := hk.2.1; omega)
      have := hk.2.2
      show (bN (n + o) ++ r).length ≤ 100
      rw [app_len]
      omega
    | oth p =>
      rw [hh] at hk
      have := hk.2.2
      show p.length ≤ 100
      omega
  · obtain ⟨a, ha, rfl⟩ := List.mem_map.mp hq
    show (eVA o a.2).length ≤ 100
    by_cases h : a.1 = .cur
    · obtain ⟨n, e, _, hn⟩ := w.cv a ha h
      rw [e]
      have := strI_10 (n := n + o) (by omega)
      show (strI ((n + o : Nat) : Int)).length ≤ 100
      omega
    · obtain ⟨s, e, hs⟩ := w.tv a ha h
      rw [e]
      show s.length ≤ 100
      omega
end
/-! ### what is there -/
def getA (A : AD) (k : KA) : Option VA := (A.find? fun q => decide (q.1 = k)).map (·.2)
theorem getA_mem {A : AD} {k : KA} {v : VA} (h : getA A k = some v) : (k, v) ∈ A := by
  unfold getA at h
  obtain ⟨q, h1, h2⟩ := Option.map_eq_some_iff.mp h
  have h3 := List.find?_some h1
  have h3 : q.1 = k := of_decide_eq_true h3
  have h4 := List.mem_of_find?_eq_some h1
  obtain ⟨a, b⟩ := q
  cases h2
  cases h3
  exact h4
theorem getA_of {A : AD} (nd : (A.map (·.1)).Nodup) {k : KA} {v : VA} (h : (k, v) ∈ A) : getA A k = some v := by
  unfold getA
  induction A with
  | nil => cases h
  | cons q A ih =>
    rw [List.map_cons] at nd
    obtain ⟨h1, h2⟩ := List.nodup_cons.mp nd
    rw [List.find?_cons]
    rcases List.mem_cons.mp h with e | hq
    · rw [← e]; simp
    · have ne : ¬ q.1 = k := fun e => h1 (by rw [e]; exact List.mem_map.mpr ⟨_, hq, rfl⟩)
      rw [decide_eq_false ne]
      exact ih h2 hq
theorem getA_none {A : AD} {k : KA} : getA A k = none ↔ k ∉ A.map (·.1) := by
  constructor
  · intro h hk
    obtain ⟨q, hq, rfl⟩ := List.mem_map.mp hk
    unfold getA at h
    rw [Option.map_eq_none_iff, List.find?_eq_none] at h
    exact h q hq (decide_eq_true rfl)
  · intro h
    cases e : getA A k with
    | none => rfl
    | some v => exact absurd (List.mem_map.mpr ⟨_, getA_mem e, rfl⟩) h
def gens (A : AD) : List Nat := A.filterMap fun q => match q.1 with | .gen n _ => some n | _ => none
def nsA (A : AD) : List Nat := (uniqI ((gens A).map fun (n : Nat) => (n : Int))).map Int.toNat
def rests (A : AD) (n : Nat) : List Str := A.filterMap fun q => match q.1 with | .gen m r => if m = n then some r else none | _ => none
def filA (n : Nat) (q : KA × VA) : Option (Str × Str) := match q with
  | (.gen m r, .tx s) => if m = n ∧ pfx ("f/" : Str) r = true then some (cutP ("f/" : Str) r, s) else none
  | _ => none
def filesA (A : AD) (n : Nat) : FS := A.filterMap (filA n)
def foA (A : AD) (n : Nat) : Option FS := match getA A (.gen n "done") with
  | some (.tx t) => if dig (img (filesA A n)) = t then some (filesA A n) else none
  | _ => none
def wholeA (A : AD) : List Nat := (nsA A).filter fun n => (foA A n).isSome
theorem uniqI_add (l : List Int) (o : Int) : uniqI (l.map fun n => n + o) = (uniqI l).map fun n => n + o := by
  refine (uniqI_eq ?_ fun z => ?_).symm
  · rw [List.pairwise_map]
    exact (pw_uniqI (l := l)).imp fun h => by omega
  · rw [List.mem_map, List.mem_map]
    constructor
    · rintro ⟨a, ha, e⟩
      exact ⟨a, mem_uniqI.mp ha, e⟩
    · rintro ⟨a, ha, e⟩
      exact ⟨a, mem_uniqI.mpr ha, e⟩
theorem gens_pos {A : AD} {z : Int} (h : z ∈ uniqI ((gens A).map fun (n : Nat) => (n : Int))) : ∃ n : Nat, z = (n : Int) := by
  rw [mem_uniqI] at h
  obtain ⟨n, _, e⟩ := List.mem_map.mp h
  exact ⟨n, e.symm⟩
theorem nsA_int (A : AD) : (nsA A).map (fun (n : Nat) => (n : Int)) = uniqI ((gens A).map fun (n : Nat) => (n : Int)) := by
  unfold nsA
  rw [List.map_map]
  conv => rhs; rw [← List.map_id (uniqI _)]
  refine List.map_congr_left fun z hz => ?_
  obtain ⟨n, rfl⟩ := gens_pos hz
  show (((n : Int).toNat : Nat) : Int) = (n : Int)
  omega
theorem mem_nsA {A : AD} {n : Nat} : n ∈ nsA A ↔ n ∈ gens A := by
  have e := nsA_int A
  constructor
  · intro h
    have : (n : Int) ∈ (nsA A).map fun (n : Nat) => (n : Int) := List.mem_map.mpr ⟨n, h, rfl⟩
    rw [e, mem_uniqI] at this
    obtain ⟨m, hm, e2⟩ := List.mem_map.mp this
    have : m = n := by omega
    rw [← this]
    exact hm
  · intro h
    have : (n : Int) ∈ uniqI ((gens A).map fun (n : Nat) => (n : Int)) := mem_uniqI.mpr (List.mem_map.mpr ⟨n, h, rfl⟩)
    rw [← e] at this
    obtain ⟨m, hm, e2⟩ := List.mem_map.mp this
    have : m = n := by omega
    rw [← this]
    exact hm
theorem pw_nsA (A : AD) : (nsA A).Pairwise (· < ·) := by
  have := pw_uniqI (l := (gens A).map fun (n : Nat) => (n : Int))
  rw [← nsA_int, List.pairwise_map] at this
  exact this.imp fun h => by omega
theorem mem_gens {A : AD} {n : Nat} : n ∈ gens A ↔ ∃ r v, (KA.gen n r, v) ∈ A := by
  unfold gens
  rw [List.mem_filterMap]
  constructor
  · rintro ⟨⟨k, v⟩, hq, e⟩
    cases k with
    | cur => cases e
    | gen m r => cases e; exact ⟨r, v, hq⟩
    | oth p => cases e
  · rintro ⟨r, v, h⟩
    exact ⟨_, h, rfl⟩
section
variable {B o : Nat} (ho : B + o < 1000000000) {A : AD} (w : WA B A)
include ho w
theorem NS_enc : NS (enc o A) = (nsA A).map fun n => ((n + o : Nat) : Int) := by
  have e1 : (((kF (enc o A)).map gnum).filter fun n => decide (0 ≤ n)) = ((gens A).map fun (n : Nat) => (n : Int)).map fun n => n + (o : Int) := by
    rw [kF_enc, List.map_map]
    have hw := w.wk
    clear w
    induction A with
    | nil => rfl
    | cons q A ih =>
      obtain ⟨k, v⟩ := q
      have g := gnum_enc ho (hw (k, v) List.mem_cons_self)
      have ih := ih fun q hq => hw q (List.mem_cons_of_mem _ hq)
      rw [List.map_cons]
      show ((gnum (eKA o k) :: List.map (gnum ∘ fun q => eKA o q.1) A).filter fun n => decide (0 ≤ n)) = _
      rw [show gnum (eKA o k) = gKA o k from g]
      cases k with
      | cur =>
        show (((-1 : Int) :: List.map (gnum ∘ fun q => eKA o q.1) A).filter fun n => decide (0 ≤ n)) = _
        rw [List.filter_cons, if_neg (by decide)]
        exact ih
      | gen n r =>
        show ((((n + o : Nat) : Int) :: List.map (gnum ∘ fun q => eKA o q.1) A).filter fun n => decide (0 ≤ n)) = _
        rw [List.filter_cons, if_pos (decide_eq_true (by omega)), ih]
        show _ = ((n : Int) + (o : Int)) :: _
        congr 1
      | oth p =>
        show (((-1 : Int) :: List.map (gnum ∘ fun q => eKA o q.1) A).filter fun n => decide (0 ≤ n)) = _
        rw [List.filter_cons, if_neg (by decide)]
        exact ih
  unfold NS
  rw [e1, uniqI_add, ← nsA_int, List.map_map]
  refine List.map_congr_left fun n _ => ?_
  show (n : Int) + (o : Int) = ((n + o : Nat) : Int)
  omega
theorem gF_enc {k : KA} (hk : WKA B k) : gF (enc o A) (eKA o k) = (getA A k).map (eVA o) := by
  have hw := w.wk
  clear w
  unfold gF getA enc
  induction A with
  | nil => rfl
  | cons q A ih =>
    have ih := ih fun q hq => hw q (List.mem_cons_of_mem _ hq)
    rw [List.map_cons, List.find?_cons, List.find?_cons]
    by_cases e : q.1 = k
    · rw [decide_eq_true e, decide_eq_true (show eKA o q.1 = eKA o k by rw [e])]
      rfl
    · rw [decide_eq_false e, decide_eq_false (show ¬ eKA o q.1 = eKA o k from fun z => e (eKA_inj ho (hw q List.mem_cons_self) hk z))]
      exact ih
omit ho w in
theorem cut_two (b c p : Str) : cutP (b ++ c) (b ++ p) = cutP c p := by
  unfold cutP
  rw [tl_app, tl_app, List.length_append, List.drop_length_add_append]
theorem files_enc {n : Nat} (hn : n ≤ B) : filesP (enc o A) (hN (n + o)) = filesA A n := by
  unfold filesP filesA
  have hw := w.wk
  have ht := w.tv
  clear w
  unfold enc
  induction A with
  | nil => rfl
  | cons q A ih =>
    have ih := ih (fun q hq => hw q (List.mem_cons_of_mem _ hq)) (fun q hq => ht q (List.mem_cons_of_mem _ hq))
    obtain ⟨k, v⟩ := q
    have p := pfx_hN ho (hw (k, v) List.mem_cons_self) hn
    rw [List.map_cons, List.filter_cons, List.filterMap_cons]
    simp only [p]
    cases k with
    | cur =>
      simp only [filA, isF]
      exact ih
    | oth p =>
      simp only [filA, isF]
      exact ih
    | gen m r =>
      obtain ⟨s, e, _⟩ := ht (.gen m r, v) List.mem_cons_self (by simp)
      have e : v = .tx s := e
      subst e
      by_cases h1 : m = n
      · subst h1
        cases h2 : pfx ("f/" : Str) r with
        | true =>
          simp only [filA, isF, h2, decide_true, Bool.and_self, if_true, and_self, List.map_cons, ih]
          congr 1
          show (cutP (hN (m + o)) (bN (m + o) ++ r), s) = _
          rw [show hN (m + o) = bN (m + o) ++ ("f/" : Str) from rfl, cut_two]
        | false =>
          simp only [filA, isF, h2, decide_true, Bool.and_false, Bool.false_eq_true, if_false, and_false]
          exact ih
      · simp only [filA, isF, h1, decide_false, Bool.false_and, Bool.false_eq_true, if_false, false_and]
        exact ih
theorem done_WKA {n : Nat} (h1 : 1 ≤ n) (hn : n ≤ B) : WKA B (.gen n "done") := ⟨h1, hn, by decide⟩
theorem gF_done {n : Nat} (h1 : 1 ≤ n) (hn : n ≤ B) : gF (enc o A) (dN (n + o)) = (getA A (.gen n "done")).map (eVA o) := gF_enc ho w (done_WKA ho w h1 hn)
theorem done_tx {n : Nat} {v : VA} (h : getA A (.gen n "done") = some v) : ∃ t, v = .tx t := by
  obtain ⟨s, e, _⟩ := w.tv _ (getA_mem h) (by simp)
  exact ⟨s, e⟩
theorem fo_enc {n : Nat} (h1 : 1 ≤ n) (hn : n ≤ B) : fo (enc o A) (n + o) = foA A n := by
  unfold fo foA
  rw [gF_done ho w h1 hn, files_enc ho w hn]
  cases hg : getA A (.gen n "done") with
  | none => rfl
  | some v =>
    obtain ⟨t, rfl⟩ := done_tx ho w hg
    rfl
theorem nsA_bd {n : Nat} (h : n ∈ nsA A) : 1 ≤ n ∧ n ≤ B := by
  obtain ⟨r, v, hm⟩ := mem_gens.mp (mem_nsA.mp h)
  have := w.wk _ hm
  exact ⟨this.1, this.2.1⟩
theorem whole_enc : wholeF (enc o A) = (wholeA A).map fun n => ((n + o : Nat) : Int) := by
  unfold wholeF wholeA
  rw [NS_enc ho w, List.filter_map]
  congr 1
  refine List.filter_congr fun n hn => ?_
  obtain ⟨h1, h2⟩ := nsA_bd ho w hn
  simp only [Function.comp_apply]
  rw [show (((n + o : Nat) : Int)).toNat = n + o by omega, fo_enc ho w h1 h2]
theorem cur_enc {h : Nat} {f : FS} (hc : getA A .cur = some (.nu h)) (hf : foA A h = some f) : Cur (enc o A) (h + o) f := by
  obtain ⟨n, e, h1, h2⟩ := w.cv _ (getA_mem hc) rfl
  cases e
  refine ⟨?_, by rw [fo_enc ho w h1 h2, hf]⟩
  have e : gF (enc o A) (eKA o .cur) = some (strI ((h + o : Nat) : Int)) := by
    rw [gF_enc ho w (show WKA B .cur from trivial), hc]
    rfl
  have e : gF (enc o A) ("current" : Str) = some (strI ((h + o : Nat) : Int)) := e
  unfold vF
  rw [e]
  show genW (strI ((h + o : Nat) : Int)) = _
  rw [genW_num (by omega)]
end
end PD

noncomputable section
namespace PD
open PySem L2 PyProof.Rows
/-! ### writes without numbers -/
abbrev WrA := KA × Option VA
def eWA (o : Nat) (w : WrA) : Wr := (eKA o w.1, w.2.map (eVA o))
def putA (A : AD) (k : KA) (v : VA) : AD := if k ∈ A.map (·.1) then A.map fun q => if q.1 = k then (q.1, v) else q else A ++ [(k, v)]
def delA (A : AD) (k : KA) : AD := A.filter fun q => decide (q.1 ≠ k)
def apA (A : AD) (w : WrA) : AD := match w.2 with
  | none => delA A w.1
  | some v => putA A w.1 v
def aftA (A : AD) (ws : List WrA) : AD := ws.foldl apA A
theorem ap_enc {B o : Nat} (ho : B + o < 1000000000) {A : AD} (hw : ∀ q ∈ A, WKA B q.1) {w : WrA} (hk : WKA B w.1) : ap (enc o A) (eWA o w) = enc o (apA A w) := by
  obtain ⟨k, v⟩ := w
  cases v with
  | none =>
    show delF (enc o A) (eKA o k) = enc o (delA A k)
    unfold delF delA enc
    rw [List.filter_map]
    congr 1
    refine List.filter_congr fun q hq => ?_
    simp only [Function.comp_apply]
    exact decide_eq_decide.mpr (by
      constructor
      · intro h e; exact h (by rw [e])
      · intro h e; exact h (eKA_inj ho (hw q hq) hk e))
  | some v =>
    show putF (enc o A) (eKA o k) (eVA o v) = enc o (putA A k v)
    have hm : eKA o k ∈ kF (enc o A) ↔ k ∈ A.map (·.1) := by
      rw [kF_enc, List.mem_map, List.mem_map]
      constructor
      · rintro ⟨q, hq, e⟩
        exact ⟨q, hq, eKA_inj ho (hw q hq) hk e⟩
      · rintro ⟨q, hq, e⟩
        exact ⟨q, hq, by rw [e]⟩
    unfold putF putA
    by_cases h : k ∈ A.map (·.1)
    · rw [if_pos (hm.mpr h), if_pos h]
      unfold enc
      rw [List.map_map, List.map_map]
      refine List.map_congr_left fun q hq => ?_
      simp only [Function.comp_apply]
      by_cases e : q.1 = k
      · rw [if_pos (by rw [e]), if_pos e]
      · rw [if_neg (fun z => e (eKA_inj ho (hw q hq) hk z)), if_neg e]
    · rw [if_neg (fun z => h (hm.mp z)), if_neg h]
      unfold enc
      rw [List.map_append]
      rfl
theorem getA_ap (A : AD) (w : WrA) (k : KA) : getA (apA A w) k = if w.1 = k then w.2 else getA A k := by
  obtain ⟨k0, v⟩ := w
  cases v with
  | none =>
    show getA (delA A k0) k = if k0 = k then none else getA A k
    by_cases e : k0 = k
    · rw [if_pos e, getA_none]
      intro h
      obtain ⟨q, hq, e2⟩ := List.mem_map.mp h
      have := (List.mem_filter.mp hq).2
      exact (of_decide_eq_true this) (by rw [e2, e])
    · rw [if_neg e]
      unfold getA delA
      rw [List.find?_filter]
      congr 2
      funext q
      by_cases h : q.1 = k
      · have : ¬ q.1 = k0 := fun z => e (by rw [← z, h])
        simp [h, this]
        intro z
        exact e z.symm
      · simp [h]
  | some v =>
    show getA (putA A k0 v) k = if k0 = k then some v else getA A k
    unfold putA
    by_cases h : k0 ∈ A.map (·.1)
    · rw [if_pos h]
      unfold getA
      rw [List.find?_map]
      have ef : ((fun q : KA × VA => decide (q.1 = k)) ∘ fun q => if q.1 = k0 then (q.1, v) else q) = fun q => decide (q.1 = k) := by
        funext q
        simp only [Function.comp_apply]
        split <;> rfl
      rw [ef]
      by_cases e : k0 = k
      · subst e
        rw [if_pos rfl]
        obtain ⟨q, hq, e2⟩ := List.mem_map.mp h
        cases hf : A.find? fun q => decide (q.1 = k0) with
        | none =>
          rw [List.find?_eq_none] at hf
          exact absurd (decide_eq_true e2) (hf q hq)
        | some z =>
          have hz := List.find?_some hf
          have hz : z.1 = k0 := of_decide_eq_true hz
          simp [hz]
      · rw [if_neg e]
        cases hf : A.find? fun q => decide (q.1 = k) with
        | none => rfl
        | some z =>
          have hz := List.find?_some hf
          have hz : z.1 = k := of_decide_eq_true hz
          have : ¬ z.1 = k0 := fun y => e (by rw [← y, hz])
          simp [this]
    · rw [if_neg h]
      unfold getA
      rw [List.find?_append]
      by_cases e : k0 = k
      · subst e
        rw [if_pos rfl]
        have : A.find? (fun q => decide (q.1 = k0)) = none := List.find?_eq_none.mpr fun q hq z => h (List.mem_map.mpr ⟨q, hq, of_decide_eq_true z⟩)
        rw [this]
        simp
      · rw [if_neg e]
        simp [e]
theorem fm_congr {α β : Type} {f g : α → Option β} : ∀ {l : List α}, (∀ a ∈ l, f a = g a) → l.filterMap f = l.filterMap g
  | [], _ => rfl
  | a :: l, h => by
    rw [List.filterMap_cons, List.filterMap_cons, h a List.mem_cons_self, fm_congr fun a ha => h a (List.mem_cons_of_mem _ ha)]
/-- a key that is no file of n -/
theorem filA_none {n : Nat} {k : KA} (h : isF n k = false) (v : VA) : filA n (k, v) = none := by
  cases k with
  | cur => rfl
  | oth p => rfl
  | gen m r =>
    cases v with
    | nu i => rfl
    | tx s =>
      show (if m = n ∧ pfx ("f/" : Str) r = true then some (cutP ("f/" : Str) r, s) else none) = none
      rw [if_neg]
      rintro ⟨h1, h2⟩
      have h : (decide (m = n) && pfx ("f/" : Str) r) = false := h
      rw [decide_eq_true h1, h2] at h
      cases h
theorem files_ap {A : AD} {w : WrA} {n : Nat} (h : isF n w.1 = false) : filesA (apA A w) n = filesA A n := by
  obtain ⟨k0, v⟩ := w
  have h : isF n k0 = false := h
  cases v with
  | none =>
    show (delA A k0).filterMap (filA n) = A.filterMap (filA n)
    unfold delA
    rw [List.filterMap_filter]
    refine fm_congr fun q hq => ?_
    by_cases e : q.1 = k0
    · obtain ⟨a, b⟩ := q
      have e : a = k0 := e
      subst e
      rw [filA_none h b]
      simp
    · simp [e]
  | some v =>
    show (putA A k0 v).filterMap (filA n) = A.filterMap (filA n)
    unfold putA
    split
    · rw [List.filterMap_map]
      refine fm_congr fun q hq => ?_
      simp only [Function.comp_apply]
      by_cases e : q.1 = k0
      · obtain ⟨a, b⟩ := q
        have e : a = k0 := e
        subst e
        rw [if_pos rfl, filA_none h b, filA_none h v]
      · rw [if_neg e]
    · rw [List.filterMap_append]
      simp [filA_none h v]
theorem isF_done (n m : Nat) : isF n (.gen m "done") = false := by
  show (decide (m = n) && pfx ("f/" : Str) "done") = false
  rw [show pfx ("f/" : Str) "done" = false by decide, Bool.and_false]
theorem isF_ne {n m : Nat} (r : Str) (h : ¬ m = n) : isF n (.gen m r) = false := by
  show (decide (m = n) && _) = false
  rw [decide_eq_false h, Bool.false_and]
end PD

noncomputable section
namespace PD
open PySem L2 PyProof.Rows
/-! ### one write keeps it whole -/
abbrev hasD (A : AD) (n : Nat) : Prop := getA A (.gen n "done") ≠ none
structure Iv (B : Nat) (N : List (Str × Str)) (A : AD) : Prop where
  w : WA B A
  dn : ∀ n, hasD A n → (foA A n).isSome = true
  cu : ∃ h, getA A .cur = some (.nu h) ∧ hasD A h
  no : ∀ q ∈ N, (KA.oth q.1, VA.tx q.2) ∈ A
inductive Ok (B : Nat) (A : AD) : WrA → Prop where
  | cur {n : Nat} : hasD A n → Ok B A (.cur, some (.nu n))
  | delD {n : Nat} : getA A .cur ≠ some (.nu n) → Ok B A (.gen n "done", none)
  | delF {n : Nat} {r : Str} : r ≠ ("done" : Str) → getA A (.gen n "done") = none → Ok B A (.gen n r, none)
  | putF {n : Nat} {r s : Str} : 1 ≤ n → n ≤ B → r.length ≤ 20 → s.length ≤ 30 → r ≠ ("done" : Str) → getA A (.gen n "done") = none → Ok B A (.gen n r, some (.tx s))
  | putD {n : Nat} {s : Str} : 1 ≤ n → n ≤ B → s.length ≤ 30 → dig (img (filesA A n)) = s → Ok B A (.gen n "done", some (.tx s))
def cost : WrA → Nat
  | (.gen _ _, some _) => 1
  | _ => 0
theorem keys_del (A : AD) (k : KA) : ((delA A k).map (·.1)).Sublist (A.map (·.1)) := (List.filter_sublist ..).map _
theorem keys_put (A : AD) (k : KA) (v : VA) : (putA A k v).map (·.1) = if k ∈ A.map (·.1) then A.map (·.1) else A.map (·.1) ++ [k] := by
  unfold putA
  split
  · rw [List.map_map]
    refine List.map_congr_left fun q _ => ?_
    simp only [Function.comp_apply]
    split <;> rfl
  · rw [List.map_append]
    rfl
theorem mem_ap {A : AD} {w : WrA} {q : KA × VA} (h : q ∈ apA A w) : q ∈ A ∨ (q.1 = w.1 ∧ w.2 = some q.2) := by
  obtain ⟨k, v⟩ := w
  cases v with
  | none => exact .inl (List.mem_filter.mp h).1
  | some v =>
    have h : q ∈ putA A k v := h
    unfold putA at h
    split at h
    · obtain ⟨z, hz, e⟩ := List.mem_map.mp h
      split at e
      · rename_i e2
        subst e
        exact .inr ⟨e2, rfl⟩
      · subst e
        exact .inl hz
    · rcases List.mem_append.mp h with h | h
      · exact .inl h
      · simp at h
        subst h
        exact .inr ⟨rfl, rfl⟩
theorem keep_ap {A : AD} {w : WrA} {q : KA × VA} (h : q ∈ A) (hne : q.1 ≠ w.1) : q ∈ apA A w := by
  obtain ⟨k, v⟩ := w
  have hne : q.1 ≠ k := hne
  cases v with
  | none => exact List.mem_filter.mpr ⟨h, decide_eq_true hne⟩
  | some v =>
    show q ∈ putA A k v
    unfold putA
    split
    · exact List.mem_map.mpr ⟨q, h, by rw [if_neg hne]⟩
    · exact List.mem_append.mpr (.inl h)
theorem nd_ap {A : AD} {w : WrA} (nd : (A.map (·.1)).Nodup) : ((apA A w).map (·.1)).Nodup := by
  obtain ⟨k, v⟩ := w
  cases v with
  | none => exact nd.sublist (keys_del A k)
  | some v =>
    show ((putA A k v).map (·.1)).Nodup
    rw [keys_put]
    split
    · exact nd
    · rename_i h
      exact List.nodup_append.mpr ⟨nd, by simp, fun a ha b hb e => by simp at hb; subst hb; subst e; exact h ha⟩
theorem len_ap {A : AD} {w : WrA} (hc : KA.cur ∈ A.map (·.1)) (hw : ∀ p, w.1 ≠ .oth p) : (apA A w).length ≤ A.length + cost w := by
  obtain ⟨k, v⟩ := w
  cases v with
  | none => exact Nat.le_trans (List.filter_sublist ..).length_le (by omega)
  | some v =>
    have e := congrArg List.length (keys_put A k v)
    rw [List.length_map] at e
    show (putA A k v).length ≤ _
    rw [e]
    split
    · rw [List.length_map]; omega
    · rename_i h
      cases k with
      | cur => exact absurd hc h
      | gen n r =>
        rw [List.length_append, List.length_map]
        exact Nat.le_refl _
      | oth p => exact absurd rfl (hw p)
theorem foA_ap {A : AD} {w : WrA} {n : Nat} (h1 : w.1 ≠ .gen n "done") (h2 : isF n w.1 = false) : foA (apA A w) n = foA A n := by
  unfold foA
  rw [getA_ap, if_neg h1, files_ap h2]
theorem Iv.step {B : Nat} {N : List (Str × Str)} {A : AD} (iv : Iv B N A) {w : WrA} (ok : Ok B A w) (hl : (apA A w).length < 64) : Iv B N (apA A w) := by
  have hd : ∀ n, hasD (apA A w) n ↔ (if w.1 = .gen n "done" then w.2 ≠ none else hasD A n) := fun n => by
    unfold hasD
    rw [getA_ap]
    split <;> exact Iff.rfl
  refine ⟨⟨nd_ap iv.w.nd, fun q hq => ?_, fun q hq hk => ?_, fun q hq hk => ?_, hl⟩, fun n hn => ?_, ?_, fun q hq => ?_⟩
  · rcases mem_ap hq with h | ⟨h1, h2⟩
    · exact iv.w.wk q h
    · rw [h1]
      cases ok with
      | cur _ => trivial
      | delD _ => cases h2
      | delF _ _ => cases h2
      | putF a b c d e f => exact ⟨a, b, c⟩
      | putD a b c d => exact ⟨a, b, by decide⟩
  · rcases mem_ap hq with h | ⟨h1, h2⟩
    · exact iv.w.cv q h hk
    · rw [hk] at h1
      cases ok with
      | @cur n hn =>
        obtain ⟨v, hv⟩ := Option.ne_none_iff_exists'.mp hn
        have := iv.w.wk _ (getA_mem hv)
        exact ⟨n, (Option.some.inj h2).symm, this.1, this.2.1⟩
      | delD _ => cases h1
      | delF _ _ => cases h1
      | putF a b c d e f => cases h1
      | putD a b c d => cases h1
  · rcases mem_ap hq with h | ⟨h1, h2⟩
    · exact iv.w.tv q h hk
    · cases ok with
      | cur _ => exact absurd h1 hk
      | delD _ => cases h2
      | delF _ _ => cases h2
      | @putF n r s a b c d e f => exact ⟨s, (Option.some.inj h2).symm, d⟩
      | @putD n s a b c d => exact ⟨s, (Option.some.inj h2).symm, c⟩
  · rw [hd] at hn
    cases ok with
    | cur _ =>
      rw [if_neg (by simp)] at hn
      rw [foA_ap (by simp) rfl]
      exact iv.dn n hn
    | @delD m _ =>
      by_cases e : m = n
      · subst e
        rw [if_pos rfl] at hn
        exact absurd rfl hn
      · rw [if_neg (by simp [e])] at hn
        rw [foA_ap (by simp [e]) (isF_ne _ e)]
        exact iv.dn n hn
    | @delF m r hr h0 =>
      rw [if_neg (by simp [hr])] at hn
      have e : ¬ m = n := fun e => by subst e; exact hn h0
      rw [foA_ap (by simp [e]) (isF_ne _ e)]
      exact iv.dn n hn
    | @putF m r s _ _ _ _ hr h0 =>
      rw [if_neg (by simp [hr])] at hn
      have e : ¬ m = n := fun e => by subst e; exact hn h0
      rw [foA_ap (by simp [e]) (isF_ne _ e)]
      exact iv.dn n hn
    | @putD m s _ _ _ h0 =>
      by_cases e : m = n
      · subst e
        unfold foA
        rw [getA_ap, if_pos rfl, files_ap (isF_done m m)]
        simp only [h0, if_true, Option.isSome_some]
      · rw [if_neg (by simp [e])] at hn
        rw [foA_ap (by simp [e]) (isF_ne _ e)]
        exact iv.dn n hn
  · obtain ⟨h, hc, hh⟩ := iv.cu
    cases ok with
    | @cur n hn => exact ⟨n, by rw [getA_ap, if_pos rfl], by rw [hd, if_neg (by simp)]; exact hn⟩
    | @delD m hm =>
      refine ⟨h, by rw [getA_ap, if_neg (by simp)]; exact hc, ?_⟩
      rw [hd, if_neg]
      · exact hh
      · intro e
        cases e
        exact hm hc
    | @delF m r hr h0 => exact ⟨h, by rw [getA_ap, if_neg (by simp)]; exact hc, by rw [hd, if_neg (by simp [hr])]; exact hh⟩
    | @putF m r s _ _ _ _ hr h0 => exact ⟨h, by rw [getA_ap, if_neg (by simp)]; exact hc, by rw [hd, if_neg (by simp [hr])]; exact hh⟩
    | @putD m s _ _ _ h0 =>
      refine ⟨h, by rw [getA_ap, if_neg (by simp)]; exact hc, ?_⟩
      rw [hd]
      split
      · simp
      · exact hh
  · refine keep_ap (iv.no q hq) ?_
    cases ok <;> simp
/-- a list of writes -/
def Oks (B : Nat) : AD → List WrA → Prop
  | _, [] => True
  | A, w :: ws => Ok B A w ∧ Oks B (apA A w) ws
theorem Oks.append {B : Nat} : ∀ {A : AD} {u v : List WrA}, Oks B A u → Oks B (aftA A u) v → Oks B A (u ++ v)
  | A, [], v, _, h => h
  | A, w :: u, v, ⟨h1, h2⟩, h => ⟨h1, Oks.append h2 h⟩
theorem Ok.wk {B : Nat} {A : AD} (hw : ∀ q ∈ A, WKA B q.1) {w : WrA} (ok : Ok B A w) (hg : ∀ n r, w = (.gen n r, none) → WKA B (.gen n r)) : WKA B w.1 := by
  cases ok with
  | cur _ => trivial
  | @delD n _ => exact hg n _ rfl
  | @delF n r _ _ => exact hg n r rfl
  | putF a b c d e f => exact ⟨a, b, c⟩
  | putD a b c d => exact ⟨a, b, by decide⟩
theorem Ok.noth {B : Nat} {A : AD} {w : WrA} (ok : Ok B A w) (p : Str) : w.1 ≠ .oth p := by cases ok <;> simp
theorem Iv.seq {B : Nat} {N : List (Str × Str)} : ∀ (ws : List WrA) {A : AD}, Iv B N A → Oks B A ws → A.length + (ws.map cost).sum < 64 → ∀ c, Iv B N (aftA A (ws.take c)) ∧ (aftA A (ws.take c)).length ≤ A.length + (ws.map cost).sum
  | [], A, iv, _, _, c => by
    rw [List.take_nil]
    exact ⟨iv, by simp [aftA]⟩
  | w :: ws, A, iv, ⟨h1, h2⟩, hl, 0 => ⟨iv, by simp [aftA]⟩
  | w :: ws, A, iv, ⟨h1, h2⟩, hl, c + 1 => by
    obtain ⟨h, hc, _⟩ := iv.cu
    have la := len_ap (A := A) (w := w) (List.mem_map.mpr ⟨_, getA_mem hc, rfl⟩) h1.noth
    rw [List.map_cons, List.sum_cons] at hl ⊢
    have iv2 := iv.step h1 (by omega)
    obtain ⟨i1, i2⟩ := Iv.seq ws iv2 h2 (by omega) c
    exact ⟨i1, Nat.le_trans i2 (by omega)⟩
end PD

noncomputable section
namespace PD
open PySem L2 PyProof.Rows
/-! ### sorting -/
theorem sortS_pw {l : List Str} : (sortS l).Pairwise fun a b => leS a b = true := List.pairwise_mergeSort leS_trans leS_total l
theorem sortS_uniq {l m : List Str} (p : m.Perm l) (h : m.Pairwise fun a b => leS a b = true) : m = sortS l :=
  List.Perm.eq_of_pairwise (fun a b _ _ => leS_anti) h sortS_pw (p.trans (List.mergeSort_perm l leS).symm)
theorem sortS_filter (l : List Str) (p : Str → Bool) : (sortS l).filter p = sortS (l.filter p) :=
  sortS_uniq ((List.mergeSort_perm l leS).filter p) (sortS_pw.filter p)
theorem leS_app (b x y : Str) : leS (b ++ x) (b ++ y) = leS x y := by
  unfold leS
  have e : (decide ((b ++ y).cps.toList < (b ++ x).cps.toList)) = decide (y.cps.toList < x.cps.toList) := by
    refine decide_eq_decide.mpr ?_
    have e1 : (b ++ y).cps.toList = b.cps.toList ++ y.cps.toList := tl_app b y
    have e2 : (b ++ x).cps.toList = b.cps.toList ++ x.cps.toList := tl_app b x
    rw [e1, e2]
    generalize b.cps.toList = l
    induction l with
    | nil => exact Iff.rfl
    | cons a l ih =>
      rw [List.cons_append, List.cons_append, List.cons_lt_cons_iff]
      constructor
      · rintro (h | ⟨_, h⟩)
        · exact absurd h (Nat.lt_irrefl a)
        · exact ih.mp h
      · intro h
        exact .inr ⟨rfl, ih.mpr h⟩
  rw [e]
theorem sortS_map (b : Str) (l : List Str) : sortS (l.map fun r => b ++ r) = (sortS l).map fun r => b ++ r := by
  refine (sortS_uniq ((List.mergeSort_perm l leS).map _) ?_).symm
  rw [List.pairwise_map]
  exact sortS_pw.imp fun h => by rw [leS_app]; exact h
/-! ### what is due, without numbers -/
def nxtA (A : AD) : Nat := (nsA A).getLastD 0 + 1
def instA (A : AD) (f : FS) : List WrA := ((sortS (kF f)).map fun p => (KA.gen (nxtA A) (("f/" : Str) ++ p), some (VA.tx (vF f p)))) ++ [(.gen (nxtA A) "done", some (.tx (dig (img f)))), (.cur, some (.nu (nxtA A)))]
def backA (n : Nat) : List WrA := [(.cur, some (.nu n))]
def recAP (A : AD) (n : Nat) : List WrA := if (getA A (.gen n "done")).isSome then [] else (sortS (rests A n)).map fun r => (.gen n r, none)
def recA (A : AD) : List WrA := (nsA A).flatMap (recAP A)
def keptA (A : AD) (h c : Nat) : List Nat := ((wholeA A).filter fun n => decide (n ≠ h)).reverse.take c ++ [h]
def clnAP (A : AD) (kept : List Nat) (n : Nat) : List WrA := if n ∈ kept then [] else (.gen n "done", none) :: ((sortS (rests A n)).filter (pfx ("f/" : Str))).map fun r => (.gen n r, none)
def clnA (A : AD) (h c : Nat) : List WrA := (nsA A).flatMap (clnAP A (keptA A h c))
def dueA (how : Nat) (A : AD) (f : FS) (n c h : Nat) : List WrA := if how < 2 then instA A f else if how = 2 then backA n else if how = 3 then clnA A h c else recA A
theorem mem_rests {A : AD} {n : Nat} {r : Str} : r ∈ rests A n ↔ ∃ v, (KA.gen n r, v) ∈ A := by
  unfold rests
  rw [List.mem_filterMap]
  constructor
  · rintro ⟨⟨k, v⟩, hq, e⟩
    cases k with
    | cur => cases e
    | oth p => cases e
    | gen m r' =>
      have e : (if m = n then some r' else none) = some r := e
      split at e
      · rename_i h
        cases e
        subst h
        exact ⟨v, hq⟩
      · cases e
  · rintro ⟨v, h⟩
    exact ⟨_, h, by show (if n = n then some r else none) = some r; rw [if_pos rfl]⟩
theorem flatMap_map_eq {α β γ δ : Type} {l : List α} {f : α → List β} {g : β → γ} {h : α → δ} {k : δ → List γ} (e : ∀ a ∈ l, k (h a) = (f a).map g) : (l.map h).flatMap k = (l.flatMap f).map g := by
  induction l with
  | nil => rfl
  | cons a l ih =>
    rw [List.map_cons, List.flatMap_cons, List.flatMap_cons, List.map_append, e a List.mem_cons_self, ih fun a ha => e a (List.mem_cons_of_mem _ ha)]
section
variable {B o : Nat} (ho : B + o < 1000000000) {A : AD} (w : WA B A)
include ho w
theorem under_bN {n : Nat} (hn : n ≤ B) : (sortS (kF (enc o A))).filter (pfx (bN (n + o))) = (sortS (rests A n)).map fun r => bN (n + o) ++ r := by
  rw [sortS_filter, ← sortS_map]
  congr 1
  rw [kF_enc]
  have hw := w.wk
  clear w
  unfold rests
  induction A with
  | nil => rfl
  | cons q A ih =>
    have ih := ih fun q hq => hw q (List.mem_cons_of_mem _ hq)
    obtain ⟨k, v⟩ := q
    have p := pfx_bN ho (hw (k, v) List.mem_cons_self) hn
    rw [List.map_cons, List.filter_cons, List.filterMap_cons]
    show (if pfx (bN (n + o)) (eKA o k) = true then _ else _) = _
    rw [show pfx (bN (n + o)) (eKA o k) = isB n k from p]
    cases k with
    | cur => exact ih
    | oth p => exact ih
    | gen m r =>
      by_cases h1 : m = n
      · subst h1
        have hb : isB m (.gen m r) = true := decide_eq_true rfl
        rw [if_pos hb]
        simp only [if_true, List.map_cons, ih]
        rfl
      · have hb : ¬ isB n (.gen m r) = true := by
          show ¬ decide (m = n) = true
          rw [decide_eq_false h1]
          decide
        rw [if_neg hb]
        simp only [h1, if_false, ih]
theorem under_hN {n : Nat} (hn : n ≤ B) : (sortS (kF (enc o A))).filter (pfx (hN (n + o))) = ((sortS (rests A n)).filter (pfx ("f/" : Str))).map fun r => bN (n + o) ++ r := by
  have e : (sortS (kF (enc o A))).filter (pfx (hN (n + o))) = ((sortS (kF (enc o A))).filter (pfx (bN (n + o)))).filter (pfx (hN (n + o))) := by
    rw [List.filter_filter]
    refine List.filter_congr fun p _ => ?_
    cases h : pfx (hN (n + o)) p with
    | false => rfl
    | true =>
      have e := pfx_iff.mp h
      rw [e, show hN (n + o) = bN (n + o) ++ ("f/" : Str) from rfl, app_assoc, pfx_app]
      rfl
  rw [e, under_bN ho w hn, List.filter_map]
  congr 1
  refine List.filter_congr fun r _ => ?_
  exact pfx_two ho
theorem nxt_enc (hne : nsA A ≠ []) : nxt (enc o A) = nxtA A + o := by
  have e := NS_enc ho w
  have hl : topI (enc o A) = (((nsA A).getLast hne + o : Nat) : Int) := by
    unfold topI
    have h2 : ∀ (l : List Int) (hl : l = (nsA A).map fun n => ((n + o : Nat) : Int)), (0 :: l).getLast (by simp) = (((nsA A).getLast hne + o : Nat) : Int) := by
      intro l hl
      subst hl
      rw [List.getLast_cons (by simpa using hne), List.getLast_map]
    exact h2 _ e
  unfold nxt nxtA
  rw [hl, List.getLastD_eq_getLast?, List.getLast?_eq_some_getLast hne]
  simp only [Option.getD_some]
  omega
theorem install_enc (hne : nsA A ≠ []) (f : FS) : install (enc o A) f = (instA A f).map (eWA o) := by
  unfold install instA
  rw [nxt_enc ho w hne, List.map_append, List.map_map]
  congr 1
  refine List.map_congr_left fun p _ => ?_
  show _ = (bN (nxtA A + o) ++ (("f/" : Str) ++ p), _)
  rw [← app_assoc]
  rfl
theorem rec_enc : recF (enc o A) = (recA A).map (eWA o) := by
  unfold recF recA
  rw [NS_enc ho w]
  refine flatMap_map_eq fun n hn => ?_
  obtain ⟨h1, h2⟩ := nsA_bd ho w hn
  unfold recP recAP under
  rw [show (((n + o : Nat) : Int)).toNat = n + o by omega, gF_done ho w h1 h2, Option.isSome_map, under_bN ho w h2]
  split
  · rfl
  · rw [List.map_map, List.map_map]
    rfl
theorem kept_enc (h c : Nat) : keptF (enc o A) ((h + o : Nat) : Int) c = (keptA A h c).map fun n => ((n + o : Nat) : Int) := by
  unfold keptF keptA
  rw [whole_enc ho w, List.map_append, List.filter_map, ← List.map_reverse, ← List.map_take]
  have : ((fun n => !(n == ((h + o : Nat) : Int))) ∘ fun (n : Nat) => ((n + o : Nat) : Int)) = fun n => decide (n ≠ h) := by
    funext n
    simp only [Function.comp_apply]
    by_cases e : n = h
    · subst e; simp
    · have e2 : (((n + o : Nat) : Int) == ((h + o : Nat) : Int)) = false := beq_eq_false_iff_ne.mpr (by omega)
      rw [e2]
      simp [e]
  rw [this]
  rfl
theorem cln_enc (h c : Nat) : clnF (enc o A) ((h + o : Nat) : Int) c = (clnA A h c).map (eWA o) := by
  unfold clnF clnA
  rw [NS_enc ho w, kept_enc ho w]
  refine flatMap_map_eq fun n hn => ?_
  obtain ⟨h1, h2⟩ := nsA_bd ho w hn
  unfold clnP clnAP under
  have e : ((n + o : Nat) : Int) ∈ (keptA A h c).map (fun n => ((n + o : Nat) : Int)) ↔ n ∈ keptA A h c := by
    rw [List.mem_map]
    constructor
    · rintro ⟨m, hm, e⟩
      have : m = n := by omega
      subst this
      exact hm
    · intro hm
      exact ⟨n, hm, rfl⟩
  rw [show (((n + o : Nat) : Int)).toNat = n + o by omega, under_hN ho w h2]
  by_cases hm : n ∈ keptA A h c
  · rw [if_pos (e.mpr hm), if_pos hm]
    rfl
  · rw [if_neg (fun z => hm (e.mp z)), if_neg hm, List.map_cons, List.map_map, List.map_map]
    rfl
theorem due_enc (hne : nsA A ≠ []) (how n c h : Nat) (f : FS) : dueF how (enc o A) f (n + o) c (h + o) = (dueA how A f n c h).map (eWA o) := by
  unfold dueF dueA
  rw [install_enc ho w hne, rec_enc ho w, cln_enc ho w]
  split
  · rfl
  · split
    · rfl
    · split <;> rfl
end
/-- writes, numbers put back -/
theorem aft_enc {B o : Nat} (ho : B + o < 1000000000) {N : List (Str × Str)} : ∀ (ws : List WrA) {A : AD}, (∀ q ∈ A, WKA B q.1) → (∀ x ∈ ws, WKA B x.1) → aft (enc o A) (ws.map (eWA o)) = enc o (aftA A ws)
  | [], A, _, _ => rfl
  | x :: ws, A, hw, hx => by
    have h1 := ap_enc ho hw (hx x List.mem_cons_self)
    show aft (ap (enc o A) (eWA o x)) (ws.map (eWA o)) = _
    rw [h1]
    exact aft_enc ho (N := N) ws (fun q hq => by
      rcases mem_ap hq with h | ⟨h, _⟩
      · exact hw q h
      · rw [h]; exact hx x List.mem_cons_self) fun y hy => hx y (List.mem_cons_of_mem _ hy)
end PD

noncomputable section
namespace PD
open PySem L2 PyProof.Rows
/-! ### every write that is due may be done -/
theorem WKA.mono {B B' : Nat} (h : B ≤ B') {k : KA} (w : WKA B k) : WKA B' k := by
  cases k with
  | cur => trivial
  | gen n r => exact ⟨w.1, Nat.le_trans w.2.1 h, w.2.2⟩
  | oth p => exact w
theorem Iv.mono {B B' : Nat} (h : B ≤ B') {N : List (Str × Str)} {A : AD} (iv : Iv B N A) : Iv B' N A :=
  ⟨⟨iv.w.nd, fun q hq => (iv.w.wk q hq).mono h, fun q hq hk => by
    obtain ⟨n, e, h1, h2⟩ := iv.w.cv q hq hk
    exact ⟨n, e, h1, Nat.le_trans h2 h⟩, iv.w.tv, iv.w.few⟩, iv.dn, iv.cu, iv.no⟩
theorem aft_none {k : KA} : ∀ (ws : List WrA) {A : AD}, (∀ x ∈ ws, x.2 = none) → getA A k = none → getA (aftA A ws) k = none
  | [], _, _, h => h
  | x :: ws, A, hx, h => by
    show getA (aftA (apA A x) ws) k = none
    refine aft_none ws (fun y hy => hx y (List.mem_cons_of_mem _ hy)) ?_
    rw [getA_ap, hx x List.mem_cons_self, h]
    split <;> rfl
theorem aft_same {k : KA} : ∀ (ws : List WrA) {A : AD}, (∀ x ∈ ws, x.1 ≠ k) → getA (aftA A ws) k = getA A k
  | [], _, _ => rfl
  | x :: ws, A, hx => by
    show getA (aftA (apA A x) ws) k = _
    rw [aft_same ws (fun y hy => hx y (List.mem_cons_of_mem _ hy)), getA_ap, if_neg (hx x List.mem_cons_self)]
theorem oks_del {B n : Nat} : ∀ (rs : List Str) {A : AD}, (∀ r ∈ rs, r ≠ ("done" : Str)) → getA A (.gen n "done") = none → Oks B A (rs.map fun r => (KA.gen n r, (none : Option VA)))
  | [], _, _, _ => trivial
  | r :: rs, A, hr, h => by
    refine ⟨.delF (hr r List.mem_cons_self) h, oks_del rs (fun r hr' => hr r (List.mem_cons_of_mem _ hr')) ?_⟩
    rw [getA_ap, h]
    split <;> rfl
theorem aftA_app (A : AD) (u v : List WrA) : aftA A (u ++ v) = aftA (aftA A u) v := List.foldl_append ..
theorem oks_rec {B : Nat} {A0 : AD} : ∀ (ns : List Nat) {A : AD}, (∀ n, getA A0 (.gen n "done") = none → getA A (.gen n "done") = none) → Oks B A (ns.flatMap (recAP A0))
  | [], _, _ => trivial
  | n :: ns, A, h => by
    rw [List.flatMap_cons]
    have hn : ∀ x ∈ recAP A0 n, x.2 = none := fun x hx => by
      unfold recAP at hx
      split at hx
      · cases hx
      · obtain ⟨r, _, rfl⟩ := List.mem_map.mp hx
        rfl
    refine Oks.append ?_ (oks_rec ns fun m hm => aft_none _ hn (h m hm))
    unfold recAP
    split
    · trivial
    · rename_i hd
      have hd : getA A0 (.gen n "done") = none := by
        cases hh : getA A0 (.gen n "done") with
        | none => rfl
        | some v => rw [hh] at hd; exact absurd rfl hd
      refine oks_del _ (fun r hr e => ?_) (h n hd)
      obtain ⟨v, hv⟩ := mem_rests.mp (mem_sortS.mp hr)
      rw [e] at hv
      exact (getA_none.mp hd) (List.mem_map.mpr ⟨_, hv, rfl⟩)
theorem oks_cln {B h : Nat} {A0 : AD} {kept : List Nat} (hk : h ∈ kept) : ∀ (ns : List Nat) {A : AD}, getA A .cur = some (.nu h) → Oks B A (ns.flatMap (clnAP A0 kept))
  | [], _, _ => trivial
  | n :: ns, A, hc => by
    rw [List.flatMap_cons]
    have hn : ∀ x ∈ clnAP A0 kept n, x.1 ≠ .cur := fun x hx => by
      unfold clnAP at hx
      split at hx
      · cases hx
      · rcases List.mem_cons.mp hx with rfl | hx
        · simp
        · obtain ⟨r, _, rfl⟩ := List.mem_map.mp hx
          simp
    refine Oks.append ?_ (oks_cln hk ns (by rw [aft_same _ hn]; exact hc))
    unfold clnAP
    split
    · trivial
    · rename_i hm
      refine ⟨.delD fun e => ?_, oks_del _ (fun r hr e => ?_) ?_⟩
      · rw [hc] at e
        cases e
        exact hm hk
      · have := (List.mem_filter.mp hr).2
        rw [e] at this
        rw [show pfx ("f/" : Str) "done" = false by decide] at this
        cases this
      · rw [getA_ap, if_pos rfl]
/-! files that are put -/
def filW (N : Nat) (q : Str × Str) : WrA := (.gen N (("f/" : Str) ++ q.1), some (.tx q.2))
theorem files_new {A : AD} {N : Nat} {q : Str × Str} (h : KA.gen N (("f/" : Str) ++ q.1) ∉ A.map (·.1)) : filesA (apA A (filW N q)) N = filesA A N ++ [q] := by
  show (putA A (.gen N (("f/" : Str) ++ q.1)) (.tx q.2)).filterMap (filA N) = _
  unfold putA
  rw [if_neg h, List.filterMap_append]
  have : filA N (.gen N (("f/" : Str) ++ q.1), .tx q.2) = some q := by
    show (if N = N ∧ pfx ("f/" : Str) (("f/" : Str) ++ q.1) = true then some (cutP ("f/" : Str) (("f/" : Str) ++ q.1), q.2) else none) = _
    rw [if_pos ⟨rfl, pfx_app _ _⟩, cutP_app]
  simp [this, filesA]
theorem f_ne_done (p : Str) : ("f/" : Str) ++ p ≠ ("done" : Str) := fun e => by
  have h : pfx ("f/" : Str) (("f/" : Str) ++ p) = true := pfx_app _ _
  rw [e, show pfx ("f/" : Str) "done" = false by decide] at h
  cases h
theorem oks_put {B N : Nat} (h1 : 1 ≤ N) (hB : N ≤ B) : ∀ (l : FS) {A : AD}, (kF l).Nodup → (∀ q ∈ l, KA.gen N (("f/" : Str) ++ q.1) ∉ A.map (·.1)) → (∀ q ∈ l, q.1.length ≤ 18 ∧ q.2.length ≤ 30) → getA A (.gen N "done") = none →
    Oks B A (l.map (filW N)) ∧ filesA (aftA A (l.map (filW N))) N = filesA A N ++ l
  | [], A, _, _, _, _ => ⟨trivial, by simp [aftA]⟩
  | q :: l, A, nd, hk, hs, hd => by
    obtain ⟨n1, n2⟩ := List.nodup_cons.mp (show (q.1 :: kF l).Nodup from nd)
    have bf : Str.length "f/" = 2 := by decide
    obtain ⟨i1, i2⟩ := oks_put h1 hB l (A := apA A (filW N q)) n2 (fun z hz hm => by
      have : (filW N q).1 = .gen N (("f/" : Str) ++ q.1) := rfl
      obtain ⟨y, hy, e⟩ := List.mem_map.mp hm
      rcases mem_ap hy with h | ⟨h, _⟩
      · exact hk z (List.mem_cons_of_mem _ hz) (List.mem_map.mpr ⟨y, h, e⟩)
      · rw [h, this] at e
        have e := app_inj (KA.gen.inj e).2
        exact n1 (by rw [e]; exact List.mem_map.mpr ⟨z, hz, rfl⟩)) (fun z hz => hs z (List.mem_cons_of_mem _ hz)) (by
      rw [getA_ap, if_neg]
      · exact hd
      · intro e
        exact f_ne_done q.1 (KA.gen.inj e).2)
    obtain ⟨s1, s2⟩ := hs q List.mem_cons_self
    refine ⟨⟨.putF h1 hB (by rw [app_len]; omega) s2 (f_ne_done _) hd, i1⟩, ?_⟩
    show filesA (aftA (apA A (filW N q)) (l.map (filW N))) N = _
    rw [i2, files_new (hk q List.mem_cons_self)]
    simp
theorem nxtA_fresh (A : AD) : ∀ n ∈ gens A, n < nxtA A := fun n hn => by
  have hn := mem_nsA.mpr hn
  have hne : nsA A ≠ [] := List.ne_nil_of_mem hn
  have pw := pw_nsA A
  unfold nxtA
  rw [List.getLastD_eq_getLast?, List.getLast?_eq_some_getLast hne]
  have hs := List.dropLast_concat_getLast hne
  rw [← hs] at hn pw
  simp only [Option.getD_some]
  rcases List.mem_append.mp hn with h | h
  · have := (List.pairwise_append.mp pw).2.2 n h ((nsA A).getLast hne) (by simp)
    omega
  · simp at h
    omega
theorem nxtA_le {B : Nat} {A : AD} (h : ∀ n ∈ gens A, n ≤ B) : nxtA A ≤ B + 1 := by
  unfold nxtA
  rw [List.getLastD_eq_getLast?]
  cases e : (nsA A).getLast? with
  | none => simp
  | some n =>
    have := h n (mem_nsA.mp (List.mem_of_getLast? e))
    simp
    omega
theorem inst_eq {A : AD} {f : FS} (fok : FOK f) : instA A f = f.map (filW (nxtA A)) ++ [(.gen (nxtA A) "done", some (.tx (dig (img f)))), (.cur, some (.nu (nxtA A)))] := by
  unfold instA
  congr 1
  rw [fok.sorted]
  unfold kF
  rw [List.map_map]
  refine List.map_congr_left fun q hq => ?_
  have : vF f q.1 = q.2 := by unfold vF; rw [gF_of (nodup_inc fok.inc) hq]; rfl
  show (KA.gen (nxtA A) (("f/" : Str) ++ q.1), some (VA.tx (vF f q.1))) = _
  rw [this]
  rfl
theorem dig_len (x : Str) : (dig x).length = 16 := by
  unfold dig
  rw [dgo_len]
  show 16 + (Str.ofString "").length = 16
  decide
theorem oks_inst {B : Nat} {A : AD} {f : FS} (hg : ∀ n ∈ gens A, n ≤ B) (fok : FOK f) (hs : ∀ q ∈ f, q.1.length ≤ 18 ∧ q.2.length ≤ 30) : Oks (B + 1) A (instA A f) := by
  rw [inst_eq fok]
  have hN := nxtA_le hg
  have h1 : 1 ≤ nxtA A := by unfold nxtA; omega
  have fresh : ∀ r v, (KA.gen (nxtA A) r, v) ∉ A := fun r v h => by
    have := nxtA_fresh A _ (mem_gens.mpr ⟨r, v, h⟩)
    omega
  have fk : ∀ r, KA.gen (nxtA A) r ∉ A.map (·.1) := fun r h => by
    obtain ⟨⟨k, v⟩, hq, e⟩ := List.mem_map.mp h
    have e : k = .gen (nxtA A) r := e
    subst e
    exact fresh r v hq
  have hd : getA A (.gen (nxtA A) "done") = none := getA_none.mpr (fk _)
  obtain ⟨o1, o2⟩ := oks_put h1 hN f (A := A) (nodup_inc fok.inc) (fun q _ => fk _) hs hd
  have f0 : filesA A (nxtA A) = [] := by
    unfold filesA
    rw [List.filterMap_eq_nil_iff]
    rintro ⟨k, v⟩ hq
    refine filA_none ?_ v
    cases k with
    | cur => rfl
    | oth p => rfl
    | gen n r => exact isF_ne r fun e => fresh r v (by rw [← e]; exact hq)
  rw [f0, List.nil_append] at o2
  refine Oks.append o1 ⟨.putD h1 hN (by rw [dig_len]; omega) (by rw [o2]), .cur ?_, trivial⟩
  unfold hasD
  rw [getA_ap, if_pos rfl]
  simp
theorem cost_zero {ws : List WrA} (h : ∀ x ∈ ws, cost x = 0) : (ws.map cost).sum = 0 := by
  induction ws with
  | nil => rfl
  | cons x ws ih =>
    rw [List.map_cons, List.sum_cons, h x List.mem_cons_self, ih fun y hy => h y (List.mem_cons_of_mem _ hy)]
theorem cost_none {x : WrA} (h : x.2 = none) : cost x = 0 := by
  obtain ⟨k, v⟩ := x
  cases h
  cases k <;> rfl
theorem clnAP_none {A : AD} {kept : List Nat} {n : Nat} : ∀ x ∈ clnAP A kept n, x.2 = none := fun x hx => by
  unfold clnAP at hx
  split at hx
  · cases hx
  · rcases List.mem_cons.mp hx with rfl | hx
    · rfl
    · obtain ⟨r, _, rfl⟩ := List.mem_map.mp hx
      rfl
theorem recAP_none {A : AD} {n : Nat} : ∀ x ∈ recAP A n, x.2 = none := fun x hx => by
  unfold recAP at hx
  split at hx
  · cases hx
  · obtain ⟨r, _, rfl⟩ := List.mem_map.mp hx
    rfl
theorem cost_due {A : AD} {f : FS} (fok : FOK f) (h4 : f.length ≤ 4) (how n c h : Nat) : ((dueA how A f n c h).map cost).sum ≤ 5 := by
  unfold dueA
  split
  · rw [inst_eq fok, List.map_append, List.sum_append, List.map_map]
    have : ((f.map (cost ∘ filW (nxtA A)))).sum ≤ f.length := by
      clear fok h4
      induction f with
      | nil => simp
      | cons q f ih =>
        rw [List.map_cons, List.sum_cons, List.length_cons]
        have : (cost ∘ filW (nxtA A)) q = 1 := rfl
        omega
    simp [cost]
    omega
  · split
    · simp [backA, cost]
    · have : ∀ ws : List WrA, (∀ x ∈ ws, x.2 = none) → (ws.map cost).sum ≤ 5 := fun ws hx => by
        rw [cost_zero fun x hx' => cost_none (hx x hx')]
        omega
      split
      · refine this _ fun x hx => ?_
        obtain ⟨n, _, hx⟩ := List.mem_flatMap.mp hx
        exact clnAP_none x hx
      · refine this _ fun x hx => ?_
        obtain ⟨n, _, hx⟩ := List.mem_flatMap.mp hx
        exact recAP_none x hx
theorem whole_done {A : AD} {n : Nat} (h : n ∈ wholeA A) : hasD A n := by
  have := (List.mem_filter.mp h).2
  intro e
  unfold foA at this
  rw [e] at this
  cases this
theorem done_gens {A : AD} {n : Nat} (h : hasD A n) : n ∈ gens A := by
  obtain ⟨v, hv⟩ := Option.ne_none_iff_exists'.mp h
  exact mem_gens.mpr ⟨_, v, getA_mem hv⟩
/-- one turn -/
structure Turn (B : Nat) (N : List (Str × Str)) (A : AD) (ws : List WrA) : Prop where
  iv : ∀ c, Iv (B + 1) N (aftA A (ws.take c)) ∧ (aftA A (ws.take c)).length ≤ A.length + 5
  wk : ∀ x ∈ ws, WKA (B + 1) x.1
theorem turn {B : Nat} {N : List (Str × Str)} {A : AD} (iv : Iv B N A) (hl : A.length + 5 < 64) {f : FS} (fd : FD 4 f) {how n c h : Nat} (hn : n ∈ wholeA A) (hc : getA A .cur = some (.nu h)) : Turn B N A (dueA how A f n c h) := by
  have hg : ∀ n ∈ gens A, n ≤ B := fun n hn => by
    obtain ⟨r, v, hm⟩ := mem_gens.mp hn
    exact (iv.w.wk _ hm).2.1
  have hs : ∀ q ∈ f, q.1.length ≤ 18 ∧ q.2.length ≤ 30 := fun q hq => by
    obtain ⟨k, _, e⟩ := fd.mem hq
    obtain ⟨r, c, hr, hc, e2⟩ := fd.vs q hq
    have := nmK_len k
    have := txF_len hr hc
    rw [e, e2]
    omega
  have iv2 := iv.mono (Nat.le_succ B)
  have ok : Oks (B + 1) A (dueA how A f n c h) := by
    unfold dueA
    split
    · exact oks_inst hg fd.fok hs
    · split
      · exact ⟨.cur (whole_done hn), trivial⟩
      · split
        · exact oks_cln (by unfold keptA; simp) _ hc
        · exact oks_rec _ fun _ h => h
  have hcost := cost_due (A := A) fd.fok fd.len how n c h
  refine ⟨fun c' => ?_, ?_⟩
  · obtain ⟨i1, i2⟩ := Iv.seq _ iv2 ok (by omega) c'
    exact ⟨i1, by omega⟩
  · unfold dueA
    have kr : ∀ n r, r ∈ rests A n → WKA (B + 1) (.gen n r) := fun n r hr => by
      obtain ⟨v, hv⟩ := mem_rests.mp hr
      exact iv2.w.wk _ hv
    split
    · rw [inst_eq fd.fok]
      have hN := nxtA_le hg
      have h1 : 1 ≤ nxtA A := by unfold nxtA; omega
      intro x hx
      rcases List.mem_append.mp hx with hx | hx
      · obtain ⟨q, hq, rfl⟩ := List.mem_map.mp hx
        have := (hs q hq).1
        have bf : Str.length "f/" = 2 := by decide
        exact ⟨h1, hN, by rw [app_len]; omega⟩
      · simp at hx
        rcases hx with rfl | rfl
        · exact ⟨h1, hN, by decide⟩
        · trivial
    · split
      · intro x hx
        simp [backA] at hx
        subst hx
        trivial
      · split
        · intro x hx
          obtain ⟨n, hn, hx⟩ := List.mem_flatMap.mp hx
          unfold clnAP at hx
          split at hx
          · cases hx
          · rcases List.mem_cons.mp hx with rfl | hx
            · obtain ⟨r, v, hm⟩ := mem_gens.mp (mem_nsA.mp hn)
              have := iv2.w.wk _ hm
              exact ⟨this.1, this.2.1, by decide⟩
            · obtain ⟨r, hr, rfl⟩ := List.mem_map.mp hx
              exact kr n r (mem_sortS.mp (List.mem_filter.mp hr).1)
        · intro x hx
          obtain ⟨n, hn, hx⟩ := List.mem_flatMap.mp hx
          unfold recAP at hx
          split at hx
          · cases hx
          · obtain ⟨r, hr, rfl⟩ := List.mem_map.mp hx
            exact kr n r (mem_sortS.mp hr)
end PD

noncomputable section
namespace PD
open PySem L2 PyProof.Rows
/-! ### files in any order -/
def srt (f : FS) : FS := (sortS (kF f)).map fun p => (p, vF f p)
theorem kF_srt (f : FS) : kF (srt f) = sortS (kF f) := by
  unfold kF srt
  rw [List.map_map]
  exact List.map_id _
theorem nd_sortS {l : List Str} (h : l.Nodup) : (sortS l).Nodup := (List.mergeSort_perm l leS).nodup_iff.mpr h
theorem mem_srt {f : FS} (nd : (kF f).Nodup) {q : Str × Str} : q ∈ srt f ↔ q ∈ f := by
  unfold srt
  rw [List.mem_map]
  constructor
  · rintro ⟨p, hp, rfl⟩
    have hp := mem_sortS.mp hp
    have := gF_mem2 (gF_val hp)
    exact this
  · intro hq
    refine ⟨q.1, mem_sortS.mpr (List.mem_map.mpr ⟨q, hq, rfl⟩), ?_⟩
    have : vF f q.1 = q.2 := by unfold vF; rw [gF_of nd hq]; rfl
    rw [this]
theorem gF_srt {f : FS} (nd : (kF f).Nodup) (p : Str) : gF (srt f) p = gF f p := by
  cases e : gF f p with
  | none =>
    rw [gF_none] at e ⊢
    rw [kF_srt]
    exact fun h => e (mem_sortS.mp h)
  | some t => exact gF_of (q := (p, t)) (by rw [kF_srt]; exact nd_sortS nd) ((mem_srt nd).mpr (gF_mem2 e))
theorem vF_srt {f : FS} (nd : (kF f).Nodup) (p : Str) : vF (srt f) p = vF f p := by
  unfold vF
  rw [gF_srt nd]
theorem len_srt (f : FS) : (srt f).length = f.length := by
  unfold srt
  rw [List.length_map, len_sortS, kF_len]
theorem sortS_idem (l : List Str) : sortS (sortS l) = sortS l := (sortS_uniq (List.Perm.refl _) sortS_pw).symm
theorem partI_srt {f : FS} (nd : (kF f).Nodup) : partI (srt f) = partI f := by
  funext p
  unfold partI
  rw [vF_srt nd]
theorem img_srt {f : FS} (nd : (kF f).Nodup) : img (srt f) = img f := by
  unfold img imgGo headI
  rw [kF_srt, sortS_idem, partI_srt nd, len_srt]
theorem install_srt {f : FS} (nd : (kF f).Nodup) (d : FS) : install d (srt f) = install d f := by
  unfold install
  rw [kF_srt, sortS_idem, img_srt nd]
  congr 1
  exact List.map_congr_left fun p _ => by rw [vF_srt nd]
theorem small_srt {f : FS} (h : Small f) : Small (srt f) := by
  refine ⟨by rw [kF_srt]; exact nd_sortS h.nd, by rw [len_srt]; exact h.few, fun q hq => h.ks q ((mem_srt h.nd).mp hq), fun q hq => h.vs q ((mem_srt h.nd).mp hq)⟩
theorem instA_srt {f : FS} (nd : (kF f).Nodup) (A : AD) : instA A (srt f) = instA A f := by
  unfold instA
  rw [kF_srt, sortS_idem, img_srt nd]
  congr 1
  exact List.map_congr_left fun p _ => by rw [vF_srt nd]
structure GF (f : FS) : Prop where
  nd : (kF f).Nodup
  len : f.length ≤ 5
  kl : ∀ q ∈ f, q.1.length ≤ 18 ∧ q.2.length ≤ 30
  ne : ∀ q ∈ f, tl q.1 ≠ []
  sp : ∀ q ∈ f, 32 ∉ tl q.1
  nl : ∀ q ∈ f, 10 ∉ tl q.1
theorem GF.small {f : FS} (h : GF f) : Small f := ⟨h.nd, by have := h.len; omega, fun q hq => by have := (h.kl q hq).1; omega, fun q hq => by have := (h.kl q hq).2; omega⟩
theorem tl_lt {a b : Str} (h : leS a b = true) (hne : a ≠ b) : tl a < tl b := by
  have h1 : a.cps.toList ≤ b.cps.toList := leS_iff.mp h
  by_cases h2 : tl a < tl b
  · exact h2
  · have h3 : tl b ≤ tl a := h2
    exact absurd (tl_inj (List.le_antisymm h1 h3)) hne
theorem GF.fok {f : FS} (h : GF f) : FOK (srt f) := by
  have ms := fun {q} => @mem_srt f h.nd q
  refine ⟨by rw [kF_srt, sortS_idem], ?_, by rw [len_srt]; have := h.len; omega, fun q hq => h.ne q (ms.mp hq), fun q hq => h.sp q (ms.mp hq), fun q hq => h.nl q (ms.mp hq), Nat.le_trans (img_small (small_srt h.small)) (by decide)⟩
  have e : (srt f).map (fun q => tl q.1) = (sortS (kF f)).map tl := by
    rw [← kF_srt]
    unfold kF
    rw [List.map_map]
    rfl
  rw [e, List.pairwise_map]
  have nd := nd_sortS h.nd
  exact (sortS_pw.and nd).imp fun ⟨h1, h2⟩ => tl_lt h1 h2
theorem s_install_any (d f : FS) (M : List MO) (h : Small d) (gf : GF f) (hn : nxt d < 1000000000) : fs_install_writes [.fz (.dK (eF d)), .fz (.str (img f))] M = some (.ok (.fz (eWs (install d f))), M) := by
  rw [← img_srt gf.nd, ← install_srt gf.nd]
  exact s_install_writes d (srt f) M h (small_srt gf.small) gf.fok hn
theorem small_nil : Small [] := ⟨by simp [kF], by decide, by simp, by simp⟩
theorem nxt_nil : nxt [] = 1 := rfl
theorem install_len {d f : FS} : (install d f).length = f.length + 2 := by
  unfold install
  rw [List.length_append, List.length_map, len_sortS, kF_len]
  rfl
theorem s_new_disk (f : FS) (M : List MO) (gf : GF f) : fs_new_disk [.fz (.str (img f))] M = some (.ok (.fz (.dK (eF (aft [] (install [] f))))), M) := by
  rw [show fs_new_disk = fnD 3 fb_new_disk from rfl]
  let ws := install [] f
  have lw : ws.length ≤ 7 := by
    have := gf.len
    show (install [] f).length ≤ 7
    rw [install_len]
    omega
  let st := fun (g : FS) (o : Option W) => (⟨[some (.fz (.str (img f))), some (.ob M.length), o], M ++ [.dK (eF g)]⟩ : S)
  obtain ⟨s2, h2, o, e⟩ := forL_ind (g := gNm 2) (b := drpS (callF 2 fs_put (aC (nm 1) (aC (nm 2) aN)))) (ok := fun _ => true)
    (fun i s => ∃ o, s = st (aft [] (ws.take i)) o) (ws.map fun w => .fz (eW w)) 0 (st [] none)
    (fun i w s hw' ⟨o, hs⟩ => by
      subst hs
      obtain ⟨w, hn, rfl⟩ := getD hw'
      simp only [Nat.zero_add]
      refine ⟨trivial, _, .inl ?_, some (.fz (eW w)), rfl⟩
      rw [aft_snoc hn]
      have la := aft_len (ws.take i) []
      rw [List.length_take] at la
      generalize aft [] (ws.take i) = f' at *
      rw [ev_bnd (show gNm 2 (.fz (eW w)) (st f' o) = some (.ok (), st f' (some (.fz (eW w)))) from rfl)]
      have sp := s_put M.length f' w (M ++ [.dK (eF f')]) get_last (by simp at la; omega)
      rw [set_last] at sp
      exact e_drp (x_call (s1 := st f' (some (.fz (eW w)))) (z := .fz .non) (e_a2 (ev_nm rfl) (ev_nm rfl)) rfl sp))
    (fun _ _ => rfl) ⟨none, rfl⟩
  rw [show 0 + (ws.map fun w => W.fz (eW w)).length = ws.length by simp, List.take_length] at e
  refine fin_okL (s := ⟨[some (.fz (.str (img f))), some (.fz (.dK (eF (aft [] ws)))), o], M ++ [.dead]⟩) (L := [.dead]) ?_ rfl
  unfold fb_new_disk
  have k1 : asgS (newO dict0) (gNm 1) ⟨start0 3 [.fz (.str (img f))], M⟩ = some (.ok .nx, st [] none) := rfl
  have kw : walk (callF 2 fs_install_writes (aC (frz dict0) (aC (nm 0) aN))) (st [] none) = some (.ok (Wk.of (ws.map fun w => .fz (eW w))), st [] none) :=
    e_walk (e_call (e_a2 (x := .fz (.dK (eF []))) rfl (ev_nm rfl)) rfl (s_install_any [] f _ small_nil gf (by rw [nxt_nil]; decide))) (by unfold eWs; rw [walkV_lst, List.map_map]; rfl)
  rw [ev_seq k1, ev_seq ((ev_for kw).trans h2), e]
  refine e_ret ?_
  simp only [nz, st, List.getElem?_cons_zero, List.getElem?_cons_succ, get_last, data, set_last]
  rfl
/-! ### the first disk -/
def AI (f : FS) : AD := (f.map fun q => (KA.gen 1 (("f/" : Str) ++ q.1), VA.tx q.2)) ++ [(.gen 1 "done", .tx (dig (img f))), (.cur, .nu 1)]
theorem mem_AI {f : FS} {q : KA × VA} (h : q ∈ AI f) : (∃ z ∈ f, q = (KA.gen 1 (("f/" : Str) ++ z.1), VA.tx z.2)) ∨ q = (.gen 1 "done", .tx (dig (img f))) ∨ q = (.cur, .nu 1) := by
  unfold AI at h
  rcases List.mem_append.mp h with h | h
  · obtain ⟨z, hz, rfl⟩ := List.mem_map.mp h
    exact .inl ⟨z, hz, rfl⟩
  · simp at h
    exact .inr h
theorem iv_AI {f : FS} (nd0 : (kF f).Nodup) (h5 : f.length ≤ 5) (kl : ∀ q ∈ f, q.1.length ≤ 18 ∧ q.2.length ≤ 30) : Iv 1 [] (AI f) ∧ (AI f).length ≤ 7 ∧ filesA (AI f) 1 = f := by
  have hl : (AI f).length ≤ 7 := by
    unfold AI
    simp
    omega
  have nd : ((AI f).map (·.1)).Nodup := by
    unfold AI
    rw [List.map_append, List.map_map]
    refine List.nodup_append.mpr ⟨?_, by simp, ?_⟩
    · have := nodup_map (f := fun p => KA.gen 1 (("f/" : Str) ++ p)) nd0 fun a _ b _ e => app_inj (KA.gen.inj e).2
      unfold kF at this
      rw [List.map_map] at this
      exact this
    · intro a ha b hb e
      obtain ⟨z, hz, rfl⟩ := List.mem_map.mp ha
      simp at hb
      rcases hb with rfl | rfl
      · exact f_ne_done z.1 (KA.gen.inj e).2
      · cases e
  have bf : Str.length "f/" = 2 := by decide
  have wa : WA 1 (AI f) := by
    refine ⟨nd, fun q hq => ?_, fun q hq hk => ?_, fun q hq hk => ?_, by omega⟩
    · rcases mem_AI hq with ⟨z, hz, rfl⟩ | rfl | rfl
      · have := (kl z hz).1
        exact ⟨by omega, by omega, by rw [app_len]; omega⟩
      · exact ⟨by omega, by omega, by decide⟩
      · trivial
    · rcases mem_AI hq with ⟨z, hz, rfl⟩ | rfl | rfl
      · cases hk
      · cases hk
      · exact ⟨1, rfl, by omega, by omega⟩
    · rcases mem_AI hq with ⟨z, hz, rfl⟩ | rfl | rfl
      · exact ⟨_, rfl, (kl z hz).2⟩
      · exact ⟨_, rfl, by rw [dig_len]; omega⟩
      · exact absurd rfl hk
  have md : (KA.gen 1 "done", VA.tx (dig (img f))) ∈ AI f := by unfold AI; simp
  have mc : (KA.cur, VA.nu 1) ∈ AI f := by unfold AI; simp
  have gd := getA_of nd md
  have hf : filesA (AI f) 1 = f := by
    unfold filesA AI
    rw [List.filterMap_append, List.filterMap_map]
    have e2 : f.filterMap (filA 1 ∘ fun q => (KA.gen 1 (("f/" : Str) ++ q.1), VA.tx q.2)) = f := by
      conv => rhs; rw [← List.filterMap_some (l := f)]
      refine fm_congr fun q _ => ?_
      show (if 1 = 1 ∧ pfx ("f/" : Str) (("f/" : Str) ++ q.1) = true then some (cutP ("f/" : Str) (("f/" : Str) ++ q.1), q.2) else none) = _
      rw [if_pos ⟨rfl, pfx_app _ _⟩, cutP_app]
    have e3 : [(KA.gen 1 "done", VA.tx (dig (img f))), (.cur, .nu 1)].filterMap (filA 1) = [] := by
      rw [List.filterMap_cons, filA_none (isF_done 1 1)]
      rfl
    rw [e2, e3]
    simp
  refine ⟨⟨wa, fun n hn => ?_, ⟨1, getA_of nd mc, by unfold hasD; rw [gd]; simp⟩, by simp⟩, hl, hf⟩
  have hk := (wa.wk _ (getA_mem (Option.ne_none_iff_exists'.mp hn).choose_spec))
  have h1 : 1 ≤ n := hk.1
  have h2 : n ≤ 1 := hk.2.1
  have : n = 1 := by omega
  subst this
  unfold foA
  rw [gd, hf]
  simp
theorem putA_new {A : AD} {k : KA} {v : VA} (h : k ∉ A.map (·.1)) : putA A k v = A ++ [(k, v)] := by
  unfold putA
  rw [if_neg h]
theorem aftA_new {N : Nat} : ∀ (l : FS) (A : AD), (A.map (·.1) ++ l.map fun q => KA.gen N (("f/" : Str) ++ q.1)).Nodup → aftA A (l.map (filW N)) = A ++ l.map fun q => (KA.gen N (("f/" : Str) ++ q.1), VA.tx q.2)
  | [], A, _ => by simp [aftA]
  | q :: l, A, nd => by
    have hnew : KA.gen N (("f/" : Str) ++ q.1) ∉ A.map (·.1) := fun z => (List.nodup_append.mp nd).2.2 _ z _ (by simp) rfl
    show aftA (putA A (.gen N (("f/" : Str) ++ q.1)) (.tx q.2)) (l.map (filW N)) = _
    rw [putA_new hnew, aftA_new l _ (by simpa using nd)]
    simp
theorem aft_first {f : FS} (gf : GF f) : aft [] (install [] f) = enc 0 (AI (srt f)) := by
  have fk := gf.fok
  have nd0 : (kF (srt f)).Nodup := (small_srt gf.small).nd
  have hn : nxtA [] = 1 := rfl
  have e1 : install [] f = (instA [] (srt f)).map (eWA 0) := by
    rw [← install_srt gf.nd]
    unfold install instA
    rw [nxt_nil, hn, List.map_append, List.map_map]
    congr 1
    refine List.map_congr_left fun p _ => ?_
    show _ = (bN (1 + 0) ++ (("f/" : Str) ++ p), _)
    rw [← app_assoc]
    rfl
  have nd1 : (([] : AD).map (·.1) ++ (srt f).map fun q => KA.gen 1 (("f/" : Str) ++ q.1)).Nodup := by
    have := nodup_map (f := fun p => KA.gen 1 (("f/" : Str) ++ p)) nd0 fun a _ b _ e => app_inj (KA.gen.inj e).2
    unfold kF at this
    rw [List.map_map] at this
    exact this
  have e2 : aftA [] (instA [] (srt f)) = AI (srt f) := by
    rw [inst_eq fk, hn, aftA_app, aftA_new _ _ nd1, List.nil_append]
    obtain ⟨iv, _⟩ := iv_AI nd0 (by rw [len_srt]; exact gf.len) fun q hq => gf.kl q ((mem_srt gf.nd).mp hq)
    have nd2 := iv.w.nd
    unfold AI at nd2 ⊢
    have nd3 : (((srt f).map fun q => (KA.gen 1 (("f/" : Str) ++ q.1), VA.tx q.2)).map (·.1) ++ [KA.gen 1 "done", KA.cur]).Nodup := by rw [List.map_append] at nd2; exact nd2
    generalize ((srt f).map fun q => (KA.gen 1 (("f/" : Str) ++ q.1), VA.tx q.2)) = B at *
    show putA (putA B (.gen 1 "done") _) .cur _ = _
    rw [putA_new (fun z => (List.nodup_append.mp nd3).2.2 _ z _ (by simp) rfl), putA_new (fun z => by
      rw [List.map_append] at z
      rcases List.mem_append.mp z with z | z
      · exact (List.nodup_append.mp nd3).2.2 _ z _ (by simp) rfl
      · simp at z)]
    simp
  rw [e1]
  have := aft_enc (B := 1) (o := 0) (by decide) (N := []) (instA [] (srt f)) (A := []) (by simp) (fun x hx => by
    rw [inst_eq fk, hn] at hx
    have bf : Str.length "f/" = 2 := by decide
    rcases List.mem_append.mp hx with hx | hx
    · obtain ⟨q, hq, rfl⟩ := List.mem_map.mp hx
      have := (gf.kl q ((mem_srt gf.nd).mp hq)).1
      exact ⟨by omega, by omega, by rw [app_len]; omega⟩
    · simp at hx
      rcases hx with rfl | rfl
      · exact ⟨by omega, by omega, by decide⟩
      · trivial)
  rw [e2] at this
  exact this
end PD

noncomputable section
namespace PD
open PySem L2 PyProof.Rows
/-! ### a loop by a measure -/
theorem whL_inv {c : Mo Bool} {b : Mo Fl} {I : Nat → S → Prop} (h : ∀ n s, I n s → c s = some (.ok false, s) ∨ (c s = some (.ok true, s) ∧ ∃ n' s' f, n' < n ∧ b s = some (.ok f, s') ∧ (f = .nx ∨ f = .ct) ∧ I n' s')) :
    ∀ (fuel n : Nat) (s : S), n < fuel → I n s → ∃ n' s', whL fuel c b s = some (.ok .nx, s') ∧ I n' s' ∧ c s' = some (.ok false, s')
  | 0, _, _, hf, _ => by omega
  | fuel + 1, n, s, hf, hI => by
    rcases h n s hI with h1 | ⟨h1, n', s', f, hn, hb, hff, hI'⟩
    · refine ⟨n, s, ?_, hI, h1⟩
      unfold whL
      rw [ev_bnd h1]
      rfl
    · obtain ⟨n2, s2, h2, h3, h4⟩ := whL_inv h fuel n' s' (by omega) hI'
      refine ⟨n2, s2, ?_, h3, h4⟩
      unfold whL
      rw [ev_bnd h1]
      simp only [if_true, hb]
      rcases hff with rfl | rfl <;> exact h2
theorem e_aug {s : S} {i : Nat} {x y w : W} {o : List MO → W → W → Option W} {f : Mo W} (hx : nm i s = some (.ok x, s)) (hf : f s = some (.ok y, s)) (ho : o s.m x y = some w) : augS i o f s = some (.ok .nx, setR s i w) := by
  unfold augS
  rw [ev_bnd hx, ev_bnd hf]
  simp only [ho]
theorem e_slAB {s : S} {f g h : Mo W} {x z : W} {i j : Int} (hf : f s = some (.ok x, s)) (hg : g s = some (.ok (.fz (.int i)), s)) (hh : h s = some (.ok (.fz (.int j)), s)) (ho : cutO s.m x (some i) (some j) = some z) : slO f (poS g) (poS h) s = some (.ok z, s) := by
  unfold slO poS
  rw [ev_bnd hf, ev_bnd (show bnd g _ s = some (.ok (some i), s) by rw [ev_bnd hg]; rfl), ev_bnd (show bnd h _ s = some (.ok (some j), s) by rw [ev_bnd hh]; rfl), ho]
  rfl
theorem cutD_ab {α : Type} (l : List α) (a b : Nat) (h : a ≤ l.length) : cutD l (some (a : Int)) (some (b : Int)) = (l.drop a).take (b - a) := by
  unfold cutD
  rw [HT.sIx_nat, HT.sIx_nat, Nat.min_eq_left h]
  by_cases hb : b ≤ l.length
  · rw [Nat.min_eq_left hb]
  · rw [Nat.min_eq_right (by omega), List.take_of_length_le (by simp), List.take_of_length_le (by simp; omega)]
theorem iaddS {M : List MO} {x y z : Str} (h : x.length + y.length ≤ 1000000) (e : x ++ y = z) : iaddO M (.fz (.str x)) (.fz (.str y)) = some (.fz (.str z)) := by
  unfold iaddO
  rw [← e]
  exact if_pos (lim_of h)
/-! ### parts of patches -/
inductive Pt where
  | tx (t : List Nat) | cp (s n : Nat)
def ptL (old : List Nat) : Pt → List Nat
  | .tx t => t
  | .cp s n => (old.drop s).take n
def ptD : Pt → D
  | .tx t => .str (ofL t)
  | .cp s n => .tup [.int s, .int n]
def ptOk (old : List Nat) : Pt → Prop
  | .tx _ => True
  | .cp s n => 8 ≤ n ∧ s + n ≤ old.length
def cat (old : List Nat) (ps : List Pt) : List Nat := (ps.map (ptL old)).flatten
theorem cat_snoc (old : List Nat) (ps : List Pt) (p : Pt) : cat old (ps ++ [p]) = cat old ps ++ ptL old p := by
  unfold cat
  simp
/-! ### the places of the old text -/
def eP (pl : List (Str × Nat)) : List (Key × D) := pl.map fun q => (.inr q.1, .int q.2)
def gP (pl : List (Str × Nat)) (k : Str) : Option Nat := (pl.find? fun q => decide (q.1 = k)).map (·.2)
theorem dget_eP (pl : List (Str × Nat)) (k : Str) : dget (eP pl) (.inr k) = (gP pl k).map fun (n : Nat) => .int (n : Int) := by
  unfold dget gP eP
  induction pl with
  | nil => rfl
  | cons q f ih =>
    rw [List.map_cons, List.find?_cons, List.find?_cons]
    by_cases e : q.1 = k
    · rw [e]
      simp
    · have e2 : ¬ (Sum.inr q.1 : Key) = .inr k := fun z => e (Sum.inr.inj z)
      rw [decide_eq_false e, decide_eq_false e2]
      exact ih
theorem gP_mem {pl : List (Str × Nat)} {k : Str} {n : Nat} (h : gP pl k = some n) : (k, n) ∈ pl := by
  unfold gP at h
  obtain ⟨q, h1, h2⟩ := Option.map_eq_some_iff.mp h
  have h3 := List.find?_some h1
  have h3 : q.1 = k := of_decide_eq_true h3
  have h4 := List.mem_of_find?_eq_some h1
  obtain ⟨a, b⟩ := q
  cases h2
  cases h3
  exact h4
theorem gP_none {pl : List (Str × Nat)} {k : Str} (h : gP pl k = none) : (Sum.inr k : Key) ∉ (eP pl).map (·.1) := by
  intro z
  unfold eP at z
  rw [List.map_map] at z
  obtain ⟨q, hq, e⟩ := List.mem_map.mp z
  have e : q.1 = k := Sum.inr.inj e
  unfold gP at h
  rw [Option.map_eq_none_iff, List.find?_eq_none] at h
  exact h q hq (decide_eq_true e)
def PlOk (old : List Nat) (pl : List (Str × Nat)) : Prop := ∀ q ∈ pl, tl q.1 = (old.drop q.2).take 8 ∧ q.2 + 8 ≤ old.length
def bdPl : Mo Fl := (drpS (setd (nm 2) (slO (nm 0) (poS (nm 3)) (poS (op2 addO (nm 3) (ck (.int 8))))) (nm 3)))
def sPl (old new : Str) (M : List MO) (pl : List (Str × Nat)) (o3 : Option W) : S := ⟨[some (.fz (.str old)), some (.fz (.str new)), some (.ob M.length), o3, none, none, none, none], M ++ [.dK (eP pl)]⟩
theorem pl_step {old new : Str} {M : List MO} {pl : List (Str × Nat)} {i : Nat} (hl : old.length ≤ 20000) (hi : i + 8 ≤ old.length) (hp : PlOk (tl old) pl) (hpl : pl.length ≤ 20000) (o3 : Option W) : ∃ pl', PlOk (tl old) pl' ∧ pl'.length ≤ pl.length + 1 ∧ bnd (gNm 3 (.fz (.int (i : Int)))) (fun _ => bdPl) (sPl old new M pl o3) = some (.ok .nx, sPl old new M pl' (some (.fz (.int (i : Int))))) := by
  let k : Str := ofL (((tl old).drop i).take 8)
  let s := sPl old new M pl (some (.fz (.int (i : Int))))
  have ht : (tl old).length = old.length := (len_tl old).symm
  have hk : slO (nm 0) (poS (nm 3)) (poS (op2 addO (nm 3) (ck (.int 8)))) s = some (.ok (.fz (.str k)), s) :=
    e_slAB (i := (i : Int)) (j := ((i + 8 : Nat) : Int)) (ev_nm (w := .fz (.str old)) rfl) (ev_nm rfl) (e_op2 (ev_nm (w := .fz (.int (i : Int))) rfl) ev_ck rfl) (by rw [cutO_s, if_pos (lim_of (m := 20000) hl), cutD_ab _ _ _ (by omega), show i + 8 - i = 8 by omega])
  have hd : isDc s.m (.ob M.length) = true := by
    have : asD s.m (.ob M.length) = some (eP pl) := by
      unfold asD
      show (match (M ++ [MO.dK (eP pl)])[M.length]? with | some (.dK ds) => some ds | some (.lk (.dK ds)) => some ds | _ => none) = _
      simp only [get_last]
    unfold isDc
    rw [this]
    rfl
  have hg : ∀ pl' v, setdO s.m (.ob M.length) (.fz (.str k)) (.fz (.int (i : Int))) = some (v, M ++ [.dK (eP pl')]) → bnd (gNm 3 (.fz (.int (i : Int)))) (fun _ => bdPl) (sPl old new M pl o3) = some (.ok .nx, sPl old new M pl' (some (.fz (.int (i : Int))))) := fun pl' v hs => by
    rw [ev_bnd (show gNm 3 (.fz (.int (i : Int))) (sPl old new M pl o3) = some (.ok (), s) from rfl)]
    have cc : (fun s => ofO (if isDc s.m (.ob M.length) = true then some () else none) s) s = some (.ok (), s) := by simp [hd]
    have : setd (nm 2) (slO (nm 0) (poS (nm 3)) (poS (op2 addO (nm 3) (ck (.int 8))))) (nm 3) s = some (.ok v, ⟨s.r, M ++ [.dK (eP pl')]⟩) := by
      unfold setd
      rw [ev_bnd (ev_nm (i := 2) (w := .ob M.length) rfl), ev_bnd (f := fun s => ofO (if isDc s.m (.ob M.length) = true then some () else none) s) cc, ev_bnd hk, ev_bnd (ev_nm (i := 3) (w := .fz (.int (i : Int))) rfl)]
      simp only [hs]
    exact e_drp this
  have hlen : (eP pl).length < LIM := by unfold eP; rw [List.length_map]; show _ < 16777216; omega
  have hset : setdO s.m (.ob M.length) (.fz (.str k)) (.fz (.int (i : Int))) = some (match dget (eP pl) (.inr k) with
      | some d => (.fz d, M ++ [.dK (eP pl)])
      | none => (.fz (.int (i : Int)), (M ++ [MO.dK (eP pl)]).set M.length (MO.dK (dput (eP pl) (.inr k) (.int (i : Int)))))) := by
    show setdO (M ++ [.dK (eP pl)]) _ _ _ = _
    unfold setdO
    simp only [keyW, keyD, get_last, hlen, if_true] <;> rfl
  cases hgp : gP pl k with
  | some n =>
    refine ⟨pl, hp, by omega, hg pl (.fz (.int (n : Int))) ?_⟩
    rw [hset, dget_eP, hgp]
    rfl
  | none =>
    refine ⟨pl ++ [(k, i)], ?_, by simp, hg _ (.fz (.int (i : Int))) ?_⟩
    · intro q hq
      rcases List.mem_append.mp hq with hq | hq
      · exact hp q hq
      · simp at hq
        subst hq
        exact ⟨by rw [tl_ofL], by omega⟩
    · rw [hset, dget_eP, hgp, Option.map_none]
      simp only [set_last]
      rw [dput_new (gP_none hgp)]
      unfold eP
      rw [List.map_append]
      rfl
theorem places {old new : Str} {M : List MO} (h8 : 8 ≤ old.length) (hl : old.length ≤ 20000) : ∃ pl o3, PlOk (tl old) pl ∧ forS (rng1 (aC (op2 addO (op2 subO (opN lenO (aC (nm 0) aN)) (ck (.int 8))) (ck (.int 1))) aN)) (gNm 3) bdPl (sPl old new M [] none) = some (.ok .nx, sPl old new M pl o3) := by
  let n := old.length - 7
  obtain ⟨s', h1, h2⟩ := forL_ind (g := gNm 3) (b := bdPl) (ok := fun _ => true)
    (fun i s => ∃ pl o3, PlOk (tl old) pl ∧ pl.length ≤ i ∧ s = sPl old new M pl o3) (rngV 0 (n : Int)) 0 (sPl old new M [] none)
    (fun i w s hw ⟨pl, o3, hp, hpl, hs⟩ => by
      subst hs
      have hi : i < n := by
        have := (List.getElem?_eq_some_iff.mp hw).1
        simpa [rngV] using this
      have ew : w = .fz (.int (i : Int)) := by
        unfold rngV at hw
        rw [List.getElem?_map] at hw
        obtain ⟨j, hj, e⟩ := Option.map_eq_some_iff.mp hw
        rw [List.getElem?_range (by simpa using hi)] at hj
        cases hj
        rw [← e]
        simp
      subst ew
      simp only [Nat.zero_add] at hpl ⊢
      obtain ⟨pl', h1, h2, h3⟩ := pl_step (new := new) (M := M) (i := i) hl (by omega) hp (by omega) o3
      exact ⟨trivial, _, .inl h3, pl', _, h1, by omega, rfl⟩)
    (fun _ _ => rfl) ⟨[], none, (fun q hq => by cases hq), by simp, rfl⟩
  obtain ⟨pl, o3, hp, _, e⟩ := h2
  refine ⟨pl, o3, hp, ?_⟩
  have kr : rng1 (aC (op2 addO (op2 subO (opN lenO (aC (nm 0) aN)) (ck (.int 8))) (ck (.int 1))) aN) (sPl old new M [] none) = some (.ok (Wk.of (rngV 0 (n : Int))), sPl old new M [] none) := by
    refine ev_rng1 (e_a1 (e_op2 (e_op2 (e_opN (e_a1 (ev_nm (w := .fz (.str old)) rfl)) (by rw [lenO_str, if_pos (lim_of (m := 20000) hl)])) ev_ck subO_ii) ev_ck ?_)) (by omega)
    rw [addO_ii]
    congr 3
    omega
  rw [ev_for kr]
  exact h1.trans (by rw [e])
end PD

noncomputable section
namespace PD
open PySem L2 PyProof.Rows
theorem ev_seqC {f g : Mo Fl} {s s1 : S} (h : f s = some (.ok .ct, s1)) : seqS f g s = some (.ok .ct, s1) := by unfold seqS; rw [h]
theorem get_mid {M : List MO} {x y : MO} : (M ++ [x] ++ [y])[M.length]? = some x := by
  rw [List.append_assoc]
  simp
def cIn : Mo Bool := (andT (tst (op2 ltO (op2 addO (nm 6) (nm 7)) (opN lenO (aC (nm 1) aN)))) (andT (tst (op2 ltO (op2 addO (nm 3) (nm 7)) (opN lenO (aC (nm 0) aN)))) (tst (op2 eqO (op2 atO (nm 1) (op2 addO (nm 6) (nm 7))) (op2 atO (nm 0) (op2 addO (nm 3) (nm 7)))))))
def bdM : Mo Fl := (seqS (asgS (get1 (nm 2) (slO (nm 1) (poS (nm 6)) (poS (op2 addO (nm 6) (ck (.int 8)))))) (gNm 3))
  (seqS (ifS (tst (op2 isO (nm 3) (ck .non))) (seqS (augS 5 iaddO (op2 atO (nm 1) (nm 6)))
  (seqS (augS 6 iaddO (ck (.int 1)))
  ctS)) nxS)
  (seqS (asgS (ck (.int 8)) (gNm 7))
  (seqS (whL FUEL cIn (augS 7 iaddO (ck (.int 1))))
  (seqS (ifS (tru (nm 5)) (seqS (drpS (bm isLs appO (nm 4) (aC (nm 5) aN)))
  (asgS (ck (.str "")) (gNm 5))) nxS)
  (seqS (drpS (bm isLs appO (nm 4) (aC (opN tupO (aC (nm 3) (aC (nm 7) aN))) aN)))
  (augS 6 iaddO (nm 7))))))))
section
variable (old new : Str) (M : List MO) (pl : List (Str × Nat))
def sM (o3 o7 : Option W) (at_ : Nat) (pn : List Nat) (ps : List Pt) : S := ⟨[some (.fz (.str old)), some (.fz (.str new)), some (.ob M.length), o3, some (.ob (M ++ [MO.dK (eP pl)]).length), some (.fz (.str (ofL pn))), some (.fz (.int (at_ : Int))), o7], M ++ [.dK (eP pl)] ++ [.lst (ps.map ptD)]⟩
def InvM (at_ : Nat) (pn : List Nat) (ps : List Pt) : Prop := at_ ≤ new.length ∧ cat (tl old) ps ++ pn = (tl new).take at_ ∧ ps.length + pn.length ≤ at_ ∧ ∀ p ∈ ps, ptOk (tl old) p
end
section
variable {old new : Str} {M : List MO} {pl : List (Str × Nat)}
theorem inner {at_ st_ : Nat} {pn : List Nat} {ps : List Pt} (hlo : old.length ≤ 20000) (hln : new.length ≤ 20000) (h1 : at_ + 8 ≤ new.length) (h2 : st_ + 8 ≤ old.length) (h3 : ((tl new).drop at_).take 8 = ((tl old).drop st_).take 8) :
    ∃ z, 8 ≤ z ∧ at_ + z ≤ new.length ∧ st_ + z ≤ old.length ∧ ((tl new).drop at_).take z = ((tl old).drop st_).take z ∧
      whL FUEL cIn (augS 7 iaddO (ck (.int 1))) (sM old new M pl (some (.fz (.int (st_ : Int)))) (some (.fz (.int 8))) at_ pn ps) = some (.ok .nx, sM old new M pl (some (.fz (.int (st_ : Int)))) (some (.fz (.int (z : Int)))) at_ pn ps) := by
  let sI := fun (z : Nat) => sM old new M pl (some (.fz (.int (st_ : Int)))) (some (.fz (.int (z : Int)))) at_ pn ps
  have tn : (tl new).length = new.length := (len_tl new).symm
  have to_ : (tl old).length = old.length := (len_tl old).symm
  obtain ⟨n', s', h4, ⟨z, z1, z2, z3, z4, z5, rfl⟩, _⟩ := whL_inv (c := cIn) (b := augS 7 iaddO (ck (.int 1))) (I := fun n s => ∃ z, 8 ≤ z ∧ at_ + z ≤ new.length ∧ st_ + z ≤ old.length ∧ ((tl new).drop at_).take z = ((tl old).drop st_).take z ∧ n = new.length - (at_ + z) ∧ s = sI z)
    (fun n s ⟨z, z1, z2, z3, z4, z5, hs⟩ => by
      subst hs
      have e67 : op2 addO (nm 6) (nm 7) (sI z) = some (.ok (.fz (.int ((at_ + z : Nat) : Int))), sI z) := e_op2 (ev_nm (w := .fz (.int (at_ : Int))) rfl) (ev_nm (w := .fz (.int (z : Int))) rfl) rfl
      have e37 : op2 addO (nm 3) (nm 7) (sI z) = some (.ok (.fz (.int ((st_ + z : Nat) : Int))), sI z) := e_op2 (ev_nm (w := .fz (.int (st_ : Int))) rfl) (ev_nm (w := .fz (.int (z : Int))) rfl) rfl
      have c1 : tst (op2 ltO (op2 addO (nm 6) (nm 7)) (opN lenO (aC (nm 1) aN))) (sI z) = some (.ok (decide (((at_ + z : Nat) : Int) < (new.length : Int))), sI z) := e_tst (e_op2 e67 (e_opN (e_a1 (ev_nm (w := .fz (.str new)) rfl)) (by rw [lenO_str, if_pos (lim_of (m := 20000) hln)])) ltO_ii)
      have c2 : tst (op2 ltO (op2 addO (nm 3) (nm 7)) (opN lenO (aC (nm 0) aN))) (sI z) = some (.ok (decide (((st_ + z : Nat) : Int) < (old.length : Int))), sI z) := e_tst (e_op2 e37 (e_opN (e_a1 (ev_nm (w := .fz (.str old)) rfl)) (by rw [lenO_str, if_pos (lim_of (m := 20000) hlo)])) ltO_ii)
      by_cases g1 : at_ + z < new.length
      · by_cases g2 : st_ + z < old.length
        · obtain ⟨a, ha⟩ : ∃ a, (tl new)[at_ + z]? = some a := ⟨_, List.getElem?_eq_getElem (by omega)⟩
          obtain ⟨b, hb⟩ : ∃ b, (tl old)[st_ + z]? = some b := ⟨_, List.getElem?_eq_getElem (by omega)⟩
          have c3 : tst (op2 eqO (op2 atO (nm 1) (op2 addO (nm 6) (nm 7))) (op2 atO (nm 0) (op2 addO (nm 3) (nm 7)))) (sI z) = some (.ok (decide (a = b)), sI z) := by
            refine e_tst (e_op2 (e_op2 (ev_nm (w := .fz (.str new)) rfl) e67 (atO_sn (lim_of (m := 20000) hln) ha)) (e_op2 (ev_nm (w := .fz (.str old)) rfl) e37 (atO_sn (lim_of (m := 20000) hlo) hb)) ?_)
            rw [eqO_ss, beq_tl]
            have : decide (tl (⟨#[a]⟩ : Str) = tl (⟨#[b]⟩ : Str)) = decide (a = b) := decide_eq_decide.mpr (by
              rw [show tl (⟨#[a]⟩ : Str) = [a] from rfl, show tl (⟨#[b]⟩ : Str) = [b] from rfl]
              simp)
            rw [this]
          have cc : cIn (sI z) = some (.ok (decide (((at_ + z : Nat) : Int) < (new.length : Int)) && (decide (((st_ + z : Nat) : Int) < (old.length : Int)) && decide (a = b))), sI z) := e_and c1 fun _ => e_and c2 fun _ => c3
          rw [decide_eq_true (show ((at_ + z : Nat) : Int) < (new.length : Int) by omega), decide_eq_true (show ((st_ + z : Nat) : Int) < (old.length : Int) by omega)] at cc
          by_cases g3 : a = b
          · rw [decide_eq_true g3] at cc
            refine .inr ⟨cc, new.length - (at_ + (z + 1)), sI (z + 1), .nx, by omega, ?_, .inl rfl, z + 1, by omega, by omega, by omega, ?_, rfl, rfl⟩
            · exact e_aug (ev_nm (w := .fz (.int (z : Int))) rfl) ev_ck rfl
            · rw [List.take_succ, List.take_succ, z4, List.getElem?_drop, List.getElem?_drop, ha, hb, g3]
          · rw [decide_eq_false g3] at cc
            exact .inl cc
        · refine .inl ?_
          have cc : cIn (sI z) = some (.ok (decide (((at_ + z : Nat) : Int) < (new.length : Int)) && (decide (((st_ + z : Nat) : Int) < (old.length : Int)) && false)), sI z) := e_and c1 fun _ => e_and c2 fun h => absurd (of_decide_eq_true h) (by omega)
          rw [cc]
          simp
      · refine .inl ?_
        have cc : cIn (sI z) = some (.ok (decide (((at_ + z : Nat) : Int) < (new.length : Int)) && false), sI z) := e_and c1 fun h => absurd (of_decide_eq_true h) (by omega)
        rw [cc]
        simp)
    FUEL (new.length - (at_ + 8)) (sI 8) (by unfold FUEL; omega) ⟨8, by omega, h1, h2, h3, rfl, rfl⟩
  exact ⟨z, z1, z2, z3, z4, h4⟩
theorem main_step {at_ : Nat} {pn : List Nat} {ps : List Pt} (hlo : old.length ≤ 20000) (hln : new.length ≤ 20000) (hp : PlOk (tl old) pl) (hi : InvM old new at_ pn ps) (hlt : at_ < new.length) (o3 o7 : Option W) :
    ∃ at' pn' ps' p3 p7 f, at_ < at' ∧ InvM old new at' pn' ps' ∧ (f = .nx ∨ f = .ct) ∧ bdM (sM old new M pl o3 o7 at_ pn ps) = some (.ok f, sM old new M pl p3 p7 at' pn' ps') := by
  obtain ⟨i1, i2, i3, i4⟩ := hi
  have tn : (tl new).length = new.length := (len_tl new).symm
  have to_ : (tl old).length = old.length := (len_tl old).symm
  let k : Str := ofL (((tl new).drop at_).take 8)
  let s := sM old new M pl o3 o7 at_ pn ps
  have pnl : pn.length ≤ at_ := by omega
  have hk : slO (nm 1) (poS (nm 6)) (poS (op2 addO (nm 6) (ck (.int 8)))) s = some (.ok (.fz (.str k)), s) :=
    e_slAB (i := (at_ : Int)) (j := ((at_ + 8 : Nat) : Int)) (ev_nm (w := .fz (.str new)) rfl) (ev_nm rfl) (e_op2 (ev_nm (w := .fz (.int (at_ : Int))) rfl) ev_ck rfl) (by rw [cutO_s, if_pos (lim_of (m := 20000) hln), cutD_ab _ _ _ (by omega), show at_ + 8 - at_ = 8 by omega])
  have had : asD s.m (.ob M.length) = some (eP pl) := by
    have h := get_mid (M := M) (x := MO.dK (eP pl)) (y := .lst (ps.map ptD))
    unfold asD
    show (match (M ++ [MO.dK (eP pl)] ++ [MO.lst (ps.map ptD)])[M.length]? with | some (.dK ds) => some ds | some (.lk (.dK ds)) => some ds | _ => none) = _
    simp only [h]
  have hdc : isDc s.m (.ob M.length) = true := by unfold isDc; rw [had]; rfl
  cases hg : gP pl k with
  | none =>
    have k1 : asgS (get1 (nm 2) (slO (nm 1) (poS (nm 6)) (poS (op2 addO (nm 6) (ck (.int 8)))))) (gNm 3) s = some (.ok .nx, sM old new M pl (some (.fz .non)) o7 at_ pn ps) := by
      refine e_asg (x := .fz .non) (e_get1 (ev_nm (w := .ob M.length) rfl) hdc hk ?_)
      unfold getO
      rw [had]
      simp only [keyW, keyD, dget_eP, hg]
      rfl
    obtain ⟨c, hc⟩ : ∃ c, (tl new)[at_]? = some c := ⟨_, List.getElem?_eq_getElem (by omega)⟩
    let s1 := sM old new M pl (some (.fz .non)) o7 at_ pn ps
    have c2 : tst (op2 isO (nm 3) (ck .non)) s1 = some (.ok true, s1) := e_tst (e_op2 (ev_nm (w := .fz .non) rfl) ev_ck rfl)
    have a1 : augS 5 iaddO (op2 atO (nm 1) (nm 6)) s1 = some (.ok .nx, sM old new M pl (some (.fz .non)) o7 at_ (pn ++ [c]) ps) :=
      e_aug (ev_nm (w := .fz (.str (ofL pn))) rfl) (e_op2 (ev_nm (w := .fz (.str new)) rfl) (ev_nm (w := .fz (.int (at_ : Int))) rfl) (atO_sn (lim_of (m := 20000) hln) hc)) (iaddS (z := ofL (pn ++ [c])) (by rw [len_tl, tl_ofL]; show pn.length + 1 ≤ 1000000; omega) (tl_inj (by rw [tl_app, tl_ofL, tl_ofL]; rfl)))
    have a2 : augS 6 iaddO (ck (.int 1)) (sM old new M pl (some (.fz .non)) o7 at_ (pn ++ [c]) ps) = some (.ok .nx, sM old new M pl (some (.fz .non)) o7 (at_ + 1) (pn ++ [c]) ps) := e_aug (ev_nm (w := .fz (.int (at_ : Int))) rfl) ev_ck rfl
    have k2 : ifS (tst (op2 isO (nm 3) (ck .non))) (seqS (augS 5 iaddO (op2 atO (nm 1) (nm 6))) (seqS (augS 6 iaddO (ck (.int 1))) ctS)) nxS s1 = some (.ok .ct, sM old new M pl (some (.fz .non)) o7 (at_ + 1) (pn ++ [c]) ps) := by
      rw [e_if c2, if_pos rfl, ev_seq a1, ev_seq a2]
      rfl
    refine ⟨at_ + 1, pn ++ [c], ps, some (.fz .non), o7, .ct, by omega, ⟨by omega, ?_, by rw [List.length_append]; simp; omega, i4⟩, .inr rfl, ?_⟩
    · rw [← List.append_assoc, i2, List.take_succ, hc]
      rfl
    · unfold bdM
      rw [ev_seq k1]
      exact ev_seqC k2
  | some st_ =>
    obtain ⟨p1, p2⟩ := hp _ (gP_mem hg)
    have p1 : tl k = ((tl old).drop st_).take 8 := p1
    have p2 : st_ + 8 ≤ (tl old).length := p2
    rw [tl_ofL] at p1
    have hat : at_ + 8 ≤ new.length := by
      have := congrArg List.length p1
      rw [List.length_take, List.length_take, List.length_drop, List.length_drop] at this
      omega
    let w3 : Option W := some (.fz (.int (st_ : Int)))
    have k1 : asgS (get1 (nm 2) (slO (nm 1) (poS (nm 6)) (poS (op2 addO (nm 6) (ck (.int 8)))))) (gNm 3) s = some (.ok .nx, sM old new M pl w3 o7 at_ pn ps) := by
      refine e_asg (x := .fz (.int (st_ : Int))) (e_get1 (ev_nm (w := .ob M.length) rfl) hdc hk ?_)
      unfold getO
      rw [had]
      simp only [keyW, keyD, dget_eP, hg]
      rfl
    have k2 : ∀ p, ifS (tst (op2 isO (nm 3) (ck .non))) p nxS (sM old new M pl w3 o7 at_ pn ps) = some (.ok .nx, sM old new M pl w3 o7 at_ pn ps) := fun p => by
      have c2 : tst (op2 isO (nm 3) (ck .non)) (sM old new M pl w3 o7 at_ pn ps) = some (.ok false, sM old new M pl w3 o7 at_ pn ps) := e_tst (e_op2 (ev_nm (w := .fz (.int (st_ : Int))) rfl) ev_ck rfl)
      rw [e_if c2]
      rfl
    have k3 : asgS (ck (.int 8)) (gNm 7) (sM old new M pl w3 o7 at_ pn ps) = some (.ok .nx, sM old new M pl w3 (some (.fz (.int 8))) at_ pn ps) := rfl
    obtain ⟨z, z1, z2, z3, z4, k4⟩ := inner (old := old) (new := new) (M := M) (pl := pl) (at_ := at_) (st_ := st_) (pn := pn) (ps := ps) hlo hln hat (by omega) p1
    let w7 : Option W := some (.fz (.int (z : Int)))
    let ps1 := if pn = [] then ps else ps ++ [.tx pn]
    have pl1 : ps1.length ≤ ps.length + pn.length := by
      show (if pn = [] then ps else ps ++ [.tx pn]).length ≤ _
      split
      · omega
      · rename_i hne
        have := List.length_pos_iff.mpr hne
        rw [List.length_append]
        simp
        omega
    have isl : ∀ ps : List Pt, isLs (M ++ [MO.dK (eP pl)] ++ [.lst (ps.map ptD)]) (.ob (M ++ [MO.dK (eP pl)]).length) = true := fun ps => isLs_last
    have app : ∀ (ps : List Pt) (p : Pt), ps.length ≤ 50000 → appO (M ++ [MO.dK (eP pl)] ++ [.lst (ps.map ptD)]) (.ob (M ++ [MO.dK (eP pl)]).length) [.fz (ptD p)] = some (.fz .non, M ++ [MO.dK (eP pl)] ++ [.lst ((ps ++ [p]).map ptD)]) := fun ps p hl => by
      rw [app_last (by rw [List.length_map]; omega), List.map_append]
      rfl
    have k5 : ifS (tru (nm 5)) (seqS (drpS (bm isLs appO (nm 4) (aC (nm 5) aN))) (asgS (ck (.str "")) (gNm 5))) nxS (sM old new M pl w3 w7 at_ pn ps) = some (.ok .nx, sM old new M pl w3 w7 at_ [] ps1) := by
      have ct : tru (nm 5) (sM old new M pl w3 w7 at_ pn ps) = some (.ok (pn.length != 0), sM old new M pl w3 w7 at_ pn ps) := by
        unfold tru
        rw [ev_bnd (ev_nm (w := .fz (.str (ofL pn))) rfl)]
        have : truB (sM old new M pl w3 w7 at_ pn ps).m (.fz (.str (ofL pn))) = some (pn.length != 0) := by
          show (if (ofL pn).length ≤ LIM then some ((ofL pn).length != 0) else none) = _
          rw [len_tl, tl_ofL, if_pos (lim_of (m := 20000) (by omega))]
        rw [this]
        rfl
      rw [e_if ct]
      by_cases hpn : pn = []
      · subst hpn
        show nxS _ = _
        rfl
      · have : (pn.length != 0) = true := by
          have := List.length_pos_iff.mpr hpn
          simp
          exact hpn
        rw [this, if_pos rfl]
        have q1 := e_drp (e_bm (chk := isLs) (o := appO) (f := nm 4) (g := aC (nm 5) aN) (s := sM old new M pl w3 w7 at_ pn ps) (ev_nm (w := .ob (M ++ [MO.dK (eP pl)]).length) rfl) (isl ps) (e_a1 (ev_nm (w := .fz (ptD (.tx pn))) rfl)) (app ps (.tx pn) (by omega)))
        have e1 : ps1 = ps ++ [.tx pn] := if_neg hpn
        rw [ev_seq q1, e1]
        rfl
    have k6 : drpS (bm isLs appO (nm 4) (aC (opN tupO (aC (nm 3) (aC (nm 7) aN))) aN)) (sM old new M pl w3 w7 at_ [] ps1) = some (.ok .nx, sM old new M pl w3 w7 at_ [] (ps1 ++ [.cp st_ z])) :=
      e_drp (e_bm (chk := isLs) (o := appO) (f := nm 4) (ev_nm (w := .ob (M ++ [MO.dK (eP pl)]).length) rfl) (isl ps1) (e_a1 (e_opN (e_a2 (ev_nm (w := .fz (.int (st_ : Int))) rfl) (ev_nm (w := .fz (.int (z : Int))) rfl)) tup2)) (app ps1 (.cp st_ z) (by omega)))
    have k7 : augS 6 iaddO (nm 7) (sM old new M pl w3 w7 at_ [] (ps1 ++ [.cp st_ z])) = some (.ok .nx, sM old new M pl w3 w7 (at_ + z) [] (ps1 ++ [.cp st_ z])) := e_aug (ev_nm (w := .fz (.int (at_ : Int))) rfl) (ev_nm (w := .fz (.int (z : Int))) rfl) rfl
    have cat1 : cat (tl old) ps1 = (tl new).take at_ := by
      rw [← i2]
      show cat (tl old) (if pn = [] then ps else ps ++ [.tx pn]) = _
      split
      · rename_i h
        rw [h, List.append_nil]
      · rw [cat_snoc]
        rfl
    refine ⟨at_ + z, [], ps1 ++ [.cp st_ z], w3, w7, .nx, by omega, ⟨z2, ?_, by rw [List.length_append]; simp; omega, ?_⟩, .inl rfl, ?_⟩
    · rw [List.append_nil, cat_snoc, cat1, List.take_add]
      show _ ++ ((tl old).drop st_).take z = _
      rw [z4]
    · intro p hp
      rcases List.mem_append.mp hp with hp | hp
      · have hp : p ∈ (if pn = [] then ps else ps ++ [.tx pn]) := hp
        split at hp
        · exact i4 p hp
        · rcases List.mem_append.mp hp with hp | hp
          · exact i4 p hp
          · simp at hp
            subst hp
            trivial
      · simp at hp
        subst hp
        exact ⟨z1, by omega⟩
    · unfold bdM
      rw [ev_seq k1, ev_seq (k2 _), ev_seq k3, ev_seq k4, ev_seq k5, ev_seq k6]
      exact k7
end
end PD

noncomputable section
namespace PD
open PySem L2 PyProof.Rows
structure PT where
  a : Str
  b : Str
  ps : List Pt
structure PT.Ok (p : PT) : Prop where
  ps : ∀ x ∈ p.ps, ptOk (tl p.a) x
  cat : PD.cat (tl p.a) p.ps = tl p.b
  len : p.ps.length ≤ 20000
  la : p.a.length ≤ 20000
  lb : p.b.length ≤ 20000
def PT.d (p : PT) : D := .tup [.tup [.str (dig p.a), .str (dig p.b)], .tup (p.ps.map ptD)]
theorem s_patch (old new : Str) (M : List MO) (h8 : 8 ≤ old.length) (hlo : old.length ≤ 20000) (hln : new.length ≤ 20000) : ∃ ps, PT.Ok ⟨old, new, ps⟩ ∧ fs_patch [.fz (.str old), .fz (.str new)] M = some (.ok (.fz (PT.d ⟨old, new, ps⟩)), M) := by
  obtain ⟨pl, o3, hp, k2⟩ := places (old := old) (new := new) (M := M) h8 hlo
  have tn : (tl new).length = new.length := (len_tl new).symm
  have k1 : asgS (newO dict0) (gNm 2) ⟨start0 8 [.fz (.str old), .fz (.str new)], M⟩ = some (.ok .nx, sPl old new M [] none) := rfl
  have k3 : parS3 4 5 6 (aC (lstM aN) (aC (ck (.str "")) (aC (ck (.int 0)) aN))) (sPl old new M pl o3) = some (.ok .nx, sM old new M pl o3 none 0 [] []) := rfl
  have cnd : ∀ o3 o7 at_ pn ps, tst (op2 ltO (nm 6) (opN lenO (aC (nm 1) aN))) (sM old new M pl o3 o7 at_ pn ps) = some (.ok (decide ((at_ : Int) < (new.length : Int))), sM old new M pl o3 o7 at_ pn ps) := fun o3 o7 at_ pn ps => e_tst (e_op2 (ev_nm (w := .fz (.int (at_ : Int))) rfl) (e_opN (e_a1 (ev_nm (w := .fz (.str new)) rfl)) (by rw [lenO_str, if_pos (lim_of (m := 20000) hln)])) ltO_ii)
  obtain ⟨n', s', k4, ⟨at_, pn, ps, p3, p7, hI, hn, rfl⟩, hc⟩ := whL_inv (c := tst (op2 ltO (nm 6) (opN lenO (aC (nm 1) aN)))) (b := bdM) (I := fun n s => ∃ at_ pn ps o3 o7, InvM old new at_ pn ps ∧ n = new.length - at_ ∧ s = sM old new M pl o3 o7 at_ pn ps)
    (fun n s ⟨at_, pn, ps, o3, o7, hI, hn, hs⟩ => by
      subst hs
      by_cases hlt : at_ < new.length
      · obtain ⟨at', pn', ps', p3, p7, f, h1, h2, h3, h4⟩ := main_step (M := M) hlo hln hp hI hlt o3 o7
        have := h2.1
        exact .inr ⟨by rw [cnd, decide_eq_true (by omega)], new.length - at', _, f, by omega, h4, h3, at', pn', ps', p3, p7, h2, rfl, rfl⟩
      · exact .inl (by rw [cnd, decide_eq_false (by omega)]))
    FUEL new.length (sM old new M pl o3 none 0 [] []) (by unfold FUEL; omega) ⟨0, [], [], o3, none, ⟨by omega, by simp [cat], by simp, by simp⟩, by omega, rfl⟩
  rw [cnd] at hc
  have hc : decide ((at_ : Int) < (new.length : Int)) = false := by injection hc with h; injection h with h _; injection h
  have hat : at_ = new.length := by
    have h1 := hI.1
    have h2 := of_decide_eq_false hc
    omega
  obtain ⟨i1, i2, i3, i4⟩ := hI
  rw [hat, ← tn, List.take_length] at i2
  let ps1 := if pn = [] then ps else ps ++ [.tx pn]
  have pl1 : ps1.length ≤ ps.length + pn.length := by
    show (if pn = [] then ps else ps ++ [.tx pn]).length ≤ _
    split
    · omega
    · rename_i hne
      have := List.length_pos_iff.mpr hne
      rw [List.length_append]
      simp
      omega
  have cat1 : cat (tl old) ps1 = tl new := by
    rw [← i2]
    show cat (tl old) (if pn = [] then ps else ps ++ [.tx pn]) = _
    split
    · rename_i h
      rw [h, List.append_nil]
    · rw [cat_snoc]
      rfl
  have ok1 : ∀ x ∈ ps1, ptOk (tl old) x := fun p hp => by
    have hp : p ∈ (if pn = [] then ps else ps ++ [.tx pn]) := hp
    split at hp
    · exact i4 p hp
    · rcases List.mem_append.mp hp with hp | hp
      · exact i4 p hp
      · simp at hp
        subst hp
        trivial
  let s1 := sM old new M pl p3 p7 at_ pn ps1
  have k5 : ifS (tru (nm 5)) (drpS (bm isLs appO (nm 4) (aC (nm 5) aN))) nxS (sM old new M pl p3 p7 at_ pn ps) = some (.ok .nx, s1) := by
    have ct : tru (nm 5) (sM old new M pl p3 p7 at_ pn ps) = some (.ok (pn.length != 0), sM old new M pl p3 p7 at_ pn ps) := by
      unfold tru
      rw [ev_bnd (ev_nm (w := .fz (.str (ofL pn))) rfl)]
      have : truB (sM old new M pl p3 p7 at_ pn ps).m (.fz (.str (ofL pn))) = some (pn.length != 0) := by
        show (if (ofL pn).length ≤ LIM then some ((ofL pn).length != 0) else none) = _
        rw [len_tl, tl_ofL, if_pos (lim_of (m := 20000) (by omega))]
      rw [this]
      rfl
    rw [e_if ct]
    by_cases hpn : pn = []
    · subst hpn
      rfl
    · have : (pn.length != 0) = true := by
        simp
        exact hpn
      rw [this, if_pos rfl]
      have app : appO (M ++ [MO.dK (eP pl)] ++ [.lst (ps.map ptD)]) (.ob (M ++ [MO.dK (eP pl)]).length) [.fz (ptD (.tx pn))] = some (.fz .non, M ++ [MO.dK (eP pl)] ++ [.lst ((ps ++ [Pt.tx pn]).map ptD)]) := by
        rw [app_last (by rw [List.length_map]; omega), List.map_append]
        rfl
      have q1 := e_drp (e_bm (chk := isLs) (o := appO) (f := nm 4) (g := aC (nm 5) aN) (s := sM old new M pl p3 p7 at_ pn ps) (ev_nm (w := .ob (M ++ [MO.dK (eP pl)]).length) rfl) isLs_last (e_a1 (ev_nm (w := .fz (ptD (.tx pn))) rfl)) app)
      have e1 : ps1 = ps ++ [.tx pn] := if_neg hpn
      have e2 : s1 = sM old new M pl p3 p7 at_ pn (ps ++ [.tx pn]) := by
        show sM old new M pl p3 p7 at_ pn ps1 = _
        rw [e1]
      rw [e2]
      exact q1
  refine ⟨ps1, ⟨ok1, cat1, by show ps1.length ≤ 20000; omega, hlo, hln⟩, ?_⟩
  rw [show fs_patch = fnD 8 fb_patch from rfl]
  refine fin_okL (s := s1) (L := [.dK (eP pl), .lst (ps1.map ptD)]) ?_ (by show M ++ [MO.dK (eP pl)] ++ [.lst (ps1.map ptD)] = _; rw [List.append_assoc]; rfl)
  unfold fb_patch
  rw [ev_seq k1]
  refine (ev_seq k2).trans ?_
  rw [ev_seq k3]
  refine (ev_seq k4).trans ?_
  rw [ev_seq k5]
  have ht : opN tupleO (aC (nm 4) aN) s1 = some (.ok (.fz (.tup (ps1.map ptD))), s1) := by
    refine e_opN (e_a1 (ev_nm (w := .ob (M ++ [MO.dK (eP pl)]).length) rfl)) ?_
    have : asS s1.m (.ob (M ++ [MO.dK (eP pl)]).length) = some (ps1.map ptD) := by
      have h := get_last (M := M ++ [MO.dK (eP pl)]) (x := .lst (ps1.map ptD))
      unfold asS
      show (match (M ++ [MO.dK (eP pl)] ++ [MO.lst (ps1.map ptD)])[(M ++ [MO.dK (eP pl)]).length]? with | some (.lst ds) => some ds | _ => none) = _
      simp only [h]
    show (asS s1.m (.ob (M ++ [MO.dK (eP pl)]).length)).map (fun ds => W.fz (.tup ds)) = _
    rw [this]
    rfl
  exact e_ret (e_opN (e_a2 (e_opN (e_a2 (e_call (e_a1 (ev_nm (w := .fz (.str old)) rfl)) rfl (s_digest old _ (lim_of (m := 20000) hlo))) (e_call (e_a1 (ev_nm (w := .fz (.str new)) rfl)) rfl (s_digest new _ (lim_of (m := 20000) hln)))) tup2) ht) tup2)
/-! ### defs that may raise -/
theorem fin_okX {n : Nat} {b : Mo Fl} {ws : List W} {M : List MO} {d : D} {s : S} (h : b ⟨start0 n ws, M⟩ = some (.ok (.rt (.fz d)), s)) (hm : s.m = M) : fnX n b ws M = some (.ok (.fz d), M) := by
  unfold fnX
  rw [h]
  simp only [hm]
  show ((trunc M M).map fun M2 => (W.fz d, M2)).map _ = _
  rw [trunc_refl]
  rfl
theorem fin_erX {n : Nat} {b : Mo Fl} {ws : List W} {M : List MO} {c : Nat} {s : S} (h : b ⟨start0 n ws, M⟩ = some (.error ⟨c, []⟩, s)) (hm : s.m = M) : fnX n b ws M = some (.error ⟨c, []⟩, M) := by
  unfold fnX
  rw [h]
  simp only [hm, List.isEmpty_nil, if_true, trunc_refl]
  rfl
theorem ev_seqE {f g : Mo Fl} {s s1 : S} {e : Exc} (h : f s = some (.error e, s1)) : seqS f g s = some (.error e, s1) := by unfold seqS; rw [h]
theorem e_isi {f : Mo W} {s : S} {x z : W} (h : f s = some (.ok x, s)) (ho : isiO s.m x = some z) : isiS f s = some (.ok z, s) := by
  unfold isiS
  rw [ev_bnd h, ho]
  rfl
theorem forL_cons {g : W → Mo Unit} {b : Mo Fl} {w : W} {ws : List W} {s s1 : S} (h : bnd (g w) (fun _ => b) s = some (.ok .nx, s1)) : forL g b (fun _ => true) (w :: ws) s = forL g b (fun _ => true) ws s1 := by
  obtain ⟨u, sg, hg⟩ : ∃ u sg, g w s = some (.ok u, sg) := by
    cases hg : g w s with
    | none => rw [bnd_no hg] at h; cases h
    | some q =>
      obtain ⟨r, sg⟩ := q
      cases r with
      | error e => rw [bnd_er hg] at h; cases h
      | ok u => exact ⟨u, sg, rfl⟩
  conv => lhs; unfold forL
  simp only [if_true]
  rw [bnd_ok hg] at h ⊢
  simp only [h]
theorem forL_err {g : W → Mo Unit} {b : Mo Fl} {w : W} {ws : List W} {s s0 s1 : S} {e : Exc} (hg : g w s = some (.ok (), s0)) (h : b s0 = some (.error e, s1)) : forL g b (fun _ => true) (w :: ws) s = some (.error e, s1) := by
  conv => lhs; unfold forL
  simp only [if_true]
  rw [bnd_ok hg]
  simp only [h]
def sD (p : PT) (old : Str) (o5 o6 o7 o8 : Option W) (M : List MO) : S := ⟨[some (.fz (.str old)), some (.fz p.d), some (.fz (.str (dig p.a))), some (.fz (.str (dig p.b))), some (.fz (.tup (p.ps.map ptD))), o5, o6, o7, o8], M⟩
theorem pd_k1 {p : PT} {old : Str} {M : List MO} : asgS (nm 1) (gTp 2 (gCn (gTp 2 (gCn (gNm 2) (gCn (gNm 3) gNl))) (gCn (gNm 4) gNl))) ⟨start0 9 [.fz (.str old), .fz p.d], M⟩ = some (.ok .nx, sD p old none none none none M) := rfl
theorem pd_c1 {p : PT} {old : Str} {M : List MO} (hl : old.length ≤ 20000) : tst (op2 neO (callF 1 fs_digest (aC (nm 0) aN)) (nm 2)) (sD p old none none none none M) = some (.ok (!(dig old == dig p.a)), sD p old none none none none M) :=
  e_tst (e_op2 (e_call (e_a1 (ev_nm (w := .fz (.str old)) rfl)) rfl (s_digest old _ (lim_of (m := 20000) hl))) (ev_nm (w := .fz (.str (dig p.a))) rfl) neO_ss)
theorem s_patched_no {p : PT} {old : Str} {M : List MO} (hl : old.length ≤ 20000) (h : dig old ≠ dig p.a) : fs_patched [.fz (.str old), .fz p.d] M = some (.error ⟨0, []⟩, M) := by
  rw [show fs_patched = fnX 9 fb_patched from rfl]
  refine fin_erX (s := sD p old none none none none M) ?_ rfl
  unfold fb_patched
  rw [ev_seq pd_k1]
  refine ev_seqE ?_
  rw [e_if (pd_c1 hl), beq_eq_false_iff_ne.mpr h]
  rfl
theorem cat_take_le (old : List Nat) (ps : List Pt) (i : Nat) : (cat old (ps.take i)).length ≤ (cat old ps).length := by
  conv => rhs; rw [← List.take_append_drop i ps]
  unfold cat
  rw [List.map_append, List.flatten_append, List.length_append]
  omega
theorem s_patched_ok {p : PT} {M : List MO} (ok : p.Ok) : fs_patched [.fz (.str p.a), .fz p.d] M = some (.ok (.fz (.str p.b)), M) := by
  rw [show fs_patched = fnX 9 fb_patched from rfl]
  have k2 : ifS (tst (op2 neO (callF 1 fs_digest (aC (nm 0) aN)) (nm 2))) (rsS 0) nxS (sD p p.a none none none none M) = some (.ok .nx, sD p p.a none none none none M) := by
    rw [e_if (pd_c1 ok.la), beq_self_eq_true]
    rfl
  let st := fun (i : Nat) (o6 o7 o8 : Option W) => sD p p.a (some (.fz (.str (ofL (cat (tl p.a) (p.ps.take i)))))) o6 o7 o8 M
  have k3 : asgS (ck (.str "")) (gNm 5) (sD p p.a none none none none M) = some (.ok .nx, st 0 none none none) := rfl
  have ta : (tl p.a).length = p.a.length := (len_tl p.a).symm
  have tb : (tl p.b).length = p.b.length := (len_tl p.b).symm
  have lb := ok.lb
  obtain ⟨s', h1, o6, o7, o8, h2⟩ := forL_ind (g := gNm 6) (b := (ifS (tru (isiS (nm 6))) (augS 5 iaddO (nm 6)) (seqS (asgS (nm 6) (gTp 2 (gCn (gNm 7) (gCn (gNm 8) gNl))))
  (seqS (ifS (orT (tst (op2 ltO (nm 7) (ck (.int 0)))) (orT (tst (op2 ltO (nm 8) (ck (.int 1)))) (tst (op2 gtO (op2 addO (nm 7) (nm 8)) (opN lenO (aC (nm 0) aN)))))) (rsS 0) nxS)
  (augS 5 iaddO (slO (nm 0) (poS (nm 7)) (poS (op2 addO (nm 7) (nm 8))))))))) (ok := fun _ => true)
    (fun i s => ∃ o6 o7 o8, s = st i o6 o7 o8) (p.ps.map fun x => .fz (ptD x)) 0 (st 0 none none none)
    (fun i w s hw ⟨o6, o7, o8, hs⟩ => by
      subst hs
      obtain ⟨x, hx, rfl⟩ := getD hw
      simp only [Nat.zero_add]
      have hle := cat_take_le (tl p.a) p.ps (i + 1)
      rw [ok.cat, take_snoc hx, cat_snoc, List.length_append] at hle
      have hok := ok.ps x (List.mem_of_getElem? hx)
      have fin : ∀ y : Str, tl y = ptL (tl p.a) x → iaddO M (.fz (.str (ofL (cat (tl p.a) (p.ps.take i))))) (.fz (.str y)) = some (.fz (.str (ofL (cat (tl p.a) (p.ps.take (i + 1)))))) := fun y hy => by
        refine iaddS (by rw [len_tl, len_tl, tl_ofL, hy]; omega) (tl_inj ?_)
        rw [tl_app, tl_ofL, tl_ofL, hy, take_snoc hx, cat_snoc]
      rw [ev_bnd (show gNm 6 (.fz (ptD x)) (st i o6 o7 o8) = some (.ok (), st i (some (.fz (ptD x))) o7 o8) from rfl)]
      cases x with
      | tx t =>
        refine ⟨trivial, st (i + 1) (some (.fz (ptD (.tx t)))) o7 o8, .inl ?_, _, _, _, rfl⟩
        have c : tru (isiS (nm 6)) (st i (some (.fz (ptD (.tx t)))) o7 o8) = some (.ok true, st i (some (.fz (ptD (.tx t)))) o7 o8) := e_tru (e_isi (ev_nm (w := .fz (ptD (.tx t))) rfl) rfl)
        rw [e_if c, if_pos rfl]
        exact e_aug (ev_nm (w := .fz (.str (ofL (cat (tl p.a) (p.ps.take i))))) rfl) (ev_nm (w := .fz (.str (ofL t))) rfl) (fin (ofL t) (tl_ofL t))
      | cp s n =>
        obtain ⟨q1, q2⟩ := hok
        refine ⟨trivial, st (i + 1) (some (.fz (ptD (.cp s n)))) (some (.fz (.int (s : Int)))) (some (.fz (.int (n : Int)))), .inl ?_, _, _, _, rfl⟩
        have c : tru (isiS (nm 6)) (st i (some (.fz (ptD (.cp s n)))) o7 o8) = some (.ok false, st i (some (.fz (ptD (.cp s n)))) o7 o8) := e_tru (e_isi (ev_nm (w := .fz (ptD (.cp s n))) rfl) rfl)
        let s2 := st i (some (.fz (ptD (.cp s n)))) (some (.fz (.int (s : Int)))) (some (.fz (.int (n : Int))))
        have a1 : asgS (nm 6) (gTp 2 (gCn (gNm 7) (gCn (gNm 8) gNl))) (st i (some (.fz (ptD (.cp s n)))) o7 o8) = some (.ok .nx, s2) := rfl
        have e78 : op2 addO (nm 7) (nm 8) s2 = some (.ok (.fz (.int ((s + n : Nat) : Int))), s2) := e_op2 (ev_nm (w := .fz (.int (s : Int))) rfl) (ev_nm (w := .fz (.int (n : Int))) rfl) rfl
        have a2 : ifS (orT (tst (op2 ltO (nm 7) (ck (.int 0)))) (orT (tst (op2 ltO (nm 8) (ck (.int 1)))) (tst (op2 gtO (op2 addO (nm 7) (nm 8)) (opN lenO (aC (nm 0) aN)))))) (rsS 0) nxS s2 = some (.ok .nx, s2) := by
          have d1 : tst (op2 ltO (nm 7) (ck (.int 0))) s2 = some (.ok (decide ((s : Int) < 0)), s2) := e_tst (e_op2 (ev_nm (w := .fz (.int (s : Int))) rfl) ev_ck ltO_ii)
          have d2 : tst (op2 ltO (nm 8) (ck (.int 1))) s2 = some (.ok (decide ((n : Int) < 1)), s2) := e_tst (e_op2 (ev_nm (w := .fz (.int (n : Int))) rfl) ev_ck ltO_ii)
          have d3 : tst (op2 gtO (op2 addO (nm 7) (nm 8)) (opN lenO (aC (nm 0) aN))) s2 = some (.ok (decide ((p.a.length : Int) < ((s + n : Nat) : Int))), s2) := e_tst (e_op2 e78 (e_opN (e_a1 (ev_nm (w := .fz (.str p.a)) rfl)) (by rw [lenO_str, if_pos (lim_of (m := 20000) ok.la)])) gtO_ii)
          rw [e_if (e_or d1 fun _ => e_or d2 fun _ => d3), decide_eq_false (show ¬ (s : Int) < 0 by omega), decide_eq_false (show ¬ (n : Int) < 1 by omega), decide_eq_false (show ¬ (p.a.length : Int) < ((s + n : Nat) : Int) by omega)]
          rfl
        have a3 : augS 5 iaddO (slO (nm 0) (poS (nm 7)) (poS (op2 addO (nm 7) (nm 8)))) s2 = some (.ok .nx, st (i + 1) (some (.fz (ptD (.cp s n)))) (some (.fz (.int (s : Int)))) (some (.fz (.int (n : Int))))) := by
          refine e_aug (ev_nm (w := .fz (.str (ofL (cat (tl p.a) (p.ps.take i))))) rfl) (e_slAB (x := .fz (.str p.a)) (z := .fz (.str (ofL (((tl p.a).drop s).take n)))) (ev_nm rfl) (ev_nm (w := .fz (.int (s : Int))) rfl) e78 ?_) (fin _ (tl_ofL _))
          rw [cutO_s, if_pos (lim_of (m := 20000) ok.la), cutD_ab _ _ _ (by omega), show s + n - s = n by omega]
        rw [e_if c, if_neg Bool.false_ne_true, ev_seq a1, ev_seq a2]
        exact a3)
    (fun _ _ => rfl) ⟨none, none, none, rfl⟩
  rw [show 0 + (p.ps.map fun x => W.fz (ptD x)).length = p.ps.length by simp] at h2
  have ef : st p.ps.length o6 o7 o8 = sD p p.a (some (.fz (.str p.b))) o6 o7 o8 M := by
    show sD p p.a (some (.fz (.str (ofL (cat (tl p.a) (p.ps.take p.ps.length)))))) o6 o7 o8 M = _
    rw [List.take_length, ok.cat, ofL_tl]
  rw [ef] at h2
  refine fin_okX (s := sD p p.a (some (.fz (.str p.b))) o6 o7 o8 M) ?_ rfl
  unfold fb_patched
  have kw : walk (nm 4) (st 0 none none none) = some (.ok (Wk.of (p.ps.map fun x => .fz (ptD x))), st 0 none none none) := e_walk (ev_nm (w := .fz (.tup (p.ps.map ptD))) rfl) (show some (Wk.of ((p.ps.map ptD).map .fz)) = _ by rw [List.map_map]; rfl)
  rw [ev_seq pd_k1, ev_seq k2, ev_seq k3, ev_seq ((ev_for kw).trans h1), h2]
  have k5 : ifS (tst (op2 neO (callF 1 fs_digest (aC (nm 5) aN)) (nm 3))) (rsS 0) nxS (sD p p.a (some (.fz (.str p.b))) o6 o7 o8 M) = some (.ok .nx, sD p p.a (some (.fz (.str p.b))) o6 o7 o8 M) := by
    have c : tst (op2 neO (callF 1 fs_digest (aC (nm 5) aN)) (nm 3)) (sD p p.a (some (.fz (.str p.b))) o6 o7 o8 M) = some (.ok (!(dig p.b == dig p.b)), sD p p.a (some (.fz (.str p.b))) o6 o7 o8 M) := e_tst (e_op2 (e_call (e_a1 (ev_nm (w := .fz (.str p.b)) rfl)) rfl (s_digest p.b _ (lim_of (m := 20000) ok.lb))) (ev_nm (w := .fz (.str (dig p.b))) rfl) neO_ss)
    rw [e_if c, beq_self_eq_true]
    rfl
  rw [ev_seq k5]
  exact e_ret (ev_nm rfl)
end PD

noncomputable section
namespace PD
open PySem L2 PyProof.Rows
def sizeP : Pt → Nat
  | .tx t => t.length
  | .cp _ _ => 8
theorem sizeP_le {old : List Nat} {x : Pt} (h : ptOk old x) : sizeP x ≤ (ptL old x).length := by
  cases x with
  | tx t => exact Nat.le_refl _
  | cp s n =>
    obtain ⟨h1, h2⟩ := h
    show 8 ≤ ((old.drop s).take n).length
    rw [List.length_take, List.length_drop]
    omega
theorem sizes_le {old : List Nat} : ∀ ps : List Pt, (∀ x ∈ ps, ptOk old x) → (ps.map fun x => ((sizeP x : Nat) : Int)).sum ≤ ((cat old ps).length : Int)
  | [], _ => by simp [cat]
  | x :: ps, h => by
    have h1 := sizeP_le (h x List.mem_cons_self)
    have h2 := sizes_le ps fun y hy => h y (List.mem_cons_of_mem _ hy)
    have e : (cat old (x :: ps)).length = (ptL old x).length + (cat old ps).length := by
      unfold cat
      rw [List.map_cons, List.flatten_cons, List.length_append]
    rw [List.map_cons, List.sum_cons, e]
    omega
theorem s_patch_size {p : PT} {M : List MO} (ok : p.Ok) : fs_patch_size [.fz p.d] M = some (.ok (.fz (.int ((p.ps.map fun x => ((sizeP x : Nat) : Int)).sum))), M) := by
  rw [show fs_patch_size = fnD 2 fb_patch_size from rfl]
  let s : S := ⟨[some (.fz p.d), none], M⟩
  refine fin_ok (s := s) ?_ rfl
  unfold fb_patch_size
  show retS _ s = _
  have h1 : op2 atO (nm 0) (ck (.int 1)) s = some (.ok (.fz (.tup (p.ps.map ptD))), s) := by
    refine e_op2 (ev_nm (w := .fz p.d) rfl) ev_ck ?_
    show (L2.atI [D.tup [.str (dig p.a), .str (dig p.b)], .tup (p.ps.map ptD)] ((1 : Nat) : Int)).map W.fz = _
    rw [L2.atI_nat (v := D.tup (p.ps.map ptD)) rfl]
    rfl
  have lp := ok.len
  have k1 := e_lcA (f := walk (op2 atO (nm 0) (ck (.int 1)))) (vs := [1]) (g := gNm 1) (e := iffE (tru (isiS (nm 1))) (opN lenO (aC (nm 1) aN)) (ck (.int 8))) (s := s) (l := p.ps) (em := fun x => .fz (ptD x)) (ff := fun x => .int ((sizeP x : Nat) : Int))
    (e_walk h1 (show some (Wk.of ((p.ps.map ptD).map .fz)) = _ by rw [List.map_map]; rfl)) (lim_of (m := 20000) lp) (fun x hx => by
      let s1 : S := ⟨[some (.fz p.d), some (.fz (ptD x))], M⟩
      refine ⟨s1, rfl, rfl, ?_⟩
      have hle : (ptL (tl p.a) x).length ≤ 20000 := by
        have h2 : (ptL (tl p.a) x).length ≤ (cat (tl p.a) p.ps).length := by
          unfold cat
          rw [List.length_flatten]
          refine le_sum ?_
          rw [List.map_map]
          exact List.mem_map.mpr ⟨x, hx, rfl⟩
        rw [ok.cat, ← len_tl] at h2
        have := ok.lb
        omega
      cases x with
      | tx t =>
        have c : tru (isiS (nm 1)) s1 = some (.ok true, s1) := e_tru (e_isi (ev_nm (w := .fz (ptD (.tx t))) rfl) rfl)
        rw [e_iffE c, if_pos rfl]
        refine e_opN (e_a1 (ev_nm (w := .fz (.str (ofL t))) rfl)) ?_
        have hle : t.length ≤ 20000 := hle
        rw [lenO_str, len_tl, tl_ofL, if_pos (lim_of (m := 20000) hle)]
        rfl
      | cp a n =>
        have c : tru (isiS (nm 1)) s1 = some (.ok false, s1) := e_tru (e_isi (ev_nm (w := .fz (ptD (.cp a n))) rfl) rfl)
        rw [e_iffE c, if_neg Bool.false_ne_true]
        rfl)
  refine e_ret (e_opN (e_a1 k1) ?_)
  have : (p.ps.map fun x => D.int ((sizeP x : Nat) : Int)) = (p.ps.map fun x => ((sizeP x : Nat) : Int)).map .int := by rw [List.map_map]; rfl
  rw [this]
  show (dInts ((p.ps.map fun x => ((sizeP x : Nat) : Int)).map D.int)).map _ = _
  rw [dInts_int]
  rfl
/-! ### rows of patches -/
def lastB : Str → List PT → Str
  | x, [] => x
  | _, p :: r => lastB p.b r
def Chain : Str → List PT → Prop
  | _, [] => True
  | x, p :: r => p.a = x ∧ p.Ok ∧ Chain p.b r
def rowD (r : List PT) : D := .lst (r.map PT.d)
def bdJ : Mo Fl := (asgS (callX 2 fs_patched (aC (nm 0) (aC (nm 2) aN))) (gNm 0))
theorem callX_ok {n : Nat} {G : Fn} {s : S} {fs : Mo (List W)} {ws : List W} {z : W} (hf : fs s = some (.ok ws, s)) (hn : ws.length = n) (hG : G ws s.m = some (.ok z, s.m)) : callX n G fs s = some (.ok z, s) := by
  unfold callX
  rw [ev_bnd hf]
  simp only [hn, if_true, hG]
theorem callX_er {n : Nat} {G : Fn} {s : S} {fs : Mo (List W)} {ws : List W} {e : Exc} (hf : fs s = some (.ok ws, s)) (hn : ws.length = n) (hG : G ws s.m = some (.error e, s.m)) : callX n G fs s = some (.error e, s) := by
  unfold callX
  rw [ev_bnd hf]
  simp only [hn, if_true, hG]
theorem join_go {row : W} {M : List MO} : ∀ (r : List PT) (x : Str) (o2 : Option W), Chain x r → ∃ o2', forL (gNm 2) bdJ (fun _ => true) (r.map fun p => .fz p.d) ⟨[some (.fz (.str x)), some row, o2], M⟩ = some (.ok .nx, ⟨[some (.fz (.str (lastB x r))), some row, o2'], M⟩)
  | [], x, o2, _ => ⟨o2, rfl⟩
  | p :: r, x, o2, ⟨h1, h2, h3⟩ => by
    subst h1
    obtain ⟨o2', h4⟩ := join_go (row := row) (M := M) r p.b (some (.fz p.d)) h3
    refine ⟨o2', ?_⟩
    rw [List.map_cons]
    have k : bnd (gNm 2 (.fz p.d)) (fun _ => bdJ) ⟨[some (.fz (.str p.a)), some row, o2], M⟩ = some (.ok .nx, ⟨[some (.fz (.str p.b)), some row, some (.fz p.d)], M⟩) := by
      let s1 : S := ⟨[some (.fz (.str p.a)), some row, some (.fz p.d)], M⟩
      rw [ev_bnd (show gNm 2 (.fz p.d) ⟨[some (.fz (.str p.a)), some row, o2], M⟩ = some (.ok (), s1) from rfl)]
      exact e_asg (callX_ok (e_a2 (ev_nm (w := .fz (.str p.a)) rfl) (ev_nm (w := .fz p.d) rfl)) rfl (s_patched_ok h2))
    rw [forL_cons k]
    exact h4
theorem s_joined_ok {r : List PT} {x : Str} {M : List MO} (h : Chain x r) : fs_joined_patches [.fz (.str x), .fz (rowD r)] M = some (.ok (.fz (.str (lastB x r))), M) := by
  rw [show fs_joined_patches = fnX 3 fb_joined_patches from rfl]
  obtain ⟨o2, hg⟩ := join_go (row := .fz (rowD r)) (M := M) r x none h
  refine fin_okX (s := ⟨[some (.fz (.str (lastB x r))), some (.fz (rowD r)), o2], M⟩) ?_ rfl
  unfold fb_joined_patches
  have kw : walk (nm 1) ⟨start0 3 [.fz (.str x), .fz (rowD r)], M⟩ = some (.ok (Wk.of (r.map fun p => .fz p.d)), ⟨start0 3 [.fz (.str x), .fz (rowD r)], M⟩) := e_walk (ev_nm (w := .fz (rowD r)) rfl) (by unfold rowD; rw [walkV_lst, List.map_map]; rfl)
  refine (ev_seq ((ev_for kw).trans hg)).trans ?_
  exact e_ret (ev_nm rfl)
theorem s_joined_no {r : List PT} {p : PT} {x : Str} {M : List MO} (hl : x.length ≤ 20000) (h : dig x ≠ dig p.a) : fs_joined_patches [.fz (.str x), .fz (rowD (p :: r))] M = some (.error ⟨0, []⟩, M) := by
  rw [show fs_joined_patches = fnX 3 fb_joined_patches from rfl]
  let s0 : S := ⟨[some (.fz (.str x)), some (.fz (rowD (p :: r))), none], M⟩
  let s1 : S := ⟨[some (.fz (.str x)), some (.fz (rowD (p :: r))), some (.fz p.d)], M⟩
  refine fin_erX (s := s1) ?_ rfl
  unfold fb_joined_patches
  have kw : walk (nm 1) s0 = some (.ok (Wk.of ((p :: r).map fun p => .fz p.d)), s0) := e_walk (ev_nm (w := .fz (rowD (p :: r))) rfl) (by unfold rowD; rw [walkV_lst, List.map_map]; rfl)
  refine ev_seqE ?_
  show forS _ _ _ s0 = _
  rw [ev_for kw]
  refine forL_err (s0 := s1) rfl ?_
  have k : callX 2 fs_patched (aC (nm 0) (aC (nm 2) aN)) s1 = some (.error ⟨0, []⟩, s1) := callX_er (e_a2 (ev_nm (w := .fz (.str x)) rfl) (ev_nm (w := .fz p.d) rfl)) rfl (s_patched_no hl h)
  unfold asgS
  rw [bnd_er k]
theorem s_law_patched_ok {r : List PT} {x : Str} {M : List MO} (h : Chain x r) : fs__law_patched [.fz (.str x), .fz (rowD r)] M = some (.ok (.fz (.str (lastB x r))), M) := by
  rw [show fs__law_patched = fnD 2 fb__law_patched from rfl]
  let s : S := ⟨[some (.fz (.str x)), some (.fz (rowD r))], M⟩
  refine fin_ok (s := s) ?_ rfl
  unfold fb__law_patched
  have hb : retS (callX 2 fs_joined_patches (aC (nm 0) (aC (frz (opO listO (aC (nm 1) aN))) aN))) s = some (.ok (.rt (.fz (.str (lastB x r)))), s) :=
    e_ret (callX_ok (e_a2 (ev_nm rfl) (e_frz (e_opO (e_a1 (ev_nm (w := .fz (rowD r)) rfl)) (show listO M [.fz (rowD r)] = some (.lst (r.map PT.d)) from rfl)) rfl)) rfl (s_joined_ok h))
  show tryS _ _ _ s = _
  unfold tryS
  rw [hb]
theorem s_law_patched_no {r : List PT} {p : PT} {x : Str} {M : List MO} (hl : x.length ≤ 20000) (h : dig x ≠ dig p.a) : fs__law_patched [.fz (.str x), .fz (rowD (p :: r))] M = some (.ok (.fz .non), M) := by
  rw [show fs__law_patched = fnD 2 fb__law_patched from rfl]
  let s : S := ⟨[some (.fz (.str x)), some (.fz (rowD (p :: r)))], M⟩
  refine fin_ok (s := s) ?_ rfl
  unfold fb__law_patched
  have hb : retS (callX 2 fs_joined_patches (aC (nm 0) (aC (frz (opO listO (aC (nm 1) aN))) aN))) s = some (.error ⟨0, []⟩, s) := by
    have k : callX 2 fs_joined_patches (aC (nm 0) (aC (frz (opO listO (aC (nm 1) aN))) aN)) s = some (.error ⟨0, []⟩, s) := callX_er (e_a2 (ev_nm (w := .fz (.str x)) rfl) (e_frz (e_opO (e_a1 (ev_nm (w := .fz (rowD (p :: r))) rfl)) (show listO M [.fz (rowD (p :: r))] = some (.lst ((p :: r).map PT.d)) from rfl)) rfl)) rfl (s_joined_no hl h)
    unfold retS
    rw [bnd_er k]
  show tryS _ _ _ s = _
  unfold tryS
  rw [hb]
  rfl
/-! ### cuts -/
theorem s_law_cut {n : Nat} {t : Tp} {d f : FS} {M : List MO} (hn : n < M.length) (h : Small d) (gf : GF f) (hx : nxt d < 1000000000) (hcut : ∀ c, Small (aft d ((install d f).take c))) :
    ∃ (c : Nat) (t' : Tp), fs__law_cut [.ob n, .fz (.dK (eF d)), .fz (.dK (eF d)), .fz (.dK (eF f))] (M.set n (.dK (tpD t))) = some (.ok (.fz (.tup [.dK (eF (aft (aft d ((install d f).take c)) (recF (aft d ((install d f).take c))))), .dK (eF (aft (aft d ((install d f).take c)) (recF (aft d ((install d f).take c)))))])), M.set n (.dK (tpD t'))) := by
  let ws := install d f
  have lw : ws.length ≤ 7 := by
    have := gf.len
    show (install d f).length ≤ 7
    rw [install_len]
    omega
  obtain ⟨c, t', hc, ht⟩ := s_law_take n (ws.length + 1) t M hn (by omega)
  refine ⟨c, t', ?_⟩
  rw [show fs__law_cut = fnD 7 fb__law_cut from rfl]
  let st := fun (d1 : FS) (t : Tp) (o4 o5 o6 : Option W) => (⟨[some (.ob n), some (.fz (.dK (eF d1))), some (.fz (.dK (eF d1))), some (.fz (.dK (eF f))), o4, o5, o6], M.set n (.dK (tpD t))⟩ : S)
  let w4 : Option W := some (.fz (eWs ws))
  have li := img_small gf.small
  have g5 := gf.len
  have k1 : asgS (callF 2 fs_install_writes (aC (frz (opO dictO (aC (nm 1) aN))) (aC (callF 1 fs__law_image (aC (nm 3) aN)) aN))) (gNm 4) (st d t none none none) = some (.ok .nx, st d t w4 none none) :=
    e_asg (e_call (e_a2 (e_dict (ev_nm rfl)) (e_call (e_a1 (ev_nm (w := .fz (.dK (eF f))) rfl)) rfl (s_law_image f _ (by rw [kF_len]; omega) (lim_of (m := 20000) li)))) rfl (s_install_any d f _ h gf hx))
  have k2 : ifS (tst (op2 neO (nm 4) (callF 2 fs__law_install (aC (nm 2) (aC (nm 3) aN))))) (retS (ck .non)) nxS (st d t w4 none none) = some (.ok .nx, st d t w4 none none) := by
    have c : tst (op2 neO (nm 4) (callF 2 fs__law_install (aC (nm 2) (aC (nm 3) aN)))) (st d t w4 none none) = some (.ok false, st d t w4 none none) := e_tst (e_op2 (ev_nm (w := .fz (eWs ws)) rfl) (e_call (e_a2 (ev_nm (w := .fz (.dK (eF d))) rfl) (ev_nm (w := .fz (.dK (eF f))) rfl)) rfl (s_law_install d f _ h gf.small)) (neO_T (eqA_wr (n := 37) _)))
    rw [e_if c]
    rfl
  let w5 : Option W := some (.fz (.int (c : Int)))
  have k3 : asgS (callF 2 fs__law_take (aC (nm 0) (aC (op2 addO (opN lenO (aC (nm 4) aN)) (ck (.int 1))) aN))) (gNm 5) (st d t w4 none none) = some (.ok .nx, st d t' w4 w5 none) := by
    have ha : aC (nm 0) (aC (op2 addO (opN lenO (aC (nm 4) aN)) (ck (.int 1))) aN) (st d t w4 none none) = some (.ok [.ob n, .fz (.int ((ws.length + 1 : Nat) : Int))], st d t w4 none none) :=
      e_a2 (ev_nm rfl) (e_op2 (e_opN (e_a1 (ev_nm (w := .fz (eWs ws)) rfl)) (by unfold eWs; rw [lenO_lst, List.length_map])) ev_ck rfl)
    exact e_asg (x_call ha rfl ht)
  let d1 := aft d (ws.take c)
  have sm1 : Small d1 := hcut c
  have fw := h.few
  have a1 := s_after d ws c (M.set n (.dK (tpD t'))) (by omega) (by omega)
  have a2 := s_law_after d ws c (M.set n (.dK (tpD t'))) h.nd (by omega) (by omega)
  have k4 : parS 1 2 (aC (callF 3 fs_after (aC (nm 1) (aC (nm 4) (aC (nm 5) aN)))) (aC (callF 3 fs__law_after (aC (nm 2) (aC (nm 4) (aC (nm 5) aN)))) aN)) (st d t' w4 w5 none) = some (.ok .nx, st d1 t' w4 w5 none) := by
    have ka : aC (callF 3 fs_after (aC (nm 1) (aC (nm 4) (aC (nm 5) aN)))) (aC (callF 3 fs__law_after (aC (nm 2) (aC (nm 4) (aC (nm 5) aN)))) aN) (st d t' w4 w5 none) = some (.ok [.fz (.dK (eF d1)), .fz (.dK (eF d1))], st d t' w4 w5 none) :=
      e_a2 (e_call (e_a3 (ev_nm rfl) (ev_nm rfl) (ev_nm rfl)) rfl a1) (e_call (e_a3 (ev_nm rfl) (ev_nm rfl) (ev_nm rfl)) rfl a2)
    unfold parS
    exact (ev_bnd ka).trans rfl
  let w6 : Option W := some (.fz (eWs (recF d1)))
  have k5 : asgS (callF 1 fs_recovered (aC (frz (opO dictO (aC (nm 1) aN))) aN)) (gNm 6) (st d1 t' w4 w5 none) = some (.ok .nx, st d1 t' w4 w5 w6) := e_asg (e_call (e_a1 (e_dict (ev_nm rfl))) rfl (s_recovered d1 _ sm1))
  have k6 : ifS (orT (tst (op2 neO (nm 6) (callF 1 fs__law_recover (aC (nm 2) aN)))) (tst (op2 neO (nm 1) (nm 2)))) (retS (ck .non)) nxS (st d1 t' w4 w5 w6) = some (.ok .nx, st d1 t' w4 w5 w6) := by
    have c1 : tst (op2 neO (nm 6) (callF 1 fs__law_recover (aC (nm 2) aN))) (st d1 t' w4 w5 w6) = some (.ok false, st d1 t' w4 w5 w6) := e_tst (e_op2 (ev_nm (w := .fz (eWs (recF d1))) rfl) (e_call (e_a1 (ev_nm (w := .fz (.dK (eF d1))) rfl)) rfl (s_law_recover d1 _ sm1)) (neO_T (eqA_wr (n := 37) _)))
    have c2 : tst (op2 neO (nm 1) (nm 2)) (st d1 t' w4 w5 w6) = some (.ok false, st d1 t' w4 w5 w6) := e_tst (e_op2 (ev_nm (w := .fz (.dK (eF d1))) rfl) (ev_nm (w := .fz (.dK (eF d1))) rfl) (neO_T (eqT_dK sm1.nd)))
    rw [e_if (e_or c1 fun _ => c2)]
    rfl
  have lr : (recF d1).length ≤ 64 * 64 := by
    unfold recF
    have := len_NS sm1
    exact Nat.le_trans (flat_len (b := 64) _ fun a _ => recP_len sm1 a) (by omega)
  have fw1 := sm1.few
  have b1 := s_after d1 (recF d1) (recF d1).length (M.set n (.dK (tpD t'))) (by omega) (by omega)
  have b2 := s_law_after d1 (recF d1) (recF d1).length (M.set n (.dK (tpD t'))) sm1.nd (by omega) (by omega)
  rw [List.take_length] at b1 b2
  have el : ∀ s : S, nm 6 s = some (.ok (.fz (eWs (recF d1))), s) → opN lenO (aC (nm 6) aN) s = some (.ok (.fz (.int (((recF d1).length : Nat) : Int))), s) := fun s hs => e_opN (e_a1 hs) (by unfold eWs; rw [lenO_lst, List.length_map])
  have kb : fb__law_cut ⟨start0 7 [.ob n, .fz (.dK (eF d)), .fz (.dK (eF d)), .fz (.dK (eF f))], M.set n (.dK (tpD t))⟩ = some (.ok (.rt (.fz (.tup [.dK (eF (aft d1 (recF d1))), .dK (eF (aft d1 (recF d1)))]))), st d1 t' w4 w5 w6) := by
    unfold fb__law_cut
    show seqS _ _ (st d t none none none) = _
    rw [ev_seq k1, ev_seq k2, ev_seq k3, ev_seq k4, ev_seq k5, ev_seq k6]
    exact e_ret (e_opN (e_a2 (e_call (e_a3 (ev_nm rfl) (ev_nm rfl) (el _ (ev_nm rfl))) rfl b1) (e_call (e_a3 (ev_nm rfl) (ev_nm rfl) (el _ (ev_nm rfl))) rfl b2)) tup2)
  unfold fnD
  rw [kb]
  have tr : trunc (M.set n (.dK (tpD t))) (M.set n (.dK (tpD t'))) = some (M.set n (.dK (tpD t'))) := by
    have := trunc_set0 (M := M.set n (.dK (tpD t))) (n := n) (m := .dK (tpD t')) rfl
    rwa [List.set_set] at this
  show ((trunc (M.set n (.dK (tpD t))) (M.set n (.dK (tpD t')))).map fun M2 => (W.fz (.tup [.dK (eF (aft d1 (recF d1))), .dK (eF (aft d1 (recF d1)))]), M2)).map _ = _
  rw [tr]
  rfl
end PD

noncomputable section
namespace PD
open PySem L2 PyProof.Rows
/-! ### what whole generations hold -/
def Hol (P : FS → Prop) (A : AD) : Prop := ∀ n, hasD A n → P (filesA A n)
theorem hasD_ap (A : AD) (w : WrA) (n : Nat) : hasD (apA A w) n ↔ (if w.1 = .gen n "done" then w.2 ≠ none else hasD A n) := by
  unfold hasD
  rw [getA_ap]
  split <;> exact Iff.rfl
theorem Hol.step {P : FS → Prop} {B : Nat} {A : AD} (h : Hol P A) {w : WrA} (ok : Ok B A w) (hp : ∀ n s, w = (.gen n "done", some (.tx s)) → P (filesA A n)) : Hol P (apA A w) := fun n hn => by
  rw [hasD_ap] at hn
  cases ok with
  | cur _ =>
    rw [if_neg (by simp)] at hn
    rw [files_ap rfl]
    exact h n hn
  | @delD m _ =>
    by_cases e : m = n
    · subst e
      rw [if_pos rfl] at hn
      exact absurd rfl hn
    · rw [if_neg (by simp [e])] at hn
      rw [files_ap (isF_ne _ e)]
      exact h n hn
  | @delF m r hr h0 =>
    rw [if_neg (by simp [hr])] at hn
    have e : ¬ m = n := fun e => by subst e; exact hn h0
    rw [files_ap (isF_ne _ e)]
    exact h n hn
  | @putF m r s _ _ _ _ hr h0 =>
    rw [if_neg (by simp [hr])] at hn
    have e : ¬ m = n := fun e => by subst e; exact hn h0
    rw [files_ap (isF_ne _ e)]
    exact h n hn
  | @putD m s _ _ _ h0 =>
    by_cases e : m = n
    · subst e
      rw [files_ap (isF_done m m)]
      exact hp m s rfl
    · rw [if_neg (by simp [e])] at hn
      rw [files_ap (isF_ne _ e)]
      exact h n hn
theorem Hol.seq {P : FS → Prop} {B : Nat} : ∀ (ws : List WrA) {A : AD}, Hol P A → Oks B A ws → (∀ i n s, ws[i]? = some (.gen n "done", some (.tx s)) → P (filesA (aftA A (ws.take i)) n)) → ∀ c, Hol P (aftA A (ws.take c))
  | [], A, h, _, _, c => by
    rw [List.take_nil]
    exact h
  | w :: ws, A, h, _, _, 0 => h
  | w :: ws, A, h, ⟨h1, h2⟩, hp, c + 1 => by
    show Hol P (aftA (apA A w) (ws.take c))
    refine Hol.seq ws (h.step h1 fun n s e => ?_) h2 (fun i n s e => ?_) c
    · have := hp 0 n s (by rw [e]; rfl)
      exact this
    · have := hp (i + 1) n s e
      exact this
theorem inst_files {B : Nat} {A : AD} {f : FS} (hg : ∀ n ∈ gens A, n ≤ B) (fok : FOK f) (hs : ∀ q ∈ f, q.1.length ≤ 18 ∧ q.2.length ≤ 30) : filesA (aftA A (f.map (filW (nxtA A)))) (nxtA A) = f := by
  have hN := nxtA_le hg
  have h1 : 1 ≤ nxtA A := by unfold nxtA; omega
  have fresh : ∀ r v, (KA.gen (nxtA A) r, v) ∉ A := fun r v h => by
    have := nxtA_fresh A _ (mem_gens.mpr ⟨r, v, h⟩)
    omega
  have fk : ∀ r, KA.gen (nxtA A) r ∉ A.map (·.1) := fun r h => by
    obtain ⟨⟨k, v⟩, hq, e⟩ := List.mem_map.mp h
    have e : k = .gen (nxtA A) r := e
    subst e
    exact fresh r v hq
  have hd : getA A (.gen (nxtA A) "done") = none := getA_none.mpr (fk _)
  obtain ⟨_, o2⟩ := oks_put h1 hN f (A := A) (nodup_inc fok.inc) (fun q _ => fk _) hs hd
  have f0 : filesA A (nxtA A) = [] := by
    unfold filesA
    rw [List.filterMap_eq_nil_iff]
    rintro ⟨k, v⟩ hq
    refine filA_none ?_ v
    cases k with
    | cur => rfl
    | oth p => rfl
    | gen n r => exact isF_ne r fun e => fresh r v (by rw [← e]; exact hq)
  rw [o2, f0, List.nil_append]
theorem Iv.gens_le {B : Nat} {N : List (Str × Str)} {A : AD} (iv : Iv B N A) : ∀ n ∈ gens A, n ≤ B := fun n hn => by
  obtain ⟨r, v, hm⟩ := mem_gens.mp hn
  exact (iv.w.wk _ hm).2.1
/-- a disk of a machine -/
structure Mi (P : FS → Prop) (B : Nat) (A : AD) : Prop where
  iv : Iv B [] A
  fl : Hol P A
theorem GF.hs {f : FS} (gf : GF f) : ∀ q ∈ srt f, q.1.length ≤ 18 ∧ q.2.length ≤ 30 := fun q hq => gf.kl q ((mem_srt gf.nd).mp hq)
theorem cost_inst {A : AD} {f : FS} (gf : GF f) : ((instA A f).map cost).sum ≤ 6 := by
  rw [← instA_srt gf.nd, inst_eq gf.fok, List.map_append, List.sum_append, List.map_map]
  have : ∀ f : FS, ((f.map (cost ∘ filW (nxtA A)))).sum ≤ f.length := fun f => by
    induction f with
    | nil => simp
    | cons q f ih =>
      rw [List.map_cons, List.sum_cons, List.length_cons]
      have : (cost ∘ filW (nxtA A)) q = 1 := rfl
      omega
  have h1 := this (srt f)
  have h2 := gf.len
  rw [len_srt] at h1
  simp [cost]
  omega
theorem Mi.inst {P : FS → Prop} {B : Nat} {A : AD} (m : Mi P B A) (hl : A.length + 6 < 64) {f : FS} (gf : GF f) (hp : P (srt f)) (c : Nat) : Mi P (B + 1) (aftA A ((instA A f).take c)) ∧ (aftA A ((instA A f).take c)).length ≤ A.length + 6 := by
  have iv2 := m.iv.mono (Nat.le_succ B)
  have hc := cost_inst (A := A) gf
  rw [← instA_srt gf.nd] at hc ⊢
  have ok := oks_inst m.iv.gens_le gf.fok gf.hs
  obtain ⟨i1, i2⟩ := Iv.seq _ iv2 ok (by omega) c
  refine ⟨⟨i1, Hol.seq _ m.fl ok (fun i n s e => ?_) c⟩, by omega⟩
  rw [inst_eq gf.fok] at e ⊢
  let l := (srt f).map (filW (nxtA A))
  have hlt : i = l.length ∧ n = nxtA A := by
    by_cases h : i < l.length
    · rw [List.getElem?_append_left h] at e
      have hm := List.mem_of_getElem? e
      obtain ⟨q, _, e2⟩ := List.mem_map.mp hm
      exact absurd (KA.gen.inj (congrArg Prod.fst e2)).2 (f_ne_done q.1)
    · rw [List.getElem?_append_right (show ((srt f).map (filW (nxtA A))).length ≤ i from Nat.le_of_not_lt h)] at e
      have : i - l.length = 0 ∨ i - l.length = 1 ∨ 2 ≤ i - l.length := by omega
      rcases this with h0 | h0 | h0
      · have e : ([(KA.gen (nxtA A) "done", some (VA.tx (dig (img (srt f))))), (.cur, some (.nu (nxtA A)))] : List WrA)[i - l.length]? = _ := e
        rw [h0] at e
        have e := Option.some.inj e
        exact ⟨by omega, ((KA.gen.inj (congrArg Prod.fst e)).1).symm⟩
      · have e : ([(KA.gen (nxtA A) "done", some (VA.tx (dig (img (srt f))))), (.cur, some (.nu (nxtA A)))] : List WrA)[i - l.length]? = _ := e
        rw [h0] at e
        have e := Option.some.inj e
        cases congrArg Prod.fst e
      · have e : ([(KA.gen (nxtA A) "done", some (VA.tx (dig (img (srt f))))), (.cur, some (.nu (nxtA A)))] : List WrA)[i - l.length]? = _ := e
        rw [List.getElem?_eq_none (by simp; omega)] at e
        cases e
  obtain ⟨e1, e2⟩ := hlt
  subst e2
  have : (l ++ [(KA.gen (nxtA A) "done", some (VA.tx (dig (img (srt f))))), (.cur, some (.nu (nxtA A)))]).take i = l := by
    rw [e1]
    exact List.take_left' rfl
  show P (filesA (aftA A ((l ++ _).take i)) (nxtA A))
  rw [this, inst_files m.iv.gens_le gf.fok gf.hs]
  exact hp
theorem aftA_two (A : AD) (x y : WrA) : aftA A [x, y] = apA (apA A x) y := rfl
theorem aftA_one (A : AD) (x : WrA) : aftA A [x] = apA A x := rfl
/-- behind a whole install its files are what holds -/
theorem inst_cur {B : Nat} {A : AD} {f : FS} (hg : ∀ n ∈ gens A, n ≤ B) (gf : GF f) : getA (aftA A (instA A f)) .cur = some (.nu (nxtA A)) ∧ filesA (aftA A (instA A f)) (nxtA A) = srt f := by
  rw [← instA_srt gf.nd, inst_eq gf.fok, aftA_app]
  have hf := inst_files hg gf.fok gf.hs
  generalize aftA A ((srt f).map (filW (nxtA A))) = A1 at *
  rw [aftA_two]
  refine ⟨by rw [getA_ap, if_pos rfl], ?_⟩
  rw [files_ap rfl, files_ap (isF_done _ _)]
  exact hf
theorem Mi.recv {P : FS → Prop} {B : Nat} {A : AD} (m : Mi P B A) : Mi P B (aftA A (recA A)) ∧ (aftA A (recA A)).length ≤ A.length := by
  have ok : Oks B A (recA A) := oks_rec _ fun _ h => h
  have none' : ∀ x ∈ recA A, x.2 = none := fun x hx => by
    obtain ⟨n, _, hx⟩ := List.mem_flatMap.mp hx
    exact recAP_none x hx
  have hc : ((recA A).map cost).sum = 0 := cost_zero fun x hx => cost_none (none' x hx)
  have hl := m.iv.w.few
  obtain ⟨i1, i2⟩ := Iv.seq _ m.iv ok (by omega) (recA A).length
  have i3 := Hol.seq _ m.fl ok (fun i n s e => by
    have := none' _ (List.mem_of_getElem? e)
    cases this) (recA A).length
  rw [List.take_length] at i1 i2 i3
  exact ⟨⟨i1, i3⟩, by omega⟩
theorem Mi.back {P : FS → Prop} {B : Nat} {A : AD} (m : Mi P B A) {n : Nat} (hn : hasD A n) : Mi P B (aftA A (backA n)) ∧ getA (aftA A (backA n)) .cur = some (.nu n) ∧ filesA (aftA A (backA n)) n = filesA A n := by
  have ok : Oks B A (backA n) := ⟨.cur hn, trivial⟩
  have hl := m.iv.w.few
  have hc : ((backA n).map cost).sum = 0 := rfl
  obtain ⟨i1, i2⟩ := Iv.seq _ m.iv ok (by omega) (backA n).length
  have i3 := Hol.seq _ m.fl ok (fun i k s e => by
    have := List.mem_of_getElem? e
    simp [backA] at this) (backA n).length
  rw [List.take_length] at i1 i3
  have e : aftA A (backA n) = apA A (.cur, some (.nu n)) := rfl
  exact ⟨⟨i1, i3⟩, by rw [e, getA_ap, if_pos rfl], by rw [e]; exact files_ap rfl⟩
theorem Mi.cln {P : FS → Prop} {B : Nat} {A : AD} (m : Mi P B A) {h c : Nat} (hc : getA A .cur = some (.nu h)) : Iv B [] (aftA A (clnA A h c)) := by
  have ok : Oks B A (clnA A h c) := oks_cln (by unfold keptA; simp) _ hc
  have none' : ∀ x ∈ clnA A h c, x.2 = none := fun x hx => by
    obtain ⟨n, _, hx⟩ := List.mem_flatMap.mp hx
    exact clnAP_none x hx
  have hcs : ((clnA A h c).map cost).sum = 0 := cost_zero fun x hx => cost_none (none' x hx)
  have hl := m.iv.w.few
  obtain ⟨i1, i2⟩ := Iv.seq _ m.iv ok (by omega) (clnA A h c).length
  rw [List.take_length] at i1
  exact i1
/-! ### keys stay in bounds -/
theorem wk_inst {B : Nat} {A : AD} {f : FS} (hg : ∀ n ∈ gens A, n ≤ B) (gf : GF f) : ∀ x ∈ instA A f, WKA (B + 1) x.1 := by
  rw [← instA_srt gf.nd, inst_eq gf.fok]
  have hN := nxtA_le hg
  have h1 : 1 ≤ nxtA A := by unfold nxtA; omega
  intro x hx
  rcases List.mem_append.mp hx with hx | hx
  · obtain ⟨q, hq, rfl⟩ := List.mem_map.mp hx
    have := (gf.hs q hq).1
    have bf : Str.length "f/" = 2 := by decide
    exact ⟨h1, hN, by rw [app_len]; omega⟩
  · simp at hx
    rcases hx with rfl | rfl
    · exact ⟨h1, hN, by decide⟩
    · trivial
theorem wk_rec {B : Nat} {A : AD} (w : WA B A) : ∀ x ∈ recA A, WKA B x.1 := fun x hx => by
  obtain ⟨n, hn, hx⟩ := List.mem_flatMap.mp hx
  unfold recAP at hx
  split at hx
  · cases hx
  · obtain ⟨r, hr, rfl⟩ := List.mem_map.mp hx
    obtain ⟨v, hv⟩ := mem_rests.mp (mem_sortS.mp hr)
    exact w.wk _ hv
theorem wk_cln {B : Nat} {A : AD} (w : WA B A) {h c : Nat} : ∀ x ∈ clnA A h c, WKA B x.1 := fun x hx => by
  obtain ⟨n, hn, hx⟩ := List.mem_flatMap.mp hx
  unfold clnAP at hx
  split at hx
  · cases hx
  · rcases List.mem_cons.mp hx with rfl | hx
    · obtain ⟨r, v, hm⟩ := mem_gens.mp (mem_nsA.mp hn)
      have := w.wk _ hm
      exact ⟨this.1, this.2.1, by decide⟩
    · obtain ⟨r, hr, rfl⟩ := List.mem_map.mp hx
      obtain ⟨v, hv⟩ := mem_rests.mp (mem_sortS.mp (List.mem_filter.mp hr).1)
      exact w.wk _ hv
/-! ### a disk as it is -/
section
variable {P : FS → Prop} {B : Nat} (hB : B + 1 < 1000000000) {A : AD} (m : Mi P B A)
include hB m
theorem Mi.sm : Small (enc 0 A) := small_enc (B := B) (by omega) m.iv.w
theorem Mi.ne : nsA A ≠ [] := by
  obtain ⟨h, hc, hh⟩ := m.iv.cu
  exact List.ne_nil_of_mem (mem_nsA.mpr (done_gens hh))
/-- what holds -/
theorem Mi.cu : ∃ h, getA A .cur = some (.nu h) ∧ hasD A h ∧ Cur (enc 0 A) h (filesA A h) ∧ P (filesA A h) := by
  obtain ⟨h, hc, hh⟩ := m.iv.cu
  have hs := m.iv.dn h hh
  have e : foA A h = some (filesA A h) := by
    unfold foA at hs ⊢
    split at hs
    · split at hs
      · rename_i hd
        rw [if_pos hd]
      · cases hs
    · cases hs
  exact ⟨h, hc, hh, cur_enc (B := B) (o := 0) (by omega) m.iv.w hc e, m.fl h hh⟩
theorem Mi.nxt : nxt (enc 0 A) < 1000000000 := by
  rw [nxt_enc (B := B) (o := 0) (by omega) m.iv.w (m.ne hB)]
  have := nxtA_le m.iv.gens_le
  omega
theorem Mi.install (f : FS) (gf : GF f) (c : Nat) : aft (enc 0 A) ((install (enc 0 A) f).take c) = enc 0 (aftA A ((instA A f).take c)) := by
  rw [install_enc (B := B) (o := 0) (by omega) m.iv.w (m.ne hB), ← List.map_take]
  exact aft_enc (B := B + 1) (o := 0) (by omega) (N := []) _ (fun q hq => (m.iv.w.wk q hq).mono (Nat.le_succ B)) fun x hx => wk_inst m.iv.gens_le gf x ((List.take_sublist _ _).subset hx)
theorem Mi.recov : aft (enc 0 A) (recF (enc 0 A)) = enc 0 (aftA A (recA A)) := by
  rw [rec_enc (B := B) (o := 0) (by omega) m.iv.w]
  exact aft_enc (B := B) (o := 0) (by omega) (N := []) _ (fun q hq => m.iv.w.wk q hq) (wk_rec m.iv.w)
theorem Mi.cleaned {h : Nat} (c : Nat) : aft (enc 0 A) (clnF (enc 0 A) (h : Nat) c) = enc 0 (aftA A (clnA A h c)) := by
  have := cln_enc (B := B) (o := 0) (by omega) m.iv.w h c
  rw [Nat.add_zero] at this
  rw [this]
  exact aft_enc (B := B) (o := 0) (by omega) (N := []) _ (fun q hq => m.iv.w.wk q hq) (wk_cln m.iv.w)
theorem Mi.backed (n : Nat) : aft (enc 0 A) (backW n) = enc 0 (aftA A (backA n)) :=
  aft_enc (B := B) (o := 0) (by omega) (N := []) (backA n) (fun q hq => m.iv.w.wk q hq) (fun x hx => by simp [backA] at hx; subst hx; trivial)
end
end PD

noncomputable section
namespace PD
open PySem L2 PyProof.Rows
theorem atO_ls {M : List MO} {n k : Nat} {ds : List D} {d : D} (h : M[n]? = some (.lst ds)) (hk : ds[k]? = some d) : atO M (.ob n) (.fz (.int (k : Int))) = some (.fz d) := by
  have a1 : asD M (.ob n) = none := by unfold asD; simp only [h]
  have a2 : asS M (.ob n) = some ds := by unfold asS; simp only [h]
  unfold atO
  simp only [a1, keyW, keyD]
  unfold seqAt
  simp only [a2, L2.atI_nat hk, Option.map_some]
theorem take0 {s : S} {i : Nat} {t : Tp} {R : List MO} (m : Nat) (mi : Int) (h0 : nm i s = some (.ok (.ob 0), s)) (hm : s.m = .dK (tpD t) :: R) (hb : 0 < m ∧ m < 1000) (e : mi = (m : Int)) : ∃ (r : Nat) (t' : Tp), r < m ∧ callF 2 fs__law_take (aC (nm i) (aC (ck (.int mi)) aN)) s = some (.ok (.fz (.int (r : Int))), ⟨s.r, .dK (tpD t') :: R⟩) :=
  e_take (M := .dK (tpD t) :: R) m mi h0 hm (by simp) hb e
theorem some0 {s : S} {i : Nat} {t : Tp} {R : List MO} (h0 : nm i s = some (.ok (.ob 0), s)) (hm : s.m = .dK (tpD t) :: R) : ∃ (t' : Tp) (f : FS), FD 4 f ∧ callF 2 fs__law_some_files (aC (nm i) (aC (ck (.int 4)) aN)) s = some (.ok (.fz (.dK (eF f))), ⟨s.r, .dK (tpD t') :: R⟩) := by
  obtain ⟨t', f, hf, h⟩ := s_law_some_files 0 t (.dK (tpD t) :: R) (by simp)
  refine ⟨t', f, hf, x_call (e_a2 h0 ev_ck) rfl ?_⟩
  rw [hm]
  exact h
theorem x_iffE {c : Mo Bool} {f g : Mo W} {s s1 : S} {a : Bool} (hf : c s = some (.ok a, s1)) : iffE c f g s = if a then f s1 else g s1 := by
  unfold iffE
  rw [ev_bnd hf]
  cases a <;> rfl
/-- a loop that may be left -/
theorem forL_indB {g : W → Mo Unit} {b : Mo Fl} (I : Nat → S → Prop) (J : S → Prop) : ∀ (ws : List W) (n : Nat) (s : S), (∀ i w s, ws[i]? = some w → I (n + i) s → ∃ s', (bnd (g w) (fun _ => b) s = some (.ok .nx, s') ∧ I (n + i + 1) s') ∨ (bnd (g w) (fun _ => b) s = some (.ok .bk, s') ∧ J s')) → I n s →
    ∃ s', forL g b (fun _ => true) ws s = some (.ok .nx, s') ∧ (J s' ∨ I (n + ws.length) s')
  | [], n, s, _, h => ⟨s, rfl, .inr h⟩
  | w :: ws, n, s, hs, h => by
    obtain ⟨s1, hh⟩ := hs 0 w s rfl h
    have hg : ∀ f, bnd (g w) (fun _ => b) s = some (.ok f, s1) → ∃ sg, g w s = some (.ok (), sg) ∧ b sg = some (.ok f, s1) := fun f h1 => by
      cases hg : g w s with
      | none => rw [bnd_no hg] at h1; cases h1
      | some q =>
        obtain ⟨r, sg⟩ := q
        cases r with
        | error e => rw [bnd_er hg] at h1; cases h1
        | ok u =>
          rw [bnd_ok hg] at h1
          exact ⟨sg, rfl, h1⟩
    rcases hh with ⟨h1, h2⟩ | ⟨h1, h2⟩
    · obtain ⟨s2, h3, h4⟩ := forL_indB I J ws (n + 1) s1 (fun i w s hw hi => by
        have := hs (i + 1) w s (by simpa using hw) (by rw [show n + (i + 1) = n + 1 + i by omega]; exact hi)
        rw [show n + (i + 1) + 1 = n + 1 + i + 1 by omega] at this
        exact this) h2
      refine ⟨s2, ?_, by rw [show n + (w :: ws).length = n + 1 + ws.length by simp; omega]; exact h4⟩
      rw [forL_cons h1]
      exact h3
    · obtain ⟨sg, g1, g2⟩ := hg _ h1
      refine ⟨s1, ?_, .inl h2⟩
      unfold forL
      simp only [if_true]
      rw [bnd_ok g1]
      simp only [g2]
theorem ev_seqB {f g : Mo Fl} {s s1 : S} (h : f s = some (.ok .bk, s1)) : seqS f g s = some (.ok .bk, s1) := by unfold seqS; rw [h]
/-! ### texts in lists -/
theorem inV_str (x : Str) (l : List Str) : inV (.str x) ((l.map D.str).map toV) = decide (x ∈ l) := by
  unfold inV
  induction l with
  | nil => rfl
  | cons a l ih =>
    rw [List.map_cons, List.map_cons, List.any_cons, ih]
    show ((a == x) || _) = _
    by_cases e : a = x
    · subst e; simp
    · have e2 : ¬ x = a := fun z => e z.symm
      rw [beq_eq_false_iff_ne.mpr e, Bool.false_or]
      exact decide_eq_decide.mpr (by simp [e2])
theorem ninO_strs {M : List MO} {x : Str} {l : List Str} : ninO M (.fz (.str x)) (.fz (.lst (l.map .str))) = some (.fz (.bl (!decide (x ∈ l)))) := by
  have hf : (l.map D.str).all flatD = true := by
    rw [List.all_map]
    exact List.all_eq_true.mpr fun _ _ => rfl
  have : inD M (.fz (.str x)) (.fz (.lst (l.map .str))) = some (inV (.str x) ((l.map D.str).map toV)) := by
    show (if (flatD (.str x) && (l.map D.str).all flatD) = true then some (inV (toV (.str x)) ((l.map D.str).map toV)) else none) = _
    rw [hf]
    rfl
  unfold ninO
  rw [this, inV_str]
  rfl
theorem idx_strs {M : List MO} {x : Str} {l : List Str} {j : Nat} (h : l[j]? = some x) (h2 : ∀ i, i < j → l[i]? ≠ some x) : idxO M (.fz (.lst (l.map .str))) [.fz (.str x)] = some (.fz (.int (j : Int)), M) := by
  have hf : (l.map D.str).all flatD = true := by
    rw [List.all_map]
    exact List.all_eq_true.mpr fun _ _ => rfl
  have hi : (((l.map D.str).map toV).findIdx? fun z => eqV z (toV (.str x))) = some j := by
    rw [List.findIdx?_eq_some_iff_getElem]
    have hj : j < l.length := (List.getElem?_eq_some_iff.mp h).1
    refine ⟨by simpa using hj, ?_, fun i hi => ?_⟩
    · rw [List.getElem_map, List.getElem_map]
      have := (List.getElem?_eq_some_iff.mp h).2
      rw [this]
      show (x == x) = true
      simp
    · rw [List.getElem_map, List.getElem_map]
      have hil : i < l.length := by omega
      have := h2 i hi
      rw [List.getElem?_eq_getElem hil] at this
      show ¬ (l[i] == x) = true
      intro z
      exact this (congrArg some (eq_of_beq z))
  show (if flatD (.str x) = true ∧ (l.map D.str).all flatD = true then (((l.map D.str).map toV).findIdx? fun z => eqV z (toV (.str x))).map fun (j : Nat) => ((W.fz (.int (j : Int))), M) else none) = _
  rw [if_pos ⟨rfl, hf⟩, hi]
  rfl
theorem img_ge8 (f : FS) : 8 ≤ (img f).length := by
  have e : (img f).length = _ := imgGo_len f (sortS (kF f)) (headI f)
  have h1 : 8 ≤ (headI f).length := by
    unfold headI
    simp only [app_len]
    have b1 : (Str.ofString "image ").length = 6 := by decide
    have b2 : (Str.ofString "\n").length = 1 := by decide
    have b3 : 0 < (strI f.length).length := by
      rw [len_tl, tl_strI]
      exact List.length_pos_iff.mpr (TL.numL_ne _)
    omega
  omega
/-! ### the world of a machine -/
structure Wd (Fs : Nat → FS) (Ps : Nat → PT) : Prop where
  gf : ∀ j, j < 5 → GF (Fs j)
  ne : ∀ i j, i < 5 → j < 5 → img (Fs i) = img (Fs j) → i = j
  pa : ∀ k, k < 4 → (Ps k).a = img (Fs k)
  pb : ∀ k, k < 4 → (Ps k).b = img (Fs (k + 1))
  ok : ∀ k, k < 4 → (Ps k).Ok
section
variable {Fs : Nat → FS} {Ps : Nat → PT} (wd : Wd Fs Ps)
def IM (Fs : Nat → FS) : List Str := (List.range 5).map fun j => img (Fs j)
def PR (Ps : Nat → PT) : List PT := (List.range 4).map Ps
def FL (Fs : Nat → FS) : List D := (List.range 5).map fun j => .dK (eF (Fs j))
def PF (Fs : Nat → FS) (f : FS) : Prop := ∃ j, j < 5 ∧ f = srt (Fs j)
theorem IM_at {j : Nat} (hj : j < 5) : (IM Fs)[j]? = some (img (Fs j)) := by
  unfold IM
  rw [List.getElem?_map, List.getElem?_range hj]
  rfl
theorem FL_at {j : Nat} (hj : j < 5) : (FL Fs)[j]? = some (.dK (eF (Fs j))) := by
  unfold FL
  rw [List.getElem?_map, List.getElem?_range hj]
  rfl
theorem range_cut : ∀ k : Fin 5, ∀ n : Fin 5, k.val + n.val ≤ 4 → ((List.range 4).drop k.val).take n.val = List.range' k.val n.val := by decide
theorem PR_cut {k n : Nat} (h : k + n ≤ 4) : ((PR Ps).drop k).take n = (List.range' k n).map Ps := by
  unfold PR
  rw [← List.map_drop, ← List.map_take, range_cut ⟨k, by omega⟩ ⟨n, by omega⟩ h]
include wd
theorem Wd.im_len {j : Nat} (hj : j < 5) : (img (Fs j)).length ≤ 20000 := img_small (wd.gf j hj).small
theorem Wd.chain : ∀ (n k : Nat), k + n ≤ 4 → Chain (img (Fs k)) ((List.range' k n).map Ps) ∧ lastB (img (Fs k)) ((List.range' k n).map Ps) = img (Fs (k + n))
  | 0, k, _ => ⟨trivial, rfl⟩
  | n + 1, k, h => by
    rw [List.range'_succ, List.map_cons]
    obtain ⟨h1, h2⟩ := Wd.chain n (k + 1) (by omega)
    rw [← wd.pb k (by omega)] at h1 h2
    refine ⟨⟨wd.pa k (by omega), wd.ok k (by omega), h1⟩, ?_⟩
    show lastB (Ps k).b _ = _
    rw [h2, show k + 1 + n = k + (n + 1) by omega]
/-- the first place of an image -/
theorem Wd.idx {M : List MO} {j : Nat} (hj : j < 5) : idxO M (.fz (.lst ((IM Fs).map .str))) [.fz (.str (img (Fs j)))] = some (.fz (.int (j : Int)), M) :=
  idx_strs (IM_at hj) fun i hi e => by
    rw [IM_at (by omega)] at e
    have := wd.ne i j (by omega) hj (Option.some.inj e)
    omega
end
/-! ### a turn -/
def rM (o4 : Option W) (d : FS) (Fs : Nat → FS) (Ps : Nat → PT) (o7 o8 o9 o10 o11 o12 o13 o14 : Option W) : List (Option W) := [some (.ob 0), some (.ob 1), some (.fz (.lst ((IM Fs).map .str))), some (.fz (rowD (PR Ps))), o4, some (.fz (.dK (eF d))), some (.fz (.dK (eF d))), o7, o8, o9, o10, o11, o12, o13, o14]
end PD

noncomputable section
namespace PD
open PySem L2 PyProof.Rows
def bdMc : Mo Fl := (seqS (asgS (op2 atO (callF 1 fs_current (aC (frz (opO dictO (aC (nm 5) aN))) aN)) (ck (.int 1))) (gNm 8))
  (seqS (ifS (orT (tst (op2 neO (nm 8) (op2 atO (callF 1 fs__law_current (aC (nm 6) aN)) (ck (.int 1))))) (tst (op2 ninO (nm 8) (nm 2)))) (retS (ck (.bl false))) nxS)
  (seqS (parS 4 9 (aC (bm isLs idxO (nm 2) (aC (nm 8) aN)) (aC (op2 addO (ck (.int 1)) (callF 2 fs__law_take (aC (nm 0) (aC (ck (.int 4)) aN)))) aN)))
  (seqS (ifS (tst (op2 eqO (nm 4) (ck (.int 4)))) bkS nxS)
  (seqS (asgS (opN maxO (aC (nm 9) (aC (op2 addO (nm 4) (ck (.int 1))) aN))) (gNm 9))
  (seqS (asgS (callF 2 fs__law_patched (aC (nm 8) (aC (slO (nm 3) (poS (nm 4)) (poS (nm 9))) aN))) (gNm 10))
  (seqS (ifS (orT (tst (op2 neO (nm 10) (op2 atO (nm 2) (nm 9)))) (tst (op2 neO (callX 2 fs_patched (aC (nm 8) (aC (callF 2 fs_patch (aC (nm 8) (aC (op2 atO (nm 2) (nm 9)) aN))) aN))) (nm 10)))) (retS (ck (.bl false))) nxS)
  (seqS (asgS (iffE (tst (op2 eqO (callF 2 fs__law_take (aC (nm 0) (aC (ck (.int 2)) aN))) (ck (.int 0)))) (callF 4 fs__law_cut (aC (nm 0) (aC (nm 5) (aC (nm 6) (aC (op2 atO (nm 1) (nm 9)) aN))))) (ck .non)) (gNm 11))
  (ifS (tst (op2 isNotO (nm 11) (ck .non))) (asgS (nm 11) (gTp 2 (gCn (gNm 5) (gCn (gNm 6) gNl)))) (parS 5 6 (aC (callF 3 fs_after (aC (nm 5) (aC (callF 2 fs_install_writes (aC (frz (opO dictO (aC (nm 5) aN))) (aC (nm 10) aN))) (aC (ck (.int 999)) aN)))) (aC (callF 3 fs__law_after (aC (nm 6) (aC (callF 2 fs__law_install (aC (nm 6) (aC (op2 atO (nm 1) (nm 9)) aN))) (aC (ck (.int 999)) aN)))) aN))))))))))))
section
variable {Fs : Nat → FS} {Ps : Nat → PT} {R : List MO}
def sMc (d : FS) (Fs : Nat → FS) (Ps : Nat → PT) (R : List MO) (t : Tp) (o4 o7 o8 o9 o10 o11 o12 o13 o14 : Option W) : S := ⟨rM o4 d Fs Ps o7 o8 o9 o10 o11 o12 o13 o14, .dK (tpD t) :: R⟩
theorem mi_img {B : Nat} (hB : B + 1 < 1000000000) {A : AD} (m : Mi (PF Fs) B A) (wd : Wd Fs Ps) : ∃ h j, getA A .cur = some (.nu h) ∧ hasD A h ∧ j < 5 ∧ filesA A h = srt (Fs j) ∧ Cur (enc 0 A) h (filesA A h) ∧ img (filesA A h) = img (Fs j) := by
  obtain ⟨h, hc, hh, cu, j, hj, e⟩ := m.cu hB
  exact ⟨h, j, hc, hh, hj, e, cu, by rw [e, img_srt (wd.gf j hj).nd]⟩
/-- what is current, as a text -/
theorem e_here {s : S} {i : Nat} {d : FS} {h : Nat} {f : FS} {x : Str} (sm : Small d) (cu : Cur d h f) (ex : img f = x) (hi : nm i s = some (.ok (.fz (.dK (eF d))), s)) : op2 atO (callF 1 fs_current (aC (frz (opO dictO (aC (nm i) aN))) aN)) (ck (.int 1)) s = some (.ok (.fz (.str x)), s) := by
  subst ex
  refine e_op2 (e_call (e_a1 (e_dict hi)) rfl (s_current d _ sm cu)) ev_ck ?_
  show (L2.atI [D.int (h : Int), .str (img f)] ((1 : Nat) : Int)).map W.fz = _
  rw [L2.atI_nat (v := D.str (img f)) rfl]
  rfl
theorem e_here2 {s : S} {i : Nat} {d : FS} {h : Nat} {f : FS} {x : Str} (sm : Small d) (cu : Cur d h f) (ex : img f = x) (hi : nm i s = some (.ok (.fz (.dK (eF d))), s)) : op2 atO (callF 1 fs__law_current (aC (nm i) aN)) (ck (.int 1)) s = some (.ok (.fz (.str x)), s) := by
  subst ex
  refine e_op2 (e_call (e_a1 hi) rfl (s_law_current d _ sm cu)) ev_ck ?_
  show (L2.atI [D.int (h : Int), .str (img f)] ((1 : Nat) : Int)).map W.fz = _
  rw [L2.atI_nat (v := D.str (img f)) rfl]
  rfl
theorem e_imAt {s : S} {i k : Nat} (hj : k < 5) (h2 : nm 2 s = some (.ok (.fz (.lst ((IM Fs).map .str))), s)) (hi : nm i s = some (.ok (.fz (.int (k : Int))), s)) : op2 atO (nm 2) (nm i) s = some (.ok (.fz (.str (img (Fs k)))), s) := by
  refine e_op2 h2 hi ?_
  show (L2.atI ((IM Fs).map D.str) (k : Int)).map W.fz = _
  rw [L2.atI_nat (v := D.str (img (Fs k))) (by rw [List.getElem?_map, IM_at hj]; rfl)]
  rfl
theorem e_flAt {s : S} {i k : Nat} (hj : k < 5) (hM : s.m[1]? = some (.lst (FL Fs))) (h1 : nm 1 s = some (.ok (.ob 1), s)) (hi : nm i s = some (.ok (.fz (.int (k : Int))), s)) : op2 atO (nm 1) (nm i) s = some (.ok (.fz (.dK (eF (Fs k)))), s) :=
  e_op2 h1 hi (atO_ls hM (FL_at hj))
/-- a whole install on both disks -/
theorem e_whole {s : S} {d f : FS} {gl : Mo W} (sm : Small d) (gf : GF f) (hx : nxt d < 1000000000) (h5 : nm 5 s = some (.ok (.fz (.dK (eF d))), s)) (h6 : nm 6 s = some (.ok (.fz (.dK (eF d))), s)) (h10 : nm 10 s = some (.ok (.fz (.str (img f))), s)) (hg : gl s = some (.ok (.fz (.dK (eF f))), s)) :
    parS 5 6 (aC (callF 3 fs_after (aC (nm 5) (aC (callF 2 fs_install_writes (aC (frz (opO dictO (aC (nm 5) aN))) (aC (nm 10) aN))) (aC (ck (.int 999)) aN)))) (aC (callF 3 fs__law_after (aC (nm 6) (aC (callF 2 fs__law_install (aC (nm 6) (aC gl aN))) (aC (ck (.int 999)) aN)))) aN)) s =
      some (.ok .nx, setR (setR s 5 (.fz (.dK (eF (aft d (install d f)))))) 6 (.fz (.dK (eF (aft d (install d f)))))) := by
  have lw : (install d f).length ≤ 7 := by
    have := gf.len
    rw [install_len]
    omega
  have fw := sm.few
  have a1 := s_after d (install d f) 999 s.m (by omega) (by omega)
  have a2 := s_law_after d (install d f) 999 s.m sm.nd (by omega) (by omega)
  rw [List.take_of_length_le (by omega)] at a1 a2
  have ka : aC (callF 3 fs_after (aC (nm 5) (aC (callF 2 fs_install_writes (aC (frz (opO dictO (aC (nm 5) aN))) (aC (nm 10) aN))) (aC (ck (.int 999)) aN)))) (aC (callF 3 fs__law_after (aC (nm 6) (aC (callF 2 fs__law_install (aC (nm 6) (aC gl aN))) (aC (ck (.int 999)) aN)))) aN) s = some (.ok [.fz (.dK (eF (aft d (install d f)))), .fz (.dK (eF (aft d (install d f))))], s) :=
    e_a2 (e_call (e_a3 h5 (e_call (e_a2 (e_dict h5) h10) rfl (s_install_any d f _ sm gf hx)) ev_ck) rfl a1) (e_call (e_a3 h6 (e_call (e_a2 h6 hg) rfl (s_law_install d f _ sm gf.small)) ev_ck) rfl a2)
  unfold parS
  rw [ev_bnd ka]
theorem e_pair {s : S} {x y : Str} {i : Nat} {e : Mo W} (h8 : 8 ≤ x.length) (hx : x.length ≤ 20000) (hy : y.length ≤ 20000) (hi : nm i s = some (.ok (.fz (.str x)), s)) (he : e s = some (.ok (.fz (.str y)), s)) : callX 2 fs_patched (aC (nm i) (aC (callF 2 fs_patch (aC (nm i) (aC e aN))) aN)) s = some (.ok (.fz (.str y)), s) := by
  obtain ⟨ps, pok, hp⟩ := s_patch x y s.m h8 hx hy
  have hk : fs_patched [.fz (.str x), .fz (PT.d ⟨x, y, ps⟩)] s.m = some (.ok (.fz (.str y)), s.m) := s_patched_ok (p := ⟨x, y, ps⟩) pok
  exact callX_ok (e_a2 hi (e_call (e_a2 hi he) rfl hp)) rfl hk
theorem mach_step (wd : Wd Fs Ps) (hR : R[0]? = some (.lst (FL Fs))) {B : Nat} (hB : B + 2 < 1000000000) {A : AD} (m : Mi (PF Fs) B A) (hl : A.length + 6 < 64) (t : Tp) (o4 o7 o8 o9 o10 o11 o12 o13 o14 : Option W) (w : W) :
    (∃ t' p4 p8 p9, bnd (gNm 7 w) (fun _ => bdMc) (sMc (enc 0 A) Fs Ps R t o4 o7 o8 o9 o10 o11 o12 o13 o14) = some (.ok .bk, sMc (enc 0 A) Fs Ps R t' p4 (some w) p8 p9 o10 o11 o12 o13 o14)) ∨
    ∃ A' t' p4 p8 p9 p10 p11, Mi (PF Fs) (B + 1) A' ∧ A'.length ≤ A.length + 6 ∧ bnd (gNm 7 w) (fun _ => bdMc) (sMc (enc 0 A) Fs Ps R t o4 o7 o8 o9 o10 o11 o12 o13 o14) = some (.ok .nx, sMc (enc 0 A') Fs Ps R t' p4 (some w) p8 p9 p10 p11 o12 o13 o14) := by
  obtain ⟨h, j, hc, hh, hj, ef, cu, ei⟩ := mi_img (by omega) m wd
  have sm := m.sm (by omega)
  let d := enc 0 A
  let hw : Option W := some (.fz (.str (img (Fs j))))
  let s0 := sMc d Fs Ps R t o4 (some w) o8 o9 o10 o11 o12 o13 o14
  have g0 : gNm 7 w (sMc (enc 0 A) Fs Ps R t o4 o7 o8 o9 o10 o11 o12 o13 o14) = some (.ok (), s0) := rfl
  have k1 : asgS (op2 atO (callF 1 fs_current (aC (frz (opO dictO (aC (nm 5) aN))) aN)) (ck (.int 1))) (gNm 8) s0 = some (.ok .nx, sMc d Fs Ps R t o4 (some w) hw o9 o10 o11 o12 o13 o14) := e_asg (e_here sm cu ei (ev_nm rfl))
  let s1 := sMc d Fs Ps R t o4 (some w) hw o9 o10 o11 o12 o13 o14
  have k2 : ifS (orT (tst (op2 neO (nm 8) (op2 atO (callF 1 fs__law_current (aC (nm 6) aN)) (ck (.int 1))))) (tst (op2 ninO (nm 8) (nm 2)))) (retS (ck (.bl false))) nxS s1 = some (.ok .nx, s1) := by
    have c1 : tst (op2 neO (nm 8) (op2 atO (callF 1 fs__law_current (aC (nm 6) aN)) (ck (.int 1)))) s1 = some (.ok false, s1) := e_tst (e_op2 (ev_nm (w := .fz (.str (img (Fs j)))) rfl) (e_here2 sm cu ei (ev_nm rfl)) (by rw [neO_ss]; simp))
    have c2 : tst (op2 ninO (nm 8) (nm 2)) s1 = some (.ok false, s1) := e_tst (e_op2 (ev_nm (w := .fz (.str (img (Fs j)))) rfl) (ev_nm (w := .fz (.lst ((IM Fs).map .str))) rfl) (by rw [ninO_strs, decide_eq_true (List.mem_of_getElem? (IM_at hj))]; rfl))
    rw [e_if (e_or c1 fun _ => c2)]
    rfl
  have kix : bm isLs idxO (nm 2) (aC (nm 8) aN) s1 = some (.ok (.fz (.int (j : Int))), s1) := e_bm (ev_nm (w := .fz (.lst ((IM Fs).map .str))) rfl) rfl (e_a1 (ev_nm (w := .fz (.str (img (Fs j)))) rfl)) (wd.idx hj)
  obtain ⟨r, t1, hr, ht1⟩ := take0 (s := s1) (i := 0) (t := t) (R := R) 4 4 (ev_nm rfl) rfl (by decide) rfl
  let jw : Option W := some (.fz (.int (j : Int)))
  let s2 := fun (o9 : Option W) => sMc d Fs Ps R t1 jw (some w) hw o9 o10 o11 o12 o13 o14
  let l9 : Option W := some (.fz (.int ((1 + r : Nat) : Int)))
  have k3 : parS 4 9 (aC (bm isLs idxO (nm 2) (aC (nm 8) aN)) (aC (op2 addO (ck (.int 1)) (callF 2 fs__law_take (aC (nm 0) (aC (ck (.int 4)) aN)))) aN)) s1 = some (.ok .nx, s2 l9) := by
    have ka : aC (bm isLs idxO (nm 2) (aC (nm 8) aN)) (aC (op2 addO (ck (.int 1)) (callF 2 fs__law_take (aC (nm 0) (aC (ck (.int 4)) aN)))) aN) s1 = some (.ok [.fz (.int (j : Int)), .fz (.int ((1 + r : Nat) : Int))], ⟨s1.r, .dK (tpD t1) :: R⟩) := x_a2 kix (x_op2 ev_ck ht1 (by rw [addO_ii]; rfl))
    unfold parS
    exact (ev_bnd ka).trans rfl
  have c4 : tst (op2 eqO (nm 4) (ck (.int 4))) (s2 l9) = some (.ok ((j : Int) == 4), s2 l9) := e_tst (e_op2 (ev_nm (w := .fz (.int (j : Int))) rfl) ev_ck eqO_ii)
  by_cases hj4 : j = 4
  · refine .inl ⟨t1, jw, hw, l9, ?_⟩
    refine (ev_bnd g0).trans ?_
    unfold bdMc
    rw [ev_seq k1, ev_seq k2, ev_seq k3]
    refine ev_seqB ?_
    rw [e_if c4, show ((j : Int) == 4) = true by rw [hj4]; rfl]
    rfl
  · have k4 : ifS (tst (op2 eqO (nm 4) (ck (.int 4)))) bkS nxS (s2 l9) = some (.ok .nx, s2 l9) := by
      rw [e_if c4, show ((j : Int) == 4) = false from beq_eq_false_iff_ne.mpr (by omega)]
      rfl
    let l := max (1 + r) (j + 1)
    have hl1 : j + 1 ≤ l := Nat.le_max_right _ _
    have hl2 : l ≤ 4 := Nat.max_le.mpr ⟨by omega, by omega⟩
    let lw : Option W := some (.fz (.int (l : Int)))
    have k5 : asgS (opN maxO (aC (nm 9) (aC (op2 addO (nm 4) (ck (.int 1))) aN))) (gNm 9) (s2 l9) = some (.ok .nx, s2 lw) := by
      refine e_asg (x := .fz (.int (l : Int))) (e_opN (e_a2 (ev_nm (w := .fz (.int ((1 + r : Nat) : Int))) rfl) (e_op2 (z := .fz (.int ((j + 1 : Nat) : Int))) (ev_nm (w := .fz (.int (j : Int))) rfl) ev_ck rfl)) ?_)
      show some (W.fz (.int (if ((j + 1 : Nat) : Int) > ((1 + r : Nat) : Int) then ((j + 1 : Nat) : Int) else ((1 + r : Nat) : Int)))) = some (W.fz (.int (l : Int)))
      congr 3
      by_cases hg : 1 + r < j + 1
      · rw [if_pos (by omega)]
        have : l = j + 1 := Nat.max_eq_right (by omega)
        rw [this]
      · rw [if_neg (by omega)]
        have : l = 1 + r := Nat.max_eq_left (by omega)
        rw [this]
    obtain ⟨n, hn⟩ : ∃ n, l = j + n := ⟨l - j, by omega⟩
    obtain ⟨ch1, ch2⟩ := wd.chain n j (by omega)
    rw [← PR_cut (by omega)] at ch1 ch2
    rw [← hn] at ch2
    let gw : Option W := some (.fz (.str (img (Fs l))))
    let s3 := fun (o10 o11 : Option W) (t : Tp) => sMc d Fs Ps R t jw (some w) hw lw o10 o11 o12 o13 o14
    have ksl : slO (nm 3) (poS (nm 4)) (poS (nm 9)) (s2 lw) = some (.ok (.fz (rowD (((PR Ps).drop j).take n))), s2 lw) := by
      refine e_slAB (ev_nm (w := .fz (rowD (PR Ps))) rfl) (ev_nm (w := .fz (.int (j : Int))) rfl) (ev_nm (w := .fz (.int (l : Int))) rfl) ?_
      show some (W.fz (.lst (cutD ((PR Ps).map PT.d) (some (j : Int)) (some (l : Int))))) = _
      rw [cutD_ab _ _ _ (by simp [PR]; omega), show l - j = n by omega, ← List.map_drop, ← List.map_take]
      rfl
    have k6 : asgS (callF 2 fs__law_patched (aC (nm 8) (aC (slO (nm 3) (poS (nm 4)) (poS (nm 9))) aN))) (gNm 10) (s2 lw) = some (.ok .nx, s3 gw o11 t1) := e_asg (e_call (e_a2 (ev_nm (w := .fz (.str (img (Fs j)))) rfl) ksl) rfl (by rw [s_law_patched_ok ch1, ch2]))
    have k7 : ifS (orT (tst (op2 neO (nm 10) (op2 atO (nm 2) (nm 9)))) (tst (op2 neO (callX 2 fs_patched (aC (nm 8) (aC (callF 2 fs_patch (aC (nm 8) (aC (op2 atO (nm 2) (nm 9)) aN))) aN))) (nm 10)))) (retS (ck (.bl false))) nxS (s3 gw o11 t1) = some (.ok .nx, s3 gw o11 t1) := by
      have hm : op2 atO (nm 2) (nm 9) (s3 gw o11 t1) = some (.ok (.fz (.str (img (Fs l)))), s3 gw o11 t1) := e_imAt (by omega) (ev_nm rfl) (ev_nm rfl)
      have c1 : tst (op2 neO (nm 10) (op2 atO (nm 2) (nm 9))) (s3 gw o11 t1) = some (.ok false, s3 gw o11 t1) := e_tst (e_op2 (ev_nm (w := .fz (.str (img (Fs l)))) rfl) hm (by rw [neO_ss]; simp))
      have hpp := e_pair (s := s3 gw o11 t1) (i := 8) (e := op2 atO (nm 2) (nm 9)) (img_ge8 _) (wd.im_len hj) (wd.im_len (j := l) (by omega)) (ev_nm rfl) hm
      have c2 : tst (op2 neO (callX 2 fs_patched (aC (nm 8) (aC (callF 2 fs_patch (aC (nm 8) (aC (op2 atO (nm 2) (nm 9)) aN))) aN))) (nm 10)) (s3 gw o11 t1) = some (.ok false, s3 gw o11 t1) :=
        e_tst (e_op2 hpp (ev_nm (w := .fz (.str (img (Fs l)))) rfl) (by rw [neO_ss, beq_self_eq_true]; rfl))
      rw [e_if (e_or c1 fun _ => c2)]
      rfl
    have gfl := wd.gf l (by omega)
    have hpl : PF Fs (srt (Fs l)) := ⟨l, by omega, rfl⟩
    have hnx := m.nxt (by omega)
    obtain ⟨q, t2, hq, ht2⟩ := take0 (s := s3 gw o11 t1) (i := 0) (t := t1) (R := R) 2 2 (ev_nm rfl) rfl (by decide) rfl
    have c8 : tst (op2 eqO (callF 2 fs__law_take (aC (nm 0) (aC (ck (.int 2)) aN))) (ck (.int 0))) (s3 gw o11 t1) = some (.ok ((q : Int) == 0), s3 gw o11 t2) := x_tst (x_op2 ht2 ev_ck eqO_ii)
    have pre : ∀ f s', (seqS (asgS (iffE (tst (op2 eqO (callF 2 fs__law_take (aC (nm 0) (aC (ck (.int 2)) aN))) (ck (.int 0)))) (callF 4 fs__law_cut (aC (nm 0) (aC (nm 5) (aC (nm 6) (aC (op2 atO (nm 1) (nm 9)) aN))))) (ck .non)) (gNm 11))
  (ifS (tst (op2 isNotO (nm 11) (ck .non))) (asgS (nm 11) (gTp 2 (gCn (gNm 5) (gCn (gNm 6) gNl)))) (parS 5 6 (aC (callF 3 fs_after (aC (nm 5) (aC (callF 2 fs_install_writes (aC (frz (opO dictO (aC (nm 5) aN))) (aC (nm 10) aN))) (aC (ck (.int 999)) aN)))) (aC (callF 3 fs__law_after (aC (nm 6) (aC (callF 2 fs__law_install (aC (nm 6) (aC (op2 atO (nm 1) (nm 9)) aN))) (aC (ck (.int 999)) aN)))) aN))))) (s3 gw o11 t1) = some (.ok f, s') → bnd (gNm 7 w) (fun _ => bdMc) (sMc (enc 0 A) Fs Ps R t o4 o7 o8 o9 o10 o11 o12 o13 o14) = some (.ok f, s') := fun f s' hh => by
      refine (ev_bnd g0).trans ?_
      unfold bdMc
      rw [ev_seq k1, ev_seq k2, ev_seq k3, ev_seq k4, ev_seq k5, ev_seq k6, ev_seq k7]
      exact hh
    have hM : ∀ o11 t, (s3 gw o11 t).m[1]? = some (.lst (FL Fs)) := fun _ _ => hR
    cases hb : ((q : Int) == 0) with
    | true =>
      rw [hb] at c8
      have hcut : ∀ c, Small (aft d ((install d (Fs l)).take c)) := fun c => by
        rw [m.install (by omega) _ gfl]
        exact (m.inst hl gfl hpl c).1.sm (by omega)
      obtain ⟨c, t3, hcu⟩ := s_law_cut (n := 0) (t := t2) (d := d) (f := Fs l) (M := .dK (tpD t2) :: R) (by simp) sm gfl hnx hcut
      obtain ⟨m1, l1⟩ := m.inst hl gfl hpl c
      obtain ⟨m2, l2⟩ := m1.recv
      let A1 := aftA A ((instA A (Fs l)).take c)
      let A2 := aftA A1 (recA A1)
      have ee : aft (aft d ((install d (Fs l)).take c)) (recF (aft d ((install d (Fs l)).take c))) = enc 0 A2 := by
        rw [m.install (by omega) _ gfl, m1.recov (by omega)]
      rw [ee] at hcu
      let tw : Option W := some (.fz (.tup [.dK (eF (enc 0 A2)), .dK (eF (enc 0 A2))]))
      refine .inr ⟨A2, t3, jw, hw, lw, gw, tw, m2, by show A2.length ≤ _; have : A1.length ≤ A.length + 6 := l1; have : A2.length ≤ A1.length := l2; omega, pre _ _ ?_⟩
      have ha : aC (nm 0) (aC (nm 5) (aC (nm 6) (aC (op2 atO (nm 1) (nm 9)) aN))) (s3 gw o11 t2) = some (.ok [.ob 0, .fz (.dK (eF d)), .fz (.dK (eF d)), .fz (.dK (eF (Fs l)))], s3 gw o11 t2) := e_aC (ev_nm rfl) (e_aC (ev_nm rfl) (e_aC (ev_nm rfl) (e_a1 (e_flAt (by omega) (hM _ _) (ev_nm rfl) (ev_nm rfl)))))
      have k8 : asgS (iffE (tst (op2 eqO (callF 2 fs__law_take (aC (nm 0) (aC (ck (.int 2)) aN))) (ck (.int 0)))) (callF 4 fs__law_cut (aC (nm 0) (aC (nm 5) (aC (nm 6) (aC (op2 atO (nm 1) (nm 9)) aN))))) (ck .non)) (gNm 11) (s3 gw o11 t1) = some (.ok .nx, s3 gw tw t3) := by
        have kc : callF 4 fs__law_cut (aC (nm 0) (aC (nm 5) (aC (nm 6) (aC (op2 atO (nm 1) (nm 9)) aN)))) (s3 gw o11 t2) = some (.ok (.fz (.tup [.dK (eF (enc 0 A2)), .dK (eF (enc 0 A2))])), s3 gw o11 t3) := x_call ha rfl hcu
        exact e_asg ((x_iffE c8).trans kc)
      rw [ev_seq k8]
      have c9 : tst (op2 isNotO (nm 11) (ck .non)) (s3 gw tw t3) = some (.ok true, s3 gw tw t3) := e_tst (e_op2 (ev_nm (w := .fz (.tup [.dK (eF (enc 0 A2)), .dK (eF (enc 0 A2))])) rfl) ev_ck rfl)
      rw [e_if c9]
      rfl
    | false =>
      rw [hb] at c8
      let A2 := aftA A (instA A (Fs l))
      obtain ⟨m2, l2⟩ := m.inst hl gfl hpl (instA A (Fs l)).length
      rw [List.take_length] at m2 l2
      have ee : aft d (install d (Fs l)) = enc 0 A2 := by
        have := m.install (by omega) _ gfl 1000
        rw [List.take_of_length_le (by rw [install_len]; have := gfl.len; omega), List.take_of_length_le] at this
        · exact this
        · unfold instA
          rw [List.length_append, List.length_map, len_sortS, kF_len]
          have := gfl.len
          simp
          omega
      refine .inr ⟨A2, t2, jw, hw, lw, gw, some (.fz .non), m2, l2, pre _ _ ?_⟩
      have k8 : asgS (iffE (tst (op2 eqO (callF 2 fs__law_take (aC (nm 0) (aC (ck (.int 2)) aN))) (ck (.int 0)))) (callF 4 fs__law_cut (aC (nm 0) (aC (nm 5) (aC (nm 6) (aC (op2 atO (nm 1) (nm 9)) aN))))) (ck .non)) (gNm 11) (s3 gw o11 t1) = some (.ok .nx, s3 gw (some (.fz .non)) t2) := by
        have kc : iffE (tst (op2 eqO (callF 2 fs__law_take (aC (nm 0) (aC (ck (.int 2)) aN))) (ck (.int 0)))) (callF 4 fs__law_cut (aC (nm 0) (aC (nm 5) (aC (nm 6) (aC (op2 atO (nm 1) (nm 9)) aN))))) (ck .non) (s3 gw o11 t1) = some (.ok (.fz .non), s3 gw o11 t2) := (x_iffE c8).trans rfl
        exact e_asg kc
      rw [ev_seq k8]
      have c9 : tst (op2 isNotO (nm 11) (ck .non)) (s3 gw (some (.fz .non)) t2) = some (.ok false, s3 gw (some (.fz .non)) t2) := e_tst (e_op2 (ev_nm (w := .fz .non) rfl) ev_ck rfl)
      rw [e_if c9, if_neg Bool.false_ne_true, e_whole sm gfl hnx (ev_nm rfl) (ev_nm rfl) (ev_nm rfl) (e_flAt (by omega) (hM _ _) (ev_nm rfl) (ev_nm rfl)), ee]
      rfl
end
end PD

noncomputable section
namespace PD
open PySem L2 PyProof.Rows
section
variable {Fs : Nat → FS} {Ps : Nat → PT} {R : List MO}
theorem e_imC {s : S} {k : Nat} {z : Int} (hj : k < 5) (hz : z = (k : Int)) (h2 : nm 2 s = some (.ok (.fz (.lst ((IM Fs).map .str))), s)) : op2 atO (nm 2) (ck (.int z)) s = some (.ok (.fz (.str (img (Fs k)))), s) := by
  subst hz
  refine e_op2 h2 ev_ck ?_
  show (L2.atI ((IM Fs).map D.str) (k : Int)).map W.fz = _
  rw [L2.atI_nat (v := D.str (img (Fs k))) (by rw [List.getElem?_map, IM_at hj]; rfl)]
  rfl
theorem e_flC {s : S} {k : Nat} {z : Int} (hj : k < 5) (hz : z = (k : Int)) (hM : s.m[1]? = some (.lst (FL Fs))) (h1 : nm 1 s = some (.ok (.ob 1), s)) : op2 atO (nm 1) (ck (.int z)) s = some (.ok (.fz (.dK (eF (Fs k)))), s) := by
  subst hz
  exact e_op2 h1 ev_ck (atO_ls hM (FL_at hj))
theorem whole_fo {P : FS → Prop} {B : Nat} (hB : B + 1 < 1000000000) {A : AD} (m : Mi P B A) {n : Nat} (h : n ∈ wholeA A) : hasD A n ∧ fo (enc 0 A) n = some (filesA A n) ∧ foA A n = some (filesA A n) ∧ n ≤ B := by
  have hd := whole_done h
  have hg := (List.mem_filter.mp h).1
  obtain ⟨n1, n2⟩ := nsA_bd (B := B) (o := 0) (by omega) m.iv.w hg
  have hs := (List.mem_filter.mp h).2
  have e : foA A n = some (filesA A n) := by
    unfold foA at hs ⊢
    split at hs
    · split at hs
      · rename_i hd
        rw [if_pos hd]
      · cases hs
    · cases hs
  have := fo_enc (B := B) (o := 0) (by omega) m.iv.w n1 n2
  exact ⟨hd, by rw [Nat.add_zero] at this; rw [this, e], e, n2⟩
def bdBk : Mo Fl := (seqS (asgS (callF 3 fs_after (aC (nm 5) (aC (callF 2 fs_back_writes (aC (frz (opO dictO (aC (nm 5) aN))) (aC (nm 12) aN))) (aC (ck (.int 1)) aN)))) (gNm 13))
  (ifS (orT (tst (op2 ninO (op2 atO (callF 1 fs_current (aC (nm 13) aN)) (ck (.int 1))) (nm 2))) (tst (op2 neO (op2 atO (callF 1 fs_current (aC (nm 13) aN)) (ck (.int 1))) (callF 1 fs__law_image (aC (callF 2 fs__law_files_of (aC (nm 6) (aC (nm 12) aN))) aN))))) (retS (ck (.bl false))) nxS))
theorem e_cur13 {s : S} {i : Nat} {d : FS} {h : Nat} {f : FS} {x : Str} (sm : Small d) (cu : Cur d h f) (ex : img f = x) (hi : nm i s = some (.ok (.fz (.dK (eF d))), s)) : op2 atO (callF 1 fs_current (aC (nm i) aN)) (ck (.int 1)) s = some (.ok (.fz (.str x)), s) := by
  subst ex
  refine e_op2 (e_call (e_a1 hi) rfl (s_current d _ sm cu)) ev_ck ?_
  show (L2.atI [D.int (h : Int), .str (img f)] ((1 : Nat) : Int)).map W.fz = _
  rw [L2.atI_nat (v := D.str (img f)) rfl]
  rfl
theorem back_step (wd : Wd Fs Ps) {B : Nat} (hB : B + 2 < 1000000000) {A : AD} (m : Mi (PF Fs) B A) {n : Nat} (hn : n ∈ wholeA A) (t : Tp) (o4 o7 o8 o9 o10 o11 o12 o13 o14 : Option W) :
    ∃ p13, bnd (gNm 12 (.fz (.int (n : Int)))) (fun _ => bdBk) (sMc (enc 0 A) Fs Ps R t o4 o7 o8 o9 o10 o11 o12 o13 o14) = some (.ok .nx, sMc (enc 0 A) Fs Ps R t o4 o7 o8 o9 o10 o11 (some (.fz (.int (n : Int)))) p13 o14) := by
  obtain ⟨hd, hfo, _, hnB⟩ := whole_fo (by omega) m hn
  obtain ⟨m2, hc2, hf2⟩ := m.back hd
  have sm := m.sm (by omega)
  let A2 := aftA A (backA n)
  have sm2 : Small (enc 0 A2) := m2.sm (by omega)
  obtain ⟨h, hc, hh, cu, j, hj, ef⟩ := m2.cu (by omega)
  have hhn : h = n := by
    rw [hc2] at hc
    cases hc
    rfl
  subst hhn
  rw [hf2] at ef cu
  have ei : img (filesA A h) = img (Fs j) := by rw [ef, img_srt (wd.gf j hj).nd]
  let w12 : Option W := some (.fz (.int (h : Int)))
  let w13 : Option W := some (.fz (.dK (eF (enc 0 A2))))
  refine ⟨w13, ?_⟩
  let s1 := sMc (enc 0 A) Fs Ps R t o4 o7 o8 o9 o10 o11 w12 o13 o14
  let s2 := sMc (enc 0 A) Fs Ps R t o4 o7 o8 o9 o10 o11 w12 w13 o14
  rw [ev_bnd (show gNm 12 (.fz (.int (h : Int))) (sMc (enc 0 A) Fs Ps R t o4 o7 o8 o9 o10 o11 o12 o13 o14) = some (.ok (), s1) from rfl)]
  have fw := sm.few
  have a1 := s_after (enc 0 A) (backW h) 1 s1.m (by omega) (by simp [backW])
  rw [show (backW h).take 1 = backW h from rfl, m.backed (by omega)] at a1
  have k1 : asgS (callF 3 fs_after (aC (nm 5) (aC (callF 2 fs_back_writes (aC (frz (opO dictO (aC (nm 5) aN))) (aC (nm 12) aN))) (aC (ck (.int 1)) aN)))) (gNm 13) s1 = some (.ok .nx, s2) :=
    e_asg (e_call (e_a3 (ev_nm (w := .fz (.dK (eF (enc 0 A)))) rfl) (e_call (e_a2 (e_dict (ev_nm rfl)) (ev_nm rfl)) rfl (s_back_writes (enc 0 A) h _ sm (by omega) hfo)) ev_ck) rfl a1)
  have hx : op2 atO (callF 1 fs_current (aC (nm 13) aN)) (ck (.int 1)) s2 = some (.ok (.fz (.str (img (Fs j)))), s2) := e_cur13 sm2 cu ei (ev_nm rfl)
  have sf : Small (filesA A h) := fo_small sm hfo
  have c1 : tst (op2 ninO (op2 atO (callF 1 fs_current (aC (nm 13) aN)) (ck (.int 1))) (nm 2)) s2 = some (.ok false, s2) := e_tst (e_op2 hx (ev_nm (w := .fz (.lst ((IM Fs).map .str))) rfl) (by rw [ninO_strs, decide_eq_true (List.mem_of_getElem? (IM_at hj))]; rfl))
  have hfl : callF 2 fs__law_files_of (aC (nm 6) (aC (nm 12) aN)) s2 = some (.ok (.fz (.dK (eF (filesA A h)))), s2) := e_call (e_a2 (ev_nm rfl) (ev_nm rfl)) rfl (by rw [s_law_files_of (enc 0 A) h _ sm (by omega), hfo]; rfl)
  have hy : callF 1 fs__law_image (aC (callF 2 fs__law_files_of (aC (nm 6) (aC (nm 12) aN))) aN) s2 = some (.ok (.fz (.str (img (Fs j)))), s2) := e_call (e_a1 hfl) rfl (by rw [s_law_image (filesA A h) _ (by rw [kF_len]; exact sf.few) (lim_of (m := 20000) (img_small sf)), ei])
  have c2 : tst (op2 neO (op2 atO (callF 1 fs_current (aC (nm 13) aN)) (ck (.int 1))) (callF 1 fs__law_image (aC (callF 2 fs__law_files_of (aC (nm 6) (aC (nm 12) aN))) aN))) s2 = some (.ok false, s2) := e_tst (e_op2 hx hy (by rw [neO_ss, beq_self_eq_true]; rfl))
  unfold bdBk
  rw [ev_seq k1, e_if (e_or c1 fun _ => c2)]
  rfl
theorem s_law_machine (wd : Wd Fs Ps) (hR : R[0]? = some (.lst (FL Fs))) (t : Tp) : ∃ t', fs__law_machine [.ob 0, .ob 1, .fz (.lst ((IM Fs).map .str)), .fz (rowD (PR Ps))] (.dK (tpD t) :: R) = some (.ok (.fz (.bl true)), .dK (tpD t') :: R) := by
  let z : Option W := none
  let s0 : S := ⟨start0 15 [.ob 0, .ob 1, .fz (.lst ((IM Fs).map .str)), .fz (rowD (PR Ps))], .dK (tpD t) :: R⟩
  obtain ⟨k, t1, hk, ht1⟩ := take0 (s := s0) (i := 0) (t := t) (R := R) 5 5 (ev_nm rfl) rfl (by decide) rfl
  let kw : Option W := some (.fz (.int (k : Int)))
  let s1 : S := ⟨[some (.ob 0), some (.ob 1), some (.fz (.lst ((IM Fs).map .str))), some (.fz (rowD (PR Ps))), kw, z, z, z, z, z, z, z, z, z, z], .dK (tpD t1) :: R⟩
  have k1 : asgS (callF 2 fs__law_take (aC (nm 0) (aC (ck (.int 5)) aN))) (gNm 4) s0 = some (.ok .nx, s1) := e_asg ht1
  have gfk := wd.gf k hk
  let A0 := AI (srt (Fs k))
  obtain ⟨iv0, l0, f0⟩ := iv_AI (small_srt gfk.small).nd (by rw [len_srt]; exact gfk.len) gfk.hs
  have m0 : Mi (PF Fs) 1 A0 := ⟨iv0, fun n hn => by
    have hk2 := (iv0.w.wk _ (getA_mem (Option.ne_none_iff_exists'.mp hn).choose_spec))
    have h1 : 1 ≤ n := hk2.1
    have h2 : n ≤ 1 := hk2.2.1
    have : n = 1 := by omega
    subst this
    rw [f0]
    exact ⟨k, hk, rfl⟩⟩
  have k2 : parS 5 6 (aC (callF 1 fs_new_disk (aC (op2 atO (nm 2) (nm 4)) aN)) (aC (callF 3 fs__law_after (aC (frz dict0) (aC (callF 2 fs__law_install (aC (frz dict0) (aC (op2 atO (nm 1) (nm 4)) aN))) (aC (ck (.int 999)) aN)))) aN)) s1 = some (.ok .nx, sMc (enc 0 A0) Fs Ps R t1 kw z z z z z z z z) := by
    have lw : (install [] (Fs k)).length ≤ 7 := by
      have := gfk.len
      rw [install_len]
      omega
    have a2 := s_law_after [] (install [] (Fs k)) 999 s1.m (by simp [kF]) (by decide) (by omega)
    rw [List.take_of_length_le (by omega)] at a2
    have ka : aC (callF 1 fs_new_disk (aC (op2 atO (nm 2) (nm 4)) aN)) (aC (callF 3 fs__law_after (aC (frz dict0) (aC (callF 2 fs__law_install (aC (frz dict0) (aC (op2 atO (nm 1) (nm 4)) aN))) (aC (ck (.int 999)) aN)))) aN) s1 = some (.ok [.fz (.dK (eF (enc 0 A0))), .fz (.dK (eF (enc 0 A0)))], s1) := by
      have e := aft_first gfk
      rw [← e]
      exact e_a2 (e_call (e_a1 (e_imAt hk (ev_nm rfl) (ev_nm rfl))) rfl (s_new_disk (Fs k) _ gfk)) (e_call (e_a3 (x := .fz (.dK (eF []))) rfl (e_call (e_a2 (x := .fz (.dK (eF []))) rfl (e_flAt hk hR (ev_nm rfl) (ev_nm rfl))) rfl (s_law_install [] (Fs k) _ small_nil gfk.small)) ev_ck) rfl a2)
    unfold parS
    exact (ev_bnd ka).trans rfl
  let St := fun (i : Nat) (s : S) => ∃ B A t o4 o7 o8 o9 o10 o11, B ≤ 1 + i ∧ Mi (PF Fs) B A ∧ A.length ≤ 7 + 6 * i ∧ s = sMc (enc 0 A) Fs Ps R t o4 o7 o8 o9 o10 o11 z z z
  obtain ⟨s3, h3, h4⟩ := forL_indB (g := gNm 7) (b := bdMc) (fun i s => i ≤ 8 → St i s) (St 8) (rngV 0 ((8 : Nat) : Int)) 0 (sMc (enc 0 A0) Fs Ps R t1 kw z z z z z z z z)
    (fun i w s hw hs => by
      have hi : i < 8 := by
        have := (List.getElem?_eq_some_iff.mp hw).1
        simpa [rngV] using this
      obtain ⟨B, A, t, o4, o7, o8, o9, o10, o11, hB, m, hl, hs⟩ := hs (by omega)
      subst hs
      rcases mach_step (R := R) wd hR (B := B) (by omega) m (by omega) t o4 o7 o8 o9 o10 o11 z z z w with ⟨t', p4, p8, p9, e⟩ | ⟨A', t', p4, p8, p9, p10, p11, m', hl', e⟩
      · exact ⟨_, .inr ⟨e, B, A, t', p4, _, p8, p9, o10, o11, by omega, m, by omega, rfl⟩⟩
      · exact ⟨_, .inl ⟨e, fun _ => ⟨B + 1, A', t', p4, _, p8, p9, p10, p11, by omega, m', by omega, rfl⟩⟩⟩)
    (fun _ => ⟨1, A0, t1, kw, z, z, z, z, z, by omega, m0, by show A0.length ≤ 7 + 6 * 0; omega, rfl⟩)
  have h4 : St 8 s3 := by
    rcases h4 with h | h
    · exact h
    · have e8 : 0 + (rngV 0 ((8 : Nat) : Int)).length = 8 := by simp [rngV]
      rw [e8] at h
      exact h (by omega)
  obtain ⟨B, A, t2, o4, o7, o8, o9, o10, o11, hB, m, hl, e3⟩ := h4
  subst e3
  let s3 := sMc (enc 0 A) Fs Ps R t2 o4 o7 o8 o9 o10 o11 z z z
  have k3 : forS (rng1 (aC (ck (.int 8)) aN)) (gNm 7) bdMc (sMc (enc 0 A0) Fs Ps R t1 kw z z z z z z z z) = some (.ok .nx, s3) := by
    have kr : rng1 (aC (ck (.int 8)) aN) (sMc (enc 0 A0) Fs Ps R t1 kw z z z z z z z z) = some (.ok (Wk.of (rngV 0 ((8 : Nat) : Int))), sMc (enc 0 A0) Fs Ps R t1 kw z z z z z z z z) := ev_rng1 (e_a1 ev_ck) (by decide)
    rw [ev_for kr]
    exact h3
  -- the last image
  obtain ⟨h, j, hc, hh, hj, ef, cu, ei⟩ := mi_img (by omega) m wd
  have sm := m.sm (by omega)
  let hw : Option W := some (.fz (.str (img (Fs j))))
  let lw : Option W := some (.fz (.str (img (Fs 4))))
  let s4 := sMc (enc 0 A) Fs Ps R t2 o4 o7 hw lw o10 o11 z z z
  have k4 : parS 8 9 (aC (op2 atO (callF 1 fs_current (aC (frz (opO dictO (aC (nm 5) aN))) aN)) (ck (.int 1))) (aC (op2 atO (nm 2) (ck (.int 4))) aN)) s3 = some (.ok .nx, s4) := by
    have ka : aC (op2 atO (callF 1 fs_current (aC (frz (opO dictO (aC (nm 5) aN))) aN)) (ck (.int 1))) (aC (op2 atO (nm 2) (ck (.int 4))) aN) s3 = some (.ok [.fz (.str (img (Fs j))), .fz (.str (img (Fs 4)))], s3) := e_a2 (e_here sm cu ei (ev_nm rfl)) (e_imC (k := 4) (by omega) rfl (ev_nm rfl))
    unfold parS
    exact (ev_bnd ka).trans rfl
  obtain ⟨ch1, ch2⟩ := wd.chain (4 - j) j (by omega)
  rw [← PR_cut (by omega)] at ch1 ch2
  rw [show j + (4 - j) = 4 by omega] at ch2
  have ed : ((PR Ps).drop j).take (4 - j) = (PR Ps).drop j := List.take_of_length_le (by simp [PR])
  rw [ed] at ch1 ch2
  let s5 := sMc (enc 0 A) Fs Ps R t2 o4 o7 hw lw lw o11 z z z
  have k5 : asgS (callF 2 fs__law_patched (aC (nm 8) (aC (slO (nm 3) (poS (bm isLs idxO (nm 2) (aC (nm 8) aN))) poN) aN))) (gNm 10) s4 = some (.ok .nx, s5) := by
    have kix : bm isLs idxO (nm 2) (aC (nm 8) aN) s4 = some (.ok (.fz (.int (j : Int))), s4) := e_bm (ev_nm (w := .fz (.lst ((IM Fs).map .str))) rfl) rfl (e_a1 (ev_nm (w := .fz (.str (img (Fs j)))) rfl)) (wd.idx hj)
    have ksl : slO (nm 3) (poS (bm isLs idxO (nm 2) (aC (nm 8) aN))) poN s4 = some (.ok (.fz (rowD ((PR Ps).drop j))), s4) := by
      refine e_slFrom (ev_nm (w := .fz (rowD (PR Ps))) rfl) kix ?_
      show some (W.fz (.lst (cutD ((PR Ps).map PT.d) (some (j : Int)) none))) = _
      rw [cutD_from', ← List.map_drop]
      rfl
    exact e_asg (e_call (e_a2 (ev_nm (w := .fz (.str (img (Fs j)))) rfl) ksl) rfl (by rw [s_law_patched_ok ch1, ch2]))
  have k6 : ifS (tst (op2 neO (nm 10) (nm 9))) (retS (ck (.bl false))) nxS s5 = some (.ok .nx, s5) := by
    have c : tst (op2 neO (nm 10) (nm 9)) s5 = some (.ok false, s5) := e_tst (e_op2 (ev_nm (w := .fz (.str (img (Fs 4)))) rfl) (ev_nm (w := .fz (.str (img (Fs 4)))) rfl) (by rw [neO_ss, beq_self_eq_true]; rfl))
    rw [e_if c]
    rfl
  have gf4 := wd.gf 4 (by omega)
  have hnx := m.nxt (by omega)
  let A2 := aftA A (instA A (Fs 4))
  obtain ⟨m2, l2⟩ := m.inst (by omega) gf4 ⟨4, by omega, rfl⟩ (instA A (Fs 4)).length
  rw [List.take_length] at m2 l2
  have m2 : Mi (PF Fs) (B + 1) A2 := m2
  have ee : aft (enc 0 A) (install (enc 0 A) (Fs 4)) = enc 0 A2 := by
    have := m.install (by omega) _ gf4 1000
    rw [List.take_of_length_le (by rw [install_len]; have := gf4.len; omega), List.take_of_length_le] at this
    · exact this
    · unfold instA
      rw [List.length_append, List.length_map, len_sortS, kF_len]
      have := gf4.len
      simp
      omega
  obtain ⟨hc2, hf2⟩ := inst_cur m.iv.gens_le gf4
  let s7 := sMc (enc 0 A2) Fs Ps R t2 o4 o7 hw lw lw o11 z z z
  have k7 : parS 5 6 (aC (callF 3 fs_after (aC (nm 5) (aC (callF 2 fs_install_writes (aC (frz (opO dictO (aC (nm 5) aN))) (aC (nm 10) aN))) (aC (ck (.int 999)) aN)))) (aC (callF 3 fs__law_after (aC (nm 6) (aC (callF 2 fs__law_install (aC (nm 6) (aC (op2 atO (nm 1) (ck (.int 4))) aN))) (aC (ck (.int 999)) aN)))) aN)) s5 = some (.ok .nx, s7) := by
    rw [e_whole (gl := op2 atO (nm 1) (ck (.int 4))) sm gf4 hnx (ev_nm (s := s5) rfl) (ev_nm rfl) (ev_nm rfl) (e_flC (k := 4) (by omega) rfl hR (ev_nm rfl)), ee]
    rfl
  have sm2 : Small (enc 0 A2) := m2.sm (by omega)
  obtain ⟨h2, hcc, hhh, cu2, _⟩ := m2.cu (by omega)
  have e2 : h2 = nxtA A := by
    have : getA A2 .cur = some (.nu (nxtA A)) := hc2
    rw [this] at hcc
    cases hcc
    rfl
  have ei2 : img (filesA A2 h2) = img (Fs 4) := by
    rw [e2]
    show img (filesA (aftA A (instA A (Fs 4))) (nxtA A)) = _
    rw [hf2, img_srt gf4.nd]
  have k8 : ifS (orT (tst (op2 neO (nm 5) (nm 6))) (orT (tst (op2 neO (callF 1 fs_current (aC (frz (opO dictO (aC (nm 5) aN))) aN)) (callF 1 fs__law_current (aC (nm 6) aN)))) (orT (tst (op2 neO (op2 atO (callF 1 fs_current (aC (frz (opO dictO (aC (nm 5) aN))) aN)) (ck (.int 1))) (nm 9))) (tst (op2 neO (callF 1 fs_whole_numbers (aC (frz (opO dictO (aC (nm 5) aN))) aN)) (callF 1 fs__law_whole (aC (nm 6) aN))))))) (retS (ck (.bl false))) nxS s7 = some (.ok .nx, s7) := by
    have c1 : tst (op2 neO (nm 5) (nm 6)) s7 = some (.ok false, s7) := e_tst (e_op2 (ev_nm (w := .fz (.dK (eF (enc 0 A2)))) rfl) (ev_nm (w := .fz (.dK (eF (enc 0 A2)))) rfl) (neO_T (eqT_dK sm2.nd)))
    have c2 : tst (op2 neO (callF 1 fs_current (aC (frz (opO dictO (aC (nm 5) aN))) aN)) (callF 1 fs__law_current (aC (nm 6) aN))) s7 = some (.ok false, s7) := e_tst (e_op2 (e_call (e_a1 (e_dict (ev_nm rfl))) rfl (s_current _ _ sm2 cu2)) (e_call (e_a1 (ev_nm rfl)) rfl (s_law_current _ _ sm2 cu2)) (neO_T (eqA_is (n := 38) _ _)))
    have c3 : tst (op2 neO (op2 atO (callF 1 fs_current (aC (frz (opO dictO (aC (nm 5) aN))) aN)) (ck (.int 1))) (nm 9)) s7 = some (.ok false, s7) := e_tst (e_op2 (e_here sm2 cu2 ei2 (ev_nm rfl)) (ev_nm (w := .fz (.str (img (Fs 4)))) rfl) (by rw [neO_ss, beq_self_eq_true]; rfl))
    have c4 : tst (op2 neO (callF 1 fs_whole_numbers (aC (frz (opO dictO (aC (nm 5) aN))) aN)) (callF 1 fs__law_whole (aC (nm 6) aN))) s7 = some (.ok false, s7) := e_tst (e_op2 (e_call (e_a1 (e_dict (ev_nm rfl))) rfl (s_whole_numbers _ _ sm2)) (e_call (e_a1 (ev_nm rfl)) rfl (s_law_whole _ _ sm2)) (neO_T (eqA_ints (n := 38) _)))
    rw [e_if (e_or c1 fun _ => e_or c2 fun _ => e_or c3 fun _ => c4)]
    rfl
  -- back to each
  have ewh : wholeF (enc 0 A2) = (wholeA A2).map fun n => ((n + 0 : Nat) : Int) := whole_enc (B := B + 1) (o := 0) (by omega) m2.iv.w
  obtain ⟨s9, h9, o12, o13, e9⟩ := forL_ind (g := gNm 12) (b := bdBk) (ok := fun _ => true)
    (fun i s => ∃ o12 o13, s = sMc (enc 0 A2) Fs Ps R t2 o4 o7 hw lw lw o11 o12 o13 z) ((wholeA A2).map fun n => .fz (.int ((n + 0 : Nat) : Int))) 0 s7
    (fun i w s hw' ⟨o12, o13, hs⟩ => by
      subst hs
      obtain ⟨n, hn, rfl⟩ := getD hw'
      obtain ⟨p13, e⟩ := back_step (R := R) wd (B := B + 1) (by omega) m2 (List.mem_of_getElem? hn) t2 o4 o7 hw lw lw o11 o12 o13 z
      exact ⟨rfl, _, .inl e, _, p13, rfl⟩)
    (fun _ _ => rfl) ⟨z, z, rfl⟩
  let s9' := sMc (enc 0 A2) Fs Ps R t2 o4 o7 hw lw lw o11 o12 o13 z
  have k9 : forS (walk (callF 1 fs__law_whole (aC (nm 6) aN))) (gNm 12) bdBk s7 = some (.ok .nx, s9') := by
    have kw : walk (callF 1 fs__law_whole (aC (nm 6) aN)) s7 = some (.ok (Wk.of ((wholeA A2).map fun n => .fz (.int ((n + 0 : Nat) : Int)))), s7) := e_walk (e_call (e_a1 (ev_nm rfl)) rfl (s_law_whole _ _ sm2)) (by rw [walkV_lst, ewh, List.map_map, List.map_map]; rfl)
    rw [ev_for kw]
    exact h9.trans (by rw [e9])
  obtain ⟨c, t3, hcl, ht3⟩ := take0 (s := s9') (i := 0) (t := t2) (R := R) 3 3 (ev_nm rfl) rfl (by decide) rfl
  let s10 := sMc (enc 0 A2) Fs Ps R t3 o4 o7 hw lw lw o11 o12 o13 (some (.fz (.int (c : Int))))
  have k10 : asgS (callF 2 fs__law_take (aC (nm 0) (aC (ck (.int 3)) aN))) (gNm 14) s9' = some (.ok .nx, s10) := e_asg ht3
  have ok : Oks (B + 1) A2 (clnA A2 h2 c) := oks_cln (by unfold keptA; simp) _ hcc
  have hcs : ((clnA A2 h2 c).map cost).sum = 0 := cost_zero fun x hx => cost_none (by
    obtain ⟨n, _, hx⟩ := List.mem_flatMap.mp hx
    exact clnAP_none x hx)
  have few2 := m2.iv.w.few
  obtain ⟨iv3, _⟩ := Iv.seq _ m2.iv ok (by omega) 999
  have e10 : aft (enc 0 A2) ((clnF (enc 0 A2) (h2 : Nat) c).take 999) = enc 0 (aftA A2 ((clnA A2 h2 c).take 999)) := by
    have := cln_enc (B := B + 1) (o := 0) (by omega) m2.iv.w h2 c
    rw [Nat.add_zero] at this
    rw [this, ← List.map_take]
    exact aft_enc (B := B + 1) (o := 0) (by omega) (N := []) _ (fun q hq => m2.iv.w.wk q hq) fun x hx => wk_cln m2.iv.w x ((List.take_sublist _ _).subset hx)
  have fin3 : Small (aft (enc 0 A2) ((clnF (enc 0 A2) (h2 : Nat) c).take 999)) := by
    rw [e10]
    exact small_enc (B := B + 1) (by omega) iv3.w
  have lcl : (clnF (enc 0 A2) (h2 : Nat) c).length ≤ 64 * 64 := by
    unfold clnF
    have := len_NS sm2
    exact Nat.le_trans (flat_len (b := 64) _ fun a _ => clnP_len sm2 _ a) (by omega)
  have fw2 := sm2.few
  have b1 := s_after (enc 0 A2) (clnF (enc 0 A2) (h2 : Nat) c) 999 s10.m (by omega) (by omega)
  have b2 := s_law_after (enc 0 A2) (clnF (enc 0 A2) (h2 : Nat) c) 999 s10.m sm2.nd (by omega) (by omega)
  have kb : fb__law_machine s0 = some (.ok (.rt (.fz (.bl true))), s10) := by
    unfold fb__law_machine
    rw [ev_seq k1, ev_seq k2]
    refine (ev_seq k3).trans ?_
    rw [ev_seq k4, ev_seq k5, ev_seq k6, ev_seq k7, ev_seq k8]
    refine (ev_seq k9).trans ?_
    rw [ev_seq k10]
    exact e_ret (e_op2 (e_call (e_a3 (ev_nm rfl) (e_call (e_a2 (e_dict (ev_nm rfl)) (ev_nm rfl)) rfl (s_clean_writes _ c _ sm2 cu2)) ev_ck) rfl b1) (e_call (e_a3 (ev_nm rfl) (e_call (e_a2 (ev_nm rfl) (ev_nm rfl)) rfl (s_law_clean _ c _ sm2 cu2)) ev_ck) rfl b2) (eqO_T (eqT_dK fin3.nd)))
  refine ⟨t3, ?_⟩
  rw [show fs__law_machine = fnD 15 fb__law_machine from rfl]
  unfold fnD
  rw [show (⟨start0 15 [.ob 0, .ob 1, .fz (.lst ((IM Fs).map .str)), .fz (rowD (PR Ps))], .dK (tpD t) :: R⟩ : S) = s0 from rfl, kb]
  have tr : trunc (.dK (tpD t) :: R) (.dK (tpD t3) :: R) = some (.dK (tpD t3) :: R) := trunc_set0 (M := .dK (tpD t) :: R) (n := 0) (m := .dK (tpD t3)) rfl
  show ((trunc (.dK (tpD t) :: R) (.dK (tpD t3) :: R)).map fun M2 => (W.fz (.bl true), M2)).map _ = _
  rw [tr]
  rfl
end
end PD

noncomputable section
namespace PD
open PySem L2 PyProof.Rows
theorem kF_put (f : FS) (p t : Str) : kF (putF f p t) = if p ∈ kF f then kF f else kF f ++ [p] := by
  unfold putF
  split
  · unfold kF
    rw [List.map_map]
    refine List.map_congr_left fun q _ => ?_
    simp only [Function.comp_apply]
    split <;> rfl
  · unfold kF
    rw [List.map_append]
    rfl
theorem gF_put (f : FS) (p t k : Str) : gF (putF f p t) k = if p = k then some t else gF f k := by
  unfold putF
  by_cases h : p ∈ kF f
  · rw [if_pos h]
    unfold gF
    rw [List.find?_map]
    have ef : ((fun q : Str × Str => decide (q.1 = k)) ∘ fun q => if q.1 = p then (q.1, t) else q) = fun q => decide (q.1 = k) := by
      funext q
      simp only [Function.comp_apply]
      split <;> rfl
    rw [ef]
    by_cases e : p = k
    · subst e
      rw [if_pos rfl]
      obtain ⟨q, hq, e2⟩ := List.mem_map.mp h
      cases hf : f.find? fun q => decide (q.1 = p) with
      | none =>
        rw [List.find?_eq_none] at hf
        exact absurd (decide_eq_true e2) (hf q hq)
      | some z =>
        have hz := List.find?_some hf
        have hz : z.1 = p := of_decide_eq_true hz
        simp [hz]
    · rw [if_neg e]
      cases hf : f.find? fun q => decide (q.1 = k) with
      | none => rfl
      | some z =>
        have hz := List.find?_some hf
        have hz : z.1 = k := of_decide_eq_true hz
        have : ¬ z.1 = p := fun y => e (by rw [← y, hz])
        simp [this]
  · rw [if_neg h]
    unfold gF
    rw [List.find?_append]
    by_cases e : p = k
    · subst e
      rw [if_pos rfl]
      have : f.find? (fun q => decide (q.1 = p)) = none := List.find?_eq_none.mpr fun q hq z => h (List.mem_map.mpr ⟨q, hq, of_decide_eq_true z⟩)
      rw [this]
      simp
    · rw [if_neg e]
      simp [e]
/-! ### names that are told -/
def nameF (f : FS) (x : Str) : FS := putF (if ((gF f (dig x)).getD x) = x then f else putF f "clash" (dig x)) (dig x) x
theorem nameF_len (f : FS) (x : Str) : (nameF f x).length ≤ f.length + 2 := by
  unfold nameF
  refine Nat.le_trans (putF_len _ _ _) ?_
  split
  · omega
  · have := putF_len f "clash" (dig x)
    omega
def NI (f : FS) (xs : List Str) : Prop := gF f "clash" ≠ none ∨ ∀ x ∈ xs, gF f (dig x) = some x
theorem NI.step {f : FS} {xs : List Str} (h : NI f xs) (y : Str) : NI (nameF f y) (y :: xs) := by
  unfold NI nameF at *
  by_cases hy : (gF f (dig y)).getD y = y
  · rw [if_pos hy]
    rcases h with h | h
    · refine .inl ?_
      rw [gF_put]
      split
      · simp
      · exact h
    · refine .inr fun x hx => ?_
      rw [gF_put]
      by_cases e : dig y = dig x
      · rw [if_pos e]
        rcases List.mem_cons.mp hx with rfl | hx
        · rfl
        · have := h x hx
          rw [e, this] at hy
          have hy : x = y := hy
          rw [hy]
      · rw [if_neg e]
        rcases List.mem_cons.mp hx with rfl | hx
        · exact absurd rfl e
        · exact h x hx
  · rw [if_neg hy]
    refine .inl ?_
    rw [gF_put, gF_put]
    split
    · simp
    · simp
theorem s_name2 (n : Nat) (f : FS) (x : Str) (M : List MO) (hn : n < M.length) (hl : f.length < 100000) (hx : x.length ≤ LIM) : fs__law_name [.ob n, .fz (.str x)] (M.set n (.dK (eF f))) = some (.ok (.fz (.str (dig x))), M.set n (.dK (eF (nameF f x)))) := by
  let st := fun (f : FS) (o : Option W) => (⟨[some (.ob n), some (.fz (.str x)), o], M.set n (.dK (eF f))⟩ : S)
  let tw : W := .fz (.str (dig x))
  have k1 : asgS (callF 1 fs__law_digest (aC (nm 1) aN)) (gNm 2) (st f none) = some (.ok .nx, st f (some tw)) := e_asg (e_call (e_a1 (ev_nm rfl)) rfl (s_law_digest x _ hx))
  have c : tst (op2 neO (get2 (nm 0) (nm 2) (nm 1)) (nm 1)) (st f (some tw)) = some (.ok (!(((gF f (dig x)).getD x) == x)), st f (some tw)) := by
    have hd : asD (st f (some tw)).m (.ob n) = some (eF f) := asD_set hn
    have hc : isDc (st f (some tw)).m (.ob n) = true := by unfold isDc; rw [hd]; rfl
    refine e_tst (e_op2 (e_get2 (ev_nm rfl) hc (ev_nm rfl) (ev_nm rfl) (v := .fz (.str ((gF f (dig x)).getD x))) ?_) (ev_nm rfl) neO_ss)
    unfold getO
    rw [hd]
    simp only [keyW, keyD, dget_eF, tw]
    cases gF f (dig x) <;> rfl
  let f1 : FS := if ((gF f (dig x)).getD x) = x then f else putF f "clash" (dig x)
  have lf1 : f1.length ≤ f.length + 1 := by
    show (if _ then _ else _ : FS).length ≤ _
    split
    · omega
    · exact putF_len _ _ _
  have k2 : ifS (tst (op2 neO (get2 (nm 0) (nm 2) (nm 1)) (nm 1))) (putS (nm 2) (nm 0) (ck (.str "clash"))) nxS (st f (some tw)) = some (.ok .nx, st f1 (some tw)) := by
    rw [e_if c]
    by_cases h : ((gF f (dig x)).getD x) = x
    · have e : f1 = f := if_pos h
      rw [e, h, beq_self_eq_true]
      rfl
    · have e : f1 = putF f "clash" (dig x) := if_neg h
      rw [e, beq_eq_false_iff_ne.mpr h]
      exact e_putF (M := M) (ev_nm rfl) rfl hn (by omega) (ev_nm rfl) ev_ck
  have k3 : putS (nm 1) (nm 0) (nm 2) (st f1 (some tw)) = some (.ok .nx, st (putF f1 (dig x) x) (some tw)) := e_putF (M := M) (ev_nm rfl) rfl hn (by omega) (ev_nm rfl) (ev_nm rfl)
  rw [show fs__law_name = fnD 3 fb__law_name from rfl]
  have kb : fb__law_name ⟨start0 3 [.ob n, .fz (.str x)], M.set n (.dK (eF f))⟩ = some (.ok (.rt tw), st (putF f1 (dig x) x) (some tw)) := by
    unfold fb__law_name
    show seqS _ _ (st f none) = _
    rw [ev_seq k1, ev_seq k2, ev_seq k3]
    exact e_ret (ev_nm rfl)
  unfold fnD
  rw [kb]
  have tr : trunc (M.set n (.dK (eF f))) (M.set n (.dK (eF (putF f1 (dig x) x)))) = some (M.set n (.dK (eF (putF f1 (dig x) x)))) := by
    have := trunc_set0 (M := M.set n (.dK (eF f))) (n := n) (m := .dK (eF (putF f1 (dig x) x))) rfl
    rwa [List.set_set] at this
  show ((trunc (M.set n (.dK (eF f))) (M.set n (.dK (eF (putF f1 (dig x) x))))).map fun M2 => (tw, M2)).map _ = _
  rw [tr]
  rfl
/-! ### the files of the law -/
def NM5 : List Str := ["a/o", "b/n/s.txt", "b/o.txt", "c", "k"]
structure GK (f : FS) : Prop where
  nd : (kF f).Nodup
  ok : ∀ q ∈ f, q.1 ∈ NM5 ∧ q.2.length ≤ 30
theorem GK.nil : GK [] := ⟨by simp [kF], by simp⟩
theorem GK.put {f : FS} (h : GK f) {p t : Str} (hp : p ∈ NM5) (ht : t.length ≤ 30) : GK (putF f p t) := by
  refine ⟨?_, fun q hq => ?_⟩
  · rw [kF_put]
    split
    · exact h.nd
    · rename_i hn
      exact List.nodup_append.mpr ⟨h.nd, by simp, fun a ha b hb e => by simp at hb; subst hb; subst e; exact hn ha⟩
  · unfold putF at hq
    split at hq
    · obtain ⟨z, hz, e⟩ := List.mem_map.mp hq
      split at e
      · subst e
        exact ⟨(h.ok z hz).1, ht⟩
      · subst e
        exact h.ok z hz
    · rcases List.mem_append.mp hq with hq | hq
      · exact h.ok q hq
      · simp at hq
        subst hq
        exact ⟨hp, ht⟩
theorem len_sub : ∀ {l m : List Str}, l.Nodup → (∀ x ∈ l, x ∈ m) → l.length ≤ m.length
  | [], m, _, _ => by simp
  | x :: l, m, nd, h => by
    obtain ⟨h1, h2⟩ := List.nodup_cons.mp nd
    have hx := h x List.mem_cons_self
    have := len_sub (l := l) (m := m.erase x) h2 fun y hy => by
      have hne : y ≠ x := fun e => h1 (by rw [← e]; exact hy)
      exact (List.mem_erase_of_ne hne).mpr (h y (List.mem_cons_of_mem _ hy))
    rw [List.length_erase_of_mem hx] at this
    have := List.length_pos_of_mem hx
    rw [List.length_cons]
    omega
theorem NM5_ok : ∀ p ∈ NM5, p.length ≤ 18 ∧ tl p ≠ [] ∧ 32 ∉ tl p ∧ 10 ∉ tl p := by decide
theorem GK.gf {f : FS} (h : GK f) : GF f := by
  have l5 : (kF f).length ≤ NM5.length := len_sub h.nd fun p hp => by
    obtain ⟨q, hq, rfl⟩ := List.mem_map.mp hp
    exact (h.ok q hq).1
  rw [kF_len] at l5
  exact ⟨h.nd, l5, fun q hq => ⟨(NM5_ok _ (h.ok q hq).1).1, (h.ok q hq).2⟩, fun q hq => (NM5_ok _ (h.ok q hq).1).2.1, fun q hq => (NM5_ok _ (h.ok q hq).1).2.2.1, fun q hq => (NM5_ok _ (h.ok q hq).1).2.2.2⟩
def mergeF (f g : FS) : FS := g.foldl (fun acc q => putF acc q.1 q.2) f
theorem mergeD_eF : ∀ (g f : FS), mergeD (eF f) (eF g) = eF (mergeF f g)
  | [], f => rfl
  | q :: g, f => by
    show mergeD (dput (eF f) (.inr q.1) (.str q.2)) (eF g) = _
    rw [dput_eF, mergeD_eF g]
    rfl
theorem GK.merge : ∀ {g f : FS}, GK f → (∀ q ∈ g, q.1 ∈ NM5 ∧ q.2.length ≤ 30) → GK (mergeF f g)
  | [], f, h, _ => h
  | q :: g, f, h, hg => by
    show GK (mergeF (putF f q.1 q.2) g)
    exact GK.merge (h.put (hg q List.mem_cons_self).1 (hg q List.mem_cons_self).2) fun x hx => hg x (List.mem_cons_of_mem _ hx)
theorem FD.nm5 {f : FS} (h : FD 4 f) : ∀ q ∈ f, q.1 ∈ NM5 ∧ q.2.length ≤ 30 := fun q hq => by
  obtain ⟨k, hk, e⟩ := h.mem hq
  obtain ⟨r, c, hr, hc, e2⟩ := h.vs q hq
  refine ⟨?_, by rw [e2]; have := txF_len hr hc; omega⟩
  rw [e]
  have : ∀ k : Fin 4, nmK k ∈ NM5 := by decide
  exact this ⟨k, hk⟩
/-- the text at k -/
def kT (k r : Nat) : Str := ("n" : Str) ++ repS (strI (k : Int)) (1 + r)
theorem tl_kT {k : Nat} (hk : k < 10) (r : Nat) : tl (kT k r) = 110 :: List.replicate (1 + r) (48 + k) := by
  have e1 : tl ("n" : Str) = [110] := by decide
  unfold kT
  rw [tl_app, e1]
  have e2 : tl (repS (strI (k : Int)) (1 + r)) = (List.replicate (1 + r) (tl (strI (k : Int)))).flatten := by
    unfold repS tl
    rfl
  rw [e2, tl_strI, TL.numL_lt hk]
  congr 1
  generalize 1 + r = n
  induction n with
  | zero => rfl
  | succ n ih =>
    have h2 : (List.replicate n [48 + k]).flatten = List.replicate n (48 + k) := (List.cons.inj ih).2
    rw [List.replicate_succ, List.replicate_succ, List.flatten_cons, h2]
    rfl
theorem kT_len {k r : Nat} (hk : k < 10) (hr : r < 20) : (kT k r).length ≤ 30 := by
  rw [len_tl, tl_kT hk]
  simp
  omega
theorem kT_inj {i j a b : Nat} (hi : i < 10) (hj : j < 10) (h : kT i a = kT j b) : i = j := by
  have := congrArg tl h
  rw [tl_kT hi, tl_kT hj, Nat.add_comm 1 a, Nat.add_comm 1 b, List.replicate_succ, List.replicate_succ] at this
  have := (List.cons.inj (List.cons.inj this).2).1
  omega
/-- images tell their files -/
theorem img_tells {f g : FS} (hf : GF f) (hg : GF g) (h : img f = img g) : gF f "k" = gF g "k" := by
  have h1 := s_read_image (srt f) [] hf.fok
  have h2 := s_read_image (srt g) [] hg.fok
  rw [img_srt hf.nd, h, ← img_srt hg.nd, h2] at h1
  have e : eF (srt g) = eF (srt f) := by
    injection h1 with h1
    injection h1 with h1 _
    injection h1 with h1
    injection h1 with h1
    injection h1
  have := congrArg (fun z => dget z (.inr "k")) e
  simp only [dget_eF] at this
  rw [gF_srt hg.nd, gF_srt hf.nd] at this
  cases h3 : gF g "k" with
  | none =>
    rw [h3] at this
    cases h4 : gF f "k" with
    | none => rfl
    | some y => rw [h4] at this; cases this
  | some x =>
    rw [h3] at this
    cases h4 : gF f "k" with
    | none => rw [h4] at this; cases this
    | some y =>
      rw [h4] at this
      have := D.str.inj (Option.some.inj this)
      rw [this]
end PD

noncomputable section
namespace PD
open PySem L2 PyProof.Rows
/-! ### the files of the law, one behind the other -/
def dF (f : FS) : D := .dK (eF f)
def rF (a0 : W) (o4 o5 o6 o7 o8 o9 : Option W) : List (Option W) := [some a0, some (.ob 0), some (.ob 1), some (.ob 2), o4, o5, o6, o7, o8, o9, none]
def mF (t : Tp) (fs : List FS) (mf : FS) (J : List MO) : List MO := .dK (tpD t) :: .lst (fs.map dF) :: .dK (eF mf) :: J
def bdF : Mo Fl := (seqS (asgS (iffE (andT (tst (op2 neO (nm 2) (opN lstO aN))) (tst (op2 gtO (callF 2 fs__law_take (aC (nm 1) (aC (ck (.int 3)) aN))) (ck (.int 0))))) (newO (opO dictO (aC (itemsL (op2 atO (nm 2) (negM (ck (.int 1))))) aN))) (newO dict0)) (gNm 5))
  (seqS (drpS (updM (nm 5) (callF 2 fs__law_some_files (aC (nm 1) (aC (ck (.int 4)) aN)))))
  (seqS (putS (op2 addO (ck (.str "n")) (op2 mulO (opN strO (aC (nm 4) aN)) (op2 addO (ck (.int 1)) (callF 2 fs__law_take (aC (nm 1) (aC (ck (.int 20)) aN)))))) (nm 5) (ck (.str "k")))
  (drpS (bm isLs appO (nm 2) (aC (nz 5) aN))))))
theorem e_newO {f : Mo MO} {s : S} {m : MO} (h : f s = some (.ok m, s)) : newO f s = some (.ok (.ob s.m.length), ⟨s.r, s.m ++ [m]⟩) := by
  unfold newO
  rw [ev_bnd h]
theorem some_new {a0 : W} {t : Tp} {fs : List FS} {mf : FS} {J : List MO} (hfs : ∀ f ∈ fs, GK f) (o4 o5 o6 o7 o8 o9 : Option W) :
    ∃ g t', GK g ∧ asgS (iffE (andT (tst (op2 neO (nm 2) (opN lstO aN))) (tst (op2 gtO (callF 2 fs__law_take (aC (nm 1) (aC (ck (.int 3)) aN))) (ck (.int 0))))) (newO (opO dictO (aC (itemsL (op2 atO (nm 2) (negM (ck (.int 1))))) aN))) (newO dict0)) (gNm 5) ⟨rF a0 o4 o5 o6 o7 o8 o9, mF t fs mf J⟩ =
      some (.ok .nx, ⟨rF a0 o4 (some (.ob (mF t' fs mf J).length)) o6 o7 o8 o9, mF t' fs mf J ++ [.dK (eF g)]⟩) := by
  let s : S := ⟨rF a0 o4 o5 o6 o7 o8 o9, mF t fs mf J⟩
  have hne : tst (op2 neO (nm 2) (opN lstO aN)) s = some (.ok (!decide (fs.length = 0)), s) := by
    refine e_tst (e_op2 (ev_nm (w := .ob 1) rfl) (x := .ob 1) (y := .fz (.lst [])) rfl ?_)
    show (eqT 40 (.lst (fs.map dF)) (.lst [])).map (fun k => W.fz (.bl (!k))) = _
    have : eqT 40 (.lst (fs.map dF)) (.lst []) = some (decide (fs.length = 0)) := by
      show (if (fs.map dF).length = ([] : List D).length then all2 (eqA 39) (fs.map dF) [] else some false) = _
      cases fs with
      | nil => rfl
      | cons f fs => rfl
    rw [this]
    rfl
  have mk0 : ∀ t', newO dict0 ⟨rF a0 o4 o5 o6 o7 o8 o9, mF t' fs mf J⟩ = some (.ok (.ob (mF t' fs mf J).length), ⟨rF a0 o4 o5 o6 o7 o8 o9, mF t' fs mf J ++ [.dK (eF [])]⟩) := fun t' => rfl
  by_cases h0 : fs.length = 0
  · rw [decide_eq_true h0] at hne
    have hc : andT (tst (op2 neO (nm 2) (opN lstO aN))) (tst (op2 gtO (callF 2 fs__law_take (aC (nm 1) (aC (ck (.int 3)) aN))) (ck (.int 0)))) s = some (.ok false, s) := by
      unfold andT
      rw [ev_bnd hne]
      rfl
    have hv : iffE (andT (tst (op2 neO (nm 2) (opN lstO aN))) (tst (op2 gtO (callF 2 fs__law_take (aC (nm 1) (aC (ck (.int 3)) aN))) (ck (.int 0))))) (newO (opO dictO (aC (itemsL (op2 atO (nm 2) (negM (ck (.int 1))))) aN))) (newO dict0) s = some (.ok (.ob (mF t fs mf J).length), ⟨rF a0 o4 o5 o6 o7 o8 o9, mF t fs mf J ++ [.dK (eF [])]⟩) := (x_iffE hc).trans (mk0 t)
    exact ⟨[], t, GK.nil, e_asg hv⟩
  · rw [decide_eq_false h0] at hne
    obtain ⟨r, t1, hr, ht⟩ := take0 (s := s) (i := 1) (t := t) (R := .lst (fs.map dF) :: .dK (eF mf) :: J) 3 3 (ev_nm rfl) rfl (by decide) rfl
    let s1 : S := ⟨rF a0 o4 o5 o6 o7 o8 o9, mF t1 fs mf J⟩
    have ht : callF 2 fs__law_take (aC (nm 1) (aC (ck (.int 3)) aN)) s = some (.ok (.fz (.int (r : Int))), s1) := ht
    have hc : andT (tst (op2 neO (nm 2) (opN lstO aN))) (tst (op2 gtO (callF 2 fs__law_take (aC (nm 1) (aC (ck (.int 3)) aN))) (ck (.int 0)))) s = some (.ok (decide ((0 : Int) < (r : Int))), s1) := by
      unfold andT
      rw [ev_bnd hne]
      exact x_tst (x_op2 ht (ev_ck (d := .int 0)) gtO_ii)
    by_cases hr0 : (0 : Int) < (r : Int)
    · rw [decide_eq_true hr0] at hc
      have hnil : fs ≠ [] := fun e => h0 (by rw [e]; rfl)
      let g := fs.getLast hnil
      have hg : GK g := hfs g (List.getLast_mem hnil)
      have hat : op2 atO (nm 2) (negM (ck (.int 1))) s1 = some (.ok (.fz (.dK (eF g))), s1) := by
        refine e_op2 (ev_nm (w := .ob 1) rfl) e_neg ?_
        show (L2.atI (fs.map dF) (-1)).map W.fz = _
        have : fs.map dF = (fs.dropLast.map dF) ++ [dF g] := by
          conv => lhs; rw [← List.dropLast_concat_getLast hnil, List.map_append]
          rfl
        rw [this, L2.atI_last]
        rfl
      have hi : itemsL (op2 atO (nm 2) (negM (ck (.int 1)))) s1 = some (.ok (.fz (.lst (g.map fun q => .tup [.str q.1, .str q.2]))), s1) := by
        unfold itemsL
        rw [ev_bnd hat]
        show some (Except.ok (W.fz (.lst ((eF g).map fun kv => .tup [kD kv.1, kv.2]))), s1) = _
        unfold eF
        rw [List.map_map]
        rfl
      have hn : newO (opO dictO (aC (itemsL (op2 atO (nm 2) (negM (ck (.int 1))))) aN)) s1 = some (.ok (.ob (mF t1 fs mf J).length), ⟨s1.r, mF t1 fs mf J ++ [.dK (eF g)]⟩) := e_newO (e_opO (e_a1 hi) (dictO_prs hg.nd))
      exact ⟨g, t1, hg, e_asg ((x_iffE hc).trans hn)⟩
    · rw [decide_eq_false hr0] at hc
      have hv : iffE (andT (tst (op2 neO (nm 2) (opN lstO aN))) (tst (op2 gtO (callF 2 fs__law_take (aC (nm 1) (aC (ck (.int 3)) aN))) (ck (.int 0))))) (newO (opO dictO (aC (itemsL (op2 atO (nm 2) (negM (ck (.int 1))))) aN))) (newO dict0) s = some (.ok (.ob (mF t1 fs mf J).length), ⟨rF a0 o4 o5 o6 o7 o8 o9, mF t1 fs mf J ++ [.dK (eF [])]⟩) := (x_iffE hc).trans (mk0 t1)
      exact ⟨[], t1, GK.nil, e_asg hv⟩
theorem file_step {a0 : W} {t : Tp} {fs : List FS} {mf : FS} {J : List MO} {k : Nat} (hk : k < 5) (hfs : ∀ f ∈ fs, GK f) (hl : fs.length < 100) (o4 o5 o6 o7 o8 o9 : Option W) :
    ∃ F r t' J' o5', GK F ∧ r < 20 ∧ gF F "k" = some (kT k r) ∧ bnd (gNm 4 (.fz (.int (k : Int)))) (fun _ => bdF) ⟨rF a0 o4 o5 o6 o7 o8 o9, mF t fs mf J⟩ = some (.ok .nx, ⟨rF a0 (some (.fz (.int (k : Int)))) o5' o6 o7 o8 o9, mF t' (fs ++ [F]) mf J'⟩) := by
  let kw : Option W := some (.fz (.int (k : Int)))
  obtain ⟨g, t1, hg, k1⟩ := some_new (a0 := a0) (t := t) (mf := mf) (J := J) hfs kw o5 o6 o7 o8 o9
  let M0 := fun t => mF t fs mf J
  let r5 : List (Option W) := rF a0 kw (some (.ob (M0 t1).length)) o6 o7 o8 o9
  have lM : ∀ t', (M0 t').length = (M0 t1).length := fun _ => rfl
  obtain ⟨t2, f4, hf4, hsf⟩ := some0 (s := ⟨r5, M0 t1 ++ [.dK (eF g)]⟩) (i := 1) (t := t1) (R := (.lst (fs.map dF) :: .dK (eF mf) :: J) ++ [.dK (eF g)]) (ev_nm rfl) rfl
  have hsf : callF 2 fs__law_some_files (aC (nm 1) (aC (ck (.int 4)) aN)) ⟨r5, M0 t1 ++ [.dK (eF g)]⟩ = some (.ok (.fz (.dK (eF f4))), ⟨r5, M0 t2 ++ [.dK (eF g)]⟩) := hsf
  let g2 := mergeF g f4
  have hg2 : GK g2 := hg.merge hf4.nm5
  have hlen : g.length ≤ 5 := hg.gf.len
  have hlen4 := hf4.len
  have k2 : drpS (updM (nm 5) (callF 2 fs__law_some_files (aC (nm 1) (aC (ck (.int 4)) aN)))) ⟨r5, M0 t1 ++ [.dK (eF g)]⟩ = some (.ok .nx, ⟨r5, M0 t2 ++ [.dK (eF g2)]⟩) := by
    have hd : isDc (M0 t1 ++ [.dK (eF g)]) (.ob (M0 t1).length) = true := by
      have : asD (M0 t1 ++ [.dK (eF g)]) (.ob (M0 t1).length) = some (eF g) := by
        unfold asD
        simp only [get_last]
      unfold isDc
      rw [this]
      rfl
    have cc : (fun s => ofO (if isDc s.m (.ob (M0 t1).length) = true then some () else none) s) (⟨r5, M0 t1 ++ [.dK (eF g)]⟩ : S) = some (.ok (), ⟨r5, M0 t1 ++ [.dK (eF g)]⟩) := by simp [hd]
    have hu : updO (M0 t2 ++ [.dK (eF g)]) (.ob (M0 t1).length) (.fz (.dK (eF f4))) = some (M0 t2 ++ [.dK (eF g2)]) := by
      have e1 : (M0 t2 ++ [MO.dK (eF g)])[(M0 t1).length]? = some (.dK (eF g)) := by rw [← lM t2]; exact get_last
      have e2 : (M0 t2 ++ [MO.dK (eF g)]).set (M0 t1).length (.dK (eF g2)) = M0 t2 ++ [.dK (eF g2)] := by rw [← lM t2]; exact set_last
      unfold updO
      simp only [e1, mergeD_eF]
      rw [if_pos (lim_of (m := 100) (by rw [len_eF, len_eF]; omega))]
      exact congrArg some e2
    have : updM (nm 5) (callF 2 fs__law_some_files (aC (nm 1) (aC (ck (.int 4)) aN))) ⟨r5, M0 t1 ++ [.dK (eF g)]⟩ = some (.ok (.fz .non), ⟨r5, M0 t2 ++ [.dK (eF g2)]⟩) := by
      unfold updM
      rw [ev_bnd (ev_nm (i := 5) (w := .ob (M0 t1).length) rfl), ev_bnd (f := fun s => ofO (if isDc s.m (.ob (M0 t1).length) = true then some () else none) s) cc, ev_bnd hsf]
      simp only [hu]
    exact e_drp this
  obtain ⟨r, t3, hr, ht3⟩ := take0 (s := ⟨r5, M0 t2 ++ [.dK (eF g2)]⟩) (i := 1) (t := t2) (R := (.lst (fs.map dF) :: .dK (eF mf) :: J) ++ [.dK (eF g2)]) 20 20 (ev_nm rfl) rfl (by decide) rfl
  have ht3 : callF 2 fs__law_take (aC (nm 1) (aC (ck (.int 20)) aN)) ⟨r5, M0 t2 ++ [.dK (eF g2)]⟩ = some (.ok (.fz (.int (r : Int))), ⟨r5, M0 t3 ++ [.dK (eF g2)]⟩) := ht3
  let F := putF g2 "k" (kT k r)
  have hF : GK F := hg2.put (by decide) (kT_len (by omega) hr)
  have ls : (strI (k : Int)).length ≤ 9 := strI_len (by omega)
  have k3 : putS (op2 addO (ck (.str "n")) (op2 mulO (opN strO (aC (nm 4) aN)) (op2 addO (ck (.int 1)) (callF 2 fs__law_take (aC (nm 1) (aC (ck (.int 20)) aN)))))) (nm 5) (ck (.str "k")) ⟨r5, M0 t2 ++ [.dK (eF g2)]⟩ = some (.ok .nx, ⟨r5, M0 t3 ++ [.dK (eF F)]⟩) := by
    have e1 : opN strO (aC (nm 4) aN) ⟨r5, M0 t2 ++ [.dK (eF g2)]⟩ = some (.ok (.fz (.str (strI (k : Int)))), ⟨r5, M0 t2 ++ [.dK (eF g2)]⟩) := e_opN (e_a1 (ev_nm (w := .fz (.int (k : Int))) rfl)) (strO_big (by omega))
    have e2 : op2 addO (ck (.int 1)) (callF 2 fs__law_take (aC (nm 1) (aC (ck (.int 20)) aN))) ⟨r5, M0 t2 ++ [.dK (eF g2)]⟩ = some (.ok (.fz (.int ((1 + r : Nat) : Int))), ⟨r5, M0 t3 ++ [.dK (eF g2)]⟩) := x_op2 ev_ck ht3 (by rw [addO_ii]; rfl)
    have e3 : op2 mulO (opN strO (aC (nm 4) aN)) (op2 addO (ck (.int 1)) (callF 2 fs__law_take (aC (nm 1) (aC (ck (.int 20)) aN)))) ⟨r5, M0 t2 ++ [.dK (eF g2)]⟩ = some (.ok (.fz (.str (repS (strI (k : Int)) (1 + r)))), ⟨r5, M0 t3 ++ [.dK (eF g2)]⟩) := by
      refine x_op2 e1 e2 ?_
      have e : (((1 + r : Nat) : Int)).toNat = 1 + r := by omega
      unfold mulO
      simp only [e]
      refine if_pos ⟨by omega, by omega, lim_of (m := 9 * 20) ?_⟩
      exact Nat.mul_le_mul ls (by omega)
    have hk30 := kT_len (k := k) (r := r) (by omega) hr
    have e4 : op2 addO (ck (.str "n")) (op2 mulO (opN strO (aC (nm 4) aN)) (op2 addO (ck (.int 1)) (callF 2 fs__law_take (aC (nm 1) (aC (ck (.int 20)) aN))))) ⟨r5, M0 t2 ++ [.dK (eF g2)]⟩ = some (.ok (.fz (.str (kT k r))), ⟨r5, M0 t3 ++ [.dK (eF g2)]⟩) := by
      refine x_op2 ev_ck e3 (addS ?_ rfl)
      unfold kT at hk30
      rw [app_len] at hk30
      have b1 : Str.length "n" = 1 := by decide
      omega
    unfold putS asgS
    rw [ev_bnd e4]
    have k : gSb (nm 5) (ck (.str "k")) (.fz (.str (kT k r))) ⟨r5, M0 t3 ++ [.dK (eF g2)]⟩ = some (.ok (), ⟨r5, M0 t3 ++ [.dK (eF F)]⟩) := by
      have e1 : (M0 t3 ++ [MO.dK (eF g2)])[(M0 t1).length]? = some (.dK (eF g2)) := by rw [← lM t3]; exact get_last
      have e2 : (M0 t3 ++ [MO.dK (eF g2)]).set (M0 t1).length (.dK (eF F)) = M0 t3 ++ [.dK (eF F)] := by rw [← lM t3]; exact set_last
      have l2 : g2.length ≤ 5 := hg2.gf.len
      have st : stO (M0 t3 ++ [.dK (eF g2)]) (.ob (M0 t1).length) (.fz (.str "k")) (.fz (.str (kT k r))) = some (M0 t3 ++ [.dK (eF F)]) := by
        unfold stO
        simp only [e1, keyW, keyD, dput_eF]
        rw [if_pos (show (eF g2).length < LIM by rw [len_eF]; show _ < 16777216; omega)]
        exact congrArg some e2
      unfold gSb
      rw [ev_bnd (ev_nm (i := 5) (w := .ob (M0 t1).length) rfl), ev_bnd ev_ck]
      simp only [st]
    exact (ev_bnd k).trans rfl
  refine ⟨F, r, t3, J ++ [.dead], some (.fz (.dK (eF F))), hF, hr, by show gF (putF g2 "k" (kT k r)) "k" = _; rw [gF_put, if_pos rfl], ?_⟩
  have k4 : drpS (bm isLs appO (nm 2) (aC (nz 5) aN)) ⟨r5, M0 t3 ++ [.dK (eF F)]⟩ = some (.ok .nx, ⟨rF a0 kw (some (.fz (.dK (eF F)))) o6 o7 o8 o9, mF t3 (fs ++ [F]) mf (J ++ [.dead])⟩) := by
    have e1 : (M0 t3 ++ [MO.dK (eF F)])[(M0 t1).length]? = some (.dK (eF F)) := by rw [← lM t3]; exact get_last
    have e2 : (M0 t3 ++ [MO.dK (eF F)]).set (M0 t1).length .dead = M0 t3 ++ [.dead] := by rw [← lM t3]; exact set_last
    have hz : nz 5 ⟨r5, M0 t3 ++ [.dK (eF F)]⟩ = some (.ok (.fz (.dK (eF F))), ⟨rF a0 kw (some (.fz (.dK (eF F)))) o6 o7 o8 o9, M0 t3 ++ [.dead]⟩) := by
      have h5 : r5[5]? = some (some (.ob (M0 t1).length)) := rfl
      unfold nz
      simp only [h5, e1, data, e2]
      rfl
    have hl2 : isLs (M0 t3 ++ [.dK (eF F)]) (.ob 1) = true := rfl
    have cc : (fun s => ofO (if isLs s.m (.ob 1) = true then some () else none) s) (⟨r5, M0 t3 ++ [.dK (eF F)]⟩ : S) = some (.ok (), ⟨r5, M0 t3 ++ [.dK (eF F)]⟩) := by simp [hl2]
    have hap : appO (M0 t3 ++ [.dead]) (.ob 1) [.fz (.dK (eF F))] = some (.fz .non, mF t3 (fs ++ [F]) mf (J ++ [.dead])) := by
      have e3 : (M0 t3 ++ [MO.dead])[1]? = some (.lst (fs.map dF)) := rfl
      unfold appO
      simp only [e3, addL]
      rw [if_pos (show (fs.map dF).length < LIM by rw [List.length_map]; show _ < 16777216; omega)]
      have : fs.map dF ++ [.dK (eF F)] = (fs ++ [F]).map dF := by rw [List.map_append]; rfl
      rw [this]
      rfl
    have : bm isLs appO (nm 2) (aC (nz 5) aN) ⟨r5, M0 t3 ++ [.dK (eF F)]⟩ = some (.ok (.fz .non), ⟨rF a0 kw (some (.fz (.dK (eF F)))) o6 o7 o8 o9, mF t3 (fs ++ [F]) mf (J ++ [.dead])⟩) := by
      unfold bm
      rw [ev_bnd (ev_nm (i := 2) (w := .ob 1) rfl), ev_bnd (f := fun s => ofO (if isLs s.m (.ob 1) = true then some () else none) s) cc, ev_bnd (x_a1 hz)]
      simp only [hap]
    exact e_drp this
  refine (ev_bnd (show gNm 4 (.fz (.int (k : Int))) ⟨rF a0 o4 o5 o6 o7 o8 o9, mF t fs mf J⟩ = some (.ok (), ⟨rF a0 kw o5 o6 o7 o8 o9, mF t fs mf J⟩) from rfl)).trans ?_
  unfold bdF
  rw [ev_seq k1]
  refine (ev_seq k2).trans ?_
  rw [ev_seq k3]
  exact k4
end PD

noncomputable section
namespace PD
open PySem L2 PyProof.Rows
/-! ### a comprehension by a list that may change -/
theorem cmpL_ok {α : Type} {g : W → Mo Unit} {e : Mo W} {r0 : List (Option W)} {M : List MO} {ok : List MO → Bool} {em : α → W} {ff : α → D} (hok : ok M = true) : ∀ (l : List α) (acc : List W), (∀ a ∈ l, ∃ s1, g (em a) ⟨r0, M⟩ = some (.ok (), s1) ∧ s1.m = M ∧ e s1 = some (.ok (.fz (ff a)), s1)) → acc.length + l.length ≤ LIM →
    cmpL g (ret true) (lcE e) r0 ok (l.map em) acc ⟨r0, M⟩ = some (.ok (acc ++ (l.map ff).map .fz), ⟨r0, M⟩)
  | [], acc, _, _ => by
    unfold cmpL
    simp only [List.map_nil]
    rw [if_pos hok, List.append_nil]
  | a :: l, acc, h, hl => by
    obtain ⟨s1, h1, h3, h5⟩ := h a List.mem_cons_self
    have hl' : acc.length + (l.length + 1) ≤ LIM := by simpa using hl
    rw [List.map_cons]
    unfold cmpL
    rw [if_pos hok, ev_bnd h1, ev_bnd ev_ret]
    obtain ⟨r1, m1⟩ := s1
    have h3 : m1 = M := h3
    subst h3
    have hlt : acc.length < LIM := by omega
    have hs : lcE e acc ⟨r1, m1⟩ = some (.ok (acc ++ [.fz (ff a)]), ⟨r1, m1⟩) := by
      unfold lcE
      rw [ev_bnd h5]
      simp [hlt]
    simp only [if_true]
    rw [ev_bnd hs]
    refine (cmpL_ok hok l (acc ++ [.fz (ff a)]) (fun w hw => h w (List.mem_cons_of_mem _ hw)) (by simp; omega)).trans ?_
    simp
theorem e_lcO {α : Type} {f : Mo Wk} {vs : List Nat} {g : W → Mo Unit} {e : Mo W} {s : S} {l : List α} {em : α → W} {ff : α → D} {ok : List MO → Bool} (hf : f s = some (.ok ⟨l.map em, ok⟩, s)) (hok : ok s.m = true) (hl : l.length ≤ LIM)
    (hb : ∀ a ∈ l, ∃ s1, g (em a) ⟨wipeR s.r vs, s.m⟩ = some (.ok (), s1) ∧ s1.m = s.m ∧ e s1 = some (.ok (.fz (ff a)), s1)) :
    frz (lcM f vs g (ret true) e) s = some (.ok (.fz (.lst (l.map ff))), s) := by
  have h := cmpL_ok (r0 := wipeR s.r vs) (M := s.m) hok l [] hb (by simpa using hl)
  have h2 : lcM f vs g (ret true) e s = some (.ok (.lst (l.map ff)), s) := by
    unfold lcM cmpM
    rw [ev_bnd hf]
    simp only [h, List.nil_append, mkL_fz]
  exact e_frz h2 rfl
/-! ### the names of the law -/
def bdNm : Mo Fl := (drpS (callF 2 fs__law_name (aC (nm 3) (aC (callF 1 fs__law_image (aC (frz (opO dictO (aC (frz (lcM (walk (slO (opN sortedO (aC (op2 atO (nm 2) (nm 4)) aN)) poN (poS (nm 7)))) [10] (gNm 10) (ret true) (opN tupO (aC (nm 10) (aC (op2 atO (op2 atO (nm 2) (nm 4)) (nm 10)) aN))))) aN))) aN)) aN))))
def bdNk : Mo Fl := (forS (rng1 (aC (op2 addO (opN lenO (aC (op2 atO (nm 2) (nm 4)) aN)) (ck (.int 1))) aN)) (gNm 7) bdNm)
theorem e_fl {s : S} {t : Tp} {fs : List FS} {mf : FS} {J : List MO} {k : Nat} {f : FS} {i j : Nat} (hm : s.m = mF t fs mf J) (hk : fs[k]? = some f) (h1 : nm i s = some (.ok (.ob 1), s)) (h2 : nm j s = some (.ok (.fz (.int (k : Int))), s)) : op2 atO (nm i) (nm j) s = some (.ok (.fz (.dK (eF f))), s) := by
  refine e_op2 h1 h2 ?_
  rw [hm]
  exact atO_ls (n := 1) (ds := fs.map dF) rfl (by rw [List.getElem?_map, hk]; rfl)
theorem Small.takeS {f : FS} (h : Small f) (k : Nat) : Small (f.take k) := by
  have hs : (f.take k).Sublist f := List.take_sublist k f
  refine ⟨?_, Nat.lt_of_le_of_lt hs.length_le h.few, fun q hq => h.ks q (hs.subset hq), fun q hq => h.vs q (hs.subset hq)⟩
  exact h.nd.sublist (hs.map _)
theorem nm_step {a0 : W} {t : Tp} {fs : List FS} {mf f : FS} {J : List MO} {k n : Nat} (hk : fs[k]? = some f) (gf : GF f) (hl : mf.length < 1000) (o5 o6 o7 o8 o9 : Option W) :
    bnd (gNm 7 (.fz (.int (n : Int)))) (fun _ => bdNm) ⟨rF a0 (some (.fz (.int (k : Int)))) o5 o6 o7 o8 o9, mF t fs mf J⟩ = some (.ok .nx, ⟨rF a0 (some (.fz (.int (k : Int)))) o5 o6 (some (.fz (.int (n : Int)))) o8 o9, mF t fs (nameF mf (img ((srt f).take n))) J⟩) := by
  let kw : Option W := some (.fz (.int (k : Int)))
  let nw : Option W := some (.fz (.int (n : Int)))
  let s : S := ⟨rF a0 kw o5 o6 nw o8 o9, mF t fs mf J⟩
  have sm := small_srt gf.small
  have sk := sm.takeS n
  have l5 := gf.len
  have kl := kF_len f
  have ha : ∀ s : S, s.m = mF t fs mf J → nm 2 s = some (.ok (.ob 1), s) → nm 4 s = some (.ok (.fz (.int (k : Int))), s) → op2 atO (nm 2) (nm 4) s = some (.ok (.fz (.dK (eF f))), s) := fun s hm h1 h2 => e_fl hm hk h1 h2
  have hs : slO (opN sortedO (aC (op2 atO (nm 2) (nm 4)) aN)) poN (poS (nm 7)) s = some (.ok (.fz (.lst (((sortS (kF f)).take n).map .str))), s) := by
    refine e_slTo (e_opN (e_a1 (ha s rfl (ev_nm rfl) (ev_nm rfl))) (z := .fz (.lst ((sortS (kF f)).map .str))) ?_) (ev_nm (w := .fz (.int (n : Int))) rfl) ?_
    · rw [sortedO_eF, if_pos (by omega)]
    · show some (W.fz (.lst (cutD ((sortS (kF f)).map D.str) none (some (n : Int))))) = _
      rw [cutD_to, List.map_take]
  have hc := e_lcA (f := walk (slO (opN sortedO (aC (op2 atO (nm 2) (nm 4)) aN)) poN (poS (nm 7)))) (vs := [10]) (g := gNm 10) (e := opN tupO (aC (nm 10) (aC (op2 atO (op2 atO (nm 2) (nm 4)) (nm 10)) aN))) (s := s) (l := (srt f).take n) (em := fun q => .fz (.str q.1)) (ff := fun q => .tup [.str q.1, .str q.2])
    (e_walk hs (by rw [walkV_lst]; unfold srt; rw [← List.map_take, List.map_map, List.map_map]; rfl)) (lim_of (m := 5) (by rw [List.length_take, len_srt]; omega)) (fun q hq => by
      have hq : q ∈ srt f := (List.take_sublist n (srt f)).subset hq
      let s1 : S := ⟨s.r.set 10 (some (.fz (.str q.1))), s.m⟩
      refine ⟨s1, rfl, rfl, e_opN (e_a2 (ev_nm (w := .fz (.str q.1)) rfl) (e_op2 (ha s1 rfl (ev_nm rfl) (ev_nm rfl)) (ev_nm (w := .fz (.str q.1)) rfl) (z := .fz (.str q.2)) ?_)) tup2⟩
      have e := gF_of sm.nd hq
      rw [gF_srt gf.nd] at e
      rw [atO_dS, dget_eF, e]
      rfl)
  have hd : frz (opO dictO (aC (frz (lcM (walk (slO (opN sortedO (aC (op2 atO (nm 2) (nm 4)) aN)) poN (poS (nm 7)))) [10] (gNm 10) (ret true) (opN tupO (aC (nm 10) (aC (op2 atO (op2 atO (nm 2) (nm 4)) (nm 10)) aN))))) aN)) s = some (.ok (.fz (.dK (eF ((srt f).take n)))), s) := e_frz (e_opO (e_a1 hc) (dictO_prs sk.nd)) rfl
  have li := img_small sk
  have hi : callF 1 fs__law_image (aC (frz (opO dictO (aC (frz (lcM (walk (slO (opN sortedO (aC (op2 atO (nm 2) (nm 4)) aN)) poN (poS (nm 7)))) [10] (gNm 10) (ret true) (opN tupO (aC (nm 10) (aC (op2 atO (op2 atO (nm 2) (nm 4)) (nm 10)) aN))))) aN))) aN) s = some (.ok (.fz (.str (img ((srt f).take n)))), s) := e_call (e_a1 hd) rfl (s_law_image ((srt f).take n) _ (by rw [kF_len]; exact sk.few) (lim_of (m := 20000) li))
  have h2 := s_name2 2 mf (img ((srt f).take n)) (mF t fs mf J) (by show 2 < J.length + 3; omega) (by omega) (lim_of (m := 20000) li)
  have h2 : fs__law_name [.ob 2, .fz (.str (img ((srt f).take n)))] (mF t fs mf J) = some (.ok (.fz (.str (dig (img ((srt f).take n))))), mF t fs (nameF mf (img ((srt f).take n))) J) := h2
  rw [ev_bnd (show gNm 7 (.fz (.int (n : Int))) (⟨rF a0 kw o5 o6 o7 o8 o9, mF t fs mf J⟩ : S) = some (.ok (), s) from rfl)]
  exact e_drp (x := .fz (.str (dig (img ((srt f).take n))))) (x_call (s1 := s) (e_a2 (ev_nm (w := .ob 2) rfl) hi) rfl h2)
theorem rng_at {n i : Nat} {w : W} (h : (rngV 0 ((n : Nat) : Int))[i]? = some w) : i < n ∧ w = .fz (.int (i : Int)) := by
  have hi : i < n := by
    have := (List.getElem?_eq_some_iff.mp h).1
    simpa [rngV] using this
  refine ⟨hi, ?_⟩
  unfold rngV at h
  rw [List.getElem?_map] at h
  obtain ⟨j, hj, e⟩ := Option.map_eq_some_iff.mp h
  rw [List.getElem?_range (by simpa using hi)] at hj
  cases hj
  rw [← e]
  simp
theorem rng_len (n : Nat) : (rngV 0 ((n : Nat) : Int)).length = n := by simp [rngV]
theorem nk_step {a0 : W} {t : Tp} {fs : List FS} {mf f : FS} {J : List MO} {k : Nat} {xs : List Str} (hk : fs[k]? = some f) (gf : GF f) (hl : mf.length < 800) (hn : NI mf xs) (o4 o5 o6 o7 o8 o9 : Option W) :
    ∃ mf' xs' o7', NI mf' xs' ∧ (∀ x ∈ xs, x ∈ xs') ∧ img f ∈ xs' ∧ mf'.length ≤ mf.length + 12 ∧ bnd (gNm 4 (.fz (.int (k : Int)))) (fun _ => bdNk) ⟨rF a0 o4 o5 o6 o7 o8 o9, mF t fs mf J⟩ = some (.ok .nx, ⟨rF a0 (some (.fz (.int (k : Int)))) o5 o6 o7' o8 o9, mF t fs mf' J⟩) := by
  let kw : Option W := some (.fz (.int (k : Int)))
  let s : S := ⟨rF a0 kw o5 o6 o7 o8 o9, mF t fs mf J⟩
  have l5 := gf.len
  obtain ⟨s2, h3, h4, mf2, xs2, o7', h5, h6, h7, h8, h9⟩ := forL_ind (g := gNm 7) (b := bdNm) (ok := fun _ => true)
    (fun i s => i ≤ f.length + 1 ∧ ∃ (m : FS) (ys : List Str) (o : Option W), NI m ys ∧ (∀ x ∈ xs, x ∈ ys) ∧ (∀ j, j < i → img ((srt f).take j) ∈ ys) ∧ m.length ≤ mf.length + 2 * i ∧ s = ⟨rF a0 kw o5 o6 o o8 o9, mF t fs m J⟩) (rngV 0 ((f.length + 1 : Nat) : Int)) 0 s
    (fun i w s hw ⟨hi, m, ys, o, q1, q2, q3, hm, hs⟩ => by
      subst hs
      obtain ⟨hi, rfl⟩ := rng_at hw
      have l2 := nm_step (a0 := a0) (t := t) (J := J) (n := i) hk gf (mf := m) (by omega) o5 o6 o o8 o9
      have l3 := nameF_len m (img ((srt f).take i))
      refine ⟨rfl, _, .inl l2, by omega, _, img ((srt f).take i) :: ys, _, q1.step _, fun x hx => List.mem_cons_of_mem _ (q2 x hx), fun j hj => ?_, by omega, rfl⟩
      by_cases e : j = i
      · subst e; exact List.mem_cons_self
      · exact List.mem_cons_of_mem _ (q3 j (by omega)))
    (fun _ _ => rfl) ⟨by omega, mf, xs, o7, hn, fun x hx => hx, fun j hj => by omega, by omega, rfl⟩
  rw [rng_len] at h4 h7 h8
  subst h9
  refine ⟨mf2, xs2, o7', h5, h6, ?_, by omega, ?_⟩
  · have := h7 f.length (by omega)
    rw [List.take_of_length_le (by rw [len_srt]; omega), img_srt gf.nd] at this
    exact this
  · rw [ev_bnd (show gNm 4 (.fz (.int (k : Int))) (⟨rF a0 o4 o5 o6 o7 o8 o9, mF t fs mf J⟩ : S) = some (.ok (), s) from rfl)]
    unfold bdNk
    have hr : rng1 (aC (op2 addO (opN lenO (aC (op2 atO (nm 2) (nm 4)) aN)) (ck (.int 1))) aN) s = some (.ok (Wk.of (rngV 0 ((f.length + 1 : Nat) : Int))), s) :=
      ev_rng1 (e_a1 (e_op2 (e_opN (e_a1 (e_fl (s := s) rfl hk (ev_nm rfl) (ev_nm rfl))) (by show lenO _ [.fz (.dK (eF f))] = _; rw [lenO_dK, len_eF])) ev_ck rfl)) (by omega)
    rw [ev_for hr]
    exact h3
end PD

noncomputable section
namespace PD
open PySem L2 PyProof.Rows
/-! ### the checks of the law -/
theorem chain_app : ∀ (r : List PT) (x : Str) (q : List PT), Chain x r → Chain (lastB x r) q → Chain x (r ++ q) ∧ lastB x (r ++ q) = lastB (lastB x r) q
  | [], _, _, _, h => ⟨h, rfl⟩
  | p :: r, x, q, ⟨h1, h2, h3⟩, h => by
    obtain ⟨a, b⟩ := chain_app r p.b q h3 h
    exact ⟨⟨h1, h2, a⟩, b⟩
section
variable {Fs : Nat → FS} {Ps : Nat → PT} {a0 : W} {M : List MO}
def imW (Fs : Nat → FS) : W := .fz (.lst ((IM Fs).map .str))
def sV (a0 : W) (M : List MO) (Fs : Nat → FS) (Ps : Nat → PT) (o4 o5 o7 o9 : Option W) : S := ⟨rF a0 o4 o5 (some (imW Fs)) o7 (some (.fz (rowD (PR Ps)))) o9, M⟩
theorem e_ix {s : S} {i j : Nat} {e : Mo W} {z : Int} (hj : j < 5) (h6 : nm i s = some (.ok (imW Fs), s)) (hz : z = (j : Int)) (he : e s = some (.ok (.fz (.int z)), s)) : op2 atO (nm i) e s = some (.ok (.fz (.str (img (Fs j)))), s) := by
  subst hz
  refine e_op2 h6 he ?_
  show (L2.atI ((IM Fs).map D.str) (j : Int)).map W.fz = _
  rw [L2.atI_nat (v := D.str (img (Fs j))) (by rw [List.getElem?_map, IM_at hj]; rfl)]
  rfl
theorem PR_at {j : Nat} (hj : j < 4) : (PR Ps)[j]? = some (Ps j) := by
  unfold PR
  rw [List.getElem?_map, List.getElem?_range hj]
  rfl
theorem e_px {s : S} {i j : Nat} {e : Mo W} (hj : j < 4) (h8 : nm i s = some (.ok (.fz (rowD (PR Ps))), s)) (he : e s = some (.ok (.fz (.int (j : Int))), s)) : op2 atO (nm i) e s = some (.ok (.fz (Ps j).d), s) := by
  refine e_op2 h8 he ?_
  show (L2.atI ((PR Ps).map PT.d) (j : Int)).map W.fz = _
  rw [L2.atI_nat (v := (Ps j).d) (by rw [List.getElem?_map, PR_at hj]; rfl)]
  rfl
theorem eqO_bb {a b : Bool} : eqO M (.fz (.bl a)) (.fz (.bl b)) = some (.fz (.bl (a == b))) := by cases a <;> cases b <;> rfl
theorem isO_non : isO M (.fz .non) (.fz .non) = some (.fz (.bl true)) := rfl
theorem isO_str {x : Str} : isO M (.fz (.str x)) (.fz .non) = some (.fz (.bl false)) := rfl
def bdIn9 : Mo Fl := (ifS (tst (op2 eqO (op2 isO (callF 2 fs__law_patched (aC (op2 atO (nm 6) (nm 7)) (aC (opN lstO (aC (op2 atO (nm 8) (nm 4)) aN)) aN))) (ck .non)) (op2 eqO (nm 7) (nm 4)))) (retS (ck (.bl false))) nxS)
def bdCk : Mo Fl := (seqS (ifS (orT (tst (op2 gtO (callF 1 fs_patch_size (aC (op2 atO (nm 8) (nm 4)) aN)) (opN lenO (aC (op2 atO (nm 6) (op2 addO (nm 4) (ck (.int 1)))) aN)))) (tst (op2 neO (callX 2 fs_patched (aC (op2 atO (nm 6) (nm 4)) (aC (op2 atO (nm 8) (nm 4)) aN))) (op2 atO (nm 6) (op2 addO (nm 4) (ck (.int 1))))))) (retS (ck (.bl false))) nxS)
    (forS (rng1 (aC (ck (.int 5)) aN)) (gNm 7) bdIn9))
variable (wd : Wd Fs Ps) (dj : ∀ i j, i < 5 → j < 5 → dig (img (Fs i)) = dig (img (Fs j)) → i = j)
include wd dj
theorem in9_step {k n : Nat} (hk : k < 4) (hn : n < 5) (o5 o7 o9 : Option W) : bnd (gNm 7 (.fz (.int (n : Int)))) (fun _ => bdIn9) (sV a0 M Fs Ps (some (.fz (.int (k : Int)))) o5 o7 o9) = some (.ok .nx, sV a0 M Fs Ps (some (.fz (.int (k : Int)))) o5 (some (.fz (.int (n : Int)))) o9) := by
  let s := sV a0 M Fs Ps (some (.fz (.int (k : Int)))) o5 (some (.fz (.int (n : Int)))) o9
  rw [ev_bnd (show gNm 7 (.fz (.int (n : Int))) (sV a0 M Fs Ps (some (.fz (.int (k : Int)))) o5 o7 o9) = some (.ok (), s) from rfl)]
  have h4 : nm 4 s = some (.ok (.fz (.int (k : Int))), s) := ev_nm rfl
  have h7 : nm 7 s = some (.ok (.fz (.int (n : Int))), s) := ev_nm rfl
  have ka : aC (op2 atO (nm 6) (nm 7)) (aC (opN lstO (aC (op2 atO (nm 8) (nm 4)) aN)) aN) s = some (.ok [.fz (.str (img (Fs n))), .fz (rowD [Ps k])], s) :=
    e_a2 (e_ix hn (ev_nm rfl) rfl h7) (e_opN (e_a1 (e_px hk (ev_nm rfl) h4)) lstO_one)
  have h74 : op2 eqO (nm 7) (nm 4) s = some (.ok (.fz (.bl ((n : Int) == (k : Int)))), s) := e_op2 h7 h4 eqO_ii
  have c : tst (op2 eqO (op2 isO (callF 2 fs__law_patched (aC (op2 atO (nm 6) (nm 7)) (aC (opN lstO (aC (op2 atO (nm 8) (nm 4)) aN)) aN))) (ck .non)) (op2 eqO (nm 7) (nm 4))) s = some (.ok false, s) := by
    by_cases e : n = k
    · subst e
      have hc : Chain (img (Fs n)) [Ps n] := ⟨wd.pa n hk, wd.ok n hk, trivial⟩
      refine e_tst (e_op2 (e_op2 (e_call ka rfl (s_law_patched_ok hc)) ev_ck isO_str) h74 ?_)
      rw [eqO_bb, beq_self_eq_true]
      rfl
    · have hne : dig (img (Fs n)) ≠ dig (Ps k).a := fun z => e (dj n k hn (by omega) (by rw [z, wd.pa k hk]))
      refine e_tst (e_op2 (e_op2 (e_call ka rfl (s_law_patched_no (wd.im_len hn) hne)) ev_ck isO_non) h74 ?_)
      have h2 : ((n : Int) == (k : Int)) = false := beq_eq_false_iff_ne.mpr fun z => e (Int.ofNat.inj z)
      rw [eqO_bb, h2]
      rfl
  unfold bdIn9
  rw [e_if c]
  rfl
theorem ck_step {k : Nat} (hk : k < 4) (o4 o5 o7 o9 : Option W) : ∃ o7', bnd (gNm 4 (.fz (.int (k : Int)))) (fun _ => bdCk) (sV a0 M Fs Ps o4 o5 o7 o9) = some (.ok .nx, sV a0 M Fs Ps (some (.fz (.int (k : Int)))) o5 o7' o9) := by
  let kw : Option W := some (.fz (.int (k : Int)))
  let s := sV a0 M Fs Ps kw o5 o7 o9
  obtain ⟨s2, h3, o7', h4⟩ := forL_ind (g := gNm 7) (b := bdIn9) (ok := fun _ => true)
    (fun i s => ∃ o, s = sV a0 M Fs Ps kw o5 o o9) (rngV 0 ((5 : Nat) : Int)) 0 s
    (fun i w s hw ⟨o, hs⟩ => by
      subst hs
      obtain ⟨hi, rfl⟩ := rng_at hw
      exact ⟨rfl, _, .inl (in9_step wd dj hk hi o5 o o9), _, rfl⟩)
    (fun _ _ => rfl) ⟨o7, rfl⟩
  subst h4
  refine ⟨o7', ?_⟩
  rw [ev_bnd (show gNm 4 (.fz (.int (k : Int))) (sV a0 M Fs Ps o4 o5 o7 o9) = some (.ok (), s) from rfl)]
  have h4 : nm 4 s = some (.ok (.fz (.int (k : Int))), s) := ev_nm rfl
  have hp : op2 atO (nm 8) (nm 4) s = some (.ok (.fz (Ps k).d), s) := e_px hk (ev_nm rfl) h4
  have hi : op2 atO (nm 6) (nm 4) s = some (.ok (.fz (.str (img (Fs k)))), s) := e_ix (by omega) (ev_nm rfl) rfl h4
  have h41 : op2 addO (nm 4) (ck (.int 1)) s = some (.ok (.fz (.int ((k : Int) + 1))), s) := e_op2 h4 ev_ck rfl
  have hj : op2 atO (nm 6) (op2 addO (nm 4) (ck (.int 1))) s = some (.ok (.fz (.str (img (Fs (k + 1))))), s) := e_ix (by omega) (ev_nm rfl) (by omega) h41
  have ok := wd.ok k hk
  have hle := sizes_le (Ps k).ps ok.ps
  rw [ok.cat, ← len_tl, wd.pb k hk] at hle
  have hjl := wd.im_len (show k + 1 < 5 by omega)
  have c1 : tst (op2 gtO (callF 1 fs_patch_size (aC (op2 atO (nm 8) (nm 4)) aN)) (opN lenO (aC (op2 atO (nm 6) (op2 addO (nm 4) (ck (.int 1)))) aN))) s = some (.ok false, s) := by
    refine e_tst (e_op2 (e_call (e_a1 hp) rfl (s_patch_size ok)) (e_opN (e_a1 hj) (z := .fz (.int ((img (Fs (k + 1))).length : Int))) (by rw [lenO_str, if_pos (lim_of (m := 20000) hjl)])) ?_)
    rw [gtO_ii, decide_eq_false (by omega)]
  have hpa : fs_patched [.fz (.str (img (Fs k))), .fz (Ps k).d] s.m = some (.ok (.fz (.str (img (Fs (k + 1))))), s.m) := by
    have := s_patched_ok (M := s.m) ok
    rwa [wd.pa k hk, wd.pb k hk] at this
  have c2 : tst (op2 neO (callX 2 fs_patched (aC (op2 atO (nm 6) (nm 4)) (aC (op2 atO (nm 8) (nm 4)) aN))) (op2 atO (nm 6) (op2 addO (nm 4) (ck (.int 1))))) s = some (.ok false, s) := by
    refine e_tst (e_op2 (callX_ok (e_a2 hi hp) rfl hpa) hj ?_)
    rw [neO_ss, beq_self_eq_true]
    rfl
  have k1 : ifS (orT (tst (op2 gtO (callF 1 fs_patch_size (aC (op2 atO (nm 8) (nm 4)) aN)) (opN lenO (aC (op2 atO (nm 6) (op2 addO (nm 4) (ck (.int 1)))) aN)))) (tst (op2 neO (callX 2 fs_patched (aC (op2 atO (nm 6) (nm 4)) (aC (op2 atO (nm 8) (nm 4)) aN))) (op2 atO (nm 6) (op2 addO (nm 4) (ck (.int 1))))))) (retS (ck (.bl false))) nxS s = some (.ok .nx, s) := by
    rw [e_if (e_or c1 fun _ => c2)]
    rfl
  unfold bdCk
  rw [ev_seq k1]
  have kr : rng1 (aC (ck (.int 5)) aN) s = some (.ok (Wk.of (rngV 0 ((5 : Nat) : Int))), s) := ev_rng1 (e_a1 ev_ck) (by decide)
  rw [ev_for kr]
  exact h3
/-- the rows as wholes -/
def bdRow : Mo Fl := (ifS (orT (tst (op2 isNotO (callF 2 fs__law_patched (aC (op2 atO (nm 6) (ck (.int 0))) (aC (revO (nm 8)) aN))) (ck .non))) (orT (tst (op2 isNotO (callF 2 fs__law_patched (aC (op2 atO (nm 6) (ck (.int 0))) (aC (slO (nm 8) (poS (ck (.int 1))) poN) aN))) (ck .non))) (tst (op2 neO (callF 2 fs__law_patched (aC (op2 atO (nm 6) (ck (.int 0))) (aC (nm 8) aN))) (op2 atO (nm 6) (ck (.int 4))))))) (retS (ck (.bl false))) nxS)
theorem chain4 : Chain (img (Fs 0)) (PR Ps) ∧ lastB (img (Fs 0)) (PR Ps) = img (Fs 4) := by
  have := wd.chain 4 0 (by omega)
  rwa [show (List.range' 0 4).map Ps = PR Ps from rfl] at this
theorem row_step (o4 o5 o7 o9 : Option W) : bdRow (sV a0 M Fs Ps o4 o5 o7 o9) = some (.ok .nx, sV a0 M Fs Ps o4 o5 o7 o9) := by
  let s := sV a0 M Fs Ps o4 o5 o7 o9
  have h0 : op2 atO (nm 6) (ck (.int 0)) s = some (.ok (.fz (.str (img (Fs 0)))), s) := e_ix (by omega) (ev_nm rfl) rfl ev_ck
  have h4 : op2 atO (nm 6) (ck (.int 4)) s = some (.ok (.fz (.str (img (Fs 4)))), s) := e_ix (by omega) (ev_nm rfl) rfl ev_ck
  have h8 : nm 8 s = some (.ok (.fz (rowD (PR Ps))), s) := ev_nm rfl
  have ne : ∀ k, 0 < k → k < 4 → dig (img (Fs 0)) ≠ dig (Ps k).a := fun k hk h z => by
    have := dj 0 k (by omega) (by omega) (by rw [z, wd.pa k h])
    omega
  have hr : revO (nm 8) s = some (.ok (.fz (rowD [Ps 3, Ps 2, Ps 1, Ps 0])), s) := by
    unfold revO
    rw [ev_bnd h8]
    rfl
  have hs : slO (nm 8) (poS (ck (.int 1))) poN s = some (.ok (.fz (rowD [Ps 1, Ps 2, Ps 3])), s) := e_slFrom h8 ev_ck rfl
  have c1 : tst (op2 isNotO (callF 2 fs__law_patched (aC (op2 atO (nm 6) (ck (.int 0))) (aC (revO (nm 8)) aN))) (ck .non)) s = some (.ok false, s) :=
    e_tst (e_op2 (e_call (e_a2 h0 hr) rfl (s_law_patched_no (wd.im_len (by omega)) (ne 3 (by omega) (by omega)))) ev_ck rfl)
  have c2 : tst (op2 isNotO (callF 2 fs__law_patched (aC (op2 atO (nm 6) (ck (.int 0))) (aC (slO (nm 8) (poS (ck (.int 1))) poN) aN))) (ck .non)) s = some (.ok false, s) :=
    e_tst (e_op2 (e_call (e_a2 h0 hs) rfl (s_law_patched_no (wd.im_len (by omega)) (ne 1 (by omega) (by omega)))) ev_ck rfl)
  obtain ⟨ch, cl⟩ := chain4 wd dj
  have c3 : tst (op2 neO (callF 2 fs__law_patched (aC (op2 atO (nm 6) (ck (.int 0))) (aC (nm 8) aN))) (op2 atO (nm 6) (ck (.int 4)))) s = some (.ok false, s) := by
    refine e_tst (e_op2 (e_call (e_a2 h0 h8) rfl (s_law_patched_ok ch)) h4 ?_)
    rw [cl, neO_ss, beq_self_eq_true]
    rfl
  unfold bdRow
  rw [e_if (e_or c1 fun _ => e_or c2 fun _ => c3)]
  rfl
def bdBack : Mo Fl := (ifS (tst (op2 neO (callF 2 fs__law_patched (aC (op2 atO (nm 6) (ck (.int 0))) (aC (op2 addO (op2 addO (nm 8) (opN lstO (aC (nm 9) aN))) (nm 8)) aN))) (op2 atO (nm 6) (ck (.int 4))))) (retS (ck (.bl false))) nxS)
theorem back9_step (o4 o5 o7 : Option W) {B : PT} (ha : B.a = img (Fs 4)) (hb : B.b = img (Fs 0)) (ok : B.Ok) : bdBack (sV a0 M Fs Ps o4 o5 o7 (some (.fz B.d))) = some (.ok .nx, sV a0 M Fs Ps o4 o5 o7 (some (.fz B.d))) := by
  let s := sV a0 M Fs Ps o4 o5 o7 (some (.fz B.d))
  have h0 : op2 atO (nm 6) (ck (.int 0)) s = some (.ok (.fz (.str (img (Fs 0)))), s) := e_ix (by omega) (ev_nm rfl) rfl ev_ck
  have h4 : op2 atO (nm 6) (ck (.int 4)) s = some (.ok (.fz (.str (img (Fs 4)))), s) := e_ix (by omega) (ev_nm rfl) rfl ev_ck
  have h8 : nm 8 s = some (.ok (.fz (rowD (PR Ps))), s) := ev_nm rfl
  have hB : opN lstO (aC (nm 9) aN) s = some (.ok (.fz (rowD [B])), s) := e_opN (e_a1 (ev_nm (w := .fz B.d) rfl)) lstO_one
  have cat : ∀ a b : List PT, a.length + b.length ≤ 100 → addO s.m (.fz (rowD a)) (.fz (rowD b)) = some (.fz (rowD (a ++ b))) := fun a b h => by
    show (if (a.map PT.d).length + (b.map PT.d).length ≤ LIM then some (W.fz (.lst (a.map PT.d ++ b.map PT.d))) else none) = _
    rw [if_pos (lim_of (m := 100) (by rw [List.length_map, List.length_map]; exact h))]
    unfold rowD
    rw [List.map_append]
  have lp : (PR Ps).length = 4 := by simp [PR]
  have hrow : op2 addO (op2 addO (nm 8) (opN lstO (aC (nm 9) aN))) (nm 8) s = some (.ok (.fz (rowD ((PR Ps ++ [B]) ++ PR Ps))), s) :=
    e_op2 (e_op2 h8 hB (cat _ _ (by rw [lp, List.length_singleton]; omega))) h8 (cat _ _ (by rw [List.length_append, lp, List.length_singleton]; omega))
  obtain ⟨ch, cl⟩ := chain4 wd dj
  obtain ⟨a1, a2⟩ := chain_app (PR Ps) (img (Fs 0)) [B] ch ⟨by rw [ha, cl], ok, trivial⟩
  have a2 : lastB (img (Fs 0)) (PR Ps ++ [B]) = img (Fs 0) := by rw [a2]; exact hb
  obtain ⟨b1, b2⟩ := chain_app (PR Ps ++ [B]) (img (Fs 0)) (PR Ps) a1 (by rw [a2]; exact ch)
  rw [a2, cl] at b2
  have c3 : tst (op2 neO (callF 2 fs__law_patched (aC (op2 atO (nm 6) (ck (.int 0))) (aC (op2 addO (op2 addO (nm 8) (opN lstO (aC (nm 9) aN))) (nm 8)) aN))) (op2 atO (nm 6) (ck (.int 4)))) s = some (.ok false, s) := by
    refine e_tst (e_op2 (e_call (e_a2 h0 hrow) rfl (s_law_patched_ok b1)) h4 ?_)
    rw [b2, neO_ss, beq_self_eq_true]
    rfl
  unfold bdBack
  rw [e_if c3]
  rfl
end
/-! ### three machines -/
theorem mach_one {e : Mo W} {r0 : List (Option W)} {w : W} {ws acc : List W} {t : Tp} {R : List MO} (h : ∀ t, ∃ t', e ⟨r0.set 4 (some w), .dK (tpD t) :: R⟩ = some (.ok (.fz (.bl true)), ⟨r0.set 4 (some w), .dK (tpD t') :: R⟩)) (hl : acc.length < 1000) : ∃ t', cmpL (gNm 4) (ret true) (lcE e) r0 (fun _ => true) (w :: ws) acc ⟨r0, .dK (tpD t) :: R⟩ = cmpL (gNm 4) (ret true) (lcE e) r0 (fun _ => true) ws (acc ++ [.fz (.bl true)]) ⟨r0, .dK (tpD t') :: R⟩ := by
  let s1 : S := ⟨r0.set 4 (some w), .dK (tpD t) :: R⟩
  obtain ⟨t', h⟩ := h t
  refine ⟨t', ?_⟩
  have g1 : gNm 4 w ⟨r0, .dK (tpD t) :: R⟩ = some (.ok (), s1) := rfl
  conv => lhs; unfold cmpL
  simp only [if_true]
  rw [ev_bnd g1, ev_bnd ev_ret]
  have hs : lcE e acc s1 = some (.ok (acc ++ [.fz (.bl true)]), ⟨s1.r, .dK (tpD t') :: R⟩) := by
    unfold lcE
    rw [ev_bnd h, if_pos (show acc.length < LIM from Nat.lt_trans hl (by decide))]
    rfl
  simp only [if_true]
  rw [ev_bnd hs]
theorem mach_three {e : Mo W} {r : List (Option W)} {t : Tp} {R : List MO} (h : ∀ w t, ∃ t', e ⟨(wipeR r [4]).set 4 (some w), .dK (tpD t) :: R⟩ = some (.ok (.fz (.bl true)), ⟨(wipeR r [4]).set 4 (some w), .dK (tpD t') :: R⟩)) : ∃ t', opN allO (aC (frz (lcM (rng1 (aC (ck (.int 3)) aN)) [4] (gNm 4) (ret true) e)) aN) ⟨r, .dK (tpD t) :: R⟩ = some (.ok (.fz (.bl true)), ⟨r, .dK (tpD t') :: R⟩) := by
  have kr : rng1 (aC (ck (.int 3)) aN) ⟨r, .dK (tpD t) :: R⟩ = some (.ok (Wk.of (rngV 0 ((3 : Nat) : Int))), ⟨r, .dK (tpD t) :: R⟩) := ev_rng1 (e_a1 ev_ck) (by decide)
  let b : W := .fz (.bl true)
  obtain ⟨t1, e0⟩ := mach_one (w := .fz (.int 0)) (ws := [.fz (.int 1), .fz (.int 2)]) (acc := []) (t := t) (R := R) (h _) (by decide)
  obtain ⟨t2, e1⟩ := mach_one (w := .fz (.int 1)) (ws := [.fz (.int 2)]) (acc := [b]) (t := t1) (R := R) (h _) (by simp)
  obtain ⟨t3, e2⟩ := mach_one (w := .fz (.int 2)) (ws := []) (acc := [b, b]) (t := t2) (R := R) (h _) (by simp)
  have hk : cmpL (gNm 4) (ret true) (lcE e) (wipeR r [4]) (fun _ => true) [.fz (.int 0), .fz (.int 1), .fz (.int 2)] [] ⟨wipeR r [4], .dK (tpD t) :: R⟩ = some (.ok [b, b, b], ⟨wipeR r [4], .dK (tpD t3) :: R⟩) := by
    rw [e0]
    refine Eq.trans ?_ (e1.trans (e2.trans ?_))
    · rfl
    · rfl
  have hm : lcM (rng1 (aC (ck (.int 3)) aN)) [4] (gNm 4) (ret true) e ⟨r, .dK (tpD t) :: R⟩ = some (.ok (.lst [.bl true, .bl true, .bl true]), ⟨r, .dK (tpD t3) :: R⟩) := by
    unfold lcM cmpM
    rw [ev_bnd kr]
    have ew : (Wk.of (rngV 0 ((3 : Nat) : Int))).ws = [.fz (.int 0), .fz (.int 1), .fz (.int 2)] := rfl
    have eo : (Wk.of (rngV 0 ((3 : Nat) : Int))).ok = fun _ => true := rfl
    simp only [ew, eo, hk]
    rfl
  exact ⟨t3, x_opN (x_a1 (x_frz hm rfl)) rfl⟩
end PD

noncomputable section
namespace PD
open PySem L2 PyProof.Rows
theorem law_true (ns : List Int) (hns : ns.length ≤ 63) : ∃ M', fs_law [.fz (.sl (ns.map .int))] [] = some (.ok (.fz (.bl true)), M') := by
  refine ⟨[], ?_⟩
  rw [show fs_law = fnD 11 fb_law from rfl]
  let a0 : W := .fz (.sl (ns.map .int))
  obtain ⟨t0, ht0⟩ := s_law_tape ns [] hns
  let z : Option W := none
  let sA : S := ⟨start0 11 [a0], []⟩
  let rB : List (Option W) := [some a0, some (.ob 0), z, z, z, z, z, z, z, z, z]
  have k1 : asgS (callF 1 fs__law_tape (aC (nm 0) aN)) (gNm 1) sA = some (.ok .nx, ⟨rB, [.dK (tpD t0)]⟩) := e_asg (x_call (s1 := sA) (z := .ob 0) (M := [.dK (tpD t0)]) (e_a1 (ev_nm (w := a0) rfl)) rfl ht0)
  have k2 : parG 2 (aC (lstM aN) (aC (newO dict0) aN)) (gCn (gNm 2) (gCn (gNm 3) gNl)) ⟨rB, [.dK (tpD t0)]⟩ = some (.ok .nx, ⟨rF a0 z z z z z z, mF t0 [] [] []⟩) := by
    have h1 : lstM aN ⟨rB, [.dK (tpD t0)]⟩ = some (.ok (.ob 1), ⟨rB, [.dK (tpD t0), .lst []]⟩) := rfl
    have h2 : newO dict0 ⟨rB, [.dK (tpD t0), .lst []]⟩ = some (.ok (.ob 2), ⟨rB, [.dK (tpD t0), .lst [], .dK []]⟩) := rfl
    have ka : aC (lstM aN) (aC (newO dict0) aN) ⟨rB, [.dK (tpD t0)]⟩ = some (.ok [.ob 1, .ob 2], ⟨rB, [.dK (tpD t0), .lst [], .dK []]⟩) := x_a2 h1 h2
    unfold parG
    rw [ev_bnd ka, if_pos ⟨rfl, (by decide : (2 : Nat) ≤ LIM)⟩]
    rfl
  -- files
  obtain ⟨s3, h3, fs, t1, J, o4, o5, hfl, hgk, hkk, e3⟩ := forL_ind (g := gNm 4) (b := bdF) (ok := fun _ => true)
    (fun i s => ∃ (fs : List FS) (t : Tp) (J : List MO) (o4 o5 : Option W), fs.length = i ∧ (∀ f ∈ fs, GK f) ∧ (∀ (j : Nat) (f : FS), fs[j]? = some f → ∃ r, r < 20 ∧ gF f "k" = some (kT j r)) ∧ s = ⟨rF a0 o4 o5 z z z z, mF t fs [] J⟩) (rngV 0 ((5 : Nat) : Int)) 0 ⟨rF a0 z z z z z z, mF t0 [] [] []⟩
    (fun i w s hw ⟨fs, t, J, o4, o5, q1, q2, q3, hs⟩ => by
      subst hs
      obtain ⟨hi, rfl⟩ := rng_at hw
      obtain ⟨F, r, t', J', o5', g1, g2, g3, g4⟩ := file_step (a0 := a0) (t := t) (mf := []) (J := J) (k := i) hi q2 (by omega) o4 o5 z z z z
      refine ⟨rfl, _, .inl g4, fs ++ [F], t', J', _, o5', ?_, ?_, ?_, rfl⟩
      · rw [List.length_append, q1]; rfl
      · intro f hf
        rcases List.mem_append.mp hf with hf | hf
        · exact q2 f hf
        · rw [List.mem_singleton.mp hf]; exact g1
      · intro j f hj
        by_cases hlt : j < fs.length
        · rw [List.getElem?_append_left hlt] at hj
          exact q3 j f hj
        · rw [List.getElem?_append_right (by omega)] at hj
          have e : j - fs.length = 0 := by
            have := (List.getElem?_eq_some_iff.mp hj).1
            simp at this
            omega
          rw [e] at hj
          have hj : F = f := Option.some.inj hj
          subst hj
          have : j = i := by omega
          subst this
          exact ⟨r, g2, g3⟩)
    (fun _ _ => rfl) ⟨[], t0, [], z, z, rfl, by simp, by simp, rfl⟩
  rw [rng_len] at hfl
  have k3 : forS (rng1 (aC (ck (.int 5)) aN)) (gNm 4) bdF ⟨rF a0 z z z z z z, mF t0 [] [] []⟩ = some (.ok .nx, ⟨rF a0 o4 o5 z z z z, mF t1 fs [] J⟩) := by
    have kr : rng1 (aC (ck (.int 5)) aN) ⟨rF a0 z z z z z z, mF t0 [] [] []⟩ = some (.ok (Wk.of (rngV 0 ((5 : Nat) : Int))), ⟨rF a0 z z z z z z, mF t0 [] [] []⟩) := ev_rng1 (e_a1 ev_ck) (by decide)
    rw [ev_for kr]; exact h3.trans (by rw [e3])
  let Fs : Nat → FS := fun j => fs[j]?.getD []
  have hat : ∀ j, j < 5 → fs[j]? = some (Fs j) := fun j hj => by
    show fs[j]? = some (fs[j]?.getD [])
    rw [List.getElem?_eq_getElem (by omega)]
    rfl
  have efs : fs = (List.range 5).map Fs := by
    refine List.ext_getElem? fun j => ?_
    rw [List.getElem?_map]
    by_cases hj : j < 5
    · rw [List.getElem?_range hj, hat j hj]
      rfl
    · rw [List.getElem?_eq_none (by omega), List.getElem?_eq_none (by simp; omega)]
      rfl
  have gk : ∀ j, j < 5 → GK (Fs j) := fun j hj => hgk _ (List.mem_of_getElem? (hat j hj))
  have gf : ∀ j, j < 5 → GF (Fs j) := fun j hj => (gk j hj).gf
  have hne : ∀ i j, i < 5 → j < 5 → img (Fs i) = img (Fs j) → i = j := fun i j hi hj e => by
    have h := img_tells (gf i hi) (gf j hj) e
    obtain ⟨r, hr, h1⟩ := hkk i _ (hat i hi)
    obtain ⟨q, hq, h2⟩ := hkk j _ (hat j hj)
    rw [h1, h2] at h
    exact kT_inj (by omega) (by omega) (Option.some.inj h)
  have him : fs.map img = IM Fs := by
    conv => lhs; rw [efs, List.map_map]
    rfl
  have hFL : fs.map dF = FL Fs := by
    conv => lhs; rw [efs, List.map_map]
    rfl
  -- images
  let s4 : S := ⟨rF a0 o4 o5 (some (imW Fs)) z z z, mF t1 fs [] J⟩
  have k4 : asgS (frz (lcM (walk (nm 2)) [5] (gNm 5) (ret true) (callF 1 fs__law_image (aC (nm 5) aN)))) (gNm 6) ⟨rF a0 o4 o5 z z z z, mF t1 fs [] J⟩ = some (.ok .nx, s4) := by
    let s : S := ⟨rF a0 o4 o5 z z z z, mF t1 fs [] J⟩
    have kw : walk (nm 2) s = some (.ok ⟨fs.map fun f => W.fz (dF f), fun M' => okL M' 1 (fs.map dF)⟩, s) := e_walk (ev_nm (w := .ob 1) rfl) (show some (Wk.mk ((fs.map dF).map .fz) fun M' => okL M' 1 (fs.map dF)) = _ by rw [List.map_map]; rfl)
    have h := e_lcO (vs := [5]) (g := gNm 5) (e := callF 1 fs__law_image (aC (nm 5) aN)) (l := fs) (em := fun f => .fz (dF f)) (ff := fun f => .str (img f)) kw (okL_iff.mpr rfl) (lim_of (m := 5) (by omega)) (fun f hf => by
      have g := (hgk f hf).gf
      have g5 := g.len
      refine ⟨⟨s.r.set 5 (some (.fz (dF f))), s.m⟩, rfl, rfl, e_call (e_a1 (ev_nm (w := .fz (.dK (eF f))) rfl)) rfl (s_law_image f _ (by rw [kF_len]; omega) (lim_of (m := 20000) (img_small g.small)))⟩)
    have e : (fs.map fun f => D.str (img f)) = (IM Fs).map .str := by rw [← him, List.map_map]; rfl
    rw [e] at h
    exact e_asg h
  -- names
  obtain ⟨s5, h5, _, mf, xs, o4', o7, hNI, hxs, hmf, e5⟩ := forL_ind (g := gNm 4) (b := bdNk) (ok := fun _ => true)
    (fun i s => i ≤ 5 ∧ ∃ (mf : FS) (xs : List Str) (o4 o7 : Option W), NI mf xs ∧ (∀ j, j < i → img (Fs j) ∈ xs) ∧ mf.length ≤ 12 * i ∧ s = ⟨rF a0 o4 o5 (some (imW Fs)) o7 z z, mF t1 fs mf J⟩) (rngV 0 ((5 : Nat) : Int)) 0 s4
    (fun i w s hw ⟨_, mf, xs, o4, o7, q1, q2, q3, hs⟩ => by
      subst hs
      obtain ⟨hi, rfl⟩ := rng_at hw
      obtain ⟨mf', xs', o7', g1, g2, g3, g4, g5⟩ := nk_step (a0 := a0) (t := t1) (J := J) (hat i hi) (gf i hi) (mf := mf) (by omega) q1 o4 o5 (some (imW Fs)) o7 z z
      refine ⟨rfl, _, .inl g5, by omega, mf', xs', _, o7', g1, fun j hj => ?_, by omega, rfl⟩
      by_cases e : j = i
      · subst e; exact g3
      · exact g2 _ (q2 j (by omega)))
    (fun _ _ => rfl) ⟨by omega, [], [], o4, z, .inr (by simp), fun j hj => by omega, by simp, rfl⟩
  rw [rng_len] at hxs hmf
  let s6 : S := ⟨rF a0 o4' o5 (some (imW Fs)) o7 z z, mF t1 fs mf J⟩
  have k5 : forS (rng1 (aC (ck (.int 5)) aN)) (gNm 4) bdNk s4 = some (.ok .nx, s6) := by
    have kr : rng1 (aC (ck (.int 5)) aN) s4 = some (.ok (Wk.of (rngV 0 ((5 : Nat) : Int))), s4) := ev_rng1 (e_a1 ev_ck) (by decide)
    rw [ev_for kr]; exact h5.trans (by rw [e5])
  have c6 : tst (op2 inO (ck (.str "clash")) (nm 3)) s6 = some (.ok (gF mf "clash").isSome, s6) := by
    refine e_tst (e_op2 ev_ck (ev_nm (w := .ob 2) rfl) ?_)
    show (some (dget (eF mf) (.inr "clash")).isSome).map (fun k => W.fz (.bl k)) = _
    rw [dget_eF, Option.isSome_map]
    rfl
  cases hcl : (gF mf "clash").isSome with
  | true =>
    refine fin_okL (s := s6) (L := s6.m) ?_ rfl
    unfold fb_law
    show seqS _ _ sA = _
    rw [ev_seq k1, ev_seq k2]
    refine (ev_seq k3).trans ?_
    refine (ev_seq k4).trans ?_
    refine (ev_seq k5).trans ?_
    refine ev_seqR ?_
    rw [e_if c6, hcl]
    rfl
  | false =>
    have k6 : ∀ p, ifS (tst (op2 inO (ck (.str "clash")) (nm 3))) p nxS s6 = some (.ok .nx, s6) := fun p => by
      rw [e_if c6, hcl]
      rfl
    have hdg : ∀ x ∈ xs, gF mf (dig x) = some x := by
      rcases hNI with h | h
      · cases hh : gF mf "clash" with
        | none => exact absurd hh h
        | some y => rw [hh] at hcl; cases hcl
      · exact h
    have dj : ∀ i j, i < 5 → j < 5 → dig (img (Fs i)) = dig (img (Fs j)) → i = j := fun i j hi hj e => by
      have h1 := hdg _ (hxs i (by omega))
      have h2 := hdg _ (hxs j (by omega))
      rw [e, h2] at h1
      exact hne i j hi hj (Option.some.inj h1).symm
    -- patches
    let M1 : List MO := mF t1 fs mf J
    have iml : ∀ j, j < 5 → (img (Fs j)).length ≤ 20000 := fun j hj => img_small (gf j hj).small
    have hp : ∀ k, ∃ p : PT, k < 4 → p.a = img (Fs k) ∧ p.b = img (Fs (k + 1)) ∧ p.Ok ∧ fs_patch [.fz (.str (img (Fs k))), .fz (.str (img (Fs (k + 1))))] M1 = some (.ok (.fz p.d), M1) := fun k => by
      by_cases hk : k < 4
      · obtain ⟨ps, a, b⟩ := s_patch (img (Fs k)) (img (Fs (k + 1))) M1 (img_ge8 _) (iml k (by omega)) (iml (k + 1) (by omega))
        exact ⟨_, fun _ => ⟨rfl, rfl, a, b⟩⟩
      · exact ⟨⟨"", "", []⟩, fun h => absurd h hk⟩
    let Ps : Nat → PT := fun k => Classical.choose (hp k)
    have hPs : ∀ k, k < 4 → (Ps k).a = img (Fs k) ∧ (Ps k).b = img (Fs (k + 1)) ∧ (Ps k).Ok ∧ fs_patch [.fz (.str (img (Fs k))), .fz (.str (img (Fs (k + 1))))] M1 = some (.ok (.fz (Ps k).d), M1) := fun k hk => Classical.choose_spec (hp k) hk
    have wd : Wd Fs Ps := ⟨gf, hne, fun k hk => (hPs k hk).1, fun k hk => (hPs k hk).2.1, fun k hk => (hPs k hk).2.2.1⟩
    let s7 := sV a0 M1 Fs Ps o4' o5 o7 z
    have k7 : asgS (frz (lcM (rng1 (aC (ck (.int 4)) aN)) [4] (gNm 4) (ret true) (callF 2 fs_patch (aC (op2 atO (nm 6) (nm 4)) (aC (op2 atO (nm 6) (op2 addO (nm 4) (ck (.int 1)))) aN))))) (gNm 8) s6 = some (.ok .nx, s7) := by
      have kr : rng1 (aC (ck (.int 4)) aN) s6 = some (.ok (Wk.of ((List.range 4).map fun (k : Nat) => W.fz (.int (k : Int)))), s6) := by
        have h : rng1 (aC (ck (.int 4)) aN) s6 = some (.ok (Wk.of (rngV 0 ((4 : Nat) : Int))), s6) := ev_rng1 (e_a1 ev_ck) (by decide)
        exact h
      have h := e_lcA (vs := [4]) (g := gNm 4) (e := callF 2 fs_patch (aC (op2 atO (nm 6) (nm 4)) (aC (op2 atO (nm 6) (op2 addO (nm 4) (ck (.int 1)))) aN))) (l := List.range 4) (em := fun (k : Nat) => W.fz (.int (k : Int))) (ff := fun k => (Ps k).d) kr (lim_of (m := 4) (by decide)) (fun k hk => by
        have hk : k < 4 := List.mem_range.mp hk
        let s1 : S := ⟨(wipeR s6.r [4]).set 4 (some (.fz (.int (k : Int)))), s6.m⟩
        have h4 : nm 4 s1 = some (.ok (.fz (.int (k : Int))), s1) := ev_nm rfl
        have h41 : op2 addO (nm 4) (ck (.int 1)) s1 = some (.ok (.fz (.int ((k : Int) + 1))), s1) := e_op2 h4 ev_ck rfl
        exact ⟨s1, rfl, rfl, e_call (e_a2 (e_ix (by omega) (ev_nm rfl) rfl h4) (e_ix (by omega) (ev_nm rfl) (by omega) h41)) rfl (hPs k hk).2.2.2⟩)
      have e : ((List.range 4).map fun k => (Ps k).d) = (PR Ps).map PT.d := by unfold PR; rw [List.map_map]; rfl
      rw [e] at h
      exact e_asg h
    obtain ⟨s8, h8, p4, p7, e8⟩ := forL_ind (g := gNm 4) (b := bdCk) (ok := fun _ => true)
      (fun i s => ∃ p4 p7, s = sV a0 M1 Fs Ps p4 o5 p7 z) (rngV 0 ((4 : Nat) : Int)) 0 s7
      (fun i w s hw ⟨p4, p7, hs⟩ => by
        subst hs
        obtain ⟨hi, rfl⟩ := rng_at hw
        obtain ⟨q7, h⟩ := ck_step (a0 := a0) (M := M1) wd dj hi p4 o5 p7 z
        exact ⟨rfl, _, .inl h, _, q7, rfl⟩)
      (fun _ _ => rfl) ⟨_, _, rfl⟩
    have k8 : forS (rng1 (aC (ck (.int 4)) aN)) (gNm 4) bdCk s7 = some (.ok .nx, sV a0 M1 Fs Ps p4 o5 p7 z) := by
      have kr : rng1 (aC (ck (.int 4)) aN) s7 = some (.ok (Wk.of (rngV 0 ((4 : Nat) : Int))), s7) := ev_rng1 (e_a1 ev_ck) (by decide)
      rw [ev_for kr]; exact h8.trans (by rw [e8])
    have k9 := row_step (a0 := a0) (M := M1) wd dj p4 o5 p7 z
    obtain ⟨ps, okB, hB⟩ := s_patch (img (Fs 4)) (img (Fs 0)) M1 (img_ge8 _) (iml 4 (by omega)) (iml 0 (by omega))
    let B : PT := ⟨img (Fs 4), img (Fs 0), ps⟩
    let s10 := sV a0 M1 Fs Ps p4 o5 p7 (some (.fz B.d))
    have k10 : asgS (callF 2 fs_patch (aC (op2 atO (nm 6) (ck (.int 4))) (aC (op2 atO (nm 6) (ck (.int 0))) aN))) (gNm 9) (sV a0 M1 Fs Ps p4 o5 p7 z) = some (.ok .nx, s10) :=
      e_asg (e_call (e_a2 (e_ix (j := 4) (by omega) (ev_nm rfl) rfl ev_ck) (e_ix (j := 0) (by omega) (ev_nm rfl) rfl ev_ck)) rfl hB)
    have k11 := back9_step (a0 := a0) (M := M1) wd dj p4 o5 p7 (B := B) rfl rfl okB
    have hR : ((.lst (fs.map dF) :: .dK (eF mf) :: J : List MO))[0]? = some (.lst (FL Fs)) := by rw [← hFL]; rfl
    obtain ⟨t2, k12⟩ := mach_three (e := callF 4 fs__law_machine (aC (nm 1) (aC (nm 2) (aC (nm 6) (aC (nm 8) aN))))) (r := s10.r) (t := t1) (R := .lst (fs.map dF) :: .dK (eF mf) :: J) (fun w t => by
      obtain ⟨t', h⟩ := s_law_machine wd hR t
      refine ⟨t', ?_⟩
      let s1 : S := ⟨(wipeR s10.r [4]).set 4 (some w), .dK (tpD t) :: .lst (fs.map dF) :: .dK (eF mf) :: J⟩
      exact x_call (s1 := s1) (e_aC (ev_nm (w := .ob 0) rfl) (e_a3 (ev_nm (w := .ob 1) rfl) (ev_nm (w := imW Fs) rfl) (ev_nm (w := .fz (rowD (PR Ps))) rfl))) rfl h)
    refine fin_okL (s := ⟨s10.r, .dK (tpD t2) :: .lst (fs.map dF) :: .dK (eF mf) :: J⟩) (L := .dK (tpD t2) :: .lst (fs.map dF) :: .dK (eF mf) :: J) ?_ rfl
    unfold fb_law
    show seqS _ _ sA = _
    rw [ev_seq k1, ev_seq k2]
    refine (ev_seq k3).trans ?_
    refine (ev_seq k4).trans ?_
    refine (ev_seq k5).trans ?_
    refine (ev_seq (k6 _)).trans ?_
    refine (ev_seq k7).trans ?_
    refine (ev_seq k8).trans ?_
    refine (ev_seq k9).trans ?_
    refine (ev_seq k10).trans ?_
    refine (ev_seq k11).trans ?_
    exact e_ret k12
end PD

noncomputable section
namespace PD
open PySem L2 PyProof.Rows
def topS (i : Nat) : Stmt := PySem.Challenge.pw_sameinsameout_k59_whole_fleets_brought_a.main.body.getD i (.Pass ⟨0, 0, 0, 0⟩)
theorem bt_abs : bootBuiltins "abs" = some (.builtin "abs") := by decide +kernel
theorem bt_all : bootBuiltins "all" = some (.builtin "all") := by decide +kernel
theorem bt_any : bootBuiltins "any" = some (.builtin "any") := by decide +kernel
theorem bt_dict : bootBuiltins "dict" = some (.type "dict") := by decide +kernel
theorem bt_int : bootBuiltins "int" = some (.type "int") := by decide +kernel
theorem bt_isinstance : bootBuiltins "isinstance" = some (.builtin "isinstance") := by decide +kernel
theorem bt_len : bootBuiltins "len" = some (.builtin "len") := by decide +kernel
theorem bt_list : bootBuiltins "list" = some (.type "list") := by decide +kernel
theorem bt_max : bootBuiltins "max" = some (.builtin "max") := by decide +kernel
theorem bt_ord : bootBuiltins "ord" = some (.builtin "ord") := by decide +kernel
theorem bt_sorted : bootBuiltins "sorted" = some (.builtin "sorted") := by decide +kernel
theorem bt_str : bootBuiltins "str" = some (.type "str") := by decide +kernel
theorem bt_sum : bootBuiltins "sum" = some (.builtin "sum") := by decide +kernel
theorem bt_tuple : bootBuiltins "tuple" = some (.type "tuple") := by decide +kernel
theorem sc_number_of : FnScope ["text", "found", "char"] ["text"] (defScope (topS 4)) := ⟨rfl, rfl, rfl, by decide +kernel, rfl, by decide +kernel, by decide +kernel⟩
theorem sc_digest : FnScope ["text", "number", "found", "_"] ["text"] (defScope (topS 5)) := ⟨rfl, rfl, rfl, by decide +kernel, rfl, by decide +kernel, by decide +kernel⟩
theorem sc_write_image : FnScope ["files", "parts", "path"] ["files"] (defScope (topS 14)) := ⟨rfl, rfl, rfl, by decide +kernel, rfl, by decide +kernel, by decide +kernel⟩
theorem sc_number_at : FnScope ["text", "at", "end"] ["text", "at"] (defScope (topS 15)) := ⟨rfl, rfl, rfl, by decide +kernel, rfl, by decide +kernel, by decide +kernel⟩
theorem sc_read_image : FnScope ["text", "count", "at", "found", "before", "_", "head", "size", "begin"] ["text"] (defScope (topS 16)) := ⟨rfl, rfl, rfl, by decide +kernel, rfl, by decide +kernel, by decide +kernel⟩
theorem sc_patch : FnScope ["old", "new", "places", "start", "parts", "plain", "at", "size"] ["old", "new"] (defScope (topS 17)) := ⟨rfl, rfl, rfl, by decide +kernel, rfl, by decide +kernel, by decide +kernel⟩
theorem sc_patched : FnScope ["old", "told", "before", "after", "parts", "found", "part", "start", "size"] ["old", "told"] (defScope (topS 18)) := ⟨rfl, rfl, rfl, by decide +kernel, rfl, by decide +kernel, by decide +kernel⟩
theorem sc_patch_size : FnScope ["told", "part"] ["told"] (defScope (topS 19)) := ⟨rfl, rfl, rfl, by decide +kernel, rfl, by decide +kernel, by decide +kernel⟩
theorem sc_joined_patches : FnScope ["old", "row", "told"] ["old", "row"] (defScope (topS 20)) := ⟨rfl, rfl, rfl, by decide +kernel, rfl, by decide +kernel, by decide +kernel⟩
theorem sc_put : FnScope ["disk", "write", "path", "text"] ["disk", "write"] (defScope (topS 25)) := ⟨rfl, rfl, rfl, by decide +kernel, rfl, by decide +kernel, by decide +kernel⟩
theorem sc_number_in : FnScope ["word", "char"] ["word"] (defScope (topS 26)) := ⟨rfl, rfl, rfl, by decide +kernel, rfl, by decide +kernel, by decide +kernel⟩
theorem sc_numbers : FnScope ["disk", "found", "path", "head"] ["disk"] (defScope (topS 27)) := ⟨rfl, rfl, rfl, by decide +kernel, rfl, by decide +kernel, by decide +kernel⟩
theorem sc_install_writes : FnScope ["disk", "image", "files", "number", "base", "found", "path"] ["disk", "image"] (defScope (topS 30)) := ⟨rfl, rfl, rfl, by decide +kernel, rfl, by decide +kernel, by decide +kernel⟩
theorem sc_new_disk : FnScope ["image", "disk", "write"] ["image"] (defScope (topS 24)) := ⟨rfl, rfl, rfl, by decide +kernel, rfl, by decide +kernel, by decide +kernel⟩
theorem sc_files_of : FnScope ["disk", "number", "base", "head", "files", "path", "text"] ["disk", "number"] (defScope (topS 29)) := ⟨rfl, rfl, rfl, by decide +kernel, rfl, by decide +kernel, by decide +kernel⟩
theorem sc_whole_numbers : FnScope ["disk", "number"] ["disk"] (defScope (topS 28)) := ⟨rfl, rfl, rfl, by decide +kernel, rfl, by decide +kernel, by decide +kernel⟩
theorem sc_current : FnScope ["disk", "number", "files"] ["disk"] (defScope (topS 31)) := ⟨rfl, rfl, rfl, by decide +kernel, rfl, by decide +kernel, by decide +kernel⟩
theorem sc_recovered : FnScope ["disk", "found", "number", "base", "path"] ["disk"] (defScope (topS 32)) := ⟨rfl, rfl, rfl, by decide +kernel, rfl, by decide +kernel, by decide +kernel⟩
theorem sc_back_writes : FnScope ["disk", "number"] ["disk", "number"] (defScope (topS 33)) := ⟨rfl, rfl, rfl, by decide +kernel, rfl, by decide +kernel, by decide +kernel⟩
theorem sc_clean_writes : FnScope ["disk", "count", "holds", "kept", "found", "number", "base", "path"] ["disk", "count"] (defScope (topS 34)) := ⟨rfl, rfl, rfl, by decide +kernel, rfl, by decide +kernel, by decide +kernel⟩
theorem sc_after : FnScope ["disk", "writes", "count", "found", "write"] ["disk", "writes", "count"] (defScope (topS 35)) := ⟨rfl, rfl, rfl, by decide +kernel, rfl, by decide +kernel, by decide +kernel⟩
theorem sc__law_tape : FnScope ["script", "cells", "seed", "cell"] ["script"] (defScope (topS 37)) := ⟨rfl, rfl, rfl, by decide +kernel, rfl, by decide +kernel, by decide +kernel⟩
theorem sc__law_take : FnScope ["tape", "many", "drawn", "mixed"] ["tape", "many"] (defScope (topS 38)) := ⟨rfl, rfl, rfl, by decide +kernel, rfl, by decide +kernel, by decide +kernel⟩
theorem sc__law_digest : FnScope ["text", "found", "told", "sign", "k"] ["text"] (defScope (topS 39)) := ⟨rfl, rfl, rfl, by decide +kernel, rfl, by decide +kernel, by decide +kernel⟩
theorem sc__law_name : FnScope ["met", "text", "told"] ["met", "text"] (defScope (topS 40)) := ⟨rfl, rfl, rfl, by decide +kernel, rfl, by decide +kernel, by decide +kernel⟩
theorem sc__law_image : FnScope ["files", "text", "path"] ["files"] (defScope (topS 41)) := ⟨rfl, rfl, rfl, by decide +kernel, rfl, by decide +kernel, by decide +kernel⟩
theorem sc__law_after : FnScope ["flat", "writes", "count", "found", "path", "text"] ["flat", "writes", "count"] (defScope (topS 42)) := ⟨rfl, rfl, rfl, by decide +kernel, rfl, by decide +kernel, by decide +kernel⟩
theorem sc__law_generation : FnScope ["head", "word", "sign"] ["head"] (defScope (topS 43)) := ⟨rfl, rfl, rfl, by decide +kernel, rfl, by decide +kernel, by decide +kernel⟩
theorem sc__law_numbers : FnScope ["flat", "found", "path", "number"] ["flat"] (defScope (topS 44)) := ⟨rfl, rfl, rfl, by decide +kernel, rfl, by decide +kernel, by decide +kernel⟩
theorem sc__law_files_of : FnScope ["flat", "number", "head", "files", "done", "path"] ["flat", "number"] (defScope (topS 45)) := ⟨rfl, rfl, rfl, by decide +kernel, rfl, by decide +kernel, by decide +kernel⟩
theorem sc__law_whole : FnScope ["flat", "number"] ["flat"] (defScope (topS 46)) := ⟨rfl, rfl, rfl, by decide +kernel, rfl, by decide +kernel, by decide +kernel⟩
theorem sc__law_current : FnScope ["flat", "number"] ["flat"] (defScope (topS 47)) := ⟨rfl, rfl, rfl, by decide +kernel, rfl, by decide +kernel, by decide +kernel⟩
theorem sc__law_install : FnScope ["flat", "files", "number", "base", "path"] ["flat", "files"] (defScope (topS 48)) := ⟨rfl, rfl, rfl, by decide +kernel, rfl, by decide +kernel, by decide +kernel⟩
theorem sc__law_recover : FnScope ["flat", "found", "number", "base", "path"] ["flat"] (defScope (topS 49)) := ⟨rfl, rfl, rfl, by decide +kernel, rfl, by decide +kernel, by decide +kernel⟩
theorem sc__law_clean : FnScope ["flat", "count", "holds", "found", "kept", "number", "base", "path"] ["flat", "count"] (defScope (topS 50)) := ⟨rfl, rfl, rfl, by decide +kernel, rfl, by decide +kernel, by decide +kernel⟩
theorem sc__law_some_files : FnScope ["tape", "most", "k"] ["tape", "most"] (defScope (topS 51)) := ⟨rfl, rfl, rfl, by decide +kernel, rfl, by decide +kernel, by decide +kernel⟩
theorem sc__law_patched : FnScope ["text", "told"] ["text", "told"] (defScope (topS 52)) := ⟨rfl, rfl, rfl, by decide +kernel, rfl, by decide +kernel, by decide +kernel⟩
theorem sc__law_cut : FnScope ["tape", "disk", "flat", "files", "writes", "cut", "clean"] ["tape", "disk", "flat", "files"] (defScope (topS 53)) := ⟨rfl, rfl, rfl, by decide +kernel, rfl, by decide +kernel, by decide +kernel⟩
theorem sc__law_machine : FnScope ["tape", "files", "images", "patches", "k", "disk", "flat", "turn", "here", "last", "goal", "told", "number", "part", "count"] ["tape", "files", "images", "patches"] (defScope (topS 54)) := ⟨rfl, rfl, rfl, by decide +kernel, rfl, by decide +kernel, by decide +kernel⟩
theorem sc_law : FnScope ["script", "tape", "files", "met", "k", "some", "images", "n", "patches", "back", "path"] ["script"] (defScope (topS 55)) := ⟨rfl, rfl, rfl, by decide +kernel, rfl, by decide +kernel, by decide +kernel⟩
structure Top (K : PySem.W.Frag) (mg : Str → Option Value) (C : Nat → Addr) where
  f_number_of : DefAt K mg "number_of" (topS 4) ["text"]
  f_digest : DefAt K mg "digest" (topS 5) ["text"]
  f_write_image : DefAt K mg "write_image" (topS 14) ["files"]
  f_number_at : DefAt K mg "number_at" (topS 15) ["text", "at"]
  f_read_image : DefAt K mg "read_image" (topS 16) ["text"]
  f_patch : DefAt K mg "patch" (topS 17) ["old", "new"]
  f_patched : DefAt K mg "patched" (topS 18) ["old", "told"]
  f_patch_size : DefAt K mg "patch_size" (topS 19) ["told"]
  f_joined_patches : DefAt K mg "joined_patches" (topS 20) ["old", "row"]
  f_put : DefAt K mg "put" (topS 25) ["disk", "write"]
  f_number_in : DefAt K mg "number_in" (topS 26) ["word"]
  f_numbers : DefAt K mg "numbers" (topS 27) ["disk"]
  f_install_writes : DefAt K mg "install_writes" (topS 30) ["disk", "image"]
  f_new_disk : DefAt K mg "new_disk" (topS 24) ["image"]
  f_files_of : DefAt K mg "files_of" (topS 29) ["disk", "number"]
  f_whole_numbers : DefAt K mg "whole_numbers" (topS 28) ["disk"]
  f_current : DefAt K mg "current" (topS 31) ["disk"]
  f_recovered : DefAt K mg "recovered" (topS 32) ["disk"]
  f_back_writes : DefAt K mg "back_writes" (topS 33) ["disk", "number"]
  f_clean_writes : DefAt K mg "clean_writes" (topS 34) ["disk", "count"]
  f_after : DefAt K mg "after" (topS 35) ["disk", "writes", "count"]
  f__law_tape : DefAt K mg "_law_tape" (topS 37) ["script"]
  f__law_take : DefAt K mg "_law_take" (topS 38) ["tape", "many"]
  f__law_digest : DefAt K mg "_law_digest" (topS 39) ["text"]
  f__law_name : DefAt K mg "_law_name" (topS 40) ["met", "text"]
  f__law_image : DefAt K mg "_law_image" (topS 41) ["files"]
  f__law_after : DefAt K mg "_law_after" (topS 42) ["flat", "writes", "count"]
  f__law_generation : DefAt K mg "_law_generation" (topS 43) ["head"]
  f__law_numbers : DefAt K mg "_law_numbers" (topS 44) ["flat"]
  f__law_files_of : DefAt K mg "_law_files_of" (topS 45) ["flat", "number"]
  f__law_whole : DefAt K mg "_law_whole" (topS 46) ["flat"]
  f__law_current : DefAt K mg "_law_current" (topS 47) ["flat"]
  f__law_install : DefAt K mg "_law_install" (topS 48) ["flat", "files"]
  f__law_recover : DefAt K mg "_law_recover" (topS 49) ["flat"]
  f__law_clean : DefAt K mg "_law_clean" (topS 50) ["flat", "count"]
  f__law_some_files : DefAt K mg "_law_some_files" (topS 51) ["tape", "most"]
  f__law_patched : DefAt K mg "_law_patched" (topS 52) ["text", "told"]
  f__law_cut : DefAt K mg "_law_cut" (topS 53) ["tape", "disk", "flat", "files"]
  f__law_machine : DefAt K mg "_law_machine" (topS 54) ["tape", "files", "images", "patches"]
  f_law : DefAt K mg "law" (topS 55) ["script"]
  z_abs : mg "abs" = none
  z_all : mg "all" = none
  z_any : mg "any" = none
  z_dict : mg "dict" = none
  z_int : mg "int" = none
  z_isinstance : mg "isinstance" = none
  z_len : mg "len" = none
  z_list : mg "list" = none
  z_max : mg "max" = none
  z_ord : mg "ord" = none
  z_range : mg "range" = none
  z_set : mg "set" = none
  z_sorted : mg "sorted" = none
  z_str : mg "str" = none
  z_sum : mg "sum" = none
  z_tuple : mg "tuple" = none
  c_BASE : ∃ t, mg "BASE" = some (.int (2000003) t)
  c_BLOCK : ∃ t, mg "BLOCK" = some (.int (8) t)
  c_DIGITS_images : ∃ t, mg "DIGITS_images" = some (.str "0123456789" t)
  c_DIGITS_machines : ∃ t, mg "DIGITS_machines" = some (.str "0123456789" t)
  c_MOST_DIGITS : ∃ t, mg "MOST_DIGITS" = some (.int (9) t)
  c_PRIME : ∃ t, mg "PRIME" = some (.int (2305843009213693951) t)
  c_SIGNS : ∃ t, mg "SIGNS" = some (.str "0123456789abcdef" t)
  x_NoPatch : ExcAt K mg C 0 "NoPatch"
section
variable {P : Program} {w : World} {K : PySem.W.Frag} {mg : Str → Option Value} {base : Heap} {C : Nat → Addr}
theorem ok_number_of (T : Top K mg C) : FnOk P w K mg base CX0 1 T.f_number_of.a T.f_number_of.d ["text"] (spD K C 1 fs_number_of) := by
  refine fnD_ok (n0 := 3) T.f_number_of.F sc_number_of rfl rfl (fs_number_of.eq_def) ?_
  intro cdv A outer s H E hr
  unfold fb_number_of
  exact (pd_cons (pd_set (i := 1) sc_number_of.nd rfl (by first | exact .inl rfl | exact .inr rfl) (pd_op opAdd sAdd (pd_callB cLen sLen rfl T.z_len bt_len (pd_aC (pe_nm (pv 0)) pd_aN)) pd_int))
  (pd_cons (pd_for PassesOwn.never rfl (pd_walk (pe_nm (pv 0))) (pd_gNm (i := 2) sc_number_of.nd rfl (by first | exact .inl rfl | exact .inr rfl)) (pd_one1 (pd_set (i := 1) sc_number_of.nd rfl (by first | exact .inl rfl | exact .inr rfl) (pd_op op_mod sMod (pd_op opAdd sAdd (pd_op opMul sMul (pe_nm (pv 1)) (pd_gI rfl T.c_BASE)) (pd_callB call_ord sOrd rfl T.z_ord bt_ord (pd_aC (pe_nm (pv 2)) pd_aN))) (pd_gI rfl T.c_PRIME)))))
  (pd_one1 (pd_ret (pe_nm (pv 1))))))
theorem ok_digest (T : Top K mg C) : FnOk P w K mg base CX0 2 T.f_digest.a T.f_digest.d ["text"] (spD K C 1 fs_digest) := by
  refine fnD_ok (n0 := 4) T.f_digest.F sc_digest rfl rfl (fs_digest.eq_def) ?_
  intro cdv A outer s H E hr
  unfold fb_digest
  exact (pd_cons (pd_par (i := 1) (j := 2) rfl sc_digest.nd rfl rfl (by decide) rfl rfl (pd_aC (pd_call (ok_number_of T) hr (by decide) rfl T.f_number_of.m T.f_number_of.F.kp T.f_number_of.b (pd_aC (pe_nm (pv 0)) pd_aN)) (pd_aC pd_str pd_aN)) rfl)
  (pd_cons (pd_for PassesOwn.never rfl (pd_rng1 rfl T.z_range (pd_aC pd_int pd_aN)) (pd_gNm (i := 3) sc_digest.nd rfl (by first | exact .inl rfl | exact .inr rfl)) (pd_cons (pd_set (i := 2) sc_digest.nd rfl (by first | exact .inl rfl | exact .inr rfl) (pd_op opAdd sAdd (pd_ix (hu_of hr) (pd_gS rfl T.c_SIGNS) (pd_op op_mod sMod (pe_nm (pv 1)) pd_int)) (pe_nm (pv 2))))
  (pd_one1 (pd_aug (i := 1) sc_digest.nd rfl (by first | exact .inl rfl | exact .inr rfl) iop_fdiv sFdv pd_int))))
  (pd_one1 (pd_ret (pe_nm (pv 2))))))
theorem ok_write_image (T : Top K mg C) : FnOk P w K mg base CX0 1 T.f_write_image.a T.f_write_image.d ["files"] (spD K C 1 fs_write_image) := by
  refine fnD_ok (n0 := 3) T.f_write_image.F sc_write_image rfl rfl (fs_write_image.eq_def) ?_
  intro cdv A outer s H E hr
  unfold fb_write_image
  exact (pd_cons (pd_set (i := 1) sc_write_image.nd rfl (by first | exact .inl rfl | exact .inr rfl) (pd_lstM (pd_aC (pd_op opAdd sAdd (pd_op opAdd sAdd pd_str (pd_callTy call_str_int sStr rfl T.z_str bt_str (pd_aC (pd_callB cLen sLen rfl T.z_len bt_len (pd_aC (pe_nm (pv 0)) pd_aN)) pd_aN))) pd_str) pd_aN)))
  (pd_cons (pd_for PassesOwn.never rfl (pd_walk (pd_callB (cSorted rfl) sSorted rfl T.z_sorted bt_sorted (pd_aC (pe_nm (pv 0)) pd_aN))) (pd_gNm (i := 2) sc_write_image.nd rfl (by first | exact .inl rfl | exact .inr rfl)) (pd_one1 (pd_expr (pd_bmL F.slot_list_append F.type_list_append mt_append sApp (pe_nm (pv 1)) (pd_aC (pd_op opAdd sAdd (pd_op opAdd sAdd (pd_op opAdd sAdd (pd_op opAdd sAdd (pd_op opAdd sAdd (pe_nm (pv 2)) pd_str) (pd_callTy call_str_int sStr rfl T.z_str bt_str (pd_aC (pd_callB cLen sLen rfl T.z_len bt_len (pd_aC (pd_ix (hu_of hr) (pe_nm (pv 0)) (pe_nm (pv 2))) pd_aN)) pd_aN))) pd_str) (pd_ix (hu_of hr) (pe_nm (pv 0)) (pe_nm (pv 2)))) pd_str) pd_aN)))))
  (pd_one1 (pd_ret (pd_sm1 F.slot_str_join F.type_str_join mt_join sJoin pd_str (pe_nm (pv 1)))))))
theorem ok_number_at (T : Top K mg C) : FnOk P w K mg base CX0 1 T.f_number_at.a T.f_number_at.d ["text", "at"] (spD K C 2 fs_number_at) := by
  refine fnD_ok (n0 := 3) T.f_number_at.F sc_number_at rfl rfl (fs_number_at.eq_def) ?_
  intro cdv A outer s H E hr
  unfold fb_number_at
  exact (pd_cons (pd_set (i := 2) sc_number_at.nd rfl (by first | exact .inl rfl | exact .inr rfl) (pe_nm (pv 1)))
  (pd_cons (pd_while PassesOwn.never (PW.pt (pd_andT (pd_cmpT opLt sLt (pe_nm (pv 2)) (pd_callB cLen sLen rfl T.z_len bt_len (pd_aC (pe_nm (pv 0)) pd_aN)) (nomark _)) (pd_andT1 (pd_cmpT (opIn (hu_of hr)) sIn (pd_ix (hu_of hr) (pe_nm (pv 0)) (pe_nm (pv 2))) (pd_gS rfl T.c_DIGITS_images) rfl)))) (pd_one1 (pd_aug (i := 2) sc_number_at.nd rfl (by first | exact .inl rfl | exact .inr rfl) cIadd sIadd pd_int)))
  (pd_cons (pd_ifS (PW.pt (pd_orT (pd_cmpT (opEq hr.units) sEq (pe_nm (pv 2)) (pe_nm (pv 1)) (nomark _)) (pd_orT (pd_cmpT (opNe hr.units) sNe (pd_slice (pe_nm (pv 0)) (pd_poS (pe_nm (pv 2))) (pd_poS (pd_op opAdd sAdd (pe_nm (pv 2)) pd_int))) pd_str (nomark _)) (pd_orT1 (pd_cmpT opGt sGt (pd_op op_sub sSub (pe_nm (pv 2)) (pe_nm (pv 1))) pd_int (nomark _)))))) (pd_one1 pd_never) pd_nil)
  (pd_one1 (pd_ret (pd_tup (pd_aC (pd_callTy cInt sInt rfl T.z_int bt_int (pd_aC (pd_slice (pe_nm (pv 0)) (pd_poS (pe_nm (pv 1))) (pd_poS (pe_nm (pv 2)))) pd_aN)) (pd_aC (pd_op opAdd sAdd (pe_nm (pv 2)) pd_int) pd_aN))))))))
theorem ok_read_image (T : Top K mg C) : FnOk P w K mg base CX0 2 T.f_read_image.a T.f_read_image.d ["text"] (spD K C 1 fs_read_image) := by
  refine fnD_ok (n0 := 9) T.f_read_image.F sc_read_image rfl rfl (fs_read_image.eq_def) ?_
  intro cdv A outer s H E hr
  unfold fb_read_image
  exact (pd_cons (pd_ifS (pd_notT (pd_tru (pd_sm1 F.slot_str_startswith F.type_str_startswith mt_startswith sStarts (pe_nm (pv 0)) pd_str))) (pd_one1 pd_never) pd_nil)
  (pd_cons (pd_asg (pd_call (ok_number_at T) hr (by decide) rfl T.f_number_at.m T.f_number_at.F.kp T.f_number_at.b (pd_aC (pe_nm (pv 0)) (pd_aC pd_int pd_aN))) (pd_gTp rfl (pd_gCn (pd_gNm (i := 1) sc_read_image.nd rfl (by first | exact .inl rfl | exact .inr rfl)) (pd_gCn (pd_gNm (i := 2) sc_read_image.nd rfl (by first | exact .inl rfl | exact .inr rfl)) pd_gNl))))
  (pd_cons (pd_par (i := 3) (j := 4) rfl sc_read_image.nd rfl rfl (by decide) rfl rfl (pd_aC (new_ob pd_dict0) (pd_aC pd_str pd_aN)) rfl)
  (pd_cons (pd_for PassesOwn.never rfl (pd_rng1 rfl T.z_range (pd_aC (pe_nm (pv 1)) pd_aN)) (pd_gNm (i := 5) sc_read_image.nd rfl (by first | exact .inl rfl | exact .inr rfl)) (pd_cons (pd_set (i := 6) sc_read_image.nd rfl (by first | exact .inl rfl | exact .inr rfl) (pd_ix (hu_of hr) (pd_sm1 F.slot_str_partition F.type_str_partition mt_partition sPart (pd_slice (pe_nm (pv 0)) (pd_poS (pe_nm (pv 2))) pd_poN) pd_str) pd_int))
  (pd_cons (pd_ifS (PW.pt (pd_orT (pd_cmpT (opEq hr.units) sEq (pe_nm (pv 6)) pd_str (nomark _)) (pd_orT (pd_cmpT opLe sLe (pe_nm (pv 6)) (pe_nm (pv 4)) (nomark _)) (pd_orT1 (pd_cmpT (opIn (hu_of hr)) sIn pd_str (pe_nm (pv 6)) rfl))))) (pd_one1 pd_never) pd_nil)
  (pd_cons (pd_asg (pd_call (ok_number_at T) hr (by decide) rfl T.f_number_at.m T.f_number_at.F.kp T.f_number_at.b (pd_aC (pe_nm (pv 0)) (pd_aC (pd_op opAdd sAdd (pd_op opAdd sAdd (pe_nm (pv 2)) (pd_callB cLen sLen rfl T.z_len bt_len (pd_aC (pe_nm (pv 6)) pd_aN))) pd_int) pd_aN))) (pd_gTp rfl (pd_gCn (pd_gNm (i := 7) sc_read_image.nd rfl (by first | exact .inl rfl | exact .inr rfl)) (pd_gCn (pd_gNm (i := 8) sc_read_image.nd rfl (by first | exact .inl rfl | exact .inr rfl)) pd_gNl))))
  (pd_cons (pd_put (hu_of hr) (pd_slice (pe_nm (pv 0)) (pd_poS (pe_nm (pv 8))) (pd_poS (pd_op opAdd sAdd (pe_nm (pv 8)) (pe_nm (pv 7))))) (pe_nm (pv 3)) (pe_nm (pv 6)))
  (pd_cons (pd_par (i := 2) (j := 4) rfl sc_read_image.nd rfl rfl (by decide) rfl rfl (pd_aC (pd_op opAdd sAdd (pd_op opAdd sAdd (pe_nm (pv 8)) (pe_nm (pv 7))) pd_int) (pd_aC (pe_nm (pv 6)) pd_aN)) rfl)
  (pd_one1 (pd_ifS (PW.pt (pd_orT (pd_cmpT opLt sLt (pd_callB cLen sLen rfl T.z_len bt_len (pd_aC (pd_ix (hu_of hr) (pe_nm (pv 3)) (pe_nm (pv 6))) pd_aN)) (pe_nm (pv 7)) (nomark _)) (pd_orT1 (pd_cmpT (opNe hr.units) sNe (pd_slice (pe_nm (pv 0)) (pd_poS (pd_op op_sub sSub (pe_nm (pv 2)) pd_int)) (pd_poS (pe_nm (pv 2)))) pd_str (nomark _))))) (pd_one1 pd_never) pd_nil))))))))
  (pd_cons (pd_ifS (PW.pt (pd_orT (pd_cmpT (opNe hr.units) sNe (pe_nm (pv 2)) (pd_callB cLen sLen rfl T.z_len bt_len (pd_aC (pe_nm (pv 0)) pd_aN)) (nomark _)) (pd_orT1 (pd_cmpT (opNe hr.units) sNe (pd_call (ok_write_image T) hr (by decide) rfl T.f_write_image.m T.f_write_image.F.kp T.f_write_image.b (pd_aC (pe_nm (pv 3)) pd_aN)) (pe_nm (pv 0)) (nomark _))))) (pd_one1 pd_never) pd_nil)
  (pd_one1 (pd_ret (pe_nz (pv 3)))))))))
theorem ok_patch (T : Top K mg C) : FnOk P w K mg base CX0 3 T.f_patch.a T.f_patch.d ["old", "new"] (spD K C 2 fs_patch) := by
  refine fnD_ok (n0 := 8) T.f_patch.F sc_patch rfl rfl (fs_patch.eq_def) ?_
  intro cdv A outer s H E hr
  unfold fb_patch
  exact (pd_cons (pd_set (i := 2) sc_patch.nd rfl (by first | exact .inl rfl | exact .inr rfl) (new_ob pd_dict0))
  (pd_cons (pd_for PassesOwn.never rfl (pd_rng1 rfl T.z_range (pd_aC (pd_op opAdd sAdd (pd_op op_sub sSub (pd_callB cLen sLen rfl T.z_len bt_len (pd_aC (pe_nm (pv 0)) pd_aN)) (pd_gI rfl T.c_BLOCK)) pd_int) pd_aN)) (pd_gNm (i := 3) sc_patch.nd rfl (by first | exact .inl rfl | exact .inr rfl)) (pd_one1 (pd_expr (pd_setd (pe_nm (pv 2)) (pd_slice (pe_nm (pv 0)) (pd_poS (pe_nm (pv 3))) (pd_poS (pd_op opAdd sAdd (pe_nm (pv 3)) (pd_gI rfl T.c_BLOCK)))) (pe_nm (pv 3))))))
  (pd_cons (pd_par3 (i := 4) (j := 5) (l := 6) rfl sc_patch.nd rfl rfl rfl (by decide) (by decide) (by decide) rfl rfl rfl (pd_aC (pd_lstM pd_aN) (pd_aC pd_str (pd_aC pd_int pd_aN))) rfl)
  (pd_cons (pd_while PassesOwn.never (pd_cmpT opLt sLt (pe_nm (pv 6)) (pd_callB cLen sLen rfl T.z_len bt_len (pd_aC (pe_nm (pv 1)) pd_aN)) (nomark _)) (pd_cons (pd_set (i := 3) sc_patch.nd rfl (by first | exact .inl rfl | exact .inr rfl) (pd_get1 (hu_of hr) (pe_nm (pv 2)) (pd_slice (pe_nm (pv 1)) (pd_poS (pe_nm (pv 6))) (pd_poS (pd_op opAdd sAdd (pe_nm (pv 6)) (pd_gI rfl T.c_BLOCK))))))
  (pd_cons (pd_ifS (pd_cmpT opIs sIs (pe_nm (pv 3)) pd_non (nomark _)) (pd_cons (pd_aug (i := 5) sc_patch.nd rfl (by first | exact .inl rfl | exact .inr rfl) cIadd sIadd (pd_ix (hu_of hr) (pe_nm (pv 1)) (pe_nm (pv 6))))
  (pd_cons (pd_aug (i := 6) sc_patch.nd rfl (by first | exact .inl rfl | exact .inr rfl) cIadd sIadd pd_int)
  (pd_one1 pd_cont))) pd_nil)
  (pd_cons (pd_set (i := 7) sc_patch.nd rfl (by first | exact .inl rfl | exact .inr rfl) (pd_gI rfl T.c_BLOCK))
  (pd_cons (pd_while PassesOwn.never (PW.pt (pd_andT (pd_cmpT opLt sLt (pd_op opAdd sAdd (pe_nm (pv 6)) (pe_nm (pv 7))) (pd_callB cLen sLen rfl T.z_len bt_len (pd_aC (pe_nm (pv 1)) pd_aN)) (nomark _)) (pd_andT (pd_cmpT opLt sLt (pd_op opAdd sAdd (pe_nm (pv 3)) (pe_nm (pv 7))) (pd_callB cLen sLen rfl T.z_len bt_len (pd_aC (pe_nm (pv 0)) pd_aN)) (nomark _)) (pd_andT1 (pd_cmpT (opEq hr.units) sEq (pd_ix (hu_of hr) (pe_nm (pv 1)) (pd_op opAdd sAdd (pe_nm (pv 6)) (pe_nm (pv 7)))) (pd_ix (hu_of hr) (pe_nm (pv 0)) (pd_op opAdd sAdd (pe_nm (pv 3)) (pe_nm (pv 7)))) (nomark _)))))) (pd_one1 (pd_aug (i := 7) sc_patch.nd rfl (by first | exact .inl rfl | exact .inr rfl) cIadd sIadd pd_int)))
  (pd_cons (pd_ifS (pd_tru (pe_nm (pv 5))) (pd_cons (pd_expr (pd_bmL F.slot_list_append F.type_list_append mt_append sApp (pe_nm (pv 4)) (pd_aC (pe_nm (pv 5)) pd_aN)))
  (pd_one1 (pd_set (i := 5) sc_patch.nd rfl (by first | exact .inl rfl | exact .inr rfl) pd_str))) pd_nil)
  (pd_cons (pd_expr (pd_bmL F.slot_list_append F.type_list_append mt_append sApp (pe_nm (pv 4)) (pd_aC (pd_tup (pd_aC (pe_nm (pv 3)) (pd_aC (pe_nm (pv 7)) pd_aN))) pd_aN)))
  (pd_one1 (pd_aug (i := 6) sc_patch.nd rfl (by first | exact .inl rfl | exact .inr rfl) cIadd sIadd (pe_nm (pv 7)))))))))))
  (pd_cons (pd_ifS (pd_tru (pe_nm (pv 5))) (pd_one1 (pd_expr (pd_bmL F.slot_list_append F.type_list_append mt_append sApp (pe_nm (pv 4)) (pd_aC (pe_nm (pv 5)) pd_aN)))) pd_nil)
  (pd_one1 (pd_ret (pd_tup (pd_aC (pd_tup (pd_aC (pd_call (ok_digest T) hr (by decide) rfl T.f_digest.m T.f_digest.F.kp T.f_digest.b (pd_aC (pe_nm (pv 0)) pd_aN)) (pd_aC (pd_call (ok_digest T) hr (by decide) rfl T.f_digest.m T.f_digest.F.kp T.f_digest.b (pd_aC (pe_nm (pv 1)) pd_aN)) pd_aN))) (pd_aC (pd_callTy call_tuple_of sTuple rfl T.z_tuple bt_tuple (pd_aC (pe_nm (pv 4)) pd_aN)) pd_aN))))))))))
theorem ok_patched (T : Top K mg C) : FnOk P w K mg base (L2.CX P w) 3 T.f_patched.a T.f_patched.d ["old", "told"] (spX K C 2 fs_patched) := by
  refine fnX_ok (n0 := 9) T.f_patched.F sc_patched rfl rfl (fs_patched.eq_def) ?_
  intro cdv A outer s H E hr
  unfold fb_patched
  exact (pd_cons (pd_asg (pe_nm (pv 1)) (pd_gTp rfl (pd_gCn (pd_gTp rfl (pd_gCn (pd_gNm (i := 2) sc_patched.nd rfl (by first | exact .inl rfl | exact .inr rfl)) (pd_gCn (pd_gNm (i := 3) sc_patched.nd rfl (by first | exact .inl rfl | exact .inr rfl)) pd_gNl))) (pd_gCn (pd_gNm (i := 4) sc_patched.nd rfl (by first | exact .inl rfl | exact .inr rfl)) pd_gNl))))
  (pd_cons (pd_ifS (pd_cmpT (opNe hr.units) sNe (pd_call (ok_digest T) hr (by decide) rfl T.f_digest.m T.f_digest.F.kp T.f_digest.b (pd_aC (pe_nm (pv 0)) pd_aN)) (pe_nm (pv 2)) (nomark _)) (pd_one1 (pd_raise (c := 0) rfl (takes_of rfl rfl rfl rfl) PySem.F.excBase_ValueError T.x_NoPatch.q T.x_NoPatch.g T.x_NoPatch.k (raises_own T.x_NoPatch.b T.x_NoPatch.t) rfl)) pd_nil)
  (pd_cons (pd_set (i := 5) sc_patched.nd rfl (by first | exact .inl rfl | exact .inr rfl) pd_str)
  (pd_cons (pd_for (passes_of rfl) rfl (pd_walk (pe_nm (pv 4))) (pd_gNm (i := 6) sc_patched.nd rfl (by first | exact .inl rfl | exact .inr rfl)) (pd_one1 (pd_ifS (pd_tru (pd_isiStr rfl T.z_isinstance bt_isinstance rfl T.z_str bt_str (pe_nm (pv 6)))) (pd_one1 (pd_aug (i := 5) sc_patched.nd rfl (by first | exact .inl rfl | exact .inr rfl) cIadd sIadd (pe_nm (pv 6)))) (pd_cons (pd_asg (pe_nm (pv 6)) (pd_gTp rfl (pd_gCn (pd_gNm (i := 7) sc_patched.nd rfl (by first | exact .inl rfl | exact .inr rfl)) (pd_gCn (pd_gNm (i := 8) sc_patched.nd rfl (by first | exact .inl rfl | exact .inr rfl)) pd_gNl))))
  (pd_cons (pd_ifS (PW.pt (pd_orT (pd_cmpT opLt sLt (pe_nm (pv 7)) pd_int (nomark _)) (pd_orT (pd_cmpT opLt sLt (pe_nm (pv 8)) pd_int (nomark _)) (pd_orT1 (pd_cmpT opGt sGt (pd_op opAdd sAdd (pe_nm (pv 7)) (pe_nm (pv 8))) (pd_callB cLen sLen rfl T.z_len bt_len (pd_aC (pe_nm (pv 0)) pd_aN)) (nomark _)))))) (pd_one1 (pd_raise (c := 0) rfl (takes_of rfl rfl rfl rfl) PySem.F.excBase_ValueError T.x_NoPatch.q T.x_NoPatch.g T.x_NoPatch.k (raises_own T.x_NoPatch.b T.x_NoPatch.t) rfl)) pd_nil)
  (pd_one1 (pd_aug (i := 5) sc_patched.nd rfl (by first | exact .inl rfl | exact .inr rfl) cIadd sIadd (pd_slice (pe_nm (pv 0)) (pd_poS (pe_nm (pv 7))) (pd_poS (pd_op opAdd sAdd (pe_nm (pv 7)) (pe_nm (pv 8))))))))))))
  (pd_cons (pd_ifS (pd_cmpT (opNe hr.units) sNe (pd_call (ok_digest T) hr (by decide) rfl T.f_digest.m T.f_digest.F.kp T.f_digest.b (pd_aC (pe_nm (pv 5)) pd_aN)) (pe_nm (pv 3)) (nomark _)) (pd_one1 (pd_raise (c := 0) rfl (takes_of rfl rfl rfl rfl) PySem.F.excBase_ValueError T.x_NoPatch.q T.x_NoPatch.g T.x_NoPatch.k (raises_own T.x_NoPatch.b T.x_NoPatch.t) rfl)) pd_nil)
  (pd_one1 (pd_ret (pe_nm (pv 5)))))))))
theorem ok_patch_size (T : Top K mg C) : FnOk P w K mg base CX0 1 T.f_patch_size.a T.f_patch_size.d ["told"] (spD K C 1 fs_patch_size) := by
  refine fnD_ok (n0 := 2) T.f_patch_size.F sc_patch_size rfl rfl (fs_patch_size.eq_def) ?_
  intro cdv A outer s H E hr
  unfold fb_patch_size
  exact (pd_one1 (pd_ret (pd_callB (cr_sum rfl) sSum rfl T.z_sum bt_sum (pd_aC (new_fz (pd_lc rfl sc_patch_size.nd (own := [("part", 1)]) (pd_walk (pd_ix (hu_of hr) (pe_nm (pv 0)) pd_int)) (blkOk_by rfl) (fun _ _ _ _ _ => (pd_cNm (i := 1) sc_patch_size.nd rfl (by simp) (by first | exact .inl rfl | exact .inr rfl))) (fun _ _ _ _ _ => pd_tN) (fun _ _ _ _ _ => (pd_if (pd_tru (pd_isiStr rfl T.z_isinstance bt_isinstance rfl T.z_str bt_str (pe_nm (pv 1)))) (pd_callB cLen sLen rfl T.z_len bt_len (pd_aC (pe_nm (pv 1)) pd_aN)) (pd_gI rfl T.c_BLOCK))))) pd_aN))))
theorem ok_joined_patches (T : Top K mg C) : FnOk P w K mg base (L2.CX P w) 4 T.f_joined_patches.a T.f_joined_patches.d ["old", "row"] (spX K C 2 fs_joined_patches) := by
  refine fnX_ok (n0 := 3) T.f_joined_patches.F sc_joined_patches rfl rfl (fs_joined_patches.eq_def) ?_
  intro cdv A outer s H E hr
  unfold fb_joined_patches
  exact (pd_cons (pd_for (passes_of rfl) rfl (pd_walk (pe_nm (pv 1))) (pd_gNm (i := 2) sc_joined_patches.nd rfl (by first | exact .inl rfl | exact .inr rfl)) (pd_one1 (pd_set (i := 0) sc_joined_patches.nd rfl (by first | exact .inl rfl | exact .inr rfl) (pd_callX (ok_patched T) hr (by decide) rfl T.f_patched.m T.f_patched.F.kp T.f_patched.b (takes_of rfl rfl rfl rfl) XT.le_refl (pd_aC (pe_nm (pv 0)) (pd_aC (pe_nm (pv 2)) pd_aN))))))
  (pd_one1 (pd_ret (pe_nm (pv 0)))))
theorem ok_put (T : Top K mg C) : FnOk P w K mg base CX0 1 T.f_put.a T.f_put.d ["disk", "write"] (spD K C 2 fs_put) := by
  refine fnD_ok (n0 := 4) T.f_put.F sc_put rfl rfl (fs_put.eq_def) ?_
  intro cdv A outer s H E hr
  unfold fb_put
  exact (pd_cons (pd_asg (pe_nm (pv 1)) (pd_gTp rfl (pd_gCn (pd_gNm (i := 2) sc_put.nd rfl (by first | exact .inl rfl | exact .inr rfl)) (pd_gCn (pd_gNm (i := 3) sc_put.nd rfl (by first | exact .inl rfl | exact .inr rfl)) pd_gNl))))
  (pd_one1 (pd_ifS (pd_cmpT opIs sIs (pe_nm (pv 3)) pd_non (nomark _)) (pd_one1 (pd_expr (pd_dpop2 (pe_nm (pv 0)) (pe_nm (pv 2)) pd_non))) (pd_one1 (pd_put (hu_of hr) (pe_nm (pv 3)) (pe_nm (pv 0)) (pe_nm (pv 2)))))))
theorem ok_number_in (T : Top K mg C) : FnOk P w K mg base CX0 1 T.f_number_in.a T.f_number_in.d ["word"] (spD K C 1 fs_number_in) := by
  refine fnD_ok (n0 := 2) T.f_number_in.F sc_number_in rfl rfl (fs_number_in.eq_def) ?_
  intro cdv A outer s H E hr
  unfold fb_number_in
  exact (pd_cons (pd_ifS (PW.pt (pd_orT (pd_cmpT (opEq hr.units) sEq (pe_nm (pv 0)) pd_str (nomark _)) (pd_orT (pd_cmpT opGt sGt (pd_callB cLen sLen rfl T.z_len bt_len (pd_aC (pe_nm (pv 0)) pd_aN)) (pd_gI rfl T.c_MOST_DIGITS) (nomark _)) (pd_orT1 (pd_notT (pd_tru (pd_callB (cr_all rfl) sAll rfl T.z_all bt_all (pd_aC (new_fz (pd_lc rfl sc_number_in.nd (own := [("char", 1)]) (pd_walk (pe_nm (pv 0))) (blkOk_by rfl) (fun _ _ _ _ _ => (pd_cNm (i := 1) sc_number_in.nd rfl (by simp) (by first | exact .inl rfl | exact .inr rfl))) (fun _ _ _ _ _ => pd_tN) (fun _ _ _ _ _ => (pd_cmp (opIn (hu_of hr)) sIn (pe_nm (pv 1)) (pd_gS rfl T.c_DIGITS_machines) rfl)))) pd_aN)))))))) (pd_one1 (pd_ret (pd_neg pd_int))) pd_nil)
  (pd_one1 (pd_ret (pd_if (PW.pt (pd_orT (pd_cmpT (opEq hr.units) sEq (pe_nm (pv 0)) pd_str (nomark _)) (pd_orT1 (pd_cmpT (opNe hr.units) sNe (pd_ix (hu_of hr) (pe_nm (pv 0)) pd_int) pd_str (nomark _))))) (pd_callTy cInt sInt rfl T.z_int bt_int (pd_aC (pe_nm (pv 0)) pd_aN)) (pd_neg pd_int)))))
theorem ok_numbers (T : Top K mg C) : FnOk P w K mg base CX0 2 T.f_numbers.a T.f_numbers.d ["disk"] (spD K C 1 fs_numbers) := by
  refine fnD_ok (n0 := 4) T.f_numbers.F sc_numbers rfl rfl (fs_numbers.eq_def) ?_
  intro cdv A outer s H E hr
  unfold fb_numbers
  exact (pd_cons (pd_set (i := 1) sc_numbers.nd rfl (by first | exact .inl rfl | exact .inr rfl) (new_ob pd_dict0))
  (pd_cons (pd_for PassesOwn.never rfl (pd_walk (pe_nm (pv 0))) (pd_gNm (i := 2) sc_numbers.nd rfl (by first | exact .inl rfl | exact .inr rfl)) (pd_cons (pd_set (i := 3) sc_numbers.nd rfl (by first | exact .inl rfl | exact .inr rfl) (pd_ix (hu_of hr) (pd_sm1 F.slot_str_partition F.type_str_partition mt_partition sPart (pe_nm (pv 2)) pd_str) pd_int))
  (pd_one1 (pd_ifS (PW.pt (pd_andT (pd_cmpT (opEq hr.units) sEq (pd_slice (pe_nm (pv 3)) pd_poN (pd_poS pd_int)) pd_str (nomark _)) (pd_andT1 (pd_cmpT opGe sGe (pd_call (ok_number_in T) hr (by decide) rfl T.f_number_in.m T.f_number_in.F.kp T.f_number_in.b (pd_aC (pd_slice (pe_nm (pv 3)) (pd_poS pd_int) pd_poN) pd_aN)) pd_int (nomark _))))) (pd_one1 (pd_put (hu_of hr) pd_bl (pe_nm (pv 1)) (pd_call (ok_number_in T) hr (by decide) rfl T.f_number_in.m T.f_number_in.F.kp T.f_number_in.b (pd_aC (pd_slice (pe_nm (pv 3)) (pd_poS pd_int) pd_poN) pd_aN)))) pd_nil))))
  (pd_one1 (pd_ret (pd_callB (cSorted rfl) sSorted rfl T.z_sorted bt_sorted (pd_aC (pe_nm (pv 1)) pd_aN))))))
theorem ok_install_writes (T : Top K mg C) : FnOk P w K mg base CX0 3 T.f_install_writes.a T.f_install_writes.d ["disk", "image"] (spD K C 2 fs_install_writes) := by
  refine fnD_ok (n0 := 7) T.f_install_writes.F sc_install_writes rfl rfl (fs_install_writes.eq_def) ?_
  intro cdv A outer s H E hr
  unfold fb_install_writes
  exact (pd_cons (pd_set (i := 2) sc_install_writes.nd rfl (by first | exact .inl rfl | exact .inr rfl) (pd_call (ok_read_image T) hr (by decide) rfl T.f_read_image.m T.f_read_image.F.kp T.f_read_image.b (pd_aC (pe_nm (pv 1)) pd_aN)))
  (pd_cons (pd_set (i := 3) sc_install_writes.nd rfl (by first | exact .inl rfl | exact .inr rfl) (pd_op opAdd sAdd (pd_ix (hu_of hr) (pd_op opAdd sAdd (pd_lst (pd_aC pd_int pd_aN)) (pd_call (ok_numbers T) hr (by decide) rfl T.f_numbers.m T.f_numbers.F.kp T.f_numbers.b (pd_aC (pe_nm (pv 0)) pd_aN))) (pd_neg pd_int)) pd_int))
  (pd_cons (pd_ifS (pd_cmpT opGt sGt (pd_callB cLen sLen rfl T.z_len bt_len (pd_aC (pd_callTy call_str_int sStr rfl T.z_str bt_str (pd_aC (pe_nm (pv 3)) pd_aN)) pd_aN)) (pd_gI rfl T.c_MOST_DIGITS) (nomark _)) (pd_one1 pd_never) pd_nil)
  (pd_cons (pd_set (i := 4) sc_install_writes.nd rfl (by first | exact .inl rfl | exact .inr rfl) (pd_op opAdd sAdd (pd_op opAdd sAdd pd_str (pd_callTy call_str_int sStr rfl T.z_str bt_str (pd_aC (pe_nm (pv 3)) pd_aN))) pd_str))
  (pd_cons (pd_setLcF (i := 5) rfl sc_install_writes.nd rfl rfl (sw_true rfl rfl rfl rfl) (own := [("path", 6)]) (pd_walk (pd_callB (cSorted rfl) sSorted rfl T.z_sorted bt_sorted (pd_aC (pe_nm (pv 2)) pd_aN))) (blkOk_by rfl) (fun _ _ _ _ _ => (pd_cNm (i := 6) sc_install_writes.nd rfl (by simp) (by first | exact .inl rfl | exact .inr rfl))) (fun _ _ _ _ _ => pd_tN) (fun _ _ _ _ _ => (pd_tup (pd_aC (pd_op opAdd sAdd (pd_op opAdd sAdd (pe_nm (pv 4)) pd_str) (pe_nm (pv 6))) (pd_aC (pd_ix (hu_of hr) (pe_nm (pv 2)) (pe_nm (pv 6))) pd_aN)))))
  (pd_one1 (pd_ret (pd_op opAdd sAdd (pe_nm (pv 5)) (pd_lst (pd_aC (pd_tup (pd_aC (pd_op opAdd sAdd (pe_nm (pv 4)) pd_str) (pd_aC (pd_call (ok_digest T) hr (by decide) rfl T.f_digest.m T.f_digest.F.kp T.f_digest.b (pd_aC (pe_nm (pv 1)) pd_aN)) pd_aN))) (pd_aC (pd_tup (pd_aC pd_str (pd_aC (pd_callTy call_str_int sStr rfl T.z_str bt_str (pd_aC (pe_nm (pv 3)) pd_aN)) pd_aN))) pd_aN)))))))))))
theorem ok_new_disk (T : Top K mg C) : FnOk P w K mg base CX0 4 T.f_new_disk.a T.f_new_disk.d ["image"] (spD K C 1 fs_new_disk) := by
  refine fnD_ok (n0 := 3) T.f_new_disk.F sc_new_disk rfl rfl (fs_new_disk.eq_def) ?_
  intro cdv A outer s H E hr
  unfold fb_new_disk
  exact (pd_cons (pd_set (i := 1) sc_new_disk.nd rfl (by first | exact .inl rfl | exact .inr rfl) (new_ob pd_dict0))
  (pd_cons (pd_for PassesOwn.never rfl (pd_walk (pd_call (ok_install_writes T) hr (by decide) rfl T.f_install_writes.m T.f_install_writes.F.kp T.f_install_writes.b (pd_aC (new_fz pd_dict0) (pd_aC (pe_nm (pv 0)) pd_aN)))) (pd_gNm (i := 2) sc_new_disk.nd rfl (by first | exact .inl rfl | exact .inr rfl)) (pd_one1 (pd_expr (pd_call (ok_put T) hr (by decide) rfl T.f_put.m T.f_put.F.kp T.f_put.b (pd_aC (pe_nm (pv 1)) (pd_aC (pe_nm (pv 2)) pd_aN))))))
  (pd_one1 (pd_ret (pe_nz (pv 1))))))
theorem ok_files_of (T : Top K mg C) : FnOk P w K mg base CX0 3 T.f_files_of.a T.f_files_of.d ["disk", "number"] (spD K C 2 fs_files_of) := by
  refine fnD_ok (n0 := 7) T.f_files_of.F sc_files_of rfl rfl (fs_files_of.eq_def) ?_
  intro cdv A outer s H E hr
  unfold fb_files_of
  exact (pd_cons (pd_set (i := 2) sc_files_of.nd rfl (by first | exact .inl rfl | exact .inr rfl) (pd_op opAdd sAdd (pd_op opAdd sAdd pd_str (pd_callTy call_str_int sStr rfl T.z_str bt_str (pd_aC (pe_nm (pv 1)) pd_aN))) pd_str))
  (pd_cons (pd_ifS (pd_cmpT (opNin (hu_of hr)) sNin (pd_op opAdd sAdd (pe_nm (pv 2)) pd_str) (pe_nm (pv 0)) rfl) (pd_one1 (pd_ret pd_non)) pd_nil)
  (pd_cons (pd_set (i := 3) sc_files_of.nd rfl (by first | exact .inl rfl | exact .inr rfl) (pd_op opAdd sAdd (pe_nm (pv 2)) pd_str))
  (pd_cons (pd_setDc (i := 4) (.inl rfl) rfl sc_files_of.nd rfl rfl (sw_dict rfl rfl rfl rfl) (own := [("path", 5), ("text", 6)]) (pd_items (pe_nm (pv 0))) (blkOk_by rfl) (fun _ _ _ _ _ => (pd_cTp rfl (pd_cCn (pd_cNm (i := 5) sc_files_of.nd rfl (by simp) (by first | exact .inl rfl | exact .inr rfl)) (pd_cCn (pd_cNm (i := 6) sc_files_of.nd rfl (by simp) (by first | exact .inl rfl | exact .inr rfl)) pd_cNl)))) (fun _ _ _ _ _ => (pd_t1 (pd_tru (pd_sm1 F.slot_str_startswith F.type_str_startswith mt_startswith sStarts (pe_nm (pv 5)) (pe_nm (pv 3)))))) (fun _ _ _ _ _ => (pd_slice (pe_nm (pv 5)) (pd_poS (pd_callB cLen sLen rfl T.z_len bt_len (pd_aC (pe_nm (pv 3)) pd_aN))) pd_poN)) (fun _ _ _ _ _ => (pe_nm (pv 6))))
  (pd_one1 (pd_ret (pd_if (pd_cmpT (opEq hr.units) sEq (pd_call (ok_digest T) hr (by decide) rfl T.f_digest.m T.f_digest.F.kp T.f_digest.b (pd_aC (pd_call (ok_write_image T) hr (by decide) rfl T.f_write_image.m T.f_write_image.F.kp T.f_write_image.b (pd_aC (pe_nm (pv 4)) pd_aN)) pd_aN)) (pd_ix (hu_of hr) (pe_nm (pv 0)) (pd_op opAdd sAdd (pe_nm (pv 2)) pd_str)) (nomark _)) (pe_nm (pv 4)) pd_non)))))))
theorem ok_whole_numbers (T : Top K mg C) : FnOk P w K mg base CX0 4 T.f_whole_numbers.a T.f_whole_numbers.d ["disk"] (spD K C 1 fs_whole_numbers) := by
  refine fnD_ok (n0 := 2) T.f_whole_numbers.F sc_whole_numbers rfl rfl (fs_whole_numbers.eq_def) ?_
  intro cdv A outer s H E hr
  unfold fb_whole_numbers
  exact (pd_one1 (pd_ret (new_fz (pd_lc rfl sc_whole_numbers.nd (own := [("number", 1)]) (pd_walk (pd_call (ok_numbers T) hr (by decide) rfl T.f_numbers.m T.f_numbers.F.kp T.f_numbers.b (pd_aC (pe_nm (pv 0)) pd_aN))) (blkOk_by rfl) (fun _ _ _ _ _ => (pd_cNm (i := 1) sc_whole_numbers.nd rfl (by simp) (by first | exact .inl rfl | exact .inr rfl))) (fun _ _ _ _ _ => (pd_t1 (pd_cmpT opIsNot sIsNot (pd_call (ok_files_of T) hr (by decide) rfl T.f_files_of.m T.f_files_of.F.kp T.f_files_of.b (pd_aC (pe_nm (pv 0)) (pd_aC (pe_nm (pv 1)) pd_aN))) pd_non (nomark _)))) (fun _ _ _ _ _ => (pe_nm (pv 1)))))))
theorem ok_current (T : Top K mg C) : FnOk P w K mg base CX0 4 T.f_current.a T.f_current.d ["disk"] (spD K C 1 fs_current) := by
  refine fnD_ok (n0 := 3) T.f_current.F sc_current rfl rfl (fs_current.eq_def) ?_
  intro cdv A outer s H E hr
  unfold fb_current
  exact (pd_cons (pd_set (i := 1) sc_current.nd rfl (by first | exact .inl rfl | exact .inr rfl) (pd_call (ok_number_in T) hr (by decide) rfl T.f_number_in.m T.f_number_in.F.kp T.f_number_in.b (pd_aC (pd_get2 (hu_of hr) (pe_nm (pv 0)) pd_str pd_str) pd_aN)))
  (pd_cons (pd_ifS (pd_cmpT opLt sLt (pe_nm (pv 1)) pd_int (nomark _)) (pd_one1 pd_never) pd_nil)
  (pd_cons (pd_set (i := 2) sc_current.nd rfl (by first | exact .inl rfl | exact .inr rfl) (pd_call (ok_files_of T) hr (by decide) rfl T.f_files_of.m T.f_files_of.F.kp T.f_files_of.b (pd_aC (pe_nm (pv 0)) (pd_aC (pe_nm (pv 1)) pd_aN))))
  (pd_cons (pd_ifS (pd_cmpT opIs sIs (pe_nm (pv 2)) pd_non (nomark _)) (pd_one1 pd_never) pd_nil)
  (pd_one1 (pd_ret (pd_tup (pd_aC (pe_nm (pv 1)) (pd_aC (pd_call (ok_write_image T) hr (by decide) rfl T.f_write_image.m T.f_write_image.F.kp T.f_write_image.b (pd_aC (pe_nm (pv 2)) pd_aN)) pd_aN)))))))))
theorem ok_recovered (T : Top K mg C) : FnOk P w K mg base CX0 3 T.f_recovered.a T.f_recovered.d ["disk"] (spD K C 1 fs_recovered) := by
  refine fnD_ok (n0 := 5) T.f_recovered.F sc_recovered rfl rfl (fs_recovered.eq_def) ?_
  intro cdv A outer s H E hr
  unfold fb_recovered
  exact (pd_cons (pd_set (i := 1) sc_recovered.nd rfl (by first | exact .inl rfl | exact .inr rfl) (pd_lstM pd_aN))
  (pd_cons (pd_for PassesOwn.never rfl (pd_walk (pd_call (ok_numbers T) hr (by decide) rfl T.f_numbers.m T.f_numbers.F.kp T.f_numbers.b (pd_aC (pe_nm (pv 0)) pd_aN))) (pd_gNm (i := 2) sc_recovered.nd rfl (by first | exact .inl rfl | exact .inr rfl)) (pd_cons (pd_set (i := 3) sc_recovered.nd rfl (by first | exact .inl rfl | exact .inr rfl) (pd_op opAdd sAdd (pd_op opAdd sAdd pd_str (pd_callTy call_str_int sStr rfl T.z_str bt_str (pd_aC (pe_nm (pv 2)) pd_aN))) pd_str))
  (pd_one1 (pd_ifS (pd_cmpT (opNin (hu_of hr)) sNin (pd_op opAdd sAdd (pe_nm (pv 3)) pd_str) (pe_nm (pv 0)) rfl) (pd_one1 (pd_expr (pd_bmL F.slot_list_extend F.type_list_extend mt_extend sExt (pe_nm (pv 1)) (pd_aC (new_fz (pd_lc rfl sc_recovered.nd (own := [("path", 4)]) (pd_walk (pd_callB (cSorted rfl) sSorted rfl T.z_sorted bt_sorted (pd_aC (pe_nm (pv 0)) pd_aN))) (blkOk_by rfl) (fun _ _ _ _ _ => (pd_cNm (i := 4) sc_recovered.nd rfl (by simp) (by first | exact .inl rfl | exact .inr rfl))) (fun _ _ _ _ _ => (pd_t1 (pd_tru (pd_sm1 F.slot_str_startswith F.type_str_startswith mt_startswith sStarts (pe_nm (pv 4)) (pe_nm (pv 3)))))) (fun _ _ _ _ _ => (pd_tup (pd_aC (pe_nm (pv 4)) (pd_aC pd_non pd_aN)))))) pd_aN)))) pd_nil))))
  (pd_one1 (pd_ret (pe_nz (pv 1))))))
theorem ok_back_writes (T : Top K mg C) : FnOk P w K mg base CX0 4 T.f_back_writes.a T.f_back_writes.d ["disk", "number"] (spD K C 2 fs_back_writes) := by
  refine fnD_ok (n0 := 2) T.f_back_writes.F sc_back_writes rfl rfl (fs_back_writes.eq_def) ?_
  intro cdv A outer s H E hr
  unfold fb_back_writes
  exact (pd_cons (pd_ifS (pd_cmpT opIs sIs (pd_call (ok_files_of T) hr (by decide) rfl T.f_files_of.m T.f_files_of.F.kp T.f_files_of.b (pd_aC (pe_nm (pv 0)) (pd_aC (pe_nm (pv 1)) pd_aN))) pd_non (nomark _)) (pd_one1 pd_never) pd_nil)
  (pd_one1 (pd_ret (pd_lst (pd_aC (pd_tup (pd_aC pd_str (pd_aC (pd_callTy call_str_int sStr rfl T.z_str bt_str (pd_aC (pe_nm (pv 1)) pd_aN)) pd_aN))) pd_aN)))))
theorem ok_clean_writes (T : Top K mg C) : FnOk P w K mg base CX0 5 T.f_clean_writes.a T.f_clean_writes.d ["disk", "count"] (spD K C 2 fs_clean_writes) := by
  refine fnD_ok (n0 := 8) T.f_clean_writes.F sc_clean_writes rfl rfl (fs_clean_writes.eq_def) ?_
  intro cdv A outer s H E hr
  unfold fb_clean_writes
  exact (pd_cons (pd_set (i := 2) sc_clean_writes.nd rfl (by first | exact .inl rfl | exact .inr rfl) (pd_ix (hu_of hr) (pd_call (ok_current T) hr (by decide) rfl T.f_current.m T.f_current.F.kp T.f_current.b (pd_aC (pe_nm (pv 0)) pd_aN)) pd_int))
  (pd_cons (pd_set (i := 3) sc_clean_writes.nd rfl (by first | exact .inl rfl | exact .inr rfl) (pd_op opAdd sAdd (pd_slice (pd_rev (new_fz (pd_lc rfl sc_clean_writes.nd (own := [("number", 5)]) (pd_walk (pd_call (ok_whole_numbers T) hr (by decide) rfl T.f_whole_numbers.m T.f_whole_numbers.F.kp T.f_whole_numbers.b (pd_aC (pe_nm (pv 0)) pd_aN))) (blkOk_by rfl) (fun _ _ _ _ _ => (pd_cNm (i := 5) sc_clean_writes.nd rfl (by simp) (by first | exact .inl rfl | exact .inr rfl))) (fun _ _ _ _ _ => (pd_t1 (pd_cmpT (opNe hr.units) sNe (pe_nm (pv 5)) (pe_nm (pv 2)) (nomark _)))) (fun _ _ _ _ _ => (pe_nm (pv 5)))))) pd_poN (pd_poS (pe_nm (pv 1)))) (pd_lst (pd_aC (pe_nm (pv 2)) pd_aN))))
  (pd_cons (pd_set (i := 4) sc_clean_writes.nd rfl (by first | exact .inl rfl | exact .inr rfl) (pd_lstM pd_aN))
  (pd_cons (pd_for PassesOwn.never rfl (pd_walk (pd_call (ok_numbers T) hr (by decide) rfl T.f_numbers.m T.f_numbers.F.kp T.f_numbers.b (pd_aC (pe_nm (pv 0)) pd_aN))) (pd_gNm (i := 5) sc_clean_writes.nd rfl (by first | exact .inl rfl | exact .inr rfl)) (pd_one1 (pd_ifS (pd_cmpT (opNin (hu_of hr)) sNin (pe_nm (pv 5)) (pe_nm (pv 3)) rfl) (pd_cons (pd_set (i := 6) sc_clean_writes.nd rfl (by first | exact .inl rfl | exact .inr rfl) (pd_op opAdd sAdd (pd_op opAdd sAdd pd_str (pd_callTy call_str_int sStr rfl T.z_str bt_str (pd_aC (pe_nm (pv 5)) pd_aN))) pd_str))
  (pd_cons (pd_expr (pd_bmL F.slot_list_append F.type_list_append mt_append sApp (pe_nm (pv 4)) (pd_aC (pd_tup (pd_aC (pd_op opAdd sAdd (pe_nm (pv 6)) pd_str) (pd_aC pd_non pd_aN))) pd_aN)))
  (pd_one1 (pd_expr (pd_bmL F.slot_list_extend F.type_list_extend mt_extend sExt (pe_nm (pv 4)) (pd_aC (new_fz (pd_lc rfl sc_clean_writes.nd (own := [("path", 7)]) (pd_walk (pd_callB (cSorted rfl) sSorted rfl T.z_sorted bt_sorted (pd_aC (pe_nm (pv 0)) pd_aN))) (blkOk_by rfl) (fun _ _ _ _ _ => (pd_cNm (i := 7) sc_clean_writes.nd rfl (by simp) (by first | exact .inl rfl | exact .inr rfl))) (fun _ _ _ _ _ => (pd_t1 (pd_tru (pd_sm1 F.slot_str_startswith F.type_str_startswith mt_startswith sStarts (pe_nm (pv 7)) (pd_op opAdd sAdd (pe_nm (pv 6)) pd_str))))) (fun _ _ _ _ _ => (pd_tup (pd_aC (pe_nm (pv 7)) (pd_aC pd_non pd_aN)))))) pd_aN)))))) pd_nil)))
  (pd_one1 (pd_ret (pe_nz (pv 4))))))))
theorem ok_after (T : Top K mg C) : FnOk P w K mg base CX0 2 T.f_after.a T.f_after.d ["disk", "writes", "count"] (spD K C 3 fs_after) := by
  refine fnD_ok (n0 := 5) T.f_after.F sc_after rfl rfl (fs_after.eq_def) ?_
  intro cdv A outer s H E hr
  unfold fb_after
  exact (pd_cons (pd_set (i := 3) sc_after.nd rfl (by first | exact .inl rfl | exact .inr rfl) (new_ob (pd_newTy (cDict rfl) sDict rfl T.z_dict bt_dict (pd_aC (pe_nm (pv 0)) pd_aN))))
  (pd_cons (pd_for PassesOwn.never rfl (pd_walk (pd_slice (pe_nm (pv 1)) pd_poN (pd_poS (pe_nm (pv 2))))) (pd_gNm (i := 4) sc_after.nd rfl (by first | exact .inl rfl | exact .inr rfl)) (pd_one1 (pd_expr (pd_call (ok_put T) hr (by decide) rfl T.f_put.m T.f_put.F.kp T.f_put.b (pd_aC (pe_nm (pv 3)) (pd_aC (pe_nm (pv 4)) pd_aN))))))
  (pd_one1 (pd_ret (pe_nz (pv 3))))))
theorem ok__law_tape (T : Top K mg C) : FnOk P w K mg base CX0 1 T.f__law_tape.a T.f__law_tape.d ["script"] (spD K C 1 fs__law_tape) := by
  refine fnD_ok (n0 := 4) T.f__law_tape.F sc__law_tape rfl rfl (fs__law_tape.eq_def) ?_
  intro cdv A outer s H E hr
  unfold fb__law_tape
  exact (pd_cons (pd_setLcF (i := 1) rfl sc__law_tape.nd rfl rfl (sw_true rfl rfl rfl rfl) (own := [("cell", 3)]) (pd_walk (pe_nm (pv 0))) (blkOk_by rfl) (fun _ _ _ _ _ => (pd_cNm (i := 3) sc__law_tape.nd rfl (by simp) (by first | exact .inl rfl | exact .inr rfl))) (fun _ _ _ _ _ => pd_tN) (fun _ _ _ _ _ => (pd_callB call_abs sAbs rfl T.z_abs bt_abs (pd_aC (pd_callTy cInt sInt rfl T.z_int bt_int (pd_aC (pe_nm (pv 3)) pd_aN)) pd_aN))))
  (pd_cons (pd_set (i := 2) sc__law_tape.nd rfl (by first | exact .inl rfl | exact .inr rfl) pd_int)
  (pd_cons (pd_for PassesOwn.never rfl (pd_walk (pe_nm (pv 1))) (pd_gNm (i := 3) sc__law_tape.nd rfl (by first | exact .inl rfl | exact .inr rfl)) (pd_one1 (pd_set (i := 2) sc__law_tape.nd rfl (by first | exact .inl rfl | exact .inr rfl) (pd_op op_mod sMod (pd_callTy cInt sInt rfl T.z_int bt_int (pd_aC (pd_op opAdd sAdd (pd_op opMul sMul (pe_nm (pv 2)) pd_int) (pe_nm (pv 3))) pd_aN)) pd_int))))
  (pd_one1 (pd_ret (new_ob (pd_disp (prs := [((ck (.str "cells")), (nm 1)), ((ck (.str "at")), (ck (.int 0))), ((ck (.str "left")), (ck (.int 0))), ((ck (.str "seed")), (nm 2)), ((ck (.str "salt")), (ck (.int 0)))]) (pps_cons pd_str (pe_nm (pv 1)) (pps_cons pd_str pd_int (pps_cons pd_str pd_int (pps_cons pd_str (pe_nm (pv 2)) (pps_cons pd_str pd_int pps_nil))))) rfl rfl (by simp) (by decide))))))))
theorem ok__law_take (T : Top K mg C) : FnOk P w K mg base CX0 1 T.f__law_take.a T.f__law_take.d ["tape", "many"] (spD K C 2 fs__law_take) := by
  refine fnD_ok (n0 := 4) T.f__law_take.F sc__law_take rfl rfl (fs__law_take.eq_def) ?_
  intro cdv A outer s H E hr
  unfold fb__law_take
  exact (pd_cons (pd_ifS (PW.pt (pd_andT (pd_cmpT (opEq hr.units) sEq (pd_ix (hu_of hr) (pe_nm (pv 0)) pd_str) pd_int (nomark _)) (pd_andT1 (pd_cmpT opLt sLt (pd_ix (hu_of hr) (pe_nm (pv 0)) pd_str) (pd_callB cLen sLen rfl T.z_len bt_len (pd_aC (pd_ix (hu_of hr) (pe_nm (pv 0)) pd_str) pd_aN)) (nomark _))))) (pd_cons (pd_put (hu_of hr) (pd_ix (hu_of hr) (pd_ix (hu_of hr) (pe_nm (pv 0)) pd_str) (pd_ix (hu_of hr) (pe_nm (pv 0)) pd_str)) (pe_nm (pv 0)) pd_str)
  (pd_one1 (pd_put (hu_of hr) (pd_op opAdd sAdd (pd_ix (hu_of hr) (pe_nm (pv 0)) pd_str) pd_int) (pe_nm (pv 0)) pd_str))) pd_nil)
  (pd_cons (pd_ifS (pd_cmpT opGt sGt (pd_ix (hu_of hr) (pe_nm (pv 0)) pd_str) pd_int (nomark _)) (pd_cons (pd_set (i := 2) sc__law_take.nd rfl (by first | exact .inl rfl | exact .inr rfl) (pd_op op_mod sMod (pd_callTy cInt sInt rfl T.z_int bt_int (pd_aC (pd_ix (hu_of hr) (pe_nm (pv 0)) pd_str) pd_aN)) (pe_nm (pv 1))))
  (pd_cons (pd_put (hu_of hr) (pd_op op_fdiv sFdv (pd_ix (hu_of hr) (pe_nm (pv 0)) pd_str) (pe_nm (pv 1))) (pe_nm (pv 0)) pd_str)
  (pd_one1 (pd_ret (pe_nm (pv 2)))))) pd_nil)
  (pd_cons (pd_put (hu_of hr) (pd_op opAdd sAdd (pd_ix (hu_of hr) (pe_nm (pv 0)) pd_str) pd_int) (pe_nm (pv 0)) pd_str)
  (pd_cons (pd_set (i := 3) sc__law_take.nd rfl (by first | exact .inl rfl | exact .inr rfl) (pd_op op_mod sMod (pd_callTy cInt sInt rfl T.z_int bt_int (pd_aC (pd_op opAdd sAdd (pd_op opMul sMul (pd_ix (hu_of hr) (pe_nm (pv 0)) pd_str) pd_int) (pd_op opMul sMul (pd_ix (hu_of hr) (pe_nm (pv 0)) pd_str) pd_int)) pd_aN)) pd_int))
  (pd_cons (pd_set (i := 3) sc__law_take.nd rfl (by first | exact .inl rfl | exact .inr rfl) (pd_op op_mod sMod (pd_callTy cInt sInt rfl T.z_int bt_int (pd_aC (pd_op opAdd sAdd (pd_op opAdd sAdd (pd_op opMul sMul (pe_nm (pv 3)) (pe_nm (pv 3))) (pd_op opMul sMul (pd_ix (hu_of hr) (pe_nm (pv 0)) pd_str) pd_int)) pd_int) pd_aN)) pd_int))
  (pd_one1 (pd_ret (pd_op op_mod sMod (pd_callTy cInt sInt rfl T.z_int bt_int (pd_aC (pe_nm (pv 3)) pd_aN)) (pe_nm (pv 1))))))))))
theorem ok__law_digest (T : Top K mg C) : FnOk P w K mg base CX0 1 T.f__law_digest.a T.f__law_digest.d ["text"] (spD K C 1 fs__law_digest) := by
  refine fnD_ok (n0 := 5) T.f__law_digest.F sc__law_digest rfl rfl (fs__law_digest.eq_def) ?_
  intro cdv A outer s H E hr
  unfold fb__law_digest
  exact (pd_cons (pd_par (i := 1) (j := 2) rfl sc__law_digest.nd rfl rfl (by decide) rfl rfl (pd_aC (pd_op opAdd sAdd (pd_callB cLen sLen rfl T.z_len bt_len (pd_aC (pe_nm (pv 0)) pd_aN)) pd_int) (pd_aC pd_str pd_aN)) rfl)
  (pd_cons (pd_for PassesOwn.never rfl (pd_walk (pe_nm (pv 0))) (pd_gNm (i := 3) sc__law_digest.nd rfl (by first | exact .inl rfl | exact .inr rfl)) (pd_one1 (pd_set (i := 1) sc__law_digest.nd rfl (by first | exact .inl rfl | exact .inr rfl) (pd_op op_mod sMod (pd_callTy cInt sInt rfl T.z_int bt_int (pd_aC (pd_op opAdd sAdd (pd_op opMul sMul (pe_nm (pv 1)) pd_int) (pd_callB call_ord sOrd rfl T.z_ord bt_ord (pd_aC (pe_nm (pv 3)) pd_aN))) pd_aN)) pd_int))))
  (pd_cons (pd_for PassesOwn.never rfl (pd_rng1 rfl T.z_range (pd_aC pd_int pd_aN)) (pd_gNm (i := 4) sc__law_digest.nd rfl (by first | exact .inl rfl | exact .inr rfl)) (pd_cons (pd_set (i := 2) sc__law_digest.nd rfl (by first | exact .inl rfl | exact .inr rfl) (pd_op opAdd sAdd (pd_ix (hu_of hr) pd_str (pd_op op_mod sMod (pd_callTy cInt sInt rfl T.z_int bt_int (pd_aC (pe_nm (pv 1)) pd_aN)) pd_int)) (pe_nm (pv 2))))
  (pd_one1 (pd_set (i := 1) sc__law_digest.nd rfl (by first | exact .inl rfl | exact .inr rfl) (pd_op op_fdiv sFdv (pe_nm (pv 1)) pd_int)))))
  (pd_one1 (pd_ret (pe_nm (pv 2)))))))
theorem ok__law_name (T : Top K mg C) : FnOk P w K mg base CX0 2 T.f__law_name.a T.f__law_name.d ["met", "text"] (spD K C 2 fs__law_name) := by
  refine fnD_ok (n0 := 3) T.f__law_name.F sc__law_name rfl rfl (fs__law_name.eq_def) ?_
  intro cdv A outer s H E hr
  unfold fb__law_name
  exact (pd_cons (pd_set (i := 2) sc__law_name.nd rfl (by first | exact .inl rfl | exact .inr rfl) (pd_call (ok__law_digest T) hr (by decide) rfl T.f__law_digest.m T.f__law_digest.F.kp T.f__law_digest.b (pd_aC (pe_nm (pv 1)) pd_aN)))
  (pd_cons (pd_ifS (pd_cmpT (opNe hr.units) sNe (pd_get2 (hu_of hr) (pe_nm (pv 0)) (pe_nm (pv 2)) (pe_nm (pv 1))) (pe_nm (pv 1)) (nomark _)) (pd_one1 (pd_put (hu_of hr) (pe_nm (pv 2)) (pe_nm (pv 0)) pd_str)) pd_nil)
  (pd_cons (pd_put (hu_of hr) (pe_nm (pv 1)) (pe_nm (pv 0)) (pe_nm (pv 2)))
  (pd_one1 (pd_ret (pe_nm (pv 2)))))))
theorem ok__law_image (T : Top K mg C) : FnOk P w K mg base CX0 1 T.f__law_image.a T.f__law_image.d ["files"] (spD K C 1 fs__law_image) := by
  refine fnD_ok (n0 := 3) T.f__law_image.F sc__law_image rfl rfl (fs__law_image.eq_def) ?_
  intro cdv A outer s H E hr
  unfold fb__law_image
  exact (pd_cons (pd_set (i := 1) sc__law_image.nd rfl (by first | exact .inl rfl | exact .inr rfl) (pd_op opAdd sAdd (pd_op opAdd sAdd pd_str (pd_callTy call_str_int sStr rfl T.z_str bt_str (pd_aC (pd_callB cLen sLen rfl T.z_len bt_len (pd_aC (pe_nm (pv 0)) pd_aN)) pd_aN))) pd_str))
  (pd_cons (pd_for PassesOwn.never rfl (pd_walk (pd_callB (cSorted rfl) sSorted rfl T.z_sorted bt_sorted (pd_aC (pe_nm (pv 0)) pd_aN))) (pd_gNm (i := 2) sc__law_image.nd rfl (by first | exact .inl rfl | exact .inr rfl)) (pd_one1 (pd_set (i := 1) sc__law_image.nd rfl (by first | exact .inl rfl | exact .inr rfl) (pd_op opAdd sAdd (pd_op opAdd sAdd (pd_op opAdd sAdd (pd_op opAdd sAdd (pd_op opAdd sAdd (pd_op opAdd sAdd (pe_nm (pv 1)) (pe_nm (pv 2))) pd_str) (pd_callTy call_str_int sStr rfl T.z_str bt_str (pd_aC (pd_callB cLen sLen rfl T.z_len bt_len (pd_aC (pd_ix (hu_of hr) (pe_nm (pv 0)) (pe_nm (pv 2))) pd_aN)) pd_aN))) pd_str) (pd_ix (hu_of hr) (pe_nm (pv 0)) (pe_nm (pv 2)))) pd_str))))
  (pd_one1 (pd_ret (pe_nm (pv 1))))))
theorem ok__law_after (T : Top K mg C) : FnOk P w K mg base CX0 1 T.f__law_after.a T.f__law_after.d ["flat", "writes", "count"] (spD K C 3 fs__law_after) := by
  refine fnD_ok (n0 := 6) T.f__law_after.F sc__law_after rfl rfl (fs__law_after.eq_def) ?_
  intro cdv A outer s H E hr
  unfold fb__law_after
  exact (pd_cons (pd_set (i := 3) sc__law_after.nd rfl (by first | exact .inl rfl | exact .inr rfl) (new_ob (pd_newTy (cDict rfl) sDict rfl T.z_dict bt_dict (pd_aC (pd_itemsL rfl (pe_nm (pv 0)) rfl T.z_list) pd_aN))))
  (pd_cons (pd_for PassesOwn.never rfl (pd_walk (pd_slice (pe_nm (pv 1)) pd_poN (pd_poS (pe_nm (pv 2))))) (pd_gTp rfl (pd_gCn (pd_gNm (i := 4) sc__law_after.nd rfl (by first | exact .inl rfl | exact .inr rfl)) (pd_gCn (pd_gNm (i := 5) sc__law_after.nd rfl (by first | exact .inl rfl | exact .inr rfl)) pd_gNl))) (pd_one1 (pd_ifS (pd_cmpT opIs sIs (pe_nm (pv 5)) pd_non (nomark _)) (pd_one1 (pd_expr (pd_dpop2 (pe_nm (pv 3)) (pe_nm (pv 4)) pd_non))) (pd_one1 (pd_put (hu_of hr) (pe_nm (pv 5)) (pe_nm (pv 3)) (pe_nm (pv 4)))))))
  (pd_one1 (pd_ret (pe_nz (pv 3))))))
theorem ok__law_generation (T : Top K mg C) : FnOk P w K mg base CX0 1 T.f__law_generation.a T.f__law_generation.d ["head"] (spD K C 1 fs__law_generation) := by
  refine fnD_ok (n0 := 3) T.f__law_generation.F sc__law_generation rfl rfl (fs__law_generation.eq_def) ?_
  intro cdv A outer s H E hr
  unfold fb__law_generation
  exact (pd_cons (pd_set (i := 1) sc__law_generation.nd rfl (by first | exact .inl rfl | exact .inr rfl) (pd_slice (pe_nm (pv 0)) (pd_poS pd_int) pd_poN))
  (pd_cons (pd_ifS (PW.pt (pd_orT (pd_cmpT (opNe hr.units) sNe (pd_slice (pe_nm (pv 0)) pd_poN (pd_poS pd_int)) pd_str (nomark _)) (pd_orT (pd_cmpT (opEq hr.units) sEq (pe_nm (pv 1)) pd_str (nomark _)) (pd_orT (pd_cmpT opGt sGt (pd_callB cLen sLen rfl T.z_len bt_len (pd_aC (pe_nm (pv 1)) pd_aN)) pd_int (nomark _)) (pd_orT (pd_tru (pd_callB (cr_any rfl) sAny rfl T.z_any bt_any (pd_aC (new_fz (pd_lc rfl sc__law_generation.nd (own := [("sign", 2)]) (pd_walk (pe_nm (pv 1))) (blkOk_by rfl) (fun _ _ _ _ _ => (pd_cNm (i := 2) sc__law_generation.nd rfl (by simp) (by first | exact .inl rfl | exact .inr rfl))) (fun _ _ _ _ _ => pd_tN) (fun _ _ _ _ _ => (pd_cmp (opNin (hu_of hr)) sNin (pe_nm (pv 2)) pd_str rfl)))) pd_aN))) (pd_orT1 (PW.pt (pd_andT (pd_cmpT (opNe hr.units) sNe (pe_nm (pv 1)) pd_str (nomark _)) (pd_andT1 (pd_cmpT (opEq hr.units) sEq (pd_ix (hu_of hr) (pe_nm (pv 1)) pd_int) pd_str (nomark _))))))))))) (pd_one1 (pd_ret (pd_neg pd_int))) pd_nil)
  (pd_one1 (pd_ret (pd_callTy cInt sInt rfl T.z_int bt_int (pd_aC (pe_nm (pv 1)) pd_aN))))))
theorem ok__law_numbers (T : Top K mg C) : FnOk P w K mg base CX0 2 T.f__law_numbers.a T.f__law_numbers.d ["flat"] (spD K C 1 fs__law_numbers) := by
  refine fnD_ok (n0 := 4) T.f__law_numbers.F sc__law_numbers rfl rfl (fs__law_numbers.eq_def) ?_
  intro cdv A outer s H E hr
  unfold fb__law_numbers
  exact (pd_cons (pd_setLcF (i := 1) rfl sc__law_numbers.nd rfl rfl (sw_true rfl rfl rfl rfl) (own := [("path", 2)]) (pd_walk (pe_nm (pv 0))) (blkOk_by rfl) (fun _ _ _ _ _ => (pd_cNm (i := 2) sc__law_numbers.nd rfl (by simp) (by first | exact .inl rfl | exact .inr rfl))) (fun _ _ _ _ _ => pd_tN) (fun _ _ _ _ _ => (pd_call (ok__law_generation T) hr (by decide) rfl T.f__law_generation.m T.f__law_generation.F.kp T.f__law_generation.b (pd_aC (pd_ix (hu_of hr) (pd_sm1 F.slot_str_split F.type_str_split mt_split sSplit (pe_nm (pv 2)) pd_str) pd_int) pd_aN))))
  (pd_one1 (pd_ret (pd_sortSet rfl rfl T.z_sorted rfl T.z_set (pd_aC (new_fz (pd_lc rfl sc__law_numbers.nd (own := [("number", 3)]) (pd_walk (pe_nm (pv 1))) (blkOk_by rfl) (fun _ _ _ _ _ => (pd_cNm (i := 3) sc__law_numbers.nd rfl (by simp) (by first | exact .inl rfl | exact .inr rfl))) (fun _ _ _ _ _ => (pd_t1 (pd_cmpT opGe sGe (pe_nm (pv 3)) pd_int (nomark _)))) (fun _ _ _ _ _ => (pe_nm (pv 3))))) pd_aN)))))
theorem ok__law_files_of (T : Top K mg C) : FnOk P w K mg base CX0 2 T.f__law_files_of.a T.f__law_files_of.d ["flat", "number"] (spD K C 2 fs__law_files_of) := by
  refine fnD_ok (n0 := 6) T.f__law_files_of.F sc__law_files_of rfl rfl (fs__law_files_of.eq_def) ?_
  intro cdv A outer s H E hr
  unfold fb__law_files_of
  exact (pd_cons (pd_set (i := 2) sc__law_files_of.nd rfl (by first | exact .inl rfl | exact .inr rfl) (pd_op opAdd sAdd (pd_op opAdd sAdd pd_str (pd_callTy call_str_int sStr rfl T.z_str bt_str (pd_aC (pe_nm (pv 1)) pd_aN))) pd_str))
  (pd_cons (pd_set (i := 3) sc__law_files_of.nd rfl (by first | exact .inl rfl | exact .inr rfl) (new_fz (pd_newTy (cDict rfl) sDict rfl T.z_dict bt_dict (pd_aC (new_fz (pd_lc rfl sc__law_files_of.nd (own := [("path", 5)]) (pd_walk (pe_nm (pv 0))) (blkOk_by rfl) (fun _ _ _ _ _ => (pd_cNm (i := 5) sc__law_files_of.nd rfl (by simp) (by first | exact .inl rfl | exact .inr rfl))) (fun _ _ _ _ _ => (pd_t1 (pd_cmpT (opEq hr.units) sEq (pd_slice (pe_nm (pv 5)) pd_poN (pd_poS (pd_callB cLen sLen rfl T.z_len bt_len (pd_aC (pe_nm (pv 2)) pd_aN)))) (pe_nm (pv 2)) (nomark _)))) (fun _ _ _ _ _ => (pd_tup (pd_aC (pd_slice (pe_nm (pv 5)) (pd_poS (pd_callB cLen sLen rfl T.z_len bt_len (pd_aC (pe_nm (pv 2)) pd_aN))) pd_poN) (pd_aC (pd_ix (hu_of hr) (pe_nm (pv 0)) (pe_nm (pv 5))) pd_aN)))))) pd_aN))))
  (pd_cons (pd_set (i := 4) sc__law_files_of.nd rfl (by first | exact .inl rfl | exact .inr rfl) (pd_get2 (hu_of hr) (pe_nm (pv 0)) (pd_op opAdd sAdd (pd_op opAdd sAdd pd_str (pd_callTy call_str_int sStr rfl T.z_str bt_str (pd_aC (pe_nm (pv 1)) pd_aN))) pd_str) pd_non))
  (pd_one1 (pd_ret (pd_if (PW.pt (pd_andT (pd_cmpT opIsNot sIsNot (pe_nm (pv 4)) pd_non (nomark _)) (pd_andT1 (pd_cmpT (opEq hr.units) sEq (pd_call (ok__law_digest T) hr (by decide) rfl T.f__law_digest.m T.f__law_digest.F.kp T.f__law_digest.b (pd_aC (pd_call (ok__law_image T) hr (by decide) rfl T.f__law_image.m T.f__law_image.F.kp T.f__law_image.b (pd_aC (pe_nm (pv 3)) pd_aN)) pd_aN)) (pe_nm (pv 4)) (nomark _))))) (pe_nm (pv 3)) pd_non))))))
theorem ok__law_whole (T : Top K mg C) : FnOk P w K mg base CX0 3 T.f__law_whole.a T.f__law_whole.d ["flat"] (spD K C 1 fs__law_whole) := by
  refine fnD_ok (n0 := 2) T.f__law_whole.F sc__law_whole rfl rfl (fs__law_whole.eq_def) ?_
  intro cdv A outer s H E hr
  unfold fb__law_whole
  exact (pd_one1 (pd_ret (new_fz (pd_lc rfl sc__law_whole.nd (own := [("number", 1)]) (pd_walk (pd_call (ok__law_numbers T) hr (by decide) rfl T.f__law_numbers.m T.f__law_numbers.F.kp T.f__law_numbers.b (pd_aC (pe_nm (pv 0)) pd_aN))) (blkOk_by rfl) (fun _ _ _ _ _ => (pd_cNm (i := 1) sc__law_whole.nd rfl (by simp) (by first | exact .inl rfl | exact .inr rfl))) (fun _ _ _ _ _ => (pd_t1 (pd_cmpT opIsNot sIsNot (pd_call (ok__law_files_of T) hr (by decide) rfl T.f__law_files_of.m T.f__law_files_of.F.kp T.f__law_files_of.b (pd_aC (pe_nm (pv 0)) (pd_aC (pe_nm (pv 1)) pd_aN))) pd_non (nomark _)))) (fun _ _ _ _ _ => (pe_nm (pv 1)))))))
theorem ok__law_current (T : Top K mg C) : FnOk P w K mg base CX0 3 T.f__law_current.a T.f__law_current.d ["flat"] (spD K C 1 fs__law_current) := by
  refine fnD_ok (n0 := 2) T.f__law_current.F sc__law_current rfl rfl (fs__law_current.eq_def) ?_
  intro cdv A outer s H E hr
  unfold fb__law_current
  exact (pd_cons (pd_set (i := 1) sc__law_current.nd rfl (by first | exact .inl rfl | exact .inr rfl) (pd_call (ok__law_generation T) hr (by decide) rfl T.f__law_generation.m T.f__law_generation.F.kp T.f__law_generation.b (pd_aC (pd_op opAdd sAdd pd_str (pd_get2 (hu_of hr) (pe_nm (pv 0)) pd_str pd_str)) pd_aN)))
  (pd_cons (pd_ifS (PW.pt (pd_orT (pd_cmpT opLt sLt (pe_nm (pv 1)) pd_int (nomark _)) (pd_orT1 (pd_cmpT opIs sIs (pd_call (ok__law_files_of T) hr (by decide) rfl T.f__law_files_of.m T.f__law_files_of.F.kp T.f__law_files_of.b (pd_aC (pe_nm (pv 0)) (pd_aC (pe_nm (pv 1)) pd_aN))) pd_non (nomark _))))) (pd_one1 (pd_ret pd_non)) pd_nil)
  (pd_one1 (pd_ret (pd_tup (pd_aC (pe_nm (pv 1)) (pd_aC (pd_call (ok__law_image T) hr (by decide) rfl T.f__law_image.m T.f__law_image.F.kp T.f__law_image.b (pd_aC (pd_call (ok__law_files_of T) hr (by decide) rfl T.f__law_files_of.m T.f__law_files_of.F.kp T.f__law_files_of.b (pd_aC (pe_nm (pv 0)) (pd_aC (pe_nm (pv 1)) pd_aN))) pd_aN)) pd_aN)))))))
theorem ok__law_install (T : Top K mg C) : FnOk P w K mg base CX0 3 T.f__law_install.a T.f__law_install.d ["flat", "files"] (spD K C 2 fs__law_install) := by
  refine fnD_ok (n0 := 5) T.f__law_install.F sc__law_install rfl rfl (fs__law_install.eq_def) ?_
  intro cdv A outer s H E hr
  unfold fb__law_install
  exact (pd_cons (pd_set (i := 2) sc__law_install.nd rfl (by first | exact .inl rfl | exact .inr rfl) (pd_op opAdd sAdd (pd_callB (cMax rfl) sMax rfl T.z_max bt_max (pd_aC (pd_op opAdd sAdd (pd_lst (pd_aC pd_int pd_aN)) (pd_call (ok__law_numbers T) hr (by decide) rfl T.f__law_numbers.m T.f__law_numbers.F.kp T.f__law_numbers.b (pd_aC (pe_nm (pv 0)) pd_aN))) pd_aN)) pd_int))
  (pd_cons (pd_set (i := 3) sc__law_install.nd rfl (by first | exact .inl rfl | exact .inr rfl) (pd_op opAdd sAdd (pd_op opAdd sAdd pd_str (pd_callTy call_str_int sStr rfl T.z_str bt_str (pd_aC (pe_nm (pv 2)) pd_aN))) pd_str))
  (pd_one1 (pd_ret (pd_op opAdd sAdd (new_fz (pd_lc rfl sc__law_install.nd (own := [("path", 4)]) (pd_walk (pd_callB (cSorted rfl) sSorted rfl T.z_sorted bt_sorted (pd_aC (pe_nm (pv 1)) pd_aN))) (blkOk_by rfl) (fun _ _ _ _ _ => (pd_cNm (i := 4) sc__law_install.nd rfl (by simp) (by first | exact .inl rfl | exact .inr rfl))) (fun _ _ _ _ _ => pd_tN) (fun _ _ _ _ _ => (pd_tup (pd_aC (pd_op opAdd sAdd (pd_op opAdd sAdd (pe_nm (pv 3)) pd_str) (pe_nm (pv 4))) (pd_aC (pd_ix (hu_of hr) (pe_nm (pv 1)) (pe_nm (pv 4))) pd_aN)))))) (pd_lst (pd_aC (pd_tup (pd_aC (pd_op opAdd sAdd (pe_nm (pv 3)) pd_str) (pd_aC (pd_call (ok__law_digest T) hr (by decide) rfl T.f__law_digest.m T.f__law_digest.F.kp T.f__law_digest.b (pd_aC (pd_call (ok__law_image T) hr (by decide) rfl T.f__law_image.m T.f__law_image.F.kp T.f__law_image.b (pd_aC (pe_nm (pv 1)) pd_aN)) pd_aN)) pd_aN))) (pd_aC (pd_tup (pd_aC pd_str (pd_aC (pd_callTy call_str_int sStr rfl T.z_str bt_str (pd_aC (pe_nm (pv 2)) pd_aN)) pd_aN))) pd_aN))))))))
theorem ok__law_recover (T : Top K mg C) : FnOk P w K mg base CX0 3 T.f__law_recover.a T.f__law_recover.d ["flat"] (spD K C 1 fs__law_recover) := by
  refine fnD_ok (n0 := 5) T.f__law_recover.F sc__law_recover rfl rfl (fs__law_recover.eq_def) ?_
  intro cdv A outer s H E hr
  unfold fb__law_recover
  exact (pd_cons (pd_set (i := 1) sc__law_recover.nd rfl (by first | exact .inl rfl | exact .inr rfl) (pd_lst pd_aN))
  (pd_cons (pd_for PassesOwn.never rfl (pd_walk (pd_call (ok__law_numbers T) hr (by decide) rfl T.f__law_numbers.m T.f__law_numbers.F.kp T.f__law_numbers.b (pd_aC (pe_nm (pv 0)) pd_aN))) (pd_gNm (i := 2) sc__law_recover.nd rfl (by first | exact .inl rfl | exact .inr rfl)) (pd_cons (pd_set (i := 3) sc__law_recover.nd rfl (by first | exact .inl rfl | exact .inr rfl) (pd_op opAdd sAdd (pd_op opAdd sAdd pd_str (pd_callTy call_str_int sStr rfl T.z_str bt_str (pd_aC (pe_nm (pv 2)) pd_aN))) pd_str))
  (pd_one1 (pd_ifS (pd_cmpT (opNin (hu_of hr)) sNin (pd_op opAdd sAdd (pe_nm (pv 3)) pd_str) (pe_nm (pv 0)) rfl) (pd_one1 (pd_set (i := 1) sc__law_recover.nd rfl (by first | exact .inl rfl | exact .inr rfl) (pd_op opAdd sAdd (pe_nm (pv 1)) (new_fz (pd_lc rfl sc__law_recover.nd (own := [("path", 4)]) (pd_walk (pd_callB (cSorted rfl) sSorted rfl T.z_sorted bt_sorted (pd_aC (pe_nm (pv 0)) pd_aN))) (blkOk_by rfl) (fun _ _ _ _ _ => (pd_cNm (i := 4) sc__law_recover.nd rfl (by simp) (by first | exact .inl rfl | exact .inr rfl))) (fun _ _ _ _ _ => (pd_t1 (pd_cmpT (opEq hr.units) sEq (pd_slice (pe_nm (pv 4)) pd_poN (pd_poS (pd_callB cLen sLen rfl T.z_len bt_len (pd_aC (pe_nm (pv 3)) pd_aN)))) (pe_nm (pv 3)) (nomark _)))) (fun _ _ _ _ _ => (pd_tup (pd_aC (pe_nm (pv 4)) (pd_aC pd_non pd_aN))))))))) pd_nil))))
  (pd_one1 (pd_ret (pe_nm (pv 1))))))
theorem ok__law_clean (T : Top K mg C) : FnOk P w K mg base CX0 4 T.f__law_clean.a T.f__law_clean.d ["flat", "count"] (spD K C 2 fs__law_clean) := by
  refine fnD_ok (n0 := 8) T.f__law_clean.F sc__law_clean rfl rfl (fs__law_clean.eq_def) ?_
  intro cdv A outer s H E hr
  unfold fb__law_clean
  exact (pd_cons (pd_parG rfl (pd_aC (pd_ix (hu_of hr) (pd_call (ok__law_current T) hr (by decide) rfl T.f__law_current.m T.f__law_current.F.kp T.f__law_current.b (pd_aC (pe_nm (pv 0)) pd_aN)) pd_int) (pd_aC (pd_lst pd_aN) pd_aN)) (pd_gCn (pd_gNm (i := 2) sc__law_clean.nd rfl (by first | exact .inl rfl | exact .inr rfl)) (pd_gCn (pd_gNm (i := 3) sc__law_clean.nd rfl (by first | exact .inl rfl | exact .inr rfl)) pd_gNl)))
  (pd_cons (pd_set (i := 4) sc__law_clean.nd rfl (by first | exact .inl rfl | exact .inr rfl) (pd_op opAdd sAdd (pd_slice (pd_rev (new_fz (pd_lc rfl sc__law_clean.nd (own := [("number", 5)]) (pd_walk (pd_call (ok__law_whole T) hr (by decide) rfl T.f__law_whole.m T.f__law_whole.F.kp T.f__law_whole.b (pd_aC (pe_nm (pv 0)) pd_aN))) (blkOk_by rfl) (fun _ _ _ _ _ => (pd_cNm (i := 5) sc__law_clean.nd rfl (by simp) (by first | exact .inl rfl | exact .inr rfl))) (fun _ _ _ _ _ => (pd_t1 (pd_cmpT (opNe hr.units) sNe (pe_nm (pv 5)) (pe_nm (pv 2)) (nomark _)))) (fun _ _ _ _ _ => (pe_nm (pv 5)))))) pd_poN (pd_poS (pe_nm (pv 1)))) (pd_lst (pd_aC (pe_nm (pv 2)) pd_aN))))
  (pd_cons (pd_for PassesOwn.never rfl (pd_walk (pd_call (ok__law_numbers T) hr (by decide) rfl T.f__law_numbers.m T.f__law_numbers.F.kp T.f__law_numbers.b (pd_aC (pe_nm (pv 0)) pd_aN))) (pd_gNm (i := 5) sc__law_clean.nd rfl (by first | exact .inl rfl | exact .inr rfl)) (pd_cons (pd_set (i := 6) sc__law_clean.nd rfl (by first | exact .inl rfl | exact .inr rfl) (pd_op opAdd sAdd (pd_op opAdd sAdd pd_str (pd_callTy call_str_int sStr rfl T.z_str bt_str (pd_aC (pe_nm (pv 5)) pd_aN))) pd_str))
  (pd_one1 (pd_ifS (pd_cmpT (opNin (hu_of hr)) sNin (pe_nm (pv 5)) (pe_nm (pv 4)) rfl) (pd_one1 (pd_set (i := 3) sc__law_clean.nd rfl (by first | exact .inl rfl | exact .inr rfl) (pd_op opAdd sAdd (pd_op opAdd sAdd (pe_nm (pv 3)) (pd_lst (pd_aC (pd_tup (pd_aC (pd_op opAdd sAdd (pe_nm (pv 6)) pd_str) (pd_aC pd_non pd_aN))) pd_aN))) (new_fz (pd_lc rfl sc__law_clean.nd (own := [("path", 7)]) (pd_walk (pd_callB (cSorted rfl) sSorted rfl T.z_sorted bt_sorted (pd_aC (pe_nm (pv 0)) pd_aN))) (blkOk_by rfl) (fun _ _ _ _ _ => (pd_cNm (i := 7) sc__law_clean.nd rfl (by simp) (by first | exact .inl rfl | exact .inr rfl))) (fun _ _ _ _ _ => (pd_t1 (pd_cmpT (opEq hr.units) sEq (pd_slice (pe_nm (pv 7)) pd_poN (pd_poS (pd_op opAdd sAdd (pd_callB cLen sLen rfl T.z_len bt_len (pd_aC (pe_nm (pv 6)) pd_aN)) pd_int))) (pd_op opAdd sAdd (pe_nm (pv 6)) pd_str) (nomark _)))) (fun _ _ _ _ _ => (pd_tup (pd_aC (pe_nm (pv 7)) (pd_aC pd_non pd_aN))))))))) pd_nil))))
  (pd_one1 (pd_ret (pe_nm (pv 3)))))))
theorem ok__law_some_files (T : Top K mg C) : FnOk P w K mg base CX0 2 T.f__law_some_files.a T.f__law_some_files.d ["tape", "most"] (spD K C 2 fs__law_some_files) := by
  refine fnD_ok (n0 := 3) T.f__law_some_files.F sc__law_some_files rfl rfl (fs__law_some_files.eq_def) ?_
  intro cdv A outer s H E hr
  unfold fb__law_some_files
  exact (pd_one1 (pd_ret (new_fz (pd_newTy (cDict rfl) sDict rfl T.z_dict bt_dict (pd_aC (new_fz (pd_lc rfl sc__law_some_files.nd (own := [("k", 2)]) (pd_rng1 rfl T.z_range (pd_aC (pe_nm (pv 1)) pd_aN)) (blkOk_by rfl) (fun _ _ _ _ _ => (pd_cNm (i := 2) sc__law_some_files.nd rfl (by simp) (by first | exact .inl rfl | exact .inr rfl))) (fun _ _ _ _ _ => (pd_t1 (PW.pt (pd_orT (pd_cmpT (opEq hr.units) sEq (pe_nm (pv 2)) pd_int (nomark _)) (pd_orT1 (pd_cmpT (opEq hr.units) sEq (pd_call (ok__law_take T) hr (by decide) rfl T.f__law_take.m T.f__law_take.F.kp T.f__law_take.b (pd_aC (pe_nm (pv 0)) (pd_aC pd_int pd_aN))) pd_int (nomark _))))))) (fun _ _ _ _ _ => (pd_tup (pd_aC (pd_ix (hu_of hr) (pd_lst (pd_aC pd_str (pd_aC pd_str (pd_aC pd_str (pd_aC pd_str (pd_aC pd_str pd_aN)))))) (pe_nm (pv 2))) (pd_aC (pd_op opAdd sAdd (pd_op opAdd sAdd pd_str (pd_callTy call_str_int sStr rfl T.z_str bt_str (pd_aC (pd_call (ok__law_take T) hr (by decide) rfl T.f__law_take.m T.f__law_take.F.kp T.f__law_take.b (pd_aC (pe_nm (pv 0)) (pd_aC pd_int pd_aN))) pd_aN))) (pd_op opMul sMul pd_str (pd_call (ok__law_take T) hr (by decide) rfl T.f__law_take.m T.f__law_take.F.kp T.f__law_take.b (pd_aC (pe_nm (pv 0)) (pd_aC pd_int pd_aN))))) pd_aN)))))) pd_aN)))))
theorem ok__law_patched (T : Top K mg C) : FnOk P w K mg base CX0 5 T.f__law_patched.a T.f__law_patched.d ["text", "told"] (spD K C 2 fs__law_patched) := by
  refine fnD_ok (n0 := 2) T.f__law_patched.F sc__law_patched rfl rfl (fs__law_patched.eq_def) ?_
  intro cdv A outer s H E hr
  unfold fb__law_patched
  exact (pd_one1 (pd_try (c := 0) rfl rfl ⟨rfl, by decide, .inl T.x_NoPatch.g⟩ T.x_NoPatch.e (fun _ _ _ tk hp => (pd_one1 (pd_ret (pd_callX (ok_joined_patches T) hr (by decide) rfl T.f_joined_patches.m T.f_joined_patches.F.kp T.f_joined_patches.b tk XT.le_refl (pd_aC (pe_nm (pv 0)) (pd_aC (new_fz (pd_newTy (cList rfl) sList rfl T.z_list bt_list (pd_aC (pe_nm (pv 1)) pd_aN))) pd_aN)))))) (fun _ _ _ _ _ => (pd_one1 (pd_ret pd_non)))))
theorem ok__law_cut (T : Top K mg C) : FnOk P w K mg base CX0 4 T.f__law_cut.a T.f__law_cut.d ["tape", "disk", "flat", "files"] (spD K C 4 fs__law_cut) := by
  refine fnD_ok (n0 := 7) T.f__law_cut.F sc__law_cut rfl rfl (fs__law_cut.eq_def) ?_
  intro cdv A outer s H E hr
  unfold fb__law_cut
  exact (pd_cons (pd_set (i := 4) sc__law_cut.nd rfl (by first | exact .inl rfl | exact .inr rfl) (pd_call (ok_install_writes T) hr (by decide) rfl T.f_install_writes.m T.f_install_writes.F.kp T.f_install_writes.b (pd_aC (new_fz (pd_newTy (cDict rfl) sDict rfl T.z_dict bt_dict (pd_aC (pe_nm (pv 1)) pd_aN))) (pd_aC (pd_call (ok__law_image T) hr (by decide) rfl T.f__law_image.m T.f__law_image.F.kp T.f__law_image.b (pd_aC (pe_nm (pv 3)) pd_aN)) pd_aN))))
  (pd_cons (pd_ifS (pd_cmpT (opNe hr.units) sNe (pe_nm (pv 4)) (pd_call (ok__law_install T) hr (by decide) rfl T.f__law_install.m T.f__law_install.F.kp T.f__law_install.b (pd_aC (pe_nm (pv 2)) (pd_aC (pe_nm (pv 3)) pd_aN))) (nomark _)) (pd_one1 (pd_ret pd_non)) pd_nil)
  (pd_cons (pd_set (i := 5) sc__law_cut.nd rfl (by first | exact .inl rfl | exact .inr rfl) (pd_call (ok__law_take T) hr (by decide) rfl T.f__law_take.m T.f__law_take.F.kp T.f__law_take.b (pd_aC (pe_nm (pv 0)) (pd_aC (pd_op opAdd sAdd (pd_callB cLen sLen rfl T.z_len bt_len (pd_aC (pe_nm (pv 4)) pd_aN)) pd_int) pd_aN))))
  (pd_cons (pd_par (i := 1) (j := 2) rfl sc__law_cut.nd rfl rfl (by decide) rfl rfl (pd_aC (pd_call (ok_after T) hr (by decide) rfl T.f_after.m T.f_after.F.kp T.f_after.b (pd_aC (pe_nm (pv 1)) (pd_aC (pe_nm (pv 4)) (pd_aC (pe_nm (pv 5)) pd_aN)))) (pd_aC (pd_call (ok__law_after T) hr (by decide) rfl T.f__law_after.m T.f__law_after.F.kp T.f__law_after.b (pd_aC (pe_nm (pv 2)) (pd_aC (pe_nm (pv 4)) (pd_aC (pe_nm (pv 5)) pd_aN)))) pd_aN)) rfl)
  (pd_cons (pd_set (i := 6) sc__law_cut.nd rfl (by first | exact .inl rfl | exact .inr rfl) (pd_call (ok_recovered T) hr (by decide) rfl T.f_recovered.m T.f_recovered.F.kp T.f_recovered.b (pd_aC (new_fz (pd_newTy (cDict rfl) sDict rfl T.z_dict bt_dict (pd_aC (pe_nm (pv 1)) pd_aN))) pd_aN)))
  (pd_cons (pd_ifS (PW.pt (pd_orT (pd_cmpT (opNe hr.units) sNe (pe_nm (pv 6)) (pd_call (ok__law_recover T) hr (by decide) rfl T.f__law_recover.m T.f__law_recover.F.kp T.f__law_recover.b (pd_aC (pe_nm (pv 2)) pd_aN)) (nomark _)) (pd_orT1 (pd_cmpT (opNe hr.units) sNe (pe_nm (pv 1)) (pe_nm (pv 2)) (nomark _))))) (pd_one1 (pd_ret pd_non)) pd_nil)
  (pd_one1 (pd_ret (pd_tup (pd_aC (pd_call (ok_after T) hr (by decide) rfl T.f_after.m T.f_after.F.kp T.f_after.b (pd_aC (pe_nm (pv 1)) (pd_aC (pe_nm (pv 6)) (pd_aC (pd_callB cLen sLen rfl T.z_len bt_len (pd_aC (pe_nm (pv 6)) pd_aN)) pd_aN)))) (pd_aC (pd_call (ok__law_after T) hr (by decide) rfl T.f__law_after.m T.f__law_after.F.kp T.f__law_after.b (pd_aC (pe_nm (pv 2)) (pd_aC (pe_nm (pv 6)) (pd_aC (pd_callB cLen sLen rfl T.z_len bt_len (pd_aC (pe_nm (pv 6)) pd_aN)) pd_aN)))) pd_aN)))))))))))
theorem ok__law_machine (T : Top K mg C) : FnOk P w K mg base CX0 6 T.f__law_machine.a T.f__law_machine.d ["tape", "files", "images", "patches"] (spD K C 4 fs__law_machine) := by
  refine fnD_ok (n0 := 15) T.f__law_machine.F sc__law_machine rfl rfl (fs__law_machine.eq_def) ?_
  intro cdv A outer s H E hr
  unfold fb__law_machine
  exact (pd_cons (pd_set (i := 4) sc__law_machine.nd rfl (by first | exact .inl rfl | exact .inr rfl) (pd_call (ok__law_take T) hr (by decide) rfl T.f__law_take.m T.f__law_take.F.kp T.f__law_take.b (pd_aC (pe_nm (pv 0)) (pd_aC pd_int pd_aN))))
  (pd_cons (pd_par (i := 5) (j := 6) rfl sc__law_machine.nd rfl rfl (by decide) rfl rfl (pd_aC (pd_call (ok_new_disk T) hr (by decide) rfl T.f_new_disk.m T.f_new_disk.F.kp T.f_new_disk.b (pd_aC (pd_ix (hu_of hr) (pe_nm (pv 2)) (pe_nm (pv 4))) pd_aN)) (pd_aC (pd_call (ok__law_after T) hr (by decide) rfl T.f__law_after.m T.f__law_after.F.kp T.f__law_after.b (pd_aC (new_fz pd_dict0) (pd_aC (pd_call (ok__law_install T) hr (by decide) rfl T.f__law_install.m T.f__law_install.F.kp T.f__law_install.b (pd_aC (new_fz pd_dict0) (pd_aC (pd_ix (hu_of hr) (pe_nm (pv 1)) (pe_nm (pv 4))) pd_aN))) (pd_aC pd_int pd_aN)))) pd_aN)) rfl)
  (pd_cons (pd_for PassesOwn.never rfl (pd_rng1 rfl T.z_range (pd_aC pd_int pd_aN)) (pd_gNm (i := 7) sc__law_machine.nd rfl (by first | exact .inl rfl | exact .inr rfl)) (pd_cons (pd_set (i := 8) sc__law_machine.nd rfl (by first | exact .inl rfl | exact .inr rfl) (pd_ix (hu_of hr) (pd_call (ok_current T) hr (by decide) rfl T.f_current.m T.f_current.F.kp T.f_current.b (pd_aC (new_fz (pd_newTy (cDict rfl) sDict rfl T.z_dict bt_dict (pd_aC (pe_nm (pv 5)) pd_aN))) pd_aN)) pd_int))
  (pd_cons (pd_ifS (PW.pt (pd_orT (pd_cmpT (opNe hr.units) sNe (pe_nm (pv 8)) (pd_ix (hu_of hr) (pd_call (ok__law_current T) hr (by decide) rfl T.f__law_current.m T.f__law_current.F.kp T.f__law_current.b (pd_aC (pe_nm (pv 6)) pd_aN)) pd_int) (nomark _)) (pd_orT1 (pd_cmpT (opNin (hu_of hr)) sNin (pe_nm (pv 8)) (pe_nm (pv 2)) rfl)))) (pd_one1 (pd_ret pd_bl)) pd_nil)
  (pd_cons (pd_par (i := 4) (j := 9) rfl sc__law_machine.nd rfl rfl (by decide) rfl rfl (pd_aC (pd_bmL F.slot_list_index F.type_list_index mt_index sIdx (pe_nm (pv 2)) (pd_aC (pe_nm (pv 8)) pd_aN)) (pd_aC (pd_op opAdd sAdd pd_int (pd_call (ok__law_take T) hr (by decide) rfl T.f__law_take.m T.f__law_take.F.kp T.f__law_take.b (pd_aC (pe_nm (pv 0)) (pd_aC pd_int pd_aN)))) pd_aN)) rfl)
  (pd_cons (pd_ifS (pd_cmpT (opEq hr.units) sEq (pe_nm (pv 4)) pd_int (nomark _)) (pd_one1 pd_break) pd_nil)
  (pd_cons (pd_set (i := 9) sc__law_machine.nd rfl (by first | exact .inl rfl | exact .inr rfl) (pd_callB (cMax rfl) sMax rfl T.z_max bt_max (pd_aC (pe_nm (pv 9)) (pd_aC (pd_op opAdd sAdd (pe_nm (pv 4)) pd_int) pd_aN))))
  (pd_cons (pd_set (i := 10) sc__law_machine.nd rfl (by first | exact .inl rfl | exact .inr rfl) (pd_call (ok__law_patched T) hr (by decide) rfl T.f__law_patched.m T.f__law_patched.F.kp T.f__law_patched.b (pd_aC (pe_nm (pv 8)) (pd_aC (pd_slice (pe_nm (pv 3)) (pd_poS (pe_nm (pv 4))) (pd_poS (pe_nm (pv 9)))) pd_aN))))
  (pd_cons (pd_ifS (PW.pt (pd_orT (pd_cmpT (opNe hr.units) sNe (pe_nm (pv 10)) (pd_ix (hu_of hr) (pe_nm (pv 2)) (pe_nm (pv 9))) (nomark _)) (pd_orT1 (pd_cmpT (opNe hr.units) sNe (pd_callX (ok_patched T) hr (by decide) rfl T.f_patched.m T.f_patched.F.kp T.f_patched.b tk0 XT.le_F (pd_aC (pe_nm (pv 8)) (pd_aC (pd_call (ok_patch T) hr (by decide) rfl T.f_patch.m T.f_patch.F.kp T.f_patch.b (pd_aC (pe_nm (pv 8)) (pd_aC (pd_ix (hu_of hr) (pe_nm (pv 2)) (pe_nm (pv 9))) pd_aN))) pd_aN))) (pe_nm (pv 10)) (nomark _))))) (pd_one1 (pd_ret pd_bl)) pd_nil)
  (pd_cons (pd_set (i := 11) sc__law_machine.nd rfl (by first | exact .inl rfl | exact .inr rfl) (pd_if (pd_cmpT (opEq hr.units) sEq (pd_call (ok__law_take T) hr (by decide) rfl T.f__law_take.m T.f__law_take.F.kp T.f__law_take.b (pd_aC (pe_nm (pv 0)) (pd_aC pd_int pd_aN))) pd_int (nomark _)) (pd_call (ok__law_cut T) hr (by decide) rfl T.f__law_cut.m T.f__law_cut.F.kp T.f__law_cut.b (pd_aC (pe_nm (pv 0)) (pd_aC (pe_nm (pv 5)) (pd_aC (pe_nm (pv 6)) (pd_aC (pd_ix (hu_of hr) (pe_nm (pv 1)) (pe_nm (pv 9))) pd_aN))))) pd_non))
  (pd_one1 (pd_ifS (pd_cmpT opIsNot sIsNot (pe_nm (pv 11)) pd_non (nomark _)) (pd_one1 (pd_asg (pe_nm (pv 11)) (pd_gTp rfl (pd_gCn (pd_gNm (i := 5) sc__law_machine.nd rfl (by first | exact .inl rfl | exact .inr rfl)) (pd_gCn (pd_gNm (i := 6) sc__law_machine.nd rfl (by first | exact .inl rfl | exact .inr rfl)) pd_gNl))))) (pd_one1 (pd_par (i := 5) (j := 6) rfl sc__law_machine.nd rfl rfl (by decide) rfl rfl (pd_aC (pd_call (ok_after T) hr (by decide) rfl T.f_after.m T.f_after.F.kp T.f_after.b (pd_aC (pe_nm (pv 5)) (pd_aC (pd_call (ok_install_writes T) hr (by decide) rfl T.f_install_writes.m T.f_install_writes.F.kp T.f_install_writes.b (pd_aC (new_fz (pd_newTy (cDict rfl) sDict rfl T.z_dict bt_dict (pd_aC (pe_nm (pv 5)) pd_aN))) (pd_aC (pe_nm (pv 10)) pd_aN))) (pd_aC pd_int pd_aN)))) (pd_aC (pd_call (ok__law_after T) hr (by decide) rfl T.f__law_after.m T.f__law_after.F.kp T.f__law_after.b (pd_aC (pe_nm (pv 6)) (pd_aC (pd_call (ok__law_install T) hr (by decide) rfl T.f__law_install.m T.f__law_install.F.kp T.f__law_install.b (pd_aC (pe_nm (pv 6)) (pd_aC (pd_ix (hu_of hr) (pe_nm (pv 1)) (pe_nm (pv 9))) pd_aN))) (pd_aC pd_int pd_aN)))) pd_aN)) rfl)))))))))))))
  (pd_cons (pd_par (i := 8) (j := 9) rfl sc__law_machine.nd rfl rfl (by decide) rfl rfl (pd_aC (pd_ix (hu_of hr) (pd_call (ok_current T) hr (by decide) rfl T.f_current.m T.f_current.F.kp T.f_current.b (pd_aC (new_fz (pd_newTy (cDict rfl) sDict rfl T.z_dict bt_dict (pd_aC (pe_nm (pv 5)) pd_aN))) pd_aN)) pd_int) (pd_aC (pd_ix (hu_of hr) (pe_nm (pv 2)) pd_int) pd_aN)) rfl)
  (pd_cons (pd_set (i := 10) sc__law_machine.nd rfl (by first | exact .inl rfl | exact .inr rfl) (pd_call (ok__law_patched T) hr (by decide) rfl T.f__law_patched.m T.f__law_patched.F.kp T.f__law_patched.b (pd_aC (pe_nm (pv 8)) (pd_aC (pd_slice (pe_nm (pv 3)) (pd_poS (pd_bmL F.slot_list_index F.type_list_index mt_index sIdx (pe_nm (pv 2)) (pd_aC (pe_nm (pv 8)) pd_aN))) pd_poN) pd_aN))))
  (pd_cons (pd_ifS (pd_cmpT (opNe hr.units) sNe (pe_nm (pv 10)) (pe_nm (pv 9)) (nomark _)) (pd_one1 (pd_ret pd_bl)) pd_nil)
  (pd_cons (pd_par (i := 5) (j := 6) rfl sc__law_machine.nd rfl rfl (by decide) rfl rfl (pd_aC (pd_call (ok_after T) hr (by decide) rfl T.f_after.m T.f_after.F.kp T.f_after.b (pd_aC (pe_nm (pv 5)) (pd_aC (pd_call (ok_install_writes T) hr (by decide) rfl T.f_install_writes.m T.f_install_writes.F.kp T.f_install_writes.b (pd_aC (new_fz (pd_newTy (cDict rfl) sDict rfl T.z_dict bt_dict (pd_aC (pe_nm (pv 5)) pd_aN))) (pd_aC (pe_nm (pv 10)) pd_aN))) (pd_aC pd_int pd_aN)))) (pd_aC (pd_call (ok__law_after T) hr (by decide) rfl T.f__law_after.m T.f__law_after.F.kp T.f__law_after.b (pd_aC (pe_nm (pv 6)) (pd_aC (pd_call (ok__law_install T) hr (by decide) rfl T.f__law_install.m T.f__law_install.F.kp T.f__law_install.b (pd_aC (pe_nm (pv 6)) (pd_aC (pd_ix (hu_of hr) (pe_nm (pv 1)) pd_int) pd_aN))) (pd_aC pd_int pd_aN)))) pd_aN)) rfl)
  (pd_cons (pd_ifS (PW.pt (pd_orT (pd_cmpT (opNe hr.units) sNe (pe_nm (pv 5)) (pe_nm (pv 6)) (nomark _)) (pd_orT (pd_cmpT (opNe hr.units) sNe (pd_call (ok_current T) hr (by decide) rfl T.f_current.m T.f_current.F.kp T.f_current.b (pd_aC (new_fz (pd_newTy (cDict rfl) sDict rfl T.z_dict bt_dict (pd_aC (pe_nm (pv 5)) pd_aN))) pd_aN)) (pd_call (ok__law_current T) hr (by decide) rfl T.f__law_current.m T.f__law_current.F.kp T.f__law_current.b (pd_aC (pe_nm (pv 6)) pd_aN)) (nomark _)) (pd_orT (pd_cmpT (opNe hr.units) sNe (pd_ix (hu_of hr) (pd_call (ok_current T) hr (by decide) rfl T.f_current.m T.f_current.F.kp T.f_current.b (pd_aC (new_fz (pd_newTy (cDict rfl) sDict rfl T.z_dict bt_dict (pd_aC (pe_nm (pv 5)) pd_aN))) pd_aN)) pd_int) (pe_nm (pv 9)) (nomark _)) (pd_orT1 (pd_cmpT (opNe hr.units) sNe (pd_call (ok_whole_numbers T) hr (by decide) rfl T.f_whole_numbers.m T.f_whole_numbers.F.kp T.f_whole_numbers.b (pd_aC (new_fz (pd_newTy (cDict rfl) sDict rfl T.z_dict bt_dict (pd_aC (pe_nm (pv 5)) pd_aN))) pd_aN)) (pd_call (ok__law_whole T) hr (by decide) rfl T.f__law_whole.m T.f__law_whole.F.kp T.f__law_whole.b (pd_aC (pe_nm (pv 6)) pd_aN)) (nomark _))))))) (pd_one1 (pd_ret pd_bl)) pd_nil)
  (pd_cons (pd_for PassesOwn.never rfl (pd_walk (pd_call (ok__law_whole T) hr (by decide) rfl T.f__law_whole.m T.f__law_whole.F.kp T.f__law_whole.b (pd_aC (pe_nm (pv 6)) pd_aN))) (pd_gNm (i := 12) sc__law_machine.nd rfl (by first | exact .inl rfl | exact .inr rfl)) (pd_cons (pd_set (i := 13) sc__law_machine.nd rfl (by first | exact .inl rfl | exact .inr rfl) (pd_call (ok_after T) hr (by decide) rfl T.f_after.m T.f_after.F.kp T.f_after.b (pd_aC (pe_nm (pv 5)) (pd_aC (pd_call (ok_back_writes T) hr (by decide) rfl T.f_back_writes.m T.f_back_writes.F.kp T.f_back_writes.b (pd_aC (new_fz (pd_newTy (cDict rfl) sDict rfl T.z_dict bt_dict (pd_aC (pe_nm (pv 5)) pd_aN))) (pd_aC (pe_nm (pv 12)) pd_aN))) (pd_aC pd_int pd_aN)))))
  (pd_one1 (pd_ifS (PW.pt (pd_orT (pd_cmpT (opNin (hu_of hr)) sNin (pd_ix (hu_of hr) (pd_call (ok_current T) hr (by decide) rfl T.f_current.m T.f_current.F.kp T.f_current.b (pd_aC (pe_nm (pv 13)) pd_aN)) pd_int) (pe_nm (pv 2)) rfl) (pd_orT1 (pd_cmpT (opNe hr.units) sNe (pd_ix (hu_of hr) (pd_call (ok_current T) hr (by decide) rfl T.f_current.m T.f_current.F.kp T.f_current.b (pd_aC (pe_nm (pv 13)) pd_aN)) pd_int) (pd_call (ok__law_image T) hr (by decide) rfl T.f__law_image.m T.f__law_image.F.kp T.f__law_image.b (pd_aC (pd_call (ok__law_files_of T) hr (by decide) rfl T.f__law_files_of.m T.f__law_files_of.F.kp T.f__law_files_of.b (pd_aC (pe_nm (pv 6)) (pd_aC (pe_nm (pv 12)) pd_aN))) pd_aN)) (nomark _))))) (pd_one1 (pd_ret pd_bl)) pd_nil))))
  (pd_cons (pd_set (i := 14) sc__law_machine.nd rfl (by first | exact .inl rfl | exact .inr rfl) (pd_call (ok__law_take T) hr (by decide) rfl T.f__law_take.m T.f__law_take.F.kp T.f__law_take.b (pd_aC (pe_nm (pv 0)) (pd_aC pd_int pd_aN))))
  (pd_one1 (pd_ret (pd_cmp (opEq hr.units) sEq (pd_call (ok_after T) hr (by decide) rfl T.f_after.m T.f_after.F.kp T.f_after.b (pd_aC (pe_nm (pv 5)) (pd_aC (pd_call (ok_clean_writes T) hr (by decide) rfl T.f_clean_writes.m T.f_clean_writes.F.kp T.f_clean_writes.b (pd_aC (new_fz (pd_newTy (cDict rfl) sDict rfl T.z_dict bt_dict (pd_aC (pe_nm (pv 5)) pd_aN))) (pd_aC (pe_nm (pv 14)) pd_aN))) (pd_aC pd_int pd_aN)))) (pd_call (ok__law_after T) hr (by decide) rfl T.f__law_after.m T.f__law_after.F.kp T.f__law_after.b (pd_aC (pe_nm (pv 6)) (pd_aC (pd_call (ok__law_clean T) hr (by decide) rfl T.f__law_clean.m T.f__law_clean.F.kp T.f__law_clean.b (pd_aC (pe_nm (pv 6)) (pd_aC (pe_nm (pv 14)) pd_aN))) (pd_aC pd_int pd_aN)))) (nomark _))))))))))))))
theorem ok_law (T : Top K mg C) : FnOk P w K mg base CX0 7 T.f_law.a T.f_law.d ["script"] (spD K C 1 fs_law) := by
  refine fnD_ok (n0 := 11) T.f_law.F sc_law rfl rfl (fs_law.eq_def) ?_
  intro cdv A outer s H E hr
  unfold fb_law
  exact (pd_cons (pd_set (i := 1) sc_law.nd rfl (by first | exact .inl rfl | exact .inr rfl) (pd_call (ok__law_tape T) hr (by decide) rfl T.f__law_tape.m T.f__law_tape.F.kp T.f__law_tape.b (pd_aC (pe_nm (pv 0)) pd_aN)))
  (pd_cons (pd_parG rfl (pd_aC (pd_lstM pd_aN) (pd_aC (new_ob pd_dict0) pd_aN)) (pd_gCn (pd_gNm (i := 2) sc_law.nd rfl (by first | exact .inl rfl | exact .inr rfl)) (pd_gCn (pd_gNm (i := 3) sc_law.nd rfl (by first | exact .inl rfl | exact .inr rfl)) pd_gNl)))
  (pd_cons (pd_for PassesOwn.never rfl (pd_rng1 rfl T.z_range (pd_aC pd_int pd_aN)) (pd_gNm (i := 4) sc_law.nd rfl (by first | exact .inl rfl | exact .inr rfl)) (pd_cons (pd_set (i := 5) sc_law.nd rfl (by first | exact .inl rfl | exact .inr rfl) (pd_if (PW.pt (pd_andT (pd_cmpT (opNe hr.units) sNe (pe_nm (pv 2)) (pd_lst pd_aN) (nomark _)) (pd_andT1 (pd_cmpT opGt sGt (pd_call (ok__law_take T) hr (by decide) rfl T.f__law_take.m T.f__law_take.F.kp T.f__law_take.b (pd_aC (pe_nm (pv 1)) (pd_aC pd_int pd_aN))) pd_int (nomark _))))) (new_ob (pd_newTy (cDict rfl) sDict rfl T.z_dict bt_dict (pd_aC (pd_itemsL rfl (pd_ix (hu_of hr) (pe_nm (pv 2)) (pd_neg pd_int)) rfl T.z_list) pd_aN))) (new_ob pd_dict0)))
  (pd_cons (pd_expr (pd_upd (pe_nm (pv 5)) (pd_call (ok__law_some_files T) hr (by decide) rfl T.f__law_some_files.m T.f__law_some_files.F.kp T.f__law_some_files.b (pd_aC (pe_nm (pv 1)) (pd_aC pd_int pd_aN)))))
  (pd_cons (pd_put (hu_of hr) (pd_op opAdd sAdd pd_str (pd_op opMul sMul (pd_callTy call_str_int sStr rfl T.z_str bt_str (pd_aC (pe_nm (pv 4)) pd_aN)) (pd_op opAdd sAdd pd_int (pd_call (ok__law_take T) hr (by decide) rfl T.f__law_take.m T.f__law_take.F.kp T.f__law_take.b (pd_aC (pe_nm (pv 1)) (pd_aC pd_int pd_aN)))))) (pe_nm (pv 5)) pd_str)
  (pd_one1 (pd_expr (pd_bmL F.slot_list_append F.type_list_append mt_append sApp (pe_nm (pv 2)) (pd_aC (pe_nz (pv 5)) pd_aN))))))))
  (pd_cons (pd_set (i := 6) sc_law.nd rfl (by first | exact .inl rfl | exact .inr rfl) (new_fz (pd_lc rfl sc_law.nd (own := [("some", 5)]) (pd_walk (pe_nm (pv 2))) (blkOk_by rfl) (fun _ _ _ _ _ => (pd_cNm (i := 5) sc_law.nd rfl (by simp) (by first | exact .inl rfl | exact .inr rfl))) (fun _ _ _ _ _ => pd_tN) (fun _ _ _ _ _ => (pd_call (ok__law_image T) hr (by decide) rfl T.f__law_image.m T.f__law_image.F.kp T.f__law_image.b (pd_aC (pe_nm (pv 5)) pd_aN))))))
  (pd_cons (pd_for PassesOwn.never rfl (pd_rng1 rfl T.z_range (pd_aC pd_int pd_aN)) (pd_gNm (i := 4) sc_law.nd rfl (by first | exact .inl rfl | exact .inr rfl)) (pd_one1 (pd_for PassesOwn.never rfl (pd_rng1 rfl T.z_range (pd_aC (pd_op opAdd sAdd (pd_callB cLen sLen rfl T.z_len bt_len (pd_aC (pd_ix (hu_of hr) (pe_nm (pv 2)) (pe_nm (pv 4))) pd_aN)) pd_int) pd_aN)) (pd_gNm (i := 7) sc_law.nd rfl (by first | exact .inl rfl | exact .inr rfl)) (pd_one1 (pd_expr (pd_call (ok__law_name T) hr (by decide) rfl T.f__law_name.m T.f__law_name.F.kp T.f__law_name.b (pd_aC (pe_nm (pv 3)) (pd_aC (pd_call (ok__law_image T) hr (by decide) rfl T.f__law_image.m T.f__law_image.F.kp T.f__law_image.b (pd_aC (new_fz (pd_newTy (cDict rfl) sDict rfl T.z_dict bt_dict (pd_aC (new_fz (pd_lc rfl sc_law.nd (own := [("path", 10)]) (pd_walk (pd_slice (pd_callB (cSorted rfl) sSorted rfl T.z_sorted bt_sorted (pd_aC (pd_ix (hu_of hr) (pe_nm (pv 2)) (pe_nm (pv 4))) pd_aN)) pd_poN (pd_poS (pe_nm (pv 7))))) (blkOk_by rfl) (fun _ _ _ _ _ => (pd_cNm (i := 10) sc_law.nd rfl (by simp) (by first | exact .inl rfl | exact .inr rfl))) (fun _ _ _ _ _ => pd_tN) (fun _ _ _ _ _ => (pd_tup (pd_aC (pe_nm (pv 10)) (pd_aC (pd_ix (hu_of hr) (pd_ix (hu_of hr) (pe_nm (pv 2)) (pe_nm (pv 4))) (pe_nm (pv 10))) pd_aN)))))) pd_aN))) pd_aN)) pd_aN))))))))
  (pd_cons (pd_ifS (pd_cmpT (opIn (hu_of hr)) sIn pd_str (pe_nm (pv 3)) rfl) (pd_one1 (pd_ret pd_bl)) pd_nil)
  (pd_cons (pd_set (i := 8) sc_law.nd rfl (by first | exact .inl rfl | exact .inr rfl) (new_fz (pd_lc rfl sc_law.nd (own := [("k", 4)]) (pd_rng1 rfl T.z_range (pd_aC pd_int pd_aN)) (blkOk_by rfl) (fun _ _ _ _ _ => (pd_cNm (i := 4) sc_law.nd rfl (by simp) (by first | exact .inl rfl | exact .inr rfl))) (fun _ _ _ _ _ => pd_tN) (fun _ _ _ _ _ => (pd_call (ok_patch T) hr (by decide) rfl T.f_patch.m T.f_patch.F.kp T.f_patch.b (pd_aC (pd_ix (hu_of hr) (pe_nm (pv 6)) (pe_nm (pv 4))) (pd_aC (pd_ix (hu_of hr) (pe_nm (pv 6)) (pd_op opAdd sAdd (pe_nm (pv 4)) pd_int)) pd_aN)))))))
  (pd_cons (pd_for PassesOwn.never rfl (pd_rng1 rfl T.z_range (pd_aC pd_int pd_aN)) (pd_gNm (i := 4) sc_law.nd rfl (by first | exact .inl rfl | exact .inr rfl)) (pd_cons (pd_ifS (PW.pt (pd_orT (pd_cmpT opGt sGt (pd_call (ok_patch_size T) hr (by decide) rfl T.f_patch_size.m T.f_patch_size.F.kp T.f_patch_size.b (pd_aC (pd_ix (hu_of hr) (pe_nm (pv 8)) (pe_nm (pv 4))) pd_aN)) (pd_callB cLen sLen rfl T.z_len bt_len (pd_aC (pd_ix (hu_of hr) (pe_nm (pv 6)) (pd_op opAdd sAdd (pe_nm (pv 4)) pd_int)) pd_aN)) (nomark _)) (pd_orT1 (pd_cmpT (opNe hr.units) sNe (pd_callX (ok_patched T) hr (by decide) rfl T.f_patched.m T.f_patched.F.kp T.f_patched.b tk0 XT.le_F (pd_aC (pd_ix (hu_of hr) (pe_nm (pv 6)) (pe_nm (pv 4))) (pd_aC (pd_ix (hu_of hr) (pe_nm (pv 8)) (pe_nm (pv 4))) pd_aN))) (pd_ix (hu_of hr) (pe_nm (pv 6)) (pd_op opAdd sAdd (pe_nm (pv 4)) pd_int)) (nomark _))))) (pd_one1 (pd_ret pd_bl)) pd_nil)
  (pd_one1 (pd_for PassesOwn.never rfl (pd_rng1 rfl T.z_range (pd_aC pd_int pd_aN)) (pd_gNm (i := 7) sc_law.nd rfl (by first | exact .inl rfl | exact .inr rfl)) (pd_one1 (pd_ifS (pd_cmpT (opEq hr.units) sEq (pd_cmp opIs sIs (pd_call (ok__law_patched T) hr (by decide) rfl T.f__law_patched.m T.f__law_patched.F.kp T.f__law_patched.b (pd_aC (pd_ix (hu_of hr) (pe_nm (pv 6)) (pe_nm (pv 7))) (pd_aC (pd_lst (pd_aC (pd_ix (hu_of hr) (pe_nm (pv 8)) (pe_nm (pv 4))) pd_aN)) pd_aN))) pd_non (nomark _)) (pd_cmp (opEq hr.units) sEq (pe_nm (pv 7)) (pe_nm (pv 4)) (nomark _)) (nomark _)) (pd_one1 (pd_ret pd_bl)) pd_nil))))))
  (pd_cons (pd_ifS (PW.pt (pd_orT (pd_cmpT opIsNot sIsNot (pd_call (ok__law_patched T) hr (by decide) rfl T.f__law_patched.m T.f__law_patched.F.kp T.f__law_patched.b (pd_aC (pd_ix (hu_of hr) (pe_nm (pv 6)) pd_int) (pd_aC (pd_rev (pe_nm (pv 8))) pd_aN))) pd_non (nomark _)) (pd_orT (pd_cmpT opIsNot sIsNot (pd_call (ok__law_patched T) hr (by decide) rfl T.f__law_patched.m T.f__law_patched.F.kp T.f__law_patched.b (pd_aC (pd_ix (hu_of hr) (pe_nm (pv 6)) pd_int) (pd_aC (pd_slice (pe_nm (pv 8)) (pd_poS pd_int) pd_poN) pd_aN))) pd_non (nomark _)) (pd_orT1 (pd_cmpT (opNe hr.units) sNe (pd_call (ok__law_patched T) hr (by decide) rfl T.f__law_patched.m T.f__law_patched.F.kp T.f__law_patched.b (pd_aC (pd_ix (hu_of hr) (pe_nm (pv 6)) pd_int) (pd_aC (pe_nm (pv 8)) pd_aN))) (pd_ix (hu_of hr) (pe_nm (pv 6)) pd_int) (nomark _)))))) (pd_one1 (pd_ret pd_bl)) pd_nil)
  (pd_cons (pd_set (i := 9) sc_law.nd rfl (by first | exact .inl rfl | exact .inr rfl) (pd_call (ok_patch T) hr (by decide) rfl T.f_patch.m T.f_patch.F.kp T.f_patch.b (pd_aC (pd_ix (hu_of hr) (pe_nm (pv 6)) pd_int) (pd_aC (pd_ix (hu_of hr) (pe_nm (pv 6)) pd_int) pd_aN))))
  (pd_cons (pd_ifS (pd_cmpT (opNe hr.units) sNe (pd_call (ok__law_patched T) hr (by decide) rfl T.f__law_patched.m T.f__law_patched.F.kp T.f__law_patched.b (pd_aC (pd_ix (hu_of hr) (pe_nm (pv 6)) pd_int) (pd_aC (pd_op opAdd sAdd (pd_op opAdd sAdd (pe_nm (pv 8)) (pd_lst (pd_aC (pe_nm (pv 9)) pd_aN))) (pe_nm (pv 8))) pd_aN))) (pd_ix (hu_of hr) (pe_nm (pv 6)) pd_int) (nomark _)) (pd_one1 (pd_ret pd_bl)) pd_nil)
  (pd_one1 (pd_ret (pd_callB (cr_all rfl) sAll rfl T.z_all bt_all (pd_aC (new_fz (pd_lc rfl sc_law.nd (own := [("k", 4)]) (pd_rng1 rfl T.z_range (pd_aC pd_int pd_aN)) (blkOk_by rfl) (fun _ _ _ _ _ => (pd_cNm (i := 4) sc_law.nd rfl (by simp) (by first | exact .inl rfl | exact .inr rfl))) (fun _ _ _ _ _ => pd_tN) (fun _ _ _ _ _ => (pd_call (ok__law_machine T) hr (by decide) rfl T.f__law_machine.m T.f__law_machine.F.kp T.f__law_machine.b (pd_aC (pe_nm (pv 1)) (pd_aC (pe_nm (pv 2)) (pd_aC (pe_nm (pv 6)) (pd_aC (pe_nm (pv 8)) pd_aN)))))))) pd_aN)))))))))))))))
end
theorem all_mk {l : PySem.W.OpenLaw} {w : World} {K : PySem.W.Frag} {h : Heap} {mg : Str → Option Value} {fa : Addr} (X : K.In h) (G : h.Ns mainGlobals mg) (hfa : mg "law" = some (.ref fa))
    {f0 : Addr} {od0 an0 : Option Addr} {sl0 : Array (Option Value)} {oc0 kV0 dc0 pm0 cd0 ct0 : Value}
    (a0 : PySem.W.nsIn K mainGlobals "number_of" = some (some (.ref f0))) (l0 : K.lookup f0 = some ⟨oc0, od0, .func (PySem.W.fnOf "number_of" "number_of" (defArgs (topS 4)) (defBody (topS 4)) (defScope (topS 4)) .none kV0 dc0 pm0 an0 cd0 ct0), sl0⟩) (c0 : PySem.W.codeIn K cd0 "number_of" = true) (k0 : PySem.W.keepIn K (.ref f0) = true)
    {f1 : Addr} {od1 an1 : Option Addr} {sl1 : Array (Option Value)} {oc1 kV1 dc1 pm1 cd1 ct1 : Value}
    (a1 : PySem.W.nsIn K mainGlobals "digest" = some (some (.ref f1))) (l1 : K.lookup f1 = some ⟨oc1, od1, .func (PySem.W.fnOf "digest" "digest" (defArgs (topS 5)) (defBody (topS 5)) (defScope (topS 5)) .none kV1 dc1 pm1 an1 cd1 ct1), sl1⟩) (c1 : PySem.W.codeIn K cd1 "digest" = true) (k1 : PySem.W.keepIn K (.ref f1) = true)
    {f2 : Addr} {od2 an2 : Option Addr} {sl2 : Array (Option Value)} {oc2 kV2 dc2 pm2 cd2 ct2 : Value}
    (a2 : PySem.W.nsIn K mainGlobals "write_image" = some (some (.ref f2))) (l2 : K.lookup f2 = some ⟨oc2, od2, .func (PySem.W.fnOf "write_image" "write_image" (defArgs (topS 14)) (defBody (topS 14)) (defScope (topS 14)) .none kV2 dc2 pm2 an2 cd2 ct2), sl2⟩) (c2 : PySem.W.codeIn K cd2 "write_image" = true) (k2 : PySem.W.keepIn K (.ref f2) = true)
    {f3 : Addr} {od3 an3 : Option Addr} {sl3 : Array (Option Value)} {oc3 kV3 dc3 pm3 cd3 ct3 : Value}
    (a3 : PySem.W.nsIn K mainGlobals "number_at" = some (some (.ref f3))) (l3 : K.lookup f3 = some ⟨oc3, od3, .func (PySem.W.fnOf "number_at" "number_at" (defArgs (topS 15)) (defBody (topS 15)) (defScope (topS 15)) .none kV3 dc3 pm3 an3 cd3 ct3), sl3⟩) (c3 : PySem.W.codeIn K cd3 "number_at" = true) (k3 : PySem.W.keepIn K (.ref f3) = true)
    {f4 : Addr} {od4 an4 : Option Addr} {sl4 : Array (Option Value)} {oc4 kV4 dc4 pm4 cd4 ct4 : Value}
    (a4 : PySem.W.nsIn K mainGlobals "read_image" = some (some (.ref f4))) (l4 : K.lookup f4 = some ⟨oc4, od4, .func (PySem.W.fnOf "read_image" "read_image" (defArgs (topS 16)) (defBody (topS 16)) (defScope (topS 16)) .none kV4 dc4 pm4 an4 cd4 ct4), sl4⟩) (c4 : PySem.W.codeIn K cd4 "read_image" = true) (k4 : PySem.W.keepIn K (.ref f4) = true)
    {f5 : Addr} {od5 an5 : Option Addr} {sl5 : Array (Option Value)} {oc5 kV5 dc5 pm5 cd5 ct5 : Value}
    (a5 : PySem.W.nsIn K mainGlobals "patch" = some (some (.ref f5))) (l5 : K.lookup f5 = some ⟨oc5, od5, .func (PySem.W.fnOf "patch" "patch" (defArgs (topS 17)) (defBody (topS 17)) (defScope (topS 17)) .none kV5 dc5 pm5 an5 cd5 ct5), sl5⟩) (c5 : PySem.W.codeIn K cd5 "patch" = true) (k5 : PySem.W.keepIn K (.ref f5) = true)
    {f6 : Addr} {od6 an6 : Option Addr} {sl6 : Array (Option Value)} {oc6 kV6 dc6 pm6 cd6 ct6 : Value}
    (a6 : PySem.W.nsIn K mainGlobals "patched" = some (some (.ref f6))) (l6 : K.lookup f6 = some ⟨oc6, od6, .func (PySem.W.fnOf "patched" "patched" (defArgs (topS 18)) (defBody (topS 18)) (defScope (topS 18)) .none kV6 dc6 pm6 an6 cd6 ct6), sl6⟩) (c6 : PySem.W.codeIn K cd6 "patched" = true) (k6 : PySem.W.keepIn K (.ref f6) = true)
    {f7 : Addr} {od7 an7 : Option Addr} {sl7 : Array (Option Value)} {oc7 kV7 dc7 pm7 cd7 ct7 : Value}
    (a7 : PySem.W.nsIn K mainGlobals "patch_size" = some (some (.ref f7))) (l7 : K.lookup f7 = some ⟨oc7, od7, .func (PySem.W.fnOf "patch_size" "patch_size" (defArgs (topS 19)) (defBody (topS 19)) (defScope (topS 19)) .none kV7 dc7 pm7 an7 cd7 ct7), sl7⟩) (c7 : PySem.W.codeIn K cd7 "patch_size" = true) (k7 : PySem.W.keepIn K (.ref f7) = true)
    {f8 : Addr} {od8 an8 : Option Addr} {sl8 : Array (Option Value)} {oc8 kV8 dc8 pm8 cd8 ct8 : Value}
    (a8 : PySem.W.nsIn K mainGlobals "joined_patches" = some (some (.ref f8))) (l8 : K.lookup f8 = some ⟨oc8, od8, .func (PySem.W.fnOf "joined_patches" "joined_patches" (defArgs (topS 20)) (defBody (topS 20)) (defScope (topS 20)) .none kV8 dc8 pm8 an8 cd8 ct8), sl8⟩) (c8 : PySem.W.codeIn K cd8 "joined_patches" = true) (k8 : PySem.W.keepIn K (.ref f8) = true)
    {f9 : Addr} {od9 an9 : Option Addr} {sl9 : Array (Option Value)} {oc9 kV9 dc9 pm9 cd9 ct9 : Value}
    (a9 : PySem.W.nsIn K mainGlobals "put" = some (some (.ref f9))) (l9 : K.lookup f9 = some ⟨oc9, od9, .func (PySem.W.fnOf "put" "put" (defArgs (topS 25)) (defBody (topS 25)) (defScope (topS 25)) .none kV9 dc9 pm9 an9 cd9 ct9), sl9⟩) (c9 : PySem.W.codeIn K cd9 "put" = true) (k9 : PySem.W.keepIn K (.ref f9) = true)
    {f10 : Addr} {od10 an10 : Option Addr} {sl10 : Array (Option Value)} {oc10 kV10 dc10 pm10 cd10 ct10 : Value}
    (a10 : PySem.W.nsIn K mainGlobals "number_in" = some (some (.ref f10))) (l10 : K.lookup f10 = some ⟨oc10, od10, .func (PySem.W.fnOf "number_in" "number_in" (defArgs (topS 26)) (defBody (topS 26)) (defScope (topS 26)) .none kV10 dc10 pm10 an10 cd10 ct10), sl10⟩) (c10 : PySem.W.codeIn K cd10 "number_in" = true) (k10 : PySem.W.keepIn K (.ref f10) = true)
    {f11 : Addr} {od11 an11 : Option Addr} {sl11 : Array (Option Value)} {oc11 kV11 dc11 pm11 cd11 ct11 : Value}
    (a11 : PySem.W.nsIn K mainGlobals "numbers" = some (some (.ref f11))) (l11 : K.lookup f11 = some ⟨oc11, od11, .func (PySem.W.fnOf "numbers" "numbers" (defArgs (topS 27)) (defBody (topS 27)) (defScope (topS 27)) .none kV11 dc11 pm11 an11 cd11 ct11), sl11⟩) (c11 : PySem.W.codeIn K cd11 "numbers" = true) (k11 : PySem.W.keepIn K (.ref f11) = true)
    {f12 : Addr} {od12 an12 : Option Addr} {sl12 : Array (Option Value)} {oc12 kV12 dc12 pm12 cd12 ct12 : Value}
    (a12 : PySem.W.nsIn K mainGlobals "install_writes" = some (some (.ref f12))) (l12 : K.lookup f12 = some ⟨oc12, od12, .func (PySem.W.fnOf "install_writes" "install_writes" (defArgs (topS 30)) (defBody (topS 30)) (defScope (topS 30)) .none kV12 dc12 pm12 an12 cd12 ct12), sl12⟩) (c12 : PySem.W.codeIn K cd12 "install_writes" = true) (k12 : PySem.W.keepIn K (.ref f12) = true)
    {f13 : Addr} {od13 an13 : Option Addr} {sl13 : Array (Option Value)} {oc13 kV13 dc13 pm13 cd13 ct13 : Value}
    (a13 : PySem.W.nsIn K mainGlobals "new_disk" = some (some (.ref f13))) (l13 : K.lookup f13 = some ⟨oc13, od13, .func (PySem.W.fnOf "new_disk" "new_disk" (defArgs (topS 24)) (defBody (topS 24)) (defScope (topS 24)) .none kV13 dc13 pm13 an13 cd13 ct13), sl13⟩) (c13 : PySem.W.codeIn K cd13 "new_disk" = true) (k13 : PySem.W.keepIn K (.ref f13) = true)
    {f14 : Addr} {od14 an14 : Option Addr} {sl14 : Array (Option Value)} {oc14 kV14 dc14 pm14 cd14 ct14 : Value}
    (a14 : PySem.W.nsIn K mainGlobals "files_of" = some (some (.ref f14))) (l14 : K.lookup f14 = some ⟨oc14, od14, .func (PySem.W.fnOf "files_of" "files_of" (defArgs (topS 29)) (defBody (topS 29)) (defScope (topS 29)) .none kV14 dc14 pm14 an14 cd14 ct14), sl14⟩) (c14 : PySem.W.codeIn K cd14 "files_of" = true) (k14 : PySem.W.keepIn K (.ref f14) = true)
    {f15 : Addr} {od15 an15 : Option Addr} {sl15 : Array (Option Value)} {oc15 kV15 dc15 pm15 cd15 ct15 : Value}
    (a15 : PySem.W.nsIn K mainGlobals "whole_numbers" = some (some (.ref f15))) (l15 : K.lookup f15 = some ⟨oc15, od15, .func (PySem.W.fnOf "whole_numbers" "whole_numbers" (defArgs (topS 28)) (defBody (topS 28)) (defScope (topS 28)) .none kV15 dc15 pm15 an15 cd15 ct15), sl15⟩) (c15 : PySem.W.codeIn K cd15 "whole_numbers" = true) (k15 : PySem.W.keepIn K (.ref f15) = true)
    {f16 : Addr} {od16 an16 : Option Addr} {sl16 : Array (Option Value)} {oc16 kV16 dc16 pm16 cd16 ct16 : Value}
    (a16 : PySem.W.nsIn K mainGlobals "current" = some (some (.ref f16))) (l16 : K.lookup f16 = some ⟨oc16, od16, .func (PySem.W.fnOf "current" "current" (defArgs (topS 31)) (defBody (topS 31)) (defScope (topS 31)) .none kV16 dc16 pm16 an16 cd16 ct16), sl16⟩) (c16 : PySem.W.codeIn K cd16 "current" = true) (k16 : PySem.W.keepIn K (.ref f16) = true)
    {f17 : Addr} {od17 an17 : Option Addr} {sl17 : Array (Option Value)} {oc17 kV17 dc17 pm17 cd17 ct17 : Value}
    (a17 : PySem.W.nsIn K mainGlobals "recovered" = some (some (.ref f17))) (l17 : K.lookup f17 = some ⟨oc17, od17, .func (PySem.W.fnOf "recovered" "recovered" (defArgs (topS 32)) (defBody (topS 32)) (defScope (topS 32)) .none kV17 dc17 pm17 an17 cd17 ct17), sl17⟩) (c17 : PySem.W.codeIn K cd17 "recovered" = true) (k17 : PySem.W.keepIn K (.ref f17) = true)
    {f18 : Addr} {od18 an18 : Option Addr} {sl18 : Array (Option Value)} {oc18 kV18 dc18 pm18 cd18 ct18 : Value}
    (a18 : PySem.W.nsIn K mainGlobals "back_writes" = some (some (.ref f18))) (l18 : K.lookup f18 = some ⟨oc18, od18, .func (PySem.W.fnOf "back_writes" "back_writes" (defArgs (topS 33)) (defBody (topS 33)) (defScope (topS 33)) .none kV18 dc18 pm18 an18 cd18 ct18), sl18⟩) (c18 : PySem.W.codeIn K cd18 "back_writes" = true) (k18 : PySem.W.keepIn K (.ref f18) = true)
    {f19 : Addr} {od19 an19 : Option Addr} {sl19 : Array (Option Value)} {oc19 kV19 dc19 pm19 cd19 ct19 : Value}
    (a19 : PySem.W.nsIn K mainGlobals "clean_writes" = some (some (.ref f19))) (l19 : K.lookup f19 = some ⟨oc19, od19, .func (PySem.W.fnOf "clean_writes" "clean_writes" (defArgs (topS 34)) (defBody (topS 34)) (defScope (topS 34)) .none kV19 dc19 pm19 an19 cd19 ct19), sl19⟩) (c19 : PySem.W.codeIn K cd19 "clean_writes" = true) (k19 : PySem.W.keepIn K (.ref f19) = true)
    {f20 : Addr} {od20 an20 : Option Addr} {sl20 : Array (Option Value)} {oc20 kV20 dc20 pm20 cd20 ct20 : Value}
    (a20 : PySem.W.nsIn K mainGlobals "after" = some (some (.ref f20))) (l20 : K.lookup f20 = some ⟨oc20, od20, .func (PySem.W.fnOf "after" "after" (defArgs (topS 35)) (defBody (topS 35)) (defScope (topS 35)) .none kV20 dc20 pm20 an20 cd20 ct20), sl20⟩) (c20 : PySem.W.codeIn K cd20 "after" = true) (k20 : PySem.W.keepIn K (.ref f20) = true)
    {f21 : Addr} {od21 an21 : Option Addr} {sl21 : Array (Option Value)} {oc21 kV21 dc21 pm21 cd21 ct21 : Value}
    (a21 : PySem.W.nsIn K mainGlobals "_law_tape" = some (some (.ref f21))) (l21 : K.lookup f21 = some ⟨oc21, od21, .func (PySem.W.fnOf "_law_tape" "_law_tape" (defArgs (topS 37)) (defBody (topS 37)) (defScope (topS 37)) .none kV21 dc21 pm21 an21 cd21 ct21), sl21⟩) (c21 : PySem.W.codeIn K cd21 "_law_tape" = true) (k21 : PySem.W.keepIn K (.ref f21) = true)
    {f22 : Addr} {od22 an22 : Option Addr} {sl22 : Array (Option Value)} {oc22 kV22 dc22 pm22 cd22 ct22 : Value}
    (a22 : PySem.W.nsIn K mainGlobals "_law_take" = some (some (.ref f22))) (l22 : K.lookup f22 = some ⟨oc22, od22, .func (PySem.W.fnOf "_law_take" "_law_take" (defArgs (topS 38)) (defBody (topS 38)) (defScope (topS 38)) .none kV22 dc22 pm22 an22 cd22 ct22), sl22⟩) (c22 : PySem.W.codeIn K cd22 "_law_take" = true) (k22 : PySem.W.keepIn K (.ref f22) = true)
    {f23 : Addr} {od23 an23 : Option Addr} {sl23 : Array (Option Value)} {oc23 kV23 dc23 pm23 cd23 ct23 : Value}
    (a23 : PySem.W.nsIn K mainGlobals "_law_digest" = some (some (.ref f23))) (l23 : K.lookup f23 = some ⟨oc23, od23, .func (PySem.W.fnOf "_law_digest" "_law_digest" (defArgs (topS 39)) (defBody (topS 39)) (defScope (topS 39)) .none kV23 dc23 pm23 an23 cd23 ct23), sl23⟩) (c23 : PySem.W.codeIn K cd23 "_law_digest" = true) (k23 : PySem.W.keepIn K (.ref f23) = true)
    {f24 : Addr} {od24 an24 : Option Addr} {sl24 : Array (Option Value)} {oc24 kV24 dc24 pm24 cd24 ct24 : Value}
    (a24 : PySem.W.nsIn K mainGlobals "_law_name" = some (some (.ref f24))) (l24 : K.lookup f24 = some ⟨oc24, od24, .func (PySem.W.fnOf "_law_name" "_law_name" (defArgs (topS 40)) (defBody (topS 40)) (defScope (topS 40)) .none kV24 dc24 pm24 an24 cd24 ct24), sl24⟩) (c24 : PySem.W.codeIn K cd24 "_law_name" = true) (k24 : PySem.W.keepIn K (.ref f24) = true)
    {f25 : Addr} {od25 an25 : Option Addr} {sl25 : Array (Option Value)} {oc25 kV25 dc25 pm25 cd25 ct25 : Value}
    (a25 : PySem.W.nsIn K mainGlobals "_law_image" = some (some (.ref f25))) (l25 : K.lookup f25 = some ⟨oc25, od25, .func (PySem.W.fnOf "_law_image" "_law_image" (defArgs (topS 41)) (defBody (topS 41)) (defScope (topS 41)) .none kV25 dc25 pm25 an25 cd25 ct25), sl25⟩) (c25 : PySem.W.codeIn K cd25 "_law_image" = true) (k25 : PySem.W.keepIn K (.ref f25) = true)
    {f26 : Addr} {od26 an26 : Option Addr} {sl26 : Array (Option Value)} {oc26 kV26 dc26 pm26 cd26 ct26 : Value}
    (a26 : PySem.W.nsIn K mainGlobals "_law_after" = some (some (.ref f26))) (l26 : K.lookup f26 = some ⟨oc26, od26, .func (PySem.W.fnOf "_law_after" "_law_after" (defArgs (topS 42)) (defBody (topS 42)) (defScope (topS 42)) .none kV26 dc26 pm26 an26 cd26 ct26), sl26⟩) (c26 : PySem.W.codeIn K cd26 "_law_after" = true) (k26 : PySem.W.keepIn K (.ref f26) = true)
    {f27 : Addr} {od27 an27 : Option Addr} {sl27 : Array (Option Value)} {oc27 kV27 dc27 pm27 cd27 ct27 : Value}
    (a27 : PySem.W.nsIn K mainGlobals "_law_generation" = some (some (.ref f27))) (l27 : K.lookup f27 = some ⟨oc27, od27, .func (PySem.W.fnOf "_law_generation" "_law_generation" (defArgs (topS 43)) (defBody (topS 43)) (defScope (topS 43)) .none kV27 dc27 pm27 an27 cd27 ct27), sl27⟩) (c27 : PySem.W.codeIn K cd27 "_law_generation" = true) (k27 : PySem.W.keepIn K (.ref f27) = true)
    {f28 : Addr} {od28 an28 : Option Addr} {sl28 : Array (Option Value)} {oc28 kV28 dc28 pm28 cd28 ct28 : Value}
    (a28 : PySem.W.nsIn K mainGlobals "_law_numbers" = some (some (.ref f28))) (l28 : K.lookup f28 = some ⟨oc28, od28, .func (PySem.W.fnOf "_law_numbers" "_law_numbers" (defArgs (topS 44)) (defBody (topS 44)) (defScope (topS 44)) .none kV28 dc28 pm28 an28 cd28 ct28), sl28⟩) (c28 : PySem.W.codeIn K cd28 "_law_numbers" = true) (k28 : PySem.W.keepIn K (.ref f28) = true)
    {f29 : Addr} {od29 an29 : Option Addr} {sl29 : Array (Option Value)} {oc29 kV29 dc29 pm29 cd29 ct29 : Value}
    (a29 : PySem.W.nsIn K mainGlobals "_law_files_of" = some (some (.ref f29))) (l29 : K.lookup f29 = some ⟨oc29, od29, .func (PySem.W.fnOf "_law_files_of" "_law_files_of" (defArgs (topS 45)) (defBody (topS 45)) (defScope (topS 45)) .none kV29 dc29 pm29 an29 cd29 ct29), sl29⟩) (c29 : PySem.W.codeIn K cd29 "_law_files_of" = true) (k29 : PySem.W.keepIn K (.ref f29) = true)
    {f30 : Addr} {od30 an30 : Option Addr} {sl30 : Array (Option Value)} {oc30 kV30 dc30 pm30 cd30 ct30 : Value}
    (a30 : PySem.W.nsIn K mainGlobals "_law_whole" = some (some (.ref f30))) (l30 : K.lookup f30 = some ⟨oc30, od30, .func (PySem.W.fnOf "_law_whole" "_law_whole" (defArgs (topS 46)) (defBody (topS 46)) (defScope (topS 46)) .none kV30 dc30 pm30 an30 cd30 ct30), sl30⟩) (c30 : PySem.W.codeIn K cd30 "_law_whole" = true) (k30 : PySem.W.keepIn K (.ref f30) = true)
    {f31 : Addr} {od31 an31 : Option Addr} {sl31 : Array (Option Value)} {oc31 kV31 dc31 pm31 cd31 ct31 : Value}
    (a31 : PySem.W.nsIn K mainGlobals "_law_current" = some (some (.ref f31))) (l31 : K.lookup f31 = some ⟨oc31, od31, .func (PySem.W.fnOf "_law_current" "_law_current" (defArgs (topS 47)) (defBody (topS 47)) (defScope (topS 47)) .none kV31 dc31 pm31 an31 cd31 ct31), sl31⟩) (c31 : PySem.W.codeIn K cd31 "_law_current" = true) (k31 : PySem.W.keepIn K (.ref f31) = true)
    {f32 : Addr} {od32 an32 : Option Addr} {sl32 : Array (Option Value)} {oc32 kV32 dc32 pm32 cd32 ct32 : Value}
    (a32 : PySem.W.nsIn K mainGlobals "_law_install" = some (some (.ref f32))) (l32 : K.lookup f32 = some ⟨oc32, od32, .func (PySem.W.fnOf "_law_install" "_law_install" (defArgs (topS 48)) (defBody (topS 48)) (defScope (topS 48)) .none kV32 dc32 pm32 an32 cd32 ct32), sl32⟩) (c32 : PySem.W.codeIn K cd32 "_law_install" = true) (k32 : PySem.W.keepIn K (.ref f32) = true)
    {f33 : Addr} {od33 an33 : Option Addr} {sl33 : Array (Option Value)} {oc33 kV33 dc33 pm33 cd33 ct33 : Value}
    (a33 : PySem.W.nsIn K mainGlobals "_law_recover" = some (some (.ref f33))) (l33 : K.lookup f33 = some ⟨oc33, od33, .func (PySem.W.fnOf "_law_recover" "_law_recover" (defArgs (topS 49)) (defBody (topS 49)) (defScope (topS 49)) .none kV33 dc33 pm33 an33 cd33 ct33), sl33⟩) (c33 : PySem.W.codeIn K cd33 "_law_recover" = true) (k33 : PySem.W.keepIn K (.ref f33) = true)
    {f34 : Addr} {od34 an34 : Option Addr} {sl34 : Array (Option Value)} {oc34 kV34 dc34 pm34 cd34 ct34 : Value}
    (a34 : PySem.W.nsIn K mainGlobals "_law_clean" = some (some (.ref f34))) (l34 : K.lookup f34 = some ⟨oc34, od34, .func (PySem.W.fnOf "_law_clean" "_law_clean" (defArgs (topS 50)) (defBody (topS 50)) (defScope (topS 50)) .none kV34 dc34 pm34 an34 cd34 ct34), sl34⟩) (c34 : PySem.W.codeIn K cd34 "_law_clean" = true) (k34 : PySem.W.keepIn K (.ref f34) = true)
    {f35 : Addr} {od35 an35 : Option Addr} {sl35 : Array (Option Value)} {oc35 kV35 dc35 pm35 cd35 ct35 : Value}
    (a35 : PySem.W.nsIn K mainGlobals "_law_some_files" = some (some (.ref f35))) (l35 : K.lookup f35 = some ⟨oc35, od35, .func (PySem.W.fnOf "_law_some_files" "_law_some_files" (defArgs (topS 51)) (defBody (topS 51)) (defScope (topS 51)) .none kV35 dc35 pm35 an35 cd35 ct35), sl35⟩) (c35 : PySem.W.codeIn K cd35 "_law_some_files" = true) (k35 : PySem.W.keepIn K (.ref f35) = true)
    {f36 : Addr} {od36 an36 : Option Addr} {sl36 : Array (Option Value)} {oc36 kV36 dc36 pm36 cd36 ct36 : Value}
    (a36 : PySem.W.nsIn K mainGlobals "_law_patched" = some (some (.ref f36))) (l36 : K.lookup f36 = some ⟨oc36, od36, .func (PySem.W.fnOf "_law_patched" "_law_patched" (defArgs (topS 52)) (defBody (topS 52)) (defScope (topS 52)) .none kV36 dc36 pm36 an36 cd36 ct36), sl36⟩) (c36 : PySem.W.codeIn K cd36 "_law_patched" = true) (k36 : PySem.W.keepIn K (.ref f36) = true)
    {f37 : Addr} {od37 an37 : Option Addr} {sl37 : Array (Option Value)} {oc37 kV37 dc37 pm37 cd37 ct37 : Value}
    (a37 : PySem.W.nsIn K mainGlobals "_law_cut" = some (some (.ref f37))) (l37 : K.lookup f37 = some ⟨oc37, od37, .func (PySem.W.fnOf "_law_cut" "_law_cut" (defArgs (topS 53)) (defBody (topS 53)) (defScope (topS 53)) .none kV37 dc37 pm37 an37 cd37 ct37), sl37⟩) (c37 : PySem.W.codeIn K cd37 "_law_cut" = true) (k37 : PySem.W.keepIn K (.ref f37) = true)
    {f38 : Addr} {od38 an38 : Option Addr} {sl38 : Array (Option Value)} {oc38 kV38 dc38 pm38 cd38 ct38 : Value}
    (a38 : PySem.W.nsIn K mainGlobals "_law_machine" = some (some (.ref f38))) (l38 : K.lookup f38 = some ⟨oc38, od38, .func (PySem.W.fnOf "_law_machine" "_law_machine" (defArgs (topS 54)) (defBody (topS 54)) (defScope (topS 54)) .none kV38 dc38 pm38 an38 cd38 ct38), sl38⟩) (c38 : PySem.W.codeIn K cd38 "_law_machine" = true) (k38 : PySem.W.keepIn K (.ref f38) = true)
    {f39 : Addr} {od39 an39 : Option Addr} {sl39 : Array (Option Value)} {oc39 kV39 dc39 pm39 cd39 ct39 : Value}
    (a39 : PySem.W.nsIn K mainGlobals "law" = some (some (.ref f39))) (l39 : K.lookup f39 = some ⟨oc39, od39, .func (PySem.W.fnOf "law" "law" (defArgs (topS 55)) (defBody (topS 55)) (defScope (topS 55)) .none kV39 dc39 pm39 an39 cd39 ct39), sl39⟩) (c39 : PySem.W.codeIn K cd39 "law" = true) (k39 : PySem.W.keepIn K (.ref f39) = true)
    (z_abs : PySem.W.nsIn K mainGlobals "abs" = some none)
    (z_all : PySem.W.nsIn K mainGlobals "all" = some none)
    (z_any : PySem.W.nsIn K mainGlobals "any" = some none)
    (z_dict : PySem.W.nsIn K mainGlobals "dict" = some none)
    (z_int : PySem.W.nsIn K mainGlobals "int" = some none)
    (z_isinstance : PySem.W.nsIn K mainGlobals "isinstance" = some none)
    (z_len : PySem.W.nsIn K mainGlobals "len" = some none)
    (z_list : PySem.W.nsIn K mainGlobals "list" = some none)
    (z_max : PySem.W.nsIn K mainGlobals "max" = some none)
    (z_ord : PySem.W.nsIn K mainGlobals "ord" = some none)
    (z_range : PySem.W.nsIn K mainGlobals "range" = some none)
    (z_set : PySem.W.nsIn K mainGlobals "set" = some none)
    (z_sorted : PySem.W.nsIn K mainGlobals "sorted" = some none)
    (z_str : PySem.W.nsIn K mainGlobals "str" = some none)
    (z_sum : PySem.W.nsIn K mainGlobals "sum" = some none)
    (z_tuple : PySem.W.nsIn K mainGlobals "tuple" = some none)
    {t_BASE : Tok} (c_BASE : PySem.W.nsIn K mainGlobals "BASE" = some (some (.int (2000003) t_BASE)))
    {t_BLOCK : Tok} (c_BLOCK : PySem.W.nsIn K mainGlobals "BLOCK" = some (some (.int (8) t_BLOCK)))
    {t_DIGITS_images : Tok} (c_DIGITS_images : PySem.W.nsIn K mainGlobals "DIGITS_images" = some (some (.str "0123456789" t_DIGITS_images)))
    {t_DIGITS_machines : Tok} (c_DIGITS_machines : PySem.W.nsIn K mainGlobals "DIGITS_machines" = some (some (.str "0123456789" t_DIGITS_machines)))
    {t_MOST_DIGITS : Tok} (c_MOST_DIGITS : PySem.W.nsIn K mainGlobals "MOST_DIGITS" = some (some (.int (9) t_MOST_DIGITS)))
    {t_PRIME : Tok} (c_PRIME : PySem.W.nsIn K mainGlobals "PRIME" = some (some (.int (2305843009213693951) t_PRIME)))
    {t_SIGNS : Tok} (c_SIGNS : PySem.W.nsIn K mainGlobals "SIGNS" = some (some (.str "0123456789abcdef" t_SIGNS)))
    {e_NoPatch : Addr} (ea_NoPatch : PySem.W.nsIn K mainGlobals "NoPatch" = some (some (.ref e_NoPatch))) (xq_NoPatch : PySem.W.excIn K e_NoPatch [.type "ValueError", .type "Exception", .type "BaseException", .type "object"] "ValueError.__new__" = true) (ek_NoPatch : PySem.W.keepIn K (.ref e_NoPatch) = true) (eb_NoPatch : PySem.W.subIn K (.ref e_NoPatch) (.type "BaseException") = some true) (et_NoPatch : PySem.W.typeIn K (.ref e_NoPatch) = some (.type "type")) (ei_NoPatch : PySem.W.isClsIn K e_NoPatch = true) (es_NoPatch : PySem.W.subIn K (.ref e_NoPatch) (.ref e_NoPatch) = some true)
    : ∃ fd : FuncData, (∀ (s : Shared) (v : Value), BindsTo s fd ⟨[v], []⟩ [("script", v)]) ∧ ∀ base : Heap, K.In base → base.Ns mainGlobals mg → FnOk l.prog w K mg base CX0 7 fa fd ["script"] (spA K 1 fs_law) := by
  have e := hfa.symm.trans (PySem.W.mg_of X G a39)
  cases e
  have F0 := fun_mk (st := topS 4) l0 c0 k0
  have F1 := fun_mk (st := topS 5) l1 c1 k1
  have F2 := fun_mk (st := topS 14) l2 c2 k2
  have F3 := fun_mk (st := topS 15) l3 c3 k3
  have F4 := fun_mk (st := topS 16) l4 c4 k4
  have F5 := fun_mk (st := topS 17) l5 c5 k5
  have F6 := fun_mk (st := topS 18) l6 c6 k6
  have F7 := fun_mk (st := topS 19) l7 c7 k7
  have F8 := fun_mk (st := topS 20) l8 c8 k8
  have F9 := fun_mk (st := topS 25) l9 c9 k9
  have F10 := fun_mk (st := topS 26) l10 c10 k10
  have F11 := fun_mk (st := topS 27) l11 c11 k11
  have F12 := fun_mk (st := topS 30) l12 c12 k12
  have F13 := fun_mk (st := topS 24) l13 c13 k13
  have F14 := fun_mk (st := topS 29) l14 c14 k14
  have F15 := fun_mk (st := topS 28) l15 c15 k15
  have F16 := fun_mk (st := topS 31) l16 c16 k16
  have F17 := fun_mk (st := topS 32) l17 c17 k17
  have F18 := fun_mk (st := topS 33) l18 c18 k18
  have F19 := fun_mk (st := topS 34) l19 c19 k19
  have F20 := fun_mk (st := topS 35) l20 c20 k20
  have F21 := fun_mk (st := topS 37) l21 c21 k21
  have F22 := fun_mk (st := topS 38) l22 c22 k22
  have F23 := fun_mk (st := topS 39) l23 c23 k23
  have F24 := fun_mk (st := topS 40) l24 c24 k24
  have F25 := fun_mk (st := topS 41) l25 c25 k25
  have F26 := fun_mk (st := topS 42) l26 c26 k26
  have F27 := fun_mk (st := topS 43) l27 c27 k27
  have F28 := fun_mk (st := topS 44) l28 c28 k28
  have F29 := fun_mk (st := topS 45) l29 c29 k29
  have F30 := fun_mk (st := topS 46) l30 c30 k30
  have F31 := fun_mk (st := topS 47) l31 c31 k31
  have F32 := fun_mk (st := topS 48) l32 c32 k32
  have F33 := fun_mk (st := topS 49) l33 c33 k33
  have F34 := fun_mk (st := topS 50) l34 c34 k34
  have F35 := fun_mk (st := topS 51) l35 c35 k35
  have F36 := fun_mk (st := topS 52) l36 c36 k36
  have F37 := fun_mk (st := topS 53) l37 c37 k37
  have F38 := fun_mk (st := topS 54) l38 c38 k38
  have F39 := fun_mk (st := topS 55) l39 c39 k39
  let C : Nat → Addr := fun c => if c = 0 then e_NoPatch else 0
  let T : Top K mg C := ⟨⟨_, _, F0, PySem.W.mg_of X G a0, F0.binds fun _ _ _ _ _ _ us hl => match us, hl with | [_], _ => rfl⟩, ⟨_, _, F1, PySem.W.mg_of X G a1, F1.binds fun _ _ _ _ _ _ us hl => match us, hl with | [_], _ => rfl⟩, ⟨_, _, F2, PySem.W.mg_of X G a2, F2.binds fun _ _ _ _ _ _ us hl => match us, hl with | [_], _ => rfl⟩, ⟨_, _, F3, PySem.W.mg_of X G a3, F3.binds fun _ _ _ _ _ _ us hl => match us, hl with | [_, _], _ => rfl⟩, ⟨_, _, F4, PySem.W.mg_of X G a4, F4.binds fun _ _ _ _ _ _ us hl => match us, hl with | [_], _ => rfl⟩, ⟨_, _, F5, PySem.W.mg_of X G a5, F5.binds fun _ _ _ _ _ _ us hl => match us, hl with | [_, _], _ => rfl⟩, ⟨_, _, F6, PySem.W.mg_of X G a6, F6.binds fun _ _ _ _ _ _ us hl => match us, hl with | [_, _], _ => rfl⟩, ⟨_, _, F7, PySem.W.mg_of X G a7, F7.binds fun _ _ _ _ _ _ us hl => match us, hl with | [_], _ => rfl⟩, ⟨_, _, F8, PySem.W.mg_of X G a8, F8.binds fun _ _ _ _ _ _ us hl => match us, hl with | [_, _], _ => rfl⟩, ⟨_, _, F9, PySem.W.mg_of X G a9, F9.binds fun _ _ _ _ _ _ us hl => match us, hl with | [_, _], _ => rfl⟩, ⟨_, _, F10, PySem.W.mg_of X G a10, F10.binds fun _ _ _ _ _ _ us hl => match us, hl with | [_], _ => rfl⟩, ⟨_, _, F11, PySem.W.mg_of X G a11, F11.binds fun _ _ _ _ _ _ us hl => match us, hl with | [_], _ => rfl⟩, ⟨_, _, F12, PySem.W.mg_of X G a12, F12.binds fun _ _ _ _ _ _ us hl => match us, hl with | [_, _], _ => rfl⟩, ⟨_, _, F13, PySem.W.mg_of X G a13, F13.binds fun _ _ _ _ _ _ us hl => match us, hl with | [_], _ => rfl⟩, ⟨_, _, F14, PySem.W.mg_of X G a14, F14.binds fun _ _ _ _ _ _ us hl => match us, hl with | [_, _], _ => rfl⟩, ⟨_, _, F15, PySem.W.mg_of X G a15, F15.binds fun _ _ _ _ _ _ us hl => match us, hl with | [_], _ => rfl⟩, ⟨_, _, F16, PySem.W.mg_of X G a16, F16.binds fun _ _ _ _ _ _ us hl => match us, hl with | [_], _ => rfl⟩, ⟨_, _, F17, PySem.W.mg_of X G a17, F17.binds fun _ _ _ _ _ _ us hl => match us, hl with | [_], _ => rfl⟩, ⟨_, _, F18, PySem.W.mg_of X G a18, F18.binds fun _ _ _ _ _ _ us hl => match us, hl with | [_, _], _ => rfl⟩, ⟨_, _, F19, PySem.W.mg_of X G a19, F19.binds fun _ _ _ _ _ _ us hl => match us, hl with | [_, _], _ => rfl⟩, ⟨_, _, F20, PySem.W.mg_of X G a20, F20.binds fun _ _ _ _ _ _ us hl => match us, hl with | [_, _, _], _ => rfl⟩, ⟨_, _, F21, PySem.W.mg_of X G a21, F21.binds fun _ _ _ _ _ _ us hl => match us, hl with | [_], _ => rfl⟩, ⟨_, _, F22, PySem.W.mg_of X G a22, F22.binds fun _ _ _ _ _ _ us hl => match us, hl with | [_, _], _ => rfl⟩, ⟨_, _, F23, PySem.W.mg_of X G a23, F23.binds fun _ _ _ _ _ _ us hl => match us, hl with | [_], _ => rfl⟩, ⟨_, _, F24, PySem.W.mg_of X G a24, F24.binds fun _ _ _ _ _ _ us hl => match us, hl with | [_, _], _ => rfl⟩, ⟨_, _, F25, PySem.W.mg_of X G a25, F25.binds fun _ _ _ _ _ _ us hl => match us, hl with | [_], _ => rfl⟩, ⟨_, _, F26, PySem.W.mg_of X G a26, F26.binds fun _ _ _ _ _ _ us hl => match us, hl with | [_, _, _], _ => rfl⟩, ⟨_, _, F27, PySem.W.mg_of X G a27, F27.binds fun _ _ _ _ _ _ us hl => match us, hl with | [_], _ => rfl⟩, ⟨_, _, F28, PySem.W.mg_of X G a28, F28.binds fun _ _ _ _ _ _ us hl => match us, hl with | [_], _ => rfl⟩, ⟨_, _, F29, PySem.W.mg_of X G a29, F29.binds fun _ _ _ _ _ _ us hl => match us, hl with | [_, _], _ => rfl⟩, ⟨_, _, F30, PySem.W.mg_of X G a30, F30.binds fun _ _ _ _ _ _ us hl => match us, hl with | [_], _ => rfl⟩, ⟨_, _, F31, PySem.W.mg_of X G a31, F31.binds fun _ _ _ _ _ _ us hl => match us, hl with | [_], _ => rfl⟩, ⟨_, _, F32, PySem.W.mg_of X G a32, F32.binds fun _ _ _ _ _ _ us hl => match us, hl with | [_, _], _ => rfl⟩, ⟨_, _, F33, PySem.W.mg_of X G a33, F33.binds fun _ _ _ _ _ _ us hl => match us, hl with | [_], _ => rfl⟩, ⟨_, _, F34, PySem.W.mg_of X G a34, F34.binds fun _ _ _ _ _ _ us hl => match us, hl with | [_, _], _ => rfl⟩, ⟨_, _, F35, PySem.W.mg_of X G a35, F35.binds fun _ _ _ _ _ _ us hl => match us, hl with | [_, _], _ => rfl⟩, ⟨_, _, F36, PySem.W.mg_of X G a36, F36.binds fun _ _ _ _ _ _ us hl => match us, hl with | [_, _], _ => rfl⟩, ⟨_, _, F37, PySem.W.mg_of X G a37, F37.binds fun _ _ _ _ _ _ us hl => match us, hl with | [_, _, _, _], _ => rfl⟩, ⟨_, _, F38, PySem.W.mg_of X G a38, F38.binds fun _ _ _ _ _ _ us hl => match us, hl with | [_, _, _, _], _ => rfl⟩, ⟨_, _, F39, PySem.W.mg_of X G a39, F39.binds fun _ _ _ _ _ _ us hl => match us, hl with | [_], _ => rfl⟩, PySem.W.mg_none_of X G z_abs, PySem.W.mg_none_of X G z_all, PySem.W.mg_none_of X G z_any, PySem.W.mg_none_of X G z_dict, PySem.W.mg_none_of X G z_int, PySem.W.mg_none_of X G z_isinstance, PySem.W.mg_none_of X G z_len, PySem.W.mg_none_of X G z_list, PySem.W.mg_none_of X G z_max, PySem.W.mg_none_of X G z_ord, PySem.W.mg_none_of X G z_range, PySem.W.mg_none_of X G z_set, PySem.W.mg_none_of X G z_sorted, PySem.W.mg_none_of X G z_str, PySem.W.mg_none_of X G z_sum, PySem.W.mg_none_of X G z_tuple, ⟨_, PySem.W.mg_of X G c_BASE⟩, ⟨_, PySem.W.mg_of X G c_BLOCK⟩, ⟨_, PySem.W.mg_of X G c_DIGITS_images⟩, ⟨_, PySem.W.mg_of X G c_DIGITS_machines⟩, ⟨_, PySem.W.mg_of X G c_MOST_DIGITS⟩, ⟨_, PySem.W.mg_of X G c_PRIME⟩, ⟨_, PySem.W.mg_of X G c_SIGNS⟩, ⟨PySem.W.mg_of X G ea_NoPatch, xq_NoPatch, ek_NoPatch, eb_NoPatch, et_NoPatch, exm_me eb_NoPatch ei_NoPatch et_NoPatch es_NoPatch⟩⟩
  exact ⟨T.f_law.d, fun s v => .of_eq rfl, fun base _ _ => spA_ok (ok_law T)⟩
end PD

open PySem PySem.W PyProof.Rows
set_option maxHeartbeats 0 in
theorem PySem.Challenge.cw_sameinsameout_k59_whole_fleets_brought_a_holds : PySem.Challenge.rw_sameinsameout_k59_whole_fleets_brought_a.Holds := by
  w_on; o_law; k_head; (case hw => w_witness2)
  k_fill
  refine L2.walk_ofK (l := PySem.Challenge.rw_sameinsameout_k59_whole_fleets_brought_a) (n := 63) (k := 7) (x := "script") (CX := L2.CX0) (sp := fun K => PD.spA K 1 PD.fs_law) rfl (by decide) rfl ⟨rfl, by decide, by decide⟩ (fun w h Y => PySem.W.kIn_of Y) ?F (fun K H a ns hl _ hS => fun C => PD.law_end PD.law_true K C H a ns hl hS _) (fun _ _ _ _ h => h)
  case F =>
    intro w mg fa h KX G hmg
    refine' PD.all_mk KX G hmg ?a0 ?l0 ?c0 ?k0 ?a1 ?l1 ?c1 ?k1 ?a2 ?l2 ?c2 ?k2 ?a3 ?l3 ?c3 ?k3 ?a4 ?l4 ?c4 ?k4 ?a5 ?l5 ?c5 ?k5 ?a6 ?l6 ?c6 ?k6 ?a7 ?l7 ?c7 ?k7 ?a8 ?l8 ?c8 ?k8 ?a9 ?l9 ?c9 ?k9 ?a10 ?l10 ?c10 ?k10 ?a11 ?l11 ?c11 ?k11 ?a12 ?l12 ?c12 ?k12 ?a13 ?l13 ?c13 ?k13 ?a14 ?l14 ?c14 ?k14 ?a15 ?l15 ?c15 ?k15 ?a16 ?l16 ?c16 ?k16 ?a17 ?l17 ?c17 ?k17 ?a18 ?l18 ?c18 ?k18 ?a19 ?l19 ?c19 ?k19 ?a20 ?l20 ?c20 ?k20 ?a21 ?l21 ?c21 ?k21 ?a22 ?l22 ?c22 ?k22 ?a23 ?l23 ?c23 ?k23 ?a24 ?l24 ?c24 ?k24 ?a25 ?l25 ?c25 ?k25 ?a26 ?l26 ?c26 ?k26 ?a27 ?l27 ?c27 ?k27 ?a28 ?l28 ?c28 ?k28 ?a29 ?l29 ?c29 ?k29 ?a30 ?l30 ?c30 ?k30 ?a31 ?l31 ?c31 ?k31 ?a32 ?l32 ?c32 ?k32 ?a33 ?l33 ?c33 ?k33 ?a34 ?l34 ?c34 ?k34 ?a35 ?l35 ?c35 ?k35 ?a36 ?l36 ?c36 ?k36 ?a37 ?l37 ?c37 ?k37 ?a38 ?l38 ?c38 ?k38 ?a39 ?l39 ?c39 ?k39 ?z_abs ?z_all ?z_any ?z_dict ?z_int ?z_isinstance ?z_len ?z_list ?z_max ?z_ord ?z_range ?z_set ?z_sorted ?z_str ?z_sum ?z_tuple ?c_BASE ?c_BLOCK ?c_DIGITS_images ?c_DIGITS_machines ?c_MOST_DIGITS ?c_PRIME ?c_SIGNS ?ea_NoPatch ?xq_NoPatch ?ek_NoPatch ?eb_NoPatch ?et_NoPatch ?ei_NoPatch ?es_NoPatch
    (case a0 => k_is); (case l0 => k_is); (case c0 => k_is); (case k0 => k_is); (case a1 => k_is); (case l1 => k_is); (case c1 => k_is); (case k1 => k_is); (case a2 => k_is); (case l2 => k_is); (case c2 => k_is); (case k2 => k_is); (case a3 => k_is); (case l3 => k_is); (case c3 => k_is); (case k3 => k_is); (case a4 => k_is); (case l4 => k_is); (case c4 => k_is); (case k4 => k_is); (case a5 => k_is); (case l5 => k_is); (case c5 => k_is); (case k5 => k_is); (case a6 => k_is); (case l6 => k_is); (case c6 => k_is); (case k6 => k_is); (case a7 => k_is); (case l7 => k_is); (case c7 => k_is); (case k7 => k_is); (case a8 => k_is); (case l8 => k_is); (case c8 => k_is); (case k8 => k_is); (case a9 => k_is); (case l9 => k_is); (case c9 => k_is); (case k9 => k_is); (case a10 => k_is); (case l10 => k_is); (case c10 => k_is); (case k10 => k_is); (case a11 => k_is); (case l11 => k_is); (case c11 => k_is); (case k11 => k_is); (case a12 => k_is); (case l12 => k_is); (case c12 => k_is); (case k12 => k_is); (case a13 => k_is); (case l13 => k_is); (case c13 => k_is); (case k13 => k_is); (case a14 => k_is); (case l14 => k_is); (case c14 => k_is); (case k14 => k_is); (case a15 => k_is); (case l15 => k_is); (case c15 => k_is); (case k15 => k_is); (case a16 => k_is); (case l16 => k_is); (case c16 => k_is); (case k16 => k_is); (case a17 => k_is); (case l17 => k_is); (case c17 => k_is); (case k17 => k_is); (case a18 => k_is); (case l18 => k_is); (case c18 => k_is); (case k18 => k_is); (case a19 => k_is); (case l19 => k_is); (case c19 => k_is); (case k19 => k_is); (case a20 => k_is); (case l20 => k_is); (case c20 => k_is); (case k20 => k_is); (case a21 => k_is); (case l21 => k_is); (case c21 => k_is); (case k21 => k_is); (case a22 => k_is); (case l22 => k_is); (case c22 => k_is); (case k22 => k_is); (case a23 => k_is); (case l23 => k_is); (case c23 => k_is); (case k23 => k_is); (case a24 => k_is); (case l24 => k_is); (case c24 => k_is); (case k24 => k_is); (case a25 => k_is); (case l25 => k_is); (case c25 => k_is); (case k25 => k_is); (case a26 => k_is); (case l26 => k_is); (case c26 => k_is); (case k26 => k_is); (case a27 => k_is); (case l27 => k_is); (case c27 => k_is); (case k27 => k_is); (case a28 => k_is); (case l28 => k_is); (case c28 => k_is); (case k28 => k_is); (case a29 => k_is); (case l29 => k_is); (case c29 => k_is); (case k29 => k_is); (case a30 => k_is); (case l30 => k_is); (case c30 => k_is); (case k30 => k_is); (case a31 => k_is); (case l31 => k_is); (case c31 => k_is); (case k31 => k_is); (case a32 => k_is); (case l32 => k_is); (case c32 => k_is); (case k32 => k_is); (case a33 => k_is); (case l33 => k_is); (case c33 => k_is); (case k33 => k_is); (case a34 => k_is); (case l34 => k_is); (case c34 => k_is); (case k34 => k_is); (case a35 => k_is); (case l35 => k_is); (case c35 => k_is); (case k35 => k_is); (case a36 => k_is); (case l36 => k_is); (case c36 => k_is); (case k36 => k_is); (case a37 => k_is); (case l37 => k_is); (case c37 => k_is); (case k37 => k_is); (case a38 => k_is); (case l38 => k_is); (case c38 => k_is); (case k38 => k_is); (case a39 => k_is); (case l39 => k_is); (case c39 => k_is); (case k39 => k_is); (case z_abs => k_is); (case z_all => k_is); (case z_any => k_is); (case z_dict => k_is); (case z_int => k_is); (case z_isinstance => k_is); (case z_len => k_is); (case z_list => k_is); (case z_max => k_is); (case z_ord => k_is); (case z_range => k_is); (case z_set => k_is); (case z_sorted => k_is); (case z_str => k_is); (case z_sum => k_is); (case z_tuple => k_is); (case c_BASE => k_is); (case c_BLOCK => k_is); (case c_DIGITS_images => k_is); (case c_DIGITS_machines => k_is); (case c_MOST_DIGITS => k_is); (case c_PRIME => k_is); (case c_SIGNS => k_is); (case ea_NoPatch => k_is); (case xq_NoPatch => k_exc); (case ek_NoPatch => k_is); (case eb_NoPatch => k_is); (case et_NoPatch => k_is); (case ei_NoPatch => k_is); (case es_NoPatch => first | rfl | k_is)
