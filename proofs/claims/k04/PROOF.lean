import PyProof.Rows.All
import Wide.All
import OpenK.AllK
import Wide.FinOn
import HandS.ForMost
import HandS.ForExc
import HandS.Wide
import HandS.Walk
import HandS.Zip
import HandS.FStr
import HandS.IsInst
import HandS.TryMany
import HandS.CallSlots
import HandS.SetKeys
import HandS.TupAny
import HandS.Conv
import HandS.Codes
import HandS.ExcField
import HandS.Defaults
import HandS.Flow
import HandS.WordsDict
import HandS.RaiseMore
import HandS.More
import HandS.Small
import KE.GoesEnumKw
import HandS.SortKw
import KE.DatumOrd
import HandS.ExcInit
import HandS.ExcIs
import KE.KExcInit
import HandS.Ends
import HandS.HeadHook2
import KE.KStateDown
import Lean
import HandS.Head0
import HandS.Head1
import HandS.Head2
import PySem.Challenge.RW_advowson_k04_parts_and_paths
set_option Elab.async false
set_option linter.all false
set_option maxRecDepth 100000
section
set_option Elab.async false
set_option linter.all false
set_option maxRecDepth 100000
/-! A1: values as trees, states of mutable objects, how they stand in the layer's heap. -/
namespace A
open PySem L2

/-- a value: tuples are trees; mutable objects stand at addresses; a def of the module by its number; a caught error by class and fields; lis: a list that nobody changes (the script) -/
inductive D where
  | non
  | bl (b : Bool)
  | int (i : Int)
  | str (s : Str)
  | tup (l : List D)
  | lis (l : List D)
  | ref (a : Addr)
  | fn (f : Nat)
  | exc (c : Nat) (fs : List Nat) (ds : List D)
  deriving Inhabited

/-- a mutable object -/
inductive MO where
  | lst (xs : List D)
  | dic (kvs : List (Key × D))
  | dicF (kvs : List (Key × D))
  | ins (c : Nat) (fs : List (Nat × D))

abbrev Sta := Addr → Option MO
abbrev Env := List (Option D)
def ups (S : Sta) (a : Addr) (o : MO) : Sta := fun b => if b = a then some o else S b
theorem ups_same {S : Sta} {a : Addr} {o : MO} : ups S a o a = some o := by unfold ups; rw [if_pos rfl]
theorem ups_ne {S : Sta} {a b : Addr} {o : MO} (h : b ≠ a) : ups S a o b = S b := by unfold ups; rw [if_neg h]
theorem ups_ups {S : Sta} {a : Addr} {o u : MO} : ups (ups S a o) a u = ups S a u := by
  funext b; unfold ups; split <;> rfl
/-- less is known -/
def Sub (S S' : Sta) : Prop := ∀ a o, S a = some o → S' a = some o
theorem Sub.refl (S : Sta) : Sub S S := fun _ _ h => h
theorem Sub.trans {S S1 S2 : Sta} (h : Sub S S1) (h' : Sub S1 S2) : Sub S S2 := fun a o q => h' a o (h a o q)
theorem sne {S : Sta} {a b : Addr} {o : MO} (h : S a = some o) (h' : S b = none) : a ≠ b := by
  intro e; rw [e, h'] at h; cases h
theorem Sub.ups {S S' : Sta} {a : Addr} {o : MO} (h : Sub S S') (n : S a = none) : Sub S (ups S' a o) := fun b u q => by
  rw [ups_ne (sne q n)]; exact h b u q

/-- how numbers name things -/
structure Nm where
  K : PySem.W.Frag
  fa : Nat → Addr
  ca : Nat → Addr
  fnm : Nat → Str
  xs : Option (Nat × Nat × List Nat × List D × Addr × Addr) := none

section
variable (N : Nm) (H : Hp)
mutual
def RD : D → V → Prop
  | .non, v => v = .non
  | .bl b, v => v = .bl b
  | .int i, v => v = .int i
  | .str s, v => v = .str s
  | .tup l, v => ∃ a vs, v = .ref a ∧ SqT N.K H a vs ∧ RDs l vs
  | .lis l, v => ∃ a vs, v = .ref a ∧ ((∃ o, H a = some (.frz o (.lst vs))) ∨ SqL N.K (fun _ => none) a vs) ∧ RDs l vs
  | .ref a, v => v = .ref a
  | .fn f, v => v = .ref (N.fa f)
  | .exc _ _ _, _ => False
def RDs : List D → List V → Prop
  | [], vs => vs = []
  | d :: ds, vs => ∃ v r, vs = v :: r ∧ RD d v ∧ RDs ds r
end
def RO (a : Addr) : MO → Prop
  | .lst xs => ∃ vs, H a = some (.lst vs) ∧ RDs N H xs vs
  | .dic kvs => ∃ ws : List (Key × V), H a = some (.dK ws) ∧ ws.map (·.1) = kvs.map (·.1) ∧ RDs N H (kvs.map (·.2)) (ws.map (·.2))
  | .dicF kvs => ∃ (od : Obj) (ws : List (Key × V)), H a = some (.frz od (.dK ws)) ∧ ws.map (·.1) = kvs.map (·.1) ∧ RDs N H (kvs.map (·.2)) (ws.map (·.2))
  | .ins c fs => ∃ (dx : Addr) (gs : List (Str × V)), H a = some (.ins (N.ca c) dx gs) ∧ gs.map (·.1) = fs.map (fun p => N.fnm p.1) ∧ RDs N H (fs.map (·.2)) (gs.map (·.2))
def RH (S : Sta) : Prop := ∀ a o, S a = some o → RO N H a o
/-- the error that a suite handles: its slot, class, fields, values; its place, its dict's -/
def XOk : Prop := match N.xs with
  | none => True
  | some (_, _, fs, ds, _, d) => ∃ (xs : List (Str × V)) (vs : List V), H d = some (.xd xs) ∧ RDs N H ds vs ∧ fs.length = vs.length ∧ ∀ (i : Nat) f v, fs[i]? = some f → vs[i]? = some v → xs.lookup (N.fnm f) = some v
/-- the slot of the error that is handled -/
def IsX (i : Nat) (d : D) (v : V) : Prop := ∃ c fs ds a z, N.xs = some (i, c, fs, ds, a, z) ∧ d = .exc c fs ds ∧ v = .ref a
def RS (σ : L2.St) (ρ : Env) : Prop := σ.length = ρ.length ∧ (∀ (i : Nat) d, ρ[i]? = some (some d) → ∃ v, σ[i]? = some (some v) ∧ (RD N H d v ∨ IsX N i d v)) ∧ XOk N H
end
/-- what a step may change: objects that S tells of, and new ones -/
def Fr (S : Sta) (H : Hp) (S' : Sta) (H' : Hp) : Prop := ∀ a o, H a = some o → S a = none → H' a = some o ∧ S' a = none

section
variable {N : Nm} {H H' H1 H2 : Hp} {S S' S1 S2 : Sta}
theorem Fr.refl : Fr S H S H := fun _ _ h n => ⟨h, n⟩
theorem Fr.trans (f : Fr S H S1 H1) (g : Fr S1 H1 S2 H2) : Fr S H S2 H2 := fun a o h n => let ⟨h1, n1⟩ := f a o h n; g a o h1 n1
theorem Fr.sub (f : Fr S H S1 H1) (h : Sub S2 S1) : Fr S H S2 H1 := fun a o q n => by
  obtain ⟨h1, n1⟩ := f a o q n
  refine ⟨h1, ?_⟩
  cases e : S2 a with
  | none => rfl
  | some u => rw [h a u e] at n1; cases n1
theorem RH.sub (r : RH N H S) (h : Sub S' S) : RH N H S' := fun a o q => r a o (h a o q)
/-- an object of a kind that S never tells of -/
def Deep : HO → Bool
  | .tup _ => true
  | .frz _ (.tup _) => true
  | .frz _ (.lst _) => true
  | .ext _ => true
  | .xd _ => true
  | _ => false
theorem RH.deep (r : RH N H S) {a : Addr} {o : HO} (h : H a = some o) (d : Deep o = true) : S a = none := by
  cases e : S a with
  | none => rfl
  | some u =>
    have q := r a u e
    cases u with
    | lst xs => obtain ⟨vs, z, _⟩ := q; rw [h] at z; cases z; cases d
    | dic xs => obtain ⟨vs, z, _⟩ := q; rw [h] at z; cases z; cases d
    | dicF xs => obtain ⟨_, vs, z, _⟩ := q; rw [h] at z; cases z; cases d
    | ins c fs => obtain ⟨_, vs, z, _⟩ := q; rw [h] at z; cases z; cases d
/-- deep objects stay -/
def Dle (H H' : Hp) : Prop := ∀ a o, H a = some o → Deep o = true → H' a = some o
theorem Dle.refl : Dle H H := fun _ _ h _ => h
theorem Dle.trans (f : Dle H H1) (g : Dle H1 H2) : Dle H H2 := fun a o h d => g a o (f a o h d) d
theorem Fr.dle (f : Fr S H S' H') (r : RH N H S) : Dle H H' := fun a o h d => (f a o h (r.deep h d)).1
theorem Dle.sqT (f : Dle H H') {K : PySem.W.Frag} {a : Addr} {vs : List V} (h : SqT K H a vs) : SqT K H' a vs := by
  rcases h with (h | ⟨o, h⟩) | h
  · exact .inl (.inl (f _ _ h rfl))
  · exact .inl (.inr ⟨o, f _ _ h rfl⟩)
  · exact .inr h
mutual
theorem RD.mono (f : Dle H H') : ∀ (d : D) (v : V), RD N H d v → RD N H' d v
  | .non, _, h => by simp only [RD] at h ⊢; exact h
  | .bl _, _, h => by simp only [RD] at h ⊢; exact h
  | .int _, _, h => by simp only [RD] at h ⊢; exact h
  | .str _, _, h => by simp only [RD] at h ⊢; exact h
  | .ref _, _, h => by simp only [RD] at h ⊢; exact h
  | .fn _, _, h => by simp only [RD] at h ⊢; exact h
  | .tup l, v, h => by
    simp only [RD] at h ⊢
    obtain ⟨a, vs, e, q, r⟩ := h
    exact ⟨a, vs, e, f.sqT q, RDs.mono f l vs r⟩
  | .lis l, v, h => by
    simp only [RD] at h ⊢
    obtain ⟨a, vs, e, q, r⟩ := h
    exact ⟨a, vs, e, q.imp (fun ⟨o, z⟩ => ⟨o, f _ _ z rfl⟩) id, RDs.mono f l vs r⟩
  | .exc _ _ _, _, h => by simp only [RD] at h
theorem RDs.mono (f : Dle H H') : ∀ (ds : List D) (vs : List V), RDs N H ds vs → RDs N H' ds vs
  | [], _, h => by simp only [RDs] at h ⊢; exact h
  | d :: ds, vs, h => by
    simp only [RDs] at h ⊢
    obtain ⟨v, r, e, h1, h2⟩ := h
    exact ⟨v, r, e, RD.mono f d v h1, RDs.mono f ds r h2⟩
end
theorem XOk.mono (f : Dle H H') (h : XOk N H) : XOk N H' := by
  unfold XOk at h ⊢
  split at h
  · trivial
  · obtain ⟨xs, vs, h1, h2, h3⟩ := h
    exact ⟨xs, vs, f _ _ h1 rfl, RDs.mono f _ _ h2, h3⟩
theorem RS.mono (f : Dle H H') {σ : L2.St} {ρ : Env} (h : RS N H σ ρ) : RS N H' σ ρ := ⟨h.1, fun i d e => let ⟨v, q, r⟩ := h.2.1 i d e; ⟨v, q, r.imp (RD.mono f d v) id⟩, h.2.2.mono f⟩
theorem RDs.length : ∀ {ds : List D} {vs : List V}, RDs N H ds vs → ds.length = vs.length
  | [], _, h => by simp only [RDs] at h; rw [h]; rfl
  | d :: ds, vs, h => by
    simp only [RDs] at h
    obtain ⟨v, r, e, h1, h2⟩ := h
    rw [e, List.length_cons, List.length_cons, RDs.length h2]
theorem RDs.get : ∀ {ds : List D} {vs : List V} {i : Nat} {d : D}, RDs N H ds vs → ds[i]? = some d → ∃ v, vs[i]? = some v ∧ RD N H d v
  | [], _, _, _, h, e => by simp at e
  | d :: ds, vs, i, x, h, e => by
    simp only [RDs] at h
    obtain ⟨v, r, rfl, h1, h2⟩ := h
    cases i with
    | zero => simp at e; subst e; exact ⟨v, rfl, h1⟩
    | succ i => simp at e; obtain ⟨w, q, z⟩ := RDs.get h2 e; exact ⟨w, by simpa using q, z⟩
theorem RDs.nil : RDs N H [] [] := by simp only [RDs]
theorem RDs.cons {d : D} {v : V} {ds : List D} {vs : List V} (h : RD N H d v) (r : RDs N H ds vs) : RDs N H (d :: ds) (v :: vs) := by
  simp only [RDs]; exact ⟨v, vs, rfl, h, r⟩
theorem RDs.uncons {d : D} {ds : List D} {vs : List V} (h : RDs N H (d :: ds) vs) : ∃ v r, vs = v :: r ∧ RD N H d v ∧ RDs N H ds r := by
  simp only [RDs] at h; exact h
theorem RDs.unnil {vs : List V} (h : RDs N H [] vs) : vs = [] := by
  simp only [RDs] at h; exact h
theorem RDs.append : ∀ {ds es : List D} {vs ws : List V}, RDs N H ds vs → RDs N H es ws → RDs N H (ds ++ es) (vs ++ ws)
  | [], _, _, _, h, r => by rw [h.unnil]; exact r
  | d :: ds, es, vs, ws, h, r => by
    obtain ⟨v, t, rfl, h1, h2⟩ := h.uncons
    exact .cons h1 (RDs.append h2 r)
theorem RDs.take : ∀ {ds : List D} {vs : List V} (n : Nat), RDs N H ds vs → RDs N H (ds.take n) (vs.take n)
  | _, _, 0, _ => by rw [List.take_zero, List.take_zero]; exact .nil
  | [], _, n + 1, h => by rw [h.unnil]; exact .nil
  | d :: ds, vs, n + 1, h => by
    obtain ⟨v, t, rfl, h1, h2⟩ := h.uncons
    exact .cons h1 (RDs.take n h2)
theorem RDs.drop : ∀ {ds : List D} {vs : List V} (n : Nat), RDs N H ds vs → RDs N H (ds.drop n) (vs.drop n)
  | _, _, 0, h => h
  | [], _, n + 1, h => by rw [h.unnil]; exact .nil
  | d :: ds, vs, n + 1, h => by
    obtain ⟨v, t, rfl, h1, h2⟩ := h.uncons
    exact RDs.drop n h2
theorem RDs.set : ∀ {ds : List D} {vs : List V} (i : Nat) {d : D} {v : V}, RD N H d v → RDs N H ds vs → RDs N H (ds.set i d) (vs.set i v)
  | [], _, i, d, v, r, h => by rw [h.unnil]; exact .nil
  | x :: ds, vs, 0, d, v, r, h => by
    obtain ⟨w, t, rfl, h1, h2⟩ := h.uncons
    exact .cons r h2
  | x :: ds, vs, i + 1, d, v, r, h => by
    obtain ⟨w, t, rfl, h1, h2⟩ := h.uncons
    exact .cons h1 (RDs.set i r h2)
theorem RS.at {σ : L2.St} {ρ : Env} (h : RS N H σ ρ) {i : Nat} {d : D} (hx : ∀ r, N.xs = some r → r.1 ≠ i) (e : ρ[i]? = some (some d)) : ∃ v, σ[i]? = some (some v) ∧ RD N H d v := by
  obtain ⟨v, q, r⟩ := h.2.1 i d e
  refine ⟨v, q, r.elim id fun ⟨c, fs, ds, a, z, e1, _⟩ => absurd rfl (hx _ e1)⟩
theorem RS.set {σ : L2.St} {ρ : Env} (h : RS N H σ ρ) (i : Nat) {d : D} {v : V} (r : RD N H d v) : RS N H (σ.set i (some v)) (ρ.set i (some d)) := by
  refine ⟨by simpa using h.1, fun j x e => ?_, h.2.2⟩
  by_cases hj : i = j
  · subst hj
    by_cases hl : i < ρ.length
    · rw [List.getElem?_set_self hl] at e
      cases e
      exact ⟨v, by rw [List.getElem?_set_self (by rw [h.1]; exact hl)], .inl r⟩
    · rw [List.getElem?_eq_none (by simpa using hl)] at e; cases e
  · rw [List.getElem?_set_ne hj] at e
    obtain ⟨w, q, z⟩ := h.2.1 j x e
    exact ⟨w, by rw [List.getElem?_set_ne hj]; exact q, z⟩
theorem RS.unset {σ : L2.St} {ρ : Env} (h : RS N H σ ρ) (i : Nat) : RS N H (σ.set i none) (ρ.set i none) := by
  refine ⟨by simpa using h.1, fun j x e => ?_, h.2.2⟩
  by_cases hj : i = j
  · subst hj
    by_cases hl : i < ρ.length
    · rw [List.getElem?_set_self hl] at e; cases e
    · rw [List.getElem?_eq_none (by simpa using hl)] at e; cases e
  · rw [List.getElem?_set_ne hj] at e
    obtain ⟨w, q, z⟩ := h.2.1 j x e
    exact ⟨w, by rw [List.getElem?_set_ne hj]; exact q, z⟩
/-- the abstract heap gains an object where nothing was -/
theorem dle_new {p : Addr} {o : HO} (h : H p = none) : Dle H (upd H p o) := fun a u q _ => by rw [L2.upd_ne (L2.ne_of_none q h)]; exact q
/-- a shallow object is written -/
theorem dle_put {p : Addr} {o u : HO} (h : H p = some u) (d : Deep u = false) : Dle H (upd H p o) := fun a x q dx => by
  rw [L2.upd_ne]; · exact q
  intro e; rw [e, h] at q; cases q; rw [d] at dx; cases dx
theorem RO.mono (f : Dle H H') {a : Addr} {o : MO} (e : H' a = H a) (r : RO N H a o) : RO N H' a o := by
  cases o with
  | lst xs => obtain ⟨vs, h, q⟩ := r; exact ⟨vs, e.trans h, RDs.mono f _ _ q⟩
  | dic kvs => obtain ⟨ws, h, k, q⟩ := r; exact ⟨ws, e.trans h, k, RDs.mono f _ _ q⟩
  | dicF kvs => obtain ⟨od, ws, h, k, q⟩ := r; exact ⟨od, ws, e.trans h, k, RDs.mono f _ _ q⟩
  | ins c fs => obtain ⟨dx, gs, h, k, q⟩ := r; exact ⟨dx, gs, e.trans h, k, RDs.mono f _ _ q⟩
theorem RH.fresh (r : RH N H S) {a : Addr} (h : H a = none) : S a = none := by
  cases e : S a with
  | none => rfl
  | some u =>
    have q := r a u e
    cases u with
    | lst xs => obtain ⟨vs, z, _⟩ := q; rw [h] at z; cases z
    | dic xs => obtain ⟨vs, z, _⟩ := q; rw [h] at z; cases z
    | dicF xs => obtain ⟨_, vs, z, _⟩ := q; rw [h] at z; cases z
    | ins c fs => obtain ⟨_, vs, z, _⟩ := q; rw [h] at z; cases z
/-- a new object -/
theorem RH.new (r : RH N H S) {p : Addr} {o : HO} {m : MO} (h : H p = none) (hm : RO N (upd H p o) p m) : RH N (upd H p o) (ups S p m) := fun a u q => by
  by_cases e : a = p
  · subst e; rw [ups_same] at q; cases q; exact hm
  · rw [ups_ne e] at q
    exact (r a u q).mono (dle_new h) (L2.upd_ne e)
/-- one that S does not tell of -/
theorem RH.skip (r : RH N H S) {p : Addr} {o : HO} (h : H p = none) : RH N (upd H p o) S := fun a u q => by
  have e : a ≠ p := sne q (r.fresh h)
  exact (r a u q).mono (dle_new h) (L2.upd_ne e)
/-- an object is changed -/
theorem RH.put (r : RH N H S) {p : Addr} {o u : HO} {m : MO} (h : H p = some u) (d : Deep u = false) (hm : RO N (upd H p o) p m) : RH N (upd H p o) (ups S p m) := fun a x q => by
  by_cases e : a = p
  · subst e; rw [ups_same] at q; cases q; exact hm
  · rw [ups_ne e] at q
    exact (r a x q).mono (dle_put h d) (L2.upd_ne e)
theorem Fr.new {p : Addr} {o : HO} {m : MO} (h : H p = none) : Fr S H (ups S p m) (upd H p o) := fun a u q n => by
  have e : a ≠ p := L2.ne_of_none q h
  exact ⟨by rw [L2.upd_ne e]; exact q, by rw [ups_ne e]; exact n⟩
theorem Fr.skip {p : Addr} {o : HO} (h : H p = none) : Fr S H S (upd H p o) := fun a u q n => by
  have e : a ≠ p := L2.ne_of_none q h
  exact ⟨by rw [L2.upd_ne e]; exact q, n⟩
theorem Fr.put {p : Addr} {o : HO} {m k : MO} (h : S p = some k) : Fr S H (ups S p m) (upd H p o) := fun a u q n => by
  have e : a ≠ p := fun e => by rw [e, h] at n; cases n
  exact ⟨by rw [L2.upd_ne e]; exact q, by rw [ups_ne e]; exact n⟩
end
end A
end
section
set_option Elab.async false
set_option linter.all false
set_option maxRecDepth 100000
/-! A2: the small language and its weakest preconditions. -/
namespace A
open PySem L2

inductive Bo where | add | sub | mul | div | mod | pow
inductive Co where | eq | ne | lt | le | gt | ge | is | isn | inn | nin
/-- built-ins of one value -/
inductive B1 where
  | len | int | str | repr | list | tuple | sum | max | min | minD | all | any | sorted | dict | setlen | setsorted | bool
  deriving DecidableEq
/-- built-ins of two values -/
inductive B2 where | max | min
/-- methods of built-in values -/
inductive Bm where | append | extend | pop | get | setd | join | split | ends | rstrip | clear | upper | replace | count
/-- a call's parameters: the written values and the defaults behind them, or each by its place among the written ones -/
inductive Shp where
  | app (ds : List D)
  | perm (l : List (Sum Nat D))
/-- kinds for isinstance -/
inductive Kd where | int | str | bool | list | tuple | own (cs : List Nat)

mutual
inductive E where
  | v (i : Nat)
  | c (d : D)
  | bin (o : Bo) (a b : E)
  | neg (a : E)
  | not (a : E)
  | and (a b : E)
  | or (a b : E)
  | cmp (o : Co) (a b : E)
  | chn (a : E) (o1 : Co) (b : E) (o2 : Co) (c : E)
  | ite (t a b : E)
  | tup (es : Es)
  | lst (es : Es)
  | dct (kvs : Es)
  | ix (a i : E)
  | gix (kvs : List (Str × D)) (i : E)
  | gget (kvs : List (Str × D)) (i d : E)
  | sl (a lo hi : E)
  | at (a : E) (f : Nat)
  | call (f : Nat) (sh : Shp) (es : Es)
  | callk (f : Nat) (sh : Shp) (es ks : Es)
  | callv (g : E) (es : Es)
  | new (c f : Nat) (sh : Shp) (es ks : Es)
  | meth (o : E) (m : Nat) (sh : Shp) (es ks : Es)
  | b1 (b : B1) (a : E)
  | b2 (b : B2) (a c : E)
  | bm (m : Bm) (o : E) (es : Es)
  | lc (elt : E) (own : List Nat) (tg : List Nat) (it : It) (cond : E)
  | lcD (elt : E) (own : List Nat) (tg : List Nat) (vals : Bool) (e : E) (cond : E)
  | isi (e : E) (ks : List Kd)
  | xis (i : Nat) (l : List (Nat × Bool))
  | xfl (i f : Nat)
  | fs (es : Es)
  | nev
  | nil
inductive Es where
  | nil
  | cons (a : E) (r : Es)
inductive It where
  | seq (e : E)
  | rng (e : E)
  | enm (e : E) (st : Nat)
  | zip (a b : E) (strict : Bool)
end

def Es.len : Es → Nat
  | .nil => 0
  | .cons _ r => r.len + 1
inductive Tg where
  | n (is : List Nat)
  | ix (a i : E)
  | at (a : E) (f : Nat)
  | vix (j : Nat) (a i : E)

mutual
inductive S where
  | asg (t : Tg) (e : E)
  | par (i j : Nat) (a b : E)
  | aug (o : Bo) (i : Nat) (e : E)
  | augI (o : Bo) (a i e : E)
  | augA (o : Bo) (a : E) (f : Nat) (e : E)
  | ex (e : E)
  | ret (e : E)
  | retN
  | ite (t : E) (a b : Ss)
  | whl (t : E) (b : Ss)
  | for_ (t : Tg) (it : It) (b : Ss)
  | forD (t : Tg) (vals : Bool) (e : E) (b : Ss)
  | raise (c : Nat) (fs : List Nat) (src : List (Sum Nat D)) (es : Es) (frm : Bool)
  | try_ (b : Ss) (hs : Hs)
  | pass
  | brk
  | cont
  | nev
inductive Ss where
  | nil
  | cons (s : S) (r : Ss)
inductive Hs where
  | nil
  | cons (cs : List (Nat × Bool)) (i : Option Nat) (b : Ss) (r : Hs)
end

/-! ### semantics by values -/
abbrev K := D → Sta → Prop
/-- calls: the def's number, the values of its parameters, the state, the end, the error's end -/
abbrev Orc := Nat → List D → Sta → K → K → Prop
/-- the def of a class's method -/
def mth (c m : Nat) : Nat := 1000 * (c + 1) + m
def mLen : Nat := 1
def mStr : Nat := 2
def mRepr : Nat := 3
def mEq : Nat := 4

def atD (xs : List D) (i : Int) : Option D := L2.atI xs i
def cutD (xs : List D) (lo hi : Option Int) : List D := (xs.drop (HT.sIx xs.length 0 lo)).take (HT.sIx xs.length xs.length hi - HT.sIx xs.length 0 lo)
def keyD : D → Option Key
  | .int i => some (.inl i)
  | .str s => some (.inr s)
  | _ => none
def dKey : Key → D
  | .inl i => .int i
  | .inr s => .str s
def kget (kvs : List (Key × D)) (k : Key) : Option D := (kvs.find? fun p => decide (p.1 = k)).map (·.2)
def kput (kvs : List (Key × D)) (k : Key) (d : D) : List (Key × D) :=
  if kvs.any (fun p => decide (p.1 = k)) then kvs.map (fun p => if p.1 = k then (p.1, d) else p) else kvs ++ [(k, d)]
def kdel (kvs : List (Key × D)) (k : Key) : List (Key × D) := kvs.filter fun p => decide (p.1 ≠ k)
def fget (fs : List (Nat × D)) (f : Nat) : Option D := fs.lookup f
def fput (f : Nat) (d : D) : List (Nat × D) → List (Nat × D)
  | [] => [(f, d)]
  | (g, x) :: r => if g = f then (g, d) :: r else (g, x) :: fput f d r
/-- the items of what is walked or read -/
def items (S : Sta) : D → Option (List D)
  | .tup l => some l
  | .lis l => some l
  | .str s => some (s.cps.toList.map fun c => .str ⟨#[c]⟩)
  | .ref a => match S a with
    | some (.lst xs) => some xs
    | _ => none
  | _ => none
/-- what must stay while it is walked -/
def holds (S : Sta) : D → List (Addr × MO)
  | .ref a => match S a with
    | some o => [(a, o)]
    | none => []
  | _ => []
def Held (h : List (Addr × MO)) (S : Sta) : Prop := ∀ p ∈ h, S p.1 = some p.2

mutual
def toP : D → Option PyData
  | .non => some .none
  | .bl b => some (.bool b)
  | .int i => some (.int i)
  | .str s => some (.str s)
  | .tup l => (toPs l).map .tuple
  | .lis l => (toPs l).map .list
  | _ => none
def toPs : List D → Option (List PyData)
  | [] => some []
  | d :: r => match toP d, toPs r with
    | some x, some xs => some (x :: xs)
    | _, _ => none
end
def toPS (S : Sta) : D → Option PyData
  | .ref a => match S a with
    | some (.lst xs) => (toPs xs).map .list
    | _ => none
  | d => toP d

def wtru (S : Sta) (d : D) (P : Bool → Prop) : Prop := match d with
  | .non => P false
  | .bl b => P b
  | .int i => P (i != 0)
  | .str s => s.length ≤ sizeLine ∧ P (s.length != 0)
  | .tup l => P (!l.isEmpty)
  | .lis l => P (!l.isEmpty)
  | .ref a => (match S a with
    | some (.lst xs) => P (!xs.isEmpty)
    | some (.dic kvs) => P (!kvs.isEmpty)
    | _ => False)
  | _ => False

def MulOk (i j : Int) : Prop := L2.CMul i j ∨ L2.CMulW i j
def wbin (o : Bo) (x y : D) (S : Sta) (Q : K) : Prop := match o, x, y with
  | .add, .int i, .int j => Q (.int (i + j)) S
  | .add, .int i, .bl b => Q (.int (i + (if b then 1 else 0))) S
  | .add, .str a, .str b => a.length + b.length ≤ sizeLine ∧ Q (.str (a ++ b)) S
  | .add, .tup l, .tup m => l.length + m.length ≤ sizeLine ∧ Q (.tup (l ++ m)) S
  | .add, .ref a, .ref b => (match S a, S b with
    | some (.lst xs), some (.lst ys) => xs.length + ys.length ≤ sizeLine ∧ ∀ p, S p = none → Q (.ref p) (ups S p (.lst (xs ++ ys)))
    | _, _ => False)
  | .sub, .int i, .int j => Q (.int (i - j)) S
  | .mul, .int i, .int j => MulOk i j ∧ Q (.int (i * j)) S
  | .mul, .ref a, .int k => (match S a with
    | some (.lst xs) => -(2 ^ 63) ≤ k ∧ k < 2 ^ 63 ∧ xs.length * k.toNat ≤ sizeLine ∧ ∀ p, S p = none → Q (.ref p) (ups S p (.lst (List.replicate k.toNat xs).flatten))
    | _ => False)
  | .div, .int i, .int j => L2.CDivW i j ∧ Q (.int (i / j)) S
  | .mod, .int i, .int j => 0 < j ∧ Q (.int (i % j)) S
  | .pow, .int i, .int j => L2.CPow i j ∧ Q (.int (i ^ j.toNat)) S
  | _, _, _ => False

/-- op=, on values that are not changed in place -/
def wip (o : Bo) (x y : D) (S : Sta) (Q : K) : Prop := match o, x, y with
  | .add, .int i, .int j => Q (.int (i + j)) S
  | .add, .str a, .str b => a.length + b.length ≤ sizeLine ∧ Q (.str (a ++ b)) S
  | .sub, .int i, .int j => Q (.int (i - j)) S
  | .mul, .int i, .int j => L2.CMul i j ∧ Q (.int (i * j)) S
  | .div, .int i, .int j => L2.CDiv i j ∧ Q (.int (i / j)) S
  | .mod, .int i, .int j => 0 < j ∧ Q (.int (i % j)) S
  | _, _, _ => False

def flatD : D → Bool
  | .non => true | .bl _ => true | .int _ => true | .str _ => true | _ => false
/-- == of flat values as Python has it -/
def eqF : D → D → Bool
  | .non, .non => true
  | .bl a, .bl b => a == b
  | .int i, .int j => i == j
  | .str x, .str y => x == y
  | .bl a, .int j => (if a then (1 : Int) else 0) == j
  | .int i, .bl b => i == (if b then (1 : Int) else 0)
  | _, _ => false
/-- both sides are data: the answer -/
def eqDD (S : Sta) (x y : D) (P : Bool → Prop) : Prop := ∃ p q, toPS S x = some p ∧ toPS S y = some q ∧ SeqAt.shaped p = true ∧ SeqAt.shaped q = true ∧ P (PyData.eqv p q)
/-- == of dicts of flat values, the right one empty -/
def eqW (S : Sta) (x y : D) (P : Bool → Prop) : Prop := match x, y with
  | .int i, .int j => P (i == j)
  | .str i, .str j => P (i == j)
  | .bl i, .bl j => P (i == j)
  | .non, .non => P true
  | .non, .int _ => P false
  | .int _, .non => P false
  | .non, .str _ => P false
  | .str _, .non => P false
  | .non, .bl _ => P false
  | .bl _, .non => P false
  | .int _, .str _ => P false
  | .str _, .int _ => P false
  | .bl _, .str _ => P false
  | .str _, .bl _ => P false
  | x, y => eqDD S x y P
def inList (x : D) (xs : List D) : Bool := xs.any fun y => eqF y x
def wcmp (C : Orc) (o : Co) (x y : D) (S : Sta) (Q : Bool → Sta → Prop) : Prop := match o with
  | .lt => (match x, y with | .int i, .int j => Q (decide (i < j)) S | _, _ => False)
  | .le => (match x, y with | .int i, .int j => Q (decide (i ≤ j)) S | _, _ => False)
  | .gt => (match x, y with | .int i, .int j => Q (decide (j < i)) S | _, _ => False)
  | .ge => (match x, y with | .int i, .int j => Q (decide (j ≤ i)) S | _, _ => False)
  | .is => (match y with
    | .non => Q (match x with | .non => true | _ => false) S
    | _ => False)
  | .isn => (match y with
    | .non => Q (match x with | .non => false | _ => true) S
    | _ => False)
  | .eq => (match x with
    | .ref a => (match S a with
      | some (.ins c _) => C (mth c mEq) [x, y] S (fun r S' => ∃ b, r = .bl b ∧ Q b S') fun _ _ => False
      | _ => eqW S x y fun b => Q b S)
    | x => eqW S x y fun b => Q b S)
  | .ne => (match x with
    | .ref a => (match S a with
      | some (.ins c _) => C (mth c mEq) [x, y] S (fun r S' => ∃ b, r = .bl b ∧ Q (!b) S') fun _ _ => False
      | _ => eqW S x y fun b => Q (!b) S)
    | x => eqW S x y fun b => Q (!b) S)
  | .inn => (match x, y with
    | .str c, .str z => ∃ n, c = ⟨#[n]⟩ ∧ Q (decide (n ∈ z.cps.toList)) S
    | x, .tup l => flatD x = true ∧ l.all flatD = true ∧ Q (inList x l) S
    | x, .ref a => (match S a with
      | some (.lst l) => flatD x = true ∧ l.all flatD = true ∧ Q (inList x l) S
      | some (.dic kvs) => ∃ k, keyD x = some k ∧ Q (kget kvs k).isSome S
      | some (.dicF kvs) => ∃ k, keyD x = some k ∧ Q (kget kvs k).isSome S
      | _ => False)
    | _, _ => False)
  | .nin => (match x, y with
    | .str c, .str z => ∃ n, c = ⟨#[n]⟩ ∧ Q (!decide (n ∈ z.cps.toList)) S
    | x, .tup l => flatD x = true ∧ l.all flatD = true ∧ Q (!inList x l) S
    | x, .ref a => (match S a with
      | some (.lst l) => flatD x = true ∧ l.all flatD = true ∧ Q (!inList x l) S
      | some (.dic kvs) => ∃ k, keyD x = some k ∧ Q (!(kget kvs k).isSome) S
      | some (.dicF kvs) => ∃ k, keyD x = some k ∧ Q (!(kget kvs k).isSome) S
      | _ => False)
    | _, _ => False)

def wix (x i : D) (S : Sta) (Q : K) : Prop := match x with
  | .tup l => (match i with | .int k => ∃ d, L2.atI l k = some d ∧ Q d S | _ => False)
  | .lis l => (match i with | .int k => ∃ d, L2.atI l k = some d ∧ Q d S | _ => False)
  | .str z => (match i with | .int k => z.length ≤ sizeLine ∧ ∃ n, L2.atI z.cps.toList k = some n ∧ Q (.str ⟨#[n]⟩) S | _ => False)
  | .ref a => (match S a with
    | some (.lst l) => (match i with | .int k => ∃ d, L2.atI l k = some d ∧ Q d S | _ => False)
    | some (.dic kvs) => ∃ k d, keyD i = some k ∧ kget kvs k = some d ∧ Q d S
    | some (.dicF kvs) => ∃ k d, keyD i = some k ∧ kget kvs k = some d ∧ Q d S
    | _ => False)
  | _ => False
/-- o[i] of a thing that may be written -/
def wixM (x i : D) (S : Sta) (Q : K) : Prop := match x with
  | .ref _ => wix x i S Q
  | _ => False
def wsetix (x i d : D) (S : Sta) (Q : Sta → Prop) : Prop := match x with
  | .ref a => (match S a with
    | some (.lst l) => (match i with | .int k => ∃ j, L2.ixN l.length k = some j ∧ Q (ups S a (.lst (l.set j d))) | _ => False)
    | some (.dic kvs) => kvs.length < sizeLine ∧ ∃ k, keyD i = some k ∧ Q (ups S a (.dic (kput kvs k d)))
    | _ => False)
  | _ => False
def wsl (x : D) (l h : Option Int) (S : Sta) (Q : K) : Prop := match x with
  | .tup xs => Q (.tup (cutD xs l h)) S
  | .lis xs => ∀ p, S p = none → Q (.ref p) (ups S p (.lst (cutD xs l h)))
  | .str z => z.length ≤ sizeLine ∧ Q (.str (L2.cutS z l h)) S
  | .ref a => (match S a with
    | some (.lst xs) => ∀ p, S p = none → Q (.ref p) (ups S p (.lst (cutD xs l h)))
    | _ => False)
  | _ => False
def wattr (x : D) (f : Nat) (S : Sta) (Q : K) : Prop := match x with
  | .ref a => (match S a with
    | some (.ins _ fs) => ∃ d, fget fs f = some d ∧ Q d S
    | _ => False)
  | .exc _ fs ds => ∃ d, (fs.zip ds).lookup f = some d ∧ Q d S
  | _ => False
def wsetattr (x : D) (f : Nat) (d : D) (S : Sta) (Q : Sta → Prop) : Prop := match x with
  | .ref a => (match S a with
    | some (.ins c fs) => fs.length < 1000 ∧ Q (ups S a (.ins c (fput f d fs)))
    | _ => False)
  | _ => False

def intsOf : List D → Option (List Int)
  | [] => some []
  | .int i :: r => (intsOf r).map (i :: ·)
  | _ => none
def bsOf : List D → Option (List Bool)
  | [] => some []
  | .bl b :: r => (bsOf r).map (b :: ·)
  | _ => none
def strsOf : List D → Option (List Str)
  | [] => some []
  | .str s :: r => (strsOf r).map (s :: ·)
  | _ => none
def maxI : List Int → Int
  | [] => 0
  | [a] => a
  | a :: r => max a (maxI r)
def minI : List Int → Int
  | [] => 0
  | [a] => a
  | a :: r => min a (minI r)
/-- insertion in order -/
def insI (x : Int) : List Int → List Int
  | [] => [x]
  | a :: r => if x ≤ a then x :: a :: r else a :: insI x r
def sortI : List Int → List Int
  | [] => []
  | a :: r => insI a (sortI r)
def strLe (x y : Str) : Bool := !decide (y.cps.toList < x.cps.toList)
def insS (x : Str) : List Str → List Str
  | [] => [x]
  | a :: r => if strLe x a then x :: a :: r else a :: insS x r
def sortS : List Str → List Str
  | [] => []
  | a :: r => insS a (sortS r)
def dedupS : List Str → List Str
  | [] => []
  | a :: r => let t := dedupS r; if t.contains a then t else a :: t
/-- what a built-in reads: a list's items, a tuple's, a dict's keys -/
def itemsK (S : Sta) (d : D) : Option (List D) := match d with
  | .ref a => (match S a with
    | some (.lst xs) => some xs
    | some (.dic kvs) => some (kvs.map fun p => dKey p.1)
    | some (.dicF kvs) => some (kvs.map fun p => dKey p.1)
    | _ => none)
  | .tup l => some l
  | .lis l => some l
  | _ => none
/-- a list's items -/
def itemsL (S : Sta) : D → Option (List D)
  | .lis l => some l
  | .ref a => match S a with
    | some (.lst xs) => some xs
    | _ => none
  | _ => none
/-- a list's or a tuple's items -/
def itemsT (S : Sta) : D → Option (List D)
  | .tup l => some l
  | d => itemsL S d
/-- pairs of a list for dict(..) -/
def pairsOf : List D → Option (List (Key × D))
  | [] => some []
  | .tup [k, d] :: r => (match keyD k, pairsOf r with
    | some k, some t => some ((k, d) :: t)
    | _, _ => none)
  | _ => none
def kmerge (kvs more : List (Key × D)) : List (Key × D) := more.foldl (fun acc p => kput acc p.1 p.2) kvs

def wb1 (C : Orc) (b : B1) (d : D) (S : Sta) (Q : K) : Prop := match b with
  | .len => (match d with
    | .str s => s.length ≤ sizeLine ∧ Q (.int s.length) S
    | .tup l => Q (.int l.length) S
    | .lis l => Q (.int l.length) S
    | .ref a => (match S a with
      | some (.lst xs) => Q (.int xs.length) S
      | some (.dic kvs) => Q (.int kvs.length) S
      | some (.ins c _) => C (mth c mLen) [d] S (fun r S' => ∃ n : Nat, r = .int n ∧ Q r S') fun _ _ => False
      | _ => False)
    | _ => False)
  | .int => (match d with
    | .int i => Q (.int i) S
    | .bl b => Q (.int (if b then 1 else 0)) S
    | .str s => ∃ n, PySem.intText? s = some n ∧ s.length ≤ 640 ∧ Q (.int n) S
    | _ => False)
  | .str => (match d with
    | .int i => i.natAbs.log2 < 1920 ∧ Q (.str (toString i)) S
    | .str s => s.length ≤ sizeLine ∧ Q (.str s) S
    | .ref a => (match S a with
      | some (.ins c _) => C (mth c mStr) [d] S (fun r S' => ∃ s, r = .str s ∧ Q r S') fun _ _ => False
      | _ => False)
    | _ => False)
  | .repr => (match d with
    | .ref a => (match S a with
      | some (.ins c _) => C (mth c mRepr) [d] S (fun r S' => ∃ s, r = .str s ∧ Q r S') fun _ _ => False
      | _ => False)
    | _ => False)
  | .list => ∃ xs, itemsK S d = some xs ∧ ∀ p, S p = none → Q (.ref p) (ups S p (.lst xs))
  | .tuple => ∃ xs, itemsT S d = some xs ∧ Q (.tup xs) S
  | .sum => ∃ xs ns, itemsL S d = some xs ∧ intsOf xs = some ns ∧ Q (.int ns.sum) S
  | .max => ∃ xs ns, itemsL S d = some xs ∧ intsOf xs = some ns ∧ 0 < ns.length ∧ Q (.int (maxI ns)) S
  | .min => ∃ xs ns, itemsL S d = some xs ∧ intsOf xs = some ns ∧ 0 < ns.length ∧ Q (.int (minI ns)) S
  | .minD => ∃ xs ns, itemsL S d = some xs ∧ intsOf xs = some ns ∧ Q (match ns with | [] => .non | _ => .int (minI ns)) S
  | .all => ∃ xs bs, itemsL S d = some xs ∧ bsOf xs = some bs ∧ Q (.bl (bs.all id)) S
  | .any => ∃ xs bs, itemsL S d = some xs ∧ bsOf xs = some bs ∧ Q (.bl (bs.any id)) S
  | .sorted => ∃ xs, itemsK S d = some xs ∧ xs.length < 64 ∧ ((∃ ns, intsOf xs = some ns ∧ ∀ p, S p = none → Q (.ref p) (ups S p (.lst ((sortI ns).map .int)))) ∨
      (∃ ss, strsOf xs = some ss ∧ ∀ p, S p = none → Q (.ref p) (ups S p (.lst ((sortS ss).map .str)))))
  | .dict => (match d with
    | .ref a => (match S a with
      | some (.lst xs) => ∃ ps, pairsOf xs = some ps ∧ ∀ p, S p = none → Q (.ref p) (ups S p (.dic (kmerge [] ps)))
      | _ => False)
    | _ => False)
  | .setlen => ∃ xs ss, itemsL S d = some xs ∧ strsOf xs = some ss ∧ ss.length < 4000 ∧ Q (.int (dedupS ss).length) S
  | .setsorted => ∃ xs ss, itemsL S d = some xs ∧ strsOf xs = some ss ∧ ss.length < 64 ∧ ∀ p, S p = none → Q (.ref p) (ups S p (.lst ((sortS (dedupS ss)).map .str)))
  | .bool => wtru S d fun b => Q (.bl b) S

def wb2 (b : B2) (x y : D) (S : Sta) (Q : K) : Prop := match b, x, y with
  | .max, .int i, .int j => Q (.int (max i j)) S
  | .min, .int i, .int j => Q (.int (min i j)) S
  | _, _, _ => False

/-- the kinds of values that have methods -/
inductive Ty where | list | dict | str
def tyD (S : Sta) : D → Option Ty
  | .str _ => some .str
  | .ref a => match S a with
    | some (.lst _) => some .list
    | some (.dic _) => some .dict
    | _ => none
  | _ => none
/-- which kinds have which methods -/
def bmHas : Bm → Ty → Bool
  | .append, .list => true | .count, .list => true | .extend, .list => true | .pop, .list => true | .clear, .list => true
  | .pop, .dict => true | .get, .dict => true | .setd, .dict => true
  | .join, .str => true | .split, .str => true | .ends, .str => true | .upper, .str => true
  | _, _ => false
def wbm (m : Bm) (t : Ty) (o : D) (as : List D) (S : Sta) (Q : K) : Prop := match m with
  | .append => (match t, o, as with
    | .list, .ref a, [d] => (match S a with
      | some (.lst xs) => xs.length < sizeLine ∧ Q .non (ups S a (.lst (xs ++ [d])))
      | _ => False)
    | _, _, _ => False)
  | .count => (match t, o, as with
    | .list, .ref a, [.str k] => (match S a with
      | some (.lst xs) => ∃ ss, strsOf xs = some ss ∧ Q (.int (ss.countP fun y => y == k : Nat)) S
      | _ => False)
    | _, _, _ => False)
  | .extend => (match t, o, as with
    | .list, .ref a, [.ref b] => (match S a, S b with
      | some (.lst xs), some (.lst ys) => xs.length + ys.length ≤ sizeLine ∧ Q .non (ups S a (.lst (xs ++ ys)))
      | _, _ => False)
    | _, _, _ => False)
  | .pop => (match t, o, as with
    | .list, .ref a, [] => (match S a with
      | some (.lst xs) => ∃ d, xs[xs.length - 1]? = some d ∧ Q d (ups S a (.lst xs.dropLast))
      | _ => False)
    | .dict, .ref a, [k] => (match S a with
      | some (.dic kvs) => ∃ k' d, keyD k = some k' ∧ kget kvs k' = some d ∧ Q d (ups S a (.dic (kdel kvs k')))
      | _ => False)
    | .dict, .ref a, [k, z] => (match S a with
      | some (.dic kvs) => ∃ k', keyD k = some k' ∧ Q ((kget kvs k').getD z) (ups S a (.dic (kdel kvs k')))
      | _ => False)
    | _, _, _ => False)
  | .get => (match t, o, as with
    | .dict, .ref a, [k, z] => (match S a with
      | some (.dic kvs) => ∃ k', keyD k = some k' ∧ Q ((kget kvs k').getD z) S
      | some (.dicF kvs) => ∃ k', keyD k = some k' ∧ Q ((kget kvs k').getD z) S
      | _ => False)
    | _, _, _ => False)
  | .setd => (match t, o, as with
    | .dict, .ref a, [k, z] => (match S a with
      | some (.dic kvs) => kvs.length < sizeLine ∧ ∃ k', keyD k = some k' ∧ Q ((kget kvs k').getD z) (ups S a (.dic (if (kget kvs k').isSome then kvs else kput kvs k' z)))
      | _ => False)
    | _, _, _ => False)
  | .join => (match t, o, as with
    | .str, .str z, [d] => ∃ xs ss, itemsT S d = some xs ∧ strsOf xs = some ss ∧ (ss.map (·.length)).sum + ss.length * z.length ≤ 16777216 ∧ Q (.str (Txt.join z ss)) S
    | _, _, _ => False)
  | .split => (match t, o, as with
    | .str, .str z, [.str y] => (y.length == 0) = false ∧ z.length + 2 ≤ sizeLine ∧ ∀ p, S p = none → Q (.ref p) (ups S p (.lst ((Txt.split z y).map .str)))
    | _, _, _ => False)
  | .ends => (match t, o, as with
    | .str, .str z, [.str y] => Q (.bl (Txt.endswith z y)) S
    | _, _, _ => False)
  | .clear => (match t, o, as with
    | .list, .ref a, [] => (match S a with
      | some (.lst xs) => Q .non (ups S a (.lst []))
      | _ => False)
    | _, _, _ => False)
  | .upper => (match t, o, as with
    | .str, .str z, [] => z.length ≤ 5592405 ∧ Q (.str (Txt.upper z)) S
    | _, _, _ => False)
  | .rstrip => False
  | .replace => False

def isKd (S : Sta) (d : D) : Kd → Option Bool
  | .int => (match d with
    | .int _ => some true | .bl _ => some true | .non => some false | .str _ => some false | .tup _ => some false
    | .ref a => (match S a with | some (.lst _) => some false | some (.dic _) => some false | _ => none)
    | _ => none)
  | .str => (match d with
    | .str _ => some true | .int _ => some false | .bl _ => some false | .non => some false | .tup _ => some false
    | .ref a => (match S a with | some (.lst _) => some false | some (.dic _) => some false | _ => none)
    | _ => none)
  | .bool => (match d with
    | .bl _ => some true | .int _ => some false | .str _ => some false | .non => some false | .tup _ => some false
    | .ref a => (match S a with | some (.lst _) => some false | some (.dic _) => some false | _ => none)
    | _ => none)
  | .list => (match d with
    | .non => some false | .bl _ => some false | .int _ => some false | .str _ => some false | .tup _ => some false
    | .ref a => (match S a with | some (.lst _) => some true | some (.dic _) => some false | _ => none)
    | _ => none)
  | .tuple => (match d with
    | .tup _ => some true | .non => some false | .bl _ => some false | .int _ => some false | .str _ => some false
    | .ref a => (match S a with | some (.lst _) => some false | some (.dic _) => some false | _ => none)
    | _ => none)
  | .own _ => none
def isKds (S : Sta) (d : D) : List Kd → Option Bool
  | [] => some false
  | k :: r => match isKd S d k with
    | some true => some true
    | some false => isKds S d r
    | none => none

/-- the parameters' values from the written ones and the defaults -/
def placeL (l : List (Sum Nat D)) (ds : List D) : List D := l.map fun
  | .inl i => ds.getD i .non
  | .inr d => d
def place (sh : Shp) (ds : List D) : List D := match sh with
  | .app es => ds ++ es
  | .perm l => placeL l ds

def wipeD (ρ : Env) : List Nat → Env
  | [] => ρ
  | v :: vs => (wipeD ρ vs).set v none
def setN (ρ : Env) : List Nat → List D → Env
  | i :: is, d :: ds => setN (ρ.set i (some d)) is ds
  | _, _ => ρ
/-- the target of a comprehension's or a loop's for: one name, or several for a tuple's items -/
def wtgN (is : List Nat) (d : D) (ρ : Env) (Q : Env → Prop) : Prop := match is with
  | [i] => Q (ρ.set i (some d))
  | is => (match d with
    | .tup l => l.length = is.length ∧ Q (setN ρ is l)
    | _ => False)
def wcomp (h : List (Addr × MO)) (f : D → Sta → (Option D → Sta → Prop) → Prop) : List D → List D → Sta → (List D → Sta → Prop) → Prop
  | [], acc, S, Q => Held h S ∧ Q acc S
  | x :: xs, acc, S, Q => Held h S ∧ f x S fun o S' => match o with
    | some d => acc.length < sizeLine ∧ wcomp h f xs (acc ++ [d]) S' Q
    | none => wcomp h f xs acc S' Q

/-- two lists, or two tuples -/
def both (S : Sta) (x y : D) (xs ys : List D) : Prop := (itemsL S x = some xs ∧ itemsL S y = some ys) ∨ (x = .tup xs ∧ y = .tup ys)
def enumF (st : Int) : List D → List D
  | [] => []
  | x :: r => .tup [.int st, x] :: enumF (st + 1) r
def zipD : List D → List D → List D
  | x :: xs, y :: ys => .tup [x, y] :: zipD xs ys
  | _, _ => []

/-- an end of a slice: .nil where none is written -/
def endD (e : E) (d : D) (P : Option Int → Prop) : Prop := match e with
  | .nil => P none
  | _ => match d with
    | .int i => P (some i)
    | _ => False
mutual
def wE (C : Orc) (X : K) : E → Env → Sta → K → Prop
  | .v i, ρ, S, Q => ∃ d, ρ[i]? = some (some d) ∧ Q d S
  | .c d, _, S, Q => Q d S
  | .bin o a b, ρ, S, Q => wE C X a ρ S fun x S1 => wE C X b ρ S1 fun y S2 => wbin o x y S2 Q
  | .neg a, ρ, S, Q => wE C X a ρ S fun x S1 => match x with
    | .int i => Q (.int (-i)) S1
    | _ => False
  | .not a, ρ, S, Q => wE C X a ρ S fun x S1 => wtru S1 x fun b => Q (.bl (!b)) S1
  | .and a b, ρ, S, Q => wE C X a ρ S fun x S1 => wtru S1 x fun c => if c = true then wE C X b ρ S1 Q else Q x S1
  | .or a b, ρ, S, Q => wE C X a ρ S fun x S1 => wtru S1 x fun c => if c = true then Q x S1 else wE C X b ρ S1 Q
  | .cmp o a b, ρ, S, Q => wE C X a ρ S fun x S1 => wE C X b ρ S1 fun y S2 => wcmp C o x y S2 fun r S3 => Q (.bl r) S3
  | .chn a o1 b o2 c, ρ, S, Q => wE C X a ρ S fun x S1 => wE C X b ρ S1 fun y S2 => wcmp C o1 x y S2 fun r S3 => if r = true then wE C X c ρ S3 fun z S4 => wcmp C o2 y z S4 fun r S5 => Q (.bl r) S5 else Q (.bl false) S3
  | .ite t a b, ρ, S, Q => wE C X t ρ S fun x S1 => wtru S1 x fun c => if c = true then wE C X a ρ S1 Q else wE C X b ρ S1 Q
  | .tup es, ρ, S, Q => wEs C X es ρ S fun ds S1 => ds.length ≤ sizeLine ∧ Q (.tup ds) S1
  | .lst es, ρ, S, Q => wEs C X es ρ S fun ds S1 => ds.length ≤ sizeLine ∧ ∀ p, S1 p = none → Q (.ref p) (ups S1 p (.lst ds))
  | .dct es, ρ, S, Q => wEs C X es ρ S fun ds S1 => ∃ kvs : List (Key × D), ds = kvs.flatMap (fun p => [dKey p.1, p.2]) ∧ kvs.length ≤ 15 ∧ ∀ p, S1 p = none → Q (.ref p) (ups S1 p (.dic (kmerge [] kvs)))
  | .ix a i, ρ, S, Q => wE C X a ρ S fun x S1 => wE C X i ρ S1 fun y S2 => wix x y S2 Q
  | .gix kvs i, ρ, S, Q => wE C X i ρ S fun y S1 => ∃ k d, y = .str k ∧ kvs.lookup k = some d ∧ Q d S1
  | .gget kvs i z, ρ, S, Q => wE C X i ρ S fun y S1 => wE C X z ρ S1 fun u S2 => ∃ k, y = .str k ∧ Q ((kvs.lookup k).getD u) S2
  | .sl a lo hi, ρ, S, Q => wE C X a ρ S fun x S1 => wE C X lo ρ S1 fun l S2 => endD lo l fun l' => wE C X hi ρ S2 fun h S3 => endD hi h fun h' => wsl x l' h' S3 Q
  | .at a f, ρ, S, Q => wE C X a ρ S fun x S1 => wattr x f S1 Q
  | .call f sh es, ρ, S, Q => wEs C X es ρ S fun ds S1 => C f (place sh ds) S1 Q X
  | .callk f sh es ks, ρ, S, Q => wEs C X es ρ S fun ds S1 => wEs C X ks ρ S1 fun zs S2 => ds.length = es.len ∧ zs.length = ks.len ∧ C f (place sh (ds ++ zs)) S2 Q X
  | .callv g es, ρ, S, Q => wE C X g ρ S fun x S1 => wEs C X es ρ S1 fun ds S2 => match x with
    | .fn f => C f ds S2 Q X
    | _ => False
  | .new c f sh es ks, ρ, S, Q => wEs C X es ρ S fun ds S1 => wEs C X ks ρ S1 fun zs S2 => ds.length = es.len ∧ zs.length = ks.len ∧ ∀ p, S2 p = none → C f (.ref p :: place sh (ds ++ zs)) (ups S2 p (.ins c [])) (fun r S3 => r = .non ∧ Q (.ref p) S3) X
  | .meth o m sh es ks, ρ, S, Q => wE C X o ρ S fun x S1 => match x with
    | .ref a => (match S1 a with
      | some (.ins c fs) => fget fs m = none ∧ wEs C X es ρ S1 fun ds S2 => wEs C X ks ρ S2 fun zs S3 => ds.length = es.len ∧ zs.length = ks.len ∧ C (mth c m) (x :: place sh (ds ++ zs)) S3 Q X
      | _ => False)
    | _ => False
  | .b1 b a, ρ, S, Q => wE C X a ρ S fun x S1 => wb1 C b x S1 Q
  | .b2 b a c, ρ, S, Q => wE C X a ρ S fun x S1 => wE C X c ρ S1 fun y S2 => wb2 b x y S2 Q
  | .bm m o es, ρ, S, Q => wE C X o ρ S fun x S1 => ∃ t, tyD S1 x = some t ∧ bmHas m t = true ∧ wEs C X es ρ S1 fun ds S2 => wbm m t x ds S2 Q
  | .lc elt own tg it cond, ρ, S, Q => wIt C X it ρ S fun h xs S1 =>
      wcomp h (fun x S2 R => wtgN tg x (wipeD ρ own) fun ρ1 => wE C (fun _ _ => False) cond ρ1 S2 fun y S3 => wtru S3 y fun b => if b = true then wE C (fun _ _ => False) elt ρ1 S3 fun d S4 => R (some d) S4 else R none S3) xs [] S1
        fun ds S5 => ∀ p, S5 p = none → Q (.ref p) (ups S5 p (.lst ds))
  | .lcD elt own tg vals e cond, ρ, S, Q => ∃ a kvs, S a = some (.dic kvs) ∧ wE C X e ρ (ups S a (.dicF kvs)) fun x S1 => x = .ref a ∧ S1 a = some (.dicF kvs) ∧
      wcomp [(a, .dicF kvs)] (fun x S2 R => wtgN tg x (wipeD ρ own) fun ρ1 => wE C (fun _ _ => False) cond ρ1 S2 fun y S3 => wtru S3 y fun b => if b = true then wE C (fun _ _ => False) elt ρ1 S3 fun d S4 => R (some d) S4 else R none S3)
        (kvs.map fun p => if vals then p.2 else dKey p.1) [] S1 fun ds S5 => S5 a = some (.dicF kvs) ∧ ∀ p, S5 p = none → Q (.ref p) (ups (ups S5 a (.dic kvs)) p (.lst ds))
  | .isi e ks, ρ, S, Q => wE C X e ρ S fun x S1 => ∃ b, isKds S1 x ks = some b ∧ Q (.bl b) S1
  | .xis i l, ρ, S, Q => ∃ c fs ds, ρ[i]? = some (some (.exc c fs ds)) ∧ ∃ b, l.lookup c = some b ∧ Q (.bl b) S
  | .xfl i f, ρ, S, Q => ∃ c fs ds, ρ[i]? = some (some (.exc c fs ds)) ∧ ∃ y, (fs.zip ds).lookup f = some y ∧ Q y S
  | .fs es, ρ, S, Q => wFs C X es Str.empty ρ S fun s S1 => Q (.str s) S1
  | .nev, _, _, _ => False
  | .nil, _, S, Q => Q .non S
def wEs (C : Orc) (X : K) : Es → Env → Sta → (List D → Sta → Prop) → Prop
  | .nil, _, S, Q => Q [] S
  | .cons a r, ρ, S, Q => wE C X a ρ S fun x S1 => wEs C X r ρ S1 fun ds S2 => Q (x :: ds) S2
/-- an f-string's parts: texts and whole numbers -/
def wFs (C : Orc) (X : K) : Es → Str → Env → Sta → (Str → Sta → Prop) → Prop
  | .nil, acc, _, S, Q => Q acc S
  | .cons a r, acc, ρ, S, Q => wE C X a ρ S fun x S1 => match x with
    | .str s => s.length ≤ sizeLine ∧ (acc.length + s.length ≤ sizeLine) ∧ wFs C X r (acc ++ s) ρ S1 Q
    | .int i => i.natAbs.log2 < 1920 ∧ (acc.length + (toString i : String).length ≤ sizeLine) ∧ wFs C X r (acc ++ (toString i : String)) ρ S1 Q
    | _ => False
def wIt (C : Orc) (X : K) : It → Env → Sta → (List (Addr × MO) → List D → Sta → Prop) → Prop
  | .seq e, ρ, S, Q => wE C X e ρ S fun x S1 => ∃ xs, items S1 x = some xs ∧ Q (holds S1 x) xs S1
  | .rng e, ρ, S, Q => wE C X e ρ S fun x S1 => match x with
    | .int n => -(2 ^ 62) ≤ n ∧ n < 2 ^ 62 ∧ Q [] ((List.range n.toNat).map fun (i : Nat) => .int i) S1
    | _ => False
  | .enm e st, ρ, S, Q => wE C X e ρ S fun x S1 => ∃ xs, itemsT S1 x = some xs ∧ Q (holds S1 x) (enumF st xs) S1
  | .zip a b str, ρ, S, Q => wE C X a ρ S fun x S1 => wE C X b ρ S1 fun y S2 => ∃ xs ys, both S2 x y xs ys ∧ str = false ∧ Q (holds S2 x ++ holds S2 y) (zipD xs ys) S2
end

structure Ends where
  nx : Env → Sta → Prop
  rt : K
  bk : Env → Sta → Prop := fun _ _ => False
  ct : Env → Sta → Prop := fun _ _ => False
  ex : D → Env → Sta → Prop

def wTg (C : Orc) (X : Env → K) (t : Tg) (d : D) (ρ : Env) (S : Sta) (Q : Env → Sta → Prop) : Prop := match t with
  | .n is => wtgN is d ρ fun ρ1 => Q ρ1 S
  | .ix a i => wE C (X ρ) a ρ S fun x S1 => wE C (X ρ) i ρ S1 fun y S2 => wsetix x y d S2 fun S3 => Q ρ S3
  | .at a f => wE C (X ρ) a ρ S fun x S1 => wsetattr x f d S1 fun S2 => Q ρ S2
  | .vix j a i => ∃ d1 d2, d = .tup [d1, d2] ∧ wE C (X (ρ.set j (some d1))) a (ρ.set j (some d1)) S fun x S1 => wE C (X (ρ.set j (some d1))) i (ρ.set j (some d1)) S1 fun y S2 => wsetix x y d2 S2 fun S3 => Q (ρ.set j (some d1)) S3
/-- one turn after another -/
def wfor (h : List (Addr × MO)) (f : D → Env → Sta → (Env → Sta → Prop) → Prop) : List D → Env → Sta → (Env → Sta → Prop) → Prop
  | [], ρ, S, Q => Held h S ∧ Q ρ S
  | x :: xs, ρ, S, Q => Held h S ∧ f x ρ S fun ρ' S' => wfor h f xs ρ' S' Q

mutual
def wS : Orc → S → Env → Sta → Ends → Prop
  | C, .asg t e, ρ, S, T => wE C (fun x S' => T.ex x ρ S') e ρ S fun d S1 => wTg C (fun ρ x S' => T.ex x ρ S') t d ρ S1 T.nx
  | C, .par i j a b, ρ, S, T => wE C (fun x S' => T.ex x ρ S') a ρ S fun x S1 => wE C (fun x S' => T.ex x ρ S') b ρ S1 fun y S2 => T.nx ((ρ.set i (some x)).set j (some y)) S2
  | C, .aug o i e, ρ, S, T => ∃ d, ρ[i]? = some (some d) ∧ wE C (fun x S' => T.ex x ρ S') e ρ S fun y S1 => wip o d y S1 fun z S2 => T.nx (ρ.set i (some z)) S2
  | C, .augI o a i e, ρ, S, T => wE C (fun x S' => T.ex x ρ S') a ρ S fun x S1 => wE C (fun x S' => T.ex x ρ S') i ρ S1 fun k S2 => wixM x k S2 fun d S3 => wE C (fun x S' => T.ex x ρ S') e ρ S3 fun y S4 =>
      wip o d y S4 fun z S5 => wsetix x k z S5 fun S6 => T.nx ρ S6
  | C, .augA o a f e, ρ, S, T => wE C (fun x S' => T.ex x ρ S') a ρ S fun x S1 => wattr x f S1 fun d S2 => wE C (fun x S' => T.ex x ρ S') e ρ S2 fun y S3 => wip o d y S3 fun z S4 => wsetattr x f z S4 fun S5 => T.nx ρ S5
  | C, .ex e, ρ, S, T => wE C (fun x S' => T.ex x ρ S') e ρ S fun _ S1 => T.nx ρ S1
  | C, .ret e, ρ, S, T => wE C (fun x S' => T.ex x ρ S') e ρ S T.rt
  | C, .retN, _, S, T => T.rt .non S
  | C, .ite t a b, ρ, S, T => wE C (fun x S' => T.ex x ρ S') t ρ S fun x S1 => wtru S1 x fun c => if c = true then wB C a ρ S1 T else wB C b ρ S1 T
  | C, .whl t b, ρ, S, T => ∃ I : Nat → Env → Sta → Prop, (∃ m, I m ρ S) ∧ ∀ m ρ S, I m ρ S → wE C (fun x S' => T.ex x ρ S') t ρ S fun x S1 => wtru S1 x fun c =>
      if c = true then wB C b ρ S1 { nx := fun ρ' S' => ∃ m', m' < m ∧ I m' ρ' S', rt := T.rt, bk := T.nx, ct := fun ρ' S' => ∃ m', m' < m ∧ I m' ρ' S', ex := T.ex } else T.nx ρ S1
  | C, .for_ t it b, ρ, S, T => wIt C (fun x S' => T.ex x ρ S') it ρ S fun h xs S1 =>
      wfor h (fun x ρ S R => wTg C (fun ρ y S' => T.ex y ρ S') t x ρ S fun ρ1 S2 => wB C b ρ1 S2 { nx := R, rt := T.rt, bk := T.nx, ct := R, ex := T.ex }) xs ρ S1 T.nx
  | C, .forD t vals e b, ρ, S, T => ∃ a kvs, S a = some (.dic kvs) ∧ wE C (fun x S' => T.ex x ρ S') e ρ (ups S a (.dicF kvs)) fun x S1 => x = .ref a ∧ S1 a = some (.dicF kvs) ∧
      wfor [(a, .dicF kvs)] (fun x ρ S R => wTg C (fun _ _ _ => False) t x ρ S fun ρ1 S2 => wB C b ρ1 S2
          { nx := R, rt := fun d S' => S' a = some (.dicF kvs) ∧ T.rt d (ups S' a (.dic kvs)), bk := fun ρ' S' => S' a = some (.dicF kvs) ∧ T.nx ρ' (ups S' a (.dic kvs)), ct := R, ex := fun x ρ' S' => T.ex x ρ' S' })
        (kvs.map fun p => if vals then p.2 else dKey p.1) ρ S1 fun ρ' S' => S' a = some (.dicF kvs) ∧ T.nx ρ' (ups S' a (.dic kvs))
  | C, .raise c fs src es _, ρ, S, T => wEs C (fun x S' => T.ex x ρ S') es ρ S fun ds S1 => ds.length = es.len ∧ T.ex (.exc c fs (placeL src ds)) ρ S1
  | C, .try_ b hs, ρ, S, T => wB C b ρ S { nx := T.nx, rt := T.rt, bk := T.bk, ct := T.ct, ex := fun x ρ' S' => wH C hs x ρ' S' T }
  | C, .pass, ρ, S, T => T.nx ρ S
  | C, .nev, _, _, _ => False
  | C, .brk, ρ, S, T => T.bk ρ S
  | C, .cont, ρ, S, T => T.ct ρ S
def wB : Orc → Ss → Env → Sta → Ends → Prop
  | _, .nil, ρ, S, T => T.nx ρ S
  | C, .cons s r, ρ, S, T => wS C s ρ S { nx := fun ρ' S' => wB C r ρ' S' T, rt := T.rt, bk := T.bk, ct := T.ct, ex := T.ex }
/-- the except clauses, one after another -/
def wH : Orc → Hs → D → Env → Sta → Ends → Prop
  | _, .nil, x, ρ, S, T => T.ex x ρ S
  | C, .cons cs i b r, x, ρ, S, T => match x with
    | .exc c _ _ => ∃ h, cs.lookup c = some h ∧ if h = true then
        (match i with
        | some i => wB C b (ρ.set i (some x)) S { nx := fun ρ' S' => T.nx (ρ'.set i none) S', rt := T.rt, bk := fun ρ' S' => T.bk (ρ'.set i none) S', ct := fun ρ' S' => T.ct (ρ'.set i none) S', ex := fun _ _ _ => False }
        | none => wB C b ρ S { nx := T.nx, rt := T.rt, bk := T.bk, ct := T.ct, ex := fun _ _ _ => False })
      else wH C r x ρ S T
    | _ => False
end

/-- a def: how many names, how many parameters, its body -/
structure Fn where
  n : Nat
  k : Nat
  body : Ss
abbrev Prg := Nat → Option Fn
/-- the state behind a call may be told in part -/
def Q1 (Q : K) : K := fun d S => ∃ S', Sub S' S ∧ Q d S'
def callW (P : Prg) : Nat → Orc
  | 0, _, _, _, _, _ => False
  | n + 1, f, ds, S, Q, X => ∃ F, P f = some F ∧ ds.length = F.k ∧
      wB (callW P n) F.body (ds.map some ++ List.replicate (F.n - F.k) none) S { nx := fun _ S' => Q1 Q .non S', rt := Q1 Q, ex := fun x _ S' => Q1 X x S' }
end A
end
section
set_option Elab.async false
set_option linter.all false
set_option maxRecDepth 100000
set_option maxHeartbeats 1000000
/-! A3: the rules for expressions. -/
namespace A
open PySem L2

abbrev Wp := Env → Sta → K → Prop
/-- an end of the small language, in the layer -/
def Kn (N : Nm) (S : Sta) (H : Hp) (Qh : K) (Q : VK) : Prop := ∀ d S' v H', Fr S H S' H' → RH N H' S' → RD N H' d v → Qh d S' → Q v H'
/-- Z: the state and the heap at the def's entry -/
def tOf (N : Nm) (Z : Sta × Hp) (w : Wp) : TE := fun σ H Q => ∃ ρ S Qh, RS N H σ ρ ∧ RH N H S ∧ Fr Z.1 Z.2 S H ∧ w ρ S Qh ∧ Kn N S H Qh Q
theorem pimp {X : Cx} {e : Expr} {t t' : TE} (h : PE X e t) (i : ∀ σ H Q, t' σ H Q → t σ H Q) : PE X e t' := ⟨fun pins s σ H Q I q => h.run pins s σ H Q I (i σ H Q q)⟩

section
variable {N : Nm} {Z : Sta × Hp} {X : Cx} {S S' S1 : Sta} {H H' H1 : Hp} {Q : VK} {Qh : K} {σ : L2.St} {ρ : Env}
theorem Kn.at (k : Kn N S H Qh Q) {d : D} {v : V} (h : RH N H S) (r : RD N H d v) (q : Qh d S) : Q v H := k d S v H Fr.refl h r q
theorem Kn.step (k : Kn N S H Qh Q) (f : Fr S H S1 H1) : Kn N S1 H1 Qh Q := fun d S' v H' f' h r q => k d S' v H' (f.trans f') h r q
/-- one value, then its use -/
theorem tOf.one {w : Wp} {g : Env → D → Sta → K → Prop} (t : tOf N Z (fun ρ S Q => w ρ S fun x S1 => g ρ x S1 Q) σ H Q) {P : VK}
    (h : ∀ ρ x S1 v H1 Qh, RS N H1 σ ρ → RH N H1 S1 → Fr Z.1 Z.2 S1 H1 → RD N H1 x v → g ρ x S1 Qh → Kn N S1 H1 Qh Q → P v H1) : tOf N Z w σ H P := by
  obtain ⟨ρ, S, Qh, rs, rh, fz, q, k⟩ := t
  exact ⟨ρ, S, _, rs, rh, fz, q, fun x S1 v H1 f h1 r q1 => h ρ x S1 v H1 Qh (rs.mono (f.dle rh)) h1 (fz.trans f) r q1 (k.step f)⟩
/-- two values, then their use -/
theorem tOf.two {w w' : Wp} {g : D → D → Sta → K → Prop} (t : tOf N Z (fun ρ S Q => w ρ S fun x S1 => w' ρ S1 fun y S2 => g x y S2 Q) σ H Q) {P : V → V → Hp → Prop}
    (h : ∀ x y S2 v u H2 Qh, RH N H2 S2 → RD N H2 x v → RD N H2 y u → g x y S2 Qh → Kn N S2 H2 Qh Q → P v u H2) : tOf N Z w σ H fun v H1 => tOf N Z w' σ H1 fun u H2 => P v u H2 := by
  refine tOf.one (g := fun ρ x S1 Q => w' ρ S1 fun y S2 => g x y S2 Q) t fun ρ x S1 v H1 Qh rs rh fz r q k => ?_
  exact ⟨ρ, S1, _, rs, rh, fz, q, fun y S2 u H2 f h2 r2 q2 => h x y S2 v u H2 Qh h2 (RD.mono (f.dle rh) _ _ r) r2 q2 (k.step f)⟩
theorem tOf.three {w w' w'' : Wp} {g : D → D → D → Sta → K → Prop} (t : tOf N Z (fun ρ S Q => w ρ S fun x S1 => w' ρ S1 fun y S2 => w'' ρ S2 fun z S3 => g x y z S3 Q) σ H Q) {P : V → V → V → Hp → Prop}
    (h : ∀ x y z S3 v u t H3 Qh, RH N H3 S3 → RD N H3 x v → RD N H3 y u → RD N H3 z t → g x y z S3 Qh → Kn N S3 H3 Qh Q → P v u t H3) :
    tOf N Z w σ H fun v H1 => tOf N Z w' σ H1 fun u H2 => tOf N Z w'' σ H2 fun t H3 => P v u t H3 := by
  refine tOf.one (g := fun ρ x S1 Q => w' ρ S1 fun y S2 => w'' ρ S2 fun z S3 => g x y z S3 Q) t fun ρ x S1 v H1 Qh rs rh fz r q k => ?_
  refine ⟨ρ, S1, _, rs, rh, fz, q, fun y S2 u H2 f h2 r2 q2 => ?_⟩
  refine ⟨ρ, S2, _, rs.mono (f.dle rh), h2, fz.trans f, q2, fun z S3 t H3 f3 h3 r3 q3 => ?_⟩
  exact h x y z S3 v u t H3 Qh h3 (RD.mono (f3.dle h2) _ _ (RD.mono (f.dle rh) _ _ r)) (RD.mono (f3.dle h2) _ _ r2) r3 q3 ((k.step f).step f3)

/-! what a value is -/
theorem rd_non {v : V} (h : RD N H .non v) : v = .non := by simpa only [RD] using h
theorem rd_bl {b : Bool} {v : V} (h : RD N H (.bl b) v) : v = .bl b := by simpa only [RD] using h
theorem rd_int {i : Int} {v : V} (h : RD N H (.int i) v) : v = .int i := by simpa only [RD] using h
theorem rd_str {i : Str} {v : V} (h : RD N H (.str i) v) : v = .str i := by simpa only [RD] using h
theorem rd_ref {a : Addr} {v : V} (h : RD N H (.ref a) v) : v = .ref a := by simpa only [RD] using h
theorem rd_fn {a : Nat} {v : V} (h : RD N H (.fn a) v) : v = .ref (N.fa a) := by simpa only [RD] using h
theorem rd_tup {l : List D} {v : V} (h : RD N H (.tup l) v) : ∃ a vs, v = .ref a ∧ SqT N.K H a vs ∧ RDs N H l vs := by simpa only [RD] using h
theorem rd_lis {l : List D} {v : V} (h : RD N H (.lis l) v) : ∃ a vs, v = .ref a ∧ SqL N.K H a vs ∧ RDs N H l vs := by
  simp only [RD] at h
  obtain ⟨a, vs, e, q, r⟩ := h
  refine ⟨a, vs, e, ?_, r⟩
  rcases q with ⟨o, q⟩ | (q | ⟨o, q⟩) | q
  · exact .inl (.inr ⟨o, q⟩)
  · cases q
  · cases q
  · exact .inr q
theorem mk_non : RD N H .non .non := by simp only [RD]
theorem mk_bl {b : Bool} : RD N H (.bl b) (.bl b) := by simp only [RD]
theorem mk_int {b : Int} : RD N H (.int b) (.int b) := by simp only [RD]
theorem mk_str {b : Str} : RD N H (.str b) (.str b) := by simp only [RD]
theorem mk_ref {b : Addr} : RD N H (.ref b) (.ref b) := by simp only [RD]
theorem mk_tup {l : List D} {a : Addr} {vs : List V} (h : SqT N.K H a vs) (r : RDs N H l vs) : RD N H (.tup l) (.ref a) := by simp only [RD]; exact ⟨a, vs, rfl, h, r⟩
theorem RDs.mono' (f : Dle H H') {ds : List D} {vs : List V} (r : RDs N H ds vs) : RDs N H' ds vs := RDs.mono f ds vs r

/-- a new list, a new tuple -/
theorem Kn.newL (k : Kn N S H Qh Q) (h : RH N H S) {p : Addr} (n : H p = none) {ds : List D} {vs : List V} (r : RDs N H ds vs) (q : ∀ p, S p = none → Qh (.ref p) (ups S p (.lst ds))) : Q (.ref p) (upd H p (.lst vs)) :=
  k _ _ _ _ (Fr.new n) (h.new (m := .lst ds) n ⟨vs, L2.upd_same, r.mono' (dle_new n)⟩) mk_ref (q p (h.fresh n))
theorem Kn.newT (k : Kn N S H Qh Q) (h : RH N H S) {p : Addr} (n : H p = none) {ds : List D} {vs : List V} (r : RDs N H ds vs) (q : Qh (.tup ds) S) : Q (.ref p) (upd H p (.tup vs)) :=
  k _ _ _ _ (Fr.skip n) (h.skip n) (mk_tup (SqT.of L2.upd_same) (r.mono' (dle_new n))) q
theorem Kn.newK (k : Kn N S H Qh Q) (h : RH N H S) {p : Addr} (n : H p = none) {ds : List (Key × D)} {vs : List (Key × V)} (e : vs.map (·.1) = ds.map (·.1)) (r : RDs N H (ds.map (·.2)) (vs.map (·.2)))
    (q : ∀ p, S p = none → Qh (.ref p) (ups S p (.dic ds))) : Q (.ref p) (upd H p (.dK vs)) :=
  k _ _ _ _ (Fr.new n) (h.new (m := .dic ds) n ⟨vs, L2.upd_same, e, r.mono' (dle_new n)⟩) mk_ref (q p (h.fresh n))
theorem at_lst (h : RH N H S) {a : Addr} {xs : List D} (e : S a = some (.lst xs)) : ∃ vs, H a = some (.lst vs) ∧ RDs N H xs vs := h a _ e
theorem at_dic (h : RH N H S) {a : Addr} {xs : List (Key × D)} (e : S a = some (.dic xs)) : ∃ ws : List (Key × V), H a = some (.dK ws) ∧ ws.map (·.1) = xs.map (·.1) ∧ RDs N H (xs.map (·.2)) (ws.map (·.2)) := h a _ e
theorem at_dicF (h : RH N H S) {a : Addr} {xs : List (Key × D)} (e : S a = some (.dicF xs)) : ∃ (od : Obj) (ws : List (Key × V)), H a = some (.frz od (.dK ws)) ∧ ws.map (·.1) = xs.map (·.1) ∧ RDs N H (xs.map (·.2)) (ws.map (·.2)) := h a _ e
theorem at_ins (h : RH N H S) {a : Addr} {c : Nat} {fs : List (Nat × D)} (e : S a = some (.ins c fs)) :
    ∃ (dx : Addr) (gs : List (Str × V)), H a = some (.ins (N.ca c) dx gs) ∧ gs.map (·.1) = fs.map (fun p => N.fnm p.1) ∧ RDs N H (fs.map (·.2)) (gs.map (·.2)) := h a _ e

/-! ### binary operators -/
theorem oimp {f : Value → Value → Sem Value} {r r' : R2} (h : OpR X f r) (i : ∀ x y H Q, r' x y H Q → r x y H Q) : OpR X f r' := fun pins s σ H x y v u Q I rx ry q => h pins s σ H x y v u Q I rx ry (i x y H Q q)
def boOp : Bo → Operator
  | .add => .Add | .sub => .Sub | .mul => .Mult | .div => .FloorDiv | .mod => .Mod | .pow => .Pow
/-- the small language's operator on values of the layer -/
def rBin (N : Nm) (o : Bo) : R2 := fun v u H Q => ∃ x y S Qh, RH N H S ∧ RD N H x v ∧ RD N H y u ∧ wbin o x y S Qh ∧ Kn N S H Qh Q
def rAddAll (K : PySem.W.Frag) : R2 := fun x y H Q =>
  (rI0 (fun i j => .int (i + j))) x y H Q ∨ ((∃ i k, x = .int i ∧ y = .bl k ∧ Q (.int (i + PyProof.Rows.b2i k)) H) ∨ ((∃ i j, x = .str i ∧ y = .str j ∧ i.length + j.length ≤ sizeLine ∧ Q (.str (i ++ j)) H) ∨ (rCatA K x y H Q ∨ L2.rCat x y H Q)))
theorem op_addAll : OpR X (binaryOp .Add) (rAddAll X.K) := op_add.or (op_add_ib.or (op_add_str.or (op_catA.or op_cat)))
theorem rbin_add (hK : N.K = X.K) : ∀ v u H Q, rBin N .add v u H Q → rAddAll X.K v u H Q := by
  rintro v u H Q ⟨x, y, S, Qh, rh, rx, ry, w, k⟩
  cases x with
  | int i =>
    cases y with
    | int j => cases rd_int rx; cases rd_int ry; exact .inl ⟨i, j, rfl, rfl, k.at rh mk_int w⟩
    | bl b =>
      cases rd_int rx; cases rd_bl ry
      exact .inr (.inl ⟨i, b, rfl, rfl, k.at rh mk_int (by cases b <;> exact w)⟩)
    | _ => exact (False.elim w)
  | str a =>
    cases y with
    | str b => cases rd_str rx; cases rd_str ry; exact .inr (.inr (.inl ⟨a, b, rfl, rfl, w.1, k.at rh mk_str w.2⟩))
    | _ => exact (False.elim w)
  | tup l =>
    cases y with
    | tup m =>
      obtain ⟨a, vs, rfl, h1, r1⟩ := rd_tup rx
      obtain ⟨b, ws, rfl, h2, r2⟩ := rd_tup ry
      rw [hK] at h1 h2
      have e1 := r1.length
      have e2 := r2.length
      refine .inr (.inr (.inr (.inl ⟨a, b, vs, ws, rfl, rfl, h1, h2, by rw [← e1, ← e2]; exact w.1, fun z => ?_, fun _ z => ?_, fun _ _ p n => ?_⟩)))
      · subst z
        have : l = [] := by cases l with
          | nil => rfl
          | cons _ _ => simp at e1
        subst this
        exact k.at rh (mk_tup (by rw [hK]; exact h2) r2) w.2
      · subst z
        have : m = [] := by cases m with
          | nil => rfl
          | cons _ _ => simp at e2
        subst this
        exact k.at rh (mk_tup (by rw [hK]; exact h1) r1) (by simpa using w.2)
      · exact k.newT rh n (r1.append r2) w.2
    | _ => exact (False.elim w)
  | ref a =>
    cases y with
    | ref b =>
      cases rd_ref rx; cases rd_ref ry
      have w : (match S a, S b with
        | some (.lst xs), some (.lst ys) => xs.length + ys.length ≤ sizeLine ∧ ∀ p, S p = none → Qh (.ref p) (ups S p (.lst (xs ++ ys)))
        | _, _ => False) := w
      cases ea : S a with
      | none => rw [ea] at w; exact w.elim
      | some oa =>
        rw [ea] at w
        cases oa with
        | lst xs =>
          cases eb : S b with
          | none => rw [eb] at w; exact w.elim
          | some ob =>
            rw [eb] at w
            cases ob with
            | lst ys =>
              obtain ⟨vs, h1, r1⟩ := at_lst rh ea
              obtain ⟨ws, h2, r2⟩ := at_lst rh eb
              exact .inr (.inr (.inr (.inr ⟨a, b, vs, ws, rfl, rfl, h1, h2, by rw [← r1.length, ← r2.length]; exact w.1, fun p n => k.newL rh n (r1.append r2) w.2⟩)))
            | _ => exact w.elim
        | _ => exact w.elim
    | _ => exact (False.elim w)
  | _ => exact (False.elim w)
theorem CMulW.op : OpR X (binaryOp .Mult) (rI MulOk fun i j => .int (i * j)) := opI fun _ _ _ _ _ _ _ hc q => by
  rcases hc with hc | hc
  · exact PyProof.Rows.mul_int q hc.ok
  · exact PyProof.Rows.mul_int q hc.ok
theorem op_bin (hK : N.K = X.K) : ∀ o, OpR X (binaryOp (boOp o)) (rBin N o)
  | .add => oimp op_addAll (rbin_add hK)
  | .sub => oimp op_sub fun v u H Q ⟨x, y, S, Qh, rh, rx, ry, w, k⟩ => by
    cases x <;> cases y <;> first | exact False.elim w | skip
    cases rd_int rx; cases rd_int ry
    exact ⟨_, _, rfl, rfl, k.at rh mk_int w⟩
  | .mul => oimp (CMulW.op.or op_rep) fun v u H Q ⟨x, y, S, Qh, rh, rx, ry, w, k⟩ => by
    cases x <;> cases y <;> first | exact False.elim w | skip
    · cases rd_int rx; cases rd_int ry
      exact .inl ⟨_, _, rfl, rfl, w.1, k.at rh mk_int w.2⟩
    · rename_i a n
      cases rd_ref rx; cases rd_int ry
      have w : (match S a with
        | some (.lst xs) => -(2 ^ 63) ≤ n ∧ n < 2 ^ 63 ∧ xs.length * n.toNat ≤ sizeLine ∧ ∀ p, S p = none → Qh (.ref p) (ups S p (.lst (List.replicate n.toNat xs).flatten))
        | _ => False) := w
      cases ea : S a with
      | none => rw [ea] at w; exact w.elim
      | some oa =>
        rw [ea] at w
        cases oa with
        | lst xs =>
          obtain ⟨vs, h1, r1⟩ := at_lst rh ea
          obtain ⟨w1, w2, w3, w4⟩ := w
          have rep : ∀ m : Nat, RDs N H (List.replicate m xs).flatten (List.replicate m vs).flatten := fun m => by
            induction m with
            | zero => exact .nil
            | succ m ih => rw [List.replicate_succ, List.replicate_succ, List.flatten_cons, List.flatten_cons]; exact r1.append ih
          exact .inr ⟨a, n, vs, rfl, rfl, h1, w1, w2, by rw [← r1.length]; exact w3, fun p np => k.newL rh np (rep _) w4⟩
        | _ => exact w.elim
  | .div => oimp op_fdivW fun v u H Q ⟨x, y, S, Qh, rh, rx, ry, w, k⟩ => by
    cases x <;> cases y <;> first | exact False.elim w | skip
    cases rd_int rx; cases rd_int ry
    exact ⟨_, _, rfl, rfl, w.1, k.at rh mk_int w.2⟩
  | .mod => oimp op_mod fun v u H Q ⟨x, y, S, Qh, rh, rx, ry, w, k⟩ => by
    cases x <;> cases y <;> first | exact False.elim w | skip
    cases rd_int rx; cases rd_int ry
    exact ⟨_, _, rfl, rfl, w.1, k.at rh mk_int w.2⟩
  | .pow => oimp op_pow fun v u H Q ⟨x, y, S, Qh, rh, rx, ry, w, k⟩ => by
    cases x <;> cases y <;> first | exact False.elim w | skip
    cases rd_int rx; cases rd_int ry
    exact ⟨_, _, rfl, rfl, w.1, k.at rh mk_int w.2⟩
theorem he_bin (hK : N.K = X.K) {o : Bo} {a b : Expr} {wa wb : Wp} {pos : Pos} (ha : PE X a (tOf N Z wa)) (hb : PE X b (tOf N Z wb)) :
    PE X (.BinOp a (boOp o) b pos) (tOf N Z fun ρ S Q => wa ρ S fun x S1 => wb ρ S1 fun y S2 => wbin o x y S2 Q) :=
  pimp (pe_op (op_bin hK o) ha hb) fun σ H Q t => tOf.two t fun x y S2 v u H2 Qh h rx ry g k => ⟨x, y, S2, Qh, h, rx, ry, g, k⟩
end
end A
end
section
set_option Elab.async false
set_option linter.all false
set_option maxRecDepth 100000
set_option maxHeartbeats 1000000
/-! A4: comparisons, truth, subscripts, slices. -/
namespace A
open PySem L2
section
variable {N : Nm} {X : Cx} {S S' S1 : Sta} {H H' H1 : Hp} {Q : VK} {Qh : K} {σ : L2.St} {ρ : Env}

/-! ### data -/
mutual
theorem dp_of (hK : N.K = X.K) : ∀ (d : D) (p : PyData) (v : V), toP d = some p → RD N H d v → Dp X.K H v p
  | .non, p, v, e, r => by simp only [toP] at e; cases e; cases rd_non r; exact .non
  | .bl b, p, v, e, r => by simp only [toP] at e; cases e; cases rd_bl r; exact .bl b
  | .int i, p, v, e, r => by simp only [toP] at e; cases e; cases rd_int r; exact .int i
  | .str s, p, v, e, r => by simp only [toP] at e; cases e; cases rd_str r; exact .str s
  | .tup l, p, v, e, r => by
    simp only [toP, Option.map_eq_some_iff] at e
    obtain ⟨ps, e1, rfl⟩ := e
    obtain ⟨a, vs, rfl, h1, r1⟩ := rd_tup r
    exact .tup (hK ▸ h1) (dps_of hK l ps vs e1 r1)
  | .lis l, p, v, e, r => by
    simp only [toP, Option.map_eq_some_iff] at e
    obtain ⟨ps, e1, rfl⟩ := e
    obtain ⟨a, vs, rfl, h1, r1⟩ := rd_lis r
    exact .lst (hK ▸ h1) (dps_of hK l ps vs e1 r1)
  | .ref a, p, v, e, r => by simp only [toP] at e; cases e
  | .fn f, p, v, e, r => by simp only [toP] at e; cases e
  | .exc c fs ds, p, v, e, r => by simp only [toP] at e; cases e
theorem dps_of (hK : N.K = X.K) : ∀ (ds : List D) (ps : List PyData) (vs : List V), toPs ds = some ps → RDs N H ds vs → DpAll X.K H vs ps
  | [], ps, vs, e, r => by simp only [toPs] at e; cases e; rw [r.unnil]; exact .nil
  | d :: ds, ps, vs, e, r => by
    simp only [toPs] at e
    cases e1 : toP d with
    | none => rw [e1] at e; cases e
    | some x =>
      rw [e1] at e
      cases e2 : toPs ds with
      | none => rw [e2] at e; cases e
      | some xs =>
        rw [e2] at e; cases e
        obtain ⟨v, t, rfl, h1, h2⟩ := r.uncons
        exact .cons (dp_of hK d x v e1 h1) (dps_of hK ds xs t e2 h2)
end
theorem dpS_of (hK : N.K = X.K) (h : RH N H S) {d : D} {p : PyData} {v : V} (e : toPS S d = some p) (r : RD N H d v) : Dp X.K H v p := by
  cases d with
  | ref a =>
    have e : (match S a with
      | some (.lst xs) => (toPs xs).map .list
      | _ => none) = some p := e
    cases ea : S a with
    | none => rw [ea] at e; cases e
    | some o =>
      rw [ea] at e
      cases o with
      | lst xs =>
        obtain ⟨ps, e1, rfl⟩ := Option.map_eq_some_iff.mp e
        obtain ⟨vs, h1, r1⟩ := at_lst h ea
        cases rd_ref r
        exact .lst (SqL.of h1) (dps_of hK xs ps vs e1 r1)
      | _ => cases e
  | _ => exact dp_of hK _ p v e r

def rEqW (N : Nm) (neg : Bool) : R2 := fun v u H Q => ∃ x y S, RH N H S ∧ RD N H x v ∧ RD N H y u ∧ eqW S x y fun b => Q (.bl (if neg then !b else b)) H
def rEqBoth (K : PySem.W.Frag) : R2 := fun x y H Q => rEq x y H Q ∨ rEqD K x y H Q
theorem dec_i {i j : Int} : decide (V.int i = V.int j) = (i == j) := L2.dec_int
theorem reqw_of (hK : N.K = X.K) {neg : Bool} {v u : V} {x y : D} {P : Bool → Prop} (rh : RH N H S) (rx : RD N H x v) (ry : RD N H y u) (w : eqW S x y P) (q : ∀ b, P b → Q (.bl (if neg then !b else b)) H) :
    (scal v u = true ∧ Q (.bl (if neg then !decide (v = u) else decide (v = u))) H) ∨ ∃ d e, Dp X.K H v d ∧ Dp X.K H u e ∧ SeqAt.shaped d = true ∧ SeqAt.shaped e = true ∧ Q (.bl (if neg then !PyData.eqv d e else PyData.eqv d e)) H := by
  have data : eqDD S x y P → (scal v u = true ∧ Q (.bl (if neg then !decide (v = u) else decide (v = u))) H) ∨ ∃ d e, Dp X.K H v d ∧ Dp X.K H u e ∧ SeqAt.shaped d = true ∧ SeqAt.shaped e = true ∧ Q (.bl (if neg then !PyData.eqv d e else PyData.eqv d e)) H :=
    fun ⟨p, p', e1, e2, s1, s2, z⟩ => .inr ⟨p, p', dpS_of hK rh e1 rx, dpS_of hK rh e2 ry, s1, s2, q _ z⟩
  have fin : ∀ {b : Bool}, P b → scal v u = true → decide (v = u) = b → (scal v u = true ∧ Q (.bl (if neg then !decide (v = u) else decide (v = u))) H) ∨ ∃ d e, Dp X.K H v d ∧ Dp X.K H u e ∧ SeqAt.shaped d = true ∧ SeqAt.shaped e = true ∧ Q (.bl (if neg then !PyData.eqv d e else PyData.eqv d e)) H :=
    fun p s e => .inl ⟨s, by rw [e]; exact q _ p⟩
  cases x with
  | int i =>
    cases rd_int rx
    cases y with
    | int j => cases rd_int ry; exact fin w rfl L2.dec_int
    | non => cases rd_non ry; exact fin w rfl (by simp)
    | str j => cases rd_str ry; exact fin w rfl (by simp)
    | _ => exact data w
  | str i =>
    cases rd_str rx
    cases y with
    | str j => cases rd_str ry; exact fin w rfl L2.dec_str
    | non => cases rd_non ry; exact fin w rfl (by simp)
    | int j => cases rd_int ry; exact fin w rfl (by simp)
    | bl j => cases rd_bl ry; exact fin w rfl (by simp)
    | _ => exact data w
  | bl i =>
    cases rd_bl rx
    cases y with
    | bl j => cases rd_bl ry; exact fin w rfl L2.dec_bl
    | non => cases rd_non ry; exact fin w rfl (by simp)
    | str j => cases rd_str ry; exact fin w rfl (by simp)
    | _ => exact data w
  | non =>
    cases rd_non rx
    cases y with
    | non => cases rd_non ry; exact fin w rfl (by simp)
    | int j => cases rd_int ry; exact fin w rfl (by simp)
    | str j => cases rd_str ry; exact fin w rfl (by simp)
    | bl j => cases rd_bl ry; exact fin w rfl (by simp)
    | _ => exact data w
  | _ => exact data w
theorem op_eqW (hK : N.K = X.K) (hu : X.A.units + 64 < cLine) : OpR X (compareOp .Eq) (rEqW N false) := oimp (op_eq.or (op_eqD hu)) fun v u H Q ⟨x, y, S, rh, rx, ry, w⟩ =>
  (reqw_of (neg := false) (Q := Q) hK rh rx ry w fun _ z => z)
theorem op_neW (hK : N.K = X.K) (hu : X.A.units + 64 < cLine) : OpR X (compareOp .NotEq) (rEqW N true) := oimp (op_ne.or (op_neD hu)) fun v u H Q ⟨x, y, S, rh, rx, ry, w⟩ =>
  (reqw_of (neg := true) (Q := Q) hK rh rx ry w fun _ z => z)

/-! ### in -/
theorem rd_flat {d : D} {v : V} (r : RD N H d v) (f : flatD d = true) : flatV v = true := by
  cases d with
  | non => cases rd_non r; rfl
  | bl b => cases rd_bl r; rfl
  | int b => cases rd_int r; rfl
  | str b => cases rd_str r; rfl
  | _ => cases f
theorem rd_eqF {d e : D} {v u : V} (r : RD N H d v) (s : RD N H e u) (f : flatD d = true) (g : flatD e = true) : L2.eqV v u = eqF d e := by
  cases d with
  | non => cases rd_non r; cases e with
    | non => cases rd_non s; rfl
    | bl b => cases rd_bl s; rfl
    | int b => cases rd_int s; rfl
    | str b => cases rd_str s; rfl
    | _ => cases g
  | bl b => cases rd_bl r; cases e with
    | non => cases rd_non s; rfl
    | bl b => cases rd_bl s; rfl
    | int b => cases rd_int s; rfl
    | str b => cases rd_str s; rfl
    | _ => cases g
  | int b => cases rd_int r; cases e with
    | non => cases rd_non s; rfl
    | bl b => cases rd_bl s; rfl
    | int b => cases rd_int s; rfl
    | str b => cases rd_str s; rfl
    | _ => cases g
  | str b => cases rd_str r; cases e with
    | non => cases rd_non s; rfl
    | bl b => cases rd_bl s; rfl
    | int b => cases rd_int s; rfl
    | str b => cases rd_str s; rfl
    | _ => cases g
  | _ => cases f
theorem rds_flat : ∀ {ds : List D} {vs : List V}, RDs N H ds vs → ds.all flatD = true → vs.all flatV = true
  | [], vs, r, _ => by rw [r.unnil]; rfl
  | d :: ds, vs, r, f => by
    obtain ⟨v, t, rfl, h1, h2⟩ := r.uncons
    simp only [List.all_cons, Bool.and_eq_true] at f ⊢
    exact ⟨rd_flat h1 f.1, rds_flat h2 f.2⟩
theorem rds_in {x : D} {v : V} (rx : RD N H x v) (fx : flatD x = true) : ∀ {ds : List D} {vs : List V}, RDs N H ds vs → ds.all flatD = true → L2.inV v vs = inList x ds
  | [], vs, r, _ => by rw [r.unnil]; rfl
  | d :: ds, vs, r, f => by
    obtain ⟨u, t, rfl, h1, h2⟩ := r.uncons
    simp only [List.all_cons, Bool.and_eq_true] at f
    have ih := rds_in rx fx h2 f.2
    unfold L2.inV inList at ih ⊢
    rw [List.any_cons, List.any_cons, ih, rd_eqF h1 rx f.1 fx]
theorem key_rd {d : D} {k : Key} {v : V} (e : keyD d = some k) (r : RD N H d v) : v = kV k := by
  cases d with
  | int i => cases e; cases rd_int r; rfl
  | str i => cases e; cases rd_str r; rfl
  | _ => cases e
/-- what two dicts hold at a key -/
theorem kget_rel {k : Key} : ∀ {kvs : List (Key × D)} {ws : List (Key × V)}, ws.map (·.1) = kvs.map (·.1) → RDs N H (kvs.map (·.2)) (ws.map (·.2)) →
    (kget kvs k = none ∧ valV ws k = none) ∨ ∃ d v, kget kvs k = some d ∧ valV ws k = some v ∧ RD N H d v
  | [], ws, e, r => by
    cases ws with
    | nil => exact .inl ⟨rfl, rfl⟩
    | cons _ _ => simp at e
  | p :: kvs, ws, e, r => by
    cases ws with
    | nil => simp at e
    | cons q ws =>
      simp only [List.map_cons, List.cons.injEq] at e
      have r : RDs N H (p.2 :: kvs.map (·.2)) (q.2 :: ws.map (·.2)) := r
      obtain ⟨v, t, e2, h1, h2⟩ := r.uncons
      cases e2
      by_cases hk : p.1 = k
      · refine .inr ⟨p.2, q.2, ?_, valV_pos (e.1.trans hk), h1⟩
        unfold kget
        rw [List.find?_cons_of_pos (by simpa using hk)]
        rfl
      · have e3 : kget (p :: kvs) k = kget kvs k := by
          unfold kget
          rw [List.find?_cons_of_neg (by simpa using hk)]
        rw [e3, valV_neg (fun z => hk (e.1.symm.trans z))]
        exact kget_rel e.2 h2
def rDIn (neg : Bool) : R2 := fun v u H Q => ∃ a o, u = .ref a ∧ DGet H a v o ∧ Q (.bl (if neg then !o.isSome else o.isSome)) H
theorem op_dIn (hu : X.A.units + 1 < cLine) : OpR X (compareOp .In) (rDIn false) := by
  intro pins s σ H x y v u Q I rx ry h
  obtain ⟨a, o, rfl, g, q⟩ := h
  cases ry
  exact d_in hu I g rx fun s3 I3 => ⟨.bl o.isSome, H, I3, rfl, q⟩
theorem op_dNotIn (hu : X.A.units + 1 < cLine) : OpR X (compareOp .NotIn) (rDIn true) := by
  intro pins s σ H x y v u Q I rx ry h
  obtain ⟨a, o, rfl, g, q⟩ := h
  cases ry
  exact d_notIn hu I g rx fun s3 I3 => ⟨.bl (!o.isSome), H, I3, rfl, q⟩
def rInW (N : Nm) (neg : Bool) : R2 := fun v u H Q => ∃ x y S, RH N H S ∧ RD N H x v ∧ RD N H y u ∧
  ((∃ c z n, x = .str c ∧ y = .str z ∧ c = ⟨#[n]⟩ ∧ Q (.bl (if neg then !decide (n ∈ z.cps.toList) else decide (n ∈ z.cps.toList))) H) ∨
   (∃ l, (y = .tup l ∨ ∃ a, y = .ref a ∧ S a = some (.lst l)) ∧ flatD x = true ∧ l.all flatD = true ∧ Q (.bl (if neg then !inList x l else inList x l)) H) ∨
   (∃ a kvs k, y = .ref a ∧ (S a = some (.dic kvs) ∨ S a = some (.dicF kvs)) ∧ keyD x = some k ∧ Q (.bl (if neg then !(kget kvs k).isSome else (kget kvs k).isSome)) H))
theorem dget_of (rh : RH N H S) {a : Addr} {kvs : List (Key × D)} (h : S a = some (.dic kvs) ∨ S a = some (.dicF kvs)) (k : Key) :
    ∃ o, DGet H a (kV k) o ∧ ((kget kvs k = none ∧ o = none) ∨ ∃ d v, kget kvs k = some d ∧ o = some v ∧ RD N H d v) := by
  rcases h with h | h
  · obtain ⟨ws, h1, e, r⟩ := at_dic rh h
    exact ⟨_, DGet.k h1, kget_rel e r⟩
  · obtain ⟨od, ws, h1, e, r⟩ := at_dicF rh h
    exact ⟨_, .inl ⟨ws, k, .inr ⟨od, h1⟩, rfl, rfl⟩, kget_rel e r⟩
theorem isSome_of {α β : Type} {p : Option α} {o : Option β} {R : α → β → Prop} (h : (p = none ∧ o = none) ∨ ∃ d v, p = some d ∧ o = some v ∧ R d v) : o.isSome = p.isSome := by
  rcases h with ⟨rfl, rfl⟩ | ⟨_, _, rfl, rfl, _⟩ <;> rfl
theorem op_inW (hK : N.K = X.K) (hu : X.A.units + 1 < cLine) : OpR X (compareOp .In) (rInW N false) := oimp (op_in_sign.or (op_in_seq.or (op_dIn hu))) fun v u H Q ⟨x, y, S, rh, rx, ry, w⟩ => by
  rcases w with ⟨c, z, n, rfl, rfl, rfl, q⟩ | ⟨l, hl, fx, fl, q⟩ | ⟨a, kvs, k, rfl, hs, hk, q⟩
  · cases rd_str rx; cases rd_str ry
    exact .inl ⟨n, z, rfl, rfl, q⟩
  · rcases hl with rfl | ⟨a, rfl, e⟩
    · obtain ⟨a, vs, rfl, h1, r1⟩ := rd_tup ry
      exact .inr (.inl ⟨a, vs, rfl, .inr (hK ▸ h1), rd_flat rx fx, rds_flat r1 fl, by rw [rds_in rx fx r1 fl]; exact q⟩)
    · cases rd_ref ry
      obtain ⟨vs, h1, r1⟩ := at_lst rh e
      exact .inr (.inl ⟨a, vs, rfl, .inl (SqL.of h1), rd_flat rx fx, rds_flat r1 fl, by rw [rds_in rx fx r1 fl]; exact q⟩)
  · cases rd_ref ry
    obtain ⟨o, g, z⟩ := dget_of rh hs k
    rw [key_rd hk rx]
    exact .inr (.inr ⟨a, o, rfl, g, by rw [isSome_of z]; exact q⟩)
theorem op_notInW (hK : N.K = X.K) (hu : X.A.units + 1 < cLine) : OpR X (compareOp .NotIn) (rInW N true) := oimp (op_notIn_sign.or (op_notIn_seq.or (op_dNotIn hu))) fun v u H Q ⟨x, y, S, rh, rx, ry, w⟩ => by
  rcases w with ⟨c, z, n, rfl, rfl, rfl, q⟩ | ⟨l, hl, fx, fl, q⟩ | ⟨a, kvs, k, rfl, hs, hk, q⟩
  · cases rd_str rx; cases rd_str ry
    exact .inl ⟨n, z, rfl, rfl, q⟩
  · rcases hl with rfl | ⟨a, rfl, e⟩
    · obtain ⟨a, vs, rfl, h1, r1⟩ := rd_tup ry
      exact .inr (.inl ⟨a, vs, rfl, .inr (hK ▸ h1), rd_flat rx fx, rds_flat r1 fl, by rw [rds_in rx fx r1 fl]; exact q⟩)
    · cases rd_ref ry
      obtain ⟨vs, h1, r1⟩ := at_lst rh e
      exact .inr (.inl ⟨a, vs, rfl, .inl (SqL.of h1), rd_flat rx fx, rds_flat r1 fl, by rw [rds_in rx fx r1 fl]; exact q⟩)
  · cases rd_ref ry
    obtain ⟨o, g, z⟩ := dget_of rh hs k
    rw [key_rd hk rx]
    exact .inr (.inr ⟨a, o, rfl, g, by rw [isSome_of z]; exact q⟩)

/-! ### all comparisons -/
def coOp : Co → CmpOp
  | .eq => .Eq | .ne => .NotEq | .lt => .Lt | .le => .LtE | .gt => .Gt | .ge => .GtE | .is => .Is | .isn => .IsNot | .inn => .In | .nin => .NotIn
/-- an instance's own __eq__ (given by the program's defs) -/
def rOwn (N : Nm) (C : Orc) (neg : Bool) : R2 := fun v u H Q => ∃ a c fs y S Qh, v = .ref a ∧ RH N H S ∧ RD N H y u ∧ S a = some (.ins c fs) ∧
  C (mth c mEq) [.ref a, y] S (fun r S' => ∃ b, r = .bl b ∧ Qh (.bl (if neg then !b else b)) S') (fun _ _ => False) ∧ Kn N S H Qh Q
def rCmp (N : Nm) (C : Orc) (o : Co) : R2 := fun v u H Q => ∃ x y S Qh, RH N H S ∧ RD N H x v ∧ RD N H y u ∧ wcmp C o x y S (fun b S' => Qh (.bl b) S') ∧ Kn N S H Qh Q
theorem rcmp_eq {C : Orc} {neg : Bool} {o : Co} (ho : o = (if neg then Co.ne else Co.eq)) {v u : V} {x y : D} (rh : RH N H S) (rx : RD N H x v) (ry : RD N H y u) (w : wcmp C o x y S (fun b S' => Qh (.bl b) S')) (k : Kn N S H Qh Q) :
    rEqW N neg v u H Q ∨ rOwn N C neg v u H Q := by
  have data : (eqW S x y fun b => Qh (.bl (if neg then !b else b)) S) → rEqW N neg v u H Q ∨ rOwn N C neg v u H Q := fun z => by
    refine .inl ⟨x, y, S, rh, rx, ry, ?_⟩
    have mono : ∀ {P P' : Bool → Prop}, (∀ b, P b → P' b) → eqW S x y P → eqW S x y P' := fun {P P'} i z => by
      unfold eqW at z ⊢
      split at z <;> first | exact i _ z | (obtain ⟨p, q, e1, e2, s1, s2, z⟩ := z; exact ⟨p, q, e1, e2, s1, s2, i _ z⟩)
    exact mono (fun b q => k.at rh mk_bl q) z
  subst ho
  cases x with
  | ref a =>
    cases rd_ref rx
    cases ea : S a with
    | none =>
      refine data ?_
      cases neg <;> (simp only [wcmp, ea] at w; exact w)
    | some ob =>
      cases ob with
      | ins c fs =>
        refine .inr ⟨a, c, fs, y, S, Qh, rfl, rh, ry, ea, ?_, k⟩
        cases neg <;> (simp only [wcmp, ea] at w; exact w)
      | _ =>
        refine data ?_
        cases neg <;> (simp only [wcmp, ea] at w; exact w)
  | _ => refine data ?_; cases neg <;> (simp only [wcmp] at w; exact w)
theorem op_cmp {C : Orc} (hK : N.K = X.K) (hu : X.A.units + 64 < cLine) (h1 : OpR X (compareOp .Eq) (rOwn N C false)) (h2 : OpR X (compareOp .NotEq) (rOwn N C true)) : ∀ o, OpR X (compareOp (coOp o)) (rCmp N C o)
  | .eq => oimp ((op_eqW hK hu).or h1) fun v u H Q ⟨x, y, S, Qh, rh, rx, ry, w, k⟩ => rcmp_eq (neg := false) rfl rh rx ry w k
  | .ne => oimp ((op_neW hK hu).or h2) fun v u H Q ⟨x, y, S, Qh, rh, rx, ry, w, k⟩ => rcmp_eq (neg := true) rfl rh rx ry w k
  | .lt => oimp op_lt fun v u H Q ⟨x, y, S, Qh, rh, rx, ry, w, k⟩ => by
    cases x <;> cases y <;> first | exact False.elim w | skip
    cases rd_int rx; cases rd_int ry
    exact ⟨_, _, rfl, rfl, k.at rh mk_bl w⟩
  | .le => oimp op_le fun v u H Q ⟨x, y, S, Qh, rh, rx, ry, w, k⟩ => by
    cases x <;> cases y <;> first | exact False.elim w | skip
    cases rd_int rx; cases rd_int ry
    exact ⟨_, _, rfl, rfl, k.at rh mk_bl w⟩
  | .gt => oimp op_gt fun v u H Q ⟨x, y, S, Qh, rh, rx, ry, w, k⟩ => by
    cases x <;> cases y <;> first | exact False.elim w | skip
    cases rd_int rx; cases rd_int ry
    exact ⟨_, _, rfl, rfl, k.at rh mk_bl w⟩
  | .ge => oimp op_ge fun v u H Q ⟨x, y, S, Qh, rh, rx, ry, w, k⟩ => by
    cases x <;> cases y <;> first | exact False.elim w | skip
    cases rd_int rx; cases rd_int ry
    exact ⟨_, _, rfl, rfl, k.at rh mk_bl w⟩
  | .is => oimp op_isN fun v u H Q ⟨x, y, S, Qh, rh, rx, ry, w, k⟩ => by
    cases y <;> first | exact False.elim w | skip
    cases rd_non ry
    refine ⟨rfl, k.at rh mk_bl ?_⟩
    cases x with
    | non => cases rd_non rx; exact w
    | bl b => cases rd_bl rx; exact w
    | int b => cases rd_int rx; exact w
    | str b => cases rd_str rx; exact w
    | ref b => cases rd_ref rx; exact w
    | fn b => cases rd_fn rx; exact w
    | tup l => obtain ⟨a, vs, rfl, _⟩ := rd_tup rx; exact w
    | lis l => obtain ⟨a, vs, rfl, _⟩ := rd_lis rx; exact w
    | exc c fs ds => simp only [RD] at rx
  | .isn => oimp op_notN fun v u H Q ⟨x, y, S, Qh, rh, rx, ry, w, k⟩ => by
    cases y <;> first | exact False.elim w | skip
    cases rd_non ry
    refine ⟨rfl, k.at rh mk_bl ?_⟩
    cases x with
    | non => cases rd_non rx; exact w
    | bl b => cases rd_bl rx; exact w
    | int b => cases rd_int rx; exact w
    | str b => cases rd_str rx; exact w
    | ref b => cases rd_ref rx; exact w
    | fn b => cases rd_fn rx; exact w
    | tup l => obtain ⟨a, vs, rfl, _⟩ := rd_tup rx; exact w
    | lis l => obtain ⟨a, vs, rfl, _⟩ := rd_lis rx; exact w
    | exc c fs ds => simp only [RD] at rx
  | .inn => oimp (op_inW hK (by omega)) fun v u H Q ⟨x, y, S, Qh, rh, rx, ry, w, k⟩ => by
    refine ⟨x, y, S, rh, rx, ry, ?_⟩
    simp only [wcmp] at w
    split at w
    · obtain ⟨n, e, q⟩ := w
      exact .inl ⟨_, _, n, rfl, rfl, e, k.at rh mk_bl q⟩
    · exact .inr (.inl ⟨_, .inl rfl, w.1, w.2.1, k.at rh mk_bl w.2.2⟩)
    · split at w
      · exact .inr (.inl ⟨_, .inr ⟨_, rfl, by assumption⟩, w.1, w.2.1, k.at rh mk_bl w.2.2⟩)
      · obtain ⟨j, e, q⟩ := w
        exact .inr (.inr ⟨_, _, j, rfl, .inl (by assumption), e, k.at rh mk_bl q⟩)
      · obtain ⟨j, e, q⟩ := w
        exact .inr (.inr ⟨_, _, j, rfl, .inr (by assumption), e, k.at rh mk_bl q⟩)
      · exact w.elim
    · exact w.elim
  | .nin => oimp (op_notInW hK (by omega)) fun v u H Q ⟨x, y, S, Qh, rh, rx, ry, w, k⟩ => by
    refine ⟨x, y, S, rh, rx, ry, ?_⟩
    simp only [wcmp] at w
    split at w
    · obtain ⟨n, e, q⟩ := w
      exact .inl ⟨_, _, n, rfl, rfl, e, k.at rh mk_bl q⟩
    · exact .inr (.inl ⟨_, .inl rfl, w.1, w.2.1, k.at rh mk_bl w.2.2⟩)
    · split at w
      · exact .inr (.inl ⟨_, .inr ⟨_, rfl, by assumption⟩, w.1, w.2.1, k.at rh mk_bl w.2.2⟩)
      · obtain ⟨j, e, q⟩ := w
        exact .inr (.inr ⟨_, _, j, rfl, .inl (by assumption), e, k.at rh mk_bl q⟩)
      · obtain ⟨j, e, q⟩ := w
        exact .inr (.inr ⟨_, _, j, rfl, .inr (by assumption), e, k.at rh mk_bl q⟩)
      · exact w.elim
    · exact w.elim
end
end A
end
section
set_option Elab.async false
set_option linter.all false
set_option maxRecDepth 100000
set_option maxHeartbeats 1000000
/-! A5: the rules for expressions without calls. -/
namespace A
open PySem L2
section
variable {N : Nm} {Z : Sta × Hp} {X : Cx} {S S' S1 : Sta} {H H' H1 : Hp} {Q : VK} {Qh : K} {σ : L2.St} {ρ : Env} {pos : Pos} {a b c e : Expr} {wa wb wc : Wp}

/-! ### truth -/
theorem tru_of (hK : N.K = X.K) {x : D} {v : V} {P : Bool → Prop} (rh : RH N H S) (rx : RD N H x v) (w : wtru S x P) : ∃ k, TruV X.K v H k ∧ P k ∧ wtru S x (fun b => b = k) := by
  cases x with
  | non => cases rd_non rx; exact ⟨false, rfl, w, rfl⟩
  | bl b => cases rd_bl rx; exact ⟨b, rfl, w, rfl⟩
  | int i => cases rd_int rx; exact ⟨i != 0, rfl, w, rfl⟩
  | str s =>
    cases rd_str rx
    obtain ⟨h1, h2⟩ := w
    have e : ((s.length : Int) != 0) = (s.length != 0) := by
      by_cases z : s.length = 0
      · rw [z]; rfl
      · rw [bne_iff_ne.mpr z]; exact bne_iff_ne.mpr (by omega)
    exact ⟨s.length != 0, ⟨h1, e.symm⟩, h2, h1, rfl⟩
  | tup l =>
    obtain ⟨a, vs, rfl, h1, r1⟩ := rd_tup rx
    refine ⟨!l.isEmpty, .inr (.inl ⟨vs, hK ▸ h1, ?_⟩), w, rfl⟩
    cases l with
    | nil => rw [r1.unnil]; rfl
    | cons _ _ => obtain ⟨_, _, rfl, _⟩ := r1.uncons; rfl
  | lis l =>
    obtain ⟨a, vs, rfl, h1, r1⟩ := rd_lis rx
    refine ⟨!l.isEmpty, .inl ⟨vs, hK ▸ h1, ?_⟩, w, rfl⟩
    cases l with
    | nil => rw [r1.unnil]; rfl
    | cons _ _ => obtain ⟨_, _, rfl, _⟩ := r1.uncons; rfl
  | ref a =>
    cases rd_ref rx
    have w' : (match S a with
      | some (.lst xs) => P (!xs.isEmpty)
      | some (.dic kvs) => P (!kvs.isEmpty)
      | _ => False) := w
    cases ea : S a with
    | none => rw [ea] at w'; exact w'.elim
    | some o =>
      rw [ea] at w'
      cases o with
      | lst xs =>
        obtain ⟨vs, h1, r1⟩ := at_lst rh ea
        refine ⟨!xs.isEmpty, .inl ⟨vs, SqL.of h1, ?_⟩, w', ?_⟩
        · cases xs with
          | nil => rw [r1.unnil]; rfl
          | cons _ _ => obtain ⟨_, _, rfl, _⟩ := r1.uncons; rfl
        · simp only [wtru, ea]
      | dic kvs =>
        obtain ⟨ws, h1, e1, _⟩ := at_dic rh ea
        refine ⟨!kvs.isEmpty, .inr (.inr ⟨ws, h1, ?_⟩), w', ?_⟩
        · cases kvs with
          | nil => cases ws with
            | nil => rfl
            | cons _ _ => simp at e1
          | cons _ _ => cases ws with
            | nil => simp at e1
            | cons _ _ => rfl
        · simp only [wtru, ea]
      | _ => exact w'.elim
  | _ => exact (False.elim w)
theorem wtru_at {x : D} {k : Bool} {P : Bool → Prop} (h : wtru S x (fun b => b = k)) (w : wtru S x P) : P k := by
  unfold wtru at h w
  split at h <;> simp_all
  split at h <;> simp_all
theorem wtru_mk {x : D} {k : Bool} {P : Bool → Prop} (h : wtru S x (fun b => b = k)) (p : P k) : wtru S x P := by
  unfold wtru at h ⊢
  cases x with
  | ref a =>
    dsimp only at h ⊢
    cases ea : S a with
    | none => rw [ea] at h; exact h.elim
    | some o =>
      rw [ea] at h
      cases o with
      | lst xs => have h' : (!xs.isEmpty) = k := h; subst h'; exact p
      | dic xs => have h' : (!xs.isEmpty) = k := h; subst h'; exact p
      | _ => exact h.elim
  | str s => obtain ⟨h1, h2⟩ := h; subst h2; exact ⟨h1, p⟩
  | non => have h' : false = k := h; subst h'; exact p
  | bl b => have h' : b = k := h; subst h'; exact p
  | int i => have h' : (i != 0) = k := h; subst h'; exact p
  | tup l => have h' : (!l.isEmpty) = k := h; subst h'; exact p
  | lis l => have h' : (!l.isEmpty) = k := h; subst h'; exact p
  | _ => exact (False.elim h)
/-- a test's reading -/
def tT (N : Nm) (Z : Sta × Hp) (w : Wp) : TT := fun σ H Q => ∃ (ρ : Env) (S : Sta) (Qx : K), RS N H σ ρ ∧ RH N H S ∧ Fr Z.1 Z.2 S H ∧ w ρ S Qx ∧ ∀ x S' H', Fr S H S' H' → RH N H' S' → Qx x S' → wtru S' x fun k => Q k H'
theorem ptimp {e : Expr} {t t' : TT} (h : PT X e t) (i : ∀ σ H Q, t' σ H Q → t σ H Q) : PT X e t' := ⟨fun pins s σ H Q I q => h.run pins s σ H Q I (i σ H Q q)⟩
theorem pwimp {e : Expr} {t t' : TT} (h : PW X e t) (i : ∀ σ H Q, t' σ H Q → t σ H Q) : PW X e t' := ⟨fun wh pins s σ H Q I q => h.run wh pins s σ H Q I (i σ H Q q)⟩
/-- expressions whose test is their value's truth -/
def plainT : Expr → Bool
  | .Name _ _ => true
  | .Call _ _ _ _ => true
  | .Subscript _ _ _ => true
  | .Attribute _ _ _ => true
  | .Constant _ _ _ => true
  | .BinOp _ _ _ _ => true
  | .List _ _ => true
  | .Tuple _ _ _ => true
  | _ => false
theorem he_truth (hK : N.K = X.K) (h : PE X a (tOf N Z wa)) (pl : plainT a = true) : PT X a (tT N Z wa) := by
  have g : ∀ whole, isTrue a X.env whole = (do let v ← whole; standAt a.pos; holding [v] (truthy v)) := by
    cases a <;> first | (intro _; rfl) | cases pl
  refine ptimp (pt_truth h g) fun σ H Q t => ?_
  obtain ⟨ρ, S, Qx, rs, rh, fz, w, k⟩ := t
  refine ⟨ρ, S, _, rs, rh, fz, w, fun x S1 v H1 f h1 r q => ?_⟩
  obtain ⟨j, t1, p1, _⟩ := tru_of hK h1 r (k x S1 H1 f h1 q)
  exact ⟨j, t1, p1⟩
/-- an expression whose value is a bool -/
theorem ht_bl (h : PT X a (tTest (tOf N Z wa))) (hw : ∀ ρ S (Q : K), wa ρ S Q → wa ρ S fun d S' => (∃ b, d = .bl b) ∧ Q d S') : PT X a (tT N Z wa) := by
  refine ptimp h fun σ H Q t => ?_
  obtain ⟨ρ, S, Qx, rs, rh, fz, w, k⟩ := t
  refine ⟨ρ, S, _, rs, rh, fz, hw _ _ _ w, fun x S1 v H1 f h1 r ⟨⟨b, e⟩, q⟩ => ?_⟩
  subst e
  cases rd_bl r
  exact ⟨b, rfl, k _ S1 H1 f h1 q⟩

/-! ### names, constants -/
def hv (i : Nat) : Wp := fun ρ S Q => ∃ d, ρ[i]? = some (some d) ∧ Q d S
theorem he_v {i : Nat} {x : Str} (hx : ∀ r, N.xs = some r → r.1 ≠ i) (hN : X.N[i]? = some x) (hv' : Vis X.env.scope x) (hd : (x == ("__debug__" : Str)) = false) (hcd : (x == ("__classdict__" : Str)) = false) : PE X (.Name x pos) (tOf N Z (hv i)) :=
  pimp (pe_var hN hv' hd hcd) fun σ H Q ⟨ρ, S, Qh, rs, rh, fz, ⟨d, e, q⟩, k⟩ => let ⟨v, e2, r⟩ := rs.at hx e; ⟨v, e2, k.at rh r q⟩
def hc (d : D) : Wp := fun _ S Q => Q d S
theorem he_c {t : V} {d : D} (h : PE X e (tC t)) (r : ∀ H, RD N H d t) : PE X e (tOf N Z (hc d)) :=
  pimp h fun σ H Q ⟨ρ, S, Qh, rs, rh, fz, q, k⟩ => k.at rh (r H) q
theorem he_nev {w : Wp} (h : ∀ ρ S Q, ¬ w ρ S Q) : PE X e (tOf N Z w) := ⟨fun _ _ _ _ _ _ ⟨ρ, S, Qh, _, _, _, q, _⟩ => (h _ _ _ q).elim⟩
theorem ht_nev {w : Wp} (h : ∀ ρ S Q, ¬ w ρ S Q) : PT X e (tT N Z w) := ⟨fun _ _ _ _ _ _ ⟨ρ, S, Qh, _, _, _, q, _⟩ => (h _ _ _ q).elim⟩

/-! ### one operand -/
def gNeg : D → Sta → K → Prop := fun x S1 Q => match x with
    | .int i => Q (.int (-i)) S1
    | _ => False
theorem he_neg (ha : PE X a (tOf N Z wa)) : PE X (.UnaryOp .USub a pos) (tOf N Z fun ρ S Q => wa ρ S fun x S1 => gNeg x S1 Q) :=
  pimp (pe_un un_neg ha) fun σ H Q t => tOf.one (g := fun _ x S1 Q => gNeg x S1 Q) t fun ρ x S1 v H1 Qh rs rh fz r g k => by
    cases x with
    | int i => cases rd_int r; exact ⟨i, rfl, k.at rh mk_int g⟩
    | _ => exact (False.elim g)
theorem he_not (hK : N.K = X.K) (ha : PE X a (tOf N Z wa)) : PE X (.UnaryOp .Not a pos) (tOf N Z fun ρ S Q => wa ρ S fun x S1 => wtru S1 x fun b => Q (.bl (!b)) S1) :=
  pimp (pe_notT ha) fun σ H Q t => tOf.one (g := fun _ x S1 Q => wtru S1 x fun b => Q (.bl (!b)) S1) t fun ρ x S1 v H1 Qh rs rh fz r g k => by
    obtain ⟨j, t1, p1, _⟩ := tru_of hK rh r g
    exact ⟨j, t1, k.at rh mk_bl p1⟩
theorem wtru_some {x : D} {P : Bool → Prop} (w : wtru S x P) : ∃ k, P k ∧ wtru S x (fun b => b = k) := by
  cases x with
  | non => exact ⟨_, w, rfl⟩
  | bl b => exact ⟨_, w, rfl⟩
  | int i => exact ⟨_, w, rfl⟩
  | str s => exact ⟨_, w.2, w.1, rfl⟩
  | tup l => exact ⟨_, w, rfl⟩
  | lis l => exact ⟨_, w, rfl⟩
  | ref a =>
    unfold wtru at w ⊢
    dsimp only at w ⊢
    cases ea : S a with
    | none => rw [ea] at w; exact w.elim
    | some o =>
      rw [ea] at w
      cases o with
      | lst xs => exact ⟨_, w, rfl⟩
      | dic xs => exact ⟨_, w, rfl⟩
      | _ => exact w.elim
  | _ => exact (False.elim w)
theorem ht_not (ha : PT X a (tT N Z wa)) : PT X (.UnaryOp .Not a pos) (tT N Z fun ρ S Q => wa ρ S fun x S1 => wtru S1 x fun b => Q (.bl (!b)) S1) :=
  ptimp (pt_not ha) fun σ H Q ⟨ρ, S, Qx, rs, rh, fz, w, k⟩ => ⟨ρ, S, _, rs, rh, fz, w, fun x S' H' f h q => by
    obtain ⟨j, p, t⟩ := wtru_some q
    exact wtru_mk t (k _ S' H' f h p)⟩

/-! ### and, or -/
def hAnd (wa wb : Wp) : Wp := fun ρ S Q => wa ρ S fun x S1 => wtru S1 x fun c => if c = true then wb ρ S1 Q else Q x S1
def hOr (wa wb : Wp) : Wp := fun ρ S Q => wa ρ S fun x S1 => wtru S1 x fun c => if c = true then Q x S1 else wb ρ S1 Q
variable {r : List Expr}
theorem he_and (hK : N.K = X.K) (ha : PE X a (tOf N Z wa)) (hb : PE X (.BoolOp .And (b :: r) pos) (tOf N Z wb)) : PE X (.BoolOp .And (a :: b :: r) pos) (tOf N Z (hAnd wa wb)) :=
  pimp (pe_andT ha hb) fun σ H Q t => tOf.one (g := fun ρ x S1 Q => wtru S1 x fun c => if c = true then wb ρ S1 Q else Q x S1) t fun ρ x S1 v H1 Qh rs rh fz rx g k => by
    obtain ⟨j, t1, p1, _⟩ := tru_of hK rh rx g
    refine ⟨j, t1, ?_⟩
    cases j with
    | true => exact ⟨ρ, S1, Qh, rs, rh, fz, p1, k⟩
    | false => exact k.at rh rx p1
theorem he_or (hK : N.K = X.K) (ha : PE X a (tOf N Z wa)) (hb : PE X (.BoolOp .Or (b :: r) pos) (tOf N Z wb)) : PE X (.BoolOp .Or (a :: b :: r) pos) (tOf N Z (hOr wa wb)) :=
  pimp (pe_orT ha hb) fun σ H Q t => tOf.one (g := fun ρ x S1 Q => wtru S1 x fun c => if c = true then Q x S1 else wb ρ S1 Q) t fun ρ x S1 v H1 Qh rs rh fz rx g k => by
    obtain ⟨j, t1, p1, _⟩ := tru_of hK rh rx g
    refine ⟨j, t1, ?_⟩
    cases j with
    | false => exact ⟨ρ, S1, Qh, rs, rh, fz, p1, k⟩
    | true => exact k.at rh rx p1
theorem he_bool1 {o : BoolOp} (h : PE X a (tOf N Z wa)) : PE X (.BoolOp o [a] pos) (tOf N Z wa) := pe_one h
theorem hw_and1 (ha : PT X a (tT N Z wa)) : PW X (.BoolOp .And [a] pos) (tT N Z wa) := pw_and1 ha
theorem hw_or1 (ha : PT X a (tT N Z wa)) : PW X (.BoolOp .Or [a] pos) (tT N Z wa) := pw_or1 ha
theorem hw_and (ha : PT X a (tT N Z wa)) (hb : PW X (.BoolOp .And (b :: r) pos) (tT N Z wb)) : PW X (.BoolOp .And (a :: b :: r) pos) (tT N Z (hAnd wa wb)) :=
  pwimp (pw_and ha hb) fun σ H Q ⟨ρ, S, Qx, rs, rh, fz, w, k⟩ => ⟨ρ, S, _, rs, rh, fz, w, fun x S' H' f h q => by
    obtain ⟨j, p, t⟩ := wtru_some q
    refine wtru_mk t ?_
    cases j with
    | true => exact ⟨ρ, S', Qx, rs.mono (f.dle rh), h, fz.trans f, p, fun x S2 H2 f2 h2 q2 => k x S2 H2 (f.trans f2) h2 q2⟩
    | false => exact wtru_at t (k x S' H' f h p)⟩
theorem hw_or (ha : PT X a (tT N Z wa)) (hb : PW X (.BoolOp .Or (b :: r) pos) (tT N Z wb)) : PW X (.BoolOp .Or (a :: b :: r) pos) (tT N Z (hOr wa wb)) :=
  pwimp (pw_or ha hb) fun σ H Q ⟨ρ, S, Qx, rs, rh, fz, w, k⟩ => ⟨ρ, S, _, rs, rh, fz, w, fun x S' H' f h q => by
    obtain ⟨j, p, t⟩ := wtru_some q
    refine wtru_mk t ?_
    cases j with
    | false => exact ⟨ρ, S', Qx, rs.mono (f.dle rh), h, fz.trans f, p, fun x S2 H2 f2 h2 q2 => k x S2 H2 (f.trans f2) h2 q2⟩
    | true => exact wtru_at t (k x S' H' f h p)⟩
/-- a if t else b -/
def hIte (wt wa wb : Wp) : Wp := fun ρ S Q => wt ρ S fun x S1 => wtru S1 x fun c => if c = true then wa ρ S1 Q else wb ρ S1 Q
theorem he_ite (ht : PT X c (tT N Z wc)) (ha : PE X a (tOf N Z wa)) (hb : PE X b (tOf N Z wb)) : PE X (.IfExp c a b pos) (tOf N Z (hIte wc wa wb)) :=
  pimp (pe_ifExp ht ha hb) fun σ H Q ⟨ρ, S, Qh, rs, rh, fz, w, k⟩ => ⟨ρ, S, _, rs, rh, fz, w, fun x S' H' f h q => by
    obtain ⟨j, p, t⟩ := wtru_some q
    refine wtru_mk t ?_
    cases j with
    | true => exact ⟨ρ, S', Qh, rs.mono (f.dle rh), h, fz.trans f, p, k.step f⟩
    | false => exact ⟨ρ, S', Qh, rs.mono (f.dle rh), h, fz.trans f, p, k.step f⟩⟩

/-! ### comparisons -/
def hCmp (C : Orc) (o : Co) (wa wb : Wp) : Wp := fun ρ S Q => wa ρ S fun x S1 => wb ρ S1 fun y S2 => wcmp C o x y S2 fun r S3 => Q (.bl r) S3
theorem hCmp_bl {C : Orc} {o : Co} (ρ : Env) (S : Sta) (Q : K) (w : hCmp C o wa wb ρ S Q) : hCmp C o wa wb ρ S fun d S' => (∃ b, d = .bl b) ∧ Q d S' := by
  unfold hCmp at w ⊢
  simpa using w
theorem cmp_pe {C : Orc} {o : Co} (σ : L2.St) (H : Hp) (Q : VK) (t : tOf N Z (hCmp C o wa wb) σ H Q) : tOp (rCmp N C o) (tOf N Z wa) (tOf N Z wb) σ H Q :=
  tOf.two (g := fun x y S2 Q => wcmp C o x y S2 fun r S3 => Q (.bl r) S3) t fun x y S2 v u H2 Qh h rx ry g k => ⟨x, y, S2, Qh, h, rx, ry, g, k⟩
theorem he_cmp {C : Orc} {o : Co} (ho : OpR X (compareOp (coOp o)) (rCmp N C o)) (ha : PE X a (tOf N Z wa)) (hb : PE X b (tOf N Z wb)) (hm : behindInMarks (coOp o) b = false) : PE X (.Compare a [coOp o] [b] pos) (tOf N Z (hCmp C o wa wb)) :=
  pimp (pe_cmpR ho ha hb hm) cmp_pe
theorem ht_cmp {C : Orc} {o : Co} (ho : OpR X (compareOp (coOp o)) (rCmp N C o)) (ha : PE X a (tOf N Z wa)) (hb : PE X b (tOf N Z wb)) (hm : behindInMarks (coOp o) b = false) : PT X (.Compare a [coOp o] [b] pos) (tT N Z (hCmp C o wa wb)) :=
  ht_bl (ptimp (pt_cmpR ho ha hb hm) fun σ H Q t => cmp_pe σ H _ t) hCmp_bl
end
end A
end
section
set_option Elab.async false
set_option linter.all false
set_option maxRecDepth 100000
set_option maxHeartbeats 1000000
/-! A6: chains, displays, subscripts, slices, built-ins. -/
namespace A
open PySem L2 PyProof.Rows
section
variable {N : Nm} {Z : Sta × Hp} {X : Cx} {S S' S1 : Sta} {H H' H1 : Hp} {Q : VK} {Qh : K} {σ : L2.St} {ρ : Env} {pos : Pos} {a b c e : Expr} {wa wb wc : Wp}

/-! ### a op b op c -/
def hChn (C : Orc) (o o' : Co) (wa wb wc : Wp) : Wp := fun ρ S Q => wa ρ S fun x S1 => wb ρ S1 fun y S2 => wcmp C o x y S2 fun r S3 => if r = true then wc ρ S3 fun z S4 => wcmp C o' y z S4 fun r S5 => Q (.bl r) S5 else Q (.bl false) S3
theorem hChn_bl {C : Orc} {o o' : Co} (ρ : Env) (S : Sta) (Q : K) (w : hChn C o o' wa wb wc ρ S Q) : hChn C o o' wa wb wc ρ S fun d S' => (∃ b, d = .bl b) ∧ Q d S' := by
  unfold hChn at w ⊢
  simpa using w
theorem chn_pe {C : Orc} {o o' : Co} (σ : L2.St) (H : Hp) (Q : VK) (t : tOf N Z (hChn C o o' wa wb wc) σ H Q) : tChain (rCmp N C o) (rCmp N C o') (tOf N Z wa) (tOf N Z wb) (tOf N Z wc) σ H Q := by
  refine tOf.one (g := fun ρ x S1 Q => wb ρ S1 fun y S2 => wcmp C o x y S2 fun r S3 => if r = true then wc ρ S3 fun z S4 => wcmp C o' y z S4 fun r S5 => Q (.bl r) S5 else Q (.bl false) S3) t fun ρ x S1 v H1 Qh rs rh fz rx q k => ?_
  refine ⟨ρ, S1, _, rs, rh, fz, q, fun y S2 u H2 f h2 r2 q2 => ?_⟩
  refine ⟨x, y, S2, fun d S3 => ∃ b, d = .bl b ∧ if b = true then wc ρ S3 fun z S4 => wcmp C o' y z S4 fun r S5 => Qh (.bl r) S5 else Qh (.bl false) S3, h2, RD.mono (f.dle rh) _ _ rx, r2, by simpa using q2, fun d S3 v3 H3 f3 h3 r3 q3 => ?_⟩
  obtain ⟨j, e, q3⟩ := q3
  subst e
  cases rd_bl r3
  refine ⟨j, rfl, ?_⟩
  have k3 := (k.step f).step f3
  cases j with
  | true =>
    refine ⟨ρ, S3, _, (rs.mono (f.dle rh)).mono (f3.dle h2), h3, (fz.trans f).trans f3, q3, fun z S4 t H4 f4 h4 r4 q4 => ?_⟩
    exact ⟨y, z, S4, Qh, h4, RD.mono (f4.dle h3) _ _ (RD.mono (f3.dle h2) _ _ r2), r4, q4, k3.step f4⟩
  | false => exact k3.at h3 mk_bl q3
theorem he_chn {C : Orc} {o o' : Co} (ho : OpR X (compareOp (coOp o)) (rCmp N C o)) (ho' : OpR X (compareOp (coOp o')) (rCmp N C o')) (ha : PE X a (tOf N Z wa)) (hb : PE X b (tOf N Z wb)) (hc : PE X c (tOf N Z wc))
    (hm : lastMarks [coOp o, coOp o'] [b, c] = false) : PE X (.Compare a [coOp o, coOp o'] [b, c] pos) (tOf N Z (hChn C o o' wa wb wc)) :=
  pimp (pe_chain ho ho' ha hb hc hm) chn_pe
theorem ht_chn {C : Orc} {o o' : Co} (ho : OpR X (compareOp (coOp o)) (rCmp N C o)) (ho' : OpR X (compareOp (coOp o')) (rCmp N C o')) (ha : PE X a (tOf N Z wa)) (hb : PE X b (tOf N Z wb)) (hc : PE X c (tOf N Z wc))
    (hm : lastMarks [coOp o, coOp o'] [b, c] = false) : PT X (.Compare a [coOp o, coOp o'] [b, c] pos) (tT N Z (hChn C o o' wa wb wc)) :=
  ht_bl (ptimp (pt_chain ho ho' ha hb hc hm) fun σ H Q t => chn_pe σ H _ t) hChn_bl

/-! ### lists of expressions -/
abbrev Wps := Env → Sta → (List D → Sta → Prop) → Prop
def tA (N : Nm) (Z : Sta × Hp) (w : Wps) : TA := fun σ H Q => ∃ (ρ : Env) (S : Sta) (Ql : List D → Sta → Prop), RS N H σ ρ ∧ RH N H S ∧ Fr Z.1 Z.2 S H ∧ w ρ S Ql ∧ ∀ ds S' vs H', Fr S H S' H' → RH N H' S' → RDs N H' ds vs → Ql ds S' → Q vs H'
theorem paimp {es : List Expr} {t t' : TA} (h : PA X es t) (i : ∀ σ H Q, t' σ H Q → t σ H Q) : PA X es t' := ⟨fun p pins s σ H Q I q => h.run p pins s σ H Q I (i σ H Q q)⟩
/-- an argument that is none of the starred -/
def plainA : Expr → Bool
  | .Starred _ _ => false
  | _ => true
theorem starEach_plain {e : Expr} {es : List Expr} (env : PySem.Env) (h : plainA e = true) : starEach (e :: es) env = (false, eval e env) :: starEach es env := by
  cases e <;> first | rfl | cases h
theorem star_none {es : List Expr} (env : PySem.Env) (h : es.all plainA = true) : (backTo pos (starEach es env)).any (·.1) = false := by
  induction es with
  | nil => rfl
  | cons e es ih =>
    simp only [List.all_cons, Bool.and_eq_true] at h
    rw [starEach_plain env h.1]
    show (false || (backTo pos (starEach es env)).any (·.1)) = false
    rw [ih h.2]; rfl
theorem ha_nil : PA X [] (tA N Z fun _ S Q => Q [] S) := paimp pa_nil fun σ H Q ⟨ρ, S, Ql, rs, rh, fz, w, k⟩ => k [] S [] H Fr.refl rh .nil w
def hCons (wa : Wp) (wr : Wps) : Wps := fun ρ S Q => wa ρ S fun x S1 => wr ρ S1 fun ds S2 => Q (x :: ds) S2
theorem ha_cons {es : List Expr} {wr : Wps} (h : PE X e (tOf N Z wa)) (hr : PA X es (tA N Z wr)) (pl : plainA e = true) : PA X (e :: es) (tA N Z (hCons wa wr)) :=
  paimp (pa_cons h hr (starEach_plain _ pl)) fun σ H Q ⟨ρ, S, Ql, rs, rh, fz, w, k⟩ => ⟨ρ, S, _, rs, rh, fz, w, fun x S1 v H1 f h1 r q =>
    ⟨ρ, S1, _, rs.mono (f.dle rh), h1, fz.trans f, q, fun ds S2 vs H2 f2 h2 r2 q2 => k (x :: ds) S2 (v :: vs) H2 (f.trans f2) h2 (.cons (RD.mono (f2.dle h1) _ _ r) r2) q2⟩⟩
theorem he_tup {es : List Expr} {wr : Wps} {k : Nat} (h : PA X es (tA N Z wr)) : PE X (.Tuple es k pos) (tOf N Z fun ρ S Q => wr ρ S fun ds S1 => ds.length ≤ sizeLine ∧ Q (.tup ds) S1) :=
  pimp (pe_tup h) fun σ H Q ⟨ρ, S, Qh, rs, rh, fz, w, k⟩ => ⟨ρ, S, _, rs, rh, fz, w, fun ds S' vs H' f h' r ⟨q1, q2⟩ => ⟨by rw [← r.length]; exact q1, fun p n => (k.step f).newT h' n r q2⟩⟩
theorem he_lst {es : List Expr} {wr : Wps} (h : PA X es (tA N Z wr)) : PE X (.List es pos) (tOf N Z fun ρ S Q => wr ρ S fun ds S1 => ds.length ≤ sizeLine ∧ ∀ p, S1 p = none → Q (.ref p) (ups S1 p (.lst ds))) :=
  pimp (pe_lst h) fun σ H Q ⟨ρ, S, Qh, rs, rh, fz, w, k⟩ => ⟨ρ, S, _, rs, rh, fz, w, fun ds S' vs H' f h' r ⟨q1, q2⟩ => ⟨by rw [← r.length]; exact q1, fun p n => (k.step f).newL h' n r q2⟩⟩

/-! ### subscripts -/
theorem ix_dict (hu : X.A.units + 1 < cLine) : IxR X (fun x y H Q => ∃ p v, x = .ref p ∧ DGet H p y (some v) ∧ Q v H) := by
  intro value slice pins s σ H x y v u Q I rx ry h hs
  obtain ⟨p, d, rfl, g, q⟩ := h
  cases rx
  exact tail_any (dict_typeIs I g) PySem.F.slot_dict_getitem.lookup (d_getItem hu I g ry fun w' s' I' r' => ⟨d, H, I', r', q⟩) hs
def rIxA (N : Nm) : R2 := fun v u H Q => ∃ x y S Qh, RH N H S ∧ RD N H x v ∧ RD N H y u ∧ wix x y S Qh ∧ Kn N S H Qh Q
theorem rds_at {ds : List D} {vs : List V} {i : Int} {d : D} (r : RDs N H ds vs) (e : L2.atI ds i = some d) : ∃ v, L2.atI vs i = some v ∧ RD N H d v := by
  unfold L2.atI at e ⊢
  rw [← r.length]
  cases h : ixN ds.length i with
  | none => rw [h] at e; cases e
  | some j =>
    rw [h] at e
    exact r.get e
theorem ix_all (hK : N.K = X.K) (hu : X.A.units + 1 < cLine) : ∀ v u H Q, rIxA N v u H Q → (rIx X.K v u H Q ∨ ∃ p d, v = .ref p ∧ DGet H p u (some d) ∧ Q d H) := by
  rintro v u H Q ⟨x, y, S, Qh, rh, rx, ry, w, k⟩
  have dic : ∀ a kvs, x = .ref a → (S a = some (.dic kvs) ∨ S a = some (.dicF kvs)) → (∃ k d, keyD y = some k ∧ kget kvs k = some d ∧ Qh d S) → ∃ p d, v = .ref p ∧ DGet H p u (some d) ∧ Q d H := fun a kvs e hs ⟨key, d, h1, h2, q⟩ => by
    subst e
    cases rd_ref rx
    obtain ⟨o, g, z⟩ := dget_of rh hs key
    rcases z with ⟨z, _⟩ | ⟨d', v', z1, z2, z3⟩
    · rw [z] at h2; cases h2
    · rw [z1] at h2; cases h2
      rw [key_rd h1 ry]
      subst z2
      exact ⟨a, v', rfl, g, k.at rh z3 q⟩
  cases x with
  | tup l =>
    cases y with
    | int i =>
      cases rd_int ry
      obtain ⟨a, vs, rfl, h1, r1⟩ := rd_tup rx
      obtain ⟨d, e, q⟩ := w
      obtain ⟨v, e', r'⟩ := rds_at r1 e
      exact .inl (.inr (.inl ⟨a, vs, i, v, rfl, rfl, hK ▸ h1, e', k.at rh r' q⟩))
    | _ => exact (False.elim w)
  | lis l =>
    cases y with
    | int i =>
      cases rd_int ry
      obtain ⟨a, vs, rfl, h1, r1⟩ := rd_lis rx
      obtain ⟨d, e, q⟩ := w
      obtain ⟨v, e', r'⟩ := rds_at r1 e
      exact .inl (.inl ⟨a, vs, i, v, rfl, rfl, hK ▸ h1, e', k.at rh r' q⟩)
    | _ => exact (False.elim w)
  | str z =>
    cases y with
    | int i =>
      cases rd_int ry; cases rd_str rx
      obtain ⟨h1, n, e, q⟩ := w
      exact .inl (.inr (.inr ⟨z, i, n, rfl, rfl, h1, e, k.at rh mk_str q⟩))
    | _ => exact (False.elim w)
  | ref a =>
    cases ea : S a with
    | none => simp only [wix, ea] at w
    | some o =>
      cases o with
      | lst l =>
        simp only [wix, ea] at w
        cases y with
        | int i =>
          cases rd_int ry; cases rd_ref rx
          obtain ⟨vs, h1, r1⟩ := at_lst rh ea
          obtain ⟨d, e, q⟩ := w
          obtain ⟨v, e', r'⟩ := rds_at r1 e
          exact .inl (.inl ⟨a, vs, i, v, rfl, rfl, SqL.of h1, e', k.at rh r' q⟩)
        | _ => exact (False.elim w)
      | dic kvs => simp only [wix, ea] at w; exact .inr (dic a kvs rfl (.inl ea) w)
      | dicF kvs => simp only [wix, ea] at w; exact .inr (dic a kvs rfl (.inr ea) w)
      | _ => simp only [wix, ea] at w
  | _ => exact (False.elim w)
theorem ix_A (hK : N.K = X.K) (hu : X.A.units + 1 < cLine) : IxR X (rIxA N) := fun value slice pins s σ H x y v u Q I rx ry h hs =>
  (ix_seq.or (ix_dict hu)) value slice pins s σ H x y v u Q I rx ry (ix_all hK hu x y H Q h) hs
/-- what may stand as an index -/
def plainIx : Expr → Bool
  | .Slice _ _ _ _ => false
  | _ => true
theorem plainIx_ok {e : Expr} (h : plainIx e = true) : PlainIx e := by
  intro o i
  cases e <;> first | rfl | cases h
theorem he_ix (hK : N.K = X.K) (hu : X.A.units + 1 < cLine) (ha : PE X a (tOf N Z wa)) (hb : PE X b (tOf N Z wb)) (pl : plainIx b = true) : PE X (.Subscript a b pos) (tOf N Z fun ρ S Q => wa ρ S fun x S1 => wb ρ S1 fun y S2 => wix x y S2 Q) :=
  pimp (pe_ix (ix_A hK hu) ha hb (plainIx_ok pl)) fun σ H Q t => tOf.two t fun x y S2 v u H2 Qh h rx ry g k => ⟨x, y, S2, Qh, h, rx, ry, g, k⟩

/-! ### slices -/
theorem cutD_rds {ds : List D} {vs : List V} {l h : Option Int} (r : RDs N H ds vs) : RDs N H (cutD ds l h) (cutV vs l h) := by
  unfold cutD cutV
  rw [← r.length]
  exact (r.drop _).take _
theorem cutD_whole {ds : List D} {l h : Option Int} (h1 : HT.sIx ds.length 0 l = 0) (h2 : HT.sIx ds.length ds.length h = ds.length) : cutD ds l h = ds := by
  unfold cutD
  rw [h1, h2]
  simp
/-- an end of a slice: an expression, or none -/
abbrev We := Env → Sta → (Option Int → Sta → Prop) → Prop
def tEnd (N : Nm) (Z : Sta × Hp) (w : We) : TO := fun σ H Q => ∃ (ρ : Env) (S : Sta) (Qe : Option Int → Sta → Prop), RS N H σ ρ ∧ RH N H S ∧ Fr Z.1 Z.2 S H ∧ w ρ S Qe ∧ ∀ i S' H', Fr S H S' H' → RH N H' S' → Qe i S' → Q i H'
theorem ho_none : PO X none (tEnd N Z fun _ S Q => Q none S) := ⟨fun pins s σ H Q I ⟨ρ, S, Qe, rs, rh, fz, w, k⟩ => po_none.run pins s σ H Q I (k _ _ _ Fr.refl rh w)⟩
theorem ho_some (h : PE X e (tOf N Z wa)) : PO X (some e) (tEnd N Z fun ρ S Q => wa ρ S fun d S1 => ∃ i, d = .int i ∧ Q (some i) S1) := ⟨fun pins s σ H Q I ⟨ρ, S, Qe, rs, rh, fz, w, k⟩ => by
  refine (po_some h).run pins s σ H Q I ⟨ρ, S, _, rs, rh, fz, w, fun d S' v H' f h' r q => ?_⟩
  obtain ⟨i, e, q⟩ := q
  subst e
  cases rd_int r
  exact ⟨i, rfl, k _ _ _ f h' q⟩⟩
def rSlW (N : Nm) : V → Option Int → Option Int → Hp → VK → Prop := fun v l h H Q => ∃ x S Qh, RH N H S ∧ RD N H x v ∧ Kn N S H Qh Q ∧ wsl x l h S Qh
theorem sl_A (hK : N.K = X.K) : SlR X (rSlW N) := by
  have base := sl_list (X := X) |>.or (sl_tupA (X := X) |>.or (sl_str (X := X)))
  intro pins s σ H v vv vl vu lo hi sl Q I rv hs pl pu h
  refine base pins s σ H v vv vl vu lo hi sl Q I rv hs pl pu ?_
  obtain ⟨x, S, Qh, rh, rx, k, w⟩ := h
  cases x with
  | tup xs =>
    obtain ⟨a, vs, rfl, h1, r1⟩ := rd_tup rx
    refine .inr (.inl ⟨a, vs, rfl, hK ▸ h1, fun ⟨z1, z2⟩ => ?_, fun _ p n => k.newT rh n (cutD_rds r1) w⟩)
    rw [← r1.length] at z1 z2
    have w' : Qh (.tup (cutD xs lo hi)) S := w
    rw [cutD_whole z1 z2] at w'
    exact k.at rh rx w'
  | lis xs =>
    obtain ⟨a, vs, rfl, h1, r1⟩ := rd_lis rx
    exact .inl ⟨a, vs, rfl, hK ▸ h1, fun p n => k.newL rh n (cutD_rds r1) w⟩
  | str z =>
    cases rd_str rx
    exact .inr (.inr ⟨z, rfl, w.1, k.at rh mk_str w.2⟩)
  | ref a =>
    cases rd_ref rx
    simp only [wsl] at w
    cases ea : S a with
    | none => rw [ea] at w; exact w.elim
    | some o =>
      rw [ea] at w
      cases o with
      | lst xs =>
        obtain ⟨vs, h1, r1⟩ := at_lst rh ea
        exact .inl ⟨a, vs, rfl, SqL.of h1, fun p n => k.newL rh n (cutD_rds r1) w⟩
      | _ => exact w.elim
  | _ => exact (False.elim w)
def hSl (wa : Wp) (wl wh : We) : Wp := fun ρ S Q => wa ρ S fun x S1 => wl ρ S1 fun l S2 => wh ρ S2 fun h S3 => wsl x l h S3 Q
theorem he_sl (hK : N.K = X.K) {lo hi : Option Expr} {wl wh : We} {p2 : Pos} (ha : PE X a (tOf N Z wa)) (hl : PO X lo (tEnd N Z wl)) (hh : PO X hi (tEnd N Z wh)) : PE X (.Subscript a (.Slice lo hi none p2) pos) (tOf N Z (hSl wa wl wh)) :=
  pimp (pe_slice (sl_A hK) ha hl hh) fun σ H Q t => by
    refine tOf.one (g := fun ρ x S1 Q => wl ρ S1 fun l S2 => wh ρ S2 fun h S3 => wsl x l h S3 Q) t fun ρ x S1 v H1 Qh rs rh fz rx q k => ?_
    refine ⟨ρ, S1, _, rs, rh, fz, q, fun l S2 H2 f h2 q2 => ?_⟩
    refine ⟨ρ, S2, _, rs.mono (f.dle rh), h2, fz.trans f, q2, fun h S3 H3 f3 h3 q3 => ?_⟩
    exact ⟨x, S3, Qh, h3, RD.mono (f3.dle h2) _ _ (RD.mono (f.dle rh) _ _ rx), (k.step f).step f3, q3⟩
end
end A
end
section
set_option Elab.async false
set_option linter.all false
set_option maxRecDepth 100000
set_option maxHeartbeats 1000000
/-! A7: built-in functions and methods, isinstance. -/
namespace A
open PySem L2 PyProof.Rows
section
variable {N : Nm} {Z : Sta × Hp} {X : Cx} {S S' S1 : Sta} {H H' H1 : Hp} {Q : VK} {Qh : K} {σ : L2.St} {ρ : Env} {pos p : Pos} {a b c e : Expr} {wa wb wc : Wp}

theorem cimp {f : Value} {r r' : List V → Hp → VK → Prop} (h : CallR X f r) (i : ∀ xs H Q, r' xs H Q → r xs H Q) : CallR X f r' := fun pins s σ H xs us Q I rs q => h pins s σ H xs us Q I rs (i xs H Q q)
/-- a built-in function, or a built-in type -/
inductive BF (f : Value) : Prop where
  | fn (id : String) (h : f = .builtin id)
  | ty (T : String) (h : f = .type T)
theorem pe_callF {f : Value} {r : List V → Hp → VK → Prop} {x : Str} {es : List Expr} {t : TA} (hc : CallR X f r) (hf : BF f) (hg : Gl X x) (hm : X.mg x = none) (hv : bootBuiltins x = some f) (hn : x ≠ "__name__") (hdb : (x == ("__debug__" : Str)) = false)
    (ha : PA X (e :: es) t) (pl : (e :: es).all plainA = true) : PE X (.Call (.Name x p) (e :: es) [] pos) (tCB r t) := by
  simp only [List.all_cons, Bool.and_eq_true] at pl
  rcases hf with ⟨id, rfl⟩ | ⟨T, rfl⟩
  · exact pe_callB hc hg hm hv ha hn hdb (starEach_plain _ pl.1) (star_none _ pl.2)
  · exact pe_callTy hc hg hm hv ha hn hdb (starEach_plain _ pl.1) (star_none _ pl.2)

/-! ### built-ins of one value -/
def rB1 (N : Nm) (C : Orc) (o : B1) : List V → Hp → VK → Prop := fun vs H Q => ∃ x v S Qh, vs = [v] ∧ RH N H S ∧ RD N H x v ∧ wb1 C o x S Qh ∧ Kn N S H Qh Q
/-- an instance's own method behind a built-in -/
def rOwnB (N : Nm) (C : Orc) (m : Nat) : List V → Hp → VK → Prop := fun vs H Q => ∃ a c fs S Qh, vs = [.ref a] ∧ RH N H S ∧ S a = some (.ins c fs) ∧ C (mth c m) [.ref a] S Qh (fun _ _ => False) ∧ Kn N S H Qh Q
def bval : B1 → Value
  | .len => .builtin "len" | .int => .type "int" | .str => .type "str" | .repr => .builtin "repr" | .list => .type "list" | .tuple => .type "tuple"
  | .sum => .builtin "sum" | .max => .builtin "max" | .min => .builtin "min" | .all => .builtin "all" | .any => .builtin "any" | .sorted => .builtin "sorted" | .dict => .type "dict" | .bool => .type "bool"
  | .minD => .none | .setlen => .none | .setsorted => .none
def bname : B1 → Str
  | .len => "len" | .int => "int" | .str => "str" | .repr => "repr" | .list => "list" | .tuple => "tuple"
  | .sum => "sum" | .max => "max" | .min => "min" | .all => "all" | .any => "any" | .sorted => "sorted" | .dict => "dict" | .bool => "bool"
  | .minD => "" | .setlen => "" | .setsorted => ""
/-- those that are done -/
def b1ok : B1 → Bool
  | .len | .int | .str | .repr | .list | .tuple | .sum | .max | .min | .all | .any | .dict => true
  | _ => false
theorem rds_ints : ∀ {ds : List D} {vs : List V} {ns : List Int}, RDs N H ds vs → intsOf ds = some ns → vs = ns.map V.int
  | [], _, _, r, e => by cases e; exact r.unnil
  | d :: ds, vs, ns, r, e => by
    obtain ⟨v, t, rfl, h1, h2⟩ := r.uncons
    cases d with
    | int i =>
      simp only [intsOf, Option.map_eq_some_iff] at e
      obtain ⟨ms, e1, rfl⟩ := e
      cases rd_int h1
      rw [rds_ints h2 e1, List.map_cons]
    | _ => cases e
theorem rds_bls : ∀ {ds : List D} {vs : List V} {ns : List Bool}, RDs N H ds vs → bsOf ds = some ns → vs = ns.map V.bl
  | [], _, _, r, e => by cases e; exact r.unnil
  | d :: ds, vs, ns, r, e => by
    obtain ⟨v, t, rfl, h1, h2⟩ := r.uncons
    cases d with
    | bl i =>
      simp only [bsOf, Option.map_eq_some_iff] at e
      obtain ⟨ms, e1, rfl⟩ := e
      cases rd_bl h1
      rw [rds_bls h2 e1, List.map_cons]
    | _ => cases e
theorem rds_strs : ∀ {ds : List D} {vs : List V} {ns : List Str}, RDs N H ds vs → strsOf ds = some ns → vs = ns.map V.str
  | [], _, _, r, e => by cases e; exact r.unnil
  | d :: ds, vs, ns, r, e => by
    obtain ⟨v, t, rfl, h1, h2⟩ := r.uncons
    cases d with
    | str i =>
      simp only [strsOf, Option.map_eq_some_iff] at e
      obtain ⟨ms, e1, rfl⟩ := e
      cases rd_str h1
      rw [rds_strs h2 e1, List.map_cons]
    | _ => cases e
theorem itemsL_at (hK : N.K = X.K) (rh : RH N H S) {x : D} {v : V} {xs : List D} (r : RD N H x v) (e : itemsL S x = some xs) : ∃ a vs, v = .ref a ∧ SqL X.K H a vs ∧ RDs N H xs vs := by
  cases x with
  | lis l => cases e; obtain ⟨a, vs, rfl, h1, r1⟩ := rd_lis r; exact ⟨a, vs, rfl, hK ▸ h1, r1⟩
  | ref a =>
    cases rd_ref r
    simp only [itemsL] at e
    cases ea : S a with
    | none => rw [ea] at e; cases e
    | some o =>
      rw [ea] at e
      cases o with
      | lst l => cases e; obtain ⟨vs, h1, r1⟩ := at_lst rh ea; exact ⟨a, vs, rfl, SqL.of h1, r1⟩
      | _ => cases e
  | _ => cases e
theorem itemsT_at (hK : N.K = X.K) (rh : RH N H S) {x : D} {v : V} {xs : List D} (r : RD N H x v) (e : itemsT S x = some xs) : ∃ a vs, v = .ref a ∧ (SqL X.K H a vs ∨ (SqT X.K H a vs ∧ x = .tup xs)) ∧ RDs N H xs vs := by
  have base : itemsL S x = some xs → ∃ a vs, v = .ref a ∧ (SqL X.K H a vs ∨ (SqT X.K H a vs ∧ x = .tup xs)) ∧ RDs N H xs vs := fun e => by
    obtain ⟨a, vs, h1, h2, h3⟩ := itemsL_at hK rh r e
    exact ⟨a, vs, h1, .inl h2, h3⟩
  cases x with
  | tup l => cases e; obtain ⟨a, vs, rfl, h1, r1⟩ := rd_tup r; exact ⟨a, vs, rfl, .inr ⟨hK ▸ h1, rfl⟩, r1⟩
  | _ => exact base e
theorem maxI_spec : ∀ {ns : List Int}, 0 < ns.length → maxI ns ∈ ns ∧ ∀ y, y ∈ ns → y ≤ maxI ns
  | [], h => by simp at h
  | [a], _ => by simp [maxI]
  | a :: b :: r, _ => by
    obtain ⟨h1, h2⟩ := maxI_spec (ns := b :: r) (by simp)
    simp only [maxI]
    generalize hm : maxI (b :: r) = m at h1 h2
    refine ⟨?_, fun y hy => ?_⟩
    · rcases Int.le_total a m with z | z
      · rw [Int.max_eq_right z]; exact List.mem_cons_of_mem _ h1
      · rw [Int.max_eq_left z]; exact List.mem_cons_self
    · rcases List.mem_cons.mp hy with rfl | hy
      · exact Int.le_max_left _ _
      · exact Int.le_trans (h2 y hy) (Int.le_max_right _ _)
theorem minI_spec : ∀ {ns : List Int}, 0 < ns.length → minI ns ∈ ns ∧ ∀ y, y ∈ ns → minI ns ≤ y
  | [], h => by simp at h
  | [a], _ => by simp [minI]
  | a :: b :: r, _ => by
    obtain ⟨h1, h2⟩ := minI_spec (ns := b :: r) (by simp)
    simp only [minI]
    generalize hm : minI (b :: r) = m at h1 h2
    refine ⟨?_, fun y hy => ?_⟩
    · rcases Int.le_total a m with z | z
      · rw [Int.min_eq_left z]; exact List.mem_cons_self
      · rw [Int.min_eq_right z]; exact List.mem_cons_of_mem _ h1
    · rcases List.mem_cons.mp hy with rfl | hy
      · exact Int.min_le_left _ _
      · exact Int.le_trans (Int.min_le_right _ _) (h2 y hy)
/-- the instances' own methods behind operators and built-ins -/
structure OwnOk (N : Nm) (C : Orc) (X : Cx) : Prop where
  eq : OpR X (compareOp .Eq) (rOwn N C false)
  ne : OpR X (compareOp .NotEq) (rOwn N C true)
  len : CallR X (.builtin "len") (rOwnB N C mLen)
  str : CallR X (.type "str") (rOwnB N C mStr)
  repr : CallR X (.builtin "repr") (rOwnB N C mRepr)
theorem kput_rel {k : Key} {d : D} {v : V} (r : RD N H d v) : ∀ {kvs : List (Key × D)} {ws : List (Key × V)}, ws.map (·.1) = kvs.map (·.1) → RDs N H (kvs.map (·.2)) (ws.map (·.2)) →
    (putK ws k v).map (·.1) = (kput kvs k d).map (·.1) ∧ RDs N H ((kput kvs k d).map (·.2)) ((putK ws k v).map (·.2)) := by
  have anyEq : ∀ {kvs : List (Key × D)} {ws : List (Key × V)}, ws.map (·.1) = kvs.map (·.1) → (ws.any fun q => decide (q.1 = k)) = (kvs.any fun q => decide (q.1 = k)) := fun {kvs ws} e => by
    have h1 : (ws.any fun q => decide (q.1 = k)) = (ws.map (·.1)).any fun x => decide (x = k) := by rw [List.any_map]; rfl
    have h2 : (kvs.any fun q => decide (q.1 = k)) = (kvs.map (·.1)).any fun x => decide (x = k) := by rw [List.any_map]; rfl
    rw [h1, h2, e]
  have mp : ∀ {kvs : List (Key × D)} {ws : List (Key × V)}, ws.map (·.1) = kvs.map (·.1) → RDs N H (kvs.map (·.2)) (ws.map (·.2)) →
      (ws.map fun q => if q.1 = k then (q.1, v) else q).map (·.1) = (kvs.map fun q => if q.1 = k then (q.1, d) else q).map (·.1) ∧ RDs N H ((kvs.map fun q => if q.1 = k then (q.1, d) else q).map (·.2)) ((ws.map fun q => if q.1 = k then (q.1, v) else q).map (·.2)) := fun {kvs} => by
    induction kvs with
    | nil => intro ws e h; cases ws with
      | nil => exact ⟨rfl, .nil⟩
      | cons _ _ => simp at e
    | cons x xs ih => intro ws e h; cases ws with
      | nil => simp at e
      | cons y ys =>
        simp only [List.map_cons, List.cons.injEq] at e
        have h : RDs N H (x.2 :: xs.map (·.2)) (y.2 :: ys.map (·.2)) := h
        obtain ⟨_, _, e2, h1, h2⟩ := h.uncons
        cases e2
        obtain ⟨i1, i2⟩ := ih e.2 h2
        by_cases hk : x.1 = k
        · have hk' : y.1 = k := e.1.trans hk
          simp only [List.map_cons, hk, hk', if_true]
          exact ⟨congrArg _ i1, .cons r i2⟩
        · have hk' : ¬ y.1 = k := fun z => hk (e.1.symm.trans z)
          simp only [List.map_cons, hk, hk', if_false]
          exact ⟨by rw [e.1, i1], .cons h1 i2⟩
  intro kvs ws e h
  unfold putK kput
  rw [anyEq e]
  split
  · exact mp e h
  · rw [List.map_append, List.map_append, List.map_append, List.map_append, e]
    exact ⟨rfl, h.append (.cons r .nil)⟩
theorem kmerge_rel : ∀ {ps : List (Key × D)} {rs : List (Key × V)} {kvs : List (Key × D)} {ws : List (Key × V)}, rs.map (·.1) = ps.map (·.1) → RDs N H (ps.map (·.2)) (rs.map (·.2)) → ws.map (·.1) = kvs.map (·.1) → RDs N H (kvs.map (·.2)) (ws.map (·.2)) →
    (mergeK ws rs).map (·.1) = (kmerge kvs ps).map (·.1) ∧ RDs N H ((kmerge kvs ps).map (·.2)) ((mergeK ws rs).map (·.2))
  | [], rs, kvs, ws, e, r, e2, r2 => by
    cases rs with
    | nil => exact ⟨e2, r2⟩
    | cons _ _ => simp at e
  | p :: ps, rs, kvs, ws, e, r, e2, r2 => by
    cases rs with
    | nil => simp at e
    | cons q rs =>
      simp only [List.map_cons, List.cons.injEq] at e
      obtain ⟨v, t, h1, h2, h3⟩ := RDs.uncons (show RDs N H (p.2 :: ps.map (·.2)) (q.2 :: rs.map (·.2)) from r)
      cases h1
      obtain ⟨g1, g2⟩ := kput_rel (k := p.1) h2 e2 r2
      have := kmerge_rel (ps := ps) (rs := rs) e.2 h3 g1 g2
      unfold mergeK kmerge at this ⊢
      rw [List.foldl_cons, List.foldl_cons, e.1]
      exact this
/-- the pairs of a list, as they stand -/
theorem pairs_at (hK : N.K = X.K) : ∀ {xs : List D} {vs : List V} {ps : List (Key × D)}, RDs N H xs vs → pairsOf xs = some ps →
    ∃ (as : List Addr) (rs : List (Key × V)), vs = as.map V.ref ∧ Paired (fun p kv => SqT X.K H p [kV kv.1, kv.2]) as rs ∧ rs.map (·.1) = ps.map (·.1) ∧ RDs N H (ps.map (·.2)) (rs.map (·.2))
  | [], vs, ps, r, e => by
    simp only [pairsOf, Option.some.injEq] at e
    subst e
    rw [r.unnil]
    exact ⟨[], [], rfl, .nil, rfl, .nil⟩
  | x :: xs, vs, ps, r, e => by
    obtain ⟨v, t, rfl, h1, h2⟩ := r.uncons
    unfold pairsOf at e
    split at e
    · cases ‹x :: xs = []›
    · rename_i k d r' hx
      obtain ⟨rfl, rfl⟩ := List.cons.inj hx
      cases ek : keyD k with
      | none => rw [ek] at e; cases e
      | some key =>
        cases er : pairsOf xs with
        | none => rw [ek, er] at e; cases e
        | some qs =>
          rw [ek, er] at e
          cases e
          obtain ⟨a, ws, rfl, h3, h4⟩ := rd_tup h1
          obtain ⟨w1, t1, rfl, h5, h6⟩ := h4.uncons
          obtain ⟨w2, t2, rfl, h7, h8⟩ := h6.uncons
          rw [h8.unnil] at h3
          obtain ⟨as, rs, rfl, g1, g2, g3⟩ := pairs_at hK h2 er
          have := key_rd ek h5
          subst this
          exact ⟨a :: as, (key, w2) :: rs, rfl, .cons (hK ▸ h3) g1, by simp [g2], .cons h7 g3⟩
    · cases e
/-- what may be called while an error is handled -/
def hotB : B1 → Bool
  | .list | .sum | .max | .min | .all | .any | .dict | .minD => false
  | _ => true
theorem cr_b1 {C : Orc} (hK : N.K = X.K) (O : OwnOk N C X) : ∀ o, b1ok o = true → (hotB o = false → X.calm = true) → CallR X (bval o) (rB1 N C o)
  | .len, _, hc => cimp (call_len.or (call_lenD.or O.len)) fun vs H Q ⟨x, v, S, Qh, e, rh, r, w, k⟩ => by
    subst e
    cases x with
    | str s => cases rd_str r; exact .inl ⟨_, _, rfl, ⟨w.1, rfl⟩, k.at rh mk_int w.2⟩
    | tup l => obtain ⟨a, ws, rfl, h1, r1⟩ := rd_tup r; exact .inl ⟨_, ws.length, rfl, .inr ⟨ws, hK ▸ h1, rfl⟩, k.at rh mk_int (r1.length ▸ w)⟩
    | lis l => obtain ⟨a, ws, rfl, h1, r1⟩ := rd_lis r; exact .inl ⟨_, ws.length, rfl, .inl ⟨ws, hK ▸ h1, rfl⟩, k.at rh mk_int (r1.length ▸ w)⟩
    | ref a =>
      cases rd_ref r
      simp only [wb1] at w
      cases ea : S a with
      | none => rw [ea] at w; exact w.elim
      | some ob =>
        rw [ea] at w
        cases ob with
        | lst l => obtain ⟨ws, h1, r1⟩ := at_lst rh ea; exact .inl ⟨_, ws.length, rfl, .inl ⟨ws, SqL.of h1, rfl⟩, k.at rh mk_int (r1.length ▸ w)⟩
        | dic l =>
          obtain ⟨ws, h1, e1, r1⟩ := at_dic rh ea
          have hl : l.length = ws.length := by have := congrArg List.length e1; simpa using this.symm
          exact .inr (.inl ⟨a, ws, rfl, h1, k.at rh mk_int (hl ▸ w)⟩)
        | ins c fs => exact .inr (.inr ⟨a, c, fs, S, _, rfl, rh, ea, w, fun d S' v H' f h' r' ⟨n, _, q⟩ => k d S' v H' f h' r' q⟩)
        | _ => exact w.elim
    | _ => exact (False.elim w)
  | .int, _, hc => cimp (call_int1.or call_int_str) fun vs H Q ⟨x, v, S, Qh, e, rh, r, w, k⟩ => by
    subst e
    cases x with
    | int i => cases rd_int r; exact .inl (.inl ⟨i, rfl, k.at rh mk_int w⟩)
    | bl i => cases rd_bl r; exact .inl (.inr ⟨i, rfl, k.at rh mk_int w⟩)
    | str i => cases rd_str r; obtain ⟨n, h1, h2, q⟩ := w; exact .inr ⟨i, n, rfl, h1, h2, k.at rh mk_int q⟩
    | _ => exact (False.elim w)
  | .str, _, hc => cimp (call_str_int.or (SkE.call_str_str.or O.str)) fun vs H Q ⟨x, v, S, Qh, e, rh, r, w, k⟩ => by
    subst e
    cases x with
    | int i => cases rd_int r; exact .inl ⟨i, rfl, w.1, k.at rh mk_str w.2⟩
    | str i => cases rd_str r; exact .inr (.inl ⟨i, rfl, k.at rh mk_str w.2⟩)
    | ref a =>
      cases rd_ref r
      simp only [wb1] at w
      cases ea : S a with
      | none => rw [ea] at w; exact w.elim
      | some ob =>
        rw [ea] at w
        cases ob with
        | ins c fs => exact .inr (.inr ⟨a, c, fs, S, _, rfl, rh, ea, w, fun d S' v H' f h' r' ⟨n, _, q⟩ => k d S' v H' f h' r' q⟩)
        | _ => exact w.elim
    | _ => exact (False.elim w)
  | .repr, _, hc => cimp O.repr fun vs H Q ⟨x, v, S, Qh, e, rh, r, w, k⟩ => by
    subst e
    cases x with
    | ref a =>
      cases rd_ref r
      simp only [wb1] at w
      cases ea : S a with
      | none => rw [ea] at w; exact w.elim
      | some ob =>
        rw [ea] at w
        cases ob with
        | ins c fs => exact ⟨a, c, fs, S, _, rfl, rh, ea, w, fun d S' v H' f h' r' ⟨n, _, q⟩ => k d S' v H' f h' r' q⟩
        | _ => exact w.elim
    | _ => exact (False.elim w)
  | .list, _, hc => cimp (call_list_of.or (call_listD (hc rfl))) fun vs H Q ⟨x, v, S, Qh, e, rh, r, w, k⟩ => by
    subst e
    obtain ⟨xs, e1, q⟩ := w
    have dict : ∀ (a : Addr) (kvs : List (Key × D)) (ws : List (Key × V)), ws.map (·.1) = kvs.map (·.1) → RDs N H (kvs.map fun p => dKey p.1) (ws.map fun kv => kV kv.1) := fun a kvs ws e => by
      have h : ∀ ks : List Key, RDs N H (ks.map dKey) (ks.map kV) := fun ks => by
        induction ks with
        | nil => exact .nil
        | cons y ys ih => cases y with
          | inl i => exact .cons mk_int ih
          | inr i => exact .cons mk_str ih
      have e3 : (kvs.map fun p => dKey p.1) = (ws.map (·.1)).map dKey := by rw [e, List.map_map]; rfl
      rw [e3]
      have e4 : (ws.map fun kv => kV kv.1) = (ws.map (·.1)).map kV := by rw [List.map_map]; rfl
      rw [e4]
      exact h _
    cases x with
    | tup l => cases e1; obtain ⟨a, ws, rfl, h1, r1⟩ := rd_tup r; exact .inl ⟨a, ws, rfl, .inr (hK ▸ h1), fun p n => k.newL rh n r1 q⟩
    | lis l => cases e1; obtain ⟨a, ws, rfl, h1, r1⟩ := rd_lis r; exact .inl ⟨a, ws, rfl, .inl (hK ▸ h1), fun p n => k.newL rh n r1 q⟩
    | ref a =>
      cases rd_ref r
      simp only [itemsK] at e1
      cases ea : S a with
      | none => rw [ea] at e1; cases e1
      | some ob =>
        rw [ea] at e1
        cases ob with
        | lst l => cases e1; obtain ⟨ws, h1, r1⟩ := at_lst rh ea; exact .inl ⟨a, ws, rfl, .inl (SqL.of h1), fun p n => k.newL rh n r1 q⟩
        | dic l => cases e1; obtain ⟨ws, h1, e2, r1⟩ := at_dic rh ea; exact .inr ⟨a, ws, rfl, .inl h1, fun p n => k.newL rh n (dict a l ws e2) q⟩
        | dicF l => cases e1; obtain ⟨od, ws, h1, e2, r1⟩ := at_dicF rh ea; exact .inr ⟨a, ws, rfl, .inr ⟨od, h1⟩, fun p n => k.newL rh n (dict a l ws e2) q⟩
        | _ => cases e1
    | _ => cases e1
  | .tuple, _, hc => cimp call_tuple_of fun vs H Q ⟨x, v, S, Qh, e, rh, r, w, k⟩ => by
    subst e
    obtain ⟨xs, e1, q⟩ := w
    obtain ⟨a, ws, rfl, h, r1⟩ := itemsT_at hK rh r e1
    rcases h with h | ⟨h, rfl⟩
    · exact ⟨a, ws, rfl, .inl ⟨h, fun p n => k.newT rh n r1 q⟩⟩
    · exact ⟨a, ws, rfl, .inr ⟨h, k.at rh r q⟩⟩
  | .sum, _, hc => cimp (cr_sum (hc rfl)) fun vs H Q ⟨x, v, S, Qh, e, rh, r, w, k⟩ => by
    subst e
    obtain ⟨xs, ns, e1, e2, q⟩ := w
    obtain ⟨a, ws, rfl, h, r1⟩ := itemsL_at hK rh r e1
    rw [rds_ints r1 e2] at h
    exact ⟨a, ns, rfl, h, k.at rh mk_int q⟩
  | .max, _, hc => cimp (cr_max (hc rfl)) fun vs H Q ⟨x, v, S, Qh, e, rh, r, w, k⟩ => by
    subst e
    obtain ⟨xs, ns, e1, e2, h0, q⟩ := w
    obtain ⟨a, ws, rfl, h, r1⟩ := itemsL_at hK rh r e1
    rw [rds_ints r1 e2] at h
    obtain ⟨g1, g2⟩ := maxI_spec h0
    exact ⟨a, ns, rfl, h, h0, fun m hm hy => by
      have : m = maxI ns := Int.le_antisymm (g2 m hm) (hy _ g1)
      subst this
      exact k.at rh mk_int q⟩
  | .min, _, hc => cimp (cr_min (hc rfl)) fun vs H Q ⟨x, v, S, Qh, e, rh, r, w, k⟩ => by
    subst e
    obtain ⟨xs, ns, e1, e2, h0, q⟩ := w
    obtain ⟨a, ws, rfl, h, r1⟩ := itemsL_at hK rh r e1
    rw [rds_ints r1 e2] at h
    obtain ⟨g1, g2⟩ := minI_spec h0
    exact ⟨a, ns, rfl, h, h0, fun m hm hy => by
      have : m = minI ns := Int.le_antisymm (hy _ g1) (g2 m hm)
      subst this
      exact k.at rh mk_int q⟩
  | .all, _, hc => cimp (cr_all (hc rfl)) fun vs H Q ⟨x, v, S, Qh, e, rh, r, w, k⟩ => by
    subst e
    obtain ⟨xs, ns, e1, e2, q⟩ := w
    obtain ⟨a, ws, rfl, h, r1⟩ := itemsL_at hK rh r e1
    rw [rds_bls r1 e2] at h
    exact ⟨a, ns, rfl, h, k.at rh mk_bl q⟩
  | .any, _, hc => cimp (cr_any (hc rfl)) fun vs H Q ⟨x, v, S, Qh, e, rh, r, w, k⟩ => by
    subst e
    obtain ⟨xs, ns, e1, e2, q⟩ := w
    obtain ⟨a, ws, rfl, h, r1⟩ := itemsL_at hK rh r e1
    rw [rds_bls r1 e2] at h
    exact ⟨a, ns, rfl, h, k.at rh mk_bl q⟩
  | .dict, _, hc => cimp (call_dictP (hc rfl)) fun vs H Q ⟨x, v, S, Qh, e, rh, r, w, k⟩ => by
    subst e
    cases x with
    | ref a =>
      cases rd_ref r
      simp only [wb1] at w
      cases ea : S a with
      | none => rw [ea] at w; exact w.elim
      | some ob =>
        rw [ea] at w
        cases ob with
        | lst l =>
          obtain ⟨ps, e1, q⟩ := w
          obtain ⟨ws, h1, r1⟩ := at_lst rh ea
          obtain ⟨as, rs, rfl, g1, g2, g3⟩ := pairs_at hK r1 e1
          obtain ⟨m1, m2⟩ := kmerge_rel (kvs := []) (ws := []) g2 g3 rfl .nil
          exact ⟨a, as, rs, rfl, SqL.of h1, g1, fun p n => k.newK rh n m1 m2 q⟩
        | _ => exact w.elim
    | _ => exact (False.elim w)
  | .sorted, h, hc => by cases h
  | .bool, h, hc => by cases h
  | .minD, h, hc => by cases h
  | .setlen, h, hc => by cases h
  | .setsorted, h, hc => by cases h
theorem bval_ok : ∀ o, b1ok o = true → BF (bval o) ∧ bootBuiltins (bname o) = some (bval o) ∧ bname o ≠ "__name__" ∧ (bname o == ("__debug__" : Str)) = false
  | .len, _ => ⟨.fn _ rfl, by decide +kernel, by decide +kernel, by decide +kernel⟩
  | .int, _ => ⟨.ty _ rfl, by decide +kernel, by decide +kernel, by decide +kernel⟩
  | .str, _ => ⟨.ty _ rfl, by decide +kernel, by decide +kernel, by decide +kernel⟩
  | .repr, _ => ⟨.fn _ rfl, by decide +kernel, by decide +kernel, by decide +kernel⟩
  | .list, _ => ⟨.ty _ rfl, by decide +kernel, by decide +kernel, by decide +kernel⟩
  | .tuple, _ => ⟨.ty _ rfl, by decide +kernel, by decide +kernel, by decide +kernel⟩
  | .sum, _ => ⟨.fn _ rfl, by decide +kernel, by decide +kernel, by decide +kernel⟩
  | .max, _ => ⟨.fn _ rfl, by decide +kernel, by decide +kernel, by decide +kernel⟩
  | .min, _ => ⟨.fn _ rfl, by decide +kernel, by decide +kernel, by decide +kernel⟩
  | .all, _ => ⟨.fn _ rfl, by decide +kernel, by decide +kernel, by decide +kernel⟩
  | .any, _ => ⟨.fn _ rfl, by decide +kernel, by decide +kernel, by decide +kernel⟩
  | .dict, _ => ⟨.ty _ rfl, by decide +kernel, by decide +kernel, by decide +kernel⟩
  | .sorted, h => by cases h
  | .bool, h => by cases h
  | .minD, h => by cases h
  | .setlen, h => by cases h
  | .setsorted, h => by cases h
theorem he_b1 {C : Orc} {o : B1} (hK : N.K = X.K) (hc : hotB o = false → X.calm = true) (O : OwnOk N C X) (ok : b1ok o = true) (hg : Gl X (bname o)) (hm : X.mg (bname o) = none) (ha : PE X a (tOf N Z wa)) (pl : plainA a = true) :
    PE X (.Call (.Name (bname o) p) [a] [] pos) (tOf N Z fun ρ S Q => wa ρ S fun x S1 => wb1 C o x S1 Q) := by
  obtain ⟨h1, h2, h3, h4⟩ := bval_ok o ok
  refine pimp (pe_callF (cr_b1 hK O o ok hc) h1 hg hm h2 h3 h4 (pa_cons ha pa_nil (starEach_plain _ pl)) (by simpa using pl)) fun σ H Q t => ?_
  exact tOf.one (g := fun _ x S1 Q => wb1 C o x S1 Q) t fun ρ x S1 v H1 Qh rs rh fz rx g k => ⟨x, v, S1, Qh, rfl, rh, rx, g, k⟩

/-! ### built-ins of two values -/
def rB2 (N : Nm) (o : B2) : List V → Hp → VK → Prop := fun vs H Q => ∃ x y v u S Qh, vs = [v, u] ∧ RH N H S ∧ RD N H x v ∧ RD N H y u ∧ wb2 o x y S Qh ∧ Kn N S H Qh Q
def b2val : B2 → Value
  | .max => .builtin "max" | .min => .builtin "min"
def b2name : B2 → Str
  | .max => "max" | .min => "min"
theorem cr_b2 (hc : X.calm = true) : ∀ o, CallR X (b2val o) (rB2 N o)
  | .max => cimp (call_max2 hc) fun vs H Q ⟨x, y, v, u, S, Qh, e, rh, rx, ry, w, k⟩ => by
    subst e
    cases x <;> cases y <;> first | exact False.elim w | skip
    rename_i i j
    cases rd_int rx; cases rd_int ry
    refine ⟨i, j, rfl, ?_⟩
    have e : (if j > i then j else i) = max i j := by split <;> omega
    rw [e]
    exact k.at rh mk_int w
  | .min => cimp (call_min2 hc) fun vs H Q ⟨x, y, v, u, S, Qh, e, rh, rx, ry, w, k⟩ => by
    subst e
    cases x <;> cases y <;> first | exact False.elim w | skip
    rename_i i j
    cases rd_int rx; cases rd_int ry
    refine ⟨i, j, rfl, ?_⟩
    have e : (if j < i then j else i) = min i j := by split <;> omega
    rw [e]
    exact k.at rh mk_int w
theorem b2val_ok : ∀ o, BF (b2val o) ∧ bootBuiltins (b2name o) = some (b2val o) ∧ b2name o ≠ "__name__" ∧ (b2name o == ("__debug__" : Str)) = false
  | .max => ⟨.fn _ rfl, by decide +kernel, by decide +kernel, by decide +kernel⟩
  | .min => ⟨.fn _ rfl, by decide +kernel, by decide +kernel, by decide +kernel⟩
theorem he_b2 {o : B2} (hc : X.calm = true) (hg : Gl X (b2name o)) (hm : X.mg (b2name o) = none) (ha : PE X a (tOf N Z wa)) (hb : PE X b (tOf N Z wb)) (pl : plainA a = true) (pl2 : plainA b = true) :
    PE X (.Call (.Name (b2name o) p) [a, b] [] pos) (tOf N Z fun ρ S Q => wa ρ S fun x S1 => wb ρ S1 fun y S2 => wb2 o x y S2 Q) := by
  obtain ⟨h1, h2, h3, h4⟩ := b2val_ok o
  refine pimp (pe_callF (cr_b2 (N := N) hc o) h1 hg hm h2 h3 h4 (pa_cons ha (pa_cons hb pa_nil (starEach_plain _ pl2)) (starEach_plain _ pl)) (by simp [pl, pl2])) fun σ H Q t => ?_
  exact tOf.two t fun x y S2 v u H2 Qh h rx ry g k => ⟨x, y, v, u, S2, Qh, rfl, h, rx, ry, g, k⟩
end
end A
end
section
set_option Elab.async false
set_option linter.all false
set_option maxRecDepth 100000
set_option maxHeartbeats 1000000
/-! A8: methods of built-in values, isinstance. -/
namespace A
open PySem L2 PyProof.Rows
section
variable {N : Nm} {Z : Sta × Hp} {X : Cx} {S S' S1 : Sta} {H H' H1 : Hp} {Q : VK} {Qh : K} {σ : L2.St} {ρ : Env} {pos p : Pos} {a b c e : Expr} {wa wb wc : Wp}

/-- an object is written, then a value told -/
theorem Kn.put (k : Kn N S H Qh Q) (rh : RH N H S) {p : Addr} {u o : HO} {m m0 : MO} (h : H p = some u) (d : Deep u = false) (hS : S p = some m0) (hm : RO N (upd H p o) p m) {x : D} {v : V} (r : RD N (upd H p o) x v) (q : Qh x (ups S p m)) : Q v (upd H p o) :=
  k _ _ _ _ (Fr.put hS) (rh.put h d hm) r q
theorem dle_lst {p : Addr} {o : HO} {xs : List V} (h : H p = some (.lst xs)) : Dle H (upd H p o) := dle_put h rfl
theorem kdel_rel {k : Key} : ∀ {kvs : List (Key × D)} {ws : List (Key × V)}, ws.map (·.1) = kvs.map (·.1) → RDs N H (kvs.map (·.2)) (ws.map (·.2)) →
    (dropK ws k).map (·.1) = (kdel kvs k).map (·.1) ∧ RDs N H ((kdel kvs k).map (·.2)) ((dropK ws k).map (·.2))
  | [], ws, e, h => by cases ws with
    | nil => exact ⟨rfl, .nil⟩
    | cons _ _ => simp at e
  | x :: xs, ws, e, h => by cases ws with
    | nil => simp at e
    | cons y ys =>
      simp only [List.map_cons, List.cons.injEq] at e
      have h : RDs N H (x.2 :: xs.map (·.2)) (y.2 :: ys.map (·.2)) := h
      obtain ⟨_, _, e2, h1, h2⟩ := h.uncons
      cases e2
      obtain ⟨i1, i2⟩ := kdel_rel (k := k) e.2 h2
      unfold dropK kdel at *
      by_cases hk : x.1 = k
      · have hk' : y.1 = k := e.1.trans hk
        rw [List.filter_cons_of_neg (by simpa using hk'), List.filter_cons_of_neg (by simpa using hk)]
        exact ⟨i1, i2⟩
      · have hk' : ¬ y.1 = k := fun z => hk (e.1.symm.trans z)
        rw [List.filter_cons_of_pos (by simpa using hk'), List.filter_cons_of_pos (by simpa using hk)]
        simp only [List.map_cons]
        exact ⟨by rw [e.1, i1], .cons h1 i2⟩
theorem kdel_none {k : Key} : ∀ {kvs : List (Key × D)}, kget kvs k = none → kdel kvs k = kvs
  | [], _ => rfl
  | x :: xs, h => by
    unfold kget at h
    by_cases hk : x.1 = k
    · rw [List.find?_cons_of_pos (by simpa using hk)] at h; cases h
    · rw [List.find?_cons_of_neg (by simpa using hk)] at h
      have ih := kdel_none (k := k) (kvs := xs) h
      unfold kdel at ih ⊢
      rw [List.filter_cons_of_pos (by simpa using hk), ih]
theorem ups_self {p : Addr} {m : MO} (h : S p = some m) : ups S p m = S := by
  funext q
  unfold ups
  split
  · rename_i e; rw [e, h]
  · rfl

/-! ### o.m(..), o a built-in value -/
def tBD (X : Cx) (name : Str) (to : TE) (t : TA) : TE := fun σ H Q => to σ H fun x H1 => ∃ T id r, PlainAttrs T ∧ Slot T name id ∧ typeOf (.builtin id) = pure (.type "method_descriptor") ∧ MtR X id r ∧ tyV X.K T x H1 ∧ t σ H1 fun xs H2 => r x xs H2 Q
def noSup : Expr → Bool
  | .Call _ _ _ _ => false
  | _ => true
theorem noSup_ok {e : Expr} {f : Str} {env : PySem.Env} (h : noSup e = true) : attributeBase e f env (eval e env) = eval e env := by
  cases e <;> first | rfl | cases h
theorem pe_bD0 {o : Expr} {name : Str} {apos cpos : Pos} {to : TE} (ho : PE X o to) (hb : noSup o = true) (hline : (apos.endLine == cpos.line) = true) : PE X (.Call (.Attribute o name apos) [] [] cpos) (tBD X name to tNil) := by
  refine ⟨fun pins s σ H Q I h => ?_⟩
  refine wpAny_Call_method0_late (noSup_ok hb) hline (thn (ho.run pins s σ H _ I h) fun v s1 ⟨x, H1, I1, r1, T, id, r, pa, slot, hty, hm, ty, q1⟩ => ?_)
  obtain ⟨h1, h2⟩ := tyV_is I1 r1 ty
  exact ⟨T, id, pa, slot, hty, h1, h2, Calls.callWith_builtin rfl (PySem.evalArgs_none (hm pins s1 σ H1 x [] v [] Q I1 r1 .nil q1))⟩
theorem pe_bD {o : Expr} {es : List Expr} {name : Str} {apos cpos : Pos} {to : TE} {t : TA} (ho : PE X o to) (ha : PA X (e :: es) t) (hb : noSup o = true) (hline : (apos.endLine == cpos.line) = true) (pl : (e :: es).all plainA = true)
    (hfew : ((backTo cpos (starEach (e :: es) X.env)).all (fun x => !x.1) && (backToKw cpos (keywordEach [] X.env)).all (fun x => x.1.isSome)
      && decide ((e :: es).length + ([] : List Keyword).length + (if ([] : List Keyword).isEmpty then 0 else 1) < 30)) = true) :
    PE X (.Call (.Attribute o name apos) (e :: es) [] cpos) (tBD X name to t) := by
  simp only [List.all_cons, Bool.and_eq_true] at pl
  refine ⟨fun pins s σ H Q I h => ?_⟩
  refine wpAny_Call_method_late (noSup_ok hb) hfew hline rfl (thn (ho.run pins s σ H _ I h) fun v s1 ⟨x, H1, I1, r1, T, id, r, pa, slot, hty, hm, ty, q1⟩ => ?_)
  obtain ⟨h1, h2⟩ := tyV_is I1 r1 ty
  refine ⟨T, id, pa, slot, hty, h1, h2, ?_⟩
  have hA := ha.run cpos pins s1 σ H1 _ I1 q1
  rw [starEach_plain _ pl.1] at hA ⊢
  refine Calls.callWith_builtin (by show (false || (backTo cpos (starEach es X.env)).any (·.1)) = false; rw [star_none _ pl.2] <;> rfl) (Calls.evalArgs_plain ?_)
  exact thn hA fun us s2 ⟨vs, H2, I2, r2, q2⟩ => hm pins s2 σ H2 x vs v us Q I2 r1 r2 q2
theorem few_args {cpos : Pos} {es : List Expr} {env : PySem.Env} (pl : es.all plainA = true) (hl : es.length < 29) :
    ((backTo cpos (starEach es env)).all (fun x => !x.1) && (backToKw cpos (keywordEach [] env)).all (fun x => x.1.isSome) && decide (es.length + ([] : List Keyword).length + (if ([] : List Keyword).isEmpty then 0 else 1) < 30)) = true := by
  have h1 : (backTo cpos (starEach es env)).all (fun x => !x.1) = true := by
    clear hl
    induction es with
    | nil => rfl
    | cons e es ih =>
      simp only [List.all_cons, Bool.and_eq_true] at pl
      rw [starEach_plain _ pl.1]
      show (true && (backTo cpos (starEach es env)).all (fun x => !x.1)) = true
      rw [ih pl.2]; rfl
  rw [h1]
  have h2 : (backToKw cpos (keywordEach [] env)).all (fun x => x.1.isSome) = true := by
    have : keywordEach [] env = [] := by first | rfl | simp [keywordEach]
    rw [this]; rfl
  rw [h2]
  simp only [Bool.true_and, decide_eq_true_eq, List.length_nil, List.isEmpty_nil, if_true, Nat.add_zero]
  omega

def rBm (N : Nm) (m : Bm) (t : Ty) : V → List V → Hp → VK → Prop := fun v vs H Q => ∃ x ds S Qh, RH N H S ∧ RD N H x v ∧ RDs N H ds vs ∧ wbm m t x ds S Qh ∧ Kn N S H Qh Q
def tyN : Ty → String
  | .list => "list" | .dict => "dict" | .str => "str"
def bmN : Bm → Str
  | .append => "append" | .extend => "extend" | .pop => "pop" | .get => "get" | .setd => "setdefault" | .join => "join" | .split => "split" | .ends => "endswith" | .rstrip => "rstrip" | .clear => "clear" | .upper => "upper" | .replace => "replace" | .count => "count"
def bmOk : Bm → Bool
  | .setd => false
  | _ => true
theorem ty_at (hK : N.K = X.K) (rh : RH N H S) {x : D} {v : V} {t : Ty} (r : RD N H x v) (e : tyD S x = some t) : tyV X.K (tyN t) v H := by
  cases x with
  | str z => cases e; cases rd_str r; exact rfl
  | ref a =>
    cases rd_ref r
    simp only [tyD] at e
    cases ea : S a with
    | none => rw [ea] at e; cases e
    | some o =>
      rw [ea] at e
      cases o with
      | lst l => cases e; obtain ⟨vs, h1, _⟩ := at_lst rh ea; exact .inl ⟨rfl, vs, SqL.of h1⟩
      | dic l => cases e; obtain ⟨ws, h1, _⟩ := at_dic rh ea; exact .inr (.inr (.inl ⟨rfl, .inl ⟨ws, h1⟩⟩))
      | _ => cases e
  | _ => cases e
theorem mimp {id : String} {r r' : V → List V → Hp → VK → Prop} (h : MtR X id r) (i : ∀ x xs H Q, r' x xs H Q → r x xs H Q) : MtR X id r' := fun pins s σ H x xs v us Q I rx rs q => h pins s σ H x xs v us Q I rx rs (i x xs H Q q)
theorem mt_get2 (hu : X.A.units + 1 < cLine) : MtR X "dict.get" (fun x xs H Q => ∃ a y o d, x = .ref a ∧ xs = [y, d] ∧ DGet H a y o ∧ Q (o.getD d) H) := by
  intro pins s σ H x xs v us Q I rx rs h
  obtain ⟨a, y, o, d, rfl, rfl, g, q⟩ := h
  cases rx
  obtain ⟨u1, u2, rfl, r1, r2⟩ := vals2 rs
  exact d_get2 hu I g r1 r2 fun w' s' I' r' => ⟨o.getD d, H, I', r', q⟩
theorem mt_popK : MtR X "dict.pop" (fun x xs H Q => ∃ a kvs k, x = .ref a ∧ H a = some (.dK kvs) ∧ ((∃ v, (xs = [kV k] ∨ ∃ d, xs = [kV k, d]) ∧ valV kvs k = some v ∧ Q v (upd H a (.dK (dropK kvs k)))) ∨ ∃ d, xs = [kV k, d] ∧ valV kvs k = none ∧ Q d H)) := by
  intro pins s σ H x xs v us Q I rx rs h
  obtain ⟨a, kvs, k, rfl, ea, h⟩ := h
  cases rx
  rcases h with ⟨y, hx, e, q⟩ | ⟨d, rfl, e, q⟩
  · rcases hx with rfl | ⟨d, rfl⟩
    · obtain ⟨u, rfl, ru⟩ := vals1 rs
      exact d_pop I ea ru e (.inl rfl) fun w' s' I' r' => ⟨y, _, I', r', q⟩
    · obtain ⟨u, u2, rfl, ru, r2⟩ := vals2 rs
      exact d_pop I ea ru e (.inr ⟨_, rfl⟩) fun w' s' I' r' => ⟨y, _, I', r', q⟩
  · obtain ⟨u, u2, rfl, ru, r2⟩ := vals2 rs
    exact d_popD I ea ru e fun s' I' => ⟨d, H, I', r2, q⟩
theorem strsAre_of : ∀ {ss : List Str} {its : List Value}, Vals (ss.map V.str) its → PyProof.Rows.StrsAre its ss
  | [], its, r => by
    cases r
    exact .nil
  | s :: r', its, r => by
    rw [List.map_cons] at r
    cases r with
    | cons h t =>
      obtain ⟨tk, rfl⟩ := h
      exact .cons s tk (strsAre_of t)
theorem countIn_eq (k : Str) : ∀ ss : List Str, PySem.Spec.countIn (.str k) (ss.map PyData.str) = ((ss.countP fun y => y == k : Nat) : Int)
  | [] => rfl
  | s :: r => by
    have h : PySem.Spec.same (PyData.str s) (PyData.str k) = (s == k) := rfl
    rw [List.map_cons, PySem.Spec.countIn, countIn_eq k r, List.countP_cons, h]
    by_cases e : (s == k) = true
    · rw [if_pos e, if_pos e]; omega
    · rw [if_neg e, if_neg e]; omega
theorem mt_countS : MtR X "list.count" (fun x xs H Q => ∃ (p : Addr) (ss : List Str) (k : Str), x = .ref p ∧ xs = [.str k] ∧ SqL X.K H p (ss.map V.str) ∧ Q (.int (ss.countP fun y => y == k : Nat)) H) := by
  intro pins s σ H x xs v us Q I rx rxs h
  obtain ⟨p, ss, k, rfl, rfl, hs, q⟩ := h
  cases rx
  obtain ⟨u, rfl, ru⟩ := vals1 rxs
  obtain ⟨t, rfl⟩ := ru
  obtain ⟨its, rv, pl, hlen⟩ := I.list hs
  refine PyProof.Rows.count_list_strs pl.isList (strsAre_of rv) ?_
  rw [countIn_eq]
  exact ⟨.int (ss.countP fun y => y == k : Nat), H, I.tok _, ⟨_, rfl⟩, q⟩
structure BmR (N : Nm) (X : Cx) (m : Bm) (t : Ty) : Prop where
  run : ∃ id, Slot (tyN t) (bmN m) id ∧ typeOf (.builtin id) = pure (.type "method_descriptor") ∧ MtR X id (rBm N m t)
theorem plain_ty : ∀ t, PlainAttrs (tyN t)
  | .list => PySem.F.plainAttrs_list
  | .dict => PySem.F.plainAttrs_dict
  | .str => PySem.F.plainAttrs_str
theorem bm_at (hK : N.K = X.K) (hu : X.A.units + 1 < cLine) : ∀ m t, bmOk m = true → bmHas m t = true → BmR N X m t
  | .append, .list, _, _ => ⟨_, PySem.F.slot_list_append, PySem.F.type_list_append, mimp mt_append fun v vs H Q ⟨x, ds, S, Qh, rh, rx, rs, w, k⟩ => by
      simp only [wbm] at w
      split at w <;> first | exact w.elim | skip
      rename_i a d h1
      cases h1
      split at w <;> first | exact w.elim | skip
      rename_i xs ea
      obtain ⟨y, t, rfl, ry, rt⟩ := rs.uncons
      rw [rt.unnil]
      cases rd_ref rx
      obtain ⟨ws, h1, r1⟩ := at_lst rh ea
      refine ⟨a, ws, y, rfl, rfl, h1, r1.length ▸ w.1, k.put rh h1 rfl ea (m := .lst (xs ++ [d])) ⟨ws ++ [y], L2.upd_same, (r1.append (.cons ry .nil)).mono' (dle_lst h1)⟩ mk_non w.2⟩⟩
  | .count, .list, _, _ => ⟨_, PySem.F.slot_list_count, PySem.F.type_list_count, mimp mt_countS fun v vs H Q ⟨x, ds, S, Qh, rh, rx, rs, w, k⟩ => by
      simp only [wbm] at w
      split at w <;> first | exact w.elim | skip
      rename_i a z h1
      cases h1
      split at w <;> first | exact w.elim | skip
      rename_i xs ea
      obtain ⟨y, t, rfl, ry, rt⟩ := rs.uncons
      rw [rt.unnil]
      cases rd_ref rx
      cases rd_str ry
      obtain ⟨ws, h1, r1⟩ := at_lst rh ea
      obtain ⟨ss, e1, q⟩ := w
      have := rds_strs r1 e1
      subst this
      exact ⟨a, ss, z, rfl, rfl, SqL.of h1, k.at rh mk_int q⟩⟩
  | .extend, .list, _, _ => ⟨_, PySem.F.slot_list_extend, PySem.F.type_list_extend, mimp mt_extend fun v vs H Q ⟨x, ds, S, Qh, rh, rx, rs, w, k⟩ => by
      simp only [wbm] at w
      split at w <;> first | exact w.elim | skip
      rename_i a b h1
      cases h1
      split at w <;> first | exact w.elim | skip
      rename_i xs ys ea eb
      obtain ⟨y, t, rfl, ry, rt⟩ := rs.uncons
      rw [rt.unnil]
      cases rd_ref rx
      cases rd_ref ry
      obtain ⟨ws, h1, r1⟩ := at_lst rh ea
      obtain ⟨zs, h2, r2⟩ := at_lst rh eb
      refine ⟨a, b, ws, zs, rfl, rfl, h1, h2, by rw [← r1.length, ← r2.length]; exact w.1, k.put rh h1 rfl ea (m := .lst (xs ++ ys)) ⟨ws ++ zs, L2.upd_same, (r1.append r2).mono' (dle_lst h1)⟩ mk_non w.2⟩⟩
  | .pop, .list, _, _ => ⟨_, PySem.F.slot_list_pop, PySem.F.type_list_pop, mimp mt_pop fun v vs H Q ⟨x, ds, S, Qh, rh, rx, rs, w, k⟩ => by
      simp only [wbm] at w
      split at w <;> first | exact w.elim | (rename_i h; cases h; done) | skip
      rename_i a h1
      split at w <;> first | exact w.elim | skip
      rename_i xs ea
      rw [rs.unnil]
      cases rd_ref rx
      obtain ⟨ws, h1, r1⟩ := at_lst rh ea
      obtain ⟨d, e, q⟩ := w
      obtain ⟨y, ey, ry⟩ := r1.get e
      have dl : RDs N H xs.dropLast ws.dropLast := by
        rw [List.dropLast_eq_take, List.dropLast_eq_take, ← r1.length]
        exact r1.take _
      exact ⟨a, ws, y, rfl, rfl, h1, r1.length ▸ ey, k.put rh h1 rfl ea (m := .lst xs.dropLast) ⟨ws.dropLast, L2.upd_same, dl.mono' (dle_lst h1)⟩ (RD.mono (dle_lst h1) _ _ ry) q⟩⟩
  | .clear, .list, _, _ => ⟨_, PySem.F.slot_list_clear, PySem.F.type_list_clear, mimp mt_clear fun v vs H Q ⟨x, ds, S, Qh, rh, rx, rs, w, k⟩ => by
      simp only [wbm] at w
      split at w <;> first | exact w.elim | skip
      rename_i a h1
      split at w <;> first | exact w.elim | skip
      rename_i xs ea
      rw [rs.unnil]
      cases rd_ref rx
      obtain ⟨ws, h1, r1⟩ := at_lst rh ea
      exact ⟨a, ws, rfl, rfl, h1, k.put rh h1 rfl ea (m := .lst []) ⟨[], L2.upd_same, .nil⟩ mk_non w⟩⟩
  | .pop, .dict, _, _ => ⟨_, PySem.F.slot_dict_pop, PySem.F.type_dict_pop, mimp mt_popK fun v vs H Q ⟨x, ds, S, Qh, rh, rx, rs, w, k⟩ => by
      simp only [wbm] at w
      split at w <;> first | exact w.elim | (rename_i h; cases h; done) | skip
      · rename_i a y h1
        split at w <;> first | exact w.elim | skip
        rename_i kvs ea
        obtain ⟨y', t, rfl, ry, rt⟩ := rs.uncons
        rw [rt.unnil]
        cases rd_ref rx
        obtain ⟨ws, h1, e1, r1⟩ := at_dic rh ea
        obtain ⟨key, d, ek, eg, q⟩ := w
        rcases kget_rel (k := key) e1 r1 with ⟨z, _⟩ | ⟨d', v', z1, z2, z3⟩
        · rw [z] at eg; cases eg
        · rw [z1] at eg; cases eg
          obtain ⟨g1, g2⟩ := kdel_rel (k := key) e1 r1
          exact ⟨a, ws, key, rfl, h1, .inl ⟨v', .inl (by rw [key_rd ek ry]), z2, k.put rh h1 rfl ea (m := .dic (kdel kvs key)) ⟨_, L2.upd_same, g1, g2.mono' (dle_put h1 rfl)⟩ (RD.mono (dle_put h1 rfl) _ _ z3) q⟩⟩
      · rename_i a y u h1
        split at w <;> first | exact w.elim | skip
        rename_i kvs ea
        obtain ⟨y', t, rfl, ry, rt⟩ := rs.uncons
        obtain ⟨u', t, rfl, ru, rt⟩ := rt.uncons
        rw [rt.unnil]
        cases rd_ref rx
        obtain ⟨ws, h1, e1, r1⟩ := at_dic rh ea
        obtain ⟨key, ek, q⟩ := w
        rcases kget_rel (k := key) e1 r1 with ⟨z, z'⟩ | ⟨d', v', z1, z2, z3⟩
        · rw [z, kdel_none z, ups_self ea] at q
          exact ⟨a, ws, key, rfl, h1, .inr ⟨u', by rw [key_rd ek ry], z', k.at rh ru q⟩⟩
        · rw [z1] at q
          obtain ⟨g1, g2⟩ := kdel_rel (k := key) e1 r1
          exact ⟨a, ws, key, rfl, h1, .inl ⟨v', .inr ⟨u', by rw [key_rd ek ry]⟩, z2, k.put rh h1 rfl ea (m := .dic (kdel kvs key)) ⟨_, L2.upd_same, g1, g2.mono' (dle_put h1 rfl)⟩ (RD.mono (dle_put h1 rfl) _ _ z3) q⟩⟩⟩
  | .get, .dict, _, _ => ⟨_, PySem.F.slot_dict_get, PySem.F.type_dict_get, mimp (mt_get2 hu) fun v vs H Q ⟨x, ds, S, Qh, rh, rx, rs, w, k⟩ => by
      simp only [wbm] at w
      split at w <;> first | exact w.elim | skip
      rename_i a y u h1
      obtain ⟨y', t, rfl, ry, rt⟩ := rs.uncons
      obtain ⟨u', t, rfl, ru, rt⟩ := rt.uncons
      rw [rt.unnil]
      cases rd_ref rx
      have go : ∀ kvs, (S a = some (.dic kvs) ∨ S a = some (.dicF kvs)) → (∃ k', keyD y = some k' ∧ Qh ((kget kvs k').getD u) S) → ∃ a_1 y_1 o d, V.ref a = V.ref a_1 ∧ [y', u'] = [y_1, d] ∧ DGet H a_1 y_1 o ∧ Q (o.getD d) H := fun kvs hs ⟨key, ek, q⟩ => by
        obtain ⟨o, g, z⟩ := dget_of rh hs key
        refine ⟨a, y', o, u', rfl, rfl, by rw [key_rd ek ry]; exact g, ?_⟩
        rcases z with ⟨z1, rfl⟩ | ⟨d', v', z1, rfl, z3⟩
        · rw [z1] at q; exact k.at rh ru q
        · rw [z1] at q; exact k.at rh z3 q
      split at w <;> first | exact w.elim | skip
      · exact go _ (.inl (by assumption)) w
      · exact go _ (.inr (by assumption)) w⟩
  | .join, .str, _, _ => ⟨_, PySem.F.slot_str_join, PySem.F.type_str_join, mimp mt_join fun v vs H Q ⟨x, ds, S, Qh, rh, rx, rs, w, k⟩ => by
      simp only [wbm] at w
      split at w <;> first | exact w.elim | skip
      rename_i z d h1
      obtain ⟨xs, ss, e1, e2, h2, q⟩ := w
      obtain ⟨y, t, rfl, ry, rt⟩ := rs.uncons
      rw [rt.unnil]
      cases rd_str rx
      obtain ⟨a, ws, rfl, h3, r1⟩ := itemsT_at hK rh ry e1
      rw [rds_strs r1 e2] at h3
      exact ⟨z, a, ss, rfl, rfl, h3.imp id (·.1), h2, k.at rh mk_str q⟩⟩
  | .split, .str, _, _ => ⟨_, PySem.F.slot_str_split, PySem.F.type_str_split, mimp mt_split fun v vs H Q ⟨x, ds, S, Qh, rh, rx, rs, w, k⟩ => by
      simp only [wbm] at w
      split at w <;> first | exact w.elim | skip
      rename_i z d h1
      obtain ⟨h1, h2, q⟩ := w
      obtain ⟨y, t, rfl, ry, rt⟩ := rs.uncons
      rw [rt.unnil]
      cases rd_str rx
      cases rd_str ry
      have rr : ∀ ys : List Str, RDs N H (ys.map .str) (ys.map V.str) := fun ys => by
        induction ys with
        | nil => exact .nil
        | cons y ys ih => exact .cons mk_str ih
      exact ⟨z, d, rfl, rfl, h1, h2, fun p n => k.newL rh n (rr _) q⟩⟩
  | .ends, .str, _, _ => ⟨_, PySem.F.slot_str_endswith, PySem.F.type_str_endswith, mimp mt_endswith fun v vs H Q ⟨x, ds, S, Qh, rh, rx, rs, w, k⟩ => by
      simp only [wbm] at w
      split at w <;> first | exact w.elim | skip
      rename_i z d h1
      obtain ⟨y, t, rfl, ry, rt⟩ := rs.uncons
      rw [rt.unnil]
      cases rd_str rx
      cases rd_str ry
      exact ⟨z, d, rfl, rfl, k.at rh mk_bl w⟩⟩
  | .upper, .str, _, _ => ⟨_, PySem.F.slot_str_upper, PySem.F.type_str_upper, mimp mt_upper fun v vs H Q ⟨x, ds, S, Qh, rh, rx, rs, w, k⟩ => by
      simp only [wbm] at w
      split at w <;> first | exact w.elim | skip
      rename_i z h1
      rw [rs.unnil]
      cases rd_str rx
      exact ⟨z, rfl, rfl, w.1, k.at rh mk_str w.2⟩⟩
  | .setd, _, h, _ => by cases h
  | .rstrip, _, _, h => by cases h
  | .replace, _, _, h => by cases h
  | .append, .dict, _, h => by cases h
  | .append, .str, _, h => by cases h
  | .extend, .dict, _, h => by cases h
  | .extend, .str, _, h => by cases h
  | .pop, .str, _, h => by cases h
  | .get, .list, _, h => by cases h
  | .get, .str, _, h => by cases h
  | .join, .list, _, h => by cases h
  | .join, .dict, _, h => by cases h
  | .split, .list, _, h => by cases h
  | .split, .dict, _, h => by cases h
  | .ends, .list, _, h => by cases h
  | .ends, .dict, _, h => by cases h
  | .clear, .dict, _, h => by cases h
  | .clear, .str, _, h => by cases h
  | .upper, .list, _, h => by cases h
  | .upper, .dict, _, h => by cases h
end
end A
end
section
set_option Elab.async false
set_option linter.all false
set_option maxRecDepth 100000
set_option maxHeartbeats 1000000
/-! A9: methods, isinstance, errors in the air, calls. -/
namespace A
open PySem L2 PyProof.Rows
section
variable {N : Nm} {Z : Sta × Hp} {X : Cx} {S S' S1 : Sta} {H H' H1 : Hp} {Q : VK} {Qh : K} {σ : L2.St} {ρ : Env} {pos p apos cpos : Pos} {a b c e o : Expr} {wa wb wc wo : Wp} {ws : Wps} {es : List Expr}

/-! ### o.m(..) -/
def hBm (m : Bm) (wo : Wp) (ws : Wps) : Wp := fun ρ S Q => wo ρ S fun x S1 => ∃ t, tyD S1 x = some t ∧ bmHas m t = true ∧ ws ρ S1 fun ds S2 => wbm m t x ds S2 Q
theorem bm_pe (hK : N.K = X.K) (hu : X.A.units + 1 < cLine) {m : Bm} (ok : bmOk m = true) {ta : TA} (hta : ∀ σ H Q, tA N Z ws σ H Q → ta σ H Q) (σ : L2.St) (H : Hp) (Q : VK) (t : tOf N Z (hBm m wo ws) σ H Q) : tBD X (bmN m) (tOf N Z wo) ta σ H Q := by
  refine tOf.one (g := fun ρ x S1 Q => ∃ t, tyD S1 x = some t ∧ bmHas m t = true ∧ ws ρ S1 fun ds S2 => wbm m t x ds S2 Q) t fun ρ x S1 v H1 Qh rs rh fz rx g k => ?_
  obtain ⟨t, e1, e2, q⟩ := g
  obtain ⟨id, h1, h2, h3⟩ := (bm_at hK hu m t ok e2).run
  refine ⟨tyN t, id, rBm N m t, plain_ty t, h1, h2, h3, ty_at hK rh rx e1, hta _ _ _ ⟨ρ, S1, _, rs, rh, fz, q, fun ds S2 vs H2 f h r q => ?_⟩⟩
  exact ⟨x, ds, S2, Qh, h, RD.mono (f.dle rh) _ _ rx, r, q, k.step f⟩
theorem he_bm (hK : N.K = X.K) (hu : X.A.units + 1 < cLine) {m : Bm} (ok : bmOk m = true) (ho : PE X o (tOf N Z wo)) (ha : PA X (e :: es) (tA N Z ws)) (hb : noSup o = true) (hline : (apos.endLine == cpos.line) = true) (pl : (e :: es).all plainA = true) (hl : (e :: es).length < 29) :
    PE X (.Call (.Attribute o (bmN m) apos) (e :: es) [] cpos) (tOf N Z (hBm m wo ws)) :=
  pimp (pe_bD ho ha hb hline pl (few_args pl hl)) (bm_pe hK hu ok fun _ _ _ h => h)
theorem he_bm0 (hK : N.K = X.K) (hu : X.A.units + 1 < cLine) {m : Bm} (ok : bmOk m = true) (ho : PE X o (tOf N Z wo)) (hb : noSup o = true) (hline : (apos.endLine == cpos.line) = true) :
    PE X (.Call (.Attribute o (bmN m) apos) [] [] cpos) (tOf N Z (hBm m wo fun _ S Q => Q [] S)) :=
  pimp (pe_bD0 ho hb hline) (bm_pe hK hu ok fun σ H Q ⟨ρ, S, Ql, rs, rh, fz, w, k⟩ => k [] S [] H Fr.refl rh .nil w)

/-! ### isinstance -/
def kdN : Kd → String
  | .int => "int" | .str => "str" | .bool => "bool" | .list => "list" | .tuple => "tuple" | .own _ => ""
def kdOk : Kd → Bool
  | .own _ => false
  | _ => true
/-- the built-in type of a value -/
def tnD (S : Sta) : D → Option String
  | .non => some "NoneType" | .bl _ => some "bool" | .int _ => some "int" | .str _ => some "str" | .tup _ => some "tuple" | .lis _ => some "list"
  | .ref a => match S a with
    | some (.lst _) => some "list"
    | some (.dic _) => some "dict"
    | _ => none
  | _ => none
theorem tn_at (hK : N.K = X.K) (rh : RH N H S) {x : D} {v : V} {t : String} (r : RD N H x v) (e : tnD S x = some t) : TyX X.K H v (.type t) := by
  cases x with
  | non => cases e; cases rd_non r; exact .base .non
  | bl b => cases e; cases rd_bl r; exact .base (.bl b)
  | int b => cases e; cases rd_int r; exact .base (.int b)
  | str b => cases e; cases rd_str r; exact .base (.str b)
  | tup l =>
    cases e
    obtain ⟨a, vs, rfl, h1, _⟩ := rd_tup r
    rw [hK] at h1
    rcases h1 with (h1 | ⟨ob, h1⟩) | ⟨ob, its, n, h1, h2, _⟩
    · exact .base (.tup h1)
    · exact .fTuple h1
    · exact .kTuple h1 h2
  | lis l =>
    cases e
    obtain ⟨a, vs, rfl, h1, _⟩ := rd_lis r
    rw [hK] at h1
    rcases h1 with (h1 | ⟨ob, h1⟩) | ⟨ob, its, n, h1, h2, _⟩
    · exact .base (.lst h1)
    · exact .base (.frz h1)
    · exact .kList h1 h2
  | ref a =>
    cases rd_ref r
    simp only [tnD] at e
    cases ea : S a with
    | none => rw [ea] at e; cases e
    | some ob =>
      rw [ea] at e
      cases ob with
      | lst l => cases e; obtain ⟨vs, h1, _⟩ := at_lst rh ea; exact .base (.lst h1)
      | dic l => cases e; obtain ⟨ws, h1, _⟩ := at_dic rh ea; exact .base (.dK h1)
      | _ => cases e
  | _ => cases e
theorem kit_lit (K : PySem.W.Frag) : ∀ t ∈ ["NoneType", "bool", "int", "str", "tuple", "list", "dict"], ∀ k ∈ ["int", "str", "bool", "list", "tuple"], PySem.W.kitOne K (.type t) (.type k) = some (t == k || (t == "bool" && k == "int")) := by
  intro t ht k hk
  simp only [List.mem_cons, List.not_mem_nil, or_false] at ht hk
  rcases ht with rfl | rfl | rfl | rfl | rfl | rfl | rfl <;> rcases hk with rfl | rfl | rfl | rfl | rfl <;> rfl
theorem isKd_at {x : D} {k : Kd} {r : Bool} (ok : kdOk k = true) (e : isKd S x k = some r) : ∃ t, tnD S x = some t ∧ PySem.W.kitOne X.K (.type t) (.type (kdN k)) = some r := by
  have fin : ∀ t, tnD S x = some t → t ∈ ["NoneType", "bool", "int", "str", "tuple", "list", "dict"] → r = (t == kdN k || (t == "bool" && kdN k == "int")) → ∃ t, tnD S x = some t ∧ PySem.W.kitOne X.K (.type t) (.type (kdN k)) = some r := fun t h1 h2 h3 => by
    refine ⟨t, h1, ?_⟩
    rw [kit_lit X.K t h2 (kdN k) (by cases k <;> simp [kdN] <;> cases ok), h3]
  have hn : x ≠ .lis [] ∨ True := .inr trivial
  cases x with
  | non => exact fin "NoneType" rfl (by simp) (by cases k <;> first | (cases e; rfl) | cases ok)
  | bl b => exact fin "bool" rfl (by simp) (by cases k <;> first | (cases e; rfl) | cases ok)
  | int b => exact fin "int" rfl (by simp) (by cases k <;> first | (cases e; rfl) | cases ok)
  | str b => exact fin "str" rfl (by simp) (by cases k <;> first | (cases e; rfl) | cases ok)
  | tup b => exact fin "tuple" rfl (by simp) (by cases k <;> first | (cases e; rfl) | cases ok)
  | ref a =>
    cases ea : S a with
    | none => cases k <;> first | (simp only [isKd, ea] at e; cases e; done) | cases ok
    | some ob =>
      cases ob with
      | lst l => exact fin "list" (by simp only [tnD, ea]) (by simp) (by cases k <;> first | (simp only [isKd, ea] at e; cases e; rfl) | cases ok)
      | dic l => exact fin "dict" (by simp only [tnD, ea]) (by simp) (by cases k <;> first | (simp only [isKd, ea] at e; cases e; rfl) | cases ok)
      | _ => cases k <;> first | (simp only [isKd, ea] at e; cases e; done) | cases ok
  | _ => cases k <;> first | (cases e; done) | cases ok
theorem kd_boot : ∀ k, kdOk k = true → bootBuiltins (Str.ofString (kdN k)) = some (.type (kdN k)) ∧ Str.ofString (kdN k) ≠ "__name__" ∧ (Str.ofString (kdN k) == ("__debug__" : Str)) = false
  | .int, _ => ⟨by decide +kernel, by decide +kernel, by decide +kernel⟩
  | .str, _ => ⟨by decide +kernel, by decide +kernel, by decide +kernel⟩
  | .bool, _ => ⟨by decide +kernel, by decide +kernel, by decide +kernel⟩
  | .list, _ => ⟨by decide +kernel, by decide +kernel, by decide +kernel⟩
  | .tuple, _ => ⟨by decide +kernel, by decide +kernel, by decide +kernel⟩
  | .own _, h => by cases h
def hIsi (wa : Wp) (k : Kd) : Wp := fun ρ S Q => wa ρ S fun x S1 => ∃ b, isKd S1 x k = some b ∧ Q (.bl b) S1
theorem he_isi (hK : N.K = X.K) {k : Kd} {x : Str} {p2 : Pos} (ok : kdOk k = true) (hx : x = Str.ofString (kdN k)) (hg : Gl X "isinstance") (hm : X.mg "isinstance" = none) (hg2 : Gl X x) (hm2 : X.mg x = none) (ha : PE X a (tOf N Z wa)) (pl : plainA a = true) :
    PE X (.Call (.Name "isinstance" p) [a, .Name x p2] [] pos) (tOf N Z (hIsi wa k)) := by
  have hb := kd_boot k ok
  subst hx
  have h2 : PE X (.Name (Str.ofString (kdN k)) p2) (tC (.ty (kdN k))) := pe_bltn hg2 hm2 hb.1 rfl hb.2.1 hb.2.2
  refine pimp (pe_callF call_isi (.fn _ rfl) hg hm (by decide +kernel) (by decide +kernel) (by decide +kernel) (pa_cons ha (pa_cons h2 pa_nil rfl) (starEach_plain _ pl)) (by rw [List.all_cons, pl]; rfl)) fun σ H Q t => ?_
  refine tOf.one (g := fun _ x S1 Q => ∃ b, isKd S1 x k = some b ∧ Q (.bl b) S1) t fun ρ y S1 v H1 Qh rs rh fz rx g kn => ?_
  obtain ⟨r, e, q⟩ := g
  obtain ⟨t, e1, e2⟩ := isKd_at (X := X) ok e
  exact ⟨v, .ty (kdN k), .type t, .type (kdN k), r, rfl, .ty _, tn_at hK rh rx e1, e2, kn.at rh mk_bl q⟩

/-! ### errors in the air -/
/-- an error's value: its class, the address of its dict -/
def XD (N : Nm) (H : Hp) (x : D) (cls : Value) (d : Option Addr) : Prop := ∃ c fs ds dd xs vs, x = .exc c fs ds ∧ cls = .ref (N.ca c) ∧ d = some dd ∧ H dd = some (.xd xs) ∧ RDs N H ds vs ∧ fs.length = vs.length ∧ ∀ (i : Nat) f v, fs[i]? = some f → vs[i]? = some v → xs.lookup (N.fnm f) = some v
theorem XD.mono (f : Dle H H') {x : D} {cls : Value} {d : Option Addr} (h : XD N H x cls d) : XD N H' x cls d := by
  obtain ⟨c, fs, ds, dd, xs, vs, h1, h2, h3, h4, h5, h6, h7⟩ := h
  exact ⟨c, fs, ds, dd, xs, vs, h1, h2, h3, f _ _ h4 rfl, h5.mono' f, h6, h7⟩
/-- what is wished of an error that leaves: Ex by the error, the names, the state -/
def xOf (N : Nm) (Z : Sta × Hp) (Ex : D → Env → Sta → Prop) : WX := fun cls d σ H => ∃ x ρ S, RS N H σ ρ ∧ RH N H S ∧ Fr Z.1 Z.2 S H ∧ XD N H x cls d ∧ Ex x ρ S
/-- a call's wish about errors -/
def KnX (N : Nm) (S : Sta) (H : Hp) (Xh : K) (E : XK) : Prop := ∀ x S' cls d H', Fr S H S' H' → RH N H' S' → XD N H' x cls d → Xh x S' → E cls d H'
theorem KnX.of {Ex : D → Env → Sta → Prop} (rs : RS N H σ ρ) (rh : RH N H S) (fz : Fr Z.1 Z.2 S H) : KnX N S H (fun x S' => Ex x ρ S') (WE (xOf N Z Ex) σ) :=
  fun x S' cls d H' f h xd q => ⟨x, ρ, S', rs.mono (f.dle rh), h, fz.trans f, xd, q⟩

/-! ### calls -/
/-- what the def of number f promises -/
def spF (N : Nm) (C : Orc) (f : Nat) : Sp := fun vs H Q E => ∃ ds S Qh Xh, RDs N H ds vs ∧ RH N H S ∧ C f ds S Qh Xh ∧ Kn N S H Qh Q ∧ KnX N S H Xh E
/-- the facts of the program about a call of f with n written values and the defaults es -/
structure CallOk (N : Nm) (C : Orc) (P : Program) (w : World) (K : PySem.W.Frag) (mg : Str → Option Value) (base : Heap) (A : Around) (f : Nat) (es : List D) : Prop where
  run : ∃ k fd ps dvs ds, FnOk P w K mg base (L2.CX P w) k (N.fa f) fd ps (spF N C f) ∧ Room k A ∧ Binds K fd ps ds ∧ Vals dvs ds ∧ ∀ H, RDs N H es dvs
def hCall (C : Orc) (f : Nat) (es : List D) (ws : Wps) (Ex : D → Env → Sta → Prop) : Wp := fun ρ S Q => ws ρ S fun ds S1 => C f (ds ++ es) S1 Q fun x S' => Ex x ρ S'
theorem he_call {C : Orc} {Ex : D → Env → Sta → Prop} {f : Nat} {ds : List D} {x : Str} (tk : L2.Takes X (xOf N Z Ex)) (co : CallOk N C X.prog X.w X.K X.mg X.base X.A f ds) (hg : Gl X x) (hm : X.mg x = some (.ref (N.fa f))) (hk : PySem.W.keepIn X.K (.ref (N.fa f)) = true)
    (hdb : (x == ("__debug__" : Str)) = false) (ha : PA X (e :: es) (tA N Z ws)) (pl : (e :: es).all plainA = true) : PE X (.Call (.Name x p) (e :: es) [] pos) (tOf N Z (hCall C f ds ws Ex)) := by
  obtain ⟨k, fd, ps, dvs, dfs, F, hr, hb, hd, hds⟩ := co.run
  simp only [List.all_cons, Bool.and_eq_true] at pl
  refine pimp (pe_callSD F hr hg hm hk hb hd (fun σ => passAt tk σ) ha hdb (starEach_plain _ pl.1) (star_none _ pl.2)) fun σ H Q t => ?_
  obtain ⟨ρ, S, Qh, rs, rh, fz, w, kn⟩ := t
  refine ⟨ρ, S, _, rs, rh, fz, w, fun es' S1 vs H1 f h1 r q => ?_⟩
  exact ⟨es' ++ ds, S1, Qh, _, r.append (hds H1), h1, q, kn.step f, KnX.of (rs.mono (f.dle rh)) h1 (fz.trans f)⟩
theorem run_fn0 {CX : CXT} {k : Nat} {f : Addr} {fd : FuncData} {ps : List Str} {sp : Sp} {dvs : List V} {ds : List Value} {E : L2.St → XK} {x : Str} (F : FnOk X.prog X.w X.K X.mg X.base CX k f fd ps sp) (hr : Room k X.A) (hg : Gl X x) (hm : X.mg x = some (.ref f)) (hk : PySem.W.keepIn X.K (.ref f) = true) (hb : Binds X.K fd ps ds) (hd : Vals dvs ds) (hx : ∀ σ, PassesAt CX X σ (E σ))
    (hdb : (x == ("__debug__" : Str)) = false) : PE X (.Call (.Name x p) [] [] pos) (tCallSD sp dvs E tNil) := by
  refine ⟨fun pins s σ H Q I h => ?_⟩
  refine wpAny_Call_Name_kw (ld_glob I hg hm ?_ hdb)
  exact PySem.W.callWith_K0 I.kIn hk (run_fnSD (us := []) F hr hb hd (hx σ) I .nil h)
theorem he_call0 {C : Orc} {Ex : D → Env → Sta → Prop} {f : Nat} {ds : List D} {x : Str} (tk : L2.Takes X (xOf N Z Ex)) (co : CallOk N C X.prog X.w X.K X.mg X.base X.A f ds) (hg : Gl X x) (hm : X.mg x = some (.ref (N.fa f))) (hk : PySem.W.keepIn X.K (.ref (N.fa f)) = true)
    (hdb : (x == ("__debug__" : Str)) = false) : PE X (.Call (.Name x p) [] [] pos) (tOf N Z (hCall C f ds (fun _ S Q => Q [] S) Ex)) := by
  obtain ⟨k, fd, ps, dvs, dfs, F, hr, hb, hd, hds⟩ := co.run
  refine pimp (run_fn0 F hr hg hm hk hb hd (fun σ => passAt tk σ) hdb) fun σ H Q t => ?_
  obtain ⟨ρ, S, Qh, rs, rh, fz, w, kn⟩ := t
  exact ⟨[] ++ ds, S, Qh, _, hds H, rh, w, kn, KnX.of rs rh fz⟩
end
end A
end
section
set_option Elab.async false
set_option linter.all false
set_option maxRecDepth 100000
set_option maxHeartbeats 1000000
set_option maxHeartbeats 1000000 in
/-! A10: what loops and comprehensions walk. -/
namespace A
open PySem L2 PyProof.Rows

/-! ### enumerate over a list or a tuple, from any count -/
section
open PySem
theorem meets_enum1 {v : Value} {ob : Obj} {G : Heap → Prop} (B : Begins v ob G) :
    Meets (Builtin.«enumerate.__new__» ⟨[.type "enumerate", v], []⟩) (fun _ R s => G s.heap ∧
      R (.ok (.ret (.ref (s.heap.push ob).objs.size))) { s with heap := (s.heap.push ob).push { cls := .type "enumerate", data := .fields #[.none, .bool false, .ref s.heap.objs.size, rawInt 0, .none, .none] } }) := by
  refine .of_wp fun prog w A R s h => ?_
  obtain ⟨hp, g, d, tk, os⟩ := s
  obtain ⟨h1, h⟩ := h
  have hs := sub_enumerate
  have q1 : ∀ {A' : Around} {E : Value → Shared → Prop} {Q : Value → Shared → Prop}, Q (.ref hp.objs.size) ⟨hp.push ob, g, d, tk, os⟩ → wpAny (model prog w) A' (pyIter v) Q E ⟨hp, g, d, tk, os⟩ := fun q => B.iter prog w _ _ ⟨hp, g, d, tk, os⟩ _ h1 q
  wp_walk using q1
  refine wpAny_stack_any fun st => ?_
  refine wpAny_pure ?_
  split
  · rename_i c _ _ _ _ _
    cases (c == Value.type "enumerate") <;> (wp_walk using q1; exact ⟨_, rfl, h⟩)
  · wp_walk using q1
    exact ⟨_, rfl, h⟩
theorem call_enum1 {prog : Program} {w : World} {A : Around} {E : Value → Shared → Prop} {s : Shared} {v : Value} {ob : Obj} {G : Heap → Prop} {Q : Value → Shared → Prop} (B : Begins v ob G) (h1 : G s.heap)
    (h : ∀ h', IsEnum h' (s.heap.objs.size + 1) s.heap.objs.size 0 .none → h'.get? s.heap.objs.size = some ob → (∀ b o, s.heap.get? b = some o → h'.get? b = some o) → Q (.ref (s.heap.objs.size + 1)) { s with heap := h' }) :
    wpAny (model prog w) A (call (.type "enumerate") [v]) Q E s := by
  refine callType_new F.called_enumerate (by decide) (F.typeCall_enumerate_1 _) (F.newCall_enumerate_1 _) (fun obj => F.args_object_init_2 obj _) F.entry_enumerate_new (meets_enum1 B) ⟨h1, ?_⟩
  generalize hn : (s.heap.push ob).push { cls := .type "enumerate", data := .fields #[.none, .bool false, .ref s.heap.objs.size, rawInt 0, .none, .none] } = h2
  have hz : (s.heap.push ob).objs.size = s.heap.objs.size + 1 := Heap.size_push ..
  have he : IsEnum h2 (s.heap.objs.size + 1) s.heap.objs.size 0 .none := by
    subst hn
    rw [← hz]
    exact Heap.get?_push_size (s.heap.push ob) rfl
  have hk : ∀ b o, s.heap.get? b = some o → h2.get? b = some o := fun b o q => by subst hn; exact Heap.get?_push_of_some _ (Heap.get?_push_of_some _ q)
  have hi : h2.get? s.heap.objs.size = some ob := by subst hn; exact Heap.get?_push_of_some _ (Heap.get?_push_size _ B.free)
  show _ ∧ _
  rw [hz]
  exact ⟨⟨_, he, rfl⟩, h h2 he hi hk⟩
end

/-- a sequence that is walked: a list or a tuple -/
structure Src (K : PySem.W.Frag) (a : Addr) (Sq : Hp → List V → Prop) (Ia : Heap → Addr → Nat → Prop) (Ow : Heap → Array Value → Prop) (ob : Obj) : Prop where
  at_ : ∀ {X : Cx} {pins : List (Addr × Obj)} {σ : L2.St} {H : Hp} {s : Shared} {xs : List V}, X.K = K → Inv X pins σ H s → Sq H xs → ∃ its : List Value, Vals xs its ∧ Ow s.heap its.toArray
  inj : ∀ {X : Cx} {pins : List (Addr × Obj)} {σ : L2.St} {H : Hp} {s : Shared} {xs ys : List V}, X.K = K → Inv X pins σ H s → Sq H xs → Sq H ys → xs = ys
  draws : ∀ {prog : Program} {w : World} {A : Around} (hh : A.handled = none) (it : Addr) (hne : a ≠ it) (items : Array Value), Draws prog w A it [it, a] items.size (fun i v => items[i]? = some v) (fun i h => Ia h it i ∧ Ow h items)
  obj : ∀ {h : Heap} {it : Addr} {i : Nat}, Ia h it i → ∃ o, h.get? it = some o ∧ (∀ v, o.data ≠ .cell v) ∧ o.cls ≠ .type "enumerate" ∧ o.cls ≠ .type "list" ∧ o.cls ≠ .type "tuple"
  keepI : ∀ {h h' : Heap} {it : Addr} {i : Nat}, Ia h it i → (∀ o, h.get? it = some o → h'.get? it = some o) → Ia h' it i
  own : ∀ {h : Heap} {items : Array Value}, Ow h items → ∃ o, h.get? a = some o ∧ (o.cls = .type "list" ∨ o.cls = .type "tuple")
  begins : ∀ items : Array Value, Begins (.ref a) ob fun h => Ow h items
  first : ∀ {h : Heap} {it : Addr}, h.get? it = some ob → Ia h it 0
theorem src_list (K : PySem.W.Frag) (a : Addr) : Src K a (fun H xs => SqL K H a xs) (fun h it i => h.IsListIter it a i) (fun h items => h.IsList a items) { cls := .type "list_iterator", data := .fields #[.ref a, .int 0 0] } where
  at_ := fun e I q => by subst e; obtain ⟨its, r, p, _⟩ := I.list q; exact ⟨its, r, p.isList⟩
  inj := fun e I q q' => by subst e; exact I.list_inj q q'
  draws := fun hh it hne items => Draws.list hh it a hne items
  obj := fun ⟨o, h1, h2, h3⟩ => ⟨o, h1, (fun v z => by rw [h3] at z; cases z), by rw [h2]; simp, by rw [h2]; simp, by rw [h2]; simp⟩
  keepI := fun h k => h.at k
  own := fun ⟨o, h1, h2, _⟩ => ⟨o, h1, .inl h2⟩
  begins := fun items => begins_list a items
  first := fun h => ⟨_, h, rfl, rfl⟩
theorem src_tup (K : PySem.W.Frag) (a : Addr) : Src K a (fun H xs => SqT K H a xs) (fun h it i => h.IsTupleIter it a i) (fun h items => h.IsTuple a items) { cls := .type "tuple_iterator", data := .fields #[.ref a, .int 0 0] } where
  at_ := fun e I q => by subst e; obtain ⟨its, r, p, _⟩ := I.tuple q; exact ⟨its, r, p⟩
  inj := fun e I q q' => by subst e; exact I.tuple_inj q q'
  draws := fun hh it hne items => Draws.tuple hh it a hne items
  obj := fun ⟨o, h1, h2, h3⟩ => ⟨o, h1, (fun v z => by rw [h3] at z; cases z), by rw [h2]; simp, by rw [h2]; simp, by rw [h2]; simp⟩
  keepI := fun h k => h.at k
  own := fun ⟨o, h1, h2, _⟩ => ⟨o, h1, .inr h2⟩
  begins := fun items => begins_tuple a items
  first := fun h => ⟨_, h, rfl, rfl⟩
/-- pairs of a count and an item -/
def ItG (Sq : Hp → List V → Prop) (c0 : Int) : L2.It :=
  ⟨fun i H => ∃ (xs : List V) (x : V), Sq H xs ∧ xs[i]? = some x, fun i H v H' => ∃ T x, v = .ref T ∧ H T = none ∧ H' = upd H T (.tup [.int (c0 + (i : Nat)), x]) ∧ ∀ xs, Sq H xs → xs[i]? = some x, fun i H => ∃ xs : List V, Sq H xs ∧ xs.length = i⟩
theorem turn_enumG {P : Program} {w : World} {K : PySem.W.Frag} {elts : List Expr} {kk : Nat} {tpos : Pos} {a e it : Addr} {c0 : Int} {Sq : Hp → List V → Prop} {Ia : Heap → Addr → Nat → Prop} {Ow : Heap → Array Value → Prop} {ob : Obj} (R : Src K a Sq Ia Ow ob) :
    Turn P w K (.Tuple elts kk tpos) (ItG Sq c0) [e, it] e (fun i h => (∃ old, IsEnum h e it (c0 + (i : Nat)) old) ∧ Ia h it i ∧ e ≠ it) where
  mem := by simp
  obj := fun i h st b hb => by
    obtain ⟨⟨old, he⟩, hi, _⟩ := st
    have e' : b = e ∨ b = it := by simpa using hb
    rcases e' with rfl | rfl
    · exact ⟨_, he, fun v q => nomatch q⟩
    · obtain ⟨o, h1, h2, _⟩ := R.obj hi
      exact ⟨o, h1, h2⟩
  keep := fun i h h' st k => by
    obtain ⟨⟨old, he⟩, hi, hne⟩ := st
    exact ⟨⟨old, k e (by simp) _ he⟩, R.keepI hi fun o q => k it (by simp) o q, hne⟩
  item := by
    intro X hP hw hK hc i pins s σ H E I hf st hg
    subst hP hw hK
    obtain ⟨⟨old, he⟩, hit, hne⟩ := st
    obtain ⟨xs, x, hq, hx⟩ := hg
    obtain ⟨its, rv, p⟩ := R.at_ rfl I hq
    obtain ⟨u, hu, ru⟩ := rv.get hx
    obtain ⟨oa, ha1, ha2⟩ := R.own p
    obtain ⟨oi, hi1, _, _, hi2, hi3⟩ := R.obj hit
    have nae : e ≠ a := by
      rintro rfl
      have he' : s.heap.get? e = some _ := he
      rw [he'] at ha1; cases ha1
      rcases ha2 with z | z <;> simp at z
    have nai : a ≠ it := by
      rintro rfl
      rw [hi1] at ha1; cases ha1
      rcases ha2 with z | z
      · exact hi2 z
      · exact hi3 z
    have hel : e < s.heap.objs.size := Heap.lt_size he
    have hil : it < s.heap.objs.size := Heap.lt_size hi1
    have hlt : i < its.toArray.size := by
      have := (List.getElem?_eq_some_iff.mp hu).1
      simpa using this
    refine wpAny_pyNext_enum_itemC (R.draws (A := X.A.in1) (I.ok.hd hc) it nai its.toArray) he ⟨hit, p⟩ hlt hne (by simp [hne, nae]) fun y h' tk hy ho hst' hT hsz hk => ?_
    have ey : y = u := by
      have z : its[i]? = some y := by simpa using hy
      rw [hu] at z; exact (Option.some.inj z).symm
    subst ey
    refine ⟨_, rfl, wpAny_letOwnedTupleGo_enum (s := { s with heap := h', toks := tk + 1 }) ho fun h'' he' sb => ?_⟩
    have hT2 : h''.get? s.heap.objs.size = some { cls := .type "tuple", data := .seq #[.int (c0 + (i : Nat)) tk, y] } := (sb.2 _ (Nat.ne_of_gt hel)).trans hT
    have new : ObjOk X.prog X.w (upd H s.heap.objs.size (.tup [.int (c0 + (i : Nat)), x])) h'' s.heap.objs.size (.tup [.int (c0 + (i : Nat)), x]) :=
      ⟨by show 2 ≤ sizeLine; decide, [.int (c0 + (i : Nat)) tk, y], .cons ⟨_, rfl⟩ (.cons ru .nil), ⟨_, hT2, rfl, _, rfl⟩⟩
    have kk : ∀ b o, b ∉ [e, it] → s.heap.get? b = some o → h''.get? b = some o := fun b o hb q => by
      simp only [List.mem_cons, List.not_mem_nil, or_false, not_or] at hb
      exact (sb.2 b hb.1).trans (hk b o hb.1 hb.2 q)
    have I1 := I.turnedNew (t' := tk + 1) (ch := [e, it]) kk hf (Nat.le_refl _) new
    refine ⟨.ref s.heap.objs.size, _, I1, rfl, ⟨_, x, rfl, I.hok.fresh (Nat.le_refl _), rfl, fun ys hy' => by rw [R.inj rfl I hy' hq]; exact hx⟩, ⟨⟨y, ?_⟩, R.keepI hst'.1 fun o q => (sb.2 it (Ne.symm hne)).trans q, hne⟩, fun b hb => ?_⟩
    · have e1 : c0 + ((i + 1 : Nat) : Int) = c0 + (i : Nat) + 1 := by omega
      rw [e1]; exact he'
    · have hb' : b < s.heap.objs.size := by
        have e' : b = e ∨ b = it := by simpa using hb
        rcases e' with z | z
        · rw [z]; exact hel
        · rw [z]; exact hil
      rw [L2.upd_ne (Nat.ne_of_lt hb')]
      exact (hf b hb).1
  done := by
    intro X hP hw hK hc i pins s σ H E I hf st hg
    subst hP hw hK
    obtain ⟨⟨old, he⟩, hit, hne⟩ := st
    obtain ⟨xs, hq, hx⟩ := hg
    obtain ⟨its, rv, p⟩ := R.at_ rfl I hq
    obtain ⟨oa, ha1, ha2⟩ := R.own p
    obtain ⟨oi, hi1, _, _, hi2, hi3⟩ := R.obj hit
    have nai : a ≠ it := by
      rintro rfl
      rw [hi1] at ha1; cases ha1
      rcases ha2 with z | z
      · exact hi2 z
      · exact hi3 z
    obtain ⟨f0, f1, f2, f3, f4, f5⟩ := hf it (by simp)
    have hl := rv.length
    have hit2 : Ia s.heap it its.toArray.size := by
      have : its.toArray.size = i := by simp; omega
      rw [this]; exact hit
    exact wpAny_pyNext_enum_endD (R.draws (A := X.A.in1) (I.ok.hd hc) it nai its.toArray) he ⟨hit2, p⟩ fun h' eb => ⟨rfl, I.turned (t' := s.toks) (fun b o hb q => eb b o hb q) f0 f1 f3 f4 f5⟩
  self := fun A i s Q E st h => let ⟨⟨_, he⟩, _⟩ := st; wpAny_pyIter_enum he h
end A
end
section
set_option Elab.async false
set_option linter.all false
set_option maxRecDepth 100000
set_option maxHeartbeats 1000000
/-! A11: walks, by values; comprehensions. -/
namespace A
open PySem L2 PyProof.Rows
/-- what is walked: the things at h held, the items xs -/
structure WalkD (N : Nm) (J : L2.It) (h : List (Addr × MO)) (xs : List D) (H0 : Hp) : Prop where
  goes : ∀ i H S, i < xs.length → Dle H0 H → RH N H S → Held h S → J.go i H
  stops : ∀ H S, Dle H0 H → RH N H S → Held h S → J.stop xs.length H
  yields : ∀ i H S v H', i < xs.length → Dle H0 H → RH N H S → Held h S → J.yld i H v H' → ∃ d, xs[i]? = some d ∧ Fr S H S H' ∧ RH N H' S ∧ RD N H' d v
/-- a sequence that stays while h is held -/
def SeqD (N : Nm) (Sq : Hp → List V → Prop) (h : List (Addr × MO)) (xs : List D) (H0 : Hp) : Prop := ∀ H S, Dle H0 H → RH N H S → Held h S → ∃ vs, Sq H vs ∧ RDs N H xs vs
abbrev Wi := Env → Sta → (List (Addr × MO) → List D → Sta → Prop) → Prop
def tI (N : Nm) (Z : Sta × Hp) (w : Wi) : TI := fun σ H R => ∃ (ρ : Env) (S : Sta) (Qi : List (Addr × MO) → List D → Sta → Prop), RS N H σ ρ ∧ RH N H S ∧ Fr Z.1 Z.2 S H ∧ w ρ S Qi ∧
  ∀ h xs S' H' J, Fr S H S' H' → RH N H' S' → WalkD N J h xs H' → Qi h xs S' → R J H'
section
variable {N : Nm} {Z : Sta × Hp} {X : Cx} {S S' S1 : Sta} {H H' H1 H0 : Hp} {Q : VK} {Qh : K} {σ : L2.St} {ρ : Env} {pos p tpos : Pos} {a b c e o tg : Expr} {wa wb wc : Wp} {ws : Wps} {es elts : List Expr} {kk : Nat} {ad bd : Addr} {h h2 : List (Addr × MO)} {xs ys : List D}
theorem piimp {it : Expr} {t t' : TI} (h : PI X tg it t) (i : ∀ σ H R, t' σ H R → t σ H R) : PI X tg it t' := ⟨fun pins s σ H R I q => h.run pins s σ H R I (i σ H R q)⟩
theorem seq_lst (e : S1 ad = some (.lst xs)) : SeqD N (fun H vs => SqL N.K H ad vs) [(ad, .lst xs)] xs H0 := fun H S _ rh hh => by
  obtain ⟨vs, h1, r1⟩ := at_lst rh (hh (ad, .lst xs) (by simp))
  exact ⟨vs, SqL.of h1, r1⟩
theorem seq_lis (r : RD N H0 (.lis xs) (.ref ad)) : SeqD N (fun H vs => SqL N.K H ad vs) h xs H0 := fun H S f _ _ => by
  obtain ⟨a, vs, e, h1, r1⟩ := rd_lis (RD.mono f _ _ r)
  cases e
  exact ⟨vs, h1, r1⟩
theorem seq_tup (r : RD N H0 (.tup xs) (.ref ad)) : SeqD N (fun H vs => SqT N.K H ad vs) h xs H0 := fun H S f _ _ => by
  obtain ⟨a, vs, e, h1, r1⟩ := rd_tup (RD.mono f _ _ r)
  cases e
  exact ⟨vs, h1, r1⟩
theorem rds_ix {i : Nat} {vs : List V} (r : RDs N H xs vs) (hi : i < xs.length) : ∃ d v, xs[i]? = some d ∧ vs[i]? = some v ∧ RD N H d v := by
  obtain ⟨v, e, r'⟩ := r.get (List.getElem?_eq_getElem hi)
  exact ⟨_, v, List.getElem?_eq_getElem hi, e, r'⟩
theorem walkL (q : SeqD N (fun H vs => SqL N.K H ad vs) h xs H0) : WalkD N (Itl N.K ad) h xs H0 where
  goes := fun i H S hi f rh hh => by
    obtain ⟨vs, h1, r⟩ := q H S f rh hh
    obtain ⟨d, v, _, e, _⟩ := rds_ix r hi
    exact ⟨vs, v, h1, e⟩
  stops := fun H S f rh hh => by
    obtain ⟨vs, h1, r⟩ := q H S f rh hh
    exact ⟨vs, h1, by rw [r.length]; exact Nat.le_refl _⟩
  yields := fun i H S v H' hi f rh hh y => by
    obtain ⟨vs, h1, r⟩ := q H S f rh hh
    obtain ⟨e, y⟩ := y
    subst e
    obtain ⟨d, v', e1, e2, r'⟩ := rds_ix r hi
    have := y vs h1
    rw [e2] at this; cases this
    exact ⟨d, e1, Fr.refl, rh, r'⟩
theorem walkT (q : SeqD N (fun H vs => SqT N.K H ad vs) h xs H0) : WalkD N (Itt N.K ad) h xs H0 where
  goes := fun i H S hi f rh hh => by
    obtain ⟨vs, h1, r⟩ := q H S f rh hh
    obtain ⟨d, v, _, e, _⟩ := rds_ix r hi
    exact ⟨vs, v, h1, e⟩
  stops := fun H S f rh hh => by
    obtain ⟨vs, h1, r⟩ := q H S f rh hh
    exact ⟨vs, h1, by rw [r.length]; exact Nat.le_refl _⟩
  yields := fun i H S v H' hi f rh hh y => by
    obtain ⟨vs, h1, r⟩ := q H S f rh hh
    obtain ⟨e, y⟩ := y
    subst e
    obtain ⟨d, v', e1, e2, r'⟩ := rds_ix r hi
    have := y vs h1
    rw [e2] at this; cases this
    exact ⟨d, e1, Fr.refl, rh, r'⟩
theorem enumF_len : ∀ (l : List D) (c : Int), (enumF c l).length = l.length
  | [], _ => rfl
  | x :: r, c => by rw [enumF, List.length_cons, List.length_cons, enumF_len r]
theorem enumF_get : ∀ (l : List D) (c : Int) (i : Nat) (d : D), l[i]? = some d → (enumF c l)[i]? = some (.tup [.int (c + (i : Nat)), d])
  | [], _, _, _, h => by simp at h
  | x :: r, c, 0, d, h => by simp at h; subst h; simp [enumF]
  | x :: r, c, i + 1, d, h => by
    rw [enumF, List.getElem?_cons_succ, enumF_get r (c + 1) i d (by simpa using h)]
    have : c + 1 + (i : Nat) = c + ((i + 1 : Nat) : Int) := by omega
    rw [this]
theorem walkG {Sq : Hp → List V → Prop} {c0 : Int} (q : SeqD N Sq h xs H0) : WalkD N (ItG Sq c0) h (enumF c0 xs) H0 where
  goes := fun i H S hi f rh hh => by
    rw [enumF_len] at hi
    obtain ⟨vs, h1, r⟩ := q H S f rh hh
    obtain ⟨d, v, _, e, _⟩ := rds_ix r hi
    exact ⟨vs, v, h1, e⟩
  stops := fun H S f rh hh => by
    obtain ⟨vs, h1, r⟩ := q H S f rh hh
    exact ⟨vs, h1, by rw [enumF_len, r.length]⟩
  yields := fun i H S v H' hi f rh hh y => by
    rw [enumF_len] at hi
    obtain ⟨vs, h1, r⟩ := q H S f rh hh
    obtain ⟨T, x, rfl, hn, rfl, y⟩ := y
    obtain ⟨d, v', e1, e2, r'⟩ := rds_ix r hi
    have := y vs h1
    rw [e2] at this; cases this
    exact ⟨_, enumF_get xs c0 i d e1, Fr.skip hn, rh.skip hn, mk_tup (SqT.of L2.upd_same) (.cons mk_int (.cons (RD.mono (dle_new hn) _ _ r') .nil))⟩
theorem zipD_len : ∀ (l m : List D), (zipD l m).length = min l.length m.length
  | [], m => by simp [zipD]
  | x :: r, [] => by simp [zipD]
  | x :: r, y :: t => by rw [zipD, List.length_cons, List.length_cons, List.length_cons, zipD_len r t]; omega
theorem zipD_get : ∀ (l m : List D) (i : Nat) (d e : D), l[i]? = some d → m[i]? = some e → (zipD l m)[i]? = some (.tup [d, e])
  | [], _, _, _, _, h, _ => by simp at h
  | x :: r, [], _, _, _, _, h => by simp at h
  | x :: r, y :: t, 0, d, e, h, h' => by simp at h h'; subst h h'; simp [zipD]
  | x :: r, y :: t, i + 1, d, e, h, h' => by
    rw [zipD, List.getElem?_cons_succ]
    exact zipD_get r t i d e (by simpa using h) (by simpa using h')
theorem Held.left {h1 h2 : List (Addr × MO)} (x : Held (h1 ++ h2) S) : Held h1 S := fun p hp => x p (List.mem_append_left _ hp)
theorem Held.right {h1 h2 : List (Addr × MO)} (x : Held (h1 ++ h2) S) : Held h2 S := fun p hp => x p (List.mem_append_right _ hp)
theorem walkZ (q : SeqD N (fun H vs => SqL N.K H ad vs) h xs H0) (q2 : SeqD N (fun H vs => SqL N.K H bd vs) h2 ys H0) : WalkD N (Itz N.K ad bd) (h ++ h2) (zipD xs ys) H0 where
  goes := fun i H S hi f rh hh => by
    rw [zipD_len] at hi
    obtain ⟨vs, g1, r⟩ := q H S f rh hh.left
    obtain ⟨us, g2, r2⟩ := q2 H S f rh hh.right
    obtain ⟨d, v, _, e, _⟩ := rds_ix r (by omega : i < xs.length)
    obtain ⟨d', v', _, e', _⟩ := rds_ix r2 (by omega : i < ys.length)
    exact ⟨vs, us, v, v', g1, g2, e, e'⟩
  stops := fun H S f rh hh => by
    obtain ⟨vs, g1, r⟩ := q H S f rh hh.left
    obtain ⟨us, g2, r2⟩ := q2 H S f rh hh.right
    refine ⟨vs, us, g1, g2, ?_⟩
    rw [zipD_len, ← r.length, ← r2.length]
    omega
  yields := fun i H S v H' hi f rh hh y => by
    rw [zipD_len] at hi
    obtain ⟨vs, g1, r⟩ := q H S f rh hh.left
    obtain ⟨us, g2, r2⟩ := q2 H S f rh hh.right
    obtain ⟨T, x, y', rfl, hn, rfl, y1, y2⟩ := y
    obtain ⟨d, v, e1, e2, r'⟩ := rds_ix r (by omega : i < xs.length)
    obtain ⟨d', v', e1', e2', r''⟩ := rds_ix r2 (by omega : i < ys.length)
    have z1 := y1 vs g1
    rw [e2] at z1; cases z1
    have z2 := y2 us g2
    rw [e2'] at z2; cases z2
    exact ⟨_, zipD_get xs ys i d d' e1 e1', Fr.skip hn, rh.skip hn, mk_tup (SqT.of L2.upd_same) (.cons (RD.mono (dle_new hn) _ _ r') (.cons (RD.mono (dle_new hn) _ _ r'') .nil))⟩
theorem walkZT (q : SeqD N (fun H vs => SqT N.K H ad vs) h xs H0) (q2 : SeqD N (fun H vs => SqT N.K H bd vs) h2 ys H0) : WalkD N (RZ.ItzT N.K ad bd) (h ++ h2) (zipD xs ys) H0 where
  goes := fun i H S hi f rh hh => by
    rw [zipD_len] at hi
    obtain ⟨vs, g1, r⟩ := q H S f rh hh.left
    obtain ⟨us, g2, r2⟩ := q2 H S f rh hh.right
    obtain ⟨d, v, _, e, _⟩ := rds_ix r (by omega : i < xs.length)
    obtain ⟨d', v', _, e', _⟩ := rds_ix r2 (by omega : i < ys.length)
    exact ⟨vs, us, v, v', g1, g2, e, e'⟩
  stops := fun H S f rh hh => by
    obtain ⟨vs, g1, r⟩ := q H S f rh hh.left
    obtain ⟨us, g2, r2⟩ := q2 H S f rh hh.right
    refine ⟨vs, us, g1, g2, ?_⟩
    rw [zipD_len, ← r.length, ← r2.length]
    omega
  yields := fun i H S v H' hi f rh hh y => by
    rw [zipD_len] at hi
    obtain ⟨vs, g1, r⟩ := q H S f rh hh.left
    obtain ⟨us, g2, r2⟩ := q2 H S f rh hh.right
    obtain ⟨T, x, y', rfl, hn, rfl, y1, y2⟩ := y
    obtain ⟨d, v, e1, e2, r'⟩ := rds_ix r (by omega : i < xs.length)
    obtain ⟨d', v', e1', e2', r''⟩ := rds_ix r2 (by omega : i < ys.length)
    have z1 := y1 vs g1
    rw [e2] at z1; cases z1
    have z2 := y2 us g2
    rw [e2'] at z2; cases z2
    exact ⟨_, zipD_get xs ys i d d' e1 e1', Fr.skip hn, rh.skip hn, mk_tup (SqT.of L2.upd_same) (.cons (RD.mono (dle_new hn) _ _ r') (.cons (RD.mono (dle_new hn) _ _ r'') .nil))⟩
theorem walkR {n : Nat} : WalkD N (Itr 0 n) [] ((List.range n).map fun (i : Nat) => .int i) H0 where
  goes := fun i H S hi f rh hh => by
    rw [List.length_map, List.length_range] at hi
    exact hi
  stops := fun H S f rh hh => by
    rw [List.length_map, List.length_range]
    exact Nat.le_refl n
  yields := fun i H S v H' hi f rh hh y => by
    rw [List.length_map, List.length_range] at hi
    obtain ⟨rfl, rfl⟩ := y
    refine ⟨.int i, by simp [hi], Fr.refl, rh, ?_⟩
    rw [Int.zero_add]
    exact mk_int
theorem walkS {z : Str} : WalkD N (Its z) [] (z.cps.toList.map fun c => .str ⟨#[c]⟩) H0 where
  goes := fun i H S hi f rh hh => by
    rw [List.length_map, Array.length_toList] at hi
    exact hi
  stops := fun H S f rh hh => by
    rw [List.length_map, Array.length_toList]
    exact Nat.le_refl z.cps.size
  yields := fun i H S v H' hi f rh hh y => by
    obtain ⟨rfl, c, hc, rfl⟩ := y
    exact ⟨.str ⟨#[c]⟩, by simp [hc], Fr.refl, rh, mk_str⟩

/-! ### the iterators come -/
theorem iterV_list {pins : List (Addr × Obj)} {s : Shared} {vs : List V} {R : L2.It → Hp → Prop} (I : Inv X pins σ H s) (hq : SqL X.K H ad vs) (q : R (Itl X.K ad) H) : wpAny (model X.prog X.w) X.A (pyIter (.ref ad)) (PIE X pins σ tg R) X.xe s := by
  obtain ⟨its, rv, pl, hz⟩ := I.list hq
  refine wpAny_pyIter_list pl.isList ⟨s.heap.objs.size, [s.heap.objs.size], _, _, H, rfl, I.kept (t' := s.toks) fun b o e => Heap.get?_push_of_some _ e, turn_list ad _, ⟨_, Heap.get?_push_size _ rfl, rfl, rfl⟩, fun b hb => ?_, q⟩
  obtain rfl : b = s.heap.objs.size := by simpa using hb
  exact I.fpOk (Nat.le_refl _) (I.hok.fresh (Nat.le_refl _))
theorem iterV_tup {pins : List (Addr × Obj)} {s : Shared} {vs : List V} {R : L2.It → Hp → Prop} (I : Inv X pins σ H s) (hq : SqT X.K H ad vs) (q : R (Itt X.K ad) H) : wpAny (model X.prog X.w) X.A (pyIter (.ref ad)) (PIE X pins σ tg R) X.xe s := by
  obtain ⟨its, rv, pl, hz⟩ := I.tuple hq
  refine wpAny_pyIter_tuple (show s.heap.IsTuple ad its.toArray from pl) ⟨s.heap.objs.size, [s.heap.objs.size], _, _, H, rfl, I.kept (t' := s.toks) fun b o e => Heap.get?_push_of_some _ e, turn_tuple ad _, ⟨_, Heap.get?_push_size _ rfl, rfl, rfl⟩, fun b hb => ?_, q⟩
  obtain rfl : b = s.heap.objs.size := by simpa using hb
  exact I.fpOk (Nat.le_refl _) (I.hok.fresh (Nat.le_refl _))
end
end A
end
section
set_option Elab.async false
set_option linter.all false
set_option maxRecDepth 100000
set_option maxHeartbeats 1000000
/-! A12: iterables, comprehensions. -/
namespace A
open PySem L2 PyProof.Rows
section
variable {N : Nm} {Z : Sta × Hp} {X : Cx} {S S' S1 : Sta} {H H' H1 H0 : Hp} {Q : VK} {Qh : K} {σ : L2.St} {ρ : Env} {pos p tpos : Pos} {a b c e o tg : Expr} {wa wb wc : Wp} {ws : Wps} {es elts : List Expr} {kk : Nat} {ad bd : Addr} {h h2 : List (Addr × MO)} {xs ys : List D}

/-- for x in e -/
def hSeq (wa : Wp) : Wi := fun ρ S Q => wa ρ S fun x S1 => ∃ xs, items S1 x = some xs ∧ Q (holds S1 x) xs S1
theorem items_at (rh : RH N H S) {x : D} {v : V} {xs : List D} (r : RD N H x v) (e : items S x = some xs) :
    (∃ a vs, v = .ref a ∧ SqL N.K H a vs ∧ SeqD N (fun H vs => SqL N.K H a vs) (holds S x) xs H) ∨ (∃ a vs, v = .ref a ∧ SqT N.K H a vs ∧ SeqD N (fun H vs => SqT N.K H a vs) (holds S x) xs H ∧ x = .tup xs) ∨ ∃ z : Str, v = .str z ∧ holds S x = [] ∧ xs = z.cps.toList.map fun c => .str ⟨#[c]⟩ := by
  cases x with
  | tup l => cases e; obtain ⟨a, vs, rfl, h1, r1⟩ := rd_tup r; exact .inr (.inl ⟨a, vs, rfl, h1, seq_tup r, rfl⟩)
  | lis l => cases e; obtain ⟨a, vs, rfl, h1, r1⟩ := rd_lis r; exact .inl ⟨a, vs, rfl, h1, seq_lis r⟩
  | str z => cases e; cases rd_str r; exact .inr (.inr ⟨z, rfl, rfl, rfl⟩)
  | ref a =>
    cases rd_ref r
    simp only [items] at e
    cases ea : S a with
    | none => rw [ea] at e; cases e
    | some ob =>
      rw [ea] at e
      cases ob with
      | lst l =>
        cases e
        obtain ⟨vs, h1, r1⟩ := at_lst rh ea
        have hh : holds S (.ref a) = [(a, .lst xs)] := by simp only [holds, ea]
        rw [hh]
        exact .inl ⟨a, vs, rfl, SqL.of h1, seq_lst ea⟩
      | _ => cases e
  | _ => cases e
theorem hi_seq (hK : N.K = X.K) (ha : PE X e (tOf N Z wa)) : PI X tg e (tI N Z (hSeq wa)) := by
  refine ⟨fun pins s σ H R I ⟨ρ, S, Qi, rs, rh, fz, w, k⟩ => ?_⟩
  refine thn (ha.run pins s σ H (fun x H1 => (∃ a vs, x = .ref a ∧ SqL X.K H1 a vs ∧ R (Itl X.K a) H1) ∨ (∃ a vs, x = .ref a ∧ SqT X.K H1 a vs ∧ R (Itt X.K a) H1) ∨ ∃ z, x = .str z ∧ R (Its z) H1) I ⟨ρ, S, _, rs, rh, fz, w, fun d S1 v H1 f h1 r ⟨xs, e, q⟩ => ?_⟩) fun v s1 hv => ?_
  · rcases items_at h1 r e with ⟨a, vs, rfl, g1, g2⟩ | ⟨a, vs, rfl, g1, g2, _⟩ | ⟨z, rfl, g1, g2⟩
    · exact .inl ⟨a, vs, rfl, hK ▸ g1, hK ▸ k _ _ _ _ _ f h1 (walkL g2) q⟩
    · exact .inr (.inl ⟨a, vs, rfl, hK ▸ g1, hK ▸ k _ _ _ _ _ f h1 (walkT g2) q⟩)
    · rw [g1, g2] at q
      exact .inr (.inr ⟨z, rfl, k _ _ _ _ _ f h1 walkS q⟩)
  · obtain ⟨x, H1, I1, r1, hx⟩ := hv
    rcases hx with ⟨a, vs, rfl, g, q⟩ | ⟨a, vs, rfl, g, q⟩ | ⟨z, rfl, q⟩
    · cases r1; exact iterV_list I1 g q
    · cases r1; exact iterV_tup I1 g q
    · obtain ⟨t, rfl⟩ := r1
      cases ha : z.cps.all (· < 128)
      · exact wpAny_pyIter_wide ha (pi_one (tk := s1.toks) I1 _ (turn_str _ z t "str_iterator" (.inr rfl)) ⟨_, Heap.get?_push_size _ rfl, rfl, rfl⟩ q)
      · exact wpAny_pyIter_ascii ha (pi_one (tk := s1.toks) I1 _ (turn_str _ z t "str_ascii_iterator" (.inl rfl)) ⟨_, Heap.get?_push_size _ rfl, rfl, rfl⟩ q)
/-- for i in range(e) -/
def hRng (wa : Wp) : Wi := fun ρ S Q => wa ρ S fun x S1 => match x with
    | .int n => -(2 ^ 62) ≤ n ∧ n < 2 ^ 62 ∧ Q [] ((List.range n.toNat).map fun (i : Nat) => .int i) S1
    | _ => False
theorem hi_rng (hg : Gl X "range") (hm : X.mg "range" = none) (ha : PE X e (tOf N Z wa)) (pl : plainA e = true) : PI X tg (.Call (.Name "range" p) [e] [] pos) (tI N Z (hRng wa)) :=
  piimp (pi_range1 hg hm (pa_cons ha pa_nil (starEach_plain _ pl)) (starEach_plain _ pl)) fun σ H R ⟨ρ, S, Qi, rs, rh, fz, w, k⟩ => ⟨ρ, S, _, rs, rh, fz, w, fun d S1 v H1 f h1 r q => by
    cases d with
    | int n =>
      cases rd_int r
      exact ⟨n, rfl, q.1, q.2.1, k _ _ _ _ _ f h1 walkR q.2.2⟩
    | _ => exact False.elim q⟩
/-- for i, x in enumerate(e) -/
def hEnm (wa : Wp) (st : Int) : Wi := fun ρ S Q => wa ρ S fun x S1 => ∃ xs, itemsT S1 x = some xs ∧ Q (holds S1 x) (enumF st xs) S1
theorem itemsT_items {x : D} {xs : List D} (e : itemsT S x = some xs) : items S x = some xs ∧ ∀ z, x ≠ .str z := by
  cases x with
  | tup l => exact ⟨e, fun _ z => nomatch z⟩
  | lis l => exact ⟨e, fun _ z => nomatch z⟩
  | ref a => exact ⟨e, fun _ z => nomatch z⟩
  | _ => cases e
theorem boot_enum : bootBuiltins "enumerate" = some (.type "enumerate") := by decide +kernel
theorem hi_enm (hK : N.K = X.K) (hg : Gl X "enumerate") (hm : X.mg "enumerate" = none) (ha : PE X e (tOf N Z wa)) (pl : plainA e = true) : PI X (.Tuple elts kk tpos) (.Call (.Name "enumerate" p) [e] [] pos) (tI N Z (hEnm wa 0)) := by
  refine ⟨fun pins s σ H R I ⟨ρ, S, Qi, rs, rh, fz, w, k⟩ => ?_⟩
  have hA := (pa_cons ha pa_nil (starEach_plain X.env pl)).run pos pins s σ H (fun vs H1 => ∃ a ys Sq Ia Ow ob, ∃ _ : Src X.K a Sq Ia Ow ob, vs = [.ref a] ∧ Sq H1 ys ∧ R (ItG Sq 0) H1) I ⟨ρ, S, _, rs, rh, fz, w, fun d S1 v H1 f h1 r ⟨xs, e, q⟩ => ?_⟩
  · refine Call_ (ld_blt I hg hm boot_enum (PyProof.Rows.callWith_type1 (thn hA fun us s1 ⟨vs, H1, I1, r1, q1⟩ => ?_) (starEach_plain X.env pl) rfl))
    obtain ⟨a, ys, Sq, Ia, Ow, ob, src, rfl, hq, q⟩ := q1
    obtain ⟨u, rfl, ru⟩ := vals1 r1
    cases ru
    obtain ⟨its, rv, pw⟩ := src.at_ rfl I1 hq
    refine call_enum1 (src.begins its.toArray) pw fun h' he hit hk => wpAny_pyIter_enum he ?_
    have I2 : Inv X pins σ H1 { s1 with heap := h' } := I1.kept (t' := s1.toks) hk
    refine ⟨s1.heap.objs.size + 1, [s1.heap.objs.size + 1, s1.heap.objs.size], _, _, H1, rfl, I2, turn_enumG (c0 := 0) (e := s1.heap.objs.size + 1) (it := s1.heap.objs.size) src, ⟨⟨.none, he⟩, src.first hit, Nat.succ_ne_self _⟩, fun b hb => ?_, q⟩
    have hle : s1.heap.objs.size ≤ b := by
      simp only [List.mem_cons, List.not_mem_nil, or_false] at hb
      rcases hb with rfl | rfl
      · exact Nat.le_add_right _ _
      · exact Nat.le_refl _
    exact I1.fpOk hle (I1.hok.fresh hle)
  · obtain ⟨e1, ns⟩ := itemsT_items e
    rcases items_at h1 r e1 with ⟨a, vs, rfl, g1, g2⟩ | ⟨a, vs, rfl, g1, g2, _⟩ | ⟨z, rfl, g1, g2⟩
    · exact ⟨a, vs, _, _, _, _, src_list X.K a, rfl, hK ▸ g1, k _ _ _ _ _ f h1 (walkG (hK ▸ g2)) q⟩
    · exact ⟨a, vs, _, _, _, _, src_tup X.K a, rfl, hK ▸ g1, k _ _ _ _ _ f h1 (walkG (hK ▸ g2)) q⟩
    · cases d with
      | str z' => exact absurd rfl (ns z')
      | tup l => obtain ⟨_, _, z, _⟩ := rd_tup r; cases z
      | lis l => obtain ⟨_, _, z, _⟩ := rd_lis r; cases z
      | ref a => cases rd_ref r
      | _ => cases e
/-- for x, y in zip(a, b) -/
def hZip (wa wb : Wp) : Wi := fun ρ S Q => wa ρ S fun x S1 => wb ρ S1 fun y S2 => ∃ xs ys, both S2 x y xs ys ∧ Q (holds S2 x ++ holds S2 y) (zipD xs ys) S2
theorem itemsL_seq (rh : RH N H S) {x : D} {v : V} {xs : List D} (r : RD N H x v) (e : itemsL S x = some xs) : ∃ a vs, v = .ref a ∧ SqL N.K H a vs ∧ SeqD N (fun H vs => SqL N.K H a vs) (holds S x) xs H := by
  have e1 : items S x = some xs := by
    cases x with
    | lis l => exact e
    | ref a => exact e
    | _ => cases e
  rcases items_at rh r e1 with h | ⟨_, _, _, _, _, rfl⟩ | ⟨z, rfl, _, _⟩
  · exact h
  · cases e
  · cases x with
    | lis l => obtain ⟨_, _, z, _⟩ := rd_lis r; cases z
    | ref a => cases rd_ref r
    | _ => cases e
theorem hi_zip (hK : N.K = X.K) (hg : Gl X "zip") (hm : X.mg "zip" = none) (ha : PE X a (tOf N Z wa)) (hb : PE X b (tOf N Z wb)) (pl : plainA a = true) (pl2 : plainA b = true) : PI X (.Tuple elts kk tpos) (.Call (.Name "zip" p) [a, b] [] pos) (tI N Z (hZip wa wb)) := by
  refine piimp (RZ.pi_zipA hg hm (pa_cons ha (pa_cons hb pa_nil (starEach_plain X.env pl2)) (starEach_plain X.env pl)) (starEach_plain X.env pl) (star_none X.env (by rw [List.all_cons, pl2]; rfl))) fun σ H R ⟨ρ, S, Qi, rs, rh, fz, w, k⟩ => ?_
  refine ⟨ρ, S, _, rs, rh, fz, w, fun x S1 v H1 f h1 r q => ⟨ρ, S1, _, rs.mono (f.dle rh), h1, fz.trans f, q, fun y S2 u H2 f2 h2 r2 ⟨xs, ys, bo, q2⟩ => ?_⟩⟩
  have rx := RD.mono (f2.dle h1) _ _ r
  rcases bo with ⟨e1, e2⟩ | ⟨rfl, rfl⟩
  · obtain ⟨a, vs, rfl, g1, g2⟩ := itemsL_seq h2 rx e1
    obtain ⟨b, us, rfl, g3, g4⟩ := itemsL_seq h2 r2 e2
    exact ⟨a, b, vs, us, rfl, .inl ⟨hK ▸ g1, hK ▸ g3, hK ▸ k _ _ _ _ _ (f.trans f2) h2 (walkZ g2 g4) q2⟩⟩
  · obtain ⟨a, vs, rfl, g1, g2⟩ := rd_tup rx
    obtain ⟨b, us, rfl, g3, g4⟩ := rd_tup r2
    exact ⟨a, b, vs, us, rfl, .inr ⟨hK ▸ g1, hK ▸ g3, hK ▸ k _ _ _ _ _ (f.trans f2) h2 (walkZT (h := []) (h2 := []) (seq_tup rx) (seq_tup r2)) q2⟩⟩
end
end A
end
section
set_option Elab.async false
set_option linter.all false
set_option maxRecDepth 100000
set_option maxHeartbeats 1000000
/-! A13: comprehensions. -/
namespace A
open PySem L2 PyProof.Rows
section
variable {N : Nm} {Z : Sta × Hp} {X : Cx} {S S' S1 : Sta} {H H' H1 H0 : Hp} {Q : VK} {Qh : K} {σ : L2.St} {ρ : Env} {pos p tpos : Pos} {a b c e o tg iter elt : Expr} {wa wb wc wcond welt : Wp} {wi : Wi} {ad bd : Addr} {xs ys : List D} {is vs : List Nat}

/-! ### slots -/
theorem wipe_in {i : Nat} : ∀ {vs : List Nat}, i ∈ vs → ∀ {σ : L2.St}, (wipe σ vs)[i]? = if i < σ.length then some none else none
  | [], h, _ => by simp at h
  | v :: vs, h, σ => by
    unfold wipe
    have hl := wipe_length σ vs
    by_cases e : v = i
    · subst e
      by_cases hv : v < σ.length
      · rw [List.getElem?_set_self (by rw [hl]; exact hv), if_pos hv]
      · rw [List.getElem?_eq_none (by rw [List.length_set, hl]; omega), if_neg hv]
    · rw [List.getElem?_set_ne e]
      exact wipe_in ((List.mem_cons.mp h).resolve_left fun z => e z.symm)
theorem wipe_eq {σ2 : L2.St} (hl : σ2.length = σ.length) (h : ∀ j, j ∉ vs → σ2[j]? = σ[j]?) : wipe σ2 vs = wipe σ vs := by
  refine List.ext_getElem? fun j => ?_
  by_cases hj : j ∈ vs
  · rw [wipe_in hj, wipe_in hj, hl]
  · rw [wipe_out hj, wipe_out hj, h j hj]
theorem RS.wipe (rs : RS N H σ ρ) : ∀ vs : List Nat, RS N H (wipe σ vs) (wipeD ρ vs)
  | [] => rs
  | v :: vs => (RS.wipe rs vs).unset v

/-! ### targets of names -/
def gNs : List Nat → TGs
  | [] => gNil
  | i :: is => gCons (gName i) (gNs is)
def gT (K : PySem.W.Frag) : List Nat → TG
  | [i] => gName i
  | is => gTup K is.length (gNs is)
def setNV (σ : L2.St) : List Nat → List V → L2.St
  | i :: is, v :: vs => setNV (σ.set i (some v)) is vs
  | _, _ => σ
theorem setNV_len : ∀ {is : List Nat} {vs : List V} {σ : L2.St}, (setNV σ is vs).length = σ.length
  | [], _, _ => by unfold setNV; rfl
  | _ :: _, [], _ => rfl
  | i :: is, v :: vs, σ => by rw [setNV, setNV_len, List.length_set]
theorem setNV_out {j : Nat} : ∀ {is : List Nat} {vs : List V} {σ : L2.St}, j ∉ is → (setNV σ is vs)[j]? = σ[j]?
  | [], _, _, _ => by unfold setNV; rfl
  | _ :: _, [], _, _ => rfl
  | i :: is, v :: vs, σ, h => by
    simp only [List.mem_cons, not_or] at h
    rw [setNV, setNV_out h.2, List.getElem?_set_ne (Ne.symm h.1)]
theorem RS.setN : ∀ {is : List Nat} {ds : List D} {vs : List V} {σ : L2.St} {ρ : Env}, RS N H σ ρ → RDs N H ds vs → RS N H (setNV σ is vs) (setN ρ is ds)
  | [], ds, vs, σ, ρ, rs, r => by unfold setNV A.setN; exact rs
  | i :: is, [], vs, σ, ρ, rs, r => by rw [r.unnil]; exact rs
  | i :: is, d :: ds, vs, σ, ρ, rs, r => by
    obtain ⟨v, t, rfl, h1, h2⟩ := r.uncons
    rw [setNV, A.setN]
    exact RS.setN (rs.set i h1) h2
theorem gNs_at {Qg : L2.St → Hp → Prop} : ∀ {is : List Nat} {vs : List V} {σ : L2.St}, vs.length = is.length → Qg (setNV σ is vs) H → gNs is vs σ H Qg
  | [], [], σ, _, q => ⟨rfl, q⟩
  | [], _ :: _, _, h, _ => by simp at h
  | _ :: _, [], _, h, _ => by simp at h
  | i :: is, v :: vs, σ, h, q => ⟨v, vs, rfl, gNs_at (by simpa using h) q⟩
theorem tg_at (hK : N.K = X.K) {d : D} {v : V} {Qr : Env → Prop} (rs : RS N H σ ρ) (r : RD N H d v) (w : wtgN is d ρ Qr) :
    ∃ σ2 ρ2, RS N H σ2 ρ2 ∧ Qr ρ2 ∧ (∀ j, j ∉ is → σ2[j]? = σ[j]?) ∧ σ2.length = σ.length ∧ ∀ Qg : L2.St → Hp → Prop, Qg σ2 H → gT X.K is v σ H Qg := by
  have many : ∀ is : List Nat, (∀ Qg, gTup X.K is.length (gNs is) v σ H Qg → gT X.K is v σ H Qg) → (∃ l, d = .tup l ∧ l.length = is.length ∧ Qr (A.setN ρ is l)) → ∃ σ2 ρ2, RS N H σ2 ρ2 ∧ Qr ρ2 ∧ (∀ j, j ∉ is → σ2[j]? = σ[j]?) ∧ σ2.length = σ.length ∧ ∀ Qg : L2.St → Hp → Prop, Qg σ2 H → gT X.K is v σ H Qg := fun is hg ⟨l, e, w1, w2⟩ => by
    subst e
    obtain ⟨a, vs, rfl, h1, r1⟩ := rd_tup r
    exact ⟨setNV σ is vs, A.setN ρ is l, rs.setN r1, w2, fun j hj => setNV_out hj, setNV_len, fun Qg q => hg Qg ⟨a, vs, rfl, hK ▸ h1, r1.length ▸ w1, gNs_at (r1.length ▸ w1) q⟩⟩
  have tup : ∀ is : List Nat, (∀ i, is ≠ [i]) → wtgN is d ρ Qr → ∃ l, d = .tup l ∧ l.length = is.length ∧ Qr (A.setN ρ is l) := fun is hn w => by
    unfold wtgN at w
    split at w
    · exact absurd rfl (hn _)
    · cases d with
      | tup l => exact ⟨l, rfl, w.1, w.2⟩
      | _ => exact (False.elim w)
  match is, w with
  | [], w => exact many [] (fun _ q => q) (tup _ (fun _ z => nomatch z) w)
  | [i], w =>
    refine ⟨σ.set i (some v), ρ.set i (some d), rs.set i r, w, fun j hj => ?_, by rw [List.length_set], fun Qg q => q⟩
    rw [List.getElem?_set_ne (fun z => hj (by simp [z]))]
  | i :: j :: is, w => exact many (i :: j :: is) (fun _ q => q) (tup _ (fun _ z => by simp at z) w)

/-! ### frames with a private list -/
theorem RH.priv (r : RH N H S) {q : Addr} {u o : HO} (n : S q = none) (h : H q = some u) (d : Deep u = false) : RH N (upd H q o) S := fun a m e => (r a m e).mono (dle_put h d) (L2.upd_ne (sne e n))
theorem RH.tell (r : RH N H S) {q : Addr} {m : MO} (hm : RO N H q m) : RH N H (ups S q m) := fun a u e => by
  by_cases z : a = q
  · subst z; rw [ups_same] at e; cases e; exact hm
  · rw [ups_ne z] at e; exact r a u e
theorem Fr.tell {q : Addr} {m : MO} (f : Fr S H S1 H1) (n : ∀ a o, H a = some o → S a = none → a ≠ q) : Fr S H (ups S1 q m) H1 := fun a o h s => by
  obtain ⟨h1, s1⟩ := f a o h s
  exact ⟨h1, by rw [ups_ne (n a o h s)]; exact s1⟩
theorem Fr.priv {q : Addr} {o : HO} (f : Fr S H S1 H1) (n : H q = none) : Fr S H S1 (upd H1 q o) := fun a u h s => by
  obtain ⟨h1, s1⟩ := f a u h s
  exact ⟨by rw [L2.upd_ne (L2.ne_of_none h n)]; exact h1, s1⟩

def hLc (wi : Wi) (is own : List Nat) (wcond welt : Wp) : Wp := fun ρ S Q => wi ρ S fun h xs S1 =>
  wcomp h (fun x S2 R => wtgN is x (wipeD ρ own) fun ρ1 => wcond ρ1 S2 fun y S3 => wtru S3 y fun b => if b = true then welt ρ1 S3 fun d S4 => R (some d) S4 else R none S3) xs [] S1
    fun ds S5 => ∀ p, S5 p = none → Q (.ref p) (ups S5 p (.lst ds))
theorem lc_at (hK : N.K = X.K) (hsub : ∀ i ∈ is, i ∈ vs) (σ : L2.St) (H : Hp) (Q : VK) (t : tOf N Z (hLc wi is vs wcond welt) σ H Q) : tLc (tI N Z wi) (gT X.K is) (tT N Z wcond) (tOf N Z welt) vs σ H Q := by
  obtain ⟨ρ, S, Qh, rs, rh, fz, w, k⟩ := t
  refine ⟨ρ, S, _, rs, rh, fz, w, fun h xs S1 H1 J f1 h1 wk q1 => ?_⟩
  intro L hL
  generalize hF : (fun (x : D) (S2 : Sta) (R : Option D → Sta → Prop) => wtgN is x (wipeD ρ vs) fun ρ1 => wcond ρ1 S2 fun y S3 => wtru S3 y fun b => if b = true then welt ρ1 S3 fun d S4 => R (some d) S4 else R none S3) = F at q1
  generalize hP : (fun (ds : List D) (S5 : Sta) => ∀ p, S5 p = none → Qh (.ref p) (ups S5 p (.lst ds))) = P at q1
  refine ⟨fun i m H2 => m = xs.length - i ∧ i ≤ xs.length ∧ ∃ S2 acc vacc, Dle H1 H2 ∧ Fr S1 H1 S2 H2 ∧ RH N H2 S2 ∧ S2 L = none ∧ H2 L = some (.lst vacc) ∧ RDs N H2 acc vacc ∧ wcomp h F (xs.drop i) acc S2 P,
    ⟨xs.length, by simp, Nat.zero_le _, S1, [], [], dle_new hL, Fr.skip hL, h1.skip hL, h1.fresh hL, L2.upd_same, .nil, q1⟩, ?_⟩
  rintro i m H2 ⟨rfl, hi, S2, acc, vacc, dl, f2, h2, nL, eL, ra, wc⟩
  by_cases hlt : i < xs.length
  · rw [List.drop_eq_getElem_cons hlt, wcomp] at wc
    obtain ⟨hh, wc⟩ := wc
    refine .inr ⟨wk.goes i H2 S2 hlt dl h2 hh, fun H2 => ∃ S2 acc vacc, Dle H1 H2 ∧ Fr S1 H1 S2 H2 ∧ RH N H2 S2 ∧ S2 L = none ∧ H2 L = some (.lst vacc) ∧ RDs N H2 acc vacc ∧ wcomp h F (xs.drop (i + 1)) acc S2 P, fun H' n => ⟨xs.length - (i + 1), by omega, rfl, hlt, n⟩, fun x H3 y => ?_⟩
    obtain ⟨d, ed, f3, h3, r3⟩ := wk.yields i H2 S2 x H3 hlt dl h2 hh y
    rw [List.getElem?_eq_getElem hlt] at ed
    cases ed
    subst hF
    have d3 := f3.dle h2
    obtain ⟨L3, n3⟩ := f3 L _ eL nL
    have rs3 : RS N H3 (wipe σ vs) (wipeD ρ vs) := ((rs.mono (f1.dle rh)).mono (dl.trans d3)).wipe vs
    obtain ⟨σ2, ρ2, rs2, w2, same, len, go⟩ := tg_at hK rs3 r3 wc
    refine go _ ⟨wipe_eq (by rw [len, wipe_length]) fun j hj => (same j fun z => hj (hsub j z)).trans (wipe_out hj), ?_⟩
    refine ⟨ρ2, S2, _, rs2, h3, ((fz.trans f1).trans f2).trans f3, w2, fun y S3 H4 f4 h4 q4 => ?_⟩
    obtain ⟨L4, n4⟩ := f4 L _ L3 n3
    obtain ⟨j, pj, tj⟩ := wtru_some q4
    refine wtru_mk tj ?_
    have d4 := f4.dle h3
    cases j with
    | false => exact ⟨S3, acc, vacc, (dl.trans d3).trans d4, (f2.trans f3).trans f4, h4, n4, L4, (ra.mono' d3).mono' d4, pj⟩
    | true =>
      refine ⟨ρ2, S3, _, rs2.mono d4, h4, (((fz.trans f1).trans f2).trans f3).trans f4, pj, fun d' S4 v' H5 f5 h5 r5 q5 => ?_⟩
      obtain ⟨L5, n5⟩ := f5 L _ L4 n4
      have d5 := f5.dle h4
      have dL : Dle H5 (upd H5 L (.lst (vacc ++ [v']))) := dle_lst L5
      have ra5 : RDs N H5 acc vacc := ((ra.mono' d3).mono' d4).mono' d5
      exact ⟨vacc, L5, ra5.length ▸ q5.1, S4, acc ++ [d'], vacc ++ [v'], (((dl.trans d3).trans d4).trans d5).trans dL, Fr.priv (((f2.trans f3).trans f4).trans f5) hL, h5.priv n5 L5 rfl, n5, L2.upd_same,
        (ra5.append (.cons r5 .nil)).mono' dL, q5.2⟩
  · have e : i = xs.length := by omega
    subst e
    rw [List.drop_length, wcomp] at wc
    obtain ⟨hh, wc⟩ := wc
    rw [← hP] at wc
    refine .inl ⟨wk.stops H2 S2 dl h2 hh, k _ _ _ _ ((f1.trans f2).tell fun a o z s => ?_) (h2.tell (m := .lst acc) ⟨vacc, eL, ra⟩) mk_ref (wc L nL)⟩
    exact L2.ne_of_none (f1 a o z s).1 hL
/-- the facts of a comprehension, as the layer asks them -/
structure LcOk (N : Nm) (Z : Sta × Hp) (X : Cx) (elt tg iter : Expr) (ifs : List Expr) (scope : Scope) (own : List (Str × Nat)) (is : List Nat) (wi : Wi) (wcond welt : Wp) : Prop where
  calm : X.calm = true
  nd : X.N.Nodup
  it : PI X tg iter (tI N Z wi)
  ok : BlkOk X.N X.env.scope scope own
  tg : ∀ (s : Shared) (H : Hp) (C : Addr) (cl : List (Str × Addr)) (fp : List Addr), PG (X.blk s H scope (compEnvC scope cl C X.env) fp) tg (gT X.K is)
  cond : ∀ (s : Shared) (H : Hp) (C : Addr) (cl : List (Str × Addr)) (fp : List Addr), PTs (X.blk s H scope (compEnvC scope cl C X.env) fp) ifs (tT N Z wcond)
  elt : ∀ (s : Shared) (H : Hp) (C : Addr) (cl : List (Str × Addr)) (fp : List Addr), PE (X.blk s H scope (compEnvC scope cl C X.env) fp) elt (tOf N Z welt)
  fold : ∀ x, foldedSetIterable iter X.env x = pure x
  sub : ∀ i ∈ is, i ∈ own.map (·.2)
variable {ifs : List Expr} {scope : Scope} {own : List (Str × Nat)}
theorem he_lc (hK : N.K = X.K) (L : LcOk N Z X elt tg iter ifs scope own is wi wcond welt) : PE X (.ListComp elt [⟨tg, iter, ifs, 0⟩] scope pos) (tOf N Z (hLc wi is (own.map (·.2)) wcond welt)) :=
  pimp (pe_lc L.calm L.nd L.it L.ok L.tg L.cond L.elt L.fold) (lc_at hK L.sub)
end
end A
end
section
set_option Elab.async false
set_option linter.all false
set_option maxRecDepth 100000
set_option maxHeartbeats 1000000
/-! A14: statements. -/
namespace A
open PySem L2 PyProof.Rows
abbrev Ws := Env → Sta → A.Ends → Prop
/-- the ends of the small language, in the layer; Y: a state and a heap passed on the way -/
structure En (N : Nm) (Y : Sta × Hp) (T : A.Ends) (D : L2.Ends) : Prop where
  nx : ∀ ρ S σ H, RS N H σ ρ → RH N H S → Fr Y.1 Y.2 S H → T.nx ρ S → D.nx σ H
  bk : ∀ ρ S σ H, RS N H σ ρ → RH N H S → Fr Y.1 Y.2 S H → T.bk ρ S → D.bk σ H
  ct : ∀ ρ S σ H, RS N H σ ρ → RH N H S → Fr Y.1 Y.2 S H → T.ct ρ S → D.ct σ H
  rt : ∀ d S v H, RH N H S → Fr Y.1 Y.2 S H → RD N H d v → T.rt d S → D.rt v H
def tSs (N : Nm) (Z : Sta × Hp) (Ex : D → Env → Sta → Prop) (w : Ws) : TS := fun D σ H => ∃ (Y : Sta × Hp) (ρ : Env) (S : Sta) (T : A.Ends), Fr Z.1 Z.2 Y.1 Y.2 ∧ Fr Y.1 Y.2 S H ∧ RS N H σ ρ ∧ RH N H S ∧ T.ex = Ex ∧ w ρ S T ∧ En N Y T D
section
variable {N : Nm} {Z : Sta × Hp} {X : Cx} {S S' S1 : Sta} {H H' H1 H0 : Hp} {Q : VK} {Qh : K} {σ : L2.St} {ρ : Env} {pos p pos' tpos : Pos} {a b c e o tg iter elt : Expr} {Ex : D → Env → Sta → Prop} {w w1 w2 : Ws} {is : List Nat} {st : Stmt} {sts body : List Stmt}
/-- the reading of an expression within a statement: its errors go where the statement's go -/
abbrev Wx := (D → Env → Sta → Prop) → Env → Sta → K → Prop
theorem psimp {t t' : TS} (h : PS X st t) (i : ∀ D σ H, t' D σ H → t D σ H) : PS X st t' := ⟨fun pins s σ H D I q => h.run pins s σ H D I (i D σ H q)⟩
theorem pssimp {t t' : TS} (h : PSs X sts t) (i : ∀ D σ H, t' D σ H → t D σ H) : PSs X sts t' := ⟨fun pins s σ H D I q => h.run pins s σ H D I (i D σ H q)⟩
theorem hs_nev (hw : ∀ ρ S T, ¬ w ρ S T) : PS X st (tSs N Z Ex w) := ⟨fun _ _ _ _ _ _ ⟨Y, ρ, S, T, _, _, _, _, _, q, _⟩ => (hw _ _ _ q).elim⟩
theorem hss_nil : PSs X [] (tSs N Z Ex fun ρ S T => T.nx ρ S) := pssimp pss_nil fun D σ H ⟨Y, ρ, S, T, fy, fs, rs, rh, ex, q, en⟩ => en.nx ρ S σ H rs rh fs q
theorem hss_cons (h1 : PS X st (tSs N Z Ex w1)) (h2 : PSs X sts (tSs N Z Ex w2)) : PSs X (st :: sts) (tSs N Z Ex fun ρ S T => w1 ρ S { nx := fun ρ' S' => w2 ρ' S' T, rt := T.rt, bk := T.bk, ct := T.ct, ex := T.ex }) :=
  pssimp (pss_cons h1 h2) fun D σ H ⟨Y, ρ, S, T, fy, fs, rs, rh, ex, q, en⟩ => ⟨Y, ρ, S, { nx := fun ρ' S' => w2 ρ' S' T, rt := T.rt, bk := T.bk, ct := T.ct, ex := T.ex }, fy, fs, rs, rh, ex, q,
    ⟨fun ρ' S' σ' H' rs' rh' fs' q' => ⟨Y, ρ', S', T, fy, fs', rs', rh', ex, q', en⟩, en.bk, en.ct, en.rt⟩⟩
theorem hs_pass : PS X (.Pass pos) (tSs N Z Ex fun ρ S T => T.nx ρ S) := psimp ps_pass fun D σ H ⟨Y, ρ, S, T, fy, fs, rs, rh, ex, q, en⟩ => en.nx ρ S σ H rs rh fs q
theorem hs_brk : PS X (.Break pos) (tSs N Z Ex fun ρ S T => T.bk ρ S) := psimp ps_break fun D σ H ⟨Y, ρ, S, T, fy, fs, rs, rh, ex, q, en⟩ => en.bk ρ S σ H rs rh fs q
theorem hs_cont : PS X (.Continue pos) (tSs N Z Ex fun ρ S T => T.ct ρ S) := psimp ps_continue fun D σ H ⟨Y, ρ, S, T, fy, fs, rs, rh, ex, q, en⟩ => en.ct ρ S σ H rs rh fs q
variable {we wt wi' : Wx}
/-- an expression at a statement's beginning -/
theorem eat {R : VK} {g : Env → D → Sta → A.Ends → Prop} {D : L2.Ends} (t : tSs N Z Ex (fun ρ S T => we T.ex ρ S fun d S1 => g ρ d S1 T) D σ H)
    (k : ∀ Y ρ S1 H1 d v T, Fr Z.1 Z.2 Y.1 Y.2 → Fr Y.1 Y.2 S1 H1 → RS N H1 σ ρ → RH N H1 S1 → RD N H1 d v → T.ex = Ex → g ρ d S1 T → En N Y T D → R v H1) : tOf N Z (we Ex) σ H R := by
  obtain ⟨Y, ρ, S, T, fy, fs, rs, rh, ex, q, en⟩ := t
  subst ex
  exact ⟨ρ, S, _, rs, rh, fy.trans fs, q, fun d S1 v H1 f h1 r q1 => k Y ρ S1 H1 d v T fy (fs.trans f) (rs.mono (f.dle rh)) h1 r rfl q1 en⟩
theorem hs_ret (he : PE X e (tOf N Z (we Ex))) : PS X (.Return (some e) pos) (tSs N Z Ex fun ρ S T => we T.ex ρ S T.rt) :=
  psimp (ps_ret he) fun D σ H t => eat (g := fun ρ d S1 T => T.rt d S1) t fun Y ρ S1 H1 d v T fy f rs rh r ex q en => en.rt d S1 v H1 rh f r q
theorem hs_retN : PS X (.Return none pos) (tSs N Z Ex fun ρ S T => T.rt .non S) := psimp ps_retN fun D σ H ⟨Y, ρ, S, T, fy, fs, rs, rh, ex, q, en⟩ => en.rt .non S .non H rh fs mk_non q
theorem hs_ex (he : PE X e (tOf N Z (we Ex))) (hs : swapsWith e none pos.line X.env = pure false) : PS X (.Expr e pos) (tSs N Z Ex fun ρ S T => we T.ex ρ S fun _ S1 => T.nx ρ S1) :=
  psimp (ps_expr he hs) fun D σ H t => eat (g := fun ρ d S1 T => T.nx ρ S1) t fun Y ρ S1 H1 d v T fy f rs rh r ex q en => en.nx ρ S1 σ H1 rs rh f q
theorem hs_ite {sa sb : List Stmt} (ht : PT X e (tT N Z (wt Ex))) (ha : PSs X sa (tSs N Z Ex w1)) (hb : PSs X sb (tSs N Z Ex w2)) : PS X (.If e sa sb pos) (tSs N Z Ex fun ρ S T => wt T.ex ρ S fun x S1 => wtru S1 x fun c => if c = true then w1 ρ S1 T else w2 ρ S1 T) :=
  psimp (ps_if ht ha hb) fun D σ H ⟨Y, ρ, S, T, fy, fs, rs, rh, ex, q, en⟩ => by
    subst ex
    refine ⟨ρ, S, _, rs, rh, fy.trans fs, q, fun x S1 H1 f h1 q1 => ?_⟩
    obtain ⟨j, pj, tj⟩ := wtru_some q1
    refine wtru_mk tj ?_
    cases j with
    | true => exact ⟨Y, ρ, S1, T, fy, fs.trans f, rs.mono (f.dle rh), h1, rfl, pj, en⟩
    | false => exact ⟨Y, ρ, S1, T, fy, fs.trans f, rs.mono (f.dle rh), h1, rfl, pj, en⟩

/-! ### targets -/
/-- a target takes a value -/
theorem hs_asgN (hK : N.K = X.K) (he : PE X e (tOf N Z (we Ex))) (hg : PG X tg (gT X.K is)) (hs : swapsWithSole [tg] e pos.line X.env = pure false) (hw : swappedStores [tg] e X.env = pure none)
    (h1 : (assignEach [tg] X.env).map (·.2) = [assign tg X.env]) : PS X (.Assign [tg] e pos) (tSs N Z Ex fun ρ S T => we T.ex ρ S fun d S1 => wtgN is d ρ fun ρ1 => T.nx ρ1 S1) :=
  psimp (ps_asg he hg hs hw h1) fun D σ H t => eat (g := fun ρ d S1 T => wtgN is d ρ fun ρ1 => T.nx ρ1 S1) t fun Y ρ S1 H1 d v T fy f rs rh r ex q en => by
    obtain ⟨σ2, ρ2, rs2, q2, _, _, go⟩ := tg_at hK rs r q
    exact go _ (en.nx ρ2 S1 σ2 H1 rs2 rh f q2)
theorem hs_asgLc (hK : N.K = X.K) {i : Nat} {y : Str} {py spos : Pos} {ifs : List Expr} {scope : Scope} {own : List (Str × Nat)} {wi : (D → Env → Sta → Prop) → Wi} {wcond welt : Wp} (L : LcOk N Z X elt tg iter ifs scope own is (wi Ex) wcond welt) (hy : X.N[i]? = some y) (hyl : X.env.scope.names.lookup y = some .local)
    (hsw : swapsWith (.ListComp elt [⟨tg, iter, ifs, 0⟩] scope pos) (some (.Name y py)) spos.line X.env = pure true) :
    PS X (.Assign [.Name y py] (.ListComp elt [⟨tg, iter, ifs, 0⟩] scope pos) spos) (tSs N Z Ex fun ρ S T => hLc (wi T.ex) is (own.map (·.2)) wcond welt ρ S fun d S1 => wtgN [i] d ρ fun ρ1 => T.nx ρ1 S1) :=
  psimp (ps_setLc L.calm L.nd hy hyl hsw L.it L.ok L.tg L.cond L.elt L.fold) fun D σ H t => lc_at hK L.sub σ H _ <|
    eat (we := fun Ex => hLc (wi Ex) is (own.map (·.2)) wcond welt) (g := fun ρ d S1 T => wtgN [i] d ρ fun ρ1 => T.nx ρ1 S1) t fun Y ρ S1 H1 d v T fy f rs rh r ex q en => en.nx _ S1 _ H1 (rs.set i r) rh f q

/-! ### o[i] = v -/
def rSetW (N : Nm) : TSet := fun o i v H Q => ∃ x y d S Qs, RH N H S ∧ RD N H x o ∧ RD N H y i ∧ RD N H d v ∧ wsetix x y d S Qs ∧ ∀ S' H', Fr S H S' H' → RH N H' S' → Qs S' → Q H'
theorem set_or {t t' : TSet} (h : PSet X t) (h' : PSet X t') : PSet X (fun o i v H Q => t o i v H Q ∨ t' o i v H Q) := by
  intro pins s σ H o i v ov iv u Q I r1 r2 r3 q
  rcases q with q | q
  · exact h pins s σ H o i v ov iv u Q I r1 r2 r3 q
  · exact h' pins s σ H o i v ov iv u Q I r1 r2 r3 q
theorem set_W (hu : X.A.units + 1 < cLine) : PSet X (rSetW N) := by
  have base := set_or (set_list (X := X)) (set_dict hu)
  intro pins s σ H o i v ov iv u Q I r1 r2 r3 h
  refine base pins s σ H o i v ov iv u Q I r1 r2 r3 ?_
  obtain ⟨x, y, d, S, Qs, rh, rx, ry, rd, w, k⟩ := h
  cases x with
  | ref a =>
    cases rd_ref rx
    simp only [wsetix] at w
    cases ea : S a with
    | none => rw [ea] at w; exact w.elim
    | some ob =>
      rw [ea] at w
      cases ob with
      | lst l =>
        cases y with
        | int n =>
          cases rd_int ry
          obtain ⟨j, hj, q⟩ := w
          obtain ⟨vs, h1, r⟩ := at_lst rh ea
          exact .inl ⟨a, vs, n, j, rfl, rfl, h1, r.length ▸ hj, k _ _ (Fr.put ea) (rh.put h1 rfl (m := .lst (l.set j d)) ⟨vs.set j v, L2.upd_same, (r.set j rd).mono' (dle_lst h1)⟩) q⟩
        | _ => exact (False.elim w)
      | dic kvs =>
        obtain ⟨hl, key, ek, q⟩ := w
        obtain ⟨ws, h1, e1, r⟩ := at_dic rh ea
        obtain ⟨g1, g2⟩ := kput_rel (k := key) rd e1 r
        have hl' : ws.length < sizeLine := by
          have := congrArg List.length e1
          simp only [List.length_map] at this
          omega
        rw [key_rd ek ry]
        exact .inr ⟨a, _, rfl, DPut.k h1 hl', k _ _ (Fr.put ea) (rh.put h1 rfl (m := .dic (kput kvs key d)) ⟨_, L2.upd_same, g1, g2.mono' (dle_put h1 rfl)⟩) q⟩
      | _ => exact w.elim
  | _ => exact (False.elim w)
theorem assign_sub {v : Value} {env : PySem.Env} (pl : plainIx b = true) : assign (.Subscript a b pos) env v = (do
      let ov ← holding [v] (eval a env)
      let iv ← holding [v, ov] (eval b env)
      standAt pos
      holding [v, ov, iv] (setItem ov iv v)
      release [v, ov, iv] []) := by
  cases b <;> first | rfl | cases pl
/-- in a name's store nothing is swapped -/
theorem hs_asgI (hu : X.A.units + 1 < cLine) {we wa wb : Wx} (he : PE X e (tOf N Z (we Ex))) (ha : PE X a (tOf N Z (wa Ex))) (hb : PE X b (tOf N Z (wb Ex))) (pl : plainIx b = true) :
    PS X (.Assign [.Subscript a b pos'] e pos) (tSs N Z Ex fun ρ S T => we T.ex ρ S fun d S1 => wa T.ex ρ S1 fun x S2 => wb T.ex ρ S2 fun y S3 => wsetix x y d S3 fun S4 => T.nx ρ S4) := by
  have hs : swapsWithSole [.Subscript a b pos'] e pos.line X.env = pure false := by
    cases e <;> rfl
  have hw : swappedStores [.Subscript a b pos'] e X.env = pure none := by rfl
  refine psimp (ps_asg he (pg_sub ha hb (set_W (N := N) hu) fun v => assign_sub pl) hs hw rfl) fun D σ H t => ?_
  refine eat (g := fun ρ d S1 T => wa T.ex ρ S1 fun x S2 => wb T.ex ρ S2 fun y S3 => wsetix x y d S3 fun S4 => T.nx ρ S4) t fun Y ρ S1 H1 d v T fy f rs rh r ex q en => ?_
  subst ex
  refine ⟨ρ, S1, _, rs, rh, fy.trans f, q, fun x S2 u H2 f2 h2 r2 q2 => ?_⟩
  refine ⟨ρ, S2, _, rs.mono (f2.dle rh), h2, (fy.trans f).trans f2, q2, fun y S3 u2 H3 f3 h3 r3 q3 => ?_⟩
  exact ⟨x, y, d, S3, _, h3, RD.mono (f3.dle h2) _ _ r2, r3, RD.mono (f3.dle h2) _ _ (RD.mono (f2.dle rh) _ _ r), q3, fun S4 H4 f4 h4 q4 =>
    en.nx ρ S4 σ H4 (((rs.mono (f2.dle rh)).mono (f3.dle h2)).mono (f4.dle h3)) h4 (((f.trans f2).trans f3).trans f4) q4⟩

/-! ### op= -/
def rIp (N : Nm) (o : Bo) : R2 := fun v u H Q => ∃ x y S Qh, RH N H S ∧ RD N H x v ∧ RD N H y u ∧ wip o x y S Qh ∧ Kn N S H Qh Q
theorem iop_W : ∀ o : Bo, OpR X (inplaceOp (boOp o)) (rIp N o)
  | .add => oimp (iop_add.or iop_add_str) fun v u H Q ⟨x, y, S, Qh, rh, rx, ry, w, k⟩ => by
    cases x <;> cases y <;> first | exact False.elim w | skip
    · cases rd_int rx; cases rd_int ry
      exact .inl ⟨_, _, rfl, rfl, k.at rh mk_int w⟩
    · cases rd_str rx; cases rd_str ry
      exact .inr ⟨_, _, rfl, rfl, w.1, k.at rh mk_str w.2⟩
  | .sub => oimp iop_sub fun v u H Q ⟨x, y, S, Qh, rh, rx, ry, w, k⟩ => by
    cases x <;> cases y <;> first | exact False.elim w | skip
    cases rd_int rx; cases rd_int ry
    exact ⟨_, _, rfl, rfl, k.at rh mk_int w⟩
  | .mul => oimp iop_mul fun v u H Q ⟨x, y, S, Qh, rh, rx, ry, w, k⟩ => by
    cases x <;> cases y <;> first | exact False.elim w | skip
    cases rd_int rx; cases rd_int ry
    exact ⟨_, _, rfl, rfl, w.1, k.at rh mk_int w.2⟩
  | .div => oimp iop_fdiv fun v u H Q ⟨x, y, S, Qh, rh, rx, ry, w, k⟩ => by
    cases x <;> cases y <;> first | exact False.elim w | skip
    cases rd_int rx; cases rd_int ry
    exact ⟨_, _, rfl, rfl, w.1, k.at rh mk_int w.2⟩
  | .mod => oimp iop_mod fun v u H Q ⟨x, y, S, Qh, rh, rx, ry, w, k⟩ => by
    cases x <;> cases y <;> first | exact False.elim w | skip
    cases rd_int rx; cases rd_int ry
    exact ⟨_, _, rfl, rfl, w.1, k.at rh mk_int w.2⟩
  | .pow => fun _ _ _ _ _ _ _ _ _ _ _ _ ⟨x, y, S, Qh, rh, rx, ry, w, k⟩ => by
    cases x <;> cases y <;> exact False.elim w
theorem hs_aug {o : Bo} {i : Nat} {x : Str} (hxs : ∀ r, N.xs = some r → r.1 ≠ i) (hN : X.N.Nodup) (hi : X.N[i]? = some x) (hx : Loc X.env.scope x) (hf : X.fn x = true ∨ X.env.scope.names.lookup x = some .local) (he : PE X e (tOf N Z (we Ex))) :
    PS X (.AugAssign (.Name x pos') (boOp o) e pos) (tSs N Z Ex fun ρ S T => ∃ d, ρ[i]? = some (some d) ∧ we T.ex ρ S fun y S1 => wip o d y S1 fun z S2 => T.nx (ρ.set i (some z)) S2) :=
  psimp (ps_aug (ti := rIp N o) hN hi hx he (iop_W o) hf) fun D σ H ⟨Y, ρ, S, T, fy, fs, rs, rh, ex, ⟨d, hd, q⟩, en⟩ => by
    subst ex
    obtain ⟨v, hv, rv⟩ := rs.at hxs hd
    refine ⟨v, hv, ρ, S, _, rs, rh, fy.trans fs, q, fun y S1 u H1 f h1 r q1 => ?_⟩
    exact ⟨d, y, S1, _, h1, RD.mono (f.dle rh) _ _ rv, r, q1, fun z S2 v2 H2 f2 h2 r2 q2 => en.nx _ S2 _ H2 (((rs.mono (f.dle rh)).mono (f2.dle h1)).set i r2) h2 ((fs.trans f).trans f2) q2⟩
def rGet (N : Nm) : V → V → Hp → VK → Prop := rIxA N
theorem get_list : L2.PGet X (fun o i H Q => ∃ a vs n v, o = .ref a ∧ i = .int n ∧ SqL X.K H a vs ∧ L2.atI vs n = some v ∧ Q v H) := by
  intro pins s σ H o i ov iv Q I ro ri h
  obtain ⟨a, vs, n, v, rfl, rfl, hq, he, q⟩ := h
  cases ro
  obtain ⟨t, rfl⟩ := ri
  obtain ⟨its, r, pl, hz⟩ := I.list hq
  obtain ⟨j, h1, h2, h3, h4, h5⟩ := atI_get he
  obtain ⟨w, ew, rw'⟩ := r.get h2
  have hl := r.length
  have hn := line63
  by_cases h0 : 0 ≤ n
  · have hj : n.toNat = j := by
      rw [seqIndex_of h0 h5] at h1
      exact Option.some.inj h1
    exact wpAny_getItem_list pl.isList h0 (by omega) (by rw [hj]; simpa using ew) ⟨v, H, I, rw', q⟩
  · have hj : (n + (its.toArray.size : Int)).toNat = j := by
      rw [seqIndex_neg (by omega) h4] at h1
      rw [List.size_toArray, ← hl]
      exact Option.some.inj h1
    exact wpAny_getItem_list_neg pl.isList (by omega) (by rw [List.size_toArray] <;> omega) (by omega) (by rw [hj]; simpa using ew) ⟨v, H, I, rw', q⟩
theorem get_W (hu : X.A.units + 1 < cLine) : L2.PGet X (fun v u H Q => ∃ x y S Qh, RH N H S ∧ RD N H x v ∧ RD N H y u ∧ wixM x y S Qh ∧ Kn N S H Qh Q) := by
  intro pins s σ H o i ov iv Q I ro ri ⟨x, y, S, Qh, rh, rx, ry, w, k⟩
  cases x with
  | ref a =>
    cases rd_ref rx
    simp only [wixM, wix] at w
    have dic : ∀ kvs, (S a = some (.dic kvs) ∨ S a = some (.dicF kvs)) → (∃ k d, keyD y = some k ∧ kget kvs k = some d ∧ Qh d S) → wpAny (model X.prog X.w) X.A (getItem ov iv) (EP X pins σ Q) X.xe s := fun kvs hs ⟨key, d, h1, h2, q⟩ => by
      obtain ⟨o, g, z⟩ := dget_of rh hs key
      rcases z with ⟨z, _⟩ | ⟨d', v', z1, z2, z3⟩
      · rw [z] at h2; cases h2
      · rw [z1] at h2; cases h2
        subst z2
        have er := key_rd h1 ry
        subst er
        cases ro
        exact d_getItem hu I g ri fun w' s' I' r' => ⟨v', H, I', r', k.at rh z3 q⟩
    cases ea : S a with
    | none => rw [ea] at w; exact w.elim
    | some ob =>
      rw [ea] at w
      cases ob with
      | lst l =>
        cases y with
        | int n =>
          cases rd_int ry
          obtain ⟨d, e, q⟩ := w
          obtain ⟨vs, h1, r⟩ := at_lst rh ea
          obtain ⟨v, e', r'⟩ := rds_at r e
          exact get_list pins s σ H _ _ ov iv Q I ro ri ⟨a, vs, n, v, rfl, rfl, SqL.of h1, e', k.at rh r' q⟩
        | _ => exact (False.elim w)
      | dic kvs => exact dic kvs (.inl ea) w
      | dicF kvs => exact dic kvs (.inr ea) w
      | _ => exact w.elim
  | _ => exact (False.elim w)
theorem aug_sub (pl : plainIx b = true) : ∀ ov iv new, augStore b ov iv new = (do holding [new, ov, iv] (setItem ov iv new); release [new, ov, iv] []; pure .next) := by
  intro ov iv new
  cases b <;> first | rfl | cases pl
theorem hs_augI (hu : X.A.units + 1 < cLine) {o : Bo} {wa wb : Wx} (ha : PE X a (tOf N Z (wa Ex))) (hb : PE X b (tOf N Z (wb Ex))) (he : PE X e (tOf N Z (we Ex))) (pl : plainIx b = true) :
    PS X (.AugAssign (.Subscript a b pos') (boOp o) e pos) (tSs N Z Ex fun ρ S T => wa T.ex ρ S fun x S1 => wb T.ex ρ S1 fun k S2 => wixM x k S2 fun d S3 => we T.ex ρ S3 fun y S4 => wip o d y S4 fun z S5 => wsetix x k z S5 fun S6 => T.nx ρ S6) :=
  psimp (ps_augS (tip := rIp N o) ha hb (get_W (N := N) hu) he (iop_W o) (set_W (N := N) hu) (aug_sub pl)) fun D σ H t => by
    refine eat (g := fun ρ x S1 T => wb T.ex ρ S1 fun k S2 => wixM x k S2 fun d S3 => we T.ex ρ S3 fun y S4 => wip o d y S4 fun z S5 => wsetix x k z S5 fun S6 => T.nx ρ S6) t fun Y ρ S1 H1 x v T fy f rs rh r ex q en => ?_
    subst ex
    refine ⟨ρ, S1, _, rs, rh, fy.trans f, q, fun k S2 u H2 f2 h2 r2 q2 => ?_⟩
    have rs2 := rs.mono (f2.dle rh)
    have r' := RD.mono (f2.dle rh) _ _ r
    refine ⟨x, k, S2, _, h2, r', r2, q2, fun d S3 v3 H3 f3 h3 r3 q3 => ?_⟩
    have rs3 := rs2.mono (f3.dle h2)
    refine ⟨ρ, S3, _, rs3, h3, ((fy.trans f).trans f2).trans f3, q3, fun y S4 v4 H4 f4 h4 r4 q4 => ?_⟩
    refine ⟨d, y, S4, _, h4, RD.mono (f4.dle h3) _ _ r3, r4, q4, fun z S5 v5 H5 f5 h5 r5 q5 => ?_⟩
    have m35 : Dle H2 H5 := ((f3.dle h2).trans (f4.dle h3)).trans (f5.dle h4)
    exact ⟨x, k, z, S5, _, h5, RD.mono m35 _ _ r', RD.mono m35 _ _ r2, r5, q5, fun S6 H6 f6 h6 q6 => en.nx ρ S6 σ H6 ((rs2.mono m35).mono (f6.dle h5)) h6 (((((f.trans f2).trans f3).trans f4).trans f5).trans f6) q6⟩

/-! ### loops -/
theorem hs_whl (hp : PassesOwn (model X.prog X.w) X.A X.env X.xe) (ht : PT X e (tT N Z (wt Ex))) (hb : PSs X body (tSs N Z Ex w1)) : PS X (.While e body [] pos) (tSs N Z Ex fun ρ S T => ∃ I : Nat → Env → Sta → Prop, (∃ m, I m ρ S) ∧ ∀ m ρ S, I m ρ S → wt T.ex ρ S fun x S1 => wtru S1 x fun c =>
      if c = true then w1 ρ S1 { nx := fun ρ' S' => ∃ m', m' < m ∧ I m' ρ' S', rt := T.rt, bk := T.nx, ct := fun ρ' S' => ∃ m', m' < m ∧ I m' ρ' S', ex := T.ex } else T.nx ρ S1) :=
  psimp (ps_while hp ht hb) fun D σ H ⟨Y, ρ, S, T, fy, fs, rs, rh, ex, ⟨I, ⟨m0, i0⟩, q⟩, en⟩ => by
    subst ex
    refine ⟨fun m σ H => ∃ ρ S, RS N H σ ρ ∧ RH N H S ∧ Fr Y.1 Y.2 S H ∧ I m ρ S, ⟨m0, ρ, S, rs, rh, fs, i0⟩, fun m σ H ⟨ρ, S, rs, rh, fs, im⟩ => ?_⟩
    refine ⟨ρ, S, _, rs, rh, fy.trans fs, q m ρ S im, fun x S1 H1 f h1 q1 => ?_⟩
    obtain ⟨j, pj, tj⟩ := wtru_some q1
    refine wtru_mk tj ?_
    have rs1 := rs.mono (f.dle rh)
    cases j with
    | false => exact en.nx ρ S1 σ H1 rs1 h1 (fs.trans f) pj
    | true =>
      refine ⟨fun σ' H' => ∃ m', m' < m ∧ ∃ ρ S, RS N H' σ' ρ ∧ RH N H' S ∧ Fr Y.1 Y.2 S H' ∧ I m' ρ S, fun σ' H' h => h, Y, ρ, S1, { nx := fun ρ' S' => ∃ m', m' < m ∧ I m' ρ' S', rt := T.rt, bk := T.nx, ct := fun ρ' S' => ∃ m', m' < m ∧ I m' ρ' S', ex := T.ex }, fy, fs.trans f, rs1, h1, rfl, pj, ?_⟩
      exact ⟨fun ρ' S' σ' H' rs' rh' fs' ⟨m', hm, i'⟩ => ⟨m', hm, ρ', S', rs', rh', fs', i'⟩, en.nx, fun ρ' S' σ' H' rs' rh' fs' ⟨m', hm, i'⟩ => ⟨m', hm, ρ', S', rs', rh', fs', i'⟩, en.rt⟩
/-- a turn of a for -/
def wTurn (is : List Nat) (w1 : Ws) (T : A.Ends) : A.D → Env → Sta → (Env → Sta → Prop) → Prop := fun x ρ S R => wtgN is x ρ fun ρ1 => w1 ρ1 S { nx := R, rt := T.rt, bk := T.nx, ct := R, ex := T.ex }
theorem hs_for {wi : (D → Env → Sta → Prop) → Wi} (hK : N.K = X.K) (hp : PassesOwn (model X.prog X.w) X.A X.env X.xe) (hc : X.calm = true) (hi : PI X tg iter (tI N Z (wi Ex))) (hg : PG X tg (gT X.K is)) (hb : PSs X body (tSs N Z Ex w1))
    (hf : ∀ x, foldedSetIterable iter X.env x = pure x) : PS X (.For tg iter body [] pos) (tSs N Z Ex fun ρ S T => wi T.ex ρ S fun h xs S1 =>
      wfor h (wTurn is w1 T) xs ρ S1 T.nx) :=
  psimp (ps_for hp hc hi hg hb hf) fun D σ H ⟨Y, ρ, S, T, fy, fs, rs, rh, ex, q, en⟩ => by
    subst ex
    refine ⟨ρ, S, _, rs, rh, fy.trans fs, q, fun h xs S1 H1 J f1 h1 wk q1 => ?_⟩
    refine ⟨fun i m σ H => m = xs.length - i ∧ i ≤ xs.length ∧ ∃ ρ S, RS N H σ ρ ∧ RH N H S ∧ Fr S1 H1 S H ∧ wfor h (wTurn is w1 T) (xs.drop i) ρ S T.nx, ⟨xs.length, by simp, Nat.zero_le _, ρ, S1, rs.mono (f1.dle rh), h1, Fr.refl, q1⟩, ?_⟩
    rintro i m σ2 H2 ⟨rfl, hi, ρ2, S2, rs2, h2, f2, wc⟩
    by_cases hlt : i < xs.length
    · rw [List.drop_eq_getElem_cons hlt, wfor] at wc
      obtain ⟨hh, wc⟩ := wc
      have dl := f2.dle h1
      refine .inr ⟨wk.goes i H2 S2 hlt dl h2 hh, fun σ H => ∃ ρ S, RS N H σ ρ ∧ RH N H S ∧ Fr S1 H1 S H ∧ wfor h (wTurn is w1 T) (xs.drop (i + 1)) ρ S T.nx, fun σ' H' n => ⟨xs.length - (i + 1), by omega, rfl, hlt, n⟩, fun x H3 y => ?_⟩
      obtain ⟨d, ed, f3, h3, r3⟩ := wk.yields i H2 S2 x H3 hlt dl h2 hh y
      rw [List.getElem?_eq_getElem hlt] at ed
      cases ed
      obtain ⟨σ4, ρ4, rs4, w4, _, _, go⟩ := tg_at hK (rs2.mono (f3.dle h2)) r3 wc
      refine go _ ⟨(S1, H1), ρ4, S2, { nx := fun ρ' S' => wfor h (wTurn is w1 T) (xs.drop (i + 1)) ρ' S' T.nx, rt := T.rt, bk := T.nx, ct := fun ρ' S' => wfor h (wTurn is w1 T) (xs.drop (i + 1)) ρ' S' T.nx, ex := T.ex }, (fy.trans fs).trans f1, f2.trans f3, rs4, h3, rfl, w4, ?_⟩
      have back : ∀ {S' : Sta} {H' : Hp}, Fr S1 H1 S' H' → Fr Y.1 Y.2 S' H' := fun f => (fs.trans f1).trans f
      exact ⟨fun ρ' S' σ' H' rs' rh' fs' q' => ⟨ρ', S', rs', rh', fs', q'⟩, fun ρ' S' σ' H' rs' rh' fs' q' => en.nx ρ' S' σ' H' rs' rh' (back fs') q', fun ρ' S' σ' H' rs' rh' fs' q' => ⟨ρ', S', rs', rh', fs', q'⟩, fun d S' v H' rh' fs' r' q' => en.rt d S' v H' rh' (back fs') r' q'⟩
    · have e : i = xs.length := by omega
      subst e
      rw [List.drop_length, wfor] at wc
      exact .inl ⟨wk.stops H2 S2 (f2.dle h1) h2 wc.1, en.nx ρ2 S2 σ2 H2 rs2 h2 ((fs.trans f1).trans f2) wc.2⟩
end
end A
end
section
set_option Elab.async false
set_option linter.all false
set_option maxRecDepth 100000
set_option maxHeartbeats 1000000
/-! A14b: calls with keywords; a, b = c, d; a, o[i] = t; min with a default. -/
namespace A
open PySem L2 PyProof.Rows
section
variable {N : Nm} {Z : Sta × Hp} {X : Cx} {S S' S1 : Sta} {H H' H1 H0 : Hp} {Q : VK} {Qh : K} {σ : L2.St} {ρ : Env} {pos p pos' tpos : Pos} {a b c e o tg iter elt : Expr} {Ex : D → Env → Sta → Prop} {w w1 w2 : Ws} {is : List Nat} {st : Stmt} {es : List Expr} {ws wz : Wps} {kws : List Keyword}

/-! ### keywords -/
theorem pkimp {t t' : TA} (h : PK X kws t) (i : ∀ σ H Q, t' σ H Q → t σ H Q) : PK X kws t' := ⟨fun p pins s σ H Q I q => h.run p pins s σ H Q I (i σ H Q q)⟩
theorem hk_nil : PK X [] (tA N Z fun _ S Q => Q [] S) := pkimp pk_nil fun σ H Q ⟨ρ, S, Ql, rs, rh, fz, w, k⟩ => k [] S [] H Fr.refl rh .nil w
theorem hk_cons {wa : Wp} {kw : Keyword} (h : PE X kw.value (tOf N Z wa)) (hr : PK X kws (tA N Z wz)) : PK X (kw :: kws) (tA N Z (hCons wa wz)) := by
  obtain ⟨nm, e, kp⟩ := kw
  exact pkimp (pk_cons h hr) fun σ H Q ⟨ρ, S, Ql, rs, rh, fz, w, k⟩ => ⟨ρ, S, _, rs, rh, fz, w, fun x S1 v H1 f h1 r q =>
    ⟨ρ, S1, _, rs.mono (f.dle rh), h1, fz.trans f, q, fun ds S2 vs H2 f2 h2 r2 q2 => k (x :: ds) S2 (v :: vs) H2 (f.trans f2) h2 (.cons (RD.mono (f2.dle h1) _ _ r) r2) q2⟩⟩
/-- the keywords' names -/
def kwN (kws : List Keyword) : List Str := kws.filterMap (·.arg)
def kwAll (kws : List Keyword) : Bool := kws.all (·.arg.isSome)
theorem kw_all {env : PySem.Env} : ∀ {kws : List Keyword}, kwAll kws = true → (backToKw pos (keywordEach kws env)).all (·.1.isSome) = true
  | [], _ => rfl
  | ⟨nm, v, kp⟩ :: r, h => by
    simp only [kwAll, List.all_cons, Bool.and_eq_true] at h
    show (nm.isSome && (backToKw pos (keywordEach r env)).all (·.1.isSome)) = true
    rw [kw_all (kws := r) h.2, h.1]; rfl
theorem kw_none {env : PySem.Env} : ∀ {kws : List Keyword}, kwAll kws = true → (backToKw pos (keywordEach kws env)).any (·.1.isNone) = false
  | [], _ => rfl
  | ⟨nm, v, kp⟩ :: r, h => by
    simp only [kwAll, List.all_cons, Bool.and_eq_true] at h
    show (nm.isNone || (backToKw pos (keywordEach r env)).any (·.1.isNone)) = false
    rw [kw_none (kws := r) h.2]
    cases nm with
    | none => cases h.1
    | some _ => rfl
theorem kw_names {pos : Pos} {env : PySem.Env} : ∀ (kws : List Keyword), (backToKw pos (keywordEach kws env)).filterMap (·.1) = kwN kws
  | [] => rfl
  | ⟨nm, v, kp⟩ :: r => by
    have ih := kw_names (pos := pos) (env := env) r
    cases nm with
    | none => exact ih
    | some x => show x :: (backToKw pos (keywordEach r env)).filterMap (·.1) = x :: kwN r; rw [ih]
/-- how a call with n written values and the keywords ks comes to the parameters -/
structure KB (N : Nm) (K : PySem.W.Frag) (fd : FuncData) (ps : List Str) (n : Nat) (ks : List Str) (sh : Shp) : Prop where
  ok : ∃ g gV, KBn K fd ps n ks g gV ∧ ∀ H ds zs vs us, RDs N H ds vs → RDs N H zs us → vs.length = n → us.length = ks.length → RDs N H (place sh (ds ++ zs)) (gV vs us)
structure CallOkK (N : Nm) (C : Orc) (P : Program) (w : World) (K : PySem.W.Frag) (mg : Str → Option Value) (base : Heap) (A : Around) (f n : Nat) (ks : List Str) (sh : Shp) : Prop where
  run : ∃ k fd ps, FnOk P w K mg base (L2.CX P w) k (N.fa f) fd ps (spF N C f) ∧ Room k A ∧ KB N K fd ps n ks sh
theorem run_fnK {CX : CXT} {k n : Nat} {f : Addr} {fd : FuncData} {ps ks : List Str} {sp : Sp} {E : XK} {g : List Value → List Value → List Value} {gV : List V → List V → List V} {pins : List (Addr × Obj)} {s : Shared} {us zs : List Value} {vs vz : List V} (F : FnOk X.prog X.w X.K X.mg X.base CX k f fd ps sp) (hr : Room k X.A) (hb : KBn X.K fd ps n ks g gV) (hx : PassesAt CX X σ E)
    (I : Inv X pins σ H s) (r : Vals vs us) (rz : Vals vz zs) (l1 : vs.length = n) (l2 : vz.length = ks.length) (h : sp (gV vs vz) H Q E) : wpAny (model X.prog X.w) X.A (call (.ref f) us (ks.zip zs)) (EP X pins σ Q) X.xe s := by
  refine wpAny_call (codeAny_mono (F.run X.A X.stack s H ⟨us, ks.zip zs⟩ (g us zs) (gV vs vz) Q E hr I.env0 (hb.to s us zs I.kIn (r.length.symm.trans l1) (rz.length.symm.trans l2)) (hb.rel r rz) h) fun res s' hq => ?_)
  cases res with
  | error er => exact hx pins H s er s' I hq
  | ok fl => cases fl with
    | ret u => exact I.after hq
    | next => exact False.elim hq
    | brk => exact False.elim hq
    | cont => exact False.elim hq
def tCallX (n m : Nat) (sp : Sp) (gV : List V → List V → List V) (E : L2.St → XK) (t tk : TA) : TE := fun σ H Q => t σ H fun vs H1 => tk σ H1 fun zs H2 => vs.length = n ∧ zs.length = m ∧ sp (gV vs zs) H2 Q (E σ)
theorem pe_callX {CX : CXT} {k n : Nat} {f : Addr} {fd : FuncData} {ps : List Str} {sp : Sp} {E : L2.St → XK} {g : List Value → List Value → List Value} {gV : List V → List V → List V} {x : Str} {t tk : TA} (F : FnOk X.prog X.w X.K X.mg X.base CX k f fd ps sp) (hr : Room k X.A) (hg : Gl X x) (hm : X.mg x = some (.ref f)) (hk : PySem.W.keepIn X.K (.ref f) = true)
    (hb : KBn X.K fd ps n (kwN kws) g gV) (hx : ∀ σ, PassesAt CX X σ (E σ)) (ha : PA X (e :: es) t) (hkw : PK X kws tk) (hall : kwAll kws = true) (hdb : (x == ("__debug__" : Str)) = false) (pl : (e :: es).all plainA = true) :
    PE X (.Call (.Name x p) (e :: es) kws pos) (tCallX n (kwN kws).length sp gV E t tk) := by
  refine ⟨fun pins s σ H Q I h => ?_⟩
  refine wpAny_Call_Name_kw (ld_glob I hg hm ?_ hdb)
  simp only [List.all_cons, Bool.and_eq_true] at pl
  refine PySem.W.callWith_KW (h₀ := X.base) I.ok.mod.kin hk (kw_all hall) (thn (ha.run pos pins s σ H _ I h) fun us s1 ⟨vs, H1, I1, r, q⟩ => ?_) ?_ (starEach_plain _ pl.1)
  · refine thn (hkw.run pos pins s1 σ H1 _ I1 q) fun zs s2 ⟨vz, H2, I2, rz, l1, l2, q2⟩ => ⟨I2.kIn, ?_⟩
    rw [kw_names]
    exact run_fnK F hr hb (hx σ) I2 r rz l1 l2 q2
  · rw [kw_none hall, star_none _ (by simp only [List.all_cons, Bool.and_eq_true]; exact pl)]; rfl
theorem pe_callX0 {CX : CXT} {k n : Nat} {f : Addr} {fd : FuncData} {ps : List Str} {sp : Sp} {E : L2.St → XK} {g : List Value → List Value → List Value} {gV : List V → List V → List V} {x : Str} {tk : TA} (F : FnOk X.prog X.w X.K X.mg X.base CX k f fd ps sp) (hr : Room k X.A) (hg : Gl X x) (hm : X.mg x = some (.ref f)) (hk : PySem.W.keepIn X.K (.ref f) = true)
    (hb : KBn X.K fd ps n (kwN kws) g gV) (hx : ∀ σ, PassesAt CX X σ (E σ)) (hkw : PK X kws tk) (hall : kwAll kws = true) (hdb : (x == ("__debug__" : Str)) = false) :
    PE X (.Call (.Name x p) [] kws pos) (tCallX n (kwN kws).length sp gV E tNil tk) := by
  refine ⟨fun pins s σ H Q I h => ?_⟩
  refine wpAny_Call_Name_kw (ld_glob I hg hm ?_ hdb)
  refine PySem.W.callWith_KW0 (h₀ := X.base) I.ok.mod.kin hk (kw_all hall) (thn (hkw.run pos pins s σ H _ I h) fun zs s2 ⟨vz, H2, I2, rz, l1, l2, q2⟩ => ⟨I2.kIn, ?_⟩) ?_
  · rw [kw_names]
    exact run_fnK (us := []) F hr hb (hx σ) I2 .nil rz l1 l2 q2
  · rw [kw_none hall]; rfl
def hCallK (C : Orc) (f n m : Nat) (sh : Shp) (ws wz : Wps) (Ex : D → Env → Sta → Prop) : Wp := fun ρ S Q => ws ρ S fun ds S1 => wz ρ S1 fun zs S2 => ds.length = n ∧ zs.length = m ∧ C f (place sh (ds ++ zs)) S2 Q fun x S' => Ex x ρ S'
/-- the values of a call come to what the def promises; n and m of them -/
theorem callk_at {C : Orc} {f n : Nat} {ks : List Str} {sh : Shp} {fd : FuncData} {ps : List Str} {gV : List V → List V → List V}
    (hv : ∀ H ds zs vs us, RDs N H ds vs → RDs N H zs us → vs.length = n → us.length = ks.length → RDs N H (place sh (ds ++ zs)) (gV vs us)) (t : tOf N Z (hCallK C f n ks.length sh ws wz Ex) σ H Q) :
    tCallX n ks.length (spF N C f) gV (fun σ => WE (xOf N Z Ex) σ) (tA N Z ws) (tA N Z wz) σ H Q := by
  obtain ⟨ρ, S, Qh, rs, rh, fz, w, kn⟩ := t
  refine ⟨ρ, S, _, rs, rh, fz, w, fun ds S1 vs H1 f1 h1 r q => ?_⟩
  refine ⟨ρ, S1, _, rs.mono (f1.dle rh), h1, fz.trans f1, q, fun zs S2 us H2 f2 h2 r2 ⟨l1, l2, q2⟩ => ?_⟩
  have m1 : vs.length = n := r.length.symm.trans l1
  have m2 : us.length = ks.length := r2.length.symm.trans l2
  exact ⟨m1, m2, _, S2, Qh, _, hv H2 _ _ _ _ (r.mono' (f2.dle h1)) r2 m1 m2, h2, q2, (kn.step f1).step f2, KnX.of ((rs.mono (f1.dle rh)).mono (f2.dle h1)) h2 ((fz.trans f1).trans f2)⟩
theorem he_callk {C : Orc} {f n : Nat} {sh : Shp} {x : Str} (tk : L2.Takes X (xOf N Z Ex)) (co : CallOkK N C X.prog X.w X.K X.mg X.base X.A f n (kwN kws) sh) (hg : Gl X x) (hm : X.mg x = some (.ref (N.fa f))) (hk : PySem.W.keepIn X.K (.ref (N.fa f)) = true)
    (hdb : (x == ("__debug__" : Str)) = false)
    (ha : PA X (e :: es) (tA N Z ws)) (hkw : PK X kws (tA N Z wz)) (hall : kwAll kws = true) (pl : (e :: es).all plainA = true) : PE X (.Call (.Name x p) (e :: es) kws pos) (tOf N Z (hCallK C f n (kwN kws).length sh ws wz Ex)) := by
  obtain ⟨k, fd, ps, F, hr, kb⟩ := co.run
  obtain ⟨g, gV, hb, hv⟩ := kb.ok
  exact pimp (pe_callX F hr hg hm hk hb (fun σ => passAt tk σ) ha hkw hall hdb pl) fun σ H Q t => callk_at (fd := fd) (ps := ps) hv t
theorem he_callk0 {C : Orc} {f : Nat} {sh : Shp} {x : Str} (tk : L2.Takes X (xOf N Z Ex)) (co : CallOkK N C X.prog X.w X.K X.mg X.base X.A f 0 (kwN kws) sh) (hg : Gl X x) (hm : X.mg x = some (.ref (N.fa f))) (hk : PySem.W.keepIn X.K (.ref (N.fa f)) = true)
    (hdb : (x == ("__debug__" : Str)) = false)
    (hkw : PK X kws (tA N Z wz)) (hall : kwAll kws = true) : PE X (.Call (.Name x p) [] kws pos) (tOf N Z (hCallK C f 0 (kwN kws).length sh (fun _ S Q => Q [] S) wz Ex)) := by
  obtain ⟨k, fd, ps, F, hr, kb⟩ := co.run
  obtain ⟨g, gV, hb, hv⟩ := kb.ok
  refine pimp (pe_callX0 F hr hg hm hk hb (fun σ => passAt tk σ) hkw hall hdb) fun σ H Q t => ?_
  obtain ⟨ρ, S, Qh, rs, rh, fz, w, kn⟩ := t
  refine ⟨ρ, S, _, rs, rh, fz, w, fun zs S2 us H2 f2 h2 r2 ⟨_, l2, q2⟩ => ?_⟩
  have m2 : us.length = (kwN kws).length := r2.length.symm.trans l2
  exact ⟨rfl, m2, _, S2, Qh, _, hv H2 [] _ [] _ .nil r2 rfl m2, h2, q2, kn.step f2, KnX.of (rs.mono (f2.dle rh)) h2 (fz.trans f2)⟩

/-! ### a, b = c, d -/
/-- two values that are not both written constants -/
def parOk (a b : Expr) : Bool := plainA a && plainA b && !(foldedForSure 8 a && foldedForSure 8 b) && !(constantsAlone 8 a && constantsAlone 8 b)
theorem swapped_par {env : PySem.Env} {x y : Str} {px py pt pt2 : Pos} {kt k2 : Nat} (hk : env.scope.kind = .function) (hx : env.scope.names.lookup x = some .local) (hy : env.scope.names.lookup y = some .local) (hl : px.line = py.line) (hne : x ≠ y) (ok : parOk a b = true) :
    swappedStores [.Tuple [.Name x px, .Name y py] kt pt] (.Tuple [a, b] k2 pt2) env = pure (some [x, y]) := by
  simp only [parOk, Bool.and_eq_true, Bool.not_eq_true', Bool.and_eq_false_iff] at ok
  obtain ⟨⟨⟨o1, o2⟩, o3⟩, o4⟩ := ok
  have kx : env.kindOf x = some .local := hx
  have ky : env.kindOf y = some .local := hy
  have hb : env.blockKind = .function := by unfold PySem.Env.blockKind; rw [hk]; rfl
  have n1 : (y == x) = false := by simpa using Ne.symm hne
  have n2 : (x == y) = false := by simpa using hne
  have f1 : ¬ ([a, b].all (foldedForSure 8) = true) := by
    rcases o3 with h | h <;> simp [h]
  have f2 : ¬ ([a, b].all (constantsAlone 8) = true) := by
    rcases o4 with h | h <;> simp [h]
  have er : ([x, y] : List Str).eraseDups = [x, y] := by
    simp [List.eraseDups_cons, n1]
  unfold swappedStores
  refine (if_neg ?_).trans ((if_neg ?_).trans ?_)
  · simp [hb]
  · clear f1 f2 o3 o4
    cases a <;> first | (cases o1; done) | (cases b <;> first | (cases o2; done) | (intro h; cases h))
  · simp only [List.filterMap_cons, List.filterMap_nil, kx, ky, List.head?_cons, Option.map_some, Option.getD_some, Expr.pos]
    simp only [beq_self_eq_true, Bool.true_and, if_true, hl, er]
    refine (if_neg (by simp)).trans ((if_neg f1).trans ?_)
    rw [if_neg f2]
    try rfl
theorem hs_par {we wf : Wx} {i j : Nat} {x y : Str} {px py pt pt2 : Pos} {kt k2 : Nat} (hc : X.calm = true) (hN : X.N.Nodup) (hi : X.N[i]? = some x) (hj : X.N[j]? = some y) (hij : i ≠ j) (hk : X.env.scope.kind = .function) (hx : X.env.scope.names.lookup x = some .local) (hy : X.env.scope.names.lookup y = some .local) (hl : px.line = py.line)
    (ok : parOk a b = true) (ha : PE X a (tOf N Z (we Ex))) (hb : PE X b (tOf N Z (wf Ex))) :
    PS X (.Assign [.Tuple [.Name x px, .Name y py] kt pt] (.Tuple [a, b] k2 pt2) pos) (tSs N Z Ex fun ρ S T => we T.ex ρ S fun u S1 => wf T.ex ρ S1 fun v S2 => T.nx ((ρ.set i (some u)).set j (some v)) S2) := by
  have ok' := ok
  simp only [parOk, Bool.and_eq_true] at ok'
  have hne : x ≠ y := fun z => hij (nodup_ix hN hi (z ▸ hj))
  refine psimp (ps_par hc hN hi hj hij hx hy (pa_cons ha (pa_cons hb pa_nil (starEach_plain _ ok'.1.1.2)) (starEach_plain _ ok'.1.1.1)) (swapped_par hk hx hy hl hne ok) (by rfl)) fun D σ H t => ?_
  refine eat (g := fun ρ u S1 T => wf T.ex ρ S1 fun v S2 => T.nx ((ρ.set i (some u)).set j (some v)) S2) t fun Y ρ S1 H1 d v T fy f rs rh r ex q en => ?_
  subst ex
  refine ⟨ρ, S1, _, rs, rh, fy.trans f, q, fun y S2 u H2 f2 h2 r2 q2 => ?_⟩
  exact ⟨v, u, rfl, en.nx _ S2 _ H2 (((rs.mono (f2.dle rh)).set i (RD.mono (f2.dle rh) _ _ r)).set j r2) h2 (f.trans f2) q2⟩

/-! ### a, o[i] = t -/
theorem hs_vix (hK : N.K = X.K) (hu : X.A.units + 1 < cLine) {we wa wb : Wx} {j : Nat} {x : Str} {px pt : Pos} {kt : Nat} (hc : X.calm = true) (hN : X.N.Nodup) (hj : X.N[j]? = some x) (hl : Loc X.env.scope x) (hf : X.fn x = true ∨ X.env.scope.names.lookup x = some .local)
    (he : PE X e (tOf N Z (we Ex))) (ha : PE X a (tOf N Z (wa Ex))) (hb : PE X b (tOf N Z (wb Ex))) (pl : plainIx b = true) (nt : ∀ es k p, e ≠ .Tuple es k p) (hs : swapsWith e none pos.line X.env = pure false) (hs2 : swapsWithSole [.Tuple [.Name x px, .Subscript a b pos'] kt pt] e pos.line X.env = pure false) :
    PS X (.Assign [.Tuple [.Name x px, .Subscript a b pos'] kt pt] e pos) (tSs N Z Ex fun ρ S T => we T.ex ρ S fun d S1 => ∃ d1 d2, d = .tup [d1, d2] ∧ wa T.ex (ρ.set j (some d1)) S1 fun u S2 => wb T.ex (ρ.set j (some d1)) S2 fun v S3 => wsetix u v d2 S3 fun S4 => T.nx (ρ.set j (some d1)) S4) := by
  have hw : swappedStores [.Tuple [.Name x px, .Subscript a b pos'] kt pt] e X.env = pure none := by
    cases e <;> first | rfl | exact absurd rfl (nt _ _ _)
  refine psimp (ps_asg he (pg_tup (n := 2) hc (pgs_cons (pg_name hN hj hl hf) (pgs_cons (pg_sub ha hb (set_W (N := N) hu) fun v => assign_sub pl) pgs_nil))) hs2 hw rfl) fun D σ H t => ?_
  refine eat (g := fun ρ d S1 T => ∃ d1 d2, d = .tup [d1, d2] ∧ wa T.ex (ρ.set j (some d1)) S1 fun u S2 => wb T.ex (ρ.set j (some d1)) S2 fun v S3 => wsetix u v d2 S3 fun S4 => T.nx (ρ.set j (some d1)) S4) t fun Y ρ S1 H1 d v T fy f rs rh r ex q en => ?_
  subst ex
  obtain ⟨d1, d2, rfl, q⟩ := q
  obtain ⟨ad, vs, rfl, h1, r1⟩ := rd_tup r
  obtain ⟨v1, t1, rfl, g1, r2⟩ := r1.uncons
  obtain ⟨v2, t2, rfl, g2, r3⟩ := r2.uncons
  have e0 := r3.unnil
  subst e0
  refine ⟨ad, [v1, v2], rfl, hK ▸ h1, rfl, v1, [v2], rfl, v2, [], rfl, ?_⟩
  have rs1 := rs.set j g1
  refine ⟨ρ.set j (some d1), S1, _, rs1, rh, fy.trans f, q, fun x S2 u H2 f2 h2 r2 q2 => ?_⟩
  refine ⟨ρ.set j (some d1), S2, _, rs1.mono (f2.dle rh), h2, (fy.trans f).trans f2, q2, fun y S3 u2 H3 f3 h3 r3 q3 => ?_⟩
  exact ⟨x, y, d2, S3, _, h3, RD.mono (f3.dle h2) _ _ r2, r3, RD.mono (f3.dle h2) _ _ (RD.mono (f2.dle rh) _ _ g2), q3, fun S4 H4 f4 h4 q4 =>
    ⟨rfl, en.nx _ S4 _ H4 (((rs1.mono (f2.dle rh)).mono (f3.dle h2)).mono (f4.dle h3)) h4 (((f.trans f2).trans f3).trans f4) q4⟩⟩

/-! ### min with a default -/
theorem minOf_eq : ∀ (xs : List Int) (x : Int), PySem.W.minOf x xs = minI (x :: xs)
  | [], x => rfl
  | y :: r, x => by
    unfold PySem.W.minOf
    rw [List.foldl_cons]
    have ih := minOf_eq r (if PySem.W.DatumOrd.lt y x = true then y else x)
    unfold PySem.W.minOf at ih
    rw [ih]
    have hd : PySem.W.DatumOrd.lt y x = true ↔ y < x := by
      show decide (y < x) = true ↔ _
      simp
    have gen : ∀ (r : List Int) (a b : Int), minI (min a b :: r) = min a (minI (b :: r)) := fun r => by
      cases r with
      | nil => intro a b; rfl
      | cons c r => intro a b; show min (min a b) (minI (c :: r)) = min a (min b (minI (c :: r))); omega
    rw [show (if PySem.W.DatumOrd.lt y x = true then y else x) = min x y by
      by_cases h : y < x
      · rw [if_pos (hd.mpr h)]; omega
      · rw [if_neg (fun z => h (hd.mp z))]; omega, gen]
    rfl
theorem holdAll_of : ∀ {ns : List Int} {its : List Value} {h : Heap}, Vals (ns.map V.int) its → PySem.W.HoldAll h its ns
  | [], its, h, r => by cases r; exact PySem.W.HoldAll.nil
  | n :: ns, its, h, r => by
    rw [List.map_cons] at r
    cases r with
    | cons e t =>
      obtain ⟨tk, rfl⟩ := e
      exact PySem.W.HoldAll.cons (PySem.W.holds_int n tk) (holdAll_of t)
theorem cr_minD (hc : X.calm = true) (hu : X.A.units + 1 < cLine) : CallRK X (.builtin "min") [Str.ofString "default"] (fun vs zs H Q => ∃ (a : Addr) (ns : List Int) (d : V), vs = [.ref a] ∧ zs = [d] ∧ SqL X.K H a (ns.map V.int) ∧ (ns = [] → Q d H) ∧ (ns ≠ [] → Q (.int (minI ns)) H)) := by
  intro pins s σ H vs zs us ws Q I r rz h
  obtain ⟨a, ns, d, rfl, rfl, hs, q1, q2⟩ := h
  obtain ⟨u, rfl, ru⟩ := vals1 r
  obtain ⟨w, rfl, rw'⟩ := vals1 rz
  cases ru
  obtain ⟨its, rv, pl, hz⟩ := I.list hs
  refine PySem.W.min_list_datum_default (xs := ns) (I.ok.hd hc) pl.isList (holdAll_of rv) (by show X.A.units + 1 + 0 < cLine; omega) (fun e h' tk k => ?_) fun y ys i v h' tk e hi hv k => ?_
  · exact ⟨d, H, I.kept (t' := tk) k, rw', q1 e⟩
  · subst e
    obtain ⟨as, hr⟩ := hv
    have hr : Reads h' v (.int (PySem.W.minOf y ys)) as := hr
    cases hr with
    | int n t => exact ⟨.int (PySem.W.minOf y ys), H, I.kept (t' := tk) k, ⟨t, rfl⟩, by rw [minOf_eq]; exact q2 (by simp)⟩
theorem he_minD (hK : N.K = X.K) (hc : X.calm = true) (hu : X.A.units + 1 < cLine) {wa : Wp} {C : Orc} {kp kp2 : Pos} {kc : Nat} (hg : Gl X "min") (hm : X.mg "min" = none) (ha : PE X a (tOf N Z wa)) (pl : plainA a = true) :
    PE X (.Call (.Name "min" p) [a] [⟨some "default", .Constant .none kc kp2, kp⟩] pos) (tOf N Z fun ρ S Q => wa ρ S fun x S1 => wb1 C .minD x S1 Q) := by
  have hb := bval_ok .min rfl
  refine pimp (pe_callBK (cr_minD hc hu) hg hm hb.2.1 (pa_cons ha pa_nil (starEach_plain _ pl)) (pk_cons pe_non pk_nil) hb.2.2.1 hb.2.2.2 (by rw [starEach_plain _ pl]; rfl) (star_none _ (by simp [pl])) rfl rfl rfl) fun σ H Q t => ?_
  refine tOf.one (g := fun _ x S1 Q => wb1 C .minD x S1 Q) t fun ρ x S1 v H1 Qh rs rh fz rx g kn => ?_
  obtain ⟨xs, ns, e1, e2, q⟩ := g
  obtain ⟨ad, vs, rfl, h, r1⟩ := itemsL_at hK rh rx e1
  rw [rds_ints r1 e2] at h
  refine ⟨ad, ns, .non, rfl, rfl, h, fun e => ?_, fun e => ?_⟩
  · subst e; exact kn.at rh mk_non q
  · cases ns with
    | nil => exact absurd rfl e
    | cons _ _ => exact kn.at rh mk_int q
end
end A
end
section
set_option Elab.async false
set_option linter.all false
set_option maxRecDepth 100000
set_option maxHeartbeats 2000000
/-! A15: the check that an expression of the program is one of the small language, and what it says. -/
namespace A
open PySem L2 PyProof.Rows

/-- what a name of the module stands for -/
inductive GV where
  | con (d : D)
  | fn (f : Nat)
  | cls (c : Nat)
/-- the module: its names, the built-ins in use, the forms of calls: def, written values, defaults -/
structure Tb where
  glob : List (Str × GV)
  blts : List Str
  calls : List (Nat × Nat × List D)
  kcalls : List (Nat × Nat × List Str × Shp) := []
  raises : List (Nat × Nat × List Nat × List (Sum Nat D)) := []
  exms : List (Str × List (Nat × Bool)) := []
  iss : List (Str × List (Nat × Bool)) := []
  flds : List (Nat × Str) := []
  xcls : List Nat := []
  hot : Bool := false
  xv : Option Nat := none
/-- the table in a suite -/
def Tb.suite (T : Tb) (i : Option Nat) : Tb := ⟨T.glob, T.blts, T.calls, T.kcalls, T.raises, T.exms, T.iss, T.flds, T.xcls, true, i⟩
/-- a block: its names' kinds, the slots, the names whose cells it made -/
structure Sx where
  sc : Scope
  ns : List Str
  fnB : Str → Bool
def sEq (a b : Str) : Bool := a.cps.toList == b.cps.toList
theorem sEq_ok {a b : Str} (h : sEq a b = true) : a = b := by
  unfold sEq at h
  have h' := eq_of_beq h
  cases a; cases b
  simp only [Str.mk.injEq]
  exact Array.toList_inj.mp h'
def sIn (a : Str) : List Str → Bool
  | [] => false
  | b :: r => sEq a b || sIn a r
theorem sIn_ok {a : Str} : ∀ {l : List Str}, sIn a l = true → a ∈ l
  | [], h => by cases h
  | b :: r, h => by
    unfold sIn at h
    rcases Bool.or_eq_true _ _ ▸ h with h | h
    · rw [sEq_ok h]; exact List.mem_cons_self
    · exact List.mem_cons_of_mem _ (sIn_ok h)
def sLook {α : Type} (a : Str) : List (Str × α) → Option α
  | [] => none
  | (b, x) :: r => if sEq a b then some x else sLook a r
theorem sLook_ok {α : Type} {a : Str} {x : α} : ∀ {l : List (Str × α)}, sLook a l = some x → (a, x) ∈ l
  | [], h => by cases h
  | (b, y) :: r, h => by
    unfold sLook at h
    split at h
    · rename_i e
      cases h
      rw [sEq_ok e]
      exact List.mem_cons_self
    · exact List.mem_cons_of_mem _ (sLook_ok h)
def nsAt (ns : List Str) (i : Nat) (x : Str) : Bool := match ns[i]? with
  | some y => sEq y x
  | none => false
theorem nsAt_ok {ns : List Str} {i : Nat} {x : Str} (h : nsAt ns i x = true) : ns[i]? = some x := by
  unfold nsAt at h
  split at h
  · rename_i y e
    rw [e, sEq_ok h]
  · cases h
def okName (x : Str) : Bool := !(x == ("__debug__" : Str)) && !(x == ("__classdict__" : Str)) && !(x == ("__name__" : Str))
theorem okName_ok {x : Str} (h : okName x = true) : (x == ("__debug__" : Str)) = false ∧ (x == ("__classdict__" : Str)) = false ∧ x ≠ "__name__" := by
  unfold okName at h
  simp only [Bool.and_eq_true, Bool.not_eq_true'] at h
  exact ⟨h.1.1, h.1.2, fun e => by rw [e] at h; have := h.2; simp at this⟩
def Sx.vis (s : Sx) (x : Str) : Bool := match s.sc.names.lookup x with
  | some .local => true | some .cell => true | some .free => true | _ => false
def Sx.gl (s : Sx) (x : Str) : Bool := match s.sc.names.lookup x with
  | some .globalImplicit => true | _ => false
/-- a name that may be stored -/
def Sx.loc (s : Sx) (x : Str) : Bool := match s.sc.names.lookup x with
  | some .local => true | some .cell => s.fnB x | _ => false
structure In (X : Cx) (s : Sx) : Prop where
  sc : X.env.scope = s.sc
  ns : X.N = s.ns
  fn : ∀ x, X.fn x = s.fnB x
theorem In.vis {X : Cx} {s : Sx} (i : In X s) {x : Str} (h : s.vis x = true) : Vis X.env.scope x := by
  unfold Sx.vis at h
  rw [← i.sc] at h
  unfold Vis
  split at h
  · exact .inl (by assumption)
  · exact .inr (.inl (by assumption))
  · exact .inr (.inr (by assumption))
  · cases h
theorem In.gl {X : Cx} {s : Sx} (i : In X s) {x : Str} (h : s.gl x = true) : Gl X x := by
  unfold Sx.gl at h
  rw [← i.sc] at h
  show X.env.scope.names.lookup x = _
  split at h
  · assumption
  · cases h
theorem In.loc {X : Cx} {s : Sx} (i : In X s) {x : Str} (h : s.loc x = true) : Loc X.env.scope x ∧ (X.fn x = true ∨ X.env.scope.names.lookup x = some .local) := by
  unfold Sx.loc at h
  rw [← i.sc] at h
  split at h
  · exact ⟨.inl (by assumption), .inr (by assumption)⟩
  · exact ⟨.inr (by assumption), .inl ((i.fn x).trans h)⟩
  · cases h

end A
end
section
set_option Elab.async false
set_option linter.all false
set_option maxRecDepth 100000
set_option maxHeartbeats 4000000
/-! A23: own errors with an own __init__ over any built-in base: their fields laid, the error made. -/
namespace A
open PySem L2 PyProof.Rows
/-- no built-in class of the list takes stores -/
def ThrB (t : List Value) : Prop := ∀ self : Value, refuseLoop self "__setattr__" t = pure ()
theorem thr_refs {t : List Value} (h : ThrB t) : ∀ rs : List Addr, ThrB (rs.map Value.ref ++ t)
  | [] => h
  | r :: rs => fun self => by
    rw [List.map_cons, List.cons_append, refuseLoop_ref]
    exact thr_refs h rs self
theorem thr_val : ThrB [.type "ValueError", .type "Exception", .type "BaseException", .type "object"] := fun self => F.store_ValueError.passes self
theorem thr_look : ThrB [.type "LookupError", .type "Exception", .type "BaseException", .type "object"] := fun self => F.store_LookupError.passes self
theorem refs_has (Y : String) (t : List Value) : ∀ rs : List Addr, (rs.map Value.ref ++ t).contains (.type Y) = t.contains (.type Y)
  | [] => rfl
  | r :: rs => by
    rw [List.map_cons, List.cons_append, List.contains_cons, refs_has Y t rs]
    rfl
theorem refs_ne {t : List Value} (h : t.isEmpty = false) (rs : List Addr) : (rs.map Value.ref ++ t).isEmpty = false := by
  cases rs with
  | nil => exact h
  | cons _ _ => rfl
/-- an own class of errors: its mro is own classes, then the built-in list t -/
structure OxC (K : PySem.W.Frag) (C : Addr) : Prop where
  cls : ∃ (nm q : Str) (N : Addr) (bs : List Value) (rs : List Addr) (t : List Value) (sn : List Str) (sub : List Value) (ab : Bool) (col : Option Bool) (dd : Option Addr) (k0 k1 k2 k3 k5 : Option Value) (B newId initId : String),
    K.lookup C = some (excClassObj nm q C N bs (rs.map Value.ref ++ t) true sn sub ab col dd k0 k1 k2 k3 k5 newId) ∧ ExcBaseFacts B newId initId t ∧ ThrB t ∧ t.contains (.type "object") = true ∧ t.isEmpty = false
  sa : PySem.W.findIn K (.ref C) "__setattr__" = some (some (.builtin "object.__setattr__"))
  exC : PySem.W.subIn K (.ref C) (.type "BaseException") = some true
  tyC : PySem.W.typeIn K (.ref C) = some (.type "type")
  kC : PySem.W.keepIn K (.ref C) = true
section
open Builtin Builtin.ObjectAttr
variable {prog : Program} {w : World} {A : Around} {E : Value → Shared → Prop} {R : Result → Shared → Prop} {hp : Heap} {g : Array GenState} {d : Drawn} {t : Nat} {os : OsState} {K : PySem.W.Frag} {f : Str} {tk : Tok} {y : Value} {e C : Addr} {fv : Array Value} {cd : ClassData}
/-- the first field: the dict is laid -/
theorem lay_first (hk : K.In hp) (he : hp.get? e = some { cls := .ref C, data := .fields fv }) (hcd : PySem.W.clsIn K C = some cd) (h1 : cd.mro.isEmpty = false) (h2 : cd.mro.contains (.type "object") = true) (h3 : ThrB cd.mro) (hd : cd.hasDict = true) (h4 : PySem.W.findIn K (.ref C) f = some none)
    (q : ∀ (h' : Heap) (tk' : Nat) (z : Addr), (∀ b o, b ≠ e → hp.get? b = some o → h'.get? b = some o) → hp.objs.size ≤ z → z ≠ e → h'.get? e = some { cls := .ref C, dict := some z, data := .fields fv } →
      h'.Ns1 z (fun n => if n = f then some y else none) → R (.ok (.ret .none)) ⟨h', g, d, tk', os⟩) :
    codeAny (model prog w) A (.call (.builtin "object.__setattr__") ⟨[.ref e, .str f tk, y], []⟩) R ⟨hp, g, d, t, os⟩ := by
  have J : PySem.W.InstAt hp e { cls := .ref C, data := .fields fv } C none := ⟨he, rfl, rfl, trivial⟩
  have hin : PySem.W.mroIn K C (.type "object") = some true := by
    unfold PySem.W.mroIn
    rw [hcd, Option.bind_some, if_neg (by rw [h1]; decide), h2]
  have hez : e ≠ hp.objs.size := Nat.ne_of_lt (Heap.lt_size he)
  have isO : PySem.W.Looks (model prog w) hp (isInstance (.ref e) (.type "object")) true := J.type.andThen (PySem.W.looks_mroIn hk hin)
  have so := F.store_object
  refine codeAny_call_builtin so.slot.plain so.entry ?_
  refine @PySem.W.check_slot (model prog w) _ _ ⟨hp, g, d, t, os⟩ "object.__setattr__" "object" "__setattr__" (.ref e) [.str f tk, y] [] _ so.kind so.split isO (so.args (.ref e) (.str f tk) y) ?_
  have lm : PySem.W.Looks (model prog w) hp (mroOf (.ref C)) cd.mro := (PySem.W.looks_clsIn hk hcd).andThen .now
  have ln : PySem.W.Looks (model prog w) hp (storeTaker? none) none := .now
  have lc : PySem.W.Looks (model prog w) hp (classData C) cd := PySem.W.looks_clsIn hk hcd
  rw [PySem.W.osa_eq, refuse_eq]
  refine wpAny_bind (wpAny_bind (J.type.at ?_))
  refine wpAny_bind (lm.at ?_)
  rw [h3 (.ref e)]
  refine wpAny_pure (wpAny_bind (J.type.at ?_))
  refine wpAny_bind ((PySem.W.looks_findIn hk h4).at ?_)
  refine wpAny_bind (ln.at ?_)
  show wpAny _ _ (storeInOwnDict (.ref e) (.ref C) (.str f tk) f y false) _ _ _
  obtain ⟨c1, c2, c3, c4, c5, c6, c7, c8, c9, c10, c11⟩ := cd
  dsimp only at hd
  subst hd
  unfold storeInOwnDict ownDictForStores
  repeat (first | with_reducible refine PySem.HandSPX.store_in_new ?_ ?_ | with_reducible refine wpAny_loadPart_at he ?_ | with_reducible refine lc.at ?_ | wp_step)
  · exact ⟨_, #[], _, (Heap.get?_update_ne _ _ _ _ hez.symm).trans (Heap.get?_push_at rfl rfl), rfl, fun u hu => absurd hu (by simp), fun _ => rfl⟩
  · intro h' tk' hn hs
    have he1 := Heap.get?_push_of_some (h := hp) { cls := .type "dict", data := .dict #[] } he
    refine q h' tk' hp.objs.size (fun b o nb ho => ?_) (Nat.le_refl _) hez.symm ?_ hn
    · have hbz : b ≠ hp.objs.size := Nat.ne_of_lt (Heap.lt_size ho)
      rw [hs.2 b hbz, Heap.get?_update_ne _ _ _ _ nb]
      exact Heap.get?_push_of_some _ ho
    · rw [hs.2 e hez]
      exact Heap.get?_update_self _ he1 rfl
/-- a further field -/
theorem lay_next {z : Addr} {m0 : Str → Option Value} {ns : List Str} (hk : K.In hp) (he : hp.get? e = some { cls := .ref C, dict := some z, data := .fields fv }) (hn : hp.Ns1 z m0) (hw : Within m0 ns) (hl : ns.length ≤ 1000) (hcd : PySem.W.clsIn K C = some cd) (h1 : cd.mro.isEmpty = false)
    (h2 : cd.mro.contains (.type "object") = true) (h3 : ThrB cd.mro) (hd : cd.hasDict = true) (h4 : PySem.W.findIn K (.ref C) f = some none)
    (q : ∀ (h' : Heap) (tk' : Nat), (∀ b o, b ≠ z → hp.get? b = some o → h'.get? b = some o) → h'.Ns1 z (fun n => if n = f then some y else m0 n) → R (.ok (.ret .none)) ⟨h', g, d, tk', os⟩) :
    codeAny (model prog w) A (.call (.builtin "object.__setattr__") ⟨[.ref e, .str f tk, y], []⟩) R ⟨hp, g, d, t, os⟩ := by
  obtain ⟨oz, _, _, hoz, _, _⟩ := hn.count hw
  have J : PySem.W.InstAt hp e { cls := .ref C, dict := some z, data := .fields fv } C (some oz) := ⟨he, rfl, rfl, hoz⟩
  have hin : PySem.W.mroIn K C (.type "object") = some true := by
    unfold PySem.W.mroIn
    rw [hcd, Option.bind_some, if_neg (by rw [h1]; decide), h2]
  have isO : PySem.W.Looks (model prog w) hp (isInstance (.ref e) (.type "object")) true := J.type.andThen (PySem.W.looks_mroIn hk hin)
  have so := F.store_object
  refine codeAny_call_builtin so.slot.plain so.entry ?_
  refine @PySem.W.check_slot (model prog w) _ _ ⟨hp, g, d, t, os⟩ "object.__setattr__" "object" "__setattr__" (.ref e) [.str f tk, y] [] _ so.kind so.split isO (so.args (.ref e) (.str f tk) y) ?_
  have lm : PySem.W.Looks (model prog w) hp (mroOf (.ref C)) cd.mro := (PySem.W.looks_clsIn hk hcd).andThen .now
  have ln : PySem.W.Looks (model prog w) hp (storeTaker? none) none := .now
  have lc : PySem.W.Looks (model prog w) hp (classData C) cd := PySem.W.looks_clsIn hk hcd
  rw [PySem.W.osa_eq, refuse_eq]
  refine wpAny_bind (wpAny_bind (J.type.at ?_))
  refine wpAny_bind (lm.at ?_)
  rw [h3 (.ref e)]
  refine wpAny_pure (wpAny_bind (J.type.at ?_))
  refine wpAny_bind ((PySem.W.looks_findIn hk h4).at ?_)
  refine wpAny_bind (ln.at ?_)
  show wpAny _ _ (storeInOwnDict (.ref e) (.ref C) (.str f tk) f y false) _ _ _
  obtain ⟨c1, c2, c3, c4, c5, c6, c7, c8, c9, c10, c11⟩ := cd
  dsimp only at hd
  subst hd
  unfold storeInOwnDict ownDictForStores
  repeat (first | with_reducible refine PySem.OEX.store_in_old hn hw hl ?_ | with_reducible refine wpAny_loadPart_at he ?_ | with_reducible refine lc.at ?_ | wp_step)
  intro h' tk' hn' hs
  exact q h' tk' (fun b o nb ho => by rw [hs.2 b nb]; exact ho) hn'
end
/-! ### in the layer -/
section
variable {X : Cx} {pins : List (Addr × Obj)} {σ : L2.St} {H : Hp} {s : Shared} {a C z : Addr} {f : Str} {y : V} {u : Value} {fs : List (Str × V)} {Q : Unit → Shared → Prop} {E : Value → Shared → Prop} {A : Around}
theorem OxC.data (T : OxC X.K C) : ∃ cd, PySem.W.clsIn X.K C = some cd ∧ cd.mro.isEmpty = false ∧ cd.mro.contains (.type "object") = true ∧ ThrB cd.mro ∧ cd.hasDict = true := by
  obtain ⟨nm, q, N, bs, rs, t, sn, sub, ab, col, dd, k0, k1, k2, k3, k5, B, nid, iid, hC, F, th, ho, hne⟩ := T.cls
  refine ⟨{ name := nm, bases := bs, mro := .ref C :: (rs.map Value.ref ++ t), ns := N, qualname := q, hasDict := true, slotNames := sn, subclasses := sub, abstract := ab, collection := col, hasDel := false }, ?_, rfl, ?_, ?_, rfl⟩
  · unfold PySem.W.clsIn
    rw [hC] <;> rfl
  · rw [List.contains_cons, refs_has, ho, Bool.or_true]
  · exact thr_refs th (C :: rs)
theorem put_first (T : OxC X.K C) (I : Inv X pins σ H s) (e : H a = some (exo a C none)) (hno : PySem.W.findIn X.K (.ref C) f = some none) (ry : RelV y u)
    (h : ∀ z s', H z = none → z ≠ a → Inv X pins σ (upd (upd H z (exd z [(f, y)])) a (exo a C (some z))) s' → Q () s') : wpAny (model X.prog X.w) A (setAttr (.ref a) f u) Q E s := by
  obtain ⟨cd, hcl, c1, c2, c3, c4⟩ := T.data
  obtain ⟨t1, ho⟩ := exo_at I.hok e
  obtain ⟨hp, g, d, t, os⟩ := s
  refine PySem.W.set_plain I.kIn (od := none) ⟨ho, rfl, rfl, trivial⟩ T.sa ?_
  refine lay_first I.kIn ho hcl c1 c2 c3 c4 hno fun h' tk' z kp dn dne hx hn => ?_
  have hz := I.hok.fresh dn
  have old : ∀ {b : Addr} {o : Obj}, hp.get? b = some o → b ≠ z := fun {b o} r => Nat.ne_of_lt (Nat.lt_of_lt_of_le (Heap.lt_size r) dn)
  have nota : ∀ {b : Addr}, H b = none → b ≠ a := fun {b} n r => by
    rw [r, e] at n
    cases n
  have U : Un X.fs [] H (upd (upd H z (exd z [(f, y)])) a (exo a C (some z))) hp h' := {
    keep := fun b o r n _ _ => kp b o (nota n) r
    slot := fun b o r n _ _ => ⟨o.slots, kp b o (nota n) r⟩
    free := fun b o r n _ => by rw [L2.upd_ne (nota n), L2.upd_ne (old r), n]
    there := fun b o r _ => by
      rcases Classical.em (b = a) with rfl | hb
      · exact ⟨_, hx⟩
      · exact ⟨o, kp b o hb r⟩
    tups := fun b xs r => by rw [L2.upd_ne (at_ne e r exo_tup), L2.upd_ne (L2.ne_of_none r hz), r]
    frzs := fun b o v r => by rw [L2.upd_ne (at_ne e r exo_frz), L2.upd_ne (L2.ne_of_none r hz), r]
    tbls := fun b ps r => ⟨#[], by rw [L2.upd_ne (at_ne e r exo_tbl), L2.upd_ne (L2.ne_of_none r hz), r]; simp⟩ }
  refine h z _ hz dne (I.un (t' := tk') U fun b o r => ?_)
  rcases Classical.em (b = a) with rfl | hb
  · rw [L2.upd_same] at r
    cases r
    exact exo_ok hx
  rw [L2.upd_ne hb] at r
  rcases Classical.em (b = z) with rfl | hd
  · rw [L2.upd_same] at r
    cases r
    exact exd_ok hn (relO_put (fs := []) ry fun _ => trivial)
  rw [L2.upd_ne hd] at r
  refine (I.hok b o r).stay (fun c v hc x => kp c v ?_ x) (fun c hc => ?_) fun c xs hc => ?_
  · rcases hc with rfl | hc
    · exact hb
    · exact at_ne e hc exo_own
  · rw [L2.upd_ne (at_ne e hc exo_own), L2.upd_ne (L2.ne_of_none hc hz), hc]
  · rw [L2.upd_ne (at_ne e hc exo_tup), L2.upd_ne (L2.ne_of_none hc hz), hc]
theorem put_next (T : OxC X.K C) (I : Inv X pins σ H s) (e : H a = some (exo a C (some z))) (ed : H z = some (exd z fs)) (hl : fs.length ≤ 900) (hno : PySem.W.findIn X.K (.ref C) f = some none) (ry : RelV y u)
    (h : ∀ s', Inv X pins σ (upd H z (exd z ((f, y) :: fs))) s' → Q () s') : wpAny (model X.prog X.w) A (setAttr (.ref a) f u) Q E s := by
  obtain ⟨cd, hcl, c1, c2, c3, c4⟩ := T.data
  obtain ⟨t1, ho⟩ := exo_at I.hok e
  obtain ⟨m0, hn, rel⟩ := exd_at I.hok ed
  have hw := within_of rel
  obtain ⟨hp, g, d, t, os⟩ := s
  obtain ⟨oz, _, _, hoz, _, _⟩ := hn.count hw
  refine PySem.W.set_plain I.kIn (od := some oz) ⟨ho, rfl, rfl, hoz⟩ T.sa ?_
  refine lay_next I.kIn ho hn hw (by rw [List.length_map]; omega) hcl c1 c2 c3 c4 hno fun h' tk' kp hn' => ?_
  have there : ∃ o, h'.get? z = some o := by
    obtain ⟨o, _, _, r, _⟩ := hn'
    exact ⟨o, r⟩
  have free : ∀ b o, b ∉ [z] → hp.get? b = some o → h'.get? b = some o := fun b o nb r => kp b o (fun x => nb (List.mem_singleton.mpr x)) r
  exact h _ (I.write (t' := tk') (x := z) (e := z) (o := exd z ((f, y) :: fs)) (by rw [ed]; trivial) (.inl rfl) kp there (exd_ok hn' (relO_put ry rel)))
end
/-- self.f = e in an own __init__ -/
def tFld (K : PySem.W.Frag) (f : Str) (to te : TE) : TS := fun D σ H => te σ H fun y H1 => to σ H1 fun x H2 => ∃ a C : Addr, x = .ref a ∧ OxC K C ∧ PySem.W.findIn K (.ref C) f = some none ∧
  ((H2 a = some (exo a C none) ∧ ∀ z, H2 z = none → z ≠ a → D.nx σ (upd (upd H2 z (exd z [(f, y)])) a (exo a C (some z)))) ∨
    ∃ (z : Addr) (fs : List (Str × V)), H2 a = some (exo a C (some z)) ∧ H2 z = some (exd z fs) ∧ fs.length ≤ 900 ∧ D.nx σ (upd H2 z (exd z ((f, y) :: fs))))
theorem ps_fld {X : Cx} {o e : Expr} {to te : TE} {f : Str} {p' pos : Pos} (ho : PE X o to) (he : PE X e te) (hs : swapsWith e (some (.Attribute o f p')) pos.line X.env = pure false) : PS X (.Assign [.Attribute o f p'] e pos) (tFld X.K f to te) := by
  refine ⟨fun pins s σ H D I h => plainObj_wpAny_Assign_Attribute (thn (he.run pins s σ H _ I h) fun v s1 ⟨y, H1, I1, ry, h1⟩ => thn (ho.run pins s1 σ H1 _ I1 h1) fun u s2 ⟨x, H2, I2, rx, a, C, ex, T, hno, q⟩ => ?_) hs⟩
  subst ex
  cases (show u = Value.ref a from rx)
  rcases q with ⟨ea, q⟩ | ⟨z, fs, ea, ed, hl, q⟩
  · exact put_first T I2 ea hno ry fun z s' n ne J => ⟨σ, _, J, q z n ne⟩
  · exact put_next T I2 ea ed hl hno ry fun s' J => ⟨σ, _, J, q⟩
end A
end
section
set_option Elab.async false
set_option linter.all false
set_option maxRecDepth 100000
set_option maxHeartbeats 4000000
/-! A24: the __init__ of an own error, checked; the error made by a call of its class. -/
namespace A
open PySem L2 PyProof.Rows
/-- what a field is set to: a text or a parameter -/
def valF (vs : List V) : Sum Str Nat → V
  | .inl c => .str c
  | .inr j => vs.getD j .non
def rhsB (s : Sx) : Sum Str Nat → Expr → Bool
  | .inl c, .Constant (.str d) _ _ => sEq c d
  | .inr j, .Name y _ => nsAt s.ns j y && s.vis y && okName y
  | _, _ => false
def okI (s : Sx) : List (Str × Sum Str Nat) → List Stmt → Bool
  | [], [] => true
  | (f, v) :: r, .Assign [.Attribute (.Name x _) g _] e _ :: st => sEq f g && nsAt s.ns 0 x && s.vis x && okName x && rhsB s v e && okI s r st
  | _, _ => false
/-- where the making stands: the error at a, its fields so far -/
def Mk1 (H0 : Hp) (a C : Addr) (fs : List (Str × V)) (H : Hp) : Prop :=
  (fs = [] ∧ H a = some (exo a C none) ∧ ∀ b, b ≠ a → H b = H0 b) ∨
    ∃ z, H0 z = none ∧ z ≠ a ∧ H a = some (exo a C (some z)) ∧ H z = some (exd z fs) ∧ ∀ b, b ≠ a → b ≠ z → H b = H0 b
def laid (vs : List V) (done : List (Str × V)) : List (Str × Sum Str Nat) → List (Str × V)
  | [] => done
  | (f, v) :: r => laid vs ((f, valF vs v) :: done) r
/-- the fields still to be set -/
def tIni (K : PySem.W.Frag) (ns : List Str) (fl : List (Str × Sum Str Nat)) : TS := fun D σ H => ∃ (a C : Addr) (vs : List V) (H0 : Hp) (done : List (Str × V)), σ = L2.start ns (.ref a :: vs) ∧ vs.length < ns.length ∧ OxC K C ∧ (∀ p ∈ fl, PySem.W.findIn K (.ref C) p.1 = some none ∧ ∀ j, p.2 = .inr j → j < vs.length + 1) ∧
  H0 a = none ∧ Mk1 H0 a C done H ∧ done.length + fl.length ≤ 900 ∧ ∀ H2, Mk1 H0 a C (laid (.ref a :: vs) done fl) H2 → D.nx σ H2
theorem start_at {ns : List Str} {vs : List V} {j : Nat} (h : j < vs.length) : (L2.start ns vs)[j]? = some (some (vs.getD j .non)) := by
  unfold L2.start
  rw [List.getElem?_append_left (by simpa using h), List.getElem?_map, List.getElem?_eq_getElem h, List.getD_eq_getElem?_getD, List.getElem?_eq_getElem h]
  rfl
theorem ini_ok {X : Cx} {s : Sx} (i : In X s) : ∀ (fl : List (Str × Sum Str Nat)) (st : List Stmt), okI s fl st = true → PSs X st (tIni X.K s.ns fl)
  | [], [], _ => pssimp pss_nil fun D σ H ⟨a, C, vs, H0, done, e, _, T, _, _, m, _, q⟩ => q H m
  | [], _ :: _, h => by cases h
  | (f, v) :: r, st, h => by
    unfold okI at h
    split at h
    · rename_i h0; cases h0
    · rename_i f' v' r' x p1 g p2 e p3 st' heq
      cases heq
      simp only [Bool.and_eq_true] at h
      obtain ⟨⟨⟨⟨⟨h1, h2⟩, h3⟩, h4⟩, h5⟩, h6⟩ := h
      have eg := sEq_ok h1
      subst eg
      obtain ⟨n1, n2, _⟩ := okName_ok h4
      have hx : X.N[0]? = some x := by rw [i.ns]; exact nsAt_ok h2
      have pself := pe_var (pos := p1) hx (i.vis h3) n1 n2
      -- the value
      have rhs : ∃ te : TE, PE X e te ∧ swapsWith e (some (.Attribute (.Name x p1) f p2)) p3.line X.env = pure false ∧
          ∀ (vs : List V) (H : Hp) (Q : VK), (∀ j, v = .inr j → j < vs.length) → Q (valF vs v) H → te (L2.start s.ns vs) H Q := by
        cases v with
        | inl c =>
          unfold rhsB at h5
          split at h5
          · rename_i c' d k p heq
            cases heq
            rw [sEq_ok h5]
            exact ⟨_, pe_str, rfl, fun vs H Q _ q => q⟩
          · rename_i heq; cases heq
          · cases h5
        | inr j =>
          unfold rhsB at h5
          split at h5
          · rename_i heq; cases heq
          · rename_i j' y p heq
            cases heq
            simp only [Bool.and_eq_true] at h5
            obtain ⟨m1, m2, _⟩ := okName_ok h5.2
            refine ⟨_, pe_var (by rw [i.ns]; exact nsAt_ok h5.1.1) (i.vis h5.1.2) m1 m2, rfl, fun vs H Q hj q => ⟨_, start_at (hj j rfl), q⟩⟩
          · cases h5
      obtain ⟨te, pe, sw, hte⟩ := rhs
      refine pssimp (pss_cons (ps_fld pself pe sw) (ini_ok i r st' h6)) fun D σ H ⟨a, C, vs, H0, done, e0, hlt, T, hf, h0, m, hl, q⟩ => ?_
      subst e0
      have hf0 := hf _ (List.mem_cons_self ..)
      refine hte _ H _ (fun j e => by simpa using hf0.2 j e) ⟨.ref a, start_at (by simp), a, C, rfl, T, hf0.1, ?_⟩
      have rest : ∀ H', Mk1 H0 a C ((f, valF (.ref a :: vs) v) :: done) H' → tIni X.K s.ns r { D with nx := D.nx } (L2.start s.ns (.ref a :: vs)) H' := fun H' m' =>
        ⟨a, C, vs, H0, _, rfl, hlt, T, fun p hp => hf p (List.mem_cons_of_mem _ hp), h0, m', by simp only [List.length_cons] at hl ⊢; omega, q⟩
      rcases m with ⟨rfl, ea, eo⟩ | ⟨z, hz, nz, ea, ez, eo⟩
      · refine .inl ⟨ea, fun z ez nz => rest _ (.inr ⟨z, by rw [← eo z nz]; exact ez, nz, L2.upd_same, by rw [L2.upd_ne nz, L2.upd_same], fun b hb hbz => ?_⟩)⟩
        rw [L2.upd_ne hb, L2.upd_ne hbz, eo b hb]
      · refine .inr ⟨z, done, ea, ez, by simp only [List.length_cons] at hl; omega, rest _ (.inr ⟨z, hz, nz, by rw [L2.upd_ne nz.symm]; exact ea, L2.upd_same, fun b hb hbz => ?_⟩)⟩
        rw [L2.upd_ne hbz, eo b hb hbz]
    · cases h
/-- what such an __init__ promises -/
def spI (K : PySem.W.Frag) (n : Nat) (fl : List (Str × Sum Str Nat)) : Sp := fun vs H Q _ => ∃ (a C : Addr) (us : List V), vs = .ref a :: us ∧ us.length = n ∧ OxC K C ∧ (∀ p ∈ fl, PySem.W.findIn K (.ref C) p.1 = some none) ∧ H a = some (exo a C none) ∧
  ∀ H2, Mk1 (del H a) a C (laid vs [] fl) H2 → Q .non H2
theorem ini_fn {prog : Program} {w : World} {K : PySem.W.Frag} {mg : Str → Option Value} {base : Heap} {CX : CXT} {x qual : Str} {params : Arguments} {body : List Stmt} {scope : Scope} {dvs : List V} {kws : List (Str × V)} {fI : Addr} {fd : FuncData} {ns ps : List Str} {n : Nat} {fl : List (Str × Sum Str Nat)}
    (F : FunD K x qual params body scope dvs kws fI fd) (sc : FnScope ns ps scope) (hp : ps.length = n + 1) (hn : n < ns.length) (hb : okI ⟨scope, ns, fun _ => true⟩ fl body = true) (hl : fl.length ≤ 900) (hj : ∀ p ∈ fl, ∀ j, p.2 = .inr j → j < n + 1) (k : Nat) :
    FnOk prog w K mg base CX (k + 1) fI fd ps (spI K n fl) := by
  refine F.ok sc (fun vs H Q E ⟨a, C, us, e, l, _⟩ => by rw [e, hp, List.length_cons, l]) fun cdv A outer s H vs Q E hr h => ?_
  obtain ⟨a, C, us, rfl, l, T, hf, ha, q⟩ := h
  refine ⟨_, ini_ok (X := cxOf CX prog w K mg base ns qual scope fI cdv A outer s H E) (s := ⟨scope, ns, fun _ => true⟩) ⟨rfl, rfl, fun _ => rfl⟩ fl body hb, ?_⟩
  refine ⟨a, C, us, del H a, [], rfl, by show us.length < ns.length; omega, T, fun p hp => ⟨hf p hp, fun j e => by rw [l]; exact hj p hp j e⟩, L2.del_same, .inl ⟨rfl, ha, fun b hb => (L2.del_ne hb).symm⟩, by simpa using hl, fun H2 m => q H2 m⟩
theorem laid_self {a : V} {vs : List V} : ∀ {fl : List (Str × Sum Str Nat)} {done : List (Str × V)}, (∀ p ∈ fl, ∀ j, p.2 = .inr j → 1 ≤ j) → laid (a :: vs) done fl = laid (.non :: vs) done fl
  | [], _, _ => rfl
  | (f, v) :: r, done, h => by
    have e : valF (a :: vs) v = valF (.non :: vs) v := by
      cases v with
      | inl c => rfl
      | inr j =>
        have := h _ (List.mem_cons_self ..) j rfl
        obtain ⟨j, rfl⟩ : ∃ k, j = k + 1 := ⟨j - 1, by omega⟩
        simp [valF, List.getD_eq_getElem?_getD]
    unfold laid
    rw [e]
    exact laid_self fun p hp => h p (List.mem_cons_of_mem _ hp)
theorem laid_ne {vs : List V} : ∀ {fl : List (Str × Sum Str Nat)} {done : List (Str × V)}, done ≠ [] → laid vs done fl ≠ []
  | [], _, h => h
  | (f, v) :: r, done, _ => by unfold laid; exact laid_ne (by simp)
/-- the class of an error, its __init__ -/
structure InitOk (P : Program) (w : World) (K : PySem.W.Frag) (mg : Str → Option Value) (base : Heap) (C : Addr) (n : Nat) (fl : List (Str × Sum Str Nat)) : Prop where
  cls : OxC K C
  ini : ∃ (fI : Addr) (fd : FuncData) (ps : List Str), PySem.W.findIn K (.ref C) "__init__" = some (some (.ref fI)) ∧ PySem.W.typeIn K (.ref fI) = some (.type "function") ∧ FnOk P w K mg base (L2.CX P w) 1 fI fd ps (spI K n fl) ∧ Binds K fd ps []
  fld : ∀ p ∈ fl, PySem.W.findIn K (.ref C) p.1 = some none
  par : ∀ p ∈ fl, ∀ j, p.2 = .inr j → 1 ≤ j
  ne : fl ≠ []
/-- C(..): the error made -/
def tMkX (C : Addr) (n : Nat) (fl : List (Str × Sum Str Nat)) (ta : TA) : L2.St → Hp → XK → Prop := fun σ H Q => ta σ H fun vs H1 => vs.length = n ∧ ∀ z, H1 z = none → Q (.ref C) (some z) (upd H1 z (.xd (laid (.non :: vs) [] fl)))
section
variable {X : Cx} {C : Addr} {n : Nat} {fl : List (Str × Sum Str Nat)} {pins : List (Addr × Obj)} {σ : L2.St}
theorem mk_run (J : InitOk X.prog X.w X.K X.mg X.base C n fl) (hr : Room 2 X.A) (hx : Passes (L2.CX X.prog X.w) X (fun _ _ _ => False)) {us : List Value} {vs : List V} {s1 : Shared} {H1 : Hp} {Q : XK} (I1 : Inv X pins σ H1 s1) (r1 : Vals vs us) (hz : us.length ≤ sizeLine) (hv : vs.length = n) (q1 : ∀ z, H1 z = none → Q (.ref C) (some z) (upd H1 z (.xd (laid (.non :: vs) [] fl)))) :
    wpAny (model X.prog X.w) X.A (PySem.call (.ref C) us) (MkP X pins σ Q) X.xe s1 := by
  obtain ⟨nm, q, N, bs, rs, t, sn, sub, ab, col, dd, k0, k1, k2, k3, k5, B, nid, iid, hC, F, th, ho, hne⟩ := J.cls.cls
  obtain ⟨fI, fd, ps, i1, i2, F1, hb⟩ := J.ini
  obtain ⟨hp, g, dr, tk, os⟩ := s1
  have up : hp.objs.size ≤ hp.objs.size + 1 := Nat.le_succ _
  have hn : H1 (hp.objs.size + 1) = none := I1.hok.fresh up
  generalize he : hp.objs.size + 1 = e at up hn
  have keep : ∀ b o, hp.get? b = some o → ((hp.push (PySem.W.kdv_tup us)).push (PySem.HandSPX.excO C hp.objs.size)).get? b = some o := fun b o r => Heap.get?_push_of_some _ (Heap.get?_push_of_some _ r)
  have here : ((hp.push (PySem.W.kdv_tup us)).push (PySem.HandSPX.excO C hp.objs.size)).get? e = some (PySem.HandSPX.excO C hp.objs.size) := by rw [← he]; heap_get
  have I2 : Inv X pins σ (upd H1 e (exo e C none)) ⟨(hp.push (PySem.W.kdv_tup us)).push (PySem.HandSPX.excO C hp.objs.size), g, dr, tk, os⟩ :=
    I1.laid (t' := tk) (a := e) (o := exo e C none) (h' := (hp.push (PySem.W.kdv_tup us)).push (PySem.HandSPX.excO C hp.objs.size)) keep up (exo_ok here)
  have sp : spI X.K n fl (.ref e :: vs) (upd H1 e (exo e C none)) (fun v H2 => v = .non ∧ ∃ (d : Addr) (fs : List (Str × V)), H2 e = some (exo e C (some d)) ∧ H2 d = some (exd d fs) ∧ H1 d = none ∧ Q (.ref C) (some d) (upd (del H2 e) d (.xd fs))) (fun _ _ _ => False) := by
    refine ⟨e, C, vs, rfl, hv, J.cls, J.fld, L2.upd_same, fun H2 m => ⟨rfl, ?_⟩⟩
    rw [laid_self J.par] at m
    rcases m with ⟨m, _⟩ | ⟨z, hz, nz, ea, ez, eo⟩
    · exfalso
      cases hfl : fl with
      | nil => exact J.ne hfl
      | cons p r =>
        obtain ⟨f, v⟩ := p
        rw [hfl] at m
        unfold laid at m
        exact laid_ne (by simp) m
    · have h1z : H1 z = none := by rw [L2.del_ne nz, L2.upd_ne nz] at hz; exact hz
      refine ⟨z, _, ea, ez, h1z, ?_⟩
      have eq : upd (del H2 e) z (.xd (laid (.non :: vs) [] fl)) = upd H1 z (.xd (laid (.non :: vs) [] fl)) := by
        funext b
        by_cases hbz : b = z
        · rw [hbz, L2.upd_same, L2.upd_same]
        · rw [L2.upd_ne hbz, L2.upd_ne hbz]
          by_cases hbe : b = e
          · rw [hbe, L2.del_same, hn]
          · rw [L2.del_ne hbe, eo b hbe hbz, L2.del_ne hbe, L2.upd_ne hbe]
      rw [eq]
      exact q1 z h1z
  have rv : Vals (V.ref e :: vs) (Value.ref e :: us) := .cons rfl r1
  have hl : (Value.ref e :: us).length = ps.length := by
    have l2 := rv.length
    rw [F1.len _ _ _ _ sp] at l2
    exact l2.symm
  subst he
  refine wpAny_call (PySem.HandSPX.call_own F (fun Y => refs_has Y t rs) (I1.kIn _ _ hC) (PySem.W.looks_findIn I1.kIn i1) (fun self => PySem.W.bind_fn I1.kIn self i2) hz ?_)
  have bd : BindsTo ⟨(hp.push (PySem.W.kdv_tup us)).push (PySem.HandSPX.excO C hp.objs.size), g, dr, tk, os⟩ fd ⟨Value.ref (hp.objs.size + 1) :: us, []⟩ (ps.zip (Value.ref (hp.objs.size + 1) :: us)) := by
    have := hb ⟨(hp.push (PySem.W.kdv_tup us)).push (PySem.HandSPX.excO C hp.objs.size), g, dr, tk, os⟩ (Value.ref (hp.objs.size + 1) :: us) I2.kIn (by rw [List.append_nil]; exact hl)
    rw [List.append_nil] at this
    exact this
  refine codeAny_mono (F1.run _ X.stack _ _ ⟨Value.ref (hp.objs.size + 1) :: us, []⟩ _ _ _ _ (hr.make C us []) (I2.env0.make C us []) bd rv sp) fun r s' done => ?_
  match r, done with
  | .error er, done => exact hx pins σ _ _ er s' I2 done
  | .ok (.ret u), ⟨v, H2, os2, bare, un2, hok2, rv2, ev, d, fs, ea, ed, hd1, q2⟩ =>
    subst ev
    obtain ⟨h2, g2, d2, t2, os'⟩ := s'
    exact ⟨rv2, mk_end (raises_own J.cls.exC J.cls.tyC) I1 up keep un2 hok2 os2 bare ea ed hd1 q2⟩
end
end A
end
section
set_option Elab.async false
set_option linter.all false
set_option maxRecDepth 100000
set_option maxHeartbeats 4000000
/-! A25: raise C(..). -/
namespace A
open PySem L2 PyProof.Rows
def convF : Sum Str Nat → Sum Nat D
  | .inl c => .inr (.str c)
  | .inr j => .inl (j - 1)
theorem laid_out {vs : List V} {f : Str} : ∀ {fl : List (Str × Sum Str Nat)} {done : List (Str × V)}, f ∉ fl.map (·.1) → (laid vs done fl).lookup f = done.lookup f
  | [], _, _ => rfl
  | (g, v) :: r, done, h => by
    simp only [List.map_cons, List.mem_cons, not_or] at h
    unfold laid
    rw [laid_out h.2, lookup_put, if_neg h.1]
theorem laid_at {vs : List V} : ∀ {fl : List (Str × Sum Str Nat)} {done : List (Str × V)} {i : Nat} {f : Str} {v : Sum Str Nat}, (fl.map (·.1)).Nodup → fl[i]? = some (f, v) → (laid vs done fl).lookup f = some (valF vs v)
  | [], _, _, _, _, _, h => by simp at h
  | (g, w) :: r, done, 0, f, v, nd, h => by
    simp at h
    obtain ⟨rfl, rfl⟩ := h
    have := (List.nodup_cons.mp nd).1
    unfold laid
    rw [laid_out this, lookup_put, if_pos rfl]
  | (g, w) :: r, done, i + 1, f, v, nd, h => by
    unfold laid
    exact laid_at (List.nodup_cons.mp nd).2 (by simpa using h)
/-- what the check of a raise needs of the class -/
structure RaiseOk (N : Nm) (P : Program) (w : World) (K : PySem.W.Frag) (mg : Str → Option Value) (base : Heap) (c n : Nat) (fs : List Nat) (src : List (Sum Nat D)) : Prop where
  ex : ∃ fl : List (Str × Sum Str Nat), InitOk P w K mg base (N.ca c) n fl ∧ fl.map (·.1) = fs.map N.fnm ∧ src = fl.map (fun p => convF p.2) ∧ (fl.map (·.1)).Nodup ∧ ∀ p ∈ fl, ∀ j, p.2 = .inr j → j < n + 1
section
variable {N : Nm} {Z : Sta × Hp} {X : Cx}
theorem placed {H : Hp} {ds : List D} {vs : List V} (r : RDs N H ds vs) : ∀ {fl : List (Str × Sum Str Nat)}, (∀ p ∈ fl, ∀ j, p.2 = .inr j → 1 ≤ j ∧ j < vs.length + 1) → RDs N H (placeL (fl.map fun p => convF p.2) ds) (fl.map fun p => valF (.non :: vs) p.2)
  | [], _ => .nil
  | (f, .inl c) :: rest, h => .cons mk_str (placed r fun p hp => h p (List.mem_cons_of_mem _ hp))
  | (f, .inr j) :: rest, h => by
    have hj := h _ (List.mem_cons_self ..) j rfl
    obtain ⟨i, rfl⟩ : ∃ i, j = i + 1 := ⟨j - 1, by omega⟩
    refine .cons ?_ (placed r fun p hp => h p (List.mem_cons_of_mem _ hp))
    have hi : i < ds.length := by rw [r.length]; omega
    obtain ⟨v, e1, e2⟩ := r.get (List.getElem?_eq_getElem hi)
    show RD N H (ds.getD (i + 1 - 1) .non) ((V.non :: vs).getD (i + 1) .non)
    simp only [Nat.add_sub_cancel, List.getD_eq_getElem?_getD, List.getElem?_cons_succ, e1, List.getElem?_eq_getElem hi]
    exact e2
theorem hs_raise {ws : (D → Env → Sta → Prop) → Wps} {Ex : D → Env → Sta → Prop} {c n : Nat} {fs : List Nat} {src : List (Sum Nat D)} {x : Str} {p cpos pos : Pos} {es : List Expr} (hK : N.K = X.K) (hc : X.calm = true) (tk : L2.Takes X (xOf N Z Ex)) (J : RaiseOk N X.prog X.w X.K X.mg X.base c n fs src) (hr : Room 2 X.A)
    (hg : Gl X x) (hm : X.mg x = some (.ref (N.ca c))) (hdb : (x == ("__debug__" : Str)) = false) (ha : PA X es (tA N Z (ws Ex))) (pl : es.all plainA = true) (hn0 : n ≤ 1000) (he : es = [] → n = 0 ∧ ∀ ρ S Q, ws Ex ρ S Q → Q [] S) :
    PS X (.Raise (some (.Call (.Name x p) es [] cpos)) none pos) (tSs N Z Ex fun ρ S T => ws T.ex ρ S fun ds S1 => ds.length = n ∧ T.ex (.exc c fs (placeL src ds)) ρ S1) := by
  obtain ⟨fl, I0, hf, hs, nd, hj⟩ := J.ex
  have hx : Passes (L2.CX X.prog X.w) X (fun _ _ _ => False) := passes_call tk fun _ _ _ _ h => h.elim
  have pm : PMk X (.Call (.Name x p) es [] cpos) (tMkX (N.ca c) n fl (tA N Z (ws Ex))) := by
    intro pins s σ H Q I h
    refine wpAny_Call_Name_kw (ld_glob I hg hm ?_ hdb)
    cases es with
    | nil =>
      obtain ⟨e1, e2⟩ := he rfl
      subst e1
      refine PySem.W.callWith_K0 I.kIn I0.cls.kC ?_
      obtain ⟨ρ, S, Ql, rs, rh, fz, q, k⟩ := h
      obtain ⟨h1, h2⟩ := k [] S [] H Fr.refl rh .nil (e2 ρ S Ql q)
      exact mk_run (us := []) I0 hr hx I .nil (Nat.zero_le _) h1 h2
    | cons e r =>
      simp only [List.all_cons, Bool.and_eq_true] at pl
      refine PySem.W.callWith_K (h₀ := X.base) I.ok.mod.kin I0.cls.kC (thn (ha.run cpos pins s σ H _ I h) fun us s1 ⟨vs, H1, I1, r1, h1, h2⟩ => ⟨I1.kIn, ?_⟩) (starEach_plain _ pl.1) (star_none _ pl.2)
      exact mk_run I0 hr hx I1 r1 (by rw [List.nil_append, ← r1.length, h1, sizeLine_eq]; omega) h1 h2
  refine psimp (ps_raise hc tk pm) fun D σ H ⟨Y, ρ, S, T, fy, fs', rs, rh, ex, q, en⟩ => ?_
  subst ex
  refine ⟨ρ, S, _, rs, rh, fy.trans fs', q, fun ds S1 vs H1 f h1 r q1 => ?_⟩
  obtain ⟨q1, q2⟩ := q1
  have hv : vs.length = n := by rw [← r.length, q1]
  refine ⟨hv, fun z hz => ?_⟩
  have dl : Dle H1 (upd H1 z (.xd (laid (.non :: vs) [] fl))) := dle_new hz
  refine ⟨_, ρ, S1, (rs.mono (f.dle rh)).mono dl, h1.skip hz, ((fy.trans fs').trans f).trans (Fr.skip hz), ⟨c, fs, placeL src ds, z, _, fl.map fun p => valF (.non :: vs) p.2, rfl, rfl, rfl, L2.upd_same, ?_, ?_, fun i g v e1 e2 => ?_⟩, q2⟩
  · rw [hs]
    exact (placed r fun p hp j e => ⟨I0.par p hp j e, by rw [hv]; exact hj p hp j e⟩).mono' dl
  · have := congrArg List.length hf
    simp only [List.length_map] at this ⊢
    exact this.symm
  · rw [List.getElem?_map] at e2
    obtain ⟨pr, e3, rfl⟩ := Option.map_eq_some_iff.mp e2
    have e4 : (fs.map N.fnm)[i]? = some (N.fnm g) := by rw [List.getElem?_map, e1]; rfl
    rw [← hf, List.getElem?_map, e3] at e4
    have e5 := Option.some.inj e4
    obtain ⟨pf, pv⟩ := pr
    dsimp only at e5
    rw [← e5]
    exact laid_at nd e3
end
end A
end
section
set_option Elab.async false
set_option linter.all false
set_option maxRecDepth 100000
set_option maxHeartbeats 4000000
/-! A26: isinstance(e, C) and e.f, e the error that a suite handles. -/
namespace A
open PySem L2 PyProof.Rows
section
open PySem.W
variable {prog : Program} {w : World} {A : Around} {E : Value → Shared → Prop} {s : Shared} {K : Frag} {x D : Addr} {ox : Obj} {od : Option Obj}
theorem find_cls {C : Addr} {n : Str} {a g : Value} (hc : (clsIn K C).isSome = true) (h1 : findIn K (.ref C) n = some (some a)) (h2 : specialIn K a "__get__" = some (some g)) (h3 : takesIn K a = some true) : findObj K C od n = some (.bind g a) := by
  cases hcd : clsIn K C with
  | none => rw [hcd] at hc; cases hc
  | some cd =>
    unfold findObj
    rw [hcd, Option.bind_some, h1, Option.bind_some]
    simp [h2, h3]
theorem cls_of (C : ExcC K D) {Q : Option Value → Shared → Prop} (hk : K.In s.heap) (J : InstAt s.heap x ox D od) (q : Q (some (.ref D)) { s with toks := s.toks + 1 }) : wpAny (model prog w) A (getAttr? (.ref x) "__class__") Q E s := by
  have hf : findObj K D od "__class__" = some (.bind (.builtin "getset_descriptor.__get__") (.builtin "object.__class__")) := find_cls (by obtain ⟨cd, hc, _⟩ := any_some C.hd; rw [hc]; rfl) C.ha C.hn C.ht
  obtain ⟨hp, g, d, t, os⟩ := s
  have t0 := J.type (M := model prog w)
  have t1 := looks_findIn (M := model prog w) hk C.hg
  have t2 := looks_findIn (M := model prog w) hk C.hk
  have t3 := looks_find (M := model prog w) hk J hf
  have isB : Looks (model prog w) hp (isInstance (.ref x) (.type "BaseException")) true := t0.andThen (looks_subIn hk C.hs)
  have n0 : (false && onTheHeap (Value.builtin "BaseException.__getattribute__")) = false := rfl
  have n1 : (Value.builtin "BaseException.__getattribute__" == Value.builtin "object.__getattribute__") = false := by decide +kernel
  have n2 : (onTheHeap (Value.ref D) && Value.builtin "BaseException.__getattribute__" == Value.builtin "object.__getattribute__") = false := by rw [n1]; rfl
  unfold getAttr? getAttrBy? getAttrBy
  refine wpAny_bind (wpAny_mkText (wpAny_bind (wpAny_attempt (wpAny_holding ?_))))
  refine wpAny_bind (t0.at (wpAny_bind (t1.at ?_)))
  show wpAny _ _ (if (onTheHeap (Value.ref D) && Value.builtin "BaseException.__getattribute__" == Value.builtin "object.__getattribute__") = true then _ else _) _ _ _
  rw [n2, if_neg Bool.false_ne_true]
  unfold getAttrByItsOwn hookBefore
  refine wpAny_bind ?_
  rw [if_pos (show onTheHeap (Value.ref D) = true from rfl)]
  refine t2.at ?_
  refine wpAny_bind (wpAny_attempt (wpAny_holding ?_))
  unfold callGetattribute
  rw [n0, if_neg Bool.false_ne_true]
  unfold boundAndCalled
  rw [PySem.F.excAttr_ValueError.ga.bind (.ref x)]
  refine wpAny_bind (wpAny_pure ?_)
  show wpAny _ _ (PySem.call (.builtin "BaseException.__getattribute__") [.ref x, .str "__class__" t]) _ _ _
  refine wpAny_call (codeAny_call_builtin PySem.F.excAttr_ValueError.ga.plain PySem.F.entry_bexc_ga ?_)
  refine @check_slot (model prog w) _ _ ⟨hp, g, d, t + 1, os⟩ "BaseException.__getattribute__" "BaseException" "__getattribute__" (.ref x) [.str "__class__" t] [] _ (by decide +kernel) (by decide +kernel) isB (PySem.F.args_bexc_ga (.ref x) (.str "__class__" t)) ?_
  unfold Builtin.«object.__getattribute__»
  refine wpAny_bind (wpAny_of_eq (a := ((Value.ref x : Value), [Value.str "__class__" t])) (by first | rfl | (simp only [slotArgs]; rfl)) ?_)
  refine wpAny_bind (wpAny_pure ?_)
  refine wpAny_bind (t0.at (wpAny_bind (t3.at ?_)))
  show wpAny _ _ (holding [Value.builtin "object.__class__"] (PySem.call (.builtin "getset_descriptor.__get__") [.builtin "object.__class__", .ref x, .ref D]) >>= ret) _ _ _
  refine wpAny_bind (wpAny_holding (wpAny_call (class_get (s := ⟨hp, g, d, t + 1, os⟩) (ox := ox) (od := od) hk J C.hm ?_)))
  refine wpAny_pure ?_
  show wpAny _ _ (handedOut (.ref D)) _ _ _
  rw [handedOut_of (v := .ref D) rfl]
  first
    | exact wpAny_pure (wpAny_pure q)
    | exact wpAny_pure q
    | exact wpAny_pure (wpAny_bind (wpAny_pure (wpAny_pure q)))
theorem kit_err (C : ExcC K D) : KitX K (.ref x) (.ref D) (fun h => InstAt h x ox D od) := by
  have own : ∀ {P : Prop}, (∀ c' d' (cd' : ClassData) sl', K.lookup D = some ⟨c', d', .cls cd', sl'⟩ → P) → P := fun {P} k => by
    obtain ⟨cd, hc, _⟩ := any_some C.hd
    unfold clsIn at hc
    split at hc
    · rename_i c' d' cd' sl' ho
      exact k _ _ _ _ ho
    · cases hc
  refine ⟨fun _ _ _ J => J.type, fun _ _ hk _ => own fun c' d' cd' sl' ho => ?_, fun h tp dd its n sl hk ht => own fun c' d' cd' sl' ho => ?_, fun hk J q => cls_of C hk J q⟩
  · intro A' Q' E' s' k q
    unfold isType loadHead
    exact wpAny_bind (wpAny_loadPart (k _ _ (hk _ _ ho)) (wpAny_pure q))
  · refine Bool.eq_false_iff.mpr fun r => ?_
    have e : D = tp := Value.ref.inj (beq_iff_eq.mp r)
    subst e
    have z := (hk _ _ ho).symm.trans ht
    cases z
end
/-- isinstance(e, c), e the error at a, its dict at z -/
def rIsX (K : PySem.W.Frag) (D a z : Addr) : List V → Hp → VK → Prop := fun xs H Q => ∃ (k : Addr) (b : Bool) (ys : List (Str × V)), H z = some (.xd ys) ∧ xs = [.ref a, .ref k] ∧ PySem.W.kitOne K (.ref D) (.ref k) = some b ∧ Q (.bl b) H
section
variable {N : Nm} {Z : Sta × Hp} {X X0 : Cx} {a z : Addr} {oe : Obj} {pn : List (Addr × Obj)} {i c : Nat} {fs : List Nat} {ds : List D}
theorem call_isX {Dc : Addr} (C : ExcC X.K Dc) (hp : ∀ (pins : List (Addr × Obj)) (σ : L2.St) (H : Hp) (s : Shared), Inv X pins σ H s → s.heap.get? a = some oe) (hz : Zc (.ref Dc) (some z) oe) (hf : ∃ vs, oe.data = .fields vs) : CallR X (.builtin "isinstance") (rIsX X.K Dc a z) := by
  intro pins s σ H xs us Q I r h
  obtain ⟨k, b, ys, hd, rfl, e, q⟩ := h
  cases r with
  | cons rx rr =>
    cases rr with
    | cons rt rr =>
      cases rr
      cases rx
      cases (show _ = Value.ref k from rt)
      have hget := hp _ _ _ _ I
      obtain ⟨vs, hv⟩ := hf
      have hx : ObjOk X.prog X.w H s.heap z (.xd ys) := I.hok z _ hd
      obtain ⟨mA, hns, hr⟩ := hx
      obtain ⟨od, _, _, hod, _⟩ := hns
      have J : PySem.W.InstAt s.heap a oe Dc (some od) := ⟨hget, hz.1, by unfold PySem.W.notCls; rw [hv] <;> rfl, by rw [hz.2]; exact hod⟩
      exact PySem.W.kia_one (kit_err C) I.kIn J e (fun q => nomatch q) fun tk => ⟨.bl b, H, I.kept (t' := tk) fun _ _ q => q, rfl, q⟩
/-- what is known of the error in the suite -/
structure SuX (N : Nm) (X : Cx) (i c : Nat) (fs : List Nat) (ds : List D) (a z : Addr) : Prop where
  xs : N.xs = some (i, c, fs, ds, a, z)
  su : ∃ (X0 : Cx) (oe : Obj) (pn : List (Addr × Obj)), X = X0.suite a ((a, oe) :: pn) ∧ Zc (.ref (N.ca c)) (some z) oe ∧ ∃ vs, oe.data = .fields vs
theorem SuX.at (U : SuX N X i c fs ds a z) {H : Hp} {σ : L2.St} {ρ : Env} (rs : RS N H σ ρ) {c' : Nat} {fs' : List Nat} {ds' : List D} (e : ρ[i]? = some (some (.exc c' fs' ds'))) : c' = c ∧ fs' = fs ∧ ds' = ds ∧ σ[i]? = some (some (.ref a)) ∧
    ∃ (xs : List (Str × V)) (vs : List V), H z = some (.xd xs) ∧ RDs N H ds vs ∧ fs.length = vs.length ∧ ∀ (i : Nat) f v, fs[i]? = some f → vs[i]? = some v → xs.lookup (N.fnm f) = some v := by
  obtain ⟨h1, h2, h3⟩ := rs
  obtain ⟨v, e1, e2⟩ := h2 i _ e
  rcases e2 with e2 | ⟨c2, f2, d2, a2, z2, e3, e4, e5⟩
  · simp only [RD] at e2
  · rw [U.xs] at e3
    cases e3
    cases e4
    subst e5
    unfold XOk at h3
    rw [U.xs] at h3
    exact ⟨rfl, rfl, rfl, e1, h3⟩
theorem he_xis (U : SuX N X i c fs ds a z) {x y : Str} {l : List (Nat × Bool)} {k : Addr} {p p1 p2 pos : Pos} (hC : ExcC X.K (N.ca c)) (hN : X.N[i]? = some x) (hv : Vis X.env.scope x) (n1 : (x == ("__debug__" : Str)) = false) (n2 : (x == ("__classdict__" : Str)) = false)
    (hg : Gl X "isinstance") (hm : X.mg "isinstance" = none) (hg2 : Gl X y) (hm2 : X.mg y = some (.ref k)) (n3 : (y == ("__debug__" : Str)) = false) (tab : ∀ c b, l.lookup c = some b → PySem.W.kitOne X.K (.ref (N.ca c)) (.ref k) = some b) :
    PE X (.Call (.Name "isinstance" p) [.Name x p1, .Name y p2] [] pos) (tOf N Z fun ρ S Q => ∃ c fs ds, ρ[i]? = some (some (.exc c fs ds)) ∧ ∃ b, l.lookup c = some b ∧ Q (.bl b) S) := by
  obtain ⟨X0, oe, pn, eX, hz, hf⟩ := U.su
  have hp : ∀ (pins : List (Addr × Obj)) (σ : L2.St) (H : Hp) (s : Shared), Inv X pins σ H s → s.heap.get? a = some oe := fun pins σ H s I => by
    subst eX
    exact (I.pin (a, oe) (List.mem_append.mpr (.inl List.mem_cons_self))).1
  have e1 : PE X (.Name x p1) _ := pe_var hN hv n1 n2
  have e2 : PE X (.Name y p2) (tC (.ref k)) := pe_glob hg2 hm2 (show RelV (.ref k) (.ref k) from rfl) n3
  refine pimp (pe_callF (call_isX hC hp hz hf) (.fn _ rfl) hg hm (by decide +kernel) (by decide +kernel) (by decide +kernel) (pa_cons e1 (pa_cons e2 pa_nil rfl) (starEach_plain _ rfl)) rfl) fun σ H Q ⟨ρ, S, Qh, rs, rh, fz, ⟨c', fs', ds', e3, b, e4, q⟩, kn⟩ => ?_
  obtain ⟨rfl, rfl, rfl, e5, xs, vs, e6, _⟩ := U.at rs e3
  exact ⟨.ref a, e5, k, b, xs, e6, rfl, tab _ _ e4, kn.at rh mk_bl q⟩
theorem he_xfl (U : SuX N X i c fs ds a z) {x f : Str} {n : Nat} {p1 pos : Pos} (hC : XfC X.K (N.ca c)) (hno : PySem.W.findIn X.K (.ref (N.ca c)) f = some none) (hfn : N.fnm n = f) (hN : X.N[i]? = some x) (hv : Vis X.env.scope x) (n1 : (x == ("__debug__" : Str)) = false) (n2 : (x == ("__classdict__" : Str)) = false) :
    PE X (.Attribute (.Name x p1) f pos) (tOf N Z fun ρ S Q => ∃ c fs ds, ρ[i]? = some (some (.exc c fs ds)) ∧ ∃ y, (fs.zip ds).lookup n = some y ∧ Q y S) := by
  obtain ⟨X0, oe, pn, eX, hz, hf⟩ := U.su
  have e1 : PE X (.Name x p1) _ := pe_var hN hv n1 n2
  subst eX
  refine pimp (pe_xf hC hno hz hf e1) fun σ H Q ⟨ρ, S, Qh, rs, rh, fz, ⟨c', fs', ds', e3, y, e4, q⟩, kn⟩ => ?_
  obtain ⟨rfl, rfl, rfl, e5, xs, vs, e6, r, hl, hx⟩ := U.at rs e3
  have go : ∀ (fs : List Nat) (ds : List D) (vs : List V), RDs N H ds vs → (fs.zip ds).lookup n = some y → ∃ (j : Nat) (v : V), fs[j]? = some n ∧ vs[j]? = some v ∧ RD N H y v := fun fs => by
    induction fs with
    | nil => intro ds vs _ h; simp at h
    | cons g r ih =>
      intro ds vs rr h
      cases ds with
      | nil => simp at h
      | cons d ds =>
        obtain ⟨v, t, rfl, h1, h2⟩ := rr.uncons
        simp only [List.zip_cons_cons, List.lookup] at h
        split at h
        · rename_i hb
          cases h
          exact ⟨0, v, by simpa using (beq_iff_eq.mp hb).symm, rfl, h1⟩
        · obtain ⟨j, w, a1, a2, a3⟩ := ih ds t h2 h
          exact ⟨j + 1, w, by simpa using a1, by simpa using a2, a3⟩
  obtain ⟨j, v, a1, a2, a3⟩ := go _ _ _ r e4
  have e7 := hx j n v a1 a2
  rw [hfn] at e7
  exact ⟨.ref a, e5, rfl, rfl, z, xs, v, rfl, e6, e7, kn.at rh a3 q⟩
end
end A
end
section
set_option Elab.async false
set_option linter.all false
set_option maxRecDepth 100000
set_option maxHeartbeats 4000000
/-! A27: try with any number of except clauses, each with or without a name. -/
namespace A
open PySem L2 PyProof.Rows
/-- a clause: what it names, the slot of its own name, its suite -/
structure Cl where
  c : Value
  i : Option Nat
  ts : Addr → Value → Option Addr → TS
/-- the ends behind a named clause: its name is gone -/
def upE (i : Nat) (D : L2.Ends) : L2.Ends := { nx := fun σ H => D.nx (σ.set i none) H, rt := D.rt, bk := fun σ H => D.bk (σ.set i none) H, ct := fun σ H => D.ct (σ.set i none) H }
def inCl (k : Cl) (D : L2.Ends) (a : Addr) (cls : Value) (d : Option Addr) (σ : L2.St) (H : Hp) : Prop := match k.i with
  | none => k.ts a cls d D σ H
  | some i => k.ts a cls d (upE i D) (σ.set i (some (.ref a))) H
/-- what the clauses wish of an error -/
def wCl (K : PySem.W.Frag) (Wout : WX) (D : L2.Ends) : List Cl → WX
  | [] => Wout
  | k :: r => fun cls d σ H => ∃ b, PySem.W.exmOne K cls k.c = some b ∧ (b = true → ∀ a, H a = none → inCl k D a cls d σ H) ∧ (b = false → wCl K Wout D r cls d σ H)
inductive ClOk (X : Cx) : List ExceptHandler → List Cl → Prop
  | nil : ClOk X [] []
  | bare {x : Str} {c : Value} {ts : Addr → Value → Option Addr → TS} {b₀ : Stmt} {suite : List Stmt} {p1 p2 : Pos} {hs : List ExceptHandler} {l : List Cl} (hc : Names X x c)
      (su : ∀ (a : Addr) (oe : Obj) (cls : Value) (d : Option Addr) (pn : List (Addr × Obj)), Zc cls d oe → (∃ vs, oe.data = .fields vs) → PSs (X.suite a ((a, oe) :: pn)) (b₀ :: suite) (ts a cls d)) (r : ClOk X hs l) :
      ClOk X (.ExceptHandler (some (.Name x p1)) none (b₀ :: suite) p2 :: hs) (⟨c, none, ts⟩ :: l)
  | named {x n : Str} {i : Nat} {c : Value} {ts : Addr → Value → Option Addr → TS} {b₀ : Stmt} {suite : List Stmt} {p1 p2 : Pos} {hs : List ExceptHandler} {l : List Cl} (hc : Names X x c) (hi : X.N[i]? = some n) (hl : X.env.kindOf n = some .local)
      (su : ∀ (a : Addr) (oe : Obj) (cls : Value) (d : Option Addr) (pn : List (Addr × Obj)), Zc cls d oe → (∃ vs, oe.data = .fields vs) → PSs (X.suite a ((a, oe) :: pn)) (b₀ :: suite) (ts a cls d)) (r : ClOk X hs l) :
      ClOk X (.ExceptHandler (some (.Name x p1)) (some n) (b₀ :: suite) p2 :: hs) (⟨c, some i, ts⟩ :: l)
section
variable {X : Cx} {body : List Stmt} {h₀ : ExceptHandler} {hs : List ExceptHandler} {l : List Cl} {pos : Pos} {tb : WX → TS} {Wout : WX}
theorem ps_tryA (hst : X.stack = X.env :: X.outer) (hfr : X.env.frame = some X.env.locals) (hN : X.N.Nodup) (tk : L2.Takes X Wout)
    (hb : ∀ (W : WX) (pn : List (Addr × Obj)) (xe : Value → Shared → Prop), L2.Takes (X.tr pn xe) W → PassesOwn (model X.prog X.w) X.A X.env xe → PSs (X.tr pn xe) body (tb W)) (hh : ClOk X (h₀ :: hs) l) :
    PS X (.Try body (h₀ :: hs) [] [] pos) (fun D σ H => tb (wCl X.K Wout D l) D σ H) := by
  refine ⟨fun pins s σ H D I h => ?_⟩
  have ok := I.ok
  have fr : X.A.frames = some (X.env :: X.outer) := by rw [ok.frames, hst]
  let catch_ : Value → Shared → Prop := fun e s₁ => wpAny (model X.prog X.w) X.A (noteFrame e X.env) (fun _ s₂ => wpAny (model X.prog X.w) X.A (setFlight e none) (fun _ s₃ => wpAny (model X.prog X.w) X.A (handleBy e X.env (h₀ :: hs)) (SP X pins D) X.xe s₃) X.xe s₂) X.xe s₁
  have caught : L2.Takes (X.tr (X.pn ++ pins) catch_) (wCl X.K Wout D l) := by
    intro u s' air
    obtain ⟨a, B, sI, pins', σ', H', cls, d, rfl, J', nb, up, sky, na, os, ag, w⟩ := air
    have J := J'.ofTry ok
    have sky' : Sky B (X.env :: X.outer) a (Zc cls d) X.env.locals s'.heap := by rw [← hst]; exact sky
    refine Sky.land Zc.steady fr hfr sky' fun h3 fl3 up3 => ?_
    have J3 : Inv X pins σ' H' { s' with heap := h3 } := J.landed nb fl3.1 (up.trans up3) os ag
    obtain ⟨oe3, vs3, he3, hz3, hd3⟩ := fl3.there
    have noFrame : a ∉ frs (X.env :: X.outer) := fun hm => by
      obtain ⟨_, o', e', hnf⟩ := fl3.2.2.1.mem hm
      rw [he3] at e'
      cases e'
      exact hnf _ hd3
    have nL : a ≠ X.env.locals := fun z => noFrame (List.mem_filterMap.mpr ⟨X.env, List.mem_cons_self, by rw [hfr, z]⟩)
    have nF : a ∉ X.fs := fun hm => by
      obtain ⟨e, he, q⟩ := List.mem_filterMap.mp hm
      exact noFrame (List.mem_filterMap.mpr ⟨e, List.mem_cons_of_mem _ he, q⟩)
    have S3 := J3.suite he3 hd3 na nL nF
    have LT : PySem.W.Looks (model X.prog X.w) h3 (typeOf (.ref a)) cls := fun A Q E s k q => wpAny_typeOf_ref (k _ _ he3) (by rw [hz3.1]; exact q)
    have nameIs : ∀ {x : Str} {p1 : Pos} {c : Value} {Q E : Value → Shared → Prop}, Names X x c → Q c { s' with heap := h3 } → wpAny (model X.prog X.w) (X.A.mark (some (.ref a))) (eval (.Name x p1) X.env) Q E { s' with heap := h3 } := fun {x p1 c Q E} hc q => by
      obtain ⟨hg, hd, hm | ⟨hm, hv, hn⟩⟩ := hc
      · exact ld_glob (X := X.suite a ((a, oe3) :: (X.pn ++ pins))) S3 hg hm q hd
      · exact ld_blt (X := X.suite a ((a, oe3) :: (X.pn ++ pins))) S3 hg hm hv q hn hd
    have go : ∀ {hs' : List ExceptHandler} {l' : List Cl}, ClOk X hs' l' → wCl X.K Wout D l' cls d σ' H' → wpAny (model X.prog X.w) X.A (handleBy (.ref a) X.env hs') (SP X pins D) X.xe { s' with heap := h3 } := by
      intro hs' l' hk
      induction hk with
      | nil =>
        intro w
        refine wpAny_handleBy_nil ?_
        obtain ⟨k1, k2, k3, oe, vs, T, oT, ts', he, hz, hd, h1, hr⟩ := id fl3
        unfold PySem.passOn
        refine wpAny_bind (wpAny_field he hd h1 ?_)
        rw [if_neg (show ¬ ((Value.ref T == Value.none) = true) from by simp)]
        have on : wpAny (model X.prog X.w) X.A (setFlight (.ref a) X.env.frame) (fun _ s4 => wpAny (model X.prog X.w) X.A (throw (.ref a) : Sem Flow) (SP X pins D) X.xe s4) X.xe { s' with heap := h3 } := by
          rw [hfr]
          refine HandSPX.setFlight_upZ fl3 fun h4 hh4 up4 => wpAny_throw (tk _ _ ?_)
          exact ⟨a, B, sI, pins, σ', H', cls, d, rfl, J, nb, (up.trans up3).trans up4, .inr (.inr (by rw [hst]; exact hh4)), na, os, ag, w⟩
        first
          | exact wpAny_bind (wpAny_pure (wpAny_bind on))
          | exact wpAny_bind on
      | @bare x c ts b₀ suite p1 p2 hs2 l2 hc su r ih =>
        intro w
        obtain ⟨b, e1, yes, no⟩ := w
        refine wpAny_handleBy_cons (codeAny_handlers_test (nameIs hc ((PySem.W.exm_one (M := model X.prog X.w) J3.kIn LT e1).here ?_))) (by intro q; cases q)
        cases b with
        | false => exact ih (no rfl)
        | true =>
          refine codeAny_handlers_suite (HandSPX.lands_againZ fl3 fun h4 fl4 up4 => ?_)
          have J4 : Inv X pins σ' H' { s' with heap := h4 } := J.landed nb fl4.1 ((up.trans up3).trans up4) os ag
          obtain ⟨oe4, vs4, he4, hz4, hd4⟩ := fl4.there
          refine wpAny_mono ((su a oe4 cls d (X.pn ++ pins) hz4 ⟨_, hd4⟩).run [] _ _ H' D (J4.suite he4 hd4 na nL nF) (yes rfl a na)) (fun f s6 hsp => ?_) (fun _ _ z => False.elim z)
          cases f with
          | ret u =>
            obtain ⟨v6, σ6, H6, S6, r6, q6⟩ := hsp
            exact ⟨_, _, _, S6.unsuite ok, r6, q6⟩
          | _ =>
            obtain ⟨σ6, H6, S6, q6⟩ := hsp
            exact ⟨_, _, S6.unsuite ok, q6⟩
      | @named x n i c ts b₀ suite p1 p2 hs2 l2 hc hi hl su r ih =>
        intro w
        obtain ⟨b, e1, yes, no⟩ := w
        refine wpAny_handleBy_cons (codeAny_handlers_test (nameIs hc ((PySem.W.exm_one (M := model X.prog X.w) J3.kIn LT e1).here ?_))) (by intro q; cases q)
        cases b with
        | false => exact ih (no rfl)
        | true =>
          refine codeAny_handlers_suite_as (HandSPX.lands_againZ fl3 fun h4 fl4 up4 => ?_)
          have J4 : Inv X pins σ' H' { s' with heap := h4 } := J.landed nb fl4.1 ((up.trans up3).trans up4) os ag
          obtain ⟨oe4, vs4, he4, hz4, hd4⟩ := fl4.there
          refine store_ok (X := X.suite a ((a, oe4) :: (X.pn ++ pins))) (v := .ref a) (J4.suite he4 hd4 na nL nF) hN hi (.inl hl) rfl (fun s5 S5 => ?_) (.inr hl)
          refine wpAny_mono ((su a oe4 cls d (X.pn ++ pins) hz4 ⟨_, hd4⟩).run [] s5 _ H' (upE i D) S5 (yes rfl a na)) (fun f s6 hsp => ?_) (fun _ _ z => False.elim z)
          have away : ∀ {σ6 : L2.St} {H6 : Hp} {Q : Shared → Prop}, Inv (X.suite a ((a, oe4) :: (X.pn ++ pins))) [] σ6 H6 s6 → (∀ s7, Inv X pins (σ6.set i none) H6 s7 → Q s7) →
              wpAny (model X.prog X.w) X.A (do bindName X.env n .none; unbindBehindTheSuite X.env n p2) (fun _ s7 => Q s7) X.xe s6 := fun S6 q => gone_ok (S6.unsuite ok) hN hi hl q
          cases f with
          | ret u =>
            obtain ⟨v6, σ6, H6, S6, r6, q6⟩ := hsp
            exact away S6 fun s7 J7 => ⟨_, _, _, J7, r6, q6⟩
          | _ =>
            obtain ⟨σ6, H6, S6, q6⟩ := hsp
            exact away S6 fun s7 J7 => ⟨_, _, J7, q6⟩
    exact go hh w
  refine wpAny_Try_except (wpAny_mono ((hb (wCl X.K Wout D l) (X.pn ++ pins) catch_ caught PassesOwn.looking).run [] s σ H D (I.toTry _) h) (fun f s1 hsp => ?_) fun e s1 he => he)
  cases f with
  | next =>
    obtain ⟨σ', H', J', q⟩ := hsp
    exact wpAny_execs_nil ⟨σ', H', J'.ofTry ok, q⟩
  | ret u =>
    obtain ⟨v, σ', H', J', r, q⟩ := hsp
    exact ⟨v, σ', H', J'.ofTry ok, r, q⟩
  | _ =>
    obtain ⟨σ', H', J', q⟩ := hsp
    exact ⟨σ', H', J'.ofTry ok, q⟩
end
end A
end
section
set_option Elab.async false
set_option linter.all false
set_option maxRecDepth 100000
set_option maxHeartbeats 2000000
/-! A28: the program's facts; the check that an expression of the program is one of the small language. -/
namespace A
open PySem L2 PyProof.Rows

/-! ### the program's facts -/
def GOk (N : Nm) (X : Cx) (x : Str) : GV → Prop
  | .con d => ∃ v u, X.mg x = some u ∧ RelV v u ∧ ∀ H, RD N H d v
  | .fn f => X.mg x = some (.ref (N.fa f)) ∧ PySem.W.keepIn X.K (.ref (N.fa f)) = true
  | .cls c => X.mg x = some (.ref (N.ca c))
structure Fx (N : Nm) (T : Tb) (C : Orc) (X : Cx) : Prop where
  hK : N.K = X.K
  u : X.A.units + 64 < cLine
  glob : ∀ x g, (x, g) ∈ T.glob → GOk N X x g
  blt : ∀ x ∈ T.blts, X.mg x = none
  call : T.hot = false → ∀ f n es, (f, n, es) ∈ T.calls → CallOk N C X.prog X.w X.K X.mg X.base X.A f es
  kcall : T.hot = false → ∀ f n ks sh, (f, n, ks, sh) ∈ T.kcalls → CallOkK N C X.prog X.w X.K X.mg X.base X.A f n ks sh
  own : ∀ (N' : Nm) (X' : Cx), N'.K = N.K → X'.prog = X.prog → X'.w = X.w → X'.K = X.K → X'.mg = X.mg → X'.base = X.base → OwnOk N' C X'
  calm : T.hot = false → X.calm = true
  nd : X.N.Nodup
  room : T.hot = false → Room 2 X.A
  cold : T.hot = false → N.xs = none
  raise : ∀ c n fs src, (c, n, fs, src) ∈ T.raises → RaiseOk N X.prog X.w X.K X.mg X.base c n fs src
  exm : ∀ x l, (x, l) ∈ T.exms → ∃ k : Addr, X.mg x = some (.ref k) ∧ ∀ c b, l.lookup c = some b → PySem.W.exmOne X.K (.ref (N.ca c)) (.ref k) = some b
  iss : ∀ x l, (x, l) ∈ T.iss → ∃ k : Addr, X.mg x = some (.ref k) ∧ ∀ c b, l.lookup c = some b → PySem.W.kitOne X.K (.ref (N.ca c)) (.ref k) = some b
  flds : ∀ n f, (n, f) ∈ T.flds → N.fnm n = f ∧ ∀ c ∈ T.xcls, PySem.W.findIn X.K (.ref (N.ca c)) f = some none
  xc : ∀ c ∈ T.xcls, ExcC X.K (N.ca c) ∧ XfC X.K (N.ca c)
  xvs : ∀ r, N.xs = some r → T.xv = some r.1
  sux : ∀ i, T.xv = some i → ∃ c fs ds a z, SuX N X i c fs ds a z ∧ c ∈ T.xcls
  hotx : T.hot = false → T.xv = none
theorem Fx.own' {N : Nm} {T : Tb} {C : Orc} {X : Cx} (F : Fx N T C X) : OwnOk N C X := F.own N X rfl rfl rfl rfl rfl rfl
theorem Fx.blk {N : Nm} {T : Tb} {C : Orc} {X : Cx} (F : Fx N T C X) (hh : T.hot = false) (s : Shared) (H : Hp) (scope : Scope) (cenv : PySem.Env) (fp : List Addr) : Fx N T C (X.blk s H scope cenv fp) :=
  ⟨F.hK, F.u, fun x g h => by
    have q := F.glob x g h
    cases g <;> exact q, F.blt, F.call, F.kcall, F.own, F.calm, F.nd, F.room, F.cold, F.raise, F.exm, F.iss, F.flds, F.xc, F.xvs, fun i e => (by rw [F.hotx hh] at e; cases e), F.hotx⟩
theorem Fx.noX {N : Nm} {T : Tb} {C : Orc} {X : Cx} (F : Fx N T C X) {i : Nat} (h : T.xv ≠ some i) : ∀ r, N.xs = some r → r.1 ≠ i := fun r e e2 => h (by rw [F.xvs r e, e2])
theorem Fx.u1 {N : Nm} {T : Tb} {C : Orc} {X : Cx} (F : Fx N T C X) : X.A.units + 1 < cLine := by have := F.u; omega
theorem Fx.cmp {N : Nm} {T : Tb} {C : Orc} {X : Cx} (F : Fx N T C X) (o : Co) : OpR X (compareOp (coOp o)) (rCmp N C o) := op_cmp F.hK F.u F.own'.eq F.own'.ne o

/-! ### the check -/
def boEq (o : Bo) (p : Operator) : Bool := decide (boOp o = p)
def coEq (o : Co) (p : CmpOp) : Bool := decide (coOp o = p)
def isBool : Expr → Bool
  | .BoolOp _ _ _ => true
  | _ => false
def testable (e : Expr) : Bool := plainT e || match e with
  | .UnaryOp .Not _ _ => true
  | .BoolOp _ _ _ => true
  | .Compare _ _ _ _ => true
  | _ => false
def notSet : Expr → Bool
  | .Set _ _ _ => false
  | _ => true
def isNil : E → Bool
  | .nil => true
  | _ => false
/-- a constant of the small language against a written one -/
def okC (T : Tb) (s : Sx) : D → Expr → Bool
  | .non, .Constant .none _ _ => true
  | .bl b, .Constant (.bool c) _ _ => b == c
  | .int i, .Constant (.int j) _ _ => i == j
  | .str x, .Constant (.str y) _ _ => sEq x y
  | _, _ => false
/-- a name of the module that is a constant -/
def okG (T : Tb) (s : Sx) (n : Str) : Bool := s.gl n && okName n
def Tb.isB (T : Tb) (x : Str) : Bool := sIn x T.blts
def Tb.isF (T : Tb) (x : Str) (f : Nat) : Bool := match sLook x T.glob with
  | some (.fn g) => f == g
  | _ => false
mutual
def beqD : D → D → Bool
  | .non, .non => true
  | .bl a, .bl b => a == b
  | .int a, .int b => a == b
  | .str a, .str b => sEq a b
  | .tup a, .tup b => beqDs a b
  | _, _ => false
def beqDs : List D → List D → Bool
  | [], [] => true
  | a :: r, b :: t => beqD a b && beqDs r t
  | _, _ => false
end
mutual
theorem beqD_ok : ∀ (a b : D), beqD a b = true → a = b
  | .non, b, h => by cases b <;> first | rfl | cases h
  | .bl x, b, h => by cases b <;> first | (simp only [beqD, beq_iff_eq] at h; rw [h]) | cases h
  | .int x, b, h => by cases b <;> first | (simp only [beqD, beq_iff_eq] at h; rw [h]) | cases h
  | .str x, b, h => by cases b <;> first | (simp only [beqD] at h; rw [sEq_ok h]) | cases h
  | .tup x, b, h => by cases b <;> first | (simp only [beqD] at h; rw [beqDs_ok x _ h]) | cases h
  | .lis x, b, h => by cases b <;> cases h
  | .ref x, b, h => by cases b <;> cases h
  | .fn x, b, h => by cases b <;> cases h
  | .exc _ _ _, b, h => by cases b <;> cases h
theorem beqDs_ok : ∀ (a b : List D), beqDs a b = true → a = b
  | [], b, h => by cases b <;> first | rfl | cases h
  | x :: r, b, h => by
    cases b with
    | nil => cases h
    | cons y t =>
      simp only [beqDs, Bool.and_eq_true] at h
      rw [beqD_ok x y h.1, beqDs_ok r t h.2]
end
def Tb.isC (T : Tb) (x : Str) (d : D) : Bool := match sLook x T.glob with
  | some (.con e) => beqD d e
  | _ => false
def Tb.isK (T : Tb) (x : Str) (c : Nat) : Bool := match sLook x T.glob with
  | some (.cls e) => c == e
  | _ => false
def Tb.hasCall (T : Tb) (f n : Nat) (es : List D) : Bool := T.calls.any fun p => p.1 == f && p.2.1 == n && beqDs p.2.2 es
theorem hasCall_ok {T : Tb} {f n : Nat} {es : List D} (h : T.hasCall f n es = true) : (f, n, es) ∈ T.calls := by
  unfold Tb.hasCall at h
  obtain ⟨p, hp, h⟩ := List.any_eq_true.mp h
  simp only [Bool.and_eq_true, beq_iff_eq] at h
  obtain ⟨⟨h1, h2⟩, h3⟩ := h
  have := beqDs_ok _ _ h3
  obtain ⟨a, b, c⟩ := p
  simp only at h1 h2 this
  rw [← h1, ← h2, ← this]
  exact hp
def beqSh : List (Sum Nat D) → List (Sum Nat D) → Bool
  | [], [] => true
  | .inl i :: r, .inl j :: t => i == j && beqSh r t
  | .inr d :: r, .inr e :: t => beqD d e && beqSh r t
  | _, _ => false
theorem beqSh_ok : ∀ (a b : List (Sum Nat D)), beqSh a b = true → a = b
  | [], [], _ => rfl
  | [], _ :: _, h => by cases h
  | .inl _ :: _, [], h => by cases h
  | .inr _ :: _, [], h => by cases h
  | .inl i :: r, .inl j :: t, h => by
    simp only [beqSh, Bool.and_eq_true, beq_iff_eq] at h
    rw [h.1, beqSh_ok r t h.2]
  | .inr d :: r, .inr e :: t, h => by
    simp only [beqSh, Bool.and_eq_true] at h
    rw [beqD_ok d e h.1, beqSh_ok r t h.2]
  | .inl _ :: _, .inr _ :: _, h => by cases h
  | .inr _ :: _, .inl _ :: _, h => by cases h
def beqShp : Shp → Shp → Bool
  | .app a, .app b => beqDs a b
  | .perm a, .perm b => beqSh a b
  | _, _ => false
theorem beqShp_ok : ∀ (a b : Shp), beqShp a b = true → a = b
  | .app a, .app b, h => by simp only [beqShp] at h; rw [beqDs_ok a b h]
  | .perm a, .perm b, h => by simp only [beqShp] at h; rw [beqSh_ok a b h]
  | .app _, .perm _, h => by cases h
  | .perm _, .app _, h => by cases h
def beqStrs : List Str → List Str → Bool
  | [], [] => true
  | a :: r, b :: t => sEq a b && beqStrs r t
  | _, _ => false
theorem beqStrs_ok : ∀ (a b : List Str), beqStrs a b = true → a = b
  | [], [], _ => rfl
  | [], _ :: _, h => by cases h
  | _ :: _, [], h => by cases h
  | a :: r, b :: t, h => by
    simp only [beqStrs, Bool.and_eq_true] at h
    rw [sEq_ok h.1, beqStrs_ok r t h.2]
def Tb.hasK (T : Tb) (f n : Nat) (ks : List Str) (sh : Shp) : Bool := T.kcalls.any fun p => p.1 == f && p.2.1 == n && beqStrs p.2.2.1 ks && beqShp p.2.2.2 sh
theorem hasK_ok {T : Tb} {f n : Nat} {ks : List Str} {sh : Shp} (h : T.hasK f n ks sh = true) : (f, n, ks, sh) ∈ T.kcalls := by
  unfold Tb.hasK at h
  obtain ⟨p, hp, h⟩ := List.any_eq_true.mp h
  simp only [Bool.and_eq_true, beq_iff_eq] at h
  obtain ⟨⟨⟨h1, h2⟩, h3⟩, h4⟩ := h
  obtain ⟨a, b, c, d⟩ := p
  simp only at h1 h2 h3 h4
  rw [← h1, ← h2, ← beqStrs_ok _ _ h3, ← beqShp_ok _ _ h4]
  exact hp
def Tb.hasR (T : Tb) (c n : Nat) (fs : List Nat) (src : List (Sum Nat D)) : Bool := T.raises.any fun p => p.1 == c && p.2.1 == n && p.2.2.1 == fs && beqSh p.2.2.2 src
theorem hasR_ok {T : Tb} {c n : Nat} {fs : List Nat} {src : List (Sum Nat D)} (h : T.hasR c n fs src = true) : (c, n, fs, src) ∈ T.raises := by
  unfold Tb.hasR at h
  obtain ⟨p, hp, h⟩ := List.any_eq_true.mp h
  simp only [Bool.and_eq_true, beq_iff_eq] at h
  obtain ⟨⟨⟨h1, h2⟩, h3⟩, h4⟩ := h
  obtain ⟨a, b, d, e⟩ := p
  simp only at h1 h2 h3 h4
  rw [← h1, ← h2, ← h3, ← beqSh_ok _ _ h4]
  exact hp
def hasL (l : List (Str × List (Nat × Bool))) (x : Str) (t : List (Nat × Bool)) : Bool := match sLook x l with
  | some u => u == t
  | none => false
theorem hasL_ok {l : List (Str × List (Nat × Bool))} {x : Str} {t : List (Nat × Bool)} (h : hasL l x t = true) : (x, t) ∈ l := by
  unfold hasL at h
  split at h
  · rename_i u e
    rw [← beq_iff_eq.mp h]
    exact sLook_ok e
  · cases h
def Tb.hasFld (T : Tb) (n : Nat) (f : Str) : Bool := T.flds.any fun p => p.1 == n && sEq p.2 f
theorem hasFld_ok {T : Tb} {n : Nat} {f : Str} (h : T.hasFld n f = true) : (n, f) ∈ T.flds := by
  unfold Tb.hasFld at h
  obtain ⟨p, hp, h⟩ := List.any_eq_true.mp h
  simp only [Bool.and_eq_true, beq_iff_eq] at h
  obtain ⟨a, b⟩ := p
  simp only at h
  rw [← h.1, ← sEq_ok h.2]
  exact hp
def okTg (s : Sx) : List Nat → Expr → Bool
  | [i], .Name x _ => nsAt s.ns i x && s.loc x
  | is, .Tuple xs _ _ => is.length != 1 && okTgs s is xs
  | _, _ => false
where okTgs (s : Sx) : List Nat → List Expr → Bool
  | [], [] => true
  | i :: is, .Name x _ :: xs => nsAt s.ns i x && s.loc x && okTgs s is xs
  | _, _ => false
/-- the names of a comprehension's own slots -/
def ownN (ns : List Str) (own : List Nat) : List (Str × Nat) := own.map fun i => (ns.getD i Str.empty, i)
def subN : List Nat → List Nat → Bool
  | [], _ => true
  | i :: is, l => l.contains i && subN is l
/-- a comprehension's block -/
def Sx.blk (s : Sx) (scope : Scope) : Sx := ⟨relS scope s.sc, s.ns, fun x => scope.names.lookup x == some .cell⟩
mutual
def okE (T : Tb) : E → Sx → Expr → Bool
  | .nev, _, _ => true
  | .v i, s, e => (match e with
    | .Name x _ => s.vis x && nsAt s.ns i x && okName x && T.xv != some i
    | _ => false)
  | .c d, s, e => (match e with
    | .Name x _ => s.gl x && okName x && T.isC x d
    | e => okC T s d e)
  | .bin o a b, s, e => (match e with
    | .BinOp x op y _ => boEq o op && okE T a s x && okE T b s y
    | _ => false)
  | .neg a, s, e => (match e with
    | .UnaryOp .USub x _ => okE T a s x
    | _ => false)
  | .not a, s, e => (match e with
    | .UnaryOp .Not x _ => testable x && okE T a s x
    | _ => false)
  | .and a b, s, e => (match e with
    | .BoolOp .And [x, y] _ => testable x && testable y && okE T a s x && okE T b s y
    | .BoolOp .And (x :: y :: z :: r) p => testable x && okE T a s x && okE T b s (.BoolOp .And (y :: z :: r) p)
    | _ => false)
  | .or a b, s, e => (match e with
    | .BoolOp .Or [x, y] _ => testable x && testable y && okE T a s x && okE T b s y
    | .BoolOp .Or (x :: y :: z :: r) p => testable x && okE T a s x && okE T b s (.BoolOp .Or (y :: z :: r) p)
    | _ => false)
  | .cmp o a b, s, e => (match e with
    | .Compare x [op] [y] _ => coEq o op && !behindInMarks op y && okE T a s x && okE T b s y
    | _ => false)
  | .chn a o b o' c, s, e => (match e with
    | .Compare x [op, op'] [y, z] _ => coEq o op && coEq o' op' && !lastMarks [op, op'] [y, z] && okE T a s x && okE T b s y && okE T c s z
    | _ => false)
  | .ite t a b, s, e => (match e with
    | .IfExp x y z _ => testable x && okE T t s x && okE T a s y && okE T b s z
    | _ => false)
  | .tup es, s, e => (match e with
    | .Tuple xs _ _ => okEs T es s xs
    | _ => false)
  | .lst es, s, e => (match e with
    | .List xs _ => okEs T es s xs
    | _ => false)
  | .ix a i, s, e => (match e with
    | .Subscript x y _ => plainIx y && okE T a s x && okE T i s y
    | _ => false)
  | .sl a lo hi, s, e => (match e with
    | .Subscript x (.Slice l h none _) _ => okE T a s x && (match l with
        | none => isNil lo
        | some y => !isNil lo && okE T lo s y) && (match h with
        | none => isNil hi
        | some y => !isNil hi && okE T hi s y)
    | _ => false)
  | .b1 b a, s, e => (match e with
    | .Call (.Name f _) [x] [⟨some k, .Constant .none _ _, _⟩] _ => (match b with
      | .minD => !T.hot && sEq f "min" && sEq k "default" && s.gl f && T.isB f && plainA x && okE T a s x
      | _ => false)
    | .Call (.Name f _) [x] [] _ => b1ok b && (hotB b || !T.hot) && sEq f (bname b) && s.gl f && T.isB f && plainA x && okE T a s x
    | _ => false)
  | .b2 b a c, s, e => (match e with
    | .Call (.Name f _) [x, y] [] _ => !T.hot && sEq f (b2name b) && s.gl f && T.isB f && plainA x && plainA y && okE T a s x && okE T c s y
    | _ => false)
  | .bm m o es, s, e => (match e with
    | .Call (.Attribute x f ap) xs [] cp => bmOk m && sEq f (bmN m) && noSup x && (ap.endLine == cp.line) && decide (xs.length < 29) && okE T o s x && okEs T es s xs
    | _ => false)
  | .isi a [k], s, e => (match e with
    | .Call (.Name f _) [x, .Name t _] [] _ => kdOk k && sEq f "isinstance" && sEq t (Str.ofString (kdN k)) && s.gl f && s.gl t && T.isB f && T.isB t && plainA x && okE T a s x
    | _ => false)
  | .call f (.app ds) es, s, e => (match e with
    | .Call (.Name g _) xs [] _ => !T.hot && T.isF g f && s.gl g && okName g && T.hasCall f xs.length ds && okEs T es s xs
    | _ => false)
  | .callk f sh es ks, s, e => (match e with
    | .Call (.Name g _) xs kws _ => !T.hot && T.isF g f && s.gl g && okName g && kwAll kws && T.hasK f xs.length (kwN kws) sh && okEs T es s xs && okEs T ks s (kws.map (·.value))
    | _ => false)
  | .lc elt own tg it cond, s, e => (match e with
    | .ListComp x [⟨t, i, ifs, 0⟩] scope _ => !T.hot && okIt T it s t i && okTg (s.blk scope) tg t && blkC s.ns s.sc scope (ownN s.ns own) && subN tg own && notSet i && okE T elt (s.blk scope) x && (match ifs with
        | [] => (match cond with
          | .c (.bl true) => true
          | _ => false)
        | [y] => testable y && okE T cond (s.blk scope) y
        | _ => false)
    | _ => false)
  | .xis i l, s, e => (match e with
    | .Call (.Name f _) [.Name x _, .Name y _] [] _ => T.xv == some i && sEq f "isinstance" && s.gl f && T.isB f && nsAt s.ns i x && s.vis x && okName x && s.gl y && okName y && hasL T.iss y l
    | _ => false)
  | .xfl i n, s, e => (match e with
    | .Attribute (.Name x _) f _ => T.xv == some i && nsAt s.ns i x && s.vis x && okName x && T.hasFld n f
    | _ => false)
  | _, _, _ => false
def okEs (T : Tb) : Es → Sx → List Expr → Bool
  | .nil, _, l => (match l with
    | [] => true
    | _ => false)
  | .cons a r, s, l => (match l with
    | x :: xs => plainA x && okE T a s x && okEs T r s xs
    | [] => false)
def okIt (T : Tb) : A.It → Sx → Expr → Expr → Bool
  | .seq a, s, _, e => okE T a s e
  | .rng a, s, _, e => (match e with
    | .Call (.Name f _) [x] [] _ => sEq f "range" && s.gl f && T.isB f && plainA x && okE T a s x
    | _ => false)
  | .enm a st, s, t, e => (match t, e with
    | .Tuple _ _ _, .Call (.Name f _) [x] [] _ => st == 0 && sEq f "enumerate" && s.gl f && T.isB f && plainA x && okE T a s x
    | _, _ => false)
  | .zip a b st, s, t, e => (match t, e with
    | .Tuple _ _ _, .Call (.Name f _) [x, y] [] _ => !st && sEq f "zip" && s.gl f && T.isB f && plainA x && plainA y && okE T a s x && okE T b s y
    | _, _ => false)
end
end A
end
section
set_option Elab.async false
set_option linter.all false
set_option maxRecDepth 100000
set_option maxHeartbeats 4000000
/-! A16: what the check says of expressions. -/
namespace A
open PySem L2 PyProof.Rows
/-- what an expression is: as a value, as a test -/
structure J (N : Nm) (Z : Sta × Hp) (X : Cx) (e : Expr) (w : Wp) : Prop where
  pe : PE X e (tOf N Z w)
  pt : testable e = true → PT X e (tT N Z w)
  pw : isBool e = true → PW X e (tT N Z w)
section
variable {N : Nm} {Z : Sta × Hp} {X : Cx} {S : Sta} {e : Expr} {w : Wp} {T : Tb} {C : Orc} {s : Sx}
theorem J.plain (hK : N.K = X.K) (h : PE X e (tOf N Z w)) (nb : isBool e = false) (pl : testable e = true → plainT e = true) : J N Z X e w := ⟨h, fun t => he_truth hK h (pl t), fun z => by rw [nb] at z; cases z⟩
theorem J.nt (h : PE X e (tOf N Z w)) (nb : isBool e = false) (pl : testable e = false) : J N Z X e w := ⟨h, fun t => by (rw [pl] at t; cases t), fun z => by rw [nb] at z; cases z⟩
theorem J.never (h : ∀ ρ S Q, ¬ w ρ S Q) : J N Z X e w := ⟨he_nev h, fun _ => ht_nev h, fun _ => ⟨fun _ _ _ _ _ _ _ ⟨ρ, S, Qh, _, _, _, q, _⟩ => (h _ _ _ q).elim⟩⟩
/-- an expression's wp where its errors go to Ex -/
def wX (C : Orc) (Ex : D → Env → Sta → Prop) (ir : E) : Wp := fun ρ S Q => wE C (fun x S' => Ex x ρ S') ir ρ S Q
def wXs (C : Orc) (Ex : D → Env → Sta → Prop) (ir : Es) : Wps := fun ρ S Q => wEs C (fun x S' => Ex x ρ S') ir ρ S Q
def wXi (C : Orc) (Ex : D → Env → Sta → Prop) (ir : A.It) : Wi := fun ρ S Q => wIt C (fun x S' => Ex x ρ S') ir ρ S Q
theorem wX_def {Ex : D → Env → Sta → Prop} {ir : E} : wX C Ex ir = fun ρ S Q => wE C (fun x S' => Ex x ρ S') ir ρ S Q := rfl
theorem wXs_def {Ex : D → Env → Sta → Prop} {ir : Es} : wXs C Ex ir = fun ρ S Q => wEs C (fun x S' => Ex x ρ S') ir ρ S Q := rfl
theorem wXi_def {Ex : D → Env → Sta → Prop} {ir : A.It} : wXi C Ex ir = fun ρ S Q => wIt C (fun x S' => Ex x ρ S') ir ρ S Q := rfl
theorem takesF : L2.Takes X (xOf N Z fun _ _ _ => False) := fun u s' ⟨_, _, _, _, _, _, _, _, _, _, _, _, _, _, _, _, ⟨_, _, _, _, _, _, _, f⟩⟩ => f.elim
theorem In.blk {scope : Scope} {cl : List (Str × Addr)} {Cl : Addr} {fp : List Addr} {sh : Shared} {H : Hp} (i : In X s) : In (X.blk sh H scope (compEnvC scope cl Cl X.env) fp) (s.blk scope) := by
  refine ⟨?_, i.ns, fun x => rfl⟩
  show relabel scope X.env = relS scope s.sc
  rw [← i.sc]
  rfl
theorem isKds_one {x : D} {k : Kd} : isKds S x [k] = isKd S x k := by
  unfold isKds
  cases isKd S x k with
  | none => rfl
  | some b => cases b <;> rfl
theorem ownN_snd {ns : List Str} : ∀ own : List Nat, (ownN ns own).map (·.2) = own
  | [] => rfl
  | i :: r => by
    unfold ownN
    rw [List.map_cons, List.map_cons]
    exact congrArg _ (ownN_snd r)
theorem subN_ok : ∀ {is l : List Nat}, subN is l = true → ∀ i ∈ is, i ∈ l
  | [], _, _, i, h => by cases h
  | j :: is, l, h, i, hi => by
    simp only [subN, Bool.and_eq_true] at h
    rcases List.mem_cons.mp hi with rfl | hi
    · simpa using h.1
    · exact subN_ok h.2 i hi
theorem okTgs_ok (nd : X.N.Nodup) (i : In X s) : ∀ {is : List Nat} {xs : List Expr}, okTg.okTgs s is xs = true → PGs X xs (gNs is) ∧ (assignEach xs X.env).length = is.length ∧ (assignEach xs X.env).findIdx? (·.1) = none ∧ (assignEach xs X.env).any (·.1) = false
  | [], [], _ => ⟨pgs_nil, rfl, rfl, rfl⟩
  | [], _ :: _, h => by cases h
  | _ :: _, [], h => by cases h
  | j :: is, x :: xs, h => by
    cases x <;> first | (cases h; done) | skip
    rename_i n p
    simp only [okTg.okTgs, Bool.and_eq_true] at h
    obtain ⟨h1, h2, h3, h4⟩ := okTgs_ok nd i h.2
    obtain ⟨l1, l2⟩ := i.loc h.1.2
    have he : assignEach (.Name n p :: xs) X.env = (false, assign (.Name n p) X.env) :: assignEach xs X.env := rfl
    refine ⟨pgs_cons (pg_name nd (by rw [i.ns]; exact nsAt_ok h.1.1) l1 l2) h1, ?_, ?_, ?_⟩
    · rw [he, List.length_cons, List.length_cons, h2]
    · rw [he, List.findIdx?_cons, h3]; rfl
    · rw [he, List.any_cons, h4]; rfl
def isNameE : Expr → Bool
  | .Name _ _ => true
  | _ => false
theorem okTg_ok {is : List Nat} {t : Expr} (hc : isNameE t = false → X.calm = true) (nd : X.N.Nodup) (i : In X s) (h : okTg s is t = true) : PG X t (gT X.K is) := by
  have many : ∀ (is : List Nat) (xs : List Expr) (k : Nat) (p : Pos), X.calm = true → okTg.okTgs s is xs = true → PG X (.Tuple xs k p) (gTup X.K is.length (gNs is)) := fun is xs k p hc h => by
    obtain ⟨h1, h2, h3, _⟩ := okTgs_ok nd i h
    exact pg_tup hc h1 h2 h3
  match is, t, hc, h with
  | [j], .Name x p, hc, h =>
    simp only [okTg, Bool.and_eq_true] at h
    obtain ⟨l1, l2⟩ := i.loc h.2
    exact pg_name nd (by rw [i.ns]; exact nsAt_ok h.1) l1 l2
  | [], .Tuple xs k p, hc, h =>
    simp only [okTg, Bool.and_eq_true] at h
    exact many [] xs k p (hc rfl) h.2
  | [j], .Tuple xs k p, hc, h =>
    simp [okTg] at h
  | j :: l :: r, .Tuple xs k p, hc, h =>
    simp only [okTg, Bool.and_eq_true] at h
    exact many (j :: l :: r) xs k p (hc rfl) h.2
theorem fold_ok {e : Expr} (h : notSet e = true) (env : PySem.Env) : ∀ x, foldedSetIterable e env x = pure x := by
  intro x
  cases e <;> first | rfl | cases h
theorem boEq_ok {o : Bo} {p : Operator} (h : boEq o p = true) : p = boOp o := (of_decide_eq_true h).symm
theorem coEq_ok {o : Co} {p : CmpOp} (h : coEq o p = true) : p = coOp o := (of_decide_eq_true h).symm
theorem isB_ok (F : Fx N T C X) {x : Str} (h : T.isB x = true) : X.mg x = none := F.blt x (sIn_ok h)
theorem okC_ok {d : D} {e : Expr} (h : okC T s d e = true) : ∃ v, PE X e (tC v) ∧ (∀ H, RD N H d v) ∧ plainT e = true ∧ isBool e = false := by
  unfold okC at h
  split at h
  · exact ⟨.non, pe_non, fun _ => mk_non, rfl, rfl⟩
  · simp only [beq_iff_eq] at h; subst h; exact ⟨_, pe_bl, fun _ => mk_bl, rfl, rfl⟩
  · simp only [beq_iff_eq] at h; subst h; exact ⟨_, pe_int, fun _ => mk_int, rfl, rfl⟩
  · rw [sEq_ok h]; exact ⟨_, pe_str, fun _ => mk_str, rfl, rfl⟩
  · cases h
theorem isC_ok (F : Fx N T C X) {x : Str} {d : D} (h : T.isC x d = true) : ∃ v u, X.mg x = some u ∧ RelV v u ∧ ∀ H, RD N H d v := by
  unfold Tb.isC at h
  split at h
  · rename_i e he
    have := F.glob _ _ (sLook_ok he)
    rw [beqD_ok _ _ h]
    exact this
  · cases h
theorem isF_ok (F : Fx N T C X) {x : Str} {f : Nat} (h : T.isF x f = true) : X.mg x = some (.ref (N.fa f)) ∧ PySem.W.keepIn X.K (.ref (N.fa f)) = true := by
  unfold Tb.isF at h
  split at h
  · rename_i g he
    have := F.glob _ _ (sLook_ok he)
    simp only [beq_iff_eq] at h
    rw [h]
    exact this
  · cases h
theorem plain_or {e : Expr} (h : plainT e = true) : isBool e = false → (testable e = true → plainT e = true) := fun _ _ => h
/-- an end of a slice -/
theorem okO_ok {lo : E} {l : Option Expr} {Ex : D → Env → Sta → Prop} (h : (match l with
        | none => isNil lo
        | some y => !isNil lo && okE T lo s y) = true) (ih : ∀ y, l = some y → okE T lo s y = true → PE X y (tOf N Z (wX C Ex lo))) :
    PO X l (tEnd N Z fun ρ S Q => wX C Ex lo ρ S fun d S2 => endD lo d fun o => Q o S2) := by
  cases l with
  | none =>
    cases lo <;> first | (cases h; done) | skip
    exact ⟨fun pins s σ H Q I ⟨ρ, S, Qe, rs, rh, fz, w, k⟩ => by
      simp only [wX, wE, endD] at w
      exact ho_none.run pins s σ H Q I ⟨ρ, S, Qe, rs, rh, fz, w, k⟩⟩
  | some y =>
    simp only [Bool.and_eq_true, Bool.not_eq_true'] at h
    have e := ih y rfl h.2
    refine ⟨fun pins s σ H Q I ⟨ρ, S, Qe, rs, rh, fz, w, k⟩ => (ho_some e).run pins s σ H Q I ⟨ρ, S, Qe, rs, rh, fz, ?_, k⟩⟩
    have eq : (fun (d : D) (S2 : Sta) => endD lo d fun o => Qe o S2) = fun d S2 => ∃ i, d = .int i ∧ Qe (some i) S2 := by
      funext d S2
      cases lo <;> first | (cases h.1; done) | skip
      all_goals (cases d <;> simp [endD])
    have w' : wX C Ex lo ρ S (fun (d : D) (S2 : Sta) => endD lo d fun o => Qe o S2) := w
    rw [eq] at w'
    exact w'
end
end A
end
section
set_option Elab.async false
set_option linter.all false
set_option maxRecDepth 100000
set_option maxHeartbeats 4000000
/-! A17: what the check says of expressions, proved. -/
namespace A
open PySem L2 PyProof.Rows
section
variable {N : Nm} {T : Tb} {C : Orc}
/-- what is said of an expression, in every context -/
def Snd (N : Nm) (T : Tb) (C : Orc) (ir : E) : Prop := ∀ (Z : Sta × Hp) (X : Cx) (s : Sx) (Ex : D → Env → Sta → Prop) (e : Expr), Fx N T C X → In X s → L2.Takes X (xOf N Z Ex) → okE T ir s e = true → J N Z X e (wX C Ex ir)
def SndL (N : Nm) (T : Tb) (C : Orc) (ir : Es) : Prop := ∀ (Z : Sta × Hp) (X : Cx) (s : Sx) (Ex : D → Env → Sta → Prop) (es : List Expr), Fx N T C X → In X s → L2.Takes X (xOf N Z Ex) → okEs T ir s es = true → PA X es (tA N Z (wXs C Ex ir)) ∧ es.all plainA = true ∧ ∀ kws : List Keyword, kws.map (·.value) = es → PK X kws (tA N Z (wXs C Ex ir))
def SndI (N : Nm) (T : Tb) (C : Orc) (ir : A.It) : Prop := ∀ (Z : Sta × Hp) (X : Cx) (s : Sx) (Ex : D → Env → Sta → Prop) (t e : Expr), Fx N T C X → In X s → L2.Takes X (xOf N Z Ex) → okIt T ir s t e = true → PI X t e (tI N Z (wXi C Ex ir))
variable {a b c t : E} {es : Es}
theorem s_nev : Snd N T C .nev := fun Z X s Ex e F i tk h => J.never fun ρ S Q => by simp only [wX_def, wE]; exact id
theorem s_v {j : Nat} : Snd N T C (.v j) := fun Z X s Ex e F i tk h => by
  simp only [okE] at h
  split at h
  · rename_i x p
    simp only [Bool.and_eq_true, bne_iff_ne, ne_eq] at h
    obtain ⟨⟨⟨h1, h2⟩, h3⟩, h4⟩ := h
    obtain ⟨n1, n2, _⟩ := okName_ok h3
    exact J.plain F.hK (by simp only [wX_def, wE]; exact he_v (F.noX h4) (by rw [i.ns]; exact nsAt_ok h2) (i.vis h1) n1 n2) rfl fun _ => rfl
  · cases h
theorem s_c {d : D} : Snd N T C (.c d) := fun Z X s Ex e F i tk h => by
  simp only [okE] at h
  split at h
  · rename_i x p
    simp only [Bool.and_eq_true] at h
    obtain ⟨n1, n2, _⟩ := okName_ok h.1.2
    obtain ⟨v, u, h1, h2, h3⟩ := isC_ok F h.2
    exact J.plain F.hK (by simp only [wX_def, wE]; exact he_c (pe_glob (i.gl h.1.1) h1 h2 n1) h3) rfl fun _ => rfl
  · obtain ⟨v, h1, h2, h3, h4⟩ := okC_ok (X := X) (N := N) h
    exact J.plain F.hK (by simp only [wX_def, wE]; exact he_c h1 h2) h4 fun _ => h3
theorem s_bin {o : Bo} (ia : Snd N T C a) (ib : Snd N T C b) : Snd N T C (.bin o a b) := fun Z X s Ex e F i tk h => by
  simp only [okE] at h
  split at h
  · simp only [Bool.and_eq_true] at h
    rw [boEq_ok h.1.1]
    exact J.plain F.hK (by simp only [wX_def, wE]; exact he_bin F.hK (ia Z X s Ex _ F i tk h.1.2).pe (ib Z X s Ex _ F i tk h.2).pe) rfl fun _ => rfl
  · cases h
theorem s_neg (ia : Snd N T C a) : Snd N T C (.neg a) := fun Z X s Ex e F i tk h => by
  simp only [okE] at h
  split at h
  · exact J.nt (by simp only [wX_def, wE]; exact he_neg (ia Z X s Ex _ F i tk h).pe) rfl rfl
  · cases h
theorem s_not (ia : Snd N T C a) : Snd N T C (.not a) := fun Z X s Ex e F i tk h => by
  simp only [okE] at h
  split at h
  · simp only [Bool.and_eq_true] at h
    have j := ia Z X s Ex _ F i tk h.2
    exact ⟨by simp only [wX_def, wE]; exact he_not F.hK j.pe, fun _ => by simp only [wX_def, wE]; exact ht_not (j.pt h.1), fun z => by cases z⟩
  · cases h
theorem s_and (ia : Snd N T C a) (ib : Snd N T C b) : Snd N T C (.and a b) := fun Z X s Ex e F i tk h => by
  simp only [okE] at h
  split at h
  · simp only [Bool.and_eq_true] at h
    have j := ia Z X s Ex _ F i tk h.1.2
    have k := ib Z X s Ex _ F i tk h.2
    have pw : ∀ p, PW X _ (tT N Z (wX C Ex (.and a b))) := fun p => by simp only [wX_def, wE]; exact hw_and (pos := p) (j.pt h.1.1.1) (hw_and1 (k.pt h.1.1.2))
    exact ⟨by simp only [wX_def, wE]; exact he_and F.hK j.pe (he_bool1 k.pe), fun _ => (pw _).pt, fun _ => pw _⟩
  · simp only [Bool.and_eq_true] at h
    have j := ia Z X s Ex _ F i tk h.1.2
    have k := ib Z X s Ex _ F i tk h.2
    rename_i x y z r p
    have pw : PW X (.BoolOp .And (x :: y :: z :: r) p) (tT N Z (wX C Ex (.and a b))) := by simp only [wX_def, wE]; exact hw_and (j.pt h.1.1) (k.pw rfl)
    exact ⟨by simp only [wX_def, wE]; exact he_and F.hK j.pe k.pe, fun _ => pw.pt, fun _ => pw⟩
  · cases h
theorem s_or (ia : Snd N T C a) (ib : Snd N T C b) : Snd N T C (.or a b) := fun Z X s Ex e F i tk h => by
  simp only [okE] at h
  split at h
  · simp only [Bool.and_eq_true] at h
    have j := ia Z X s Ex _ F i tk h.1.2
    have k := ib Z X s Ex _ F i tk h.2
    have pw : ∀ p, PW X _ (tT N Z (wX C Ex (.or a b))) := fun p => by simp only [wX_def, wE]; exact hw_or (pos := p) (j.pt h.1.1.1) (hw_or1 (k.pt h.1.1.2))
    exact ⟨by simp only [wX_def, wE]; exact he_or F.hK j.pe (he_bool1 k.pe), fun _ => (pw _).pt, fun _ => pw _⟩
  · simp only [Bool.and_eq_true] at h
    have j := ia Z X s Ex _ F i tk h.1.2
    have k := ib Z X s Ex _ F i tk h.2
    rename_i x y z r p
    have pw : PW X (.BoolOp .Or (x :: y :: z :: r) p) (tT N Z (wX C Ex (.or a b))) := by simp only [wX_def, wE]; exact hw_or (j.pt h.1.1) (k.pw rfl)
    exact ⟨by simp only [wX_def, wE]; exact he_or F.hK j.pe k.pe, fun _ => pw.pt, fun _ => pw⟩
  · cases h
theorem s_cmp {o : Co} (ia : Snd N T C a) (ib : Snd N T C b) : Snd N T C (.cmp o a b) := fun Z X s Ex e F i tk h => by
  simp only [okE] at h
  split at h
  · simp only [Bool.and_eq_true, Bool.not_eq_true'] at h
    obtain ⟨⟨⟨h1, h2⟩, h3⟩, h4⟩ := h
    have e := coEq_ok h1
    subst e
    have j := ia Z X s Ex _ F i tk h3
    have k := ib Z X s Ex _ F i tk h4
    exact ⟨by simp only [wX_def, wE]; exact he_cmp (F.cmp o) j.pe k.pe h2, fun _ => by simp only [wX_def, wE]; exact ht_cmp (F.cmp o) j.pe k.pe h2, fun z => by cases z⟩
  · cases h
theorem s_chn {o o' : Co} (ia : Snd N T C a) (ib : Snd N T C b) (ic : Snd N T C c) : Snd N T C (.chn a o b o' c) := fun Z X s Ex e F i tk h => by
  simp only [okE] at h
  split at h
  · simp only [Bool.and_eq_true, Bool.not_eq_true'] at h
    obtain ⟨⟨⟨⟨⟨h1, h2⟩, h3⟩, h4⟩, h5⟩, h6⟩ := h
    have e := coEq_ok h1
    have e' := coEq_ok h2
    subst e e'
    have j := ia Z X s Ex _ F i tk h4
    have k := ib Z X s Ex _ F i tk h5
    have l := ic Z X s Ex _ F i tk h6
    exact ⟨by simp only [wX_def, wE]; exact he_chn (F.cmp o) (F.cmp o') j.pe k.pe l.pe h3, fun _ => by simp only [wX_def, wE]; exact ht_chn (F.cmp o) (F.cmp o') j.pe k.pe l.pe h3, fun z => by cases z⟩
  · cases h
theorem s_ite (it : Snd N T C t) (ia : Snd N T C a) (ib : Snd N T C b) : Snd N T C (.ite t a b) := fun Z X s Ex e F i tk h => by
  simp only [okE] at h
  split at h
  · simp only [Bool.and_eq_true] at h
    exact J.nt (by simp only [wX_def, wE]; exact he_ite ((it Z X s Ex _ F i tk h.1.1.2).pt h.1.1.1) (ia Z X s Ex _ F i tk h.1.2).pe (ib Z X s Ex _ F i tk h.2).pe) rfl rfl
  · cases h
theorem s_tup (ie : SndL N T C es) : Snd N T C (.tup es) := fun Z X s Ex e F i tk h => by
  simp only [okE] at h
  split at h
  · exact J.plain F.hK (by simp only [wX_def, wE]; exact he_tup (ie Z X s Ex _ F i tk h).1) rfl fun _ => rfl
  · cases h
theorem s_lst (ie : SndL N T C es) : Snd N T C (.lst es) := fun Z X s Ex e F i tk h => by
  simp only [okE] at h
  split at h
  · exact J.plain F.hK (by simp only [wX_def, wE]; exact he_lst (ie Z X s Ex _ F i tk h).1) rfl fun _ => rfl
  · cases h
theorem s_ix (ia : Snd N T C a) (ib : Snd N T C b) : Snd N T C (.ix a b) := fun Z X s Ex e F i tk h => by
  simp only [okE] at h
  split at h
  · simp only [Bool.and_eq_true] at h
    exact J.plain F.hK (by simp only [wX_def, wE]; exact he_ix F.hK F.u1 (ia Z X s Ex _ F i tk h.1.2).pe (ib Z X s Ex _ F i tk h.2).pe h.1.1) rfl fun _ => rfl
  · cases h
theorem s_sl (ia : Snd N T C a) (ib : Snd N T C b) (ic : Snd N T C c) : Snd N T C (.sl a b c) := fun Z X s Ex e F i tk h => by
  simp only [okE] at h
  split at h
  · rw [Bool.and_eq_true, Bool.and_eq_true] at h
    have h1 := okO_ok (N := N) (Z := Z) (X := X) (C := C) (Ex := Ex) h.1.2 fun y _ hy => (ib Z X s Ex y F i tk hy).pe
    have h2 := okO_ok (N := N) (Z := Z) (X := X) (C := C) (Ex := Ex) h.2 fun y _ hy => (ic Z X s Ex y F i tk hy).pe
    exact J.plain F.hK (by simp only [wX_def, wE]; exact he_sl F.hK (ia Z X s Ex _ F i tk h.1.1).pe h1 h2) rfl fun _ => rfl
  · cases h
theorem s_b1 {o : B1} (ia : Snd N T C a) : Snd N T C (.b1 o a) := fun Z X s Ex e F i tk h => by
  simp only [okE] at h
  split at h
  · split at h
    · simp only [Bool.and_eq_true, Bool.not_eq_true'] at h
      obtain ⟨⟨⟨⟨⟨⟨h0, h1⟩, h2⟩, h3⟩, h4⟩, h5⟩, h6⟩ := h
      have e1 := sEq_ok h1
      have e2 := sEq_ok h2
      subst e1 e2
      have w := fun pos p kp kp2 kc => he_minD (pos := pos) (p := p) (kp := kp) (kp2 := kp2) (kc := kc) (C := C) F.hK (F.calm h0) F.u1 (i.gl h3) (isB_ok F h4) (ia Z X s Ex _ F i tk h6).pe h5
      exact J.plain F.hK (by simp only [wX_def, wE]; exact w _ _ _ _ _) rfl fun _ => rfl
    · cases h
  · simp only [Bool.and_eq_true, Bool.or_eq_true, Bool.not_eq_true'] at h
    obtain ⟨⟨⟨⟨⟨⟨h1, h0⟩, h2⟩, h3⟩, h4⟩, h5⟩, h6⟩ := h
    have e := sEq_ok h2
    subst e
    exact J.plain F.hK (by simp only [wX_def, wE]; exact he_b1 F.hK (fun e => F.calm (h0.elim (fun z => by rw [e] at z; cases z) id)) F.own' h1 (i.gl h3) (isB_ok F h4) (ia Z X s Ex _ F i tk h6).pe h5) rfl fun _ => rfl
  · cases h
theorem s_b2 {o : B2} (ia : Snd N T C a) (ib : Snd N T C b) : Snd N T C (.b2 o a b) := fun Z X s Ex e F i tk h => by
  simp only [okE] at h
  split at h
  · simp only [Bool.and_eq_true, Bool.not_eq_true'] at h
    obtain ⟨⟨⟨⟨⟨⟨⟨h0, h1⟩, h2⟩, h3⟩, h4⟩, h5⟩, h6⟩, h7⟩ := h
    have e := sEq_ok h1
    subst e
    exact J.plain F.hK (by simp only [wX_def, wE]; exact he_b2 (F.calm h0) (i.gl h2) (isB_ok F h3) (ia Z X s Ex _ F i tk h6).pe (ib Z X s Ex _ F i tk h7).pe h4 h5) rfl fun _ => rfl
  · cases h
theorem s_bm {m : Bm} (io : Snd N T C a) (ie : SndL N T C es) : Snd N T C (.bm m a es) := fun Z X s Ex e F i tk h => by
  simp only [okE] at h
  split at h
  · rename_i x f ap p2 xs cp
    simp only [Bool.and_eq_true, decide_eq_true_eq] at h
    obtain ⟨⟨⟨⟨⟨⟨h1, h2⟩, h3⟩, h4⟩, h5⟩, h6⟩, h7⟩ := h
    have e := sEq_ok h2
    subst e
    have j := (io Z X s Ex _ F i tk h6).pe
    obtain ⟨k1, k2, _⟩ := ie Z X s Ex _ F i tk h7
    cases xs with
    | nil =>
      cases es with
      | nil => exact J.plain F.hK (by simp only [wX_def, wE, wEs]; exact he_bm0 F.hK F.u1 h1 j h3 h4) rfl fun _ => rfl
      | cons _ _ => simp only [okEs] at h7; cases h7
    | cons y ys => exact J.plain F.hK (by simp only [wX_def, wE]; exact he_bm F.hK F.u1 h1 j k1 h3 h4 k2 h5) rfl fun _ => rfl
  · cases h
theorem s_isi {ks : List Kd} (ia : Snd N T C a) : Snd N T C (.isi a ks) := fun Z X s Ex e F i tk h => by
  match ks, h with
  | [k], h =>
    simp only [okE] at h
    split at h
    · simp only [Bool.and_eq_true] at h
      obtain ⟨⟨⟨⟨⟨⟨⟨⟨h1, h2⟩, h3⟩, h4⟩, h5⟩, h6⟩, h7⟩, h8⟩, h9⟩ := h
      have e := sEq_ok h2
      subst e
      have w := fun pos p p2 => he_isi (pos := pos) (p := p) (p2 := p2) F.hK h1 (sEq_ok h3) (i.gl h4) (isB_ok F h6) (i.gl h5) (isB_ok F h7) (ia Z X s Ex _ F i tk h9).pe h8
      exact J.plain F.hK (by simp only [wX_def, wE, isKds_one]; exact w _ _ _) rfl fun _ => rfl
    · cases h
  | [], h => simp only [okE] at h; cases h
  | _ :: _ :: _, h => simp only [okE] at h; cases h
theorem s_call {f : Nat} {sh : Shp} (ie : SndL N T C es) : Snd N T C (.call f sh es) := fun Z X s Ex e F i tk h => by
  cases sh with
  | perm l => simp only [okE] at h; cases h
  | app ds =>
    simp only [okE] at h
    split at h
    · rename_i g p2 xs cp
      simp only [Bool.and_eq_true, Bool.not_eq_true'] at h
      obtain ⟨⟨⟨⟨⟨h0, h1⟩, h2⟩, h3⟩, h4⟩, h5⟩ := h
      obtain ⟨k1, k2, _⟩ := ie Z X s Ex _ F i tk h5
      obtain ⟨g1, g2⟩ := isF_ok F h1
      have co := F.call h0 _ _ _ (hasCall_ok h4)
      obtain ⟨n1, _, _⟩ := okName_ok h3
      cases xs with
      | nil =>
        cases es with
        | nil => exact J.plain F.hK (by simp only [wX_def, wE, wEs, place]; exact he_call0 tk co (i.gl h2) g1 g2 n1) rfl fun _ => rfl
        | cons _ _ => simp only [okEs] at h5; cases h5
      | cons y ys => exact J.plain F.hK (by simp only [wX_def, wE, place]; exact he_call tk co (i.gl h2) g1 g2 n1 k1 k2) rfl fun _ => rfl
    · cases h
theorem es_len {T : Tb} {s : Sx} : ∀ (es : Es) (xs : List Expr), okEs T es s xs = true → es.len = xs.length
  | .nil, xs, h => by
    simp only [okEs] at h
    split at h
    · rfl
    · cases h
  | .cons a r, xs, h => by
    cases xs with
    | nil => simp only [okEs] at h; cases h
    | cons x xs =>
      simp only [okEs, Bool.and_eq_true] at h
      rw [Es.len, List.length_cons, es_len r xs h.2]
theorem kwN_len : ∀ {kws : List Keyword}, kwAll kws = true → (kwN kws).length = kws.length
  | [], _ => rfl
  | ⟨nm, v, kp⟩ :: r, h => by
    simp only [kwAll, List.all_cons, Bool.and_eq_true] at h
    cases nm with
    | none => cases h.1
    | some x => show (kwN r).length + 1 = r.length + 1; rw [kwN_len h.2]
theorem s_callk {f : Nat} {sh : Shp} {ks : Es} (ie : SndL N T C es) (ik : SndL N T C ks) : Snd N T C (.callk f sh es ks) := fun Z X s Ex e F i tk h => by
  simp only [okE] at h
  split at h
  · rename_i g p2 xs kws cp
    simp only [Bool.and_eq_true, Bool.not_eq_true'] at h
    obtain ⟨⟨⟨⟨⟨⟨⟨h0, h1⟩, h2⟩, h3⟩, h4⟩, h5⟩, h6⟩, h7⟩ := h
    obtain ⟨k1, k2, _⟩ := ie Z X s Ex _ F i tk h6
    obtain ⟨_, _, k3⟩ := ik Z X s Ex _ F i tk h7
    obtain ⟨g1, g2⟩ := isF_ok F h1
    have co := F.kcall h0 _ _ _ _ (hasK_ok h5)
    obtain ⟨n1, _, _⟩ := okName_ok h3
    have l1 := es_len _ _ h6
    have l2 := es_len _ _ h7
    rw [List.length_map, ← kwN_len h4] at l2
    cases xs with
    | nil =>
      cases es with
      | nil => exact J.plain F.hK (by simp only [wX_def, wE, wEs, l2]; exact he_callk0 tk co (i.gl h2) g1 g2 n1 (k3 _ rfl) h4) rfl fun _ => rfl
      | cons _ _ => simp only [okEs] at h6; cases h6
    | cons y ys => exact J.plain F.hK (by simp only [wX_def, wE, l1, l2]; exact he_callk tk co (i.gl h2) g1 g2 n1 k1 (k3 _ rfl) h4 k2) rfl fun _ => rfl
  · cases h
theorem s_xis {j : Nat} {l : List (Nat × Bool)} : Snd N T C (.xis j l) := fun Z X s Ex e F i tk h => by
  simp only [okE] at h
  split at h
  · rename_i f p x p1 y p2 pos
    simp only [Bool.and_eq_true, beq_iff_eq] at h
    obtain ⟨⟨⟨⟨⟨⟨⟨⟨⟨h1, h2⟩, h3⟩, h4⟩, h5⟩, h6⟩, h7⟩, h8⟩, h9⟩, h10⟩ := h
    have e := sEq_ok h2
    subst e
    obtain ⟨c, fs, ds, a, z, U, hc⟩ := F.sux j h1
    obtain ⟨k, m1, tab⟩ := F.iss _ _ (hasL_ok h10)
    obtain ⟨n1, n2, _⟩ := okName_ok h7
    obtain ⟨n3, _, _⟩ := okName_ok h9
    exact J.plain F.hK (by simp only [wX_def, wE]; exact he_xis U (F.xc c hc).1 (by rw [i.ns]; exact nsAt_ok h5) (i.vis h6) n1 n2 (i.gl h3) (isB_ok F h4) (i.gl h8) m1 n3 tab) rfl fun _ => rfl
  · cases h
theorem s_xfl {j n : Nat} : Snd N T C (.xfl j n) := fun Z X s Ex e F i tk h => by
  simp only [okE] at h
  split at h
  · rename_i x p1 f pos
    simp only [Bool.and_eq_true, beq_iff_eq] at h
    obtain ⟨⟨⟨⟨h1, h2⟩, h3⟩, h4⟩, h5⟩ := h
    obtain ⟨c, fs, ds, a, z, U, hc⟩ := F.sux j h1
    obtain ⟨e1, e2⟩ := F.flds _ _ (hasFld_ok h5)
    obtain ⟨n1, n2, _⟩ := okName_ok h4
    exact J.plain F.hK (by simp only [wX_def, wE]; exact he_xfl U (F.xc c hc).2 (e2 c hc) e1 (by rw [i.ns]; exact nsAt_ok h2) (i.vis h3) n1 n2) rfl fun _ => rfl
  · cases h
end
end A
end
section
set_option Elab.async false
set_option linter.all false
set_option maxRecDepth 100000
set_option maxHeartbeats 4000000
/-! A18: comprehensions and iterables; the theorem of expressions. -/
namespace A
open PySem L2 PyProof.Rows
section
variable {N : Nm} {T : Tb} {C : Orc} {a b c t : E} {es : Es}
theorem s_nilL : SndL N T C .nil := fun Z X s Ex es F i tk h => by
  simp only [okEs] at h
  split at h
  · exact ⟨by simp only [wXs_def, wEs]; exact ha_nil, rfl, fun kws hk => by
      cases kws with
      | nil => simp only [wXs_def, wEs]; exact hk_nil
      | cons _ _ => cases hk⟩
  · cases h
theorem s_consL (ia : Snd N T C a) (ir : SndL N T C es) : SndL N T C (.cons a es) := fun Z X s Ex xs F i tk h => by
  simp only [okEs] at h
  split at h
  · simp only [Bool.and_eq_true] at h
    obtain ⟨k1, k2, k3⟩ := ir Z X s Ex _ F i tk h.2
    exact ⟨by simp only [wXs_def, wEs]; exact ha_cons (ia Z X s Ex _ F i tk h.1.2).pe k1 h.1.1, by rw [List.all_cons, h.1.1, k2]; rfl, fun kws hk => by
      cases kws with
      | nil => cases hk
      | cons kw kws =>
        rw [List.map_cons] at hk
        obtain ⟨e1, e2⟩ := List.cons.inj hk
        subst e1
        simp only [wXs_def, wEs]
        exact hk_cons (ia Z X s Ex _ F i tk h.1.2).pe (k3 kws e2)⟩
  · cases h
theorem s_seq (ia : Snd N T C a) : SndI N T C (.seq a) := fun Z X s Ex t e F i tk h => by
  simp only [okIt] at h
  simp only [wXi_def, wIt]
  exact hi_seq F.hK (ia Z X s Ex _ F i tk h).pe
theorem s_rng (ia : Snd N T C a) : SndI N T C (.rng a) := fun Z X s Ex t e F i tk h => by
  simp only [okIt] at h
  split at h
  · simp only [Bool.and_eq_true] at h
    obtain ⟨⟨⟨⟨h1, h2⟩, h3⟩, h4⟩, h5⟩ := h
    have e := sEq_ok h1
    subst e
    simp only [wXi_def, wIt]
    exact hi_rng (i.gl h2) (isB_ok F h3) (ia Z X s Ex _ F i tk h5).pe h4
  · cases h
theorem s_enm {st : Nat} (ia : Snd N T C a) : SndI N T C (.enm a st) := fun Z X s Ex t e F i tk h => by
  simp only [okIt] at h
  split at h
  · simp only [Bool.and_eq_true, beq_iff_eq] at h
    obtain ⟨⟨⟨⟨⟨h0, h1⟩, h2⟩, h3⟩, h4⟩, h5⟩ := h
    have e := sEq_ok h1
    subst e h0
    simp only [wXi_def, wIt]
    exact hi_enm F.hK (i.gl h2) (isB_ok F h3) (ia Z X s Ex _ F i tk h5).pe h4
  · cases h
theorem s_zip {st : Bool} (ia : Snd N T C a) (ib : Snd N T C b) : SndI N T C (.zip a b st) := fun Z X s Ex t e F i tk h => by
  simp only [okIt] at h
  split at h
  · simp only [Bool.and_eq_true, Bool.not_eq_true'] at h
    obtain ⟨⟨⟨⟨⟨⟨⟨h0, h1⟩, h2⟩, h3⟩, h4⟩, h5⟩, h6⟩, h7⟩ := h
    have e := sEq_ok h1
    subst e h0
    have w := fun pos p tpos elts kk => hi_zip (pos := pos) (p := p) (tpos := tpos) (elts := elts) (kk := kk) F.hK (i.gl h2) (isB_ok F h3) (ia Z X s Ex _ F i tk h6).pe (ib Z X s Ex _ F i tk h7).pe h4 h5
    refine piimp (w _ _ _ _ _) fun σ H R ⟨ρ, S, Qi, rs, rh, fz, q, k⟩ => ⟨ρ, S, Qi, rs, rh, fz, ?_, k⟩
    simpa only [wXi_def, wIt, true_and, hZip, wX_def] using q
  · cases h
theorem ifs_cases {s : Sx} {cond : E} {ifs : List Expr} (h : (match ifs with
        | [] => (match cond with
          | .c (.bl true) => true
          | _ => false)
        | [y] => testable y && okE T cond s y
        | _ => false) = true) : (ifs = [] ∧ cond = .c (.bl true)) ∨ ∃ y, ifs = [y] ∧ testable y = true ∧ okE T cond s y = true := by
  cases ifs with
  | nil =>
    refine .inl ⟨rfl, ?_⟩
    dsimp only at h
    split at h
    · rfl
    · cases h
  | cons y r =>
    cases r with
    | nil =>
      simp only [Bool.and_eq_true] at h
      exact .inr ⟨y, rfl, h.1, h.2⟩
    | cons _ _ => cases h
theorem ifs_ok {Z : Sta × Hp} {X : Cx} {s : Sx} {cond : E} {ifs : List Expr} (ic : Snd N T C cond) (F : Fx N T C X) (i : In X s) (h : (ifs = [] ∧ cond = .c (.bl true)) ∨ ∃ y, ifs = [y] ∧ testable y = true ∧ okE T cond s y = true) : PTs X ifs (tT N Z (wX C (fun _ _ _ => False) cond)) := by
  rcases h with ⟨rfl, rfl⟩ | ⟨y, rfl, h1, h2⟩
  · refine ⟨fun pins s σ H Q I ⟨ρ, S, Qx, rs, rh, fz, q, k⟩ => pts_nil.run pins s σ H Q I ?_⟩
    simp only [wX_def, wE] at q
    exact k _ S H Fr.refl rh q
  · exact pts_one ((ic Z X s _ y F i takesF h2).pt h1)
theorem lcOk {Z : Sta × Hp} {X : Cx} {s : Sx} {Ex : D → Env → Sta → Prop} {elt cond : E} {own tg : List Nat} {it : A.It} {x t i : Expr} {ifs : List Expr} {scope : Scope} (ie : Snd N T C elt) (ic : Snd N T C cond) (ii : SndI N T C it) (F : Fx N T C X) (hh : T.hot = false) (iX : In X s) (tk : L2.Takes X (xOf N Z Ex))
    (h1 : okIt T it s t i = true) (h2 : okTg (s.blk scope) tg t = true) (h3 : blkC s.ns s.sc scope (ownN s.ns own) = true) (h4 : subN tg own = true) (h5 : notSet i = true) (h6 : okE T elt (s.blk scope) x = true)
    (h7 : (ifs = [] ∧ cond = .c (.bl true)) ∨ ∃ y, ifs = [y] ∧ testable y = true ∧ okE T cond (s.blk scope) y = true) : LcOk N Z X x t i ifs scope (ownN s.ns own) tg (wXi C Ex it) (wX C (fun _ _ _ => False) cond) (wX C (fun _ _ _ => False) elt) where
  calm := F.calm hh
  nd := F.nd
  it := ii Z X s Ex t i F iX tk h1
  ok := by rw [iX.ns, iX.sc]; exact blkOk_by h3
  tg := fun sh H Cl cl fp => okTg_ok (X := X.blk sh H scope (compEnvC scope cl Cl X.env) fp) (fun _ => F.calm hh) F.nd iX.blk h2
  cond := fun sh H Cl cl fp => ifs_ok ic (F.blk hh sh H scope _ fp) iX.blk h7
  elt := fun sh H Cl cl fp => (ie Z _ (s.blk scope) _ x (F.blk hh sh H scope _ fp) iX.blk takesF h6).pe
  fold := fold_ok h5 _
  sub := fun j hj => by rw [ownN_snd]; exact subN_ok h4 j hj
theorem s_lc {elt cond : E} {own tg : List Nat} {it : A.It} (ie : Snd N T C elt) (ic : Snd N T C cond) (ii : SndI N T C it) : Snd N T C (.lc elt own tg it cond) := fun Z X s Ex e F iX tk h => by
  simp only [okE] at h
  split at h
  · rename_i x t i ifs scope p
    rw [Bool.and_eq_true, Bool.and_eq_true, Bool.and_eq_true, Bool.and_eq_true, Bool.and_eq_true, Bool.and_eq_true, Bool.and_eq_true, Bool.not_eq_true'] at h
    obtain ⟨⟨⟨⟨⟨⟨⟨h0, h1⟩, h2⟩, h3⟩, h4⟩, h5⟩, h6⟩, h7⟩ := h
    have L := lcOk (Z := Z) ie ic ii F h0 iX tk h1 h2 h3 h4 h5 h6 (ifs_cases h7)
    have w := fun pos => he_lc (pos := pos) F.hK L
    rw [ownN_snd] at w
    exact J.nt (by simp only [wX_def, wE]; exact w _) rfl rfl
  · cases h
end
section
variable (N : Nm) (T : Tb) (C : Orc)
mutual
theorem sE : ∀ ir : E, Snd N T C ir
  | .nev => s_nev
  | .v _ => s_v
  | .c _ => s_c
  | .bin _ a b => s_bin (sE a) (sE b)
  | .neg a => s_neg (sE a)
  | .not a => s_not (sE a)
  | .and a b => s_and (sE a) (sE b)
  | .or a b => s_or (sE a) (sE b)
  | .cmp _ a b => s_cmp (sE a) (sE b)
  | .chn a _ b _ c => s_chn (sE a) (sE b) (sE c)
  | .ite t a b => s_ite (sE t) (sE a) (sE b)
  | .tup es => s_tup (sEs es)
  | .lst es => s_lst (sEs es)
  | .ix a b => s_ix (sE a) (sE b)
  | .sl a b c => s_sl (sE a) (sE b) (sE c)
  | .b1 _ a => s_b1 (sE a)
  | .b2 _ a b => s_b2 (sE a) (sE b)
  | .bm _ o es => s_bm (sE o) (sEs es)
  | .isi a _ => s_isi (sE a)
  | .call _ _ es => s_call (sEs es)
  | .callk _ _ es ks => s_callk (sEs es) (sEs ks)
  | .lc elt _ _ it cond => s_lc (sE elt) (sE cond) (sI it)
  | .xis _ _ => s_xis
  | .xfl _ _ => s_xfl
  | .dct _ => fun _ _ _ _ _ _ _ _ h => by simp only [okE] at h; cases h
  | .gix _ _ => fun _ _ _ _ _ _ _ _ h => by simp only [okE] at h; cases h
  | .gget _ _ _ => fun _ _ _ _ _ _ _ _ h => by simp only [okE] at h; cases h
  | .at _ _ => fun _ _ _ _ _ _ _ _ h => by simp only [okE] at h; cases h
  | .callv _ _ => fun _ _ _ _ _ _ _ _ h => by simp only [okE] at h; cases h
  | .new _ _ _ _ _ => fun _ _ _ _ _ _ _ _ h => by simp only [okE] at h; cases h
  | .meth _ _ _ _ _ => fun _ _ _ _ _ _ _ _ h => by simp only [okE] at h; cases h
  | .lcD _ _ _ _ _ _ => fun _ _ _ _ _ _ _ _ h => by simp only [okE] at h; cases h
  | .fs _ => fun _ _ _ _ _ _ _ _ h => by simp only [okE] at h; cases h
  | .nil => fun _ _ _ _ _ _ _ _ h => by simp only [okE] at h; cases h
theorem sEs : ∀ ir : Es, SndL N T C ir
  | .nil => s_nilL
  | .cons a r => s_consL (sE a) (sEs r)
theorem sI : ∀ ir : A.It, SndI N T C ir
  | .seq a => s_seq (sE a)
  | .rng a => s_rng (sE a)
  | .enm a _ => s_enm (sE a)
  | .zip a b _ => s_zip (sE a) (sE b)
end
end
end A
end
section
set_option Elab.async false
set_option linter.all false
set_option maxRecDepth 100000
set_option maxHeartbeats 4000000
/-! A19: the check of statements, and what it says. -/
namespace A
open PySem L2 PyProof.Rows
/-- no comprehension as a whole -/
def notComp : Expr → Bool
  | .ListComp _ _ _ _ => false
  | .SetComp _ _ _ _ => false
  | .DictComp _ _ _ _ _ => false
  | _ => true
def isTup : Expr → Bool
  | .Tuple _ _ _ => true
  | _ => false
def isName : Expr → Bool
  | .Name _ _ => true
  | _ => false
theorem swaps_not {v : Expr} (h : notComp v = true) (t : Option Expr) (l : Nat) (env : PySem.Env) : swapsWith v t l env = pure false := by
  cases v <;> first | rfl | cases h
def keysIn (cs : List (Nat × Bool)) (l : List Nat) : Bool := cs.all fun p => l.contains p.1
theorem keysIn_ok {cs : List (Nat × Bool)} {l : List Nat} (h : keysIn cs l = true) {c : Nat} {b : Bool} (e : cs.lookup c = some b) : c ∈ l := by
  unfold keysIn at h
  induction cs with
  | nil => simp at e
  | cons p r ih =>
    obtain ⟨a, d⟩ := p
    simp only [List.all_cons, Bool.and_eq_true] at h
    simp only [List.lookup] at e
    split at e
    · rename_i hb
      rw [beq_iff_eq.mp hb]
      simpa using h.1
    · exact ih h.2 e
mutual
def okS : Tb → S → Sx → Stmt → Bool
  | T, .nev, _, _ => true
  | T, .asg t e, s, st => (match t, st with
    | .n is, .Assign [tg] v sp => (match e, v with
      | .lc elt own tgs it cond, .ListComp x [⟨t, i, ifs, 0⟩] scope p => (match tg with
        | .Name y py => (match is with
          | [j] => (nsAt s.ns j y && (match s.sc.names.lookup y with
              | some .local => true
              | _ => false) && py.line == p.line && !(scope.names.any fun (n, k) => n == y && (k == .local || k == .cell)) && okE T e s v) ||
            ((match s.sc.names.lookup y with
              | some .cell => true
              | _ => false) && !T.hot && okTg s is tg && okE T e s v)
          | _ => false)
        | _ => false)
      | _, _ => notComp v && (isName tg || !isTup v) && (isNameE tg || !T.hot) && okTg s is tg && okE T e s v)
    | .vix j a i, .Assign [.Tuple [.Name z _, .Subscript x y _] _ _] v sp => !T.hot && notComp v && !isTup v && plainIx y && nsAt s.ns j z && s.loc z && okE T e s v && okE T a s x && okE T i s y
    | .ix a i, .Assign [.Subscript x y _] v sp => notComp v && plainIx y && okE T e s v && okE T a s x && okE T i s y
    | _, _ => false)
  | T, .par i j a b, s, st => (match st with
    | .Assign [.Tuple [.Name x px, .Name y py] _ _] (.Tuple [u, v] _ _) _ => !T.hot && i != j && nsAt s.ns i x && nsAt s.ns j y && px.line == py.line && (match s.sc.names.lookup x with
        | some .local => true
        | _ => false) && (match s.sc.names.lookup y with
        | some .local => true
        | _ => false) && parOk u v && okE T a s u && okE T b s v
    | _ => false)
  | T, .aug o i e, s, st => (match st with
    | .AugAssign (.Name x _) op v _ => T.xv != some i && boEq o op && nsAt s.ns i x && s.loc x && okE T e s v
    | _ => false)
  | T, .augI o a i e, s, st => (match st with
    | .AugAssign (.Subscript x y _) op v _ => boEq o op && plainIx y && okE T a s x && okE T i s y && okE T e s v
    | _ => false)
  | T, .ex e, s, st => (match st with
    | .Expr v _ => notComp v && okE T e s v
    | _ => false)
  | T, .ret e, s, st => (match st with
    | .Return (some v) _ => okE T e s v
    | _ => false)
  | T, .retN, s, st => (match st with
    | .Return none _ => true
    | _ => false)
  | T, .ite t a b, s, st => (match st with
    | .If v x y _ => testable v && okE T t s v && okSs T a s x && okSs T b s y
    | _ => false)
  | T, .whl t b, s, st => (match st with
    | .While v x [] _ => testable v && okE T t s v && okSs T b s x
    | _ => false)
  | T, .for_ t it b, s, st => (match t, st with
    | .n is, .For tg v x [] _ => !T.hot && okIt T it s tg v && okTg s is tg && notSet v && okSs T b s x
    | _, _ => false)
  | T, .pass, s, st => (match st with
    | .Pass _ => true
    | _ => false)
  | T, .brk, s, st => (match st with
    | .Break _ => true
    | _ => false)
  | T, .cont, s, st => (match st with
    | .Continue _ => true
    | _ => false)
  | T, .raise c fs src es frm, s, st => (match st with
    | .Raise (some (.Call (.Name x _) xs [] _)) none _ => !T.hot && !frm && T.isK x c && s.gl x && okName x && T.hasR c xs.length fs src && xs.length < 1000 && okEs T es s xs
    | _ => false)
  | T, .try_ b hs, s, st => (match st with
    | .Try body (h :: r) [] [] _ => !T.hot && okSs T b s body && okHs T hs s (h :: r)
    | _ => false)
  | _, _, _, _ => false
def okHs : Tb → Hs → Sx → List ExceptHandler → Bool
  | T, .nil, _, l => (match l with
    | [] => true
    | _ => false)
  | T, .cons cs i b r, s, l => (match l with
    | .ExceptHandler (some (.Name x _)) nm (b0 :: suite) _ :: hs => hasL T.exms x cs && s.gl x && okName x && keysIn cs T.xcls && (match i, nm with
        | none, none => true
        | some i, some n => nsAt s.ns i n && (match s.sc.names.lookup n with
          | some .local => true
          | _ => false)
        | _, _ => false) && okSs (T.suite i) b s (b0 :: suite) && okHs T r s hs
    | _ => false)
def okSs : Tb → Ss → Sx → List Stmt → Bool
  | _, .nil, _, l => (match l with
    | [] => true
    | _ => false)
  | T, .cons a r, s, l => (match l with
    | x :: xs => okS T a s x && okSs T r s xs
    | [] => false)
end
section
variable {N : Nm} {T : Tb} {C : Orc}
/-- a def's context -/
def FnX (X : Cx) : Prop := X.env.scope.kind = .function ∧ X.stack = X.env :: X.outer ∧ X.env.frame = some X.env.locals
def SndS (N : Nm) (T : Tb) (C : Orc) (ir : S) : Prop := ∀ (Z : Sta × Hp) (X : Cx) (s : Sx) (Ex : D → Env → Sta → Prop) (st : Stmt), Fx N T C X → In X s → PassesOwn (model X.prog X.w) X.A X.env X.xe → FnX X → L2.Takes X (xOf N Z Ex) → okS T ir s st = true → PS X st (tSs N Z Ex (wS C ir))
def SndSs (N : Nm) (T : Tb) (C : Orc) (ir : Ss) : Prop := ∀ (Z : Sta × Hp) (X : Cx) (s : Sx) (Ex : D → Env → Sta → Prop) (st : List Stmt), Fx N T C X → In X s → PassesOwn (model X.prog X.w) X.A X.env X.xe → FnX X → L2.Takes X (xOf N Z Ex) → okSs T ir s st = true → PSs X st (tSs N Z Ex (wB C ir))
variable {a b c e t : E} {sa sb : Ss} {it : A.It}
theorem t_asg {tg : Tg} : SndS N T C (.asg tg e) := fun Z X s Ex st F i hp hk tk h => by
  simp only [okS] at h
  split at h
  · rename_i is t v sp
    split at h
    · rename_i elt own tgs it cond x t' i' ifs scope p
      split at h
      · rename_i y py
        split at h
        · rename_i j
          rw [Bool.or_eq_true] at h
          rcases h with h | h
          rotate_left
          · rw [Bool.and_eq_true, Bool.and_eq_true, Bool.and_eq_true, Bool.not_eq_true'] at h
            obtain ⟨⟨⟨h1, h0⟩, h2⟩, h3⟩ := h
            have hl : X.env.scope.names.lookup y = some .cell := by
              rw [i.sc]
              split at h1
              · assumption
              · cases h1
            have hs : swapsWithSole [.Name y py] (.ListComp x [⟨t', i', ifs, 0⟩] scope p) sp.line X.env = pure false := by
              have ky : X.env.kindOf y = some .cell := hl
              unfold swapsWithSole swapsWith
              simp only [ky]
              have z : (NameKind.cell == NameKind.local) = false := by decide
              simp [z]
            simp only [wS, wTg]
            exact hs_asgN (we := fun Ex => wX C Ex _) F.hK (sE N T C _ Z X s Ex _ F i tk h3).pe (okTg_ok (fun _ => F.calm h0) F.nd i h2) hs rfl rfl
          simp only [Bool.and_eq_true, beq_iff_eq, Bool.not_eq_true'] at h
          obtain ⟨⟨⟨⟨h1, h2⟩, h3⟩, h4⟩, h5⟩ := h
          simp only [okE] at h5
          rw [Bool.and_eq_true, Bool.and_eq_true, Bool.and_eq_true, Bool.and_eq_true, Bool.and_eq_true, Bool.and_eq_true, Bool.and_eq_true, Bool.not_eq_true'] at h5
          obtain ⟨⟨⟨⟨⟨⟨⟨g0, g1⟩, g2⟩, g3⟩, g4⟩, g5⟩, g6⟩, g7⟩ := h5
          have L := lcOk (Z := Z) (Ex := Ex) (sE N T C elt) (sE N T C cond) (sI N T C it) F g0 i tk g1 g2 g3 g4 g5 g6 (ifs_cases g7)
          have hl : X.env.scope.names.lookup y = some .local := by
            rw [i.sc]
            split at h2
            · assumption
            · cases h2
          have w := hs_asgLc (Ex := Ex) (wi := fun Ex => wXi C Ex it) F.hK L (i := j) (py := py) (pos := p) (spos := sp) (by rw [i.ns]; exact nsAt_ok h1) hl (sw_true hk.1 hl (by rw [h3]; simp) h4)
          rw [ownN_snd] at w
          simp only [wS, wTg, wE]
          exact w
        · cases h
      · cases h
    · simp only [Bool.and_eq_true, Bool.or_eq_true, Bool.not_eq_true'] at h
      obtain ⟨⟨⟨⟨h1, h2⟩, h0⟩, h3⟩, h4⟩ := h
      have hg := okTg_ok (fun e => F.calm (h0.elim (fun z => by rw [e] at z; cases z) id)) F.nd i h3
      have he := (sE N T C e Z X s Ex v F i tk h4).pe
      have hs : swapsWithSole [t] v sp.line X.env = pure false := swaps_not h1 _ _ _
      have hw : swappedStores [t] v X.env = pure none := by
        rcases h2 with h2 | h2
        · cases t <;> first | rfl | cases h2
        · cases v <;> first | (cases t <;> rfl) | cases h2
      have h1' : (assignEach [t] X.env).map (·.2) = [assign t X.env] := by
        cases t <;> first | rfl | (match is, h3 with | [], h3 => cases h3 | [_], h3 => cases h3 | _ :: _ :: _, h3 => cases h3)
      simp only [wS, wTg]
      exact hs_asgN (we := fun Ex => wX C Ex e) F.hK he hg hs hw h1'
  · rename_i j' a' i' z pz x y pp kt pt v sp
    simp only [Bool.and_eq_true, Bool.not_eq_true'] at h
    obtain ⟨⟨⟨⟨⟨⟨⟨⟨h0, h1⟩, h2⟩, h3⟩, h4⟩, h5⟩, h6⟩, h7⟩, h8⟩ := h
    obtain ⟨l1, l2⟩ := i.loc h5
    simp only [wS, wTg]
    exact hs_vix (we := fun Ex => wX C Ex e) (wa := fun Ex => wX C Ex a') (wb := fun Ex => wX C Ex i') F.hK F.u1 (F.calm h0) F.nd (by rw [i.ns]; exact nsAt_ok h4) l1 l2 (sE N T C e Z X s Ex v F i tk h6).pe (sE N T C a' Z X s Ex x F i tk h7).pe (sE N T C i' Z X s Ex y F i tk h8).pe h3
      (fun es k p e => by rw [e] at h2; cases h2) (swaps_not h1 _ _ _) (by first | rfl | (cases v <;> first | rfl | cases h1))
  · rename_i a' i' x y p v sp
    simp only [Bool.and_eq_true] at h
    obtain ⟨⟨⟨⟨h1, h2⟩, h3⟩, h4⟩, h5⟩ := h
    simp only [wS, wTg]
    exact hs_asgI (we := fun Ex => wX C Ex e) (wa := fun Ex => wX C Ex a') (wb := fun Ex => wX C Ex i') F.u1 (sE N T C e Z X s Ex v F i tk h3).pe (sE N T C a' Z X s Ex x F i tk h4).pe (sE N T C i' Z X s Ex y F i tk h5).pe h2
  · cases h
theorem t_par {j l : Nat} : SndS N T C (.par j l a b) := fun Z X s Ex st F i hp hk tk h => by
  simp only [okS] at h
  split at h
  · rename_i x px y py kt pt u v k2 pt2 sp
    rw [Bool.and_eq_true, Bool.and_eq_true, Bool.and_eq_true, Bool.and_eq_true, Bool.and_eq_true, Bool.and_eq_true, Bool.and_eq_true, Bool.and_eq_true, Bool.and_eq_true, Bool.not_eq_true'] at h
    obtain ⟨⟨⟨⟨⟨⟨⟨⟨⟨h0, h1⟩, h2⟩, h3⟩, h4⟩, h5⟩, h6⟩, h7⟩, h8⟩, h9⟩ := h
    have hx : X.env.scope.names.lookup x = some .local := by
      rw [i.sc]
      split at h5
      · assumption
      · cases h5
    have hy : X.env.scope.names.lookup y = some .local := by
      rw [i.sc]
      split at h6
      · assumption
      · cases h6
    simp only [bne_iff_ne, ne_eq, beq_iff_eq] at h1 h4
    simp only [wS]
    exact hs_par (we := fun Ex => wX C Ex a) (wf := fun Ex => wX C Ex b) (F.calm h0) F.nd (by rw [i.ns]; exact nsAt_ok h2) (by rw [i.ns]; exact nsAt_ok h3) h1 hk.1 hx hy h4 h7 (sE N T C a Z X s Ex _ F i tk h8).pe (sE N T C b Z X s Ex _ F i tk h9).pe
  · cases h
theorem t_aug {o : Bo} {j : Nat} : SndS N T C (.aug o j e) := fun Z X s Ex st F i hp hk tk h => by
  simp only [okS] at h
  split at h
  · simp only [Bool.and_eq_true, bne_iff_ne, ne_eq] at h
    obtain ⟨⟨⟨⟨h0, h1⟩, h2⟩, h3⟩, h4⟩ := h
    obtain ⟨l1, l2⟩ := i.loc h3
    rw [boEq_ok h1]
    simp only [wS]
    exact hs_aug (we := fun Ex => wX C Ex e) (F.noX h0) F.nd (by rw [i.ns]; exact nsAt_ok h2) l1 l2 (sE N T C e Z X s Ex _ F i tk h4).pe
  · cases h
theorem t_augI {o : Bo} : SndS N T C (.augI o a b e) := fun Z X s Ex st F i hp hk tk h => by
  simp only [okS] at h
  split at h
  · simp only [Bool.and_eq_true] at h
    obtain ⟨⟨⟨⟨h1, h2⟩, h3⟩, h4⟩, h5⟩ := h
    rw [boEq_ok h1]
    simp only [wS]
    exact hs_augI (we := fun Ex => wX C Ex e) (wa := fun Ex => wX C Ex a) (wb := fun Ex => wX C Ex b) F.u1 (sE N T C a Z X s Ex _ F i tk h3).pe (sE N T C b Z X s Ex _ F i tk h4).pe (sE N T C e Z X s Ex _ F i tk h5).pe h2
  · cases h
theorem t_ex : SndS N T C (.ex e) := fun Z X s Ex st F i hp hk tk h => by
  simp only [okS] at h
  split at h
  · simp only [Bool.and_eq_true] at h
    simp only [wS]
    exact hs_ex (we := fun Ex => wX C Ex e) (sE N T C e Z X s Ex _ F i tk h.2).pe (swaps_not h.1 _ _ _)
  · cases h
theorem t_ret : SndS N T C (.ret e) := fun Z X s Ex st F i hp hk tk h => by
  simp only [okS] at h
  split at h
  · simp only [wS]
    exact hs_ret (we := fun Ex => wX C Ex e) (sE N T C e Z X s Ex _ F i tk h).pe
  · cases h
theorem t_retN : SndS N T C .retN := fun Z X s Ex st F i hp hk tk h => by
  simp only [okS] at h
  split at h
  · simp only [wS]
    exact hs_retN
  · cases h
theorem t_pass : SndS N T C .pass := fun Z X s Ex st F i hp hk tk h => by
  simp only [okS] at h
  split at h
  · simp only [wS]
    exact hs_pass
  · cases h
theorem t_brk : SndS N T C .brk := fun Z X s Ex st F i hp hk tk h => by
  simp only [okS] at h
  split at h
  · simp only [wS]
    exact hs_brk
  · cases h
theorem t_cont : SndS N T C .cont := fun Z X s Ex st F i hp hk tk h => by
  simp only [okS] at h
  split at h
  · simp only [wS]
    exact hs_cont
  · cases h
theorem t_ite (ia : SndSs N T C sa) (ib : SndSs N T C sb) : SndS N T C (.ite t sa sb) := fun Z X s Ex st F i hp hk tk h => by
  simp only [okS] at h
  split at h
  · simp only [Bool.and_eq_true] at h
    obtain ⟨⟨⟨h1, h2⟩, h3⟩, h4⟩ := h
    simp only [wS]
    exact hs_ite (wt := fun Ex => wX C Ex t) ((sE N T C t Z X s Ex _ F i tk h2).pt h1) (ia Z X s Ex _ F i hp hk tk h3) (ib Z X s Ex _ F i hp hk tk h4)
  · cases h
theorem t_whl (ia : SndSs N T C sa) : SndS N T C (.whl t sa) := fun Z X s Ex st F i hp hk tk h => by
  simp only [okS] at h
  split at h
  · simp only [Bool.and_eq_true] at h
    obtain ⟨⟨h1, h2⟩, h3⟩ := h
    simp only [wS]
    exact hs_whl (wt := fun Ex => wX C Ex t) hp ((sE N T C t Z X s Ex _ F i tk h2).pt h1) (ia Z X s Ex _ F i hp hk tk h3)
  · cases h
theorem t_for {tg : Tg} (ia : SndSs N T C sa) : SndS N T C (.for_ tg it sa) := fun Z X s Ex st F i hp hk tk h => by
  simp only [okS] at h
  split at h
  · simp only [Bool.and_eq_true, Bool.not_eq_true'] at h
    obtain ⟨⟨⟨⟨h0, h1⟩, h2⟩, h3⟩, h4⟩ := h
    simp only [wS, wTg]
    exact hs_for (wi := fun Ex => wXi C Ex it) F.hK hp (F.calm h0) (sI N T C it Z X s Ex _ _ F i tk h1) (okTg_ok (fun _ => F.calm h0) F.nd i h2) (ia Z X s Ex _ F i hp hk tk h4) (fold_ok h3 _)
  · cases h
theorem t_raise {c : Nat} {fs : List Nat} {src : List (Sum Nat D)} {es : Es} {frm : Bool} : SndS N T C (.raise c fs src es frm) := fun Z X s Ex st F i hp hk tk h => by
  simp only [okS] at h
  split at h
  · rename_i x p1 xs cpos pos
    simp only [Bool.and_eq_true, Bool.not_eq_true', decide_eq_true_eq] at h
    obtain ⟨⟨⟨⟨⟨⟨⟨h0, h1⟩, h2⟩, h3⟩, h4⟩, h5⟩, h6⟩, h7⟩ := h
    obtain ⟨k1, k2, _⟩ := sEs N T C es Z X s Ex xs F i tk h7
    obtain ⟨n1, _, _⟩ := okName_ok h4
    have hm : X.mg x = some (.ref (N.ca c)) := by
      unfold Tb.isK at h2
      split at h2
      · rename_i e he
        have := F.glob _ _ (sLook_ok he)
        rw [beq_iff_eq.mp h2]
        exact this
      · cases h2
    have l1 := es_len _ _ h7
    simp only [wS, l1]
    exact hs_raise (ws := fun Ex => wXs C Ex es) F.hK (F.calm h0) tk (F.raise _ _ _ _ (hasR_ok h5)) (F.room h0) (i.gl h3) hm n1 k1 k2 (by omega) fun e => by
      subst e
      cases es with
      | nil => exact ⟨rfl, fun ρ S Q q => by simpa only [wXs_def, wEs] using q⟩
      | cons _ _ => simp only [okEs] at h7; cases h7
  · cases h
theorem t_nil : SndSs N T C .nil := fun Z X s Ex st F i hp hk tk h => by
  simp only [okSs] at h
  split at h
  · simp only [wB]
    exact hss_nil
  · cases h
theorem t_cons {x : S} (ix : SndS N T C x) (ir : SndSs N T C sa) : SndSs N T C (.cons x sa) := fun Z X s Ex st F i hp hk tk h => by
  simp only [okSs] at h
  split at h
  · simp only [Bool.and_eq_true] at h
    simp only [wB]
    exact hss_cons (ix Z X s Ex _ F i hp hk tk h.1) (ir Z X s Ex _ F i hp hk tk h.2)
  · cases h
end
/-! ### the error of a suite comes and goes -/
section
variable {N : Nm} {H : Hp} {r : Option (Nat × Nat × List Nat × List D × Addr × Addr)}
/-- the same names, another error handled -/
def Nm.to (N : Nm) (r : Option (Nat × Nat × List Nat × List D × Addr × Addr)) : Nm := ⟨N.K, N.fa, N.ca, N.fnm, r⟩
mutual
theorem RD_to : ∀ (d : D) (v : V), RD (N.to r) H d v ↔ RD N H d v
  | .non, _ => by simp only [RD]
  | .bl _, _ => by simp only [RD]
  | .int _, _ => by simp only [RD]
  | .str _, _ => by simp only [RD]
  | .ref _, _ => by simp only [RD]
  | .fn _, _ => by simp only [RD]; exact Iff.rfl
  | .exc _ _ _, _ => by simp only [RD]
  | .tup l, v => by
    simp only [RD]
    exact ⟨fun ⟨a, vs, e, q, x⟩ => ⟨a, vs, e, q, (RDs_to l vs).mp x⟩, fun ⟨a, vs, e, q, x⟩ => ⟨a, vs, e, q, (RDs_to l vs).mpr x⟩⟩
  | .lis l, v => by
    simp only [RD]
    exact ⟨fun ⟨a, vs, e, q, x⟩ => ⟨a, vs, e, q, (RDs_to l vs).mp x⟩, fun ⟨a, vs, e, q, x⟩ => ⟨a, vs, e, q, (RDs_to l vs).mpr x⟩⟩
theorem RDs_to : ∀ (ds : List D) (vs : List V), RDs (N.to r) H ds vs ↔ RDs N H ds vs
  | [], _ => by simp only [RDs]
  | d :: ds, vs => by
    simp only [RDs]
    exact ⟨fun ⟨v, t, e, x, y⟩ => ⟨v, t, e, (RD_to d v).mp x, (RDs_to ds t).mp y⟩, fun ⟨v, t, e, x, y⟩ => ⟨v, t, e, (RD_to d v).mpr x, (RDs_to ds t).mpr y⟩⟩
end
theorem RO_to {a : Addr} {o : MO} : RO (N.to r) H a o ↔ RO N H a o := by
  cases o with
  | lst xs => exact ⟨fun ⟨vs, h, q⟩ => ⟨vs, h, (RDs_to _ _).mp q⟩, fun ⟨vs, h, q⟩ => ⟨vs, h, (RDs_to _ _).mpr q⟩⟩
  | dic kvs => exact ⟨fun ⟨ws, h, k, q⟩ => ⟨ws, h, k, (RDs_to _ _).mp q⟩, fun ⟨ws, h, k, q⟩ => ⟨ws, h, k, (RDs_to _ _).mpr q⟩⟩
  | dicF kvs => exact ⟨fun ⟨od, ws, h, k, q⟩ => ⟨od, ws, h, k, (RDs_to _ _).mp q⟩, fun ⟨od, ws, h, k, q⟩ => ⟨od, ws, h, k, (RDs_to _ _).mpr q⟩⟩
  | ins c fs => exact ⟨fun ⟨dx, gs, h, k, q⟩ => ⟨dx, gs, h, k, (RDs_to _ _).mp q⟩, fun ⟨dx, gs, h, k, q⟩ => ⟨dx, gs, h, k, (RDs_to _ _).mpr q⟩⟩
theorem RH_to {S : Sta} : RH (N.to r) H S ↔ RH N H S := ⟨fun h a o e => RO_to.mp (h a o e), fun h a o e => RO_to.mpr (h a o e)⟩
theorem RS.come {σ : L2.St} {ρ : Env} {i c : Nat} {fs : List Nat} {ds : List D} {a z : Addr} {xs : List (Str × V)} {vs : List V} (h : RS N H σ ρ) (hn : N.xs = none) (h1 : H z = some (.xd xs)) (h2 : RDs N H ds vs) (h3 : fs.length = vs.length)
    (h4 : ∀ (i : Nat) f v, fs[i]? = some f → vs[i]? = some v → xs.lookup (N.fnm f) = some v) : RS (N.to (some (i, c, fs, ds, a, z))) H (σ.set i (some (.ref a))) (ρ.set i (some (.exc c fs ds))) := by
  refine ⟨by simpa using h.1, fun j d e => ?_, xs, vs, h1, (RDs_to _ _).mpr h2, h3, h4⟩
  by_cases hj : i = j
  · subst hj
    by_cases hl : i < ρ.length
    · rw [List.getElem?_set_self hl] at e
      cases e
      exact ⟨.ref a, by rw [List.getElem?_set_self (by rw [h.1]; exact hl)], .inr ⟨c, fs, ds, a, z, rfl, rfl, rfl⟩⟩
    · rw [List.getElem?_eq_none (by simpa using hl)] at e; cases e
  · rw [List.getElem?_set_ne hj] at e
    obtain ⟨w, q, y⟩ := h.at (fun r e => by rw [hn] at e; cases e) e
    exact ⟨w, by rw [List.getElem?_set_ne hj]; exact q, .inl ((RD_to _ _).mpr y)⟩
theorem RS.go {σ : L2.St} {ρ : Env} {i c : Nat} {fs : List Nat} {ds : List D} {a z : Addr} (h : RS (N.to (some (i, c, fs, ds, a, z))) H σ ρ) (hn : N.xs = none) : RS N H (σ.set i none) (ρ.set i none) := by
  refine ⟨by simpa using h.1, fun j d e => ?_, by unfold XOk; rw [hn]; trivial⟩
  by_cases hj : i = j
  · subst hj
    by_cases hl : i < ρ.length
    · rw [List.getElem?_set_self hl] at e; cases e
    · rw [List.getElem?_eq_none (by simpa using hl)] at e; cases e
  · rw [List.getElem?_set_ne hj] at e
    obtain ⟨w, q, y⟩ := h.2.1 j d e
    refine ⟨w, by rw [List.getElem?_set_ne hj]; exact q, .inl ?_⟩
    rcases y with y | ⟨c', fs', ds', a', z', e1, _⟩
    · exact (RD_to _ _).mp y
    · have e2 : (i, c, fs, ds, a, z) = (j, c', fs', ds', a', z') := Option.some.inj e1
      exact absurd (congrArg Prod.fst e2) hj
end
def noE : D → Env → Sta → Prop := fun _ _ _ => False
section
variable {N : Nm} {T : Tb} {C : Orc} {X : Cx} {s : Sx}
theorem Fx.named (F : Fx N T C X) {i c : Nat} {fs : List Nat} {ds : List D} {a z : Addr} {oe : Obj} {pn : List (Addr × Obj)} (hc : c ∈ T.xcls) (hz : Zc (.ref (N.ca c)) (some z) oe) (hf : ∃ vs, oe.data = .fields vs) :
    Fx (N.to (some (i, c, fs, ds, a, z))) (T.suite (some i)) C (X.suite a ((a, oe) :: pn)) where
  hK := F.hK
  u := F.u
  glob := fun x g h => by
    have q := F.glob x g h
    cases g with
    | con d => obtain ⟨v, u, e1, e2, e3⟩ := q; exact ⟨v, u, e1, e2, fun H => (RD_to _ _).mpr (e3 H)⟩
    | fn f => exact q
    | cls c => exact q
  blt := F.blt
  call := fun h => by cases h
  kcall := fun h => by cases h
  own := fun N' X' => F.own N' X'
  calm := fun h => by cases h
  nd := F.nd
  room := fun h => by cases h
  cold := fun h => by cases h
  raise := fun c n fs src h => ⟨(F.raise c n fs src h).ex⟩
  exm := F.exm
  iss := F.iss
  flds := F.flds
  xc := F.xc
  xvs := fun r e => by cases e; rfl
  sux := fun j e => by
    cases e
    exact ⟨c, fs, ds, a, z, ⟨rfl, X, oe, pn, rfl, hz, hf⟩, hc⟩
  hotx := fun h => by cases h
theorem Fx.bare (F : Fx N T C X) (hh : T.hot = false) {a : Addr} {oe : Obj} {pn : List (Addr × Obj)} : Fx N (T.suite none) C (X.suite a ((a, oe) :: pn)) where
  hK := F.hK
  u := F.u
  glob := fun x g h => by
    have q := F.glob x g h
    cases g <;> exact q
  blt := F.blt
  call := fun h => by cases h
  kcall := fun h => by cases h
  own := fun N' X' => F.own N' X'
  calm := fun h => by cases h
  nd := F.nd
  room := fun h => by cases h
  cold := fun h => by cases h
  raise := F.raise
  exm := F.exm
  iss := F.iss
  flds := F.flds
  xc := F.xc
  xvs := fun r e => by rw [F.cold hh] at e; cases e
  sux := fun j e => by cases e
  hotx := fun h => by cases h
theorem Fx.tr (F : Fx N T C X) (pn : List (Addr × Obj)) (xe : Value → Shared → Prop) (hh : T.hot = false) : Fx N T C (X.tr pn xe) where
  hK := F.hK
  u := F.u
  glob := fun x g h => by
    have q := F.glob x g h
    cases g <;> exact q
  blt := F.blt
  call := F.call
  kcall := F.kcall
  own := fun N' X' => F.own N' X'
  calm := F.calm
  nd := F.nd
  room := F.room
  cold := F.cold
  raise := F.raise
  exm := F.exm
  iss := F.iss
  flds := F.flds
  xc := F.xc
  xvs := F.xvs
  sux := fun j e => by rw [F.hotx hh] at e; cases e
  hotx := F.hotx
end
/-- what is said of except clauses -/
def SndH (N : Nm) (T : Tb) (C : Orc) (hs : Hs) : Prop := ∀ (Z : Sta × Hp) (X : Cx) (s : Sx) (Ex : D → Env → Sta → Prop) (hl : List ExceptHandler), Fx N T C X → In X s → FnX X → T.hot = false → okHs T hs s hl = true →
  ∃ l : List Cl, ClOk X hl l ∧ ∀ (Y : Sta × Hp) (Tn : A.Ends) (D : L2.Ends) (x : A.D) (ρ : Env) (S : Sta) (cls : Value) (d : Option Addr) (σ : L2.St) (H : Hp), wH C hs x ρ S Tn → RS N H σ ρ → RH N H S → Fr Y.1 Y.2 S H → Fr Z.1 Z.2 Y.1 Y.2 → XD N H x cls d → En N Y Tn D → Tn.ex = Ex →
    wCl X.K (xOf N Z Ex) D l cls d σ H
section
variable {N : Nm} {T : Tb} {C : Orc}
theorem t_hnil : SndH N T C .nil := fun Z X s Ex hl F i hk hh h => by
  simp only [okHs] at h
  split at h
  · refine ⟨[], .nil, fun Y Tn D x ρ S cls d σ H w rs rh fs fz xd en ex => ?_⟩
    simp only [wH] at w
    subst ex
    exact ⟨x, ρ, S, rs, rh, fz.trans fs, xd, w⟩
  · cases h
theorem t_hcons {cs : List (Nat × Bool)} {j : Option Nat} {b : Ss} {r : Hs} (ib : ∀ N' T', SndSs N' T' C b) (ir : SndH N T C r) : SndH N T C (.cons cs j b r) := fun Z X s Ex hl F i hk hh h => by
  simp only [okHs] at h
  split at h
  · rename_i x p1 nm b0 suite p2 hs
    rw [Bool.and_eq_true, Bool.and_eq_true, Bool.and_eq_true, Bool.and_eq_true, Bool.and_eq_true, Bool.and_eq_true] at h
    obtain ⟨⟨⟨⟨⟨⟨h1, h2⟩, h3⟩, h4⟩, h5⟩, h6⟩, h7⟩ := h
    obtain ⟨k, m1, tab⟩ := F.exm _ _ (hasL_ok h1)
    obtain ⟨n1, _, _⟩ := okName_ok h3
    have nmx : Names X x (.ref k) := ⟨i.gl h2, n1, .inl m1⟩
    obtain ⟨l, cl, lk⟩ := ir Z X s Ex hs F i hk hh h7
    cases j with
    | none =>
      cases nm with
      | some n => cases h5
      | none =>
        refine ⟨⟨.ref k, none, fun a cls d D σ H => ∃ Zx, tSs N Zx noE (wB C b) D σ H⟩ :: l, .bare nmx (fun a oe cls d pn hz hf => ⟨fun pins s0 σ H D I ⟨Zx, t⟩ => ?_⟩) cl, fun Y Tn D e ρ S cls d σ H w rs rh fs fz xd en ex => ?_⟩
        · exact (ib N (T.suite none) Zx _ s noE (b0 :: suite) (F.bare hh) ⟨i.sc, i.ns, i.fn⟩ PassesOwn.never hk takesF h6).run pins s0 σ H D I t
        · obtain ⟨c, fl, ds, dd, xs, vs, rfl, rfl, rfl, x1, x2, x3, x4⟩ := id xd
          simp only [wH] at w
          obtain ⟨g, e1, w⟩ := w
          refine ⟨g, tab c g e1, fun hg a na => ?_, fun hg => ?_⟩
          · rw [if_pos hg] at w
            exact ⟨(S, H), (S, H), ρ, S, { nx := Tn.nx, rt := Tn.rt, bk := Tn.bk, ct := Tn.ct, ex := noE }, Fr.refl, Fr.refl, rs, rh, rfl, w, ⟨fun ρ' S' σ' H' a1 a2 a3 q => en.nx ρ' S' σ' H' a1 a2 (fs.trans a3) q, fun ρ' S' σ' H' a1 a2 a3 q => en.bk ρ' S' σ' H' a1 a2 (fs.trans a3) q,
              fun ρ' S' σ' H' a1 a2 a3 q => en.ct ρ' S' σ' H' a1 a2 (fs.trans a3) q, fun d S' v H' a1 a2 a3 q => en.rt d S' v H' a1 (fs.trans a2) a3 q⟩⟩
          · rw [if_neg (by rw [hg]; decide)] at w
            exact lk Y Tn D _ ρ S _ _ σ H w rs rh fs fz xd en ex
    | some j =>
      cases nm with
      | none => cases h5
      | some n =>
        simp only [Bool.and_eq_true] at h5
        have hn := F.cold hh
        have hloc : X.env.kindOf n = some .local := by
          show X.env.scope.names.lookup n = some .local
          rw [i.sc]
          have := h5.2
          split at this
          · assumption
          · cases this
        refine ⟨⟨.ref k, some j, fun a cls d D σ H => ∃ (c : Nat) (fs : List Nat) (ds : List A.D) (z : Addr) (Zx : Sta × Hp), cls = .ref (N.ca c) ∧ d = some z ∧ c ∈ T.xcls ∧ tSs (N.to (some (j, c, fs, ds, a, z))) Zx noE (wB C b) D σ H⟩ :: l,
          .named nmx (by rw [i.ns]; exact nsAt_ok h5.1) hloc (fun a oe cls d pn hz hf => ⟨fun pins s0 σ H D I ⟨c, fs, ds, z, Zx, e1, e2, hc, t⟩ => ?_⟩) cl, fun Y Tn D e ρ S cls d σ H w rs rh fs fz xd en ex => ?_⟩
        · subst e1 e2
          exact (ib (N.to (some (j, c, fs, ds, a, z))) (T.suite (some j)) Zx _ s noE (b0 :: suite) (F.named hc hz hf) ⟨i.sc, i.ns, i.fn⟩ PassesOwn.never hk takesF h6).run pins s0 σ H D I t
        · obtain ⟨c, fl, ds, dd, xs, vs, rfl, rfl, rfl, x1, x2, x3, x4⟩ := id xd
          simp only [wH] at w
          obtain ⟨g, e1, w⟩ := w
          refine ⟨g, tab c g e1, fun hg a na => ?_, fun hg => ?_⟩
          · rw [if_pos hg] at w
            refine ⟨c, fl, ds, dd, (S, H), rfl, rfl, keysIn_ok h4 e1, (S, H), ρ.set j (some (.exc c fl ds)), S, { nx := fun ρ' S' => Tn.nx (ρ'.set j none) S', rt := Tn.rt, bk := fun ρ' S' => Tn.bk (ρ'.set j none) S', ct := fun ρ' S' => Tn.ct (ρ'.set j none) S', ex := noE },
              Fr.refl, Fr.refl, rs.come hn x1 x2 x3 x4, RH_to.mpr rh, rfl, w, ⟨fun ρ' S' σ' H' a1 a2 a3 q => en.nx _ S' _ H' (a1.go hn) (RH_to.mp a2) (fs.trans a3) q, fun ρ' S' σ' H' a1 a2 a3 q => en.bk _ S' _ H' (a1.go hn) (RH_to.mp a2) (fs.trans a3) q,
                fun ρ' S' σ' H' a1 a2 a3 q => en.ct _ S' _ H' (a1.go hn) (RH_to.mp a2) (fs.trans a3) q, fun d S' v H' a1 a2 a3 q => en.rt d S' v H' (RH_to.mp a1) (fs.trans a2) ((RD_to _ _).mp a3) q⟩⟩
          · rw [if_neg (by rw [hg]; decide)] at w
            exact lk Y Tn D _ ρ S _ _ σ H w rs rh fs fz xd en ex
  · cases h
theorem t_try {b : Ss} {hs : Hs} (ib : SndSs N T C b) (ih : SndH N T C hs) : SndS N T C (.try_ b hs) := fun Z X s Ex st F i hp hk tk h => by
  simp only [okS] at h
  split at h
  · rename_i body h0 r pos
    rw [Bool.and_eq_true, Bool.and_eq_true, Bool.not_eq_true'] at h
    obtain ⟨⟨g1, g2⟩, g3⟩ := h
    obtain ⟨l, cl, lk⟩ := ih Z X s Ex (h0 :: r) F i hk g1 g3
    obtain ⟨_, f1, f2⟩ := id hk
    simp only [wS]
    refine psimp (ps_tryA (tb := fun W D σ H => ∃ (Z' : Sta × Hp) (Ex' : A.D → Env → Sta → Prop), (∀ cls d σ H, xOf N Z' Ex' cls d σ H → W cls d σ H) ∧ tSs N Z' Ex' (wB C b) D σ H) f1 f2 F.nd tk (fun W pn xe tkW po => ⟨fun pins s0 σ H D I ⟨Z', Ex', hW, t⟩ => ?_⟩) cl) fun D σ H ⟨Y, ρ, S, Tn, fy, fs, rs, rh, ex, q, en⟩ => ?_
    · exact (ib Z' (X.tr pn xe) s Ex' body (F.tr pn xe g1) ⟨i.sc, i.ns, i.fn⟩ po hk (Takes.imp tkW hW) g2).run pins s0 σ H D I t
    · refine ⟨Y, fun x ρ' S' => wH C hs x ρ' S' Tn, fun cls d σ' H' ⟨x, ρ', S', rs', rh', fs', xd, w⟩ => lk Y Tn D x ρ' S' cls d σ' H' w rs' rh' fs' fy xd en ex, Y, ρ, S, { nx := Tn.nx, rt := Tn.rt, bk := Tn.bk, ct := Tn.ct, ex := fun x ρ' S' => wH C hs x ρ' S' Tn }, Fr.refl, fs, rs, rh, rfl, q, ⟨en.nx, en.bk, en.ct, en.rt⟩⟩
  · cases h
end
section
variable (C : Orc)
mutual
theorem sS0 : ∀ (ir : S) (N : Nm) (T : Tb), SndS N T C ir
  | .nev, _, _ => fun _ _ _ _ _ _ _ _ _ _ _ => hs_nev fun ρ S T => by simp only [wS]; exact id
  | .asg _ _, _, _ => t_asg
  | .aug _ _ _, _, _ => t_aug
  | .augI _ _ _ _, _, _ => t_augI
  | .ex _, _, _ => t_ex
  | .ret _, _, _ => t_ret
  | .retN, _, _ => t_retN
  | .pass, _, _ => t_pass
  | .brk, _, _ => t_brk
  | .cont, _, _ => t_cont
  | .ite _ a b, N, T => t_ite (sSs0 a N T) (sSs0 b N T)
  | .whl _ a, N, T => t_whl (sSs0 a N T)
  | .for_ _ _ a, N, T => t_for (sSs0 a N T)
  | .par _ _ _ _, _, _ => t_par
  | .augA _ _ _ _, _, _ => fun _ _ _ _ _ _ _ _ _ _ h => by simp only [okS] at h; cases h
  | .forD _ _ _ _, _, _ => fun _ _ _ _ _ _ _ _ _ _ h => by simp only [okS] at h; cases h
  | .raise _ _ _ _ _, _, _ => t_raise
  | .try_ b hs, N, T => t_try (sSs0 b N T) (sH0 hs N T)
theorem sSs0 : ∀ (ir : Ss) (N : Nm) (T : Tb), SndSs N T C ir
  | .nil, _, _ => t_nil
  | .cons x r, N, T => t_cons (sS0 x N T) (sSs0 r N T)
theorem sH0 : ∀ (ir : Hs) (N : Nm) (T : Tb), SndH N T C ir
  | .nil, _, _ => t_hnil
  | .cons _ _ b r, N, T => t_hcons (fun N' T' => sSs0 b N' T') (sH0 r N T)
end
end
theorem sSs (N : Nm) (T : Tb) (C : Orc) (ir : Ss) : SndSs N T C ir := sSs0 C ir N T
end A
end
section
set_option Elab.async false
set_option linter.all false
set_option maxRecDepth 100000
set_option maxHeartbeats 4000000
/-! A20: the defs of the program keep what the small language says of them. -/
namespace A
open PySem L2 PyProof.Rows
section
variable {N : Nm} {T : Tb} {P : Prg} {prog : Program} {w : World} {K : PySem.W.Frag} {mg : Str → Option Value} {base : Heap}
/-- a def of the program against one of the small language -/
structure DefOk (N : Nm) (T : Tb) (K : PySem.W.Frag) (f : Nat) (F : Fn) (fd : FuncData) (ps : List Str) : Prop where
  ex : ∃ (x qual : Str) (params : Arguments) (body : List Stmt) (scope : Scope) (dvs : List V) (kws : List (Str × V)) (ns : List Str), FunD K x qual params body scope dvs kws (N.fa f) fd ∧ FnScope ns ps scope ∧ ns.length = F.n ∧
    okSs T F.body ⟨scope, ns, fun _ => true⟩ body = true
  par : ps.length = F.k
def GOk' (N : Nm) (K : PySem.W.Frag) (mg : Str → Option Value) (x : Str) : GV → Prop
  | .con d => ∃ v u, mg x = some u ∧ RelV v u ∧ ∀ H, RD N H d v
  | .fn f => mg x = some (.ref (N.fa f)) ∧ PySem.W.keepIn K (.ref (N.fa f)) = true
  | .cls c => mg x = some (.ref (N.ca c))
/-- a class of errors by its written __init__ -/
structure RaiseG (N : Nm) (K : PySem.W.Frag) (c n : Nat) (fs : List Nat) (src : List (Sum Nat D)) : Prop where
  cls : OxC K (N.ca c)
  ex : ∃ (fl : List (Str × Sum Str Nat)) (x qual : Str) (params : Arguments) (body : List Stmt) (scope : Scope) (dvs : List V) (kws : List (Str × V)) (fI : Addr) (fd : FuncData) (ns ps : List Str),
    PySem.W.findIn K (.ref (N.ca c)) "__init__" = some (some (.ref fI)) ∧ PySem.W.typeIn K (.ref fI) = some (.type "function") ∧ FunD K x qual params body scope dvs kws fI fd ∧ FnScope ns ps scope ∧ Binds K fd ps [] ∧ ps.length = n + 1 ∧ n < ns.length ∧
    okI ⟨scope, ns, fun _ => true⟩ fl body = true ∧ fl.length ≤ 900 ∧ (∀ p ∈ fl, ∀ j, p.2 = .inr j → 1 ≤ j ∧ j < n + 1) ∧ (∀ p ∈ fl, PySem.W.findIn K (.ref (N.ca c)) p.1 = some none) ∧ fl ≠ [] ∧ fl.map (·.1) = fs.map N.fnm ∧ src = fl.map (fun p => convF p.2) ∧ (fl.map (·.1)).Nodup
theorem RaiseG.ok {c n : Nat} {fs : List Nat} {src : List (Sum Nat D)} (J : RaiseG N K c n fs src) : RaiseOk N prog w K mg base c n fs src := by
  obtain ⟨fl, x, qual, params, body, scope, dvs, kws, fI, fd, ns, ps, h1, h2, h3, h4, h5, h6, h7, h8, h9, h10, h11, h12, h13, h14, h15⟩ := J.ex
  exact ⟨fl, ⟨J.cls, ⟨fI, fd, ps, h1, h2, ini_fn h3 h4 h6 h7 h8 h9 (fun p hp j e => (h10 p hp j e).2) 0, h5⟩, h11, fun p hp j e => (h10 p hp j e).1, h12⟩, h13, h14, h15, fun p hp j e => (h10 p hp j e).2⟩
/-- the program's facts -/
structure Gf (N : Nm) (T : Tb) (P : Prg) (K : PySem.W.Frag) (mg : Str → Option Value) : Prop where
  hK : N.K = K
  glob : ∀ x g, (x, g) ∈ T.glob → GOk' N K mg x g
  blt : ∀ x ∈ T.blts, mg x = none
  call : ∀ f n es, (f, n, es) ∈ T.calls → ∃ F fd ps dvs ds, P f = some F ∧ DefOk N T K f F fd ps ∧ Binds K fd ps ds ∧ Vals dvs ds ∧ ∀ H, RDs N H es dvs
  kcall : ∀ f n ks sh, (f, n, ks, sh) ∈ T.kcalls → ∃ F fd ps, P f = some F ∧ DefOk N T K f F fd ps ∧ KB N K fd ps n ks sh
  own : ∀ c m, P (mth c m) = none
  raise : ∀ c n fs src, (c, n, fs, src) ∈ T.raises → RaiseG N K c n fs src
  exm : ∀ x l, (x, l) ∈ T.exms → ∃ k : Addr, mg x = some (.ref k) ∧ ∀ c b, l.lookup c = some b → PySem.W.exmOne K (.ref (N.ca c)) (.ref k) = some b
  iss : ∀ x l, (x, l) ∈ T.iss → ∃ k : Addr, mg x = some (.ref k) ∧ ∀ c b, l.lookup c = some b → PySem.W.kitOne K (.ref (N.ca c)) (.ref k) = some b
  flds : ∀ n f, (n, f) ∈ T.flds → N.fnm n = f ∧ ∀ c ∈ T.xcls, PySem.W.findIn K (.ref (N.ca c)) f = some none
  xc : ∀ c ∈ T.xcls, ExcC K (N.ca c) ∧ XfC K (N.ca c)
  hot : T.hot = false
  xv : T.xv = none
  cold : N.xs = none
theorem own_none (h : ∀ c m, P (mth c m) = none) (n : Nat) (X : Cx) : OwnOk N (callW P n) X := by
  have no : ∀ c m ds S Q Xk, ¬ callW P n (mth c m) ds S Q Xk := fun c m ds S Q Xk q => by
    cases n with
    | zero => exact q
    | succ n =>
      obtain ⟨F, e, _⟩ := q
      rw [h] at e; cases e
  exact ⟨fun _ _ _ _ _ _ _ _ _ _ _ _ ⟨a, c, fs, y, S, Qh, _, _, _, _, q, _⟩ => (no _ _ _ _ _ _ q).elim, fun _ _ _ _ _ _ _ _ _ _ _ _ ⟨a, c, fs, y, S, Qh, _, _, _, _, q, _⟩ => (no _ _ _ _ _ _ q).elim,
    fun _ _ _ _ _ _ _ _ _ ⟨a, c, fs, S, Qh, _, _, _, q, _⟩ => (no _ _ _ _ _ _ q).elim, fun _ _ _ _ _ _ _ _ _ ⟨a, c, fs, S, Qh, _, _, _, q, _⟩ => (no _ _ _ _ _ _ q).elim, fun _ _ _ _ _ _ _ _ _ ⟨a, c, fs, S, Qh, _, _, _, q, _⟩ => (no _ _ _ _ _ _ q).elim⟩
theorem rds_start {ds : List D} {vs : List V} {H : Hp} {ns : List Str} {n k : Nat} (hc : N.xs = none) (r : RDs N H ds vs) (hn : ns.length = n) (hk : ds.length = k) : RS N H (L2.start ns vs) (ds.map some ++ List.replicate (n - k) none) := by
  subst hn hk
  have hl := r.length
  refine ⟨by simp [L2.start, hl], fun i d e => ?_, by unfold XOk; rw [hc]; trivial⟩
  have hi : i < ds.length := by
    by_cases hi : i < ds.length
    · exact hi
    · rw [List.getElem?_append_right (by simpa using hi), List.getElem?_replicate] at e
      split at e <;> cases e
  rw [List.getElem?_append_left (by simpa using hi), List.getElem?_map] at e
  obtain ⟨d', e1, e2⟩ := Option.map_eq_some_iff.mp e
  cases e2
  obtain ⟨v, e3, rv⟩ := r.get e1
  refine ⟨v, ?_, .inl rv⟩
  unfold L2.start
  rw [List.getElem?_append_left (by simpa [← hl] using hi), List.getElem?_map, e3]
  rfl
theorem fnOk (G : Gf N T P K mg) : ∀ (n f : Nat) (F : Fn) (fd : FuncData) (ps : List Str), P f = some F → DefOk N T K f F fd ps → FnOk prog w K mg base (L2.CX prog w) (n + 2) (N.fa f) fd ps (spF N (callW P n) f)
  | 0, f, F, fd, ps, _, _ => ⟨fun vs H Q E ⟨_, _, _, _, _, _, c, _⟩ => False.elim c, fun _ _ _ _ _ _ _ _ _ _ _ _ _ ⟨_, _, _, _, _, _, c, _⟩ => False.elim c⟩
  | n + 1, f, F, fd, ps, hP, hd => by
    obtain ⟨x, qual, params, body, scope, dvs, kws, ns, fD, sc, hn, hb⟩ := hd.ex
    have len : ∀ vs H Q E, spF N (callW P (n + 1)) f vs H Q E → vs.length = ps.length := fun vs H Q E ⟨ds, S, Qh, Xh, r, _, c, _⟩ => by
      obtain ⟨F', e, hl, _⟩ := c
      rw [hP] at e; cases e
      rw [← r.length, hl, hd.par]
    refine fD.ok sc len fun cdv A outer s H vs Q E hr h => ?_
    obtain ⟨ds, S, Qh, Xh, r, rh, c, k, kx⟩ := h
    obtain ⟨F', e, hl, q⟩ := c
    rw [hP] at e; cases e
    refine ⟨tSs N (S, H) (fun x _ S' => Q1 Xh x S') (wB (callW P n) F.body), ?_, ?_⟩
    · have Fx' : Fx N T (callW P n) (cxOf (L2.CX prog w) prog w K mg base ns qual scope (N.fa f) cdv A outer s H E) := by
        refine ⟨G.hK, hr.units, fun x g hx => ?_, G.blt, fun _ g m es hg => ?_, fun _ g m ks sh hg => ?_, fun N' X' _ _ _ _ _ _ => own_none G.own n X', fun _ => rfl, sc.nd, fun _ => hr.mono (by omega), fun _ => G.cold, fun c n fs src h => (G.raise c n fs src h).ok, G.exm, G.iss, G.flds, G.xc, fun r e => (by rw [G.cold] at e; cases e), fun i e => (by rw [G.xv] at e; cases e), fun _ => G.xv⟩
        · have := G.glob x g hx
          cases g <;> exact this
        · obtain ⟨F2, fd2, ps2, dvs2, ds2, e2, d2, b2, v2, r2⟩ := G.call g m es hg
          exact ⟨n + 2, fd2, ps2, dvs2, ds2, fnOk G n g F2 fd2 ps2 e2 d2, hr, b2, v2, r2⟩
        · obtain ⟨F2, fd2, ps2, e2, d2, kb⟩ := G.kcall g m ks sh hg
          exact ⟨n + 2, fd2, ps2, fnOk G n g F2 fd2 ps2 e2 d2, hr, kb⟩
      refine sSs N T (callW P n) F.body (S, H) _ ⟨scope, ns, fun _ => true⟩ _ body Fx' ⟨rfl, rfl, fun _ => rfl⟩ (passes_of rfl) ⟨sc.kind, rfl, rfl⟩ ?_ hb
      refine Takes.imp (takes_of (E := E) rfl rfl rfl rfl) fun cls d σ H' ⟨x, ρ, S', rs, rh', fz, xd, S'', sub, q⟩ => ?_
      exact kx x S'' cls d H' (fz.sub sub) (rh'.sub sub) xd q
    · refine ⟨(S, H), _, S, { nx := fun _ S' => Q1 Qh .non S', rt := Q1 Qh, ex := fun x _ S' => Q1 Xh x S' }, Fr.refl, Fr.refl, rds_start G.cold r hn hl, rh, rfl, q, ?_⟩
      exact ⟨fun ρ S' σ H' rs rh' fz ⟨S'', sub, q⟩ => k .non S'' .non H' (fz.sub sub) (rh'.sub sub) mk_non q, fun _ _ _ _ _ _ _ z => False.elim z, fun _ _ _ _ _ _ _ z => False.elim z,
        fun d S' v H' rh' fz rd ⟨S'', sub, q⟩ => k d S'' v H' (fz.sub sub) (rh'.sub sub) rd q⟩
end
end A
end
section
set_option Elab.async false
set_option linter.all false
set_option maxRecDepth 100000
set_option maxHeartbeats 1000000
/-! A20b: calls by keywords and defaults: the binding. -/
namespace A
open PySem L2 PyProof.Rows
/-- each parameter's value: a written one by its place, or a default by its -/
def gIdx {α : Type} (l : List (Sum Nat Nat)) (us ws its : List α) (z : α) : List α := l.map fun
  | .inl i => (us ++ ws).getD i z
  | .inr j => its.getD j z
def shOf (l : List (Sum Nat Nat)) (ds : List D) : List (Sum Nat D) := l.map fun
  | .inl i => .inl i
  | .inr j => .inr (ds.getD j .non)
theorem vals_getD {vs : List V} {us : List Value} (r : Vals vs us) (i : Nat) : RelV (vs.getD i .non) (us.getD i .none) := by
  have hl := r.length
  rw [List.getD_eq_getElem?_getD, List.getD_eq_getElem?_getD]
  by_cases h : i < vs.length
  · obtain ⟨u, e, ru⟩ := r.get (List.getElem?_eq_getElem h)
    rw [List.getElem?_eq_getElem h, e]
    exact ru
  · rw [List.getElem?_eq_none (by omega), List.getElem?_eq_none (by omega)]
    rfl
theorem rds_getD {N : Nm} {H : Hp} {ds : List D} {vs : List V} (r : RDs N H ds vs) (i : Nat) : RD N H (ds.getD i .non) (vs.getD i .non) := by
  have hl := r.length
  rw [List.getD_eq_getElem?_getD, List.getD_eq_getElem?_getD]
  by_cases h : i < ds.length
  · obtain ⟨v, e, rv⟩ := r.get (List.getElem?_eq_getElem h)
    rw [List.getElem?_eq_getElem h, e]
    exact rv
  · rw [List.getElem?_eq_none (by omega), List.getElem?_eq_none (by omega)]
    exact mk_non
theorem gIdx_vals {vs zs ds : List V} {us ws its : List Value} (r : Vals vs us) (rz : Vals zs ws) (rd : Vals ds its) : ∀ l : List (Sum Nat Nat), Vals (gIdx l vs zs ds .non) (gIdx l us ws its .none)
  | [] => .nil
  | .inl i :: l => .cons (vals_getD (r.append rz) i) (gIdx_vals r rz rd l)
  | .inr j :: l => .cons (vals_getD rd j) (gIdx_vals r rz rd l)
theorem gIdx_rds {N : Nm} {H : Hp} {ds zs es : List D} {vs us dvs : List V} (r : RDs N H ds vs) (rz : RDs N H zs us) (rd : RDs N H es dvs) : ∀ l : List (Sum Nat Nat), RDs N H (placeL (shOf l es) (ds ++ zs)) (gIdx l vs us dvs .non)
  | [] => .nil
  | .inl i :: l => .cons (rds_getD (r.append rz) i) (gIdx_rds r rz rd l)
  | .inr j :: l => .cons (rds_getD rd j) (gIdx_rds r rz rd l)
section
variable {N : Nm} {K : PySem.W.Frag} {x qual : Str} {params : Arguments} {body : List Stmt} {scope : Scope} {dvs : List V} {kws : List (Str × V)} {f : Addr} {fd : FuncData} {ps : List Str}
/-- no defaults -/
theorem kb_none (F : FunD K x qual params body scope [] kws f fd) (n : Nat) (ks : List Str) (l : List (Sum Nat Nat))
    (h : ∀ (kV doc pm : Value) (an : Option Addr) (cdv ct : Value) (us ws : List Value), us.length = n → ws.length = ks.length → bindArgs (PySem.W.fnOf x qual params body scope .none kV doc pm an cdv ct) ⟨us, ks.zip ws⟩ = pure (ps.zip (gIdx l us ws [] .none))) :
    KB N K fd ps n ks (.perm (shOf l [])) := by
  obtain ⟨oc, od, dV, kV, doc, pm, an, cdv, ct, osl, rfl, lk, hcd, hD, hK⟩ := F.ex
  rcases hD with ⟨_, rfl⟩ | ⟨e, _⟩
  · exact ⟨_, _, ⟨fun s us ws _ l1 l2 => .of_eq (h kV doc pm an cdv ct us ws l1 l2), fun r rz => gIdx_vals r rz .nil l⟩, fun H ds zs vs us r rz _ _ => gIdx_rds r rz .nil l⟩
  · exact absurd rfl e
/-- defaults dvs -/
theorem kb_some (F : FunD K x qual params body scope dvs kws f fd) (hd : dvs ≠ []) (es : List D) (hes : ∀ H, RDs N H es dvs) (n : Nat) (ks : List Str) (l : List (Sum Nat Nat))
    (h : ∀ (T : Addr) (kV doc pm : Value) (an : Option Addr) (cdv ct : Value) (us its ws : List Value), us.length = n → its.length = dvs.length → ws.length = ks.length →
      ∃ k, bindArgs (PySem.W.fnOf x qual params body scope (.ref T) kV doc pm an cdv ct) ⟨us, ks.zip ws⟩ = seqItems? (.ref T) >>= k ∧ k (some its.toArray) = pure (ps.zip (gIdx l us ws its .none))) :
    KB N K fd ps n ks (.perm (shOf l es)) := by
  obtain ⟨oc, od, dV, kV, doc, pm, an, cdv, ct, osl, rfl, lk, hcd, hD, hK⟩ := F.ex
  rcases hD with ⟨e, _⟩ | ⟨_, T, o, its, m, rfl, lT, oT, rT⟩
  · exact absurd e hd
  · refine ⟨fun us ws => gIdx l us ws its .none, fun vs zs => gIdx l vs zs dvs .non, ⟨fun s us ws X l1 l2 => ?_, fun r rz => gIdx_vals r rz rT l⟩, fun H ds zs vs us r rz _ _ => gIdx_rds r rz (hes H) l⟩
    obtain ⟨k, e1, e2⟩ := h T kV doc pm an cdv ct us its ws l1 rT.length.symm l2
    refine BindsTo.of_looks fun M => ?_
    rw [e1]
    exact looks_items X lT oT (.of_pure e2)
end
end A
end
section
set_option Elab.async false
set_option linter.all false
set_option maxRecDepth 100000
set_option maxHeartbeats 4000000
/-! A21: the end. -/
namespace A
open PySem L2 PyProof.Rows
def Alls {α : Type} (Q : α → Prop) : List α → Prop
  | [] => True
  | x :: r => Q x ∧ Alls Q r
theorem Alls.mem {α : Type} {Q : α → Prop} : ∀ {l : List α}, Alls Q l → ∀ x, x ∈ l → Q x
  | [], _, x, h => by cases h
  | y :: r, a, x, h => by
    rcases List.mem_cons.mp h with rfl | h
    · exact a.1
    · exact Alls.mem a.2 x h
theorem rds_intsL {N : Nm} {H : Hp} : ∀ ns : List Int, RDs N H (ns.map .int) (ns.map V.int)
  | [] => .nil
  | n :: ns => .cons mk_int (rds_intsL ns)
theorem law_sp {N : Nm} {C : Orc} {f : Nat} {H : Hp} {a : Addr} {ns : List Int} (hO : Only H) (hS : SqL N.K H a (ns.map V.int)) (h : C f [.lis (ns.map .int)] (fun _ => none) (fun d _ => d = .bl true) fun _ _ => False) :
    spF N C f [.ref a] H (fun v _ => v = .bl true) fun _ _ _ => False := by
  refine ⟨[.lis (ns.map .int)], fun _ => none, _, _, .cons ?_ .nil, fun a o e => (by cases e), h, fun d S' v H' _ _ r e => ?_, fun x S' cls d H' _ _ _ q => q⟩
  · simp only [RD]
    refine ⟨a, ns.map V.int, rfl, ?_, rds_intsL ns⟩
    rcases hS with (hS | ⟨o, hS⟩) | hS
    · rcases hO a with z | ⟨ob, xs, z⟩
      · rw [hS] at z; cases z
      · rw [hS] at z; cases z
    · exact .inl ⟨o, hS⟩
    · exact .inr (.inr hS)
  · subst e
    exact rd_bl r
theorem walkA {l : PySem.W.OpenLaw} {n k : Nat} {q : Program} {loose : List Str} {XP : (Str → Option Value) → Heap → Prop} {YP : World → Heap → Prop} {d : DefRec} {x : Str}
    (hn : l.most = some n) (hn2 : n ≤ sizeLine) (hdf : d.params.defaults = []) (hr : Room k callerA)
    (F : ∀ (w : World) (mg : Str → Option Value) (fa : Addr) (h : Heap), YP w h → h.Ns mainGlobals mg → mg d.name = some (.ref fa) →
      ∃ (N : Nm) (C : Orc) (f : Nat) (fd : FuncData), N.K.In h ∧ (∀ (s : Shared) (u : Value), BindsTo s fd ⟨[u], []⟩ [(x, u)]) ∧
        (∀ base : Heap, N.K.In base → base.Ns mainGlobals mg → FnOk l.prog w N.K mg base (L2.CX l.prog w) k fa fd [x] (spF N C f)) ∧
        ∀ ns : List Int, ns.length ≤ n → C f [.lis (ns.map .int)] (fun _ => none) (fun d _ => d = .bl true) fun _ _ => False) :
    PySem.W.WalkO q loose XP YP l.row.toRowW d [] (fun f vs => PySem.call f vs) := by
  refine Att.attach_call hn hdf fun w s0 s1 mg mb fa o pm cd doc a vs ns G Y ho hd hcd hmg hobj hints hlen hg => ?_
  obtain ⟨N, C, f, fd, KX, hb, hF, hs⟩ := F w mg fa _ Y G.T.g hmg
  refine law_call KX G.T.g G.T.b G.T.builtins G.T.nolimit hg hobj hints (Nat.le_trans hlen hn2) hr hF hb (fun H hO hS => law_sp hO hS (hs ns hlen)) fun H e s' z => ?_
  obtain ⟨_, _, _, _, _, _, _, _, _, _, _, _, z⟩ := z
  exact z
end A
end
section
set_option Elab.async false
set_option linter.all false
set_option maxRecDepth 100000
set_option maxHeartbeats 4000000
/-! A21b: the facts of the program's classes of errors, by one more Bool of the head's hook. -/
namespace A
open PySem L2 PyProof.Rows He
def refsT (t : List Value) : List Value → Bool
  | .ref _ :: r => refsT t r
  | l => decide (l = t)
theorem refsT_ok {t : List Value} : ∀ {l : List Value}, refsT t l = true → ∃ rs : List Addr, l = rs.map Value.ref ++ t
  | [], h => ⟨[], of_decide_eq_true h⟩
  | v :: r, h => by
    cases v with
    | ref a =>
      obtain ⟨rs, e⟩ := refsT_ok (l := r) h
      exact ⟨a :: rs, by rw [e]; rfl⟩
    | _ => exact ⟨[], of_decide_eq_true h⟩
def tailOf (look : Bool) : List Value := if look = true then [.type "LookupError", .type "Exception", .type "BaseException", .type "object"] else [.type "ValueError", .type "Exception", .type "BaseException", .type "object"]
def newOf (look : Bool) : String := if look = true then "LookupError.__new__" else "ValueError.__new__"
def oxB (K : PySem.W.Frag) (C : Addr) (look : Bool) : Bool := (match K.lookup C with
  | some ⟨.type ty, _, .cls cd, sl⟩ => decide (ty = "type") && cd.hasDict && !cd.hasDel && (match cd.mro with
      | .ref C' :: bm => decide (C' = C) && refsT (tailOf look) bm
      | _ => false) && (match sl.toList with
      | [_, _, _, _, some (.builtin n), _] => decide (n = newOf look)
      | _ => false)
  | _ => false) && (decide (PySem.W.findIn K (.ref C) "__setattr__" = some (some (.builtin "object.__setattr__"))) && (decide (PySem.W.subIn K (.ref C) (.type "BaseException") = some true) && (decide (PySem.W.typeIn K (.ref C) = some (.type "type")) && PySem.W.keepIn K (.ref C))))
theorem oxB_ok {K : PySem.W.Frag} {C : Addr} {look : Bool} (h : oxB K C look = true) : OxC K C := by
  unfold oxB at h
  simp only [Bool.and_eq_true, decide_eq_true_eq] at h
  obtain ⟨h0, h1, h2, h3, h4⟩ := h
  refine ⟨?_, h1, h2, h3, h4⟩
  split at h0
  · rename_i ty od cd sl lk
    simp only [Bool.and_eq_true, decide_eq_true_eq, Bool.not_eq_true'] at h0
    obtain ⟨⟨⟨⟨g1, g2⟩, g3⟩, g4⟩, g5⟩ := h0
    obtain ⟨c1, c2, c3, c4, c5, c6, c7, c8, c9, c10, c11⟩ := cd
    dsimp only at g2 g3 g4
    subst g1 g2 g3
    split at g4
    · rename_i C' bm
      obtain ⟨e1, e2⟩ := Bool.and_eq_true_iff.mp g4
      obtain ⟨rs, rfl⟩ := refsT_ok e2
      have e3 := of_decide_eq_true e1
      subst e3
      split at g5
      · rename_i k0 k1 k2 k3 n k5 es
        have e4 := of_decide_eq_true g5
        subst e4
        have e5 : sl = #[k0, k1, k2, k3, some (.builtin (newOf look)), k5] := by
          cases sl
          simp only at es
          rw [es]
        subst e5
        cases look with
        | true => exact ⟨_, _, _, _, rs, _, _, _, _, _, _, _, _, _, _, _, "LookupError", _, "LookupError.__init__", lk, F.excBase_LookupError, thr_look, by decide +kernel, rfl⟩
        | false => exact ⟨_, _, _, _, rs, _, _, _, _, _, _, _, _, _, _, _, "ValueError", _, "ValueError.__init__", lk, F.excBase_ValueError, thr_val, by decide +kernel, rfl⟩
      · cases g5
    · cases g4
  · cases h0
def excB (K : PySem.W.Frag) (D : Addr) : Bool := decide (PySem.W.findIn K (.ref D) "__getattribute__" = some (some (.builtin "BaseException.__getattribute__"))) && (decide (PySem.W.findIn K (.ref D) "__getattr__" = some none) && (decide (PySem.W.subIn K (.ref D) (.type "BaseException") = some true) && (PySem.W.hasDictIn K D &&
  (decide (PySem.W.findIn K (.ref D) "__class__" = some (some (.builtin "object.__class__"))) && (decide (PySem.W.specialIn K (.builtin "object.__class__") "__get__" = some (some (.builtin "getset_descriptor.__get__"))) && (decide (PySem.W.takesIn K (.builtin "object.__class__") = some true) && decide (PySem.W.mroIn K D (.type "object") = some true)))))))
theorem excB_ok {K : PySem.W.Frag} {D : Addr} (h : excB K D = true) : ExcC K D ∧ XfC K D := by
  unfold excB at h
  simp only [Bool.and_eq_true, decide_eq_true_eq] at h
  obtain ⟨h1, h2, h3, h4, h5, h6, h7, h8⟩ := h
  exact ⟨⟨h1, h2, h3, h4, h5, h6, h7, h8⟩, ⟨h1, h2, h3, h4⟩⟩
/-! ### one more Bool -/
def hookA (n : Nat) (fa : List Fa) (fn : List DefD) (ex : PySem.W.Frag → Bool) : PySem.W.Hook where
  α := AlD × Bool
  obs := fun s => (obsDG n fa fn s.heap.get?, ex (frG s.heap.get? (asD s.heap.get? n)))
  val := fun _ => (valD fn, true)
  says := fun _ h => ∃ K : PySem.W.Frag, K.In h ∧ SaysD fa fn K ∧ ex K = true
  of := fun _ _ e => ⟨_, frG_in, congrArg Prod.fst e, congrArg Prod.snd e⟩
  keeps := fun _ _ _ ⟨K, hK, c⟩ k => ⟨K, PySem.W.Frag.In.keeps hK k, c⟩
def obsA (n : Nat) (fa : List Fa) (fn : List DefD) (ex : PySem.W.Frag → Bool) (g : Addr → Option Obj) : AlD × Bool := (obsDG n fa fn g, ex (frG g (asD g n)))
theorem obsA_eq {n : Nat} {fa : List Fa} {fn : List DefD} {ex : PySem.W.Frag → Bool} {g : Addr → Option Obj} {s : Shared} (h : ∀ a, g a = s.heap.get? a) : obsA n fa fn ex g = (hookA n fa fn ex).obs s := by
  rw [show g = s.heap.get? from funext h]
  rfl
/-- the table's pairs are so -/
theorem tab_ok {l : List (Nat × Bool)} {f : Nat → Option Bool} (h : (l.all fun p => decide (f p.1 = some p.2)) = true) {c : Nat} {b : Bool} (e : l.lookup c = some b) : f c = some b := by
  induction l with
  | nil => simp at e
  | cons p r ih =>
    obtain ⟨a, d⟩ := p
    simp only [List.all_cons, Bool.and_eq_true] at h
    simp only [List.lookup] at e
    split at e
    · rename_i hb
      cases e
      rw [beq_iff_eq.mp hb]
      exact of_decide_eq_true h.1
    · exact ih h.2 e
/-- a statement of a class's body -/
def clsAt (s : Stmt) (j : Nat) : Stmt := match s with
  | .ClassDef _ _ _ b _ _ _ _ _ _ _ => b.getD j (.Pass ⟨0, 0, 0, 0⟩)
  | s => s
end A
end
section
set_option Elab.async false
set_option linter.all false
set_option maxRecDepth 100000
set_option maxHeartbeats 4000000
/-! A22: rewriting rules of the wp, by the forms of the values. -/
namespace A
open PySem L2
section
variable {S : Sta} {Q : K} {C : Orc} {ρ : Env} {P : Bool → Prop} {R : Bool → Sta → Prop} {W : Sta → Prop}
theorem callW_of {P : Prg} {n f : Nat} {ds : List D} {S : Sta} {Q X : K} {F : Fn} (h : P f = some F) (hl : ds.length = F.k)
    (w : wB (callW P n) F.body (ds.map some ++ List.replicate (F.n - F.k) none) S { nx := fun _ S' => Q1 Q .non S', rt := Q1 Q, ex := fun x _ S' => Q1 X x S' }) : callW P (n + 1) f ds S Q X := ⟨F, h, hl, w⟩
theorem q1_of {Q : K} {d : D} {S : Sta} (h : Q d S) : Q1 Q d S := ⟨S, Sub.refl S, h⟩
theorem at_pos {α : Type} {l : List α} {i : Int} {a : α} (h0 : 0 ≤ i) (h : l[i.toNat]? = some a) : L2.atI l i = some a := by
  obtain ⟨j, rfl⟩ := Int.eq_ofNat_of_zero_le h0
  exact L2.atI_nat (by simpa using h)
@[simp] theorem at_0 {α : Type} (a : α) (l : List α) : L2.atI (a :: l) 0 = some a := L2.atI_nat (xs := a :: l) (j := 0) rfl
@[simp] theorem at_1 {α : Type} (a b : α) (l : List α) : L2.atI (a :: b :: l) 1 = some b := L2.atI_nat (xs := a :: b :: l) (j := 1) rfl
@[simp] theorem at_2 {α : Type} (a b c : α) (l : List α) : L2.atI (a :: b :: c :: l) 2 = some c := L2.atI_nat (xs := a :: b :: c :: l) (j := 2) rfl
@[simp] theorem at_3 {α : Type} (a b c d : α) (l : List α) : L2.atI (a :: b :: c :: d :: l) 3 = some d := L2.atI_nat (xs := a :: b :: c :: d :: l) (j := 3) rfl
/-! truth -/
def truO (o : Option MO) (P : Bool → Prop) : Prop := match o with
  | some (.lst xs) => P (!xs.isEmpty)
  | some (.dic kvs) => P (!kvs.isEmpty)
  | _ => False
@[simp] theorem tru_bl {b : Bool} : wtru S (.bl b) P = P b := rfl
@[simp] theorem tru_int {i : Int} : wtru S (.int i) P = P (i != 0) := rfl
@[simp] theorem tru_non : wtru S .non P = P false := rfl
@[simp] theorem tru_str {s : Str} : wtru S (.str s) P = (s.length ≤ sizeLine ∧ P (s.length != 0)) := rfl
@[simp] theorem tru_tup {l : List D} : wtru S (.tup l) P = P (!l.isEmpty) := rfl
@[simp] theorem tru_ref {a : Addr} : wtru S (.ref a) P = truO (S a) P := rfl
@[simp] theorem truO_lst {l : List D} : truO (some (.lst l)) P = P (!l.isEmpty) := rfl
/-! operators -/
@[simp] theorem bin_add {i j : Int} : wbin .add (.int i) (.int j) S Q = Q (.int (i + j)) S := rfl
@[simp] theorem bin_adds {i j : Str} : wbin .add (.str i) (.str j) S Q = (i.length + j.length ≤ sizeLine ∧ Q (.str (i ++ j)) S) := rfl
@[simp] theorem bin_addt {i j : List D} : wbin .add (.tup i) (.tup j) S Q = (i.length + j.length ≤ sizeLine ∧ Q (.tup (i ++ j)) S) := rfl
@[simp] theorem bin_sub {i j : Int} : wbin .sub (.int i) (.int j) S Q = Q (.int (i - j)) S := rfl
@[simp] theorem bin_mul {i j : Int} : wbin .mul (.int i) (.int j) S Q = (MulOk i j ∧ Q (.int (i * j)) S) := rfl
@[simp] theorem bin_div {i j : Int} : wbin .div (.int i) (.int j) S Q = (L2.CDivW i j ∧ Q (.int (i / j)) S) := rfl
@[simp] theorem bin_mod {i j : Int} : wbin .mod (.int i) (.int j) S Q = (0 < j ∧ Q (.int (i % j)) S) := rfl
@[simp] theorem bin_pow {i j : Int} : wbin .pow (.int i) (.int j) S Q = (L2.CPow i j ∧ Q (.int (i ^ j.toNat)) S) := rfl
@[simp] theorem ip_add {i j : Int} : wip .add (.int i) (.int j) S Q = Q (.int (i + j)) S := rfl
@[simp] theorem ip_sub {i j : Int} : wip .sub (.int i) (.int j) S Q = Q (.int (i - j)) S := rfl
/-! comparisons -/
@[simp] theorem cmp_lt {i j : Int} : wcmp C .lt (.int i) (.int j) S R = R (decide (i < j)) S := rfl
@[simp] theorem cmp_le {i j : Int} : wcmp C .le (.int i) (.int j) S R = R (decide (i ≤ j)) S := rfl
@[simp] theorem cmp_gt {i j : Int} : wcmp C .gt (.int i) (.int j) S R = R (decide (j < i)) S := rfl
@[simp] theorem cmp_ge {i j : Int} : wcmp C .ge (.int i) (.int j) S R = R (decide (j ≤ i)) S := rfl
@[simp] theorem cmp_is {x : D} : wcmp C .is x .non S R = R (match x with | .non => true | _ => false) S := rfl
@[simp] theorem cmp_isn {x : D} : wcmp C .isn x .non S R = R (match x with | .non => false | _ => true) S := rfl
@[simp] theorem cmp_eqi {i j : Int} : wcmp C .eq (.int i) (.int j) S R = R (i == j) S := rfl
@[simp] theorem cmp_eqs {i j : Str} : wcmp C .eq (.str i) (.str j) S R = R (i == j) S := rfl
@[simp] theorem cmp_eqb {i j : Bool} : wcmp C .eq (.bl i) (.bl j) S R = R (i == j) S := rfl
@[simp] theorem cmp_nei {i j : Int} : wcmp C .ne (.int i) (.int j) S R = R (!(i == j)) S := rfl
@[simp] theorem cmp_nes {i j : Str} : wcmp C .ne (.str i) (.str j) S R = R (!(i == j)) S := rfl
@[simp] theorem cmp_neb {i j : Bool} : wcmp C .ne (.bl i) (.bl j) S R = R (!(i == j)) S := rfl
@[simp] theorem cmp_inss {c z : Str} : wcmp C .inn (.str c) (.str z) S R = ∃ n, c = ⟨#[n]⟩ ∧ R (decide (n ∈ z.cps.toList)) S := rfl
/-! subscripts -/
def ixO (o : Option MO) (i : D) (S : Sta) (Q : K) : Prop := match o with
  | some (.lst l) => (match i with | .int k => ∃ d, L2.atI l k = some d ∧ Q d S | _ => False)
  | some (.dic kvs) => ∃ k d, keyD i = some k ∧ kget kvs k = some d ∧ Q d S
  | some (.dicF kvs) => ∃ k d, keyD i = some k ∧ kget kvs k = some d ∧ Q d S
  | _ => False
@[simp] theorem ix_tupI {l : List D} {k : Int} : wix (.tup l) (.int k) S Q = ∃ d, L2.atI l k = some d ∧ Q d S := rfl
@[simp] theorem ix_lisI {l : List D} {k : Int} : wix (.lis l) (.int k) S Q = ∃ d, L2.atI l k = some d ∧ Q d S := rfl
@[simp] theorem ix_strI {z : Str} {k : Int} : wix (.str z) (.int k) S Q = (z.length ≤ sizeLine ∧ ∃ n, L2.atI z.cps.toList k = some n ∧ Q (.str ⟨#[n]⟩) S) := rfl
@[simp] theorem ix_ref {a : Addr} {i : D} : wix (.ref a) i S Q = ixO (S a) i S Q := rfl
@[simp] theorem ixM_ref {a : Addr} {i : D} : wixM (.ref a) i S Q = ixO (S a) i S Q := rfl
@[simp] theorem ixO_lst {l : List D} {k : Int} : ixO (some (.lst l)) (.int k) S Q = ∃ d, L2.atI l k = some d ∧ Q d S := rfl
def setO (a : Addr) (o : Option MO) (i d : D) (S : Sta) (W : Sta → Prop) : Prop := match o with
  | some (.lst l) => (match i with | .int k => ∃ j, L2.ixN l.length k = some j ∧ W (ups S a (.lst (l.set j d))) | _ => False)
  | some (.dic kvs) => kvs.length < sizeLine ∧ ∃ k, keyD i = some k ∧ W (ups S a (.dic (kput kvs k d)))
  | _ => False
@[simp] theorem set_ref {a : Addr} {i d : D} : wsetix (.ref a) i d S W = setO a (S a) i d S W := rfl
@[simp] theorem setO_lst {a : Addr} {l : List D} {k : Int} {d : D} : setO a (some (.lst l)) (.int k) d S W = ∃ j, L2.ixN l.length k = some j ∧ W (ups S a (.lst (l.set j d))) := rfl
/-! slices -/
def slO (o : Option MO) (l h : Option Int) (S : Sta) (Q : K) : Prop := match o with
  | some (.lst xs) => ∀ p, S p = none → Q (.ref p) (ups S p (.lst (cutD xs l h)))
  | _ => False
@[simp] theorem sl_tupI {xs : List D} {l h : Option Int} : wsl (.tup xs) l h S Q = Q (.tup (cutD xs l h)) S := rfl
@[simp] theorem sl_lisI {xs : List D} {l h : Option Int} : wsl (.lis xs) l h S Q = ∀ p, S p = none → Q (.ref p) (ups S p (.lst (cutD xs l h))) := rfl
@[simp] theorem sl_strI {z : Str} {l h : Option Int} : wsl (.str z) l h S Q = (z.length ≤ sizeLine ∧ Q (.str (L2.cutS z l h)) S) := rfl
@[simp] theorem sl_ref {a : Addr} {l h : Option Int} : wsl (.ref a) l h S Q = slO (S a) l h S Q := rfl
@[simp] theorem slO_lst {xs : List D} {l h : Option Int} : slO (some (.lst xs)) l h S Q = ∀ p, S p = none → Q (.ref p) (ups S p (.lst (cutD xs l h))) := rfl
@[simp] theorem end_nil {d : D} {P : Option Int → Prop} : endD .nil d P = P none := rfl
@[simp] theorem end_c {e d : D} {P : Option Int → Prop} : endD (.c e) d P = (match d with | .int i => P (some i) | _ => False) := rfl
@[simp] theorem end_v {j : Nat} {d : D} {P : Option Int → Prop} : endD (.v j) d P = (match d with | .int i => P (some i) | _ => False) := rfl
@[simp] theorem end_bin {o : Bo} {a b : E} {d : D} {P : Option Int → Prop} : endD (.bin o a b) d P = (match d with | .int i => P (some i) | _ => False) := rfl
@[simp] theorem end_neg {a : E} {d : D} {P : Option Int → Prop} : endD (.neg a) d P = (match d with | .int i => P (some i) | _ => False) := rfl
/-! built-ins -/
def lenO (C : Orc) (d : D) (o : Option MO) (S : Sta) (Q : K) : Prop := match o with
  | some (.lst xs) => Q (.int xs.length) S
  | some (.dic kvs) => Q (.int kvs.length) S
  | some (.ins c _) => C (mth c mLen) [d] S (fun r S' => ∃ n : Nat, r = .int n ∧ Q r S') fun _ _ => False
  | _ => False
@[simp] theorem len_str {s : Str} : wb1 C .len (.str s) S Q = (s.length ≤ sizeLine ∧ Q (.int s.length) S) := rfl
@[simp] theorem len_tup {l : List D} : wb1 C .len (.tup l) S Q = Q (.int l.length) S := rfl
@[simp] theorem len_lis {l : List D} : wb1 C .len (.lis l) S Q = Q (.int l.length) S := rfl
@[simp] theorem len_ref {a : Addr} : wb1 C .len (.ref a) S Q = lenO C (.ref a) (S a) S Q := rfl
@[simp] theorem lenO_lst {d : D} {l : List D} : lenO C d (some (.lst l)) S Q = Q (.int l.length) S := rfl
@[simp] theorem int_int {i : Int} : wb1 C .int (.int i) S Q = Q (.int i) S := rfl
@[simp] theorem int_bl {i : Bool} : wb1 C .int (.bl i) S Q = Q (.int (if i then 1 else 0)) S := rfl
@[simp] theorem list_b {d : D} : wb1 C .list d S Q = ∃ xs, itemsK S d = some xs ∧ ∀ p, S p = none → Q (.ref p) (ups S p (.lst xs)) := rfl
@[simp] theorem tuple_b {d : D} : wb1 C .tuple d S Q = ∃ xs, itemsT S d = some xs ∧ Q (.tup xs) S := rfl
@[simp] theorem sum_b {d : D} : wb1 C .sum d S Q = ∃ xs ns, itemsL S d = some xs ∧ intsOf xs = some ns ∧ Q (.int ns.sum) S := rfl
@[simp] theorem all_b {d : D} : wb1 C .all d S Q = ∃ xs bs, itemsL S d = some xs ∧ bsOf xs = some bs ∧ Q (.bl (bs.all id)) S := rfl
@[simp] theorem any_b {d : D} : wb1 C .any d S Q = ∃ xs bs, itemsL S d = some xs ∧ bsOf xs = some bs ∧ Q (.bl (bs.any id)) S := rfl
/-! items -/
def lO (o : Option MO) : Option (List D) := match o with
  | some (.lst xs) => some xs
  | _ => none
@[simp] theorem lO_lst {xs : List D} : lO (some (.lst xs)) = some xs := rfl
@[simp] theorem itemsL_ref {a : Addr} : itemsL S (.ref a) = lO (S a) := rfl
@[simp] theorem itemsL_lis {l : List D} : itemsL S (.lis l) = some l := rfl
@[simp] theorem itemsT_ref {a : Addr} : itemsT S (.ref a) = lO (S a) := rfl
@[simp] theorem itemsT_tup {l : List D} : itemsT S (.tup l) = some l := rfl
@[simp] theorem items_tup {l : List D} : items S (.tup l) = some l := rfl
@[simp] theorem items_str {s : Str} : items S (.str s) = some (s.cps.toList.map fun c => .str ⟨#[c]⟩) := rfl
@[simp] theorem items_ref {a : Addr} : items S (.ref a) = lO (S a) := rfl
@[simp] theorem holds_tup {l : List D} : holds S (.tup l) = [] := rfl
@[simp] theorem holds_str {l : Str} : holds S (.str l) = [] := rfl
def hO (a : Addr) (o : Option MO) : List (Addr × MO) := match o with
  | some o => [(a, o)]
  | none => []
@[simp] theorem hO_some {a : Addr} {o : MO} : hO a (some o) = [(a, o)] := rfl
@[simp] theorem holds_ref {a : Addr} : holds S (.ref a) = hO a (S a) := rfl
@[simp] theorem held_nil : Held [] S := fun p h => by cases h
/-! methods -/
def tyO (o : Option MO) : Option Ty := match o with
  | some (.lst _) => some .list
  | some (.dic _) => some .dict
  | _ => none
@[simp] theorem ty_ref {a : Addr} : tyD S (.ref a) = tyO (S a) := by
  cases e : S a with
  | none => simp [tyD, tyO, e]
  | some o => cases o <;> simp [tyD, tyO, e]
@[simp] theorem ty_str {a : Str} : tyD S (.str a) = some .str := rfl
@[simp] theorem tyO_lst {xs : List D} : tyO (some (.lst xs)) = some .list := rfl
@[simp] theorem has_append : bmHas .append .list = true := rfl
@[simp] theorem has_join : bmHas .join .str = true := rfl
def appO (a : Addr) (o : Option MO) (d : D) (S : Sta) (Q : K) : Prop := match o with
  | some (.lst xs) => xs.length < sizeLine ∧ Q .non (ups S a (.lst (xs ++ [d])))
  | _ => False
@[simp] theorem bm_append {a : Addr} {d : D} : wbm .append .list (.ref a) [d] S Q = appO a (S a) d S Q := rfl
@[simp] theorem appO_lst {a : Addr} {xs : List D} {d : D} : appO a (some (.lst xs)) d S Q = (xs.length < sizeLine ∧ Q .non (ups S a (.lst (xs ++ [d])))) := rfl
@[simp] theorem bm_join {z : Str} {d : D} : wbm .join .str (.str z) [d] S Q = ∃ xs ss, itemsT S d = some xs ∧ strsOf xs = some ss ∧ (ss.map (·.length)).sum + ss.length * z.length ≤ 16777216 ∧ Q (.str (Txt.join z ss)) S := rfl
/-! isinstance -/
@[simp] theorem isk1 {x : D} {k : Kd} : isKds S x [k] = isKd S x k := isKds_one
@[simp] theorem tgN1 {i : Nat} {d : D} {P : Env → Prop} : wtgN [i] d ρ P = P (ρ.set i (some d)) := rfl
@[simp] theorem tgN2 {i j : Nat} {a b : D} {P : Env → Prop} : wtgN [i, j] (.tup [a, b]) ρ P = (True ∧ P ((ρ.set i (some a)).set j (some b))) := by
  simp [wtgN, A.setN]
@[simp] theorem ups_at {a : Addr} {o : MO} : ups S a o a = some o := ups_same
@[simp] theorem ups_up {a : Addr} {o u : MO} : ups (ups S a o) a u = ups S a u := ups_ups
@[simp] theorem wipe1 {i : Nat} : wipeD ρ [i] = ρ.set i none := rfl
@[simp] theorem wipe2 {i j : Nat} : wipeD ρ [i, j] = (ρ.set j none).set i none := rfl
end
end A
end
section
set_option Elab.async false
set_option linter.all false
set_option maxRecDepth 100000
set_option maxHeartbeats 4000000
/-! W1: the law's own helpers, by values: box, take. -/
namespace A
open PySem L2
def fTake : Fn := ⟨5, 2,
    (.cons (.ite (.cmp .gt (.ix (.v 0) (.c (.int 2))) (.c (.int 0)))
    (.cons (.asg (.n [2]) (.ix (.v 0) (.c (.int 2))))
    (.cons (.asg (.ix (.v 0) (.c (.int 2))) (.bin .div (.v 2) (.v 1)))
    (.cons (.ret (.bin .mod (.v 2) (.v 1)))
    .nil)))
    .nil)
    (.cons (.asg (.n [3]) (.c (.int 0)))
    (.cons (.ite (.cmp .lt (.ix (.v 0) (.c (.int 1))) (.b1 .len (.ix (.v 0) (.c (.int 0)))))
    (.cons (.asg (.n [3]) (.ix (.ix (.v 0) (.c (.int 0))) (.ix (.v 0) (.c (.int 1)))))
    (.cons (.augI .add (.v 0) (.c (.int 1)) (.c (.int 1)))
    .nil))
    .nil)
    (.cons (.ite (.cmp .ge (.v 3) (.bin .pow (.c (.int 10)) (.c (.int 18))))
    (.cons (.asg (.ix (.v 0) (.c (.int 2))) (.bin .div (.v 3) (.v 1)))
    (.cons (.ret (.bin .mod (.v 3) (.v 1)))
    .nil))
    .nil)
    (.cons (.asg (.n [4]) (.ix (.v 0) (.c (.int 3))))
    (.cons (.asg (.n [4]) (.bin .add (.bin .add (.bin .pow (.v 4) (.c (.int 3))) (.bin .mul (.c (.int 48271)) (.v 4))) (.bin .mul (.c (.int 69621)) (.bin .mod (.v 3) (.c (.int 2147483629))))))
    (.cons (.asg (.ix (.v 0) (.c (.int 3))) (.bin .mod (.bin .add (.v 4) (.c (.int 11))) (.c (.int 2147483629))))
    (.cons (.ret (.bin .mod (.bin .div (.ix (.v 0) (.c (.int 3))) (.c (.int 64))) (.v 1)))
    .nil))))))))⟩
/-- the box: the script's numbers at q, the place, what is left, the seed -/
def Box (b : Addr) (S : Sta) : Prop := ∃ (q : Addr) (ns : List Int) (i r s : Int), S b = some (.lst [.ref q, .int i, .int r, .int s]) ∧ S q = some (.lst (ns.map .int)) ∧ 0 ≤ i ∧ 0 ≤ s ∧ s < 2147483629 ∧ b ≠ q
/-- all but b stays -/
def Keep (b : Addr) (S S' : Sta) : Prop := ∀ a o, a ≠ b → S a = some o → S' a = some o
theorem Keep.refl {b : Addr} {S : Sta} : Keep b S S := fun _ _ _ h => h
theorem Keep.trans {b : Addr} {S S1 S2 : Sta} (h : Keep b S S1) (g : Keep b S1 S2) : Keep b S S2 := fun a o n e => g a o n (h a o n e)
theorem Keep.put {b : Addr} {S : Sta} {o : MO} : Keep b S (ups S b o) := fun a u n e => by rw [ups_ne n]; exact e
theorem Keep.new {b p : Addr} {S : Sta} {o : MO} (h : S p = none) : Keep b S (ups S p o) := fun a u n e => by rw [ups_ne (sne e h)]; exact e
theorem ixN0 : L2.ixN 4 0 = some 0 := by decide
theorem ixN1 : L2.ixN 4 1 = some 1 := by decide
theorem ixN2 : L2.ixN 4 2 = some 2 := by decide
theorem ixN3 : L2.ixN 4 3 = some 3 := by decide
theorem take_at {P : Prg} {n t : Nat} {b : Addr} {S : Sta} {k : Int} {Q X : K} (h : P t = some fTake) (hb : Box b S) (h0 : 0 < k) (h1 : k ≤ 10 ^ 30)
    (q : ∀ v o, 0 ≤ v → v < k → Box b (ups S b o) → Q (.int v) (ups S b o)) : callW P (n + 1) t [.ref b, .int k] S Q X := by
  obtain ⟨l, ns, i, r, s, e1, e2, i0, s0, s1, hne⟩ := hb
  have hk : k.natAbs.log2 < 9000 := by
    have h2 : k.natAbs < 2 ^ 100 := by omega
    have := (Nat.log2_lt (by omega)).mpr h2
    omega
  have hm : ∀ x : Int, 0 ≤ x % k ∧ x % k < k := fun x => ⟨Int.emod_nonneg _ (by omega), Int.emod_lt_of_pos _ h0⟩
  refine callW_of h rfl ?_
  have pow1 : L2.CPow 10 18 := by unfold L2.CPow; decide
  have mo : ∀ (c x : Int), 0 ≤ c → c < 100000 → MulOk c x := fun c x h1 h2 => .inl (.inl ⟨by omega, by omega⟩)
  have dv : ∀ x : Int, L2.CDivW x k := fun x => ⟨h0, hk⟩
  have d64 : ∀ x : Int, L2.CDivW x 64 := fun x => ⟨by decide, by decide⟩
  have ps : L2.CPow s 3 := ⟨by decide, by decide, by omega⟩
  have m1 := mo 48271 s (by decide) (by decide)
  have m2 : ∀ x, MulOk 69621 x := fun x => mo 69621 x (by decide) (by decide)
  have fin : ∀ (x r' s' j : Int), 0 ≤ j → 0 ≤ s' → s' < 2147483629 → Q1 Q (.int (x % k)) (ups S b (.lst [.ref l, .int j, .int r', .int s'])) := fun x r' s' j g0 g1 g2 =>
    q1_of (q _ _ (hm x).1 (hm x).2 ⟨l, ns, j, r', s', ups_same, by rw [ups_ne (Ne.symm hne)]; exact e2, g0, g1, g2, hne⟩)
  have sd : ∀ x : Int, 0 ≤ x % 2147483629 ∧ x % 2147483629 < 2147483629 := fun x => ⟨Int.emod_nonneg _ (by omega), Int.emod_lt_of_pos _ (by omega)⟩
  simp [fTake, wB, wS, wE, wTg, e1, e2, ixN1, ixN2, ixN3, dv, d64, pow1, ps, m1, m2, h0]
  split
  · exact fin r _ _ _ i0 s0 s1
  · split
    · rename_i hi
      have hi2 : i.toNat < ns.length := by omega
      refine ⟨.int ns[i.toNat], ?_, ?_⟩
      · exact at_pos i0 (by simp [hi2])
      · simp [ixN1, ixN2, ixN3, dv, d64, ps, m1, m2, h0]
        split
        · exact fin _ _ _ (i + 1) (by omega) s0 s1
        · exact fin _ _ _ (i + 1) (by omega) (sd _).1 (sd _).2
    · exact fin _ _ _ _ i0 (sd _).1 (sd _).2
theorem take_ok {P : Prg} {n t : Nat} {b : Addr} {S : Sta} {k : Int} {Q X : K} (h : P t = some fTake) (hb : Box b S) (h0 : 0 < k) (h1 : k ≤ 10 ^ 30)
    (q : ∀ v S', 0 ≤ v → v < k → Box b S' → Keep b S S' → Q (.int v) S') : callW P (n + 1) t [.ref b, .int k] S Q X :=
  take_at h hb h0 h1 fun v o g0 g1 bb => q v _ g0 g1 bb Keep.put
end A
end
section
set_option Elab.async false
set_option linter.all false
set_option maxRecDepth 100000
set_option maxHeartbeats 4000000
/-! W2: turns of comprehensions and loops; the box made; alike. -/
namespace A
open PySem L2
theorem wcomp_nat {h : List (Addr × MO)} {f : D → Sta → (Option D → Sta → Prop) → Prop} {Q : List D → Sta → Prop} {S : Sta} (xs : List D) (hl : xs.length < 16777216) (I : Nat → List D → Sta → Prop) (h0 : I 0 [] S)
    (hh : ∀ i acc S, I i acc S → Held h S) (sz : ∀ i acc S, I i acc S → acc.length ≤ i)
    (st : ∀ i x acc S R, xs[i]? = some x → I i acc S → (∀ d S', I (i + 1) (acc ++ [d]) S' → R (some d) S') → (∀ S', I (i + 1) acc S' → R none S') → f x S R)
    (fin : ∀ acc S, I xs.length acc S → Q acc S) : wcomp h f xs [] S Q := by
  have go : ∀ (n i : Nat) acc S, i + n = xs.length → I i acc S → wcomp h f (xs.drop i) acc S Q := fun n => by
    induction n with
    | zero =>
      intro i acc S e hI
      have e' : i = xs.length := by omega
      subst e'
      rw [List.drop_length, wcomp]
      exact ⟨hh _ _ _ hI, fin _ _ hI⟩
    | succ n ih =>
      intro i acc S e hI
      have hi : i < xs.length := by omega
      rw [List.drop_eq_getElem_cons hi, wcomp]
      refine ⟨hh _ _ _ hI, st i _ acc S _ (List.getElem?_eq_getElem hi) hI (fun d S' hI' => ⟨?_, ih (i + 1) _ S' (by omega) hI'⟩) fun S' hI' => ih (i + 1) _ S' (by omega) hI'⟩
      have := sz _ _ _ hI
      have hs : sizeLine = 16777216 := sizeLine_eq
      omega
  have := go xs.length 0 [] S (by omega) h0
  rwa [List.drop_zero] at this
theorem wfor_nat {h : List (Addr × MO)} {f : D → Env → Sta → (Env → Sta → Prop) → Prop} {Q : Env → Sta → Prop} {S : Sta} {ρ : Env} (xs : List D) (I : Nat → Env → Sta → Prop) (h0 : I 0 ρ S)
    (hh : ∀ i ρ S, I i ρ S → Held h S)
    (st : ∀ i x ρ S R, xs[i]? = some x → I i ρ S → (∀ ρ' S', I (i + 1) ρ' S' → R ρ' S') → f x ρ S R)
    (fin : ∀ ρ S, I xs.length ρ S → Q ρ S) : wfor h f xs ρ S Q := by
  have go : ∀ (n i : Nat) ρ S, i + n = xs.length → I i ρ S → wfor h f (xs.drop i) ρ S Q := fun n => by
    induction n with
    | zero =>
      intro i ρ S e hI
      have e' : i = xs.length := by omega
      subst e'
      rw [List.drop_length, wfor]
      exact ⟨hh _ _ _ hI, fin _ _ hI⟩
    | succ n ih =>
      intro i ρ S e hI
      have hi : i < xs.length := by omega
      rw [List.drop_eq_getElem_cons hi, wfor]
      exact ⟨hh _ _ _ hI, st i _ ρ S _ (List.getElem?_eq_getElem hi) hI fun ρ' S' hI' => ih (i + 1) _ S' (by omega) hI'⟩
  have := go xs.length 0 ρ S (by omega) h0
  rwa [List.drop_zero] at this
theorem Sub.new {p : Addr} {S : Sta} {o : MO} (h : S p = none) : Sub S (A.ups S p o) := fun a u e => by rw [ups_ne (sne e h)]; exact e
theorem Sub.keep {b : Addr} {S S' : Sta} (h : Sub S S') : Keep b S S' := fun a o _ e => h a o e
theorem Box.sub {b : Addr} {S S' : Sta} (h : Sub S S') (x : Box b S) : Box b S' := by
  obtain ⟨q, ns, i, r, s, e1, e2, y⟩ := x
  exact ⟨q, ns, i, r, s, h _ _ e1, h _ _ e2, y⟩
def fBox : Fn := ⟨1, 1,
    (.cons (.ret (.lst (.cons (.b1 .list (.sl (.v 0) .nil (.c (.int 63)))) (.cons (.c (.int 0)) (.cons (.c (.int 0)) (.cons (.c (.int 17)) .nil))))))
    .nil)⟩
theorem cutD_ints (ns : List Int) (l h : Option Int) : ∃ ms : List Int, cutD (ns.map .int) l h = ms.map .int := by
  unfold cutD
  rw [← List.map_drop, ← List.map_take]
  exact ⟨_, rfl⟩
theorem line4 {n : Nat} (h : n < 1000) : n ≤ sizeLine := by rw [sizeLine_eq]; omega
theorem box_ok {P : Prg} {n t : Nat} {S : Sta} {ns : List Int} {Q X : K} (h : P t = some fBox) (q : ∀ b S', Box b S' → Sub S S' → Q (.ref b) S') : callW P (n + 1) t [.lis (ns.map .int)] S Q X := by
  refine callW_of h rfl ?_
  obtain ⟨ms, e⟩ := cutD_ints ns none (some 63)
  simp [fBox, wB, wS, wE, wEs, itemsK, e]
  intro p hp r hr
  refine ⟨line4 (by decide), fun b hb => q1_of (q _ _ ⟨r, ms, 0, 0, 17, ups_same, ?_, by decide, by decide, by decide, ?_⟩ (((Sub.new hp).trans (Sub.new hr)).trans (Sub.new hb)))⟩
  · rw [ups_ne]
    · exact ups_same
    · rintro rfl; rw [ups_same] at hb; cases hb
  · rintro rfl; rw [ups_same] at hb; cases hb
def fSame (f : Nat) : Fn := ⟨4, 2,
    (.cons (.ite (.or (.isi (.v 1) [.list]) (.isi (.v 1) [.tuple]))
    (.cons (.ite (.or (.cmp .ne (.isi (.v 0) [.list]) (.isi (.v 1) [.list])) (.cmp .ne (.isi (.v 0) [.tuple]) (.isi (.v 1) [.tuple])))
    (.cons (.ret (.c (.bl false)))
    .nil)
    .nil)
    (.cons (.ret (.and (.cmp .eq (.b1 .len (.v 0)) (.b1 .len (.v 1))) (.b1 .all (.lc (.call f (.app []) (.cons (.v 2) (.cons (.v 3) .nil))) [2, 3] [2, 3] (.zip (.v 0) (.v 1) false) (.c (.bl true))))))
    .nil))
    .nil)
    (.cons (.ite (.or (.cmp .is (.v 0) (.c (.non))) (.cmp .is (.v 1) (.c (.non))))
    (.cons (.ret (.and (.cmp .is (.v 0) (.c (.non))) (.cmp .is (.v 1) (.c (.non)))))
    .nil)
    .nil)
    (.cons (.ite (.or (.cmp .ne (.isi (.v 0) [.bool]) (.isi (.v 1) [.bool])) (.cmp .ne (.isi (.v 0) [.int]) (.isi (.v 1) [.int])))
    (.cons (.ret (.c (.bl false)))
    .nil)
    .nil)
    (.cons (.ret (.and (.cmp .eq (.isi (.v 0) [.str]) (.isi (.v 1) [.str])) (.cmp .eq (.v 0) (.v 1))))
    .nil))))⟩
mutual
def plainD : D → Bool
  | .int _ => true
  | .str _ => true
  | .tup l => decide (l.length < 1000) && plainDs l
  | _ => false
def plainDs : List D → Bool
  | [] => true
  | d :: r => plainD d && plainDs r
end
mutual
def depD : D → Nat
  | .tup l => 1 + depDs l
  | _ => 0
def depDs : List D → Nat
  | [] => 0
  | d :: r => max (depD d) (depDs r)
end
theorem plainDs_at : ∀ {l : List D} {i : Nat} {d : D}, plainDs l = true → l[i]? = some d → plainD d = true ∧ depD d ≤ depDs l
  | [], i, d, _, h => by simp at h
  | x :: r, 0, d, p, h => by
    simp only [plainDs, Bool.and_eq_true] at p
    simp at h; subst h
    exact ⟨p.1, by simp only [depDs]; omega⟩
  | x :: r, i + 1, d, p, h => by
    simp only [plainDs, Bool.and_eq_true] at p
    obtain ⟨h1, h2⟩ := plainDs_at (i := i) p.2 (by simpa using h)
    exact ⟨h1, by simp only [depDs]; omega⟩
theorem zipD_self : ∀ {l : List D} {i : Nat} {x : D}, (zipD l l)[i]? = some x → ∃ d, l[i]? = some d ∧ x = .tup [d, d]
  | [], i, x, h => by simp [zipD] at h
  | y :: r, 0, x, h => by simp [zipD] at h; exact ⟨y, rfl, h.symm⟩
  | y :: r, i + 1, x, h => by
    simp only [zipD, List.getElem?_cons_succ] at h
    simpa using zipD_self h
theorem both_tup {S : Sta} {a b xs ys : List D} : both S (.tup a) (.tup b) xs ys ↔ xs = a ∧ ys = b := by
  unfold both
  constructor
  · rintro (⟨h, _⟩ | ⟨h1, h2⟩)
    · cases h
    · cases h1; cases h2; exact ⟨rfl, rfl⟩
  · rintro ⟨rfl, rfl⟩
    exact .inr ⟨rfl, rfl⟩
theorem bsOf_rep : ∀ n : Nat, bsOf (List.replicate n (.bl true)) = some (List.replicate n true)
  | 0 => rfl
  | n + 1 => by rw [List.replicate_succ, bsOf, bsOf_rep n]; rfl
theorem same_ok {P : Prg} {t : Nat} (h : P t = some (fSame t)) : ∀ (n : Nat) (d : D) (S : Sta) (Q X : K), plainD d = true → depD d < n → (∀ S', Sub S S' → Q (.bl true) S') → callW P n t [d, d] S Q X
  | 0, _, _, _, _, _, h, _ => absurd h (by omega)
  | n + 1, d, S, Q, X, p, hd, q => by
    refine callW_of h rfl ?_
    cases d with
    | int i =>
      simp [fSame, wB, wS, wE, isKd]
      exact q1_of (q S (Sub.refl S))
    | str i =>
      simp [fSame, wB, wS, wE, isKd]
      exact q1_of (q S (Sub.refl S))
    | tup l =>
      simp [fSame, wB, wS, wE, wEs, wIt, isKd, both_tup, place]
      simp only [plainD, Bool.and_eq_true, decide_eq_true_eq] at p
      simp only [depD] at hd
      have hz : (zipD l l).length = l.length := by rw [zipD_len]; omega
      refine ⟨l, l, ⟨rfl, rfl⟩, wcomp_nat (zipD l l) (by omega) (fun i acc S' => acc = List.replicate i (.bl true) ∧ Sub S S') ⟨rfl, Sub.refl S⟩ (fun _ _ _ _ => held_nil) (fun i acc S' h => by rw [h.1]; simp) (fun i x acc S' R hx hI hr _ => ?_) fun acc S' hI r hr => ?_⟩
      · obtain ⟨d, hd1, rfl⟩ := zipD_self hx
        obtain ⟨p1, p2⟩ := plainDs_at p.2 hd1
        simp
        refine same_ok h n d S' _ _ p1 (by omega) fun S2 h2 => hr _ S2 ⟨?_, hI.2.trans h2⟩
        rw [hI.1, List.replicate_succ']
      · rw [hI.1]
        refine ⟨_, bsOf_rep _, ?_⟩
        have e : (List.replicate (zipD l l).length true).all id = true := by simp
        rw [e]
        exact q1_of (q _ (hI.2.trans (Sub.new hr)))
    | _ => cases p
end A
end
section
set_option Elab.async false
set_option linter.all false
set_option maxRecDepth 100000
set_option maxHeartbeats 4000000
/-! W3: names, the pool. -/
namespace A
open PySem L2
/-- the signs of a text -/
def sg (s : Str) : List Nat := s.cps.toList
theorem sg_len (s : Str) : s.length = (sg s).length := by unfold sg Str.length; simp
theorem sg_app (a b : Str) : sg (a ++ b) = sg a ++ sg b := by
  show (a.cps ++ b.cps).toList = _
  simp [sg]
theorem sg_one (n : Nat) : sg ⟨#[n]⟩ = [n] := rfl
theorem sg_inj {a b : Str} (h : sg a = sg b) : a = b := by
  cases a; cases b
  simp only [Str.mk.injEq]
  exact Array.toList_inj.mp h
def letters : Str := "abcdefghijklmnopqrstuvwxyz"
def isL (c : Nat) : Prop := 97 ≤ c ∧ c ≤ 122
theorem sg_letters : sg letters = (List.range 26).map (· + 97) := by decide +kernel
theorem letter_at {v : Int} (h0 : 0 ≤ v) (h1 : v < 26) : L2.atI (sg letters) v = some (97 + v.toNat) ∧ isL (97 + v.toNat) := by
  refine ⟨at_pos h0 ?_, by unfold isL; omega⟩
  rw [sg_letters, List.getElem?_map, List.getElem?_range (by omega)]
  simp; omega
def NameOk (s : Str) : Prop := 1 ≤ (sg s).length ∧ (sg s).length ≤ 8 ∧ ∀ c ∈ sg s, isL c
def one (c : Nat) : Str := ⟨#[c]⟩
theorem sg_join0 : ∀ cs : List Nat, sg (Str.join "" (cs.map one)) = cs
  | [] => rfl
  | [c] => rfl
  | c :: d :: r => by
    have ih := sg_join0 (d :: r)
    simp only [List.map_cons] at ih ⊢
    rw [Str.join, sg_app, sg_app, ih]
    · rfl
    · intro h; cases h
theorem strs_map : ∀ ss : List Str, strsOf (ss.map .str) = some ss
  | [] => rfl
  | s :: r => by rw [List.map_cons, strsOf, strs_map r]; rfl
theorem range_at {n i : Nat} {x : D} (h : ((List.range n).map fun (i : Nat) => D.int i)[i]? = some x) : i < n ∧ x = .int i := by
  rw [List.getElem?_map] at h
  obtain ⟨j, h1, h2⟩ := Option.map_eq_some_iff.mp h
  obtain ⟨h3, h4⟩ := List.getElem?_eq_some_iff.mp h1
  rw [List.length_range] at h3
  rw [List.getElem_range] at h4
  subst h4
  exact ⟨h3, h2.symm⟩
def fNames (t : Nat) : Fn := ⟨8, 2,
    (.cons (.asg (.n [2]) (.c (.str "abcdefghijklmnopqrstuvwxyz")))
    (.cons (.asg (.n [3]) (.bm .join (.c (.str "")) (.cons (.lc (.ix (.v 2) (.call t (.app []) (.cons (.v 0) (.cons (.c (.int 26)) .nil)))) [4] [4] (.rng (.call t (.app []) (.cons (.v 0) (.cons (.c (.int 8)) .nil)))) (.c (.bl true))) .nil)))
    (.cons (.asg (.n [5]) (.call t (.app []) (.cons (.v 0) (.cons (.c (.int 26)) .nil))))
    (.cons (.asg (.n [6]) (.lc (.bin .add (.v 3) (.ix (.v 2) (.bin .mod (.bin .add (.v 5) (.bin .mul (.c (.int 11)) (.v 4))) (.c (.int 26))))) [4] [4] (.rng (.v 1)) (.c (.bl true))))
    (.cons (.asg (.n [7]) (.lc (.bin .add (.sl (.ix (.v 6) (.bin .sub (.v 4) (.bin .mod (.v 4) (.c (.int 2))))) (.neg (.c (.int 7))) .nil) (.ix (.lst (.cons (.c (.str "")) (.cons (.c (.str "b")) .nil))) (.bin .mod (.v 4) (.c (.int 2))))) [4] [4] (.rng (.v 1)) (.c (.bl true))))
    (.cons (.ret (.ix (.lst (.cons (.v 6) (.cons (.v 7) .nil))) (.bin .div (.call t (.app []) (.cons (.v 0) (.cons (.c (.int 3)) .nil))) (.c (.int 2)))))
    .nil))))))⟩
theorem mul11 (x : Int) : MulOk 11 x := .inl (.inl ⟨by decide, by decide⟩)
theorem Sub.box {b : Addr} {S S' : Sta} (h : Sub S S') (x : Box b S) : Box b S' := x.sub h
theorem sum_one : ∀ cs : List Nat, ((cs.map one).map fun x => x.length).sum = cs.length
  | [] => rfl
  | c :: r => by
    simp only [List.map_cons, List.sum_cons, List.length_cons]
    rw [sum_one r]
    have : (one c).length = 1 := rfl
    omega
theorem Box.at {b p : Addr} {S : Sta} (x : Box b S) (h : S p = none) : p ≠ b := by
  obtain ⟨q, ns, i, r, s, e1, _⟩ := x
  rintro rfl
  rw [e1] at h; cases h
theorem cut7 {s : Str} (h : NameOk s) : 1 ≤ (sg (L2.cutS s (some (-7)) none)).length ∧ (sg (L2.cutS s (some (-7)) none)).length ≤ 7 ∧ ∀ c ∈ sg (L2.cutS s (some (-7)) none), isL c := by
  obtain ⟨h1, h2, h3⟩ := h
  have e : sg (L2.cutS s (some (-7)) none) = (sg s).drop ((sg s).length - 7) := by
    unfold L2.cutS sg
    have hl : s.length = s.cps.toList.length := by simp [Str.length]
    rw [hl]
    simp only [HT.sIx]
    have : (((-7 : Int)) + (s.cps.toList.length : Int)).toNat = s.cps.toList.length - 7 := by omega
    rw [if_pos (by decide), this]
    show (List.toArray _).toList = _
    rw [List.toList_toArray]
    rw [List.take_of_length_le (by rw [List.length_drop]; omega)]
  rw [e]
  refine ⟨by rw [List.length_drop]; omega, by rw [List.length_drop]; omega, fun c hc => h3 c (List.mem_of_mem_drop hc)⟩
theorem names_ok {P : Prg} {n t g : Nat} {b : Addr} {S : Sta} {Q X : K} (ht : P t = some fTake) (h : P g = some (fNames t)) (m : Nat) (hm : m ≤ 100) (hb : Box b S)
    (q : ∀ (p : Addr) (ws : List Str) (S' : Sta), p ≠ b → S' p = some (.lst (ws.map D.str)) → ws.length = m → (∀ s ∈ ws, NameOk s) → Box b S' → Keep b S S' → Q (.ref p) S') : callW P (n + 2) g [.ref b, .int m] S Q X := by
  refine callW_of h rfl ?_
  have hL : ("abcdefghijklmnopqrstuvwxyz" : Str) = letters := rfl
  simp only [fNames, hL]
  simp [wB, wS, wE, wEs, wIt, wTg, place]
  refine take_ok ht hb (by decide) (by decide) fun v8 S1 h1 h2 b1 k1 => ?_
  simp
  refine ⟨by omega, by omega, ?_⟩
  have hv : v8.toNat < 8 := by omega
  refine wcomp_nat _ (by simp; omega) (fun i acc S2 => ∃ cs : List Nat, acc = (cs.map one).map .str ∧ cs.length = i ∧ (∀ c ∈ cs, isL c) ∧ Box b S2 ∧ Keep b S1 S2) ⟨[], rfl, rfl, (fun _ h => nomatch h), b1, Keep.refl⟩ (fun _ _ _ _ => held_nil) (fun i acc S2 ⟨cs, e, l, _⟩ => by rw [e]; simp [l]) (fun i x acc S2 R hx ⟨cs, e, l, hc, b2, k2⟩ hr _ => ?_) fun acc S2 ⟨cs, e, l, hc, b2, k2⟩ p hp => ?_
  · obtain ⟨hi, rfl⟩ := range_at hx
    refine take_ok ht b2 (by decide) (by decide) fun v S3 g1 g2 b3 k3 => ?_
    obtain ⟨a1, a2⟩ := letter_at g1 g2
    simp
    refine ⟨by decide +kernel, _, a1, ?_⟩
    refine hr _ _ ⟨cs ++ [97 + v.toNat], by rw [e]; simp [one], by simp [l], fun c hc' => ?_, b3, k2.trans k3⟩
    rcases List.mem_append.mp hc' with h | h
    · exact hc c h
    · simp at h; subst h; exact a2
  simp at l
  have lz : (Str.ofString "").length = 0 := by decide +kernel
  refine ⟨cs.map one, by rw [e]; exact strs_map _, by rw [sum_one, lz]; omega, ?_⟩
  have hf : sg (Txt.join (Str.ofString "") (cs.map one)) = cs := by rw [TL.join_eq]; exact sg_join0 cs
  generalize Txt.join (Str.ofString "") (cs.map one) = f1 at hf
  have kp : Keep b S (ups S2 p (.lst acc)) := (k1.trans k2).trans (Keep.new hp)
  refine take_ok ht (b2.sub (Sub.new hp)) (by decide) (by decide) fun v2 S3 g1 g2 b3 k3 => ?_
  have k13 := kp.trans k3
  have m62 : (-(2 ^ 62) : Int) ≤ m ∧ (m : Int) < 2 ^ 62 := by omega
  refine ⟨by omega, ?_⟩
  refine wcomp_nat _ (by simp; omega) (fun i acc S' => ∃ ws : List Str, acc = ws.map .str ∧ ws.length = i ∧ (∀ s ∈ ws, NameOk s) ∧ S' = S3) ⟨[], rfl, rfl, (fun _ h => nomatch h), rfl⟩ (fun _ _ _ _ => held_nil) (fun i acc S2 ⟨cs, e, l, _⟩ => by rw [e]; simp [l]) (fun i x acc S2 R hx ⟨ws, e, l, hw, hS⟩ hr _ => ?_) fun acc S' ⟨ws, e2, l2, hw, hS⟩ p2 hp2 => ?_
  · obtain ⟨hi, rfl⟩ := range_at hx
    subst hS
    obtain ⟨a1, a2⟩ := letter_at (v := (v2 + 11 * (i : Int)) % 26) (Int.emod_nonneg _ (by omega)) (Int.emod_lt_of_pos _ (by omega))
    simp [mul11]
    have fl : f1.length = cs.length := by rw [sg_len, hf]
    refine ⟨by decide +kernel, _, a1, ?_, ?_⟩
    · have o1 : ∀ c : Nat, Str.length ⟨#[c]⟩ = 1 := fun _ => rfl
      rw [fl, o1]
      exact line4 (by omega)
    · refine hr _ _ ⟨ws ++ [f1 ++ one (97 + ((v2 + 11 * (i : Int)) % 26).toNat)], by rw [e]; simp [one], by simp [l], fun s hs => ?_, rfl⟩
      rcases List.mem_append.mp hs with h | h
      · exact hw s h
      · simp at h
        subst h
        have es : sg (f1 ++ one (97 + ((v2 + 11 * (i : Int)) % 26).toNat)) = cs ++ [97 + ((v2 + 11 * (i : Int)) % 26).toNat] := by rw [sg_app, hf]; rfl
        refine ⟨by rw [es]; simp, by rw [es]; simp; omega, fun c hc' => ?_⟩
        rw [es] at hc'
        rcases List.mem_append.mp hc' with h | h
        · exact hc c h
        · simp at h; subst h; exact a2
  · simp at l2
    subst hS
    have n2 := b3.at hp2
    refine ⟨by omega, ?_⟩
    refine wcomp_nat _ (by simp; omega) (fun i acc' S4 => ∃ us : List Str, acc' = us.map .str ∧ us.length = i ∧ (∀ s ∈ us, NameOk s) ∧ Sub (ups S' p2 (.lst acc)) S4) ⟨[], rfl, rfl, (fun _ h => nomatch h), Sub.refl _⟩ (fun _ _ _ _ => held_nil) (fun i acc S2 ⟨cs, e, l, _⟩ => by rw [e]; simp [l]) (fun i x acc' S4 R hx ⟨us, e, l, hu, sb⟩ hr _ => ?_) fun acc' S4 ⟨us, e3, l3, hu, sb⟩ p3 hp3 => ?_
    · obtain ⟨hi, rfl⟩ := range_at hx
      have hp : S4 p2 = some (.lst acc) := sb _ _ ups_same
      simp [hp]
      have hj : ((i : Int) - (i : Int) % 2).toNat < ws.length := by omega
      refine ⟨.str ws[((i : Int) - (i : Int) % 2).toNat], at_pos (by omega) (by rw [e2]; simp [hj]), ?_⟩
      have hn := hw _ (List.getElem_mem hj)
      generalize ws[((i : Int) - (i : Int) % 2).toNat] = w1 at hn
      obtain ⟨c1, c2, c3⟩ := cut7 hn
      have w8 : w1.length ≤ sizeLine := by rw [sg_len]; have := hn.2.1; exact line4 (by omega)
      simp [w8]
      refine ⟨line4 (by decide), fun p5 hp5 => ?_⟩
      have fin : ∀ z : Str, sg z = sg (L2.cutS w1 (some (-7)) none) ++ sg (Str.ofString "") ∨ sg z = sg (L2.cutS w1 (some (-7)) none) ++ sg (Str.ofString "b") → R (some (.str z)) (ups S4 p5 (.lst [.str (Str.ofString ""), .str (Str.ofString "b")])) := fun z hz => by
        refine hr _ _ ⟨us ++ [z], by rw [e]; simp, by simp [l], fun s hs => ?_, sb.trans (Sub.new hp5)⟩
        rcases List.mem_append.mp hs with h | h
        · exact hu s h
        · simp at h
          subst h
          have s0 : sg (Str.ofString "") = [] := by decide +kernel
          have sb' : sg (Str.ofString "b") = [98] := by decide +kernel
          rw [s0, sb'] at hz
          rcases hz with hz | hz
          · rw [List.append_nil] at hz
            exact ⟨by rw [hz]; exact c1, by rw [hz]; omega, fun c hc => c3 c (hz ▸ hc)⟩
          · refine ⟨by rw [hz]; simp, by rw [hz]; simp; omega, fun c hc => ?_⟩
            rw [hz] at hc
            rcases List.mem_append.mp hc with h | h
            · exact c3 c h
            · simp at h; subst h; unfold isL; omega
      have lb : ∀ z : Str, z = Str.ofString "" ∨ z = Str.ofString "b" → z.length ≤ 1 := fun z hz => by
        rcases hz with rfl | rfl <;> decide +kernel
      have sz : ∀ z : Str, z = Str.ofString "" ∨ z = Str.ofString "b" → (L2.cutS w1 (some (-7)) none).length + z.length ≤ sizeLine := fun z hz => by
        have := lb z hz
        rw [sg_len (L2.cutS w1 (some (-7)) none)]
        exact line4 (by omega)
      have h01 : (i : Int) % 2 = 0 ∨ (i : Int) % 2 = 1 := by omega
      rcases h01 with h01 | h01
      · rw [h01]
        refine ⟨_, at_0 _ _, ?_⟩
        exact ⟨sz _ (.inl rfl), fin _ (.inl (sg_app _ _))⟩
      · rw [h01]
        refine ⟨_, at_1 _ _ _, ?_⟩
        exact ⟨sz _ (.inr rfl), fin _ (.inr (sg_app _ _))⟩
    · have b4 : Box b S4 := (b3.sub (Sub.new hp2)).sub sb
      have k4 : Keep b S S4 := (k13.trans (Keep.new hp2)).trans sb.keep
      have hp' : S4 p2 = some (.lst acc) := sb _ _ ups_same
      have n3 := b4.at hp3
      have ne23 : p2 ≠ p3 := by rintro rfl; rw [hp'] at hp3; cases hp3
      simp at l3
      refine ⟨line4 (by decide), fun p4 hp4 => ?_⟩
      refine take_ok ht ((b4.sub (Sub.new hp3)).sub (Sub.new hp4)) (by decide) (by decide) fun v3 S5 g5 g6 b5 k5 => ?_
      have keep5 : ∀ a o, a ≠ b → S4 a = some o → S5 a = some o := fun a o na e => k5 a o na (Sub.new hp4 _ _ (Sub.new hp3 _ _ e))
      have n4 : p4 ≠ b := ((b4.sub (Sub.new hp3))).at hp4
      have at4 : S5 p4 = some (.lst [.ref p2, .ref p3]) := k5 _ _ n4 ups_same
      have at3 : S5 p3 = some (.lst acc') := k5 _ _ n3 (Sub.new hp4 _ _ ups_same)
      have at2 : S5 p2 = some (.lst acc) := keep5 _ _ n2 hp'
      have kk : Keep b S S5 := fun a o na e => keep5 a o na (k4 a o na e)
      have d2 : L2.CDivW v3 2 := ⟨by decide, by decide⟩
      simp [d2, at4]
      have h01 : v3 / 2 = 0 ∨ v3 / 2 = 1 := by omega
      rcases h01 with h01 | h01
      · rw [h01]
        exact ⟨_, at_0 _ _, q1_of (q p2 ws S5 n2 (by rw [at2, e2]) l2 hw b5 kk)⟩
      · rw [h01]
        exact ⟨_, at_1 _ _ _, q1_of (q p3 us S5 n3 (by rw [at3, e3]) l3 hu b5 kk)⟩
end A
end
section
set_option Elab.async false
set_option linter.all false
set_option maxRecDepth 100000
set_option maxHeartbeats 4000000
/-! W4: the pool, rights. -/
namespace A
open PySem L2
def fPool (t g : Nat) : Fn := ⟨1, 1,
    (.cons (.ret (.sl (.call g (.app []) (.cons (.v 0) (.cons (.c (.int 7)) .nil))) .nil (.bin .add (.c (.int 1)) (.call t (.app []) (.cons (.v 0) (.cons (.c (.int 7)) .nil))))))
    .nil)⟩
theorem cutD_to {l : List D} {h : Int} (h0 : 0 ≤ h) : cutD l none (some h) = l.take h.toNat := by
  unfold cutD
  simp only [HT.sIx, List.drop_zero, Nat.sub_zero]
  rw [if_neg (by omega)]
  rcases Nat.le_total h.toNat l.length with z | z
  · rw [Nat.min_eq_left z]
  · rw [Nat.min_eq_right z, List.take_of_length_le (Nat.le_refl _), List.take_of_length_le z]
theorem pool_ok {P : Prg} {n t g f : Nat} {b : Addr} {S : Sta} {Q X : K} (ht : P t = some fTake) (hg : P g = some (fNames t)) (h : P f = some (fPool t g)) (hb : Box b S)
    (q : ∀ (p : Addr) (ws : List Str) (S' : Sta), p ≠ b → S' p = some (.lst (ws.map D.str)) → 0 < ws.length → ws.length ≤ 7 → (∀ s ∈ ws, NameOk s) → Box b S' → Keep b S S' → Q (.ref p) S') : callW P (n + 3) f [.ref b] S Q X := by
  refine callW_of h rfl ?_
  simp [fPool, wB, wS, wE, wEs, place]
  refine names_ok ht hg 7 (by decide) hb fun p ws S1 np e1 l1 hw b1 k1 => ?_
  refine take_ok ht b1 (by decide) (by decide) fun v S2 g1 g2 b2 k2 => ?_
  have e2 := k2 _ _ np e1
  simp [e2]
  intro r hr
  refine q1_of (q r (ws.take (1 + v).toNat) _ (b2.at hr) ?_ (by rw [List.length_take]; omega) (by rw [List.length_take]; omega) (fun s hs => hw s (List.mem_of_mem_take hs)) (b2.sub (Sub.new hr)) ((k1.trans k2).trans (Keep.new hr)))
  rw [ups_same, cutD_to (by omega), List.map_take]

/-! ### rights -/
inductive Rt where
  | one (s : Str)
  | turns (k : Nat) (ps : List Rt)
mutual
def toD : Rt → D
  | .one s => .tup [.str "one", .str s]
  | .turns k ps => .tup [.str "turns", .int k, .tup (toDs ps)]
def toDs : List Rt → List D
  | [] => []
  | r :: rs => toD r :: toDs rs
end
mutual
def lv : Rt → Nat
  | .one _ => 1
  | .turns _ ps => lvs ps
def lvs : List Rt → Nat
  | [] => 0
  | r :: rs => lv r + lvs rs
end
mutual
def dpt : Rt → Nat
  | .one _ => 1
  | .turns _ ps => 1 + dpts ps
def dpts : List Rt → Nat
  | [] => 0
  | r :: rs => max (dpt r) (dpts rs)
end
mutual
def RtOk : Rt → Prop
  | .one s => NameOk s
  | .turns k ps => 2 ≤ ps.length ∧ ps.length ≤ 5 ∧ k < ps.length ∧ RtOks ps
def RtOks : List Rt → Prop
  | [] => True
  | r :: rs => RtOk r ∧ RtOks rs
end
theorem toDs_app : ∀ a b : List Rt, toDs (a ++ b) = toDs a ++ toDs b
  | [], b => rfl
  | x :: a, b => by simp only [List.cons_append, toDs, toDs_app a b]
theorem toDs_len : ∀ a : List Rt, (toDs a).length = a.length
  | [] => rfl
  | x :: a => by simp only [toDs, List.length_cons, toDs_len a]
theorem lvs_app : ∀ a b : List Rt, lvs (a ++ b) = lvs a + lvs b
  | [], b => by simp [lvs]
  | x :: a, b => by simp only [List.cons_append, lvs, lvs_app a b]; omega
theorem dpts_app : ∀ a b : List Rt, dpts (a ++ b) = max (dpts a) (dpts b)
  | [], b => by simp [dpts]
  | x :: a, b => by simp only [List.cons_append, dpts, dpts_app a b]; omega
theorem oks_app : ∀ {a b : List Rt}, RtOks a → RtOks b → RtOks (a ++ b)
  | [], b, _, h => h
  | x :: a, b, h, g => by simp only [List.cons_append, RtOks]; exact ⟨h.1, oks_app h.2 g⟩
def fTree (t f : Nat) : Fn := ⟨7, 4,
    (.cons (.asg (.n [4]) (.bin .add (.c (.int 2)) (.call t (.app []) (.cons (.v 0) (.cons (.c (.int 4)) .nil)))))
    (.cons (.ite (.or (.cmp .eq (.v 1) (.c (.int 1))) (.or (.cmp .lt (.ix (.v 3) (.c (.int 0))) (.bin .sub (.v 4) (.c (.int 1)))) (.cmp .lt (.call t (.app []) (.cons (.v 0) (.cons (.c (.int 5)) .nil))) (.c (.int 2)))))
    (.cons (.ret (.tup (.cons (.c (.str "one")) (.cons (.ix (.v 2) (.call t (.app []) (.cons (.v 0) (.cons (.b1 .len (.v 2)) .nil)))) .nil))))
    .nil)
    .nil)
    (.cons (.augI .sub (.v 3) (.c (.int 0)) (.bin .sub (.v 4) (.c (.int 1))))
    (.cons (.asg (.n [5]) (.b1 .tuple (.lc (.call f (.app []) (.cons (.v 0) (.cons (.bin .sub (.v 1) (.c (.int 1))) (.cons (.v 2) (.cons (.v 3) .nil))))) [6] [6] (.rng (.v 4)) (.c (.bl true)))))
    (.cons (.ret (.tup (.cons (.c (.str "turns")) (.cons (.call t (.app []) (.cons (.v 0) (.cons (.v 4) .nil))) (.cons (.v 5) .nil)))))
    .nil)))))⟩
/-- all but b and r stays -/
def Keep2 (b r : Addr) (S S' : Sta) : Prop := ∀ a o, a ≠ b → a ≠ r → S a = some o → S' a = some o
theorem Keep2.trans {b r : Addr} {S S1 S2 : Sta} (h : Keep2 b r S S1) (g : Keep2 b r S1 S2) : Keep2 b r S S2 := fun a o n m e => g a o n m (h a o n m e)
theorem Keep.two {b r : Addr} {S S' : Sta} (h : Keep b S S') : Keep2 b r S S' := fun a o n _ e => h a o n e
theorem ixN_10 : L2.ixN 1 0 = some 0 := by decide
theorem Box.room {b r : Addr} {S : Sta} {v : Int} (x : Box b S) (n : r ≠ b) : Box b (ups S r (.lst [.int v])) := by
  obtain ⟨q, ns, i, r', s, e1, e2, y0, y1, y2, y3⟩ := x
  by_cases h : q = r
  · exact ⟨q, [v], i, r', s, by rw [ups_ne (Ne.symm n)]; exact e1, by rw [h]; exact ups_same, y0, y1, y2, y3⟩
  · exact ⟨q, ns, i, r', s, by rw [ups_ne (Ne.symm n)]; exact e1, by rw [ups_ne h]; exact e2, y0, y1, y2, y3⟩
theorem tree_ok {P : Prg} {t f : Nat} {b pp rm : Addr} {ws : List Str} (ht : P t = some fTake) (hf : P f = some (fTree t f)) (hw0 : 0 < ws.length) (hw1 : ws.length ≤ 7) (hw : ∀ s ∈ ws, NameOk s) (n1 : pp ≠ b) (n2 : rm ≠ b) (n3 : pp ≠ rm) :
    ∀ (d n : Nat) (S : Sta) (r : Int) (Q X : K), 1 ≤ d → d ≤ 100 → d < n → Box b S → S pp = some (.lst (ws.map D.str)) → S rm = some (.lst [.int r]) → 0 ≤ r → r < 1000 →
    (∀ (T : Rt) (r' : Int) (S' : Sta), RtOk T → dpt T ≤ d → 0 ≤ r' → (lv T : Int) + r' = 1 + r → Box b S' → S' rm = some (.lst [.int r']) → Keep2 b rm S S' → Q (toD T) S') →
    callW P n f [.ref b, .int d, .ref pp, .ref rm] S Q X
  | 0, _, _, _, _, _, h, _, _, _, _, _, _, _, _ => absurd h (by omega)
  | d + 1, 0, _, _, _, _, _, _, h, _, _, _, _, _, _ => absurd h (by omega)
  | d + 1, 1, _, _, _, _, _, _, h, _, _, _, _, _, _ => absurd h (by omega)
  | d + 1, n + 2, S, r, Q, X, _, hd, hn, hb, hp, hr, r0, r1, q => by
    refine callW_of hf rfl ?_
    simp [fTree, wB, wS, wE, wEs, wIt, wTg, place]
    refine take_ok ht hb (by decide) (by decide) fun v S1 g1 g2 b1 k1 => ?_
    have hp1 := k1 _ _ n1 hp
    have hr1 := k1 _ _ n2 hr
    have leaf : ∀ S2, Box b S2 → Keep b S S2 → callW P (n + 1) t [.ref b, .int ws.length] S2
        (fun y S2 => ixO (S2 pp) y S2 fun x S1 => 2 ≤ sizeLine ∧ Q1 Q (.tup [.str (Str.ofString "one"), x]) S1) (fun x S' => Q1 X x S') := fun S2 b2 k2 => by
      refine take_ok ht b2 (by omega) (by omega) fun v S3 g1 g2 b3 k3 => ?_
      have hp3 := k3 _ _ n1 (k2 _ _ n1 hp)
      have hr3 := k3 _ _ n2 (k2 _ _ n2 hr)
      have hv : v.toNat < ws.length := by omega
      simp [hp3]
      refine ⟨.str ws[v.toNat], at_pos g1 (by simp [hv]), line4 (by decide), q1_of ?_⟩
      exact q (.one ws[v.toNat]) r S3 (hw _ (List.getElem_mem hv)) (by simp [dpt]) r0 (by simp [lv]) b3 hr3 (k2.trans k3).two
    have big : ∀ S2, Box b S2 → Keep b S S2 → ¬ d = 0 → ¬ r < 2 + v - 1 →
        wcomp [] (fun x S2 R => callW P (n + 1) f [.ref b, .int d, .ref pp, .ref rm] S2 (fun d S4 => R (some d) S4) fun x x_1 => False)
          (List.map (fun i => D.int ((i : Nat) : Int)) (List.range (2 + v).toNat)) [] (ups S2 rm (.lst [.int (r - (2 + v - 1))])) fun ds S5 =>
          ∀ (p : Addr), S5 p = none → callW P (n + 1) t [.ref b, .int (2 + v)] (ups S5 p (.lst ds))
            (fun x S1 => 3 ≤ sizeLine ∧ Q1 Q (.tup [.str (Str.ofString "turns"), x, .tup ds]) S1) fun x S' => Q1 X x S' := fun S2 b2 k2 d0 hge => by
      have hm : (2 + v).toNat ≤ 5 := by omega
      refine wcomp_nat _ (by simp; omega) (fun i acc S3 => ∃ (ts : List Rt) (r' : Int), acc = toDs ts ∧ ts.length = i ∧ RtOks ts ∧ dpts ts ≤ d ∧ 0 ≤ r' ∧ (lvs ts : Int) + r' = i + (r - (2 + v - 1)) ∧ Box b S3 ∧ S3 rm = some (.lst [.int r']) ∧ Keep2 b rm S S3)
        ⟨[], r - (2 + v - 1), rfl, rfl, trivial, by simp [dpts], by omega, by simp [lvs], b2.room n2, ups_same, fun a o na nr e => by rw [ups_ne nr]; exact k2 a o na e⟩ (fun _ _ _ _ => held_nil) (fun i acc S3 ⟨ts, _, e, l, _⟩ => by rw [e, toDs_len, l]; exact Nat.le_refl _) (fun i x acc S3 R hx ⟨ts, r', e, l, o, dp, r0', hs, b3, hr3, k3⟩ hres _ => ?_) fun acc S3 ⟨ts, r', e, l, o, dp, r0', hs, b3, hr3, k3⟩ p hp' => ?_
      · obtain ⟨hi, rfl⟩ := range_at hx
        refine tree_ok ht hf hw0 hw1 hw n1 n2 n3 d (n + 1) S3 r' _ _ (by omega) (by omega) (by omega) b3 (k3 _ _ n1 n3 hp) hr3 r0' (by omega) fun T r2 S4 ok1 dp1 r20 hl b4 hr4 k4 => ?_
        refine hres _ _ ⟨ts ++ [T], r2, by rw [e, toDs_app]; rfl, by simp [l], oks_app o ⟨ok1, trivial⟩, by rw [dpts_app]; simp only [dpts]; omega, r20, ?_, b4, hr4, k3.trans k4⟩
        rw [lvs_app]
        simp only [lvs]
        push_cast
        omega
      · simp at l
        have hpr : p ≠ rm := by rintro rfl; rw [hr3] at hp'; cases hp'
        refine take_ok ht (b3.sub (Sub.new hp')) (by omega) (by omega) fun k S5 g5 g6 b5 k5 => ⟨line4 (by decide), q1_of ?_⟩
        have hk : ((k.toNat : Nat) : Int) = k := by omega
        have hr5 := k5 _ _ n2 (Sub.new hp' _ _ hr3)
        have kk : Keep2 b rm S S5 := k3.trans fun a o na nr e => k5 a o na (Sub.new hp' _ _ e)
        have := q (.turns k.toNat ts) r' S5 ⟨by omega, by omega, by omega, o⟩ (by simp only [dpt]; omega) r0' (by simp only [lv]; simp at hs; omega) b5 hr5 kk
        rw [e]
        simp only [toD, hk] at this
        exact this
    simp [hr1, hp1, ixN_10]
    have b62 : -4611686018427387904 ≤ 2 + v ∧ 2 + v < 4611686018427387904 := by omega
    split
    · exact leaf S1 b1 k1
    · split
      · exact leaf S1 b1 k1
      · refine take_ok ht b1 (by decide) (by decide) fun v5 S2 g3 g4 b2 k2 => ?_
        have hp2 := k2 _ _ n1 hp1
        have hr2 := k2 _ _ n2 hr1
        simp [hr2, hp2, ixN_10]
        split
        · exact leaf S2 b2 (k1.trans k2)
        · exact ⟨b62.1, b62.2, big S2 b2 (k1.trans k2) (by omega) (by assumption)⟩
end A
end
section
set_option Elab.async false
set_option linter.all false
set_option maxRecDepth 100000
set_option maxHeartbeats 4000000
/-! W5: a drawn right. -/
namespace A
open PySem L2
def fRight (t f : Nat) : Fn := ⟨7, 2,
    (.cons (.asg (.n [2]) (.call t (.app []) (.cons (.v 0) (.cons (.c (.int 4)) .nil))))
    (.cons (.ite (.cmp .eq (.v 2) (.c (.int 0)))
    (.cons (.ret (.call f (.app []) (.cons (.v 0) (.cons (.c (.int 4)) (.cons (.v 1) (.cons (.lst (.cons (.c (.int 23)) .nil)) .nil))))))
    .nil)
    .nil)
    (.cons (.asg (.n [3]) (.bin .add (.c (.int 2)) (.call t (.app []) (.cons (.v 0) (.cons (.c (.int 4)) .nil)))))
    (.cons (.asg (.n [4]) (.lst (.cons (.bin .sub (.c (.int 24)) (.v 3)) .nil)))
    (.cons (.asg (.n [5]) (.b1 .tuple (.lc (.call f (.app []) (.cons (.v 0) (.cons (.v 2) (.cons (.v 1) (.cons (.v 4) .nil))))) [6] [6] (.rng (.v 3)) (.c (.bl true)))))
    (.cons (.ret (.tup (.cons (.c (.str "turns")) (.cons (.call t (.app []) (.cons (.v 0) (.cons (.v 3) .nil))) (.cons (.v 5) .nil)))))
    .nil))))))⟩
theorem right_ok {P : Prg} {n t f g : Nat} {b pp : Addr} {ws : List Str} {S : Sta} {Q X : K} (ht : P t = some fTake) (hf : P f = some (fTree t f)) (h : P g = some (fRight t f)) (hw0 : 0 < ws.length) (hw1 : ws.length ≤ 7) (hw : ∀ s ∈ ws, NameOk s) (n1 : pp ≠ b)
    (hb : Box b S) (hp : S pp = some (.lst (ws.map D.str))) (q : ∀ (T : Rt) (S' : Sta), RtOk T → dpt T ≤ 4 → lv T ≤ 24 → Box b S' → Keep b S S' → Q (toD T) S') : callW P (n + 6) g [.ref b, .ref pp] S Q X := by
  refine callW_of h rfl ?_
  simp [fRight, wB, wS, wE, wEs, wIt, wTg, place]
  refine take_ok ht hb (by decide) (by decide) fun v S1 g1 g2 b1 k1 => ?_
  have hp1 := k1 _ _ n1 hp
  simp
  have drop : ∀ {rm : Addr} {S2 S3 : Sta}, S1 rm = none → Keep b S1 S2 → S2 rm = none → Keep2 b rm S2 S3 → Keep b S S3 := fun {rm S2 S3} e1 k2 e2 k3 a o na e => k3 a o na (sne (k2 a o na (k1 a o na e)) e2) (k2 a o na (k1 a o na e))
  split
  · refine ⟨line4 (by decide), fun rm hrm => ?_⟩
    have n3 : pp ≠ rm := sne hp1 hrm
    have k0 : Keep b S (ups S1 rm (.lst [.int 23])) := k1.trans (Keep.new hrm)
    refine tree_ok ht hf hw0 hw1 hw n1 (b1.at hrm) n3 4 (n + 5) _ 23 _ _ (by decide) (by decide) (by omega) (b1.sub (Sub.new hrm)) (k0 _ _ n1 hp) ups_same (by decide) (by decide) fun T r' S' ok dp r0 hl b2 _ k2 => q1_of (q T S' ok dp (by omega) b2 ?_)
    intro a o na e
    exact k2 a o na (sne (k1 a o na e) hrm) (k0 a o na e)
  · refine take_ok ht b1 (by decide) (by decide) fun v2 S2 g3 g4 b2 k2 => ?_
    have hp2 := k2 _ _ n1 hp1
    simp
    refine ⟨line4 (by decide), fun rm hrm => ?_⟩
    have n3 : pp ≠ rm := sne hp2 hrm
    have n2 := b2.at hrm
    have k0 : Keep b S (ups S2 rm (.lst [.int (24 - (2 + v2))])) := (k1.trans k2).trans (Keep.new hrm)
    have hm : (2 + v2).toNat ≤ 5 := by omega
    refine ⟨by omega, by omega, ?_⟩
    refine wcomp_nat _ (by simp; omega) (fun i acc S3 => ∃ (ts : List Rt) (r' : Int), acc = toDs ts ∧ ts.length = i ∧ RtOks ts ∧ dpts ts ≤ 3 ∧ 0 ≤ r' ∧ (lvs ts : Int) + r' = i + (24 - (2 + v2)) ∧ Box b S3 ∧ S3 rm = some (.lst [.int r']) ∧ Keep2 b rm (ups S2 rm (.lst [.int (24 - (2 + v2))])) S3)
      ⟨[], 24 - (2 + v2), rfl, rfl, trivial, by simp [dpts], by omega, by simp [lvs], b2.sub (Sub.new hrm), ups_same, fun a o _ _ e => e⟩ (fun _ _ _ _ => held_nil) (fun i acc S3 ⟨ts, _, e, l, _⟩ => by rw [e, toDs_len, l]; exact Nat.le_refl _) (fun i x acc S3 R hx ⟨ts, r', e, l, o, dp, r0', hs, b3, hr3, k3⟩ hres _ => ?_) fun acc S3 ⟨ts, r', e, l, o, dp, r0', hs, b3, hr3, k3⟩ p hp' => ?_
    · obtain ⟨hi, rfl⟩ := range_at hx
      have ev : ((v.toNat : Nat) : Int) = v := by omega
      rw [← ev]
      refine tree_ok ht hf hw0 hw1 hw n1 n2 n3 v.toNat (n + 5) S3 r' _ _ (by omega) (by omega) (by omega) b3 (k3 _ _ n1 n3 (k0 _ _ n1 hp)) hr3 r0' (by omega) fun T r2 S4 ok1 dp1 r20 hl b4 hr4 k4 => ?_
      refine hres _ _ ⟨ts ++ [T], r2, by rw [e, toDs_app]; rfl, by simp [l], oks_app o ⟨ok1, trivial⟩, by rw [dpts_app]; simp only [dpts]; omega, r20, ?_, b4, hr4, k3.trans k4⟩
      rw [lvs_app]
      simp only [lvs]
      push_cast
      omega
    · simp at l hs
      have hpr : p ≠ rm := by rintro rfl; rw [hr3] at hp'; cases hp'
      refine take_ok ht (b3.sub (Sub.new hp')) (by omega) (by omega) fun k S5 g5 g6 b5 k5 => ⟨line4 (by decide), q1_of ?_⟩
      have hk : ((k.toNat : Nat) : Int) = k := by omega
      have kk : Keep b S S5 := fun a o na e => k5 a o na (Sub.new hp' _ _ (k3 a o na (sne ((k1.trans k2) a o na e) hrm) (k0 a o na e)))
      have := q (.turns k.toNat ts) S5 ⟨by omega, by omega, by omega, o⟩ (by simp only [dpt]; omega) (by simp only [lv]; omega) b5 kk
      rw [e]
      simp only [toD, hk] at this
      exact this
end A
end
section
set_option Elab.async false
set_option linter.all false
set_option maxRecDepth 100000
namespace A
open PySem
theorem div_uniq {m x q : Int} (hm : 0 < m) (h1 : m * q ≤ x) (h2 : x < m * q + m) : x / m = q :=
  ((Int.ediv_emod_unique (a := x) (b := m) (r := x - m * q) (q := q) hm).mpr ⟨by omega, by omega, by omega⟩).1
theorem div_bd {m x : Int} (hm : 0 < m) : m * (x / m) ≤ x ∧ x < m * (x / m) + m := by
  have h1 := Int.mul_ediv_add_emod x m
  have h2 := Int.emod_nonneg x (by omega : m ≠ 0)
  have h3 := Int.emod_lt_of_pos x hm
  omega
def vis (n l m : Int) : Int := (n - l + m - 1) / m
theorem vis_bd {n l m : Int} (hm : 0 < m) : m * vis n l m - m < n - l ∧ n - l ≤ m * vis n l m := by
  have := div_bd (x := n - l + m - 1) hm
  unfold vis; omega
theorem vis_uniq {n l m q : Int} (hm : 0 < m) (h1 : m * q - m < n - l) (h2 : n - l ≤ m * q) : vis n l m = q := by
  unfold vis; exact div_uniq hm (by omega) (by omega)
theorem mod_bd (x : Int) {m : Int} (hm : 0 < m) : 0 ≤ x % m ∧ x % m < m := ⟨Int.emod_nonneg x (by omega), Int.emod_lt_of_pos x hm⟩
theorem mod_uniq {m x r q : Int} (hm : 0 < m) (h : x = m * q + r) (h1 : 0 ≤ r) (h2 : r < m) : x % m = r :=
  ((Int.ediv_emod_unique (a := x) (b := m) (r := r) (q := q) hm).mpr ⟨by omega, h1, h2⟩).2
/-- turns of a part, ahead and behind -/
theorem vis_later {a l m c : Int} (hm : 0 < m) (hl : l = c % m) : (c - a) % m = l - a + m * vis a l m := by
  have h1 := vis_bd (n := a) (l := l) hm
  have h2 := Int.mul_ediv_add_emod c m
  exact mod_uniq (q := c / m - vis a l m) hm (by rw [Int.mul_sub]; omega) (by omega) (by omega)
theorem vis_add {a b l m c : Int} (hm : 0 < m) (hl : l = c % m) : vis (a + b) l m = vis a l m + vis b ((c - a) % m) m := by
  rw [vis_later hm hl]
  have h1 := vis_bd (n := a) (l := l) hm
  have h2 := vis_bd (n := b) (l := l - a + m * vis a l m) hm
  refine vis_uniq hm ?_ ?_
  · rw [Int.mul_add]; omega
  · rw [Int.mul_add]; omega
theorem mod_sub_mod (x y m : Int) : (x - y % m) % m = (x - y) % m := by
  rw [Int.sub_emod, Int.emod_emod_of_dvd _ (Int.dvd_refl m), ← Int.sub_emod]
theorem mod_add_mod (x y m : Int) : (x + y % m) % m = (x + y) % m := by
  rw [Int.add_emod, Int.emod_emod_of_dvd _ (Int.dvd_refl m), ← Int.add_emod]
theorem mod_mod_add (x y m : Int) : (x % m + y) % m = (x + y) % m := by
  rw [Int.add_emod, Int.emod_emod_of_dvd _ (Int.dvd_refl m), ← Int.add_emod]

theorem Rt.ind {P : Rt → Prop} (h1 : ∀ s, P (.one s)) (h2 : ∀ k ps, (∀ p ∈ ps, P p) → P (.turns k ps)) : ∀ r, P r :=
  fun r => Rt.rec (motive_1 := P) (motive_2 := fun ps => ∀ p ∈ ps, P p) h1 (fun k ps ih => h2 k ps ih) (fun _ h => nomatch h) (fun p ps ih1 ih2 q hq => by
    rcases List.mem_cons.mp hq with rfl | hq
    · exact ih1
    · exact ih2 q hq) r
/-- next is one of the parts, two to five -/
inductive Rg : Rt → Prop where
  | one (s) : Rg (.one s)
  | turns (k ps) : 2 ≤ ps.length → ps.length ≤ 5 → k < ps.length → (∀ p ∈ ps, Rg p) → Rg (.turns k ps)

mutual
def due : Rt → Int → Str
  | .one s, _ => s
  | .turns k ps, n => dueL ps ((k + n) % ps.length).toNat ((n - ((k + n) % ps.length - k) % ps.length) / ps.length)
def dueL : List Rt → Nat → Int → Str
  | [], _, _ => default
  | p :: _, 0, n => due p n
  | _ :: r, i + 1, n => dueL r i n
end
theorem dueL_at : ∀ {ps : List Rt} {i : Nat} {p : Rt} (n : Int), ps[i]? = some p → dueL ps i n = due p n
  | [], _, _, _, h => by simp at h
  | x :: r, 0, p, n, h => by simp at h; subst h; rfl
  | x :: r, i + 1, p, n, h => by simp only [dueL]; exact dueL_at n (by simpa using h)
mutual
def beh : Rt → Int → Rt
  | .one s, _ => .one s
  | .turns k ps, n => .turns ((k + n) % ps.length).toNat (behL k ps.length 0 ps n)
def behL (k m : Nat) : Nat → List Rt → Int → List Rt
  | _, [], _ => []
  | i, p :: r, n => beh p (vis n (((i : Int) - k) % m) m) :: behL k m (i + 1) r n
end
theorem behL_len (k m : Nat) : ∀ (ps : List Rt) (i : Nat) (n : Int), (behL k m i ps n).length = ps.length
  | [], _, _ => rfl
  | p :: r, i, n => by simp only [behL, List.length_cons, behL_len k m r]
theorem behL_get (k m : Nat) : ∀ (ps : List Rt) (i j : Nat) (n : Int), (behL k m i ps n)[j]? = ps[j]?.map fun p => beh p (vis n ((((i + j : Nat) : Int) - k) % m) m)
  | [], _, _, _ => by simp [behL]
  | p :: r, i, 0, n => by simp [behL]
  | p :: r, i, j + 1, n => by
    simp only [behL, List.getElem?_cons_succ]
    rw [behL_get k m r (i + 1) j n]
    have : i + 1 + j = i + (j + 1) := by omega
    rw [this]
end A
end
section
set_option Elab.async false
set_option linter.all false
set_option maxRecDepth 100000
namespace A
open PySem
theorem Rg.len {k : Nat} {ps : List Rt} (h : Rg (.turns k ps)) : 2 ≤ ps.length ∧ ps.length ≤ 5 ∧ k < ps.length ∧ ∀ p ∈ ps, Rg p := by
  cases h with
  | turns _ _ h1 h2 h3 h4 => exact ⟨h1, h2, h3, h4⟩
theorem beh_get {k : Nat} {ps : List Rt} {j : Nat} {p : Rt} {n : Int} (h : ps[j]? = some p) : (behL k ps.length 0 ps n)[j]? = some (beh p (vis n (((j : Int) - k) % ps.length) ps.length)) := by
  rw [behL_get, h]
  simp
theorem rg_beh : ∀ r : Rt, Rg r → ∀ n, Rg (beh r n) := by
  refine Rt.ind (fun s _ n => .one s) fun k ps ih h n => ?_
  obtain ⟨h1, h2, h3, h4⟩ := h.len
  have hm : (0 : Int) < ps.length := by omega
  have := mod_bd (k + n) hm
  refine .turns _ _ (by rw [behL_len]; exact h1) (by rw [behL_len]; exact h2) (by rw [behL_len]; omega) fun p hp => ?_
  obtain ⟨j, hj⟩ := List.getElem?_of_mem hp
  rw [behL_get] at hj
  obtain ⟨q, hq, rfl⟩ := Option.map_eq_some_iff.mp hj
  exact ih q (List.mem_of_getElem? hq) (h4 q (List.mem_of_getElem? hq)) _
theorem list_ext_get {α : Type} {a b : List α} (hl : a.length = b.length) (h : ∀ (j : Nat) (x : α), b[j]? = some x → a[j]? = some x) : a = b := by
  refine List.ext_getElem? fun j => ?_
  cases e : b[j]? with
  | some x => exact h j x e
  | none => rw [List.getElem?_eq_none_iff] at e ⊢; omega
theorem beh_add : ∀ r : Rt, Rg r → ∀ a b, beh (beh r a) b = beh r (a + b) := by
  refine Rt.ind (fun s _ a b => rfl) fun k ps ih h a b => ?_
  obtain ⟨h1, h2, h3, h4⟩ := h.len
  have hm : (0 : Int) < ps.length := by omega
  have hk := mod_bd ((k : Int) + a) hm
  have e1 : ((((k : Int) + a) % ps.length).toNat : Int) = ((k : Int) + a) % ps.length := by omega
  simp only [beh, behL_len]
  rw [e1, mod_mod_add, Int.add_assoc]
  congr 1
  refine list_ext_get (by rw [behL_len, behL_len, behL_len]) fun j x hx => ?_
  rw [behL_get] at hx
  obtain ⟨p, hp, rfl⟩ := Option.map_eq_some_iff.mp hx
  rw [behL_get, behL_get, hp]
  simp only [Option.map_some, Nat.zero_add, e1]
  rw [ih p (List.mem_of_getElem? hp) (h4 p (List.mem_of_getElem? hp))]
  congr 2
  rw [vis_add (c := (j : Int) - k) hm rfl, mod_sub_mod]
  have : (j : Int) - (k + a) = j - k - a := by omega
  rw [this]
theorem due_at {k : Nat} {ps : List Rt} {p : Rt} {n : Int} (h : ps[((k + n) % (ps.length : Int)).toNat]? = some p) : due (.turns k ps) n = due p ((n - ((k + n) % ps.length - k) % ps.length) / ps.length) := by
  simp only [due]
  exact dueL_at _ h
theorem part_at {k : Nat} {ps : List Rt} (h1 : 0 < ps.length) (n : Int) : ∃ p, ps[((k + n) % (ps.length : Int)).toNat]? = some p := by
  have := mod_bd ((k : Int) + n) (m := ps.length) (by omega)
  exact ⟨_, List.getElem?_eq_getElem (by omega)⟩
/-- the turn of a part at place j, d turns on: its k-th one -/
theorem due_turn {k : Nat} {ps : List Rt} {j : Nat} {p : Rt} (h : ps[j]? = some p) (t : Int) : due (.turns k ps) (((j : Int) - k) % ps.length + ps.length * t) = due p t := by
  have hj : j < ps.length := (List.getElem?_eq_some_iff.mp h).1
  have hm : (0 : Int) < ps.length := by omega
  have hl := mod_bd ((j : Int) - k) hm
  have e : ((k : Int) + (((j : Int) - k) % ps.length + ps.length * t)) % ps.length = j := by
    rw [← Int.add_assoc, Int.add_mul_emod_self_left, mod_add_mod]
    have : (k : Int) + (j - k) = j := by omega
    rw [this]
    exact Int.emod_eq_of_lt (by omega) (by omega)
  rw [due_at (p := p) (by rw [e]; simpa using h), e]
  congr 1
  refine div_uniq hm ?_ ?_ <;> omega
/-- each number is a turn of some part -/
theorem turn_split {k m : Nat} (hm : 0 < m) (n : Int) : ∃ (j : Nat) (t : Int), j < m ∧ ((j : Int) - k) % m + m * t = n ∧ t = vis n (((j : Int) - k) % m) m := by
  have h := mod_bd ((k : Int) + n) (m := m) (by omega)
  have e : (((((k : Int) + n) % m).toNat : Nat) : Int) = ((k : Int) + n) % m := by omega
  have hl := mod_bd (((k : Int) + n) % m - k) (m := m) (by omega)
  have el : (((k : Int) + n) % m - k) % m = n % m := by
    have : ((k : Int) + n) % m - k = (k + n) % m + (-k) := by omega
    rw [this, mod_mod_add]
    congr 1; omega
  have h2 := Int.mul_ediv_add_emod n m
  have h3 := mod_bd n (m := m) (by omega)
  refine ⟨(((k : Int) + n) % m).toNat, n / m, by omega, ?_, ?_⟩
  · rw [e, el]; omega
  · rw [e, el]
    exact (vis_uniq (by omega) (by omega) (by omega)).symm
theorem due_beh : ∀ r : Rt, Rg r → ∀ a n, due (beh r a) n = due r (a + n) := by
  refine Rt.ind (fun s _ a b => rfl) fun k ps ih h a n => ?_
  obtain ⟨h1, h2, h3, h4⟩ := h.len
  have hm : (0 : Int) < ps.length := by omega
  have hk := mod_bd ((k : Int) + a) hm
  obtain ⟨j, t, hj, ht, _⟩ := turn_split (k := (((k : Int) + a) % ps.length).toNat) (m := ps.length) (by omega) n
  have e1 : ((((k : Int) + a) % ps.length).toNat : Int) = ((k : Int) + a) % ps.length := by omega
  have hp : ps[j]? = some ps[j] := List.getElem?_eq_getElem hj
  have hb := beh_get (k := k) (n := a) hp
  have d1 := due_turn (k := (((k : Int) + a) % ps.length).toNat) (ps := behL k ps.length 0 ps a) hb t
  rw [behL_len, ht] at d1
  simp only [beh]
  rw [d1, ih _ (List.mem_of_getElem? hp) (h4 _ (List.mem_of_getElem? hp)), ← due_turn (k := k) hp]
  congr 1
  rw [e1, mod_sub_mod] at ht
  have e2 : (j : Int) - (k + a) = j - k - a := by omega
  rw [e2, vis_later (a := a) hm rfl] at ht
  rw [Int.mul_add]
  omega
theorem vis_zero {l m : Int} (h0 : 0 ≤ l) (h1 : l < m) : vis 0 l m = 0 := vis_uniq (by omega) (by omega) (by omega)
theorem beh_zero : ∀ r : Rt, Rg r → beh r 0 = r := by
  refine Rt.ind (fun s _ => rfl) fun k ps ih h => ?_
  obtain ⟨h1, h2, h3, h4⟩ := h.len
  have hm : (0 : Int) < ps.length := by omega
  simp only [beh, Int.add_zero]
  have e : (k : Int) % ps.length = k := Int.emod_eq_of_lt (by omega) (by omega)
  rw [e]
  congr 1
  refine list_ext_get (behL_len ..) fun j x hx => ?_
  rw [beh_get hx]
  have := mod_bd ((j : Int) - k) hm
  rw [vis_zero this.1 this.2, ih x (List.mem_of_getElem? hx) (h4 x (List.mem_of_getElem? hx))]
end A
end
section
set_option Elab.async false
set_option linter.all false
set_option maxRecDepth 100000
namespace A
open PySem
theorem due_zero {k : Nat} {ps : List Rt} {p : Rt} (h : ps[k]? = some p) : due (.turns k ps) 0 = due p 0 := by
  have := due_turn (k := k) h 0
  rw [Int.sub_self, Int.zero_emod, Int.mul_zero, Int.add_zero] at this
  exact this
theorem nat_mod {a m : Nat} : (((a : Int)) % (m : Int)).toNat = a % m := by omega
theorem vis_one {l m : Int} (h0 : 0 < l) (h1 : l < m) : vis 1 l m = 0 := vis_uniq (by omega) (by omega) (by omega)
theorem vis_one0 {m : Int} (h1 : 0 < m) : vis 1 0 m = 1 := vis_uniq (by omega) (by omega) (by omega)
/-- a place's lateness tells the place -/
theorem lat_cases {j k m : Int} (hm : 0 < m) (hj : j < m) (h0 : 0 ≤ j) (hk : k < m) (k0 : 0 ≤ k) : (j - k) % m = j - k ∧ k ≤ j ∨ (j - k) % m = j - k + m ∧ j < k := by
  by_cases h : k ≤ j
  · exact .inl ⟨Int.emod_eq_of_lt (by omega) (by omega), h⟩
  · exact .inr ⟨mod_uniq (q := -1) hm (by omega) (by omega) (by omega), by omega⟩
theorem lat_inj {j k m : Nat} (hm : (0 : Int) < m) (hj : j < m) (hk : k < m) (z : ((j : Int) - k) % m = 0) : j = k := by
  rcases lat_cases (j := j) (k := k) hm (by omega) (by omega) (by omega) (by omega) with ⟨e, _⟩ | ⟨e, _⟩ <;> omega
theorem back_cases {k m : Nat} (hm : (0 : Int) < m) (hk : k < m) : (((k : Int) - 1) % m = k - 1 ∧ 0 < k) ∨ (((k : Int) - 1) % m = m - 1 ∧ k = 0) := by
  by_cases h : k = 0
  · exact .inr ⟨mod_uniq (q := -1) hm (by omega) (by omega) (by omega), h⟩
  · exact .inl ⟨Int.emod_eq_of_lt (by omega) (by omega), by omega⟩
theorem lat_back {k m : Nat} (hm : (0 : Int) < m) (hk : k < m) : (((k : Int) - 1) % m - k) % m = m - 1 := by
  rcases back_cases hm hk with ⟨e, _⟩ | ⟨e, _⟩ <;> rw [e]
  · exact mod_uniq (q := -1) hm (by omega) (by omega) (by omega)
  · exact Int.emod_eq_of_lt (by omega) (by omega) |>.trans (by omega)
theorem lat_last {j k m : Nat} (hm : (0 : Int) < m) (hj : j < m) (hk : k < m) (z : ((j : Int) - k) % m = m - 1) : j = (((k : Int) - 1) % m).toNat := by
  rcases lat_cases (j := j) (k := k) hm (by omega) (by omega) (by omega) (by omega) with ⟨e, _⟩ | ⟨e, _⟩ <;> rcases back_cases hm hk with ⟨e', _⟩ | ⟨e', _⟩ <;> omega
/-- one turn -/
theorem beh_one {k : Nat} {ps : List Rt} {p : Rt} (h : Rg (.turns k ps)) (hp : ps[k]? = some p) : beh (.turns k ps) 1 = .turns ((k + 1) % ps.length) (ps.set k (beh p 1)) := by
  obtain ⟨h1, h2, h3, h4⟩ := h.len
  have hm : (0 : Int) < ps.length := by omega
  simp only [beh]
  have e : (((k : Int) + 1) % ps.length).toNat = (k + 1) % ps.length := by
    have := nat_mod (a := k + 1) (m := ps.length)
    simpa using this
  rw [e]
  congr 1
  refine (list_ext_get (by rw [behL_len, List.length_set]) fun j x hx => ?_).symm
  rw [behL_get] at hx
  obtain ⟨q, hq, rfl⟩ := Option.map_eq_some_iff.mp hx
  have hj : j < ps.length := (List.getElem?_eq_some_iff.mp hq).1
  by_cases e : j = k
  · subst e
    rw [List.getElem?_set_self hj]
    rw [hq] at hp; cases hp
    simp only [Nat.zero_add, Int.sub_self, Int.zero_emod, vis_one0 hm]
  · rw [List.getElem?_set_ne (Ne.symm e), hq]
    simp only [Nat.zero_add]
    have hl := mod_bd ((j : Int) - k) hm
    have h0 : ((j : Int) - k) % ps.length ≠ 0 := fun z => e (lat_inj hm hj h3 z)
    rw [vis_one (by omega) (by omega), beh_zero _ (h4 _ (List.mem_of_getElem? hq))]
/-- one turn back -/
theorem beh_back {k : Nat} {ps : List Rt} {p : Rt} (h : Rg (.turns k ps)) (hp : ps[(((k : Int) - 1) % ps.length).toNat]? = some p) :
    beh (.turns k ps) (-1) = .turns (((k : Int) - 1) % ps.length).toNat (ps.set (((k : Int) - 1) % ps.length).toNat (beh p (-1))) := by
  obtain ⟨h1, h2, h3, h4⟩ := h.len
  have hm : (0 : Int) < ps.length := by omega
  have hk := mod_bd ((k : Int) - 1) hm
  simp only [beh]
  have e0 : (k : Int) + -1 = k - 1 := by omega
  rw [e0]
  congr 1
  refine (list_ext_get (by rw [behL_len, List.length_set]) fun j x hx => ?_).symm
  rw [behL_get] at hx
  obtain ⟨q, hq, rfl⟩ := Option.map_eq_some_iff.mp hx
  have hj : j < ps.length := (List.getElem?_eq_some_iff.mp hq).1
  have hl := mod_bd ((j : Int) - k) hm
  by_cases e : j = (((k : Int) - 1) % ps.length).toNat
  · subst e
    rw [List.getElem?_set_self hj]
    rw [hq] at hp; cases hp
    simp only [Nat.zero_add]
    have e2 : (((((k : Int) - 1) % ps.length).toNat : Int) - k) % ps.length = ps.length - 1 := by
      rw [Int.toNat_of_nonneg hk.1]; exact lat_back hm h3
    rw [e2, vis_uniq (q := -1) hm (by omega) (by omega)]
  · rw [List.getElem?_set_ne (Ne.symm e), hq]
    simp only [Nat.zero_add]
    have h0 : ((j : Int) - k) % ps.length ≠ ps.length - 1 := fun z => e (lat_last hm hj h3 z)
    rw [vis_uniq (q := 0) hm (by omega) (by omega), beh_zero _ (h4 _ (List.mem_of_getElem? hq))]

/-! ### rounds -/
mutual
def rnd : Rt → Nat
  | .one _ => 1
  | .turns _ ps => rndL 1 ps * ps.length
def rndL : Nat → List Rt → Nat
  | a, [] => a
  | a, p :: r => rndL (Nat.lcm a (rnd p)) r
end
theorem rndL_dvd : ∀ (ps : List Rt) (a t : Nat), rndL a ps ∣ t ↔ a ∣ t ∧ ∀ p ∈ ps, rnd p ∣ t
  | [], a, t => by simp [rndL]
  | p :: r, a, t => by
    rw [rndL, rndL_dvd r, Nat.lcm_dvd_iff]
    simp [and_assoc]
theorem rndL_pos : ∀ (ps : List Rt) (a : Nat), 0 < a → (∀ p ∈ ps, 0 < rnd p) → 0 < rndL a ps
  | [], a, h, _ => h
  | p :: r, a, h, g => rndL_pos r _ (Nat.lcm_pos h (g p (by simp))) fun q hq => g q (by simp [hq])
theorem rnd_pos : ∀ r : Rt, Rg r → 0 < rnd r := by
  refine Rt.ind (fun s _ => by simp [rnd]) fun k ps ih h => ?_
  obtain ⟨h1, h2, h3, h4⟩ := h.len
  simp only [rnd]
  exact Nat.mul_pos (rndL_pos ps 1 (by decide) fun p hp => ih p hp (h4 p hp)) (by omega)
theorem vis_mul {l m t : Int} (h0 : 0 ≤ l) (h1 : l < m) : vis (m * t) l m = t := vis_uniq (by omega) (by omega) (by omega)
theorem fix_iff : ∀ r : Rt, Rg r → ∀ n : Int, beh r n = r ↔ (rnd r : Int) ∣ n := by
  refine Rt.ind (fun s _ n => by simp [beh, rnd, Int.one_dvd]) fun k ps ih h n => ?_
  obtain ⟨h1, h2, h3, h4⟩ := h.len
  have hm : (0 : Int) < ps.length := by omega
  have hk := mod_bd ((k : Int) + n) hm
  have key : ∀ t : Int, n = ps.length * t → (beh (.turns k ps) n = .turns k ps ↔ ∀ p ∈ ps, (rnd p : Int) ∣ t) := fun t ht => by
    simp only [beh]
    have e : (((k : Int) + n) % ps.length).toNat = k := by
      rw [ht, Int.add_mul_emod_self_left, Int.emod_eq_of_lt (by omega) (by omega)]; omega
    rw [e]
    constructor
    · intro hh p hp
      injection hh with _ hh
      obtain ⟨j, hj⟩ := List.getElem?_of_mem hp
      have := beh_get (k := k) (n := n) hj
      have hl := mod_bd ((j : Int) - k) hm
      rw [hh, hj, ht, vis_mul hl.1 hl.2] at this
      exact (ih p hp (h4 p hp) t).mp (Option.some.inj this).symm
    · intro hh
      congr 1
      refine list_ext_get (behL_len ..) fun j x hx => ?_
      have hl := mod_bd ((j : Int) - k) hm
      rw [beh_get hx, ht, vis_mul hl.1 hl.2, (ih x (List.mem_of_getElem? hx) (h4 x (List.mem_of_getElem? hx)) t).mpr (hh x (List.mem_of_getElem? hx))]
  have all : ∀ t : Int, (∀ p ∈ ps, (rnd p : Int) ∣ t) ↔ (rndL 1 ps : Int) ∣ t := fun t => by
    have := rndL_dvd ps 1 t.natAbs
    have z : ∀ a : Nat, (a : Int) ∣ t ↔ a ∣ t.natAbs := fun a => by rw [← Int.natAbs_dvd_natAbs]; simp
    rw [z, this]
    constructor
    · intro hh
      exact ⟨Nat.one_dvd _, fun p hp => (z _).mp (hh p hp)⟩
    · rintro ⟨_, hh⟩ p hp
      exact (z _).mpr (hh p hp)
  simp only [rnd]
  constructor
  · intro hh
    have e : ((k : Int) + n) % ps.length = k := by
      have h5 := hh
      simp only [beh] at h5
      injection h5 with h5 _
      omega
    have h6 : n % ps.length = 0 := by
      have h7 := Int.emod_add_emod (k : Int) (ps.length : Int) n
      have h8 : (k : Int) % ps.length = k := Int.emod_eq_of_lt (by omega) (by omega)
      have h9 : ((k : Int) + n - k) % ps.length = 0 := by
        rw [Int.sub_emod, e, h8, Int.sub_self, Int.zero_emod]
      rw [← h9]; congr 1; omega
    obtain ⟨t, ht⟩ := Int.dvd_of_emod_eq_zero h6
    obtain ⟨u, hu⟩ := (all t).mp ((key t ht).mp hh)
    refine ⟨u, ?_⟩
    rw [ht, hu]
    push_cast
    rw [← Int.mul_assoc, Int.mul_comm (ps.length : Int)]
  · rintro ⟨u, hu⟩
    have ht : n = ps.length * (rndL 1 ps * u) := by
      rw [hu]; push_cast
      rw [← Int.mul_assoc, Int.mul_comm (ps.length : Int)]
    exact (key _ ht).mpr ((all _).mpr ⟨u, rfl⟩)
theorem rnd_two {k : Nat} {ps : List Rt} (h : Rg (.turns k ps)) : 2 ∣ rnd (.turns k ps) ∨ 3 ∣ rnd (.turns k ps) ∨ 5 ∣ rnd (.turns k ps) := by
  obtain ⟨h1, h2, h3, h4⟩ := h.len
  simp only [rnd]
  have : ps.length = 2 ∨ ps.length = 3 ∨ ps.length = 4 ∨ ps.length = 5 := by omega
  rcases this with e | e | e | e <;> rw [e]
  · exact .inl (Nat.dvd_mul_left ..)
  · exact .inr (.inl (Nat.dvd_mul_left ..))
  · exact .inl (Nat.dvd_trans (by decide : 2 ∣ 4) (Nat.dvd_mul_left ..))
  · exact .inr (.inr (Nat.dvd_mul_left ..))
theorem due_round {r : Rt} (h : Rg r) {n t : Int} : due r (rnd r * t + n) = due r n := by
  rw [← due_beh r h, (fix_iff r h _).mpr ⟨t, rfl⟩]
end A
end
section
set_option Elab.async false
set_option linter.all false
set_option maxRecDepth 100000
namespace A
open PySem
mutual
def cnt : Rt → Str → Int → Int
  | .one x, s, n => if x = s then n else 0
  | .turns k ps, s, n => cntL k ps.length 0 ps s n
def cntL (k m : Nat) : Nat → List Rt → Str → Int → Int
  | _, [], _, _ => 0
  | i, p :: r, s, n => cnt p s (vis n (((i : Int) - k) % m) m) + cntL k m (i + 1) r s n
end
theorem vis_succ {n l m t : Int} (h0 : 0 ≤ l) (h1 : l < m) (e : l + m * t = n) : vis n l m = t ∧ vis (n + 1) l m = t + 1 :=
  ⟨vis_uniq (by omega) (by omega) (by omega), vis_uniq (by omega) (by rw [Int.mul_add]; omega) (by rw [Int.mul_add]; omega)⟩
theorem vis_same {n l m : Int} (hm : 0 < m) (e : (n - l) % m ≠ 0) : vis (n + 1) l m = vis n l m := by
  have h1 := vis_bd (n := n) (l := l) hm
  refine vis_uniq hm (by omega) ?_
  by_cases h : n - l = m * vis n l m
  · exact absurd (by rw [h]; exact Int.mul_emod_right ..) e
  · omega
theorem cnt_succ : ∀ r : Rt, Rg r → ∀ (s : Str) (n : Int), cnt r s (n + 1) = cnt r s n + if due r n = s then 1 else 0 := by
  refine Rt.ind (fun x _ s n => ?_) fun k ps ih h s n => ?_
  · by_cases e : x = s <;> simp [cnt, due, e]
  · obtain ⟨h1, h2, h3, h4⟩ := h.len
    have hm : (0 : Int) < ps.length := by omega
    obtain ⟨J, t, hJ, ht, _⟩ := turn_split (k := k) (m := ps.length) (by omega) n
    have hp : ps[J]? = some ps[J] := List.getElem?_eq_getElem hJ
    have hd := due_turn (k := k) hp t
    rw [ht] at hd
    have go : ∀ (qs : List Rt) (i : Nat), (∀ p ∈ qs, p ∈ ps) → i + qs.length ≤ ps.length → cntL k ps.length i qs s (n + 1) = cntL k ps.length i qs s n + if J < i then 0 else match qs[J - i]? with
        | some p => if due p t = s then 1 else 0
        | none => 0 := fun qs => by
      induction qs with
      | nil => intro i _ _; simp [cntL]
      | cons p r ihr =>
        intro i hq hl
        simp only [List.length_cons] at hl
        have hr := ihr (i + 1) (fun q hq' => hq q (List.mem_cons_of_mem _ hq')) (by omega)
        have hli := mod_bd ((i : Int) - k) hm
        simp only [cntL]
        rw [hr]
        by_cases e : i = J
        · subst e
          obtain ⟨v1, v2⟩ := vis_succ hli.1 hli.2 ht
          rw [v1, v2, ih p (hq p (by simp)) (h4 p (hq p (by simp)))]
          simp
          omega
        · have v : vis (n + 1) (((i : Int) - k) % ps.length) ps.length = vis n (((i : Int) - k) % ps.length) ps.length := by
            refine vis_same hm fun z => e ?_
            have hlJ := mod_bd ((J : Int) - k) hm
            have z2 : (((J : Int) - k) % ps.length - ((i : Int) - k) % ps.length) % ps.length = 0 := by
              rw [← z, ← ht]
              have : ((J : Int) - k) % ps.length + ps.length * t - ((i : Int) - k) % ps.length = ((J : Int) - k) % ps.length - ((i : Int) - k) % ps.length + ps.length * t := by omega
              rw [this, Int.add_mul_emod_self_left]
            rcases lat_cases (j := i) (k := k) hm (by omega) (by omega) (by omega) (by omega) with ⟨e1, _⟩ | ⟨e1, _⟩ <;>
              rcases lat_cases (j := J) (k := k) hm (by omega) (by omega) (by omega) (by omega) with ⟨e2, _⟩ | ⟨e2, _⟩ <;> rw [e1, e2] at z2 <;>
              obtain ⟨c, hc⟩ := Int.dvd_of_emod_eq_zero z2 <;> rcases Int.lt_trichotomy c 0 with hc0 | hc0 | hc0
            all_goals first
              | (subst hc0; omega)
              | (exfalso
                 have : ps.length * c ≤ ps.length * (-1) := Int.mul_le_mul_of_nonneg_left (by omega) (by omega)
                 omega)
              | (exfalso
                 have : ps.length * 1 ≤ ps.length * c := Int.mul_le_mul_of_nonneg_left (by omega) (by omega)
                 omega)
          rw [v]
          by_cases hlt : J < i
          · rw [if_pos hlt, if_pos (by omega : J < i + 1)]; omega
          · have e2 : J - i = J - (i + 1) + 1 := by omega
            rw [if_neg hlt, if_neg (by omega : ¬ J < i + 1), e2, List.getElem?_cons_succ]; omega
    have := go ps 0 (fun _ h => h) (by omega)
    simp only [cnt]
    rw [this, hd]
    simp [hp]
theorem cnt_many (r : Rt) (h : Rg r) (s : Str) (a : Int) : ∀ n : Nat, cnt r s (a + n) - cnt r s a = ((List.range n).map fun (i : Nat) => due r (a + i)).count s
  | 0 => by simp
  | n + 1 => by
    have ih := cnt_many r h s a n
    rw [List.range_succ, List.map_append, List.count_append]
    have e : a + ((n + 1 : Nat) : Int) = a + n + 1 := by omega
    rw [e, cnt_succ r h]
    simp only [List.map_cons, List.map_nil, List.count_cons, List.count_nil, beq_iff_eq]
    push_cast
    rw [← ih]
    split <;> simp <;> omega
end A
end
section
set_option Elab.async false
set_option linter.all false
set_option maxRecDepth 100000
namespace A
open PySem
def omin : Option Int → Option Int → Option Int
  | none, y => y
  | x, none => x
  | some a, some b => some (min a b)
mutual
def wai : Rt → Str → Int → Option Int
  | .one x, s, n => if x = s then some n else none
  | .turns k ps, s, n => waiL k ps.length 0 ps s n
def waiL (k m : Nat) : Nat → List Rt → Str → Int → Option Int
  | _, [], _, _ => none
  | i, p :: r, s, n => omin ((wai p s (vis n (((i : Int) - k) % m) m)).map fun t => ((i : Int) - k) % m + m * t) (waiL k m (i + 1) r s n)
end
mutual
def nms : Rt → List Str
  | .one x => [x]
  | .turns _ ps => nmsL ps
def nmsL : List Rt → List Str
  | [] => []
  | p :: r => nms p ++ nmsL r
end
theorem mem_nmsL {s : Str} : ∀ {ps : List Rt}, s ∈ nmsL ps ↔ ∃ p ∈ ps, s ∈ nms p
  | [] => by simp [nmsL]
  | p :: r => by simp [nmsL, mem_nmsL]
theorem due_mem : ∀ r : Rt, Rg r → ∀ n, due r n ∈ nms r := by
  refine Rt.ind (fun x _ n => by simp [due, nms]) fun k ps ih h n => ?_
  obtain ⟨h1, h2, h3, h4⟩ := h.len
  obtain ⟨J, t, hJ, ht, _⟩ := turn_split (k := k) (m := ps.length) (by omega) n
  have hp : ps[J]? = some ps[J] := List.getElem?_eq_getElem hJ
  rw [← ht, due_turn (k := k) hp]
  simp only [nms, mem_nmsL]
  exact ⟨_, List.mem_of_getElem? hp, ih _ (List.mem_of_getElem? hp) (h4 _ (List.mem_of_getElem? hp)) t⟩
/-- the least one -/
def Least (P : Int → Prop) (n : Int) : Option Int → Prop
  | none => ∀ y, n ≤ y → ¬ P y
  | some x => n ≤ x ∧ P x ∧ ∀ y, n ≤ y → y < x → ¬ P y
theorem least_omin {P Q R : Int → Prop} {n : Int} {a b : Option Int} (ha : Least P n a) (hb : Least Q n b) (hr : ∀ y, R y ↔ P y ∨ Q y) : Least R n (omin a b) := by
  cases a with
  | none =>
    cases b with
    | none => intro y hy z; rcases (hr y).mp z with z | z; exact ha y hy z; exact hb y hy z
    | some b => exact ⟨hb.1, (hr b).mpr (.inr hb.2.1), fun y h1 h2 z => by rcases (hr y).mp z with z | z; exact ha y h1 z; exact hb.2.2 y h1 h2 z⟩
  | some a =>
    cases b with
    | none => exact ⟨ha.1, (hr a).mpr (.inl ha.2.1), fun y h1 h2 z => by rcases (hr y).mp z with z | z; exact ha.2.2 y h1 h2 z; exact hb y h1 z⟩
    | some b =>
      show n ≤ min a b ∧ R (min a b) ∧ _
      have e : min a b = a ∨ min a b = b := by omega
      refine ⟨?_, ?_, fun y h1 h2 z => ?_⟩
      · have := ha.1; have := hb.1; omega
      · rcases e with e | e <;> rw [e]
        · exact (hr a).mpr (.inl ha.2.1)
        · exact (hr b).mpr (.inr hb.2.1)
      · rcases (hr y).mp z with z | z
        · exact ha.2.2 y h1 (by omega) z
        · exact hb.2.2 y h1 (by omega) z
theorem vis_ge {n l m t : Int} (hm : 0 < m) : vis n l m ≤ t ↔ n ≤ l + m * t := by
  have h := vis_bd (n := n) (l := l) hm
  constructor
  · intro e
    have := Int.mul_le_mul_of_nonneg_left e (Int.le_of_lt hm)
    omega
  · intro e
    by_cases c : vis n l m ≤ t
    · exact c
    · have : m * (t + 1) ≤ m * vis n l m := Int.mul_le_mul_of_nonneg_left (by omega) (Int.le_of_lt hm)
      rw [Int.mul_add] at this
      omega
theorem wai_least : ∀ r : Rt, Rg r → ∀ (s : Str) (n : Int), Least (fun y => due r y = s) n (wai r s n) := by
  refine Rt.ind (fun x _ s n => ?_) fun k ps ih h s n => ?_
  · by_cases e : x = s <;> simp [wai, due, e, Least]
    try (intro y h1 h2; omega)
  · obtain ⟨h1, h2, h3, h4⟩ := h.len
    have hm : (0 : Int) < ps.length := by omega
    have go : ∀ (qs : List Rt) (i : Nat), (∀ j q, qs[j]? = some q → ps[i + j]? = some q) → Least (fun y => ∃ j t q, qs[j]? = some q ∧ (((i + j : Nat) : Int) - k) % ps.length + ps.length * t = y ∧ due q t = s) n (waiL k ps.length i qs s n) := fun qs => by
      induction qs with
      | nil => intro i _; simp only [waiL]; rintro y _ ⟨j, t, q, e, _⟩; simp at e
      | cons p r ihr =>
        intro i hq
        simp only [waiL]
        have hp : ps[i]? = some p := by simpa using hq 0 p rfl
        have hr := ihr (i + 1) fun j q e => by
          have := hq (j + 1) q (by simpa using e)
          have e2 : i + 1 + j = i + (j + 1) := by omega
          rw [e2]; exact this
        have hli := mod_bd ((i : Int) - k) hm
        refine least_omin (P := fun y => ∃ t, (((i : Nat) : Int) - k) % ps.length + ps.length * t = y ∧ due p t = s) ?_ hr fun y => ?_
        · have hp' := ih p (List.mem_of_getElem? hp) (h4 p (List.mem_of_getElem? hp)) s (vis n (((i : Int) - k) % ps.length) ps.length)
          cases e : wai p s (vis n (((i : Int) - k) % ps.length) ps.length) with
          | none =>
            rw [e] at hp'
            rintro y hy ⟨t, rfl, e2⟩
            exact hp' t ((vis_ge hm).mpr hy) e2
          | some x =>
            rw [e] at hp'
            refine ⟨(vis_ge hm).mp hp'.1, ⟨x, rfl, hp'.2.1⟩, ?_⟩
            rintro y hy hy2 ⟨t, rfl, e2⟩
            dsimp only at hy2
            refine hp'.2.2 t ((vis_ge hm).mpr hy) ?_ e2
            by_cases c : t < x
            · exact c
            · have : (ps.length : Int) * x ≤ ps.length * t := Int.mul_le_mul_of_nonneg_left (by omega) (Int.le_of_lt hm)
              omega
        · constructor
          · rintro ⟨j, t, q, e, e2, e3⟩
            cases j with
            | zero => simp at e; subst e; exact .inl ⟨t, by simpa using e2, e3⟩
            | succ j =>
              have e4 : i + 1 + j = i + (j + 1) := by omega
              exact .inr ⟨j, t, q, by simpa using e, by rw [e4]; exact e2, e3⟩
          · rintro (⟨t, e2, e3⟩ | ⟨j, t, q, e, e2, e3⟩)
            · exact ⟨0, t, p, rfl, by simpa using e2, e3⟩
            · have e4 : i + 1 + j = i + (j + 1) := by omega
              exact ⟨j + 1, t, q, by simpa using e, by rw [← e4]; exact e2, e3⟩
    have g := go ps 0 fun j q e => by simpa using e
    have eq : (fun y => ∃ j t q, ps[j]? = some q ∧ (((0 + j : Nat) : Int) - k) % ps.length + ps.length * t = y ∧ due q t = s) = fun y => due (.turns k ps) y = s := by
      funext y
      refine propext ⟨?_, fun e => ?_⟩
      · rintro ⟨j, t, q, e, e2, e3⟩
        rw [← e2, Nat.zero_add, due_turn (k := k) e]
        exact e3
      · obtain ⟨J, t, hJ, ht, _⟩ := turn_split (k := k) (m := ps.length) (by omega) y
        have hp : ps[J]? = some ps[J] := List.getElem?_eq_getElem hJ
        refine ⟨J, t, _, hp, by rw [Nat.zero_add]; exact ht, ?_⟩
        rw [← e, ← ht, due_turn (k := k) hp]
    rw [eq] at g
    simpa only [wai] using g
theorem wai_none : ∀ r : Rt, ∀ (s : Str) (n : Int), wai r s n = none ↔ s ∉ nms r := by
  have om : ∀ a b, omin a b = none ↔ a = none ∧ b = none := fun a b => by cases a <;> cases b <;> simp [omin]
  refine Rt.ind (fun x s n => ?_) fun k ps ih s n => ?_
  · by_cases e : x = s <;> simp [wai, nms, e]
    exact fun z => e z.symm
  · have go : ∀ (qs : List Rt) (i m : Nat), (∀ q ∈ qs, q ∈ ps) → (waiL k m i qs s n = none ↔ s ∉ nmsL qs) := fun qs => by
      induction qs with
      | nil => intro i m _; simp [waiL, nmsL]
      | cons p r ihr =>
        intro i m hq
        simp only [waiL, nmsL, om, Option.map_eq_none_iff, List.mem_append, not_or]
        rw [ih p (hq p (by simp)), ihr (i + 1) m fun q h => hq q (by simp [h])]
    simpa only [wai, nms] using go ps 0 ps.length fun _ h => h
/-- it lies within a round -/
theorem wai_round {r : Rt} (h : Rg r) {s : Str} {n x : Int} (e : wai r s n = some x) : x - n < rnd r := by
  have hl := wai_least r h s n
  rw [e] at hl
  by_cases c : x - n < rnd r
  · exact c
  · refine absurd ?_ (hl.2.2 (x - rnd r) (by omega) (by have := rnd_pos r h; omega))
    have := due_round h (n := x - rnd r) (t := 1)
    rw [Int.mul_one] at this
    have e2 : (rnd r : Int) + (x - rnd r) = x := by omega
    rw [e2] at this
    exact this.symm.trans hl.2.1
end A
end
section
set_option Elab.async false
set_option linter.all false
set_option maxRecDepth 100000
namespace A
open PySem
/-! leaves, holders, plain forms -/
mutual
def lvR : Rt → List Nat → List (Str × List Nat)
  | .one s, r => [(s, r)]
  | .turns _ ps, r => lvRs 0 ps r
def lvRs : Nat → List Rt → List Nat → List (Str × List Nat)
  | _, [], _ => []
  | i, p :: ps, r => lvR p (r ++ [i]) ++ lvRs (i + 1) ps r
end
mutual
theorem lvR_len : ∀ (T : Rt) (r : List Nat), (lvR T r).length = lv T
  | .one _, _ => rfl
  | .turns _ ps, r => by simp only [lvR, lv, lvRs_len ps 0 r]
theorem lvRs_len : ∀ (ps : List Rt) (i : Nat) (r : List Nat), (lvRs i ps r).length = lvs ps
  | [], _, _ => rfl
  | p :: ps, i, r => by simp only [lvRs, lvs, List.length_append, lvR_len p, lvRs_len ps]
end
mutual
theorem lvR_nms : ∀ (T : Rt) (r : List Nat), (lvR T r).map (·.1) = nms T
  | .one _, _ => rfl
  | .turns _ ps, r => by simp only [lvR, nms, lvRs_nms ps 0 r]
theorem lvRs_nms : ∀ (ps : List Rt) (i : Nat) (r : List Nat), (lvRs i ps r).map (·.1) = nmsL ps
  | [], _, _ => rfl
  | p :: ps, i, r => by simp only [lvRs, nmsL, List.map_append, lvR_nms p, lvRs_nms ps]
end
theorem lvRs_snoc : ∀ (ps : List Rt) (i : Nat) (p : Rt) (r : List Nat), lvRs i (ps ++ [p]) r = lvRs i ps r ++ lvR p (r ++ [i + ps.length])
  | [], i, p, r => by simp [lvRs]
  | q :: ps, i, p, r => by
    simp only [List.cons_append, lvRs, lvRs_snoc ps (i + 1) p r, List.append_assoc, List.length_cons]
    have : i + 1 + ps.length = i + (ps.length + 1) := by omega
    rw [this]
/-- each once, where it first stands -/
def ddup (l : List Str) : List Str := l.foldl (fun acc s => if s ∈ acc then acc else acc ++ [s]) []
theorem ddup_snoc (l : List Str) (s : Str) : ddup (l ++ [s]) = if s ∈ ddup l then ddup l else ddup l ++ [s] := by
  unfold ddup
  rw [List.foldl_append]
  rfl
theorem snoc_ind {α : Type} {P : List α → Prop} (h0 : P []) (h1 : ∀ l a, P l → P (l ++ [a])) : ∀ l, P l := fun l => by
  have : ∀ l : List α, P l.reverse := fun l => by
    induction l with
    | nil => exact h0
    | cons a l ih => rw [List.reverse_cons]; exact h1 _ _ ih
  have := this l.reverse
  rwa [List.reverse_reverse] at this
theorem mem_ddup {s : Str} : ∀ l : List Str, s ∈ ddup l ↔ s ∈ l := by
  refine snoc_ind (by simp [ddup]) fun l a ih => ?_
  rw [ddup_snoc]
  split
  · rename_i h
    rw [ih, List.mem_append, List.mem_singleton]
    constructor
    · exact .inl
    · rintro (h2 | rfl)
      · exact h2
      · exact ih.mp h
  · simp [ih]
theorem ddup_nodup : ∀ l : List Str, (ddup l).Nodup := by
  refine snoc_ind (by simp [ddup]) fun l a ih => ?_
  rw [ddup_snoc]
  split
  · exact ih
  · rename_i h
    rw [List.nodup_append]
    exact ⟨ih, by simp, fun x hx y hy => by rw [List.mem_singleton] at hy; subst hy; rintro rfl; exact h hx⟩
theorem ddup_len (l : List Str) : (ddup l).length ≤ l.length := by
  revert l
  refine snoc_ind (by simp [ddup]) fun l a ih => ?_
  rw [ddup_snoc]
  split
  · simp; omega
  · simp; omega
theorem ddup_one {l : List Str} (h : (ddup l).length = 1) : ∃ s, ddup l = [s] ∧ ∀ x ∈ l, x = s := by
  match e : ddup l, h with
  | [s], _ => exact ⟨s, rfl, fun x hx => by
    have := (mem_ddup l).mpr hx
    rw [e] at this
    exact List.mem_singleton.mp this⟩
theorem one_ddup {l : List Str} (hl : l ≠ []) {s : Str} (h : ∀ x ∈ l, x = s) : ddup l = [s] := by
  have hn := ddup_nodup l
  have hm : ∀ x ∈ ddup l, x = s := fun x hx => h x ((mem_ddup l).mp hx)
  match e : ddup l with
  | [] =>
    obtain ⟨y, hy⟩ := List.exists_mem_of_ne_nil l hl
    have := (mem_ddup l).mpr hy
    rw [e] at this; cases this
  | [x] => rw [hm x (by rw [e]; simp)]
  | x :: y :: r =>
    rw [e] at hn hm
    have h1 := hm x (by simp)
    have h2 := hm y (by simp)
    subst h1
    subst h2
    simp at hn
theorem nms_ne : ∀ T : Rt, Rg T → nms T ≠ [] := by
  refine Rt.ind (fun s _ => by simp [nms]) fun k ps ih h => ?_
  obtain ⟨h1, h2, h3, h4⟩ := h.len
  cases ps with
  | nil => simp at h1
  | cons p r =>
    simp only [nms, nmsL]
    intro e
    exact ih p (by simp) (h4 p (by simp)) (List.append_eq_nil_iff.mp e).1

/-! plain forms -/
def sameB : Rt → Rt → Bool
  | .one s, .one t => t == s
  | _, _ => false
def uni (k : Nat) (qs : List Rt) : Rt := match qs with
  | [] => .turns k []
  | q :: r => if (q :: r).all (sameB q) = true then q else .turns k (q :: r)
mutual
def pln : Rt → Rt
  | .one s => .one s
  | .turns k ps => uni k (plns ps)
def plns : List Rt → List Rt
  | [] => []
  | p :: r => pln p :: plns r
end
theorem plns_eq : ∀ ps : List Rt, plns ps = ps.map pln
  | [] => rfl
  | p :: r => by rw [plns, plns_eq r]; rfl
theorem uni_cons (k : Nat) (q : Rt) (r : List Rt) : uni k (q :: r) = if (q :: r).all (sameB q) = true then q else .turns k (q :: r) := rfl
theorem uni_cases (k : Nat) (qs : List Rt) : uni k qs = .turns k qs ∨ ∃ s, uni k qs = .one s ∧ qs ≠ [] ∧ ∀ q ∈ qs, q = .one s := by
  cases qs with
  | nil => exact .inl rfl
  | cons q r =>
    rw [uni_cons]
    by_cases h : (q :: r).all (sameB q) = true
    · rw [if_pos h]
      rw [List.all_eq_true] at h
      have h0 := h q (by simp)
      cases q with
      | turns _ _ => cases h0
      | one s =>
        refine .inr ⟨s, rfl, by simp, fun x hx => ?_⟩
        have := h x hx
        cases x with
        | turns _ _ => cases this
        | one t => rw [eq_of_beq this]
    · rw [if_neg h]; exact .inl rfl
theorem uni_one {k : Nat} {qs : List Rt} {s : Str} (hn : qs ≠ []) (h : ∀ q ∈ qs, q = .one s) : uni k qs = .one s := by
  cases qs with
  | nil => exact absurd rfl hn
  | cons q r =>
    have h0 := h q (by simp)
    subst h0
    rw [uni_cons, if_pos]
    rw [List.all_eq_true]
    intro x hx
    rw [h x hx]
    simp [sameB]
theorem pln_one : ∀ T : Rt, Rg T → ∀ s, pln T = .one s ↔ ∀ x ∈ nms T, x = s := by
  refine Rt.ind (fun x _ s => by simp [pln, nms]) fun k ps ih h s => ?_
  obtain ⟨h1, h2, h3, h4⟩ := h.len
  have hne : plns ps ≠ [] := by rw [plns_eq]; intro e; rw [List.map_eq_nil_iff] at e; rw [e] at h1; simp at h1
  simp only [pln, nms]
  constructor
  · intro e x hx
    obtain ⟨p, hp, hx⟩ := mem_nmsL.mp hx
    rcases uni_cases k (plns ps) with e2 | ⟨t, e2, _, e3⟩
    · rw [e2] at e; cases e
    · rw [e2] at e; cases e
      have := e3 (pln p) (by rw [plns_eq]; exact List.mem_map_of_mem hp)
      exact (ih p hp (h4 p hp) s).mp this x hx
  · intro e
    refine uni_one hne fun q hq => ?_
    rw [plns_eq] at hq
    obtain ⟨p, hp, rfl⟩ := List.mem_map.mp hq
    exact (ih p hp (h4 p hp) s).mpr fun x hx => e x (mem_nmsL.mpr ⟨p, hp, hx⟩)
theorem rg_pln : ∀ T : Rt, Rg T → Rg (pln T) := by
  refine Rt.ind (fun s _ => .one s) fun k ps ih h => ?_
  obtain ⟨h1, h2, h3, h4⟩ := h.len
  simp only [pln]
  rcases uni_cases k (plns ps) with e | ⟨t, e, _, _⟩
  · rw [e, plns_eq]
    refine .turns k _ (by simpa using h1) (by simpa using h2) (by simpa using h3) fun q hq => ?_
    obtain ⟨p, hp, rfl⟩ := List.mem_map.mp hq
    exact ih p hp (h4 p hp)
  · rw [e]; exact .one t
theorem due_pln : ∀ T : Rt, Rg T → ∀ n, due (pln T) n = due T n := by
  refine Rt.ind (fun s _ n => rfl) fun k ps ih h n => ?_
  obtain ⟨h1, h2, h3, h4⟩ := h.len
  simp only [pln]
  rcases uni_cases k (plns ps) with e | ⟨t, e, _, e3⟩
  · rw [e]
    obtain ⟨J, t, hJ, ht, _⟩ := turn_split (k := k) (m := ps.length) (by omega) n
    have hp : ps[J]? = some ps[J] := List.getElem?_eq_getElem hJ
    have hq : (plns ps)[J]? = some (pln ps[J]) := by rw [plns_eq, List.getElem?_map, hp]; rfl
    have d2 := due_turn (k := k) hq t
    rw [show (plns ps).length = ps.length by rw [plns_eq]; simp, ht] at d2
    rw [d2, ih _ (List.mem_of_getElem? hp) (h4 _ (List.mem_of_getElem? hp)), ← due_turn (k := k) hp, ht]
  · rw [e]
    have hall : pln (.turns k ps) = .one t := e
    exact ((pln_one _ h t).mp hall _ (due_mem _ h n)).symm
theorem pln_idem : ∀ T : Rt, Rg T → pln (pln T) = pln T := by
  refine Rt.ind (fun s _ => rfl) fun k ps ih h => ?_
  obtain ⟨h1, h2, h3, h4⟩ := h.len
  simp only [pln]
  rcases uni_cases k (plns ps) with e | ⟨t, e, _, _⟩
  · rw [e]
    simp only [pln]
    have : plns (plns ps) = plns ps := by
      rw [plns_eq, plns_eq, List.map_map]
      refine List.map_congr_left fun p hp => ih p hp (h4 p hp)
    rw [this, e]
  · rw [e]; rfl
theorem dpt_pln : ∀ T : Rt, dpt (pln T) ≤ dpt T := by
  refine Rt.ind (fun s => Nat.le_refl _) fun k ps ih => ?_
  simp only [pln]
  rcases uni_cases k (plns ps) with e | ⟨t, e, _, _⟩
  · rw [e]
    simp only [dpt]
    have : ∀ l : List Rt, (∀ p ∈ l, p ∈ ps) → dpts (plns l) ≤ dpts l := fun l => by
      induction l with
      | nil => intro _; exact Nat.le_refl _
      | cons p r ihr =>
        intro hq
        have h1 := ih p (hq p (by simp))
        have h2 := ihr fun q hq' => hq q (by simp [hq'])
        simp only [plns, dpts]
        omega
    have := this ps fun _ h => h
    omega
  · rw [e]; simp only [dpt]; omega
mutual
def lpl : Rt → Rt
  | .one s => .one s
  | .turns k ps => match ddup (nmsL ps) with
    | [s] => .one s
    | _ => .turns k (lpls ps)
def lpls : List Rt → List Rt
  | [] => []
  | p :: r => lpl p :: lpls r
end
theorem lpls_eq : ∀ ps : List Rt, lpls ps = ps.map lpl
  | [] => rfl
  | p :: r => by rw [lpls, lpls_eq r]; rfl
theorem lpl_eq : ∀ T : Rt, Rg T → lpl T = pln T := by
  refine Rt.ind (fun s _ => rfl) fun k ps ih h => ?_
  obtain ⟨h1, h2, h3, h4⟩ := h.len
  have hs : lpls ps = plns ps := by
    rw [lpls_eq, plns_eq]
    exact List.map_congr_left fun p hp => ih p hp (h4 p hp)
  have hne := nms_ne _ h
  simp only [nms] at hne
  simp only [lpl]
  split
  · rename_i s e
    refine ((pln_one _ h s).mpr fun x hx => ?_).symm
    have := (mem_ddup (nmsL ps)).mpr hx
    rw [e] at this
    exact List.mem_singleton.mp this
  · rename_i hno
    rw [hs]
    simp only [pln]
    rcases uni_cases k (plns ps) with e | ⟨t, e, _, _⟩
    · exact e.symm
    · exfalso
      have := (pln_one _ h t).mp (show pln (.turns k ps) = .one t from e)
      exact hno t (one_ddup hne this)
end A
end
section
set_option Elab.async false
set_option linter.all false
set_option maxRecDepth 100000
/-! M7: two rows with their periods that agree long enough agree for ever. -/
namespace A
open PySem
theorem per_mod {α : Type} {w : Nat → α} {p n : Nat} (hp : 0 < p) (h : ∀ i, i + p < n → w i = w (i + p)) : ∀ i, i < n → w i = w (i % p) := fun i => by
  induction i using Nat.strongRecOn with
  | _ i ih =>
    intro hi
    by_cases c : i < p
    · rw [Nat.mod_eq_of_lt c]
    · have e := h (i - p) (by omega)
      rw [Nat.sub_add_cancel (by omega)] at e
      rw [← e, ih (i - p) (by omega) (by omega), Nat.mod_eq_sub_mod (by omega : i ≥ p)]
theorem two_per {α : Type} (w : Nat → α) : ∀ (s p q n : Nat), p + q ≤ s → 0 < p → 0 < q → (∀ i, i + p < n → w i = w (i + p)) → (∀ i, i + q < n → w i = w (i + q)) → p + q ≤ n + Nat.gcd p q → ∀ i j, i < n → j < n → i % Nat.gcd p q = j % Nat.gcd p q → w i = w j
  | 0, p, q, n, hs, hp, hq, _, _, _ => by omega
  | s + 1, p, q, n, hs, hp, hq, wp, wq, hn => fun i j hi hj e => by
    rcases Nat.lt_trichotomy p q with c | c | c
    · have hg : Nat.gcd p (q - p) = Nat.gcd p q := by
        have := Nat.gcd_sub_self_right (m := p) (n := q) (by omega)
        exact this
      have gp : Nat.gcd p q ∣ p := Nat.gcd_dvd_left ..
      have gq : Nat.gcd p q ∣ q - p := by rw [← hg]; exact Nat.gcd_dvd_right ..
      have g1 := Nat.le_of_dvd (by omega) gq
      have g2 := Nat.le_of_dvd hp gp
      have ih := two_per w s p (q - p) (n - p) (by omega) hp (by omega) (fun k hk => wp k (by omega)) (fun k hk => by
        have e1 := wq k (by omega)
        have e2 := wp (k + (q - p)) (by omega)
        rw [e1, e2]
        congr 1; omega) (by rw [hg]; omega)
      rw [hg] at ih
      rw [per_mod hp wp i hi, per_mod hp wp j hj]
      have b1 := Nat.mod_lt i hp
      have b2 := Nat.mod_lt j hp
      refine ih _ _ (by omega) (by omega) ?_
      rw [Nat.mod_mod_of_dvd _ gp, Nat.mod_mod_of_dvd _ gp, e]
    · subst c
      rw [Nat.gcd_self] at e
      rw [per_mod hp wp i hi, per_mod hp wp j hj, e]
    · have hg : Nat.gcd (p - q) q = Nat.gcd p q := by
        have := Nat.gcd_sub_self_left (m := q) (n := p) (by omega)
        exact this
      have gp : Nat.gcd p q ∣ q := Nat.gcd_dvd_right ..
      have gq : Nat.gcd p q ∣ p - q := by rw [← hg]; exact Nat.gcd_dvd_left ..
      have g1 := Nat.le_of_dvd (by omega) gq
      have g2 := Nat.le_of_dvd hq gp
      have ih := two_per w s (p - q) q (n - q) (by omega) (by omega) hq (fun k hk => by
        have e1 := wp k (by omega)
        have e2 := wq (k + (p - q)) (by omega)
        rw [e1, e2]
        congr 1; omega) (fun k hk => wq k (by omega)) (by rw [hg]; omega)
      rw [hg] at ih
      rw [per_mod hq wq i hi, per_mod hq wq j hj]
      have b1 := Nat.mod_lt i hq
      have b2 := Nat.mod_lt j hq
      refine ih _ _ (by omega) (by omega) ?_
      rw [Nat.mod_mod_of_dvd _ gp, Nat.mod_mod_of_dvd _ gp, e]
theorem agree {α : Type} {u v : Nat → α} {p q : Nat} (hp : 0 < p) (hq : 0 < q) (up : ∀ i, u (i + p) = u i) (vq : ∀ i, v (i + q) = v i) (h : ∀ i, i < p + q - Nat.gcd p q → u i = v i) : ∀ i, u i = v i := fun i => by
  have gp : Nat.gcd p q ∣ p := Nat.gcd_dvd_left ..
  have gq : Nat.gcd p q ∣ q := Nat.gcd_dvd_right ..
  have g1 := Nat.le_of_dvd hp gp
  have g2 := Nat.le_of_dvd hq gq
  have g0 : 0 < Nat.gcd p q := Nat.gcd_pos_of_pos_left _ hp
  have tw := two_per u (p + q) p q (p + q - Nat.gcd p q) (Nat.le_refl _) hp hq (fun k _ => (up k).symm) (fun k hk => by rw [h k (by omega), h (k + q) hk, vq]) (by omega)
  have pu := per_mod (w := u) (n := i + 1) hp (fun k _ => (up k).symm) i (by omega)
  have pv := per_mod (w := v) (n := i + 1) hq (fun k _ => (vq k).symm) i (by omega)
  have b1 := Nat.mod_lt i hp
  have b2 := Nat.mod_lt i hq
  rw [pu, pv, ← h (i % q) (by omega)]
  refine tw _ _ (by omega) (by omega) ?_
  rw [Nat.mod_mod_of_dvd _ gp, Nat.mod_mod_of_dvd _ gq]
theorem due_agree {T U : Rt} (hT : Rg T) (hU : Rg U) (h : ∀ j : Nat, j < rnd T + rnd U - Nat.gcd (rnd T) (rnd U) → due T j = due U j) : ∀ j : Nat, due T j = due U j :=
  agree (u := fun i : Nat => due T i) (v := fun i : Nat => due U i) (rnd_pos T hT) (rnd_pos U hU) (fun i => by
    have := due_round hT (n := i) (t := 1)
    show due T ((i + rnd T : Nat) : Int) = due T (i : Nat)
    rw [Int.mul_one, Int.add_comm] at this
    rw [← this]; push_cast; rfl) (fun i => by
    have := due_round hU (n := i) (t := 1)
    show due U ((i + rnd U : Nat) : Int) = due U (i : Nat)
    rw [Int.mul_one, Int.add_comm] at this
    rw [← this]; push_cast; rfl) h
/-- the first of m turns that differs -/
def dif (T U : Rt) (m : Nat) : List Nat := (List.range m).filter fun j => decide (due T (j : Nat) ≠ due U (j : Nat))
theorem mem_dif {T U : Rt} {m j : Nat} : j ∈ dif T U m ↔ j < m ∧ due T j ≠ due U j := by
  unfold dif
  rw [List.mem_filter, List.mem_range, decide_eq_true_iff]
end A
end
section
set_option Elab.async false
set_option linter.all false
set_option maxRecDepth 100000
/-! LF: the defs of the linked programs in the small language (printed by genlib.py). -/
namespace A
open PySem L2
/-- is_name(word) (k02): word=0 sign=1 -/
def F_is_name : Fn := ⟨2, 1,
    (.cons (.ret (.and (.chn (.c (.int 1)) .le (.b1 .len (.v 0)) .le (.c (.int 8))) (.b1 .all (.lc (.cmp .inn (.v 1) (.c (.str "abcdefghijklmnopqrstuvwxyz"))) [1] [1] (.seq (.v 0)) (.c (.bl true))))))
    .nil)⟩
/-- leaves(right) (k02): right=0 part=1 -/
def F_leaves (c_leaves : Nat) : Fn := ⟨2, 1,
    (.cons (.ite (.cmp .eq (.ix (.v 0) (.c (.int 0))) (.c (.str "one")))
    (.cons (.ret (.c (.int 1)))
    .nil)
    .nil)
    (.cons (.ret (.b1 .sum (.lc (.call c_leaves (.app []) (.cons (.v 1) .nil)) [1] [1] (.seq (.ix (.v 0) (.c (.int 2)))) (.c (.bl true)))))
    .nil))⟩
/-- part_text(right, first) (k02): right=0 first=1 mark=2 words=3 at=4 part=5 -/
def F_part_text (c_part_text : Nat) : Fn := ⟨6, 2,
    (.cons (.asg (.n [2]) (.ite (.v 1) (.c (.str ">")) (.c (.str ""))))
    (.cons (.ite (.cmp .eq (.ix (.v 0) (.c (.int 0))) (.c (.str "one")))
    (.cons (.ret (.bin .add (.v 2) (.ix (.v 0) (.c (.int 1)))))
    .nil)
    .nil)
    (.cons (.asg (.n [3]) (.lc (.call c_part_text (.app []) (.cons (.v 5) (.cons (.cmp .eq (.v 4) (.ix (.v 0) (.c (.int 1)))) .nil))) [4, 5] [4, 5] (.enm (.ix (.v 0) (.c (.int 2))) 0) (.c (.bl true))))
    (.cons (.ret (.bin .add (.bin .add (.bin .add (.v 2) (.c (.str "["))) (.bm .join (.c (.str " ")) (.cons (.v 3) .nil))) (.c (.str "]"))))
    .nil))))⟩
/-- right_text(right) (k02): right=0 -/
def F_right_text (c_part_text : Nat) : Fn := ⟨1, 1,
    (.cons (.ret (.call c_part_text (.app []) (.cons (.v 0) (.cons (.c (.bl false)) .nil))))
    .nil)⟩
/-- read_parts(text, at, deep) (k02): text=0 at=1 deep=2 parts=3 marked=4 going=5 part=6 -/
def F_read_parts (c_read_right : Nat) : Fn := ⟨7, 3,
    (.cons (.asg (.n [3]) (.lst .nil))
    (.cons (.asg (.n [4]) (.lst .nil))
    (.cons (.asg (.n [5]) (.c (.bl true)))
    (.cons (.whl (.v 5)
    (.cons (.ite (.cmp .eq (.sl (.v 0) (.v 1) (.bin .add (.v 1) (.c (.int 1)))) (.c (.str ">")))
    (.cons (.ex (.bm .append (.v 4) (.cons (.b1 .len (.v 3)) .nil)))
    (.cons (.aug .add 1 (.c (.int 1)))
    .nil))
    .nil)
    (.cons (.asg (.n [6, 1]) (.call c_read_right (.app []) (.cons (.v 0) (.cons (.v 1) (.cons (.v 2) .nil)))))
    (.cons (.ex (.bm .append (.v 3) (.cons (.v 6) .nil)))
    (.cons (.asg (.n [5]) (.cmp .eq (.sl (.v 0) (.v 1) (.bin .add (.v 1) (.c (.int 1)))) (.c (.str " "))))
    (.cons (.aug .add 1 (.b1 .int (.v 5)))
    .nil))))))
    (.cons (.ite (.or (.cmp .ne (.sl (.v 0) (.v 1) (.bin .add (.v 1) (.c (.int 1)))) (.c (.str "]"))) (.or (.cmp .ne (.b1 .len (.v 4)) (.c (.int 1))) (.not (.chn (.c (.int 2)) .le (.b1 .len (.v 3)) .le (.c (.int 5))))))
    (.cons (.raise 14 [0] [.inr (.str "NoRight")] .nil false)
    .nil)
    .nil)
    (.cons (.ret (.tup (.cons (.tup (.cons (.c (.str "turns")) (.cons (.ix (.v 4) (.c (.int 0))) (.cons (.b1 .tuple (.v 3)) .nil)))) (.cons (.bin .add (.v 1) (.c (.int 1))) .nil))))
    .nil))))))⟩
/-- read_right(text, at, deep) (k02): text=0 at=1 deep=2 end=3 -/
def F_read_right (c_read_parts c_is_name : Nat) : Fn := ⟨4, 3,
    (.cons (.ite (.cmp .eq (.v 2) (.c (.int 0)))
    (.cons (.raise 14 [0] [.inr (.str "NoRight")] .nil false)
    .nil)
    .nil)
    (.cons (.ite (.cmp .eq (.sl (.v 0) (.v 1) (.bin .add (.v 1) (.c (.int 1)))) (.c (.str "[")))
    (.cons (.ret (.call c_read_parts (.app []) (.cons (.v 0) (.cons (.bin .add (.v 1) (.c (.int 1))) (.cons (.bin .sub (.v 2) (.c (.int 1))) .nil)))))
    .nil)
    .nil)
    (.cons (.asg (.n [3]) (.v 1))
    (.cons (.whl (.and (.cmp .lt (.v 3) (.b1 .len (.v 0))) (.cmp .inn (.ix (.v 0) (.v 3)) (.c (.str "abcdefghijklmnopqrstuvwxyz"))))
    (.cons (.aug .add 3 (.c (.int 1)))
    .nil))
    (.cons (.ite (.not (.call c_is_name (.app []) (.cons (.sl (.v 0) (.v 1) (.v 3)) .nil)))
    (.cons (.raise 14 [0] [.inr (.str "NoRight")] .nil false)
    .nil)
    .nil)
    (.cons (.ret (.tup (.cons (.tup (.cons (.c (.str "one")) (.cons (.sl (.v 0) (.v 1) (.v 3)) .nil))) (.cons (.v 3) .nil))))
    .nil))))))⟩
/-- right_of(text) (k02): text=0 right=1 at=2 -/
def F_right_of (c_read_right c_leaves : Nat) : Fn := ⟨3, 1,
    (.cons (.asg (.n [1, 2]) (.call c_read_right (.app []) (.cons (.v 0) (.cons (.c (.int 0)) (.cons (.c (.int 4)) .nil)))))
    (.cons (.ite (.or (.cmp .ne (.v 2) (.b1 .len (.v 0))) (.cmp .gt (.call c_leaves (.app []) (.cons (.v 1) .nil)) (.c (.int 24))))
    (.cons (.raise 14 [0] [.inr (.str "NoRight")] .nil false)
    .nil)
    .nil)
    (.cons (.ret (.v 1))
    .nil)))⟩
/-- _law_box(_law_script) (k02): _law_script=0 -/
def F_law_box : Fn := ⟨1, 1,
    (.cons (.ret (.lst (.cons (.b1 .list (.sl (.v 0) .nil (.c (.int 63)))) (.cons (.c (.int 0)) (.cons (.c (.int 0)) (.cons (.c (.int 17)) .nil))))))
    .nil)⟩
/-- _law_take(_law_box_here, _law_sides) (k02): _law_box_here=0 _law_sides=1 _law_rest=2 _law_cell=3 _law_seed=4 -/
def F_law_take : Fn := ⟨5, 2,
    (.cons (.ite (.cmp .gt (.ix (.v 0) (.c (.int 2))) (.c (.int 0)))
    (.cons (.asg (.n [2]) (.ix (.v 0) (.c (.int 2))))
    (.cons (.asg (.ix (.v 0) (.c (.int 2))) (.bin .div (.v 2) (.v 1)))
    (.cons (.ret (.bin .mod (.v 2) (.v 1)))
    .nil)))
    .nil)
    (.cons (.asg (.n [3]) (.c (.int 0)))
    (.cons (.ite (.cmp .lt (.ix (.v 0) (.c (.int 1))) (.b1 .len (.ix (.v 0) (.c (.int 0)))))
    (.cons (.asg (.n [3]) (.ix (.ix (.v 0) (.c (.int 0))) (.ix (.v 0) (.c (.int 1)))))
    (.cons (.augI .add (.v 0) (.c (.int 1)) (.c (.int 1)))
    .nil))
    .nil)
    (.cons (.ite (.cmp .ge (.v 3) (.bin .pow (.c (.int 10)) (.c (.int 18))))
    (.cons (.asg (.ix (.v 0) (.c (.int 2))) (.bin .div (.v 3) (.v 1)))
    (.cons (.ret (.bin .mod (.v 3) (.v 1)))
    .nil))
    .nil)
    (.cons (.asg (.n [4]) (.ix (.v 0) (.c (.int 3))))
    (.cons (.asg (.n [4]) (.bin .add (.bin .add (.bin .pow (.v 4) (.c (.int 3))) (.bin .mul (.c (.int 48271)) (.v 4))) (.bin .mul (.c (.int 69621)) (.bin .mod (.v 3) (.c (.int 2147483629))))))
    (.cons (.asg (.ix (.v 0) (.c (.int 3))) (.bin .mod (.bin .add (.v 4) (.c (.int 11))) (.c (.int 2147483629))))
    (.cons (.ret (.bin .mod (.bin .div (.ix (.v 0) (.c (.int 3))) (.c (.int 64))) (.v 1)))
    .nil))))))))⟩
/-- _law_same(_law_found, _law_want) (k02): _law_found=0 _law_want=1 _law_one=2 _law_other=3 -/
def F_law_same (c_law_same : Nat) : Fn := ⟨4, 2,
    (.cons (.ite (.or (.isi (.v 1) [.list]) (.isi (.v 1) [.tuple]))
    (.cons (.ite (.or (.cmp .ne (.isi (.v 0) [.list]) (.isi (.v 1) [.list])) (.cmp .ne (.isi (.v 0) [.tuple]) (.isi (.v 1) [.tuple])))
    (.cons (.ret (.c (.bl false)))
    .nil)
    .nil)
    (.cons (.ret (.and (.cmp .eq (.b1 .len (.v 0)) (.b1 .len (.v 1))) (.b1 .all (.lc (.call c_law_same (.app []) (.cons (.v 2) (.cons (.v 3) .nil))) [2, 3] [2, 3] (.zip (.v 0) (.v 1) false) (.c (.bl true))))))
    .nil))
    .nil)
    (.cons (.ite (.or (.cmp .is (.v 0) (.c (.non))) (.cmp .is (.v 1) (.c (.non))))
    (.cons (.ret (.and (.cmp .is (.v 0) (.c (.non))) (.cmp .is (.v 1) (.c (.non)))))
    .nil)
    .nil)
    (.cons (.ite (.or (.cmp .ne (.isi (.v 0) [.bool]) (.isi (.v 1) [.bool])) (.cmp .ne (.isi (.v 0) [.int]) (.isi (.v 1) [.int])))
    (.cons (.ret (.c (.bl false)))
    .nil)
    .nil)
    (.cons (.ret (.and (.cmp .eq (.isi (.v 0) [.str]) (.isi (.v 1) [.str])) (.cmp .eq (.v 0) (.v 1))))
    .nil))))⟩
/-- _law_names(_law_box_here, _law_sides) (k02): _law_box_here=0 _law_sides=1 _law_letters=2 _law_first=3 _law_k=4 _law_at=5 _law_folk=6 _law_pairs=7 -/
def F_law_names (c_law_take : Nat) : Fn := ⟨8, 2,
    (.cons (.asg (.n [2]) (.c (.str "abcdefghijklmnopqrstuvwxyz")))
    (.cons (.asg (.n [3]) (.bm .join (.c (.str "")) (.cons (.lc (.ix (.v 2) (.call c_law_take (.app []) (.cons (.v 0) (.cons (.c (.int 26)) .nil)))) [4] [4] (.rng (.call c_law_take (.app []) (.cons (.v 0) (.cons (.c (.int 8)) .nil)))) (.c (.bl true))) .nil)))
    (.cons (.asg (.n [5]) (.call c_law_take (.app []) (.cons (.v 0) (.cons (.c (.int 26)) .nil))))
    (.cons (.asg (.n [6]) (.lc (.bin .add (.v 3) (.ix (.v 2) (.bin .mod (.bin .add (.v 5) (.bin .mul (.c (.int 11)) (.v 4))) (.c (.int 26))))) [4] [4] (.rng (.v 1)) (.c (.bl true))))
    (.cons (.asg (.n [7]) (.lc (.bin .add (.sl (.ix (.v 6) (.bin .sub (.v 4) (.bin .mod (.v 4) (.c (.int 2))))) (.neg (.c (.int 7))) .nil) (.ix (.lst (.cons (.c (.str "")) (.cons (.c (.str "b")) .nil))) (.bin .mod (.v 4) (.c (.int 2))))) [4] [4] (.rng (.v 1)) (.c (.bl true))))
    (.cons (.ret (.ix (.lst (.cons (.v 6) (.cons (.v 7) .nil))) (.bin .div (.call c_law_take (.app []) (.cons (.v 0) (.cons (.c (.int 3)) .nil))) (.c (.int 2)))))
    .nil))))))⟩
/-- _law_tree(_law_box_here, _law_deep, _law_pool_here, _law_room) (k02): _law_box_here=0 _law_deep=1 _law_pool_here=2 _law_room=3 _law_size=4 _law_parts=5 _law_k=6 -/
def F_law_tree (c_law_take c_law_tree : Nat) : Fn := ⟨7, 4,
    (.cons (.asg (.n [4]) (.bin .add (.c (.int 2)) (.call c_law_take (.app []) (.cons (.v 0) (.cons (.c (.int 4)) .nil)))))
    (.cons (.ite (.or (.cmp .eq (.v 1) (.c (.int 1))) (.or (.cmp .lt (.ix (.v 3) (.c (.int 0))) (.bin .sub (.v 4) (.c (.int 1)))) (.cmp .lt (.call c_law_take (.app []) (.cons (.v 0) (.cons (.c (.int 5)) .nil))) (.c (.int 2)))))
    (.cons (.ret (.tup (.cons (.c (.str "one")) (.cons (.ix (.v 2) (.call c_law_take (.app []) (.cons (.v 0) (.cons (.b1 .len (.v 2)) .nil)))) .nil))))
    .nil)
    .nil)
    (.cons (.augI .sub (.v 3) (.c (.int 0)) (.bin .sub (.v 4) (.c (.int 1))))
    (.cons (.asg (.n [5]) (.b1 .tuple (.lc (.call c_law_tree (.app []) (.cons (.v 0) (.cons (.bin .sub (.v 1) (.c (.int 1))) (.cons (.v 2) (.cons (.v 3) .nil))))) [6] [6] (.rng (.v 4)) (.c (.bl true)))))
    (.cons (.ret (.tup (.cons (.c (.str "turns")) (.cons (.call c_law_take (.app []) (.cons (.v 0) (.cons (.v 4) .nil))) (.cons (.v 5) .nil)))))
    .nil)))))⟩
/-- _law_right(_law_box_here, _law_pool_here) (k02): _law_box_here=0 _law_pool_here=1 _law_deep=2 _law_size=3 _law_room=4 _law_parts=5 _law_k=6 -/
def F_law_right (c_law_take c_law_tree : Nat) : Fn := ⟨7, 2,
    (.cons (.asg (.n [2]) (.call c_law_take (.app []) (.cons (.v 0) (.cons (.c (.int 4)) .nil))))
    (.cons (.ite (.cmp .eq (.v 2) (.c (.int 0)))
    (.cons (.ret (.call c_law_tree (.app []) (.cons (.v 0) (.cons (.c (.int 4)) (.cons (.v 1) (.cons (.lst (.cons (.c (.int 23)) .nil)) .nil))))))
    .nil)
    .nil)
    (.cons (.asg (.n [3]) (.bin .add (.c (.int 2)) (.call c_law_take (.app []) (.cons (.v 0) (.cons (.c (.int 4)) .nil)))))
    (.cons (.asg (.n [4]) (.lst (.cons (.bin .sub (.c (.int 24)) (.v 3)) .nil)))
    (.cons (.asg (.n [5]) (.b1 .tuple (.lc (.call c_law_tree (.app []) (.cons (.v 0) (.cons (.v 2) (.cons (.v 1) (.cons (.v 4) .nil))))) [6] [6] (.rng (.v 3)) (.c (.bl true)))))
    (.cons (.ret (.tup (.cons (.c (.str "turns")) (.cons (.call c_law_take (.app []) (.cons (.v 0) (.cons (.v 3) .nil))) (.cons (.v 5) .nil)))))
    .nil))))))⟩
/-- _law_pool(_law_box_here) (k02): _law_box_here=0 -/
def F_law_pool (c_law_names c_law_take : Nat) : Fn := ⟨1, 1,
    (.cons (.ret (.sl (.call c_law_names (.app []) (.cons (.v 0) (.cons (.c (.int 7)) .nil))) .nil (.bin .add (.c (.int 1)) (.call c_law_take (.app []) (.cons (.v 0) (.cons (.c (.int 7)) .nil))))))
    .nil)⟩
/-- _law_text(_law_tree_here, _law_mark) (k02): _law_tree_here=0 _law_mark=1 _law_words=2 _law_at=3 _law_part=4 -/
def F_law_text (c_law_text : Nat) : Fn := ⟨5, 2,
    (.cons (.ite (.cmp .eq (.ix (.v 0) (.c (.int 0))) (.c (.str "one")))
    (.cons (.ret (.bin .add (.v 1) (.ix (.v 0) (.c (.int 1)))))
    .nil)
    .nil)
    (.cons (.asg (.n [2]) (.lc (.call c_law_text (.app []) (.cons (.v 4) (.cons (.ix (.lst (.cons (.c (.str "")) (.cons (.c (.str ">")) .nil))) (.b1 .int (.cmp .eq (.v 3) (.ix (.v 0) (.c (.int 1)))))) .nil))) [3, 4] [3, 4] (.enm (.ix (.v 0) (.c (.int 2))) 0) (.c (.bl true))))
    (.cons (.ret (.bin .add (.bin .add (.bin .add (.v 1) (.c (.str "["))) (.bm .join (.c (.str " ")) (.cons (.v 2) .nil))) (.c (.str "]"))))
    .nil)))⟩
/-- law(_law_script) (k02): _law_script=0 _law_box_here=1 _law_pool_here=2 _law_k=3 _law_right_here=4 _law_text_here=5 _law_again=6 -/
def F_law_k02 (c_law_box c_law_pool c_law_right c_law_text c_law_same c_right_text c_right_of : Nat) : Fn := ⟨7, 1,
    (.cons (.asg (.n [1]) (.call c_law_box (.app []) (.cons (.v 0) .nil)))
    (.cons (.asg (.n [2]) (.call c_law_pool (.app []) (.cons (.v 1) .nil)))
    (.cons (.for_ (.n [3]) (.rng (.c (.int 4)))
    (.cons (.asg (.n [4]) (.call c_law_right (.app []) (.cons (.v 1) (.cons (.v 2) .nil))))
    (.cons (.asg (.n [5]) (.call c_law_text (.app []) (.cons (.v 4) (.cons (.c (.str "")) .nil))))
    (.cons (.for_ (.n [6]) (.rng (.c (.int 2)))
    (.cons (.ite (.or (.not (.call c_law_same (.app []) (.cons (.call c_right_text (.app []) (.cons (.v 4) .nil)) (.cons (.v 5) .nil)))) (.not (.call c_law_same (.app []) (.cons (.call c_right_of (.app []) (.cons (.v 5) .nil)) (.cons (.v 4) .nil)))))
    (.cons (.ret (.c (.bl false)))
    .nil)
    .nil)
    .nil))
    .nil))))
    (.cons (.ret (.c (.bl true)))
    .nil))))⟩
/-- divisor(one, other) (k05): one=0 other=1 -/
def F_divisor : Fn := ⟨2, 2,
    (.cons (.whl (.cmp .gt (.v 1) (.c (.int 0)))
    (.cons (.par 0 1 (.v 1) (.bin .mod (.v 0) (.v 1)))
    .nil))
    (.cons (.ret (.v 0))
    .nil))⟩
/-- plain(right) (k05): right=0 parts=1 part=2 -/
def F_plain (c_plain : Nat) : Fn := ⟨3, 1,
    (.cons (.ite (.cmp .eq (.ix (.v 0) (.c (.int 0))) (.c (.str "one")))
    (.cons (.ret (.v 0))
    .nil)
    .nil)
    (.cons (.asg (.n [1]) (.b1 .tuple (.lc (.call c_plain (.app []) (.cons (.v 2) .nil)) [2] [2] (.seq (.ix (.v 0) (.c (.int 2)))) (.c (.bl true)))))
    (.cons (.ite (.b1 .all (.lc (.and (.cmp .eq (.ix (.v 2) (.c (.int 0))) (.c (.str "one"))) (.cmp .eq (.ix (.v 2) (.c (.int 1))) (.ix (.ix (.v 1) (.c (.int 0))) (.c (.int 1))))) [2] [2] (.seq (.v 1)) (.c (.bl true))))
    (.cons (.ret (.ix (.v 1) (.c (.int 0))))
    .nil)
    .nil)
    (.cons (.ret (.tup (.cons (.c (.str "turns")) (.cons (.ix (.v 0) (.c (.int 1))) (.cons (.v 1) .nil)))))
    .nil))))⟩
/-- later_of(right, at) (k05): right=0 at=1 -/
def F_later_of : Fn := ⟨2, 2,
    (.cons (.ret (.bin .mod (.bin .sub (.v 1) (.ix (.v 0) (.c (.int 1)))) (.b1 .len (.ix (.v 0) (.c (.int 2))))))
    .nil)⟩
/-- due(right, number) (k05): right=0 number=1 part=2 many=3 at=4 -/
def F_due (c_later_of : Nat) : Fn := ⟨5, 2,
    (.cons (.asg (.n [2]) (.v 0))
    (.cons (.whl (.cmp .eq (.ix (.v 2) (.c (.int 0))) (.c (.str "turns")))
    (.cons (.asg (.n [3]) (.b1 .len (.ix (.v 2) (.c (.int 2)))))
    (.cons (.asg (.n [4]) (.bin .mod (.bin .add (.ix (.v 2) (.c (.int 1))) (.v 1)) (.v 3)))
    (.cons (.asg (.n [1]) (.bin .div (.bin .sub (.v 1) (.call c_later_of (.app []) (.cons (.v 2) (.cons (.v 4) .nil)))) (.v 3)))
    (.cons (.asg (.n [2]) (.ix (.ix (.v 2) (.c (.int 2))) (.v 4)))
    .nil)))))
    (.cons (.ret (.ix (.v 2) (.c (.int 1))))
    .nil)))⟩
/-- round_of(right) (k05): right=0 found=1 part=2 size=3 -/
def F_round_of (c_round_of c_divisor : Nat) : Fn := ⟨4, 1,
    (.cons (.ite (.cmp .eq (.ix (.v 0) (.c (.int 0))) (.c (.str "one")))
    (.cons (.ret (.c (.int 1)))
    .nil)
    .nil)
    (.cons (.asg (.n [1]) (.c (.int 1)))
    (.cons (.for_ (.n [2]) (.seq (.ix (.v 0) (.c (.int 2))))
    (.cons (.asg (.n [3]) (.call c_round_of (.app []) (.cons (.v 2) .nil)))
    (.cons (.asg (.n [1]) (.bin .div (.bin .mul (.v 1) (.v 3)) (.call c_divisor (.app []) (.cons (.v 1) (.cons (.v 3) .nil)))))
    .nil)))
    (.cons (.ret (.bin .mul (.v 1) (.b1 .len (.ix (.v 0) (.c (.int 2))))))
    .nil))))⟩
/-- alike(one, other) (k05): one=0 other=1 here=2 there=3 number=4 -/
def F_alike (c_round_of c_divisor c_due : Nat) : Fn := ⟨5, 2,
    (.cons (.asg (.n [2]) (.call c_round_of (.app []) (.cons (.v 0) .nil)))
    (.cons (.asg (.n [3]) (.call c_round_of (.app []) (.cons (.v 1) .nil)))
    (.cons (.for_ (.n [4]) (.rng (.bin .sub (.bin .add (.v 2) (.v 3)) (.call c_divisor (.app []) (.cons (.v 2) (.cons (.v 3) .nil)))))
    (.cons (.ite (.cmp .ne (.callk c_due (.perm [.inl 0, .inl 1]) (.cons (.v 0) (.cons (.v 4) .nil)) .nil) (.callk c_due (.perm [.inl 0, .inl 1]) (.cons (.v 1) (.cons (.v 4) .nil)) .nil))
    (.cons (.ret (.v 4))
    .nil)
    .nil)
    .nil))
    (.cons (.ret (.c (.non)))
    .nil))))⟩
/-- _law_step(_law_tree_here) (k05): _law_tree_here=0 _law_parts=1 _law_whose=2 -/
def F_law_step (c_law_step : Nat) : Fn := ⟨3, 1,
    (.cons (.ite (.cmp .eq (.ix (.v 0) (.c (.int 0))) (.c (.str "one")))
    (.cons (.ret (.tup (.cons (.ix (.v 0) (.c (.int 1))) (.cons (.v 0) .nil))))
    .nil)
    .nil)
    (.cons (.asg (.n [1]) (.b1 .list (.ix (.v 0) (.c (.int 2)))))
    (.cons (.asg (.vix 2 (.v 1) (.ix (.v 0) (.c (.int 1)))) (.call c_law_step (.app []) (.cons (.ix (.v 1) (.ix (.v 0) (.c (.int 1)))) .nil)))
    (.cons (.ret (.tup (.cons (.v 2) (.cons (.tup (.cons (.c (.str "turns")) (.cons (.bin .mod (.bin .add (.ix (.v 0) (.c (.int 1))) (.c (.int 1))) (.b1 .len (.v 1))) (.cons (.b1 .tuple (.v 1)) .nil)))) .nil))))
    .nil))))⟩
/-- _law_row(_law_tree_here, _law_sides) (k05): _law_tree_here=0 _law_sides=1 _law_found=2 _law_step_here=3 _law_whose=4 -/
def F_law_row (c_law_step : Nat) : Fn := ⟨5, 2,
    (.cons (.asg (.n [2]) (.lst .nil))
    (.cons (.for_ (.n [3]) (.rng (.v 1))
    (.cons (.asg (.n [4, 0]) (.call c_law_step (.app []) (.cons (.v 0) .nil)))
    (.cons (.ex (.bm .append (.v 2) (.cons (.v 4) .nil)))
    .nil)))
    (.cons (.ret (.tup (.cons (.v 2) (.cons (.v 0) .nil))))
    .nil)))⟩
/-- _law_leaves(_law_tree_here, _law_road) (k05): _law_tree_here=0 _law_road=1 _law_found=2 _law_at=3 _law_part=4 -/
def F_law_leaves (c_law_leaves : Nat) : Fn := ⟨5, 2,
    (.cons (.ite (.cmp .eq (.ix (.v 0) (.c (.int 0))) (.c (.str "one")))
    (.cons (.ret (.lst (.cons (.tup (.cons (.ix (.v 0) (.c (.int 1))) (.cons (.v 1) .nil))) .nil)))
    .nil)
    .nil)
    (.cons (.asg (.n [2]) (.lst .nil))
    (.cons (.for_ (.n [3, 4]) (.enm (.ix (.v 0) (.c (.int 2))) 0)
    (.cons (.asg (.n [2]) (.bin .add (.v 2) (.call c_law_leaves (.app []) (.cons (.v 4) (.cons (.bin .add (.v 1) (.tup (.cons (.v 3) .nil))) .nil)))))
    .nil))
    (.cons (.ret (.v 2))
    .nil))))⟩
/-- _law_holders(_law_tree_here) (k05): _law_tree_here=0 _law_found=1 _law_whose=2 _law_road=3 -/
def F_law_holders (c_law_leaves : Nat) : Fn := ⟨4, 1,
    (.cons (.asg (.n [1]) (.lst .nil))
    (.cons (.for_ (.n [2, 3]) (.seq (.call c_law_leaves (.app []) (.cons (.v 0) (.cons (.tup .nil) .nil))))
    (.cons (.ite (.cmp .nin (.v 2) (.v 1))
    (.cons (.ex (.bm .append (.v 1) (.cons (.v 2) .nil)))
    .nil)
    .nil)
    .nil))
    (.cons (.ret (.v 1))
    .nil)))⟩
/-- _law_plain(_law_tree_here) (k05): _law_tree_here=0 _law_some=1 _law_part=2 -/
def F_law_plain (c_law_holders c_law_plain : Nat) : Fn := ⟨3, 1,
    (.cons (.ite (.cmp .eq (.ix (.v 0) (.c (.int 0))) (.c (.str "one")))
    (.cons (.ret (.v 0))
    .nil)
    .nil)
    (.cons (.asg (.n [1]) (.call c_law_holders (.app []) (.cons (.v 0) .nil)))
    (.cons (.ite (.cmp .eq (.b1 .len (.v 1)) (.c (.int 1)))
    (.cons (.ret (.tup (.cons (.c (.str "one")) (.cons (.ix (.v 1) (.c (.int 0))) .nil))))
    .nil)
    .nil)
    (.cons (.ret (.tup (.cons (.c (.str "turns")) (.cons (.ix (.v 0) (.c (.int 1))) (.cons (.b1 .tuple (.lc (.call c_law_plain (.app []) (.cons (.v 2) .nil)) [2] [2] (.seq (.ix (.v 0) (.c (.int 2)))) (.c (.bl true)))) .nil)))))
    .nil))))⟩
/-- law(_law_script) (k05): _law_script=0 _law_box_here=1 _law_pool=2 _law_k=3 _law_right_here=4 _law_want=5 _law_found=6 -/
def F_law_k05 (c_law_box c_law_names c_law_take c_law_right c_law_plain c_plain c_law_same c_law_row c_alike : Nat) : Fn := ⟨7, 1,
    (.cons (.asg (.n [1]) (.call c_law_box (.app []) (.cons (.v 0) .nil)))
    (.cons (.asg (.n [2]) (.sl (.call c_law_names (.app []) (.cons (.v 1) (.cons (.c (.int 4)) .nil))) .nil (.bin .add (.c (.int 1)) (.call c_law_take (.app []) (.cons (.v 1) (.cons (.c (.int 4)) .nil))))))
    (.cons (.for_ (.n [3]) (.rng (.c (.int 4)))
    (.cons (.asg (.n [4]) (.call c_law_right (.app []) (.cons (.v 1) (.cons (.v 2) .nil))))
    (.cons (.asg (.n [5]) (.call c_law_plain (.app []) (.cons (.v 4) .nil)))
    (.cons (.asg (.n [6]) (.call c_plain (.app []) (.cons (.v 4) .nil)))
    (.cons (.ite (.or (.not (.call c_law_same (.app []) (.cons (.v 6) (.cons (.v 5) .nil)))) (.not (.call c_law_same (.app []) (.cons (.call c_plain (.app []) (.cons (.v 6) .nil)) (.cons (.v 5) .nil)))))
    (.cons (.ret (.c (.bl false)))
    .nil)
    .nil)
    (.cons (.ite (.or (.cmp .ne (.ix (.call c_law_row (.app []) (.cons (.v 4) (.cons (.c (.int 60)) .nil))) (.c (.int 0))) (.ix (.call c_law_row (.app []) (.cons (.v 5) (.cons (.c (.int 60)) .nil))) (.c (.int 0)))) (.cmp .isn (.call c_alike (.app []) (.cons (.v 4) (.cons (.v 6) .nil))) (.c (.non))))
    (.cons (.ret (.c (.bl false)))
    .nil)
    .nil)
    .nil))))))
    (.cons (.ret (.c (.bl true)))
    .nil))))⟩
/-- visits(number, later, many) (k07): number=0 later=1 many=2 -/
def F_visits : Fn := ⟨3, 3,
    (.cons (.ret (.bin .div (.bin .sub (.bin .add (.bin .sub (.v 0) (.v 1)) (.v 2)) (.c (.int 1))) (.v 2)))
    .nil)⟩
/-- behind(right, many) (k07): right=0 many=1 size=2 parts=3 at=4 part=5 -/
def F_behind (c_behind c_visits c_later_of : Nat) : Fn := ⟨6, 2,
    (.cons (.ite (.cmp .eq (.ix (.v 0) (.c (.int 0))) (.c (.str "one")))
    (.cons (.ret (.v 0))
    .nil)
    .nil)
    (.cons (.asg (.n [2]) (.b1 .len (.ix (.v 0) (.c (.int 2)))))
    (.cons (.asg (.n [3]) (.lst .nil))
    (.cons (.for_ (.n [4, 5]) (.enm (.ix (.v 0) (.c (.int 2))) 0)
    (.cons (.ex (.bm .append (.v 3) (.cons (.callk c_behind (.perm [.inl 0, .inl 1]) (.cons (.v 5) (.cons (.call c_visits (.app []) (.cons (.v 1) (.cons (.call c_later_of (.app []) (.cons (.v 0) (.cons (.v 4) .nil))) (.cons (.v 2) .nil)))) .nil)) .nil) .nil)))
    .nil))
    (.cons (.ret (.tup (.cons (.c (.str "turns")) (.cons (.bin .mod (.bin .add (.ix (.v 0) (.c (.int 1))) (.v 1)) (.v 2)) (.cons (.b1 .tuple (.v 3)) .nil)))))
    .nil)))))⟩
/-- row(right, many, start) (k07): right=0 many=1 start=2 step=3 -/
def F_row (c_due : Nat) : Fn := ⟨4, 3,
    (.cons (.ret (.lc (.callk c_due (.perm [.inl 0, .inl 1]) (.cons (.v 0) (.cons (.bin .add (.v 2) (.v 3)) .nil)) .nil) [3] [3] (.rng (.v 1)) (.c (.bl true))))
    .nil)⟩
/-- law(_law_script) (k07): _law_script=0 _law_box_here=1 _law_pool_here=2 _law_k=3 _law_tree_here=4 _law_want=5 _law_now=6 _law_figure=7 _law_name=8 _law_later=9 _law_sides=10 _law_begin=11 _law_found=12 -/
def F_law_k07 (c_law_box c_law_pool c_law_right c_law_row c_law_same c_due c_behind c_law_step c_law_take c_row : Nat) : Fn := ⟨13, 1,
    (.cons (.asg (.n [1]) (.call c_law_box (.app []) (.cons (.v 0) .nil)))
    (.cons (.asg (.n [2]) (.call c_law_pool (.app []) (.cons (.v 1) .nil)))
    (.cons (.for_ (.n [3]) (.rng (.c (.int 2)))
    (.cons (.asg (.n [4]) (.call c_law_right (.app []) (.cons (.v 1) (.cons (.v 2) .nil))))
    (.cons (.asg (.n [5]) (.ix (.call c_law_row (.app []) (.cons (.v 4) (.cons (.c (.int 60)) .nil))) (.c (.int 0))))
    (.cons (.asg (.n [6]) (.v 4))
    (.cons (.for_ (.n [7]) (.rng (.c (.int 20)))
    (.cons (.ite (.not (.call c_law_same (.app []) (.cons (.lst (.cons (.callk c_due (.perm [.inl 0, .inl 1]) (.cons (.v 4) (.cons (.v 7) .nil)) .nil) (.cons (.callk c_due (.perm [.inl 0, .inr (.int 0)]) (.cons (.v 6) .nil) .nil) .nil))) (.cons (.lst (.cons (.ix (.v 5) (.v 7)) (.cons (.ix (.v 5) (.v 7)) .nil))) .nil))))
    (.cons (.ret (.c (.bl false)))
    .nil)
    .nil)
    (.cons (.ite (.not (.call c_law_same (.app []) (.cons (.callk c_behind (.perm [.inl 0, .inl 1]) (.cons (.v 4) .nil) (.cons (.v 7) .nil)) (.cons (.v 6) .nil))))
    (.cons (.ret (.c (.bl false)))
    .nil)
    .nil)
    (.cons (.asg (.n [8, 9]) (.call c_law_step (.app []) (.cons (.v 6) .nil)))
    (.cons (.ite (.or (.not (.call c_law_same (.app []) (.cons (.callk c_behind (.perm [.inl 0, .inr (.int 1)]) (.cons (.v 6) .nil) .nil) (.cons (.v 9) .nil)))) (.cmp .ne (.callk c_due (.perm [.inl 1, .inl 0]) .nil (.cons (.v 7) (.cons (.v 4) .nil))) (.v 8)))
    (.cons (.ret (.c (.bl false)))
    .nil)
    .nil)
    (.cons (.asg (.n [6]) (.v 9))
    .nil))))))
    (.cons (.asg (.n [10]) (.call c_law_take (.app []) (.cons (.v 1) (.cons (.c (.int 41)) .nil))))
    (.cons (.asg (.n [11]) (.call c_law_take (.app []) (.cons (.v 1) (.cons (.c (.int 20)) .nil))))
    (.cons (.asg (.n [12]) (.callk c_row (.perm [.inl 0, .inl 1, .inl 2]) (.cons (.v 4) (.cons (.v 10) (.cons (.v 11) .nil))) .nil))
    (.cons (.ite (.or (.not (.call c_law_same (.app []) (.cons (.v 12) (.cons (.sl (.v 5) (.v 11) (.bin .add (.v 11) (.v 10))) .nil)))) (.not (.call c_law_same (.app []) (.cons (.callk c_row (.perm [.inl 0, .inr (.int 12), .inr (.int 0)]) (.cons (.v 4) .nil) .nil) (.cons (.sl (.v 5) .nil (.c (.int 12))) .nil)))))
    (.cons (.ret (.c (.bl false)))
    .nil)
    .nil)
    (.cons (.ex (.bm .append (.v 12) (.cons (.c (.str "z")) .nil)))
    (.cons (.ite (.not (.call c_law_same (.app []) (.cons (.callk c_row (.perm [.inl 0, .inl 2, .inl 1]) (.cons (.v 4) .nil) (.cons (.v 11) (.cons (.v 10) .nil))) (.cons (.sl (.v 5) (.v 11) (.bin .add (.v 11) (.v 10))) .nil))))
    (.cons (.ret (.c (.bl false)))
    .nil)
    .nil)
    .nil)))))))))))
    (.cons (.ret (.c (.bl true)))
    .nil))))⟩
/-- _law_back_step(_law_tree_here) (k08): _law_tree_here=0 _law_parts=1 _law_at=2 -/
def F_law_back_step (c_law_back_step : Nat) : Fn := ⟨3, 1,
    (.cons (.ite (.cmp .eq (.ix (.v 0) (.c (.int 0))) (.c (.str "one")))
    (.cons (.ret (.v 0))
    .nil)
    .nil)
    (.cons (.asg (.n [1]) (.b1 .list (.ix (.v 0) (.c (.int 2)))))
    (.cons (.asg (.n [2]) (.bin .mod (.bin .sub (.ix (.v 0) (.c (.int 1))) (.c (.int 1))) (.b1 .len (.v 1))))
    (.cons (.asg (.ix (.v 1) (.v 2)) (.call c_law_back_step (.app []) (.cons (.ix (.v 1) (.v 2)) .nil)))
    (.cons (.ret (.tup (.cons (.c (.str "turns")) (.cons (.v 2) (.cons (.b1 .tuple (.v 1)) .nil)))))
    .nil)))))⟩
/-- law(_law_script) (k08): _law_script=0 _law_box_here=1 _law_pool_here=2 _law_k=3 _law_right_here=4 _law_many=5 _law_past=6 _law_step_here=7 _law_want=8 -/
def F_law_k08 (c_law_box c_law_pool c_law_right c_law_take c_law_back_step c_law_same c_behind c_law_row c_row c_due : Nat) : Fn := ⟨9, 1,
    (.cons (.asg (.n [1]) (.call c_law_box (.app []) (.cons (.v 0) .nil)))
    (.cons (.asg (.n [2]) (.call c_law_pool (.app []) (.cons (.v 1) .nil)))
    (.cons (.for_ (.n [3]) (.rng (.c (.int 2)))
    (.cons (.asg (.n [4]) (.call c_law_right (.app []) (.cons (.v 1) (.cons (.v 2) .nil))))
    (.cons (.asg (.n [5]) (.call c_law_take (.app []) (.cons (.v 1) (.cons (.c (.int 41)) .nil))))
    (.cons (.asg (.n [6]) (.v 4))
    (.cons (.for_ (.n [7]) (.rng (.v 5))
    (.cons (.asg (.n [6]) (.call c_law_back_step (.app []) (.cons (.v 6) .nil)))
    .nil))
    (.cons (.ite (.or (.not (.call c_law_same (.app []) (.cons (.callk c_behind (.perm [.inl 0, .inl 1]) (.cons (.v 4) (.cons (.neg (.v 5)) .nil)) .nil) (.cons (.v 6) .nil)))) (.not (.call c_law_same (.app []) (.cons (.callk c_behind (.perm [.inl 0, .inl 1]) (.cons (.v 6) (.cons (.v 5) .nil)) .nil) (.cons (.v 4) .nil)))))
    (.cons (.ret (.c (.bl false)))
    .nil)
    .nil)
    (.cons (.asg (.n [8]) (.ix (.call c_law_row (.app []) (.cons (.v 6) (.cons (.bin .add (.v 5) (.c (.int 5))) .nil))) (.c (.int 0))))
    (.cons (.ite (.not (.call c_law_same (.app []) (.cons (.callk c_row (.perm [.inl 0, .inl 1, .inl 2]) (.cons (.v 4) (.cons (.bin .add (.v 5) (.c (.int 5))) .nil)) (.cons (.neg (.v 5)) .nil)) (.cons (.v 8) .nil))))
    (.cons (.ret (.c (.bl false)))
    .nil)
    .nil)
    (.cons (.ite (.cmp .gt (.v 5) (.c (.int 0)))
    (.cons (.ite (.not (.call c_law_same (.app []) (.cons (.lst (.cons (.callk c_due (.perm [.inl 0, .inl 1]) (.cons (.v 4) (.cons (.neg (.c (.int 1))) .nil)) .nil) (.cons (.callk c_due (.perm [.inl 0, .inl 1]) (.cons (.v 4) (.cons (.neg (.v 5)) .nil)) .nil) .nil))) (.cons (.lst (.cons (.ix (.v 8) (.bin .sub (.v 5) (.c (.int 1)))) (.cons (.ix (.v 8) (.c (.int 0))) .nil))) .nil))))
    (.cons (.ret (.c (.bl false)))
    .nil)
    .nil)
    .nil)
    .nil)
    .nil)))))))))
    (.cons (.ret (.c (.bl true)))
    .nil))))⟩
/-- _law_far(_law_box_here) (k09): _law_box_here=0 -/
def F_law_far (c_law_take : Nat) : Fn := ⟨1, 1,
    (.cons (.ret (.ix (.lst (.cons (.call c_law_take (.app []) (.cons (.v 0) (.cons (.c (.int 40)) .nil))) (.cons (.call c_law_take (.app []) (.cons (.v 0) (.cons (.bin .pow (.c (.int 10)) (.c (.int 6))) .nil))) (.cons (.bin .add (.bin .pow (.c (.int 10)) (.c (.int 29))) (.call c_law_take (.app []) (.cons (.v 0) (.cons (.bin .pow (.c (.int 10)) (.c (.int 18))) .nil)))) .nil)))) (.call c_law_take (.app []) (.cons (.v 0) (.cons (.c (.int 3)) .nil)))))
    .nil)⟩
/-- _law_any(_law_box_here) (k09): _law_box_here=0 -/
def F_law_any (c_law_far c_law_take : Nat) : Fn := ⟨1, 1,
    (.cons (.ret (.bin .mul (.call c_law_far (.app []) (.cons (.v 0) .nil)) (.bin .sub (.c (.int 1)) (.bin .mul (.c (.int 2)) (.call c_law_take (.app []) (.cons (.v 0) (.cons (.c (.int 2)) .nil)))))))
    .nil)⟩
/-- _law_both(_law_one, _law_other) (k09): _law_one=0 _law_other=1 -/
def F_law_both : Fn := ⟨2, 2,
    (.cons (.whl (.cmp .gt (.v 1) (.c (.int 0)))
    (.cons (.par 0 1 (.v 1) (.bin .mod (.v 0) (.v 1)))
    .nil))
    (.cons (.ret (.v 0))
    .nil))⟩
/-- _law_round(_law_tree_here) (k09): _law_tree_here=0 _law_found=1 _law_part=2 _law_size=3 -/
def F_law_round (c_law_round c_law_both : Nat) : Fn := ⟨4, 1,
    (.cons (.ite (.cmp .eq (.ix (.v 0) (.c (.int 0))) (.c (.str "one")))
    (.cons (.ret (.c (.int 1)))
    .nil)
    .nil)
    (.cons (.asg (.n [1]) (.c (.int 1)))
    (.cons (.for_ (.n [2]) (.seq (.ix (.v 0) (.c (.int 2))))
    (.cons (.asg (.n [3]) (.call c_law_round (.app []) (.cons (.v 2) .nil)))
    (.cons (.asg (.n [1]) (.bin .div (.bin .mul (.v 1) (.v 3)) (.call c_law_both (.app []) (.cons (.v 1) (.cons (.v 3) .nil)))))
    .nil)))
    (.cons (.ret (.bin .mul (.v 1) (.b1 .len (.ix (.v 0) (.c (.int 2))))))
    .nil))))⟩
/-- law(_law_script) (k09): _law_script=0 _law_box_here=1 _law_pool_here=2 _law_k=3 _law_right_here=4 _law_size=5 _law_one=6 _law_other=7 _law_there=8 _law_step_here=9 _law_names_here=10 _law_later=11 -/
def F_law_k09 (c_law_box c_law_pool c_law_right c_law_round c_law_any c_behind c_law_same c_due c_row c_law_row c_law_step : Nat) : Fn := ⟨12, 1,
    (.cons (.asg (.n [1]) (.call c_law_box (.app []) (.cons (.v 0) .nil)))
    (.cons (.asg (.n [2]) (.call c_law_pool (.app []) (.cons (.v 1) .nil)))
    (.cons (.for_ (.n [3]) (.rng (.c (.int 3)))
    (.cons (.asg (.n [4]) (.call c_law_right (.app []) (.cons (.v 1) (.cons (.v 2) .nil))))
    (.cons (.asg (.n [5]) (.call c_law_round (.app []) (.cons (.v 4) .nil)))
    (.cons (.asg (.n [6]) (.call c_law_any (.app []) (.cons (.v 1) .nil)))
    (.cons (.asg (.n [7]) (.call c_law_any (.app []) (.cons (.v 1) .nil)))
    (.cons (.asg (.n [8]) (.callk c_behind (.perm [.inl 0, .inl 1]) (.cons (.v 4) (.cons (.v 6) .nil)) .nil))
    (.cons (.ite (.not (.call c_law_same (.app []) (.cons (.callk c_behind (.perm [.inl 0, .inl 1]) (.cons (.v 8) (.cons (.v 7) .nil)) .nil) (.cons (.callk c_behind (.perm [.inl 0, .inl 1]) (.cons (.v 4) (.cons (.bin .add (.v 6) (.v 7)) .nil)) .nil) .nil))))
    (.cons (.ret (.c (.bl false)))
    .nil)
    .nil)
    (.cons (.ite (.not (.call c_law_same (.app []) (.cons (.lst (.cons (.callk c_due (.perm [.inl 0, .inl 1]) (.cons (.v 8) (.cons (.v 7) .nil)) .nil) (.cons (.callk c_due (.perm [.inl 0, .inr (.int 0)]) (.cons (.v 8) .nil) .nil) .nil))) (.cons (.lst (.cons (.callk c_due (.perm [.inl 0, .inl 1]) (.cons (.v 4) (.cons (.bin .add (.v 6) (.v 7)) .nil)) .nil) (.cons (.callk c_due (.perm [.inl 0, .inl 1]) (.cons (.v 4) (.cons (.v 6) .nil)) .nil) .nil))) .nil))))
    (.cons (.ret (.c (.bl false)))
    .nil)
    .nil)
    (.cons (.ite (.not (.call c_law_same (.app []) (.cons (.lst (.cons (.callk c_behind (.perm [.inl 0, .inl 1]) (.cons (.v 4) (.cons (.bin .sub (.v 6) (.bin .mod (.v 6) (.v 5))) .nil)) .nil) (.cons (.callk c_behind (.perm [.inl 0, .inl 1]) (.cons (.v 8) (.cons (.neg (.v 6)) .nil)) .nil) .nil))) (.cons (.lst (.cons (.v 4) (.cons (.v 4) .nil))) .nil))))
    (.cons (.ret (.c (.bl false)))
    .nil)
    .nil)
    (.cons (.ite (.not (.call c_law_same (.app []) (.cons (.callk c_row (.perm [.inl 0, .inl 1, .inl 2]) (.cons (.v 4) (.cons (.c (.int 3)) (.cons (.v 6) .nil))) .nil) (.cons (.lc (.callk c_due (.perm [.inl 0, .inl 1]) (.cons (.v 4) (.cons (.bin .add (.v 6) (.v 9)) .nil)) .nil) [9] [9] (.rng (.c (.int 3))) (.c (.bl true))) .nil))))
    (.cons (.ret (.c (.bl false)))
    .nil)
    .nil)
    (.cons (.ite (.cmp .le (.v 5) (.c (.int 400)))
    (.cons (.asg (.n [10, 11]) (.call c_law_row (.app []) (.cons (.v 4) (.cons (.bin .mod (.v 6) (.v 5)) .nil))))
    (.cons (.ite (.or (.not (.call c_law_same (.app []) (.cons (.v 8) (.cons (.v 11) .nil)))) (.not (.call c_law_same (.app []) (.cons (.callk c_due (.perm [.inl 0, .inl 1]) (.cons (.v 4) (.cons (.v 6) .nil)) .nil) (.cons (.ix (.call c_law_step (.app []) (.cons (.v 11) .nil)) (.c (.int 0))) .nil)))))
    (.cons (.ret (.c (.bl false)))
    .nil)
    .nil)
    .nil))
    .nil)
    .nil)))))))))))
    (.cons (.ret (.c (.bl true)))
    .nil))))⟩
/-- wait(right, name, start) (k10): right=0 name=1 start=2 size=3 found=4 at=5 part=6 later=7 number=8 -/
def F_wait (c_later_of c_wait c_visits : Nat) : Fn := ⟨9, 3,
    (.cons (.ite (.cmp .eq (.ix (.v 0) (.c (.int 0))) (.c (.str "one")))
    (.cons (.ret (.ite (.cmp .eq (.ix (.v 0) (.c (.int 1))) (.v 1)) (.v 2) (.c (.non))))
    .nil)
    .nil)
    (.cons (.asg (.n [3]) (.b1 .len (.ix (.v 0) (.c (.int 2)))))
    (.cons (.asg (.n [4]) (.lst .nil))
    (.cons (.for_ (.n [5, 6]) (.enm (.ix (.v 0) (.c (.int 2))) 0)
    (.cons (.asg (.n [7]) (.call c_later_of (.app []) (.cons (.v 0) (.cons (.v 5) .nil))))
    (.cons (.asg (.n [8]) (.callk c_wait (.perm [.inl 0, .inl 1, .inl 2]) (.cons (.v 6) (.cons (.v 1) (.cons (.call c_visits (.app []) (.cons (.v 2) (.cons (.v 7) (.cons (.v 3) .nil)))) .nil))) .nil))
    (.cons (.ite (.cmp .isn (.v 8) (.c (.non)))
    (.cons (.ex (.bm .append (.v 4) (.cons (.bin .add (.v 7) (.bin .mul (.v 3) (.v 8))) .nil)))
    .nil)
    .nil)
    .nil))))
    (.cons (.ret (.b1 .minD (.v 4)))
    .nil)))))⟩
/-- _law_absent(_law_pool_here) (k10): _law_pool_here=0 _law_letters=1 _law_sign=2 -/
def F_law_absent : Fn := ⟨3, 1,
    (.cons (.asg (.n [1]) (.c (.str "abcdefghijklmnopqrstuvwxyz")))
    (.cons (.ret (.ix (.lc (.bin .add (.sl (.ix (.v 0) (.c (.int 0))) .nil (.neg (.c (.int 1)))) (.v 2)) [2] [2] (.seq (.v 1)) (.cmp .nin (.bin .add (.sl (.ix (.v 0) (.c (.int 0))) .nil (.neg (.c (.int 1)))) (.v 2)) (.v 0))) (.c (.int 0))))
    .nil))⟩
/-- law(_law_script) (k10): _law_script=0 _law_box_here=1 _law_pool_here=2 _law_right_here=3 _law_own=4 _law_whose=5 _law_begin=6 _law_found=7 _law_step=8 -/
def F_law_k10 (c_law_box c_law_pool c_law_right c_law_holders c_law_absent c_law_any c_wait c_due c_law_round c_law_same : Nat) : Fn := ⟨9, 1,
    (.cons (.asg (.n [1]) (.call c_law_box (.app []) (.cons (.v 0) .nil)))
    (.cons (.asg (.n [2]) (.call c_law_pool (.app []) (.cons (.v 1) .nil)))
    (.cons (.asg (.n [3]) (.call c_law_right (.app []) (.cons (.v 1) (.cons (.v 2) .nil))))
    (.cons (.asg (.n [4]) (.call c_law_holders (.app []) (.cons (.v 3) .nil)))
    (.cons (.for_ (.n [5]) (.seq (.bin .add (.v 2) (.lst (.cons (.call c_law_absent (.app []) (.cons (.v 2) .nil)) .nil))))
    (.cons (.asg (.n [6]) (.call c_law_any (.app []) (.cons (.v 1) .nil)))
    (.cons (.asg (.n [7]) (.callk c_wait (.perm [.inl 0, .inl 1, .inl 2]) (.cons (.v 3) (.cons (.v 5) (.cons (.v 6) .nil))) .nil))
    (.cons (.ite (.cmp .ne (.cmp .is (.v 7) (.c (.non))) (.cmp .nin (.v 5) (.v 4)))
    (.cons (.ret (.c (.bl false)))
    .nil)
    .nil)
    (.cons (.ite (.cmp .isn (.v 7) (.c (.non)))
    (.cons (.ite (.or (.not (.isi (.v 7) [.int])) (.or (.cmp .lt (.v 7) (.v 6)) (.cmp .ne (.callk c_due (.perm [.inl 0, .inl 1]) (.cons (.v 3) (.cons (.v 7) .nil)) .nil) (.v 5))))
    (.cons (.ret (.c (.bl false)))
    .nil)
    .nil)
    (.cons (.ite (.cmp .inn (.v 5) (.lc (.callk c_due (.perm [.inl 0, .inl 1]) (.cons (.v 3) (.cons (.bin .add (.v 6) (.v 8)) .nil)) .nil) [8] [8] (.rng (.b2 .min (.c (.int 300)) (.bin .sub (.v 7) (.v 6)))) (.c (.bl true))))
    (.cons (.ret (.c (.bl false)))
    .nil)
    .nil)
    (.cons (.ite (.cmp .ge (.bin .sub (.v 7) (.v 6)) (.call c_law_round (.app []) (.cons (.v 3) .nil)))
    (.cons (.ret (.c (.bl false)))
    .nil)
    .nil)
    .nil)))
    .nil)
    (.cons (.ite (.not (.call c_law_same (.app []) (.cons (.callk c_wait (.perm [.inl 0, .inl 1, .inr (.int 0)]) (.cons (.v 3) (.cons (.v 5) .nil)) .nil) (.cons (.callk c_wait (.perm [.inl 0, .inl 2, .inl 1]) (.cons (.v 3) .nil) (.cons (.c (.int 0)) (.cons (.v 5) .nil))) .nil))))
    (.cons (.ret (.c (.bl false)))
    .nil)
    .nil)
    .nil))))))
    (.cons (.ret (.c (.bl true)))
    .nil))))))⟩
/-- law(_law_script) (k12): _law_script=0 _law_box_here=1 _law_pool_here=2 _law_k=3 _law_right_here=4 _law_size=5 _law_prime=6 -/
def F_law_k12 (c_law_box c_law_pool c_law_right c_round_of c_law_same c_law_round c_behind : Nat) : Fn := ⟨7, 1,
    (.cons (.asg (.n [1]) (.call c_law_box (.app []) (.cons (.v 0) .nil)))
    (.cons (.asg (.n [2]) (.call c_law_pool (.app []) (.cons (.v 1) .nil)))
    (.cons (.for_ (.n [3]) (.rng (.c (.int 3)))
    (.cons (.asg (.n [4]) (.call c_law_right (.app []) (.cons (.v 1) (.cons (.v 2) .nil))))
    (.cons (.asg (.n [5]) (.call c_round_of (.app []) (.cons (.v 4) .nil)))
    (.cons (.ite (.or (.not (.call c_law_same (.app []) (.cons (.v 5) (.cons (.call c_law_round (.app []) (.cons (.v 4) .nil)) .nil)))) (.not (.call c_law_same (.app []) (.cons (.callk c_behind (.perm [.inl 0, .inl 1]) (.cons (.v 4) (.cons (.v 5) .nil)) .nil) (.cons (.v 4) .nil)))))
    (.cons (.ret (.c (.bl false)))
    .nil)
    .nil)
    (.cons (.for_ (.n [6]) (.seq (.tup (.cons (.c (.int 2)) (.cons (.c (.int 3)) (.cons (.c (.int 5)) .nil)))))
    (.cons (.ite (.and (.cmp .eq (.bin .mod (.v 5) (.v 6)) (.c (.int 0))) (.cmp .eq (.callk c_behind (.perm [.inl 0, .inl 1]) (.cons (.v 4) (.cons (.bin .div (.v 5) (.v 6)) .nil)) .nil) (.v 4)))
    (.cons (.ret (.c (.bl false)))
    .nil)
    .nil)
    .nil))
    (.cons (.ite (.and (.cmp .gt (.v 5) (.c (.int 1))) (.not (.b1 .any (.lc (.cmp .eq (.bin .mod (.v 5) (.v 6)) (.c (.int 0))) [6] [6] (.seq (.tup (.cons (.c (.int 2)) (.cons (.c (.int 3)) (.cons (.c (.int 5)) .nil))))) (.c (.bl true))))))
    (.cons (.ret (.c (.bl false)))
    .nil)
    .nil)
    .nil))))))
    (.cons (.ret (.c (.bl true)))
    .nil))))⟩
/-- walk(right, path, found) (k13): right=0 path=1 found=2 at=3 part=4 -/
def F_walk (c_walk : Nat) : Fn := ⟨5, 3,
    (.cons (.ite (.cmp .eq (.ix (.v 0) (.c (.int 0))) (.c (.str "one")))
    (.cons (.ex (.bm .append (.v 2) (.cons (.tup (.cons (.ix (.v 0) (.c (.int 1))) (.cons (.v 1) .nil))) .nil)))
    .nil)
    (.cons (.for_ (.n [3, 4]) (.enm (.ix (.v 0) (.c (.int 2))) 0)
    (.cons (.ex (.call c_walk (.app []) (.cons (.v 4) (.cons (.bin .add (.v 1) (.tup (.cons (.v 3) .nil))) (.cons (.v 2) .nil)))))
    .nil))
    .nil))
    .nil)⟩
/-- all_paths(right) (k13): right=0 found=1 -/
def F_all_paths (c_walk : Nat) : Fn := ⟨2, 1,
    (.cons (.asg (.n [1]) (.lst .nil))
    (.cons (.ex (.call c_walk (.app []) (.cons (.v 0) (.cons (.tup .nil) (.cons (.v 1) .nil)))))
    (.cons (.ret (.v 1))
    .nil)))⟩
/-- holders(right) (k13): right=0 name=1 path=2 -/
def F_holders (c_all_paths : Nat) : Fn := ⟨3, 1,
    (.cons (.ret (.b1 .list (.b1 .dict (.lc (.tup (.cons (.v 1) (.cons (.c (.bl true)) .nil))) [1, 2] [1, 2] (.seq (.call c_all_paths (.app []) (.cons (.v 0) .nil))) (.c (.bl true))))))
    .nil)⟩
/-- ahead_of(right, name, number) (k13): right=0 name=1 number=2 size=3 at=4 part=5 -/
def F_ahead_of (c_ahead_of c_visits c_later_of : Nat) : Fn := ⟨6, 3,
    (.cons (.ite (.cmp .eq (.ix (.v 0) (.c (.int 0))) (.c (.str "one")))
    (.cons (.ret (.ite (.cmp .eq (.ix (.v 0) (.c (.int 1))) (.v 1)) (.v 2) (.c (.int 0))))
    .nil)
    .nil)
    (.cons (.asg (.n [3]) (.b1 .len (.ix (.v 0) (.c (.int 2)))))
    (.cons (.ret (.b1 .sum (.lc (.call c_ahead_of (.app []) (.cons (.v 5) (.cons (.v 1) (.cons (.call c_visits (.app []) (.cons (.v 2) (.cons (.call c_later_of (.app []) (.cons (.v 0) (.cons (.v 4) .nil))) (.cons (.v 3) .nil)))) .nil)))) [4, 5] [4, 5] (.enm (.ix (.v 0) (.c (.int 2))) 0) (.c (.bl true)))))
    .nil)))⟩
/-- count(right, name, many, start) (k13): right=0 name=1 many=2 start=3 -/
def F_count (c_ahead_of : Nat) : Fn := ⟨4, 4,
    (.cons (.ret (.bin .sub (.call c_ahead_of (.app []) (.cons (.v 0) (.cons (.v 1) (.cons (.bin .add (.v 3) (.v 2)) .nil)))) (.call c_ahead_of (.app []) (.cons (.v 0) (.cons (.v 1) (.cons (.v 3) .nil))))))
    .nil)⟩
/-- counts(right, many, start) (k13): right=0 many=1 start=2 name=3 -/
def F_counts (c_count c_holders : Nat) : Fn := ⟨4, 3,
    (.cons (.ret (.lc (.tup (.cons (.v 3) (.cons (.callk c_count (.perm [.inl 0, .inl 1, .inl 2, .inl 3]) (.cons (.v 0) (.cons (.v 3) (.cons (.v 1) .nil))) (.cons (.v 2) .nil)) .nil))) [3] [3] (.seq (.call c_holders (.app []) (.cons (.v 0) .nil))) (.c (.bl true))))
    .nil)⟩
/-- law(_law_script) (k13): _law_script=0 _law_box_here=1 _law_pool_here=2 _law_k=3 _law_tree_here=4 _law_sides=5 _law_begin=6 _law_past=7 _law_step_here=8 _law_names_here=9 _law_want=10 _law_name=11 _law_found=12 -/
def F_law_k13 (c_law_box c_law_pool c_law_right c_law_take c_law_back_step c_law_row c_law_holders c_counts c_law_same c_law_absent c_count : Nat) : Fn := ⟨13, 1,
    (.cons (.asg (.n [1]) (.call c_law_box (.app []) (.cons (.v 0) .nil)))
    (.cons (.asg (.n [2]) (.call c_law_pool (.app []) (.cons (.v 1) .nil)))
    (.cons (.for_ (.n [3]) (.rng (.c (.int 2)))
    (.cons (.asg (.n [4]) (.call c_law_right (.app []) (.cons (.v 1) (.cons (.v 2) .nil))))
    (.cons (.asg (.n [5]) (.call c_law_take (.app []) (.cons (.v 1) (.cons (.c (.int 100)) .nil))))
    (.cons (.asg (.n [6]) (.bin .sub (.call c_law_take (.app []) (.cons (.v 1) (.cons (.c (.int 81)) .nil))) (.c (.int 40))))
    (.cons (.asg (.n [7]) (.v 4))
    (.cons (.for_ (.n [8]) (.rng (.b2 .max (.c (.int 0)) (.neg (.v 6))))
    (.cons (.asg (.n [7]) (.call c_law_back_step (.app []) (.cons (.v 7) .nil)))
    .nil))
    (.cons (.asg (.n [9]) (.ix (.call c_law_row (.app []) (.cons (.ix (.call c_law_row (.app []) (.cons (.v 7) (.cons (.b2 .max (.c (.int 0)) (.v 6)) .nil))) (.c (.int 1))) (.cons (.v 5) .nil))) (.c (.int 0))))
    (.cons (.asg (.n [10]) (.lc (.tup (.cons (.v 11) (.cons (.bm .count (.v 9) (.cons (.v 11) .nil)) .nil))) [11] [11] (.seq (.call c_law_holders (.app []) (.cons (.v 4) .nil))) (.c (.bl true))))
    (.cons (.asg (.n [12]) (.callk c_counts (.perm [.inl 0, .inl 1, .inl 2]) (.cons (.v 4) (.cons (.v 5) (.cons (.v 6) .nil))) .nil))
    (.cons (.ite (.not (.call c_law_same (.app []) (.cons (.v 12) (.cons (.v 10) .nil))))
    (.cons (.ret (.c (.bl false)))
    .nil)
    .nil)
    (.cons (.ex (.bm .clear (.v 12) .nil))
    (.cons (.ite (.not (.call c_law_same (.app []) (.cons (.callk c_counts (.perm [.inl 2, .inl 1, .inl 0]) .nil (.cons (.v 6) (.cons (.v 5) (.cons (.v 4) .nil)))) (.cons (.v 10) .nil))))
    (.cons (.ret (.c (.bl false)))
    .nil)
    .nil)
    (.cons (.for_ (.n [11]) (.seq (.bin .add (.v 2) (.lst (.cons (.call c_law_absent (.app []) (.cons (.v 2) .nil)) .nil))))
    (.cons (.ite (.not (.call c_law_same (.app []) (.cons (.callk c_count (.perm [.inl 0, .inl 1, .inl 2, .inl 3]) (.cons (.v 4) (.cons (.v 11) (.cons (.v 5) (.cons (.v 6) .nil)))) .nil) (.cons (.bm .count (.v 9) (.cons (.v 11) .nil)) .nil))))
    (.cons (.ret (.c (.bl false)))
    .nil)
    .nil)
    .nil))
    (.cons (.asg (.n [9]) (.ix (.call c_law_row (.app []) (.cons (.v 4) (.cons (.v 5) .nil))) (.c (.int 0))))
    (.cons (.asg (.n [10]) (.lc (.tup (.cons (.v 11) (.cons (.bm .count (.v 9) (.cons (.v 11) .nil)) .nil))) [11] [11] (.seq (.call c_law_holders (.app []) (.cons (.v 4) .nil))) (.c (.bl true))))
    (.cons (.ite (.not (.call c_law_same (.app []) (.cons (.callk c_counts (.perm [.inl 0, .inl 1, .inr (.int 0)]) (.cons (.v 4) (.cons (.v 5) .nil)) .nil) (.cons (.v 10) .nil))))
    (.cons (.ret (.c (.bl false)))
    .nil)
    .nil)
    (.cons (.ite (.not (.call c_law_same (.app []) (.cons (.lc (.tup (.cons (.v 11) (.cons (.callk c_count (.perm [.inl 0, .inl 1, .inl 2, .inr (.int 0)]) (.cons (.v 4) (.cons (.v 11) (.cons (.v 5) .nil))) .nil) .nil))) [11] [11] (.seq (.call c_law_holders (.app []) (.cons (.v 4) .nil))) (.c (.bl true))) (.cons (.v 10) .nil))))
    (.cons (.ret (.c (.bl false)))
    .nil)
    .nil)
    .nil)))))))))))))))))
    (.cons (.ret (.c (.bl true)))
    .nil))))⟩
/-- _law_deep(_law_tree_here) (k16): _law_tree_here=0 _law_part=1 -/
def F_law_deep (c_law_deep : Nat) : Fn := ⟨2, 1,
    (.cons (.ite (.cmp .eq (.ix (.v 0) (.c (.int 0))) (.c (.str "one")))
    (.cons (.ret (.c (.int 1)))
    .nil)
    .nil)
    (.cons (.ret (.bin .add (.c (.int 1)) (.b1 .max (.lc (.call c_law_deep (.app []) (.cons (.v 1) .nil)) [1] [1] (.seq (.ix (.v 0) (.c (.int 2)))) (.c (.bl true))))))
    .nil))⟩
/-- _law_put(_law_tree_here, _law_road, _law_part) (k16): _law_tree_here=0 _law_road=1 _law_part=2 _law_parts=3 -/
def F_law_put (c_law_put : Nat) : Fn := ⟨4, 3,
    (.cons (.ite (.cmp .eq (.v 1) (.tup .nil))
    (.cons (.ret (.v 2))
    .nil)
    .nil)
    (.cons (.asg (.n [3]) (.b1 .list (.ix (.v 0) (.c (.int 2)))))
    (.cons (.asg (.ix (.v 3) (.ix (.v 1) (.c (.int 0)))) (.call c_law_put (.app []) (.cons (.ix (.v 3) (.ix (.v 1) (.c (.int 0)))) (.cons (.sl (.v 1) (.c (.int 1)) .nil) (.cons (.v 2) .nil)))))
    (.cons (.ret (.tup (.cons (.c (.str "turns")) (.cons (.ix (.v 0) (.c (.int 1))) (.cons (.b1 .tuple (.v 3)) .nil)))))
    .nil))))⟩
/-- _law_changed_right(_law_box_here, _law_right_here, _law_pool) (k16): _law_box_here=0 _law_right_here=1 _law_pool=2 _law_way=3 _law_every=4 _law_path=5 _law_one=6 _law_two=7 _law_parts_now=8 -/
def F_law_changed_right (c_law_take c_law_plain c_law_row c_law_leaves c_law_put c_law_right : Nat) : Fn := ⟨9, 3,
    (.cons (.asg (.n [3]) (.call c_law_take (.app []) (.cons (.v 0) (.cons (.c (.int 6)) .nil))))
    (.cons (.ite (.cmp .eq (.v 3) (.c (.int 0)))
    (.cons (.ret (.call c_law_plain (.app []) (.cons (.v 1) .nil)))
    .nil)
    .nil)
    (.cons (.ite (.cmp .eq (.v 3) (.c (.int 1)))
    (.cons (.ret (.ix (.call c_law_row (.app []) (.cons (.v 1) (.cons (.call c_law_take (.app []) (.cons (.v 0) (.cons (.c (.int 30)) .nil))) .nil))) (.c (.int 1))))
    .nil)
    .nil)
    (.cons (.ite (.cmp .eq (.v 3) (.c (.int 2)))
    (.cons (.asg (.n [4]) (.call c_law_leaves (.app []) (.cons (.v 1) (.cons (.tup .nil) .nil))))
    (.cons (.asg (.n [5]) (.ix (.ix (.v 4) (.call c_law_take (.app []) (.cons (.v 0) (.cons (.b1 .len (.v 4)) .nil)))) (.c (.int 1))))
    (.cons (.ret (.call c_law_put (.app []) (.cons (.v 1) (.cons (.v 5) (.cons (.tup (.cons (.c (.str "one")) (.cons (.ix (.v 2) (.call c_law_take (.app []) (.cons (.v 0) (.cons (.b1 .len (.v 2)) .nil)))) .nil))) .nil)))))
    .nil)))
    .nil)
    (.cons (.ite (.and (.cmp .eq (.v 3) (.c (.int 3))) (.and (.cmp .eq (.ix (.v 1) (.c (.int 0))) (.c (.str "turns"))) (.cmp .eq (.b1 .len (.ix (.v 1) (.c (.int 2)))) (.c (.int 2)))))
    (.cons (.asg (.n [6, 7]) (.ix (.v 1) (.c (.int 2))))
    (.cons (.asg (.n [8]) (.tup (.cons (.v 6) (.cons (.v 7) (.cons (.v 6) (.cons (.v 7) .nil))))))
    (.cons (.ret (.tup (.cons (.c (.str "turns")) (.cons (.ix (.v 1) (.c (.int 1))) (.cons (.v 8) .nil)))))
    .nil)))
    .nil)
    (.cons (.ite (.cmp .eq (.v 3) (.c (.int 4)))
    (.cons (.ret (.tup (.cons (.c (.str "turns")) (.cons (.call c_law_take (.app []) (.cons (.v 0) (.cons (.c (.int 2)) .nil))) (.cons (.tup (.cons (.v 1) (.cons (.v 1) .nil))) .nil)))))
    .nil)
    .nil)
    (.cons (.ret (.call c_law_right (.app []) (.cons (.v 0) (.cons (.v 2) .nil))))
    .nil)))))))⟩
/-- _law_flat(_law_box_here, _law_pool) (k16): _law_box_here=0 _law_pool=1 _law_size=2 _law_some=3 _law_k=4 _law_who=5 -/
def F_law_flat (c_law_take : Nat) : Fn := ⟨6, 2,
    (.cons (.asg (.n [2]) (.bin .add (.c (.int 2)) (.call c_law_take (.app []) (.cons (.v 0) (.cons (.c (.int 4)) .nil)))))
    (.cons (.asg (.n [3]) (.lc (.ix (.v 1) (.bin .mul (.bin .div (.call c_law_take (.app []) (.cons (.v 0) (.cons (.c (.int 5)) .nil))) (.c (.int 4))) (.b1 .int (.cmp .gt (.b1 .len (.v 1)) (.c (.int 1)))))) [4] [4] (.rng (.v 2)) (.c (.bl true))))
    (.cons (.ret (.tup (.cons (.c (.str "turns")) (.cons (.call c_law_take (.app []) (.cons (.v 0) (.cons (.v 2) .nil))) (.cons (.b1 .tuple (.lc (.tup (.cons (.c (.str "one")) (.cons (.v 5) .nil))) [5] [5] (.seq (.v 3)) (.c (.bl true)))) .nil)))))
    .nil)))⟩
/-- law(_law_script) (k16): _law_script=0 _law_box_here=1 _law_pool=2 _law_one=3 _law_other=4 _law_both_here=5 _law_here=6 _law_there=7 _law_want=8 _law_at=9 _law_number=10 _law_k=11 -/
def F_law_k16 (c_law_box c_law_names c_law_take c_law_tree c_law_changed_right c_law_round c_law_deep c_law_leaves c_law_row c_law_same c_alike c_law_any c_due c_law_flat : Nat) : Fn := ⟨12, 1,
    (.cons (.asg (.n [1]) (.call c_law_box (.app []) (.cons (.v 0) .nil)))
    (.cons (.asg (.n [2]) (.sl (.call c_law_names (.app []) (.cons (.v 1) (.cons (.c (.int 3)) .nil))) .nil (.bin .add (.c (.int 1)) (.call c_law_take (.app []) (.cons (.v 1) (.cons (.c (.int 3)) .nil))))))
    (.cons (.asg (.n [3]) (.call c_law_tree (.app []) (.cons (.v 1) (.cons (.bin .add (.c (.int 1)) (.call c_law_take (.app []) (.cons (.v 1) (.cons (.c (.int 3)) .nil)))) (.cons (.v 2) (.cons (.lst (.cons (.c (.int 11)) .nil)) .nil))))))
    (.cons (.asg (.n [4]) (.call c_law_changed_right (.app []) (.cons (.v 1) (.cons (.v 3) (.cons (.v 2) .nil)))))
    (.cons (.asg (.n [5]) (.bin .add (.call c_law_round (.app []) (.cons (.v 3) .nil)) (.call c_law_round (.app []) (.cons (.v 4) .nil))))
    (.cons (.ite (.or (.cmp .gt (.v 5) (.c (.int 1500))) (.or (.cmp .gt (.call c_law_deep (.app []) (.cons (.v 4) .nil)) (.c (.int 4))) (.cmp .gt (.b1 .len (.call c_law_leaves (.app []) (.cons (.v 4) (.cons (.tup .nil) .nil)))) (.c (.int 24)))))
    (.cons (.asg (.n [4]) (.v 3))
    (.cons (.asg (.n [5]) (.bin .mul (.c (.int 2)) (.call c_law_round (.app []) (.cons (.v 3) .nil))))
    .nil))
    .nil)
    (.cons (.asg (.n [6]) (.ix (.call c_law_row (.app []) (.cons (.v 3) (.cons (.v 5) .nil))) (.c (.int 0))))
    (.cons (.asg (.n [7]) (.ix (.call c_law_row (.app []) (.cons (.v 4) (.cons (.v 5) .nil))) (.c (.int 0))))
    (.cons (.asg (.n [8]) (.b1 .minD (.lc (.v 9) [9] [9] (.rng (.v 5)) (.cmp .ne (.ix (.v 6) (.v 9)) (.ix (.v 7) (.v 9))))))
    (.cons (.ite (.not (.call c_law_same (.app []) (.cons (.lst (.cons (.call c_alike (.app []) (.cons (.v 3) (.cons (.v 4) .nil))) (.cons (.call c_alike (.app []) (.cons (.v 4) (.cons (.v 3) .nil))) .nil))) (.cons (.lst (.cons (.v 8) (.cons (.v 8) .nil))) .nil))))
    (.cons (.ret (.c (.bl false)))
    .nil)
    .nil)
    (.cons (.ite (.cmp .is (.v 8) (.c (.non)))
    (.cons (.asg (.n [10]) (.call c_law_any (.app []) (.cons (.v 1) .nil)))
    (.cons (.ite (.cmp .ne (.callk c_due (.perm [.inl 0, .inl 1]) (.cons (.v 3) (.cons (.v 10) .nil)) .nil) (.callk c_due (.perm [.inl 0, .inl 1]) (.cons (.v 4) (.cons (.v 10) .nil)) .nil))
    (.cons (.ret (.c (.bl false)))
    .nil)
    .nil)
    .nil))
    .nil)
    (.cons (.for_ (.n [11]) (.rng (.c (.int 12)))
    (.cons (.asg (.n [3]) (.call c_law_flat (.app []) (.cons (.v 1) (.cons (.v 2) .nil))))
    (.cons (.asg (.n [4]) (.call c_law_flat (.app []) (.cons (.v 1) (.cons (.v 2) .nil))))
    (.cons (.asg (.n [6]) (.ix (.call c_law_row (.app []) (.cons (.v 3) (.cons (.c (.int 40)) .nil))) (.c (.int 0))))
    (.cons (.asg (.n [7]) (.ix (.call c_law_row (.app []) (.cons (.v 4) (.cons (.c (.int 40)) .nil))) (.c (.int 0))))
    (.cons (.asg (.n [8]) (.b1 .minD (.lc (.v 9) [9] [9] (.rng (.c (.int 40))) (.cmp .ne (.ix (.v 6) (.v 9)) (.ix (.v 7) (.v 9))))))
    (.cons (.ite (.not (.call c_law_same (.app []) (.cons (.call c_alike (.app []) (.cons (.v 3) (.cons (.v 4) .nil))) (.cons (.v 8) .nil))))
    (.cons (.ret (.c (.bl false)))
    .nil)
    .nil)
    .nil)))))))
    (.cons (.ret (.c (.bl true)))
    .nil)))))))))))))⟩
/-- settled(right, name, many) (k17): right=0 name=1 many=2 found=3 start=4 -/
def F_settled (c_count c_round_of : Nat) : Fn := ⟨5, 3,
    (.cons (.asg (.n [3]) (.lc (.callk c_count (.perm [.inl 0, .inl 1, .inl 2, .inl 3]) (.cons (.v 0) (.cons (.v 1) (.cons (.v 2) (.cons (.v 4) .nil)))) .nil) [4] [4] (.rng (.call c_round_of (.app []) (.cons (.v 0) .nil))) (.c (.bl true))))
    (.cons (.ret (.tup (.cons (.b1 .min (.v 3)) (.cons (.b1 .max (.v 3)) .nil))))
    .nil))⟩
/-- law(_law_script) (k17): _law_script=0 _law_box_here=1 _law_pool=2 _law_right_here=3 _law_size=4 _law_many=5 _law_far=6 _law_names_here=7 _law_name=8 _law_found=9 _law_start=10 _law_more=11 -/
def F_law_k17 (c_law_box c_law_names c_law_right c_law_round c_law_take c_law_row c_law_holders c_law_absent c_law_same c_settled : Nat) : Fn := ⟨12, 1,
    (.cons (.asg (.n [1]) (.call c_law_box (.app []) (.cons (.v 0) .nil)))
    (.cons (.asg (.n [2]) (.call c_law_names (.app []) (.cons (.v 1) (.cons (.c (.int 4)) .nil))))
    (.cons (.asg (.n [3]) (.call c_law_right (.app []) (.cons (.v 1) (.cons (.v 2) .nil))))
    (.cons (.ite (.cmp .gt (.call c_law_round (.app []) (.cons (.v 3) .nil)) (.c (.int 400)))
    (.cons (.asg (.n [3]) (.tup (.cons (.c (.str "turns")) (.cons (.c (.int 0)) (.cons (.tup (.cons (.tup (.cons (.c (.str "one")) (.cons (.ix (.v 2) (.c (.int 0))) .nil))) (.cons (.tup (.cons (.c (.str "one")) (.cons (.ix (.v 2) (.c (.int 1))) .nil))) (.cons (.tup (.cons (.c (.str "one")) (.cons (.ix (.v 2) (.c (.int 0))) .nil))) .nil)))) .nil)))))
    .nil)
    .nil)
    (.cons (.asg (.n [4]) (.call c_law_round (.app []) (.cons (.v 3) .nil)))
    (.cons (.asg (.n [5]) (.call c_law_take (.app []) (.cons (.v 1) (.cons (.c (.int 61)) .nil))))
    (.cons (.asg (.n [6]) (.bin .add (.bin .pow (.c (.int 10)) (.c (.int 29))) (.call c_law_take (.app []) (.cons (.v 1) (.cons (.bin .pow (.c (.int 10)) (.c (.int 9))) .nil)))))
    (.cons (.asg (.n [7]) (.ix (.call c_law_row (.app []) (.cons (.v 3) (.cons (.bin .add (.v 4) (.v 5)) .nil))) (.c (.int 0))))
    (.cons (.for_ (.n [8]) (.seq (.bin .add (.call c_law_holders (.app []) (.cons (.v 3) .nil)) (.lst (.cons (.call c_law_absent (.app []) (.cons (.v 2) .nil)) .nil))))
    (.cons (.asg (.n [9]) (.lc (.bm .count (.sl (.v 7) (.v 10) (.bin .add (.v 10) (.v 5))) (.cons (.v 8) .nil)) [10] [10] (.rng (.v 4)) (.c (.bl true))))
    (.cons (.ite (.not (.call c_law_same (.app []) (.cons (.call c_settled (.app []) (.cons (.v 3) (.cons (.v 8) (.cons (.v 5) .nil)))) (.cons (.tup (.cons (.b1 .min (.v 9)) (.cons (.b1 .max (.v 9)) .nil))) .nil))))
    (.cons (.ret (.c (.bl false)))
    .nil)
    .nil)
    (.cons (.asg (.n [11]) (.bin .mul (.v 6) (.bm .count (.sl (.v 7) .nil (.v 4)) (.cons (.v 8) .nil))))
    (.cons (.ite (.not (.call c_law_same (.app []) (.cons (.call c_settled (.app []) (.cons (.v 3) (.cons (.v 8) (.cons (.bin .add (.v 5) (.bin .mul (.v 4) (.v 6))) .nil)))) (.cons (.tup (.cons (.bin .add (.b1 .min (.v 9)) (.v 11)) (.cons (.bin .add (.b1 .max (.v 9)) (.v 11)) .nil))) .nil))))
    (.cons (.ret (.c (.bl false)))
    .nil)
    .nil)
    .nil)))))
    (.cons (.ret (.c (.bl true)))
    .nil))))))))))⟩
/-- depth(right) (k04): right=0 part=1 -/
def F_depth (c_depth : Nat) : Fn := ⟨2, 1,
    (.cons (.ite (.cmp .eq (.ix (.v 0) (.c (.int 0))) (.c (.str "one")))
    (.cons (.ret (.c (.int 1)))
    .nil)
    .nil)
    (.cons (.ret (.bin .add (.c (.int 1)) (.b1 .max (.lc (.call c_depth (.app []) (.cons (.v 1) .nil)) [1] [1] (.seq (.ix (.v 0) (.c (.int 2)))) (.c (.bl true))))))
    .nil))⟩
/-- paths_of(right, name) (k04): right=0 name=1 holder=2 path=3 -/
def F_paths_of (c_all_paths : Nat) : Fn := ⟨4, 2,
    (.cons (.ret (.lc (.v 3) [2, 3] [2, 3] (.seq (.call c_all_paths (.app []) (.cons (.v 0) .nil))) (.cmp .eq (.v 2) (.v 1))))
    .nil)⟩
/-- part_at(right, path) (k04): right=0 path=1 part=2 at=3 -/
def F_part_at : Fn := ⟨4, 2,
    (.cons (.asg (.n [2]) (.v 0))
    (.cons (.for_ (.n [3]) (.seq (.v 1))
    (.cons (.ite (.or (.cmp .eq (.ix (.v 2) (.c (.int 0))) (.c (.str "one"))) (.not (.chn (.c (.int 0)) .le (.v 3) .lt (.b1 .len (.ix (.v 2) (.c (.int 2)))))))
    (.cons (.raise 23 [0, 3] [.inr (.str "NoPart"), .inl 0] (.cons (.v 1) .nil) false)
    .nil)
    .nil)
    (.cons (.asg (.n [2]) (.ix (.ix (.v 2) (.c (.int 2))) (.v 3)))
    .nil)))
    (.cons (.ret (.v 2))
    .nil)))⟩
/-- _law_at(_law_tree_here, _law_road) (k04): _law_tree_here=0 _law_road=1 _law_at_here=2 -/
def F_law_at : Fn := ⟨3, 2,
    (.cons (.for_ (.n [2]) (.seq (.v 1))
    (.cons (.ite (.or (.cmp .eq (.ix (.v 0) (.c (.int 0))) (.c (.str "one"))) (.not (.chn (.c (.int 0)) .le (.v 2) .lt (.b1 .len (.ix (.v 0) (.c (.int 2)))))))
    (.cons (.ret (.c (.non)))
    .nil)
    .nil)
    (.cons (.asg (.n [0]) (.ix (.ix (.v 0) (.c (.int 2))) (.v 2)))
    .nil)))
    (.cons (.ret (.v 0))
    .nil))⟩
/-- _law_paths(_law_tree_here) (k04): _law_tree_here=0 _law_found=1 _law_at_here=2 _law_part=3 _law_road=4 -/
def F_law_paths (c_law_paths : Nat) : Fn := ⟨5, 1,
    (.cons (.asg (.n [1]) (.lst (.cons (.tup .nil) .nil)))
    (.cons (.ite (.cmp .eq (.ix (.v 0) (.c (.int 0))) (.c (.str "turns")))
    (.cons (.for_ (.n [2, 3]) (.enm (.ix (.v 0) (.c (.int 2))) 0)
    (.cons (.asg (.n [1]) (.bin .add (.v 1) (.lc (.bin .add (.tup (.cons (.v 2) .nil)) (.v 4)) [4] [4] (.seq (.call c_law_paths (.app []) (.cons (.v 3) .nil))) (.c (.bl true)))))
    .nil))
    .nil)
    .nil)
    (.cons (.ret (.v 1))
    .nil)))⟩
/-- _law_missing(_law_right_here, _law_path) (k04): _law_right_here=0 _law_path=1 _law_found=2 e=3 -/
def F_law_missing (c_part_at : Nat) : Fn := ⟨4, 2,
    (.cons (.asg (.n [2]) (.c (.non)))
    (.cons (.try_ (.cons (.ex (.call c_part_at (.app []) (.cons (.v 0) (.cons (.v 1) .nil))))
    .nil)
    (.cons [(1, true), (19, true), (23, true)] (some 3)
    (.cons (.asg (.n [2]) (.lst (.cons (.xis 3 [(1, false), (19, false), (23, true)]) (.cons (.xis 3 [(1, false), (19, true), (23, false)]) .nil))))
    (.cons (.ite (.xis 3 [(1, false), (19, false), (23, true)])
    (.cons (.ex (.bm .append (.v 2) (.cons (.xfl 3 3) .nil)))
    .nil)
    .nil)
    .nil))
    .nil))
    (.cons (.ret (.v 2))
    .nil)))⟩
/-- law(_law_script) (k04): _law_script=0 _law_box_here=1 _law_pool_here=2 _law_k=3 _law_right_here=4 _law_every=5 _law_name=6 _law_holder=7 _law_path=8 _law_wrong=9 -/
def F_law_k04 (c_law_box c_law_pool c_law_right c_law_leaves c_law_same c_depth c_leaves c_law_deep c_holders c_law_holders c_law_absent c_paths_of c_law_paths c_part_at c_law_at c_law_take c_law_missing : Nat) : Fn := ⟨10, 1,
    (.cons (.asg (.n [1]) (.call c_law_box (.app []) (.cons (.v 0) .nil)))
    (.cons (.asg (.n [2]) (.call c_law_pool (.app []) (.cons (.v 1) .nil)))
    (.cons (.for_ (.n [3]) (.rng (.c (.int 3)))
    (.cons (.asg (.n [4]) (.call c_law_right (.app []) (.cons (.v 1) (.cons (.v 2) .nil))))
    (.cons (.asg (.n [5]) (.call c_law_leaves (.app []) (.cons (.v 4) (.cons (.tup .nil) .nil))))
    (.cons (.ite (.not (.call c_law_same (.app []) (.cons (.lst (.cons (.call c_depth (.app []) (.cons (.v 4) .nil)) (.cons (.call c_leaves (.app []) (.cons (.v 4) .nil)) .nil))) (.cons (.lst (.cons (.call c_law_deep (.app []) (.cons (.v 4) .nil)) (.cons (.b1 .len (.v 5)) .nil))) .nil))))
    (.cons (.ret (.c (.bl false)))
    .nil)
    .nil)
    (.cons (.ite (.not (.call c_law_same (.app []) (.cons (.call c_holders (.app []) (.cons (.v 4) .nil)) (.cons (.call c_law_holders (.app []) (.cons (.v 4) .nil)) .nil))))
    (.cons (.ret (.c (.bl false)))
    .nil)
    .nil)
    (.cons (.for_ (.n [6]) (.seq (.bin .add (.v 2) (.lst (.cons (.call c_law_absent (.app []) (.cons (.v 2) .nil)) .nil))))
    (.cons (.ite (.not (.call c_law_same (.app []) (.cons (.call c_paths_of (.app []) (.cons (.v 4) (.cons (.v 6) .nil))) (.cons (.lc (.v 8) [7, 8] [7, 8] (.seq (.v 5)) (.cmp .eq (.v 7) (.v 6))) .nil))))
    (.cons (.ret (.c (.bl false)))
    .nil)
    .nil)
    .nil))
    (.cons (.for_ (.n [8]) (.seq (.call c_law_paths (.app []) (.cons (.v 4) .nil)))
    (.cons (.ite (.not (.call c_law_same (.app []) (.cons (.call c_part_at (.app []) (.cons (.v 4) (.cons (.v 8) .nil))) (.cons (.call c_law_at (.app []) (.cons (.v 4) (.cons (.v 8) .nil))) .nil))))
    (.cons (.ret (.c (.bl false)))
    .nil)
    .nil)
    (.cons (.asg (.n [9]) (.bin .add (.v 8) (.tup (.cons (.ix (.lst (.cons (.neg (.c (.int 1))) (.cons (.c (.int 5)) (.cons (.bin .pow (.c (.int 10)) (.c (.int 20))) (.cons (.c (.int 0)) .nil))))) (.call c_law_take (.app []) (.cons (.v 1) (.cons (.c (.int 4)) .nil)))) .nil))))
    (.cons (.ite (.and (.cmp .is (.call c_law_at (.app []) (.cons (.v 4) (.cons (.v 9) .nil))) (.c (.non))) (.not (.call c_law_same (.app []) (.cons (.call c_law_missing (.app []) (.cons (.v 4) (.cons (.v 9) .nil))) (.cons (.lst (.cons (.c (.bl true)) (.cons (.c (.bl false)) (.cons (.v 9) .nil)))) .nil)))))
    (.cons (.ret (.c (.bl false)))
    .nil)
    .nil)
    .nil))))
    .nil)))))))
    (.cons (.ret (.c (.bl true)))
    .nil))))⟩
/-- changed(right, path, part) (k18): right=0 path=1 part=2 parts=3 -/
def F_changed (c_changed : Nat) : Fn := ⟨4, 3,
    (.cons (.ite (.cmp .eq (.v 1) (.tup .nil))
    (.cons (.ret (.v 2))
    .nil)
    .nil)
    (.cons (.asg (.n [3]) (.b1 .list (.ix (.v 0) (.c (.int 2)))))
    (.cons (.asg (.ix (.v 3) (.ix (.v 1) (.c (.int 0)))) (.call c_changed (.app []) (.cons (.ix (.v 3) (.ix (.v 1) (.c (.int 0)))) (.cons (.sl (.v 1) (.c (.int 1)) .nil) (.cons (.v 2) .nil)))))
    (.cons (.ret (.tup (.cons (.c (.str "turns")) (.cons (.ix (.v 0) (.c (.int 1))) (.cons (.b1 .tuple (.v 3)) .nil)))))
    .nil))))⟩
/-- leaf_at(right, path) (k18): right=0 path=1 part=2 -/
def F_leaf_at (c_part_at : Nat) : Fn := ⟨3, 2,
    (.cons (.asg (.n [2]) (.call c_part_at (.app []) (.cons (.v 0) (.cons (.v 1) .nil))))
    (.cons (.ite (.cmp .ne (.ix (.v 2) (.c (.int 0))) (.c (.str "one")))
    (.cons (.raise 23 [0, 3] [.inr (.str "NoPart"), .inl 0] (.cons (.v 1) .nil) false)
    .nil)
    .nil)
    (.cons (.ret (.ix (.v 2) (.c (.int 1))))
    .nil)))⟩
/-- granted(right, path, name) (k18): right=0 path=1 name=2 -/
def F_granted (c_leaf_at c_changed : Nat) : Fn := ⟨3, 3,
    (.cons (.ite (.cmp .eq (.call c_leaf_at (.app []) (.cons (.v 0) (.cons (.v 1) .nil))) (.v 2))
    (.cons (.raise 5 [0] [.inr (.str "Same")] .nil false)
    .nil)
    .nil)
    (.cons (.ret (.call c_changed (.app []) (.cons (.v 0) (.cons (.v 1) (.cons (.tup (.cons (.c (.str "one")) (.cons (.v 2) .nil))) .nil)))))
    .nil))⟩
/-- _law_told(_law_right_here, _law_path, _law_name) (k18): _law_right_here=0 _law_path=1 _law_name=2 _law_found=3 _law_kinds=4 e=5 -/
def F_law_told (c_granted : Nat) : Fn := ⟨6, 3,
    (.cons (.asg (.n [3]) (.c (.non)))
    (.cons (.asg (.n [4]) (.lst .nil))
    (.cons (.try_ (.cons (.asg (.n [3]) (.call c_granted (.app []) (.cons (.v 0) (.cons (.v 1) (.cons (.v 2) .nil)))))
    .nil)
    (.cons [(0, false), (1, false), (5, false), (23, true)] (some 5)
    (.cons (.asg (.n [4]) (.lst (.cons (.c (.str "NoPart")) (.cons (.xfl 5 3) .nil))))
    .nil)
    (.cons [(0, true), (1, false), (5, true), (23, false)] (some 5)
    (.cons (.asg (.n [4]) (.lst (.cons (.ix (.lst (.cons (.c (.str "")) (.cons (.c (.str "Same")) .nil))) (.b1 .int (.xis 5 [(0, false), (1, false), (5, true), (23, false)]))) .nil)))
    .nil)
    .nil)))
    (.cons (.ret (.tup (.cons (.v 3) (.cons (.v 4) .nil))))
    .nil))))⟩
/-- law(_law_script) (k18): _law_script=0 _law_box_here=1 _law_pool_here=2 _law_right_here=3 _law_names_here=4 _law_path=5 _law_name=6 _law_part=7 _law_want=8 _law_found=9 _law_later=10 _law_at_here=11 -/
def F_law_k18 (c_law_box c_law_pool c_law_right c_law_row c_law_paths c_law_take c_law_at c_law_put c_law_told c_law_same : Nat) : Fn := ⟨12, 1,
    (.cons (.asg (.n [1]) (.call c_law_box (.app []) (.cons (.v 0) .nil)))
    (.cons (.asg (.n [2]) (.bin .add (.call c_law_pool (.app []) (.cons (.v 1) .nil)) (.lst (.cons (.c (.str "zz")) .nil))))
    (.cons (.asg (.n [3]) (.call c_law_right (.app []) (.cons (.v 1) (.cons (.sl (.v 2) .nil (.neg (.c (.int 1)))) .nil))))
    (.cons (.asg (.n [4]) (.ix (.call c_law_row (.app []) (.cons (.v 3) (.cons (.c (.int 40)) .nil))) (.c (.int 0))))
    (.cons (.for_ (.n [5]) (.seq (.call c_law_paths (.app []) (.cons (.v 3) .nil)))
    (.cons (.ite (.cmp .eq (.call c_law_take (.app []) (.cons (.v 1) (.cons (.c (.int 4)) .nil))) (.c (.int 0)))
    (.cons (.asg (.n [5]) (.bin .add (.v 5) (.tup (.cons (.ix (.lst (.cons (.neg (.c (.int 1))) (.cons (.c (.int 5)) (.cons (.c (.int 0)) .nil)))) (.call c_law_take (.app []) (.cons (.v 1) (.cons (.c (.int 3)) .nil)))) .nil))))
    .nil)
    .nil)
    (.cons (.asg (.n [6]) (.ix (.v 2) (.call c_law_take (.app []) (.cons (.v 1) (.cons (.b1 .len (.v 2)) .nil)))))
    (.cons (.asg (.n [7]) (.call c_law_at (.app []) (.cons (.v 3) (.cons (.v 5) .nil))))
    (.cons (.asg (.n [8]) (.tup (.cons (.c (.non)) (.cons (.lst (.cons (.c (.str "NoPart")) (.cons (.v 5) .nil))) .nil))))
    (.cons (.ite (.and (.cmp .isn (.v 7) (.c (.non))) (.cmp .eq (.ix (.v 7) (.c (.int 0))) (.c (.str "one"))))
    (.cons (.asg (.n [8]) (.tup (.cons (.c (.non)) (.cons (.lst (.cons (.c (.str "Same")) .nil)) .nil))))
    (.cons (.ite (.cmp .ne (.ix (.v 7) (.c (.int 1))) (.v 6))
    (.cons (.asg (.n [8]) (.tup (.cons (.call c_law_put (.app []) (.cons (.v 3) (.cons (.v 5) (.cons (.tup (.cons (.c (.str "one")) (.cons (.v 6) .nil))) .nil)))) (.cons (.lst .nil) .nil))))
    .nil)
    .nil)
    .nil))
    .nil)
    (.cons (.asg (.n [9]) (.call c_law_told (.app []) (.cons (.v 3) (.cons (.v 5) (.cons (.v 6) .nil)))))
    (.cons (.ite (.not (.call c_law_same (.app []) (.cons (.v 9) (.cons (.v 8) .nil))))
    (.cons (.ret (.c (.bl false)))
    .nil)
    .nil)
    (.cons (.ite (.cmp .isn (.ix (.v 9) (.c (.int 0))) (.c (.non)))
    (.cons (.asg (.n [10]) (.ix (.call c_law_row (.app []) (.cons (.ix (.v 9) (.c (.int 0))) (.cons (.c (.int 40)) .nil))) (.c (.int 0))))
    (.cons (.ite (.b1 .any (.lc (.cmp .nin (.ix (.v 10) (.v 11)) (.tup (.cons (.ix (.v 4) (.v 11)) (.cons (.v 6) .nil)))) [11] [11] (.rng (.c (.int 40))) (.c (.bl true))))
    (.cons (.ret (.c (.bl false)))
    .nil)
    .nil)
    .nil))
    .nil)
    .nil)))))))))
    (.cons (.ret (.c (.bl true)))
    .nil))))))⟩
/-- among(names) (k19): names=0 name=1 -/
def F_among : Fn := ⟨2, 1,
    (.cons (.ite (.cmp .eq (.b1 .len (.v 0)) (.c (.int 1)))
    (.cons (.ret (.tup (.cons (.c (.str "one")) (.cons (.ix (.v 0) (.c (.int 0))) .nil))))
    .nil)
    .nil)
    (.cons (.ret (.tup (.cons (.c (.str "turns")) (.cons (.c (.int 0)) (.cons (.b1 .tuple (.lc (.tup (.cons (.c (.str "one")) (.cons (.v 1) .nil))) [1] [1] (.seq (.v 0)) (.c (.bl true)))) .nil)))))
    .nil))⟩
/-- look_deep(right) (k19): right=0 -/
def F_look_deep (c_depth : Nat) : Fn := ⟨1, 1,
    (.cons (.ite (.cmp .gt (.call c_depth (.app []) (.cons (.v 0) .nil)) (.c (.int 4)))
    (.cons (.raise 7 [0] [.inr (.str "TooDeep")] .nil false)
    .nil)
    .nil)
    .nil)⟩
/-- look_many(right) (k19): right=0 -/
def F_look_many (c_leaves : Nat) : Fn := ⟨1, 1,
    (.cons (.ite (.cmp .gt (.call c_leaves (.app []) (.cons (.v 0) .nil)) (.c (.int 24)))
    (.cons (.raise 8 [0] [.inr (.str "TooMany")] .nil false)
    .nil)
    .nil)
    .nil)⟩
/-- parted(right, path, names) (k19): right=0 path=1 names=2 found=3 -/
def F_parted (c_leaf_at c_changed c_among c_look_deep c_look_many : Nat) : Fn := ⟨4, 3,
    (.cons (.ex (.call c_leaf_at (.app []) (.cons (.v 0) (.cons (.v 1) .nil))))
    (.cons (.asg (.n [3]) (.call c_changed (.app []) (.cons (.v 0) (.cons (.v 1) (.cons (.call c_among (.app []) (.cons (.v 2) .nil)) .nil)))))
    (.cons (.ex (.call c_look_deep (.app []) (.cons (.v 3) .nil)))
    (.cons (.ex (.call c_look_many (.app []) (.cons (.v 3) .nil)))
    (.cons (.ret (.v 3))
    .nil)))))⟩
/-- _law_among(_law_folk) (k19): _law_folk=0 _law_whose=1 -/
def F_law_among : Fn := ⟨2, 1,
    (.cons (.ite (.cmp .eq (.b1 .len (.v 0)) (.c (.int 1)))
    (.cons (.ret (.tup (.cons (.c (.str "one")) (.cons (.ix (.v 0) (.c (.int 0))) .nil))))
    .nil)
    .nil)
    (.cons (.ret (.tup (.cons (.c (.str "turns")) (.cons (.c (.int 0)) (.cons (.b1 .tuple (.lc (.tup (.cons (.c (.str "one")) (.cons (.v 1) .nil))) [1] [1] (.seq (.v 0)) (.c (.bl true)))) .nil)))))
    .nil))⟩
/-- _law_told(_law_right_here, _law_path, _law_names_here) (k19): _law_right_here=0 _law_path=1 _law_names_here=2 _law_found=3 _law_kinds=4 e=5 -/
def F_law_told2 (c_parted : Nat) : Fn := ⟨6, 3,
    (.cons (.asg (.n [3]) (.c (.non)))
    (.cons (.asg (.n [4]) (.lst .nil))
    (.cons (.try_ (.cons (.asg (.n [3]) (.call c_parted (.app []) (.cons (.v 0) (.cons (.v 1) (.cons (.v 2) .nil)))))
    .nil)
    (.cons [(0, false), (1, false), (7, false), (8, false), (23, true)] (some 5)
    (.cons (.asg (.n [4]) (.lst (.cons (.c (.str "NoPart")) (.cons (.xfl 5 3) .nil))))
    .nil)
    (.cons [(0, true), (1, false), (7, true), (8, true), (23, false)] (some 5)
    (.cons (.asg (.n [4]) (.lst (.cons (.bin .add (.ix (.lst (.cons (.c (.str "")) (.cons (.c (.str "TooDeep")) .nil))) (.b1 .int (.xis 5 [(0, false), (1, false), (7, true), (8, false), (23, false)]))) (.ix (.lst (.cons (.c (.str "")) (.cons (.c (.str "TooMany")) .nil))) (.b1 .int (.xis 5 [(0, false), (1, false), (7, false), (8, true), (23, false)])))) .nil)))
    .nil)
    .nil)))
    (.cons (.ret (.tup (.cons (.v 3) (.cons (.v 4) .nil))))
    .nil))))⟩
/-- law(_law_script) (k19): _law_script=0 _law_box_here=1 _law_pool=2 _law_right_here=3 _law_path=4 _law_names_here=5 _law_part=6 _law_want=7 _law_later=8 -/
def F_law_k19 (c_law_box c_law_names c_law_right c_law_paths c_law_take c_law_at c_law_put c_law_among c_law_leaves c_law_deep c_law_same c_law_told : Nat) : Fn := ⟨9, 1,
    (.cons (.asg (.n [1]) (.call c_law_box (.app []) (.cons (.v 0) .nil)))
    (.cons (.asg (.n [2]) (.call c_law_names (.app []) (.cons (.v 1) (.cons (.c (.int 9)) .nil))))
    (.cons (.asg (.n [3]) (.call c_law_right (.app []) (.cons (.v 1) (.cons (.sl (.v 2) .nil (.c (.int 4))) .nil))))
    (.cons (.for_ (.n [4]) (.seq (.call c_law_paths (.app []) (.cons (.v 3) .nil)))
    (.cons (.ite (.cmp .eq (.call c_law_take (.app []) (.cons (.v 1) (.cons (.c (.int 5)) .nil))) (.c (.int 0)))
    (.cons (.asg (.n [4]) (.bin .add (.v 4) (.tup (.cons (.ix (.lst (.cons (.neg (.c (.int 1))) (.cons (.c (.int 5)) (.cons (.c (.int 0)) .nil)))) (.call c_law_take (.app []) (.cons (.v 1) (.cons (.c (.int 3)) .nil)))) .nil))))
    .nil)
    .nil)
    (.cons (.asg (.n [5]) (.b1 .tuple (.sl (.sl (.v 2) (.call c_law_take (.app []) (.cons (.v 1) (.cons (.c (.int 4)) .nil))) .nil) .nil (.bin .add (.c (.int 2)) (.call c_law_take (.app []) (.cons (.v 1) (.cons (.c (.int 4)) .nil)))))))
    (.cons (.asg (.n [6]) (.call c_law_at (.app []) (.cons (.v 3) (.cons (.v 4) .nil))))
    (.cons (.asg (.n [7]) (.tup (.cons (.c (.non)) (.cons (.lst (.cons (.c (.str "NoPart")) (.cons (.v 4) .nil))) .nil))))
    (.cons (.ite (.and (.cmp .isn (.v 6) (.c (.non))) (.cmp .eq (.ix (.v 6) (.c (.int 0))) (.c (.str "one"))))
    (.cons (.asg (.n [8]) (.call c_law_put (.app []) (.cons (.v 3) (.cons (.v 4) (.cons (.call c_law_among (.app []) (.cons (.v 5) .nil)) .nil)))))
    (.cons (.asg (.n [7]) (.tup (.cons (.v 8) (.cons (.lst .nil) .nil))))
    (.cons (.ite (.cmp .gt (.b1 .len (.call c_law_leaves (.app []) (.cons (.v 8) (.cons (.tup .nil) .nil)))) (.c (.int 24)))
    (.cons (.asg (.n [7]) (.tup (.cons (.c (.non)) (.cons (.lst (.cons (.c (.str "TooMany")) .nil)) .nil))))
    .nil)
    .nil)
    (.cons (.ite (.cmp .gt (.call c_law_deep (.app []) (.cons (.v 8) .nil)) (.c (.int 4)))
    (.cons (.asg (.n [7]) (.tup (.cons (.c (.non)) (.cons (.lst (.cons (.c (.str "TooDeep")) .nil)) .nil))))
    .nil)
    .nil)
    .nil))))
    .nil)
    (.cons (.ite (.not (.call c_law_same (.app []) (.cons (.call c_law_told (.app []) (.cons (.v 3) (.cons (.v 4) (.cons (.v 5) .nil)))) (.cons (.v 7) .nil))))
    (.cons (.ret (.c (.bl false)))
    .nil)
    .nil)
    .nil)))))))
    (.cons (.ret (.c (.bl true)))
    .nil)))))⟩
/-- united(right, path) (k20): right=0 path=1 part=2 some=3 -/
def F_united (c_part_at c_holders c_changed : Nat) : Fn := ⟨4, 2,
    (.cons (.asg (.n [2]) (.call c_part_at (.app []) (.cons (.v 0) (.cons (.v 1) .nil))))
    (.cons (.ite (.cmp .eq (.ix (.v 2) (.c (.int 0))) (.c (.str "one")))
    (.cons (.raise 23 [0, 3] [.inr (.str "NoPart"), .inl 0] (.cons (.v 1) .nil) false)
    .nil)
    .nil)
    (.cons (.asg (.n [3]) (.call c_holders (.app []) (.cons (.v 2) .nil)))
    (.cons (.ite (.cmp .gt (.b1 .len (.v 3)) (.c (.int 1)))
    (.cons (.raise 9 [0] [.inr (.str "Divided")] .nil false)
    .nil)
    .nil)
    (.cons (.ret (.call c_changed (.app []) (.cons (.v 0) (.cons (.v 1) (.cons (.tup (.cons (.c (.str "one")) (.cons (.ix (.v 3) (.c (.int 0))) .nil))) .nil)))))
    .nil)))))⟩
/-- _law_told(_law_right_here, _law_path) (k20): _law_right_here=0 _law_path=1 _law_found=2 _law_kinds=3 e=4 -/
def F_law_told3 (c_united : Nat) : Fn := ⟨5, 2,
    (.cons (.asg (.n [2]) (.c (.non)))
    (.cons (.asg (.n [3]) (.lst .nil))
    (.cons (.try_ (.cons (.asg (.n [2]) (.call c_united (.app []) (.cons (.v 0) (.cons (.v 1) .nil))))
    .nil)
    (.cons [(0, false), (1, false), (9, false), (23, true)] (some 4)
    (.cons (.asg (.n [3]) (.lst (.cons (.c (.str "NoPart")) (.cons (.xfl 4 3) .nil))))
    .nil)
    (.cons [(0, true), (1, false), (9, true), (23, false)] (some 4)
    (.cons (.asg (.n [3]) (.lst (.cons (.ix (.lst (.cons (.c (.str "")) (.cons (.c (.str "Divided")) .nil))) (.b1 .int (.xis 4 [(0, false), (1, false), (9, true), (23, false)]))) .nil)))
    .nil)
    .nil)))
    (.cons (.ret (.tup (.cons (.v 2) (.cons (.v 3) .nil))))
    .nil))))⟩
/-- law(_law_script) (k20): _law_script=0 _law_box_here=1 _law_pool=2 _law_k=3 _law_right_here=4 _law_path=5 _law_part=6 _law_want=7 _law_some=8 _law_found=9 -/
def F_law_k20 (c_law_box c_law_names c_law_take c_law_right c_law_paths c_law_at c_law_holders c_law_put c_law_told c_law_same c_law_row : Nat) : Fn := ⟨10, 1,
    (.cons (.asg (.n [1]) (.call c_law_box (.app []) (.cons (.v 0) .nil)))
    (.cons (.asg (.n [2]) (.sl (.call c_law_names (.app []) (.cons (.v 1) (.cons (.c (.int 3)) .nil))) .nil (.bin .add (.c (.int 1)) (.call c_law_take (.app []) (.cons (.v 1) (.cons (.c (.int 3)) .nil))))))
    (.cons (.for_ (.n [3]) (.rng (.c (.int 2)))
    (.cons (.asg (.n [4]) (.call c_law_right (.app []) (.cons (.v 1) (.cons (.v 2) .nil))))
    (.cons (.for_ (.n [5]) (.seq (.call c_law_paths (.app []) (.cons (.v 4) .nil)))
    (.cons (.ite (.cmp .eq (.call c_law_take (.app []) (.cons (.v 1) (.cons (.c (.int 5)) .nil))) (.c (.int 0)))
    (.cons (.asg (.n [5]) (.bin .add (.v 5) (.tup (.cons (.ix (.lst (.cons (.neg (.c (.int 1))) (.cons (.c (.int 5)) (.cons (.c (.int 0)) .nil)))) (.call c_law_take (.app []) (.cons (.v 1) (.cons (.c (.int 3)) .nil)))) .nil))))
    .nil)
    .nil)
    (.cons (.asg (.n [6]) (.call c_law_at (.app []) (.cons (.v 4) (.cons (.v 5) .nil))))
    (.cons (.asg (.n [7]) (.tup (.cons (.c (.non)) (.cons (.lst (.cons (.c (.str "NoPart")) (.cons (.v 5) .nil))) .nil))))
    (.cons (.ite (.and (.cmp .isn (.v 6) (.c (.non))) (.cmp .eq (.ix (.v 6) (.c (.int 0))) (.c (.str "turns"))))
    (.cons (.asg (.n [8]) (.call c_law_holders (.app []) (.cons (.v 6) .nil)))
    (.cons (.asg (.n [7]) (.tup (.cons (.c (.non)) (.cons (.lst (.cons (.c (.str "Divided")) .nil)) .nil))))
    (.cons (.ite (.cmp .eq (.b1 .len (.v 8)) (.c (.int 1)))
    (.cons (.asg (.n [7]) (.tup (.cons (.call c_law_put (.app []) (.cons (.v 4) (.cons (.v 5) (.cons (.tup (.cons (.c (.str "one")) (.cons (.ix (.v 8) (.c (.int 0))) .nil))) .nil)))) (.cons (.lst .nil) .nil))))
    .nil)
    .nil)
    .nil)))
    .nil)
    (.cons (.asg (.n [9]) (.call c_law_told (.app []) (.cons (.v 4) (.cons (.v 5) .nil))))
    (.cons (.ite (.not (.call c_law_same (.app []) (.cons (.v 9) (.cons (.v 7) .nil))))
    (.cons (.ret (.c (.bl false)))
    .nil)
    .nil)
    (.cons (.ite (.and (.cmp .isn (.ix (.v 9) (.c (.int 0))) (.c (.non))) (.cmp .ne (.ix (.call c_law_row (.app []) (.cons (.ix (.v 9) (.c (.int 0))) (.cons (.c (.int 30)) .nil))) (.c (.int 0))) (.ix (.call c_law_row (.app []) (.cons (.v 4) (.cons (.c (.int 30)) .nil))) (.c (.int 0)))))
    (.cons (.ret (.c (.bl false)))
    .nil)
    .nil)
    .nil))))))))
    .nil)))
    (.cons (.ret (.c (.bl true)))
    .nil))))⟩
/-- passed(right, name, part) (k21): right=0 name=1 part=2 one=3 -/
def F_passed (c_passed : Nat) : Fn := ⟨4, 3,
    (.cons (.ite (.cmp .eq (.ix (.v 0) (.c (.int 0))) (.c (.str "one")))
    (.cons (.ret (.ite (.cmp .eq (.ix (.v 0) (.c (.int 1))) (.v 1)) (.v 2) (.v 0)))
    .nil)
    .nil)
    (.cons (.ret (.tup (.cons (.c (.str "turns")) (.cons (.ix (.v 0) (.c (.int 1))) (.cons (.b1 .tuple (.lc (.call c_passed (.app []) (.cons (.v 3) (.cons (.v 1) (.cons (.v 2) .nil)))) [3] [3] (.seq (.ix (.v 0) (.c (.int 2)))) (.c (.bl true)))) .nil)))))
    .nil))⟩
/-- inherited(right, name, heirs) (k21): right=0 name=1 heirs=2 found=3 -/
def F_inherited (c_passed c_among c_look_deep c_look_many : Nat) : Fn := ⟨4, 3,
    (.cons (.asg (.n [3]) (.call c_passed (.app []) (.cons (.v 0) (.cons (.v 1) (.cons (.call c_among (.app []) (.cons (.v 2) .nil)) .nil)))))
    (.cons (.ex (.call c_look_deep (.app []) (.cons (.v 3) .nil)))
    (.cons (.ex (.call c_look_many (.app []) (.cons (.v 3) .nil)))
    (.cons (.ret (.v 3))
    .nil))))⟩
/-- _law_passed(_law_right_here, _law_name, _law_part) (k21): _law_right_here=0 _law_name=1 _law_part=2 _law_holder=3 _law_path=4 -/
def F_law_passed (c_law_leaves c_law_put : Nat) : Fn := ⟨5, 3,
    (.cons (.for_ (.n [3, 4]) (.seq (.call c_law_leaves (.app []) (.cons (.v 0) (.cons (.tup .nil) .nil))))
    (.cons (.ite (.cmp .eq (.v 3) (.v 1))
    (.cons (.asg (.n [0]) (.call c_law_put (.app []) (.cons (.v 0) (.cons (.v 4) (.cons (.v 2) .nil)))))
    .nil)
    .nil)
    .nil))
    (.cons (.ret (.v 0))
    .nil))⟩
/-- _law_told(_law_right_here, _law_name, _law_heirs) (k21): _law_right_here=0 _law_name=1 _law_heirs=2 _law_found=3 _law_kinds=4 e=5 -/
def F_law_told4 (c_inherited : Nat) : Fn := ⟨6, 3,
    (.cons (.asg (.n [3]) (.c (.non)))
    (.cons (.asg (.n [4]) (.lst .nil))
    (.cons (.try_ (.cons (.asg (.n [3]) (.call c_inherited (.app []) (.cons (.v 0) (.cons (.v 1) (.cons (.v 2) .nil)))))
    .nil)
    (.cons [(0, true), (7, true), (8, true)] (some 5)
    (.cons (.asg (.n [4]) (.lst (.cons (.bin .add (.ix (.lst (.cons (.c (.str "")) (.cons (.c (.str "TooDeep")) .nil))) (.b1 .int (.xis 5 [(0, false), (7, true), (8, false)]))) (.ix (.lst (.cons (.c (.str "")) (.cons (.c (.str "TooMany")) .nil))) (.b1 .int (.xis 5 [(0, false), (7, false), (8, true)])))) .nil)))
    .nil)
    .nil))
    (.cons (.ret (.tup (.cons (.v 3) (.cons (.v 4) .nil))))
    .nil))))⟩
/-- law(_law_script) (k21): _law_script=0 _law_box_here=1 _law_pool=2 _law_k=3 _law_right_here=4 _law_at=5 _law_some=6 _law_heirs=7 _law_later=8 _law_want=9 -/
def F_law_k21 (c_law_box c_law_names c_law_right c_law_take c_law_passed c_law_among c_law_leaves c_law_deep c_law_same c_law_told : Nat) : Fn := ⟨10, 1,
    (.cons (.asg (.n [1]) (.call c_law_box (.app []) (.cons (.v 0) .nil)))
    (.cons (.asg (.n [2]) (.call c_law_names (.app []) (.cons (.v 1) (.cons (.c (.int 10)) .nil))))
    (.cons (.for_ (.n [3]) (.rng (.c (.int 4)))
    (.cons (.asg (.n [4]) (.call c_law_right (.app []) (.cons (.v 1) (.cons (.sl (.v 2) .nil (.c (.int 4))) .nil))))
    (.cons (.asg (.n [5]) (.call c_law_take (.app []) (.cons (.v 1) (.cons (.c (.int 5)) .nil))))
    (.cons (.asg (.n [6]) (.bin .add (.sl (.v 2) .nil (.v 5)) (.sl (.v 2) (.bin .add (.v 5) (.c (.int 1))) .nil)))
    (.cons (.asg (.n [7]) (.b1 .tuple (.sl (.sl (.v 6) (.call c_law_take (.app []) (.cons (.v 1) (.cons (.c (.int 5)) .nil))) .nil) .nil (.bin .add (.c (.int 1)) (.call c_law_take (.app []) (.cons (.v 1) (.cons (.c (.int 5)) .nil)))))))
    (.cons (.asg (.n [8]) (.call c_law_passed (.app []) (.cons (.v 4) (.cons (.ix (.v 2) (.v 5)) (.cons (.call c_law_among (.app []) (.cons (.v 7) .nil)) .nil)))))
    (.cons (.asg (.n [9]) (.tup (.cons (.v 8) (.cons (.lst .nil) .nil))))
    (.cons (.ite (.cmp .gt (.b1 .len (.call c_law_leaves (.app []) (.cons (.v 8) (.cons (.tup .nil) .nil)))) (.c (.int 24)))
    (.cons (.asg (.n [9]) (.tup (.cons (.c (.non)) (.cons (.lst (.cons (.c (.str "TooMany")) .nil)) .nil))))
    .nil)
    .nil)
    (.cons (.ite (.cmp .gt (.call c_law_deep (.app []) (.cons (.v 8) .nil)) (.c (.int 4)))
    (.cons (.asg (.n [9]) (.tup (.cons (.c (.non)) (.cons (.lst (.cons (.c (.str "TooDeep")) .nil)) .nil))))
    .nil)
    .nil)
    (.cons (.ite (.not (.call c_law_same (.app []) (.cons (.call c_law_told (.app []) (.cons (.v 4) (.cons (.ix (.v 2) (.v 5)) (.cons (.v 7) .nil)))) (.cons (.v 9) .nil))))
    (.cons (.ret (.c (.bl false)))
    .nil)
    .nil)
    .nil))))))))))
    (.cons (.ret (.c (.bl true)))
    .nil))))⟩
end A
end
section
set_option Elab.async false
set_option linter.all false
set_option maxRecDepth 100000
set_option maxHeartbeats 4000000
/-! V1: calls that leave the state as it is; turns of comprehensions by the wanted list. -/
namespace A
open PySem L2
theorem q1_q1 (Q : K) : Q1 (Q1 Q) = Q1 Q := by
  funext d S
  refine propext ⟨fun ⟨S1, h1, S2, h2, q⟩ => ⟨S2, h2.trans h1, q⟩, fun ⟨S1, h1, q⟩ => ⟨S1, h1, S1, Sub.refl _, q⟩⟩
theorem callW_q1 {P : Prg} {n f : Nat} {ds : List D} {S : Sta} {Q X : K} (h : callW P (n + 1) f ds S (Q1 Q) (Q1 X)) : callW P (n + 1) f ds S Q X := by
  obtain ⟨F, e, l, w⟩ := h
  rw [q1_q1, q1_q1] at w
  exact ⟨F, e, l, w⟩
theorem q1_new {Q : K} {d : D} {S : Sta} {p : Addr} {o : MO} (hp : S p = none) (q : Q d S) : Q1 Q d (ups S p o) := ⟨S, Sub.new hp, q⟩
theorem q1_sub {Q : K} {d : D} {S S' : Sta} (h : Sub S S') (q : Q d S) : Q1 Q d S' := ⟨S, h, q⟩
theorem wcomp_idx {h : List (Addr × MO)} {f : D → Sta → (Option D → Sta → Prop) → Prop} {Q : List D → Sta → Prop} {S : Sta} {xs : List D} (ys : List D) (hl : xs.length < 16777216) (hn : ys.length = xs.length) (hh : Held h S)
    (st : ∀ (i : Nat) (x y : D) (R : Option D → Sta → Prop), xs[i]? = some x → ys[i]? = some y → R (some y) S → f x S R) (fin : Q ys S) : wcomp h f xs [] S Q := by
  refine wcomp_nat xs hl (fun i acc S' => acc = ys.take i ∧ S' = S) ⟨by simp, rfl⟩ (fun _ _ _ hI => by rw [hI.2]; exact hh) (fun i acc S' hI => by rw [hI.1]; simp; omega) (fun i x acc S' R hx hI hr _ => ?_) fun acc S' hI => ?_
  · obtain ⟨rfl, rfl⟩ := hI
    have hi : i < ys.length := by rw [hn]; exact (List.getElem?_eq_some_iff.mp hx).1
    have hy : ys[i]? = some ys[i] := List.getElem?_eq_getElem hi
    exact st i x _ R hx hy (hr _ _ ⟨by rw [List.take_succ, hy]; rfl, rfl⟩)
  · obtain ⟨rfl, rfl⟩ := hI
    rw [← hn, List.take_length]
    exact fin
/-- with an if: what each item gives -/
theorem wcomp_fil {h : List (Addr × MO)} {f : D → Sta → (Option D → Sta → Prop) → Prop} {Q : List D → Sta → Prop} {S : Sta} {xs : List D} (g : D → Option D) (hl : xs.length < 16777216) (hh : Held h S)
    (st : ∀ (i : Nat) (x : D) (R : Option D → Sta → Prop), xs[i]? = some x → R (g x) S → f x S R) (fin : Q (xs.filterMap g) S) : wcomp h f xs [] S Q := by
  refine wcomp_nat xs hl (fun i acc S' => acc = (xs.take i).filterMap g ∧ S' = S) ⟨by simp, rfl⟩ (fun _ _ _ hI => by rw [hI.2]; exact hh) (fun i acc S' hI => by rw [hI.1]; exact Nat.le_trans (List.length_filterMap_le ..) (by simp; omega)) (fun i x acc S' R hx hI hr hr2 => ?_) fun acc S' hI => ?_
  · obtain ⟨rfl, rfl⟩ := hI
    refine st i x R hx ?_
    cases e : g x with
    | some d => exact hr _ _ ⟨by rw [List.take_succ, hx, List.filterMap_append]; simp [e], rfl⟩
    | none => exact hr2 _ ⟨by rw [List.take_succ, hx, List.filterMap_append]; simp [e], rfl⟩
  · obtain ⟨rfl, rfl⟩ := hI
    rw [List.take_length]
    exact fin
theorem line3 {n : Nat} (h : n < 16777216) : n ≤ sizeLine := by rw [sizeLine_eq]; omega

end A
end
section
set_option Elab.async false
set_option linter.all false
set_option maxRecDepth 100000
set_option maxHeartbeats 4000000
/-! V2: numbers of turns; whose a turn is; the right behind. -/
namespace A
open PySem L2
@[simp] theorem eq_to : (Str.ofString "turns" == Str.ofString "one") = false := by decide +kernel
@[simp] theorem eq_ot : (Str.ofString "one" == Str.ofString "turns") = false := by decide +kernel
theorem divW {i j : Int} (h0 : 0 < j) (h1 : j < 2 ^ 8000) : L2.CDivW i j := by
  refine ⟨h0, ?_⟩
  have h2 : j.natAbs < 2 ^ 8000 := by omega
  have := (Nat.log2_lt (by omega)).mpr h2
  omega
theorem divW5 {i : Int} {m : Nat} (h0 : 0 < m) (h1 : m < 1000) : L2.CDivW i m := divW (by omega) (by
  have : (1000 : Int) ≤ 2 ^ 8000 := by decide +kernel
  omega)
theorem divisor_ok {P : Prg} {f : Nat} (h : P f = some F_divisor) (n a b : Nat) (S : Sta) (Q X : K) (q : Q (.int (Nat.gcd a b)) S) : callW P (n + 1) f [.int a, .int b] S Q X := by
  refine callW_of h rfl ?_
  simp [F_divisor, wB, wS, wE]
  refine ⟨fun m ρ S' => ∃ u v : Nat, ρ = [some (.int u), some (.int v)] ∧ m = v ∧ Nat.gcd u v = Nat.gcd a b ∧ S' = S, ⟨b, a, b, rfl, rfl, rfl, rfl⟩, ?_⟩
  rintro m ρ S' ⟨u, v, rfl, rfl, e, rfl⟩
  simp
  split
  · rename_i hm
    exact ⟨hm, u % m, Nat.mod_lt _ hm, m, u % m, ⟨rfl, by simp⟩, rfl, by rw [Nat.gcd_comm, ← Nat.gcd_rec, Nat.gcd_comm, e]⟩
  · have e0 : m = 0 := by omega
    subst e0
    rw [Nat.gcd_zero_right] at e
    rw [e]
    exact q1_of q
theorem visits_ok {P : Prg} {f : Nat} (h : P f = some F_visits) (n : Nat) (a l : Int) (m : Nat) (h0 : 0 < m) (h1 : m < 1000) (S : Sta) (Q X : K) (q : Q (.int (vis a l m)) S) : callW P (n + 1) f [.int a, .int l, .int m] S Q X := by
  refine callW_of h rfl ?_
  simp [F_visits, wB, wS, wE]
  exact ⟨divW5 h0 h1, q1_of q⟩
theorem later_ok {P : Prg} {f : Nat} (h : P f = some F_later_of) (n k : Nat) (ps : List Rt) (h0 : 0 < ps.length) (j : Int) (S : Sta) (Q X : K) (q : Q (.int ((j - k) % ps.length)) S) : callW P (n + 1) f [toD (.turns k ps), .int j] S Q X := by
  refine callW_of h rfl ?_
  simp [F_later_of, wB, wS, wE, toD, toDs_len]
  exact ⟨h0, q1_of q⟩
theorem toDs_get : ∀ (l : List Rt) (i : Nat) (r : Rt), l[i]? = some r → (toDs l)[i]? = some (toD r)
  | [], _, _, h => by simp at h
  | x :: xs, 0, r, h => by simp at h; subst h; simp [toDs]
  | x :: xs, i + 1, r, h => by
    simp only [toDs, List.getElem?_cons_succ]
    exact toDs_get xs i r (by simpa using h)
theorem toDs_ix {l : List Rt} {i : Nat} {r : Rt} (h : l[i]? = some r) : L2.atI (toDs l) (i : Int) = some (toD r) := L2.atI_nat (toDs_get l i r h)
theorem dpt_at : ∀ {l : List Rt} {i : Nat} {r : Rt}, l[i]? = some r → dpt r ≤ dpts l
  | [], _, _, h => by simp at h
  | x :: xs, 0, r, h => by simp at h; subst h; simp only [dpts]; omega
  | x :: xs, i + 1, r, h => by
    have := dpt_at (l := xs) (i := i) (by simpa using h)
    simp only [dpts]; omega
theorem dpt_pos : ∀ r : Rt, 1 ≤ dpt r
  | .one _ => by simp [dpt]
  | .turns _ _ => by simp only [dpt]; omega
/-- due, where no default is handed in -/
theorem due_ok {P : Prg} {f g : Nat} (h : P f = some (F_due g)) (hg : P g = some F_later_of) (n : Nat) (T : Rt) (ok : Rg T) (x : Int) (S : Sta) (Q X : K) (q : Q (.str (due T x)) S) : callW P (n + 2) f [toD T, .int x] S Q X := by
  refine callW_of h rfl ?_
  simp [F_due, wB, wS, wE, wTg]
  refine ⟨fun m ρ S' => ∃ (T' : Rt) (y : Int) (v3 v4 : Option D), ρ = [some (toD T), some (.int y), some (toD T'), v3, v4] ∧ m = dpt T' ∧ Rg T' ∧ due T' y = due T x ∧ S' = S, ⟨_, T, x, none, none, rfl, rfl, ok, rfl, rfl⟩, ?_⟩
  rintro m ρ S' ⟨T', y, v3, v4, rfl, rfl, ok', e, rfl⟩
  cases T' with
  | one s =>
    simp [toD]
    simp only [due] at e
    rw [e]
    exact q1_of q
  | turns k ps =>
    obtain ⟨h1, h2, h3, h4⟩ := ok'.len
    have hm : (0 : Int) < ps.length := by omega
    have hb := mod_bd ((k : Int) + y) hm
    obtain ⟨p, hp⟩ := part_at (k := k) (ps := ps) (by omega) y
    have en : (((((k : Int) + y) % ps.length).toNat : Nat) : Int) = ((k : Int) + y) % ps.length := by omega
    have hx := toDs_ix hp
    rw [en] at hx
    have hD : toD (.turns k ps) = .tup [.str (Str.ofString "turns"), .int k, .tup (toDs ps)] := rfl
    rw [hD]
    simp [wE, wEs, place, toDs_len]
    refine ⟨by omega, ?_⟩
    refine later_ok hg n k ps (by omega) _ _ _ _ ?_
    simp [hx]
    refine ⟨divW5 (by omega) (by omega), dpt p, ?_, p, _, ⟨rfl, rfl⟩, rfl, h4 p (List.mem_of_getElem? hp), ?_⟩
    · have := dpt_at hp
      simp only [dpt]; omega
    · rw [← e, due_at hp]; simp

theorem enum_toDs {ps : List Rt} {i : Nat} {y : D} (h : (enumF 0 (toDs ps))[i]? = some y) : ∃ p, ps[i]? = some p ∧ y = .tup [.int i, toD p] := by
  have hi : i < ps.length := by
    have := (List.getElem?_eq_some_iff.mp h).1
    rw [enumF_len, toDs_len] at this
    exact this
  have hp : ps[i]? = some ps[i] := List.getElem?_eq_getElem hi
  have e := enumF_get (toDs ps) 0 i _ (toDs_get ps i _ hp)
  rw [h] at e
  refine ⟨_, hp, ?_⟩
  rw [Int.zero_add] at e
  exact Option.some.inj e
theorem toDs_is {l : List Rt} {i : Nat} {d : D} (h : (toDs l)[i]? = some d) : ∃ r, l[i]? = some r ∧ d = toD r := by
  have hi : i < l.length := by
    have := (List.getElem?_eq_some_iff.mp h).1
    rwa [toDs_len] at this
  have hp : l[i]? = some l[i] := List.getElem?_eq_getElem hi
  rw [toDs_get l i _ hp] at h
  exact ⟨_, hp, (Option.some.inj h).symm⟩
theorem toDs_take : ∀ (l : List Rt) (i : Nat), toDs (l.take i) = (toDs l).take i
  | [], i => by simp [toDs]
  | x :: r, 0 => by simp [toDs]
  | x :: r, i + 1 => by simp [toDs, toDs_take r i]
theorem toDs_snoc {l : List Rt} {i : Nat} {r : Rt} (h : l[i]? = some r) : toDs (l.take i) ++ [toD r] = toDs (l.take (i + 1)) := by
  rw [List.take_succ, h, toDs_app]; rfl
/-- behind -/
theorem behind_ok {P : Prg} {f g l : Nat} (h : P f = some (F_behind f l g)) (hl : P l = some F_visits) (hg : P g = some F_later_of) : ∀ (n : Nat) (T : Rt) (x : Int) (S : Sta) (Q X : K), Rg T → dpt T < n → Q (toD (beh T x)) S → callW P n f [toD T, .int x] S Q X
  | 0, _, _, _, _, _, _, h, _ => absurd h (by omega)
  | n + 1, .one s, x, S, Q, X, ok, hd, q => by
    refine callW_of h rfl ?_
    simp [F_behind, wB, wS, wE, wTg, toD]
    exact q1_of q
  | n + 1, .turns k ps, x, S, Q, X, ok, hd, q => by
    obtain ⟨h1, h2, h3, h4⟩ := ok.len
    have hm : (0 : Int) < ps.length := by omega
    simp only [dpt] at hd
    obtain ⟨n', rfl⟩ : ∃ n', n = n' + 1 := ⟨n - 1, by have := dpt_pos (.turns k ps); cases ps with
      | nil => simp at h1
      | cons y r => have := dpt_pos y; simp only [dpts] at hd; omega⟩
    refine callW_of h rfl ?_
    simp [F_behind, wB, wS, wE, wEs, wIt, wTg, toD, toDs_len, place]
    intro p hp
    refine wfor_nat _ (fun i ρ S' => (∃ v4 v5, ρ = [some (toD (.turns k ps)), some (.int x), some (.int ps.length), some (.ref p), v4, v5]) ∧ S' = ups S p (.lst (toDs ((behL k ps.length 0 ps x).take i)))) ⟨⟨none, none, rfl⟩, rfl⟩ (fun _ _ _ _ => held_nil) (fun i y ρ S' R hy hI hR => ?_) fun ρ S' hI => ?_
    · obtain ⟨⟨v4, v5, rfl⟩, rfl⟩ := hI
      obtain ⟨r, hr, rfl⟩ := enum_toDs hy
      simp [placeL, Es.len]
      refine later_ok hg n' k ps (by omega) _ _ _ _ ?_
      try simp
      refine visits_ok hl n' _ _ _ (by omega) (by omega) _ _ _ ?_
      try simp
      refine behind_ok h hl hg (n' + 1) r _ _ _ _ (h4 r (List.mem_of_getElem? hr)) (by have := dpt_at hr; omega) ?_
      try simp
      have hb := beh_get (k := k) (n := x) hr
      refine ⟨?_, hR _ _ ⟨⟨_, _, rfl⟩, by rw [toDs_snoc hb]⟩⟩
      rw [toDs_len]
      exact line4 (by simp [behL_len]; omega)
    · obtain ⟨⟨v4, v5, rfl⟩, rfl⟩ := hI
      have hb := mod_bd ((k : Int) + x) hm
      have en : (((((k : Int) + x) % ps.length).toNat : Nat) : Int) = ((k : Int) + x) % ps.length := by omega
      have hl : (enumF 0 (toDs ps)).length = (behL k ps.length 0 ps x).length := by rw [enumF_len, toDs_len, behL_len]
      simp only [beh, toD, en] at q
      simp [toD, hl]
      exact ⟨by omega, line4 (by decide), q1_new hp q⟩
end A
end
section
set_option Elab.async false
set_option linter.all false
set_option maxRecDepth 100000
set_option maxHeartbeats 4000000
/-! V3: rounds; turns lived one by one. -/
namespace A
open PySem L2
theorem dpts_max : ∀ (l : List Rt) (d : Nat), dpts l ≤ d ↔ ∀ r ∈ l, dpt r ≤ d
  | [], d => by simp [dpts]
  | x :: l, d => by
    have := dpts_max l d
    simp only [dpts, List.mem_cons, forall_eq_or_imp]
    rw [Nat.max_le, this]
theorem dpt_beh : ∀ (T : Rt) (x : Int), dpt (beh T x) = dpt T := by
  refine Rt.ind (fun s x => rfl) fun k ps ih x => ?_
  simp only [beh, dpt]
  have key : ∀ d, dpts (behL k ps.length 0 ps x) ≤ d ↔ dpts ps ≤ d := fun d => by
    rw [dpts_max, dpts_max]
    constructor
    · intro h r hr
      obtain ⟨j, hj⟩ := List.getElem?_of_mem hr
      have := h _ (List.mem_of_getElem? (beh_get (k := k) (n := x) hj))
      rwa [ih r hr] at this
    · intro h r hr
      obtain ⟨j, hj⟩ := List.getElem?_of_mem hr
      rw [behL_get] at hj
      obtain ⟨q, hq, rfl⟩ := Option.map_eq_some_iff.mp hj
      rw [ih q (List.mem_of_getElem? hq)]
      exact h q (List.mem_of_getElem? hq)
  have h1 := (key (dpts ps)).mpr (Nat.le_refl _)
  have h2 := (key (dpts (behL k ps.length 0 ps x))).mp (Nat.le_refl _)
  omega
theorem F_both_eq : F_law_both = F_divisor := rfl
theorem F_round_eq (a b : Nat) : F_law_round a b = F_round_of a b := rfl
/-! rounds are small -/
theorem rnd_dvd : ∀ r : Rt, Rg r → ∀ d, dpt r ≤ d → rnd r ∣ 60 ^ d := by
  refine Rt.ind (fun s _ d _ => by simp [rnd]) fun k ps ih h d hd => ?_
  obtain ⟨h1, h2, h3, h4⟩ := h.len
  simp only [dpt] at hd
  obtain ⟨e, rfl⟩ : ∃ e, d = e + 1 := ⟨d - 1, by omega⟩
  simp only [rnd, Nat.pow_succ]
  refine Nat.mul_dvd_mul ((rndL_dvd ps 1 (60 ^ e)).mpr ⟨Nat.one_dvd _, fun p hp => ?_⟩) ?_
  · obtain ⟨i, hi⟩ := List.getElem?_of_mem hp
    have := dpt_at hi
    exact ih p hp (h4 p hp) e (by omega)
  · have : ps.length = 2 ∨ ps.length = 3 ∨ ps.length = 4 ∨ ps.length = 5 := by omega
    rcases this with e | e | e | e <;> rw [e] <;> decide
theorem rndL_snoc : ∀ (l : List Rt) (a : Nat) (r : Rt), rndL a (l ++ [r]) = Nat.lcm (rndL a l) (rnd r)
  | [], a, r => rfl
  | x :: l, a, r => by simp only [List.cons_append, rndL, rndL_snoc l]
theorem rndL_take {ps : List Rt} (h4 : ∀ p ∈ ps, Rg p) (i : Nat) : 0 < rndL 1 (ps.take i) ∧ rndL 1 (ps.take i) ∣ 60 ^ dpts ps := by
  refine ⟨rndL_pos _ 1 (by decide) fun p hp => rnd_pos p (h4 p (List.mem_of_mem_take hp)), (rndL_dvd _ 1 _).mpr ⟨Nat.one_dvd _, fun p hp => ?_⟩⟩
  obtain ⟨j, hj⟩ := List.getElem?_of_mem (List.mem_of_mem_take hp)
  exact rnd_dvd p (h4 p (List.mem_of_mem_take hp)) _ (dpt_at hj)
theorem pow60 {d : Nat} (h : d ≤ 10) : 60 ^ d ≤ 60 ^ 10 := Nat.pow_le_pow_right (by decide) h
theorem mulS {i j : Int} (h : 0 ≤ i) (h1 : i < 2 ^ 63) : MulOk i j := .inl (.inl ⟨by omega, by omega⟩)
theorem divS {i j : Int} (h0 : 0 < j) (h1 : j < 2 ^ 64) : L2.CDivW i j := divW h0 (by
  have : (2 : Int) ^ 64 ≤ 2 ^ 8000 := by decide +kernel
  omega)
theorem lcm_div (a b : Nat) : (a * b : Int) / (Nat.gcd a b : Nat) = (Nat.lcm a b : Nat) := by
  have : Nat.lcm a b = a * b / Nat.gcd a b := rfl
  rw [this]; push_cast; rfl
theorem round_ok {P : Prg} {f g : Nat} (h : P f = some (F_round_of f g)) (hg : P g = some F_divisor) : ∀ (n : Nat) (T : Rt) (S : Sta) (Q X : K), Rg T → dpt T ≤ 10 → dpt T < n → Q (.int (rnd T)) S → callW P n f [toD T] S Q X
  | 0, _, _, _, _, _, _, h, _ => absurd h (by omega)
  | n + 1, .one s, S, Q, X, ok, h10, hd, q => by
    refine callW_of h rfl ?_
    simp [F_round_of, wB, wS, wE, wTg, toD]
    exact q1_of q
  | n + 1, .turns k ps, S, Q, X, ok, h10, hd, q => by
    obtain ⟨h1, h2, h3, h4⟩ := ok.len
    simp only [dpt] at hd h10
    obtain ⟨n', rfl⟩ : ∃ n', n = n' + 1 := ⟨n - 1, by cases ps with
      | nil => simp at h1
      | cons y r => have := dpt_pos y; simp only [dpts] at hd; omega⟩
    have b10 := pow60 (show dpts ps ≤ 10 by omega)
    refine callW_of h rfl ?_
    simp [F_round_of, wB, wS, wE, wEs, wIt, wTg, toD, toDs_len, place]
    refine wfor_nat _ (fun i ρ S' => (∃ v2 v3, ρ = [some (toD (.turns k ps)), some (.int (rndL 1 (ps.take i))), v2, v3]) ∧ S' = S) ⟨⟨none, none, rfl⟩, rfl⟩ (fun _ _ _ _ => held_nil) (fun i y ρ S' R hy hI hR => ?_) fun ρ S' hI => ?_
    · obtain ⟨⟨v4, v5, rfl⟩, rfl⟩ := hI
      obtain ⟨r, hr, rfl⟩ := toDs_is hy
      have dr := dpt_at hr
      have rr := h4 r (List.mem_of_getElem? hr)
      obtain ⟨t1, t2⟩ := rndL_take h4 i
      have t3 := Nat.le_of_dvd (Nat.pow_pos (by decide)) t2
      try simp
      refine round_ok h hg (n' + 1) r _ _ _ rr (by omega) (by omega) ?_
      try simp
      have r1 := rnd_pos r rr
      refine ⟨mulS (by omega) (by omega), ?_⟩
      refine divisor_ok hg n' _ _ _ _ _ ?_
      have g1 : 0 < Nat.gcd (rndL 1 (ps.take i)) (rnd r) := Nat.gcd_pos_of_pos_left _ t1
      have g2 := Nat.gcd_le_left (rnd r) t1
      try simp
      have e1 : ps.take i ++ [r] = ps.take (i + 1) := by rw [List.take_succ, hr]; rfl
      refine ⟨divS (by omega) (by omega), ?_⟩
      rw [lcm_div, ← rndL_snoc, e1]
      exact hR _ _ ⟨⟨_, _, rfl⟩, rfl⟩
    · obtain ⟨⟨v4, v5, rfl⟩, rfl⟩ := hI
      rw [toDs_len, List.take_length]
      simp only [rnd] at q
      obtain ⟨t1, t2⟩ := rndL_take h4 ps.length
      rw [List.take_length] at t1 t2
      have t3 := Nat.le_of_dvd (Nat.pow_pos (by decide)) t2
      simp [toD, toDs_len]
      exact ⟨mulS (by omega) (by omega), q1_of (by push_cast at q; exact q)⟩

/-! ### a turn lived -/
theorem toDs_set : ∀ (l : List Rt) (i : Nat) (r : Rt), (toDs l).set i (toD r) = toDs (l.set i r)
  | [], _, _ => rfl
  | x :: l, 0, r => rfl
  | x :: l, i + 1, r => by simp only [toDs, List.set_cons_succ, toDs_set l]
theorem ixN_nat {m k : Nat} (h : k < m) : L2.ixN m (k : Int) = some k := by
  unfold L2.ixN
  simp [h]
theorem step_ok {P : Prg} {f : Nat} (h : P f = some (F_law_step f)) : ∀ (n : Nat) (T : Rt) (S : Sta) (Q X : K), Rg T → dpt T < n → Q (.tup [.str (due T 0), toD (beh T 1)]) S → callW P n f [toD T] S Q X
  | 0, _, _, _, _, _, h, _ => absurd h (by omega)
  | n + 1, .one s, S, Q, X, ok, hd, q => by
    refine callW_of h rfl ?_
    simp [F_law_step, wB, wS, wE, wEs, wTg, toD]
    exact ⟨line4 (by decide), q1_of q⟩
  | n + 1, .turns k ps, S, Q, X, ok, hd, q => by
    obtain ⟨h1, h2, h3, h4⟩ := ok.len
    simp only [dpt] at hd
    have hp : ps[k]? = some ps[k] := List.getElem?_eq_getElem h3
    generalize ps[k] = r at hp
    refine callW_of h rfl ?_
    simp [F_law_step, wB, wS, wE, wEs, wIt, wTg, toD, toDs_len, place, itemsK]
    intro p hpp
    try simp
    refine ⟨toD r, toDs_ix hp, ?_⟩
    refine step_ok h n r _ _ _ (h4 r (List.mem_of_getElem? hp)) (by have := dpt_at hp; omega) ?_
    refine ⟨_, _, rfl, ?_⟩
    try simp
    rw [beh_one ok hp, due_zero hp] at q
    simp only [toD] at q
    refine ⟨k, by rw [toDs_len]; exact ixN_nat h3, ?_⟩
    simp [toDs_len, toDs_set]
    refine ⟨by omega, line4 (by decide), line4 (by decide), q1_new hpp ?_⟩
    have e : (((k + 1) % ps.length : Nat) : Int) = ((k : Int) + 1) % ps.length := by push_cast; rfl
    rw [e] at q
    exact q
theorem back_ok {P : Prg} {f : Nat} (h : P f = some (F_law_back_step f)) : ∀ (n : Nat) (T : Rt) (S : Sta) (Q X : K), Rg T → dpt T < n → Q (toD (beh T (-1))) S → callW P n f [toD T] S Q X
  | 0, _, _, _, _, _, h, _ => absurd h (by omega)
  | n + 1, .one s, S, Q, X, ok, hd, q => by
    refine callW_of h rfl ?_
    simp [F_law_back_step, wB, wS, wE, wEs, wTg, toD]
    exact q1_of q
  | n + 1, .turns k ps, S, Q, X, ok, hd, q => by
    obtain ⟨h1, h2, h3, h4⟩ := ok.len
    simp only [dpt] at hd
    have hm : (0 : Int) < ps.length := by omega
    have hk := mod_bd ((k : Int) - 1) hm
    have hj : (((k : Int) - 1) % ps.length).toNat < ps.length := by omega
    have ej : (((((k : Int) - 1) % ps.length).toNat : Nat) : Int) = ((k : Int) - 1) % ps.length := by omega
    have hp : ps[(((k : Int) - 1) % ps.length).toNat]? = some ps[(((k : Int) - 1) % ps.length).toNat] := List.getElem?_eq_getElem hj
    generalize ps[(((k : Int) - 1) % ps.length).toNat] = r at hp
    refine callW_of h rfl ?_
    simp [F_law_back_step, wB, wS, wE, wEs, wIt, wTg, toD, toDs_len, place, itemsK]
    intro p hpp
    try simp
    refine ⟨by omega, toD r, by rw [← ej]; exact toDs_ix hp, ?_⟩
    refine back_ok h n r _ _ _ (h4 r (List.mem_of_getElem? hp)) (by have := dpt_at hp; omega) ?_
    try simp
    rw [beh_back ok hp] at q
    simp only [toD] at q
    refine ⟨_, by rw [toDs_len, ← ej]; exact ixN_nat hj, ?_⟩
    simp [toDs_len, toDs_set]
    refine ⟨line4 (by decide), q1_new hpp ?_⟩
    rw [ej] at q
    exact q
theorem beh_succ {T : Rt} (ok : Rg T) (i : Nat) : beh (beh T i) 1 = beh T ((i + 1 : Nat) : Int) := by
  rw [beh_add T ok]; push_cast; rfl
/-- the names of so many turns from a number on -/
def nmsR (T : Rt) (a : Int) (m : Nat) : List Str := (List.range m).map fun (i : Nat) => due T (a + i)
theorem nmsR_len (T : Rt) (a : Int) (m : Nat) : (nmsR T a m).length = m := by simp [nmsR]
theorem nmsR_get {T : Rt} {a : Int} {m i : Nat} (h : i < m) : (nmsR T a m)[i]? = some (due T (a + i)) := by simp [nmsR, h]
theorem nmsR_take (T : Rt) (a : Int) (m i : Nat) (h : i ≤ m) : (nmsR T a m).take i = nmsR T a i := by
  unfold nmsR
  rw [← List.map_take, List.take_range, Nat.min_eq_left h]
theorem nmsR_snoc (T : Rt) (a : Int) (i : Nat) : nmsR T a i ++ [due T (a + i)] = nmsR T a (i + 1) := by
  unfold nmsR
  rw [List.range_succ, List.map_append]; rfl
def strD (l : List Str) : List D := l.map .str
theorem row_law_ok {P : Prg} {f g : Nat} (h : P f = some (F_law_row g)) (hg : P g = some (F_law_step g)) (n : Nat) (T : Rt) (ok : Rg T) (hd : dpt T < n) (m : Nat) (hm : m < 1000000) (S : Sta) (Q X : K) (q : ∀ p, S p = none → Q (.tup [.ref p, toD (beh T m)]) (ups S p (.lst (strD (nmsR T 0 m))))) : callW P (n + 1) f [toD T, .int m] S Q X := by
  refine callW_of h rfl ?_
  simp [F_law_row, wB, wS, wE, wEs, wIt, wTg, place]
  intro p hp
  refine ⟨by omega, ?_⟩
  refine wfor_nat _ (fun i ρ S' => (∃ v3 v4, ρ = [some (toD (beh T i)), some (.int m), some (.ref p), v3, v4]) ∧ S' = ups S p (.lst (strD (nmsR T 0 i)))) ⟨⟨none, none, by simp [beh_zero T ok]⟩, rfl⟩ (fun _ _ _ _ => held_nil) (fun i y ρ S' R hy hI hR => ?_) fun ρ S' hI => ?_
  · obtain ⟨⟨v4, v5, rfl⟩, rfl⟩ := hI
    try simp
    refine step_ok hg n _ _ _ _ (rg_beh T ok _) (by rw [dpt_beh]; exact hd) ?_
    try simp
    refine ⟨?_, ?_⟩
    · rw [show (strD (nmsR T 0 i)).length = i by simp [strD, nmsR_len]]
      have := (range_at hy).1
      exact line3 (by omega)
    · have e1 : strD (nmsR T 0 i) ++ [D.str (due (beh T i) 0)] = strD (nmsR T 0 (i + 1)) := by
        rw [due_beh T ok, ← nmsR_snoc]
        simp [strD]
      rw [beh_succ ok, e1]
      exact hR _ _ ⟨⟨_, _, rfl⟩, rfl⟩
  · obtain ⟨⟨v4, v5, rfl⟩, rfl⟩ := hI
    simp
    exact ⟨line4 (by decide), q1_of (q p hp)⟩
/-- row, all three handed in -/
theorem row_ok {P : Prg} {f g l : Nat} (h : P f = some (F_row g)) (hg : P g = some (F_due l)) (hl : P l = some F_later_of) (n : Nat) (T : Rt) (ok : Rg T) (m : Nat) (hm : m < 10000) (a : Int) (S : Sta) (Q X : K) (q : ∀ p, S p = none → Q (.ref p) (ups S p (.lst (strD (nmsR T a m))))) : callW P (n + 3) f [toD T, .int m, .int a] S Q X := by
  refine callW_of h rfl ?_
  simp [F_row, wB, wS, wE, wEs, wIt, wTg, place, placeL, Es.len]
  refine ⟨by omega, ?_⟩
  refine wcomp_idx (strD (nmsR T a m)) (by simp; omega) (by simp [strD, nmsR_len]) held_nil (fun i x y R hx hy hR => ?_) fun p hp => q1_of (q p hp)
  obtain ⟨hi, rfl⟩ := range_at hx
  simp only [strD, List.getElem?_map, nmsR_get hi, Option.map_some, Option.some.injEq] at hy
  subst hy
  simp
  exact due_ok hg hl n T ok _ _ _ _ hR
end A
end
section
set_option Elab.async false
set_option linter.all false
set_option maxRecDepth 100000
set_option maxHeartbeats 4000000
/-! V4: == of data; alike in all. -/
namespace A
open PySem L2
/-! ### values without truth values -/
mutual
def nbD : D → Bool
  | .non => true
  | .int _ => true
  | .str s => PyData.strOk s
  | .tup l => nbDs l
  | _ => false
def nbDs : List D → Bool
  | [] => true
  | d :: r => nbD d && nbDs r
end
mutual
def pOf : D → PyData
  | .int i => .int i
  | .str s => .str s
  | .tup l => .tuple (pOfs l)
  | _ => .none
def pOfs : List D → List PyData
  | [] => []
  | d :: r => pOf d :: pOfs r
end
mutual
theorem toP_nb : ∀ d : D, nbD d = true → toP d = some (pOf d) ∧ (pOf d).canLay0 = true ∧ (pOf d).depth ≤ depD d
  | .non, _ => ⟨rfl, rfl, Nat.zero_le _⟩
  | .int i, _ => ⟨rfl, rfl, Nat.zero_le _⟩
  | .str s, h => ⟨rfl, h, Nat.zero_le _⟩
  | .tup l, h => by
    simp only [nbD] at h
    obtain ⟨h1, h2, h3⟩ := toP_nbs l h
    refine ⟨by simp only [toP, h1, pOf]; rfl, by simp only [pOf, PyData.canLay0]; exact h2, ?_⟩
    simp only [pOf, PyData.depth, depD]
    omega
  | .bl _, h => by cases h
  | .lis _, h => by cases h
  | .ref _, h => by cases h
  | .fn _, h => by cases h
  | .exc _ _ _, h => by cases h
theorem toP_nbs : ∀ l : List D, nbDs l = true → toPs l = some (pOfs l) ∧ PyData.canLayAll0 (pOfs l) = true ∧ PyData.depthAll (pOfs l) ≤ depDs l
  | [], _ => ⟨rfl, rfl, Nat.zero_le _⟩
  | d :: r, h => by
    simp only [nbDs, Bool.and_eq_true] at h
    obtain ⟨h1, h2, h3⟩ := toP_nb d h.1
    obtain ⟨g1, g2, g3⟩ := toP_nbs r h.2
    refine ⟨by simp only [toPs, h1, g1, pOfs], by simp only [pOfs, PyData.canLayAll0, h2, g2]; rfl, ?_⟩
    simp only [pOfs, PyData.depthAll, depDs]
    omega
end
mutual
theorem eqv_nb : ∀ d e : D, nbD d = true → nbD e = true → (PyData.eqv (pOf d) (pOf e) = true ↔ d = e)
  | .non, e, _, he => by cases e <;> simp [pOf, PyData.eqv] <;> cases he
  | .int i, e, _, he => by cases e <;> simp [pOf, PyData.eqv] <;> cases he
  | .str s, e, _, he => by cases e <;> simp [pOf, PyData.eqv] <;> cases he
  | .tup l, e, hd, he => by
    cases e with
    | tup m =>
      simp only [nbD] at hd he
      simp only [pOf, PyData.eqv, D.tup.injEq]
      exact eqv_nbs l m hd he
    | _ => first | (cases he; done) | simp [pOf, PyData.eqv]
  | .bl _, _, h, _ => by cases h
  | .lis _, _, h, _ => by cases h
  | .ref _, _, h, _ => by cases h
  | .fn _, _, h, _ => by cases h
  | .exc _ _ _, _, h, _ => by cases h
theorem eqv_nbs : ∀ l m : List D, nbDs l = true → nbDs m = true → (PyData.eqvAll (pOfs l) (pOfs m) = true ↔ l = m)
  | [], [], _, _ => by simp [pOfs, PyData.eqvAll]
  | [], _ :: _, _, _ => by simp [pOfs, PyData.eqvAll]
  | _ :: _, [], _, _ => by simp [pOfs, PyData.eqvAll]
  | d :: l, e :: m, hd, he => by
    simp only [nbDs, Bool.and_eq_true] at hd he
    simp only [pOfs, PyData.eqvAll, Bool.and_eq_true, List.cons.injEq]
    rw [eqv_nb d e hd.1 he.1, eqv_nbs l m hd.2 he.2]
end
theorem shaped_nb {d : D} (h : nbD d = true) (hd : depD d ≤ 60) : SeqAt.shaped (pOf d) = true := by
  obtain ⟨_, h2, h3⟩ := toP_nb d h
  unfold SeqAt.shaped
  rw [h2, Bool.true_and, decide_eq_true_eq]
  omega
theorem toPS_nb {S : Sta} {d : D} (h : nbD d = true) : toPS S d = some (pOf d) := by
  have := (toP_nb d h).1
  cases d <;> first | exact this | cases h
theorem eqDD_nb {S : Sta} {d e : D} {P : Bool → Prop} (hd : nbD d = true) (he : nbD e = true) (d1 : depD d ≤ 60) (d2 : depD e ≤ 60) (q : ∀ b : Bool, (b = true ↔ d = e) → P b) : eqDD S d e P :=
  ⟨_, _, toPS_nb hd, toPS_nb he, shaped_nb hd d1, shaped_nb he d2, q _ (eqv_nb d e hd he)⟩
theorem eqDD_lst {S : Sta} {a b : Addr} {xs ys : List D} {P : Bool → Prop} (ha : S a = some (.lst xs)) (hb : S b = some (.lst ys)) (hx : nbDs xs = true) (hy : nbDs ys = true) (d1 : depDs xs ≤ 59) (d2 : depDs ys ≤ 59) (q : ∀ b : Bool, (b = true ↔ xs = ys) → P b) : eqDD S (.ref a) (.ref b) P := by
  obtain ⟨h1, h2, h3⟩ := toP_nbs xs hx
  obtain ⟨g1, g2, g3⟩ := toP_nbs ys hy
  refine ⟨.list (pOfs xs), .list (pOfs ys), by simp only [toPS, ha, h1]; rfl, by simp only [toPS, hb, g1]; rfl, ?_, ?_, q _ ?_⟩
  · unfold SeqAt.shaped
    have e1 : (PyData.list (pOfs xs)).depth = PyData.depthAll (pOfs xs) + 1 := rfl
    have e2 : (PyData.list (pOfs xs)).canLay0 = true := h2
    rw [e1, e2, Bool.true_and, decide_eq_true_eq]
    omega
  · unfold SeqAt.shaped
    have e1 : (PyData.list (pOfs ys)).depth = PyData.depthAll (pOfs ys) + 1 := rfl
    have e2 : (PyData.list (pOfs ys)).canLay0 = true := g2
    rw [e1, e2, Bool.true_and, decide_eq_true_eq]
    omega
  · simp only [PyData.eqv]
    exact eqv_nbs xs ys hx hy
@[simp] theorem cmp_eqt {C : Orc} {l : List D} {y : D} {S : Sta} {R : Bool → Sta → Prop} : wcmp C .eq (.tup l) y S R = eqDD S (.tup l) y (fun b => R b S) := rfl
@[simp] theorem cmp_net {C : Orc} {l : List D} {y : D} {S : Sta} {R : Bool → Sta → Prop} : wcmp C .ne (.tup l) y S R = eqDD S (.tup l) y (fun b => R (!b) S) := rfl
theorem cmp_eql {C : Orc} {a b : Addr} {xs ys : List D} {S : Sta} {R : Bool → Sta → Prop} (ha : S a = some (.lst xs)) : wcmp C .eq (.ref a) (.ref b) S R = eqDD S (.ref a) (.ref b) (fun b => R b S) := by
  simp only [wcmp, ha]; rfl
theorem cmp_nel {C : Orc} {a b : Addr} {xs : List D} {S : Sta} {R : Bool → Sta → Prop} (ha : S a = some (.lst xs)) : wcmp C .ne (.ref a) (.ref b) S R = eqDD S (.ref a) (.ref b) (fun b => R (!b) S) := by
  simp only [wcmp, ha]; rfl
/-! rights -/
mutual
theorem toD_inj : ∀ T U : Rt, toD T = toD U → T = U
  | .one s, .one t, h => by simp [toD] at h; rw [h]
  | .one _, .turns _ _, h => by simp [toD] at h
  | .turns _ _, .one _, h => by simp [toD] at h
  | .turns k ps, .turns j qs, h => by
    simp [toD] at h
    rw [Int.ofNat.inj h.1, toDs_inj ps qs h.2]
theorem toDs_inj : ∀ l m : List Rt, toDs l = toDs m → l = m
  | [], [], _ => rfl
  | [], _ :: _, h => by simp [toDs] at h
  | _ :: _, [], h => by simp [toDs] at h
  | T :: l, U :: m, h => by
    simp [toDs] at h
    rw [toD_inj T U h.1, toDs_inj l m h.2]
end
theorem strOk_name {s : Str} (h : NameOk s) : PyData.strOk s = true := by
  obtain ⟨_, _, h3⟩ := h
  unfold PyData.strOk
  rw [← Array.all_toList, List.all_eq_true]
  intro c hc
  have := h3 c hc
  unfold isL at this
  simp; omega
theorem strOk_lit (s : String) (h : (Str.ofString s).cps.toList.all (fun c => decide (c < 1114112)) = true) : PyData.strOk (Str.ofString s) = true := by
  unfold PyData.strOk
  rw [← Array.all_toList]
  exact h
mutual
theorem nb_toD : ∀ T : Rt, RtOk T → nbD (toD T) = true ∧ depD (toD T) ≤ 2 * dpt T
  | .one s, h => by
    have h1 := strOk_name (show NameOk s from h)
    have h2 : PyData.strOk (Str.ofString "one") = true := by decide +kernel
    simp [toD, nbD, nbDs, depD, depDs, dpt, h1, h2]
  | .turns k ps, ⟨h2, h5, hk, o⟩ => by
    obtain ⟨p1, p2⟩ := nb_toDs ps o
    have h2 : PyData.strOk (Str.ofString "turns") = true := by decide +kernel
    simp [toD, nbD, nbDs, depD, depDs, dpt, p1, h2]
    omega
theorem nb_toDs : ∀ l : List Rt, RtOks l → nbDs (toDs l) = true ∧ depDs (toDs l) ≤ 2 * dpts l
  | [], _ => by simp [toDs, nbDs, depDs, dpts]
  | r :: rs, o => by
    obtain ⟨p1, p2⟩ := nb_toD r o.1
    obtain ⟨q1, q2⟩ := nb_toDs rs o.2
    simp [toDs, nbDs, depDs, dpts, p1, q1]
    omega
end
theorem cmp_eqT {C : Orc} {T U : Rt} {S : Sta} {R : Bool → Sta → Prop} (h1 : RtOk T) (h2 : RtOk U) (d1 : dpt T ≤ 20) (d2 : dpt U ≤ 20) (q : ∀ b : Bool, (b = true ↔ T = U) → R b S) : wcmp C .eq (toD T) (toD U) S R := by
  have e : wcmp C .eq (toD T) (toD U) S R = eqDD S (toD T) (toD U) (fun b => R b S) := by cases T <;> rfl
  rw [e]
  refine eqDD_nb (nb_toD T h1).1 (nb_toD U h2).1 (by have := (nb_toD T h1).2; omega) (by have := (nb_toD U h2).2; omega) fun b hb => q b ?_
  rw [hb]
  exact ⟨toD_inj T U, fun e => by rw [e]⟩
/-! names kept -/
mutual
theorem ok_rg : ∀ T : Rt, RtOk T → Rg T
  | .one s, _ => .one s
  | .turns k ps, ⟨h2, h5, hk, o⟩ => .turns k ps h2 h5 hk (oks_rg ps o)
theorem oks_rg : ∀ l : List Rt, RtOks l → ∀ p ∈ l, Rg p
  | [], _, p, h => by cases h
  | r :: rs, o, p, h => by
    rcases List.mem_cons.mp h with h | h
    · rw [h]; exact ok_rg r o.1
    · exact oks_rg rs o.2 p h
end
theorem oks_mem : ∀ {l : List Rt}, RtOks l ↔ ∀ p ∈ l, RtOk p
  | [] => by simp [RtOks]
  | r :: rs => by simp [RtOks, oks_mem]
theorem ok_beh : ∀ T : Rt, RtOk T → ∀ x, RtOk (beh T x) := by
  refine Rt.ind (fun s h x => h) fun k ps ih h x => ?_
  obtain ⟨h2, h5, hk, o⟩ := h
  have hm := mod_bd ((k : Int) + x) (m := ps.length) (by omega)
  refine ⟨by rw [behL_len]; exact h2, by rw [behL_len]; exact h5, by rw [behL_len]; omega, oks_mem.mpr fun p hp => ?_⟩
  obtain ⟨j, hj⟩ := List.getElem?_of_mem hp
  rw [behL_get] at hj
  obtain ⟨q, hq, rfl⟩ := Option.map_eq_some_iff.mp hj
  exact ih q (List.mem_of_getElem? hq) (oks_mem.mp o q (List.mem_of_getElem? hq)) _
theorem name_due {T : Rt} (h : RtOk T) (x : Int) : NameOk (due T x) := by
  have : ∀ T : Rt, RtOk T → ∀ s ∈ nms T, NameOk s := by
    refine Rt.ind (fun s h t ht => by simp [nms] at ht; rw [ht]; exact h) fun k ps ih h t ht => ?_
    simp only [nms, mem_nmsL] at ht
    obtain ⟨p, hp, ht⟩ := ht
    exact ih p hp (oks_mem.mp h.2.2.2 p hp) t ht
  exact this T h _ (due_mem T (ok_rg T h) x)

/-! ### the law's own likeness -/
/-- alike, n deep -/
def eqN : Nat → Sta → D → D → Prop
  | 0, _, _, _ => False
  | n + 1, S, d, e => match d, e with
    | .non, .non => True
    | .int i, .int j => i = j
    | .str s, .str t => s = t
    | .bl a, .bl b => a = b
    | .tup l, .tup m => l.length = m.length ∧ l.length < 16777216 ∧ ∀ (i : Nat) (x y : D), l[i]? = some x → m[i]? = some y → eqN n S x y
    | .ref a, .ref b => ∃ l m, S a = some (.lst l) ∧ S b = some (.lst m) ∧ l.length = m.length ∧ l.length < 16777216 ∧ ∀ (i : Nat) (x y : D), l[i]? = some x → m[i]? = some y → eqN n S x y
    | _, _ => False
theorem zipD_is : ∀ {l m : List D} {i : Nat} {x : D}, (zipD l m)[i]? = some x → ∃ d e, l[i]? = some d ∧ m[i]? = some e ∧ x = .tup [d, e]
  | [], m, i, x, h => by simp [zipD] at h
  | y :: r, [], i, x, h => by simp [zipD] at h
  | y :: r, z :: t, 0, x, h => by simp [zipD] at h; exact ⟨y, z, rfl, rfl, h.symm⟩
  | y :: r, z :: t, i + 1, x, h => by
    simp only [zipD, List.getElem?_cons_succ] at h
    simpa using zipD_is h
theorem both_lst {S : Sta} {a b : Addr} {l m : List D} (ha : S a = some (.lst l)) (hb : S b = some (.lst m)) : both S (.ref a) (.ref b) l m := .inl ⟨by simp [ha], by simp [hb]⟩
theorem eqN_ok {P : Prg} {t : Nat} (h : P t = some (fSame t)) : ∀ (n : Nat) (d e : D) (S : Sta) (Q X : K), eqN n S d e → Q (.bl true) S → callW P n t [d, e] S Q X
  | 0, _, _, _, _, _, h, _ => h.elim
  | n + 1, d, e, S, Q, X, he, q => by
    have list : ∀ (l m : List D) (hl : l.length = m.length) (hs : l.length < 16777216) (hx : ∀ (i : Nat) (x y : D), l[i]? = some x → m[i]? = some y → eqN n S x y) (hh : List (Addr × MO)) (hd : Held hh S) (ρ2 ρ3 : Option D),
        wcomp hh (fun x S2 R => wtgN [2, 3] x [ρ2, ρ3, none, none] fun ρ1 => ∃ d, ρ1[2]? = some (some d) ∧ ∃ d_1, ρ1[3]? = some (some d_1) ∧ callW P n t [d, d_1] S2 (fun d S4 => R (some d) S4) fun x x_1 => False) (zipD l m) [] S
          fun ds S5 => ∀ p, S5 p = none → ∃ bs, bsOf ds = some bs ∧ Q1 Q (.bl (bs.all id)) (ups S5 p (.lst ds)) := fun l m hl hs hx hh hd ρ2 ρ3 => by
      refine wcomp_idx (List.replicate l.length (.bl true)) (by rw [zipD_len]; omega) (by rw [zipD_len]; simp; omega) hd (fun i x y R hx1 hy hR => ?_) fun p hp => ?_
      · obtain ⟨d, e, h1, h2, rfl⟩ := zipD_is hx1
        have hi : i < l.length := (List.getElem?_eq_some_iff.mp h1).1
        rw [List.getElem?_replicate, if_pos hi] at hy
        cases hy
        simp
        exact eqN_ok h n d e S _ _ (hx i d e h1 h2) hR
      · refine ⟨_, bsOf_rep _, ?_⟩
        have e1 : (List.replicate l.length true).all id = true := by simp
        rw [e1]
        exact q1_new hp q
    refine callW_of h rfl ?_
    cases d with
    | int i =>
      cases e <;> first | (exact False.elim he) | skip
      have he : i = _ := he
      subst he
      simp [fSame, wB, wS, wE, isKd]
      exact q1_of q
    | str i =>
      cases e <;> first | (exact False.elim he) | skip
      have he : i = _ := he
      subst he
      simp [fSame, wB, wS, wE, isKd]
      exact q1_of q
    | bl i =>
      cases e <;> first | (exact False.elim he) | skip
      have he : i = _ := he
      subst he
      simp [fSame, wB, wS, wE, isKd]
      exact q1_of q
    | non =>
      cases e <;> first | (exact False.elim he) | skip
      simp [fSame, wB, wS, wE, isKd]
      exact q1_of q
    | tup l =>
      cases e <;> first | (exact False.elim he) | skip
      rename_i m
      obtain ⟨hl, hs, hx⟩ := he
      simp [fSame, wB, wS, wE, wEs, wIt, isKd, both_tup, place, hl]
      exact ⟨l, m, ⟨rfl, rfl⟩, list l m hl hs hx _ held_nil _ _⟩
    | ref a =>
      cases e <;> first | (exact False.elim he) | skip
      rename_i b
      obtain ⟨l, m, ha, hb, hl, hs, hx⟩ := he
      simp [fSame, wB, wS, wE, wEs, wIt, isKd, place, hl, ha, hb]
      exact ⟨l, m, both_lst ha hb, list l m hl hs hx _ (fun p hp => by
        simp at hp
        rcases hp with rfl | rfl
        · exact ha
        · exact hb) _ _⟩
    | _ => exact False.elim he

mutual
theorem eqN_refl : ∀ (n : Nat) (S : Sta) (d : D), nbD d = true → plainD d = true → depD d < n → eqN n S d d
  | 0, _, _, _, _, h => absurd h (by omega)
  | n + 1, S, .int i, _, _, _ => rfl
  | n + 1, S, .str i, _, _, _ => rfl
  | n + 1, S, .tup l, h, p, hd => by
    simp only [plainD, Bool.and_eq_true, decide_eq_true_eq] at p
    simp only [depD] at hd
    refine ⟨rfl, by omega, fun i x y h1 h2 => ?_⟩
    rw [h1] at h2
    cases h2
    exact eqNs_refl n S l i x h1 h p.2 (by omega)
theorem eqNs_refl : ∀ (n : Nat) (S : Sta) (l : List D) (i : Nat) (x : D), l[i]? = some x → nbDs l = true → plainDs l = true → depDs l < n → eqN n S x x
  | n, S, [], i, x, h, _, _, _ => by simp at h
  | n, S, d :: r, 0, x, h, h1, h2, h3 => by
    simp at h; subst h
    simp only [nbDs, plainDs, Bool.and_eq_true, depDs] at h1 h2 h3
    exact eqN_refl n S d h1.1 h2.1 (by omega)
  | n, S, d :: r, i + 1, x, h, h1, h2, h3 => by
    simp only [nbDs, plainDs, Bool.and_eq_true, depDs] at h1 h2 h3
    exact eqNs_refl n S r i x (by simpa using h) h1.2 h2.2 (by omega)
end
mutual
theorem plain_T : ∀ T : Rt, RtOk T → plainD (toD T) = true
  | .one s, _ => by simp [toD, plainD, plainDs]
  | .turns k ps, ⟨h2, h5, hk, o⟩ => by
    have p1 := plain_Ts ps o
    have hl := toDs_len ps
    simp [toD, plainD, plainDs, p1, hl]
    omega
theorem plain_Ts : ∀ l : List Rt, RtOks l → plainDs (toDs l) = true
  | [], _ => by simp [toDs, plainDs]
  | r :: rs, o => by simp [toDs, plainDs, plain_T r o.1, plain_Ts rs o.2]
end
/-- rights are like themselves -/
theorem eqN_T {T : Rt} (h : RtOk T) (n : Nat) (S : Sta) (hn : 2 * dpt T < n) : eqN n S (toD T) (toD T) := eqN_refl n S _ (nb_toD T h).1 (plain_T T h) (by have := (nb_toD T h).2; omega)
theorem same_T {P : Prg} {t : Nat} (h : P t = some (fSame t)) {n : Nat} {T : Rt} (ok : RtOk T) (hn : 2 * dpt T < n) {S : Sta} {Q X : K} (q : Q (.bl true) S) : callW P n t [toD T, toD T] S Q X := eqN_ok h n _ _ S Q X (eqN_T ok n S hn) q
theorem same_int {P : Prg} {t : Nat} (h : P t = some (fSame t)) {n : Nat} {i : Int} {S : Sta} {Q X : K} (q : Q (.bl true) S) : callW P (n + 1) t [.int i, .int i] S Q X := eqN_ok h (n + 1) _ _ S Q X rfl q
theorem same_str {P : Prg} {t : Nat} (h : P t = some (fSame t)) {n : Nat} {i : Str} {S : Sta} {Q X : K} (q : Q (.bl true) S) : callW P (n + 1) t [.str i, .str i] S Q X := eqN_ok h (n + 1) _ _ S Q X rfl q
/-- two lists of the same flat or plain things -/
theorem same_lst {P : Prg} {t : Nat} (h : P t = some (fSame t)) {n : Nat} {a b : Addr} {l m : List D} {S : Sta} {Q X : K} (ha : S a = some (.lst l)) (hb : S b = some (.lst m)) (e : l = m) (hl : l.length < 16777216) (hx : ∀ x ∈ l, eqN n S x x) (q : Q (.bl true) S) : callW P (n + 1) t [.ref a, .ref b] S Q X := by
  subst e
  refine eqN_ok h (n + 1) _ _ S Q X ⟨l, l, ha, hb, rfl, hl, fun i x y h1 h2 => ?_⟩ q
  rw [h1] at h2
  cases h2
  exact hx x (List.mem_of_getElem? h1)
theorem strD_mem {l : List Str} {n : Nat} {S : Sta} : ∀ x ∈ strD l, eqN (n + 1) S x x := fun x hx => by
  obtain ⟨s, _, rfl⟩ := List.mem_map.mp hx
  exact rfl
end A
end
section
set_option Elab.async false
set_option linter.all false
set_option maxRecDepth 100000
set_option maxHeartbeats 4000000
/-! V5: lists of names, cut. -/
namespace A
open PySem L2
theorem strD_at {T : Rt} {a : Int} {m i : Nat} (h : i < m) : L2.atI (strD (nmsR T a m)) (i : Int) = some (.str (due T (a + i))) := L2.atI_nat (by simp [strD, nmsR_get h])
theorem Box.keepf {b f : Addr} {S S' : Sta} (x : Box b S) (hf : S f = none) (k : Keep f S S') : Box b S' := by
  obtain ⟨q, ns, i, r, s, e1, e2, y⟩ := x
  exact ⟨q, ns, i, r, s, k _ _ (sne e1 hf) e1, k _ _ (sne e2 hf) e2, y⟩
theorem cutD_ft {l : List D} {a h : Int} (h0 : 0 ≤ a) (h1 : a ≤ h) (h2 : h ≤ l.length) : cutD l (some a) (some h) = (l.drop a.toNat).take (h.toNat - a.toNat) := by
  unfold cutD
  simp only [HT.sIx]
  rw [if_neg (by omega), if_neg (by omega)]
  have e1 : min a.toNat l.length = a.toNat := by omega
  have e2 : min h.toNat l.length = h.toNat := by omega
  rw [e1, e2]
theorem nmsR_cut (T : Rt) (x : Int) (M a m : Nat) (h : a + m ≤ M) : ((nmsR T x M).drop a).take m = nmsR T (x + a) m := by
  refine List.ext_getElem? fun i => ?_
  by_cases hi : i < m
  · rw [List.getElem?_take_of_lt hi, List.getElem?_drop, nmsR_get (by omega), nmsR_get hi]
    congr 2
    push_cast
    omega
  · rw [List.getElem?_eq_none (by simp [nmsR_len]; omega), List.getElem?_eq_none (by simp [nmsR_len]; omega)]
theorem cut_nms {T : Rt} {M : Nat} {a m : Int} (h0 : 0 ≤ a) (h1 : 0 ≤ m) (h2 : a + m ≤ M) : cutD (strD (nmsR T 0 M)) (some a) (some (a + m)) = strD (nmsR T a m.toNat) := by
  have hl : (strD (nmsR T 0 M)).length = M := by simp [strD, nmsR_len]
  rw [cutD_ft h0 (by omega) (by omega)]
  unfold strD
  rw [← List.map_drop, ← List.map_take]
  have e : (a + m).toNat - a.toNat = m.toNat := by omega
  rw [e, nmsR_cut T 0 M a.toNat m.toNat (by omega)]
  congr 2
  omega
end A
end
section
set_option Elab.async false
set_option linter.all false
set_option maxRecDepth 100000
set_option maxHeartbeats 4000000
/-! V6: far numbers drawn. -/
namespace A
open PySem L2
theorem powC (a b : Int) (h0 : 0 ≤ b) (h1 : b ≤ 1000) (h2 : 0 ≤ a) (h3 : a < 1000) : L2.CPow a b := ⟨h0, by omega, by omega⟩
theorem Keep.fresh {b p : Addr} {S S' : Sta} {o : MO} (k : Keep b S S') (h : S' p = none) : Keep b S (ups S' p o) := k.trans (Keep.new h)
theorem far_ok {P : Prg} {t f : Nat} {b : Addr} {S : Sta} {Q X : K} (ht : P t = some fTake) (h : P f = some (F_law_far t)) (n : Nat) (hb : Box b S)
    (q : ∀ v S', 0 ≤ v → v < 2 ^ 100 → Box b S' → Keep b S S' → Q (.int v) S') : callW P (n + 2) f [.ref b] S Q X := by
  refine callW_of h rfl ?_
  simp [F_law_far, wB, wS, wE, wEs, place]
  refine take_ok ht hb (by decide) (by decide) fun v1 S1 a1 a2 b1 k1 => ?_
  try simp
  refine ⟨powC _ _ (by decide) (by decide) (by decide) (by decide), ?_⟩
  refine take_ok ht b1 (by decide) (by decide) fun v2 S2 c1 c2 b2 k2 => ?_
  try simp
  refine ⟨powC _ _ (by decide) (by decide) (by decide) (by decide), powC _ _ (by decide) (by decide) (by decide) (by decide), ?_⟩
  refine take_ok ht b2 (by decide) (by decide) fun v3 S3 d1 d2 b3 k3 => ?_
  try simp
  refine ⟨line4 (by decide), fun p hp => ?_⟩
  refine take_ok ht (b3.sub (Sub.new hp)) (by decide) (by decide) fun v4 S4 e1 e2 b4 k4 => ?_
  have np := b3.at hp
  have ep := k4 _ _ np ups_same
  have kk : Keep b S S4 := ((k1.trans k2).trans (k3.fresh hp)).trans k4
  simp [ep]
  have h3 : v4 = 0 ∨ v4 = 1 ∨ v4 = 2 := by omega
  rcases h3 with rfl | rfl | rfl
  · exact ⟨_, at_0 _ _, q1_of (q _ _ a1 (by omega) b4 kk)⟩
  · exact ⟨_, at_1 _ _ _, q1_of (q _ _ c1 (by omega) b4 kk)⟩
  · exact ⟨_, at_2 _ _ _ _, q1_of (q _ _ (by omega) (by omega) b4 kk)⟩
theorem any_ok {P : Prg} {t f g : Nat} {b : Addr} {S : Sta} {Q X : K} (ht : P t = some fTake) (hf : P f = some (F_law_far t)) (h : P g = some (F_law_any f t)) (n : Nat) (hb : Box b S)
    (q : ∀ v S', -(2 ^ 100) < v → v < 2 ^ 100 → Box b S' → Keep b S S' → Q (.int v) S') : callW P (n + 3) g [.ref b] S Q X := by
  refine callW_of h rfl ?_
  simp [F_law_any, wB, wS, wE, wEs, place]
  refine far_ok ht hf n hb fun v1 S1 a1 a2 b1 k1 => ?_
  try simp
  refine take_ok ht b1 (by decide) (by decide) fun v2 S2 c1 c2 b2 k2 => ?_
  try simp
  refine ⟨.inl (.inl ⟨by omega, by omega⟩), .inl (.inr ⟨by omega, by omega⟩), q1_of (q _ _ ?_ ?_ b2 (k1.trans k2))⟩
  · have : v2 = 0 ∨ v2 = 1 := by omega
    rcases this with rfl | rfl <;> omega
  · have : v2 = 0 ∨ v2 = 1 := by omega
    rcases this with rfl | rfl <;> omega
end A
end
section
set_option Elab.async false
set_option linter.all false
set_option maxRecDepth 100000
set_option maxHeartbeats 4000000
/-! V7: leaves, holders, plain forms; two rights alike. -/
namespace A
open PySem L2
theorem bin_addl {a b : Addr} {xs ys : List D} {S : Sta} {Q : K} (ha : S a = some (.lst xs)) (hb : S b = some (.lst ys)) : wbin .add (.ref a) (.ref b) S Q = (xs.length + ys.length ≤ sizeLine ∧ ∀ p, S p = none → Q (.ref p) (ups S p (.lst (xs ++ ys)))) := by
  show (match S a, S b with
    | some (.lst xs), some (.lst ys) => xs.length + ys.length ≤ sizeLine ∧ ∀ p, S p = none → Q (.ref p) (ups S p (.lst (xs ++ ys)))
    | _, _ => False) = _
  rw [ha, hb]
@[simp] theorem cmp_eqsi {C : Orc} {i : Str} {j : Int} {S : Sta} {R : Bool → Sta → Prop} : wcmp C .eq (.str i) (.int j) S R = R false S := rfl
def pathD (r : List Nat) : D := .tup (r.map fun (i : Nat) => D.int (i : Int))
def lvD (l : List (Str × List Nat)) : List D := l.map fun x => .tup [.str x.1, pathD x.2]
theorem lvD_app (a b : List (Str × List Nat)) : lvD (a ++ b) = lvD a ++ lvD b := by simp [lvD]
theorem lvD_len (a : List (Str × List Nat)) : (lvD a).length = a.length := by simp [lvD]
theorem Sub.ups_of {S S' : Sta} {p : Addr} {o : MO} (h : Sub S S') (e : S' p = some o) : Sub (A.ups S p o) S' := fun a u q => by
  by_cases ha : a = p
  · subst ha; rw [ups_same] at q; cases q; exact e
  · rw [ups_ne ha] at q; exact h a u q
theorem sub_none {S S' : Sta} (h : Sub S S') {p : Addr} (e : S' p = none) : S p = none := by
  cases e2 : S p with
  | none => rfl
  | some o => rw [h _ _ e2] at e; cases e
theorem lv_pos : ∀ T : Rt, Rg T → 1 ≤ lv T := by
  refine Rt.ind (fun s _ => by simp [lv]) fun k ps ih h => ?_
  obtain ⟨h1, h2, h3, h4⟩ := h.len
  cases ps with
  | nil => simp at h1
  | cons p r =>
    have := ih p (by simp) (h4 p (by simp))
    simp only [lv, lvs]; omega
theorem lvs_take_le : ∀ (l : List Rt) (i : Nat), lvs (l.take i) ≤ lvs l
  | [], i => by simp [lvs]
  | x :: l, 0 => by simp [lvs]
  | x :: l, i + 1 => by simp only [List.take_succ_cons, lvs]; have := lvs_take_le l i; omega
theorem lv_at : ∀ {l : List Rt} {i : Nat} {r : Rt}, l[i]? = some r → lvs (l.take i) + lv r ≤ lvs l
  | [], _, _, h => by simp at h
  | x :: xs, 0, r, h => by simp at h; subst h; simp [lvs]
  | x :: xs, i + 1, r, h => by
    have := lv_at (l := xs) (i := i) (by simpa using h)
    simp only [List.take_succ_cons, lvs]; omega
theorem leavesL_ok {P : Prg} {f : Nat} (h : P f = some (F_law_leaves f)) : ∀ (n : Nat) (T : Rt) (r : List Nat) (S : Sta) (Q X : K), Rg T → dpt T < n → lv T ≤ 100000 → r.length + dpt T ≤ 1000 → (∀ p, S p = none → Q (.ref p) (ups S p (.lst (lvD (lvR T r))))) → callW P n f [toD T, pathD r] S Q X
  | 0, _, _, _, _, _, _, h, _, _, _ => absurd h (by omega)
  | n + 1, .one s, r, S, Q, X, ok, hd, hl, hr, q => by
    refine callW_of h rfl ?_
    simp [F_law_leaves, wB, wS, wE, wEs, wTg, toD]
    exact ⟨line4 (by decide), line4 (by decide), fun p hp => q1_of (q p hp)⟩
  | n + 1, .turns k ps, r, S, Q, X, ok, hd, hl, hr, q => by
    obtain ⟨h1, h2, h3, h4⟩ := ok.len
    simp only [dpt] at hd hr
    simp only [lv] at hl
    refine callW_of h rfl ?_
    simp [F_law_leaves, wB, wS, wE, wEs, wIt, wTg, toD, toDs_len, place, pathD]
    intro p0 hp0
    refine wfor_nat _ (fun i ρ S' => (∃ p v3 v4, ρ = [some (toD (.turns k ps)), some (pathD r), some (.ref p), v3, v4] ∧ S' p = some (.lst (lvD (lvRs 0 (ps.take i) r))) ∧ S p = none) ∧ Sub S S') ⟨⟨p0, none, none, rfl, ups_same, hp0⟩, Sub.new hp0⟩ (fun _ _ _ _ => held_nil) (fun i y ρ S' R hy hI hR => ?_) fun ρ S' hI => ?_
    · obtain ⟨⟨p, v3, v4, rfl, ep, np⟩, sb⟩ := hI
      obtain ⟨t, ht, rfl⟩ := enum_toDs hy
      have dt := dpt_at ht
      have lt := lv_at ht
      try simp [pathD]
      refine ⟨line4 (by decide), line3 (by omega), ?_⟩
      have epath : D.tup (r.map (fun (j : Nat) => D.int (j : Int)) ++ [D.int (i : Int)]) = pathD (r ++ [i]) := by simp [pathD]
      rw [epath]
      refine leavesL_ok h n t (r ++ [i]) _ _ _ (h4 t (List.mem_of_getElem? ht)) (by omega) (by omega) (by simp; omega) fun p2 hp2 => ?_
      have sb2 := Sub.new (o := .lst (lvD (lvR t (r ++ [i])))) hp2
      rw [bin_addl (sb2 _ _ ep) ups_same]
      refine ⟨?_, fun p3 hp3 => ?_⟩
      · rw [lvD_len, lvD_len, lvRs_len, lvR_len]
        exact line3 (by omega)
      · have hlen : (ps.take i).length = i := by rw [List.length_take]; have := (List.getElem?_eq_some_iff.mp ht).1; omega
        have e1 : ps.take (i + 1) = ps.take i ++ [t] := by rw [List.take_succ, ht]; rfl
        refine hR _ _ ⟨⟨p3, _, _, rfl, ?_, sub_none sb (sub_none sb2 hp3)⟩, (sb.trans sb2).trans (Sub.new hp3)⟩
        rw [ups_same, e1, lvRs_snoc, lvD_app, hlen, Nat.zero_add]
    · obtain ⟨⟨p, v3, v4, rfl, ep, np⟩, sb⟩ := hI
      have hl2 : (enumF 0 (toDs ps)).length = ps.length := by rw [enumF_len, toDs_len]
      rw [hl2, List.take_length] at ep
      simp
      exact ⟨_, sb.ups_of ep, q p np⟩
theorem inList_strD (s : Str) (l : List Str) : inList (.str s) (strD l) = decide (s ∈ l) := by
  unfold inList strD
  rw [List.any_map]
  induction l with
  | nil => rfl
  | cons x r ih =>
    rw [List.any_cons, ih]
    have e : eqF (.str x) (.str s) = decide (s = x) := by
      show (x == s) = _
      by_cases hx : s = x
      · simp [hx]
      · simp [hx, Ne.symm hx]
    simp only [Function.comp_apply, e, List.mem_cons, Bool.decide_or]
theorem strD_flat (l : List Str) : (strD l).all flatD = true := by
  unfold strD; rw [List.all_map, List.all_eq_true]; intro x _; rfl
theorem nin_lst {C : Orc} {s : Str} {a : Addr} {l : List Str} {S : Sta} {R : Bool → Sta → Prop} (ha : S a = some (.lst (strD l))) : wcmp C .nin (.str s) (.ref a) S R = R (!decide (s ∈ l)) S := by
  simp only [wcmp, ha, inList_strD, strD_flat, flatD, true_and]
theorem inn_lst {C : Orc} {s : Str} {a : Addr} {l : List Str} {S : Sta} {R : Bool → Sta → Prop} (ha : S a = some (.lst (strD l))) : wcmp C .inn (.str s) (.ref a) S R = R (decide (s ∈ l)) S := by
  simp only [wcmp, ha, inList_strD, strD_flat, flatD, true_and]
theorem holdersL_ok {P : Prg} {f g : Nat} (h : P f = some (F_law_holders g)) (hg : P g = some (F_law_leaves g)) (n : Nat) (T : Rt) (ok : Rg T) (hd : dpt T < n) (hd2 : dpt T ≤ 900) (hl : lv T ≤ 100000) (S : Sta) (Q X : K) (q : ∀ p, S p = none → Q (.ref p) (ups S p (.lst (strD (ddup (nms T)))))) : callW P (n + 1) f [toD T] S Q X := by
  refine callW_of h rfl ?_
  simp [F_law_holders, wB, wS, wE, wEs, wIt, wTg, place]
  intro p hp
  have e0 : D.tup [] = pathD [] := rfl
  rw [e0]
  refine leavesL_ok hg n T [] _ _ _ ok hd hl (by simp; omega) fun w hw => ?_
  have npw : p ≠ w := sne (ups_same (S := S) (a := p) (o := .lst [])) hw
  have ew : ups (ups S p (.lst [])) w (.lst (lvD (lvR T []))) w = some (.lst (lvD (lvR T []))) := ups_same
  simp [ew]
  refine wfor_nat _ (fun i ρ S' => (∃ v2 v3, ρ = [some (toD T), some (.ref p), v2, v3]) ∧ S' p = some (.lst (strD (ddup (((lvR T []).take i).map (·.1))))) ∧ S' w = some (.lst (lvD (lvR T []))) ∧ Sub S S') ⟨⟨none, none, rfl⟩, by rw [ups_ne npw, ups_same]; rfl, ups_same, (Sub.new hp).trans (Sub.new hw)⟩ (fun i ρ S' hI pr hpr => by
      simp at hpr; subst hpr; exact hI.2.2.1) (fun i y ρ S' R hy hI hR => ?_) fun ρ S' hI => ?_
  · obtain ⟨⟨v2, v3, rfl⟩, ep, ew2, sb⟩ := hI
    unfold lvD at hy
    rw [List.getElem?_map] at hy
    obtain ⟨x, hx, rfl⟩ := Option.map_eq_some_iff.mp hy
    have e1 : ((lvR T []).take (i + 1)).map (·.1) = ((lvR T []).take i).map (·.1) ++ [x.1] := by rw [List.take_succ, hx, List.map_append]; rfl
    simp
    rw [nin_lst ep]
    by_cases hm : x.1 ∈ ddup (((lvR T []).take i).map (·.1))
    · simp only [hm, decide_true, Bool.not_true, Bool.false_eq_true, if_false]
      refine hR _ _ ⟨⟨_, _, rfl⟩, ?_, ew2, sb⟩
      rw [e1, ddup_snoc, if_pos hm]
      exact ep
    · simp only [hm, decide_false, Bool.not_false, if_true]
      simp [ep]
      have hlen := ddup_len (((lvR T []).take i).map (·.1))
      have hl3 : ((lvR T []).take i).length ≤ lv T := by rw [List.length_take, lvR_len]; omega
      rw [List.length_map] at hlen
      have hb : (strD (ddup (((lvR T []).take i).map (·.1)))).length < sizeLine := by
        rw [sizeLine_eq]; unfold strD; rw [List.length_map]; omega
      refine ⟨by simpa using hb, hR _ _ ⟨⟨_, _, rfl⟩, ?_, ?_, ?_⟩⟩
      · rw [ups_same, e1, ddup_snoc, if_neg hm]; simp [strD]
      · rw [ups_ne npw.symm]; exact ew2
      · intro a o e
        rw [ups_ne (sne e hp)]
        exact sb _ _ e
  · obtain ⟨⟨v2, v3, rfl⟩, ep, ew2, sb⟩ := hI
    rw [lvD_len, List.take_length, lvR_nms] at ep
    simp
    exact ⟨_, sb.ups_of ep, q p hp⟩
end A
end
section
set_option Elab.async false
set_option linter.all false
set_option maxRecDepth 100000
set_option maxHeartbeats 4000000
/-! V8: the plain form; alike. -/
namespace A
open PySem L2
theorem ok_pln : ∀ T : Rt, RtOk T → RtOk (pln T) := by
  refine Rt.ind (fun s h => h) fun k ps ih h => ?_
  obtain ⟨h1, h2, h3, h4⟩ := h
  simp only [pln]
  rcases uni_cases k (plns ps) with e | ⟨t, e, hn, h5⟩
  · rw [e, plns_eq]
    refine ⟨by simpa using h1, by simpa using h2, by simpa using h3, oks_mem.mpr fun q hq => ?_⟩
    obtain ⟨p, hp, rfl⟩ := List.mem_map.mp hq
    exact ih p hp (oks_mem.mp h4 p hp)
  · rw [e]
    obtain ⟨q, hq⟩ := List.exists_mem_of_ne_nil _ hn
    have e2 := h5 q hq
    rw [plns_eq] at hq
    obtain ⟨p, hp, rfl⟩ := List.mem_map.mp hq
    have := ih p hp (oks_mem.mp h4 p hp)
    rw [e2] at this
    exact this
theorem toDs_map (ps : List Rt) : toDs ps = ps.map toD := by
  induction ps with
  | nil => rfl
  | cons p r ih => rw [toDs, ih]; rfl
theorem bsOf_map {α : Type} (f : α → Bool) : ∀ l : List α, bsOf (l.map fun x => D.bl (f x)) = some (l.map f)
  | [] => rfl
  | x :: r => by rw [List.map_cons, bsOf, bsOf_map f r]; rfl
theorem plain_ok {P : Prg} {f : Nat} (h : P f = some (F_plain f)) : ∀ (n : Nat) (T : Rt) (S : Sta) (Q X : K), Rg T → dpt T < n → Q (toD (pln T)) S → callW P n f [toD T] S Q X
  | 0, _, _, _, _, _, h, _ => absurd h (by omega)
  | n + 1, .one s, S, Q, X, ok, hd, q => by
    refine callW_of h rfl ?_
    simp [F_plain, wB, wS, wE, wEs, wTg, toD]
    exact q1_of q
  | n + 1, .turns k ps, S, Q, X, ok, hd, q => by
    obtain ⟨h1, h2, h3, h4⟩ := ok.len
    simp only [dpt] at hd
    refine callW_of h rfl ?_
    simp [F_plain, wB, wS, wE, wEs, wIt, wTg, toD, toDs_len, place]
    refine wcomp_idx (toDs (plns ps)) (by rw [toDs_len]; omega) (by rw [toDs_len, toDs_len, plns_eq]; simp) held_nil (fun i x y R hx hy hR => ?_) fun p hp => ?_
    · obtain ⟨r, hr, rfl⟩ := toDs_is hx
      obtain ⟨r2, hr2, rfl⟩ := toDs_is hy
      rw [plns_eq, List.getElem?_map, hr] at hr2
      cases hr2
      try simp
      exact plain_ok h n r _ _ _ (h4 r (List.mem_of_getElem? hr)) (by have := dpt_at hr; omega) hR
    · have hne : plns ps ≠ [] := by rw [plns_eq]; intro e; rw [List.map_eq_nil_iff] at e; rw [e] at h1; simp at h1
      have hlen : (plns ps).length ≤ 5 := by rw [plns_eq]; simpa using h2
      simp only [pln] at q
      generalize plns ps = qs at q hne hlen ⊢
      cases qs with
      | nil => exact absurd rfl hne
      | cons q0 r0 =>
        rw [uni_cons] at q
        try simp
        refine wcomp_idx ((q0 :: r0).map fun x => D.bl (sameB q0 x)) (by rw [toDs_len]; omega) (by rw [toDs_len]; simp) held_nil (fun i x y R hx hy hR => ?_) fun p2 hp2 => ?_
        · obtain ⟨r, hr, rfl⟩ := toDs_is hx
          rw [List.getElem?_map, hr] at hy
          cases hy
          cases r with
          | turns j us =>
            simp [toD]
            cases q0 <;> exact hR
          | one t =>
            simp [toD, toDs]
            cases q0 with
            | one s => simp [toD]; exact hR
            | turns j us => simp [toD]; exact hR
        · refine ⟨_, bsOf_map _ _, ?_⟩
          have eall : ((q0 :: r0).map (sameB q0)).all id = (q0 :: r0).all (sameB q0) := by rw [List.all_map]; rfl
          by_cases ha : (q0 :: r0).all (sameB q0) = true
          · rw [if_pos ha] at q
            rw [if_neg (by rw [List.all_eq_true] at ha; intro hm; obtain ⟨x, hx, e⟩ := List.mem_map.mp hm; rw [ha x hx] at e; cases e)]
            refine ⟨toD q0, at_0 _ _, ?_⟩
            refine ⟨_, ?_, q⟩
            exact (Sub.new hp).trans (Sub.new hp2)
          · rw [if_neg ha] at q
            rw [if_pos (by
              rw [List.all_eq_true] at ha
              refine Classical.byContradiction fun hc => ha fun x hx => ?_
              cases e : sameB q0 x with
              | true => rfl
              | false => exact absurd (List.mem_map.mpr ⟨x, hx, e⟩) hc)]
            refine ⟨line4 (by decide), _, ?_, q⟩
            exact (Sub.new hp).trans (Sub.new hp2)
theorem lplain_ok {P : Prg} {f g l : Nat} (h : P f = some (F_law_plain g f)) (hg : P g = some (F_law_holders l)) (hl : P l = some (F_law_leaves l)) : ∀ (n : Nat) (T : Rt) (S : Sta) (Q X : K), Rg T → dpt T + 2 < n → dpt T ≤ 900 → lv T ≤ 100000 → Q (toD (lpl T)) S → callW P n f [toD T] S Q X
  | 0, _, _, _, _, _, h, _, _, _ => absurd h (by omega)
  | n + 1, .one s, S, Q, X, ok, hd, hd2, hv, q => by
    refine callW_of h rfl ?_
    simp [F_law_plain, wB, wS, wE, wEs, wTg, toD]
    exact q1_of q
  | n + 1, .turns k ps, S, Q, X, ok, hd, hd2, hv, q => by
    obtain ⟨h1, h2, h3, h4⟩ := ok.len
    have hdT : dpt (.turns k ps) < n := by omega
    obtain ⟨n', rfl⟩ : ∃ n', n = n' + 1 := ⟨n - 1, by omega⟩
    refine callW_of h rfl ?_
    have hD : toD (.turns k ps) = .tup [.str (Str.ofString "turns"), .int k, .tup (toDs ps)] := rfl
    rw [hD]
    simp [F_law_plain, wB, wS, wE, wEs, wIt, wTg, toDs_len, place]
    rw [← hD]
    refine holdersL_ok hg hl n' (.turns k ps) ok (by omega) hd2 hv _ _ _ fun p hp => ?_
    simp only [lpl] at q
    simp only [nms]
    simp [strD]
    split at q
    · rename_i s e
      rw [e]
      simp
      exact ⟨line4 (by decide), q1_new hp q⟩
    · rename_i hno
      rw [if_neg (by intro e; obtain ⟨s, e2, _⟩ := ddup_one (by exact_mod_cast e : (ddup (nmsL ps)).length = 1); exact hno s e2)]
      refine wcomp_idx (toDs (lpls ps)) (by rw [toDs_len]; omega) (by rw [toDs_len, toDs_len, lpls_eq]; simp) held_nil (fun i x y R hx hy hR => ?_) fun p2 hp2 => ?_
      · obtain ⟨r, hr, rfl⟩ := toDs_is hx
        obtain ⟨r2, hr2, rfl⟩ := toDs_is hy
        rw [lpls_eq, List.getElem?_map, hr] at hr2
        cases hr2
        have dr := dpt_at hr
        have lr := lv_at hr
        simp only [dpt] at hd hd2
        simp only [lv] at hv
        try simp
        exact lplain_ok h hg hl (n' + 1) r _ _ _ (h4 r (List.mem_of_getElem? hr)) (by omega) (by omega) (by omega) hR
      · refine ⟨line4 (by decide), _, ?_, q⟩
        exact (Sub.new hp).trans (Sub.new hp2)
/-- alike tells the first number that differs -/
theorem alike_ok {P : Prg} {f rd dv du l : Nat} (h : P f = some (F_alike rd dv du)) (hr : P rd = some (F_round_of rd dv)) (hdv : P dv = some F_divisor) (hdu : P du = some (F_due l)) (hl : P l = some F_later_of) (n : Nat) (T U : Rt) (r1 : Rg T) (r2 : Rg U) (d1 : dpt T ≤ 10) (d2 : dpt U ≤ 10) (hn : 12 ≤ n) (S : Sta) (Q X : K)
    (qn : ∀ m : Nat, m < rnd T + rnd U - Nat.gcd (rnd T) (rnd U) → (∀ j : Nat, j < m → due T j = due U j) → due T m ≠ due U m → Q (.int m) S) (q0 : (∀ j : Nat, j < rnd T + rnd U - Nat.gcd (rnd T) (rnd U) → due T j = due U j) → Q .non S) : callW P (n + 1) f [toD T, toD U] S Q X := by
  obtain ⟨n', rfl⟩ : ∃ n', n = n' + 2 := ⟨n - 2, by omega⟩
  refine callW_of h rfl ?_
  simp [F_alike, wB, wS, wE, wEs, wIt, wTg, place]
  refine round_ok hr hdv (n' + 2) T _ _ _ r1 d1 (by omega) ?_
  try simp
  refine round_ok hr hdv (n' + 2) U _ _ _ r2 d2 (by omega) ?_
  try simp
  refine divisor_ok hdv (n' + 1) _ _ _ _ _ ?_
  have p1 := rnd_pos T r1
  have p2 := rnd_pos U r2
  have g1 := Nat.gcd_le_left (rnd U) p1
  have b1 := Nat.le_of_dvd (Nat.pow_pos (by decide)) (rnd_dvd T r1 _ (Nat.le_refl _))
  have b2 := Nat.le_of_dvd (Nat.pow_pos (by decide)) (rnd_dvd U r2 _ (Nat.le_refl _))
  have c1 := pow60 d1
  have c2 := pow60 d2
  have eN : ((rnd T : Int) + rnd U).toNat - (Nat.gcd (rnd T) (rnd U)) = rnd T + rnd U - Nat.gcd (rnd T) (rnd U) := by omega
  try simp
  refine ⟨by omega, by omega, ?_⟩
  rw [eN]
  refine wfor_nat _ (fun i ρ S' => (∃ v4, ρ = [some (toD T), some (toD U), some (.int (rnd T)), some (.int (rnd U)), v4]) ∧ S' = S ∧ ∀ j : Nat, j < i → due T j = due U j) ⟨⟨none, rfl⟩, rfl, fun j hj => absurd hj (by omega)⟩ (fun _ _ _ _ => held_nil) (fun i y ρ S' R hy hI hR => ?_) fun ρ S' hI => ?_
  · obtain ⟨⟨v4, rfl⟩, rfl, hall⟩ := hI
    obtain ⟨hi, rfl⟩ := range_at hy
    simp [placeL, Es.len]
    refine due_ok hdu hl n' T r1 _ _ _ _ ?_
    try simp
    refine due_ok hdu hl n' U r2 _ _ _ _ ?_
    try simp
    split
    · rename_i he
      refine hR _ _ ⟨⟨_, rfl⟩, rfl, fun j hj => ?_⟩
      rcases (by omega : j < i ∨ j = i) with h2 | rfl
      · exact hall j h2
      · exact he
    · rename_i he
      exact q1_of (qn i hi hall he)
  · obtain ⟨⟨v4, rfl⟩, rfl, hall⟩ := hI
    simp at hall
    exact q1_of (q0 hall)
end A
end
section
set_option Elab.async false
set_option linter.all false
set_option maxRecDepth 100000
set_option maxHeartbeats 4000000
/-! V9: how long one waits; a name that is not in the pool. -/
namespace A
open PySem L2
/-- the first turns that the parts give -/
def wcd (k m : Nat) (s : Str) (n : Int) : Nat → List Rt → List Int
  | _, [] => []
  | i, p :: r => (match wai p s (vis n (((i : Int) - k) % m) m) with
    | some t => [((i : Int) - k) % m + m * t]
    | none => []) ++ wcd k m s n (i + 1) r
theorem wcd_app (k m : Nat) (s : Str) (n : Int) : ∀ (a b : List Rt) (i : Nat), wcd k m s n i (a ++ b) = wcd k m s n i a ++ wcd k m s n (i + a.length) b
  | [], b, i => by simp [wcd]
  | p :: r, b, i => by
    simp only [List.cons_append, wcd, wcd_app k m s n r b (i + 1), List.append_assoc, List.length_cons]
    rw [Nat.add_assoc, Nat.add_comm 1]
theorem wcd_snoc {k m : Nat} {s : Str} {n : Int} {ps : List Rt} {i : Nat} {p : Rt} (h : ps[i]? = some p) : wcd k m s n 0 (ps.take (i + 1)) = wcd k m s n 0 (ps.take i) ++ (match wai p s (vis n (((i : Int) - k) % m) m) with
    | some t => [((i : Int) - k) % m + m * t]
    | none => []) := by
  have hlen : (ps.take i).length = i := by rw [List.length_take]; have := (List.getElem?_eq_some_iff.mp h).1; omega
  rw [List.take_succ, h, wcd_app, hlen, Nat.zero_add]
  simp [wcd]
theorem wcd_len (k m : Nat) (s : Str) (n : Int) : ∀ (a : List Rt) (i : Nat), (wcd k m s n i a).length ≤ a.length
  | [], i => by simp [wcd]
  | p :: r, i => by
    have := wcd_len k m s n r (i + 1)
    simp only [wcd, List.length_append, List.length_cons]
    split <;> simp <;> omega
theorem wcd_min (k m : Nat) (s : Str) (n : Int) : ∀ (a : List Rt) (i : Nat), waiL k m i a s n = (match wcd k m s n i a with | [] => none | l => some (minI l))
  | [], i => by simp [waiL, wcd]
  | p :: r, i => by
    have ih := wcd_min k m s n r (i + 1)
    simp only [waiL, wcd]
    rw [ih]
    cases wai p s (vis n (((i : Int) - k) % m) m) with
    | none => simp only [Option.map_none, omin, List.nil_append]
    | some t =>
      simp only [Option.map_some, List.cons_append, List.nil_append]
      cases wcd k m s n (i + 1) r with
      | nil => rfl
      | cons x l => rfl
theorem ints_map : ∀ l : List Int, intsOf (l.map .int) = some l
  | [] => rfl
  | x :: r => by rw [List.map_cons, intsOf, ints_map r]; rfl
@[simp] theorem b2_min {i j : Int} {S : Sta} {Q : K} : wb2 .min (.int i) (.int j) S Q = Q (.int (min i j)) S := rfl
@[simp] theorem b2_max {i j : Int} {S : Sta} {Q : K} : wb2 .max (.int i) (.int j) S Q = Q (.int (max i j)) S := rfl
def oD : Option Int → D
  | none => .non
  | some i => .int i
theorem wait_ok {P : Prg} {f l v : Nat} (h : P f = some (F_wait l f v)) (hl : P l = some F_later_of) (hv : P v = some F_visits) : ∀ (n : Nat) (T : Rt) (s : Str) (x : Int) (S : Sta) (Q X : K), Rg T → dpt T < n → Q (oD (wai T s x)) S → callW P n f [toD T, .str s, .int x] S Q X
  | 0, _, _, _, _, _, _, _, h, _ => absurd h (by omega)
  | n + 1, .one t, s, x, S, Q, X, ok, hd, q => by
    refine callW_of h rfl ?_
    simp [F_wait, wB, wS, wE, wTg, toD]
    simp only [wai] at q
    by_cases e : t = s
    · subst e
      rw [if_pos rfl] at q
      simp
      exact q1_of q
    · rw [if_neg e] at q
      simp [e]
      exact q1_of q
  | n + 1, .turns k ps, s, x, S, Q, X, ok, hd, q => by
    obtain ⟨h1, h2, h3, h4⟩ := ok.len
    simp only [dpt] at hd
    obtain ⟨n', rfl⟩ : ∃ n', n = n' + 1 := ⟨n - 1, by cases ps with
      | nil => simp at h1
      | cons y r => have := dpt_pos y; simp only [dpts] at hd; omega⟩
    refine callW_of h rfl ?_
    simp [F_wait, wB, wS, wE, wEs, wIt, wTg, toD, toDs_len, place]
    intro p hp
    refine wfor_nat _ (fun i ρ S' => (∃ v5 v6 v7 v8, ρ = [some (toD (.turns k ps)), some (.str s), some (.int x), some (.int ps.length), some (.ref p), v5, v6, v7, v8]) ∧ S' = ups S p (.lst ((wcd k ps.length s x 0 (ps.take i)).map .int))) ⟨⟨none, none, none, none, rfl⟩, rfl⟩ (fun _ _ _ _ => held_nil) (fun i y ρ S' R hy hI hR => ?_) fun ρ S' hI => ?_
    · obtain ⟨⟨v5, v6, v7, v8, rfl⟩, rfl⟩ := hI
      obtain ⟨r, hr, rfl⟩ := enum_toDs hy
      simp [placeL, Es.len]
      refine later_ok hl n' k ps (by omega) _ _ _ _ ?_
      try simp
      refine visits_ok hv n' _ _ _ (by omega) (by omega) _ _ _ ?_
      try simp
      refine wait_ok h hl hv (n' + 1) r _ _ _ _ _ (h4 r (List.mem_of_getElem? hr)) (by have := dpt_at hr; omega) ?_
      try simp
      have hs := wcd_snoc (k := k) (m := ps.length) (s := s) (n := x) hr
      have hlen := wcd_len k ps.length s x (ps.take i) 0
      have htk : (ps.take i).length ≤ 5 := by rw [List.length_take]; omega
      cases hw : wai r s (vis x (((i : Int) - k) % ps.length) ps.length) with
      | none =>
        simp only [hw, List.append_nil] at hs
        simp [oD]
        exact hR _ _ ⟨⟨_, _, _, _, rfl⟩, by rw [hs]⟩
      | some t =>
        simp only [hw] at hs
        simp [oD]
        refine ⟨mulS (by omega) (by omega), by rw [sizeLine_eq]; omega, ?_⟩
        refine hR _ _ ⟨⟨_, _, _, _, rfl⟩, by rw [hs]; simp⟩
    · obtain ⟨⟨v5, v6, v7, v8, rfl⟩, rfl⟩ := hI
      rw [enumF_len, toDs_len, List.take_length]
      simp
      simp only [wai] at q
      rw [wcd_min] at q
      refine ⟨(wcd k ps.length s x 0 ps).map .int, wcd k ps.length s x 0 ps, by simp [itemsL], ints_map _, ?_⟩
      cases hc : wcd k ps.length s x 0 ps with
      | nil => rw [hc] at q; exact q1_new hp q
      | cons y l => rw [hc] at q; exact q1_new hp q
theorem pigeon {α : Type} [BEq α] [LawfulBEq α] : ∀ (l w : List α), l.Nodup → (∀ x ∈ l, x ∈ w) → l.length ≤ w.length
  | [], w, _, _ => Nat.zero_le _
  | x :: r, w, hn, h => by
    have hx := h x (List.mem_cons_self ..)
    have hr := List.nodup_cons.mp hn
    have := pigeon r (w.erase x) hr.2 fun y hy => (List.mem_erase_of_ne (fun e => hr.1 (by rw [← e]; exact hy))).mpr (h y (List.mem_cons_of_mem _ hy))
    rw [List.length_erase_of_mem hx] at this
    have := List.length_pos_of_mem hx
    simp only [List.length_cons]; omega
theorem letters_nd : (sg letters).Nodup := by rw [sg_letters]; decide +kernel
/-- the names with another last letter -/
def others (u : Str) (ws : List Str) : List Str := (sg letters).filterMap fun c => if u ++ one c ∈ ws then none else some (u ++ one c)
theorem others_ne (u : Str) (ws : List Str) (h : ws.length ≤ 7) : ∃ c r, others u ws = (u ++ one c) :: r ∧ isL c ∧ u ++ one c ∉ ws := by
  have hx : ∃ y, y ∈ others u ws := by
    refine Classical.byContradiction fun hno => ?_
    have hall : ∀ x ∈ (sg letters).map fun c => u ++ one c, x ∈ ws := fun x hx => by
      obtain ⟨c, hc, rfl⟩ := List.mem_map.mp hx
      refine Classical.byContradiction fun hw => hno ⟨u ++ one c, List.mem_filterMap.mpr ⟨c, hc, by rw [if_neg hw]⟩⟩
    have hnd : ((sg letters).map fun c => u ++ one c).Nodup := by
      refine List.pairwise_map.mpr (List.Pairwise.imp (fun {c d} hne e => hne ?_) letters_nd)
      have := congrArg sg e
      simp only [sg_app] at this
      have := List.append_cancel_left this
      simpa [one, sg] using this
    have := pigeon _ ws hnd hall
    rw [List.length_map, sg_letters] at this
    simp at this; omega
  obtain ⟨y, hy⟩ := hx
  cases e : others u ws with
  | nil => rw [e] at hy; cases hy
  | cons z r =>
    have hz : z ∈ others u ws := by rw [e]; exact List.mem_cons_self ..
    obtain ⟨c, hc, h2⟩ := List.mem_filterMap.mp hz
    by_cases hm : u ++ one c ∈ ws
    · rw [if_pos hm] at h2; cases h2
    · rw [if_neg hm] at h2
      cases h2
      refine ⟨c, r, rfl, ?_, hm⟩
      rw [sg_letters] at hc
      obtain ⟨i, hi, rfl⟩ := List.mem_map.mp hc
      have := List.mem_range.mp hi
      unfold isL; omega
def gOth (u : Str) (ws : List Str) : D → Option D
  | .str s => if u ++ s ∈ ws then none else some (.str (u ++ s))
  | _ => none
theorem absent_ok {P : Prg} {f : Nat} (h : P f = some F_law_absent) (n : Nat) (p : Addr) (ws : List Str) (w0 : 0 < ws.length) (w1 : ws.length ≤ 7) (hw : ∀ s ∈ ws, NameOk s) (S : Sta) (Q X : K) (ep : S p = some (.lst (ws.map D.str))) (q : ∀ z, z ∉ ws → Q (.str z) S) : callW P (n + 1) f [.ref p] S Q X := by
  refine callW_of h rfl ?_
  have hL : (Str.ofString "abcdefghijklmnopqrstuvwxyz") = letters := rfl
  simp [F_law_absent, wB, wS, wE, wEs, wIt, wTg, place]
  try rw [hL]
  have h0 : ws[0]? = some ws[0] := List.getElem?_eq_getElem w0
  have ha : L2.atI (ws.map D.str) (0 : Int) = some (.str ws[0]) := L2.atI_nat (j := 0) (by rw [List.getElem?_map, h0]; rfl)
  have hok := hw _ (List.mem_of_getElem? h0)
  generalize ws[0] = s0 at ha hok
  have hl8 : s0.length ≤ 8 := by rw [sg_len]; exact hok.2.1
  obtain ⟨c, r, e1, hc, hnot⟩ := others_ne (L2.cutS s0 none (some (-1))) ws w1
  have hcl : (L2.cutS s0 none (some (-1))).length ≤ 8 := by
    unfold L2.cutS Str.length
    simp [HT.sIx]
    have : s0.cps.size ≤ 8 := hl8
    omega
  refine wcomp_fil (gOth (L2.cutS s0 none (some (-1))) ws) (by simp [letters]; decide +kernel) held_nil (fun i x R hx hR => ?_) fun p2 hp2 => ?_
  · rw [List.getElem?_map] at hx
    obtain ⟨d, hd, rfl⟩ := Option.map_eq_some_iff.mp hx
    have h3 : (Str.mk #[d]).length = 1 := rfl
    simp [ep, ixO, ha]
    have hb : (L2.cutS s0 none (some (-1))).length + (Str.mk #[d]).length ≤ sizeLine := line4 (by omega)
    have hs : s0.length ≤ sizeLine := line4 (by omega)
    simp [hs, hb]
    rw [nin_lst ep]
    by_cases hm : L2.cutS s0 none (some (-1)) ++ Str.mk #[d] ∈ ws
    · simp only [gOth, if_pos hm] at hR
      simp [hm]
      exact hR
    · simp only [gOth, if_neg hm] at hR
      simp [hm, ep, ha, hs, hb]
      exact hR
  · have e2 : List.filterMap (gOth (L2.cutS s0 none (some (-1))) ws) (letters.cps.toList.map fun c => D.str ⟨#[c]⟩) = strD (others (L2.cutS s0 none (some (-1))) ws) := by
      unfold others strD sg
      rw [List.filterMap_map, List.map_filterMap]
      congr 1
      funext c
      simp only [Function.comp_apply, gOth]
      show _ = Option.map D.str (if _ ++ Str.mk #[c] ∈ ws then none else some (_ ++ Str.mk #[c]))
      split <;> rfl
    rw [e2, e1]
    exact ⟨_, at_0 _ _, q1_new hp2 (q _ hnot)⟩
end A
end
section
set_option Elab.async false
set_option linter.all false
set_option maxRecDepth 100000
set_option maxHeartbeats 4000000
/-! V10: paths, holders, counts. -/
namespace A
open PySem L2
@[simp] theorem bm_count {a : Addr} {s : Str} {xs : List Str} {S : Sta} {Q : K} (h : S a = some (.lst (strD xs))) : wbm .count .list (.ref a) [.str s] S Q = Q (.int (xs.count s : Nat)) S := by
  show (match S a with
    | some (.lst l) => ∃ ss, strsOf l = some ss ∧ Q (.int (ss.countP fun y => y == s : Nat)) S
    | _ => False) = _
  rw [h]
  refine propext ⟨fun ⟨ss, e, q⟩ => ?_, fun q => ⟨xs, strs_map xs, q⟩⟩
  rw [show strsOf (strD xs) = some xs from strs_map xs] at e
  cases e
  exact q
theorem bm_clear {a : Addr} {xs : List D} {S : Sta} {Q : K} (h : S a = some (.lst xs)) : wbm .clear .list (.ref a) [] S Q = Q .non (ups S a (.lst [])) := by
  show (match S a with
    | some (.lst l) => Q .non (ups S a (.lst []))
    | _ => False) = _
  rw [h]
theorem walk_ok {P : Prg} {f : Nat} (h : P f = some (F_walk f)) : ∀ (n : Nat) (T : Rt) (r : List Nat) (a : Addr) (xs : List D) (S : Sta) (Q X : K), Rg T → dpt T < n → xs.length + lv T ≤ 100000 → r.length + dpt T ≤ 1000 → S a = some (.lst xs) → Q .non (ups S a (.lst (xs ++ lvD (lvR T r)))) → callW P n f [toD T, pathD r, .ref a] S Q X
  | 0, _, _, _, _, _, _, _, _, h, _, _, _, _ => absurd h (by omega)
  | n + 1, .one s, r, a, xs, S, Q, X, ok, hd, hl, hr, ea, q => by
    refine callW_of h rfl ?_
    simp [F_walk, wB, wS, wE, wEs, wTg, toD, ea]
    have hb : xs.length < sizeLine := by rw [sizeLine_eq]; omega
    refine ⟨line4 (by decide), hb, ?_⟩
    exact q1_of q
  | n + 1, .turns k ps, r, a, xs, S, Q, X, ok, hd, hl, hr, ea, q => by
    obtain ⟨h1, h2, h3, h4⟩ := ok.len
    simp only [dpt] at hd hr
    simp only [lv] at hl
    refine callW_of h rfl ?_
    simp [F_walk, wB, wS, wE, wEs, wIt, wTg, toD, toDs_len, place, pathD]
    refine wfor_nat _ (fun i ρ S' => (∃ v3 v4, ρ = [some (toD (.turns k ps)), some (pathD r), some (.ref a), v3, v4]) ∧ S' = ups S a (.lst (xs ++ lvD (lvRs 0 (ps.take i) r)))) ⟨⟨none, none, rfl⟩, by simp [lvRs, lvD]; exact (ups_self ea).symm⟩ (fun _ _ _ _ => held_nil) (fun i y ρ S' R hy hI hR => ?_) fun ρ S' hI => ?_
    · obtain ⟨⟨v3, v4, rfl⟩, rfl⟩ := hI
      obtain ⟨t, ht, rfl⟩ := enum_toDs hy
      have dt := dpt_at ht
      have lt := lv_at ht
      try simp [pathD]
      refine ⟨line4 (by decide), line3 (by omega), ?_⟩
      have epath : D.tup (r.map (fun (j : Nat) => D.int (j : Int)) ++ [D.int (i : Int)]) = pathD (r ++ [i]) := by simp [pathD]
      rw [epath]
      have hlen : (ps.take i).length = i := by rw [List.length_take]; have := (List.getElem?_eq_some_iff.mp ht).1; omega
      have e1 : ps.take (i + 1) = ps.take i ++ [t] := by rw [List.take_succ, ht]; rfl
      refine walk_ok h n t (r ++ [i]) a _ _ _ _ (h4 t (List.mem_of_getElem? ht)) (by omega) (by rw [List.length_append, lvD_len, lvRs_len]; omega) (by simp; omega) ups_same ?_
      refine hR _ _ ⟨⟨_, _, rfl⟩, ?_⟩
      rw [ups_ups, e1, lvRs_snoc, lvD_app, hlen, Nat.zero_add, List.append_assoc]
    · obtain ⟨⟨v3, v4, rfl⟩, rfl⟩ := hI
      have hl2 : (enumF 0 (toDs ps)).length = ps.length := by rw [enumF_len, toDs_len]
      rw [hl2, List.take_length]
      exact q1_of q
theorem paths_ok {P : Prg} {f g : Nat} (h : P f = some (F_all_paths g)) (hg : P g = some (F_walk g)) (n : Nat) (T : Rt) (ok : Rg T) (hd : dpt T < n) (hd2 : dpt T ≤ 900) (hl : lv T ≤ 100000) (S : Sta) (Q X : K) (q : ∀ p, S p = none → Q (.ref p) (ups S p (.lst (lvD (lvR T []))))) : callW P (n + 1) f [toD T] S Q X := by
  refine callW_of h rfl ?_
  simp [F_all_paths, wB, wS, wE, wEs, wIt, wTg, place]
  intro p hp
  have e0 : D.tup [] = pathD [] := rfl
  rw [e0]
  refine walk_ok hg n T [] p [] _ _ _ ok hd (by simp; omega) (by simp; omega) ups_same ?_
  rw [ups_ups, List.nil_append]
  exact q1_of (q p hp)
/-! dict of names -/
def nmK (l : List Str) : List (Key × D) := l.map fun s => (.inr s, .bl true)
theorem pairs_nm : ∀ l : List Str, pairsOf (l.map fun s => D.tup [.str s, .bl true]) = some (nmK l)
  | [] => rfl
  | s :: r => by
    rw [List.map_cons]
    show (match keyD (.str s), pairsOf (r.map fun s => D.tup [.str s, .bl true]) with
      | some k, some t => some ((k, D.bl true) :: t)
      | _, _ => none) = _
    rw [pairs_nm r]; rfl
theorem kput_nm (l : List Str) (s : Str) : kput (nmK l) (.inr s) (.bl true) = if s ∈ l then nmK l else nmK (l ++ [s]) := by
  unfold kput nmK
  rw [List.any_map]
  have e : (l.any ((fun p : Key × D => decide (p.1 = (.inr s : Key))) ∘ fun s => (.inr s, .bl true))) = decide (s ∈ l) := by
    induction l with
    | nil => rfl
    | cons x r ih =>
      rw [List.any_cons, ih]
      simp only [Function.comp_apply, List.mem_cons, Bool.decide_or]
      congr 1
      by_cases hx : x = s
      · simp [hx]
      · have : ¬ (Sum.inr x : Key) = .inr s := fun e => hx (Sum.inr.inj e)
        simp [Ne.symm hx, this]
  rw [e]
  by_cases hs : s ∈ l
  · simp only [hs, decide_true, if_true]
    rw [List.map_map]
    refine List.map_congr_left fun x _ => ?_
    simp only [Function.comp_apply]
    split <;> rfl
  · simp only [hs, decide_false, Bool.false_eq_true, if_false]
    simp
theorem kmerge_nm : ∀ l : List Str, kmerge [] (nmK l) = nmK (ddup l) := by
  refine snoc_ind rfl fun l a ih => ?_
  have e : nmK (l ++ [a]) = nmK l ++ [(.inr a, .bl true)] := by simp [nmK]
  rw [e]
  unfold kmerge at ih ⊢
  rw [List.foldl_append, ih]
  show kput (nmK (ddup l)) (.inr a) (.bl true) = _
  rw [kput_nm, ddup_snoc]
  split <;> rfl
theorem keys_nm (l : List Str) : (nmK l).map (fun p => dKey p.1) = strD l := by
  unfold nmK strD
  rw [List.map_map]
  rfl
theorem holders_ok {P : Prg} {f g w : Nat} (h : P f = some (F_holders g)) (hg : P g = some (F_all_paths w)) (hw : P w = some (F_walk w)) (n : Nat) (T : Rt) (ok : Rg T) (hd : dpt T < n) (hd2 : dpt T ≤ 900) (hl : lv T ≤ 100000) (S : Sta) (Q X : K) (q : ∀ p, S p = none → Q (.ref p) (ups S p (.lst (strD (ddup (nms T)))))) : callW P (n + 2) f [toD T] S Q X := by
  refine callW_of h rfl ?_
  simp [F_holders, wB, wS, wE, wEs, wIt, wTg, place]
  refine paths_ok hg hw n T ok hd hd2 hl _ _ _ fun p hp => ?_
  have sb1 := Sub.new (o := .lst (lvD (lvR T []))) hp
  simp
  refine wcomp_idx ((nms T).map fun s => D.tup [.str s, .bl true]) (by rw [lvD_len, lvR_len]; omega) (by rw [List.length_map, lvD_len, ← lvR_nms T [], List.length_map]) (fun pr hpr => by simp at hpr; subst hpr; exact ups_same) (fun i x y R hx hy hR => ?_) fun p2 hp2 => ?_
  · unfold lvD at hx
    rw [List.getElem?_map] at hx hy
    obtain ⟨u, hu, rfl⟩ := Option.map_eq_some_iff.mp hx
    rw [← lvR_nms T [], List.getElem?_map, hu] at hy
    simp at hy
    subst hy
    simp
    exact ⟨line4 (by decide), hR⟩
  · have sb2 := Sub.new (o := .lst ((nms T).map fun s => D.tup [.str s, .bl true])) hp2
    have wd : ∀ {C : Orc} {a : Addr} {xs : List D} {ps : List (Key × D)} {S : Sta} {Q : K}, S a = some (.lst xs) → pairsOf xs = some ps → (∀ p, S p = none → Q (.ref p) (ups S p (.dic (kmerge [] ps)))) → wb1 C .dict (.ref a) S Q := fun {C a xs ps S Q} e1 e2 q => by
      show (match S a with
        | some (.lst xs) => ∃ ps, pairsOf xs = some ps ∧ ∀ p, S p = none → Q (.ref p) (ups S p (.dic (kmerge [] ps)))
        | _ => False)
      rw [e1]
      exact ⟨ps, e2, q⟩
    refine wd ups_same (pairs_nm _) fun p3 hp3 => ?_
    rw [kmerge_nm]
    have sb3 := Sub.new (o := .dic (nmK (ddup (nms T)))) hp3
    refine ⟨strD (ddup (nms T)), by simp [itemsK, keys_nm], fun p4 hp4 => ?_⟩
    have sb := (sb1.trans sb2).trans sb3
    have n4 := sub_none sb hp4
    refine ⟨ups S p4 (.lst (strD (ddup (nms T)))), Sub.ups_of (fun a o e => ?_) ups_same, q p4 n4⟩
    rw [ups_ne (sne e n4)]
    exact sb _ _ e
/-! counts -/
def cnl (k m : Nat) (s : Str) (n : Int) : Nat → List Rt → List Int
  | _, [] => []
  | i, p :: r => cnt p s (vis n (((i : Int) - k) % m) m) :: cnl k m s n (i + 1) r
theorem cnl_sum (k m : Nat) (s : Str) (n : Int) : ∀ (ps : List Rt) (i : Nat), (cnl k m s n i ps).sum = cntL k m i ps s n
  | [], i => rfl
  | p :: r, i => by simp only [cnl, cntL, List.sum_cons, cnl_sum k m s n r]
theorem cnl_len (k m : Nat) (s : Str) (n : Int) : ∀ (ps : List Rt) (i : Nat), (cnl k m s n i ps).length = ps.length
  | [], i => rfl
  | p :: r, i => by simp only [cnl, List.length_cons, cnl_len k m s n r]
theorem cnl_get (k m : Nat) (s : Str) (n : Int) : ∀ (ps : List Rt) (i j : Nat) (p : Rt), ps[j]? = some p → (cnl k m s n i ps)[j]? = some (cnt p s (vis n ((((i + j : Nat) : Int) - k) % m) m))
  | [], _, _, _, h => by simp at h
  | x :: r, i, 0, p, h => by simp at h; subst h; simp [cnl]
  | x :: r, i, j + 1, p, h => by
    simp only [cnl, List.getElem?_cons_succ]
    rw [cnl_get k m s n r (i + 1) j p (by simpa using h)]
    have : i + 1 + j = i + (j + 1) := by omega
    rw [this]
theorem ahead_ok {P : Prg} {f v l : Nat} (h : P f = some (F_ahead_of f v l)) (hv : P v = some F_visits) (hl : P l = some F_later_of) : ∀ (n : Nat) (T : Rt) (s : Str) (x : Int) (S : Sta) (Q X : K), Rg T → dpt T < n → Q (.int (cnt T s x)) S → callW P n f [toD T, .str s, .int x] S Q X
  | 0, _, _, _, _, _, _, _, h, _ => absurd h (by omega)
  | n + 1, .one t, s, x, S, Q, X, ok, hd, q => by
    refine callW_of h rfl ?_
    simp [F_ahead_of, wB, wS, wE, wTg, toD]
    simp only [cnt] at q
    by_cases e : t = s
    · subst e
      rw [if_pos rfl] at q
      simp
      exact q1_of q
    · rw [if_neg e] at q
      simp [e]
      exact q1_of q
  | n + 1, .turns k ps, s, x, S, Q, X, ok, hd, q => by
    obtain ⟨h1, h2, h3, h4⟩ := ok.len
    simp only [dpt] at hd
    obtain ⟨n', rfl⟩ : ∃ n', n = n' + 1 := ⟨n - 1, by cases ps with
      | nil => simp at h1
      | cons y r => have := dpt_pos y; simp only [dpts] at hd; omega⟩
    refine callW_of h rfl ?_
    simp [F_ahead_of, wB, wS, wE, wEs, wIt, wTg, toD, toDs_len, place]
    refine wcomp_idx ((cnl k ps.length s x 0 ps).map .int) (by rw [enumF_len, toDs_len]; omega) (by rw [List.length_map, cnl_len, enumF_len, toDs_len]) held_nil (fun i y z R hy hz hR => ?_) fun p hp => ?_
    · obtain ⟨r, hr, rfl⟩ := enum_toDs hy
      have hc := cnl_get k ps.length s x ps 0 i r hr
      rw [Nat.zero_add] at hc
      rw [List.getElem?_map, hc] at hz
      simp at hz
      subst hz
      have hT : toD (.turns k ps) = .tup [.str (Str.ofString "turns"), .int k, .tup (toDs ps)] := rfl
      simp
      rw [← hT]
      refine later_ok hl n' k ps (by omega) _ _ _ _ ?_
      try simp
      refine visits_ok hv n' _ _ _ (by omega) (by omega) _ _ _ ?_
      try simp
      exact ahead_ok h hv hl (n' + 1) r _ _ _ _ _ (h4 r (List.mem_of_getElem? hr)) (by have := dpt_at hr; omega) hR
    · simp only [cnt] at q
      rw [← cnl_sum] at q
      exact ⟨_, ints_map _, q1_new hp q⟩
/-- how often a name stands among the next turns -/
def cN (T : Rt) (a : Int) (m : Nat) (s : Str) : Nat := (nmsR T a m).count s
theorem count_ok {P : Prg} {c f v l : Nat} (hc : P c = some (F_count f)) (h : P f = some (F_ahead_of f v l)) (hv : P v = some F_visits) (hl : P l = some F_later_of) (n : Nat) (T : Rt) (ok : Rg T) (hd : dpt T < n) (s : Str) (m : Nat) (a : Int) (S : Sta) (Q X : K) (q : Q (.int (cN T a m s)) S) : callW P (n + 1) c [toD T, .str s, .int m, .int a] S Q X := by
  refine callW_of hc rfl ?_
  simp [F_count, wB, wS, wE, wEs, wIt, wTg, place]
  refine ahead_ok h hv hl n T s _ _ _ _ ok hd ?_
  try simp
  refine ahead_ok h hv hl n T s _ _ _ _ ok hd ?_
  try simp
  have e := cnt_many T ok s a m
  have e2 : cnt T s (a + m) - cnt T s a = (cN T a m s : Nat) := e
  rw [e2]
  exact q1_of q
def cD (T : Rt) (a : Int) (m : Nat) : List D := (ddup (nms T)).map fun s => .tup [.str s, .int (cN T a m s)]
theorem nms_lv (T : Rt) : (ddup (nms T)).length ≤ lv T := by
  have h1 := ddup_len (nms T)
  have h2 : (nms T).length = lv T := by rw [← lvR_nms T [], List.length_map, lvR_len]
  omega
theorem counts_ok {P : Prg} {z c f v l g w y : Nat} (h0 : P z = some (F_counts c y)) (hc : P c = some (F_count f)) (h : P f = some (F_ahead_of f v l)) (hv : P v = some F_visits) (hl : P l = some F_later_of) (hy : P y = some (F_holders g)) (hg : P g = some (F_all_paths w)) (hw : P w = some (F_walk w)) (n : Nat) (T : Rt) (ok : Rg T) (hd : dpt T < n) (hd2 : dpt T ≤ 900) (hlv : lv T ≤ 100000) (m : Nat) (a : Int) (S : Sta) (Q X : K) (q : ∀ p, S p = none → Q (.ref p) (ups S p (.lst (cD T a m)))) : callW P (n + 3) z [toD T, .int m, .int a] S Q X := by
  refine callW_of h0 rfl ?_
  simp [F_counts, wB, wS, wE, wEs, wIt, wTg, place, placeL, Es.len]
  refine holders_ok hy hg hw n T ok hd hd2 hlv _ _ _ fun p hp => ?_
  have sb1 := Sub.new (o := .lst (strD (ddup (nms T)))) hp
  try simp
  have hn := nms_lv T
  refine wcomp_idx (cD T a m) (by simp [strD]; omega) (by simp [strD, cD]) (fun pr hpr => by simp at hpr; subst hpr; exact ups_same) (fun i x y R hx hy hR => ?_) fun p2 hp2 => ?_
  · unfold strD at hx
    unfold cD at hy
    rw [List.getElem?_map] at hx hy
    obtain ⟨u, hu, rfl⟩ := Option.map_eq_some_iff.mp hx
    rw [hu] at hy
    simp at hy
    subst hy
    try simp
    refine count_ok hc h hv hl (n + 1) T ok (by omega) u m a _ _ _ ?_
    try simp
    exact ⟨line4 (by decide), hR⟩
  · have n2 := sub_none sb1 hp2
    refine ⟨ups S p2 (.lst (cD T a m)), Sub.ups_of (fun a o e => ?_) ups_same, q p2 n2⟩
    rw [ups_ne (sne e n2)]
    exact sb1 _ _ e
end A
end
section
set_option Elab.async false
set_option linter.all false
set_option maxRecDepth 100000
set_option maxHeartbeats 4000000
/-! V11: comprehensions that allocate; least and most; counts far on. -/
namespace A
open PySem L2
theorem held_sub {h : List (Addr × MO)} {S S' : Sta} (hh : Held h S) (sb : Sub S S') : Held h S' := fun pr hp => sb _ _ (hh pr hp)
theorem wcomp_sub {h : List (Addr × MO)} {f : D → Sta → (Option D → Sta → Prop) → Prop} {Q : List D → Sta → Prop} {S : Sta} {xs : List D} (ys : List D) (hl : xs.length < 16777216) (hn : ys.length = xs.length) (hh : Held h S)
    (st : ∀ (i : Nat) (x y : D) (S' : Sta) (R : Option D → Sta → Prop), xs[i]? = some x → ys[i]? = some y → Sub S S' → (∀ S'', Sub S' S'' → R (some y) S'') → f x S' R) (fin : ∀ S', Sub S S' → Q ys S') : wcomp h f xs [] S Q := by
  refine wcomp_nat xs hl (fun i acc S' => acc = ys.take i ∧ Sub S S') ⟨by simp, Sub.refl _⟩ (fun _ _ _ hI => held_sub hh hI.2) (fun i acc S' hI => by rw [hI.1]; simp; omega) (fun i x acc S' R hx hI hr _ => ?_) fun acc S' hI => ?_
  · obtain ⟨rfl, sb⟩ := hI
    have hi : i < ys.length := by rw [hn]; exact (List.getElem?_eq_some_iff.mp hx).1
    have hy : ys[i]? = some ys[i] := List.getElem?_eq_getElem hi
    exact st i x _ S' R hx hy sb fun S'' sb2 => hr _ _ ⟨by rw [List.take_succ, hy]; rfl, sb.trans sb2⟩
  · obtain ⟨rfl, sb⟩ := hI
    rw [← hn, List.take_length]
    exact fin _ sb
theorem wmin {C : Orc} {a : Addr} {l : List Int} {S : Sta} {Q : K} (h : S a = some (.lst (l.map .int))) (hl : 0 < l.length) (q : Q (.int (minI l)) S) : wb1 C .min (.ref a) S Q :=
  ⟨_, l, by simp [itemsL, h], ints_map _, hl, q⟩
theorem wmax {C : Orc} {a : Addr} {l : List Int} {S : Sta} {Q : K} (h : S a = some (.lst (l.map .int))) (hl : 0 < l.length) (q : Q (.int (maxI l)) S) : wb1 C .max (.ref a) S Q :=
  ⟨_, l, by simp [itemsL, h], ints_map _, hl, q⟩
theorem minI_add (c : Int) : ∀ l : List Int, 0 < l.length → minI (l.map (· + c)) = minI l + c
  | [], h => by simp at h
  | [a], _ => rfl
  | a :: b :: r, _ => by
    have ih := minI_add c (b :: r) (by simp)
    simp only [List.map_cons] at ih ⊢
    show min (a + c) (minI ((b + c) :: r.map (· + c))) = min a (minI (b :: r)) + c
    rw [ih]; omega
theorem maxI_add (c : Int) : ∀ l : List Int, 0 < l.length → maxI (l.map (· + c)) = maxI l + c
  | [], h => by simp at h
  | [a], _ => rfl
  | a :: b :: r, _ => by
    have ih := maxI_add c (b :: r) (by simp)
    simp only [List.map_cons] at ih ⊢
    show max (a + c) (maxI ((b + c) :: r.map (· + c))) = max a (maxI (b :: r)) + c
    rw [ih]; omega
/-! far on -/
theorem cN_cnt {T : Rt} (rg : Rg T) (a : Int) (m : Nat) (s : Str) : (cN T a m s : Int) = cnt T s (a + m) - cnt T s a := (cnt_many T rg s a m).symm
theorem cnt_turn {T : Rt} (rg : Rg T) (s : Str) (a : Int) : cnt T s (a + rnd T) - cnt T s a = cN T 0 (rnd T) s := by
  have st : ∀ a : Int, cnt T s (a + 1 + rnd T) - cnt T s (a + 1) = cnt T s (a + rnd T) - cnt T s a := fun a => by
    have e : a + 1 + (rnd T : Int) = a + rnd T + 1 := by omega
    have h2 := due_round rg (n := a) (t := 1)
    rw [Int.mul_one, Int.add_comm] at h2
    rw [e, cnt_succ T rg, cnt_succ T rg, h2]
    omega
  have h0 := cN_cnt rg 0 (rnd T) s
  have up : ∀ n : Nat, cnt T s ((n : Int) + rnd T) - cnt T s n = cnt T s (0 + rnd T) - cnt T s 0 := fun n => by
    induction n with
    | zero => rfl
    | succ n ih =>
      have := st n
      rw [← ih]
      push_cast
      exact this
  have dn : ∀ n : Nat, cnt T s (-(n : Int) + rnd T) - cnt T s (-(n : Int)) = cnt T s (0 + rnd T) - cnt T s 0 := fun n => by
    induction n with
    | zero => rfl
    | succ n ih =>
      have := st (-((n + 1 : Nat) : Int))
      have e : -((n + 1 : Nat) : Int) + 1 = -(n : Int) := by omega
      rw [e, ih] at this
      exact this.symm
  rw [h0]
  rcases Int.le_total 0 a with h | h
  · obtain ⟨n, rfl⟩ := Int.eq_ofNat_of_zero_le h
    exact up n
  · obtain ⟨n, hn⟩ := Int.eq_ofNat_of_zero_le (show 0 ≤ -a by omega)
    have e : a = -(n : Int) := by omega
    rw [e]
    exact dn n
theorem cN_far {T : Rt} (rg : Rg T) (a : Int) (m q : Nat) (s : Str) : (cN T a (m + rnd T * q) s : Int) = cN T a m s + q * cN T 0 (rnd T) s := by
  have h : ∀ (q : Nat) (x : Int), cnt T s (x + (rnd T : Int) * q) = cnt T s x + q * cN T 0 (rnd T) s := fun q x => by
    induction q with
    | zero => simp
    | succ q ih =>
      have e : x + (rnd T : Int) * ((q + 1 : Nat) : Int) = x + (rnd T : Int) * q + rnd T := by push_cast; rw [Int.mul_add]; omega
      have := cnt_turn rg s (x + (rnd T : Int) * q)
      rw [e]
      push_cast
      rw [Int.add_mul]
      omega
  rw [cN_cnt rg, cN_cnt rg]
  have e : a + ((m + rnd T * q : Nat) : Int) = a + m + (rnd T : Int) * q := by push_cast; omega
  rw [e, h]
  omega
def cL (T : Rt) (m : Nat) (s : Str) : List Int := (List.range (rnd T)).map fun a => (cN T (a : Nat) m s : Int)
theorem cL_len (T : Rt) (m : Nat) (s : Str) : (cL T m s).length = rnd T := by simp [cL]
theorem cL_get {T : Rt} {m : Nat} {s : Str} {i : Nat} (h : i < rnd T) : (cL T m s)[i]? = some (cN T (i : Nat) m s : Int) := by simp [cL, h]
theorem cL_far {T : Rt} (rg : Rg T) (m q : Nat) (s : Str) : cL T (m + rnd T * q) s = (cL T m s).map (· + (q * cN T 0 (rnd T) s : Int)) := by
  unfold cL
  rw [List.map_map]
  refine List.map_congr_left fun a _ => ?_
  exact cN_far rg _ _ _ _
theorem settled_ok {P : Prg} {z c f v l r d : Nat} (h0 : P z = some (F_settled c r)) (hc : P c = some (F_count f)) (h : P f = some (F_ahead_of f v l)) (hv : P v = some F_visits) (hl : P l = some F_later_of) (hr : P r = some (F_round_of r d)) (hd0 : P d = some F_divisor) (n : Nat) (T : Rt) (ok : Rg T) (hd : dpt T < n) (hd2 : dpt T ≤ 10) (hn : 12 ≤ n) (hrn : rnd T ≤ 400) (s : Str) (m : Nat) (S : Sta) (Q X : K) (q : Q (.tup [.int (minI (cL T m s)), .int (maxI (cL T m s))]) S) : callW P (n + 2) z [toD T, .str s, .int m] S Q X := by
  refine callW_of h0 rfl ?_
  simp [F_settled, wB, wS, wE, wEs, wIt, wTg, place, placeL, Es.len]
  refine round_ok hr hd0 (n + 1) T _ _ _ ok hd2 (by omega) ?_
  simp
  refine ⟨by omega, ?_⟩
  have hp := rnd_pos T ok
  refine wcomp_idx ((cL T m s).map .int) (by simp; omega) (by simp [cL_len]) held_nil (fun i x y R hx hy hR => ?_) fun p hp2 => ?_
  · obtain ⟨hi, rfl⟩ := range_at hx
    rw [List.getElem?_map, cL_get hi] at hy
    simp at hy
    subst hy
    try simp
    exact count_ok hc h hv hl n T ok hd s m _ _ _ _ hR
  · refine wmin ups_same (by rw [cL_len]; exact hp) ?_
    refine wmax ups_same (by rw [cL_len]; exact hp) ?_
    exact ⟨line4 (by decide), q1_new hp2 q⟩
end A
end
section
set_option Elab.async false
set_option linter.all false
set_option maxRecDepth 100000
set_option maxHeartbeats 4000000
/-! V12: the first difference; changed rights; flat ones. -/
namespace A
open PySem L2
theorem minI_mem : ∀ l : List Int, 0 < l.length → minI l ∈ l ∧ ∀ x ∈ l, minI l ≤ x
  | [], h => by simp at h
  | [a], _ => by simp [minI]
  | a :: b :: r, _ => by
    obtain ⟨h1, h2⟩ := minI_mem (b :: r) (by simp)
    have e : minI (a :: b :: r) = min a (minI (b :: r)) := rfl
    rw [e]
    refine ⟨?_, fun x hx => ?_⟩
    · rcases (by omega : min a (minI (b :: r)) = a ∨ min a (minI (b :: r)) = minI (b :: r)) with e | e <;> rw [e]
      · exact List.mem_cons_self ..
      · exact List.mem_cons_of_mem _ h1
    · rcases List.mem_cons.mp hx with rfl | hx
      · omega
      · have := h2 x hx; omega
theorem maxI_mem : ∀ l : List Int, 0 < l.length → maxI l ∈ l ∧ ∀ x ∈ l, x ≤ maxI l
  | [], h => by simp at h
  | [a], _ => by simp [maxI]
  | a :: b :: r, _ => by
    obtain ⟨h1, h2⟩ := maxI_mem (b :: r) (by simp)
    have e : maxI (a :: b :: r) = max a (maxI (b :: r)) := rfl
    rw [e]
    refine ⟨?_, fun x hx => ?_⟩
    · rcases (by omega : max a (maxI (b :: r)) = a ∨ max a (maxI (b :: r)) = maxI (b :: r)) with e | e <;> rw [e]
      · exact List.mem_cons_self ..
      · exact List.mem_cons_of_mem _ h1
    · rcases List.mem_cons.mp hx with rfl | hx
      · omega
      · have := h2 x hx; omega
def difI (T U : Rt) (m : Nat) : List Int := (dif T U m).map fun (j : Nat) => (j : Int)
def fmin : List Int → Option Int
  | [] => none
  | l => some (minI l)
def fdi (T U : Rt) (m : Nat) : Option Int := fmin (difI T U m)
theorem fdi_some {T U : Rt} {N m : Nat} (hm : m < N) (he : ∀ j : Nat, j < m → due T j = due U j) (hd : due T m ≠ due U m) : fdi T U N = some (m : Int) := by
  have h1 : (m : Int) ∈ difI T U N := List.mem_map.mpr ⟨m, mem_dif.mpr ⟨hm, hd⟩, rfl⟩
  unfold fdi
  have hpos := List.length_pos_of_mem h1
  obtain ⟨h2, h3⟩ := minI_mem _ hpos
  obtain ⟨j, hj, ej⟩ := List.mem_map.mp h2
  have h4 := h3 _ h1
  have h5 := mem_dif.mp hj
  have : ¬ j < m := fun c => h5.2 (he j c)
  have e : minI (difI T U N) = (m : Int) := by omega
  cases hc : difI T U N with
  | nil => rw [hc] at h1; cases h1
  | cons a r => rw [hc] at e; rw [← e]; rfl
theorem fdi_none {T U : Rt} {N : Nat} (he : ∀ j : Nat, due T j = due U j) : fdi T U N = none := by
  have : difI T U N = [] := by
    unfold difI
    rw [List.map_eq_nil_iff, List.eq_nil_iff_forall_not_mem]
    exact fun j hj => (mem_dif.mp hj).2 (he j)
  unfold fdi
  rw [this]; rfl
theorem fdi_comm (T U : Rt) (N : Nat) : fdi T U N = fdi U T N := by
  have : difI T U N = difI U T N := by
    unfold difI dif
    congr 1
    refine List.filter_congr fun j _ => ?_
    simp only [ne_comm]
  unfold fdi
  rw [this]
theorem alike_is {P : Prg} {f rd dv du l : Nat} (h : P f = some (F_alike rd dv du)) (hr : P rd = some (F_round_of rd dv)) (hdv : P dv = some F_divisor) (hdu : P du = some (F_due l)) (hl : P l = some F_later_of) (n : Nat) (T U : Rt) (r1 : Rg T) (r2 : Rg U) (d1 : dpt T ≤ 10) (d2 : dpt U ≤ 10) (hn : 12 ≤ n) (N : Nat) (hN : rnd T + rnd U ≤ N + Nat.gcd (rnd T) (rnd U)) (S : Sta) (Q X : K) (q : Q (oD (fdi T U N)) S) : callW P (n + 1) f [toD T, toD U] S Q X := by
  refine alike_ok h hr hdv hdu hl n T U r1 r2 d1 d2 hn S Q X (fun m hm he hd => ?_) fun he => ?_
  · rw [fdi_some (by omega) he hd] at q
    exact q
  · rw [fdi_none (due_agree r1 r2 he)] at q
    exact q
/-- the numbers that differ, by two rows of names -/
def gDif (T U : Rt) : D → Option D
  | .int i => if due T i ≠ due U i then some (.int i) else none
  | _ => none
theorem gDif_all (T U : Rt) (N : Nat) : ((List.range N).map fun (i : Nat) => D.int (i : Int)).filterMap (gDif T U) = (difI T U N).map .int := by
  unfold difI dif
  rw [List.filterMap_map, List.map_map]
  induction List.range N with
  | nil => rfl
  | cons a r ih =>
    rw [List.filterMap_cons, List.filter_cons, ih]
    simp only [Function.comp_apply, gDif]
    by_cases h : due T a = due U a
    · simp [h]
    · simp [h]
theorem wminD {C : Orc} {a : Addr} {l : List Int} {S : Sta} {Q : K} (h : S a = some (.lst (l.map .int))) (q : Q (oD (fmin l)) S) : wb1 C .minD (.ref a) S Q := by
  refine ⟨_, l, by simp [itemsL, h], ints_map _, ?_⟩
  cases l <;> exact q
theorem deep_ok {P : Prg} {f : Nat} (h : P f = some (F_law_deep f)) : ∀ (n : Nat) (T : Rt) (S : Sta) (Q X : K), Rg T → dpt T ≤ n → Q (.int (dpt T)) S → callW P n f [toD T] S Q X
  | 0, T, _, _, _, _, h, _ => absurd (dpt_pos T) (by omega)
  | n + 1, .one s, S, Q, X, ok, hd, q => by
    refine callW_of h rfl ?_
    simp [F_law_deep, wB, wS, wE, wEs, wTg, toD]
    exact q1_of q
  | n + 1, .turns k ps, S, Q, X, ok, hd, q => by
    obtain ⟨h1, h2, h3, h4⟩ := ok.len
    simp only [dpt] at hd q
    refine callW_of h rfl ?_
    simp [F_law_deep, wB, wS, wE, wEs, wIt, wTg, toD, toDs_len, place]
    refine wcomp_idx ((ps.map fun p => (dpt p : Int)).map .int) (by rw [toDs_len]; omega) (by simp [toDs_len]) held_nil (fun i x y R hx hy hR => ?_) fun p hp => ?_
    · obtain ⟨r, hr, rfl⟩ := toDs_is hx
      rw [List.getElem?_map, List.getElem?_map, hr] at hy
      simp at hy
      subst hy
      try simp
      exact deep_ok h n r _ _ _ (h4 r (List.mem_of_getElem? hr)) (by have := dpt_at hr; omega) hR
    · refine wmax ups_same (by simp; omega) ?_
      have e : ∀ l : List Rt, 0 < l.length → maxI (l.map fun p => (dpt p : Int)) = (dpts l : Int) := by
        intro l
        induction l with
        | nil => intro h; simp at h
        | cons a r ih =>
          intro _
          cases r with
          | nil => simp [maxI, dpts]
          | cons b t =>
            have := ih (by simp)
            show max (dpt a : Int) (maxI ((b :: t).map fun p => (dpt p : Int))) = _
            rw [this]
            simp only [dpts]
            omega
      rw [e ps (by omega)]
      try simp
      have e2 : (1 : Int) + (dpts ps : Nat) = ((1 + dpts ps : Nat) : Int) := by omega
      rw [e2]
      exact q1_new hp q
theorem lv_le5 : ∀ T : Rt, Rg T → lv T ≤ 5 ^ dpt T := by
  refine Rt.ind (fun s _ => by simp [lv, dpt]) fun k ps ih h => ?_
  obtain ⟨h1, h2, h3, h4⟩ := h.len
  simp only [lv, dpt]
  have go : ∀ l : List Rt, (∀ p ∈ l, p ∈ ps) → lvs l ≤ l.length * 5 ^ dpts ps := fun l => by
    induction l with
    | nil => intro _; simp [lvs]
    | cons a r ihr =>
      intro hm
      have h5 := ihr fun p hp => hm p (List.mem_cons_of_mem _ hp)
      have ha := hm a (List.mem_cons_self ..)
      obtain ⟨i, hi⟩ := List.getElem?_of_mem ha
      have h6 := ih a ha (h4 a ha)
      have h7 : 5 ^ dpt a ≤ 5 ^ dpts ps := Nat.pow_le_pow_right (by decide) (dpt_at hi)
      simp only [lvs, List.length_cons]
      rw [Nat.add_mul, Nat.one_mul]
      omega
  have h8 := go ps fun p hp => hp
  have h9 : ps.length * 5 ^ dpts ps ≤ 5 * 5 ^ dpts ps := Nat.mul_le_mul_right _ h2
  rw [Nat.pow_add]
  omega
end A
end
section
set_option Elab.async false
set_option linter.all false
set_option maxRecDepth 100000
set_option maxHeartbeats 4000000
/-! V13: a part put into another's place; changed rights. -/
namespace A
open PySem L2
def putT : List Nat → Rt → Rt → Rt
  | [], _, U => U
  | i :: r, .turns k ps, U => .turns k (match ps[i]? with
    | some p => ps.set i (putT r p U)
    | none => ps)
  | _ :: _, .one s, _ => .one s
def pathAt : List Nat → Rt → Prop
  | [], _ => True
  | i :: r, .turns _ ps => ∃ p, ps[i]? = some p ∧ pathAt r p
  | _ :: _, .one _ => False
mutual
theorem pathAt_lv : ∀ (T : Rt) (r0 : List Nat) (s : Str) (r : List Nat), (s, r) ∈ lvR T r0 → ∃ r', r = r0 ++ r' ∧ pathAt r' T
  | .one t, r0, s, r, h => by
    simp only [lvR, List.mem_singleton, Prod.mk.injEq] at h
    exact ⟨[], by simp [h.2], trivial⟩
  | .turns k ps, r0, s, r, h => by
    simp only [lvR] at h
    obtain ⟨j, p, r', hp, e, hr⟩ := pathAt_lvs ps 0 r0 s r h
    rw [Nat.zero_add] at e
    exact ⟨j :: r', e, p, hp, hr⟩
theorem pathAt_lvs : ∀ (ps : List Rt) (i : Nat) (r0 : List Nat) (s : Str) (r : List Nat), (s, r) ∈ lvRs i ps r0 → ∃ (j : Nat) (p : Rt) (r' : List Nat), ps[j]? = some p ∧ r = r0 ++ ((i + j) :: r') ∧ pathAt r' p
  | [], i, r0, s, r, h => by simp [lvRs] at h
  | q :: ps, i, r0, s, r, h => by
    simp only [lvRs, List.mem_append] at h
    rcases h with h | h
    · obtain ⟨r', e, hr⟩ := pathAt_lv q _ s r h
      exact ⟨0, q, r', rfl, by rw [e]; simp, hr⟩
    · obtain ⟨j, p, r', hp, e, hr⟩ := pathAt_lvs ps (i + 1) r0 s r h
      exact ⟨j + 1, p, r', by simpa using hp, by rw [e]; simp; omega, hr⟩
end
theorem pathAt_len : ∀ (r : List Nat) (T : Rt), pathAt r T → r.length < dpt T
  | [], T, _ => dpt_pos T
  | i :: r, .turns k ps, ⟨p, hp, h⟩ => by
    have := pathAt_len r p h
    have := dpt_at hp
    simp only [dpt, List.length_cons]; omega
  | _ :: _, .one _, h => h.elim
theorem dpts_set : ∀ (ps : List Rt) (i : Nat) (p : Rt), dpts (ps.set i p) ≤ max (dpts ps) (dpt p)
  | [], i, p => by simp [dpts]
  | q :: r, 0, p => by simp only [List.set_cons_zero, dpts]; omega
  | q :: r, i + 1, p => by
    have := dpts_set r i p
    simp only [List.set_cons_succ, dpts]; omega
theorem dpt_put : ∀ (r : List Nat) (T : Rt) (s : Str), pathAt r T → dpt (putT r T (.one s)) ≤ dpt T
  | [], T, s, _ => by have := dpt_pos T; simp only [putT, dpt]; omega
  | i :: r, .turns k ps, s, ⟨p, hp, h⟩ => by
    have h1 := dpt_put r p s h
    have h2 := dpt_at hp
    have h3 := dpts_set ps i (putT r p (.one s))
    simp only [putT, hp, dpt]; omega
  | _ :: _, .one _, s, h => h.elim
theorem ok_put : ∀ (r : List Nat) (T : Rt) (s : Str), NameOk s → RtOk T → RtOk (putT r T (.one s))
  | [], T, s, hs, _ => hs
  | i :: r, .turns k ps, s, hs, ⟨h1, h2, h3, h4⟩ => by
    simp only [putT]
    cases hp : ps[i]? with
    | none => exact ⟨h1, h2, h3, h4⟩
    | some p =>
      refine ⟨by simpa using h1, by simpa using h2, by simpa using h3, oks_mem.mpr fun q hq => ?_⟩
      rcases List.mem_or_eq_of_mem_set hq with hq | rfl
      · exact oks_mem.mp h4 q hq
      · exact ok_put r p s hs (oks_mem.mp h4 p (List.mem_of_getElem? hp))
  | _ :: _, .one t, s, hs, h => h
theorem pathD_nb : ∀ r : List Nat, nbDs (r.map fun (i : Nat) => D.int (i : Int)) = true ∧ depDs (r.map fun (i : Nat) => D.int (i : Int)) = 0
  | [] => ⟨rfl, rfl⟩
  | i :: r => by
    obtain ⟨h1, h2⟩ := pathD_nb r
    refine ⟨?_, ?_⟩
    · show (true && nbDs _) = true
      rw [h1]; rfl
    · show max 0 (depDs _) = 0
      omega
theorem cutD_1 (d : D) (l : List D) : cutD (d :: l) (some 1) none = l := by
  unfold cutD
  simp only [HT.sIx]
  rw [if_neg (by omega)]
  simp
theorem put_ok {P : Prg} {f : Nat} (h : P f = some (F_law_put f)) : ∀ (r : List Nat) (n : Nat) (T U : Rt) (S : Sta) (Q X : K), pathAt r T → r.length < n → r.length ≤ 100 → Q (toD (putT r T U)) S → callW P n f [toD T, pathD r, toD U] S Q X
  | [], 0, _, _, _, _, _, _, h, _, _ => absurd h (by simp)
  | [], n + 1, T, U, S, Q, X, hp, hn, hl, q => by
    refine callW_of h rfl ?_
    simp [F_law_put, wB, wS, wE, wEs, wTg, pathD]
    refine eqDD_nb rfl rfl (by decide) (by decide) fun b hb => ?_
    have hb2 : b = true := hb.mpr rfl
    subst hb2
    try simp
    exact q1_of q
  | i :: r, 0, _, _, _, _, _, _, h, _, _ => absurd h (by simp)
  | i :: r, n + 1, .one s, U, S, Q, X, hp, hn, hl, q => hp.elim
  | i :: r, n + 1, .turns k ps, U, S, Q, X, ⟨p, hp, hr⟩, hn, hl, q => by
    simp only [List.length_cons] at hn hl
    refine callW_of h rfl ?_
    simp [F_law_put, wB, wS, wE, wEs, wIt, wTg, pathD, toD, place]
    have hnb := pathD_nb (i :: r)
    simp only [List.map_cons] at hnb
    refine eqDD_nb (by simpa [nbD] using hnb.1) rfl (by simp only [depD]; omega) (by decide) fun b hb => ?_
    have hb2 : b = false := by
      cases b with
      | false => rfl
      | true => have := hb.mp rfl; simp at this
    subst hb2
    simp
    have hi : i < ps.length := (List.getElem?_eq_some_iff.mp hp).1
    refine ⟨toDs ps, by simp [itemsK], fun a ha => ⟨toD p, toDs_ix hp, ?_⟩⟩
    rw [cutD_1]
    have e : D.tup (r.map fun (i : Nat) => D.int (i : Int)) = pathD r := rfl
    rw [e]
    refine put_ok h r n p U _ _ _ hr (by omega) (by omega) ?_
    simp only [ups_same, setO_lst]
    refine ⟨i, ixN_nat (by rw [toDs_len]; exact hi), ?_⟩
    refine ⟨(toDs ps).set i (toD (putT r p U)), by simp [lO], line4 (by decide), ?_⟩
    rw [ups_ups]
    simp only [putT, hp] at q
    refine q1_new ha ?_
    have e2 := toDs_set ps i (putT r p U)
    rw [e2]
    exact q
end A
end
section
set_option Elab.async false
set_option linter.all false
set_option maxRecDepth 100000
set_option maxHeartbeats 4000000
/-! V14: changed rights; flat rights. -/
namespace A
open PySem L2
theorem str_at {ws : List Str} {v : Nat} (h : v < ws.length) : L2.atI (ws.map D.str) (v : Int) = some (.str ws[v]) := L2.atI_nat (by simp [List.getElem?_eq_getElem h])
theorem Box.nw {b a : Addr} {S : Sta} {o : MO} (h : Box b S) (n : S a = none) : Box b (ups S a o) := h.sub (Sub.new n)
theorem Keep.sub {b : Addr} {S S' : Sta} (h : Sub S S') : Keep b S S' := fun a o _ e => h a o e
theorem changed_ok {P : Prg} {c t pl ho le rw' st pu ri tr : Nat} (h : P c = some (F_law_changed_right t pl rw' le pu ri)) (ht : P t = some F_law_take) (hpl : P pl = some (F_law_plain ho pl)) (hho : P ho = some (F_law_holders le)) (hle : P le = some (F_law_leaves le)) (hrw : P rw' = some (F_law_row st)) (hst : P st = some (F_law_step st)) (hpu : P pu = some (F_law_put pu)) (hri : P ri = some (F_law_right t tr)) (htr : P tr = some (F_law_tree t tr)) (n : Nat) {b p : Addr} {ws : List Str} (w0 : 0 < ws.length) (w1 : ws.length ≤ 7) (hw : ∀ s ∈ ws, NameOk s) (np : p ≠ b) (T : Rt) (ok : RtOk T) (hd : dpt T ≤ 3) (S : Sta) (hb : Box b S) (ep : S p = some (.lst (ws.map D.str))) (Q X : K)
    (q : ∀ (U : Rt) (S' : Sta), RtOk U → dpt U ≤ 4 → Box b S' → Keep b S S' → Q (toD U) S') : callW P (n + 13) c [.ref b, toD T, .ref p] S Q X := by
  have rg := ok_rg T ok
  have hlv := lv_le5 T rg
  have hlv2 : lv T ≤ 125 := by
    have : 5 ^ dpt T ≤ 5 ^ 3 := Nat.pow_le_pow_right (by decide) hd
    omega
  refine callW_of h rfl ?_
  simp [F_law_changed_right, wB, wS, wE, wEs, wIt, wTg, place]
  refine take_ok ht hb (by decide) (by decide) fun v S1 v0 v1 b1 k1 => ?_
  have ep1 := k1 _ _ np ep
  simp
  split
  · refine lplain_ok hpl hho hle (n + 12) T _ _ _ rg (by omega) (by omega) (by omega) ?_
    rw [lpl_eq T rg]
    exact q1_of (q _ _ (ok_pln T ok) (by have := dpt_pln T; omega) b1 k1)
  split
  · refine take_ok ht b1 (by decide) (by decide) fun m S2 m0 m1 b2 k2 => ?_
    obtain ⟨m, rfl⟩ := Int.eq_ofNat_of_zero_le m0
    try simp
    refine row_law_ok hrw hst (n + 11) T rg (by omega) m (by omega) _ _ _ fun w hw4 => ?_
    try simp
    have sb := Sub.new (o := .lst (strD (nmsR T 0 m))) hw4
    exact q1_of (q _ _ (ok_beh T ok _) (by rw [dpt_beh]; omega) (b2.nw hw4) ((k1.trans k2).trans (Keep.sub sb)))
  split
  · have e0 : D.tup [] = pathD [] := rfl
    rw [e0]
    refine leavesL_ok hle (n + 12) T [] _ _ _ rg (by omega) (by omega) (by simp; omega) fun w hw4 => ?_
    have sb1 := Sub.new (o := .lst (lvD (lvR T []))) hw4
    have ew := ups_same (S := S1) (a := w) (o := .lst (lvD (lvR T [])))
    have b2 := b1.nw (o := .lst (lvD (lvR T []))) hw4
    have ep2 := sb1 _ _ ep1
    have nwb : w ≠ b := b1.at hw4
    generalize ups S1 w _ = S2 at sb1 ew b2 ep2 ⊢
    have hlen : (lvD (lvR T [])).length = lv T := by rw [lvD_len, lvR_len]
    have hpos := lv_pos T rg
    simp [ew]
    rw [hlen]
    refine take_ok ht b2 (by omega) (by omega) fun x S3 x0 x1 b3 k3 => ?_
    obtain ⟨x, rfl⟩ := Int.eq_ofNat_of_zero_le x0
    have ep3 := k3 _ _ np ep2
    obtain ⟨y, hy⟩ : ∃ y, (lvR T [])[x]? = some y := ⟨_, List.getElem?_eq_getElem (by rw [lvR_len]; omega)⟩
    have ay : L2.atI (lvD (lvR T [])) (x : Int) = some (.tup [.str y.1, pathD y.2]) := L2.atI_nat (by unfold lvD; rw [List.getElem?_map, hy]; rfl)
    have hpa : pathAt y.2 T := by
      obtain ⟨r', e, hr⟩ := pathAt_lv T [] y.1 y.2 (List.mem_of_getElem? hy)
      rw [e]; simpa using hr
    have hpl := pathAt_len _ _ hpa
    have ew3 := k3 _ _ nwb ew
    try simp [ew3, ay, ep3]
    refine take_ok ht b3 (by simpa using w0) (by simp; omega) fun z S4 z0 z1 b4 k4 => ?_
    obtain ⟨z, rfl⟩ := Int.eq_ofNat_of_zero_le z0
    have ep4 := k4 _ _ np ep3
    have hz : z < ws.length := by simpa using z1
    simp [ixO, ep4, str_at hz]
    refine ⟨line4 (by decide), ?_⟩
    refine put_ok hpu y.2 (n + 12) T (.one ws[z]) _ _ _ hpa (by omega) (by omega) ?_
    exact q1_of (q _ _ (ok_put _ _ _ (hw _ (List.getElem_mem hz)) ok) (by have := dpt_put y.2 T ws[z] hpa; omega) b4 (((k1.trans (Keep.sub sb1)).trans k3).trans k4))
  have last : wE (callW P (n + 12)) (fun x S' => Q1 X x S') (.call ri (.app []) (.cons (.v 0) (.cons (.v 2) .nil))) [some (.ref b), some (toD T), some (.ref p), some (.int v), none, none, none, none, none] S1 (Q1 Q) := by
    simp [wE, wEs, place]
    refine right_ok (n := n + 6) ht htr hri w0 w1 hw np b1 ep1 fun U S2 okU dU lU b2 k2 => ?_
    exact q1_of (q U S2 okU dU b2 (k1.trans k2))
  simp [wE, wEs, place] at last
  by_cases h3 : v = 3
  · subst h3
    simp only [if_true]
    cases T with
    | one s =>
      simp [toD]
      exact last
    | turns k ps =>
      obtain ⟨h1, h2, h4, h5⟩ := ok
      have hD : toD (.turns k ps) = .tup [.str (Str.ofString "turns"), .int k, .tup (toDs ps)] := rfl
      simp [hD, toDs_len]
      by_cases hl2 : ps.length = 2
      · obtain ⟨x, y, rfl⟩ : ∃ x y, ps = [x, y] := by
          match ps, hl2 with
          | [x, y], _ => exact ⟨x, y, rfl⟩
        have o := oks_mem.mp h5
        simp [toDs]
        refine ⟨line4 (by decide), line4 (by decide), ?_⟩
        exact q1_of (q (.turns k [x, y, x, y]) S1 ⟨by simp, by simp, by simp at h4 ⊢; omega, o x (by simp), o y (by simp), o x (by simp), o y (by simp), trivial⟩ (by simp only [dpt, dpts] at hd ⊢; omega) b1 k1)
      · have hl3 : ¬ (ps.length : Int) = 2 := by omega
        simp [hl3, hl2]
        exact last
  · simp only [h3, if_false]
    by_cases h4 : v = 4
    · simp [h4]
      refine take_ok ht b1 (by decide) (by decide) fun m S2 m0 m1 b2 k2 => ?_
      obtain ⟨m, rfl⟩ := Int.eq_ofNat_of_zero_le m0
      refine ⟨line4 (by decide), line4 (by decide), ?_⟩
      exact q1_of (q (.turns m [T, T]) S2 ⟨by simp, by simp, by simp; omega, ok, ok, trivial⟩ (by simp only [dpt, dpts]; omega) b2 (k1.trans k2))
    · simp [h4]
      exact last
/-- a flat right -/
def flt (k : Nat) (l : List Str) : Rt := .turns k (l.map .one)
theorem flat_ok {P : Prg} {f t : Nat} (h : P f = some (F_law_flat t)) (ht : P t = some F_law_take) (n : Nat) {b p : Addr} {ws : List Str} (w0 : 0 < ws.length) (w1 : ws.length ≤ 7) (hw : ∀ s ∈ ws, NameOk s) (np : p ≠ b) (S : Sta) (hb : Box b S) (ep : S p = some (.lst (ws.map D.str))) (Q X : K)
    (q : ∀ (U : Rt) (S' : Sta), RtOk U → dpt U ≤ 2 → rnd U ≤ 5 → Box b S' → Keep b S S' → Q (toD U) S') : callW P (n + 2) f [.ref b, .ref p] S Q X := by
  refine callW_of h rfl ?_
  simp [F_law_flat, wB, wS, wE, wEs, wIt, wTg, place]
  refine take_ok ht hb (by decide) (by decide) fun v S1 v0 v1 b1 k1 => ?_
  obtain ⟨v, rfl⟩ := Int.eq_ofNat_of_zero_le v0
  have ep1 := k1 _ _ np ep
  have eN : (2 : Int) + (v : Int) = ((2 + v : Nat) : Int) := by omega
  try simp
  rw [eN]
  refine ⟨by omega, by omega, ?_⟩
  refine wcomp_nat _ (by simp; omega) (fun i acc S' => ∃ l : List Str, acc = strD l ∧ l.length = i ∧ (∀ s ∈ l, NameOk s) ∧ Box b S' ∧ Keep b S S') ⟨[], rfl, rfl, (fun _ h => nomatch h), b1, k1⟩ (fun _ _ _ _ => held_nil) (fun i acc S' ⟨l, e, hl, _⟩ => by rw [e]; simp [strD, hl]) (fun i x acc S' R hx ⟨l, e, hl, hln, b2, k2⟩ hr _ => ?_) fun acc S' ⟨l, e, hl, hln, b2, k2⟩ p2 hp2 => ?_
  · have ep2 := k2 _ _ np ep
    try simp
    refine take_ok ht b2 (by decide) (by decide) fun y S2 y0 y1 b3 k3 => ?_
    have ep3 := k3 _ _ np ep2
    try simp [ep3]
    obtain ⟨j, hj⟩ : ∃ j : Nat, y / 4 * (if 1 < (ws.length : Int) then 1 else 0) = (j : Int) := Int.eq_ofNat_of_zero_le (by split <;> omega)
    have hjl : j < ws.length := by
      split at hj <;> omega
    rw [hj]
    refine ⟨divS (by decide) (by decide), .inl (.inl ⟨by omega, by omega⟩), _, str_at hjl, ?_⟩
    exact hr _ _ ⟨l ++ [ws[j]], by rw [e]; simp [strD], by simp [hl], fun s hs => by
      rcases List.mem_append.mp hs with hs | hs
      · exact hln s hs
      · simp at hs; subst hs; exact hw _ (List.getElem_mem hjl), b3, k2.trans k3⟩
  · simp at hl
    have npb : p2 ≠ b := b2.at hp2
    refine take_ok ht (b2.nw hp2) (by omega) (by omega) fun y S2 y0 y1 b3 k3 => ?_
    obtain ⟨y, rfl⟩ := Int.eq_ofNat_of_zero_le y0
    have e2 := k3 _ _ npb ups_same
    simp [e2]
    have sbk : Keep b S S2 := (k2.trans (Keep.new hp2)).trans k3
    subst e
    refine wcomp_idx (toDs (l.map .one)) (by simp [strD]; omega) (by simp [strD, toDs_len]) (fun pr hpr => by simp at hpr; subst hpr; exact e2) (fun i x z R hx hz hR => ?_) fun p3 hp3 => ?_
    · obtain ⟨r, hr, rfl⟩ := toDs_is hz
      unfold strD at hx
      rw [List.getElem?_map] at hx hr
      obtain ⟨u, hu, rfl⟩ := Option.map_eq_some_iff.mp hx
      rw [hu] at hr
      simp at hr
      subst hr
      exact ⟨line4 (by decide), hR⟩
    · refine ⟨line4 (by decide), ?_⟩
      have hrl : ∀ l : List Str, rndL 1 (l.map .one) = 1 := fun l => by
        induction l with
        | nil => rfl
        | cons a r ih => simpa [rndL, rnd] using ih
      have hdl : ∀ l : List Str, dpts (l.map .one) ≤ 1 := fun l => by
        induction l with
        | nil => simp [dpts]
        | cons a r ih => simp only [List.map_cons, dpts, dpt]; omega
      refine q1_of (q (.turns y (l.map .one)) _ ⟨by simp; omega, by simp; omega, by simp; omega, oks_mem.mpr fun r hr => ?_⟩ (by simp only [dpt]; have := hdl l; omega) ?_ (b3.nw hp3) (sbk.trans (Keep.new hp3)))
      · obtain ⟨s, hs, rfl⟩ := List.mem_map.mp hr
        exact hln s hs
      · simp only [rnd, hrl, List.length_map]; omega
end A
end
section
set_option Elab.async false
set_option linter.all false
set_option maxRecDepth 100000
set_option maxHeartbeats 4000000
/-! V15: parts at paths. -/
namespace A
open PySem L2
def atR : List Int → Rt → Option Rt
  | [], T => some T
  | i :: r, .turns _ ps => if 0 ≤ i ∧ i < ps.length then (match ps[i.toNat]? with
    | some p => atR r p
    | none => none) else none
  | _ :: _, .one _ => none
def pthD (is : List Int) : D := .tup (is.map .int)
/-- the refusal of a path -/
def noPart (is : List Int) : D := .exc 23 [0, 3] [.str (Str.ofString "NoPart"), pthD is]
theorem part_at_ok {P : Prg} {f : Nat} (h : P f = some F_part_at) (n : Nat) (T : Rt) (rg : Rg T) (is : List Int) (hl : is.length < 10000) (S : Sta) (Q X : K) (q : ∀ U, atR is T = some U → Q (toD U) S) (x : atR is T = none → X (noPart is) S) : callW P (n + 1) f [toD T, pthD is] S Q X := by
  refine callW_of h rfl ?_
  simp [F_part_at, wB, wS, wE, wEs, wIt, wTg, place, placeL, Es.len, pthD]
  refine wfor_nat _ (fun i ρ S' => (∃ T' v3, ρ = [some (toD T), some (pthD is), some (toD T'), v3] ∧ Rg T' ∧ atR (is.drop i) T' = atR is T) ∧ S' = S) ⟨⟨T, none, rfl, rg, rfl⟩, rfl⟩ (fun _ _ _ _ => held_nil) (fun i y ρ S' R hy hI hR => ?_) fun ρ S' hI => ?_
  · obtain ⟨⟨T', v3, rfl, rg', e⟩, rfl⟩ := hI
    rw [List.getElem?_map] at hy
    obtain ⟨a, ha, rfl⟩ := Option.map_eq_some_iff.mp hy
    have hd : is.drop i = a :: is.drop (i + 1) := by
      obtain ⟨hi, e2⟩ := List.getElem?_eq_some_iff.mp ha
      rw [List.drop_eq_getElem_cons hi, e2]
    rw [hd] at e
    cases T' with
    | one s =>
      simp only [atR] at e
      simp [toD, pthD]
      exact q1_of (x e.symm)
    | turns k ps =>
      have hD : toD (.turns k ps) = .tup [.str (Str.ofString "turns"), .int k, .tup (toDs ps)] := rfl
      simp only [atR] at e
      simp [hD, toDs_len, pthD]
      by_cases h0 : 0 ≤ a
      · by_cases h1 : a < ps.length
        · rw [if_pos ⟨h0, h1⟩] at e
          obtain ⟨b, rfl⟩ := Int.eq_ofNat_of_zero_le h0
          have hb : b < ps.length := by omega
          have hp : ps[b]? = some ps[b] := List.getElem?_eq_getElem hb
          simp only [Int.toNat_natCast, hp] at e
          simp only [h0, h1, if_true]
          exact ⟨_, toDs_ix hp, hR _ _ ⟨⟨ps[b], _, rfl, rg'.len.2.2.2 _ (List.mem_of_getElem? hp), e⟩, rfl⟩⟩
        · rw [if_neg (by omega)] at e
          simp only [h0, h1, if_true, if_false]
          exact q1_of (x e.symm)
      · rw [if_neg (by omega)] at e
        simp only [h0, if_false]
        exact q1_of (x e.symm)
  · obtain ⟨⟨T', v3, rfl, rg', e⟩, rfl⟩ := hI
    simp [List.length_map, List.drop_length, atR] at e
    simp
    exact q1_of (q T' e.symm)
def optT : Option Rt → D
  | some U => toD U
  | none => .non
theorem law_at_ok {P : Prg} {f : Nat} (h : P f = some F_law_at) (n : Nat) (T : Rt) (rg : Rg T) (is : List Int) (hl : is.length < 10000) (S : Sta) (Q X : K) (q : Q (optT (atR is T)) S) : callW P (n + 1) f [toD T, pthD is] S Q X := by
  refine callW_of h rfl ?_
  simp [F_law_at, wB, wS, wE, wEs, wIt, wTg, place, placeL, Es.len, pthD]
  refine wfor_nat _ (fun i ρ S' => (∃ T' v2, ρ = [some (toD T'), some (pthD is), v2] ∧ Rg T' ∧ atR (is.drop i) T' = atR is T) ∧ S' = S) ⟨⟨T, none, rfl, rg, rfl⟩, rfl⟩ (fun _ _ _ _ => held_nil) (fun i y ρ S' R hy hI hR => ?_) fun ρ S' hI => ?_
  · obtain ⟨⟨T', v3, rfl, rg', e⟩, rfl⟩ := hI
    rw [List.getElem?_map] at hy
    obtain ⟨a, ha, rfl⟩ := Option.map_eq_some_iff.mp hy
    have hd : is.drop i = a :: is.drop (i + 1) := by
      obtain ⟨hi, e2⟩ := List.getElem?_eq_some_iff.mp ha
      rw [List.drop_eq_getElem_cons hi, e2]
    rw [hd] at e
    cases T' with
    | one s =>
      simp only [atR] at e
      rw [← e] at q
      simp [toD, pthD]
      exact q1_of q
    | turns k ps =>
      have hD : toD (.turns k ps) = .tup [.str (Str.ofString "turns"), .int k, .tup (toDs ps)] := rfl
      simp only [atR] at e
      simp [hD, toDs_len, pthD]
      by_cases h0 : 0 ≤ a
      · by_cases h1 : a < ps.length
        · rw [if_pos ⟨h0, h1⟩] at e
          obtain ⟨b, rfl⟩ := Int.eq_ofNat_of_zero_le h0
          have hb : b < ps.length := by omega
          have hp : ps[b]? = some ps[b] := List.getElem?_eq_getElem hb
          simp only [Int.toNat_natCast, hp] at e
          simp only [h0, h1, if_true]
          exact ⟨_, toDs_ix hp, hR _ _ ⟨⟨ps[b], _, rfl, rg'.len.2.2.2 _ (List.mem_of_getElem? hp), e⟩, rfl⟩⟩
        · rw [if_neg (by omega)] at e
          rw [← e] at q
          simp only [h0, h1, if_true, if_false]
          exact q1_of q
      · rw [if_neg (by omega)] at e
        rw [← e] at q
        simp only [h0, if_false]
        exact q1_of q
  · obtain ⟨⟨T', v3, rfl, rg', e⟩, rfl⟩ := hI
    simp [List.length_map, List.drop_length, atR] at e
    rw [← e] at q
    simp
    exact q1_of q
/-! all paths -/
mutual
def pths : Rt → List (List Nat)
  | .one _ => [[]]
  | .turns _ ps => [] :: pthsL 0 ps
def pthsL : Nat → List Rt → List (List Nat)
  | _, [] => []
  | i, p :: r => (pths p).map (fun x => i :: x) ++ pthsL (i + 1) r
end
mutual
theorem pths_at : ∀ (T : Rt) (r : List Nat), r ∈ pths T → ∃ U, atR (r.map fun (i : Nat) => (i : Int)) T = some U ∧ r.length < dpt T
  | .one s, r, h => by
    simp only [pths, List.mem_singleton] at h
    subst h
    exact ⟨_, rfl, by simp [dpt]⟩
  | .turns k ps, r, h => by
    simp only [pths, List.mem_cons] at h
    rcases h with rfl | h
    · exact ⟨_, rfl, by simp only [dpt, List.length_nil]; omega⟩
    · obtain ⟨j, p, r', hp, rfl, hr⟩ := pths_atL ps 0 r h
      obtain ⟨U, e, hl⟩ := hr
      have hj : j < ps.length := (List.getElem?_eq_some_iff.mp hp).1
      refine ⟨U, ?_, ?_⟩
      · rw [Nat.zero_add, List.map_cons]
        simp only [atR, Int.toNat_natCast, hp]
        rw [if_pos ⟨by omega, by omega⟩]
        exact e
      · have := dpt_at hp
        simp only [dpt, List.length_cons]; omega
theorem pths_atL : ∀ (ps : List Rt) (i : Nat) (r : List Nat), r ∈ pthsL i ps → ∃ (j : Nat) (p : Rt) (r' : List Nat), ps[j]? = some p ∧ r = (i + j) :: r' ∧ ∃ U, atR (r'.map fun (i : Nat) => (i : Int)) p = some U ∧ r'.length < dpt p
  | [], i, r, h => by simp [pthsL] at h
  | q :: ps, i, r, h => by
    simp only [pthsL, List.mem_append, List.mem_map] at h
    rcases h with ⟨r', h, rfl⟩ | h
    · exact ⟨0, q, r', rfl, rfl, pths_at q r' h⟩
    · obtain ⟨j, p, r', hp, e, hr⟩ := pths_atL ps (i + 1) r h
      exact ⟨j + 1, p, r', by simpa using hp, by rw [e]; congr 1; omega, hr⟩
end
theorem pthsL_app (a b : List Rt) : ∀ i, pthsL i (a ++ b) = pthsL i a ++ pthsL (i + a.length) b := by
  induction a with
  | nil => intro i; simp [pthsL]
  | cons x r ih =>
    intro i
    simp only [List.cons_append, pthsL, ih (i + 1), List.append_assoc, List.length_cons]
    rw [Nat.add_assoc, Nat.add_comm 1]
end A
end
section
set_option Elab.async false
set_option linter.all false
set_option maxRecDepth 100000
set_option maxHeartbeats 4000000
/-! V16: refusals told; depths, leaves, paths. -/
namespace A
open PySem L2
theorem line4' {n : Nat} (h : n < 1000) : n < sizeLine := by rw [sizeLine_eq]; omega
theorem missing_ok {P : Prg} {f g : Nat} (h : P f = some (F_law_missing g)) (hg : P g = some F_part_at) (n : Nat) (T : Rt) (rg : Rg T) (is : List Int) (hl : is.length < 10000) (hn : atR is T = none) (S : Sta) (Q X : K) (q : ∀ p, S p = none → Q (.ref p) (ups S p (.lst [.bl true, .bl false, pthD is]))) : callW P (n + 2) f [toD T, pthD is] S Q X := by
  refine callW_of h rfl ?_
  simp [F_law_missing, wB, wS, wE, wEs, wIt, wTg, place, placeL, Es.len]
  refine part_at_ok hg n T rg is hl _ _ _ (fun U e => by rw [hn] at e; cases e) fun _ => ?_
  simp [noPart, wH, wB, wS, wE, wEs, wTg, List.lookup]
  exact ⟨line4 (by decide), fun p hp => ⟨_, _, _, ⟨rfl, rfl, rfl⟩, _, rfl, line4' (by decide), q1_of (q p hp)⟩⟩
theorem depth_ok {P : Prg} {f : Nat} (h : P f = some (F_depth f)) (n : Nat) (T : Rt) (S : Sta) (Q X : K) (rg : Rg T) (hd : dpt T ≤ n) (q : Q (.int (dpt T)) S) : callW P n f [toD T] S Q X :=
  deep_ok (P := P) (f := f) h n T S Q X rg hd q
theorem leaves_ok2 {P : Prg} {f : Nat} (h : P f = some (F_leaves f)) : ∀ (n : Nat) (T : Rt) (S : Sta) (Q X : K), Rg T → dpt T ≤ n → Q (.int (lv T)) S → callW P n f [toD T] S Q X
  | 0, T, _, _, _, _, h, _ => absurd (dpt_pos T) (by omega)
  | n + 1, .one s, S, Q, X, ok, hd, q => by
    refine callW_of h rfl ?_
    simp [F_leaves, wB, wS, wE, wEs, wTg, toD]
    exact q1_of q
  | n + 1, .turns k ps, S, Q, X, ok, hd, q => by
    obtain ⟨h1, h2, h3, h4⟩ := ok.len
    simp only [dpt] at hd
    simp only [lv] at q
    refine callW_of h rfl ?_
    simp [F_leaves, wB, wS, wE, wEs, wIt, wTg, toD, toDs_len, place]
    refine wcomp_idx ((ps.map fun p => (lv p : Int)).map .int) (by rw [toDs_len]; omega) (by simp [toDs_len]) held_nil (fun i x y R hx hy hR => ?_) fun p hp => ?_
    · obtain ⟨r, hr, rfl⟩ := toDs_is hx
      rw [List.getElem?_map, List.getElem?_map, hr] at hy
      simp at hy
      subst hy
      try simp
      exact leaves_ok2 h n r _ _ _ (h4 r (List.mem_of_getElem? hr)) (by have := dpt_at hr; omega) hR
    · have e : ∀ l : List Rt, (l.map fun p => (lv p : Int)).sum = (lvs l : Int) := by
        intro l
        induction l with
        | nil => rfl
        | cons a r ih => simp only [List.map_cons, List.sum_cons, ih, lvs]; omega
      refine ⟨_, ints_map _, ?_⟩
      rw [e]
      exact q1_new hp q
/-! paths of a name -/
theorem paths_of_ok {P : Prg} {f g w : Nat} (h : P f = some (F_paths_of g)) (hg : P g = some (F_all_paths w)) (hw : P w = some (F_walk w)) (n : Nat) (T : Rt) (ok : Rg T) (hd : dpt T < n) (hd2 : dpt T ≤ 900) (hl : lv T ≤ 100000) (s : Str) (S : Sta) (Q X : K)
    (q : ∀ p, S p = none → Q (.ref p) (ups S p (.lst (((lvR T []).filter fun x => x.1 == s).map fun x => pathD x.2)))) : callW P (n + 2) f [toD T, .str s] S Q X := by
  refine callW_of h rfl ?_
  simp [F_paths_of, wB, wS, wE, wEs, wIt, wTg, place]
  refine paths_ok hg hw n T ok hd hd2 hl _ _ _ fun p hp => ?_
  have sb1 := Sub.new (o := .lst (lvD (lvR T []))) hp
  simp
  refine wcomp_fil (fun d => match d with | .tup [.str y, z] => if y == s then some z else none | _ => none) (by rw [lvD_len, lvR_len]; omega) (fun pr hpr => by simp at hpr; subst hpr; exact ups_same) (fun i x R hx hR => ?_) fun p2 hp2 => ?_
  · unfold lvD at hx
    rw [List.getElem?_map] at hx
    obtain ⟨u, hu, rfl⟩ := Option.map_eq_some_iff.mp hx
    simp at hR ⊢
    by_cases hs : u.1 = s
    · simp [hs] at hR ⊢
      exact hR
    · simp [hs] at hR ⊢
      exact hR
  · have n2 := sub_none sb1 hp2
    have e : List.filterMap (fun d => match d with | .tup [.str y, z] => if y == s then some z else none | _ => none) (lvD (lvR T [])) = ((lvR T []).filter fun x => x.1 == s).map fun x => pathD x.2 := by
      unfold lvD
      rw [List.filterMap_map]
      induction lvR T [] with
      | nil => rfl
      | cons a r ih =>
        rw [List.filterMap_cons, List.filter_cons]
        simp only [Function.comp_apply]
        by_cases ha : (a.1 == s) = true
        · simp only [ha, if_true, List.map_cons]
          rw [ih]
        · simp only [ha, Bool.false_eq_true, if_false]
          exact ih
    rw [e]
    refine ⟨ups S p2 (.lst (((lvR T []).filter fun x => x.1 == s).map fun x => pathD x.2)), Sub.ups_of (fun a o e => ?_) ups_same, q p2 n2⟩
    rw [ups_ne (sne e n2)]
    exact sb1 _ _ e
end A
end
section
set_option Elab.async false
set_option linter.all false
set_option maxRecDepth 100000
set_option maxHeartbeats 4000000
/-! V17: all paths. -/
namespace A
open PySem L2
def ptsD (l : List (List Nat)) : List D := l.map pathD
def ptn : Rt → Nat
  | T => (pths T).length
mutual
theorem pths_len : ∀ T : Rt, Rg T → (pths T).length + 1 ≤ 2 * lv T
  | .one s, _ => by simp [pths, lv]
  | .turns k ps, h => by
    obtain ⟨h1, h2, h3, h4⟩ := h.len
    have := pthsL_len ps 0 h4
    simp only [pths, List.length_cons, lv]; omega
theorem pthsL_len : ∀ (ps : List Rt) (i : Nat), (∀ p ∈ ps, Rg p) → (pthsL i ps).length + ps.length ≤ 2 * lvs ps
  | [], i, _ => by simp [pthsL, lvs]
  | p :: r, i, h => by
    have h1 := pths_len p (h p (List.mem_cons_self ..))
    have h2 := pthsL_len r (i + 1) fun q hq => h q (List.mem_cons_of_mem _ hq)
    simp only [pthsL, List.length_append, List.length_map, List.length_cons, lvs]; omega
end
theorem law_paths_ok {P : Prg} {f : Nat} (h : P f = some (F_law_paths f)) : ∀ (n : Nat) (T : Rt) (S : Sta) (Q X : K), Rg T → dpt T < n → dpt T ≤ 900 → lv T ≤ 100000 → (∀ p, S p = none → Q (.ref p) (ups S p (.lst (ptsD (pths T))))) → callW P n f [toD T] S Q X
  | 0, _, _, _, _, _, h, _, _, _ => absurd h (by omega)
  | n + 1, .one s, S, Q, X, ok, hd, hd2, hl, q => by
    refine callW_of h rfl ?_
    simp [F_law_paths, wB, wS, wE, wEs, wTg, toD]
    exact ⟨line4 (by decide), fun p hp => q1_of (q p hp)⟩
  | n + 1, .turns k ps, S, Q, X, ok, hd, hd2, hl, q => by
    obtain ⟨h1, h2, h3, h4⟩ := ok.len
    simp only [dpt] at hd hd2
    simp only [lv] at hl
    have hD : toD (.turns k ps) = .tup [.str (Str.ofString "turns"), .int k, .tup (toDs ps)] := rfl
    refine callW_of h rfl ?_
    simp [F_law_paths, wB, wS, wE, wEs, wIt, wTg, hD, toDs_len, place]
    refine ⟨line4 (by decide), fun p0 hp0 => ?_⟩
    refine wfor_nat _ (fun i ρ S' => (∃ p v2 v3 v4, ρ = [some (toD (.turns k ps)), some (.ref p), v2, v3, v4] ∧ S' p = some (.lst (ptsD ([] :: pthsL 0 (ps.take i)))) ∧ S p = none) ∧ Sub S S') ⟨⟨p0, none, none, none, rfl, ups_same, hp0⟩, Sub.new hp0⟩ (fun _ _ _ _ => held_nil) (fun i y ρ S' R hy hI hR => ?_) fun ρ S' hI => ?_
    · obtain ⟨⟨p, v2, v3, v4, rfl, ep, np⟩, sb⟩ := hI
      obtain ⟨t, ht, rfl⟩ := enum_toDs hy
      have dt := dpt_at ht
      have lt := lv_at ht
      have rt := h4 t (List.mem_of_getElem? ht)
      have pl := pths_len t rt
      try simp
      refine law_paths_ok h n t _ _ _ rt (by omega) (by omega) (by omega) fun p2 hp2 => ?_
      have sb2 := Sub.new (o := .lst (ptsD (pths t))) hp2
      simp
      refine wcomp_idx (ptsD ((pths t).map fun x => i :: x)) (by simp [ptsD]; omega) (by simp [ptsD]) (fun pr hpr => by simp at hpr; subst hpr; exact ups_same) (fun j x z R3 hx hz hR3 => ?_) fun p3 hp3 => ?_
      · unfold ptsD at hx hz
        rw [List.getElem?_map] at hx hz
        obtain ⟨u, hu, rfl⟩ := Option.map_eq_some_iff.mp hx
        rw [List.getElem?_map, hu] at hz
        simp at hz
        subst hz
        have hu3 := (pths_at t u (List.mem_of_getElem? hu)).choose_spec.2
        simp [pathD]
        exact ⟨line4 (by decide), line3 (by omega), hR3⟩
      · have sb3 := Sub.new (o := .lst (ptsD ((pths t).map fun x => i :: x))) hp3
        have hlen : (ps.take i).length = i := by rw [List.length_take]; have := (List.getElem?_eq_some_iff.mp ht).1; omega
        have e1 : ps.take (i + 1) = ps.take i ++ [t] := by rw [List.take_succ, ht]; rfl
        have tk := pthsL_len (ps.take i) 0 fun q hq => h4 q (List.mem_of_mem_take hq)
        have tl := lvs_take_le ps i
        rw [bin_addl (sb3 _ _ (sb2 _ _ ep)) ups_same]
        refine ⟨line3 (by simp [ptsD]; omega), fun p4 hp4 => ?_⟩
        refine hR _ _ ⟨⟨p4, _, _, _, rfl, ?_, sub_none sb (sub_none sb2 (sub_none sb3 hp4))⟩, ((sb.trans sb2).trans sb3).trans (Sub.new hp4)⟩
        rw [ups_same, e1, pthsL_app, hlen, Nat.zero_add]
        simp [ptsD, pthsL]
    · obtain ⟨⟨p, v2, v3, v4, rfl, ep, np⟩, sb⟩ := hI
      have hl2 : (enumF 0 (toDs ps)).length = ps.length := by rw [enumF_len, toDs_len]
      rw [hl2, List.take_length] at ep
      simp
      exact ⟨_, sb.ups_of ep, q p np⟩
end A
end
section
set_option Elab.async false
set_option linter.all false
set_option maxRecDepth 100000
set_option maxHeartbeats 2000000
/-! L04: parts and paths. -/
namespace A
open PySem L2
theorem eqN_ints {n : Nat} {S : Sta} : ∀ l : List Int, l.length < 16777216 → eqN (n + 2) S (.tup (l.map .int)) (.tup (l.map .int)) := fun l hl => by
  refine ⟨rfl, by simpa using hl, fun i x y hx hy => ?_⟩
  rw [hx] at hy
  cases hy
  rw [List.getElem?_map] at hx
  obtain ⟨a, _, rfl⟩ := Option.map_eq_some_iff.mp hx
  exact rfl
theorem pathD_is (r : List Nat) : pathD r = pthD (r.map fun (i : Nat) => (i : Int)) := by
  unfold pathD pthD
  rw [List.map_map]
  rfl
theorem ok_at : ∀ (is : List Int) (T U : Rt), RtOk T → atR is T = some U → RtOk U ∧ dpt U ≤ dpt T
  | [], T, U, h, e => by simp only [atR] at e; cases e; exact ⟨h, Nat.le_refl _⟩
  | i :: r, .one s, U, h, e => by simp only [atR] at e; cases e
  | i :: r, .turns k ps, U, h, e => by
    simp only [atR] at e
    split at e
    · split at e
      · rename_i p hp
        obtain ⟨a, b⟩ := ok_at r p U (oks_mem.mp h.2.2.2 p (List.mem_of_getElem? hp)) e
        have := dpt_at hp
        exact ⟨a, by simp only [dpt]; omega⟩
      · cases e
    · cases e
def gNm (s : Str) : D → Option D
  | .tup [.str y, z] => if y == s then some z else none
  | _ => none
theorem gNm_all (s : Str) : ∀ l : List (Str × List Nat), (lvD l).filterMap (gNm s) = (l.filter fun x => x.1 == s).map fun x => pathD x.2
  | [] => rfl
  | a :: r => by
    have ih := gNm_all s r
    unfold lvD at ih ⊢
    rw [List.map_cons, List.filterMap_cons, List.filter_cons, ih]
    simp only [gNm]
    by_cases ha : (a.1 == s) = true
    · simp only [ha, if_true, List.map_cons]
    · simp only [ha, Bool.false_eq_true, if_false]
theorem law04_ok {P : Prg} (h_depth : P 0 = some (F_depth 0)) (h_leaves : P 1 = some (F_leaves 1)) (h_walk : P 2 = some (F_walk 2)) (h_all_paths : P 3 = some (F_all_paths 2)) (h_holders : P 4 = some (F_holders 3)) (h_paths_of : P 5 = some (F_paths_of 3)) (h_part_at : P 6 = some F_part_at) (h_law_box : P 7 = some F_law_box) (h_law_take : P 8 = some F_law_take) (h_law_same : P 9 = some (F_law_same 9)) (h_law_names : P 10 = some (F_law_names 8)) (h_law_tree : P 11 = some (F_law_tree 8 11)) (h_law_right : P 12 = some (F_law_right 8 11)) (h_law_pool : P 13 = some (F_law_pool 10 8)) (h_law_leaves : P 14 = some (F_law_leaves 14)) (h_law_deep : P 15 = some (F_law_deep 15)) (h_law_holders : P 16 = some (F_law_holders 14)) (h_law_at : P 17 = some F_law_at) (h_law_paths : P 18 = some (F_law_paths 18)) (h_law_absent : P 19 = some F_law_absent) (h_law_missing : P 20 = some (F_law_missing 6)) (h_law : P 21 = some (F_law_k04 7 13 12 14 9 0 1 15 4 16 19 5 18 6 17 8 20))
    (ns : List Int) (hl : ns.length ≤ 63) : callW P 20 21 [.lis (ns.map .int)] (fun _ => none) (fun d _ => d = .bl true) (fun _ _ => False) := by
  refine callW_of h_law rfl ?_
  simp (config := {maxSteps := 2000000}) [F_law_k04, wB, wS, wE, wEs, wIt, wTg, place, placeL, Es.len]
  refine box_ok h_law_box fun b S1 b1 k1 => ?_
  refine pool_ok h_law_take h_law_names h_law_pool b1 fun p ws S2 np ep w0 w1 hw b2 k2 => ?_
  refine wfor_nat _ (fun _ ρ S => (∃ v3 v4 v5 v6 v7 v8 v9, ρ = [some (.lis (ns.map .int)), some (.ref b), some (.ref p), v3, v4, v5, v6, v7, v8, v9]) ∧ Box b S ∧ S p = some (.lst (ws.map D.str))) ⟨⟨_, _, _, _, _, _, _, rfl⟩, b2, ep⟩ (fun _ _ _ _ => held_nil) (fun i x ρ S R hx hI hR => ?_) fun ρ S hI => q1_of rfl
  obtain ⟨⟨v3, v4, v5, v6, v7, v8, v9, rfl⟩, b3, e3⟩ := hI
  try simp
  refine right_ok (n := 13) h_law_take h_law_tree h_law_right w0 w1 hw np b3 e3 fun T S3 ok hd hv b4 k4 => ?_
  have rg := ok_rg T ok
  have ep4 := k4 _ _ np e3
  try simp
  have e0 : D.tup [] = pathD [] := rfl
  rw [e0]
  refine leavesL_ok h_law_leaves 19 T [] _ _ _ rg (by omega) (by omega) (by simp; omega) fun w hw4 => ?_
  have sb1 := Sub.new (o := .lst (lvD (lvR T []))) hw4
  have ew := ups_same (S := S3) (a := w) (o := .lst (lvD (lvR T [])))
  have nwb : w ≠ b := b4.at hw4
  have b5 := b4.sub sb1
  have ep5 := sb1 _ _ ep4
  generalize ups S3 w _ = S4 at ew b5 ep5 ⊢
  have hle : (lvD (lvR T [])).length = lv T := by rw [lvD_len, lvR_len]
  try simp
  refine depth_ok h_depth 19 T _ _ _ rg (by omega) ?_
  try simp
  refine leaves_ok2 h_leaves 19 T _ _ _ rg (by omega) ?_
  refine ⟨line4 (by decide), fun t1 ht1 => ?_⟩
  have sb2 := Sub.new (o := .lst [.int (dpt T : Nat), .int (lv T : Nat)]) ht1
  refine deep_ok h_law_deep 19 T _ _ _ rg (by omega) ?_
  simp [sb2 _ _ ew, hle]
  refine ⟨line4 (by decide), fun t2 ht2 => ?_⟩
  have sb3 := Sub.new (o := .lst [.int (dpt T : Nat), .int (lv T : Nat)]) ht2
  refine same_lst h_law_same (n := 18) (sb3 _ _ ups_same) ups_same rfl (by simp) (fun z hz => by
    rcases List.mem_cons.mp hz with rfl | hz
    · exact rfl
    · rcases List.mem_cons.mp hz with rfl | hz
      · exact rfl
      · cases hz) ?_
  have sbA := sb2.trans sb3
  have b6 := b5.sub sbA
  have ep6 := sbA _ _ ep5
  have ew6 := sbA _ _ ew
  generalize ups (ups S4 t1 _) t2 _ = S5 at b6 ep6 ew6 ⊢
  try simp
  have hn := nms_lv T
  refine holders_ok h_holders h_all_paths h_walk 17 T rg (by omega) (by omega) (by omega) _ _ _ fun q1 hq1 => ?_
  have sb4 := Sub.new (o := .lst (strD (ddup (nms T)))) hq1
  refine holdersL_ok h_law_holders h_law_leaves 18 T rg (by omega) (by omega) (by omega) _ _ _ fun q2 hq2 => ?_
  have sb5 := Sub.new (o := .lst (strD (ddup (nms T)))) hq2
  refine same_lst h_law_same (n := 18) (sb5 _ _ ups_same) ups_same rfl (by simp [strD]; omega) strD_mem ?_
  have sbB := sb4.trans sb5
  have b7 := b6.sub sbB
  have ep7 := sbB _ _ ep6
  have ew7 := sbB _ _ ew6
  generalize ups (ups S5 q1 _) q2 _ = S6 at b7 ep7 ew7 ⊢
  try simp
  refine absent_ok h_law_absent 18 p ws w0 w1 hw _ _ _ ep7 fun u hu => ?_
  refine ⟨line3 (by decide), fun q6 hq6 => ?_⟩
  have sb7 := Sub.new (o := .lst [.str u]) hq6
  rw [bin_addl (xs := ws.map D.str) (ys := [.str u]) (sb7 _ _ ep7) ups_same]
  refine ⟨line3 (by simp; omega), fun q7 hq7 => ?_⟩
  have sb8 := Sub.new (o := .lst (ws.map D.str ++ [.str u])) hq7
  have hu2 : ws.map D.str ++ [.str u] = strD (ws ++ [u]) := by simp [strD]
  have sb78 := sb7.trans sb8
  have eq7 := ups_same (S := ups S6 q6 (.lst [.str u])) (a := q7) (o := .lst (ws.map D.str ++ [.str u]))
  rw [hu2] at sb78 eq7 ⊢
  have b8 := b7.sub sb78
  have ep8 := sb78 _ _ ep7
  have ew8 := sb78 _ _ ew7
  generalize ups (ups S6 q6 _) q7 _ = S7 at b8 ep8 ew8 eq7 ⊢
  simp [eq7]
  refine wfor_nat _ (fun i ρ S => (∃ v6 v7 v8 v9, ρ = [some (.lis (ns.map .int)), some (.ref b), some (.ref p), some x, some (toD T), some (.ref w), v6, v7, v8, v9]) ∧ Sub S7 S) ⟨⟨_, _, _, _, rfl⟩, Sub.refl _⟩ (fun i ρ S' hI pr hpr => by
    simp at hpr; subst hpr; exact hI.2 _ _ eq7) (fun j y ρ S R2 hy hI hR2 => ?_) fun ρ S hI => ?_
  · obtain ⟨⟨v6, v7, v8, v9, rfl⟩, sbs⟩ := hI
    unfold strD at hy
    rw [List.getElem?_map] at hy
    obtain ⟨s, hs, rfl⟩ := Option.map_eq_some_iff.mp hy
    have ew9 := sbs _ _ ew8
    try simp
    refine paths_of_ok h_paths_of h_all_paths h_walk 17 T rg (by omega) (by omega) (by omega) s _ _ _ fun q8 hq8 => ?_
    have sb9 := Sub.new (o := .lst (((lvR T []).filter fun x => x.1 == s).map fun x => pathD x.2)) hq8
    simp [sb9 _ _ ew9]
    refine wcomp_fil (gNm s) (by rw [hle]; omega) (fun pr hpr => by simp at hpr; subst hpr; exact sb9 _ _ ew9) (fun j y R hx hR => ?_) fun q9 hq9 => ?_
    · unfold lvD at hx
      rw [List.getElem?_map] at hx
      obtain ⟨v, hv, rfl⟩ := Option.map_eq_some_iff.mp hx
      simp only [gNm] at hR
      simp
      by_cases hs : v.1 = s
      · simp [hs] at hR ⊢
        exact hR
      · simp [hs] at hR ⊢
        exact hR
    · rw [gNm_all]
      have sb10 := Sub.new (o := .lst (((lvR T []).filter fun x => x.1 == s).map fun x => pathD x.2)) hq9
      have hfl := List.length_filter_le (fun x : Str × List Nat => x.1 == s) (lvR T [])
      rw [lvR_len] at hfl
      refine same_lst h_law_same (n := 18) (sb10 _ _ ups_same) ups_same rfl (by simp; omega) (fun z hz => ?_) ?_
      · obtain ⟨v, hv, rfl⟩ := List.mem_map.mp hz
        obtain ⟨r', e, hr⟩ := pathAt_lv T [] v.1 v.2 (List.mem_filter.mp hv).1
        have hlen := pathAt_len _ _ hr
        rw [List.nil_append] at e
        rw [pathD_is, e]
        exact eqN_ints _ (by simp; omega)
      · try simp
        exact hR2 _ _ ⟨⟨_, _, _, _, rfl⟩, (sbs.trans sb9).trans sb10⟩
  · obtain ⟨⟨v6, v7, v8, v9, rfl⟩, sbs⟩ := hI
    have b9 := b8.sub sbs
    have ep9 := sbs _ _ ep8
    try simp
    refine law_paths_ok h_law_paths 19 T _ _ _ rg (by omega) (by omega) (by omega) fun q8 hq8 => ?_
    have sb9 := Sub.new (o := .lst (ptsD (pths T))) hq8
    have eq8 := ups_same (S := S) (a := q8) (o := .lst (ptsD (pths T)))
    have nqb : q8 ≠ b := b9.at hq8
    have b10 := b9.sub sb9
    have ep10 := sb9 _ _ ep9
    generalize ups S q8 _ = S8 at b10 ep10 eq8 ⊢
    simp [eq8]
    refine wfor_nat _ (fun i ρ S => (∃ v6 v7 v8 v9, ρ = [some (.lis (ns.map .int)), some (.ref b), some (.ref p), some x, some (toD T), some (.ref w), v6, v7, v8, v9]) ∧ Box b S ∧ S p = some (.lst (ws.map D.str)) ∧ S q8 = some (.lst (ptsD (pths T)))) ⟨⟨_, _, _, _, rfl⟩, b10, ep10, eq8⟩ (fun i ρ S' hI pr hpr => by
      simp at hpr; subst hpr; exact hI.2.2.2) (fun j y ρ S R2 hy hI hR2 => ?_) fun ρ S hI => ?_
    · obtain ⟨⟨v6, v7, v8, v9, rfl⟩, b11, ep11, eq11⟩ := hI
      unfold ptsD at hy
      rw [List.getElem?_map] at hy
      obtain ⟨r, hr, rfl⟩ := Option.map_eq_some_iff.mp hy
      obtain ⟨U, eU, hrl⟩ := pths_at T r (List.mem_of_getElem? hr)
      obtain ⟨okU, dU⟩ := ok_at _ _ _ ok eU
      rw [pathD_is]
      try simp
      refine part_at_ok h_part_at 18 T rg _ (by simp; omega) _ _ _ (fun V eV => ?_) fun eV => by rw [eU] at eV; cases eV
      rw [eU] at eV
      cases eV
      refine law_at_ok h_law_at 18 T rg _ (by simp; omega) _ _ _ ?_
      rw [eU]
      simp [optT]
      refine same_T h_law_same (n := 19) okU (by omega) ?_
      simp [pthD]
      refine ⟨powC _ _ (by decide) (by decide) (by decide) (by decide), line4 (by decide), fun q9 hq9 => ?_⟩
      have sb10 := Sub.new (o := .lst [.int (-1), .int 5, .int 100000000000000000000, .int 0]) hq9
      have n9 := b11.at hq9
      refine take_ok h_law_take (b11.nw hq9) (by decide) (by decide) fun m S9 m0 m1 b12 k12 => ?_
      obtain ⟨m, rfl⟩ := Int.eq_ofNat_of_zero_le m0
      have e9 := k12 _ _ n9 ups_same
      have ep12 := k12 _ _ np (sb10 _ _ ep11)
      have eq12 := k12 _ _ nqb (sb10 _ _ eq11)
      obtain ⟨z, hz⟩ : ∃ z : Int, L2.atI [D.int (-1), .int 5, .int 100000000000000000000, .int 0] (m : Int) = some (.int z) := by
        have hm : m < 4 := by omega
        match m, hm with
        | 0, _ => exact ⟨_, rfl⟩
        | 1, _ => exact ⟨_, rfl⟩
        | 2, _ => exact ⟨_, rfl⟩
        | 3, _ => exact ⟨_, rfl⟩
      simp [ixO, e9, hz]
      refine ⟨line4 (by decide), line4 (by omega), ?_⟩
      have ep : D.tup (List.map (D.int ∘ fun (i : Nat) => (i : Int)) r ++ [D.int z]) = pthD ((r.map fun (i : Nat) => (i : Int)) ++ [z]) := by simp [pthD]
      rw [ep]
      refine law_at_ok h_law_at 18 T rg _ (by simp; omega) _ _ _ ?_
      cases hat : atR ((r.map fun (i : Nat) => (i : Int)) ++ [z]) T with
      | some V =>
        have fin : R2 [some (.lis (ns.map .int)), some (.ref b), some (.ref p), some x, some (toD T), some (.ref w), v6, v7, some (pthD (r.map fun (i : Nat) => (i : Int))), some (pthD ((r.map fun (i : Nat) => (i : Int)) ++ [z]))] S9 := hR2 _ _ ⟨⟨_, _, _, _, rfl⟩, b12, ep12, eq12⟩
        cases V with
        | one s => simp [optT, toD]; simpa [pthD] using fin
        | turns k ps => simp [optT, toD]; simpa [pthD] using fin
      | none =>
        simp [optT]
        refine missing_ok h_law_missing h_part_at 17 T rg _ (by simp; omega) hat _ _ _ fun q10 hq10 => ?_
        have sb11 := Sub.new (o := .lst [.bl true, .bl false, pthD ((r.map fun (i : Nat) => (i : Int)) ++ [z])]) hq10
        refine ⟨line4 (by decide), fun q11 hq11 => ?_⟩
        have sb12 := Sub.new (o := .lst [.bl true, .bl false, pthD ((r.map fun (i : Nat) => (i : Int)) ++ [z])]) hq11
        refine same_lst h_law_same (n := 18) (sb12 _ _ ups_same) ups_same rfl (by simp) (fun y hy => ?_) ?_
        · rcases List.mem_cons.mp hy with rfl | hy
          · exact rfl
          · rcases List.mem_cons.mp hy with rfl | hy
            · exact rfl
            · rcases List.mem_cons.mp hy with rfl | hy
              · exact eqN_ints _ (by simp; omega)
              · cases hy
        · have sbZ := sb11.trans sb12
          have fin := hR2 [some (.lis (ns.map .int)), some (.ref b), some (.ref p), some x, some (toD T), some (.ref w), v6, v7, some (pthD (r.map fun (i : Nat) => (i : Int))), some (pthD ((r.map fun (i : Nat) => (i : Int)) ++ [z]))] _ ⟨⟨_, _, _, _, rfl⟩, b12.sub sbZ, sbZ _ _ ep12, sbZ _ _ eq12⟩
          simpa [pthD] using fin
    · obtain ⟨⟨v6, v7, v8, v9, rfl⟩, b11, ep11, eq11⟩ := hI
      exact hR _ _ ⟨⟨_, _, _, _, _, _, _, rfl⟩, b11, ep11⟩
end A
end
section
set_option Elab.async false
set_option linter.all false
set_option maxRecDepth 100000
set_option maxHeartbeats 0
/-! The program of law_k04_parts_and_paths in the small language (printed by gen.py). -/
namespace K04
open PySem L2 A
/-- depth(right): right=0 part=1 -/
def f0 : Fn := ⟨2, 1,
    (.cons (.ite (.cmp .eq (.ix (.v 0) (.c (.int 0))) (.c (.str "one")))
    (.cons (.ret (.c (.int 1)))
    .nil)
    .nil)
    (.cons (.ret (.bin .add (.c (.int 1)) (.b1 .max (.lc (.call 0 (.app []) (.cons (.v 1) .nil)) [1] [1] (.seq (.ix (.v 0) (.c (.int 2)))) (.c (.bl true))))))
    .nil))⟩
/-- leaves(right): right=0 part=1 -/
def f1 : Fn := ⟨2, 1,
    (.cons (.ite (.cmp .eq (.ix (.v 0) (.c (.int 0))) (.c (.str "one")))
    (.cons (.ret (.c (.int 1)))
    .nil)
    .nil)
    (.cons (.ret (.b1 .sum (.lc (.call 1 (.app []) (.cons (.v 1) .nil)) [1] [1] (.seq (.ix (.v 0) (.c (.int 2)))) (.c (.bl true)))))
    .nil))⟩
/-- walk(right, path, found): right=0 path=1 found=2 at=3 part=4 -/
def f2 : Fn := ⟨5, 3,
    (.cons (.ite (.cmp .eq (.ix (.v 0) (.c (.int 0))) (.c (.str "one")))
    (.cons (.ex (.bm .append (.v 2) (.cons (.tup (.cons (.ix (.v 0) (.c (.int 1))) (.cons (.v 1) .nil))) .nil)))
    .nil)
    (.cons (.for_ (.n [3, 4]) (.enm (.ix (.v 0) (.c (.int 2))) 0)
    (.cons (.ex (.call 2 (.app []) (.cons (.v 4) (.cons (.bin .add (.v 1) (.tup (.cons (.v 3) .nil))) (.cons (.v 2) .nil)))))
    .nil))
    .nil))
    .nil)⟩
/-- all_paths(right): right=0 found=1 -/
def f3 : Fn := ⟨2, 1,
    (.cons (.asg (.n [1]) (.lst .nil))
    (.cons (.ex (.call 2 (.app []) (.cons (.v 0) (.cons (.tup .nil) (.cons (.v 1) .nil)))))
    (.cons (.ret (.v 1))
    .nil)))⟩
/-- holders(right): right=0 name=1 path=2 -/
def f4 : Fn := ⟨3, 1,
    (.cons (.ret (.b1 .list (.b1 .dict (.lc (.tup (.cons (.v 1) (.cons (.c (.bl true)) .nil))) [1, 2] [1, 2] (.seq (.call 3 (.app []) (.cons (.v 0) .nil))) (.c (.bl true))))))
    .nil)⟩
/-- paths_of(right, name): right=0 name=1 holder=2 path=3 -/
def f5 : Fn := ⟨4, 2,
    (.cons (.ret (.lc (.v 3) [2, 3] [2, 3] (.seq (.call 3 (.app []) (.cons (.v 0) .nil))) (.cmp .eq (.v 2) (.v 1))))
    .nil)⟩
/-- part_at(right, path): right=0 path=1 part=2 at=3 -/
def f6 : Fn := ⟨4, 2,
    (.cons (.asg (.n [2]) (.v 0))
    (.cons (.for_ (.n [3]) (.seq (.v 1))
    (.cons (.ite (.or (.cmp .eq (.ix (.v 2) (.c (.int 0))) (.c (.str "one"))) (.not (.chn (.c (.int 0)) .le (.v 3) .lt (.b1 .len (.ix (.v 2) (.c (.int 2)))))))
    (.cons (.raise 23 [0, 3] [.inr (.str "NoPart"), .inl 0] (.cons (.v 1) .nil) false)
    .nil)
    .nil)
    (.cons (.asg (.n [2]) (.ix (.ix (.v 2) (.c (.int 2))) (.v 3)))
    .nil)))
    (.cons (.ret (.v 2))
    .nil)))⟩
/-- _law_box(_law_script): _law_script=0 -/
def f7 : Fn := ⟨1, 1,
    (.cons (.ret (.lst (.cons (.b1 .list (.sl (.v 0) .nil (.c (.int 63)))) (.cons (.c (.int 0)) (.cons (.c (.int 0)) (.cons (.c (.int 17)) .nil))))))
    .nil)⟩
/-- _law_take(_law_box_here, _law_sides): _law_box_here=0 _law_sides=1 _law_rest=2 _law_cell=3 _law_seed=4 -/
def f8 : Fn := ⟨5, 2,
    (.cons (.ite (.cmp .gt (.ix (.v 0) (.c (.int 2))) (.c (.int 0)))
    (.cons (.asg (.n [2]) (.ix (.v 0) (.c (.int 2))))
    (.cons (.asg (.ix (.v 0) (.c (.int 2))) (.bin .div (.v 2) (.v 1)))
    (.cons (.ret (.bin .mod (.v 2) (.v 1)))
    .nil)))
    .nil)
    (.cons (.asg (.n [3]) (.c (.int 0)))
    (.cons (.ite (.cmp .lt (.ix (.v 0) (.c (.int 1))) (.b1 .len (.ix (.v 0) (.c (.int 0)))))
    (.cons (.asg (.n [3]) (.ix (.ix (.v 0) (.c (.int 0))) (.ix (.v 0) (.c (.int 1)))))
    (.cons (.augI .add (.v 0) (.c (.int 1)) (.c (.int 1)))
    .nil))
    .nil)
    (.cons (.ite (.cmp .ge (.v 3) (.bin .pow (.c (.int 10)) (.c (.int 18))))
    (.cons (.asg (.ix (.v 0) (.c (.int 2))) (.bin .div (.v 3) (.v 1)))
    (.cons (.ret (.bin .mod (.v 3) (.v 1)))
    .nil))
    .nil)
    (.cons (.asg (.n [4]) (.ix (.v 0) (.c (.int 3))))
    (.cons (.asg (.n [4]) (.bin .add (.bin .add (.bin .pow (.v 4) (.c (.int 3))) (.bin .mul (.c (.int 48271)) (.v 4))) (.bin .mul (.c (.int 69621)) (.bin .mod (.v 3) (.c (.int 2147483629))))))
    (.cons (.asg (.ix (.v 0) (.c (.int 3))) (.bin .mod (.bin .add (.v 4) (.c (.int 11))) (.c (.int 2147483629))))
    (.cons (.ret (.bin .mod (.bin .div (.ix (.v 0) (.c (.int 3))) (.c (.int 64))) (.v 1)))
    .nil))))))))⟩
/-- _law_same(_law_found, _law_want): _law_found=0 _law_want=1 _law_one=2 _law_other=3 -/
def f9 : Fn := ⟨4, 2,
    (.cons (.ite (.or (.isi (.v 1) [.list]) (.isi (.v 1) [.tuple]))
    (.cons (.ite (.or (.cmp .ne (.isi (.v 0) [.list]) (.isi (.v 1) [.list])) (.cmp .ne (.isi (.v 0) [.tuple]) (.isi (.v 1) [.tuple])))
    (.cons (.ret (.c (.bl false)))
    .nil)
    .nil)
    (.cons (.ret (.and (.cmp .eq (.b1 .len (.v 0)) (.b1 .len (.v 1))) (.b1 .all (.lc (.call 9 (.app []) (.cons (.v 2) (.cons (.v 3) .nil))) [2, 3] [2, 3] (.zip (.v 0) (.v 1) false) (.c (.bl true))))))
    .nil))
    .nil)
    (.cons (.ite (.or (.cmp .is (.v 0) (.c (.non))) (.cmp .is (.v 1) (.c (.non))))
    (.cons (.ret (.and (.cmp .is (.v 0) (.c (.non))) (.cmp .is (.v 1) (.c (.non)))))
    .nil)
    .nil)
    (.cons (.ite (.or (.cmp .ne (.isi (.v 0) [.bool]) (.isi (.v 1) [.bool])) (.cmp .ne (.isi (.v 0) [.int]) (.isi (.v 1) [.int])))
    (.cons (.ret (.c (.bl false)))
    .nil)
    .nil)
    (.cons (.ret (.and (.cmp .eq (.isi (.v 0) [.str]) (.isi (.v 1) [.str])) (.cmp .eq (.v 0) (.v 1))))
    .nil))))⟩
/-- _law_names(_law_box_here, _law_sides): _law_box_here=0 _law_sides=1 _law_letters=2 _law_first=3 _law_k=4 _law_at_here=5 _law_folk=6 _law_pairs=7 -/
def f10 : Fn := ⟨8, 2,
    (.cons (.asg (.n [2]) (.c (.str "abcdefghijklmnopqrstuvwxyz")))
    (.cons (.asg (.n [3]) (.bm .join (.c (.str "")) (.cons (.lc (.ix (.v 2) (.call 8 (.app []) (.cons (.v 0) (.cons (.c (.int 26)) .nil)))) [4] [4] (.rng (.call 8 (.app []) (.cons (.v 0) (.cons (.c (.int 8)) .nil)))) (.c (.bl true))) .nil)))
    (.cons (.asg (.n [5]) (.call 8 (.app []) (.cons (.v 0) (.cons (.c (.int 26)) .nil))))
    (.cons (.asg (.n [6]) (.lc (.bin .add (.v 3) (.ix (.v 2) (.bin .mod (.bin .add (.v 5) (.bin .mul (.c (.int 11)) (.v 4))) (.c (.int 26))))) [4] [4] (.rng (.v 1)) (.c (.bl true))))
    (.cons (.asg (.n [7]) (.lc (.bin .add (.sl (.ix (.v 6) (.bin .sub (.v 4) (.bin .mod (.v 4) (.c (.int 2))))) (.neg (.c (.int 7))) .nil) (.ix (.lst (.cons (.c (.str "")) (.cons (.c (.str "b")) .nil))) (.bin .mod (.v 4) (.c (.int 2))))) [4] [4] (.rng (.v 1)) (.c (.bl true))))
    (.cons (.ret (.ix (.lst (.cons (.v 6) (.cons (.v 7) .nil))) (.bin .div (.call 8 (.app []) (.cons (.v 0) (.cons (.c (.int 3)) .nil))) (.c (.int 2)))))
    .nil))))))⟩
/-- _law_tree(_law_box_here, _law_deep_here, _law_pool_here, _law_room): _law_box_here=0 _law_deep_here=1 _law_pool_here=2 _law_room=3 _law_size=4 _law_parts=5 _law_k=6 -/
def f11 : Fn := ⟨7, 4,
    (.cons (.asg (.n [4]) (.bin .add (.c (.int 2)) (.call 8 (.app []) (.cons (.v 0) (.cons (.c (.int 4)) .nil)))))
    (.cons (.ite (.or (.cmp .eq (.v 1) (.c (.int 1))) (.or (.cmp .lt (.ix (.v 3) (.c (.int 0))) (.bin .sub (.v 4) (.c (.int 1)))) (.cmp .lt (.call 8 (.app []) (.cons (.v 0) (.cons (.c (.int 5)) .nil))) (.c (.int 2)))))
    (.cons (.ret (.tup (.cons (.c (.str "one")) (.cons (.ix (.v 2) (.call 8 (.app []) (.cons (.v 0) (.cons (.b1 .len (.v 2)) .nil)))) .nil))))
    .nil)
    .nil)
    (.cons (.augI .sub (.v 3) (.c (.int 0)) (.bin .sub (.v 4) (.c (.int 1))))
    (.cons (.asg (.n [5]) (.b1 .tuple (.lc (.call 11 (.app []) (.cons (.v 0) (.cons (.bin .sub (.v 1) (.c (.int 1))) (.cons (.v 2) (.cons (.v 3) .nil))))) [6] [6] (.rng (.v 4)) (.c (.bl true)))))
    (.cons (.ret (.tup (.cons (.c (.str "turns")) (.cons (.call 8 (.app []) (.cons (.v 0) (.cons (.v 4) .nil))) (.cons (.v 5) .nil)))))
    .nil)))))⟩
/-- _law_right(_law_box_here, _law_pool_here): _law_box_here=0 _law_pool_here=1 _law_deep_here=2 _law_size=3 _law_room=4 _law_parts=5 _law_k=6 -/
def f12 : Fn := ⟨7, 2,
    (.cons (.asg (.n [2]) (.call 8 (.app []) (.cons (.v 0) (.cons (.c (.int 4)) .nil))))
    (.cons (.ite (.cmp .eq (.v 2) (.c (.int 0)))
    (.cons (.ret (.call 11 (.app []) (.cons (.v 0) (.cons (.c (.int 4)) (.cons (.v 1) (.cons (.lst (.cons (.c (.int 23)) .nil)) .nil))))))
    .nil)
    .nil)
    (.cons (.asg (.n [3]) (.bin .add (.c (.int 2)) (.call 8 (.app []) (.cons (.v 0) (.cons (.c (.int 4)) .nil)))))
    (.cons (.asg (.n [4]) (.lst (.cons (.bin .sub (.c (.int 24)) (.v 3)) .nil)))
    (.cons (.asg (.n [5]) (.b1 .tuple (.lc (.call 11 (.app []) (.cons (.v 0) (.cons (.v 2) (.cons (.v 1) (.cons (.v 4) .nil))))) [6] [6] (.rng (.v 3)) (.c (.bl true)))))
    (.cons (.ret (.tup (.cons (.c (.str "turns")) (.cons (.call 8 (.app []) (.cons (.v 0) (.cons (.v 3) .nil))) (.cons (.v 5) .nil)))))
    .nil))))))⟩
/-- _law_pool(_law_box_here): _law_box_here=0 -/
def f13 : Fn := ⟨1, 1,
    (.cons (.ret (.sl (.call 10 (.app []) (.cons (.v 0) (.cons (.c (.int 7)) .nil))) .nil (.bin .add (.c (.int 1)) (.call 8 (.app []) (.cons (.v 0) (.cons (.c (.int 7)) .nil))))))
    .nil)⟩
/-- _law_leaves(_law_tree_here, _law_road): _law_tree_here=0 _law_road=1 _law_found=2 _law_at_here=3 _law_part=4 -/
def f14 : Fn := ⟨5, 2,
    (.cons (.ite (.cmp .eq (.ix (.v 0) (.c (.int 0))) (.c (.str "one")))
    (.cons (.ret (.lst (.cons (.tup (.cons (.ix (.v 0) (.c (.int 1))) (.cons (.v 1) .nil))) .nil)))
    .nil)
    .nil)
    (.cons (.asg (.n [2]) (.lst .nil))
    (.cons (.for_ (.n [3, 4]) (.enm (.ix (.v 0) (.c (.int 2))) 0)
    (.cons (.asg (.n [2]) (.bin .add (.v 2) (.call 14 (.app []) (.cons (.v 4) (.cons (.bin .add (.v 1) (.tup (.cons (.v 3) .nil))) .nil)))))
    .nil))
    (.cons (.ret (.v 2))
    .nil))))⟩
/-- _law_deep(_law_tree_here): _law_tree_here=0 _law_part=1 -/
def f15 : Fn := ⟨2, 1,
    (.cons (.ite (.cmp .eq (.ix (.v 0) (.c (.int 0))) (.c (.str "one")))
    (.cons (.ret (.c (.int 1)))
    .nil)
    .nil)
    (.cons (.ret (.bin .add (.c (.int 1)) (.b1 .max (.lc (.call 15 (.app []) (.cons (.v 1) .nil)) [1] [1] (.seq (.ix (.v 0) (.c (.int 2)))) (.c (.bl true))))))
    .nil))⟩
/-- _law_holders(_law_tree_here): _law_tree_here=0 _law_found=1 _law_whose=2 _law_road=3 -/
def f16 : Fn := ⟨4, 1,
    (.cons (.asg (.n [1]) (.lst .nil))
    (.cons (.for_ (.n [2, 3]) (.seq (.call 14 (.app []) (.cons (.v 0) (.cons (.tup .nil) .nil))))
    (.cons (.ite (.cmp .nin (.v 2) (.v 1))
    (.cons (.ex (.bm .append (.v 1) (.cons (.v 2) .nil)))
    .nil)
    .nil)
    .nil))
    (.cons (.ret (.v 1))
    .nil)))⟩
/-- _law_at(_law_tree_here, _law_road): _law_tree_here=0 _law_road=1 _law_at_here=2 -/
def f17 : Fn := ⟨3, 2,
    (.cons (.for_ (.n [2]) (.seq (.v 1))
    (.cons (.ite (.or (.cmp .eq (.ix (.v 0) (.c (.int 0))) (.c (.str "one"))) (.not (.chn (.c (.int 0)) .le (.v 2) .lt (.b1 .len (.ix (.v 0) (.c (.int 2)))))))
    (.cons (.ret (.c (.non)))
    .nil)
    .nil)
    (.cons (.asg (.n [0]) (.ix (.ix (.v 0) (.c (.int 2))) (.v 2)))
    .nil)))
    (.cons (.ret (.v 0))
    .nil))⟩
/-- _law_paths(_law_tree_here): _law_tree_here=0 _law_found=1 _law_at_here=2 _law_part=3 _law_road=4 -/
def f18 : Fn := ⟨5, 1,
    (.cons (.asg (.n [1]) (.lst (.cons (.tup .nil) .nil)))
    (.cons (.ite (.cmp .eq (.ix (.v 0) (.c (.int 0))) (.c (.str "turns")))
    (.cons (.for_ (.n [2, 3]) (.enm (.ix (.v 0) (.c (.int 2))) 0)
    (.cons (.asg (.n [1]) (.bin .add (.v 1) (.lc (.bin .add (.tup (.cons (.v 2) .nil)) (.v 4)) [4] [4] (.seq (.call 18 (.app []) (.cons (.v 3) .nil))) (.c (.bl true)))))
    .nil))
    .nil)
    .nil)
    (.cons (.ret (.v 1))
    .nil)))⟩
/-- _law_absent(_law_pool_here): _law_pool_here=0 _law_letters=1 _law_sign=2 -/
def f19 : Fn := ⟨3, 1,
    (.cons (.asg (.n [1]) (.c (.str "abcdefghijklmnopqrstuvwxyz")))
    (.cons (.ret (.ix (.lc (.bin .add (.sl (.ix (.v 0) (.c (.int 0))) .nil (.neg (.c (.int 1)))) (.v 2)) [2] [2] (.seq (.v 1)) (.cmp .nin (.bin .add (.sl (.ix (.v 0) (.c (.int 0))) .nil (.neg (.c (.int 1)))) (.v 2)) (.v 0))) (.c (.int 0))))
    .nil))⟩
/-- _law_missing(_law_right_here, _law_path): _law_right_here=0 _law_path=1 _law_found=2 e=3 -/
def f20 : Fn := ⟨4, 2,
    (.cons (.asg (.n [2]) (.c (.non)))
    (.cons (.try_ (.cons (.ex (.call 6 (.app []) (.cons (.v 0) (.cons (.v 1) .nil))))
    .nil)
    (.cons [(1, true), (19, true), (23, true)] (some 3)
    (.cons (.asg (.n [2]) (.lst (.cons (.xis 3 [(1, false), (19, false), (23, true)]) (.cons (.xis 3 [(1, false), (19, true), (23, false)]) .nil))))
    (.cons (.ite (.xis 3 [(1, false), (19, false), (23, true)])
    (.cons (.ex (.bm .append (.v 2) (.cons (.xfl 3 3) .nil)))
    .nil)
    .nil)
    .nil))
    .nil))
    (.cons (.ret (.v 2))
    .nil)))⟩
/-- law(_law_script): _law_script=0 _law_box_here=1 _law_pool_here=2 _law_k=3 _law_right_here=4 _law_every=5 _law_name=6 _law_holder=7 _law_path=8 _law_wrong=9 -/
def f21 : Fn := ⟨10, 1,
    (.cons (.asg (.n [1]) (.call 7 (.app []) (.cons (.v 0) .nil)))
    (.cons (.asg (.n [2]) (.call 13 (.app []) (.cons (.v 1) .nil)))
    (.cons (.for_ (.n [3]) (.rng (.c (.int 3)))
    (.cons (.asg (.n [4]) (.call 12 (.app []) (.cons (.v 1) (.cons (.v 2) .nil))))
    (.cons (.asg (.n [5]) (.call 14 (.app []) (.cons (.v 4) (.cons (.tup .nil) .nil))))
    (.cons (.ite (.not (.call 9 (.app []) (.cons (.lst (.cons (.call 0 (.app []) (.cons (.v 4) .nil)) (.cons (.call 1 (.app []) (.cons (.v 4) .nil)) .nil))) (.cons (.lst (.cons (.call 15 (.app []) (.cons (.v 4) .nil)) (.cons (.b1 .len (.v 5)) .nil))) .nil))))
    (.cons (.ret (.c (.bl false)))
    .nil)
    .nil)
    (.cons (.ite (.not (.call 9 (.app []) (.cons (.call 4 (.app []) (.cons (.v 4) .nil)) (.cons (.call 16 (.app []) (.cons (.v 4) .nil)) .nil))))
    (.cons (.ret (.c (.bl false)))
    .nil)
    .nil)
    (.cons (.for_ (.n [6]) (.seq (.bin .add (.v 2) (.lst (.cons (.call 19 (.app []) (.cons (.v 2) .nil)) .nil))))
    (.cons (.ite (.not (.call 9 (.app []) (.cons (.call 5 (.app []) (.cons (.v 4) (.cons (.v 6) .nil))) (.cons (.lc (.v 8) [7, 8] [7, 8] (.seq (.v 5)) (.cmp .eq (.v 7) (.v 6))) .nil))))
    (.cons (.ret (.c (.bl false)))
    .nil)
    .nil)
    .nil))
    (.cons (.for_ (.n [8]) (.seq (.call 18 (.app []) (.cons (.v 4) .nil)))
    (.cons (.ite (.not (.call 9 (.app []) (.cons (.call 6 (.app []) (.cons (.v 4) (.cons (.v 8) .nil))) (.cons (.call 17 (.app []) (.cons (.v 4) (.cons (.v 8) .nil))) .nil))))
    (.cons (.ret (.c (.bl false)))
    .nil)
    .nil)
    (.cons (.asg (.n [9]) (.bin .add (.v 8) (.tup (.cons (.ix (.lst (.cons (.neg (.c (.int 1))) (.cons (.c (.int 5)) (.cons (.bin .pow (.c (.int 10)) (.c (.int 20))) (.cons (.c (.int 0)) .nil))))) (.call 8 (.app []) (.cons (.v 1) (.cons (.c (.int 4)) .nil)))) .nil))))
    (.cons (.ite (.and (.cmp .is (.call 17 (.app []) (.cons (.v 4) (.cons (.v 9) .nil))) (.c (.non))) (.not (.call 9 (.app []) (.cons (.call 20 (.app []) (.cons (.v 4) (.cons (.v 9) .nil))) (.cons (.lst (.cons (.c (.bl true)) (.cons (.c (.bl false)) (.cons (.v 9) .nil)))) .nil)))))
    (.cons (.ret (.c (.bl false)))
    .nil)
    .nil)
    .nil))))
    .nil)))))))
    (.cons (.ret (.c (.bl true)))
    .nil))))⟩
def P : Prg := fun f => match f with
  | 0 => some f0
  | 1 => some f1
  | 2 => some f2
  | 3 => some f3
  | 4 => some f4
  | 5 => some f5
  | 6 => some f6
  | 7 => some f7
  | 8 => some f8
  | 9 => some f9
  | 10 => some f10
  | 11 => some f11
  | 12 => some f12
  | 13 => some f13
  | 14 => some f14
  | 15 => some f15
  | 16 => some f16
  | 17 => some f17
  | 18 => some f18
  | 19 => some f19
  | 20 => some f20
  | 21 => some f21
  | _ => none
def T : Tb := ⟨([("depth", .fn 0), ("leaves", .fn 1), ("walk", .fn 2), ("all_paths", .fn 3), ("holders", .fn 4), ("paths_of", .fn 5), ("part_at", .fn 6), ("_law_box", .fn 7), ("_law_take", .fn 8), ("_law_same", .fn 9), ("_law_names", .fn 10), ("_law_tree", .fn 11), ("_law_right", .fn 12), ("_law_pool", .fn 13), ("_law_leaves", .fn 14), ("_law_deep", .fn 15), ("_law_holders", .fn 16), ("_law_at", .fn 17), ("_law_paths", .fn 18), ("_law_absent", .fn 19), ("_law_missing", .fn 20), ("NotThere", .cls 1), ("NoTurn", .cls 19), ("NoPart", .cls 23)] : List (PySem.Str × GV)), (["all", "bool", "dict", "enumerate", "int", "isinstance", "len", "list", "max", "range", "str", "sum", "tuple", "zip"] : List PySem.Str), ([(0, 1, []), (1, 1, []), (2, 3, []), (3, 1, []), (4, 1, []), (5, 2, []), (6, 2, []), (7, 1, []), (8, 2, []), (9, 2, []), (10, 2, []), (11, 4, []), (12, 2, []), (13, 1, []), (14, 2, []), (15, 1, []), (16, 1, []), (17, 2, []), (18, 1, []), (19, 1, []), (20, 2, [])] : List (Nat × Nat × List A.D)), ([] : List (Nat × Nat × List PySem.Str × Shp)), ([(23, 1, [0, 3], [.inr (.str "NoPart"), .inl 0])] : List (Nat × Nat × List Nat × List (Sum Nat A.D))), ([("NotThere", [(1, true), (19, true), (23, true)])] : List (PySem.Str × List (Nat × Bool))), ([("NoTurn", [(1, false), (19, true), (23, false)]), ("NoPart", [(1, false), (19, false), (23, true)])] : List (PySem.Str × List (Nat × Bool))), ([(0, "word"), (1, "by"), (2, "row"), (3, "path")] : List (Nat × PySem.Str)), ([1, 19, 23] : List Nat), false, none⟩
/-! the text -/
def top (i : Nat) : Stmt := PySem.Challenge.pw_advowson_k04_parts_and_paths.main.body.getD i (.Pass ⟨0, 0, 0, 0⟩)
def d0 : He.DefD := ⟨("depth", none), "depth", "depth", defArgs (top 5), defBody (top 5), defScope (top 5), [], []⟩
def n0 : List PySem.Str := ["right", "part"]
def p0 : List PySem.Str := ["right"]
theorem sc0 : FnScope n0 p0 d0.scope := C8.fnScope_by (by kernel_rfl)
theorem ok0 : okSs T f0.body ⟨d0.scope, n0, fun _ => true⟩ d0.body = true := by kernel_rfl
def d1 : He.DefD := ⟨("leaves", none), "leaves", "leaves", defArgs (top 6), defBody (top 6), defScope (top 6), [], []⟩
def n1 : List PySem.Str := ["right", "part"]
def p1 : List PySem.Str := ["right"]
theorem sc1 : FnScope n1 p1 d1.scope := C8.fnScope_by (by kernel_rfl)
theorem ok1 : okSs T f1.body ⟨d1.scope, n1, fun _ => true⟩ d1.body = true := by kernel_rfl
def d2 : He.DefD := ⟨("walk", none), "walk", "walk", defArgs (top 7), defBody (top 7), defScope (top 7), [], []⟩
def n2 : List PySem.Str := ["right", "path", "found", "at", "part"]
def p2 : List PySem.Str := ["right", "path", "found"]
theorem sc2 : FnScope n2 p2 d2.scope := C8.fnScope_by (by kernel_rfl)
theorem ok2 : okSs T f2.body ⟨d2.scope, n2, fun _ => true⟩ d2.body = true := by kernel_rfl
def d3 : He.DefD := ⟨("all_paths", none), "all_paths", "all_paths", defArgs (top 8), defBody (top 8), defScope (top 8), [], []⟩
def n3 : List PySem.Str := ["right", "found"]
def p3 : List PySem.Str := ["right"]
theorem sc3 : FnScope n3 p3 d3.scope := C8.fnScope_by (by kernel_rfl)
theorem ok3 : okSs T f3.body ⟨d3.scope, n3, fun _ => true⟩ d3.body = true := by kernel_rfl
def d4 : He.DefD := ⟨("holders", none), "holders", "holders", defArgs (top 9), defBody (top 9), defScope (top 9), [], []⟩
def n4 : List PySem.Str := ["right", "name", "path"]
def p4 : List PySem.Str := ["right"]
theorem sc4 : FnScope n4 p4 d4.scope := C8.fnScope_by (by kernel_rfl)
theorem ok4 : okSs T f4.body ⟨d4.scope, n4, fun _ => true⟩ d4.body = true := by kernel_rfl
def d5 : He.DefD := ⟨("paths_of", none), "paths_of", "paths_of", defArgs (top 10), defBody (top 10), defScope (top 10), [], []⟩
def n5 : List PySem.Str := ["right", "name", "holder", "path"]
def p5 : List PySem.Str := ["right", "name"]
theorem sc5 : FnScope n5 p5 d5.scope := C8.fnScope_by (by kernel_rfl)
theorem ok5 : okSs T f5.body ⟨d5.scope, n5, fun _ => true⟩ d5.body = true := by kernel_rfl
def d6 : He.DefD := ⟨("part_at", none), "part_at", "part_at", defArgs (top 11), defBody (top 11), defScope (top 11), [], []⟩
def n6 : List PySem.Str := ["right", "path", "part", "at"]
def p6 : List PySem.Str := ["right", "path"]
theorem sc6 : FnScope n6 p6 d6.scope := C8.fnScope_by (by kernel_rfl)
theorem ok6 : okSs T f6.body ⟨d6.scope, n6, fun _ => true⟩ d6.body = true := by kernel_rfl
def d7 : He.DefD := ⟨("_law_box", none), "_law_box", "_law_box", defArgs (top 13), defBody (top 13), defScope (top 13), [], []⟩
def n7 : List PySem.Str := ["_law_script"]
def p7 : List PySem.Str := ["_law_script"]
theorem sc7 : FnScope n7 p7 d7.scope := C8.fnScope_by (by kernel_rfl)
theorem ok7 : okSs T f7.body ⟨d7.scope, n7, fun _ => true⟩ d7.body = true := by kernel_rfl
def d8 : He.DefD := ⟨("_law_take", none), "_law_take", "_law_take", defArgs (top 14), defBody (top 14), defScope (top 14), [], []⟩
def n8 : List PySem.Str := ["_law_box_here", "_law_sides", "_law_rest", "_law_cell", "_law_seed"]
def p8 : List PySem.Str := ["_law_box_here", "_law_sides"]
theorem sc8 : FnScope n8 p8 d8.scope := C8.fnScope_by (by kernel_rfl)
theorem ok8 : okSs T f8.body ⟨d8.scope, n8, fun _ => true⟩ d8.body = true := by kernel_rfl
def d9 : He.DefD := ⟨("_law_same", none), "_law_same", "_law_same", defArgs (top 15), defBody (top 15), defScope (top 15), [], []⟩
def n9 : List PySem.Str := ["_law_found", "_law_want", "_law_one", "_law_other"]
def p9 : List PySem.Str := ["_law_found", "_law_want"]
theorem sc9 : FnScope n9 p9 d9.scope := C8.fnScope_by (by kernel_rfl)
theorem ok9 : okSs T f9.body ⟨d9.scope, n9, fun _ => true⟩ d9.body = true := by kernel_rfl
def d10 : He.DefD := ⟨("_law_names", none), "_law_names", "_law_names", defArgs (top 16), defBody (top 16), defScope (top 16), [], []⟩
def n10 : List PySem.Str := ["_law_box_here", "_law_sides", "_law_letters", "_law_first", "_law_k", "_law_at_here", "_law_folk", "_law_pairs"]
def p10 : List PySem.Str := ["_law_box_here", "_law_sides"]
theorem sc10 : FnScope n10 p10 d10.scope := C8.fnScope_by (by kernel_rfl)
theorem ok10 : okSs T f10.body ⟨d10.scope, n10, fun _ => true⟩ d10.body = true := by kernel_rfl
def d11 : He.DefD := ⟨("_law_tree", none), "_law_tree", "_law_tree", defArgs (top 17), defBody (top 17), defScope (top 17), [], []⟩
def n11 : List PySem.Str := ["_law_box_here", "_law_deep_here", "_law_pool_here", "_law_room", "_law_size", "_law_parts", "_law_k"]
def p11 : List PySem.Str := ["_law_box_here", "_law_deep_here", "_law_pool_here", "_law_room"]
theorem sc11 : FnScope n11 p11 d11.scope := C8.fnScope_by (by kernel_rfl)
theorem ok11 : okSs T f11.body ⟨d11.scope, n11, fun _ => true⟩ d11.body = true := by kernel_rfl
def d12 : He.DefD := ⟨("_law_right", none), "_law_right", "_law_right", defArgs (top 18), defBody (top 18), defScope (top 18), [], []⟩
def n12 : List PySem.Str := ["_law_box_here", "_law_pool_here", "_law_deep_here", "_law_size", "_law_room", "_law_parts", "_law_k"]
def p12 : List PySem.Str := ["_law_box_here", "_law_pool_here"]
theorem sc12 : FnScope n12 p12 d12.scope := C8.fnScope_by (by kernel_rfl)
theorem ok12 : okSs T f12.body ⟨d12.scope, n12, fun _ => true⟩ d12.body = true := by kernel_rfl
def d13 : He.DefD := ⟨("_law_pool", none), "_law_pool", "_law_pool", defArgs (top 19), defBody (top 19), defScope (top 19), [], []⟩
def n13 : List PySem.Str := ["_law_box_here"]
def p13 : List PySem.Str := ["_law_box_here"]
theorem sc13 : FnScope n13 p13 d13.scope := C8.fnScope_by (by kernel_rfl)
theorem ok13 : okSs T f13.body ⟨d13.scope, n13, fun _ => true⟩ d13.body = true := by kernel_rfl
def d14 : He.DefD := ⟨("_law_leaves", none), "_law_leaves", "_law_leaves", defArgs (top 20), defBody (top 20), defScope (top 20), [], []⟩
def n14 : List PySem.Str := ["_law_tree_here", "_law_road", "_law_found", "_law_at_here", "_law_part"]
def p14 : List PySem.Str := ["_law_tree_here", "_law_road"]
theorem sc14 : FnScope n14 p14 d14.scope := C8.fnScope_by (by kernel_rfl)
theorem ok14 : okSs T f14.body ⟨d14.scope, n14, fun _ => true⟩ d14.body = true := by kernel_rfl
def d15 : He.DefD := ⟨("_law_deep", none), "_law_deep", "_law_deep", defArgs (top 21), defBody (top 21), defScope (top 21), [], []⟩
def n15 : List PySem.Str := ["_law_tree_here", "_law_part"]
def p15 : List PySem.Str := ["_law_tree_here"]
theorem sc15 : FnScope n15 p15 d15.scope := C8.fnScope_by (by kernel_rfl)
theorem ok15 : okSs T f15.body ⟨d15.scope, n15, fun _ => true⟩ d15.body = true := by kernel_rfl
def d16 : He.DefD := ⟨("_law_holders", none), "_law_holders", "_law_holders", defArgs (top 22), defBody (top 22), defScope (top 22), [], []⟩
def n16 : List PySem.Str := ["_law_tree_here", "_law_found", "_law_whose", "_law_road"]
def p16 : List PySem.Str := ["_law_tree_here"]
theorem sc16 : FnScope n16 p16 d16.scope := C8.fnScope_by (by kernel_rfl)
theorem ok16 : okSs T f16.body ⟨d16.scope, n16, fun _ => true⟩ d16.body = true := by kernel_rfl
def d17 : He.DefD := ⟨("_law_at", none), "_law_at", "_law_at", defArgs (top 23), defBody (top 23), defScope (top 23), [], []⟩
def n17 : List PySem.Str := ["_law_tree_here", "_law_road", "_law_at_here"]
def p17 : List PySem.Str := ["_law_tree_here", "_law_road"]
theorem sc17 : FnScope n17 p17 d17.scope := C8.fnScope_by (by kernel_rfl)
theorem ok17 : okSs T f17.body ⟨d17.scope, n17, fun _ => true⟩ d17.body = true := by kernel_rfl
def d18 : He.DefD := ⟨("_law_paths", none), "_law_paths", "_law_paths", defArgs (top 24), defBody (top 24), defScope (top 24), [], []⟩
def n18 : List PySem.Str := ["_law_tree_here", "_law_found", "_law_at_here", "_law_part", "_law_road"]
def p18 : List PySem.Str := ["_law_tree_here"]
theorem sc18 : FnScope n18 p18 d18.scope := C8.fnScope_by (by kernel_rfl)
theorem ok18 : okSs T f18.body ⟨d18.scope, n18, fun _ => true⟩ d18.body = true := by kernel_rfl
def d19 : He.DefD := ⟨("_law_absent", none), "_law_absent", "_law_absent", defArgs (top 25), defBody (top 25), defScope (top 25), [], []⟩
def n19 : List PySem.Str := ["_law_pool_here", "_law_letters", "_law_sign"]
def p19 : List PySem.Str := ["_law_pool_here"]
theorem sc19 : FnScope n19 p19 d19.scope := C8.fnScope_by (by kernel_rfl)
theorem ok19 : okSs T f19.body ⟨d19.scope, n19, fun _ => true⟩ d19.body = true := by kernel_rfl
def d20 : He.DefD := ⟨("_law_missing", none), "_law_missing", "_law_missing", defArgs (top 26), defBody (top 26), defScope (top 26), [], []⟩
def n20 : List PySem.Str := ["_law_right_here", "_law_path", "_law_found", "e"]
def p20 : List PySem.Str := ["_law_right_here", "_law_path"]
theorem sc20 : FnScope n20 p20 d20.scope := C8.fnScope_by (by kernel_rfl)
theorem ok20 : okSs T f20.body ⟨d20.scope, n20, fun _ => true⟩ d20.body = true := by kernel_rfl
def d21 : He.DefD := ⟨("law", none), "law", "law", defArgs (top 27), defBody (top 27), defScope (top 27), [], []⟩
def n21 : List PySem.Str := ["_law_script", "_law_box_here", "_law_pool_here", "_law_k", "_law_right_here", "_law_every", "_law_name", "_law_holder", "_law_path", "_law_wrong"]
def p21 : List PySem.Str := ["_law_script"]
theorem sc21 : FnScope n21 p21 d21.scope := C8.fnScope_by (by kernel_rfl)
theorem ok21 : okSs T f21.body ⟨d21.scope, n21, fun _ => true⟩ d21.body = true := by kernel_rfl
def e0 : He.DefD := ⟨("NoPart", some "__init__"), "__init__", "NoPart.__init__", defArgs (clsAt (top 3) 0), defBody (clsAt (top 3) 0), defScope (clsAt (top 3) 0), [], []⟩
def en0 : List PySem.Str := ["self", "path"]
def ef0 : List (PySem.Str × Sum PySem.Str Nat) := [("word", .inl "NoPart"), ("path", .inr 1)]
theorem esc0 : FnScope en0 en0 e0.scope := C8.fnScope_by (by kernel_rfl)
theorem eok0 : okI ⟨e0.scope, en0, fun _ => true⟩ ef0 e0.body = true := by kernel_rfl
def cn (c : Nat) : PySem.Str := match c with
  | 1 => "NotThere"
  | 19 => "NoTurn"
  | 23 => "NoPart"
  | _ => ""
def fln (c : Nat) : PySem.Str := match c with
  | 0 => "word"
  | 1 => "by"
  | 2 => "row"
  | 3 => "path"
  | _ => ""
def x0 (K : PySem.W.Frag) : Bool := oxB K (He.ga K "NotThere") true
def x1 (K : PySem.W.Frag) : Bool := excB K (He.ga K "NotThere")
def x2 (K : PySem.W.Frag) : Bool := decide (PySem.W.findIn K (.ref (He.ga K "NotThere")) "word" = some none)
def x3 (K : PySem.W.Frag) : Bool := decide (PySem.W.findIn K (.ref (He.ga K "NotThere")) "by" = some none)
def x4 (K : PySem.W.Frag) : Bool := decide (PySem.W.findIn K (.ref (He.ga K "NotThere")) "row" = some none)
def x5 (K : PySem.W.Frag) : Bool := decide (PySem.W.findIn K (.ref (He.ga K "NotThere")) "path" = some none)
def x6 (K : PySem.W.Frag) : Bool := oxB K (He.ga K "NoTurn") true
def x7 (K : PySem.W.Frag) : Bool := excB K (He.ga K "NoTurn")
def x8 (K : PySem.W.Frag) : Bool := decide (PySem.W.findIn K (.ref (He.ga K "NoTurn")) "word" = some none)
def x9 (K : PySem.W.Frag) : Bool := decide (PySem.W.findIn K (.ref (He.ga K "NoTurn")) "by" = some none)
def x10 (K : PySem.W.Frag) : Bool := decide (PySem.W.findIn K (.ref (He.ga K "NoTurn")) "row" = some none)
def x11 (K : PySem.W.Frag) : Bool := decide (PySem.W.findIn K (.ref (He.ga K "NoTurn")) "path" = some none)
def x12 (K : PySem.W.Frag) : Bool := oxB K (He.ga K "NoPart") true
def x13 (K : PySem.W.Frag) : Bool := excB K (He.ga K "NoPart")
def x14 (K : PySem.W.Frag) : Bool := decide (PySem.W.findIn K (.ref (He.ga K "NoPart")) "word" = some none)
def x15 (K : PySem.W.Frag) : Bool := decide (PySem.W.findIn K (.ref (He.ga K "NoPart")) "by" = some none)
def x16 (K : PySem.W.Frag) : Bool := decide (PySem.W.findIn K (.ref (He.ga K "NoPart")) "row" = some none)
def x17 (K : PySem.W.Frag) : Bool := decide (PySem.W.findIn K (.ref (He.ga K "NoPart")) "path" = some none)
def x18 (K : PySem.W.Frag) : Bool := decide (PySem.W.findIn K (.ref (He.ga K "NoPart")) "__init__" = some (some (.ref (He.ma K (He.ga K "NoPart") "__init__"))))
def x19 (K : PySem.W.Frag) : Bool := decide (PySem.W.typeIn K (.ref (He.ma K (He.ga K "NoPart") "__init__")) = some (.type "function"))
def x20 (K : PySem.W.Frag) : Bool := ([(1, true), (19, true), (23, true)] : List (Nat × Bool)).all fun p => decide (PySem.W.exmOne K (.ref (He.ga K (cn p.1))) (.ref (He.ga K "NotThere")) = some p.2)
def x21 (K : PySem.W.Frag) : Bool := ([(1, false), (19, true), (23, false)] : List (Nat × Bool)).all fun p => decide (PySem.W.kitOne K (.ref (He.ga K (cn p.1))) (.ref (He.ga K "NoTurn")) = some p.2)
def x22 (K : PySem.W.Frag) : Bool := ([(1, false), (19, false), (23, true)] : List (Nat × Bool)).all fun p => decide (PySem.W.kitOne K (.ref (He.ga K (cn p.1))) (.ref (He.ga K "NoPart")) = some p.2)
def exK (K : PySem.W.Frag) : Bool := x0 K && (x1 K && (x2 K && (x3 K && (x4 K && (x5 K && (x6 K && (x7 K && (x8 K && (x9 K && (x10 K && (x11 K && (x12 K && (x13 K && (x14 K && (x15 K && (x16 K && (x17 K && (x18 K && (x19 K && (x20 K && (x21 K && (x22 K))))))))))))))))))))))
theorem xo0 {K : PySem.W.Frag} (h : exK K = true) : x0 K = true := by unfold exK at h; simp only [Bool.and_eq_true] at h; exact h.1
theorem xo1 {K : PySem.W.Frag} (h : exK K = true) : x1 K = true := by unfold exK at h; simp only [Bool.and_eq_true] at h; exact h.2.1
theorem xo2 {K : PySem.W.Frag} (h : exK K = true) : x2 K = true := by unfold exK at h; simp only [Bool.and_eq_true] at h; exact h.2.2.1
theorem xo3 {K : PySem.W.Frag} (h : exK K = true) : x3 K = true := by unfold exK at h; simp only [Bool.and_eq_true] at h; exact h.2.2.2.1
theorem xo4 {K : PySem.W.Frag} (h : exK K = true) : x4 K = true := by unfold exK at h; simp only [Bool.and_eq_true] at h; exact h.2.2.2.2.1
theorem xo5 {K : PySem.W.Frag} (h : exK K = true) : x5 K = true := by unfold exK at h; simp only [Bool.and_eq_true] at h; exact h.2.2.2.2.2.1
theorem xo6 {K : PySem.W.Frag} (h : exK K = true) : x6 K = true := by unfold exK at h; simp only [Bool.and_eq_true] at h; exact h.2.2.2.2.2.2.1
theorem xo7 {K : PySem.W.Frag} (h : exK K = true) : x7 K = true := by unfold exK at h; simp only [Bool.and_eq_true] at h; exact h.2.2.2.2.2.2.2.1
theorem xo8 {K : PySem.W.Frag} (h : exK K = true) : x8 K = true := by unfold exK at h; simp only [Bool.and_eq_true] at h; exact h.2.2.2.2.2.2.2.2.1
theorem xo9 {K : PySem.W.Frag} (h : exK K = true) : x9 K = true := by unfold exK at h; simp only [Bool.and_eq_true] at h; exact h.2.2.2.2.2.2.2.2.2.1
theorem xo10 {K : PySem.W.Frag} (h : exK K = true) : x10 K = true := by unfold exK at h; simp only [Bool.and_eq_true] at h; exact h.2.2.2.2.2.2.2.2.2.2.1
theorem xo11 {K : PySem.W.Frag} (h : exK K = true) : x11 K = true := by unfold exK at h; simp only [Bool.and_eq_true] at h; exact h.2.2.2.2.2.2.2.2.2.2.2.1
theorem xo12 {K : PySem.W.Frag} (h : exK K = true) : x12 K = true := by unfold exK at h; simp only [Bool.and_eq_true] at h; exact h.2.2.2.2.2.2.2.2.2.2.2.2.1
theorem xo13 {K : PySem.W.Frag} (h : exK K = true) : x13 K = true := by unfold exK at h; simp only [Bool.and_eq_true] at h; exact h.2.2.2.2.2.2.2.2.2.2.2.2.2.1
theorem xo14 {K : PySem.W.Frag} (h : exK K = true) : x14 K = true := by unfold exK at h; simp only [Bool.and_eq_true] at h; exact h.2.2.2.2.2.2.2.2.2.2.2.2.2.2.1
theorem xo15 {K : PySem.W.Frag} (h : exK K = true) : x15 K = true := by unfold exK at h; simp only [Bool.and_eq_true] at h; exact h.2.2.2.2.2.2.2.2.2.2.2.2.2.2.2.1
theorem xo16 {K : PySem.W.Frag} (h : exK K = true) : x16 K = true := by unfold exK at h; simp only [Bool.and_eq_true] at h; exact h.2.2.2.2.2.2.2.2.2.2.2.2.2.2.2.2.1
theorem xo17 {K : PySem.W.Frag} (h : exK K = true) : x17 K = true := by unfold exK at h; simp only [Bool.and_eq_true] at h; exact h.2.2.2.2.2.2.2.2.2.2.2.2.2.2.2.2.2.1
theorem xo18 {K : PySem.W.Frag} (h : exK K = true) : x18 K = true := by unfold exK at h; simp only [Bool.and_eq_true] at h; exact h.2.2.2.2.2.2.2.2.2.2.2.2.2.2.2.2.2.2.1
theorem xo19 {K : PySem.W.Frag} (h : exK K = true) : x19 K = true := by unfold exK at h; simp only [Bool.and_eq_true] at h; exact h.2.2.2.2.2.2.2.2.2.2.2.2.2.2.2.2.2.2.2.1
theorem xo20 {K : PySem.W.Frag} (h : exK K = true) : x20 K = true := by unfold exK at h; simp only [Bool.and_eq_true] at h; exact h.2.2.2.2.2.2.2.2.2.2.2.2.2.2.2.2.2.2.2.2.1
theorem xo21 {K : PySem.W.Frag} (h : exK K = true) : x21 K = true := by unfold exK at h; simp only [Bool.and_eq_true] at h; exact h.2.2.2.2.2.2.2.2.2.2.2.2.2.2.2.2.2.2.2.2.2.1
theorem xo22 {K : PySem.W.Frag} (h : exK K = true) : x22 K = true := by unfold exK at h; simp only [Bool.and_eq_true] at h; exact h.2.2.2.2.2.2.2.2.2.2.2.2.2.2.2.2.2.2.2.2.2.2
def fn : List He.DefD := [d0, d1, d2, d3, d4, d5, d6, d7, d8, d9, d10, d11, d12, d13, d14, d15, d16, d17, d18, d19, d20, d21, e0]
def fa : List He.Fa := ([.glo "depth", .glo "leaves", .glo "walk", .glo "all_paths", .glo "holders", .glo "paths_of", .glo "part_at", .glo "_law_box", .glo "_law_take", .glo "_law_same", .glo "_law_names", .glo "_law_tree", .glo "_law_right", .glo "_law_pool", .glo "_law_leaves", .glo "_law_deep", .glo "_law_holders", .glo "_law_at", .glo "_law_paths", .glo "_law_absent", .glo "_law_missing", .glo "law", .glo "NotThere", .glo "NoTurn", .glo "NoPart", .free "all", .free "bool", .free "dict", .free "enumerate", .free "int"] : List He.Fa) ++ ([.free "isinstance", .free "len", .free "list", .free "max", .free "range", .free "str", .free "sum", .free "tuple", .free "zip"] : List He.Fa)
abbrev R : PySem.W.OpenRow := PySem.W.OpenLaw.row PySem.Challenge.rw_advowson_k04_parts_and_paths
abbrev hk : PySem.W.Hook := A.hookA 4 fa fn exK
def ob (s : PySem.W.SharedT) : He.AlD × Bool := A.obsA 4 fa fn exK (HandSHeadRun.getT s)
theorem ob_eq (s : PySem.W.SharedT) : ob s = hk.obs s.abs := A.obsA_eq (HandSHeadRun.getT_eq s)
def names : List PySem.Str := (["NotThere", "NoTurn", "NoPart", "depth", "leaves", "walk", "all_paths", "holders", "paths_of", "part_at", "_law_box", "_law_take", "_law_same", "_law_names", "_law_tree", "_law_right", "_law_pool", "_law_leaves", "_law_deep", "_law_holders", "_law_at", "_law_paths", "_law_absent", "_law_missing"] : List PySem.Str)
theorem run (w : World) : HandSHeadRun.RunEq R (PySem.W.view R.prog [27]) hk ob 2000 names w := by
  intro os
  kernel_rfl
def at_ (f : Nat) : PySem.Str × Option PySem.Str := match f with
  | 0 => ("depth", none)
  | 1 => ("leaves", none)
  | 2 => ("walk", none)
  | 3 => ("all_paths", none)
  | 4 => ("holders", none)
  | 5 => ("paths_of", none)
  | 6 => ("part_at", none)
  | 7 => ("_law_box", none)
  | 8 => ("_law_take", none)
  | 9 => ("_law_same", none)
  | 10 => ("_law_names", none)
  | 11 => ("_law_tree", none)
  | 12 => ("_law_right", none)
  | 13 => ("_law_pool", none)
  | 14 => ("_law_leaves", none)
  | 15 => ("_law_deep", none)
  | 16 => ("_law_holders", none)
  | 17 => ("_law_at", none)
  | 18 => ("_law_paths", none)
  | 19 => ("_law_absent", none)
  | 20 => ("_law_missing", none)
  | 21 => ("law", none)
  | _ => ("", none)
def Nn (K : PySem.W.Frag) : Nm := ⟨K, fun f => He.fAd K (at_ f), fun c => He.ga K (cn c), fln, none⟩
section
variable {K : PySem.W.Frag} {h : Heap} {mg : PySem.Str → Option Value}
theorem df0 (c : He.SaysD fa fn K) : ∃ fd, DefOk (Nn K) T K 0 f0 fd p0 ∧ L2.FunD K d0.name d0.qual d0.params d0.body d0.scope (d0.dvs K) (d0.kws K) (He.fAd K d0.at_) fd := by
  obtain ⟨fd, F⟩ := c.def_ 0 (d := d0) rfl
  exact ⟨fd, ⟨⟨_, _, _, _, _, _, _, n0, F, sc0, rfl, ok0⟩, rfl⟩, F⟩
theorem df1 (c : He.SaysD fa fn K) : ∃ fd, DefOk (Nn K) T K 1 f1 fd p1 ∧ L2.FunD K d1.name d1.qual d1.params d1.body d1.scope (d1.dvs K) (d1.kws K) (He.fAd K d1.at_) fd := by
  obtain ⟨fd, F⟩ := c.def_ 1 (d := d1) rfl
  exact ⟨fd, ⟨⟨_, _, _, _, _, _, _, n1, F, sc1, rfl, ok1⟩, rfl⟩, F⟩
theorem df2 (c : He.SaysD fa fn K) : ∃ fd, DefOk (Nn K) T K 2 f2 fd p2 ∧ L2.FunD K d2.name d2.qual d2.params d2.body d2.scope (d2.dvs K) (d2.kws K) (He.fAd K d2.at_) fd := by
  obtain ⟨fd, F⟩ := c.def_ 2 (d := d2) rfl
  exact ⟨fd, ⟨⟨_, _, _, _, _, _, _, n2, F, sc2, rfl, ok2⟩, rfl⟩, F⟩
theorem df3 (c : He.SaysD fa fn K) : ∃ fd, DefOk (Nn K) T K 3 f3 fd p3 ∧ L2.FunD K d3.name d3.qual d3.params d3.body d3.scope (d3.dvs K) (d3.kws K) (He.fAd K d3.at_) fd := by
  obtain ⟨fd, F⟩ := c.def_ 3 (d := d3) rfl
  exact ⟨fd, ⟨⟨_, _, _, _, _, _, _, n3, F, sc3, rfl, ok3⟩, rfl⟩, F⟩
theorem df4 (c : He.SaysD fa fn K) : ∃ fd, DefOk (Nn K) T K 4 f4 fd p4 ∧ L2.FunD K d4.name d4.qual d4.params d4.body d4.scope (d4.dvs K) (d4.kws K) (He.fAd K d4.at_) fd := by
  obtain ⟨fd, F⟩ := c.def_ 4 (d := d4) rfl
  exact ⟨fd, ⟨⟨_, _, _, _, _, _, _, n4, F, sc4, rfl, ok4⟩, rfl⟩, F⟩
theorem df5 (c : He.SaysD fa fn K) : ∃ fd, DefOk (Nn K) T K 5 f5 fd p5 ∧ L2.FunD K d5.name d5.qual d5.params d5.body d5.scope (d5.dvs K) (d5.kws K) (He.fAd K d5.at_) fd := by
  obtain ⟨fd, F⟩ := c.def_ 5 (d := d5) rfl
  exact ⟨fd, ⟨⟨_, _, _, _, _, _, _, n5, F, sc5, rfl, ok5⟩, rfl⟩, F⟩
theorem df6 (c : He.SaysD fa fn K) : ∃ fd, DefOk (Nn K) T K 6 f6 fd p6 ∧ L2.FunD K d6.name d6.qual d6.params d6.body d6.scope (d6.dvs K) (d6.kws K) (He.fAd K d6.at_) fd := by
  obtain ⟨fd, F⟩ := c.def_ 6 (d := d6) rfl
  exact ⟨fd, ⟨⟨_, _, _, _, _, _, _, n6, F, sc6, rfl, ok6⟩, rfl⟩, F⟩
theorem df7 (c : He.SaysD fa fn K) : ∃ fd, DefOk (Nn K) T K 7 f7 fd p7 ∧ L2.FunD K d7.name d7.qual d7.params d7.body d7.scope (d7.dvs K) (d7.kws K) (He.fAd K d7.at_) fd := by
  obtain ⟨fd, F⟩ := c.def_ 7 (d := d7) rfl
  exact ⟨fd, ⟨⟨_, _, _, _, _, _, _, n7, F, sc7, rfl, ok7⟩, rfl⟩, F⟩
theorem df8 (c : He.SaysD fa fn K) : ∃ fd, DefOk (Nn K) T K 8 f8 fd p8 ∧ L2.FunD K d8.name d8.qual d8.params d8.body d8.scope (d8.dvs K) (d8.kws K) (He.fAd K d8.at_) fd := by
  obtain ⟨fd, F⟩ := c.def_ 8 (d := d8) rfl
  exact ⟨fd, ⟨⟨_, _, _, _, _, _, _, n8, F, sc8, rfl, ok8⟩, rfl⟩, F⟩
theorem df9 (c : He.SaysD fa fn K) : ∃ fd, DefOk (Nn K) T K 9 f9 fd p9 ∧ L2.FunD K d9.name d9.qual d9.params d9.body d9.scope (d9.dvs K) (d9.kws K) (He.fAd K d9.at_) fd := by
  obtain ⟨fd, F⟩ := c.def_ 9 (d := d9) rfl
  exact ⟨fd, ⟨⟨_, _, _, _, _, _, _, n9, F, sc9, rfl, ok9⟩, rfl⟩, F⟩
theorem df10 (c : He.SaysD fa fn K) : ∃ fd, DefOk (Nn K) T K 10 f10 fd p10 ∧ L2.FunD K d10.name d10.qual d10.params d10.body d10.scope (d10.dvs K) (d10.kws K) (He.fAd K d10.at_) fd := by
  obtain ⟨fd, F⟩ := c.def_ 10 (d := d10) rfl
  exact ⟨fd, ⟨⟨_, _, _, _, _, _, _, n10, F, sc10, rfl, ok10⟩, rfl⟩, F⟩
theorem df11 (c : He.SaysD fa fn K) : ∃ fd, DefOk (Nn K) T K 11 f11 fd p11 ∧ L2.FunD K d11.name d11.qual d11.params d11.body d11.scope (d11.dvs K) (d11.kws K) (He.fAd K d11.at_) fd := by
  obtain ⟨fd, F⟩ := c.def_ 11 (d := d11) rfl
  exact ⟨fd, ⟨⟨_, _, _, _, _, _, _, n11, F, sc11, rfl, ok11⟩, rfl⟩, F⟩
theorem df12 (c : He.SaysD fa fn K) : ∃ fd, DefOk (Nn K) T K 12 f12 fd p12 ∧ L2.FunD K d12.name d12.qual d12.params d12.body d12.scope (d12.dvs K) (d12.kws K) (He.fAd K d12.at_) fd := by
  obtain ⟨fd, F⟩ := c.def_ 12 (d := d12) rfl
  exact ⟨fd, ⟨⟨_, _, _, _, _, _, _, n12, F, sc12, rfl, ok12⟩, rfl⟩, F⟩
theorem df13 (c : He.SaysD fa fn K) : ∃ fd, DefOk (Nn K) T K 13 f13 fd p13 ∧ L2.FunD K d13.name d13.qual d13.params d13.body d13.scope (d13.dvs K) (d13.kws K) (He.fAd K d13.at_) fd := by
  obtain ⟨fd, F⟩ := c.def_ 13 (d := d13) rfl
  exact ⟨fd, ⟨⟨_, _, _, _, _, _, _, n13, F, sc13, rfl, ok13⟩, rfl⟩, F⟩
theorem df14 (c : He.SaysD fa fn K) : ∃ fd, DefOk (Nn K) T K 14 f14 fd p14 ∧ L2.FunD K d14.name d14.qual d14.params d14.body d14.scope (d14.dvs K) (d14.kws K) (He.fAd K d14.at_) fd := by
  obtain ⟨fd, F⟩ := c.def_ 14 (d := d14) rfl
  exact ⟨fd, ⟨⟨_, _, _, _, _, _, _, n14, F, sc14, rfl, ok14⟩, rfl⟩, F⟩
theorem df15 (c : He.SaysD fa fn K) : ∃ fd, DefOk (Nn K) T K 15 f15 fd p15 ∧ L2.FunD K d15.name d15.qual d15.params d15.body d15.scope (d15.dvs K) (d15.kws K) (He.fAd K d15.at_) fd := by
  obtain ⟨fd, F⟩ := c.def_ 15 (d := d15) rfl
  exact ⟨fd, ⟨⟨_, _, _, _, _, _, _, n15, F, sc15, rfl, ok15⟩, rfl⟩, F⟩
theorem df16 (c : He.SaysD fa fn K) : ∃ fd, DefOk (Nn K) T K 16 f16 fd p16 ∧ L2.FunD K d16.name d16.qual d16.params d16.body d16.scope (d16.dvs K) (d16.kws K) (He.fAd K d16.at_) fd := by
  obtain ⟨fd, F⟩ := c.def_ 16 (d := d16) rfl
  exact ⟨fd, ⟨⟨_, _, _, _, _, _, _, n16, F, sc16, rfl, ok16⟩, rfl⟩, F⟩
theorem df17 (c : He.SaysD fa fn K) : ∃ fd, DefOk (Nn K) T K 17 f17 fd p17 ∧ L2.FunD K d17.name d17.qual d17.params d17.body d17.scope (d17.dvs K) (d17.kws K) (He.fAd K d17.at_) fd := by
  obtain ⟨fd, F⟩ := c.def_ 17 (d := d17) rfl
  exact ⟨fd, ⟨⟨_, _, _, _, _, _, _, n17, F, sc17, rfl, ok17⟩, rfl⟩, F⟩
theorem df18 (c : He.SaysD fa fn K) : ∃ fd, DefOk (Nn K) T K 18 f18 fd p18 ∧ L2.FunD K d18.name d18.qual d18.params d18.body d18.scope (d18.dvs K) (d18.kws K) (He.fAd K d18.at_) fd := by
  obtain ⟨fd, F⟩ := c.def_ 18 (d := d18) rfl
  exact ⟨fd, ⟨⟨_, _, _, _, _, _, _, n18, F, sc18, rfl, ok18⟩, rfl⟩, F⟩
theorem df19 (c : He.SaysD fa fn K) : ∃ fd, DefOk (Nn K) T K 19 f19 fd p19 ∧ L2.FunD K d19.name d19.qual d19.params d19.body d19.scope (d19.dvs K) (d19.kws K) (He.fAd K d19.at_) fd := by
  obtain ⟨fd, F⟩ := c.def_ 19 (d := d19) rfl
  exact ⟨fd, ⟨⟨_, _, _, _, _, _, _, n19, F, sc19, rfl, ok19⟩, rfl⟩, F⟩
theorem df20 (c : He.SaysD fa fn K) : ∃ fd, DefOk (Nn K) T K 20 f20 fd p20 ∧ L2.FunD K d20.name d20.qual d20.params d20.body d20.scope (d20.dvs K) (d20.kws K) (He.fAd K d20.at_) fd := by
  obtain ⟨fd, F⟩ := c.def_ 20 (d := d20) rfl
  exact ⟨fd, ⟨⟨_, _, _, _, _, _, _, n20, F, sc20, rfl, ok20⟩, rfl⟩, F⟩
theorem df21 (c : He.SaysD fa fn K) : ∃ fd, DefOk (Nn K) T K 21 f21 fd p21 ∧ L2.FunD K d21.name d21.qual d21.params d21.body d21.scope (d21.dvs K) (d21.kws K) (He.fAd K d21.at_) fd := by
  obtain ⟨fd, F⟩ := c.def_ 21 (d := d21) rfl
  exact ⟨fd, ⟨⟨_, _, _, _, _, _, _, n21, F, sc21, rfl, ok21⟩, rfl⟩, F⟩
theorem gf (X : K.In h) (G : h.Ns mainGlobals mg) (c : He.SaysD fa fn K) (cx : exK K = true) : Gf (Nn K) T P K mg where
  hK := rfl
  own := fun c m => by
    have hm : mth c m = 1000 * (c + 1) + m := rfl
    unfold P
    split <;> first | rfl | (exfalso; omega)
  glob := fun x g hx => by
    have all : Alls (fun p => GOk' (Nn K) K mg p.1 p.2) T.glob := by
      refine ⟨?_, ?_, ?_, ?_, ?_, ?_, ?_, ?_, ?_, ?_, ?_, ?_, ?_, ?_, ?_, ?_, ?_, ?_, ?_, ?_, ?_, ?_, ?_, ?_, trivial⟩
      · exact ⟨He.glo_ok X G (c.fact 0 (f := .glo "depth") rfl), by obtain ⟨fd, F⟩ := c.def_ 0 (d := d0) rfl; exact F.kp⟩
      · exact ⟨He.glo_ok X G (c.fact 1 (f := .glo "leaves") rfl), by obtain ⟨fd, F⟩ := c.def_ 1 (d := d1) rfl; exact F.kp⟩
      · exact ⟨He.glo_ok X G (c.fact 2 (f := .glo "walk") rfl), by obtain ⟨fd, F⟩ := c.def_ 2 (d := d2) rfl; exact F.kp⟩
      · exact ⟨He.glo_ok X G (c.fact 3 (f := .glo "all_paths") rfl), by obtain ⟨fd, F⟩ := c.def_ 3 (d := d3) rfl; exact F.kp⟩
      · exact ⟨He.glo_ok X G (c.fact 4 (f := .glo "holders") rfl), by obtain ⟨fd, F⟩ := c.def_ 4 (d := d4) rfl; exact F.kp⟩
      · exact ⟨He.glo_ok X G (c.fact 5 (f := .glo "paths_of") rfl), by obtain ⟨fd, F⟩ := c.def_ 5 (d := d5) rfl; exact F.kp⟩
      · exact ⟨He.glo_ok X G (c.fact 6 (f := .glo "part_at") rfl), by obtain ⟨fd, F⟩ := c.def_ 6 (d := d6) rfl; exact F.kp⟩
      · exact ⟨He.glo_ok X G (c.fact 7 (f := .glo "_law_box") rfl), by obtain ⟨fd, F⟩ := c.def_ 7 (d := d7) rfl; exact F.kp⟩
      · exact ⟨He.glo_ok X G (c.fact 8 (f := .glo "_law_take") rfl), by obtain ⟨fd, F⟩ := c.def_ 8 (d := d8) rfl; exact F.kp⟩
      · exact ⟨He.glo_ok X G (c.fact 9 (f := .glo "_law_same") rfl), by obtain ⟨fd, F⟩ := c.def_ 9 (d := d9) rfl; exact F.kp⟩
      · exact ⟨He.glo_ok X G (c.fact 10 (f := .glo "_law_names") rfl), by obtain ⟨fd, F⟩ := c.def_ 10 (d := d10) rfl; exact F.kp⟩
      · exact ⟨He.glo_ok X G (c.fact 11 (f := .glo "_law_tree") rfl), by obtain ⟨fd, F⟩ := c.def_ 11 (d := d11) rfl; exact F.kp⟩
      · exact ⟨He.glo_ok X G (c.fact 12 (f := .glo "_law_right") rfl), by obtain ⟨fd, F⟩ := c.def_ 12 (d := d12) rfl; exact F.kp⟩
      · exact ⟨He.glo_ok X G (c.fact 13 (f := .glo "_law_pool") rfl), by obtain ⟨fd, F⟩ := c.def_ 13 (d := d13) rfl; exact F.kp⟩
      · exact ⟨He.glo_ok X G (c.fact 14 (f := .glo "_law_leaves") rfl), by obtain ⟨fd, F⟩ := c.def_ 14 (d := d14) rfl; exact F.kp⟩
      · exact ⟨He.glo_ok X G (c.fact 15 (f := .glo "_law_deep") rfl), by obtain ⟨fd, F⟩ := c.def_ 15 (d := d15) rfl; exact F.kp⟩
      · exact ⟨He.glo_ok X G (c.fact 16 (f := .glo "_law_holders") rfl), by obtain ⟨fd, F⟩ := c.def_ 16 (d := d16) rfl; exact F.kp⟩
      · exact ⟨He.glo_ok X G (c.fact 17 (f := .glo "_law_at") rfl), by obtain ⟨fd, F⟩ := c.def_ 17 (d := d17) rfl; exact F.kp⟩
      · exact ⟨He.glo_ok X G (c.fact 18 (f := .glo "_law_paths") rfl), by obtain ⟨fd, F⟩ := c.def_ 18 (d := d18) rfl; exact F.kp⟩
      · exact ⟨He.glo_ok X G (c.fact 19 (f := .glo "_law_absent") rfl), by obtain ⟨fd, F⟩ := c.def_ 19 (d := d19) rfl; exact F.kp⟩
      · exact ⟨He.glo_ok X G (c.fact 20 (f := .glo "_law_missing") rfl), by obtain ⟨fd, F⟩ := c.def_ 20 (d := d20) rfl; exact F.kp⟩
      · exact He.glo_ok X G (c.fact 22 (f := .glo "NotThere") rfl)
      · exact He.glo_ok X G (c.fact 23 (f := .glo "NoTurn") rfl)
      · exact He.glo_ok X G (c.fact 24 (f := .glo "NoPart") rfl)
    exact all.mem (x, g) hx
  blt := fun x hx => by
    have all : Alls (fun x => mg x = none) T.blts := by
      refine ⟨?_, ?_, ?_, ?_, ?_, ?_, ?_, ?_, ?_, ?_, ?_, ?_, ?_, ?_, trivial⟩
      · exact He.free_ok X G (c.fact 25 (f := .free "all") rfl)
      · exact He.free_ok X G (c.fact 26 (f := .free "bool") rfl)
      · exact He.free_ok X G (c.fact 27 (f := .free "dict") rfl)
      · exact He.free_ok X G (c.fact 28 (f := .free "enumerate") rfl)
      · exact He.free_ok X G (c.fact 29 (f := .free "int") rfl)
      · exact He.free_ok X G (c.fact 30 (f := .free "isinstance") rfl)
      · exact He.free_ok X G (c.fact 31 (f := .free "len") rfl)
      · exact He.free_ok X G (c.fact 32 (f := .free "list") rfl)
      · exact He.free_ok X G (c.fact 33 (f := .free "max") rfl)
      · exact He.free_ok X G (c.fact 34 (f := .free "range") rfl)
      · exact He.free_ok X G (c.fact 35 (f := .free "str") rfl)
      · exact He.free_ok X G (c.fact 36 (f := .free "sum") rfl)
      · exact He.free_ok X G (c.fact 37 (f := .free "tuple") rfl)
      · exact He.free_ok X G (c.fact 38 (f := .free "zip") rfl)
    exact all.mem x hx
  call := fun f n es hx => by
    have all : Alls (fun q : Nat × Nat × List A.D => ∃ F fd ps dvs ds, P q.1 = some F ∧ DefOk (Nn K) T K q.1 F fd ps ∧ Binds K fd ps ds ∧ Vals dvs ds ∧ ∀ H, RDs (Nn K) H q.2.2 dvs) T.calls := by
      refine ⟨?_, ?_, ?_, ?_, ?_, ?_, ?_, ?_, ?_, ?_, ?_, ?_, ?_, ?_, ?_, ?_, ?_, ?_, ?_, ?_, ?_, trivial⟩
      · obtain ⟨fd, F, B⟩ := df0 c; exact ⟨f0, fd, p0, [], [], rfl, F, FunD.bindsN B (fun _ _ _ _ _ _ us hl => match us, hl with | [_], _ => rfl), .nil, fun _ => .nil⟩
      · obtain ⟨fd, F, B⟩ := df1 c; exact ⟨f1, fd, p1, [], [], rfl, F, FunD.bindsN B (fun _ _ _ _ _ _ us hl => match us, hl with | [_], _ => rfl), .nil, fun _ => .nil⟩
      · obtain ⟨fd, F, B⟩ := df2 c; exact ⟨f2, fd, p2, [], [], rfl, F, FunD.bindsN B (fun _ _ _ _ _ _ us hl => match us, hl with | [_, _, _], _ => rfl), .nil, fun _ => .nil⟩
      · obtain ⟨fd, F, B⟩ := df3 c; exact ⟨f3, fd, p3, [], [], rfl, F, FunD.bindsN B (fun _ _ _ _ _ _ us hl => match us, hl with | [_], _ => rfl), .nil, fun _ => .nil⟩
      · obtain ⟨fd, F, B⟩ := df4 c; exact ⟨f4, fd, p4, [], [], rfl, F, FunD.bindsN B (fun _ _ _ _ _ _ us hl => match us, hl with | [_], _ => rfl), .nil, fun _ => .nil⟩
      · obtain ⟨fd, F, B⟩ := df5 c; exact ⟨f5, fd, p5, [], [], rfl, F, FunD.bindsN B (fun _ _ _ _ _ _ us hl => match us, hl with | [_, _], _ => rfl), .nil, fun _ => .nil⟩
      · obtain ⟨fd, F, B⟩ := df6 c; exact ⟨f6, fd, p6, [], [], rfl, F, FunD.bindsN B (fun _ _ _ _ _ _ us hl => match us, hl with | [_, _], _ => rfl), .nil, fun _ => .nil⟩
      · obtain ⟨fd, F, B⟩ := df7 c; exact ⟨f7, fd, p7, [], [], rfl, F, FunD.bindsN B (fun _ _ _ _ _ _ us hl => match us, hl with | [_], _ => rfl), .nil, fun _ => .nil⟩
      · obtain ⟨fd, F, B⟩ := df8 c; exact ⟨f8, fd, p8, [], [], rfl, F, FunD.bindsN B (fun _ _ _ _ _ _ us hl => match us, hl with | [_, _], _ => rfl), .nil, fun _ => .nil⟩
      · obtain ⟨fd, F, B⟩ := df9 c; exact ⟨f9, fd, p9, [], [], rfl, F, FunD.bindsN B (fun _ _ _ _ _ _ us hl => match us, hl with | [_, _], _ => rfl), .nil, fun _ => .nil⟩
      · obtain ⟨fd, F, B⟩ := df10 c; exact ⟨f10, fd, p10, [], [], rfl, F, FunD.bindsN B (fun _ _ _ _ _ _ us hl => match us, hl with | [_, _], _ => rfl), .nil, fun _ => .nil⟩
      · obtain ⟨fd, F, B⟩ := df11 c; exact ⟨f11, fd, p11, [], [], rfl, F, FunD.bindsN B (fun _ _ _ _ _ _ us hl => match us, hl with | [_, _, _, _], _ => rfl), .nil, fun _ => .nil⟩
      · obtain ⟨fd, F, B⟩ := df12 c; exact ⟨f12, fd, p12, [], [], rfl, F, FunD.bindsN B (fun _ _ _ _ _ _ us hl => match us, hl with | [_, _], _ => rfl), .nil, fun _ => .nil⟩
      · obtain ⟨fd, F, B⟩ := df13 c; exact ⟨f13, fd, p13, [], [], rfl, F, FunD.bindsN B (fun _ _ _ _ _ _ us hl => match us, hl with | [_], _ => rfl), .nil, fun _ => .nil⟩
      · obtain ⟨fd, F, B⟩ := df14 c; exact ⟨f14, fd, p14, [], [], rfl, F, FunD.bindsN B (fun _ _ _ _ _ _ us hl => match us, hl with | [_, _], _ => rfl), .nil, fun _ => .nil⟩
      · obtain ⟨fd, F, B⟩ := df15 c; exact ⟨f15, fd, p15, [], [], rfl, F, FunD.bindsN B (fun _ _ _ _ _ _ us hl => match us, hl with | [_], _ => rfl), .nil, fun _ => .nil⟩
      · obtain ⟨fd, F, B⟩ := df16 c; exact ⟨f16, fd, p16, [], [], rfl, F, FunD.bindsN B (fun _ _ _ _ _ _ us hl => match us, hl with | [_], _ => rfl), .nil, fun _ => .nil⟩
      · obtain ⟨fd, F, B⟩ := df17 c; exact ⟨f17, fd, p17, [], [], rfl, F, FunD.bindsN B (fun _ _ _ _ _ _ us hl => match us, hl with | [_, _], _ => rfl), .nil, fun _ => .nil⟩
      · obtain ⟨fd, F, B⟩ := df18 c; exact ⟨f18, fd, p18, [], [], rfl, F, FunD.bindsN B (fun _ _ _ _ _ _ us hl => match us, hl with | [_], _ => rfl), .nil, fun _ => .nil⟩
      · obtain ⟨fd, F, B⟩ := df19 c; exact ⟨f19, fd, p19, [], [], rfl, F, FunD.bindsN B (fun _ _ _ _ _ _ us hl => match us, hl with | [_], _ => rfl), .nil, fun _ => .nil⟩
      · obtain ⟨fd, F, B⟩ := df20 c; exact ⟨f20, fd, p20, [], [], rfl, F, FunD.bindsN B (fun _ _ _ _ _ _ us hl => match us, hl with | [_, _], _ => rfl), .nil, fun _ => .nil⟩
    exact all.mem (f, n, es) hx
  kcall := fun f n ks sh hx => by
    have all : Alls (fun q : Nat × Nat × List PySem.Str × Shp => ∃ F fd ps, P q.1 = some F ∧ DefOk (Nn K) T K q.1 F fd ps ∧ KB (Nn K) K fd ps q.2.1 q.2.2.1 q.2.2.2) T.kcalls := by
      refine trivial
    exact all.mem (f, n, ks, sh) hx
  raise := fun a n fs src hx => by
    have all : Alls (fun q : Nat × Nat × List Nat × List (Sum Nat A.D) => RaiseG (Nn K) K q.1 q.2.1 q.2.2.1 q.2.2.2) T.raises := by
      refine ⟨?_, trivial⟩
      · obtain ⟨fd, F⟩ := c.def_ 22 (d := e0) rfl
        exact ⟨oxB_ok (xo12 cx), ef0, _, _, _, _, _, _, _, _, fd, en0, en0, of_decide_eq_true (xo18 cx), of_decide_eq_true (xo19 cx), F, esc0, FunD.bindsN F (fun _ _ _ _ _ _ us hl => match us, hl with | [_, _], _ => rfl), rfl, by decide, eok0, by decide, by simp [ef0], (List.forall_mem_cons.mpr ⟨of_decide_eq_true (xo14 cx), (List.forall_mem_cons.mpr ⟨of_decide_eq_true (xo17 cx), (fun _ h => nomatch h)⟩)⟩), by simp [ef0], rfl, rfl, by decide +kernel⟩
    exact all.mem (a, n, fs, src) hx
  exm := fun x l hx => by
    have all : Alls (fun q : PySem.Str × List (Nat × Bool) => ∃ k : Addr, mg q.1 = some (.ref k) ∧ ∀ c b, q.2.lookup c = some b → PySem.W.exmOne K (.ref ((Nn K).ca c)) (.ref k) = some b) T.exms := by
      refine ⟨?_, trivial⟩
      · exact ⟨_, He.glo_ok X G (c.fact 22 (f := .glo "NotThere") rfl), fun c b e => tab_ok (f := fun c => PySem.W.exmOne K (.ref (He.ga K (cn c))) (.ref (He.ga K "NotThere"))) (xo20 cx) e⟩
    exact all.mem (x, l) hx
  iss := fun x l hx => by
    have all : Alls (fun q : PySem.Str × List (Nat × Bool) => ∃ k : Addr, mg q.1 = some (.ref k) ∧ ∀ c b, q.2.lookup c = some b → PySem.W.kitOne K (.ref ((Nn K).ca c)) (.ref k) = some b) T.iss := by
      refine ⟨?_, ?_, trivial⟩
      · exact ⟨_, He.glo_ok X G (c.fact 23 (f := .glo "NoTurn") rfl), fun c b e => tab_ok (f := fun c => PySem.W.kitOne K (.ref (He.ga K (cn c))) (.ref (He.ga K "NoTurn"))) (xo21 cx) e⟩
      · exact ⟨_, He.glo_ok X G (c.fact 24 (f := .glo "NoPart") rfl), fun c b e => tab_ok (f := fun c => PySem.W.kitOne K (.ref (He.ga K (cn c))) (.ref (He.ga K "NoPart"))) (xo22 cx) e⟩
    exact all.mem (x, l) hx
  flds := fun n f hx => by
    have all : Alls (fun q : Nat × PySem.Str => (Nn K).fnm q.1 = q.2 ∧ Alls (fun c => PySem.W.findIn K (.ref ((Nn K).ca c)) q.2 = some none) T.xcls) T.flds := by
      refine ⟨?_, ?_, ?_, ?_, trivial⟩
      · exact ⟨rfl, ⟨of_decide_eq_true (xo2 cx), of_decide_eq_true (xo8 cx), of_decide_eq_true (xo14 cx), trivial⟩⟩
      · exact ⟨rfl, ⟨of_decide_eq_true (xo3 cx), of_decide_eq_true (xo9 cx), of_decide_eq_true (xo15 cx), trivial⟩⟩
      · exact ⟨rfl, ⟨of_decide_eq_true (xo4 cx), of_decide_eq_true (xo10 cx), of_decide_eq_true (xo16 cx), trivial⟩⟩
      · exact ⟨rfl, ⟨of_decide_eq_true (xo5 cx), of_decide_eq_true (xo11 cx), of_decide_eq_true (xo17 cx), trivial⟩⟩
    exact ⟨(all.mem (n, f) hx).1, fun c hc => (all.mem (n, f) hx).2.mem c hc⟩
  xc := fun d hx => by
    have all : Alls (fun d => ExcC K ((Nn K).ca d) ∧ XfC K ((Nn K).ca d)) T.xcls := ⟨excB_ok (xo1 cx), excB_ok (xo7 cx), excB_ok (xo13 cx), trivial⟩
    exact all.mem d hx
  hot := rfl
  xv := rfl
  cold := rfl
end
/-- the law, from what the small language says of it -/
theorem ends (sp : ∀ ns : List Int, ns.length ≤ 63 → callW P 20 21 [.lis (ns.map .int)] (fun _ => none) (fun d _ => d = .bl true) (fun _ _ => False)) : PySem.Challenge.rw_advowson_k04_parts_and_paths.Holds := by
  w_on; o_law
  refine HandSHeadRun.head_any (r := PySem.W.OpenLaw.row PySem.Challenge.rw_advowson_k04_parts_and_paths) (q := PySem.W.view (PySem.W.OpenLaw.row PySem.Challenge.rw_advowson_k04_parts_and_paths).prog [27]) (H := hk) (ob := ob) (M := 2000) (loose := names) (d := HandSHeadRun.topDef (PySem.W.OpenLaw.row PySem.Challenge.rw_advowson_k04_parts_and_paths).prog 27) (kwd := []) ob_eq
    (by kernel_rfl) (fun s => by kernel_rfl) run (by kernel_rfl) (by kernel_rfl) (by kernel_rfl) (by rfl) (by first | assumption | decide +kernel) (by decide +kernel) ⟨rfl, rfl, rfl, rfl, rfl, by decide +kernel⟩ ?hw ?hc
  case hw => w_witness2
  case hc =>
    refine A.walkA (l := PySem.Challenge.rw_advowson_k04_parts_and_paths) (n := 63) (k := 20 + 2) (x := "_law_script") rfl (by decide) (by kernel_rfl) ⟨rfl, by decide, by decide⟩ ?F
    intro w mg fa0 h Y G hmg0
    obtain ⟨K, KX, c, cx⟩ := Y
    have hmg : mg ("law" : PySem.Str) = some (.ref fa0) := by
      have e : (HandSHeadRun.topDef (PySem.W.OpenLaw.row PySem.Challenge.rw_advowson_k04_parts_and_paths).prog 27).name = ("law" : PySem.Str) := by kernel_rfl
      rw [← e]
      exact hmg0
    have e := hmg.symm.trans (He.glo_ok KX G (c.fact 21 (f := .glo "law") rfl))
    cases e
    obtain ⟨fd, F, B⟩ := df21 c
    exact ⟨Nn K, callW P 20, 21, fd, KX, fun s v => FunD.bindsA (ps := p21) B (fun _ _ _ _ _ _ us hl => match us, hl with | [_], _ => rfl) s [v] rfl, fun base _ _ => fnOk (gf KX G c cx) 20 21 _ _ _ rfl F, sp⟩
end K04
end
theorem PySem.Challenge.cw_advowson_k04_parts_and_paths_holds : PySem.Challenge.rw_advowson_k04_parts_and_paths.Holds := by
  exact K04.ends fun ns hl => A.law04_ok rfl rfl rfl rfl rfl rfl rfl rfl rfl rfl rfl rfl rfl rfl rfl rfl rfl rfl rfl rfl rfl rfl ns hl
