import PyProof.Rows.All
import Wide.All
import OpenK.AllK
import Wide.FinOn
import HandS.ForMost
import HandS.ForExc
import HandS.Wide
import HandS.Walk
import HandS.Zip
import HandS.FStr
import HandS.IsInst
import HandS.TryMany
import HandS.CallSlots
import HandS.SetKeys
import HandS.TupAny
import HandS.Conv
import HandS.Codes
import HandS.ExcField
import HandS.Defaults
import HandS.Flow
import HandS.WordsDict
import HandS.RaiseMore
import HandS.More
import HandS.Small
import KE.GoesEnumKw
import HandS.Ends
import HandS.HeadHook2
import KE.KStateDown
import Lean
import HandS.Head0
import HandS.Head1
import HandS.Head2
import PySem.Challenge.RW_advowson_k02_rights_written
set_option Elab.async false
set_option linter.all false
set_option maxRecDepth 100000
section
set_option Elab.async false
set_option linter.all false
set_option maxRecDepth 100000
/-! A1: values as trees, states of mutable objects, how they stand in the layer's heap. -/
namespace A
open PySem L2

/-- a value: tuples are trees; mutable objects stand at addresses; a def of the module by its number; a caught error by class and fields; lis: a list that nobody changes (the script) -/
inductive D where
  | non
  | bl (b : Bool)
  | int (i : Int)
  | str (s : Str)
  | tup (l : List D)
  | lis (l : List D)
  | ref (a : Addr)
  | fn (f : Nat)
  | exc (c : Nat) (fs : List Nat) (ds : List D)
  deriving Inhabited

/-- a mutable object -/
inductive MO where
  | lst (xs : List D)
  | dic (kvs : List (Key × D))
  | dicF (kvs : List (Key × D))
  | ins (c : Nat) (fs : List (Nat × D))

abbrev Sta := Addr → Option MO
abbrev Env := List (Option D)
def ups (S : Sta) (a : Addr) (o : MO) : Sta := fun b => if b = a then some o else S b
theorem ups_same {S : Sta} {a : Addr} {o : MO} : ups S a o a = some o := by unfold ups; rw [if_pos rfl]
theorem ups_ne {S : Sta} {a b : Addr} {o : MO} (h : b ≠ a) : ups S a o b = S b := by unfold ups; rw [if_neg h]
theorem ups_ups {S : Sta} {a : Addr} {o u : MO} : ups (ups S a o) a u = ups S a u := by
  funext b; unfold ups; split <;> rfl
/-- less is known -/
def Sub (S S' : Sta) : Prop := ∀ a o, S a = some o → S' a = some o
theorem Sub.refl (S : Sta) : Sub S S := fun _ _ h => h
theorem Sub.trans {S S1 S2 : Sta} (h : Sub S S1) (h' : Sub S1 S2) : Sub S S2 := fun a o q => h' a o (h a o q)
theorem sne {S : Sta} {a b : Addr} {o : MO} (h : S a = some o) (h' : S b = none) : a ≠ b := by
  intro e; rw [e, h'] at h; cases h
theorem Sub.ups {S S' : Sta} {a : Addr} {o : MO} (h : Sub S S') (n : S a = none) : Sub S (ups S' a o) := fun b u q => by
  rw [ups_ne (sne q n)]; exact h b u q

/-- how numbers name things -/
structure Nm where
  K : PySem.W.Frag
  fa : Nat → Addr
  ca : Nat → Addr
  fnm : Nat → Str
  xa : Addr → Option (Nat × Addr)

section
variable (N : Nm) (H : Hp)
mutual
def RD : D → V → Prop
  | .non, v => v = .non
  | .bl b, v => v = .bl b
  | .int i, v => v = .int i
  | .str s, v => v = .str s
  | .tup l, v => ∃ a vs, v = .ref a ∧ SqT N.K H a vs ∧ RDs l vs
  | .lis l, v => ∃ a vs, v = .ref a ∧ ((∃ o, H a = some (.frz o (.lst vs))) ∨ SqL N.K (fun _ => none) a vs) ∧ RDs l vs
  | .ref a, v => v = .ref a
  | .fn f, v => v = .ref (N.fa f)
  | .exc c fs ds, v => ∃ (a d : Addr) (xs : List (Str × V)) (vs : List V), v = .ref a ∧ N.xa a = some (c, d) ∧ H d = some (.xd xs) ∧ RDs ds vs ∧ fs.length = vs.length ∧ ∀ (i : Nat) f v, fs[i]? = some f → vs[i]? = some v → xs.lookup (N.fnm f) = some v
def RDs : List D → List V → Prop
  | [], vs => vs = []
  | d :: ds, vs => ∃ v r, vs = v :: r ∧ RD d v ∧ RDs ds r
end
def RO (a : Addr) : MO → Prop
  | .lst xs => ∃ vs, H a = some (.lst vs) ∧ RDs N H xs vs
  | .dic kvs => ∃ ws : List (Key × V), H a = some (.dK ws) ∧ ws.map (·.1) = kvs.map (·.1) ∧ RDs N H (kvs.map (·.2)) (ws.map (·.2))
  | .dicF kvs => ∃ (od : Obj) (ws : List (Key × V)), H a = some (.frz od (.dK ws)) ∧ ws.map (·.1) = kvs.map (·.1) ∧ RDs N H (kvs.map (·.2)) (ws.map (·.2))
  | .ins c fs => ∃ (dx : Addr) (gs : List (Str × V)), H a = some (.ins (N.ca c) dx gs) ∧ gs.map (·.1) = fs.map (fun p => N.fnm p.1) ∧ RDs N H (fs.map (·.2)) (gs.map (·.2))
def RH (S : Sta) : Prop := ∀ a o, S a = some o → RO N H a o
def RS (σ : L2.St) (ρ : Env) : Prop := σ.length = ρ.length ∧ ∀ (i : Nat) d, ρ[i]? = some (some d) → ∃ v, σ[i]? = some (some v) ∧ RD N H d v
end
/-- what a step may change: objects that S tells of, and new ones -/
def Fr (S : Sta) (H : Hp) (S' : Sta) (H' : Hp) : Prop := ∀ a o, H a = some o → S a = none → H' a = some o ∧ S' a = none

section
variable {N : Nm} {H H' H1 H2 : Hp} {S S' S1 S2 : Sta}
theorem Fr.refl : Fr S H S H := fun _ _ h n => ⟨h, n⟩
theorem Fr.trans (f : Fr S H S1 H1) (g : Fr S1 H1 S2 H2) : Fr S H S2 H2 := fun a o h n => let ⟨h1, n1⟩ := f a o h n; g a o h1 n1
theorem Fr.sub (f : Fr S H S1 H1) (h : Sub S2 S1) : Fr S H S2 H1 := fun a o q n => by
  obtain ⟨h1, n1⟩ := f a o q n
  refine ⟨h1, ?_⟩
  cases e : S2 a with
  | none => rfl
  | some u => rw [h a u e] at n1; cases n1
theorem RH.sub (r : RH N H S) (h : Sub S' S) : RH N H S' := fun a o q => r a o (h a o q)
/-- an object of a kind that S never tells of -/
def Deep : HO → Bool
  | .tup _ => true
  | .frz _ (.tup _) => true
  | .frz _ (.lst _) => true
  | .ext _ => true
  | .xd _ => true
  | _ => false
theorem RH.deep (r : RH N H S) {a : Addr} {o : HO} (h : H a = some o) (d : Deep o = true) : S a = none := by
  cases e : S a with
  | none => rfl
  | some u =>
    have q := r a u e
    cases u with
    | lst xs => obtain ⟨vs, z, _⟩ := q; rw [h] at z; cases z; cases d
    | dic xs => obtain ⟨vs, z, _⟩ := q; rw [h] at z; cases z; cases d
    | dicF xs => obtain ⟨_, vs, z, _⟩ := q; rw [h] at z; cases z; cases d
    | ins c fs => obtain ⟨_, vs, z, _⟩ := q; rw [h] at z; cases z; cases d
/-- deep objects stay -/
def Dle (H H' : Hp) : Prop := ∀ a o, H a = some o → Deep o = true → H' a = some o
theorem Dle.refl : Dle H H := fun _ _ h _ => h
theorem Dle.trans (f : Dle H H1) (g : Dle H1 H2) : Dle H H2 := fun a o h d => g a o (f a o h d) d
theorem Fr.dle (f : Fr S H S' H') (r : RH N H S) : Dle H H' := fun a o h d => (f a o h (r.deep h d)).1
theorem Dle.sqT (f : Dle H H') {K : PySem.W.Frag} {a : Addr} {vs : List V} (h : SqT K H a vs) : SqT K H' a vs := by
  rcases h with (h | ⟨o, h⟩) | h
  · exact .inl (.inl (f _ _ h rfl))
  · exact .inl (.inr ⟨o, f _ _ h rfl⟩)
  · exact .inr h
mutual
theorem RD.mono (f : Dle H H') : ∀ (d : D) (v : V), RD N H d v → RD N H' d v
  | .non, _, h => by simp only [RD] at h ⊢; exact h
  | .bl _, _, h => by simp only [RD] at h ⊢; exact h
  | .int _, _, h => by simp only [RD] at h ⊢; exact h
  | .str _, _, h => by simp only [RD] at h ⊢; exact h
  | .ref _, _, h => by simp only [RD] at h ⊢; exact h
  | .fn _, _, h => by simp only [RD] at h ⊢; exact h
  | .tup l, v, h => by
    simp only [RD] at h ⊢
    obtain ⟨a, vs, e, q, r⟩ := h
    exact ⟨a, vs, e, f.sqT q, RDs.mono f l vs r⟩
  | .lis l, v, h => by
    simp only [RD] at h ⊢
    obtain ⟨a, vs, e, q, r⟩ := h
    exact ⟨a, vs, e, q.imp (fun ⟨o, z⟩ => ⟨o, f _ _ z rfl⟩) id, RDs.mono f l vs r⟩
  | .exc c fs ds, v, h => by
    simp only [RD] at h ⊢
    obtain ⟨a, d, xs, vs, e, h1, h2, r, q⟩ := h
    exact ⟨a, d, xs, vs, e, h1, f _ _ h2 rfl, RDs.mono f ds vs r, q⟩
theorem RDs.mono (f : Dle H H') : ∀ (ds : List D) (vs : List V), RDs N H ds vs → RDs N H' ds vs
  | [], _, h => by simp only [RDs] at h ⊢; exact h
  | d :: ds, vs, h => by
    simp only [RDs] at h ⊢
    obtain ⟨v, r, e, h1, h2⟩ := h
    exact ⟨v, r, e, RD.mono f d v h1, RDs.mono f ds r h2⟩
end
theorem RS.mono (f : Dle H H') {σ : L2.St} {ρ : Env} (h : RS N H σ ρ) : RS N H' σ ρ := ⟨h.1, fun i d e => let ⟨v, q, r⟩ := h.2 i d e; ⟨v, q, RD.mono f d v r⟩⟩
theorem RDs.length : ∀ {ds : List D} {vs : List V}, RDs N H ds vs → ds.length = vs.length
  | [], _, h => by simp only [RDs] at h; rw [h]; rfl
  | d :: ds, vs, h => by
    simp only [RDs] at h
    obtain ⟨v, r, e, h1, h2⟩ := h
    rw [e, List.length_cons, List.length_cons, RDs.length h2]
theorem RDs.get : ∀ {ds : List D} {vs : List V} {i : Nat} {d : D}, RDs N H ds vs → ds[i]? = some d → ∃ v, vs[i]? = some v ∧ RD N H d v
  | [], _, _, _, h, e => by simp at e
  | d :: ds, vs, i, x, h, e => by
    simp only [RDs] at h
    obtain ⟨v, r, rfl, h1, h2⟩ := h
    cases i with
    | zero => simp at e; subst e; exact ⟨v, rfl, h1⟩
    | succ i => simp at e; obtain ⟨w, q, z⟩ := RDs.get h2 e; exact ⟨w, by simpa using q, z⟩
theorem RDs.nil : RDs N H [] [] := by simp only [RDs]
theorem RDs.cons {d : D} {v : V} {ds : List D} {vs : List V} (h : RD N H d v) (r : RDs N H ds vs) : RDs N H (d :: ds) (v :: vs) := by
  simp only [RDs]; exact ⟨v, vs, rfl, h, r⟩
theorem RDs.uncons {d : D} {ds : List D} {vs : List V} (h : RDs N H (d :: ds) vs) : ∃ v r, vs = v :: r ∧ RD N H d v ∧ RDs N H ds r := by
  simp only [RDs] at h; exact h
theorem RDs.unnil {vs : List V} (h : RDs N H [] vs) : vs = [] := by
  simp only [RDs] at h; exact h
theorem RDs.append : ∀ {ds es : List D} {vs ws : List V}, RDs N H ds vs → RDs N H es ws → RDs N H (ds ++ es) (vs ++ ws)
  | [], _, _, _, h, r => by rw [h.unnil]; exact r
  | d :: ds, es, vs, ws, h, r => by
    obtain ⟨v, t, rfl, h1, h2⟩ := h.uncons
    exact .cons h1 (RDs.append h2 r)
theorem RDs.take : ∀ {ds : List D} {vs : List V} (n : Nat), RDs N H ds vs → RDs N H (ds.take n) (vs.take n)
  | _, _, 0, _ => by rw [List.take_zero, List.take_zero]; exact .nil
  | [], _, n + 1, h => by rw [h.unnil]; exact .nil
  | d :: ds, vs, n + 1, h => by
    obtain ⟨v, t, rfl, h1, h2⟩ := h.uncons
    exact .cons h1 (RDs.take n h2)
theorem RDs.drop : ∀ {ds : List D} {vs : List V} (n : Nat), RDs N H ds vs → RDs N H (ds.drop n) (vs.drop n)
  | _, _, 0, h => h
  | [], _, n + 1, h => by rw [h.unnil]; exact .nil
  | d :: ds, vs, n + 1, h => by
    obtain ⟨v, t, rfl, h1, h2⟩ := h.uncons
    exact RDs.drop n h2
theorem RDs.set : ∀ {ds : List D} {vs : List V} (i : Nat) {d : D} {v : V}, RD N H d v → RDs N H ds vs → RDs N H (ds.set i d) (vs.set i v)
  | [], _, i, d, v, r, h => by rw [h.unnil]; exact .nil
  | x :: ds, vs, 0, d, v, r, h => by
    obtain ⟨w, t, rfl, h1, h2⟩ := h.uncons
    exact .cons r h2
  | x :: ds, vs, i + 1, d, v, r, h => by
    obtain ⟨w, t, rfl, h1, h2⟩ := h.uncons
    exact .cons h1 (RDs.set i r h2)
theorem RS.set {σ : L2.St} {ρ : Env} (h : RS N H σ ρ) (i : Nat) {d : D} {v : V} (r : RD N H d v) : RS N H (σ.set i (some v)) (ρ.set i (some d)) := by
  refine ⟨by simpa using h.1, fun j x e => ?_⟩
  by_cases hj : i = j
  · subst hj
    by_cases hl : i < ρ.length
    · rw [List.getElem?_set_self hl] at e
      cases e
      exact ⟨v, by rw [List.getElem?_set_self (by rw [h.1]; exact hl)], r⟩
    · rw [List.getElem?_eq_none (by simpa using hl)] at e; cases e
  · rw [List.getElem?_set_ne hj] at e
    obtain ⟨w, q, z⟩ := h.2 j x e
    exact ⟨w, by rw [List.getElem?_set_ne hj]; exact q, z⟩
theorem RS.unset {σ : L2.St} {ρ : Env} (h : RS N H σ ρ) (i : Nat) : RS N H (σ.set i none) (ρ.set i none) := by
  refine ⟨by simpa using h.1, fun j x e => ?_⟩
  by_cases hj : i = j
  · subst hj
    by_cases hl : i < ρ.length
    · rw [List.getElem?_set_self hl] at e; cases e
    · rw [List.getElem?_eq_none (by simpa using hl)] at e; cases e
  · rw [List.getElem?_set_ne hj] at e
    obtain ⟨w, q, z⟩ := h.2 j x e
    exact ⟨w, by rw [List.getElem?_set_ne hj]; exact q, z⟩
/-- the abstract heap gains an object where nothing was -/
theorem dle_new {p : Addr} {o : HO} (h : H p = none) : Dle H (upd H p o) := fun a u q _ => by rw [L2.upd_ne (L2.ne_of_none q h)]; exact q
/-- a shallow object is written -/
theorem dle_put {p : Addr} {o u : HO} (h : H p = some u) (d : Deep u = false) : Dle H (upd H p o) := fun a x q dx => by
  rw [L2.upd_ne]; · exact q
  intro e; rw [e, h] at q; cases q; rw [d] at dx; cases dx
theorem RO.mono (f : Dle H H') {a : Addr} {o : MO} (e : H' a = H a) (r : RO N H a o) : RO N H' a o := by
  cases o with
  | lst xs => obtain ⟨vs, h, q⟩ := r; exact ⟨vs, e.trans h, RDs.mono f _ _ q⟩
  | dic kvs => obtain ⟨ws, h, k, q⟩ := r; exact ⟨ws, e.trans h, k, RDs.mono f _ _ q⟩
  | dicF kvs => obtain ⟨od, ws, h, k, q⟩ := r; exact ⟨od, ws, e.trans h, k, RDs.mono f _ _ q⟩
  | ins c fs => obtain ⟨dx, gs, h, k, q⟩ := r; exact ⟨dx, gs, e.trans h, k, RDs.mono f _ _ q⟩
theorem RH.fresh (r : RH N H S) {a : Addr} (h : H a = none) : S a = none := by
  cases e : S a with
  | none => rfl
  | some u =>
    have q := r a u e
    cases u with
    | lst xs => obtain ⟨vs, z, _⟩ := q; rw [h] at z; cases z
    | dic xs => obtain ⟨vs, z, _⟩ := q; rw [h] at z; cases z
    | dicF xs => obtain ⟨_, vs, z, _⟩ := q; rw [h] at z; cases z
    | ins c fs => obtain ⟨_, vs, z, _⟩ := q; rw [h] at z; cases z
/-- a new object -/
theorem RH.new (r : RH N H S) {p : Addr} {o : HO} {m : MO} (h : H p = none) (hm : RO N (upd H p o) p m) : RH N (upd H p o) (ups S p m) := fun a u q => by
  by_cases e : a = p
  · subst e; rw [ups_same] at q; cases q; exact hm
  · rw [ups_ne e] at q
    exact (r a u q).mono (dle_new h) (L2.upd_ne e)
/-- one that S does not tell of -/
theorem RH.skip (r : RH N H S) {p : Addr} {o : HO} (h : H p = none) : RH N (upd H p o) S := fun a u q => by
  have e : a ≠ p := sne q (r.fresh h)
  exact (r a u q).mono (dle_new h) (L2.upd_ne e)
/-- an object is changed -/
theorem RH.put (r : RH N H S) {p : Addr} {o u : HO} {m : MO} (h : H p = some u) (d : Deep u = false) (hm : RO N (upd H p o) p m) : RH N (upd H p o) (ups S p m) := fun a x q => by
  by_cases e : a = p
  · subst e; rw [ups_same] at q; cases q; exact hm
  · rw [ups_ne e] at q
    exact (r a x q).mono (dle_put h d) (L2.upd_ne e)
theorem Fr.new {p : Addr} {o : HO} {m : MO} (h : H p = none) : Fr S H (ups S p m) (upd H p o) := fun a u q n => by
  have e : a ≠ p := L2.ne_of_none q h
  exact ⟨by rw [L2.upd_ne e]; exact q, by rw [ups_ne e]; exact n⟩
theorem Fr.skip {p : Addr} {o : HO} (h : H p = none) : Fr S H S (upd H p o) := fun a u q n => by
  have e : a ≠ p := L2.ne_of_none q h
  exact ⟨by rw [L2.upd_ne e]; exact q, n⟩
theorem Fr.put {p : Addr} {o : HO} {m k : MO} (h : S p = some k) : Fr S H (ups S p m) (upd H p o) := fun a u q n => by
  have e : a ≠ p := fun e => by rw [e, h] at n; cases n
  exact ⟨by rw [L2.upd_ne e]; exact q, by rw [ups_ne e]; exact n⟩
end
end A
end
section
set_option Elab.async false
set_option linter.all false
set_option maxRecDepth 100000
/-! A2: the small language and its weakest preconditions. -/
namespace A
open PySem L2

inductive Bo where | add | sub | mul | div | mod | pow
inductive Co where | eq | ne | lt | le | gt | ge | is | isn | inn | nin
/-- built-ins of one value -/
inductive B1 where
  | len | int | str | repr | list | tuple | sum | max | min | minD | all | any | sorted | dict | setlen | setsorted | bool
  deriving DecidableEq
/-- built-ins of two values -/
inductive B2 where | max | min
/-- methods of built-in values -/
inductive Bm where | append | extend | pop | get | setd | join | split | ends | rstrip | clear | upper | replace
/-- a call's parameters: the written values and the defaults behind them, or each by its place among the written ones -/
inductive Shp where
  | app (ds : List D)
  | perm (l : List (Sum Nat D))
/-- kinds for isinstance -/
inductive Kd where | int | str | bool | list | tuple | own (cs : List Nat)

mutual
inductive E where
  | v (i : Nat)
  | c (d : D)
  | bin (o : Bo) (a b : E)
  | neg (a : E)
  | not (a : E)
  | and (a b : E)
  | or (a b : E)
  | cmp (o : Co) (a b : E)
  | chn (a : E) (o1 : Co) (b : E) (o2 : Co) (c : E)
  | ite (t a b : E)
  | tup (es : Es)
  | lst (es : Es)
  | dct (kvs : Es)
  | ix (a i : E)
  | gix (kvs : List (Str × D)) (i : E)
  | gget (kvs : List (Str × D)) (i d : E)
  | sl (a lo hi : E)
  | at (a : E) (f : Nat)
  | call (f : Nat) (sh : Shp) (es : Es)
  | callv (g : E) (es : Es)
  | new (c f : Nat) (sh : Shp) (es : Es)
  | meth (o : E) (m : Nat) (sh : Shp) (es : Es)
  | b1 (b : B1) (a : E)
  | b2 (b : B2) (a c : E)
  | bm (m : Bm) (o : E) (es : Es)
  | lc (elt : E) (own : List Nat) (tg : List Nat) (it : It) (cond : E)
  | lcD (elt : E) (own : List Nat) (tg : List Nat) (vals : Bool) (e : E) (cond : E)
  | isi (e : E) (ks : List Kd)
  | fs (es : Es)
  | nev
  | nil
inductive Es where
  | nil
  | cons (a : E) (r : Es)
inductive It where
  | seq (e : E)
  | rng (e : E)
  | enm (e : E) (st : Nat)
  | zip (a b : E) (strict : Bool)
end

inductive Tg where
  | n (is : List Nat)
  | ix (a i : E)
  | at (a : E) (f : Nat)
  | vix (j : Nat) (a i : E)

mutual
inductive S where
  | asg (t : Tg) (e : E)
  | par (i j : Nat) (a b : E)
  | aug (o : Bo) (i : Nat) (e : E)
  | augI (o : Bo) (a i e : E)
  | augA (o : Bo) (a : E) (f : Nat) (e : E)
  | ex (e : E)
  | ret (e : E)
  | retN
  | ite (t : E) (a b : Ss)
  | whl (t : E) (b : Ss)
  | for_ (t : Tg) (it : It) (b : Ss)
  | forD (t : Tg) (vals : Bool) (e : E) (b : Ss)
  | raise (c : Nat) (fs : List Nat) (src : List (Sum Nat D)) (es : Es) (frm : Bool)
  | try_ (b : Ss) (hs : Hs)
  | pass
  | brk
  | cont
  | nev
inductive Ss where
  | nil
  | cons (s : S) (r : Ss)
inductive Hs where
  | nil
  | cons (cs : List Nat) (i : Option Nat) (b : Ss) (r : Hs)
end

/-! ### semantics by values -/
abbrev K := D → Sta → Prop
/-- calls: the def's number, the values of its parameters, the state, the end, the error's end -/
abbrev Orc := Nat → List D → Sta → K → K → Prop
/-- the def of a class's method -/
def mth (c m : Nat) : Nat := 1000 * (c + 1) + m
def mLen : Nat := 1
def mStr : Nat := 2
def mRepr : Nat := 3
def mEq : Nat := 4

def atD (xs : List D) (i : Int) : Option D := L2.atI xs i
def cutD (xs : List D) (lo hi : Option Int) : List D := (xs.drop (HT.sIx xs.length 0 lo)).take (HT.sIx xs.length xs.length hi - HT.sIx xs.length 0 lo)
def keyD : D → Option Key
  | .int i => some (.inl i)
  | .str s => some (.inr s)
  | _ => none
def dKey : Key → D
  | .inl i => .int i
  | .inr s => .str s
def kget (kvs : List (Key × D)) (k : Key) : Option D := (kvs.find? fun p => decide (p.1 = k)).map (·.2)
def kput (kvs : List (Key × D)) (k : Key) (d : D) : List (Key × D) :=
  if kvs.any (fun p => decide (p.1 = k)) then kvs.map (fun p => if p.1 = k then (p.1, d) else p) else kvs ++ [(k, d)]
def kdel (kvs : List (Key × D)) (k : Key) : List (Key × D) := kvs.filter fun p => decide (p.1 ≠ k)
def fget (fs : List (Nat × D)) (f : Nat) : Option D := fs.lookup f
def fput (f : Nat) (d : D) : List (Nat × D) → List (Nat × D)
  | [] => [(f, d)]
  | (g, x) :: r => if g = f then (g, d) :: r else (g, x) :: fput f d r
/-- the items of what is walked or read -/
def items (S : Sta) : D → Option (List D)
  | .tup l => some l
  | .lis l => some l
  | .str s => some (s.cps.toList.map fun c => .str ⟨#[c]⟩)
  | .ref a => match S a with
    | some (.lst xs) => some xs
    | _ => none
  | _ => none
/-- what must stay while it is walked -/
def holds (S : Sta) : D → List (Addr × MO)
  | .ref a => match S a with
    | some o => [(a, o)]
    | none => []
  | _ => []
def Held (h : List (Addr × MO)) (S : Sta) : Prop := ∀ p ∈ h, S p.1 = some p.2

mutual
def toP : D → Option PyData
  | .non => some .none
  | .bl b => some (.bool b)
  | .int i => some (.int i)
  | .str s => some (.str s)
  | .tup l => (toPs l).map .tuple
  | .lis l => (toPs l).map .list
  | _ => none
def toPs : List D → Option (List PyData)
  | [] => some []
  | d :: r => match toP d, toPs r with
    | some x, some xs => some (x :: xs)
    | _, _ => none
end
def toPS (S : Sta) : D → Option PyData
  | .ref a => match S a with
    | some (.lst xs) => (toPs xs).map .list
    | _ => none
  | d => toP d

def wtru (S : Sta) (d : D) (P : Bool → Prop) : Prop := match d with
  | .non => P false
  | .bl b => P b
  | .int i => P (i != 0)
  | .str s => s.length ≤ sizeLine ∧ P (s.length != 0)
  | .tup l => P (!l.isEmpty)
  | .lis l => P (!l.isEmpty)
  | .ref a => (match S a with
    | some (.lst xs) => P (!xs.isEmpty)
    | some (.dic kvs) => P (!kvs.isEmpty)
    | _ => False)
  | _ => False

def MulOk (i j : Int) : Prop := L2.CMul i j ∨ L2.CMulW i j
def wbin (o : Bo) (x y : D) (S : Sta) (Q : K) : Prop := match o, x, y with
  | .add, .int i, .int j => Q (.int (i + j)) S
  | .add, .int i, .bl b => Q (.int (i + (if b then 1 else 0))) S
  | .add, .str a, .str b => a.length + b.length ≤ sizeLine ∧ Q (.str (a ++ b)) S
  | .add, .tup l, .tup m => l.length + m.length ≤ sizeLine ∧ Q (.tup (l ++ m)) S
  | .add, .ref a, .ref b => (match S a, S b with
    | some (.lst xs), some (.lst ys) => xs.length + ys.length ≤ sizeLine ∧ ∀ p, S p = none → Q (.ref p) (ups S p (.lst (xs ++ ys)))
    | _, _ => False)
  | .sub, .int i, .int j => Q (.int (i - j)) S
  | .mul, .int i, .int j => MulOk i j ∧ Q (.int (i * j)) S
  | .mul, .ref a, .int k => (match S a with
    | some (.lst xs) => -(2 ^ 63) ≤ k ∧ k < 2 ^ 63 ∧ xs.length * k.toNat ≤ sizeLine ∧ ∀ p, S p = none → Q (.ref p) (ups S p (.lst (List.replicate k.toNat xs).flatten))
    | _ => False)
  | .div, .int i, .int j => L2.CDivW i j ∧ Q (.int (i / j)) S
  | .mod, .int i, .int j => 0 < j ∧ Q (.int (i % j)) S
  | .pow, .int i, .int j => L2.CPow i j ∧ Q (.int (i ^ j.toNat)) S
  | _, _, _ => False

/-- op=, on values that are not changed in place -/
def wip (o : Bo) (x y : D) (S : Sta) (Q : K) : Prop := match o, x, y with
  | .add, .int i, .int j => Q (.int (i + j)) S
  | .add, .str a, .str b => a.length + b.length ≤ sizeLine ∧ Q (.str (a ++ b)) S
  | .sub, .int i, .int j => Q (.int (i - j)) S
  | .mul, .int i, .int j => L2.CMul i j ∧ Q (.int (i * j)) S
  | .div, .int i, .int j => L2.CDiv i j ∧ Q (.int (i / j)) S
  | .mod, .int i, .int j => 0 < j ∧ Q (.int (i % j)) S
  | _, _, _ => False

def flatD : D → Bool
  | .non => true | .bl _ => true | .int _ => true | .str _ => true | _ => false
/-- == of flat values as Python has it -/
def eqF : D → D → Bool
  | .non, .non => true
  | .bl a, .bl b => a == b
  | .int i, .int j => i == j
  | .str x, .str y => x == y
  | .bl a, .int j => (if a then (1 : Int) else 0) == j
  | .int i, .bl b => i == (if b then (1 : Int) else 0)
  | _, _ => false
/-- both sides are data: the answer -/
def eqDD (S : Sta) (x y : D) (P : Bool → Prop) : Prop := ∃ p q, toPS S x = some p ∧ toPS S y = some q ∧ SeqAt.shaped p = true ∧ SeqAt.shaped q = true ∧ P (PyData.eqv p q)
/-- == of dicts of flat values, the right one empty -/
def eqW (S : Sta) (x y : D) (P : Bool → Prop) : Prop := match x, y with
  | .int i, .int j => P (i == j)
  | .str i, .str j => P (i == j)
  | .bl i, .bl j => P (i == j)
  | .non, .non => P true
  | .non, .int _ => P false
  | .int _, .non => P false
  | .non, .str _ => P false
  | .str _, .non => P false
  | .non, .bl _ => P false
  | .bl _, .non => P false
  | .int _, .str _ => P false
  | .str _, .int _ => P false
  | .bl _, .str _ => P false
  | .str _, .bl _ => P false
  | x, y => eqDD S x y P
def inList (x : D) (xs : List D) : Bool := xs.any fun y => eqF y x
def wcmp (C : Orc) (o : Co) (x y : D) (S : Sta) (Q : Bool → Sta → Prop) : Prop := match o with
  | .lt => (match x, y with | .int i, .int j => Q (decide (i < j)) S | _, _ => False)
  | .le => (match x, y with | .int i, .int j => Q (decide (i ≤ j)) S | _, _ => False)
  | .gt => (match x, y with | .int i, .int j => Q (decide (j < i)) S | _, _ => False)
  | .ge => (match x, y with | .int i, .int j => Q (decide (j ≤ i)) S | _, _ => False)
  | .is => (match y with
    | .non => Q (match x with | .non => true | _ => false) S
    | _ => False)
  | .isn => (match y with
    | .non => Q (match x with | .non => false | _ => true) S
    | _ => False)
  | .eq => (match x with
    | .ref a => (match S a with
      | some (.ins c _) => C (mth c mEq) [x, y] S (fun r S' => ∃ b, r = .bl b ∧ Q b S') fun _ _ => False
      | _ => eqW S x y fun b => Q b S)
    | x => eqW S x y fun b => Q b S)
  | .ne => (match x with
    | .ref a => (match S a with
      | some (.ins c _) => C (mth c mEq) [x, y] S (fun r S' => ∃ b, r = .bl b ∧ Q (!b) S') fun _ _ => False
      | _ => eqW S x y fun b => Q (!b) S)
    | x => eqW S x y fun b => Q (!b) S)
  | .inn => (match x, y with
    | .str c, .str z => ∃ n, c = ⟨#[n]⟩ ∧ Q (decide (n ∈ z.cps.toList)) S
    | x, .tup l => flatD x = true ∧ l.all flatD = true ∧ Q (inList x l) S
    | x, .ref a => (match S a with
      | some (.lst l) => flatD x = true ∧ l.all flatD = true ∧ Q (inList x l) S
      | some (.dic kvs) => ∃ k, keyD x = some k ∧ Q (kget kvs k).isSome S
      | some (.dicF kvs) => ∃ k, keyD x = some k ∧ Q (kget kvs k).isSome S
      | _ => False)
    | _, _ => False)
  | .nin => (match x, y with
    | .str c, .str z => ∃ n, c = ⟨#[n]⟩ ∧ Q (!decide (n ∈ z.cps.toList)) S
    | x, .tup l => flatD x = true ∧ l.all flatD = true ∧ Q (!inList x l) S
    | x, .ref a => (match S a with
      | some (.lst l) => flatD x = true ∧ l.all flatD = true ∧ Q (!inList x l) S
      | some (.dic kvs) => ∃ k, keyD x = some k ∧ Q (!(kget kvs k).isSome) S
      | some (.dicF kvs) => ∃ k, keyD x = some k ∧ Q (!(kget kvs k).isSome) S
      | _ => False)
    | _, _ => False)

def wix (x i : D) (S : Sta) (Q : K) : Prop := match x with
  | .tup l => (match i with | .int k => ∃ d, L2.atI l k = some d ∧ Q d S | _ => False)
  | .lis l => (match i with | .int k => ∃ d, L2.atI l k = some d ∧ Q d S | _ => False)
  | .str z => (match i with | .int k => z.length ≤ sizeLine ∧ ∃ n, L2.atI z.cps.toList k = some n ∧ Q (.str ⟨#[n]⟩) S | _ => False)
  | .ref a => (match S a with
    | some (.lst l) => (match i with | .int k => ∃ d, L2.atI l k = some d ∧ Q d S | _ => False)
    | some (.dic kvs) => ∃ k d, keyD i = some k ∧ kget kvs k = some d ∧ Q d S
    | some (.dicF kvs) => ∃ k d, keyD i = some k ∧ kget kvs k = some d ∧ Q d S
    | _ => False)
  | _ => False
/-- o[i] of a thing that may be written -/
def wixM (x i : D) (S : Sta) (Q : K) : Prop := match x with
  | .ref _ => wix x i S Q
  | _ => False
def wsetix (x i d : D) (S : Sta) (Q : Sta → Prop) : Prop := match x with
  | .ref a => (match S a with
    | some (.lst l) => (match i with | .int k => ∃ j, L2.ixN l.length k = some j ∧ Q (ups S a (.lst (l.set j d))) | _ => False)
    | some (.dic kvs) => kvs.length < sizeLine ∧ ∃ k, keyD i = some k ∧ Q (ups S a (.dic (kput kvs k d)))
    | _ => False)
  | _ => False
def wsl (x : D) (l h : Option Int) (S : Sta) (Q : K) : Prop := match x with
  | .tup xs => Q (.tup (cutD xs l h)) S
  | .lis xs => ∀ p, S p = none → Q (.ref p) (ups S p (.lst (cutD xs l h)))
  | .str z => z.length ≤ sizeLine ∧ Q (.str (L2.cutS z l h)) S
  | .ref a => (match S a with
    | some (.lst xs) => ∀ p, S p = none → Q (.ref p) (ups S p (.lst (cutD xs l h)))
    | _ => False)
  | _ => False
def wattr (x : D) (f : Nat) (S : Sta) (Q : K) : Prop := match x with
  | .ref a => (match S a with
    | some (.ins _ fs) => ∃ d, fget fs f = some d ∧ Q d S
    | _ => False)
  | .exc _ fs ds => ∃ d, (fs.zip ds).lookup f = some d ∧ Q d S
  | _ => False
def wsetattr (x : D) (f : Nat) (d : D) (S : Sta) (Q : Sta → Prop) : Prop := match x with
  | .ref a => (match S a with
    | some (.ins c fs) => fs.length < 1000 ∧ Q (ups S a (.ins c (fput f d fs)))
    | _ => False)
  | _ => False

def intsOf : List D → Option (List Int)
  | [] => some []
  | .int i :: r => (intsOf r).map (i :: ·)
  | _ => none
def bsOf : List D → Option (List Bool)
  | [] => some []
  | .bl b :: r => (bsOf r).map (b :: ·)
  | _ => none
def strsOf : List D → Option (List Str)
  | [] => some []
  | .str s :: r => (strsOf r).map (s :: ·)
  | _ => none
def maxI : List Int → Int
  | [] => 0
  | [a] => a
  | a :: r => max a (maxI r)
def minI : List Int → Int
  | [] => 0
  | [a] => a
  | a :: r => min a (minI r)
/-- insertion in order -/
def insI (x : Int) : List Int → List Int
  | [] => [x]
  | a :: r => if x ≤ a then x :: a :: r else a :: insI x r
def sortI : List Int → List Int
  | [] => []
  | a :: r => insI a (sortI r)
def strLe (x y : Str) : Bool := !decide (y.cps.toList < x.cps.toList)
def insS (x : Str) : List Str → List Str
  | [] => [x]
  | a :: r => if strLe x a then x :: a :: r else a :: insS x r
def sortS : List Str → List Str
  | [] => []
  | a :: r => insS a (sortS r)
def dedupS : List Str → List Str
  | [] => []
  | a :: r => let t := dedupS r; if t.contains a then t else a :: t
/-- what a built-in reads: a list's items, a tuple's, a dict's keys -/
def itemsK (S : Sta) (d : D) : Option (List D) := match d with
  | .ref a => (match S a with
    | some (.lst xs) => some xs
    | some (.dic kvs) => some (kvs.map fun p => dKey p.1)
    | some (.dicF kvs) => some (kvs.map fun p => dKey p.1)
    | _ => none)
  | .tup l => some l
  | .lis l => some l
  | _ => none
/-- a list's items -/
def itemsL (S : Sta) : D → Option (List D)
  | .lis l => some l
  | .ref a => match S a with
    | some (.lst xs) => some xs
    | _ => none
  | _ => none
/-- a list's or a tuple's items -/
def itemsT (S : Sta) : D → Option (List D)
  | .tup l => some l
  | d => itemsL S d
/-- pairs of a list for dict(..) -/
def pairsOf : List D → Option (List (Key × D))
  | [] => some []
  | .tup [k, d] :: r => (match keyD k, pairsOf r with
    | some k, some t => some ((k, d) :: t)
    | _, _ => none)
  | _ => none
def kmerge (kvs more : List (Key × D)) : List (Key × D) := more.foldl (fun acc p => kput acc p.1 p.2) kvs

def wb1 (C : Orc) (b : B1) (d : D) (S : Sta) (Q : K) : Prop := match b with
  | .len => (match d with
    | .str s => s.length ≤ sizeLine ∧ Q (.int s.length) S
    | .tup l => Q (.int l.length) S
    | .lis l => Q (.int l.length) S
    | .ref a => (match S a with
      | some (.lst xs) => Q (.int xs.length) S
      | some (.dic kvs) => Q (.int kvs.length) S
      | some (.ins c _) => C (mth c mLen) [d] S (fun r S' => ∃ n : Nat, r = .int n ∧ Q r S') fun _ _ => False
      | _ => False)
    | _ => False)
  | .int => (match d with
    | .int i => Q (.int i) S
    | .bl b => Q (.int (if b then 1 else 0)) S
    | .str s => ∃ n, PySem.intText? s = some n ∧ s.length ≤ 640 ∧ Q (.int n) S
    | _ => False)
  | .str => (match d with
    | .int i => i.natAbs.log2 < 1920 ∧ Q (.str (toString i)) S
    | .str s => s.length ≤ sizeLine ∧ Q (.str s) S
    | .ref a => (match S a with
      | some (.ins c _) => C (mth c mStr) [d] S (fun r S' => ∃ s, r = .str s ∧ Q r S') fun _ _ => False
      | _ => False)
    | _ => False)
  | .repr => (match d with
    | .ref a => (match S a with
      | some (.ins c _) => C (mth c mRepr) [d] S (fun r S' => ∃ s, r = .str s ∧ Q r S') fun _ _ => False
      | _ => False)
    | _ => False)
  | .list => ∃ xs, itemsK S d = some xs ∧ ∀ p, S p = none → Q (.ref p) (ups S p (.lst xs))
  | .tuple => ∃ xs, itemsT S d = some xs ∧ Q (.tup xs) S
  | .sum => ∃ xs ns, itemsL S d = some xs ∧ intsOf xs = some ns ∧ Q (.int ns.sum) S
  | .max => ∃ xs ns, itemsL S d = some xs ∧ intsOf xs = some ns ∧ 0 < ns.length ∧ Q (.int (maxI ns)) S
  | .min => ∃ xs ns, itemsL S d = some xs ∧ intsOf xs = some ns ∧ 0 < ns.length ∧ Q (.int (minI ns)) S
  | .minD => ∃ xs ns, itemsL S d = some xs ∧ intsOf xs = some ns ∧ Q (match ns with | [] => .non | _ => .int (minI ns)) S
  | .all => ∃ xs bs, itemsL S d = some xs ∧ bsOf xs = some bs ∧ Q (.bl (bs.all id)) S
  | .any => ∃ xs bs, itemsL S d = some xs ∧ bsOf xs = some bs ∧ Q (.bl (bs.any id)) S
  | .sorted => ∃ xs, itemsK S d = some xs ∧ xs.length < 64 ∧ ((∃ ns, intsOf xs = some ns ∧ ∀ p, S p = none → Q (.ref p) (ups S p (.lst ((sortI ns).map .int)))) ∨
      (∃ ss, strsOf xs = some ss ∧ ∀ p, S p = none → Q (.ref p) (ups S p (.lst ((sortS ss).map .str)))))
  | .dict => (match d with
    | .ref a => (match S a with
      | some (.dic kvs) => ∀ p, S p = none → Q (.ref p) (ups S p (.dic kvs))
      | some (.dicF kvs) => ∀ p, S p = none → Q (.ref p) (ups S p (.dic kvs))
      | some (.lst xs) => ∃ ps, pairsOf xs = some ps ∧ ∀ p, S p = none → Q (.ref p) (ups S p (.dic (kmerge [] ps)))
      | _ => False)
    | _ => False)
  | .setlen => ∃ xs ss, itemsL S d = some xs ∧ strsOf xs = some ss ∧ ss.length < 4000 ∧ Q (.int (dedupS ss).length) S
  | .setsorted => ∃ xs ss, itemsL S d = some xs ∧ strsOf xs = some ss ∧ ss.length < 64 ∧ ∀ p, S p = none → Q (.ref p) (ups S p (.lst ((sortS (dedupS ss)).map .str)))
  | .bool => wtru S d fun b => Q (.bl b) S

def wb2 (b : B2) (x y : D) (S : Sta) (Q : K) : Prop := match b, x, y with
  | .max, .int i, .int j => Q (.int (max i j)) S
  | .min, .int i, .int j => Q (.int (min i j)) S
  | _, _, _ => False

/-- the kinds of values that have methods -/
inductive Ty where | list | dict | str
def tyD (S : Sta) : D → Option Ty
  | .str _ => some .str
  | .ref a => match S a with
    | some (.lst _) => some .list
    | some (.dic _) => some .dict
    | _ => none
  | _ => none
/-- which kinds have which methods -/
def bmHas : Bm → Ty → Bool
  | .append, .list => true | .extend, .list => true | .pop, .list => true | .clear, .list => true
  | .pop, .dict => true | .get, .dict => true | .setd, .dict => true
  | .join, .str => true | .split, .str => true | .ends, .str => true | .upper, .str => true
  | _, _ => false
def wbm (m : Bm) (t : Ty) (o : D) (as : List D) (S : Sta) (Q : K) : Prop := match m with
  | .append => (match t, o, as with
    | .list, .ref a, [d] => (match S a with
      | some (.lst xs) => xs.length < sizeLine ∧ Q .non (ups S a (.lst (xs ++ [d])))
      | _ => False)
    | _, _, _ => False)
  | .extend => (match t, o, as with
    | .list, .ref a, [.ref b] => (match S a, S b with
      | some (.lst xs), some (.lst ys) => xs.length + ys.length ≤ sizeLine ∧ Q .non (ups S a (.lst (xs ++ ys)))
      | _, _ => False)
    | _, _, _ => False)
  | .pop => (match t, o, as with
    | .list, .ref a, [] => (match S a with
      | some (.lst xs) => ∃ d, xs[xs.length - 1]? = some d ∧ Q d (ups S a (.lst xs.dropLast))
      | _ => False)
    | .dict, .ref a, [k] => (match S a with
      | some (.dic kvs) => ∃ k' d, keyD k = some k' ∧ kget kvs k' = some d ∧ Q d (ups S a (.dic (kdel kvs k')))
      | _ => False)
    | .dict, .ref a, [k, z] => (match S a with
      | some (.dic kvs) => ∃ k', keyD k = some k' ∧ Q ((kget kvs k').getD z) (ups S a (.dic (kdel kvs k')))
      | _ => False)
    | _, _, _ => False)
  | .get => (match t, o, as with
    | .dict, .ref a, [k, z] => (match S a with
      | some (.dic kvs) => ∃ k', keyD k = some k' ∧ Q ((kget kvs k').getD z) S
      | some (.dicF kvs) => ∃ k', keyD k = some k' ∧ Q ((kget kvs k').getD z) S
      | _ => False)
    | _, _, _ => False)
  | .setd => (match t, o, as with
    | .dict, .ref a, [k, z] => (match S a with
      | some (.dic kvs) => kvs.length < sizeLine ∧ ∃ k', keyD k = some k' ∧ Q ((kget kvs k').getD z) (ups S a (.dic (if (kget kvs k').isSome then kvs else kput kvs k' z)))
      | _ => False)
    | _, _, _ => False)
  | .join => (match t, o, as with
    | .str, .str z, [d] => ∃ xs ss, itemsT S d = some xs ∧ strsOf xs = some ss ∧ (ss.map (·.length)).sum + ss.length * z.length ≤ 16777216 ∧ Q (.str (Txt.join z ss)) S
    | _, _, _ => False)
  | .split => (match t, o, as with
    | .str, .str z, [.str y] => (y.length == 0) = false ∧ z.length + 2 ≤ sizeLine ∧ ∀ p, S p = none → Q (.ref p) (ups S p (.lst ((Txt.split z y).map .str)))
    | _, _, _ => False)
  | .ends => (match t, o, as with
    | .str, .str z, [.str y] => Q (.bl (Txt.endswith z y)) S
    | _, _, _ => False)
  | .clear => (match t, o, as with
    | .list, .ref a, [] => (match S a with
      | some (.lst xs) => Q .non (ups S a (.lst []))
      | _ => False)
    | _, _, _ => False)
  | .upper => (match t, o, as with
    | .str, .str z, [] => z.length ≤ 5592405 ∧ Q (.str (Txt.upper z)) S
    | _, _, _ => False)
  | .rstrip => False
  | .replace => False

def isKd (S : Sta) (d : D) : Kd → Option Bool
  | .int => (match d with
    | .int _ => some true | .bl _ => some true | .non => some false | .str _ => some false | .tup _ => some false
    | .ref a => (match S a with | some (.lst _) => some false | some (.dic _) => some false | _ => none)
    | _ => none)
  | .str => (match d with
    | .str _ => some true | .int _ => some false | .bl _ => some false | .non => some false | .tup _ => some false
    | .ref a => (match S a with | some (.lst _) => some false | some (.dic _) => some false | _ => none)
    | _ => none)
  | .bool => (match d with
    | .bl _ => some true | .int _ => some false | .str _ => some false | .non => some false | .tup _ => some false
    | .ref a => (match S a with | some (.lst _) => some false | some (.dic _) => some false | _ => none)
    | _ => none)
  | .list => (match d with
    | .non => some false | .bl _ => some false | .int _ => some false | .str _ => some false | .tup _ => some false
    | .ref a => (match S a with | some (.lst _) => some true | some (.dic _) => some false | _ => none)
    | _ => none)
  | .tuple => (match d with
    | .tup _ => some true | .non => some false | .bl _ => some false | .int _ => some false | .str _ => some false
    | .ref a => (match S a with | some (.lst _) => some false | some (.dic _) => some false | _ => none)
    | _ => none)
  | .own _ => none
def isKds (S : Sta) (d : D) : List Kd → Option Bool
  | [] => some false
  | k :: r => match isKd S d k with
    | some true => some true
    | some false => isKds S d r
    | none => none

/-- the parameters' values from the written ones and the defaults -/
def placeL (l : List (Sum Nat D)) (ds : List D) : List D := l.map fun
  | .inl i => ds.getD i .non
  | .inr d => d
def place (sh : Shp) (ds : List D) : List D := match sh with
  | .app es => ds ++ es
  | .perm l => placeL l ds

def wipeD (ρ : Env) : List Nat → Env
  | [] => ρ
  | v :: vs => (wipeD ρ vs).set v none
def setN (ρ : Env) : List Nat → List D → Env
  | i :: is, d :: ds => setN (ρ.set i (some d)) is ds
  | _, _ => ρ
/-- the target of a comprehension's or a loop's for: one name, or several for a tuple's items -/
def wtgN (is : List Nat) (d : D) (ρ : Env) (Q : Env → Prop) : Prop := match is with
  | [i] => Q (ρ.set i (some d))
  | is => (match d with
    | .tup l => l.length = is.length ∧ Q (setN ρ is l)
    | _ => False)
def wcomp (h : List (Addr × MO)) (f : D → Sta → (Option D → Sta → Prop) → Prop) : List D → List D → Sta → (List D → Sta → Prop) → Prop
  | [], acc, S, Q => Held h S ∧ Q acc S
  | x :: xs, acc, S, Q => Held h S ∧ f x S fun o S' => match o with
    | some d => acc.length < sizeLine ∧ wcomp h f xs (acc ++ [d]) S' Q
    | none => wcomp h f xs acc S' Q

/-- two lists, or two tuples -/
def both (S : Sta) (x y : D) (xs ys : List D) : Prop := (itemsL S x = some xs ∧ itemsL S y = some ys) ∨ (x = .tup xs ∧ y = .tup ys)
def enumF (st : Int) : List D → List D
  | [] => []
  | x :: r => .tup [.int st, x] :: enumF (st + 1) r
def zipD : List D → List D → List D
  | x :: xs, y :: ys => .tup [x, y] :: zipD xs ys
  | _, _ => []

/-- an end of a slice: .nil where none is written -/
def endD (e : E) (d : D) (P : Option Int → Prop) : Prop := match e with
  | .nil => P none
  | _ => match d with
    | .int i => P (some i)
    | _ => False
mutual
def wE (C : Orc) (X : K) : E → Env → Sta → K → Prop
  | .v i, ρ, S, Q => ∃ d, ρ[i]? = some (some d) ∧ Q d S
  | .c d, _, S, Q => Q d S
  | .bin o a b, ρ, S, Q => wE C X a ρ S fun x S1 => wE C X b ρ S1 fun y S2 => wbin o x y S2 Q
  | .neg a, ρ, S, Q => wE C X a ρ S fun x S1 => match x with
    | .int i => Q (.int (-i)) S1
    | _ => False
  | .not a, ρ, S, Q => wE C X a ρ S fun x S1 => wtru S1 x fun b => Q (.bl (!b)) S1
  | .and a b, ρ, S, Q => wE C X a ρ S fun x S1 => wtru S1 x fun c => if c = true then wE C X b ρ S1 Q else Q x S1
  | .or a b, ρ, S, Q => wE C X a ρ S fun x S1 => wtru S1 x fun c => if c = true then Q x S1 else wE C X b ρ S1 Q
  | .cmp o a b, ρ, S, Q => wE C X a ρ S fun x S1 => wE C X b ρ S1 fun y S2 => wcmp C o x y S2 fun r S3 => Q (.bl r) S3
  | .chn a o1 b o2 c, ρ, S, Q => wE C X a ρ S fun x S1 => wE C X b ρ S1 fun y S2 => wcmp C o1 x y S2 fun r S3 => if r = true then wE C X c ρ S3 fun z S4 => wcmp C o2 y z S4 fun r S5 => Q (.bl r) S5 else Q (.bl false) S3
  | .ite t a b, ρ, S, Q => wE C X t ρ S fun x S1 => wtru S1 x fun c => if c = true then wE C X a ρ S1 Q else wE C X b ρ S1 Q
  | .tup es, ρ, S, Q => wEs C X es ρ S fun ds S1 => ds.length ≤ sizeLine ∧ Q (.tup ds) S1
  | .lst es, ρ, S, Q => wEs C X es ρ S fun ds S1 => ds.length ≤ sizeLine ∧ ∀ p, S1 p = none → Q (.ref p) (ups S1 p (.lst ds))
  | .dct es, ρ, S, Q => wEs C X es ρ S fun ds S1 => ∃ kvs : List (Key × D), ds = kvs.flatMap (fun p => [dKey p.1, p.2]) ∧ kvs.length ≤ 15 ∧ ∀ p, S1 p = none → Q (.ref p) (ups S1 p (.dic (kmerge [] kvs)))
  | .ix a i, ρ, S, Q => wE C X a ρ S fun x S1 => wE C X i ρ S1 fun y S2 => wix x y S2 Q
  | .gix kvs i, ρ, S, Q => wE C X i ρ S fun y S1 => ∃ k d, y = .str k ∧ kvs.lookup k = some d ∧ Q d S1
  | .gget kvs i z, ρ, S, Q => wE C X i ρ S fun y S1 => wE C X z ρ S1 fun u S2 => ∃ k, y = .str k ∧ Q ((kvs.lookup k).getD u) S2
  | .sl a lo hi, ρ, S, Q => wE C X a ρ S fun x S1 => wE C X lo ρ S1 fun l S2 => endD lo l fun l' => wE C X hi ρ S2 fun h S3 => endD hi h fun h' => wsl x l' h' S3 Q
  | .at a f, ρ, S, Q => wE C X a ρ S fun x S1 => wattr x f S1 Q
  | .call f sh es, ρ, S, Q => wEs C X es ρ S fun ds S1 => C f (place sh ds) S1 Q X
  | .callv g es, ρ, S, Q => wE C X g ρ S fun x S1 => wEs C X es ρ S1 fun ds S2 => match x with
    | .fn f => C f ds S2 Q X
    | _ => False
  | .new c f sh es, ρ, S, Q => wEs C X es ρ S fun ds S1 => ∀ p, S1 p = none → C f (.ref p :: place sh ds) (ups S1 p (.ins c [])) (fun r S2 => r = .non ∧ Q (.ref p) S2) X
  | .meth o m sh es, ρ, S, Q => wE C X o ρ S fun x S1 => match x with
    | .ref a => (match S1 a with
      | some (.ins c fs) => fget fs m = none ∧ wEs C X es ρ S1 fun ds S2 => C (mth c m) (x :: place sh ds) S2 Q X
      | _ => False)
    | _ => False
  | .b1 b a, ρ, S, Q => wE C X a ρ S fun x S1 => wb1 C b x S1 Q
  | .b2 b a c, ρ, S, Q => wE C X a ρ S fun x S1 => wE C X c ρ S1 fun y S2 => wb2 b x y S2 Q
  | .bm m o es, ρ, S, Q => wE C X o ρ S fun x S1 => ∃ t, tyD S1 x = some t ∧ bmHas m t = true ∧ wEs C X es ρ S1 fun ds S2 => wbm m t x ds S2 Q
  | .lc elt own tg it cond, ρ, S, Q => wIt C X it ρ S fun h xs S1 =>
      wcomp h (fun x S2 R => wtgN tg x (wipeD ρ own) fun ρ1 => wE C (fun _ _ => False) cond ρ1 S2 fun y S3 => wtru S3 y fun b => if b = true then wE C (fun _ _ => False) elt ρ1 S3 fun d S4 => R (some d) S4 else R none S3) xs [] S1
        fun ds S5 => ∀ p, S5 p = none → Q (.ref p) (ups S5 p (.lst ds))
  | .lcD elt own tg vals e cond, ρ, S, Q => ∃ a kvs, S a = some (.dic kvs) ∧ wE C X e ρ (ups S a (.dicF kvs)) fun x S1 => x = .ref a ∧ S1 a = some (.dicF kvs) ∧
      wcomp [(a, .dicF kvs)] (fun x S2 R => wtgN tg x (wipeD ρ own) fun ρ1 => wE C (fun _ _ => False) cond ρ1 S2 fun y S3 => wtru S3 y fun b => if b = true then wE C (fun _ _ => False) elt ρ1 S3 fun d S4 => R (some d) S4 else R none S3)
        (kvs.map fun p => if vals then p.2 else dKey p.1) [] S1 fun ds S5 => S5 a = some (.dicF kvs) ∧ ∀ p, S5 p = none → Q (.ref p) (ups (ups S5 a (.dic kvs)) p (.lst ds))
  | .isi e ks, ρ, S, Q => wE C X e ρ S fun x S1 => ∃ b, isKds S1 x ks = some b ∧ Q (.bl b) S1
  | .fs es, ρ, S, Q => wFs C X es Str.empty ρ S fun s S1 => Q (.str s) S1
  | .nev, _, _, _ => False
  | .nil, _, S, Q => Q .non S
def wEs (C : Orc) (X : K) : Es → Env → Sta → (List D → Sta → Prop) → Prop
  | .nil, _, S, Q => Q [] S
  | .cons a r, ρ, S, Q => wE C X a ρ S fun x S1 => wEs C X r ρ S1 fun ds S2 => Q (x :: ds) S2
/-- an f-string's parts: texts and whole numbers -/
def wFs (C : Orc) (X : K) : Es → Str → Env → Sta → (Str → Sta → Prop) → Prop
  | .nil, acc, _, S, Q => Q acc S
  | .cons a r, acc, ρ, S, Q => wE C X a ρ S fun x S1 => match x with
    | .str s => s.length ≤ sizeLine ∧ (acc.length + s.length ≤ sizeLine) ∧ wFs C X r (acc ++ s) ρ S1 Q
    | .int i => i.natAbs.log2 < 1920 ∧ (acc.length + (toString i : String).length ≤ sizeLine) ∧ wFs C X r (acc ++ (toString i : String)) ρ S1 Q
    | _ => False
def wIt (C : Orc) (X : K) : It → Env → Sta → (List (Addr × MO) → List D → Sta → Prop) → Prop
  | .seq e, ρ, S, Q => wE C X e ρ S fun x S1 => ∃ xs, items S1 x = some xs ∧ Q (holds S1 x) xs S1
  | .rng e, ρ, S, Q => wE C X e ρ S fun x S1 => match x with
    | .int n => -(2 ^ 62) ≤ n ∧ n < 2 ^ 62 ∧ Q [] ((List.range n.toNat).map fun (i : Nat) => .int i) S1
    | _ => False
  | .enm e st, ρ, S, Q => wE C X e ρ S fun x S1 => ∃ xs, itemsT S1 x = some xs ∧ Q (holds S1 x) (enumF st xs) S1
  | .zip a b str, ρ, S, Q => wE C X a ρ S fun x S1 => wE C X b ρ S1 fun y S2 => ∃ xs ys, both S2 x y xs ys ∧ str = false ∧ Q (holds S2 x ++ holds S2 y) (zipD xs ys) S2
end

structure Ends where
  nx : Env → Sta → Prop
  rt : K
  bk : Env → Sta → Prop := fun _ _ => False
  ct : Env → Sta → Prop := fun _ _ => False
  ex : D → Env → Sta → Prop

def wTg (C : Orc) (X : K) (t : Tg) (d : D) (ρ : Env) (S : Sta) (Q : Env → Sta → Prop) : Prop := match t with
  | .n is => wtgN is d ρ fun ρ1 => Q ρ1 S
  | .ix a i => wE C X a ρ S fun x S1 => wE C X i ρ S1 fun y S2 => wsetix x y d S2 fun S3 => Q ρ S3
  | .at a f => wE C X a ρ S fun x S1 => wsetattr x f d S1 fun S2 => Q ρ S2
  | .vix j a i => (match d with
    | .tup [d1, d2] => wE C X a (ρ.set j (some d1)) S fun x S1 => wE C X i (ρ.set j (some d1)) S1 fun y S2 => wsetix x y d2 S2 fun S3 => Q (ρ.set j (some d1)) S3
    | _ => False)
/-- one turn after another -/
def wfor (h : List (Addr × MO)) (f : D → Env → Sta → (Env → Sta → Prop) → Prop) : List D → Env → Sta → (Env → Sta → Prop) → Prop
  | [], ρ, S, Q => Held h S ∧ Q ρ S
  | x :: xs, ρ, S, Q => Held h S ∧ f x ρ S fun ρ' S' => wfor h f xs ρ' S' Q

mutual
def wS (C : Orc) : S → Env → Sta → Ends → Prop
  | .asg t e, ρ, S, T => wE C (fun x S' => T.ex x ρ S') e ρ S fun d S1 => wTg C (fun x S' => T.ex x ρ S') t d ρ S1 T.nx
  | .par i j a b, ρ, S, T => wE C (fun x S' => T.ex x ρ S') a ρ S fun x S1 => wE C (fun x S' => T.ex x ρ S') b ρ S1 fun y S2 => T.nx ((ρ.set i (some x)).set j (some y)) S2
  | .aug o i e, ρ, S, T => ∃ d, ρ[i]? = some (some d) ∧ wE C (fun x S' => T.ex x ρ S') e ρ S fun y S1 => wip o d y S1 fun z S2 => T.nx (ρ.set i (some z)) S2
  | .augI o a i e, ρ, S, T => wE C (fun x S' => T.ex x ρ S') a ρ S fun x S1 => wE C (fun x S' => T.ex x ρ S') i ρ S1 fun k S2 => wixM x k S2 fun d S3 => wE C (fun x S' => T.ex x ρ S') e ρ S3 fun y S4 =>
      wip o d y S4 fun z S5 => wsetix x k z S5 fun S6 => T.nx ρ S6
  | .augA o a f e, ρ, S, T => wE C (fun x S' => T.ex x ρ S') a ρ S fun x S1 => wattr x f S1 fun d S2 => wE C (fun x S' => T.ex x ρ S') e ρ S2 fun y S3 => wip o d y S3 fun z S4 => wsetattr x f z S4 fun S5 => T.nx ρ S5
  | .ex e, ρ, S, T => wE C (fun x S' => T.ex x ρ S') e ρ S fun _ S1 => T.nx ρ S1
  | .ret e, ρ, S, T => wE C (fun x S' => T.ex x ρ S') e ρ S T.rt
  | .retN, _, S, T => T.rt .non S
  | .ite t a b, ρ, S, T => wE C (fun x S' => T.ex x ρ S') t ρ S fun x S1 => wtru S1 x fun c => if c = true then wB C a ρ S1 T else wB C b ρ S1 T
  | .whl t b, ρ, S, T => ∃ I : Nat → Env → Sta → Prop, (∃ m, I m ρ S) ∧ ∀ m ρ S, I m ρ S → wE C (fun x S' => T.ex x ρ S') t ρ S fun x S1 => wtru S1 x fun c =>
      if c = true then wB C b ρ S1 { nx := fun ρ' S' => ∃ m', m' < m ∧ I m' ρ' S', rt := T.rt, bk := T.nx, ct := fun ρ' S' => ∃ m', m' < m ∧ I m' ρ' S', ex := T.ex } else T.nx ρ S1
  | .for_ t it b, ρ, S, T => wIt C (fun x S' => T.ex x ρ S') it ρ S fun h xs S1 =>
      wfor h (fun x ρ S R => wTg C (fun y S' => T.ex y ρ S') t x ρ S fun ρ1 S2 => wB C b ρ1 S2 { nx := R, rt := T.rt, bk := T.nx, ct := R, ex := T.ex }) xs ρ S1 T.nx
  | .forD t vals e b, ρ, S, T => ∃ a kvs, S a = some (.dic kvs) ∧ wE C (fun x S' => T.ex x ρ S') e ρ (ups S a (.dicF kvs)) fun x S1 => x = .ref a ∧ S1 a = some (.dicF kvs) ∧
      wfor [(a, .dicF kvs)] (fun x ρ S R => wTg C (fun _ _ => False) t x ρ S fun ρ1 S2 => wB C b ρ1 S2
          { nx := R, rt := fun d S' => S' a = some (.dicF kvs) ∧ T.rt d (ups S' a (.dic kvs)), bk := fun ρ' S' => S' a = some (.dicF kvs) ∧ T.nx ρ' (ups S' a (.dic kvs)), ct := R, ex := fun x ρ' S' => T.ex x ρ' S' })
        (kvs.map fun p => if vals then p.2 else dKey p.1) ρ S1 fun ρ' S' => S' a = some (.dicF kvs) ∧ T.nx ρ' (ups S' a (.dic kvs))
  | .raise c fs src es _, ρ, S, T => wEs C (fun x S' => T.ex x ρ S') es ρ S fun ds S1 => T.ex (.exc c fs (placeL src ds)) ρ S1
  | .try_ b hs, ρ, S, T => wB C b ρ S { nx := T.nx, rt := T.rt, bk := T.bk, ct := T.ct, ex := fun x ρ' S' => wH C hs x ρ' S' T }
  | .pass, ρ, S, T => T.nx ρ S
  | .nev, _, _, _ => False
  | .brk, ρ, S, T => T.bk ρ S
  | .cont, ρ, S, T => T.ct ρ S
def wB (C : Orc) : Ss → Env → Sta → Ends → Prop
  | .nil, ρ, S, T => T.nx ρ S
  | .cons s r, ρ, S, T => wS C s ρ S { nx := fun ρ' S' => wB C r ρ' S' T, rt := T.rt, bk := T.bk, ct := T.ct, ex := T.ex }
/-- the except clauses, one after another -/
def wH (C : Orc) : Hs → D → Env → Sta → Ends → Prop
  | .nil, x, ρ, S, T => T.ex x ρ S
  | .cons cs i b r, x, ρ, S, T => match x with
    | .exc c _ _ => if cs.contains c = true then
        (match i with
        | some i => wB C b (ρ.set i (some x)) S { nx := fun ρ' S' => T.nx (ρ'.set i none) S', rt := T.rt, bk := fun ρ' S' => T.bk (ρ'.set i none) S', ct := fun ρ' S' => T.ct (ρ'.set i none) S', ex := T.ex }
        | none => wB C b ρ S T)
      else wH C r x ρ S T
    | _ => False
end

/-- a def: how many names, how many parameters, its body -/
structure Fn where
  n : Nat
  k : Nat
  body : Ss
abbrev Prg := Nat → Option Fn
/-- the state behind a call may be told in part -/
def Q1 (Q : K) : K := fun d S => ∃ S', Sub S' S ∧ Q d S'
def callW (P : Prg) : Nat → Orc
  | 0, _, _, _, _, _ => False
  | n + 1, f, ds, S, Q, X => ∃ F, P f = some F ∧ ds.length = F.k ∧
      wB (callW P n) F.body (ds.map some ++ List.replicate (F.n - F.k) none) S { nx := fun _ S' => Q1 Q .non S', rt := Q1 Q, ex := fun x _ S' => Q1 X x S' }
end A
end
section
set_option Elab.async false
set_option linter.all false
set_option maxRecDepth 100000
set_option maxHeartbeats 1000000
/-! A3: the rules for expressions. -/
namespace A
open PySem L2

abbrev Wp := Env → Sta → K → Prop
/-- an end of the small language, in the layer -/
def Kn (N : Nm) (S : Sta) (H : Hp) (Qh : K) (Q : VK) : Prop := ∀ d S' v H', Fr S H S' H' → RH N H' S' → RD N H' d v → Qh d S' → Q v H'
/-- Z: the state and the heap at the def's entry -/
def tOf (N : Nm) (Z : Sta × Hp) (w : Wp) : TE := fun σ H Q => ∃ ρ S Qh, RS N H σ ρ ∧ RH N H S ∧ Fr Z.1 Z.2 S H ∧ w ρ S Qh ∧ Kn N S H Qh Q
theorem pimp {X : Cx} {e : Expr} {t t' : TE} (h : PE X e t) (i : ∀ σ H Q, t' σ H Q → t σ H Q) : PE X e t' := ⟨fun pins s σ H Q I q => h.run pins s σ H Q I (i σ H Q q)⟩

section
variable {N : Nm} {Z : Sta × Hp} {X : Cx} {S S' S1 : Sta} {H H' H1 : Hp} {Q : VK} {Qh : K} {σ : L2.St} {ρ : Env}
theorem Kn.at (k : Kn N S H Qh Q) {d : D} {v : V} (h : RH N H S) (r : RD N H d v) (q : Qh d S) : Q v H := k d S v H Fr.refl h r q
theorem Kn.step (k : Kn N S H Qh Q) (f : Fr S H S1 H1) : Kn N S1 H1 Qh Q := fun d S' v H' f' h r q => k d S' v H' (f.trans f') h r q
/-- one value, then its use -/
theorem tOf.one {w : Wp} {g : Env → D → Sta → K → Prop} (t : tOf N Z (fun ρ S Q => w ρ S fun x S1 => g ρ x S1 Q) σ H Q) {P : VK}
    (h : ∀ ρ x S1 v H1 Qh, RS N H1 σ ρ → RH N H1 S1 → Fr Z.1 Z.2 S1 H1 → RD N H1 x v → g ρ x S1 Qh → Kn N S1 H1 Qh Q → P v H1) : tOf N Z w σ H P := by
  obtain ⟨ρ, S, Qh, rs, rh, fz, q, k⟩ := t
  exact ⟨ρ, S, _, rs, rh, fz, q, fun x S1 v H1 f h1 r q1 => h ρ x S1 v H1 Qh (rs.mono (f.dle rh)) h1 (fz.trans f) r q1 (k.step f)⟩
/-- two values, then their use -/
theorem tOf.two {w w' : Wp} {g : D → D → Sta → K → Prop} (t : tOf N Z (fun ρ S Q => w ρ S fun x S1 => w' ρ S1 fun y S2 => g x y S2 Q) σ H Q) {P : V → V → Hp → Prop}
    (h : ∀ x y S2 v u H2 Qh, RH N H2 S2 → RD N H2 x v → RD N H2 y u → g x y S2 Qh → Kn N S2 H2 Qh Q → P v u H2) : tOf N Z w σ H fun v H1 => tOf N Z w' σ H1 fun u H2 => P v u H2 := by
  refine tOf.one (g := fun ρ x S1 Q => w' ρ S1 fun y S2 => g x y S2 Q) t fun ρ x S1 v H1 Qh rs rh fz r q k => ?_
  exact ⟨ρ, S1, _, rs, rh, fz, q, fun y S2 u H2 f h2 r2 q2 => h x y S2 v u H2 Qh h2 (RD.mono (f.dle rh) _ _ r) r2 q2 (k.step f)⟩
theorem tOf.three {w w' w'' : Wp} {g : D → D → D → Sta → K → Prop} (t : tOf N Z (fun ρ S Q => w ρ S fun x S1 => w' ρ S1 fun y S2 => w'' ρ S2 fun z S3 => g x y z S3 Q) σ H Q) {P : V → V → V → Hp → Prop}
    (h : ∀ x y z S3 v u t H3 Qh, RH N H3 S3 → RD N H3 x v → RD N H3 y u → RD N H3 z t → g x y z S3 Qh → Kn N S3 H3 Qh Q → P v u t H3) :
    tOf N Z w σ H fun v H1 => tOf N Z w' σ H1 fun u H2 => tOf N Z w'' σ H2 fun t H3 => P v u t H3 := by
  refine tOf.one (g := fun ρ x S1 Q => w' ρ S1 fun y S2 => w'' ρ S2 fun z S3 => g x y z S3 Q) t fun ρ x S1 v H1 Qh rs rh fz r q k => ?_
  refine ⟨ρ, S1, _, rs, rh, fz, q, fun y S2 u H2 f h2 r2 q2 => ?_⟩
  refine ⟨ρ, S2, _, rs.mono (f.dle rh), h2, fz.trans f, q2, fun z S3 t H3 f3 h3 r3 q3 => ?_⟩
  exact h x y z S3 v u t H3 Qh h3 (RD.mono (f3.dle h2) _ _ (RD.mono (f.dle rh) _ _ r)) (RD.mono (f3.dle h2) _ _ r2) r3 q3 ((k.step f).step f3)

/-! what a value is -/
theorem rd_non {v : V} (h : RD N H .non v) : v = .non := by simpa only [RD] using h
theorem rd_bl {b : Bool} {v : V} (h : RD N H (.bl b) v) : v = .bl b := by simpa only [RD] using h
theorem rd_int {i : Int} {v : V} (h : RD N H (.int i) v) : v = .int i := by simpa only [RD] using h
theorem rd_str {i : Str} {v : V} (h : RD N H (.str i) v) : v = .str i := by simpa only [RD] using h
theorem rd_ref {a : Addr} {v : V} (h : RD N H (.ref a) v) : v = .ref a := by simpa only [RD] using h
theorem rd_fn {a : Nat} {v : V} (h : RD N H (.fn a) v) : v = .ref (N.fa a) := by simpa only [RD] using h
theorem rd_tup {l : List D} {v : V} (h : RD N H (.tup l) v) : ∃ a vs, v = .ref a ∧ SqT N.K H a vs ∧ RDs N H l vs := by simpa only [RD] using h
theorem rd_lis {l : List D} {v : V} (h : RD N H (.lis l) v) : ∃ a vs, v = .ref a ∧ SqL N.K H a vs ∧ RDs N H l vs := by
  simp only [RD] at h
  obtain ⟨a, vs, e, q, r⟩ := h
  refine ⟨a, vs, e, ?_, r⟩
  rcases q with ⟨o, q⟩ | (q | ⟨o, q⟩) | q
  · exact .inl (.inr ⟨o, q⟩)
  · cases q
  · cases q
  · exact .inr q
theorem mk_non : RD N H .non .non := by simp only [RD]
theorem mk_bl {b : Bool} : RD N H (.bl b) (.bl b) := by simp only [RD]
theorem mk_int {b : Int} : RD N H (.int b) (.int b) := by simp only [RD]
theorem mk_str {b : Str} : RD N H (.str b) (.str b) := by simp only [RD]
theorem mk_ref {b : Addr} : RD N H (.ref b) (.ref b) := by simp only [RD]
theorem mk_tup {l : List D} {a : Addr} {vs : List V} (h : SqT N.K H a vs) (r : RDs N H l vs) : RD N H (.tup l) (.ref a) := by simp only [RD]; exact ⟨a, vs, rfl, h, r⟩
theorem RDs.mono' (f : Dle H H') {ds : List D} {vs : List V} (r : RDs N H ds vs) : RDs N H' ds vs := RDs.mono f ds vs r

/-- a new list, a new tuple -/
theorem Kn.newL (k : Kn N S H Qh Q) (h : RH N H S) {p : Addr} (n : H p = none) {ds : List D} {vs : List V} (r : RDs N H ds vs) (q : ∀ p, S p = none → Qh (.ref p) (ups S p (.lst ds))) : Q (.ref p) (upd H p (.lst vs)) :=
  k _ _ _ _ (Fr.new n) (h.new (m := .lst ds) n ⟨vs, L2.upd_same, r.mono' (dle_new n)⟩) mk_ref (q p (h.fresh n))
theorem Kn.newT (k : Kn N S H Qh Q) (h : RH N H S) {p : Addr} (n : H p = none) {ds : List D} {vs : List V} (r : RDs N H ds vs) (q : Qh (.tup ds) S) : Q (.ref p) (upd H p (.tup vs)) :=
  k _ _ _ _ (Fr.skip n) (h.skip n) (mk_tup (SqT.of L2.upd_same) (r.mono' (dle_new n))) q
theorem Kn.newK (k : Kn N S H Qh Q) (h : RH N H S) {p : Addr} (n : H p = none) {ds : List (Key × D)} {vs : List (Key × V)} (e : vs.map (·.1) = ds.map (·.1)) (r : RDs N H (ds.map (·.2)) (vs.map (·.2)))
    (q : ∀ p, S p = none → Qh (.ref p) (ups S p (.dic ds))) : Q (.ref p) (upd H p (.dK vs)) :=
  k _ _ _ _ (Fr.new n) (h.new (m := .dic ds) n ⟨vs, L2.upd_same, e, r.mono' (dle_new n)⟩) mk_ref (q p (h.fresh n))
theorem at_lst (h : RH N H S) {a : Addr} {xs : List D} (e : S a = some (.lst xs)) : ∃ vs, H a = some (.lst vs) ∧ RDs N H xs vs := h a _ e
theorem at_dic (h : RH N H S) {a : Addr} {xs : List (Key × D)} (e : S a = some (.dic xs)) : ∃ ws : List (Key × V), H a = some (.dK ws) ∧ ws.map (·.1) = xs.map (·.1) ∧ RDs N H (xs.map (·.2)) (ws.map (·.2)) := h a _ e
theorem at_dicF (h : RH N H S) {a : Addr} {xs : List (Key × D)} (e : S a = some (.dicF xs)) : ∃ (od : Obj) (ws : List (Key × V)), H a = some (.frz od (.dK ws)) ∧ ws.map (·.1) = xs.map (·.1) ∧ RDs N H (xs.map (·.2)) (ws.map (·.2)) := h a _ e
theorem at_ins (h : RH N H S) {a : Addr} {c : Nat} {fs : List (Nat × D)} (e : S a = some (.ins c fs)) :
    ∃ (dx : Addr) (gs : List (Str × V)), H a = some (.ins (N.ca c) dx gs) ∧ gs.map (·.1) = fs.map (fun p => N.fnm p.1) ∧ RDs N H (fs.map (·.2)) (gs.map (·.2)) := h a _ e

/-! ### binary operators -/
theorem oimp {f : Value → Value → Sem Value} {r r' : R2} (h : OpR X f r) (i : ∀ x y H Q, r' x y H Q → r x y H Q) : OpR X f r' := fun pins s σ H x y v u Q I rx ry q => h pins s σ H x y v u Q I rx ry (i x y H Q q)
def boOp : Bo → Operator
  | .add => .Add | .sub => .Sub | .mul => .Mult | .div => .FloorDiv | .mod => .Mod | .pow => .Pow
/-- the small language's operator on values of the layer -/
def rBin (N : Nm) (o : Bo) : R2 := fun v u H Q => ∃ x y S Qh, RH N H S ∧ RD N H x v ∧ RD N H y u ∧ wbin o x y S Qh ∧ Kn N S H Qh Q
def rAddAll (K : PySem.W.Frag) : R2 := fun x y H Q =>
  (rI0 (fun i j => .int (i + j))) x y H Q ∨ ((∃ i k, x = .int i ∧ y = .bl k ∧ Q (.int (i + PyProof.Rows.b2i k)) H) ∨ ((∃ i j, x = .str i ∧ y = .str j ∧ i.length + j.length ≤ sizeLine ∧ Q (.str (i ++ j)) H) ∨ (rCatA K x y H Q ∨ L2.rCat x y H Q)))
theorem op_addAll : OpR X (binaryOp .Add) (rAddAll X.K) := op_add.or (op_add_ib.or (op_add_str.or (op_catA.or op_cat)))
theorem rbin_add (hK : N.K = X.K) : ∀ v u H Q, rBin N .add v u H Q → rAddAll X.K v u H Q := by
  rintro v u H Q ⟨x, y, S, Qh, rh, rx, ry, w, k⟩
  cases x with
  | int i =>
    cases y with
    | int j => cases rd_int rx; cases rd_int ry; exact .inl ⟨i, j, rfl, rfl, k.at rh mk_int w⟩
    | bl b =>
      cases rd_int rx; cases rd_bl ry
      exact .inr (.inl ⟨i, b, rfl, rfl, k.at rh mk_int (by cases b <;> exact w)⟩)
    | _ => exact (False.elim w)
  | str a =>
    cases y with
    | str b => cases rd_str rx; cases rd_str ry; exact .inr (.inr (.inl ⟨a, b, rfl, rfl, w.1, k.at rh mk_str w.2⟩))
    | _ => exact (False.elim w)
  | tup l =>
    cases y with
    | tup m =>
      obtain ⟨a, vs, rfl, h1, r1⟩ := rd_tup rx
      obtain ⟨b, ws, rfl, h2, r2⟩ := rd_tup ry
      rw [hK] at h1 h2
      have e1 := r1.length
      have e2 := r2.length
      refine .inr (.inr (.inr (.inl ⟨a, b, vs, ws, rfl, rfl, h1, h2, by rw [← e1, ← e2]; exact w.1, fun z => ?_, fun _ z => ?_, fun _ _ p n => ?_⟩)))
      · subst z
        have : l = [] := by cases l with
          | nil => rfl
          | cons _ _ => simp at e1
        subst this
        exact k.at rh (mk_tup (by rw [hK]; exact h2) r2) w.2
      · subst z
        have : m = [] := by cases m with
          | nil => rfl
          | cons _ _ => simp at e2
        subst this
        exact k.at rh (mk_tup (by rw [hK]; exact h1) r1) (by simpa using w.2)
      · exact k.newT rh n (r1.append r2) w.2
    | _ => exact (False.elim w)
  | ref a =>
    cases y with
    | ref b =>
      cases rd_ref rx; cases rd_ref ry
      have w : (match S a, S b with
        | some (.lst xs), some (.lst ys) => xs.length + ys.length ≤ sizeLine ∧ ∀ p, S p = none → Qh (.ref p) (ups S p (.lst (xs ++ ys)))
        | _, _ => False) := w
      cases ea : S a with
      | none => rw [ea] at w; exact w.elim
      | some oa =>
        rw [ea] at w
        cases oa with
        | lst xs =>
          cases eb : S b with
          | none => rw [eb] at w; exact w.elim
          | some ob =>
            rw [eb] at w
            cases ob with
            | lst ys =>
              obtain ⟨vs, h1, r1⟩ := at_lst rh ea
              obtain ⟨ws, h2, r2⟩ := at_lst rh eb
              exact .inr (.inr (.inr (.inr ⟨a, b, vs, ws, rfl, rfl, h1, h2, by rw [← r1.length, ← r2.length]; exact w.1, fun p n => k.newL rh n (r1.append r2) w.2⟩)))
            | _ => exact w.elim
        | _ => exact w.elim
    | _ => exact (False.elim w)
  | _ => exact (False.elim w)
theorem CMulW.op : OpR X (binaryOp .Mult) (rI MulOk fun i j => .int (i * j)) := opI fun _ _ _ _ _ _ _ hc q => by
  rcases hc with hc | hc
  · exact PyProof.Rows.mul_int q hc.ok
  · exact PyProof.Rows.mul_int q hc.ok
theorem op_bin (hK : N.K = X.K) : ∀ o, OpR X (binaryOp (boOp o)) (rBin N o)
  | .add => oimp op_addAll (rbin_add hK)
  | .sub => oimp op_sub fun v u H Q ⟨x, y, S, Qh, rh, rx, ry, w, k⟩ => by
    cases x <;> cases y <;> first | exact False.elim w | skip
    cases rd_int rx; cases rd_int ry
    exact ⟨_, _, rfl, rfl, k.at rh mk_int w⟩
  | .mul => oimp (CMulW.op.or op_rep) fun v u H Q ⟨x, y, S, Qh, rh, rx, ry, w, k⟩ => by
    cases x <;> cases y <;> first | exact False.elim w | skip
    · cases rd_int rx; cases rd_int ry
      exact .inl ⟨_, _, rfl, rfl, w.1, k.at rh mk_int w.2⟩
    · rename_i a n
      cases rd_ref rx; cases rd_int ry
      have w : (match S a with
        | some (.lst xs) => -(2 ^ 63) ≤ n ∧ n < 2 ^ 63 ∧ xs.length * n.toNat ≤ sizeLine ∧ ∀ p, S p = none → Qh (.ref p) (ups S p (.lst (List.replicate n.toNat xs).flatten))
        | _ => False) := w
      cases ea : S a with
      | none => rw [ea] at w; exact w.elim
      | some oa =>
        rw [ea] at w
        cases oa with
        | lst xs =>
          obtain ⟨vs, h1, r1⟩ := at_lst rh ea
          obtain ⟨w1, w2, w3, w4⟩ := w
          have rep : ∀ m : Nat, RDs N H (List.replicate m xs).flatten (List.replicate m vs).flatten := fun m => by
            induction m with
            | zero => exact .nil
            | succ m ih => rw [List.replicate_succ, List.replicate_succ, List.flatten_cons, List.flatten_cons]; exact r1.append ih
          exact .inr ⟨a, n, vs, rfl, rfl, h1, w1, w2, by rw [← r1.length]; exact w3, fun p np => k.newL rh np (rep _) w4⟩
        | _ => exact w.elim
  | .div => oimp op_fdivW fun v u H Q ⟨x, y, S, Qh, rh, rx, ry, w, k⟩ => by
    cases x <;> cases y <;> first | exact False.elim w | skip
    cases rd_int rx; cases rd_int ry
    exact ⟨_, _, rfl, rfl, w.1, k.at rh mk_int w.2⟩
  | .mod => oimp op_mod fun v u H Q ⟨x, y, S, Qh, rh, rx, ry, w, k⟩ => by
    cases x <;> cases y <;> first | exact False.elim w | skip
    cases rd_int rx; cases rd_int ry
    exact ⟨_, _, rfl, rfl, w.1, k.at rh mk_int w.2⟩
  | .pow => oimp op_pow fun v u H Q ⟨x, y, S, Qh, rh, rx, ry, w, k⟩ => by
    cases x <;> cases y <;> first | exact False.elim w | skip
    cases rd_int rx; cases rd_int ry
    exact ⟨_, _, rfl, rfl, w.1, k.at rh mk_int w.2⟩
theorem he_bin (hK : N.K = X.K) {o : Bo} {a b : Expr} {wa wb : Wp} {pos : Pos} (ha : PE X a (tOf N Z wa)) (hb : PE X b (tOf N Z wb)) :
    PE X (.BinOp a (boOp o) b pos) (tOf N Z fun ρ S Q => wa ρ S fun x S1 => wb ρ S1 fun y S2 => wbin o x y S2 Q) :=
  pimp (pe_op (op_bin hK o) ha hb) fun σ H Q t => tOf.two t fun x y S2 v u H2 Qh h rx ry g k => ⟨x, y, S2, Qh, h, rx, ry, g, k⟩
end
end A
end
section
set_option Elab.async false
set_option linter.all false
set_option maxRecDepth 100000
set_option maxHeartbeats 1000000
/-! A4: comparisons, truth, subscripts, slices. -/
namespace A
open PySem L2
section
variable {N : Nm} {X : Cx} {S S' S1 : Sta} {H H' H1 : Hp} {Q : VK} {Qh : K} {σ : L2.St} {ρ : Env}

/-! ### data -/
mutual
theorem dp_of (hK : N.K = X.K) : ∀ (d : D) (p : PyData) (v : V), toP d = some p → RD N H d v → Dp X.K H v p
  | .non, p, v, e, r => by simp only [toP] at e; cases e; cases rd_non r; exact .non
  | .bl b, p, v, e, r => by simp only [toP] at e; cases e; cases rd_bl r; exact .bl b
  | .int i, p, v, e, r => by simp only [toP] at e; cases e; cases rd_int r; exact .int i
  | .str s, p, v, e, r => by simp only [toP] at e; cases e; cases rd_str r; exact .str s
  | .tup l, p, v, e, r => by
    simp only [toP, Option.map_eq_some_iff] at e
    obtain ⟨ps, e1, rfl⟩ := e
    obtain ⟨a, vs, rfl, h1, r1⟩ := rd_tup r
    exact .tup (hK ▸ h1) (dps_of hK l ps vs e1 r1)
  | .lis l, p, v, e, r => by
    simp only [toP, Option.map_eq_some_iff] at e
    obtain ⟨ps, e1, rfl⟩ := e
    obtain ⟨a, vs, rfl, h1, r1⟩ := rd_lis r
    exact .lst (hK ▸ h1) (dps_of hK l ps vs e1 r1)
  | .ref a, p, v, e, r => by simp only [toP] at e; cases e
  | .fn f, p, v, e, r => by simp only [toP] at e; cases e
  | .exc c fs ds, p, v, e, r => by simp only [toP] at e; cases e
theorem dps_of (hK : N.K = X.K) : ∀ (ds : List D) (ps : List PyData) (vs : List V), toPs ds = some ps → RDs N H ds vs → DpAll X.K H vs ps
  | [], ps, vs, e, r => by simp only [toPs] at e; cases e; rw [r.unnil]; exact .nil
  | d :: ds, ps, vs, e, r => by
    simp only [toPs] at e
    cases e1 : toP d with
    | none => rw [e1] at e; cases e
    | some x =>
      rw [e1] at e
      cases e2 : toPs ds with
      | none => rw [e2] at e; cases e
      | some xs =>
        rw [e2] at e; cases e
        obtain ⟨v, t, rfl, h1, h2⟩ := r.uncons
        exact .cons (dp_of hK d x v e1 h1) (dps_of hK ds xs t e2 h2)
end
theorem dpS_of (hK : N.K = X.K) (h : RH N H S) {d : D} {p : PyData} {v : V} (e : toPS S d = some p) (r : RD N H d v) : Dp X.K H v p := by
  cases d with
  | ref a =>
    have e : (match S a with
      | some (.lst xs) => (toPs xs).map .list
      | _ => none) = some p := e
    cases ea : S a with
    | none => rw [ea] at e; cases e
    | some o =>
      rw [ea] at e
      cases o with
      | lst xs =>
        obtain ⟨ps, e1, rfl⟩ := Option.map_eq_some_iff.mp e
        obtain ⟨vs, h1, r1⟩ := at_lst h ea
        cases rd_ref r
        exact .lst (SqL.of h1) (dps_of hK xs ps vs e1 r1)
      | _ => cases e
  | _ => exact dp_of hK _ p v e r

def rEqW (N : Nm) (neg : Bool) : R2 := fun v u H Q => ∃ x y S, RH N H S ∧ RD N H x v ∧ RD N H y u ∧ eqW S x y fun b => Q (.bl (if neg then !b else b)) H
def rEqBoth (K : PySem.W.Frag) : R2 := fun x y H Q => rEq x y H Q ∨ rEqD K x y H Q
theorem dec_i {i j : Int} : decide (V.int i = V.int j) = (i == j) := L2.dec_int
theorem reqw_of (hK : N.K = X.K) {neg : Bool} {v u : V} {x y : D} {P : Bool → Prop} (rh : RH N H S) (rx : RD N H x v) (ry : RD N H y u) (w : eqW S x y P) (q : ∀ b, P b → Q (.bl (if neg then !b else b)) H) :
    (scal v u = true ∧ Q (.bl (if neg then !decide (v = u) else decide (v = u))) H) ∨ ∃ d e, Dp X.K H v d ∧ Dp X.K H u e ∧ SeqAt.shaped d = true ∧ SeqAt.shaped e = true ∧ Q (.bl (if neg then !PyData.eqv d e else PyData.eqv d e)) H := by
  have data : eqDD S x y P → (scal v u = true ∧ Q (.bl (if neg then !decide (v = u) else decide (v = u))) H) ∨ ∃ d e, Dp X.K H v d ∧ Dp X.K H u e ∧ SeqAt.shaped d = true ∧ SeqAt.shaped e = true ∧ Q (.bl (if neg then !PyData.eqv d e else PyData.eqv d e)) H :=
    fun ⟨p, p', e1, e2, s1, s2, z⟩ => .inr ⟨p, p', dpS_of hK rh e1 rx, dpS_of hK rh e2 ry, s1, s2, q _ z⟩
  have fin : ∀ {b : Bool}, P b → scal v u = true → decide (v = u) = b → (scal v u = true ∧ Q (.bl (if neg then !decide (v = u) else decide (v = u))) H) ∨ ∃ d e, Dp X.K H v d ∧ Dp X.K H u e ∧ SeqAt.shaped d = true ∧ SeqAt.shaped e = true ∧ Q (.bl (if neg then !PyData.eqv d e else PyData.eqv d e)) H :=
    fun p s e => .inl ⟨s, by rw [e]; exact q _ p⟩
  cases x with
  | int i =>
    cases rd_int rx
    cases y with
    | int j => cases rd_int ry; exact fin w rfl L2.dec_int
    | non => cases rd_non ry; exact fin w rfl (by simp)
    | str j => cases rd_str ry; exact fin w rfl (by simp)
    | _ => exact data w
  | str i =>
    cases rd_str rx
    cases y with
    | str j => cases rd_str ry; exact fin w rfl L2.dec_str
    | non => cases rd_non ry; exact fin w rfl (by simp)
    | int j => cases rd_int ry; exact fin w rfl (by simp)
    | bl j => cases rd_bl ry; exact fin w rfl (by simp)
    | _ => exact data w
  | bl i =>
    cases rd_bl rx
    cases y with
    | bl j => cases rd_bl ry; exact fin w rfl L2.dec_bl
    | non => cases rd_non ry; exact fin w rfl (by simp)
    | str j => cases rd_str ry; exact fin w rfl (by simp)
    | _ => exact data w
  | non =>
    cases rd_non rx
    cases y with
    | non => cases rd_non ry; exact fin w rfl (by simp)
    | int j => cases rd_int ry; exact fin w rfl (by simp)
    | str j => cases rd_str ry; exact fin w rfl (by simp)
    | bl j => cases rd_bl ry; exact fin w rfl (by simp)
    | _ => exact data w
  | _ => exact data w
theorem op_eqW (hK : N.K = X.K) (hu : X.A.units + 64 < cLine) : OpR X (compareOp .Eq) (rEqW N false) := oimp (op_eq.or (op_eqD hu)) fun v u H Q ⟨x, y, S, rh, rx, ry, w⟩ =>
  (reqw_of (neg := false) (Q := Q) hK rh rx ry w fun _ z => z)
theorem op_neW (hK : N.K = X.K) (hu : X.A.units + 64 < cLine) : OpR X (compareOp .NotEq) (rEqW N true) := oimp (op_ne.or (op_neD hu)) fun v u H Q ⟨x, y, S, rh, rx, ry, w⟩ =>
  (reqw_of (neg := true) (Q := Q) hK rh rx ry w fun _ z => z)

/-! ### in -/
theorem rd_flat {d : D} {v : V} (r : RD N H d v) (f : flatD d = true) : flatV v = true := by
  cases d with
  | non => cases rd_non r; rfl
  | bl b => cases rd_bl r; rfl
  | int b => cases rd_int r; rfl
  | str b => cases rd_str r; rfl
  | _ => cases f
theorem rd_eqF {d e : D} {v u : V} (r : RD N H d v) (s : RD N H e u) (f : flatD d = true) (g : flatD e = true) : L2.eqV v u = eqF d e := by
  cases d with
  | non => cases rd_non r; cases e with
    | non => cases rd_non s; rfl
    | bl b => cases rd_bl s; rfl
    | int b => cases rd_int s; rfl
    | str b => cases rd_str s; rfl
    | _ => cases g
  | bl b => cases rd_bl r; cases e with
    | non => cases rd_non s; rfl
    | bl b => cases rd_bl s; rfl
    | int b => cases rd_int s; rfl
    | str b => cases rd_str s; rfl
    | _ => cases g
  | int b => cases rd_int r; cases e with
    | non => cases rd_non s; rfl
    | bl b => cases rd_bl s; rfl
    | int b => cases rd_int s; rfl
    | str b => cases rd_str s; rfl
    | _ => cases g
  | str b => cases rd_str r; cases e with
    | non => cases rd_non s; rfl
    | bl b => cases rd_bl s; rfl
    | int b => cases rd_int s; rfl
    | str b => cases rd_str s; rfl
    | _ => cases g
  | _ => cases f
theorem rds_flat : ∀ {ds : List D} {vs : List V}, RDs N H ds vs → ds.all flatD = true → vs.all flatV = true
  | [], vs, r, _ => by rw [r.unnil]; rfl
  | d :: ds, vs, r, f => by
    obtain ⟨v, t, rfl, h1, h2⟩ := r.uncons
    simp only [List.all_cons, Bool.and_eq_true] at f ⊢
    exact ⟨rd_flat h1 f.1, rds_flat h2 f.2⟩
theorem rds_in {x : D} {v : V} (rx : RD N H x v) (fx : flatD x = true) : ∀ {ds : List D} {vs : List V}, RDs N H ds vs → ds.all flatD = true → L2.inV v vs = inList x ds
  | [], vs, r, _ => by rw [r.unnil]; rfl
  | d :: ds, vs, r, f => by
    obtain ⟨u, t, rfl, h1, h2⟩ := r.uncons
    simp only [List.all_cons, Bool.and_eq_true] at f
    have ih := rds_in rx fx h2 f.2
    unfold L2.inV inList at ih ⊢
    rw [List.any_cons, List.any_cons, ih, rd_eqF h1 rx f.1 fx]
theorem key_rd {d : D} {k : Key} {v : V} (e : keyD d = some k) (r : RD N H d v) : v = kV k := by
  cases d with
  | int i => cases e; cases rd_int r; rfl
  | str i => cases e; cases rd_str r; rfl
  | _ => cases e
/-- what two dicts hold at a key -/
theorem kget_rel {k : Key} : ∀ {kvs : List (Key × D)} {ws : List (Key × V)}, ws.map (·.1) = kvs.map (·.1) → RDs N H (kvs.map (·.2)) (ws.map (·.2)) →
    (kget kvs k = none ∧ valV ws k = none) ∨ ∃ d v, kget kvs k = some d ∧ valV ws k = some v ∧ RD N H d v
  | [], ws, e, r => by
    cases ws with
    | nil => exact .inl ⟨rfl, rfl⟩
    | cons _ _ => simp at e
  | p :: kvs, ws, e, r => by
    cases ws with
    | nil => simp at e
    | cons q ws =>
      simp only [List.map_cons, List.cons.injEq] at e
      have r : RDs N H (p.2 :: kvs.map (·.2)) (q.2 :: ws.map (·.2)) := r
      obtain ⟨v, t, e2, h1, h2⟩ := r.uncons
      cases e2
      by_cases hk : p.1 = k
      · refine .inr ⟨p.2, q.2, ?_, valV_pos (e.1.trans hk), h1⟩
        unfold kget
        rw [List.find?_cons_of_pos (by simpa using hk)]
        rfl
      · have e3 : kget (p :: kvs) k = kget kvs k := by
          unfold kget
          rw [List.find?_cons_of_neg (by simpa using hk)]
        rw [e3, valV_neg (fun z => hk (e.1.symm.trans z))]
        exact kget_rel e.2 h2
def rDIn (neg : Bool) : R2 := fun v u H Q => ∃ a o, u = .ref a ∧ DGet H a v o ∧ Q (.bl (if neg then !o.isSome else o.isSome)) H
theorem op_dIn (hu : X.A.units + 1 < cLine) : OpR X (compareOp .In) (rDIn false) := by
  intro pins s σ H x y v u Q I rx ry h
  obtain ⟨a, o, rfl, g, q⟩ := h
  cases ry
  exact d_in hu I g rx fun s3 I3 => ⟨.bl o.isSome, H, I3, rfl, q⟩
theorem op_dNotIn (hu : X.A.units + 1 < cLine) : OpR X (compareOp .NotIn) (rDIn true) := by
  intro pins s σ H x y v u Q I rx ry h
  obtain ⟨a, o, rfl, g, q⟩ := h
  cases ry
  exact d_notIn hu I g rx fun s3 I3 => ⟨.bl (!o.isSome), H, I3, rfl, q⟩
def rInW (N : Nm) (neg : Bool) : R2 := fun v u H Q => ∃ x y S, RH N H S ∧ RD N H x v ∧ RD N H y u ∧
  ((∃ c z n, x = .str c ∧ y = .str z ∧ c = ⟨#[n]⟩ ∧ Q (.bl (if neg then !decide (n ∈ z.cps.toList) else decide (n ∈ z.cps.toList))) H) ∨
   (∃ l, (y = .tup l ∨ ∃ a, y = .ref a ∧ S a = some (.lst l)) ∧ flatD x = true ∧ l.all flatD = true ∧ Q (.bl (if neg then !inList x l else inList x l)) H) ∨
   (∃ a kvs k, y = .ref a ∧ (S a = some (.dic kvs) ∨ S a = some (.dicF kvs)) ∧ keyD x = some k ∧ Q (.bl (if neg then !(kget kvs k).isSome else (kget kvs k).isSome)) H))
theorem dget_of (rh : RH N H S) {a : Addr} {kvs : List (Key × D)} (h : S a = some (.dic kvs) ∨ S a = some (.dicF kvs)) (k : Key) :
    ∃ o, DGet H a (kV k) o ∧ ((kget kvs k = none ∧ o = none) ∨ ∃ d v, kget kvs k = some d ∧ o = some v ∧ RD N H d v) := by
  rcases h with h | h
  · obtain ⟨ws, h1, e, r⟩ := at_dic rh h
    exact ⟨_, DGet.k h1, kget_rel e r⟩
  · obtain ⟨od, ws, h1, e, r⟩ := at_dicF rh h
    exact ⟨_, .inl ⟨ws, k, .inr ⟨od, h1⟩, rfl, rfl⟩, kget_rel e r⟩
theorem isSome_of {α β : Type} {p : Option α} {o : Option β} {R : α → β → Prop} (h : (p = none ∧ o = none) ∨ ∃ d v, p = some d ∧ o = some v ∧ R d v) : o.isSome = p.isSome := by
  rcases h with ⟨rfl, rfl⟩ | ⟨_, _, rfl, rfl, _⟩ <;> rfl
theorem op_inW (hK : N.K = X.K) (hu : X.A.units + 1 < cLine) : OpR X (compareOp .In) (rInW N false) := oimp (op_in_sign.or (op_in_seq.or (op_dIn hu))) fun v u H Q ⟨x, y, S, rh, rx, ry, w⟩ => by
  rcases w with ⟨c, z, n, rfl, rfl, rfl, q⟩ | ⟨l, hl, fx, fl, q⟩ | ⟨a, kvs, k, rfl, hs, hk, q⟩
  · cases rd_str rx; cases rd_str ry
    exact .inl ⟨n, z, rfl, rfl, q⟩
  · rcases hl with rfl | ⟨a, rfl, e⟩
    · obtain ⟨a, vs, rfl, h1, r1⟩ := rd_tup ry
      exact .inr (.inl ⟨a, vs, rfl, .inr (hK ▸ h1), rd_flat rx fx, rds_flat r1 fl, by rw [rds_in rx fx r1 fl]; exact q⟩)
    · cases rd_ref ry
      obtain ⟨vs, h1, r1⟩ := at_lst rh e
      exact .inr (.inl ⟨a, vs, rfl, .inl (SqL.of h1), rd_flat rx fx, rds_flat r1 fl, by rw [rds_in rx fx r1 fl]; exact q⟩)
  · cases rd_ref ry
    obtain ⟨o, g, z⟩ := dget_of rh hs k
    rw [key_rd hk rx]
    exact .inr (.inr ⟨a, o, rfl, g, by rw [isSome_of z]; exact q⟩)
theorem op_notInW (hK : N.K = X.K) (hu : X.A.units + 1 < cLine) : OpR X (compareOp .NotIn) (rInW N true) := oimp (op_notIn_sign.or (op_notIn_seq.or (op_dNotIn hu))) fun v u H Q ⟨x, y, S, rh, rx, ry, w⟩ => by
  rcases w with ⟨c, z, n, rfl, rfl, rfl, q⟩ | ⟨l, hl, fx, fl, q⟩ | ⟨a, kvs, k, rfl, hs, hk, q⟩
  · cases rd_str rx; cases rd_str ry
    exact .inl ⟨n, z, rfl, rfl, q⟩
  · rcases hl with rfl | ⟨a, rfl, e⟩
    · obtain ⟨a, vs, rfl, h1, r1⟩ := rd_tup ry
      exact .inr (.inl ⟨a, vs, rfl, .inr (hK ▸ h1), rd_flat rx fx, rds_flat r1 fl, by rw [rds_in rx fx r1 fl]; exact q⟩)
    · cases rd_ref ry
      obtain ⟨vs, h1, r1⟩ := at_lst rh e
      exact .inr (.inl ⟨a, vs, rfl, .inl (SqL.of h1), rd_flat rx fx, rds_flat r1 fl, by rw [rds_in rx fx r1 fl]; exact q⟩)
  · cases rd_ref ry
    obtain ⟨o, g, z⟩ := dget_of rh hs k
    rw [key_rd hk rx]
    exact .inr (.inr ⟨a, o, rfl, g, by rw [isSome_of z]; exact q⟩)

/-! ### all comparisons -/
def coOp : Co → CmpOp
  | .eq => .Eq | .ne => .NotEq | .lt => .Lt | .le => .LtE | .gt => .Gt | .ge => .GtE | .is => .Is | .isn => .IsNot | .inn => .In | .nin => .NotIn
/-- an instance's own __eq__ (given by the program's defs) -/
def rOwn (N : Nm) (C : Orc) (neg : Bool) : R2 := fun v u H Q => ∃ a c fs y S Qh, v = .ref a ∧ RH N H S ∧ RD N H y u ∧ S a = some (.ins c fs) ∧
  C (mth c mEq) [.ref a, y] S (fun r S' => ∃ b, r = .bl b ∧ Qh (.bl (if neg then !b else b)) S') (fun _ _ => False) ∧ Kn N S H Qh Q
def rCmp (N : Nm) (C : Orc) (o : Co) : R2 := fun v u H Q => ∃ x y S Qh, RH N H S ∧ RD N H x v ∧ RD N H y u ∧ wcmp C o x y S (fun b S' => Qh (.bl b) S') ∧ Kn N S H Qh Q
theorem rcmp_eq {C : Orc} {neg : Bool} {o : Co} (ho : o = (if neg then Co.ne else Co.eq)) {v u : V} {x y : D} (rh : RH N H S) (rx : RD N H x v) (ry : RD N H y u) (w : wcmp C o x y S (fun b S' => Qh (.bl b) S')) (k : Kn N S H Qh Q) :
    rEqW N neg v u H Q ∨ rOwn N C neg v u H Q := by
  have data : (eqW S x y fun b => Qh (.bl (if neg then !b else b)) S) → rEqW N neg v u H Q ∨ rOwn N C neg v u H Q := fun z => by
    refine .inl ⟨x, y, S, rh, rx, ry, ?_⟩
    have mono : ∀ {P P' : Bool → Prop}, (∀ b, P b → P' b) → eqW S x y P → eqW S x y P' := fun {P P'} i z => by
      unfold eqW at z ⊢
      split at z <;> first | exact i _ z | (obtain ⟨p, q, e1, e2, s1, s2, z⟩ := z; exact ⟨p, q, e1, e2, s1, s2, i _ z⟩)
    exact mono (fun b q => k.at rh mk_bl q) z
  subst ho
  cases x with
  | ref a =>
    cases rd_ref rx
    cases ea : S a with
    | none =>
      refine data ?_
      cases neg <;> (simp only [wcmp, ea] at w; exact w)
    | some ob =>
      cases ob with
      | ins c fs =>
        refine .inr ⟨a, c, fs, y, S, Qh, rfl, rh, ry, ea, ?_, k⟩
        cases neg <;> (simp only [wcmp, ea] at w; exact w)
      | _ =>
        refine data ?_
        cases neg <;> (simp only [wcmp, ea] at w; exact w)
  | _ => refine data ?_; cases neg <;> (simp only [wcmp] at w; exact w)
theorem op_cmp {C : Orc} (hK : N.K = X.K) (hu : X.A.units + 64 < cLine) (h1 : OpR X (compareOp .Eq) (rOwn N C false)) (h2 : OpR X (compareOp .NotEq) (rOwn N C true)) : ∀ o, OpR X (compareOp (coOp o)) (rCmp N C o)
  | .eq => oimp ((op_eqW hK hu).or h1) fun v u H Q ⟨x, y, S, Qh, rh, rx, ry, w, k⟩ => rcmp_eq (neg := false) rfl rh rx ry w k
  | .ne => oimp ((op_neW hK hu).or h2) fun v u H Q ⟨x, y, S, Qh, rh, rx, ry, w, k⟩ => rcmp_eq (neg := true) rfl rh rx ry w k
  | .lt => oimp op_lt fun v u H Q ⟨x, y, S, Qh, rh, rx, ry, w, k⟩ => by
    cases x <;> cases y <;> first | exact False.elim w | skip
    cases rd_int rx; cases rd_int ry
    exact ⟨_, _, rfl, rfl, k.at rh mk_bl w⟩
  | .le => oimp op_le fun v u H Q ⟨x, y, S, Qh, rh, rx, ry, w, k⟩ => by
    cases x <;> cases y <;> first | exact False.elim w | skip
    cases rd_int rx; cases rd_int ry
    exact ⟨_, _, rfl, rfl, k.at rh mk_bl w⟩
  | .gt => oimp op_gt fun v u H Q ⟨x, y, S, Qh, rh, rx, ry, w, k⟩ => by
    cases x <;> cases y <;> first | exact False.elim w | skip
    cases rd_int rx; cases rd_int ry
    exact ⟨_, _, rfl, rfl, k.at rh mk_bl w⟩
  | .ge => oimp op_ge fun v u H Q ⟨x, y, S, Qh, rh, rx, ry, w, k⟩ => by
    cases x <;> cases y <;> first | exact False.elim w | skip
    cases rd_int rx; cases rd_int ry
    exact ⟨_, _, rfl, rfl, k.at rh mk_bl w⟩
  | .is => oimp op_isN fun v u H Q ⟨x, y, S, Qh, rh, rx, ry, w, k⟩ => by
    cases y <;> first | exact False.elim w | skip
    cases rd_non ry
    refine ⟨rfl, k.at rh mk_bl ?_⟩
    cases x with
    | non => cases rd_non rx; exact w
    | bl b => cases rd_bl rx; exact w
    | int b => cases rd_int rx; exact w
    | str b => cases rd_str rx; exact w
    | ref b => cases rd_ref rx; exact w
    | fn b => cases rd_fn rx; exact w
    | tup l => obtain ⟨a, vs, rfl, _⟩ := rd_tup rx; exact w
    | lis l => obtain ⟨a, vs, rfl, _⟩ := rd_lis rx; exact w
    | exc c fs ds => simp only [RD] at rx; obtain ⟨a, _, _, _, rfl, _⟩ := rx; exact w
  | .isn => oimp op_notN fun v u H Q ⟨x, y, S, Qh, rh, rx, ry, w, k⟩ => by
    cases y <;> first | exact False.elim w | skip
    cases rd_non ry
    refine ⟨rfl, k.at rh mk_bl ?_⟩
    cases x with
    | non => cases rd_non rx; exact w
    | bl b => cases rd_bl rx; exact w
    | int b => cases rd_int rx; exact w
    | str b => cases rd_str rx; exact w
    | ref b => cases rd_ref rx; exact w
    | fn b => cases rd_fn rx; exact w
    | tup l => obtain ⟨a, vs, rfl, _⟩ := rd_tup rx; exact w
    | lis l => obtain ⟨a, vs, rfl, _⟩ := rd_lis rx; exact w
    | exc c fs ds => simp only [RD] at rx; obtain ⟨a, _, _, _, rfl, _⟩ := rx; exact w
  | .inn => oimp (op_inW hK (by omega)) fun v u H Q ⟨x, y, S, Qh, rh, rx, ry, w, k⟩ => by
    refine ⟨x, y, S, rh, rx, ry, ?_⟩
    simp only [wcmp] at w
    split at w
    · obtain ⟨n, e, q⟩ := w
      exact .inl ⟨_, _, n, rfl, rfl, e, k.at rh mk_bl q⟩
    · exact .inr (.inl ⟨_, .inl rfl, w.1, w.2.1, k.at rh mk_bl w.2.2⟩)
    · split at w
      · exact .inr (.inl ⟨_, .inr ⟨_, rfl, by assumption⟩, w.1, w.2.1, k.at rh mk_bl w.2.2⟩)
      · obtain ⟨j, e, q⟩ := w
        exact .inr (.inr ⟨_, _, j, rfl, .inl (by assumption), e, k.at rh mk_bl q⟩)
      · obtain ⟨j, e, q⟩ := w
        exact .inr (.inr ⟨_, _, j, rfl, .inr (by assumption), e, k.at rh mk_bl q⟩)
      · exact w.elim
    · exact w.elim
  | .nin => oimp (op_notInW hK (by omega)) fun v u H Q ⟨x, y, S, Qh, rh, rx, ry, w, k⟩ => by
    refine ⟨x, y, S, rh, rx, ry, ?_⟩
    simp only [wcmp] at w
    split at w
    · obtain ⟨n, e, q⟩ := w
      exact .inl ⟨_, _, n, rfl, rfl, e, k.at rh mk_bl q⟩
    · exact .inr (.inl ⟨_, .inl rfl, w.1, w.2.1, k.at rh mk_bl w.2.2⟩)
    · split at w
      · exact .inr (.inl ⟨_, .inr ⟨_, rfl, by assumption⟩, w.1, w.2.1, k.at rh mk_bl w.2.2⟩)
      · obtain ⟨j, e, q⟩ := w
        exact .inr (.inr ⟨_, _, j, rfl, .inl (by assumption), e, k.at rh mk_bl q⟩)
      · obtain ⟨j, e, q⟩ := w
        exact .inr (.inr ⟨_, _, j, rfl, .inr (by assumption), e, k.at rh mk_bl q⟩)
      · exact w.elim
    · exact w.elim
end
end A
end
section
set_option Elab.async false
set_option linter.all false
set_option maxRecDepth 100000
set_option maxHeartbeats 1000000
/-! A5: the rules for expressions without calls. -/
namespace A
open PySem L2
section
variable {N : Nm} {Z : Sta × Hp} {X : Cx} {S S' S1 : Sta} {H H' H1 : Hp} {Q : VK} {Qh : K} {σ : L2.St} {ρ : Env} {pos : Pos} {a b c e : Expr} {wa wb wc : Wp}

/-! ### truth -/
theorem tru_of (hK : N.K = X.K) {x : D} {v : V} {P : Bool → Prop} (rh : RH N H S) (rx : RD N H x v) (w : wtru S x P) : ∃ k, TruV X.K v H k ∧ P k ∧ wtru S x (fun b => b = k) := by
  cases x with
  | non => cases rd_non rx; exact ⟨false, rfl, w, rfl⟩
  | bl b => cases rd_bl rx; exact ⟨b, rfl, w, rfl⟩
  | int i => cases rd_int rx; exact ⟨i != 0, rfl, w, rfl⟩
  | str s =>
    cases rd_str rx
    obtain ⟨h1, h2⟩ := w
    have e : ((s.length : Int) != 0) = (s.length != 0) := by
      by_cases z : s.length = 0
      · rw [z]; rfl
      · rw [bne_iff_ne.mpr z]; exact bne_iff_ne.mpr (by omega)
    exact ⟨s.length != 0, ⟨h1, e.symm⟩, h2, h1, rfl⟩
  | tup l =>
    obtain ⟨a, vs, rfl, h1, r1⟩ := rd_tup rx
    refine ⟨!l.isEmpty, .inr (.inl ⟨vs, hK ▸ h1, ?_⟩), w, rfl⟩
    cases l with
    | nil => rw [r1.unnil]; rfl
    | cons _ _ => obtain ⟨_, _, rfl, _⟩ := r1.uncons; rfl
  | lis l =>
    obtain ⟨a, vs, rfl, h1, r1⟩ := rd_lis rx
    refine ⟨!l.isEmpty, .inl ⟨vs, hK ▸ h1, ?_⟩, w, rfl⟩
    cases l with
    | nil => rw [r1.unnil]; rfl
    | cons _ _ => obtain ⟨_, _, rfl, _⟩ := r1.uncons; rfl
  | ref a =>
    cases rd_ref rx
    have w' : (match S a with
      | some (.lst xs) => P (!xs.isEmpty)
      | some (.dic kvs) => P (!kvs.isEmpty)
      | _ => False) := w
    cases ea : S a with
    | none => rw [ea] at w'; exact w'.elim
    | some o =>
      rw [ea] at w'
      cases o with
      | lst xs =>
        obtain ⟨vs, h1, r1⟩ := at_lst rh ea
        refine ⟨!xs.isEmpty, .inl ⟨vs, SqL.of h1, ?_⟩, w', ?_⟩
        · cases xs with
          | nil => rw [r1.unnil]; rfl
          | cons _ _ => obtain ⟨_, _, rfl, _⟩ := r1.uncons; rfl
        · simp only [wtru, ea]
      | dic kvs =>
        obtain ⟨ws, h1, e1, _⟩ := at_dic rh ea
        refine ⟨!kvs.isEmpty, .inr (.inr ⟨ws, h1, ?_⟩), w', ?_⟩
        · cases kvs with
          | nil => cases ws with
            | nil => rfl
            | cons _ _ => simp at e1
          | cons _ _ => cases ws with
            | nil => simp at e1
            | cons _ _ => rfl
        · simp only [wtru, ea]
      | _ => exact w'.elim
  | _ => exact (False.elim w)
theorem wtru_at {x : D} {k : Bool} {P : Bool → Prop} (h : wtru S x (fun b => b = k)) (w : wtru S x P) : P k := by
  unfold wtru at h w
  split at h <;> simp_all
  split at h <;> simp_all
theorem wtru_mk {x : D} {k : Bool} {P : Bool → Prop} (h : wtru S x (fun b => b = k)) (p : P k) : wtru S x P := by
  unfold wtru at h ⊢
  cases x with
  | ref a =>
    dsimp only at h ⊢
    cases ea : S a with
    | none => rw [ea] at h; exact h.elim
    | some o =>
      rw [ea] at h
      cases o with
      | lst xs => have h' : (!xs.isEmpty) = k := h; subst h'; exact p
      | dic xs => have h' : (!xs.isEmpty) = k := h; subst h'; exact p
      | _ => exact h.elim
  | str s => obtain ⟨h1, h2⟩ := h; subst h2; exact ⟨h1, p⟩
  | non => have h' : false = k := h; subst h'; exact p
  | bl b => have h' : b = k := h; subst h'; exact p
  | int i => have h' : (i != 0) = k := h; subst h'; exact p
  | tup l => have h' : (!l.isEmpty) = k := h; subst h'; exact p
  | lis l => have h' : (!l.isEmpty) = k := h; subst h'; exact p
  | _ => exact (False.elim h)
/-- a test's reading -/
def tT (N : Nm) (Z : Sta × Hp) (w : Wp) : TT := fun σ H Q => ∃ (ρ : Env) (S : Sta) (Qx : K), RS N H σ ρ ∧ RH N H S ∧ Fr Z.1 Z.2 S H ∧ w ρ S Qx ∧ ∀ x S' H', Fr S H S' H' → RH N H' S' → Qx x S' → wtru S' x fun k => Q k H'
theorem ptimp {e : Expr} {t t' : TT} (h : PT X e t) (i : ∀ σ H Q, t' σ H Q → t σ H Q) : PT X e t' := ⟨fun pins s σ H Q I q => h.run pins s σ H Q I (i σ H Q q)⟩
theorem pwimp {e : Expr} {t t' : TT} (h : PW X e t) (i : ∀ σ H Q, t' σ H Q → t σ H Q) : PW X e t' := ⟨fun wh pins s σ H Q I q => h.run wh pins s σ H Q I (i σ H Q q)⟩
/-- expressions whose test is their value's truth -/
def plainT : Expr → Bool
  | .Name _ _ => true
  | .Call _ _ _ _ => true
  | .Subscript _ _ _ => true
  | .Attribute _ _ _ => true
  | .Constant _ _ _ => true
  | .BinOp _ _ _ _ => true
  | .List _ _ => true
  | .Tuple _ _ _ => true
  | _ => false
theorem he_truth (hK : N.K = X.K) (h : PE X a (tOf N Z wa)) (pl : plainT a = true) : PT X a (tT N Z wa) := by
  have g : ∀ whole, isTrue a X.env whole = (do let v ← whole; standAt a.pos; holding [v] (truthy v)) := by
    cases a <;> first | (intro _; rfl) | cases pl
  refine ptimp (pt_truth h g) fun σ H Q t => ?_
  obtain ⟨ρ, S, Qx, rs, rh, fz, w, k⟩ := t
  refine ⟨ρ, S, _, rs, rh, fz, w, fun x S1 v H1 f h1 r q => ?_⟩
  obtain ⟨j, t1, p1, _⟩ := tru_of hK h1 r (k x S1 H1 f h1 q)
  exact ⟨j, t1, p1⟩
/-- an expression whose value is a bool -/
theorem ht_bl (h : PT X a (tTest (tOf N Z wa))) (hw : ∀ ρ S (Q : K), wa ρ S Q → wa ρ S fun d S' => (∃ b, d = .bl b) ∧ Q d S') : PT X a (tT N Z wa) := by
  refine ptimp h fun σ H Q t => ?_
  obtain ⟨ρ, S, Qx, rs, rh, fz, w, k⟩ := t
  refine ⟨ρ, S, _, rs, rh, fz, hw _ _ _ w, fun x S1 v H1 f h1 r ⟨⟨b, e⟩, q⟩ => ?_⟩
  subst e
  cases rd_bl r
  exact ⟨b, rfl, k _ S1 H1 f h1 q⟩

/-! ### names, constants -/
def hv (i : Nat) : Wp := fun ρ S Q => ∃ d, ρ[i]? = some (some d) ∧ Q d S
theorem he_v {i : Nat} {x : Str} (hN : X.N[i]? = some x) (hv' : Vis X.env.scope x) (hd : (x == ("__debug__" : Str)) = false) (hcd : (x == ("__classdict__" : Str)) = false) : PE X (.Name x pos) (tOf N Z (hv i)) :=
  pimp (pe_var hN hv' hd hcd) fun σ H Q ⟨ρ, S, Qh, rs, rh, fz, ⟨d, e, q⟩, k⟩ => let ⟨v, e2, r⟩ := rs.2 i d e; ⟨v, e2, k.at rh r q⟩
def hc (d : D) : Wp := fun _ S Q => Q d S
theorem he_c {t : V} {d : D} (h : PE X e (tC t)) (r : ∀ H, RD N H d t) : PE X e (tOf N Z (hc d)) :=
  pimp h fun σ H Q ⟨ρ, S, Qh, rs, rh, fz, q, k⟩ => k.at rh (r H) q
theorem he_nev {w : Wp} (h : ∀ ρ S Q, ¬ w ρ S Q) : PE X e (tOf N Z w) := ⟨fun _ _ _ _ _ _ ⟨ρ, S, Qh, _, _, _, q, _⟩ => (h _ _ _ q).elim⟩
theorem ht_nev {w : Wp} (h : ∀ ρ S Q, ¬ w ρ S Q) : PT X e (tT N Z w) := ⟨fun _ _ _ _ _ _ ⟨ρ, S, Qh, _, _, _, q, _⟩ => (h _ _ _ q).elim⟩

/-! ### one operand -/
def gNeg : D → Sta → K → Prop := fun x S1 Q => match x with
    | .int i => Q (.int (-i)) S1
    | _ => False
theorem he_neg (ha : PE X a (tOf N Z wa)) : PE X (.UnaryOp .USub a pos) (tOf N Z fun ρ S Q => wa ρ S fun x S1 => gNeg x S1 Q) :=
  pimp (pe_un un_neg ha) fun σ H Q t => tOf.one (g := fun _ x S1 Q => gNeg x S1 Q) t fun ρ x S1 v H1 Qh rs rh fz r g k => by
    cases x with
    | int i => cases rd_int r; exact ⟨i, rfl, k.at rh mk_int g⟩
    | _ => exact (False.elim g)
theorem he_not (hK : N.K = X.K) (ha : PE X a (tOf N Z wa)) : PE X (.UnaryOp .Not a pos) (tOf N Z fun ρ S Q => wa ρ S fun x S1 => wtru S1 x fun b => Q (.bl (!b)) S1) :=
  pimp (pe_notT ha) fun σ H Q t => tOf.one (g := fun _ x S1 Q => wtru S1 x fun b => Q (.bl (!b)) S1) t fun ρ x S1 v H1 Qh rs rh fz r g k => by
    obtain ⟨j, t1, p1, _⟩ := tru_of hK rh r g
    exact ⟨j, t1, k.at rh mk_bl p1⟩
theorem wtru_some {x : D} {P : Bool → Prop} (w : wtru S x P) : ∃ k, P k ∧ wtru S x (fun b => b = k) := by
  cases x with
  | non => exact ⟨_, w, rfl⟩
  | bl b => exact ⟨_, w, rfl⟩
  | int i => exact ⟨_, w, rfl⟩
  | str s => exact ⟨_, w.2, w.1, rfl⟩
  | tup l => exact ⟨_, w, rfl⟩
  | lis l => exact ⟨_, w, rfl⟩
  | ref a =>
    unfold wtru at w ⊢
    dsimp only at w ⊢
    cases ea : S a with
    | none => rw [ea] at w; exact w.elim
    | some o =>
      rw [ea] at w
      cases o with
      | lst xs => exact ⟨_, w, rfl⟩
      | dic xs => exact ⟨_, w, rfl⟩
      | _ => exact w.elim
  | _ => exact (False.elim w)
theorem ht_not (ha : PT X a (tT N Z wa)) : PT X (.UnaryOp .Not a pos) (tT N Z fun ρ S Q => wa ρ S fun x S1 => wtru S1 x fun b => Q (.bl (!b)) S1) :=
  ptimp (pt_not ha) fun σ H Q ⟨ρ, S, Qx, rs, rh, fz, w, k⟩ => ⟨ρ, S, _, rs, rh, fz, w, fun x S' H' f h q => by
    obtain ⟨j, p, t⟩ := wtru_some q
    exact wtru_mk t (k _ S' H' f h p)⟩

/-! ### and, or -/
def hAnd (wa wb : Wp) : Wp := fun ρ S Q => wa ρ S fun x S1 => wtru S1 x fun c => if c = true then wb ρ S1 Q else Q x S1
def hOr (wa wb : Wp) : Wp := fun ρ S Q => wa ρ S fun x S1 => wtru S1 x fun c => if c = true then Q x S1 else wb ρ S1 Q
variable {r : List Expr}
theorem he_and (hK : N.K = X.K) (ha : PE X a (tOf N Z wa)) (hb : PE X (.BoolOp .And (b :: r) pos) (tOf N Z wb)) : PE X (.BoolOp .And (a :: b :: r) pos) (tOf N Z (hAnd wa wb)) :=
  pimp (pe_andT ha hb) fun σ H Q t => tOf.one (g := fun ρ x S1 Q => wtru S1 x fun c => if c = true then wb ρ S1 Q else Q x S1) t fun ρ x S1 v H1 Qh rs rh fz rx g k => by
    obtain ⟨j, t1, p1, _⟩ := tru_of hK rh rx g
    refine ⟨j, t1, ?_⟩
    cases j with
    | true => exact ⟨ρ, S1, Qh, rs, rh, fz, p1, k⟩
    | false => exact k.at rh rx p1
theorem he_or (hK : N.K = X.K) (ha : PE X a (tOf N Z wa)) (hb : PE X (.BoolOp .Or (b :: r) pos) (tOf N Z wb)) : PE X (.BoolOp .Or (a :: b :: r) pos) (tOf N Z (hOr wa wb)) :=
  pimp (pe_orT ha hb) fun σ H Q t => tOf.one (g := fun ρ x S1 Q => wtru S1 x fun c => if c = true then Q x S1 else wb ρ S1 Q) t fun ρ x S1 v H1 Qh rs rh fz rx g k => by
    obtain ⟨j, t1, p1, _⟩ := tru_of hK rh rx g
    refine ⟨j, t1, ?_⟩
    cases j with
    | false => exact ⟨ρ, S1, Qh, rs, rh, fz, p1, k⟩
    | true => exact k.at rh rx p1
theorem he_bool1 {o : BoolOp} (h : PE X a (tOf N Z wa)) : PE X (.BoolOp o [a] pos) (tOf N Z wa) := pe_one h
theorem hw_and1 (ha : PT X a (tT N Z wa)) : PW X (.BoolOp .And [a] pos) (tT N Z wa) := pw_and1 ha
theorem hw_or1 (ha : PT X a (tT N Z wa)) : PW X (.BoolOp .Or [a] pos) (tT N Z wa) := pw_or1 ha
theorem hw_and (ha : PT X a (tT N Z wa)) (hb : PW X (.BoolOp .And (b :: r) pos) (tT N Z wb)) : PW X (.BoolOp .And (a :: b :: r) pos) (tT N Z (hAnd wa wb)) :=
  pwimp (pw_and ha hb) fun σ H Q ⟨ρ, S, Qx, rs, rh, fz, w, k⟩ => ⟨ρ, S, _, rs, rh, fz, w, fun x S' H' f h q => by
    obtain ⟨j, p, t⟩ := wtru_some q
    refine wtru_mk t ?_
    cases j with
    | true => exact ⟨ρ, S', Qx, rs.mono (f.dle rh), h, fz.trans f, p, fun x S2 H2 f2 h2 q2 => k x S2 H2 (f.trans f2) h2 q2⟩
    | false => exact wtru_at t (k x S' H' f h p)⟩
theorem hw_or (ha : PT X a (tT N Z wa)) (hb : PW X (.BoolOp .Or (b :: r) pos) (tT N Z wb)) : PW X (.BoolOp .Or (a :: b :: r) pos) (tT N Z (hOr wa wb)) :=
  pwimp (pw_or ha hb) fun σ H Q ⟨ρ, S, Qx, rs, rh, fz, w, k⟩ => ⟨ρ, S, _, rs, rh, fz, w, fun x S' H' f h q => by
    obtain ⟨j, p, t⟩ := wtru_some q
    refine wtru_mk t ?_
    cases j with
    | false => exact ⟨ρ, S', Qx, rs.mono (f.dle rh), h, fz.trans f, p, fun x S2 H2 f2 h2 q2 => k x S2 H2 (f.trans f2) h2 q2⟩
    | true => exact wtru_at t (k x S' H' f h p)⟩
/-- a if t else b -/
def hIte (wt wa wb : Wp) : Wp := fun ρ S Q => wt ρ S fun x S1 => wtru S1 x fun c => if c = true then wa ρ S1 Q else wb ρ S1 Q
theorem he_ite (ht : PT X c (tT N Z wc)) (ha : PE X a (tOf N Z wa)) (hb : PE X b (tOf N Z wb)) : PE X (.IfExp c a b pos) (tOf N Z (hIte wc wa wb)) :=
  pimp (pe_ifExp ht ha hb) fun σ H Q ⟨ρ, S, Qh, rs, rh, fz, w, k⟩ => ⟨ρ, S, _, rs, rh, fz, w, fun x S' H' f h q => by
    obtain ⟨j, p, t⟩ := wtru_some q
    refine wtru_mk t ?_
    cases j with
    | true => exact ⟨ρ, S', Qh, rs.mono (f.dle rh), h, fz.trans f, p, k.step f⟩
    | false => exact ⟨ρ, S', Qh, rs.mono (f.dle rh), h, fz.trans f, p, k.step f⟩⟩

/-! ### comparisons -/
def hCmp (C : Orc) (o : Co) (wa wb : Wp) : Wp := fun ρ S Q => wa ρ S fun x S1 => wb ρ S1 fun y S2 => wcmp C o x y S2 fun r S3 => Q (.bl r) S3
theorem hCmp_bl {C : Orc} {o : Co} (ρ : Env) (S : Sta) (Q : K) (w : hCmp C o wa wb ρ S Q) : hCmp C o wa wb ρ S fun d S' => (∃ b, d = .bl b) ∧ Q d S' := by
  unfold hCmp at w ⊢
  simpa using w
theorem cmp_pe {C : Orc} {o : Co} (σ : L2.St) (H : Hp) (Q : VK) (t : tOf N Z (hCmp C o wa wb) σ H Q) : tOp (rCmp N C o) (tOf N Z wa) (tOf N Z wb) σ H Q :=
  tOf.two (g := fun x y S2 Q => wcmp C o x y S2 fun r S3 => Q (.bl r) S3) t fun x y S2 v u H2 Qh h rx ry g k => ⟨x, y, S2, Qh, h, rx, ry, g, k⟩
theorem he_cmp {C : Orc} {o : Co} (ho : OpR X (compareOp (coOp o)) (rCmp N C o)) (ha : PE X a (tOf N Z wa)) (hb : PE X b (tOf N Z wb)) (hm : behindInMarks (coOp o) b = false) : PE X (.Compare a [coOp o] [b] pos) (tOf N Z (hCmp C o wa wb)) :=
  pimp (pe_cmpR ho ha hb hm) cmp_pe
theorem ht_cmp {C : Orc} {o : Co} (ho : OpR X (compareOp (coOp o)) (rCmp N C o)) (ha : PE X a (tOf N Z wa)) (hb : PE X b (tOf N Z wb)) (hm : behindInMarks (coOp o) b = false) : PT X (.Compare a [coOp o] [b] pos) (tT N Z (hCmp C o wa wb)) :=
  ht_bl (ptimp (pt_cmpR ho ha hb hm) fun σ H Q t => cmp_pe σ H _ t) hCmp_bl
end
end A
end
section
set_option Elab.async false
set_option linter.all false
set_option maxRecDepth 100000
set_option maxHeartbeats 1000000
/-! A6: chains, displays, subscripts, slices, built-ins. -/
namespace A
open PySem L2 PyProof.Rows
section
variable {N : Nm} {Z : Sta × Hp} {X : Cx} {S S' S1 : Sta} {H H' H1 : Hp} {Q : VK} {Qh : K} {σ : L2.St} {ρ : Env} {pos : Pos} {a b c e : Expr} {wa wb wc : Wp}

/-! ### a op b op c -/
def hChn (C : Orc) (o o' : Co) (wa wb wc : Wp) : Wp := fun ρ S Q => wa ρ S fun x S1 => wb ρ S1 fun y S2 => wcmp C o x y S2 fun r S3 => if r = true then wc ρ S3 fun z S4 => wcmp C o' y z S4 fun r S5 => Q (.bl r) S5 else Q (.bl false) S3
theorem hChn_bl {C : Orc} {o o' : Co} (ρ : Env) (S : Sta) (Q : K) (w : hChn C o o' wa wb wc ρ S Q) : hChn C o o' wa wb wc ρ S fun d S' => (∃ b, d = .bl b) ∧ Q d S' := by
  unfold hChn at w ⊢
  simpa using w
theorem chn_pe {C : Orc} {o o' : Co} (σ : L2.St) (H : Hp) (Q : VK) (t : tOf N Z (hChn C o o' wa wb wc) σ H Q) : tChain (rCmp N C o) (rCmp N C o') (tOf N Z wa) (tOf N Z wb) (tOf N Z wc) σ H Q := by
  refine tOf.one (g := fun ρ x S1 Q => wb ρ S1 fun y S2 => wcmp C o x y S2 fun r S3 => if r = true then wc ρ S3 fun z S4 => wcmp C o' y z S4 fun r S5 => Q (.bl r) S5 else Q (.bl false) S3) t fun ρ x S1 v H1 Qh rs rh fz rx q k => ?_
  refine ⟨ρ, S1, _, rs, rh, fz, q, fun y S2 u H2 f h2 r2 q2 => ?_⟩
  refine ⟨x, y, S2, fun d S3 => ∃ b, d = .bl b ∧ if b = true then wc ρ S3 fun z S4 => wcmp C o' y z S4 fun r S5 => Qh (.bl r) S5 else Qh (.bl false) S3, h2, RD.mono (f.dle rh) _ _ rx, r2, by simpa using q2, fun d S3 v3 H3 f3 h3 r3 q3 => ?_⟩
  obtain ⟨j, e, q3⟩ := q3
  subst e
  cases rd_bl r3
  refine ⟨j, rfl, ?_⟩
  have k3 := (k.step f).step f3
  cases j with
  | true =>
    refine ⟨ρ, S3, _, (rs.mono (f.dle rh)).mono (f3.dle h2), h3, (fz.trans f).trans f3, q3, fun z S4 t H4 f4 h4 r4 q4 => ?_⟩
    exact ⟨y, z, S4, Qh, h4, RD.mono (f4.dle h3) _ _ (RD.mono (f3.dle h2) _ _ r2), r4, q4, k3.step f4⟩
  | false => exact k3.at h3 mk_bl q3
theorem he_chn {C : Orc} {o o' : Co} (ho : OpR X (compareOp (coOp o)) (rCmp N C o)) (ho' : OpR X (compareOp (coOp o')) (rCmp N C o')) (ha : PE X a (tOf N Z wa)) (hb : PE X b (tOf N Z wb)) (hc : PE X c (tOf N Z wc))
    (hm : lastMarks [coOp o, coOp o'] [b, c] = false) : PE X (.Compare a [coOp o, coOp o'] [b, c] pos) (tOf N Z (hChn C o o' wa wb wc)) :=
  pimp (pe_chain ho ho' ha hb hc hm) chn_pe
theorem ht_chn {C : Orc} {o o' : Co} (ho : OpR X (compareOp (coOp o)) (rCmp N C o)) (ho' : OpR X (compareOp (coOp o')) (rCmp N C o')) (ha : PE X a (tOf N Z wa)) (hb : PE X b (tOf N Z wb)) (hc : PE X c (tOf N Z wc))
    (hm : lastMarks [coOp o, coOp o'] [b, c] = false) : PT X (.Compare a [coOp o, coOp o'] [b, c] pos) (tT N Z (hChn C o o' wa wb wc)) :=
  ht_bl (ptimp (pt_chain ho ho' ha hb hc hm) fun σ H Q t => chn_pe σ H _ t) hChn_bl

/-! ### lists of expressions -/
abbrev Wps := Env → Sta → (List D → Sta → Prop) → Prop
def tA (N : Nm) (Z : Sta × Hp) (w : Wps) : TA := fun σ H Q => ∃ (ρ : Env) (S : Sta) (Ql : List D → Sta → Prop), RS N H σ ρ ∧ RH N H S ∧ Fr Z.1 Z.2 S H ∧ w ρ S Ql ∧ ∀ ds S' vs H', Fr S H S' H' → RH N H' S' → RDs N H' ds vs → Ql ds S' → Q vs H'
theorem paimp {es : List Expr} {t t' : TA} (h : PA X es t) (i : ∀ σ H Q, t' σ H Q → t σ H Q) : PA X es t' := ⟨fun p pins s σ H Q I q => h.run p pins s σ H Q I (i σ H Q q)⟩
/-- an argument that is none of the starred -/
def plainA : Expr → Bool
  | .Starred _ _ => false
  | _ => true
theorem starEach_plain {e : Expr} {es : List Expr} (env : PySem.Env) (h : plainA e = true) : starEach (e :: es) env = (false, eval e env) :: starEach es env := by
  cases e <;> first | rfl | cases h
theorem star_none {es : List Expr} (env : PySem.Env) (h : es.all plainA = true) : (backTo pos (starEach es env)).any (·.1) = false := by
  induction es with
  | nil => rfl
  | cons e es ih =>
    simp only [List.all_cons, Bool.and_eq_true] at h
    rw [starEach_plain env h.1]
    show (false || (backTo pos (starEach es env)).any (·.1)) = false
    rw [ih h.2]; rfl
theorem ha_nil : PA X [] (tA N Z fun _ S Q => Q [] S) := paimp pa_nil fun σ H Q ⟨ρ, S, Ql, rs, rh, fz, w, k⟩ => k [] S [] H Fr.refl rh .nil w
def hCons (wa : Wp) (wr : Wps) : Wps := fun ρ S Q => wa ρ S fun x S1 => wr ρ S1 fun ds S2 => Q (x :: ds) S2
theorem ha_cons {es : List Expr} {wr : Wps} (h : PE X e (tOf N Z wa)) (hr : PA X es (tA N Z wr)) (pl : plainA e = true) : PA X (e :: es) (tA N Z (hCons wa wr)) :=
  paimp (pa_cons h hr (starEach_plain _ pl)) fun σ H Q ⟨ρ, S, Ql, rs, rh, fz, w, k⟩ => ⟨ρ, S, _, rs, rh, fz, w, fun x S1 v H1 f h1 r q =>
    ⟨ρ, S1, _, rs.mono (f.dle rh), h1, fz.trans f, q, fun ds S2 vs H2 f2 h2 r2 q2 => k (x :: ds) S2 (v :: vs) H2 (f.trans f2) h2 (.cons (RD.mono (f2.dle h1) _ _ r) r2) q2⟩⟩
theorem he_tup {es : List Expr} {wr : Wps} {k : Nat} (h : PA X es (tA N Z wr)) : PE X (.Tuple es k pos) (tOf N Z fun ρ S Q => wr ρ S fun ds S1 => ds.length ≤ sizeLine ∧ Q (.tup ds) S1) :=
  pimp (pe_tup h) fun σ H Q ⟨ρ, S, Qh, rs, rh, fz, w, k⟩ => ⟨ρ, S, _, rs, rh, fz, w, fun ds S' vs H' f h' r ⟨q1, q2⟩ => ⟨by rw [← r.length]; exact q1, fun p n => (k.step f).newT h' n r q2⟩⟩
theorem he_lst {es : List Expr} {wr : Wps} (h : PA X es (tA N Z wr)) : PE X (.List es pos) (tOf N Z fun ρ S Q => wr ρ S fun ds S1 => ds.length ≤ sizeLine ∧ ∀ p, S1 p = none → Q (.ref p) (ups S1 p (.lst ds))) :=
  pimp (pe_lst h) fun σ H Q ⟨ρ, S, Qh, rs, rh, fz, w, k⟩ => ⟨ρ, S, _, rs, rh, fz, w, fun ds S' vs H' f h' r ⟨q1, q2⟩ => ⟨by rw [← r.length]; exact q1, fun p n => (k.step f).newL h' n r q2⟩⟩

/-! ### subscripts -/
theorem ix_dict (hu : X.A.units + 1 < cLine) : IxR X (fun x y H Q => ∃ p v, x = .ref p ∧ DGet H p y (some v) ∧ Q v H) := by
  intro value slice pins s σ H x y v u Q I rx ry h hs
  obtain ⟨p, d, rfl, g, q⟩ := h
  cases rx
  exact tail_any (dict_typeIs I g) PySem.F.slot_dict_getitem.lookup (d_getItem hu I g ry fun w' s' I' r' => ⟨d, H, I', r', q⟩) hs
def rIxA (N : Nm) : R2 := fun v u H Q => ∃ x y S Qh, RH N H S ∧ RD N H x v ∧ RD N H y u ∧ wix x y S Qh ∧ Kn N S H Qh Q
theorem rds_at {ds : List D} {vs : List V} {i : Int} {d : D} (r : RDs N H ds vs) (e : L2.atI ds i = some d) : ∃ v, L2.atI vs i = some v ∧ RD N H d v := by
  unfold L2.atI at e ⊢
  rw [← r.length]
  cases h : ixN ds.length i with
  | none => rw [h] at e; cases e
  | some j =>
    rw [h] at e
    exact r.get e
theorem ix_all (hK : N.K = X.K) (hu : X.A.units + 1 < cLine) : ∀ v u H Q, rIxA N v u H Q → (rIx X.K v u H Q ∨ ∃ p d, v = .ref p ∧ DGet H p u (some d) ∧ Q d H) := by
  rintro v u H Q ⟨x, y, S, Qh, rh, rx, ry, w, k⟩
  have dic : ∀ a kvs, x = .ref a → (S a = some (.dic kvs) ∨ S a = some (.dicF kvs)) → (∃ k d, keyD y = some k ∧ kget kvs k = some d ∧ Qh d S) → ∃ p d, v = .ref p ∧ DGet H p u (some d) ∧ Q d H := fun a kvs e hs ⟨key, d, h1, h2, q⟩ => by
    subst e
    cases rd_ref rx
    obtain ⟨o, g, z⟩ := dget_of rh hs key
    rcases z with ⟨z, _⟩ | ⟨d', v', z1, z2, z3⟩
    · rw [z] at h2; cases h2
    · rw [z1] at h2; cases h2
      rw [key_rd h1 ry]
      subst z2
      exact ⟨a, v', rfl, g, k.at rh z3 q⟩
  cases x with
  | tup l =>
    cases y with
    | int i =>
      cases rd_int ry
      obtain ⟨a, vs, rfl, h1, r1⟩ := rd_tup rx
      obtain ⟨d, e, q⟩ := w
      obtain ⟨v, e', r'⟩ := rds_at r1 e
      exact .inl (.inr (.inl ⟨a, vs, i, v, rfl, rfl, hK ▸ h1, e', k.at rh r' q⟩))
    | _ => exact (False.elim w)
  | lis l =>
    cases y with
    | int i =>
      cases rd_int ry
      obtain ⟨a, vs, rfl, h1, r1⟩ := rd_lis rx
      obtain ⟨d, e, q⟩ := w
      obtain ⟨v, e', r'⟩ := rds_at r1 e
      exact .inl (.inl ⟨a, vs, i, v, rfl, rfl, hK ▸ h1, e', k.at rh r' q⟩)
    | _ => exact (False.elim w)
  | str z =>
    cases y with
    | int i =>
      cases rd_int ry; cases rd_str rx
      obtain ⟨h1, n, e, q⟩ := w
      exact .inl (.inr (.inr ⟨z, i, n, rfl, rfl, h1, e, k.at rh mk_str q⟩))
    | _ => exact (False.elim w)
  | ref a =>
    cases ea : S a with
    | none => simp only [wix, ea] at w
    | some o =>
      cases o with
      | lst l =>
        simp only [wix, ea] at w
        cases y with
        | int i =>
          cases rd_int ry; cases rd_ref rx
          obtain ⟨vs, h1, r1⟩ := at_lst rh ea
          obtain ⟨d, e, q⟩ := w
          obtain ⟨v, e', r'⟩ := rds_at r1 e
          exact .inl (.inl ⟨a, vs, i, v, rfl, rfl, SqL.of h1, e', k.at rh r' q⟩)
        | _ => exact (False.elim w)
      | dic kvs => simp only [wix, ea] at w; exact .inr (dic a kvs rfl (.inl ea) w)
      | dicF kvs => simp only [wix, ea] at w; exact .inr (dic a kvs rfl (.inr ea) w)
      | _ => simp only [wix, ea] at w
  | _ => exact (False.elim w)
theorem ix_A (hK : N.K = X.K) (hu : X.A.units + 1 < cLine) : IxR X (rIxA N) := fun value slice pins s σ H x y v u Q I rx ry h hs =>
  (ix_seq.or (ix_dict hu)) value slice pins s σ H x y v u Q I rx ry (ix_all hK hu x y H Q h) hs
/-- what may stand as an index -/
def plainIx : Expr → Bool
  | .Slice _ _ _ _ => false
  | _ => true
theorem plainIx_ok {e : Expr} (h : plainIx e = true) : PlainIx e := by
  intro o i
  cases e <;> first | rfl | cases h
theorem he_ix (hK : N.K = X.K) (hu : X.A.units + 1 < cLine) (ha : PE X a (tOf N Z wa)) (hb : PE X b (tOf N Z wb)) (pl : plainIx b = true) : PE X (.Subscript a b pos) (tOf N Z fun ρ S Q => wa ρ S fun x S1 => wb ρ S1 fun y S2 => wix x y S2 Q) :=
  pimp (pe_ix (ix_A hK hu) ha hb (plainIx_ok pl)) fun σ H Q t => tOf.two t fun x y S2 v u H2 Qh h rx ry g k => ⟨x, y, S2, Qh, h, rx, ry, g, k⟩

/-! ### slices -/
theorem cutD_rds {ds : List D} {vs : List V} {l h : Option Int} (r : RDs N H ds vs) : RDs N H (cutD ds l h) (cutV vs l h) := by
  unfold cutD cutV
  rw [← r.length]
  exact (r.drop _).take _
theorem cutD_whole {ds : List D} {l h : Option Int} (h1 : HT.sIx ds.length 0 l = 0) (h2 : HT.sIx ds.length ds.length h = ds.length) : cutD ds l h = ds := by
  unfold cutD
  rw [h1, h2]
  simp
/-- an end of a slice: an expression, or none -/
abbrev We := Env → Sta → (Option Int → Sta → Prop) → Prop
def tEnd (N : Nm) (Z : Sta × Hp) (w : We) : TO := fun σ H Q => ∃ (ρ : Env) (S : Sta) (Qe : Option Int → Sta → Prop), RS N H σ ρ ∧ RH N H S ∧ Fr Z.1 Z.2 S H ∧ w ρ S Qe ∧ ∀ i S' H', Fr S H S' H' → RH N H' S' → Qe i S' → Q i H'
theorem ho_none : PO X none (tEnd N Z fun _ S Q => Q none S) := ⟨fun pins s σ H Q I ⟨ρ, S, Qe, rs, rh, fz, w, k⟩ => po_none.run pins s σ H Q I (k _ _ _ Fr.refl rh w)⟩
theorem ho_some (h : PE X e (tOf N Z wa)) : PO X (some e) (tEnd N Z fun ρ S Q => wa ρ S fun d S1 => ∃ i, d = .int i ∧ Q (some i) S1) := ⟨fun pins s σ H Q I ⟨ρ, S, Qe, rs, rh, fz, w, k⟩ => by
  refine (po_some h).run pins s σ H Q I ⟨ρ, S, _, rs, rh, fz, w, fun d S' v H' f h' r q => ?_⟩
  obtain ⟨i, e, q⟩ := q
  subst e
  cases rd_int r
  exact ⟨i, rfl, k _ _ _ f h' q⟩⟩
def rSlW (N : Nm) : V → Option Int → Option Int → Hp → VK → Prop := fun v l h H Q => ∃ x S Qh, RH N H S ∧ RD N H x v ∧ Kn N S H Qh Q ∧ wsl x l h S Qh
theorem sl_A (hK : N.K = X.K) : SlR X (rSlW N) := by
  have base := sl_list (X := X) |>.or (sl_tupA (X := X) |>.or (sl_str (X := X)))
  intro pins s σ H v vv vl vu lo hi sl Q I rv hs pl pu h
  refine base pins s σ H v vv vl vu lo hi sl Q I rv hs pl pu ?_
  obtain ⟨x, S, Qh, rh, rx, k, w⟩ := h
  cases x with
  | tup xs =>
    obtain ⟨a, vs, rfl, h1, r1⟩ := rd_tup rx
    refine .inr (.inl ⟨a, vs, rfl, hK ▸ h1, fun ⟨z1, z2⟩ => ?_, fun _ p n => k.newT rh n (cutD_rds r1) w⟩)
    rw [← r1.length] at z1 z2
    have w' : Qh (.tup (cutD xs lo hi)) S := w
    rw [cutD_whole z1 z2] at w'
    exact k.at rh rx w'
  | lis xs =>
    obtain ⟨a, vs, rfl, h1, r1⟩ := rd_lis rx
    exact .inl ⟨a, vs, rfl, hK ▸ h1, fun p n => k.newL rh n (cutD_rds r1) w⟩
  | str z =>
    cases rd_str rx
    exact .inr (.inr ⟨z, rfl, w.1, k.at rh mk_str w.2⟩)
  | ref a =>
    cases rd_ref rx
    simp only [wsl] at w
    cases ea : S a with
    | none => rw [ea] at w; exact w.elim
    | some o =>
      rw [ea] at w
      cases o with
      | lst xs =>
        obtain ⟨vs, h1, r1⟩ := at_lst rh ea
        exact .inl ⟨a, vs, rfl, SqL.of h1, fun p n => k.newL rh n (cutD_rds r1) w⟩
      | _ => exact w.elim
  | _ => exact (False.elim w)
def hSl (wa : Wp) (wl wh : We) : Wp := fun ρ S Q => wa ρ S fun x S1 => wl ρ S1 fun l S2 => wh ρ S2 fun h S3 => wsl x l h S3 Q
theorem he_sl (hK : N.K = X.K) {lo hi : Option Expr} {wl wh : We} {p2 : Pos} (ha : PE X a (tOf N Z wa)) (hl : PO X lo (tEnd N Z wl)) (hh : PO X hi (tEnd N Z wh)) : PE X (.Subscript a (.Slice lo hi none p2) pos) (tOf N Z (hSl wa wl wh)) :=
  pimp (pe_slice (sl_A hK) ha hl hh) fun σ H Q t => by
    refine tOf.one (g := fun ρ x S1 Q => wl ρ S1 fun l S2 => wh ρ S2 fun h S3 => wsl x l h S3 Q) t fun ρ x S1 v H1 Qh rs rh fz rx q k => ?_
    refine ⟨ρ, S1, _, rs, rh, fz, q, fun l S2 H2 f h2 q2 => ?_⟩
    refine ⟨ρ, S2, _, rs.mono (f.dle rh), h2, fz.trans f, q2, fun h S3 H3 f3 h3 q3 => ?_⟩
    exact ⟨x, S3, Qh, h3, RD.mono (f3.dle h2) _ _ (RD.mono (f.dle rh) _ _ rx), (k.step f).step f3, q3⟩
end
end A
end
section
set_option Elab.async false
set_option linter.all false
set_option maxRecDepth 100000
set_option maxHeartbeats 1000000
/-! A7: built-in functions and methods, isinstance. -/
namespace A
open PySem L2 PyProof.Rows
section
variable {N : Nm} {Z : Sta × Hp} {X : Cx} {S S' S1 : Sta} {H H' H1 : Hp} {Q : VK} {Qh : K} {σ : L2.St} {ρ : Env} {pos p : Pos} {a b c e : Expr} {wa wb wc : Wp}

theorem cimp {f : Value} {r r' : List V → Hp → VK → Prop} (h : CallR X f r) (i : ∀ xs H Q, r' xs H Q → r xs H Q) : CallR X f r' := fun pins s σ H xs us Q I rs q => h pins s σ H xs us Q I rs (i xs H Q q)
/-- a built-in function, or a built-in type -/
inductive BF (f : Value) : Prop where
  | fn (id : String) (h : f = .builtin id)
  | ty (T : String) (h : f = .type T)
theorem pe_callF {f : Value} {r : List V → Hp → VK → Prop} {x : Str} {es : List Expr} {t : TA} (hc : CallR X f r) (hf : BF f) (hg : Gl X x) (hm : X.mg x = none) (hv : bootBuiltins x = some f) (hn : x ≠ "__name__") (hdb : (x == ("__debug__" : Str)) = false)
    (ha : PA X (e :: es) t) (pl : (e :: es).all plainA = true) : PE X (.Call (.Name x p) (e :: es) [] pos) (tCB r t) := by
  simp only [List.all_cons, Bool.and_eq_true] at pl
  rcases hf with ⟨id, rfl⟩ | ⟨T, rfl⟩
  · exact pe_callB hc hg hm hv ha hn hdb (starEach_plain _ pl.1) (star_none _ pl.2)
  · exact pe_callTy hc hg hm hv ha hn hdb (starEach_plain _ pl.1) (star_none _ pl.2)

/-! ### built-ins of one value -/
def rB1 (N : Nm) (C : Orc) (o : B1) : List V → Hp → VK → Prop := fun vs H Q => ∃ x v S Qh, vs = [v] ∧ RH N H S ∧ RD N H x v ∧ wb1 C o x S Qh ∧ Kn N S H Qh Q
/-- an instance's own method behind a built-in -/
def rOwnB (N : Nm) (C : Orc) (m : Nat) : List V → Hp → VK → Prop := fun vs H Q => ∃ a c fs S Qh, vs = [.ref a] ∧ RH N H S ∧ S a = some (.ins c fs) ∧ C (mth c m) [.ref a] S Qh (fun _ _ => False) ∧ Kn N S H Qh Q
def bval : B1 → Value
  | .len => .builtin "len" | .int => .type "int" | .str => .type "str" | .repr => .builtin "repr" | .list => .type "list" | .tuple => .type "tuple"
  | .sum => .builtin "sum" | .max => .builtin "max" | .min => .builtin "min" | .all => .builtin "all" | .any => .builtin "any" | .sorted => .builtin "sorted" | .dict => .type "dict" | .bool => .type "bool"
  | .minD => .none | .setlen => .none | .setsorted => .none
def bname : B1 → Str
  | .len => "len" | .int => "int" | .str => "str" | .repr => "repr" | .list => "list" | .tuple => "tuple"
  | .sum => "sum" | .max => "max" | .min => "min" | .all => "all" | .any => "any" | .sorted => "sorted" | .dict => "dict" | .bool => "bool"
  | .minD => "" | .setlen => "" | .setsorted => ""
/-- those that are done -/
def b1ok : B1 → Bool
  | .len | .int | .str | .repr | .list | .tuple | .sum | .max | .min | .all | .any => true
  | _ => false
theorem rds_ints : ∀ {ds : List D} {vs : List V} {ns : List Int}, RDs N H ds vs → intsOf ds = some ns → vs = ns.map V.int
  | [], _, _, r, e => by cases e; exact r.unnil
  | d :: ds, vs, ns, r, e => by
    obtain ⟨v, t, rfl, h1, h2⟩ := r.uncons
    cases d with
    | int i =>
      simp only [intsOf, Option.map_eq_some_iff] at e
      obtain ⟨ms, e1, rfl⟩ := e
      cases rd_int h1
      rw [rds_ints h2 e1, List.map_cons]
    | _ => cases e
theorem rds_bls : ∀ {ds : List D} {vs : List V} {ns : List Bool}, RDs N H ds vs → bsOf ds = some ns → vs = ns.map V.bl
  | [], _, _, r, e => by cases e; exact r.unnil
  | d :: ds, vs, ns, r, e => by
    obtain ⟨v, t, rfl, h1, h2⟩ := r.uncons
    cases d with
    | bl i =>
      simp only [bsOf, Option.map_eq_some_iff] at e
      obtain ⟨ms, e1, rfl⟩ := e
      cases rd_bl h1
      rw [rds_bls h2 e1, List.map_cons]
    | _ => cases e
theorem rds_strs : ∀ {ds : List D} {vs : List V} {ns : List Str}, RDs N H ds vs → strsOf ds = some ns → vs = ns.map V.str
  | [], _, _, r, e => by cases e; exact r.unnil
  | d :: ds, vs, ns, r, e => by
    obtain ⟨v, t, rfl, h1, h2⟩ := r.uncons
    cases d with
    | str i =>
      simp only [strsOf, Option.map_eq_some_iff] at e
      obtain ⟨ms, e1, rfl⟩ := e
      cases rd_str h1
      rw [rds_strs h2 e1, List.map_cons]
    | _ => cases e
theorem itemsL_at (hK : N.K = X.K) (rh : RH N H S) {x : D} {v : V} {xs : List D} (r : RD N H x v) (e : itemsL S x = some xs) : ∃ a vs, v = .ref a ∧ SqL X.K H a vs ∧ RDs N H xs vs := by
  cases x with
  | lis l => cases e; obtain ⟨a, vs, rfl, h1, r1⟩ := rd_lis r; exact ⟨a, vs, rfl, hK ▸ h1, r1⟩
  | ref a =>
    cases rd_ref r
    simp only [itemsL] at e
    cases ea : S a with
    | none => rw [ea] at e; cases e
    | some o =>
      rw [ea] at e
      cases o with
      | lst l => cases e; obtain ⟨vs, h1, r1⟩ := at_lst rh ea; exact ⟨a, vs, rfl, SqL.of h1, r1⟩
      | _ => cases e
  | _ => cases e
theorem itemsT_at (hK : N.K = X.K) (rh : RH N H S) {x : D} {v : V} {xs : List D} (r : RD N H x v) (e : itemsT S x = some xs) : ∃ a vs, v = .ref a ∧ (SqL X.K H a vs ∨ (SqT X.K H a vs ∧ x = .tup xs)) ∧ RDs N H xs vs := by
  have base : itemsL S x = some xs → ∃ a vs, v = .ref a ∧ (SqL X.K H a vs ∨ (SqT X.K H a vs ∧ x = .tup xs)) ∧ RDs N H xs vs := fun e => by
    obtain ⟨a, vs, h1, h2, h3⟩ := itemsL_at hK rh r e
    exact ⟨a, vs, h1, .inl h2, h3⟩
  cases x with
  | tup l => cases e; obtain ⟨a, vs, rfl, h1, r1⟩ := rd_tup r; exact ⟨a, vs, rfl, .inr ⟨hK ▸ h1, rfl⟩, r1⟩
  | _ => exact base e
theorem maxI_spec : ∀ {ns : List Int}, 0 < ns.length → maxI ns ∈ ns ∧ ∀ y, y ∈ ns → y ≤ maxI ns
  | [], h => by simp at h
  | [a], _ => by simp [maxI]
  | a :: b :: r, _ => by
    obtain ⟨h1, h2⟩ := maxI_spec (ns := b :: r) (by simp)
    simp only [maxI]
    generalize hm : maxI (b :: r) = m at h1 h2
    refine ⟨?_, fun y hy => ?_⟩
    · rcases Int.le_total a m with z | z
      · rw [Int.max_eq_right z]; exact List.mem_cons_of_mem _ h1
      · rw [Int.max_eq_left z]; exact List.mem_cons_self
    · rcases List.mem_cons.mp hy with rfl | hy
      · exact Int.le_max_left _ _
      · exact Int.le_trans (h2 y hy) (Int.le_max_right _ _)
theorem minI_spec : ∀ {ns : List Int}, 0 < ns.length → minI ns ∈ ns ∧ ∀ y, y ∈ ns → minI ns ≤ y
  | [], h => by simp at h
  | [a], _ => by simp [minI]
  | a :: b :: r, _ => by
    obtain ⟨h1, h2⟩ := minI_spec (ns := b :: r) (by simp)
    simp only [minI]
    generalize hm : minI (b :: r) = m at h1 h2
    refine ⟨?_, fun y hy => ?_⟩
    · rcases Int.le_total a m with z | z
      · rw [Int.min_eq_left z]; exact List.mem_cons_self
      · rw [Int.min_eq_right z]; exact List.mem_cons_of_mem _ h1
    · rcases List.mem_cons.mp hy with rfl | hy
      · exact Int.min_le_left _ _
      · exact Int.le_trans (Int.min_le_right _ _) (h2 y hy)
/-- the instances' own methods behind operators and built-ins -/
structure OwnOk (N : Nm) (C : Orc) (X : Cx) : Prop where
  eq : OpR X (compareOp .Eq) (rOwn N C false)
  ne : OpR X (compareOp .NotEq) (rOwn N C true)
  len : CallR X (.builtin "len") (rOwnB N C mLen)
  str : CallR X (.type "str") (rOwnB N C mStr)
  repr : CallR X (.builtin "repr") (rOwnB N C mRepr)
theorem cr_b1 {C : Orc} (hK : N.K = X.K) (hc : X.calm = true) (O : OwnOk N C X) : ∀ o, b1ok o = true → CallR X (bval o) (rB1 N C o)
  | .len, _ => cimp (call_len.or (call_lenD.or O.len)) fun vs H Q ⟨x, v, S, Qh, e, rh, r, w, k⟩ => by
    subst e
    cases x with
    | str s => cases rd_str r; exact .inl ⟨_, _, rfl, ⟨w.1, rfl⟩, k.at rh mk_int w.2⟩
    | tup l => obtain ⟨a, ws, rfl, h1, r1⟩ := rd_tup r; exact .inl ⟨_, ws.length, rfl, .inr ⟨ws, hK ▸ h1, rfl⟩, k.at rh mk_int (r1.length ▸ w)⟩
    | lis l => obtain ⟨a, ws, rfl, h1, r1⟩ := rd_lis r; exact .inl ⟨_, ws.length, rfl, .inl ⟨ws, hK ▸ h1, rfl⟩, k.at rh mk_int (r1.length ▸ w)⟩
    | ref a =>
      cases rd_ref r
      simp only [wb1] at w
      cases ea : S a with
      | none => rw [ea] at w; exact w.elim
      | some ob =>
        rw [ea] at w
        cases ob with
        | lst l => obtain ⟨ws, h1, r1⟩ := at_lst rh ea; exact .inl ⟨_, ws.length, rfl, .inl ⟨ws, SqL.of h1, rfl⟩, k.at rh mk_int (r1.length ▸ w)⟩
        | dic l =>
          obtain ⟨ws, h1, e1, r1⟩ := at_dic rh ea
          have hl : l.length = ws.length := by have := congrArg List.length e1; simpa using this.symm
          exact .inr (.inl ⟨a, ws, rfl, h1, k.at rh mk_int (hl ▸ w)⟩)
        | ins c fs => exact .inr (.inr ⟨a, c, fs, S, _, rfl, rh, ea, w, fun d S' v H' f h' r' ⟨n, _, q⟩ => k d S' v H' f h' r' q⟩)
        | _ => exact w.elim
    | _ => exact (False.elim w)
  | .int, _ => cimp (call_int1.or call_int_str) fun vs H Q ⟨x, v, S, Qh, e, rh, r, w, k⟩ => by
    subst e
    cases x with
    | int i => cases rd_int r; exact .inl (.inl ⟨i, rfl, k.at rh mk_int w⟩)
    | bl i => cases rd_bl r; exact .inl (.inr ⟨i, rfl, k.at rh mk_int w⟩)
    | str i => cases rd_str r; obtain ⟨n, h1, h2, q⟩ := w; exact .inr ⟨i, n, rfl, h1, h2, k.at rh mk_int q⟩
    | _ => exact (False.elim w)
  | .str, _ => cimp (call_str_int.or (SkE.call_str_str.or O.str)) fun vs H Q ⟨x, v, S, Qh, e, rh, r, w, k⟩ => by
    subst e
    cases x with
    | int i => cases rd_int r; exact .inl ⟨i, rfl, w.1, k.at rh mk_str w.2⟩
    | str i => cases rd_str r; exact .inr (.inl ⟨i, rfl, k.at rh mk_str w.2⟩)
    | ref a =>
      cases rd_ref r
      simp only [wb1] at w
      cases ea : S a with
      | none => rw [ea] at w; exact w.elim
      | some ob =>
        rw [ea] at w
        cases ob with
        | ins c fs => exact .inr (.inr ⟨a, c, fs, S, _, rfl, rh, ea, w, fun d S' v H' f h' r' ⟨n, _, q⟩ => k d S' v H' f h' r' q⟩)
        | _ => exact w.elim
    | _ => exact (False.elim w)
  | .repr, _ => cimp O.repr fun vs H Q ⟨x, v, S, Qh, e, rh, r, w, k⟩ => by
    subst e
    cases x with
    | ref a =>
      cases rd_ref r
      simp only [wb1] at w
      cases ea : S a with
      | none => rw [ea] at w; exact w.elim
      | some ob =>
        rw [ea] at w
        cases ob with
        | ins c fs => exact ⟨a, c, fs, S, _, rfl, rh, ea, w, fun d S' v H' f h' r' ⟨n, _, q⟩ => k d S' v H' f h' r' q⟩
        | _ => exact w.elim
    | _ => exact (False.elim w)
  | .list, _ => cimp (call_list_of.or (call_listD hc)) fun vs H Q ⟨x, v, S, Qh, e, rh, r, w, k⟩ => by
    subst e
    obtain ⟨xs, e1, q⟩ := w
    have dict : ∀ (a : Addr) (kvs : List (Key × D)) (ws : List (Key × V)), ws.map (·.1) = kvs.map (·.1) → RDs N H (kvs.map fun p => dKey p.1) (ws.map fun kv => kV kv.1) := fun a kvs ws e => by
      have h : ∀ ks : List Key, RDs N H (ks.map dKey) (ks.map kV) := fun ks => by
        induction ks with
        | nil => exact .nil
        | cons y ys ih => cases y with
          | inl i => exact .cons mk_int ih
          | inr i => exact .cons mk_str ih
      have e3 : (kvs.map fun p => dKey p.1) = (ws.map (·.1)).map dKey := by rw [e, List.map_map]; rfl
      rw [e3]
      have e4 : (ws.map fun kv => kV kv.1) = (ws.map (·.1)).map kV := by rw [List.map_map]; rfl
      rw [e4]
      exact h _
    cases x with
    | tup l => cases e1; obtain ⟨a, ws, rfl, h1, r1⟩ := rd_tup r; exact .inl ⟨a, ws, rfl, .inr (hK ▸ h1), fun p n => k.newL rh n r1 q⟩
    | lis l => cases e1; obtain ⟨a, ws, rfl, h1, r1⟩ := rd_lis r; exact .inl ⟨a, ws, rfl, .inl (hK ▸ h1), fun p n => k.newL rh n r1 q⟩
    | ref a =>
      cases rd_ref r
      simp only [itemsK] at e1
      cases ea : S a with
      | none => rw [ea] at e1; cases e1
      | some ob =>
        rw [ea] at e1
        cases ob with
        | lst l => cases e1; obtain ⟨ws, h1, r1⟩ := at_lst rh ea; exact .inl ⟨a, ws, rfl, .inl (SqL.of h1), fun p n => k.newL rh n r1 q⟩
        | dic l => cases e1; obtain ⟨ws, h1, e2, r1⟩ := at_dic rh ea; exact .inr ⟨a, ws, rfl, .inl h1, fun p n => k.newL rh n (dict a l ws e2) q⟩
        | dicF l => cases e1; obtain ⟨od, ws, h1, e2, r1⟩ := at_dicF rh ea; exact .inr ⟨a, ws, rfl, .inr ⟨od, h1⟩, fun p n => k.newL rh n (dict a l ws e2) q⟩
        | _ => cases e1
    | _ => cases e1
  | .tuple, _ => cimp call_tuple_of fun vs H Q ⟨x, v, S, Qh, e, rh, r, w, k⟩ => by
    subst e
    obtain ⟨xs, e1, q⟩ := w
    obtain ⟨a, ws, rfl, h, r1⟩ := itemsT_at hK rh r e1
    rcases h with h | ⟨h, rfl⟩
    · exact ⟨a, ws, rfl, .inl ⟨h, fun p n => k.newT rh n r1 q⟩⟩
    · exact ⟨a, ws, rfl, .inr ⟨h, k.at rh r q⟩⟩
  | .sum, _ => cimp (cr_sum hc) fun vs H Q ⟨x, v, S, Qh, e, rh, r, w, k⟩ => by
    subst e
    obtain ⟨xs, ns, e1, e2, q⟩ := w
    obtain ⟨a, ws, rfl, h, r1⟩ := itemsL_at hK rh r e1
    rw [rds_ints r1 e2] at h
    exact ⟨a, ns, rfl, h, k.at rh mk_int q⟩
  | .max, _ => cimp (cr_max hc) fun vs H Q ⟨x, v, S, Qh, e, rh, r, w, k⟩ => by
    subst e
    obtain ⟨xs, ns, e1, e2, h0, q⟩ := w
    obtain ⟨a, ws, rfl, h, r1⟩ := itemsL_at hK rh r e1
    rw [rds_ints r1 e2] at h
    obtain ⟨g1, g2⟩ := maxI_spec h0
    exact ⟨a, ns, rfl, h, h0, fun m hm hy => by
      have : m = maxI ns := Int.le_antisymm (g2 m hm) (hy _ g1)
      subst this
      exact k.at rh mk_int q⟩
  | .min, _ => cimp (cr_min hc) fun vs H Q ⟨x, v, S, Qh, e, rh, r, w, k⟩ => by
    subst e
    obtain ⟨xs, ns, e1, e2, h0, q⟩ := w
    obtain ⟨a, ws, rfl, h, r1⟩ := itemsL_at hK rh r e1
    rw [rds_ints r1 e2] at h
    obtain ⟨g1, g2⟩ := minI_spec h0
    exact ⟨a, ns, rfl, h, h0, fun m hm hy => by
      have : m = minI ns := Int.le_antisymm (hy _ g1) (g2 m hm)
      subst this
      exact k.at rh mk_int q⟩
  | .all, _ => cimp (cr_all hc) fun vs H Q ⟨x, v, S, Qh, e, rh, r, w, k⟩ => by
    subst e
    obtain ⟨xs, ns, e1, e2, q⟩ := w
    obtain ⟨a, ws, rfl, h, r1⟩ := itemsL_at hK rh r e1
    rw [rds_bls r1 e2] at h
    exact ⟨a, ns, rfl, h, k.at rh mk_bl q⟩
  | .any, _ => cimp (cr_any hc) fun vs H Q ⟨x, v, S, Qh, e, rh, r, w, k⟩ => by
    subst e
    obtain ⟨xs, ns, e1, e2, q⟩ := w
    obtain ⟨a, ws, rfl, h, r1⟩ := itemsL_at hK rh r e1
    rw [rds_bls r1 e2] at h
    exact ⟨a, ns, rfl, h, k.at rh mk_bl q⟩
  | .sorted, h => by cases h
  | .dict, h => by cases h
  | .bool, h => by cases h
  | .minD, h => by cases h
  | .setlen, h => by cases h
  | .setsorted, h => by cases h
theorem bval_ok : ∀ o, b1ok o = true → BF (bval o) ∧ bootBuiltins (bname o) = some (bval o) ∧ bname o ≠ "__name__" ∧ (bname o == ("__debug__" : Str)) = false
  | .len, _ => ⟨.fn _ rfl, by decide +kernel, by decide +kernel, by decide +kernel⟩
  | .int, _ => ⟨.ty _ rfl, by decide +kernel, by decide +kernel, by decide +kernel⟩
  | .str, _ => ⟨.ty _ rfl, by decide +kernel, by decide +kernel, by decide +kernel⟩
  | .repr, _ => ⟨.fn _ rfl, by decide +kernel, by decide +kernel, by decide +kernel⟩
  | .list, _ => ⟨.ty _ rfl, by decide +kernel, by decide +kernel, by decide +kernel⟩
  | .tuple, _ => ⟨.ty _ rfl, by decide +kernel, by decide +kernel, by decide +kernel⟩
  | .sum, _ => ⟨.fn _ rfl, by decide +kernel, by decide +kernel, by decide +kernel⟩
  | .max, _ => ⟨.fn _ rfl, by decide +kernel, by decide +kernel, by decide +kernel⟩
  | .min, _ => ⟨.fn _ rfl, by decide +kernel, by decide +kernel, by decide +kernel⟩
  | .all, _ => ⟨.fn _ rfl, by decide +kernel, by decide +kernel, by decide +kernel⟩
  | .any, _ => ⟨.fn _ rfl, by decide +kernel, by decide +kernel, by decide +kernel⟩
  | .sorted, h => by cases h
  | .dict, h => by cases h
  | .bool, h => by cases h
  | .minD, h => by cases h
  | .setlen, h => by cases h
  | .setsorted, h => by cases h
theorem he_b1 {C : Orc} {o : B1} (hK : N.K = X.K) (hc : X.calm = true) (O : OwnOk N C X) (ok : b1ok o = true) (hg : Gl X (bname o)) (hm : X.mg (bname o) = none) (ha : PE X a (tOf N Z wa)) (pl : plainA a = true) :
    PE X (.Call (.Name (bname o) p) [a] [] pos) (tOf N Z fun ρ S Q => wa ρ S fun x S1 => wb1 C o x S1 Q) := by
  obtain ⟨h1, h2, h3, h4⟩ := bval_ok o ok
  refine pimp (pe_callF (cr_b1 hK hc O o ok) h1 hg hm h2 h3 h4 (pa_cons ha pa_nil (starEach_plain _ pl)) (by simpa using pl)) fun σ H Q t => ?_
  exact tOf.one (g := fun _ x S1 Q => wb1 C o x S1 Q) t fun ρ x S1 v H1 Qh rs rh fz rx g k => ⟨x, v, S1, Qh, rfl, rh, rx, g, k⟩

/-! ### built-ins of two values -/
def rB2 (N : Nm) (o : B2) : List V → Hp → VK → Prop := fun vs H Q => ∃ x y v u S Qh, vs = [v, u] ∧ RH N H S ∧ RD N H x v ∧ RD N H y u ∧ wb2 o x y S Qh ∧ Kn N S H Qh Q
def b2val : B2 → Value
  | .max => .builtin "max" | .min => .builtin "min"
def b2name : B2 → Str
  | .max => "max" | .min => "min"
theorem cr_b2 (hc : X.calm = true) : ∀ o, CallR X (b2val o) (rB2 N o)
  | .max => cimp (call_max2 hc) fun vs H Q ⟨x, y, v, u, S, Qh, e, rh, rx, ry, w, k⟩ => by
    subst e
    cases x <;> cases y <;> first | exact False.elim w | skip
    rename_i i j
    cases rd_int rx; cases rd_int ry
    refine ⟨i, j, rfl, ?_⟩
    have e : (if j > i then j else i) = max i j := by split <;> omega
    rw [e]
    exact k.at rh mk_int w
  | .min => cimp (call_min2 hc) fun vs H Q ⟨x, y, v, u, S, Qh, e, rh, rx, ry, w, k⟩ => by
    subst e
    cases x <;> cases y <;> first | exact False.elim w | skip
    rename_i i j
    cases rd_int rx; cases rd_int ry
    refine ⟨i, j, rfl, ?_⟩
    have e : (if j < i then j else i) = min i j := by split <;> omega
    rw [e]
    exact k.at rh mk_int w
theorem b2val_ok : ∀ o, BF (b2val o) ∧ bootBuiltins (b2name o) = some (b2val o) ∧ b2name o ≠ "__name__" ∧ (b2name o == ("__debug__" : Str)) = false
  | .max => ⟨.fn _ rfl, by decide +kernel, by decide +kernel, by decide +kernel⟩
  | .min => ⟨.fn _ rfl, by decide +kernel, by decide +kernel, by decide +kernel⟩
theorem he_b2 {o : B2} (hc : X.calm = true) (hg : Gl X (b2name o)) (hm : X.mg (b2name o) = none) (ha : PE X a (tOf N Z wa)) (hb : PE X b (tOf N Z wb)) (pl : plainA a = true) (pl2 : plainA b = true) :
    PE X (.Call (.Name (b2name o) p) [a, b] [] pos) (tOf N Z fun ρ S Q => wa ρ S fun x S1 => wb ρ S1 fun y S2 => wb2 o x y S2 Q) := by
  obtain ⟨h1, h2, h3, h4⟩ := b2val_ok o
  refine pimp (pe_callF (cr_b2 (N := N) hc o) h1 hg hm h2 h3 h4 (pa_cons ha (pa_cons hb pa_nil (starEach_plain _ pl2)) (starEach_plain _ pl)) (by simp [pl, pl2])) fun σ H Q t => ?_
  exact tOf.two t fun x y S2 v u H2 Qh h rx ry g k => ⟨x, y, v, u, S2, Qh, rfl, h, rx, ry, g, k⟩
end
end A
end
section
set_option Elab.async false
set_option linter.all false
set_option maxRecDepth 100000
set_option maxHeartbeats 1000000
/-! A8: methods of built-in values, isinstance. -/
namespace A
open PySem L2 PyProof.Rows
section
variable {N : Nm} {Z : Sta × Hp} {X : Cx} {S S' S1 : Sta} {H H' H1 : Hp} {Q : VK} {Qh : K} {σ : L2.St} {ρ : Env} {pos p : Pos} {a b c e : Expr} {wa wb wc : Wp}

/-- an object is written, then a value told -/
theorem Kn.put (k : Kn N S H Qh Q) (rh : RH N H S) {p : Addr} {u o : HO} {m m0 : MO} (h : H p = some u) (d : Deep u = false) (hS : S p = some m0) (hm : RO N (upd H p o) p m) {x : D} {v : V} (r : RD N (upd H p o) x v) (q : Qh x (ups S p m)) : Q v (upd H p o) :=
  k _ _ _ _ (Fr.put hS) (rh.put h d hm) r q
theorem dle_lst {p : Addr} {o : HO} {xs : List V} (h : H p = some (.lst xs)) : Dle H (upd H p o) := dle_put h rfl
theorem kput_rel {k : Key} {d : D} {v : V} (r : RD N H d v) : ∀ {kvs : List (Key × D)} {ws : List (Key × V)}, ws.map (·.1) = kvs.map (·.1) → RDs N H (kvs.map (·.2)) (ws.map (·.2)) →
    (putK ws k v).map (·.1) = (kput kvs k d).map (·.1) ∧ RDs N H ((kput kvs k d).map (·.2)) ((putK ws k v).map (·.2)) := by
  have anyEq : ∀ {kvs : List (Key × D)} {ws : List (Key × V)}, ws.map (·.1) = kvs.map (·.1) → (ws.any fun q => decide (q.1 = k)) = (kvs.any fun q => decide (q.1 = k)) := fun {kvs ws} e => by
    have h1 : (ws.any fun q => decide (q.1 = k)) = (ws.map (·.1)).any fun x => decide (x = k) := by rw [List.any_map]; rfl
    have h2 : (kvs.any fun q => decide (q.1 = k)) = (kvs.map (·.1)).any fun x => decide (x = k) := by rw [List.any_map]; rfl
    rw [h1, h2, e]
  have mp : ∀ {kvs : List (Key × D)} {ws : List (Key × V)}, ws.map (·.1) = kvs.map (·.1) → RDs N H (kvs.map (·.2)) (ws.map (·.2)) →
      (ws.map fun q => if q.1 = k then (q.1, v) else q).map (·.1) = (kvs.map fun q => if q.1 = k then (q.1, d) else q).map (·.1) ∧ RDs N H ((kvs.map fun q => if q.1 = k then (q.1, d) else q).map (·.2)) ((ws.map fun q => if q.1 = k then (q.1, v) else q).map (·.2)) := fun {kvs} => by
    induction kvs with
    | nil => intro ws e h; cases ws with
      | nil => exact ⟨rfl, .nil⟩
      | cons _ _ => simp at e
    | cons x xs ih => intro ws e h; cases ws with
      | nil => simp at e
      | cons y ys =>
        simp only [List.map_cons, List.cons.injEq] at e
        have h : RDs N H (x.2 :: xs.map (·.2)) (y.2 :: ys.map (·.2)) := h
        obtain ⟨_, _, e2, h1, h2⟩ := h.uncons
        cases e2
        obtain ⟨i1, i2⟩ := ih e.2 h2
        by_cases hk : x.1 = k
        · have hk' : y.1 = k := e.1.trans hk
          simp only [List.map_cons, hk, hk', if_true]
          exact ⟨congrArg _ i1, .cons r i2⟩
        · have hk' : ¬ y.1 = k := fun z => hk (e.1.symm.trans z)
          simp only [List.map_cons, hk, hk', if_false]
          exact ⟨by rw [e.1, i1], .cons h1 i2⟩
  intro kvs ws e h
  unfold putK kput
  rw [anyEq e]
  split
  · exact mp e h
  · rw [List.map_append, List.map_append, List.map_append, List.map_append, e]
    exact ⟨rfl, h.append (.cons r .nil)⟩
theorem kdel_rel {k : Key} : ∀ {kvs : List (Key × D)} {ws : List (Key × V)}, ws.map (·.1) = kvs.map (·.1) → RDs N H (kvs.map (·.2)) (ws.map (·.2)) →
    (dropK ws k).map (·.1) = (kdel kvs k).map (·.1) ∧ RDs N H ((kdel kvs k).map (·.2)) ((dropK ws k).map (·.2))
  | [], ws, e, h => by cases ws with
    | nil => exact ⟨rfl, .nil⟩
    | cons _ _ => simp at e
  | x :: xs, ws, e, h => by cases ws with
    | nil => simp at e
    | cons y ys =>
      simp only [List.map_cons, List.cons.injEq] at e
      have h : RDs N H (x.2 :: xs.map (·.2)) (y.2 :: ys.map (·.2)) := h
      obtain ⟨_, _, e2, h1, h2⟩ := h.uncons
      cases e2
      obtain ⟨i1, i2⟩ := kdel_rel (k := k) e.2 h2
      unfold dropK kdel at *
      by_cases hk : x.1 = k
      · have hk' : y.1 = k := e.1.trans hk
        rw [List.filter_cons_of_neg (by simpa using hk'), List.filter_cons_of_neg (by simpa using hk)]
        exact ⟨i1, i2⟩
      · have hk' : ¬ y.1 = k := fun z => hk (e.1.symm.trans z)
        rw [List.filter_cons_of_pos (by simpa using hk'), List.filter_cons_of_pos (by simpa using hk)]
        simp only [List.map_cons]
        exact ⟨by rw [e.1, i1], .cons h1 i2⟩
theorem kdel_none {k : Key} : ∀ {kvs : List (Key × D)}, kget kvs k = none → kdel kvs k = kvs
  | [], _ => rfl
  | x :: xs, h => by
    unfold kget at h
    by_cases hk : x.1 = k
    · rw [List.find?_cons_of_pos (by simpa using hk)] at h; cases h
    · rw [List.find?_cons_of_neg (by simpa using hk)] at h
      have ih := kdel_none (k := k) (kvs := xs) h
      unfold kdel at ih ⊢
      rw [List.filter_cons_of_pos (by simpa using hk), ih]
theorem ups_self {p : Addr} {m : MO} (h : S p = some m) : ups S p m = S := by
  funext q
  unfold ups
  split
  · rename_i e; rw [e, h]
  · rfl

/-! ### o.m(..), o a built-in value -/
def tBD (X : Cx) (name : Str) (to : TE) (t : TA) : TE := fun σ H Q => to σ H fun x H1 => ∃ T id r, PlainAttrs T ∧ Slot T name id ∧ typeOf (.builtin id) = pure (.type "method_descriptor") ∧ MtR X id r ∧ tyV X.K T x H1 ∧ t σ H1 fun xs H2 => r x xs H2 Q
def noSup : Expr → Bool
  | .Call _ _ _ _ => false
  | _ => true
theorem noSup_ok {e : Expr} {f : Str} {env : PySem.Env} (h : noSup e = true) : attributeBase e f env (eval e env) = eval e env := by
  cases e <;> first | rfl | cases h
theorem pe_bD0 {o : Expr} {name : Str} {apos cpos : Pos} {to : TE} (ho : PE X o to) (hb : noSup o = true) (hline : (apos.endLine == cpos.line) = true) : PE X (.Call (.Attribute o name apos) [] [] cpos) (tBD X name to tNil) := by
  refine ⟨fun pins s σ H Q I h => ?_⟩
  refine wpAny_Call_method0_late (noSup_ok hb) hline (thn (ho.run pins s σ H _ I h) fun v s1 ⟨x, H1, I1, r1, T, id, r, pa, slot, hty, hm, ty, q1⟩ => ?_)
  obtain ⟨h1, h2⟩ := tyV_is I1 r1 ty
  exact ⟨T, id, pa, slot, hty, h1, h2, Calls.callWith_builtin rfl (PySem.evalArgs_none (hm pins s1 σ H1 x [] v [] Q I1 r1 .nil q1))⟩
theorem pe_bD {o : Expr} {es : List Expr} {name : Str} {apos cpos : Pos} {to : TE} {t : TA} (ho : PE X o to) (ha : PA X (e :: es) t) (hb : noSup o = true) (hline : (apos.endLine == cpos.line) = true) (pl : (e :: es).all plainA = true)
    (hfew : ((backTo cpos (starEach (e :: es) X.env)).all (fun x => !x.1) && (backToKw cpos (keywordEach [] X.env)).all (fun x => x.1.isSome)
      && decide ((e :: es).length + ([] : List Keyword).length + (if ([] : List Keyword).isEmpty then 0 else 1) < 30)) = true) :
    PE X (.Call (.Attribute o name apos) (e :: es) [] cpos) (tBD X name to t) := by
  simp only [List.all_cons, Bool.and_eq_true] at pl
  refine ⟨fun pins s σ H Q I h => ?_⟩
  refine wpAny_Call_method_late (noSup_ok hb) hfew hline rfl (thn (ho.run pins s σ H _ I h) fun v s1 ⟨x, H1, I1, r1, T, id, r, pa, slot, hty, hm, ty, q1⟩ => ?_)
  obtain ⟨h1, h2⟩ := tyV_is I1 r1 ty
  refine ⟨T, id, pa, slot, hty, h1, h2, ?_⟩
  have hA := ha.run cpos pins s1 σ H1 _ I1 q1
  rw [starEach_plain _ pl.1] at hA ⊢
  refine Calls.callWith_builtin (by show (false || (backTo cpos (starEach es X.env)).any (·.1)) = false; rw [star_none _ pl.2] <;> rfl) (Calls.evalArgs_plain ?_)
  exact thn hA fun us s2 ⟨vs, H2, I2, r2, q2⟩ => hm pins s2 σ H2 x vs v us Q I2 r1 r2 q2
theorem few_args {cpos : Pos} {es : List Expr} {env : PySem.Env} (pl : es.all plainA = true) (hl : es.length < 29) :
    ((backTo cpos (starEach es env)).all (fun x => !x.1) && (backToKw cpos (keywordEach [] env)).all (fun x => x.1.isSome) && decide (es.length + ([] : List Keyword).length + (if ([] : List Keyword).isEmpty then 0 else 1) < 30)) = true := by
  have h1 : (backTo cpos (starEach es env)).all (fun x => !x.1) = true := by
    clear hl
    induction es with
    | nil => rfl
    | cons e es ih =>
      simp only [List.all_cons, Bool.and_eq_true] at pl
      rw [starEach_plain _ pl.1]
      show (true && (backTo cpos (starEach es env)).all (fun x => !x.1)) = true
      rw [ih pl.2]; rfl
  rw [h1]
  have h2 : (backToKw cpos (keywordEach [] env)).all (fun x => x.1.isSome) = true := by
    have : keywordEach [] env = [] := by first | rfl | simp [keywordEach]
    rw [this]; rfl
  rw [h2]
  simp only [Bool.true_and, decide_eq_true_eq, List.length_nil, List.isEmpty_nil, if_true, Nat.add_zero]
  omega

def rBm (N : Nm) (m : Bm) (t : Ty) : V → List V → Hp → VK → Prop := fun v vs H Q => ∃ x ds S Qh, RH N H S ∧ RD N H x v ∧ RDs N H ds vs ∧ wbm m t x ds S Qh ∧ Kn N S H Qh Q
def tyN : Ty → String
  | .list => "list" | .dict => "dict" | .str => "str"
def bmN : Bm → Str
  | .append => "append" | .extend => "extend" | .pop => "pop" | .get => "get" | .setd => "setdefault" | .join => "join" | .split => "split" | .ends => "endswith" | .rstrip => "rstrip" | .clear => "clear" | .upper => "upper" | .replace => "replace"
def bmOk : Bm → Bool
  | .setd => false
  | _ => true
theorem ty_at (hK : N.K = X.K) (rh : RH N H S) {x : D} {v : V} {t : Ty} (r : RD N H x v) (e : tyD S x = some t) : tyV X.K (tyN t) v H := by
  cases x with
  | str z => cases e; cases rd_str r; exact rfl
  | ref a =>
    cases rd_ref r
    simp only [tyD] at e
    cases ea : S a with
    | none => rw [ea] at e; cases e
    | some o =>
      rw [ea] at e
      cases o with
      | lst l => cases e; obtain ⟨vs, h1, _⟩ := at_lst rh ea; exact .inl ⟨rfl, vs, SqL.of h1⟩
      | dic l => cases e; obtain ⟨ws, h1, _⟩ := at_dic rh ea; exact .inr (.inr (.inl ⟨rfl, .inl ⟨ws, h1⟩⟩))
      | _ => cases e
  | _ => cases e
theorem mimp {id : String} {r r' : V → List V → Hp → VK → Prop} (h : MtR X id r) (i : ∀ x xs H Q, r' x xs H Q → r x xs H Q) : MtR X id r' := fun pins s σ H x xs v us Q I rx rs q => h pins s σ H x xs v us Q I rx rs (i x xs H Q q)
theorem mt_get2 (hu : X.A.units + 1 < cLine) : MtR X "dict.get" (fun x xs H Q => ∃ a y o d, x = .ref a ∧ xs = [y, d] ∧ DGet H a y o ∧ Q (o.getD d) H) := by
  intro pins s σ H x xs v us Q I rx rs h
  obtain ⟨a, y, o, d, rfl, rfl, g, q⟩ := h
  cases rx
  obtain ⟨u1, u2, rfl, r1, r2⟩ := vals2 rs
  exact d_get2 hu I g r1 r2 fun w' s' I' r' => ⟨o.getD d, H, I', r', q⟩
theorem mt_popK : MtR X "dict.pop" (fun x xs H Q => ∃ a kvs k, x = .ref a ∧ H a = some (.dK kvs) ∧ ((∃ v, (xs = [kV k] ∨ ∃ d, xs = [kV k, d]) ∧ valV kvs k = some v ∧ Q v (upd H a (.dK (dropK kvs k)))) ∨ ∃ d, xs = [kV k, d] ∧ valV kvs k = none ∧ Q d H)) := by
  intro pins s σ H x xs v us Q I rx rs h
  obtain ⟨a, kvs, k, rfl, ea, h⟩ := h
  cases rx
  rcases h with ⟨y, hx, e, q⟩ | ⟨d, rfl, e, q⟩
  · rcases hx with rfl | ⟨d, rfl⟩
    · obtain ⟨u, rfl, ru⟩ := vals1 rs
      exact d_pop I ea ru e (.inl rfl) fun w' s' I' r' => ⟨y, _, I', r', q⟩
    · obtain ⟨u, u2, rfl, ru, r2⟩ := vals2 rs
      exact d_pop I ea ru e (.inr ⟨_, rfl⟩) fun w' s' I' r' => ⟨y, _, I', r', q⟩
  · obtain ⟨u, u2, rfl, ru, r2⟩ := vals2 rs
    exact d_popD I ea ru e fun s' I' => ⟨d, H, I', r2, q⟩
structure BmR (N : Nm) (X : Cx) (m : Bm) (t : Ty) : Prop where
  run : ∃ id, Slot (tyN t) (bmN m) id ∧ typeOf (.builtin id) = pure (.type "method_descriptor") ∧ MtR X id (rBm N m t)
theorem plain_ty : ∀ t, PlainAttrs (tyN t)
  | .list => PySem.F.plainAttrs_list
  | .dict => PySem.F.plainAttrs_dict
  | .str => PySem.F.plainAttrs_str
theorem bm_at (hK : N.K = X.K) (hu : X.A.units + 1 < cLine) : ∀ m t, bmOk m = true → bmHas m t = true → BmR N X m t
  | .append, .list, _, _ => ⟨_, PySem.F.slot_list_append, PySem.F.type_list_append, mimp mt_append fun v vs H Q ⟨x, ds, S, Qh, rh, rx, rs, w, k⟩ => by
      simp only [wbm] at w
      split at w <;> first | exact w.elim | skip
      rename_i a d h1
      cases h1
      split at w <;> first | exact w.elim | skip
      rename_i xs ea
      obtain ⟨y, t, rfl, ry, rt⟩ := rs.uncons
      rw [rt.unnil]
      cases rd_ref rx
      obtain ⟨ws, h1, r1⟩ := at_lst rh ea
      refine ⟨a, ws, y, rfl, rfl, h1, r1.length ▸ w.1, k.put rh h1 rfl ea (m := .lst (xs ++ [d])) ⟨ws ++ [y], L2.upd_same, (r1.append (.cons ry .nil)).mono' (dle_lst h1)⟩ mk_non w.2⟩⟩
  | .extend, .list, _, _ => ⟨_, PySem.F.slot_list_extend, PySem.F.type_list_extend, mimp mt_extend fun v vs H Q ⟨x, ds, S, Qh, rh, rx, rs, w, k⟩ => by
      simp only [wbm] at w
      split at w <;> first | exact w.elim | skip
      rename_i a b h1
      cases h1
      split at w <;> first | exact w.elim | skip
      rename_i xs ys ea eb
      obtain ⟨y, t, rfl, ry, rt⟩ := rs.uncons
      rw [rt.unnil]
      cases rd_ref rx
      cases rd_ref ry
      obtain ⟨ws, h1, r1⟩ := at_lst rh ea
      obtain ⟨zs, h2, r2⟩ := at_lst rh eb
      refine ⟨a, b, ws, zs, rfl, rfl, h1, h2, by rw [← r1.length, ← r2.length]; exact w.1, k.put rh h1 rfl ea (m := .lst (xs ++ ys)) ⟨ws ++ zs, L2.upd_same, (r1.append r2).mono' (dle_lst h1)⟩ mk_non w.2⟩⟩
  | .pop, .list, _, _ => ⟨_, PySem.F.slot_list_pop, PySem.F.type_list_pop, mimp mt_pop fun v vs H Q ⟨x, ds, S, Qh, rh, rx, rs, w, k⟩ => by
      simp only [wbm] at w
      split at w <;> first | exact w.elim | (rename_i h; cases h; done) | skip
      rename_i a h1
      split at w <;> first | exact w.elim | skip
      rename_i xs ea
      rw [rs.unnil]
      cases rd_ref rx
      obtain ⟨ws, h1, r1⟩ := at_lst rh ea
      obtain ⟨d, e, q⟩ := w
      obtain ⟨y, ey, ry⟩ := r1.get e
      have dl : RDs N H xs.dropLast ws.dropLast := by
        rw [List.dropLast_eq_take, List.dropLast_eq_take, ← r1.length]
        exact r1.take _
      exact ⟨a, ws, y, rfl, rfl, h1, r1.length ▸ ey, k.put rh h1 rfl ea (m := .lst xs.dropLast) ⟨ws.dropLast, L2.upd_same, dl.mono' (dle_lst h1)⟩ (RD.mono (dle_lst h1) _ _ ry) q⟩⟩
  | .clear, .list, _, _ => ⟨_, PySem.F.slot_list_clear, PySem.F.type_list_clear, mimp mt_clear fun v vs H Q ⟨x, ds, S, Qh, rh, rx, rs, w, k⟩ => by
      simp only [wbm] at w
      split at w <;> first | exact w.elim | skip
      rename_i a h1
      split at w <;> first | exact w.elim | skip
      rename_i xs ea
      rw [rs.unnil]
      cases rd_ref rx
      obtain ⟨ws, h1, r1⟩ := at_lst rh ea
      exact ⟨a, ws, rfl, rfl, h1, k.put rh h1 rfl ea (m := .lst []) ⟨[], L2.upd_same, .nil⟩ mk_non w⟩⟩
  | .pop, .dict, _, _ => ⟨_, PySem.F.slot_dict_pop, PySem.F.type_dict_pop, mimp mt_popK fun v vs H Q ⟨x, ds, S, Qh, rh, rx, rs, w, k⟩ => by
      simp only [wbm] at w
      split at w <;> first | exact w.elim | (rename_i h; cases h; done) | skip
      · rename_i a y h1
        split at w <;> first | exact w.elim | skip
        rename_i kvs ea
        obtain ⟨y', t, rfl, ry, rt⟩ := rs.uncons
        rw [rt.unnil]
        cases rd_ref rx
        obtain ⟨ws, h1, e1, r1⟩ := at_dic rh ea
        obtain ⟨key, d, ek, eg, q⟩ := w
        rcases kget_rel (k := key) e1 r1 with ⟨z, _⟩ | ⟨d', v', z1, z2, z3⟩
        · rw [z] at eg; cases eg
        · rw [z1] at eg; cases eg
          obtain ⟨g1, g2⟩ := kdel_rel (k := key) e1 r1
          exact ⟨a, ws, key, rfl, h1, .inl ⟨v', .inl (by rw [key_rd ek ry]), z2, k.put rh h1 rfl ea (m := .dic (kdel kvs key)) ⟨_, L2.upd_same, g1, g2.mono' (dle_put h1 rfl)⟩ (RD.mono (dle_put h1 rfl) _ _ z3) q⟩⟩
      · rename_i a y u h1
        split at w <;> first | exact w.elim | skip
        rename_i kvs ea
        obtain ⟨y', t, rfl, ry, rt⟩ := rs.uncons
        obtain ⟨u', t, rfl, ru, rt⟩ := rt.uncons
        rw [rt.unnil]
        cases rd_ref rx
        obtain ⟨ws, h1, e1, r1⟩ := at_dic rh ea
        obtain ⟨key, ek, q⟩ := w
        rcases kget_rel (k := key) e1 r1 with ⟨z, z'⟩ | ⟨d', v', z1, z2, z3⟩
        · rw [z, kdel_none z, ups_self ea] at q
          exact ⟨a, ws, key, rfl, h1, .inr ⟨u', by rw [key_rd ek ry], z', k.at rh ru q⟩⟩
        · rw [z1] at q
          obtain ⟨g1, g2⟩ := kdel_rel (k := key) e1 r1
          exact ⟨a, ws, key, rfl, h1, .inl ⟨v', .inr ⟨u', by rw [key_rd ek ry]⟩, z2, k.put rh h1 rfl ea (m := .dic (kdel kvs key)) ⟨_, L2.upd_same, g1, g2.mono' (dle_put h1 rfl)⟩ (RD.mono (dle_put h1 rfl) _ _ z3) q⟩⟩⟩
  | .get, .dict, _, _ => ⟨_, PySem.F.slot_dict_get, PySem.F.type_dict_get, mimp (mt_get2 hu) fun v vs H Q ⟨x, ds, S, Qh, rh, rx, rs, w, k⟩ => by
      simp only [wbm] at w
      split at w <;> first | exact w.elim | skip
      rename_i a y u h1
      obtain ⟨y', t, rfl, ry, rt⟩ := rs.uncons
      obtain ⟨u', t, rfl, ru, rt⟩ := rt.uncons
      rw [rt.unnil]
      cases rd_ref rx
      have go : ∀ kvs, (S a = some (.dic kvs) ∨ S a = some (.dicF kvs)) → (∃ k', keyD y = some k' ∧ Qh ((kget kvs k').getD u) S) → ∃ a_1 y_1 o d, V.ref a = V.ref a_1 ∧ [y', u'] = [y_1, d] ∧ DGet H a_1 y_1 o ∧ Q (o.getD d) H := fun kvs hs ⟨key, ek, q⟩ => by
        obtain ⟨o, g, z⟩ := dget_of rh hs key
        refine ⟨a, y', o, u', rfl, rfl, by rw [key_rd ek ry]; exact g, ?_⟩
        rcases z with ⟨z1, rfl⟩ | ⟨d', v', z1, rfl, z3⟩
        · rw [z1] at q; exact k.at rh ru q
        · rw [z1] at q; exact k.at rh z3 q
      split at w <;> first | exact w.elim | skip
      · exact go _ (.inl (by assumption)) w
      · exact go _ (.inr (by assumption)) w⟩
  | .join, .str, _, _ => ⟨_, PySem.F.slot_str_join, PySem.F.type_str_join, mimp mt_join fun v vs H Q ⟨x, ds, S, Qh, rh, rx, rs, w, k⟩ => by
      simp only [wbm] at w
      split at w <;> first | exact w.elim | skip
      rename_i z d h1
      obtain ⟨xs, ss, e1, e2, h2, q⟩ := w
      obtain ⟨y, t, rfl, ry, rt⟩ := rs.uncons
      rw [rt.unnil]
      cases rd_str rx
      obtain ⟨a, ws, rfl, h3, r1⟩ := itemsT_at hK rh ry e1
      rw [rds_strs r1 e2] at h3
      exact ⟨z, a, ss, rfl, rfl, h3.imp id (·.1), h2, k.at rh mk_str q⟩⟩
  | .split, .str, _, _ => ⟨_, PySem.F.slot_str_split, PySem.F.type_str_split, mimp mt_split fun v vs H Q ⟨x, ds, S, Qh, rh, rx, rs, w, k⟩ => by
      simp only [wbm] at w
      split at w <;> first | exact w.elim | skip
      rename_i z d h1
      obtain ⟨h1, h2, q⟩ := w
      obtain ⟨y, t, rfl, ry, rt⟩ := rs.uncons
      rw [rt.unnil]
      cases rd_str rx
      cases rd_str ry
      have rr : ∀ ys : List Str, RDs N H (ys.map .str) (ys.map V.str) := fun ys => by
        induction ys with
        | nil => exact .nil
        | cons y ys ih => exact .cons mk_str ih
      exact ⟨z, d, rfl, rfl, h1, h2, fun p n => k.newL rh n (rr _) q⟩⟩
  | .ends, .str, _, _ => ⟨_, PySem.F.slot_str_endswith, PySem.F.type_str_endswith, mimp mt_endswith fun v vs H Q ⟨x, ds, S, Qh, rh, rx, rs, w, k⟩ => by
      simp only [wbm] at w
      split at w <;> first | exact w.elim | skip
      rename_i z d h1
      obtain ⟨y, t, rfl, ry, rt⟩ := rs.uncons
      rw [rt.unnil]
      cases rd_str rx
      cases rd_str ry
      exact ⟨z, d, rfl, rfl, k.at rh mk_bl w⟩⟩
  | .upper, .str, _, _ => ⟨_, PySem.F.slot_str_upper, PySem.F.type_str_upper, mimp mt_upper fun v vs H Q ⟨x, ds, S, Qh, rh, rx, rs, w, k⟩ => by
      simp only [wbm] at w
      split at w <;> first | exact w.elim | skip
      rename_i z h1
      rw [rs.unnil]
      cases rd_str rx
      exact ⟨z, rfl, rfl, w.1, k.at rh mk_str w.2⟩⟩
  | .setd, _, h, _ => by cases h
  | .rstrip, _, _, h => by cases h
  | .replace, _, _, h => by cases h
  | .append, .dict, _, h => by cases h
  | .append, .str, _, h => by cases h
  | .extend, .dict, _, h => by cases h
  | .extend, .str, _, h => by cases h
  | .pop, .str, _, h => by cases h
  | .get, .list, _, h => by cases h
  | .get, .str, _, h => by cases h
  | .join, .list, _, h => by cases h
  | .join, .dict, _, h => by cases h
  | .split, .list, _, h => by cases h
  | .split, .dict, _, h => by cases h
  | .ends, .list, _, h => by cases h
  | .ends, .dict, _, h => by cases h
  | .clear, .dict, _, h => by cases h
  | .clear, .str, _, h => by cases h
  | .upper, .list, _, h => by cases h
  | .upper, .dict, _, h => by cases h
end
end A
end
section
set_option Elab.async false
set_option linter.all false
set_option maxRecDepth 100000
set_option maxHeartbeats 1000000
/-! A9: methods, isinstance, errors in the air, calls. -/
namespace A
open PySem L2 PyProof.Rows
section
variable {N : Nm} {Z : Sta × Hp} {X : Cx} {S S' S1 : Sta} {H H' H1 : Hp} {Q : VK} {Qh : K} {σ : L2.St} {ρ : Env} {pos p apos cpos : Pos} {a b c e o : Expr} {wa wb wc wo : Wp} {ws : Wps} {es : List Expr}

/-! ### o.m(..) -/
def hBm (m : Bm) (wo : Wp) (ws : Wps) : Wp := fun ρ S Q => wo ρ S fun x S1 => ∃ t, tyD S1 x = some t ∧ bmHas m t = true ∧ ws ρ S1 fun ds S2 => wbm m t x ds S2 Q
theorem bm_pe (hK : N.K = X.K) (hu : X.A.units + 1 < cLine) {m : Bm} (ok : bmOk m = true) {ta : TA} (hta : ∀ σ H Q, tA N Z ws σ H Q → ta σ H Q) (σ : L2.St) (H : Hp) (Q : VK) (t : tOf N Z (hBm m wo ws) σ H Q) : tBD X (bmN m) (tOf N Z wo) ta σ H Q := by
  refine tOf.one (g := fun ρ x S1 Q => ∃ t, tyD S1 x = some t ∧ bmHas m t = true ∧ ws ρ S1 fun ds S2 => wbm m t x ds S2 Q) t fun ρ x S1 v H1 Qh rs rh fz rx g k => ?_
  obtain ⟨t, e1, e2, q⟩ := g
  obtain ⟨id, h1, h2, h3⟩ := (bm_at hK hu m t ok e2).run
  refine ⟨tyN t, id, rBm N m t, plain_ty t, h1, h2, h3, ty_at hK rh rx e1, hta _ _ _ ⟨ρ, S1, _, rs, rh, fz, q, fun ds S2 vs H2 f h r q => ?_⟩⟩
  exact ⟨x, ds, S2, Qh, h, RD.mono (f.dle rh) _ _ rx, r, q, k.step f⟩
theorem he_bm (hK : N.K = X.K) (hu : X.A.units + 1 < cLine) {m : Bm} (ok : bmOk m = true) (ho : PE X o (tOf N Z wo)) (ha : PA X (e :: es) (tA N Z ws)) (hb : noSup o = true) (hline : (apos.endLine == cpos.line) = true) (pl : (e :: es).all plainA = true) (hl : (e :: es).length < 29) :
    PE X (.Call (.Attribute o (bmN m) apos) (e :: es) [] cpos) (tOf N Z (hBm m wo ws)) :=
  pimp (pe_bD ho ha hb hline pl (few_args pl hl)) (bm_pe hK hu ok fun _ _ _ h => h)
theorem he_bm0 (hK : N.K = X.K) (hu : X.A.units + 1 < cLine) {m : Bm} (ok : bmOk m = true) (ho : PE X o (tOf N Z wo)) (hb : noSup o = true) (hline : (apos.endLine == cpos.line) = true) :
    PE X (.Call (.Attribute o (bmN m) apos) [] [] cpos) (tOf N Z (hBm m wo fun _ S Q => Q [] S)) :=
  pimp (pe_bD0 ho hb hline) (bm_pe hK hu ok fun σ H Q ⟨ρ, S, Ql, rs, rh, fz, w, k⟩ => k [] S [] H Fr.refl rh .nil w)

/-! ### isinstance -/
def kdN : Kd → String
  | .int => "int" | .str => "str" | .bool => "bool" | .list => "list" | .tuple => "tuple" | .own _ => ""
def kdOk : Kd → Bool
  | .own _ => false
  | _ => true
/-- the built-in type of a value -/
def tnD (S : Sta) : D → Option String
  | .non => some "NoneType" | .bl _ => some "bool" | .int _ => some "int" | .str _ => some "str" | .tup _ => some "tuple" | .lis _ => some "list"
  | .ref a => match S a with
    | some (.lst _) => some "list"
    | some (.dic _) => some "dict"
    | _ => none
  | _ => none
theorem tn_at (hK : N.K = X.K) (rh : RH N H S) {x : D} {v : V} {t : String} (r : RD N H x v) (e : tnD S x = some t) : TyX X.K H v (.type t) := by
  cases x with
  | non => cases e; cases rd_non r; exact .base .non
  | bl b => cases e; cases rd_bl r; exact .base (.bl b)
  | int b => cases e; cases rd_int r; exact .base (.int b)
  | str b => cases e; cases rd_str r; exact .base (.str b)
  | tup l =>
    cases e
    obtain ⟨a, vs, rfl, h1, _⟩ := rd_tup r
    rw [hK] at h1
    rcases h1 with (h1 | ⟨ob, h1⟩) | ⟨ob, its, n, h1, h2, _⟩
    · exact .base (.tup h1)
    · exact .fTuple h1
    · exact .kTuple h1 h2
  | lis l =>
    cases e
    obtain ⟨a, vs, rfl, h1, _⟩ := rd_lis r
    rw [hK] at h1
    rcases h1 with (h1 | ⟨ob, h1⟩) | ⟨ob, its, n, h1, h2, _⟩
    · exact .base (.lst h1)
    · exact .base (.frz h1)
    · exact .kList h1 h2
  | ref a =>
    cases rd_ref r
    simp only [tnD] at e
    cases ea : S a with
    | none => rw [ea] at e; cases e
    | some ob =>
      rw [ea] at e
      cases ob with
      | lst l => cases e; obtain ⟨vs, h1, _⟩ := at_lst rh ea; exact .base (.lst h1)
      | dic l => cases e; obtain ⟨ws, h1, _⟩ := at_dic rh ea; exact .base (.dK h1)
      | _ => cases e
  | _ => cases e
theorem kit_lit (K : PySem.W.Frag) : ∀ t ∈ ["NoneType", "bool", "int", "str", "tuple", "list", "dict"], ∀ k ∈ ["int", "str", "bool", "list", "tuple"], PySem.W.kitOne K (.type t) (.type k) = some (t == k || (t == "bool" && k == "int")) := by
  intro t ht k hk
  simp only [List.mem_cons, List.not_mem_nil, or_false] at ht hk
  rcases ht with rfl | rfl | rfl | rfl | rfl | rfl | rfl <;> rcases hk with rfl | rfl | rfl | rfl | rfl <;> rfl
theorem isKd_at {x : D} {k : Kd} {r : Bool} (ok : kdOk k = true) (e : isKd S x k = some r) : ∃ t, tnD S x = some t ∧ PySem.W.kitOne X.K (.type t) (.type (kdN k)) = some r := by
  have fin : ∀ t, tnD S x = some t → t ∈ ["NoneType", "bool", "int", "str", "tuple", "list", "dict"] → r = (t == kdN k || (t == "bool" && kdN k == "int")) → ∃ t, tnD S x = some t ∧ PySem.W.kitOne X.K (.type t) (.type (kdN k)) = some r := fun t h1 h2 h3 => by
    refine ⟨t, h1, ?_⟩
    rw [kit_lit X.K t h2 (kdN k) (by cases k <;> simp [kdN] <;> cases ok), h3]
  have hn : x ≠ .lis [] ∨ True := .inr trivial
  cases x with
  | non => exact fin "NoneType" rfl (by simp) (by cases k <;> first | (cases e; rfl) | cases ok)
  | bl b => exact fin "bool" rfl (by simp) (by cases k <;> first | (cases e; rfl) | cases ok)
  | int b => exact fin "int" rfl (by simp) (by cases k <;> first | (cases e; rfl) | cases ok)
  | str b => exact fin "str" rfl (by simp) (by cases k <;> first | (cases e; rfl) | cases ok)
  | tup b => exact fin "tuple" rfl (by simp) (by cases k <;> first | (cases e; rfl) | cases ok)
  | ref a =>
    cases ea : S a with
    | none => cases k <;> first | (simp only [isKd, ea] at e; cases e; done) | cases ok
    | some ob =>
      cases ob with
      | lst l => exact fin "list" (by simp only [tnD, ea]) (by simp) (by cases k <;> first | (simp only [isKd, ea] at e; cases e; rfl) | cases ok)
      | dic l => exact fin "dict" (by simp only [tnD, ea]) (by simp) (by cases k <;> first | (simp only [isKd, ea] at e; cases e; rfl) | cases ok)
      | _ => cases k <;> first | (simp only [isKd, ea] at e; cases e; done) | cases ok
  | _ => cases k <;> first | (cases e; done) | cases ok
theorem kd_boot : ∀ k, kdOk k = true → bootBuiltins (Str.ofString (kdN k)) = some (.type (kdN k)) ∧ Str.ofString (kdN k) ≠ "__name__" ∧ (Str.ofString (kdN k) == ("__debug__" : Str)) = false
  | .int, _ => ⟨by decide +kernel, by decide +kernel, by decide +kernel⟩
  | .str, _ => ⟨by decide +kernel, by decide +kernel, by decide +kernel⟩
  | .bool, _ => ⟨by decide +kernel, by decide +kernel, by decide +kernel⟩
  | .list, _ => ⟨by decide +kernel, by decide +kernel, by decide +kernel⟩
  | .tuple, _ => ⟨by decide +kernel, by decide +kernel, by decide +kernel⟩
  | .own _, h => by cases h
def hIsi (wa : Wp) (k : Kd) : Wp := fun ρ S Q => wa ρ S fun x S1 => ∃ b, isKd S1 x k = some b ∧ Q (.bl b) S1
theorem he_isi (hK : N.K = X.K) {k : Kd} {x : Str} {p2 : Pos} (ok : kdOk k = true) (hx : x = Str.ofString (kdN k)) (hg : Gl X "isinstance") (hm : X.mg "isinstance" = none) (hg2 : Gl X x) (hm2 : X.mg x = none) (ha : PE X a (tOf N Z wa)) (pl : plainA a = true) :
    PE X (.Call (.Name "isinstance" p) [a, .Name x p2] [] pos) (tOf N Z (hIsi wa k)) := by
  have hb := kd_boot k ok
  subst hx
  have h2 : PE X (.Name (Str.ofString (kdN k)) p2) (tC (.ty (kdN k))) := pe_bltn hg2 hm2 hb.1 rfl hb.2.1 hb.2.2
  refine pimp (pe_callF call_isi (.fn _ rfl) hg hm (by decide +kernel) (by decide +kernel) (by decide +kernel) (pa_cons ha (pa_cons h2 pa_nil rfl) (starEach_plain _ pl)) (by rw [List.all_cons, pl]; rfl)) fun σ H Q t => ?_
  refine tOf.one (g := fun _ x S1 Q => ∃ b, isKd S1 x k = some b ∧ Q (.bl b) S1) t fun ρ y S1 v H1 Qh rs rh fz rx g kn => ?_
  obtain ⟨r, e, q⟩ := g
  obtain ⟨t, e1, e2⟩ := isKd_at (X := X) ok e
  exact ⟨v, .ty (kdN k), .type t, .type (kdN k), r, rfl, .ty _, tn_at hK rh rx e1, e2, kn.at rh mk_bl q⟩

/-! ### errors in the air -/
/-- an error's value: its class, the address of its dict -/
def XD (N : Nm) (H : Hp) (x : D) (cls : Value) (d : Option Addr) : Prop := ∃ c fs ds dd xs vs, x = .exc c fs ds ∧ cls = .ref (N.ca c) ∧ d = some dd ∧ H dd = some (.xd xs) ∧ RDs N H ds vs ∧ fs.length = vs.length ∧ ∀ (i : Nat) f v, fs[i]? = some f → vs[i]? = some v → xs.lookup (N.fnm f) = some v
theorem XD.mono (f : Dle H H') {x : D} {cls : Value} {d : Option Addr} (h : XD N H x cls d) : XD N H' x cls d := by
  obtain ⟨c, fs, ds, dd, xs, vs, h1, h2, h3, h4, h5, h6, h7⟩ := h
  exact ⟨c, fs, ds, dd, xs, vs, h1, h2, h3, f _ _ h4 rfl, h5.mono' f, h6, h7⟩
/-- what is wished of an error that leaves: Ex by the error, the names, the state -/
def xOf (N : Nm) (Z : Sta × Hp) (Ex : D → Env → Sta → Prop) : WX := fun cls d σ H => ∃ x ρ S, RS N H σ ρ ∧ RH N H S ∧ Fr Z.1 Z.2 S H ∧ XD N H x cls d ∧ Ex x ρ S
/-- a call's wish about errors -/
def KnX (N : Nm) (S : Sta) (H : Hp) (Xh : K) (E : XK) : Prop := ∀ x S' cls d H', Fr S H S' H' → RH N H' S' → XD N H' x cls d → Xh x S' → E cls d H'
theorem KnX.of {Ex : D → Env → Sta → Prop} (rs : RS N H σ ρ) (rh : RH N H S) (fz : Fr Z.1 Z.2 S H) : KnX N S H (fun x S' => Ex x ρ S') (WE (xOf N Z Ex) σ) :=
  fun x S' cls d H' f h xd q => ⟨x, ρ, S', rs.mono (f.dle rh), h, fz.trans f, xd, q⟩

/-! ### calls -/
/-- what the def of number f promises -/
def spF (N : Nm) (C : Orc) (f : Nat) : Sp := fun vs H Q E => ∃ ds S Qh Xh, RDs N H ds vs ∧ RH N H S ∧ C f ds S Qh Xh ∧ Kn N S H Qh Q ∧ KnX N S H Xh E
/-- the facts of the program about a call of f with n written values and the defaults es -/
structure CallOk (N : Nm) (C : Orc) (P : Program) (w : World) (K : PySem.W.Frag) (mg : Str → Option Value) (base : Heap) (A : Around) (f : Nat) (es : List D) : Prop where
  run : ∃ k fd ps dvs ds, FnOk P w K mg base (L2.CX P w) k (N.fa f) fd ps (spF N C f) ∧ Room k A ∧ Binds K fd ps ds ∧ Vals dvs ds ∧ ∀ H, RDs N H es dvs
def hCall (C : Orc) (f : Nat) (es : List D) (ws : Wps) (Ex : D → Env → Sta → Prop) : Wp := fun ρ S Q => ws ρ S fun ds S1 => C f (ds ++ es) S1 Q fun x S' => Ex x ρ S'
theorem he_call {C : Orc} {Ex : D → Env → Sta → Prop} {f : Nat} {ds : List D} {x : Str} (tk : L2.Takes X (xOf N Z Ex)) (co : CallOk N C X.prog X.w X.K X.mg X.base X.A f ds) (hg : Gl X x) (hm : X.mg x = some (.ref (N.fa f))) (hk : PySem.W.keepIn X.K (.ref (N.fa f)) = true)
    (hdb : (x == ("__debug__" : Str)) = false) (ha : PA X (e :: es) (tA N Z ws)) (pl : (e :: es).all plainA = true) : PE X (.Call (.Name x p) (e :: es) [] pos) (tOf N Z (hCall C f ds ws Ex)) := by
  obtain ⟨k, fd, ps, dvs, dfs, F, hr, hb, hd, hds⟩ := co.run
  simp only [List.all_cons, Bool.and_eq_true] at pl
  refine pimp (pe_callSD F hr hg hm hk hb hd (fun σ => passAt tk σ) ha hdb (starEach_plain _ pl.1) (star_none _ pl.2)) fun σ H Q t => ?_
  obtain ⟨ρ, S, Qh, rs, rh, fz, w, kn⟩ := t
  refine ⟨ρ, S, _, rs, rh, fz, w, fun es' S1 vs H1 f h1 r q => ?_⟩
  exact ⟨es' ++ ds, S1, Qh, _, r.append (hds H1), h1, q, kn.step f, KnX.of (rs.mono (f.dle rh)) h1 (fz.trans f)⟩
theorem run_fn0 {CX : CXT} {k : Nat} {f : Addr} {fd : FuncData} {ps : List Str} {sp : Sp} {dvs : List V} {ds : List Value} {E : L2.St → XK} {x : Str} (F : FnOk X.prog X.w X.K X.mg X.base CX k f fd ps sp) (hr : Room k X.A) (hg : Gl X x) (hm : X.mg x = some (.ref f)) (hk : PySem.W.keepIn X.K (.ref f) = true) (hb : Binds X.K fd ps ds) (hd : Vals dvs ds) (hx : ∀ σ, PassesAt CX X σ (E σ))
    (hdb : (x == ("__debug__" : Str)) = false) : PE X (.Call (.Name x p) [] [] pos) (tCallSD sp dvs E tNil) := by
  refine ⟨fun pins s σ H Q I h => ?_⟩
  refine wpAny_Call_Name_kw (ld_glob I hg hm ?_ hdb)
  exact PySem.W.callWith_K0 I.kIn hk (run_fnSD (us := []) F hr hb hd (hx σ) I .nil h)
theorem he_call0 {C : Orc} {Ex : D → Env → Sta → Prop} {f : Nat} {ds : List D} {x : Str} (tk : L2.Takes X (xOf N Z Ex)) (co : CallOk N C X.prog X.w X.K X.mg X.base X.A f ds) (hg : Gl X x) (hm : X.mg x = some (.ref (N.fa f))) (hk : PySem.W.keepIn X.K (.ref (N.fa f)) = true)
    (hdb : (x == ("__debug__" : Str)) = false) : PE X (.Call (.Name x p) [] [] pos) (tOf N Z (hCall C f ds (fun _ S Q => Q [] S) Ex)) := by
  obtain ⟨k, fd, ps, dvs, dfs, F, hr, hb, hd, hds⟩ := co.run
  refine pimp (run_fn0 F hr hg hm hk hb hd (fun σ => passAt tk σ) hdb) fun σ H Q t => ?_
  obtain ⟨ρ, S, Qh, rs, rh, fz, w, kn⟩ := t
  exact ⟨[] ++ ds, S, Qh, _, hds H, rh, w, kn, KnX.of rs rh fz⟩
end
end A
end
section
set_option Elab.async false
set_option linter.all false
set_option maxRecDepth 100000
set_option maxHeartbeats 1000000
set_option maxHeartbeats 1000000 in
/-! A10: what loops and comprehensions walk. -/
namespace A
open PySem L2 PyProof.Rows

/-! ### enumerate over a list or a tuple, from any count -/
section
open PySem
theorem meets_enum1 {v : Value} {ob : Obj} {G : Heap → Prop} (B : Begins v ob G) :
    Meets (Builtin.«enumerate.__new__» ⟨[.type "enumerate", v], []⟩) (fun _ R s => G s.heap ∧
      R (.ok (.ret (.ref (s.heap.push ob).objs.size))) { s with heap := (s.heap.push ob).push { cls := .type "enumerate", data := .fields #[.none, .bool false, .ref s.heap.objs.size, rawInt 0, .none, .none] } }) := by
  refine .of_wp fun prog w A R s h => ?_
  obtain ⟨hp, g, d, tk, os⟩ := s
  obtain ⟨h1, h⟩ := h
  have hs := sub_enumerate
  have q1 : ∀ {A' : Around} {E : Value → Shared → Prop} {Q : Value → Shared → Prop}, Q (.ref hp.objs.size) ⟨hp.push ob, g, d, tk, os⟩ → wpAny (model prog w) A' (pyIter v) Q E ⟨hp, g, d, tk, os⟩ := fun q => B.iter prog w _ _ ⟨hp, g, d, tk, os⟩ _ h1 q
  wp_walk using q1
  refine wpAny_stack_any fun st => ?_
  refine wpAny_pure ?_
  split
  · rename_i c _ _ _ _ _
    cases (c == Value.type "enumerate") <;> (wp_walk using q1; exact ⟨_, rfl, h⟩)
  · wp_walk using q1
    exact ⟨_, rfl, h⟩
theorem call_enum1 {prog : Program} {w : World} {A : Around} {E : Value → Shared → Prop} {s : Shared} {v : Value} {ob : Obj} {G : Heap → Prop} {Q : Value → Shared → Prop} (B : Begins v ob G) (h1 : G s.heap)
    (h : ∀ h', IsEnum h' (s.heap.objs.size + 1) s.heap.objs.size 0 .none → h'.get? s.heap.objs.size = some ob → (∀ b o, s.heap.get? b = some o → h'.get? b = some o) → Q (.ref (s.heap.objs.size + 1)) { s with heap := h' }) :
    wpAny (model prog w) A (call (.type "enumerate") [v]) Q E s := by
  refine callType_new F.called_enumerate (by decide) (F.typeCall_enumerate_1 _) (F.newCall_enumerate_1 _) (fun obj => F.args_object_init_2 obj _) F.entry_enumerate_new (meets_enum1 B) ⟨h1, ?_⟩
  generalize hn : (s.heap.push ob).push { cls := .type "enumerate", data := .fields #[.none, .bool false, .ref s.heap.objs.size, rawInt 0, .none, .none] } = h2
  have hz : (s.heap.push ob).objs.size = s.heap.objs.size + 1 := Heap.size_push ..
  have he : IsEnum h2 (s.heap.objs.size + 1) s.heap.objs.size 0 .none := by
    subst hn
    rw [← hz]
    exact Heap.get?_push_size (s.heap.push ob) rfl
  have hk : ∀ b o, s.heap.get? b = some o → h2.get? b = some o := fun b o q => by subst hn; exact Heap.get?_push_of_some _ (Heap.get?_push_of_some _ q)
  have hi : h2.get? s.heap.objs.size = some ob := by subst hn; exact Heap.get?_push_of_some _ (Heap.get?_push_size _ B.free)
  show _ ∧ _
  rw [hz]
  exact ⟨⟨_, he, rfl⟩, h h2 he hi hk⟩
end

/-- a sequence that is walked: a list or a tuple -/
structure Src (K : PySem.W.Frag) (a : Addr) (Sq : Hp → List V → Prop) (Ia : Heap → Addr → Nat → Prop) (Ow : Heap → Array Value → Prop) (ob : Obj) : Prop where
  at_ : ∀ {X : Cx} {pins : List (Addr × Obj)} {σ : L2.St} {H : Hp} {s : Shared} {xs : List V}, X.K = K → Inv X pins σ H s → Sq H xs → ∃ its : List Value, Vals xs its ∧ Ow s.heap its.toArray
  inj : ∀ {X : Cx} {pins : List (Addr × Obj)} {σ : L2.St} {H : Hp} {s : Shared} {xs ys : List V}, X.K = K → Inv X pins σ H s → Sq H xs → Sq H ys → xs = ys
  draws : ∀ {prog : Program} {w : World} {A : Around} (hh : A.handled = none) (it : Addr) (hne : a ≠ it) (items : Array Value), Draws prog w A it [it, a] items.size (fun i v => items[i]? = some v) (fun i h => Ia h it i ∧ Ow h items)
  obj : ∀ {h : Heap} {it : Addr} {i : Nat}, Ia h it i → ∃ o, h.get? it = some o ∧ (∀ v, o.data ≠ .cell v) ∧ o.cls ≠ .type "enumerate" ∧ o.cls ≠ .type "list" ∧ o.cls ≠ .type "tuple"
  keepI : ∀ {h h' : Heap} {it : Addr} {i : Nat}, Ia h it i → (∀ o, h.get? it = some o → h'.get? it = some o) → Ia h' it i
  own : ∀ {h : Heap} {items : Array Value}, Ow h items → ∃ o, h.get? a = some o ∧ (o.cls = .type "list" ∨ o.cls = .type "tuple")
  begins : ∀ items : Array Value, Begins (.ref a) ob fun h => Ow h items
  first : ∀ {h : Heap} {it : Addr}, h.get? it = some ob → Ia h it 0
theorem src_list (K : PySem.W.Frag) (a : Addr) : Src K a (fun H xs => SqL K H a xs) (fun h it i => h.IsListIter it a i) (fun h items => h.IsList a items) { cls := .type "list_iterator", data := .fields #[.ref a, .int 0 0] } where
  at_ := fun e I q => by subst e; obtain ⟨its, r, p, _⟩ := I.list q; exact ⟨its, r, p.isList⟩
  inj := fun e I q q' => by subst e; exact I.list_inj q q'
  draws := fun hh it hne items => Draws.list hh it a hne items
  obj := fun ⟨o, h1, h2, h3⟩ => ⟨o, h1, (fun v z => by rw [h3] at z; cases z), by rw [h2]; simp, by rw [h2]; simp, by rw [h2]; simp⟩
  keepI := fun h k => h.at k
  own := fun ⟨o, h1, h2, _⟩ => ⟨o, h1, .inl h2⟩
  begins := fun items => begins_list a items
  first := fun h => ⟨_, h, rfl, rfl⟩
theorem src_tup (K : PySem.W.Frag) (a : Addr) : Src K a (fun H xs => SqT K H a xs) (fun h it i => h.IsTupleIter it a i) (fun h items => h.IsTuple a items) { cls := .type "tuple_iterator", data := .fields #[.ref a, .int 0 0] } where
  at_ := fun e I q => by subst e; obtain ⟨its, r, p, _⟩ := I.tuple q; exact ⟨its, r, p⟩
  inj := fun e I q q' => by subst e; exact I.tuple_inj q q'
  draws := fun hh it hne items => Draws.tuple hh it a hne items
  obj := fun ⟨o, h1, h2, h3⟩ => ⟨o, h1, (fun v z => by rw [h3] at z; cases z), by rw [h2]; simp, by rw [h2]; simp, by rw [h2]; simp⟩
  keepI := fun h k => h.at k
  own := fun ⟨o, h1, h2, _⟩ => ⟨o, h1, .inr h2⟩
  begins := fun items => begins_tuple a items
  first := fun h => ⟨_, h, rfl, rfl⟩
/-- pairs of a count and an item -/
def ItG (Sq : Hp → List V → Prop) (c0 : Int) : L2.It :=
  ⟨fun i H => ∃ (xs : List V) (x : V), Sq H xs ∧ xs[i]? = some x, fun i H v H' => ∃ T x, v = .ref T ∧ H T = none ∧ H' = upd H T (.tup [.int (c0 + (i : Nat)), x]) ∧ ∀ xs, Sq H xs → xs[i]? = some x, fun i H => ∃ xs : List V, Sq H xs ∧ xs.length = i⟩
theorem turn_enumG {P : Program} {w : World} {K : PySem.W.Frag} {elts : List Expr} {kk : Nat} {tpos : Pos} {a e it : Addr} {c0 : Int} {Sq : Hp → List V → Prop} {Ia : Heap → Addr → Nat → Prop} {Ow : Heap → Array Value → Prop} {ob : Obj} (R : Src K a Sq Ia Ow ob) :
    Turn P w K (.Tuple elts kk tpos) (ItG Sq c0) [e, it] e (fun i h => (∃ old, IsEnum h e it (c0 + (i : Nat)) old) ∧ Ia h it i ∧ e ≠ it) where
  mem := by simp
  obj := fun i h st b hb => by
    obtain ⟨⟨old, he⟩, hi, _⟩ := st
    have e' : b = e ∨ b = it := by simpa using hb
    rcases e' with rfl | rfl
    · exact ⟨_, he, fun v q => nomatch q⟩
    · obtain ⟨o, h1, h2, _⟩ := R.obj hi
      exact ⟨o, h1, h2⟩
  keep := fun i h h' st k => by
    obtain ⟨⟨old, he⟩, hi, hne⟩ := st
    exact ⟨⟨old, k e (by simp) _ he⟩, R.keepI hi fun o q => k it (by simp) o q, hne⟩
  item := by
    intro X hP hw hK hc i pins s σ H E I hf st hg
    subst hP hw hK
    obtain ⟨⟨old, he⟩, hit, hne⟩ := st
    obtain ⟨xs, x, hq, hx⟩ := hg
    obtain ⟨its, rv, p⟩ := R.at_ rfl I hq
    obtain ⟨u, hu, ru⟩ := rv.get hx
    obtain ⟨oa, ha1, ha2⟩ := R.own p
    obtain ⟨oi, hi1, _, _, hi2, hi3⟩ := R.obj hit
    have nae : e ≠ a := by
      rintro rfl
      have he' : s.heap.get? e = some _ := he
      rw [he'] at ha1; cases ha1
      rcases ha2 with z | z <;> simp at z
    have nai : a ≠ it := by
      rintro rfl
      rw [hi1] at ha1; cases ha1
      rcases ha2 with z | z
      · exact hi2 z
      · exact hi3 z
    have hel : e < s.heap.objs.size := Heap.lt_size he
    have hil : it < s.heap.objs.size := Heap.lt_size hi1
    have hlt : i < its.toArray.size := by
      have := (List.getElem?_eq_some_iff.mp hu).1
      simpa using this
    refine wpAny_pyNext_enum_itemC (R.draws (A := X.A.in1) (I.ok.hd hc) it nai its.toArray) he ⟨hit, p⟩ hlt hne (by simp [hne, nae]) fun y h' tk hy ho hst' hT hsz hk => ?_
    have ey : y = u := by
      have z : its[i]? = some y := by simpa using hy
      rw [hu] at z; exact (Option.some.inj z).symm
    subst ey
    refine ⟨_, rfl, wpAny_letOwnedTupleGo_enum (s := { s with heap := h', toks := tk + 1 }) ho fun h'' he' sb => ?_⟩
    have hT2 : h''.get? s.heap.objs.size = some { cls := .type "tuple", data := .seq #[.int (c0 + (i : Nat)) tk, y] } := (sb.2 _ (Nat.ne_of_gt hel)).trans hT
    have new : ObjOk X.prog X.w (upd H s.heap.objs.size (.tup [.int (c0 + (i : Nat)), x])) h'' s.heap.objs.size (.tup [.int (c0 + (i : Nat)), x]) :=
      ⟨by show 2 ≤ sizeLine; decide, [.int (c0 + (i : Nat)) tk, y], .cons ⟨_, rfl⟩ (.cons ru .nil), ⟨_, hT2, rfl, _, rfl⟩⟩
    have kk : ∀ b o, b ∉ [e, it] → s.heap.get? b = some o → h''.get? b = some o := fun b o hb q => by
      simp only [List.mem_cons, List.not_mem_nil, or_false, not_or] at hb
      exact (sb.2 b hb.1).trans (hk b o hb.1 hb.2 q)
    have I1 := I.turnedNew (t' := tk + 1) (ch := [e, it]) kk hf (Nat.le_refl _) new
    refine ⟨.ref s.heap.objs.size, _, I1, rfl, ⟨_, x, rfl, I.hok.fresh (Nat.le_refl _), rfl, fun ys hy' => by rw [R.inj rfl I hy' hq]; exact hx⟩, ⟨⟨y, ?_⟩, R.keepI hst'.1 fun o q => (sb.2 it (Ne.symm hne)).trans q, hne⟩, fun b hb => ?_⟩
    · have e1 : c0 + ((i + 1 : Nat) : Int) = c0 + (i : Nat) + 1 := by omega
      rw [e1]; exact he'
    · have hb' : b < s.heap.objs.size := by
        have e' : b = e ∨ b = it := by simpa using hb
        rcases e' with z | z
        · rw [z]; exact hel
        · rw [z]; exact hil
      rw [L2.upd_ne (Nat.ne_of_lt hb')]
      exact (hf b hb).1
  done := by
    intro X hP hw hK hc i pins s σ H E I hf st hg
    subst hP hw hK
    obtain ⟨⟨old, he⟩, hit, hne⟩ := st
    obtain ⟨xs, hq, hx⟩ := hg
    obtain ⟨its, rv, p⟩ := R.at_ rfl I hq
    obtain ⟨oa, ha1, ha2⟩ := R.own p
    obtain ⟨oi, hi1, _, _, hi2, hi3⟩ := R.obj hit
    have nai : a ≠ it := by
      rintro rfl
      rw [hi1] at ha1; cases ha1
      rcases ha2 with z | z
      · exact hi2 z
      · exact hi3 z
    obtain ⟨f0, f1, f2, f3, f4, f5⟩ := hf it (by simp)
    have hl := rv.length
    have hit2 : Ia s.heap it its.toArray.size := by
      have : its.toArray.size = i := by simp; omega
      rw [this]; exact hit
    exact wpAny_pyNext_enum_endD (R.draws (A := X.A.in1) (I.ok.hd hc) it nai its.toArray) he ⟨hit2, p⟩ fun h' eb => ⟨rfl, I.turned (t' := s.toks) (fun b o hb q => eb b o hb q) f0 f1 f3 f4 f5⟩
  self := fun A i s Q E st h => let ⟨⟨_, he⟩, _⟩ := st; wpAny_pyIter_enum he h
end A
end
section
set_option Elab.async false
set_option linter.all false
set_option maxRecDepth 100000
set_option maxHeartbeats 1000000
/-! A11: walks, by values; comprehensions. -/
namespace A
open PySem L2 PyProof.Rows
/-- what is walked: the things at h held, the items xs -/
structure WalkD (N : Nm) (J : L2.It) (h : List (Addr × MO)) (xs : List D) (H0 : Hp) : Prop where
  goes : ∀ i H S, i < xs.length → Dle H0 H → RH N H S → Held h S → J.go i H
  stops : ∀ H S, Dle H0 H → RH N H S → Held h S → J.stop xs.length H
  yields : ∀ i H S v H', i < xs.length → Dle H0 H → RH N H S → Held h S → J.yld i H v H' → ∃ d, xs[i]? = some d ∧ Fr S H S H' ∧ RH N H' S ∧ RD N H' d v
/-- a sequence that stays while h is held -/
def SeqD (N : Nm) (Sq : Hp → List V → Prop) (h : List (Addr × MO)) (xs : List D) (H0 : Hp) : Prop := ∀ H S, Dle H0 H → RH N H S → Held h S → ∃ vs, Sq H vs ∧ RDs N H xs vs
abbrev Wi := Env → Sta → (List (Addr × MO) → List D → Sta → Prop) → Prop
def tI (N : Nm) (Z : Sta × Hp) (w : Wi) : TI := fun σ H R => ∃ (ρ : Env) (S : Sta) (Qi : List (Addr × MO) → List D → Sta → Prop), RS N H σ ρ ∧ RH N H S ∧ Fr Z.1 Z.2 S H ∧ w ρ S Qi ∧
  ∀ h xs S' H' J, Fr S H S' H' → RH N H' S' → WalkD N J h xs H' → Qi h xs S' → R J H'
section
variable {N : Nm} {Z : Sta × Hp} {X : Cx} {S S' S1 : Sta} {H H' H1 H0 : Hp} {Q : VK} {Qh : K} {σ : L2.St} {ρ : Env} {pos p tpos : Pos} {a b c e o tg : Expr} {wa wb wc : Wp} {ws : Wps} {es elts : List Expr} {kk : Nat} {ad bd : Addr} {h h2 : List (Addr × MO)} {xs ys : List D}
theorem piimp {it : Expr} {t t' : TI} (h : PI X tg it t) (i : ∀ σ H R, t' σ H R → t σ H R) : PI X tg it t' := ⟨fun pins s σ H R I q => h.run pins s σ H R I (i σ H R q)⟩
theorem seq_lst (e : S1 ad = some (.lst xs)) : SeqD N (fun H vs => SqL N.K H ad vs) [(ad, .lst xs)] xs H0 := fun H S _ rh hh => by
  obtain ⟨vs, h1, r1⟩ := at_lst rh (hh (ad, .lst xs) (by simp))
  exact ⟨vs, SqL.of h1, r1⟩
theorem seq_lis (r : RD N H0 (.lis xs) (.ref ad)) : SeqD N (fun H vs => SqL N.K H ad vs) h xs H0 := fun H S f _ _ => by
  obtain ⟨a, vs, e, h1, r1⟩ := rd_lis (RD.mono f _ _ r)
  cases e
  exact ⟨vs, h1, r1⟩
theorem seq_tup (r : RD N H0 (.tup xs) (.ref ad)) : SeqD N (fun H vs => SqT N.K H ad vs) h xs H0 := fun H S f _ _ => by
  obtain ⟨a, vs, e, h1, r1⟩ := rd_tup (RD.mono f _ _ r)
  cases e
  exact ⟨vs, h1, r1⟩
theorem rds_ix {i : Nat} {vs : List V} (r : RDs N H xs vs) (hi : i < xs.length) : ∃ d v, xs[i]? = some d ∧ vs[i]? = some v ∧ RD N H d v := by
  obtain ⟨v, e, r'⟩ := r.get (List.getElem?_eq_getElem hi)
  exact ⟨_, v, List.getElem?_eq_getElem hi, e, r'⟩
theorem walkL (q : SeqD N (fun H vs => SqL N.K H ad vs) h xs H0) : WalkD N (Itl N.K ad) h xs H0 where
  goes := fun i H S hi f rh hh => by
    obtain ⟨vs, h1, r⟩ := q H S f rh hh
    obtain ⟨d, v, _, e, _⟩ := rds_ix r hi
    exact ⟨vs, v, h1, e⟩
  stops := fun H S f rh hh => by
    obtain ⟨vs, h1, r⟩ := q H S f rh hh
    exact ⟨vs, h1, by rw [r.length]; exact Nat.le_refl _⟩
  yields := fun i H S v H' hi f rh hh y => by
    obtain ⟨vs, h1, r⟩ := q H S f rh hh
    obtain ⟨e, y⟩ := y
    subst e
    obtain ⟨d, v', e1, e2, r'⟩ := rds_ix r hi
    have := y vs h1
    rw [e2] at this; cases this
    exact ⟨d, e1, Fr.refl, rh, r'⟩
theorem walkT (q : SeqD N (fun H vs => SqT N.K H ad vs) h xs H0) : WalkD N (Itt N.K ad) h xs H0 where
  goes := fun i H S hi f rh hh => by
    obtain ⟨vs, h1, r⟩ := q H S f rh hh
    obtain ⟨d, v, _, e, _⟩ := rds_ix r hi
    exact ⟨vs, v, h1, e⟩
  stops := fun H S f rh hh => by
    obtain ⟨vs, h1, r⟩ := q H S f rh hh
    exact ⟨vs, h1, by rw [r.length]; exact Nat.le_refl _⟩
  yields := fun i H S v H' hi f rh hh y => by
    obtain ⟨vs, h1, r⟩ := q H S f rh hh
    obtain ⟨e, y⟩ := y
    subst e
    obtain ⟨d, v', e1, e2, r'⟩ := rds_ix r hi
    have := y vs h1
    rw [e2] at this; cases this
    exact ⟨d, e1, Fr.refl, rh, r'⟩
theorem enumF_len : ∀ (l : List D) (c : Int), (enumF c l).length = l.length
  | [], _ => rfl
  | x :: r, c => by rw [enumF, List.length_cons, List.length_cons, enumF_len r]
theorem enumF_get : ∀ (l : List D) (c : Int) (i : Nat) (d : D), l[i]? = some d → (enumF c l)[i]? = some (.tup [.int (c + (i : Nat)), d])
  | [], _, _, _, h => by simp at h
  | x :: r, c, 0, d, h => by simp at h; subst h; simp [enumF]
  | x :: r, c, i + 1, d, h => by
    rw [enumF, List.getElem?_cons_succ, enumF_get r (c + 1) i d (by simpa using h)]
    have : c + 1 + (i : Nat) = c + ((i + 1 : Nat) : Int) := by omega
    rw [this]
theorem walkG {Sq : Hp → List V → Prop} {c0 : Int} (q : SeqD N Sq h xs H0) : WalkD N (ItG Sq c0) h (enumF c0 xs) H0 where
  goes := fun i H S hi f rh hh => by
    rw [enumF_len] at hi
    obtain ⟨vs, h1, r⟩ := q H S f rh hh
    obtain ⟨d, v, _, e, _⟩ := rds_ix r hi
    exact ⟨vs, v, h1, e⟩
  stops := fun H S f rh hh => by
    obtain ⟨vs, h1, r⟩ := q H S f rh hh
    exact ⟨vs, h1, by rw [enumF_len, r.length]⟩
  yields := fun i H S v H' hi f rh hh y => by
    rw [enumF_len] at hi
    obtain ⟨vs, h1, r⟩ := q H S f rh hh
    obtain ⟨T, x, rfl, hn, rfl, y⟩ := y
    obtain ⟨d, v', e1, e2, r'⟩ := rds_ix r hi
    have := y vs h1
    rw [e2] at this; cases this
    exact ⟨_, enumF_get xs c0 i d e1, Fr.skip hn, rh.skip hn, mk_tup (SqT.of L2.upd_same) (.cons mk_int (.cons (RD.mono (dle_new hn) _ _ r') .nil))⟩
theorem zipD_len : ∀ (l m : List D), (zipD l m).length = min l.length m.length
  | [], m => by simp [zipD]
  | x :: r, [] => by simp [zipD]
  | x :: r, y :: t => by rw [zipD, List.length_cons, List.length_cons, List.length_cons, zipD_len r t]; omega
theorem zipD_get : ∀ (l m : List D) (i : Nat) (d e : D), l[i]? = some d → m[i]? = some e → (zipD l m)[i]? = some (.tup [d, e])
  | [], _, _, _, _, h, _ => by simp at h
  | x :: r, [], _, _, _, _, h => by simp at h
  | x :: r, y :: t, 0, d, e, h, h' => by simp at h h'; subst h h'; simp [zipD]
  | x :: r, y :: t, i + 1, d, e, h, h' => by
    rw [zipD, List.getElem?_cons_succ]
    exact zipD_get r t i d e (by simpa using h) (by simpa using h')
theorem Held.left {h1 h2 : List (Addr × MO)} (x : Held (h1 ++ h2) S) : Held h1 S := fun p hp => x p (List.mem_append_left _ hp)
theorem Held.right {h1 h2 : List (Addr × MO)} (x : Held (h1 ++ h2) S) : Held h2 S := fun p hp => x p (List.mem_append_right _ hp)
theorem walkZ (q : SeqD N (fun H vs => SqL N.K H ad vs) h xs H0) (q2 : SeqD N (fun H vs => SqL N.K H bd vs) h2 ys H0) : WalkD N (Itz N.K ad bd) (h ++ h2) (zipD xs ys) H0 where
  goes := fun i H S hi f rh hh => by
    rw [zipD_len] at hi
    obtain ⟨vs, g1, r⟩ := q H S f rh hh.left
    obtain ⟨us, g2, r2⟩ := q2 H S f rh hh.right
    obtain ⟨d, v, _, e, _⟩ := rds_ix r (by omega : i < xs.length)
    obtain ⟨d', v', _, e', _⟩ := rds_ix r2 (by omega : i < ys.length)
    exact ⟨vs, us, v, v', g1, g2, e, e'⟩
  stops := fun H S f rh hh => by
    obtain ⟨vs, g1, r⟩ := q H S f rh hh.left
    obtain ⟨us, g2, r2⟩ := q2 H S f rh hh.right
    refine ⟨vs, us, g1, g2, ?_⟩
    rw [zipD_len, ← r.length, ← r2.length]
    omega
  yields := fun i H S v H' hi f rh hh y => by
    rw [zipD_len] at hi
    obtain ⟨vs, g1, r⟩ := q H S f rh hh.left
    obtain ⟨us, g2, r2⟩ := q2 H S f rh hh.right
    obtain ⟨T, x, y', rfl, hn, rfl, y1, y2⟩ := y
    obtain ⟨d, v, e1, e2, r'⟩ := rds_ix r (by omega : i < xs.length)
    obtain ⟨d', v', e1', e2', r''⟩ := rds_ix r2 (by omega : i < ys.length)
    have z1 := y1 vs g1
    rw [e2] at z1; cases z1
    have z2 := y2 us g2
    rw [e2'] at z2; cases z2
    exact ⟨_, zipD_get xs ys i d d' e1 e1', Fr.skip hn, rh.skip hn, mk_tup (SqT.of L2.upd_same) (.cons (RD.mono (dle_new hn) _ _ r') (.cons (RD.mono (dle_new hn) _ _ r'') .nil))⟩
theorem walkZT (q : SeqD N (fun H vs => SqT N.K H ad vs) h xs H0) (q2 : SeqD N (fun H vs => SqT N.K H bd vs) h2 ys H0) : WalkD N (RZ.ItzT N.K ad bd) (h ++ h2) (zipD xs ys) H0 where
  goes := fun i H S hi f rh hh => by
    rw [zipD_len] at hi
    obtain ⟨vs, g1, r⟩ := q H S f rh hh.left
    obtain ⟨us, g2, r2⟩ := q2 H S f rh hh.right
    obtain ⟨d, v, _, e, _⟩ := rds_ix r (by omega : i < xs.length)
    obtain ⟨d', v', _, e', _⟩ := rds_ix r2 (by omega : i < ys.length)
    exact ⟨vs, us, v, v', g1, g2, e, e'⟩
  stops := fun H S f rh hh => by
    obtain ⟨vs, g1, r⟩ := q H S f rh hh.left
    obtain ⟨us, g2, r2⟩ := q2 H S f rh hh.right
    refine ⟨vs, us, g1, g2, ?_⟩
    rw [zipD_len, ← r.length, ← r2.length]
    omega
  yields := fun i H S v H' hi f rh hh y => by
    rw [zipD_len] at hi
    obtain ⟨vs, g1, r⟩ := q H S f rh hh.left
    obtain ⟨us, g2, r2⟩ := q2 H S f rh hh.right
    obtain ⟨T, x, y', rfl, hn, rfl, y1, y2⟩ := y
    obtain ⟨d, v, e1, e2, r'⟩ := rds_ix r (by omega : i < xs.length)
    obtain ⟨d', v', e1', e2', r''⟩ := rds_ix r2 (by omega : i < ys.length)
    have z1 := y1 vs g1
    rw [e2] at z1; cases z1
    have z2 := y2 us g2
    rw [e2'] at z2; cases z2
    exact ⟨_, zipD_get xs ys i d d' e1 e1', Fr.skip hn, rh.skip hn, mk_tup (SqT.of L2.upd_same) (.cons (RD.mono (dle_new hn) _ _ r') (.cons (RD.mono (dle_new hn) _ _ r'') .nil))⟩
theorem walkR {n : Nat} : WalkD N (Itr 0 n) [] ((List.range n).map fun (i : Nat) => .int i) H0 where
  goes := fun i H S hi f rh hh => by
    rw [List.length_map, List.length_range] at hi
    exact hi
  stops := fun H S f rh hh => by
    rw [List.length_map, List.length_range]
    exact Nat.le_refl n
  yields := fun i H S v H' hi f rh hh y => by
    rw [List.length_map, List.length_range] at hi
    obtain ⟨rfl, rfl⟩ := y
    refine ⟨.int i, by simp [hi], Fr.refl, rh, ?_⟩
    rw [Int.zero_add]
    exact mk_int
theorem walkS {z : Str} : WalkD N (Its z) [] (z.cps.toList.map fun c => .str ⟨#[c]⟩) H0 where
  goes := fun i H S hi f rh hh => by
    rw [List.length_map, Array.length_toList] at hi
    exact hi
  stops := fun H S f rh hh => by
    rw [List.length_map, Array.length_toList]
    exact Nat.le_refl z.cps.size
  yields := fun i H S v H' hi f rh hh y => by
    obtain ⟨rfl, c, hc, rfl⟩ := y
    exact ⟨.str ⟨#[c]⟩, by simp [hc], Fr.refl, rh, mk_str⟩

/-! ### the iterators come -/
theorem iterV_list {pins : List (Addr × Obj)} {s : Shared} {vs : List V} {R : L2.It → Hp → Prop} (I : Inv X pins σ H s) (hq : SqL X.K H ad vs) (q : R (Itl X.K ad) H) : wpAny (model X.prog X.w) X.A (pyIter (.ref ad)) (PIE X pins σ tg R) X.xe s := by
  obtain ⟨its, rv, pl, hz⟩ := I.list hq
  refine wpAny_pyIter_list pl.isList ⟨s.heap.objs.size, [s.heap.objs.size], _, _, H, rfl, I.kept (t' := s.toks) fun b o e => Heap.get?_push_of_some _ e, turn_list ad _, ⟨_, Heap.get?_push_size _ rfl, rfl, rfl⟩, fun b hb => ?_, q⟩
  obtain rfl : b = s.heap.objs.size := by simpa using hb
  exact I.fpOk (Nat.le_refl _) (I.hok.fresh (Nat.le_refl _))
theorem iterV_tup {pins : List (Addr × Obj)} {s : Shared} {vs : List V} {R : L2.It → Hp → Prop} (I : Inv X pins σ H s) (hq : SqT X.K H ad vs) (q : R (Itt X.K ad) H) : wpAny (model X.prog X.w) X.A (pyIter (.ref ad)) (PIE X pins σ tg R) X.xe s := by
  obtain ⟨its, rv, pl, hz⟩ := I.tuple hq
  refine wpAny_pyIter_tuple (show s.heap.IsTuple ad its.toArray from pl) ⟨s.heap.objs.size, [s.heap.objs.size], _, _, H, rfl, I.kept (t' := s.toks) fun b o e => Heap.get?_push_of_some _ e, turn_tuple ad _, ⟨_, Heap.get?_push_size _ rfl, rfl, rfl⟩, fun b hb => ?_, q⟩
  obtain rfl : b = s.heap.objs.size := by simpa using hb
  exact I.fpOk (Nat.le_refl _) (I.hok.fresh (Nat.le_refl _))
end
end A
end
section
set_option Elab.async false
set_option linter.all false
set_option maxRecDepth 100000
set_option maxHeartbeats 1000000
/-! A12: iterables, comprehensions. -/
namespace A
open PySem L2 PyProof.Rows
section
variable {N : Nm} {Z : Sta × Hp} {X : Cx} {S S' S1 : Sta} {H H' H1 H0 : Hp} {Q : VK} {Qh : K} {σ : L2.St} {ρ : Env} {pos p tpos : Pos} {a b c e o tg : Expr} {wa wb wc : Wp} {ws : Wps} {es elts : List Expr} {kk : Nat} {ad bd : Addr} {h h2 : List (Addr × MO)} {xs ys : List D}

/-- for x in e -/
def hSeq (wa : Wp) : Wi := fun ρ S Q => wa ρ S fun x S1 => ∃ xs, items S1 x = some xs ∧ Q (holds S1 x) xs S1
theorem items_at (rh : RH N H S) {x : D} {v : V} {xs : List D} (r : RD N H x v) (e : items S x = some xs) :
    (∃ a vs, v = .ref a ∧ SqL N.K H a vs ∧ SeqD N (fun H vs => SqL N.K H a vs) (holds S x) xs H) ∨ (∃ a vs, v = .ref a ∧ SqT N.K H a vs ∧ SeqD N (fun H vs => SqT N.K H a vs) (holds S x) xs H ∧ x = .tup xs) ∨ ∃ z : Str, v = .str z ∧ holds S x = [] ∧ xs = z.cps.toList.map fun c => .str ⟨#[c]⟩ := by
  cases x with
  | tup l => cases e; obtain ⟨a, vs, rfl, h1, r1⟩ := rd_tup r; exact .inr (.inl ⟨a, vs, rfl, h1, seq_tup r, rfl⟩)
  | lis l => cases e; obtain ⟨a, vs, rfl, h1, r1⟩ := rd_lis r; exact .inl ⟨a, vs, rfl, h1, seq_lis r⟩
  | str z => cases e; cases rd_str r; exact .inr (.inr ⟨z, rfl, rfl, rfl⟩)
  | ref a =>
    cases rd_ref r
    simp only [items] at e
    cases ea : S a with
    | none => rw [ea] at e; cases e
    | some ob =>
      rw [ea] at e
      cases ob with
      | lst l =>
        cases e
        obtain ⟨vs, h1, r1⟩ := at_lst rh ea
        have hh : holds S (.ref a) = [(a, .lst xs)] := by simp only [holds, ea]
        rw [hh]
        exact .inl ⟨a, vs, rfl, SqL.of h1, seq_lst ea⟩
      | _ => cases e
  | _ => cases e
theorem hi_seq (hK : N.K = X.K) (ha : PE X e (tOf N Z wa)) : PI X tg e (tI N Z (hSeq wa)) := by
  refine ⟨fun pins s σ H R I ⟨ρ, S, Qi, rs, rh, fz, w, k⟩ => ?_⟩
  refine thn (ha.run pins s σ H (fun x H1 => (∃ a vs, x = .ref a ∧ SqL X.K H1 a vs ∧ R (Itl X.K a) H1) ∨ (∃ a vs, x = .ref a ∧ SqT X.K H1 a vs ∧ R (Itt X.K a) H1) ∨ ∃ z, x = .str z ∧ R (Its z) H1) I ⟨ρ, S, _, rs, rh, fz, w, fun d S1 v H1 f h1 r ⟨xs, e, q⟩ => ?_⟩) fun v s1 hv => ?_
  · rcases items_at h1 r e with ⟨a, vs, rfl, g1, g2⟩ | ⟨a, vs, rfl, g1, g2, _⟩ | ⟨z, rfl, g1, g2⟩
    · exact .inl ⟨a, vs, rfl, hK ▸ g1, hK ▸ k _ _ _ _ _ f h1 (walkL g2) q⟩
    · exact .inr (.inl ⟨a, vs, rfl, hK ▸ g1, hK ▸ k _ _ _ _ _ f h1 (walkT g2) q⟩)
    · rw [g1, g2] at q
      exact .inr (.inr ⟨z, rfl, k _ _ _ _ _ f h1 walkS q⟩)
  · obtain ⟨x, H1, I1, r1, hx⟩ := hv
    rcases hx with ⟨a, vs, rfl, g, q⟩ | ⟨a, vs, rfl, g, q⟩ | ⟨z, rfl, q⟩
    · cases r1; exact iterV_list I1 g q
    · cases r1; exact iterV_tup I1 g q
    · obtain ⟨t, rfl⟩ := r1
      cases ha : z.cps.all (· < 128)
      · exact wpAny_pyIter_wide ha (pi_one (tk := s1.toks) I1 _ (turn_str _ z t "str_iterator" (.inr rfl)) ⟨_, Heap.get?_push_size _ rfl, rfl, rfl⟩ q)
      · exact wpAny_pyIter_ascii ha (pi_one (tk := s1.toks) I1 _ (turn_str _ z t "str_ascii_iterator" (.inl rfl)) ⟨_, Heap.get?_push_size _ rfl, rfl, rfl⟩ q)
/-- for i in range(e) -/
def hRng (wa : Wp) : Wi := fun ρ S Q => wa ρ S fun x S1 => match x with
    | .int n => -(2 ^ 62) ≤ n ∧ n < 2 ^ 62 ∧ Q [] ((List.range n.toNat).map fun (i : Nat) => .int i) S1
    | _ => False
theorem hi_rng (hg : Gl X "range") (hm : X.mg "range" = none) (ha : PE X e (tOf N Z wa)) (pl : plainA e = true) : PI X tg (.Call (.Name "range" p) [e] [] pos) (tI N Z (hRng wa)) :=
  piimp (pi_range1 hg hm (pa_cons ha pa_nil (starEach_plain _ pl)) (starEach_plain _ pl)) fun σ H R ⟨ρ, S, Qi, rs, rh, fz, w, k⟩ => ⟨ρ, S, _, rs, rh, fz, w, fun d S1 v H1 f h1 r q => by
    cases d with
    | int n =>
      cases rd_int r
      exact ⟨n, rfl, q.1, q.2.1, k _ _ _ _ _ f h1 walkR q.2.2⟩
    | _ => exact False.elim q⟩
/-- for i, x in enumerate(e) -/
def hEnm (wa : Wp) (st : Int) : Wi := fun ρ S Q => wa ρ S fun x S1 => ∃ xs, itemsT S1 x = some xs ∧ Q (holds S1 x) (enumF st xs) S1
theorem itemsT_items {x : D} {xs : List D} (e : itemsT S x = some xs) : items S x = some xs ∧ ∀ z, x ≠ .str z := by
  cases x with
  | tup l => exact ⟨e, fun _ z => nomatch z⟩
  | lis l => exact ⟨e, fun _ z => nomatch z⟩
  | ref a => exact ⟨e, fun _ z => nomatch z⟩
  | _ => cases e
theorem boot_enum : bootBuiltins "enumerate" = some (.type "enumerate") := by decide +kernel
theorem hi_enm (hK : N.K = X.K) (hg : Gl X "enumerate") (hm : X.mg "enumerate" = none) (ha : PE X e (tOf N Z wa)) (pl : plainA e = true) : PI X (.Tuple elts kk tpos) (.Call (.Name "enumerate" p) [e] [] pos) (tI N Z (hEnm wa 0)) := by
  refine ⟨fun pins s σ H R I ⟨ρ, S, Qi, rs, rh, fz, w, k⟩ => ?_⟩
  have hA := (pa_cons ha pa_nil (starEach_plain X.env pl)).run pos pins s σ H (fun vs H1 => ∃ a ys Sq Ia Ow ob, ∃ _ : Src X.K a Sq Ia Ow ob, vs = [.ref a] ∧ Sq H1 ys ∧ R (ItG Sq 0) H1) I ⟨ρ, S, _, rs, rh, fz, w, fun d S1 v H1 f h1 r ⟨xs, e, q⟩ => ?_⟩
  · refine Call_ (ld_blt I hg hm boot_enum (PyProof.Rows.callWith_type1 (thn hA fun us s1 ⟨vs, H1, I1, r1, q1⟩ => ?_) (starEach_plain X.env pl) rfl))
    obtain ⟨a, ys, Sq, Ia, Ow, ob, src, rfl, hq, q⟩ := q1
    obtain ⟨u, rfl, ru⟩ := vals1 r1
    cases ru
    obtain ⟨its, rv, pw⟩ := src.at_ rfl I1 hq
    refine call_enum1 (src.begins its.toArray) pw fun h' he hit hk => wpAny_pyIter_enum he ?_
    have I2 : Inv X pins σ H1 { s1 with heap := h' } := I1.kept (t' := s1.toks) hk
    refine ⟨s1.heap.objs.size + 1, [s1.heap.objs.size + 1, s1.heap.objs.size], _, _, H1, rfl, I2, turn_enumG (c0 := 0) (e := s1.heap.objs.size + 1) (it := s1.heap.objs.size) src, ⟨⟨.none, he⟩, src.first hit, Nat.succ_ne_self _⟩, fun b hb => ?_, q⟩
    have hle : s1.heap.objs.size ≤ b := by
      simp only [List.mem_cons, List.not_mem_nil, or_false] at hb
      rcases hb with rfl | rfl
      · exact Nat.le_add_right _ _
      · exact Nat.le_refl _
    exact I1.fpOk hle (I1.hok.fresh hle)
  · obtain ⟨e1, ns⟩ := itemsT_items e
    rcases items_at h1 r e1 with ⟨a, vs, rfl, g1, g2⟩ | ⟨a, vs, rfl, g1, g2, _⟩ | ⟨z, rfl, g1, g2⟩
    · exact ⟨a, vs, _, _, _, _, src_list X.K a, rfl, hK ▸ g1, k _ _ _ _ _ f h1 (walkG (hK ▸ g2)) q⟩
    · exact ⟨a, vs, _, _, _, _, src_tup X.K a, rfl, hK ▸ g1, k _ _ _ _ _ f h1 (walkG (hK ▸ g2)) q⟩
    · cases d with
      | str z' => exact absurd rfl (ns z')
      | tup l => obtain ⟨_, _, z, _⟩ := rd_tup r; cases z
      | lis l => obtain ⟨_, _, z, _⟩ := rd_lis r; cases z
      | ref a => cases rd_ref r
      | _ => cases e
/-- for x, y in zip(a, b) -/
def hZip (wa wb : Wp) : Wi := fun ρ S Q => wa ρ S fun x S1 => wb ρ S1 fun y S2 => ∃ xs ys, both S2 x y xs ys ∧ Q (holds S2 x ++ holds S2 y) (zipD xs ys) S2
theorem itemsL_seq (rh : RH N H S) {x : D} {v : V} {xs : List D} (r : RD N H x v) (e : itemsL S x = some xs) : ∃ a vs, v = .ref a ∧ SqL N.K H a vs ∧ SeqD N (fun H vs => SqL N.K H a vs) (holds S x) xs H := by
  have e1 : items S x = some xs := by
    cases x with
    | lis l => exact e
    | ref a => exact e
    | _ => cases e
  rcases items_at rh r e1 with h | ⟨_, _, _, _, _, rfl⟩ | ⟨z, rfl, _, _⟩
  · exact h
  · cases e
  · cases x with
    | lis l => obtain ⟨_, _, z, _⟩ := rd_lis r; cases z
    | ref a => cases rd_ref r
    | _ => cases e
theorem hi_zip (hK : N.K = X.K) (hg : Gl X "zip") (hm : X.mg "zip" = none) (ha : PE X a (tOf N Z wa)) (hb : PE X b (tOf N Z wb)) (pl : plainA a = true) (pl2 : plainA b = true) : PI X (.Tuple elts kk tpos) (.Call (.Name "zip" p) [a, b] [] pos) (tI N Z (hZip wa wb)) := by
  refine piimp (RZ.pi_zipA hg hm (pa_cons ha (pa_cons hb pa_nil (starEach_plain X.env pl2)) (starEach_plain X.env pl)) (starEach_plain X.env pl) (star_none X.env (by rw [List.all_cons, pl2]; rfl))) fun σ H R ⟨ρ, S, Qi, rs, rh, fz, w, k⟩ => ?_
  refine ⟨ρ, S, _, rs, rh, fz, w, fun x S1 v H1 f h1 r q => ⟨ρ, S1, _, rs.mono (f.dle rh), h1, fz.trans f, q, fun y S2 u H2 f2 h2 r2 ⟨xs, ys, bo, q2⟩ => ?_⟩⟩
  have rx := RD.mono (f2.dle h1) _ _ r
  rcases bo with ⟨e1, e2⟩ | ⟨rfl, rfl⟩
  · obtain ⟨a, vs, rfl, g1, g2⟩ := itemsL_seq h2 rx e1
    obtain ⟨b, us, rfl, g3, g4⟩ := itemsL_seq h2 r2 e2
    exact ⟨a, b, vs, us, rfl, .inl ⟨hK ▸ g1, hK ▸ g3, hK ▸ k _ _ _ _ _ (f.trans f2) h2 (walkZ g2 g4) q2⟩⟩
  · obtain ⟨a, vs, rfl, g1, g2⟩ := rd_tup rx
    obtain ⟨b, us, rfl, g3, g4⟩ := rd_tup r2
    exact ⟨a, b, vs, us, rfl, .inr ⟨hK ▸ g1, hK ▸ g3, hK ▸ k _ _ _ _ _ (f.trans f2) h2 (walkZT (h := []) (h2 := []) (seq_tup rx) (seq_tup r2)) q2⟩⟩
end
end A
end
section
set_option Elab.async false
set_option linter.all false
set_option maxRecDepth 100000
set_option maxHeartbeats 1000000
/-! A13: comprehensions. -/
namespace A
open PySem L2 PyProof.Rows
section
variable {N : Nm} {Z : Sta × Hp} {X : Cx} {S S' S1 : Sta} {H H' H1 H0 : Hp} {Q : VK} {Qh : K} {σ : L2.St} {ρ : Env} {pos p tpos : Pos} {a b c e o tg iter elt : Expr} {wa wb wc wcond welt : Wp} {wi : Wi} {ad bd : Addr} {xs ys : List D} {is vs : List Nat}

/-! ### slots -/
theorem wipe_in {i : Nat} : ∀ {vs : List Nat}, i ∈ vs → ∀ {σ : L2.St}, (wipe σ vs)[i]? = if i < σ.length then some none else none
  | [], h, _ => by simp at h
  | v :: vs, h, σ => by
    unfold wipe
    have hl := wipe_length σ vs
    by_cases e : v = i
    · subst e
      by_cases hv : v < σ.length
      · rw [List.getElem?_set_self (by rw [hl]; exact hv), if_pos hv]
      · rw [List.getElem?_eq_none (by rw [List.length_set, hl]; omega), if_neg hv]
    · rw [List.getElem?_set_ne e]
      exact wipe_in ((List.mem_cons.mp h).resolve_left fun z => e z.symm)
theorem wipe_eq {σ2 : L2.St} (hl : σ2.length = σ.length) (h : ∀ j, j ∉ vs → σ2[j]? = σ[j]?) : wipe σ2 vs = wipe σ vs := by
  refine List.ext_getElem? fun j => ?_
  by_cases hj : j ∈ vs
  · rw [wipe_in hj, wipe_in hj, hl]
  · rw [wipe_out hj, wipe_out hj, h j hj]
theorem RS.wipe (rs : RS N H σ ρ) : ∀ vs : List Nat, RS N H (wipe σ vs) (wipeD ρ vs)
  | [] => rs
  | v :: vs => (RS.wipe rs vs).unset v

/-! ### targets of names -/
def gNs : List Nat → TGs
  | [] => gNil
  | i :: is => gCons (gName i) (gNs is)
def gT (K : PySem.W.Frag) : List Nat → TG
  | [i] => gName i
  | is => gTup K is.length (gNs is)
def setNV (σ : L2.St) : List Nat → List V → L2.St
  | i :: is, v :: vs => setNV (σ.set i (some v)) is vs
  | _, _ => σ
theorem setNV_len : ∀ {is : List Nat} {vs : List V} {σ : L2.St}, (setNV σ is vs).length = σ.length
  | [], _, _ => by unfold setNV; rfl
  | _ :: _, [], _ => rfl
  | i :: is, v :: vs, σ => by rw [setNV, setNV_len, List.length_set]
theorem setNV_out {j : Nat} : ∀ {is : List Nat} {vs : List V} {σ : L2.St}, j ∉ is → (setNV σ is vs)[j]? = σ[j]?
  | [], _, _, _ => by unfold setNV; rfl
  | _ :: _, [], _, _ => rfl
  | i :: is, v :: vs, σ, h => by
    simp only [List.mem_cons, not_or] at h
    rw [setNV, setNV_out h.2, List.getElem?_set_ne (Ne.symm h.1)]
theorem RS.setN : ∀ {is : List Nat} {ds : List D} {vs : List V} {σ : L2.St} {ρ : Env}, RS N H σ ρ → RDs N H ds vs → RS N H (setNV σ is vs) (setN ρ is ds)
  | [], ds, vs, σ, ρ, rs, r => by unfold setNV A.setN; exact rs
  | i :: is, [], vs, σ, ρ, rs, r => by rw [r.unnil]; exact rs
  | i :: is, d :: ds, vs, σ, ρ, rs, r => by
    obtain ⟨v, t, rfl, h1, h2⟩ := r.uncons
    rw [setNV, A.setN]
    exact RS.setN (rs.set i h1) h2
theorem gNs_at {Qg : L2.St → Hp → Prop} : ∀ {is : List Nat} {vs : List V} {σ : L2.St}, vs.length = is.length → Qg (setNV σ is vs) H → gNs is vs σ H Qg
  | [], [], σ, _, q => ⟨rfl, q⟩
  | [], _ :: _, _, h, _ => by simp at h
  | _ :: _, [], _, h, _ => by simp at h
  | i :: is, v :: vs, σ, h, q => ⟨v, vs, rfl, gNs_at (by simpa using h) q⟩
theorem tg_at (hK : N.K = X.K) {d : D} {v : V} {Qr : Env → Prop} (rs : RS N H σ ρ) (r : RD N H d v) (w : wtgN is d ρ Qr) :
    ∃ σ2 ρ2, RS N H σ2 ρ2 ∧ Qr ρ2 ∧ (∀ j, j ∉ is → σ2[j]? = σ[j]?) ∧ σ2.length = σ.length ∧ ∀ Qg : L2.St → Hp → Prop, Qg σ2 H → gT X.K is v σ H Qg := by
  have many : ∀ is : List Nat, (∀ Qg, gTup X.K is.length (gNs is) v σ H Qg → gT X.K is v σ H Qg) → (∃ l, d = .tup l ∧ l.length = is.length ∧ Qr (A.setN ρ is l)) → ∃ σ2 ρ2, RS N H σ2 ρ2 ∧ Qr ρ2 ∧ (∀ j, j ∉ is → σ2[j]? = σ[j]?) ∧ σ2.length = σ.length ∧ ∀ Qg : L2.St → Hp → Prop, Qg σ2 H → gT X.K is v σ H Qg := fun is hg ⟨l, e, w1, w2⟩ => by
    subst e
    obtain ⟨a, vs, rfl, h1, r1⟩ := rd_tup r
    exact ⟨setNV σ is vs, A.setN ρ is l, rs.setN r1, w2, fun j hj => setNV_out hj, setNV_len, fun Qg q => hg Qg ⟨a, vs, rfl, hK ▸ h1, r1.length ▸ w1, gNs_at (r1.length ▸ w1) q⟩⟩
  have tup : ∀ is : List Nat, (∀ i, is ≠ [i]) → wtgN is d ρ Qr → ∃ l, d = .tup l ∧ l.length = is.length ∧ Qr (A.setN ρ is l) := fun is hn w => by
    unfold wtgN at w
    split at w
    · exact absurd rfl (hn _)
    · cases d with
      | tup l => exact ⟨l, rfl, w.1, w.2⟩
      | _ => exact (False.elim w)
  match is, w with
  | [], w => exact many [] (fun _ q => q) (tup _ (fun _ z => nomatch z) w)
  | [i], w =>
    refine ⟨σ.set i (some v), ρ.set i (some d), rs.set i r, w, fun j hj => ?_, by rw [List.length_set], fun Qg q => q⟩
    rw [List.getElem?_set_ne (fun z => hj (by simp [z]))]
  | i :: j :: is, w => exact many (i :: j :: is) (fun _ q => q) (tup _ (fun _ z => by simp at z) w)

/-! ### frames with a private list -/
theorem RH.priv (r : RH N H S) {q : Addr} {u o : HO} (n : S q = none) (h : H q = some u) (d : Deep u = false) : RH N (upd H q o) S := fun a m e => (r a m e).mono (dle_put h d) (L2.upd_ne (sne e n))
theorem RH.tell (r : RH N H S) {q : Addr} {m : MO} (hm : RO N H q m) : RH N H (ups S q m) := fun a u e => by
  by_cases z : a = q
  · subst z; rw [ups_same] at e; cases e; exact hm
  · rw [ups_ne z] at e; exact r a u e
theorem Fr.tell {q : Addr} {m : MO} (f : Fr S H S1 H1) (n : ∀ a o, H a = some o → S a = none → a ≠ q) : Fr S H (ups S1 q m) H1 := fun a o h s => by
  obtain ⟨h1, s1⟩ := f a o h s
  exact ⟨h1, by rw [ups_ne (n a o h s)]; exact s1⟩
theorem Fr.priv {q : Addr} {o : HO} (f : Fr S H S1 H1) (n : H q = none) : Fr S H S1 (upd H1 q o) := fun a u h s => by
  obtain ⟨h1, s1⟩ := f a u h s
  exact ⟨by rw [L2.upd_ne (L2.ne_of_none h n)]; exact h1, s1⟩

def hLc (wi : Wi) (is own : List Nat) (wcond welt : Wp) : Wp := fun ρ S Q => wi ρ S fun h xs S1 =>
  wcomp h (fun x S2 R => wtgN is x (wipeD ρ own) fun ρ1 => wcond ρ1 S2 fun y S3 => wtru S3 y fun b => if b = true then welt ρ1 S3 fun d S4 => R (some d) S4 else R none S3) xs [] S1
    fun ds S5 => ∀ p, S5 p = none → Q (.ref p) (ups S5 p (.lst ds))
theorem lc_at (hK : N.K = X.K) (hsub : ∀ i ∈ is, i ∈ vs) (σ : L2.St) (H : Hp) (Q : VK) (t : tOf N Z (hLc wi is vs wcond welt) σ H Q) : tLc (tI N Z wi) (gT X.K is) (tT N Z wcond) (tOf N Z welt) vs σ H Q := by
  obtain ⟨ρ, S, Qh, rs, rh, fz, w, k⟩ := t
  refine ⟨ρ, S, _, rs, rh, fz, w, fun h xs S1 H1 J f1 h1 wk q1 => ?_⟩
  intro L hL
  generalize hF : (fun (x : D) (S2 : Sta) (R : Option D → Sta → Prop) => wtgN is x (wipeD ρ vs) fun ρ1 => wcond ρ1 S2 fun y S3 => wtru S3 y fun b => if b = true then welt ρ1 S3 fun d S4 => R (some d) S4 else R none S3) = F at q1
  generalize hP : (fun (ds : List D) (S5 : Sta) => ∀ p, S5 p = none → Qh (.ref p) (ups S5 p (.lst ds))) = P at q1
  refine ⟨fun i m H2 => m = xs.length - i ∧ i ≤ xs.length ∧ ∃ S2 acc vacc, Dle H1 H2 ∧ Fr S1 H1 S2 H2 ∧ RH N H2 S2 ∧ S2 L = none ∧ H2 L = some (.lst vacc) ∧ RDs N H2 acc vacc ∧ wcomp h F (xs.drop i) acc S2 P,
    ⟨xs.length, by simp, Nat.zero_le _, S1, [], [], dle_new hL, Fr.skip hL, h1.skip hL, h1.fresh hL, L2.upd_same, .nil, q1⟩, ?_⟩
  rintro i m H2 ⟨rfl, hi, S2, acc, vacc, dl, f2, h2, nL, eL, ra, wc⟩
  by_cases hlt : i < xs.length
  · rw [List.drop_eq_getElem_cons hlt, wcomp] at wc
    obtain ⟨hh, wc⟩ := wc
    refine .inr ⟨wk.goes i H2 S2 hlt dl h2 hh, fun H2 => ∃ S2 acc vacc, Dle H1 H2 ∧ Fr S1 H1 S2 H2 ∧ RH N H2 S2 ∧ S2 L = none ∧ H2 L = some (.lst vacc) ∧ RDs N H2 acc vacc ∧ wcomp h F (xs.drop (i + 1)) acc S2 P, fun H' n => ⟨xs.length - (i + 1), by omega, rfl, hlt, n⟩, fun x H3 y => ?_⟩
    obtain ⟨d, ed, f3, h3, r3⟩ := wk.yields i H2 S2 x H3 hlt dl h2 hh y
    rw [List.getElem?_eq_getElem hlt] at ed
    cases ed
    subst hF
    have d3 := f3.dle h2
    obtain ⟨L3, n3⟩ := f3 L _ eL nL
    have rs3 : RS N H3 (wipe σ vs) (wipeD ρ vs) := ((rs.mono (f1.dle rh)).mono (dl.trans d3)).wipe vs
    obtain ⟨σ2, ρ2, rs2, w2, same, len, go⟩ := tg_at hK rs3 r3 wc
    refine go _ ⟨wipe_eq (by rw [len, wipe_length]) fun j hj => (same j fun z => hj (hsub j z)).trans (wipe_out hj), ?_⟩
    refine ⟨ρ2, S2, _, rs2, h3, ((fz.trans f1).trans f2).trans f3, w2, fun y S3 H4 f4 h4 q4 => ?_⟩
    obtain ⟨L4, n4⟩ := f4 L _ L3 n3
    obtain ⟨j, pj, tj⟩ := wtru_some q4
    refine wtru_mk tj ?_
    have d4 := f4.dle h3
    cases j with
    | false => exact ⟨S3, acc, vacc, (dl.trans d3).trans d4, (f2.trans f3).trans f4, h4, n4, L4, (ra.mono' d3).mono' d4, pj⟩
    | true =>
      refine ⟨ρ2, S3, _, rs2.mono d4, h4, (((fz.trans f1).trans f2).trans f3).trans f4, pj, fun d' S4 v' H5 f5 h5 r5 q5 => ?_⟩
      obtain ⟨L5, n5⟩ := f5 L _ L4 n4
      have d5 := f5.dle h4
      have dL : Dle H5 (upd H5 L (.lst (vacc ++ [v']))) := dle_lst L5
      have ra5 : RDs N H5 acc vacc := ((ra.mono' d3).mono' d4).mono' d5
      exact ⟨vacc, L5, ra5.length ▸ q5.1, S4, acc ++ [d'], vacc ++ [v'], (((dl.trans d3).trans d4).trans d5).trans dL, Fr.priv (((f2.trans f3).trans f4).trans f5) hL, h5.priv n5 L5 rfl, n5, L2.upd_same,
        (ra5.append (.cons r5 .nil)).mono' dL, q5.2⟩
  · have e : i = xs.length := by omega
    subst e
    rw [List.drop_length, wcomp] at wc
    obtain ⟨hh, wc⟩ := wc
    rw [← hP] at wc
    refine .inl ⟨wk.stops H2 S2 dl h2 hh, k _ _ _ _ ((f1.trans f2).tell fun a o z s => ?_) (h2.tell (m := .lst acc) ⟨vacc, eL, ra⟩) mk_ref (wc L nL)⟩
    exact L2.ne_of_none (f1 a o z s).1 hL
/-- the facts of a comprehension, as the layer asks them -/
structure LcOk (N : Nm) (Z : Sta × Hp) (X : Cx) (elt tg iter : Expr) (ifs : List Expr) (scope : Scope) (own : List (Str × Nat)) (is : List Nat) (wi : Wi) (wcond welt : Wp) : Prop where
  calm : X.calm = true
  nd : X.N.Nodup
  it : PI X tg iter (tI N Z wi)
  ok : BlkOk X.N X.env.scope scope own
  tg : ∀ (s : Shared) (H : Hp) (C : Addr) (cl : List (Str × Addr)) (fp : List Addr), PG (X.blk s H scope (compEnvC scope cl C X.env) fp) tg (gT X.K is)
  cond : ∀ (s : Shared) (H : Hp) (C : Addr) (cl : List (Str × Addr)) (fp : List Addr), PTs (X.blk s H scope (compEnvC scope cl C X.env) fp) ifs (tT N Z wcond)
  elt : ∀ (s : Shared) (H : Hp) (C : Addr) (cl : List (Str × Addr)) (fp : List Addr), PE (X.blk s H scope (compEnvC scope cl C X.env) fp) elt (tOf N Z welt)
  fold : ∀ x, foldedSetIterable iter X.env x = pure x
  sub : ∀ i ∈ is, i ∈ own.map (·.2)
variable {ifs : List Expr} {scope : Scope} {own : List (Str × Nat)}
theorem he_lc (hK : N.K = X.K) (L : LcOk N Z X elt tg iter ifs scope own is wi wcond welt) : PE X (.ListComp elt [⟨tg, iter, ifs, 0⟩] scope pos) (tOf N Z (hLc wi is (own.map (·.2)) wcond welt)) :=
  pimp (pe_lc L.calm L.nd L.it L.ok L.tg L.cond L.elt L.fold) (lc_at hK L.sub)
end
end A
end
section
set_option Elab.async false
set_option linter.all false
set_option maxRecDepth 100000
set_option maxHeartbeats 1000000
/-! A14: statements. -/
namespace A
open PySem L2 PyProof.Rows
abbrev Ws := Env → Sta → A.Ends → Prop
/-- the ends of the small language, in the layer; Y: a state and a heap passed on the way -/
structure En (N : Nm) (Y : Sta × Hp) (T : A.Ends) (D : L2.Ends) : Prop where
  nx : ∀ ρ S σ H, RS N H σ ρ → RH N H S → Fr Y.1 Y.2 S H → T.nx ρ S → D.nx σ H
  bk : ∀ ρ S σ H, RS N H σ ρ → RH N H S → Fr Y.1 Y.2 S H → T.bk ρ S → D.bk σ H
  ct : ∀ ρ S σ H, RS N H σ ρ → RH N H S → Fr Y.1 Y.2 S H → T.ct ρ S → D.ct σ H
  rt : ∀ d S v H, RH N H S → Fr Y.1 Y.2 S H → RD N H d v → T.rt d S → D.rt v H
def tSs (N : Nm) (Z : Sta × Hp) (Ex : D → Env → Sta → Prop) (w : Ws) : TS := fun D σ H => ∃ (Y : Sta × Hp) (ρ : Env) (S : Sta) (T : A.Ends), Fr Z.1 Z.2 Y.1 Y.2 ∧ Fr Y.1 Y.2 S H ∧ RS N H σ ρ ∧ RH N H S ∧ T.ex = Ex ∧ w ρ S T ∧ En N Y T D
section
variable {N : Nm} {Z : Sta × Hp} {X : Cx} {S S' S1 : Sta} {H H' H1 H0 : Hp} {Q : VK} {Qh : K} {σ : L2.St} {ρ : Env} {pos p pos' tpos : Pos} {a b c e o tg iter elt : Expr} {Ex : D → Env → Sta → Prop} {w w1 w2 : Ws} {is : List Nat} {st : Stmt} {sts body : List Stmt}
/-- the reading of an expression within a statement: its errors go where the statement's go -/
abbrev Wx := (D → Env → Sta → Prop) → Env → Sta → K → Prop
theorem psimp {t t' : TS} (h : PS X st t) (i : ∀ D σ H, t' D σ H → t D σ H) : PS X st t' := ⟨fun pins s σ H D I q => h.run pins s σ H D I (i D σ H q)⟩
theorem pssimp {t t' : TS} (h : PSs X sts t) (i : ∀ D σ H, t' D σ H → t D σ H) : PSs X sts t' := ⟨fun pins s σ H D I q => h.run pins s σ H D I (i D σ H q)⟩
theorem hs_nev (hw : ∀ ρ S T, ¬ w ρ S T) : PS X st (tSs N Z Ex w) := ⟨fun _ _ _ _ _ _ ⟨Y, ρ, S, T, _, _, _, _, _, q, _⟩ => (hw _ _ _ q).elim⟩
theorem hss_nil : PSs X [] (tSs N Z Ex fun ρ S T => T.nx ρ S) := pssimp pss_nil fun D σ H ⟨Y, ρ, S, T, fy, fs, rs, rh, ex, q, en⟩ => en.nx ρ S σ H rs rh fs q
theorem hss_cons (h1 : PS X st (tSs N Z Ex w1)) (h2 : PSs X sts (tSs N Z Ex w2)) : PSs X (st :: sts) (tSs N Z Ex fun ρ S T => w1 ρ S { nx := fun ρ' S' => w2 ρ' S' T, rt := T.rt, bk := T.bk, ct := T.ct, ex := T.ex }) :=
  pssimp (pss_cons h1 h2) fun D σ H ⟨Y, ρ, S, T, fy, fs, rs, rh, ex, q, en⟩ => ⟨Y, ρ, S, { nx := fun ρ' S' => w2 ρ' S' T, rt := T.rt, bk := T.bk, ct := T.ct, ex := T.ex }, fy, fs, rs, rh, ex, q,
    ⟨fun ρ' S' σ' H' rs' rh' fs' q' => ⟨Y, ρ', S', T, fy, fs', rs', rh', ex, q', en⟩, en.bk, en.ct, en.rt⟩⟩
theorem hs_pass : PS X (.Pass pos) (tSs N Z Ex fun ρ S T => T.nx ρ S) := psimp ps_pass fun D σ H ⟨Y, ρ, S, T, fy, fs, rs, rh, ex, q, en⟩ => en.nx ρ S σ H rs rh fs q
theorem hs_brk : PS X (.Break pos) (tSs N Z Ex fun ρ S T => T.bk ρ S) := psimp ps_break fun D σ H ⟨Y, ρ, S, T, fy, fs, rs, rh, ex, q, en⟩ => en.bk ρ S σ H rs rh fs q
theorem hs_cont : PS X (.Continue pos) (tSs N Z Ex fun ρ S T => T.ct ρ S) := psimp ps_continue fun D σ H ⟨Y, ρ, S, T, fy, fs, rs, rh, ex, q, en⟩ => en.ct ρ S σ H rs rh fs q
variable {we wt wi' : Wx}
/-- an expression at a statement's beginning -/
theorem eat {R : VK} {g : Env → D → Sta → A.Ends → Prop} {D : L2.Ends} (t : tSs N Z Ex (fun ρ S T => we T.ex ρ S fun d S1 => g ρ d S1 T) D σ H)
    (k : ∀ Y ρ S1 H1 d v T, Fr Z.1 Z.2 Y.1 Y.2 → Fr Y.1 Y.2 S1 H1 → RS N H1 σ ρ → RH N H1 S1 → RD N H1 d v → T.ex = Ex → g ρ d S1 T → En N Y T D → R v H1) : tOf N Z (we Ex) σ H R := by
  obtain ⟨Y, ρ, S, T, fy, fs, rs, rh, ex, q, en⟩ := t
  subst ex
  exact ⟨ρ, S, _, rs, rh, fy.trans fs, q, fun d S1 v H1 f h1 r q1 => k Y ρ S1 H1 d v T fy (fs.trans f) (rs.mono (f.dle rh)) h1 r rfl q1 en⟩
theorem hs_ret (he : PE X e (tOf N Z (we Ex))) : PS X (.Return (some e) pos) (tSs N Z Ex fun ρ S T => we T.ex ρ S T.rt) :=
  psimp (ps_ret he) fun D σ H t => eat (g := fun ρ d S1 T => T.rt d S1) t fun Y ρ S1 H1 d v T fy f rs rh r ex q en => en.rt d S1 v H1 rh f r q
theorem hs_retN : PS X (.Return none pos) (tSs N Z Ex fun ρ S T => T.rt .non S) := psimp ps_retN fun D σ H ⟨Y, ρ, S, T, fy, fs, rs, rh, ex, q, en⟩ => en.rt .non S .non H rh fs mk_non q
theorem hs_ex (he : PE X e (tOf N Z (we Ex))) (hs : swapsWith e none pos.line X.env = pure false) : PS X (.Expr e pos) (tSs N Z Ex fun ρ S T => we T.ex ρ S fun _ S1 => T.nx ρ S1) :=
  psimp (ps_expr he hs) fun D σ H t => eat (g := fun ρ d S1 T => T.nx ρ S1) t fun Y ρ S1 H1 d v T fy f rs rh r ex q en => en.nx ρ S1 σ H1 rs rh f q
theorem hs_ite {sa sb : List Stmt} (ht : PT X e (tT N Z (wt Ex))) (ha : PSs X sa (tSs N Z Ex w1)) (hb : PSs X sb (tSs N Z Ex w2)) : PS X (.If e sa sb pos) (tSs N Z Ex fun ρ S T => wt T.ex ρ S fun x S1 => wtru S1 x fun c => if c = true then w1 ρ S1 T else w2 ρ S1 T) :=
  psimp (ps_if ht ha hb) fun D σ H ⟨Y, ρ, S, T, fy, fs, rs, rh, ex, q, en⟩ => by
    subst ex
    refine ⟨ρ, S, _, rs, rh, fy.trans fs, q, fun x S1 H1 f h1 q1 => ?_⟩
    obtain ⟨j, pj, tj⟩ := wtru_some q1
    refine wtru_mk tj ?_
    cases j with
    | true => exact ⟨Y, ρ, S1, T, fy, fs.trans f, rs.mono (f.dle rh), h1, rfl, pj, en⟩
    | false => exact ⟨Y, ρ, S1, T, fy, fs.trans f, rs.mono (f.dle rh), h1, rfl, pj, en⟩

/-! ### targets -/
/-- a target takes a value -/
theorem hs_asgN (hK : N.K = X.K) (he : PE X e (tOf N Z (we Ex))) (hg : PG X tg (gT X.K is)) (hs : swapsWithSole [tg] e pos.line X.env = pure false) (hw : swappedStores [tg] e X.env = pure none)
    (h1 : (assignEach [tg] X.env).map (·.2) = [assign tg X.env]) : PS X (.Assign [tg] e pos) (tSs N Z Ex fun ρ S T => we T.ex ρ S fun d S1 => wtgN is d ρ fun ρ1 => T.nx ρ1 S1) :=
  psimp (ps_asg he hg hs hw h1) fun D σ H t => eat (g := fun ρ d S1 T => wtgN is d ρ fun ρ1 => T.nx ρ1 S1) t fun Y ρ S1 H1 d v T fy f rs rh r ex q en => by
    obtain ⟨σ2, ρ2, rs2, q2, _, _, go⟩ := tg_at hK rs r q
    exact go _ (en.nx ρ2 S1 σ2 H1 rs2 rh f q2)
theorem hs_asgLc (hK : N.K = X.K) {i : Nat} {y : Str} {py spos : Pos} {ifs : List Expr} {scope : Scope} {own : List (Str × Nat)} {wi : (D → Env → Sta → Prop) → Wi} {wcond welt : Wp} (L : LcOk N Z X elt tg iter ifs scope own is (wi Ex) wcond welt) (hy : X.N[i]? = some y) (hyl : X.env.scope.names.lookup y = some .local)
    (hsw : swapsWith (.ListComp elt [⟨tg, iter, ifs, 0⟩] scope pos) (some (.Name y py)) spos.line X.env = pure true) :
    PS X (.Assign [.Name y py] (.ListComp elt [⟨tg, iter, ifs, 0⟩] scope pos) spos) (tSs N Z Ex fun ρ S T => hLc (wi T.ex) is (own.map (·.2)) wcond welt ρ S fun d S1 => wtgN [i] d ρ fun ρ1 => T.nx ρ1 S1) :=
  psimp (ps_setLc L.calm L.nd hy hyl hsw L.it L.ok L.tg L.cond L.elt L.fold) fun D σ H t => lc_at hK L.sub σ H _ <|
    eat (we := fun Ex => hLc (wi Ex) is (own.map (·.2)) wcond welt) (g := fun ρ d S1 T => wtgN [i] d ρ fun ρ1 => T.nx ρ1 S1) t fun Y ρ S1 H1 d v T fy f rs rh r ex q en => en.nx _ S1 _ H1 (rs.set i r) rh f q

/-! ### o[i] = v -/
def rSetW (N : Nm) : TSet := fun o i v H Q => ∃ x y d S Qs, RH N H S ∧ RD N H x o ∧ RD N H y i ∧ RD N H d v ∧ wsetix x y d S Qs ∧ ∀ S' H', Fr S H S' H' → RH N H' S' → Qs S' → Q H'
theorem set_or {t t' : TSet} (h : PSet X t) (h' : PSet X t') : PSet X (fun o i v H Q => t o i v H Q ∨ t' o i v H Q) := by
  intro pins s σ H o i v ov iv u Q I r1 r2 r3 q
  rcases q with q | q
  · exact h pins s σ H o i v ov iv u Q I r1 r2 r3 q
  · exact h' pins s σ H o i v ov iv u Q I r1 r2 r3 q
theorem set_W (hu : X.A.units + 1 < cLine) : PSet X (rSetW N) := by
  have base := set_or (set_list (X := X)) (set_dict hu)
  intro pins s σ H o i v ov iv u Q I r1 r2 r3 h
  refine base pins s σ H o i v ov iv u Q I r1 r2 r3 ?_
  obtain ⟨x, y, d, S, Qs, rh, rx, ry, rd, w, k⟩ := h
  cases x with
  | ref a =>
    cases rd_ref rx
    simp only [wsetix] at w
    cases ea : S a with
    | none => rw [ea] at w; exact w.elim
    | some ob =>
      rw [ea] at w
      cases ob with
      | lst l =>
        cases y with
        | int n =>
          cases rd_int ry
          obtain ⟨j, hj, q⟩ := w
          obtain ⟨vs, h1, r⟩ := at_lst rh ea
          exact .inl ⟨a, vs, n, j, rfl, rfl, h1, r.length ▸ hj, k _ _ (Fr.put ea) (rh.put h1 rfl (m := .lst (l.set j d)) ⟨vs.set j v, L2.upd_same, (r.set j rd).mono' (dle_lst h1)⟩) q⟩
        | _ => exact (False.elim w)
      | dic kvs =>
        obtain ⟨hl, key, ek, q⟩ := w
        obtain ⟨ws, h1, e1, r⟩ := at_dic rh ea
        obtain ⟨g1, g2⟩ := kput_rel (k := key) rd e1 r
        have hl' : ws.length < sizeLine := by
          have := congrArg List.length e1
          simp only [List.length_map] at this
          omega
        rw [key_rd ek ry]
        exact .inr ⟨a, _, rfl, DPut.k h1 hl', k _ _ (Fr.put ea) (rh.put h1 rfl (m := .dic (kput kvs key d)) ⟨_, L2.upd_same, g1, g2.mono' (dle_put h1 rfl)⟩) q⟩
      | _ => exact w.elim
  | _ => exact (False.elim w)
theorem assign_sub {v : Value} {env : PySem.Env} (pl : plainIx b = true) : assign (.Subscript a b pos) env v = (do
      let ov ← holding [v] (eval a env)
      let iv ← holding [v, ov] (eval b env)
      standAt pos
      holding [v, ov, iv] (setItem ov iv v)
      release [v, ov, iv] []) := by
  cases b <;> first | rfl | cases pl
/-- in a name's store nothing is swapped -/
theorem hs_asgI (hu : X.A.units + 1 < cLine) {we wa wb : Wx} (he : PE X e (tOf N Z (we Ex))) (ha : PE X a (tOf N Z (wa Ex))) (hb : PE X b (tOf N Z (wb Ex))) (pl : plainIx b = true) :
    PS X (.Assign [.Subscript a b pos'] e pos) (tSs N Z Ex fun ρ S T => we T.ex ρ S fun d S1 => wa T.ex ρ S1 fun x S2 => wb T.ex ρ S2 fun y S3 => wsetix x y d S3 fun S4 => T.nx ρ S4) := by
  have hs : swapsWithSole [.Subscript a b pos'] e pos.line X.env = pure false := by
    cases e <;> rfl
  have hw : swappedStores [.Subscript a b pos'] e X.env = pure none := by rfl
  refine psimp (ps_asg he (pg_sub ha hb (set_W (N := N) hu) fun v => assign_sub pl) hs hw rfl) fun D σ H t => ?_
  refine eat (g := fun ρ d S1 T => wa T.ex ρ S1 fun x S2 => wb T.ex ρ S2 fun y S3 => wsetix x y d S3 fun S4 => T.nx ρ S4) t fun Y ρ S1 H1 d v T fy f rs rh r ex q en => ?_
  subst ex
  refine ⟨ρ, S1, _, rs, rh, fy.trans f, q, fun x S2 u H2 f2 h2 r2 q2 => ?_⟩
  refine ⟨ρ, S2, _, rs.mono (f2.dle rh), h2, (fy.trans f).trans f2, q2, fun y S3 u2 H3 f3 h3 r3 q3 => ?_⟩
  exact ⟨x, y, d, S3, _, h3, RD.mono (f3.dle h2) _ _ r2, r3, RD.mono (f3.dle h2) _ _ (RD.mono (f2.dle rh) _ _ r), q3, fun S4 H4 f4 h4 q4 =>
    en.nx ρ S4 σ H4 (((rs.mono (f2.dle rh)).mono (f3.dle h2)).mono (f4.dle h3)) h4 (((f.trans f2).trans f3).trans f4) q4⟩

/-! ### op= -/
def rIp (N : Nm) (o : Bo) : R2 := fun v u H Q => ∃ x y S Qh, RH N H S ∧ RD N H x v ∧ RD N H y u ∧ wip o x y S Qh ∧ Kn N S H Qh Q
theorem iop_W : ∀ o : Bo, OpR X (inplaceOp (boOp o)) (rIp N o)
  | .add => oimp (iop_add.or iop_add_str) fun v u H Q ⟨x, y, S, Qh, rh, rx, ry, w, k⟩ => by
    cases x <;> cases y <;> first | exact False.elim w | skip
    · cases rd_int rx; cases rd_int ry
      exact .inl ⟨_, _, rfl, rfl, k.at rh mk_int w⟩
    · cases rd_str rx; cases rd_str ry
      exact .inr ⟨_, _, rfl, rfl, w.1, k.at rh mk_str w.2⟩
  | .sub => oimp iop_sub fun v u H Q ⟨x, y, S, Qh, rh, rx, ry, w, k⟩ => by
    cases x <;> cases y <;> first | exact False.elim w | skip
    cases rd_int rx; cases rd_int ry
    exact ⟨_, _, rfl, rfl, k.at rh mk_int w⟩
  | .mul => oimp iop_mul fun v u H Q ⟨x, y, S, Qh, rh, rx, ry, w, k⟩ => by
    cases x <;> cases y <;> first | exact False.elim w | skip
    cases rd_int rx; cases rd_int ry
    exact ⟨_, _, rfl, rfl, w.1, k.at rh mk_int w.2⟩
  | .div => oimp iop_fdiv fun v u H Q ⟨x, y, S, Qh, rh, rx, ry, w, k⟩ => by
    cases x <;> cases y <;> first | exact False.elim w | skip
    cases rd_int rx; cases rd_int ry
    exact ⟨_, _, rfl, rfl, w.1, k.at rh mk_int w.2⟩
  | .mod => oimp iop_mod fun v u H Q ⟨x, y, S, Qh, rh, rx, ry, w, k⟩ => by
    cases x <;> cases y <;> first | exact False.elim w | skip
    cases rd_int rx; cases rd_int ry
    exact ⟨_, _, rfl, rfl, w.1, k.at rh mk_int w.2⟩
  | .pow => fun _ _ _ _ _ _ _ _ _ _ _ _ ⟨x, y, S, Qh, rh, rx, ry, w, k⟩ => by
    cases x <;> cases y <;> exact False.elim w
theorem hs_aug {o : Bo} {i : Nat} {x : Str} (hN : X.N.Nodup) (hi : X.N[i]? = some x) (hx : Loc X.env.scope x) (hf : X.fn x = true ∨ X.env.scope.names.lookup x = some .local) (he : PE X e (tOf N Z (we Ex))) :
    PS X (.AugAssign (.Name x pos') (boOp o) e pos) (tSs N Z Ex fun ρ S T => ∃ d, ρ[i]? = some (some d) ∧ we T.ex ρ S fun y S1 => wip o d y S1 fun z S2 => T.nx (ρ.set i (some z)) S2) :=
  psimp (ps_aug (ti := rIp N o) hN hi hx he (iop_W o) hf) fun D σ H ⟨Y, ρ, S, T, fy, fs, rs, rh, ex, ⟨d, hd, q⟩, en⟩ => by
    subst ex
    obtain ⟨v, hv, rv⟩ := rs.2 i d hd
    refine ⟨v, hv, ρ, S, _, rs, rh, fy.trans fs, q, fun y S1 u H1 f h1 r q1 => ?_⟩
    exact ⟨d, y, S1, _, h1, RD.mono (f.dle rh) _ _ rv, r, q1, fun z S2 v2 H2 f2 h2 r2 q2 => en.nx _ S2 _ H2 (((rs.mono (f.dle rh)).mono (f2.dle h1)).set i r2) h2 ((fs.trans f).trans f2) q2⟩
def rGet (N : Nm) : V → V → Hp → VK → Prop := rIxA N
theorem get_list : L2.PGet X (fun o i H Q => ∃ a vs n v, o = .ref a ∧ i = .int n ∧ SqL X.K H a vs ∧ L2.atI vs n = some v ∧ Q v H) := by
  intro pins s σ H o i ov iv Q I ro ri h
  obtain ⟨a, vs, n, v, rfl, rfl, hq, he, q⟩ := h
  cases ro
  obtain ⟨t, rfl⟩ := ri
  obtain ⟨its, r, pl, hz⟩ := I.list hq
  obtain ⟨j, h1, h2, h3, h4, h5⟩ := atI_get he
  obtain ⟨w, ew, rw'⟩ := r.get h2
  have hl := r.length
  have hn := line63
  by_cases h0 : 0 ≤ n
  · have hj : n.toNat = j := by
      rw [seqIndex_of h0 h5] at h1
      exact Option.some.inj h1
    exact wpAny_getItem_list pl.isList h0 (by omega) (by rw [hj]; simpa using ew) ⟨v, H, I, rw', q⟩
  · have hj : (n + (its.toArray.size : Int)).toNat = j := by
      rw [seqIndex_neg (by omega) h4] at h1
      rw [List.size_toArray, ← hl]
      exact Option.some.inj h1
    exact wpAny_getItem_list_neg pl.isList (by omega) (by rw [List.size_toArray] <;> omega) (by omega) (by rw [hj]; simpa using ew) ⟨v, H, I, rw', q⟩
theorem get_W (hu : X.A.units + 1 < cLine) : L2.PGet X (fun v u H Q => ∃ x y S Qh, RH N H S ∧ RD N H x v ∧ RD N H y u ∧ wixM x y S Qh ∧ Kn N S H Qh Q) := by
  intro pins s σ H o i ov iv Q I ro ri ⟨x, y, S, Qh, rh, rx, ry, w, k⟩
  cases x with
  | ref a =>
    cases rd_ref rx
    simp only [wixM, wix] at w
    have dic : ∀ kvs, (S a = some (.dic kvs) ∨ S a = some (.dicF kvs)) → (∃ k d, keyD y = some k ∧ kget kvs k = some d ∧ Qh d S) → wpAny (model X.prog X.w) X.A (getItem ov iv) (EP X pins σ Q) X.xe s := fun kvs hs ⟨key, d, h1, h2, q⟩ => by
      obtain ⟨o, g, z⟩ := dget_of rh hs key
      rcases z with ⟨z, _⟩ | ⟨d', v', z1, z2, z3⟩
      · rw [z] at h2; cases h2
      · rw [z1] at h2; cases h2
        subst z2
        have er := key_rd h1 ry
        subst er
        cases ro
        exact d_getItem hu I g ri fun w' s' I' r' => ⟨v', H, I', r', k.at rh z3 q⟩
    cases ea : S a with
    | none => rw [ea] at w; exact w.elim
    | some ob =>
      rw [ea] at w
      cases ob with
      | lst l =>
        cases y with
        | int n =>
          cases rd_int ry
          obtain ⟨d, e, q⟩ := w
          obtain ⟨vs, h1, r⟩ := at_lst rh ea
          obtain ⟨v, e', r'⟩ := rds_at r e
          exact get_list pins s σ H _ _ ov iv Q I ro ri ⟨a, vs, n, v, rfl, rfl, SqL.of h1, e', k.at rh r' q⟩
        | _ => exact (False.elim w)
      | dic kvs => exact dic kvs (.inl ea) w
      | dicF kvs => exact dic kvs (.inr ea) w
      | _ => exact w.elim
  | _ => exact (False.elim w)
theorem aug_sub (pl : plainIx b = true) : ∀ ov iv new, augStore b ov iv new = (do holding [new, ov, iv] (setItem ov iv new); release [new, ov, iv] []; pure .next) := by
  intro ov iv new
  cases b <;> first | rfl | cases pl
theorem hs_augI (hu : X.A.units + 1 < cLine) {o : Bo} {wa wb : Wx} (ha : PE X a (tOf N Z (wa Ex))) (hb : PE X b (tOf N Z (wb Ex))) (he : PE X e (tOf N Z (we Ex))) (pl : plainIx b = true) :
    PS X (.AugAssign (.Subscript a b pos') (boOp o) e pos) (tSs N Z Ex fun ρ S T => wa T.ex ρ S fun x S1 => wb T.ex ρ S1 fun k S2 => wixM x k S2 fun d S3 => we T.ex ρ S3 fun y S4 => wip o d y S4 fun z S5 => wsetix x k z S5 fun S6 => T.nx ρ S6) :=
  psimp (ps_augS (tip := rIp N o) ha hb (get_W (N := N) hu) he (iop_W o) (set_W (N := N) hu) (aug_sub pl)) fun D σ H t => by
    refine eat (g := fun ρ x S1 T => wb T.ex ρ S1 fun k S2 => wixM x k S2 fun d S3 => we T.ex ρ S3 fun y S4 => wip o d y S4 fun z S5 => wsetix x k z S5 fun S6 => T.nx ρ S6) t fun Y ρ S1 H1 x v T fy f rs rh r ex q en => ?_
    subst ex
    refine ⟨ρ, S1, _, rs, rh, fy.trans f, q, fun k S2 u H2 f2 h2 r2 q2 => ?_⟩
    have rs2 := rs.mono (f2.dle rh)
    have r' := RD.mono (f2.dle rh) _ _ r
    refine ⟨x, k, S2, _, h2, r', r2, q2, fun d S3 v3 H3 f3 h3 r3 q3 => ?_⟩
    have rs3 := rs2.mono (f3.dle h2)
    refine ⟨ρ, S3, _, rs3, h3, ((fy.trans f).trans f2).trans f3, q3, fun y S4 v4 H4 f4 h4 r4 q4 => ?_⟩
    refine ⟨d, y, S4, _, h4, RD.mono (f4.dle h3) _ _ r3, r4, q4, fun z S5 v5 H5 f5 h5 r5 q5 => ?_⟩
    have m35 : Dle H2 H5 := ((f3.dle h2).trans (f4.dle h3)).trans (f5.dle h4)
    exact ⟨x, k, z, S5, _, h5, RD.mono m35 _ _ r', RD.mono m35 _ _ r2, r5, q5, fun S6 H6 f6 h6 q6 => en.nx ρ S6 σ H6 ((rs2.mono m35).mono (f6.dle h5)) h6 (((((f.trans f2).trans f3).trans f4).trans f5).trans f6) q6⟩

/-! ### loops -/
theorem hs_whl (hp : PassesOwn (model X.prog X.w) X.A X.env X.xe) (ht : PT X e (tT N Z (wt Ex))) (hb : PSs X body (tSs N Z Ex w1)) : PS X (.While e body [] pos) (tSs N Z Ex fun ρ S T => ∃ I : Nat → Env → Sta → Prop, (∃ m, I m ρ S) ∧ ∀ m ρ S, I m ρ S → wt T.ex ρ S fun x S1 => wtru S1 x fun c =>
      if c = true then w1 ρ S1 { nx := fun ρ' S' => ∃ m', m' < m ∧ I m' ρ' S', rt := T.rt, bk := T.nx, ct := fun ρ' S' => ∃ m', m' < m ∧ I m' ρ' S', ex := T.ex } else T.nx ρ S1) :=
  psimp (ps_while hp ht hb) fun D σ H ⟨Y, ρ, S, T, fy, fs, rs, rh, ex, ⟨I, ⟨m0, i0⟩, q⟩, en⟩ => by
    subst ex
    refine ⟨fun m σ H => ∃ ρ S, RS N H σ ρ ∧ RH N H S ∧ Fr Y.1 Y.2 S H ∧ I m ρ S, ⟨m0, ρ, S, rs, rh, fs, i0⟩, fun m σ H ⟨ρ, S, rs, rh, fs, im⟩ => ?_⟩
    refine ⟨ρ, S, _, rs, rh, fy.trans fs, q m ρ S im, fun x S1 H1 f h1 q1 => ?_⟩
    obtain ⟨j, pj, tj⟩ := wtru_some q1
    refine wtru_mk tj ?_
    have rs1 := rs.mono (f.dle rh)
    cases j with
    | false => exact en.nx ρ S1 σ H1 rs1 h1 (fs.trans f) pj
    | true =>
      refine ⟨fun σ' H' => ∃ m', m' < m ∧ ∃ ρ S, RS N H' σ' ρ ∧ RH N H' S ∧ Fr Y.1 Y.2 S H' ∧ I m' ρ S, fun σ' H' h => h, Y, ρ, S1, { nx := fun ρ' S' => ∃ m', m' < m ∧ I m' ρ' S', rt := T.rt, bk := T.nx, ct := fun ρ' S' => ∃ m', m' < m ∧ I m' ρ' S', ex := T.ex }, fy, fs.trans f, rs1, h1, rfl, pj, ?_⟩
      exact ⟨fun ρ' S' σ' H' rs' rh' fs' ⟨m', hm, i'⟩ => ⟨m', hm, ρ', S', rs', rh', fs', i'⟩, en.nx, fun ρ' S' σ' H' rs' rh' fs' ⟨m', hm, i'⟩ => ⟨m', hm, ρ', S', rs', rh', fs', i'⟩, en.rt⟩
/-- a turn of a for -/
def wTurn (is : List Nat) (w1 : Ws) (T : A.Ends) : A.D → Env → Sta → (Env → Sta → Prop) → Prop := fun x ρ S R => wtgN is x ρ fun ρ1 => w1 ρ1 S { nx := R, rt := T.rt, bk := T.nx, ct := R, ex := T.ex }
theorem hs_for {wi : (D → Env → Sta → Prop) → Wi} (hK : N.K = X.K) (hp : PassesOwn (model X.prog X.w) X.A X.env X.xe) (hc : X.calm = true) (hi : PI X tg iter (tI N Z (wi Ex))) (hg : PG X tg (gT X.K is)) (hb : PSs X body (tSs N Z Ex w1))
    (hf : ∀ x, foldedSetIterable iter X.env x = pure x) : PS X (.For tg iter body [] pos) (tSs N Z Ex fun ρ S T => wi T.ex ρ S fun h xs S1 =>
      wfor h (wTurn is w1 T) xs ρ S1 T.nx) :=
  psimp (ps_for hp hc hi hg hb hf) fun D σ H ⟨Y, ρ, S, T, fy, fs, rs, rh, ex, q, en⟩ => by
    subst ex
    refine ⟨ρ, S, _, rs, rh, fy.trans fs, q, fun h xs S1 H1 J f1 h1 wk q1 => ?_⟩
    refine ⟨fun i m σ H => m = xs.length - i ∧ i ≤ xs.length ∧ ∃ ρ S, RS N H σ ρ ∧ RH N H S ∧ Fr S1 H1 S H ∧ wfor h (wTurn is w1 T) (xs.drop i) ρ S T.nx, ⟨xs.length, by simp, Nat.zero_le _, ρ, S1, rs.mono (f1.dle rh), h1, Fr.refl, q1⟩, ?_⟩
    rintro i m σ2 H2 ⟨rfl, hi, ρ2, S2, rs2, h2, f2, wc⟩
    by_cases hlt : i < xs.length
    · rw [List.drop_eq_getElem_cons hlt, wfor] at wc
      obtain ⟨hh, wc⟩ := wc
      have dl := f2.dle h1
      refine .inr ⟨wk.goes i H2 S2 hlt dl h2 hh, fun σ H => ∃ ρ S, RS N H σ ρ ∧ RH N H S ∧ Fr S1 H1 S H ∧ wfor h (wTurn is w1 T) (xs.drop (i + 1)) ρ S T.nx, fun σ' H' n => ⟨xs.length - (i + 1), by omega, rfl, hlt, n⟩, fun x H3 y => ?_⟩
      obtain ⟨d, ed, f3, h3, r3⟩ := wk.yields i H2 S2 x H3 hlt dl h2 hh y
      rw [List.getElem?_eq_getElem hlt] at ed
      cases ed
      obtain ⟨σ4, ρ4, rs4, w4, _, _, go⟩ := tg_at hK (rs2.mono (f3.dle h2)) r3 wc
      refine go _ ⟨(S1, H1), ρ4, S2, { nx := fun ρ' S' => wfor h (wTurn is w1 T) (xs.drop (i + 1)) ρ' S' T.nx, rt := T.rt, bk := T.nx, ct := fun ρ' S' => wfor h (wTurn is w1 T) (xs.drop (i + 1)) ρ' S' T.nx, ex := T.ex }, (fy.trans fs).trans f1, f2.trans f3, rs4, h3, rfl, w4, ?_⟩
      have back : ∀ {S' : Sta} {H' : Hp}, Fr S1 H1 S' H' → Fr Y.1 Y.2 S' H' := fun f => (fs.trans f1).trans f
      exact ⟨fun ρ' S' σ' H' rs' rh' fs' q' => ⟨ρ', S', rs', rh', fs', q'⟩, fun ρ' S' σ' H' rs' rh' fs' q' => en.nx ρ' S' σ' H' rs' rh' (back fs') q', fun ρ' S' σ' H' rs' rh' fs' q' => ⟨ρ', S', rs', rh', fs', q'⟩, fun d S' v H' rh' fs' r' q' => en.rt d S' v H' rh' (back fs') r' q'⟩
    · have e : i = xs.length := by omega
      subst e
      rw [List.drop_length, wfor] at wc
      exact .inl ⟨wk.stops H2 S2 (f2.dle h1) h2 wc.1, en.nx ρ2 S2 σ2 H2 rs2 h2 ((fs.trans f1).trans f2) wc.2⟩
end
end A
end
section
set_option Elab.async false
set_option linter.all false
set_option maxRecDepth 100000
set_option maxHeartbeats 2000000
/-! A15: the check that an expression of the program is one of the small language, and what it says. -/
namespace A
open PySem L2 PyProof.Rows

/-- what a name of the module stands for -/
inductive GV where
  | con (d : D)
  | fn (f : Nat)
  | cls (c : Nat)
/-- the module: its names, the built-ins in use, the forms of calls: def, written values, defaults -/
structure Tb where
  glob : List (Str × GV)
  blts : List Str
  calls : List (Nat × Nat × List D)
/-- a block: its names' kinds, the slots, the names whose cells it made -/
structure Sx where
  sc : Scope
  ns : List Str
  fnB : Str → Bool
def sEq (a b : Str) : Bool := a.cps.toList == b.cps.toList
theorem sEq_ok {a b : Str} (h : sEq a b = true) : a = b := by
  unfold sEq at h
  have h' := eq_of_beq h
  cases a; cases b
  simp only [Str.mk.injEq]
  exact Array.toList_inj.mp h'
def sIn (a : Str) : List Str → Bool
  | [] => false
  | b :: r => sEq a b || sIn a r
theorem sIn_ok {a : Str} : ∀ {l : List Str}, sIn a l = true → a ∈ l
  | [], h => by cases h
  | b :: r, h => by
    unfold sIn at h
    rcases Bool.or_eq_true _ _ ▸ h with h | h
    · rw [sEq_ok h]; exact List.mem_cons_self
    · exact List.mem_cons_of_mem _ (sIn_ok h)
def sLook {α : Type} (a : Str) : List (Str × α) → Option α
  | [] => none
  | (b, x) :: r => if sEq a b then some x else sLook a r
theorem sLook_ok {α : Type} {a : Str} {x : α} : ∀ {l : List (Str × α)}, sLook a l = some x → (a, x) ∈ l
  | [], h => by cases h
  | (b, y) :: r, h => by
    unfold sLook at h
    split at h
    · rename_i e
      cases h
      rw [sEq_ok e]
      exact List.mem_cons_self
    · exact List.mem_cons_of_mem _ (sLook_ok h)
def nsAt (ns : List Str) (i : Nat) (x : Str) : Bool := match ns[i]? with
  | some y => sEq y x
  | none => false
theorem nsAt_ok {ns : List Str} {i : Nat} {x : Str} (h : nsAt ns i x = true) : ns[i]? = some x := by
  unfold nsAt at h
  split at h
  · rename_i y e
    rw [e, sEq_ok h]
  · cases h
def okName (x : Str) : Bool := !(x == ("__debug__" : Str)) && !(x == ("__classdict__" : Str)) && !(x == ("__name__" : Str))
theorem okName_ok {x : Str} (h : okName x = true) : (x == ("__debug__" : Str)) = false ∧ (x == ("__classdict__" : Str)) = false ∧ x ≠ "__name__" := by
  unfold okName at h
  simp only [Bool.and_eq_true, Bool.not_eq_true'] at h
  exact ⟨h.1.1, h.1.2, fun e => by rw [e] at h; have := h.2; simp at this⟩
def Sx.vis (s : Sx) (x : Str) : Bool := match s.sc.names.lookup x with
  | some .local => true | some .cell => true | some .free => true | _ => false
def Sx.gl (s : Sx) (x : Str) : Bool := match s.sc.names.lookup x with
  | some .globalImplicit => true | _ => false
/-- a name that may be stored -/
def Sx.loc (s : Sx) (x : Str) : Bool := match s.sc.names.lookup x with
  | some .local => true | some .cell => s.fnB x | _ => false
structure In (X : Cx) (s : Sx) : Prop where
  sc : X.env.scope = s.sc
  ns : X.N = s.ns
  fn : ∀ x, X.fn x = s.fnB x
theorem In.vis {X : Cx} {s : Sx} (i : In X s) {x : Str} (h : s.vis x = true) : Vis X.env.scope x := by
  unfold Sx.vis at h
  rw [← i.sc] at h
  unfold Vis
  split at h
  · exact .inl (by assumption)
  · exact .inr (.inl (by assumption))
  · exact .inr (.inr (by assumption))
  · cases h
theorem In.gl {X : Cx} {s : Sx} (i : In X s) {x : Str} (h : s.gl x = true) : Gl X x := by
  unfold Sx.gl at h
  rw [← i.sc] at h
  show X.env.scope.names.lookup x = _
  split at h
  · assumption
  · cases h
theorem In.loc {X : Cx} {s : Sx} (i : In X s) {x : Str} (h : s.loc x = true) : Loc X.env.scope x ∧ (X.fn x = true ∨ X.env.scope.names.lookup x = some .local) := by
  unfold Sx.loc at h
  rw [← i.sc] at h
  split at h
  · exact ⟨.inl (by assumption), .inr (by assumption)⟩
  · exact ⟨.inr (by assumption), .inl ((i.fn x).trans h)⟩
  · cases h

/-! ### the program's facts -/
def GOk (N : Nm) (X : Cx) (x : Str) : GV → Prop
  | .con d => ∃ v u, X.mg x = some u ∧ RelV v u ∧ ∀ H, RD N H d v
  | .fn f => X.mg x = some (.ref (N.fa f)) ∧ PySem.W.keepIn X.K (.ref (N.fa f)) = true
  | .cls c => X.mg x = some (.ref (N.ca c))
structure Fx (N : Nm) (T : Tb) (C : Orc) (X : Cx) : Prop where
  hK : N.K = X.K
  u : X.A.units + 64 < cLine
  glob : ∀ x g, (x, g) ∈ T.glob → GOk N X x g
  blt : ∀ x ∈ T.blts, X.mg x = none
  call : ∀ f n es, (f, n, es) ∈ T.calls → CallOk N C X.prog X.w X.K X.mg X.base X.A f es
  own : ∀ X' : Cx, X'.prog = X.prog → X'.w = X.w → X'.K = X.K → X'.mg = X.mg → X'.base = X.base → X'.A = X.A → OwnOk N C X'
  calm : X.calm = true
  nd : X.N.Nodup
theorem Fx.own' {N : Nm} {T : Tb} {C : Orc} {X : Cx} (F : Fx N T C X) : OwnOk N C X := F.own X rfl rfl rfl rfl rfl rfl
theorem Fx.blk {N : Nm} {T : Tb} {C : Orc} {X : Cx} (F : Fx N T C X) (s : Shared) (H : Hp) (scope : Scope) (cenv : PySem.Env) (fp : List Addr) : Fx N T C (X.blk s H scope cenv fp) :=
  ⟨F.hK, F.u, fun x g h => by
    have q := F.glob x g h
    cases g <;> exact q, F.blt, F.call, F.own, F.calm, F.nd⟩
theorem Fx.u1 {N : Nm} {T : Tb} {C : Orc} {X : Cx} (F : Fx N T C X) : X.A.units + 1 < cLine := by have := F.u; omega
theorem Fx.cmp {N : Nm} {T : Tb} {C : Orc} {X : Cx} (F : Fx N T C X) (o : Co) : OpR X (compareOp (coOp o)) (rCmp N C o) := op_cmp F.hK F.u F.own'.eq F.own'.ne o

/-! ### the check -/
def boEq (o : Bo) (p : Operator) : Bool := decide (boOp o = p)
def coEq (o : Co) (p : CmpOp) : Bool := decide (coOp o = p)
def isBool : Expr → Bool
  | .BoolOp _ _ _ => true
  | _ => false
def testable (e : Expr) : Bool := plainT e || match e with
  | .UnaryOp .Not _ _ => true
  | .BoolOp _ _ _ => true
  | .Compare _ _ _ _ => true
  | _ => false
def notSet : Expr → Bool
  | .Set _ _ _ => false
  | _ => true
def isNil : E → Bool
  | .nil => true
  | _ => false
/-- a constant of the small language against a written one -/
def okC (T : Tb) (s : Sx) : D → Expr → Bool
  | .non, .Constant .none _ _ => true
  | .bl b, .Constant (.bool c) _ _ => b == c
  | .int i, .Constant (.int j) _ _ => i == j
  | .str x, .Constant (.str y) _ _ => sEq x y
  | _, _ => false
/-- a name of the module that is a constant -/
def okG (T : Tb) (s : Sx) (n : Str) : Bool := s.gl n && okName n
def Tb.isB (T : Tb) (x : Str) : Bool := sIn x T.blts
def Tb.isF (T : Tb) (x : Str) (f : Nat) : Bool := match sLook x T.glob with
  | some (.fn g) => f == g
  | _ => false
mutual
def beqD : D → D → Bool
  | .non, .non => true
  | .bl a, .bl b => a == b
  | .int a, .int b => a == b
  | .str a, .str b => sEq a b
  | .tup a, .tup b => beqDs a b
  | _, _ => false
def beqDs : List D → List D → Bool
  | [], [] => true
  | a :: r, b :: t => beqD a b && beqDs r t
  | _, _ => false
end
mutual
theorem beqD_ok : ∀ (a b : D), beqD a b = true → a = b
  | .non, b, h => by cases b <;> first | rfl | cases h
  | .bl x, b, h => by cases b <;> first | (simp only [beqD, beq_iff_eq] at h; rw [h]) | cases h
  | .int x, b, h => by cases b <;> first | (simp only [beqD, beq_iff_eq] at h; rw [h]) | cases h
  | .str x, b, h => by cases b <;> first | (simp only [beqD] at h; rw [sEq_ok h]) | cases h
  | .tup x, b, h => by cases b <;> first | (simp only [beqD] at h; rw [beqDs_ok x _ h]) | cases h
  | .lis x, b, h => by cases b <;> cases h
  | .ref x, b, h => by cases b <;> cases h
  | .fn x, b, h => by cases b <;> cases h
  | .exc _ _ _, b, h => by cases b <;> cases h
theorem beqDs_ok : ∀ (a b : List D), beqDs a b = true → a = b
  | [], b, h => by cases b <;> first | rfl | cases h
  | x :: r, b, h => by
    cases b with
    | nil => cases h
    | cons y t =>
      simp only [beqDs, Bool.and_eq_true] at h
      rw [beqD_ok x y h.1, beqDs_ok r t h.2]
end
def Tb.isC (T : Tb) (x : Str) (d : D) : Bool := match sLook x T.glob with
  | some (.con e) => beqD d e
  | _ => false
def Tb.isK (T : Tb) (x : Str) (c : Nat) : Bool := match sLook x T.glob with
  | some (.cls e) => c == e
  | _ => false
def Tb.hasCall (T : Tb) (f n : Nat) (es : List D) : Bool := T.calls.any fun p => p.1 == f && p.2.1 == n && beqDs p.2.2 es
theorem hasCall_ok {T : Tb} {f n : Nat} {es : List D} (h : T.hasCall f n es = true) : (f, n, es) ∈ T.calls := by
  unfold Tb.hasCall at h
  obtain ⟨p, hp, h⟩ := List.any_eq_true.mp h
  simp only [Bool.and_eq_true, beq_iff_eq] at h
  obtain ⟨⟨h1, h2⟩, h3⟩ := h
  have := beqDs_ok _ _ h3
  obtain ⟨a, b, c⟩ := p
  simp only at h1 h2 this
  rw [← h1, ← h2, ← this]
  exact hp
def okTg (s : Sx) : List Nat → Expr → Bool
  | [i], .Name x _ => nsAt s.ns i x && s.loc x
  | is, .Tuple xs _ _ => is.length != 1 && okTgs s is xs
  | _, _ => false
where okTgs (s : Sx) : List Nat → List Expr → Bool
  | [], [] => true
  | i :: is, .Name x _ :: xs => nsAt s.ns i x && s.loc x && okTgs s is xs
  | _, _ => false
/-- the names of a comprehension's own slots -/
def ownN (ns : List Str) (own : List Nat) : List (Str × Nat) := own.map fun i => (ns.getD i Str.empty, i)
def subN : List Nat → List Nat → Bool
  | [], _ => true
  | i :: is, l => l.contains i && subN is l
/-- a comprehension's block -/
def Sx.blk (s : Sx) (scope : Scope) : Sx := ⟨relS scope s.sc, s.ns, fun x => scope.names.lookup x == some .cell⟩
mutual
def okE (T : Tb) : E → Sx → Expr → Bool
  | .nev, _, _ => true
  | .v i, s, e => (match e with
    | .Name x _ => s.vis x && nsAt s.ns i x && okName x
    | _ => false)
  | .c d, s, e => (match e with
    | .Name x _ => s.gl x && okName x && T.isC x d
    | e => okC T s d e)
  | .bin o a b, s, e => (match e with
    | .BinOp x op y _ => boEq o op && okE T a s x && okE T b s y
    | _ => false)
  | .neg a, s, e => (match e with
    | .UnaryOp .USub x _ => okE T a s x
    | _ => false)
  | .not a, s, e => (match e with
    | .UnaryOp .Not x _ => testable x && okE T a s x
    | _ => false)
  | .and a b, s, e => (match e with
    | .BoolOp .And [x, y] _ => testable x && testable y && okE T a s x && okE T b s y
    | .BoolOp .And (x :: y :: z :: r) p => testable x && okE T a s x && okE T b s (.BoolOp .And (y :: z :: r) p)
    | _ => false)
  | .or a b, s, e => (match e with
    | .BoolOp .Or [x, y] _ => testable x && testable y && okE T a s x && okE T b s y
    | .BoolOp .Or (x :: y :: z :: r) p => testable x && okE T a s x && okE T b s (.BoolOp .Or (y :: z :: r) p)
    | _ => false)
  | .cmp o a b, s, e => (match e with
    | .Compare x [op] [y] _ => coEq o op && !behindInMarks op y && okE T a s x && okE T b s y
    | _ => false)
  | .chn a o b o' c, s, e => (match e with
    | .Compare x [op, op'] [y, z] _ => coEq o op && coEq o' op' && !lastMarks [op, op'] [y, z] && okE T a s x && okE T b s y && okE T c s z
    | _ => false)
  | .ite t a b, s, e => (match e with
    | .IfExp x y z _ => testable x && okE T t s x && okE T a s y && okE T b s z
    | _ => false)
  | .tup es, s, e => (match e with
    | .Tuple xs _ _ => okEs T es s xs
    | _ => false)
  | .lst es, s, e => (match e with
    | .List xs _ => okEs T es s xs
    | _ => false)
  | .ix a i, s, e => (match e with
    | .Subscript x y _ => plainIx y && okE T a s x && okE T i s y
    | _ => false)
  | .sl a lo hi, s, e => (match e with
    | .Subscript x (.Slice l h none _) _ => okE T a s x && (match l with
        | none => isNil lo
        | some y => !isNil lo && okE T lo s y) && (match h with
        | none => isNil hi
        | some y => !isNil hi && okE T hi s y)
    | _ => false)
  | .b1 b a, s, e => (match e with
    | .Call (.Name f _) [x] [] _ => b1ok b && sEq f (bname b) && s.gl f && T.isB f && plainA x && okE T a s x
    | _ => false)
  | .b2 b a c, s, e => (match e with
    | .Call (.Name f _) [x, y] [] _ => sEq f (b2name b) && s.gl f && T.isB f && plainA x && plainA y && okE T a s x && okE T c s y
    | _ => false)
  | .bm m o es, s, e => (match e with
    | .Call (.Attribute x f ap) xs [] cp => bmOk m && sEq f (bmN m) && noSup x && (ap.endLine == cp.line) && decide (xs.length < 29) && okE T o s x && okEs T es s xs
    | _ => false)
  | .isi a [k], s, e => (match e with
    | .Call (.Name f _) [x, .Name t _] [] _ => kdOk k && sEq f "isinstance" && sEq t (Str.ofString (kdN k)) && s.gl f && s.gl t && T.isB f && T.isB t && plainA x && okE T a s x
    | _ => false)
  | .call f (.app ds) es, s, e => (match e with
    | .Call (.Name g _) xs [] _ => T.isF g f && s.gl g && okName g && T.hasCall f xs.length ds && okEs T es s xs
    | _ => false)
  | .lc elt own tg it cond, s, e => (match e with
    | .ListComp x [⟨t, i, ifs, 0⟩] scope _ => okIt T it s t i && okTg (s.blk scope) tg t && blkC s.ns s.sc scope (ownN s.ns own) && subN tg own && notSet i && okE T elt (s.blk scope) x && (match ifs with
        | [] => (match cond with
          | .c (.bl true) => true
          | _ => false)
        | [y] => testable y && okE T cond (s.blk scope) y
        | _ => false)
    | _ => false)
  | _, _, _ => false
def okEs (T : Tb) : Es → Sx → List Expr → Bool
  | .nil, _, l => (match l with
    | [] => true
    | _ => false)
  | .cons a r, s, l => (match l with
    | x :: xs => plainA x && okE T a s x && okEs T r s xs
    | [] => false)
def okIt (T : Tb) : A.It → Sx → Expr → Expr → Bool
  | .seq a, s, _, e => okE T a s e
  | .rng a, s, _, e => (match e with
    | .Call (.Name f _) [x] [] _ => sEq f "range" && s.gl f && T.isB f && plainA x && okE T a s x
    | _ => false)
  | .enm a st, s, t, e => (match t, e with
    | .Tuple _ _ _, .Call (.Name f _) [x] [] _ => st == 0 && sEq f "enumerate" && s.gl f && T.isB f && plainA x && okE T a s x
    | _, _ => false)
  | .zip a b st, s, t, e => (match t, e with
    | .Tuple _ _ _, .Call (.Name f _) [x, y] [] _ => !st && sEq f "zip" && s.gl f && T.isB f && plainA x && plainA y && okE T a s x && okE T b s y
    | _, _ => false)
end
end A
end
section
set_option Elab.async false
set_option linter.all false
set_option maxRecDepth 100000
set_option maxHeartbeats 4000000
/-! A16: what the check says of expressions. -/
namespace A
open PySem L2 PyProof.Rows
/-- what an expression is: as a value, as a test -/
structure J (N : Nm) (Z : Sta × Hp) (X : Cx) (e : Expr) (w : Wp) : Prop where
  pe : PE X e (tOf N Z w)
  pt : testable e = true → PT X e (tT N Z w)
  pw : isBool e = true → PW X e (tT N Z w)
section
variable {N : Nm} {Z : Sta × Hp} {X : Cx} {S : Sta} {e : Expr} {w : Wp} {T : Tb} {C : Orc} {s : Sx}
theorem J.plain (hK : N.K = X.K) (h : PE X e (tOf N Z w)) (nb : isBool e = false) (pl : testable e = true → plainT e = true) : J N Z X e w := ⟨h, fun t => he_truth hK h (pl t), fun z => by rw [nb] at z; cases z⟩
theorem J.nt (h : PE X e (tOf N Z w)) (nb : isBool e = false) (pl : testable e = false) : J N Z X e w := ⟨h, fun t => by (rw [pl] at t; cases t), fun z => by rw [nb] at z; cases z⟩
theorem J.never (h : ∀ ρ S Q, ¬ w ρ S Q) : J N Z X e w := ⟨he_nev h, fun _ => ht_nev h, fun _ => ⟨fun _ _ _ _ _ _ _ ⟨ρ, S, Qh, _, _, _, q, _⟩ => (h _ _ _ q).elim⟩⟩
/-- an expression's wp where its errors go to Ex -/
def wX (C : Orc) (Ex : D → Env → Sta → Prop) (ir : E) : Wp := fun ρ S Q => wE C (fun x S' => Ex x ρ S') ir ρ S Q
def wXs (C : Orc) (Ex : D → Env → Sta → Prop) (ir : Es) : Wps := fun ρ S Q => wEs C (fun x S' => Ex x ρ S') ir ρ S Q
def wXi (C : Orc) (Ex : D → Env → Sta → Prop) (ir : A.It) : Wi := fun ρ S Q => wIt C (fun x S' => Ex x ρ S') ir ρ S Q
theorem wX_def {Ex : D → Env → Sta → Prop} {ir : E} : wX C Ex ir = fun ρ S Q => wE C (fun x S' => Ex x ρ S') ir ρ S Q := rfl
theorem wXs_def {Ex : D → Env → Sta → Prop} {ir : Es} : wXs C Ex ir = fun ρ S Q => wEs C (fun x S' => Ex x ρ S') ir ρ S Q := rfl
theorem wXi_def {Ex : D → Env → Sta → Prop} {ir : A.It} : wXi C Ex ir = fun ρ S Q => wIt C (fun x S' => Ex x ρ S') ir ρ S Q := rfl
theorem takesF : L2.Takes X (xOf N Z fun _ _ _ => False) := fun u s' ⟨_, _, _, _, _, _, _, _, _, _, _, _, _, _, _, _, ⟨_, _, _, _, _, _, _, f⟩⟩ => f.elim
theorem In.blk {scope : Scope} {cl : List (Str × Addr)} {Cl : Addr} {fp : List Addr} {sh : Shared} {H : Hp} (i : In X s) : In (X.blk sh H scope (compEnvC scope cl Cl X.env) fp) (s.blk scope) := by
  refine ⟨?_, i.ns, fun x => rfl⟩
  show relabel scope X.env = relS scope s.sc
  rw [← i.sc]
  rfl
theorem isKds_one {x : D} {k : Kd} : isKds S x [k] = isKd S x k := by
  unfold isKds
  cases isKd S x k with
  | none => rfl
  | some b => cases b <;> rfl
theorem ownN_snd {ns : List Str} : ∀ own : List Nat, (ownN ns own).map (·.2) = own
  | [] => rfl
  | i :: r => by
    unfold ownN
    rw [List.map_cons, List.map_cons]
    exact congrArg _ (ownN_snd r)
theorem subN_ok : ∀ {is l : List Nat}, subN is l = true → ∀ i ∈ is, i ∈ l
  | [], _, _, i, h => by cases h
  | j :: is, l, h, i, hi => by
    simp only [subN, Bool.and_eq_true] at h
    rcases List.mem_cons.mp hi with rfl | hi
    · simpa using h.1
    · exact subN_ok h.2 i hi
theorem okTgs_ok (nd : X.N.Nodup) (i : In X s) : ∀ {is : List Nat} {xs : List Expr}, okTg.okTgs s is xs = true → PGs X xs (gNs is) ∧ (assignEach xs X.env).length = is.length ∧ (assignEach xs X.env).findIdx? (·.1) = none ∧ (assignEach xs X.env).any (·.1) = false
  | [], [], _ => ⟨pgs_nil, rfl, rfl, rfl⟩
  | [], _ :: _, h => by cases h
  | _ :: _, [], h => by cases h
  | j :: is, x :: xs, h => by
    cases x <;> first | (cases h; done) | skip
    rename_i n p
    simp only [okTg.okTgs, Bool.and_eq_true] at h
    obtain ⟨h1, h2, h3, h4⟩ := okTgs_ok nd i h.2
    obtain ⟨l1, l2⟩ := i.loc h.1.2
    have he : assignEach (.Name n p :: xs) X.env = (false, assign (.Name n p) X.env) :: assignEach xs X.env := rfl
    refine ⟨pgs_cons (pg_name nd (by rw [i.ns]; exact nsAt_ok h.1.1) l1 l2) h1, ?_, ?_, ?_⟩
    · rw [he, List.length_cons, List.length_cons, h2]
    · rw [he, List.findIdx?_cons, h3]; rfl
    · rw [he, List.any_cons, h4]; rfl
theorem okTg_ok (hc : X.calm = true) (nd : X.N.Nodup) (i : In X s) {is : List Nat} {t : Expr} (h : okTg s is t = true) : PG X t (gT X.K is) := by
  have many : ∀ (is : List Nat) (xs : List Expr) (k : Nat) (p : Pos), okTg.okTgs s is xs = true → PG X (.Tuple xs k p) (gTup X.K is.length (gNs is)) := fun is xs k p h => by
    obtain ⟨h1, h2, h3, _⟩ := okTgs_ok nd i h
    exact pg_tup hc h1 h2 h3
  match is, t, h with
  | [j], .Name x p, h =>
    simp only [okTg, Bool.and_eq_true] at h
    obtain ⟨l1, l2⟩ := i.loc h.2
    exact pg_name nd (by rw [i.ns]; exact nsAt_ok h.1) l1 l2
  | [], .Tuple xs k p, h =>
    simp only [okTg, Bool.and_eq_true] at h
    exact many [] xs k p h.2
  | [j], .Tuple xs k p, h =>
    simp [okTg] at h
  | j :: l :: r, .Tuple xs k p, h =>
    simp only [okTg, Bool.and_eq_true] at h
    exact many (j :: l :: r) xs k p h.2
theorem fold_ok {e : Expr} (h : notSet e = true) (env : PySem.Env) : ∀ x, foldedSetIterable e env x = pure x := by
  intro x
  cases e <;> first | rfl | cases h
theorem boEq_ok {o : Bo} {p : Operator} (h : boEq o p = true) : p = boOp o := (of_decide_eq_true h).symm
theorem coEq_ok {o : Co} {p : CmpOp} (h : coEq o p = true) : p = coOp o := (of_decide_eq_true h).symm
theorem isB_ok (F : Fx N T C X) {x : Str} (h : T.isB x = true) : X.mg x = none := F.blt x (sIn_ok h)
theorem okC_ok {d : D} {e : Expr} (h : okC T s d e = true) : ∃ v, PE X e (tC v) ∧ (∀ H, RD N H d v) ∧ plainT e = true ∧ isBool e = false := by
  unfold okC at h
  split at h
  · exact ⟨.non, pe_non, fun _ => mk_non, rfl, rfl⟩
  · simp only [beq_iff_eq] at h; subst h; exact ⟨_, pe_bl, fun _ => mk_bl, rfl, rfl⟩
  · simp only [beq_iff_eq] at h; subst h; exact ⟨_, pe_int, fun _ => mk_int, rfl, rfl⟩
  · rw [sEq_ok h]; exact ⟨_, pe_str, fun _ => mk_str, rfl, rfl⟩
  · cases h
theorem isC_ok (F : Fx N T C X) {x : Str} {d : D} (h : T.isC x d = true) : ∃ v u, X.mg x = some u ∧ RelV v u ∧ ∀ H, RD N H d v := by
  unfold Tb.isC at h
  split at h
  · rename_i e he
    have := F.glob _ _ (sLook_ok he)
    rw [beqD_ok _ _ h]
    exact this
  · cases h
theorem isF_ok (F : Fx N T C X) {x : Str} {f : Nat} (h : T.isF x f = true) : X.mg x = some (.ref (N.fa f)) ∧ PySem.W.keepIn X.K (.ref (N.fa f)) = true := by
  unfold Tb.isF at h
  split at h
  · rename_i g he
    have := F.glob _ _ (sLook_ok he)
    simp only [beq_iff_eq] at h
    rw [h]
    exact this
  · cases h
theorem plain_or {e : Expr} (h : plainT e = true) : isBool e = false → (testable e = true → plainT e = true) := fun _ _ => h
/-- an end of a slice -/
theorem okO_ok {lo : E} {l : Option Expr} {Ex : D → Env → Sta → Prop} (h : (match l with
        | none => isNil lo
        | some y => !isNil lo && okE T lo s y) = true) (ih : ∀ y, l = some y → okE T lo s y = true → PE X y (tOf N Z (wX C Ex lo))) :
    PO X l (tEnd N Z fun ρ S Q => wX C Ex lo ρ S fun d S2 => endD lo d fun o => Q o S2) := by
  cases l with
  | none =>
    cases lo <;> first | (cases h; done) | skip
    exact ⟨fun pins s σ H Q I ⟨ρ, S, Qe, rs, rh, fz, w, k⟩ => by
      simp only [wX, wE, endD] at w
      exact ho_none.run pins s σ H Q I ⟨ρ, S, Qe, rs, rh, fz, w, k⟩⟩
  | some y =>
    simp only [Bool.and_eq_true, Bool.not_eq_true'] at h
    have e := ih y rfl h.2
    refine ⟨fun pins s σ H Q I ⟨ρ, S, Qe, rs, rh, fz, w, k⟩ => (ho_some e).run pins s σ H Q I ⟨ρ, S, Qe, rs, rh, fz, ?_, k⟩⟩
    have eq : (fun (d : D) (S2 : Sta) => endD lo d fun o => Qe o S2) = fun d S2 => ∃ i, d = .int i ∧ Qe (some i) S2 := by
      funext d S2
      cases lo <;> first | (cases h.1; done) | skip
      all_goals (cases d <;> simp [endD])
    have w' : wX C Ex lo ρ S (fun (d : D) (S2 : Sta) => endD lo d fun o => Qe o S2) := w
    rw [eq] at w'
    exact w'
end
end A
end
section
set_option Elab.async false
set_option linter.all false
set_option maxRecDepth 100000
set_option maxHeartbeats 4000000
/-! A17: what the check says of expressions, proved. -/
namespace A
open PySem L2 PyProof.Rows
section
variable {N : Nm} {T : Tb} {C : Orc}
/-- what is said of an expression, in every context -/
def Snd (N : Nm) (T : Tb) (C : Orc) (ir : E) : Prop := ∀ (Z : Sta × Hp) (X : Cx) (s : Sx) (Ex : D → Env → Sta → Prop) (e : Expr), Fx N T C X → In X s → L2.Takes X (xOf N Z Ex) → okE T ir s e = true → J N Z X e (wX C Ex ir)
def SndL (N : Nm) (T : Tb) (C : Orc) (ir : Es) : Prop := ∀ (Z : Sta × Hp) (X : Cx) (s : Sx) (Ex : D → Env → Sta → Prop) (es : List Expr), Fx N T C X → In X s → L2.Takes X (xOf N Z Ex) → okEs T ir s es = true → PA X es (tA N Z (wXs C Ex ir)) ∧ es.all plainA = true
def SndI (N : Nm) (T : Tb) (C : Orc) (ir : A.It) : Prop := ∀ (Z : Sta × Hp) (X : Cx) (s : Sx) (Ex : D → Env → Sta → Prop) (t e : Expr), Fx N T C X → In X s → L2.Takes X (xOf N Z Ex) → okIt T ir s t e = true → PI X t e (tI N Z (wXi C Ex ir))
variable {a b c t : E} {es : Es}
theorem s_nev : Snd N T C .nev := fun Z X s Ex e F i tk h => J.never fun ρ S Q => by simp only [wX_def, wE]; exact id
theorem s_v {j : Nat} : Snd N T C (.v j) := fun Z X s Ex e F i tk h => by
  simp only [okE] at h
  split at h
  · rename_i x p
    simp only [Bool.and_eq_true] at h
    obtain ⟨n1, n2, _⟩ := okName_ok h.2
    exact J.plain F.hK (by simp only [wX_def, wE]; exact he_v (by rw [i.ns]; exact nsAt_ok h.1.2) (i.vis h.1.1) n1 n2) rfl fun _ => rfl
  · cases h
theorem s_c {d : D} : Snd N T C (.c d) := fun Z X s Ex e F i tk h => by
  simp only [okE] at h
  split at h
  · rename_i x p
    simp only [Bool.and_eq_true] at h
    obtain ⟨n1, n2, _⟩ := okName_ok h.1.2
    obtain ⟨v, u, h1, h2, h3⟩ := isC_ok F h.2
    exact J.plain F.hK (by simp only [wX_def, wE]; exact he_c (pe_glob (i.gl h.1.1) h1 h2 n1) h3) rfl fun _ => rfl
  · obtain ⟨v, h1, h2, h3, h4⟩ := okC_ok (X := X) (N := N) h
    exact J.plain F.hK (by simp only [wX_def, wE]; exact he_c h1 h2) h4 fun _ => h3
theorem s_bin {o : Bo} (ia : Snd N T C a) (ib : Snd N T C b) : Snd N T C (.bin o a b) := fun Z X s Ex e F i tk h => by
  simp only [okE] at h
  split at h
  · simp only [Bool.and_eq_true] at h
    rw [boEq_ok h.1.1]
    exact J.plain F.hK (by simp only [wX_def, wE]; exact he_bin F.hK (ia Z X s Ex _ F i tk h.1.2).pe (ib Z X s Ex _ F i tk h.2).pe) rfl fun _ => rfl
  · cases h
theorem s_neg (ia : Snd N T C a) : Snd N T C (.neg a) := fun Z X s Ex e F i tk h => by
  simp only [okE] at h
  split at h
  · exact J.nt (by simp only [wX_def, wE]; exact he_neg (ia Z X s Ex _ F i tk h).pe) rfl rfl
  · cases h
theorem s_not (ia : Snd N T C a) : Snd N T C (.not a) := fun Z X s Ex e F i tk h => by
  simp only [okE] at h
  split at h
  · simp only [Bool.and_eq_true] at h
    have j := ia Z X s Ex _ F i tk h.2
    exact ⟨by simp only [wX_def, wE]; exact he_not F.hK j.pe, fun _ => by simp only [wX_def, wE]; exact ht_not (j.pt h.1), fun z => by cases z⟩
  · cases h
theorem s_and (ia : Snd N T C a) (ib : Snd N T C b) : Snd N T C (.and a b) := fun Z X s Ex e F i tk h => by
  simp only [okE] at h
  split at h
  · simp only [Bool.and_eq_true] at h
    have j := ia Z X s Ex _ F i tk h.1.2
    have k := ib Z X s Ex _ F i tk h.2
    have pw : ∀ p, PW X _ (tT N Z (wX C Ex (.and a b))) := fun p => by simp only [wX_def, wE]; exact hw_and (pos := p) (j.pt h.1.1.1) (hw_and1 (k.pt h.1.1.2))
    exact ⟨by simp only [wX_def, wE]; exact he_and F.hK j.pe (he_bool1 k.pe), fun _ => (pw _).pt, fun _ => pw _⟩
  · simp only [Bool.and_eq_true] at h
    have j := ia Z X s Ex _ F i tk h.1.2
    have k := ib Z X s Ex _ F i tk h.2
    rename_i x y z r p
    have pw : PW X (.BoolOp .And (x :: y :: z :: r) p) (tT N Z (wX C Ex (.and a b))) := by simp only [wX_def, wE]; exact hw_and (j.pt h.1.1) (k.pw rfl)
    exact ⟨by simp only [wX_def, wE]; exact he_and F.hK j.pe k.pe, fun _ => pw.pt, fun _ => pw⟩
  · cases h
theorem s_or (ia : Snd N T C a) (ib : Snd N T C b) : Snd N T C (.or a b) := fun Z X s Ex e F i tk h => by
  simp only [okE] at h
  split at h
  · simp only [Bool.and_eq_true] at h
    have j := ia Z X s Ex _ F i tk h.1.2
    have k := ib Z X s Ex _ F i tk h.2
    have pw : ∀ p, PW X _ (tT N Z (wX C Ex (.or a b))) := fun p => by simp only [wX_def, wE]; exact hw_or (pos := p) (j.pt h.1.1.1) (hw_or1 (k.pt h.1.1.2))
    exact ⟨by simp only [wX_def, wE]; exact he_or F.hK j.pe (he_bool1 k.pe), fun _ => (pw _).pt, fun _ => pw _⟩
  · simp only [Bool.and_eq_true] at h
    have j := ia Z X s Ex _ F i tk h.1.2
    have k := ib Z X s Ex _ F i tk h.2
    rename_i x y z r p
    have pw : PW X (.BoolOp .Or (x :: y :: z :: r) p) (tT N Z (wX C Ex (.or a b))) := by simp only [wX_def, wE]; exact hw_or (j.pt h.1.1) (k.pw rfl)
    exact ⟨by simp only [wX_def, wE]; exact he_or F.hK j.pe k.pe, fun _ => pw.pt, fun _ => pw⟩
  · cases h
theorem s_cmp {o : Co} (ia : Snd N T C a) (ib : Snd N T C b) : Snd N T C (.cmp o a b) := fun Z X s Ex e F i tk h => by
  simp only [okE] at h
  split at h
  · simp only [Bool.and_eq_true, Bool.not_eq_true'] at h
    obtain ⟨⟨⟨h1, h2⟩, h3⟩, h4⟩ := h
    have e := coEq_ok h1
    subst e
    have j := ia Z X s Ex _ F i tk h3
    have k := ib Z X s Ex _ F i tk h4
    exact ⟨by simp only [wX_def, wE]; exact he_cmp (F.cmp o) j.pe k.pe h2, fun _ => by simp only [wX_def, wE]; exact ht_cmp (F.cmp o) j.pe k.pe h2, fun z => by cases z⟩
  · cases h
theorem s_chn {o o' : Co} (ia : Snd N T C a) (ib : Snd N T C b) (ic : Snd N T C c) : Snd N T C (.chn a o b o' c) := fun Z X s Ex e F i tk h => by
  simp only [okE] at h
  split at h
  · simp only [Bool.and_eq_true, Bool.not_eq_true'] at h
    obtain ⟨⟨⟨⟨⟨h1, h2⟩, h3⟩, h4⟩, h5⟩, h6⟩ := h
    have e := coEq_ok h1
    have e' := coEq_ok h2
    subst e e'
    have j := ia Z X s Ex _ F i tk h4
    have k := ib Z X s Ex _ F i tk h5
    have l := ic Z X s Ex _ F i tk h6
    exact ⟨by simp only [wX_def, wE]; exact he_chn (F.cmp o) (F.cmp o') j.pe k.pe l.pe h3, fun _ => by simp only [wX_def, wE]; exact ht_chn (F.cmp o) (F.cmp o') j.pe k.pe l.pe h3, fun z => by cases z⟩
  · cases h
theorem s_ite (it : Snd N T C t) (ia : Snd N T C a) (ib : Snd N T C b) : Snd N T C (.ite t a b) := fun Z X s Ex e F i tk h => by
  simp only [okE] at h
  split at h
  · simp only [Bool.and_eq_true] at h
    exact J.nt (by simp only [wX_def, wE]; exact he_ite ((it Z X s Ex _ F i tk h.1.1.2).pt h.1.1.1) (ia Z X s Ex _ F i tk h.1.2).pe (ib Z X s Ex _ F i tk h.2).pe) rfl rfl
  · cases h
theorem s_tup (ie : SndL N T C es) : Snd N T C (.tup es) := fun Z X s Ex e F i tk h => by
  simp only [okE] at h
  split at h
  · exact J.plain F.hK (by simp only [wX_def, wE]; exact he_tup (ie Z X s Ex _ F i tk h).1) rfl fun _ => rfl
  · cases h
theorem s_lst (ie : SndL N T C es) : Snd N T C (.lst es) := fun Z X s Ex e F i tk h => by
  simp only [okE] at h
  split at h
  · exact J.plain F.hK (by simp only [wX_def, wE]; exact he_lst (ie Z X s Ex _ F i tk h).1) rfl fun _ => rfl
  · cases h
theorem s_ix (ia : Snd N T C a) (ib : Snd N T C b) : Snd N T C (.ix a b) := fun Z X s Ex e F i tk h => by
  simp only [okE] at h
  split at h
  · simp only [Bool.and_eq_true] at h
    exact J.plain F.hK (by simp only [wX_def, wE]; exact he_ix F.hK F.u1 (ia Z X s Ex _ F i tk h.1.2).pe (ib Z X s Ex _ F i tk h.2).pe h.1.1) rfl fun _ => rfl
  · cases h
theorem s_sl (ia : Snd N T C a) (ib : Snd N T C b) (ic : Snd N T C c) : Snd N T C (.sl a b c) := fun Z X s Ex e F i tk h => by
  simp only [okE] at h
  split at h
  · rw [Bool.and_eq_true, Bool.and_eq_true] at h
    have h1 := okO_ok (N := N) (Z := Z) (X := X) (C := C) (Ex := Ex) h.1.2 fun y _ hy => (ib Z X s Ex y F i tk hy).pe
    have h2 := okO_ok (N := N) (Z := Z) (X := X) (C := C) (Ex := Ex) h.2 fun y _ hy => (ic Z X s Ex y F i tk hy).pe
    exact J.plain F.hK (by simp only [wX_def, wE]; exact he_sl F.hK (ia Z X s Ex _ F i tk h.1.1).pe h1 h2) rfl fun _ => rfl
  · cases h
theorem s_b1 {o : B1} (ia : Snd N T C a) : Snd N T C (.b1 o a) := fun Z X s Ex e F i tk h => by
  simp only [okE] at h
  split at h
  · simp only [Bool.and_eq_true] at h
    obtain ⟨⟨⟨⟨⟨h1, h2⟩, h3⟩, h4⟩, h5⟩, h6⟩ := h
    have e := sEq_ok h2
    subst e
    exact J.plain F.hK (by simp only [wX_def, wE]; exact he_b1 F.hK F.calm F.own' h1 (i.gl h3) (isB_ok F h4) (ia Z X s Ex _ F i tk h6).pe h5) rfl fun _ => rfl
  · cases h
theorem s_b2 {o : B2} (ia : Snd N T C a) (ib : Snd N T C b) : Snd N T C (.b2 o a b) := fun Z X s Ex e F i tk h => by
  simp only [okE] at h
  split at h
  · simp only [Bool.and_eq_true] at h
    obtain ⟨⟨⟨⟨⟨⟨h1, h2⟩, h3⟩, h4⟩, h5⟩, h6⟩, h7⟩ := h
    have e := sEq_ok h1
    subst e
    exact J.plain F.hK (by simp only [wX_def, wE]; exact he_b2 F.calm (i.gl h2) (isB_ok F h3) (ia Z X s Ex _ F i tk h6).pe (ib Z X s Ex _ F i tk h7).pe h4 h5) rfl fun _ => rfl
  · cases h
theorem s_bm {m : Bm} (io : Snd N T C a) (ie : SndL N T C es) : Snd N T C (.bm m a es) := fun Z X s Ex e F i tk h => by
  simp only [okE] at h
  split at h
  · rename_i x f ap p2 xs cp
    simp only [Bool.and_eq_true, decide_eq_true_eq] at h
    obtain ⟨⟨⟨⟨⟨⟨h1, h2⟩, h3⟩, h4⟩, h5⟩, h6⟩, h7⟩ := h
    have e := sEq_ok h2
    subst e
    have j := (io Z X s Ex _ F i tk h6).pe
    obtain ⟨k1, k2⟩ := ie Z X s Ex _ F i tk h7
    cases xs with
    | nil =>
      cases es with
      | nil => exact J.plain F.hK (by simp only [wX_def, wE, wEs]; exact he_bm0 F.hK F.u1 h1 j h3 h4) rfl fun _ => rfl
      | cons _ _ => simp only [okEs] at h7; cases h7
    | cons y ys => exact J.plain F.hK (by simp only [wX_def, wE]; exact he_bm F.hK F.u1 h1 j k1 h3 h4 k2 h5) rfl fun _ => rfl
  · cases h
theorem s_isi {ks : List Kd} (ia : Snd N T C a) : Snd N T C (.isi a ks) := fun Z X s Ex e F i tk h => by
  match ks, h with
  | [k], h =>
    simp only [okE] at h
    split at h
    · simp only [Bool.and_eq_true] at h
      obtain ⟨⟨⟨⟨⟨⟨⟨⟨h1, h2⟩, h3⟩, h4⟩, h5⟩, h6⟩, h7⟩, h8⟩, h9⟩ := h
      have e := sEq_ok h2
      subst e
      have w := fun pos p p2 => he_isi (pos := pos) (p := p) (p2 := p2) F.hK h1 (sEq_ok h3) (i.gl h4) (isB_ok F h6) (i.gl h5) (isB_ok F h7) (ia Z X s Ex _ F i tk h9).pe h8
      exact J.plain F.hK (by simp only [wX_def, wE, isKds_one]; exact w _ _ _) rfl fun _ => rfl
    · cases h
  | [], h => simp only [okE] at h; cases h
  | _ :: _ :: _, h => simp only [okE] at h; cases h
theorem s_call {f : Nat} {sh : Shp} (ie : SndL N T C es) : Snd N T C (.call f sh es) := fun Z X s Ex e F i tk h => by
  cases sh with
  | perm l => simp only [okE] at h; cases h
  | app ds =>
    simp only [okE] at h
    split at h
    · rename_i g p2 xs cp
      simp only [Bool.and_eq_true] at h
      obtain ⟨⟨⟨⟨h1, h2⟩, h3⟩, h4⟩, h5⟩ := h
      obtain ⟨k1, k2⟩ := ie Z X s Ex _ F i tk h5
      obtain ⟨g1, g2⟩ := isF_ok F h1
      have co := F.call _ _ _ (hasCall_ok h4)
      obtain ⟨n1, _, _⟩ := okName_ok h3
      cases xs with
      | nil =>
        cases es with
        | nil => exact J.plain F.hK (by simp only [wX_def, wE, wEs, place]; exact he_call0 tk co (i.gl h2) g1 g2 n1) rfl fun _ => rfl
        | cons _ _ => simp only [okEs] at h5; cases h5
      | cons y ys => exact J.plain F.hK (by simp only [wX_def, wE, place]; exact he_call tk co (i.gl h2) g1 g2 n1 k1 k2) rfl fun _ => rfl
    · cases h
end
end A
end
section
set_option Elab.async false
set_option linter.all false
set_option maxRecDepth 100000
set_option maxHeartbeats 4000000
/-! A18: comprehensions and iterables; the theorem of expressions. -/
namespace A
open PySem L2 PyProof.Rows
section
variable {N : Nm} {T : Tb} {C : Orc} {a b c t : E} {es : Es}
theorem s_nilL : SndL N T C .nil := fun Z X s Ex es F i tk h => by
  simp only [okEs] at h
  split at h
  · exact ⟨by simp only [wXs_def, wEs]; exact ha_nil, rfl⟩
  · cases h
theorem s_consL (ia : Snd N T C a) (ir : SndL N T C es) : SndL N T C (.cons a es) := fun Z X s Ex xs F i tk h => by
  simp only [okEs] at h
  split at h
  · simp only [Bool.and_eq_true] at h
    obtain ⟨k1, k2⟩ := ir Z X s Ex _ F i tk h.2
    exact ⟨by simp only [wXs_def, wEs]; exact ha_cons (ia Z X s Ex _ F i tk h.1.2).pe k1 h.1.1, by rw [List.all_cons, h.1.1, k2]; rfl⟩
  · cases h
theorem s_seq (ia : Snd N T C a) : SndI N T C (.seq a) := fun Z X s Ex t e F i tk h => by
  simp only [okIt] at h
  simp only [wXi_def, wIt]
  exact hi_seq F.hK (ia Z X s Ex _ F i tk h).pe
theorem s_rng (ia : Snd N T C a) : SndI N T C (.rng a) := fun Z X s Ex t e F i tk h => by
  simp only [okIt] at h
  split at h
  · simp only [Bool.and_eq_true] at h
    obtain ⟨⟨⟨⟨h1, h2⟩, h3⟩, h4⟩, h5⟩ := h
    have e := sEq_ok h1
    subst e
    simp only [wXi_def, wIt]
    exact hi_rng (i.gl h2) (isB_ok F h3) (ia Z X s Ex _ F i tk h5).pe h4
  · cases h
theorem s_enm {st : Nat} (ia : Snd N T C a) : SndI N T C (.enm a st) := fun Z X s Ex t e F i tk h => by
  simp only [okIt] at h
  split at h
  · simp only [Bool.and_eq_true, beq_iff_eq] at h
    obtain ⟨⟨⟨⟨⟨h0, h1⟩, h2⟩, h3⟩, h4⟩, h5⟩ := h
    have e := sEq_ok h1
    subst e h0
    simp only [wXi_def, wIt]
    exact hi_enm F.hK (i.gl h2) (isB_ok F h3) (ia Z X s Ex _ F i tk h5).pe h4
  · cases h
theorem s_zip {st : Bool} (ia : Snd N T C a) (ib : Snd N T C b) : SndI N T C (.zip a b st) := fun Z X s Ex t e F i tk h => by
  simp only [okIt] at h
  split at h
  · simp only [Bool.and_eq_true, Bool.not_eq_true'] at h
    obtain ⟨⟨⟨⟨⟨⟨⟨h0, h1⟩, h2⟩, h3⟩, h4⟩, h5⟩, h6⟩, h7⟩ := h
    have e := sEq_ok h1
    subst e h0
    have w := fun pos p tpos elts kk => hi_zip (pos := pos) (p := p) (tpos := tpos) (elts := elts) (kk := kk) F.hK (i.gl h2) (isB_ok F h3) (ia Z X s Ex _ F i tk h6).pe (ib Z X s Ex _ F i tk h7).pe h4 h5
    refine piimp (w _ _ _ _ _) fun σ H R ⟨ρ, S, Qi, rs, rh, fz, q, k⟩ => ⟨ρ, S, Qi, rs, rh, fz, ?_, k⟩
    simpa only [wXi_def, wIt, true_and, hZip, wX_def] using q
  · cases h
theorem ifs_cases {s : Sx} {cond : E} {ifs : List Expr} (h : (match ifs with
        | [] => (match cond with
          | .c (.bl true) => true
          | _ => false)
        | [y] => testable y && okE T cond s y
        | _ => false) = true) : (ifs = [] ∧ cond = .c (.bl true)) ∨ ∃ y, ifs = [y] ∧ testable y = true ∧ okE T cond s y = true := by
  cases ifs with
  | nil =>
    refine .inl ⟨rfl, ?_⟩
    dsimp only at h
    split at h
    · rfl
    · cases h
  | cons y r =>
    cases r with
    | nil =>
      simp only [Bool.and_eq_true] at h
      exact .inr ⟨y, rfl, h.1, h.2⟩
    | cons _ _ => cases h
theorem ifs_ok {Z : Sta × Hp} {X : Cx} {s : Sx} {cond : E} {ifs : List Expr} (ic : Snd N T C cond) (F : Fx N T C X) (i : In X s) (h : (ifs = [] ∧ cond = .c (.bl true)) ∨ ∃ y, ifs = [y] ∧ testable y = true ∧ okE T cond s y = true) : PTs X ifs (tT N Z (wX C (fun _ _ _ => False) cond)) := by
  rcases h with ⟨rfl, rfl⟩ | ⟨y, rfl, h1, h2⟩
  · refine ⟨fun pins s σ H Q I ⟨ρ, S, Qx, rs, rh, fz, q, k⟩ => pts_nil.run pins s σ H Q I ?_⟩
    simp only [wX_def, wE] at q
    exact k _ S H Fr.refl rh q
  · exact pts_one ((ic Z X s _ y F i takesF h2).pt h1)
theorem lcOk {Z : Sta × Hp} {X : Cx} {s : Sx} {Ex : D → Env → Sta → Prop} {elt cond : E} {own tg : List Nat} {it : A.It} {x t i : Expr} {ifs : List Expr} {scope : Scope} (ie : Snd N T C elt) (ic : Snd N T C cond) (ii : SndI N T C it) (F : Fx N T C X) (iX : In X s) (tk : L2.Takes X (xOf N Z Ex))
    (h1 : okIt T it s t i = true) (h2 : okTg (s.blk scope) tg t = true) (h3 : blkC s.ns s.sc scope (ownN s.ns own) = true) (h4 : subN tg own = true) (h5 : notSet i = true) (h6 : okE T elt (s.blk scope) x = true)
    (h7 : (ifs = [] ∧ cond = .c (.bl true)) ∨ ∃ y, ifs = [y] ∧ testable y = true ∧ okE T cond (s.blk scope) y = true) : LcOk N Z X x t i ifs scope (ownN s.ns own) tg (wXi C Ex it) (wX C (fun _ _ _ => False) cond) (wX C (fun _ _ _ => False) elt) where
  calm := F.calm
  nd := F.nd
  it := ii Z X s Ex t i F iX tk h1
  ok := by rw [iX.ns, iX.sc]; exact blkOk_by h3
  tg := fun sh H Cl cl fp => okTg_ok (X := X.blk sh H scope (compEnvC scope cl Cl X.env) fp) F.calm F.nd iX.blk h2
  cond := fun sh H Cl cl fp => ifs_ok ic (F.blk sh H scope _ fp) iX.blk h7
  elt := fun sh H Cl cl fp => (ie Z _ (s.blk scope) _ x (F.blk sh H scope _ fp) iX.blk takesF h6).pe
  fold := fold_ok h5 _
  sub := fun j hj => by rw [ownN_snd]; exact subN_ok h4 j hj
theorem s_lc {elt cond : E} {own tg : List Nat} {it : A.It} (ie : Snd N T C elt) (ic : Snd N T C cond) (ii : SndI N T C it) : Snd N T C (.lc elt own tg it cond) := fun Z X s Ex e F iX tk h => by
  simp only [okE] at h
  split at h
  · rename_i x t i ifs scope p
    rw [Bool.and_eq_true, Bool.and_eq_true, Bool.and_eq_true, Bool.and_eq_true, Bool.and_eq_true, Bool.and_eq_true] at h
    obtain ⟨⟨⟨⟨⟨⟨h1, h2⟩, h3⟩, h4⟩, h5⟩, h6⟩, h7⟩ := h
    have L := lcOk (Z := Z) ie ic ii F iX tk h1 h2 h3 h4 h5 h6 (ifs_cases h7)
    have w := fun pos => he_lc (pos := pos) F.hK L
    rw [ownN_snd] at w
    exact J.nt (by simp only [wX_def, wE]; exact w _) rfl rfl
  · cases h
end
section
variable (N : Nm) (T : Tb) (C : Orc)
mutual
theorem sE : ∀ ir : E, Snd N T C ir
  | .nev => s_nev
  | .v _ => s_v
  | .c _ => s_c
  | .bin _ a b => s_bin (sE a) (sE b)
  | .neg a => s_neg (sE a)
  | .not a => s_not (sE a)
  | .and a b => s_and (sE a) (sE b)
  | .or a b => s_or (sE a) (sE b)
  | .cmp _ a b => s_cmp (sE a) (sE b)
  | .chn a _ b _ c => s_chn (sE a) (sE b) (sE c)
  | .ite t a b => s_ite (sE t) (sE a) (sE b)
  | .tup es => s_tup (sEs es)
  | .lst es => s_lst (sEs es)
  | .ix a b => s_ix (sE a) (sE b)
  | .sl a b c => s_sl (sE a) (sE b) (sE c)
  | .b1 _ a => s_b1 (sE a)
  | .b2 _ a b => s_b2 (sE a) (sE b)
  | .bm _ o es => s_bm (sE o) (sEs es)
  | .isi a _ => s_isi (sE a)
  | .call _ _ es => s_call (sEs es)
  | .lc elt _ _ it cond => s_lc (sE elt) (sE cond) (sI it)
  | .dct _ => fun _ _ _ _ _ _ _ _ h => by simp only [okE] at h; cases h
  | .gix _ _ => fun _ _ _ _ _ _ _ _ h => by simp only [okE] at h; cases h
  | .gget _ _ _ => fun _ _ _ _ _ _ _ _ h => by simp only [okE] at h; cases h
  | .at _ _ => fun _ _ _ _ _ _ _ _ h => by simp only [okE] at h; cases h
  | .callv _ _ => fun _ _ _ _ _ _ _ _ h => by simp only [okE] at h; cases h
  | .new _ _ _ _ => fun _ _ _ _ _ _ _ _ h => by simp only [okE] at h; cases h
  | .meth _ _ _ _ => fun _ _ _ _ _ _ _ _ h => by simp only [okE] at h; cases h
  | .lcD _ _ _ _ _ _ => fun _ _ _ _ _ _ _ _ h => by simp only [okE] at h; cases h
  | .fs _ => fun _ _ _ _ _ _ _ _ h => by simp only [okE] at h; cases h
  | .nil => fun _ _ _ _ _ _ _ _ h => by simp only [okE] at h; cases h
theorem sEs : ∀ ir : Es, SndL N T C ir
  | .nil => s_nilL
  | .cons a r => s_consL (sE a) (sEs r)
theorem sI : ∀ ir : A.It, SndI N T C ir
  | .seq a => s_seq (sE a)
  | .rng a => s_rng (sE a)
  | .enm a _ => s_enm (sE a)
  | .zip a b _ => s_zip (sE a) (sE b)
end
end
end A
end
section
set_option Elab.async false
set_option linter.all false
set_option maxRecDepth 100000
set_option maxHeartbeats 4000000
/-! A19: the check of statements, and what it says. -/
namespace A
open PySem L2 PyProof.Rows
/-- no comprehension as a whole -/
def notComp : Expr → Bool
  | .ListComp _ _ _ _ => false
  | .SetComp _ _ _ _ => false
  | .DictComp _ _ _ _ _ => false
  | _ => true
def isTup : Expr → Bool
  | .Tuple _ _ _ => true
  | _ => false
def isName : Expr → Bool
  | .Name _ _ => true
  | _ => false
theorem swaps_not {v : Expr} (h : notComp v = true) (t : Option Expr) (l : Nat) (env : PySem.Env) : swapsWith v t l env = pure false := by
  cases v <;> first | rfl | cases h
mutual
def okS (T : Tb) : S → Sx → Stmt → Bool
  | .nev, _, _ => true
  | .asg t e, s, st => (match t, st with
    | .n is, .Assign [tg] v sp => (match e, v with
      | .lc elt own tgs it cond, .ListComp x [⟨t, i, ifs, 0⟩] scope p => (match tg with
        | .Name y py => (match is with
          | [j] => (nsAt s.ns j y && (match s.sc.names.lookup y with
              | some .local => true
              | _ => false) && py.line == p.line && !(scope.names.any fun (n, k) => n == y && (k == .local || k == .cell)) && okE T e s v) ||
            ((match s.sc.names.lookup y with
              | some .cell => true
              | _ => false) && okTg s is tg && okE T e s v)
          | _ => false)
        | _ => false)
      | _, _ => notComp v && (isName tg || !isTup v) && okTg s is tg && okE T e s v)
    | .ix a i, .Assign [.Subscript x y _] v sp => notComp v && plainIx y && okE T e s v && okE T a s x && okE T i s y
    | _, _ => false)
  | .aug o i e, s, st => (match st with
    | .AugAssign (.Name x _) op v _ => boEq o op && nsAt s.ns i x && s.loc x && okE T e s v
    | _ => false)
  | .augI o a i e, s, st => (match st with
    | .AugAssign (.Subscript x y _) op v _ => boEq o op && plainIx y && okE T a s x && okE T i s y && okE T e s v
    | _ => false)
  | .ex e, s, st => (match st with
    | .Expr v _ => notComp v && okE T e s v
    | _ => false)
  | .ret e, s, st => (match st with
    | .Return (some v) _ => okE T e s v
    | _ => false)
  | .retN, s, st => (match st with
    | .Return none _ => true
    | _ => false)
  | .ite t a b, s, st => (match st with
    | .If v x y _ => testable v && okE T t s v && okSs T a s x && okSs T b s y
    | _ => false)
  | .whl t b, s, st => (match st with
    | .While v x [] _ => testable v && okE T t s v && okSs T b s x
    | _ => false)
  | .for_ t it b, s, st => (match t, st with
    | .n is, .For tg v x [] _ => okIt T it s tg v && okTg s is tg && notSet v && okSs T b s x
    | _, _ => false)
  | .pass, s, st => (match st with
    | .Pass _ => true
    | _ => false)
  | .brk, s, st => (match st with
    | .Break _ => true
    | _ => false)
  | .cont, s, st => (match st with
    | .Continue _ => true
    | _ => false)
  | _, _, _ => false
def okSs (T : Tb) : Ss → Sx → List Stmt → Bool
  | .nil, _, l => (match l with
    | [] => true
    | _ => false)
  | .cons a r, s, l => (match l with
    | x :: xs => okS T a s x && okSs T r s xs
    | [] => false)
end
section
variable {N : Nm} {T : Tb} {C : Orc}
def SndS (N : Nm) (T : Tb) (C : Orc) (ir : S) : Prop := ∀ (Z : Sta × Hp) (X : Cx) (s : Sx) (Ex : D → Env → Sta → Prop) (st : Stmt), Fx N T C X → In X s → PassesOwn (model X.prog X.w) X.A X.env X.xe → X.env.scope.kind = .function → L2.Takes X (xOf N Z Ex) → okS T ir s st = true → PS X st (tSs N Z Ex (wS C ir))
def SndSs (N : Nm) (T : Tb) (C : Orc) (ir : Ss) : Prop := ∀ (Z : Sta × Hp) (X : Cx) (s : Sx) (Ex : D → Env → Sta → Prop) (st : List Stmt), Fx N T C X → In X s → PassesOwn (model X.prog X.w) X.A X.env X.xe → X.env.scope.kind = .function → L2.Takes X (xOf N Z Ex) → okSs T ir s st = true → PSs X st (tSs N Z Ex (wB C ir))
variable {a b c e t : E} {sa sb : Ss} {it : A.It}
theorem t_asg {tg : Tg} : SndS N T C (.asg tg e) := fun Z X s Ex st F i hp hk tk h => by
  simp only [okS] at h
  split at h
  · rename_i is t v sp
    split at h
    · rename_i elt own tgs it cond x t' i' ifs scope p
      split at h
      · rename_i y py
        split at h
        · rename_i j
          rw [Bool.or_eq_true] at h
          rcases h with h | h
          rotate_left
          · rw [Bool.and_eq_true, Bool.and_eq_true] at h
            obtain ⟨⟨h1, h2⟩, h3⟩ := h
            have hl : X.env.scope.names.lookup y = some .cell := by
              rw [i.sc]
              split at h1
              · assumption
              · cases h1
            have hs : swapsWithSole [.Name y py] (.ListComp x [⟨t', i', ifs, 0⟩] scope p) sp.line X.env = pure false := by
              have ky : X.env.kindOf y = some .cell := hl
              unfold swapsWithSole swapsWith
              simp only [ky]
              have z : (NameKind.cell == NameKind.local) = false := by decide
              simp [z]
            simp only [wS, wTg]
            exact hs_asgN (we := fun Ex => wX C Ex _) F.hK (sE N T C _ Z X s Ex _ F i tk h3).pe (okTg_ok F.calm F.nd i h2) hs rfl rfl
          simp only [Bool.and_eq_true, beq_iff_eq, Bool.not_eq_true'] at h
          obtain ⟨⟨⟨⟨h1, h2⟩, h3⟩, h4⟩, h5⟩ := h
          simp only [okE] at h5
          rw [Bool.and_eq_true, Bool.and_eq_true, Bool.and_eq_true, Bool.and_eq_true, Bool.and_eq_true, Bool.and_eq_true] at h5
          obtain ⟨⟨⟨⟨⟨⟨g1, g2⟩, g3⟩, g4⟩, g5⟩, g6⟩, g7⟩ := h5
          have L := lcOk (Z := Z) (Ex := Ex) (sE N T C elt) (sE N T C cond) (sI N T C it) F i tk g1 g2 g3 g4 g5 g6 (ifs_cases g7)
          have hl : X.env.scope.names.lookup y = some .local := by
            rw [i.sc]
            split at h2
            · assumption
            · cases h2
          have w := hs_asgLc (Ex := Ex) (wi := fun Ex => wXi C Ex it) F.hK L (i := j) (py := py) (pos := p) (spos := sp) (by rw [i.ns]; exact nsAt_ok h1) hl (sw_true hk hl (by rw [h3]; simp) h4)
          rw [ownN_snd] at w
          simp only [wS, wTg, wE]
          exact w
        · cases h
      · cases h
    · simp only [Bool.and_eq_true, Bool.or_eq_true, Bool.not_eq_true'] at h
      obtain ⟨⟨⟨h1, h2⟩, h3⟩, h4⟩ := h
      have hg := okTg_ok F.calm F.nd i h3
      have he := (sE N T C e Z X s Ex v F i tk h4).pe
      have hs : swapsWithSole [t] v sp.line X.env = pure false := swaps_not h1 _ _ _
      have hw : swappedStores [t] v X.env = pure none := by
        rcases h2 with h2 | h2
        · cases t <;> first | rfl | cases h2
        · cases v <;> first | (cases t <;> rfl) | cases h2
      have h1' : (assignEach [t] X.env).map (·.2) = [assign t X.env] := by
        cases t <;> first | rfl | (match is, h3 with | [], h3 => cases h3 | [_], h3 => cases h3 | _ :: _ :: _, h3 => cases h3)
      simp only [wS, wTg]
      exact hs_asgN (we := fun Ex => wX C Ex e) F.hK he hg hs hw h1'
  · rename_i a' i' x y p v sp
    simp only [Bool.and_eq_true] at h
    obtain ⟨⟨⟨⟨h1, h2⟩, h3⟩, h4⟩, h5⟩ := h
    simp only [wS, wTg]
    exact hs_asgI (we := fun Ex => wX C Ex e) (wa := fun Ex => wX C Ex a') (wb := fun Ex => wX C Ex i') F.u1 (sE N T C e Z X s Ex v F i tk h3).pe (sE N T C a' Z X s Ex x F i tk h4).pe (sE N T C i' Z X s Ex y F i tk h5).pe h2
  · cases h
theorem t_aug {o : Bo} {j : Nat} : SndS N T C (.aug o j e) := fun Z X s Ex st F i hp hk tk h => by
  simp only [okS] at h
  split at h
  · simp only [Bool.and_eq_true] at h
    obtain ⟨⟨⟨h1, h2⟩, h3⟩, h4⟩ := h
    obtain ⟨l1, l2⟩ := i.loc h3
    rw [boEq_ok h1]
    simp only [wS]
    exact hs_aug (we := fun Ex => wX C Ex e) F.nd (by rw [i.ns]; exact nsAt_ok h2) l1 l2 (sE N T C e Z X s Ex _ F i tk h4).pe
  · cases h
theorem t_augI {o : Bo} : SndS N T C (.augI o a b e) := fun Z X s Ex st F i hp hk tk h => by
  simp only [okS] at h
  split at h
  · simp only [Bool.and_eq_true] at h
    obtain ⟨⟨⟨⟨h1, h2⟩, h3⟩, h4⟩, h5⟩ := h
    rw [boEq_ok h1]
    simp only [wS]
    exact hs_augI (we := fun Ex => wX C Ex e) (wa := fun Ex => wX C Ex a) (wb := fun Ex => wX C Ex b) F.u1 (sE N T C a Z X s Ex _ F i tk h3).pe (sE N T C b Z X s Ex _ F i tk h4).pe (sE N T C e Z X s Ex _ F i tk h5).pe h2
  · cases h
theorem t_ex : SndS N T C (.ex e) := fun Z X s Ex st F i hp hk tk h => by
  simp only [okS] at h
  split at h
  · simp only [Bool.and_eq_true] at h
    simp only [wS]
    exact hs_ex (we := fun Ex => wX C Ex e) (sE N T C e Z X s Ex _ F i tk h.2).pe (swaps_not h.1 _ _ _)
  · cases h
theorem t_ret : SndS N T C (.ret e) := fun Z X s Ex st F i hp hk tk h => by
  simp only [okS] at h
  split at h
  · simp only [wS]
    exact hs_ret (we := fun Ex => wX C Ex e) (sE N T C e Z X s Ex _ F i tk h).pe
  · cases h
theorem t_retN : SndS N T C .retN := fun Z X s Ex st F i hp hk tk h => by
  simp only [okS] at h
  split at h
  · simp only [wS]
    exact hs_retN
  · cases h
theorem t_pass : SndS N T C .pass := fun Z X s Ex st F i hp hk tk h => by
  simp only [okS] at h
  split at h
  · simp only [wS]
    exact hs_pass
  · cases h
theorem t_brk : SndS N T C .brk := fun Z X s Ex st F i hp hk tk h => by
  simp only [okS] at h
  split at h
  · simp only [wS]
    exact hs_brk
  · cases h
theorem t_cont : SndS N T C .cont := fun Z X s Ex st F i hp hk tk h => by
  simp only [okS] at h
  split at h
  · simp only [wS]
    exact hs_cont
  · cases h
theorem t_ite (ia : SndSs N T C sa) (ib : SndSs N T C sb) : SndS N T C (.ite t sa sb) := fun Z X s Ex st F i hp hk tk h => by
  simp only [okS] at h
  split at h
  · simp only [Bool.and_eq_true] at h
    obtain ⟨⟨⟨h1, h2⟩, h3⟩, h4⟩ := h
    simp only [wS]
    exact hs_ite (wt := fun Ex => wX C Ex t) ((sE N T C t Z X s Ex _ F i tk h2).pt h1) (ia Z X s Ex _ F i hp hk tk h3) (ib Z X s Ex _ F i hp hk tk h4)
  · cases h
theorem t_whl (ia : SndSs N T C sa) : SndS N T C (.whl t sa) := fun Z X s Ex st F i hp hk tk h => by
  simp only [okS] at h
  split at h
  · simp only [Bool.and_eq_true] at h
    obtain ⟨⟨h1, h2⟩, h3⟩ := h
    simp only [wS]
    exact hs_whl (wt := fun Ex => wX C Ex t) hp ((sE N T C t Z X s Ex _ F i tk h2).pt h1) (ia Z X s Ex _ F i hp hk tk h3)
  · cases h
theorem t_for {tg : Tg} (ia : SndSs N T C sa) : SndS N T C (.for_ tg it sa) := fun Z X s Ex st F i hp hk tk h => by
  simp only [okS] at h
  split at h
  · simp only [Bool.and_eq_true] at h
    obtain ⟨⟨⟨h1, h2⟩, h3⟩, h4⟩ := h
    simp only [wS, wTg]
    exact hs_for (wi := fun Ex => wXi C Ex it) F.hK hp F.calm (sI N T C it Z X s Ex _ _ F i tk h1) (okTg_ok F.calm F.nd i h2) (ia Z X s Ex _ F i hp hk tk h4) (fold_ok h3 _)
  · cases h
theorem t_nil : SndSs N T C .nil := fun Z X s Ex st F i hp hk tk h => by
  simp only [okSs] at h
  split at h
  · simp only [wB]
    exact hss_nil
  · cases h
theorem t_cons {x : S} (ix : SndS N T C x) (ir : SndSs N T C sa) : SndSs N T C (.cons x sa) := fun Z X s Ex st F i hp hk tk h => by
  simp only [okSs] at h
  split at h
  · simp only [Bool.and_eq_true] at h
    simp only [wB]
    exact hss_cons (ix Z X s Ex _ F i hp hk tk h.1) (ir Z X s Ex _ F i hp hk tk h.2)
  · cases h
end
section
variable (N : Nm) (T : Tb) (C : Orc)
mutual
theorem sS : ∀ ir : S, SndS N T C ir
  | .nev => fun _ _ _ _ _ _ _ _ _ _ _ => hs_nev fun ρ S T => by simp only [wS]; exact id
  | .asg _ _ => t_asg
  | .aug _ _ _ => t_aug
  | .augI _ _ _ _ => t_augI
  | .ex _ => t_ex
  | .ret _ => t_ret
  | .retN => t_retN
  | .pass => t_pass
  | .brk => t_brk
  | .cont => t_cont
  | .ite _ a b => t_ite (sSs a) (sSs b)
  | .whl _ a => t_whl (sSs a)
  | .for_ _ _ a => t_for (sSs a)
  | .par _ _ _ _ => fun _ _ _ _ _ _ _ _ _ _ h => by simp only [okS] at h; cases h
  | .augA _ _ _ _ => fun _ _ _ _ _ _ _ _ _ _ h => by simp only [okS] at h; cases h
  | .forD _ _ _ _ => fun _ _ _ _ _ _ _ _ _ _ h => by simp only [okS] at h; cases h
  | .raise _ _ _ _ _ => fun _ _ _ _ _ _ _ _ _ _ h => by simp only [okS] at h; cases h
  | .try_ _ _ => fun _ _ _ _ _ _ _ _ _ _ h => by simp only [okS] at h; cases h
theorem sSs : ∀ ir : Ss, SndSs N T C ir
  | .nil => t_nil
  | .cons x r => t_cons (sS x) (sSs r)
end
end
end A
end
section
set_option Elab.async false
set_option linter.all false
set_option maxRecDepth 100000
set_option maxHeartbeats 4000000
/-! A20: the defs of the program keep what the small language says of them. -/
namespace A
open PySem L2 PyProof.Rows
section
variable {N : Nm} {T : Tb} {P : Prg} {prog : Program} {w : World} {K : PySem.W.Frag} {mg : Str → Option Value} {base : Heap}
/-- a def of the program against one of the small language -/
structure DefOk (N : Nm) (T : Tb) (K : PySem.W.Frag) (f : Nat) (F : Fn) (fd : FuncData) (ps : List Str) : Prop where
  ex : ∃ (x qual : Str) (params : Arguments) (body : List Stmt) (scope : Scope) (dvs : List V) (kws : List (Str × V)) (ns : List Str), FunD K x qual params body scope dvs kws (N.fa f) fd ∧ FnScope ns ps scope ∧ ns.length = F.n ∧
    okSs T F.body ⟨scope, ns, fun _ => true⟩ body = true
  par : ps.length = F.k
def GOk' (N : Nm) (K : PySem.W.Frag) (mg : Str → Option Value) (x : Str) : GV → Prop
  | .con d => ∃ v u, mg x = some u ∧ RelV v u ∧ ∀ H, RD N H d v
  | .fn f => mg x = some (.ref (N.fa f)) ∧ PySem.W.keepIn K (.ref (N.fa f)) = true
  | .cls c => mg x = some (.ref (N.ca c))
/-- the program's facts -/
structure Gf (N : Nm) (T : Tb) (P : Prg) (K : PySem.W.Frag) (mg : Str → Option Value) : Prop where
  hK : N.K = K
  glob : ∀ x g, (x, g) ∈ T.glob → GOk' N K mg x g
  blt : ∀ x ∈ T.blts, mg x = none
  call : ∀ f n es, (f, n, es) ∈ T.calls → ∃ F fd ps dvs ds, P f = some F ∧ DefOk N T K f F fd ps ∧ Binds K fd ps ds ∧ Vals dvs ds ∧ ∀ H, RDs N H es dvs
  own : ∀ c m, P (mth c m) = none
theorem own_none (h : ∀ c m, P (mth c m) = none) (n : Nat) (X : Cx) : OwnOk N (callW P n) X := by
  have no : ∀ c m ds S Q Xk, ¬ callW P n (mth c m) ds S Q Xk := fun c m ds S Q Xk q => by
    cases n with
    | zero => exact q
    | succ n =>
      obtain ⟨F, e, _⟩ := q
      rw [h] at e; cases e
  exact ⟨fun _ _ _ _ _ _ _ _ _ _ _ _ ⟨a, c, fs, y, S, Qh, _, _, _, _, q, _⟩ => (no _ _ _ _ _ _ q).elim, fun _ _ _ _ _ _ _ _ _ _ _ _ ⟨a, c, fs, y, S, Qh, _, _, _, _, q, _⟩ => (no _ _ _ _ _ _ q).elim,
    fun _ _ _ _ _ _ _ _ _ ⟨a, c, fs, S, Qh, _, _, _, q, _⟩ => (no _ _ _ _ _ _ q).elim, fun _ _ _ _ _ _ _ _ _ ⟨a, c, fs, S, Qh, _, _, _, q, _⟩ => (no _ _ _ _ _ _ q).elim, fun _ _ _ _ _ _ _ _ _ ⟨a, c, fs, S, Qh, _, _, _, q, _⟩ => (no _ _ _ _ _ _ q).elim⟩
theorem rds_start {ds : List D} {vs : List V} {H : Hp} {ns : List Str} {n k : Nat} (r : RDs N H ds vs) (hn : ns.length = n) (hk : ds.length = k) : RS N H (L2.start ns vs) (ds.map some ++ List.replicate (n - k) none) := by
  subst hn hk
  have hl := r.length
  refine ⟨by simp [L2.start, hl], fun i d e => ?_⟩
  have hi : i < ds.length := by
    by_cases hi : i < ds.length
    · exact hi
    · rw [List.getElem?_append_right (by simpa using hi), List.getElem?_replicate] at e
      split at e <;> cases e
  rw [List.getElem?_append_left (by simpa using hi), List.getElem?_map] at e
  obtain ⟨d', e1, e2⟩ := Option.map_eq_some_iff.mp e
  cases e2
  obtain ⟨v, e3, rv⟩ := r.get e1
  refine ⟨v, ?_, rv⟩
  unfold L2.start
  rw [List.getElem?_append_left (by simpa [← hl] using hi), List.getElem?_map, e3]
  rfl
theorem fnOk (G : Gf N T P K mg) : ∀ (n f : Nat) (F : Fn) (fd : FuncData) (ps : List Str), P f = some F → DefOk N T K f F fd ps → FnOk prog w K mg base (L2.CX prog w) n (N.fa f) fd ps (spF N (callW P n) f)
  | 0, f, F, fd, ps, _, _ => ⟨fun vs H Q E ⟨_, _, _, _, _, _, c, _⟩ => False.elim c, fun _ _ _ _ _ _ _ _ _ _ _ _ _ ⟨_, _, _, _, _, _, c, _⟩ => False.elim c⟩
  | n + 1, f, F, fd, ps, hP, hd => by
    obtain ⟨x, qual, params, body, scope, dvs, kws, ns, fD, sc, hn, hb⟩ := hd.ex
    have len : ∀ vs H Q E, spF N (callW P (n + 1)) f vs H Q E → vs.length = ps.length := fun vs H Q E ⟨ds, S, Qh, Xh, r, _, c, _⟩ => by
      obtain ⟨F', e, hl, _⟩ := c
      rw [hP] at e; cases e
      rw [← r.length, hl, hd.par]
    refine fD.ok sc len fun cdv A outer s H vs Q E hr h => ?_
    obtain ⟨ds, S, Qh, Xh, r, rh, c, k, kx⟩ := h
    obtain ⟨F', e, hl, q⟩ := c
    rw [hP] at e; cases e
    refine ⟨tSs N (S, H) (fun x _ S' => Q1 Xh x S') (wB (callW P n) F.body), ?_, ?_⟩
    · have Fx' : Fx N T (callW P n) (cxOf (L2.CX prog w) prog w K mg base ns qual scope (N.fa f) cdv A outer s H E) := by
        refine ⟨G.hK, hr.units, fun x g hx => ?_, G.blt, fun g m es hg => ?_, fun X' _ _ _ _ _ _ => own_none G.own n X', rfl, sc.nd⟩
        · have := G.glob x g hx
          cases g <;> exact this
        · obtain ⟨F2, fd2, ps2, dvs2, ds2, e2, d2, b2, v2, r2⟩ := G.call g m es hg
          exact ⟨n, fd2, ps2, dvs2, ds2, fnOk G n g F2 fd2 ps2 e2 d2, hr, b2, v2, r2⟩
      refine sSs N T (callW P n) F.body (S, H) _ ⟨scope, ns, fun _ => true⟩ _ body Fx' ⟨rfl, rfl, fun _ => rfl⟩ (passes_of rfl) sc.kind ?_ hb
      refine Takes.imp (takes_of (E := E) rfl rfl rfl rfl) fun cls d σ H' ⟨x, ρ, S', rs, rh', fz, xd, S'', sub, q⟩ => ?_
      exact kx x S'' cls d H' (fz.sub sub) (rh'.sub sub) xd q
    · refine ⟨(S, H), _, S, { nx := fun _ S' => Q1 Qh .non S', rt := Q1 Qh, ex := fun x _ S' => Q1 Xh x S' }, Fr.refl, Fr.refl, rds_start r hn hl, rh, rfl, q, ?_⟩
      exact ⟨fun ρ S' σ H' rs rh' fz ⟨S'', sub, q⟩ => k .non S'' .non H' (fz.sub sub) (rh'.sub sub) mk_non q, fun _ _ _ _ _ _ _ z => False.elim z, fun _ _ _ _ _ _ _ z => False.elim z,
        fun d S' v H' rh' fz rd ⟨S'', sub, q⟩ => k d S'' v H' (fz.sub sub) (rh'.sub sub) rd q⟩
end
end A
end
section
set_option Elab.async false
set_option linter.all false
set_option maxRecDepth 100000
set_option maxHeartbeats 4000000
/-! A21: the end. -/
namespace A
open PySem L2 PyProof.Rows
def Alls {α : Type} (Q : α → Prop) : List α → Prop
  | [] => True
  | x :: r => Q x ∧ Alls Q r
theorem Alls.mem {α : Type} {Q : α → Prop} : ∀ {l : List α}, Alls Q l → ∀ x, x ∈ l → Q x
  | [], _, x, h => by cases h
  | y :: r, a, x, h => by
    rcases List.mem_cons.mp h with rfl | h
    · exact a.1
    · exact Alls.mem a.2 x h
theorem rds_intsL {N : Nm} {H : Hp} : ∀ ns : List Int, RDs N H (ns.map .int) (ns.map V.int)
  | [] => .nil
  | n :: ns => .cons mk_int (rds_intsL ns)
theorem law_sp {N : Nm} {C : Orc} {f : Nat} {H : Hp} {a : Addr} {ns : List Int} (hO : Only H) (hS : SqL N.K H a (ns.map V.int)) (h : C f [.lis (ns.map .int)] (fun _ => none) (fun d _ => d = .bl true) fun _ _ => False) :
    spF N C f [.ref a] H (fun v _ => v = .bl true) fun _ _ _ => False := by
  refine ⟨[.lis (ns.map .int)], fun _ => none, _, _, .cons ?_ .nil, fun a o e => (by cases e), h, fun d S' v H' _ _ r e => ?_, fun x S' cls d H' _ _ _ q => q⟩
  · simp only [RD]
    refine ⟨a, ns.map V.int, rfl, ?_, rds_intsL ns⟩
    rcases hS with (hS | ⟨o, hS⟩) | hS
    · rcases hO a with z | ⟨ob, xs, z⟩
      · rw [hS] at z; cases z
      · rw [hS] at z; cases z
    · exact .inl ⟨o, hS⟩
    · exact .inr (.inr hS)
  · subst e
    exact rd_bl r
theorem walkA {l : PySem.W.OpenLaw} {n k : Nat} {q : Program} {loose : List Str} {XP : (Str → Option Value) → Heap → Prop} {YP : World → Heap → Prop} {d : DefRec} {x : Str}
    (hn : l.most = some n) (hn2 : n ≤ sizeLine) (hdf : d.params.defaults = []) (hr : Room k callerA)
    (F : ∀ (w : World) (mg : Str → Option Value) (fa : Addr) (h : Heap), YP w h → h.Ns mainGlobals mg → mg d.name = some (.ref fa) →
      ∃ (N : Nm) (C : Orc) (f : Nat) (fd : FuncData), N.K.In h ∧ (∀ (s : Shared) (u : Value), BindsTo s fd ⟨[u], []⟩ [(x, u)]) ∧
        (∀ base : Heap, N.K.In base → base.Ns mainGlobals mg → FnOk l.prog w N.K mg base (L2.CX l.prog w) k fa fd [x] (spF N C f)) ∧
        ∀ ns : List Int, ns.length ≤ n → C f [.lis (ns.map .int)] (fun _ => none) (fun d _ => d = .bl true) fun _ _ => False) :
    PySem.W.WalkO q loose XP YP l.row.toRowW d [] (fun f vs => PySem.call f vs) := by
  refine Att.attach_call hn hdf fun w s0 s1 mg mb fa o pm cd doc a vs ns G Y ho hd hcd hmg hobj hints hlen hg => ?_
  obtain ⟨N, C, f, fd, KX, hb, hF, hs⟩ := F w mg fa _ Y G.T.g hmg
  refine law_call KX G.T.g G.T.b G.T.builtins G.T.nolimit hg hobj hints (Nat.le_trans hlen hn2) hr hF hb (fun H hO hS => law_sp hO hS (hs ns hlen)) fun H e s' z => ?_
  obtain ⟨_, _, _, _, _, _, _, _, _, _, _, _, z⟩ := z
  exact z
end A
end
section
set_option Elab.async false
set_option linter.all false
set_option maxRecDepth 100000
set_option maxHeartbeats 4000000
/-! A22: rewriting rules of the wp, by the forms of the values. -/
namespace A
open PySem L2
section
variable {S : Sta} {Q : K} {C : Orc} {ρ : Env} {P : Bool → Prop} {R : Bool → Sta → Prop} {W : Sta → Prop}
theorem callW_of {P : Prg} {n f : Nat} {ds : List D} {S : Sta} {Q X : K} {F : Fn} (h : P f = some F) (hl : ds.length = F.k)
    (w : wB (callW P n) F.body (ds.map some ++ List.replicate (F.n - F.k) none) S { nx := fun _ S' => Q1 Q .non S', rt := Q1 Q, ex := fun x _ S' => Q1 X x S' }) : callW P (n + 1) f ds S Q X := ⟨F, h, hl, w⟩
theorem q1_of {Q : K} {d : D} {S : Sta} (h : Q d S) : Q1 Q d S := ⟨S, Sub.refl S, h⟩
theorem at_pos {α : Type} {l : List α} {i : Int} {a : α} (h0 : 0 ≤ i) (h : l[i.toNat]? = some a) : L2.atI l i = some a := by
  obtain ⟨j, rfl⟩ := Int.eq_ofNat_of_zero_le h0
  exact L2.atI_nat (by simpa using h)
@[simp] theorem at_0 {α : Type} (a : α) (l : List α) : L2.atI (a :: l) 0 = some a := L2.atI_nat (xs := a :: l) (j := 0) rfl
@[simp] theorem at_1 {α : Type} (a b : α) (l : List α) : L2.atI (a :: b :: l) 1 = some b := L2.atI_nat (xs := a :: b :: l) (j := 1) rfl
@[simp] theorem at_2 {α : Type} (a b c : α) (l : List α) : L2.atI (a :: b :: c :: l) 2 = some c := L2.atI_nat (xs := a :: b :: c :: l) (j := 2) rfl
@[simp] theorem at_3 {α : Type} (a b c d : α) (l : List α) : L2.atI (a :: b :: c :: d :: l) 3 = some d := L2.atI_nat (xs := a :: b :: c :: d :: l) (j := 3) rfl
/-! truth -/
def truO (o : Option MO) (P : Bool → Prop) : Prop := match o with
  | some (.lst xs) => P (!xs.isEmpty)
  | some (.dic kvs) => P (!kvs.isEmpty)
  | _ => False
@[simp] theorem tru_bl {b : Bool} : wtru S (.bl b) P = P b := rfl
@[simp] theorem tru_int {i : Int} : wtru S (.int i) P = P (i != 0) := rfl
@[simp] theorem tru_non : wtru S .non P = P false := rfl
@[simp] theorem tru_str {s : Str} : wtru S (.str s) P = (s.length ≤ sizeLine ∧ P (s.length != 0)) := rfl
@[simp] theorem tru_tup {l : List D} : wtru S (.tup l) P = P (!l.isEmpty) := rfl
@[simp] theorem tru_ref {a : Addr} : wtru S (.ref a) P = truO (S a) P := rfl
@[simp] theorem truO_lst {l : List D} : truO (some (.lst l)) P = P (!l.isEmpty) := rfl
/-! operators -/
@[simp] theorem bin_add {i j : Int} : wbin .add (.int i) (.int j) S Q = Q (.int (i + j)) S := rfl
@[simp] theorem bin_adds {i j : Str} : wbin .add (.str i) (.str j) S Q = (i.length + j.length ≤ sizeLine ∧ Q (.str (i ++ j)) S) := rfl
@[simp] theorem bin_addt {i j : List D} : wbin .add (.tup i) (.tup j) S Q = (i.length + j.length ≤ sizeLine ∧ Q (.tup (i ++ j)) S) := rfl
@[simp] theorem bin_sub {i j : Int} : wbin .sub (.int i) (.int j) S Q = Q (.int (i - j)) S := rfl
@[simp] theorem bin_mul {i j : Int} : wbin .mul (.int i) (.int j) S Q = (MulOk i j ∧ Q (.int (i * j)) S) := rfl
@[simp] theorem bin_div {i j : Int} : wbin .div (.int i) (.int j) S Q = (L2.CDivW i j ∧ Q (.int (i / j)) S) := rfl
@[simp] theorem bin_mod {i j : Int} : wbin .mod (.int i) (.int j) S Q = (0 < j ∧ Q (.int (i % j)) S) := rfl
@[simp] theorem bin_pow {i j : Int} : wbin .pow (.int i) (.int j) S Q = (L2.CPow i j ∧ Q (.int (i ^ j.toNat)) S) := rfl
@[simp] theorem ip_add {i j : Int} : wip .add (.int i) (.int j) S Q = Q (.int (i + j)) S := rfl
@[simp] theorem ip_sub {i j : Int} : wip .sub (.int i) (.int j) S Q = Q (.int (i - j)) S := rfl
/-! comparisons -/
@[simp] theorem cmp_lt {i j : Int} : wcmp C .lt (.int i) (.int j) S R = R (decide (i < j)) S := rfl
@[simp] theorem cmp_le {i j : Int} : wcmp C .le (.int i) (.int j) S R = R (decide (i ≤ j)) S := rfl
@[simp] theorem cmp_gt {i j : Int} : wcmp C .gt (.int i) (.int j) S R = R (decide (j < i)) S := rfl
@[simp] theorem cmp_ge {i j : Int} : wcmp C .ge (.int i) (.int j) S R = R (decide (j ≤ i)) S := rfl
@[simp] theorem cmp_is {x : D} : wcmp C .is x .non S R = R (match x with | .non => true | _ => false) S := rfl
@[simp] theorem cmp_isn {x : D} : wcmp C .isn x .non S R = R (match x with | .non => false | _ => true) S := rfl
@[simp] theorem cmp_eqi {i j : Int} : wcmp C .eq (.int i) (.int j) S R = R (i == j) S := rfl
@[simp] theorem cmp_eqs {i j : Str} : wcmp C .eq (.str i) (.str j) S R = R (i == j) S := rfl
@[simp] theorem cmp_eqb {i j : Bool} : wcmp C .eq (.bl i) (.bl j) S R = R (i == j) S := rfl
@[simp] theorem cmp_nei {i j : Int} : wcmp C .ne (.int i) (.int j) S R = R (!(i == j)) S := rfl
@[simp] theorem cmp_nes {i j : Str} : wcmp C .ne (.str i) (.str j) S R = R (!(i == j)) S := rfl
@[simp] theorem cmp_neb {i j : Bool} : wcmp C .ne (.bl i) (.bl j) S R = R (!(i == j)) S := rfl
@[simp] theorem cmp_inss {c z : Str} : wcmp C .inn (.str c) (.str z) S R = ∃ n, c = ⟨#[n]⟩ ∧ R (decide (n ∈ z.cps.toList)) S := rfl
/-! subscripts -/
def ixO (o : Option MO) (i : D) (S : Sta) (Q : K) : Prop := match o with
  | some (.lst l) => (match i with | .int k => ∃ d, L2.atI l k = some d ∧ Q d S | _ => False)
  | some (.dic kvs) => ∃ k d, keyD i = some k ∧ kget kvs k = some d ∧ Q d S
  | some (.dicF kvs) => ∃ k d, keyD i = some k ∧ kget kvs k = some d ∧ Q d S
  | _ => False
@[simp] theorem ix_tupI {l : List D} {k : Int} : wix (.tup l) (.int k) S Q = ∃ d, L2.atI l k = some d ∧ Q d S := rfl
@[simp] theorem ix_lisI {l : List D} {k : Int} : wix (.lis l) (.int k) S Q = ∃ d, L2.atI l k = some d ∧ Q d S := rfl
@[simp] theorem ix_strI {z : Str} {k : Int} : wix (.str z) (.int k) S Q = (z.length ≤ sizeLine ∧ ∃ n, L2.atI z.cps.toList k = some n ∧ Q (.str ⟨#[n]⟩) S) := rfl
@[simp] theorem ix_ref {a : Addr} {i : D} : wix (.ref a) i S Q = ixO (S a) i S Q := rfl
@[simp] theorem ixM_ref {a : Addr} {i : D} : wixM (.ref a) i S Q = ixO (S a) i S Q := rfl
@[simp] theorem ixO_lst {l : List D} {k : Int} : ixO (some (.lst l)) (.int k) S Q = ∃ d, L2.atI l k = some d ∧ Q d S := rfl
def setO (a : Addr) (o : Option MO) (i d : D) (S : Sta) (W : Sta → Prop) : Prop := match o with
  | some (.lst l) => (match i with | .int k => ∃ j, L2.ixN l.length k = some j ∧ W (ups S a (.lst (l.set j d))) | _ => False)
  | some (.dic kvs) => kvs.length < sizeLine ∧ ∃ k, keyD i = some k ∧ W (ups S a (.dic (kput kvs k d)))
  | _ => False
@[simp] theorem set_ref {a : Addr} {i d : D} : wsetix (.ref a) i d S W = setO a (S a) i d S W := rfl
@[simp] theorem setO_lst {a : Addr} {l : List D} {k : Int} {d : D} : setO a (some (.lst l)) (.int k) d S W = ∃ j, L2.ixN l.length k = some j ∧ W (ups S a (.lst (l.set j d))) := rfl
/-! slices -/
def slO (o : Option MO) (l h : Option Int) (S : Sta) (Q : K) : Prop := match o with
  | some (.lst xs) => ∀ p, S p = none → Q (.ref p) (ups S p (.lst (cutD xs l h)))
  | _ => False
@[simp] theorem sl_tupI {xs : List D} {l h : Option Int} : wsl (.tup xs) l h S Q = Q (.tup (cutD xs l h)) S := rfl
@[simp] theorem sl_lisI {xs : List D} {l h : Option Int} : wsl (.lis xs) l h S Q = ∀ p, S p = none → Q (.ref p) (ups S p (.lst (cutD xs l h))) := rfl
@[simp] theorem sl_strI {z : Str} {l h : Option Int} : wsl (.str z) l h S Q = (z.length ≤ sizeLine ∧ Q (.str (L2.cutS z l h)) S) := rfl
@[simp] theorem sl_ref {a : Addr} {l h : Option Int} : wsl (.ref a) l h S Q = slO (S a) l h S Q := rfl
@[simp] theorem slO_lst {xs : List D} {l h : Option Int} : slO (some (.lst xs)) l h S Q = ∀ p, S p = none → Q (.ref p) (ups S p (.lst (cutD xs l h))) := rfl
@[simp] theorem end_nil {d : D} {P : Option Int → Prop} : endD .nil d P = P none := rfl
@[simp] theorem end_c {e d : D} {P : Option Int → Prop} : endD (.c e) d P = (match d with | .int i => P (some i) | _ => False) := rfl
@[simp] theorem end_v {j : Nat} {d : D} {P : Option Int → Prop} : endD (.v j) d P = (match d with | .int i => P (some i) | _ => False) := rfl
@[simp] theorem end_bin {o : Bo} {a b : E} {d : D} {P : Option Int → Prop} : endD (.bin o a b) d P = (match d with | .int i => P (some i) | _ => False) := rfl
@[simp] theorem end_neg {a : E} {d : D} {P : Option Int → Prop} : endD (.neg a) d P = (match d with | .int i => P (some i) | _ => False) := rfl
/-! built-ins -/
def lenO (C : Orc) (d : D) (o : Option MO) (S : Sta) (Q : K) : Prop := match o with
  | some (.lst xs) => Q (.int xs.length) S
  | some (.dic kvs) => Q (.int kvs.length) S
  | some (.ins c _) => C (mth c mLen) [d] S (fun r S' => ∃ n : Nat, r = .int n ∧ Q r S') fun _ _ => False
  | _ => False
@[simp] theorem len_str {s : Str} : wb1 C .len (.str s) S Q = (s.length ≤ sizeLine ∧ Q (.int s.length) S) := rfl
@[simp] theorem len_tup {l : List D} : wb1 C .len (.tup l) S Q = Q (.int l.length) S := rfl
@[simp] theorem len_lis {l : List D} : wb1 C .len (.lis l) S Q = Q (.int l.length) S := rfl
@[simp] theorem len_ref {a : Addr} : wb1 C .len (.ref a) S Q = lenO C (.ref a) (S a) S Q := rfl
@[simp] theorem lenO_lst {d : D} {l : List D} : lenO C d (some (.lst l)) S Q = Q (.int l.length) S := rfl
@[simp] theorem int_int {i : Int} : wb1 C .int (.int i) S Q = Q (.int i) S := rfl
@[simp] theorem int_bl {i : Bool} : wb1 C .int (.bl i) S Q = Q (.int (if i then 1 else 0)) S := rfl
@[simp] theorem list_b {d : D} : wb1 C .list d S Q = ∃ xs, itemsK S d = some xs ∧ ∀ p, S p = none → Q (.ref p) (ups S p (.lst xs)) := rfl
@[simp] theorem tuple_b {d : D} : wb1 C .tuple d S Q = ∃ xs, itemsT S d = some xs ∧ Q (.tup xs) S := rfl
@[simp] theorem sum_b {d : D} : wb1 C .sum d S Q = ∃ xs ns, itemsL S d = some xs ∧ intsOf xs = some ns ∧ Q (.int ns.sum) S := rfl
@[simp] theorem all_b {d : D} : wb1 C .all d S Q = ∃ xs bs, itemsL S d = some xs ∧ bsOf xs = some bs ∧ Q (.bl (bs.all id)) S := rfl
@[simp] theorem any_b {d : D} : wb1 C .any d S Q = ∃ xs bs, itemsL S d = some xs ∧ bsOf xs = some bs ∧ Q (.bl (bs.any id)) S := rfl
/-! items -/
def lO (o : Option MO) : Option (List D) := match o with
  | some (.lst xs) => some xs
  | _ => none
@[simp] theorem lO_lst {xs : List D} : lO (some (.lst xs)) = some xs := rfl
@[simp] theorem itemsL_ref {a : Addr} : itemsL S (.ref a) = lO (S a) := rfl
@[simp] theorem itemsL_lis {l : List D} : itemsL S (.lis l) = some l := rfl
@[simp] theorem itemsT_ref {a : Addr} : itemsT S (.ref a) = lO (S a) := rfl
@[simp] theorem itemsT_tup {l : List D} : itemsT S (.tup l) = some l := rfl
@[simp] theorem items_tup {l : List D} : items S (.tup l) = some l := rfl
@[simp] theorem items_str {s : Str} : items S (.str s) = some (s.cps.toList.map fun c => .str ⟨#[c]⟩) := rfl
@[simp] theorem items_ref {a : Addr} : items S (.ref a) = lO (S a) := rfl
@[simp] theorem holds_tup {l : List D} : holds S (.tup l) = [] := rfl
@[simp] theorem holds_str {l : Str} : holds S (.str l) = [] := rfl
def hO (a : Addr) (o : Option MO) : List (Addr × MO) := match o with
  | some o => [(a, o)]
  | none => []
@[simp] theorem hO_some {a : Addr} {o : MO} : hO a (some o) = [(a, o)] := rfl
@[simp] theorem holds_ref {a : Addr} : holds S (.ref a) = hO a (S a) := rfl
@[simp] theorem held_nil : Held [] S := fun p h => by cases h
/-! methods -/
def tyO (o : Option MO) : Option Ty := match o with
  | some (.lst _) => some .list
  | some (.dic _) => some .dict
  | _ => none
@[simp] theorem ty_ref {a : Addr} : tyD S (.ref a) = tyO (S a) := by
  cases e : S a with
  | none => simp [tyD, tyO, e]
  | some o => cases o <;> simp [tyD, tyO, e]
@[simp] theorem ty_str {a : Str} : tyD S (.str a) = some .str := rfl
@[simp] theorem tyO_lst {xs : List D} : tyO (some (.lst xs)) = some .list := rfl
@[simp] theorem has_append : bmHas .append .list = true := rfl
@[simp] theorem has_join : bmHas .join .str = true := rfl
def appO (a : Addr) (o : Option MO) (d : D) (S : Sta) (Q : K) : Prop := match o with
  | some (.lst xs) => xs.length < sizeLine ∧ Q .non (ups S a (.lst (xs ++ [d])))
  | _ => False
@[simp] theorem bm_append {a : Addr} {d : D} : wbm .append .list (.ref a) [d] S Q = appO a (S a) d S Q := rfl
@[simp] theorem appO_lst {a : Addr} {xs : List D} {d : D} : appO a (some (.lst xs)) d S Q = (xs.length < sizeLine ∧ Q .non (ups S a (.lst (xs ++ [d])))) := rfl
@[simp] theorem bm_join {z : Str} {d : D} : wbm .join .str (.str z) [d] S Q = ∃ xs ss, itemsT S d = some xs ∧ strsOf xs = some ss ∧ (ss.map (·.length)).sum + ss.length * z.length ≤ 16777216 ∧ Q (.str (Txt.join z ss)) S := rfl
/-! isinstance -/
@[simp] theorem isk1 {x : D} {k : Kd} : isKds S x [k] = isKd S x k := isKds_one
@[simp] theorem tgN1 {i : Nat} {d : D} {P : Env → Prop} : wtgN [i] d ρ P = P (ρ.set i (some d)) := rfl
@[simp] theorem tgN2 {i j : Nat} {a b : D} {P : Env → Prop} : wtgN [i, j] (.tup [a, b]) ρ P = (True ∧ P ((ρ.set i (some a)).set j (some b))) := by
  simp [wtgN, A.setN]
@[simp] theorem ups_at {a : Addr} {o : MO} : ups S a o a = some o := ups_same
@[simp] theorem ups_up {a : Addr} {o u : MO} : ups (ups S a o) a u = ups S a u := ups_ups
@[simp] theorem wipe1 {i : Nat} : wipeD ρ [i] = ρ.set i none := rfl
@[simp] theorem wipe2 {i j : Nat} : wipeD ρ [i, j] = (ρ.set j none).set i none := rfl
end
end A
end
section
set_option Elab.async false
set_option linter.all false
set_option maxRecDepth 100000
set_option maxHeartbeats 4000000
/-! W1: the law's own helpers, by values: box, take. -/
namespace A
open PySem L2
def fTake : Fn := ⟨5, 2,
    (.cons (.ite (.cmp .gt (.ix (.v 0) (.c (.int 2))) (.c (.int 0)))
    (.cons (.asg (.n [2]) (.ix (.v 0) (.c (.int 2))))
    (.cons (.asg (.ix (.v 0) (.c (.int 2))) (.bin .div (.v 2) (.v 1)))
    (.cons (.ret (.bin .mod (.v 2) (.v 1)))
    .nil)))
    .nil)
    (.cons (.asg (.n [3]) (.c (.int 0)))
    (.cons (.ite (.cmp .lt (.ix (.v 0) (.c (.int 1))) (.b1 .len (.ix (.v 0) (.c (.int 0)))))
    (.cons (.asg (.n [3]) (.ix (.ix (.v 0) (.c (.int 0))) (.ix (.v 0) (.c (.int 1)))))
    (.cons (.augI .add (.v 0) (.c (.int 1)) (.c (.int 1)))
    .nil))
    .nil)
    (.cons (.ite (.cmp .ge (.v 3) (.bin .pow (.c (.int 10)) (.c (.int 18))))
    (.cons (.asg (.ix (.v 0) (.c (.int 2))) (.bin .div (.v 3) (.v 1)))
    (.cons (.ret (.bin .mod (.v 3) (.v 1)))
    .nil))
    .nil)
    (.cons (.asg (.n [4]) (.ix (.v 0) (.c (.int 3))))
    (.cons (.asg (.n [4]) (.bin .add (.bin .add (.bin .pow (.v 4) (.c (.int 3))) (.bin .mul (.c (.int 48271)) (.v 4))) (.bin .mul (.c (.int 69621)) (.bin .mod (.v 3) (.c (.int 2147483629))))))
    (.cons (.asg (.ix (.v 0) (.c (.int 3))) (.bin .mod (.bin .add (.v 4) (.c (.int 11))) (.c (.int 2147483629))))
    (.cons (.ret (.bin .mod (.bin .div (.ix (.v 0) (.c (.int 3))) (.c (.int 64))) (.v 1)))
    .nil))))))))⟩
/-- the box: the script's numbers at q, the place, what is left, the seed -/
def Box (b : Addr) (S : Sta) : Prop := ∃ (q : Addr) (ns : List Int) (i r s : Int), S b = some (.lst [.ref q, .int i, .int r, .int s]) ∧ S q = some (.lst (ns.map .int)) ∧ 0 ≤ i ∧ 0 ≤ s ∧ s < 2147483629 ∧ b ≠ q
/-- all but b stays -/
def Keep (b : Addr) (S S' : Sta) : Prop := ∀ a o, a ≠ b → S a = some o → S' a = some o
theorem Keep.refl {b : Addr} {S : Sta} : Keep b S S := fun _ _ _ h => h
theorem Keep.trans {b : Addr} {S S1 S2 : Sta} (h : Keep b S S1) (g : Keep b S1 S2) : Keep b S S2 := fun a o n e => g a o n (h a o n e)
theorem Keep.put {b : Addr} {S : Sta} {o : MO} : Keep b S (ups S b o) := fun a u n e => by rw [ups_ne n]; exact e
theorem Keep.new {b p : Addr} {S : Sta} {o : MO} (h : S p = none) : Keep b S (ups S p o) := fun a u n e => by rw [ups_ne (sne e h)]; exact e
theorem ixN0 : L2.ixN 4 0 = some 0 := by decide
theorem ixN1 : L2.ixN 4 1 = some 1 := by decide
theorem ixN2 : L2.ixN 4 2 = some 2 := by decide
theorem ixN3 : L2.ixN 4 3 = some 3 := by decide
theorem take_ok {P : Prg} {n t : Nat} {b : Addr} {S : Sta} {k : Int} {Q X : K} (h : P t = some fTake) (hb : Box b S) (h0 : 0 < k) (h1 : k ≤ 1000)
    (q : ∀ v S', 0 ≤ v → v < k → Box b S' → Keep b S S' → Q (.int v) S') : callW P (n + 1) t [.ref b, .int k] S Q X := by
  obtain ⟨l, ns, i, r, s, e1, e2, i0, s0, s1, hne⟩ := hb
  have hk : k.natAbs.log2 < 9000 := by
    have h2 : k.natAbs < 2 ^ 10 := by omega
    have := (Nat.log2_lt (by omega)).mpr h2
    omega
  have hm : ∀ x : Int, 0 ≤ x % k ∧ x % k < k := fun x => ⟨Int.emod_nonneg _ (by omega), Int.emod_lt_of_pos _ h0⟩
  refine callW_of h rfl ?_
  have pow1 : L2.CPow 10 18 := by unfold L2.CPow; decide
  have mo : ∀ (c x : Int), 0 ≤ c → c < 100000 → MulOk c x := fun c x h1 h2 => .inl (.inl ⟨by omega, by omega⟩)
  have dv : ∀ x : Int, L2.CDivW x k := fun x => ⟨h0, hk⟩
  have d64 : ∀ x : Int, L2.CDivW x 64 := fun x => ⟨by decide, by decide⟩
  have ps : L2.CPow s 3 := ⟨by decide, by decide, by omega⟩
  have m1 := mo 48271 s (by decide) (by decide)
  have m2 : ∀ x, MulOk 69621 x := fun x => mo 69621 x (by decide) (by decide)
  have fin : ∀ (x r' s' j : Int), 0 ≤ j → 0 ≤ s' → s' < 2147483629 → Q1 Q (.int (x % k)) (ups S b (.lst [.ref l, .int j, .int r', .int s'])) := fun x r' s' j g0 g1 g2 =>
    q1_of (q _ _ (hm x).1 (hm x).2 ⟨l, ns, j, r', s', ups_same, by rw [ups_ne (Ne.symm hne)]; exact e2, g0, g1, g2, hne⟩ Keep.put)
  have sd : ∀ x : Int, 0 ≤ x % 2147483629 ∧ x % 2147483629 < 2147483629 := fun x => ⟨Int.emod_nonneg _ (by omega), Int.emod_lt_of_pos _ (by omega)⟩
  simp [fTake, wB, wS, wE, wTg, e1, e2, ixN1, ixN2, ixN3, dv, d64, pow1, ps, m1, m2, h0]
  split
  · exact fin r _ _ _ i0 s0 s1
  · split
    · rename_i hi
      have hi2 : i.toNat < ns.length := by omega
      refine ⟨.int ns[i.toNat], ?_, ?_⟩
      · exact at_pos i0 (by simp [hi2])
      · simp [ixN1, ixN2, ixN3, dv, d64, ps, m1, m2, h0]
        split
        · exact fin _ _ _ (i + 1) (by omega) s0 s1
        · exact fin _ _ _ (i + 1) (by omega) (sd _).1 (sd _).2
    · exact fin _ _ _ _ i0 (sd _).1 (sd _).2
end A
end
section
set_option Elab.async false
set_option linter.all false
set_option maxRecDepth 100000
set_option maxHeartbeats 4000000
/-! W2: turns of comprehensions and loops; the box made; alike. -/
namespace A
open PySem L2
theorem wcomp_nat {h : List (Addr × MO)} {f : D → Sta → (Option D → Sta → Prop) → Prop} {Q : List D → Sta → Prop} {S : Sta} (xs : List D) (hl : xs.length < 16777216) (I : Nat → List D → Sta → Prop) (h0 : I 0 [] S)
    (hh : ∀ i acc S, I i acc S → Held h S) (sz : ∀ i acc S, I i acc S → acc.length ≤ i)
    (st : ∀ i x acc S R, xs[i]? = some x → I i acc S → (∀ d S', I (i + 1) (acc ++ [d]) S' → R (some d) S') → (∀ S', I (i + 1) acc S' → R none S') → f x S R)
    (fin : ∀ acc S, I xs.length acc S → Q acc S) : wcomp h f xs [] S Q := by
  have go : ∀ (n i : Nat) acc S, i + n = xs.length → I i acc S → wcomp h f (xs.drop i) acc S Q := fun n => by
    induction n with
    | zero =>
      intro i acc S e hI
      have e' : i = xs.length := by omega
      subst e'
      rw [List.drop_length, wcomp]
      exact ⟨hh _ _ _ hI, fin _ _ hI⟩
    | succ n ih =>
      intro i acc S e hI
      have hi : i < xs.length := by omega
      rw [List.drop_eq_getElem_cons hi, wcomp]
      refine ⟨hh _ _ _ hI, st i _ acc S _ (List.getElem?_eq_getElem hi) hI (fun d S' hI' => ⟨?_, ih (i + 1) _ S' (by omega) hI'⟩) fun S' hI' => ih (i + 1) _ S' (by omega) hI'⟩
      have := sz _ _ _ hI
      have hs : sizeLine = 16777216 := sizeLine_eq
      omega
  have := go xs.length 0 [] S (by omega) h0
  rwa [List.drop_zero] at this
theorem wfor_nat {h : List (Addr × MO)} {f : D → Env → Sta → (Env → Sta → Prop) → Prop} {Q : Env → Sta → Prop} {S : Sta} {ρ : Env} (xs : List D) (I : Nat → Env → Sta → Prop) (h0 : I 0 ρ S)
    (hh : ∀ i ρ S, I i ρ S → Held h S)
    (st : ∀ i x ρ S R, xs[i]? = some x → I i ρ S → (∀ ρ' S', I (i + 1) ρ' S' → R ρ' S') → f x ρ S R)
    (fin : ∀ ρ S, I xs.length ρ S → Q ρ S) : wfor h f xs ρ S Q := by
  have go : ∀ (n i : Nat) ρ S, i + n = xs.length → I i ρ S → wfor h f (xs.drop i) ρ S Q := fun n => by
    induction n with
    | zero =>
      intro i ρ S e hI
      have e' : i = xs.length := by omega
      subst e'
      rw [List.drop_length, wfor]
      exact ⟨hh _ _ _ hI, fin _ _ hI⟩
    | succ n ih =>
      intro i ρ S e hI
      have hi : i < xs.length := by omega
      rw [List.drop_eq_getElem_cons hi, wfor]
      exact ⟨hh _ _ _ hI, st i _ ρ S _ (List.getElem?_eq_getElem hi) hI fun ρ' S' hI' => ih (i + 1) _ S' (by omega) hI'⟩
  have := go xs.length 0 ρ S (by omega) h0
  rwa [List.drop_zero] at this
theorem Sub.new {p : Addr} {S : Sta} {o : MO} (h : S p = none) : Sub S (A.ups S p o) := fun a u e => by rw [ups_ne (sne e h)]; exact e
theorem Sub.keep {b : Addr} {S S' : Sta} (h : Sub S S') : Keep b S S' := fun a o _ e => h a o e
theorem Box.sub {b : Addr} {S S' : Sta} (h : Sub S S') (x : Box b S) : Box b S' := by
  obtain ⟨q, ns, i, r, s, e1, e2, y⟩ := x
  exact ⟨q, ns, i, r, s, h _ _ e1, h _ _ e2, y⟩
def fBox : Fn := ⟨1, 1,
    (.cons (.ret (.lst (.cons (.b1 .list (.sl (.v 0) .nil (.c (.int 63)))) (.cons (.c (.int 0)) (.cons (.c (.int 0)) (.cons (.c (.int 17)) .nil))))))
    .nil)⟩
theorem cutD_ints (ns : List Int) (l h : Option Int) : ∃ ms : List Int, cutD (ns.map .int) l h = ms.map .int := by
  unfold cutD
  rw [← List.map_drop, ← List.map_take]
  exact ⟨_, rfl⟩
theorem line4 {n : Nat} (h : n < 1000) : n ≤ sizeLine := by rw [sizeLine_eq]; omega
theorem box_ok {P : Prg} {n t : Nat} {S : Sta} {ns : List Int} {Q X : K} (h : P t = some fBox) (q : ∀ b S', Box b S' → Sub S S' → Q (.ref b) S') : callW P (n + 1) t [.lis (ns.map .int)] S Q X := by
  refine callW_of h rfl ?_
  obtain ⟨ms, e⟩ := cutD_ints ns none (some 63)
  simp [fBox, wB, wS, wE, wEs, itemsK, e]
  intro p hp r hr
  refine ⟨line4 (by decide), fun b hb => q1_of (q _ _ ⟨r, ms, 0, 0, 17, ups_same, ?_, by decide, by decide, by decide, ?_⟩ (((Sub.new hp).trans (Sub.new hr)).trans (Sub.new hb)))⟩
  · rw [ups_ne]
    · exact ups_same
    · rintro rfl; rw [ups_same] at hb; cases hb
  · rintro rfl; rw [ups_same] at hb; cases hb
def fSame (f : Nat) : Fn := ⟨4, 2,
    (.cons (.ite (.or (.isi (.v 1) [.list]) (.isi (.v 1) [.tuple]))
    (.cons (.ite (.or (.cmp .ne (.isi (.v 0) [.list]) (.isi (.v 1) [.list])) (.cmp .ne (.isi (.v 0) [.tuple]) (.isi (.v 1) [.tuple])))
    (.cons (.ret (.c (.bl false)))
    .nil)
    .nil)
    (.cons (.ret (.and (.cmp .eq (.b1 .len (.v 0)) (.b1 .len (.v 1))) (.b1 .all (.lc (.call f (.app []) (.cons (.v 2) (.cons (.v 3) .nil))) [2, 3] [2, 3] (.zip (.v 0) (.v 1) false) (.c (.bl true))))))
    .nil))
    .nil)
    (.cons (.ite (.or (.cmp .is (.v 0) (.c (.non))) (.cmp .is (.v 1) (.c (.non))))
    (.cons (.ret (.and (.cmp .is (.v 0) (.c (.non))) (.cmp .is (.v 1) (.c (.non)))))
    .nil)
    .nil)
    (.cons (.ite (.or (.cmp .ne (.isi (.v 0) [.bool]) (.isi (.v 1) [.bool])) (.cmp .ne (.isi (.v 0) [.int]) (.isi (.v 1) [.int])))
    (.cons (.ret (.c (.bl false)))
    .nil)
    .nil)
    (.cons (.ret (.and (.cmp .eq (.isi (.v 0) [.str]) (.isi (.v 1) [.str])) (.cmp .eq (.v 0) (.v 1))))
    .nil))))⟩
mutual
def plainD : D → Bool
  | .int _ => true
  | .str _ => true
  | .tup l => decide (l.length < 1000) && plainDs l
  | _ => false
def plainDs : List D → Bool
  | [] => true
  | d :: r => plainD d && plainDs r
end
mutual
def depD : D → Nat
  | .tup l => 1 + depDs l
  | _ => 0
def depDs : List D → Nat
  | [] => 0
  | d :: r => max (depD d) (depDs r)
end
theorem plainDs_at : ∀ {l : List D} {i : Nat} {d : D}, plainDs l = true → l[i]? = some d → plainD d = true ∧ depD d ≤ depDs l
  | [], i, d, _, h => by simp at h
  | x :: r, 0, d, p, h => by
    simp only [plainDs, Bool.and_eq_true] at p
    simp at h; subst h
    exact ⟨p.1, by simp only [depDs]; omega⟩
  | x :: r, i + 1, d, p, h => by
    simp only [plainDs, Bool.and_eq_true] at p
    obtain ⟨h1, h2⟩ := plainDs_at (i := i) p.2 (by simpa using h)
    exact ⟨h1, by simp only [depDs]; omega⟩
theorem zipD_self : ∀ {l : List D} {i : Nat} {x : D}, (zipD l l)[i]? = some x → ∃ d, l[i]? = some d ∧ x = .tup [d, d]
  | [], i, x, h => by simp [zipD] at h
  | y :: r, 0, x, h => by simp [zipD] at h; exact ⟨y, rfl, h.symm⟩
  | y :: r, i + 1, x, h => by
    simp only [zipD, List.getElem?_cons_succ] at h
    simpa using zipD_self h
theorem both_tup {S : Sta} {a b xs ys : List D} : both S (.tup a) (.tup b) xs ys ↔ xs = a ∧ ys = b := by
  unfold both
  constructor
  · rintro (⟨h, _⟩ | ⟨h1, h2⟩)
    · cases h
    · cases h1; cases h2; exact ⟨rfl, rfl⟩
  · rintro ⟨rfl, rfl⟩
    exact .inr ⟨rfl, rfl⟩
theorem bsOf_rep : ∀ n : Nat, bsOf (List.replicate n (.bl true)) = some (List.replicate n true)
  | 0 => rfl
  | n + 1 => by rw [List.replicate_succ, bsOf, bsOf_rep n]; rfl
theorem same_ok {P : Prg} {t : Nat} (h : P t = some (fSame t)) : ∀ (n : Nat) (d : D) (S : Sta) (Q X : K), plainD d = true → depD d < n → (∀ S', Sub S S' → Q (.bl true) S') → callW P n t [d, d] S Q X
  | 0, _, _, _, _, _, h, _ => absurd h (by omega)
  | n + 1, d, S, Q, X, p, hd, q => by
    refine callW_of h rfl ?_
    cases d with
    | int i =>
      simp [fSame, wB, wS, wE, isKd]
      exact q1_of (q S (Sub.refl S))
    | str i =>
      simp [fSame, wB, wS, wE, isKd]
      exact q1_of (q S (Sub.refl S))
    | tup l =>
      simp [fSame, wB, wS, wE, wEs, wIt, isKd, both_tup, place]
      simp only [plainD, Bool.and_eq_true, decide_eq_true_eq] at p
      simp only [depD] at hd
      have hz : (zipD l l).length = l.length := by rw [zipD_len]; omega
      refine ⟨l, l, ⟨rfl, rfl⟩, wcomp_nat (zipD l l) (by omega) (fun i acc S' => acc = List.replicate i (.bl true) ∧ Sub S S') ⟨rfl, Sub.refl S⟩ (fun _ _ _ _ => held_nil) (fun i acc S' h => by rw [h.1]; simp) (fun i x acc S' R hx hI hr _ => ?_) fun acc S' hI r hr => ?_⟩
      · obtain ⟨d, hd1, rfl⟩ := zipD_self hx
        obtain ⟨p1, p2⟩ := plainDs_at p.2 hd1
        simp
        refine same_ok h n d S' _ _ p1 (by omega) fun S2 h2 => hr _ S2 ⟨?_, hI.2.trans h2⟩
        rw [hI.1, List.replicate_succ']
      · rw [hI.1]
        refine ⟨_, bsOf_rep _, ?_⟩
        have e : (List.replicate (zipD l l).length true).all id = true := by simp
        rw [e]
        exact q1_of (q _ (hI.2.trans (Sub.new hr)))
    | _ => cases p
end A
end
section
set_option Elab.async false
set_option linter.all false
set_option maxRecDepth 100000
set_option maxHeartbeats 4000000
/-! W3: names, the pool. -/
namespace A
open PySem L2
/-- the signs of a text -/
def sg (s : Str) : List Nat := s.cps.toList
theorem sg_len (s : Str) : s.length = (sg s).length := by unfold sg Str.length; simp
theorem sg_app (a b : Str) : sg (a ++ b) = sg a ++ sg b := by
  show (a.cps ++ b.cps).toList = _
  simp [sg]
theorem sg_one (n : Nat) : sg ⟨#[n]⟩ = [n] := rfl
theorem sg_inj {a b : Str} (h : sg a = sg b) : a = b := by
  cases a; cases b
  simp only [Str.mk.injEq]
  exact Array.toList_inj.mp h
def letters : Str := "abcdefghijklmnopqrstuvwxyz"
def isL (c : Nat) : Prop := 97 ≤ c ∧ c ≤ 122
theorem sg_letters : sg letters = (List.range 26).map (· + 97) := by decide +kernel
theorem letter_at {v : Int} (h0 : 0 ≤ v) (h1 : v < 26) : L2.atI (sg letters) v = some (97 + v.toNat) ∧ isL (97 + v.toNat) := by
  refine ⟨at_pos h0 ?_, by unfold isL; omega⟩
  rw [sg_letters, List.getElem?_map, List.getElem?_range (by omega)]
  simp; omega
def NameOk (s : Str) : Prop := 1 ≤ (sg s).length ∧ (sg s).length ≤ 8 ∧ ∀ c ∈ sg s, isL c
def one (c : Nat) : Str := ⟨#[c]⟩
theorem sg_join0 : ∀ cs : List Nat, sg (Str.join "" (cs.map one)) = cs
  | [] => rfl
  | [c] => rfl
  | c :: d :: r => by
    have ih := sg_join0 (d :: r)
    simp only [List.map_cons] at ih ⊢
    rw [Str.join, sg_app, sg_app, ih]
    · rfl
    · intro h; cases h
theorem strs_map : ∀ ss : List Str, strsOf (ss.map .str) = some ss
  | [] => rfl
  | s :: r => by rw [List.map_cons, strsOf, strs_map r]; rfl
theorem range_at {n i : Nat} {x : D} (h : ((List.range n).map fun (i : Nat) => D.int i)[i]? = some x) : i < n ∧ x = .int i := by
  rw [List.getElem?_map] at h
  obtain ⟨j, h1, h2⟩ := Option.map_eq_some_iff.mp h
  obtain ⟨h3, h4⟩ := List.getElem?_eq_some_iff.mp h1
  rw [List.length_range] at h3
  rw [List.getElem_range] at h4
  subst h4
  exact ⟨h3, h2.symm⟩
def fNames (t : Nat) : Fn := ⟨8, 2,
    (.cons (.asg (.n [2]) (.c (.str "abcdefghijklmnopqrstuvwxyz")))
    (.cons (.asg (.n [3]) (.bm .join (.c (.str "")) (.cons (.lc (.ix (.v 2) (.call t (.app []) (.cons (.v 0) (.cons (.c (.int 26)) .nil)))) [4] [4] (.rng (.call t (.app []) (.cons (.v 0) (.cons (.c (.int 8)) .nil)))) (.c (.bl true))) .nil)))
    (.cons (.asg (.n [5]) (.call t (.app []) (.cons (.v 0) (.cons (.c (.int 26)) .nil))))
    (.cons (.asg (.n [6]) (.lc (.bin .add (.v 3) (.ix (.v 2) (.bin .mod (.bin .add (.v 5) (.bin .mul (.c (.int 11)) (.v 4))) (.c (.int 26))))) [4] [4] (.rng (.v 1)) (.c (.bl true))))
    (.cons (.asg (.n [7]) (.lc (.bin .add (.sl (.ix (.v 6) (.bin .sub (.v 4) (.bin .mod (.v 4) (.c (.int 2))))) (.neg (.c (.int 7))) .nil) (.ix (.lst (.cons (.c (.str "")) (.cons (.c (.str "b")) .nil))) (.bin .mod (.v 4) (.c (.int 2))))) [4] [4] (.rng (.v 1)) (.c (.bl true))))
    (.cons (.ret (.ix (.lst (.cons (.v 6) (.cons (.v 7) .nil))) (.bin .div (.call t (.app []) (.cons (.v 0) (.cons (.c (.int 3)) .nil))) (.c (.int 2)))))
    .nil))))))⟩
theorem mul11 (x : Int) : MulOk 11 x := .inl (.inl ⟨by decide, by decide⟩)
theorem Sub.box {b : Addr} {S S' : Sta} (h : Sub S S') (x : Box b S) : Box b S' := x.sub h
theorem sum_one : ∀ cs : List Nat, ((cs.map one).map fun x => x.length).sum = cs.length
  | [] => rfl
  | c :: r => by
    simp only [List.map_cons, List.sum_cons, List.length_cons]
    rw [sum_one r]
    have : (one c).length = 1 := rfl
    omega
theorem Box.at {b p : Addr} {S : Sta} (x : Box b S) (h : S p = none) : p ≠ b := by
  obtain ⟨q, ns, i, r, s, e1, _⟩ := x
  rintro rfl
  rw [e1] at h; cases h
theorem cut7 {s : Str} (h : NameOk s) : 1 ≤ (sg (L2.cutS s (some (-7)) none)).length ∧ (sg (L2.cutS s (some (-7)) none)).length ≤ 7 ∧ ∀ c ∈ sg (L2.cutS s (some (-7)) none), isL c := by
  obtain ⟨h1, h2, h3⟩ := h
  have e : sg (L2.cutS s (some (-7)) none) = (sg s).drop ((sg s).length - 7) := by
    unfold L2.cutS sg
    have hl : s.length = s.cps.toList.length := by simp [Str.length]
    rw [hl]
    simp only [HT.sIx]
    have : (((-7 : Int)) + (s.cps.toList.length : Int)).toNat = s.cps.toList.length - 7 := by omega
    rw [if_pos (by decide), this]
    show (List.toArray _).toList = _
    rw [List.toList_toArray]
    rw [List.take_of_length_le (by rw [List.length_drop]; omega)]
  rw [e]
  refine ⟨by rw [List.length_drop]; omega, by rw [List.length_drop]; omega, fun c hc => h3 c (List.mem_of_mem_drop hc)⟩
theorem names_ok {P : Prg} {n t g : Nat} {b : Addr} {S : Sta} {Q X : K} (ht : P t = some fTake) (h : P g = some (fNames t)) (hb : Box b S)
    (q : ∀ (p : Addr) (ws : List Str) (S' : Sta), p ≠ b → S' p = some (.lst (ws.map D.str)) → ws.length = 7 → (∀ s ∈ ws, NameOk s) → Box b S' → Keep b S S' → Q (.ref p) S') : callW P (n + 2) g [.ref b, .int 7] S Q X := by
  refine callW_of h rfl ?_
  have hL : ("abcdefghijklmnopqrstuvwxyz" : Str) = letters := rfl
  simp only [fNames, hL]
  simp [wB, wS, wE, wEs, wIt, wTg, place]
  refine take_ok ht hb (by decide) (by decide) fun v8 S1 h1 h2 b1 k1 => ?_
  simp
  refine ⟨by omega, by omega, ?_⟩
  have hv : v8.toNat < 8 := by omega
  refine wcomp_nat _ (by simp; omega) (fun i acc S2 => ∃ cs : List Nat, acc = (cs.map one).map .str ∧ cs.length = i ∧ (∀ c ∈ cs, isL c) ∧ Box b S2 ∧ Keep b S1 S2) ⟨[], rfl, rfl, (fun _ h => nomatch h), b1, Keep.refl⟩ (fun _ _ _ _ => held_nil) (fun i acc S2 ⟨cs, e, l, _⟩ => by rw [e]; simp [l]) (fun i x acc S2 R hx ⟨cs, e, l, hc, b2, k2⟩ hr _ => ?_) fun acc S2 ⟨cs, e, l, hc, b2, k2⟩ p hp => ?_
  · obtain ⟨hi, rfl⟩ := range_at hx
    refine take_ok ht b2 (by decide) (by decide) fun v S3 g1 g2 b3 k3 => ?_
    obtain ⟨a1, a2⟩ := letter_at g1 g2
    simp
    refine ⟨by decide +kernel, _, a1, ?_⟩
    refine hr _ _ ⟨cs ++ [97 + v.toNat], by rw [e]; simp [one], by simp [l], fun c hc' => ?_, b3, k2.trans k3⟩
    rcases List.mem_append.mp hc' with h | h
    · exact hc c h
    · simp at h; subst h; exact a2
  simp at l
  have lz : (Str.ofString "").length = 0 := by decide +kernel
  refine ⟨cs.map one, by rw [e]; exact strs_map _, by rw [sum_one, lz]; omega, ?_⟩
  have hf : sg (Txt.join (Str.ofString "") (cs.map one)) = cs := by rw [TL.join_eq]; exact sg_join0 cs
  generalize Txt.join (Str.ofString "") (cs.map one) = f1 at hf
  have kp : Keep b S (ups S2 p (.lst acc)) := (k1.trans k2).trans (Keep.new hp)
  refine take_ok ht (b2.sub (Sub.new hp)) (by decide) (by decide) fun v2 S3 g1 g2 b3 k3 => ?_
  have k13 := kp.trans k3
  refine wcomp_nat _ (by simp) (fun i acc S' => ∃ ws : List Str, acc = ws.map .str ∧ ws.length = i ∧ (∀ s ∈ ws, NameOk s) ∧ S' = S3) ⟨[], rfl, rfl, (fun _ h => nomatch h), rfl⟩ (fun _ _ _ _ => held_nil) (fun i acc S2 ⟨cs, e, l, _⟩ => by rw [e]; simp [l]) (fun i x acc S2 R hx ⟨ws, e, l, hw, hS⟩ hr _ => ?_) fun acc S' ⟨ws, e2, l2, hw, hS⟩ p2 hp2 => ?_
  · obtain ⟨hi, rfl⟩ := range_at hx
    subst hS
    obtain ⟨a1, a2⟩ := letter_at (v := (v2 + 11 * (i : Int)) % 26) (Int.emod_nonneg _ (by omega)) (Int.emod_lt_of_pos _ (by omega))
    simp [mul11]
    have fl : f1.length = cs.length := by rw [sg_len, hf]
    refine ⟨by decide +kernel, _, a1, ?_, ?_⟩
    · have o1 : ∀ c : Nat, Str.length ⟨#[c]⟩ = 1 := fun _ => rfl
      rw [fl, o1]
      exact line4 (by omega)
    · refine hr _ _ ⟨ws ++ [f1 ++ one (97 + ((v2 + 11 * (i : Int)) % 26).toNat)], by rw [e]; simp [one], by simp [l], fun s hs => ?_, rfl⟩
      rcases List.mem_append.mp hs with h | h
      · exact hw s h
      · simp at h
        subst h
        have es : sg (f1 ++ one (97 + ((v2 + 11 * (i : Int)) % 26).toNat)) = cs ++ [97 + ((v2 + 11 * (i : Int)) % 26).toNat] := by rw [sg_app, hf]; rfl
        refine ⟨by rw [es]; simp, by rw [es]; simp; omega, fun c hc' => ?_⟩
        rw [es] at hc'
        rcases List.mem_append.mp hc' with h | h
        · exact hc c h
        · simp at h; subst h; exact a2
  · simp at l2
    subst hS
    have n2 := b3.at hp2
    refine wcomp_nat _ (by simp) (fun i acc' S4 => ∃ us : List Str, acc' = us.map .str ∧ us.length = i ∧ (∀ s ∈ us, NameOk s) ∧ Sub (ups S' p2 (.lst acc)) S4) ⟨[], rfl, rfl, (fun _ h => nomatch h), Sub.refl _⟩ (fun _ _ _ _ => held_nil) (fun i acc S2 ⟨cs, e, l, _⟩ => by rw [e]; simp [l]) (fun i x acc' S4 R hx ⟨us, e, l, hu, sb⟩ hr _ => ?_) fun acc' S4 ⟨us, e3, l3, hu, sb⟩ p3 hp3 => ?_
    · obtain ⟨hi, rfl⟩ := range_at hx
      have hp : S4 p2 = some (.lst acc) := sb _ _ ups_same
      simp [hp]
      have hj : ((i : Int) - (i : Int) % 2).toNat < ws.length := by omega
      refine ⟨.str ws[((i : Int) - (i : Int) % 2).toNat], at_pos (by omega) (by rw [e2]; simp [hj]), ?_⟩
      have hn := hw _ (List.getElem_mem hj)
      generalize ws[((i : Int) - (i : Int) % 2).toNat] = w1 at hn
      obtain ⟨c1, c2, c3⟩ := cut7 hn
      have w8 : w1.length ≤ sizeLine := by rw [sg_len]; have := hn.2.1; exact line4 (by omega)
      simp [w8]
      refine ⟨line4 (by decide), fun p5 hp5 => ?_⟩
      have fin : ∀ z : Str, sg z = sg (L2.cutS w1 (some (-7)) none) ++ sg (Str.ofString "") ∨ sg z = sg (L2.cutS w1 (some (-7)) none) ++ sg (Str.ofString "b") → R (some (.str z)) (ups S4 p5 (.lst [.str (Str.ofString ""), .str (Str.ofString "b")])) := fun z hz => by
        refine hr _ _ ⟨us ++ [z], by rw [e]; simp, by simp [l], fun s hs => ?_, sb.trans (Sub.new hp5)⟩
        rcases List.mem_append.mp hs with h | h
        · exact hu s h
        · simp at h
          subst h
          have s0 : sg (Str.ofString "") = [] := by decide +kernel
          have sb' : sg (Str.ofString "b") = [98] := by decide +kernel
          rw [s0, sb'] at hz
          rcases hz with hz | hz
          · rw [List.append_nil] at hz
            exact ⟨by rw [hz]; exact c1, by rw [hz]; omega, fun c hc => c3 c (hz ▸ hc)⟩
          · refine ⟨by rw [hz]; simp, by rw [hz]; simp; omega, fun c hc => ?_⟩
            rw [hz] at hc
            rcases List.mem_append.mp hc with h | h
            · exact c3 c h
            · simp at h; subst h; unfold isL; omega
      have lb : ∀ z : Str, z = Str.ofString "" ∨ z = Str.ofString "b" → z.length ≤ 1 := fun z hz => by
        rcases hz with rfl | rfl <;> decide +kernel
      have sz : ∀ z : Str, z = Str.ofString "" ∨ z = Str.ofString "b" → (L2.cutS w1 (some (-7)) none).length + z.length ≤ sizeLine := fun z hz => by
        have := lb z hz
        rw [sg_len (L2.cutS w1 (some (-7)) none)]
        exact line4 (by omega)
      have h01 : (i : Int) % 2 = 0 ∨ (i : Int) % 2 = 1 := by omega
      rcases h01 with h01 | h01
      · rw [h01]
        refine ⟨_, at_0 _ _, ?_⟩
        exact ⟨sz _ (.inl rfl), fin _ (.inl (sg_app _ _))⟩
      · rw [h01]
        refine ⟨_, at_1 _ _ _, ?_⟩
        exact ⟨sz _ (.inr rfl), fin _ (.inr (sg_app _ _))⟩
    · have b4 : Box b S4 := (b3.sub (Sub.new hp2)).sub sb
      have k4 : Keep b S S4 := (k13.trans (Keep.new hp2)).trans sb.keep
      have hp' : S4 p2 = some (.lst acc) := sb _ _ ups_same
      have n3 := b4.at hp3
      have ne23 : p2 ≠ p3 := by rintro rfl; rw [hp'] at hp3; cases hp3
      simp at l3
      refine ⟨line4 (by decide), fun p4 hp4 => ?_⟩
      refine take_ok ht ((b4.sub (Sub.new hp3)).sub (Sub.new hp4)) (by decide) (by decide) fun v3 S5 g5 g6 b5 k5 => ?_
      have keep5 : ∀ a o, a ≠ b → S4 a = some o → S5 a = some o := fun a o na e => k5 a o na (Sub.new hp4 _ _ (Sub.new hp3 _ _ e))
      have n4 : p4 ≠ b := ((b4.sub (Sub.new hp3))).at hp4
      have at4 : S5 p4 = some (.lst [.ref p2, .ref p3]) := k5 _ _ n4 ups_same
      have at3 : S5 p3 = some (.lst acc') := k5 _ _ n3 (Sub.new hp4 _ _ ups_same)
      have at2 : S5 p2 = some (.lst acc) := keep5 _ _ n2 hp'
      have kk : Keep b S S5 := fun a o na e => keep5 a o na (k4 a o na e)
      have d2 : L2.CDivW v3 2 := ⟨by decide, by decide⟩
      simp [d2, at4]
      have h01 : v3 / 2 = 0 ∨ v3 / 2 = 1 := by omega
      rcases h01 with h01 | h01
      · rw [h01]
        exact ⟨_, at_0 _ _, q1_of (q p2 ws S5 n2 (by rw [at2, e2]) l2 hw b5 kk)⟩
      · rw [h01]
        exact ⟨_, at_1 _ _ _, q1_of (q p3 us S5 n3 (by rw [at3, e3]) l3 hu b5 kk)⟩
end A
end
section
set_option Elab.async false
set_option linter.all false
set_option maxRecDepth 100000
set_option maxHeartbeats 4000000
/-! W4: the pool, rights. -/
namespace A
open PySem L2
def fPool (t g : Nat) : Fn := ⟨1, 1,
    (.cons (.ret (.sl (.call g (.app []) (.cons (.v 0) (.cons (.c (.int 7)) .nil))) .nil (.bin .add (.c (.int 1)) (.call t (.app []) (.cons (.v 0) (.cons (.c (.int 7)) .nil))))))
    .nil)⟩
theorem cutD_to {l : List D} {h : Int} (h0 : 0 ≤ h) : cutD l none (some h) = l.take h.toNat := by
  unfold cutD
  simp only [HT.sIx, List.drop_zero, Nat.sub_zero]
  rw [if_neg (by omega)]
  rcases Nat.le_total h.toNat l.length with z | z
  · rw [Nat.min_eq_left z]
  · rw [Nat.min_eq_right z, List.take_of_length_le (Nat.le_refl _), List.take_of_length_le z]
theorem pool_ok {P : Prg} {n t g f : Nat} {b : Addr} {S : Sta} {Q X : K} (ht : P t = some fTake) (hg : P g = some (fNames t)) (h : P f = some (fPool t g)) (hb : Box b S)
    (q : ∀ (p : Addr) (ws : List Str) (S' : Sta), p ≠ b → S' p = some (.lst (ws.map D.str)) → 0 < ws.length → ws.length ≤ 7 → (∀ s ∈ ws, NameOk s) → Box b S' → Keep b S S' → Q (.ref p) S') : callW P (n + 3) f [.ref b] S Q X := by
  refine callW_of h rfl ?_
  simp [fPool, wB, wS, wE, wEs, place]
  refine names_ok ht hg hb fun p ws S1 np e1 l1 hw b1 k1 => ?_
  refine take_ok ht b1 (by decide) (by decide) fun v S2 g1 g2 b2 k2 => ?_
  have e2 := k2 _ _ np e1
  simp [e2]
  intro r hr
  refine q1_of (q r (ws.take (1 + v).toNat) _ (b2.at hr) ?_ (by rw [List.length_take]; omega) (by rw [List.length_take]; omega) (fun s hs => hw s (List.mem_of_mem_take hs)) (b2.sub (Sub.new hr)) ((k1.trans k2).trans (Keep.new hr)))
  rw [ups_same, cutD_to (by omega), List.map_take]

/-! ### rights -/
inductive Rt where
  | one (s : Str)
  | turns (k : Nat) (ps : List Rt)
mutual
def toD : Rt → D
  | .one s => .tup [.str "one", .str s]
  | .turns k ps => .tup [.str "turns", .int k, .tup (toDs ps)]
def toDs : List Rt → List D
  | [] => []
  | r :: rs => toD r :: toDs rs
end
mutual
def lv : Rt → Nat
  | .one _ => 1
  | .turns _ ps => lvs ps
def lvs : List Rt → Nat
  | [] => 0
  | r :: rs => lv r + lvs rs
end
mutual
def dpt : Rt → Nat
  | .one _ => 1
  | .turns _ ps => 1 + dpts ps
def dpts : List Rt → Nat
  | [] => 0
  | r :: rs => max (dpt r) (dpts rs)
end
mutual
def RtOk : Rt → Prop
  | .one s => NameOk s
  | .turns k ps => 2 ≤ ps.length ∧ ps.length ≤ 5 ∧ k < ps.length ∧ RtOks ps
def RtOks : List Rt → Prop
  | [] => True
  | r :: rs => RtOk r ∧ RtOks rs
end
theorem toDs_app : ∀ a b : List Rt, toDs (a ++ b) = toDs a ++ toDs b
  | [], b => rfl
  | x :: a, b => by simp only [List.cons_append, toDs, toDs_app a b]
theorem toDs_len : ∀ a : List Rt, (toDs a).length = a.length
  | [] => rfl
  | x :: a => by simp only [toDs, List.length_cons, toDs_len a]
theorem lvs_app : ∀ a b : List Rt, lvs (a ++ b) = lvs a + lvs b
  | [], b => by simp [lvs]
  | x :: a, b => by simp only [List.cons_append, lvs, lvs_app a b]; omega
theorem dpts_app : ∀ a b : List Rt, dpts (a ++ b) = max (dpts a) (dpts b)
  | [], b => by simp [dpts]
  | x :: a, b => by simp only [List.cons_append, dpts, dpts_app a b]; omega
theorem oks_app : ∀ {a b : List Rt}, RtOks a → RtOks b → RtOks (a ++ b)
  | [], b, _, h => h
  | x :: a, b, h, g => by simp only [List.cons_append, RtOks]; exact ⟨h.1, oks_app h.2 g⟩
def fTree (t f : Nat) : Fn := ⟨7, 4,
    (.cons (.asg (.n [4]) (.bin .add (.c (.int 2)) (.call t (.app []) (.cons (.v 0) (.cons (.c (.int 4)) .nil)))))
    (.cons (.ite (.or (.cmp .eq (.v 1) (.c (.int 1))) (.or (.cmp .lt (.ix (.v 3) (.c (.int 0))) (.bin .sub (.v 4) (.c (.int 1)))) (.cmp .lt (.call t (.app []) (.cons (.v 0) (.cons (.c (.int 5)) .nil))) (.c (.int 2)))))
    (.cons (.ret (.tup (.cons (.c (.str "one")) (.cons (.ix (.v 2) (.call t (.app []) (.cons (.v 0) (.cons (.b1 .len (.v 2)) .nil)))) .nil))))
    .nil)
    .nil)
    (.cons (.augI .sub (.v 3) (.c (.int 0)) (.bin .sub (.v 4) (.c (.int 1))))
    (.cons (.asg (.n [5]) (.b1 .tuple (.lc (.call f (.app []) (.cons (.v 0) (.cons (.bin .sub (.v 1) (.c (.int 1))) (.cons (.v 2) (.cons (.v 3) .nil))))) [6] [6] (.rng (.v 4)) (.c (.bl true)))))
    (.cons (.ret (.tup (.cons (.c (.str "turns")) (.cons (.call t (.app []) (.cons (.v 0) (.cons (.v 4) .nil))) (.cons (.v 5) .nil)))))
    .nil)))))⟩
/-- all but b and r stays -/
def Keep2 (b r : Addr) (S S' : Sta) : Prop := ∀ a o, a ≠ b → a ≠ r → S a = some o → S' a = some o
theorem Keep2.trans {b r : Addr} {S S1 S2 : Sta} (h : Keep2 b r S S1) (g : Keep2 b r S1 S2) : Keep2 b r S S2 := fun a o n m e => g a o n m (h a o n m e)
theorem Keep.two {b r : Addr} {S S' : Sta} (h : Keep b S S') : Keep2 b r S S' := fun a o n _ e => h a o n e
theorem ixN_10 : L2.ixN 1 0 = some 0 := by decide
theorem Box.room {b r : Addr} {S : Sta} {v : Int} (x : Box b S) (n : r ≠ b) : Box b (ups S r (.lst [.int v])) := by
  obtain ⟨q, ns, i, r', s, e1, e2, y0, y1, y2, y3⟩ := x
  by_cases h : q = r
  · exact ⟨q, [v], i, r', s, by rw [ups_ne (Ne.symm n)]; exact e1, by rw [h]; exact ups_same, y0, y1, y2, y3⟩
  · exact ⟨q, ns, i, r', s, by rw [ups_ne (Ne.symm n)]; exact e1, by rw [ups_ne h]; exact e2, y0, y1, y2, y3⟩
theorem tree_ok {P : Prg} {t f : Nat} {b pp rm : Addr} {ws : List Str} (ht : P t = some fTake) (hf : P f = some (fTree t f)) (hw0 : 0 < ws.length) (hw1 : ws.length ≤ 7) (hw : ∀ s ∈ ws, NameOk s) (n1 : pp ≠ b) (n2 : rm ≠ b) (n3 : pp ≠ rm) :
    ∀ (d n : Nat) (S : Sta) (r : Int) (Q X : K), 1 ≤ d → d ≤ 100 → d < n → Box b S → S pp = some (.lst (ws.map D.str)) → S rm = some (.lst [.int r]) → 0 ≤ r → r < 1000 →
    (∀ (T : Rt) (r' : Int) (S' : Sta), RtOk T → dpt T ≤ d → 0 ≤ r' → (lv T : Int) + r' = 1 + r → Box b S' → S' rm = some (.lst [.int r']) → Keep2 b rm S S' → Q (toD T) S') →
    callW P n f [.ref b, .int d, .ref pp, .ref rm] S Q X
  | 0, _, _, _, _, _, h, _, _, _, _, _, _, _, _ => absurd h (by omega)
  | d + 1, 0, _, _, _, _, _, _, h, _, _, _, _, _, _ => absurd h (by omega)
  | d + 1, 1, _, _, _, _, _, _, h, _, _, _, _, _, _ => absurd h (by omega)
  | d + 1, n + 2, S, r, Q, X, _, hd, hn, hb, hp, hr, r0, r1, q => by
    refine callW_of hf rfl ?_
    simp [fTree, wB, wS, wE, wEs, wIt, wTg, place]
    refine take_ok ht hb (by decide) (by decide) fun v S1 g1 g2 b1 k1 => ?_
    have hp1 := k1 _ _ n1 hp
    have hr1 := k1 _ _ n2 hr
    have leaf : ∀ S2, Box b S2 → Keep b S S2 → callW P (n + 1) t [.ref b, .int ws.length] S2
        (fun y S2 => ixO (S2 pp) y S2 fun x S1 => 2 ≤ sizeLine ∧ Q1 Q (.tup [.str (Str.ofString "one"), x]) S1) (fun x S' => Q1 X x S') := fun S2 b2 k2 => by
      refine take_ok ht b2 (by omega) (by omega) fun v S3 g1 g2 b3 k3 => ?_
      have hp3 := k3 _ _ n1 (k2 _ _ n1 hp)
      have hr3 := k3 _ _ n2 (k2 _ _ n2 hr)
      have hv : v.toNat < ws.length := by omega
      simp [hp3]
      refine ⟨.str ws[v.toNat], at_pos g1 (by simp [hv]), line4 (by decide), q1_of ?_⟩
      exact q (.one ws[v.toNat]) r S3 (hw _ (List.getElem_mem hv)) (by simp [dpt]) r0 (by simp [lv]) b3 hr3 (k2.trans k3).two
    have big : ∀ S2, Box b S2 → Keep b S S2 → ¬ d = 0 → ¬ r < 2 + v - 1 →
        wcomp [] (fun x S2 R => callW P (n + 1) f [.ref b, .int d, .ref pp, .ref rm] S2 (fun d S4 => R (some d) S4) fun x x_1 => False)
          (List.map (fun i => D.int ((i : Nat) : Int)) (List.range (2 + v).toNat)) [] (ups S2 rm (.lst [.int (r - (2 + v - 1))])) fun ds S5 =>
          ∀ (p : Addr), S5 p = none → callW P (n + 1) t [.ref b, .int (2 + v)] (ups S5 p (.lst ds))
            (fun x S1 => 3 ≤ sizeLine ∧ Q1 Q (.tup [.str (Str.ofString "turns"), x, .tup ds]) S1) fun x S' => Q1 X x S' := fun S2 b2 k2 d0 hge => by
      have hm : (2 + v).toNat ≤ 5 := by omega
      refine wcomp_nat _ (by simp; omega) (fun i acc S3 => ∃ (ts : List Rt) (r' : Int), acc = toDs ts ∧ ts.length = i ∧ RtOks ts ∧ dpts ts ≤ d ∧ 0 ≤ r' ∧ (lvs ts : Int) + r' = i + (r - (2 + v - 1)) ∧ Box b S3 ∧ S3 rm = some (.lst [.int r']) ∧ Keep2 b rm S S3)
        ⟨[], r - (2 + v - 1), rfl, rfl, trivial, by simp [dpts], by omega, by simp [lvs], b2.room n2, ups_same, fun a o na nr e => by rw [ups_ne nr]; exact k2 a o na e⟩ (fun _ _ _ _ => held_nil) (fun i acc S3 ⟨ts, _, e, l, _⟩ => by rw [e, toDs_len, l]; exact Nat.le_refl _) (fun i x acc S3 R hx ⟨ts, r', e, l, o, dp, r0', hs, b3, hr3, k3⟩ hres _ => ?_) fun acc S3 ⟨ts, r', e, l, o, dp, r0', hs, b3, hr3, k3⟩ p hp' => ?_
      · obtain ⟨hi, rfl⟩ := range_at hx
        refine tree_ok ht hf hw0 hw1 hw n1 n2 n3 d (n + 1) S3 r' _ _ (by omega) (by omega) (by omega) b3 (k3 _ _ n1 n3 hp) hr3 r0' (by omega) fun T r2 S4 ok1 dp1 r20 hl b4 hr4 k4 => ?_
        refine hres _ _ ⟨ts ++ [T], r2, by rw [e, toDs_app]; rfl, by simp [l], oks_app o ⟨ok1, trivial⟩, by rw [dpts_app]; simp only [dpts]; omega, r20, ?_, b4, hr4, k3.trans k4⟩
        rw [lvs_app]
        simp only [lvs]
        push_cast
        omega
      · simp at l
        have hpr : p ≠ rm := by rintro rfl; rw [hr3] at hp'; cases hp'
        refine take_ok ht (b3.sub (Sub.new hp')) (by omega) (by omega) fun k S5 g5 g6 b5 k5 => ⟨line4 (by decide), q1_of ?_⟩
        have hk : ((k.toNat : Nat) : Int) = k := by omega
        have hr5 := k5 _ _ n2 (Sub.new hp' _ _ hr3)
        have kk : Keep2 b rm S S5 := k3.trans fun a o na nr e => k5 a o na (Sub.new hp' _ _ e)
        have := q (.turns k.toNat ts) r' S5 ⟨by omega, by omega, by omega, o⟩ (by simp only [dpt]; omega) r0' (by simp only [lv]; simp at hs; omega) b5 hr5 kk
        rw [e]
        simp only [toD, hk] at this
        exact this
    simp [hr1, hp1, ixN_10]
    have b62 : -4611686018427387904 ≤ 2 + v ∧ 2 + v < 4611686018427387904 := by omega
    split
    · exact leaf S1 b1 k1
    · split
      · exact leaf S1 b1 k1
      · refine take_ok ht b1 (by decide) (by decide) fun v5 S2 g3 g4 b2 k2 => ?_
        have hp2 := k2 _ _ n1 hp1
        have hr2 := k2 _ _ n2 hr1
        simp [hr2, hp2, ixN_10]
        split
        · exact leaf S2 b2 (k1.trans k2)
        · exact ⟨b62.1, b62.2, big S2 b2 (k1.trans k2) (by omega) (by assumption)⟩
end A
end
section
set_option Elab.async false
set_option linter.all false
set_option maxRecDepth 100000
set_option maxHeartbeats 4000000
/-! W5: a drawn right. -/
namespace A
open PySem L2
def fRight (t f : Nat) : Fn := ⟨7, 2,
    (.cons (.asg (.n [2]) (.call t (.app []) (.cons (.v 0) (.cons (.c (.int 4)) .nil))))
    (.cons (.ite (.cmp .eq (.v 2) (.c (.int 0)))
    (.cons (.ret (.call f (.app []) (.cons (.v 0) (.cons (.c (.int 4)) (.cons (.v 1) (.cons (.lst (.cons (.c (.int 23)) .nil)) .nil))))))
    .nil)
    .nil)
    (.cons (.asg (.n [3]) (.bin .add (.c (.int 2)) (.call t (.app []) (.cons (.v 0) (.cons (.c (.int 4)) .nil)))))
    (.cons (.asg (.n [4]) (.lst (.cons (.bin .sub (.c (.int 24)) (.v 3)) .nil)))
    (.cons (.asg (.n [5]) (.b1 .tuple (.lc (.call f (.app []) (.cons (.v 0) (.cons (.v 2) (.cons (.v 1) (.cons (.v 4) .nil))))) [6] [6] (.rng (.v 3)) (.c (.bl true)))))
    (.cons (.ret (.tup (.cons (.c (.str "turns")) (.cons (.call t (.app []) (.cons (.v 0) (.cons (.v 3) .nil))) (.cons (.v 5) .nil)))))
    .nil))))))⟩
theorem right_ok {P : Prg} {n t f g : Nat} {b pp : Addr} {ws : List Str} {S : Sta} {Q X : K} (ht : P t = some fTake) (hf : P f = some (fTree t f)) (h : P g = some (fRight t f)) (hw0 : 0 < ws.length) (hw1 : ws.length ≤ 7) (hw : ∀ s ∈ ws, NameOk s) (n1 : pp ≠ b)
    (hb : Box b S) (hp : S pp = some (.lst (ws.map D.str))) (q : ∀ (T : Rt) (S' : Sta), RtOk T → dpt T ≤ 4 → lv T ≤ 24 → Box b S' → Keep b S S' → Q (toD T) S') : callW P (n + 6) g [.ref b, .ref pp] S Q X := by
  refine callW_of h rfl ?_
  simp [fRight, wB, wS, wE, wEs, wIt, wTg, place]
  refine take_ok ht hb (by decide) (by decide) fun v S1 g1 g2 b1 k1 => ?_
  have hp1 := k1 _ _ n1 hp
  simp
  have drop : ∀ {rm : Addr} {S2 S3 : Sta}, S1 rm = none → Keep b S1 S2 → S2 rm = none → Keep2 b rm S2 S3 → Keep b S S3 := fun {rm S2 S3} e1 k2 e2 k3 a o na e => k3 a o na (sne (k2 a o na (k1 a o na e)) e2) (k2 a o na (k1 a o na e))
  split
  · refine ⟨line4 (by decide), fun rm hrm => ?_⟩
    have n3 : pp ≠ rm := sne hp1 hrm
    have k0 : Keep b S (ups S1 rm (.lst [.int 23])) := k1.trans (Keep.new hrm)
    refine tree_ok ht hf hw0 hw1 hw n1 (b1.at hrm) n3 4 (n + 5) _ 23 _ _ (by decide) (by decide) (by omega) (b1.sub (Sub.new hrm)) (k0 _ _ n1 hp) ups_same (by decide) (by decide) fun T r' S' ok dp r0 hl b2 _ k2 => q1_of (q T S' ok dp (by omega) b2 ?_)
    intro a o na e
    exact k2 a o na (sne (k1 a o na e) hrm) (k0 a o na e)
  · refine take_ok ht b1 (by decide) (by decide) fun v2 S2 g3 g4 b2 k2 => ?_
    have hp2 := k2 _ _ n1 hp1
    simp
    refine ⟨line4 (by decide), fun rm hrm => ?_⟩
    have n3 : pp ≠ rm := sne hp2 hrm
    have n2 := b2.at hrm
    have k0 : Keep b S (ups S2 rm (.lst [.int (24 - (2 + v2))])) := (k1.trans k2).trans (Keep.new hrm)
    have hm : (2 + v2).toNat ≤ 5 := by omega
    refine ⟨by omega, by omega, ?_⟩
    refine wcomp_nat _ (by simp; omega) (fun i acc S3 => ∃ (ts : List Rt) (r' : Int), acc = toDs ts ∧ ts.length = i ∧ RtOks ts ∧ dpts ts ≤ 3 ∧ 0 ≤ r' ∧ (lvs ts : Int) + r' = i + (24 - (2 + v2)) ∧ Box b S3 ∧ S3 rm = some (.lst [.int r']) ∧ Keep2 b rm (ups S2 rm (.lst [.int (24 - (2 + v2))])) S3)
      ⟨[], 24 - (2 + v2), rfl, rfl, trivial, by simp [dpts], by omega, by simp [lvs], b2.sub (Sub.new hrm), ups_same, fun a o _ _ e => e⟩ (fun _ _ _ _ => held_nil) (fun i acc S3 ⟨ts, _, e, l, _⟩ => by rw [e, toDs_len, l]; exact Nat.le_refl _) (fun i x acc S3 R hx ⟨ts, r', e, l, o, dp, r0', hs, b3, hr3, k3⟩ hres _ => ?_) fun acc S3 ⟨ts, r', e, l, o, dp, r0', hs, b3, hr3, k3⟩ p hp' => ?_
    · obtain ⟨hi, rfl⟩ := range_at hx
      have ev : ((v.toNat : Nat) : Int) = v := by omega
      rw [← ev]
      refine tree_ok ht hf hw0 hw1 hw n1 n2 n3 v.toNat (n + 5) S3 r' _ _ (by omega) (by omega) (by omega) b3 (k3 _ _ n1 n3 (k0 _ _ n1 hp)) hr3 r0' (by omega) fun T r2 S4 ok1 dp1 r20 hl b4 hr4 k4 => ?_
      refine hres _ _ ⟨ts ++ [T], r2, by rw [e, toDs_app]; rfl, by simp [l], oks_app o ⟨ok1, trivial⟩, by rw [dpts_app]; simp only [dpts]; omega, r20, ?_, b4, hr4, k3.trans k4⟩
      rw [lvs_app]
      simp only [lvs]
      push_cast
      omega
    · simp at l hs
      have hpr : p ≠ rm := by rintro rfl; rw [hr3] at hp'; cases hp'
      refine take_ok ht (b3.sub (Sub.new hp')) (by omega) (by omega) fun k S5 g5 g6 b5 k5 => ⟨line4 (by decide), q1_of ?_⟩
      have hk : ((k.toNat : Nat) : Int) = k := by omega
      have kk : Keep b S S5 := fun a o na e => k5 a o na (Sub.new hp' _ _ (k3 a o na (sne ((k1.trans k2) a o na e) hrm) (k0 a o na e)))
      have := q (.turns k.toNat ts) S5 ⟨by omega, by omega, by omega, o⟩ (by simp only [dpt]; omega) (by simp only [lv]; omega) b5 kk
      rw [e]
      simp only [toD, hk] at this
      exact this
end A
end
section
set_option Elab.async false
set_option linter.all false
set_option maxRecDepth 100000
set_option maxHeartbeats 4000000
/-! W6: a right's text. -/
namespace A
open PySem L2
def mk (b : Bool) : Str := if b then ">" else ""
mutual
def txS (m : Str) : Rt → Str
  | .one s => m ++ s
  | .turns k ps => m ++ "[" ++ Txt.join " " (wordsS k 0 ps) ++ "]"
def wordsS (k i : Nat) : List Rt → List Str
  | [] => []
  | r :: rs => txS (mk (i == k)) r :: wordsS k (i + 1) rs
end
theorem words_len : ∀ (k i : Nat) (l : List Rt), (wordsS k i l).length = l.length
  | _, _, [] => rfl
  | k, i, r :: rs => by simp only [wordsS, List.length_cons, words_len k (i + 1) rs]
theorem words_at : ∀ (k j : Nat) (l : List Rt) (i : Nat) (r : Rt), l[i]? = some r → (wordsS k j l)[i]? = some (txS (mk (j + i == k)) r)
  | _, _, [], _, _, h => by simp at h
  | k, j, x :: xs, 0, r, h => by simp at h; subst h; simp [wordsS]
  | k, j, x :: xs, i + 1, r, h => by
    simp only [wordsS, List.getElem?_cons_succ]
    rw [words_at k (j + 1) xs i r (by simpa using h)]
    have : j + 1 + i = j + (i + 1) := by omega
    rw [this]
theorem toDs_at : ∀ (l : List Rt) (i : Nat) (d : D), (toDs l)[i]? = some d → ∃ r, l[i]? = some r ∧ d = toD r
  | [], _, _, h => by simp [toDs] at h
  | x :: xs, 0, d, h => by simp [toDs] at h; exact ⟨x, rfl, h.symm⟩
  | x :: xs, i + 1, d, h => by
    simp only [toDs, List.getElem?_cons_succ] at h
    simpa using toDs_at xs i d h
theorem at_dp : ∀ {l : List Rt} {i : Nat} {r : Rt}, l[i]? = some r → RtOks l → dpt r ≤ dpts l ∧ RtOk r ∧ lv r ≤ lvs l
  | [], _, _, h, _ => by simp at h
  | x :: xs, 0, r, h, o => by simp at h; subst h; exact ⟨by simp only [dpts]; omega, o.1, by simp only [lvs]; omega⟩
  | x :: xs, i + 1, r, h, o => by
    obtain ⟨h1, h2, h3⟩ := at_dp (i := i) (by simpa using h) o.2
    exact ⟨by simp only [dpts]; omega, h2, by simp only [lvs]; omega⟩
theorem len_app (a b : Str) : (a ++ b).length = a.length + b.length := by rw [sg_len, sg_app, List.length_append, ← sg_len, ← sg_len]
theorem mk_len (b : Bool) : (mk b).length ≤ 1 := by cases b <;> decide +kernel
theorem join_len (l : List Str) : (Txt.join " " l).length ≤ (l.map (·.length)).sum + l.length := by
  rw [TL.join_eq]
  induction l with
  | nil => decide +kernel
  | cons x r ih =>
    cases r with
    | nil => simp [Str.join]
    | cons y t =>
      have e : Str.join " " (x :: y :: t) = x ++ " " ++ Str.join " " (y :: t) := rfl
      rw [e, len_app, len_app]
      have s1 : Str.length " " = 1 := by decide +kernel
      rw [s1]
      simp only [List.map_cons, List.sum_cons, List.length_cons] at ih ⊢
      omega
mutual
theorem tx_len (m : Str) : ∀ T : Rt, RtOk T → (txS m T).length + 24 ≤ m.length + 36 * lv T
  | .one s, h => by
    rw [txS, len_app]
    have := h.2.1
    rw [sg_len s]
    simp only [lv]
    omega
  | .turns k ps, h => by
    obtain ⟨h2, h5, _, o⟩ := h
    have w := words_sum k 0 ps o
    have j := join_len (wordsS k 0 ps)
    rw [words_len] at j
    rw [txS, len_app, len_app, len_app]
    have s1 : Str.length "[" = 1 := by decide +kernel
    have s2 : Str.length "]" = 1 := by decide +kernel
    rw [s1, s2]
    simp only [lv]
    omega
theorem words_sum (k i : Nat) : ∀ l : List Rt, RtOks l → ((wordsS k i l).map (·.length)).sum + 24 * l.length ≤ l.length + 36 * lvs l
  | [], _ => by simp [wordsS]
  | r :: rs, h => by
    have h1 := tx_len (mk (i == k)) r h.1
    have h2 := words_sum k (i + 1) rs h.2
    have h3 := mk_len (i == k)
    simp only [wordsS, List.map_cons, List.sum_cons, List.length_cons, lvs]
    omega
end
theorem enumF_at {l : List D} {i : Nat} {x : D} (h : (enumF 0 l)[i]? = some x) : ∃ d, l[i]? = some d ∧ x = .tup [.int i, d] := by
  have hl : i < l.length := by
    have := (List.getElem?_eq_some_iff.mp h).1
    rwa [enumF_len] at this
  refine ⟨l[i], List.getElem?_eq_getElem hl, ?_⟩
  rw [enumF_get l 0 i l[i] (List.getElem?_eq_getElem hl)] at h
  have := (Option.some.inj h).symm
  rwa [Int.zero_add] at this
def fText (f : Nat) : Fn := ⟨5, 2,
    (.cons (.ite (.cmp .eq (.ix (.v 0) (.c (.int 0))) (.c (.str "one")))
    (.cons (.ret (.bin .add (.v 1) (.ix (.v 0) (.c (.int 1)))))
    .nil)
    .nil)
    (.cons (.asg (.n [2]) (.lc (.call f (.app []) (.cons (.v 4) (.cons (.ix (.lst (.cons (.c (.str "")) (.cons (.c (.str ">")) .nil))) (.b1 .int (.cmp .eq (.v 3) (.ix (.v 0) (.c (.int 1)))))) .nil))) [3, 4] [3, 4] (.enm (.ix (.v 0) (.c (.int 2))) 0) (.c (.bl true))))
    (.cons (.ret (.bin .add (.bin .add (.bin .add (.v 1) (.c (.str "["))) (.bm .join (.c (.str " ")) (.cons (.v 2) .nil))) (.c (.str "]"))))
    .nil)))⟩
theorem line5 {n : Nat} (h : n < 10000) : n ≤ sizeLine := by rw [sizeLine_eq]; omega
theorem str_to : (Str.ofString "turns" == Str.ofString "one") = false := by decide +kernel
theorem text_ok {P : Prg} {f : Nat} (h : P f = some (fText f)) : ∀ (n : Nat) (T : Rt) (m : Str) (S : Sta) (Q X : K), RtOk T → lv T ≤ 30 → m.length ≤ 1 → dpt T ≤ n → (∀ S', Sub S S' → Q (.str (txS m T)) S') → callW P n f [toD T, .str m] S Q X
  | 0, T, _, _, _, _, _, _, _, hd, _ => by cases T <;> simp [dpt] at hd
  | n + 1, T, m, S, Q, X, ok, hl, hm, hd, q => by
    refine callW_of h rfl ?_
    cases T with
    | one s =>
      simp [fText, wB, wS, wE, toD]
      have b := tx_len m (.one s) ok
      rw [txS, len_app] at b
      simp only [lv] at b
      exact ⟨line5 (by omega), q1_of (q S (Sub.refl S))⟩
    | turns k ps =>
      have b := tx_len m (.turns k ps) ok
      obtain ⟨h2, h5, hk, o⟩ := ok
      simp only [lv] at hl
      simp only [dpt] at hd
      simp [fText, wB, wS, wE, wEs, wIt, wTg, place, toD, str_to]
      refine wcomp_nat _ (by rw [enumF_len, toDs_len]; omega) (fun i acc S3 => acc = ((wordsS k 0 ps).take i).map .str ∧ i ≤ ps.length ∧ Sub S S3) ⟨rfl, Nat.zero_le _, Sub.refl S⟩ (fun _ _ _ _ => held_nil) (fun i acc S3 ⟨e, _, _⟩ => by rw [e, List.length_map, List.length_take]; omega) (fun i x acc S3 R hx ⟨e, hi, sb⟩ hr _ => ?_) fun acc S3 ⟨e, hi, sb⟩ p hp => ?_
      · obtain ⟨d, hd1, rfl⟩ := enumF_at hx
        obtain ⟨r, hr1, rfl⟩ := toDs_at _ _ _ hd1
        obtain ⟨p1, p2, p3⟩ := at_dp hr1 o
        have hi' : i < ps.length := (List.getElem?_eq_some_iff.mp hr1).1
        simp
        refine ⟨line4 (by decide), fun p hp => ?_⟩
        have nx : ∀ S', Sub (ups S3 p (.lst [.str (Str.ofString ""), .str (Str.ofString ">")])) S' → R (some (.str (txS (mk (i == k)) r))) S' := fun S' hs => by
          refine hr _ _ ⟨?_, hi', (sb.trans (Sub.new hp)).trans hs⟩
          rw [List.take_succ, words_at k 0 ps i r hr1, e]
          simp
        have go : callW P n f [toD r, .str (mk (i == k))] (ups S3 p (.lst [.str (Str.ofString ""), .str (Str.ofString ">")])) (fun d S4 => R (some d) S4) fun _ _ => False :=
          text_ok h n r _ _ _ _ p2 (by omega) (mk_len _) (by omega) fun S' hs => nx S' hs
        by_cases hik : i = k
        · subst hik
          rw [if_pos rfl]
          have em : mk (i == i) = Str.ofString ">" := by simp [mk]
          rw [em] at go
          exact ⟨_, at_1 _ _ _, go⟩
        · rw [if_neg (by omega)]
          have em : mk (i == k) = Str.ofString "" := by simp [mk, hik]
          rw [em] at go
          exact ⟨_, at_0 _ _, go⟩
      · rw [enumF_len, toDs_len] at e
        have ew : acc = (wordsS k 0 ps).map .str := by rw [e, ← words_len k 0 ps, List.take_length]
        have s1 : Str.length (Str.ofString "[") = 1 := by decide +kernel
        have s2 : Str.length (Str.ofString "]") = 1 := by decide +kernel
        have s3 : Str.length (Str.ofString " ") = 1 := by decide +kernel
        have wsum := words_sum k 0 ps o
        have jl := join_len (wordsS k 0 ps)
        rw [words_len] at jl
        refine ⟨by rw [s1]; exact line4 (by omega), wordsS k 0 ps, by rw [ew]; exact strs_map _, ?_, ?_, ?_, ?_⟩
        · rw [s3, words_len]; omega
        · rw [len_app, s1]; exact line5 (by omega)
        · rw [len_app, len_app, s1, s2]; exact line5 (by omega)
        · exact q1_of (q _ (sb.trans (Sub.new hp)))
end A
end
section
set_option Elab.async false
set_option linter.all false
set_option maxRecDepth 100000
set_option maxHeartbeats 4000000
/-! W7: the program's text of a right, its holders' parts. -/
namespace A
open PySem L2
def restP (f : Nat) : Ss :=
    (.cons (.ite (.cmp .eq (.ix (.v 0) (.c (.int 0))) (.c (.str "one")))
    (.cons (.ret (.bin .add (.v 2) (.ix (.v 0) (.c (.int 1)))))
    .nil)
    .nil)
    (.cons (.asg (.n [3]) (.lc (.call f (.app []) (.cons (.v 5) (.cons (.cmp .eq (.v 4) (.ix (.v 0) (.c (.int 1)))) .nil))) [4, 5] [4, 5] (.enm (.ix (.v 0) (.c (.int 2))) 0) (.c (.bl true))))
    (.cons (.ret (.bin .add (.bin .add (.bin .add (.v 2) (.c (.str "["))) (.bm .join (.c (.str " ")) (.cons (.v 3) .nil))) (.c (.str "]"))))
    .nil)))
def fPart (f : Nat) : Fn := ⟨6, 2, .cons (.asg (.n [2]) (.ite (.v 1) (.c (.str ">")) (.c (.str "")))) (restP f)⟩
theorem part_ok {P : Prg} {f : Nat} (h : P f = some (fPart f)) : ∀ (n : Nat) (T : Rt) (b : Bool) (S : Sta) (Q X : K), RtOk T → lv T ≤ 30 → dpt T ≤ n → (∀ S', Sub S S' → Q (.str (txS (mk b) T)) S') → callW P n f [toD T, .bl b] S Q X
  | 0, T, _, _, _, _, _, _, hd, _ => by cases T <;> simp [dpt] at hd
  | n + 1, T, b, S, Q, X, ok, hl, hd, q => by
    refine callW_of h rfl ?_
    have hm := mk_len b
    have bd := tx_len (mk b) T ok
    have e : wB (callW P n) (restP f) [some (toD T), some (.bl b), some (.str (mk b)), none, none, none] S { nx := fun _ S' => Q1 Q .non S', rt := Q1 Q, ex := fun x _ S' => Q1 X x S' } → wB (callW P n) (fPart f).body ([toD T, .bl b].map some ++ List.replicate ((fPart f).n - (fPart f).k) none) S { nx := fun _ S' => Q1 Q .non S', rt := Q1 Q, ex := fun x _ S' => Q1 X x S' } := fun z => by
      cases b <;> (simp [fPart, wB, wS, wE, wTg]; exact z)
    refine e ?_
    clear e
    generalize mk b = mm at *
    cases T with
    | one s =>
      simp [restP, wB, wS, wE, toD]
      rw [txS, len_app] at bd
      simp only [lv] at bd
      exact ⟨line5 (by omega), q1_of (q S (Sub.refl S))⟩
    | turns k ps =>
      obtain ⟨h2, h5, hk, o⟩ := ok
      simp only [lv] at hl
      simp only [dpt] at hd
      simp [restP, wB, wS, wE, wEs, wIt, wTg, place, toD, str_to]
      refine wcomp_nat _ (by rw [enumF_len, toDs_len]; omega) (fun i acc S3 => acc = ((wordsS k 0 ps).take i).map .str ∧ i ≤ ps.length ∧ Sub S S3) ⟨rfl, Nat.zero_le _, Sub.refl S⟩ (fun _ _ _ _ => held_nil) (fun i acc S3 ⟨e, _, _⟩ => by rw [e, List.length_map, List.length_take]; omega) (fun i x acc S3 R hx ⟨e, hi, sb⟩ hr _ => ?_) fun acc S3 ⟨e, hi, sb⟩ p hp => ?_
      · obtain ⟨d, hd1, rfl⟩ := enumF_at hx
        obtain ⟨r, hr1, rfl⟩ := toDs_at _ _ _ hd1
        obtain ⟨p1, p2, p3⟩ := at_dp hr1 o
        have hi' : i < ps.length := (List.getElem?_eq_some_iff.mp hr1).1
        simp
        have eb : ((i : Int) == (k : Int)) = (i == k) := by
          by_cases z : i = k
          · subst z; simp
          · rw [beq_eq_false_iff_ne.mpr z, beq_eq_false_iff_ne.mpr (by omega)]
        refine part_ok h n r _ S3 _ _ p2 (by omega) (by omega) fun S' hs => hr _ _ ⟨?_, hi', sb.trans hs⟩
        rw [List.take_succ, words_at k 0 ps i r hr1, e]
        simp [eb]
      · rw [enumF_len, toDs_len] at e
        have ew : acc = (wordsS k 0 ps).map .str := by rw [e, ← words_len k 0 ps, List.take_length]
        have s1 : Str.length (Str.ofString "[") = 1 := by decide +kernel
        have s2 : Str.length (Str.ofString "]") = 1 := by decide +kernel
        have s3 : Str.length (Str.ofString " ") = 1 := by decide +kernel
        have wsum := words_sum k 0 ps o
        have jl := join_len (wordsS k 0 ps)
        rw [words_len] at jl
        refine ⟨by rw [s1]; exact line4 (by omega), wordsS k 0 ps, by rw [ew]; exact strs_map _, ?_, ?_, ?_, ?_⟩
        · rw [s3, words_len]; omega
        · rw [len_app, s1]; exact line5 (by omega)
        · rw [len_app, len_app, s1, s2]; exact line5 (by omega)
        · exact q1_of (q _ (sb.trans (Sub.new hp)))
def fRtext (f : Nat) : Fn := ⟨1, 1,
    (.cons (.ret (.call f (.app []) (.cons (.v 0) (.cons (.c (.bl false)) .nil))))
    .nil)⟩
theorem rtext_ok {P : Prg} {f g n : Nat} {T : Rt} {S : Sta} {Q X : K} (hf : P f = some (fPart f)) (h : P g = some (fRtext f)) (ok : RtOk T) (hl : lv T ≤ 30) (hd : dpt T ≤ n) (q : ∀ S', Sub S S' → Q (.str (txS "" T)) S') : callW P (n + 1) g [toD T] S Q X := by
  refine callW_of h rfl ?_
  simp [fRtext, wB, wS, wE, wEs, place]
  exact part_ok hf n T false S _ _ ok hl hd fun S' hs => q1_of (q S' hs)
def fLeaves (f : Nat) : Fn := ⟨2, 1,
    (.cons (.ite (.cmp .eq (.ix (.v 0) (.c (.int 0))) (.c (.str "one")))
    (.cons (.ret (.c (.int 1)))
    .nil)
    .nil)
    (.cons (.ret (.b1 .sum (.lc (.call f (.app []) (.cons (.v 1) .nil)) [1] [1] (.seq (.ix (.v 0) (.c (.int 2)))) (.c (.bl true)))))
    .nil))⟩
theorem ints_map : ∀ l : List Int, intsOf (l.map .int) = some l
  | [] => rfl
  | s :: r => by rw [List.map_cons, intsOf, ints_map r]; rfl
theorem lvs_sum : ∀ ps : List Rt, (lvs ps : Int) = (ps.map fun p => (lv p : Int)).sum
  | [] => rfl
  | r :: rs => by simp only [lvs, List.map_cons, List.sum_cons, ← lvs_sum rs]; omega
theorem leaves_ok {P : Prg} {f : Nat} (h : P f = some (fLeaves f)) : ∀ (n : Nat) (T : Rt) (S : Sta) (Q X : K), RtOk T → dpt T ≤ n → (∀ S', Sub S S' → Q (.int (lv T)) S') → callW P n f [toD T] S Q X
  | 0, T, _, _, _, _, hd, _ => by cases T <;> simp [dpt] at hd
  | n + 1, T, S, Q, X, ok, hd, q => by
    refine callW_of h rfl ?_
    cases T with
    | one s =>
      simp [fLeaves, wB, wS, wE, toD]
      exact q1_of (q S (Sub.refl S))
    | turns k ps =>
      obtain ⟨h2, h5, hk, o⟩ := ok
      simp only [dpt] at hd
      simp [fLeaves, wB, wS, wE, wEs, wIt, wTg, place, toD, str_to]
      refine wcomp_nat _ (by rw [toDs_len]; omega) (fun i acc S3 => acc = ((ps.take i).map fun p => (lv p : Int)).map .int ∧ i ≤ ps.length ∧ Sub S S3) ⟨rfl, Nat.zero_le _, Sub.refl S⟩ (fun _ _ _ _ => held_nil) (fun i acc S3 ⟨e, _, _⟩ => by rw [e, List.length_map, List.length_map, List.length_take]; omega) (fun i x acc S3 R hx ⟨e, hi, sb⟩ hr _ => ?_) fun acc S3 ⟨e, hi, sb⟩ p hp => ?_
      · obtain ⟨r, hr1, rfl⟩ := toDs_at _ _ _ hx
        obtain ⟨p1, p2, p3⟩ := at_dp hr1 o
        have hi' : i < ps.length := (List.getElem?_eq_some_iff.mp hr1).1
        refine leaves_ok h n r S3 _ _ p2 (by omega) fun S' hs => hr _ _ ⟨?_, hi', sb.trans hs⟩
        rw [List.take_succ, hr1, e]
        simp
      · rw [toDs_len, List.take_length] at e
        refine ⟨_, by rw [e]; exact ints_map _, ?_⟩
        rw [← lvs_sum]
        exact q1_of (q _ (sb.trans (Sub.new hp)))
end A
end
section
set_option Elab.async false
set_option linter.all false
set_option maxRecDepth 100000
set_option maxHeartbeats 4000000
/-! W8: a text read back. -/
namespace A
open PySem L2
def fIsName : Fn := ⟨2, 1,
    (.cons (.ret (.and (.chn (.c (.int 1)) .le (.b1 .len (.v 0)) .le (.c (.int 8))) (.b1 .all (.lc (.cmp .inn (.v 1) (.c (.str "abcdefghijklmnopqrstuvwxyz"))) [1] [1] (.seq (.v 0)) (.c (.bl true))))))
    .nil)⟩
theorem isL_in {c : Nat} (h : isL c) : c ∈ sg letters := by
  rw [sg_letters]
  refine List.mem_map.mpr ⟨c - 97, List.mem_range.mpr ?_, ?_⟩ <;> (unfold isL at h; omega)
theorem notL_in {c : Nat} (h : ¬ isL c) : c ∉ sg letters := by
  rw [sg_letters]
  intro z
  obtain ⟨j, h1, h2⟩ := List.mem_map.mp z
  have := List.mem_range.mp h1
  apply h
  unfold isL
  omega
theorem isname_ok {P : Prg} {n f : Nat} {s : Str} {S : Sta} {Q X : K} (h : P f = some fIsName) (hs : NameOk s) (q : ∀ S', Sub S S' → Q (.bl true) S') : callW P (n + 1) f [.str s] S Q X := by
  obtain ⟨h1, h2, h3⟩ := hs
  refine callW_of h rfl ?_
  have hl := sg_len s
  have hL : ("abcdefghijklmnopqrstuvwxyz" : Str) = letters := rfl
  simp only [fIsName, hL]
  simp [wB, wS, wE, wEs, wIt, wTg, place]
  have e1 : (1 : Int) ≤ s.length := by omega
  have e2 : (s.length : Int) ≤ 8 := by omega
  refine ⟨line4 (by omega), ?_⟩
  rw [if_pos e1, if_pos e2]
  refine wcomp_nat _ (by rw [List.length_map]; show (sg s).length < _; omega) (fun i acc S' => acc = List.replicate i (.bl true) ∧ Sub S S') ⟨rfl, Sub.refl S⟩ (fun _ _ _ _ => held_nil) (fun i acc S' h => by rw [h.1]; simp) (fun i x acc S' R hx hI hr _ => ?_) fun acc S' hI r hr => ?_
  · rw [List.getElem?_map] at hx
    obtain ⟨c, hc, rfl⟩ := Option.map_eq_some_iff.mp hx
    have hm : c ∈ sg s := List.mem_of_getElem? hc
    have hin : decide (c ∈ letters.cps.toList) = true := decide_eq_true (isL_in (h3 c hm))
    refine ⟨c, rfl, ?_⟩
    rw [hin]
    refine hr _ S' ⟨?_, hI.2⟩
    rw [hI.1, List.replicate_succ']
  · rw [hI.1]
    refine ⟨_, bsOf_rep _, ?_⟩
    have e : (List.replicate (List.map (fun c => D.str { cps := #[c] }) s.cps.toList).length true).all id = true := by simp
    rw [e]
    exact q1_of (q _ (hI.2.trans (Sub.new hr)))
theorem sg_cut1 {z : Str} {a : Nat} : sg (L2.cutS z (some (a : Int)) (some ((a : Int) + 1))) = ((sg z).drop a).take 1 := by
  have hl := sg_len z
  unfold L2.cutS
  show (List.toArray _).toList = _
  rw [List.toList_toArray]
  have e : (a : Int) + 1 = ((a + 1 : Nat) : Int) := by omega
  rw [e, HT.sIx_nat, HT.sIx_nat, hl]
  show ((sg z).drop _).take _ = _
  by_cases h : a < (sg z).length
  · rw [Nat.min_eq_left (by omega), Nat.min_eq_left (by omega)]
    congr 1
    omega
  · rw [Nat.min_eq_right (by omega), Nat.min_eq_right (by omega), List.drop_eq_nil_of_le (by omega), List.drop_eq_nil_of_le (by omega)]
    simp
theorem sg_cutN {z : Str} {a b : Nat} (hab : a ≤ b) : sg (L2.cutS z (some (a : Int)) (some (b : Int))) = ((sg z).drop a).take (b - a) := by
  have hl := sg_len z
  unfold L2.cutS
  show (List.toArray _).toList = _
  rw [List.toList_toArray]
  rw [HT.sIx_nat, HT.sIx_nat, hl]
  show ((sg z).drop _).take _ = _
  by_cases h : a ≤ (sg z).length
  · rw [Nat.min_eq_left h]
    rcases Nat.le_total b (sg z).length with hb | hb
    · rw [Nat.min_eq_left hb]
    · rw [Nat.min_eq_right hb, List.take_of_length_le (by rw [List.length_drop]; omega), List.take_of_length_le (by rw [List.length_drop]; omega)]
  · rw [Nat.min_eq_right (by omega), Nat.min_eq_right (by omega), List.drop_eq_nil_of_le (by omega), List.drop_eq_nil_of_le (by omega)]
    simp
theorem tx_mark (m : Str) : ∀ T : Rt, sg (txS m T) = sg m ++ sg (txS "" T)
  | .one s => by
    rw [txS, txS, sg_app, sg_app]
    rfl
  | .turns k ps => by
    rw [txS, txS]
    simp only [sg_app, List.append_assoc]
    rfl
def fRead (p i : Nat) : Fn := ⟨4, 3,
    (.cons (.ite (.cmp .eq (.v 2) (.c (.int 0)))
    (.cons .nev
    .nil)
    .nil)
    (.cons (.ite (.cmp .eq (.sl (.v 0) (.v 1) (.bin .add (.v 1) (.c (.int 1)))) (.c (.str "[")))
    (.cons (.ret (.call p (.app []) (.cons (.v 0) (.cons (.bin .add (.v 1) (.c (.int 1))) (.cons (.bin .sub (.v 2) (.c (.int 1))) .nil)))))
    .nil)
    .nil)
    (.cons (.asg (.n [3]) (.v 1))
    (.cons (.whl (.and (.cmp .lt (.v 3) (.b1 .len (.v 0))) (.cmp .inn (.ix (.v 0) (.v 3)) (.c (.str "abcdefghijklmnopqrstuvwxyz"))))
    (.cons (.aug .add 3 (.c (.int 1)))
    .nil))
    (.cons (.ite (.not (.call i (.app []) (.cons (.sl (.v 0) (.v 1) (.v 3)) .nil)))
    (.cons .nev
    .nil)
    .nil)
    (.cons (.ret (.tup (.cons (.tup (.cons (.c (.str "one")) (.cons (.sl (.v 0) (.v 1) (.v 3)) .nil))) (.cons (.v 3) .nil))))
    .nil))))))⟩
def PostOk (l : List Nat) : Prop := l = [] ∨ ∃ c r, l = c :: r ∧ ¬ isL c
theorem one_ok {P : Prg} {n f p i : Nat} {s text : Str} {pre post : List Nat} {deep : Int} {S : Sta} {Q X : K} (hi : P i = some fIsName) (h : P f = some (fRead p i)) (hs : NameOk s) (hd : deep ≠ 0) (ht : sg text = pre ++ sg s ++ post) (hp : PostOk post) (hl : text.length ≤ sizeLine)
    (q : ∀ S', Sub S S' → Q (.tup [.tup [.str "one", .str s], .int ((pre.length + (sg s).length : Nat) : Int)]) S') : callW P (n + 2) f [.str text, .int pre.length, .int deep] S Q X := by
  refine callW_of h rfl ?_
  have hL : ("abcdefghijklmnopqrstuvwxyz" : Str) = letters := rfl
  have hlen := sg_len text
  rw [ht, List.length_append, List.length_append] at hlen
  have h1 : sg (L2.cutS text (some (pre.length : Int)) (some ((pre.length : Int) + 1))) = (sg s).take 1 := by
    rw [sg_cut1, ht, List.append_assoc, List.drop_left]
    cases e : sg s with
    | nil => have := hs.1; rw [e] at this; simp at this
    | cons c r => simp
  have hb : (L2.cutS text (some (pre.length : Int)) (some ((pre.length : Int) + 1)) == Str.ofString "[") = false := by
    refine beq_eq_false_iff_ne.mpr fun z => ?_
    have z2 := h1
    rw [z] at z2
    have z3 : sg (Str.ofString "[") = [91] := by decide +kernel
    rw [z3] at z2
    cases e : sg s with
    | nil => have := hs.1; rw [e] at this; simp at this
    | cons c r =>
      rw [e] at z2
      simp at z2
      have := hs.2.2 c (by rw [e]; simp)
      unfold isL at this
      omega
  simp only [fRead, hL]
  simp [wB, wS, wE, wEs, wTg, place, hd, hl, hb]
  refine ⟨fun m ρ S' => ∃ j, j ≤ (sg s).length ∧ m = (sg s).length - j ∧ ρ = [some (.str text), some (.int pre.length), some (.int deep), some (.int ((pre.length + j : Nat) : Int))] ∧ S' = S, ⟨_, 0, Nat.zero_le _, rfl, rfl, rfl⟩, ?_⟩
  rintro m ρ S' ⟨j, hj, rfl, rfl, rfl⟩
  by_cases hjl : j < (sg s).length
  · have c1 : (((pre.length + j : Nat) : Int) < (text.length : Int)) := by omega
    have at1 : L2.atI text.cps.toList ((pre.length + j : Nat) : Int) = some (sg s)[j] := by
      refine L2.atI_nat ?_
      show (sg text)[pre.length + j]? = _
      rw [ht, List.append_assoc, List.getElem?_append_right (by omega), List.getElem?_append_left (by omega)]
      have : pre.length + j - pre.length = j := by omega
      rw [this]
      exact List.getElem?_eq_getElem hjl
    generalize hk : ((pre.length + j : Nat) : Int) = k at *
    have hin : (sg s)[j] ∈ letters.cps := by
      have z := isL_in (hs.2.2 _ (List.getElem_mem hjl))
      simpa [sg] using z
    simp [hl, c1, at1, hin]
    exact ⟨_, (by omega : (sg s).length - (j + 1) < (sg s).length - j), j + 1, by omega, rfl, by omega⟩
  · have ej : j = (sg s).length := by omega
    subst ej
    have cut : L2.cutS text (some (pre.length : Int)) (some ((pre.length + (sg s).length : Nat) : Int)) = s := by
      refine sg_inj ?_
      rw [sg_cutN (by omega), ht, List.append_assoc, List.drop_left]
      have : pre.length + (sg s).length - pre.length = (sg s).length := by omega
      rw [this, List.take_left]
    generalize hk : ((pre.length + (sg s).length : Nat) : Int) = k at *
    have fin : ∀ S3 : Sta, S3 = S' → callW P (n + 1) i [.str s] S3 (fun x S1 => wtru S1 x fun b => b = true ∧ 2 ≤ sizeLine ∧ Q1 Q (.tup [.tup [.str (Str.ofString "one"), .str s], .int k]) S1) (fun x S' => Q1 X x S') := fun S3 e => by
      subst e
      refine isname_ok hi hs fun S4 h4 => ?_
      simp
      exact ⟨line4 (by decide), q1_of (q S4 h4)⟩
    rcases hp with rfl | ⟨c, r, rfl, hc⟩
    · have c1 : ¬ (k < (text.length : Int)) := by simp at hlen; omega
      simp [hl, c1, cut]
      exact fin S' rfl
    · have c1 : k < (text.length : Int) := by simp at hlen; omega
      have at1 : L2.atI text.cps.toList k = some c := by
        rw [← hk]
        refine L2.atI_nat ?_
        show (sg text)[pre.length + (sg s).length]? = _
        rw [ht, List.getElem?_append_right (by simp)]
        simp
      have hin : c ∉ letters.cps := fun z => notL_in hc (by simpa [sg] using z)
      simp [hl, c1, at1, hin, cut]
      exact fin S' rfl
end A
end
section
set_option Elab.async false
set_option linter.all false
set_option maxRecDepth 100000
set_option maxHeartbeats 4000000
/-! W9: rights of parts read back. -/
namespace A
open PySem L2
/-- what stands behind a part: a blank and the next one, or the closing sign -/
def remS (k i : Nat) : List Rt → List Nat
  | [] => [93]
  | r :: rs => 32 :: (sg (txS (mk (i == k)) r) ++ remS k (i + 1) rs)
theorem sgc (c : Nat) (s : Str) (h : s = ⟨#[c]⟩) : sg s = [c] := by rw [h]; rfl
theorem sg_blank : sg (" " : Str) = [32] := by decide +kernel
theorem sg_open : sg ("[" : Str) = [91] := by decide +kernel
theorem sg_close : sg ("]" : Str) = [93] := by decide +kernel
theorem sg_gt : sg (">" : Str) = [62] := by decide +kernel
theorem sg_nil : sg ("" : Str) = [] := by decide +kernel
theorem words_rem (k : Nat) : ∀ (rs : List Rt) (i : Nat) (r : Rt), sg (Txt.join " " (wordsS k i (r :: rs))) ++ [93] = sg (txS (mk (i == k)) r) ++ remS k (i + 1) rs
  | [], i, r => by
    rw [TL.join_eq]
    simp only [wordsS, Str.join, remS]
  | q :: qs, i, r => by
    have ih := words_rem k qs (i + 1) q
    rw [TL.join_eq] at ih ⊢
    have e : Str.join " " (wordsS k i (r :: q :: qs)) = txS (mk (i == k)) r ++ " " ++ Str.join " " (wordsS k (i + 1) (q :: qs)) := rfl
    rw [e, sg_app, sg_app, sg_blank, List.append_assoc, List.append_assoc, ih]
    rfl
theorem tx_turns (k : Nat) (r : Rt) (rs : List Rt) : sg (txS "" (.turns k (r :: rs))) = 91 :: (sg (txS (mk (0 == k)) r) ++ remS k 1 rs) := by
  have w := words_rem k rs 0 r
  rw [txS, sg_app, sg_app, sg_app, sg_open, sg_close, sg_nil, List.append_assoc, w]
  rfl
/-- a right's text begins by a letter or by the opening sign -/
theorem tx_head : ∀ T : Rt, RtOk T → ∃ c r, sg (txS "" T) = c :: r ∧ c ≠ 62 ∧ (c = 91 ∨ isL c)
  | .one s, h => by
    rw [txS, sg_app, sg_nil, List.nil_append]
    cases e : sg s with
    | nil => have := h.1; rw [e] at this; simp at this
    | cons c r =>
      have z := h.2.2 c (by rw [e]; simp)
      exact ⟨c, r, rfl, by unfold isL at z; omega, .inr z⟩
  | .turns k [], h => by have := h.1; simp at this
  | .turns k (r :: rs), h => ⟨91, _, tx_turns k r rs, by decide, .inl rfl⟩
theorem rem_post (k i : Nat) (rs : List Rt) (post : List Nat) : PostOk (remS k i rs ++ post) := by
  cases rs with
  | nil => exact .inr ⟨93, post, rfl, by unfold isL; omega⟩
  | cons r rs => exact .inr ⟨32, _, rfl, by unfold isL; omega⟩
theorem eq_sg {a b : Str} : (a == b) = decide (sg a = sg b) := by
  by_cases h : a = b
  · subst h; simp
  · have h2 : sg a ≠ sg b := fun z => h (sg_inj z)
    rw [beq_eq_false_iff_ne.mpr h, decide_eq_false h2]
/-- the sign at a place -/
theorem cut_is {text : Str} {a : Nat} {c : Nat} {r : List Nat} (h : (sg text).drop a = c :: r) (x : Str) (d : Nat) (hx : sg x = [d]) : (L2.cutS text (some (a : Int)) (some ((a : Int) + 1)) == x) = decide (c = d) := by
  rw [eq_sg, sg_cut1, h, hx]
  simp
end A
end
section
set_option Elab.async false
set_option linter.all false
set_option maxRecDepth 100000
set_option maxHeartbeats 4000000
/-! W10: read_right, read_parts. -/
namespace A
open PySem L2
def fParts (f : Nat) : Fn := ⟨7, 3,
    (.cons (.asg (.n [3]) (.lst .nil))
    (.cons (.asg (.n [4]) (.lst .nil))
    (.cons (.asg (.n [5]) (.c (.bl true)))
    (.cons (.whl (.v 5)
    (.cons (.ite (.cmp .eq (.sl (.v 0) (.v 1) (.bin .add (.v 1) (.c (.int 1)))) (.c (.str ">")))
    (.cons (.ex (.bm .append (.v 4) (.cons (.b1 .len (.v 3)) .nil)))
    (.cons (.aug .add 1 (.c (.int 1)))
    .nil))
    .nil)
    (.cons (.asg (.n [6, 1]) (.call f (.app []) (.cons (.v 0) (.cons (.v 1) (.cons (.v 2) .nil)))))
    (.cons (.ex (.bm .append (.v 3) (.cons (.v 6) .nil)))
    (.cons (.asg (.n [5]) (.cmp .eq (.sl (.v 0) (.v 1) (.bin .add (.v 1) (.c (.int 1)))) (.c (.str " "))))
    (.cons (.aug .add 1 (.b1 .int (.v 5)))
    .nil))))))
    (.cons (.ite (.or (.cmp .ne (.sl (.v 0) (.v 1) (.bin .add (.v 1) (.c (.int 1)))) (.c (.str "]"))) (.or (.cmp .ne (.b1 .len (.v 4)) (.c (.int 1))) (.not (.chn (.c (.int 2)) .le (.b1 .len (.v 3)) .le (.c (.int 5))))))
    (.cons .nev
    .nil)
    .nil)
    (.cons (.ret (.tup (.cons (.tup (.cons (.c (.str "turns")) (.cons (.ix (.v 4) (.c (.int 0))) (.cons (.b1 .tuple (.v 3)) .nil)))) (.cons (.bin .add (.v 1) (.c (.int 1))) .nil))))
    .nil))))))⟩
theorem dpt_pos : ∀ T : Rt, 1 ≤ dpt T
  | .one _ => Nat.le_refl _
  | .turns _ _ => by simp only [dpt]; omega
/-- one more part is read: done: what is read; front: the parts read -/
def RI (text : Str) (post : List Nat) (k : Nat) (ps : List Rt) (deep : Int) (pA pM : Addr) (S0 : Sta) (m : Nat) (ρ : Env) (S : Sta) : Prop :=
  ∃ (front : List Rt) (done : List Nat) (going : Bool) (z : Option D), ρ = [some (.str text), some (.int (done.length : Nat)), some (.int deep), some (.ref pA), some (.ref pM), some (.bl going), z] ∧
    S pA = some (.lst (toDs front)) ∧ S pM = some (.lst (if k < front.length then [.int k] else [])) ∧ Sub S0 S ∧
    ((going = true ∧ ∃ r rs, ps = front ++ r :: rs ∧ m = rs.length + 1 ∧ sg text = done ++ (sg (txS (mk (front.length == k)) r) ++ remS k (front.length + 1) rs) ++ post) ∨
     (going = false ∧ m = 0 ∧ front = ps ∧ sg text = done ++ [93] ++ post))
theorem turn_close {text : Str} {post : List Nat} {k : Nat} {ps front : List Rt} {r : Rt} {rs : List Rt} {deep a : Int} {pA pM : Addr} {S0 S2 : Sta} {m : Nat} {done : List Nat} {d : D}
    (eps : ps = front ++ r :: rs) (hm : m = rs.length + 1) (ha : a = (done.length : Nat)) (htx : sg text = done ++ remS k (front.length + 1) rs ++ post)
    (fM : S2 pM = some (.lst (if k < front.length + 1 then [.int k] else []))) (hAM : pA ≠ pM) (hA : S0 pA = none) (sb : Sub S0 S2) :
    ∃ m', m' < m ∧ RI text post k ps deep pA pM S0 m'
      [some (.str text), some (.int (a + if cutS text (some a) (some (a + 1)) = Str.ofString " " then 1 else 0)), some (.int deep), some (.ref pA), some (.ref pM),
        some (.bl (cutS text (some a) (some (a + 1)) == Str.ofString " ")), some d] (ups S2 pA (.lst (toDs front ++ [toD r]))) := by
  subst ha
  have dr : (sg text).drop done.length = remS k (front.length + 1) rs ++ post := by rw [htx, List.append_assoc, List.drop_left]
  have fM' : ∀ o, (ups S2 pA o) pM = some (.lst (if k < (front ++ [r]).length then [.int k] else [])) := fun o => by
    rw [ups_ne (Ne.symm hAM), fM]; simp
  have fA' : (ups S2 pA (.lst (toDs front ++ [toD r]))) pA = some (.lst (toDs (front ++ [r]))) := by
    rw [ups_same, toDs_app]; rfl
  cases rs with
  | nil =>
    have hc := cut_is (r := post) dr " " 32 sg_blank
    have hb : (cutS text (some (done.length : Int)) (some ((done.length : Int) + 1)) == Str.ofString " ") = false := by
      rw [show (Str.ofString " ") = (" " : Str) from rfl, hc]; rfl
    have hn : ¬ (cutS text (some (done.length : Int)) (some ((done.length : Int) + 1)) = Str.ofString " ") := by
      intro z; rw [z] at hb; simp at hb
    rw [hb, if_neg hn]
    refine ⟨0, by omega, front ++ [r], done, false, some d, by simp, fA', fM' _, sb.ups hA, .inr ⟨rfl, rfl, eps.symm, htx⟩⟩
  | cons q qs =>
    have hc := cut_is (r := sg (txS (mk (front.length + 1 == k)) q) ++ remS k (front.length + 1 + 1) qs ++ post) (by rw [dr]; rfl) " " 32 sg_blank
    have hb : (cutS text (some (done.length : Int)) (some ((done.length : Int) + 1)) == Str.ofString " ") = true := by
      rw [show (Str.ofString " ") = (" " : Str) from rfl, hc]; rfl
    have hn : (cutS text (some (done.length : Int)) (some ((done.length : Int) + 1)) = Str.ofString " ") := eq_of_beq hb
    rw [hb, if_pos hn]
    refine ⟨qs.length + 1, by rw [hm]; simp, front ++ [r], done ++ [32], true, some d, by simp, fA', fM' _, sb.ups hA, .inl ⟨rfl, q, qs, by rw [eps]; simp, rfl, ?_⟩⟩
    rw [htx]
    simp [remS]
theorem read_ok {P : Prg} {rr pp ii : Nat} (hi : P ii = some fIsName) (hr : P rr = some (fRead pp ii)) (hp : P pp = some (fParts rr)) :
    ∀ (n : Nat) (T : Rt) (text : Str) (pre post : List Nat) (deep : Nat) (S : Sta) (Q X : K), RtOk T → dpt T ≤ deep → 2 * dpt T ≤ n → sg text = pre ++ sg (txS "" T) ++ post → PostOk post → text.length ≤ 5000 →
    (∀ S', Sub S S' → Q (.tup [toD T, .int ((pre.length + (sg (txS "" T)).length : Nat) : Int)]) S') → callW P n rr [.str text, .int pre.length, .int deep] S Q X
  | 0, T, _, _, _, _, _, _, _, _, _, h, _, _, _, _ => absurd h (by have := dpt_pos T; omega)
  | 1, T, _, _, _, _, _, _, _, _, _, h, _, _, _, _ => absurd h (by have := dpt_pos T; omega)
  | n + 2, .one s, text, pre, post, deep, S, Q, X, ok, hd, _, ht, po, hl, q => by
    have e : sg (txS "" (.one s)) = sg s := by rw [txS, sg_app, sg_nil, List.nil_append]
    rw [e] at ht q
    simp only [dpt] at hd
    exact one_ok hi hr ok (by omega) ht po (line5 (by omega)) q
  | n + 2, .turns k [], text, pre, post, deep, S, Q, X, ok, _, _, _, _, _, _ => absurd ok.1 (by simp)
  | n + 2, .turns k (r0 :: rs0), text, pre, post, deep, S, Q, X, ok, hd, hn, ht, po, hl, q => by
    obtain ⟨h2, h5, hk, o⟩ := ok
    simp only [dpt] at hd hn
    have hls : text.length ≤ sizeLine := line5 (by omega)
    rw [tx_turns] at ht
    have dr : (sg text).drop pre.length = 91 :: (sg (txS (mk (0 == k)) r0) ++ remS k 1 rs0 ++ post) := by
      rw [ht, List.append_assoc, List.drop_left]; rfl
    have hb := cut_is dr "[" 91 sg_open
    have hd0 : ¬ ((deep : Int) = 0) := by omega
    refine callW_of hr rfl ?_
    simp [fRead, wB, wS, wE, wEs, wTg, place, hd0, hls, hb]
    refine ⟨by omega, ?_⟩
    refine callW_of hp rfl ?_
    simp [fParts, wB, wS, wE, wEs, wTg, place, hls]
    intro pA hA pM hM
    have e0 : ((deep : Int) - 1) = ((deep - 1 : Nat) : Int) := by omega
    rw [e0]
    have hAM : pA ≠ pM := by rintro rfl; rw [ups_same] at hM; cases hM
    have hM' : S pM = none := by rw [ups_ne (Ne.symm hAM)] at hM; exact hM
    have e1 : ((pre.length : Int) + 1) = (((pre ++ [91]).length : Nat) : Int) := by simp
    rw [e1]
    refine ⟨RI text post k (r0 :: rs0) ((deep - 1 : Nat) : Int) pA pM S, ⟨_, [], pre ++ [91], true, none, rfl, by rw [ups_ne hAM]; exact ups_same, ups_same, (Sub.new hA).trans (Sub.new hM), .inl ⟨rfl, r0, rs0, rfl, rfl, ?_⟩⟩, ?_⟩
    · rw [ht]; simp
    rintro m ρ S1 ⟨front, done, going, z, rfl, eA, eM, sb, alt⟩
    rcases alt with ⟨rfl, r, rs, eps, hm, htx⟩ | ⟨rfl, hm, hfr, htx⟩
    · have hg : (front ++ r :: rs)[front.length]? = some r := by simp
      rw [← eps] at hg
      obtain ⟨q1, q2, _⟩ := at_dp hg o
      have hfl : front.length < 5 := by
        have := congrArg List.length eps
        simp at this h5
        omega
      have dn : (sg text).drop done.length = sg (txS (mk (front.length == k)) r) ++ remS k (front.length + 1) rs ++ post := by rw [htx, List.append_assoc, List.drop_left]
      obtain ⟨c0, t0, hc0, hc62, _⟩ := tx_head r q2
      have hmax : done.length ≤ 5000 := by
        have := congrArg List.length htx
        rw [← sg_len] at this
        simp at this
        omega
      by_cases hb : front.length = k
      · have hbk : (front.length == k) = true := by simpa using hb
        rw [hbk] at dn htx
        have hmk : sg (mk true) = [62] := by decide +kernel
        have dn2 : (sg text).drop done.length = 62 :: (sg (txS "" r) ++ remS k (front.length + 1) rs ++ post) := by
          rw [dn, tx_mark, hmk]; simp
        have hcut := cut_is dn2 ">" 62 sg_gt
        have hnk : ¬ k < front.length := by omega
        rw [if_neg hnk] at eM
        simp [hls, hcut, eA, eM, hAM, Ne.symm hAM]
        refine ⟨by decide, ?_⟩
        have e2 : ((done.length : Int) + 1) = (((done ++ [62]).length : Nat) : Int) := by simp
        rw [e2]
        refine read_ok hi hr hp n r text (done ++ [62]) (remS k (front.length + 1) rs ++ post) (deep - 1) _ _ _ q2 (by omega) (by omega) (by rw [htx, tx_mark, hmk]; simp) (rem_post ..) hl fun S2 sb2 => ?_
        have fA : S2 pA = some (.lst (toDs front)) := sb2 _ _ (by rw [ups_ne hAM]; exact eA)
        have fM : S2 pM = some (.lst [.int (toDs front).length]) := sb2 _ _ ups_same
        simp [fA, fM, hls]
        refine ⟨by rw [toDs_len]; exact line4 (by omega), ?_⟩
        exact turn_close (done := done ++ [62] ++ sg (txS "" r)) eps hm (by rw [List.length_append, List.length_append]; simp only [List.length_cons, List.length_nil]; omega) (by rw [htx, tx_mark, hmk]; simp) (by rw [fM, if_pos (by omega), toDs_len, hb]) hAM hA ((sb.ups hM').trans sb2)
      · have hbk : (front.length == k) = false := by simpa using hb
        rw [hbk] at dn htx
        have hmk : sg (mk false) = [] := by decide +kernel
        have dn2 : (sg text).drop done.length = c0 :: (t0 ++ remS k (front.length + 1) rs ++ post) := by
          rw [dn, tx_mark, hmk, hc0]; simp
        have hcut := cut_is dn2 ">" 62 sg_gt
        rw [decide_eq_false hc62] at hcut
        simp [hls, hcut]
        refine read_ok hi hr hp n r text done (remS k (front.length + 1) rs ++ post) (deep - 1) _ _ _ q2 (by omega) (by omega) (by rw [htx, tx_mark, hmk]; simp) (rem_post ..) hl fun S2 sb2 => ?_
        have fA : S2 pA = some (.lst (toDs front)) := sb2 _ _ eA
        have fM := sb2 _ _ eM
        simp [fA, fM, hls]
        refine ⟨by rw [toDs_len]; exact line4 (by omega), ?_⟩
        have hkk : (k < front.length) ↔ (k < front.length + 1) := by omega
        exact turn_close (done := done ++ sg (txS "" r)) eps hm (by rw [List.length_append]; omega) (by rw [htx, tx_mark, hmk]; simp) (by rw [fM]; simp only [hkk]) hAM hA (sb.trans sb2)
    · have hb1 := cut_is (text := text) (a := done.length) (r := post) (by rw [htx, List.append_assoc, List.drop_left]; rfl) "]" 93 sg_close
      subst hfr
      rw [if_pos hk] at eM
      simp [hls, hb1, eA, eM, toDs_len]
      simp at h2 h5
      refine ⟨by omega, by omega, by decide, by decide, q1_of (q1_of ?_)⟩
      have hT : toD (.turns k (r0 :: rs0)) = .tup [.str (Str.ofString "turns"), .int k, .tup (toDs (r0 :: rs0))] := rfl
      have hz : ((done.length : Int) + 1) = ((pre.length + (sg (txS (Str.ofString "") (.turns k (r0 :: rs0)))).length : Nat) : Int) := by
        have := congrArg List.length (htx.symm.trans ht)
        rw [show (Str.ofString "") = ("" : Str) from rfl, tx_turns]
        simp at this ⊢
        omega
      rw [← hT, hz]
      exact q _ sb
end A
end
section
set_option Elab.async false
set_option linter.all false
set_option maxRecDepth 100000
set_option maxHeartbeats 4000000
/-! W11: right_of; rights are plain. -/
namespace A
open PySem L2
mutual
theorem plain_toD : ∀ T : Rt, RtOk T → plainD (toD T) = true ∧ depD (toD T) ≤ 2 * dpt T
  | .one s, _ => by
    simp [toD, plainD, plainDs, depD, depDs, dpt]
  | .turns k ps, ⟨h2, h5, hk, o⟩ => by
    obtain ⟨p1, p2⟩ := plain_toDs ps o
    have hl := toDs_len ps
    simp [toD, plainD, plainDs, depD, depDs, dpt, p1, hl]
    omega
theorem plain_toDs : ∀ l : List Rt, RtOks l → plainDs (toDs l) = true ∧ depDs (toDs l) ≤ 2 * dpts l
  | [], _ => by simp [toDs, plainDs, depDs, dpts]
  | r :: rs, o => by
    obtain ⟨p1, p2⟩ := plain_toD r o.1
    obtain ⟨q1, q2⟩ := plain_toDs rs o.2
    simp [toDs, plainDs, depDs, dpts, p1, q1]
    omega
end
def fRightOf (r l : Nat) : Fn := ⟨3, 1,
    (.cons (.asg (.n [1, 2]) (.call r (.app []) (.cons (.v 0) (.cons (.c (.int 0)) (.cons (.c (.int 4)) .nil)))))
    (.cons (.ite (.or (.cmp .ne (.v 2) (.b1 .len (.v 0))) (.cmp .gt (.call l (.app []) (.cons (.v 1) .nil)) (.c (.int 24))))
    (.cons .nev
    .nil)
    .nil)
    (.cons (.ret (.v 1))
    .nil)))⟩
theorem rightof_ok {P : Prg} {g r l pp ii n : Nat} {T : Rt} {S : Sta} {Q X : K} (hi : P ii = some fIsName) (hr : P r = some (fRead pp ii)) (hp : P pp = some (fParts r)) (hl : P l = some (fLeaves l)) (h : P g = some (fRightOf r l))
    (ok : RtOk T) (hd : dpt T ≤ 4) (hv : lv T ≤ 24) (hn : 8 ≤ n) (q : ∀ S', Sub S S' → Q (toD T) S') : callW P (n + 1) g [.str (txS "" T)] S Q X := by
  have hlen := tx_len "" T ok
  have h0 : ("" : Str).length = 0 := by decide +kernel
  have hls : (txS "" T).length ≤ sizeLine := line5 (by omega)
  refine callW_of h rfl ?_
  simp [fRightOf, wB, wS, wE, wEs, place]
  refine read_ok hi hr hp n T (txS "" T) [] [] 4 S _ _ ok hd (by omega) (by simp) (.inl rfl) (by omega) fun S1 sb => ?_
  have e : ((sg (txS "" T)).length : Int) = ((txS "" T).length : Nat) := by rw [← sg_len]
  simp [e, hls]
  refine ⟨rfl, ?_⟩
  simp [setN, hls]
  refine leaves_ok hl n T S1 _ _ ok (by omega) fun S2 sb2 => ?_
  have hv2 : ¬ (24 : Int) < (lv T : Nat) := by omega
  simp [hv2]
  exact q1_of (q _ (sb.trans sb2))
end A
end
section
set_option Elab.async false
set_option linter.all false
set_option maxRecDepth 100000
set_option maxHeartbeats 4000000
/-! W12: a right's text answers for the right: the small language's word. -/
namespace A
open PySem L2
def fLaw (bx pl rg tx sm rt ro : Nat) : Fn := ⟨7, 1,
    (.cons (.asg (.n [1]) (.call bx (.app []) (.cons (.v 0) .nil)))
    (.cons (.asg (.n [2]) (.call pl (.app []) (.cons (.v 1) .nil)))
    (.cons (.for_ (.n [3]) (.rng (.c (.int 4)))
    (.cons (.asg (.n [4]) (.call rg (.app []) (.cons (.v 1) (.cons (.v 2) .nil))))
    (.cons (.asg (.n [5]) (.call tx (.app []) (.cons (.v 4) (.cons (.c (.str "")) .nil))))
    (.cons (.for_ (.n [6]) (.rng (.c (.int 2)))
    (.cons (.ite (.or (.not (.call sm (.app []) (.cons (.call rt (.app []) (.cons (.v 4) .nil)) (.cons (.v 5) .nil)))) (.not (.call sm (.app []) (.cons (.call ro (.app []) (.cons (.v 5) .nil)) (.cons (.v 4) .nil)))))
    (.cons (.ret (.c (.bl false)))
    .nil)
    .nil)
    .nil))
    .nil))))
    (.cons (.ret (.c (.bl true)))
    .nil))))⟩
theorem law2_ok {P : Prg} (h0 : P 0 = some fIsName) (h1 : P 1 = some (fLeaves 1)) (h2 : P 2 = some (fPart 2)) (h3 : P 3 = some (fRtext 2)) (h4 : P 4 = some (fParts 5)) (h5 : P 5 = some (fRead 4 0)) (h6 : P 6 = some (fRightOf 5 1))
    (h7 : P 7 = some fBox) (h8 : P 8 = some fTake) (h9 : P 9 = some (fSame 9)) (h10 : P 10 = some (fNames 8)) (h11 : P 11 = some (fTree 8 11)) (h12 : P 12 = some (fRight 8 11)) (h13 : P 13 = some (fPool 8 10)) (h14 : P 14 = some (fText 14)) (h15 : P 15 = some (fLaw 7 13 12 14 9 3 6))
    (ns : List Int) : callW P 16 15 [.lis (ns.map .int)] (fun _ => none) (fun d _ => d = .bl true) (fun _ _ => False) := by
  refine callW_of h15 rfl ?_
  simp [fLaw, wB, wS, wE, wEs, wIt, wTg, place]
  refine box_ok h7 fun b S1 b1 k1 => ?_
  refine pool_ok h8 h10 h13 b1 fun p ws S2 np ep w0 w1 hw b2 k2 => ?_
  refine wfor_nat _ (fun _ ρ S => (∃ v3 v4 v5 v6, ρ = [some (.lis (ns.map .int)), some (.ref b), some (.ref p), v3, v4, v5, v6]) ∧ Box b S ∧ S p = some (.lst (ws.map D.str))) ⟨⟨_, _, _, _, rfl⟩, b2, ep⟩ (fun _ _ _ _ => held_nil) (fun i x ρ S R hx hI hR => ?_) fun ρ S hI => q1_of rfl
  obtain ⟨⟨v3, v4, v5, v6, rfl⟩, b3, e3⟩ := hI
  try simp
  refine right_ok (n := 9) h8 h11 h12 w0 w1 hw np b3 e3 fun T S3 ok hd hv b4 k4 => ?_
  try simp
  refine text_ok h14 15 T "" S3 _ _ ok (by omega) (by decide +kernel) (by omega) fun S4 sb4 => ?_
  obtain ⟨p1, p2⟩ := plain_toD T ok
  refine wfor_nat _ (fun _ ρ S => (∃ w6, ρ = [some (.lis (ns.map .int)), some (.ref b), some (.ref p), some x, some (toD T), some (.str (txS "" T)), w6]) ∧ Sub S4 S) ⟨⟨_, rfl⟩, Sub.refl _⟩ (fun _ _ _ _ => held_nil) (fun i2 x2 ρ2 S5 R2 hx2 hI2 hR2 => ?_) fun ρ2 S5 hI2 => ?_
  · obtain ⟨⟨w6, rfl⟩, sb5⟩ := hI2
    try simp
    refine rtext_ok (n := 14) h2 h3 ok (by omega) (by omega) fun S6 sb6 => ?_
    try simp
    refine same_ok h9 15 _ S6 _ _ (by simp [plainD]) (by simp [depD]) fun S7 sb7 => ?_
    try simp
    refine rightof_ok (n := 14) h0 h5 h4 h1 h6 ok hd hv (by omega) fun S8 sb8 => ?_
    try simp
    refine same_ok h9 15 _ S8 _ _ p1 (by omega) fun S9 sb9 => ?_
    try simp
    exact hR2 _ _ ⟨⟨_, rfl⟩, sb5.trans (sb6.trans (sb7.trans (sb8.trans sb9)))⟩
  · obtain ⟨⟨w6, rfl⟩, sb5⟩ := hI2
    have sb := sb4.trans sb5
    exact hR _ _ ⟨⟨_, _, _, _, rfl⟩, Box.sub sb b4, sb _ _ (k4 _ _ np e3)⟩
end A
end
section
set_option Elab.async false
set_option linter.all false
set_option maxRecDepth 100000
set_option maxHeartbeats 0
/-! The program of law_k02_rights_written in the small language (printed by gen.py). -/
namespace K02
open PySem L2 A
/-- is_name(word): word=0 sign=1 -/
def f0 : Fn := ⟨2, 1,
    (.cons (.ret (.and (.chn (.c (.int 1)) .le (.b1 .len (.v 0)) .le (.c (.int 8))) (.b1 .all (.lc (.cmp .inn (.v 1) (.c (.str "abcdefghijklmnopqrstuvwxyz"))) [1] [1] (.seq (.v 0)) (.c (.bl true))))))
    .nil)⟩
/-- leaves(right): right=0 part=1 -/
def f1 : Fn := ⟨2, 1,
    (.cons (.ite (.cmp .eq (.ix (.v 0) (.c (.int 0))) (.c (.str "one")))
    (.cons (.ret (.c (.int 1)))
    .nil)
    .nil)
    (.cons (.ret (.b1 .sum (.lc (.call 1 (.app []) (.cons (.v 1) .nil)) [1] [1] (.seq (.ix (.v 0) (.c (.int 2)))) (.c (.bl true)))))
    .nil))⟩
/-- part_text(right, first): right=0 first=1 mark=2 words=3 at=4 part=5 -/
def f2 : Fn := ⟨6, 2,
    (.cons (.asg (.n [2]) (.ite (.v 1) (.c (.str ">")) (.c (.str ""))))
    (.cons (.ite (.cmp .eq (.ix (.v 0) (.c (.int 0))) (.c (.str "one")))
    (.cons (.ret (.bin .add (.v 2) (.ix (.v 0) (.c (.int 1)))))
    .nil)
    .nil)
    (.cons (.asg (.n [3]) (.lc (.call 2 (.app []) (.cons (.v 5) (.cons (.cmp .eq (.v 4) (.ix (.v 0) (.c (.int 1)))) .nil))) [4, 5] [4, 5] (.enm (.ix (.v 0) (.c (.int 2))) 0) (.c (.bl true))))
    (.cons (.ret (.bin .add (.bin .add (.bin .add (.v 2) (.c (.str "["))) (.bm .join (.c (.str " ")) (.cons (.v 3) .nil))) (.c (.str "]"))))
    .nil))))⟩
/-- right_text(right): right=0 -/
def f3 : Fn := ⟨1, 1,
    (.cons (.ret (.call 2 (.app []) (.cons (.v 0) (.cons (.c (.bl false)) .nil))))
    .nil)⟩
/-- read_parts(text, at, deep): text=0 at=1 deep=2 parts=3 marked=4 going=5 part=6 -/
def f4 : Fn := ⟨7, 3,
    (.cons (.asg (.n [3]) (.lst .nil))
    (.cons (.asg (.n [4]) (.lst .nil))
    (.cons (.asg (.n [5]) (.c (.bl true)))
    (.cons (.whl (.v 5)
    (.cons (.ite (.cmp .eq (.sl (.v 0) (.v 1) (.bin .add (.v 1) (.c (.int 1)))) (.c (.str ">")))
    (.cons (.ex (.bm .append (.v 4) (.cons (.b1 .len (.v 3)) .nil)))
    (.cons (.aug .add 1 (.c (.int 1)))
    .nil))
    .nil)
    (.cons (.asg (.n [6, 1]) (.call 5 (.app []) (.cons (.v 0) (.cons (.v 1) (.cons (.v 2) .nil)))))
    (.cons (.ex (.bm .append (.v 3) (.cons (.v 6) .nil)))
    (.cons (.asg (.n [5]) (.cmp .eq (.sl (.v 0) (.v 1) (.bin .add (.v 1) (.c (.int 1)))) (.c (.str " "))))
    (.cons (.aug .add 1 (.b1 .int (.v 5)))
    .nil))))))
    (.cons (.ite (.or (.cmp .ne (.sl (.v 0) (.v 1) (.bin .add (.v 1) (.c (.int 1)))) (.c (.str "]"))) (.or (.cmp .ne (.b1 .len (.v 4)) (.c (.int 1))) (.not (.chn (.c (.int 2)) .le (.b1 .len (.v 3)) .le (.c (.int 5))))))
    (.cons .nev
    .nil)
    .nil)
    (.cons (.ret (.tup (.cons (.tup (.cons (.c (.str "turns")) (.cons (.ix (.v 4) (.c (.int 0))) (.cons (.b1 .tuple (.v 3)) .nil)))) (.cons (.bin .add (.v 1) (.c (.int 1))) .nil))))
    .nil))))))⟩
/-- read_right(text, at, deep): text=0 at=1 deep=2 end=3 -/
def f5 : Fn := ⟨4, 3,
    (.cons (.ite (.cmp .eq (.v 2) (.c (.int 0)))
    (.cons .nev
    .nil)
    .nil)
    (.cons (.ite (.cmp .eq (.sl (.v 0) (.v 1) (.bin .add (.v 1) (.c (.int 1)))) (.c (.str "[")))
    (.cons (.ret (.call 4 (.app []) (.cons (.v 0) (.cons (.bin .add (.v 1) (.c (.int 1))) (.cons (.bin .sub (.v 2) (.c (.int 1))) .nil)))))
    .nil)
    .nil)
    (.cons (.asg (.n [3]) (.v 1))
    (.cons (.whl (.and (.cmp .lt (.v 3) (.b1 .len (.v 0))) (.cmp .inn (.ix (.v 0) (.v 3)) (.c (.str "abcdefghijklmnopqrstuvwxyz"))))
    (.cons (.aug .add 3 (.c (.int 1)))
    .nil))
    (.cons (.ite (.not (.call 0 (.app []) (.cons (.sl (.v 0) (.v 1) (.v 3)) .nil)))
    (.cons .nev
    .nil)
    .nil)
    (.cons (.ret (.tup (.cons (.tup (.cons (.c (.str "one")) (.cons (.sl (.v 0) (.v 1) (.v 3)) .nil))) (.cons (.v 3) .nil))))
    .nil))))))⟩
/-- right_of(text): text=0 right=1 at=2 -/
def f6 : Fn := ⟨3, 1,
    (.cons (.asg (.n [1, 2]) (.call 5 (.app []) (.cons (.v 0) (.cons (.c (.int 0)) (.cons (.c (.int 4)) .nil)))))
    (.cons (.ite (.or (.cmp .ne (.v 2) (.b1 .len (.v 0))) (.cmp .gt (.call 1 (.app []) (.cons (.v 1) .nil)) (.c (.int 24))))
    (.cons .nev
    .nil)
    .nil)
    (.cons (.ret (.v 1))
    .nil)))⟩
/-- _law_box(_law_script): _law_script=0 -/
def f7 : Fn := ⟨1, 1,
    (.cons (.ret (.lst (.cons (.b1 .list (.sl (.v 0) .nil (.c (.int 63)))) (.cons (.c (.int 0)) (.cons (.c (.int 0)) (.cons (.c (.int 17)) .nil))))))
    .nil)⟩
/-- _law_take(_law_box_here, _law_sides): _law_box_here=0 _law_sides=1 _law_rest=2 _law_cell=3 _law_seed=4 -/
def f8 : Fn := ⟨5, 2,
    (.cons (.ite (.cmp .gt (.ix (.v 0) (.c (.int 2))) (.c (.int 0)))
    (.cons (.asg (.n [2]) (.ix (.v 0) (.c (.int 2))))
    (.cons (.asg (.ix (.v 0) (.c (.int 2))) (.bin .div (.v 2) (.v 1)))
    (.cons (.ret (.bin .mod (.v 2) (.v 1)))
    .nil)))
    .nil)
    (.cons (.asg (.n [3]) (.c (.int 0)))
    (.cons (.ite (.cmp .lt (.ix (.v 0) (.c (.int 1))) (.b1 .len (.ix (.v 0) (.c (.int 0)))))
    (.cons (.asg (.n [3]) (.ix (.ix (.v 0) (.c (.int 0))) (.ix (.v 0) (.c (.int 1)))))
    (.cons (.augI .add (.v 0) (.c (.int 1)) (.c (.int 1)))
    .nil))
    .nil)
    (.cons (.ite (.cmp .ge (.v 3) (.bin .pow (.c (.int 10)) (.c (.int 18))))
    (.cons (.asg (.ix (.v 0) (.c (.int 2))) (.bin .div (.v 3) (.v 1)))
    (.cons (.ret (.bin .mod (.v 3) (.v 1)))
    .nil))
    .nil)
    (.cons (.asg (.n [4]) (.ix (.v 0) (.c (.int 3))))
    (.cons (.asg (.n [4]) (.bin .add (.bin .add (.bin .pow (.v 4) (.c (.int 3))) (.bin .mul (.c (.int 48271)) (.v 4))) (.bin .mul (.c (.int 69621)) (.bin .mod (.v 3) (.c (.int 2147483629))))))
    (.cons (.asg (.ix (.v 0) (.c (.int 3))) (.bin .mod (.bin .add (.v 4) (.c (.int 11))) (.c (.int 2147483629))))
    (.cons (.ret (.bin .mod (.bin .div (.ix (.v 0) (.c (.int 3))) (.c (.int 64))) (.v 1)))
    .nil))))))))⟩
/-- _law_same(_law_found, _law_want): _law_found=0 _law_want=1 _law_one=2 _law_other=3 -/
def f9 : Fn := ⟨4, 2,
    (.cons (.ite (.or (.isi (.v 1) [.list]) (.isi (.v 1) [.tuple]))
    (.cons (.ite (.or (.cmp .ne (.isi (.v 0) [.list]) (.isi (.v 1) [.list])) (.cmp .ne (.isi (.v 0) [.tuple]) (.isi (.v 1) [.tuple])))
    (.cons (.ret (.c (.bl false)))
    .nil)
    .nil)
    (.cons (.ret (.and (.cmp .eq (.b1 .len (.v 0)) (.b1 .len (.v 1))) (.b1 .all (.lc (.call 9 (.app []) (.cons (.v 2) (.cons (.v 3) .nil))) [2, 3] [2, 3] (.zip (.v 0) (.v 1) false) (.c (.bl true))))))
    .nil))
    .nil)
    (.cons (.ite (.or (.cmp .is (.v 0) (.c (.non))) (.cmp .is (.v 1) (.c (.non))))
    (.cons (.ret (.and (.cmp .is (.v 0) (.c (.non))) (.cmp .is (.v 1) (.c (.non)))))
    .nil)
    .nil)
    (.cons (.ite (.or (.cmp .ne (.isi (.v 0) [.bool]) (.isi (.v 1) [.bool])) (.cmp .ne (.isi (.v 0) [.int]) (.isi (.v 1) [.int])))
    (.cons (.ret (.c (.bl false)))
    .nil)
    .nil)
    (.cons (.ret (.and (.cmp .eq (.isi (.v 0) [.str]) (.isi (.v 1) [.str])) (.cmp .eq (.v 0) (.v 1))))
    .nil))))⟩
/-- _law_names(_law_box_here, _law_sides): _law_box_here=0 _law_sides=1 _law_letters=2 _law_first=3 _law_k=4 _law_at=5 _law_folk=6 _law_pairs=7 -/
def f10 : Fn := ⟨8, 2,
    (.cons (.asg (.n [2]) (.c (.str "abcdefghijklmnopqrstuvwxyz")))
    (.cons (.asg (.n [3]) (.bm .join (.c (.str "")) (.cons (.lc (.ix (.v 2) (.call 8 (.app []) (.cons (.v 0) (.cons (.c (.int 26)) .nil)))) [4] [4] (.rng (.call 8 (.app []) (.cons (.v 0) (.cons (.c (.int 8)) .nil)))) (.c (.bl true))) .nil)))
    (.cons (.asg (.n [5]) (.call 8 (.app []) (.cons (.v 0) (.cons (.c (.int 26)) .nil))))
    (.cons (.asg (.n [6]) (.lc (.bin .add (.v 3) (.ix (.v 2) (.bin .mod (.bin .add (.v 5) (.bin .mul (.c (.int 11)) (.v 4))) (.c (.int 26))))) [4] [4] (.rng (.v 1)) (.c (.bl true))))
    (.cons (.asg (.n [7]) (.lc (.bin .add (.sl (.ix (.v 6) (.bin .sub (.v 4) (.bin .mod (.v 4) (.c (.int 2))))) (.neg (.c (.int 7))) .nil) (.ix (.lst (.cons (.c (.str "")) (.cons (.c (.str "b")) .nil))) (.bin .mod (.v 4) (.c (.int 2))))) [4] [4] (.rng (.v 1)) (.c (.bl true))))
    (.cons (.ret (.ix (.lst (.cons (.v 6) (.cons (.v 7) .nil))) (.bin .div (.call 8 (.app []) (.cons (.v 0) (.cons (.c (.int 3)) .nil))) (.c (.int 2)))))
    .nil))))))⟩
/-- _law_tree(_law_box_here, _law_deep, _law_pool_here, _law_room): _law_box_here=0 _law_deep=1 _law_pool_here=2 _law_room=3 _law_size=4 _law_parts=5 _law_k=6 -/
def f11 : Fn := ⟨7, 4,
    (.cons (.asg (.n [4]) (.bin .add (.c (.int 2)) (.call 8 (.app []) (.cons (.v 0) (.cons (.c (.int 4)) .nil)))))
    (.cons (.ite (.or (.cmp .eq (.v 1) (.c (.int 1))) (.or (.cmp .lt (.ix (.v 3) (.c (.int 0))) (.bin .sub (.v 4) (.c (.int 1)))) (.cmp .lt (.call 8 (.app []) (.cons (.v 0) (.cons (.c (.int 5)) .nil))) (.c (.int 2)))))
    (.cons (.ret (.tup (.cons (.c (.str "one")) (.cons (.ix (.v 2) (.call 8 (.app []) (.cons (.v 0) (.cons (.b1 .len (.v 2)) .nil)))) .nil))))
    .nil)
    .nil)
    (.cons (.augI .sub (.v 3) (.c (.int 0)) (.bin .sub (.v 4) (.c (.int 1))))
    (.cons (.asg (.n [5]) (.b1 .tuple (.lc (.call 11 (.app []) (.cons (.v 0) (.cons (.bin .sub (.v 1) (.c (.int 1))) (.cons (.v 2) (.cons (.v 3) .nil))))) [6] [6] (.rng (.v 4)) (.c (.bl true)))))
    (.cons (.ret (.tup (.cons (.c (.str "turns")) (.cons (.call 8 (.app []) (.cons (.v 0) (.cons (.v 4) .nil))) (.cons (.v 5) .nil)))))
    .nil)))))⟩
/-- _law_right(_law_box_here, _law_pool_here): _law_box_here=0 _law_pool_here=1 _law_deep=2 _law_size=3 _law_room=4 _law_parts=5 _law_k=6 -/
def f12 : Fn := ⟨7, 2,
    (.cons (.asg (.n [2]) (.call 8 (.app []) (.cons (.v 0) (.cons (.c (.int 4)) .nil))))
    (.cons (.ite (.cmp .eq (.v 2) (.c (.int 0)))
    (.cons (.ret (.call 11 (.app []) (.cons (.v 0) (.cons (.c (.int 4)) (.cons (.v 1) (.cons (.lst (.cons (.c (.int 23)) .nil)) .nil))))))
    .nil)
    .nil)
    (.cons (.asg (.n [3]) (.bin .add (.c (.int 2)) (.call 8 (.app []) (.cons (.v 0) (.cons (.c (.int 4)) .nil)))))
    (.cons (.asg (.n [4]) (.lst (.cons (.bin .sub (.c (.int 24)) (.v 3)) .nil)))
    (.cons (.asg (.n [5]) (.b1 .tuple (.lc (.call 11 (.app []) (.cons (.v 0) (.cons (.v 2) (.cons (.v 1) (.cons (.v 4) .nil))))) [6] [6] (.rng (.v 3)) (.c (.bl true)))))
    (.cons (.ret (.tup (.cons (.c (.str "turns")) (.cons (.call 8 (.app []) (.cons (.v 0) (.cons (.v 3) .nil))) (.cons (.v 5) .nil)))))
    .nil))))))⟩
/-- _law_pool(_law_box_here): _law_box_here=0 -/
def f13 : Fn := ⟨1, 1,
    (.cons (.ret (.sl (.call 10 (.app []) (.cons (.v 0) (.cons (.c (.int 7)) .nil))) .nil (.bin .add (.c (.int 1)) (.call 8 (.app []) (.cons (.v 0) (.cons (.c (.int 7)) .nil))))))
    .nil)⟩
/-- _law_text(_law_tree_here, _law_mark): _law_tree_here=0 _law_mark=1 _law_words=2 _law_at=3 _law_part=4 -/
def f14 : Fn := ⟨5, 2,
    (.cons (.ite (.cmp .eq (.ix (.v 0) (.c (.int 0))) (.c (.str "one")))
    (.cons (.ret (.bin .add (.v 1) (.ix (.v 0) (.c (.int 1)))))
    .nil)
    .nil)
    (.cons (.asg (.n [2]) (.lc (.call 14 (.app []) (.cons (.v 4) (.cons (.ix (.lst (.cons (.c (.str "")) (.cons (.c (.str ">")) .nil))) (.b1 .int (.cmp .eq (.v 3) (.ix (.v 0) (.c (.int 1)))))) .nil))) [3, 4] [3, 4] (.enm (.ix (.v 0) (.c (.int 2))) 0) (.c (.bl true))))
    (.cons (.ret (.bin .add (.bin .add (.bin .add (.v 1) (.c (.str "["))) (.bm .join (.c (.str " ")) (.cons (.v 2) .nil))) (.c (.str "]"))))
    .nil)))⟩
/-- law(_law_script): _law_script=0 _law_box_here=1 _law_pool_here=2 _law_k=3 _law_right_here=4 _law_text_here=5 _law_again=6 -/
def f15 : Fn := ⟨7, 1,
    (.cons (.asg (.n [1]) (.call 7 (.app []) (.cons (.v 0) .nil)))
    (.cons (.asg (.n [2]) (.call 13 (.app []) (.cons (.v 1) .nil)))
    (.cons (.for_ (.n [3]) (.rng (.c (.int 4)))
    (.cons (.asg (.n [4]) (.call 12 (.app []) (.cons (.v 1) (.cons (.v 2) .nil))))
    (.cons (.asg (.n [5]) (.call 14 (.app []) (.cons (.v 4) (.cons (.c (.str "")) .nil))))
    (.cons (.for_ (.n [6]) (.rng (.c (.int 2)))
    (.cons (.ite (.or (.not (.call 9 (.app []) (.cons (.call 3 (.app []) (.cons (.v 4) .nil)) (.cons (.v 5) .nil)))) (.not (.call 9 (.app []) (.cons (.call 6 (.app []) (.cons (.v 5) .nil)) (.cons (.v 4) .nil)))))
    (.cons (.ret (.c (.bl false)))
    .nil)
    .nil)
    .nil))
    .nil))))
    (.cons (.ret (.c (.bl true)))
    .nil))))⟩
def P : Prg := fun f => match f with
  | 0 => some f0
  | 1 => some f1
  | 2 => some f2
  | 3 => some f3
  | 4 => some f4
  | 5 => some f5
  | 6 => some f6
  | 7 => some f7
  | 8 => some f8
  | 9 => some f9
  | 10 => some f10
  | 11 => some f11
  | 12 => some f12
  | 13 => some f13
  | 14 => some f14
  | 15 => some f15
  | _ => none
def T : Tb := ⟨([("is_name", .fn 0), ("leaves", .fn 1), ("part_text", .fn 2), ("right_text", .fn 3), ("read_parts", .fn 4), ("read_right", .fn 5), ("right_of", .fn 6), ("_law_box", .fn 7), ("_law_take", .fn 8), ("_law_same", .fn 9), ("_law_names", .fn 10), ("_law_tree", .fn 11), ("_law_right", .fn 12), ("_law_pool", .fn 13), ("_law_text", .fn 14), ("LETTERS", .con (.str "abcdefghijklmnopqrstuvwxyz")), ("LONGEST", .con (.int 8)), ("DEEPEST", .con (.int 4)), ("MOST_LEAVES", .con (.int 24)), ("LEAST_PARTS", .con (.int 2)), ("MOST_PARTS", .con (.int 5))] : List (PySem.Str × GV)), (["all", "bool", "enumerate", "int", "isinstance", "len", "list", "range", "str", "sum", "tuple", "zip"] : List PySem.Str), ([(0, 1, []), (1, 1, []), (2, 2, []), (3, 1, []), (4, 3, []), (5, 3, []), (6, 1, []), (7, 1, []), (8, 2, []), (9, 2, []), (10, 2, []), (11, 4, []), (12, 2, []), (13, 1, []), (14, 2, [])] : List (Nat × Nat × List A.D))⟩
/-! the text -/
def top (i : Nat) : Stmt := PySem.Challenge.pw_advowson_k02_rights_written.main.body.getD i (.Pass ⟨0, 0, 0, 0⟩)
def d0 : He.DefD := ⟨("is_name", none), "is_name", "is_name", defArgs (top 10), defBody (top 10), defScope (top 10), [], []⟩
def n0 : List PySem.Str := ["word", "sign"]
def p0 : List PySem.Str := ["word"]
theorem sc0 : FnScope n0 p0 d0.scope := C8.fnScope_by (by kernel_rfl)
theorem ok0 : okSs T f0.body ⟨d0.scope, n0, fun _ => true⟩ d0.body = true := by kernel_rfl
def d1 : He.DefD := ⟨("leaves", none), "leaves", "leaves", defArgs (top 11), defBody (top 11), defScope (top 11), [], []⟩
def n1 : List PySem.Str := ["right", "part"]
def p1 : List PySem.Str := ["right"]
theorem sc1 : FnScope n1 p1 d1.scope := C8.fnScope_by (by kernel_rfl)
theorem ok1 : okSs T f1.body ⟨d1.scope, n1, fun _ => true⟩ d1.body = true := by kernel_rfl
def d2 : He.DefD := ⟨("part_text", none), "part_text", "part_text", defArgs (top 12), defBody (top 12), defScope (top 12), [], []⟩
def n2 : List PySem.Str := ["right", "first", "mark", "words", "at", "part"]
def p2 : List PySem.Str := ["right", "first"]
theorem sc2 : FnScope n2 p2 d2.scope := C8.fnScope_by (by kernel_rfl)
theorem ok2 : okSs T f2.body ⟨d2.scope, n2, fun _ => true⟩ d2.body = true := by kernel_rfl
def d3 : He.DefD := ⟨("right_text", none), "right_text", "right_text", defArgs (top 13), defBody (top 13), defScope (top 13), [], []⟩
def n3 : List PySem.Str := ["right"]
def p3 : List PySem.Str := ["right"]
theorem sc3 : FnScope n3 p3 d3.scope := C8.fnScope_by (by kernel_rfl)
theorem ok3 : okSs T f3.body ⟨d3.scope, n3, fun _ => true⟩ d3.body = true := by kernel_rfl
def d4 : He.DefD := ⟨("read_parts", none), "read_parts", "read_parts", defArgs (top 14), defBody (top 14), defScope (top 14), [], []⟩
def n4 : List PySem.Str := ["text", "at", "deep", "parts", "marked", "going", "part"]
def p4 : List PySem.Str := ["text", "at", "deep"]
theorem sc4 : FnScope n4 p4 d4.scope := C8.fnScope_by (by kernel_rfl)
theorem ok4 : okSs T f4.body ⟨d4.scope, n4, fun _ => true⟩ d4.body = true := by kernel_rfl
def d5 : He.DefD := ⟨("read_right", none), "read_right", "read_right", defArgs (top 15), defBody (top 15), defScope (top 15), [], []⟩
def n5 : List PySem.Str := ["text", "at", "deep", "end"]
def p5 : List PySem.Str := ["text", "at", "deep"]
theorem sc5 : FnScope n5 p5 d5.scope := C8.fnScope_by (by kernel_rfl)
theorem ok5 : okSs T f5.body ⟨d5.scope, n5, fun _ => true⟩ d5.body = true := by kernel_rfl
def d6 : He.DefD := ⟨("right_of", none), "right_of", "right_of", defArgs (top 16), defBody (top 16), defScope (top 16), [], []⟩
def n6 : List PySem.Str := ["text", "right", "at"]
def p6 : List PySem.Str := ["text"]
theorem sc6 : FnScope n6 p6 d6.scope := C8.fnScope_by (by kernel_rfl)
theorem ok6 : okSs T f6.body ⟨d6.scope, n6, fun _ => true⟩ d6.body = true := by kernel_rfl
def d7 : He.DefD := ⟨("_law_box", none), "_law_box", "_law_box", defArgs (top 18), defBody (top 18), defScope (top 18), [], []⟩
def n7 : List PySem.Str := ["_law_script"]
def p7 : List PySem.Str := ["_law_script"]
theorem sc7 : FnScope n7 p7 d7.scope := C8.fnScope_by (by kernel_rfl)
theorem ok7 : okSs T f7.body ⟨d7.scope, n7, fun _ => true⟩ d7.body = true := by kernel_rfl
def d8 : He.DefD := ⟨("_law_take", none), "_law_take", "_law_take", defArgs (top 19), defBody (top 19), defScope (top 19), [], []⟩
def n8 : List PySem.Str := ["_law_box_here", "_law_sides", "_law_rest", "_law_cell", "_law_seed"]
def p8 : List PySem.Str := ["_law_box_here", "_law_sides"]
theorem sc8 : FnScope n8 p8 d8.scope := C8.fnScope_by (by kernel_rfl)
theorem ok8 : okSs T f8.body ⟨d8.scope, n8, fun _ => true⟩ d8.body = true := by kernel_rfl
def d9 : He.DefD := ⟨("_law_same", none), "_law_same", "_law_same", defArgs (top 20), defBody (top 20), defScope (top 20), [], []⟩
def n9 : List PySem.Str := ["_law_found", "_law_want", "_law_one", "_law_other"]
def p9 : List PySem.Str := ["_law_found", "_law_want"]
theorem sc9 : FnScope n9 p9 d9.scope := C8.fnScope_by (by kernel_rfl)
theorem ok9 : okSs T f9.body ⟨d9.scope, n9, fun _ => true⟩ d9.body = true := by kernel_rfl
def d10 : He.DefD := ⟨("_law_names", none), "_law_names", "_law_names", defArgs (top 21), defBody (top 21), defScope (top 21), [], []⟩
def n10 : List PySem.Str := ["_law_box_here", "_law_sides", "_law_letters", "_law_first", "_law_k", "_law_at", "_law_folk", "_law_pairs"]
def p10 : List PySem.Str := ["_law_box_here", "_law_sides"]
theorem sc10 : FnScope n10 p10 d10.scope := C8.fnScope_by (by kernel_rfl)
theorem ok10 : okSs T f10.body ⟨d10.scope, n10, fun _ => true⟩ d10.body = true := by kernel_rfl
def d11 : He.DefD := ⟨("_law_tree", none), "_law_tree", "_law_tree", defArgs (top 22), defBody (top 22), defScope (top 22), [], []⟩
def n11 : List PySem.Str := ["_law_box_here", "_law_deep", "_law_pool_here", "_law_room", "_law_size", "_law_parts", "_law_k"]
def p11 : List PySem.Str := ["_law_box_here", "_law_deep", "_law_pool_here", "_law_room"]
theorem sc11 : FnScope n11 p11 d11.scope := C8.fnScope_by (by kernel_rfl)
theorem ok11 : okSs T f11.body ⟨d11.scope, n11, fun _ => true⟩ d11.body = true := by kernel_rfl
def d12 : He.DefD := ⟨("_law_right", none), "_law_right", "_law_right", defArgs (top 23), defBody (top 23), defScope (top 23), [], []⟩
def n12 : List PySem.Str := ["_law_box_here", "_law_pool_here", "_law_deep", "_law_size", "_law_room", "_law_parts", "_law_k"]
def p12 : List PySem.Str := ["_law_box_here", "_law_pool_here"]
theorem sc12 : FnScope n12 p12 d12.scope := C8.fnScope_by (by kernel_rfl)
theorem ok12 : okSs T f12.body ⟨d12.scope, n12, fun _ => true⟩ d12.body = true := by kernel_rfl
def d13 : He.DefD := ⟨("_law_pool", none), "_law_pool", "_law_pool", defArgs (top 24), defBody (top 24), defScope (top 24), [], []⟩
def n13 : List PySem.Str := ["_law_box_here"]
def p13 : List PySem.Str := ["_law_box_here"]
theorem sc13 : FnScope n13 p13 d13.scope := C8.fnScope_by (by kernel_rfl)
theorem ok13 : okSs T f13.body ⟨d13.scope, n13, fun _ => true⟩ d13.body = true := by kernel_rfl
def d14 : He.DefD := ⟨("_law_text", none), "_law_text", "_law_text", defArgs (top 25), defBody (top 25), defScope (top 25), [], []⟩
def n14 : List PySem.Str := ["_law_tree_here", "_law_mark", "_law_words", "_law_at", "_law_part"]
def p14 : List PySem.Str := ["_law_tree_here", "_law_mark"]
theorem sc14 : FnScope n14 p14 d14.scope := C8.fnScope_by (by kernel_rfl)
theorem ok14 : okSs T f14.body ⟨d14.scope, n14, fun _ => true⟩ d14.body = true := by kernel_rfl
def d15 : He.DefD := ⟨("law", none), "law", "law", defArgs (top 26), defBody (top 26), defScope (top 26), [], []⟩
def n15 : List PySem.Str := ["_law_script", "_law_box_here", "_law_pool_here", "_law_k", "_law_right_here", "_law_text_here", "_law_again"]
def p15 : List PySem.Str := ["_law_script"]
theorem sc15 : FnScope n15 p15 d15.scope := C8.fnScope_by (by kernel_rfl)
theorem ok15 : okSs T f15.body ⟨d15.scope, n15, fun _ => true⟩ d15.body = true := by kernel_rfl
def fn : List He.DefD := [d0, d1, d2, d3, d4, d5, d6, d7, d8, d9, d10, d11, d12, d13, d14, d15]
def fa : List He.Fa := ([.glo "is_name", .glo "leaves", .glo "part_text", .glo "right_text", .glo "read_parts", .glo "read_right", .glo "right_of", .glo "_law_box", .glo "_law_take", .glo "_law_same", .glo "_law_names", .glo "_law_tree", .glo "_law_right", .glo "_law_pool", .glo "_law_text", .glo "law", .str "LETTERS" "abcdefghijklmnopqrstuvwxyz", .int "LONGEST" 8, .int "DEEPEST" 4, .int "MOST_LEAVES" 24, .int "LEAST_PARTS" 2, .int "MOST_PARTS" 5, .free "all", .free "bool", .free "enumerate", .free "int", .free "isinstance", .free "len", .free "list", .free "range"] : List He.Fa) ++ ([.free "str", .free "sum", .free "tuple", .free "zip"] : List He.Fa)
abbrev R : PySem.W.OpenRow := PySem.W.OpenLaw.row PySem.Challenge.rw_advowson_k02_rights_written
abbrev hk : PySem.W.Hook := He.hookD 4 fa fn
def ob (s : PySem.W.SharedT) : He.AlD := He.obsDG 4 fa fn (HandSHeadRun.getT s)
theorem ob_eq (s : PySem.W.SharedT) : ob s = hk.obs s.abs := He.obsDG_eq (HandSHeadRun.getT_eq s)
def names : List PySem.Str := (["RightError", "NoRight", "LETTERS", "LONGEST", "DEEPEST", "MOST_LEAVES", "LEAST_PARTS", "MOST_PARTS", "is_name", "leaves", "part_text", "right_text", "read_parts", "read_right", "right_of", "_law_box", "_law_take", "_law_same", "_law_names", "_law_tree", "_law_right", "_law_pool", "_law_text"] : List PySem.Str)
theorem run (w : World) : HandSHeadRun.RunEq R (PySem.W.view R.prog [26]) hk ob 2000 names w := by
  intro os
  kernel_rfl
def at_ (f : Nat) : PySem.Str × Option PySem.Str := match f with
  | 0 => ("is_name", none)
  | 1 => ("leaves", none)
  | 2 => ("part_text", none)
  | 3 => ("right_text", none)
  | 4 => ("read_parts", none)
  | 5 => ("read_right", none)
  | 6 => ("right_of", none)
  | 7 => ("_law_box", none)
  | 8 => ("_law_take", none)
  | 9 => ("_law_same", none)
  | 10 => ("_law_names", none)
  | 11 => ("_law_tree", none)
  | 12 => ("_law_right", none)
  | 13 => ("_law_pool", none)
  | 14 => ("_law_text", none)
  | 15 => ("law", none)
  | _ => ("", none)
def Nn (K : PySem.W.Frag) : Nm := ⟨K, fun f => He.fAd K (at_ f), fun _ => 0, fun _ => PySem.Str.empty, fun _ => none⟩
section
variable {K : PySem.W.Frag} {h : Heap} {mg : PySem.Str → Option Value}
theorem df0 (c : He.SaysD fa fn K) : ∃ fd, DefOk (Nn K) T K 0 f0 fd p0 ∧ Binds K fd p0 [] ∧ ∀ (s : Shared) (us : List Value), us.length = p0.length → BindsTo s fd ⟨us, []⟩ (p0.zip us) := by
  obtain ⟨fd, F⟩ := c.def_ 0 (d := d0) rfl
  exact ⟨fd, ⟨⟨_, _, _, _, _, _, _, n0, F, sc0, rfl, ok0⟩, rfl⟩, FunD.bindsN F (fun _ _ _ _ _ _ us hl => match us, hl with | [_], _ => rfl), FunD.bindsA F fun _ _ _ _ _ _ us hl => match us, hl with | [_], _ => rfl⟩
theorem df1 (c : He.SaysD fa fn K) : ∃ fd, DefOk (Nn K) T K 1 f1 fd p1 ∧ Binds K fd p1 [] ∧ ∀ (s : Shared) (us : List Value), us.length = p1.length → BindsTo s fd ⟨us, []⟩ (p1.zip us) := by
  obtain ⟨fd, F⟩ := c.def_ 1 (d := d1) rfl
  exact ⟨fd, ⟨⟨_, _, _, _, _, _, _, n1, F, sc1, rfl, ok1⟩, rfl⟩, FunD.bindsN F (fun _ _ _ _ _ _ us hl => match us, hl with | [_], _ => rfl), FunD.bindsA F fun _ _ _ _ _ _ us hl => match us, hl with | [_], _ => rfl⟩
theorem df2 (c : He.SaysD fa fn K) : ∃ fd, DefOk (Nn K) T K 2 f2 fd p2 ∧ Binds K fd p2 [] ∧ ∀ (s : Shared) (us : List Value), us.length = p2.length → BindsTo s fd ⟨us, []⟩ (p2.zip us) := by
  obtain ⟨fd, F⟩ := c.def_ 2 (d := d2) rfl
  exact ⟨fd, ⟨⟨_, _, _, _, _, _, _, n2, F, sc2, rfl, ok2⟩, rfl⟩, FunD.bindsN F (fun _ _ _ _ _ _ us hl => match us, hl with | [_, _], _ => rfl), FunD.bindsA F fun _ _ _ _ _ _ us hl => match us, hl with | [_, _], _ => rfl⟩
theorem df3 (c : He.SaysD fa fn K) : ∃ fd, DefOk (Nn K) T K 3 f3 fd p3 ∧ Binds K fd p3 [] ∧ ∀ (s : Shared) (us : List Value), us.length = p3.length → BindsTo s fd ⟨us, []⟩ (p3.zip us) := by
  obtain ⟨fd, F⟩ := c.def_ 3 (d := d3) rfl
  exact ⟨fd, ⟨⟨_, _, _, _, _, _, _, n3, F, sc3, rfl, ok3⟩, rfl⟩, FunD.bindsN F (fun _ _ _ _ _ _ us hl => match us, hl with | [_], _ => rfl), FunD.bindsA F fun _ _ _ _ _ _ us hl => match us, hl with | [_], _ => rfl⟩
theorem df4 (c : He.SaysD fa fn K) : ∃ fd, DefOk (Nn K) T K 4 f4 fd p4 ∧ Binds K fd p4 [] ∧ ∀ (s : Shared) (us : List Value), us.length = p4.length → BindsTo s fd ⟨us, []⟩ (p4.zip us) := by
  obtain ⟨fd, F⟩ := c.def_ 4 (d := d4) rfl
  exact ⟨fd, ⟨⟨_, _, _, _, _, _, _, n4, F, sc4, rfl, ok4⟩, rfl⟩, FunD.bindsN F (fun _ _ _ _ _ _ us hl => match us, hl with | [_, _, _], _ => rfl), FunD.bindsA F fun _ _ _ _ _ _ us hl => match us, hl with | [_, _, _], _ => rfl⟩
theorem df5 (c : He.SaysD fa fn K) : ∃ fd, DefOk (Nn K) T K 5 f5 fd p5 ∧ Binds K fd p5 [] ∧ ∀ (s : Shared) (us : List Value), us.length = p5.length → BindsTo s fd ⟨us, []⟩ (p5.zip us) := by
  obtain ⟨fd, F⟩ := c.def_ 5 (d := d5) rfl
  exact ⟨fd, ⟨⟨_, _, _, _, _, _, _, n5, F, sc5, rfl, ok5⟩, rfl⟩, FunD.bindsN F (fun _ _ _ _ _ _ us hl => match us, hl with | [_, _, _], _ => rfl), FunD.bindsA F fun _ _ _ _ _ _ us hl => match us, hl with | [_, _, _], _ => rfl⟩
theorem df6 (c : He.SaysD fa fn K) : ∃ fd, DefOk (Nn K) T K 6 f6 fd p6 ∧ Binds K fd p6 [] ∧ ∀ (s : Shared) (us : List Value), us.length = p6.length → BindsTo s fd ⟨us, []⟩ (p6.zip us) := by
  obtain ⟨fd, F⟩ := c.def_ 6 (d := d6) rfl
  exact ⟨fd, ⟨⟨_, _, _, _, _, _, _, n6, F, sc6, rfl, ok6⟩, rfl⟩, FunD.bindsN F (fun _ _ _ _ _ _ us hl => match us, hl with | [_], _ => rfl), FunD.bindsA F fun _ _ _ _ _ _ us hl => match us, hl with | [_], _ => rfl⟩
theorem df7 (c : He.SaysD fa fn K) : ∃ fd, DefOk (Nn K) T K 7 f7 fd p7 ∧ Binds K fd p7 [] ∧ ∀ (s : Shared) (us : List Value), us.length = p7.length → BindsTo s fd ⟨us, []⟩ (p7.zip us) := by
  obtain ⟨fd, F⟩ := c.def_ 7 (d := d7) rfl
  exact ⟨fd, ⟨⟨_, _, _, _, _, _, _, n7, F, sc7, rfl, ok7⟩, rfl⟩, FunD.bindsN F (fun _ _ _ _ _ _ us hl => match us, hl with | [_], _ => rfl), FunD.bindsA F fun _ _ _ _ _ _ us hl => match us, hl with | [_], _ => rfl⟩
theorem df8 (c : He.SaysD fa fn K) : ∃ fd, DefOk (Nn K) T K 8 f8 fd p8 ∧ Binds K fd p8 [] ∧ ∀ (s : Shared) (us : List Value), us.length = p8.length → BindsTo s fd ⟨us, []⟩ (p8.zip us) := by
  obtain ⟨fd, F⟩ := c.def_ 8 (d := d8) rfl
  exact ⟨fd, ⟨⟨_, _, _, _, _, _, _, n8, F, sc8, rfl, ok8⟩, rfl⟩, FunD.bindsN F (fun _ _ _ _ _ _ us hl => match us, hl with | [_, _], _ => rfl), FunD.bindsA F fun _ _ _ _ _ _ us hl => match us, hl with | [_, _], _ => rfl⟩
theorem df9 (c : He.SaysD fa fn K) : ∃ fd, DefOk (Nn K) T K 9 f9 fd p9 ∧ Binds K fd p9 [] ∧ ∀ (s : Shared) (us : List Value), us.length = p9.length → BindsTo s fd ⟨us, []⟩ (p9.zip us) := by
  obtain ⟨fd, F⟩ := c.def_ 9 (d := d9) rfl
  exact ⟨fd, ⟨⟨_, _, _, _, _, _, _, n9, F, sc9, rfl, ok9⟩, rfl⟩, FunD.bindsN F (fun _ _ _ _ _ _ us hl => match us, hl with | [_, _], _ => rfl), FunD.bindsA F fun _ _ _ _ _ _ us hl => match us, hl with | [_, _], _ => rfl⟩
theorem df10 (c : He.SaysD fa fn K) : ∃ fd, DefOk (Nn K) T K 10 f10 fd p10 ∧ Binds K fd p10 [] ∧ ∀ (s : Shared) (us : List Value), us.length = p10.length → BindsTo s fd ⟨us, []⟩ (p10.zip us) := by
  obtain ⟨fd, F⟩ := c.def_ 10 (d := d10) rfl
  exact ⟨fd, ⟨⟨_, _, _, _, _, _, _, n10, F, sc10, rfl, ok10⟩, rfl⟩, FunD.bindsN F (fun _ _ _ _ _ _ us hl => match us, hl with | [_, _], _ => rfl), FunD.bindsA F fun _ _ _ _ _ _ us hl => match us, hl with | [_, _], _ => rfl⟩
theorem df11 (c : He.SaysD fa fn K) : ∃ fd, DefOk (Nn K) T K 11 f11 fd p11 ∧ Binds K fd p11 [] ∧ ∀ (s : Shared) (us : List Value), us.length = p11.length → BindsTo s fd ⟨us, []⟩ (p11.zip us) := by
  obtain ⟨fd, F⟩ := c.def_ 11 (d := d11) rfl
  exact ⟨fd, ⟨⟨_, _, _, _, _, _, _, n11, F, sc11, rfl, ok11⟩, rfl⟩, FunD.bindsN F (fun _ _ _ _ _ _ us hl => match us, hl with | [_, _, _, _], _ => rfl), FunD.bindsA F fun _ _ _ _ _ _ us hl => match us, hl with | [_, _, _, _], _ => rfl⟩
theorem df12 (c : He.SaysD fa fn K) : ∃ fd, DefOk (Nn K) T K 12 f12 fd p12 ∧ Binds K fd p12 [] ∧ ∀ (s : Shared) (us : List Value), us.length = p12.length → BindsTo s fd ⟨us, []⟩ (p12.zip us) := by
  obtain ⟨fd, F⟩ := c.def_ 12 (d := d12) rfl
  exact ⟨fd, ⟨⟨_, _, _, _, _, _, _, n12, F, sc12, rfl, ok12⟩, rfl⟩, FunD.bindsN F (fun _ _ _ _ _ _ us hl => match us, hl with | [_, _], _ => rfl), FunD.bindsA F fun _ _ _ _ _ _ us hl => match us, hl with | [_, _], _ => rfl⟩
theorem df13 (c : He.SaysD fa fn K) : ∃ fd, DefOk (Nn K) T K 13 f13 fd p13 ∧ Binds K fd p13 [] ∧ ∀ (s : Shared) (us : List Value), us.length = p13.length → BindsTo s fd ⟨us, []⟩ (p13.zip us) := by
  obtain ⟨fd, F⟩ := c.def_ 13 (d := d13) rfl
  exact ⟨fd, ⟨⟨_, _, _, _, _, _, _, n13, F, sc13, rfl, ok13⟩, rfl⟩, FunD.bindsN F (fun _ _ _ _ _ _ us hl => match us, hl with | [_], _ => rfl), FunD.bindsA F fun _ _ _ _ _ _ us hl => match us, hl with | [_], _ => rfl⟩
theorem df14 (c : He.SaysD fa fn K) : ∃ fd, DefOk (Nn K) T K 14 f14 fd p14 ∧ Binds K fd p14 [] ∧ ∀ (s : Shared) (us : List Value), us.length = p14.length → BindsTo s fd ⟨us, []⟩ (p14.zip us) := by
  obtain ⟨fd, F⟩ := c.def_ 14 (d := d14) rfl
  exact ⟨fd, ⟨⟨_, _, _, _, _, _, _, n14, F, sc14, rfl, ok14⟩, rfl⟩, FunD.bindsN F (fun _ _ _ _ _ _ us hl => match us, hl with | [_, _], _ => rfl), FunD.bindsA F fun _ _ _ _ _ _ us hl => match us, hl with | [_, _], _ => rfl⟩
theorem df15 (c : He.SaysD fa fn K) : ∃ fd, DefOk (Nn K) T K 15 f15 fd p15 ∧ Binds K fd p15 [] ∧ ∀ (s : Shared) (us : List Value), us.length = p15.length → BindsTo s fd ⟨us, []⟩ (p15.zip us) := by
  obtain ⟨fd, F⟩ := c.def_ 15 (d := d15) rfl
  exact ⟨fd, ⟨⟨_, _, _, _, _, _, _, n15, F, sc15, rfl, ok15⟩, rfl⟩, FunD.bindsN F (fun _ _ _ _ _ _ us hl => match us, hl with | [_], _ => rfl), FunD.bindsA F fun _ _ _ _ _ _ us hl => match us, hl with | [_], _ => rfl⟩
theorem gf (X : K.In h) (G : h.Ns mainGlobals mg) (c : He.SaysD fa fn K) : Gf (Nn K) T P K mg where
  hK := rfl
  own := fun c m => by
    have hm : mth c m = 1000 * (c + 1) + m := rfl
    unfold P
    split <;> first | rfl | (exfalso; omega)
  glob := fun x g hx => by
    have all : Alls (fun p => GOk' (Nn K) K mg p.1 p.2) T.glob := by
      refine ⟨?_, ?_, ?_, ?_, ?_, ?_, ?_, ?_, ?_, ?_, ?_, ?_, ?_, ?_, ?_, ?_, ?_, ?_, ?_, ?_, ?_, trivial⟩
      · exact ⟨He.glo_ok X G (c.fact 0 (f := .glo "is_name") rfl), by obtain ⟨fd, F⟩ := c.def_ 0 (d := d0) rfl; exact F.kp⟩
      · exact ⟨He.glo_ok X G (c.fact 1 (f := .glo "leaves") rfl), by obtain ⟨fd, F⟩ := c.def_ 1 (d := d1) rfl; exact F.kp⟩
      · exact ⟨He.glo_ok X G (c.fact 2 (f := .glo "part_text") rfl), by obtain ⟨fd, F⟩ := c.def_ 2 (d := d2) rfl; exact F.kp⟩
      · exact ⟨He.glo_ok X G (c.fact 3 (f := .glo "right_text") rfl), by obtain ⟨fd, F⟩ := c.def_ 3 (d := d3) rfl; exact F.kp⟩
      · exact ⟨He.glo_ok X G (c.fact 4 (f := .glo "read_parts") rfl), by obtain ⟨fd, F⟩ := c.def_ 4 (d := d4) rfl; exact F.kp⟩
      · exact ⟨He.glo_ok X G (c.fact 5 (f := .glo "read_right") rfl), by obtain ⟨fd, F⟩ := c.def_ 5 (d := d5) rfl; exact F.kp⟩
      · exact ⟨He.glo_ok X G (c.fact 6 (f := .glo "right_of") rfl), by obtain ⟨fd, F⟩ := c.def_ 6 (d := d6) rfl; exact F.kp⟩
      · exact ⟨He.glo_ok X G (c.fact 7 (f := .glo "_law_box") rfl), by obtain ⟨fd, F⟩ := c.def_ 7 (d := d7) rfl; exact F.kp⟩
      · exact ⟨He.glo_ok X G (c.fact 8 (f := .glo "_law_take") rfl), by obtain ⟨fd, F⟩ := c.def_ 8 (d := d8) rfl; exact F.kp⟩
      · exact ⟨He.glo_ok X G (c.fact 9 (f := .glo "_law_same") rfl), by obtain ⟨fd, F⟩ := c.def_ 9 (d := d9) rfl; exact F.kp⟩
      · exact ⟨He.glo_ok X G (c.fact 10 (f := .glo "_law_names") rfl), by obtain ⟨fd, F⟩ := c.def_ 10 (d := d10) rfl; exact F.kp⟩
      · exact ⟨He.glo_ok X G (c.fact 11 (f := .glo "_law_tree") rfl), by obtain ⟨fd, F⟩ := c.def_ 11 (d := d11) rfl; exact F.kp⟩
      · exact ⟨He.glo_ok X G (c.fact 12 (f := .glo "_law_right") rfl), by obtain ⟨fd, F⟩ := c.def_ 12 (d := d12) rfl; exact F.kp⟩
      · exact ⟨He.glo_ok X G (c.fact 13 (f := .glo "_law_pool") rfl), by obtain ⟨fd, F⟩ := c.def_ 13 (d := d13) rfl; exact F.kp⟩
      · exact ⟨He.glo_ok X G (c.fact 14 (f := .glo "_law_text") rfl), by obtain ⟨fd, F⟩ := c.def_ 14 (d := d14) rfl; exact F.kp⟩
      · exact by obtain ⟨t, e⟩ := He.str_ok X G (c.fact 16 (f := .str "LETTERS" "abcdefghijklmnopqrstuvwxyz") rfl); exact ⟨.str "abcdefghijklmnopqrstuvwxyz", _, e, ⟨t, rfl⟩, fun _ => mk_str⟩
      · exact by obtain ⟨t, e⟩ := He.int_ok X G (c.fact 17 (f := .int "LONGEST" 8) rfl); exact ⟨.int 8, _, e, ⟨t, rfl⟩, fun _ => mk_int⟩
      · exact by obtain ⟨t, e⟩ := He.int_ok X G (c.fact 18 (f := .int "DEEPEST" 4) rfl); exact ⟨.int 4, _, e, ⟨t, rfl⟩, fun _ => mk_int⟩
      · exact by obtain ⟨t, e⟩ := He.int_ok X G (c.fact 19 (f := .int "MOST_LEAVES" 24) rfl); exact ⟨.int 24, _, e, ⟨t, rfl⟩, fun _ => mk_int⟩
      · exact by obtain ⟨t, e⟩ := He.int_ok X G (c.fact 20 (f := .int "LEAST_PARTS" 2) rfl); exact ⟨.int 2, _, e, ⟨t, rfl⟩, fun _ => mk_int⟩
      · exact by obtain ⟨t, e⟩ := He.int_ok X G (c.fact 21 (f := .int "MOST_PARTS" 5) rfl); exact ⟨.int 5, _, e, ⟨t, rfl⟩, fun _ => mk_int⟩
    exact all.mem (x, g) hx
  blt := fun x hx => by
    have all : Alls (fun x => mg x = none) T.blts := by
      refine ⟨?_, ?_, ?_, ?_, ?_, ?_, ?_, ?_, ?_, ?_, ?_, ?_, trivial⟩
      · exact He.free_ok X G (c.fact 22 (f := .free "all") rfl)
      · exact He.free_ok X G (c.fact 23 (f := .free "bool") rfl)
      · exact He.free_ok X G (c.fact 24 (f := .free "enumerate") rfl)
      · exact He.free_ok X G (c.fact 25 (f := .free "int") rfl)
      · exact He.free_ok X G (c.fact 26 (f := .free "isinstance") rfl)
      · exact He.free_ok X G (c.fact 27 (f := .free "len") rfl)
      · exact He.free_ok X G (c.fact 28 (f := .free "list") rfl)
      · exact He.free_ok X G (c.fact 29 (f := .free "range") rfl)
      · exact He.free_ok X G (c.fact 30 (f := .free "str") rfl)
      · exact He.free_ok X G (c.fact 31 (f := .free "sum") rfl)
      · exact He.free_ok X G (c.fact 32 (f := .free "tuple") rfl)
      · exact He.free_ok X G (c.fact 33 (f := .free "zip") rfl)
    exact all.mem x hx
  call := fun f n es hx => by
    have all : Alls (fun q : Nat × Nat × List A.D => ∃ F fd ps dvs ds, P q.1 = some F ∧ DefOk (Nn K) T K q.1 F fd ps ∧ Binds K fd ps ds ∧ Vals dvs ds ∧ ∀ H, RDs (Nn K) H q.2.2 dvs) T.calls := by
      refine ⟨?_, ?_, ?_, ?_, ?_, ?_, ?_, ?_, ?_, ?_, ?_, ?_, ?_, ?_, ?_, trivial⟩
      · obtain ⟨fd, F, B, _⟩ := df0 c; exact ⟨f0, fd, p0, [], [], rfl, F, B, .nil, fun _ => .nil⟩
      · obtain ⟨fd, F, B, _⟩ := df1 c; exact ⟨f1, fd, p1, [], [], rfl, F, B, .nil, fun _ => .nil⟩
      · obtain ⟨fd, F, B, _⟩ := df2 c; exact ⟨f2, fd, p2, [], [], rfl, F, B, .nil, fun _ => .nil⟩
      · obtain ⟨fd, F, B, _⟩ := df3 c; exact ⟨f3, fd, p3, [], [], rfl, F, B, .nil, fun _ => .nil⟩
      · obtain ⟨fd, F, B, _⟩ := df4 c; exact ⟨f4, fd, p4, [], [], rfl, F, B, .nil, fun _ => .nil⟩
      · obtain ⟨fd, F, B, _⟩ := df5 c; exact ⟨f5, fd, p5, [], [], rfl, F, B, .nil, fun _ => .nil⟩
      · obtain ⟨fd, F, B, _⟩ := df6 c; exact ⟨f6, fd, p6, [], [], rfl, F, B, .nil, fun _ => .nil⟩
      · obtain ⟨fd, F, B, _⟩ := df7 c; exact ⟨f7, fd, p7, [], [], rfl, F, B, .nil, fun _ => .nil⟩
      · obtain ⟨fd, F, B, _⟩ := df8 c; exact ⟨f8, fd, p8, [], [], rfl, F, B, .nil, fun _ => .nil⟩
      · obtain ⟨fd, F, B, _⟩ := df9 c; exact ⟨f9, fd, p9, [], [], rfl, F, B, .nil, fun _ => .nil⟩
      · obtain ⟨fd, F, B, _⟩ := df10 c; exact ⟨f10, fd, p10, [], [], rfl, F, B, .nil, fun _ => .nil⟩
      · obtain ⟨fd, F, B, _⟩ := df11 c; exact ⟨f11, fd, p11, [], [], rfl, F, B, .nil, fun _ => .nil⟩
      · obtain ⟨fd, F, B, _⟩ := df12 c; exact ⟨f12, fd, p12, [], [], rfl, F, B, .nil, fun _ => .nil⟩
      · obtain ⟨fd, F, B, _⟩ := df13 c; exact ⟨f13, fd, p13, [], [], rfl, F, B, .nil, fun _ => .nil⟩
      · obtain ⟨fd, F, B, _⟩ := df14 c; exact ⟨f14, fd, p14, [], [], rfl, F, B, .nil, fun _ => .nil⟩
    exact all.mem (f, n, es) hx
end
/-- the law, from what the small language says of it -/
theorem ends (sp : ∀ ns : List Int, ns.length ≤ 63 → callW P 16 15 [.lis (ns.map .int)] (fun _ => none) (fun d _ => d = .bl true) (fun _ _ => False)) : PySem.Challenge.rw_advowson_k02_rights_written.Holds := by
  w_on; o_law
  refine HandSHeadRun.head_any (r := PySem.W.OpenLaw.row PySem.Challenge.rw_advowson_k02_rights_written) (q := PySem.W.view (PySem.W.OpenLaw.row PySem.Challenge.rw_advowson_k02_rights_written).prog [26]) (H := hk) (ob := ob) (M := 2000) (loose := names) (d := HandSHeadRun.topDef (PySem.W.OpenLaw.row PySem.Challenge.rw_advowson_k02_rights_written).prog 26) (kwd := []) ob_eq
    (by kernel_rfl) (fun s => by kernel_rfl) run (by kernel_rfl) (by kernel_rfl) (by kernel_rfl) (by rfl) (by first | assumption | decide +kernel) (by decide +kernel) ⟨rfl, rfl, rfl, rfl, rfl, by decide +kernel⟩ ?hw ?hc
  case hw => w_witness2
  case hc =>
    refine A.walkA (l := PySem.Challenge.rw_advowson_k02_rights_written) (n := 63) (k := 16) (x := "_law_script") rfl (by decide) (by kernel_rfl) ⟨rfl, by decide, by decide⟩ ?F
    intro w mg fa0 h Y G hmg0
    obtain ⟨K, KX, c⟩ := Y
    have hmg : mg ("law" : PySem.Str) = some (.ref fa0) := by
      have e : (HandSHeadRun.topDef (PySem.W.OpenLaw.row PySem.Challenge.rw_advowson_k02_rights_written).prog 26).name = ("law" : PySem.Str) := by kernel_rfl
      rw [← e]
      exact hmg0
    have e := hmg.symm.trans (He.glo_ok KX G (c.fact 15 (f := .glo "law") rfl))
    cases e
    obtain ⟨fd, F, _, b⟩ := df15 c
    exact ⟨Nn K, callW P 16, 15, fd, KX, fun s v => b s [v] rfl, fun base _ _ => fnOk (gf KX G c) 16 15 _ _ _ rfl F, sp⟩
end K02
end
theorem PySem.Challenge.cw_advowson_k02_rights_written_holds : PySem.Challenge.rw_advowson_k02_rights_written.Holds := by
  exact K02.ends fun ns _ => A.law2_ok rfl rfl rfl rfl rfl rfl rfl rfl rfl rfl rfl rfl rfl rfl rfl rfl ns
