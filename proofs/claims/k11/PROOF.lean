import PyProof.Rows.All
import Wide.All
import OpenK.AllK
import Wide.FinOn
import HandS.ForMost
import HandS.ForExc
import HandS.Wide
import HandS.Walk
import HandS.Zip
import HandS.FStr
import HandS.IsInst
import HandS.TryMany
import HandS.CallSlots
import HandS.SetKeys
import HandS.TupAny
import HandS.Conv
import HandS.Codes
import HandS.ExcField
import HandS.Defaults
import HandS.HeadHook2
import HandS.HeadHook3
import HandS.Head2
import KE.KStateDown
import Lean
import HandS.Head0
import HandS.Head1
import PySem.Challenge.RW_advowson_k11_turns_of_parts
import HandS.Flow
import PyProof.EqAt
import PyProof.NeKinds
import HandS.DeepEq
import HandS.Base
import HandS.Call
import HandS.List
import HandS.Dict
import HandS.Iter
import HandS.More
import HandS.Set
import HandS.SetFor
import PyProof.Rows.SortShellAny
import PyProof.Rows.StrMeet
import HandS.WordsDict
import HandS.RaiseMore
import PyProof.AutoSeq1
import HandS.StrMore
import HandS.CallRecv
import HandS.Small
import KE.KExcRaise
import KE.KAsSuite
import HandS.ExcCtx
import HandS.ExcOwn
import HandS.SuiteRaise
import HandS.RaiseFrom
import HandS.HotCalls
import KE.GoesEnumKw
import KE.GoesZip
import KE.GoesMore
import HandS.SortKw
import KE.DatumOrd
import HandS.ExcInit
import HandS.ExcIs
import KE.KExcInit
import HandS.Hot
import HandS.ExcInitHot
import KE.KFmtOwn
import HandS.MakeKw
import PyProof.Rows.Range3
import HandS.MapObj
import KE.GoesRaise
import HandS.Ends
set_option Elab.async false
set_option linter.all false
set_option maxRecDepth 100000
set_option maxHeartbeats 0
namespace A
open PySem L2
inductive D where
  | non
  | bl (b : Bool)
  | int (i : Int)
  | str (s : Str)
  | tup (l : List D)
  | lis (l : List D)
  | ref (a : Addr)
  | fn (f : Nat)
  | exc (c : Nat) (fs : List Nat) (ds : List D)
  deriving Inhabited
inductive MO where
  | lst (xs : List D)
  | dic (kvs : List (Key × D))
  | dicF (kvs : List (Key × D)) (u : HO)
  | ins (c : Nat) (fs : List (Nat × D))
abbrev Sta := Addr → Option MO
abbrev Env := List (Option D)
def ups (S : Sta) (a : Addr) (o : MO) : Sta := fun b => if b = a then some o else S b
theorem ups_same {S : Sta} {a : Addr} {o : MO} : ups S a o a = some o := by unfold ups; rw [if_pos rfl]
theorem ups_ne {S : Sta} {a b : Addr} {o : MO} (h : b ≠ a) : ups S a o b = S b := by unfold ups; rw [if_neg h]
theorem ups_ups {S : Sta} {a : Addr} {o u : MO} : ups (ups S a o) a u = ups S a u := by
  funext b; unfold ups; split <;> rfl
def Sub (S S' : Sta) : Prop := ∀ a o, S a = some o → S' a = some o
theorem Sub.refl (S : Sta) : Sub S S := fun _ _ h => h
theorem Sub.trans {S S1 S2 : Sta} (h : Sub S S1) (h' : Sub S1 S2) : Sub S S2 := fun a o q => h' a o (h a o q)
theorem sne {S : Sta} {a b : Addr} {o : MO} (h : S a = some o) (h' : S b = none) : a ≠ b := by
  intro e; rw [e, h'] at h; cases h
theorem Sub.ups {S S' : Sta} {a : Addr} {o : MO} (h : Sub S S') (n : S a = none) : Sub S (ups S' a o) := fun b u q => by
  rw [ups_ne (sne q n)]; exact h b u q
structure Nm where
  K : PySem.W.Frag
  fa : Nat → Addr
  ca : Nat → Addr
  fnm : Nat → Str
  oc : List Nat
  xc : List Nat
  fl : List Nat
  xs : Option (Nat × Nat × List Nat × List D × Addr × Addr) := none
section
variable (N : Nm) (H : Hp)
mutual
def RD : D → V → Prop
  | .non, v => v = .non
  | .bl b, v => v = .bl b
  | .int i, v => v = .int i
  | .str s, v => v = .str s
  | .tup l, v => ∃ a vs, v = .ref a ∧ SqT N.K H a vs ∧ RDs l vs
  | .lis l, v => ∃ a vs, v = .ref a ∧ ((∃ o, H a = some (.frz o (.lst vs))) ∨ SqL N.K (fun _ => none) a vs) ∧ RDs l vs
  | .ref a, v => v = .ref a
  | .fn f, v => v = .ref (N.fa f)
  | .exc _ _ _, _ => False
def RDs : List D → List V → Prop
  | [], vs => vs = []
  | d :: ds, vs => ∃ v r, vs = v :: r ∧ RD d v ∧ RDs ds r
end
def RO (a : Addr) : MO → Prop
  | .lst xs => ∃ vs, H a = some (.lst vs) ∧ RDs N H xs vs
  | .dic kvs => ∃ ws : List (Key × V), H a = some (.dK ws) ∧ ws.map (·.1) = kvs.map (·.1) ∧ RDs N H (kvs.map (·.2)) (ws.map (·.2))
  | .dicF kvs u => ∃ (od : Obj) (ws : List (Key × V)), u = .frz od (.dK ws) ∧ H a = some (.frz od (.dK ws)) ∧ ws.map (·.1) = kvs.map (·.1) ∧ RDs N H (kvs.map (·.2)) (ws.map (·.2))
  | .ins c fs => c ∈ N.oc ∧ (∀ p ∈ fs, p.1 ∈ N.fl) ∧ ∃ (dx : Addr) (gs : List (Str × V)), H a = some (.ins (N.ca c) dx gs) ∧ gs.map (·.1) = fs.map (fun p => N.fnm p.1) ∧ RDs N H (fs.map (·.2)) (gs.map (·.2))
def RH (S : Sta) : Prop := ∀ a o, S a = some o → RO N H a o
def XOk : Prop := match N.xs with
  | none => True
  | some (_, _, fs, ds, _, d) => ∃ (xs : List (Str × V)) (vs : List V), H d = some (.xd xs) ∧ RDs N H ds vs ∧ fs.length = vs.length ∧ ∀ (i : Nat) f v, fs[i]? = some f → vs[i]? = some v → xs.lookup (N.fnm f) = some v
def IsX (i : Nat) (d : D) (v : V) : Prop := ∃ c fs ds a z, N.xs = some (i, c, fs, ds, a, z) ∧ d = .exc c fs ds ∧ v = .ref a
def RS (σ : L2.St) (ρ : Env) : Prop := σ.length = ρ.length ∧ (∀ (i : Nat) d, ρ[i]? = some (some d) → ∃ v, σ[i]? = some (some v) ∧ (RD N H d v ∨ IsX N i d v)) ∧ XOk N H
end
def Fr (S : Sta) (H : Hp) (S' : Sta) (H' : Hp) : Prop := ∀ a o, H a = some o → S a = none → H' a = some o ∧ S' a = none
section
variable {N : Nm} {H H' H1 H2 : Hp} {S S' S1 S2 : Sta}
theorem Fr.refl : Fr S H S H := fun _ _ h n => ⟨h, n⟩
theorem Fr.trans (f : Fr S H S1 H1) (g : Fr S1 H1 S2 H2) : Fr S H S2 H2 := fun a o h n => let ⟨h1, n1⟩ := f a o h n; g a o h1 n1
theorem Fr.sub (f : Fr S H S1 H1) (h : Sub S2 S1) : Fr S H S2 H1 := fun a o q n => by
  obtain ⟨h1, n1⟩ := f a o q n
  refine ⟨h1, ?_⟩
  cases e : S2 a with
  | none => rfl
  | some u => rw [h a u e] at n1; cases n1
theorem RH.sub (r : RH N H S) (h : Sub S' S) : RH N H S' := fun a o q => r a o (h a o q)
def Deep : HO → Bool
  | .tup _ => true
  | .frz _ (.tup _) => true
  | .frz _ (.lst _) => true
  | .ext _ => true
  | .xd _ => true
  | _ => false
theorem RH.deep (r : RH N H S) {a : Addr} {o : HO} (h : H a = some o) (d : Deep o = true) : S a = none := by
  cases e : S a with
  | none => rfl
  | some u =>
    have q := r a u e
    cases u with
    | lst xs => obtain ⟨vs, z, _⟩ := q; rw [h] at z; cases z; cases d
    | dic xs => obtain ⟨vs, z, _⟩ := q; rw [h] at z; cases z; cases d
    | dicF xs u => obtain ⟨_, vs, _, z, _⟩ := q; rw [h] at z; cases z; cases d
    | ins c fs => obtain ⟨_, _, _, vs, z, _⟩ := q; rw [h] at z; cases z; cases d
def Dle (H H' : Hp) : Prop := ∀ a o, H a = some o → Deep o = true → H' a = some o
theorem Dle.refl : Dle H H := fun _ _ h _ => h
theorem Dle.trans (f : Dle H H1) (g : Dle H1 H2) : Dle H H2 := fun a o h d => g a o (f a o h d) d
theorem Fr.dle (f : Fr S H S' H') (r : RH N H S) : Dle H H' := fun a o h d => (f a o h (r.deep h d)).1
theorem Dle.sqT (f : Dle H H') {K : PySem.W.Frag} {a : Addr} {vs : List V} (h : SqT K H a vs) : SqT K H' a vs := by
  rcases h with (h | ⟨o, h⟩) | h
  · exact .inl (.inl (f _ _ h rfl))
  · exact .inl (.inr ⟨o, f _ _ h rfl⟩)
  · exact .inr h
mutual
theorem RD.mono (f : Dle H H') : ∀ (d : D) (v : V), RD N H d v → RD N H' d v
  | .non, _, h => by simp only [RD] at h ⊢; exact h
  | .bl _, _, h => by simp only [RD] at h ⊢; exact h
  | .int _, _, h => by simp only [RD] at h ⊢; exact h
  | .str _, _, h => by simp only [RD] at h ⊢; exact h
  | .ref _, _, h => by simp only [RD] at h ⊢; exact h
  | .fn _, _, h => by simp only [RD] at h ⊢; exact h
  | .tup l, v, h => by
    simp only [RD] at h ⊢
    obtain ⟨a, vs, e, q, r⟩ := h
    exact ⟨a, vs, e, f.sqT q, RDs.mono f l vs r⟩
  | .lis l, v, h => by
    simp only [RD] at h ⊢
    obtain ⟨a, vs, e, q, r⟩ := h
    exact ⟨a, vs, e, q.imp (fun ⟨o, z⟩ => ⟨o, f _ _ z rfl⟩) id, RDs.mono f l vs r⟩
  | .exc _ _ _, _, h => by simp only [RD] at h
theorem RDs.mono (f : Dle H H') : ∀ (ds : List D) (vs : List V), RDs N H ds vs → RDs N H' ds vs
  | [], _, h => by simp only [RDs] at h ⊢; exact h
  | d :: ds, vs, h => by
    simp only [RDs] at h ⊢
    obtain ⟨v, r, e, h1, h2⟩ := h
    exact ⟨v, r, e, RD.mono f d v h1, RDs.mono f ds r h2⟩
end
theorem XOk.mono (f : Dle H H') (h : XOk N H) : XOk N H' := by
  unfold XOk at h ⊢
  split at h
  · trivial
  · obtain ⟨xs, vs, h1, h2, h3⟩ := h
    exact ⟨xs, vs, f _ _ h1 rfl, RDs.mono f _ _ h2, h3⟩
theorem RS.mono (f : Dle H H') {σ : L2.St} {ρ : Env} (h : RS N H σ ρ) : RS N H' σ ρ := ⟨h.1, fun i d e => let ⟨v, q, r⟩ := h.2.1 i d e; ⟨v, q, r.imp (RD.mono f d v) id⟩, h.2.2.mono f⟩
theorem RDs.length : ∀ {ds : List D} {vs : List V}, RDs N H ds vs → ds.length = vs.length
  | [], _, h => by simp only [RDs] at h; rw [h]; rfl
  | d :: ds, vs, h => by
    simp only [RDs] at h
    obtain ⟨v, r, e, h1, h2⟩ := h
    rw [e, List.length_cons, List.length_cons, RDs.length h2]
theorem RDs.get : ∀ {ds : List D} {vs : List V} {i : Nat} {d : D}, RDs N H ds vs → ds[i]? = some d → ∃ v, vs[i]? = some v ∧ RD N H d v
  | [], _, _, _, h, e => by simp at e
  | d :: ds, vs, i, x, h, e => by
    simp only [RDs] at h
    obtain ⟨v, r, rfl, h1, h2⟩ := h
    cases i with
    | zero => simp at e; subst e; exact ⟨v, rfl, h1⟩
    | succ i => simp at e; obtain ⟨w, q, z⟩ := RDs.get h2 e; exact ⟨w, by simpa using q, z⟩
theorem RDs.nil : RDs N H [] [] := by simp only [RDs]
theorem RDs.cons {d : D} {v : V} {ds : List D} {vs : List V} (h : RD N H d v) (r : RDs N H ds vs) : RDs N H (d :: ds) (v :: vs) := by
  simp only [RDs]; exact ⟨v, vs, rfl, h, r⟩
theorem RDs.uncons {d : D} {ds : List D} {vs : List V} (h : RDs N H (d :: ds) vs) : ∃ v r, vs = v :: r ∧ RD N H d v ∧ RDs N H ds r := by
  simp only [RDs] at h; exact h
theorem RDs.unnil {vs : List V} (h : RDs N H [] vs) : vs = [] := by
  simp only [RDs] at h; exact h
theorem RDs.append : ∀ {ds es : List D} {vs ws : List V}, RDs N H ds vs → RDs N H es ws → RDs N H (ds ++ es) (vs ++ ws)
  | [], _, _, _, h, r => by rw [h.unnil]; exact r
  | d :: ds, es, vs, ws, h, r => by
    obtain ⟨v, t, rfl, h1, h2⟩ := h.uncons
    exact .cons h1 (RDs.append h2 r)
theorem RDs.take : ∀ {ds : List D} {vs : List V} (n : Nat), RDs N H ds vs → RDs N H (ds.take n) (vs.take n)
  | _, _, 0, _ => by rw [List.take_zero, List.take_zero]; exact .nil
  | [], _, n + 1, h => by rw [h.unnil]; exact .nil
  | d :: ds, vs, n + 1, h => by
    obtain ⟨v, t, rfl, h1, h2⟩ := h.uncons
    exact .cons h1 (RDs.take n h2)
theorem RDs.drop : ∀ {ds : List D} {vs : List V} (n : Nat), RDs N H ds vs → RDs N H (ds.drop n) (vs.drop n)
  | _, _, 0, h => h
  | [], _, n + 1, h => by rw [h.unnil]; exact .nil
  | d :: ds, vs, n + 1, h => by
    obtain ⟨v, t, rfl, h1, h2⟩ := h.uncons
    exact RDs.drop n h2
theorem RDs.set : ∀ {ds : List D} {vs : List V} (i : Nat) {d : D} {v : V}, RD N H d v → RDs N H ds vs → RDs N H (ds.set i d) (vs.set i v)
  | [], _, i, d, v, r, h => by rw [h.unnil]; exact .nil
  | x :: ds, vs, 0, d, v, r, h => by
    obtain ⟨w, t, rfl, h1, h2⟩ := h.uncons
    exact .cons r h2
  | x :: ds, vs, i + 1, d, v, r, h => by
    obtain ⟨w, t, rfl, h1, h2⟩ := h.uncons
    exact .cons h1 (RDs.set i r h2)
theorem RS.at {σ : L2.St} {ρ : Env} (h : RS N H σ ρ) {i : Nat} {d : D} (hx : ∀ r, N.xs = some r → r.1 ≠ i) (e : ρ[i]? = some (some d)) : ∃ v, σ[i]? = some (some v) ∧ RD N H d v := by
  obtain ⟨v, q, r⟩ := h.2.1 i d e
  refine ⟨v, q, r.elim id fun ⟨c, fs, ds, a, z, e1, _⟩ => absurd rfl (hx _ e1)⟩
theorem RS.set {σ : L2.St} {ρ : Env} (h : RS N H σ ρ) (i : Nat) {d : D} {v : V} (r : RD N H d v) : RS N H (σ.set i (some v)) (ρ.set i (some d)) := by
  refine ⟨by simpa using h.1, fun j x e => ?_, h.2.2⟩
  by_cases hj : i = j
  · subst hj
    by_cases hl : i < ρ.length
    · rw [List.getElem?_set_self hl] at e
      cases e
      exact ⟨v, by rw [List.getElem?_set_self (by rw [h.1]; exact hl)], .inl r⟩
    · rw [List.getElem?_eq_none (by simpa using hl)] at e; cases e
  · rw [List.getElem?_set_ne hj] at e
    obtain ⟨w, q, z⟩ := h.2.1 j x e
    exact ⟨w, by rw [List.getElem?_set_ne hj]; exact q, z⟩
theorem RS.unset {σ : L2.St} {ρ : Env} (h : RS N H σ ρ) (i : Nat) : RS N H (σ.set i none) (ρ.set i none) := by
  refine ⟨by simpa using h.1, fun j x e => ?_, h.2.2⟩
  by_cases hj : i = j
  · subst hj
    by_cases hl : i < ρ.length
    · rw [List.getElem?_set_self hl] at e; cases e
    · rw [List.getElem?_eq_none (by simpa using hl)] at e; cases e
  · rw [List.getElem?_set_ne hj] at e
    obtain ⟨w, q, z⟩ := h.2.1 j x e
    exact ⟨w, by rw [List.getElem?_set_ne hj]; exact q, z⟩
theorem dle_new {p : Addr} {o : HO} (h : H p = none) : Dle H (upd H p o) := fun a u q _ => by rw [L2.upd_ne (L2.ne_of_none q h)]; exact q
theorem dle_put {p : Addr} {o u : HO} (h : H p = some u) (d : Deep u = false) : Dle H (upd H p o) := fun a x q dx => by
  rw [L2.upd_ne]; · exact q
  intro e; rw [e, h] at q; cases q; rw [d] at dx; cases dx
theorem RO.mono (f : Dle H H') {a : Addr} {o : MO} (e : H' a = H a) (r : RO N H a o) : RO N H' a o := by
  cases o with
  | lst xs => obtain ⟨vs, h, q⟩ := r; exact ⟨vs, e.trans h, RDs.mono f _ _ q⟩
  | dic kvs => obtain ⟨ws, h, k, q⟩ := r; exact ⟨ws, e.trans h, k, RDs.mono f _ _ q⟩
  | dicF kvs u => obtain ⟨od, ws, eu, h, k, q⟩ := r; exact ⟨od, ws, eu, e.trans h, k, RDs.mono f _ _ q⟩
  | ins c fs => obtain ⟨h1, h2, dx, gs, h, k, q⟩ := r; exact ⟨h1, h2, dx, gs, e.trans h, k, RDs.mono f _ _ q⟩
theorem RH.fresh (r : RH N H S) {a : Addr} (h : H a = none) : S a = none := by
  cases e : S a with
  | none => rfl
  | some u =>
    have q := r a u e
    cases u with
    | lst xs => obtain ⟨vs, z, _⟩ := q; rw [h] at z; cases z
    | dic xs => obtain ⟨vs, z, _⟩ := q; rw [h] at z; cases z
    | dicF xs u => obtain ⟨_, vs, _, z, _⟩ := q; rw [h] at z; cases z
    | ins c fs => obtain ⟨_, _, _, vs, z, _⟩ := q; rw [h] at z; cases z
theorem RH.new (r : RH N H S) {p : Addr} {o : HO} {m : MO} (h : H p = none) (hm : RO N (upd H p o) p m) : RH N (upd H p o) (ups S p m) := fun a u q => by
  by_cases e : a = p
  · subst e; rw [ups_same] at q; cases q; exact hm
  · rw [ups_ne e] at q
    exact (r a u q).mono (dle_new h) (L2.upd_ne e)
theorem RH.skip (r : RH N H S) {p : Addr} {o : HO} (h : H p = none) : RH N (upd H p o) S := fun a u q => by
  have e : a ≠ p := sne q (r.fresh h)
  exact (r a u q).mono (dle_new h) (L2.upd_ne e)
theorem RH.put (r : RH N H S) {p : Addr} {o u : HO} {m : MO} (h : H p = some u) (d : Deep u = false) (hm : RO N (upd H p o) p m) : RH N (upd H p o) (ups S p m) := fun a x q => by
  by_cases e : a = p
  · subst e; rw [ups_same] at q; cases q; exact hm
  · rw [ups_ne e] at q
    exact (r a x q).mono (dle_put h d) (L2.upd_ne e)
theorem Fr.new {p : Addr} {o : HO} {m : MO} (h : H p = none) : Fr S H (ups S p m) (upd H p o) := fun a u q n => by
  have e : a ≠ p := L2.ne_of_none q h
  exact ⟨by rw [L2.upd_ne e]; exact q, by rw [ups_ne e]; exact n⟩
theorem Fr.skip {p : Addr} {o : HO} (h : H p = none) : Fr S H S (upd H p o) := fun a u q n => by
  have e : a ≠ p := L2.ne_of_none q h
  exact ⟨by rw [L2.upd_ne e]; exact q, n⟩
theorem Fr.put {p : Addr} {o : HO} {m k : MO} (h : S p = some k) : Fr S H (ups S p m) (upd H p o) := fun a u q n => by
  have e : a ≠ p := fun e => by rw [e, h] at n; cases n
  exact ⟨by rw [L2.upd_ne e]; exact q, by rw [ups_ne e]; exact n⟩
end
end A
namespace A
open PySem L2 PyProof.Rows He
def refsT (t : List Value) : List Value → Bool
  | .ref _ :: r => refsT t r
  | l => decide (l = t)
def tailOf (look : Bool) : List Value := if look = true then [.type "LookupError", .type "Exception", .type "BaseException", .type "object"] else [.type "ValueError", .type "Exception", .type "BaseException", .type "object"]
def newOf (look : Bool) : String := if look = true then "LookupError.__new__" else "ValueError.__new__"
def oxB (K : PySem.W.Frag) (C : Addr) (look : Bool) : Bool := (match K.lookup C with
  | some ⟨.type ty, _, .cls cd, sl⟩ => decide (ty = "type") && cd.hasDict && !cd.hasDel && (match cd.mro with
      | .ref C' :: bm => decide (C' = C) && refsT (tailOf look) bm
      | _ => false) && (match sl.toList with
      | [_, _, _, _, some (.builtin n), _] => decide (n = newOf look)
      | _ => false)
  | _ => false) && (decide (PySem.W.findIn K (.ref C) "__setattr__" = some (some (.builtin "object.__setattr__"))) && (decide (PySem.W.subIn K (.ref C) (.type "BaseException") = some true) && (decide (PySem.W.typeIn K (.ref C) = some (.type "type")) && PySem.W.keepIn K (.ref C))))
def excB (K : PySem.W.Frag) (D : Addr) : Bool := decide (PySem.W.findIn K (.ref D) "__getattribute__" = some (some (.builtin "BaseException.__getattribute__"))) && (decide (PySem.W.findIn K (.ref D) "__getattr__" = some none) && (decide (PySem.W.subIn K (.ref D) (.type "BaseException") = some true) && (PySem.W.hasDictIn K D &&
  (decide (PySem.W.findIn K (.ref D) "__class__" = some (some (.builtin "object.__class__"))) && (decide (PySem.W.specialIn K (.builtin "object.__class__") "__get__" = some (some (.builtin "getset_descriptor.__get__"))) && (decide (PySem.W.takesIn K (.builtin "object.__class__") = some true) && (decide (PySem.W.mroIn K D (.type "object") = some true) && decide (PySem.W.typeIn K (.ref D) = some (.type "type")))))))))
def hookL (l : List Addr) (fa : List Fa) (fn : List DefD) (ts : List Tab) (ex : PySem.W.Frag → Bool) : PySem.W.Hook where
  α := AlT × Bool
  obs := fun s => (obsT fa fn ts (frG s.heap.get? l), ex (frG s.heap.get? l))
  val := fun w => (valT fn ts w, true)
  says := fun w h => ∃ K : PySem.W.Frag, K.In h ∧ SaysT fa fn ts w K ∧ ex K = true
  of := fun _ _ e => ⟨_, frG_in, congrArg Prod.fst e, congrArg Prod.snd e⟩
  keeps := fun _ _ _ ⟨K, hK, c⟩ k => ⟨K, PySem.W.Frag.In.keeps hK k, c⟩
def obsL (l : List Addr) (fa : List Fa) (fn : List DefD) (ts : List Tab) (ex : PySem.W.Frag → Bool) (g : Addr → Option Obj) : AlT × Bool := (obsT fa fn ts (frG g l), ex (frG g l))
theorem obsL_eq {l : List Addr} {fa : List Fa} {fn : List DefD} {ts : List Tab} {ex : PySem.W.Frag → Bool} {g : Addr → Option Obj} {s : Shared} (h : ∀ a, g a = s.heap.get? a) : obsL l fa fn ts ex g = (hookL l fa fn ts ex).obs s := by
  rw [show g = s.heap.get? from funext h]
  rfl
def clsAt (s : Stmt) (j : Nat) : Stmt := match s with
  | .ClassDef _ _ _ b _ _ _ _ _ _ _ => b.getD j (.Pass ⟨0, 0, 0, 0⟩)
  | s => s
end A
namespace K11
open PySem L2 A
def top (i : Nat) : Stmt := PySem.Challenge.pw_advowson_k11_turns_of_parts.main.body.getD i (.Pass ⟨0, 0, 0, 0⟩)
def d37 : He.DefD := ⟨("later_of", none), "later_of", "later_of", defArgs (top 4), defBody (top 4), defScope (top 4), [], []⟩
def n37 : List PySem.Str := ["right", "at"]
def p37 : List PySem.Str := ["right", "at"]
def d38 : He.DefD := ⟨("due", none), "due", "due", defArgs (top 5), defBody (top 5), defScope (top 5), [.int 0], []⟩
def n38 : List PySem.Str := ["right", "number", "part", "many", "at"]
def p38 : List PySem.Str := ["right", "number"]
def d55 : He.DefD := ⟨("turn_of", none), "turn_of", "turn_of", defArgs (top 6), defBody (top 6), defScope (top 6), [.int 0], []⟩
def n55 : List PySem.Str := ["right", "path", "number", "below"]
def p55 : List PySem.Str := ["right", "path", "number"]
def d56 : He.DefD := ⟨("number_below", none), "number_below", "number_below", defArgs (top 7), defBody (top 7), defScope (top 7), [], []⟩
def n56 : List PySem.Str := ["part", "path", "number", "e"]
def p56 : List PySem.Str := ["part", "path", "number"]
def d1 : He.DefD := ⟨("_law_box", none), "_law_box", "_law_box", defArgs (top 9), defBody (top 9), defScope (top 9), [], []⟩
def n1 : List PySem.Str := ["_law_script"]
def p1 : List PySem.Str := ["_law_script"]
def d2 : He.DefD := ⟨("_law_take", none), "_law_take", "_law_take", defArgs (top 10), defBody (top 10), defScope (top 10), [], []⟩
def n2 : List PySem.Str := ["_law_box_here", "_law_sides", "_law_rest", "_law_cell", "_law_seed"]
def p2 : List PySem.Str := ["_law_box_here", "_law_sides"]
def d3 : He.DefD := ⟨("_law_same", none), "_law_same", "_law_same", defArgs (top 11), defBody (top 11), defScope (top 11), [], []⟩
def n3 : List PySem.Str := ["_law_found", "_law_want", "_law_one", "_law_other"]
def p3 : List PySem.Str := ["_law_found", "_law_want"]
def d4 : He.DefD := ⟨("_law_far", none), "_law_far", "_law_far", defArgs (top 12), defBody (top 12), defScope (top 12), [], []⟩
def n4 : List PySem.Str := ["_law_box_here"]
def p4 : List PySem.Str := ["_law_box_here"]
def d52 : He.DefD := ⟨("_law_any", none), "_law_any", "_law_any", defArgs (top 13), defBody (top 13), defScope (top 13), [], []⟩
def n52 : List PySem.Str := ["_law_box_here"]
def p52 : List PySem.Str := ["_law_box_here"]
def d13 : He.DefD := ⟨("_law_names", none), "_law_names", "_law_names", defArgs (top 14), defBody (top 14), defScope (top 14), [], []⟩
def n13 : List PySem.Str := ["_law_box_here", "_law_sides", "_law_letters", "_law_first", "_law_k", "_law_at_here", "_law_folk", "_law_pairs"]
def p13 : List PySem.Str := ["_law_box_here", "_law_sides"]
def d14 : He.DefD := ⟨("_law_tree", none), "_law_tree", "_law_tree", defArgs (top 15), defBody (top 15), defScope (top 15), [], []⟩
def n14 : List PySem.Str := ["_law_box_here", "_law_deep", "_law_pool_here", "_law_room", "_law_size", "_law_parts", "_law_k"]
def p14 : List PySem.Str := ["_law_box_here", "_law_deep", "_law_pool_here", "_law_room"]
def d15 : He.DefD := ⟨("_law_right", none), "_law_right", "_law_right", defArgs (top 16), defBody (top 16), defScope (top 16), [], []⟩
def n15 : List PySem.Str := ["_law_box_here", "_law_pool_here", "_law_deep", "_law_size", "_law_room", "_law_parts", "_law_k"]
def p15 : List PySem.Str := ["_law_box_here", "_law_pool_here"]
def d16 : He.DefD := ⟨("_law_pool", none), "_law_pool", "_law_pool", defArgs (top 17), defBody (top 17), defScope (top 17), [], []⟩
def n16 : List PySem.Str := ["_law_box_here"]
def p16 : List PySem.Str := ["_law_box_here"]
def d32 : He.DefD := ⟨("_law_at", none), "_law_at", "_law_at", defArgs (top 18), defBody (top 18), defScope (top 18), [], []⟩
def n32 : List PySem.Str := ["_law_tree_here", "_law_road", "_law_at_here"]
def p32 : List PySem.Str := ["_law_tree_here", "_law_road"]
def d33 : He.DefD := ⟨("_law_paths", none), "_law_paths", "_law_paths", defArgs (top 19), defBody (top 19), defScope (top 19), [], []⟩
def n33 : List PySem.Str := ["_law_tree_here", "_law_found", "_law_at_here", "_law_part", "_law_road"]
def p33 : List PySem.Str := ["_law_tree_here"]
def d57 : He.DefD := ⟨("_law_turn_of", none), "_law_turn_of", "_law_turn_of", defArgs (top 20), defBody (top 20), defScope (top 20), [], []⟩
def n57 : List PySem.Str := ["_law_right_here", "_law_road", "_law_number", "_law_size", "_law_below"]
def p57 : List PySem.Str := ["_law_right_here", "_law_road", "_law_number"]
def d58 : He.DefD := ⟨("_law_missing", none), "_law_missing", "_law_missing", defArgs (top 21), defBody (top 21), defScope (top 21), [], []⟩
def n58 : List PySem.Str := ["_law_right_here", "_law_road", "_law_found", "e"]
def p58 : List PySem.Str := ["_law_right_here", "_law_road"]
def d999 : He.DefD := ⟨("law", none), "law", "law", defArgs (top 22), defBody (top 22), defScope (top 22), [], []⟩
def n999 : List PySem.Str := ["_law_script", "_law_box_here", "_law_pool_here", "_law_k", "_law_right_here", "_law_road", "_law_number", "_law_found", "_law_wrong"]
def p999 : List PySem.Str := ["_law_script"]
def e0 : He.DefD := ⟨("NoPart", some "__init__"), "__init__", "NoPart.__init__", defArgs (clsAt (top 2) 0), defBody (clsAt (top 2) 0), defScope (clsAt (top 2) 0), [], []⟩
def en0 : List PySem.Str := ["self", "path"]
def ef0 : List (PySem.Str × Sum PySem.Str Nat) := [("word", .inl "NoPart"), ("path", .inr 1)]
def cn (c : Nat) : PySem.Str := match c with
  | 1 => "NotThere"
  | 23 => "NoPart"
  | _ => ""
def fln (c : Nat) : PySem.Str := match c with
  | 0 => "word"
  | 3 => "path"
  | _ => ""
def ocl : List Nat := []
def xcl : List Nat := [23]
def fll : List Nat := []
def flS : List PySem.Str := []
def at_ (f : Nat) : PySem.Str × Option PySem.Str := match f with
  | 37 => ("later_of", none)
  | 38 => ("due", none)
  | 55 => ("turn_of", none)
  | 56 => ("number_below", none)
  | 1 => ("_law_box", none)
  | 2 => ("_law_take", none)
  | 3 => ("_law_same", none)
  | 4 => ("_law_far", none)
  | 52 => ("_law_any", none)
  | 13 => ("_law_names", none)
  | 14 => ("_law_tree", none)
  | 15 => ("_law_right", none)
  | 16 => ("_law_pool", none)
  | 32 => ("_law_at", none)
  | 33 => ("_law_paths", none)
  | 57 => ("_law_turn_of", none)
  | 58 => ("_law_missing", none)
  | 999 => ("law", none)
  | _ => ("", none)
def x0 (K : PySem.W.Frag) : Bool := oxB K (He.ga K "NoPart") true
def x1 (K : PySem.W.Frag) : Bool := excB K (He.ga K "NoPart")
def x2 (K : PySem.W.Frag) : Bool := decide (PySem.W.findIn K (.ref (He.ga K "NoPart")) "path" = some none)
def x3 (K : PySem.W.Frag) : Bool := decide (PySem.W.findIn K (.ref (He.ga K "NoPart")) "word" = some none)
def x4 (K : PySem.W.Frag) : Bool := decide (PySem.W.findIn K (.ref (He.ga K "NoPart")) "__init__" = some (some (.ref (He.ma K (He.ga K "NoPart") "__init__"))))
def x5 (K : PySem.W.Frag) : Bool := decide (PySem.W.typeIn K (.ref (He.ma K (He.ga K "NoPart") "__init__")) = some (.type "function"))
def x6 (K : PySem.W.Frag) : Bool := xcl.all fun c => match ([(0, false), (1, false), (2, false), (3, false), (4, false), (5, false), (6, false), (7, false), (8, false), (9, false), (10, false), (11, false), (12, false), (13, false), (14, false), (15, false), (16, false), (17, false), (18, false), (19, false), (20, false), (21, false), (22, false), (23, true)] : List (Nat × Bool)).lookup c with
  | some b => decide (PySem.W.exmOne K (.ref (He.ga K (cn c))) (.ref (He.ga K "NoPart")) = some b)
  | none => true
def exK (K : PySem.W.Frag) : Bool := x0 K && (x1 K && (x2 K && (x3 K && (x4 K && (x5 K && (x6 K))))))
def fn : List He.DefD := [d37, d38, d55, d56, d1, d2, d3, d4, d52, d13, d14, d15, d16, d32, d33, d57, d58, d999, e0]
def fa : List He.Fa := ([.glo "later_of", .glo "due", .glo "turn_of", .glo "number_below", .glo "_law_box", .glo "_law_take", .glo "_law_same", .glo "_law_far", .glo "_law_any", .glo "_law_names", .glo "_law_tree", .glo "_law_right", .glo "_law_pool", .glo "_law_at", .glo "_law_paths", .glo "_law_turn_of", .glo "_law_missing", .glo "law", .glo "NoPart", .free "all", .free "bool", .free "enumerate", .free "int", .free "isinstance", .free "len", .free "list", .free "range", .free "str", .free "tuple", .free "zip"] : List He.Fa)
abbrev R : PySem.W.OpenRow := PySem.W.OpenLaw.row PySem.Challenge.rw_advowson_k11_turns_of_parts
def ts : List He.Tab := []
def asL : List Addr := ([3, 31, 51, 60, 68, 76, 83, 90, 97, 102, 109, 116, 121, 126, 131, 138, 145, 150, 157, 164, 171, 30, 50, 59, 67, 61, 75, 69, 82, 89] : List Addr) ++ ([96, 101, 108, 115, 120, 125, 130, 137, 144, 149, 156, 163, 170, 48, 47] : List Addr)
abbrev hk : PySem.W.Hook := A.hookL asL fa fn ts exK
def ob (s : PySem.W.SharedT) : He.AlT × Bool := A.obsL asL fa fn ts exK (HandSHeadRun.getT s)
theorem ob_eq (s : PySem.W.SharedT) : ob s = hk.obs s.abs := A.obsL_eq (HandSHeadRun.getT_eq s)
def names : List PySem.Str := (["NotThere", "NoPart", "later_of", "due", "turn_of", "number_below", "_law_box", "_law_take", "_law_same", "_law_far", "_law_any", "_law_names", "_law_tree", "_law_right", "_law_pool", "_law_at", "_law_paths", "_law_turn_of", "_law_missing"] : List PySem.Str)
theorem run (w : World) : HandSHeadRun.RunEq R (PySem.W.view R.prog [22]) hk ob 14000 names w := by
  intro os
  kernel_rfl
end K11
namespace A
open PySem L2
inductive Bo where | add | sub | mul | div | mod | pow
inductive Co where | eq | ne | lt | le | gt | ge | is | isn | inn | nin | nni
inductive B1 where
  | len | int | str | repr | list | tuple | sum | max | min | minD | all | any | sorted | dict | setlen | setsorted | bool | vals
  deriving DecidableEq
inductive B2 where | max | min
inductive Bm where | append | extend | pop | get | setd | join | split | ends | rstrip | clear | upper | replace | count
inductive Shp where
  | app (ds : List D)
  | perm (l : List (Sum Nat D))
inductive Kd where | int | str | bool | list | tuple | own (cs : List Nat)
mutual
inductive E where
  | v (i : Nat)
  | c (d : D)
  | bin (o : Bo) (a b : E)
  | neg (a : E)
  | not (a : E)
  | and (a b : E)
  | or (a b : E)
  | cmp (o : Co) (a b : E)
  | chn (a : E) (o1 : Co) (b : E) (o2 : Co) (c : E)
  | chn3 (a : E) (o1 : Co) (b : E) (o2 : Co) (c : E) (o3 : Co) (d : E)
  | cmpD (ne : Bool) (a b : E)
  | ite (t a b : E)
  | tup (es : Es)
  | lst (es : Es)
  | dct (kvs : Es)
  | ix (a i : E)
  | gix (kvs : List (Str × D)) (i : E)
  | gget (kvs : List (Str × D)) (i d : E)
  | sl (a lo hi : E)
  | at (a : E) (f : Nat)
  | call (f : Nat) (sh : Shp) (es : Es)
  | callk (f : Nat) (sh : Shp) (es ks : Es)
  | callv (fs : List Nat) (g : E) (es : Es)
  | new (c f : Nat) (sh : Shp) (es ks : Es)
  | meth (o : E) (m : Nat) (cs : List (Nat × Shp)) (es ks : Es)
  | b1 (b : B1) (a : E)
  | b1s (b : B1) (a : E)
  | b2 (b : B2) (a c : E)
  | bm (m : Bm) (o : E) (es : Es)
  | lc (elt : E) (own : List Nat) (tg : List Nat) (it : It) (cond : E)
  | lock (e : E)
  | isi (e : E) (ks : List Kd)
  | xis (i : Nat) (l : List (Nat × Bool))
  | xfl (i f : Nat)
  | hot (f i : Nat) (l : List (Nat × List Str))
  | fs (es : Es)
  | lcx (elt : E) (own : List Nat) (tg : List Nat) (it : It) (cond : E)
  | mxk (a : E) (k : Nat)
  | mkf (c : Nat) (fs : List Nat) (src : List (Sum Nat D)) (es : Es) (f : Nat)
  | shw (a : E)
  | callG (f : Nat) (sh : Shp) (es : Es)
  | nev
  | nil
inductive Es where
  | nil
  | cons (a : E) (r : Es)
inductive It where
  | seq (e : E)
  | rng (e : E)
  | enm (e : E) (st : Nat)
  | zip (a b : E) (strict : Bool)
  | zipT (a b : E)
  | zipU (a b : E)
  | dks (e : E)
  | dvs (e : E)
end
def Es.len : Es → Nat
  | .nil => 0
  | .cons _ r => r.len + 1
inductive Tg where
  | n (is : List Nat)
  | ix (a i : E)
  | at (a : E) (f : Nat)
  | vix (j : Nat) (a i : E)
mutual
inductive S where
  | asg (t : Tg) (e : E)
  | par (i j : Nat) (a b : E)
  | asgL (is : List Nat) (e : E)
  | aug (o : Bo) (i : Nat) (e : E)
  | augI (o : Bo) (a i e : E)
  | augA (o : Bo) (a : E) (f : Nat) (e : E)
  | ex (e : E)
  | ret (e : E)
  | retN
  | ite (t : E) (a b : Ss)
  | whl (t : E) (b : Ss)
  | for_ (t : Tg) (it : It) (b : Ss)
  | lock (s : S)
  | raise (c : Nat) (fs : List Nat) (src : List (Sum Nat D)) (es : Es) (frm : Bool)
  | try_ (b : Ss) (hs : Hs)
  | rpl (t : E) (i c : Nat) (b : Str)
  | pass
  | brk
  | cont
  | nev
inductive Ss where
  | nil
  | cons (s : S) (r : Ss)
inductive Hs where
  | nil
  | cons (cs : List (Nat × Bool)) (i : Option Nat) (b : Ss) (r : Hs)
  | rfr (cs : List (Nat × Bool)) (i c : Nat) (fs : List Nat) (src : List (Sum Nat D)) (es : Es) (r : Hs)
end
abbrev K := D → Sta → Prop
abbrev Orc := Nat → List D → Sta → K → K → Prop
def mth (c m : Nat) : Nat := 1000 * (c + 1) + m
def mLen : Nat := 1
def mStr : Nat := 2
def mRepr : Nat := 3
def mEq : Nat := 4
def cutD (xs : List D) (lo hi : Option Int) : List D := (xs.drop (HT.sIx xs.length 0 lo)).take (HT.sIx xs.length xs.length hi - HT.sIx xs.length 0 lo)
def keyD : D → Option Key
  | .int i => some (.inl i)
  | .str s => some (.inr s)
  | _ => none
def dKey : Key → D
  | .inl i => .int i
  | .inr s => .str s
def kget (kvs : List (Key × D)) (k : Key) : Option D := (kvs.find? fun p => decide (p.1 = k)).map (·.2)
def kput (kvs : List (Key × D)) (k : Key) (d : D) : List (Key × D) :=
  if kvs.any (fun p => decide (p.1 = k)) then kvs.map (fun p => if p.1 = k then (p.1, d) else p) else kvs ++ [(k, d)]
def kdel (kvs : List (Key × D)) (k : Key) : List (Key × D) := kvs.filter fun p => decide (p.1 ≠ k)
def fget (fs : List (Nat × D)) (f : Nat) : Option D := fs.lookup f
def fput (f : Nat) (d : D) : List (Nat × D) → List (Nat × D)
  | [] => [(f, d)]
  | (g, x) :: r => if g = f then (g, d) :: r else (g, x) :: fput f d r
def items (S : Sta) : D → Option (List D)
  | .tup l => some l
  | .lis l => some l
  | .str s => some (s.cps.toList.map fun c => .str ⟨#[c]⟩)
  | .ref a => match S a with
    | some (.lst xs) => some xs
    | _ => none
  | _ => none
def holds (S : Sta) : D → List (Addr × MO)
  | .ref a => match S a with
    | some o => [(a, o)]
    | none => []
  | _ => []
def Held (h : List (Addr × MO)) (S : Sta) : Prop := ∀ p ∈ h, S p.1 = some p.2
mutual
def toP : D → Option PyData
  | .non => some .none
  | .bl b => some (.bool b)
  | .int i => some (.int i)
  | .str s => some (.str s)
  | .tup l => (toPs l).map .tuple
  | .lis l => (toPs l).map .list
  | _ => none
def toPs : List D → Option (List PyData)
  | [] => some []
  | d :: r => match toP d, toPs r with
    | some x, some xs => some (x :: xs)
    | _, _ => none
end
def toPS (S : Sta) : D → Option PyData
  | .ref a => match S a with
    | some (.lst xs) => (toPs xs).map .list
    | _ => none
  | d => toP d
def wtru (S : Sta) (d : D) (P : Bool → Prop) : Prop := match d with
  | .non => P false
  | .bl b => P b
  | .int i => P (i != 0)
  | .str s => s.length ≤ sizeLine ∧ P (s.length != 0)
  | .tup l => P (!l.isEmpty)
  | .lis l => P (!l.isEmpty)
  | .ref a => (match S a with
    | some (.lst xs) => P (!xs.isEmpty)
    | some (.dic kvs) => P (!kvs.isEmpty)
    | _ => False)
  | _ => False
def MulOk (i j : Int) : Prop := L2.CMul i j ∨ L2.CMulW i j
def repS (k : Nat) (s : Str) : Str := ⟨(List.replicate k s.cps).foldl (· ++ ·) #[]⟩
theorem repS_len (k : Nat) (s : Str) : (repS k s).length = s.length * k := by
  have go : ∀ (k : Nat) (acc : Array Nat), ((List.replicate k s.cps).foldl (· ++ ·) acc).size = acc.size + s.length * k := fun k => by
    induction k with
    | zero => intro acc; simp
    | succ k ih =>
      intro acc
      rw [List.replicate_succ, List.foldl_cons, ih, Array.size_append, Nat.mul_succ]
      show acc.size + s.cps.size + s.cps.size * k = acc.size + (s.cps.size * k + s.cps.size)
      omega
  show ((List.replicate k s.cps).foldl (· ++ ·) #[]).size = _
  rw [go]
  simp
def wbin (o : Bo) (x y : D) (S : Sta) (Q : K) : Prop := match o, x, y with
  | .add, .int i, .int j => Q (.int (i + j)) S
  | .add, .int i, .bl b => Q (.int (i + (if b then 1 else 0))) S
  | .add, .str a, .str b => a.length + b.length ≤ sizeLine ∧ Q (.str (a ++ b)) S
  | .add, .tup l, .tup m => l.length + m.length ≤ sizeLine ∧ Q (.tup (l ++ m)) S
  | .add, .ref a, .ref b => (match S a, S b with
    | some (.lst xs), some (.lst ys) => xs.length + ys.length ≤ sizeLine ∧ ∀ p, S p = none → Q (.ref p) (ups S p (.lst (xs ++ ys)))
    | _, _ => False)
  | .sub, .int i, .int j => Q (.int (i - j)) S
  | .mul, .int i, .int j => MulOk i j ∧ Q (.int (i * j)) S
  | .mul, .str s, .int k => 2 ≤ k ∧ k < 1000 ∧ s.length * k.toNat ≤ sizeLine ∧ Q (.str (if s.length = 0 then s else repS k.toNat s)) S
  | .mul, .ref a, .int k => (match S a with
    | some (.lst xs) => -(2 ^ 63) ≤ k ∧ k < 2 ^ 63 ∧ xs.length * k.toNat ≤ sizeLine ∧ ∀ p, S p = none → Q (.ref p) (ups S p (.lst (List.replicate k.toNat xs).flatten))
    | _ => False)
  | .div, .int i, .int j => L2.CDivW i j ∧ Q (.int (i / j)) S
  | .mod, .int i, .int j => 0 < j ∧ Q (.int (i % j)) S
  | .pow, .int i, .int j => L2.CPow i j ∧ Q (.int (i ^ j.toNat)) S
  | _, _, _ => False
def wip (o : Bo) (x y : D) (S : Sta) (Q : K) : Prop := match o, x, y with
  | .add, .int i, .int j => Q (.int (i + j)) S
  | .add, .str a, .str b => a.length + b.length ≤ sizeLine ∧ Q (.str (a ++ b)) S
  | .sub, .int i, .int j => Q (.int (i - j)) S
  | .mul, .int i, .int j => L2.CMul i j ∧ Q (.int (i * j)) S
  | .div, .int i, .int j => L2.CDiv i j ∧ Q (.int (i / j)) S
  | .mod, .int i, .int j => 0 < j ∧ Q (.int (i % j)) S
  | _, _, _ => False
def flatD : D → Bool
  | .non => true | .bl _ => true | .int _ => true | .str _ => true | _ => false
def eqF : D → D → Bool
  | .non, .non => true
  | .bl a, .bl b => a == b
  | .int i, .int j => i == j
  | .str x, .str y => x == y
  | .bl a, .int j => (if a then (1 : Int) else 0) == j
  | .int i, .bl b => i == (if b then (1 : Int) else 0)
  | _, _ => false
def eqDD (S : Sta) (x y : D) (P : Bool → Prop) : Prop := ∃ p q, toPS S x = some p ∧ toPS S y = some q ∧ SeqAt.shaped p = true ∧ SeqAt.shaped q = true ∧ P (PyData.eqv p q)
def eqLL (S : Sta) (a b : Addr) (P : Bool → Prop) : Prop := eqDD S (.ref a) (.ref b) P ∨ ∃ xs ys, S a = some (.lst xs) ∧ S b = some (.lst ys) ∧ xs.length ≠ ys.length ∧ P false
def eqW (S : Sta) (x y : D) (P : Bool → Prop) : Prop := match x, y with
  | .int i, .int j => P (i == j)
  | .str i, .str j => P (i == j)
  | .bl i, .bl j => P (i == j)
  | .non, .non => P true
  | .non, .int _ => P false
  | .int _, .non => P false
  | .non, .str _ => P false
  | .str _, .non => P false
  | .non, .bl _ => P false
  | .bl _, .non => P false
  | .int _, .str _ => P false
  | .str _, .int _ => P false
  | .bl _, .str _ => P false
  | .str _, .bl _ => P false
  | .ref a, .ref b => (match S a with
    | some (.dic kvs) => S b = some (.dic []) ∧ P kvs.isEmpty
    | some (.lst _) => eqLL S a b P
    | _ => eqDD S (.ref a) (.ref b) P)
  | x, y => eqDD S x y P
def knD (S : Sta) : D → Bool
  | .non => true | .bl _ => true | .int _ => true | .str _ => true | .tup _ => true | .lis _ => true
  | .ref a => (match S a with | some (.lst _) => true | some (.dic _) => true | some (.ins _ _) => true | _ => false)
  | _ => false
def inList (x : D) (xs : List D) : Bool := xs.any fun y => eqF y x
def samK (kvs : List (Key × D)) : Prop := ∀ p ∈ kvs, kget kvs p.1 = some p.2 ∧ (flatD p.2 = true ∨ ∃ c, p.2 = .ref c)
def wcmp (C : Orc) (o : Co) (x y : D) (S : Sta) (Q : Bool → Sta → Prop) : Prop := match o with
  | .lt => (match x, y with | .int i, .int j => Q (decide (i < j)) S | _, _ => False)
  | .le => (match x, y with | .int i, .int j => Q (decide (i ≤ j)) S | _, _ => False)
  | .gt => (match x, y with | .int i, .int j => Q (decide (j < i)) S | _, _ => False)
  | .ge => (match x, y with | .int i, .int j => Q (decide (j ≤ i)) S | _, _ => False)
  | .is => (match y with
    | .non => Q (match x with | .non => true | _ => false) S
    | _ => False)
  | .isn => (match y with
    | .non => Q (match x with | .non => false | _ => true) S
    | _ => False)
  | .eq => (match x with
    | .ref a => (match S a with
      | some (.ins c _) => knD S y = true ∧ C (mth c mEq) [x, y] S (fun r S' => ∃ b, r = .bl b ∧ Q b S') fun _ _ => False
      | some (.dic kvs) => (eqW S x y fun b => Q b S) ∨ (y = .ref a ∧ samK kvs ∧ Q true S)
      | _ => eqW S x y fun b => Q b S)
    | x => eqW S x y fun b => Q b S)
  | .ne => (match x with
    | .ref a => (match S a with
      | some (.ins c _) => knD S y = true ∧ C (mth c mEq) [x, y] S (fun r S' => ∃ b, r = .bl b ∧ Q (!b) S') fun _ _ => False
      | _ => eqW S x y fun b => Q (!b) S)
    | x => eqW S x y fun b => Q (!b) S)
  | .inn => (match x, y with
    | .str c, .str z => ∃ n, c = ⟨#[n]⟩ ∧ Q (decide (n ∈ z.cps.toList)) S
    | x, .tup l => flatD x = true ∧ l.all flatD = true ∧ Q (inList x l) S
    | x, .ref a => (match S a with
      | some (.lst l) => flatD x = true ∧ l.all flatD = true ∧ Q (inList x l) S
      | some (.dic kvs) => ∃ k, keyD x = some k ∧ Q (kget kvs k).isSome S
      | some (.dicF kvs _) => ∃ k, keyD x = some k ∧ Q (kget kvs k).isSome S
      | _ => False)
    | _, _ => False)
  | .nni => (match x, y with
    | .non, .ref a => ∃ ps, toPS S (.ref a) = some (.list ps) ∧ SeqAt.shaped (.list ps) = true ∧ Q (ps.any fun z => PyData.eqv z .none) S
    | _, _ => False)
  | .nin => (match x, y with
    | .str c, .str z => ∃ n, c = ⟨#[n]⟩ ∧ Q (!decide (n ∈ z.cps.toList)) S
    | x, .tup l => flatD x = true ∧ l.all flatD = true ∧ Q (!inList x l) S
    | x, .ref a => (match S a with
      | some (.lst l) => flatD x = true ∧ l.all flatD = true ∧ Q (!inList x l) S
      | some (.dic kvs) => ∃ k, keyD x = some k ∧ Q (!(kget kvs k).isSome) S
      | some (.dicF kvs _) => ∃ k, keyD x = some k ∧ Q (!(kget kvs k).isSome) S
      | _ => False)
    | _, _ => False)
def wdl (f : D → D → Sta → (Sta → Prop) → Prop) (h : List (Addr × MO)) : List D → List D → Sta → (Sta → Prop) → Prop
  | [], [], S, Q => Held h S ∧ Q S
  | x :: xs, y :: ys, S, Q => Held h S ∧ f x y S fun S' => wdl f h xs ys S' Q
  | _, _, _, _ => False
def wdp (C : Orc) : Nat → D → D → Sta → (Sta → Prop) → Prop
  | 0, _, _, _, _ => False
  | n + 1, x, y, S, Q => (x = y ∧ flatD x = true ∧ Q S) ∨ (∃ a, x = .ref a ∧ y = .ref a ∧ Q S) ∨
      (∃ a b xs ys, x = .ref a ∧ y = .ref b ∧ a ≠ b ∧ S a = some (.lst xs) ∧ S b = some (.lst ys) ∧ xs.length = ys.length ∧ wdl (wdp C n) [(a, .lst xs), (b, .lst ys)] xs ys S Q) ∨
      (∃ xs ys, x = .tup xs ∧ y = .tup ys ∧ xs.length = ys.length ∧ wdl (wdp C n) [] xs ys S Q) ∨
      (∃ a b c fs, 16 < n ∧ x = .ref a ∧ y = .ref b ∧ a ≠ b ∧ S a = some (.ins c fs) ∧ knD S (.ref b) = true ∧ C (mth c mEq) [.ref a, .ref b] S (fun r S' => r = .bl true ∧ Q S') fun _ _ => False)
def wdL (C : Orc) (x y : D) (S : Sta) (Q : Sta → Prop) : Prop := ∃ a b xs ys, x = .ref a ∧ y = .ref b ∧ a ≠ b ∧ S a = some (.lst xs) ∧ S b = some (.lst ys) ∧ xs.length = ys.length ∧ wdl (wdp C 19) [(a, .lst xs), (b, .lst ys)] xs ys S Q
def coD (ne : Bool) : Co := if ne then .ne else .eq
def wix (x i : D) (S : Sta) (Q : K) : Prop := match x with
  | .tup l => (match i with | .int k => ∃ d, L2.atI l k = some d ∧ Q d S | _ => False)
  | .lis l => (match i with | .int k => ∃ d, L2.atI l k = some d ∧ Q d S | _ => False)
  | .str z => (match i with | .int k => z.length ≤ sizeLine ∧ ∃ n, L2.atI z.cps.toList k = some n ∧ Q (.str ⟨#[n]⟩) S | _ => False)
  | .ref a => (match S a with
    | some (.lst l) => (match i with | .int k => ∃ d, L2.atI l k = some d ∧ Q d S | _ => False)
    | some (.dic kvs) => ∃ k d, keyD i = some k ∧ kget kvs k = some d ∧ Q d S
    | some (.dicF kvs _) => ∃ k d, keyD i = some k ∧ kget kvs k = some d ∧ Q d S
    | _ => False)
  | _ => False
def wixM (x i : D) (S : Sta) (Q : K) : Prop := match x with
  | .ref _ => wix x i S Q
  | _ => False
def wsetix (x i d : D) (S : Sta) (Q : Sta → Prop) : Prop := match x with
  | .ref a => (match S a with
    | some (.lst l) => (match i with | .int k => ∃ j, L2.ixN l.length k = some j ∧ Q (ups S a (.lst (l.set j d))) | _ => False)
    | some (.dic kvs) => kvs.length < sizeLine ∧ ∃ k, keyD i = some k ∧ Q (ups S a (.dic (kput kvs k d)))
    | _ => False)
  | _ => False
def wsl (x : D) (l h : Option Int) (S : Sta) (Q : K) : Prop := match x with
  | .tup xs => Q (.tup (cutD xs l h)) S
  | .lis xs => ∀ p, S p = none → Q (.ref p) (ups S p (.lst (cutD xs l h)))
  | .str z => z.length ≤ sizeLine ∧ Q (.str (L2.cutS z l h)) S
  | .ref a => (match S a with
    | some (.lst xs) => ∀ p, S p = none → Q (.ref p) (ups S p (.lst (cutD xs l h)))
    | _ => False)
  | _ => False
def wattr (x : D) (f : Nat) (S : Sta) (Q : K) : Prop := match x with
  | .ref a => (match S a with
    | some (.ins _ fs) => ∃ d, fget fs f = some d ∧ Q d S
    | _ => False)
  | .exc _ fs ds => ∃ d, (fs.zip ds).lookup f = some d ∧ Q d S
  | _ => False
def wsetattr (x : D) (f : Nat) (d : D) (S : Sta) (Q : Sta → Prop) : Prop := match x with
  | .ref a => (match S a with
    | some (.ins c fs) => fs.length < 1000 ∧ Q (ups S a (.ins c (fput f d fs)))
    | _ => False)
  | _ => False
def intsOf : List D → Option (List Int)
  | [] => some []
  | .int i :: r => (intsOf r).map (i :: ·)
  | _ => none
def bsOf : List D → Option (List Bool)
  | [] => some []
  | .bl b :: r => (bsOf r).map (b :: ·)
  | _ => none
def strsOf : List D → Option (List Str)
  | [] => some []
  | .str s :: r => (strsOf r).map (s :: ·)
  | _ => none
def maxI : List Int → Int
  | [] => 0
  | [a] => a
  | a :: r => max a (maxI r)
def minI : List Int → Int
  | [] => 0
  | [a] => a
  | a :: r => min a (minI r)
def insI (x : Int) : List Int → List Int
  | [] => [x]
  | a :: r => if x ≤ a then x :: a :: r else a :: insI x r
def sortI : List Int → List Int
  | [] => []
  | a :: r => insI a (sortI r)
def strLe (x y : Str) : Bool := !decide (y.cps.toList < x.cps.toList)
def insS (x : Str) : List Str → List Str
  | [] => [x]
  | a :: r => if strLe x a then x :: a :: r else a :: insS x r
def sortS : List Str → List Str
  | [] => []
  | a :: r => insS a (sortS r)
def dedupS : List Str → List Str
  | [] => []
  | a :: r => let t := dedupS r; if t.contains a then t else a :: t
def itemsK (S : Sta) (d : D) : Option (List D) := match d with
  | .ref a => (match S a with
    | some (.lst xs) => some xs
    | some (.dic kvs) => some (kvs.map fun p => dKey p.1)
    | some (.dicF kvs _) => some (kvs.map fun p => dKey p.1)
    | _ => none)
  | .tup l => some l
  | .lis l => some l
  | _ => none
def itemsR (S : Sta) (d : D) : Option (List D) := match d with
  | .ref _ => itemsK S d
  | .lis l => some l
  | _ => none
def itemsL (S : Sta) : D → Option (List D)
  | .lis l => some l
  | .ref a => match S a with
    | some (.lst xs) => some xs
    | _ => none
  | _ => none
def itemsT (S : Sta) : D → Option (List D)
  | .tup l => some l
  | d => itemsL S d
def pairsOf : List D → Option (List (Key × D))
  | [] => some []
  | .tup [k, d] :: r => (match keyD k, pairsOf r with
    | some k, some t => some ((k, d) :: t)
    | _, _ => none)
  | _ => none
def kmerge (kvs more : List (Key × D)) : List (Key × D) := more.foldl (fun acc p => kput acc p.1 p.2) kvs
def wb1 (C : Orc) (b : B1) (d : D) (S : Sta) (Q : K) : Prop := match b with
  | .len => (match d with
    | .str s => s.length ≤ sizeLine ∧ Q (.int s.length) S
    | .tup l => Q (.int l.length) S
    | .lis l => Q (.int l.length) S
    | .ref a => (match S a with
      | some (.lst xs) => Q (.int xs.length) S
      | some (.dic kvs) => Q (.int kvs.length) S
      | some (.ins c _) => C (mth c mLen) [d] S (fun r S' => (∃ n : Nat, n < 9223372036854775808 ∧ r = .int n) ∧ Q r S') fun _ _ => False
      | _ => False)
    | _ => False)
  | .int => (match d with
    | .int i => Q (.int i) S
    | .bl b => Q (.int (if b then 1 else 0)) S
    | .str s => ∃ n, PySem.intText? s = some n ∧ s.length ≤ 640 ∧ Q (.int n) S
    | _ => False)
  | .str => (match d with
    | .int i => i.natAbs.log2 < 1920 ∧ Q (.str (toString i)) S
    | .str s => s.length ≤ sizeLine ∧ Q (.str s) S
    | .non => Q (.str (Str.ofString "None")) S
    | .ref a => (match S a with
      | some (.ins c _) => C (mth c mStr) [d] S (fun r S' => (∃ s, r = .str s) ∧ Q r S') fun _ _ => False
      | _ => False)
    | _ => False)
  | .repr => (match d with
    | .ref a => (match S a with
      | some (.ins c _) => C (mth c mRepr) [d] S (fun r S' => (∃ s, r = .str s) ∧ Q r S') fun _ _ => False
      | _ => False)
    | _ => False)
  | .list => ∃ xs, itemsK S d = some xs ∧ ∀ p, S p = none → Q (.ref p) (ups S p (.lst xs))
  | .tuple => ∃ xs, itemsT S d = some xs ∧ Q (.tup xs) S
  | .sum => ∃ xs ns, itemsL S d = some xs ∧ intsOf xs = some ns ∧ Q (.int ns.sum) S
  | .max => ∃ xs ns, itemsL S d = some xs ∧ intsOf xs = some ns ∧ 0 < ns.length ∧ Q (.int (maxI ns)) S
  | .min => ∃ xs ns, itemsL S d = some xs ∧ intsOf xs = some ns ∧ 0 < ns.length ∧ Q (.int (minI ns)) S
  | .minD => ∃ xs ns, itemsL S d = some xs ∧ intsOf xs = some ns ∧ Q (match ns with | [] => .non | _ => .int (minI ns)) S
  | .all => ∃ xs bs, itemsL S d = some xs ∧ bsOf xs = some bs ∧ Q (.bl (bs.all id)) S
  | .any => ∃ xs bs, itemsL S d = some xs ∧ bsOf xs = some bs ∧ Q (.bl (bs.any id)) S
  | .sorted => ∃ xs, itemsR S d = some xs ∧ xs.length ≤ sizeLine ∧ ((∃ ns, intsOf xs = some ns ∧ ∀ p, S p = none → Q (.ref p) (ups S p (.lst ((sortI ns).map .int)))) ∨
      (∃ ss, strsOf xs = some ss ∧ ∀ p, S p = none → Q (.ref p) (ups S p (.lst ((sortS ss).map .str)))))
  | .dict => (match d with
    | .ref a => (match S a with
      | some (.lst xs) => ∃ ps, pairsOf xs = some ps ∧ ∀ p, S p = none → Q (.ref p) (ups S p (.dic (kmerge [] ps)))
      | some (.dic kvs) => ∀ p, S p = none → Q (.ref p) (ups S p (.dic kvs))
      | some (.dicF kvs _) => ∀ p, S p = none → Q (.ref p) (ups S p (.dic kvs))
      | _ => False)
    | _ => False)
  | .vals => (match d with
    | .ref a => (match S a with
      | some (.dic kvs) => ∀ p, S p = none → Q (.ref p) (ups S p (.lst (kvs.map (·.2))))
      | some (.dicF kvs _) => ∀ p, S p = none → Q (.ref p) (ups S p (.lst (kvs.map (·.2))))
      | _ => False)
    | _ => False)
  | .setlen => ∃ xs ss, itemsT S d = some xs ∧ strsOf xs = some ss ∧ ss.length < 4000 ∧ Q (.int (dedupS ss).length) S
  | .setsorted => ∃ xs ss, itemsT S d = some xs ∧ strsOf xs = some ss ∧ ss.length < 4000 ∧ ∀ p, S p = none → Q (.ref p) (ups S p (.lst ((sortS (dedupS ss)).map .str)))
  | .bool => (match d with
    | .int i => Q (.bl (i != 0)) S
    | .bl b => Q (.bl b) S
    | .ref a => (match S a with
      | some (.ins c _) => C (mth c mLen) [d] S (fun r S' => ∃ n : Nat, n < 9223372036854775808 ∧ r = .int n ∧ Q (.bl (n != 0)) S') fun _ _ => False
      | _ => False)
    | _ => False)
def wb2 (b : B2) (x y : D) (S : Sta) (Q : K) : Prop := match b, x, y with
  | .max, .int i, .int j => Q (.int (max i j)) S
  | .min, .int i, .int j => Q (.int (min i j)) S
  | _, _, _ => False
inductive Ty where | list | dict | str
def tyD (S : Sta) : D → Option Ty
  | .str _ => some .str
  | .ref a => match S a with
    | some (.lst _) => some .list
    | some (.dic _) => some .dict
    | _ => none
  | _ => none
def bmHas : Bm → Ty → Bool
  | .append, .list => true | .count, .list => true | .extend, .list => true | .pop, .list => true | .clear, .list => true
  | .pop, .dict => true | .get, .dict => true | .setd, .dict => true
  | .join, .str => true | .split, .str => true | .ends, .str => true | .upper, .str => true | .rstrip, .str => true
  | _, _ => false
def wbm (m : Bm) (t : Ty) (o : D) (as : List D) (S : Sta) (Q : K) : Prop := match m with
  | .append => (match t, o, as with
    | .list, .ref a, [d] => (match S a with
      | some (.lst xs) => xs.length < sizeLine ∧ Q .non (ups S a (.lst (xs ++ [d])))
      | _ => False)
    | _, _, _ => False)
  | .count => (match t, o, as with
    | .list, .ref a, [.str k] => (match S a with
      | some (.lst xs) => ∃ ss, strsOf xs = some ss ∧ Q (.int (ss.countP fun y => y == k : Nat)) S
      | _ => False)
    | _, _, _ => False)
  | .extend => (match t, o, as with
    | .list, .ref a, [.ref b] => (match S a, S b with
      | some (.lst xs), some (.lst ys) => xs.length + ys.length ≤ sizeLine ∧ Q .non (ups S a (.lst (xs ++ ys)))
      | _, _ => False)
    | .list, .ref a, [.tup ys] => (match S a with
      | some (.lst xs) => xs.length + ys.length ≤ sizeLine ∧ Q .non (ups S a (.lst (xs ++ ys)))
      | _ => False)
    | _, _, _ => False)
  | .pop => (match t, o, as with
    | .list, .ref a, [] => (match S a with
      | some (.lst xs) => ∃ d, xs[xs.length - 1]? = some d ∧ Q d (ups S a (.lst xs.dropLast))
      | _ => False)
    | .dict, .ref a, [k] => (match S a with
      | some (.dic kvs) => ∃ k' d, keyD k = some k' ∧ kget kvs k' = some d ∧ Q d (ups S a (.dic (kdel kvs k')))
      | _ => False)
    | .dict, .ref a, [k, z] => (match S a with
      | some (.dic kvs) => ∃ k', keyD k = some k' ∧ Q ((kget kvs k').getD z) (ups S a (.dic (kdel kvs k')))
      | _ => False)
    | _, _, _ => False)
  | .get => (match t, o, as with
    | .dict, .ref a, [k, z] => (match S a with
      | some (.dic kvs) => ∃ k', keyD k = some k' ∧ Q ((kget kvs k').getD z) S
      | some (.dicF kvs _) => ∃ k', keyD k = some k' ∧ Q ((kget kvs k').getD z) S
      | _ => False)
    | _, _, _ => False)
  | .setd => (match t, o, as with
    | .dict, .ref a, [k, z] => (match S a with
      | some (.dic kvs) => kvs.length < sizeLine ∧ ∃ k', keyD k = some k' ∧ Q ((kget kvs k').getD z) (ups S a (.dic (if (kget kvs k').isSome then kvs else kput kvs k' z)))
      | _ => False)
    | _, _, _ => False)
  | .join => (match t, o, as with
    | .str, .str z, [d] => ∃ xs ss, itemsT S d = some xs ∧ strsOf xs = some ss ∧ (ss.map (·.length)).sum + ss.length * z.length ≤ 16777216 ∧ Q (.str (Txt.join z ss)) S
    | _, _, _ => False)
  | .split => (match t, o, as with
    | .str, .str z, [.str y] => (y.length == 0) = false ∧ z.length + 2 ≤ sizeLine ∧ ∀ p, S p = none → Q (.ref p) (ups S p (.lst ((Txt.split z y).map .str)))
    | _, _, _ => False)
  | .ends => (match t, o, as with
    | .str, .str z, [.str y] => Q (.bl (Txt.endswith z y)) S
    | _, _, _ => False)
  | .clear => (match t, o, as with
    | .list, .ref a, [] => (match S a with
      | some (.lst xs) => Q .non (ups S a (.lst []))
      | _ => False)
    | _, _, _ => False)
  | .upper => (match t, o, as with
    | .str, .str z, [] => z.length ≤ 5592405 ∧ Q (.str (Txt.upper z)) S
    | _, _, _ => False)
  | .rstrip => (match t, o, as with
    | .str, .str z, [.str y] => z.length ≤ sizeLine ∧ Q (.str (Txt.rstripChars z y)) S
    | _, _, _ => False)
  | .replace => False
def isKd (S : Sta) (d : D) : Kd → Option Bool
  | .int => (match d with
    | .int _ => some true | .bl _ => some true | .non => some false | .str _ => some false | .tup _ => some false
    | .ref a => (match S a with | some (.lst _) => some false | some (.dic _) => some false | _ => none)
    | _ => none)
  | .str => (match d with
    | .str _ => some true | .int _ => some false | .bl _ => some false | .non => some false | .tup _ => some false
    | .ref a => (match S a with | some (.lst _) => some false | some (.dic _) => some false | _ => none)
    | _ => none)
  | .bool => (match d with
    | .bl _ => some true | .int _ => some false | .str _ => some false | .non => some false | .tup _ => some false
    | .ref a => (match S a with | some (.lst _) => some false | some (.dic _) => some false | _ => none)
    | _ => none)
  | .list => (match d with
    | .non => some false | .bl _ => some false | .int _ => some false | .str _ => some false | .tup _ => some false
    | .ref a => (match S a with | some (.lst _) => some true | some (.dic _) => some false | _ => none)
    | _ => none)
  | .tuple => (match d with
    | .tup _ => some true | .non => some false | .bl _ => some false | .int _ => some false | .str _ => some false
    | .ref a => (match S a with | some (.lst _) => some false | some (.dic _) => some false | _ => none)
    | _ => none)
  | .own cs => (match d with
    | .non => some false | .bl _ => some false | .int _ => some false | .str _ => some false | .tup _ => some false
    | .ref a => (match S a with | some (.lst _) => some false | some (.dic _) => some false | some (.ins c _) => some (cs.contains c) | _ => none)
    | _ => none)
def isKds (S : Sta) (d : D) : List Kd → Option Bool
  | [] => some false
  | k :: r => match isKd S d k with
    | some true => some true
    | some false => isKds S d r
    | none => none
def placeL (l : List (Sum Nat D)) (ds : List D) : List D := l.map fun
  | .inl i => ds.getD i .non
  | .inr d => d
def place (sh : Shp) (ds : List D) : List D := match sh with
  | .app es => ds ++ es
  | .perm l => placeL l ds
def wipeD (ρ : Env) : List Nat → Env
  | [] => ρ
  | v :: vs => (wipeD ρ vs).set v none
def setN (ρ : Env) : List Nat → List D → Env
  | i :: is, d :: ds => setN (ρ.set i (some d)) is ds
  | _, _ => ρ
def wtgN (is : List Nat) (d : D) (ρ : Env) (Q : Env → Prop) : Prop := match is with
  | [i] => Q (ρ.set i (some d))
  | is => (match d with
    | .tup l => l.length = is.length ∧ Q (setN ρ is l)
    | _ => False)
def wcomp (h : List (Addr × MO)) (f : D → Sta → (Option D → Sta → Prop) → Prop) : List D → List D → Sta → (List D → Sta → Prop) → Prop
  | [], acc, S, Q => Held h S ∧ Q acc S
  | x :: xs, acc, S, Q => Held h S ∧ f x S fun o S' => match o with
    | some d => acc.length < sizeLine ∧ wcomp h f xs (acc ++ [d]) S' Q
    | none => wcomp h f xs acc S' Q
def both (S : Sta) (x y : D) (xs ys : List D) : Prop := (itemsL S x = some xs ∧ itemsL S y = some ys) ∨ (x = .tup xs ∧ y = .tup ys)
def enumF (st : Int) : List D → List D
  | [] => []
  | x :: r => .tup [.int st, x] :: enumF (st + 1) r
def sgD (z : Str) : List D := z.cps.toList.map fun c => .str ⟨#[c]⟩
def zipD : List D → List D → List D
  | x :: xs, y :: ys => .tup [x, y] :: zipD xs ys
  | _, _ => []
def endD (e : E) (d : D) (P : Option Int → Prop) : Prop := match e with
  | .nil => P none
  | _ => match d with
    | .int i => P (some i)
    | _ => False
def fPart (x : D) (acc : Str) (S : Sta) (Q : Str → Sta → Prop) : Prop := match x with
  | .str s => s.length ≤ sizeLine ∧ (acc.length + s.length ≤ sizeLine) ∧ Q (acc ++ s) S
  | .int i => i.natAbs.log2 < 1920 ∧ (acc.length + (Str.ofString (toString i)).length ≤ sizeLine) ∧ Q (acc ++ Str.ofString (toString i)) S
  | _ => False
def hotK (f : Nat) : Nat := if f = 200 then 1 else if f = 213 then 2 else 0
def hotV (k : Nat) (ss : List Str) (S : Sta) (Q : K) : Prop := match k with
  | 0 => ∀ p, S p = none → Q (.ref p) (ups S p (.lst (ss.map .str)))
  | 1 => Q (.str (ss.headD Str.empty)) S
  | _ => ∀ p, S p = none → Q (.ref p) (ups S p (.lst (ss.map fun s => .bl (s.length != 0))))
@[simp] theorem hotV_116 {ss : List Str} {S : Sta} {Q : K} : hotV (hotK 116) ss S Q = ∀ p, S p = none → Q (.ref p) (ups S p (.lst (ss.map .str))) := rfl
@[simp] theorem hotV_200 {ss : List Str} {S : Sta} {Q : K} : hotV (hotK 200) ss S Q = Q (.str (ss.headD Str.empty)) S := rfl
@[simp] theorem hotV_213 {ss : List Str} {S : Sta} {Q : K} : hotV (hotK 213) ss S Q = ∀ p, S p = none → Q (.ref p) (ups S p (.lst (ss.map fun s => .bl (s.length != 0)))) := rfl
def keysD (k : Nat) : List D → Option (List Int)
  | [] => some []
  | .tup l :: r => match l[k]?, keysD k r with
    | some (.int n), some ns => some (n :: ns)
    | _, _ => none
  | _ :: _ => none
def bestK : List (D × Int) → Option (D × Int) := List.foldl (fun acc p => match acc with
  | none => some p
  | some q => if q.2 < p.2 then some p else some q) none
def maxK (xs : List D) (ns : List Int) : D := match bestK (xs.zip ns) with
  | none => .non
  | some p => p.1
def toPn : Nat → Sta → D → Option PyData
  | 0, _, _ => none
  | n + 1, S, x => match x with
    | .ref a => (match S a with
      | some (.lst xs) => (xs.foldr (fun y acc => match toPn n S y, acc with
        | some p, some ps => some (p :: ps)
        | _, _ => none) (some [])).map .list
      | _ => none)
    | .tup l => (l.foldr (fun y acc => match toPn n S y, acc with
        | some p, some ps => some (p :: ps)
        | _, _ => none) (some [])).map .tuple
    | .non => some .none
    | .bl b => some (.bool b)
    | .int i => some (.int i)
    | .str s => some (.str s)
    | _ => none
def rplL (c : Nat) (b : List Nat) : List Nat → List Nat
  | [] => []
  | x :: r => if x = c then b ++ r else x :: rplL c b r
def rplS (c : Nat) (b z : Str) : Str := ⟨(rplL c b.cps.toList z.cps.toList).toArray⟩
mutual
def wE (C : Orc) (X : K) : E → Env → Sta → K → Prop
  | .v i, ρ, S, Q => ∃ d, ρ[i]? = some (some d) ∧ Q d S
  | .c d, _, S, Q => Q d S
  | .bin o a b, ρ, S, Q => wE C X a ρ S fun x S1 => wE C X b ρ S1 fun y S2 => wbin o x y S2 Q
  | .neg a, ρ, S, Q => wE C X a ρ S fun x S1 => match x with
    | .int i => Q (.int (-i)) S1
    | _ => False
  | .not a, ρ, S, Q => wE C X a ρ S fun x S1 => wtru S1 x fun b => Q (.bl (!b)) S1
  | .and a b, ρ, S, Q => wE C X a ρ S fun x S1 => wtru S1 x fun c => if c = true then wE C X b ρ S1 Q else Q x S1
  | .or a b, ρ, S, Q => wE C X a ρ S fun x S1 => wtru S1 x fun c => if c = true then Q x S1 else wE C X b ρ S1 Q
  | .cmp o a b, ρ, S, Q => wE C X a ρ S fun x S1 => wE C X b ρ S1 fun y S2 => wcmp C o x y S2 fun r S3 => Q (.bl r) S3
  | .chn a o1 b o2 c, ρ, S, Q => wE C X a ρ S fun x S1 => wE C X b ρ S1 fun y S2 => wcmp C o1 x y S2 fun r S3 => if r = true then wE C X c ρ S3 fun z S4 => wcmp C o2 y z S4 fun r S5 => Q (.bl r) S5 else Q (.bl false) S3
  | .chn3 a o1 b o2 c o3 d, ρ, S, Q => wE C X a ρ S fun x S1 => wE C X b ρ S1 fun y S2 => wcmp C o1 x y S2 fun r S3 => if r = true then wE C X c ρ S3 fun z S4 => wcmp C o2 y z S4 fun r S5 => if r = true then wE C X d ρ S5 fun u S6 => wcmp C o3 z u S6 fun r S7 => Q (.bl r) S7 else Q (.bl false) S5 else Q (.bl false) S3
  | .cmpD ne a b, ρ, S, Q => wE C X a ρ S fun x S1 => wE C X b ρ S1 fun y S2 => (wcmp C (coD ne) x y S2 fun r S3 => Q (.bl r) S3) ∨ wdL C x y S2 fun S3 => Q (.bl (!ne)) S3
  | .ite t a b, ρ, S, Q => wE C X t ρ S fun x S1 => wtru S1 x fun c => if c = true then wE C X a ρ S1 Q else wE C X b ρ S1 Q
  | .tup es, ρ, S, Q => wEs C X es ρ S fun ds S1 => ds.length ≤ sizeLine ∧ Q (.tup ds) S1
  | .lst es, ρ, S, Q => wEs C X es ρ S fun ds S1 => ds.length ≤ sizeLine ∧ ∀ p, S1 p = none → Q (.ref p) (ups S1 p (.lst ds))
  | .dct es, ρ, S, Q => wEs C X es ρ S fun ds S1 => ∃ kvs : List (Key × D), ds = kvs.flatMap (fun p => [dKey p.1, p.2]) ∧ kvs.length ≤ 15 ∧ ∀ p, S1 p = none → Q (.ref p) (ups S1 p (.dic (kmerge [] kvs)))
  | .ix a i, ρ, S, Q => wE C X a ρ S fun x S1 => wE C X i ρ S1 fun y S2 => wix x y S2 Q
  | .gix kvs i, ρ, S, Q => wE C X i ρ S fun y S1 => ∃ k d, y = .str k ∧ kvs.lookup k = some d ∧ Q d S1
  | .gget kvs i z, ρ, S, Q => wE C X i ρ S fun y S1 => wE C X z ρ S1 fun u S2 => ∃ k, y = .str k ∧ Q ((kvs.lookup k).getD u) S2
  | .sl a lo hi, ρ, S, Q => wE C X a ρ S fun x S1 => wE C X lo ρ S1 fun l S2 => endD lo l fun l' => wE C X hi ρ S2 fun h S3 => endD hi h fun h' => wsl x l' h' S3 Q
  | .at a f, ρ, S, Q => wE C X a ρ S fun x S1 => wattr x f S1 Q
  | .call f sh es, ρ, S, Q => wEs C X es ρ S fun ds S1 => C f (place sh ds) S1 Q X
  | .callk f sh es ks, ρ, S, Q => wEs C X es ρ S fun ds S1 => wEs C X ks ρ S1 fun zs S2 => ds.length = es.len ∧ zs.length = ks.len ∧ C f (place sh (ds ++ zs)) S2 Q X
  | .callv fs g es, ρ, S, Q => wE C X g ρ S fun x S1 => ∃ f, f ∈ fs ∧ x = .fn f ∧ wEs C X es ρ S1 fun ds S2 => C f ds S2 Q X
  | .new c f sh es ks, ρ, S, Q => wEs C X es ρ S fun ds S1 => wEs C X ks ρ S1 fun zs S2 => ds.length = es.len ∧ zs.length = ks.len ∧ ∀ p, S2 p = none → C f (.ref p :: place sh (ds ++ zs)) (ups S2 p (.ins c [])) (fun r S3 => r = .non ∧ Q (.ref p) S3) fun _ _ => False
  | .meth o m cs es ks, ρ, S, Q => wE C X o ρ S fun x S1 => match x with
    | .ref a => (match S1 a with
      | some (.ins c fs) => ∃ sh, cs.lookup c = some sh ∧ wEs C X es ρ S1 fun ds S2 => wEs C X ks ρ S2 fun zs S3 => ds.length = es.len ∧ zs.length = ks.len ∧ C (mth c m) (x :: place sh (ds ++ zs)) S3 Q X
      | _ => False)
    | _ => False
  | .b1 b a, ρ, S, Q => wE C X a ρ S fun x S1 => wb1 C b x S1 Q
  | .b1s b a, ρ, S, Q => wE C X a ρ S fun x S1 => wb1 C b x S1 Q
  | .b2 b a c, ρ, S, Q => wE C X a ρ S fun x S1 => wE C X c ρ S1 fun y S2 => wb2 b x y S2 Q
  | .bm m o es, ρ, S, Q => wE C X o ρ S fun x S1 => ∃ t, tyD S1 x = some t ∧ bmHas m t = true ∧ wEs C X es ρ S1 fun ds S2 => wbm m t x ds S2 Q
  | .lc elt own tg it cond, ρ, S, Q => wIt C X it ρ S fun h xs S1 =>
      wcomp h (fun x S2 R => wtgN tg x (wipeD ρ own) fun ρ1 => wE C (fun _ _ => False) cond ρ1 S2 fun y S3 => wtru S3 y fun b => if b = true then wE C (fun _ _ => False) elt ρ1 S3 fun d S4 => R (some d) S4 else R none S3) xs [] S1
        fun ds S5 => ∀ p, S5 p = none → Q (.ref p) (ups S5 p (.lst ds))
  | .lock e, ρ, S, Q => ∃ a kvs, S a = some (.dic kvs) ∧ ∀ fu, wE C X e ρ (ups S a (.dicF kvs fu)) fun d S1 => S1 a = some (.dicF kvs fu) ∧ Q d (ups S1 a (.dic kvs))
  | .isi e ks, ρ, S, Q => wE C X e ρ S fun x S1 => ∃ b, isKds S1 x ks = some b ∧ Q (.bl b) S1
  | .xis i l, ρ, S, Q => ∃ c fs ds, ρ[i]? = some (some (.exc c fs ds)) ∧ ∃ b, l.lookup c = some b ∧ Q (.bl b) S
  | .xfl i f, ρ, S, Q => ∃ c fs ds, ρ[i]? = some (some (.exc c fs ds)) ∧ ∃ y, (fs.zip ds).lookup f = some y ∧ Q y S
  | .hot f i l, ρ, S, Q => ∃ c fs ds, ρ[i]? = some (some (.exc c fs ds)) ∧ ∃ ss : List Str, l.lookup c = some ss ∧ hotV (hotK f) ss S Q
  | .fs es, ρ, S, Q => wFs C X es Str.empty ρ S fun s S1 => Q (.str s) S1
  | .lcx elt own tg it cond, ρ, S, Q => wIt C X it ρ S fun h xs S1 =>
      wcomp h (fun x S2 R => wtgN tg x (wipeD ρ own) fun ρ1 => wE C (fun _ _ => False) cond ρ1 S2 fun y S3 => wtru S3 y fun b => if b = true then wE C X elt ρ1 S3 fun d S4 => R (some d) S4 else R none S3) xs [] S1
        fun ds S5 => ∀ p, S5 p = none → Q (.ref p) (ups S5 p (.lst ds))
  | .mxk a k, ρ, S, Q => wE C X a ρ S fun x S1 => ∃ xs ns, itemsL S1 x = some xs ∧ keysD k xs = some ns ∧ xs.length < 16777216 ∧ Q (maxK xs ns) S1
  | .mkf c fs src es f, ρ, S, Q => wEs C X es ρ S fun ds S1 => ds.length = es.len ∧ ∃ y, (fs.zip (placeL src ds)).lookup f = some y ∧ Q y S1
  | .shw a, ρ, S, Q => wE C X a ρ S fun x S1 => ∃ d, toPn 20 S1 x = some d ∧ PyData.showable d = true ∧ d.shown.length ≤ sizeLine ∧ Q (.str d.shown) S1
  | .callG f sh es, ρ, S, Q => wEs C X es ρ S fun ds S1 => C f (place sh ds) S1 Q X
  | .nev, _, _, _ => False
  | .nil, _, S, Q => Q .non S
def wEs (C : Orc) (X : K) : Es → Env → Sta → (List D → Sta → Prop) → Prop
  | .nil, _, S, Q => Q [] S
  | .cons a r, ρ, S, Q => wE C X a ρ S fun x S1 => wEs C X r ρ S1 fun ds S2 => Q (x :: ds) S2
def wFs (C : Orc) (X : K) : Es → Str → Env → Sta → (Str → Sta → Prop) → Prop
  | .nil, acc, _, S, Q => Q acc S
  | .cons a r, acc, ρ, S, Q => wE C X a ρ S fun x S1 => fPart x acc S1 fun acc' S2 => wFs C X r acc' ρ S2 Q
def wIt (C : Orc) (X : K) : It → Env → Sta → (List (Addr × MO) → List D → Sta → Prop) → Prop
  | .seq e, ρ, S, Q => wE C X e ρ S fun x S1 => ∃ xs, items S1 x = some xs ∧ Q (holds S1 x) xs S1
  | .rng e, ρ, S, Q => wE C X e ρ S fun x S1 => match x with
    | .int n => -(2 ^ 62) ≤ n ∧ n < 2 ^ 62 ∧ Q [] ((List.range n.toNat).map fun (i : Nat) => .int i) S1
    | _ => False
  | .enm e st, ρ, S, Q => wE C X e ρ S fun x S1 => ∃ xs, itemsT S1 x = some xs ∧ Q (holds S1 x) (enumF st xs) S1
  | .zip a b str, ρ, S, Q => wE C X a ρ S fun x S1 => wE C X b ρ S1 fun y S2 => (∃ xs ys, both S2 x y xs ys ∧ str = false ∧ Q (holds S2 x ++ holds S2 y) (zipD xs ys) S2) ∨ ∃ z l, x = .str z ∧ y = .tup l ∧ z.length = l.length ∧ str = true ∧ Q [] (zipD (sgD z) l) S2
  | .zipT a b, ρ, S, Q => wE C X a ρ S fun x S1 => wE C X b ρ S1 fun y S2 => ∃ z l, x = .str z ∧ itemsL S2 y = some l ∧ z.length ≤ l.length ∧ Q (holds S2 y) (zipD (sgD z) l) S2
  | .zipU a b, ρ, S, Q => wE C X a ρ S fun x S1 => wE C X b ρ S1 fun y S2 => ∃ z l, x = .str z ∧ itemsL S2 y = some l ∧ z.length = l.length ∧ Q (holds S2 y) (zipD (sgD z) l) S2
  | .dks e, ρ, S, Q => wE C X e ρ S fun x S1 => ∃ a kvs fu, x = .ref a ∧ S1 a = some (.dicF kvs fu) ∧ Q [(a, .dicF kvs fu)] (kvs.map fun p => dKey p.1) S1
  | .dvs e, ρ, S, Q => wE C X e ρ S fun x S1 => ∃ a kvs fu, x = .ref a ∧ S1 a = some (.dicF kvs fu) ∧ Q [(a, .dicF kvs fu)] (kvs.map (·.2)) S1
end
structure Ends where
  nx : Env → Sta → Prop
  rt : K
  bk : Env → Sta → Prop := fun _ _ => False
  ct : Env → Sta → Prop := fun _ _ => False
  ex : D → Env → Sta → Prop
def wTg (C : Orc) (X : Env → K) (t : Tg) (d : D) (ρ : Env) (S : Sta) (Q : Env → Sta → Prop) : Prop := match t with
  | .n is => wtgN is d ρ fun ρ1 => Q ρ1 S
  | .ix a i => wE C (X ρ) a ρ S fun x S1 => wE C (X ρ) i ρ S1 fun y S2 => wsetix x y d S2 fun S3 => Q ρ S3
  | .at a f => wE C (X ρ) a ρ S fun x S1 => wsetattr x f d S1 fun S2 => Q ρ S2
  | .vix j a i => ∃ d1 d2, d = .tup [d1, d2] ∧ wE C (X (ρ.set j (some d1))) a (ρ.set j (some d1)) S fun x S1 => wE C (X (ρ.set j (some d1))) i (ρ.set j (some d1)) S1 fun y S2 => wsetix x y d2 S2 fun S3 => Q (ρ.set j (some d1)) S3
def wfor (h : List (Addr × MO)) (f : D → Env → Sta → (Env → Sta → Prop) → Prop) : List D → Env → Sta → (Env → Sta → Prop) → Prop
  | [], ρ, S, Q => Held h S ∧ Q ρ S
  | x :: xs, ρ, S, Q => Held h S ∧ f x ρ S fun ρ' S' => wfor h f xs ρ' S' Q
def noC : Orc := fun _ _ _ _ _ => False
mutual
def wS : Orc → S → Env → Sta → Ends → Prop
  | C, .asg t e, ρ, S, T => wE C (fun x S' => T.ex x ρ S') e ρ S fun d S1 => wTg C (fun ρ x S' => T.ex x ρ S') t d ρ S1 T.nx
  | C, .par i j a b, ρ, S, T => wE C (fun x S' => T.ex x ρ S') a ρ S fun x S1 => wE C (fun x S' => T.ex x ρ S') b ρ S1 fun y S2 => T.nx ((ρ.set i (some x)).set j (some y)) S2
  | C, .asgL is e, ρ, S, T => wE C (fun x S' => T.ex x ρ S') e ρ S fun d S1 => ∃ a xs, d = .ref a ∧ S1 a = some (.lst xs) ∧ xs.length = is.length ∧ T.nx (setN ρ is xs) S1
  | C, .aug o i e, ρ, S, T => ∃ d, ρ[i]? = some (some d) ∧ wE C (fun x S' => T.ex x ρ S') e ρ S fun y S1 => wip o d y S1 fun z S2 => T.nx (ρ.set i (some z)) S2
  | C, .augI o a i e, ρ, S, T => wE C (fun x S' => T.ex x ρ S') a ρ S fun x S1 => wE C (fun x S' => T.ex x ρ S') i ρ S1 fun k S2 => wixM x k S2 fun d S3 => wE C (fun x S' => T.ex x ρ S') e ρ S3 fun y S4 =>
      wip o d y S4 fun z S5 => wsetix x k z S5 fun S6 => T.nx ρ S6
  | C, .augA o a f e, ρ, S, T => wE C (fun x S' => T.ex x ρ S') a ρ S fun x S1 => ∃ r c fs d, x = .ref r ∧ S1 r = some (.ins c fs) ∧ fget fs f = some d ∧ wE C (fun x S' => T.ex x ρ S') e ρ S1 fun y S3 => wip o d y S3 fun z S4 => ∃ fs', S4 r = some (.ins c fs') ∧ fs'.length < 1000 ∧ T.nx ρ (ups S4 r (.ins c (fput f z fs')))
  | C, .ex e, ρ, S, T => wE C (fun x S' => T.ex x ρ S') e ρ S fun _ S1 => T.nx ρ S1
  | C, .ret e, ρ, S, T => wE C (fun x S' => T.ex x ρ S') e ρ S T.rt
  | C, .retN, _, S, T => T.rt .non S
  | C, .ite t a b, ρ, S, T => wE C (fun x S' => T.ex x ρ S') t ρ S fun x S1 => wtru S1 x fun c => if c = true then wB C a ρ S1 T else wB C b ρ S1 T
  | C, .whl t b, ρ, S, T => ∃ I : Nat → Env → Sta → Prop, (∃ m, I m ρ S) ∧ ∀ m ρ S, I m ρ S → wE C (fun x S' => T.ex x ρ S') t ρ S fun x S1 => wtru S1 x fun c =>
      if c = true then wB C b ρ S1 { nx := fun ρ' S' => ∃ m', m' < m ∧ I m' ρ' S', rt := T.rt, bk := T.nx, ct := fun ρ' S' => ∃ m', m' < m ∧ I m' ρ' S', ex := T.ex } else T.nx ρ S1
  | C, .for_ t it b, ρ, S, T => wIt C (fun x S' => T.ex x ρ S') it ρ S fun h xs S1 =>
      wfor h (fun x ρ S R => wTg C (fun ρ y S' => T.ex y ρ S') t x ρ S fun ρ1 S2 => wB C b ρ1 S2 { nx := R, rt := T.rt, bk := T.nx, ct := R, ex := T.ex }) xs ρ S1 T.nx
  | C, .lock s, ρ, S, T => wS C s ρ S T ∨ ∃ a kvs, S a = some (.dic kvs) ∧ ∀ fu, wS C s ρ (ups S a (.dicF kvs fu)) { nx := fun ρ' S' => S' a = some (.dicF kvs fu) ∧ T.nx ρ' (ups S' a (.dic kvs)), rt := fun d S' => S' a = some (.dicF kvs fu) ∧ T.rt d (ups S' a (.dic kvs)), bk := fun ρ' S' => S' a = some (.dicF kvs fu) ∧ T.bk ρ' (ups S' a (.dic kvs)), ct := fun ρ' S' => S' a = some (.dicF kvs fu) ∧ T.ct ρ' (ups S' a (.dic kvs)), ex := T.ex }
  | C, .raise c fs src es _, ρ, S, T => wEs C (fun x S' => T.ex x ρ S') es ρ S fun ds S1 => ds.length = es.len ∧ T.ex (.exc c fs (placeL src ds)) ρ S1
  | C, .try_ b hs, ρ, S, T => wB C b ρ S { nx := T.nx, rt := T.rt, bk := T.bk, ct := T.ct, ex := fun x ρ' S' => wH C hs x ρ' S' T }
  | C, .rpl t i c b, ρ, S, T => wE C (fun x S' => T.ex x ρ S') t ρ S fun x S1 => wtru S1 x fun h => if h = true then ∃ z, ρ[i]? = some (some (.str z)) ∧ z.length + (z.length + 1) * b.length ≤ 16777216 ∧ T.rt (.str (rplS c b z)) S1 else T.nx ρ S1
  | C, .pass, ρ, S, T => T.nx ρ S
  | C, .nev, _, _, _ => False
  | C, .brk, ρ, S, T => T.bk ρ S
  | C, .cont, ρ, S, T => T.ct ρ S
def wB : Orc → Ss → Env → Sta → Ends → Prop
  | _, .nil, ρ, S, T => T.nx ρ S
  | C, .cons s r, ρ, S, T => wS C s ρ S { nx := fun ρ' S' => wB C r ρ' S' T, rt := T.rt, bk := T.bk, ct := T.ct, ex := T.ex }
def wH : Orc → Hs → D → Env → Sta → Ends → Prop
  | _, .nil, x, ρ, S, T => T.ex x ρ S
  | C, .cons cs i b r, x, ρ, S, T => match x with
    | .exc c _ _ => ∃ h, cs.lookup c = some h ∧ if h = true then
        (match i with
        | some i => wB noC b (ρ.set i (some x)) S { nx := fun ρ' S' => T.nx (ρ'.set i none) S', rt := T.rt, bk := fun ρ' S' => T.bk (ρ'.set i none) S', ct := fun ρ' S' => T.ct (ρ'.set i none) S', ex := fun _ _ _ => False }
        | none => wB noC b ρ S { nx := T.nx, rt := T.rt, bk := T.bk, ct := T.ct, ex := fun _ _ _ => False })
      else wH C r x ρ S T
    | _ => False
  | C, .rfr cs i c fs src es r, x, ρ, S, T => match x with
    | .exc k _ _ => ∃ h, cs.lookup k = some h ∧ if h = true then
        wEs noC (fun _ _ => False) es (ρ.set i (some x)) S fun ds S1 => ds.length = es.len ∧ T.ex (.exc c fs (placeL src ds)) (ρ.set i none) S1
      else wH C r x ρ S T
    | _ => False
end
structure Fn where
  n : Nat
  k : Nat
  body : Ss
abbrev Prg := Nat → Option Fn
def Q1 (Q : K) : K := fun d S => ∃ S', Sub S' S ∧ Q d S'
def callW (P : Prg) : Nat → Orc
  | 0, _, _, _, _, _ => False
  | n + 1, f, ds, S, Q, X => ∃ F, P f = some F ∧ ds.length = F.k ∧
      wB (callW P n) F.body (ds.map some ++ List.replicate (F.n - F.k) none) S { nx := fun _ S' => Q1 Q .non S', rt := Q1 Q, ex := fun x _ S' => Q1 X x S' }
theorem enumF_len : ∀ (l : List D) (c : Int), (enumF c l).length = l.length
  | [], _ => rfl
  | x :: r, c => by rw [enumF, List.length_cons, List.length_cons, enumF_len r]
theorem enumF_get : ∀ (l : List D) (c : Int) (i : Nat) (d : D), l[i]? = some d → (enumF c l)[i]? = some (.tup [.int (c + (i : Nat)), d])
  | [], _, _, _, h => by simp at h
  | x :: r, c, 0, d, h => by simp at h; subst h; simp [enumF]
  | x :: r, c, i + 1, d, h => by
    rw [enumF, List.getElem?_cons_succ, enumF_get r (c + 1) i d (by simpa using h)]
    have : c + 1 + (i : Nat) = c + ((i + 1 : Nat) : Int) := by omega
    rw [this]
theorem zipD_len : ∀ (l m : List D), (zipD l m).length = min l.length m.length
  | [], m => by simp [zipD]
  | x :: r, [] => by simp [zipD]
  | x :: r, y :: t => by rw [zipD, List.length_cons, List.length_cons, List.length_cons, zipD_len r t]; omega
theorem minI_spec : ∀ {ns : List Int}, 0 < ns.length → minI ns ∈ ns ∧ ∀ y, y ∈ ns → minI ns ≤ y
  | [], h => by simp at h
  | [a], _ => by simp [minI]
  | a :: b :: r, _ => by
    obtain ⟨h1, h2⟩ := minI_spec (ns := b :: r) (by simp)
    simp only [minI]
    generalize hm : minI (b :: r) = m at h1 h2
    refine ⟨?_, fun y hy => ?_⟩
    · rcases Int.le_total a m with z | z
      · rw [Int.min_eq_left z]; exact List.mem_cons_self
      · rw [Int.min_eq_right z]; exact List.mem_cons_of_mem _ h1
    · rcases List.mem_cons.mp hy with rfl | hy
      · exact Int.min_le_left _ _
      · exact Int.le_trans (Int.min_le_right _ _) (h2 y hy)
theorem ups_self {S : Sta} {p : Addr} {m : MO} (h : S p = some m) : ups S p m = S := by
  funext q
  unfold ups
  split
  · rename_i e; rw [e, h]
  · rfl
abbrev Wp := Env → Sta → K → Prop
def Kn (N : Nm) (S : Sta) (H : Hp) (Qh : K) (Q : VK) : Prop := ∀ d S' v H', Fr S H S' H' → RH N H' S' → RD N H' d v → Qh d S' → Q v H'
def tOf (N : Nm) (Z : Sta × Hp) (w : Wp) : TE := fun σ H Q => ∃ ρ S Qh, RS N H σ ρ ∧ RH N H S ∧ Fr Z.1 Z.2 S H ∧ w ρ S Qh ∧ Kn N S H Qh Q
theorem pimp {X : Cx} {e : Expr} {t t' : TE} (h : PE X e t) (i : ∀ σ H Q, t' σ H Q → t σ H Q) : PE X e t' := ⟨fun pins s σ H Q I q => h.run pins s σ H Q I (i σ H Q q)⟩
section
variable {N : Nm} {Z : Sta × Hp} {X : Cx} {S S' S1 : Sta} {H H' H1 : Hp} {Q : VK} {Qh : K} {σ : L2.St} {ρ : Env}
theorem Kn.at (k : Kn N S H Qh Q) {d : D} {v : V} (h : RH N H S) (r : RD N H d v) (q : Qh d S) : Q v H := k d S v H Fr.refl h r q
theorem Kn.step (k : Kn N S H Qh Q) (f : Fr S H S1 H1) : Kn N S1 H1 Qh Q := fun d S' v H' f' h r q => k d S' v H' (f.trans f') h r q
theorem tOf.one {w : Wp} {g : Env → D → Sta → K → Prop} (t : tOf N Z (fun ρ S Q => w ρ S fun x S1 => g ρ x S1 Q) σ H Q) {P : VK}
    (h : ∀ ρ x S1 v H1 Qh, RS N H1 σ ρ → RH N H1 S1 → Fr Z.1 Z.2 S1 H1 → RD N H1 x v → g ρ x S1 Qh → Kn N S1 H1 Qh Q → P v H1) : tOf N Z w σ H P := by
  obtain ⟨ρ, S, Qh, rs, rh, fz, q, k⟩ := t
  exact ⟨ρ, S, _, rs, rh, fz, q, fun x S1 v H1 f h1 r q1 => h ρ x S1 v H1 Qh (rs.mono (f.dle rh)) h1 (fz.trans f) r q1 (k.step f)⟩
theorem tOf.two {w w' : Wp} {g : D → D → Sta → K → Prop} (t : tOf N Z (fun ρ S Q => w ρ S fun x S1 => w' ρ S1 fun y S2 => g x y S2 Q) σ H Q) {P : V → V → Hp → Prop}
    (h : ∀ x y S2 v u H2 Qh, RH N H2 S2 → RD N H2 x v → RD N H2 y u → g x y S2 Qh → Kn N S2 H2 Qh Q → P v u H2) : tOf N Z w σ H fun v H1 => tOf N Z w' σ H1 fun u H2 => P v u H2 := by
  refine tOf.one (g := fun ρ x S1 Q => w' ρ S1 fun y S2 => g x y S2 Q) t fun ρ x S1 v H1 Qh rs rh fz r q k => ?_
  exact ⟨ρ, S1, _, rs, rh, fz, q, fun y S2 u H2 f h2 r2 q2 => h x y S2 v u H2 Qh h2 (RD.mono (f.dle rh) _ _ r) r2 q2 (k.step f)⟩
theorem rd_non {v : V} (h : RD N H .non v) : v = .non := by simpa only [RD] using h
theorem rd_bl {b : Bool} {v : V} (h : RD N H (.bl b) v) : v = .bl b := by simpa only [RD] using h
theorem rd_int {i : Int} {v : V} (h : RD N H (.int i) v) : v = .int i := by simpa only [RD] using h
theorem rd_str {i : Str} {v : V} (h : RD N H (.str i) v) : v = .str i := by simpa only [RD] using h
theorem rd_ref {a : Addr} {v : V} (h : RD N H (.ref a) v) : v = .ref a := by simpa only [RD] using h
theorem rd_fn {a : Nat} {v : V} (h : RD N H (.fn a) v) : v = .ref (N.fa a) := by simpa only [RD] using h
theorem rd_tup {l : List D} {v : V} (h : RD N H (.tup l) v) : ∃ a vs, v = .ref a ∧ SqT N.K H a vs ∧ RDs N H l vs := by simpa only [RD] using h
theorem rd_lis {l : List D} {v : V} (h : RD N H (.lis l) v) : ∃ a vs, v = .ref a ∧ SqL N.K H a vs ∧ RDs N H l vs := by
  simp only [RD] at h
  obtain ⟨a, vs, e, q, r⟩ := h
  refine ⟨a, vs, e, ?_, r⟩
  rcases q with ⟨o, q⟩ | (q | ⟨o, q⟩) | q
  · exact .inl (.inr ⟨o, q⟩)
  · cases q
  · cases q
  · exact .inr q
theorem mk_non : RD N H .non .non := by simp only [RD]
theorem mk_bl {b : Bool} : RD N H (.bl b) (.bl b) := by simp only [RD]
theorem mk_int {b : Int} : RD N H (.int b) (.int b) := by simp only [RD]
theorem mk_str {b : Str} : RD N H (.str b) (.str b) := by simp only [RD]
theorem mk_ref {b : Addr} : RD N H (.ref b) (.ref b) := by simp only [RD]
theorem mk_tup {l : List D} {a : Addr} {vs : List V} (h : SqT N.K H a vs) (r : RDs N H l vs) : RD N H (.tup l) (.ref a) := by simp only [RD]; exact ⟨a, vs, rfl, h, r⟩
theorem RDs.mono' (f : Dle H H') {ds : List D} {vs : List V} (r : RDs N H ds vs) : RDs N H' ds vs := RDs.mono f ds vs r
theorem Kn.newL (k : Kn N S H Qh Q) (h : RH N H S) {p : Addr} (n : H p = none) {ds : List D} {vs : List V} (r : RDs N H ds vs) (q : ∀ p, S p = none → Qh (.ref p) (ups S p (.lst ds))) : Q (.ref p) (upd H p (.lst vs)) :=
  k _ _ _ _ (Fr.new n) (h.new (m := .lst ds) n ⟨vs, L2.upd_same, r.mono' (dle_new n)⟩) mk_ref (q p (h.fresh n))
theorem Kn.newT (k : Kn N S H Qh Q) (h : RH N H S) {p : Addr} (n : H p = none) {ds : List D} {vs : List V} (r : RDs N H ds vs) (q : Qh (.tup ds) S) : Q (.ref p) (upd H p (.tup vs)) :=
  k _ _ _ _ (Fr.skip n) (h.skip n) (mk_tup (SqT.of L2.upd_same) (r.mono' (dle_new n))) q
theorem Kn.newK (k : Kn N S H Qh Q) (h : RH N H S) {p : Addr} (n : H p = none) {ds : List (Key × D)} {vs : List (Key × V)} (e : vs.map (·.1) = ds.map (·.1)) (r : RDs N H (ds.map (·.2)) (vs.map (·.2)))
    (q : ∀ p, S p = none → Qh (.ref p) (ups S p (.dic ds))) : Q (.ref p) (upd H p (.dK vs)) :=
  k _ _ _ _ (Fr.new n) (h.new (m := .dic ds) n ⟨vs, L2.upd_same, e, r.mono' (dle_new n)⟩) mk_ref (q p (h.fresh n))
theorem at_lst (h : RH N H S) {a : Addr} {xs : List D} (e : S a = some (.lst xs)) : ∃ vs, H a = some (.lst vs) ∧ RDs N H xs vs := h a _ e
theorem at_dic (h : RH N H S) {a : Addr} {xs : List (Key × D)} (e : S a = some (.dic xs)) : ∃ ws : List (Key × V), H a = some (.dK ws) ∧ ws.map (·.1) = xs.map (·.1) ∧ RDs N H (xs.map (·.2)) (ws.map (·.2)) := h a _ e
theorem at_dicF (h : RH N H S) {a : Addr} {xs : List (Key × D)} {fu : HO} (e : S a = some (.dicF xs fu)) : ∃ (od : Obj) (ws : List (Key × V)), fu = .frz od (.dK ws) ∧ H a = some (.frz od (.dK ws)) ∧ ws.map (·.1) = xs.map (·.1) ∧ RDs N H (xs.map (·.2)) (ws.map (·.2)) := h a _ e
theorem at_ins (h : RH N H S) {a : Addr} {c : Nat} {fs : List (Nat × D)} (e : S a = some (.ins c fs)) :
    c ∈ N.oc ∧ (∀ p ∈ fs, p.1 ∈ N.fl) ∧ ∃ (dx : Addr) (gs : List (Str × V)), H a = some (.ins (N.ca c) dx gs) ∧ gs.map (·.1) = fs.map (fun p => N.fnm p.1) ∧ RDs N H (fs.map (·.2)) (gs.map (·.2)) := h a _ e
theorem oimp {f : Value → Value → Sem Value} {r r' : R2} (h : OpR X f r) (i : ∀ x y H Q, r' x y H Q → r x y H Q) : OpR X f r' := fun pins s σ H x y v u Q I rx ry q => h pins s σ H x y v u Q I rx ry (i x y H Q q)
def boOp : Bo → Operator
  | .add => .Add | .sub => .Sub | .mul => .Mult | .div => .FloorDiv | .mod => .Mod | .pow => .Pow
def rBin (N : Nm) (o : Bo) : R2 := fun v u H Q => ∃ x y S Qh, RH N H S ∧ RD N H x v ∧ RD N H y u ∧ wbin o x y S Qh ∧ Kn N S H Qh Q
def rAddAll (K : PySem.W.Frag) : R2 := fun x y H Q =>
  (rI0 (fun i j => .int (i + j))) x y H Q ∨ ((∃ i k, x = .int i ∧ y = .bl k ∧ Q (.int (i + PyProof.Rows.b2i k)) H) ∨ ((∃ i j, x = .str i ∧ y = .str j ∧ i.length + j.length ≤ sizeLine ∧ Q (.str (i ++ j)) H) ∨ (rCatA K x y H Q ∨ L2.rCat x y H Q)))
theorem op_addAll : OpR X (binaryOp .Add) (rAddAll X.K) := op_add.or (op_add_ib.or (op_add_str.or (op_catA.or op_cat)))
theorem rbin_add (hK : N.K = X.K) : ∀ v u H Q, rBin N .add v u H Q → rAddAll X.K v u H Q := by
  rintro v u H Q ⟨x, y, S, Qh, rh, rx, ry, w, k⟩
  cases x with
  | int i =>
    cases y with
    | int j => cases rd_int rx; cases rd_int ry; exact .inl ⟨i, j, rfl, rfl, k.at rh mk_int w⟩
    | bl b =>
      cases rd_int rx; cases rd_bl ry
      exact .inr (.inl ⟨i, b, rfl, rfl, k.at rh mk_int (by cases b <;> exact w)⟩)
    | _ => exact (False.elim w)
  | str a =>
    cases y with
    | str b => cases rd_str rx; cases rd_str ry; exact .inr (.inr (.inl ⟨a, b, rfl, rfl, w.1, k.at rh mk_str w.2⟩))
    | _ => exact (False.elim w)
  | tup l =>
    cases y with
    | tup m =>
      obtain ⟨a, vs, rfl, h1, r1⟩ := rd_tup rx
      obtain ⟨b, ws, rfl, h2, r2⟩ := rd_tup ry
      rw [hK] at h1 h2
      have e1 := r1.length
      have e2 := r2.length
      refine .inr (.inr (.inr (.inl ⟨a, b, vs, ws, rfl, rfl, h1, h2, by rw [← e1, ← e2]; exact w.1, fun z => ?_, fun _ z => ?_, fun _ _ p n => ?_⟩)))
      · subst z
        have : l = [] := by cases l with
          | nil => rfl
          | cons _ _ => simp at e1
        subst this
        exact k.at rh (mk_tup (by rw [hK]; exact h2) r2) w.2
      · subst z
        have : m = [] := by cases m with
          | nil => rfl
          | cons _ _ => simp at e2
        subst this
        exact k.at rh (mk_tup (by rw [hK]; exact h1) r1) (by simpa using w.2)
      · exact k.newT rh n (r1.append r2) w.2
    | _ => exact (False.elim w)
  | ref a =>
    cases y with
    | ref b =>
      cases rd_ref rx; cases rd_ref ry
      have w : (match S a, S b with
        | some (.lst xs), some (.lst ys) => xs.length + ys.length ≤ sizeLine ∧ ∀ p, S p = none → Qh (.ref p) (ups S p (.lst (xs ++ ys)))
        | _, _ => False) := w
      cases ea : S a with
      | none => rw [ea] at w; exact w.elim
      | some oa =>
        rw [ea] at w
        cases oa with
        | lst xs =>
          cases eb : S b with
          | none => rw [eb] at w; exact w.elim
          | some ob =>
            rw [eb] at w
            cases ob with
            | lst ys =>
              obtain ⟨vs, h1, r1⟩ := at_lst rh ea
              obtain ⟨ws, h2, r2⟩ := at_lst rh eb
              exact .inr (.inr (.inr (.inr ⟨a, b, vs, ws, rfl, rfl, h1, h2, by rw [← r1.length, ← r2.length]; exact w.1, fun p n => k.newL rh n (r1.append r2) w.2⟩)))
            | _ => exact w.elim
        | _ => exact w.elim
    | _ => exact (False.elim w)
  | _ => exact (False.elim w)
theorem CMulW.op : OpR X (binaryOp .Mult) (rI MulOk fun i j => .int (i * j)) := opI fun _ _ _ _ _ _ _ hc q => by
  rcases hc with hc | hc
  · exact PyProof.Rows.mul_int q hc.ok
  · exact PyProof.Rows.mul_int q hc.ok
theorem op_mulS : OpR X (binaryOp .Mult) (fun x y H Q => ∃ i k, x = .str i ∧ y = .int k ∧ 2 ≤ k ∧ k < 1000 ∧ i.length * k.toNat ≤ sizeLine ∧ Q (.str (if i.length = 0 then i else repS k.toNat i)) H) := by
  intro pins s σ H x y v u Q I rx ry h
  obtain ⟨i, k, rfl, rfl, h1, h2, hz, q⟩ := h
  obtain ⟨t, rfl⟩ := rx
  obtain ⟨t', rfl⟩ := ry
  have k2 : ¬ k < 1 := by omega
  have k1 : (k == 1) = false := by rw [beq_eq_false_iff_ne]; omega
  refine P.mul_str (by rw [decide_eq_false (by omega), decide_eq_false (by omega)]; rfl) (fun _ _ => ?_) (fun _ _ => ?_) ?_
  · have hs : sizeLine = 16777216 := sizeLine_eq
    have : ((i.length * k.toNat : Nat) : Int) ≤ 16777216 := by omega
    have e : (i.length : Int) ≤ 16777216 := by
      have h3 : i.length * 1 ≤ i.length * k.toNat := Nat.mul_le_mul_left _ (by omega)
      omega
    have : (16777216 : Int) ≤ (2 ^ 63 - 1) / k := by
      rw [Int.le_ediv_iff_mul_le (by omega)]
      omega
    omega
  · unfold Builtin.Str.tooLong
    exact decide_eq_false (by omega)
  · rw [if_neg k2, k1, Bool.false_or]
    by_cases h0 : i.length = 0
    · rw [if_pos h0] at q
      rw [if_pos (by rw [h0]; rfl)]
      exact ⟨.str i, H, I, ⟨_, rfl⟩, q⟩
    · rw [if_neg h0] at q
      rw [if_neg (by rw [beq_iff_eq]; exact h0)]
      exact ⟨by show (repS k.toNat i).length ≤ _; rw [repS_len]; exact hz, .str _, H, I.tok _, ⟨_, rfl⟩, q⟩
theorem op_bin (hK : N.K = X.K) : ∀ o, OpR X (binaryOp (boOp o)) (rBin N o)
  | .add => oimp op_addAll (rbin_add hK)
  | .sub => oimp op_sub fun v u H Q ⟨x, y, S, Qh, rh, rx, ry, w, k⟩ => by
    cases x <;> cases y <;> first | exact False.elim w | skip
    cases rd_int rx; cases rd_int ry
    exact ⟨_, _, rfl, rfl, k.at rh mk_int w⟩
  | .mul => oimp (CMulW.op.or (op_mulS.or op_rep)) fun v u H Q ⟨x, y, S, Qh, rh, rx, ry, w, k⟩ => by
    cases x <;> cases y <;> first | exact False.elim w | skip
    · cases rd_int rx; cases rd_int ry
      exact .inl ⟨_, _, rfl, rfl, w.1, k.at rh mk_int w.2⟩
    · cases rd_str rx; cases rd_int ry
      exact .inr (.inl ⟨_, _, rfl, rfl, w.1, w.2.1, w.2.2.1, k.at rh mk_str w.2.2.2⟩)
    · rename_i a n
      cases rd_ref rx; cases rd_int ry
      have w : (match S a with
        | some (.lst xs) => -(2 ^ 63) ≤ n ∧ n < 2 ^ 63 ∧ xs.length * n.toNat ≤ sizeLine ∧ ∀ p, S p = none → Qh (.ref p) (ups S p (.lst (List.replicate n.toNat xs).flatten))
        | _ => False) := w
      cases ea : S a with
      | none => rw [ea] at w; exact w.elim
      | some oa =>
        rw [ea] at w
        cases oa with
        | lst xs =>
          obtain ⟨vs, h1, r1⟩ := at_lst rh ea
          obtain ⟨w1, w2, w3, w4⟩ := w
          have rep : ∀ m : Nat, RDs N H (List.replicate m xs).flatten (List.replicate m vs).flatten := fun m => by
            induction m with
            | zero => exact .nil
            | succ m ih => rw [List.replicate_succ, List.replicate_succ, List.flatten_cons, List.flatten_cons]; exact r1.append ih
          exact .inr (.inr ⟨a, n, vs, rfl, rfl, h1, w1, w2, by rw [← r1.length]; exact w3, fun p np => k.newL rh np (rep _) w4⟩)
        | _ => exact w.elim
  | .div => oimp op_fdivW fun v u H Q ⟨x, y, S, Qh, rh, rx, ry, w, k⟩ => by
    cases x <;> cases y <;> first | exact False.elim w | skip
    cases rd_int rx; cases rd_int ry
    exact ⟨_, _, rfl, rfl, w.1, k.at rh mk_int w.2⟩
  | .mod => oimp op_mod fun v u H Q ⟨x, y, S, Qh, rh, rx, ry, w, k⟩ => by
    cases x <;> cases y <;> first | exact False.elim w | skip
    cases rd_int rx; cases rd_int ry
    exact ⟨_, _, rfl, rfl, w.1, k.at rh mk_int w.2⟩
  | .pow => oimp op_pow fun v u H Q ⟨x, y, S, Qh, rh, rx, ry, w, k⟩ => by
    cases x <;> cases y <;> first | exact False.elim w | skip
    cases rd_int rx; cases rd_int ry
    exact ⟨_, _, rfl, rfl, w.1, k.at rh mk_int w.2⟩
theorem he_bin (hK : N.K = X.K) {o : Bo} {a b : Expr} {wa wb : Wp} {pos : Pos} (ha : PE X a (tOf N Z wa)) (hb : PE X b (tOf N Z wb)) :
    PE X (.BinOp a (boOp o) b pos) (tOf N Z fun ρ S Q => wa ρ S fun x S1 => wb ρ S1 fun y S2 => wbin o x y S2 Q) :=
  pimp (pe_op (op_bin hK o) ha hb) fun σ H Q t => tOf.two t fun x y S2 v u H2 Qh h rx ry g k => ⟨x, y, S2, Qh, h, rx, ry, g, k⟩
end
section
variable {N : Nm} {X : Cx} {S S' S1 : Sta} {H H' H1 : Hp} {Q : VK} {Qh : K} {σ : L2.St} {ρ : Env}
mutual
theorem dp_of (hK : N.K = X.K) : ∀ (d : D) (p : PyData) (v : V), toP d = some p → RD N H d v → Dp X.K H v p
  | .non, p, v, e, r => by simp only [toP] at e; cases e; cases rd_non r; exact .non
  | .bl b, p, v, e, r => by simp only [toP] at e; cases e; cases rd_bl r; exact .bl b
  | .int i, p, v, e, r => by simp only [toP] at e; cases e; cases rd_int r; exact .int i
  | .str s, p, v, e, r => by simp only [toP] at e; cases e; cases rd_str r; exact .str s
  | .tup l, p, v, e, r => by
    simp only [toP, Option.map_eq_some_iff] at e
    obtain ⟨ps, e1, rfl⟩ := e
    obtain ⟨a, vs, rfl, h1, r1⟩ := rd_tup r
    exact .tup (hK ▸ h1) (dps_of hK l ps vs e1 r1)
  | .lis l, p, v, e, r => by
    simp only [toP, Option.map_eq_some_iff] at e
    obtain ⟨ps, e1, rfl⟩ := e
    obtain ⟨a, vs, rfl, h1, r1⟩ := rd_lis r
    exact .lst (hK ▸ h1) (dps_of hK l ps vs e1 r1)
  | .ref a, p, v, e, r => by simp only [toP] at e; cases e
  | .fn f, p, v, e, r => by simp only [toP] at e; cases e
  | .exc c fs ds, p, v, e, r => by simp only [toP] at e; cases e
theorem dps_of (hK : N.K = X.K) : ∀ (ds : List D) (ps : List PyData) (vs : List V), toPs ds = some ps → RDs N H ds vs → DpAll X.K H vs ps
  | [], ps, vs, e, r => by simp only [toPs] at e; cases e; rw [r.unnil]; exact .nil
  | d :: ds, ps, vs, e, r => by
    simp only [toPs] at e
    cases e1 : toP d with
    | none => rw [e1] at e; cases e
    | some x =>
      rw [e1] at e
      cases e2 : toPs ds with
      | none => rw [e2] at e; cases e
      | some xs =>
        rw [e2] at e; cases e
        obtain ⟨v, t, rfl, h1, h2⟩ := r.uncons
        exact .cons (dp_of hK d x v e1 h1) (dps_of hK ds xs t e2 h2)
end
theorem dpS_of (hK : N.K = X.K) (h : RH N H S) {d : D} {p : PyData} {v : V} (e : toPS S d = some p) (r : RD N H d v) : Dp X.K H v p := by
  cases d with
  | ref a =>
    have e : (match S a with
      | some (.lst xs) => (toPs xs).map .list
      | _ => none) = some p := e
    cases ea : S a with
    | none => rw [ea] at e; cases e
    | some o =>
      rw [ea] at e
      cases o with
      | lst xs =>
        obtain ⟨ps, e1, rfl⟩ := Option.map_eq_some_iff.mp e
        obtain ⟨vs, h1, r1⟩ := at_lst h ea
        cases rd_ref r
        exact .lst (SqL.of h1) (dps_of hK xs ps vs e1 r1)
      | _ => cases e
  | _ => exact dp_of hK _ p v e r
def rEqW (N : Nm) (neg : Bool) : R2 := fun v u H Q => ∃ x y S, RH N H S ∧ RD N H x v ∧ RD N H y u ∧ eqW S x y fun b => Q (.bl (if neg then !b else b)) H
def EqAlts (X : Cx) (neg : Bool) (v u : V) (H : Hp) (Q : VK) : Prop := (scal v u = true ∧ Q (.bl (if neg then !decide (v = u) else decide (v = u))) H) ∨ (∃ d e, Dp X.K H v d ∧ Dp X.K H u e ∧ SeqAt.shaped d = true ∧ SeqAt.shaped e = true ∧ Q (.bl (if neg then !PyData.eqv d e else PyData.eqv d e)) H) ∨
  (∃ a b ks, v = .ref a ∧ u = .ref b ∧ H a = some (.dK ks) ∧ H b = some (.dK []) ∧ Q (.bl (if neg then !ks.isEmpty else ks.isEmpty)) H) ∨
  ∃ a b xs ys, v = .ref a ∧ u = .ref b ∧ H a = some (.lst xs) ∧ H b = some (.lst ys) ∧ xs.length ≠ ys.length ∧ Q (.bl neg) H
def rEqN (neg : Bool) : R2 := fun v u H Q => ∃ a b xs ys, v = .ref a ∧ u = .ref b ∧ H a = some (.lst xs) ∧ H b = some (.lst ys) ∧ xs.length ≠ ys.length ∧ Q (.bl neg) H
theorem op_eqN (hu : X.A.units < cLine) : OpR X (compareOp .Eq) (rEqN false) := by
  intro pins s σ H x y v u Q I rx ry ⟨a, b, xs, ys, e1, e2, ea, eb, hl, q⟩
  subst e1 e2
  cases (show v = Value.ref a from rx)
  cases (show u = Value.ref b from ry)
  obtain ⟨z1, its, n, r, l1, p⟩ := I.lstM ea
  obtain ⟨z2, its2, n2, r2, l2, p2⟩ := I.lstM eb
  exact PySem.SeqAt.eq_list_lengthsAt ⟨_, p, rfl, n, rfl⟩ ⟨_, p2, rfl, n2, rfl⟩ (by simp; omega) hu (fin_bl I q rfl)
theorem op_neN (hu : X.A.units < cLine) : OpR X (compareOp .NotEq) (rEqN true) := by
  intro pins s σ H x y v u Q I rx ry ⟨a, b, xs, ys, e1, e2, ea, eb, hl, q⟩
  subst e1 e2
  cases (show v = Value.ref a from rx)
  cases (show u = Value.ref b from ry)
  obtain ⟨z1, its, n, r, l1, p⟩ := I.lstM ea
  obtain ⟨z2, its2, n2, r2, l2, p2⟩ := I.lstM eb
  exact PySem.SeqAt.RcNeAt.lists_lengths ⟨_, p, rfl, n, rfl⟩ ⟨_, p2, rfl, n2, rfl⟩ (by simp; omega) hu _ _ _ _ (fin_bl I q rfl)
def rEq0 (neg : Bool) : R2 := fun v u H Q => ∃ a b ks, v = .ref a ∧ u = .ref b ∧ H a = some (.dK ks) ∧ H b = some (.dK []) ∧ Q (.bl (if neg then !ks.isEmpty else ks.isEmpty)) H
theorem kv_emp {ks : List (Key × V)} {va : List (Key × Value)} (ra : KV ks va) : va.isEmpty = ks.isEmpty := by
  have := ra.length
  cases ks <;> cases va <;> first | rfl | (simp at this)
theorem op_eq0 (hu : X.A.units < cLine) : OpR X (compareOp .Eq) (rEq0 false) := by
  intro pins s σ H x y v u Q I rx ry ⟨a, b, ks, e1, e2, ea, eb, q⟩
  subst e1 e2
  cases (show v = Value.ref a from rx)
  cases (show u = Value.ref b from ry)
  obtain ⟨_, ya, va, ra, da⟩ := (show ObjOk X.prog X.w H s.heap a (.dK ks) from I.hok a _ ea)
  obtain ⟨_, yb, vb, rb, db⟩ := (show ObjOk X.prog X.w H s.heap b (.dK []) from I.hok b _ eb)
  have hb0 : vb = [] := List.length_eq_zero_iff.mp rb.length.symm
  subst hb0
  refine PySem.W.keq_eq (knd := mixKind X.prog X.w) (r := true) ya yb da db hu (fun hl => ?_) (fin_bl I q ?_)
  · cases List.length_eq_zero_iff.mp hl
    exact .nil
  · rw [Bool.and_true, ← kv_emp ra]
    cases va <;> rfl
theorem op_ne0 (hu : X.A.units < cLine) : OpR X (compareOp .NotEq) (rEq0 true) := by
  intro pins s σ H x y v u Q I rx ry ⟨a, b, ks, e1, e2, ea, eb, q⟩
  subst e1 e2
  cases (show v = Value.ref a from rx)
  cases (show u = Value.ref b from ry)
  obtain ⟨_, ya, va, ra, da⟩ := (show ObjOk X.prog X.w H s.heap a (.dK ks) from I.hok a _ ea)
  obtain ⟨_, yb, vb, rb, db⟩ := (show ObjOk X.prog X.w H s.heap b (.dK []) from I.hok b _ eb)
  have hb0 : vb = [] := List.length_eq_zero_iff.mp rb.length.symm
  subst hb0
  refine PySem.W.keq_ne (knd := mixKind X.prog X.w) (r := true) ya yb da db hu (fun hl => ?_) (fin_bl I q ?_)
  · cases List.length_eq_zero_iff.mp hl
    exact .nil
  · rw [Bool.and_true, if_pos rfl, ← kv_emp ra]
    cases va <;> rfl
theorem reqw_of (hK : N.K = X.K) {neg : Bool} {v u : V} {x y : D} {P : Bool → Prop} (rh : RH N H S) (rx : RD N H x v) (ry : RD N H y u) (w : eqW S x y P) (q : ∀ b, P b → Q (.bl (if neg then !b else b)) H) :
    EqAlts X neg v u H Q := by
  have data : eqDD S x y P → EqAlts X neg v u H Q :=
    fun ⟨p, p', e1, e2, s1, s2, z⟩ => .inr (.inl ⟨p, p', dpS_of hK rh e1 rx, dpS_of hK rh e2 ry, s1, s2, q _ z⟩)
  have fin : ∀ {b : Bool}, P b → scal v u = true → decide (v = u) = b → EqAlts X neg v u H Q :=
    fun p s e => .inl ⟨s, by rw [e]; exact q _ p⟩
  cases x with
  | int i =>
    cases rd_int rx
    cases y with
    | int j => cases rd_int ry; exact fin w rfl L2.dec_int
    | non => cases rd_non ry; exact fin w rfl (by simp)
    | str j => cases rd_str ry; exact fin w rfl (by simp)
    | _ => exact data w
  | str i =>
    cases rd_str rx
    cases y with
    | str j => cases rd_str ry; exact fin w rfl L2.dec_str
    | non => cases rd_non ry; exact fin w rfl (by simp)
    | int j => cases rd_int ry; exact fin w rfl (by simp)
    | bl j => cases rd_bl ry; exact fin w rfl (by simp)
    | _ => exact data w
  | bl i =>
    cases rd_bl rx
    cases y with
    | bl j => cases rd_bl ry; exact fin w rfl L2.dec_bl
    | non => cases rd_non ry; exact fin w rfl (by simp)
    | str j => cases rd_str ry; exact fin w rfl (by simp)
    | _ => exact data w
  | non =>
    cases rd_non rx
    cases y with
    | non => cases rd_non ry; exact fin w rfl (by simp)
    | int j => cases rd_int ry; exact fin w rfl (by simp)
    | str j => cases rd_str ry; exact fin w rfl (by simp)
    | bl j => cases rd_bl ry; exact fin w rfl (by simp)
    | _ => exact data w
  | ref a =>
    cases rd_ref rx
    cases y with
    | ref b =>
      cases rd_ref ry
      cases ea : S a with
      | none => simp only [eqW, ea] at w; exact data w
      | some o =>
        cases o with
        | dic kvs =>
          simp only [eqW, ea] at w
          obtain ⟨eb, w⟩ := w
          obtain ⟨ws, h1, k1, _⟩ := rh a _ ea
          obtain ⟨wt, h2, k2, _⟩ := rh b _ eb
          have hw : wt = [] := List.map_eq_nil_iff.mp k2
          subst hw
          refine .inr (.inr (.inl ⟨a, b, ws, rfl, rfl, h1, h2, ?_⟩))
          have ee : ws.isEmpty = kvs.isEmpty := by
            have := congrArg List.length k1
            cases ws <;> cases kvs <;> first | rfl | (simp at this)
          rw [ee]
          exact q _ w
        | lst xs =>
          simp only [eqW, ea] at w
          rcases w with w | ⟨xs', ys, ea', eb, hl, w⟩
          · exact data w
          · cases ea.symm.trans ea'
            obtain ⟨vs, h1, r1⟩ := at_lst rh ea
            obtain ⟨us, h2, r2⟩ := at_lst rh eb
            have z1 := r1.length
            have z2 := r2.length
            refine .inr (.inr (.inr ⟨a, b, vs, us, rfl, rfl, h1, h2, by omega, ?_⟩))
            have := q _ w
            cases neg <;> exact this
        | _ => simp only [eqW, ea] at w; exact data w
    | _ => exact data w
  | _ => exact data w
theorem op_eqW (hK : N.K = X.K) (hu : X.A.units + 64 < cLine) : OpR X (compareOp .Eq) (rEqW N false) := oimp (op_eq.or ((op_eqD hu).or ((op_eq0 (by omega)).or (op_eqN (by omega))))) fun v u H Q ⟨x, y, S, rh, rx, ry, w⟩ =>
  (reqw_of (neg := false) (Q := Q) hK rh rx ry w fun _ z => z)
theorem op_neW (hK : N.K = X.K) (hu : X.A.units + 64 < cLine) : OpR X (compareOp .NotEq) (rEqW N true) := oimp (op_ne.or ((op_neD hu).or ((op_ne0 (by omega)).or (op_neN (by omega))))) fun v u H Q ⟨x, y, S, rh, rx, ry, w⟩ =>
  (reqw_of (neg := true) (Q := Q) hK rh rx ry w fun _ z => z)
theorem rd_flat {d : D} {v : V} (r : RD N H d v) (f : flatD d = true) : flatV v = true := by
  cases d with
  | non => cases rd_non r; rfl
  | bl b => cases rd_bl r; rfl
  | int b => cases rd_int r; rfl
  | str b => cases rd_str r; rfl
  | _ => cases f
theorem rd_eqF {d e : D} {v u : V} (r : RD N H d v) (s : RD N H e u) (f : flatD d = true) (g : flatD e = true) : L2.eqV v u = eqF d e := by
  cases d with
  | non => cases rd_non r; cases e with
    | non => cases rd_non s; rfl
    | bl b => cases rd_bl s; rfl
    | int b => cases rd_int s; rfl
    | str b => cases rd_str s; rfl
    | _ => cases g
  | bl b => cases rd_bl r; cases e with
    | non => cases rd_non s; rfl
    | bl b => cases rd_bl s; rfl
    | int b => cases rd_int s; rfl
    | str b => cases rd_str s; rfl
    | _ => cases g
  | int b => cases rd_int r; cases e with
    | non => cases rd_non s; rfl
    | bl b => cases rd_bl s; rfl
    | int b => cases rd_int s; rfl
    | str b => cases rd_str s; rfl
    | _ => cases g
  | str b => cases rd_str r; cases e with
    | non => cases rd_non s; rfl
    | bl b => cases rd_bl s; rfl
    | int b => cases rd_int s; rfl
    | str b => cases rd_str s; rfl
    | _ => cases g
  | _ => cases f
theorem rds_flat : ∀ {ds : List D} {vs : List V}, RDs N H ds vs → ds.all flatD = true → vs.all flatV = true
  | [], vs, r, _ => by rw [r.unnil]; rfl
  | d :: ds, vs, r, f => by
    obtain ⟨v, t, rfl, h1, h2⟩ := r.uncons
    simp only [List.all_cons, Bool.and_eq_true] at f ⊢
    exact ⟨rd_flat h1 f.1, rds_flat h2 f.2⟩
theorem rds_in {x : D} {v : V} (rx : RD N H x v) (fx : flatD x = true) : ∀ {ds : List D} {vs : List V}, RDs N H ds vs → ds.all flatD = true → L2.inV v vs = inList x ds
  | [], vs, r, _ => by rw [r.unnil]; rfl
  | d :: ds, vs, r, f => by
    obtain ⟨u, t, rfl, h1, h2⟩ := r.uncons
    simp only [List.all_cons, Bool.and_eq_true] at f
    have ih := rds_in rx fx h2 f.2
    unfold L2.inV inList at ih ⊢
    rw [List.any_cons, List.any_cons, ih, rd_eqF h1 rx f.1 fx]
theorem key_rd {d : D} {k : Key} {v : V} (e : keyD d = some k) (r : RD N H d v) : v = kV k := by
  cases d with
  | int i => cases e; cases rd_int r; rfl
  | str i => cases e; cases rd_str r; rfl
  | _ => cases e
theorem kget_rel {k : Key} : ∀ {kvs : List (Key × D)} {ws : List (Key × V)}, ws.map (·.1) = kvs.map (·.1) → RDs N H (kvs.map (·.2)) (ws.map (·.2)) →
    (kget kvs k = none ∧ valV ws k = none) ∨ ∃ d v, kget kvs k = some d ∧ valV ws k = some v ∧ RD N H d v
  | [], ws, e, r => by
    cases ws with
    | nil => exact .inl ⟨rfl, rfl⟩
    | cons _ _ => simp at e
  | p :: kvs, ws, e, r => by
    cases ws with
    | nil => simp at e
    | cons q ws =>
      simp only [List.map_cons, List.cons.injEq] at e
      have r : RDs N H (p.2 :: kvs.map (·.2)) (q.2 :: ws.map (·.2)) := r
      obtain ⟨v, t, e2, h1, h2⟩ := r.uncons
      cases e2
      by_cases hk : p.1 = k
      · refine .inr ⟨p.2, q.2, ?_, valV_pos (e.1.trans hk), h1⟩
        unfold kget
        rw [List.find?_cons_of_pos (by simpa using hk)]
        rfl
      · have e3 : kget (p :: kvs) k = kget kvs k := by
          unfold kget
          rw [List.find?_cons_of_neg (by simpa using hk)]
        rw [e3, valV_neg (fun z => hk (e.1.symm.trans z))]
        exact kget_rel e.2 h2
def rDIn (neg : Bool) : R2 := fun v u H Q => ∃ a o, u = .ref a ∧ DGet H a v o ∧ Q (.bl (if neg then !o.isSome else o.isSome)) H
theorem op_dIn (hu : X.A.units + 1 < cLine) : OpR X (compareOp .In) (rDIn false) := by
  intro pins s σ H x y v u Q I rx ry h
  obtain ⟨a, o, rfl, g, q⟩ := h
  cases ry
  exact d_in hu I g rx fun s3 I3 => ⟨.bl o.isSome, H, I3, rfl, q⟩
theorem op_dNotIn (hu : X.A.units + 1 < cLine) : OpR X (compareOp .NotIn) (rDIn true) := by
  intro pins s σ H x y v u Q I rx ry h
  obtain ⟨a, o, rfl, g, q⟩ := h
  cases ry
  exact d_notIn hu I g rx fun s3 I3 => ⟨.bl (!o.isSome), H, I3, rfl, q⟩
def rInW (N : Nm) (neg : Bool) : R2 := fun v u H Q => ∃ x y S, RH N H S ∧ RD N H x v ∧ RD N H y u ∧
  ((∃ c z n, x = .str c ∧ y = .str z ∧ c = ⟨#[n]⟩ ∧ Q (.bl (if neg then !decide (n ∈ z.cps.toList) else decide (n ∈ z.cps.toList))) H) ∨
   (∃ l, (y = .tup l ∨ ∃ a, y = .ref a ∧ S a = some (.lst l)) ∧ flatD x = true ∧ l.all flatD = true ∧ Q (.bl (if neg then !inList x l else inList x l)) H) ∨
   (∃ a kvs k, y = .ref a ∧ (S a = some (.dic kvs) ∨ ∃ fu, S a = some (.dicF kvs fu)) ∧ keyD x = some k ∧ Q (.bl (if neg then !(kget kvs k).isSome else (kget kvs k).isSome)) H))
theorem dget_of (rh : RH N H S) {a : Addr} {kvs : List (Key × D)} (h : S a = some (.dic kvs) ∨ ∃ fu, S a = some (.dicF kvs fu)) (k : Key) :
    ∃ o, DGet H a (kV k) o ∧ ((kget kvs k = none ∧ o = none) ∨ ∃ d v, kget kvs k = some d ∧ o = some v ∧ RD N H d v) := by
  rcases h with h | ⟨fu, h⟩
  · obtain ⟨ws, h1, e, r⟩ := at_dic rh h
    exact ⟨_, DGet.k h1, kget_rel e r⟩
  · obtain ⟨od, ws, _, h1, e, r⟩ := at_dicF rh h
    exact ⟨_, .inl ⟨ws, k, .inr ⟨od, h1⟩, rfl, rfl⟩, kget_rel e r⟩
theorem isSome_of {α β : Type} {p : Option α} {o : Option β} {R : α → β → Prop} (h : (p = none ∧ o = none) ∨ ∃ d v, p = some d ∧ o = some v ∧ R d v) : o.isSome = p.isSome := by
  rcases h with ⟨rfl, rfl⟩ | ⟨_, _, rfl, rfl, _⟩ <;> rfl
theorem op_inW (hK : N.K = X.K) (hu : X.A.units + 1 < cLine) : OpR X (compareOp .In) (rInW N false) := oimp (op_in_sign.or (op_in_seq.or (op_dIn hu))) fun v u H Q ⟨x, y, S, rh, rx, ry, w⟩ => by
  rcases w with ⟨c, z, n, rfl, rfl, rfl, q⟩ | ⟨l, hl, fx, fl, q⟩ | ⟨a, kvs, k, rfl, hs, hk, q⟩
  · cases rd_str rx; cases rd_str ry
    exact .inl ⟨n, z, rfl, rfl, q⟩
  · rcases hl with rfl | ⟨a, rfl, e⟩
    · obtain ⟨a, vs, rfl, h1, r1⟩ := rd_tup ry
      exact .inr (.inl ⟨a, vs, rfl, .inr (hK ▸ h1), rd_flat rx fx, rds_flat r1 fl, by rw [rds_in rx fx r1 fl]; exact q⟩)
    · cases rd_ref ry
      obtain ⟨vs, h1, r1⟩ := at_lst rh e
      exact .inr (.inl ⟨a, vs, rfl, .inl (SqL.of h1), rd_flat rx fx, rds_flat r1 fl, by rw [rds_in rx fx r1 fl]; exact q⟩)
  · cases rd_ref ry
    obtain ⟨o, g, z⟩ := dget_of rh hs k
    rw [key_rd hk rx]
    exact .inr (.inr ⟨a, o, rfl, g, by rw [isSome_of z]; exact q⟩)
theorem op_notInW (hK : N.K = X.K) (hu : X.A.units + 1 < cLine) : OpR X (compareOp .NotIn) (rInW N true) := oimp (op_notIn_sign.or (op_notIn_seq.or (op_dNotIn hu))) fun v u H Q ⟨x, y, S, rh, rx, ry, w⟩ => by
  rcases w with ⟨c, z, n, rfl, rfl, rfl, q⟩ | ⟨l, hl, fx, fl, q⟩ | ⟨a, kvs, k, rfl, hs, hk, q⟩
  · cases rd_str rx; cases rd_str ry
    exact .inl ⟨n, z, rfl, rfl, q⟩
  · rcases hl with rfl | ⟨a, rfl, e⟩
    · obtain ⟨a, vs, rfl, h1, r1⟩ := rd_tup ry
      exact .inr (.inl ⟨a, vs, rfl, .inr (hK ▸ h1), rd_flat rx fx, rds_flat r1 fl, by rw [rds_in rx fx r1 fl]; exact q⟩)
    · cases rd_ref ry
      obtain ⟨vs, h1, r1⟩ := at_lst rh e
      exact .inr (.inl ⟨a, vs, rfl, .inl (SqL.of h1), rd_flat rx fx, rds_flat r1 fl, by rw [rds_in rx fx r1 fl]; exact q⟩)
  · cases rd_ref ry
    obtain ⟨o, g, z⟩ := dget_of rh hs k
    rw [key_rd hk rx]
    exact .inr (.inr ⟨a, o, rfl, g, by rw [isSome_of z]; exact q⟩)
def rNni (K : PySem.W.Frag) : R2 := fun x y H Q => ∃ ds, Dp K H x .none ∧ Dp K H y (.list ds) ∧ SeqAt.shaped (.list ds) = true ∧ Q (.bl (ds.any fun z => PyData.eqv z .none)) H
theorem op_nni (hu : X.A.units + 64 < cLine) : OpR X (compareOp .In) (rNni X.K) := by
  intro pins s σ H x y v u Q I rx ry h
  obtain ⟨ds, hd, he, se, q⟩ := h
  obtain ⟨as, r1⟩ := Dp.reads I .none x v hd rx
  obtain ⟨bs, r2⟩ := Dp.reads I (.list ds) y u he ry
  have hr : X.A.units + 1 + min (PyData.depthAll ds) (PyData.none).depth < cLine := by
    have : min (PyData.depthAll ds) (PyData.none).depth ≤ (PyData.none).depth := Nat.min_le_right _ _
    have e : (PyData.none).depth ≤ 1 := by decide
    omega
  exact SeqAt.in_list_reads r2 r1 (SeqAt.canLay_of_shaped se) rfl hr ⟨.bl _, H, I, rfl, q⟩
def coOp : Co → CmpOp
  | .eq => .Eq | .ne => .NotEq | .lt => .Lt | .le => .LtE | .gt => .Gt | .ge => .GtE | .is => .Is | .isn => .IsNot | .inn => .In | .nin => .NotIn | .nni => .In
def rOwn (N : Nm) (C : Orc) (neg : Bool) : R2 := fun v u H Q => ∃ a c fs y S Qh, v = .ref a ∧ RH N H S ∧ RD N H y u ∧ S a = some (.ins c fs) ∧ knD S y = true ∧
  C (mth c mEq) [.ref a, y] S (fun r S' => ∃ b, r = .bl b ∧ Qh (.bl (if neg then !b else b)) S') (fun _ _ => False) ∧ Kn N S H Qh Q
def rCmp (N : Nm) (C : Orc) (o : Co) : R2 := fun v u H Q => ∃ x y S Qh, RH N H S ∧ RD N H x v ∧ RD N H y u ∧ wcmp C o x y S (fun b S' => Qh (.bl b) S') ∧ Kn N S H Qh Q
theorem kv_mem : ∀ {kvs : List (Key × D)} {ws : List (Key × V)} {p : Key × V}, ws.map (·.1) = kvs.map (·.1) → RDs N H (kvs.map (·.2)) (ws.map (·.2)) → p ∈ ws → ∃ q ∈ kvs, q.1 = p.1 ∧ RD N H q.2 p.2
  | [], ws, p, e, r, hp => by
    cases ws with
    | nil => cases hp
    | cons _ _ => simp at e
  | q :: kvs, ws, p, e, r, hp => by
    cases ws with
    | nil => simp at e
    | cons q' ws =>
      simp only [List.map_cons, List.cons.injEq] at e
      have r : RDs N H (q.2 :: kvs.map (·.2)) (q'.2 :: ws.map (·.2)) := r
      obtain ⟨v, t, e2, h1, h2⟩ := r.uncons
      cases e2
      rcases List.mem_cons.mp hp with rfl | hp
      · exact ⟨q, List.mem_cons_self, e.1.symm, h1⟩
      · obtain ⟨q2, m, z⟩ := kv_mem e.2 h2 hp
        exact ⟨q2, List.mem_cons_of_mem _ m, z⟩
theorem rcmp_eq {C : Orc} {neg : Bool} {o : Co} (ho : o = (if neg then Co.ne else Co.eq)) {v u : V} {x y : D} (rh : RH N H S) (rx : RD N H x v) (ry : RD N H y u) (w : wcmp C o x y S (fun b S' => Qh (.bl b) S')) (k : Kn N S H Qh Q) :
    rEqW N neg v u H Q ∨ rOwn N C neg v u H Q ∨ (neg = false ∧ rEqV X.K v u H Q) := by
  have data : (eqW S x y fun b => Qh (.bl (if neg then !b else b)) S) → rEqW N neg v u H Q ∨ rOwn N C neg v u H Q ∨ (neg = false ∧ rEqV X.K v u H Q) := fun z => by
    refine .inl ⟨x, y, S, rh, rx, ry, ?_⟩
    have mono : ∀ {P P' : Bool → Prop}, (∀ b, P b → P' b) → eqW S x y P → eqW S x y P' := fun {P P'} i z => by
      unfold eqW at z ⊢
      split at z <;> first | exact i _ z | (obtain ⟨p, q, e1, e2, s1, s2, z⟩ := z; exact ⟨p, q, e1, e2, s1, s2, i _ z⟩) | skip
      split at z
      · exact ⟨z.1, i _ z.2⟩
      · rcases z with ⟨p, q, e1, e2, s1, s2, z⟩ | ⟨xs, ys, e1, e2, hl, z⟩
        · exact .inl ⟨p, q, e1, e2, s1, s2, i _ z⟩
        · exact .inr ⟨xs, ys, e1, e2, hl, i _ z⟩
      · obtain ⟨p, q, e1, e2, s1, s2, z⟩ := z
        exact ⟨p, q, e1, e2, s1, s2, i _ z⟩
    exact mono (fun b q => k.at rh mk_bl q) z
  subst ho
  cases x with
  | ref a =>
    cases rd_ref rx
    cases ea : S a with
    | none =>
      refine data ?_
      cases neg <;> (simp only [wcmp, ea] at w; exact w)
    | some ob =>
      cases ob with
      | ins c fs =>
        refine .inr (.inl ⟨a, c, fs, y, S, Qh, rfl, rh, ry, ea, ?_, ?_, k⟩) <;> cases neg <;> (simp only [wcmp, ea] at w; first | exact w.1 | exact w.2)
      | dic kvs =>
        cases neg with
        | true => refine data ?_; simp only [wcmp, ea] at w; exact w
        | false =>
          simp only [wcmp, ea] at w
          rcases w with w | ⟨rfl, sk, w⟩
          · exact data w
          · cases rd_ref ry
            obtain ⟨ws, h1, e1, r1⟩ := at_dic rh ea
            refine .inr (.inr ⟨rfl, 1, by omega, .inr ⟨a, a, ws, ws, rfl, rfl, h1, h1, rfl, fun p hp => ?_⟩, k.at rh mk_bl w⟩)
            obtain ⟨pk, pv⟩ := p
            obtain ⟨q, hq, e2, r2⟩ := kv_mem e1 r1 hp
            obtain ⟨e3, fl⟩ := sk q hq
            rcases kget_rel (k := q.1) e1 r1 with ⟨z, _⟩ | ⟨d, v, z1, z2, z3⟩
            · rw [e3] at z; cases z
            · rw [e3] at z1
              cases z1
              refine ⟨v, e2 ▸ z2, ?_⟩
              rcases fl with fl | ⟨c, fl⟩
              · cases hd : q.2 <;> rw [hd] at fl r2 z3 <;> first | (cases fl; done) | skip
                · cases rd_non r2; cases rd_non z3; exact .inl ⟨rfl, rfl⟩
                · cases rd_bl r2; cases rd_bl z3; exact .inl ⟨rfl, rfl⟩
                · cases rd_int r2; cases rd_int z3; exact .inl ⟨rfl, rfl⟩
                · cases rd_str r2; cases rd_str z3; exact .inl ⟨rfl, rfl⟩
              · rw [fl] at r2 z3
                cases rd_ref r2; cases rd_ref z3
                exact .inr (.inl ⟨c, rfl, rfl⟩)
      | _ =>
        refine data ?_
        cases neg <;> (simp only [wcmp, ea] at w; exact w)
  | _ => refine data ?_; cases neg <;> (simp only [wcmp] at w; exact w)
theorem op_cmp {C : Orc} (hK : N.K = X.K) (hu : X.A.units + 64 < cLine) (h1 : OpR X (compareOp .Eq) (rOwn N C false)) (h2 : OpR X (compareOp .NotEq) (rOwn N C true)) : ∀ o, OpR X (compareOp (coOp o)) (rCmp N C o)
  | .eq => oimp ((op_eqW hK hu).or (h1.or (op_eqV hu))) fun v u H Q ⟨x, y, S, Qh, rh, rx, ry, w, k⟩ => (rcmp_eq (X := X) (neg := false) rfl rh rx ry w k).imp id (Or.imp id fun z => z.2)
  | .ne => oimp ((op_neW hK hu).or h2) fun v u H Q ⟨x, y, S, Qh, rh, rx, ry, w, k⟩ => (rcmp_eq (X := X) (neg := true) rfl rh rx ry w k).imp id fun z => z.elim id fun z => by cases z.1
  | .lt => oimp op_lt fun v u H Q ⟨x, y, S, Qh, rh, rx, ry, w, k⟩ => by
    cases x <;> cases y <;> first | exact False.elim w | skip
    cases rd_int rx; cases rd_int ry
    exact ⟨_, _, rfl, rfl, k.at rh mk_bl w⟩
  | .le => oimp op_le fun v u H Q ⟨x, y, S, Qh, rh, rx, ry, w, k⟩ => by
    cases x <;> cases y <;> first | exact False.elim w | skip
    cases rd_int rx; cases rd_int ry
    exact ⟨_, _, rfl, rfl, k.at rh mk_bl w⟩
  | .gt => oimp op_gt fun v u H Q ⟨x, y, S, Qh, rh, rx, ry, w, k⟩ => by
    cases x <;> cases y <;> first | exact False.elim w | skip
    cases rd_int rx; cases rd_int ry
    exact ⟨_, _, rfl, rfl, k.at rh mk_bl w⟩
  | .ge => oimp op_ge fun v u H Q ⟨x, y, S, Qh, rh, rx, ry, w, k⟩ => by
    cases x <;> cases y <;> first | exact False.elim w | skip
    cases rd_int rx; cases rd_int ry
    exact ⟨_, _, rfl, rfl, k.at rh mk_bl w⟩
  | .is => oimp op_isN fun v u H Q ⟨x, y, S, Qh, rh, rx, ry, w, k⟩ => by
    cases y <;> first | exact False.elim w | skip
    cases rd_non ry
    refine ⟨rfl, k.at rh mk_bl ?_⟩
    cases x with
    | non => cases rd_non rx; exact w
    | bl b => cases rd_bl rx; exact w
    | int b => cases rd_int rx; exact w
    | str b => cases rd_str rx; exact w
    | ref b => cases rd_ref rx; exact w
    | fn b => cases rd_fn rx; exact w
    | tup l => obtain ⟨a, vs, rfl, _⟩ := rd_tup rx; exact w
    | lis l => obtain ⟨a, vs, rfl, _⟩ := rd_lis rx; exact w
    | exc c fs ds => simp only [RD] at rx
  | .isn => oimp op_notN fun v u H Q ⟨x, y, S, Qh, rh, rx, ry, w, k⟩ => by
    cases y <;> first | exact False.elim w | skip
    cases rd_non ry
    refine ⟨rfl, k.at rh mk_bl ?_⟩
    cases x with
    | non => cases rd_non rx; exact w
    | bl b => cases rd_bl rx; exact w
    | int b => cases rd_int rx; exact w
    | str b => cases rd_str rx; exact w
    | ref b => cases rd_ref rx; exact w
    | fn b => cases rd_fn rx; exact w
    | tup l => obtain ⟨a, vs, rfl, _⟩ := rd_tup rx; exact w
    | lis l => obtain ⟨a, vs, rfl, _⟩ := rd_lis rx; exact w
    | exc c fs ds => simp only [RD] at rx
  | .inn => oimp (op_inW hK (by omega)) fun v u H Q ⟨x, y, S, Qh, rh, rx, ry, w, k⟩ => by
    refine ⟨x, y, S, rh, rx, ry, ?_⟩
    simp only [wcmp] at w
    split at w
    · obtain ⟨n, e, q⟩ := w
      exact .inl ⟨_, _, n, rfl, rfl, e, k.at rh mk_bl q⟩
    · exact .inr (.inl ⟨_, .inl rfl, w.1, w.2.1, k.at rh mk_bl w.2.2⟩)
    · split at w
      · exact .inr (.inl ⟨_, .inr ⟨_, rfl, by assumption⟩, w.1, w.2.1, k.at rh mk_bl w.2.2⟩)
      · obtain ⟨j, e, q⟩ := w
        exact .inr (.inr ⟨_, _, j, rfl, .inl (by assumption), e, k.at rh mk_bl q⟩)
      · obtain ⟨j, e, q⟩ := w
        exact .inr (.inr ⟨_, _, j, rfl, .inr ⟨_, by assumption⟩, e, k.at rh mk_bl q⟩)
      · exact w.elim
    · exact w.elim
  | .nni => oimp (op_nni hu) fun v u H Q ⟨x, y, S, Qh, rh, rx, ry, w, k⟩ => by
    simp only [wcmp] at w
    split at w
    · obtain ⟨ps, e, sh, q⟩ := w
      exact ⟨ps, dpS_of hK rh (d := .non) rfl rx, dpS_of hK rh e ry, sh, k.at rh mk_bl q⟩
    · exact w.elim
  | .nin => oimp (op_notInW hK (by omega)) fun v u H Q ⟨x, y, S, Qh, rh, rx, ry, w, k⟩ => by
    refine ⟨x, y, S, rh, rx, ry, ?_⟩
    simp only [wcmp] at w
    split at w
    · obtain ⟨n, e, q⟩ := w
      exact .inl ⟨_, _, n, rfl, rfl, e, k.at rh mk_bl q⟩
    · exact .inr (.inl ⟨_, .inl rfl, w.1, w.2.1, k.at rh mk_bl w.2.2⟩)
    · split at w
      · exact .inr (.inl ⟨_, .inr ⟨_, rfl, by assumption⟩, w.1, w.2.1, k.at rh mk_bl w.2.2⟩)
      · obtain ⟨j, e, q⟩ := w
        exact .inr (.inr ⟨_, _, j, rfl, .inl (by assumption), e, k.at rh mk_bl q⟩)
      · obtain ⟨j, e, q⟩ := w
        exact .inr (.inr ⟨_, _, j, rfl, .inr ⟨_, by assumption⟩, e, k.at rh mk_bl q⟩)
      · exact w.elim
    · exact w.elim
end
section
variable {N : Nm} {Z : Sta × Hp} {X : Cx} {S S' S1 : Sta} {H H' H1 : Hp} {Q : VK} {Qh : K} {σ : L2.St} {ρ : Env} {pos : Pos} {a b c e : Expr} {wa wb wc : Wp}
theorem tru_of (hK : N.K = X.K) {x : D} {v : V} {P : Bool → Prop} (rh : RH N H S) (rx : RD N H x v) (w : wtru S x P) : ∃ k, TruV X.K v H k ∧ P k ∧ wtru S x (fun b => b = k) := by
  cases x with
  | non => cases rd_non rx; exact ⟨false, rfl, w, rfl⟩
  | bl b => cases rd_bl rx; exact ⟨b, rfl, w, rfl⟩
  | int i => cases rd_int rx; exact ⟨i != 0, rfl, w, rfl⟩
  | str s =>
    cases rd_str rx
    obtain ⟨h1, h2⟩ := w
    have e : ((s.length : Int) != 0) = (s.length != 0) := by
      by_cases z : s.length = 0
      · rw [z]; rfl
      · rw [bne_iff_ne.mpr z]; exact bne_iff_ne.mpr (by omega)
    exact ⟨s.length != 0, ⟨h1, e.symm⟩, h2, h1, rfl⟩
  | tup l =>
    obtain ⟨a, vs, rfl, h1, r1⟩ := rd_tup rx
    refine ⟨!l.isEmpty, .inr (.inl ⟨vs, hK ▸ h1, ?_⟩), w, rfl⟩
    cases l with
    | nil => rw [r1.unnil]; rfl
    | cons _ _ => obtain ⟨_, _, rfl, _⟩ := r1.uncons; rfl
  | lis l =>
    obtain ⟨a, vs, rfl, h1, r1⟩ := rd_lis rx
    refine ⟨!l.isEmpty, .inl ⟨vs, hK ▸ h1, ?_⟩, w, rfl⟩
    cases l with
    | nil => rw [r1.unnil]; rfl
    | cons _ _ => obtain ⟨_, _, rfl, _⟩ := r1.uncons; rfl
  | ref a =>
    cases rd_ref rx
    have w' : (match S a with
      | some (.lst xs) => P (!xs.isEmpty)
      | some (.dic kvs) => P (!kvs.isEmpty)
      | _ => False) := w
    cases ea : S a with
    | none => rw [ea] at w'; exact w'.elim
    | some o =>
      rw [ea] at w'
      cases o with
      | lst xs =>
        obtain ⟨vs, h1, r1⟩ := at_lst rh ea
        refine ⟨!xs.isEmpty, .inl ⟨vs, SqL.of h1, ?_⟩, w', ?_⟩
        · cases xs with
          | nil => rw [r1.unnil]; rfl
          | cons _ _ => obtain ⟨_, _, rfl, _⟩ := r1.uncons; rfl
        · simp only [wtru, ea]
      | dic kvs =>
        obtain ⟨ws, h1, e1, _⟩ := at_dic rh ea
        refine ⟨!kvs.isEmpty, .inr (.inr ⟨ws, h1, ?_⟩), w', ?_⟩
        · cases kvs with
          | nil => cases ws with
            | nil => rfl
            | cons _ _ => simp at e1
          | cons _ _ => cases ws with
            | nil => simp at e1
            | cons _ _ => rfl
        · simp only [wtru, ea]
      | _ => exact w'.elim
  | _ => exact (False.elim w)
theorem wtru_at {x : D} {k : Bool} {P : Bool → Prop} (h : wtru S x (fun b => b = k)) (w : wtru S x P) : P k := by
  unfold wtru at h w
  split at h <;> simp_all
  split at h <;> simp_all
theorem wtru_mk {x : D} {k : Bool} {P : Bool → Prop} (h : wtru S x (fun b => b = k)) (p : P k) : wtru S x P := by
  unfold wtru at h ⊢
  cases x with
  | ref a =>
    dsimp only at h ⊢
    cases ea : S a with
    | none => rw [ea] at h; exact h.elim
    | some o =>
      rw [ea] at h
      cases o with
      | lst xs => have h' : (!xs.isEmpty) = k := h; subst h'; exact p
      | dic xs => have h' : (!xs.isEmpty) = k := h; subst h'; exact p
      | _ => exact h.elim
  | str s => obtain ⟨h1, h2⟩ := h; subst h2; exact ⟨h1, p⟩
  | non => have h' : false = k := h; subst h'; exact p
  | bl b => have h' : b = k := h; subst h'; exact p
  | int i => have h' : (i != 0) = k := h; subst h'; exact p
  | tup l => have h' : (!l.isEmpty) = k := h; subst h'; exact p
  | lis l => have h' : (!l.isEmpty) = k := h; subst h'; exact p
  | _ => exact (False.elim h)
def tT (N : Nm) (Z : Sta × Hp) (w : Wp) : TT := fun σ H Q => ∃ (ρ : Env) (S : Sta) (Qx : K), RS N H σ ρ ∧ RH N H S ∧ Fr Z.1 Z.2 S H ∧ w ρ S Qx ∧ ∀ x S' H', Fr S H S' H' → RH N H' S' → Qx x S' → wtru S' x fun k => Q k H'
theorem ptimp {e : Expr} {t t' : TT} (h : PT X e t) (i : ∀ σ H Q, t' σ H Q → t σ H Q) : PT X e t' := ⟨fun pins s σ H Q I q => h.run pins s σ H Q I (i σ H Q q)⟩
theorem pwimp {e : Expr} {t t' : TT} (h : PW X e t) (i : ∀ σ H Q, t' σ H Q → t σ H Q) : PW X e t' := ⟨fun wh pins s σ H Q I q => h.run wh pins s σ H Q I (i σ H Q q)⟩
def plainT : Expr → Bool
  | .Name _ _ => true
  | .Call _ _ _ _ => true
  | .Subscript _ _ _ => true
  | .Attribute _ _ _ => true
  | .Constant _ _ _ => true
  | .BinOp _ _ _ _ => true
  | .List _ _ => true
  | .Tuple _ _ _ => true
  | .ListComp _ _ _ _ => true
  | _ => false
theorem he_truth (hK : N.K = X.K) (h : PE X a (tOf N Z wa)) (pl : plainT a = true) : PT X a (tT N Z wa) := by
  have g : ∀ whole, isTrue a X.env whole = (do let v ← whole; standAt a.pos; holding [v] (truthy v)) := by
    cases a <;> first | (intro _; rfl) | cases pl
  refine ptimp (pt_truth h g) fun σ H Q t => ?_
  obtain ⟨ρ, S, Qx, rs, rh, fz, w, k⟩ := t
  refine ⟨ρ, S, _, rs, rh, fz, w, fun x S1 v H1 f h1 r q => ?_⟩
  obtain ⟨j, t1, p1, _⟩ := tru_of hK h1 r (k x S1 H1 f h1 q)
  exact ⟨j, t1, p1⟩
theorem ht_bl (h : PT X a (tTest (tOf N Z wa))) (hw : ∀ ρ S (Q : K), wa ρ S Q → wa ρ S fun d S' => (∃ b, d = .bl b) ∧ Q d S') : PT X a (tT N Z wa) := by
  refine ptimp h fun σ H Q t => ?_
  obtain ⟨ρ, S, Qx, rs, rh, fz, w, k⟩ := t
  refine ⟨ρ, S, _, rs, rh, fz, hw _ _ _ w, fun x S1 v H1 f h1 r ⟨⟨b, e⟩, q⟩ => ?_⟩
  subst e
  cases rd_bl r
  exact ⟨b, rfl, k _ S1 H1 f h1 q⟩
def hv (i : Nat) : Wp := fun ρ S Q => ∃ d, ρ[i]? = some (some d) ∧ Q d S
theorem he_v {i : Nat} {x : Str} (hx : ∀ r, N.xs = some r → r.1 ≠ i) (hN : X.N[i]? = some x) (hv' : Vis X.env.scope x) (hd : (x == ("__debug__" : Str)) = false) (hcd : (x == ("__classdict__" : Str)) = false) : PE X (.Name x pos) (tOf N Z (hv i)) :=
  pimp (pe_var hN hv' hd hcd) fun σ H Q ⟨ρ, S, Qh, rs, rh, fz, ⟨d, e, q⟩, k⟩ => let ⟨v, e2, r⟩ := rs.at hx e; ⟨v, e2, k.at rh r q⟩
def hc (d : D) : Wp := fun _ S Q => Q d S
theorem he_c {t : V} {d : D} (h : PE X e (tC t)) (r : ∀ H, RD N H d t) : PE X e (tOf N Z (hc d)) :=
  pimp h fun σ H Q ⟨ρ, S, Qh, rs, rh, fz, q, k⟩ => k.at rh (r H) q
theorem he_nev {w : Wp} (h : ∀ ρ S Q, ¬ w ρ S Q) : PE X e (tOf N Z w) := ⟨fun _ _ _ _ _ _ ⟨ρ, S, Qh, _, _, _, q, _⟩ => (h _ _ _ q).elim⟩
theorem ht_nev {w : Wp} (h : ∀ ρ S Q, ¬ w ρ S Q) : PT X e (tT N Z w) := ⟨fun _ _ _ _ _ _ ⟨ρ, S, Qh, _, _, _, q, _⟩ => (h _ _ _ q).elim⟩
def gNeg : D → Sta → K → Prop := fun x S1 Q => match x with
    | .int i => Q (.int (-i)) S1
    | _ => False
theorem he_neg (ha : PE X a (tOf N Z wa)) : PE X (.UnaryOp .USub a pos) (tOf N Z fun ρ S Q => wa ρ S fun x S1 => gNeg x S1 Q) :=
  pimp (pe_un un_neg ha) fun σ H Q t => tOf.one (g := fun _ x S1 Q => gNeg x S1 Q) t fun ρ x S1 v H1 Qh rs rh fz r g k => by
    cases x with
    | int i => cases rd_int r; exact ⟨i, rfl, k.at rh mk_int g⟩
    | _ => exact (False.elim g)
theorem he_not (hK : N.K = X.K) (ha : PE X a (tOf N Z wa)) : PE X (.UnaryOp .Not a pos) (tOf N Z fun ρ S Q => wa ρ S fun x S1 => wtru S1 x fun b => Q (.bl (!b)) S1) :=
  pimp (pe_notT ha) fun σ H Q t => tOf.one (g := fun _ x S1 Q => wtru S1 x fun b => Q (.bl (!b)) S1) t fun ρ x S1 v H1 Qh rs rh fz r g k => by
    obtain ⟨j, t1, p1, _⟩ := tru_of hK rh r g
    exact ⟨j, t1, k.at rh mk_bl p1⟩
theorem wtru_some {x : D} {P : Bool → Prop} (w : wtru S x P) : ∃ k, P k ∧ wtru S x (fun b => b = k) := by
  cases x with
  | non => exact ⟨_, w, rfl⟩
  | bl b => exact ⟨_, w, rfl⟩
  | int i => exact ⟨_, w, rfl⟩
  | str s => exact ⟨_, w.2, w.1, rfl⟩
  | tup l => exact ⟨_, w, rfl⟩
  | lis l => exact ⟨_, w, rfl⟩
  | ref a =>
    unfold wtru at w ⊢
    dsimp only at w ⊢
    cases ea : S a with
    | none => rw [ea] at w; exact w.elim
    | some o =>
      rw [ea] at w
      cases o with
      | lst xs => exact ⟨_, w, rfl⟩
      | dic xs => exact ⟨_, w, rfl⟩
      | _ => exact w.elim
  | _ => exact (False.elim w)
theorem ht_not (ha : PT X a (tT N Z wa)) : PT X (.UnaryOp .Not a pos) (tT N Z fun ρ S Q => wa ρ S fun x S1 => wtru S1 x fun b => Q (.bl (!b)) S1) :=
  ptimp (pt_not ha) fun σ H Q ⟨ρ, S, Qx, rs, rh, fz, w, k⟩ => ⟨ρ, S, _, rs, rh, fz, w, fun x S' H' f h q => by
    obtain ⟨j, p, t⟩ := wtru_some q
    exact wtru_mk t (k _ S' H' f h p)⟩
def hAnd (wa wb : Wp) : Wp := fun ρ S Q => wa ρ S fun x S1 => wtru S1 x fun c => if c = true then wb ρ S1 Q else Q x S1
def hOr (wa wb : Wp) : Wp := fun ρ S Q => wa ρ S fun x S1 => wtru S1 x fun c => if c = true then Q x S1 else wb ρ S1 Q
variable {r : List Expr}
theorem he_and (hK : N.K = X.K) (ha : PE X a (tOf N Z wa)) (hb : PE X (.BoolOp .And (b :: r) pos) (tOf N Z wb)) : PE X (.BoolOp .And (a :: b :: r) pos) (tOf N Z (hAnd wa wb)) :=
  pimp (pe_andT ha hb) fun σ H Q t => tOf.one (g := fun ρ x S1 Q => wtru S1 x fun c => if c = true then wb ρ S1 Q else Q x S1) t fun ρ x S1 v H1 Qh rs rh fz rx g k => by
    obtain ⟨j, t1, p1, _⟩ := tru_of hK rh rx g
    refine ⟨j, t1, ?_⟩
    cases j with
    | true => exact ⟨ρ, S1, Qh, rs, rh, fz, p1, k⟩
    | false => exact k.at rh rx p1
theorem he_or (hK : N.K = X.K) (ha : PE X a (tOf N Z wa)) (hb : PE X (.BoolOp .Or (b :: r) pos) (tOf N Z wb)) : PE X (.BoolOp .Or (a :: b :: r) pos) (tOf N Z (hOr wa wb)) :=
  pimp (pe_orT ha hb) fun σ H Q t => tOf.one (g := fun ρ x S1 Q => wtru S1 x fun c => if c = true then Q x S1 else wb ρ S1 Q) t fun ρ x S1 v H1 Qh rs rh fz rx g k => by
    obtain ⟨j, t1, p1, _⟩ := tru_of hK rh rx g
    refine ⟨j, t1, ?_⟩
    cases j with
    | false => exact ⟨ρ, S1, Qh, rs, rh, fz, p1, k⟩
    | true => exact k.at rh rx p1
theorem he_bool1 {o : BoolOp} (h : PE X a (tOf N Z wa)) : PE X (.BoolOp o [a] pos) (tOf N Z wa) := pe_one h
theorem hw_and1 (ha : PT X a (tT N Z wa)) : PW X (.BoolOp .And [a] pos) (tT N Z wa) := pw_and1 ha
theorem hw_or1 (ha : PT X a (tT N Z wa)) : PW X (.BoolOp .Or [a] pos) (tT N Z wa) := pw_or1 ha
theorem hw_and (ha : PT X a (tT N Z wa)) (hb : PW X (.BoolOp .And (b :: r) pos) (tT N Z wb)) : PW X (.BoolOp .And (a :: b :: r) pos) (tT N Z (hAnd wa wb)) :=
  pwimp (pw_and ha hb) fun σ H Q ⟨ρ, S, Qx, rs, rh, fz, w, k⟩ => ⟨ρ, S, _, rs, rh, fz, w, fun x S' H' f h q => by
    obtain ⟨j, p, t⟩ := wtru_some q
    refine wtru_mk t ?_
    cases j with
    | true => exact ⟨ρ, S', Qx, rs.mono (f.dle rh), h, fz.trans f, p, fun x S2 H2 f2 h2 q2 => k x S2 H2 (f.trans f2) h2 q2⟩
    | false => exact wtru_at t (k x S' H' f h p)⟩
theorem hw_or (ha : PT X a (tT N Z wa)) (hb : PW X (.BoolOp .Or (b :: r) pos) (tT N Z wb)) : PW X (.BoolOp .Or (a :: b :: r) pos) (tT N Z (hOr wa wb)) :=
  pwimp (pw_or ha hb) fun σ H Q ⟨ρ, S, Qx, rs, rh, fz, w, k⟩ => ⟨ρ, S, _, rs, rh, fz, w, fun x S' H' f h q => by
    obtain ⟨j, p, t⟩ := wtru_some q
    refine wtru_mk t ?_
    cases j with
    | false => exact ⟨ρ, S', Qx, rs.mono (f.dle rh), h, fz.trans f, p, fun x S2 H2 f2 h2 q2 => k x S2 H2 (f.trans f2) h2 q2⟩
    | true => exact wtru_at t (k x S' H' f h p)⟩
def hIte (wt wa wb : Wp) : Wp := fun ρ S Q => wt ρ S fun x S1 => wtru S1 x fun c => if c = true then wa ρ S1 Q else wb ρ S1 Q
theorem he_ite (ht : PT X c (tT N Z wc)) (ha : PE X a (tOf N Z wa)) (hb : PE X b (tOf N Z wb)) : PE X (.IfExp c a b pos) (tOf N Z (hIte wc wa wb)) :=
  pimp (pe_ifExp ht ha hb) fun σ H Q ⟨ρ, S, Qh, rs, rh, fz, w, k⟩ => ⟨ρ, S, _, rs, rh, fz, w, fun x S' H' f h q => by
    obtain ⟨j, p, t⟩ := wtru_some q
    refine wtru_mk t ?_
    cases j with
    | true => exact ⟨ρ, S', Qh, rs.mono (f.dle rh), h, fz.trans f, p, k.step f⟩
    | false => exact ⟨ρ, S', Qh, rs.mono (f.dle rh), h, fz.trans f, p, k.step f⟩⟩
def hCmp (C : Orc) (o : Co) (wa wb : Wp) : Wp := fun ρ S Q => wa ρ S fun x S1 => wb ρ S1 fun y S2 => wcmp C o x y S2 fun r S3 => Q (.bl r) S3
theorem hCmp_bl {C : Orc} {o : Co} (ρ : Env) (S : Sta) (Q : K) (w : hCmp C o wa wb ρ S Q) : hCmp C o wa wb ρ S fun d S' => (∃ b, d = .bl b) ∧ Q d S' := by
  unfold hCmp at w ⊢
  simpa using w
theorem cmp_pe {C : Orc} {o : Co} (σ : L2.St) (H : Hp) (Q : VK) (t : tOf N Z (hCmp C o wa wb) σ H Q) : tOp (rCmp N C o) (tOf N Z wa) (tOf N Z wb) σ H Q :=
  tOf.two (g := fun x y S2 Q => wcmp C o x y S2 fun r S3 => Q (.bl r) S3) t fun x y S2 v u H2 Qh h rx ry g k => ⟨x, y, S2, Qh, h, rx, ry, g, k⟩
theorem he_cmp {C : Orc} {o : Co} (ho : OpR X (compareOp (coOp o)) (rCmp N C o)) (ha : PE X a (tOf N Z wa)) (hb : PE X b (tOf N Z wb)) (hm : behindInMarks (coOp o) b = false) : PE X (.Compare a [coOp o] [b] pos) (tOf N Z (hCmp C o wa wb)) :=
  pimp (pe_cmpR ho ha hb hm) cmp_pe
theorem ht_cmp {C : Orc} {o : Co} (ho : OpR X (compareOp (coOp o)) (rCmp N C o)) (ha : PE X a (tOf N Z wa)) (hb : PE X b (tOf N Z wb)) (hm : behindInMarks (coOp o) b = false) : PT X (.Compare a [coOp o] [b] pos) (tT N Z (hCmp C o wa wb)) :=
  ht_bl (ptimp (pt_cmpR ho ha hb hm) fun σ H Q t => cmp_pe σ H _ t) hCmp_bl
end
end A
namespace A
open PySem L2 PyProof.Rows
section
variable {N : Nm} {Z : Sta × Hp} {X : Cx} {S S' S1 : Sta} {H H' H1 : Hp} {Q : VK} {Qh : K} {σ : L2.St} {ρ : Env} {pos : Pos} {a b c e : Expr} {wa wb wc : Wp}
def hChn (C : Orc) (o o' : Co) (wa wb wc : Wp) : Wp := fun ρ S Q => wa ρ S fun x S1 => wb ρ S1 fun y S2 => wcmp C o x y S2 fun r S3 => if r = true then wc ρ S3 fun z S4 => wcmp C o' y z S4 fun r S5 => Q (.bl r) S5 else Q (.bl false) S3
theorem hChn_bl {C : Orc} {o o' : Co} (ρ : Env) (S : Sta) (Q : K) (w : hChn C o o' wa wb wc ρ S Q) : hChn C o o' wa wb wc ρ S fun d S' => (∃ b, d = .bl b) ∧ Q d S' := by
  unfold hChn at w ⊢
  simpa using w
theorem chn_pe {C : Orc} {o o' : Co} (σ : L2.St) (H : Hp) (Q : VK) (t : tOf N Z (hChn C o o' wa wb wc) σ H Q) : tChain (rCmp N C o) (rCmp N C o') (tOf N Z wa) (tOf N Z wb) (tOf N Z wc) σ H Q := by
  refine tOf.one (g := fun ρ x S1 Q => wb ρ S1 fun y S2 => wcmp C o x y S2 fun r S3 => if r = true then wc ρ S3 fun z S4 => wcmp C o' y z S4 fun r S5 => Q (.bl r) S5 else Q (.bl false) S3) t fun ρ x S1 v H1 Qh rs rh fz rx q k => ?_
  refine ⟨ρ, S1, _, rs, rh, fz, q, fun y S2 u H2 f h2 r2 q2 => ?_⟩
  refine ⟨x, y, S2, fun d S3 => ∃ b, d = .bl b ∧ if b = true then wc ρ S3 fun z S4 => wcmp C o' y z S4 fun r S5 => Qh (.bl r) S5 else Qh (.bl false) S3, h2, RD.mono (f.dle rh) _ _ rx, r2, by simpa using q2, fun d S3 v3 H3 f3 h3 r3 q3 => ?_⟩
  obtain ⟨j, e, q3⟩ := q3
  subst e
  cases rd_bl r3
  refine ⟨j, rfl, ?_⟩
  have k3 := (k.step f).step f3
  cases j with
  | true =>
    refine ⟨ρ, S3, _, (rs.mono (f.dle rh)).mono (f3.dle h2), h3, (fz.trans f).trans f3, q3, fun z S4 t H4 f4 h4 r4 q4 => ?_⟩
    exact ⟨y, z, S4, Qh, h4, RD.mono (f4.dle h3) _ _ (RD.mono (f3.dle h2) _ _ r2), r4, q4, k3.step f4⟩
  | false => exact k3.at h3 mk_bl q3
theorem he_chn {C : Orc} {o o' : Co} (ho : OpR X (compareOp (coOp o)) (rCmp N C o)) (ho' : OpR X (compareOp (coOp o')) (rCmp N C o')) (ha : PE X a (tOf N Z wa)) (hb : PE X b (tOf N Z wb)) (hc : PE X c (tOf N Z wc))
    (hm : lastMarks [coOp o, coOp o'] [b, c] = false) : PE X (.Compare a [coOp o, coOp o'] [b, c] pos) (tOf N Z (hChn C o o' wa wb wc)) :=
  pimp (pe_chain ho ho' ha hb hc hm) chn_pe
theorem ht_chn {C : Orc} {o o' : Co} (ho : OpR X (compareOp (coOp o)) (rCmp N C o)) (ho' : OpR X (compareOp (coOp o')) (rCmp N C o')) (ha : PE X a (tOf N Z wa)) (hb : PE X b (tOf N Z wb)) (hc : PE X c (tOf N Z wc))
    (hm : lastMarks [coOp o, coOp o'] [b, c] = false) : PT X (.Compare a [coOp o, coOp o'] [b, c] pos) (tT N Z (hChn C o o' wa wb wc)) :=
  ht_bl (ptimp (pt_chain ho ho' ha hb hc hm) fun σ H Q t => chn_pe σ H _ t) hChn_bl
def tChain3 (r r' r'' : R2) (ta tb tc td : TE) : TE := fun σ H Q => ta σ H fun x H1 => tb σ H1 fun y H2 => r x y H2 fun z H3 => ∃ k, z = .bl k ∧
  (if k = true then tc σ H3 fun w H4 => r' y w H4 fun z H5 => ∃ k, z = .bl k ∧ (if k = true then td σ H5 fun u H6 => r'' w u H6 Q else Q (.bl false) H5) else Q (.bl false) H3)
theorem pe_chain3 {d : Expr} {op op' op'' : CmpOp} {r r' r'' : R2} {ta tb tc td : TE} (ho : OpR X (compareOp op) r) (ho' : OpR X (compareOp op') r') (ho'' : OpR X (compareOp op'') r'') (ha : PE X a ta) (hb : PE X b tb) (hc : PE X c tc) (hd : PE X d td)
    (hm : lastMarks [op, op', op''] [b, c, d] = false) : PE X (.Compare a [op, op', op''] [b, c, d] pos) (tChain3 r r' r'' ta tb tc td) := by
  refine ⟨fun pins s σ H Q I h => ?_⟩
  refine Compare_chain (thn (ha.run pins s σ H _ I h) fun v s1 ⟨x, H1, I1, r1, q1⟩ => chain_link (thn (hb.run pins s1 σ H1 _ I1 q1) fun u s2 ⟨y, H2, I2, r2, q2⟩ =>
    thn (ho pins s2 σ H2 x y v u _ I2 r1 r2 q2) fun d s3 ⟨z, H3, I3, r3, k, e, q3⟩ => ?_)) hm
  subst e
  cases r3
  refine wpAny_truthy_bool ?_
  cases k with
  | false => exact ite_ff ⟨.bl false, H3, I3, rfl, q3⟩
  | true =>
    refine ite_tt (chain_link (thn (hc.run pins s3 σ H3 _ I3 q3) fun w' s4 ⟨z', H4, I4, r4, q4⟩ => thn (ho' pins s4 σ H4 y z' u w' _ I4 r2 r4 q4) fun d s5 ⟨z, H5, I5, r5, k, e, q5⟩ => ?_))
    subst e
    cases r5
    refine wpAny_truthy_bool ?_
    cases k with
    | false => exact ite_ff ⟨.bl false, H5, I5, rfl, q5⟩
    | true => exact ite_tt (chain_last (thn (hd.run pins s5 σ H5 _ I5 q5) fun w2 s6 ⟨z2, H6, I6, r6, q6⟩ => ho'' pins s6 σ H6 z' z2 w' w2 Q I6 r4 r6 q6))
theorem pt_chain3 {d : Expr} {op op' op'' : CmpOp} {r r' r'' : R2} {ta tb tc td : TE} (ho : OpR X (compareOp op) r) (ho' : OpR X (compareOp op') r') (ho'' : OpR X (compareOp op'') r'') (ha : PE X a ta) (hb : PE X b tb) (hc : PE X c tc) (hd : PE X d td)
    (hm : lastMarks [op, op', op''] [b, c, d] = false) : PT X (.Compare a [op, op', op''] [b, c, d] pos) (tTest (tChain3 r r' r'' ta tb tc td)) := by
  refine ⟨fun pins s σ H Q I h => ?_⟩
  refine isTrue_chain (thn (ha.run pins s σ H _ I h) fun v s1 ⟨x, H1, I1, r1, q1⟩ => test_link (thn (hb.run pins s1 σ H1 _ I1 q1) fun u s2 ⟨y, H2, I2, r2, q2⟩ =>
    thn (ho pins s2 σ H2 x y v u _ I2 r1 r2 q2) fun d s3 ⟨z, H3, I3, r3, k, e, q3⟩ => ?_)) hm
  subst e
  cases r3
  refine wpAny_truthy_bool ?_
  cases k with
  | false =>
    obtain ⟨k', e', q'⟩ := q3
    cases e'
    exact ite_ff ⟨H3, I3, q'⟩
  | true =>
    refine ite_tt (test_link (thn (hc.run pins s3 σ H3 _ I3 q3) fun w' s4 ⟨z', H4, I4, r4, q4⟩ => thn (ho' pins s4 σ H4 y z' u w' _ I4 r2 r4 q4) fun d s5 ⟨z, H5, I5, r5, k, e, q5⟩ => ?_))
    subst e
    cases r5
    refine wpAny_truthy_bool ?_
    cases k with
    | false =>
      obtain ⟨k', e', q'⟩ := q5
      cases e'
      exact ite_ff ⟨H5, I5, q'⟩
    | true =>
      refine ite_tt (test_last (thn (hd.run pins s5 σ H5 _ I5 q5) fun w2 s6 ⟨z2, H6, I6, r6, q6⟩ => thn (ho'' pins s6 σ H6 z' z2 w' w2 _ I6 r4 r6 q6) fun d' s7 ⟨z3, H7, I7, r7, k2, e2, q7⟩ => ?_))
      subst e2
      cases r7
      exact wpAny_truthy_bool ⟨H7, I7, q7⟩
def hChn3 (C : Orc) (o o' o'' : Co) (wa wb wc wd : Wp) : Wp := fun ρ S Q => wa ρ S fun x S1 => wb ρ S1 fun y S2 => wcmp C o x y S2 fun r S3 => if r = true then wc ρ S3 fun z S4 => wcmp C o' y z S4 fun r S5 => if r = true then wd ρ S5 fun u S6 => wcmp C o'' z u S6 fun r S7 => Q (.bl r) S7 else Q (.bl false) S5 else Q (.bl false) S3
theorem hChn3_bl {C : Orc} {o o' o'' : Co} {wd : Wp} (ρ : Env) (S : Sta) (Q : K) (w : hChn3 C o o' o'' wa wb wc wd ρ S Q) : hChn3 C o o' o'' wa wb wc wd ρ S fun d S' => (∃ b, d = .bl b) ∧ Q d S' := by
  unfold hChn3 at w ⊢
  simpa using w
theorem chn3_pe {C : Orc} {o o' o'' : Co} {wd : Wp} (σ : L2.St) (H : Hp) (Q : VK) (t : tOf N Z (hChn3 C o o' o'' wa wb wc wd) σ H Q) : tChain3 (rCmp N C o) (rCmp N C o') (rCmp N C o'') (tOf N Z wa) (tOf N Z wb) (tOf N Z wc) (tOf N Z wd) σ H Q := by
  refine tOf.one (g := fun ρ x S1 Q => wb ρ S1 fun y S2 => wcmp C o x y S2 fun r S3 => if r = true then wc ρ S3 fun z S4 => wcmp C o' y z S4 fun r S5 => if r = true then wd ρ S5 fun u S6 => wcmp C o'' z u S6 fun r S7 => Q (.bl r) S7 else Q (.bl false) S5 else Q (.bl false) S3) t fun ρ x S1 v H1 Qh rs rh fz rx q k => ?_
  refine ⟨ρ, S1, _, rs, rh, fz, q, fun y S2 u H2 f h2 r2 q2 => ?_⟩
  refine ⟨x, y, S2, fun d S3 => ∃ b, d = .bl b ∧ if b = true then wc ρ S3 fun z S4 => wcmp C o' y z S4 fun r S5 => if r = true then wd ρ S5 fun u S6 => wcmp C o'' z u S6 fun r S7 => Qh (.bl r) S7 else Qh (.bl false) S5 else Qh (.bl false) S3, h2, RD.mono (f.dle rh) _ _ rx, r2, by simpa using q2, fun d S3 v3 H3 f3 h3 r3 q3 => ?_⟩
  obtain ⟨j, e, q3⟩ := q3
  subst e
  cases rd_bl r3
  refine ⟨j, rfl, ?_⟩
  have k3 := (k.step f).step f3
  cases j with
  | true =>
    refine ⟨ρ, S3, _, (rs.mono (f.dle rh)).mono (f3.dle h2), h3, (fz.trans f).trans f3, q3, fun z S4 t H4 f4 h4 r4 q4 => ?_⟩
    refine ⟨y, z, S4, fun d S5 => ∃ b, d = .bl b ∧ if b = true then wd ρ S5 fun u S6 => wcmp C o'' z u S6 fun r S7 => Qh (.bl r) S7 else Qh (.bl false) S5, h4, RD.mono (f4.dle h3) _ _ (RD.mono (f3.dle h2) _ _ r2), r4, by simpa using q4, fun d S5 v5 H5 f5 h5 r5 q5 => ?_⟩
    obtain ⟨j, e, q5⟩ := q5
    subst e
    cases rd_bl r5
    refine ⟨j, rfl, ?_⟩
    have k5 := (k3.step f4).step f5
    cases j with
    | true =>
      refine ⟨ρ, S5, _, (((rs.mono (f.dle rh)).mono (f3.dle h2)).mono (f4.dle h3)).mono (f5.dle h4), h5, (((fz.trans f).trans f3).trans f4).trans f5, q5, fun u S6 t6 H6 f6 h6 r6 q6 => ?_⟩
      exact ⟨z, u, S6, Qh, h6, RD.mono (f6.dle h5) _ _ (RD.mono (f5.dle h4) _ _ r4), r6, q6, k5.step f6⟩
    | false => exact k5.at h5 mk_bl q5
  | false => exact k3.at h3 mk_bl q3
theorem he_chn3 {d : Expr} {wd : Wp} {C : Orc} {o o' o'' : Co} (ho : OpR X (compareOp (coOp o)) (rCmp N C o)) (ho' : OpR X (compareOp (coOp o')) (rCmp N C o')) (ho'' : OpR X (compareOp (coOp o'')) (rCmp N C o'')) (ha : PE X a (tOf N Z wa)) (hb : PE X b (tOf N Z wb)) (hc : PE X c (tOf N Z wc)) (hd : PE X d (tOf N Z wd))
    (hm : lastMarks [coOp o, coOp o', coOp o''] [b, c, d] = false) : PE X (.Compare a [coOp o, coOp o', coOp o''] [b, c, d] pos) (tOf N Z (hChn3 C o o' o'' wa wb wc wd)) :=
  pimp (pe_chain3 ho ho' ho'' ha hb hc hd hm) chn3_pe
theorem ht_chn3 {d : Expr} {wd : Wp} {C : Orc} {o o' o'' : Co} (ho : OpR X (compareOp (coOp o)) (rCmp N C o)) (ho' : OpR X (compareOp (coOp o')) (rCmp N C o')) (ho'' : OpR X (compareOp (coOp o'')) (rCmp N C o'')) (ha : PE X a (tOf N Z wa)) (hb : PE X b (tOf N Z wb)) (hc : PE X c (tOf N Z wc)) (hd : PE X d (tOf N Z wd))
    (hm : lastMarks [coOp o, coOp o', coOp o''] [b, c, d] = false) : PT X (.Compare a [coOp o, coOp o', coOp o''] [b, c, d] pos) (tT N Z (hChn3 C o o' o'' wa wb wc wd)) :=
  ht_bl (ptimp (pt_chain3 ho ho' ho'' ha hb hc hd hm) fun σ H Q t => chn3_pe σ H _ t) hChn3_bl
abbrev Wps := Env → Sta → (List D → Sta → Prop) → Prop
def tA (N : Nm) (Z : Sta × Hp) (w : Wps) : TA := fun σ H Q => ∃ (ρ : Env) (S : Sta) (Ql : List D → Sta → Prop), RS N H σ ρ ∧ RH N H S ∧ Fr Z.1 Z.2 S H ∧ w ρ S Ql ∧ ∀ ds S' vs H', Fr S H S' H' → RH N H' S' → RDs N H' ds vs → Ql ds S' → Q vs H'
theorem paimp {es : List Expr} {t t' : TA} (h : PA X es t) (i : ∀ σ H Q, t' σ H Q → t σ H Q) : PA X es t' := ⟨fun p pins s σ H Q I q => h.run p pins s σ H Q I (i σ H Q q)⟩
def plainA : Expr → Bool
  | .Starred _ _ => false
  | _ => true
theorem starEach_plain {e : Expr} {es : List Expr} (env : PySem.Env) (h : plainA e = true) : starEach (e :: es) env = (false, eval e env) :: starEach es env := by
  cases e <;> first | rfl | cases h
theorem star_none {es : List Expr} (env : PySem.Env) (h : es.all plainA = true) : (backTo pos (starEach es env)).any (·.1) = false := by
  induction es with
  | nil => rfl
  | cons e es ih =>
    simp only [List.all_cons, Bool.and_eq_true] at h
    rw [starEach_plain env h.1]
    show (false || (backTo pos (starEach es env)).any (·.1)) = false
    rw [ih h.2]; rfl
theorem ha_nil : PA X [] (tA N Z fun _ S Q => Q [] S) := paimp pa_nil fun σ H Q ⟨ρ, S, Ql, rs, rh, fz, w, k⟩ => k [] S [] H Fr.refl rh .nil w
def hCons (wa : Wp) (wr : Wps) : Wps := fun ρ S Q => wa ρ S fun x S1 => wr ρ S1 fun ds S2 => Q (x :: ds) S2
theorem ha_cons {es : List Expr} {wr : Wps} (h : PE X e (tOf N Z wa)) (hr : PA X es (tA N Z wr)) (pl : plainA e = true) : PA X (e :: es) (tA N Z (hCons wa wr)) :=
  paimp (pa_cons h hr (starEach_plain _ pl)) fun σ H Q ⟨ρ, S, Ql, rs, rh, fz, w, k⟩ => ⟨ρ, S, _, rs, rh, fz, w, fun x S1 v H1 f h1 r q =>
    ⟨ρ, S1, _, rs.mono (f.dle rh), h1, fz.trans f, q, fun ds S2 vs H2 f2 h2 r2 q2 => k (x :: ds) S2 (v :: vs) H2 (f.trans f2) h2 (.cons (RD.mono (f2.dle h1) _ _ r) r2) q2⟩⟩
theorem he_tup {es : List Expr} {wr : Wps} {k : Nat} (h : PA X es (tA N Z wr)) : PE X (.Tuple es k pos) (tOf N Z fun ρ S Q => wr ρ S fun ds S1 => ds.length ≤ sizeLine ∧ Q (.tup ds) S1) :=
  pimp (pe_tup h) fun σ H Q ⟨ρ, S, Qh, rs, rh, fz, w, k⟩ => ⟨ρ, S, _, rs, rh, fz, w, fun ds S' vs H' f h' r ⟨q1, q2⟩ => ⟨by rw [← r.length]; exact q1, fun p n => (k.step f).newT h' n r q2⟩⟩
theorem he_lst {es : List Expr} {wr : Wps} (h : PA X es (tA N Z wr)) : PE X (.List es pos) (tOf N Z fun ρ S Q => wr ρ S fun ds S1 => ds.length ≤ sizeLine ∧ ∀ p, S1 p = none → Q (.ref p) (ups S1 p (.lst ds))) :=
  pimp (pe_lst h) fun σ H Q ⟨ρ, S, Qh, rs, rh, fz, w, k⟩ => ⟨ρ, S, _, rs, rh, fz, w, fun ds S' vs H' f h' r ⟨q1, q2⟩ => ⟨by rw [← r.length]; exact q1, fun p n => (k.step f).newL h' n r q2⟩⟩
theorem ix_dict (hu : X.A.units + 1 < cLine) : IxR X (fun x y H Q => ∃ p v, x = .ref p ∧ DGet H p y (some v) ∧ Q v H) := by
  intro value slice pins s σ H x y v u Q I rx ry h hs
  obtain ⟨p, d, rfl, g, q⟩ := h
  cases rx
  exact tail_any (dict_typeIs I g) PySem.F.slot_dict_getitem.lookup (d_getItem hu I g ry fun w' s' I' r' => ⟨d, H, I', r', q⟩) hs
def rIxA (N : Nm) : R2 := fun v u H Q => ∃ x y S Qh, RH N H S ∧ RD N H x v ∧ RD N H y u ∧ wix x y S Qh ∧ Kn N S H Qh Q
theorem rds_at {ds : List D} {vs : List V} {i : Int} {d : D} (r : RDs N H ds vs) (e : L2.atI ds i = some d) : ∃ v, L2.atI vs i = some v ∧ RD N H d v := by
  unfold L2.atI at e ⊢
  rw [← r.length]
  cases h : ixN ds.length i with
  | none => rw [h] at e; cases e
  | some j =>
    rw [h] at e
    exact r.get e
theorem ix_all (hK : N.K = X.K) (hu : X.A.units + 1 < cLine) : ∀ v u H Q, rIxA N v u H Q → (rIx X.K v u H Q ∨ ∃ p d, v = .ref p ∧ DGet H p u (some d) ∧ Q d H) := by
  rintro v u H Q ⟨x, y, S, Qh, rh, rx, ry, w, k⟩
  have dic : ∀ a kvs, x = .ref a → (S a = some (.dic kvs) ∨ ∃ fu, S a = some (.dicF kvs fu)) → (∃ k d, keyD y = some k ∧ kget kvs k = some d ∧ Qh d S) → ∃ p d, v = .ref p ∧ DGet H p u (some d) ∧ Q d H := fun a kvs e hs ⟨key, d, h1, h2, q⟩ => by
    subst e
    cases rd_ref rx
    obtain ⟨o, g, z⟩ := dget_of rh hs key
    rcases z with ⟨z, _⟩ | ⟨d', v', z1, z2, z3⟩
    · rw [z] at h2; cases h2
    · rw [z1] at h2; cases h2
      rw [key_rd h1 ry]
      subst z2
      exact ⟨a, v', rfl, g, k.at rh z3 q⟩
  cases x with
  | tup l =>
    cases y with
    | int i =>
      cases rd_int ry
      obtain ⟨a, vs, rfl, h1, r1⟩ := rd_tup rx
      obtain ⟨d, e, q⟩ := w
      obtain ⟨v, e', r'⟩ := rds_at r1 e
      exact .inl (.inr (.inl ⟨a, vs, i, v, rfl, rfl, hK ▸ h1, e', k.at rh r' q⟩))
    | _ => exact (False.elim w)
  | lis l =>
    cases y with
    | int i =>
      cases rd_int ry
      obtain ⟨a, vs, rfl, h1, r1⟩ := rd_lis rx
      obtain ⟨d, e, q⟩ := w
      obtain ⟨v, e', r'⟩ := rds_at r1 e
      exact .inl (.inl ⟨a, vs, i, v, rfl, rfl, hK ▸ h1, e', k.at rh r' q⟩)
    | _ => exact (False.elim w)
  | str z =>
    cases y with
    | int i =>
      cases rd_int ry; cases rd_str rx
      obtain ⟨h1, n, e, q⟩ := w
      exact .inl (.inr (.inr ⟨z, i, n, rfl, rfl, h1, e, k.at rh mk_str q⟩))
    | _ => exact (False.elim w)
  | ref a =>
    cases ea : S a with
    | none => simp only [wix, ea] at w
    | some o =>
      cases o with
      | lst l =>
        simp only [wix, ea] at w
        cases y with
        | int i =>
          cases rd_int ry; cases rd_ref rx
          obtain ⟨vs, h1, r1⟩ := at_lst rh ea
          obtain ⟨d, e, q⟩ := w
          obtain ⟨v, e', r'⟩ := rds_at r1 e
          exact .inl (.inl ⟨a, vs, i, v, rfl, rfl, SqL.of h1, e', k.at rh r' q⟩)
        | _ => exact (False.elim w)
      | dic kvs => simp only [wix, ea] at w; exact .inr (dic a kvs rfl (.inl ea) w)
      | dicF kvs fu => simp only [wix, ea] at w; exact .inr (dic a kvs rfl (.inr ⟨fu, ea⟩) w)
      | _ => simp only [wix, ea] at w
  | _ => exact (False.elim w)
theorem ix_A (hK : N.K = X.K) (hu : X.A.units + 1 < cLine) : IxR X (rIxA N) := fun value slice pins s σ H x y v u Q I rx ry h hs =>
  (ix_seq.or (ix_dict hu)) value slice pins s σ H x y v u Q I rx ry (ix_all hK hu x y H Q h) hs
def plainIx : Expr → Bool
  | .Slice _ _ _ _ => false
  | _ => true
theorem plainIx_ok {e : Expr} (h : plainIx e = true) : PlainIx e := by
  intro o i
  cases e <;> first | rfl | cases h
theorem he_ix (hK : N.K = X.K) (hu : X.A.units + 1 < cLine) (ha : PE X a (tOf N Z wa)) (hb : PE X b (tOf N Z wb)) (pl : plainIx b = true) : PE X (.Subscript a b pos) (tOf N Z fun ρ S Q => wa ρ S fun x S1 => wb ρ S1 fun y S2 => wix x y S2 Q) :=
  pimp (pe_ix (ix_A hK hu) ha hb (plainIx_ok pl)) fun σ H Q t => tOf.two t fun x y S2 v u H2 Qh h rx ry g k => ⟨x, y, S2, Qh, h, rx, ry, g, k⟩
theorem cutD_rds {ds : List D} {vs : List V} {l h : Option Int} (r : RDs N H ds vs) : RDs N H (cutD ds l h) (cutV vs l h) := by
  unfold cutD cutV
  rw [← r.length]
  exact (r.drop _).take _
theorem cutD_whole {ds : List D} {l h : Option Int} (h1 : HT.sIx ds.length 0 l = 0) (h2 : HT.sIx ds.length ds.length h = ds.length) : cutD ds l h = ds := by
  unfold cutD
  rw [h1, h2]
  simp
abbrev We := Env → Sta → (Option Int → Sta → Prop) → Prop
def tEnd (N : Nm) (Z : Sta × Hp) (w : We) : TO := fun σ H Q => ∃ (ρ : Env) (S : Sta) (Qe : Option Int → Sta → Prop), RS N H σ ρ ∧ RH N H S ∧ Fr Z.1 Z.2 S H ∧ w ρ S Qe ∧ ∀ i S' H', Fr S H S' H' → RH N H' S' → Qe i S' → Q i H'
theorem ho_none : PO X none (tEnd N Z fun _ S Q => Q none S) := ⟨fun pins s σ H Q I ⟨ρ, S, Qe, rs, rh, fz, w, k⟩ => po_none.run pins s σ H Q I (k _ _ _ Fr.refl rh w)⟩
theorem ho_some (h : PE X e (tOf N Z wa)) : PO X (some e) (tEnd N Z fun ρ S Q => wa ρ S fun d S1 => ∃ i, d = .int i ∧ Q (some i) S1) := ⟨fun pins s σ H Q I ⟨ρ, S, Qe, rs, rh, fz, w, k⟩ => by
  refine (po_some h).run pins s σ H Q I ⟨ρ, S, _, rs, rh, fz, w, fun d S' v H' f h' r q => ?_⟩
  obtain ⟨i, e, q⟩ := q
  subst e
  cases rd_int r
  exact ⟨i, rfl, k _ _ _ f h' q⟩⟩
def rSlW (N : Nm) : V → Option Int → Option Int → Hp → VK → Prop := fun v l h H Q => ∃ x S Qh, RH N H S ∧ RD N H x v ∧ Kn N S H Qh Q ∧ wsl x l h S Qh
theorem sl_A (hK : N.K = X.K) : SlR X (rSlW N) := by
  have base := sl_list (X := X) |>.or (sl_tupA (X := X) |>.or (sl_str (X := X)))
  intro pins s σ H v vv vl vu lo hi sl Q I rv hs pl pu h
  refine base pins s σ H v vv vl vu lo hi sl Q I rv hs pl pu ?_
  obtain ⟨x, S, Qh, rh, rx, k, w⟩ := h
  cases x with
  | tup xs =>
    obtain ⟨a, vs, rfl, h1, r1⟩ := rd_tup rx
    refine .inr (.inl ⟨a, vs, rfl, hK ▸ h1, fun ⟨z1, z2⟩ => ?_, fun _ p n => k.newT rh n (cutD_rds r1) w⟩)
    rw [← r1.length] at z1 z2
    have w' : Qh (.tup (cutD xs lo hi)) S := w
    rw [cutD_whole z1 z2] at w'
    exact k.at rh rx w'
  | lis xs =>
    obtain ⟨a, vs, rfl, h1, r1⟩ := rd_lis rx
    exact .inl ⟨a, vs, rfl, hK ▸ h1, fun p n => k.newL rh n (cutD_rds r1) w⟩
  | str z =>
    cases rd_str rx
    exact .inr (.inr ⟨z, rfl, w.1, k.at rh mk_str w.2⟩)
  | ref a =>
    cases rd_ref rx
    simp only [wsl] at w
    cases ea : S a with
    | none => rw [ea] at w; exact w.elim
    | some o =>
      rw [ea] at w
      cases o with
      | lst xs =>
        obtain ⟨vs, h1, r1⟩ := at_lst rh ea
        exact .inl ⟨a, vs, rfl, SqL.of h1, fun p n => k.newL rh n (cutD_rds r1) w⟩
      | _ => exact w.elim
  | _ => exact (False.elim w)
def hSl (wa : Wp) (wl wh : We) : Wp := fun ρ S Q => wa ρ S fun x S1 => wl ρ S1 fun l S2 => wh ρ S2 fun h S3 => wsl x l h S3 Q
theorem he_sl (hK : N.K = X.K) {lo hi : Option Expr} {wl wh : We} {p2 : Pos} (ha : PE X a (tOf N Z wa)) (hl : PO X lo (tEnd N Z wl)) (hh : PO X hi (tEnd N Z wh)) : PE X (.Subscript a (.Slice lo hi none p2) pos) (tOf N Z (hSl wa wl wh)) :=
  pimp (pe_slice (sl_A hK) ha hl hh) fun σ H Q t => by
    refine tOf.one (g := fun ρ x S1 Q => wl ρ S1 fun l S2 => wh ρ S2 fun h S3 => wsl x l h S3 Q) t fun ρ x S1 v H1 Qh rs rh fz rx q k => ?_
    refine ⟨ρ, S1, _, rs, rh, fz, q, fun l S2 H2 f h2 q2 => ?_⟩
    refine ⟨ρ, S2, _, rs.mono (f.dle rh), h2, fz.trans f, q2, fun h S3 H3 f3 h3 q3 => ?_⟩
    exact ⟨x, S3, Qh, h3, RD.mono (f3.dle h2) _ _ (RD.mono (f.dle rh) _ _ rx), (k.step f).step f3, q3⟩
end
end A
namespace A
open PySem PySem.Spec PyProof.Rows L2
def ddS : List Str → List Str → List Str
  | acc, [] => acc
  | acc, x :: r => ddS (if x ∈ acc then acc else x :: acc) r
theorem ddS_snoc (x : Str) : ∀ (l acc : List Str), ddS acc (l ++ [x]) = if x ∈ ddS acc l then ddS acc l else x :: ddS acc l
  | [], acc => rfl
  | y :: l, acc => ddS_snoc x l _
theorem ddS_len : ∀ (l acc : List Str), (ddS acc l).length ≤ acc.length + l.length
  | [], acc => Nat.le_refl _
  | y :: l, acc => by
    have := ddS_len l (if y ∈ acc then acc else y :: acc)
    show (ddS _ l).length ≤ acc.length + (l.length + 1)
    split at this <;> simp_all <;> omega
theorem ddS_mem (z : Str) : ∀ (l acc : List Str), z ∈ ddS acc l ↔ z ∈ acc ∨ z ∈ l
  | [], acc => by simp [ddS]
  | y :: l, acc => by
    rw [ddS, ddS_mem z l]
    by_cases h : y ∈ acc
    · rw [if_pos h, List.mem_cons]
      exact ⟨fun q => q.elim .inl fun q => .inr (.inr q), fun q => q.elim .inl fun q => q.elim (fun e => .inl (e ▸ h)) .inr⟩
    · rw [if_neg h, List.mem_cons, List.mem_cons]
      exact ⟨fun q => q.elim (fun q => q.elim (fun e => .inr (.inl e)) .inl) fun q => .inr (.inr q), fun q => q.elim (fun q => .inl (.inr q)) fun q => q.elim (fun e => .inl (.inl e)) .inr⟩
theorem ddS_nd : ∀ (l acc : List Str), acc.Nodup → (ddS acc l).Nodup
  | [], acc, h => h
  | y :: l, acc, h => by
    rw [ddS]
    refine ddS_nd l _ ?_
    by_cases q : y ∈ acc
    · rw [if_pos q]; exact h
    · rw [if_neg q]; exact List.nodup_cons.mpr ⟨q, h⟩
def txOf (e : Int × Value) : Str := match e.2 with
  | .str z _ => z
  | _ => Str.empty
def TxE (w : World) (e : Int × Value) : Prop := ∃ z tk, e.2 = Value.str z tk ∧ e.1 = hashStr w z
def SetS (w : World) (h : Heap) (a : Addr) (l : List Str) : Prop := ∃ o es ep t, h.get? a = some o ∧ o.ExactSet ∧ o.data = .set es ep t ∧ (∀ e ∈ es.toList, TxE w e) ∧ (es.toList.map txOf).Perm l ∧ l.Nodup ∧
  es.size < scanBound ∧ t.fits es.size = true ∧ Ris t.place.toList ∧ (w.params.followText "set-order" = true ∨ t.led = true)
section
variable {P : Program} {w : World} {h h' : Heap} {a : Addr} {l : List Str}
theorem SetS.at (R : SetS w h a l) (k : ∀ o, h.get? a = some o → h'.get? a = some o) : SetS w h' a l :=
  let ⟨o, es, ep, t, ho, r⟩ := R
  ⟨o, es, ep, t, k o ho, r⟩
theorem SetS.lt (R : SetS w h a l) : a < h.objs.size := let ⟨_, _, _, _, ho, _⟩ := R; Heap.lt_size ho
theorem tx_elems {m : List (Int × Value)} (g : ∀ e ∈ m, TxE w e) : ElemsOf (PySem.strKind P w) m := fun e he => by
  obtain ⟨z, tk, h1, h2⟩ := g e he
  exact ⟨⟨z, by rw [h1]; exact beq_self_eq_true z, h2⟩, by rw [h1]; rfl⟩
theorem tx_is {e : Int × Value} (g : TxE w e) (z : Str) : (PySem.strKind P w).is z e.2 = true ↔ txOf e = z := by
  obtain ⟨y, tk, h1, _⟩ := g
  unfold txOf
  rw [h1]
  exact beq_iff_eq
theorem tx_mem {m : List (Int × Value)} (g : ∀ e ∈ m, TxE w e) (z : Str) : z ∈ m.map txOf ↔ ∃ e ∈ m, (PySem.strKind P w).is z e.2 = true :=
  List.mem_map.trans ⟨fun ⟨e, he, q⟩ => ⟨e, he, (tx_is (g e he) z).2 q⟩, fun ⟨e, he, q⟩ => ⟨e, he, (tx_is (g e he) z).1 q⟩⟩
theorem setS_fresh (ho : h.get? a = some { cls := .type "set", dict := none, data := .set #[] 0 (.fresh 0 0 (!w.params.followText "set-order")) }) : SetS w h a [] :=
  ⟨_, #[], 0, _, ho, ⟨rfl, rfl, rfl⟩, rfl, fun e he => (by simp at he), .nil, .nil, by decide, rfl, .nil, by
    cases q : w.params.followText "set-order" with
    | true => exact .inl rfl
    | false => exact .inr rfl⟩
end
section
variable {P : Program} {w : World} {A : Around} {E : Value → Shared → Prop} {s : Shared} {a : Addr} {l : List Str}
theorem setS_tail {g : Bool → Sem Unit} (hg : ∀ (b : Bool) (s1 : Shared) (Q' : Unit → Shared → Prop), Q' () s1 → wpAny (model P w) A (g b) Q' E s1) {o : Obj} {es es1 : Array (Int × Value)} {ep : Nat} {t t2 : SetTable} (ho : s.heap.get? a = some o) (hex : o.ExactSet)
    (hd : o.data = .set es ep t) (g1 : ∀ e ∈ es1.toList, TxE w e) (pl : (es1.toList.map txOf).Perm l) (nd : l.Nodup) (hb : es1.size < scanBound) (hf : t2.fits es1.size = true) (hr : Ris t2.place.toList) (hl : w.params.followText "set-order" = true ∨ t2.led = true) {dm : Bool} {R : Option Bool → Shared → Prop}
    (hR : ∀ h', Heap.SameBut a s.heap h' → SetS w h' a l → R (some true) { s with heap := h' }) :
    wpAny (model P w) A (storeSet a es1 t2 >>= fun _ => if (!dm && t2.tooFull) = true then g (relayAll t2 es1 (SetTable.grown es1.size)).2.2 >>= fun _ => storeSet a (relayAll t2 es1 (SetTable.grown es1.size)).1 (relayAll t2 es1 (SetTable.grown es1.size)).2.1 >>= fun _ => pure (some true) else pure (some true)) R E s := by
  refine wpAny_bind (wpAny_storeSet_of ho hd ?_ (fits_of_scanBound hb))
  have o1 := store_at (es' := es1) (t' := t2) ho hd
  have sb := Heap.SameBut.update s.heap a (Obj.putSet es1 t2)
  split
  · have pm := relayAll_perm t2 es1 (SetTable.grown es1.size)
    have f3 := relayAll_fits t2 es1 (SetTable.grown es1.size)
    have r3 := relayAll_ris t2 es1 (SetTable.grown es1.size)
    have l3 := relayAll_led t2 es1 (SetTable.grown es1.size)
    revert pm f3 r3 l3
    generalize relayAll t2 es1 (SetTable.grown es1.size) = Z
    obtain ⟨es2, t3, gave⟩ := Z
    intro pm f3 r3 l3
    dsimp only at pm f3 r3 l3 ⊢
    have b2 : es2.size < scanBound := by rw [← Array.length_toList, pm.length_eq, Array.length_toList]; exact hb
    refine wpAny_bind (hg _ _ _ (wpAny_bind (wpAny_storeSet_of o1 rfl ?_ (fits_of_scanBound b2))))
    refine wpAny_pure (hR _ (sb.trans (Heap.SameBut.update _ a _)) ⟨_, es2, _, t3, store_at (es' := es2) (t' := t3) o1 rfl, hex, rfl, fun e he => g1 e (pm.mem_iff.mp he), (pm.map txOf).trans pl, nd, b2, f3, r3, hl.imp id fun z => l3.trans z⟩)
  · exact wpAny_pure (hR _ sb ⟨_, es1, _, t2, o1, hex, rfl, g1, pl, nd, hb, hf, hr, hl⟩)
theorem setS_add {k : Str} {tk : Tok} {Q : Bool → Shared → Prop} (R : SetS w s.heap a l) (room : l.length + 1 < scanBound)
    (hQ : ∀ h' b, Heap.SameBut a s.heap h' → SetS w h' a (if k ∈ l then l else k :: l) → Q b { s with heap := h' }) : wpAny (model P w) A (setAddHashed a (.str k tk) (hashStr w k)) Q E s := by
  obtain ⟨o, es, ep, t, ho, hex, hd, g, pl, nd, hb, hf, hr, hl⟩ := R
  have hkey : (PySem.strKind P w).is k (.str k tk) = true := beq_self_eq_true k
  have hsc : (Value.str k tk).scannable = true := rfl
  have hel : ElemsOf (PySem.strKind P w) es.toList := tx_elems g
  have hn : es.size = l.length := by rw [← pl.length_eq, List.length_map, Array.length_toList]
  show wpAny (model P w) A (setAddHashed a (.str k tk) ((PySem.strKind P w).hash k)) Q E s
  unfold setAddHashed setAddHashedIn
  refine wpAny_holding (wpAny_bind (wpAny_setState_of ho hd hf ?_))
  dsimp only
  rw [byScan_of hsc hb hel, if_pos rfl]
  unfold setAddByScan
  refine wpAny_bind (wpAny_bind (wpAny_rule (wpAny_bind (wpAny_setScan_of hkey ho hd hf hel ?_))))
  cases hfi : List.findIdx? (fun e => (PySem.strKind P w).is k e.2) es.toList with
  | some j =>
    dsimp only
    obtain ⟨hj, pj, _⟩ := List.findIdx?_eq_some_iff_getElem.mp hfi
    have mk : k ∈ l := pl.mem_iff.mp ((tx_mem (P := P) g k).2 ⟨_, List.getElem_mem hj, pj⟩)
    exact wpAny_pure (wpAny_pure (hQ s.heap _ (Heap.SameBut.refl a s.heap) (by rw [if_pos mk]; exact ⟨o, es, ep, t, ho, hex, hd, g, pl, nd, hb, hf, hr, hl⟩)))
  | none =>
    dsimp only
    have nk : k ∉ l := fun z => by
      obtain ⟨e, he, q⟩ := (tx_mem (P := P) g k).1 (pl.mem_iff.mpr z)
      rw [List.findIdx?_eq_none_iff.mp hfi e he] at q
      cases q
    have gw : ∀ (b : Bool) {s1 : Shared} {Q' : Unit → Shared → Prop}, Q' () s1 → wpAny (model P w) A (match b with | true => rule "set.scan.the-table-gave-way" | false => pure ()) Q' E s1 := fun b _ _ q => match b with
      | true => wpAny_rule q
      | false => wpAny_pure q
    have pm := layNew_perm t es ((PySem.strKind P w).hash k) (.str k tk)
    have f1 := layNew_fits t es ((PySem.strKind P w).hash k) (.str k tk)
    have r1 := layNew_ris t es ((PySem.strKind P w).hash k) (.str k tk) hr
    have l1 := layNew_led t es ((PySem.strKind P w).hash k) (.str k tk)
    revert pm f1 r1 l1
    generalize layNew t es ((PySem.strKind P w).hash k) (.str k tk) = Z
    obtain ⟨es1, t1, dm, gave⟩ := Z
    intro pm f1 r1 l1
    dsimp only at pm f1 r1 l1 ⊢
    rw [Array.toList_push] at pm
    have pc : es1.toList.Perm (((PySem.strKind P w).hash k, Value.str k tk) :: es.toList) := pm.trans (List.perm_append_singleton _ _)
    have pk : (es1.toList.map txOf).Perm (k :: l) := (pc.map txOf).trans (pl.cons k)
    have g1 : ∀ e ∈ es1.toList, TxE w e := fun e he => (List.mem_cons.mp (pc.mem_iff.mp he)).elim (fun z => by rw [z]; exact ⟨k, tk, rfl, rfl⟩) (g e)
    have b1 : es1.size < scanBound := by rw [← Array.length_toList, pc.length_eq, List.length_cons, Array.length_toList, hn]; exact room
    have led : w.params.followText "set-order" = true ∨ t1.led = true := hl.imp id fun z => l1.trans z
    have fin : ∀ h' b, Heap.SameBut a s.heap h' → SetS w h' a (k :: l) → Q b { s with heap := h' } := fun h' b sb r => hQ h' b sb (by rw [if_neg nk]; exact r)
    refine wpAny_bind (gw _ ?_)
    split
    · rw [hashByValue_scannable 8 hsc]
      refine wpAny_bind (wpAny_pure ?_)
      refine setS_tail (fun b s1 Q' q => by cases b <;> first | exact wpAny_pure q | exact wpAny_rule q) ho hex hd g1 pk (List.nodup_cons.mpr ⟨nk, nd⟩) b1 ?_ ?_ ?_ fun h' sb r => ?_
      · first | (split <;> first | exact f1 | exact SetTable.fits_plain_off f1) | exact f1
      · first | (split <;> exact r1) | exact r1
      · first | (split <;> exact led) | exact led
      · exact wpAny_pure (fin h' _ sb r)
    · refine wpAny_bind (wpAny_pure ?_)
      simp only [↓reduceIte]
      exact setS_tail (fun b s1 Q' q => by cases b <;> first | exact wpAny_pure q | exact wpAny_rule q) ho hex hd g1 pk (List.nodup_cons.mpr ⟨nk, nd⟩) b1 f1 r1 led fun h' sb r => wpAny_pure (fin h' _ sb r)
theorem setS_loop {I : Addr} {fp wr : List Addr} {G : Array GenState → Array GenState → Prop} {Pv : Nat → Value → Prop} {St : Nat → Shared → Prop} {R : Result → Shared → Prop} (xs : List Str) (W : WalksS P w A.in1 I fp wr G xs.length Pv St) (c : Addr) (hc : c ∉ fp)
    (hb : xs.length + 1 < scanBound) (hv : ∀ i v, Pv i v → ∃ z t, xs[i]? = some z ∧ v = .str z t) : ∀ (k i : Nat) (s : Shared), xs.length - i = k → i ≤ xs.length → St i s → SetS w s.heap c (ddS [] (xs.take i)) →
      (∀ s', Moved (c :: wr) G s s' → SetS w s'.heap c (ddS [] xs) → R (.ok (.ret .none)) s') → codeAny (model P w) A (.builtin "set.update.loop" ⟨[.ref c, .ref I], []⟩) R s := by
  have cw : c ∉ wr := fun q => hc (W.sub _ q)
  intro k
  induction k with
  | zero =>
    intro i s e hi st hS hR
    have ei : i = xs.length := by omega
    subst ei
    rw [List.take_length] at hS
    refine codeAny_builtin F.entry_set_update_loop ?_
    rw [Around.under_plainId F.plain_set_update_loop]
    refine wpAny_bind (m := pyNext (.ref I)) (W.done s _ _ st fun s' m => ?_)
    exact wpAny_pure (hR s' (m.mono fun b q => List.mem_cons_of_mem _ q) (hS.at fun o q => m.heap c o cw q))
  | succ k ih =>
    intro i s e hi st hS hR
    have hlt : i < xs.length := by omega
    refine codeAny_builtin F.entry_set_update_loop ?_
    rw [Around.under_plainId F.plain_set_update_loop]
    refine wpAny_bind (m := pyNext (.ref I)) (W.item i s _ _ hlt st fun v s' hP st' m => ?_)
    obtain ⟨z, t, hz, rfl⟩ := hv i v hP
    have hS' := hS.at (h' := s'.heap) fun o q => m.heap c o cw q
    refine wpAny_bind (m := holding [Value.str z t] (setAdd c (.str z t))) (wpAny_holding ?_)
    unfold setAdd
    refine wpAny_holding (wpAny_bind ((PySem.strKind P w).pyHash (k := z) (beq_self_eq_true z) ?_))
    have hl := ddS_len (xs.take i) []
    rw [List.length_take, List.length_nil] at hl
    refine setS_add (s := { s' with toks := s'.toks + 1 }) hS' (by omega) fun h' b sb hS2 => ?_
    have e2 : xs.take (i + 1) = xs.take i ++ [z] := by rw [List.take_add_one, hz]; rfl
    rw [← ddS_snoc, ← e2] at hS2
    refine wpAny_pure ⟨plainId_quiet F.plain_set_update_loop _, ih (i + 1) _ (by omega) hlt (W.frame _ s' _ _ st' (Nat.le_succ _) fun d hd o q => (sb.2 d fun z => hc (z ▸ hd)).trans q) hS2 fun s2 m2 hS3 => ?_⟩
    exact hR s2 (Moved.trans W.gtrans ((m.mono fun b q => List.mem_cons_of_mem _ q).then_heap (Nat.le_succ _) fun d o hd q => (sb.2 d fun z => hd (z ▸ List.mem_cons_self)).trans q) m2) hS3
end
section
variable {P : Program} {w : World} {A : Around} {E : Value → Shared → Prop} {s : Shared}
def newSet (w : World) : Obj := { cls := .type "set", dict := none, data := .set #[] 0 (.fresh 0 0 (!w.params.followText "set-order")) }
theorem strs_getE : ∀ {us : List Value} {xs : List Str}, StrsAre us xs → ∀ (i : Nat) (v : Value), us[i]? = some v → ∃ z t, xs[i]? = some z ∧ v = .str z t
  | _, _, .nil, i, v, h => by simp at h
  | _, _, .cons z t r, 0, v, h => by simp at h; exact ⟨z, t, rfl, h.symm⟩
  | _, _, .cons z t r, i + 1, v, h => by simpa using strs_getE r i v (by simpa using h)
theorem set_of_list {l : Addr} {items : Array Value} {xs : List Str} {Q : Value → Shared → Prop} (hh : A.handled = none) (hl : s.heap.IsList l items) (hi : StrsAre items.toList xs) (hb : xs.length + 1 < scanBound)
    (h : ∀ (h' : Heap) (tk : Nat), SetS w h' s.heap.objs.size (ddS [] xs) → (∀ b o, s.heap.get? b = some o → h'.get? b = some o) → Q (.ref s.heap.objs.size) { s with heap := h', toks := tk }) : wpAny (model P w) A (call (.type "set") [.ref l]) Q E s := by
  have isz : xs.length = items.size := by rw [← StrsAre.length hi, Array.length_toList]
  obtain ⟨c, tl, hmro⟩ := F.called_set.mro
  have hmade := F.called_set.made
  have hsub := F.called_set.sub
  refine wpAny_call (codeAny_of_tree (wpAny_pure (a := _) (show _ from ⟨Code.quiet_builtin _ (by decide +kernel), codeAny_builtin F.entry_type_call ?_⟩)))
  rw [Around.under_plain (weight_type_call_type "set" [.ref l] []) rfl]
  have t1 := F.called_set.notType
  have t2 := F.called_set.canCreate
  have t3 := F.typeCall_set_1 (.ref l)
  repeat (any_goals (first | assumption | wp_step))
  refine codeAny_mono (code_set_led1 (.ref l) (E := E) (Q₁ := fun u s1 => u = .ref s.heap.objs.size ∧ s1 = { s with heap := s.heap.push (newSet w) }) ⟨rfl, rfl⟩) fun r s1 hr => ?_
  match r, hr with
  | .error e, hr => exact hr
  | .ok (.next), hr => exact hr.elim
  | .ok (.brk), hr => exact hr.elim
  | .ok (.cont), hr => exact hr.elim
  | .ok (.ret u), hr =>
    obtain ⟨rfl, rfl⟩ := hr
    have gS : (s.heap.push (newSet w)).get? s.heap.objs.size = some (newSet w) := Heap.get?_push_size _ rfl
    have gT : Shared.TypeIs { s with heap := s.heap.push (newSet w) } (.ref s.heap.objs.size) "set" := ⟨_, gS, rfl⟩
    have t4 := F.called_set.init.lookup
    have t5 := F.called_set.init.bind (.ref s.heap.objs.size)
    repeat (any_goals (first | assumption | wp_step))
    refine codeAny_mono (codeAny_call_builtin (R := wants (fun r s2 => r = .none ∧ ∃ h' tk, s2 = { s with heap := h', toks := tk } ∧ SetS w h' s.heap.objs.size (ddS [] xs) ∧ (∀ b o, s.heap.get? b = some o → h'.get? b = some o)) E) F.called_set.init.plain F.entry_set_init (check_set_init_1 gT ?_)) fun r2 s2 hr2 => ?_
    · obtain ⟨⟨oc, od, odt, osl⟩, g0, gc, nl, gd⟩ := hl
      simp only at gc gd
      subst gc gd
      have g1 : (s.heap.push (newSet w)).get? l = some { cls := .type "list", dict := od, data := .seq items nl, slots := osl } := Heap.get?_push_of_some _ g0
      have u1 := F.sub_list_set
      have u2 := F.sub_list_frozenset
      have u3 : (Value.type "list" == Value.type "dict") = false := by decide
      have g2 : (s.heap.push (newSet w)).IsList l items := ⟨_, g1, rfl, nl, rfl⟩
      unfold Builtin.«set.__init__» noKeywords Builtin.Frozenset.updateFrom
      generalize hPI : pyIter = PI
      wp_walk
      subst hPI
      refine wpAny_pyIter_list g2 (wpAny_bind (wpAny_runValue ?_))
      have hlS : l < s.heap.objs.size := Heap.lt_size g0
      have hz : (s.heap.push (newSet w)).objs.size = s.heap.objs.size + 1 := Heap.size_push ..
      have hh3 : A.in1.in1.in1.handled = none := by simp [hh]
      have nI : l ≠ (s.heap.push (newSet w)).objs.size := by rw [hz]; exact Nat.ne_of_lt (Nat.lt_succ_of_lt hlS)
      have W := (Walks.list (prog := P) (w := w) hh3 _ l nI items).toS
      rw [← isz] at W
      have nf : s.heap.objs.size ∉ [(s.heap.push (newSet w)).objs.size, l] := fun q => (List.mem_cons.mp q).elim (fun q => absurd q (by rw [hz]; exact Nat.ne_of_lt (Nat.lt_succ_self _))) fun q => absurd (List.mem_singleton.mp q) (Nat.ne_of_gt hlS)
      refine setS_loop xs W s.heap.objs.size nf hb (fun i v q => strs_getE hi i v (by rw [Array.getElem?_toList]; exact q)) (xs.length - 0) 0 _ (by omega) (Nat.zero_le _)
        ⟨⟨_, Heap.get?_push_size _ rfl, rfl, rfl⟩, g2.push _⟩ (setS_fresh (Heap.get?_push_of_some _ gS)) fun s' m hS => ?_
      obtain ⟨h', g', d', tk', os'⟩ := s'
      obtain rfl : g' = s.gens := m.gens
      obtain rfl : d' = s.drawn := m.drawn
      obtain rfl : os' = s.os := m.os
      refine wpAny_pure (wpAny_pure (a := _) (show _ from ⟨rfl, h', tk', rfl, hS, fun b o e => ?_⟩))
      have hb0 : b < s.heap.objs.size := Heap.lt_size e
      have nb : b ∉ [s.heap.objs.size, (s.heap.push (newSet w)).objs.size] := fun q => (List.mem_cons.mp q).elim (fun q => absurd q (Nat.ne_of_lt hb0)) fun q => absurd (List.mem_singleton.mp q) (by rw [hz]; exact Nat.ne_of_lt (Nat.lt_succ_of_lt hb0))
      exact m.heap b o nb (Heap.get?_push_of_some _ (Heap.get?_push_of_some _ e))
    · match r2, hr2 with
      | .error e, hr2 => exact hr2
      | .ok (.next), hr2 => exact hr2.elim
      | .ok (.brk), hr2 => exact hr2.elim
      | .ok (.cont), hr2 => exact hr2.elim
      | .ok (.ret u), hr2 =>
        obtain ⟨rfl, h', tk, rfl, hS, hk⟩ := hr2
        repeat (any_goals (first | assumption | wp_step))
        exact h _ _ hS hk
end
section
variable {P : Program} {w : World} {A : Around} {E : Value → Shared → Prop} {s : Shared}
theorem set_of_tuple {l : Addr} {items : Array Value} {xs : List Str} {Q : Value → Shared → Prop} (hh : A.handled = none) (hl : s.heap.IsTuple l items) (hi : StrsAre items.toList xs) (hb : xs.length + 1 < scanBound)
    (h : ∀ (h' : Heap) (tk : Nat), SetS w h' s.heap.objs.size (ddS [] xs) → (∀ b o, s.heap.get? b = some o → h'.get? b = some o) → Q (.ref s.heap.objs.size) { s with heap := h', toks := tk }) : wpAny (model P w) A (call (.type "set") [.ref l]) Q E s := by
  have isz : xs.length = items.size := by rw [← StrsAre.length hi, Array.length_toList]
  obtain ⟨c, tl, hmro⟩ := F.called_set.mro
  have hmade := F.called_set.made
  have hsub := F.called_set.sub
  refine wpAny_call (codeAny_of_tree (wpAny_pure (a := _) (show _ from ⟨Code.quiet_builtin _ (by decide +kernel), codeAny_builtin F.entry_type_call ?_⟩)))
  rw [Around.under_plain (weight_type_call_type "set" [.ref l] []) rfl]
  have t1 := F.called_set.notType
  have t2 := F.called_set.canCreate
  have t3 := F.typeCall_set_1 (.ref l)
  repeat (any_goals (first | assumption | wp_step))
  refine codeAny_mono (code_set_led1 (.ref l) (E := E) (Q₁ := fun u s1 => u = .ref s.heap.objs.size ∧ s1 = { s with heap := s.heap.push (newSet w) }) ⟨rfl, rfl⟩) fun r s1 hr => ?_
  match r, hr with
  | .error e, hr => exact hr
  | .ok (.next), hr => exact hr.elim
  | .ok (.brk), hr => exact hr.elim
  | .ok (.cont), hr => exact hr.elim
  | .ok (.ret u), hr =>
    obtain ⟨rfl, rfl⟩ := hr
    have gS : (s.heap.push (newSet w)).get? s.heap.objs.size = some (newSet w) := Heap.get?_push_size _ rfl
    have gT : Shared.TypeIs { s with heap := s.heap.push (newSet w) } (.ref s.heap.objs.size) "set" := ⟨_, gS, rfl⟩
    have t4 := F.called_set.init.lookup
    have t5 := F.called_set.init.bind (.ref s.heap.objs.size)
    repeat (any_goals (first | assumption | wp_step))
    refine codeAny_mono (codeAny_call_builtin (R := wants (fun r s2 => r = .none ∧ ∃ h' tk, s2 = { s with heap := h', toks := tk } ∧ SetS w h' s.heap.objs.size (ddS [] xs) ∧ (∀ b o, s.heap.get? b = some o → h'.get? b = some o)) E) F.called_set.init.plain F.entry_set_init (check_set_init_1 gT ?_)) fun r2 s2 hr2 => ?_
    · obtain ⟨⟨oc, od, odt, osl⟩, g0, gc, nl, gd⟩ := hl
      simp only at gc gd
      subst gc gd
      have g1 : (s.heap.push (newSet w)).get? l = some { cls := .type "tuple", dict := od, data := .seq items nl, slots := osl } := Heap.get?_push_of_some _ g0
      have u1 := F.sub_tuple_set
      have u2 := F.sub_tuple_frozenset
      have u3 : (Value.type "tuple" == Value.type "dict") = false := by decide
      have g2 : (s.heap.push (newSet w)).IsTuple l items := ⟨_, g1, rfl, nl, rfl⟩
      unfold Builtin.«set.__init__» noKeywords Builtin.Frozenset.updateFrom
      generalize hPI : pyIter = PI
      wp_walk
      subst hPI
      refine wpAny_pyIter_tuple g2 (wpAny_bind (wpAny_runValue ?_))
      have hlS : l < s.heap.objs.size := Heap.lt_size g0
      have hz : (s.heap.push (newSet w)).objs.size = s.heap.objs.size + 1 := Heap.size_push ..
      have hh3 : A.in1.in1.in1.handled = none := by simp [hh]
      have nI : l ≠ (s.heap.push (newSet w)).objs.size := by rw [hz]; exact Nat.ne_of_lt (Nat.lt_succ_of_lt hlS)
      have W := (Walks.tuple (prog := P) (w := w) hh3 _ l nI items).toS
      rw [← isz] at W
      have nf : s.heap.objs.size ∉ [(s.heap.push (newSet w)).objs.size, l] := fun q => (List.mem_cons.mp q).elim (fun q => absurd q (by rw [hz]; exact Nat.ne_of_lt (Nat.lt_succ_self _))) fun q => absurd (List.mem_singleton.mp q) (Nat.ne_of_gt hlS)
      refine setS_loop xs W s.heap.objs.size nf hb (fun i v q => strs_getE hi i v (by rw [Array.getElem?_toList]; exact q)) (xs.length - 0) 0 _ (by omega) (Nat.zero_le _)
        ⟨⟨_, Heap.get?_push_size _ rfl, rfl, rfl⟩, g2.push _⟩ (setS_fresh (Heap.get?_push_of_some _ gS)) fun s' m hS => ?_
      obtain ⟨h', g', d', tk', os'⟩ := s'
      obtain rfl : g' = s.gens := m.gens
      obtain rfl : d' = s.drawn := m.drawn
      obtain rfl : os' = s.os := m.os
      refine wpAny_pure (wpAny_pure (a := _) (show _ from ⟨rfl, h', tk', rfl, hS, fun b o e => ?_⟩))
      have hb0 : b < s.heap.objs.size := Heap.lt_size e
      have nb : b ∉ [s.heap.objs.size, (s.heap.push (newSet w)).objs.size] := fun q => (List.mem_cons.mp q).elim (fun q => absurd q (Nat.ne_of_lt hb0)) fun q => absurd (List.mem_singleton.mp q) (by rw [hz]; exact Nat.ne_of_lt (Nat.lt_succ_of_lt hb0))
      exact m.heap b o nb (Heap.get?_push_of_some _ (Heap.get?_push_of_some _ e))
    · match r2, hr2 with
      | .error e, hr2 => exact hr2
      | .ok (.next), hr2 => exact hr2.elim
      | .ok (.brk), hr2 => exact hr2.elim
      | .ok (.cont), hr2 => exact hr2.elim
      | .ok (.ret u), hr2 =>
        obtain ⟨rfl, h', tk, rfl, hS, hk⟩ := hr2
        repeat (any_goals (first | assumption | wp_step))
        exact h _ _ hS hk
end
section
variable {X : Cx}
theorem cr_srtI : CallR X (.builtin "sorted") (fun vs H Q => ∃ (a : Addr) (ns : List Int), vs = [V.ref a] ∧ SqL X.K H a (ns.map V.int) ∧ ns.length ≤ sizeLine ∧ ∀ (ms : List Int) (p : Addr), ms.Perm ns → ms.Pairwise (· ≤ ·) → H p = none → Q (.ref p) (upd H p (.lst (ms.map V.int)))) := by
  intro pins s σ H vs us Q I r ⟨a, ns, e, hs, hz, q⟩
  subst e
  obtain ⟨its, rv, hl, _⟩ := I.list hs
  have il := rv.ints
  rw [Vals.ref1 r]
  refine PyProof.Rows.sorted_intsAny hl.isList il (by rw [il.length]; exact hz) fun out ms h1 h2 h3 => ?_
  obtain ⟨ep, he⟩ := PyProof.Rows.sortedAll_at s.heap its out
  exact ⟨.ref _, upd H (s.heap.objs.size + 1) (.lst (ms.map V.int)), I.laid (t' := s.toks) (fun _ _ => PyProof.Rows.sortedAll_old) (Nat.le_succ _) ⟨by rw [List.length_map, h2.length_eq]; exact hz, out.toList, ep, vals_of_ints h1, he⟩, rfl, q ms _ h2 h3 (I.hok.fresh (Nat.le_succ _))⟩
theorem cr_srtS : CallR X (.builtin "sorted") (fun vs H Q => ∃ (a : Addr) (xs : List Str), vs = [V.ref a] ∧ SqL X.K H a (xs.map V.str) ∧ xs.length ≤ sizeLine ∧ ∀ (ys : List Str) (p : Addr), ys.Perm xs → sortedS ys = true → H p = none → Q (.ref p) (upd H p (.lst (ys.map V.str)))) := by
  intro pins s σ H vs us Q I r ⟨a, xs, e, hs, hz, q⟩
  subst e
  obtain ⟨its, rv, hl, _⟩ := I.list hs
  have il := rv.length
  rw [List.length_map] at il
  rw [Vals.ref1 r]
  refine PyProof.Rows.sorted_strsAny hl.isList rv.strs (by rw [← il]; exact hz) fun out ys h1 h2 h3 => ?_
  obtain ⟨ep, he⟩ := PyProof.Rows.sortedAll_at s.heap its out
  exact ⟨.ref _, upd H (s.heap.objs.size + 1) (.lst (ys.map V.str)), I.laid (t' := s.toks) (fun _ _ => PyProof.Rows.sortedAll_old) (Nat.le_succ _) ⟨by rw [List.length_map, h2.length_eq]; exact hz, out.toList, ep, vals_of_strs h1, he⟩, rfl, q ys _ h2 h3 (I.hok.fresh (Nat.le_succ _))⟩
theorem srt_tailS {pins : List (Addr × Obj)} {σ : L2.St} {H : Hp} {s : Shared} {vs : List Value} {xs : List Str} {Q : VK} (I : Inv X pins σ H s) (hS : StrsAre vs xs) (hz : vs.length ≤ sizeLine) (q : ∀ ys p, ys.Perm xs → sortedS ys = true → H p = none → Q (.ref p) (upd H p (.lst (ys.map V.str)))) :
    wpAny (model X.prog X.w) X.A.in1 (newList vs >>= fun l => holding [l] (call (.builtin "list.sort") [l]) >>= fun _ => (ret l : Sem Fin)) (fun f s1 => ∃ u, f = .done (.ret u) ∧ EP X pins σ Q u s1) X.xe s := by
  refine wpAny_bind (wpAny_newList ?_ hz)
  have hoL : (s.heap.push (seqObj "list" vs.toArray 0)).get? s.heap.objs.size = some (seqObj "list" vs.toArray 0) := Heap.get?_push_size _ rfl
  refine wpAny_bind (wpAny_holding (wpAny_call_entry PyProof.Rows.slot_list_sort ⟨_, hoL, rfl⟩ PyProof.Rows.entry_list_sort (list_sort_treeKAny strKind_oneLt (s := { s with heap := s.heap.push (seqObj "list" vs.toArray 0) }) hoL hS.keysOf (fun v1 v2 rest e => keyKind_strs (by rw [← e]; exact hS)) hz fun st hp hs => ⟨_, rfl, ?_⟩) (PyProof.Rows.args_list_sort _)))
  obtain ⟨ys, g1, g2, g3⟩ := sorted_out_str hS hp hs
  obtain ⟨ep, he⟩ := PyProof.Rows.sortedHeap_at (vs := vs) (out := (arrOf st).map (·.2)) hoL
  refine wpAny_pure ⟨_, rfl, .ref s.heap.objs.size, upd H s.heap.objs.size (.lst (ys.map V.str)), I.laid (t' := s.toks) (fun b u e => ?_) (Nat.le_refl _) (show ObjOk X.prog X.w _ _ _ (.lst (ys.map V.str)) from ⟨by rw [List.length_map, g2.length_eq, ← StrsAre.length hS]; exact hz, ((arrOf st).map (·.2)).toList, ep, vals_of_strs g1, by rw [Array.toArray_toList]; exact he⟩), rfl, q ys _ g2 g3 (I.hok.fresh (Nat.le_refl _))⟩
  have hb : b < s.heap.objs.size := Heap.lt_size e
  rw [PyProof.Rows.sortedHeap_old (Nat.ne_of_lt hb) (by rw [size_push']; exact Nat.lt_succ_of_lt hb)]
  exact Heap.get?_push_of_some _ e
theorem srt_tailI {pins : List (Addr × Obj)} {σ : L2.St} {H : Hp} {s : Shared} {vs : List Value} {ns : List Int} {Q : VK} (I : Inv X pins σ H s) (hS : IntsAre vs ns) (hz : vs.length ≤ sizeLine) (q : ∀ (ms : List Int) (p : Addr), ms.Perm ns → ms.Pairwise (· ≤ ·) → H p = none → Q (.ref p) (upd H p (.lst (ms.map V.int)))) :
    wpAny (model X.prog X.w) X.A.in1 (newList vs >>= fun l => holding [l] (call (.builtin "list.sort") [l]) >>= fun _ => (ret l : Sem Fin)) (fun f s1 => ∃ u, f = .done (.ret u) ∧ EP X pins σ Q u s1) X.xe s := by
  refine wpAny_bind (wpAny_newList ?_ hz)
  have hoL : (s.heap.push (seqObj "list" vs.toArray 0)).get? s.heap.objs.size = some (seqObj "list" vs.toArray 0) := Heap.get?_push_size _ rfl
  refine wpAny_bind (wpAny_holding (wpAny_call_entry PyProof.Rows.slot_list_sort ⟨_, hoL, rfl⟩ PyProof.Rows.entry_list_sort (list_sort_treeAny (s := { s with heap := s.heap.push (seqObj "list" vs.toArray 0) }) hoL hS hz fun out ms g1 g2 g3 => ⟨_, rfl, ?_⟩) (PyProof.Rows.args_list_sort _)))
  obtain ⟨ep, he⟩ := PyProof.Rows.sortedHeap_at (vs := vs) (out := out) hoL
  refine wpAny_pure ⟨_, rfl, .ref s.heap.objs.size, upd H s.heap.objs.size (.lst (ms.map V.int)), I.laid (t' := s.toks) (fun b u e => ?_) (Nat.le_refl _) (show ObjOk X.prog X.w _ _ _ (.lst (ms.map V.int)) from ⟨by rw [List.length_map, g2.length_eq, ← hS.length]; exact hz, out.toList, ep, vals_of_ints g1, by rw [Array.toArray_toList]; exact he⟩), rfl, q ms _ g2 g3 (I.hok.fresh (Nat.le_refl _))⟩
  have hb : b < s.heap.objs.size := Heap.lt_size e
  rw [PyProof.Rows.sortedHeap_old (Nat.ne_of_lt hb) (by rw [size_push']; exact Nat.lt_succ_of_lt hb)]
  exact Heap.get?_push_of_some _ e
theorem cr_srtD (hc : X.calm = true) : CallR X (.builtin "sorted") (fun vs H Q => ∃ (a : Addr) (kvs : List (Key × V)), vs = [.ref a] ∧ Rd H a (.dK kvs) ∧
    ((∃ xs : List Str, kvs.map (·.1) = xs.map Sum.inr ∧ ∀ ys p, ys.Perm xs → sortedS ys = true → H p = none → Q (.ref p) (upd H p (.lst (ys.map V.str)))) ∨
     (∃ ns : List Int, kvs.map (·.1) = ns.map Sum.inl ∧ ∀ (ms : List Int) (p : Addr), ms.Perm ns → ms.Pairwise (· ≤ ·) → H p = none → Q (.ref p) (upd H p (.lst (ms.map V.int)))))) := by
  intro pins s σ H vs us Q I r ⟨a, kvs, ex, hd, q⟩
  subst ex
  obtain ⟨u, rfl, rx⟩ := vals1 r
  cases rx
  obtain ⟨z, lo, us, rel, dd⟩ := dk_rd I.hok hd
  obtain ⟨ep, hat⟩ := dd.dictAt
  have hlen : us.length = kvs.length := rel.length.symm
  refine Calls.call_function_entry PyProof.Rows.kind_sorted PyProof.Rows.plain_sorted PyProof.Rows.entry_sorted (PyProof.Rows.args_sorted1 _) ?_
  unfold Builtin.«sorted»
  refine wpAny_bind (m := checkCount "sorted" 1 1 _) (wpAny_pure ?_)
  refine wpAny_bind (PySem.W.kdu_collect (A := X.A.in1) (PySem.W.kdl_dict (knd := mixKind X.prog X.w) (kvs := us) (ep := ep) lo) (I.ok.hd hc) hat (by rw [hlen]; exact z) fun h' tk acc hk hacc => ?_)
  have J : Inv X pins σ H { s with heap := h', toks := tk } := I.kept hk
  have hz : acc.toList.length ≤ sizeLine := by rw [Array.length_toList, hacc.1, hlen]; exact z
  rcases q with ⟨xs, ek, q⟩ | ⟨ns, ek, q⟩
  · have eu : us.map (·.1) = xs.map Sum.inr := rel.keys.symm.trans ek
    have il : us.length = xs.length := by have := congrArg List.length eu; simpa using this
    refine srt_tailS J (strs_at (by rw [Array.length_toList, hacc.1, il]) fun j v e => ?_) hz q
    obtain ⟨k, x, e1, e2⟩ := hacc.2 j v (by rw [← Array.getElem?_toList]; exact e)
    have e3 : (us.map (·.1))[j]? = some k := by rw [List.getElem?_map, e1]; rfl
    rw [eu, List.getElem?_map] at e3
    obtain ⟨y, e4, rfl⟩ := Option.map_eq_some_iff.mp e3
    obtain ⟨t, ev⟩ := Value.isStrOf_shape (x := y) (v := v) e2
    exact ⟨y, t, e4, ev⟩
  · have eu : us.map (·.1) = ns.map Sum.inl := rel.keys.symm.trans ek
    have il : us.length = ns.length := by have := congrArg List.length eu; simpa using this
    refine srt_tailI J (ints_each (by rw [Array.length_toList, hacc.1, il]) fun j v e => ?_) hz q
    obtain ⟨k, x, e1, e2⟩ := hacc.2 j v (by rw [← Array.getElem?_toList]; exact e)
    have e3 : (us.map (·.1))[j]? = some k := by rw [List.getElem?_map, e1]; rfl
    rw [eu, List.getElem?_map] at e3
    obtain ⟨y, e4, rfl⟩ := Option.map_eq_some_iff.mp e3
    rcases keyIs_shape (show keyIs (Sum.inl y) v = true from e2) with ⟨i, t, ek, ev⟩ | ⟨z, t, ek, ev⟩
    · cases ek
      exact ⟨y, t, e4, ev⟩
    · cases ek
theorem set_any {pins : List (Addr × Obj)} {σ : L2.St} {H : Hp} {s : Shared} {l : Addr} {xs : List Str} {Q : Value → Shared → Prop} (I : Inv X pins σ H s) (hc : X.calm = true) (hs : SqL X.K H l (xs.map V.str) ∨ SqT X.K H l (xs.map V.str)) (hb : xs.length < 4000)
    (q : ∀ (h' : Heap) (tk : Nat), SetS X.w h' s.heap.objs.size (ddS [] xs) → (∀ b o, s.heap.get? b = some o → h'.get? b = some o) → Q (.ref s.heap.objs.size) { s with heap := h', toks := tk }) : wpAny (model X.prog X.w) X.A (call (.type "set") [.ref l]) Q X.xe s := by
  rcases hs with hs | hs
  · obtain ⟨its, rv, hl, _⟩ := I.list hs
    exact set_of_list (I.ok.hd hc) hl.isList (by simpa using rv.strs) (by unfold scanBound; omega) q
  · obtain ⟨its, rv, hl, _⟩ := I.tuple hs
    exact set_of_tuple (I.ok.hd hc) (show s.heap.IsTuple l its.toArray from hl) (by simpa using rv.strs) (by unfold scanBound; omega) q
theorem strs_txOf : ∀ vs : List Value, (∀ v ∈ vs, ∃ z t, v = Value.str z t) → StrsAre vs (vs.map fun v => txOf (0, v))
  | [], _ => .nil
  | v :: vs, h => by
    obtain ⟨z, t, rfl⟩ := h v List.mem_cons_self
    exact .cons z t (strs_txOf vs fun u hu => h u (List.mem_cons_of_mem _ hu))
theorem srt_set {pins : List (Addr × Obj)} {σ : L2.St} {H : Hp} {s : Shared} {c : Addr} {xs : List Str} {Q : VK} (I : Inv X pins σ H s) (hc : X.calm = true) (R : SetS X.w s.heap c xs) (q : ∀ ys p, ys.Perm xs → sortedS ys = true → H p = none → Q (.ref p) (upd H p (.lst (ys.map V.str)))) :
    wpAny (model X.prog X.w) X.A (call (.builtin "sorted") [.ref c]) (EP X pins σ Q) X.xe s := by
  obtain ⟨o, es, ep, t, ho, hex, hd, g, pl, nd, hb, hf, hr, hl⟩ := R
  refine Calls.call_function_entry PyProof.Rows.kind_sorted PyProof.Rows.plain_sorted PyProof.Rows.entry_sorted (PyProof.Rows.args_sorted1 _) ?_
  unfold Builtin.«sorted»
  refine wpAny_bind (m := checkCount "sorted" 1 1 _) (wpAny_pure ?_)
  refine wpAny_bind (collect_set (A := X.A.in1) (I.ok.hd hc) ⟨o, ho, hex.1, hd⟩ hf hb hr hl fun s1 vs k1 hz g1 o1 pm => ?_)
  have J : Inv X pins σ H s1 := by
    have J1 : Inv X pins σ H { s with heap := s1.heap, gens := s1.gens, drawn := s1.drawn, toks := s1.toks } := I.call (ch := []) (Un.kept k1) (I.hok.kept k1) (by rw [g1]; exact I.bare) (fun _ z => nomatch z)
    have e : s1 = { s with heap := s1.heap, gens := s1.gens, drawn := s1.drawn, toks := s1.toks } := by
      cases s1
      cases s
      cases o1
      rfl
    rw [e]
    exact J1
  have isS : ∀ v ∈ vs, ∃ z t, v = Value.str z t := fun v hv => by
    obtain ⟨e, he, rfl⟩ := List.mem_map.mp (pm.mem_iff.mp hv)
    obtain ⟨z, tk, h1, _⟩ := g e he
    exact ⟨z, tk, h1⟩
  have pk : (vs.map fun v => txOf (0, v)).Perm xs := by
    have q1 := pm.map fun v => txOf (0, v)
    rw [List.map_map] at q1
    exact q1.trans pl
  refine srt_tailS J (strs_txOf vs isS) (by rw [pm.length_eq, List.length_map, Array.length_toList]; exact fits_of_scanBound hb) fun ys p h1 h2 h3 => q ys p (h1.trans pk) h2 h3
variable {a : Expr} {ta : TA} {te : TE} {p p2 q pos : Pos}
def tSetSrt (K : PySem.W.Frag) (te : TE) : TE := fun σ H Q => te σ H fun x H1 => ∃ (l : Addr) (xs : List Str), x = .ref l ∧ (SqL K H1 l (xs.map V.str) ∨ SqT K H1 l (xs.map V.str)) ∧ xs.length < 4000 ∧
  ∀ ys p, ys.Perm (ddS [] xs) → sortedS ys = true → H1 p = none → Q (.ref p) (upd H1 p (.lst (ys.map V.str)))
theorem pe_setSrt (hc : X.calm = true) (hg : Gl X "sorted") (hm : X.mg "sorted" = none) (hg2 : Gl X "set") (hm2 : X.mg "set" = none) (ha : PE X a te) (na : starEach [a] X.env = (false, eval a X.env) :: starEach [] X.env) :
    PE X (.Call (.Name "sorted" p) [.Call (.Name "set" p2) [a] [] q] [] pos) (tSetSrt X.K te) := by
  refine ⟨fun pins s σ H Q I h => ?_⟩
  refine Call_ (ld_blt I hg hm boot_sorted (PyProof.Rows.callWith_builtin1 (PyProof.Rows.args_cons ?_ rfl) rfl rfl))
  refine Call_ (ld_blt I hg2 hm2 boot_set (PyProof.Rows.callWith_type1 (PyProof.Rows.args_cons (thn (ha.run pins s σ H _ I h) fun v s1 ⟨x, H1, I1, r1, l, xs, ex, hq, hl, q1⟩ => PyProof.Rows.args_nil ?_) na) na rfl))
  subst ex
  cases r1
  refine set_any I1 hc hq hl fun h' tk hS hk => PyProof.Rows.args_nil ?_
  exact srt_set (s := { s1 with heap := h', toks := tk }) (I1.kept (t' := tk) hk) hc hS q1
def tSetLen (K : PySem.W.Frag) (te : TE) : TE := fun σ H Q => te σ H fun x H1 => ∃ (l : Addr) (xs : List Str), x = .ref l ∧ (SqL K H1 l (xs.map V.str) ∨ SqT K H1 l (xs.map V.str)) ∧ xs.length < 4000 ∧ Q (.int ((ddS [] xs).length : Nat)) H1
theorem pe_setLen (hc : X.calm = true) (hg : Gl X "len") (hm : X.mg "len" = none) (hg2 : Gl X "set") (hm2 : X.mg "set" = none) (ha : PE X a te) (na : starEach [a] X.env = (false, eval a X.env) :: starEach [] X.env) :
    PE X (.Call (.Name "len" p) [.Call (.Name "set" p2) [a] [] q] [] pos) (tSetLen X.K te) := by
  refine ⟨fun pins s σ H Q I h => ?_⟩
  refine Call_ (ld_blt I hg hm boot_len (PyProof.Rows.callWith_builtin1 (PyProof.Rows.args_cons ?_ rfl) rfl rfl))
  refine Call_ (ld_blt I hg2 hm2 boot_set (PyProof.Rows.callWith_type1 (PyProof.Rows.args_cons (thn (ha.run pins s σ H _ I h) fun v s1 ⟨x, H1, I1, r1, l, xs, ex, hq, hl, q1⟩ => PyProof.Rows.args_nil ?_) na) na rfl))
  subst ex
  cases r1
  refine set_any I1 hc hq hl fun h' tk hS hk => PyProof.Rows.args_nil ?_
  obtain ⟨o, es, ep, t, ho, hex, hd, g, pl, nd, hb, hf, hr, hw⟩ := hS
  have hn : es.size = (ddS [] xs).length := by rw [← pl.length_eq, List.length_map, Array.length_toList]
  have I2 : Inv X pins σ H1 { s1 with heap := h', toks := tk } := I1.kept hk
  refine call_len_set (s := { s1 with heap := h', toks := tk }) ho hex hd hf (by unfold scanBound at hb; omega) ⟨.int ((ddS [] xs).length : Nat), H1, I2.tok _, ⟨_, by rw [hn]⟩, q1⟩
theorem kv_vals {κ : Type} : ∀ {kvs : List (κ × V)} {us : List (κ × Value)}, KV kvs us → Vals (kvs.map (·.2)) (us.map (·.2))
  | _, _, .nil => .nil
  | _, _, .cons h t => .cons h.2 (kv_vals t)
def tValL (te : TE) : TE := fun σ H Q => te σ H fun x H1 => ∃ (d : Addr) (kvs : List (Key × V)), x = .ref d ∧ Rd H1 d (.dK kvs) ∧ ∀ p, H1 p = none → Q (.ref p) (upd H1 p (.lst (kvs.map (·.2))))
theorem pe_valL {e : Expr} {apos cpos : Pos} (hc : X.calm = true) (hg : Gl X "list") (hm : X.mg "list" = none) (he : PE X e te) (hbase : attributeBase e "values" X.env (eval e X.env) = eval e X.env) (hline : (apos.endLine == cpos.line) = true) :
    PE X (.Call (.Name "list" p) [.Call (.Attribute e "values" apos) [] [] cpos] [] pos) (tValL te) := by
  refine ⟨fun pins s σ H Q I h => ?_⟩
  refine Call_ (ld_blt I hg hm boot_list (PyProof.Rows.callWith_type1 (PyProof.Rows.args_cons ?_ rfl) rfl rfl))
  refine wpAny_Call_method (T := "dict") (id := "dict.values") hbase rfl hline F.plainAttrs_dict F.slot_dict_values F.type_dict_values (thn (he.run pins s σ H _ I h) fun u s1 ⟨x, H1, I1, rx, d, kvs, ex, hd, q⟩ => ?_)
  subst ex
  cases rx
  obtain ⟨z, lo, us, rel, dd⟩ := dk_rd I1.hok hd
  obtain ⟨ep, hat⟩ := dd.dictAt
  refine ⟨dd.typeIs, dd.mapOf.noDict, ?_⟩
  have hk1 : ∀ b o, s1.heap.get? b = some o → (s1.heap.push { cls := .type "dict_values", data := .fields #[.ref d] }).get? b = some o := fun b o e => Heap.get?_push_of_some _ e
  have I2 : Inv X pins σ H1 { s1 with heap := s1.heap.push { cls := .type "dict_values", data := .fields #[.ref d] } } := I1.kept (t' := s1.toks) hk1
  have fin : wpAny (model X.prog X.w) X.A (call (.type "list") [.ref s1.heap.objs.size]) (EP X pins σ Q) X.xe { s1 with heap := s1.heap.push { cls := .type "dict_values", data := .fields #[.ref d] } } := by
    refine PySem.W.kdl_call (PySem.W.kdl_values (knd := mixKind X.prog X.w) (kvs := us) (ep := ep)) (I1.ok.hd hc) ⟨⟨_, Heap.get?_push_size _ rfl, rfl, rfl⟩, hat.keep hk1⟩ (by rw [← rel.length]; exact z) fun h' tk acc c' hk hD hacc => ?_
    have hv : Vals (kvs.map (·.2)) acc.toList := by
      have e : acc.toList = us.map (·.2) := items_out (Pv := fun i v => ∃ k, us[i]? = some (k, v)) (by rw [List.length_map]; exact hacc) fun j v ⟨k, e⟩ => by rw [List.getElem?_map, e]; rfl
      rw [e]
      exact kv_vals rel
    refine ⟨.ref _, upd H1 _ (.lst (kvs.map (·.2))), I2.laid (t' := tk) hk (Nat.le_refl _) (show ObjOk X.prog X.w _ _ _ (.lst (kvs.map (·.2))) from ⟨by rw [List.length_map]; exact z, acc.toList, c', hv, by rw [Array.toArray_toList]; exact hD⟩), rfl, q _ (I2.hok.fresh (Nat.le_refl _))⟩
  show wpAny _ _ (callWith cpos (.builtin "dict.values") [.ref d] [] []) _ X.xe s1
  exact method_meetsIn F.slot_dict_values F.entry_dict_values rfl (PySem.evalArgs_none ⟨rfl, dd.typeIs, F.args_dict_values_1 _, _, meets_dict_values (mixKind X.prog X.w) d lo, ⟨us, dd⟩, PyProof.Rows.args_nil fin⟩)
end
theorem str_ext {x y : Str} (h : x.cps.toList = y.cps.toList) : x = y := by
  cases x; cases y
  simp only [Str.mk.injEq]
  exact Array.toList_inj.mp h
theorem strLe_iff {x y : Str} : strLe x y = true ↔ x.cps.toList ≤ y.cps.toList := by
  unfold strLe
  simp [List.not_lt]
theorem strLe_anti {x y : Str} (h : strLe x y = true) (h' : strLe y x = true) : x = y := str_ext (List.le_antisymm (strLe_iff.mp h) (strLe_iff.mp h'))
theorem strLe_trans {x y z : Str} (h : strLe x y = true) (h' : strLe y z = true) : strLe x z = true := strLe_iff.mpr (List.le_trans (strLe_iff.mp h) (strLe_iff.mp h'))
theorem strLe_tot (x y : Str) : strLe x y = true ∨ strLe y x = true := by
  rcases List.le_total x.cps.toList y.cps.toList with h | h
  · exact .inl (strLe_iff.mpr h)
  · exact .inr (strLe_iff.mpr h)
theorem insS_perm (x : Str) : ∀ l : List Str, (insS x l).Perm (x :: l)
  | [] => .refl _
  | a :: r => by
    unfold insS
    split
    · exact .refl _
    · exact ((insS_perm x r).cons a).trans (.swap x a r)
theorem sortS_perm : ∀ l : List Str, (sortS l).Perm l
  | [] => .refl _
  | a :: r => (insS_perm a _).trans ((sortS_perm r).cons a)
theorem insS_pw (x : Str) : ∀ l : List Str, l.Pairwise (fun a b => strLe a b = true) → (insS x l).Pairwise fun a b => strLe a b = true
  | [], _ => by simp [insS]
  | a :: r, h => by
    obtain ⟨h1, h2⟩ := List.pairwise_cons.mp h
    unfold insS
    split
    · rename_i q
      exact List.pairwise_cons.mpr ⟨fun b hb => (List.mem_cons.mp hb).elim (fun e => e ▸ q) fun hb => strLe_trans q (h1 b hb), h⟩
    · rename_i q
      refine List.pairwise_cons.mpr ⟨fun b hb => ?_, insS_pw x r h2⟩
      rcases List.mem_cons.mp ((insS_perm x r).mem_iff.mp hb) with e | hb
      · rw [e]; exact (strLe_tot x a).resolve_left q
      · exact h1 b hb
theorem sortS_pw : ∀ l : List Str, (sortS l).Pairwise fun a b => strLe a b = true
  | [] => .nil
  | a :: r => insS_pw a _ (sortS_pw r)
theorem rising_pw : ∀ (l : List Str) (x : Str), risingS x l = true → (x :: l).Pairwise fun a b => strLe a b = true
  | [], x, _ => by simp
  | y :: l, x, h => by
    simp only [risingS, Bool.and_eq_true] at h
    have h2 := rising_pw l y h.2
    have h1 : strLe x y = true := by unfold strLe; rw [le_meets]; exact h.1
    exact List.pairwise_cons.mpr ⟨fun b hb => (List.mem_cons.mp hb).elim (fun e => e ▸ h1) fun hb => strLe_trans h1 ((List.pairwise_cons.mp h2).1 b hb), h2⟩
theorem sortS_uniq {ys xs : List Str} (p : ys.Perm xs) (h : sortedS ys = true) : ys = sortS xs := by
  refine List.Perm.eq_of_pairwise (le := fun a b => strLe a b = true) (fun _ _ _ _ => strLe_anti) ?_ (sortS_pw xs) (p.trans (sortS_perm xs).symm)
  cases ys with
  | nil => exact .nil
  | cons y l => exact rising_pw l y h
theorem insI_perm (x : Int) : ∀ l : List Int, (insI x l).Perm (x :: l)
  | [] => .refl _
  | a :: r => by
    unfold insI
    split
    · exact .refl _
    · exact ((insI_perm x r).cons a).trans (.swap x a r)
theorem sortI_perm : ∀ l : List Int, (sortI l).Perm l
  | [] => .refl _
  | a :: r => (insI_perm a _).trans ((sortI_perm r).cons a)
theorem insI_pw (x : Int) : ∀ l : List Int, l.Pairwise (· ≤ ·) → (insI x l).Pairwise (· ≤ ·)
  | [], _ => by simp [insI]
  | a :: r, h => by
    obtain ⟨h1, h2⟩ := List.pairwise_cons.mp h
    unfold insI
    split
    · rename_i q
      exact List.pairwise_cons.mpr ⟨fun b hb => (List.mem_cons.mp hb).elim (fun e => e ▸ q) fun hb => Int.le_trans q (h1 b hb), h⟩
    · rename_i q
      refine List.pairwise_cons.mpr ⟨fun b hb => ?_, insI_pw x r h2⟩
      rcases List.mem_cons.mp ((insI_perm x r).mem_iff.mp hb) with e | hb
      · rw [e]; omega
      · exact h1 b hb
theorem sortI_pw : ∀ l : List Int, (sortI l).Pairwise (· ≤ ·)
  | [] => .nil
  | a :: r => insI_pw a _ (sortI_pw r)
theorem sortI_uniq {ys xs : List Int} (p : ys.Perm xs) (h : ys.Pairwise (· ≤ ·)) : ys = sortI xs :=
  List.Perm.eq_of_pairwise (le := fun a b : Int => a ≤ b) (fun _ _ _ _ => Int.le_antisymm) h (sortI_pw xs) (p.trans (sortI_perm xs).symm)
theorem dedupS_mem (z : Str) : ∀ l : List Str, z ∈ dedupS l ↔ z ∈ l
  | [] => Iff.rfl
  | a :: r => by
    unfold dedupS
    dsimp only
    have ih := dedupS_mem z r
    split
    · rename_i q
      have ma : a ∈ dedupS r := by simpa using q
      rw [ih, List.mem_cons]
      exact ⟨.inr, fun h => h.elim (fun e => (dedupS_mem z r).mp (e ▸ ma)) id⟩
    · rw [List.mem_cons, List.mem_cons, ih]
theorem dedupS_nd : ∀ l : List Str, (dedupS l).Nodup
  | [] => .nil
  | a :: r => by
    unfold dedupS
    dsimp only
    split
    · exact dedupS_nd r
    · rename_i q
      exact List.nodup_cons.mpr ⟨fun m => q (by simpa using m), dedupS_nd r⟩
theorem dd_perm (l : List Str) : (ddS [] l).Perm (dedupS l) := (List.perm_ext_iff_of_nodup (ddS_nd l [] .nil) (dedupS_nd l)).mpr fun z => by
  rw [ddS_mem, dedupS_mem]
  simp
end A
namespace A
open PySem L2 PyProof.Rows
section
variable {N : Nm} {Z : Sta × Hp} {X : Cx} {S S' S1 : Sta} {H H' H1 : Hp} {Q : VK} {Qh : K} {σ : L2.St} {ρ : Env} {pos p : Pos} {a b c e : Expr} {wa wb wc : Wp}
theorem cimp {f : Value} {r r' : List V → Hp → VK → Prop} (h : CallR X f r) (i : ∀ xs H Q, r' xs H Q → r xs H Q) : CallR X f r' := fun pins s σ H xs us Q I rs q => h pins s σ H xs us Q I rs (i xs H Q q)
inductive BF (f : Value) : Prop where
  | fn (id : String) (h : f = .builtin id)
  | ty (T : String) (h : f = .type T)
theorem pe_callF {f : Value} {r : List V → Hp → VK → Prop} {x : Str} {es : List Expr} {t : TA} (hc : CallR X f r) (hf : BF f) (hg : Gl X x) (hm : X.mg x = none) (hv : bootBuiltins x = some f) (hn : x ≠ "__name__") (hdb : (x == ("__debug__" : Str)) = false)
    (ha : PA X (e :: es) t) (pl : (e :: es).all plainA = true) : PE X (.Call (.Name x p) (e :: es) [] pos) (tCB r t) := by
  simp only [List.all_cons, Bool.and_eq_true] at pl
  rcases hf with ⟨id, rfl⟩ | ⟨T, rfl⟩
  · exact pe_callB hc hg hm hv ha hn hdb (starEach_plain _ pl.1) (star_none _ pl.2)
  · exact pe_callTy hc hg hm hv ha hn hdb (starEach_plain _ pl.1) (star_none _ pl.2)
theorem call_str_non : CallR X (.type "str") (fun xs H Q => xs = [.non] ∧ Q (.str (Str.ofString "None")) H) := by
  intro pins s σ H xs us Q I r h
  obtain ⟨rfl, q⟩ := h
  obtain ⟨u, rfl, rx⟩ := vals1 r
  cases rx
  exact PySem.P.str_of_none ⟨.str _, H, I.tok _, ⟨_, rfl⟩, q⟩
def rB1 (N : Nm) (C : Orc) (o : B1) : List V → Hp → VK → Prop := fun vs H Q => ∃ x v S Qh, vs = [v] ∧ RH N H S ∧ RD N H x v ∧ wb1 C o x S Qh ∧ Kn N S H Qh Q
def rOwnB (N : Nm) (C : Orc) (m : Nat) (G : D → Prop) : List V → Hp → VK → Prop := fun vs H Q => ∃ a c fs S Qh, vs = [.ref a] ∧ RH N H S ∧ S a = some (.ins c fs) ∧ C (mth c m) [.ref a] S (fun r S' => G r ∧ Qh r S') (fun _ _ => False) ∧ Kn N S H Qh Q
def rOwnT (N : Nm) (C : Orc) : List V → Hp → VK → Prop := fun vs H Q => ∃ a c fs S Qh, vs = [.ref a] ∧ RH N H S ∧ S a = some (.ins c fs) ∧ C (mth c mLen) [.ref a] S (fun r S' => ∃ n : Nat, n < 9223372036854775808 ∧ r = .int n ∧ Qh (.bl (n != 0)) S') (fun _ _ => False) ∧ Kn N S H Qh Q
def bval : B1 → Value
  | .len => .builtin "len" | .int => .type "int" | .str => .type "str" | .repr => .builtin "repr" | .list => .type "list" | .tuple => .type "tuple"
  | .sum => .builtin "sum" | .max => .builtin "max" | .min => .builtin "min" | .all => .builtin "all" | .any => .builtin "any" | .sorted => .builtin "sorted" | .dict => .type "dict" | .bool => .type "bool"
  | .minD => .none | .setlen => .none | .setsorted => .none | .vals => .none
def bname : B1 → Str
  | .len => "len" | .int => "int" | .str => "str" | .repr => "repr" | .list => "list" | .tuple => "tuple"
  | .sum => "sum" | .max => "max" | .min => "min" | .all => "all" | .any => "any" | .sorted => "sorted" | .dict => "dict" | .bool => "bool"
  | .minD => "" | .setlen => "" | .setsorted => "" | .vals => ""
def b1ok : B1 → Bool
  | .len | .int | .str | .repr | .list | .tuple | .sum | .max | .min | .all | .any | .dict | .sorted | .bool => true
  | _ => false
theorem rds_ints : ∀ {ds : List D} {vs : List V} {ns : List Int}, RDs N H ds vs → intsOf ds = some ns → vs = ns.map V.int
  | [], _, _, r, e => by cases e; exact r.unnil
  | d :: ds, vs, ns, r, e => by
    obtain ⟨v, t, rfl, h1, h2⟩ := r.uncons
    cases d with
    | int i =>
      simp only [intsOf, Option.map_eq_some_iff] at e
      obtain ⟨ms, e1, rfl⟩ := e
      cases rd_int h1
      rw [rds_ints h2 e1, List.map_cons]
    | _ => cases e
theorem rds_bls : ∀ {ds : List D} {vs : List V} {ns : List Bool}, RDs N H ds vs → bsOf ds = some ns → vs = ns.map V.bl
  | [], _, _, r, e => by cases e; exact r.unnil
  | d :: ds, vs, ns, r, e => by
    obtain ⟨v, t, rfl, h1, h2⟩ := r.uncons
    cases d with
    | bl i =>
      simp only [bsOf, Option.map_eq_some_iff] at e
      obtain ⟨ms, e1, rfl⟩ := e
      cases rd_bl h1
      rw [rds_bls h2 e1, List.map_cons]
    | _ => cases e
theorem rds_strs : ∀ {ds : List D} {vs : List V} {ns : List Str}, RDs N H ds vs → strsOf ds = some ns → vs = ns.map V.str
  | [], _, _, r, e => by cases e; exact r.unnil
  | d :: ds, vs, ns, r, e => by
    obtain ⟨v, t, rfl, h1, h2⟩ := r.uncons
    cases d with
    | str i =>
      simp only [strsOf, Option.map_eq_some_iff] at e
      obtain ⟨ms, e1, rfl⟩ := e
      cases rd_str h1
      rw [rds_strs h2 e1, List.map_cons]
    | _ => cases e
theorem itemsL_at (hK : N.K = X.K) (rh : RH N H S) {x : D} {v : V} {xs : List D} (r : RD N H x v) (e : itemsL S x = some xs) : ∃ a vs, v = .ref a ∧ SqL X.K H a vs ∧ RDs N H xs vs := by
  cases x with
  | lis l => cases e; obtain ⟨a, vs, rfl, h1, r1⟩ := rd_lis r; exact ⟨a, vs, rfl, hK ▸ h1, r1⟩
  | ref a =>
    cases rd_ref r
    simp only [itemsL] at e
    cases ea : S a with
    | none => rw [ea] at e; cases e
    | some o =>
      rw [ea] at e
      cases o with
      | lst l => cases e; obtain ⟨vs, h1, r1⟩ := at_lst rh ea; exact ⟨a, vs, rfl, SqL.of h1, r1⟩
      | _ => cases e
  | _ => cases e
theorem itemsT_at (hK : N.K = X.K) (rh : RH N H S) {x : D} {v : V} {xs : List D} (r : RD N H x v) (e : itemsT S x = some xs) : ∃ a vs, v = .ref a ∧ (SqL X.K H a vs ∨ (SqT X.K H a vs ∧ x = .tup xs)) ∧ RDs N H xs vs := by
  have base : itemsL S x = some xs → ∃ a vs, v = .ref a ∧ (SqL X.K H a vs ∨ (SqT X.K H a vs ∧ x = .tup xs)) ∧ RDs N H xs vs := fun e => by
    obtain ⟨a, vs, h1, h2, h3⟩ := itemsL_at hK rh r e
    exact ⟨a, vs, h1, .inl h2, h3⟩
  cases x with
  | tup l => cases e; obtain ⟨a, vs, rfl, h1, r1⟩ := rd_tup r; exact ⟨a, vs, rfl, .inr ⟨hK ▸ h1, rfl⟩, r1⟩
  | _ => exact base e
theorem maxI_spec : ∀ {ns : List Int}, 0 < ns.length → maxI ns ∈ ns ∧ ∀ y, y ∈ ns → y ≤ maxI ns
  | [], h => by simp at h
  | [a], _ => by simp [maxI]
  | a :: b :: r, _ => by
    obtain ⟨h1, h2⟩ := maxI_spec (ns := b :: r) (by simp)
    simp only [maxI]
    generalize hm : maxI (b :: r) = m at h1 h2
    refine ⟨?_, fun y hy => ?_⟩
    · rcases Int.le_total a m with z | z
      · rw [Int.max_eq_right z]; exact List.mem_cons_of_mem _ h1
      · rw [Int.max_eq_left z]; exact List.mem_cons_self
    · rcases List.mem_cons.mp hy with rfl | hy
      · exact Int.le_max_left _ _
      · exact Int.le_trans (h2 y hy) (Int.le_max_right _ _)
structure OwnOk (N : Nm) (C : Orc) (X : Cx) : Prop where
  eq : OpR X (compareOp .Eq) (rOwn N C false)
  ne : OpR X (compareOp .NotEq) (rOwn N C true)
  len : CallR X (.builtin "len") (rOwnB N C mLen fun r => ∃ n : Nat, n < 9223372036854775808 ∧ r = .int n)
  str : CallR X (.type "str") (rOwnB N C mStr fun r => ∃ s, r = .str s)
  repr : CallR X (.builtin "repr") (rOwnB N C mRepr fun r => ∃ s, r = .str s)
  bool : CallR X (.type "bool") (rOwnT N C)
theorem kput_rel {k : Key} {d : D} {v : V} (r : RD N H d v) : ∀ {kvs : List (Key × D)} {ws : List (Key × V)}, ws.map (·.1) = kvs.map (·.1) → RDs N H (kvs.map (·.2)) (ws.map (·.2)) →
    (putK ws k v).map (·.1) = (kput kvs k d).map (·.1) ∧ RDs N H ((kput kvs k d).map (·.2)) ((putK ws k v).map (·.2)) := by
  have anyEq : ∀ {kvs : List (Key × D)} {ws : List (Key × V)}, ws.map (·.1) = kvs.map (·.1) → (ws.any fun q => decide (q.1 = k)) = (kvs.any fun q => decide (q.1 = k)) := fun {kvs ws} e => by
    have h1 : (ws.any fun q => decide (q.1 = k)) = (ws.map (·.1)).any fun x => decide (x = k) := by rw [List.any_map]; rfl
    have h2 : (kvs.any fun q => decide (q.1 = k)) = (kvs.map (·.1)).any fun x => decide (x = k) := by rw [List.any_map]; rfl
    rw [h1, h2, e]
  have mp : ∀ {kvs : List (Key × D)} {ws : List (Key × V)}, ws.map (·.1) = kvs.map (·.1) → RDs N H (kvs.map (·.2)) (ws.map (·.2)) →
      (ws.map fun q => if q.1 = k then (q.1, v) else q).map (·.1) = (kvs.map fun q => if q.1 = k then (q.1, d) else q).map (·.1) ∧ RDs N H ((kvs.map fun q => if q.1 = k then (q.1, d) else q).map (·.2)) ((ws.map fun q => if q.1 = k then (q.1, v) else q).map (·.2)) := fun {kvs} => by
    induction kvs with
    | nil => intro ws e h; cases ws with
      | nil => exact ⟨rfl, .nil⟩
      | cons _ _ => simp at e
    | cons x xs ih => intro ws e h; cases ws with
      | nil => simp at e
      | cons y ys =>
        simp only [List.map_cons, List.cons.injEq] at e
        have h : RDs N H (x.2 :: xs.map (·.2)) (y.2 :: ys.map (·.2)) := h
        obtain ⟨_, _, e2, h1, h2⟩ := h.uncons
        cases e2
        obtain ⟨i1, i2⟩ := ih e.2 h2
        by_cases hk : x.1 = k
        · have hk' : y.1 = k := e.1.trans hk
          simp only [List.map_cons, hk, hk', if_true]
          exact ⟨congrArg _ i1, .cons r i2⟩
        · have hk' : ¬ y.1 = k := fun z => hk (e.1.symm.trans z)
          simp only [List.map_cons, hk, hk', if_false]
          exact ⟨by rw [e.1, i1], .cons h1 i2⟩
  intro kvs ws e h
  unfold putK kput
  rw [anyEq e]
  split
  · exact mp e h
  · rw [List.map_append, List.map_append, List.map_append, List.map_append, e]
    exact ⟨rfl, h.append (.cons r .nil)⟩
theorem kmerge_rel : ∀ {ps : List (Key × D)} {rs : List (Key × V)} {kvs : List (Key × D)} {ws : List (Key × V)}, rs.map (·.1) = ps.map (·.1) → RDs N H (ps.map (·.2)) (rs.map (·.2)) → ws.map (·.1) = kvs.map (·.1) → RDs N H (kvs.map (·.2)) (ws.map (·.2)) →
    (mergeK ws rs).map (·.1) = (kmerge kvs ps).map (·.1) ∧ RDs N H ((kmerge kvs ps).map (·.2)) ((mergeK ws rs).map (·.2))
  | [], rs, kvs, ws, e, r, e2, r2 => by
    cases rs with
    | nil => exact ⟨e2, r2⟩
    | cons _ _ => simp at e
  | p :: ps, rs, kvs, ws, e, r, e2, r2 => by
    cases rs with
    | nil => simp at e
    | cons q rs =>
      simp only [List.map_cons, List.cons.injEq] at e
      obtain ⟨v, t, h1, h2, h3⟩ := RDs.uncons (show RDs N H (p.2 :: ps.map (·.2)) (q.2 :: rs.map (·.2)) from r)
      cases h1
      obtain ⟨g1, g2⟩ := kput_rel (k := p.1) h2 e2 r2
      have := kmerge_rel (ps := ps) (rs := rs) e.2 h3 g1 g2
      unfold mergeK kmerge at this ⊢
      rw [List.foldl_cons, List.foldl_cons, e.1]
      exact this
theorem pairs_at (hK : N.K = X.K) : ∀ {xs : List D} {vs : List V} {ps : List (Key × D)}, RDs N H xs vs → pairsOf xs = some ps →
    ∃ (as : List Addr) (rs : List (Key × V)), vs = as.map V.ref ∧ Paired (fun p kv => SqT X.K H p [kV kv.1, kv.2]) as rs ∧ rs.map (·.1) = ps.map (·.1) ∧ RDs N H (ps.map (·.2)) (rs.map (·.2))
  | [], vs, ps, r, e => by
    simp only [pairsOf, Option.some.injEq] at e
    subst e
    rw [r.unnil]
    exact ⟨[], [], rfl, .nil, rfl, .nil⟩
  | x :: xs, vs, ps, r, e => by
    obtain ⟨v, t, rfl, h1, h2⟩ := r.uncons
    unfold pairsOf at e
    split at e
    · cases ‹x :: xs = []›
    · rename_i k d r' hx
      obtain ⟨rfl, rfl⟩ := List.cons.inj hx
      cases ek : keyD k with
      | none => rw [ek] at e; cases e
      | some key =>
        cases er : pairsOf xs with
        | none => rw [ek, er] at e; cases e
        | some qs =>
          rw [ek, er] at e
          cases e
          obtain ⟨a, ws, rfl, h3, h4⟩ := rd_tup h1
          obtain ⟨w1, t1, rfl, h5, h6⟩ := h4.uncons
          obtain ⟨w2, t2, rfl, h7, h8⟩ := h6.uncons
          rw [h8.unnil] at h3
          obtain ⟨as, rs, rfl, g1, g2, g3⟩ := pairs_at hK h2 er
          have := key_rd ek h5
          subst this
          exact ⟨a :: as, (key, w2) :: rs, rfl, .cons (hK ▸ h3) g1, by simp [g2], .cons h7 g3⟩
    · cases e
def hotB : B1 → Bool
  | .list | .sum | .max | .min | .all | .any | .dict | .minD | .sorted => false
  | _ => true
theorem rds_mapI {N : Nm} {H : Hp} : ∀ ns : List Int, RDs N H (ns.map .int) (ns.map V.int)
  | [] => .nil
  | n :: ns => .cons mk_int (rds_mapI ns)
theorem rds_mapS {N : Nm} {H : Hp} : ∀ ns : List Str, RDs N H (ns.map .str) (ns.map V.str)
  | [] => .nil
  | n :: ns => .cons mk_str (rds_mapS ns)
theorem ints_map {ds : List D} : ∀ {ns : List Int}, intsOf ds = some ns → ds = ns.map .int := by
  induction ds with
  | nil => intro ns e; cases e; rfl
  | cons d ds ih =>
    intro ns e
    cases d with
    | int i =>
      simp only [intsOf, Option.map_eq_some_iff] at e
      obtain ⟨ms, e1, rfl⟩ := e
      rw [ih e1]; rfl
    | _ => cases e
theorem strs_map {ds : List D} : ∀ {ns : List Str}, strsOf ds = some ns → ds = ns.map .str := by
  induction ds with
  | nil => intro ns e; cases e; rfl
  | cons d ds ih =>
    intro ns e
    cases d with
    | str i =>
      simp only [strsOf, Option.map_eq_some_iff] at e
      obtain ⟨ms, e1, rfl⟩ := e
      rw [ih e1]; rfl
    | _ => cases e
theorem keys_ints : ∀ {ks : List Key} {ns : List Int}, ks.map dKey = ns.map D.int → ks = ns.map Sum.inl
  | [], [], _ => rfl
  | [], _ :: _, e => by cases e
  | _ :: _, [], e => by cases e
  | .inl i :: ks, n :: ns, e => by
    simp only [List.map_cons, dKey, List.cons.injEq, D.int.injEq] at e
    rw [keys_ints e.2, e.1]; rfl
  | .inr i :: ks, n :: ns, e => by simp [dKey] at e
theorem keys_strs : ∀ {ks : List Key} {ns : List Str}, ks.map dKey = ns.map D.str → ks = ns.map Sum.inr
  | [], [], _ => rfl
  | [], _ :: _, e => by cases e
  | _ :: _, [], e => by cases e
  | .inr i :: ks, n :: ns, e => by
    simp only [List.map_cons, dKey, List.cons.injEq, D.str.injEq] at e
    rw [keys_strs e.2, e.1]; rfl
  | .inl i :: ks, n :: ns, e => by simp [dKey] at e
theorem cr_srtW {C : Orc} (hK : N.K = X.K) (hc : X.calm = true) : CallR X (.builtin "sorted") (rB1 N C .sorted) := cimp (cr_srtI.or (cr_srtS.or (cr_srtD hc))) fun vs H Q ⟨x, v, S, Qh, e, rh, r, w, k⟩ => by
  subst e
  obtain ⟨xs, e1, hz, q⟩ := w
  have seq : ∀ a ws, v = .ref a → SqL X.K H a ws → RDs N H xs ws → (∃ (b : Addr) (ns : List Int), [v] = [V.ref b] ∧ SqL X.K H b (ns.map V.int) ∧ ns.length ≤ sizeLine ∧ ∀ (ms : List Int) (p : Addr), ms.Perm ns → ms.Pairwise (· ≤ ·) → H p = none → Q (.ref p) (upd H p (.lst (ms.map V.int)))) ∨
      (∃ (b : Addr) (ss : List Str), [v] = [V.ref b] ∧ SqL X.K H b (ss.map V.str) ∧ ss.length ≤ sizeLine ∧ ∀ (ys : List Str) (p : Addr), ys.Perm ss → sortedS ys = true → H p = none → Q (.ref p) (upd H p (.lst (ys.map V.str)))) := fun a ws ev hs r1 => by
    subst ev
    rcases q with ⟨ns, e2, q⟩ | ⟨ss, e2, q⟩
    · rw [rds_ints r1 e2] at hs
      rw [ints_map e2, List.length_map] at hz
      exact .inl ⟨a, ns, rfl, hs, hz, fun ms p h2 h3 n => by rw [sortI_uniq h2 h3]; exact k.newL rh n (rds_mapI _) q⟩
    · rw [rds_strs r1 e2] at hs
      rw [strs_map e2, List.length_map] at hz
      exact .inr ⟨a, ss, rfl, hs, hz, fun ms p h2 h3 n => by rw [sortS_uniq h2 h3]; exact k.newL rh n (rds_mapS _) q⟩
  have keys : ∀ (a : Addr) (kvs : List (Key × D)) (ws : List (Key × V)), x = .ref a → L2.Rd H a (.dK ws) → ws.map (·.1) = kvs.map (·.1) → xs = kvs.map (fun p => dKey p.1) → ∃ (b : Addr) (us : List (Key × V)), [v] = [V.ref b] ∧ Rd H b (.dK us) ∧
    ((∃ xs : List Str, us.map (·.1) = xs.map Sum.inr ∧ ∀ ys p, ys.Perm xs → sortedS ys = true → H p = none → Q (.ref p) (upd H p (.lst (ys.map V.str)))) ∨
     (∃ ns : List Int, us.map (·.1) = ns.map Sum.inl ∧ ∀ (ms : List Int) (p : Addr), ms.Perm ns → ms.Pairwise (· ≤ ·) → H p = none → Q (.ref p) (upd H p (.lst (ms.map V.int))))) := fun a kvs ws ex hd ek exs => by
    subst ex
    cases rd_ref r
    have e3 : xs = (ws.map (·.1)).map dKey := by rw [ek, exs, List.map_map]; rfl
    refine ⟨a, ws, rfl, hd, ?_⟩
    rcases q with ⟨ns, e2, q⟩ | ⟨ss, e2, q⟩
    · exact .inr ⟨ns, keys_ints (by rw [← e3, ints_map e2]), fun ms p h2 h3 n => by rw [sortI_uniq h2 h3]; exact k.newL rh n (rds_mapI _) q⟩
    · exact .inl ⟨ss, keys_strs (by rw [← e3, strs_map e2]), fun ms p h2 h3 n => by rw [sortS_uniq h2 h3]; exact k.newL rh n (rds_mapS _) q⟩
  cases x with
  | lis l =>
    cases e1
    obtain ⟨a, ws, ev, h1, r1⟩ := rd_lis r
    exact (seq a ws ev (hK ▸ h1) r1).elim .inl fun h => .inr (.inl h)
  | ref a =>
    have e1 : itemsK S (.ref a) = some xs := e1
    simp only [itemsK] at e1
    cases ea : S a with
    | none => rw [ea] at e1; cases e1
    | some ob =>
      rw [ea] at e1
      cases ob with
      | lst l =>
        cases e1
        obtain ⟨ws, h1, r1⟩ := at_lst rh ea
        exact (seq a ws (rd_ref r) (SqL.of h1) r1).elim .inl fun h => .inr (.inl h)
      | dic l => cases e1; obtain ⟨ws, h1, e2, r1⟩ := at_dic rh ea; exact .inr (.inr (keys a l ws rfl (.inl h1) e2 rfl))
      | dicF l fu => cases e1; obtain ⟨od, ws, _, h1, e2, r1⟩ := at_dicF rh ea; exact .inr (.inr (keys a l ws rfl (.inr ⟨od, h1⟩) e2 rfl))
      | ins c fs => cases e1
  | _ => cases e1
theorem cr_b1 {C : Orc} (hK : N.K = X.K) (O : OwnOk N C X) : ∀ o, b1ok o = true → (hotB o = false → X.calm = true) → CallR X (bval o) (rB1 N C o)
  | .len, _, hc => cimp (call_len.or (call_lenD.or O.len)) fun vs H Q ⟨x, v, S, Qh, e, rh, r, w, k⟩ => by
    subst e
    cases x with
    | str s => cases rd_str r; exact .inl ⟨_, _, rfl, ⟨w.1, rfl⟩, k.at rh mk_int w.2⟩
    | tup l => obtain ⟨a, ws, rfl, h1, r1⟩ := rd_tup r; exact .inl ⟨_, ws.length, rfl, .inr ⟨ws, hK ▸ h1, rfl⟩, k.at rh mk_int (r1.length ▸ w)⟩
    | lis l => obtain ⟨a, ws, rfl, h1, r1⟩ := rd_lis r; exact .inl ⟨_, ws.length, rfl, .inl ⟨ws, hK ▸ h1, rfl⟩, k.at rh mk_int (r1.length ▸ w)⟩
    | ref a =>
      cases rd_ref r
      simp only [wb1] at w
      cases ea : S a with
      | none => rw [ea] at w; exact w.elim
      | some ob =>
        rw [ea] at w
        cases ob with
        | lst l => obtain ⟨ws, h1, r1⟩ := at_lst rh ea; exact .inl ⟨_, ws.length, rfl, .inl ⟨ws, SqL.of h1, rfl⟩, k.at rh mk_int (r1.length ▸ w)⟩
        | dic l =>
          obtain ⟨ws, h1, e1, r1⟩ := at_dic rh ea
          have hl : l.length = ws.length := by have := congrArg List.length e1; simpa using this.symm
          exact .inr (.inl ⟨a, ws, rfl, h1, k.at rh mk_int (hl ▸ w)⟩)
        | ins c fs => exact .inr (.inr ⟨a, c, fs, S, _, rfl, rh, ea, w, k⟩)
        | _ => exact w.elim
    | _ => exact (False.elim w)
  | .int, _, hc => cimp (call_int1.or call_int_str) fun vs H Q ⟨x, v, S, Qh, e, rh, r, w, k⟩ => by
    subst e
    cases x with
    | int i => cases rd_int r; exact .inl (.inl ⟨i, rfl, k.at rh mk_int w⟩)
    | bl i => cases rd_bl r; exact .inl (.inr ⟨i, rfl, k.at rh mk_int w⟩)
    | str i => cases rd_str r; obtain ⟨n, h1, h2, q⟩ := w; exact .inr ⟨i, n, rfl, h1, h2, k.at rh mk_int q⟩
    | _ => exact (False.elim w)
  | .str, _, hc => cimp (call_str_int.or (SkE.call_str_str.or (call_str_non.or O.str))) fun vs H Q ⟨x, v, S, Qh, e, rh, r, w, k⟩ => by
    subst e
    cases x with
    | int i => cases rd_int r; exact .inl ⟨i, rfl, w.1, k.at rh mk_str w.2⟩
    | str i => cases rd_str r; exact .inr (.inl ⟨i, rfl, k.at rh mk_str w.2⟩)
    | non => cases rd_non r; exact .inr (.inr (.inl ⟨rfl, k.at rh mk_str w⟩))
    | ref a =>
      cases rd_ref r
      simp only [wb1] at w
      cases ea : S a with
      | none => rw [ea] at w; exact w.elim
      | some ob =>
        rw [ea] at w
        cases ob with
        | ins c fs => exact .inr (.inr (.inr ⟨a, c, fs, S, _, rfl, rh, ea, w, k⟩))
        | _ => exact w.elim
    | _ => exact (False.elim w)
  | .repr, _, hc => cimp O.repr fun vs H Q ⟨x, v, S, Qh, e, rh, r, w, k⟩ => by
    subst e
    cases x with
    | ref a =>
      cases rd_ref r
      simp only [wb1] at w
      cases ea : S a with
      | none => rw [ea] at w; exact w.elim
      | some ob =>
        rw [ea] at w
        cases ob with
        | ins c fs => exact ⟨a, c, fs, S, _, rfl, rh, ea, w, k⟩
        | _ => exact w.elim
    | _ => exact (False.elim w)
  | .list, _, hc => cimp (call_list_of.or (call_listD (hc rfl))) fun vs H Q ⟨x, v, S, Qh, e, rh, r, w, k⟩ => by
    subst e
    obtain ⟨xs, e1, q⟩ := w
    have dict : ∀ (a : Addr) (kvs : List (Key × D)) (ws : List (Key × V)), ws.map (·.1) = kvs.map (·.1) → RDs N H (kvs.map fun p => dKey p.1) (ws.map fun kv => kV kv.1) := fun a kvs ws e => by
      have h : ∀ ks : List Key, RDs N H (ks.map dKey) (ks.map kV) := fun ks => by
        induction ks with
        | nil => exact .nil
        | cons y ys ih => cases y with
          | inl i => exact .cons mk_int ih
          | inr i => exact .cons mk_str ih
      have e3 : (kvs.map fun p => dKey p.1) = (ws.map (·.1)).map dKey := by rw [e, List.map_map]; rfl
      rw [e3]
      have e4 : (ws.map fun kv => kV kv.1) = (ws.map (·.1)).map kV := by rw [List.map_map]; rfl
      rw [e4]
      exact h _
    cases x with
    | tup l => cases e1; obtain ⟨a, ws, rfl, h1, r1⟩ := rd_tup r; exact .inl ⟨a, ws, rfl, .inr (hK ▸ h1), fun p n => k.newL rh n r1 q⟩
    | lis l => cases e1; obtain ⟨a, ws, rfl, h1, r1⟩ := rd_lis r; exact .inl ⟨a, ws, rfl, .inl (hK ▸ h1), fun p n => k.newL rh n r1 q⟩
    | ref a =>
      cases rd_ref r
      simp only [itemsK] at e1
      cases ea : S a with
      | none => rw [ea] at e1; cases e1
      | some ob =>
        rw [ea] at e1
        cases ob with
        | lst l => cases e1; obtain ⟨ws, h1, r1⟩ := at_lst rh ea; exact .inl ⟨a, ws, rfl, .inl (SqL.of h1), fun p n => k.newL rh n r1 q⟩
        | dic l => cases e1; obtain ⟨ws, h1, e2, r1⟩ := at_dic rh ea; exact .inr ⟨a, ws, rfl, .inl h1, fun p n => k.newL rh n (dict a l ws e2) q⟩
        | dicF l fu => cases e1; obtain ⟨od, ws, _, h1, e2, r1⟩ := at_dicF rh ea; exact .inr ⟨a, ws, rfl, .inr ⟨od, h1⟩, fun p n => k.newL rh n (dict a l ws e2) q⟩
        | _ => cases e1
    | _ => cases e1
  | .tuple, _, hc => cimp call_tuple_of fun vs H Q ⟨x, v, S, Qh, e, rh, r, w, k⟩ => by
    subst e
    obtain ⟨xs, e1, q⟩ := w
    obtain ⟨a, ws, rfl, h, r1⟩ := itemsT_at hK rh r e1
    rcases h with h | ⟨h, rfl⟩
    · exact ⟨a, ws, rfl, .inl ⟨h, fun p n => k.newT rh n r1 q⟩⟩
    · exact ⟨a, ws, rfl, .inr ⟨h, k.at rh r q⟩⟩
  | .sum, _, hc => cimp (cr_sum (hc rfl)) fun vs H Q ⟨x, v, S, Qh, e, rh, r, w, k⟩ => by
    subst e
    obtain ⟨xs, ns, e1, e2, q⟩ := w
    obtain ⟨a, ws, rfl, h, r1⟩ := itemsL_at hK rh r e1
    rw [rds_ints r1 e2] at h
    exact ⟨a, ns, rfl, h, k.at rh mk_int q⟩
  | .max, _, hc => cimp (cr_max (hc rfl)) fun vs H Q ⟨x, v, S, Qh, e, rh, r, w, k⟩ => by
    subst e
    obtain ⟨xs, ns, e1, e2, h0, q⟩ := w
    obtain ⟨a, ws, rfl, h, r1⟩ := itemsL_at hK rh r e1
    rw [rds_ints r1 e2] at h
    obtain ⟨g1, g2⟩ := maxI_spec h0
    exact ⟨a, ns, rfl, h, h0, fun m hm hy => by
      have : m = maxI ns := Int.le_antisymm (g2 m hm) (hy _ g1)
      subst this
      exact k.at rh mk_int q⟩
  | .min, _, hc => cimp (cr_min (hc rfl)) fun vs H Q ⟨x, v, S, Qh, e, rh, r, w, k⟩ => by
    subst e
    obtain ⟨xs, ns, e1, e2, h0, q⟩ := w
    obtain ⟨a, ws, rfl, h, r1⟩ := itemsL_at hK rh r e1
    rw [rds_ints r1 e2] at h
    obtain ⟨g1, g2⟩ := minI_spec h0
    exact ⟨a, ns, rfl, h, h0, fun m hm hy => by
      have : m = minI ns := Int.le_antisymm (hy _ g1) (g2 m hm)
      subst this
      exact k.at rh mk_int q⟩
  | .all, _, hc => cimp (cr_all (hc rfl)) fun vs H Q ⟨x, v, S, Qh, e, rh, r, w, k⟩ => by
    subst e
    obtain ⟨xs, ns, e1, e2, q⟩ := w
    obtain ⟨a, ws, rfl, h, r1⟩ := itemsL_at hK rh r e1
    rw [rds_bls r1 e2] at h
    exact ⟨a, ns, rfl, h, k.at rh mk_bl q⟩
  | .any, _, hc => cimp (cr_any (hc rfl)) fun vs H Q ⟨x, v, S, Qh, e, rh, r, w, k⟩ => by
    subst e
    obtain ⟨xs, ns, e1, e2, q⟩ := w
    obtain ⟨a, ws, rfl, h, r1⟩ := itemsL_at hK rh r e1
    rw [rds_bls r1 e2] at h
    exact ⟨a, ns, rfl, h, k.at rh mk_bl q⟩
  | .dict, _, hc => cimp ((call_dictP (hc rfl)).or call_dictD) fun vs H Q ⟨x, v, S, Qh, e, rh, r, w, k⟩ => by
    subst e
    cases x with
    | ref a =>
      cases rd_ref r
      simp only [wb1] at w
      cases ea : S a with
      | none => rw [ea] at w; exact w.elim
      | some ob =>
        rw [ea] at w
        cases ob with
        | lst l =>
          obtain ⟨ps, e1, q⟩ := w
          obtain ⟨ws, h1, r1⟩ := at_lst rh ea
          obtain ⟨as, rs, rfl, g1, g2, g3⟩ := pairs_at hK r1 e1
          obtain ⟨m1, m2⟩ := kmerge_rel (kvs := []) (ws := []) g2 g3 rfl .nil
          exact .inl ⟨a, as, rs, rfl, SqL.of h1, g1, fun p n => k.newK rh n m1 m2 q⟩
        | dic l => obtain ⟨ws, h1, e1, r1⟩ := at_dic rh ea; exact .inr ⟨a, ws, rfl, .inl h1, fun p n => k.newK rh n e1 r1 w⟩
        | dicF l fu => obtain ⟨od, ws, _, h1, e1, r1⟩ := at_dicF rh ea; exact .inr ⟨a, ws, rfl, .inr ⟨od, h1⟩, fun p n => k.newK rh n e1 r1 w⟩
        | _ => exact w.elim
    | _ => exact (False.elim w)
  | .sorted, h, hc => cr_srtW hK (hc rfl)
  | .bool, _, hc => cimp (call_bool1.or O.bool) fun vs H Q ⟨x, v, S, Qh, e, rh, r, w, k⟩ => by
    subst e
    cases x with
    | int i => cases rd_int r; exact .inl (.inl ⟨i, rfl, k.at rh mk_bl w⟩)
    | bl i => cases rd_bl r; exact .inl (.inr ⟨i, rfl, k.at rh mk_bl w⟩)
    | ref a =>
      cases rd_ref r
      simp only [wb1] at w
      cases ea : S a with
      | none => rw [ea] at w; exact w.elim
      | some ob =>
        rw [ea] at w
        cases ob with
        | ins c fs => exact .inr ⟨a, c, fs, S, _, rfl, rh, ea, w, k⟩
        | _ => exact w.elim
    | _ => exact (False.elim w)
  | .minD, h, hc => by cases h
  | .setlen, h, hc => by cases h
  | .setsorted, h, hc => by cases h
  | .vals, h, hc => by cases h
theorem bval_ok : ∀ o, b1ok o = true → BF (bval o) ∧ bootBuiltins (bname o) = some (bval o) ∧ bname o ≠ "__name__" ∧ (bname o == ("__debug__" : Str)) = false
  | .len, _ => ⟨.fn _ rfl, by decide +kernel, by decide +kernel, by decide +kernel⟩
  | .int, _ => ⟨.ty _ rfl, by decide +kernel, by decide +kernel, by decide +kernel⟩
  | .str, _ => ⟨.ty _ rfl, by decide +kernel, by decide +kernel, by decide +kernel⟩
  | .repr, _ => ⟨.fn _ rfl, by decide +kernel, by decide +kernel, by decide +kernel⟩
  | .list, _ => ⟨.ty _ rfl, by decide +kernel, by decide +kernel, by decide +kernel⟩
  | .tuple, _ => ⟨.ty _ rfl, by decide +kernel, by decide +kernel, by decide +kernel⟩
  | .sum, _ => ⟨.fn _ rfl, by decide +kernel, by decide +kernel, by decide +kernel⟩
  | .max, _ => ⟨.fn _ rfl, by decide +kernel, by decide +kernel, by decide +kernel⟩
  | .min, _ => ⟨.fn _ rfl, by decide +kernel, by decide +kernel, by decide +kernel⟩
  | .all, _ => ⟨.fn _ rfl, by decide +kernel, by decide +kernel, by decide +kernel⟩
  | .any, _ => ⟨.fn _ rfl, by decide +kernel, by decide +kernel, by decide +kernel⟩
  | .dict, _ => ⟨.ty _ rfl, by decide +kernel, by decide +kernel, by decide +kernel⟩
  | .sorted, _ => ⟨.fn _ rfl, by decide +kernel, by decide +kernel, by decide +kernel⟩
  | .bool, _ => ⟨.ty _ rfl, by decide +kernel, by decide +kernel, by decide +kernel⟩
  | .minD, h => by cases h
  | .setlen, h => by cases h
  | .setsorted, h => by cases h
  | .vals, h => by cases h
theorem he_b1 {C : Orc} {o : B1} (hK : N.K = X.K) (hc : hotB o = false → X.calm = true) (O : OwnOk N C X) (ok : b1ok o = true) (hg : Gl X (bname o)) (hm : X.mg (bname o) = none) (ha : PE X a (tOf N Z wa)) (pl : plainA a = true) :
    PE X (.Call (.Name (bname o) p) [a] [] pos) (tOf N Z fun ρ S Q => wa ρ S fun x S1 => wb1 C o x S1 Q) := by
  obtain ⟨h1, h2, h3, h4⟩ := bval_ok o ok
  refine pimp (pe_callF (cr_b1 hK O o ok hc) h1 hg hm h2 h3 h4 (pa_cons ha pa_nil (starEach_plain _ pl)) (by simpa using pl)) fun σ H Q t => ?_
  exact tOf.one (g := fun _ x S1 Q => wb1 C o x S1 Q) t fun ρ x S1 v H1 Qh rs rh fz rx g k => ⟨x, v, S1, Qh, rfl, rh, rx, g, k⟩
theorem strsT_at (hK : N.K = X.K) (rh : RH N H S) {x : D} {v : V} {xs : List D} {ss : List Str} (r : RD N H x v) (e : itemsT S x = some xs) (e2 : strsOf xs = some ss) : ∃ l, v = .ref l ∧ (SqL X.K H l (ss.map V.str) ∨ SqT X.K H l (ss.map V.str)) := by
  obtain ⟨a, ws, ev, h, r1⟩ := itemsT_at hK rh r e
  rw [rds_strs r1 e2] at h
  exact ⟨a, ev, h.imp id And.left⟩
theorem he_setlen {C : Orc} {p2 q : Pos} (hK : N.K = X.K) (hc : X.calm = true) (hg : Gl X "len") (hm : X.mg "len" = none) (hg2 : Gl X "set") (hm2 : X.mg "set" = none) (ha : PE X a (tOf N Z wa)) (pl : plainA a = true) :
    PE X (.Call (.Name "len" p) [.Call (.Name "set" p2) [a] [] q] [] pos) (tOf N Z fun ρ S Q => wa ρ S fun x S1 => wb1 C .setlen x S1 Q) :=
  pimp (pe_setLen hc hg hm hg2 hm2 ha (starEach_plain _ pl)) fun σ H Q t => tOf.one (g := fun _ x S1 Q => wb1 C .setlen x S1 Q) t fun ρ x S1 v H1 Qh rs rh fz rx ⟨xs, ss, e1, e2, hl, q⟩ k => by
    obtain ⟨l, ev, h⟩ := strsT_at hK rh rx e1 e2
    exact ⟨l, ss, ev, h, hl, by rw [(dd_perm ss).length_eq]; exact k.at rh mk_int q⟩
theorem he_setsorted {C : Orc} {p2 q : Pos} (hK : N.K = X.K) (hc : X.calm = true) (hg : Gl X "sorted") (hm : X.mg "sorted" = none) (hg2 : Gl X "set") (hm2 : X.mg "set" = none) (ha : PE X a (tOf N Z wa)) (pl : plainA a = true) :
    PE X (.Call (.Name "sorted" p) [.Call (.Name "set" p2) [a] [] q] [] pos) (tOf N Z fun ρ S Q => wa ρ S fun x S1 => wb1 C .setsorted x S1 Q) :=
  pimp (pe_setSrt hc hg hm hg2 hm2 ha (starEach_plain _ pl)) fun σ H Q t => tOf.one (g := fun _ x S1 Q => wb1 C .setsorted x S1 Q) t fun ρ x S1 v H1 Qh rs rh fz rx ⟨xs, ss, e1, e2, hl, q⟩ k => by
    obtain ⟨l, ev, h⟩ := strsT_at hK rh rx e1 e2
    exact ⟨l, ss, ev, h, hl, fun ys p h2 h3 n => by rw [sortS_uniq (h2.trans (dd_perm ss)) h3]; exact k.newL rh n (rds_mapS _) q⟩
theorem he_vals {C : Orc} {e : Expr} {apos cpos : Pos} (hc : X.calm = true) (hg : Gl X "list") (hm : X.mg "list" = none) (he : PE X e (tOf N Z wa)) (hbase : attributeBase e "values" X.env (eval e X.env) = eval e X.env) (hline : (apos.endLine == cpos.line) = true) :
    PE X (.Call (.Name "list" p) [.Call (.Attribute e "values" apos) [] [] cpos] [] pos) (tOf N Z fun ρ S Q => wa ρ S fun x S1 => wb1 C .vals x S1 Q) :=
  pimp (pe_valL hc hg hm he hbase hline) fun σ H Q t => tOf.one (g := fun _ x S1 Q => wb1 C .vals x S1 Q) t fun ρ x S1 v H1 Qh rs rh fz rx w k => by
    cases x with
    | ref a =>
      cases rd_ref rx
      simp only [wb1] at w
      cases ea : S1 a with
      | none => rw [ea] at w; exact w.elim
      | some ob =>
        rw [ea] at w
        cases ob with
        | dic l => obtain ⟨ws, h1, e1, r1⟩ := at_dic rh ea; exact ⟨a, ws, rfl, .inl h1, fun p n => k.newL rh n r1 w⟩
        | dicF l fu => obtain ⟨od, ws, _, h1, e1, r1⟩ := at_dicF rh ea; exact ⟨a, ws, rfl, .inr ⟨od, h1⟩, fun p n => k.newL rh n r1 w⟩
        | _ => exact w.elim
    | _ => exact False.elim w
def rB2 (N : Nm) (o : B2) : List V → Hp → VK → Prop := fun vs H Q => ∃ x y v u S Qh, vs = [v, u] ∧ RH N H S ∧ RD N H x v ∧ RD N H y u ∧ wb2 o x y S Qh ∧ Kn N S H Qh Q
def b2val : B2 → Value
  | .max => .builtin "max" | .min => .builtin "min"
def b2name : B2 → Str
  | .max => "max" | .min => "min"
theorem cr_b2 (hc : X.calm = true) : ∀ o, CallR X (b2val o) (rB2 N o)
  | .max => cimp (call_max2 hc) fun vs H Q ⟨x, y, v, u, S, Qh, e, rh, rx, ry, w, k⟩ => by
    subst e
    cases x <;> cases y <;> first | exact False.elim w | skip
    rename_i i j
    cases rd_int rx; cases rd_int ry
    refine ⟨i, j, rfl, ?_⟩
    have e : (if j > i then j else i) = max i j := by split <;> omega
    rw [e]
    exact k.at rh mk_int w
  | .min => cimp (call_min2 hc) fun vs H Q ⟨x, y, v, u, S, Qh, e, rh, rx, ry, w, k⟩ => by
    subst e
    cases x <;> cases y <;> first | exact False.elim w | skip
    rename_i i j
    cases rd_int rx; cases rd_int ry
    refine ⟨i, j, rfl, ?_⟩
    have e : (if j < i then j else i) = min i j := by split <;> omega
    rw [e]
    exact k.at rh mk_int w
theorem b2val_ok : ∀ o, BF (b2val o) ∧ bootBuiltins (b2name o) = some (b2val o) ∧ b2name o ≠ "__name__" ∧ (b2name o == ("__debug__" : Str)) = false
  | .max => ⟨.fn _ rfl, by decide +kernel, by decide +kernel, by decide +kernel⟩
  | .min => ⟨.fn _ rfl, by decide +kernel, by decide +kernel, by decide +kernel⟩
theorem he_b2 {o : B2} (hc : X.calm = true) (hg : Gl X (b2name o)) (hm : X.mg (b2name o) = none) (ha : PE X a (tOf N Z wa)) (hb : PE X b (tOf N Z wb)) (pl : plainA a = true) (pl2 : plainA b = true) :
    PE X (.Call (.Name (b2name o) p) [a, b] [] pos) (tOf N Z fun ρ S Q => wa ρ S fun x S1 => wb ρ S1 fun y S2 => wb2 o x y S2 Q) := by
  obtain ⟨h1, h2, h3, h4⟩ := b2val_ok o
  refine pimp (pe_callF (cr_b2 (N := N) hc o) h1 hg hm h2 h3 h4 (pa_cons ha (pa_cons hb pa_nil (starEach_plain _ pl2)) (starEach_plain _ pl)) (by simp [pl, pl2])) fun σ H Q t => ?_
  exact tOf.two t fun x y S2 v u H2 Qh h rx ry g k => ⟨x, y, v, u, S2, Qh, rfl, h, rx, ry, g, k⟩
end
end A
section
namespace PySem
open Sem (wp)
theorem AutoSeq1.list_extend_tupO (l : Addr) (items : Array Value) (n : Nat) (b : Addr) (items2 : Array Value) (hs0 : ¬(!items.isEmpty && Builtin.List.listTooLong (items.size + items2.size)) = true) (hs1 : items.size ≤ sizeLine) (hs2 : items.size + items2.size ≤ sizeLine + 1) :
    Meets (Builtin.«list.extend» ⟨[.ref l, .ref b], []⟩) (fun _ R s => s.heap.get? l = some { cls := .type "list", dict := none, data := .seq items n, slots := #[] } ∧ s.heap.IsTuple b items2 ∧ R (.ok (.ret Value.none)) { s with heap := s.heap.update l (Obj.mapSeq fun x => x ++ items2), toks := s.toks }) :=
  .of_wp fun prog w A R s h => by
    obtain ⟨hp, g, d, tk, os⟩ := s; obtain ⟨hl, ⟨⟨cl, dc, da, sl⟩, hb, hc, n2, hd⟩, h⟩ := h
    simp only at hc hd
    subst hc hd
    have f1 := idx_int; have f2 := sub_tuple_tuple; have f3 := sub_list_list; have f4 := sub_tuple_list; have f5 := sub_list_tuple;
    have hz' : (items ++ items2).size ≤ sizeLine + 1 := by rw [Array.size_append]; exact hs2
    wp_walk using (wpAny_updateSeq hl rfl (hz := hs1) (_hz' := hz')), wpAny_loadPart' hl, wpAny_loadPart' hb; exact ⟨_, rfl, h⟩
end PySem
namespace L2
open PySem PySem.Spec PyProof.Rows
section
variable {X : Cx}
def rExtA (X : Cx) : V → List V → Hp → VK → Prop := fun x vs H Q => rExtend x vs H Q ∨ ∃ l b xs zs, x = .ref l ∧ vs = [.ref b] ∧ H l = some (.lst xs) ∧ SqT X.K H b zs ∧ xs.length + zs.length ≤ sizeLine ∧ Q .non (upd H l (.lst (xs ++ zs)))
theorem mt_extA : MtM X "list.extend" (rExtA X) := by
  intro pins s σ H x vs v us Q I rx rv h
  rcases h with h | ⟨l, b, xs, zs, rfl, rfl, hH, hB, hz, q⟩
  · exact mt_extend pins s σ H x vs v us Q I rx rv h
  cases rx
  obtain ⟨u, rfl, ru⟩ := rv.one
  cases ru
  obtain ⟨z, its, n, r, hl, e⟩ := I.lstM hH
  obtain ⟨its2, r2, p2, z2⟩ := I.tuple hB
  have hl2 := r2.length
  have hsz : its.toArray.size + its2.toArray.size ≤ sizeLine := by rw [List.size_toArray, List.size_toArray]; omega
  have hlong : ¬ (!its.toArray.isEmpty && Builtin.List.listTooLong (its.toArray.size + its2.toArray.size)) = true := by
    rw [notLongL hsz, Bool.and_false]
    exact Bool.false_ne_true
  refine call_meets F.slot_list_extend ⟨_, e, rfl⟩ F.entry_list_extend (F.args_list_extend_2 _ _)
    (AutoSeq1.list_extend_tupO l its.toArray n b its2.toArray hlong (by rw [List.size_toArray]; omega) (by omega)) ⟨e, p2, ?_⟩
  refine ⟨.non, _, I.lset (its' := its ++ its2) hH e (by simp) (r.append r2) ?_, rfl, q⟩
  rw [List.length_append]
  omega
end
end L2
end
namespace A
open PySem L2 PyProof.Rows
section
variable {N : Nm} {Z : Sta × Hp} {X : Cx} {S S' S1 : Sta} {H H' H1 : Hp} {Q : VK} {Qh : K} {σ : L2.St} {ρ : Env} {pos p : Pos} {a b c e : Expr} {wa wb wc : Wp}
theorem Kn.put (k : Kn N S H Qh Q) (rh : RH N H S) {p : Addr} {u o : HO} {m m0 : MO} (h : H p = some u) (d : Deep u = false) (hS : S p = some m0) (hm : RO N (upd H p o) p m) {x : D} {v : V} (r : RD N (upd H p o) x v) (q : Qh x (ups S p m)) : Q v (upd H p o) :=
  k _ _ _ _ (Fr.put hS) (rh.put h d hm) r q
theorem dle_lst {p : Addr} {o : HO} {xs : List V} (h : H p = some (.lst xs)) : Dle H (upd H p o) := dle_put h rfl
theorem kdel_rel {k : Key} : ∀ {kvs : List (Key × D)} {ws : List (Key × V)}, ws.map (·.1) = kvs.map (·.1) → RDs N H (kvs.map (·.2)) (ws.map (·.2)) →
    (dropK ws k).map (·.1) = (kdel kvs k).map (·.1) ∧ RDs N H ((kdel kvs k).map (·.2)) ((dropK ws k).map (·.2))
  | [], ws, e, h => by cases ws with
    | nil => exact ⟨rfl, .nil⟩
    | cons _ _ => simp at e
  | x :: xs, ws, e, h => by cases ws with
    | nil => simp at e
    | cons y ys =>
      simp only [List.map_cons, List.cons.injEq] at e
      have h : RDs N H (x.2 :: xs.map (·.2)) (y.2 :: ys.map (·.2)) := h
      obtain ⟨_, _, e2, h1, h2⟩ := h.uncons
      cases e2
      obtain ⟨i1, i2⟩ := kdel_rel (k := k) e.2 h2
      unfold dropK kdel at *
      by_cases hk : x.1 = k
      · have hk' : y.1 = k := e.1.trans hk
        rw [List.filter_cons_of_neg (by simpa using hk'), List.filter_cons_of_neg (by simpa using hk)]
        exact ⟨i1, i2⟩
      · have hk' : ¬ y.1 = k := fun z => hk (e.1.symm.trans z)
        rw [List.filter_cons_of_pos (by simpa using hk'), List.filter_cons_of_pos (by simpa using hk)]
        simp only [List.map_cons]
        exact ⟨by rw [e.1, i1], .cons h1 i2⟩
theorem kdel_none {k : Key} : ∀ {kvs : List (Key × D)}, kget kvs k = none → kdel kvs k = kvs
  | [], _ => rfl
  | x :: xs, h => by
    unfold kget at h
    by_cases hk : x.1 = k
    · rw [List.find?_cons_of_pos (by simpa using hk)] at h; cases h
    · rw [List.find?_cons_of_neg (by simpa using hk)] at h
      have ih := kdel_none (k := k) (kvs := xs) h
      unfold kdel at ih ⊢
      rw [List.filter_cons_of_pos (by simpa using hk), ih]
def tBD (X : Cx) (name : Str) (to : TE) (t : TA) : TE := fun σ H Q => to σ H fun x H1 => ∃ T id r, PlainAttrs T ∧ Slot T name id ∧ typeOf (.builtin id) = pure (.type "method_descriptor") ∧ MtR X id r ∧ tyV X.K T x H1 ∧ t σ H1 fun xs H2 => r x xs H2 Q
def noSup : Expr → Bool
  | .Call (.Name id _) [] [] _ => id != ("super" : Str)
  | _ => true
theorem noSup_ok {e : Expr} {f : Str} {env : PySem.Env} (h : noSup e = true) : attributeBase e f env (eval e env) = eval e env := by
  cases e <;> first | rfl | skip
  rename_i g as ks p
  cases g <;> first | rfl | skip
  cases as <;> first | rfl | skip
  cases ks <;> first | rfl | skip
  exact L2.abase_call h
theorem pe_bD0 {o : Expr} {name : Str} {apos cpos : Pos} {to : TE} (ho : PE X o to) (hb : noSup o = true) (hline : (apos.endLine == cpos.line) = true) : PE X (.Call (.Attribute o name apos) [] [] cpos) (tBD X name to tNil) := by
  refine ⟨fun pins s σ H Q I h => ?_⟩
  refine wpAny_Call_method0_late (noSup_ok hb) hline (thn (ho.run pins s σ H _ I h) fun v s1 ⟨x, H1, I1, r1, T, id, r, pa, slot, hty, hm, ty, q1⟩ => ?_)
  obtain ⟨h1, h2⟩ := tyV_is I1 r1 ty
  exact ⟨T, id, pa, slot, hty, h1, h2, Calls.callWith_builtin rfl (PySem.evalArgs_none (hm pins s1 σ H1 x [] v [] Q I1 r1 .nil q1))⟩
theorem pe_bD {o : Expr} {es : List Expr} {name : Str} {apos cpos : Pos} {to : TE} {t : TA} (ho : PE X o to) (ha : PA X (e :: es) t) (hb : noSup o = true) (hline : (apos.endLine == cpos.line) = true) (pl : (e :: es).all plainA = true)
    (hfew : ((backTo cpos (starEach (e :: es) X.env)).all (fun x => !x.1) && (backToKw cpos (keywordEach [] X.env)).all (fun x => x.1.isSome)
      && decide ((e :: es).length + ([] : List Keyword).length + (if ([] : List Keyword).isEmpty then 0 else 1) < 30)) = true) :
    PE X (.Call (.Attribute o name apos) (e :: es) [] cpos) (tBD X name to t) := by
  simp only [List.all_cons, Bool.and_eq_true] at pl
  refine ⟨fun pins s σ H Q I h => ?_⟩
  refine wpAny_Call_method_late (noSup_ok hb) hfew hline rfl (thn (ho.run pins s σ H _ I h) fun v s1 ⟨x, H1, I1, r1, T, id, r, pa, slot, hty, hm, ty, q1⟩ => ?_)
  obtain ⟨h1, h2⟩ := tyV_is I1 r1 ty
  refine ⟨T, id, pa, slot, hty, h1, h2, ?_⟩
  have hA := ha.run cpos pins s1 σ H1 _ I1 q1
  rw [starEach_plain _ pl.1] at hA ⊢
  refine Calls.callWith_builtin (by show (false || (backTo cpos (starEach es X.env)).any (·.1)) = false; rw [star_none _ pl.2] <;> rfl) (Calls.evalArgs_plain ?_)
  exact thn hA fun us s2 ⟨vs, H2, I2, r2, q2⟩ => hm pins s2 σ H2 x vs v us Q I2 r1 r2 q2
theorem few_args {cpos : Pos} {es : List Expr} {env : PySem.Env} (pl : es.all plainA = true) (hl : es.length < 29) :
    ((backTo cpos (starEach es env)).all (fun x => !x.1) && (backToKw cpos (keywordEach [] env)).all (fun x => x.1.isSome) && decide (es.length + ([] : List Keyword).length + (if ([] : List Keyword).isEmpty then 0 else 1) < 30)) = true := by
  have h1 : (backTo cpos (starEach es env)).all (fun x => !x.1) = true := by
    clear hl
    induction es with
    | nil => rfl
    | cons e es ih =>
      simp only [List.all_cons, Bool.and_eq_true] at pl
      rw [starEach_plain _ pl.1]
      show (true && (backTo cpos (starEach es env)).all (fun x => !x.1)) = true
      rw [ih pl.2]; rfl
  rw [h1]
  have h2 : (backToKw cpos (keywordEach [] env)).all (fun x => x.1.isSome) = true := by
    have : keywordEach [] env = [] := by first | rfl | simp [keywordEach]
    rw [this]; rfl
  rw [h2]
  simp only [Bool.true_and, decide_eq_true_eq, List.length_nil, List.isEmpty_nil, if_true, Nat.add_zero]
  omega
def rBm (N : Nm) (m : Bm) (t : Ty) : V → List V → Hp → VK → Prop := fun v vs H Q => ∃ x ds S Qh, RH N H S ∧ RD N H x v ∧ RDs N H ds vs ∧ wbm m t x ds S Qh ∧ Kn N S H Qh Q
def tyN : Ty → String
  | .list => "list" | .dict => "dict" | .str => "str"
def bmN : Bm → Str
  | .append => "append" | .extend => "extend" | .pop => "pop" | .get => "get" | .setd => "setdefault" | .join => "join" | .split => "split" | .ends => "endswith" | .rstrip => "rstrip" | .clear => "clear" | .upper => "upper" | .replace => "replace" | .count => "count"
def bmOk : Bm → Bool
  | _ => true
theorem ty_at (hK : N.K = X.K) (rh : RH N H S) {x : D} {v : V} {t : Ty} (r : RD N H x v) (e : tyD S x = some t) : tyV X.K (tyN t) v H := by
  cases x with
  | str z => cases e; cases rd_str r; exact rfl
  | ref a =>
    cases rd_ref r
    simp only [tyD] at e
    cases ea : S a with
    | none => rw [ea] at e; cases e
    | some o =>
      rw [ea] at e
      cases o with
      | lst l => cases e; obtain ⟨vs, h1, _⟩ := at_lst rh ea; exact .inl ⟨rfl, vs, SqL.of h1⟩
      | dic l => cases e; obtain ⟨ws, h1, _⟩ := at_dic rh ea; exact .inr (.inr (.inl ⟨rfl, .inl ⟨ws, h1⟩⟩))
      | _ => cases e
  | _ => cases e
theorem mimp {id : String} {r r' : V → List V → Hp → VK → Prop} (h : MtR X id r) (i : ∀ x xs H Q, r' x xs H Q → r x xs H Q) : MtR X id r' := fun pins s σ H x xs v us Q I rx rs q => h pins s σ H x xs v us Q I rx rs (i x xs H Q q)
theorem mt_get2 (hu : X.A.units + 1 < cLine) : MtR X "dict.get" (fun x xs H Q => ∃ a y o d, x = .ref a ∧ xs = [y, d] ∧ DGet H a y o ∧ Q (o.getD d) H) := by
  intro pins s σ H x xs v us Q I rx rs h
  obtain ⟨a, y, o, d, rfl, rfl, g, q⟩ := h
  cases rx
  obtain ⟨u1, u2, rfl, r1, r2⟩ := vals2 rs
  exact d_get2 hu I g r1 r2 fun w' s' I' r' => ⟨o.getD d, H, I', r', q⟩
theorem mt_popK : MtR X "dict.pop" (fun x xs H Q => ∃ a kvs k, x = .ref a ∧ H a = some (.dK kvs) ∧ ((∃ v, (xs = [kV k] ∨ ∃ d, xs = [kV k, d]) ∧ valV kvs k = some v ∧ Q v (upd H a (.dK (dropK kvs k)))) ∨ ∃ d, xs = [kV k, d] ∧ valV kvs k = none ∧ Q d H)) := by
  intro pins s σ H x xs v us Q I rx rs h
  obtain ⟨a, kvs, k, rfl, ea, h⟩ := h
  cases rx
  rcases h with ⟨y, hx, e, q⟩ | ⟨d, rfl, e, q⟩
  · rcases hx with rfl | ⟨d, rfl⟩
    · obtain ⟨u, rfl, ru⟩ := vals1 rs
      exact d_pop I ea ru e (.inl rfl) fun w' s' I' r' => ⟨y, _, I', r', q⟩
    · obtain ⟨u, u2, rfl, ru, r2⟩ := vals2 rs
      exact d_pop I ea ru e (.inr ⟨_, rfl⟩) fun w' s' I' r' => ⟨y, _, I', r', q⟩
  · obtain ⟨u, u2, rfl, ru, r2⟩ := vals2 rs
    exact d_popD I ea ru e fun s' I' => ⟨d, H, I', r2, q⟩
theorem mt_setd : MtR X "dict.setdefault" (fun x xs H Q => ∃ a kvs k d, x = .ref a ∧ xs = [kV k, d] ∧ H a = some (.dK kvs) ∧ kvs.length < sizeLine ∧ ((∃ v, valV kvs k = some v ∧ Q v H) ∨ (valV kvs k = none ∧ Q d (upd H a (.dK (putK kvs k d)))))) := by
  intro pins s σ H x xs v us Q I rx rs h
  obtain ⟨a, kvs, k, d, rfl, rfl, ea, hl, h⟩ := h
  cases rx
  obtain ⟨u, u2, rfl, ru, r2⟩ := vals2 rs
  refine d_setd I ea ru r2 hl (fun y hy w' s' I' r' => ?_) (fun hn w' s' I' r' => ?_)
  · rcases h with ⟨z, e, q⟩ | ⟨e, _⟩
    · rw [hy] at e; cases e; exact ⟨_, _, I', r', q⟩
    · rw [hy] at e; cases e
  · rcases h with ⟨z, e, _⟩ | ⟨_, q⟩
    · rw [hn] at e; cases e
    · exact ⟨_, _, I', r', q⟩
theorem strsAre_of : ∀ {ss : List Str} {its : List Value}, Vals (ss.map V.str) its → PyProof.Rows.StrsAre its ss
  | [], its, r => by
    cases r
    exact .nil
  | s :: r', its, r => by
    rw [List.map_cons] at r
    cases r with
    | cons h t =>
      obtain ⟨tk, rfl⟩ := h
      exact .cons s tk (strsAre_of t)
theorem countIn_eq (k : Str) : ∀ ss : List Str, PySem.Spec.countIn (.str k) (ss.map PyData.str) = ((ss.countP fun y => y == k : Nat) : Int)
  | [] => rfl
  | s :: r => by
    have h : PySem.Spec.same (PyData.str s) (PyData.str k) = (s == k) := rfl
    rw [List.map_cons, PySem.Spec.countIn, countIn_eq k r, List.countP_cons, h]
    by_cases e : (s == k) = true
    · rw [if_pos e, if_pos e]; omega
    · rw [if_neg e, if_neg e]; omega
theorem mt_countS : MtR X "list.count" (fun x xs H Q => ∃ (p : Addr) (ss : List Str) (k : Str), x = .ref p ∧ xs = [.str k] ∧ SqL X.K H p (ss.map V.str) ∧ Q (.int (ss.countP fun y => y == k : Nat)) H) := by
  intro pins s σ H x xs v us Q I rx rxs h
  obtain ⟨p, ss, k, rfl, rfl, hs, q⟩ := h
  cases rx
  obtain ⟨u, rfl, ru⟩ := vals1 rxs
  obtain ⟨t, rfl⟩ := ru
  obtain ⟨its, rv, pl, hlen⟩ := I.list hs
  refine PyProof.Rows.count_list_strs pl.isList (strsAre_of rv) ?_
  rw [countIn_eq]
  exact ⟨.int (ss.countP fun y => y == k : Nat), H, I.tok _, ⟨_, rfl⟩, q⟩
structure BmR (N : Nm) (X : Cx) (m : Bm) (t : Ty) : Prop where
  run : ∃ id, Slot (tyN t) (bmN m) id ∧ typeOf (.builtin id) = pure (.type "method_descriptor") ∧ MtR X id (rBm N m t)
theorem plain_ty : ∀ t, PlainAttrs (tyN t)
  | .list => PySem.F.plainAttrs_list
  | .dict => PySem.F.plainAttrs_dict
  | .str => PySem.F.plainAttrs_str
theorem bm_at (hK : N.K = X.K) (hu : X.A.units + 1 < cLine) : ∀ m t, bmOk m = true → bmHas m t = true → BmR N X m t
  | .append, .list, _, _ => ⟨_, PySem.F.slot_list_append, PySem.F.type_list_append, mimp mt_append fun v vs H Q ⟨x, ds, S, Qh, rh, rx, rs, w, k⟩ => by
      simp only [wbm] at w
      split at w <;> first | exact w.elim | skip
      rename_i a d h1
      cases h1
      split at w <;> first | exact w.elim | skip
      rename_i xs ea
      obtain ⟨y, t, rfl, ry, rt⟩ := rs.uncons
      rw [rt.unnil]
      cases rd_ref rx
      obtain ⟨ws, h1, r1⟩ := at_lst rh ea
      refine ⟨a, ws, y, rfl, rfl, h1, r1.length ▸ w.1, k.put rh h1 rfl ea (m := .lst (xs ++ [d])) ⟨ws ++ [y], L2.upd_same, (r1.append (.cons ry .nil)).mono' (dle_lst h1)⟩ mk_non w.2⟩⟩
  | .count, .list, _, _ => ⟨_, PySem.F.slot_list_count, PySem.F.type_list_count, mimp mt_countS fun v vs H Q ⟨x, ds, S, Qh, rh, rx, rs, w, k⟩ => by
      simp only [wbm] at w
      split at w <;> first | exact w.elim | skip
      rename_i a z h1
      cases h1
      split at w <;> first | exact w.elim | skip
      rename_i xs ea
      obtain ⟨y, t, rfl, ry, rt⟩ := rs.uncons
      rw [rt.unnil]
      cases rd_ref rx
      cases rd_str ry
      obtain ⟨ws, h1, r1⟩ := at_lst rh ea
      obtain ⟨ss, e1, q⟩ := w
      have := rds_strs r1 e1
      subst this
      exact ⟨a, ss, z, rfl, rfl, SqL.of h1, k.at rh mk_int q⟩⟩
  | .extend, .list, _, _ => ⟨_, PySem.F.slot_list_extend, PySem.F.type_list_extend, mimp mt_extA fun v vs H Q ⟨x, ds, S, Qh, rh, rx, rs, w, k⟩ => by
      simp only [wbm] at w
      split at w <;> first | exact w.elim | skip
      · rename_i a b h1
        cases h1
        split at w <;> first | exact w.elim | skip
        rename_i xs ys ea eb
        obtain ⟨y, t, rfl, ry, rt⟩ := rs.uncons
        rw [rt.unnil]
        cases rd_ref rx
        cases rd_ref ry
        obtain ⟨ws, h1, r1⟩ := at_lst rh ea
        obtain ⟨zs, h2, r2⟩ := at_lst rh eb
        refine .inl ⟨a, b, ws, zs, rfl, rfl, h1, h2, by rw [← r1.length, ← r2.length]; exact w.1, k.put rh h1 rfl ea (m := .lst (xs ++ ys)) ⟨ws ++ zs, L2.upd_same, (r1.append r2).mono' (dle_lst h1)⟩ mk_non w.2⟩
      · rename_i a ys h1
        cases h1
        split at w <;> first | exact w.elim | skip
        rename_i xs ea
        obtain ⟨y, t, rfl, ry, rt⟩ := rs.uncons
        rw [rt.unnil]
        cases rd_ref rx
        obtain ⟨b, zs, rfl, h2, r2⟩ := rd_tup ry
        obtain ⟨ws, h1, r1⟩ := at_lst rh ea
        refine .inr ⟨a, b, ws, zs, rfl, rfl, h1, hK ▸ h2, by rw [← r1.length, ← r2.length]; exact w.1, k.put rh h1 rfl ea (m := .lst (xs ++ ys)) ⟨ws ++ zs, L2.upd_same, (r1.append r2).mono' (dle_lst h1)⟩ mk_non w.2⟩⟩
  | .pop, .list, _, _ => ⟨_, PySem.F.slot_list_pop, PySem.F.type_list_pop, mimp mt_pop fun v vs H Q ⟨x, ds, S, Qh, rh, rx, rs, w, k⟩ => by
      simp only [wbm] at w
      split at w <;> first | exact w.elim | (rename_i h; cases h; done) | skip
      rename_i a h1
      split at w <;> first | exact w.elim | skip
      rename_i xs ea
      rw [rs.unnil]
      cases rd_ref rx
      obtain ⟨ws, h1, r1⟩ := at_lst rh ea
      obtain ⟨d, e, q⟩ := w
      obtain ⟨y, ey, ry⟩ := r1.get e
      have dl : RDs N H xs.dropLast ws.dropLast := by
        rw [List.dropLast_eq_take, List.dropLast_eq_take, ← r1.length]
        exact r1.take _
      exact ⟨a, ws, y, rfl, rfl, h1, r1.length ▸ ey, k.put rh h1 rfl ea (m := .lst xs.dropLast) ⟨ws.dropLast, L2.upd_same, dl.mono' (dle_lst h1)⟩ (RD.mono (dle_lst h1) _ _ ry) q⟩⟩
  | .clear, .list, _, _ => ⟨_, PySem.F.slot_list_clear, PySem.F.type_list_clear, mimp mt_clear fun v vs H Q ⟨x, ds, S, Qh, rh, rx, rs, w, k⟩ => by
      simp only [wbm] at w
      split at w <;> first | exact w.elim | skip
      rename_i a h1
      split at w <;> first | exact w.elim | skip
      rename_i xs ea
      rw [rs.unnil]
      cases rd_ref rx
      obtain ⟨ws, h1, r1⟩ := at_lst rh ea
      exact ⟨a, ws, rfl, rfl, h1, k.put rh h1 rfl ea (m := .lst []) ⟨[], L2.upd_same, .nil⟩ mk_non w⟩⟩
  | .pop, .dict, _, _ => ⟨_, PySem.F.slot_dict_pop, PySem.F.type_dict_pop, mimp mt_popK fun v vs H Q ⟨x, ds, S, Qh, rh, rx, rs, w, k⟩ => by
      simp only [wbm] at w
      split at w <;> first | exact w.elim | (rename_i h; cases h; done) | skip
      · rename_i a y h1
        split at w <;> first | exact w.elim | skip
        rename_i kvs ea
        obtain ⟨y', t, rfl, ry, rt⟩ := rs.uncons
        rw [rt.unnil]
        cases rd_ref rx
        obtain ⟨ws, h1, e1, r1⟩ := at_dic rh ea
        obtain ⟨key, d, ek, eg, q⟩ := w
        rcases kget_rel (k := key) e1 r1 with ⟨z, _⟩ | ⟨d', v', z1, z2, z3⟩
        · rw [z] at eg; cases eg
        · rw [z1] at eg; cases eg
          obtain ⟨g1, g2⟩ := kdel_rel (k := key) e1 r1
          exact ⟨a, ws, key, rfl, h1, .inl ⟨v', .inl (by rw [key_rd ek ry]), z2, k.put rh h1 rfl ea (m := .dic (kdel kvs key)) ⟨_, L2.upd_same, g1, g2.mono' (dle_put h1 rfl)⟩ (RD.mono (dle_put h1 rfl) _ _ z3) q⟩⟩
      · rename_i a y u h1
        split at w <;> first | exact w.elim | skip
        rename_i kvs ea
        obtain ⟨y', t, rfl, ry, rt⟩ := rs.uncons
        obtain ⟨u', t, rfl, ru, rt⟩ := rt.uncons
        rw [rt.unnil]
        cases rd_ref rx
        obtain ⟨ws, h1, e1, r1⟩ := at_dic rh ea
        obtain ⟨key, ek, q⟩ := w
        rcases kget_rel (k := key) e1 r1 with ⟨z, z'⟩ | ⟨d', v', z1, z2, z3⟩
        · rw [z, kdel_none z, ups_self ea] at q
          exact ⟨a, ws, key, rfl, h1, .inr ⟨u', by rw [key_rd ek ry], z', k.at rh ru q⟩⟩
        · rw [z1] at q
          obtain ⟨g1, g2⟩ := kdel_rel (k := key) e1 r1
          exact ⟨a, ws, key, rfl, h1, .inl ⟨v', .inr ⟨u', by rw [key_rd ek ry]⟩, z2, k.put rh h1 rfl ea (m := .dic (kdel kvs key)) ⟨_, L2.upd_same, g1, g2.mono' (dle_put h1 rfl)⟩ (RD.mono (dle_put h1 rfl) _ _ z3) q⟩⟩⟩
  | .get, .dict, _, _ => ⟨_, PySem.F.slot_dict_get, PySem.F.type_dict_get, mimp (mt_get2 hu) fun v vs H Q ⟨x, ds, S, Qh, rh, rx, rs, w, k⟩ => by
      simp only [wbm] at w
      split at w <;> first | exact w.elim | skip
      rename_i a y u h1
      obtain ⟨y', t, rfl, ry, rt⟩ := rs.uncons
      obtain ⟨u', t, rfl, ru, rt⟩ := rt.uncons
      rw [rt.unnil]
      cases rd_ref rx
      have go : ∀ kvs, (S a = some (.dic kvs) ∨ ∃ fu, S a = some (.dicF kvs fu)) → (∃ k', keyD y = some k' ∧ Qh ((kget kvs k').getD u) S) → ∃ a_1 y_1 o d, V.ref a = V.ref a_1 ∧ [y', u'] = [y_1, d] ∧ DGet H a_1 y_1 o ∧ Q (o.getD d) H := fun kvs hs ⟨key, ek, q⟩ => by
        obtain ⟨o, g, z⟩ := dget_of rh hs key
        refine ⟨a, y', o, u', rfl, rfl, by rw [key_rd ek ry]; exact g, ?_⟩
        rcases z with ⟨z1, rfl⟩ | ⟨d', v', z1, rfl, z3⟩
        · rw [z1] at q; exact k.at rh ru q
        · rw [z1] at q; exact k.at rh z3 q
      split at w <;> first | exact w.elim | skip
      · exact go _ (.inl (by assumption)) w
      · exact go _ (.inr ⟨_, by assumption⟩) w⟩
  | .join, .str, _, _ => ⟨_, PySem.F.slot_str_join, PySem.F.type_str_join, mimp mt_join fun v vs H Q ⟨x, ds, S, Qh, rh, rx, rs, w, k⟩ => by
      simp only [wbm] at w
      split at w <;> first | exact w.elim | skip
      rename_i z d h1
      obtain ⟨xs, ss, e1, e2, h2, q⟩ := w
      obtain ⟨y, t, rfl, ry, rt⟩ := rs.uncons
      rw [rt.unnil]
      cases rd_str rx
      obtain ⟨a, ws, rfl, h3, r1⟩ := itemsT_at hK rh ry e1
      rw [rds_strs r1 e2] at h3
      exact ⟨z, a, ss, rfl, rfl, h3.imp id (·.1), h2, k.at rh mk_str q⟩⟩
  | .split, .str, _, _ => ⟨_, PySem.F.slot_str_split, PySem.F.type_str_split, mimp mt_split fun v vs H Q ⟨x, ds, S, Qh, rh, rx, rs, w, k⟩ => by
      simp only [wbm] at w
      split at w <;> first | exact w.elim | skip
      rename_i z d h1
      obtain ⟨h1, h2, q⟩ := w
      obtain ⟨y, t, rfl, ry, rt⟩ := rs.uncons
      rw [rt.unnil]
      cases rd_str rx
      cases rd_str ry
      have rr : ∀ ys : List Str, RDs N H (ys.map .str) (ys.map V.str) := fun ys => by
        induction ys with
        | nil => exact .nil
        | cons y ys ih => exact .cons mk_str ih
      exact ⟨z, d, rfl, rfl, h1, h2, fun p n => k.newL rh n (rr _) q⟩⟩
  | .ends, .str, _, _ => ⟨_, PySem.F.slot_str_endswith, PySem.F.type_str_endswith, mimp mt_endswith fun v vs H Q ⟨x, ds, S, Qh, rh, rx, rs, w, k⟩ => by
      simp only [wbm] at w
      split at w <;> first | exact w.elim | skip
      rename_i z d h1
      obtain ⟨y, t, rfl, ry, rt⟩ := rs.uncons
      rw [rt.unnil]
      cases rd_str rx
      cases rd_str ry
      exact ⟨z, d, rfl, rfl, k.at rh mk_bl w⟩⟩
  | .rstrip, .str, _, _ => ⟨_, PySem.F.slot_str_rstrip, PySem.F.type_str_rstrip, mimp mt_rstripChars fun v vs H Q ⟨x, ds, S, Qh, rh, rx, rs, w, k⟩ => by
      simp only [wbm] at w
      split at w <;> first | exact w.elim | skip
      rename_i z d h1
      obtain ⟨y, t, rfl, ry, rt⟩ := rs.uncons
      rw [rt.unnil]
      cases rd_str rx
      cases rd_str ry
      exact ⟨z, d, rfl, rfl, w.1, k.at rh mk_str w.2⟩⟩
  | .upper, .str, _, _ => ⟨_, PySem.F.slot_str_upper, PySem.F.type_str_upper, mimp mt_upper fun v vs H Q ⟨x, ds, S, Qh, rh, rx, rs, w, k⟩ => by
      simp only [wbm] at w
      split at w <;> first | exact w.elim | skip
      rename_i z h1
      rw [rs.unnil]
      cases rd_str rx
      exact ⟨z, rfl, rfl, w.1, k.at rh mk_str w.2⟩⟩
  | .setd, .dict, _, _ => ⟨_, PySem.F.slot_dict_setdefault, PySem.F.type_dict_setdefault, mimp mt_setd fun v vs H Q ⟨x, ds, S, Qh, rh, rx, rs, w, k⟩ => by
      simp only [wbm] at w
      split at w <;> first | exact w.elim | skip
      rename_i a y u h1
      split at w <;> first | exact w.elim | skip
      rename_i kvs ea
      obtain ⟨y', t, rfl, ry, rt⟩ := rs.uncons
      obtain ⟨u', t, rfl, ru, rt⟩ := rt.uncons
      rw [rt.unnil]
      cases rd_ref rx
      obtain ⟨ws, h1, e1, r1⟩ := at_dic rh ea
      obtain ⟨hl, key, ek, q⟩ := w
      have ln : ws.length = kvs.length := by have := congrArg List.length e1; simpa using this
      refine ⟨a, ws, key, u', rfl, by rw [key_rd ek ry], h1, by omega, ?_⟩
      rcases kget_rel (k := key) e1 r1 with ⟨z, z'⟩ | ⟨d', v', z1, z2, z3⟩
      · rw [z] at q
        obtain ⟨g1, g2⟩ := kput_rel (k := key) ru e1 r1
        exact .inr ⟨z', k.put rh h1 rfl ea (m := .dic (kput kvs key u)) ⟨_, L2.upd_same, g1, g2.mono' (dle_put h1 rfl)⟩ (RD.mono (dle_put h1 rfl) _ _ ru) q⟩
      · rw [z1] at q
        simp only [Option.isSome_some, if_true, Option.getD_some, ups_self ea] at q
        exact .inl ⟨v', z2, k.at rh z3 q⟩⟩
  | .setd, .list, _, h => by cases h
  | .setd, .str, _, h => by cases h
  | .rstrip, .list, _, h => by cases h
  | .rstrip, .dict, _, h => by cases h
  | .replace, _, _, h => by cases h
  | .append, .dict, _, h => by cases h
  | .append, .str, _, h => by cases h
  | .extend, .dict, _, h => by cases h
  | .extend, .str, _, h => by cases h
  | .pop, .str, _, h => by cases h
  | .get, .list, _, h => by cases h
  | .get, .str, _, h => by cases h
  | .join, .list, _, h => by cases h
  | .join, .dict, _, h => by cases h
  | .split, .list, _, h => by cases h
  | .split, .dict, _, h => by cases h
  | .ends, .list, _, h => by cases h
  | .ends, .dict, _, h => by cases h
  | .clear, .dict, _, h => by cases h
  | .clear, .str, _, h => by cases h
  | .upper, .list, _, h => by cases h
  | .upper, .dict, _, h => by cases h
end
end A
namespace L2C
open PySem PySem.Spec PyProof.Rows L2
def Lnk : Value → List (Addr × Obj) → Prop
  | c, [] => c = .none
  | c, p :: r => c = .ref p.1 ∧ ∃ (vs : Array Value) (c2 : Value), p.2.data = .fields vs ∧ vs[2]? = some c2 ∧ Lnk c2 r
theorem lnk_data : ∀ {l : List (Addr × Obj)} {c : Value}, Lnk c l → ∀ p ∈ l, ∃ ws : Array Value, p.2.data = .fields ws
  | [], _, _, p, hp => by cases hp
  | q :: r, c, ⟨_, vs, c2, d, _, k⟩, p, hp => by
    rcases List.mem_cons.mp hp with e | hp
    · rw [e]; exact ⟨vs, d⟩
    · exact lnk_data k p hp
def Lies (G : Heap) (H : Hp) (l : List (Addr × Obj)) : Prop := ∀ p ∈ l, G.get? p.1 = some p.2 ∧ H p.1 = none
def CtxA (c : Value) : Obj → Prop := fun o => ∀ ws : Array Value, o.data = .fields ws → ws[2]? = some c
theorem CtxA.steady {c : Value} : PXN.Steady1 (CtxA c) := fun o v h => by
  obtain ⟨k, d, dt, sl⟩ := o
  cases dt with
  | fields ws =>
    intro us e
    have e2 : ws.setIfInBounds 1 v = us := by injection (show Data.fields (ws.setIfInBounds 1 v) = .fields us from e)
    rw [← e2, Array.getElem?_setIfInBounds_ne (by decide)]
    exact h ws rfl
  | _ => intro us e; exact Data.noConfusion e
def Zx (k : Value) (z : Option Addr) (c : Value) : Obj → Prop := fun o => o.cls = k ∧ o.dict = z ∧ CtxA c o
theorem Zx.steady {k : Value} {z : Option Addr} {c : Value} : PXN.Steady1 (Zx k z c) := fun o v h => ⟨PXN.steady_cls o v h.1, PXN.steady_dict o v h.2.1, CtxA.steady o v h.2.2⟩
theorem Zx.zc {k : Value} {z : Option Addr} {c : Value} {o : Obj} (h : Zx k z c o) : Zc k z o := ⟨h.1, h.2.1⟩
def XE (X : Cx) (W : WX) (u : Value) (t : Shared) : Prop :=
  ∃ (a : Addr) (c : Value) (l : List (Addr × Obj)) (B : Heap) (sI : Shared) (pins : List (Addr × Obj)) (σ : L2.St) (H : Hp) (k : Value) (z : Option Addr),
    u = .ref a ∧ Inv X pins σ H sI ∧ (∀ b o, sI.heap.get? b = some o → b ∉ frs X.stack → B.get? b = some o) ∧ sI.heap.UpToSlots t.heap ∧ Sky B X.stack a (Zx k z c) X.env.locals t.heap ∧
      (Lnk c l ∧ Lies B H l) ∧ H a = none ∧ t.os = sI.os ∧ AllBare t.gens ∧ W k z σ H
def Takes (X : Cx) (W : WX) : Prop := ∀ u t, XE X W u t → X.xe u t
theorem Takes.imp {X : Cx} {W W' : WX} (tk : Takes X W) (h : ∀ k z σ H, W' k z σ H → W k z σ H) : Takes X W' := fun u t ⟨a, c, l, B, sI, pins, σ, H, k, z, e, I, nb, up, sky, ch, na, os, ag, w⟩ =>
  tk u t ⟨a, c, l, B, sI, pins, σ, H, k, z, e, I, nb, up, sky, ch, na, os, ag, h _ _ _ _ w⟩
theorem Takes.n {X : Cx} {W : WX} (tk : Takes X W) : L2N.Takes X W := fun u t ⟨a, B, sI, pins, σ, H, k, z, e, I, nb, up, sky, na, os, ag, w⟩ =>
  tk u t ⟨a, .none, [], B, sI, pins, σ, H, k, z, e, I, nb, up, sky, ⟨rfl, fun p hp => by cases hp⟩, na, os, ag, w⟩
def CX (P : Program) (w : World) (outer : List PySem.Env) (H : Hp) (s : Shared) (E : XK) (u : Value) (t : Shared) : Prop :=
  ∃ (a : Addr) (c : Value) (l : List (Addr × Obj)) (B : Heap) (H2 : Hp) (k : Value) (z : Option Addr), u = .ref a ∧ HandSPX.FlyingZ B outer a (Zx k z c) t.heap ∧ (Lnk c l ∧ Lies B H2 l) ∧ HOk P w H2 B ∧
    UB (frs outer) H H2 s.heap B t.heap ∧ H2 a = none ∧ t.os = s.os ∧ AllBare t.gens ∧ E k z H2
section
variable {X : Cx} {pins : List (Addr × Obj)} {σ : L2.St} {H : Hp} {sI s t : Shared} {W : WX} {E : XK}
theorem XE.of_call (I : Inv X pins σ H s) (hW : ∀ k z H2, E k z H2 → W k z σ H2) {u : Value} (q : CX X.prog X.w X.stack H s E u t) : XE X W u t := by
  obtain ⟨a, c, l, B, H2, k, z, rfl, fl, ch, hok, ub, na, os, ag, e⟩ := q
  obtain ⟨G, in_, out_⟩ := restrict t.heap fun b => (B.get? b).isSome || decide (b ∈ frs X.stack)
  have low : ∀ b o, B.get? b = some o → G.get? b = some o := fun b o h => (in_ b (by simp [h])).trans (fl.1 b o h)
  have frm : ∀ b, b ∈ frs X.stack → G.get? b = t.heap.get? b := fun b h => in_ b (by simp [h])
  have src : ∀ b o, G.get? b = some o → t.heap.get? b = some o ∧ ((∃ v, B.get? b = some v) ∨ b ∈ frs X.stack) := fun b o h => by
    by_cases y : ((B.get? b).isSome || decide (b ∈ frs X.stack)) = true
    · refine ⟨(in_ b y).symm.trans h, ?_⟩
      rcases Bool.or_eq_true_iff.mp y with y | y
      · exact .inl (Option.isSome_iff_exists.mp y)
      · exact .inr (of_decide_eq_true y)
    · rw [out_ b (Bool.eq_false_iff.mpr y)] at h; cases h
  have un : Un (frs X.stack) [] H H2 s.heap G := by
    refine ⟨fun b o e n hb _ => low b o (ub.keep b o e n hb), fun b o e n hb _ => ?_, fun b o e n _ => ub.free b o e n, fun b o e _ => ?_, ub.tups, ub.frzs, ub.tbls⟩
    · rw [frm b hb]; exact ub.slot b o e hb
    · by_cases hb : b ∈ frs X.stack
      · obtain ⟨sl, y⟩ := ub.slot b o e hb
        exact ⟨_, (frm b hb).trans y⟩
      · obtain ⟨v, y⟩ := ub.there b o e hb
        exact ⟨v, low b v y⟩
  have J := I.call (g' := t.gens) (d' := t.drawn) (t' := t.toks) (ch := []) un (hok.kept low) ag (fun _ y => nomatch y)
  refine ⟨a, c, l, B, _, pins, σ, H2, k, z, rfl, J, fun b o h hb => ?_, Heap.UpToSlots.of_keeps fun b o h => (src b o h).1, .inr (.inl fl), ch, na, os, ag, hW _ _ _ e⟩
  obtain ⟨y, x⟩ := src b o h
  rcases x with ⟨v, x⟩ | x
  · rw [fl.1 b v x] at y; cases y; exact x
  · exact absurd x hb
theorem XE.made {a : Addr} {oe : Obj} {vs : Array Value} {k c : Value} {z : Option Addr} {l : List (Addr × Obj)} (I : Inv X pins σ H sI) (kp : ∀ b o, sI.heap.get? b = some o → t.heap.get? b = some o) (fresh : sI.heap.get? a = none)
    (he : t.heap.get? a = some oe) (hz : Zx k z c oe) (hd : oe.data = .fields vs) (h1 : vs[1]? = some .none) (lk : Lnk c l) (ly : ∀ p ∈ l, sI.heap.get? p.1 = some p.2 ∧ H p.1 = none ∧ p.1 ∉ frs X.stack) (na : H a = none) (os : t.os = sI.os)
    (ag : AllBare t.gens) (w : W k z σ H) : XE X W (.ref a) t := by
  have base_ : (PySem.W.hideAll sI.heap (frs X.stack)).get? a = none := by
    cases q : (PySem.W.hideAll sI.heap (frs X.stack)).get? a with
    | none => rfl
    | some o => have y := PySem.W.of_hideAll _ q; rw [fresh] at y; cases y
  have frames_ : t.heap.FunFrames (PySem.W.hideAll sI.heap (frs X.stack)) X.stack := (funFrames_none I.stack fun b hb => PySem.W.hideAll_none _ hb).of_keeps fun b o e _ => ⟨o, kp b o e, rfl⟩
  exact ⟨a, c, l, PySem.W.hideAll sI.heap (frs X.stack), sI, pins, σ, H, k, z, rfl, I, fun b o e hb => PySem.W.hideAll_get _ e hb, Heap.UpToSlots.of_keeps kp, .inl ⟨fun b o e => kp b o (PySem.W.of_hideAll _ e), base_, frames_, oe, vs, he, hz, hd, h1⟩,
    ⟨lk, fun p hp => ⟨PySem.W.hideAll_get _ (ly p hp).1 (ly p hp).2.2, (ly p hp).2.1⟩⟩, na, os, ag, w⟩
theorem XE.out (hs : X.stack = X.env :: X.outer) (hf : X.env.frame = some X.env.locals) (ex0 : X.ex = []) {E₁ : Value → Shared → Prop} (hW : ∀ k z σ H, W k z σ H → E k z H) {u : Value} (q : XE X W u t) :
    wpAny (model X.prog X.w) X.A (leaving X.env u) (fun _ t2 => CX X.prog X.w X.outer X.H_0 X.s_0 E u t2) E₁ t := by
  obtain ⟨a, c, l, B, sI, pins, σ, H, k, z, rfl, I, nb, up, sky, ch, na, os, ag, w⟩ := q
  have framesA : X.A.frames = some (X.env :: X.outer) := I.ok.frames.trans (by rw [hs])
  have notEx : ∀ b, b ∉ X.ex := fun b hb => by rw [ex0] at hb; cases hb
  have below : ∀ b o, X.s_0.heap.get? b = some o → b ∉ X.fs → b ∉ frs X.stack := fun b o e hb hm => by
    rcases List.mem_cons.mp (I.stkSub b hm) with y | y
    · have lt := Heap.lt_size e
      rw [y] at lt
      exact absurd (Nat.lt_of_lt_of_le lt I.ok.above) (Nat.lt_irrefl _)
    · exact hb y
  have land : ∀ h2, HandSPX.FlyingZ B X.outer a (Zx k z c) h2 → t.heap.UpToSlots h2 → CX X.prog X.w X.outer X.H_0 X.s_0 E (.ref a) { t with heap := h2 } := fun h2 fl up2 => by
    have ub : UB (frs X.outer) X.H_0 H X.s_0.heap B h2 := by
      refine ⟨fun b o e n hb => nb b o (I.base.keep b o e n hb (notEx b)) (below b o e hb), fun b o e hb => ?_, fun b o e n => I.base.free b o e n (notEx b), fun b o e hb => ?_, I.base.tups, I.base.frzs, I.base.tbls⟩
      · obtain ⟨_, o₀, e₀, nf⟩ := I.ok.funs.mem hb
        cases e.symm.trans e₀
        obtain ⟨_, y1⟩ := I.base.slot b o e (I.ok.frf b hb) hb (notEx b)
        obtain ⟨_, y2⟩ := up b _ y1 nf
        obtain ⟨sl, y3⟩ := up2 b _ y2 nf
        exact ⟨sl, y3⟩
      · obtain ⟨v, y⟩ := I.base.there b o e (notEx b)
        exact ⟨v, nb b v y (below b o e hb)⟩
    exact ⟨a, c, l, B, H, k, z, rfl, fl, ch, I.inGround nb, ub, na, os.trans I.os, ag, hW _ _ _ _ w⟩
  rw [hs] at sky
  rcases sky with ⟨g1, g2, g3, oe, vs, g4, g5, g6, g7⟩ | fl | hd
  · exact PXN.leaving_firstZ Zx.steady framesA g3 hf g4 g1 g2 g6 g7 g5 land
  · exact PXN.leaves_onZ Zx.steady framesA hf fl land
  · exact HandSPX.leaves_heldZ hf hd land
theorem takes_of (hs : X.stack = X.env :: X.outer) (hf : X.env.frame = some X.env.locals) (ex0 : X.ex = []) {E₁ : Value → Shared → Prop}
    (hx : X.xe = fun e t => wpAny (model X.prog X.w) X.A (leaving X.env e) (fun _ t2 => CX X.prog X.w X.outer X.H_0 X.s_0 E e t2) E₁ t) : Takes X (fun k z _ H => E k z H) := fun u t q => by
  rw [hx]
  exact XE.out (W := fun k z _ H => E k z H) hs hf ex0 (fun _ _ _ _ h => h) q
theorem passes_call (tk : Takes X W) (hW : ∀ k z σ H, E k z H → W k z σ H) : Passes (CX X.prog X.w) X E := fun _ σ _ _ e t I q => tk e t (XE.of_call I (fun k z H2 h => hW k z σ H2 h) q)
theorem passAt (tk : Takes X W) (σ : L2.St) : PassesAt (CX X.prog X.w) X σ (WE W σ) := fun _ _ _ e t I q => tk e t (XE.of_call I (fun _ _ _ h => h) q)
theorem XE.bare {a : Addr} {oe : Obj} {vs : Array Value} {k : Value} {z : Option Addr} (I : Inv X pins σ H sI) (kp : ∀ b o, sI.heap.get? b = some o → t.heap.get? b = some o) (fresh : sI.heap.get? a = none)
    (he : t.heap.get? a = some oe) (hz : L2N.Zn k z oe) (hd : oe.data = .fields vs) (h1 : vs[1]? = some .none) (na : H a = none) (os : t.os = sI.os) (ag : AllBare t.gens) (w : W k z σ H) : XE X W (.ref a) t :=
  XE.made (c := .none) (l := []) I kp fresh he hz hd h1 rfl (fun p hp => by cases hp) na os ag w
end
def Row (h : Heap) (L : List (Addr × Obj)) : Prop := ∀ (i : Nat) (p : Addr × Obj), L[i]? = some p → h.get? p.1 = some p.2 ∧ ∃ vs : Array Value, p.2.data = .fields vs ∧ vs[2]? = some ((L[i + 1]?).elim Value.none fun q => .ref q.1)
theorem row_of {h : Heap} : ∀ {l : List (Addr × Obj)} {po : Addr × Obj} {c : Value}, (∃ vs : Array Value, po.2.data = .fields vs ∧ vs[2]? = some c) → Lnk c l → (∀ p ∈ po :: l, h.get? p.1 = some p.2) → Row h (po :: l)
  | [], po, c, ⟨vs, d, e⟩, k, at_ => fun i p hi => by
    match i with
    | 0 =>
      cases hi
      refine ⟨at_ _ (List.mem_cons_self ..), vs, d, ?_⟩
      rw [e, show c = Value.none from k]
      rfl
    | i + 1 => simp at hi
  | q :: r, po, c, ⟨vs, d, e⟩, k, at_ => fun i p hi => by
    obtain ⟨k1, ws, c2, d2, e2, k2⟩ := k
    match i with
    | 0 =>
      cases hi
      refine ⟨at_ _ (List.mem_cons_self ..), vs, d, ?_⟩
      rw [e, k1]
      rfl
    | i + 1 =>
      exact row_of (po := q) ⟨ws, d2, e2⟩ k2 (fun p hp => at_ p (List.mem_cons_of_mem _ hp)) i p (by simpa using hi)
section
variable {prog : Program} {w : World} {A : Around} {E : Value → Shared → Prop} {s : Shared}
theorem quiet_ {args : Args} : (Code.builtin "proto.unchain" args).quiet = true := plainId_quiet (by first | rfl | decide | kernel_rfl) args
theorem unchain {L : List (Addr × Obj)} {a : Addr} {R : Result → Shared → Prop} (row : Row s.heap L) (na : ∀ p ∈ L, p.1 ≠ a) (done : R (.ok (.ret .none)) s) : ∀ (n i j : Nat) (p q : Addr × Obj) (tg : Bool), L.length ≤ n + i → L[i]? = some p → L[j]? = some q → j ≤ i →
    codeAny (model prog w) A (.builtin "proto.unchain" ⟨[.ref a, .ref p.1, .ref q.1, .bool tg], []⟩) R s := by
  intro n
  induction n with
  | zero =>
    intro i j p q tg hl hi hj le
    rw [List.getElem?_eq_none (by omega)] at hi
    cases hi
  | succ n ih =>
    intro i j p q tg hl hi hj le
    obtain ⟨h1, vs, d1, c1⟩ := row i p hi
    refine codeAny_builtin HotX.entry_unchain ?_
    show wpAny _ _ (field (.ref p.1) 2 >>= _) _ _ s
    refine wpAny_bind (wpAny_field h1 d1 c1 ?_)
    cases hn : L[i + 1]? with
    | none =>
      rw [Option.elim_none, if_pos (show (Value.none == Value.none) = true from rfl)]
      first
      | exact wpAny_bind (wpAny_pure (wpAny_pure done))
      | exact wpAny_pure done
    | some p2 =>
      have n2 : p2.1 ≠ a := na _ (List.mem_of_getElem? hn)
      rw [Option.elim_some, if_neg (show ¬ ((Value.ref p2.1 == Value.none) = true) from by simp), if_neg (show ¬ ((Value.ref p2.1 == Value.ref a) = true) from by simpa using n2)]
      by_cases hq : p2.1 = q.1
      · rw [if_pos (show (Value.ref p2.1 == Value.ref q.1) = true from by simpa using hq)]
        first
        | exact wpAny_bind (wpAny_rule (wpAny_bind (wpAny_pure (wpAny_pure done))))
        | exact wpAny_bind (wpAny_rule (wpAny_pure done))
      · rw [if_neg (show ¬ ((Value.ref p2.1 == Value.ref q.1) = true) from by simpa using hq)]
        obtain ⟨g1, ws, d2, c2⟩ := row j q hj
        cases tg with
        | false =>
          simp only [Bool.false_eq_true, if_false]
          first
          | exact wpAny_bind (wpAny_pure (wpAny_pure ⟨quiet_, ih (i + 1) j p2 q _ (by omega) hn hj (by omega)⟩))
          | exact wpAny_pure ⟨quiet_, ih (i + 1) j p2 q _ (by omega) hn hj (by omega)⟩
        | true =>
          simp only [if_true]
          refine wpAny_bind (wpAny_field g1 d2 c2 ?_)
          have lt : j + 1 < L.length := by
            have : i + 1 < L.length := (List.getElem?_eq_some_iff.mp hn).1
            omega
          obtain ⟨q2, hj2⟩ : ∃ q2, L[j + 1]? = some q2 := ⟨_, List.getElem?_eq_getElem lt⟩
          rw [hj2, Option.elim_some]
          exact wpAny_pure ⟨quiet_, ih (i + 1) (j + 1) p2 q2 _ (by omega) hn hj2 (by omega)⟩
theorem raiseNew_row {α : Type} {a : Addr} {po : Addr × Obj} {l : List (Addr × Obj)} {oe : Obj} {vs : Array Value} {Q : α → Shared → Prop} (hh : A.handled = some (.ref po.1)) (row : Row s.heap (po :: l)) (na : ∀ p ∈ po :: l, p.1 ≠ a) (ha : s.heap.get? a = some oe)
    (da : oe.data = .fields vs) (hi : 2 < vs.size) (hE : E (.ref a) { s with heap := s.heap.update a (Obj.mapFields (·.setIfInBounds 2 (.ref po.1))) }) : wpAny (model prog w) A (raiseNew (.ref a) : Sem α) Q E s := by
  unfold raiseNew
  refine wpAny_bind (wpAny_handled ?_)
  rw [hh]
  have ne : (Value.ref po.1 != Value.ref a) = true := HotX.ref_bne (na _ (List.mem_cons_self ..))
  have walk : ∀ {Q : Value → Shared → Prop}, Q .none s → wpAny (model prog w) A (holding [Value.ref a] (runValue (.builtin "proto.unchain" ⟨[.ref a, .ref po.1, .ref po.1, .bool false], []⟩))) Q E s := fun q =>
    wpAny_holding (wpAny_runValue (unchain row na q _ 0 0 po po false (Nat.le_refl _) rfl rfl (Nat.le_refl _)))
  show wpAny _ _ (if (Value.ref po.1 != Value.ref a) = true then _ else _) _ _ _
  rw [if_pos ne]
  first
  | exact wpAny_bind (walk (wpAny_bind (HotX.chained ha da hi (wpAny_throw hE))))
  | exact wpAny_bind (wpAny_bind (walk (HotX.chained ha da hi (wpAny_throw hE))))
end
abbrev sx (X : Cx) (a : Addr) (pn : List (Addr × Obj)) (xe : Value → Shared → Prop) : Cx := { X with A := X.A.mark (some (.ref a)), calm := false, pn := pn, xe := xe }
section
variable {X : Cx} {a : Addr} {pn pins pins2 : List (Addr × Obj)} {xe : Value → Shared → Prop} {σ : L2.St} {H : Hp} {s : Shared}
theorem inv_outOf (I : Inv (sx X a pn xe) pins2 σ H s) (ok : X.Ok) (sub : ∀ p ∈ X.pn ++ pins, p ∈ pn) : Inv X pins σ H s :=
  ⟨ok, I.os, I.bare, I.base, I.loc, I.cell, I.free, I.freeC, fun p hp => I.pin p (List.mem_append_left _ (sub p hp)), I.hok, I.len⟩
theorem not_stack (I : Inv X pins σ H s) {b : Addr} (h1 : b ≠ X.env.locals) (h2 : b ∉ X.fs) : b ∉ frs X.stack := fun hm => (List.mem_cons.mp (I.stkSub b hm)).elim h1 h2
theorem renamed {sI t : Shared} {G h2 : Heap} {m1 : Str → Option Value} {v : Option Value} {i : Nat} {n : Str} (I : Inv X pins σ H sI) (hN : X.N.Nodup) (hi : X.N[i]? = some n) (hg : ∀ b, (sI.heap.get? b).isSome = true → G.get? b = h2.get? b)
    (stay : ∀ b o, sI.heap.get? b = some o → b ∉ frs X.stack → h2.get? b = some o) (slot : ∀ b o, sI.heap.get? b = some o → b ∈ X.fs → ∃ sl, h2.get? b = some { o with slots := sl })
    (look : ∀ (j : Nat) (x : Str) (w : V), X.N[j]? = some x → σ[j]? = some (some w) → Vis X.env.scope x → ∃ u, RelV w u ∧ Look X.env h2 m1 x u) (hn : h2.Ns X.env.locals (fun x => if x = n then v else m1 x)) (ct : ∀ x c, X.env.cells.lookup x = some c → ∃ w, h2.IsCell c w)
    (os : t.os = sI.os) (ag : AllBare t.gens) (ht : t.heap = G) : Inv X pins (σ.set i none) H t := by
  have here : ∀ b o, sI.heap.get? b = some o → G.get? b = h2.get? b := fun b o e => hg b (by rw [e]; rfl)
  have old : ∀ b o, X.s_0.heap.get? b = some o → b ≠ X.env.locals := fun b o e => Nat.ne_of_lt (Nat.lt_of_lt_of_le (Heap.lt_size e) I.ok.above)
  have locD : ∃ o, sI.heap.get? X.env.locals = some o := by
    obtain ⟨_, ⟨o, _, _, e, _⟩, _⟩ := I.loc
    exact ⟨o, e⟩
  have cellD : ∀ x c, X.env.cells.lookup x = some c → ∃ o, sI.heap.get? c = some o := fun x c e => by
    obtain ⟨_, o, h, _⟩ := I.cell x c e
    exact ⟨o, h⟩
  have cellG : ∀ x c w, X.env.cells.lookup x = some c → h2.IsCell c w → t.heap.IsCell c w := fun x c w e q => by
    obtain ⟨o, h⟩ := cellD x c e
    obtain ⟨o2, y1, y2⟩ := q
    exact ⟨o2, by rw [ht, here c o h]; exact y1, y2⟩
  refine ⟨I.ok, os.trans I.os, ag, ⟨fun b o e nn hb hx => ?_, fun b o e nn hb hx => ?_, I.base.free, fun b o e hx => ?_, I.base.tups, I.base.frzs, I.base.tbls⟩, ⟨fun x => if x = n then v else m1 x, ?_, fun j x w e1 e2 e3 => ?_⟩, fun x c e => ?_, I.free, I.freeC, fun p hp => ?_, fun b u e => ?_, by simpa using I.len⟩
  · have y := I.base.keep b o e nn hb hx
    rw [ht, here b o y]
    exact stay b o y (not_stack I (old b o e) hb)
  · obtain ⟨sl, y⟩ := I.base.slot b o e nn hb hx
    obtain ⟨sl2, y2⟩ := slot b _ y hb
    exact ⟨sl2, by rw [ht, here b _ y]; exact y2⟩
  · obtain ⟨o2, y⟩ := I.base.there b o e hx
    rw [ht, here b o2 y]
    by_cases hb : b ∈ X.fs
    · obtain ⟨sl, y2⟩ := slot b _ y hb
      exact ⟨_, y2⟩
    · exact ⟨_, stay b o2 y (not_stack I (old b o e) hb)⟩
  · obtain ⟨o, y⟩ := locD
    obtain ⟨o2, es, ep, y1, y2⟩ := hn
    exact ⟨o2, es, ep, by rw [ht, here _ o y]; exact y1, y2⟩
  · by_cases hj : i = j
    · subst hj
      by_cases lt : i < σ.length
      · rw [List.getElem?_set_self lt] at e2; cases e2
      · rw [List.getElem?_eq_none (by simpa using lt)] at e2; cases e2
    · rw [List.getElem?_set_ne hj] at e2
      obtain ⟨u, r, q⟩ := look j x w e1 e2 e3
      refine ⟨u, r, ?_⟩
      rcases q with ⟨k, q⟩ | ⟨k, c, e, q⟩
      · have nx : x ≠ n := fun y => hj (nodup_ix hN hi (y ▸ e1))
        exact .inl ⟨k, (if_neg nx).trans q⟩
      · exact .inr ⟨k, c, e, cellG x c _ e q⟩
  · obtain ⟨w, q⟩ := ct x c e
    exact ⟨w, cellG x c w e q⟩
  · obtain ⟨y1, y2, y3, y4, y5⟩ := I.pin p hp
    exact ⟨by rw [ht, here _ _ y1]; exact stay _ _ y1 (not_stack I y3 y4), y2, y3, y4, y5⟩
  · refine (I.hok b u e).stay (fun c w hc q => ?_) (fun _ q => q) fun _ _ q => q
    rw [ht, here c w q]
    refine stay c w q fun hm => ?_
    have y := I.stkFree c hm
    rcases hc with hc | hc
    · rw [hc, e] at y; cases y
    · rw [hc] at y; cases y
theorem held_note {M : Model} {A : Around} {E₁ : Value → Shared → Prop} {B : Heap} {env : PySem.Env} {outer : List PySem.Env} {L : Addr} {Z : Obj → Prop} {Q : Unit → Shared → Prop} (hZ : PXN.Steady1 Z) (hfr : A.frames = some (env :: outer)) (hf : env.frame = some L)
    (q : Sky B (env :: outer) a Z L s.heap) (k : ∀ h1, HandSPX.HeldZ B (env :: outer) a Z L h1 → s.heap.UpToSlots h1 → Q () { s with heap := h1 }) : wpAny M A (noteFrame (.ref a) env) Q E₁ s := by
  rcases q with ⟨g1, g2, g3, oe, vs, g4, g5, g6, g7⟩ | fl | hd
  · exact PXN.look_newZ hZ hfr g3 hf g4 g1 g2 g6 g7 g5 k
  · exact PXN.looks_onZ hZ hfr hf fl k
  · exact HandSPX.againZ hf hd.2.2.2 (k s.heap hd (Heap.UpToSlots.refl _))
theorem as_out {Wout : WX} {i : Nat} {n : Str} {pos : Pos} {E2 E3 : Value → Shared → Prop} {u : Value} {t : Shared} (hs : X.stack = X.env :: X.outer) (hf : X.env.frame = some X.env.locals) (hpa : ∀ hd : Option Value, PassesOwnAt (model X.prog X.w) (X.A.mark hd) X.A X.env X.xe)
    (hN : X.N.Nodup) (hi : X.N[i]? = some n) (hl : X.env.kindOf n = some .local) (tk : Takes X Wout) (ok : X.Ok) (sub : ∀ p ∈ X.pn, p ∈ pn) (q : XE (sx X a pn xe) (fun k z σ H => Wout k z (σ.set i none) H) u t) :
    wpAny (model X.prog X.w) (X.A.mark (some (.ref a))) (noteFrame u X.env) (fun _ t1 => wpAny (model X.prog X.w) (X.A.mark (some (.ref a))) (do bindName X.env n .none; unbindBehindTheSuite X.env n pos)
      (fun _ t2 => wpAny (model X.prog X.w) (X.A.mark (some (.ref a))) (passOn "try.except-as" u X.env : Sem Flow) (fun _ _ => False) (notedBy (model X.prog X.w) (X.A.mark (some (.ref a))) X.env (cameBackBy (model X.prog X.w) X.A X.env X.xe)) t2) E2 t1) E3 t := by
  obtain ⟨a2, c, l, B, sI, pins', σ, H, k, z, rfl, J', nb, up, sky, ch, na, os, ag, w⟩ := q
  have J : Inv X [] σ H sI := inv_outOf J' ok fun p hp => sub p (by simpa using hp)
  have framesA : (X.A.mark (some (.ref a))).frames = some (X.env :: X.outer) := (show X.A.frames = _ from ok.frames).trans (by rw [hs])
  have sky' : Sky B (X.env :: X.outer) a2 (Zx k z c) X.env.locals t.heap := by rw [← hs]; exact sky
  refine held_note Zx.steady framesA hf sky' fun h1 held1 up1 => ?_
  have J1 : Inv X [] σ H { t with heap := h1 } := J.landed nb held1.1 (up.trans up1) os ag
  obtain ⟨m, hn, look⟩ := J1.loc
  have plain : (X.env.scope.kind == .class || (X.env.scope.kind == .module && X.env.locals != X.env.globals)) = false := by rw [ok.kind]; rfl
  refine wpAny_nameGoes_keeps hl hn plain fun h2 v hn2 same => ?_
  have locNone : B.get? X.env.locals = none := by
    obtain ⟨_, ⟨L', _, y1, y2, _⟩, _⟩ := held1.2.2.1
    rw [hf] at y1
    rw [Option.some.inj y1]
    exact y2
  have keep2 : B.StaysIn h2 := fun b o e => (same.2 b fun y => by rw [y, locNone] at e; cases e).trans (held1.1 b o e)
  have record : ∀ {b : Addr} {o : Obj} {ws : Array Value}, h1.get? b = some o → o.data = .fields ws → h2.get? b = some o := fun {b o ws} e d => (same.2 b fun y => by
    obtain ⟨o2, es, ep, y1, y2, _⟩ := hn
    have y1' : h1.get? X.env.locals = some o2 := y1
    rw [y, y1'] at e
    cases e
    rw [y2] at d
    cases d).trans e
  have held2 : HandSPX.HeldZ B (X.env :: X.outer) a2 (Zx k z c) X.env.locals h2 := by
    refine ⟨keep2, held1.2.1, Heap.FunFrames.sameBut same hn2 held1.2.2.1, ?_⟩
    obtain ⟨oe, vs, T, oT, ts, e1, e2, e3, e4, e5, e6, e7, e8, e9⟩ := held1.2.2.2
    exact ⟨oe, vs, T, oT, ts, record e1 e3, e2, e3, e4, e5, e6, record e7 e8, e8, e9⟩
  obtain ⟨oe, vs, T, oT, ts, e1, e2, e3, e4, e5⟩ := held2.2.2.2
  unfold PySem.passOn
  refine wpAny_bind (wpAny_field e1 e3 e4 ?_)
  rw [if_neg (show ¬ ((Value.ref T == Value.none) = true) from by simp)]
  have on : wpAny (model X.prog X.w) (X.A.mark (some (.ref a))) (setFlight (.ref a2) X.env.frame) (fun _ t4 => wpAny (model X.prog X.w) (X.A.mark (some (.ref a))) (throw (.ref a2) : Sem Flow) (fun _ _ => False)
      (notedBy (model X.prog X.w) (X.A.mark (some (.ref a))) X.env (cameBackBy (model X.prog X.w) X.A X.env X.xe)) t4)
      (notedBy (model X.prog X.w) (X.A.mark (some (.ref a))) X.env (cameBackBy (model X.prog X.w) X.A X.env X.xe)) { t with heap := h2, toks := t.toks + 1 } := by
    rw [hf]
    refine HandSPX.setFlight_onZ (s := { t with heap := h2, toks := t.toks + 1 }) held2 fun h4 held4 up4 => wpAny_throw (hpa _ _ _ (tk _ _ ?_))
    obtain ⟨G, in_, out_⟩ := restrict h2 fun b => (sI.heap.get? b).isSome
    have src : ∀ b o, G.get? b = some o → h2.get? b = some o ∧ ∃ o', sI.heap.get? b = some o' := fun b o h => by
      cases y : (sI.heap.get? b).isSome with
      | false => rw [out_ b y] at h; cases h
      | true => exact ⟨(in_ b y).symm.trans h, Option.isSome_iff_exists.mp y⟩
    have stay : ∀ b o, sI.heap.get? b = some o → b ∉ frs X.stack → h2.get? b = some o := fun b o e hb => keep2 b o (nb b o e hb)
    have inStack : ∀ b, b ∈ X.fs → b ≠ X.env.locals := fun b hb y => by
      obtain ⟨_, o, e, _⟩ := ok.funs.mem hb
      have lt := Heap.lt_size e
      rw [y] at lt
      exact absurd (Nat.lt_of_lt_of_le lt ok.above) (Nat.lt_irrefl _)
    have slot : ∀ b o, sI.heap.get? b = some o → b ∈ X.fs → ∃ sl, h2.get? b = some { o with slots := sl } := fun b o e hb => by
      have nf : ∀ vs, o.data ≠ .fields vs := by
        obtain ⟨_, o', e', nf⟩ := J.funs.mem hb
        rw [e] at e'
        cases e'
        exact nf
      obtain ⟨sl, y⟩ := (up.trans up1) b o e nf
      exact ⟨sl, (same.2 b (inStack b hb)).trans y⟩
    have K := renamed (t := { t with heap := G, toks := t.toks + 1 }) (m1 := m) J hN hi in_ stay slot (fun j x w a1 a2 a3 => by
      obtain ⟨u, r, y⟩ := look j x w a1 a2 a3
      refine ⟨u, r, ?_⟩
      rcases y with y | ⟨k1, c1, k2, y⟩
      · exact .inl y
      · exact .inr ⟨k1, c1, k2, y.sameBut same (J1.cne x c1 k2)⟩) hn2 (fun x c1 e => by
      obtain ⟨w, y⟩ := J1.cell x c1 e
      exact ⟨w, y.sameBut same (J1.cne x c1 e)⟩) os ag rfl
    refine ⟨a2, c, l, B, _, [], σ.set i none, H, k, z, rfl, K, fun b o h hb => ?_, (Heap.UpToSlots.of_keeps fun b o h => (src b o h).1).trans up4, .inr (.inr (by rw [hs]; exact held4)), ch, na, rfl, ag, w⟩
    obtain ⟨y1, o', y2⟩ := src b o h
    have y3 := nb b o' y2 hb
    rw [keep2 b o' y3] at y1
    cases y1
    exact y3
  first
    | exact wpAny_bind (wpAny_pure (wpAny_bind on))
    | exact wpAny_bind on
end
def PassX (X : Cx) : Prop := PassesOwn (model X.prog X.w) X.A X.env X.xe ∧ ∀ hd : Option Value, PassesOwnAt (model X.prog X.w) (X.A.mark hd) X.A X.env X.xe
theorem PassX.own {X : Cx} (h : PassX X) : PassesOwn (model X.prog X.w) X.A X.env X.xe := h.1
theorem passX_of {X : Cx} {K : Value → Shared → Prop} {E₁ : Value → Shared → Prop} (hx : X.xe = fun e t => wpAny (model X.prog X.w) X.A (leaving X.env e) (fun _ t2 => K e t2) E₁ t) : PassX X := by
  unfold PassX
  rw [hx]
  exact ⟨PassesOwn.leaving, fun hd => PassesOwnAt.leaving⟩
theorem passX_no {X : Cx} (hx : X.xe = fun _ _ => False) : PassX X := by
  unfold PassX
  rw [hx]
  exact ⟨PassesOwn.never, fun hd => PassesOwnAt.never⟩
theorem inv_more {X : Cx} {pins l : List (Addr × Obj)} {σ : L2.St} {H : Hp} {s : Shared} (I : Inv X pins σ H s) (h : ∀ p ∈ l, s.heap.get? p.1 = some p.2 ∧ H p.1 = none ∧ p.1 ≠ X.env.locals ∧ p.1 ∉ X.fs ∧ ∀ v, p.2.data ≠ .cell v) : Inv X (pins ++ l) σ H s :=
  ⟨I.ok, I.os, I.bare, I.base, I.loc, I.cell, I.free, I.freeC, fun p hp => by
    rw [← List.append_assoc] at hp
    rcases List.mem_append.mp hp with hp | hp
    · exact I.pin p hp
    · exact h p hp, I.hok, I.len⟩
theorem inv_less {X : Cx} {pins l : List (Addr × Obj)} {σ : L2.St} {H : Hp} {s : Shared} (I : Inv X (pins ++ l) σ H s) : Inv X pins σ H s :=
  ⟨I.ok, I.os, I.bare, I.base, I.loc, I.cell, I.free, I.freeC, fun p hp => I.pin p (by rw [← List.append_assoc]; exact List.mem_append_left _ hp), I.hok, I.len⟩
theorem inv_sx {X : Cx} {a : Addr} {pn pins : List (Addr × Obj)} {xe : Value → Shared → Prop} {σ : L2.St} {H : Hp} {s : Shared} (I : Inv (X.suite a pn) pins σ H s) : Inv (sx X a pn xe) pins σ H s :=
  Inv.unwish (X := sx X a pn xe) (E := fun _ _ => False) I
theorem inv_sx' {X : Cx} {a : Addr} {pn pins : List (Addr × Obj)} {xe : Value → Shared → Prop} {σ : L2.St} {H : Hp} {s : Shared} (I : Inv (sx X a pn xe) pins σ H s) : Inv (X.suite a pn) pins σ H s := I.wish fun _ _ => False
theorem chain_at {X : Cx} {B h : Heap} {H : Hp} {c : Value} {l : List (Addr × Obj)} (hf : X.env.frame = some X.env.locals) (ch : Lnk c l ∧ Lies B H l) (st : B.StaysIn h) (ff : h.FunFrames B (X.env :: X.outer)) :
    ∀ p ∈ l, h.get? p.1 = some p.2 ∧ H p.1 = none ∧ p.1 ≠ X.env.locals ∧ p.1 ∉ X.fs ∧ ∀ v, p.2.data ≠ .cell v := fun p hp => by
  obtain ⟨y1, y2⟩ := ch.2 p hp
  obtain ⟨ws, d⟩ := lnk_data ch.1 p hp
  have nf : p.1 ∉ (X.env :: X.outer).filterMap (·.frame) := fun hm => by
    have := (ff.mem hm).1
    rw [y1] at this
    cases this
  refine ⟨st _ _ y1, y2, fun y => nf (List.mem_filterMap.mpr ⟨X.env, List.mem_cons_self, by rw [hf, y]⟩), fun hm => ?_, fun v y => by rw [d] at y; cases y⟩
  obtain ⟨e, he, q⟩ := List.mem_filterMap.mp hm
  exact nf (List.mem_filterMap.mpr ⟨e, List.mem_cons_of_mem _ he, q⟩)
structure HotK (X : Cx) (po : Addr × Obj) (l : List (Addr × Obj)) : Prop where
  hd : X.A.handled = some (.ref po.1)
  mem : ∀ p ∈ po :: l, p ∈ X.pn
  ctx : ∃ (vs : Array Value) (c : Value), po.2.data = .fields vs ∧ vs[2]? = some c ∧ Lnk c l
theorem hot_suite {X : Cx} {a : Addr} {oe : Obj} {vs : Array Value} {k c : Value} {z : Option Addr} {l pn : List (Addr × Obj)} (hd : oe.data = .fields vs) (hz : Zx k z c oe) (lk : Lnk c l) (sub : ∀ p ∈ l, p ∈ pn) : HotK (X.suite a ((a, oe) :: pn)) (a, oe) l :=
  ⟨rfl, fun p hp => by
    rcases List.mem_cons.mp hp with e | hp
    · rw [e]; exact List.mem_cons_self
    · exact List.mem_cons_of_mem _ (sub p hp), vs, c, hd, hz.2.2 vs hd, lk⟩
theorem HotK.sx {X : Cx} {a : Addr} {po : Addr × Obj} {l pn : List (Addr × Obj)} {xe : Value → Shared → Prop} (h : HotK (X.suite a pn) po l) : HotK (sx X a pn xe) po l := ⟨h.hd, h.mem, h.ctx⟩
section
variable {X : Cx} {po : Addr × Obj} {l pins : List (Addr × Obj)} {σ : L2.St} {H : Hp} {s : Shared}
theorem HotK.pin (h : HotK X po l) (I : Inv X pins σ H s) : ∀ p ∈ po :: l, s.heap.get? p.1 = some p.2 ∧ H p.1 = none ∧ p.1 ≠ X.env.locals ∧ p.1 ∉ X.fs ∧ ∀ v, p.2.data ≠ .cell v := fun p hp => I.pin p (List.mem_append_left _ (h.mem p hp))
theorem HotK.all (h : HotK X po l) (I : Inv X pins σ H s) : ∀ p ∈ po :: l, s.heap.get? p.1 = some p.2 ∧ H p.1 = none ∧ p.1 ∉ frs X.stack := fun p hp => by
  obtain ⟨y1, y2, y3, y4, _⟩ := h.pin I p hp
  exact ⟨y1, y2, not_stack I y3 y4⟩
theorem HotK.lnk (h : HotK X po l) : Lnk (.ref po.1) (po :: l) := by
  obtain ⟨vs, c, e1, e2, e3⟩ := h.ctx
  exact ⟨rfl, vs, c, e1, e2, e3⟩
theorem HotK.row (h : HotK X po l) (I : Inv X pins σ H s) : Row s.heap (po :: l) := by
  obtain ⟨vs, c, e1, e2, e3⟩ := h.ctx
  exact row_of ⟨vs, e1, e2⟩ e3 fun p hp => (h.all I p hp).1
theorem Row.keeps {h h' : Heap} {L : List (Addr × Obj)} (r : Row h L) (k : ∀ p ∈ L, h'.get? p.1 = h.get? p.1) : Row h' L := fun i p hi => ⟨(k p (List.mem_of_getElem? hi)).trans (r i p hi).1, (r i p hi).2⟩
theorem Row.grow {h h' : Heap} {L : List (Addr × Obj)} (r : Row h L) (k : ∀ b o, h.get? b = some o → h'.get? b = some o) : Row h' L := fun i p hi => ⟨k _ _ (r i p hi).1, (r i p hi).2⟩
theorem var_at {i : Nat} {x : Str} {p : Pos} {v : V} {Q : Value → Shared → Prop} {E : Value → Shared → Prop} (I : Inv X pins σ H s) (hN : X.N[i]? = some x) (hv : Vis X.env.scope x) (n1 : (x == ("__debug__" : Str)) = false) (n2 : (x == ("__classdict__" : Str)) = false)
    (e : σ[i]? = some (some v)) (k : ∀ u, RelV v u → Q u s) : wpAny (model X.prog X.w) X.A (eval (.Name x p) X.env) Q E s := by
  obtain ⟨m, hn, all⟩ := I.loc
  obtain ⟨u, r, lk⟩ := all i x v hN e hv
  have go := k u r
  rcases lk with ⟨hk, hm⟩ | ⟨hk | hk, c, hc, ce⟩
  · exact wpAny_Name (wpAny_loadName_local I.ok.kind hk hn hm go) n1
  · exact wpAny_Name (wpAny_loadName_cell I.ok.kind hk hc ce go) n1
  · exact wpAny_Name (wpAny_loadName_free I.ok.kind hk hc ce go n2) n1
theorem ps_raiseC {W : WX} {e : Expr} {te : L2.St → Hp → XK → Prop} {i : Nat} {n : Str} {np pos : Pos} (hot : HotK X po l) (hb : X.base.get? po.1 = none) (hr : Raises X po.2.cls) (tk : Takes X W) (he : L2H.PMk5 X e te) (hN : X.N[i]? = some n) (hv : Vis X.env.scope n)
    (n1 : (n == ("__debug__" : Str)) = false) (n2 : (n == ("__classdict__" : Str)) = false) :
    PS X (.Raise (some e) (some (.Name n np)) pos) (fun _ σ H => σ[i]? = some (some (.ref po.1)) ∧ te σ H fun k z H2 => W k z σ H2) := by
  refine ⟨fun pins s σ H D I h => wpAny_Raise_from (thn (he pins s σ H _ I h.2) fun u s1 hu => ?_)⟩
  obtain ⟨⟨a, oe, vs, sI, H2, k, z, rfl, J, kp, fresh, ha, hz, hd, h1, na, os, ag, r, q⟩, six⟩ := hu
  have hi : 4 < vs.size := six a oe vs rfl ha hd
  have J1 : Inv X pins σ H2 s1 := J.landed (B := PySem.W.hideAll sI.heap (frs X.stack)) (fun b o e hb => PySem.W.hideAll_get _ e hb) (fun b o e => kp b o (PySem.W.of_hideAll _ e)) (Heap.UpToSlots.of_keeps kp) os ag
  refine var_at J1 hN hv n1 n2 h.1 fun u ru => ?_
  obtain rfl : u = Value.ref po.1 := ru
  have away : ∀ p ∈ po :: l, p.1 ≠ a := fun p hp y => by
    have := (hot.all J p hp).1
    rw [y, fresh] at this
    cases this
  obtain ⟨r1, r2⟩ := r (model X.prog X.w) sI.heap J.kIn
  obtain ⟨b1, b2⟩ := hr (model X.prog X.w) X.base J.ok.mod.kin
  obtain ⟨ws, c0, d0, e0, lk0⟩ := hot.ctx
  have RA : RaiseAt (model X.prog X.w) sI.heap s1.heap a oe vs k := ⟨ha, hz.1, hd, kp, fresh, r1, r2⟩
  have RB : RaiseAt (model X.prog X.w) X.base s1.heap po.1 po.2 ws po.2.cls := ⟨(hot.all J1 po (List.mem_cons_self ..)).1, rfl, d0, J1.bk, hb, b1, b2⟩
  refine raise_from_tree RA hi (.inr ⟨po.1, po.2, ws, po.2.cls, rfl, X.base, RB⟩) ?_
  have R2 := (RA.set 3 (.ref po.1)).set 4 (.bool true)
  have other : ∀ b, b ≠ a → ((s1.heap.update a (Obj.mapFields (·.setIfInBounds 3 (.ref po.1)))).update a (Obj.mapFields (·.setIfInBounds 4 (.bool true)))).get? b = s1.heap.get? b := fun b y => by
    rw [Heap.get?_update_other _ _ (Ne.symm y), Heap.get?_update_other _ _ (Ne.symm y)]
  have f1 : ((vs.setIfInBounds 3 (Value.ref po.1)).setIfInBounds 4 (Value.bool true))[1]? = some Value.none := HotX.set_other (by decide) (HotX.set_other (by decide) h1)
  have sz : 2 < ((vs.setIfInBounds 3 (Value.ref po.1)).setIfInBounds 4 (Value.bool true)).size := by rw [HotX.set_size, HotX.set_size]; omega
  refine setFlight_fresh (s := { s1 with heap := (s1.heap.update a (Obj.mapFields (·.setIfInBounds 3 (.ref po.1)))).update a (Obj.mapFields (·.setIfInBounds 4 (.bool true))) }) R2.at_ R2.dat f1 ?_
  refine raiseNew_row (s := { s1 with heap := (s1.heap.update a (Obj.mapFields (·.setIfInBounds 3 (.ref po.1)))).update a (Obj.mapFields (·.setIfInBounds 4 (.bool true))) }) hot.hd ((hot.row J1).keeps fun p hp => other p.1 (away p hp)) away R2.at_ R2.dat sz ?_
  have R3 := R2.set 2 (.ref po.1)
  refine tk _ _ (XE.made (c := .ref po.1) (l := po :: l) J (fun b o y => R3.keep b o y) fresh R3.at_ ⟨R3.cl, ?_, fun us y => ?_⟩ R3.dat (HotX.set_other (by decide) f1) hot.lnk (hot.all J) na os ag q)
  · rw [HandSPX.dict_mapFields, HandSPX.dict_mapFields, HandSPX.dict_mapFields]
    exact hz.2.1
  · have y2 := R3.dat.symm.trans y
    cases y2
    simp only [Array.getElem?_setIfInBounds_self, sz, if_true]
end
end L2C
namespace A
open PySem L2 PyProof.Rows
section
variable {N : Nm} {Z : Sta × Hp} {X : Cx} {S S' S1 : Sta} {H H' H1 : Hp} {Q : VK} {Qh : K} {σ : L2.St} {ρ : Env} {pos p apos cpos : Pos} {a b c e o : Expr} {wa wb wc wo : Wp} {ws : Wps} {es : List Expr}
def hBm (m : Bm) (wo : Wp) (ws : Wps) : Wp := fun ρ S Q => wo ρ S fun x S1 => ∃ t, tyD S1 x = some t ∧ bmHas m t = true ∧ ws ρ S1 fun ds S2 => wbm m t x ds S2 Q
theorem bm_pe (hK : N.K = X.K) (hu : X.A.units + 1 < cLine) {m : Bm} (ok : bmOk m = true) {ta : TA} (hta : ∀ σ H Q, tA N Z ws σ H Q → ta σ H Q) (σ : L2.St) (H : Hp) (Q : VK) (t : tOf N Z (hBm m wo ws) σ H Q) : tBD X (bmN m) (tOf N Z wo) ta σ H Q := by
  refine tOf.one (g := fun ρ x S1 Q => ∃ t, tyD S1 x = some t ∧ bmHas m t = true ∧ ws ρ S1 fun ds S2 => wbm m t x ds S2 Q) t fun ρ x S1 v H1 Qh rs rh fz rx g k => ?_
  obtain ⟨t, e1, e2, q⟩ := g
  obtain ⟨id, h1, h2, h3⟩ := (bm_at hK hu m t ok e2).run
  refine ⟨tyN t, id, rBm N m t, plain_ty t, h1, h2, h3, ty_at hK rh rx e1, hta _ _ _ ⟨ρ, S1, _, rs, rh, fz, q, fun ds S2 vs H2 f h r q => ?_⟩⟩
  exact ⟨x, ds, S2, Qh, h, RD.mono (f.dle rh) _ _ rx, r, q, k.step f⟩
theorem he_bm (hK : N.K = X.K) (hu : X.A.units + 1 < cLine) {m : Bm} (ok : bmOk m = true) (ho : PE X o (tOf N Z wo)) (ha : PA X (e :: es) (tA N Z ws)) (hb : noSup o = true) (hline : (apos.endLine == cpos.line) = true) (pl : (e :: es).all plainA = true) (hl : (e :: es).length < 29) :
    PE X (.Call (.Attribute o (bmN m) apos) (e :: es) [] cpos) (tOf N Z (hBm m wo ws)) :=
  pimp (pe_bD ho ha hb hline pl (few_args pl hl)) (bm_pe hK hu ok fun _ _ _ h => h)
theorem he_bm0 (hK : N.K = X.K) (hu : X.A.units + 1 < cLine) {m : Bm} (ok : bmOk m = true) (ho : PE X o (tOf N Z wo)) (hb : noSup o = true) (hline : (apos.endLine == cpos.line) = true) :
    PE X (.Call (.Attribute o (bmN m) apos) [] [] cpos) (tOf N Z (hBm m wo fun _ S Q => Q [] S)) :=
  pimp (pe_bD0 ho hb hline) (bm_pe hK hu ok fun σ H Q ⟨ρ, S, Ql, rs, rh, fz, w, k⟩ => k [] S [] H Fr.refl rh .nil w)
def kdN : Kd → String
  | .int => "int" | .str => "str" | .bool => "bool" | .list => "list" | .tuple => "tuple" | .own _ => ""
def kdOk : Kd → Bool
  | .own _ => false
  | _ => true
def tnD (S : Sta) : D → Option String
  | .non => some "NoneType" | .bl _ => some "bool" | .int _ => some "int" | .str _ => some "str" | .tup _ => some "tuple" | .lis _ => some "list"
  | .ref a => match S a with
    | some (.lst _) => some "list"
    | some (.dic _) => some "dict"
    | _ => none
  | _ => none
theorem tn_at (hK : N.K = X.K) (rh : RH N H S) {x : D} {v : V} {t : String} (r : RD N H x v) (e : tnD S x = some t) : TyX X.K H v (.type t) := by
  cases x with
  | non => cases e; cases rd_non r; exact .base .non
  | bl b => cases e; cases rd_bl r; exact .base (.bl b)
  | int b => cases e; cases rd_int r; exact .base (.int b)
  | str b => cases e; cases rd_str r; exact .base (.str b)
  | tup l =>
    cases e
    obtain ⟨a, vs, rfl, h1, _⟩ := rd_tup r
    rw [hK] at h1
    rcases h1 with (h1 | ⟨ob, h1⟩) | ⟨ob, its, n, h1, h2, _⟩
    · exact .base (.tup h1)
    · exact .fTuple h1
    · exact .kTuple h1 h2
  | lis l =>
    cases e
    obtain ⟨a, vs, rfl, h1, _⟩ := rd_lis r
    rw [hK] at h1
    rcases h1 with (h1 | ⟨ob, h1⟩) | ⟨ob, its, n, h1, h2, _⟩
    · exact .base (.lst h1)
    · exact .base (.frz h1)
    · exact .kList h1 h2
  | ref a =>
    cases rd_ref r
    simp only [tnD] at e
    cases ea : S a with
    | none => rw [ea] at e; cases e
    | some ob =>
      rw [ea] at e
      cases ob with
      | lst l => cases e; obtain ⟨vs, h1, _⟩ := at_lst rh ea; exact .base (.lst h1)
      | dic l => cases e; obtain ⟨ws, h1, _⟩ := at_dic rh ea; exact .base (.dK h1)
      | _ => cases e
  | _ => cases e
theorem kit_lit (K : PySem.W.Frag) : ∀ t ∈ ["NoneType", "bool", "int", "str", "tuple", "list", "dict"], ∀ k ∈ ["int", "str", "bool", "list", "tuple"], PySem.W.kitOne K (.type t) (.type k) = some (t == k || (t == "bool" && k == "int")) := by
  intro t ht k hk
  simp only [List.mem_cons, List.not_mem_nil, or_false] at ht hk
  rcases ht with rfl | rfl | rfl | rfl | rfl | rfl | rfl <;> rcases hk with rfl | rfl | rfl | rfl | rfl <;> rfl
theorem isKd_at {x : D} {k : Kd} {r : Bool} (ok : kdOk k = true) (e : isKd S x k = some r) : ∃ t, tnD S x = some t ∧ PySem.W.kitOne X.K (.type t) (.type (kdN k)) = some r := by
  have fin : ∀ t, tnD S x = some t → t ∈ ["NoneType", "bool", "int", "str", "tuple", "list", "dict"] → r = (t == kdN k || (t == "bool" && kdN k == "int")) → ∃ t, tnD S x = some t ∧ PySem.W.kitOne X.K (.type t) (.type (kdN k)) = some r := fun t h1 h2 h3 => by
    refine ⟨t, h1, ?_⟩
    rw [kit_lit X.K t h2 (kdN k) (by cases k <;> simp [kdN] <;> cases ok), h3]
  have hn : x ≠ .lis [] ∨ True := .inr trivial
  cases x with
  | non => exact fin "NoneType" rfl (by simp) (by cases k <;> first | (cases e; rfl) | cases ok)
  | bl b => exact fin "bool" rfl (by simp) (by cases k <;> first | (cases e; rfl) | cases ok)
  | int b => exact fin "int" rfl (by simp) (by cases k <;> first | (cases e; rfl) | cases ok)
  | str b => exact fin "str" rfl (by simp) (by cases k <;> first | (cases e; rfl) | cases ok)
  | tup b => exact fin "tuple" rfl (by simp) (by cases k <;> first | (cases e; rfl) | cases ok)
  | ref a =>
    cases ea : S a with
    | none => cases k <;> first | (simp only [isKd, ea] at e; cases e; done) | cases ok
    | some ob =>
      cases ob with
      | lst l => exact fin "list" (by simp only [tnD, ea]) (by simp) (by cases k <;> first | (simp only [isKd, ea] at e; cases e; rfl) | cases ok)
      | dic l => exact fin "dict" (by simp only [tnD, ea]) (by simp) (by cases k <;> first | (simp only [isKd, ea] at e; cases e; rfl) | cases ok)
      | _ => cases k <;> first | (simp only [isKd, ea] at e; cases e; done) | cases ok
  | _ => cases k <;> first | (cases e; done) | cases ok
theorem kd_boot : ∀ k, kdOk k = true → bootBuiltins (Str.ofString (kdN k)) = some (.type (kdN k)) ∧ Str.ofString (kdN k) ≠ "__name__" ∧ (Str.ofString (kdN k) == ("__debug__" : Str)) = false
  | .int, _ => ⟨by decide +kernel, by decide +kernel, by decide +kernel⟩
  | .str, _ => ⟨by decide +kernel, by decide +kernel, by decide +kernel⟩
  | .bool, _ => ⟨by decide +kernel, by decide +kernel, by decide +kernel⟩
  | .list, _ => ⟨by decide +kernel, by decide +kernel, by decide +kernel⟩
  | .tuple, _ => ⟨by decide +kernel, by decide +kernel, by decide +kernel⟩
  | .own _, h => by cases h
def hIsi (wa : Wp) (k : Kd) : Wp := fun ρ S Q => wa ρ S fun x S1 => ∃ b, isKd S1 x k = some b ∧ Q (.bl b) S1
theorem he_isi (hK : N.K = X.K) {k : Kd} {x : Str} {p2 : Pos} (ok : kdOk k = true) (hx : x = Str.ofString (kdN k)) (hg : Gl X "isinstance") (hm : X.mg "isinstance" = none) (hg2 : Gl X x) (hm2 : X.mg x = none) (ha : PE X a (tOf N Z wa)) (pl : plainA a = true) :
    PE X (.Call (.Name "isinstance" p) [a, .Name x p2] [] pos) (tOf N Z (hIsi wa k)) := by
  have hb := kd_boot k ok
  subst hx
  have h2 : PE X (.Name (Str.ofString (kdN k)) p2) (tC (.ty (kdN k))) := pe_bltn hg2 hm2 hb.1 rfl hb.2.1 hb.2.2
  refine pimp (pe_callF call_isi (.fn _ rfl) hg hm (by decide +kernel) (by decide +kernel) (by decide +kernel) (pa_cons ha (pa_cons h2 pa_nil rfl) (starEach_plain _ pl)) (by rw [List.all_cons, pl]; rfl)) fun σ H Q t => ?_
  refine tOf.one (g := fun _ x S1 Q => ∃ b, isKd S1 x k = some b ∧ Q (.bl b) S1) t fun ρ y S1 v H1 Qh rs rh fz rx g kn => ?_
  obtain ⟨r, e, q⟩ := g
  obtain ⟨t, e1, e2⟩ := isKd_at (X := X) ok e
  exact ⟨v, .ty (kdN k), .type t, .type (kdN k), r, rfl, .ty _, tn_at hK rh rx e1, e2, kn.at rh mk_bl q⟩
def XD (N : Nm) (H : Hp) (x : D) (cls : Value) (d : Option Addr) : Prop := ∃ c fs ds dd xs vs, x = .exc c fs ds ∧ cls = .ref (N.ca c) ∧ d = some dd ∧ H dd = some (.xd xs) ∧ RDs N H ds vs ∧ fs.length = vs.length ∧ (∀ (i : Nat) f v, fs[i]? = some f → vs[i]? = some v → xs.lookup (N.fnm f) = some v) ∧ c ∈ N.xc
theorem XD.mono (f : Dle H H') {x : D} {cls : Value} {d : Option Addr} (h : XD N H x cls d) : XD N H' x cls d := by
  obtain ⟨c, fs, ds, dd, xs, vs, h1, h2, h3, h4, h5, h6, h7⟩ := h
  exact ⟨c, fs, ds, dd, xs, vs, h1, h2, h3, f _ _ h4 rfl, h5.mono' f, h6, h7⟩
def xOf (N : Nm) (Z : Sta × Hp) (Ex : D → Env → Sta → Prop) : WX := fun cls d σ H => ∃ x ρ S, RS N H σ ρ ∧ RH N H S ∧ Fr Z.1 Z.2 S H ∧ XD N H x cls d ∧ Ex x ρ S
def KnX (N : Nm) (S : Sta) (H : Hp) (Xh : K) (E : XK) : Prop := ∀ x S' cls d H', Fr S H S' H' → RH N H' S' → XD N H' x cls d → Xh x S' → E cls d H'
theorem KnX.of {Ex : D → Env → Sta → Prop} (rs : RS N H σ ρ) (rh : RH N H S) (fz : Fr Z.1 Z.2 S H) : KnX N S H (fun x S' => Ex x ρ S') (WE (xOf N Z Ex) σ) :=
  fun x S' cls d H' f h xd q => ⟨x, ρ, S', rs.mono (f.dle rh), h, fz.trans f, xd, q⟩
def spF (N : Nm) (C : Orc) (f : Nat) : Sp := fun vs H Q E => ∃ ds S Qh Xh, RDs N H ds vs ∧ RH N H S ∧ C f ds S Qh Xh ∧ Kn N S H Qh Q ∧ KnX N S H Xh E
structure CallOk (N : Nm) (C : Orc) (P : Program) (w : World) (K : PySem.W.Frag) (mg : Str → Option Value) (base : Heap) (A : Around) (f : Nat) (es : List D) : Prop where
  run : ∃ k fd ps dvs ds, FnOk P w K mg base (L2C.CX P w) k (N.fa f) fd ps (spF N C f) ∧ Room k A ∧ Binds K fd ps ds ∧ Vals dvs ds ∧ ∀ H, RDs N H es dvs
def hCall (C : Orc) (f : Nat) (es : List D) (ws : Wps) (Ex : D → Env → Sta → Prop) : Wp := fun ρ S Q => ws ρ S fun ds S1 => C f (ds ++ es) S1 Q fun x S' => Ex x ρ S'
theorem he_call {C : Orc} {Ex : D → Env → Sta → Prop} {f : Nat} {ds : List D} {x : Str} (tk : L2C.Takes X (xOf N Z Ex)) (co : CallOk N C X.prog X.w X.K X.mg X.base X.A f ds) (hg : Gl X x) (hm : X.mg x = some (.ref (N.fa f))) (hk : PySem.W.keepIn X.K (.ref (N.fa f)) = true)
    (hdb : (x == ("__debug__" : Str)) = false) (ha : PA X (e :: es) (tA N Z ws)) (pl : (e :: es).all plainA = true) : PE X (.Call (.Name x p) (e :: es) [] pos) (tOf N Z (hCall C f ds ws Ex)) := by
  obtain ⟨k, fd, ps, dvs, dfs, F, hr, hb, hd, hds⟩ := co.run
  simp only [List.all_cons, Bool.and_eq_true] at pl
  refine pimp (pe_callSD F hr hg hm hk hb hd (fun σ => L2C.passAt tk σ) ha hdb (starEach_plain _ pl.1) (star_none _ pl.2)) fun σ H Q t => ?_
  obtain ⟨ρ, S, Qh, rs, rh, fz, w, kn⟩ := t
  refine ⟨ρ, S, _, rs, rh, fz, w, fun es' S1 vs H1 f h1 r q => ?_⟩
  exact ⟨es' ++ ds, S1, Qh, _, r.append (hds H1), h1, q, kn.step f, KnX.of (rs.mono (f.dle rh)) h1 (fz.trans f)⟩
theorem run_fn0 {CX : CXT} {k : Nat} {f : Addr} {fd : FuncData} {ps : List Str} {sp : Sp} {dvs : List V} {ds : List Value} {E : L2.St → XK} {x : Str} (F : FnOk X.prog X.w X.K X.mg X.base CX k f fd ps sp) (hr : Room k X.A) (hg : Gl X x) (hm : X.mg x = some (.ref f)) (hk : PySem.W.keepIn X.K (.ref f) = true) (hb : Binds X.K fd ps ds) (hd : Vals dvs ds) (hx : ∀ σ, PassesAt CX X σ (E σ))
    (hdb : (x == ("__debug__" : Str)) = false) : PE X (.Call (.Name x p) [] [] pos) (tCallSD sp dvs E tNil) := by
  refine ⟨fun pins s σ H Q I h => ?_⟩
  refine wpAny_Call_Name_kw (ld_glob I hg hm ?_ hdb)
  exact PySem.W.callWith_K0 I.kIn hk (run_fnSD (us := []) F hr hb hd (hx σ) I .nil h)
theorem he_call0 {C : Orc} {Ex : D → Env → Sta → Prop} {f : Nat} {ds : List D} {x : Str} (tk : L2C.Takes X (xOf N Z Ex)) (co : CallOk N C X.prog X.w X.K X.mg X.base X.A f ds) (hg : Gl X x) (hm : X.mg x = some (.ref (N.fa f))) (hk : PySem.W.keepIn X.K (.ref (N.fa f)) = true)
    (hdb : (x == ("__debug__" : Str)) = false) : PE X (.Call (.Name x p) [] [] pos) (tOf N Z (hCall C f ds (fun _ S Q => Q [] S) Ex)) := by
  obtain ⟨k, fd, ps, dvs, dfs, F, hr, hb, hd, hds⟩ := co.run
  refine pimp (run_fn0 F hr hg hm hk hb hd (fun σ => L2C.passAt tk σ) hdb) fun σ H Q t => ?_
  obtain ⟨ρ, S, Qh, rs, rh, fz, w, kn⟩ := t
  exact ⟨[] ++ ds, S, Qh, _, hds H, rh, w, kn, KnX.of rs rh fz⟩
end
section
open PySem
theorem meets_enum1 {v : Value} {ob : Obj} {G : Heap → Prop} (B : Begins v ob G) :
    Meets (Builtin.«enumerate.__new__» ⟨[.type "enumerate", v], []⟩) (fun _ R s => G s.heap ∧
      R (.ok (.ret (.ref (s.heap.push ob).objs.size))) { s with heap := (s.heap.push ob).push { cls := .type "enumerate", data := .fields #[.none, .bool false, .ref s.heap.objs.size, rawInt 0, .none, .none] } }) := by
  refine .of_wp fun prog w A R s h => ?_
  obtain ⟨hp, g, d, tk, os⟩ := s
  obtain ⟨h1, h⟩ := h
  have hs := sub_enumerate
  have q1 : ∀ {A' : Around} {E : Value → Shared → Prop} {Q : Value → Shared → Prop}, Q (.ref hp.objs.size) ⟨hp.push ob, g, d, tk, os⟩ → wpAny (model prog w) A' (pyIter v) Q E ⟨hp, g, d, tk, os⟩ := fun q => B.iter prog w _ _ ⟨hp, g, d, tk, os⟩ _ h1 q
  wp_walk using q1
  refine wpAny_stack_any fun st => ?_
  refine wpAny_pure ?_
  split
  · rename_i c _ _ _ _ _
    cases (c == Value.type "enumerate") <;> (wp_walk using q1; exact ⟨_, rfl, h⟩)
  · wp_walk using q1
    exact ⟨_, rfl, h⟩
theorem call_enum1 {prog : Program} {w : World} {A : Around} {E : Value → Shared → Prop} {s : Shared} {v : Value} {ob : Obj} {G : Heap → Prop} {Q : Value → Shared → Prop} (B : Begins v ob G) (h1 : G s.heap)
    (h : ∀ h', IsEnum h' (s.heap.objs.size + 1) s.heap.objs.size 0 .none → h'.get? s.heap.objs.size = some ob → (∀ b o, s.heap.get? b = some o → h'.get? b = some o) → Q (.ref (s.heap.objs.size + 1)) { s with heap := h' }) :
    wpAny (model prog w) A (call (.type "enumerate") [v]) Q E s := by
  refine callType_new F.called_enumerate (by decide) (F.typeCall_enumerate_1 _) (F.newCall_enumerate_1 _) (fun obj => F.args_object_init_2 obj _) F.entry_enumerate_new (meets_enum1 B) ⟨h1, ?_⟩
  generalize hn : (s.heap.push ob).push { cls := .type "enumerate", data := .fields #[.none, .bool false, .ref s.heap.objs.size, rawInt 0, .none, .none] } = h2
  have hz : (s.heap.push ob).objs.size = s.heap.objs.size + 1 := Heap.size_push ..
  have he : IsEnum h2 (s.heap.objs.size + 1) s.heap.objs.size 0 .none := by
    subst hn
    rw [← hz]
    exact Heap.get?_push_size (s.heap.push ob) rfl
  have hk : ∀ b o, s.heap.get? b = some o → h2.get? b = some o := fun b o q => by subst hn; exact Heap.get?_push_of_some _ (Heap.get?_push_of_some _ q)
  have hi : h2.get? s.heap.objs.size = some ob := by subst hn; exact Heap.get?_push_of_some _ (Heap.get?_push_size _ B.free)
  show _ ∧ _
  rw [hz]
  exact ⟨⟨_, he, rfl⟩, h h2 he hi hk⟩
end
structure Src (K : PySem.W.Frag) (a : Addr) (Sq : Hp → List V → Prop) (Ia : Heap → Addr → Nat → Prop) (Ow : Heap → Array Value → Prop) (ob : Obj) : Prop where
  at_ : ∀ {X : Cx} {pins : List (Addr × Obj)} {σ : L2.St} {H : Hp} {s : Shared} {xs : List V}, X.K = K → Inv X pins σ H s → Sq H xs → ∃ its : List Value, Vals xs its ∧ Ow s.heap its.toArray
  inj : ∀ {X : Cx} {pins : List (Addr × Obj)} {σ : L2.St} {H : Hp} {s : Shared} {xs ys : List V}, X.K = K → Inv X pins σ H s → Sq H xs → Sq H ys → xs = ys
  draws : ∀ {prog : Program} {w : World} {A : Around} (hh : A.handled = none) (it : Addr) (hne : a ≠ it) (items : Array Value), Draws prog w A it [it, a] items.size (fun i v => items[i]? = some v) (fun i h => Ia h it i ∧ Ow h items)
  obj : ∀ {h : Heap} {it : Addr} {i : Nat}, Ia h it i → ∃ o, h.get? it = some o ∧ (∀ v, o.data ≠ .cell v) ∧ o.cls ≠ .type "enumerate" ∧ o.cls ≠ .type "list" ∧ o.cls ≠ .type "tuple"
  keepI : ∀ {h h' : Heap} {it : Addr} {i : Nat}, Ia h it i → (∀ o, h.get? it = some o → h'.get? it = some o) → Ia h' it i
  own : ∀ {h : Heap} {items : Array Value}, Ow h items → ∃ o, h.get? a = some o ∧ (o.cls = .type "list" ∨ o.cls = .type "tuple")
  begins : ∀ items : Array Value, Begins (.ref a) ob fun h => Ow h items
  first : ∀ {h : Heap} {it : Addr}, h.get? it = some ob → Ia h it 0
theorem src_list (K : PySem.W.Frag) (a : Addr) : Src K a (fun H xs => SqL K H a xs) (fun h it i => h.IsListIter it a i) (fun h items => h.IsList a items) { cls := .type "list_iterator", data := .fields #[.ref a, .int 0 0] } where
  at_ := fun e I q => by subst e; obtain ⟨its, r, p, _⟩ := I.list q; exact ⟨its, r, p.isList⟩
  inj := fun e I q q' => by subst e; exact I.list_inj q q'
  draws := fun hh it hne items => Draws.list hh it a hne items
  obj := fun ⟨o, h1, h2, h3⟩ => ⟨o, h1, (fun v z => by rw [h3] at z; cases z), by rw [h2]; simp, by rw [h2]; simp, by rw [h2]; simp⟩
  keepI := fun h k => h.at k
  own := fun ⟨o, h1, h2, _⟩ => ⟨o, h1, .inl h2⟩
  begins := fun items => begins_list a items
  first := fun h => ⟨_, h, rfl, rfl⟩
theorem src_tup (K : PySem.W.Frag) (a : Addr) : Src K a (fun H xs => SqT K H a xs) (fun h it i => h.IsTupleIter it a i) (fun h items => h.IsTuple a items) { cls := .type "tuple_iterator", data := .fields #[.ref a, .int 0 0] } where
  at_ := fun e I q => by subst e; obtain ⟨its, r, p, _⟩ := I.tuple q; exact ⟨its, r, p⟩
  inj := fun e I q q' => by subst e; exact I.tuple_inj q q'
  draws := fun hh it hne items => Draws.tuple hh it a hne items
  obj := fun ⟨o, h1, h2, h3⟩ => ⟨o, h1, (fun v z => by rw [h3] at z; cases z), by rw [h2]; simp, by rw [h2]; simp, by rw [h2]; simp⟩
  keepI := fun h k => h.at k
  own := fun ⟨o, h1, h2, _⟩ => ⟨o, h1, .inr h2⟩
  begins := fun items => begins_tuple a items
  first := fun h => ⟨_, h, rfl, rfl⟩
def ItG (Sq : Hp → List V → Prop) (c0 : Int) : L2.It :=
  ⟨fun i H => ∃ (xs : List V) (x : V), Sq H xs ∧ xs[i]? = some x, fun i H v H' => ∃ T x, v = .ref T ∧ H T = none ∧ H' = upd H T (.tup [.int (c0 + (i : Nat)), x]) ∧ ∀ xs, Sq H xs → xs[i]? = some x, fun i H => ∃ xs : List V, Sq H xs ∧ xs.length = i⟩
theorem turn_enumG {P : Program} {w : World} {K : PySem.W.Frag} {elts : List Expr} {kk : Nat} {tpos : Pos} {a e it : Addr} {c0 : Int} {Sq : Hp → List V → Prop} {Ia : Heap → Addr → Nat → Prop} {Ow : Heap → Array Value → Prop} {ob : Obj} (R : Src K a Sq Ia Ow ob) :
    Turn P w K (.Tuple elts kk tpos) (ItG Sq c0) [e, it] e (fun i h => (∃ old, IsEnum h e it (c0 + (i : Nat)) old) ∧ Ia h it i ∧ e ≠ it) where
  mem := by simp
  obj := fun i h st b hb => by
    obtain ⟨⟨old, he⟩, hi, _⟩ := st
    have e' : b = e ∨ b = it := by simpa using hb
    rcases e' with rfl | rfl
    · exact ⟨_, he, fun v q => nomatch q⟩
    · obtain ⟨o, h1, h2, _⟩ := R.obj hi
      exact ⟨o, h1, h2⟩
  keep := fun i h h' st k => by
    obtain ⟨⟨old, he⟩, hi, hne⟩ := st
    exact ⟨⟨old, k e (by simp) _ he⟩, R.keepI hi fun o q => k it (by simp) o q, hne⟩
  item := by
    intro X hP hw hK hc i pins s σ H E I hf st hg
    subst hP hw hK
    obtain ⟨⟨old, he⟩, hit, hne⟩ := st
    obtain ⟨xs, x, hq, hx⟩ := hg
    obtain ⟨its, rv, p⟩ := R.at_ rfl I hq
    obtain ⟨u, hu, ru⟩ := rv.get hx
    obtain ⟨oa, ha1, ha2⟩ := R.own p
    obtain ⟨oi, hi1, _, _, hi2, hi3⟩ := R.obj hit
    have nae : e ≠ a := by
      rintro rfl
      have he' : s.heap.get? e = some _ := he
      rw [he'] at ha1; cases ha1
      rcases ha2 with z | z <;> simp at z
    have nai : a ≠ it := by
      rintro rfl
      rw [hi1] at ha1; cases ha1
      rcases ha2 with z | z
      · exact hi2 z
      · exact hi3 z
    have hel : e < s.heap.objs.size := Heap.lt_size he
    have hil : it < s.heap.objs.size := Heap.lt_size hi1
    have hlt : i < its.toArray.size := by
      have := (List.getElem?_eq_some_iff.mp hu).1
      simpa using this
    refine wpAny_pyNext_enum_itemC (R.draws (A := X.A.in1) (I.ok.hd hc) it nai its.toArray) he ⟨hit, p⟩ hlt hne (by simp [hne, nae]) fun y h' tk hy ho hst' hT hsz hk => ?_
    have ey : y = u := by
      have z : its[i]? = some y := by simpa using hy
      rw [hu] at z; exact (Option.some.inj z).symm
    subst ey
    refine ⟨_, rfl, wpAny_letOwnedTupleGo_enum (s := { s with heap := h', toks := tk + 1 }) ho fun h'' he' sb => ?_⟩
    have hT2 : h''.get? s.heap.objs.size = some { cls := .type "tuple", data := .seq #[.int (c0 + (i : Nat)) tk, y] } := (sb.2 _ (Nat.ne_of_gt hel)).trans hT
    have new : ObjOk X.prog X.w (upd H s.heap.objs.size (.tup [.int (c0 + (i : Nat)), x])) h'' s.heap.objs.size (.tup [.int (c0 + (i : Nat)), x]) :=
      ⟨by show 2 ≤ sizeLine; decide, [.int (c0 + (i : Nat)) tk, y], .cons ⟨_, rfl⟩ (.cons ru .nil), ⟨_, hT2, rfl, _, rfl⟩⟩
    have kk : ∀ b o, b ∉ [e, it] → s.heap.get? b = some o → h''.get? b = some o := fun b o hb q => by
      simp only [List.mem_cons, List.not_mem_nil, or_false, not_or] at hb
      exact (sb.2 b hb.1).trans (hk b o hb.1 hb.2 q)
    have I1 := I.turnedNew (t' := tk + 1) (ch := [e, it]) kk hf (Nat.le_refl _) new
    refine ⟨.ref s.heap.objs.size, _, I1, rfl, ⟨_, x, rfl, I.hok.fresh (Nat.le_refl _), rfl, fun ys hy' => by rw [R.inj rfl I hy' hq]; exact hx⟩, ⟨⟨y, ?_⟩, R.keepI hst'.1 fun o q => (sb.2 it (Ne.symm hne)).trans q, hne⟩, fun b hb => ?_⟩
    · have e1 : c0 + ((i + 1 : Nat) : Int) = c0 + (i : Nat) + 1 := by omega
      rw [e1]; exact he'
    · have hb' : b < s.heap.objs.size := by
        have e' : b = e ∨ b = it := by simpa using hb
        rcases e' with z | z
        · rw [z]; exact hel
        · rw [z]; exact hil
      rw [L2.upd_ne (Nat.ne_of_lt hb')]
      exact (hf b hb).1
  done := by
    intro X hP hw hK hc i pins s σ H E I hf st hg
    subst hP hw hK
    obtain ⟨⟨old, he⟩, hit, hne⟩ := st
    obtain ⟨xs, hq, hx⟩ := hg
    obtain ⟨its, rv, p⟩ := R.at_ rfl I hq
    obtain ⟨oa, ha1, ha2⟩ := R.own p
    obtain ⟨oi, hi1, _, _, hi2, hi3⟩ := R.obj hit
    have nai : a ≠ it := by
      rintro rfl
      rw [hi1] at ha1; cases ha1
      rcases ha2 with z | z
      · exact hi2 z
      · exact hi3 z
    obtain ⟨f0, f1, f2, f3, f4, f5⟩ := hf it (by simp)
    have hl := rv.length
    have hit2 : Ia s.heap it its.toArray.size := by
      have : its.toArray.size = i := by simp; omega
      rw [this]; exact hit
    exact wpAny_pyNext_enum_endD (R.draws (A := X.A.in1) (I.ok.hd hc) it nai its.toArray) he ⟨hit2, p⟩ fun h' eb => ⟨rfl, I.turned (t' := s.toks) (fun b o hb q => eb b o hb q) f0 f1 f3 f4 f5⟩
  self := fun A i s Q E st h => let ⟨⟨_, he⟩, _⟩ := st; wpAny_pyIter_enum he h
structure WalkD (N : Nm) (J : L2.It) (h : List (Addr × MO)) (xs : List D) (H0 : Hp) : Prop where
  goes : ∀ i H S, i < xs.length → Dle H0 H → RH N H S → Held h S → J.go i H
  stops : ∀ H S, Dle H0 H → RH N H S → Held h S → J.stop xs.length H
  yields : ∀ i H S v H', i < xs.length → Dle H0 H → RH N H S → Held h S → J.yld i H v H' → ∃ d, xs[i]? = some d ∧ Fr S H S H' ∧ RH N H' S ∧ RD N H' d v
def SeqD (N : Nm) (Sq : Hp → List V → Prop) (h : List (Addr × MO)) (xs : List D) (H0 : Hp) : Prop := ∀ H S, Dle H0 H → RH N H S → Held h S → ∃ vs, Sq H vs ∧ RDs N H xs vs
abbrev Wi := Env → Sta → (List (Addr × MO) → List D → Sta → Prop) → Prop
def tI (N : Nm) (Z : Sta × Hp) (w : Wi) : TI := fun σ H R => ∃ (ρ : Env) (S : Sta) (Qi : List (Addr × MO) → List D → Sta → Prop), RS N H σ ρ ∧ RH N H S ∧ Fr Z.1 Z.2 S H ∧ w ρ S Qi ∧
  ∀ h xs S' H' J, Fr S H S' H' → RH N H' S' → WalkD N J h xs H' → Qi h xs S' → R J H'
section
variable {N : Nm} {Z : Sta × Hp} {X : Cx} {S S' S1 : Sta} {H H' H1 H0 : Hp} {Q : VK} {Qh : K} {σ : L2.St} {ρ : Env} {pos p tpos : Pos} {a b c e o tg : Expr} {wa wb wc : Wp} {ws : Wps} {es elts : List Expr} {kk : Nat} {ad bd : Addr} {h h2 : List (Addr × MO)} {xs ys : List D}
theorem piimp {it : Expr} {t t' : TI} (h : PI X tg it t) (i : ∀ σ H R, t' σ H R → t σ H R) : PI X tg it t' := ⟨fun pins s σ H R I q => h.run pins s σ H R I (i σ H R q)⟩
theorem seq_lst (e : S1 ad = some (.lst xs)) : SeqD N (fun H vs => SqL N.K H ad vs) [(ad, .lst xs)] xs H0 := fun H S _ rh hh => by
  obtain ⟨vs, h1, r1⟩ := at_lst rh (hh (ad, .lst xs) (by simp))
  exact ⟨vs, SqL.of h1, r1⟩
theorem seq_lis (r : RD N H0 (.lis xs) (.ref ad)) : SeqD N (fun H vs => SqL N.K H ad vs) h xs H0 := fun H S f _ _ => by
  obtain ⟨a, vs, e, h1, r1⟩ := rd_lis (RD.mono f _ _ r)
  cases e
  exact ⟨vs, h1, r1⟩
theorem seq_tup (r : RD N H0 (.tup xs) (.ref ad)) : SeqD N (fun H vs => SqT N.K H ad vs) h xs H0 := fun H S f _ _ => by
  obtain ⟨a, vs, e, h1, r1⟩ := rd_tup (RD.mono f _ _ r)
  cases e
  exact ⟨vs, h1, r1⟩
theorem rds_ix {i : Nat} {vs : List V} (r : RDs N H xs vs) (hi : i < xs.length) : ∃ d v, xs[i]? = some d ∧ vs[i]? = some v ∧ RD N H d v := by
  obtain ⟨v, e, r'⟩ := r.get (List.getElem?_eq_getElem hi)
  exact ⟨_, v, List.getElem?_eq_getElem hi, e, r'⟩
theorem walkL (q : SeqD N (fun H vs => SqL N.K H ad vs) h xs H0) : WalkD N (Itl N.K ad) h xs H0 where
  goes := fun i H S hi f rh hh => by
    obtain ⟨vs, h1, r⟩ := q H S f rh hh
    obtain ⟨d, v, _, e, _⟩ := rds_ix r hi
    exact ⟨vs, v, h1, e⟩
  stops := fun H S f rh hh => by
    obtain ⟨vs, h1, r⟩ := q H S f rh hh
    exact ⟨vs, h1, by rw [r.length]; exact Nat.le_refl _⟩
  yields := fun i H S v H' hi f rh hh y => by
    obtain ⟨vs, h1, r⟩ := q H S f rh hh
    obtain ⟨e, y⟩ := y
    subst e
    obtain ⟨d, v', e1, e2, r'⟩ := rds_ix r hi
    have := y vs h1
    rw [e2] at this; cases this
    exact ⟨d, e1, Fr.refl, rh, r'⟩
theorem walkT (q : SeqD N (fun H vs => SqT N.K H ad vs) h xs H0) : WalkD N (Itt N.K ad) h xs H0 where
  goes := fun i H S hi f rh hh => by
    obtain ⟨vs, h1, r⟩ := q H S f rh hh
    obtain ⟨d, v, _, e, _⟩ := rds_ix r hi
    exact ⟨vs, v, h1, e⟩
  stops := fun H S f rh hh => by
    obtain ⟨vs, h1, r⟩ := q H S f rh hh
    exact ⟨vs, h1, by rw [r.length]; exact Nat.le_refl _⟩
  yields := fun i H S v H' hi f rh hh y => by
    obtain ⟨vs, h1, r⟩ := q H S f rh hh
    obtain ⟨e, y⟩ := y
    subst e
    obtain ⟨d, v', e1, e2, r'⟩ := rds_ix r hi
    have := y vs h1
    rw [e2] at this; cases this
    exact ⟨d, e1, Fr.refl, rh, r'⟩
theorem walkG {Sq : Hp → List V → Prop} {c0 : Int} (q : SeqD N Sq h xs H0) : WalkD N (ItG Sq c0) h (enumF c0 xs) H0 where
  goes := fun i H S hi f rh hh => by
    rw [enumF_len] at hi
    obtain ⟨vs, h1, r⟩ := q H S f rh hh
    obtain ⟨d, v, _, e, _⟩ := rds_ix r hi
    exact ⟨vs, v, h1, e⟩
  stops := fun H S f rh hh => by
    obtain ⟨vs, h1, r⟩ := q H S f rh hh
    exact ⟨vs, h1, by rw [enumF_len, r.length]⟩
  yields := fun i H S v H' hi f rh hh y => by
    rw [enumF_len] at hi
    obtain ⟨vs, h1, r⟩ := q H S f rh hh
    obtain ⟨T, x, rfl, hn, rfl, y⟩ := y
    obtain ⟨d, v', e1, e2, r'⟩ := rds_ix r hi
    have := y vs h1
    rw [e2] at this; cases this
    exact ⟨_, enumF_get xs c0 i d e1, Fr.skip hn, rh.skip hn, mk_tup (SqT.of L2.upd_same) (.cons mk_int (.cons (RD.mono (dle_new hn) _ _ r') .nil))⟩
theorem zipD_get : ∀ (l m : List D) (i : Nat) (d e : D), l[i]? = some d → m[i]? = some e → (zipD l m)[i]? = some (.tup [d, e])
  | [], _, _, _, _, h, _ => by simp at h
  | x :: r, [], _, _, _, _, h => by simp at h
  | x :: r, y :: t, 0, d, e, h, h' => by simp at h h'; subst h h'; simp [zipD]
  | x :: r, y :: t, i + 1, d, e, h, h' => by
    rw [zipD, List.getElem?_cons_succ]
    exact zipD_get r t i d e (by simpa using h) (by simpa using h')
theorem Held.left {h1 h2 : List (Addr × MO)} (x : Held (h1 ++ h2) S) : Held h1 S := fun p hp => x p (List.mem_append_left _ hp)
theorem Held.right {h1 h2 : List (Addr × MO)} (x : Held (h1 ++ h2) S) : Held h2 S := fun p hp => x p (List.mem_append_right _ hp)
theorem walkZ (q : SeqD N (fun H vs => SqL N.K H ad vs) h xs H0) (q2 : SeqD N (fun H vs => SqL N.K H bd vs) h2 ys H0) : WalkD N (Itz N.K ad bd) (h ++ h2) (zipD xs ys) H0 where
  goes := fun i H S hi f rh hh => by
    rw [zipD_len] at hi
    obtain ⟨vs, g1, r⟩ := q H S f rh hh.left
    obtain ⟨us, g2, r2⟩ := q2 H S f rh hh.right
    obtain ⟨d, v, _, e, _⟩ := rds_ix r (by omega : i < xs.length)
    obtain ⟨d', v', _, e', _⟩ := rds_ix r2 (by omega : i < ys.length)
    exact ⟨vs, us, v, v', g1, g2, e, e'⟩
  stops := fun H S f rh hh => by
    obtain ⟨vs, g1, r⟩ := q H S f rh hh.left
    obtain ⟨us, g2, r2⟩ := q2 H S f rh hh.right
    refine ⟨vs, us, g1, g2, ?_⟩
    rw [zipD_len, ← r.length, ← r2.length]
    omega
  yields := fun i H S v H' hi f rh hh y => by
    rw [zipD_len] at hi
    obtain ⟨vs, g1, r⟩ := q H S f rh hh.left
    obtain ⟨us, g2, r2⟩ := q2 H S f rh hh.right
    obtain ⟨T, x, y', rfl, hn, rfl, y1, y2⟩ := y
    obtain ⟨d, v, e1, e2, r'⟩ := rds_ix r (by omega : i < xs.length)
    obtain ⟨d', v', e1', e2', r''⟩ := rds_ix r2 (by omega : i < ys.length)
    have z1 := y1 vs g1
    rw [e2] at z1; cases z1
    have z2 := y2 us g2
    rw [e2'] at z2; cases z2
    exact ⟨_, zipD_get xs ys i d d' e1 e1', Fr.skip hn, rh.skip hn, mk_tup (SqT.of L2.upd_same) (.cons (RD.mono (dle_new hn) _ _ r') (.cons (RD.mono (dle_new hn) _ _ r'') .nil))⟩
theorem walkZT (q : SeqD N (fun H vs => SqT N.K H ad vs) h xs H0) (q2 : SeqD N (fun H vs => SqT N.K H bd vs) h2 ys H0) : WalkD N (RZ.ItzT N.K ad bd) (h ++ h2) (zipD xs ys) H0 where
  goes := fun i H S hi f rh hh => by
    rw [zipD_len] at hi
    obtain ⟨vs, g1, r⟩ := q H S f rh hh.left
    obtain ⟨us, g2, r2⟩ := q2 H S f rh hh.right
    obtain ⟨d, v, _, e, _⟩ := rds_ix r (by omega : i < xs.length)
    obtain ⟨d', v', _, e', _⟩ := rds_ix r2 (by omega : i < ys.length)
    exact ⟨vs, us, v, v', g1, g2, e, e'⟩
  stops := fun H S f rh hh => by
    obtain ⟨vs, g1, r⟩ := q H S f rh hh.left
    obtain ⟨us, g2, r2⟩ := q2 H S f rh hh.right
    refine ⟨vs, us, g1, g2, ?_⟩
    rw [zipD_len, ← r.length, ← r2.length]
    omega
  yields := fun i H S v H' hi f rh hh y => by
    rw [zipD_len] at hi
    obtain ⟨vs, g1, r⟩ := q H S f rh hh.left
    obtain ⟨us, g2, r2⟩ := q2 H S f rh hh.right
    obtain ⟨T, x, y', rfl, hn, rfl, y1, y2⟩ := y
    obtain ⟨d, v, e1, e2, r'⟩ := rds_ix r (by omega : i < xs.length)
    obtain ⟨d', v', e1', e2', r''⟩ := rds_ix r2 (by omega : i < ys.length)
    have z1 := y1 vs g1
    rw [e2] at z1; cases z1
    have z2 := y2 us g2
    rw [e2'] at z2; cases z2
    exact ⟨_, zipD_get xs ys i d d' e1 e1', Fr.skip hn, rh.skip hn, mk_tup (SqT.of L2.upd_same) (.cons (RD.mono (dle_new hn) _ _ r') (.cons (RD.mono (dle_new hn) _ _ r'') .nil))⟩
theorem walkR {n : Nat} : WalkD N (Itr 0 n) [] ((List.range n).map fun (i : Nat) => .int i) H0 where
  goes := fun i H S hi f rh hh => by
    rw [List.length_map, List.length_range] at hi
    exact hi
  stops := fun H S f rh hh => by
    rw [List.length_map, List.length_range]
    exact Nat.le_refl n
  yields := fun i H S v H' hi f rh hh y => by
    rw [List.length_map, List.length_range] at hi
    obtain ⟨rfl, rfl⟩ := y
    refine ⟨.int i, by simp [hi], Fr.refl, rh, ?_⟩
    rw [Int.zero_add]
    exact mk_int
theorem walkS {z : Str} : WalkD N (Its z) [] (z.cps.toList.map fun c => .str ⟨#[c]⟩) H0 where
  goes := fun i H S hi f rh hh => by
    rw [List.length_map, Array.length_toList] at hi
    exact hi
  stops := fun H S f rh hh => by
    rw [List.length_map, Array.length_toList]
    exact Nat.le_refl z.cps.size
  yields := fun i H S v H' hi f rh hh y => by
    obtain ⟨rfl, c, hc, rfl⟩ := y
    exact ⟨.str ⟨#[c]⟩, by simp [hc], Fr.refl, rh, mk_str⟩
theorem iterV_list {pins : List (Addr × Obj)} {s : Shared} {vs : List V} {R : L2.It → Hp → Prop} (I : Inv X pins σ H s) (hq : SqL X.K H ad vs) (q : R (Itl X.K ad) H) : wpAny (model X.prog X.w) X.A (pyIter (.ref ad)) (PIE X pins σ tg R) X.xe s := by
  obtain ⟨its, rv, pl, hz⟩ := I.list hq
  refine wpAny_pyIter_list pl.isList ⟨s.heap.objs.size, [s.heap.objs.size], _, _, H, rfl, I.kept (t' := s.toks) fun b o e => Heap.get?_push_of_some _ e, turn_list ad _, ⟨_, Heap.get?_push_size _ rfl, rfl, rfl⟩, fun b hb => ?_, q⟩
  obtain rfl : b = s.heap.objs.size := by simpa using hb
  exact I.fpOk (Nat.le_refl _) (I.hok.fresh (Nat.le_refl _))
theorem iterV_tup {pins : List (Addr × Obj)} {s : Shared} {vs : List V} {R : L2.It → Hp → Prop} (I : Inv X pins σ H s) (hq : SqT X.K H ad vs) (q : R (Itt X.K ad) H) : wpAny (model X.prog X.w) X.A (pyIter (.ref ad)) (PIE X pins σ tg R) X.xe s := by
  obtain ⟨its, rv, pl, hz⟩ := I.tuple hq
  refine wpAny_pyIter_tuple (show s.heap.IsTuple ad its.toArray from pl) ⟨s.heap.objs.size, [s.heap.objs.size], _, _, H, rfl, I.kept (t' := s.toks) fun b o e => Heap.get?_push_of_some _ e, turn_tuple ad _, ⟨_, Heap.get?_push_size _ rfl, rfl, rfl⟩, fun b hb => ?_, q⟩
  obtain rfl : b = s.heap.objs.size := by simpa using hb
  exact I.fpOk (Nat.le_refl _) (I.hok.fresh (Nat.le_refl _))
end
end A
namespace PySem
open Sem (wp)
namespace F
theorem typeCall_zip_strict (a b c : Value) : checkTypeCall "zip" ⟨[a, b], [(Str.ofString "strict", c)]⟩ = pure () := by kernel_rfl
theorem newCall_zip_strict (a b c : Value) : checkBuiltinCall "zip.__new__" ⟨[.type "zip", a, b], [(Str.ofString "strict", c)]⟩ = pure () := by kernel_rfl
theorem args_object_init_strict (obj a b c : Value) : argsOk "object.__init__" ⟨[obj, a, b], [(Str.ofString "strict", c)]⟩ := by unfold argsOk; kernel_rfl
end F
abbrev IsZipS (h : Heap) (z TI TO : Addr) (f0 : Value) : Prop :=
  h.get? z = some { cls := .type "zip", dict := none, data := .fields #[f0, .bool false, .bool true, .ref TI, .ref TO], slots := #[] }
section
variable {prog : Program} {w : World} {A : Around} {E : Value → Shared → Prop} {s : Shared} {z TI TO i1 i2 : Addr} {fp1 fp2 : List Addr} {n1 n2 n i : Nat} {P1 P2 : Nat → Value → Prop} {St1 St2 : Nat → Heap → Prop} {a1 a2 : Value}
theorem Draws.one (D : Draws prog w A i1 fp1 n1 P1 St1) {Q : Option Value → Shared → Prop} (hi : i < n1) (st : St1 i s.heap)
    (hQ : ∀ x h' tk, P1 i x → St1 (i + 1) h' → Heap.SameBut i1 s.heap h' → Q (some x) { s with heap := h', toks := tk }) : wpAny (model prog w) A (Builtin.SmallTypes.nextOrEnd (.ref i1)) Q E s := by
  unfold Builtin.SmallTypes.nextOrEnd
  refine wpAny_bind (wpAny_attempt ?_)
  exact D.item i s _ _ hi st fun x h' tk p st' sb => wpAny_pure (hQ x h' tk p st' sb)
theorem Draws.over_ (D : Draws prog w A i1 fp1 n1 P1 St1) {Q : Option Value → Shared → Prop} (st : St1 n1 s.heap)
    (hQ : ∀ h', Heap.ExtBut i1 s.heap h' → Q none { s with heap := h' }) : wpAny (model prog w) A (Builtin.SmallTypes.nextOrEnd (.ref i1)) Q E s := by
  unfold Builtin.SmallTypes.nextOrEnd
  refine wpAny_bind (wpAny_attempt ?_)
  refine D.done s _ _ st fun h' e sb ⟨o, ho, hc⟩ => ?_
  refine wpAny_bind (wpAny_isInstance (T := "StopIteration") (b := true) ⟨o, ho, hc⟩ isSubtype_stop ?_)
  exact wpAny_pure (hQ h' sb)
theorem zipS2_next_item {Q : Value → Shared → Prop} (S : ZipSep2 z TI TO i1 i2 fp1 fp2) (D1 : Draws prog w A i1 fp1 n P1 St1) (D2 : Draws prog w A i2 fp2 n P2 St2)
    (hz : IsZipS s.heap z TI TO .none) (hTI : IsTupOf2 s.heap TI (.ref i1) (.ref i2)) (hTO : IsTupOf2 s.heap TO a1 a2) (st1 : St1 i s.heap) (st2 : St2 i s.heap) (hlt : i < n)
    (hQ : ∀ x1 x2 h' tk, P1 i x1 → P2 i x2 → IsZipS h' z TI TO (rawInt s.heap.objs.size) → IsTupOf2 h' TO x1 x2 → St1 (i + 1) h' → St2 (i + 1) h' → IsTupOf2 h' s.heap.objs.size x1 x2 → h'.objs.size = s.heap.objs.size + 1 →
      (∀ c o, c ≠ z → c ≠ TO → c ≠ i1 → c ≠ i2 → s.heap.get? c = some o → h'.get? c = some o) → Q (.ref s.heap.objs.size) { s with heap := h', toks := tk }) :
    wpAny (model prog w) A (Builtin.«zip.__next__» ⟨[.ref z], []⟩) (fun fin s' => ∃ v, fin = .done (.ret v) ∧ Q v s') E s := by
  obtain ⟨hp, g, d, tk0, os⟩ := s
  show wpAny _ _ (field (.ref z) 2 >>= _) _ _ _
  refine wpAny_bind (wpAny_field hz rfl (x := .bool true) rfl ?_)
  show wpAny _ _ (field (.ref z) 3 >>= _) _ _ _
  refine wpAny_bind (wpAny_field hz rfl (x := .ref TI) rfl ?_)
  refine wpAny_bind (wpAny_seqItems hTI rfl ?_)
  show wpAny _ _ (Builtin.SmallTypes.ownedTupleIsFree (.ref z) >>= _) _ _ _
  refine wpAny_bind ?_
  unfold Builtin.SmallTypes.ownedTupleIsFree
  refine wpAny_bind (wpAny_field hz rfl (x := .none) rfl (wpAny_pure ?_))
  simp only [if_true]
  refine wpAny_bind (wpAny_rule ?_)
  refine wpAny_bind (wpAny_field hz rfl (x := .ref TO) rfl ?_)
  refine wpAny_bind (wpAny_setField_rec hz (by simp) fun g0 hz0 hs0 => ?_)
  replace hz0 : IsZipS g0 z TI TO .ellipsis := hz0
  replace hs0 : Heap.SameBut z hp g0 := hs0
  refine wpAny_bind ?_
  simp only [List.zipIdx_cons, List.zipIdx_nil, List.forIn_cons, List.forIn_nil]
  refine wpAny_bind (wpAny_bind (wpAny_onRaise ?_))
  show wpAny _ _ (Builtin.SmallTypes.nextOrEnd (.ref i1)) _ _ ⟨g0, g, d, tk0, os⟩
  refine (D1.one (s := ⟨g0, g, d, tk0, os⟩) hlt (D1.over st1 hs0 S.zf1) fun x1 p1 tk1 hx1 sn1 hp1 => ?_)
  replace hp1 : Heap.SameBut i1 g0 p1 := hp1
  have hU1 : IsTupOf2 p1 TO a1 a2 := hp1.extBut _ _ S.Ti1 (hs0.extBut _ _ S.TOz hTO)
  refine wpAny_bind (wpAny_seqItems (s := ⟨p1, g, d, tk1, os⟩) hU1 rfl ?_)
  refine wpAny_bind (updateSeq_IsTupOf2 (s := ⟨p1, g, d, tk1, os⟩) hU1 fun g1 hT1 hs1 => ?_)
  replace hT1 : IsTupOf2 g1 TO x1 a2 := hT1
  replace hs1 : Heap.SameBut TO p1 g1 := hs1
  refine wpAny_bind (wpAny_letGo (wpAny_pure ?_))
  refine wpAny_bind (wpAny_bind (wpAny_onRaise ?_))
  show wpAny _ _ (Builtin.SmallTypes.nextOrEnd (.ref i2)) _ _ ⟨g1, g, d, tk1, os⟩
  refine (D2.one (s := ⟨g1, g, d, tk1, os⟩) hlt (D2.over (D2.over (D2.over st2 hs0 S.zf2) hp1 S.sep1_2) hs1 S.Tf2) fun x2 p2 tk2 hx2 sn2 hp2 => ?_)
  replace hp2 : Heap.SameBut i2 g1 p2 := hp2
  have hU2 : IsTupOf2 p2 TO x1 a2 := hp2.extBut _ _ S.Ti2 hT1
  refine wpAny_bind (wpAny_seqItems (s := ⟨p2, g, d, tk2, os⟩) hU2 rfl ?_)
  refine wpAny_bind (updateSeq_IsTupOf2 (s := ⟨p2, g, d, tk2, os⟩) hU2 fun g2 hT2 hs2 => ?_)
  replace hT2 : IsTupOf2 g2 TO x1 x2 := hT2
  replace hs2 : Heap.SameBut TO p2 g2 := hs2
  refine wpAny_bind (wpAny_letGo (wpAny_pure (wpAny_pure ?_)))
  refine wpAny_bind (wpAny_seqItems (s := ⟨g2, g, d, tk2, os⟩) hT2 rfl ?_)
  refine wpAny_bind (wpAny_newTuple ?_)
  have hsz : g2.objs.size = hp.objs.size := by rw [hs2.1, hp2.1, hs1.1, hp1.1, hs0.1]
  have hzz : IsZipS g2 z TI TO .ellipsis := (hs2.extBut _ _ S.TOz.symm (hp2.extBut _ _ S.zi2 (hs1.extBut _ _ S.TOz.symm (hp1.extBut _ _ S.zi1 hz0))))
  have hkk : ∀ c o, c ≠ z → c ≠ TO → c ≠ i1 → c ≠ i2 → hp.get? c = some o → g2.get? c = some o := fun c o cz cT c1 c2 e =>
    (hs2.extBut _ _ cT (hp2.extBut _ _ c2 (hs1.extBut _ _ cT (hp1.extBut _ _ c1 (hs0.extBut _ _ cz e)))))
  have hj1 : St1 (i + 1) g2 := (D1.over (D1.over (D1.over sn1 hs1 S.Tf1) hp2 S.sep2_1) hs2 S.Tf1)
  have hj2 : St2 (i + 1) g2 := (D2.over sn2 hs2 S.Tf2)
  have hzlt : z < g2.objs.size := Heap.lt_size hzz
  show wpAny _ _ (Builtin.SmallTypes.ownedTupleHandOut (.ref z) (.ref g2.objs.size) >>= _) _ _ ⟨g2.push { cls := .type "tuple", data := .seq #[x1, x2] }, g, d, tk2, os⟩
  refine wpAny_bind ?_
  unfold Builtin.SmallTypes.ownedTupleHandOut
  have hz6 : IsZipS (g2.push { cls := .type "tuple", data := .seq #[x1, x2] }) z TI TO .ellipsis := Heap.get?_push_of_some _ hzz
  refine wpAny_bind (wpAny_setField_rec hz6 (by simp) fun h7 hz7 hs7 => ?_)
  replace hz7 : IsZipS h7 z TI TO (rawInt g2.objs.size) := hz7
  refine wpAny_setField_rec hz7 (by simp) fun h8 hz8 hs8 => ?_
  replace hz8 : IsZipS h8 z TI TO (rawInt g2.objs.size) := hz8
  replace hs7 : Heap.SameBut z (g2.push { cls := .type "tuple", data := .seq #[x1, x2] }) h7 := hs7
  replace hs8 : Heap.SameBut z h7 h8 := hs8
  have up : ∀ c o, c ≠ z → g2.get? c = some o → h8.get? c = some o := fun c o c1 e => hs8.extBut _ _ c1 (hs7.extBut _ _ c1 (Heap.get?_push_of_some _ e))
  have hT8 : IsTupOf2 h8 g2.objs.size x1 x2 := hs8.extBut _ _ (Nat.ne_of_gt hzlt) (hs7.extBut _ _ (Nat.ne_of_gt hzlt) (Heap.get?_push_size _ rfl))
  have hs8z : h8.objs.size = g2.objs.size + 1 := by rw [hs8.1, hs7.1, Heap.size_push]
  rw [hsz] at hz8 hT8 hs8z
  refine wpAny_pure ⟨_, rfl, ?_⟩
  show Q (.ref g2.objs.size) ⟨h8, g, d, tk2, os⟩
  rw [hsz]
  exact hQ x1 x2 h8 tk2 hx1 hx2 hz8 (up _ _ S.TOz hT2) (D1.frame _ _ _ hj1 fun b hb o e => up b o (fun q => S.zf1 (q ▸ hb)) e) (D2.frame _ _ _ hj2 fun b hb o e => up b o (fun q => S.zf2 (q ▸ hb)) e) hT8 hs8z fun c o cz cT c1 c2 e => up c o cz (hkk c o cz cT c1 c2 e)
theorem zipS2_next_end {Q : Fin → Shared → Prop} (hh : A.handled = none) (S : ZipSep2 z TI TO i1 i2 fp1 fp2) (D1 : Draws prog w A i1 fp1 n P1 St1) (D2 : Draws prog w A i2 fp2 n P2 St2) (fr : ∀ h h', St2 n h → Heap.ExtBut i1 h h' → St2 n h')
    (hz : IsZipS s.heap z TI TO .none) (hTI : IsTupOf2 s.heap TI (.ref i1) (.ref i2)) (hTO : IsTupOf2 s.heap TO a1 a2) (st1 : St1 n s.heap) (st2 : St2 n s.heap)
    (hE : ∀ h' e, (∀ c o, c ≠ z → c ≠ TO → c ≠ i1 → c ≠ i2 → s.heap.get? c = some o → h'.get? c = some o) → (∃ o, h'.get? e = some o ∧ o.cls = .type "StopIteration") → E (.ref e) { s with heap := h' }) :
    wpAny (model prog w) A (Builtin.«zip.__next__» ⟨[.ref z], []⟩) Q E s := by
  obtain ⟨hp, g, d, tk0, os⟩ := s
  show wpAny _ _ (field (.ref z) 2 >>= _) _ _ _
  refine wpAny_bind (wpAny_field hz rfl (x := .bool true) rfl ?_)
  show wpAny _ _ (field (.ref z) 3 >>= _) _ _ _
  refine wpAny_bind (wpAny_field hz rfl (x := .ref TI) rfl ?_)
  refine wpAny_bind (wpAny_seqItems hTI rfl ?_)
  show wpAny _ _ (Builtin.SmallTypes.ownedTupleIsFree (.ref z) >>= _) _ _ _
  refine wpAny_bind ?_
  unfold Builtin.SmallTypes.ownedTupleIsFree
  refine wpAny_bind (wpAny_field hz rfl (x := .none) rfl (wpAny_pure ?_))
  simp only [if_true]
  refine wpAny_bind (wpAny_rule ?_)
  refine wpAny_bind (wpAny_field hz rfl (x := .ref TO) rfl ?_)
  refine wpAny_bind (wpAny_setField_rec hz (by simp) fun g0 hz0 hs0 => ?_)
  replace hz0 : IsZipS g0 z TI TO .ellipsis := hz0
  replace hs0 : Heap.SameBut z hp g0 := hs0
  refine wpAny_bind ?_
  simp only [List.zipIdx_cons, List.zipIdx_nil, List.forIn_cons, List.forIn_nil]
  refine wpAny_bind (wpAny_bind (wpAny_onRaise ?_))
  show wpAny _ _ (Builtin.SmallTypes.nextOrEnd (.ref i1)) _ _ ⟨g0, g, d, tk0, os⟩
  refine (D1.over_ (s := ⟨g0, g, d, tk0, os⟩) (D1.over st1 hs0 S.zf1) fun q hq => ?_)
  replace hq : Heap.ExtBut i1 g0 q := hq
  have hzq : IsZipS q z TI TO .ellipsis := hq _ _ S.zi1 hz0
  refine wpAny_bind (wpAny_setField_rec (s := ⟨q, g, d, tk0, os⟩) hzq (by simp) fun q1 hz1 hs1 => ?_)
  refine wpAny_bind (wpAny_bind (wpAny_bind ?_))
  replace hs1 : Heap.SameBut z q q1 := hs1
  show wpAny _ _ (Builtin.SmallTypes.nextOrEnd (.ref i2) >>= _) _ _ ⟨q1, g, d, tk0, os⟩
  have st2' : St2 n q1 := D2.over (fr g0 q (D2.over st2 hs0 S.zf2) hq) hs1 S.zf2
  refine wpAny_bind (D2.over_ (s := ⟨q1, g, d, tk0, os⟩) st2' fun q2 hq2 => ?_)
  replace hq2 : Heap.ExtBut i2 q1 q2 := hq2
  refine wpAny_pure ?_
  refine wpAny_pure ?_
  refine wpAny_bind (wpAny_rule ?_)
  unfold Builtin.SmallTypes.stopIteration
  show wpAny _ _ (newExc (.type "StopIteration") [] >>= _) _ _ _
  refine wpAny_bind ?_
  simp only [newExc, newTuple]
  refine wpAny_bind (wpAny_newObj_type ?_ (by size_fits))
  refine wpAny_bind (m := firstArgMember _ _) (wpAny_of_eq (a := Value.none) (by first | rfl | (simp only [firstArgMember]; rfl)) ?_)
  refine wpAny_newObj_type ?_ (by size_fits)
  simp only [raiseNew]
  refine wpAny_bind (wpAny_handled ?_)
  rw [hh]
  refine wpAny_bind (wpAny_pure (wpAny_throw ?_))
  have all : Heap.ExtBut z q q1 := hs1.extBut
  refine hE _ _ (fun c o cz cT c1 c2 e => ?_) ⟨_, Heap.get?_push_size _ rfl, rfl⟩
  exact Heap.get?_push_of_some _ (Heap.get?_push_of_some _ (hq2 _ _ c2 (hs1.extBut _ _ cz (hq _ _ c1 (hs0.extBut _ _ cz e)))))
theorem wpAny_pyNext_zipS2_item {Q : Option Value → Shared → Prop} (S : ZipSep2 z TI TO i1 i2 fp1 fp2) (D1 : Draws prog w A.in1 i1 fp1 n P1 St1) (D2 : Draws prog w A.in1 i2 fp2 n P2 St2)
    (hz : IsZipS s.heap z TI TO .none) (hTI : IsTupOf2 s.heap TI (.ref i1) (.ref i2)) (hTO : IsTupOf2 s.heap TO a1 a2) (st1 : St1 i s.heap) (st2 : St2 i s.heap) (hlt : i < n)
    (hQ : ∀ x1 x2 h' tk, P1 i x1 → P2 i x2 → IsZipS h' z TI TO (rawInt s.heap.objs.size) → IsTupOf2 h' TO x1 x2 → St1 (i + 1) h' → St2 (i + 1) h' → IsTupOf2 h' s.heap.objs.size x1 x2 → h'.objs.size = s.heap.objs.size + 1 →
      (∀ c o, c ≠ z → c ≠ TO → c ≠ i1 → c ≠ i2 → s.heap.get? c = some o → h'.get? c = some o) → Q (some (.ref s.heap.objs.size)) { s with heap := h', toks := tk }) :
    wpAny (model prog w) A (pyNext (.ref z)) Q E s := by
  have hT : s.TypeIs (.ref z) "zip" := ⟨_, hz, rfl⟩
  unfold pyNext
  exact wpAny_bind (wpAny_attempt (wpAny_callSpecial?_slot (name := Str.ofString "__next__") hT F.slot_zip_next
    (wpAny_call_entry F.slot_zip_next hT F.entry_zip_next
      (zipS2_next_item S D1 D2 hz hTI hTO st1 st2 hlt fun x1 x2 h' tk y1 y2 b1 b2 d1 d2 b5 b6 b7 => wpAny_pure (hQ x1 x2 h' tk y1 y2 b1 b2 d1 d2 b5 b6 b7)) (F.args_zip_next_1 _))))
theorem wpAny_pyNext_zipS2_end {Q : Option Value → Shared → Prop} (hh : A.handled = none) (S : ZipSep2 z TI TO i1 i2 fp1 fp2) (D1 : Draws prog w A.in1 i1 fp1 n P1 St1) (D2 : Draws prog w A.in1 i2 fp2 n P2 St2) (fr : ∀ h h', St2 n h → Heap.ExtBut i1 h h' → St2 n h')
    (hz : IsZipS s.heap z TI TO .none) (hTI : IsTupOf2 s.heap TI (.ref i1) (.ref i2)) (hTO : IsTupOf2 s.heap TO a1 a2) (st1 : St1 n s.heap) (st2 : St2 n s.heap)
    (hQ : ∀ h', (∀ c o, c ≠ z → c ≠ TO → c ≠ i1 → c ≠ i2 → s.heap.get? c = some o → h'.get? c = some o) → Q none { s with heap := h' }) : wpAny (model prog w) A (pyNext (.ref z)) Q E s := by
  have hT : s.TypeIs (.ref z) "zip" := ⟨_, hz, rfl⟩
  unfold pyNext
  refine wpAny_bind (wpAny_attempt (wpAny_callSpecial?_slot (name := Str.ofString "__next__") hT F.slot_zip_next
    (wpAny_call_entry F.slot_zip_next hT F.entry_zip_next (zipS2_next_end hh S D1 D2 fr hz hTI hTO st1 st2 fun h' e hk he => ?_) (F.args_zip_next_1 _))))
  obtain ⟨o, ho, hc⟩ := he
  refine wpAny_bind (wpAny_isInstance (T := "StopIteration") (b := true) ⟨o, ho, hc⟩ isSubtype_stop ?_)
  exact wpAny_pure (hQ _ hk)
theorem letGo_zipS {elts : List Expr} {x1} {pos : Pos} {T : Addr} {Q : Unit → Shared → Prop} (hz : IsZipS s.heap z TI TO (rawInt T))
    (hQ : ∀ h', IsZipS h' z TI TO .none → Heap.SameBut z s.heap h' → Q () { s with heap := h' }) :
    wpAny (model prog w) A (letOwnedTupleGo (.Tuple elts x1 pos) (.ref z) (.ref T)) Q E s := by
  unfold letOwnedTupleGo
  refine wpAny_bind (wpAny_load hz ?_)
  show wpAny _ _ (if (["enumerate", "zip", "dict_itemiterator", "dict_reverseitemiterator", "odict_iterator", "itertools.zip_longest", "itertools.pairwise"].contains "zip" &&
      (#[rawInt T, .bool false, .bool true, .ref TI, .ref TO] : Array Value)[0]? == some (rawInt T)) = true then _ else _) Q E s
  rw [if_pos (by simp)]
  refine wpAny_bind (wpAny_rule ?_)
  show wpAny _ _ (setField (.ref z) 0 .none) Q E s
  exact wpAny_setField_rec hz (by simp) fun h' hz' hs' => hQ h' hz' hs'
theorem pyIter_zipS {f0 : Value} {Q : Value → Shared → Prop} (hz : IsZipS s.heap z TI TO f0) (h : Q (.ref z) s) : wpAny (model prog w) A (pyIter (.ref z)) Q E s := by
  have hT : s.TypeIs (.ref z) "zip" := ⟨_, hz, rfl⟩
  refine wpAny_pyIter_slot hT F.slot_zip_iter (wpAny_call_entry F.slot_zip_iter hT F.entry_zip_iter ?_ (F.args_zip_iter_1 _))
  show wpAny _ _ (ret (.ref z)) _ _ s
  exact wpAny_pure ⟨_, rfl, "zip", _, hT, F.slot_zip_next.lookup, h⟩
end
abbrev gzS2 (h : Heap) (o1 o2 : Obj) : Heap := (gzO2 h o1 o2).push { cls := .type "zip", data := .fields #[.none, .bool false, .bool true, .ref ((h.push o1).push o2).objs.size, .ref (gzT2 h o1 o2).objs.size] }
theorem meets_zip_newS2 {v1 v2 : Value} {o1 o2 : Obj} {H1 H2 : Heap → Prop} (B1 : Begins v1 o1 H1) (B2 : Begins v2 o2 H2) :
    Meets (Builtin.«zip.__new__» ⟨[.type "zip", v1, v2], [(Str.ofString "strict", .bool true)]⟩) (fun _ R s => (H1 s.heap ∧ H2 s.heap) ∧
      R (.ok (.ret (.ref (gzO2 s.heap o1 o2).objs.size))) { s with heap := gzS2 s.heap o1 o2 }) :=
  .of_wp fun prog w A R s h => by
    obtain ⟨hp, g, d, tk, os⟩ := s; obtain ⟨⟨h1, h2⟩, h⟩ := h
    have hsub := sub_zip
    have e2 : (Str.ofString "strict" != ("strict" : Str)) = false := by decide +kernel
    have q1 : ∀ {A' : Around} {E : Value → Shared → Prop} {Q : Value → Shared → Prop}, Q (.ref hp.objs.size) ⟨(hp.push o1), g, d, tk, os⟩ → wpAny (model prog w) A' (pyIter v1) Q E ⟨hp, g, d, tk, os⟩ :=
      fun q => B1.iter prog w _ _ ⟨hp, g, d, tk, os⟩ _ (B1.keeps _ _ h1 fun b o' e => e) q
    have q2 : ∀ {A' : Around} {E : Value → Shared → Prop} {Q : Value → Shared → Prop}, Q (.ref (hp.push o1).objs.size) ⟨((hp.push o1).push o2), g, d, tk, os⟩ → wpAny (model prog w) A' (pyIter v2) Q E ⟨(hp.push o1), g, d, tk, os⟩ :=
      fun q => B2.iter prog w _ _ ⟨(hp.push o1), g, d, tk, os⟩ _ (B2.keeps _ _ h2 fun b o' e => (Heap.get?_push_of_some _ e)) q
    wp_walk using q1, q2
    exact ⟨_, rfl, h⟩
end PySem
section
namespace PySem
section
variable {prog : Program} {w : World} {A : Around} {E : Value → Shared → Prop} {s : Shared}
theorem zip_beginsS {v1 v2 : Value} {o1 o2 : Obj} {H1 H2 : Heap → Prop} {Q : Value → Shared → Prop} (B1 : Begins v1 o1 H1) (B2 : Begins v2 o2 H2) (h1 : H1 s.heap) (h2 : H2 s.heap)
    (h : ∀ h', IsZipS h' (s.heap.objs.size + 4) (s.heap.objs.size + 2) (s.heap.objs.size + 3) .none → IsTupOf2 h' (s.heap.objs.size + 2) (.ref s.heap.objs.size) (.ref (s.heap.objs.size + 1)) →
      IsTupOf2 h' (s.heap.objs.size + 3) .none .none → h'.get? s.heap.objs.size = some o1 → h'.get? (s.heap.objs.size + 1) = some o2 → h'.objs.size = s.heap.objs.size + 5 →
      (∀ c o, s.heap.get? c = some o → h'.get? c = some o) → Q (.ref (s.heap.objs.size + 4)) { s with heap := h' }) :
    wpAny (model prog w) A (call (.type "zip") [v1, v2] [(Str.ofString "strict", .bool true)]) Q E s := by
  refine callType_newKw F.called_zip (by decide) (F.typeCall_zip_strict _ _ _) (F.newCall_zip_strict _ _ _) (fun obj => F.args_object_init_strict obj _ _ _) F.entry_zip_new
    (meets_zip_newS2 B1 B2) ⟨⟨h1, h2⟩, ?_⟩
  have z1 : (s.heap.push o1).objs.size = s.heap.objs.size + 1 := by rw [Heap.size_push]
  have z2 : ((s.heap.push o1).push o2).objs.size = s.heap.objs.size + 2 := by rw [Heap.size_push, z1]
  have zT : (gzT2 s.heap o1 o2).objs.size = s.heap.objs.size + 3 := by rw [Heap.size_push, z2]
  have zO : (gzO2 s.heap o1 o2).objs.size = s.heap.objs.size + 4 := by rw [Heap.size_push, zT]
  have zZ : (gzS2 s.heap o1 o2).objs.size = s.heap.objs.size + 5 := by rw [Heap.size_push, zO]
  have gZ : (gzS2 s.heap o1 o2).get? (gzO2 s.heap o1 o2).objs.size = some { cls := .type "zip", data := .fields #[.none, .bool false, .bool true, .ref ((s.heap.push o1).push o2).objs.size, .ref (gzT2 s.heap o1 o2).objs.size] } := Heap.get?_push_size _ rfl
  have gO : (gzS2 s.heap o1 o2).get? (gzT2 s.heap o1 o2).objs.size = some { cls := .type "tuple", data := .seq #[.none, .none] } := Heap.get?_push_of_some _ (Heap.get?_push_size _ rfl)
  have gT : (gzS2 s.heap o1 o2).get? ((s.heap.push o1).push o2).objs.size = some { cls := .type "tuple", data := .seq #[.ref s.heap.objs.size, .ref (s.heap.push o1).objs.size] } := Heap.get?_push_of_some _ (Heap.get?_push_of_some _ (Heap.get?_push_size _ rfl))
  have g1 : (gzS2 s.heap o1 o2).get? s.heap.objs.size = some o1 := Heap.get?_push_of_some _ (Heap.get?_push_of_some _ (Heap.get?_push_of_some _ (Heap.get?_push_of_some _ (Heap.get?_push_size _ B1.free))))
  have g2 : (gzS2 s.heap o1 o2).get? (s.heap.push o1).objs.size = some o2 := Heap.get?_push_of_some _ (Heap.get?_push_of_some _ (Heap.get?_push_of_some _ (Heap.get?_push_size _ B2.free)))
  rw [zO, zT, z2] at gZ
  rw [zT] at gO
  rw [z2, z1] at gT
  rw [z1] at g2
  show _ ∧ _
  rw [zO]
  exact ⟨⟨_, gZ, rfl⟩, h _ gZ gT gO g1 g2 zZ fun c o e => Heap.get?_push_of_some _ (Heap.get?_push_of_some _ (Heap.get?_push_of_some _ (Heap.get?_push_of_some _ (Heap.get?_push_of_some _ e))))⟩
end
end PySem
namespace PyProof.Rows
open PySem
section
variable {M : Model} {A : Around} {E : Value → Shared → Prop} {s : Shared} {env : Env}
theorem callWith_typeK {pos : Pos} {T : String} {first : List Value} {args : List (Bool × Sem Value)} {keywords : List (Option Str × Sem Value)} {Q : Value → Shared → Prop}
    (hplain : args.any (·.1) = false) (hkw : keywords.any (·.1.isNone) = false)
    (h : wpAny M A (evalArgs (.type T) true args keywords) (fun a s₁ => wpAny M A (call (.type T) (first ++ a.pos) a.kw) Q E s₁) E s) :
    wpAny M A (callWith pos (.type T) first args keywords) Q E s := by
  unfold callWith
  refine wpAny_bind (wpAny_holding (wpAny_mono h (fun a s₁ h₁ => wpAny_bind (wpAny_standAt ?_)) fun _ _ x => x))
  simp only [hplain, hkw, Bool.or_false]
  refine wpAny_bind (wpAny_pure ?_)
  exact wpAny_bind (wpAny_mono h₁ (fun r s₂ hr => wpAny_bind (wpAny_holding (wpAny_point (wpAny_pure hr)))) fun _ _ x => x)
theorem callWith_typeKw {pos : Pos} {T : String} {e : Expr} {rest : List Expr} {kws : List Keyword} {Q : Value → Shared → Prop}
    (h : wpAny M A (spliced (backTo pos (starEach (e :: rest) env))) (fun vs s₁ => wpAny M A (evalAll ((backToKw pos (keywordEach kws env)).map (·.2)))
      (fun kvs s₂ => wpAny M A (call (.type T) vs (((backToKw pos (keywordEach kws env)).filterMap (·.1)).zip kvs)) Q E s₂) E s₁) E s)
    (he : backTo pos (starEach (e :: rest) env) = (false, eval e env) :: backTo pos (starEach rest env) := by rfl)
    (hplain : (backTo pos (starEach (e :: rest) env)).any (·.1) = false := by rfl)
    (hall : (backToKw pos (keywordEach kws env)).all (·.1.isSome) = true := by rfl)
    (hkw : (backToKw pos (keywordEach kws env)).any (·.1.isNone) = false := by rfl) :
    wpAny M A (callWith pos (.type T) [] (backTo pos (starEach (e :: rest) env)) (backToKw pos (keywordEach kws env))) Q E s := by
  refine callWith_typeK hplain hkw ?_
  rw [he] at h ⊢
  exact evalArgs_kwB hall h
end
end PyProof.Rows
namespace RZ
open PySem PySem.Spec PyProof.Rows L2
def ItzS (K : PySem.W.Frag) (x : PySem.Str) (b : Addr) : It :=
  ⟨fun i H => ∃ ys : List V, SqT K H b ys ∧ x.cps.size = ys.length ∧ i < ys.length,
    fun i H v H' => ∃ T c y, v = .ref T ∧ H T = none ∧ H' = upd H T (.tup [.str ⟨#[c]⟩, y]) ∧ x.cps[i]? = some c ∧ ∀ ys, SqT K H b ys → ys[i]? = some y,
    fun i H => ∃ ys : List V, SqT K H b ys ∧ x.cps.size = ys.length ∧ i = ys.length⟩
theorem turn_zipS {P : Program} {w : World} {K : PySem.W.Frag} {elts : List Expr} {kk : Nat} {tpos : Pos} {x : PySem.Str} {t : Tok} {b z TI TO i1 i2 : Addr} (D : ZipSep2 z TI TO i1 i2 [i1] [i2, b]) (nb : b ≠ i1) (nb2 : b ≠ i2) :
    Turn P w K (.Tuple elts kk tpos) (ItzS K x b) [z, TI, TO, i1, i2] z (fun i h => IsZipS h z TI TO .none ∧ IsTupOf2 h TI (.ref i1) (.ref i2) ∧ (∃ x y, IsTupOf2 h TO x y) ∧ h.IsStrIter i1 (strIterType x) x t i ∧ h.IsTupleIter i2 b i) where
  mem := by simp
  obj := fun i h st c hc => by
    obtain ⟨hz, hTI, ⟨x, y, hTO⟩, ⟨o1, e1, _, d1⟩, ⟨o2, e2, _, d2⟩⟩ := st
    have e' : c = z ∨ c = TI ∨ c = TO ∨ c = i1 ∨ c = i2 := by simpa using hc
    rcases e' with q | q | q | q | q
    · rw [q]; exact ⟨_, hz, fun v q => nomatch q⟩
    · rw [q]; exact ⟨_, hTI, fun v q => nomatch q⟩
    · rw [q]; exact ⟨_, hTO, fun v q => nomatch q⟩
    · rw [q]; exact ⟨o1, e1, fun v q => by rw [d1] at q; cases q⟩
    · rw [q]; exact ⟨o2, e2, fun v q => by rw [d2] at q; cases q⟩
  keep := fun i h h' st k => by
    obtain ⟨hz, hTI, ⟨x, y, hTO⟩, ⟨o1, e1, r1⟩, h2⟩ := st
    exact ⟨k z (by simp) _ hz, k TI (by simp) _ hTI, ⟨x, y, k TO (by simp) _ hTO⟩, ⟨o1, k i1 (by simp) _ e1, r1⟩, h2.at fun o q => k i2 (by simp) o q⟩
  item := by
    intro X hP hw hK hc i pins s σ H E I hf st hg
    subst hP hw hK
    obtain ⟨hz, hTI, ⟨x0, y0, hTO⟩, h1, h2⟩ := st
    obtain ⟨ys, hqy, hxy, hi⟩ := hg
    obtain ⟨its2, rv2, p2, _⟩ := I.tuple hqy
    have l2 := rv2.length
    have hzl : z < s.heap.objs.size := Heap.lt_size hz
    have hd : X.A.in1.handled = none := I.ok.hd hc
    have e2 : its2.toArray.size = x.cps.size := by simp; omega
    have D1 := Draws.text (prog := X.prog) (w := X.w) (A := X.A.in1) hd i1 x t
    have D2 := Draws.tuple (prog := X.prog) (w := X.w) (A := X.A.in1) hd i2 b nb2 its2.toArray
    rw [e2] at D2
    refine wpAny_pyNext_zipS2_item D D1 D2 hz hTI hTO h1 ⟨h2, p2⟩ (by omega) fun u u2 h' tk p1 p2' z' TO' s1' s2' hT hsz hk => ?_
    obtain ⟨c, tu, hcx, rfl⟩ := p1
    obtain ⟨y, hy⟩ : ∃ y, ys[i]? = some y := ⟨_, List.getElem?_eq_getElem hi⟩
    obtain ⟨u', hu', ru'⟩ := rv2.get hy
    have eu : u2 = u' := by
      have h1 : its2[i]? = some u2 := by simpa using p2'
      rw [hu'] at h1
      cases h1
      rfl
    subst eu
    refine ⟨_, rfl, letGo_zipS (s := { s with heap := h', toks := tk }) z' fun h'' z'' sb => ?_⟩
    have hT2 : h''.get? s.heap.objs.size = some { cls := .type "tuple", data := .seq #[.str ⟨#[c]⟩ tu, u2] } := (sb.2 _ (Nat.ne_of_gt hzl)).trans hT
    have new : ObjOk X.prog X.w (upd H s.heap.objs.size (.tup [.str ⟨#[c]⟩, y])) h'' s.heap.objs.size (.tup [.str ⟨#[c]⟩, y]) :=
      ⟨by show 2 ≤ sizeLine; decide, [.str ⟨#[c]⟩ tu, u2], .cons ⟨tu, rfl⟩ (.cons ru' .nil), ⟨_, hT2, rfl, _, rfl⟩⟩
    have I1 : Inv X pins σ (upd H s.heap.objs.size (.tup [.str ⟨#[c]⟩, y])) { s with heap := h'', toks := tk } :=
      I.turnedNew (t' := tk) (ch := [z, TI, TO, i1, i2]) (fun c o hb q => (sb.2 c (fun q' => hb (by simp [q']))).trans (hk c o (fun q' => hb (by simp [q'])) (fun q' => hb (by simp [q'])) (fun q' => hb (by simp [q'])) (fun q' => hb (by simp [q'])) q)) hf (Nat.le_refl _) new
    obtain ⟨o1, e1', r1'⟩ := s1'
    refine ⟨.ref s.heap.objs.size, _, I1, rfl, ⟨_, c, y, rfl, I.hok.fresh (Nat.le_refl _), rfl, hcx, fun l hl => by rw [I.tuple_inj hl hqy]; exact hy⟩, ⟨z'', ?_, ⟨.str ⟨#[c]⟩ tu, u2, ?_⟩, ⟨o1, ?_, r1'⟩, ?_⟩, fun c hcm => ?_⟩
    · exact (sb.2 _ D.TIz).trans (hk _ _ D.TIz D.TITO D.TIi1 D.TIi2 hTI)
    · exact (sb.2 _ D.TOz).trans TO'
    · exact (sb.2 _ D.zi1.symm).trans e1'
    · exact s2'.1.at fun o q => (sb.2 _ D.zi2.symm).trans q
    · have hlt : c < s.heap.objs.size := by
        have e' : c = z ∨ c = TI ∨ c = TO ∨ c = i1 ∨ c = i2 := by simpa using hcm
        rcases e' with q | q | q | q | q
        · rw [q]; exact hzl
        · rw [q]; exact Heap.lt_size hTI
        · rw [q]; exact Heap.lt_size hTO
        · rw [q]; obtain ⟨_, e1, _⟩ := h1; exact Heap.lt_size e1
        · rw [q]; obtain ⟨_, e2, _⟩ := h2; exact Heap.lt_size e2
      rw [upd_ne (Nat.ne_of_lt hlt)]
      exact (hf c hcm).1
  done := by
    intro X hP hw hK hc i pins s σ H E I hf st hg
    subst hP hw hK
    obtain ⟨hz, hTI, ⟨x0, y0, hTO⟩, h1, h2⟩ := st
    obtain ⟨ys, hqy, hxy, hi⟩ := hg
    obtain ⟨its2, rv2, p2, _⟩ := I.tuple hqy
    have l2 := rv2.length
    have hd : X.A.in1.handled = none := I.ok.hd hc
    have e2 : its2.toArray.size = x.cps.size := by simp; omega
    have D1 := Draws.text (prog := X.prog) (w := X.w) (A := X.A.in1) hd i1 x t
    have D2 := Draws.tuple (prog := X.prog) (w := X.w) (A := X.A.in1) hd i2 b nb2 its2.toArray
    rw [e2] at D2
    have ei : i = x.cps.size := by omega
    rw [ei] at h1 h2
    have i12 : i2 ≠ i1 := fun e => D.sep2_1 (by simp [e])
    exact wpAny_pyNext_zipS2_end hd D D1 D2 (fun h h' st eb => ⟨st.1.at fun o q => eb _ o i12 q, st.2.at fun o q => eb _ o nb q⟩) hz hTI hTO h1 ⟨h2, p2⟩ fun h' hk => ⟨rfl, I.turnedL (t' := s.toks) (ch := [z, TI, TO, i1, i2]) (fun c o hb q =>
      hk c o (fun q' => hb (by simp [q'])) (fun q' => hb (by simp [q'])) (fun q' => hb (by simp [q'])) (fun q' => hb (by simp [q'])) q) hf⟩
  self := fun A i s Q E st h => pyIter_zipS st.1 h
def iZipS (K : PySem.W.Frag) (ta : TA) : TI := fun σ H R => ta σ H fun vs H1 => ∃ x b ys, vs = [.str x, .ref b] ∧ SqT K H1 b ys ∧ R (ItzS K x b) H1
theorem pi_zipS {X : Cx} {e e2 : Expr} {ta : TA} {p pos tpos kp kpos : Pos} {elts : List Expr} {kk k2 : Nat} (hg : Gl X "zip") (hm : X.mg "zip" = none) (ha : PA X [e, e2] ta)
    (he : backTo pos (starEach [e, e2] X.env) = (false, eval e X.env) :: backTo pos (starEach [e2] X.env) := by rfl) (hpl : (backTo pos (starEach [e, e2] X.env)).any (·.1) = false := by rfl) :
    PI X (.Tuple elts kk tpos) (.Call (.Name "zip" p) [e, e2] [⟨some (PySem.Str.ofString "strict"), .Constant (.bool true) k2 kpos, kp⟩] pos) (iZipS X.K ta) := by
  refine ⟨fun pins s σ H R I h => ?_⟩
  refine wpAny_Call_Name_kw (ld_blt I hg hm PyProof.Rows.boot_zip ?_)
  refine PyProof.Rows.callWith_typeKw (kws := [⟨some (PySem.Str.ofString "strict"), .Constant (.bool true) k2 kpos, kp⟩]) (thn (ha.run pos pins s σ H _ I h) fun us s1 ⟨vs, H1, I1, r1, q1⟩ => ?_) he hpl rfl rfl
  refine kws_cons (Constant_bool (kws_nil ?_))
  obtain ⟨x, b, ys, ex, hqy, q⟩ := q1
  subst ex
  cases r1 with
  | cons r rr =>
    cases rr with
    | cons r' rr =>
      cases rr
      cases r'
      obtain ⟨t, rfl⟩ := r
      obtain ⟨its2, rv2, p2, _⟩ := I1.tuple hqy
      obtain ⟨o2, ho2, _⟩ := id p2
      have hb := Heap.lt_size ho2
      have fresh5 : ∀ c, c ∈ [s1.heap.objs.size + 4, s1.heap.objs.size + 2, s1.heap.objs.size + 3, s1.heap.objs.size, s1.heap.objs.size + 1] → FpOk X pins H1 c := fun c hcm => by
        have e' : c = s1.heap.objs.size + 4 ∨ c = s1.heap.objs.size + 2 ∨ c = s1.heap.objs.size + 3 ∨ c = s1.heap.objs.size ∨ c = s1.heap.objs.size + 1 := by simpa using hcm
        have hle : s1.heap.objs.size ≤ c := by
          rcases e' with z | z | z | z | z
          · rw [z]; exact Nat.le_add_right _ _
          · rw [z]; exact Nat.le_add_right _ _
          · rw [z]; exact Nat.le_add_right _ _
          · rw [z]; exact Nat.le_refl _
          · rw [z]; exact Nat.le_add_right _ _
        exact I1.fpOk hle (I1.hok.fresh hle)
      refine zip_beginsS (begins_text x t) (begins_tuple b its2.toArray) trivial (show s1.heap.IsTuple b its2.toArray from p2) fun h' hz hTI hTO h1 h2 hsz hk => pyIter_zipS hz ?_
      have I2 : Inv X pins σ H1 { s1 with heap := h' } := I1.kept (t' := s1.toks) hk
      have D := PySem.W.ktu_apart s1.heap.objs.size b b hb hb
      have n1 : ∀ {c e : Addr}, c ≠ e → c ∉ [e] := fun h z => h (List.mem_singleton.mp z)
      have n2 : ∀ {c e f : Addr}, c ≠ e → c ≠ f → c ∉ [e, f] := fun h g z => by
        rcases List.mem_cons.mp z with z | z
        · exact h z
        · exact g (List.mem_singleton.mp z)
      exact ⟨s1.heap.objs.size + 4, [s1.heap.objs.size + 4, s1.heap.objs.size + 2, s1.heap.objs.size + 3, s1.heap.objs.size, s1.heap.objs.size + 1], _, _, H1, rfl, I2, turn_zipS (t := t) ⟨D.TIz, D.TOz, D.TITO, D.TIi1, by simp, n1 D.i1z.symm, n1 D.TOi1, D.TIi2, by simp, n2 D.i2z.symm D.l1z.symm, n2 D.TOi2 D.l1TO.symm, n2 D.i12 D.l1i1.symm, n1 D.i12.symm⟩ D.l1i1 D.l1i2, ⟨hz, hTI, ⟨_, _, hTO⟩, ⟨_, h1, rfl, rfl⟩, ⟨_, h2, rfl, rfl⟩⟩, fresh5, q⟩
end RZ
end
namespace RZ
open PySem PySem.Spec PyProof.Rows L2
def ItzX (K : PySem.W.Frag) (x : PySem.Str) (b : Addr) : It :=
  ⟨fun i H => ∃ ys : List V, SqL K H b ys ∧ x.cps.size ≤ ys.length ∧ i < x.cps.size,
    fun i H v H' => ∃ T c y, v = .ref T ∧ H T = none ∧ H' = upd H T (.tup [.str ⟨#[c]⟩, y]) ∧ x.cps[i]? = some c ∧ ∀ ys, SqL K H b ys → ys[i]? = some y,
    fun i H => ∃ ys : List V, SqL K H b ys ∧ x.cps.size ≤ ys.length ∧ i = x.cps.size⟩
theorem turn_zipX {P : Program} {w : World} {K : PySem.W.Frag} {elts : List Expr} {kk : Nat} {tpos : Pos} {x : PySem.Str} {t : Tok} {b z TI TO i1 i2 : Addr} (D : ZipSep2 z TI TO i1 i2 [i1] [i2, b]) (nb : b ≠ i1) (nb2 : b ≠ i2) :
    Turn P w K (.Tuple elts kk tpos) (ItzX K x b) [z, TI, TO, i1, i2] z (fun i h => IsZip h z TI TO .none ∧ IsTupOf2 h TI (.ref i1) (.ref i2) ∧ (∃ x y, IsTupOf2 h TO x y) ∧ h.IsStrIter i1 (strIterType x) x t i ∧ h.IsListIter i2 b i) where
  mem := by simp
  obj := fun i h st c hc => by
    obtain ⟨hz, hTI, ⟨x, y, hTO⟩, ⟨o1, e1, _, d1⟩, ⟨o2, e2, _, d2⟩⟩ := st
    have e' : c = z ∨ c = TI ∨ c = TO ∨ c = i1 ∨ c = i2 := by simpa using hc
    rcases e' with q | q | q | q | q
    · rw [q]; exact ⟨_, hz, fun v q => nomatch q⟩
    · rw [q]; exact ⟨_, hTI, fun v q => nomatch q⟩
    · rw [q]; exact ⟨_, hTO, fun v q => nomatch q⟩
    · rw [q]; exact ⟨o1, e1, fun v q => by rw [d1] at q; cases q⟩
    · rw [q]; exact ⟨o2, e2, fun v q => by rw [d2] at q; cases q⟩
  keep := fun i h h' st k => by
    obtain ⟨hz, hTI, ⟨x, y, hTO⟩, ⟨o1, e1, r1⟩, h2⟩ := st
    exact ⟨k z (by simp) _ hz, k TI (by simp) _ hTI, ⟨x, y, k TO (by simp) _ hTO⟩, ⟨o1, k i1 (by simp) _ e1, r1⟩, h2.at fun o q => k i2 (by simp) o q⟩
  item := by
    intro X hP hw hK hc i pins s σ H E I hf st hg
    subst hP hw hK
    obtain ⟨hz, hTI, ⟨x0, y0, hTO⟩, h1, h2⟩ := st
    obtain ⟨ys, hqy, hxy, hi⟩ := hg
    obtain ⟨its2, rv2, p2, _⟩ := I.list hqy
    have l2 := rv2.length
    have hzl : z < s.heap.objs.size := Heap.lt_size hz
    have hd : X.A.in1.handled = none := I.ok.hd hc
    have D1 := Draws.text (prog := X.prog) (w := X.w) (A := X.A.in1) hd i1 x t
    have D2 := Draws.list (prog := X.prog) (w := X.w) (A := X.A.in1) hd i2 b nb2 its2.toArray
    refine wpAny_pyNext_zipD2_item D D1 D2 hz hTI hTO h1 ⟨h2, p2.isList⟩ hi (by simp; omega) fun u u2 h' tk p1 p2' z' TO' s1' s2' hT hsz hk => ?_
    obtain ⟨c, tu, hcx, rfl⟩ := p1
    obtain ⟨y, hy⟩ : ∃ y, ys[i]? = some y := ⟨_, List.getElem?_eq_getElem (by omega)⟩
    obtain ⟨u', hu', ru'⟩ := rv2.get hy
    have eu : u2 = u' := by
      have h1 : its2[i]? = some u2 := by simpa using p2'
      rw [hu'] at h1
      cases h1
      rfl
    subst eu
    refine ⟨_, rfl, wpAny_letOwnedTupleGo_zip (s := { s with heap := h', toks := tk }) z' fun h'' z'' sb => ?_⟩
    have hT2 : h''.get? s.heap.objs.size = some { cls := .type "tuple", data := .seq #[.str ⟨#[c]⟩ tu, u2] } := (sb.2 _ (Nat.ne_of_gt hzl)).trans hT
    have new : ObjOk X.prog X.w (upd H s.heap.objs.size (.tup [.str ⟨#[c]⟩, y])) h'' s.heap.objs.size (.tup [.str ⟨#[c]⟩, y]) :=
      ⟨by show 2 ≤ sizeLine; decide, [.str ⟨#[c]⟩ tu, u2], .cons ⟨tu, rfl⟩ (.cons ru' .nil), ⟨_, hT2, rfl, _, rfl⟩⟩
    have I1 : Inv X pins σ (upd H s.heap.objs.size (.tup [.str ⟨#[c]⟩, y])) { s with heap := h'', toks := tk } :=
      I.turnedNew (t' := tk) (ch := [z, TI, TO, i1, i2]) (fun c o hb q => (sb.2 c (fun q' => hb (by simp [q']))).trans (hk c o (fun q' => hb (by simp [q'])) (fun q' => hb (by simp [q'])) (fun q' => hb (by simp [q'])) (fun q' => hb (by simp [q'])) q)) hf (Nat.le_refl _) new
    obtain ⟨o1, e1', r1'⟩ := s1'
    refine ⟨.ref s.heap.objs.size, _, I1, rfl, ⟨_, c, y, rfl, I.hok.fresh (Nat.le_refl _), rfl, hcx, fun l hl => by rw [I.list_inj hl hqy]; exact hy⟩, ⟨z'', ?_, ⟨.str ⟨#[c]⟩ tu, u2, ?_⟩, ⟨o1, ?_, r1'⟩, ?_⟩, fun c hcm => ?_⟩
    · exact (sb.2 _ D.TIz).trans (hk _ _ D.TIz D.TITO D.TIi1 D.TIi2 hTI)
    · exact (sb.2 _ D.TOz).trans TO'
    · exact (sb.2 _ D.zi1.symm).trans e1'
    · exact s2'.1.at fun o q => (sb.2 _ D.zi2.symm).trans q
    · have hlt : c < s.heap.objs.size := by
        have e' : c = z ∨ c = TI ∨ c = TO ∨ c = i1 ∨ c = i2 := by simpa using hcm
        rcases e' with q | q | q | q | q
        · rw [q]; exact hzl
        · rw [q]; exact Heap.lt_size hTI
        · rw [q]; exact Heap.lt_size hTO
        · rw [q]; obtain ⟨_, e1, _⟩ := h1; exact Heap.lt_size e1
        · rw [q]; obtain ⟨_, e2, _⟩ := h2; exact Heap.lt_size e2
      rw [upd_ne (Nat.ne_of_lt hlt)]
      exact (hf c hcm).1
  done := by
    intro X hP hw hK hc i pins s σ H E I hf st hg
    subst hP hw hK
    obtain ⟨hz, hTI, ⟨x0, y0, hTO⟩, h1, h2⟩ := st
    obtain ⟨ys, hqy, hxy, hi⟩ := hg
    obtain ⟨its2, rv2, p2, _⟩ := I.list hqy
    have l2 := rv2.length
    have hd : X.A.in1.handled = none := I.ok.hd hc
    have D1 := Draws.text (prog := X.prog) (w := X.w) (A := X.A.in1) hd i1 x t
    have D2 := Draws.list (prog := X.prog) (w := X.w) (A := X.A.in1) hd i2 b nb2 its2.toArray
    exact wpAny_pyNext_zipD2_end D D1 D2 hz hTI hTO h1 ⟨h2, p2.isList⟩ (by omega) (by simp; omega) (.inl hi) fun h' tk hk => ⟨rfl, I.turnedL (t' := tk) (ch := [z, TI, TO, i1, i2]) (fun c o hb q =>
      hk c o (fun q' => hb (by simp [q'])) (fun q' => hb (by simp [q'])) (fun q' => hb (by simp [q'])) (fun q' => hb (by simp [q'])) q) hf⟩
  self := fun A i s Q E st h => wpAny_pyIter_zip st.1 h
def iZipX (K : PySem.W.Frag) (ta : TA) : TI := fun σ H R => ta σ H fun vs H1 => ∃ x b ys, vs = [.str x, .ref b] ∧ SqL K H1 b ys ∧ R (ItzX K x b) H1
theorem pi_zipX {X : Cx} {e e2 : Expr} {ta : TA} {p pos tpos : Pos} {elts : List Expr} {kk : Nat} (hg : Gl X "zip") (hm : X.mg "zip" = none) (ha : PA X [e, e2] ta)
    (hs : starEach [e, e2] X.env = (false, eval e X.env) :: starEach [e2] X.env := by rfl) (hpl : (backTo pos (starEach [e2] X.env)).any (·.1) = false := by rfl) :
    PI X (.Tuple elts kk tpos) (.Call (.Name "zip" p) [e, e2] [] pos) (iZipX X.K ta) := by
  refine ⟨fun pins s σ H R I h => ?_⟩
  refine Call_ (ld_blt I hg hm PyProof.Rows.boot_zip (PyProof.Rows.callWith_type1 (thn (ha.run pos pins s σ H _ I h) fun us s1 ⟨vs, H1, I1, r1, q1⟩ => ?_) hs hpl))
  obtain ⟨x, b, ys, ex, hqy, q⟩ := q1
  subst ex
  cases r1 with
  | cons r rr =>
    cases rr with
    | cons r' rr =>
      cases rr
      cases r'
      obtain ⟨t, rfl⟩ := r
      obtain ⟨its2, rv2, p2, _⟩ := I1.list hqy
      have hb := p2.lt
      have fresh5 : ∀ c, c ∈ [s1.heap.objs.size + 4, s1.heap.objs.size + 2, s1.heap.objs.size + 3, s1.heap.objs.size, s1.heap.objs.size + 1] → FpOk X pins H1 c := fun c hcm => by
        have e' : c = s1.heap.objs.size + 4 ∨ c = s1.heap.objs.size + 2 ∨ c = s1.heap.objs.size + 3 ∨ c = s1.heap.objs.size ∨ c = s1.heap.objs.size + 1 := by simpa using hcm
        have hle : s1.heap.objs.size ≤ c := by
          rcases e' with z | z | z | z | z
          · rw [z]; exact Nat.le_add_right _ _
          · rw [z]; exact Nat.le_add_right _ _
          · rw [z]; exact Nat.le_add_right _ _
          · rw [z]; exact Nat.le_refl _
          · rw [z]; exact Nat.le_add_right _ _
        exact I1.fpOk hle (I1.hok.fresh hle)
      refine zip_begins2 (begins_text x t) (begins_list b its2.toArray) trivial p2.isList fun h' hz hTI hTO h1 h2 hsz hk => wpAny_pyIter_zip hz ?_
      have I2 : Inv X pins σ H1 { s1 with heap := h' } := I1.kept (t' := s1.toks) hk
      have D := PySem.W.ktu_apart s1.heap.objs.size b b hb hb
      have n1 : ∀ {c e : Addr}, c ≠ e → c ∉ [e] := fun h z => h (List.mem_singleton.mp z)
      have n2 : ∀ {c e f : Addr}, c ≠ e → c ≠ f → c ∉ [e, f] := fun h g z => by
        rcases List.mem_cons.mp z with z | z
        · exact h z
        · exact g (List.mem_singleton.mp z)
      exact ⟨s1.heap.objs.size + 4, [s1.heap.objs.size + 4, s1.heap.objs.size + 2, s1.heap.objs.size + 3, s1.heap.objs.size, s1.heap.objs.size + 1], _, _, H1, rfl, I2, turn_zipX (t := t) ⟨D.TIz, D.TOz, D.TITO, D.TIi1, by simp, n1 D.i1z.symm, n1 D.TOi1, D.TIi2, by simp, n2 D.i2z.symm D.l1z.symm, n2 D.TOi2 D.l1TO.symm, n2 D.i12 D.l1i1.symm, n1 D.i12.symm⟩ D.l1i1 D.l1i2, ⟨hz, hTI, ⟨_, _, hTO⟩, ⟨_, h1, rfl, rfl⟩, ⟨_, h2, rfl, rfl⟩⟩, fresh5, q⟩
def ItzU (K : PySem.W.Frag) (x : PySem.Str) (b : Addr) : It :=
  ⟨fun i H => ∃ ys : List V, SqL K H b ys ∧ x.cps.size = ys.length ∧ i < ys.length,
    fun i H v H' => ∃ T c y, v = .ref T ∧ H T = none ∧ H' = upd H T (.tup [.str ⟨#[c]⟩, y]) ∧ x.cps[i]? = some c ∧ ∀ ys, SqL K H b ys → ys[i]? = some y,
    fun i H => ∃ ys : List V, SqL K H b ys ∧ x.cps.size = ys.length ∧ i = ys.length⟩
theorem turn_zipU {P : Program} {w : World} {K : PySem.W.Frag} {elts : List Expr} {kk : Nat} {tpos : Pos} {x : PySem.Str} {t : Tok} {b z TI TO i1 i2 : Addr} (D : ZipSep2 z TI TO i1 i2 [i1] [i2, b]) (nb : b ≠ i1) (nb2 : b ≠ i2) :
    Turn P w K (.Tuple elts kk tpos) (ItzU K x b) [z, TI, TO, i1, i2] z (fun i h => IsZipS h z TI TO .none ∧ IsTupOf2 h TI (.ref i1) (.ref i2) ∧ (∃ x y, IsTupOf2 h TO x y) ∧ h.IsStrIter i1 (strIterType x) x t i ∧ h.IsListIter i2 b i) where
  mem := by simp
  obj := fun i h st c hc => by
    obtain ⟨hz, hTI, ⟨x, y, hTO⟩, ⟨o1, e1, _, d1⟩, ⟨o2, e2, _, d2⟩⟩ := st
    have e' : c = z ∨ c = TI ∨ c = TO ∨ c = i1 ∨ c = i2 := by simpa using hc
    rcases e' with q | q | q | q | q
    · rw [q]; exact ⟨_, hz, fun v q => nomatch q⟩
    · rw [q]; exact ⟨_, hTI, fun v q => nomatch q⟩
    · rw [q]; exact ⟨_, hTO, fun v q => nomatch q⟩
    · rw [q]; exact ⟨o1, e1, fun v q => by rw [d1] at q; cases q⟩
    · rw [q]; exact ⟨o2, e2, fun v q => by rw [d2] at q; cases q⟩
  keep := fun i h h' st k => by
    obtain ⟨hz, hTI, ⟨x, y, hTO⟩, ⟨o1, e1, r1⟩, h2⟩ := st
    exact ⟨k z (by simp) _ hz, k TI (by simp) _ hTI, ⟨x, y, k TO (by simp) _ hTO⟩, ⟨o1, k i1 (by simp) _ e1, r1⟩, h2.at fun o q => k i2 (by simp) o q⟩
  item := by
    intro X hP hw hK hc i pins s σ H E I hf st hg
    subst hP hw hK
    obtain ⟨hz, hTI, ⟨x0, y0, hTO⟩, h1, h2⟩ := st
    obtain ⟨ys, hqy, hxy, hi⟩ := hg
    obtain ⟨its2, rv2, p2, _⟩ := I.list hqy
    have l2 := rv2.length
    have hzl : z < s.heap.objs.size := Heap.lt_size hz
    have hd : X.A.in1.handled = none := I.ok.hd hc
    have e2 : its2.toArray.size = x.cps.size := by simp; omega
    have D1 := Draws.text (prog := X.prog) (w := X.w) (A := X.A.in1) hd i1 x t
    have D2 := Draws.list (prog := X.prog) (w := X.w) (A := X.A.in1) hd i2 b nb2 its2.toArray
    rw [e2] at D2
    refine wpAny_pyNext_zipS2_item D D1 D2 hz hTI hTO h1 ⟨h2, p2.isList⟩ (by omega) fun u u2 h' tk p1 p2' z' TO' s1' s2' hT hsz hk => ?_
    obtain ⟨c, tu, hcx, rfl⟩ := p1
    obtain ⟨y, hy⟩ : ∃ y, ys[i]? = some y := ⟨_, List.getElem?_eq_getElem hi⟩
    obtain ⟨u', hu', ru'⟩ := rv2.get hy
    have eu : u2 = u' := by
      have h1 : its2[i]? = some u2 := by simpa using p2'
      rw [hu'] at h1
      cases h1
      rfl
    subst eu
    refine ⟨_, rfl, letGo_zipS (s := { s with heap := h', toks := tk }) z' fun h'' z'' sb => ?_⟩
    have hT2 : h''.get? s.heap.objs.size = some { cls := .type "tuple", data := .seq #[.str ⟨#[c]⟩ tu, u2] } := (sb.2 _ (Nat.ne_of_gt hzl)).trans hT
    have new : ObjOk X.prog X.w (upd H s.heap.objs.size (.tup [.str ⟨#[c]⟩, y])) h'' s.heap.objs.size (.tup [.str ⟨#[c]⟩, y]) :=
      ⟨by show 2 ≤ sizeLine; decide, [.str ⟨#[c]⟩ tu, u2], .cons ⟨tu, rfl⟩ (.cons ru' .nil), ⟨_, hT2, rfl, _, rfl⟩⟩
    have I1 : Inv X pins σ (upd H s.heap.objs.size (.tup [.str ⟨#[c]⟩, y])) { s with heap := h'', toks := tk } :=
      I.turnedNew (t' := tk) (ch := [z, TI, TO, i1, i2]) (fun c o hb q => (sb.2 c (fun q' => hb (by simp [q']))).trans (hk c o (fun q' => hb (by simp [q'])) (fun q' => hb (by simp [q'])) (fun q' => hb (by simp [q'])) (fun q' => hb (by simp [q'])) q)) hf (Nat.le_refl _) new
    obtain ⟨o1, e1', r1'⟩ := s1'
    refine ⟨.ref s.heap.objs.size, _, I1, rfl, ⟨_, c, y, rfl, I.hok.fresh (Nat.le_refl _), rfl, hcx, fun l hl => by rw [I.list_inj hl hqy]; exact hy⟩, ⟨z'', ?_, ⟨.str ⟨#[c]⟩ tu, u2, ?_⟩, ⟨o1, ?_, r1'⟩, ?_⟩, fun c hcm => ?_⟩
    · exact (sb.2 _ D.TIz).trans (hk _ _ D.TIz D.TITO D.TIi1 D.TIi2 hTI)
    · exact (sb.2 _ D.TOz).trans TO'
    · exact (sb.2 _ D.zi1.symm).trans e1'
    · exact s2'.1.at fun o q => (sb.2 _ D.zi2.symm).trans q
    · have hlt : c < s.heap.objs.size := by
        have e' : c = z ∨ c = TI ∨ c = TO ∨ c = i1 ∨ c = i2 := by simpa using hcm
        rcases e' with q | q | q | q | q
        · rw [q]; exact hzl
        · rw [q]; exact Heap.lt_size hTI
        · rw [q]; exact Heap.lt_size hTO
        · rw [q]; obtain ⟨_, e1, _⟩ := h1; exact Heap.lt_size e1
        · rw [q]; obtain ⟨_, e2, _⟩ := h2; exact Heap.lt_size e2
      rw [upd_ne (Nat.ne_of_lt hlt)]
      exact (hf c hcm).1
  done := by
    intro X hP hw hK hc i pins s σ H E I hf st hg
    subst hP hw hK
    obtain ⟨hz, hTI, ⟨x0, y0, hTO⟩, h1, h2⟩ := st
    obtain ⟨ys, hqy, hxy, hi⟩ := hg
    obtain ⟨its2, rv2, p2, _⟩ := I.list hqy
    have l2 := rv2.length
    have hd : X.A.in1.handled = none := I.ok.hd hc
    have e2 : its2.toArray.size = x.cps.size := by simp; omega
    have D1 := Draws.text (prog := X.prog) (w := X.w) (A := X.A.in1) hd i1 x t
    have D2 := Draws.list (prog := X.prog) (w := X.w) (A := X.A.in1) hd i2 b nb2 its2.toArray
    rw [e2] at D2
    have ei : i = x.cps.size := by omega
    rw [ei] at h1 h2
    have i12 : i2 ≠ i1 := fun e => D.sep2_1 (by simp [e])
    exact wpAny_pyNext_zipS2_end hd D D1 D2 (fun h h' st eb => ⟨st.1.at fun o q => eb _ o i12 q, st.2.at fun o q => eb _ o nb q⟩) hz hTI hTO h1 ⟨h2, p2.isList⟩ fun h' hk => ⟨rfl, I.turnedL (t' := s.toks) (ch := [z, TI, TO, i1, i2]) (fun c o hb q =>
      hk c o (fun q' => hb (by simp [q'])) (fun q' => hb (by simp [q'])) (fun q' => hb (by simp [q'])) (fun q' => hb (by simp [q'])) q) hf⟩
  self := fun A i s Q E st h => pyIter_zipS st.1 h
def iZipU (K : PySem.W.Frag) (ta : TA) : TI := fun σ H R => ta σ H fun vs H1 => ∃ x b ys, vs = [.str x, .ref b] ∧ SqL K H1 b ys ∧ R (ItzU K x b) H1
theorem pi_zipU {X : Cx} {e e2 : Expr} {ta : TA} {p pos tpos kp kpos : Pos} {elts : List Expr} {kk k2 : Nat} (hg : Gl X "zip") (hm : X.mg "zip" = none) (ha : PA X [e, e2] ta)
    (he : backTo pos (starEach [e, e2] X.env) = (false, eval e X.env) :: backTo pos (starEach [e2] X.env) := by rfl) (hpl : (backTo pos (starEach [e, e2] X.env)).any (·.1) = false := by rfl) :
    PI X (.Tuple elts kk tpos) (.Call (.Name "zip" p) [e, e2] [⟨some (PySem.Str.ofString "strict"), .Constant (.bool true) k2 kpos, kp⟩] pos) (iZipU X.K ta) := by
  refine ⟨fun pins s σ H R I h => ?_⟩
  refine wpAny_Call_Name_kw (ld_blt I hg hm PyProof.Rows.boot_zip ?_)
  refine PyProof.Rows.callWith_typeKw (kws := [⟨some (PySem.Str.ofString "strict"), .Constant (.bool true) k2 kpos, kp⟩]) (thn (ha.run pos pins s σ H _ I h) fun us s1 ⟨vs, H1, I1, r1, q1⟩ => ?_) he hpl rfl rfl
  refine kws_cons (Constant_bool (kws_nil ?_))
  obtain ⟨x, b, ys, ex, hqy, q⟩ := q1
  subst ex
  cases r1 with
  | cons r rr =>
    cases rr with
    | cons r' rr =>
      cases rr
      cases r'
      obtain ⟨t, rfl⟩ := r
      obtain ⟨its2, rv2, p2, _⟩ := I1.list hqy
      have hb := p2.lt
      have fresh5 : ∀ c, c ∈ [s1.heap.objs.size + 4, s1.heap.objs.size + 2, s1.heap.objs.size + 3, s1.heap.objs.size, s1.heap.objs.size + 1] → FpOk X pins H1 c := fun c hcm => by
        have e' : c = s1.heap.objs.size + 4 ∨ c = s1.heap.objs.size + 2 ∨ c = s1.heap.objs.size + 3 ∨ c = s1.heap.objs.size ∨ c = s1.heap.objs.size + 1 := by simpa using hcm
        have hle : s1.heap.objs.size ≤ c := by
          rcases e' with z | z | z | z | z
          · rw [z]; exact Nat.le_add_right _ _
          · rw [z]; exact Nat.le_add_right _ _
          · rw [z]; exact Nat.le_add_right _ _
          · rw [z]; exact Nat.le_refl _
          · rw [z]; exact Nat.le_add_right _ _
        exact I1.fpOk hle (I1.hok.fresh hle)
      refine zip_beginsS (begins_text x t) (begins_list b its2.toArray) trivial p2.isList fun h' hz hTI hTO h1 h2 hsz hk => pyIter_zipS hz ?_
      have I2 : Inv X pins σ H1 { s1 with heap := h' } := I1.kept (t' := s1.toks) hk
      have D := PySem.W.ktu_apart s1.heap.objs.size b b hb hb
      have n1 : ∀ {c e : Addr}, c ≠ e → c ∉ [e] := fun h z => h (List.mem_singleton.mp z)
      have n2 : ∀ {c e f : Addr}, c ≠ e → c ≠ f → c ∉ [e, f] := fun h g z => by
        rcases List.mem_cons.mp z with z | z
        · exact h z
        · exact g (List.mem_singleton.mp z)
      exact ⟨s1.heap.objs.size + 4, [s1.heap.objs.size + 4, s1.heap.objs.size + 2, s1.heap.objs.size + 3, s1.heap.objs.size, s1.heap.objs.size + 1], _, _, H1, rfl, I2, turn_zipU (t := t) ⟨D.TIz, D.TOz, D.TITO, D.TIi1, by simp, n1 D.i1z.symm, n1 D.TOi1, D.TIi2, by simp, n2 D.i2z.symm D.l1z.symm, n2 D.TOi2 D.l1TO.symm, n2 D.i12 D.l1i1.symm, n1 D.i12.symm⟩ D.l1i1 D.l1i2, ⟨hz, hTI, ⟨_, _, hTO⟩, ⟨_, h1, rfl, rfl⟩, ⟨_, h2, rfl, rfl⟩⟩, fresh5, q⟩
end RZ
namespace A
open PySem L2 PyProof.Rows
section
variable {N : Nm} {Z : Sta × Hp} {X : Cx} {S S' S1 : Sta} {H H' H1 H0 : Hp} {Q : VK} {Qh : K} {σ : L2.St} {ρ : Env} {pos p tpos : Pos} {a b c e o tg : Expr} {wa wb wc : Wp} {ws : Wps} {es elts : List Expr} {kk : Nat} {ad bd : Addr} {h h2 : List (Addr × MO)} {xs ys : List D}
def hSeq (wa : Wp) : Wi := fun ρ S Q => wa ρ S fun x S1 => ∃ xs, items S1 x = some xs ∧ Q (holds S1 x) xs S1
theorem items_at (rh : RH N H S) {x : D} {v : V} {xs : List D} (r : RD N H x v) (e : items S x = some xs) :
    (∃ a vs, v = .ref a ∧ SqL N.K H a vs ∧ SeqD N (fun H vs => SqL N.K H a vs) (holds S x) xs H) ∨ (∃ a vs, v = .ref a ∧ SqT N.K H a vs ∧ SeqD N (fun H vs => SqT N.K H a vs) (holds S x) xs H ∧ x = .tup xs) ∨ ∃ z : Str, v = .str z ∧ holds S x = [] ∧ xs = z.cps.toList.map fun c => .str ⟨#[c]⟩ := by
  cases x with
  | tup l => cases e; obtain ⟨a, vs, rfl, h1, r1⟩ := rd_tup r; exact .inr (.inl ⟨a, vs, rfl, h1, seq_tup r, rfl⟩)
  | lis l => cases e; obtain ⟨a, vs, rfl, h1, r1⟩ := rd_lis r; exact .inl ⟨a, vs, rfl, h1, seq_lis r⟩
  | str z => cases e; cases rd_str r; exact .inr (.inr ⟨z, rfl, rfl, rfl⟩)
  | ref a =>
    cases rd_ref r
    simp only [items] at e
    cases ea : S a with
    | none => rw [ea] at e; cases e
    | some ob =>
      rw [ea] at e
      cases ob with
      | lst l =>
        cases e
        obtain ⟨vs, h1, r1⟩ := at_lst rh ea
        have hh : holds S (.ref a) = [(a, .lst xs)] := by simp only [holds, ea]
        rw [hh]
        exact .inl ⟨a, vs, rfl, SqL.of h1, seq_lst ea⟩
      | _ => cases e
  | _ => cases e
theorem hi_seq (hK : N.K = X.K) (ha : PE X e (tOf N Z wa)) : PI X tg e (tI N Z (hSeq wa)) := by
  refine ⟨fun pins s σ H R I ⟨ρ, S, Qi, rs, rh, fz, w, k⟩ => ?_⟩
  refine thn (ha.run pins s σ H (fun x H1 => (∃ a vs, x = .ref a ∧ SqL X.K H1 a vs ∧ R (Itl X.K a) H1) ∨ (∃ a vs, x = .ref a ∧ SqT X.K H1 a vs ∧ R (Itt X.K a) H1) ∨ ∃ z, x = .str z ∧ R (Its z) H1) I ⟨ρ, S, _, rs, rh, fz, w, fun d S1 v H1 f h1 r ⟨xs, e, q⟩ => ?_⟩) fun v s1 hv => ?_
  · rcases items_at h1 r e with ⟨a, vs, rfl, g1, g2⟩ | ⟨a, vs, rfl, g1, g2, _⟩ | ⟨z, rfl, g1, g2⟩
    · exact .inl ⟨a, vs, rfl, hK ▸ g1, hK ▸ k _ _ _ _ _ f h1 (walkL g2) q⟩
    · exact .inr (.inl ⟨a, vs, rfl, hK ▸ g1, hK ▸ k _ _ _ _ _ f h1 (walkT g2) q⟩)
    · rw [g1, g2] at q
      exact .inr (.inr ⟨z, rfl, k _ _ _ _ _ f h1 walkS q⟩)
  · obtain ⟨x, H1, I1, r1, hx⟩ := hv
    rcases hx with ⟨a, vs, rfl, g, q⟩ | ⟨a, vs, rfl, g, q⟩ | ⟨z, rfl, q⟩
    · cases r1; exact iterV_list I1 g q
    · cases r1; exact iterV_tup I1 g q
    · obtain ⟨t, rfl⟩ := r1
      cases ha : z.cps.all (· < 128)
      · exact wpAny_pyIter_wide ha (pi_one (tk := s1.toks) I1 _ (turn_str _ z t "str_iterator" (.inr rfl)) ⟨_, Heap.get?_push_size _ rfl, rfl, rfl⟩ q)
      · exact wpAny_pyIter_ascii ha (pi_one (tk := s1.toks) I1 _ (turn_str _ z t "str_ascii_iterator" (.inl rfl)) ⟨_, Heap.get?_push_size _ rfl, rfl, rfl⟩ q)
def hRng (wa : Wp) : Wi := fun ρ S Q => wa ρ S fun x S1 => match x with
    | .int n => -(2 ^ 62) ≤ n ∧ n < 2 ^ 62 ∧ Q [] ((List.range n.toNat).map fun (i : Nat) => .int i) S1
    | _ => False
theorem hi_rng (hg : Gl X "range") (hm : X.mg "range" = none) (ha : PE X e (tOf N Z wa)) (pl : plainA e = true) : PI X tg (.Call (.Name "range" p) [e] [] pos) (tI N Z (hRng wa)) :=
  piimp (pi_range1 hg hm (pa_cons ha pa_nil (starEach_plain _ pl)) (starEach_plain _ pl)) fun σ H R ⟨ρ, S, Qi, rs, rh, fz, w, k⟩ => ⟨ρ, S, _, rs, rh, fz, w, fun d S1 v H1 f h1 r q => by
    cases d with
    | int n =>
      cases rd_int r
      exact ⟨n, rfl, q.1, q.2.1, k _ _ _ _ _ f h1 walkR q.2.2⟩
    | _ => exact False.elim q⟩
def hEnm (wa : Wp) (st : Int) : Wi := fun ρ S Q => wa ρ S fun x S1 => ∃ xs, itemsT S1 x = some xs ∧ Q (holds S1 x) (enumF st xs) S1
theorem itemsT_items {x : D} {xs : List D} (e : itemsT S x = some xs) : items S x = some xs ∧ ∀ z, x ≠ .str z := by
  cases x with
  | tup l => exact ⟨e, fun _ z => nomatch z⟩
  | lis l => exact ⟨e, fun _ z => nomatch z⟩
  | ref a => exact ⟨e, fun _ z => nomatch z⟩
  | _ => cases e
theorem boot_enum : bootBuiltins "enumerate" = some (.type "enumerate") := by decide +kernel
theorem hi_enm (hK : N.K = X.K) (hg : Gl X "enumerate") (hm : X.mg "enumerate" = none) (ha : PE X e (tOf N Z wa)) (pl : plainA e = true) : PI X (.Tuple elts kk tpos) (.Call (.Name "enumerate" p) [e] [] pos) (tI N Z (hEnm wa 0)) := by
  refine ⟨fun pins s σ H R I ⟨ρ, S, Qi, rs, rh, fz, w, k⟩ => ?_⟩
  have hA := (pa_cons ha pa_nil (starEach_plain X.env pl)).run pos pins s σ H (fun vs H1 => ∃ a ys Sq Ia Ow ob, ∃ _ : Src X.K a Sq Ia Ow ob, vs = [.ref a] ∧ Sq H1 ys ∧ R (ItG Sq 0) H1) I ⟨ρ, S, _, rs, rh, fz, w, fun d S1 v H1 f h1 r ⟨xs, e, q⟩ => ?_⟩
  · refine Call_ (ld_blt I hg hm boot_enum (PyProof.Rows.callWith_type1 (thn hA fun us s1 ⟨vs, H1, I1, r1, q1⟩ => ?_) (starEach_plain X.env pl) rfl))
    obtain ⟨a, ys, Sq, Ia, Ow, ob, src, rfl, hq, q⟩ := q1
    obtain ⟨u, rfl, ru⟩ := vals1 r1
    cases ru
    obtain ⟨its, rv, pw⟩ := src.at_ rfl I1 hq
    refine call_enum1 (src.begins its.toArray) pw fun h' he hit hk => wpAny_pyIter_enum he ?_
    have I2 : Inv X pins σ H1 { s1 with heap := h' } := I1.kept (t' := s1.toks) hk
    refine ⟨s1.heap.objs.size + 1, [s1.heap.objs.size + 1, s1.heap.objs.size], _, _, H1, rfl, I2, turn_enumG (c0 := 0) (e := s1.heap.objs.size + 1) (it := s1.heap.objs.size) src, ⟨⟨.none, he⟩, src.first hit, Nat.succ_ne_self _⟩, fun b hb => ?_, q⟩
    have hle : s1.heap.objs.size ≤ b := by
      simp only [List.mem_cons, List.not_mem_nil, or_false] at hb
      rcases hb with rfl | rfl
      · exact Nat.le_add_right _ _
      · exact Nat.le_refl _
    exact I1.fpOk hle (I1.hok.fresh hle)
  · obtain ⟨e1, ns⟩ := itemsT_items e
    rcases items_at h1 r e1 with ⟨a, vs, rfl, g1, g2⟩ | ⟨a, vs, rfl, g1, g2, _⟩ | ⟨z, rfl, g1, g2⟩
    · exact ⟨a, vs, _, _, _, _, src_list X.K a, rfl, hK ▸ g1, k _ _ _ _ _ f h1 (walkG (hK ▸ g2)) q⟩
    · exact ⟨a, vs, _, _, _, _, src_tup X.K a, rfl, hK ▸ g1, k _ _ _ _ _ f h1 (walkG (hK ▸ g2)) q⟩
    · cases d with
      | str z' => exact absurd rfl (ns z')
      | tup l => obtain ⟨_, _, z, _⟩ := rd_tup r; cases z
      | lis l => obtain ⟨_, _, z, _⟩ := rd_lis r; cases z
      | ref a => cases rd_ref r
      | _ => cases e
theorem hi_enmK {c : Nat} {kp kpos : Pos} {k2 : Nat} (hc : c < 1000) (hK : N.K = X.K) (hg : Gl X "enumerate") (hm : X.mg "enumerate" = none) (ha : PE X e (tOf N Z wa)) (pl : plainA e = true) : PI X (.Tuple elts kk tpos) (.Call (.Name "enumerate" p) [e] [⟨some (PySem.Str.ofString "start"), .Constant (.int (c : Int)) k2 kpos, kp⟩] pos) (tI N Z (hEnm wa c)) := by
  refine ⟨fun pins s σ H R I ⟨ρ, S, Qi, rs, rh, fz, w, k⟩ => ?_⟩
  have hA := (pa_cons ha pa_nil (starEach_plain X.env pl)).run pos pins s σ H (fun vs H1 => ∃ a ys Sq Ia Ow ob, ∃ _ : Src X.K a Sq Ia Ow ob, vs = [.ref a] ∧ Sq H1 ys ∧ R (ItG Sq c) H1) I ⟨ρ, S, _, rs, rh, fz, w, fun d S1 v H1 f h1 r ⟨xs, e, q⟩ => ?_⟩
  · refine wpAny_Call_Name_kw (ld_blt I hg hm boot_enum ?_)
    refine PyProof.Rows.callWith_typeKw (kws := [⟨some (PySem.Str.ofString "start"), .Constant (.int (c : Int)) k2 kpos, kp⟩]) (thn hA fun us s1 ⟨vs, H1, I1, r1, q1⟩ => ?_) (by rw [starEach_plain X.env pl]; rfl) (star_none X.env (by rw [List.all_cons, pl]; rfl)) rfl rfl
    refine kws_cons (wpAny_Constant_int (kws_nil ?_))
    obtain ⟨a, ys, Sq, Ia, Ow, ob, src, rfl, hq, q⟩ := q1
    obtain ⟨u, rfl, ru⟩ := vals1 r1
    cases ru
    have I1 := I1.tok (s1.toks + 1)
    obtain ⟨its, rv, pw⟩ := src.at_ rfl I1 hq
    refine enum_begins_start (src.begins its.toArray) pw (by omega) (by omega) fun h' he hit _ hk => wpAny_pyIter_enum he ?_
    have I2 := I1.kept (t' := s1.toks + 1) hk
    refine ⟨s1.heap.objs.size + 1, [s1.heap.objs.size + 1, s1.heap.objs.size], _, _, H1, rfl, I2, turn_enumG (c0 := c) (e := s1.heap.objs.size + 1) (it := s1.heap.objs.size) src, ⟨⟨.none, ?_⟩, src.first hit, Nat.succ_ne_self _⟩, fun b hb => ?_, q⟩
    · simpa using he
    have hle : s1.heap.objs.size ≤ b := by
      simp only [List.mem_cons, List.not_mem_nil, or_false] at hb
      rcases hb with rfl | rfl
      · exact Nat.le_add_right _ _
      · exact Nat.le_refl _
    exact I1.fpOk hle (I1.hok.fresh hle)
  · obtain ⟨e1, ns⟩ := itemsT_items e
    rcases items_at h1 r e1 with ⟨a, vs, rfl, g1, g2⟩ | ⟨a, vs, rfl, g1, g2, _⟩ | ⟨z, rfl, g1, g2⟩
    · exact ⟨a, vs, _, _, _, _, src_list X.K a, rfl, hK ▸ g1, k _ _ _ _ _ f h1 (walkG (hK ▸ g2)) q⟩
    · exact ⟨a, vs, _, _, _, _, src_tup X.K a, rfl, hK ▸ g1, k _ _ _ _ _ f h1 (walkG (hK ▸ g2)) q⟩
    · cases d with
      | str z' => exact absurd rfl (ns z')
      | tup l => obtain ⟨_, _, z, _⟩ := rd_tup r; cases z
      | lis l => obtain ⟨_, _, z, _⟩ := rd_lis r; cases z
      | ref a => cases rd_ref r
      | _ => cases e
def hZip (wa wb : Wp) : Wi := fun ρ S Q => wa ρ S fun x S1 => wb ρ S1 fun y S2 => ∃ xs ys, both S2 x y xs ys ∧ Q (holds S2 x ++ holds S2 y) (zipD xs ys) S2
theorem itemsL_seq (rh : RH N H S) {x : D} {v : V} {xs : List D} (r : RD N H x v) (e : itemsL S x = some xs) : ∃ a vs, v = .ref a ∧ SqL N.K H a vs ∧ SeqD N (fun H vs => SqL N.K H a vs) (holds S x) xs H := by
  have e1 : items S x = some xs := by
    cases x with
    | lis l => exact e
    | ref a => exact e
    | _ => cases e
  rcases items_at rh r e1 with h | ⟨_, _, _, _, _, rfl⟩ | ⟨z, rfl, _, _⟩
  · exact h
  · cases e
  · cases x with
    | lis l => obtain ⟨_, _, z, _⟩ := rd_lis r; cases z
    | ref a => cases rd_ref r
    | _ => cases e
theorem hi_zip (hK : N.K = X.K) (hg : Gl X "zip") (hm : X.mg "zip" = none) (ha : PE X a (tOf N Z wa)) (hb : PE X b (tOf N Z wb)) (pl : plainA a = true) (pl2 : plainA b = true) : PI X (.Tuple elts kk tpos) (.Call (.Name "zip" p) [a, b] [] pos) (tI N Z (hZip wa wb)) := by
  refine piimp (RZ.pi_zipA hg hm (pa_cons ha (pa_cons hb pa_nil (starEach_plain X.env pl2)) (starEach_plain X.env pl)) (starEach_plain X.env pl) (star_none X.env (by rw [List.all_cons, pl2]; rfl))) fun σ H R ⟨ρ, S, Qi, rs, rh, fz, w, k⟩ => ?_
  refine ⟨ρ, S, _, rs, rh, fz, w, fun x S1 v H1 f h1 r q => ⟨ρ, S1, _, rs.mono (f.dle rh), h1, fz.trans f, q, fun y S2 u H2 f2 h2 r2 ⟨xs, ys, bo, q2⟩ => ?_⟩⟩
  have rx := RD.mono (f2.dle h1) _ _ r
  rcases bo with ⟨e1, e2⟩ | ⟨rfl, rfl⟩
  · obtain ⟨a, vs, rfl, g1, g2⟩ := itemsL_seq h2 rx e1
    obtain ⟨b, us, rfl, g3, g4⟩ := itemsL_seq h2 r2 e2
    exact ⟨a, b, vs, us, rfl, .inl ⟨hK ▸ g1, hK ▸ g3, hK ▸ k _ _ _ _ _ (f.trans f2) h2 (walkZ g2 g4) q2⟩⟩
  · obtain ⟨a, vs, rfl, g1, g2⟩ := rd_tup rx
    obtain ⟨b, us, rfl, g3, g4⟩ := rd_tup r2
    exact ⟨a, b, vs, us, rfl, .inr ⟨hK ▸ g1, hK ▸ g3, hK ▸ k _ _ _ _ _ (f.trans f2) h2 (walkZT (h := []) (h2 := []) (seq_tup rx) (seq_tup r2)) q2⟩⟩
def hZipS (wa wb : Wp) : Wi := fun ρ S Q => wa ρ S fun x S1 => wb ρ S1 fun y S2 => ∃ z l, x = .str z ∧ y = .tup l ∧ z.length = l.length ∧ Q [] (zipD (sgD z) l) S2
theorem sgD_len (z : Str) : (sgD z).length = z.cps.size := by simp [sgD]
theorem sgD_get {z : Str} {i c : Nat} (h : z.cps[i]? = some c) : (sgD z)[i]? = some (.str ⟨#[c]⟩) := by
  unfold sgD
  rw [List.getElem?_map, Array.getElem?_toList, h]
  rfl
theorem walkZS {z : Str} {l : List D} (hl : z.length = l.length) (q2 : SeqD N (fun H vs => SqT N.K H bd vs) [] l H0) : WalkD N (RZ.ItzS N.K z bd) [] (zipD (sgD z) l) H0 where
  goes := fun i H S hi f rh hh => by
    rw [zipD_len, sgD_len] at hi
    obtain ⟨us, g2, r2⟩ := q2 H S f rh (fun _ z => by cases z)
    have := r2.length
    have hl : z.cps.size = l.length := hl
    exact ⟨us, g2, by omega, by omega⟩
  stops := fun H S f rh hh => by
    obtain ⟨us, g2, r2⟩ := q2 H S f rh (fun _ z => by cases z)
    have := r2.length
    have hl : z.cps.size = l.length := hl
    refine ⟨us, g2, by omega, ?_⟩
    rw [zipD_len, sgD_len]
    omega
  yields := fun i H S v H' hi f rh hh y => by
    rw [zipD_len, sgD_len] at hi
    obtain ⟨us, g2, r2⟩ := q2 H S f rh (fun _ z => by cases z)
    obtain ⟨T, c, y', rfl, hn, rfl, y1, y2⟩ := y
    obtain ⟨d', v', e1', e2', r''⟩ := rds_ix r2 (by omega : i < l.length)
    have z2 := y2 us g2
    rw [e2'] at z2; cases z2
    exact ⟨_, zipD_get (sgD z) l i _ d' (sgD_get y1) e1', Fr.skip hn, rh.skip hn, mk_tup (SqT.of L2.upd_same) (.cons mk_str (.cons (RD.mono (dle_new hn) _ _ r'') .nil))⟩
theorem hi_zipS {kp kpos : Pos} {k2 : Nat} (hK : N.K = X.K) (hg : Gl X "zip") (hm : X.mg "zip" = none) (ha : PE X a (tOf N Z wa)) (hb : PE X b (tOf N Z wb)) (pl : plainA a = true) (pl2 : plainA b = true) : PI X (.Tuple elts kk tpos) (.Call (.Name "zip" p) [a, b] [⟨some (PySem.Str.ofString "strict"), .Constant (.bool true) k2 kpos, kp⟩] pos) (tI N Z (hZipS wa wb)) := by
  refine piimp (RZ.pi_zipS hg hm (pa_cons ha (pa_cons hb pa_nil (starEach_plain X.env pl2)) (starEach_plain X.env pl)) (by rw [starEach_plain X.env pl]; rfl) (star_none X.env (by rw [List.all_cons, List.all_cons, pl, pl2]; rfl))) fun σ H R ⟨ρ, S, Qi, rs, rh, fz, w, k⟩ => ?_
  refine ⟨ρ, S, _, rs, rh, fz, w, fun x S1 v H1 f h1 r q => ⟨ρ, S1, _, rs.mono (f.dle rh), h1, fz.trans f, q, fun y S2 u H2 f2 h2 r2 ⟨z, l, e1, e2, hl, q2⟩ => ?_⟩⟩
  subst e1 e2
  have rx := rd_str (RD.mono (f2.dle h1) _ _ r)
  subst rx
  obtain ⟨b, us, rfl, g3, g4⟩ := rd_tup r2
  exact ⟨z, b, us, rfl, hK ▸ g3, hK ▸ k _ _ _ _ _ (f.trans f2) h2 (walkZS hl (seq_tup (h := []) r2)) q2⟩
def hZipT (wa wb : Wp) : Wi := fun ρ S Q => wa ρ S fun x S1 => wb ρ S1 fun y S2 => ∃ z l, x = .str z ∧ itemsL S2 y = some l ∧ z.length ≤ l.length ∧ Q (holds S2 y) (zipD (sgD z) l) S2
theorem walkZX {z : Str} {l : List D} (hl : z.length ≤ l.length) (q2 : SeqD N (fun H vs => SqL N.K H bd vs) h l H0) : WalkD N (RZ.ItzX N.K z bd) h (zipD (sgD z) l) H0 where
  goes := fun i H S hi f rh hh => by
    rw [zipD_len, sgD_len] at hi
    obtain ⟨us, g2, r2⟩ := q2 H S f rh hh
    have := r2.length
    have hl : z.cps.size ≤ l.length := hl
    exact ⟨us, g2, by omega, by omega⟩
  stops := fun H S f rh hh => by
    obtain ⟨us, g2, r2⟩ := q2 H S f rh hh
    have := r2.length
    have hl : z.cps.size ≤ l.length := hl
    refine ⟨us, g2, by omega, ?_⟩
    rw [zipD_len, sgD_len]
    omega
  yields := fun i H S v H' hi f rh hh y => by
    rw [zipD_len, sgD_len] at hi
    obtain ⟨us, g2, r2⟩ := q2 H S f rh hh
    obtain ⟨T, c, y', rfl, hn, rfl, y1, y2⟩ := y
    obtain ⟨d', v', e1', e2', r''⟩ := rds_ix r2 (by omega : i < l.length)
    have z2 := y2 us g2
    rw [e2'] at z2; cases z2
    exact ⟨_, zipD_get (sgD z) l i _ d' (sgD_get y1) e1', Fr.skip hn, rh.skip hn, mk_tup (SqT.of L2.upd_same) (.cons mk_str (.cons (RD.mono (dle_new hn) _ _ r'') .nil))⟩
theorem hi_zipT (hK : N.K = X.K) (hg : Gl X "zip") (hm : X.mg "zip" = none) (ha : PE X a (tOf N Z wa)) (hb : PE X b (tOf N Z wb)) (pl : plainA a = true) (pl2 : plainA b = true) : PI X (.Tuple elts kk tpos) (.Call (.Name "zip" p) [a, b] [] pos) (tI N Z (hZipT wa wb)) := by
  refine piimp (RZ.pi_zipX hg hm (pa_cons ha (pa_cons hb pa_nil (starEach_plain X.env pl2)) (starEach_plain X.env pl)) (starEach_plain X.env pl) (star_none X.env (by rw [List.all_cons, pl2]; rfl))) fun σ H R ⟨ρ, S, Qi, rs, rh, fz, w, k⟩ => ?_
  refine ⟨ρ, S, _, rs, rh, fz, w, fun x S1 v H1 f h1 r q => ⟨ρ, S1, _, rs.mono (f.dle rh), h1, fz.trans f, q, fun y S2 u H2 f2 h2 r2 ⟨z, l, e1, e2, hl, q2⟩ => ?_⟩⟩
  subst e1
  have rx := rd_str (RD.mono (f2.dle h1) _ _ r)
  subst rx
  obtain ⟨b, us, rfl, g3, g4⟩ := itemsL_seq h2 r2 e2
  exact ⟨z, b, us, rfl, hK ▸ g3, hK ▸ k _ _ _ _ _ (f.trans f2) h2 (walkZX hl g4) q2⟩
def hZipU (wa wb : Wp) : Wi := fun ρ S Q => wa ρ S fun x S1 => wb ρ S1 fun y S2 => ∃ z l, x = .str z ∧ itemsL S2 y = some l ∧ z.length = l.length ∧ Q (holds S2 y) (zipD (sgD z) l) S2
theorem walkZU {z : Str} {l : List D} (hl : z.length = l.length) (q2 : SeqD N (fun H vs => SqL N.K H bd vs) h l H0) : WalkD N (RZ.ItzU N.K z bd) h (zipD (sgD z) l) H0 where
  goes := fun i H S hi f rh hh => by
    rw [zipD_len, sgD_len] at hi
    obtain ⟨us, g2, r2⟩ := q2 H S f rh hh
    have := r2.length
    have hl : z.cps.size = l.length := hl
    exact ⟨us, g2, by omega, by omega⟩
  stops := fun H S f rh hh => by
    obtain ⟨us, g2, r2⟩ := q2 H S f rh hh
    have := r2.length
    have hl : z.cps.size = l.length := hl
    refine ⟨us, g2, by omega, ?_⟩
    rw [zipD_len, sgD_len]
    omega
  yields := fun i H S v H' hi f rh hh y => by
    rw [zipD_len, sgD_len] at hi
    obtain ⟨us, g2, r2⟩ := q2 H S f rh hh
    obtain ⟨T, c, y', rfl, hn, rfl, y1, y2⟩ := y
    obtain ⟨d', v', e1', e2', r''⟩ := rds_ix r2 (by omega : i < l.length)
    have z2 := y2 us g2
    rw [e2'] at z2; cases z2
    exact ⟨_, zipD_get (sgD z) l i _ d' (sgD_get y1) e1', Fr.skip hn, rh.skip hn, mk_tup (SqT.of L2.upd_same) (.cons mk_str (.cons (RD.mono (dle_new hn) _ _ r'') .nil))⟩
theorem hi_zipU {kp kpos : Pos} {k2 : Nat} (hK : N.K = X.K) (hg : Gl X "zip") (hm : X.mg "zip" = none) (ha : PE X a (tOf N Z wa)) (hb : PE X b (tOf N Z wb)) (pl : plainA a = true) (pl2 : plainA b = true) : PI X (.Tuple elts kk tpos) (.Call (.Name "zip" p) [a, b] [⟨some (PySem.Str.ofString "strict"), .Constant (.bool true) k2 kpos, kp⟩] pos) (tI N Z (hZipU wa wb)) := by
  refine piimp (RZ.pi_zipU hg hm (pa_cons ha (pa_cons hb pa_nil (starEach_plain X.env pl2)) (starEach_plain X.env pl)) (by rw [starEach_plain X.env pl]; rfl) (star_none X.env (by rw [List.all_cons, List.all_cons, pl, pl2]; rfl))) fun σ H R ⟨ρ, S, Qi, rs, rh, fz, w, k⟩ => ?_
  refine ⟨ρ, S, _, rs, rh, fz, w, fun x S1 v H1 f h1 r q => ⟨ρ, S1, _, rs.mono (f.dle rh), h1, fz.trans f, q, fun y S2 u H2 f2 h2 r2 ⟨z, l, e1, e2, hl, q2⟩ => ?_⟩⟩
  subst e1
  have rx := rd_str (RD.mono (f2.dle h1) _ _ r)
  subst rx
  obtain ⟨b, us, rfl, g3, g4⟩ := itemsL_seq h2 r2 e2
  exact ⟨z, b, us, rfl, hK ▸ g3, hK ▸ k _ _ _ _ _ (f.trans f2) h2 (walkZU hl g4) q2⟩
def hDks (wa : Wp) : Wi := fun ρ S Q => wa ρ S fun x S1 => ∃ a kvs fu, x = .ref a ∧ S1 a = some (.dicF kvs fu) ∧ Q [(a, .dicF kvs fu)] (kvs.map fun p => dKey p.1) S1
def hDvs (wa : Wp) : Wi := fun ρ S Q => wa ρ S fun x S1 => ∃ a kvs fu, x = .ref a ∧ S1 a = some (.dicF kvs fu) ∧ Q [(a, .dicF kvs fu)] (kvs.map (·.2)) S1
theorem lock_at (rh : RH N H S) {a : Addr} {kvs : List (Key × D)} {od : Obj} {ws : List (Key × V)} (e : S a = some (.dicF kvs (.frz od (.dK ws)))) : H a = some (.frz od (.dK ws)) ∧ ws.map (·.1) = kvs.map (·.1) ∧ RDs N H (kvs.map (·.2)) (ws.map (·.2)) := by
  obtain ⟨od2, ws2, eu, h, ek, r⟩ := at_dicF rh e
  cases eu
  exact ⟨h, ek, r⟩
theorem key_mk {k : Key} : RD N H (dKey k) (kV k) := by
  cases k with
  | inl i => exact mk_int
  | inr s => exact mk_str
theorem walkK {a : Addr} {kvs : List (Key × D)} {od : Obj} {ws : List (Key × V)} : WalkD N (Itk a od ws) [(a, .dicF kvs (.frz od (.dK ws)))] (kvs.map fun p => dKey p.1) H0 where
  goes := fun i H S hi f rh hh => by
    obtain ⟨h, ek, r⟩ := lock_at rh (hh _ List.mem_cons_self)
    have el := congrArg List.length ek
    simp only [List.length_map] at hi el
    exact ⟨h, by omega⟩
  stops := fun H S f rh hh => by
    obtain ⟨h, ek, r⟩ := lock_at rh (hh _ List.mem_cons_self)
    have el := congrArg List.length ek
    simp only [List.length_map] at el
    exact ⟨h, by simp only [List.length_map]; omega⟩
  yields := fun i H S v H' hi f rh hh y => by
    obtain ⟨h, ek, r⟩ := lock_at rh (hh _ List.mem_cons_self)
    obtain ⟨rfl, k, x, e, rfl⟩ := y
    have e2 : (ws.map (·.1))[i]? = some k := by rw [List.getElem?_map, e]; rfl
    rw [ek] at e2
    have e3 : (kvs.map fun p => dKey p.1) = (kvs.map (·.1)).map dKey := by rw [List.map_map]; rfl
    exact ⟨dKey k, by rw [e3, List.getElem?_map, e2]; rfl, Fr.refl, rh, key_mk⟩
theorem walkV {a : Addr} {kvs : List (Key × D)} {od : Obj} {ws : List (Key × V)} : WalkD N (Itd a od ws) [(a, .dicF kvs (.frz od (.dK ws)))] (kvs.map (·.2)) H0 where
  goes := fun i H S hi f rh hh => by
    obtain ⟨h, ek, r⟩ := lock_at rh (hh _ List.mem_cons_self)
    have el := congrArg List.length ek
    simp only [List.length_map] at hi el
    exact ⟨h, by omega⟩
  stops := fun H S f rh hh => by
    obtain ⟨h, ek, r⟩ := lock_at rh (hh _ List.mem_cons_self)
    have el := congrArg List.length ek
    simp only [List.length_map] at el
    exact ⟨h, by simp only [List.length_map]; omega⟩
  yields := fun i H S v H' hi f rh hh y => by
    obtain ⟨h, ek, r⟩ := lock_at rh (hh _ List.mem_cons_self)
    obtain ⟨rfl, k, e⟩ := y
    obtain ⟨d, x, e1, e2, r'⟩ := rds_ix r hi
    rw [List.getElem?_map, e] at e2
    cases e2
    exact ⟨d, e1, Fr.refl, rh, r'⟩
theorem hi_dks (ha : PE X e (tOf N Z wa)) : PI X tg e (tI N Z (hDks wa)) := piimp (pi_keys ha) fun σ H R ⟨ρ, S, Qi, rs, rh, fz, w, k⟩ => ⟨ρ, S, _, rs, rh, fz, w, fun d S1 v H1 f h1 r ⟨a, kvs, fu, ed, es, q⟩ => by
  subst ed
  cases rd_ref r
  obtain ⟨od, ws, rfl, h, ek, r1⟩ := at_dicF h1 es
  exact ⟨a, od, rfl, .inl ⟨ws, h, k _ _ _ _ _ f h1 walkK q⟩⟩⟩
theorem hi_dvs {apos cpos : Pos} (ha : PE X e (tOf N Z wa)) (hbase : attributeBase e "values" X.env (eval e X.env) = eval e X.env) (hline : (apos.endLine == cpos.line) = true) : PI X tg (.Call (.Attribute e "values" apos) [] [] cpos) (tI N Z (hDvs wa)) := piimp (pi_values ha hbase hline) fun σ H R ⟨ρ, S, Qi, rs, rh, fz, w, k⟩ => ⟨ρ, S, _, rs, rh, fz, w, fun d S1 v H1 f h1 r ⟨a, kvs, fu, ed, es, q⟩ => by
  subst ed
  cases rd_ref r
  obtain ⟨od, ws, rfl, h, ek, r1⟩ := at_dicF h1 es
  exact ⟨a, od, ws, rfl, h, k _ _ _ _ _ f h1 walkV q⟩⟩
end
section
variable {N : Nm} {Z : Sta × Hp} {X : Cx} {S S' S1 : Sta} {H H' H1 H0 : Hp} {Q : VK} {Qh : K} {σ : L2.St} {ρ : Env} {pos p tpos : Pos} {a b c e o tg iter elt : Expr} {wa wb wc wcond welt : Wp} {wi : Wi} {ad bd : Addr} {xs ys : List D} {is vs : List Nat}
theorem wipe_in {i : Nat} : ∀ {vs : List Nat}, i ∈ vs → ∀ {σ : L2.St}, (wipe σ vs)[i]? = if i < σ.length then some none else none
  | [], h, _ => by simp at h
  | v :: vs, h, σ => by
    unfold wipe
    have hl := wipe_length σ vs
    by_cases e : v = i
    · subst e
      by_cases hv : v < σ.length
      · rw [List.getElem?_set_self (by rw [hl]; exact hv), if_pos hv]
      · rw [List.getElem?_eq_none (by rw [List.length_set, hl]; omega), if_neg hv]
    · rw [List.getElem?_set_ne e]
      exact wipe_in ((List.mem_cons.mp h).resolve_left fun z => e z.symm)
theorem wipe_eq {σ2 : L2.St} (hl : σ2.length = σ.length) (h : ∀ j, j ∉ vs → σ2[j]? = σ[j]?) : wipe σ2 vs = wipe σ vs := by
  refine List.ext_getElem? fun j => ?_
  by_cases hj : j ∈ vs
  · rw [wipe_in hj, wipe_in hj, hl]
  · rw [wipe_out hj, wipe_out hj, h j hj]
theorem RS.wipe (rs : RS N H σ ρ) : ∀ vs : List Nat, RS N H (wipe σ vs) (wipeD ρ vs)
  | [] => rs
  | v :: vs => (RS.wipe rs vs).unset v
def gNs : List Nat → TGs
  | [] => gNil
  | i :: is => gCons (gName i) (gNs is)
def gT (K : PySem.W.Frag) : List Nat → TG
  | [i] => gName i
  | is => gTup K is.length (gNs is)
def setNV (σ : L2.St) : List Nat → List V → L2.St
  | i :: is, v :: vs => setNV (σ.set i (some v)) is vs
  | _, _ => σ
theorem setNV_len : ∀ {is : List Nat} {vs : List V} {σ : L2.St}, (setNV σ is vs).length = σ.length
  | [], _, _ => by unfold setNV; rfl
  | _ :: _, [], _ => rfl
  | i :: is, v :: vs, σ => by rw [setNV, setNV_len, List.length_set]
theorem setNV_out {j : Nat} : ∀ {is : List Nat} {vs : List V} {σ : L2.St}, j ∉ is → (setNV σ is vs)[j]? = σ[j]?
  | [], _, _, _ => by unfold setNV; rfl
  | _ :: _, [], _, _ => rfl
  | i :: is, v :: vs, σ, h => by
    simp only [List.mem_cons, not_or] at h
    rw [setNV, setNV_out h.2, List.getElem?_set_ne (Ne.symm h.1)]
theorem RS.setN : ∀ {is : List Nat} {ds : List D} {vs : List V} {σ : L2.St} {ρ : Env}, RS N H σ ρ → RDs N H ds vs → RS N H (setNV σ is vs) (setN ρ is ds)
  | [], ds, vs, σ, ρ, rs, r => by unfold setNV A.setN; exact rs
  | i :: is, [], vs, σ, ρ, rs, r => by rw [r.unnil]; exact rs
  | i :: is, d :: ds, vs, σ, ρ, rs, r => by
    obtain ⟨v, t, rfl, h1, h2⟩ := r.uncons
    rw [setNV, A.setN]
    exact RS.setN (rs.set i h1) h2
theorem gNs_at {Qg : L2.St → Hp → Prop} : ∀ {is : List Nat} {vs : List V} {σ : L2.St}, vs.length = is.length → Qg (setNV σ is vs) H → gNs is vs σ H Qg
  | [], [], σ, _, q => ⟨rfl, q⟩
  | [], _ :: _, _, h, _ => by simp at h
  | _ :: _, [], _, h, _ => by simp at h
  | i :: is, v :: vs, σ, h, q => ⟨v, vs, rfl, gNs_at (by simpa using h) q⟩
theorem tg_at (hK : N.K = X.K) {d : D} {v : V} {Qr : Env → Prop} (rs : RS N H σ ρ) (r : RD N H d v) (w : wtgN is d ρ Qr) :
    ∃ σ2 ρ2, RS N H σ2 ρ2 ∧ Qr ρ2 ∧ (∀ j, j ∉ is → σ2[j]? = σ[j]?) ∧ σ2.length = σ.length ∧ ∀ Qg : L2.St → Hp → Prop, Qg σ2 H → gT X.K is v σ H Qg := by
  have many : ∀ is : List Nat, (∀ Qg, gTup X.K is.length (gNs is) v σ H Qg → gT X.K is v σ H Qg) → (∃ l, d = .tup l ∧ l.length = is.length ∧ Qr (A.setN ρ is l)) → ∃ σ2 ρ2, RS N H σ2 ρ2 ∧ Qr ρ2 ∧ (∀ j, j ∉ is → σ2[j]? = σ[j]?) ∧ σ2.length = σ.length ∧ ∀ Qg : L2.St → Hp → Prop, Qg σ2 H → gT X.K is v σ H Qg := fun is hg ⟨l, e, w1, w2⟩ => by
    subst e
    obtain ⟨a, vs, rfl, h1, r1⟩ := rd_tup r
    exact ⟨setNV σ is vs, A.setN ρ is l, rs.setN r1, w2, fun j hj => setNV_out hj, setNV_len, fun Qg q => hg Qg ⟨a, vs, rfl, hK ▸ h1, r1.length ▸ w1, gNs_at (r1.length ▸ w1) q⟩⟩
  have tup : ∀ is : List Nat, (∀ i, is ≠ [i]) → wtgN is d ρ Qr → ∃ l, d = .tup l ∧ l.length = is.length ∧ Qr (A.setN ρ is l) := fun is hn w => by
    unfold wtgN at w
    split at w
    · exact absurd rfl (hn _)
    · cases d with
      | tup l => exact ⟨l, rfl, w.1, w.2⟩
      | _ => exact (False.elim w)
  match is, w with
  | [], w => exact many [] (fun _ q => q) (tup _ (fun _ z => nomatch z) w)
  | [i], w =>
    refine ⟨σ.set i (some v), ρ.set i (some d), rs.set i r, w, fun j hj => ?_, by rw [List.length_set], fun Qg q => q⟩
    rw [List.getElem?_set_ne (fun z => hj (by simp [z]))]
  | i :: j :: is, w => exact many (i :: j :: is) (fun _ q => q) (tup _ (fun _ z => by simp at z) w)
theorem RH.priv (r : RH N H S) {q : Addr} {u o : HO} (n : S q = none) (h : H q = some u) (d : Deep u = false) : RH N (upd H q o) S := fun a m e => (r a m e).mono (dle_put h d) (L2.upd_ne (sne e n))
theorem RH.tell (r : RH N H S) {q : Addr} {m : MO} (hm : RO N H q m) : RH N H (ups S q m) := fun a u e => by
  by_cases z : a = q
  · subst z; rw [ups_same] at e; cases e; exact hm
  · rw [ups_ne z] at e; exact r a u e
theorem Fr.tell {q : Addr} {m : MO} (f : Fr S H S1 H1) (n : ∀ a o, H a = some o → S a = none → a ≠ q) : Fr S H (ups S1 q m) H1 := fun a o h s => by
  obtain ⟨h1, s1⟩ := f a o h s
  exact ⟨h1, by rw [ups_ne (n a o h s)]; exact s1⟩
theorem Fr.priv {q : Addr} {o : HO} (f : Fr S H S1 H1) (n : H q = none) : Fr S H S1 (upd H1 q o) := fun a u h s => by
  obtain ⟨h1, s1⟩ := f a u h s
  exact ⟨by rw [L2.upd_ne (L2.ne_of_none h n)]; exact h1, s1⟩
def hLc (wi : Wi) (is own : List Nat) (wcond welt : Wp) : Wp := fun ρ S Q => wi ρ S fun h xs S1 =>
  wcomp h (fun x S2 R => wtgN is x (wipeD ρ own) fun ρ1 => wcond ρ1 S2 fun y S3 => wtru S3 y fun b => if b = true then welt ρ1 S3 fun d S4 => R (some d) S4 else R none S3) xs [] S1
    fun ds S5 => ∀ p, S5 p = none → Q (.ref p) (ups S5 p (.lst ds))
theorem lc_at (hK : N.K = X.K) (hsub : ∀ i ∈ is, i ∈ vs) (σ : L2.St) (H : Hp) (Q : VK) (t : tOf N Z (hLc wi is vs wcond welt) σ H Q) : tLc (tI N Z wi) (gT X.K is) (tT N Z wcond) (tOf N Z welt) vs σ H Q := by
  obtain ⟨ρ, S, Qh, rs, rh, fz, w, k⟩ := t
  refine ⟨ρ, S, _, rs, rh, fz, w, fun h xs S1 H1 J f1 h1 wk q1 => ?_⟩
  intro L hL
  generalize hF : (fun (x : D) (S2 : Sta) (R : Option D → Sta → Prop) => wtgN is x (wipeD ρ vs) fun ρ1 => wcond ρ1 S2 fun y S3 => wtru S3 y fun b => if b = true then welt ρ1 S3 fun d S4 => R (some d) S4 else R none S3) = F at q1
  generalize hP : (fun (ds : List D) (S5 : Sta) => ∀ p, S5 p = none → Qh (.ref p) (ups S5 p (.lst ds))) = P at q1
  refine ⟨fun i m H2 => m = xs.length - i ∧ i ≤ xs.length ∧ ∃ S2 acc vacc, Dle H1 H2 ∧ Fr S1 H1 S2 H2 ∧ RH N H2 S2 ∧ S2 L = none ∧ H2 L = some (.lst vacc) ∧ RDs N H2 acc vacc ∧ wcomp h F (xs.drop i) acc S2 P,
    ⟨xs.length, by simp, Nat.zero_le _, S1, [], [], dle_new hL, Fr.skip hL, h1.skip hL, h1.fresh hL, L2.upd_same, .nil, q1⟩, ?_⟩
  rintro i m H2 ⟨rfl, hi, S2, acc, vacc, dl, f2, h2, nL, eL, ra, wc⟩
  by_cases hlt : i < xs.length
  · rw [List.drop_eq_getElem_cons hlt, wcomp] at wc
    obtain ⟨hh, wc⟩ := wc
    refine .inr ⟨wk.goes i H2 S2 hlt dl h2 hh, fun H2 => ∃ S2 acc vacc, Dle H1 H2 ∧ Fr S1 H1 S2 H2 ∧ RH N H2 S2 ∧ S2 L = none ∧ H2 L = some (.lst vacc) ∧ RDs N H2 acc vacc ∧ wcomp h F (xs.drop (i + 1)) acc S2 P, fun H' n => ⟨xs.length - (i + 1), by omega, rfl, hlt, n⟩, fun x H3 y => ?_⟩
    obtain ⟨d, ed, f3, h3, r3⟩ := wk.yields i H2 S2 x H3 hlt dl h2 hh y
    rw [List.getElem?_eq_getElem hlt] at ed
    cases ed
    subst hF
    have d3 := f3.dle h2
    obtain ⟨L3, n3⟩ := f3 L _ eL nL
    have rs3 : RS N H3 (wipe σ vs) (wipeD ρ vs) := ((rs.mono (f1.dle rh)).mono (dl.trans d3)).wipe vs
    obtain ⟨σ2, ρ2, rs2, w2, same, len, go⟩ := tg_at hK rs3 r3 wc
    refine go _ ⟨wipe_eq (by rw [len, wipe_length]) fun j hj => (same j fun z => hj (hsub j z)).trans (wipe_out hj), ?_⟩
    refine ⟨ρ2, S2, _, rs2, h3, ((fz.trans f1).trans f2).trans f3, w2, fun y S3 H4 f4 h4 q4 => ?_⟩
    obtain ⟨L4, n4⟩ := f4 L _ L3 n3
    obtain ⟨j, pj, tj⟩ := wtru_some q4
    refine wtru_mk tj ?_
    have d4 := f4.dle h3
    cases j with
    | false => exact ⟨S3, acc, vacc, (dl.trans d3).trans d4, (f2.trans f3).trans f4, h4, n4, L4, (ra.mono' d3).mono' d4, pj⟩
    | true =>
      refine ⟨ρ2, S3, _, rs2.mono d4, h4, (((fz.trans f1).trans f2).trans f3).trans f4, pj, fun d' S4 v' H5 f5 h5 r5 q5 => ?_⟩
      obtain ⟨L5, n5⟩ := f5 L _ L4 n4
      have d5 := f5.dle h4
      have dL : Dle H5 (upd H5 L (.lst (vacc ++ [v']))) := dle_lst L5
      have ra5 : RDs N H5 acc vacc := ((ra.mono' d3).mono' d4).mono' d5
      exact ⟨vacc, L5, ra5.length ▸ q5.1, S4, acc ++ [d'], vacc ++ [v'], (((dl.trans d3).trans d4).trans d5).trans dL, Fr.priv (((f2.trans f3).trans f4).trans f5) hL, h5.priv n5 L5 rfl, n5, L2.upd_same,
        (ra5.append (.cons r5 .nil)).mono' dL, q5.2⟩
  · have e : i = xs.length := by omega
    subst e
    rw [List.drop_length, wcomp] at wc
    obtain ⟨hh, wc⟩ := wc
    rw [← hP] at wc
    refine .inl ⟨wk.stops H2 S2 dl h2 hh, k _ _ _ _ ((f1.trans f2).tell fun a o z s => ?_) (h2.tell (m := .lst acc) ⟨vacc, eL, ra⟩) mk_ref (wc L nL)⟩
    exact L2.ne_of_none (f1 a o z s).1 hL
structure LcOk (N : Nm) (Z : Sta × Hp) (X : Cx) (elt tg iter : Expr) (ifs : List Expr) (scope : Scope) (own : List (Str × Nat)) (is : List Nat) (wi : Wi) (wcond welt : Wp) : Prop where
  calm : X.calm = true
  nd : X.N.Nodup
  it : PI X tg iter (tI N Z wi)
  ok : BlkOk X.N X.env.scope scope own
  tg : ∀ (s : Shared) (H : Hp) (C : Addr) (cl : List (Str × Addr)) (fp : List Addr), PG (X.blk s H scope (compEnvC scope cl C X.env) fp) tg (gT X.K is)
  cond : ∀ (s : Shared) (H : Hp) (C : Addr) (cl : List (Str × Addr)) (fp : List Addr), PTs (X.blk s H scope (compEnvC scope cl C X.env) fp) ifs (tT N Z wcond)
  elt : ∀ (s : Shared) (H : Hp) (C : Addr) (cl : List (Str × Addr)) (fp : List Addr), PE (X.blk s H scope (compEnvC scope cl C X.env) fp) elt (tOf N Z welt)
  fold : ∀ x, foldedSetIterable iter X.env x = pure x
  sub : ∀ i ∈ is, i ∈ own.map (·.2)
variable {ifs : List Expr} {scope : Scope} {own : List (Str × Nat)}
theorem he_lc (hK : N.K = X.K) (L : LcOk N Z X elt tg iter ifs scope own is wi wcond welt) : PE X (.ListComp elt [⟨tg, iter, ifs, 0⟩] scope pos) (tOf N Z (hLc wi is (own.map (·.2)) wcond welt)) :=
  pimp (pe_lc L.calm L.nd L.it L.ok L.tg L.cond L.elt L.fold) (lc_at hK L.sub)
theorem RH.lock (rh : RH N H S) {a : Addr} {kvs : List (Key × D)} {ws : List (Key × V)} (h : H a = some (.dK ws)) (ek : ws.map (·.1) = kvs.map (·.1)) (r : RDs N H (kvs.map (·.2)) (ws.map (·.2))) (od : Obj) : RH N (upd H a (.frz od (.dK ws))) (ups S a (.dicF kvs (.frz od (.dK ws)))) :=
  rh.put h rfl ⟨od, ws, rfl, L2.upd_same, ek, r.mono' (dle_put h rfl)⟩
theorem RH.unlock (rh : RH N H S) {a : Addr} {kvs : List (Key × D)} {od : Obj} {ws : List (Key × V)} (e : S a = some (.dicF kvs (.frz od (.dK ws)))) : H a = some (.frz od (.dK ws)) ∧ RH N (upd H a (.dK ws)) (ups S a (.dic kvs)) ∧ Dle H (upd H a (.dK ws)) := by
  obtain ⟨h, ek, r⟩ := lock_at rh e
  exact ⟨h, rh.put h rfl ⟨ws, L2.upd_same, ek, r.mono' (dle_put h rfl)⟩, dle_put h rfl⟩
def hLock (w : Wp) : Wp := fun ρ S Q => ∃ a kvs, S a = some (.dic kvs) ∧ ∀ fu, w ρ (ups S a (.dicF kvs fu)) fun d S1 => S1 a = some (.dicF kvs fu) ∧ Q d (ups S1 a (.dic kvs))
theorem he_lock {w : Wp} (he : PE X e (tOf N Z w)) : PE X e (tOf N Z (hLock w)) := pimp (pe_lock he) fun σ H Q ⟨ρ, S, Qh, rs, rh, fz, ⟨a, kvs, es, w⟩, k⟩ => by
  obtain ⟨ws, h, ek, r⟩ := at_dic rh es
  refine ⟨a, .dK ws, h, trivial, fun od => ⟨ρ, _, _, rs.mono (dle_put h rfl), rh.lock h ek r od, fz.trans (Fr.put es), w (.frz od (.dK ws)), fun d S1 v H1 f h1 r1 ⟨e1, q⟩ => ?_⟩⟩
  obtain ⟨g1, g2, g3⟩ := h1.unlock e1
  exact ⟨g1, k _ _ _ _ (((Fr.put es).trans f).trans (Fr.put e1)) g2 (RD.mono g3 _ _ r1) q⟩
end
abbrev Ws := Env → Sta → A.Ends → Prop
structure En (N : Nm) (Y : Sta × Hp) (T : A.Ends) (D : L2.Ends) : Prop where
  nx : ∀ ρ S σ H, RS N H σ ρ → RH N H S → Fr Y.1 Y.2 S H → T.nx ρ S → D.nx σ H
  bk : ∀ ρ S σ H, RS N H σ ρ → RH N H S → Fr Y.1 Y.2 S H → T.bk ρ S → D.bk σ H
  ct : ∀ ρ S σ H, RS N H σ ρ → RH N H S → Fr Y.1 Y.2 S H → T.ct ρ S → D.ct σ H
  rt : ∀ d S v H, RH N H S → Fr Y.1 Y.2 S H → RD N H d v → T.rt d S → D.rt v H
def tSs (N : Nm) (Z : Sta × Hp) (Ex : D → Env → Sta → Prop) (w : Ws) : TS := fun D σ H => ∃ (Y : Sta × Hp) (ρ : Env) (S : Sta) (T : A.Ends), Fr Z.1 Z.2 Y.1 Y.2 ∧ Fr Y.1 Y.2 S H ∧ RS N H σ ρ ∧ RH N H S ∧ T.ex = Ex ∧ w ρ S T ∧ En N Y T D
section
variable {N : Nm} {Z : Sta × Hp} {X : Cx} {S S' S1 : Sta} {H H' H1 H0 : Hp} {Q : VK} {Qh : K} {σ : L2.St} {ρ : Env} {pos p pos' tpos : Pos} {a b c e o tg iter elt : Expr} {Ex : D → Env → Sta → Prop} {w w1 w2 : Ws} {is : List Nat} {st : Stmt} {sts body : List Stmt}
abbrev Wx := (D → Env → Sta → Prop) → Env → Sta → K → Prop
theorem psimp {t t' : TS} (h : PS X st t) (i : ∀ D σ H, t' D σ H → t D σ H) : PS X st t' := ⟨fun pins s σ H D I q => h.run pins s σ H D I (i D σ H q)⟩
theorem pssimp {t t' : TS} (h : PSs X sts t) (i : ∀ D σ H, t' D σ H → t D σ H) : PSs X sts t' := ⟨fun pins s σ H D I q => h.run pins s σ H D I (i D σ H q)⟩
theorem hs_nev (hw : ∀ ρ S T, ¬ w ρ S T) : PS X st (tSs N Z Ex w) := ⟨fun _ _ _ _ _ _ ⟨Y, ρ, S, T, _, _, _, _, _, q, _⟩ => (hw _ _ _ q).elim⟩
theorem hss_nil : PSs X [] (tSs N Z Ex fun ρ S T => T.nx ρ S) := pssimp pss_nil fun D σ H ⟨Y, ρ, S, T, fy, fs, rs, rh, ex, q, en⟩ => en.nx ρ S σ H rs rh fs q
theorem hss_cons (h1 : PS X st (tSs N Z Ex w1)) (h2 : PSs X sts (tSs N Z Ex w2)) : PSs X (st :: sts) (tSs N Z Ex fun ρ S T => w1 ρ S { nx := fun ρ' S' => w2 ρ' S' T, rt := T.rt, bk := T.bk, ct := T.ct, ex := T.ex }) :=
  pssimp (pss_cons h1 h2) fun D σ H ⟨Y, ρ, S, T, fy, fs, rs, rh, ex, q, en⟩ => ⟨Y, ρ, S, { nx := fun ρ' S' => w2 ρ' S' T, rt := T.rt, bk := T.bk, ct := T.ct, ex := T.ex }, fy, fs, rs, rh, ex, q,
    ⟨fun ρ' S' σ' H' rs' rh' fs' q' => ⟨Y, ρ', S', T, fy, fs', rs', rh', ex, q', en⟩, en.bk, en.ct, en.rt⟩⟩
theorem hs_pass : PS X (.Pass pos) (tSs N Z Ex fun ρ S T => T.nx ρ S) := psimp ps_pass fun D σ H ⟨Y, ρ, S, T, fy, fs, rs, rh, ex, q, en⟩ => en.nx ρ S σ H rs rh fs q
theorem hs_brk : PS X (.Break pos) (tSs N Z Ex fun ρ S T => T.bk ρ S) := psimp ps_break fun D σ H ⟨Y, ρ, S, T, fy, fs, rs, rh, ex, q, en⟩ => en.bk ρ S σ H rs rh fs q
theorem hs_cont : PS X (.Continue pos) (tSs N Z Ex fun ρ S T => T.ct ρ S) := psimp ps_continue fun D σ H ⟨Y, ρ, S, T, fy, fs, rs, rh, ex, q, en⟩ => en.ct ρ S σ H rs rh fs q
variable {we wt wi' : Wx}
theorem eat {R : VK} {g : Env → D → Sta → A.Ends → Prop} {D : L2.Ends} (t : tSs N Z Ex (fun ρ S T => we T.ex ρ S fun d S1 => g ρ d S1 T) D σ H)
    (k : ∀ Y ρ S1 H1 d v T, Fr Z.1 Z.2 Y.1 Y.2 → Fr Y.1 Y.2 S1 H1 → RS N H1 σ ρ → RH N H1 S1 → RD N H1 d v → T.ex = Ex → g ρ d S1 T → En N Y T D → R v H1) : tOf N Z (we Ex) σ H R := by
  obtain ⟨Y, ρ, S, T, fy, fs, rs, rh, ex, q, en⟩ := t
  subst ex
  exact ⟨ρ, S, _, rs, rh, fy.trans fs, q, fun d S1 v H1 f h1 r q1 => k Y ρ S1 H1 d v T fy (fs.trans f) (rs.mono (f.dle rh)) h1 r rfl q1 en⟩
theorem hs_ret (he : PE X e (tOf N Z (we Ex))) : PS X (.Return (some e) pos) (tSs N Z Ex fun ρ S T => we T.ex ρ S T.rt) :=
  psimp (ps_ret he) fun D σ H t => eat (g := fun ρ d S1 T => T.rt d S1) t fun Y ρ S1 H1 d v T fy f rs rh r ex q en => en.rt d S1 v H1 rh f r q
theorem hs_retN : PS X (.Return none pos) (tSs N Z Ex fun ρ S T => T.rt .non S) := psimp ps_retN fun D σ H ⟨Y, ρ, S, T, fy, fs, rs, rh, ex, q, en⟩ => en.rt .non S .non H rh fs mk_non q
theorem hs_ex (he : PE X e (tOf N Z (we Ex))) (hs : swapsWith e none pos.line X.env = pure false) : PS X (.Expr e pos) (tSs N Z Ex fun ρ S T => we T.ex ρ S fun _ S1 => T.nx ρ S1) :=
  psimp (ps_expr he hs) fun D σ H t => eat (g := fun ρ d S1 T => T.nx ρ S1) t fun Y ρ S1 H1 d v T fy f rs rh r ex q en => en.nx ρ S1 σ H1 rs rh f q
theorem hs_ite {sa sb : List Stmt} (ht : PT X e (tT N Z (wt Ex))) (ha : PSs X sa (tSs N Z Ex w1)) (hb : PSs X sb (tSs N Z Ex w2)) : PS X (.If e sa sb pos) (tSs N Z Ex fun ρ S T => wt T.ex ρ S fun x S1 => wtru S1 x fun c => if c = true then w1 ρ S1 T else w2 ρ S1 T) :=
  psimp (ps_if ht ha hb) fun D σ H ⟨Y, ρ, S, T, fy, fs, rs, rh, ex, q, en⟩ => by
    subst ex
    refine ⟨ρ, S, _, rs, rh, fy.trans fs, q, fun x S1 H1 f h1 q1 => ?_⟩
    obtain ⟨j, pj, tj⟩ := wtru_some q1
    refine wtru_mk tj ?_
    cases j with
    | true => exact ⟨Y, ρ, S1, T, fy, fs.trans f, rs.mono (f.dle rh), h1, rfl, pj, en⟩
    | false => exact ⟨Y, ρ, S1, T, fy, fs.trans f, rs.mono (f.dle rh), h1, rfl, pj, en⟩
theorem hs_asgN (hK : N.K = X.K) (he : PE X e (tOf N Z (we Ex))) (hg : PG X tg (gT X.K is)) (hs : swapsWithSole [tg] e pos.line X.env = pure false) (hw : swappedStores [tg] e X.env = pure none)
    (h1 : (assignEach [tg] X.env).map (·.2) = [assign tg X.env]) : PS X (.Assign [tg] e pos) (tSs N Z Ex fun ρ S T => we T.ex ρ S fun d S1 => wtgN is d ρ fun ρ1 => T.nx ρ1 S1) :=
  psimp (ps_asg he hg hs hw h1) fun D σ H t => eat (g := fun ρ d S1 T => wtgN is d ρ fun ρ1 => T.nx ρ1 S1) t fun Y ρ S1 H1 d v T fy f rs rh r ex q en => by
    obtain ⟨σ2, ρ2, rs2, q2, _, _, go⟩ := tg_at hK rs r q
    exact go _ (en.nx ρ2 S1 σ2 H1 rs2 rh f q2)
def gTupL (K : PySem.W.Frag) (n : Nat) (t : TGs) : TG := fun v σ H Q => ∃ a xs, v = .ref a ∧ SqL K H a xs ∧ xs.length = n ∧ t xs σ H Q
theorem pg_lst {es : List Expr} {k : Nat} {t : TGs} {n : Nat} {pos : Pos} (hc : X.calm = true) (h : PGs X es t)
    (hn : (assignEach es X.env).length = n) (hst : (assignEach es X.env).findIdx? (·.1) = none) : PG X (.Tuple es k pos) (gTupL X.K n t) := by
  refine ⟨fun pins s σ H v u Q I r hw => ?_⟩
  obtain ⟨a, xs, e1, hq, hl, hw⟩ := hw
  subst e1
  cases r
  obtain ⟨its, rv, ht, hz⟩ := I.list hq
  rw [PyProof.Rows.assign_Tuple]
  refine wpAny_bind (wpAny_standAt ?_)
  unfold unpack
  rw [hn, hst, ← hl, rv.length]
  refine wpAny_bind (wpAny_holding (PySem.W.kun_itemsOf (items := its.toArray) (I.ok.hd hc) (let ⟨o, n, h1, h2, _, h3⟩ := ht; ⟨o, h1, h2, n, h3⟩) fun h' hx => ?_))
  have I1 : Inv X pins σ H { s with heap := h' } := I.kept (t' := s.toks) fun b o e => hx b o (Nat.ne_of_lt (Heap.lt_size e)) e
  exact h.run pins _ σ H xs _ Q I1 (by simpa using rv) hw
theorem hs_asgL (hK : N.K = X.K) (he : PE X e (tOf N Z (we Ex))) (hg : PG X tg (gTupL X.K is.length (gNs is))) (hs : swapsWithSole [tg] e pos.line X.env = pure false) (hw : swappedStores [tg] e X.env = pure none)
    (h1 : (assignEach [tg] X.env).map (·.2) = [assign tg X.env]) : PS X (.Assign [tg] e pos) (tSs N Z Ex fun ρ S T => we T.ex ρ S fun d S1 => ∃ a xs, d = .ref a ∧ S1 a = some (.lst xs) ∧ xs.length = is.length ∧ T.nx (A.setN ρ is xs) S1) :=
  psimp (ps_asg he hg hs hw h1) fun D σ H t => eat (g := fun ρ d S1 T => ∃ a xs, d = .ref a ∧ S1 a = some (.lst xs) ∧ xs.length = is.length ∧ T.nx (A.setN ρ is xs) S1) t fun Y ρ S1 H1 d v T fy f rs rh r ex q en => by
    obtain ⟨a, xs, rfl, e1, hl, q⟩ := q
    cases rd_ref r
    obtain ⟨vs, hv, rv⟩ := rh a _ e1
    have lv : vs.length = is.length := rv.length ▸ hl
    exact ⟨a, vs, rfl, .inl (.inl hv), lv, gNs_at lv (en.nx _ S1 _ H1 (rs.setN rv) rh f q)⟩
theorem hs_asgLc (hK : N.K = X.K) {i : Nat} {y : Str} {py spos : Pos} {ifs : List Expr} {scope : Scope} {own : List (Str × Nat)} {wi : (D → Env → Sta → Prop) → Wi} {wcond welt : Wp} (L : LcOk N Z X elt tg iter ifs scope own is (wi Ex) wcond welt) (hy : X.N[i]? = some y) (hyl : X.env.scope.names.lookup y = some .local)
    (hsw : swapsWith (.ListComp elt [⟨tg, iter, ifs, 0⟩] scope pos) (some (.Name y py)) spos.line X.env = pure true) :
    PS X (.Assign [.Name y py] (.ListComp elt [⟨tg, iter, ifs, 0⟩] scope pos) spos) (tSs N Z Ex fun ρ S T => hLc (wi T.ex) is (own.map (·.2)) wcond welt ρ S fun d S1 => wtgN [i] d ρ fun ρ1 => T.nx ρ1 S1) :=
  psimp (ps_setLc L.calm L.nd hy hyl hsw L.it L.ok L.tg L.cond L.elt L.fold) fun D σ H t => lc_at hK L.sub σ H _ <|
    eat (we := fun Ex => hLc (wi Ex) is (own.map (·.2)) wcond welt) (g := fun ρ d S1 T => wtgN [i] d ρ fun ρ1 => T.nx ρ1 S1) t fun Y ρ S1 H1 d v T fy f rs rh r ex q en => en.nx _ S1 _ H1 (rs.set i r) rh f q
def rSetW (N : Nm) : TSet := fun o i v H Q => ∃ x y d S Qs, RH N H S ∧ RD N H x o ∧ RD N H y i ∧ RD N H d v ∧ wsetix x y d S Qs ∧ ∀ S' H', Fr S H S' H' → RH N H' S' → Qs S' → Q H'
theorem set_or {t t' : TSet} (h : PSet X t) (h' : PSet X t') : PSet X (fun o i v H Q => t o i v H Q ∨ t' o i v H Q) := by
  intro pins s σ H o i v ov iv u Q I r1 r2 r3 q
  rcases q with q | q
  · exact h pins s σ H o i v ov iv u Q I r1 r2 r3 q
  · exact h' pins s σ H o i v ov iv u Q I r1 r2 r3 q
theorem set_W (hu : X.A.units + 1 < cLine) : PSet X (rSetW N) := by
  have base := set_or (set_list (X := X)) (set_dict hu)
  intro pins s σ H o i v ov iv u Q I r1 r2 r3 h
  refine base pins s σ H o i v ov iv u Q I r1 r2 r3 ?_
  obtain ⟨x, y, d, S, Qs, rh, rx, ry, rd, w, k⟩ := h
  cases x with
  | ref a =>
    cases rd_ref rx
    simp only [wsetix] at w
    cases ea : S a with
    | none => rw [ea] at w; exact w.elim
    | some ob =>
      rw [ea] at w
      cases ob with
      | lst l =>
        cases y with
        | int n =>
          cases rd_int ry
          obtain ⟨j, hj, q⟩ := w
          obtain ⟨vs, h1, r⟩ := at_lst rh ea
          exact .inl ⟨a, vs, n, j, rfl, rfl, h1, r.length ▸ hj, k _ _ (Fr.put ea) (rh.put h1 rfl (m := .lst (l.set j d)) ⟨vs.set j v, L2.upd_same, (r.set j rd).mono' (dle_lst h1)⟩) q⟩
        | _ => exact (False.elim w)
      | dic kvs =>
        obtain ⟨hl, key, ek, q⟩ := w
        obtain ⟨ws, h1, e1, r⟩ := at_dic rh ea
        obtain ⟨g1, g2⟩ := kput_rel (k := key) rd e1 r
        have hl' : ws.length < sizeLine := by
          have := congrArg List.length e1
          simp only [List.length_map] at this
          omega
        rw [key_rd ek ry]
        exact .inr ⟨a, _, rfl, DPut.k h1 hl', k _ _ (Fr.put ea) (rh.put h1 rfl (m := .dic (kput kvs key d)) ⟨_, L2.upd_same, g1, g2.mono' (dle_put h1 rfl)⟩) q⟩
      | _ => exact w.elim
  | _ => exact (False.elim w)
theorem assign_sub {v : Value} {env : PySem.Env} (pl : plainIx b = true) : assign (.Subscript a b pos) env v = (do
      let ov ← holding [v] (eval a env)
      let iv ← holding [v, ov] (eval b env)
      standAt pos
      holding [v, ov, iv] (setItem ov iv v)
      release [v, ov, iv] []) := by
  cases b <;> first | rfl | cases pl
theorem hs_asgI (hu : X.A.units + 1 < cLine) {we wa wb : Wx} (he : PE X e (tOf N Z (we Ex))) (ha : PE X a (tOf N Z (wa Ex))) (hb : PE X b (tOf N Z (wb Ex))) (pl : plainIx b = true) :
    PS X (.Assign [.Subscript a b pos'] e pos) (tSs N Z Ex fun ρ S T => we T.ex ρ S fun d S1 => wa T.ex ρ S1 fun x S2 => wb T.ex ρ S2 fun y S3 => wsetix x y d S3 fun S4 => T.nx ρ S4) := by
  have hs : swapsWithSole [.Subscript a b pos'] e pos.line X.env = pure false := by
    cases e <;> rfl
  have hw : swappedStores [.Subscript a b pos'] e X.env = pure none := by rfl
  refine psimp (ps_asg he (pg_sub ha hb (set_W (N := N) hu) fun v => assign_sub pl) hs hw rfl) fun D σ H t => ?_
  refine eat (g := fun ρ d S1 T => wa T.ex ρ S1 fun x S2 => wb T.ex ρ S2 fun y S3 => wsetix x y d S3 fun S4 => T.nx ρ S4) t fun Y ρ S1 H1 d v T fy f rs rh r ex q en => ?_
  subst ex
  refine ⟨ρ, S1, _, rs, rh, fy.trans f, q, fun x S2 u H2 f2 h2 r2 q2 => ?_⟩
  refine ⟨ρ, S2, _, rs.mono (f2.dle rh), h2, (fy.trans f).trans f2, q2, fun y S3 u2 H3 f3 h3 r3 q3 => ?_⟩
  exact ⟨x, y, d, S3, _, h3, RD.mono (f3.dle h2) _ _ r2, r3, RD.mono (f3.dle h2) _ _ (RD.mono (f2.dle rh) _ _ r), q3, fun S4 H4 f4 h4 q4 =>
    en.nx ρ S4 σ H4 (((rs.mono (f2.dle rh)).mono (f3.dle h2)).mono (f4.dle h3)) h4 (((f.trans f2).trans f3).trans f4) q4⟩
def rIp (N : Nm) (o : Bo) : R2 := fun v u H Q => ∃ x y S Qh, RH N H S ∧ RD N H x v ∧ RD N H y u ∧ wip o x y S Qh ∧ Kn N S H Qh Q
theorem iop_W : ∀ o : Bo, OpR X (inplaceOp (boOp o)) (rIp N o)
  | .add => oimp (iop_add.or iop_add_str) fun v u H Q ⟨x, y, S, Qh, rh, rx, ry, w, k⟩ => by
    cases x <;> cases y <;> first | exact False.elim w | skip
    · cases rd_int rx; cases rd_int ry
      exact .inl ⟨_, _, rfl, rfl, k.at rh mk_int w⟩
    · cases rd_str rx; cases rd_str ry
      exact .inr ⟨_, _, rfl, rfl, w.1, k.at rh mk_str w.2⟩
  | .sub => oimp iop_sub fun v u H Q ⟨x, y, S, Qh, rh, rx, ry, w, k⟩ => by
    cases x <;> cases y <;> first | exact False.elim w | skip
    cases rd_int rx; cases rd_int ry
    exact ⟨_, _, rfl, rfl, k.at rh mk_int w⟩
  | .mul => oimp iop_mul fun v u H Q ⟨x, y, S, Qh, rh, rx, ry, w, k⟩ => by
    cases x <;> cases y <;> first | exact False.elim w | skip
    cases rd_int rx; cases rd_int ry
    exact ⟨_, _, rfl, rfl, w.1, k.at rh mk_int w.2⟩
  | .div => oimp iop_fdiv fun v u H Q ⟨x, y, S, Qh, rh, rx, ry, w, k⟩ => by
    cases x <;> cases y <;> first | exact False.elim w | skip
    cases rd_int rx; cases rd_int ry
    exact ⟨_, _, rfl, rfl, w.1, k.at rh mk_int w.2⟩
  | .mod => oimp iop_mod fun v u H Q ⟨x, y, S, Qh, rh, rx, ry, w, k⟩ => by
    cases x <;> cases y <;> first | exact False.elim w | skip
    cases rd_int rx; cases rd_int ry
    exact ⟨_, _, rfl, rfl, w.1, k.at rh mk_int w.2⟩
  | .pow => fun _ _ _ _ _ _ _ _ _ _ _ _ ⟨x, y, S, Qh, rh, rx, ry, w, k⟩ => by
    cases x <;> cases y <;> exact False.elim w
theorem hs_aug {o : Bo} {i : Nat} {x : Str} (hxs : ∀ r, N.xs = some r → r.1 ≠ i) (hN : X.N.Nodup) (hi : X.N[i]? = some x) (hx : Loc X.env.scope x) (hf : X.fn x = true ∨ X.env.scope.names.lookup x = some .local) (he : PE X e (tOf N Z (we Ex))) :
    PS X (.AugAssign (.Name x pos') (boOp o) e pos) (tSs N Z Ex fun ρ S T => ∃ d, ρ[i]? = some (some d) ∧ we T.ex ρ S fun y S1 => wip o d y S1 fun z S2 => T.nx (ρ.set i (some z)) S2) :=
  psimp (ps_aug (ti := rIp N o) hN hi hx he (iop_W o) hf) fun D σ H ⟨Y, ρ, S, T, fy, fs, rs, rh, ex, ⟨d, hd, q⟩, en⟩ => by
    subst ex
    obtain ⟨v, hv, rv⟩ := rs.at hxs hd
    refine ⟨v, hv, ρ, S, _, rs, rh, fy.trans fs, q, fun y S1 u H1 f h1 r q1 => ?_⟩
    exact ⟨d, y, S1, _, h1, RD.mono (f.dle rh) _ _ rv, r, q1, fun z S2 v2 H2 f2 h2 r2 q2 => en.nx _ S2 _ H2 (((rs.mono (f.dle rh)).mono (f2.dle h1)).set i r2) h2 ((fs.trans f).trans f2) q2⟩
theorem get_list : L2.PGet X (fun o i H Q => ∃ a vs n v, o = .ref a ∧ i = .int n ∧ SqL X.K H a vs ∧ L2.atI vs n = some v ∧ Q v H) := by
  intro pins s σ H o i ov iv Q I ro ri h
  obtain ⟨a, vs, n, v, rfl, rfl, hq, he, q⟩ := h
  cases ro
  obtain ⟨t, rfl⟩ := ri
  obtain ⟨its, r, pl, hz⟩ := I.list hq
  obtain ⟨j, h1, h2, h3, h4, h5⟩ := atI_get he
  obtain ⟨w, ew, rw'⟩ := r.get h2
  have hl := r.length
  have hn := line63
  by_cases h0 : 0 ≤ n
  · have hj : n.toNat = j := by
      rw [seqIndex_of h0 h5] at h1
      exact Option.some.inj h1
    exact wpAny_getItem_list pl.isList h0 (by omega) (by rw [hj]; simpa using ew) ⟨v, H, I, rw', q⟩
  · have hj : (n + (its.toArray.size : Int)).toNat = j := by
      rw [seqIndex_neg (by omega) h4] at h1
      rw [List.size_toArray, ← hl]
      exact Option.some.inj h1
    exact wpAny_getItem_list_neg pl.isList (by omega) (by rw [List.size_toArray] <;> omega) (by omega) (by rw [hj]; simpa using ew) ⟨v, H, I, rw', q⟩
theorem get_W (hu : X.A.units + 1 < cLine) : L2.PGet X (fun v u H Q => ∃ x y S Qh, RH N H S ∧ RD N H x v ∧ RD N H y u ∧ wixM x y S Qh ∧ Kn N S H Qh Q) := by
  intro pins s σ H o i ov iv Q I ro ri ⟨x, y, S, Qh, rh, rx, ry, w, k⟩
  cases x with
  | ref a =>
    cases rd_ref rx
    simp only [wixM, wix] at w
    have dic : ∀ kvs, (S a = some (.dic kvs) ∨ ∃ fu, S a = some (.dicF kvs fu)) → (∃ k d, keyD y = some k ∧ kget kvs k = some d ∧ Qh d S) → wpAny (model X.prog X.w) X.A (getItem ov iv) (EP X pins σ Q) X.xe s := fun kvs hs ⟨key, d, h1, h2, q⟩ => by
      obtain ⟨o, g, z⟩ := dget_of rh hs key
      rcases z with ⟨z, _⟩ | ⟨d', v', z1, z2, z3⟩
      · rw [z] at h2; cases h2
      · rw [z1] at h2; cases h2
        subst z2
        have er := key_rd h1 ry
        subst er
        cases ro
        exact d_getItem hu I g ri fun w' s' I' r' => ⟨v', H, I', r', k.at rh z3 q⟩
    cases ea : S a with
    | none => rw [ea] at w; exact w.elim
    | some ob =>
      rw [ea] at w
      cases ob with
      | lst l =>
        cases y with
        | int n =>
          cases rd_int ry
          obtain ⟨d, e, q⟩ := w
          obtain ⟨vs, h1, r⟩ := at_lst rh ea
          obtain ⟨v, e', r'⟩ := rds_at r e
          exact get_list pins s σ H _ _ ov iv Q I ro ri ⟨a, vs, n, v, rfl, rfl, SqL.of h1, e', k.at rh r' q⟩
        | _ => exact (False.elim w)
      | dic kvs => exact dic kvs (.inl ea) w
      | dicF kvs fu => exact dic kvs (.inr ⟨fu, ea⟩) w
      | _ => exact w.elim
  | _ => exact (False.elim w)
theorem aug_sub (pl : plainIx b = true) : ∀ ov iv new, augStore b ov iv new = (do holding [new, ov, iv] (setItem ov iv new); release [new, ov, iv] []; pure .next) := by
  intro ov iv new
  cases b <;> first | rfl | cases pl
theorem hs_augI (hu : X.A.units + 1 < cLine) {o : Bo} {wa wb : Wx} (ha : PE X a (tOf N Z (wa Ex))) (hb : PE X b (tOf N Z (wb Ex))) (he : PE X e (tOf N Z (we Ex))) (pl : plainIx b = true) :
    PS X (.AugAssign (.Subscript a b pos') (boOp o) e pos) (tSs N Z Ex fun ρ S T => wa T.ex ρ S fun x S1 => wb T.ex ρ S1 fun k S2 => wixM x k S2 fun d S3 => we T.ex ρ S3 fun y S4 => wip o d y S4 fun z S5 => wsetix x k z S5 fun S6 => T.nx ρ S6) :=
  psimp (ps_augS (tip := rIp N o) ha hb (get_W (N := N) hu) he (iop_W o) (set_W (N := N) hu) (aug_sub pl)) fun D σ H t => by
    refine eat (g := fun ρ x S1 T => wb T.ex ρ S1 fun k S2 => wixM x k S2 fun d S3 => we T.ex ρ S3 fun y S4 => wip o d y S4 fun z S5 => wsetix x k z S5 fun S6 => T.nx ρ S6) t fun Y ρ S1 H1 x v T fy f rs rh r ex q en => ?_
    subst ex
    refine ⟨ρ, S1, _, rs, rh, fy.trans f, q, fun k S2 u H2 f2 h2 r2 q2 => ?_⟩
    have rs2 := rs.mono (f2.dle rh)
    have r' := RD.mono (f2.dle rh) _ _ r
    refine ⟨x, k, S2, _, h2, r', r2, q2, fun d S3 v3 H3 f3 h3 r3 q3 => ?_⟩
    have rs3 := rs2.mono (f3.dle h2)
    refine ⟨ρ, S3, _, rs3, h3, ((fy.trans f).trans f2).trans f3, q3, fun y S4 v4 H4 f4 h4 r4 q4 => ?_⟩
    refine ⟨d, y, S4, _, h4, RD.mono (f4.dle h3) _ _ r3, r4, q4, fun z S5 v5 H5 f5 h5 r5 q5 => ?_⟩
    have m35 : Dle H2 H5 := ((f3.dle h2).trans (f4.dle h3)).trans (f5.dle h4)
    exact ⟨x, k, z, S5, _, h5, RD.mono m35 _ _ r', RD.mono m35 _ _ r2, r5, q5, fun S6 H6 f6 h6 q6 => en.nx ρ S6 σ H6 ((rs2.mono m35).mono (f6.dle h5)) h6 (((((f.trans f2).trans f3).trans f4).trans f5).trans f6) q6⟩
theorem hs_whl (hp : PassesOwn (model X.prog X.w) X.A X.env X.xe) (ht : PT X e (tT N Z (wt Ex))) (hb : PSs X body (tSs N Z Ex w1)) : PS X (.While e body [] pos) (tSs N Z Ex fun ρ S T => ∃ I : Nat → Env → Sta → Prop, (∃ m, I m ρ S) ∧ ∀ m ρ S, I m ρ S → wt T.ex ρ S fun x S1 => wtru S1 x fun c =>
      if c = true then w1 ρ S1 { nx := fun ρ' S' => ∃ m', m' < m ∧ I m' ρ' S', rt := T.rt, bk := T.nx, ct := fun ρ' S' => ∃ m', m' < m ∧ I m' ρ' S', ex := T.ex } else T.nx ρ S1) :=
  psimp (ps_while hp ht hb) fun D σ H ⟨Y, ρ, S, T, fy, fs, rs, rh, ex, ⟨I, ⟨m0, i0⟩, q⟩, en⟩ => by
    subst ex
    refine ⟨fun m σ H => ∃ ρ S, RS N H σ ρ ∧ RH N H S ∧ Fr Y.1 Y.2 S H ∧ I m ρ S, ⟨m0, ρ, S, rs, rh, fs, i0⟩, fun m σ H ⟨ρ, S, rs, rh, fs, im⟩ => ?_⟩
    refine ⟨ρ, S, _, rs, rh, fy.trans fs, q m ρ S im, fun x S1 H1 f h1 q1 => ?_⟩
    obtain ⟨j, pj, tj⟩ := wtru_some q1
    refine wtru_mk tj ?_
    have rs1 := rs.mono (f.dle rh)
    cases j with
    | false => exact en.nx ρ S1 σ H1 rs1 h1 (fs.trans f) pj
    | true =>
      refine ⟨fun σ' H' => ∃ m', m' < m ∧ ∃ ρ S, RS N H' σ' ρ ∧ RH N H' S ∧ Fr Y.1 Y.2 S H' ∧ I m' ρ S, fun σ' H' h => h, Y, ρ, S1, { nx := fun ρ' S' => ∃ m', m' < m ∧ I m' ρ' S', rt := T.rt, bk := T.nx, ct := fun ρ' S' => ∃ m', m' < m ∧ I m' ρ' S', ex := T.ex }, fy, fs.trans f, rs1, h1, rfl, pj, ?_⟩
      exact ⟨fun ρ' S' σ' H' rs' rh' fs' ⟨m', hm, i'⟩ => ⟨m', hm, ρ', S', rs', rh', fs', i'⟩, en.nx, fun ρ' S' σ' H' rs' rh' fs' ⟨m', hm, i'⟩ => ⟨m', hm, ρ', S', rs', rh', fs', i'⟩, en.rt⟩
def wTurn (is : List Nat) (w1 : Ws) (T : A.Ends) : A.D → Env → Sta → (Env → Sta → Prop) → Prop := fun x ρ S R => wtgN is x ρ fun ρ1 => w1 ρ1 S { nx := R, rt := T.rt, bk := T.nx, ct := R, ex := T.ex }
theorem hs_for {wi : (D → Env → Sta → Prop) → Wi} (hK : N.K = X.K) (hp : PassesOwn (model X.prog X.w) X.A X.env X.xe) (hc : X.calm = true) (hi : PI X tg iter (tI N Z (wi Ex))) (hg : PG X tg (gT X.K is)) (hb : PSs X body (tSs N Z Ex w1))
    (hf : ∀ x, foldedSetIterable iter X.env x = pure x) : PS X (.For tg iter body [] pos) (tSs N Z Ex fun ρ S T => wi T.ex ρ S fun h xs S1 =>
      wfor h (wTurn is w1 T) xs ρ S1 T.nx) :=
  psimp (ps_for hp hc hi hg hb hf) fun D σ H ⟨Y, ρ, S, T, fy, fs, rs, rh, ex, q, en⟩ => by
    subst ex
    refine ⟨ρ, S, _, rs, rh, fy.trans fs, q, fun h xs S1 H1 J f1 h1 wk q1 => ?_⟩
    refine ⟨fun i m σ H => m = xs.length - i ∧ i ≤ xs.length ∧ ∃ ρ S, RS N H σ ρ ∧ RH N H S ∧ Fr S1 H1 S H ∧ wfor h (wTurn is w1 T) (xs.drop i) ρ S T.nx, ⟨xs.length, by simp, Nat.zero_le _, ρ, S1, rs.mono (f1.dle rh), h1, Fr.refl, q1⟩, ?_⟩
    rintro i m σ2 H2 ⟨rfl, hi, ρ2, S2, rs2, h2, f2, wc⟩
    by_cases hlt : i < xs.length
    · rw [List.drop_eq_getElem_cons hlt, wfor] at wc
      obtain ⟨hh, wc⟩ := wc
      have dl := f2.dle h1
      refine .inr ⟨wk.goes i H2 S2 hlt dl h2 hh, fun σ H => ∃ ρ S, RS N H σ ρ ∧ RH N H S ∧ Fr S1 H1 S H ∧ wfor h (wTurn is w1 T) (xs.drop (i + 1)) ρ S T.nx, fun σ' H' n => ⟨xs.length - (i + 1), by omega, rfl, hlt, n⟩, fun x H3 y => ?_⟩
      obtain ⟨d, ed, f3, h3, r3⟩ := wk.yields i H2 S2 x H3 hlt dl h2 hh y
      rw [List.getElem?_eq_getElem hlt] at ed
      cases ed
      obtain ⟨σ4, ρ4, rs4, w4, _, _, go⟩ := tg_at hK (rs2.mono (f3.dle h2)) r3 wc
      refine go _ ⟨(S1, H1), ρ4, S2, { nx := fun ρ' S' => wfor h (wTurn is w1 T) (xs.drop (i + 1)) ρ' S' T.nx, rt := T.rt, bk := T.nx, ct := fun ρ' S' => wfor h (wTurn is w1 T) (xs.drop (i + 1)) ρ' S' T.nx, ex := T.ex }, (fy.trans fs).trans f1, f2.trans f3, rs4, h3, rfl, w4, ?_⟩
      have back : ∀ {S' : Sta} {H' : Hp}, Fr S1 H1 S' H' → Fr Y.1 Y.2 S' H' := fun f => (fs.trans f1).trans f
      exact ⟨fun ρ' S' σ' H' rs' rh' fs' q' => ⟨ρ', S', rs', rh', fs', q'⟩, fun ρ' S' σ' H' rs' rh' fs' q' => en.nx ρ' S' σ' H' rs' rh' (back fs') q', fun ρ' S' σ' H' rs' rh' fs' q' => ⟨ρ', S', rs', rh', fs', q'⟩, fun d S' v H' rh' fs' r' q' => en.rt d S' v H' rh' (back fs') r' q'⟩
    · have e : i = xs.length := by omega
      subst e
      rw [List.drop_length, wfor] at wc
      exact .inl ⟨wk.stops H2 S2 (f2.dle h1) h2 wc.1, en.nx ρ2 S2 σ2 H2 rs2 h2 ((fs.trans f1).trans f2) wc.2⟩
def hsLock (w : Ws) : Ws := fun ρ S T => ∃ a kvs, S a = some (.dic kvs) ∧ ∀ fu, w ρ (ups S a (.dicF kvs fu)) { nx := fun ρ' S' => S' a = some (.dicF kvs fu) ∧ T.nx ρ' (ups S' a (.dic kvs)), rt := fun d S' => S' a = some (.dicF kvs fu) ∧ T.rt d (ups S' a (.dic kvs)), bk := fun ρ' S' => S' a = some (.dicF kvs fu) ∧ T.bk ρ' (ups S' a (.dic kvs)), ct := fun ρ' S' => S' a = some (.dicF kvs fu) ∧ T.ct ρ' (ups S' a (.dic kvs)), ex := T.ex }
theorem hs_lock (hs : PS X st (tSs N Z Ex w)) : PS X st (tSs N Z Ex (hsLock w)) := psimp (ps_lock hs) fun D σ H ⟨Y, ρ, S, T, fy, fs, rs, rh, ex, ⟨a, kvs, es, q⟩, en⟩ => by
  obtain ⟨ws, h, ek, r⟩ := at_dic rh es
  refine ⟨a, .dK ws, h, trivial, fun od => ⟨Y, ρ, _, { nx := fun ρ' S' => S' a = some (.dicF kvs (.frz od (.dK ws))) ∧ T.nx ρ' (ups S' a (.dic kvs)), rt := fun d S' => S' a = some (.dicF kvs (.frz od (.dK ws))) ∧ T.rt d (ups S' a (.dic kvs)), bk := fun ρ' S' => S' a = some (.dicF kvs (.frz od (.dK ws))) ∧ T.bk ρ' (ups S' a (.dic kvs)), ct := fun ρ' S' => S' a = some (.dicF kvs (.frz od (.dK ws))) ∧ T.ct ρ' (ups S' a (.dic kvs)), ex := T.ex }, fy, fs.trans (Fr.put es), rs.mono (dle_put h rfl), rh.lock h ek r od, ex, q (.frz od (.dK ws)), ?_⟩⟩
  exact ⟨fun ρ' S' σ' H' rs' rh' f' ⟨e1, q⟩ => by
      obtain ⟨g1, g2, g3⟩ := rh'.unlock e1
      exact ⟨g1, en.nx _ _ _ _ (rs'.mono g3) g2 (f'.trans (Fr.put e1)) q⟩, fun ρ' S' σ' H' rs' rh' f' ⟨e1, q⟩ => by
      obtain ⟨g1, g2, g3⟩ := rh'.unlock e1
      exact ⟨g1, en.bk _ _ _ _ (rs'.mono g3) g2 (f'.trans (Fr.put e1)) q⟩, fun ρ' S' σ' H' rs' rh' f' ⟨e1, q⟩ => by
      obtain ⟨g1, g2, g3⟩ := rh'.unlock e1
      exact ⟨g1, en.ct _ _ _ _ (rs'.mono g3) g2 (f'.trans (Fr.put e1)) q⟩, fun d S' v H' rh' f' r' ⟨e1, q⟩ => by
      obtain ⟨g1, g2, g3⟩ := rh'.unlock e1
      exact ⟨g1, en.rt _ _ _ _ g2 (f'.trans (Fr.put e1)) (RD.mono g3 _ _ r') q⟩⟩
theorem hs_lock2 (hs : PS X st (tSs N Z Ex w)) : PS X st (tSs N Z Ex (fun ρ S T => w ρ S T ∨ hsLock w ρ S T)) := ⟨fun pins s σ H D I q => by
  obtain ⟨Y, ρ, S, T, fy, fs, rs, rh, ex, q | q, en⟩ := q
  · exact hs.run pins s σ H D I ⟨Y, ρ, S, T, fy, fs, rs, rh, ex, q, en⟩
  · exact (hs_lock hs).run pins s σ H D I ⟨Y, ρ, S, T, fy, fs, rs, rh, ex, q, en⟩⟩
end
section
variable {N : Nm} {Z : Sta × Hp} {X : Cx} {S S' S1 : Sta} {H H' H1 H0 : Hp} {Q : VK} {Qh : K} {σ : L2.St} {ρ : Env} {pos p pos' tpos : Pos} {a b c e o tg iter elt : Expr} {Ex : D → Env → Sta → Prop} {w w1 w2 : Ws} {is : List Nat} {st : Stmt} {es : List Expr} {ws wz : Wps} {kws : List Keyword}
theorem pkimp {t t' : TA} (h : PK X kws t) (i : ∀ σ H Q, t' σ H Q → t σ H Q) : PK X kws t' := ⟨fun p pins s σ H Q I q => h.run p pins s σ H Q I (i σ H Q q)⟩
theorem hk_nil : PK X [] (tA N Z fun _ S Q => Q [] S) := pkimp pk_nil fun σ H Q ⟨ρ, S, Ql, rs, rh, fz, w, k⟩ => k [] S [] H Fr.refl rh .nil w
theorem hk_cons {wa : Wp} {kw : Keyword} (h : PE X kw.value (tOf N Z wa)) (hr : PK X kws (tA N Z wz)) : PK X (kw :: kws) (tA N Z (hCons wa wz)) := by
  obtain ⟨nm, e, kp⟩ := kw
  exact pkimp (pk_cons h hr) fun σ H Q ⟨ρ, S, Ql, rs, rh, fz, w, k⟩ => ⟨ρ, S, _, rs, rh, fz, w, fun x S1 v H1 f h1 r q =>
    ⟨ρ, S1, _, rs.mono (f.dle rh), h1, fz.trans f, q, fun ds S2 vs H2 f2 h2 r2 q2 => k (x :: ds) S2 (v :: vs) H2 (f.trans f2) h2 (.cons (RD.mono (f2.dle h1) _ _ r) r2) q2⟩⟩
def kwN (kws : List Keyword) : List Str := kws.filterMap (·.arg)
def kwAll (kws : List Keyword) : Bool := kws.all (·.arg.isSome)
theorem kw_all {env : PySem.Env} : ∀ {kws : List Keyword}, kwAll kws = true → (backToKw pos (keywordEach kws env)).all (·.1.isSome) = true
  | [], _ => rfl
  | ⟨nm, v, kp⟩ :: r, h => by
    simp only [kwAll, List.all_cons, Bool.and_eq_true] at h
    show (nm.isSome && (backToKw pos (keywordEach r env)).all (·.1.isSome)) = true
    rw [kw_all (kws := r) h.2, h.1]; rfl
theorem kw_none {env : PySem.Env} : ∀ {kws : List Keyword}, kwAll kws = true → (backToKw pos (keywordEach kws env)).any (·.1.isNone) = false
  | [], _ => rfl
  | ⟨nm, v, kp⟩ :: r, h => by
    simp only [kwAll, List.all_cons, Bool.and_eq_true] at h
    show (nm.isNone || (backToKw pos (keywordEach r env)).any (·.1.isNone)) = false
    rw [kw_none (kws := r) h.2]
    cases nm with
    | none => cases h.1
    | some _ => rfl
theorem kw_names {pos : Pos} {env : PySem.Env} : ∀ (kws : List Keyword), (backToKw pos (keywordEach kws env)).filterMap (·.1) = kwN kws
  | [] => rfl
  | ⟨nm, v, kp⟩ :: r => by
    have ih := kw_names (pos := pos) (env := env) r
    cases nm with
    | none => exact ih
    | some x => show x :: (backToKw pos (keywordEach r env)).filterMap (·.1) = x :: kwN r; rw [ih]
structure KB (N : Nm) (K : PySem.W.Frag) (fd : FuncData) (ps : List Str) (n : Nat) (ks : List Str) (sh : Shp) : Prop where
  ok : ∃ g gV, KBn K fd ps n ks g gV ∧ ∀ H ds zs vs us, RDs N H ds vs → RDs N H zs us → vs.length = n → us.length = ks.length → RDs N H (place sh (ds ++ zs)) (gV vs us)
structure CallOkK (N : Nm) (C : Orc) (P : Program) (w : World) (K : PySem.W.Frag) (mg : Str → Option Value) (base : Heap) (A : Around) (f n : Nat) (ks : List Str) (sh : Shp) : Prop where
  run : ∃ k fd ps, FnOk P w K mg base (L2C.CX P w) k (N.fa f) fd ps (spF N C f) ∧ Room k A ∧ KB N K fd ps n ks sh
theorem run_fnK {CX : CXT} {k n : Nat} {f : Addr} {fd : FuncData} {ps ks : List Str} {sp : Sp} {E : XK} {g : List Value → List Value → List Value} {gV : List V → List V → List V} {pins : List (Addr × Obj)} {s : Shared} {us zs : List Value} {vs vz : List V} (F : FnOk X.prog X.w X.K X.mg X.base CX k f fd ps sp) (hr : Room k X.A) (hb : KBn X.K fd ps n ks g gV) (hx : PassesAt CX X σ E)
    (I : Inv X pins σ H s) (r : Vals vs us) (rz : Vals vz zs) (l1 : vs.length = n) (l2 : vz.length = ks.length) (h : sp (gV vs vz) H Q E) : wpAny (model X.prog X.w) X.A (call (.ref f) us (ks.zip zs)) (EP X pins σ Q) X.xe s := by
  refine wpAny_call (codeAny_mono (F.run X.A X.stack s H ⟨us, ks.zip zs⟩ (g us zs) (gV vs vz) Q E hr I.env0 (hb.to s us zs I.kIn (r.length.symm.trans l1) (rz.length.symm.trans l2)) (hb.rel r rz) h) fun res s' hq => ?_)
  cases res with
  | error er => exact hx pins H s er s' I hq
  | ok fl => cases fl with
    | ret u => exact I.after hq
    | next => exact False.elim hq
    | brk => exact False.elim hq
    | cont => exact False.elim hq
def tCallX (n m : Nat) (sp : Sp) (gV : List V → List V → List V) (E : L2.St → XK) (t tk : TA) : TE := fun σ H Q => t σ H fun vs H1 => tk σ H1 fun zs H2 => vs.length = n ∧ zs.length = m ∧ sp (gV vs zs) H2 Q (E σ)
theorem pe_callX {CX : CXT} {k n : Nat} {f : Addr} {fd : FuncData} {ps : List Str} {sp : Sp} {E : L2.St → XK} {g : List Value → List Value → List Value} {gV : List V → List V → List V} {x : Str} {t tk : TA} (F : FnOk X.prog X.w X.K X.mg X.base CX k f fd ps sp) (hr : Room k X.A) (hg : Gl X x) (hm : X.mg x = some (.ref f)) (hk : PySem.W.keepIn X.K (.ref f) = true)
    (hb : KBn X.K fd ps n (kwN kws) g gV) (hx : ∀ σ, PassesAt CX X σ (E σ)) (ha : PA X (e :: es) t) (hkw : PK X kws tk) (hall : kwAll kws = true) (hdb : (x == ("__debug__" : Str)) = false) (pl : (e :: es).all plainA = true) :
    PE X (.Call (.Name x p) (e :: es) kws pos) (tCallX n (kwN kws).length sp gV E t tk) := by
  refine ⟨fun pins s σ H Q I h => ?_⟩
  refine wpAny_Call_Name_kw (ld_glob I hg hm ?_ hdb)
  simp only [List.all_cons, Bool.and_eq_true] at pl
  refine PySem.W.callWith_KW (h₀ := X.base) I.ok.mod.kin hk (kw_all hall) (thn (ha.run pos pins s σ H _ I h) fun us s1 ⟨vs, H1, I1, r, q⟩ => ?_) ?_ (starEach_plain _ pl.1)
  · refine thn (hkw.run pos pins s1 σ H1 _ I1 q) fun zs s2 ⟨vz, H2, I2, rz, l1, l2, q2⟩ => ⟨I2.kIn, ?_⟩
    rw [kw_names]
    exact run_fnK F hr hb (hx σ) I2 r rz l1 l2 q2
  · rw [kw_none hall, star_none _ (by simp only [List.all_cons, Bool.and_eq_true]; exact pl)]; rfl
theorem pe_callX0 {CX : CXT} {k n : Nat} {f : Addr} {fd : FuncData} {ps : List Str} {sp : Sp} {E : L2.St → XK} {g : List Value → List Value → List Value} {gV : List V → List V → List V} {x : Str} {tk : TA} (F : FnOk X.prog X.w X.K X.mg X.base CX k f fd ps sp) (hr : Room k X.A) (hg : Gl X x) (hm : X.mg x = some (.ref f)) (hk : PySem.W.keepIn X.K (.ref f) = true)
    (hb : KBn X.K fd ps n (kwN kws) g gV) (hx : ∀ σ, PassesAt CX X σ (E σ)) (hkw : PK X kws tk) (hall : kwAll kws = true) (hdb : (x == ("__debug__" : Str)) = false) :
    PE X (.Call (.Name x p) [] kws pos) (tCallX n (kwN kws).length sp gV E tNil tk) := by
  refine ⟨fun pins s σ H Q I h => ?_⟩
  refine wpAny_Call_Name_kw (ld_glob I hg hm ?_ hdb)
  refine PySem.W.callWith_KW0 (h₀ := X.base) I.ok.mod.kin hk (kw_all hall) (thn (hkw.run pos pins s σ H _ I h) fun zs s2 ⟨vz, H2, I2, rz, l1, l2, q2⟩ => ⟨I2.kIn, ?_⟩) ?_
  · rw [kw_names]
    exact run_fnK (us := []) F hr hb (hx σ) I2 .nil rz l1 l2 q2
  · rw [kw_none hall]; rfl
def hCallK (C : Orc) (f n m : Nat) (sh : Shp) (ws wz : Wps) (Ex : D → Env → Sta → Prop) : Wp := fun ρ S Q => ws ρ S fun ds S1 => wz ρ S1 fun zs S2 => ds.length = n ∧ zs.length = m ∧ C f (place sh (ds ++ zs)) S2 Q fun x S' => Ex x ρ S'
theorem callk_at {C : Orc} {f n : Nat} {ks : List Str} {sh : Shp} {fd : FuncData} {ps : List Str} {gV : List V → List V → List V}
    (hv : ∀ H ds zs vs us, RDs N H ds vs → RDs N H zs us → vs.length = n → us.length = ks.length → RDs N H (place sh (ds ++ zs)) (gV vs us)) (t : tOf N Z (hCallK C f n ks.length sh ws wz Ex) σ H Q) :
    tCallX n ks.length (spF N C f) gV (fun σ => WE (xOf N Z Ex) σ) (tA N Z ws) (tA N Z wz) σ H Q := by
  obtain ⟨ρ, S, Qh, rs, rh, fz, w, kn⟩ := t
  refine ⟨ρ, S, _, rs, rh, fz, w, fun ds S1 vs H1 f1 h1 r q => ?_⟩
  refine ⟨ρ, S1, _, rs.mono (f1.dle rh), h1, fz.trans f1, q, fun zs S2 us H2 f2 h2 r2 ⟨l1, l2, q2⟩ => ?_⟩
  have m1 : vs.length = n := r.length.symm.trans l1
  have m2 : us.length = ks.length := r2.length.symm.trans l2
  exact ⟨m1, m2, _, S2, Qh, _, hv H2 _ _ _ _ (r.mono' (f2.dle h1)) r2 m1 m2, h2, q2, (kn.step f1).step f2, KnX.of ((rs.mono (f1.dle rh)).mono (f2.dle h1)) h2 ((fz.trans f1).trans f2)⟩
theorem he_callk {C : Orc} {f n : Nat} {sh : Shp} {x : Str} (tk : L2C.Takes X (xOf N Z Ex)) (co : CallOkK N C X.prog X.w X.K X.mg X.base X.A f n (kwN kws) sh) (hg : Gl X x) (hm : X.mg x = some (.ref (N.fa f))) (hk : PySem.W.keepIn X.K (.ref (N.fa f)) = true)
    (hdb : (x == ("__debug__" : Str)) = false)
    (ha : PA X (e :: es) (tA N Z ws)) (hkw : PK X kws (tA N Z wz)) (hall : kwAll kws = true) (pl : (e :: es).all plainA = true) : PE X (.Call (.Name x p) (e :: es) kws pos) (tOf N Z (hCallK C f n (kwN kws).length sh ws wz Ex)) := by
  obtain ⟨k, fd, ps, F, hr, kb⟩ := co.run
  obtain ⟨g, gV, hb, hv⟩ := kb.ok
  exact pimp (pe_callX F hr hg hm hk hb (fun σ => L2C.passAt tk σ) ha hkw hall hdb pl) fun σ H Q t => callk_at (fd := fd) (ps := ps) hv t
theorem he_callk0 {C : Orc} {f : Nat} {sh : Shp} {x : Str} (tk : L2C.Takes X (xOf N Z Ex)) (co : CallOkK N C X.prog X.w X.K X.mg X.base X.A f 0 (kwN kws) sh) (hg : Gl X x) (hm : X.mg x = some (.ref (N.fa f))) (hk : PySem.W.keepIn X.K (.ref (N.fa f)) = true)
    (hdb : (x == ("__debug__" : Str)) = false)
    (hkw : PK X kws (tA N Z wz)) (hall : kwAll kws = true) : PE X (.Call (.Name x p) [] kws pos) (tOf N Z (hCallK C f 0 (kwN kws).length sh (fun _ S Q => Q [] S) wz Ex)) := by
  obtain ⟨k, fd, ps, F, hr, kb⟩ := co.run
  obtain ⟨g, gV, hb, hv⟩ := kb.ok
  refine pimp (pe_callX0 F hr hg hm hk hb (fun σ => L2C.passAt tk σ) hkw hall hdb) fun σ H Q t => ?_
  obtain ⟨ρ, S, Qh, rs, rh, fz, w, kn⟩ := t
  refine ⟨ρ, S, _, rs, rh, fz, w, fun zs S2 us H2 f2 h2 r2 ⟨_, l2, q2⟩ => ?_⟩
  have m2 : us.length = (kwN kws).length := r2.length.symm.trans l2
  exact ⟨rfl, m2, _, S2, Qh, _, hv H2 [] _ [] _ .nil r2 rfl m2, h2, q2, kn.step f2, KnX.of (rs.mono (f2.dle rh)) h2 (fz.trans f2)⟩
def parOk (a b : Expr) : Bool := plainA a && plainA b && !(foldedForSure 8 a && foldedForSure 8 b) && !(constantsAlone 8 a && constantsAlone 8 b)
theorem swapped_par {env : PySem.Env} {x y : Str} {px py pt pt2 : Pos} {kt k2 : Nat} (hk : env.scope.kind = .function) (hx : env.scope.names.lookup x = some .local) (hy : env.scope.names.lookup y = some .local) (hl : px.line = py.line) (hne : x ≠ y) (ok : parOk a b = true) :
    swappedStores [.Tuple [.Name x px, .Name y py] kt pt] (.Tuple [a, b] k2 pt2) env = pure (some [x, y]) := by
  simp only [parOk, Bool.and_eq_true, Bool.not_eq_true', Bool.and_eq_false_iff] at ok
  obtain ⟨⟨⟨o1, o2⟩, o3⟩, o4⟩ := ok
  have kx : env.kindOf x = some .local := hx
  have ky : env.kindOf y = some .local := hy
  have hb : env.blockKind = .function := by unfold PySem.Env.blockKind; rw [hk]; rfl
  have n1 : (y == x) = false := by simpa using Ne.symm hne
  have n2 : (x == y) = false := by simpa using hne
  have f1 : ¬ ([a, b].all (foldedForSure 8) = true) := by
    rcases o3 with h | h <;> simp [h]
  have f2 : ¬ ([a, b].all (constantsAlone 8) = true) := by
    rcases o4 with h | h <;> simp [h]
  have er : ([x, y] : List Str).eraseDups = [x, y] := by
    simp [List.eraseDups_cons, n1]
  unfold swappedStores
  refine (if_neg ?_).trans ((if_neg ?_).trans ?_)
  · simp [hb]
  · clear f1 f2 o3 o4
    cases a <;> first | (cases o1; done) | (cases b <;> first | (cases o2; done) | (intro h; cases h))
  · simp only [List.filterMap_cons, List.filterMap_nil, kx, ky, List.head?_cons, Option.map_some, Option.getD_some, Expr.pos]
    simp only [beq_self_eq_true, Bool.true_and, if_true, hl, er]
    refine (if_neg (by simp)).trans ((if_neg f1).trans ?_)
    rw [if_neg f2]
    try rfl
theorem hs_par {we wf : Wx} {i j : Nat} {x y : Str} {px py pt pt2 : Pos} {kt k2 : Nat} (hc : X.calm = true) (hN : X.N.Nodup) (hi : X.N[i]? = some x) (hj : X.N[j]? = some y) (hij : i ≠ j) (hk : X.env.scope.kind = .function) (hx : X.env.scope.names.lookup x = some .local) (hy : X.env.scope.names.lookup y = some .local) (hl : px.line = py.line)
    (ok : parOk a b = true) (ha : PE X a (tOf N Z (we Ex))) (hb : PE X b (tOf N Z (wf Ex))) :
    PS X (.Assign [.Tuple [.Name x px, .Name y py] kt pt] (.Tuple [a, b] k2 pt2) pos) (tSs N Z Ex fun ρ S T => we T.ex ρ S fun u S1 => wf T.ex ρ S1 fun v S2 => T.nx ((ρ.set i (some u)).set j (some v)) S2) := by
  have ok' := ok
  simp only [parOk, Bool.and_eq_true] at ok'
  have hne : x ≠ y := fun z => hij (nodup_ix hN hi (z ▸ hj))
  refine psimp (ps_par hc hN hi hj hij hx hy (pa_cons ha (pa_cons hb pa_nil (starEach_plain _ ok'.1.1.2)) (starEach_plain _ ok'.1.1.1)) (swapped_par hk hx hy hl hne ok) (by rfl)) fun D σ H t => ?_
  refine eat (g := fun ρ u S1 T => wf T.ex ρ S1 fun v S2 => T.nx ((ρ.set i (some u)).set j (some v)) S2) t fun Y ρ S1 H1 d v T fy f rs rh r ex q en => ?_
  subst ex
  refine ⟨ρ, S1, _, rs, rh, fy.trans f, q, fun y S2 u H2 f2 h2 r2 q2 => ?_⟩
  exact ⟨v, u, rfl, en.nx _ S2 _ H2 (((rs.mono (f2.dle rh)).set i (RD.mono (f2.dle rh) _ _ r)).set j r2) h2 (f.trans f2) q2⟩
theorem hs_vix (hK : N.K = X.K) (hu : X.A.units + 1 < cLine) {we wa wb : Wx} {j : Nat} {x : Str} {px pt : Pos} {kt : Nat} (hc : X.calm = true) (hN : X.N.Nodup) (hj : X.N[j]? = some x) (hl : Loc X.env.scope x) (hf : X.fn x = true ∨ X.env.scope.names.lookup x = some .local)
    (he : PE X e (tOf N Z (we Ex))) (ha : PE X a (tOf N Z (wa Ex))) (hb : PE X b (tOf N Z (wb Ex))) (pl : plainIx b = true) (nt : ∀ es k p, e ≠ .Tuple es k p) (hs : swapsWith e none pos.line X.env = pure false) (hs2 : swapsWithSole [.Tuple [.Name x px, .Subscript a b pos'] kt pt] e pos.line X.env = pure false) :
    PS X (.Assign [.Tuple [.Name x px, .Subscript a b pos'] kt pt] e pos) (tSs N Z Ex fun ρ S T => we T.ex ρ S fun d S1 => ∃ d1 d2, d = .tup [d1, d2] ∧ wa T.ex (ρ.set j (some d1)) S1 fun u S2 => wb T.ex (ρ.set j (some d1)) S2 fun v S3 => wsetix u v d2 S3 fun S4 => T.nx (ρ.set j (some d1)) S4) := by
  have hw : swappedStores [.Tuple [.Name x px, .Subscript a b pos'] kt pt] e X.env = pure none := by
    cases e <;> first | rfl | exact absurd rfl (nt _ _ _)
  refine psimp (ps_asg he (pg_tup (n := 2) hc (pgs_cons (pg_name hN hj hl hf) (pgs_cons (pg_sub ha hb (set_W (N := N) hu) fun v => assign_sub pl) pgs_nil))) hs2 hw rfl) fun D σ H t => ?_
  refine eat (g := fun ρ d S1 T => ∃ d1 d2, d = .tup [d1, d2] ∧ wa T.ex (ρ.set j (some d1)) S1 fun u S2 => wb T.ex (ρ.set j (some d1)) S2 fun v S3 => wsetix u v d2 S3 fun S4 => T.nx (ρ.set j (some d1)) S4) t fun Y ρ S1 H1 d v T fy f rs rh r ex q en => ?_
  subst ex
  obtain ⟨d1, d2, rfl, q⟩ := q
  obtain ⟨ad, vs, rfl, h1, r1⟩ := rd_tup r
  obtain ⟨v1, t1, rfl, g1, r2⟩ := r1.uncons
  obtain ⟨v2, t2, rfl, g2, r3⟩ := r2.uncons
  have e0 := r3.unnil
  subst e0
  refine ⟨ad, [v1, v2], rfl, hK ▸ h1, rfl, v1, [v2], rfl, v2, [], rfl, ?_⟩
  have rs1 := rs.set j g1
  refine ⟨ρ.set j (some d1), S1, _, rs1, rh, fy.trans f, q, fun x S2 u H2 f2 h2 r2 q2 => ?_⟩
  refine ⟨ρ.set j (some d1), S2, _, rs1.mono (f2.dle rh), h2, (fy.trans f).trans f2, q2, fun y S3 u2 H3 f3 h3 r3 q3 => ?_⟩
  exact ⟨x, y, d2, S3, _, h3, RD.mono (f3.dle h2) _ _ r2, r3, RD.mono (f3.dle h2) _ _ (RD.mono (f2.dle rh) _ _ g2), q3, fun S4 H4 f4 h4 q4 =>
    ⟨rfl, en.nx _ S4 _ H4 (((rs1.mono (f2.dle rh)).mono (f3.dle h2)).mono (f4.dle h3)) h4 (((f.trans f2).trans f3).trans f4) q4⟩⟩
theorem minOf_eq : ∀ (xs : List Int) (x : Int), PySem.W.minOf x xs = minI (x :: xs)
  | [], x => rfl
  | y :: r, x => by
    unfold PySem.W.minOf
    rw [List.foldl_cons]
    have ih := minOf_eq r (if PySem.W.DatumOrd.lt y x = true then y else x)
    unfold PySem.W.minOf at ih
    rw [ih]
    have hd : PySem.W.DatumOrd.lt y x = true ↔ y < x := by
      show decide (y < x) = true ↔ _
      simp
    have gen : ∀ (r : List Int) (a b : Int), minI (min a b :: r) = min a (minI (b :: r)) := fun r => by
      cases r with
      | nil => intro a b; rfl
      | cons c r => intro a b; show min (min a b) (minI (c :: r)) = min a (min b (minI (c :: r))); omega
    rw [show (if PySem.W.DatumOrd.lt y x = true then y else x) = min x y by
      by_cases h : y < x
      · rw [if_pos (hd.mpr h)]; omega
      · rw [if_neg (fun z => h (hd.mp z))]; omega, gen]
    rfl
theorem holdAll_of : ∀ {ns : List Int} {its : List Value} {h : Heap}, Vals (ns.map V.int) its → PySem.W.HoldAll h its ns
  | [], its, h, r => by cases r; exact PySem.W.HoldAll.nil
  | n :: ns, its, h, r => by
    rw [List.map_cons] at r
    cases r with
    | cons e t =>
      obtain ⟨tk, rfl⟩ := e
      exact PySem.W.HoldAll.cons (PySem.W.holds_int n tk) (holdAll_of t)
theorem cr_minD (hc : X.calm = true) (hu : X.A.units + 1 < cLine) : CallRK X (.builtin "min") [Str.ofString "default"] (fun vs zs H Q => ∃ (a : Addr) (ns : List Int) (d : V), vs = [.ref a] ∧ zs = [d] ∧ SqL X.K H a (ns.map V.int) ∧ (ns = [] → Q d H) ∧ (ns ≠ [] → Q (.int (minI ns)) H)) := by
  intro pins s σ H vs zs us ws Q I r rz h
  obtain ⟨a, ns, d, rfl, rfl, hs, q1, q2⟩ := h
  obtain ⟨u, rfl, ru⟩ := vals1 r
  obtain ⟨w, rfl, rw'⟩ := vals1 rz
  cases ru
  obtain ⟨its, rv, pl, hz⟩ := I.list hs
  refine PySem.W.min_list_datum_default (xs := ns) (I.ok.hd hc) pl.isList (holdAll_of rv) (by show X.A.units + 1 + 0 < cLine; omega) (fun e h' tk k => ?_) fun y ys i v h' tk e hi hv k => ?_
  · exact ⟨d, H, I.kept (t' := tk) k, rw', q1 e⟩
  · subst e
    obtain ⟨as, hr⟩ := hv
    have hr : Reads h' v (.int (PySem.W.minOf y ys)) as := hr
    cases hr with
    | int n t => exact ⟨.int (PySem.W.minOf y ys), H, I.kept (t' := tk) k, ⟨t, rfl⟩, by rw [minOf_eq]; exact q2 (by simp)⟩
theorem he_minD (hK : N.K = X.K) (hc : X.calm = true) (hu : X.A.units + 1 < cLine) {wa : Wp} {C : Orc} {kp kp2 : Pos} {kc : Nat} (hg : Gl X "min") (hm : X.mg "min" = none) (ha : PE X a (tOf N Z wa)) (pl : plainA a = true) :
    PE X (.Call (.Name "min" p) [a] [⟨some "default", .Constant .none kc kp2, kp⟩] pos) (tOf N Z fun ρ S Q => wa ρ S fun x S1 => wb1 C .minD x S1 Q) := by
  have hb := bval_ok .min rfl
  refine pimp (pe_callBK (cr_minD hc hu) hg hm hb.2.1 (pa_cons ha pa_nil (starEach_plain _ pl)) (pk_cons pe_non pk_nil) hb.2.2.1 hb.2.2.2 (by rw [starEach_plain _ pl]; rfl) (star_none _ (by simp [pl])) rfl rfl rfl) fun σ H Q t => ?_
  refine tOf.one (g := fun _ x S1 Q => wb1 C .minD x S1 Q) t fun ρ x S1 v H1 Qh rs rh fz rx g kn => ?_
  obtain ⟨xs, ns, e1, e2, q⟩ := g
  obtain ⟨ad, vs, rfl, h, r1⟩ := itemsL_at hK rh rx e1
  rw [rds_ints r1 e2] at h
  refine ⟨ad, ns, .non, rfl, rfl, h, fun e => ?_, fun e => ?_⟩
  · subst e; exact kn.at rh mk_non q
  · cases ns with
    | nil => exact absurd rfl e
    | cons _ _ => exact kn.at rh mk_int q
end
inductive GV where
  | con (d : D)
  | fn (f : Nat)
  | cls (c : Nat)
  | tab (kvs : List (Str × D))
structure Tb where
  glob : List (Str × GV)
  blts : List Str
  calls : List (Nat × Nat × List D)
  kcalls : List (Nat × Nat × List Str × Shp) := []
  raises : List (Nat × Nat × List Nat × List (Sum Nat D)) := []
  exms : List (Str × List (Nat × Bool)) := []
  iss : List (Str × List (Nat × Bool)) := []
  flds : List (Nat × Str) := []
  xcls : List Nat := []
  ofl : List (Nat × Str) := []
  news : List (Nat × Nat × List Str × Shp) := []
  meths : List (Nat × Str × List (Nat × Shp) × Nat × List Str) := []
  owns : List (Str × List Nat) := []
  fvs : List Nat := []
  hot : Bool := false
  xv : Option Nat := none
  hots : List (Nat × List (Nat × List Str)) := []
  xf : Bool := true
  pk : Bool := false
def Tb.suite (T : Tb) (i : Option Nat) : Tb := ⟨T.glob, T.blts, T.calls, T.kcalls, T.raises, T.exms, T.iss, T.flds, T.xcls, T.ofl, T.news, T.meths, T.owns, T.fvs, true, i, T.hots, true, false⟩
def Tb.hdef (T : Tb) : Tb := ⟨T.glob, T.blts, T.calls, T.kcalls, T.raises, T.exms, T.iss, T.flds, T.xcls, T.ofl, T.news, T.meths, T.owns, T.fvs, true, some 0, [], false, true⟩
structure Sx where
  sc : Scope
  ns : List Str
  fnB : Str → Bool
def sEq (a b : Str) : Bool := a.cps.toList == b.cps.toList
theorem sEq_ok {a b : Str} (h : sEq a b = true) : a = b := by
  unfold sEq at h
  have h' := eq_of_beq h
  cases a; cases b
  simp only [Str.mk.injEq]
  exact Array.toList_inj.mp h'
def sIn (a : Str) : List Str → Bool
  | [] => false
  | b :: r => sEq a b || sIn a r
theorem sIn_ok {a : Str} : ∀ {l : List Str}, sIn a l = true → a ∈ l
  | [], h => by cases h
  | b :: r, h => by
    unfold sIn at h
    rcases Bool.or_eq_true _ _ ▸ h with h | h
    · rw [sEq_ok h]; exact List.mem_cons_self
    · exact List.mem_cons_of_mem _ (sIn_ok h)
def sLook {α : Type} (a : Str) : List (Str × α) → Option α
  | [] => none
  | (b, x) :: r => if sEq a b then some x else sLook a r
theorem sLook_ok {α : Type} {a : Str} {x : α} : ∀ {l : List (Str × α)}, sLook a l = some x → (a, x) ∈ l
  | [], h => by cases h
  | (b, y) :: r, h => by
    unfold sLook at h
    split at h
    · rename_i e
      cases h
      rw [sEq_ok e]
      exact List.mem_cons_self
    · exact List.mem_cons_of_mem _ (sLook_ok h)
def nsAt (ns : List Str) (i : Nat) (x : Str) : Bool := match ns[i]? with
  | some y => sEq y x
  | none => false
theorem nsAt_ok {ns : List Str} {i : Nat} {x : Str} (h : nsAt ns i x = true) : ns[i]? = some x := by
  unfold nsAt at h
  split at h
  · rename_i y e
    rw [e, sEq_ok h]
  · cases h
def okName (x : Str) : Bool := !(x == ("__debug__" : Str)) && !(x == ("__classdict__" : Str)) && !(x == ("__name__" : Str))
theorem okName_ok {x : Str} (h : okName x = true) : (x == ("__debug__" : Str)) = false ∧ (x == ("__classdict__" : Str)) = false ∧ x ≠ "__name__" := by
  unfold okName at h
  simp only [Bool.and_eq_true, Bool.not_eq_true'] at h
  exact ⟨h.1.1, h.1.2, fun e => by rw [e] at h; have := h.2; simp at this⟩
def Sx.vis (s : Sx) (x : Str) : Bool := match s.sc.names.lookup x with
  | some .local => true | some .cell => true | some .free => true | _ => false
def Sx.gl (s : Sx) (x : Str) : Bool := match s.sc.names.lookup x with
  | some .globalImplicit => true | _ => false
def Sx.loc (s : Sx) (x : Str) : Bool := match s.sc.names.lookup x with
  | some .local => true | some .cell => s.fnB x | _ => false
def topN : Str := Str.ofString "?"
structure In (X : Cx) (s : Sx) : Prop where
  sc : X.env.scope = s.sc
  ns : X.N = s.ns
  fn : ∀ x, X.fn x = s.fnB x
  top : s.fnB topN = true → X.stack = X.env :: X.outer ∧ X.env.frame = some X.env.locals
def blkT (N : List Str) (sc scope : Scope) (own : List (Str × Nat)) : Bool := blkC N sc scope own && !(scope.names.lookup topN == some .cell)
theorem blkT_ok {N : List Str} {sc scope : Scope} {own : List (Str × Nat)} (h : blkT N sc scope own = true) : blkC N sc scope own = true ∧ (scope.names.lookup topN == some NameKind.cell) = false := by
  unfold blkT at h
  rw [Bool.and_eq_true, Bool.not_eq_true'] at h
  exact h
theorem In.vis {X : Cx} {s : Sx} (i : In X s) {x : Str} (h : s.vis x = true) : Vis X.env.scope x := by
  unfold Sx.vis at h
  rw [← i.sc] at h
  unfold Vis
  split at h
  · exact .inl (by assumption)
  · exact .inr (.inl (by assumption))
  · exact .inr (.inr (by assumption))
  · cases h
theorem In.gl {X : Cx} {s : Sx} (i : In X s) {x : Str} (h : s.gl x = true) : Gl X x := by
  unfold Sx.gl at h
  rw [← i.sc] at h
  show X.env.scope.names.lookup x = _
  split at h
  · assumption
  · cases h
theorem In.loc {X : Cx} {s : Sx} (i : In X s) {x : Str} (h : s.loc x = true) : Loc X.env.scope x ∧ (X.fn x = true ∨ X.env.scope.names.lookup x = some .local) := by
  unfold Sx.loc at h
  rw [← i.sc] at h
  split at h
  · exact ⟨.inl (by assumption), .inr (by assumption)⟩
  · exact ⟨.inr (by assumption), .inl ((i.fn x).trans h)⟩
  · cases h
def ThrB (t : List Value) : Prop := ∀ self : Value, refuseLoop self "__setattr__" t = pure ()
theorem thr_refs {t : List Value} (h : ThrB t) : ∀ rs : List Addr, ThrB (rs.map Value.ref ++ t)
  | [] => h
  | r :: rs => fun self => by
    rw [List.map_cons, List.cons_append, refuseLoop_ref]
    exact thr_refs h rs self
theorem thr_val : ThrB [.type "ValueError", .type "Exception", .type "BaseException", .type "object"] := fun self => F.store_ValueError.passes self
theorem thr_look : ThrB [.type "LookupError", .type "Exception", .type "BaseException", .type "object"] := fun self => F.store_LookupError.passes self
theorem refs_has (Y : String) (t : List Value) : ∀ rs : List Addr, (rs.map Value.ref ++ t).contains (.type Y) = t.contains (.type Y)
  | [] => rfl
  | r :: rs => by
    rw [List.map_cons, List.cons_append, List.contains_cons, refs_has Y t rs]
    rfl
structure OxC (K : PySem.W.Frag) (C : Addr) : Prop where
  cls : ∃ (nm q : Str) (N : Addr) (bs : List Value) (rs : List Addr) (t : List Value) (sn : List Str) (sub : List Value) (ab : Bool) (col : Option Bool) (dd : Option Addr) (k0 k1 k2 k3 k5 : Option Value) (B newId initId : String),
    K.lookup C = some (excClassObj nm q C N bs (rs.map Value.ref ++ t) true sn sub ab col dd k0 k1 k2 k3 k5 newId) ∧ ExcBaseFacts B newId initId t ∧ ThrB t ∧ t.contains (.type "object") = true ∧ t.isEmpty = false
  sa : PySem.W.findIn K (.ref C) "__setattr__" = some (some (.builtin "object.__setattr__"))
  exC : PySem.W.subIn K (.ref C) (.type "BaseException") = some true
  tyC : PySem.W.typeIn K (.ref C) = some (.type "type")
  kC : PySem.W.keepIn K (.ref C) = true
section
open Builtin Builtin.ObjectAttr
variable {prog : Program} {w : World} {A : Around} {E : Value → Shared → Prop} {R : Result → Shared → Prop} {hp : Heap} {g : Array GenState} {d : Drawn} {t : Nat} {os : OsState} {K : PySem.W.Frag} {f : Str} {tk : Tok} {y : Value} {e C : Addr} {fv : Array Value} {cd : ClassData}
theorem lay_first (hk : K.In hp) (he : hp.get? e = some { cls := .ref C, data := .fields fv }) (hcd : PySem.W.clsIn K C = some cd) (h1 : cd.mro.isEmpty = false) (h2 : cd.mro.contains (.type "object") = true) (h3 : ThrB cd.mro) (hd : cd.hasDict = true) (h4 : PySem.W.findIn K (.ref C) f = some none)
    (q : ∀ (h' : Heap) (tk' : Nat) (z : Addr), (∀ b o, b ≠ e → hp.get? b = some o → h'.get? b = some o) → hp.objs.size ≤ z → z ≠ e → h'.get? e = some { cls := .ref C, dict := some z, data := .fields fv } →
      h'.Ns1 z (fun n => if n = f then some y else none) → R (.ok (.ret .none)) ⟨h', g, d, tk', os⟩) :
    codeAny (model prog w) A (.call (.builtin "object.__setattr__") ⟨[.ref e, .str f tk, y], []⟩) R ⟨hp, g, d, t, os⟩ := by
  have J : PySem.W.InstAt hp e { cls := .ref C, data := .fields fv } C none := ⟨he, rfl, rfl, trivial⟩
  have hin : PySem.W.mroIn K C (.type "object") = some true := by
    unfold PySem.W.mroIn
    rw [hcd, Option.bind_some, if_neg (by rw [h1]; decide), h2]
  have hez : e ≠ hp.objs.size := Nat.ne_of_lt (Heap.lt_size he)
  have isO : PySem.W.Looks (model prog w) hp (isInstance (.ref e) (.type "object")) true := J.type.andThen (PySem.W.looks_mroIn hk hin)
  have so := F.store_object
  refine codeAny_call_builtin so.slot.plain so.entry ?_
  refine @PySem.W.check_slot (model prog w) _ _ ⟨hp, g, d, t, os⟩ "object.__setattr__" "object" "__setattr__" (.ref e) [.str f tk, y] [] _ so.kind so.split isO (so.args (.ref e) (.str f tk) y) ?_
  have lm : PySem.W.Looks (model prog w) hp (mroOf (.ref C)) cd.mro := (PySem.W.looks_clsIn hk hcd).andThen .now
  have ln : PySem.W.Looks (model prog w) hp (storeTaker? none) none := .now
  have lc : PySem.W.Looks (model prog w) hp (classData C) cd := PySem.W.looks_clsIn hk hcd
  rw [PySem.W.osa_eq, refuse_eq]
  refine wpAny_bind (wpAny_bind (J.type.at ?_))
  refine wpAny_bind (lm.at ?_)
  rw [h3 (.ref e)]
  refine wpAny_pure (wpAny_bind (J.type.at ?_))
  refine wpAny_bind ((PySem.W.looks_findIn hk h4).at ?_)
  refine wpAny_bind (ln.at ?_)
  show wpAny _ _ (storeInOwnDict (.ref e) (.ref C) (.str f tk) f y false) _ _ _
  obtain ⟨c1, c2, c3, c4, c5, c6, c7, c8, c9, c10, c11⟩ := cd
  dsimp only at hd
  subst hd
  unfold storeInOwnDict ownDictForStores
  repeat (first | with_reducible refine PySem.HandSPX.store_in_new ?_ ?_ | with_reducible refine wpAny_loadPart_at he ?_ | with_reducible refine lc.at ?_ | wp_step)
  · exact ⟨_, #[], _, (Heap.get?_update_ne _ _ _ _ hez.symm).trans (Heap.get?_push_at rfl rfl), rfl, fun u hu => absurd hu (by simp), fun _ => rfl⟩
  · intro h' tk' hn hs
    have he1 := Heap.get?_push_of_some (h := hp) { cls := .type "dict", data := .dict #[] } he
    refine q h' tk' hp.objs.size (fun b o nb ho => ?_) (Nat.le_refl _) hez.symm ?_ hn
    · have hbz : b ≠ hp.objs.size := Nat.ne_of_lt (Heap.lt_size ho)
      rw [hs.2 b hbz, Heap.get?_update_ne _ _ _ _ nb]
      exact Heap.get?_push_of_some _ ho
    · rw [hs.2 e hez]
      exact Heap.get?_update_self _ he1 rfl
theorem lay_next {z : Addr} {m0 : Str → Option Value} {ns : List Str} (hk : K.In hp) (he : hp.get? e = some { cls := .ref C, dict := some z, data := .fields fv }) (hn : hp.Ns1 z m0) (hw : Within m0 ns) (hl : ns.length ≤ 1000) (hcd : PySem.W.clsIn K C = some cd) (h1 : cd.mro.isEmpty = false)
    (h2 : cd.mro.contains (.type "object") = true) (h3 : ThrB cd.mro) (hd : cd.hasDict = true) (h4 : PySem.W.findIn K (.ref C) f = some none)
    (q : ∀ (h' : Heap) (tk' : Nat), (∀ b o, b ≠ z → hp.get? b = some o → h'.get? b = some o) → h'.Ns1 z (fun n => if n = f then some y else m0 n) → R (.ok (.ret .none)) ⟨h', g, d, tk', os⟩) :
    codeAny (model prog w) A (.call (.builtin "object.__setattr__") ⟨[.ref e, .str f tk, y], []⟩) R ⟨hp, g, d, t, os⟩ := by
  obtain ⟨oz, _, _, hoz, _, _⟩ := hn.count hw
  have J : PySem.W.InstAt hp e { cls := .ref C, dict := some z, data := .fields fv } C (some oz) := ⟨he, rfl, rfl, hoz⟩
  have hin : PySem.W.mroIn K C (.type "object") = some true := by
    unfold PySem.W.mroIn
    rw [hcd, Option.bind_some, if_neg (by rw [h1]; decide), h2]
  have isO : PySem.W.Looks (model prog w) hp (isInstance (.ref e) (.type "object")) true := J.type.andThen (PySem.W.looks_mroIn hk hin)
  have so := F.store_object
  refine codeAny_call_builtin so.slot.plain so.entry ?_
  refine @PySem.W.check_slot (model prog w) _ _ ⟨hp, g, d, t, os⟩ "object.__setattr__" "object" "__setattr__" (.ref e) [.str f tk, y] [] _ so.kind so.split isO (so.args (.ref e) (.str f tk) y) ?_
  have lm : PySem.W.Looks (model prog w) hp (mroOf (.ref C)) cd.mro := (PySem.W.looks_clsIn hk hcd).andThen .now
  have ln : PySem.W.Looks (model prog w) hp (storeTaker? none) none := .now
  have lc : PySem.W.Looks (model prog w) hp (classData C) cd := PySem.W.looks_clsIn hk hcd
  rw [PySem.W.osa_eq, refuse_eq]
  refine wpAny_bind (wpAny_bind (J.type.at ?_))
  refine wpAny_bind (lm.at ?_)
  rw [h3 (.ref e)]
  refine wpAny_pure (wpAny_bind (J.type.at ?_))
  refine wpAny_bind ((PySem.W.looks_findIn hk h4).at ?_)
  refine wpAny_bind (ln.at ?_)
  show wpAny _ _ (storeInOwnDict (.ref e) (.ref C) (.str f tk) f y false) _ _ _
  obtain ⟨c1, c2, c3, c4, c5, c6, c7, c8, c9, c10, c11⟩ := cd
  dsimp only at hd
  subst hd
  unfold storeInOwnDict ownDictForStores
  repeat (first | with_reducible refine PySem.OEX.store_in_old hn hw hl ?_ | with_reducible refine wpAny_loadPart_at he ?_ | with_reducible refine lc.at ?_ | wp_step)
  intro h' tk' hn' hs
  exact q h' tk' (fun b o nb ho => by rw [hs.2 b nb]; exact ho) hn'
end
section
variable {X : Cx} {pins : List (Addr × Obj)} {σ : L2.St} {H : Hp} {s : Shared} {a C z : Addr} {f : Str} {y : V} {u : Value} {fs : List (Str × V)} {Q : Unit → Shared → Prop} {E : Value → Shared → Prop} {A : Around}
theorem OxC.data (T : OxC X.K C) : ∃ cd, PySem.W.clsIn X.K C = some cd ∧ cd.mro.isEmpty = false ∧ cd.mro.contains (.type "object") = true ∧ ThrB cd.mro ∧ cd.hasDict = true := by
  obtain ⟨nm, q, N, bs, rs, t, sn, sub, ab, col, dd, k0, k1, k2, k3, k5, B, nid, iid, hC, F, th, ho, hne⟩ := T.cls
  refine ⟨{ name := nm, bases := bs, mro := .ref C :: (rs.map Value.ref ++ t), ns := N, qualname := q, hasDict := true, slotNames := sn, subclasses := sub, abstract := ab, collection := col, hasDel := false }, ?_, rfl, ?_, ?_, rfl⟩
  · unfold PySem.W.clsIn
    rw [hC] <;> rfl
  · rw [List.contains_cons, refs_has, ho, Bool.or_true]
  · exact thr_refs th (C :: rs)
theorem put_first (T : OxC X.K C) (I : Inv X pins σ H s) (e : H a = some (exo a C none)) (hno : PySem.W.findIn X.K (.ref C) f = some none) (ry : RelV y u)
    (h : ∀ z s', H z = none → z ≠ a → Inv X pins σ (upd (upd H z (exd z [(f, y)])) a (exo a C (some z))) s' → Q () s') : wpAny (model X.prog X.w) A (setAttr (.ref a) f u) Q E s := by
  obtain ⟨cd, hcl, c1, c2, c3, c4⟩ := T.data
  obtain ⟨t1, ho⟩ := exo_at I.hok e
  obtain ⟨hp, g, d, t, os⟩ := s
  refine PySem.W.set_plain I.kIn (od := none) ⟨ho, rfl, rfl, trivial⟩ T.sa ?_
  refine lay_first I.kIn ho hcl c1 c2 c3 c4 hno fun h' tk' z kp dn dne hx hn => ?_
  have hz := I.hok.fresh dn
  have old : ∀ {b : Addr} {o : Obj}, hp.get? b = some o → b ≠ z := fun {b o} r => Nat.ne_of_lt (Nat.lt_of_lt_of_le (Heap.lt_size r) dn)
  have nota : ∀ {b : Addr}, H b = none → b ≠ a := fun {b} n r => by
    rw [r, e] at n
    cases n
  have U : Un X.fs [] H (upd (upd H z (exd z [(f, y)])) a (exo a C (some z))) hp h' := {
    keep := fun b o r n _ _ => kp b o (nota n) r
    slot := fun b o r n _ _ => ⟨o.slots, kp b o (nota n) r⟩
    free := fun b o r n _ => by rw [L2.upd_ne (nota n), L2.upd_ne (old r), n]
    there := fun b o r _ => by
      rcases Classical.em (b = a) with rfl | hb
      · exact ⟨_, hx⟩
      · exact ⟨o, kp b o hb r⟩
    tups := fun b xs r => by rw [L2.upd_ne (at_ne e r exo_tup), L2.upd_ne (L2.ne_of_none r hz), r]
    frzs := fun b o v r => by rw [L2.upd_ne (at_ne e r exo_frz), L2.upd_ne (L2.ne_of_none r hz), r]
    tbls := fun b ps r => ⟨#[], by rw [L2.upd_ne (at_ne e r exo_tbl), L2.upd_ne (L2.ne_of_none r hz), r]; simp⟩ }
  refine h z _ hz dne (I.un (t' := tk') U fun b o r => ?_)
  rcases Classical.em (b = a) with rfl | hb
  · rw [L2.upd_same] at r
    cases r
    exact exo_ok hx
  rw [L2.upd_ne hb] at r
  rcases Classical.em (b = z) with rfl | hd
  · rw [L2.upd_same] at r
    cases r
    exact exd_ok hn (relO_put (fs := []) ry fun _ => trivial)
  rw [L2.upd_ne hd] at r
  refine (I.hok b o r).stay (fun c v hc x => kp c v ?_ x) (fun c hc => ?_) fun c xs hc => ?_
  · rcases hc with rfl | hc
    · exact hb
    · exact at_ne e hc exo_own
  · rw [L2.upd_ne (at_ne e hc exo_own), L2.upd_ne (L2.ne_of_none hc hz), hc]
  · rw [L2.upd_ne (at_ne e hc exo_tup), L2.upd_ne (L2.ne_of_none hc hz), hc]
theorem put_next (T : OxC X.K C) (I : Inv X pins σ H s) (e : H a = some (exo a C (some z))) (ed : H z = some (exd z fs)) (hl : fs.length ≤ 900) (hno : PySem.W.findIn X.K (.ref C) f = some none) (ry : RelV y u)
    (h : ∀ s', Inv X pins σ (upd H z (exd z ((f, y) :: fs))) s' → Q () s') : wpAny (model X.prog X.w) A (setAttr (.ref a) f u) Q E s := by
  obtain ⟨cd, hcl, c1, c2, c3, c4⟩ := T.data
  obtain ⟨t1, ho⟩ := exo_at I.hok e
  obtain ⟨m0, hn, rel⟩ := exd_at I.hok ed
  have hw := within_of rel
  obtain ⟨hp, g, d, t, os⟩ := s
  obtain ⟨oz, _, _, hoz, _, _⟩ := hn.count hw
  refine PySem.W.set_plain I.kIn (od := some oz) ⟨ho, rfl, rfl, hoz⟩ T.sa ?_
  refine lay_next I.kIn ho hn hw (by rw [List.length_map]; omega) hcl c1 c2 c3 c4 hno fun h' tk' kp hn' => ?_
  have there : ∃ o, h'.get? z = some o := by
    obtain ⟨o, _, _, r, _⟩ := hn'
    exact ⟨o, r⟩
  have free : ∀ b o, b ∉ [z] → hp.get? b = some o → h'.get? b = some o := fun b o nb r => kp b o (fun x => nb (List.mem_singleton.mpr x)) r
  exact h _ (I.write (t' := tk') (x := z) (e := z) (o := exd z ((f, y) :: fs)) (by rw [ed]; trivial) (.inl rfl) kp there (exd_ok hn' (relO_put ry rel)))
end
def tFld (K : PySem.W.Frag) (f : Str) (to te : TE) : TS := fun D σ H => te σ H fun y H1 => to σ H1 fun x H2 => ∃ a C : Addr, x = .ref a ∧ OxC K C ∧ PySem.W.findIn K (.ref C) f = some none ∧
  ((H2 a = some (exo a C none) ∧ ∀ z, H2 z = none → z ≠ a → D.nx σ (upd (upd H2 z (exd z [(f, y)])) a (exo a C (some z)))) ∨
    ∃ (z : Addr) (fs : List (Str × V)), H2 a = some (exo a C (some z)) ∧ H2 z = some (exd z fs) ∧ fs.length ≤ 900 ∧ D.nx σ (upd H2 z (exd z ((f, y) :: fs))))
theorem ps_fld {X : Cx} {o e : Expr} {to te : TE} {f : Str} {p' pos : Pos} (ho : PE X o to) (he : PE X e te) (hs : swapsWith e (some (.Attribute o f p')) pos.line X.env = pure false) : PS X (.Assign [.Attribute o f p'] e pos) (tFld X.K f to te) := by
  refine ⟨fun pins s σ H D I h => plainObj_wpAny_Assign_Attribute (thn (he.run pins s σ H _ I h) fun v s1 ⟨y, H1, I1, ry, h1⟩ => thn (ho.run pins s1 σ H1 _ I1 h1) fun u s2 ⟨x, H2, I2, rx, a, C, ex, T, hno, q⟩ => ?_) hs⟩
  subst ex
  cases (show u = Value.ref a from rx)
  rcases q with ⟨ea, q⟩ | ⟨z, fs, ea, ed, hl, q⟩
  · exact put_first T I2 ea hno ry fun z s' n ne J => ⟨σ, _, J, q z n ne⟩
  · exact put_next T I2 ea ed hl hno ry fun s' J => ⟨σ, _, J, q⟩
end A
namespace L2C
open PySem PySem.Spec PyProof.Rows L2
section
variable {prog : Program} {w : World} {A : Around} {E : Value → Shared → Prop} {s : Shared}
theorem range_over {it : Addr} {x left step : Int} {po : Addr × Obj} {l : List (Addr × Obj)} {Q : Option Value → Shared → Prop} (hh : A.handled = some (.ref po.1)) (row : Row s.heap (po :: l)) (hit : IsRangeIter s.heap it x left step) (none_left : left ≤ 0)
    (k : ∀ h2, (∀ b o, s.heap.get? b = some o → h2.get? b = some o) → Q none { s with heap := h2 }) : wpAny (model prog w) A (pyNext (.ref it)) Q E s := by
  have ty : s.TypeIs (.ref it) "range_iterator" := ⟨_, hit, rfl⟩
  unfold pyNext
  refine wpAny_bind (wpAny_attempt (wpAny_callSpecial?_slot (name := Str.ofString "__next__") ty F.slot_range_iterator_next
    (wpAny_call_entry F.slot_range_iterator_next ty F.entry_range_iterator_next ?_ (F.args_range_iterator_next_1 _))))
  show wpAny _ _ (field (.ref it) 0 >>= _) _ _ s
  refine wpAny_bind (wpAny_field (x := rawInt x) hit rfl rfl ?_)
  show wpAny _ _ (field (.ref it) 1 >>= _) _ _ s
  refine wpAny_bind (wpAny_field (x := rawInt left) hit rfl rfl ?_)
  show wpAny _ _ (field (.ref it) 2 >>= _) _ _ s
  refine wpAny_bind (wpAny_field (x := rawInt step) hit rfl rfl ?_)
  show wpAny _ _ (if left ≤ 0 then _ else _) _ _ s
  rw [if_pos none_left]
  refine wpAny_bind (wpAny_rule (wpAny_bind ?_))
  show wpAny _ _ (newExc (.type "StopIteration") [] >>= _) _ _ _
  refine wpAny_bind ?_
  simp only [newExc, newTuple]
  refine wpAny_bind (wpAny_newObj_type ?_ (by size_fits))
  refine wpAny_bind (m := firstArgMember _ _) (wpAny_of_eq (a := Value.none) (by first | rfl | (simp only [firstArgMember]; rfl)) (wpAny_newObj_type ?_ (by size_fits)))
  have up2 : ∀ {b o} {x y : Obj}, s.heap.get? b = some o → ((s.heap.push x).push y).get? b = some o := fun e => Heap.get?_push_of_some _ (Heap.get?_push_of_some _ e)
  refine raiseNew_row hh (row.grow fun b o e => up2 e) (fun p hp => ?_) (Heap.get?_push_size _ rfl) rfl (by first | (simp; done) | (simp; omega) | (simp only [Array.size_append]; simp; omega)) ?_
  · obtain ⟨i, hi⟩ := List.mem_iff_getElem?.mp hp
    exact Nat.ne_of_lt (Heap.lt_size (Heap.get?_push_of_some _ (row i p hi).1))
  refine wpAny_bind (wpAny_isInstance (T := "StopIteration") (b := true) ⟨_, Heap.get?_update_self _ (Heap.get?_push_size _ rfl) rfl, rfl⟩ isSubtype_stop (wpAny_pure (k _ fun b o e => ?_)))
  rw [Heap.get?_update_other _ _ (Nat.ne_of_gt (Heap.lt_size (Heap.get?_push_of_some _ e)))]
  exact up2 e
end
structure TurnK (P : Program) (w : World) (K : PySem.W.Frag) (tg : Expr) (J : L2.It) (fp : List Addr) (it : Addr) (tn : Nat → Heap → Prop) : Prop where
  mem : it ∈ fp
  obj : ∀ i h, tn i h → ∀ b ∈ fp, ∃ o, h.get? b = some o ∧ ∀ v, o.data ≠ .cell v
  keep : ∀ i h h', tn i h → (∀ b ∈ fp, ∀ o, h.get? b = some o → h'.get? b = some o) → tn i h'
  item : ∀ (X : Cx) (i : Nat) (pins : List (Addr × Obj)) (s : Shared) (σ : L2.St) (H : Hp) (E : Value → Shared → Prop), X.prog = P → X.w = w → X.K = K → Inv X pins σ H s → (∀ b ∈ fp, FpOk X pins H b) → tn i s.heap → J.go i H →
    wpAny (model P w) X.A (pyNext (.ref it)) (fun r t => ∃ u, r = some u ∧ wpAny (model P w) X.A (letOwnedTupleGo tg (.ref it) u) (fun _ t2 => ∃ x H2, Inv X pins σ H2 t2 ∧ RelV x u ∧ J.yld i H x H2 ∧ tn (i + 1) t2.heap ∧ ∀ b ∈ fp, H2 b = none) E t) E s
  done : ∀ (X : Cx) (po : Addr × Obj) (l : List (Addr × Obj)) (i : Nat) (pins : List (Addr × Obj)) (s : Shared) (σ : L2.St) (H : Hp) (E : Value → Shared → Prop), X.prog = P → X.w = w → X.K = K → HotK X po l → Inv X pins σ H s → (∀ b ∈ fp, FpOk X pins H b) → tn i s.heap →
    J.stop i H → wpAny (model P w) X.A (pyNext (.ref it)) (fun r t => r = none ∧ Inv X pins σ H t) E s
  self : ∀ (A : Around) (i : Nat) (s : Shared) (Q : Value → Shared → Prop) (E : Value → Shared → Prop), tn i s.heap → Q (.ref it) s → wpAny (model P w) A (pyIter (.ref it)) Q E s
theorem turn_rng {P : Program} {w : World} {K : PySem.W.Frag} {tg : Expr} (it : Addr) (lo : Int) (n : Nat) : TurnK P w K tg (Itr lo n) [it] it (fun i h => IsRangeIter h it (lo + (i : Nat) * 1) ((n : Int) - (i : Nat)) 1) where
  mem := List.mem_singleton.mpr rfl
  obj := fun i h st b hb => by
    cases List.mem_singleton.mp hb
    exact ⟨_, st, fun v y => Data.noConfusion (show Data.fields _ = Data.cell v from y)⟩
  keep := fun i h h' st k => k it (List.mem_singleton.mpr rfl) _ st
  item := by
    intro X i pins s σ H E hP hw hK I hf st hg
    subst hP hw hK
    obtain ⟨f0, f1, f2, f3, f4, f5⟩ := hf it (List.mem_singleton.mpr rfl)
    have lt : i < n := hg
    refine wpAny_pyNext_range_item st (by omega) fun h2 st1 sb => ?_
    have st2 : IsRangeIter h2 it (lo + ((i + 1 : Nat) : Int) * 1) ((n : Int) - ((i + 1 : Nat) : Int)) 1 := by
      rw [show lo + ((i + 1 : Nat) : Int) * 1 = lo + ((i : Nat) : Int) * 1 + 1 by omega, show (n : Int) - ((i + 1 : Nat) : Int) = (n : Int) - ((i : Nat) : Int) - 1 by omega]
      exact st1
    have J1 : Inv X pins σ H { s with heap := h2, toks := s.toks + 1 } := I.turned (fun b o hb e => (sb.2 b hb).trans e) f0 f1 f3 f4 f5
    refine ⟨_, rfl, go_of (n := "range_iterator") (s := { s with heap := h2, toks := s.toks + 1 }) st2 rfl rfl (by decide) ⟨.int (lo + i), H, J1, ⟨s.toks, ?_⟩, ⟨rfl, rfl⟩, st2, fun b hb => (hf b hb).1⟩⟩
    rw [Int.mul_one]
  done := by
    intro X po l i pins s σ H E hP hw hK hot I hf st hg
    subst hP hw hK
    obtain ⟨f0, f1, f2, f3, f4, f5⟩ := hf it (List.mem_singleton.mpr rfl)
    have le : n ≤ i := hg
    exact range_over hot.hd (hot.row I) st (by omega) fun h2 eb => ⟨rfl, I.turned (t' := s.toks) (fun b o _ e => eb b o e) f0 f1 f3 f4 f5⟩
  self := fun _ _ _ _ _ st h => wpAny_pyIter_rangeiter st h
def PIEK (X : Cx) (pins : List (Addr × Obj)) (σ : L2.St) (tg : Expr) (R : L2.It → Hp → Prop) (v : Value) (t : Shared) : Prop :=
  ∃ (it : Addr) (fp : List Addr) (tn : Nat → Heap → Prop) (J : L2.It) (H2 : Hp), v = .ref it ∧ Inv X pins σ H2 t ∧ TurnK X.prog X.w X.K tg J fp it tn ∧ tn 0 t.heap ∧ (∀ b ∈ fp, FpOk X pins H2 b) ∧ R J H2
structure PIK (X : Cx) (tg iter : Expr) (wi : TI) : Prop where
  run : ∀ (pins : List (Addr × Obj)) (s : Shared) (σ : L2.St) (H : Hp) (R : L2.It → Hp → Prop), Inv X pins σ H s → wi σ H R →
    wpAny (model X.prog X.w) X.A (eval iter X.env) (fun v t => wpAny (model X.prog X.w) X.A (pyIter v) (PIEK X pins σ tg R) X.xe t) X.xe s
section
variable {X : Cx} {tg : Expr}
theorem rng_it {pins : List (Addr × Obj)} {σ : L2.St} {H : Hp} {s : Shared} {R : L2.It → Hp → Prop} {E : Value → Shared → Prop} {lo hi : Int} {a b c : Tok} {tk : Nat} (I : Inv X pins σ H s) (b1 : -(2 ^ 62) ≤ lo ∧ lo < 2 ^ 62) (b2 : -(2 ^ 62) ≤ hi ∧ hi < 2 ^ 62)
    (q : R (Itr lo (hi - lo).toNat) H) : wpAny (model X.prog X.w) X.A (pyIter (.ref s.heap.objs.size)) (PIEK X pins σ tg R) E { s with heap := s.heap.push { cls := .type "range", data := .fields #[.int lo a, .int hi b, .int 1 c] }, toks := tk } := by
  refine wpAny_pyIter_range (IsRange.new ..) (small_one b1.1 b1.2 b2.1 b2.2) ?_
  generalize hg : s.heap.push { cls := .type "range", data := .fields #[.int lo a, .int hi b, .int 1 c] } = g
  have J1 : Inv X pins σ H { s with heap := g, toks := tk } := I.kept fun b o e => by rw [← hg]; exact Heap.get?_push_of_some _ e
  refine ⟨g.objs.size, [g.objs.size], _, _, H, rfl, J1.kept (t' := tk) fun b o e => Heap.get?_push_of_some _ e, turn_rng _ lo (hi - lo).toNat, ?_, fun b hb => ?_, q⟩
  · have e2 : (((hi - lo).toNat : Nat) : Int) - ((0 : Nat) : Int) = Builtin.Range.rangeSize lo hi 1 := by rw [rangeSize_one]; split <;> omega
    show IsRangeIter _ _ (lo + ((0 : Nat) : Int) * 1) ((((hi - lo).toNat : Nat) : Int) - ((0 : Nat) : Int)) 1
    rw [show lo + ((0 : Nat) : Int) * 1 = lo by simp, e2]
    exact Heap.get?_push_size _ rfl
  · cases List.mem_singleton.mp hb
    exact J1.fpOk (Nat.le_refl _) (J1.hok.fresh (Nat.le_refl _))
theorem pi_rngK {a : Expr} {ta : TA} {p pos : Pos} (hg : Gl X "range") (hm : X.mg "range" = none) (ha : PA X [a] ta) (hs : starEach [a] X.env = [(false, eval a X.env)] := by rfl) : PIK X tg (.Call (.Name "range" p) [a] [] pos) (iRng1 ta) := by
  refine ⟨fun pins s σ H R I h => Call_ (ld_blt I hg hm boot_range (PyProof.Rows.callWith_type1 (thn (ha.run pos pins s σ H _ I h) fun us t ⟨vs, H1, I1, r1, j, e, q1, q2, q⟩ => ?_) hs rfl))⟩
  subst e
  obtain _ | ⟨r, rr⟩ := r1
  cases rr
  obtain ⟨tk, rfl⟩ := r
  exact call_range_1 (rng_it I1 ⟨by omega, by omega⟩ ⟨q1, q2⟩ (by simpa using q))
end
def cxK (CX : CXT) (P : Program) (w : World) (K : PySem.W.Frag) (mg : Str → Option Value) (base : Heap) (N : List Str) (qual : Str) (scope : Scope) (f : Addr) (cd : Value) (A : Around) (outer : List PySem.Env) (s : Shared) (H : Hp) (E : XK) (L : List (Addr × Obj)) : Cx :=
  { cxOf CX P w K mg base N qual scope f cd A outer s H E with calm := false, pn := L }
theorem inv_startK {CX : CXT} {P : Program} {w : World} {K : PySem.W.Frag} {mg : Str → Option Value} {base : Heap} {N ps : List Str} {qual : Str} {scope : Scope} {f : Addr} {cd : Value} {A : Around} {outer : List PySem.Env} {s s1 : Shared} {H : Hp} {E : XK} {us : List Value} {vs : List V}
    (S : FnScope N ps scope) {po : Addr × Obj} {l : List (Addr × Obj)} (hp : ∀ p ∈ po :: l, L2H.PinOk outer H s p) (e0 : Env0 P w K mg base A outer s H) (hl : vs.length = ps.length) (r : Vals vs us)
    (x : InCallC s s.heap.objs.size (bindL (envOfC qual scope s.heap.objs.size f cd).kindOf (ps.zip us) fun _ => none) (cellsFrom (s.heap.objs.size + 1) scope.names []) (bindC (envOfC qual scope s.heap.objs.size f cd).kindOf (ps.zip us) fun _ => none) s1) :
    Inv (cxK CX P w K mg base N qual scope f cd A outer s H E (po :: l)) [] (L2.start N vs) H s1 := by
  have J := L2H.inv_startH (CX := CX) (E := E) (f := f) (cd := cd) (qual := qual) S (hp po (List.mem_cons_self ..)) e0 hl r x
  have O := J.ok
  refine ⟨⟨O.mod, O.kind, O.glob, O.blt, O.above, O.inj, O.has, O.cab, O.hd, O.frames, O.stk, O.exf, O.bs, O.bsz, O.noex, O.exfs, O.funs, O.frf⟩, J.os, J.bare, J.base, J.loc, J.cell, J.free, J.freeC, fun q hq => ?_, J.hok, J.len⟩
  have hq : q ∈ po :: l := by rw [List.append_nil] at hq; exact hq
  have y := hp q hq
  exact ⟨J.base.keep q.1 q.2 y.get y.free y.nofs (fun z => by cases z), y.free, Nat.ne_of_lt (Heap.lt_size y.get), y.nofs, y.nocell⟩
end L2C
namespace A
open PySem L2 PyProof.Rows
def valF (vs : List V) : Sum Str Nat → V
  | .inl c => .str c
  | .inr j => vs.getD j .non
def rhsB (s : Sx) : Sum Str Nat → Expr → Bool
  | .inl c, .Constant (.str d) _ _ => sEq c d
  | .inr j, .Name y _ => nsAt s.ns j y && s.vis y && okName y
  | _, _ => false
def okI (s : Sx) : List (Str × Sum Str Nat) → List Stmt → Bool
  | [], [] => true
  | (f, v) :: r, .Assign [.Attribute (.Name x _) g _] e _ :: st => sEq f g && nsAt s.ns 0 x && s.vis x && okName x && rhsB s v e && okI s r st
  | _, _ => false
def Mk1 (H0 : Hp) (a C : Addr) (fs : List (Str × V)) (H : Hp) : Prop :=
  (fs = [] ∧ H a = some (exo a C none) ∧ ∀ b, b ≠ a → H b = H0 b) ∨
    ∃ z, H0 z = none ∧ z ≠ a ∧ H a = some (exo a C (some z)) ∧ H z = some (exd z fs) ∧ ∀ b, b ≠ a → b ≠ z → H b = H0 b
def laid (vs : List V) (done : List (Str × V)) : List (Str × Sum Str Nat) → List (Str × V)
  | [] => done
  | (f, v) :: r => laid vs ((f, valF vs v) :: done) r
def tIni (K : PySem.W.Frag) (ns : List Str) (fl : List (Str × Sum Str Nat)) : TS := fun D σ H => ∃ (a C : Addr) (vs : List V) (H0 : Hp) (done : List (Str × V)), σ = L2.start ns (.ref a :: vs) ∧ vs.length < ns.length ∧ OxC K C ∧ (∀ p ∈ fl, PySem.W.findIn K (.ref C) p.1 = some none ∧ ∀ j, p.2 = .inr j → j < vs.length + 1) ∧
  H0 a = none ∧ Mk1 H0 a C done H ∧ done.length + fl.length ≤ 900 ∧ ∀ H2, Mk1 H0 a C (laid (.ref a :: vs) done fl) H2 → D.nx σ H2
theorem start_at {ns : List Str} {vs : List V} {j : Nat} (h : j < vs.length) : (L2.start ns vs)[j]? = some (some (vs.getD j .non)) := by
  unfold L2.start
  rw [List.getElem?_append_left (by simpa using h), List.getElem?_map, List.getElem?_eq_getElem h, List.getD_eq_getElem?_getD, List.getElem?_eq_getElem h]
  rfl
theorem ini_ok {X : Cx} {s : Sx} (i : In X s) : ∀ (fl : List (Str × Sum Str Nat)) (st : List Stmt), okI s fl st = true → PSs X st (tIni X.K s.ns fl)
  | [], [], _ => pssimp pss_nil fun D σ H ⟨a, C, vs, H0, done, e, _, T, _, _, m, _, q⟩ => q H m
  | [], _ :: _, h => by cases h
  | (f, v) :: r, st, h => by
    unfold okI at h
    split at h
    · rename_i h0; cases h0
    · rename_i f' v' r' x p1 g p2 e p3 st' heq
      cases heq
      simp only [Bool.and_eq_true] at h
      obtain ⟨⟨⟨⟨⟨h1, h2⟩, h3⟩, h4⟩, h5⟩, h6⟩ := h
      have eg := sEq_ok h1
      subst eg
      obtain ⟨n1, n2, _⟩ := okName_ok h4
      have hx : X.N[0]? = some x := by rw [i.ns]; exact nsAt_ok h2
      have pself := pe_var (pos := p1) hx (i.vis h3) n1 n2
      -- the value
      have rhs : ∃ te : TE, PE X e te ∧ swapsWith e (some (.Attribute (.Name x p1) f p2)) p3.line X.env = pure false ∧
          ∀ (vs : List V) (H : Hp) (Q : VK), (∀ j, v = .inr j → j < vs.length) → Q (valF vs v) H → te (L2.start s.ns vs) H Q := by
        cases v with
        | inl c =>
          unfold rhsB at h5
          split at h5
          · rename_i c' d k p heq
            cases heq
            rw [sEq_ok h5]
            exact ⟨_, pe_str, rfl, fun vs H Q _ q => q⟩
          · rename_i heq; cases heq
          · cases h5
        | inr j =>
          unfold rhsB at h5
          split at h5
          · rename_i heq; cases heq
          · rename_i j' y p heq
            cases heq
            simp only [Bool.and_eq_true] at h5
            obtain ⟨m1, m2, _⟩ := okName_ok h5.2
            refine ⟨_, pe_var (by rw [i.ns]; exact nsAt_ok h5.1.1) (i.vis h5.1.2) m1 m2, rfl, fun vs H Q hj q => ⟨_, start_at (hj j rfl), q⟩⟩
          · cases h5
      obtain ⟨te, pe, sw, hte⟩ := rhs
      refine pssimp (pss_cons (ps_fld pself pe sw) (ini_ok i r st' h6)) fun D σ H ⟨a, C, vs, H0, done, e0, hlt, T, hf, h0, m, hl, q⟩ => ?_
      subst e0
      have hf0 := hf _ (List.mem_cons_self ..)
      refine hte _ H _ (fun j e => by simpa using hf0.2 j e) ⟨.ref a, start_at (by simp), a, C, rfl, T, hf0.1, ?_⟩
      have rest : ∀ H', Mk1 H0 a C ((f, valF (.ref a :: vs) v) :: done) H' → tIni X.K s.ns r { D with nx := D.nx } (L2.start s.ns (.ref a :: vs)) H' := fun H' m' =>
        ⟨a, C, vs, H0, _, rfl, hlt, T, fun p hp => hf p (List.mem_cons_of_mem _ hp), h0, m', by simp only [List.length_cons] at hl ⊢; omega, q⟩
      rcases m with ⟨rfl, ea, eo⟩ | ⟨z, hz, nz, ea, ez, eo⟩
      · refine .inl ⟨ea, fun z ez nz => rest _ (.inr ⟨z, by rw [← eo z nz]; exact ez, nz, L2.upd_same, by rw [L2.upd_ne nz, L2.upd_same], fun b hb hbz => ?_⟩)⟩
        rw [L2.upd_ne hb, L2.upd_ne hbz, eo b hb]
      · refine .inr ⟨z, done, ea, ez, by simp only [List.length_cons] at hl; omega, rest _ (.inr ⟨z, hz, nz, by rw [L2.upd_ne nz.symm]; exact ea, L2.upd_same, fun b hb hbz => ?_⟩)⟩
        rw [L2.upd_ne hbz, eo b hb hbz]
    · cases h
def spI (K : PySem.W.Frag) (n : Nat) (fl : List (Str × Sum Str Nat)) : Sp := fun vs H Q _ => ∃ (a C : Addr) (us : List V), vs = .ref a :: us ∧ us.length = n ∧ OxC K C ∧ (∀ p ∈ fl, PySem.W.findIn K (.ref C) p.1 = some none) ∧ H a = some (exo a C none) ∧
  ∀ H2, Mk1 (del H a) a C (laid vs [] fl) H2 → Q .non H2
theorem ini_fn {prog : Program} {w : World} {K : PySem.W.Frag} {mg : Str → Option Value} {base : Heap} {CX : CXT} {x qual : Str} {params : Arguments} {body : List Stmt} {scope : Scope} {dvs : List V} {kws : List (Str × V)} {fI : Addr} {fd : FuncData} {ns ps : List Str} {n : Nat} {fl : List (Str × Sum Str Nat)}
    (F : FunD K x qual params body scope dvs kws fI fd) (sc : FnScope ns ps scope) (hp : ps.length = n + 1) (hn : n < ns.length) (hb : okI ⟨scope, ns, fun _ => true⟩ fl body = true) (hl : fl.length ≤ 900) (hj : ∀ p ∈ fl, ∀ j, p.2 = .inr j → j < n + 1) (k : Nat) :
    FnOk prog w K mg base CX (k + 1) fI fd ps (spI K n fl) := by
  refine F.ok sc (fun vs H Q E ⟨a, C, us, e, l, _⟩ => by rw [e, hp, List.length_cons, l]) fun cdv A outer s H vs Q E hr h => ?_
  obtain ⟨a, C, us, rfl, l, T, hf, ha, q⟩ := h
  refine ⟨_, ini_ok (X := cxOf CX prog w K mg base ns qual scope fI cdv A outer s H E) (s := ⟨scope, ns, fun _ => true⟩) ⟨rfl, rfl, fun _ => rfl, fun _ => ⟨rfl, rfl⟩⟩ fl body hb, ?_⟩
  refine ⟨a, C, us, del H a, [], rfl, by show us.length < ns.length; omega, T, fun p hp => ⟨hf p hp, fun j e => by rw [l]; exact hj p hp j e⟩, L2.del_same, .inl ⟨rfl, ha, fun b hb => (L2.del_ne hb).symm⟩, by simpa using hl, fun H2 m => q H2 m⟩
def noCX : CXT := fun _ _ _ _ _ _ => False
def noXK : XK := fun _ _ _ => False
theorem pin_out {X : Cx} {po : Addr × Obj} {pins : List (Addr × Obj)} {σ : L2.St} {H : Hp} {s : Shared} (I : Inv X pins σ H s) (hp : po ∈ X.pn) : L2H.PinOk X.stack H s po := by
  obtain ⟨g1, g2, g3, g4, g5⟩ := I.pin po (List.mem_append.mpr (.inl hp))
  refine ⟨g1, g2, fun z => ?_, g5⟩
  rcases List.mem_cons.mp (I.stkSub _ z) with y | y
  · exact g3 y
  · exact g4 y
structure FnU (P : Program) (w : World) (K : PySem.W.Frag) (mg : Str → Option Value) (base : Heap) (f : Addr) (fd : FuncData) (ps : List Str) (sp : Sp) : Prop where
  len : ∀ vs H Q E, sp vs H Q E → vs.length = ps.length
  run : ∀ (A : Around) (outer : List PySem.Env) (s : Shared) (H : Hp) (us : List Value) (vs : List V) (Q : VK) (po : Addr × Obj), L2H.RoomH 1 A → L2H.PinOk outer H s po → Env0 P w K mg base A outer s H → BindsTo s fd ⟨us, []⟩ (ps.zip us) → Vals vs us → sp vs H Q noXK →
    codeAny (model P w) A (.call (.ref f) ⟨us, []⟩) (CR noCX outer P w H s Q noXK) s
theorem ini_fnU {prog : Program} {w : World} {K : PySem.W.Frag} {mg : Str → Option Value} {base : Heap} {x qual : Str} {params : Arguments} {body : List Stmt} {scope : Scope} {dvs : List V} {kws : List (Str × V)} {fI : Addr} {fd : FuncData} {ns ps : List Str} {n : Nat} {fl : List (Str × Sum Str Nat)}
    (F : FunD K x qual params body scope dvs kws fI fd) (sc : FnScope ns ps scope) (hp : ps.length = n + 1) (hn : n < ns.length) (hb : okI ⟨scope, ns, fun _ => true⟩ fl body = true) (hl : fl.length ≤ 900) (hj : ∀ p ∈ fl, ∀ j, p.2 = .inr j → j < n + 1) :
    FnU prog w K mg base fI fd ps (spI K n fl) := by
  refine ⟨fun vs H Q E ⟨a, C, us, e, l, _⟩ => by rw [e, hp, List.length_cons, l], fun A outer s H us0 vs Q po room pin e0 bd rv h => ?_⟩
  obtain ⟨a, C, us, rfl, l, T, hf, ha, q⟩ := h
  obtain ⟨oc, od, dV, kV, doc, pm, an, cdv, ct, osl, rfl, lk, hcd, _, _⟩ := F.ex
  have kh : K.In s.heap := e0.mod.kin.keeps fun b o e => (e0.bs b o e).1
  have nl : s.heap.NoLimit := e0.mod.nolimit.keeps fun b o e => (e0.bs b o e).1
  have kinds : ∀ y ∈ ps.zip us0, scope.names.lookup y.1 = some .local ∨ (scope.names.lookup y.1 = some .cell ∧ ((cellsFrom (s.heap.objs.size + 1) scope.names []).lookup y.1).isSome = true) := fun y hy => by
    obtain ⟨nm, v⟩ := y
    rcases sc.par nm (List.of_mem_zip hy).1 with g | g
    · exact .inl g
    · exact .inr ⟨g, PySem.W.cellsFrom_some _ _ _ (.inl g)⟩
  refine codeAny_call_function room.depth (kh _ _ lk) rfl sc.co sc.gen rfl (PySem.W.codeRec_of kh hcd) (bd _ _ _ _ ?_)
  refine wpAny_newFunctionEnv_cells sc.kind kinds fun env ee s1 inn => ?_
  subst ee
  refine ⟨nl.keeps inn.toInCall.keep, codeAny_func ?_⟩
  have J := L2C.inv_startK (CX := noCX) (E := noXK) (cd := cdv) (qual := qual) (f := fI) (l := []) sc (fun p h => by cases List.mem_singleton.mp h; exact pin) e0 (vs := .ref a :: us) (by rw [List.length_cons, l, hp]) rv inn
  have ht := ini_ok (X := L2C.cxK noCX prog w K mg base ns qual scope fI cdv A outer s H noXK [po]) (s := ⟨scope, ns, fun _ => true⟩) ⟨rfl, rfl, fun _ => rfl, fun _ => ⟨rfl, rfl⟩⟩ fl body hb
  refine wpAny_mono (ht.run [] s1 _ H { nx := fun _ H' => Q .non H', rt := Q } J ⟨a, C, us, del H a, [], rfl, by show us.length < ns.length; omega, T, fun p hp => ⟨hf p hp, fun j e => by rw [l]; exact hj p hp j e⟩, L2.del_same, .inl ⟨rfl, ha, fun b hb => (L2.del_ne hb).symm⟩, by simpa using hl, fun H2 m => q H2 m⟩) (fun fl s2 hs => ?_) fun e s2 hs => hs
  have out : ∀ {σ2 : L2.St} {H2 : Hp} {v : V} {u : Value}, Inv (L2C.cxK noCX prog w K mg base ns qual scope fI cdv A outer s H noXK [po]) [] σ2 H2 s2 → RelV v u → Q v H2 → CE outer prog w H s Q u s2 := fun J2 rv q => ⟨_, _, J2.os, J2.bare, J2.base, J2.hok, rv, q⟩
  cases fl with
  | next =>
    obtain ⟨σ2, H2, J2, q⟩ := hs
    exact out (v := .non) (u := Value.none) J2 rfl q
  | ret u =>
    obtain ⟨v, σ2, H2, J2, rv, q⟩ := hs
    exact out J2 rv q
  | brk => obtain ⟨_, _, _, z⟩ := hs; exact False.elim z
  | cont => obtain ⟨_, _, _, z⟩ := hs; exact False.elim z
theorem laid_self {a : V} {vs : List V} : ∀ {fl : List (Str × Sum Str Nat)} {done : List (Str × V)}, (∀ p ∈ fl, ∀ j, p.2 = .inr j → 1 ≤ j) → laid (a :: vs) done fl = laid (.non :: vs) done fl
  | [], _, _ => rfl
  | (f, v) :: r, done, h => by
    have e : valF (a :: vs) v = valF (.non :: vs) v := by
      cases v with
      | inl c => rfl
      | inr j =>
        have := h _ (List.mem_cons_self ..) j rfl
        obtain ⟨j, rfl⟩ : ∃ k, j = k + 1 := ⟨j - 1, by omega⟩
        simp [valF, List.getD_eq_getElem?_getD]
    unfold laid
    rw [e]
    exact laid_self fun p hp => h p (List.mem_cons_of_mem _ hp)
theorem laid_ne {vs : List V} : ∀ {fl : List (Str × Sum Str Nat)} {done : List (Str × V)}, done ≠ [] → laid vs done fl ≠ []
  | [], _, h => h
  | (f, v) :: r, done, _ => by unfold laid; exact laid_ne (by simp)
structure InitOk (P : Program) (w : World) (K : PySem.W.Frag) (mg : Str → Option Value) (base : Heap) (C : Addr) (n : Nat) (fl : List (Str × Sum Str Nat)) : Prop where
  cls : OxC K C
  ini : ∃ (fI : Addr) (fd : FuncData) (ps : List Str), PySem.W.findIn K (.ref C) "__init__" = some (some (.ref fI)) ∧ PySem.W.typeIn K (.ref fI) = some (.type "function") ∧ FnOk P w K mg base (L2C.CX P w) 1 fI fd ps (spI K n fl) ∧ Binds K fd ps [] ∧ FnU P w K mg base fI fd ps (spI K n fl)
  fld : ∀ p ∈ fl, PySem.W.findIn K (.ref C) p.1 = some none
  par : ∀ p ∈ fl, ∀ j, p.2 = .inr j → 1 ≤ j
  ne : fl ≠ []
def tMkX (C : Addr) (n : Nat) (fl : List (Str × Sum Str Nat)) (ta : TA) : L2.St → Hp → XK → Prop := fun σ H Q => ta σ H fun vs H1 => vs.length = n ∧ ∀ z, H1 z = none → Q (.ref C) (some z) (upd H1 z (.xd (laid (.non :: vs) [] fl)))
section
variable {X : Cx} {C : Addr} {n : Nat} {fl : List (Str × Sum Str Nat)} {pins : List (Addr × Obj)} {σ : L2.St}
theorem mk_run (J : InitOk X.prog X.w X.K X.mg X.base C n fl) (hr : Room 2 X.A) (hx : Passes (L2C.CX X.prog X.w) X (fun _ _ _ => False)) {us : List Value} {vs : List V} {s1 : Shared} {H1 : Hp} {Q : XK} (I1 : Inv X pins σ H1 s1) (r1 : Vals vs us) (hz : us.length ≤ sizeLine) (hv : vs.length = n) (q1 : ∀ z, H1 z = none → Q (.ref C) (some z) (upd H1 z (.xd (laid (.non :: vs) [] fl)))) :
    wpAny (model X.prog X.w) X.A (PySem.call (.ref C) us) (L2N.MkP X pins σ Q) X.xe s1 := by
  obtain ⟨nm, q, N, bs, rs, t, sn, sub, ab, col, dd, k0, k1, k2, k3, k5, B, nid, iid, hC, F, th, ho, hne⟩ := J.cls.cls
  obtain ⟨fI, fd, ps, i1, i2, F1, hb, _⟩ := J.ini
  obtain ⟨hp, g, dr, tk, os⟩ := s1
  have up : hp.objs.size ≤ hp.objs.size + 1 := Nat.le_succ _
  have hn : H1 (hp.objs.size + 1) = none := I1.hok.fresh up
  generalize he : hp.objs.size + 1 = e at up hn
  have keep : ∀ b o, hp.get? b = some o → ((hp.push (PySem.W.kdv_tup us)).push (PySem.HandSPX.excO C hp.objs.size)).get? b = some o := fun b o r => Heap.get?_push_of_some _ (Heap.get?_push_of_some _ r)
  have here : ((hp.push (PySem.W.kdv_tup us)).push (PySem.HandSPX.excO C hp.objs.size)).get? e = some (PySem.HandSPX.excO C hp.objs.size) := by rw [← he]; heap_get
  have I2 : Inv X pins σ (upd H1 e (exo e C none)) ⟨(hp.push (PySem.W.kdv_tup us)).push (PySem.HandSPX.excO C hp.objs.size), g, dr, tk, os⟩ :=
    I1.laid (t' := tk) (a := e) (o := exo e C none) (h' := (hp.push (PySem.W.kdv_tup us)).push (PySem.HandSPX.excO C hp.objs.size)) keep up (exo_ok here)
  have sp : spI X.K n fl (.ref e :: vs) (upd H1 e (exo e C none)) (fun v H2 => v = .non ∧ ∃ (d : Addr) (fs : List (Str × V)), H2 e = some (exo e C (some d)) ∧ H2 d = some (exd d fs) ∧ H1 d = none ∧ Q (.ref C) (some d) (upd (del H2 e) d (.xd fs))) (fun _ _ _ => False) := by
    refine ⟨e, C, vs, rfl, hv, J.cls, J.fld, L2.upd_same, fun H2 m => ⟨rfl, ?_⟩⟩
    rw [laid_self J.par] at m
    rcases m with ⟨m, _⟩ | ⟨z, hz, nz, ea, ez, eo⟩
    · exfalso
      cases hfl : fl with
      | nil => exact J.ne hfl
      | cons p r =>
        obtain ⟨f, v⟩ := p
        rw [hfl] at m
        unfold laid at m
        exact laid_ne (by simp) m
    · have h1z : H1 z = none := by rw [L2.del_ne nz, L2.upd_ne nz] at hz; exact hz
      refine ⟨z, _, ea, ez, h1z, ?_⟩
      have eq : upd (del H2 e) z (.xd (laid (.non :: vs) [] fl)) = upd H1 z (.xd (laid (.non :: vs) [] fl)) := by
        funext b
        by_cases hbz : b = z
        · rw [hbz, L2.upd_same, L2.upd_same]
        · rw [L2.upd_ne hbz, L2.upd_ne hbz]
          by_cases hbe : b = e
          · rw [hbe, L2.del_same, hn]
          · rw [L2.del_ne hbe, eo b hbe hbz, L2.del_ne hbe, L2.upd_ne hbe]
      rw [eq]
      exact q1 z h1z
  have rv : Vals (V.ref e :: vs) (Value.ref e :: us) := .cons rfl r1
  have hl : (Value.ref e :: us).length = ps.length := by
    have l2 := rv.length
    rw [F1.len _ _ _ _ sp] at l2
    exact l2.symm
  subst he
  refine wpAny_call (PySem.HandSPX.call_own F (fun Y => refs_has Y t rs) (I1.kIn _ _ hC) (PySem.W.looks_findIn I1.kIn i1) (fun self => PySem.W.bind_fn I1.kIn self i2) hz ?_)
  have bd : BindsTo ⟨(hp.push (PySem.W.kdv_tup us)).push (PySem.HandSPX.excO C hp.objs.size), g, dr, tk, os⟩ fd ⟨Value.ref (hp.objs.size + 1) :: us, []⟩ (ps.zip (Value.ref (hp.objs.size + 1) :: us)) := by
    have := hb ⟨(hp.push (PySem.W.kdv_tup us)).push (PySem.HandSPX.excO C hp.objs.size), g, dr, tk, os⟩ (Value.ref (hp.objs.size + 1) :: us) I2.kIn (by rw [List.append_nil]; exact hl)
    rw [List.append_nil] at this
    exact this
  refine codeAny_mono (F1.run _ X.stack _ _ ⟨Value.ref (hp.objs.size + 1) :: us, []⟩ _ _ _ _ (hr.make C us []) (I2.env0.make C us []) bd rv sp) fun r s' done => ?_
  match r, done with
  | .error er, done => exact hx pins σ _ _ er s' I2 done
  | .ok (.ret u), ⟨v, H2, os2, bare, un2, hok2, rv2, ev, d, fs, ea, ed, hd1, q2⟩ =>
    subst ev
    obtain ⟨h2, g2, d2, t2, os'⟩ := s'
    obtain ⟨t0, G, J0, kG, ge, hoe, na⟩ := mk_end0 (d2 := d2) (t2 := t2) I1 up keep un2 hok2 os2 bare ea ed hd1
    exact ⟨rv2, ⟨hp.objs.size + 1, _, _, ⟨G, g2, d2, t2, os'⟩, _, .ref C, some d, rfl, J0, kG, ge, hoe, ⟨rfl, rfl, fun ws e => by cases e; rfl⟩, rfl, rfl, na, rfl, bare, raises_own J.cls.exC J.cls.tyC, q2⟩⟩
theorem mk_runH {po : Addr × Obj} {l : List (Addr × Obj)} (J : InitOk X.prog X.w X.K X.mg X.base C n fl) (hr : L2H.RoomH 2 X.A) (hot : L2C.HotK X po l) {us : List Value} {vs : List V} {s1 : Shared} {H1 : Hp} {Q : XK} (I1 : Inv X pins σ H1 s1) (r1 : Vals vs us) (hz : us.length ≤ sizeLine) (hv : vs.length = n) (q1 : ∀ z, H1 z = none → Q (.ref C) (some z) (upd H1 z (.xd (laid (.non :: vs) [] fl)))) :
    wpAny (model X.prog X.w) X.A (PySem.call (.ref C) us) (fun u t => L2N.MkP X pins σ Q u t ∧ L2H.Six u t) X.xe s1 := by
  obtain ⟨nm, q, N, bs, rs, t, sn, sub, ab, col, dd, k0, k1, k2, k3, k5, B, nid, iid, hC, F, th, ho, hne⟩ := J.cls.cls
  obtain ⟨fI, fd, ps, i1, i2, _, hb, F1⟩ := J.ini
  obtain ⟨hp, g, dr, tk, os⟩ := s1
  have up : hp.objs.size ≤ hp.objs.size + 1 := Nat.le_succ _
  have hn : H1 (hp.objs.size + 1) = none := I1.hok.fresh up
  generalize he : hp.objs.size + 1 = e at up hn
  have keep : ∀ b o, hp.get? b = some o → ((hp.push (PySem.W.kdv_tup us)).push (PySem.HandSPX.excO C hp.objs.size)).get? b = some o := fun b o r => Heap.get?_push_of_some _ (Heap.get?_push_of_some _ r)
  have here : ((hp.push (PySem.W.kdv_tup us)).push (PySem.HandSPX.excO C hp.objs.size)).get? e = some (PySem.HandSPX.excO C hp.objs.size) := by rw [← he]; heap_get
  have I2 : Inv X pins σ (upd H1 e (exo e C none)) ⟨(hp.push (PySem.W.kdv_tup us)).push (PySem.HandSPX.excO C hp.objs.size), g, dr, tk, os⟩ :=
    I1.laid (t' := tk) (a := e) (o := exo e C none) (h' := (hp.push (PySem.W.kdv_tup us)).push (PySem.HandSPX.excO C hp.objs.size)) keep up (exo_ok here)
  have sp : spI X.K n fl (.ref e :: vs) (upd H1 e (exo e C none)) (fun v H2 => v = .non ∧ ∃ (d : Addr) (fs : List (Str × V)), H2 e = some (exo e C (some d)) ∧ H2 d = some (exd d fs) ∧ H1 d = none ∧ Q (.ref C) (some d) (upd (del H2 e) d (.xd fs))) noXK := by
    refine ⟨e, C, vs, rfl, hv, J.cls, J.fld, L2.upd_same, fun H2 m => ⟨rfl, ?_⟩⟩
    rw [laid_self J.par] at m
    rcases m with ⟨m, _⟩ | ⟨z, hz, nz, ea, ez, eo⟩
    · exfalso
      cases hfl : fl with
      | nil => exact J.ne hfl
      | cons p r =>
        obtain ⟨f, v⟩ := p
        rw [hfl] at m
        unfold laid at m
        exact laid_ne (by simp) m
    · have h1z : H1 z = none := by rw [L2.del_ne nz, L2.upd_ne nz] at hz; exact hz
      refine ⟨z, _, ea, ez, h1z, ?_⟩
      have eq : upd (del H2 e) z (.xd (laid (.non :: vs) [] fl)) = upd H1 z (.xd (laid (.non :: vs) [] fl)) := by
        funext b
        by_cases hbz : b = z
        · rw [hbz, L2.upd_same, L2.upd_same]
        · rw [L2.upd_ne hbz, L2.upd_ne hbz]
          by_cases hbe : b = e
          · rw [hbe, L2.del_same, hn]
          · rw [L2.del_ne hbe, eo b hbe hbz, L2.del_ne hbe, L2.upd_ne hbe]
      rw [eq]
      exact q1 z h1z
  have rv : Vals (V.ref e :: vs) (Value.ref e :: us) := .cons rfl r1
  have hl : (Value.ref e :: us).length = ps.length := by
    have l2 := rv.length
    rw [F1.len _ _ _ _ sp] at l2
    exact l2.symm
  subst he
  refine wpAny_call (PySem.HandSPX.call_own F (fun Y => refs_has Y t rs) (I1.kIn _ _ hC) (PySem.W.looks_findIn I1.kIn i1) (fun self => PySem.W.bind_fn I1.kIn self i2) hz ?_)
  have bd : BindsTo ⟨(hp.push (PySem.W.kdv_tup us)).push (PySem.HandSPX.excO C hp.objs.size), g, dr, tk, os⟩ fd ⟨Value.ref (hp.objs.size + 1) :: us, []⟩ (ps.zip (Value.ref (hp.objs.size + 1) :: us)) := by
    have := hb ⟨(hp.push (PySem.W.kdv_tup us)).push (PySem.HandSPX.excO C hp.objs.size), g, dr, tk, os⟩ (Value.ref (hp.objs.size + 1) :: us) I2.kIn (by rw [List.append_nil]; exact hl)
    rw [List.append_nil] at this
    exact this
  have po1 : L2H.PinOk X.stack (upd H1 (hp.objs.size + 1) (exo (hp.objs.size + 1) C none)) ⟨(hp.push (PySem.W.kdv_tup us)).push (PySem.HandSPX.excO C hp.objs.size), g, dr, tk, os⟩ po := pin_out I2 (hot.mem _ (List.mem_cons_self ..))
  refine codeAny_mono (F1.run _ X.stack _ _ (Value.ref (hp.objs.size + 1) :: us) _ _ po (hr.make C us []) po1 (I2.env0.make C us []) bd rv sp) fun r s' done => ?_
  match r, done with
  | .error er, done => exact False.elim done
  | .ok (.ret u), ⟨v, H2, os2, bare, un2, hok2, rv2, ev, d, fs, ea, ed, hd1, q2⟩ =>
    subst ev
    obtain ⟨h2, g2, d2, t2, os'⟩ := s'
    obtain ⟨t0, G, J0, kG, ge, hoe, na⟩ := mk_end0 (d2 := d2) (t2 := t2) I1 up keep un2 hok2 os2 bare ea ed hd1
    refine ⟨rv2, ⟨hp.objs.size + 1, _, _, ⟨G, g2, d2, t2, os'⟩, _, .ref C, some d, rfl, J0, kG, ge, hoe, ⟨rfl, rfl, fun ws e => by cases e; rfl⟩, rfl, rfl, na, rfl, bare, raises_own J.cls.exC J.cls.tyC, q2⟩, fun b ob ws eb gb db => ?_⟩
    cases eb
    have gb' : h2.get? (hp.objs.size + 1) = some ob := gb
    rw [hoe] at gb'
    cases gb'
    cases db
    show (4 : Nat) < 6
    decide
end
def convF : Sum Str Nat → Sum Nat D
  | .inl c => .inr (.str c)
  | .inr j => .inl (j - 1)
theorem laid_out {vs : List V} {f : Str} : ∀ {fl : List (Str × Sum Str Nat)} {done : List (Str × V)}, f ∉ fl.map (·.1) → (laid vs done fl).lookup f = done.lookup f
  | [], _, _ => rfl
  | (g, v) :: r, done, h => by
    simp only [List.map_cons, List.mem_cons, not_or] at h
    unfold laid
    rw [laid_out h.2, lookup_put, if_neg h.1]
theorem laid_at {vs : List V} : ∀ {fl : List (Str × Sum Str Nat)} {done : List (Str × V)} {i : Nat} {f : Str} {v : Sum Str Nat}, (fl.map (·.1)).Nodup → fl[i]? = some (f, v) → (laid vs done fl).lookup f = some (valF vs v)
  | [], _, _, _, _, _, h => by simp at h
  | (g, w) :: r, done, 0, f, v, nd, h => by
    simp at h
    obtain ⟨rfl, rfl⟩ := h
    have := (List.nodup_cons.mp nd).1
    unfold laid
    rw [laid_out this, lookup_put, if_pos rfl]
  | (g, w) :: r, done, i + 1, f, v, nd, h => by
    unfold laid
    exact laid_at (List.nodup_cons.mp nd).2 (by simpa using h)
structure RaiseOk (N : Nm) (P : Program) (w : World) (K : PySem.W.Frag) (mg : Str → Option Value) (base : Heap) (c n : Nat) (fs : List Nat) (src : List (Sum Nat D)) : Prop where
  ex : ∃ fl : List (Str × Sum Str Nat), InitOk P w K mg base (N.ca c) n fl ∧ fl.map (·.1) = fs.map N.fnm ∧ src = fl.map (fun p => convF p.2) ∧ (fl.map (·.1)).Nodup ∧ ∀ p ∈ fl, ∀ j, p.2 = .inr j → j < n + 1
  xc : c ∈ N.xc
section
variable {N : Nm} {Z : Sta × Hp} {X : Cx}
theorem placed {H : Hp} {ds : List D} {vs : List V} (r : RDs N H ds vs) : ∀ {fl : List (Str × Sum Str Nat)}, (∀ p ∈ fl, ∀ j, p.2 = .inr j → 1 ≤ j ∧ j < vs.length + 1) → RDs N H (placeL (fl.map fun p => convF p.2) ds) (fl.map fun p => valF (.non :: vs) p.2)
  | [], _ => .nil
  | (f, .inl c) :: rest, h => .cons mk_str (placed r fun p hp => h p (List.mem_cons_of_mem _ hp))
  | (f, .inr j) :: rest, h => by
    have hj := h _ (List.mem_cons_self ..) j rfl
    obtain ⟨i, rfl⟩ : ∃ i, j = i + 1 := ⟨j - 1, by omega⟩
    refine .cons ?_ (placed r fun p hp => h p (List.mem_cons_of_mem _ hp))
    have hi : i < ds.length := by rw [r.length]; omega
    obtain ⟨v, e1, e2⟩ := r.get (List.getElem?_eq_getElem hi)
    show RD N H (ds.getD (i + 1 - 1) .non) ((V.non :: vs).getD (i + 1) .non)
    simp only [Nat.add_sub_cancel, List.getD_eq_getElem?_getD, List.getElem?_cons_succ, e1, List.getElem?_eq_getElem hi]
    exact e2
theorem hs_raise {ws : (D → Env → Sta → Prop) → Wps} {Ex : D → Env → Sta → Prop} {c n : Nat} {fs : List Nat} {src : List (Sum Nat D)} {x : Str} {p cpos pos : Pos} {es : List Expr} (hK : N.K = X.K) (hc : X.calm = true) (tk : L2C.Takes X (xOf N Z Ex)) (J : RaiseOk N X.prog X.w X.K X.mg X.base c n fs src) (hr : Room 2 X.A)
    (hg : Gl X x) (hm : X.mg x = some (.ref (N.ca c))) (hdb : (x == ("__debug__" : Str)) = false) (ha : PA X es (tA N Z (ws Ex))) (pl : es.all plainA = true) (hn0 : n ≤ 1000) (he : es = [] → n = 0 ∧ ∀ ρ S Q, ws Ex ρ S Q → Q [] S) :
    PS X (.Raise (some (.Call (.Name x p) es [] cpos)) none pos) (tSs N Z Ex fun ρ S T => ws T.ex ρ S fun ds S1 => ds.length = n ∧ T.ex (.exc c fs (placeL src ds)) ρ S1) := by
  obtain ⟨fl, I0, hf, hs, nd, hj⟩ := J.ex
  have hx : Passes (L2C.CX X.prog X.w) X (fun _ _ _ => False) := L2C.passes_call tk fun _ _ _ _ h => h.elim
  have pm : L2N.PMk X (.Call (.Name x p) es [] cpos) (tMkX (N.ca c) n fl (tA N Z (ws Ex))) := by
    intro pins s σ H Q I h
    refine wpAny_Call_Name_kw (ld_glob I hg hm ?_ hdb)
    cases es with
    | nil =>
      obtain ⟨e1, e2⟩ := he rfl
      subst e1
      refine PySem.W.callWith_K0 I.kIn I0.cls.kC ?_
      obtain ⟨ρ, S, Ql, rs, rh, fz, q, k⟩ := h
      obtain ⟨h1, h2⟩ := k [] S [] H Fr.refl rh .nil (e2 ρ S Ql q)
      exact mk_run (us := []) I0 hr hx I .nil (Nat.zero_le _) h1 h2
    | cons e r =>
      simp only [List.all_cons, Bool.and_eq_true] at pl
      refine PySem.W.callWith_K (h₀ := X.base) I.ok.mod.kin I0.cls.kC (thn (ha.run cpos pins s σ H _ I h) fun us s1 ⟨vs, H1, I1, r1, h1, h2⟩ => ⟨I1.kIn, ?_⟩) (starEach_plain _ pl.1) (star_none _ pl.2)
      exact mk_run I0 hr hx I1 r1 (by rw [List.nil_append, ← r1.length, h1, sizeLine_eq]; omega) h1 h2
  refine psimp (L2N.ps_raise hc tk.n pm) fun D σ H ⟨Y, ρ, S, T, fy, fs', rs, rh, ex, q, en⟩ => ?_
  subst ex
  refine ⟨ρ, S, _, rs, rh, fy.trans fs', q, fun ds S1 vs H1 f h1 r q1 => ?_⟩
  obtain ⟨q1, q2⟩ := q1
  have hv : vs.length = n := by rw [← r.length, q1]
  refine ⟨hv, fun z hz => ?_⟩
  have dl : Dle H1 (upd H1 z (.xd (laid (.non :: vs) [] fl))) := dle_new hz
  refine ⟨_, ρ, S1, (rs.mono (f.dle rh)).mono dl, h1.skip hz, ((fy.trans fs').trans f).trans (Fr.skip hz), ⟨c, fs, placeL src ds, z, _, fl.map fun p => valF (.non :: vs) p.2, rfl, rfl, rfl, L2.upd_same, ?_, ?_, fun i g v e1 e2 => ?_, J.xc⟩, q2⟩
  · rw [hs]
    exact (placed r fun p hp j e => ⟨I0.par p hp j e, by rw [hv]; exact hj p hp j e⟩).mono' dl
  · have := congrArg List.length hf
    simp only [List.length_map] at this ⊢
    exact this.symm
  · rw [List.getElem?_map] at e2
    obtain ⟨pr, e3, rfl⟩ := Option.map_eq_some_iff.mp e2
    have e4 : (fs.map N.fnm)[i]? = some (N.fnm g) := by rw [List.getElem?_map, e1]; rfl
    rw [← hf, List.getElem?_map, e3] at e4
    have e5 := Option.some.inj e4
    obtain ⟨pf, pv⟩ := pr
    dsimp only at e5
    rw [← e5]
    exact laid_at nd e3
theorem xd_made {P : Program} {w : World} {K : PySem.W.Frag} {mg : Str → Option Value} {base : Heap} {c n : Nat} {fs : List Nat} {src : List (Sum Nat D)} {fl : List (Str × Sum Str Nat)} {H1 : Hp} {ds : List D} {vs : List V} {z : Addr} (I0 : InitOk P w K mg base (N.ca c) n fl) (hf : fl.map (·.1) = fs.map N.fnm)
    (hs : src = fl.map (fun p => convF p.2)) (nd : (fl.map (·.1)).Nodup) (hj : ∀ p ∈ fl, ∀ j, p.2 = .inr j → j < n + 1) (hc : c ∈ N.xc) (r : RDs N H1 ds vs) (hv : vs.length = n) (hz : H1 z = none) :
    XD N (upd H1 z (.xd (laid (.non :: vs) [] fl))) (.exc c fs (placeL src ds)) (.ref (N.ca c)) (some z) := by
  have dl : Dle H1 (upd H1 z (.xd (laid (.non :: vs) [] fl))) := dle_new hz
  refine ⟨c, fs, placeL src ds, z, _, fl.map fun p => valF (.non :: vs) p.2, rfl, rfl, rfl, L2.upd_same, ?_, ?_, fun i g v e1 e2 => ?_, hc⟩
  · rw [hs]
    exact (placed r fun p hp j e => ⟨I0.par p hp j e, by rw [hv]; exact hj p hp j e⟩).mono' dl
  · have := congrArg List.length hf
    simp only [List.length_map] at this ⊢
    exact this.symm
  · rw [List.getElem?_map] at e2
    obtain ⟨pr, e3, rfl⟩ := Option.map_eq_some_iff.mp e2
    have e4 : (fs.map N.fnm)[i]? = some (N.fnm g) := by rw [List.getElem?_map, e1]; rfl
    rw [← hf, List.getElem?_map, e3] at e4
    have e5 := Option.some.inj e4
    obtain ⟨pf, pv⟩ := pr
    dsimp only at e5
    rw [← e5]
    exact laid_at nd e3
theorem hmk5 {po : Addr × Obj} {L : List (Addr × Obj)} {C : Addr} {ws : Wps} {n : Nat} {fl : List (Str × Sum Str Nat)} {x : Str} {p cpos : Pos} {es : List Expr} (I0 : InitOk X.prog X.w X.K X.mg X.base C n fl) (hr : L2H.RoomH 2 X.A) (hot : L2C.HotK X po L)
    (hg : Gl X x) (hm : X.mg x = some (.ref C)) (hdb : (x == ("__debug__" : Str)) = false) (ha : PA X es (tA N Z ws)) (pl : es.all plainA = true) (hn0 : n ≤ 1000) (he : es = [] → n = 0 ∧ ∀ ρ S Q, ws ρ S Q → Q [] S) :
    L2H.PMk5 X (.Call (.Name x p) es [] cpos) (tMkX C n fl (tA N Z ws)) := by
  intro pins s σ H Q I h
  refine wpAny_Call_Name_kw (ld_glob I hg hm ?_ hdb)
  cases es with
  | nil =>
    obtain ⟨e1, e2⟩ := he rfl
    subst e1
    refine PySem.W.callWith_K0 I.kIn I0.cls.kC ?_
    obtain ⟨ρ, S, Ql, rs, rh, fz, q, k⟩ := h
    obtain ⟨h1, h2⟩ := k [] S [] H Fr.refl rh .nil (e2 ρ S Ql q)
    exact mk_runH (us := []) I0 hr hot I .nil (Nat.zero_le _) h1 h2
  | cons e r =>
    simp only [List.all_cons, Bool.and_eq_true] at pl
    refine PySem.W.callWith_K (h₀ := X.base) I.ok.mod.kin I0.cls.kC (thn (ha.run cpos pins s σ H _ I h) fun us s1 ⟨vs, H1, I1, r1, h1, h2⟩ => ⟨I1.kIn, ?_⟩) (starEach_plain _ pl.1) (star_none _ pl.2)
    exact mk_runH I0 hr hot I1 r1 (by rw [List.nil_append, ← r1.length, h1, sizeLine_eq]; omega) h1 h2
theorem hmk {C : Addr} {ws : Wps} {n : Nat} {fl : List (Str × Sum Str Nat)} {x : Str} {p cpos : Pos} {es : List Expr} (I0 : InitOk X.prog X.w X.K X.mg X.base C n fl) (hr : Room 2 X.A) (hx : Passes (L2C.CX X.prog X.w) X (fun _ _ _ => False))
    (hg : Gl X x) (hm : X.mg x = some (.ref C)) (hdb : (x == ("__debug__" : Str)) = false) (ha : PA X es (tA N Z ws)) (pl : es.all plainA = true) (hn0 : n ≤ 1000) (he : es = [] → n = 0 ∧ ∀ ρ S Q, ws ρ S Q → Q [] S) :
    L2N.PMk X (.Call (.Name x p) es [] cpos) (tMkX C n fl (tA N Z ws)) := by
  intro pins s σ H Q I h
  refine wpAny_Call_Name_kw (ld_glob I hg hm ?_ hdb)
  cases es with
  | nil =>
    obtain ⟨e1, e2⟩ := he rfl
    subst e1
    refine PySem.W.callWith_K0 I.kIn I0.cls.kC ?_
    obtain ⟨ρ, S, Ql, rs, rh, fz, q, k⟩ := h
    obtain ⟨h1, h2⟩ := k [] S [] H Fr.refl rh .nil (e2 ρ S Ql q)
    exact mk_run (us := []) I0 hr hx I .nil (Nat.zero_le _) h1 h2
  | cons e r =>
    simp only [List.all_cons, Bool.and_eq_true] at pl
    refine PySem.W.callWith_K (h₀ := X.base) I.ok.mod.kin I0.cls.kC (thn (ha.run cpos pins s σ H _ I h) fun us s1 ⟨vs, H1, I1, r1, h1, h2⟩ => ⟨I1.kIn, ?_⟩) (starEach_plain _ pl.1) (star_none _ pl.2)
    exact mk_run I0 hr hx I1 r1 (by rw [List.nil_append, ← r1.length, h1, sizeLine_eq]; omega) h1 h2
theorem field_at {N : Nm} {H : Hp} {g : Nat} {y : D} : ∀ (fs : List Nat) (ds : List D) (vs : List V), RDs N H ds vs → (fs.zip ds).lookup g = some y → ∃ (j : Nat) (v : V), fs[j]? = some g ∧ vs[j]? = some v ∧ RD N H y v
  | [], ds, vs, _, h => by simp at h
  | a :: r, [], vs, _, h => by simp at h
  | a :: r, d :: ds, vs, rr, h => by
    obtain ⟨v, t, rfl, h1, h2⟩ := rr.uncons
    simp only [List.zip_cons_cons, List.lookup] at h
    split at h
    · rename_i hb
      cases h
      exact ⟨0, v, by simpa using (beq_iff_eq.mp hb).symm, rfl, h1⟩
    · obtain ⟨j, w, a1, a2, a3⟩ := field_at r ds t h2 h
      exact ⟨j + 1, w, by simpa using a1, by simpa using a2, a3⟩
theorem he_mkf {ws : (D → Env → Sta → Prop) → Wps} {Ex : D → Env → Sta → Prop} {c n g : Nat} {fs : List Nat} {src : List (Sum Nat D)} {x f : Str} {p cpos pos : Pos} {es : List Expr} (tk : L2C.Takes X (xOf N Z Ex)) (J : RaiseOk N X.prog X.w X.K X.mg X.base c n fs src) (hr : Room 2 X.A)
    (hg : Gl X x) (hm : X.mg x = some (.ref (N.ca c))) (hdb : (x == ("__debug__" : Str)) = false) (ha : PA X es (tA N Z (ws Ex))) (pl : es.all plainA = true) (hn0 : n ≤ 1000) (he : es = [] → n = 0 ∧ ∀ ρ S Q, ws Ex ρ S Q → Q [] S) (hC : XfC X.K (N.ca c))
    (hno : PySem.W.findIn X.K (.ref (N.ca c)) f = some none) (hfn : N.fnm g = f) (hb : attributeBase (.Call (.Name x p) es [] cpos) f X.env (eval (.Call (.Name x p) es [] cpos) X.env) = eval (.Call (.Name x p) es [] cpos) X.env) :
    PE X (.Attribute (.Call (.Name x p) es [] cpos) f pos) (tOf N Z fun ρ S Q => ws Ex ρ S fun ds S1 => ds.length = n ∧ ∃ y, (fs.zip (placeL src ds)).lookup g = some y ∧ Q y S1) := by
  obtain ⟨fl, I0, hf, hs, nd, hj⟩ := J.ex
  have pm := hmk (Z := Z) (p := p) (cpos := cpos) I0 hr (L2C.passes_call tk fun _ _ _ _ h => h.elim) hg hm hdb ha pl hn0 he
  refine ⟨fun pins s σ H Q I ⟨ρ, S, Qh, rs, rh, fz, w, kn⟩ => ?_⟩
  refine attr_of hb (thn (pm pins s σ H (fun cls d H2 => cls = .ref (N.ca c) ∧ ∃ (z : Addr) (xs : List (Str × V)) (v : V), d = some z ∧ H2 z = some (.xd xs) ∧ xs.lookup f = some v ∧ Q v H2) I ⟨ρ, S, _, rs, rh, fz, w, fun ds S1 vs H1 fr h1 r q => ?_⟩) fun u s1 hu => ?_)
  · obtain ⟨q1, y, q2, q3⟩ := q
    have hv : vs.length = n := by rw [← r.length, q1]
    refine ⟨hv, fun z hz => ⟨rfl, z, ?_⟩⟩
    obtain ⟨c', fs', ds', dd, xs, vz, e1, _, e3, e4, e5, e6, e7, _⟩ := xd_made I0 hf hs nd hj J.xc r hv hz
    cases e1
    cases e3
    obtain ⟨j, v, a1, a2, a3⟩ := field_at _ _ _ e5 q2
    have e8 := e7 j g v a1 a2
    rw [hfn] at e8
    exact ⟨xs, v, rfl, e4, e8, kn y S1 v _ (fr.trans (Fr.skip hz)) (h1.skip hz) a3 q3⟩
  · obtain ⟨a, oe, vs, sI, H2, cls, d, rfl, J2, k, hne, hat, hz, hd, h1, na, os, ag, _, ec, z, xs, v, ed, ez, l, q⟩ := hu
    subst ec
    subst ed
    have I1 : Inv X pins σ H2 s1 := J2.landed (B := PySem.W.hideAll sI.heap (frs X.stack)) (fun b o e hb => PySem.W.hideAll_get _ e hb) (fun b o e => k b o (PySem.W.of_hideAll _ e)) (Heap.UpToSlots.of_keeps k) os ag
    have hx : ObjOk X.prog X.w H2 s1.heap z (.xd xs) := I1.hok z _ ez
    obtain ⟨mA, hns, hro⟩ := hx
    obtain ⟨od, ho, hlk⟩ := lookIn_ns hns
    obtain ⟨u, hu, ru⟩ := RelO.some_of (v := v) (o := mA f) (by rw [← l]; exact hro f)
    have Ji : PySem.W.InstAt s1.heap a oe (N.ca c) (some od) := ⟨hat, hz.1, by unfold PySem.W.notCls; rw [hd] <;> rfl, by rw [hz.2.1]; exact ho⟩
    exact HandSPX.exc_get I1.kIn Ji hC.ga hC.gg hC.exC (PySem.W.findObj_own hC.hdC hno rfl (by rw [hlk, hu])) (handed_of ru) ⟨v, H2, I1.tok _, ru, q⟩
end
section
open PySem.W
variable {prog : Program} {w : World} {A : Around} {E : Value → Shared → Prop} {s : Shared} {K : Frag} {x D : Addr} {ox : Obj} {od : Option Obj}
theorem find_cls {C : Addr} {n : Str} {a g : Value} (hc : (clsIn K C).isSome = true) (h1 : findIn K (.ref C) n = some (some a)) (h2 : specialIn K a "__get__" = some (some g)) (h3 : takesIn K a = some true) : findObj K C od n = some (.bind g a) := by
  cases hcd : clsIn K C with
  | none => rw [hcd] at hc; cases hc
  | some cd =>
    unfold findObj
    rw [hcd, Option.bind_some, h1, Option.bind_some]
    simp [h2, h3]
theorem cls_of (C : ExcC K D) {Q : Option Value → Shared → Prop} (hk : K.In s.heap) (J : InstAt s.heap x ox D od) (q : Q (some (.ref D)) { s with toks := s.toks + 1 }) : wpAny (model prog w) A (getAttr? (.ref x) "__class__") Q E s := by
  have hf : findObj K D od "__class__" = some (.bind (.builtin "getset_descriptor.__get__") (.builtin "object.__class__")) := find_cls (by obtain ⟨cd, hc, _⟩ := any_some C.hd; rw [hc]; rfl) C.ha C.hn C.ht
  obtain ⟨hp, g, d, t, os⟩ := s
  have t0 := J.type (M := model prog w)
  have t1 := looks_findIn (M := model prog w) hk C.hg
  have t2 := looks_findIn (M := model prog w) hk C.hk
  have t3 := looks_find (M := model prog w) hk J hf
  have isB : Looks (model prog w) hp (isInstance (.ref x) (.type "BaseException")) true := t0.andThen (looks_subIn hk C.hs)
  have n0 : (false && onTheHeap (Value.builtin "BaseException.__getattribute__")) = false := rfl
  have n1 : (Value.builtin "BaseException.__getattribute__" == Value.builtin "object.__getattribute__") = false := by decide +kernel
  have n2 : (onTheHeap (Value.ref D) && Value.builtin "BaseException.__getattribute__" == Value.builtin "object.__getattribute__") = false := by rw [n1]; rfl
  unfold getAttr? getAttrBy? getAttrBy
  refine wpAny_bind (wpAny_mkText (wpAny_bind (wpAny_attempt (wpAny_holding ?_))))
  refine wpAny_bind (t0.at (wpAny_bind (t1.at ?_)))
  show wpAny _ _ (if (onTheHeap (Value.ref D) && Value.builtin "BaseException.__getattribute__" == Value.builtin "object.__getattribute__") = true then _ else _) _ _ _
  rw [n2, if_neg Bool.false_ne_true]
  unfold getAttrByItsOwn hookBefore
  refine wpAny_bind ?_
  rw [if_pos (show onTheHeap (Value.ref D) = true from rfl)]
  refine t2.at ?_
  refine wpAny_bind (wpAny_attempt (wpAny_holding ?_))
  unfold callGetattribute
  rw [n0, if_neg Bool.false_ne_true]
  unfold boundAndCalled
  rw [PySem.F.excAttr_ValueError.ga.bind (.ref x)]
  refine wpAny_bind (wpAny_pure ?_)
  show wpAny _ _ (PySem.call (.builtin "BaseException.__getattribute__") [.ref x, .str "__class__" t]) _ _ _
  refine wpAny_call (codeAny_call_builtin PySem.F.excAttr_ValueError.ga.plain PySem.F.entry_bexc_ga ?_)
  refine @check_slot (model prog w) _ _ ⟨hp, g, d, t + 1, os⟩ "BaseException.__getattribute__" "BaseException" "__getattribute__" (.ref x) [.str "__class__" t] [] _ (by decide +kernel) (by decide +kernel) isB (PySem.F.args_bexc_ga (.ref x) (.str "__class__" t)) ?_
  unfold Builtin.«object.__getattribute__»
  refine wpAny_bind (wpAny_of_eq (a := ((Value.ref x : Value), [Value.str "__class__" t])) (by first | rfl | (simp only [slotArgs]; rfl)) ?_)
  refine wpAny_bind (wpAny_pure ?_)
  refine wpAny_bind (t0.at (wpAny_bind (t3.at ?_)))
  show wpAny _ _ (holding [Value.builtin "object.__class__"] (PySem.call (.builtin "getset_descriptor.__get__") [.builtin "object.__class__", .ref x, .ref D]) >>= ret) _ _ _
  refine wpAny_bind (wpAny_holding (wpAny_call (class_get (s := ⟨hp, g, d, t + 1, os⟩) (ox := ox) (od := od) hk J C.hm ?_)))
  refine wpAny_pure ?_
  show wpAny _ _ (handedOut (.ref D)) _ _ _
  rw [handedOut_of (v := .ref D) rfl]
  first
    | exact wpAny_pure (wpAny_pure q)
    | exact wpAny_pure q
    | exact wpAny_pure (wpAny_bind (wpAny_pure (wpAny_pure q)))
theorem kit_err (C : ExcC K D) : KitX K (.ref x) (.ref D) (fun h => InstAt h x ox D od) := by
  have own : ∀ {P : Prop}, (∀ c' d' (cd' : ClassData) sl', K.lookup D = some ⟨c', d', .cls cd', sl'⟩ → P) → P := fun {P} k => by
    obtain ⟨cd, hc, _⟩ := any_some C.hd
    unfold clsIn at hc
    split at hc
    · rename_i c' d' cd' sl' ho
      exact k _ _ _ _ ho
    · cases hc
  refine ⟨fun _ _ _ J => J.type, fun _ _ hk _ => own fun c' d' cd' sl' ho => ?_, fun h tp dd its n sl hk ht => own fun c' d' cd' sl' ho => ?_, fun hk J q => cls_of C hk J q⟩
  · intro A' Q' E' s' k q
    unfold isType loadHead
    exact wpAny_bind (wpAny_loadPart (k _ _ (hk _ _ ho)) (wpAny_pure q))
  · refine Bool.eq_false_iff.mpr fun r => ?_
    have e : D = tp := Value.ref.inj (beq_iff_eq.mp r)
    subst e
    have z := (hk _ _ ho).symm.trans ht
    cases z
end
def rIsX (K : PySem.W.Frag) (D a z : Addr) : List V → Hp → VK → Prop := fun xs H Q => ∃ (w : V) (k : Value) (b : Bool) (ys : List (Str × V)), H z = some (.xd ys) ∧ xs = [.ref a, w] ∧ (∀ u, RelV w u → u = k) ∧ PySem.W.kitOne K (.ref D) k = some b ∧ Q (.bl b) H
section
variable {N : Nm} {Z : Sta × Hp} {X X0 : Cx} {a z : Addr} {oe : Obj} {pn : List (Addr × Obj)} {i c : Nat} {fs : List Nat} {ds : List D}
theorem call_isX {Dc : Addr} (C : ExcC X.K Dc) (hp : ∀ (pins : List (Addr × Obj)) (σ : L2.St) (H : Hp) (s : Shared), Inv X pins σ H s → s.heap.get? a = some oe) (hz : Zc (.ref Dc) (some z) oe) (hf : ∃ vs, oe.data = .fields vs) : CallR X (.builtin "isinstance") (rIsX X.K Dc a z) := by
  intro pins s σ H xs us Q I r h
  obtain ⟨w, k, b, ys, hd, rfl, hw, e, q⟩ := h
  cases r with
  | cons rx rr =>
    cases rr with
    | cons rt rr =>
      cases rr
      cases rx
      cases hw _ rt
      have hget := hp _ _ _ _ I
      obtain ⟨vs, hv⟩ := hf
      have hx : ObjOk X.prog X.w H s.heap z (.xd ys) := I.hok z _ hd
      obtain ⟨mA, hns, hr⟩ := hx
      obtain ⟨od, _, _, hod, _⟩ := hns
      have J : PySem.W.InstAt s.heap a oe Dc (some od) := ⟨hget, hz.1, by unfold PySem.W.notCls; rw [hv] <;> rfl, by rw [hz.2]; exact hod⟩
      exact PySem.W.kia_one (kit_err C) I.kIn J e (fun q => nomatch q) fun tk => ⟨.bl b, H, I.kept (t' := tk) fun _ _ q => q, rfl, q⟩
structure SuX (N : Nm) (X : Cx) (xf : Bool) (i c : Nat) (fs : List Nat) (ds : List D) (a z : Addr) : Prop where
  xs : N.xs = some (i, c, fs, ds, a, z)
  pin : ∃ (oe : Obj) (L : List (Addr × Obj)), Zc (.ref (N.ca c)) (some z) oe ∧ (∃ vs, oe.data = .fields vs) ∧ L2C.HotK X (a, oe) L
  su : xf = true → ∃ (X0 : Cx) (oe : Obj) (pn : List (Addr × Obj)), X = X0.suite a ((a, oe) :: pn) ∧ Zc (.ref (N.ca c)) (some z) oe ∧ ∃ vs, oe.data = .fields vs
theorem SuX.at {xf : Bool} (U : SuX N X xf i c fs ds a z) {H : Hp} {σ : L2.St} {ρ : Env} (rs : RS N H σ ρ) {c' : Nat} {fs' : List Nat} {ds' : List D} (e : ρ[i]? = some (some (.exc c' fs' ds'))) : c' = c ∧ fs' = fs ∧ ds' = ds ∧ σ[i]? = some (some (.ref a)) ∧
    ∃ (xs : List (Str × V)) (vs : List V), H z = some (.xd xs) ∧ RDs N H ds vs ∧ fs.length = vs.length ∧ ∀ (i : Nat) f v, fs[i]? = some f → vs[i]? = some v → xs.lookup (N.fnm f) = some v := by
  obtain ⟨h1, h2, h3⟩ := rs
  obtain ⟨v, e1, e2⟩ := h2 i _ e
  rcases e2 with e2 | ⟨c2, f2, d2, a2, z2, e3, e4, e5⟩
  · simp only [RD] at e2
  · rw [U.xs] at e3
    cases e3
    cases e4
    subst e5
    unfold XOk at h3
    rw [U.xs] at h3
    exact ⟨rfl, rfl, rfl, e1, h3⟩
theorem he_xis {xf : Bool} (U : SuX N X xf i c fs ds a z) {x y : Str} {l : List (Nat × Bool)} {k : Addr} {p p1 p2 pos : Pos} (hC : ExcC X.K (N.ca c)) (hN : X.N[i]? = some x) (hv : Vis X.env.scope x) (n1 : (x == ("__debug__" : Str)) = false) (n2 : (x == ("__classdict__" : Str)) = false)
    (hg : Gl X "isinstance") (hm : X.mg "isinstance" = none) (hg2 : Gl X y) (hm2 : X.mg y = some (.ref k)) (n3 : (y == ("__debug__" : Str)) = false) (tab : ∀ b, l.lookup c = some b → PySem.W.kitOne X.K (.ref (N.ca c)) (.ref k) = some b) :
    PE X (.Call (.Name "isinstance" p) [.Name x p1, .Name y p2] [] pos) (tOf N Z fun ρ S Q => ∃ c fs ds, ρ[i]? = some (some (.exc c fs ds)) ∧ ∃ b, l.lookup c = some b ∧ Q (.bl b) S) := by
  obtain ⟨oe, L, hz, hf, hk0⟩ := U.pin
  have hin : (a, oe) ∈ X.pn := hk0.mem _ (List.mem_cons_self ..)
  have hp : ∀ (pins : List (Addr × Obj)) (σ : L2.St) (H : Hp) (s : Shared), Inv X pins σ H s → s.heap.get? a = some oe := fun pins σ H s I => (I.pin (a, oe) (List.mem_append.mpr (.inl hin))).1
  have e1 : PE X (.Name x p1) _ := pe_var hN hv n1 n2
  have e2 : PE X (.Name y p2) (tC (.ref k)) := pe_glob hg2 hm2 (show RelV (.ref k) (.ref k) from rfl) n3
  refine pimp (pe_callF (call_isX hC hp hz hf) (.fn _ rfl) hg hm (by decide +kernel) (by decide +kernel) (by decide +kernel) (pa_cons e1 (pa_cons e2 pa_nil rfl) (starEach_plain _ rfl)) rfl) fun σ H Q ⟨ρ, S, Qh, rs, rh, fz, ⟨c', fs', ds', e3, b, e4, q⟩, kn⟩ => ?_
  obtain ⟨rfl, rfl, rfl, e5, xs, vs, e6, _⟩ := U.at rs e3
  exact ⟨.ref a, e5, .ref k, .ref k, b, xs, e6, rfl, fun u hu => hu, tab _ e4, kn.at rh mk_bl q⟩
theorem he_xisB {xf : Bool} (U : SuX N X xf i c fs ds a z) {x y : Str} {l : List (Nat × Bool)} {n : String} {p p1 p2 pos : Pos} (hC : ExcC X.K (N.ca c)) (hN : X.N[i]? = some x) (hv : Vis X.env.scope x) (n1 : (x == ("__debug__" : Str)) = false) (n2 : (x == ("__classdict__" : Str)) = false)
    (hg : Gl X "isinstance") (hm : X.mg "isinstance" = none) (hg2 : Gl X y) (hm2 : X.mg y = none) (hb1 : bootBuiltins y = some (.type n)) (hb2 : y ≠ "__name__") (hb3 : (y == ("__debug__" : Str)) = false) (tab : ∀ b, l.lookup c = some b → PySem.W.kitOne X.K (.ref (N.ca c)) (.type n) = some b) :
    PE X (.Call (.Name "isinstance" p) [.Name x p1, .Name y p2] [] pos) (tOf N Z fun ρ S Q => ∃ c fs ds, ρ[i]? = some (some (.exc c fs ds)) ∧ ∃ b, l.lookup c = some b ∧ Q (.bl b) S) := by
  obtain ⟨oe, L, hz, hf, hk0⟩ := U.pin
  have hin : (a, oe) ∈ X.pn := hk0.mem _ (List.mem_cons_self ..)
  have hp : ∀ (pins : List (Addr × Obj)) (σ : L2.St) (H : Hp) (s : Shared), Inv X pins σ H s → s.heap.get? a = some oe := fun pins σ H s I => (I.pin (a, oe) (List.mem_append.mpr (.inl hin))).1
  have e1 : PE X (.Name x p1) _ := pe_var hN hv n1 n2
  have e2 : PE X (.Name y p2) (tC (.ty n)) := pe_bltn hg2 hm2 hb1 rfl hb2 hb3
  refine pimp (pe_callF (call_isX hC hp hz hf) (.fn _ rfl) hg hm (by decide +kernel) (by decide +kernel) (by decide +kernel) (pa_cons e1 (pa_cons e2 pa_nil rfl) (starEach_plain _ rfl)) rfl) fun σ H Q ⟨ρ, S, Qh, rs, rh, fz, ⟨c', fs', ds', e3, b, e4, q⟩, kn⟩ => ?_
  obtain ⟨rfl, rfl, rfl, e5, xs, vs, e6, _⟩ := U.at rs e3
  exact ⟨.ref a, e5, .ty n, .type n, b, xs, e6, rfl, fun u hu => hu, tab _ e4, kn.at rh mk_bl q⟩
theorem he_xfl (U : SuX N X true i c fs ds a z) {x f : Str} {n : Nat} {p1 pos : Pos} (hC : XfC X.K (N.ca c)) (hno : PySem.W.findIn X.K (.ref (N.ca c)) f = some none) (hfn : N.fnm n = f) (hN : X.N[i]? = some x) (hv : Vis X.env.scope x) (n1 : (x == ("__debug__" : Str)) = false) (n2 : (x == ("__classdict__" : Str)) = false) :
    PE X (.Attribute (.Name x p1) f pos) (tOf N Z fun ρ S Q => ∃ c fs ds, ρ[i]? = some (some (.exc c fs ds)) ∧ ∃ y, (fs.zip ds).lookup n = some y ∧ Q y S) := by
  obtain ⟨X0, oe, pn, eX, hz, hf⟩ := U.su rfl
  have e1 : PE X (.Name x p1) _ := pe_var hN hv n1 n2
  subst eX
  refine pimp (pe_xf hC hno hz hf e1) fun σ H Q ⟨ρ, S, Qh, rs, rh, fz, ⟨c', fs', ds', e3, y, e4, q⟩, kn⟩ => ?_
  obtain ⟨rfl, rfl, rfl, e5, xs, vs, e6, r, hl, hx⟩ := U.at rs e3
  have go : ∀ (fs : List Nat) (ds : List D) (vs : List V), RDs N H ds vs → (fs.zip ds).lookup n = some y → ∃ (j : Nat) (v : V), fs[j]? = some n ∧ vs[j]? = some v ∧ RD N H y v := fun fs => by
    induction fs with
    | nil => intro ds vs _ h; simp at h
    | cons g r ih =>
      intro ds vs rr h
      cases ds with
      | nil => simp at h
      | cons d ds =>
        obtain ⟨v, t, rfl, h1, h2⟩ := rr.uncons
        simp only [List.zip_cons_cons, List.lookup] at h
        split at h
        · rename_i hb
          cases h
          exact ⟨0, v, by simpa using (beq_iff_eq.mp hb).symm, rfl, h1⟩
        · obtain ⟨j, w, a1, a2, a3⟩ := ih ds t h2 h
          exact ⟨j + 1, w, by simpa using a1, by simpa using a2, a3⟩
  obtain ⟨j, v, a1, a2, a3⟩ := go _ _ _ r e4
  have e7 := hx j n v a1 a2
  rw [hfn] at e7
  exact ⟨.ref a, e5, rfl, rfl, z, xs, v, rfl, e6, e7, kn.at rh a3 q⟩
end
structure Cl where
  c : Value → Option Bool
  two : Bool
  i : Option Nat
  ts : Addr → Value → Option Addr → TS
def upE (i : Nat) (D : L2.Ends) : L2.Ends := { nx := fun σ H => D.nx (σ.set i none) H, rt := D.rt, bk := fun σ H => D.bk (σ.set i none) H, ct := fun σ H => D.ct (σ.set i none) H }
def inCl (k : Cl) (D : L2.Ends) (a : Addr) (cls : Value) (d : Option Addr) (σ : L2.St) (H : Hp) : Prop := match k.i with
  | none => k.ts a cls d D σ H
  | some i => k.ts a cls d (upE i D) (σ.set i (some (.ref a))) H
def wCl (K : PySem.W.Frag) (Wout : WX) (D : L2.Ends) : List Cl → WX
  | [] => Wout
  | k :: r => fun cls d σ H => ∃ b, k.c cls = some b ∧ (b = true → ∀ a, H a = none → inCl k D a cls d σ H) ∧ (b = false → k.two = false ∧ wCl K Wout D r cls d σ H)
inductive ClOk (X : Cx) (Wout : WX) : List ExceptHandler → List Cl → Prop
  | nil : ClOk X Wout [] []
  | bare {x : Str} {c : Value} {ts : Addr → Value → Option Addr → TS} {b₀ : Stmt} {suite : List Stmt} {p1 p2 : Pos} {hs : List ExceptHandler} {l : List Cl} (hc : Names X x c)
      (su : ∀ (a : Addr) (oe : Obj) (cls : Value) (d : Option Addr) (cx : Value) (L pn : List (Addr × Obj)), L2C.Zx cls d cx oe → (∃ vs, oe.data = .fields vs) → L2C.HotK (X.suite a ((a, oe) :: pn)) (a, oe) L → PSs (X.suite a ((a, oe) :: pn)) (b₀ :: suite) (ts a cls d)) (r : ClOk X Wout hs l) :
      ClOk X Wout (.ExceptHandler (some (.Name x p1)) none (b₀ :: suite) p2 :: hs) (⟨fun cls => PySem.W.exmOne X.K cls c, false, none, ts⟩ :: l)
  | named {x n : Str} {i : Nat} {c : Value} {ts : Addr → Value → Option Addr → TS} {b₀ : Stmt} {suite : List Stmt} {p1 p2 : Pos} {hs : List ExceptHandler} {l : List Cl} (hc : Names X x c) (hi : X.N[i]? = some n) (hl : X.env.kindOf n = some .local)
      (su : ∀ (a : Addr) (oe : Obj) (cls : Value) (d : Option Addr) (cx : Value) (L pn : List (Addr × Obj)), L2C.Zx cls d cx oe → (∃ vs, oe.data = .fields vs) → L2C.HotK (X.suite a ((a, oe) :: pn)) (a, oe) L → PSs (X.suite a ((a, oe) :: pn)) (b₀ :: suite) (ts a cls d)) (r : ClOk X Wout hs l) :
      ClOk X Wout (.ExceptHandler (some (.Name x p1)) (some n) (b₀ :: suite) p2 :: hs) (⟨fun cls => PySem.W.exmOne X.K cls c, false, some i, ts⟩ :: l)
  | bare2 {x y : Str} {c c2 : Value} {ts : Addr → Value → Option Addr → TS} {b₀ : Stmt} {suite : List Stmt} {p1 p2 p3 p4 : Pos} {kk : Nat} {hs : List ExceptHandler} {l : List Cl} (hc : Names X x c) (hc2 : Names X y c2)
      (su : ∀ (a : Addr) (oe : Obj) (cls : Value) (d : Option Addr) (cx : Value) (L pn : List (Addr × Obj)), L2C.Zx cls d cx oe → (∃ vs, oe.data = .fields vs) → L2C.HotK (X.suite a ((a, oe) :: pn)) (a, oe) L → PSs (X.suite a ((a, oe) :: pn)) (b₀ :: suite) (ts a cls d)) (r : ClOk X Wout hs l) :
      ClOk X Wout (.ExceptHandler (some (.Tuple [.Name x p1, .Name y p2] kk p3)) none (b₀ :: suite) p4 :: hs) (⟨fun cls => PySem.W.exmAny X.K cls [c, c2], true, none, ts⟩ :: l)
  | named2 {x y n : Str} {i : Nat} {c c2 : Value} {ts : Addr → Value → Option Addr → TS} {b₀ : Stmt} {suite : List Stmt} {p1 p2 p3 p4 : Pos} {kk : Nat} {hs : List ExceptHandler} {l : List Cl} (hc : Names X x c) (hc2 : Names X y c2) (hi : X.N[i]? = some n) (hl : X.env.kindOf n = some .local)
      (su : ∀ (a : Addr) (oe : Obj) (cls : Value) (d : Option Addr) (cx : Value) (L pn : List (Addr × Obj)), L2C.Zx cls d cx oe → (∃ vs, oe.data = .fields vs) → L2C.HotK (X.suite a ((a, oe) :: pn)) (a, oe) L → PSs (X.suite a ((a, oe) :: pn)) (b₀ :: suite) (ts a cls d)) (r : ClOk X Wout hs l) :
      ClOk X Wout (.ExceptHandler (some (.Tuple [.Name x p1, .Name y p2] kk p3)) (some n) (b₀ :: suite) p4 :: hs) (⟨fun cls => PySem.W.exmAny X.K cls [c, c2], true, some i, ts⟩ :: l)
  | namedR {x n : Str} {i : Nat} {c : Value} {ts : Addr → Value → Option Addr → TS} {b₀ : Stmt} {suite : List Stmt} {p1 p2 : Pos} {hs : List ExceptHandler} {l : List Cl} (hc : Names X x c) (hi : X.N[i]? = some n) (hl : X.env.kindOf n = some .local)
      (su : ∀ (a : Addr) (oe : Obj) (cls : Value) (d : Option Addr) (cx : Value) (L pn : List (Addr × Obj)) (xe : Value → Shared → Prop), L2C.Zx cls d cx oe → (∃ vs, oe.data = .fields vs) → X.base.get? a = none → L2C.HotK (L2C.sx X a ((a, oe) :: pn) xe) (a, oe) L →
        L2C.Takes (L2C.sx X a ((a, oe) :: pn) xe) (fun k z σ H => Wout k z (σ.set i none) H) → PSs (L2C.sx X a ((a, oe) :: pn) xe) (b₀ :: suite) (ts a cls d)) (r : ClOk X Wout hs l) :
      ClOk X Wout (.ExceptHandler (some (.Name x p1)) (some n) (b₀ :: suite) p2 :: hs) (⟨fun cls => PySem.W.exmOne X.K cls c, false, some i, ts⟩ :: l)
  | named2R {x y n : Str} {i : Nat} {c c2 : Value} {ts : Addr → Value → Option Addr → TS} {b₀ : Stmt} {suite : List Stmt} {p1 p2 p3 p4 : Pos} {kk : Nat} {hs : List ExceptHandler} {l : List Cl} (hc : Names X x c) (hc2 : Names X y c2) (hi : X.N[i]? = some n) (hl : X.env.kindOf n = some .local)
      (su : ∀ (a : Addr) (oe : Obj) (cls : Value) (d : Option Addr) (cx : Value) (L pn : List (Addr × Obj)) (xe : Value → Shared → Prop), L2C.Zx cls d cx oe → (∃ vs, oe.data = .fields vs) → X.base.get? a = none → L2C.HotK (L2C.sx X a ((a, oe) :: pn) xe) (a, oe) L →
        L2C.Takes (L2C.sx X a ((a, oe) :: pn) xe) (fun k z σ H => Wout k z (σ.set i none) H) → PSs (L2C.sx X a ((a, oe) :: pn) xe) (b₀ :: suite) (ts a cls d)) (r : ClOk X Wout hs l) :
      ClOk X Wout (.ExceptHandler (some (.Tuple [.Name x p1, .Name y p2] kk p3)) (some n) (b₀ :: suite) p4 :: hs) (⟨fun cls => PySem.W.exmAny X.K cls [c, c2], true, some i, ts⟩ :: l)
theorem flyZ_keep {B h h' : Heap} {l : List PySem.Env} {e : Addr} {Z : Obj → Prop} (F : HandSPX.FlyingZ B l e Z h) (k : ∀ b o, h.get? b = some o → h'.get? b = some o) : HandSPX.FlyingZ B l e Z h' := by
  obtain ⟨f1, f2, f3, oe, vs, t, ot, ts, g1, g2, g3, g4, g5, g6, g7, g8, g9⟩ := F
  exact ⟨fun b o q => k b o (f1 b o q), f2, f3.of_keeps fun b o q _ => ⟨o, k b o q, rfl⟩, oe, vs, t, ot, ts, k _ _ g1, g2, g3, g4, g5, g6, k _ _ g7, g8, g9⟩
section
variable {X : Cx} {body : List Stmt} {h₀ : ExceptHandler} {hs : List ExceptHandler} {l : List Cl} {pos : Pos} {tb : WX → TS} {Wout : WX}
theorem ps_tryA (hpa : L2C.PassX X) (hst : X.stack = X.env :: X.outer) (hfr : X.env.frame = some X.env.locals) (hN : X.N.Nodup) (tk : L2C.Takes X Wout)
    (hb : ∀ (W : WX) (pn : List (Addr × Obj)) (xe : Value → Shared → Prop), L2C.Takes (X.tr pn xe) W → L2C.PassX (X.tr pn xe) → PSs (X.tr pn xe) body (tb W)) (hh : ClOk X Wout (h₀ :: hs) l) :
    PS X (.Try body (h₀ :: hs) [] [] pos) (fun D σ H => tb (wCl X.K Wout D l) D σ H) := by
  refine ⟨fun pins s σ H D I h => ?_⟩
  have ok := I.ok
  have fr : X.A.frames = some (X.env :: X.outer) := by rw [ok.frames, hst]
  let catch_ : Value → Shared → Prop := fun e s₁ => wpAny (model X.prog X.w) X.A (noteFrame e X.env) (fun _ s₂ => wpAny (model X.prog X.w) X.A (setFlight e none) (fun _ s₃ => wpAny (model X.prog X.w) X.A (handleBy e X.env (h₀ :: hs)) (SP X pins D) X.xe s₃) X.xe s₂) X.xe s₁
  have caught : L2C.Takes (X.tr (X.pn ++ pins) catch_) (wCl X.K Wout D l) := by
    intro u s' air
    obtain ⟨a, cx, L, B, sI, pins', σ', H', cls, d, rfl, J', nb, up, sky, ch, na, os, ag, w⟩ := air
    have J := J'.ofTry ok
    have sky' : Sky B (X.env :: X.outer) a (L2C.Zx cls d cx) X.env.locals s'.heap := by rw [← hst]; exact sky
    refine L2N.Sky.land L2C.Zx.steady fr hfr sky' fun h3 fl3 up3 => ?_
    have J3 : Inv X pins σ' H' { s' with heap := h3 } := J.landed nb fl3.1 (up.trans up3) os ag
    obtain ⟨oe3, vs3, he3, hz3, hd3⟩ := fl3.there
    have noFrame : a ∉ frs (X.env :: X.outer) := fun hm => by
      obtain ⟨_, o', e', hnf⟩ := fl3.2.2.1.mem hm
      rw [he3] at e'
      cases e'
      exact hnf _ hd3
    have nL : a ≠ X.env.locals := fun z => noFrame (List.mem_filterMap.mpr ⟨X.env, List.mem_cons_self, by rw [hfr, z]⟩)
    have nF : a ∉ X.fs := fun hm => by
      obtain ⟨e, he, q⟩ := List.mem_filterMap.mp hm
      exact noFrame (List.mem_filterMap.mpr ⟨e, List.mem_cons_of_mem _ he, q⟩)
    have more : ∀ {h : Heap}, HandSPX.FlyingZ B (X.env :: X.outer) a (L2C.Zx cls d cx) h → Inv X pins σ' H' { s' with heap := h } → Inv X (pins ++ L) σ' H' { s' with heap := h } := fun fl J => L2C.inv_more J (L2C.chain_at hfr ch fl.1 fl.2.2.1)
    have subL : ∀ p ∈ L, p ∈ X.pn ++ (pins ++ L) := fun p hp => List.mem_append_right _ (List.mem_append_right _ hp)
    have subX : ∀ p ∈ X.pn, ∀ q, p ∈ q :: (X.pn ++ (pins ++ L)) := fun p hp q => List.mem_cons_of_mem _ (List.mem_append_left _ hp)
    have notB : X.base.get? a = none := by
      cases e : X.base.get? a with
      | none => rfl
      | some o =>
        have y := nb a o (J.bk a o e) (L2C.not_stack J nL nF)
        rw [fl3.2.1] at y
        cases y
    have S3 := (more fl3 J3).suite he3 hd3 na nL nF
    have LT : PySem.W.Looks (model X.prog X.w) h3 (typeOf (.ref a)) cls := fun A Q E s k q => wpAny_typeOf_ref (k _ _ he3) (by rw [hz3.1]; exact q)
    have nameIs : ∀ {x : Str} {p1 : Pos} {c : Value} {Q E : Value → Shared → Prop}, Names X x c → Q c { s' with heap := h3 } → wpAny (model X.prog X.w) (X.A.mark (some (.ref a))) (eval (.Name x p1) X.env) Q E { s' with heap := h3 } := fun {x p1 c Q E} hc q => by
      obtain ⟨hg, hd, hm | ⟨hm, hv, hn⟩⟩ := hc
      · exact ld_glob (X := X.suite a ((a, oe3) :: (X.pn ++ (pins ++ L)))) S3 hg hm q hd
      · exact ld_blt (X := X.suite a ((a, oe3) :: (X.pn ++ (pins ++ L)))) S3 hg hm hv q hn hd
    have go : ∀ {hs' : List ExceptHandler} {l' : List Cl}, ClOk X Wout hs' l' → wCl X.K Wout D l' cls d σ' H' → wpAny (model X.prog X.w) X.A (handleBy (.ref a) X.env hs') (SP X pins D) X.xe { s' with heap := h3 } := by
      intro hs' l' hk
      induction hk with
      | nil =>
        intro w
        refine wpAny_handleBy_nil ?_
        obtain ⟨k1, k2, k3, oe, vs, T, oT, ts', he, hz, hd, h1, hr⟩ := id fl3
        unfold PySem.passOn
        refine wpAny_bind (wpAny_field he hd h1 ?_)
        rw [if_neg (show ¬ ((Value.ref T == Value.none) = true) from by simp)]
        have on : wpAny (model X.prog X.w) X.A (setFlight (.ref a) X.env.frame) (fun _ s4 => wpAny (model X.prog X.w) X.A (throw (.ref a) : Sem Flow) (SP X pins D) X.xe s4) X.xe { s' with heap := h3 } := by
          rw [hfr]
          refine HandSPX.setFlight_upZ fl3 fun h4 hh4 up4 => wpAny_throw (tk _ _ ?_)
          exact ⟨a, cx, L, B, sI, pins, σ', H', cls, d, rfl, J, nb, (up.trans up3).trans up4, .inr (.inr (by rw [hst]; exact hh4)), ch, na, os, ag, w⟩
        first
          | exact wpAny_bind (wpAny_pure (wpAny_bind on))
          | exact wpAny_bind on
      | @bare x c ts b₀ suite p1 p2 hs2 l2 hc su r ih =>
        intro w
        obtain ⟨b, e1, yes, no⟩ := w
        refine wpAny_handleBy_cons (codeAny_handlers_test (nameIs hc ((PySem.W.exm_one (M := model X.prog X.w) J3.kIn LT e1).here ?_))) (by intro q; cases q)
        cases b with
        | false => exact ih (no rfl).2
        | true =>
          refine codeAny_handlers_suite (HandSPX.lands_againZ fl3 fun h4 fl4 up4 => ?_)
          have J4 : Inv X pins σ' H' { s' with heap := h4 } := J.landed nb fl4.1 ((up.trans up3).trans up4) os ag
          obtain ⟨oe4, vs4, he4, hz4, hd4⟩ := fl4.there
          refine wpAny_mono ((su a oe4 cls d cx L (X.pn ++ (pins ++ L)) hz4 ⟨_, hd4⟩ (L2C.hot_suite hd4 hz4 ch.1 subL)).run [] _ _ H' D ((more fl4 J4).suite he4 hd4 na nL nF) (yes rfl a na)) (fun f s6 hsp => ?_) (fun _ _ z => False.elim z)
          cases f with
          | ret u =>
            obtain ⟨v6, σ6, H6, S6, r6, q6⟩ := hsp
            exact ⟨_, _, _, L2C.inv_less (S6.unsuite ok), r6, q6⟩
          | _ =>
            obtain ⟨σ6, H6, S6, q6⟩ := hsp
            exact ⟨_, _, L2C.inv_less (S6.unsuite ok), q6⟩
      | @named x n i c ts b₀ suite p1 p2 hs2 l2 hc hi hl su r ih =>
        intro w
        obtain ⟨b, e1, yes, no⟩ := w
        refine wpAny_handleBy_cons (codeAny_handlers_test (nameIs hc ((PySem.W.exm_one (M := model X.prog X.w) J3.kIn LT e1).here ?_))) (by intro q; cases q)
        cases b with
        | false => exact ih (no rfl).2
        | true =>
          refine codeAny_handlers_suite_as (HandSPX.lands_againZ fl3 fun h4 fl4 up4 => ?_)
          have J4 : Inv X pins σ' H' { s' with heap := h4 } := J.landed nb fl4.1 ((up.trans up3).trans up4) os ag
          obtain ⟨oe4, vs4, he4, hz4, hd4⟩ := fl4.there
          refine store_ok (X := X.suite a ((a, oe4) :: (X.pn ++ (pins ++ L)))) (v := .ref a) ((more fl4 J4).suite he4 hd4 na nL nF) hN hi (.inl hl) rfl (fun s5 S5 => ?_) (.inr hl)
          refine wpAny_mono ((su a oe4 cls d cx L (X.pn ++ (pins ++ L)) hz4 ⟨_, hd4⟩ (L2C.hot_suite hd4 hz4 ch.1 subL)).run [] s5 _ H' (upE i D) S5 (yes rfl a na)) (fun f s6 hsp => ?_) (fun _ _ z => False.elim z)
          have away : ∀ {σ6 : L2.St} {H6 : Hp} {Q : Shared → Prop}, Inv (X.suite a ((a, oe4) :: (X.pn ++ (pins ++ L)))) [] σ6 H6 s6 → (∀ s7, Inv X pins (σ6.set i none) H6 s7 → Q s7) →
              wpAny (model X.prog X.w) X.A (do bindName X.env n .none; unbindBehindTheSuite X.env n p2) (fun _ s7 => Q s7) X.xe s6 := fun S6 q => gone_ok (L2C.inv_less (S6.unsuite ok)) hN hi hl q
          cases f with
          | ret u =>
            obtain ⟨v6, σ6, H6, S6, r6, q6⟩ := hsp
            exact away S6 fun s7 J7 => ⟨_, _, _, J7, r6, q6⟩
          | _ =>
            obtain ⟨σ6, H6, S6, q6⟩ := hsp
            exact away S6 fun s7 J7 => ⟨_, _, J7, q6⟩
      | @bare2 x y c c2 ts b₀ suite p1 p2 p3 p4 kk hs2 l2 hc hc2 su r ih =>
        intro w
        obtain ⟨b, e1, yes, no⟩ := w
        cases b with
        | false => exact absurd (no rfl).1 (by simp)
        | true =>
          have kp : ∀ q o, h3.get? q = some o → (h3.push { cls := .type "tuple", data := .seq [c, c2].toArray }).get? q = some o := fun _ _ z => Heap.get?_push_of_some _ z
          have flp := flyZ_keep fl3 kp
          refine wpAny_handleBy_cons (codeAny_handlers_test (wpAny_Tuple (wpAny_items_cons (nameIs hc (wpAny_items_cons (nameIs hc2 (wpAny_items_nil ⟨by size_fits, (PySem.W.exm_tup2 (M := model X.prog X.w) (J3.kIn.keeps kp) (LT.keeps kp) (Heap.get?_push_size h3 rfl) e1).here ?_⟩))))))) (by intro q; cases q)
          refine codeAny_handlers_suite (HandSPX.lands_againZ (s := { s' with heap := h3.push { cls := .type "tuple", data := .seq [c, c2].toArray } }) flp fun h4 fl4 up4 => ?_)
          have J4 : Inv X pins σ' H' { s' with heap := h4 } := J.landed nb fl4.1 (((up.trans up3).trans (Heap.UpToSlots.of_keeps kp)).trans up4) os ag
          obtain ⟨oe4, vs4, he4, hz4, hd4⟩ := fl4.there
          refine wpAny_mono ((su a oe4 cls d cx L (X.pn ++ (pins ++ L)) hz4 ⟨_, hd4⟩ (L2C.hot_suite hd4 hz4 ch.1 subL)).run [] _ _ H' D ((more fl4 J4).suite he4 hd4 na nL nF) (yes rfl a na)) (fun f s6 hsp => ?_) (fun _ _ z => False.elim z)
          cases f with
          | ret u =>
            obtain ⟨v6, σ6, H6, S6, r6, q6⟩ := hsp
            exact ⟨_, _, _, L2C.inv_less (S6.unsuite ok), r6, q6⟩
          | _ =>
            obtain ⟨σ6, H6, S6, q6⟩ := hsp
            exact ⟨_, _, L2C.inv_less (S6.unsuite ok), q6⟩
      | @named2 x y n i c c2 ts b₀ suite p1 p2 p3 p4 kk hs2 l2 hc hc2 hi hl su r ih =>
        intro w
        obtain ⟨b, e1, yes, no⟩ := w
        cases b with
        | false => exact absurd (no rfl).1 (by simp)
        | true =>
          have kp : ∀ q o, h3.get? q = some o → (h3.push { cls := .type "tuple", data := .seq [c, c2].toArray }).get? q = some o := fun _ _ z => Heap.get?_push_of_some _ z
          have flp := flyZ_keep fl3 kp
          refine wpAny_handleBy_cons (codeAny_handlers_test (wpAny_Tuple (wpAny_items_cons (nameIs hc (wpAny_items_cons (nameIs hc2 (wpAny_items_nil ⟨by size_fits, (PySem.W.exm_tup2 (M := model X.prog X.w) (J3.kIn.keeps kp) (LT.keeps kp) (Heap.get?_push_size h3 rfl) e1).here ?_⟩))))))) (by intro q; cases q)
          refine codeAny_handlers_suite_as (HandSPX.lands_againZ (s := { s' with heap := h3.push { cls := .type "tuple", data := .seq [c, c2].toArray } }) flp fun h4 fl4 up4 => ?_)
          have J4 : Inv X pins σ' H' { s' with heap := h4 } := J.landed nb fl4.1 (((up.trans up3).trans (Heap.UpToSlots.of_keeps kp)).trans up4) os ag
          obtain ⟨oe4, vs4, he4, hz4, hd4⟩ := fl4.there
          refine store_ok (X := X.suite a ((a, oe4) :: (X.pn ++ (pins ++ L)))) (v := .ref a) ((more fl4 J4).suite he4 hd4 na nL nF) hN hi (.inl hl) rfl (fun s5 S5 => ?_) (.inr hl)
          refine wpAny_mono ((su a oe4 cls d cx L (X.pn ++ (pins ++ L)) hz4 ⟨_, hd4⟩ (L2C.hot_suite hd4 hz4 ch.1 subL)).run [] s5 _ H' (upE i D) S5 (yes rfl a na)) (fun f s6 hsp => ?_) (fun _ _ z => False.elim z)
          have away : ∀ {σ6 : L2.St} {H6 : Hp} {Q : Shared → Prop}, Inv (X.suite a ((a, oe4) :: (X.pn ++ (pins ++ L)))) [] σ6 H6 s6 → (∀ s7, Inv X pins (σ6.set i none) H6 s7 → Q s7) →
              wpAny (model X.prog X.w) X.A (do bindName X.env n .none; unbindBehindTheSuite X.env n p4) (fun _ s7 => Q s7) X.xe s6 := fun S6 q => gone_ok (L2C.inv_less (S6.unsuite ok)) hN hi hl q
          cases f with
          | ret u =>
            obtain ⟨v6, σ6, H6, S6, r6, q6⟩ := hsp
            exact away S6 fun s7 J7 => ⟨_, _, _, J7, r6, q6⟩
          | _ =>
            obtain ⟨σ6, H6, S6, q6⟩ := hsp
            exact away S6 fun s7 J7 => ⟨_, _, J7, q6⟩
      | @namedR x n i c ts b₀ suite p1 p2 hs2 l2 hc hi hl su r ih =>
        intro w
        obtain ⟨b, e1, yes, no⟩ := w
        refine wpAny_handleBy_cons (codeAny_handlers_test (nameIs hc ((PySem.W.exm_one (M := model X.prog X.w) J3.kIn LT e1).here ?_))) (by intro q; cases q)
        cases b with
        | false => exact ih (no rfl).2
        | true =>
          refine codeAny_handlers_suite_as (HandSPX.lands_againZ fl3 fun h4 fl4 up4 => ?_)
          have J4 : Inv X pins σ' H' { s' with heap := h4 } := J.landed nb fl4.1 ((up.trans up3).trans up4) os ag
          obtain ⟨oe4, vs4, he4, hz4, hd4⟩ := fl4.there
          refine store_ok (X := X.suite a ((a, oe4) :: (X.pn ++ (pins ++ L)))) (v := .ref a) ((more fl4 J4).suite he4 hd4 na nL nF) hN hi (.inl hl) rfl (fun s5 S5 => ?_) (.inr hl)
          refine wpAny_mono ((su a oe4 cls d cx L (X.pn ++ (pins ++ L)) (AsSuiteRaised (model X.prog X.w) (X.A.mark (some (.ref a))) X.env n p2 (notedBy (model X.prog X.w) (X.A.mark (some (.ref a))) X.env (cameBackBy (model X.prog X.w) X.A X.env X.xe))) hz4 ⟨_, hd4⟩ notB
            (L2C.hot_suite hd4 hz4 ch.1 subL).sx (fun u t q => L2C.as_out hst hfr hpa.2 hN hi hl tk ok (fun p hp => subX p hp _) q)).run [] s5 _ H' (upE i D) (L2C.inv_sx S5) (yes rfl a na)) (fun f s6 hsp => ?_) (fun _ _ z => z)
          have away : ∀ {σ6 : L2.St} {H6 : Hp} {Q : Shared → Prop}, Inv (X.suite a ((a, oe4) :: (X.pn ++ (pins ++ L)))) [] σ6 H6 s6 → (∀ s7, Inv X pins (σ6.set i none) H6 s7 → Q s7) →
              wpAny (model X.prog X.w) X.A (do bindName X.env n .none; unbindBehindTheSuite X.env n p2) (fun _ s7 => Q s7) X.xe s6 := fun S6 q => gone_ok (L2C.inv_less (S6.unsuite ok)) hN hi hl q
          cases f with
          | ret u =>
            obtain ⟨v6, σ6, H6, S6, r6, q6⟩ := hsp
            exact away (L2C.inv_sx' S6) fun s7 J7 => ⟨_, _, _, J7, r6, q6⟩
          | _ =>
            obtain ⟨σ6, H6, S6, q6⟩ := hsp
            exact away (L2C.inv_sx' S6) fun s7 J7 => ⟨_, _, J7, q6⟩
      | @named2R x y n i c c2 ts b₀ suite p1 p2 p3 p4 kk hs2 l2 hc hc2 hi hl su r ih =>
        intro w
        obtain ⟨b, e1, yes, no⟩ := w
        cases b with
        | false => exact absurd (no rfl).1 (by simp)
        | true =>
          have kp : ∀ q o, h3.get? q = some o → (h3.push { cls := .type "tuple", data := .seq [c, c2].toArray }).get? q = some o := fun _ _ z => Heap.get?_push_of_some _ z
          have flp := flyZ_keep fl3 kp
          refine wpAny_handleBy_cons (codeAny_handlers_test (wpAny_Tuple (wpAny_items_cons (nameIs hc (wpAny_items_cons (nameIs hc2 (wpAny_items_nil ⟨by size_fits, (PySem.W.exm_tup2 (M := model X.prog X.w) (J3.kIn.keeps kp) (LT.keeps kp) (Heap.get?_push_size h3 rfl) e1).here ?_⟩))))))) (by intro q; cases q)
          refine codeAny_handlers_suite_as (HandSPX.lands_againZ (s := { s' with heap := h3.push { cls := .type "tuple", data := .seq [c, c2].toArray } }) flp fun h4 fl4 up4 => ?_)
          have J4 : Inv X pins σ' H' { s' with heap := h4 } := J.landed nb fl4.1 (((up.trans up3).trans (Heap.UpToSlots.of_keeps kp)).trans up4) os ag
          obtain ⟨oe4, vs4, he4, hz4, hd4⟩ := fl4.there
          refine store_ok (X := X.suite a ((a, oe4) :: (X.pn ++ (pins ++ L)))) (v := .ref a) ((more fl4 J4).suite he4 hd4 na nL nF) hN hi (.inl hl) rfl (fun s5 S5 => ?_) (.inr hl)
          refine wpAny_mono ((su a oe4 cls d cx L (X.pn ++ (pins ++ L)) (AsSuiteRaised (model X.prog X.w) (X.A.mark (some (.ref a))) X.env n p4 (notedBy (model X.prog X.w) (X.A.mark (some (.ref a))) X.env (cameBackBy (model X.prog X.w) X.A X.env X.xe))) hz4 ⟨_, hd4⟩ notB
            (L2C.hot_suite hd4 hz4 ch.1 subL).sx (fun u t q => L2C.as_out hst hfr hpa.2 hN hi hl tk ok (fun p hp => subX p hp _) q)).run [] s5 _ H' (upE i D) (L2C.inv_sx S5) (yes rfl a na)) (fun f s6 hsp => ?_) (fun _ _ z => z)
          have away : ∀ {σ6 : L2.St} {H6 : Hp} {Q : Shared → Prop}, Inv (X.suite a ((a, oe4) :: (X.pn ++ (pins ++ L)))) [] σ6 H6 s6 → (∀ s7, Inv X pins (σ6.set i none) H6 s7 → Q s7) →
              wpAny (model X.prog X.w) X.A (do bindName X.env n .none; unbindBehindTheSuite X.env n p4) (fun _ s7 => Q s7) X.xe s6 := fun S6 q => gone_ok (L2C.inv_less (S6.unsuite ok)) hN hi hl q
          cases f with
          | ret u =>
            obtain ⟨v6, σ6, H6, S6, r6, q6⟩ := hsp
            exact away (L2C.inv_sx' S6) fun s7 J7 => ⟨_, _, _, J7, r6, q6⟩
          | _ =>
            obtain ⟨σ6, H6, S6, q6⟩ := hsp
            exact away (L2C.inv_sx' S6) fun s7 J7 => ⟨_, _, J7, q6⟩
    exact go hh w
  refine wpAny_Try_except (wpAny_mono ((hb (wCl X.K Wout D l) (X.pn ++ pins) catch_ caught ⟨PassesOwn.looking, fun _ => PassesOwnAt.looking⟩).run [] s σ H D (I.toTry _) h) (fun f s1 hsp => ?_) fun e s1 he => he)
  cases f with
  | next =>
    obtain ⟨σ', H', J', q⟩ := hsp
    exact wpAny_execs_nil ⟨σ', H', J'.ofTry ok, q⟩
  | ret u =>
    obtain ⟨v, σ', H', J', r, q⟩ := hsp
    exact ⟨v, σ', H', J'.ofTry ok, r, q⟩
  | _ =>
    obtain ⟨σ', H', J', q⟩ := hsp
    exact ⟨σ', H', J'.ofTry ok, q⟩
end
def FlOk (N : Nm) : Prop := ∀ a ∈ N.fl, ∀ b ∈ N.fl, N.fnm a = N.fnm b → a = b
section
variable {N : Nm} {Z : Sta × Hp} {X : Cx} {S S' S1 : Sta} {H H' H1 : Hp} {Q : VK} {Qh : K} {σ : L2.St} {ρ : Env} {pos p apos cpos pos' : Pos} {a b c e o : Expr} {wa wb wc wo : Wp} {ws wz : Wps} {es : List Expr} {kws : List Keyword} {Ex : D → Env → Sta → Prop}
theorem fld_at (inj : FlOk N) {f : Nat} (hf : f ∈ N.fl) : ∀ {fs : List (Nat × D)} {gs : List (Str × V)}, gs.map (·.1) = fs.map (fun p => N.fnm p.1) → (∀ p ∈ fs, p.1 ∈ N.fl) → RDs N H (fs.map (·.2)) (gs.map (·.2)) → ∀ {d : D}, fget fs f = some d → ∃ v, gs.lookup (N.fnm f) = some v ∧ RD N H d v
  | [], _, _, _, _, d, e => by simp [fget] at e
  | (g, x) :: r, [], h, _, _, d, e => by simp at h
  | (g, x) :: r, (s, y) :: t, h, hin, rd, d, e => by
    simp only [List.map_cons, List.cons.injEq] at h
    obtain ⟨v1, t1, e1, h1, h2⟩ := rd.uncons
    simp only [List.map_cons, List.cons.injEq] at e1
    obtain ⟨rfl, rfl⟩ := e1
    have hg : g ∈ N.fl := hin (g, x) (List.mem_cons_self ..)
    simp only [fget, List.lookup] at e
    simp only [List.lookup]
    by_cases hfg : f = g
    · subst hfg
      rw [show (f == f) = true from by simp] at e
      cases e
      rw [h.1, show (N.fnm f == N.fnm f) = true from by simp]
      exact ⟨y, rfl, h1⟩
    · rw [show (f == g) = false from by simp [hfg]] at e
      have hn : (N.fnm f == s) = false := by
        rw [h.1]
        exact beq_eq_false_iff_ne.mpr fun z => hfg (inj f hf g hg z)
      rw [hn]
      exact fld_at inj hf h.2 (fun p hp => hin p (List.mem_cons_of_mem _ hp)) h2 e
theorem fput_at (inj : FlOk N) {f : Nat} (hf : f ∈ N.fl) {d : D} {v : V} (rv : RD N H d v) : ∀ {fs : List (Nat × D)} {gs : List (Str × V)}, gs.map (·.1) = fs.map (fun p => N.fnm p.1) → (∀ p ∈ fs, p.1 ∈ N.fl) → RDs N H (fs.map (·.2)) (gs.map (·.2)) →
    (putF (N.fnm f) v gs).map (·.1) = (fput f d fs).map (fun p => N.fnm p.1) ∧ (∀ p ∈ fput f d fs, p.1 ∈ N.fl) ∧ RDs N H ((fput f d fs).map (·.2)) ((putF (N.fnm f) v gs).map (·.2))
  | [], [], _, _, _ => ⟨rfl, fun p hp => by rw [List.mem_singleton.mp hp]; exact hf, .cons rv .nil⟩
  | [], _ :: _, h, _, _ => by simp at h
  | (g, x) :: r, [], h, _, _ => by simp at h
  | (g, x) :: r, (s, y) :: t, h, hin, rd => by
    simp only [List.map_cons, List.cons.injEq] at h
    obtain ⟨v1, t1, e1, h1, h2⟩ := rd.uncons
    simp only [List.map_cons, List.cons.injEq] at e1
    obtain ⟨rfl, rfl⟩ := e1
    have hg : g ∈ N.fl := hin (g, x) (List.mem_cons_self ..)
    have hin' : ∀ p ∈ r, p.1 ∈ N.fl := fun p hp => hin p (List.mem_cons_of_mem _ hp)
    simp only [putF, fput]
    by_cases hfg : g = f
    · subst hfg
      rw [if_pos h.1, if_pos rfl]
      refine ⟨by simp only [List.map_cons, h.1, h.2], fun p hp => ?_, .cons rv h2⟩
      rcases List.mem_cons.mp hp with rfl | hp
      · exact hg
      · exact hin' p hp
    · rw [if_neg (fun z => hfg (inj g hg f hf (h.1.symm.trans z))), if_neg hfg]
      obtain ⟨k1, k2, k3⟩ := fput_at inj hf rv h.2 hin' h2
      refine ⟨by simp only [List.map_cons, k1, h.1], fun p hp => ?_, .cons h1 k3⟩
      rcases List.mem_cons.mp hp with rfl | hp
      · exact hg
      · exact k2 p hp
structure FdOk (N : Nm) (K : PySem.W.Frag) (F : Nat) (f : Str) : Prop where
  nm : N.fnm F = f
  mem : F ∈ N.fl
  inj : FlOk N
  cls : ∀ c ∈ N.oc, L2.Cls K (N.ca c)
  no : ∀ c ∈ N.oc, NoAttr K (N.ca c) f
theorem he_at {F : Nat} {f : Str} (J : FdOk N X.K F f) (ha : PE X a (tOf N Z wa)) (hb : noSup a = true) : PE X (.Attribute a f pos) (tOf N Z fun ρ S Q => wa ρ S fun x S1 => wattr x F S1 Q) :=
  pimp (L2.pe_fld ha (noSup_ok hb)) fun σ H Q t => tOf.one (g := fun _ x S1 Q => wattr x F S1 Q) t fun ρ x S1 v H1 Qh rs rh fz rx g k => by
    cases x with
    | ref a =>
      cases rd_ref rx
      simp only [wattr] at g
      cases ea : S1 a with
      | none => rw [ea] at g; exact g.elim
      | some ob =>
        rw [ea] at g
        cases ob with
        | ins c fs =>
          obtain ⟨d, e, q⟩ := g
          obtain ⟨hc, hin, dx, gs, h1, h2, h3⟩ := at_ins rh ea
          obtain ⟨v, e2, rv⟩ := fld_at J.inj J.mem h2 hin h3 e
          rw [J.nm] at e2
          exact ⟨a, _, dx, gs, v, rfl, h1, J.cls c hc, J.no c hc, e2, k.at rh rv q⟩
        | _ => exact g.elim
    | exc c fs ds => simp only [RD] at rx
    | _ => exact False.elim g
theorem ins_put {F : Nat} {f : Str} (J : FdOk N X.K F f) {a : Addr} {c : Nat} {fs : List (Nat × D)} {d : D} {v : V} (rh : RH N H S) (rv : RD N H d v) (ea : S a = some (.ins c fs)) (hl : fs.length < 1000) :
    ∃ (dx : Addr) (gs : List (Str × V)), H a = some (.ins (N.ca c) dx gs) ∧ gs.length < 1000 ∧ L2.Cls X.K (N.ca c) ∧ NoAttr X.K (N.ca c) f ∧ RH N (upd H a (.ins (N.ca c) dx (putF f v gs))) (ups S a (.ins c (fput F d fs))) ∧ Fr S H (ups S a (.ins c (fput F d fs))) (upd H a (.ins (N.ca c) dx (putF f v gs))) ∧ Dle H (upd H a (.ins (N.ca c) dx (putF f v gs))) := by
  obtain ⟨hc, hin, dx, gs, h1, h2, h3⟩ := at_ins rh ea
  obtain ⟨k1, k2, k3⟩ := fput_at J.inj J.mem rv h2 hin h3
  rw [J.nm] at k1 k3
  have dl : Dle H (upd H a (.ins (N.ca c) dx (putF f v gs))) := dle_put h1 rfl
  refine ⟨dx, gs, h1, ?_, J.cls c hc, J.no c hc, rh.put h1 rfl (m := .ins c (fput F d fs)) ⟨hc, k2, dx, _, L2.upd_same, k1, k3.mono' dl⟩, Fr.put ea, dl⟩
  have := congrArg List.length h2
  simp only [List.length_map] at this
  omega
theorem hs_asgA {F : Nat} {f : Str} {we wa : Wx} (J : FdOk N X.K F f) (he : PE X e (tOf N Z (we Ex))) (ha : PE X a (tOf N Z (wa Ex))) (hs : swapsWith e (some (.Attribute a f pos')) pos.line X.env = pure false) :
    PS X (.Assign [.Attribute a f pos'] e pos) (tSs N Z Ex fun ρ S T => we T.ex ρ S fun d S1 => wa T.ex ρ S1 fun x S2 => wsetattr x F d S2 fun S3 => T.nx ρ S3) := by
  refine psimp (L2.ps_fld ha he hs) fun D σ H t => ?_
  refine eat (g := fun ρ d S1 T => wa T.ex ρ S1 fun x S2 => wsetattr x F d S2 fun S3 => T.nx ρ S3) t fun Y ρ S1 H1 d v T fy f1 rs rh r ex q en => ?_
  subst ex
  refine ⟨ρ, S1, _, rs, rh, fy.trans f1, q, fun x S2 u H2 f2 h2 r2 q2 => ?_⟩
  cases x with
  | ref a =>
    cases rd_ref r2
    simp only [wsetattr] at q2
    cases ea : S2 a with
    | none => rw [ea] at q2; exact q2.elim
    | some ob =>
      rw [ea] at q2
      cases ob with
      | ins c fs =>
        obtain ⟨hl, q2⟩ := q2
        obtain ⟨dx, gs, g1, g2, g3, g4, g5, g6, g7⟩ := ins_put J h2 (RD.mono (f2.dle rh) _ _ r) ea hl
        exact ⟨a, _, dx, gs, rfl, g1, g3, g4, g2, en.nx ρ _ σ _ ((rs.mono (f2.dle rh)).mono g7) g5 ((f1.trans f2).trans g6) q2⟩
      | _ => exact q2.elim
  | _ => exact False.elim q2
theorem hs_augA {F : Nat} {f : Str} {op : Bo} {we wa : Wx} (J : FdOk N X.K F f) (he : PE X e (tOf N Z (we Ex))) (ha : PE X a (tOf N Z (wa Ex))) :
    PS X (.AugAssign (.Attribute a f pos') (boOp op) e pos) (tSs N Z Ex fun ρ S T => wa T.ex ρ S fun x S1 => ∃ r c fs d, x = .ref r ∧ S1 r = some (.ins c fs) ∧ fget fs F = some d ∧ we T.ex ρ S1 fun y S3 => wip op d y S3 fun z S4 => ∃ fs', S4 r = some (.ins c fs') ∧ fs'.length < 1000 ∧ T.nx ρ (ups S4 r (.ins c (fput F z fs')))) := by
  refine psimp (L2.ps_fldaug (rd := rIp N op) ha he (iop_W op)) fun D σ H t => ?_
  refine eat (we := wa) (g := fun ρ x S1 T => ∃ r c fs d, x = .ref r ∧ S1 r = some (.ins c fs) ∧ fget fs F = some d ∧ we T.ex ρ S1 fun y S3 => wip op d y S3 fun z S4 => ∃ fs', S4 r = some (.ins c fs') ∧ fs'.length < 1000 ∧ T.nx ρ (ups S4 r (.ins c (fput F z fs')))) t fun Y ρ S1 H1 x v T fy f1 rs rh rr ex q en => ?_
  subst ex
  obtain ⟨r, c, fs, d, rfl, ea, e1, q⟩ := q
  cases rd_ref rr
  obtain ⟨hc, hin, dx, gs, h1, h2, h3⟩ := at_ins rh ea
  obtain ⟨w, e2, rw'⟩ := fld_at J.inj J.mem h2 hin h3 e1
  rw [J.nm] at e2
  refine ⟨r, _, dx, gs, w, rfl, h1, J.cls c hc, J.no c hc, e2, ρ, S1, _, rs, rh, fy.trans f1, q, fun y S2 u H2 f2 h2' r2 q2 => ?_⟩
  refine ⟨d, y, S2, _, h2', RD.mono (f2.dle rh) _ _ rw', r2, q2, fun z S3 u3 H3 f3 h3' r3 q3 => ?_⟩
  obtain ⟨fs', eb, hl, q3⟩ := q3
  obtain ⟨dx', gs', g1, g2, g3, g4, g5, g6, g7⟩ := ins_put J h3' r3 eb hl
  exact ⟨dx', gs', g1, g2, en.nx ρ _ σ _ (((rs.mono (f2.dle rh)).mono (f3.dle h2')).mono g7) g5 (((f1.trans f2).trans f3).trans g6) q3⟩
end
def shift1 : Sum Nat D → Sum Nat D
  | .inl i => .inl (i + 1)
  | .inr d => .inr d
def selfS : Shp → Shp
  | .perm l => .perm (.inl 0 :: l.map shift1)
  | .app es => .app es
theorem place_self (x : D) (ds : List D) : ∀ sh : Shp, place (selfS sh) (x :: ds) = x :: place sh ds
  | .app es => rfl
  | .perm l => by
    show placeL (.inl 0 :: l.map shift1) (x :: ds) = x :: placeL l ds
    unfold placeL
    rw [List.map_cons, List.map_map]
    congr 1
    refine List.map_congr_left fun y _ => ?_
    cases y with
    | inl i => simp [shift1]
    | inr d => rfl
section
variable {N : Nm} {Z : Sta × Hp} {X : Cx} {S S' S1 : Sta} {H H' H1 : Hp} {Q : VK} {Qh : K} {σ : L2.St} {ρ : Env} {pos p apos cpos pos' : Pos} {a b c e o : Expr} {wa wb wc wo : Wp} {ws wz : Wps} {es : List Expr} {kws : List Keyword} {Ex : D → Env → Sta → Prop}
theorem pe_newX {k n : Nat} {f C : Addr} {fd : FuncData} {ps : List Str} {sp : Sp} {g : List Value → List Value → List Value} {gV : List V → List V → List V} {x : Str} {t tk : TA} (M : Mk X.K C f) (F : FnOk X.prog X.w X.K X.mg X.base (L2C.CX X.prog X.w) k f fd ps sp) (hr : Room (k + 1) X.A) (hg : Gl X x) (hm : X.mg x = some (.ref C))
    (hb : KBn X.K fd ps (n + 1) (kwN kws) g gV) (hx : Passes (L2C.CX X.prog X.w) X (fun _ _ _ => False)) (ha : PA X (e :: es) t) (hkw : PK X kws tk) (hall : kwAll kws = true) (hdb : (x == ("__debug__" : Str)) = false) (pl : (e :: es).all plainA = true) :
    PE X (.Call (.Name x p) (e :: es) kws pos) (tMakeN C n (kwN kws).length sp gV (fun _ _ _ => False) t tk) := by
  refine ⟨fun pins s σ H Q I h => ?_⟩
  refine wpAny_Call_Name_kw (ld_glob I hg hm ?_ hdb)
  simp only [List.all_cons, Bool.and_eq_true] at pl
  refine PySem.W.callWith_KW (h₀ := X.base) I.ok.mod.kin M.kp (kw_all hall) (thn (ha.run pos pins s σ H _ I h) fun us s1 ⟨vs, H1, I1, r, q⟩ => ?_) ?_ (starEach_plain _ pl.1)
  · refine thn (hkw.run pos pins s1 σ H1 _ I1 q) fun zs s2 ⟨vz, H2, I2, rz, l1, l2, q2⟩ => ⟨I2.kIn, ?_⟩
    rw [kw_names]
    exact run_makeN M F hr hb hx I2 r rz l1 l2 q2
  · rw [kw_none hall, star_none _ (by simp only [List.all_cons, Bool.and_eq_true]; exact pl)]; rfl
theorem pe_newX0 {k : Nat} {f C : Addr} {fd : FuncData} {ps : List Str} {sp : Sp} {g : List Value → List Value → List Value} {gV : List V → List V → List V} {x : Str} {tk : TA} (M : Mk X.K C f) (F : FnOk X.prog X.w X.K X.mg X.base (L2C.CX X.prog X.w) k f fd ps sp) (hr : Room (k + 1) X.A) (hg : Gl X x) (hm : X.mg x = some (.ref C))
    (hb : KBn X.K fd ps (0 + 1) (kwN kws) g gV) (hx : Passes (L2C.CX X.prog X.w) X (fun _ _ _ => False)) (hkw : PK X kws tk) (hall : kwAll kws = true) (hdb : (x == ("__debug__" : Str)) = false) :
    PE X (.Call (.Name x p) [] kws pos) (tMakeN C 0 (kwN kws).length sp gV (fun _ _ _ => False) tNil tk) := by
  refine ⟨fun pins s σ H Q I h => ?_⟩
  refine wpAny_Call_Name_kw (ld_glob I hg hm ?_ hdb)
  refine PySem.W.callWith_KW0 (h₀ := X.base) I.ok.mod.kin M.kp (kw_all hall) (thn (hkw.run pos pins s σ H _ I h) fun zs s2 ⟨vz, H2, I2, rz, l1, l2, q2⟩ => ⟨I2.kIn, ?_⟩) ?_
  · rw [kw_names]
    exact run_makeN (us := []) (vs := []) M F hr hb hx I2 .nil rz rfl l2 q2
  · rw [kw_none hall]; rfl
structure NewOk (N : Nm) (C : Orc) (P : Program) (w : World) (K : PySem.W.Frag) (mg : Str → Option Value) (base : Heap) (A : Around) (c n : Nat) (ks : List Str) (sh : Shp) : Prop where
  run : ∃ k fd ps, FnOk P w K mg base (L2C.CX P w) k (N.fa (mth c 0)) fd ps (spF N C (mth c 0)) ∧ Room (k + 1) A ∧ Mk K (N.ca c) (N.fa (mth c 0)) ∧ KB N K fd ps (n + 1) ks (selfS sh)
  oc : c ∈ N.oc
def hNew (C : Orc) (c n m : Nat) (sh : Shp) (ws wz : Wps) : Wp := fun ρ S Q => ws ρ S fun ds S1 => wz ρ S1 fun zs S2 => ds.length = n ∧ zs.length = m ∧ ∀ p, S2 p = none → C (mth c 0) (.ref p :: place sh (ds ++ zs)) (ups S2 p (.ins c [])) (fun r S3 => r = .non ∧ Q (.ref p) S3) fun _ _ => False
theorem new_end {C : Orc} {c n : Nat} {sh : Shp} {ks : List Str} {gV : List V → List V → List V} (hc : c ∈ N.oc)
    (hv : ∀ H ds zs vs us, RDs N H ds vs → RDs N H zs us → vs.length = n + 1 → us.length = ks.length → RDs N H (place (selfS sh) (ds ++ zs)) (gV vs us))
    {ds zs : List D} {vs us : List V} (rh : RH N H S) (r1 : RDs N H ds vs) (r2 : RDs N H zs us) (m1 : vs.length = n) (m2 : us.length = ks.length)
    (q : ∀ p, S p = none → C (mth c 0) (.ref p :: place sh (ds ++ zs)) (ups S p (.ins c [])) (fun r S3 => r = .non ∧ Qh (.ref p) S3) fun _ _ => False) (kn : Kn N S H Qh Q) :
    ∀ x dx, H x = none → H dx = none → dx ≠ x → spF N C (mth c 0) (gV (.ref x :: vs) us) (upd (upd H dx (.own x)) x (.ins (N.ca c) dx [])) (fun v H3 => v = .non ∧ Q (.ref x) H3) fun _ _ _ => False := by
  intro x dx hx hdx hne
  have h1 : RH N (upd H dx (.own x)) S := rh.skip hdx
  have hx1 : upd H dx (.own x) x = none := by rw [L2.upd_ne (Ne.symm hne)]; exact hx
  have dl1 : Dle H (upd H dx (.own x)) := dle_new hdx
  have dl2 : Dle (upd H dx (.own x)) (upd (upd H dx (.own x)) x (.ins (N.ca c) dx [])) := dle_new hx1
  have h2 : RH N (upd (upd H dx (.own x)) x (.ins (N.ca c) dx [])) (ups S x (.ins c [])) := h1.new (m := .ins c []) hx1 ⟨hc, fun p hp => (by cases hp), dx, [], L2.upd_same, rfl, .nil⟩
  have hS := rh.fresh hx
  have fr : Fr S H (ups S x (.ins c [])) (upd (upd H dx (.own x)) x (.ins (N.ca c) dx [])) := (Fr.skip hdx).trans (Fr.new hx1)
  refine ⟨.ref x :: place sh (ds ++ zs), _, _, _, ?_, h2, q x hS, fun d S3 v H3 f3 h3 r3 ⟨e, q3⟩ => ?_, fun _ _ _ _ _ _ _ _ z => z⟩
  · rw [← place_self, ← List.cons_append]
    exact hv _ _ _ _ _ (.cons mk_ref ((r1.mono' dl1).mono' dl2)) ((r2.mono' dl1).mono' dl2) (by rw [List.length_cons, m1]) m2
  · subst e
    exact ⟨rd_non r3, kn _ _ _ _ (fr.trans f3) h3 mk_ref q3⟩
theorem he_new {C : Orc} {c n : Nat} {sh : Shp} {x : Str} (tk : L2C.Takes X (xOf N Z Ex)) (co : NewOk N C X.prog X.w X.K X.mg X.base X.A c n (kwN kws) sh) (hg : Gl X x) (hm : X.mg x = some (.ref (N.ca c)))
    (hdb : (x == ("__debug__" : Str)) = false) (ha : PA X (e :: es) (tA N Z ws)) (hkw : PK X kws (tA N Z wz)) (hall : kwAll kws = true) (pl : (e :: es).all plainA = true) : PE X (.Call (.Name x p) (e :: es) kws pos) (tOf N Z (hNew C c n (kwN kws).length sh ws wz)) := by
  obtain ⟨k, fd, ps, F, hr, M, kb⟩ := co.run
  obtain ⟨g, gV, hb, hv⟩ := kb.ok
  refine pimp (pe_newX M F hr hg hm hb (L2C.passes_call tk fun _ _ _ _ h => h.elim) ha hkw hall hdb pl) fun σ H Q t => ?_
  obtain ⟨ρ, S, Qh, rs, rh, fz, w, kn⟩ := t
  refine ⟨ρ, S, _, rs, rh, fz, w, fun ds S1 vs H1 f1 h1 r q => ?_⟩
  refine ⟨ρ, S1, _, rs.mono (f1.dle rh), h1, fz.trans f1, q, fun zs S2 us H2 f2 h2 r2 ⟨l1, l2, q2⟩ => ?_⟩
  have m1 : vs.length = n := r.length.symm.trans l1
  have m2 : us.length = (kwN kws).length := r2.length.symm.trans l2
  exact ⟨m1, m2, new_end co.oc hv h2 (r.mono' (f2.dle h1)) r2 m1 m2 q2 ((kn.step f1).step f2)⟩
theorem he_new0 {C : Orc} {c : Nat} {sh : Shp} {x : Str} (tk : L2C.Takes X (xOf N Z Ex)) (co : NewOk N C X.prog X.w X.K X.mg X.base X.A c 0 (kwN kws) sh) (hg : Gl X x) (hm : X.mg x = some (.ref (N.ca c)))
    (hdb : (x == ("__debug__" : Str)) = false) (hkw : PK X kws (tA N Z wz)) (hall : kwAll kws = true) : PE X (.Call (.Name x p) [] kws pos) (tOf N Z (hNew C c 0 (kwN kws).length sh (fun _ S Q => Q [] S) wz)) := by
  obtain ⟨k, fd, ps, F, hr, M, kb⟩ := co.run
  obtain ⟨g, gV, hb, hv⟩ := kb.ok
  refine pimp (pe_newX0 M F hr hg hm hb (L2C.passes_call tk fun _ _ _ _ h => h.elim) hkw hall hdb) fun σ H Q t => ?_
  obtain ⟨ρ, S, Qh, rs, rh, fz, w, kn⟩ := t
  refine ⟨ρ, S, _, rs, rh, fz, w, fun zs S2 us H2 f2 h2 r2 ⟨_, l2, q2⟩ => ?_⟩
  have m2 : us.length = (kwN kws).length := r2.length.symm.trans l2
  exact ⟨rfl, m2, new_end (ds := []) (vs := []) co.oc hv h2 .nil r2 rfl m2 q2 (kn.step f2)⟩
def tMethX (X : Cx) (m : Str) (n : Nat) (ks : List Str) (E : L2.St → XK) (ta : TE) (t tk : TA) : TE := fun σ H Q => ta σ H fun x H1 => ∃ (a C dx : Addr) (fs : List (Str × V)) (g : Addr) (k : Nat) (fd : FuncData) (ps : List Str) (sp : Sp) (G : List Value → List Value → List Value) (gV : List V → List V → List V),
  x = .ref a ∧ H1 a = some (.ins C dx fs) ∧ L2.Cls X.K C ∧ Meth X.K C m g ∧ fs.lookup m = none ∧ FnOk X.prog X.w X.K X.mg X.base (L2C.CX X.prog X.w) k g fd ps sp ∧ Room k X.A ∧ KBn X.K fd ps (n + 1) ks G gV ∧
  t σ H1 fun vs H2 => tk σ H2 fun zs H3 => vs.length = n ∧ zs.length = ks.length ∧ sp (gV (x :: vs) zs) H3 Q (E σ)
theorem few_argsK {env : PySem.Env} (pl : es.all plainA = true) (hall : kwAll kws = true) (hl : es.length + kws.length < 29) :
    methodCallForm (es.length + kws.length) (backTo cpos (starEach es env)) (backToKw cpos (keywordEach kws env)) = true := by
  unfold methodCallForm
  have h1 : (backTo cpos (starEach es env)).all (fun x => !x.1) = true := by
    clear hl
    induction es with
    | nil => rfl
    | cons e es ih =>
      simp only [List.all_cons, Bool.and_eq_true] at pl
      rw [starEach_plain _ pl.1]
      show (true && (backTo cpos (starEach es env)).all (fun x => !x.1)) = true
      rw [ih pl.2]; rfl
  rw [h1, kw_all hall]
  simp only [Bool.true_and, decide_eq_true_eq]
  split <;> omega
theorem pe_methX {m : Str} {n : Nat} {E : L2.St → XK} {ta : TE} {t tk : TA} (he : PE X o ta) (hb : noSup o = true) (hline : (apos.endLine == cpos.line) = true) (hx : ∀ σ, PassesAt (L2C.CX X.prog X.w) X σ (E σ)) (ha : PA X es t) (he0 : es = [] → ∀ σ H Q, t σ H Q → Q [] H) (hkw : PK X kws tk) (hall : kwAll kws = true) (pl : es.all plainA = true) (hl : es.length + kws.length < 29) :
    PE X (.Call (.Attribute o m apos) es kws cpos) (tMethX X m n (kwN kws) E ta t tk) := by
  refine ⟨fun pins s σ H Q I h => ?_⟩
  rw [arm_eval_Call, noSup_ok hb]
  refine wpAny_bind (thn (he.run pins s σ H _ I h) fun u s1 ⟨x, H1, I1, rx, a, C, dx, fs, g, k, fd, ps, sp, G, gV, ex, ea, c, hm, hlk, F, hr, hbn, q⟩ => ?_)
  subst ex
  obtain rfl : u = Value.ref a := rx
  refine wpAny_bind (wpAny_standAt ?_)
  have hform := few_argsK (cpos := cpos) (env := X.env) pl hall hl
  have hpos : methodCallPos true o X.env apos cpos = pure cpos := by unfold methodCallPos; simp [hline]
  unfold methodCall
  rw [hform]
  refine wpAny_bind (wpAny_holding (getmeth_ok I1 ea c hm hlk ?_))
  refine wpAny_bind (wpAny_of_eq hpos ?_)
  cases es with
  | nil =>
    refine PySem.W.callWith_KW0 (first := [.ref a]) (h₀ := X.base) I1.ok.mod.kin hm.kp (kw_all hall) (thn (hkw.run cpos pins s1 σ H1 _ I1 (he0 rfl σ H1 _ q)) fun zs s2 ⟨vz, H2, I2, rz, l1, l2, q2⟩ => ⟨I2.kIn, ?_⟩) ?_
    · rw [kw_names]
      exact run_fnK (us := [.ref a]) (vs := [.ref a]) F hr hbn (hx σ) I2 (.cons rfl .nil) rz (by rw [← l1]; rfl) l2 q2
    · rw [kw_none hall]; rfl
  | cons e es =>
    simp only [List.all_cons, Bool.and_eq_true] at pl
    refine PySem.W.callWith_KW (first := [.ref a]) (h₀ := X.base) I1.ok.mod.kin hm.kp (kw_all hall) (thn (ha.run cpos pins s1 σ H1 _ I1 q) fun us s2 ⟨vs, H2, I2, r, q⟩ => ?_) ?_ (starEach_plain _ pl.1)
    · refine thn (hkw.run cpos pins s2 σ H2 _ I2 q) fun zs s3 ⟨vz, H3, I3, rz, l1, l2, q3⟩ => ⟨I3.kIn, ?_⟩
      rw [kw_names]
      exact run_fnK (us := .ref a :: us) (vs := .ref a :: vs) F hr hbn (hx σ) I3 (.cons rfl r) rz (by rw [List.length_cons, l1]) l2 q3
    · rw [kw_none hall, star_none _ (by simp only [List.all_cons, Bool.and_eq_true]; exact pl)]; rfl
structure MethOk (N : Nm) (C : Orc) (P : Program) (w : World) (K : PySem.W.Frag) (mg : Str → Option Value) (base : Heap) (A : Around) (m : Nat) (nm : Str) (cs : List (Nat × Shp)) (n : Nat) (ks : List Str) : Prop where
  nofld : ∀ f ∈ N.fl, N.fnm f ≠ nm
  cls : ∀ c ∈ N.oc, L2.Cls K (N.ca c)
  run : ∀ c sh, cs.lookup c = some sh → c ∈ N.oc → ∃ k fd ps, Meth K (N.ca c) nm (N.fa (mth c m)) ∧ FnOk P w K mg base (L2C.CX P w) k (N.fa (mth c m)) fd ps (spF N C (mth c m)) ∧ Room k A ∧ KB N K fd ps (n + 1) ks (selfS sh)
def hMeth (C : Orc) (m n k : Nat) (cs : List (Nat × Shp)) (wo : Wp) (ws wz : Wps) (Ex : D → Env → Sta → Prop) : Wp := fun ρ S Q => wo ρ S fun x S1 => match x with
  | .ref a => (match S1 a with
    | some (.ins c fs) => ∃ sh, cs.lookup c = some sh ∧ ws ρ S1 fun ds S2 => wz ρ S2 fun zs S3 => ds.length = n ∧ zs.length = k ∧ C (mth c m) (x :: place sh (ds ++ zs)) S3 Q fun x S' => Ex x ρ S'
    | _ => False)
  | _ => False
theorem no_fld {nm : Str} (h : ∀ f ∈ N.fl, N.fnm f ≠ nm) {fs : List (Nat × D)} {gs : List (Str × V)} (e : gs.map (·.1) = fs.map (fun p => N.fnm p.1)) (hin : ∀ p ∈ fs, p.1 ∈ N.fl) : gs.lookup nm = none := by
  refine List.lookup_eq_none_iff.mpr fun p hp => ?_
  have : p.1 ∈ gs.map (·.1) := List.mem_map.mpr ⟨p, hp, rfl⟩
  rw [e] at this
  obtain ⟨q, hq, e2⟩ := List.mem_map.mp this
  have := h q.1 (hin q hq)
  rw [e2] at this
  simpa using Ne.symm this
theorem he_meth {C : Orc} {m n : Nat} {nm : Str} {cs : List (Nat × Shp)} (tk : L2C.Takes X (xOf N Z Ex)) (co : MethOk N C X.prog X.w X.K X.mg X.base X.A m nm cs n (kwN kws)) (ho : PE X o (tOf N Z wo)) (hb : noSup o = true) (hline : (apos.endLine == cpos.line) = true)
    (ha : PA X es (tA N Z ws)) (he0 : es = [] → ∀ ρ S Q, ws ρ S Q → Q [] S) (hkw : PK X kws (tA N Z wz)) (hall : kwAll kws = true) (pl : es.all plainA = true) (hl : es.length + kws.length < 29) :
    PE X (.Call (.Attribute o nm apos) es kws cpos) (tOf N Z (hMeth C m n (kwN kws).length cs wo ws wz Ex)) := by
  refine pimp (pe_methX (m := nm) (n := n) (E := fun σ => WE (xOf N Z Ex) σ) ho hb hline (fun σ => L2C.passAt tk σ) ha (fun e σ H Q ⟨ρ, S, Ql, rs, rh, fz, q, k⟩ => k [] S [] H Fr.refl rh .nil (he0 e ρ S Ql q)) hkw hall pl hl) fun σ H Q t => ?_
  refine tOf.one (g := fun ρ x S1 Q => match x with
    | .ref a => (match S1 a with
      | some (.ins c fs) => ∃ sh, cs.lookup c = some sh ∧ ws ρ S1 fun ds S2 => wz ρ S2 fun zs S3 => ds.length = n ∧ zs.length = (kwN kws).length ∧ C (mth c m) (x :: place sh (ds ++ zs)) S3 Q fun x S' => Ex x ρ S'
      | _ => False)
    | _ => False) t fun ρ x S1 v H1 Qh rs rh fz rx g kn => ?_
  cases x with
  | ref a =>
    cases rd_ref rx
    simp only at g
    cases ea : S1 a with
    | none => rw [ea] at g; exact g.elim
    | some ob =>
      rw [ea] at g
      cases ob with
      | ins c fs =>
        obtain ⟨sh, hc, q⟩ := g
        obtain ⟨ho2, hin, dx, gs, h1, h2, h3⟩ := at_ins rh ea
        obtain ⟨k, fd, ps, M, F, hr, kb⟩ := co.run c sh hc ho2
        obtain ⟨G, gV, hbn, hv⟩ := kb.ok
        refine ⟨a, _, dx, gs, _, k, fd, ps, _, G, gV, rfl, h1, co.cls c ho2, M, no_fld co.nofld h2 hin, F, hr, hbn, ρ, S1, _, rs, rh, fz, q, fun ds S2 vs H2 f2 h2' r q2 => ?_⟩
        refine ⟨ρ, S2, _, rs.mono (f2.dle rh), h2', fz.trans f2, q2, fun zs S3 us H3 f3 h3' r3 ⟨l1, l2, q3⟩ => ?_⟩
        have m1 : vs.length = n := r.length.symm.trans l1
        have m2 : us.length = (kwN kws).length := r3.length.symm.trans l2
        refine ⟨m1, m2, .ref a :: place sh (ds ++ zs), S3, Qh, _, ?_, h3', q3, (kn.step f2).step f3, KnX.of ((rs.mono (f2.dle rh)).mono (f3.dle h2')) h3' ((fz.trans f2).trans f3)⟩
        rw [← place_self, ← List.cons_append]
        exact hv _ _ _ _ _ (.cons mk_ref (r.mono' (f3.dle h2'))) r3 (by rw [List.length_cons, m1]) m2
      | _ => exact g.elim
  | _ => exact False.elim g
end
end A
namespace PySem.W
open PySem PySem.Spec PySem.Calls PyProof.Rows
section
variable {prog : Program} {w : World} {M : Model} {A : Around} {E : Value → Shared → Prop} {s : Shared} {K : Frag} {x C f L : Addr} {h₀ : Heap} {m : Str → Option Value} {ox : Obj} {od : Option Obj} {name : Str} {b tb : Value}
theorem ifBoundB {id : String} {args : List Value} {Q : Option Value → Shared → Prop} (X : K.In s.heap) (I : InstAt s.heap x ox C od) (hs : findIn K (.ref C) name = some (some (.builtin id))) (hb : ∀ self, bindSpecial (.builtin id) self = pure (.builtin id, [self]))
    (h : wpAny M A (call (.builtin id) (.ref x :: args)) (fun v => Q (some v)) E s) : wpAny M A (callSpecialIfBound? (.ref x) name args) Q E s := by
  simp only [callSpecialIfBound?, bindSpecialIfBound?]
  refine wpAny_holding (wpAny_bind (wpAny_bind (wpAny_bind (I.type.here ((looks_findIn X hs).here ?_)))))
  refine wpAny_bind (wpAny_askSetting (wpAny_ite ?_))
  have fin : wpAny M A (call (.builtin id) ([.ref x] ++ args) >>= fun v => pure (some v)) Q E s := wpAny_bind (wpAny_mono h (fun v s' h' => wpAny_pure h') fun _ _ h' => h')
  split
  · exact wpAny_bind ((Looks.of_pure (hb _)).here (wpAny_pure (by exact fin)))
  · exact wpAny_tryCatch (wpAny_bind ((Looks.of_pure (hb _)).here (wpAny_pure (by exact fin))))
open Builtin in
theorem one_ne {Q : Value → Shared → Prop} (hu : A.in1.units < cLine) (X : K.In s.heap) (I : InstAt s.heap x ox C od) (hm : mroIn K C (.type "object") = some true) (hne : findIn K (.ref C) "__ne__" = some (some (.builtin "object.__ne__")))
    (heq : findIn K (.ref C) "__eq__" = some (some (.ref f))) (hf : isFn K (.ref f) = true) (h : wpAny (model prog w) A.in1 (call (.ref f) [.ref x, b]) (fun v s' => ∃ r, v = .bool r ∧ Q (.bool (!r)) s') E s) :
    wpAny (model prog w) A (tryCompare (.ref x) "__ne__" b) (fun r s' => ∃ v, r = some v ∧ Q v s') E s := by
  unfold tryCompare
  refine wpAny_bind (ifBoundB X I hne PySem.F.cmp_object.ne.bind ?_)
  refine wpAny_call (codeAny_call_builtin PySem.F.cmp_object.ne.plain PySem.F.cmpEntry_ne (check_slot PySem.F.cmpKind_ne PySem.F.cmpSplit_ne (I.type.andThen (looks_mroIn X hm)) (PySem.F.cmpArgs_ne _ _) ?_))
  unfold Builtin.«object.__ne__»
  refine wpAny_bind (m := slotArgs "__ne__" 1 _) (wpAny_pure ?_)
  refine wpAny_bind (m := cRoomFor _ _) (wpAny_cRoomFor hu ?_)
  refine wpAny_bind (m := callSpecialIfBound? (.ref x) (Str.ofString "__eq__") [b]) (ifBound_K X I heq hf (wpAny_mono h (fun v s' hv => ?_) fun _ _ e => e))
  obtain ⟨r, rfl, hq⟩ := hv
  refine wpAny_bind (wpAny_truthy_bool ?_)
  exact wpAny_pure (wpAny_pure ⟨_, rfl, hq⟩)
theorem ne_K {Q : Value → Shared → Prop} (hu : A.units < cLine) (hu1 : A.in1.units < cLine) (F : Fr h₀ L s.heap m) (X₀ : K.In h₀) (I : InstAt s.heap x ox C od) (hb : Looks (model prog w) s.heap (typeOf b) tb) (hn : notFirst K C tb = true) (hm : mroIn K C (.type "object") = some true)
    (hne : findIn K (.ref C) "__ne__" = some (some (.builtin "object.__ne__"))) (heq : findIn K (.ref C) "__eq__" = some (some (.ref f))) (hf : isFn K (.ref f) = true)
    (h : wpAny (model prog w) A.in1 (call (.ref f) [.ref x, b]) (fun v s' => ∃ r, v = .bool r ∧ Q (.bool (!r)) s') E s) : wpAny (model prog w) A (richCompare .NotEq (.ref x) b) Q E s := by
  have X := X₀.keeps F.keep
  have one := one_ne (b := b) hu1 X I hm hne heq hf h
  unfold richCompare
  simp only [oneThing_ref]
  refine wpAny_holding (wpAny_bind (wpAny_cRoomFor hu ?_))
  refine wpAny_bind (I.type.here (wpAny_bind (hb.here ?_)))
  split
  · rename_i q
    have e : subIn K tb (.ref C) = some false := by
      rcases Bool.or_eq_true_iff.mp hn with e | e
      · rw [beq_iff_eq.mp e] at q; simp at q
      · exact beq_iff_eq.mp e
    refine wpAny_bind ((looks_subIn X e).here ?_)
    simp only [Bool.false_eq_true, if_false]
    refine wpAny_bind (wpAny_mono one (fun r s' z => ?_) fun _ _ e => e)
    obtain ⟨v, rfl, hq⟩ := z
    exact wpAny_pure hq
  · refine wpAny_bind (wpAny_pure ?_)
    simp only [Bool.false_eq_true, if_false]
    refine wpAny_bind (wpAny_mono one (fun r s' z => ?_) fun _ _ e => e)
    obtain ⟨v, rfl, hq⟩ := z
    exact wpAny_pure hq
open Builtin Builtin.Str in
theorem str_K {Q : Value → Shared → Prop} (hu : A.in1.in1.units < cLine) (X : K.In s.heap) (I : InstAt s.heap x ox C od) (hs : findIn K (.ref C) "__str__" = some (some (.ref f))) (hf : isFn K (.ref f) = true)
    (h : wpAny (model prog w) A.in1.in1 (call (.ref f) [.ref x]) (StrBack Q) E s) : wpAny (model prog w) A (call (.type "str") [.ref x]) Q E s := by
  refine PySem.callType_newIn (S := fun A R s => wpAny (model prog w) A.in1 (Builtin.Str.strOf (.ref x)) (fun r s' => R (.ok (.ret r)) s') (fun e s' => R (.error e) s') s) PySem.F.called_str (by decide) (PySem.F.typeCall_str_1 _) (PySem.F.newCall_str_1 _) (fun obj => PySem.F.args_object_init_2 obj _) PySem.F.entry_str_new ?_ ?_
  · refine .of_wp fun A R s h => ?_
    rw [PySem.str_new_tree]
    refine wpAny_bind (wpAny_pure ?_)
    refine wpAny_bind (wpAny_of_eq PySem.isSubtype_str_str ?_)
    exact wpAny_bind (wpAny_mono h (fun r s' h' => wpAny_pure ⟨_, rfl, h'⟩) fun _ _ e => e)
  · show wpAny (model prog w) A.in1.in1 (Builtin.Str.strOf (.ref x)) _ _ s
    unfold Builtin.Str.strOf
    rw [show isExactStr (.ref x) = false from rfl]
    refine wpAny_bind (m := cRoomFor _ _) (wpAny_cRoomFor hu ?_)
    refine wpAny_bind (m := callSpecial? (.ref x) (Str.ofString "__str__")) (special_fn X I hs (beq_iff_eq.mp hf) (wpAny_mono h (fun r s' hr => ?_) fun _ _ y => y))
    obtain ⟨y, t, rfl, hq⟩ := kfo_back hr
    refine wpAny_bind (wpAny_pure ?_)
    exact wpAny_pure ⟨typeIs_str _ _ _, hq⟩
end
end PySem.W
namespace A
open PySem
open PySem.W (findIn isFn looks_findIn len_K)
open PySem.Sem (wp)
section
variable {K : PySem.W.Frag} {prog : Program} {w : World} {A : Around} {E : Value → Shared → Prop} {s : Shared} {h₀ : Heap} {L : Addr} {m : Str → Option Value} {x C f : Addr} {ox : Obj} {od : Option Obj}
theorem truthy_len {Q : Bool → Shared → Prop} (F : PyProof.Rows.Fr h₀ L s.heap m) (X₀ : K.In h₀) (I : PySem.W.InstAt s.heap x ox C od) (hs : findIn K (.ref C) "__bool__" = some none) (hl : findIn K (.ref C) "__len__" = some (some (.ref f))) (hf : isFn K (.ref f) = true)
    (h : wpAny (model prog w) A.in1 (call (.ref f) [.ref x]) (PySem.W.LenBack fun v s' => match v with | .int n _ => Q (n != 0) s' | _ => False) E s) : wpAny (model prog w) A (truthy (.ref x)) Q E s := by
  have X := X₀.keeps F.keep
  have key : wpAny (model prog w) A (runValue (.builtin "len" ⟨[.ref x], []⟩)) (fun v s' => match v with | .int n _ => Q (n != 0) s' | _ => False) E s := by
    refine wpAny_runValue (codeAny_builtin entry_len ?_)
    rw [Around.under_plainId plain_len _]
    unfold Builtin.«len»
    refine wpAny_bind (m := oneArg "len" _) (wpAny_pure ?_)
    refine wpAny_bind (m := callSpecial? (.ref x) (Str.ofString "__len__")) (PySem.W.special_fn (X₀.keeps F.keep) I hl (beq_iff_eq.mp hf) (wpAny_mono h (fun r s' hr => ?_) fun _ _ y => y))
    cases r <;> first | exact hr.elim | skip
    rename_i n u
    obtain ⟨⟨h0, h1⟩, hq⟩ := hr
    refine wpAny_bind (wpAny_holding (wpAny_pure ?_))
    refine wpAny_bind (wpAny_letGo ?_)
    show wpAny _ _ (if n < 0 then _ else _) _ _ _
    rw [if_neg (by omega)]
    show wpAny _ _ (if n ≥ 2 ^ 63 then _ else _) _ _ _
    rw [if_neg (by omega)]
    exact wpAny_bind (wpAny_mkInt (wpAny_pure hq))
  unfold truthy
  refine wpAny_bind (m := callSpecial? (.ref x) (Str.ofString "__bool__")) (wpAny_bind (wpAny_bind (I.type.here ((looks_findIn X hs).here (wpAny_pure ?_)))))
  refine wpAny_bind (wpAny_bind (I.type.here ((looks_findIn X hl).here ?_)))
  show wpAny _ _ (if (some (Value.ref f)).isNone = true then _ else _) _ _ _
  rw [if_neg (by simp)]
  refine wpAny_bind (wpAny_mono key (fun v s' hv => ?_) fun _ _ e => e)
  cases v <;> first | exact hv.elim | skip
  exact wpAny_pure hv
theorem bool_new (l : Addr) : MeetsIn prog w (Builtin.«bool.__new__» ⟨[.type "bool", .ref l], []⟩)
    (fun A R s => wpAny (model prog w) A.in1 (truthy (.ref l)) (fun b s1 => R (.ok (.ret (.bool b))) s1) (fun e s1 => R (.error e) s1) s) :=
  .of_wp fun A R s h => by
    have f1 := F.conv_sub_bool
    have tr : ∀ {Q' : Bool → Shared → Prop}, (∀ b s1, R (.ok (.ret (.bool b))) s1 → Q' b s1) → wpAny (model prog w) A.in1 (truthy (.ref l)) Q' (fun e s1 => R (.error e) s1) s := fun k => wpAny_mono h k (fun _ _ e => e)
    repeat (any_goals (first | assumption | (with_reducible refine tr (fun b s1 hq => ?_)) | wp_step))
    all_goals first | exact ⟨_, rfl, hq⟩ | skip
theorem call_bool_own {l : Addr} {Q : Value → Shared → Prop} (h : wpAny (model prog w) A.in1.in1 (truthy (.ref l)) (fun b s1 => Q (.bool b) s1) E s) : wpAny (model prog w) A (call (.type "bool") [.ref l]) Q E s := by
  refine callType_newIn F.called_bool F.newNe_bool (F.typeCall_bool_1 _) (F.newCall_bool_1 _) (fun obj => F.args_object_init_2 obj _) F.entry_bool_new (bool_new l) ?_
  show wpAny (model prog w) A.in1.in1 (truthy (.ref l)) _ _ _
  exact wpAny_mono h (fun b s1 hq => ⟨rfl, hq⟩) fun _ _ z => z
end
end A
namespace A
open PySem L2 PyProof.Rows
def SpecOk (N : Nm) (C : Orc) (P : Program) (w : World) (K : PySem.W.Frag) (mg : Str → Option Value) (base : Heap) (A : Around) (c m : Nat) (nm : Str) : Prop :=
  (∀ ds S Q X, ¬ C (mth c m) ds S Q X) ∨ ∃ k fd ps, FnOk P w K mg base (L2C.CX P w) k (N.fa (mth c m)) fd ps (spF N C (mth c m)) ∧ Room (k + 3) A ∧ Binds K fd ps [] ∧
    PySem.W.findIn K (.ref (N.ca c)) nm = some (some (.ref (N.fa (mth c m)))) ∧ PySem.W.isFn K (.ref (N.fa (mth c m))) = true
structure OwnF (N : Nm) (C : Orc) (P : Program) (w : World) (K : PySem.W.Frag) (mg : Str → Option Value) (base : Heap) (A : Around) : Prop where
  eq : ∀ c ∈ N.oc, SpecOk N C P w K mg base A c mEq "__eq__"
  len : ∀ c ∈ N.oc, SpecOk N C P w K mg base A c mLen "__len__"
  str : ∀ c ∈ N.oc, SpecOk N C P w K mg base A c mStr "__str__"
  repr : ∀ c ∈ N.oc, SpecOk N C P w K mg base A c mRepr "__repr__"
  nb : ∀ c ∈ N.oc, PySem.W.findIn K (.ref (N.ca c)) "__bool__" = some none
  ne : ∀ c ∈ N.oc, PySem.W.findIn K (.ref (N.ca c)) "__ne__" = some (some (.builtin "object.__ne__"))
  apart : ∀ c ∈ N.oc, ∀ c' ∈ N.oc, PySem.W.notFirst K (N.ca c) (.ref (N.ca c')) = true
  obj : ∀ c ∈ N.oc, PySem.W.mroIn K (N.ca c) (.type "object") = some true
section
variable {N : Nm} {C : Orc} {X : Cx} {S : Sta} {H : Hp} {σ : L2.St} {pins : List (Addr × Obj)} {s : Shared} {Q : VK} {Qh : K}
theorem passesF : Passes (L2C.CX X.prog X.w) X (fun _ _ _ => False) := L2C.passes_call (W := fun _ _ _ _ => False) (fun u s' ⟨_, _, _, _, _, _, _, _, _, _, _, _, _, _, _, _, _, _, _, f⟩ => f.elim) fun _ _ _ _ h => h.elim
theorem run_spec {A' : Around} {k : Nat} {f : Addr} {fd : FuncData} {ps : List Str} {sp : Sp} {us : List Value} {vs : List V} (hA : A'.frames = X.A.frames) (hr : Room k A') (F : FnOk X.prog X.w X.K X.mg X.base (L2C.CX X.prog X.w) k f fd ps sp) (hb : Binds X.K fd ps [])
    (I : L2.Inv X pins σ H s) (r : Vals vs us) (h : sp vs H Q fun _ _ _ => False) : wpAny (model X.prog X.w) A' (call (.ref f) us) (EP X pins σ Q) X.xe s := by
  have e0 : Env0 X.prog X.w X.K X.mg X.base A' X.stack s H := by
    have e := I.env0
    exact ⟨by rw [hA]; exact e.frames, e.mod, e.bs, e.bsz, e.funs, e.frf, e.hok, e.bare⟩
  have hl := F.len _ _ _ _ h
  have b := hb s us I.kIn (by rw [List.append_nil, ← r.length, hl])
  rw [List.append_nil] at b
  refine wpAny_call (codeAny_mono (F.run A' X.stack s H ⟨us, []⟩ us vs Q _ hr e0 b r h) fun r s' hq => ?_)
  cases r with
  | error e => exact passesF pins σ H s e s' I hq
  | ok fl =>
    cases fl with
    | ret w => exact I.after hq
    | next => exact False.elim hq
    | brk => exact False.elim hq
    | cont => exact False.elim hq
theorem ty_kn (hK : N.K = X.K) (O : OwnF N C X.prog X.w X.K X.mg X.base X.A) {c : Nat} (hc : c ∈ N.oc) (I : L2.Inv X pins σ H s) (rh : RH N H S) {d : D} {y : V} {u : Value} (rd : RD N H d y) (ru : RelV y u) (kn : knD S d = true) :
    ∃ tb, PySem.W.Looks (model X.prog X.w) s.heap (typeOf u) tb ∧ PySem.W.notFirst X.K (N.ca c) tb = true := by
  have lit : ∀ t ∈ ["NoneType", "bool", "int", "str", "tuple", "list", "dict"], PySem.W.notFirst X.K (N.ca c) (.type t) = true := by
    intro t ht
    simp only [List.mem_cons, List.not_mem_nil, or_false] at ht
    rcases ht with rfl | rfl | rfl | rfl | rfl | rfl | rfl <;> rfl
  have data : ∀ t, tnD S d = some t → t ∈ ["NoneType", "bool", "int", "str", "tuple", "list", "dict"] → ∃ tb, PySem.W.Looks (model X.prog X.w) s.heap (typeOf u) tb ∧ PySem.W.notFirst X.K (N.ca c) tb = true := fun t e ht => by
    obtain ⟨P, kx, hp, _⟩ := kit_of I ru (tn_at hK rh rd e)
    exact ⟨.type t, kx.ty _ _ I.kIn hp, lit t ht⟩
  cases d with
  | non => exact data "NoneType" rfl (by simp)
  | bl b => exact data "bool" rfl (by simp)
  | int b => exact data "int" rfl (by simp)
  | str b => exact data "str" rfl (by simp)
  | tup b => exact data "tuple" rfl (by simp)
  | lis b => exact data "list" rfl (by simp)
  | ref b =>
    simp only [knD] at kn
    cases eb : S b with
    | none => rw [eb] at kn; cases kn
    | some ob =>
      cases ob with
      | lst l => exact data "list" (by simp only [tnD, eb]) (by simp)
      | dic l => exact data "dict" (by simp only [tnD, eb]) (by simp)
      | dicF l fu => rw [eb] at kn; cases kn
      | ins c' fs =>
        cases rd_ref rd
        obtain rfl : u = Value.ref b := ru
        obtain ⟨hc', _, dx, gs, h1, _, _⟩ := at_ins rh eb
        obtain ⟨mA, J, _⟩ := ins_get I.hok h1
        obtain ⟨od, J, _⟩ := J.look
        exact ⟨_, J.type, O.apart c hc c' hc'⟩
  | _ => cases kn
theorem own_sp {c m : Nat} {ds : List D} {vs : List V} (rh : RH N H S) (r : RDs N H ds vs) (w : C (mth c m) ds S Qh fun _ _ => False) (k : Kn N S H Qh Q) : spF N C (mth c m) vs H Q fun _ _ _ => False :=
  ⟨ds, S, Qh, _, r, rh, w, k, fun _ _ _ _ _ _ _ _ z => z⟩
theorem own_eq (hK : N.K = X.K) (hu : X.A.units + 64 < cLine) (O : OwnF N C X.prog X.w X.K X.mg X.base X.A) : OpR X (compareOp .Eq) (rOwn N C false) := by
  intro pins s σ H x y v u Q I rx ry ⟨a, c, fs, d, S, Qh, ex, rh, rd, ea, kn, w, k⟩
  subst ex
  obtain rfl : v = Value.ref a := rx
  obtain ⟨hc, hin, dx, gs, h1, h2, h3⟩ := at_ins rh ea
  obtain ⟨mA, J, _⟩ := ins_get I.hok h1
  obtain ⟨od, J, _⟩ := J.look
  rcases O.eq c hc with never | ⟨kk, fd, ps, F, hr, hb, hs, hf⟩
  · exact (never _ _ _ _ w).elim
  obtain ⟨tb, ht, hn⟩ := ty_kn hK O hc I rh rd ry kn
  obtain ⟨m, hF⟩ := I.fr
  show wpAny (model X.prog X.w) X.A (richCompare .Eq (.ref a) u) (EP X pins σ Q) X.xe s
  refine PySem.W.cmp_K (op := .Eq) (tb := tb) (by omega) hF I.ok.mod.kin J ht hn hs hf ?_
  refine thn (run_spec (Q := fun v H' => ∃ b, v = .bl b ∧ Q (.bl b) H') rfl (hr.mono (by omega)) F hb I (.cons (show RelV (V.ref a) (Value.ref a) from rfl) (.cons ry .nil)) (own_sp rh (.cons mk_ref (.cons rd .nil)) w fun r S' v' H' f h' r' ⟨b, e, q⟩ => ?_)) fun w' s' ⟨v', H', I', r', b, e, q⟩ => ?_
  · subst e
    exact ⟨b, rd_bl r', k _ _ _ _ f h' mk_bl q⟩
  · subst e
    obtain rfl : w' = Value.bool b := r'
    exact ⟨.bl b, H', I', rfl, q⟩
theorem own_ne (hK : N.K = X.K) (hu : X.A.units + 64 < cLine) (O : OwnF N C X.prog X.w X.K X.mg X.base X.A) : OpR X (compareOp .NotEq) (rOwn N C true) := by
  intro pins s σ H x y v u Q I rx ry ⟨a, c, fs, d, S, Qh, ex, rh, rd, ea, kn, w, k⟩
  subst ex
  obtain rfl : v = Value.ref a := rx
  obtain ⟨hc, hin, dx, gs, h1, h2, h3⟩ := at_ins rh ea
  obtain ⟨mA, J, _⟩ := ins_get I.hok h1
  obtain ⟨od, J, _⟩ := J.look
  rcases O.eq c hc with never | ⟨kk, fd, ps, F, hr, hb, hs, hf⟩
  · exact (never _ _ _ _ w).elim
  obtain ⟨tb, ht, hn⟩ := ty_kn hK O hc I rh rd ry kn
  obtain ⟨m, hF⟩ := I.fr
  show wpAny (model X.prog X.w) X.A (richCompare .NotEq (.ref a) u) (EP X pins σ Q) X.xe s
  refine PySem.W.ne_K (tb := tb) (by omega) (hr.in1.units0) hF I.ok.mod.kin J ht hn (O.obj c hc) (O.ne c hc) hs hf ?_
  refine thn (run_spec (Q := fun v H' => ∃ b, v = .bl b ∧ Q (.bl (!b)) H') rfl (hr.in1.mono (by omega)) F hb I (.cons (show RelV (V.ref a) (Value.ref a) from rfl) (.cons ry .nil)) (own_sp rh (.cons mk_ref (.cons rd .nil)) w fun r S' v' H' f h' r' ⟨b, e, q⟩ => ?_)) fun w' s' ⟨v', H', I', r', b, e, q⟩ => ?_
  · subst e
    exact ⟨b, rd_bl r', k _ _ _ _ f h' mk_bl q⟩
  · subst e
    obtain rfl : w' = Value.bool b := r'
    exact ⟨b, rfl, .bl (!b), H', I', rfl, q⟩
theorem own_len (O : OwnF N C X.prog X.w X.K X.mg X.base X.A) : CallR X (.builtin "len") (rOwnB N C mLen fun r => ∃ n : Nat, n < 9223372036854775808 ∧ r = .int n) := by
  intro pins s σ H xs us Q I r ⟨a, c, fs, S, Qh, ex, rh, ea, w, k⟩
  subst ex
  obtain ⟨u, rfl, ru⟩ := vals1 r
  obtain rfl : u = Value.ref a := ru
  obtain ⟨hc, hin, dx, gs, h1, h2, h3⟩ := at_ins rh ea
  obtain ⟨mA, J, _⟩ := ins_get I.hok h1
  obtain ⟨od, J, _⟩ := J.look
  rcases O.len c hc with never | ⟨kk, fd, ps, F, hr, hb, hs, hf⟩
  · exact (never _ _ _ _ w).elim
  obtain ⟨m, hF⟩ := I.fr
  refine PySem.W.len_K hF I.ok.mod.kin J hs hf ?_
  refine thn (run_spec (Q := fun v H' => ∃ n : Nat, n < 9223372036854775808 ∧ v = .int n ∧ Q (.int n) H') rfl (hr.in1.mono (by omega)) F hb I (.cons (show RelV (V.ref a) (Value.ref a) from rfl) .nil) (own_sp rh (.cons mk_ref .nil) w fun r S' v' H' f h' r' ⟨⟨n, hn, e⟩, q⟩ => ?_)) fun w' s' ⟨v', H', I', r', n, hn, e, q⟩ => ?_
  · subst e
    exact ⟨n, hn, rd_int r', k _ _ _ _ f h' mk_int q⟩
  · subst e
    obtain ⟨t, rfl⟩ := r'
    exact ⟨by omega, .int n, H', I'.tok _, ⟨_, rfl⟩, q⟩
theorem own_bool (O : OwnF N C X.prog X.w X.K X.mg X.base X.A) : CallR X (.type "bool") (rOwnT N C) := by
  intro pins s σ H xs us Q I r ⟨a, c, fs, S, Qh, ex, rh, ea, w, k⟩
  subst ex
  obtain ⟨u, rfl, ru⟩ := vals1 r
  obtain rfl : u = Value.ref a := ru
  obtain ⟨hc, hin, dx, gs, h1, h2, h3⟩ := at_ins rh ea
  obtain ⟨mA, J, _⟩ := ins_get I.hok h1
  obtain ⟨od, J, _⟩ := J.look
  rcases O.len c hc with never | ⟨kk, fd, ps, F, hr, hb, hs, hf⟩
  · exact (never _ _ _ _ w).elim
  obtain ⟨m, hF⟩ := I.fr
  refine call_bool_own (truthy_len hF I.ok.mod.kin J (O.nb c hc) hs hf ?_)
  refine thn (run_spec (Q := fun v H' => ∃ n : Nat, n < 9223372036854775808 ∧ v = .int n ∧ Q (.bl (n != 0)) H') rfl (hr.in1.in1.in1) F hb I (.cons (show RelV (V.ref a) (Value.ref a) from rfl) .nil) (own_sp rh (.cons mk_ref .nil) w fun r S' v' H' f h' r' ⟨n, hn, e, q⟩ => ?_)) fun w' s' ⟨v', H', I', r', n, hn, e, q⟩ => ?_
  · subst e
    exact ⟨n, hn, rd_int r', k _ _ _ _ f h' mk_bl q⟩
  · subst e
    obtain ⟨t, rfl⟩ := r'
    have en : ((n : Int) != 0) = (n != 0) := by rw [Bool.eq_iff_iff]; simp
    exact ⟨by omega, .bl ((n : Int) != 0), H', I'.tok _, rfl, by rw [en]; exact q⟩
theorem own_repr (O : OwnF N C X.prog X.w X.K X.mg X.base X.A) : CallR X (.builtin "repr") (rOwnB N C mRepr fun r => ∃ s, r = .str s) := by
  intro pins s σ H xs us Q I r ⟨a, c, fs, S, Qh, ex, rh, ea, w, k⟩
  subst ex
  obtain ⟨u, rfl, ru⟩ := vals1 r
  obtain rfl : u = Value.ref a := ru
  obtain ⟨hc, hin, dx, gs, h1, h2, h3⟩ := at_ins rh ea
  obtain ⟨mA, J, _⟩ := ins_get I.hok h1
  obtain ⟨od, J, _⟩ := J.look
  rcases O.repr c hc with never | ⟨kk, fd, ps, F, hr, hb, hs, hf⟩
  · exact (never _ _ _ _ w).elim
  obtain ⟨m, hF⟩ := I.fr
  refine PySem.W.repr_K hr.in1.units0 hF I.ok.mod.kin J hs hf ?_
  refine thn (run_spec (Q := fun v H' => ∃ n, v = .str n ∧ Q (.str n) H') rfl (hr.in1.mono (by omega)) F hb I (.cons (show RelV (V.ref a) (Value.ref a) from rfl) .nil) (own_sp rh (.cons mk_ref .nil) w fun r S' v' H' f h' r' ⟨⟨n, e⟩, q⟩ => ?_)) fun w' s' ⟨v', H', I', r', n, e, q⟩ => ?_
  · subst e
    exact ⟨n, rd_str r', k _ _ _ _ f h' mk_str q⟩
  · subst e
    obtain ⟨t, rfl⟩ := r'
    exact ⟨.str n, H', I', ⟨_, rfl⟩, q⟩
theorem own_str (O : OwnF N C X.prog X.w X.K X.mg X.base X.A) : CallR X (.type "str") (rOwnB N C mStr fun r => ∃ s, r = .str s) := by
  intro pins s σ H xs us Q I r ⟨a, c, fs, S, Qh, ex, rh, ea, w, k⟩
  subst ex
  obtain ⟨u, rfl, ru⟩ := vals1 r
  obtain rfl : u = Value.ref a := ru
  obtain ⟨hc, hin, dx, gs, h1, h2, h3⟩ := at_ins rh ea
  obtain ⟨mA, J, _⟩ := ins_get I.hok h1
  obtain ⟨od, J, _⟩ := J.look
  rcases O.str c hc with never | ⟨kk, fd, ps, F, hr, hb, hs, hf⟩
  · exact (never _ _ _ _ w).elim
  refine PySem.W.str_K hr.in1.in1.units0 I.kIn J hs hf ?_
  refine thn (run_spec (Q := fun v H' => ∃ n, v = .str n ∧ Q (.str n) H') rfl (hr.in1.in1.mono (by omega)) F hb I (.cons (show RelV (V.ref a) (Value.ref a) from rfl) .nil) (own_sp rh (.cons mk_ref .nil) w fun r S' v' H' f h' r' ⟨⟨n, e⟩, q⟩ => ?_)) fun w' s' ⟨v', H', I', r', n, e, q⟩ => ?_
  · subst e
    exact ⟨n, rd_str r', k _ _ _ _ f h' mk_str q⟩
  · subst e
    obtain ⟨t, rfl⟩ := r'
    exact ⟨.str n, H', I', ⟨_, rfl⟩, q⟩
theorem OwnF.ok (hK : N.K = X.K) (hu : X.A.units + 64 < cLine) (O : OwnF N C X.prog X.w X.K X.mg X.base X.A) : OwnOk N C X := ⟨own_eq hK hu O, own_ne hK hu O, own_len O, own_str O, own_repr O, own_bool O⟩
theorem own_noC : OwnOk N noC X :=
  ⟨fun _ _ _ _ _ _ _ _ _ _ _ _ ⟨_, _, _, _, _, _, _, _, _, _, _, q, _⟩ => q.elim, fun _ _ _ _ _ _ _ _ _ _ _ _ ⟨_, _, _, _, _, _, _, _, _, _, _, q, _⟩ => q.elim,
    fun _ _ _ _ _ _ _ _ _ ⟨_, _, _, _, _, _, _, _, q, _⟩ => q.elim, fun _ _ _ _ _ _ _ _ _ ⟨_, _, _, _, _, _, _, _, q, _⟩ => q.elim, fun _ _ _ _ _ _ _ _ _ ⟨_, _, _, _, _, _, _, _, q, _⟩ => q.elim, fun _ _ _ _ _ _ _ _ _ ⟨_, _, _, _, _, _, _, _, q, _⟩ => q.elim⟩
end
structure IsoOk (N : Nm) (K : PySem.W.Frag) (k : Addr) (cs : List Nat) : Prop where
  base : ∀ t ∈ ["NoneType", "bool", "int", "str", "tuple", "list", "dict"], PySem.W.kitOne K (.type t) (.ref k) = some false
  own : ∀ c ∈ N.oc, PySem.W.kitOne K (.ref (N.ca c)) (.ref k) = some (cs.contains c)
  cls : ∀ c ∈ N.oc, L2.Cls K (N.ca c) ∧ PySem.W.findIn K (.ref (N.ca c)) "__class__" = some (some (.builtin "object.__class__")) ∧ PySem.W.mroIn K (N.ca c) (.type "object") = some true
  sp : PySem.W.specialIn K (.builtin "object.__class__") "__get__" = some (some (.builtin "getset_descriptor.__get__"))
  tk : PySem.W.takesIn K (.builtin "object.__class__") = some true
section
variable {N : Nm} {Z : Sta × Hp} {X : Cx} {S S' S1 : Sta} {H H' H1 : Hp} {Q : VK} {Qh : K} {σ : L2.St} {ρ : Env} {pos p apos cpos pos' p2 : Pos} {a b c e o : Expr} {wa wb wc wo : Wp}
theorem iso_at (hK : N.K = X.K) {k : Addr} {cs : List Nat} (J : IsoOk N X.K k cs) (rh : RH N H S) {x : D} {v : V} {r : Bool} (rx : RD N H x v) (e : isKd S x (.own cs) = some r) : ∃ t, TyX X.K H v t ∧ PySem.W.kitOne X.K t (.ref k) = some r := by
  have data : ∀ t, tnD S x = some t → t ∈ ["NoneType", "bool", "int", "str", "tuple", "list", "dict"] → r = false → ∃ t, TyX X.K H v t ∧ PySem.W.kitOne X.K t (.ref k) = some r := fun t h1 h2 h3 => ⟨_, tn_at hK rh rx h1, by rw [h3]; exact J.base t h2⟩
  cases x with
  | non => exact data "NoneType" rfl (by simp) (by simp only [isKd] at e; cases e; rfl)
  | bl b => exact data "bool" rfl (by simp) (by simp only [isKd] at e; cases e; rfl)
  | int b => exact data "int" rfl (by simp) (by simp only [isKd] at e; cases e; rfl)
  | str b => exact data "str" rfl (by simp) (by simp only [isKd] at e; cases e; rfl)
  | tup b => exact data "tuple" rfl (by simp) (by simp only [isKd] at e; cases e; rfl)
  | ref a =>
    simp only [isKd] at e
    cases ea : S a with
    | none => rw [ea] at e; cases e
    | some ob =>
      rw [ea] at e
      cases ob with
      | lst l => exact data "list" (by simp only [tnD, ea]) (by simp) (by cases e; rfl)
      | dic l => exact data "dict" (by simp only [tnD, ea]) (by simp) (by cases e; rfl)
      | dicF l fu => cases e
      | ins c fs =>
        cases e
        cases rd_ref rx
        obtain ⟨hc, _, dx, gs, h1, _, _⟩ := at_ins rh ea
        obtain ⟨k1, k2, k3⟩ := J.cls c hc
        exact ⟨_, .base (.ins h1 k1 k2 J.sp J.tk k3), J.own c hc⟩
  | _ => simp only [isKd] at e; cases e
theorem he_isiO (hK : N.K = X.K) {x : Str} {k : Addr} {cs : List Nat} (J : IsoOk N X.K k cs) (hg : Gl X "isinstance") (hm : X.mg "isinstance" = none) (hg2 : Gl X x) (hm2 : X.mg x = some (.ref k)) (hdb : (x == ("__debug__" : Str)) = false) (ha : PE X a (tOf N Z wa)) (pl : plainA a = true) :
    PE X (.Call (.Name "isinstance" p) [a, .Name x p2] [] pos) (tOf N Z (hIsi wa (.own cs))) := by
  have h2 : PE X (.Name x p2) (tC (.ref k)) := pe_glob hg2 hm2 (show RelV (V.ref k) (Value.ref k) from rfl) hdb
  refine pimp (pe_callF call_isi (.fn _ rfl) hg hm (by decide +kernel) (by decide +kernel) (by decide +kernel) (pa_cons ha (pa_cons h2 pa_nil rfl) (starEach_plain _ pl)) (by rw [List.all_cons, pl]; rfl)) fun σ H Q t => ?_
  refine tOf.one (g := fun _ x S1 Q => ∃ b, isKd S1 x (.own cs) = some b ∧ Q (.bl b) S1) t fun ρ y S1 v H1 Qh rs rh fz rx g kn => ?_
  obtain ⟨r, e, q⟩ := g
  obtain ⟨t, e1, e2⟩ := iso_at hK J rh rx e
  exact ⟨v, .ref k, t, .ref k, r, rfl, .own _, e1, e2, kn.at rh mk_bl q⟩
def FsOk (N : Nm) (Z : Sta × Hp) (X : Cx) (vs : List Expr) (w : Str → Env → Sta → (Str → Sta → Prop) → Prop) : Prop :=
  ∃ ts, PJ X vs ts ∧ ∀ acc σ H (Q : Str → Hp → Prop) ρ S Qh, RS N H σ ρ → RH N H S → Fr Z.1 Z.2 S H → w acc ρ S Qh → (∀ s S' H', Fr S H S' H' → RH N H' S' → Qh s S' → Q s H') → tJs ts acc σ H Q
theorem fs_nil : FsOk N Z X [] fun acc ρ S Q => Q acc S := ⟨[], .nil, fun acc σ H Q ρ S Qh rs rh fz w k => k acc S H Fr.refl rh w⟩
theorem fs_val {vs : List Expr} {w : Str → Env → Sta → (Str → Sta → Prop) → Prop} (he : PE X e (tOf N Z wa)) (hr : FsOk N Z X vs w) : FsOk N Z X (.FormattedValue e (-1) none pos :: vs) fun acc ρ S Q => wa ρ S fun x S1 => fPart x acc S1 fun acc' S2 => w acc' ρ S2 Q := by
  obtain ⟨ts, pj, go⟩ := hr
  refine ⟨_, .cons (pe_fmt he) pj, fun acc σ H Q ρ S Qh rs rh fz q k => ?_⟩
  refine ⟨ρ, S, _, rs, rh, fz, q, fun x S1 v H1 f1 h1 r1 q1 => ?_⟩
  cases x with
  | str s =>
    cases rd_str r1
    obtain ⟨l1, l2, q1⟩ := q1
    exact .inl ⟨s, rfl, l1, s, rfl, by rw [Str.length_append]; exact l2, go _ _ _ _ ρ S1 Qh (rs.mono (f1.dle rh)) h1 (fz.trans f1) q1 fun s S' H' f h q => k s S' H' (f1.trans f) h q⟩
  | int i =>
    cases rd_int r1
    obtain ⟨l1, l2, q1⟩ := q1
    exact .inr ⟨i, rfl, l1, _, rfl, by rw [Str.length_append]; exact l2, go _ _ _ _ ρ S1 Qh (rs.mono (f1.dle rh)) h1 (fz.trans f1) q1 fun s S' H' f h q => k s S' H' (f1.trans f) h q⟩
  | _ => exact False.elim q1
theorem fs_con {vs : List Expr} {w : Str → Env → Sta → (Str → Sta → Prop) → Prop} {z : Str} (he : PE X e (tC (.str z))) (hr : FsOk N Z X vs w) : FsOk N Z X (e :: vs) fun acc ρ S Q => fPart (.str z) acc S fun acc' S2 => w acc' ρ S2 Q := by
  obtain ⟨ts, pj, go⟩ := hr
  refine ⟨_, .cons he pj, fun acc σ H Q ρ S Qh rs rh fz q k => ?_⟩
  obtain ⟨l1, l2, q1⟩ := q
  exact ⟨z, rfl, by rw [Str.length_append]; exact l2, go _ _ _ _ ρ S Qh rs rh fz q1 k⟩
theorem he_fs {v1 v2 : Expr} {vs : List Expr} {w : Str → Env → Sta → (Str → Sta → Prop) → Prop} (h : FsOk N Z X (v1 :: v2 :: vs) w) : PE X (.JoinedStr (v1 :: v2 :: vs) pos) (tOf N Z fun ρ S Q => w Str.empty ρ S fun s S1 => Q (.str s) S1) := by
  obtain ⟨ts, pj, go⟩ := h
  exact pimp (pe_joined pj) fun σ H Q ⟨ρ, S, Qh, rs, rh, fz, q, k⟩ => go Str.empty σ H _ ρ S _ rs rh fz q fun s S' H' f h q' => k _ _ _ _ f h mk_str q'
end
section
variable {N : Nm} {Z : Sta × Hp} {X : Cx} {S S' S1 : Sta} {H H' H1 : Hp} {σ : L2.St} {ρ : Env} {pos p apos cpos : Pos} {a b c e o : Expr} {wa wb wc : Wp} {w : Wps} {ks : List (Option Expr)} {vs : List Expr}
theorem he_dct0 : PE X (.Dict [] [] pos) (tOf N Z fun ρ S Q => ∀ p, S p = none → Q (.ref p) (ups S p (.dic []))) :=
  pimp pe_dnewK fun σ H Q t => fun p hp => by
    obtain ⟨ρ, S, Qh, rs, rh, fz, w, kn⟩ := t
    exact kn _ _ _ _ (Fr.new hp) (rh.new hp (m := .dic []) ⟨[], L2.upd_same, rfl, .nil⟩) mk_ref (w p (rh.fresh hp))
def flat2 : List (V × V) → List V
  | [] => []
  | (k, v) :: r => k :: v :: flat2 r
def DpOk (N : Nm) (Z : Sta × Hp) (X : Cx) (pos : Pos) (keys : List (Option Expr)) (values : List Expr) (w : Wps) : Prop :=
  ∃ trs, PPs X pos keys values trs ∧ ∀ σ H (Q : List (V × V) → Hp → Prop) ρ S Ql, RS N H σ ρ → RH N H S → Fr Z.1 Z.2 S H → w ρ S Ql → (∀ ds S' ps H', Fr S H S' H' → RH N H' S' → RDs N H' ds (flat2 ps) → Ql ds S' → Q ps H') → tPairs trs σ H Q
theorem dp_nil : DpOk N Z X pos [] [] fun _ S Q => Q [] S := ⟨[], pps_nil, fun σ H Q ρ S Ql rs rh fz w k => k [] S [] H Fr.refl rh .nil w⟩
theorem dp_cons (hk : PE X e (tOf N Z wa)) (hv : PE X c (tOf N Z wc)) (hr : DpOk N Z X pos ks vs w) : DpOk N Z X pos (some e :: ks) (c :: vs) fun ρ S Q => wa ρ S fun x S1 => wc ρ S1 fun y S2 => w ρ S2 fun ds S3 => Q (x :: y :: ds) S3 := by
  obtain ⟨trs, pp, go⟩ := hr
  refine ⟨_, pps_cons hk hv pp, fun σ H Q ρ S Ql rs rh fz q k => ?_⟩
  refine ⟨ρ, S, _, rs, rh, fz, q, fun x S1 v1 H1 f1 h1 r1 q1 => ?_⟩
  refine ⟨ρ, S1, _, rs.mono (f1.dle rh), h1, fz.trans f1, q1, fun y S2 v2 H2 f2 h2 r2 q2 => ?_⟩
  refine go σ H2 _ ρ S2 _ ((rs.mono (f1.dle rh)).mono (f2.dle h1)) h2 ((fz.trans f1).trans f2) q2 fun ds S3 ps H3 f3 h3 r3 q3 => ?_
  exact k (x :: y :: ds) S3 ((v1, v2) :: ps) H3 ((f1.trans f2).trans f3) h3 (.cons (RD.mono (f3.dle h2) _ _ (RD.mono (f2.dle h1) _ _ r1)) (.cons (RD.mono (f3.dle h2) _ _ r2) r3)) q3
theorem pairs_of : ∀ {kvs : List (Key × D)} {ps : List (V × V)}, RDs N H (kvs.flatMap fun p => [dKey p.1, p.2]) (flat2 ps) → ∃ kvs' : List (Key × V), ps = kvs'.map (fun kv => (kV kv.1, kv.2)) ∧ kvs'.map (·.1) = kvs.map (·.1) ∧ RDs N H (kvs.map (·.2)) (kvs'.map (·.2))
  | [], [], _ => ⟨[], rfl, rfl, .nil⟩
  | [], (_, _) :: _, r => by cases r
  | (k, d) :: kvs, [], r => by
    obtain ⟨v1, t1, e1, _⟩ := r.uncons
    cases e1
  | (k, d) :: kvs, (x, y) :: ps, r => by
    simp only [List.flatMap_cons, List.cons_append, List.nil_append, flat2] at r
    obtain ⟨v1, t1, e1, h1, h2⟩ := r.uncons
    cases e1
    obtain ⟨v2, t2, e2, h3, h4⟩ := h2.uncons
    cases e2
    obtain ⟨kvs', g1, g2, g3⟩ := pairs_of h4
    refine ⟨(k, y) :: kvs', ?_, by simp only [List.map_cons, g2], .cons h3 g3⟩
    rw [g1, List.map_cons]
    congr 2
    cases k with
    | inl i => exact rd_int h1
    | inr s => exact rd_str h1
theorem he_dct {keys : List (Option Expr)} {values : List Expr} (h : DpOk N Z X pos keys values w) (hall : keys.all (·.isSome) = true) (hl : keys.length = values.length) (h0 : keys ≠ []) (h15 : keys.length ≤ 15) :
    PE X (.Dict keys values pos) (tOf N Z fun ρ S Q => w ρ S fun ds S1 => ∃ kvs : List (Key × D), ds = kvs.flatMap (fun p => [dKey p.1, p.2]) ∧ kvs.length ≤ 15 ∧ ∀ p, S1 p = none → Q (.ref p) (ups S1 p (.dic (kmerge [] kvs)))) := by
  obtain ⟨trs, pp, go⟩ := h
  refine pimp (pe_disp pp hall hl h0 h15) fun σ H Q t => ?_
  obtain ⟨ρ, S, Qh, rs, rh, fz, q, kn⟩ := t
  intro p hp
  have hS := rh.fresh hp
  have dl : Dle H (upd H p (.dK [])) := dle_new hp
  have fr : Fr S H S (upd H p (.dK [])) := Fr.skip hp
  refine go σ _ _ ρ S _ (rs.mono dl) (rh.skip hp) (fz.trans fr) q fun ds S1 ps H2 f2 h2 r2 q2 => ?_
  obtain ⟨kvs, e, l15, q2⟩ := q2
  subst e
  obtain ⟨e1, e2⟩ := f2 p _ L2.upd_same hS
  refine ⟨e1, ?_⟩
  obtain ⟨kvs', ep, ek, ev⟩ := pairs_of r2
  have hlen : kvs'.length = kvs.length := by
    have := congrArg List.length ek
    simpa using this
  obtain ⟨g1, g2⟩ := kmerge_rel (N := N) (H := H2) (kvs := []) (ws := []) ek ev rfl .nil
  refine ⟨kvs', ep, by omega, kn _ _ _ _ (fun a u q n => ?_) (h2.put e1 rfl (m := .dic (kmerge [] kvs)) ⟨_, L2.upd_same, g1, g2.mono' (dle_put e1 rfl)⟩) mk_ref (q2 p e2)⟩
  have e : a ≠ p := L2.ne_of_none q hp
  obtain ⟨x, y⟩ := (fr.trans f2) a u q n
  exact ⟨by rw [L2.upd_ne e]; exact x, by rw [ups_ne e]; exact y⟩
end
structure KTab (N : Nm) (K : PySem.W.Frag) (w : World) (d : Addr) (kvs : List (Str × D)) : Prop where
  ex : ∃ es n, KDict K w d es n ∧ ∀ k, match kvs.lookup k with
    | some v => ∃ u v0, findBy Value.isStrOf es k = some u ∧ RelV v0 u ∧ ∀ H, RD N H v v0
    | none => findBy Value.isStrOf es k = none
section
variable {N : Nm} {Z : Sta × Hp} {X : Cx} {S S' S1 : Sta} {H H' H1 : Hp} {Q : VK} {Qh : K} {σ : L2.St} {ρ : Env} {pos p apos cpos : Pos} {e i z g : Expr} {wi wz wg : Wp} {ws : Wps} {es : List Expr} {x : Str} {d : Addr} {kvs : List (Str × D)}
theorem ix_tab (T : KTab N X.K X.w d kvs) : IxR X (fun v u H Q => ∃ k y, v = .ref d ∧ u = .str k ∧ kvs.lookup k = some y ∧ ∀ v0, RD N H y v0 → Q v0 H) := by
  intro value slice pins s σ H v u vv uv Q I rv ru ⟨k, y, ev, eu, el, q⟩ hs
  obtain ⟨es, n, D, all⟩ := T.ex
  have a := all k
  rw [el] at a
  obtain ⟨w, v0, e, r, rd⟩ := a
  subst ev eu
  cases rv
  obtain ⟨t, rfl⟩ := ru
  have mm := PySem.W.mapOf_K (prog := X.prog) (w := X.w) I.kIn D.at_ D.lit
  exact tail_any mm.typeIs PySem.F.slot_dict_getitem.lookup (wpAny_getItem_of (PySem.strKind_is X.prog X.w k t) mm e ⟨v0, H, I.tok _, r, q v0 (rd H)⟩) hs
def hGix (kvs : List (Str × D)) (wi : Wp) : Wp := fun ρ S Q => wi ρ S fun y S1 => ∃ k d, y = .str k ∧ kvs.lookup k = some d ∧ Q d S1
theorem he_gix (T : KTab N X.K X.w d kvs) (hg : Gl X x) (hm : X.mg x = some (.ref d)) (hdb : (x == ("__debug__" : Str)) = false) (hi : PE X i (tOf N Z wi)) (pl : plainIx i = true) : PE X (.Subscript (.Name x p) i pos) (tOf N Z (hGix kvs wi)) :=
  pimp (pe_ix (ix_tab T) (pe_glob (v := .ref d) (pos := p) hg hm rfl hdb) hi (plainIx_ok pl)) fun σ H Q t => tOf.one (g := fun _ y S1 Q => ∃ k d, y = .str k ∧ kvs.lookup k = some d ∧ Q d S1) t fun ρ y S1 u H1 Qh rs rh fz ru ⟨k, v, ey, el, q⟩ kn => by
    subst ey
    exact ⟨k, v, rfl, rd_str ru, el, fun v0 r => kn.at rh r q⟩
def hGget (kvs : List (Str × D)) (wi wz : Wp) : Wp := fun ρ S Q => wi ρ S fun y S1 => wz ρ S1 fun u S2 => ∃ k, y = .str k ∧ Q ((kvs.lookup k).getD u) S2
theorem he_gget (T : KTab N X.K X.w d kvs) (hg : Gl X x) (hm : X.mg x = some (.ref d)) (hdb : (x == ("__debug__" : Str)) = false) (hi : PE X i (tOf N Z wi)) (hz : PE X z (tOf N Z wz)) (hline : (apos.endLine == cpos.line) = true) (pl : plainA i = true) (pl2 : plainA z = true) :
    PE X (.Call (.Attribute (.Name x p) "get" apos) [i, z] [] cpos) (tOf N Z (hGget kvs wi wz)) := by
  obtain ⟨es, n, D, all⟩ := T.ex
  refine ⟨fun pins s σ H Q I t => ?_⟩
  have pa : PA X [i, z] (tCons (tOf N Z wi) (tCons (tOf N Z wz) tNil)) := pa_cons hi (pa_cons hz pa_nil (starEach_plain _ pl2)) (starEach_plain _ pl)
  refine wpAny_Call_method_late rfl (few_args (by simp [pl, pl2]) (by simp)) hline rfl (ld_glob I hg hm ?_ hdb)
  have mm := PySem.W.mapOf_K (prog := X.prog) (w := X.w) I.kIn D.at_ D.lit
  refine ⟨"dict", "dict.get", F.plainAttrs_dict, F.slot_dict_get, F.type_dict_get, mm.typeIs, mm.noDict, ?_⟩
  have post : tCons (tOf N Z wi) (tCons (tOf N Z wz) tNil) σ H fun vs H1 => ∃ k y, vs = [.str k, y] ∧ ((∃ u v0, findBy Value.isStrOf es k = some u ∧ RelV v0 u ∧ Q v0 H1) ∨ (findBy Value.isStrOf es k = none ∧ Q y H1)) := by
    refine tOf.two (g := fun y u S2 Q => ∃ k, y = .str k ∧ Q ((kvs.lookup k).getD u) S2) t fun y u S2 v v2 H2 Qh rh ry ru ⟨k, ey, q⟩ kn => ?_
    subst ey
    cases rd_str ry
    refine ⟨k, v2, rfl, ?_⟩
    have a := all k
    cases el : kvs.lookup k with
    | none => rw [el] at a q; exact .inr ⟨a, kn.at rh ru q⟩
    | some y =>
      rw [el] at a q
      obtain ⟨u0, v0, e, r, rd⟩ := a
      exact .inl ⟨u0, v0, e, r, kn.at rh (rd H2) q⟩
  have hA := pa.run cpos pins s σ H _ I post
  rw [starEach_plain _ pl] at hA ⊢
  refine Calls.callWith_builtin (by show (false || (backTo cpos (starEach [z] X.env)).any (·.1)) = false; rw [star_none _ (by simp [pl2])] <;> rfl) (Calls.evalArgs_plain ?_)
  refine thn hA fun us s2 ⟨vs, H2, I2, r2, k, y, ev, q2⟩ => ?_
  subst ev
  obtain ⟨u1, u2, rfl, r1, r3⟩ := vals2 r2
  obtain ⟨tk, rfl⟩ := r1
  have m2 := PySem.W.mapOf_K (prog := X.prog) (w := X.w) I2.kIn D.at_ D.lit
  refine call_meetsIn PySem.F.slot_dict_get m2.typeIs PySem.F.entry_dict_get (PySem.F.args_dict_get_3 _ _ _) (meets_dict_get_default (PySem.strKind X.prog X.w) d (PySem.strKind_is X.prog X.w k tk) D.low u2) ⟨_, m2, ?_⟩
  rcases q2 with ⟨u0, v0, e, r, q2⟩ | ⟨e, q2⟩
  · rw [e]
    exact ⟨v0, H2, I2.tok _, r, q2⟩
  · rw [e]
    exact ⟨y, H2, I2.tok _, r3, q2⟩
def hCallv (C : Orc) (fs : List Nat) (wg : Wp) (ws : Wps) (Ex : D → Env → Sta → Prop) : Wp := fun ρ S Q => wg ρ S fun x S1 => ∃ f, f ∈ fs ∧ x = .fn f ∧ ws ρ S1 fun ds S2 => C f ds S2 Q fun x S' => Ex x ρ S'
def isNS : Expr → Bool
  | .Name _ _ => true
  | .Subscript _ _ _ => true
  | _ => false
theorem he_callv {C : Orc} {Ex : D → Env → Sta → Prop} {fs : List Nat} (tk : L2C.Takes X (xOf N Z Ex)) (co : ∀ f ∈ fs, CallOk N C X.prog X.w X.K X.mg X.base X.A f [] ∧ PySem.W.keepIn X.K (.ref (N.fa f)) = true) (hns : isNS g = true) (hg : PE X g (tOf N Z wg))
    (ha : PA X (e :: es) (tA N Z ws)) (pl : (e :: es).all plainA = true) : PE X (.Call g (e :: es) [] pos) (tOf N Z (hCallv C fs wg ws Ex)) := by
  simp only [List.all_cons, Bool.and_eq_true] at pl
  refine ⟨fun pins s σ H Q I ⟨ρ, S, Qh, rs, rh, fz, w, kn⟩ => ?_⟩
  have go := hg.run pins s σ H (fun v H1 => ∃ f S1, f ∈ fs ∧ v = .ref (N.fa f) ∧ RH N H1 S1 ∧ Fr S H S1 H1 ∧ ws ρ S1 fun ds S2 => C f ds S2 Qh fun x S' => Ex x ρ S') I ⟨ρ, S, _, rs, rh, fz, w, fun x S1 v H1 f1 h1 rx ⟨f, hf, ex, q⟩ => by
    subst ex
    exact ⟨f, S1, hf, rd_fn rx, h1, f1, q⟩⟩
  refine Call_ (thn go fun v s1 ⟨v', H1, I1, r1, f, S1, hf, ev, h1, f1, q⟩ => ?_) (by cases g <;> first | rfl | cases hns)
  subst ev
  cases r1
  obtain ⟨c, hk⟩ := co f hf
  obtain ⟨k, fd, ps, dvs, dfs, F, hr, hb, hd, hds⟩ := c.run
  have e1 : dvs = [] := (hds H1).unnil
  subst e1
  refine PySem.W.callWith_K (h₀ := X.base) I1.ok.mod.kin hk (thn (ha.run pos pins s1 σ H1 (fun vs H2 => spF N C f (vs ++ []) H2 Q (WE (xOf N Z Ex) σ)) I1 ⟨ρ, S1, _, rs.mono (f1.dle rh), h1, fz.trans f1, q, fun ds S2 vs H2 f2 h2 r2 q2 => ?_⟩) fun us s2 ⟨vs, H2, I2, r2, q2⟩ => ⟨I2.kIn, ?_⟩) (starEach_plain _ pl.1) (star_none _ pl.2)
  · exact ⟨ds ++ [], S2, Qh, _, r2.append .nil, h2, by rw [List.append_nil]; exact q2, (kn.step f1).step f2, KnX.of (rs.mono ((f1.trans f2).dle rh)) h2 ((fz.trans f1).trans f2)⟩
  · exact run_fnSD F hr hb hd (L2C.passAt tk σ) I2 r2 q2
end
end A
namespace A
open PySem L2 PyProof.Rows
open L2H (RoomH PinOk)
open L2C (HotK cxK)
section
variable {X : Cx} {k : Nat} {f : Addr} {x qual nm : Str} {params : Arguments} {body : List Stmt} {scope : Scope} {dvs : List V} {kws : List (Str × V)} {fd : FuncData} {Ns ps : List Str} {po : Addr × Obj} {l : List (Addr × Obj)} {pins : List (Addr × Obj)} {σ : L2.St} {H : Hp} {s : Shared} {Q : VK}
theorem hot_run (F : FunD X.K x qual params body scope dvs kws f fd) (sc : FnScope Ns ps scope) (one : ps.length = 1) (bd : Binds X.K fd ps []) (room : RoomH (k + 1) X.A) (hk : HotK X po l) (I : Inv X pins σ H s)
    (hb : ∀ cdv : Value, RoomH k (X.A.deeper (envOfC qual scope s.heap.objs.size f cdv)) → ∃ t, PSs (cxK noCX X.prog X.w X.K X.mg X.base Ns qual scope f cdv X.A X.stack s H noXK (po :: l)) body t ∧ t { nx := fun _ H' => Q .non H', rt := Q } (L2.start Ns [.ref po.1]) H) :
    wpAny (model X.prog X.w) X.A (PySem.call (.ref f) [.ref po.1]) (EP X pins σ Q) X.xe s := by
  obtain ⟨oc, od, dV, kV, doc, pm, an, cdv, ct, osl, rfl, lk, hcd, _, _⟩ := F.ex
  have e0 := I.env0
  have pin : ∀ p ∈ po :: l, PinOk X.stack H s p := fun p hp => pin_out I (hk.mem p hp)
  have vals : Vals [V.ref po.1] [Value.ref po.1] := .cons rfl .nil
  have b1 := bd s [.ref po.1] I.kIn (by rw [List.append_nil, one]; rfl)
  rw [List.append_nil] at b1
  have kh : X.K.In s.heap := e0.mod.kin.keeps fun b o e => (e0.bs b o e).1
  have nl : s.heap.NoLimit := e0.mod.nolimit.keeps fun b o e => (e0.bs b o e).1
  have kinds : ∀ y ∈ ps.zip [Value.ref po.1], scope.names.lookup y.1 = some .local ∨ (scope.names.lookup y.1 = some .cell ∧ ((cellsFrom (s.heap.objs.size + 1) scope.names []).lookup y.1).isSome = true) := fun y hy => by
    obtain ⟨n, v⟩ := y
    rcases sc.par n (List.of_mem_zip hy).1 with g | g
    · exact .inl g
    · exact .inr ⟨g, PySem.W.cellsFrom_some _ _ _ (.inl g)⟩
  refine wpAny_call (codeAny_mono (R := CR noCX X.stack X.prog X.w H s Q noXK) ?_ fun r s' hr => ?_)
  · refine codeAny_call_function room.depth (kh _ _ lk) rfl sc.co sc.gen rfl (PySem.W.codeRec_of kh hcd) (b1 _ _ _ _ ?_)
    refine wpAny_newFunctionEnv_cells sc.kind kinds fun env ee s1 inn => ?_
    subst ee
    refine ⟨nl.keeps inn.toInCall.keep, codeAny_func ?_⟩
    obtain ⟨t, ht, hq⟩ := hb cdv (room.deeper _)
    have J := L2C.inv_startK (CX := noCX) (E := noXK) (cd := cdv) (qual := qual) (f := f) sc pin e0 (vs := [V.ref po.1]) (by rw [one]; rfl) vals inn
    refine wpAny_mono (ht.run [] s1 _ H _ J hq) (fun fl s2 hs => ?_) fun e s2 hs => hs
    have out : ∀ {σ2 : L2.St} {H2 : Hp} {v : V} {u : Value}, Inv (cxK noCX X.prog X.w X.K X.mg X.base Ns qual scope f cdv X.A X.stack s H noXK (po :: l)) [] σ2 H2 s2 → RelV v u → Q v H2 → CE X.stack X.prog X.w H s Q u s2 := fun J2 rv q => ⟨_, _, J2.os, J2.bare, J2.base, J2.hok, rv, q⟩
    cases fl with
    | next =>
      obtain ⟨σ2, H2, J2, q⟩ := hs
      exact out (v := .non) (u := Value.none) J2 rfl q
    | ret u =>
      obtain ⟨v, σ2, H2, J2, rv, q⟩ := hs
      exact out J2 rv q
    | brk => obtain ⟨_, _, _, z⟩ := hs; exact False.elim z
    | cont => obtain ⟨_, _, _, z⟩ := hs; exact False.elim z
  · cases r with
    | error e => exact False.elim hr
    | ok fl => cases fl <;> first | exact False.elim hr | exact I.after hr
end
abbrev blkH (X : Cx) (s : Shared) (H : Hp) (scope : Scope) (ce : PySem.Env) (fp : List Addr) (L : List (Addr × Obj)) : Cx := { X.blk s H scope ce fp with pn := L }
section
variable {X : Cx} {po : Addr × Obj} {l L : List (Addr × Obj)} {pins : List (Addr × Obj)} {σ : L2.St} {H : Hp} {s : Shared}
theorem inv_blkH {s0 : Shared} {H0 : Hp} {scope : Scope} {ce : PySem.Env} {fp : List Addr} (I : Inv (X.blk s0 H0 scope ce fp) [] σ H s) (h : ∀ p ∈ L, PinOk X.stack H s p) (n : ∀ p ∈ L, p.1 ≠ ce.locals) : Inv (blkH X s0 H0 scope ce fp L) [] σ H s := by
  have O := I.ok
  refine ⟨⟨O.mod, O.kind, O.glob, O.blt, O.above, O.inj, O.has, O.cab, O.hd, O.frames, O.stk, O.exf, O.bs, O.bsz, O.noex, O.exfs, O.funs, O.frf⟩, I.os, I.bare, I.base, I.loc, I.cell, I.free, I.freeC, fun q hq => ?_, I.hok, I.len⟩
  have hq : q ∈ L := by rw [List.append_nil] at hq; exact hq
  have y := h q hq
  exact ⟨y.get, y.free, n q hq, y.nofs, y.nocell⟩
theorem lc_hot {Q : VK} {elt tg iter : Expr} {ifs : List Expr} {scope : Scope} {own : List (Str × Nat)} {pos pos' : Pos} {wi : TI} {g : TG} {tt : TT} {te : TE}
    (hk : HotK X po l) (hN : X.N.Nodup) (I : Inv X pins σ H s) (hi : L2C.PIK X tg iter wi) (ok : BlkOk X.N X.env.scope scope own)
    (hg : ∀ s0 H0 C cl fp, PG (blkH X s0 H0 scope (compEnvC scope cl C X.env) fp (po :: l)) tg g) (ht : ∀ s0 H0 C cl fp, PTs (blkH X s0 H0 scope (compEnvC scope cl C X.env) fp (po :: l)) ifs tt)
    (he : ∀ s0 H0 C cl fp, PE (blkH X s0 H0 scope (compEnvC scope cl C X.env) fp (po :: l)) elt te) (hs : ∀ x, foldedSetIterable iter X.env x = pure x) (h : tLc wi g tt te (own.map (·.2)) σ H Q) :
    wpAny (model X.prog X.w) X.A (comprehension (.ListComp elt [⟨tg, iter, ifs, 0⟩] scope pos) scope X.env pos' (newList []) false (eval iter X.env) none) (EP X pins σ Q) X.xe s := by
  have seen : ∀ y ∈ scope.names, y.2 = .free → ∃ c, X.env.cells.lookup y.1 = some c := fun y hy e => (ok.free y hy e).elim (fun z => I.ok.has _ (.inl z)) fun z => I.ok.has _ (.inr z)
  refine wpAny_comprehension_free (use := none) rfl hs (closure_ok seen) ok.kind (fun y hy e => by rw [ok.uniq y hy, e]) (thn (hi.run pins s σ H _ I h) fun v0 s1 hv => thn hv fun v1 s2 hw => ?_)
  obtain ⟨it, fp, tn, J, H2, e, I2, T, st2, f2, q⟩ := hw
  subst e
  refine wpAny_newObj_type (newEnv_comp ?_) (by show 0 ≤ sizeLine; decide)
  -- the new list at Z
  obtain ⟨Z, hZ⟩ : ∃ Z, Z = s2.heap.objs.size := ⟨_, rfl⟩
  rw [← hZ]
  have nZ : H2 Z = none := I2.hok.fresh (Nat.le_of_eq hZ.symm)
  obtain ⟨W, ⟨m0, w0⟩, turn⟩ := q Z nZ
  generalize e3 : ({ s2 with heap := s2.heap.push { cls := .type "list", data := .seq ([] : List Value).toArray } } : Shared) = s3
  have hs3 := e3.symm
  have hh3 : s3.heap = s2.heap.push { cls := .type "list", data := .seq ([] : List Value).toArray } := by rw [hs3]
  have kp3 : ∀ b o, s2.heap.get? b = some o → s3.heap.get? b = some o := fun b o e => by rw [hh3]; exact Heap.get?_push_of_some _ e
  have I3 : Inv X pins σ (upd H2 Z (.lst [])) s3 := by
    have at_ : s3.heap.get? Z = some { cls := .type "list", data := .seq ([] : List Value).toArray } := by rw [hh3, hZ]; exact Heap.get?_push_size _ rfl
    rw [hs3] at at_ ⊢
    exact I2.laid (t' := s2.toks) (fun b o e => Heap.get?_push_of_some _ e) (Nat.le_of_eq hZ.symm) ⟨Nat.zero_le _, [], 0, .nil, at_⟩
  have small : ∀ b ∈ fp, b < s2.heap.objs.size := fun b hb => let ⟨o, e, _⟩ := T.obj _ _ st2 b hb; Heap.lt_size e
  have f3 : ∀ b ∈ fp, FpOk X pins (upd H2 Z (.lst [])) b ∧ b < s3.heap.objs.size := fun b hb => by
    have lt := small b hb
    have nb : b ≠ Z := fun z => by rw [z, hZ] at lt; exact Nat.lt_irrefl _ lt
    exact ⟨⟨by rw [L2.upd_ne nb]; exact (f2 b hb).1, (f2 b hb).2⟩, by rw [hh3, Heap.size_push]; exact Nat.lt_succ_of_lt lt⟩
  have st3 : tn 0 s3.heap := T.keep _ _ _ st2 fun b _ o e => kp3 b o e
  have I4 := block_start I3 ok hN f3
  have o3 : ∀ p ∈ po :: l, PinOk X.stack (upd H2 Z (.lst [])) s3 p := fun p hp => pin_out I3 (hk.mem p hp)
  have lt3 : ∀ p ∈ po :: l, p.1 < s3.heap.objs.size := fun p hp => Heap.lt_size (o3 p hp).get
  have pg := hg s3 (upd H2 Z (.lst [])) s3.heap.objs.size (cellsFrom (s3.heap.objs.size + 1) scope.names (cloFrom X.env.cells scope.names [])) fp
  have pt := ht s3 (upd H2 Z (.lst [])) s3.heap.objs.size (cellsFrom (s3.heap.objs.size + 1) scope.names (cloFrom X.env.cells scope.names [])) fp
  have pe := he s3 (upd H2 Z (.lst [])) s3.heap.objs.size (cellsFrom (s3.heap.objs.size + 1) scope.names (cloFrom X.env.cells scope.names [])) fp
  show codeAny _ _ (.compStart (.ListComp elt [⟨tg, iter, ifs, 0⟩] scope pos) 0 (.ref it) (.ref Z) (compEnvC scope (cellsFrom (s3.heap.objs.size + 1) scope.names (cloFrom X.env.cells scope.names [])) s3.heap.objs.size X.env)) (compPost (model X.prog X.w) X.A X.xe none (EP X pins σ Q) (.ref Z) s3.heap.objs.size) { s3 with heap := pushCells (s3.heap.push { cls := .type "dict", data := .dict #[] }) scope.names }
  have nf : ∀ b ∈ fp, (upd H2 Z (.lst [])) b = none := fun b hb => (f3 b hb).1.1
  have pn3 : ∀ p ∈ po :: l, PinOk X.stack (upd H2 Z (.lst [])) { s3 with heap := pushCells (s3.heap.push { cls := .type "dict", data := .dict #[] }) scope.names } p := fun p hp =>
    let o := o3 p hp; ⟨pushCells_keeps _ _ _ _ (Heap.get?_push_of_some _ o.get), o.free, o.nofs, o.nocell⟩
  generalize hce : compEnvC scope (cellsFrom (s3.heap.objs.size + 1) scope.names (cloFrom X.env.cells scope.names [])) s3.heap.objs.size X.env = ce at I4 pg pt pe ⊢
  have cL : ce.locals = s3.heap.objs.size := by rw [← hce]; rfl
  have I5 := inv_blkH I4 pn3 (fun p hp => by rw [cL]; exact Nat.ne_of_lt (lt3 p hp))
  generalize hH3 : upd H2 Z (.lst []) = H3 at I3 I5 pg pt pe w0 nf f3
  generalize hs4 : ({ s3 with heap := pushCells (s3.heap.push { cls := .type "dict", data := .dict #[] }) scope.names } : Shared) = s4 at I5 ⊢
  have st4 : tn 0 s4.heap := T.keep _ _ _ st3 fun b _ o e => by rw [← hs4]; exact pushCells_keeps _ _ _ _ (Heap.get?_push_of_some _ e)
  have hot : HotK (blkH X s3 H3 scope ce fp (po :: l)) po l := ⟨hk.hd, fun p hp => hp, hk.ctx⟩
  have nop : ∀ b ∈ fp, ∀ p ∈ po :: l, p.1 ≠ b := fun b hb p hp => (f3 b hb).1.2.2.2.2.2 p (List.mem_append.mpr (.inl (hk.mem p hp)))
  have stat : ∀ {σ' : L2.St} {H' : Hp} {s' : Shared}, Inv (blkH X s3 H3 scope ce fp (po :: l)) [] σ' H' s' → (∀ b ∈ fp, H' b = none) → ∀ b ∈ fp, FpOk (blkH X s3 H3 scope ce fp (po :: l)) [] H' b := fun I' hn b hb =>
    ⟨hn b hb, (I'.ok.exf b hb).1, I'.ok.exfs b hb, .inl hb, fun x c e => (I'.ok.exf b hb).2 x c e, fun p hp' => nop b hb p (by rw [List.append_nil] at hp'; exact hp')⟩
  have loop : codeAny (model X.prog X.w) X.A (.compLoop (.ListComp elt [⟨tg, iter, ifs, 0⟩] scope pos) 0 (.ref it) (.ref Z) ce) (compPost (model X.prog X.w) X.A X.xe none (EP X pins σ Q) (.ref Z) s3.heap.objs.size) s4 := by
    refine compLoop_any (fun n t => ∃ i H', Inv (blkH X s3 H3 scope ce fp (po :: l)) [] (wipe σ (own.map (·.2))) H' t ∧ tn i t.heap ∧ (∀ b ∈ fp, H' b = none) ∧ W i n H') ?_ m0 ⟨0, H3, I5, st4, nf, w0⟩
    rintro n t5 ⟨i, H5, J5, st5, n5, w5⟩
    rcases turn i n H5 w5 with ⟨stop, qd⟩ | ⟨go, Nx, hNx, step⟩
    · refine thnF (T.done (blkH X s3 H3 scope ce fp (po :: l)) po l i [] t5 _ H5 (fun _ _ => False) rfl rfl rfl hot J5 (stat J5 n5) st5 stop) fun r t6 ⟨er, J6⟩ => ?_
      subst er
      have K6 : Inv X pins σ H5 t6 := I3.call' (ch := fp) J6.os J6.base J6.hok J6.bare fun b hb => let f := (f3 b hb).1; ⟨f.2.2.2.1, f.2.1, f.2.2.2.2.1, f.2.2.2.2.2⟩
      have nC : H5 s3.heap.objs.size = none := by
        have z : H5 ce.locals = none := J6.free
        rwa [cL] at z
      obtain ⟨m, hm, _⟩ := J6.loc
      have hm : t6.heap.Ns ce.locals m := hm
      rw [cL] at hm
      obtain ⟨g0, g1, g2, g3, g4, g5⟩ := I3.fpOk (Nat.le_refl _) nC
      exact ⟨m, hm, fun h7 sb => ⟨.ref Z, H5, K6.turned (t' := t6.toks) (fun b o hb e => (sb.2 b hb).trans e) g0 g1 g3 g4 g5, rfl, qd⟩⟩
    · refine thnF (T.item (blkH X s3 H3 scope ce fp (po :: l)) i [] t5 _ H5 (fun _ _ => False) rfl rfl rfl J5 (stat J5 n5) st5 go) fun r t6 ⟨u, er, h6⟩ => ?_
      subst er
      refine thnF h6 fun _ t7 ⟨x, H7, J7, r7, y7, st7, n7⟩ => ?_
      have P7 := J7.pinned (stat J7 n7) (T.obj _ _ st7)
      refine thnF (pg.run _ t7 _ H7 x u _ P7 r7 (step x H7 y7)) fun _ t8 ⟨σ8, H8, J8, e8, q8⟩ => ?_
      refine thnF (pt.run _ t8 σ8 H8 _ J8 q8) fun b t9 ⟨H9, J9, q9⟩ => ?_
      have again : ∀ {t : Shared} {H' : Hp}, Inv (blkH X s3 H3 scope ce fp (po :: l)) ([] ++ pinsAt fp t7.heap) σ8 H' t → Nx H' → ∃ m, m < n ∧ ∃ i H', Inv (blkH X s3 H3 scope ce fp (po :: l)) [] (wipe σ (own.map (·.2))) H' t ∧ tn i t.heap ∧ (∀ b ∈ fp, H' b = none) ∧ W i m H' := fun {t H'} J' nx => by
        obtain ⟨m', lt, w'⟩ := hNx H' nx
        have there : ∀ b ∈ fp, ∀ o, t7.heap.get? b = some o → t.heap.get? b = some o ∧ H' b = none := fun b hb o e => let z := J'.pin (b, o) (List.mem_append_right _ (List.mem_append_right _ (mem_pinsAt hb e))); ⟨z.1, z.2.1⟩
        refine ⟨m', lt, i + 1, H', (J'.unpinned (pins := [])).weak (by rw [← e8, wipe_length]) (fun j v e => by rw [← e8] at e; exact (wipe_some e).1), T.keep _ _ _ st7 fun b hb o e => (there b hb o e).1, fun b hb => ?_, w'⟩
        obtain ⟨o, e, _⟩ := T.obj _ _ st7 b hb
        exact (there b hb o e).2
      cases b with
      | false =>
        simp only [Bool.false_eq_true, if_false] at q9 ⊢
        exact again J9 q9
      | true =>
        simp only [if_true] at q9 ⊢
        refine thnF (pe.run _ t9 σ8 H9 _ J9 q9) fun z t10 ⟨y, H10, J10, r10, acc, hz10, l10, nx⟩ => ?_
        exact app_ok (X := blkH X s3 H3 scope ce fp (po :: l)) J10 hz10 l10 r10 fun t11 J11 => again J11 nx
  exact codeAny_compStart_list loop (T.self X.A 0 _ _ _ st4 loop)
theorem pe_lcHot {elt tg iter : Expr} {ifs : List Expr} {scope : Scope} {own : List (Str × Nat)} {pos : Pos} {wi : TI} {g : TG} {tt : TT} {te : TE}
    (hk : HotK X po l) (hN : X.N.Nodup) (hi : L2C.PIK X tg iter wi) (ok : BlkOk X.N X.env.scope scope own)
    (hg : ∀ s0 H0 C cl fp, PG (blkH X s0 H0 scope (compEnvC scope cl C X.env) fp (po :: l)) tg g) (ht : ∀ s0 H0 C cl fp, PTs (blkH X s0 H0 scope (compEnvC scope cl C X.env) fp (po :: l)) ifs tt)
    (he : ∀ s0 H0 C cl fp, PE (blkH X s0 H0 scope (compEnvC scope cl C X.env) fp (po :: l)) elt te) (hs : ∀ x, foldedSetIterable iter X.env x = pure x) : PE X (.ListComp elt [⟨tg, iter, ifs, 0⟩] scope pos) (tLc wi g tt te (own.map (·.2))) :=
  ⟨fun pins s σ H Q I h => by
    rw [eval_ListComp]
    exact lc_hot hk hN I hi ok hg ht he hs h⟩
end
def FnX (X : Cx) : Prop := X.env.scope.kind = .function ∧ X.stack = X.env :: X.outer ∧ X.env.frame = some X.env.locals
section
variable {N : Nm} {H : Hp} {r : Option (Nat × Nat × List Nat × List D × Addr × Addr)}
def Nm.to (N : Nm) (r : Option (Nat × Nat × List Nat × List D × Addr × Addr)) : Nm := ⟨N.K, N.fa, N.ca, N.fnm, N.oc, N.xc, N.fl, r⟩
mutual
theorem RD_to : ∀ (d : D) (v : V), RD (N.to r) H d v ↔ RD N H d v
  | .non, _ => by simp only [RD]
  | .bl _, _ => by simp only [RD]
  | .int _, _ => by simp only [RD]
  | .str _, _ => by simp only [RD]
  | .ref _, _ => by simp only [RD]
  | .fn _, _ => by simp only [RD]; exact Iff.rfl
  | .exc _ _ _, _ => by simp only [RD]
  | .tup l, v => by
    simp only [RD]
    exact ⟨fun ⟨a, vs, e, q, x⟩ => ⟨a, vs, e, q, (RDs_to l vs).mp x⟩, fun ⟨a, vs, e, q, x⟩ => ⟨a, vs, e, q, (RDs_to l vs).mpr x⟩⟩
  | .lis l, v => by
    simp only [RD]
    exact ⟨fun ⟨a, vs, e, q, x⟩ => ⟨a, vs, e, q, (RDs_to l vs).mp x⟩, fun ⟨a, vs, e, q, x⟩ => ⟨a, vs, e, q, (RDs_to l vs).mpr x⟩⟩
theorem RDs_to : ∀ (ds : List D) (vs : List V), RDs (N.to r) H ds vs ↔ RDs N H ds vs
  | [], _ => by simp only [RDs]
  | d :: ds, vs => by
    simp only [RDs]
    exact ⟨fun ⟨v, t, e, x, y⟩ => ⟨v, t, e, (RD_to d v).mp x, (RDs_to ds t).mp y⟩, fun ⟨v, t, e, x, y⟩ => ⟨v, t, e, (RD_to d v).mpr x, (RDs_to ds t).mpr y⟩⟩
end
theorem RO_to {a : Addr} {o : MO} : RO (N.to r) H a o ↔ RO N H a o := by
  cases o with
  | lst xs => exact ⟨fun ⟨vs, h, q⟩ => ⟨vs, h, (RDs_to _ _).mp q⟩, fun ⟨vs, h, q⟩ => ⟨vs, h, (RDs_to _ _).mpr q⟩⟩
  | dic kvs => exact ⟨fun ⟨ws, h, k, q⟩ => ⟨ws, h, k, (RDs_to _ _).mp q⟩, fun ⟨ws, h, k, q⟩ => ⟨ws, h, k, (RDs_to _ _).mpr q⟩⟩
  | dicF kvs u => exact ⟨fun ⟨od, ws, eu, h, k, q⟩ => ⟨od, ws, eu, h, k, (RDs_to _ _).mp q⟩, fun ⟨od, ws, eu, h, k, q⟩ => ⟨od, ws, eu, h, k, (RDs_to _ _).mpr q⟩⟩
  | ins c fs => exact ⟨fun ⟨a1, a2, dx, gs, h, k, q⟩ => ⟨a1, a2, dx, gs, h, k, (RDs_to _ _).mp q⟩, fun ⟨a1, a2, dx, gs, h, k, q⟩ => ⟨a1, a2, dx, gs, h, k, (RDs_to _ _).mpr q⟩⟩
theorem KTab.to {K : PySem.W.Frag} {w : World} {d : Addr} {kvs : List (Str × D)} (T : KTab N K w d kvs) : KTab (N.to r) K w d kvs := by
  obtain ⟨es, n, k, all⟩ := T.ex
  refine ⟨es, n, k, fun z => ?_⟩
  have a := all z
  cases e : kvs.lookup z with
  | none => rw [e] at a; exact a
  | some v =>
    rw [e] at a
    obtain ⟨u, v0, e1, e2, e3⟩ := a
    exact ⟨u, v0, e1, e2, fun H => (RD_to _ _).mpr (e3 H)⟩
theorem RH_to {S : Sta} : RH (N.to r) H S ↔ RH N H S := ⟨fun h a o e => RO_to.mp (h a o e), fun h a o e => RO_to.mpr (h a o e)⟩
theorem RS.come {σ : L2.St} {ρ : Env} {i c : Nat} {fs : List Nat} {ds : List D} {a z : Addr} {xs : List (Str × V)} {vs : List V} (h : RS N H σ ρ) (hn : N.xs = none) (h1 : H z = some (.xd xs)) (h2 : RDs N H ds vs) (h3 : fs.length = vs.length)
    (h4 : ∀ (i : Nat) f v, fs[i]? = some f → vs[i]? = some v → xs.lookup (N.fnm f) = some v) : RS (N.to (some (i, c, fs, ds, a, z))) H (σ.set i (some (.ref a))) (ρ.set i (some (.exc c fs ds))) := by
  refine ⟨by simpa using h.1, fun j d e => ?_, xs, vs, h1, (RDs_to _ _).mpr h2, h3, h4⟩
  by_cases hj : i = j
  · subst hj
    by_cases hl : i < ρ.length
    · rw [List.getElem?_set_self hl] at e
      cases e
      exact ⟨.ref a, by rw [List.getElem?_set_self (by rw [h.1]; exact hl)], .inr ⟨c, fs, ds, a, z, rfl, rfl, rfl⟩⟩
    · rw [List.getElem?_eq_none (by simpa using hl)] at e; cases e
  · rw [List.getElem?_set_ne hj] at e
    obtain ⟨w, q, y⟩ := h.at (fun r e => by rw [hn] at e; cases e) e
    exact ⟨w, by rw [List.getElem?_set_ne hj]; exact q, .inl ((RD_to _ _).mpr y)⟩
theorem RS.go {σ : L2.St} {ρ : Env} {i c : Nat} {fs : List Nat} {ds : List D} {a z : Addr} (h : RS (N.to (some (i, c, fs, ds, a, z))) H σ ρ) (hn : N.xs = none) : RS N H (σ.set i none) (ρ.set i none) := by
  refine ⟨by simpa using h.1, fun j d e => ?_, by unfold XOk; rw [hn]; trivial⟩
  by_cases hj : i = j
  · subst hj
    by_cases hl : i < ρ.length
    · rw [List.getElem?_set_self hl] at e; cases e
    · rw [List.getElem?_eq_none (by simpa using hl)] at e; cases e
  · rw [List.getElem?_set_ne hj] at e
    obtain ⟨w, q, y⟩ := h.2.1 j d e
    refine ⟨w, by rw [List.getElem?_set_ne hj]; exact q, .inl ?_⟩
    rcases y with y | ⟨c', fs', ds', a', z', e1, _⟩
    · exact (RD_to _ _).mp y
    · have e2 : (i, c, fs, ds, a, z) = (j, c', fs', ds', a', z') := Option.some.inj e1
      exact absurd (congrArg Prod.fst e2) hj
end
def noE : D → Env → Sta → Prop := fun _ _ _ => False
section
variable {N : Nm} {Z : Sta × Hp} {X : Cx} {pos p : Pos} {tg e elt iter : Expr} {wa wcond welt : Wp} {wi : Wi} {is : List Nat} {ifs : List Expr} {scope : Scope} {own : List (Str × Nat)} {po : Addr × Obj} {l : List (Addr × Obj)}
theorem hi_rngH (hg : Gl X "range") (hm : X.mg "range" = none) (ha : PE X e (tOf N Z wa)) (pl : plainA e = true) : L2C.PIK X tg (.Call (.Name "range" p) [e] [] pos) (tI N Z (hRng wa)) :=
  ⟨fun pins s σ H R I q => (L2C.pi_rngK (tg := tg) hg hm (pa_cons ha pa_nil (starEach_plain _ pl)) (starEach_plain _ pl)).run pins s σ H R I (by
    obtain ⟨ρ, S, Qi, rs, rh, fz, w, k⟩ := q
    refine ⟨ρ, S, _, rs, rh, fz, w, fun d S1 v H1 f h1 r q => ?_⟩
    cases d with
    | int n =>
      cases rd_int r
      exact ⟨n, rfl, q.1, q.2.1, k _ _ _ _ _ f h1 walkR q.2.2⟩
    | _ => exact False.elim q)⟩
theorem he_lcHot (hK : N.K = X.K) (hk : HotK X po l) (hN : X.N.Nodup) (hi : L2C.PIK X tg iter (tI N Z wi)) (ok : BlkOk X.N X.env.scope scope own)
    (hg : ∀ s0 H0 C cl fp, PG (blkH X s0 H0 scope (compEnvC scope cl C X.env) fp (po :: l)) tg (gT X.K is)) (ht : ∀ s0 H0 C cl fp, PTs (blkH X s0 H0 scope (compEnvC scope cl C X.env) fp (po :: l)) ifs (tT N Z wcond))
    (he : ∀ s0 H0 C cl fp, PE (blkH X s0 H0 scope (compEnvC scope cl C X.env) fp (po :: l)) elt (tOf N Z welt)) (hs : ∀ x, foldedSetIterable iter X.env x = pure x) (sub : ∀ i ∈ is, i ∈ own.map (·.2)) :
    PE X (.ListComp elt [⟨tg, iter, ifs, 0⟩] scope pos) (tOf N Z (hLc wi is (own.map (·.2)) wcond welt)) :=
  pimp (pe_lcHot hk hN hi ok hg ht he hs) (lc_at hK sub)
end
end A
section
namespace PySem.SeqAt
open AutoSeq1 (wpAny_loadPart')
open MeetsSeq MeetsSeq2 MeetsSeq3 SeqRoads2
def EqJ (P : Program) (w : World) (A : Around) (Ex : Value → Shared → Prop) (J J2 : Shared → Prop) (y x : Value) : Prop :=
  ∀ (Q : Bool → Shared → Prop) (s : Shared), J s → (∀ s2, J2 s2 → Q true s2) → wpAny (model P w) A (eqBool y x) Q Ex s
section
variable {P : Program} {w : World} {Ex : Value → Shared → Prop}
theorem EqJ.same {A : Around} {J J2 : Shared → Prop} {y : Value} (h : ∀ s, J s → J2 s) : EqJ P w A Ex J J2 y y := fun Q s j q => EqAt.same y P w Ex Q (q s (h s j))
theorem EqJ.of {A : Around} {J J2 : Shared → Prop} {y x : Value} (b : ∀ s, J s → EqAt A s y x true) (h : ∀ s, J s → J2 s) : EqJ P w A Ex J J2 y x := fun Q s j q => b s j P w Ex Q (q s (h s j))
theorem size_of {h : Heap} {l : Addr} {items : Array Value} (e : h.IsList l items) : ∃ dd n sl, h.get? l = some { cls := .type "list", dict := dd, data := .seq items n, slots := sl } := by
  obtain ⟨⟨cls, dd, data, sl⟩, ho, hc, n, hd⟩ := e
  simp only at hc hd
  subst hc hd
  exact ⟨dd, n, sl, ho⟩
theorem size_tup {h : Heap} {l : Addr} {items : Array Value} (e : h.IsTuple l items) : ∃ dd n sl, h.get? l = some { cls := .type "tuple", dict := dd, data := .seq items n, slots := sl } := by
  obtain ⟨⟨cls, dd, data, sl⟩, ho, hc, n, hd⟩ := e
  simp only at hc hd
  subst hc hd
  exact ⟨dd, n, sl, ho⟩
def LstJ (P : Program) (w : World) (A : Around) (Ex : Value → Shared → Prop) (l b : Addr) (n : Nat) (J : Nat → Shared → Prop) : Prop :=
  ∀ i s, J i s → ∃ items items2 : Array Value, s.heap.IsList l items ∧ s.heap.IsList b items2 ∧ items.size = n ∧ items2.size = n ∧
    ∀ (h1 : i < items.size) (h2 : i < items2.size) (Q : Bool → Shared → Prop), (∀ s2, J (i + 1) s2 → Q true s2) → wpAny (model P w) A (eqBool items[i] items2[i]) Q Ex s
theorem walk_eqJ {l b : Addr} {n : Nat} {J : Nat → Shared → Prop} (ne : Bool) (k : Nat) :
    ∀ i : Nat, i + k = n → MeetsIn P w (Builtin.«list.__eq__.loop» ⟨[.ref l, .ref b, rawInt i, rawInt (if ne then 3 else 2)], []⟩)
      (fun A R s => J i s ∧ LstJ P w A.in1 (fun e s => R (.error e) s) l b n J ∧ ∀ s2, J n s2 → R (.ok (.ret (.bool (!ne)))) s2) := by
  induction k with
  | zero =>
    intro i hk A R s h
    obtain ⟨jj, he, h⟩ := h
    obtain rfl : i = n := by omega
    have hR := h s jj
    obtain ⟨items, items2, hl, hb, z1, z2, _⟩ := he _ s jj
    obtain ⟨dd, n, sl, ho⟩ := size_of hl
    obtain ⟨dd2, n2, sl2, ho2⟩ := size_of hb
    obtain ⟨hp, g, d, tk, os⟩ := s
    have hi1 : items[((i : Nat) : Int).toNat]? = none := by simp; omega
    have hi2 : items2[((i : Nat) : Int).toNat]? = none := by simp; omega
    cases ne with
    | false =>
      simp only [Bool.false_eq_true, if_false] at hR ⊢
      wp_walk using wpAny_loadPart' ho, wpAny_loadPart' ho2
      rw [hi1, hi2]
      wp_walk using wpAny_loadPart' ho, wpAny_loadPart' ho2
      show R (.ok (.ret (.bool (items.size == items2.size)))) _
      rw [z1, z2]
      simpa using hR
    | true =>
      simp only [if_true] at hR ⊢
      wp_walk using wpAny_loadPart' ho, wpAny_loadPart' ho2
      rw [hi1, hi2]
      wp_walk using wpAny_loadPart' ho, wpAny_loadPart' ho2
      show R (.ok (.ret (.bool (items.size != items2.size)))) _
      rw [z1, z2]
      simpa using hR
  | succ k ih =>
    intro i hk A R s h
    obtain ⟨jj, he, h⟩ := h
    obtain ⟨items, items2, hl, hb, z1, z2, step⟩ := he _ s jj
    obtain ⟨dd, n, sl, ho⟩ := size_of hl
    obtain ⟨dd2, n2, sl2, ho2⟩ := size_of hb
    have hlt : i < items.size := by omega
    have hlt2 : i < items2.size := by omega
    have hi1 : items[((i : Nat) : Int).toNat]? = some items[i] := by simp [hlt]
    have hi2 : items2[((i : Nat) : Int).toNat]? = some items2[i] := by simp [hlt2]
    have hc : ((i : Int) + 1) = ((i + 1 : Nat) : Int) := by push_cast; rfl
    cases ne with
    | false =>
      simp only [Bool.false_eq_true, if_false] at h ⊢
      obtain ⟨hp, g, d, tk, os⟩ := s
      wp_walk using wpAny_loadPart' ho, wpAny_loadPart' ho2
      rw [hi1, hi2]
      refine wpAny_bind (step hlt hlt2 _ fun s2 j2 => ?_)
      wp_walk
      rw [hc]
      exact ⟨plainId_quiet plain_eq_loop _, codeAny_builtin entry_eq_loop (by
        rw [Around.under_plainId plain_eq_loop _]
        exact ih (i + 1) (by omega) A R s2 ⟨j2, he, h⟩)⟩
    | true =>
      simp only [if_true] at h ⊢
      obtain ⟨hp, g, d, tk, os⟩ := s
      wp_walk using wpAny_loadPart' ho, wpAny_loadPart' ho2
      rw [hi1, hi2]
      refine wpAny_bind (step hlt hlt2 _ fun s2 j2 => ?_)
      wp_walk
      rw [hc]
      exact ⟨plainId_quiet plain_eq_loop _, codeAny_builtin entry_eq_loop (by
        rw [Around.under_plainId plain_eq_loop _]
        exact ih (i + 1) (by omega) A R s2 ⟨j2, he, h⟩)⟩
theorem list_eqJ {l b : Addr} {n : Nat} {J : Nat → Shared → Prop} :
    MeetsIn P w (Builtin.«list.__eq__» ⟨[.ref l, .ref b], []⟩)
      (fun A R s => J 0 s ∧ LstJ P w A.in1 (fun e s => R (.error e) s) l b n J ∧ ∀ s2, J n s2 → R (.ok (.ret (.bool true))) s2) := by
  intro A R s h
  obtain ⟨jj, he, h⟩ := h
  obtain ⟨items, items2, hl, hb, z1, z2, step⟩ := he _ s jj
  obtain ⟨dd, m, sl, ho⟩ := size_of hl
  obtain ⟨dd2, m2, sl2, ho2⟩ := size_of hb
  obtain ⟨hp, g, d, tk, os⟩ := s
  have f3 := AutoSeq1.sub_list_list
  have hne : ¬ (items.size != items2.size) = true := by simp [z1, z2]
  wp_walk using wpAny_loadPart' ho, wpAny_loadPart' ho2
  exact ⟨plainId_quiet plain_eq_loop _, codeAny_builtin entry_eq_loop (by
    rw [Around.under_plainId plain_eq_loop _]
    exact walk_eqJ false _ 0 (Nat.zero_add _) A R _ ⟨jj, he, h⟩)⟩
theorem list_neJ {l b : Addr} {n : Nat} {J : Nat → Shared → Prop} :
    MeetsIn P w (Builtin.«list.__ne__» ⟨[.ref l, .ref b], []⟩)
      (fun A R s => J 0 s ∧ LstJ P w A.in1 (fun e s => R (.error e) s) l b n J ∧ ∀ s2, J n s2 → R (.ok (.ret (.bool false))) s2) := by
  intro A R s h
  obtain ⟨jj, he, h⟩ := h
  obtain ⟨items, items2, hl, hb, z1, z2, step⟩ := he _ s jj
  obtain ⟨dd, m, sl, ho⟩ := size_of hl
  obtain ⟨dd2, m2, sl2, ho2⟩ := size_of hb
  obtain ⟨hp, g, d, tk, os⟩ := s
  have f3 := AutoSeq1.sub_list_list
  have hne : ¬ (items.size != items2.size) = true := by simp [z1, z2]
  wp_walk using wpAny_loadPart' ho, wpAny_loadPart' ho2
  exact ⟨plainId_quiet plain_eq_loop _, codeAny_builtin entry_eq_loop (by
    rw [Around.under_plainId plain_eq_loop _]
    exact walk_eqJ true _ 0 (Nat.zero_add _) A R _ ⟨jj, he, h⟩)⟩
theorem tuple_eqJ {l b : Addr} {items items2 : Array Value} (hsz : items.size = items2.size) {J : Nat → Shared → Prop} :
    MeetsIn P w (Builtin.«tuple.__eq__» ⟨[.ref l, .ref b], []⟩)
      (fun A R s => s.heap.IsTuple l items ∧ s.heap.IsTuple b items2 ∧ J 0 s ∧ (∀ j (h1 : j < items.size) (h2 : j < items2.size), EqJ P w A.in1 (fun e s => R (.error e) s) (J j) (J (j + 1)) items[j] items2[j]) ∧ ∀ s2, J items.size s2 → R (.ok (.ret (.bool true))) s2) := by
  intro A R s h
  obtain ⟨hl, hb, jj, he, h⟩ := h
  obtain ⟨dd, n, sl, ho⟩ := size_tup hl
  obtain ⟨dd2, n2, sl2, ho2⟩ := size_tup hb
  obtain ⟨hp, g, d, tk, os⟩ := s
  have f2 := AutoSeq1.sub_tuple_tuple
  have hZ : (items.toList.zip items2.toList).length = items.size := by simp [hsz]
  wp_walk using wpAny_loadPart' ho, wpAny_loadPart' ho2, wpAny_forIn_list _ (fun rest c s2 => c.1 = none ∧ ∃ i, i ≤ items.size ∧ rest = (items.toList.zip items2.toList).drop i ∧ J i s2) _
  case turn =>
    rintro ⟨y, x⟩ rest c s2 ⟨hc, i, hi, hz, jj⟩
    have hlt : i < (items.toList.zip items2.toList).length := by
      rcases Nat.lt_or_ge i (items.toList.zip items2.toList).length with h' | h'
      · exact h'
      · rw [List.drop_of_length_le h'] at hz; cases hz
    have h1 : i < items.size := hZ ▸ hlt
    have h2 : i < items2.size := hsz ▸ h1
    rw [List.drop_eq_getElem_cons hlt] at hz
    injection hz with hyx hrest
    have hy : y = items[i] := by have := congrArg Prod.fst hyx; simpa using this
    have hx : x = items2[i] := by have := congrArg Prod.snd hyx; simpa using this
    subst hy hx
    refine wpAny_bind (he i h1 h2 _ _ jj fun s3 j3 => ?_)
    wp_walk
    exact ⟨rfl, i + 1, h1, hrest, j3⟩
  case fin =>
    rintro ⟨c1, c2⟩ s2 ⟨hc, i, hi, hz, jj⟩
    simp only at hc
    subst hc
    have hge : i = items.size := by
      rcases Nat.lt_or_ge i (items.toList.zip items2.toList).length with h' | h'
      · rw [List.drop_eq_getElem_cons h'] at hz; cases hz
      · omega
    subst hge
    have hR := h s2 jj
    wp_walk
    simpa [Builtin.Tuple.tupleCompareSizes, hsz] using hR
  case h =>
    exact ⟨rfl, 0, Nat.zero_le _, rfl, jj⟩
theorem rcJ_lists {A : Around} {l b : Addr} {n : Nat} (hu : A.units < cLine) {J : Nat → Shared → Prop} (he : LstJ P w A.in1 Ex l b n J) {Q : Value → Shared → Prop} {s : Shared} (jj : J 0 s) (q : ∀ s2, J n s2 → Q (.bool true) s2) : wpAny (model P w) A (richCompare .Eq (.ref l) (.ref b)) Q Ex s := by
  obtain ⟨items, items2, hl, hb, z1, z2, step⟩ := he _ s jj
  obtain ⟨dd, m, sl, ho⟩ := size_of hl
  obtain ⟨dd2, m2, sl2, ho2⟩ := size_of hb
  have ta : s.TypeIs (.ref l) "list" := ⟨_, ho, rfl⟩
  have tb : s.TypeIs (.ref b) "list" := ⟨_, ho2, rfl⟩
  exact wpAny_richCompare_same_room (op := .Eq) ta tb F.slot_list_eq (call_meetsIn F.slot_list_eq ta F.entry_list_eq (F.args_list_eq_2 _ _) list_eqJ
    ⟨jj, he, fun s2 j2 => show Value.bool true ≠ Value.notImplemented ∧ Q (.bool true) s2 from ⟨(fun x => nomatch x), q s2 j2⟩⟩) hu
theorem rcJ_neLists {A : Around} {l b : Addr} {n : Nat} (hu : A.units < cLine) {J : Nat → Shared → Prop} (he : LstJ P w A.in1 Ex l b n J) {Q : Value → Shared → Prop} {s : Shared} (jj : J 0 s) (q : ∀ s2, J n s2 → Q (.bool false) s2) : wpAny (model P w) A (richCompare .NotEq (.ref l) (.ref b)) Q Ex s := by
  obtain ⟨items, items2, hl, hb, z1, z2, step⟩ := he _ s jj
  obtain ⟨dd, m, sl, ho⟩ := size_of hl
  obtain ⟨dd2, m2, sl2, ho2⟩ := size_of hb
  have ta : s.TypeIs (.ref l) "list" := ⟨_, ho, rfl⟩
  have tb : s.TypeIs (.ref b) "list" := ⟨_, ho2, rfl⟩
  exact wpAny_richCompare_same_room (op := .NotEq) ta tb F.slot_list_ne (call_meetsIn F.slot_list_ne ta F.entry_list_ne (F.args_list_ne_2 _ _) list_neJ
    ⟨jj, he, fun s2 j2 => show Value.bool false ≠ Value.notImplemented ∧ Q (.bool false) s2 from ⟨(fun x => nomatch x), q s2 j2⟩⟩) hu
theorem rcJ_tuples {A : Around} {l b : Addr} {items items2 : Array Value} (hsz : items.size = items2.size) (hu : A.units < cLine) {J : Nat → Shared → Prop} {s : Shared} (hl : s.heap.IsTuple l items) (hb : s.heap.IsTuple b items2)
    (he : ∀ j (h1 : j < items.size) (h2 : j < items2.size), EqJ P w A.in1 Ex (J j) (J (j + 1)) items[j] items2[j]) {Q : Value → Shared → Prop} (jj : J 0 s) (q : ∀ s2, J items.size s2 → Q (.bool true) s2) : wpAny (model P w) A (richCompare .Eq (.ref l) (.ref b)) Q Ex s := by
  obtain ⟨dd, n, sl, ho⟩ := size_tup hl
  obtain ⟨dd2, n2, sl2, ho2⟩ := size_tup hb
  have ta : s.TypeIs (.ref l) "tuple" := ⟨_, ho, rfl⟩
  have tb : s.TypeIs (.ref b) "tuple" := ⟨_, ho2, rfl⟩
  exact wpAny_richCompare_same_room (op := .Eq) ta tb F.slot_tuple_eq (call_meetsIn F.slot_tuple_eq ta F.entry_tuple_eq (F.args_tuple_eq_2 _ _) (tuple_eqJ hsz)
    ⟨hl, hb, jj, he, fun s2 j2 => show Value.bool true ≠ Value.notImplemented ∧ Q (.bool true) s2 from ⟨(fun x => nomatch x), q s2 j2⟩⟩) hu
end
end PySem.SeqAt
namespace A
open PySem L2 PyProof.Rows
section
variable {N : Nm} {C : Orc} {X : Cx} {S : Sta} {H : Hp} {σ : L2.St} {pins : List (Addr × Obj)} {s : Shared} {x : D}
def inA : Nat → Around → Around
  | 0, A => A
  | d + 1, A => (inA d A).in1
theorem inA_frames : ∀ (d : Nat) (A : Around), (inA d A).frames = A.frames
  | 0, _ => rfl
  | d + 1, A => inA_frames d A
theorem inA_units : ∀ (d : Nat) (A : Around), (inA d A).units = A.units + d
  | 0, _ => rfl
  | d + 1, A => by show (inA d A).units + 1 = _; rw [inA_units d A]; omega
theorem inA_room : ∀ {d k : Nat} {A : Around}, Room (k + d) A → Room k (inA d A)
  | 0, _, _, r => r
  | d + 1, k, A, r => (inA_room (d := d) (k := k + 1) (by rw [show k + 1 + d = k + (d + 1) by omega]; exact r)).in1
theorem rd_flat_eq (hx : flatD x = true) {v u : V} (r1 : RD N H x v) (r2 : RD N H x u) : v = u ∧ flatB v = true := by
  cases x with
  | non => cases rd_non r1; cases rd_non r2; exact ⟨rfl, rfl⟩
  | bl b => cases rd_bl r1; cases rd_bl r2; exact ⟨rfl, rfl⟩
  | int b => cases rd_int r1; cases rd_int r2; exact ⟨rfl, rfl⟩
  | str b => cases rd_str r1; cases rd_str r2; exact ⟨rfl, rfl⟩
  | _ => cases hx
theorem SqT.uniq {K : PySem.W.Frag} {a : Addr} {xs ys : List V} (I : L2.Inv X pins σ H s) (h : SqT X.K H a xs) (h' : SqT X.K H a ys) : xs = ys := I.tuple_inj h h'
theorem wdp_same (hK : N.K = X.K) (I : L2.Inv X pins σ H s) : ∀ (n : Nat) (x y : D) (v : V) (S : Sta) (Q : Sta → Prop), RD N H x v → RD N H y v → wdp C n x y S Q → Q S
  | 0, _, _, _, _, _, _, _, w => w.elim
  | n + 1, x, y, v, S, Q, r1, r2, w => by
    rcases w with ⟨_, _, q⟩ | ⟨a, _, _, q⟩ | ⟨a, b, xs, ys, rfl, rfl, hne, _⟩ | ⟨xs, ys, rfl, rfl, hl, w⟩ | ⟨a, b, c, fs, _, rfl, rfl, hne, _⟩
    · exact q
    · exact q
    · rw [rd_ref r1] at r2
      exact absurd (by have := rd_ref r2; injection this) hne
    · obtain ⟨a, vs, rfl, h1, q1⟩ := rd_tup r1
      obtain ⟨b, ws, e, h2, q2⟩ := rd_tup r2
      cases e
      have e := I.tuple_inj (hK ▸ h1) (hK ▸ h2)
      subst e
      have go : ∀ (xs ys : List D) (vs : List V) (S : Sta), RDs N H xs vs → RDs N H ys vs → wdl (wdp C n) [] xs ys S Q → Q S := fun xs => by
        induction xs with
        | nil =>
          intro ys vs S h1 h2 w
          cases ys with
          | nil => exact w.2
          | cons y ys => exact w.elim
        | cons x xs ih =>
          intro ys vs S h1 h2 w
          cases ys with
          | nil => exact w.elim
          | cons y ys =>
            obtain ⟨v, r, rfl, a1, a2⟩ := h1.uncons
            obtain ⟨v', r', e, b1, b2⟩ := h2.uncons
            cases e
            exact ih ys r S a2 b2 (wdp_same hK I n x y v S _ a1 b1 w.2)
      exact go xs ys vs S q1 q2 w
    · rw [rd_ref r1] at r2
      exact absurd (by have := rd_ref r2; injection this) hne
theorem vals_get : ∀ {vs : List V} {us : List Value} {i : Nat} {v : V}, Vals vs us → vs[i]? = some v → ∃ u, us[i]? = some u ∧ RelV v u
  | _, _, _, _, .nil, e => by simp at e
  | _, _, 0, _, .cons r _, e => by simp at e; subst e; exact ⟨_, rfl, r⟩
  | _, _, i + 1, _, .cons _ t, e => by
    simp at e
    obtain ⟨u, h1, h2⟩ := vals_get t e
    exact ⟨u, by simpa using h1, h2⟩
theorem wdp_run (hK : N.K = X.K) (hu : X.A.units + 64 < cLine) (O : OwnF N C X.prog X.w X.K X.mg X.base X.A) : ∀ (n d : Nat), n + d = 20 → ∀ (x y : D) (v u : V) (wx wy : Value) (S : Sta) (H : Hp) (s : Shared) (Qd : Sta → Prop) (Q : Bool → Shared → Prop),
    wdp C n x y S Qd → RH N H S → RD N H x v → RD N H y u → RelV v wx → RelV u wy → L2.Inv X pins σ H s → (∀ S' H' s', Fr S H S' H' → RH N H' S' → L2.Inv X pins σ H' s' → Qd S' → Q true s') → wpAny (model X.prog X.w) (inA d X.A) (eqBool wx wy) Q X.xe s
  | 0, _, _, _, _, _, _, _, _, _, _, _, _, _, w, _, _, _, _, _, _, _ => w.elim
  | n + 1, d, hd, x, y, v, u, wx, wy, S, H, s, Qd, Q, wp, rh, rx, ry, rw_, rt, I, k => by
    have hud : (inA d X.A).units < cLine := by rw [inA_units]; omega
    have refs : ∀ {a b : Addr}, a ≠ b → wpAny (model X.prog X.w) (inA d X.A) (richCompare .Eq (.ref a) (.ref b)) (fun r s' => r = .bool true ∧ Q true s') X.xe s → wpAny (model X.prog X.w) (inA d X.A) (eqBool (.ref a) (.ref b)) Q X.xe s := fun hne h => by
      unfold eqBool
      refine wpAny_holding ?_
      refine wpAny_ite_split (fun hab => absurd (by have := eq_of_beq hab; injection this) hne) (fun _ => ?_)
      refine wpAny_bind (wpAny_mono h (fun r s' ⟨e, q⟩ => ?_) fun _ _ z => z)
      subst e
      exact wpAny_truthy_bool q
    rcases wp with ⟨rfl, fl, q⟩ | ⟨a, rfl, rfl, q⟩ | ⟨a, b, xs, ys, rfl, rfl, hne, ea, eb, hl, w⟩ | ⟨xs, ys, rfl, rfl, hl, w⟩ | ⟨a, b, c, fs, hn, rfl, rfl, hne, ea, kn, w⟩
    · obtain ⟨rfl, fb⟩ := rd_flat_eq fl rx ry
      exact eqAt_same rw_ rt fb _ _ _ _ (k S H s Fr.refl rh I q)
    · cases rd_ref rx; cases rd_ref ry
      cases (show wx = Value.ref a from rw_); cases (show wy = Value.ref a from rt)
      exact SeqAt.EqAt.same _ _ _ _ _ (k S H s Fr.refl rh I q)
    · cases rd_ref rx; cases rd_ref ry
      cases (show wx = Value.ref a from rw_); cases (show wy = Value.ref b from rt)
      refine refs hne ?_
      refine SeqAt.rcJ_lists (n := xs.length) hud (J := fun i s' => ∃ S' H', L2.Inv X pins σ H' s' ∧ RH N H' S' ∧ Fr S H S' H' ∧ wdl (wdp C n) [(a, .lst xs), (b, .lst ys)] (xs.drop i) (ys.drop i) S' Qd) (fun i s' ⟨S', H', I', rh', f, w'⟩ => ?_) ⟨S, H, I, rh, Fr.refl, w⟩ fun s2 ⟨S', H', I', rh', f, w'⟩ => ?_
      · have held : Held [(a, .lst xs), (b, .lst ys)] S' := by
          cases e1 : xs.drop i <;> cases e2 : ys.drop i <;> rw [e1, e2] at w' <;> first | exact w'.1 | exact w'.elim
        obtain ⟨vs, h1, q1⟩ := at_lst rh' (held (a, .lst xs) (by simp))
        obtain ⟨us, h2, q2⟩ := at_lst rh' (held (b, .lst ys) (by simp))
        obtain ⟨its, r1, p1, _⟩ := I'.list (SqL.of (K := X.K) h1)
        obtain ⟨ws, r2, p2, _⟩ := I'.list (SqL.of (K := X.K) h2)
        have z1 : its.toArray.size = xs.length := by rw [List.size_toArray, ← r1.length, q1.length]
        have z2 : ws.toArray.size = xs.length := by rw [List.size_toArray, ← r2.length, ← q2.length, hl]
        refine ⟨its.toArray, ws.toArray, p1.isList, p2.isList, z1, z2, fun g1 g2 Q' hQ => ?_⟩
        have hi : i < xs.length := by omega
        have hi2 : i < ys.length := by omega
        rw [List.drop_eq_getElem_cons hi, List.drop_eq_getElem_cons hi2] at w'
        obtain ⟨v1, e1, d1⟩ := q1.get (List.getElem?_eq_getElem hi)
        obtain ⟨u1, e2, d2⟩ := q2.get (List.getElem?_eq_getElem hi2)
        obtain ⟨w1, e3, t1⟩ := vals_get r1 e1
        obtain ⟨w2, e4, t2⟩ := vals_get r2 e2
        have e5 : its.toArray[i] = w1 := by
          have := List.getElem?_eq_some_iff.mp e3
          simpa using this.2
        have e6 : ws.toArray[i] = w2 := by
          have := List.getElem?_eq_some_iff.mp e4
          simpa using this.2
        rw [e5, e6]
        exact wdp_run hK hu O n (d + 1) (by omega) _ _ v1 u1 w1 w2 S' H' s' _ Q' w'.2 rh' d1 d2 t1 t2 I' fun S2 H2 s2 f2 rh2 I2 q2 => hQ s2 ⟨S2, H2, I2, rh2, f.trans f2, q2⟩
      · rw [List.drop_length, hl, List.drop_length] at w'
        exact ⟨rfl, k S' H' s2 f rh' I' w'.2⟩
    · obtain ⟨a, vs, rfl, h1, q1⟩ := rd_tup rx
      obtain ⟨b, us, rfl, h2, q2⟩ := rd_tup ry
      cases (show wx = Value.ref a from rw_); cases (show wy = Value.ref b from rt)
      by_cases hne : a = b
      · subst hne
        refine SeqAt.EqAt.same _ _ _ _ _ (k S H s Fr.refl rh I ?_)
        exact wdp_same (X := X) hK I (n + 1) (.tup xs) (.tup ys) (.ref a) S Qd rx ry (.inr (.inr (.inr (.inl ⟨xs, ys, rfl, rfl, hl, w⟩))))
      refine refs hne ?_
      obtain ⟨its, r1, p1, _⟩ := I.tuple (hK ▸ h1)
      obtain ⟨ws, r2, p2, _⟩ := I.tuple (hK ▸ h2)
      have z1 : its.toArray.size = xs.length := by rw [List.size_toArray, ← r1.length, q1.length]
      have z2 : ws.toArray.size = xs.length := by rw [List.size_toArray, ← r2.length, ← q2.length, hl]
      refine SeqAt.rcJ_tuples (items := its.toArray) (items2 := ws.toArray) (by rw [z1, z2]) hud (show s.heap.IsTuple a its.toArray from p1) (show s.heap.IsTuple b ws.toArray from p2) (J := fun i s' => ∃ S' H', L2.Inv X pins σ H' s' ∧ RH N H' S' ∧ Fr S H S' H' ∧ wdl (wdp C n) [] (xs.drop i) (ys.drop i) S' Qd) (fun i g1 g2 Q' s' ⟨S', H', I', rh', f, w'⟩ hQ => ?_) ⟨S, H, I, rh, Fr.refl, w⟩ fun s2 ⟨S', H', I', rh', f, w'⟩ => ?_
      · have hi : i < xs.length := by omega
        have hi2 : i < ys.length := by omega
        rw [List.drop_eq_getElem_cons hi, List.drop_eq_getElem_cons hi2] at w'
        obtain ⟨v1, e1, d1⟩ := q1.get (List.getElem?_eq_getElem hi)
        obtain ⟨u1, e2, d2⟩ := q2.get (List.getElem?_eq_getElem hi2)
        obtain ⟨w1, e3, t1⟩ := vals_get r1 e1
        obtain ⟨w2, e4, t2⟩ := vals_get r2 e2
        have e5 : its.toArray[i] = w1 := by
          have := List.getElem?_eq_some_iff.mp e3
          simpa using this.2
        have e6 : ws.toArray[i] = w2 := by
          have := List.getElem?_eq_some_iff.mp e4
          simpa using this.2
        rw [e5, e6]
        have dl := f.dle rh
        exact wdp_run hK hu O n (d + 1) (by omega) _ _ v1 u1 w1 w2 S' H' s' _ Q' w'.2 rh' (RD.mono dl _ _ d1) (RD.mono dl _ _ d2) t1 t2 I' fun S2 H2 s2 f2 rh2 I2 q2 => hQ s2 ⟨S2, H2, I2, rh2, f.trans f2, q2⟩
      · rw [z1, List.drop_length, hl, List.drop_length] at w'
        exact ⟨rfl, k S' H' s2 f rh' I' w'.2⟩
    · cases rd_ref rx; cases rd_ref ry
      cases (show wx = Value.ref a from rw_); cases (show wy = Value.ref b from rt)
      refine refs hne ?_
      obtain ⟨hc, hin, dx, gs, h1, h2, h3⟩ := at_ins rh ea
      obtain ⟨mA, J, _⟩ := ins_get I.hok h1
      obtain ⟨od, J, _⟩ := J.look
      rcases O.eq c hc with never | ⟨kk, fd, ps, F, hr, hb, hs, hf⟩
      · exact (never _ _ _ _ w).elim
      obtain ⟨tb, ht, hn2⟩ := ty_kn hK O hc I rh mk_ref (show RelV (V.ref b) (Value.ref b) from rfl) kn
      obtain ⟨m, hF⟩ := I.fr
      have hrd : Room kk (inA d X.A) := inA_room (hr.mono (by omega))
      refine PySem.W.cmp_K (op := .Eq) (tb := tb) hud hF I.ok.mod.kin J ht hn2 hs hf ?_
      refine thn (run_spec (Q := fun v' H' => v' = .bl true ∧ ∃ S', Fr S H S' H' ∧ RH N H' S' ∧ Qd S') (inA_frames d X.A) hrd F hb I (.cons (show RelV (V.ref a) (Value.ref a) from rfl) (.cons (show RelV (V.ref b) (Value.ref b) from rfl) .nil)) (own_sp rh (.cons mk_ref (.cons mk_ref .nil)) w fun r S' v' H' f h' r' ⟨e, q⟩ => ?_)) fun w' s' ⟨v', H', I', r', e, S', f, h', q⟩ => ?_
      · subst e
        exact ⟨rd_bl r', S', f, h', q⟩
      · subst e
        obtain rfl : w' = Value.bool true := r'
        exact ⟨rfl, k S' H' s' f h' I' q⟩
def rDeep (N : Nm) (C : Orc) (ne : Bool) : R2 := fun v u H Q => ∃ x y S Qh, RH N H S ∧ RD N H x v ∧ RD N H y u ∧ wdL C x y S (fun S' => Qh (.bl (!ne)) S') ∧ Kn N S H Qh Q
theorem deep_step (hK : N.K = X.K) (hu : X.A.units + 64 < cLine) (O : OwnF N C X.prog X.w X.K X.mg X.base X.A) {a b : Addr} {xs ys : List D} {Qd : Sta → Prop} (rh : RH N H S) (I : L2.Inv X pins σ H s) (hl : xs.length = ys.length) (w : wdl (wdp C 19) [(a, .lst xs), (b, .lst ys)] xs ys S Qd) :
    ∃ J : Nat → Shared → Prop, J 0 s ∧ SeqAt.LstJ X.prog X.w X.A.in1 X.xe a b xs.length J ∧ ∀ s2, J xs.length s2 → ∃ S' H', Fr S H S' H' ∧ RH N H' S' ∧ L2.Inv X pins σ H' s2 ∧ Qd S' := by
  refine ⟨fun i s' => ∃ S' H', L2.Inv X pins σ H' s' ∧ RH N H' S' ∧ Fr S H S' H' ∧ wdl (wdp C 19) [(a, .lst xs), (b, .lst ys)] (xs.drop i) (ys.drop i) S' Qd, ⟨S, H, I, rh, Fr.refl, w⟩, fun i s' ⟨S', H', I', rh', f, w'⟩ => ?_, fun s2 ⟨S', H', I', rh', f, w'⟩ => ?_⟩
  · have held : Held [(a, .lst xs), (b, .lst ys)] S' := by
      cases e1 : xs.drop i <;> cases e2 : ys.drop i <;> rw [e1, e2] at w' <;> first | exact w'.1 | exact w'.elim
    obtain ⟨vs, h1, q1⟩ := at_lst rh' (held (a, .lst xs) (by simp))
    obtain ⟨us, h2, q2⟩ := at_lst rh' (held (b, .lst ys) (by simp))
    obtain ⟨its, r1, p1, _⟩ := I'.list (SqL.of (K := X.K) h1)
    obtain ⟨ws, r2, p2, _⟩ := I'.list (SqL.of (K := X.K) h2)
    have z1 : its.toArray.size = xs.length := by rw [List.size_toArray, ← r1.length, q1.length]
    have z2 : ws.toArray.size = xs.length := by rw [List.size_toArray, ← r2.length, ← q2.length, hl]
    refine ⟨its.toArray, ws.toArray, p1.isList, p2.isList, z1, z2, fun g1 g2 Q' hQ => ?_⟩
    have hi : i < xs.length := by omega
    have hi2 : i < ys.length := by omega
    rw [List.drop_eq_getElem_cons hi, List.drop_eq_getElem_cons hi2] at w'
    obtain ⟨v1, e1, d1⟩ := q1.get (List.getElem?_eq_getElem hi)
    obtain ⟨u1, e2, d2⟩ := q2.get (List.getElem?_eq_getElem hi2)
    obtain ⟨w1, e3, t1⟩ := vals_get r1 e1
    obtain ⟨w2, e4, t2⟩ := vals_get r2 e2
    have e5 : its.toArray[i] = w1 := by
      have := List.getElem?_eq_some_iff.mp e3
      simpa using this.2
    have e6 : ws.toArray[i] = w2 := by
      have := List.getElem?_eq_some_iff.mp e4
      simpa using this.2
    rw [e5, e6]
    exact wdp_run hK hu O 19 1 rfl _ _ v1 u1 w1 w2 S' H' s' _ Q' w'.2 rh' d1 d2 t1 t2 I' fun S2 H2 s2 f2 rh2 I2 q2 => hQ s2 ⟨S2, H2, I2, rh2, f.trans f2, q2⟩
  · rw [List.drop_length, hl, List.drop_length] at w'
    exact ⟨S', H', f, rh', I', w'.2⟩
theorem op_deepEq (hK : N.K = X.K) (hu : X.A.units + 64 < cLine) (O : OwnF N C X.prog X.w X.K X.mg X.base X.A) : OpR X (compareOp .Eq) (rDeep N C false) := by
  intro pins s σ H x y v u Q I rx ry ⟨dx, dy, S, Qh, rh, r1, r2, ⟨a, b, xs, ys, e1, e2, hne, ea, eb, hl, w⟩, k⟩
  subst e1 e2
  cases rd_ref r1; cases rd_ref r2
  cases (show v = Value.ref a from rx); cases (show u = Value.ref b from ry)
  obtain ⟨J, j0, st, fin⟩ := deep_step hK hu O rh I hl w
  show wpAny (model X.prog X.w) X.A (richCompare .Eq (.ref a) (.ref b)) (EP X pins σ Q) X.xe s
  refine SeqAt.rcJ_lists (by omega) st j0 fun s2 j2 => ?_
  obtain ⟨S', H', f, rh', I', q⟩ := fin s2 j2
  exact ⟨.bl true, H', I', rfl, k _ _ _ _ f rh' mk_bl q⟩
theorem op_deepNe (hK : N.K = X.K) (hu : X.A.units + 64 < cLine) (O : OwnF N C X.prog X.w X.K X.mg X.base X.A) : OpR X (compareOp .NotEq) (rDeep N C true) := by
  intro pins s σ H x y v u Q I rx ry ⟨dx, dy, S, Qh, rh, r1, r2, ⟨a, b, xs, ys, e1, e2, hne, ea, eb, hl, w⟩, k⟩
  subst e1 e2
  cases rd_ref r1; cases rd_ref r2
  cases (show v = Value.ref a from rx); cases (show u = Value.ref b from ry)
  obtain ⟨J, j0, st, fin⟩ := deep_step hK hu O rh I hl w
  show wpAny (model X.prog X.w) X.A (richCompare .NotEq (.ref a) (.ref b)) (EP X pins σ Q) X.xe s
  refine SeqAt.rcJ_neLists (by omega) st j0 fun s2 j2 => ?_
  obtain ⟨S', H', f, rh', I', q⟩ := fin s2 j2
  exact ⟨.bl false, H', I', rfl, k _ _ _ _ f rh' mk_bl q⟩
def rCmpD (N : Nm) (C : Orc) (ne : Bool) : R2 := fun v u H Q => rCmp N C (coD ne) v u H Q ∨ rDeep N C ne v u H Q
theorem op_cmpD (hK : N.K = X.K) (hu : X.A.units + 64 < cLine) (O : OwnF N C X.prog X.w X.K X.mg X.base X.A) (ne : Bool) : OpR X (compareOp (coOp (coD ne))) (rCmpD N C ne) := by
  have c := op_cmp (C := C) hK hu (own_eq hK hu O) (own_ne hK hu O) (coD ne)
  cases ne with
  | false => exact oimp (c.or (op_deepEq hK hu O)) fun v u H Q h => h
  | true => exact oimp (c.or (op_deepNe hK hu O)) fun v u H Q h => h
variable {Z : Sta × Hp} {wa wb : Wp} {a b : Expr} {pos : Pos}
def hCmpD (C : Orc) (ne : Bool) (wa wb : Wp) : Wp := fun ρ S Q => wa ρ S fun x S1 => wb ρ S1 fun y S2 => (wcmp C (coD ne) x y S2 fun r S3 => Q (.bl r) S3) ∨ wdL C x y S2 fun S3 => Q (.bl (!ne)) S3
theorem hCmpD_bl {ne : Bool} (ρ : A.Env) (S : Sta) (Q : K) (w : hCmpD C ne wa wb ρ S Q) : hCmpD C ne wa wb ρ S fun d S' => (∃ b, d = .bl b) ∧ Q d S' := by
  unfold hCmpD at w ⊢
  simpa using w
theorem cmpD_pe {ne : Bool} (σ : L2.St) (H : Hp) (Q : VK) (t : tOf N Z (hCmpD C ne wa wb) σ H Q) : tOp (rCmpD N C ne) (tOf N Z wa) (tOf N Z wb) σ H Q :=
  tOf.two (g := fun x y S2 Q => (wcmp C (coD ne) x y S2 fun r S3 => Q (.bl r) S3) ∨ wdL C x y S2 fun S3 => Q (.bl (!ne)) S3) t fun x y S2 v u H2 Qh h rx ry g k => g.elim (fun g => .inl ⟨x, y, S2, Qh, h, rx, ry, g, k⟩) fun g => .inr ⟨x, y, S2, Qh, h, rx, ry, g, k⟩
theorem he_cmpD {ne : Bool} (ho : OpR X (compareOp (coOp (coD ne))) (rCmpD N C ne)) (ha : PE X a (tOf N Z wa)) (hb : PE X b (tOf N Z wb)) (hm : behindInMarks (coOp (coD ne)) b = false) : PE X (.Compare a [coOp (coD ne)] [b] pos) (tOf N Z (hCmpD C ne wa wb)) :=
  pimp (pe_cmpR ho ha hb hm) cmpD_pe
theorem ht_cmpD {ne : Bool} (ho : OpR X (compareOp (coOp (coD ne))) (rCmpD N C ne)) (ha : PE X a (tOf N Z wa)) (hb : PE X b (tOf N Z wb)) (hm : behindInMarks (coOp (coD ne)) b = false) : PT X (.Compare a [coOp (coD ne)] [b] pos) (tT N Z (hCmpD C ne wa wb)) :=
  ht_bl (ptimp (pt_cmpR ho ha hb hm) fun σ H Q t => cmpD_pe σ H _ t) hCmpD_bl
end
end A
end
namespace A
open PySem L2 PyProof.Rows
def GOk (N : Nm) (X : Cx) (x : Str) : GV → Prop
  | .con d => ∃ v u, X.mg x = some u ∧ RelV v u ∧ ∀ H, RD N H d v
  | .fn f => X.mg x = some (.ref (N.fa f)) ∧ PySem.W.keepIn X.K (.ref (N.fa f)) = true
  | .cls c => X.mg x = some (.ref (N.ca c))
  | .tab kvs => ∃ d, X.mg x = some (.ref d) ∧ KTab N X.K X.w d kvs
def IsF (N : Nm) (K : PySem.W.Frag) (mg : Str → Option Value) (x : Str) (l : List (Nat × Bool)) : Prop :=
  (∃ k : Addr, mg x = some (.ref k) ∧ ∀ c b, c ∈ N.xc → l.lookup c = some b → PySem.W.kitOne K (.ref (N.ca c)) (.ref k) = some b) ∨
  (∃ n : String, mg x = none ∧ bootBuiltins x = some (.type n) ∧ x ≠ "__name__" ∧ (x == ("__debug__" : Str)) = false ∧ ∀ c b, c ∈ N.xc → l.lookup c = some b → PySem.W.kitOne K (.ref (N.ca c)) (.type n) = some b)
structure Fx0 (N : Nm) (T : Tb) (C : Orc) (X : Cx) : Prop where
  hK : N.K = X.K
  u : X.A.units + 64 < cLine
  glob : ∀ x g, (x, g) ∈ T.glob → GOk N X x g
  blt : ∀ x ∈ T.blts, X.mg x = none
  call : T.hot = false → ∀ f n es, (f, n, es) ∈ T.calls → CallOk N C X.prog X.w X.K X.mg X.base X.A f es
  kcall : T.hot = false → ∀ f n ks sh, (f, n, ks, sh) ∈ T.kcalls → CallOkK N C X.prog X.w X.K X.mg X.base X.A f n ks sh
  fvs : T.hot = false → ∀ f ∈ T.fvs, CallOk N C X.prog X.w X.K X.mg X.base X.A f [] ∧ PySem.W.keepIn X.K (.ref (N.fa f)) = true
  own : T.hot = false → OwnF N C X.prog X.w X.K X.mg X.base X.A
  ownh : T.hot = true → C = noC
  ofl : ∀ n f, (n, f) ∈ T.ofl → FdOk N X.K n f
  news : T.hot = false → ∀ c n ks sh, (c, n, ks, sh) ∈ T.news → NewOk N C X.prog X.w X.K X.mg X.base X.A c n ks sh
  meths : T.hot = false → ∀ m nm cs n ks, (m, nm, cs, n, ks) ∈ T.meths → MethOk N C X.prog X.w X.K X.mg X.base X.A m nm cs n ks
  owns : ∀ x cs, (x, cs) ∈ T.owns → ∃ k : Addr, X.mg x = some (.ref k) ∧ IsoOk N X.K k cs
  xcs : ∀ c ∈ N.xc, c ∈ T.xcls
  calm : T.hot = false → X.calm = true
  nd : X.N.Nodup
  room : T.hot = false → Room 2 X.A
  cold : T.hot = false → N.xs = none
  raise : ∀ c n fs src, (c, n, fs, src) ∈ T.raises → RaiseOk N X.prog X.w X.K X.mg X.base c n fs src
  exm : ∀ x l, (x, l) ∈ T.exms → ∃ k : Addr, X.mg x = some (.ref k) ∧ ∀ c b, c ∈ N.xc → l.lookup c = some b → PySem.W.exmOne X.K (.ref (N.ca c)) (.ref k) = some b
  iss : ∀ x l, (x, l) ∈ T.iss → IsF N X.K X.mg x l
  flds : ∀ n f, (n, f) ∈ T.flds → N.fnm n = f ∧ ∀ c ∈ T.xcls, PySem.W.findIn X.K (.ref (N.ca c)) f = some none
  xc : ∀ c ∈ T.xcls, ExcC X.K (N.ca c) ∧ XfC X.K (N.ca c) ∧ PySem.W.typeIn X.K (.ref (N.ca c)) = some (.type "type")
  xvs : ∀ r, N.xs = some r → T.xv = some r.1
  sux : ∀ i, T.xv = some i → ∃ c fs ds a z, SuX N X T.xf i c fs ds a z ∧ c ∈ T.xcls ∧ c ∈ N.xc
  hotx : T.hot = false → T.xv = none
  roomh : T.hots ≠ [] → L2H.RoomH 2 X.A
  pkx : T.pk = true → ∃ i, T.xv = some i
def hotR (k : Nat) (ss : List Str) (S S' : Sta) (d : D) : Prop := match k with
  | 0 => ∃ p, d = .ref p ∧ S p = none ∧ S' p = some (.lst (ss.map .str))
  | 1 => d = .str (ss.headD Str.empty)
  | _ => ∃ p, d = .ref p ∧ S p = none ∧ S' p = some (.lst (ss.map fun s => .bl (s.length != 0)))
def HotW (k : Nat) (F : Fn) (c : Nat) (ss : List Str) : Prop := ∀ (fs : List Nat) (ds : List D) (S : Sta) (Q : K), (∀ d S', Sub S S' → hotR k ss S S' d → Q d S') →
  wB noC F.body (some (.exc c fs ds) :: List.replicate (F.n - 1) none) S { nx := fun _ _ => False, rt := Q, ex := fun _ _ _ => False }
def HotF (N : Nm) (T : Tb) (K : PySem.W.Frag) (f : Nat) (l : List (Nat × List Str)) : Prop := ∃ (x qual : Str) (params : Arguments) (body : List Stmt) (scope : Scope) (dvs : List V) (kws : List (Str × V)) (fd : FuncData) (ns ps : List Str) (F : Fn),
  FunD K x qual params body scope dvs kws (N.fa f) fd ∧ FnScope ns ps scope ∧ ns.length = F.n ∧ ps.length = 1 ∧ Binds K fd ps [] ∧
  (∀ (r : Option (Nat × Nat × List Nat × List D × Addr × Addr)) (X' : Cx), X'.K = K → Fx0 (N.to r) T.hdef noC X' → In X' ⟨scope, ns, fun _ => true⟩ → FnX X' → L2C.PassX X' → ∀ Z, PSs X' body (tSs (N.to r) Z noE (wB noC F.body))) ∧
  ∀ c ss, l.lookup c = some ss → HotW (hotK f) F c ss
structure Fx (N : Nm) (T : Tb) (C : Orc) (X : Cx) : Prop extends Fx0 N T C X where
  hots : ∀ f l, (f, l) ∈ T.hots → HotF N T X.K f l
theorem Fx.own' {N : Nm} {T : Tb} {C : Orc} {X : Cx} (F : Fx N T C X) : OwnOk N C X := by
  cases h : T.hot with
  | false => exact (F.own h).ok F.hK F.u
  | true => rw [F.ownh h]; exact own_noC
theorem Fx.blk {N : Nm} {T : Tb} {C : Orc} {X : Cx} (F : Fx N T C X) (hh : T.hot = false) (s : Shared) (H : Hp) (scope : Scope) (cenv : PySem.Env) (fp : List Addr) : Fx N T C (X.blk s H scope cenv fp) where
  hK := F.hK
  u := F.u
  glob := fun x g h => by
    have q := F.glob x g h
    cases g <;> exact q
  blt := F.blt
  call := F.call
  kcall := F.kcall
  fvs := F.fvs
  own := F.own
  ownh := F.ownh
  ofl := F.ofl
  news := F.news
  meths := F.meths
  owns := F.owns
  xcs := F.xcs
  calm := F.calm
  nd := F.nd
  room := F.room
  cold := F.cold
  raise := F.raise
  exm := F.exm
  iss := F.iss
  flds := F.flds
  xc := F.xc
  xvs := F.xvs
  sux := fun i e => (by rw [F.hotx hh] at e; cases e)
  hotx := F.hotx
  roomh := F.roomh
  pkx := F.pkx
  hots := F.hots
theorem Fx.blkH {N : Nm} {T : Tb} {C : Orc} {X : Cx} (F : Fx N T C X) (hh : T.hot = true) (hf : T.xf = false) {i c : Nat} {fs : List Nat} {ds : List D} {a z : Addr} {oe : Obj} (U : SuX N X T.xf i c fs ds a z) (hi : T.xv = some i) (hc : c ∈ T.xcls ∧ c ∈ N.xc) (hz : Zc (.ref (N.ca c)) (some z) oe) (hd : ∃ vs, oe.data = .fields vs) {L : List (Addr × Obj)} (hk0 : L2C.HotK X (a, oe) L) (s : Shared) (H : Hp) (scope : Scope) (cenv : PySem.Env) (fp : List Addr) :
    Fx N T C (A.blkH X s H scope cenv fp ((a, oe) :: L)) where
  hK := F.hK
  u := F.u
  glob := fun x g h => by
    have q := F.glob x g h
    cases g <;> exact q
  blt := F.blt
  call := fun h => by rw [hh] at h; cases h
  kcall := fun h => by rw [hh] at h; cases h
  fvs := fun h => by rw [hh] at h; cases h
  own := fun h => by rw [hh] at h; cases h
  ownh := F.ownh
  ofl := F.ofl
  news := fun h => by rw [hh] at h; cases h
  meths := fun h => by rw [hh] at h; cases h
  owns := F.owns
  xcs := F.xcs
  calm := fun h => by rw [hh] at h; cases h
  nd := F.nd
  room := fun h => by rw [hh] at h; cases h
  cold := fun h => by rw [hh] at h; cases h
  raise := F.raise
  exm := F.exm
  iss := F.iss
  flds := F.flds
  xc := F.xc
  xvs := F.xvs
  sux := fun j e => by
    rw [hi] at e
    cases e
    exact ⟨c, fs, ds, a, z, ⟨U.xs, ⟨oe, L, hz, hd, hk0.hd, fun p hp => hp, hk0.ctx⟩, fun e => (by rw [hf] at e; cases e)⟩, hc⟩
  hotx := F.hotx
  roomh := F.roomh
  pkx := F.pkx
  hots := F.hots
theorem Fx.noX {N : Nm} {T : Tb} {C : Orc} {X : Cx} (F : Fx N T C X) {i : Nat} (h : T.xv ≠ some i) : ∀ r, N.xs = some r → r.1 ≠ i := fun r e e2 => h (by rw [F.xvs r e, e2])
theorem Fx.u1 {N : Nm} {T : Tb} {C : Orc} {X : Cx} (F : Fx N T C X) : X.A.units + 1 < cLine := by have := F.u; omega
theorem Fx.cmp {N : Nm} {T : Tb} {C : Orc} {X : Cx} (F : Fx N T C X) (o : Co) : OpR X (compareOp (coOp o)) (rCmp N C o) := op_cmp F.hK F.u F.own'.eq F.own'.ne o
def boEq (o : Bo) (p : Operator) : Bool := decide (boOp o = p)
def coEq (o : Co) (p : CmpOp) : Bool := decide (coOp o = p)
def isNameE : Expr → Bool
  | .Name _ _ => true
  | _ => false
def isRngI : A.It → Bool
  | .rng _ => true
  | _ => false
def beqHl : List (Nat × List Str) → List (Nat × List Str) → Bool
  | [], [] => true
  | (a, x) :: r, (b, y) :: t => a == b && beqStrs x y && beqHl r t
  | _, _ => false
where beqStrs : List Str → List Str → Bool
  | [], [] => true
  | a :: r, b :: t => sEq a b && beqStrs r t
  | _, _ => false
theorem beqHl_ok : ∀ (a b : List (Nat × List Str)), beqHl a b = true → a = b
  | [], [], _ => rfl
  | [], _ :: _, h => by cases h
  | _ :: _, [], h => by cases h
  | (a, x) :: r, (b, y) :: t, h => by
    have st : ∀ (x y : List Str), beqHl.beqStrs x y = true → x = y := fun x => by
      induction x with
      | nil => intro y h; cases y with
        | nil => rfl
        | cons _ _ => cases h
      | cons u v ih => intro y h; cases y with
        | nil => cases h
        | cons w z =>
          simp only [beqHl.beqStrs, Bool.and_eq_true] at h
          rw [sEq_ok h.1, ih z h.2]
    simp only [beqHl, Bool.and_eq_true, beq_iff_eq] at h
    rw [h.1.1, st x y h.1.2, beqHl_ok r t h.2]
def Tb.hasHot (T : Tb) (f : Nat) (l : List (Nat × List Str)) : Bool := T.hots.any fun p => p.1 == f && beqHl p.2 l
theorem hasHot_ok {T : Tb} {f : Nat} {l : List (Nat × List Str)} (h : T.hasHot f l = true) : (f, l) ∈ T.hots := by
  unfold Tb.hasHot at h
  obtain ⟨p, hp, h⟩ := List.any_eq_true.mp h
  simp only [Bool.and_eq_true, beq_iff_eq] at h
  obtain ⟨a, b⟩ := p
  simp only at h
  rw [← h.1, ← beqHl_ok _ _ h.2]
  exact hp
def isBool : Expr → Bool
  | .BoolOp _ _ _ => true
  | _ => false
def testable (e : Expr) : Bool := plainT e || match e with
  | .UnaryOp .Not _ _ => true
  | .BoolOp _ _ _ => true
  | .Compare _ _ _ _ => true
  | _ => false
def notSet : Expr → Bool
  | .Set _ _ _ => false
  | _ => true
def isNil : E → Bool
  | .nil => true
  | _ => false
def okC (T : Tb) (s : Sx) : D → Expr → Bool
  | .non, .Constant .none _ _ => true
  | .bl b, .Constant (.bool c) _ _ => b == c
  | .int i, .Constant (.int j) _ _ => i == j
  | .str x, .Constant (.str y) _ _ => sEq x y
  | _, _ => false
def Tb.isB (T : Tb) (x : Str) : Bool := sIn x T.blts
def Tb.isF (T : Tb) (x : Str) (f : Nat) : Bool := match sLook x T.glob with
  | some (.fn g) => f == g
  | _ => false
mutual
def beqD : D → D → Bool
  | .non, .non => true
  | .bl a, .bl b => a == b
  | .int a, .int b => a == b
  | .str a, .str b => sEq a b
  | .tup a, .tup b => beqDs a b
  | _, _ => false
def beqDs : List D → List D → Bool
  | [], [] => true
  | a :: r, b :: t => beqD a b && beqDs r t
  | _, _ => false
end
mutual
theorem beqD_ok : ∀ (a b : D), beqD a b = true → a = b
  | .non, b, h => by cases b <;> first | rfl | cases h
  | .bl x, b, h => by cases b <;> first | (simp only [beqD, beq_iff_eq] at h; rw [h]) | cases h
  | .int x, b, h => by cases b <;> first | (simp only [beqD, beq_iff_eq] at h; rw [h]) | cases h
  | .str x, b, h => by cases b <;> first | (simp only [beqD] at h; rw [sEq_ok h]) | cases h
  | .tup x, b, h => by cases b <;> first | (simp only [beqD] at h; rw [beqDs_ok x _ h]) | cases h
  | .lis x, b, h => by cases b <;> cases h
  | .ref x, b, h => by cases b <;> cases h
  | .fn x, b, h => by cases b <;> cases h
  | .exc _ _ _, b, h => by cases b <;> cases h
theorem beqDs_ok : ∀ (a b : List D), beqDs a b = true → a = b
  | [], b, h => by cases b <;> first | rfl | cases h
  | x :: r, b, h => by
    cases b with
    | nil => cases h
    | cons y t =>
      simp only [beqDs, Bool.and_eq_true] at h
      rw [beqD_ok x y h.1, beqDs_ok r t h.2]
end
def Tb.isC (T : Tb) (x : Str) (d : D) : Bool := match sLook x T.glob with
  | some (.con e) => beqD d e
  | _ => false
def Tb.isK (T : Tb) (x : Str) (c : Nat) : Bool := match sLook x T.glob with
  | some (.cls e) => c == e
  | _ => false
def beqKvs : List (Str × D) → List (Str × D) → Bool
  | [], [] => true
  | a :: r, b :: t => sEq a.1 b.1 && beqD2 a.2 b.2 && beqKvs r t
  | _, _ => false
where beqD2 : D → D → Bool
  | .fn f, .fn g => f == g
  | a, b => beqD a b
theorem beqD2_ok {a b : D} (h : beqKvs.beqD2 a b = true) : a = b := by
  unfold beqKvs.beqD2 at h
  split at h
  · rw [beq_iff_eq.mp h]
  · exact beqD_ok _ _ h
theorem beqKvs_ok : ∀ (a b : List (Str × D)), beqKvs a b = true → a = b
  | [], [], _ => rfl
  | [], _ :: _, h => by cases h
  | _ :: _, [], h => by cases h
  | (x, d) :: r, (y, e) :: t, h => by
    simp only [beqKvs, Bool.and_eq_true] at h
    rw [sEq_ok h.1.1, beqD2_ok h.1.2, beqKvs_ok r t h.2]
def Tb.isT (T : Tb) (x : Str) (kvs : List (Str × D)) : Bool := match sLook x T.glob with
  | some (.tab t) => beqKvs kvs t
  | _ => false
def Tb.isCF (T : Tb) (x : Str) : D → Bool
  | .fn f => T.isF x f
  | d => T.isC x d
def subFs : List Nat → List Nat → Bool
  | [], _ => true
  | f :: r, l => l.contains f && subFs r l
theorem subFs_ok : ∀ {r l : List Nat}, subFs r l = true → ∀ f ∈ r, f ∈ l
  | [], _, _, f, h => by cases h
  | g :: r, l, h, f, hf => by
    simp only [subFs, Bool.and_eq_true] at h
    rcases List.mem_cons.mp hf with rfl | hf
    · simpa using h.1
    · exact subFs_ok h.2 f hf
def Tb.hasCall (T : Tb) (f n : Nat) (es : List D) : Bool := T.calls.any fun p => p.1 == f && p.2.1 == n && beqDs p.2.2 es
theorem hasCall_ok {T : Tb} {f n : Nat} {es : List D} (h : T.hasCall f n es = true) : (f, n, es) ∈ T.calls := by
  unfold Tb.hasCall at h
  obtain ⟨p, hp, h⟩ := List.any_eq_true.mp h
  simp only [Bool.and_eq_true, beq_iff_eq] at h
  obtain ⟨⟨h1, h2⟩, h3⟩ := h
  have := beqDs_ok _ _ h3
  obtain ⟨a, b, c⟩ := p
  simp only at h1 h2 this
  rw [← h1, ← h2, ← this]
  exact hp
def beqSh : List (Sum Nat D) → List (Sum Nat D) → Bool
  | [], [] => true
  | .inl i :: r, .inl j :: t => i == j && beqSh r t
  | .inr d :: r, .inr e :: t => beqD d e && beqSh r t
  | _, _ => false
theorem beqSh_ok : ∀ (a b : List (Sum Nat D)), beqSh a b = true → a = b
  | [], [], _ => rfl
  | [], _ :: _, h => by cases h
  | .inl _ :: _, [], h => by cases h
  | .inr _ :: _, [], h => by cases h
  | .inl i :: r, .inl j :: t, h => by
    simp only [beqSh, Bool.and_eq_true, beq_iff_eq] at h
    rw [h.1, beqSh_ok r t h.2]
  | .inr d :: r, .inr e :: t, h => by
    simp only [beqSh, Bool.and_eq_true] at h
    rw [beqD_ok d e h.1, beqSh_ok r t h.2]
  | .inl _ :: _, .inr _ :: _, h => by cases h
  | .inr _ :: _, .inl _ :: _, h => by cases h
def beqShp : Shp → Shp → Bool
  | .app a, .app b => beqDs a b
  | .perm a, .perm b => beqSh a b
  | _, _ => false
theorem beqShp_ok : ∀ (a b : Shp), beqShp a b = true → a = b
  | .app a, .app b, h => by simp only [beqShp] at h; rw [beqDs_ok a b h]
  | .perm a, .perm b, h => by simp only [beqShp] at h; rw [beqSh_ok a b h]
  | .app _, .perm _, h => by cases h
  | .perm _, .app _, h => by cases h
def beqStrs : List Str → List Str → Bool
  | [], [] => true
  | a :: r, b :: t => sEq a b && beqStrs r t
  | _, _ => false
theorem beqStrs_ok : ∀ (a b : List Str), beqStrs a b = true → a = b
  | [], [], _ => rfl
  | [], _ :: _, h => by cases h
  | _ :: _, [], h => by cases h
  | a :: r, b :: t, h => by
    simp only [beqStrs, Bool.and_eq_true] at h
    rw [sEq_ok h.1, beqStrs_ok r t h.2]
def Tb.hasK (T : Tb) (f n : Nat) (ks : List Str) (sh : Shp) : Bool := T.kcalls.any fun p => p.1 == f && p.2.1 == n && beqStrs p.2.2.1 ks && beqShp p.2.2.2 sh
theorem hasK_ok {T : Tb} {f n : Nat} {ks : List Str} {sh : Shp} (h : T.hasK f n ks sh = true) : (f, n, ks, sh) ∈ T.kcalls := by
  unfold Tb.hasK at h
  obtain ⟨p, hp, h⟩ := List.any_eq_true.mp h
  simp only [Bool.and_eq_true, beq_iff_eq] at h
  obtain ⟨⟨⟨h1, h2⟩, h3⟩, h4⟩ := h
  obtain ⟨a, b, c, d⟩ := p
  simp only at h1 h2 h3 h4
  rw [← h1, ← h2, ← beqStrs_ok _ _ h3, ← beqShp_ok _ _ h4]
  exact hp
def Tb.hasR (T : Tb) (c n : Nat) (fs : List Nat) (src : List (Sum Nat D)) : Bool := T.raises.any fun p => p.1 == c && p.2.1 == n && p.2.2.1 == fs && beqSh p.2.2.2 src
theorem hasR_ok {T : Tb} {c n : Nat} {fs : List Nat} {src : List (Sum Nat D)} (h : T.hasR c n fs src = true) : (c, n, fs, src) ∈ T.raises := by
  unfold Tb.hasR at h
  obtain ⟨p, hp, h⟩ := List.any_eq_true.mp h
  simp only [Bool.and_eq_true, beq_iff_eq] at h
  obtain ⟨⟨⟨h1, h2⟩, h3⟩, h4⟩ := h
  obtain ⟨a, b, d, e⟩ := p
  simp only at h1 h2 h3 h4
  rw [← h1, ← h2, ← h3, ← beqSh_ok _ _ h4]
  exact hp
def hasL (l : List (Str × List (Nat × Bool))) (x : Str) (t : List (Nat × Bool)) : Bool := match sLook x l with
  | some u => u == t
  | none => false
theorem hasL_ok {l : List (Str × List (Nat × Bool))} {x : Str} {t : List (Nat × Bool)} (h : hasL l x t = true) : (x, t) ∈ l := by
  unfold hasL at h
  split at h
  · rename_i u e
    rw [← beq_iff_eq.mp h]
    exact sLook_ok e
  · cases h
def Tb.hasFld (T : Tb) (n : Nat) (f : Str) : Bool := T.flds.any fun p => p.1 == n && sEq p.2 f
theorem hasFld_ok {T : Tb} {n : Nat} {f : Str} (h : T.hasFld n f = true) : (n, f) ∈ T.flds := by
  unfold Tb.hasFld at h
  obtain ⟨p, hp, h⟩ := List.any_eq_true.mp h
  simp only [Bool.and_eq_true, beq_iff_eq] at h
  obtain ⟨a, b⟩ := p
  simp only at h
  rw [← h.1, ← sEq_ok h.2]
  exact hp
def Tb.hasOF (T : Tb) (n : Nat) (f : Str) : Bool := T.ofl.any fun p => p.1 == n && sEq p.2 f
theorem hasOF_ok {T : Tb} {n : Nat} {f : Str} (h : T.hasOF n f = true) : (n, f) ∈ T.ofl := by
  unfold Tb.hasOF at h
  obtain ⟨p, hp, h⟩ := List.any_eq_true.mp h
  simp only [Bool.and_eq_true, beq_iff_eq] at h
  obtain ⟨a, b⟩ := p
  simp only at h
  rw [← h.1, ← sEq_ok h.2]
  exact hp
def Tb.hasN (T : Tb) (c n : Nat) (ks : List Str) (sh : Shp) : Bool := T.news.any fun p => p.1 == c && p.2.1 == n && beqStrs p.2.2.1 ks && beqShp p.2.2.2 sh
theorem hasN_ok {T : Tb} {c n : Nat} {ks : List Str} {sh : Shp} (h : T.hasN c n ks sh = true) : (c, n, ks, sh) ∈ T.news := by
  unfold Tb.hasN at h
  obtain ⟨p, hp, h⟩ := List.any_eq_true.mp h
  simp only [Bool.and_eq_true, beq_iff_eq] at h
  obtain ⟨⟨⟨h1, h2⟩, h3⟩, h4⟩ := h
  obtain ⟨a, b, c, d⟩ := p
  simp only at h1 h2 h3 h4
  rw [← h1, ← h2, ← beqStrs_ok _ _ h3, ← beqShp_ok _ _ h4]
  exact hp
def beqCs : List (Nat × Shp) → List (Nat × Shp) → Bool
  | [], [] => true
  | (a, x) :: r, (b, y) :: t => a == b && beqShp x y && beqCs r t
  | _, _ => false
theorem beqCs_ok : ∀ (a b : List (Nat × Shp)), beqCs a b = true → a = b
  | [], [], _ => rfl
  | [], _ :: _, h => by cases h
  | _ :: _, [], h => by cases h
  | (a, x) :: r, (b, y) :: t, h => by
    simp only [beqCs, Bool.and_eq_true, beq_iff_eq] at h
    rw [h.1.1, beqShp_ok x y h.1.2, beqCs_ok r t h.2]
def Tb.hasM (T : Tb) (m : Nat) (nm : Str) (cs : List (Nat × Shp)) (n : Nat) (ks : List Str) : Bool := T.meths.any fun p => p.1 == m && sEq p.2.1 nm && p.2.2.2.1 == n && beqStrs p.2.2.2.2 ks && beqCs p.2.2.1 cs
theorem hasM_ok {T : Tb} {m : Nat} {nm : Str} {cs : List (Nat × Shp)} {n : Nat} {ks : List Str} (h : T.hasM m nm cs n ks = true) : (m, nm, cs, n, ks) ∈ T.meths := by
  unfold Tb.hasM at h
  obtain ⟨p, hp, h⟩ := List.any_eq_true.mp h
  simp only [Bool.and_eq_true, beq_iff_eq] at h
  obtain ⟨⟨⟨⟨h1, h2⟩, h4⟩, h5⟩, h6⟩ := h
  obtain ⟨a, b, c, d, e⟩ := p
  simp only at h1 h2 h4 h5 h6
  rw [← h1, ← sEq_ok h2, ← h4, ← beqStrs_ok _ _ h5, ← beqCs_ok _ _ h6]
  exact hp
def hasO (l : List (Str × List Nat)) (x : Str) (t : List Nat) : Bool := match sLook x l with
  | some u => u == t
  | none => false
theorem hasO_ok {l : List (Str × List Nat)} {x : Str} {t : List Nat} (h : hasO l x t = true) : (x, t) ∈ l := by
  unfold hasO at h
  split at h
  · rename_i u e
    rw [← beq_iff_eq.mp h]
    exact sLook_ok e
  · cases h
def okTg (s : Sx) : List Nat → Expr → Bool
  | [i], .Name x _ => nsAt s.ns i x && s.loc x
  | is, .Tuple xs _ _ => is.length != 1 && okTgs s is xs
  | _, _ => false
where okTgs (s : Sx) : List Nat → List Expr → Bool
  | [], [] => true
  | i :: is, .Name x _ :: xs => nsAt s.ns i x && s.loc x && okTgs s is xs
  | _, _ => false
def ownN (ns : List Str) (own : List Nat) : List (Str × Nat) := own.map fun i => (ns.getD i Str.empty, i)
def subN : List Nat → List Nat → Bool
  | [], _ => true
  | i :: is, l => l.contains i && subN is l
def Sx.blk (s : Sx) (scope : Scope) : Sx := ⟨relS scope s.sc, s.ns, fun x => scope.names.lookup x == some .cell⟩
mutual
def okE (T : Tb) : E → Sx → Expr → Bool
  | .nev, _, _ => true
  | .v i, s, e => (match e with
    | .Name x _ => s.vis x && nsAt s.ns i x && okName x && T.xv != some i
    | _ => false)
  | .c d, s, e => (match e with
    | .Name x _ => s.gl x && okName x && T.isCF x d
    | e => okC T s d e)
  | .bin o a b, s, e => (match e with
    | .BinOp x op y _ => boEq o op && okE T a s x && okE T b s y
    | _ => false)
  | .neg a, s, e => (match e with
    | .UnaryOp .USub x _ => okE T a s x
    | _ => false)
  | .not a, s, e => (match e with
    | .UnaryOp .Not x _ => testable x && okE T a s x
    | _ => false)
  | .and a b, s, e => (match e with
    | .BoolOp .And [x, y] _ => testable x && testable y && okE T a s x && okE T b s y
    | .BoolOp .And (x :: y :: z :: r) p => testable x && okE T a s x && okE T b s (.BoolOp .And (y :: z :: r) p)
    | _ => false)
  | .or a b, s, e => (match e with
    | .BoolOp .Or [x, y] _ => testable x && testable y && okE T a s x && okE T b s y
    | .BoolOp .Or (x :: y :: z :: r) p => testable x && okE T a s x && okE T b s (.BoolOp .Or (y :: z :: r) p)
    | _ => false)
  | .cmp o a b, s, e => (match e with
    | .Compare x [op] [y] _ => coEq o op && !behindInMarks op y && okE T a s x && okE T b s y
    | _ => false)
  | .cmpD ne a b, s, e => (match e with
    | .Compare x [op] [y] _ => !T.hot && coEq (coD ne) op && !behindInMarks op y && okE T a s x && okE T b s y
    | _ => false)
  | .chn a o b o' c, s, e => (match e with
    | .Compare x [op, op'] [y, z] _ => coEq o op && coEq o' op' && !lastMarks [op, op'] [y, z] && okE T a s x && okE T b s y && okE T c s z
    | _ => false)
  | .chn3 a o b o' c o'' d, s, e => (match e with
    | .Compare x [op, op', op''] [y, z, u] _ => coEq o op && coEq o' op' && coEq o'' op'' && !lastMarks [op, op', op''] [y, z, u] && okE T a s x && okE T b s y && okE T c s z && okE T d s u
    | _ => false)
  | .ite t a b, s, e => (match e with
    | .IfExp x y z _ => testable x && okE T t s x && okE T a s y && okE T b s z
    | _ => false)
  | .tup es, s, e => (match e with
    | .Tuple xs _ _ => okEs T es s xs
    | _ => false)
  | .lst es, s, e => (match e with
    | .List xs _ => okEs T es s xs
    | _ => false)
  | .ix a i, s, e => (match e with
    | .Subscript x y _ => plainIx y && okE T a s x && okE T i s y
    | _ => false)
  | .sl a lo hi, s, e => (match e with
    | .Subscript x (.Slice l h none _) _ => okE T a s x && (match l with
        | none => isNil lo
        | some y => !isNil lo && okE T lo s y) && (match h with
        | none => isNil hi
        | some y => !isNil hi && okE T hi s y)
    | _ => false)
  | .b1 b a, s, e => (match e with
    | .Call (.Name f _) [x] [⟨some k, .Constant .none _ _, _⟩] _ => (match b with
      | .minD => !T.hot && sEq f "min" && sEq k "default" && s.gl f && T.isB f && plainA x && okE T a s x
      | _ => false)
    | .Call (.Name f _) [x] [] _ => b1ok b && (hotB b || !T.hot) && sEq f (bname b) && s.gl f && T.isB f && plainA x && okE T a s x
    | _ => false)
  | .b1s b a, s, e => (match b with
    | .setlen => (match e with
      | .Call (.Name f _) [.Call (.Name g _) [x] [] _] [] _ => !T.hot && sEq f "len" && sEq g "set" && s.gl f && s.gl g && T.isB f && T.isB g && plainA x && okE T a s x
      | _ => false)
    | .setsorted => (match e with
      | .Call (.Name f _) [.Call (.Name g _) [x] [] _] [] _ => !T.hot && sEq f "sorted" && sEq g "set" && s.gl f && s.gl g && T.isB f && T.isB g && plainA x && okE T a s x
      | _ => false)
    | .vals => (match e with
      | .Call (.Name f _) [.Call (.Attribute x g ap) [] [] cp] [] _ => !T.hot && sEq f "list" && sEq g "values" && s.gl f && T.isB f && noSup x && (ap.endLine == cp.line) && okE T a s x
      | _ => false)
    | _ => false)
  | .lock a, s, e => (match e with
    | .ListComp _ _ _ _ => okE T a s e
    | _ => false)
  | .gix kvs a, s, e => (match e with
    | .Subscript (.Name x _) y _ => s.gl x && okName x && T.isT x kvs && plainIx y && okE T a s y
    | _ => false)
  | .gget kvs a b, s, e => (match e with
    | .Call (.Attribute (.Name x _) f ap) [y, z] [] cp => sEq f "get" && s.gl x && okName x && T.isT x kvs && (ap.endLine == cp.line) && plainA y && plainA z && okE T a s y && okE T b s z
    | _ => false)
  | .callv fs a es, s, e => (match e with
    | .Call g (x :: xs) [] _ => !T.hot && isNS g && subFs fs T.fvs && okE T a s g && okEs T es s (x :: xs)
    | _ => false)
  | .b2 b a c, s, e => (match e with
    | .Call (.Name f _) [x, y] [] _ => !T.hot && sEq f (b2name b) && s.gl f && T.isB f && plainA x && plainA y && okE T a s x && okE T c s y
    | _ => false)
  | .bm m o es, s, e => (match e with
    | .Call (.Attribute x f ap) xs [] cp => bmOk m && sEq f (bmN m) && noSup x && (ap.endLine == cp.line) && decide (xs.length < 29) && okE T o s x && okEs T es s xs
    | _ => false)
  | .isi a [.own cs], s, e => (match e with
    | .Call (.Name f _) [x, .Name t _] [] _ => sEq f "isinstance" && s.gl f && s.gl t && T.isB f && hasO T.owns t cs && okName t && plainA x && okE T a s x
    | _ => false)
  | .at a n, s, e => (match e with
    | .Attribute x f _ => noSup x && T.hasOF n f && okE T a s x
    | _ => false)
  | .new c f sh es ks, s, e => (match e with
    | .Call (.Name g _) xs kws _ => !T.hot && T.isK g c && f == mth c 0 && s.gl g && okName g && kwAll kws && T.hasN c xs.length (kwN kws) sh && okEs T es s xs && okEs T ks s (kws.map (·.value))
    | _ => false)
  | .meth o m cs es ks, s, e => (match e with
    | .Call (.Attribute x f ap) xs kws cp => !T.hot && noSup x && (ap.endLine == cp.line) && kwAll kws && T.hasM m f cs xs.length (kwN kws) && decide (xs.length + kws.length < 29) && okE T o s x && okEs T es s xs && okEs T ks s (kws.map (·.value))
    | _ => false)
  | .fs es, s, e => (match e with
    | .JoinedStr (v1 :: v2 :: vs) _ => okFs T es s (v1 :: v2 :: vs)
    | _ => false)
  | .dct es, s, e => (match e with
    | .Dict [] [] _ => (match es with
      | .nil => true
      | _ => false)
    | .Dict (k :: ks) vs _ => (k :: ks).all (·.isSome) && decide ((k :: ks).length = vs.length) && decide ((k :: ks).length ≤ 15) && okDp T es s (k :: ks) vs
    | _ => false)
  | .isi a [k], s, e => (match e with
    | .Call (.Name f _) [x, .Name t _] [] _ => kdOk k && sEq f "isinstance" && sEq t (Str.ofString (kdN k)) && s.gl f && s.gl t && T.isB f && T.isB t && plainA x && okE T a s x
    | _ => false)
  | .call f (.app ds) es, s, e => (match e with
    | .Call (.Name g _) xs [] _ => !T.hot && T.isF g f && s.gl g && okName g && T.hasCall f xs.length ds && okEs T es s xs
    | _ => false)
  | .callk f sh es ks, s, e => (match e with
    | .Call (.Name g _) xs kws _ => !T.hot && T.isF g f && s.gl g && okName g && kwAll kws && T.hasK f xs.length (kwN kws) sh && okEs T es s xs && okEs T ks s (kws.map (·.value))
    | _ => false)
  | .lc elt own tg it cond, s, e => (match e with
    | .ListComp x [⟨t, i, ifs, 0⟩] scope _ => (!T.hot || T.pk && !T.xf && isNameE t && isRngI it) && okIt T it s t i && okTg (s.blk scope) tg t && blkT s.ns s.sc scope (ownN s.ns own) && subN tg own && notSet i && okE T elt (s.blk scope) x && (match ifs with
        | [] => (match cond with
          | .c (.bl true) => true
          | _ => false)
        | [y] => testable y && okE T cond (s.blk scope) y
        | _ => false)
    | _ => false)
  | .lcx elt own tg it cond, s, e => (match e with
    | .ListComp x [⟨t, i, ifs, 0⟩] scope _ => (!T.hot && s.fnB topN) && okIt T it s t i && okTg (s.blk scope) tg t && blkT s.ns s.sc scope (ownN s.ns own) && subN tg own && notSet i && okE T elt (s.blk scope) x && (match ifs with
        | [] => (match cond with
          | .c (.bl true) => true
          | _ => false)
        | [y] => testable y && okE T cond (s.blk scope) y
        | _ => false)
    | _ => false)
  | .xis i l, s, e => (match e with
    | .Call (.Name f _) [.Name x _, .Name y _] [] _ => T.xv == some i && sEq f "isinstance" && s.gl f && T.isB f && nsAt s.ns i x && s.vis x && okName x && s.gl y && okName y && hasL T.iss y l
    | _ => false)
  | .xfl i n, s, e => (match e with
    | .Attribute (.Name x _) f _ => T.xf && T.xv == some i && nsAt s.ns i x && s.vis x && okName x && T.hasFld n f
    | _ => false)
  | .mkf c fs src es n, s, e => (match e with
    | .Attribute (.Call (.Name x p) xs [] cp) f _ => !T.hot && T.isK x c && s.gl x && okName x && T.hasR c xs.length fs src && decide (xs.length < 1000) && T.hasFld n f && (T.xcls.contains c && noSup (.Call (.Name x p) xs [] cp)) && okEs T es s xs
    | _ => false)
  | .hot f i l, s, e => (match e with
    | .Call (.Name g _) [.Name x _] [] _ => T.hot && T.xv == some i && T.isF g f && s.gl g && okName g && T.hasHot f l && nsAt s.ns i x && s.vis x && okName x
    | _ => false)
  | _, _, _ => false
def okEs (T : Tb) : Es → Sx → List Expr → Bool
  | .nil, _, l => (match l with
    | [] => true
    | _ => false)
  | .cons a r, s, l => (match l with
    | x :: xs => plainA x && okE T a s x && okEs T r s xs
    | [] => false)
def okFs (T : Tb) : Es → Sx → List Expr → Bool
  | .nil, _, l => (match l with
    | [] => true
    | _ => false)
  | .cons a r, s, l => (match l with
    | .FormattedValue e j sp _ :: xs => j == -1 && (match sp with
      | none => true
      | some _ => false) && okE T a s e && okFs T r s xs
    | .Constant (.str z) _ _ :: xs => (match a with
      | .c (.str y) => sEq z y
      | _ => false) && okFs T r s xs
    | _ => false)
def okDp (T : Tb) : Es → Sx → List (Option Expr) → List Expr → Bool
  | .nil, _, l, m => (match l, m with
    | [], [] => true
    | _, _ => false)
  | .cons _ .nil, _, _, _ => false
  | .cons a (.cons b r), s, l, m => (match l, m with
    | some x :: ks, y :: vs => okE T a s x && okE T b s y && okDp T r s ks vs
    | _, _ => false)
def okIt (T : Tb) : A.It → Sx → Expr → Expr → Bool
  | .seq a, s, _, e => okE T a s e
  | .dks a, s, _, e => okE T a s e
  | .dvs a, s, _, e => (match e with
    | .Call (.Attribute x f ap) [] [] cp => sEq f "values" && noSup x && (ap.endLine == cp.line) && okE T a s x
    | _ => false)
  | .rng a, s, _, e => (match e with
    | .Call (.Name f _) [x] [] _ => sEq f "range" && s.gl f && T.isB f && plainA x && okE T a s x
    | _ => false)
  | .enm a st, s, t, e => (match t, e with
    | .Tuple _ _ _, .Call (.Name f _) [x] [] _ => st == 0 && sEq f "enumerate" && s.gl f && T.isB f && plainA x && okE T a s x
    | .Tuple _ _ _, .Call (.Name f _) [x] [⟨some k, .Constant (.int c) _ _, _⟩] _ => decide (st < 1000) && decide (c = (st : Int)) && sEq k "start" && sEq f "enumerate" && s.gl f && T.isB f && plainA x && okE T a s x
    | _, _ => false)
  | .zipT a b, s, t, e => (match t, e with
    | .Tuple _ _ _, .Call (.Name f _) [x, y] [] _ => sEq f "zip" && s.gl f && T.isB f && plainA x && plainA y && okE T a s x && okE T b s y
    | _, _ => false)
  | .zipU a b, s, t, e => (match t, e with
    | .Tuple _ _ _, .Call (.Name f _) [x, y] [⟨some k, .Constant (.bool true) _ _, _⟩] _ => sEq k "strict" && sEq f "zip" && s.gl f && T.isB f && plainA x && plainA y && okE T a s x && okE T b s y
    | _, _ => false)
  | .zip a b st, s, t, e => (match t, e with
    | .Tuple _ _ _, .Call (.Name f _) [x, y] [] _ => !st && sEq f "zip" && s.gl f && T.isB f && plainA x && plainA y && okE T a s x && okE T b s y
    | .Tuple _ _ _, .Call (.Name f _) [x, y] [⟨some k, .Constant (.bool true) _ _, _⟩] _ => st && sEq k "strict" && sEq f "zip" && s.gl f && T.isB f && plainA x && plainA y && okE T a s x && okE T b s y
    | _, _ => false)
end
structure J (N : Nm) (Z : Sta × Hp) (X : Cx) (e : Expr) (w : Wp) : Prop where
  pe : PE X e (tOf N Z w)
  pt : testable e = true → PT X e (tT N Z w)
  pw : isBool e = true → PW X e (tT N Z w)
section
variable {N : Nm} {Z : Sta × Hp} {X : Cx} {S : Sta} {e : Expr} {w : Wp} {T : Tb} {C : Orc} {s : Sx}
theorem J.plain (hK : N.K = X.K) (h : PE X e (tOf N Z w)) (nb : isBool e = false) (pl : testable e = true → plainT e = true) : J N Z X e w := ⟨h, fun t => he_truth hK h (pl t), fun z => by rw [nb] at z; cases z⟩
theorem J.nt (h : PE X e (tOf N Z w)) (nb : isBool e = false) (pl : testable e = false) : J N Z X e w := ⟨h, fun t => by (rw [pl] at t; cases t), fun z => by rw [nb] at z; cases z⟩
theorem J.never (h : ∀ ρ S Q, ¬ w ρ S Q) : J N Z X e w := ⟨he_nev h, fun _ => ht_nev h, fun _ => ⟨fun _ _ _ _ _ _ _ ⟨ρ, S, Qh, _, _, _, q, _⟩ => (h _ _ _ q).elim⟩⟩
def wX (C : Orc) (Ex : D → Env → Sta → Prop) (ir : E) : Wp := fun ρ S Q => wE C (fun x S' => Ex x ρ S') ir ρ S Q
def wXs (C : Orc) (Ex : D → Env → Sta → Prop) (ir : Es) : Wps := fun ρ S Q => wEs C (fun x S' => Ex x ρ S') ir ρ S Q
def wXi (C : Orc) (Ex : D → Env → Sta → Prop) (ir : A.It) : Wi := fun ρ S Q => wIt C (fun x S' => Ex x ρ S') ir ρ S Q
theorem wX_def {Ex : D → Env → Sta → Prop} {ir : E} : wX C Ex ir = fun ρ S Q => wE C (fun x S' => Ex x ρ S') ir ρ S Q := rfl
theorem wXs_def {Ex : D → Env → Sta → Prop} {ir : Es} : wXs C Ex ir = fun ρ S Q => wEs C (fun x S' => Ex x ρ S') ir ρ S Q := rfl
theorem wXi_def {Ex : D → Env → Sta → Prop} {ir : A.It} : wXi C Ex ir = fun ρ S Q => wIt C (fun x S' => Ex x ρ S') ir ρ S Q := rfl
theorem takesF : L2C.Takes X (xOf N Z fun _ _ _ => False) := fun u s' ⟨_, _, _, _, _, _, _, _, _, _, _, _, _, _, _, _, _, _, _, ⟨_, _, _, _, _, _, _, f⟩⟩ => f.elim
theorem In.blk {scope : Scope} {cl : List (Str × Addr)} {Cl : Addr} {fp : List Addr} {sh : Shared} {H : Hp} (i : In X s) (hb : (scope.names.lookup topN == some NameKind.cell) = false) : In (X.blk sh H scope (compEnvC scope cl Cl X.env) fp) (s.blk scope) := by
  refine ⟨?_, i.ns, fun x => rfl, fun h => by rw [show (s.blk scope).fnB topN = (scope.names.lookup topN == some NameKind.cell) from rfl, hb] at h; cases h⟩
  show relabel scope X.env = relS scope s.sc
  rw [← i.sc]
  rfl
theorem isKds_one {x : D} {k : Kd} : isKds S x [k] = isKd S x k := by
  unfold isKds
  cases isKd S x k with
  | none => rfl
  | some b => cases b <;> rfl
theorem ownN_snd {ns : List Str} : ∀ own : List Nat, (ownN ns own).map (·.2) = own
  | [] => rfl
  | i :: r => by
    unfold ownN
    rw [List.map_cons, List.map_cons]
    exact congrArg _ (ownN_snd r)
theorem subN_ok : ∀ {is l : List Nat}, subN is l = true → ∀ i ∈ is, i ∈ l
  | [], _, _, i, h => by cases h
  | j :: is, l, h, i, hi => by
    simp only [subN, Bool.and_eq_true] at h
    rcases List.mem_cons.mp hi with rfl | hi
    · simpa using h.1
    · exact subN_ok h.2 i hi
theorem okTgs_ok (nd : X.N.Nodup) (i : In X s) : ∀ {is : List Nat} {xs : List Expr}, okTg.okTgs s is xs = true → PGs X xs (gNs is) ∧ (assignEach xs X.env).length = is.length ∧ (assignEach xs X.env).findIdx? (·.1) = none ∧ (assignEach xs X.env).any (·.1) = false
  | [], [], _ => ⟨pgs_nil, rfl, rfl, rfl⟩
  | [], _ :: _, h => by cases h
  | _ :: _, [], h => by cases h
  | j :: is, x :: xs, h => by
    cases x <;> first | (cases h; done) | skip
    rename_i n p
    simp only [okTg.okTgs, Bool.and_eq_true] at h
    obtain ⟨h1, h2, h3, h4⟩ := okTgs_ok nd i h.2
    obtain ⟨l1, l2⟩ := i.loc h.1.2
    have he : assignEach (.Name n p :: xs) X.env = (false, assign (.Name n p) X.env) :: assignEach xs X.env := rfl
    refine ⟨pgs_cons (pg_name nd (by rw [i.ns]; exact nsAt_ok h.1.1) l1 l2) h1, ?_, ?_, ?_⟩
    · rw [he, List.length_cons, List.length_cons, h2]
    · rw [he, List.findIdx?_cons, h3]; rfl
    · rw [he, List.any_cons, h4]; rfl
theorem okTg_ok {is : List Nat} {t : Expr} (hc : isNameE t = false → X.calm = true) (nd : X.N.Nodup) (i : In X s) (h : okTg s is t = true) : PG X t (gT X.K is) := by
  have many : ∀ (is : List Nat) (xs : List Expr) (k : Nat) (p : Pos), X.calm = true → okTg.okTgs s is xs = true → PG X (.Tuple xs k p) (gTup X.K is.length (gNs is)) := fun is xs k p hc h => by
    obtain ⟨h1, h2, h3, _⟩ := okTgs_ok nd i h
    exact pg_tup hc h1 h2 h3
  match is, t, hc, h with
  | [j], .Name x p, hc, h =>
    simp only [okTg, Bool.and_eq_true] at h
    obtain ⟨l1, l2⟩ := i.loc h.2
    exact pg_name nd (by rw [i.ns]; exact nsAt_ok h.1) l1 l2
  | [], .Tuple xs k p, hc, h =>
    simp only [okTg, Bool.and_eq_true] at h
    exact many [] xs k p (hc rfl) h.2
  | [j], .Tuple xs k p, hc, h =>
    simp [okTg] at h
  | j :: l :: r, .Tuple xs k p, hc, h =>
    simp only [okTg, Bool.and_eq_true] at h
    exact many (j :: l :: r) xs k p (hc rfl) h.2
theorem fold_ok {e : Expr} (h : notSet e = true) (env : PySem.Env) : ∀ x, foldedSetIterable e env x = pure x := by
  intro x
  cases e <;> first | rfl | cases h
theorem boEq_ok {o : Bo} {p : Operator} (h : boEq o p = true) : p = boOp o := (of_decide_eq_true h).symm
theorem coEq_ok {o : Co} {p : CmpOp} (h : coEq o p = true) : p = coOp o := (of_decide_eq_true h).symm
theorem isB_ok (F : Fx N T C X) {x : Str} (h : T.isB x = true) : X.mg x = none := F.blt x (sIn_ok h)
theorem okC_ok {d : D} {e : Expr} (h : okC T s d e = true) : ∃ v, PE X e (tC v) ∧ (∀ H, RD N H d v) ∧ plainT e = true ∧ isBool e = false := by
  unfold okC at h
  split at h
  · exact ⟨.non, pe_non, fun _ => mk_non, rfl, rfl⟩
  · simp only [beq_iff_eq] at h; subst h; exact ⟨_, pe_bl, fun _ => mk_bl, rfl, rfl⟩
  · simp only [beq_iff_eq] at h; subst h; exact ⟨_, pe_int, fun _ => mk_int, rfl, rfl⟩
  · rw [sEq_ok h]; exact ⟨_, pe_str, fun _ => mk_str, rfl, rfl⟩
  · cases h
theorem isC_ok (F : Fx N T C X) {x : Str} {d : D} (h : T.isC x d = true) : ∃ v u, X.mg x = some u ∧ RelV v u ∧ ∀ H, RD N H d v := by
  unfold Tb.isC at h
  split at h
  · rename_i e he
    have := F.glob _ _ (sLook_ok he)
    rw [beqD_ok _ _ h]
    exact this
  · cases h
theorem isT_ok (F : Fx N T C X) {x : Str} {kvs : List (Str × D)} (h : T.isT x kvs = true) : ∃ d, X.mg x = some (.ref d) ∧ KTab N X.K X.w d kvs := by
  unfold Tb.isT at h
  split at h
  · rename_i t e
    rw [beqKvs_ok _ _ h]
    exact F.glob _ _ (sLook_ok e)
  · cases h
theorem isF_ok (F : Fx N T C X) {x : Str} {f : Nat} (h : T.isF x f = true) : X.mg x = some (.ref (N.fa f)) ∧ PySem.W.keepIn X.K (.ref (N.fa f)) = true := by
  unfold Tb.isF at h
  split at h
  · rename_i g he
    have := F.glob _ _ (sLook_ok he)
    simp only [beq_iff_eq] at h
    rw [h]
    exact this
  · cases h
theorem okO_ok {lo : E} {l : Option Expr} {Ex : D → Env → Sta → Prop} (h : (match l with
        | none => isNil lo
        | some y => !isNil lo && okE T lo s y) = true) (ih : ∀ y, l = some y → okE T lo s y = true → PE X y (tOf N Z (wX C Ex lo))) :
    PO X l (tEnd N Z fun ρ S Q => wX C Ex lo ρ S fun d S2 => endD lo d fun o => Q o S2) := by
  cases l with
  | none =>
    cases lo <;> first | (cases h; done) | skip
    exact ⟨fun pins s σ H Q I ⟨ρ, S, Qe, rs, rh, fz, w, k⟩ => by
      simp only [wX, wE, endD] at w
      exact ho_none.run pins s σ H Q I ⟨ρ, S, Qe, rs, rh, fz, w, k⟩⟩
  | some y =>
    simp only [Bool.and_eq_true, Bool.not_eq_true'] at h
    have e := ih y rfl h.2
    refine ⟨fun pins s σ H Q I ⟨ρ, S, Qe, rs, rh, fz, w, k⟩ => (ho_some e).run pins s σ H Q I ⟨ρ, S, Qe, rs, rh, fz, ?_, k⟩⟩
    have eq : (fun (d : D) (S2 : Sta) => endD lo d fun o => Qe o S2) = fun d S2 => ∃ i, d = .int i ∧ Qe (some i) S2 := by
      funext d S2
      cases lo <;> first | (cases h.1; done) | skip
      all_goals (cases d <;> simp [endD])
    have w' : wX C Ex lo ρ S (fun (d : D) (S2 : Sta) => endD lo d fun o => Qe o S2) := w
    rw [eq] at w'
    exact w'
end
end A
namespace A
open PySem L2 PyProof.Rows
open L2H (RoomH PinOk)
open L2C (HotK cxK)
section
variable {N : Nm} {T : Tb} {C : Orc} {X : Cx}
theorem Fx.hdef (F : Fx N T C X) {c : Nat} {fs : List Nat} {ds : List D} {a z : Addr} {oe : Obj} (hc : c ∈ T.xcls ∧ c ∈ N.xc) (hz : Zc (.ref (N.ca c)) (some z) oe) (hd : ∃ vs, oe.data = .fields vs) {L : List (Addr × Obj)} (hk : HotK X (a, oe) L) {ns ps : List Str} {qual : Str} {scope : Scope} {f : Addr} {cdv : Value} {s : Shared} {H : Hp} (sc : FnScope ns ps scope)
    (room : RoomH 1 (X.A.deeper (envOfC qual scope s.heap.objs.size f cdv))) :
    Fx0 (N.to (some (0, c, fs, ds, a, z))) T.hdef noC (cxK noCX X.prog X.w X.K X.mg X.base ns qual scope f cdv X.A X.stack s H noXK ((a, oe) :: L)) where
  hK := F.hK
  u := by have := room.un; show (X.A.deeper (envOfC qual scope s.heap.objs.size f cdv)).units + 64 < cLine; omega
  glob := fun x g h => by
    have q := F.glob x g h
    cases g with
    | con d => obtain ⟨v, u, e1, e2, e3⟩ := q; exact ⟨v, u, e1, e2, fun H => (RD_to _ _).mpr (e3 H)⟩
    | fn f => exact q
    | cls c => exact q
    | tab kvs => obtain ⟨d, m1, K⟩ := q; exact ⟨d, m1, K.to⟩
  blt := F.blt
  call := fun h => by cases h
  kcall := fun h => by cases h
  fvs := fun h => by cases h
  own := fun h => by cases h
  ownh := fun _ => rfl
  ofl := fun n f h => let J := F.ofl n f h; ⟨J.nm, J.mem, J.inj, J.cls, J.no⟩
  news := fun h => by cases h
  meths := fun h => by cases h
  owns := fun x cs h => let ⟨k, m1, J⟩ := F.owns x cs h; ⟨k, m1, J.base, J.own, J.cls, J.sp, J.tk⟩
  xcs := F.xcs
  calm := fun h => by cases h
  nd := sc.nd
  room := fun h => by cases h
  cold := fun h => by cases h
  raise := fun c n fs src h => ⟨(F.raise c n fs src h).ex, (F.raise c n fs src h).xc⟩
  exm := F.exm
  iss := F.iss
  flds := F.flds
  xc := F.xc
  xvs := fun r e => by cases e; rfl
  sux := fun j e => by
    cases e
    exact ⟨c, fs, ds, a, z, ⟨rfl, ⟨oe, L, hz, hd, hk.hd, fun p hp => hp, hk.ctx⟩, fun e => by cases e⟩, hc⟩
  hotx := fun h => by cases h
  roomh := fun h => absurd rfl h
  pkx := fun _ => ⟨0, rfl⟩
theorem he_hot {Z : Sta × Hp} {xf : Bool} {f j c : Nat} {fs : List Nat} {ds : List D} {a z : Addr} {l : List (Nat × List Str)} {g x : Str} {p p1 pos : Pos} (F : Fx N T C X) (U : SuX N X xf j c fs ds a z) (hc : c ∈ T.xcls ∧ c ∈ N.xc) (hm : (f, l) ∈ T.hots)
    (hN : X.N[j]? = some x) (hv : Vis X.env.scope x) (n1 : (x == ("__debug__" : Str)) = false) (n2 : (x == ("__classdict__" : Str)) = false) (hg : Gl X g) (hm1 : X.mg g = some (.ref (N.fa f))) (hk : PySem.W.keepIn X.K (.ref (N.fa f)) = true) (n3 : (g == ("__debug__" : Str)) = false) :
    PE X (.Call (.Name g p) [.Name x p1] [] pos) (tOf N Z fun ρ S Q => ∃ c fs ds, ρ[j]? = some (some (.exc c fs ds)) ∧ ∃ ss : List Str, l.lookup c = some ss ∧ hotV (hotK f) ss S Q) := by
  obtain ⟨x0, qual, params, body, scope, dvs, kws, fd, ns, ps, Fb, fD, sc, hn, one, bd, ok, hw⟩ := F.hots f l hm
  obtain ⟨oe, L, hz, hd, hk0⟩ := U.pin
  have room := F.roomh fun e => by rw [e] at hm; cases hm
  have ha : PA X [.Name x p1] _ := pa_cons (pe_var (pos := p1) hN hv n1 n2) pa_nil (starEach_plain _ rfl)
  refine ⟨fun pins s σ H Q I ⟨ρ, S, Qh, rs, rh, fz, ⟨c', fs', ds', e3, ss, e4, q⟩, kn⟩ => ?_⟩
  obtain ⟨rfl, rfl, rfl, e5, xs, vs, e6, e7, e8, e9⟩ := U.at rs e3
  refine wpAny_Call_Name_kw (ld_glob I hg hm1 ?_ n3)
  refine PySem.W.callWith_K (h₀ := X.base) I.ok.mod.kin hk (thn (ha.run pos pins s σ H (fun vs1 H1 => vs1 = [.ref a] ∧ H1 = H) I ⟨.ref a, e5, rfl, rfl⟩) fun us s1 ⟨vs1, H1, I1, r1, q1⟩ => ⟨I1.kIn, ?_⟩) (starEach_plain _ rfl) (by rfl)
  obtain ⟨rfl, rfl⟩ := q1
  cases r1 with
  | cons ra rn =>
    cases rn
    cases ra
    refine hot_run (po := (a, oe)) (l := L) (k := 1) fD sc one bd room hk0 I1 fun cdv rm => ?_
    refine ⟨_, ok (some (0, c', fs', ds', a, z)) (cxK noCX X.prog X.w X.K X.mg X.base ns qual scope (N.fa f) cdv X.A X.stack s1 H1 noXK ((a, oe) :: L)) rfl (F.hdef hc hz hd hk0 sc rm) ⟨rfl, rfl, fun _ => rfl, fun _ => ⟨rfl, rfl⟩⟩ ⟨sc.kind, rfl, rfl⟩ (L2C.passX_of rfl) (S, H1), ?_⟩
    let R : K := fun d S' => Sub S S' ∧ hotR (hotK f) ss S S' d
    refine ⟨(S, H1), some (.exc c' fs' ds') :: List.replicate (Fb.n - 1) none, S, { nx := fun _ _ => False, rt := R, ex := noE }, Fr.refl, Fr.refl, ?_, RH_to.mpr rh, rfl, hw c' ss e4 fs' ds' S R fun d S' sb hr => ⟨sb, hr⟩, ⟨fun _ _ _ _ _ _ _ q => False.elim q, fun _ _ _ _ _ _ _ q => False.elim q, fun _ _ _ _ _ _ _ q => False.elim q, fun d S' v H' rh' fz' rd qr => ?_⟩⟩
    · refine ⟨?_, fun i d e => ?_, ?_⟩
      · simp [L2.start, hn]
      · cases i with
        | zero =>
          simp at e
          subst e
          exact ⟨.ref a, by simp [L2.start], .inr ⟨c', fs', ds', a, z, rfl, rfl, rfl⟩⟩
        | succ i =>
          rw [List.getElem?_cons_succ, List.getElem?_replicate] at e
          split at e <;> cases e
      · exact ⟨xs, vs, e6, (RDs_to _ _).mpr e7, e8, e9⟩
    · obtain ⟨sb, qr⟩ := qr
      have new : ∀ (p : Addr) (o : MO), d = .ref p → S p = none → S' p = some o → (∀ p, S p = none → Qh (.ref p) (ups S p o)) → Q v H' := fun p o e1 np e q => by
        subst e1
        have sb2 : Sub (ups S p o) S' := fun b o' e2 => by
          by_cases hb : b = p
          · rw [hb, ups_same] at e2
            cases e2
            rw [hb]; exact e
          · rw [ups_ne hb] at e2
            exact sb b o' e2
        exact kn _ _ _ _ (fz'.sub sb2) ((RH_to.mp rh').sub sb2) ((RD_to _ _).mp rd) (q p np)
      generalize hotK f = k at q qr
      match k, q, qr with
      | 0, q, ⟨p, e1, np, e⟩ => exact new p _ e1 np e q
      | 1, q, e1 =>
        have e1 : d = .str (ss.headD Str.empty) := e1
        subst e1
        exact kn _ _ _ _ (fz'.sub sb) ((RH_to.mp rh').sub sb) ((RD_to _ _).mp rd) q
      | _ + 2, q, ⟨p, e1, np, e⟩ => exact new p _ e1 np e q
end
end A
namespace A
open PySem L2 PyProof.Rows
section
variable {N : Nm} {T : Tb} {C : Orc}
def Snd (N : Nm) (T : Tb) (C : Orc) (ir : E) : Prop := ∀ (Z : Sta × Hp) (X : Cx) (s : Sx) (Ex : D → Env → Sta → Prop) (e : Expr), Fx N T C X → In X s → L2C.Takes X (xOf N Z Ex) → okE T ir s e = true → J N Z X e (wX C Ex ir)
def SndL (N : Nm) (T : Tb) (C : Orc) (ir : Es) : Prop := ∀ (Z : Sta × Hp) (X : Cx) (s : Sx) (Ex : D → Env → Sta → Prop) (es : List Expr), Fx N T C X → In X s → L2C.Takes X (xOf N Z Ex) → okEs T ir s es = true → PA X es (tA N Z (wXs C Ex ir)) ∧ es.all plainA = true ∧ ∀ kws : List Keyword, kws.map (·.value) = es → PK X kws (tA N Z (wXs C Ex ir))
def SndI (N : Nm) (T : Tb) (C : Orc) (ir : A.It) : Prop := ∀ (Z : Sta × Hp) (X : Cx) (s : Sx) (Ex : D → Env → Sta → Prop) (t e : Expr), Fx N T C X → In X s → L2C.Takes X (xOf N Z Ex) → okIt T ir s t e = true → PI X t e (tI N Z (wXi C Ex ir))
variable {a b c t : E} {es : Es}
theorem s_nev : Snd N T C .nev := fun Z X s Ex e F i tk h => J.never fun ρ S Q => by simp only [wX_def, wE]; exact id
theorem s_v {j : Nat} : Snd N T C (.v j) := fun Z X s Ex e F i tk h => by
  simp only [okE] at h
  split at h
  · rename_i x p
    simp only [Bool.and_eq_true, bne_iff_ne, ne_eq] at h
    obtain ⟨⟨⟨h1, h2⟩, h3⟩, h4⟩ := h
    obtain ⟨n1, n2, _⟩ := okName_ok h3
    exact J.plain F.hK (by simp only [wX_def, wE]; exact he_v (F.noX h4) (by rw [i.ns]; exact nsAt_ok h2) (i.vis h1) n1 n2) rfl fun _ => rfl
  · cases h
theorem s_c {d : D} : Snd N T C (.c d) := fun Z X s Ex e F i tk h => by
  simp only [okE] at h
  split at h
  · rename_i x p
    simp only [Bool.and_eq_true] at h
    obtain ⟨n1, n2, _⟩ := okName_ok h.1.2
    have c : (∃ v u, X.mg x = some u ∧ RelV v u ∧ ∀ H, RD N H d v) := by
      have h2 := h.2
      unfold Tb.isCF at h2
      split at h2
      · rename_i f
        exact ⟨.ref (N.fa f), _, (isF_ok F h2).1, rfl, fun H => by simp only [RD]⟩
      · exact isC_ok F h2
    obtain ⟨v, u, h1, h2, h3⟩ := c
    exact J.plain F.hK (by simp only [wX_def, wE]; exact he_c (pe_glob (i.gl h.1.1) h1 h2 n1) h3) rfl fun _ => rfl
  · obtain ⟨v, h1, h2, h3, h4⟩ := okC_ok (X := X) (N := N) h
    exact J.plain F.hK (by simp only [wX_def, wE]; exact he_c h1 h2) h4 fun _ => h3
theorem s_bin {o : Bo} (ia : Snd N T C a) (ib : Snd N T C b) : Snd N T C (.bin o a b) := fun Z X s Ex e F i tk h => by
  simp only [okE] at h
  split at h
  · simp only [Bool.and_eq_true] at h
    rw [boEq_ok h.1.1]
    exact J.plain F.hK (by simp only [wX_def, wE]; exact he_bin F.hK (ia Z X s Ex _ F i tk h.1.2).pe (ib Z X s Ex _ F i tk h.2).pe) rfl fun _ => rfl
  · cases h
theorem s_neg (ia : Snd N T C a) : Snd N T C (.neg a) := fun Z X s Ex e F i tk h => by
  simp only [okE] at h
  split at h
  · exact J.nt (by simp only [wX_def, wE]; exact he_neg (ia Z X s Ex _ F i tk h).pe) rfl rfl
  · cases h
theorem s_not (ia : Snd N T C a) : Snd N T C (.not a) := fun Z X s Ex e F i tk h => by
  simp only [okE] at h
  split at h
  · simp only [Bool.and_eq_true] at h
    have j := ia Z X s Ex _ F i tk h.2
    exact ⟨by simp only [wX_def, wE]; exact he_not F.hK j.pe, fun _ => by simp only [wX_def, wE]; exact ht_not (j.pt h.1), fun z => by cases z⟩
  · cases h
theorem s_and (ia : Snd N T C a) (ib : Snd N T C b) : Snd N T C (.and a b) := fun Z X s Ex e F i tk h => by
  simp only [okE] at h
  split at h
  · simp only [Bool.and_eq_true] at h
    have j := ia Z X s Ex _ F i tk h.1.2
    have k := ib Z X s Ex _ F i tk h.2
    have pw : ∀ p, PW X _ (tT N Z (wX C Ex (.and a b))) := fun p => by simp only [wX_def, wE]; exact hw_and (pos := p) (j.pt h.1.1.1) (hw_and1 (k.pt h.1.1.2))
    exact ⟨by simp only [wX_def, wE]; exact he_and F.hK j.pe (he_bool1 k.pe), fun _ => (pw _).pt, fun _ => pw _⟩
  · simp only [Bool.and_eq_true] at h
    have j := ia Z X s Ex _ F i tk h.1.2
    have k := ib Z X s Ex _ F i tk h.2
    rename_i x y z r p
    have pw : PW X (.BoolOp .And (x :: y :: z :: r) p) (tT N Z (wX C Ex (.and a b))) := by simp only [wX_def, wE]; exact hw_and (j.pt h.1.1) (k.pw rfl)
    exact ⟨by simp only [wX_def, wE]; exact he_and F.hK j.pe k.pe, fun _ => pw.pt, fun _ => pw⟩
  · cases h
theorem s_or (ia : Snd N T C a) (ib : Snd N T C b) : Snd N T C (.or a b) := fun Z X s Ex e F i tk h => by
  simp only [okE] at h
  split at h
  · simp only [Bool.and_eq_true] at h
    have j := ia Z X s Ex _ F i tk h.1.2
    have k := ib Z X s Ex _ F i tk h.2
    have pw : ∀ p, PW X _ (tT N Z (wX C Ex (.or a b))) := fun p => by simp only [wX_def, wE]; exact hw_or (pos := p) (j.pt h.1.1.1) (hw_or1 (k.pt h.1.1.2))
    exact ⟨by simp only [wX_def, wE]; exact he_or F.hK j.pe (he_bool1 k.pe), fun _ => (pw _).pt, fun _ => pw _⟩
  · simp only [Bool.and_eq_true] at h
    have j := ia Z X s Ex _ F i tk h.1.2
    have k := ib Z X s Ex _ F i tk h.2
    rename_i x y z r p
    have pw : PW X (.BoolOp .Or (x :: y :: z :: r) p) (tT N Z (wX C Ex (.or a b))) := by simp only [wX_def, wE]; exact hw_or (j.pt h.1.1) (k.pw rfl)
    exact ⟨by simp only [wX_def, wE]; exact he_or F.hK j.pe k.pe, fun _ => pw.pt, fun _ => pw⟩
  · cases h
theorem s_cmp {o : Co} (ia : Snd N T C a) (ib : Snd N T C b) : Snd N T C (.cmp o a b) := fun Z X s Ex e F i tk h => by
  simp only [okE] at h
  split at h
  · simp only [Bool.and_eq_true, Bool.not_eq_true'] at h
    obtain ⟨⟨⟨h1, h2⟩, h3⟩, h4⟩ := h
    have e := coEq_ok h1
    subst e
    have j := ia Z X s Ex _ F i tk h3
    have k := ib Z X s Ex _ F i tk h4
    exact ⟨by simp only [wX_def, wE]; exact he_cmp (F.cmp o) j.pe k.pe h2, fun _ => by simp only [wX_def, wE]; exact ht_cmp (F.cmp o) j.pe k.pe h2, fun z => by cases z⟩
  · cases h
theorem s_cmpD {o : Bool} (ia : Snd N T C a) (ib : Snd N T C b) : Snd N T C (.cmpD o a b) := fun Z X s Ex e F i tk h => by
  simp only [okE] at h
  split at h
  · simp only [Bool.and_eq_true, Bool.not_eq_true'] at h
    obtain ⟨⟨⟨⟨h0, h1⟩, h2⟩, h3⟩, h4⟩ := h
    have e := coEq_ok h1
    subst e
    have j := ia Z X s Ex _ F i tk h3
    have k := ib Z X s Ex _ F i tk h4
    have op := op_cmpD F.hK F.u (F.own h0) o
    exact ⟨by simp only [wX_def, wE]; exact he_cmpD op j.pe k.pe h2, fun _ => by simp only [wX_def, wE]; exact ht_cmpD op j.pe k.pe h2, fun z => by cases z⟩
  · cases h
theorem s_chn {o o' : Co} (ia : Snd N T C a) (ib : Snd N T C b) (ic : Snd N T C c) : Snd N T C (.chn a o b o' c) := fun Z X s Ex e F i tk h => by
  simp only [okE] at h
  split at h
  · simp only [Bool.and_eq_true, Bool.not_eq_true'] at h
    obtain ⟨⟨⟨⟨⟨h1, h2⟩, h3⟩, h4⟩, h5⟩, h6⟩ := h
    have e := coEq_ok h1
    have e' := coEq_ok h2
    subst e e'
    have j := ia Z X s Ex _ F i tk h4
    have k := ib Z X s Ex _ F i tk h5
    have l := ic Z X s Ex _ F i tk h6
    exact ⟨by simp only [wX_def, wE]; exact he_chn (F.cmp o) (F.cmp o') j.pe k.pe l.pe h3, fun _ => by simp only [wX_def, wE]; exact ht_chn (F.cmp o) (F.cmp o') j.pe k.pe l.pe h3, fun z => by cases z⟩
  · cases h
theorem s_chn3 {d : A.E} {o o' o'' : Co} (ia : Snd N T C a) (ib : Snd N T C b) (ic : Snd N T C c) (id_ : Snd N T C d) : Snd N T C (.chn3 a o b o' c o'' d) := fun Z X s Ex e F i tk h => by
  simp only [okE] at h
  split at h
  · simp only [Bool.and_eq_true, Bool.not_eq_true'] at h
    obtain ⟨⟨⟨⟨⟨⟨⟨h1, h2⟩, h3⟩, h4⟩, h5⟩, h6⟩, h7⟩, h8⟩ := h
    have e := coEq_ok h1
    have e' := coEq_ok h2
    have e'' := coEq_ok h3
    subst e e' e''
    have j := ia Z X s Ex _ F i tk h5
    have k := ib Z X s Ex _ F i tk h6
    have l := ic Z X s Ex _ F i tk h7
    have m := id_ Z X s Ex _ F i tk h8
    exact ⟨by simp only [wX_def, wE]; exact he_chn3 (F.cmp o) (F.cmp o') (F.cmp o'') j.pe k.pe l.pe m.pe h4, fun _ => by simp only [wX_def, wE]; exact ht_chn3 (F.cmp o) (F.cmp o') (F.cmp o'') j.pe k.pe l.pe m.pe h4, fun z => by cases z⟩
  · cases h
theorem s_ite (it : Snd N T C t) (ia : Snd N T C a) (ib : Snd N T C b) : Snd N T C (.ite t a b) := fun Z X s Ex e F i tk h => by
  simp only [okE] at h
  split at h
  · simp only [Bool.and_eq_true] at h
    exact J.nt (by simp only [wX_def, wE]; exact he_ite ((it Z X s Ex _ F i tk h.1.1.2).pt h.1.1.1) (ia Z X s Ex _ F i tk h.1.2).pe (ib Z X s Ex _ F i tk h.2).pe) rfl rfl
  · cases h
theorem s_tup (ie : SndL N T C es) : Snd N T C (.tup es) := fun Z X s Ex e F i tk h => by
  simp only [okE] at h
  split at h
  · exact J.plain F.hK (by simp only [wX_def, wE]; exact he_tup (ie Z X s Ex _ F i tk h).1) rfl fun _ => rfl
  · cases h
theorem s_lst (ie : SndL N T C es) : Snd N T C (.lst es) := fun Z X s Ex e F i tk h => by
  simp only [okE] at h
  split at h
  · exact J.plain F.hK (by simp only [wX_def, wE]; exact he_lst (ie Z X s Ex _ F i tk h).1) rfl fun _ => rfl
  · cases h
theorem s_ix (ia : Snd N T C a) (ib : Snd N T C b) : Snd N T C (.ix a b) := fun Z X s Ex e F i tk h => by
  simp only [okE] at h
  split at h
  · simp only [Bool.and_eq_true] at h
    exact J.plain F.hK (by simp only [wX_def, wE]; exact he_ix F.hK F.u1 (ia Z X s Ex _ F i tk h.1.2).pe (ib Z X s Ex _ F i tk h.2).pe h.1.1) rfl fun _ => rfl
  · cases h
theorem s_sl (ia : Snd N T C a) (ib : Snd N T C b) (ic : Snd N T C c) : Snd N T C (.sl a b c) := fun Z X s Ex e F i tk h => by
  simp only [okE] at h
  split at h
  · rw [Bool.and_eq_true, Bool.and_eq_true] at h
    have h1 := okO_ok (N := N) (Z := Z) (X := X) (C := C) (Ex := Ex) h.1.2 fun y _ hy => (ib Z X s Ex y F i tk hy).pe
    have h2 := okO_ok (N := N) (Z := Z) (X := X) (C := C) (Ex := Ex) h.2 fun y _ hy => (ic Z X s Ex y F i tk hy).pe
    exact J.plain F.hK (by simp only [wX_def, wE]; exact he_sl F.hK (ia Z X s Ex _ F i tk h.1.1).pe h1 h2) rfl fun _ => rfl
  · cases h
theorem s_b1 {o : B1} (ia : Snd N T C a) : Snd N T C (.b1 o a) := fun Z X s Ex e F i tk h => by
  simp only [okE] at h
  split at h
  · split at h
    · simp only [Bool.and_eq_true, Bool.not_eq_true'] at h
      obtain ⟨⟨⟨⟨⟨⟨h0, h1⟩, h2⟩, h3⟩, h4⟩, h5⟩, h6⟩ := h
      have e1 := sEq_ok h1
      have e2 := sEq_ok h2
      subst e1 e2
      have w := fun pos p kp kp2 kc => he_minD (pos := pos) (p := p) (kp := kp) (kp2 := kp2) (kc := kc) (C := C) F.hK (F.calm h0) F.u1 (i.gl h3) (isB_ok F h4) (ia Z X s Ex _ F i tk h6).pe h5
      exact J.plain F.hK (by simp only [wX_def, wE]; exact w _ _ _ _ _) rfl fun _ => rfl
    · cases h
  · simp only [Bool.and_eq_true, Bool.or_eq_true, Bool.not_eq_true'] at h
    obtain ⟨⟨⟨⟨⟨⟨h1, h0⟩, h2⟩, h3⟩, h4⟩, h5⟩, h6⟩ := h
    have e := sEq_ok h2
    subst e
    exact J.plain F.hK (by simp only [wX_def, wE]; exact he_b1 F.hK (fun e => F.calm (h0.elim (fun z => by rw [e] at z; cases z) id)) F.own' h1 (i.gl h3) (isB_ok F h4) (ia Z X s Ex _ F i tk h6).pe h5) rfl fun _ => rfl
  · cases h
theorem s_b1s {o : B1} (ia : Snd N T C a) : Snd N T C (.b1s o a) := fun Z X s Ex e F i tk h => by
  simp only [okE] at h
  split at h
  · split at h
    · simp only [Bool.and_eq_true, Bool.not_eq_true'] at h
      obtain ⟨⟨⟨⟨⟨⟨⟨⟨h0, h1⟩, h2⟩, h3⟩, h4⟩, h5⟩, h6⟩, h7⟩, h8⟩ := h
      have e1 := sEq_ok h1
      have e2 := sEq_ok h2
      subst e1 e2
      have w := fun pos p p2 q => he_setlen (pos := pos) (p := p) (p2 := p2) (q := q) (C := C) F.hK (F.calm h0) (i.gl h3) (isB_ok F h5) (i.gl h4) (isB_ok F h6) (ia Z X s Ex _ F i tk h8).pe h7
      exact J.plain F.hK (by simp only [wX_def, wE]; exact w _ _ _ _) rfl fun _ => rfl
    · cases h
  · split at h
    · simp only [Bool.and_eq_true, Bool.not_eq_true'] at h
      obtain ⟨⟨⟨⟨⟨⟨⟨⟨h0, h1⟩, h2⟩, h3⟩, h4⟩, h5⟩, h6⟩, h7⟩, h8⟩ := h
      have e1 := sEq_ok h1
      have e2 := sEq_ok h2
      subst e1 e2
      have w := fun pos p p2 q => he_setsorted (pos := pos) (p := p) (p2 := p2) (q := q) (C := C) F.hK (F.calm h0) (i.gl h3) (isB_ok F h5) (i.gl h4) (isB_ok F h6) (ia Z X s Ex _ F i tk h8).pe h7
      exact J.plain F.hK (by simp only [wX_def, wE]; exact w _ _ _ _) rfl fun _ => rfl
    · cases h
  · split at h
    · simp only [Bool.and_eq_true, Bool.not_eq_true'] at h
      obtain ⟨⟨⟨⟨⟨⟨⟨h0, h1⟩, h2⟩, h3⟩, h4⟩, h5⟩, h6⟩, h7⟩ := h
      have e1 := sEq_ok h1
      have e2 := sEq_ok h2
      subst e1 e2
      have w := fun pos p apos cpos hl => he_vals (pos := pos) (p := p) (apos := apos) (cpos := cpos) (C := C) (F.calm h0) (i.gl h3) (isB_ok F h4) (ia Z X s Ex _ F i tk h7).pe (noSup_ok h5) hl
      exact J.plain F.hK (by simp only [wX_def, wE]; exact w _ _ _ _ h6) rfl fun _ => rfl
    · cases h
  · cases h
theorem s_lock (ia : Snd N T C a) : Snd N T C (.lock a) := fun Z X s Ex e F i tk h => by
  simp only [okE] at h
  split at h
  · exact J.plain F.hK (by simp only [wX_def, wE]; exact he_lock (w := wX C Ex a) (ia Z X s Ex _ F i tk h).pe) rfl fun _ => rfl
  · cases h
theorem s_gix {kvs : List (Str × D)} (ia : Snd N T C a) : Snd N T C (.gix kvs a) := fun Z X s Ex e F i tk h => by
  simp only [okE] at h
  split at h
  · simp only [Bool.and_eq_true] at h
    obtain ⟨⟨⟨⟨h1, h2⟩, h3⟩, h4⟩, h5⟩ := h
    obtain ⟨n1, _, _⟩ := okName_ok h2
    obtain ⟨d, m1, K⟩ := isT_ok F h3
    have w := fun pos p => he_gix (pos := pos) (p := p) K (i.gl h1) m1 n1 (ia Z X s Ex _ F i tk h5).pe h4
    exact J.plain F.hK (by simp only [wX_def, wE]; exact w _ _) rfl fun _ => rfl
  · cases h
theorem s_gget {kvs : List (Str × D)} (ia : Snd N T C a) (ib : Snd N T C b) : Snd N T C (.gget kvs a b) := fun Z X s Ex e F i tk h => by
  simp only [okE] at h
  split at h
  · simp only [Bool.and_eq_true] at h
    obtain ⟨⟨⟨⟨⟨⟨⟨⟨h0, h1⟩, h2⟩, h3⟩, h4⟩, h5⟩, h6⟩, h7⟩, h8⟩ := h
    have e1 := sEq_ok h0
    subst e1
    obtain ⟨n1, _, _⟩ := okName_ok h2
    obtain ⟨d, m1, K⟩ := isT_ok F h3
    have w := fun p apos cpos hl => he_gget (p := p) (apos := apos) (cpos := cpos) K (i.gl h1) m1 n1 (ia Z X s Ex _ F i tk h7).pe (ib Z X s Ex _ F i tk h8).pe hl h5 h6
    exact J.plain F.hK (by simp only [wX_def, wE]; exact w _ _ _ h4) rfl fun _ => rfl
  · cases h
theorem s_callv {fs : List Nat} (ia : Snd N T C a) (ie : SndL N T C es) : Snd N T C (.callv fs a es) := fun Z X s Ex e F i tk h => by
  simp only [okE] at h
  split at h
  · simp only [Bool.and_eq_true, Bool.not_eq_true'] at h
    obtain ⟨⟨⟨⟨h0, h1⟩, h2⟩, h3⟩, h4⟩ := h
    obtain ⟨k1, k2, _⟩ := ie Z X s Ex _ F i tk h4
    have w := fun pos => he_callv (pos := pos) (fs := fs) tk (fun f hf => F.fvs h0 f (subFs_ok h2 f hf)) h1 (ia Z X s Ex _ F i tk h3).pe k1 k2
    exact J.plain F.hK (by simp only [wX_def, wE]; exact w _) rfl fun _ => rfl
  · cases h
theorem s_b2 {o : B2} (ia : Snd N T C a) (ib : Snd N T C b) : Snd N T C (.b2 o a b) := fun Z X s Ex e F i tk h => by
  simp only [okE] at h
  split at h
  · simp only [Bool.and_eq_true, Bool.not_eq_true'] at h
    obtain ⟨⟨⟨⟨⟨⟨⟨h0, h1⟩, h2⟩, h3⟩, h4⟩, h5⟩, h6⟩, h7⟩ := h
    have e := sEq_ok h1
    subst e
    exact J.plain F.hK (by simp only [wX_def, wE]; exact he_b2 (F.calm h0) (i.gl h2) (isB_ok F h3) (ia Z X s Ex _ F i tk h6).pe (ib Z X s Ex _ F i tk h7).pe h4 h5) rfl fun _ => rfl
  · cases h
theorem s_bm {m : Bm} (io : Snd N T C a) (ie : SndL N T C es) : Snd N T C (.bm m a es) := fun Z X s Ex e F i tk h => by
  simp only [okE] at h
  split at h
  · rename_i x f ap p2 xs cp
    simp only [Bool.and_eq_true, decide_eq_true_eq] at h
    obtain ⟨⟨⟨⟨⟨⟨h1, h2⟩, h3⟩, h4⟩, h5⟩, h6⟩, h7⟩ := h
    have e := sEq_ok h2
    subst e
    have j := (io Z X s Ex _ F i tk h6).pe
    obtain ⟨k1, k2, _⟩ := ie Z X s Ex _ F i tk h7
    cases xs with
    | nil =>
      cases es with
      | nil => exact J.plain F.hK (by simp only [wX_def, wE, wEs]; exact he_bm0 F.hK F.u1 h1 j h3 h4) rfl fun _ => rfl
      | cons _ _ => simp only [okEs] at h7; cases h7
    | cons y ys => exact J.plain F.hK (by simp only [wX_def, wE]; exact he_bm F.hK F.u1 h1 j k1 h3 h4 k2 h5) rfl fun _ => rfl
  · cases h
theorem s_isiB {k : Kd} (ia : Snd N T C a) {Z : Sta × Hp} {X : Cx} {s : Sx} {Ex : D → Env → Sta → Prop} {f t : Str} {x : Expr} {p p2 pos : Pos} (F : Fx N T C X) (i : In X s) (tk : L2C.Takes X (xOf N Z Ex))
    (h : (kdOk k && sEq f "isinstance" && sEq t (Str.ofString (kdN k)) && s.gl f && s.gl t && T.isB f && T.isB t && plainA x && okE T a s x) = true) : J N Z X (.Call (.Name f p) [x, .Name t p2] [] pos) (wX C Ex (.isi a [k])) := by
  simp only [Bool.and_eq_true] at h
  obtain ⟨⟨⟨⟨⟨⟨⟨⟨h1, h2⟩, h3⟩, h4⟩, h5⟩, h6⟩, h7⟩, h8⟩, h9⟩ := h
  have e := sEq_ok h2
  subst e
  have w := fun pos p p2 => he_isi (pos := pos) (p := p) (p2 := p2) F.hK h1 (sEq_ok h3) (i.gl h4) (isB_ok F h6) (i.gl h5) (isB_ok F h7) (ia Z X s Ex _ F i tk h9).pe h8
  exact J.plain F.hK (by simp only [wX_def, wE, isKds_one]; exact w _ _ _) rfl fun _ => rfl
theorem s_isi {ks : List Kd} (ia : Snd N T C a) : Snd N T C (.isi a ks) := fun Z X s Ex e F i tk h => by
  match ks, h with
  | [.own cs], h =>
    simp only [okE] at h
    split at h
    · simp only [Bool.and_eq_true] at h
      obtain ⟨⟨⟨⟨⟨⟨⟨h1, h2⟩, h3⟩, h4⟩, h5⟩, h6⟩, h7⟩, h8⟩ := h
      have e := sEq_ok h1
      subst e
      obtain ⟨k, m1, iso⟩ := F.owns _ _ (hasO_ok h5)
      obtain ⟨n1, _, _⟩ := okName_ok h6
      have w := fun pos p p2 => he_isiO (pos := pos) (p := p) (p2 := p2) F.hK iso (i.gl h2) (isB_ok F h4) (i.gl h3) m1 n1 (ia Z X s Ex _ F i tk h8).pe h7
      exact J.plain F.hK (by simp only [wX_def, wE, isKds_one]; exact w _ _ _) rfl fun _ => rfl
    · cases h
  | [.int], h =>
    simp only [okE] at h
    split at h
    · exact s_isiB ia F i tk h
    · cases h
  | [.str], h =>
    simp only [okE] at h
    split at h
    · exact s_isiB ia F i tk h
    · cases h
  | [.bool], h =>
    simp only [okE] at h
    split at h
    · exact s_isiB ia F i tk h
    · cases h
  | [.list], h =>
    simp only [okE] at h
    split at h
    · exact s_isiB ia F i tk h
    · cases h
  | [.tuple], h =>
    simp only [okE] at h
    split at h
    · exact s_isiB ia F i tk h
    · cases h
  | [], h => simp only [okE] at h; cases h
  | _ :: _ :: _, h => simp only [okE] at h; cases h
theorem s_call {f : Nat} {sh : Shp} (ie : SndL N T C es) : Snd N T C (.call f sh es) := fun Z X s Ex e F i tk h => by
  cases sh with
  | perm l => simp only [okE] at h; cases h
  | app ds =>
    simp only [okE] at h
    split at h
    · rename_i g p2 xs cp
      simp only [Bool.and_eq_true, Bool.not_eq_true'] at h
      obtain ⟨⟨⟨⟨⟨h0, h1⟩, h2⟩, h3⟩, h4⟩, h5⟩ := h
      obtain ⟨k1, k2, _⟩ := ie Z X s Ex _ F i tk h5
      obtain ⟨g1, g2⟩ := isF_ok F h1
      have co := F.call h0 _ _ _ (hasCall_ok h4)
      obtain ⟨n1, _, _⟩ := okName_ok h3
      cases xs with
      | nil =>
        cases es with
        | nil => exact J.plain F.hK (by simp only [wX_def, wE, wEs, place]; exact he_call0 tk co (i.gl h2) g1 g2 n1) rfl fun _ => rfl
        | cons _ _ => simp only [okEs] at h5; cases h5
      | cons y ys => exact J.plain F.hK (by simp only [wX_def, wE, place]; exact he_call tk co (i.gl h2) g1 g2 n1 k1 k2) rfl fun _ => rfl
    · cases h
theorem es_len {T : Tb} {s : Sx} : ∀ (es : Es) (xs : List Expr), okEs T es s xs = true → es.len = xs.length
  | .nil, xs, h => by
    simp only [okEs] at h
    split at h
    · rfl
    · cases h
  | .cons a r, xs, h => by
    cases xs with
    | nil => simp only [okEs] at h; cases h
    | cons x xs =>
      simp only [okEs, Bool.and_eq_true] at h
      rw [Es.len, List.length_cons, es_len r xs h.2]
theorem kwN_len : ∀ {kws : List Keyword}, kwAll kws = true → (kwN kws).length = kws.length
  | [], _ => rfl
  | ⟨nm, v, kp⟩ :: r, h => by
    simp only [kwAll, List.all_cons, Bool.and_eq_true] at h
    cases nm with
    | none => cases h.1
    | some x => show (kwN r).length + 1 = r.length + 1; rw [kwN_len h.2]
theorem s_callk {f : Nat} {sh : Shp} {ks : Es} (ie : SndL N T C es) (ik : SndL N T C ks) : Snd N T C (.callk f sh es ks) := fun Z X s Ex e F i tk h => by
  simp only [okE] at h
  split at h
  · rename_i g p2 xs kws cp
    simp only [Bool.and_eq_true, Bool.not_eq_true'] at h
    obtain ⟨⟨⟨⟨⟨⟨⟨h0, h1⟩, h2⟩, h3⟩, h4⟩, h5⟩, h6⟩, h7⟩ := h
    obtain ⟨k1, k2, _⟩ := ie Z X s Ex _ F i tk h6
    obtain ⟨_, _, k3⟩ := ik Z X s Ex _ F i tk h7
    obtain ⟨g1, g2⟩ := isF_ok F h1
    have co := F.kcall h0 _ _ _ _ (hasK_ok h5)
    obtain ⟨n1, _, _⟩ := okName_ok h3
    have l1 := es_len _ _ h6
    have l2 := es_len _ _ h7
    rw [List.length_map, ← kwN_len h4] at l2
    cases xs with
    | nil =>
      cases es with
      | nil => exact J.plain F.hK (by simp only [wX_def, wE, wEs, l2]; exact he_callk0 tk co (i.gl h2) g1 g2 n1 (k3 _ rfl) h4) rfl fun _ => rfl
      | cons _ _ => simp only [okEs] at h6; cases h6
    | cons y ys => exact J.plain F.hK (by simp only [wX_def, wE, l1, l2]; exact he_callk tk co (i.gl h2) g1 g2 n1 k1 (k3 _ rfl) h4 k2) rfl fun _ => rfl
  · cases h
theorem s_xis {j : Nat} {l : List (Nat × Bool)} : Snd N T C (.xis j l) := fun Z X s Ex e F i tk h => by
  simp only [okE] at h
  split at h
  · rename_i f p x p1 y p2 pos
    simp only [Bool.and_eq_true, beq_iff_eq] at h
    obtain ⟨⟨⟨⟨⟨⟨⟨⟨⟨h1, h2⟩, h3⟩, h4⟩, h5⟩, h6⟩, h7⟩, h8⟩, h9⟩, h10⟩ := h
    have e := sEq_ok h2
    subst e
    obtain ⟨c, fs, ds, a, z, U, hc, hcx⟩ := F.sux j h1
    obtain ⟨n1, n2, _⟩ := okName_ok h7
    obtain ⟨n3, _, _⟩ := okName_ok h9
    rcases F.iss _ _ (hasL_ok h10) with ⟨k, m1, tab⟩ | ⟨n, m1, b1, b2, b3, tab⟩
    · exact J.plain F.hK (by simp only [wX_def, wE]; exact he_xis U (F.xc c hc).1 (by rw [i.ns]; exact nsAt_ok h5) (i.vis h6) n1 n2 (i.gl h3) (isB_ok F h4) (i.gl h8) m1 n3 (fun b e => tab c b hcx e)) rfl fun _ => rfl
    · exact J.plain F.hK (by simp only [wX_def, wE]; exact he_xisB U (F.xc c hc).1 (by rw [i.ns]; exact nsAt_ok h5) (i.vis h6) n1 n2 (i.gl h3) (isB_ok F h4) (i.gl h8) m1 b1 b2 b3 (fun b e => tab c b hcx e)) rfl fun _ => rfl
  · cases h
theorem s_hot {f j : Nat} {l : List (Nat × List Str)} : Snd N T C (.hot f j l) := fun Z X s Ex e F i tk h => by
  simp only [okE] at h
  split at h
  · rename_i g p x p1 pos
    simp only [Bool.and_eq_true, beq_iff_eq] at h
    obtain ⟨⟨⟨⟨⟨⟨⟨⟨h0, h1⟩, h2⟩, h3⟩, h4⟩, h5⟩, h6⟩, h7⟩, h8⟩ := h
    obtain ⟨c, fs, ds, a, z, U, hc⟩ := F.sux j h1
    obtain ⟨n1, n2, _⟩ := okName_ok h8
    obtain ⟨m1, _, _⟩ := okName_ok h4
    obtain ⟨g1, g2⟩ := isF_ok F h2
    exact J.plain F.hK (by simp only [wX_def, wE]; exact he_hot F U hc (hasHot_ok h5) (by rw [i.ns]; exact nsAt_ok h6) (i.vis h7) n1 n2 (i.gl h3) g1 g2 m1) rfl fun _ => rfl
  · cases h
theorem s_xfl {j n : Nat} : Snd N T C (.xfl j n) := fun Z X s Ex e F i tk h => by
  simp only [okE] at h
  split at h
  · rename_i x p1 f pos
    simp only [Bool.and_eq_true, beq_iff_eq] at h
    obtain ⟨⟨⟨⟨⟨h0, h1⟩, h2⟩, h3⟩, h4⟩, h5⟩ := h
    obtain ⟨c, fs, ds, a, z, U, hc, _⟩ := F.sux j h1
    rw [h0] at U
    obtain ⟨e1, e2⟩ := F.flds _ _ (hasFld_ok h5)
    obtain ⟨n1, n2, _⟩ := okName_ok h4
    exact J.plain F.hK (by simp only [wX_def, wE]; exact he_xfl U (F.xc c hc).2.1 (e2 c hc) e1 (by rw [i.ns]; exact nsAt_ok h2) (i.vis h3) n1 n2) rfl fun _ => rfl
  · cases h
theorem s_at {f : Nat} (ia : Snd N T C a) : Snd N T C (.at a f) := fun Z X s Ex e F i tk h => by
  simp only [okE] at h
  split at h
  · simp only [Bool.and_eq_true] at h
    exact J.plain F.hK (by simp only [wX_def, wE]; exact he_at (F.ofl _ _ (hasOF_ok h.1.2)) (ia Z X s Ex _ F i tk h.2).pe h.1.1) rfl fun _ => rfl
  · cases h
theorem isK_ok {X : Cx} (F : Fx N T C X) {x : Str} {c : Nat} (h : T.isK x c = true) : X.mg x = some (.ref (N.ca c)) := by
  unfold Tb.isK at h
  split at h
  · rename_i e he
    have := F.glob _ _ (sLook_ok he)
    rw [beq_iff_eq.mp h]
    exact this
  · cases h
theorem s_new {c f : Nat} {sh : Shp} {ks : Es} (ie : SndL N T C es) (ik : SndL N T C ks) : Snd N T C (.new c f sh es ks) := fun Z X s Ex e F i tk h => by
  simp only [okE] at h
  split at h
  · rename_i g p2 xs kws cp
    simp only [Bool.and_eq_true, Bool.not_eq_true', beq_iff_eq] at h
    obtain ⟨⟨⟨⟨⟨⟨⟨⟨h0, h1⟩, hf⟩, h2⟩, h3⟩, h4⟩, h5⟩, h6⟩, h7⟩ := h
    subst hf
    obtain ⟨k1, k2, _⟩ := ie Z X s Ex _ F i tk h6
    obtain ⟨_, _, k3⟩ := ik Z X s Ex _ F i tk h7
    have g1 := isK_ok F h1
    have co := F.news h0 _ _ _ _ (hasN_ok h5)
    obtain ⟨n1, _, _⟩ := okName_ok h3
    have l1 := es_len _ _ h6
    have l2 := es_len _ _ h7
    rw [List.length_map, ← kwN_len h4] at l2
    cases xs with
    | nil =>
      cases es with
      | nil => exact J.plain F.hK (by simp only [wX_def, wE, wEs, l2]; exact he_new0 tk co (i.gl h2) g1 n1 (k3 _ rfl) h4) rfl fun _ => rfl
      | cons _ _ => simp only [okEs] at h6; cases h6
    | cons y ys => exact J.plain F.hK (by simp only [wX_def, wE, l1, l2]; exact he_new tk co (i.gl h2) g1 n1 k1 (k3 _ rfl) h4 k2) rfl fun _ => rfl
  · cases h
theorem s_meth {m : Nat} {cs : List (Nat × Shp)} {ks : Es} (ia : Snd N T C a) (ie : SndL N T C es) (ik : SndL N T C ks) : Snd N T C (.meth a m cs es ks) := fun Z X s Ex e F i tk h => by
  simp only [okE] at h
  split at h
  · rename_i x f ap xs kws cp
    simp only [Bool.and_eq_true, Bool.not_eq_true', decide_eq_true_eq] at h
    obtain ⟨⟨⟨⟨⟨⟨⟨⟨h0, h1⟩, h2⟩, h4⟩, h5⟩, h6⟩, h7⟩, h8⟩, h9⟩ := h
    obtain ⟨k1, k2, _⟩ := ie Z X s Ex _ F i tk h8
    obtain ⟨_, _, k3⟩ := ik Z X s Ex _ F i tk h9
    have co := F.meths h0 _ _ _ _ _ (hasM_ok h5)
    have l1 := es_len _ _ h8
    have l2 := es_len _ _ h9
    rw [List.length_map, ← kwN_len h4] at l2
    have w := fun apos cpos (hl : (apos.endLine == cpos.line) = true) => he_meth (apos := apos) (cpos := cpos) tk co (ia Z X s Ex _ F i tk h7).pe h1 hl k1 (fun e => by
      subst e
      cases es with
      | nil => exact fun ρ S Q q => by simpa only [wXs_def, wEs] using q
      | cons _ _ => simp only [okEs] at h8; cases h8) (k3 _ rfl) h4 k2 h6
    exact J.plain F.hK (by simp only [wX_def, wE, l1, l2]; exact w _ _ h2) rfl fun _ => rfl
  · cases h
def SndF (N : Nm) (T : Tb) (C : Orc) (ir : Es) : Prop := ∀ (Z : Sta × Hp) (X : Cx) (s : Sx) (Ex : D → Env → Sta → Prop) (vs : List Expr), Fx N T C X → In X s → L2C.Takes X (xOf N Z Ex) → okFs T ir s vs = true → FsOk N Z X vs fun acc ρ S Q => wFs C (fun x S' => Ex x ρ S') ir acc ρ S Q
theorem s_nilF : SndF N T C .nil := fun Z X s Ex vs F i tk h => by
  simp only [okFs] at h
  split at h
  · simp only [wFs]
    exact fs_nil
  · cases h
theorem s_consF (ia : Snd N T C a) (ie : SndF N T C es) : SndF N T C (.cons a es) := fun Z X s Ex vs F i tk h => by
  simp only [okFs] at h
  split at h
  · rename_i e j sp p xs
    simp only [Bool.and_eq_true, beq_iff_eq] at h
    obtain ⟨⟨⟨h1, h2⟩, h3⟩, h4⟩ := h
    subst h1
    cases sp with
    | some _ => cases h2
    | none =>
      have w := fs_val (pos := p) (ia Z X s Ex _ F i tk h3).pe (ie Z X s Ex _ F i tk h4)
      simp only [wFs]
      exact w
  · rename_i z k p xs
    simp only [Bool.and_eq_true] at h
    obtain ⟨h1, h2⟩ := h
    split at h1
    · rename_i y
      have e := sEq_ok h1
      subst e
      simp only [wFs, wE]
      exact fs_con pe_str (ie Z X s Ex _ F i tk h2)
    · cases h1
  · cases h
theorem s_fs (ie : SndF N T C es) : Snd N T C (.fs es) := fun Z X s Ex e F i tk h => by
  simp only [okE] at h
  split at h
  · exact J.nt (by simp only [wX_def, wE]; exact he_fs (ie Z X s Ex _ F i tk h)) rfl rfl
  · cases h
def SndD (N : Nm) (T : Tb) (C : Orc) (ir : Es) : Prop := ∀ (Z : Sta × Hp) (X : Cx) (s : Sx) (Ex : D → Env → Sta → Prop) (pos : Pos) (ks : List (Option Expr)) (vs : List Expr), Fx N T C X → In X s → L2C.Takes X (xOf N Z Ex) → okDp T ir s ks vs = true → DpOk N Z X pos ks vs fun ρ S Q => wEs C (fun x S' => Ex x ρ S') ir ρ S Q
theorem s_nilD : SndD N T C .nil := fun Z X s Ex pos ks vs F i tk h => by
  simp only [okDp] at h
  split at h
  · simp only [wEs]
    exact dp_nil
  · cases h
theorem s_oneD {a : A.E} : SndD N T C (.cons a .nil) := fun Z X s Ex pos ks vs F i tk h => by simp only [okDp] at h; cases h
theorem s_consD {b : A.E} (ia : Snd N T C a) (ib : Snd N T C b) (ie : SndD N T C es) : SndD N T C (.cons a (.cons b es)) := fun Z X s Ex pos ks vs F i tk h => by
  simp only [okDp] at h
  split at h
  · simp only [Bool.and_eq_true] at h
    obtain ⟨⟨h1, h2⟩, h3⟩ := h
    have j := ia Z X s Ex _ F i tk h1
    have k := ib Z X s Ex _ F i tk h2
    have l := ie Z X s Ex pos _ _ F i tk h3
    simp only [wEs]
    exact dp_cons j.pe k.pe l
  · cases h
theorem s_dct (ie : SndD N T C es) : Snd N T C (.dct es) := fun Z X s Ex e F i tk h => by
  simp only [okE] at h
  split at h
  · split at h
    · refine J.nt ?_ rfl rfl
      simp only [wX_def, wE, wEs]
      refine pimp he_dct0 fun σ H Q ⟨ρ, S, Qh, rs, rh, fz, q, kn⟩ => ⟨ρ, S, Qh, rs, rh, fz, ?_, kn⟩
      obtain ⟨kvs, e, _, q⟩ := q
      cases kvs with
      | nil => exact q
      | cons p r => simp at e
    · cases h
  · simp only [Bool.and_eq_true, decide_eq_true_eq] at h
    obtain ⟨⟨⟨h1, h2⟩, h3⟩, h4⟩ := h
    refine J.nt ?_ rfl rfl
    simp only [wX_def, wE]
    exact he_dct (ie Z X s Ex _ _ _ F i tk h4) h1 h2 (by simp) h3
  · cases h
end
theorem ff_base {h B B' : Heap} (k : ∀ b, B.get? b = none → B'.get? b = none) : ∀ {l : List PySem.Env}, h.FunFrames B l → h.FunFrames B' l
  | [], _ => trivial
  | _ :: _, ⟨a, ⟨L, o, e1, e2, e3, e4⟩, r⟩ => ⟨a, ⟨L, o, e1, k L e2, e3, e4⟩, ff_base k r⟩
section
variable {M : Model} {Ar : Around} {E : Value → Shared → Prop} {s : Shared} {Z : Obj → Prop} {B : Heap} {env : PySem.Env} {outer : List PySem.Env} {L C e : Addr} {Q : Unit → Shared → Prop}
theorem looks_other (hZ : PXN.Steady1 Z) (hfr : Ar.frames = some (env :: outer)) (hf : env.frame = some L) (ne : C ≠ L) (x : HandSPX.HeldZ B (env :: outer) e Z C s.heap)
    (hQ : ∀ h', HandSPX.HeldZ B (env :: outer) e Z L h' → s.heap.UpToSlots h' → Q () { s with heap := h' }) : wpAny M Ar (noteFrame (.ref e) env) Q E s := by
  obtain ⟨kb, en, ff, oe, vs, T, oT, ts, he, hz, hd, h1, nT, Te, hT, dT, h3⟩ := x
  have sz3 : 3 < ts.size := (Array.getElem?_eq_some_iff.mp h3).1
  have rest : ∀ b, b ≠ T → (s.heap.update T (Obj.mapFields (·.setIfInBounds 3 Value.none))).get? b = s.heap.get? b := fun b hb => Heap.get?_update_other _ _ hb.symm
  have notT : ∀ b o, s.heap.get? b = some o → (∀ vs, o.data ≠ .fields vs) → b ≠ T := fun b o hb hn z => by
    subst z
    rw [hT] at hb
    cases hb
    exact hn _ dT
  unfold noteFrame
  simp only [hf]
  refine wpAny_bind (wpAny_field he hd h1 ?_)
  rw [if_pos (by simp)]
  refine wpAny_bind (wpAny_field hT dT h3 ?_)
  rw [if_neg (by
    have ne' : ¬ ((C : Nat) : Int) = (L : Nat) := fun z => ne (Int.ofNat.inj z)
    simpa [rawInt] using ne')]
  refine wpAny_bind (wpAny_setField hT dT sz3 ?_)
  refine PXN.wpAny_entryZ hZ hfr (ff.of_keeps fun b o hb hn => ⟨o, (rest b (notT b o hb hn)).trans hb, rfl⟩) hf ((rest e Te.symm).trans he) (fun b o hb => (rest b fun z => by rw [z, nT] at hb; cases hb).trans (kb b o hb)) en hd (Array.getElem?_eq_some_iff.mp h1).1 hz fun h' ⟨n1, n2, n3, n4⟩ => ?_
  exact hQ h' ⟨n1, en, n2, n3⟩ fun b o hb hn => n4 b o ((rest b (notT b o hb hn)).trans hb) hn
theorem sky_noted (hZ : PXN.Steady1 Z) (hfr : Ar.frames = some (env :: outer)) (hf : env.frame = some L) (ne : C ≠ L) (x : Sky B (env :: outer) e Z C s.heap)
    (hQ : ∀ h', HandSPX.HeldZ B (env :: outer) e Z L h' → s.heap.UpToSlots h' → Q () { s with heap := h' }) : wpAny M Ar (noteFrame (.ref e) env) Q E s := by
  rcases x with ⟨h1, h2, h3, oe, vs, h4, h5, h6, h7⟩ | x | x
  · exact PXN.look_newZ hZ hfr h3 hf h4 h1 h2 h6 h7 h5 hQ
  · exact PXN.looks_onZ hZ hfr hf x hQ
  · exact looks_other hZ hfr hf ne x hQ
end
section
variable {X : Cx} {pins : List (Addr × Obj)} {σ : L2.St} {H3 : Hp} {s3 : Shared} {scope : Scope} {ce : PySem.Env} {fp : List Addr} {W W' : WX}
abbrev errB (X : Cx) (ce : PySem.Env) : Value → Shared → Prop := notedBy (model X.prog X.w) X.A ce (CompFails (model X.prog X.w) X.A X.xe ce)
theorem comp_err (I3 : Inv X pins σ H3 s3) (hst : X.stack = X.env :: X.outer) (hfr : X.env.frame = some X.env.locals) (cf : ce.frame = X.env.frame) (cL : ce.locals = s3.heap.objs.size)
    (f3 : ∀ b ∈ fp, FpOk X pins H3 b) (tk : L2C.Takes X W) (hW : ∀ cls d σ' H', W' cls d σ' H' → W cls d σ H') : L2C.Takes ((X.blk s3 H3 scope ce fp).wish (errB X ce)) W' := by
  intro u s' air
  obtain ⟨a, cx, lk, B, sI, pins', σ', H', cls, d, rfl, J', nb, up, sky, ch, na, os, ag, w⟩ := air
  have J : Inv (X.blk s3 H3 scope ce fp) pins' σ' H' sI := J'.unwish
  have fr : X.A.frames = some (X.env :: X.outer) := by rw [I3.ok.frames, hst]
  have sky' : Sky B (X.env :: X.outer) a (L2C.Zx cls d cx) ce.locals s'.heap := by rw [← hst]; exact sky
  have lt : X.env.locals < s3.heap.objs.size := I3.lt
  have neC : ce.locals ≠ X.env.locals := by rw [cL]; exact Nat.ne_of_gt lt
  show wpAny (model X.prog X.w) X.A (noteFrame (.ref a) ce) (fun _ s'' => CompFails (model X.prog X.w) X.A X.xe ce (.ref a) s'') _ s'
  rw [noteFrame_env _ cf]
  refine sky_noted L2C.Zx.steady fr hfr neC sky' fun h1 hh up1 => ?_
  obtain ⟨m, hm, _⟩ := J.loc
  have hm : sI.heap.Ns ce.locals m := hm
  have hm1 : h1.Ns ce.locals m := hm.upToSlots (up.trans up1)
  refine ⟨m, hm1, fun h2 m2 hm2 sb => ?_⟩
  -- without the block's names
  obtain ⟨G, g1, g2⟩ := restrict sI.heap fun b => b != ce.locals
  obtain ⟨B', b1, b2⟩ := restrict B fun b => b != ce.locals
  have g1' : ∀ b, b ≠ ce.locals → G.get? b = sI.heap.get? b := fun b hb => g1 b (by simpa using hb)
  have b1' : ∀ b, b ≠ ce.locals → B'.get? b = B.get? b := fun b hb => b1 b (by simpa using hb)
  have gC : G.get? ce.locals = none := g2 _ (by simp)
  have bC : B'.get? ce.locals = none := b2 _ (by simp)
  have bn : ∀ b, B.get? b = none → B'.get? b = none := fun b e => by
    by_cases z : b = ce.locals
    · rw [z]; exact bC
    · rw [b1' b z]; exact e
  obtain ⟨k1, k2, k3, oe, vs, T, oT, ts, he, hz, hd, hv, nT, Te, hT, dT, h3⟩ := id hh
  have notC : ∀ {b : Addr} {o : Obj} {ws : Array Value}, h1.get? b = some o → o.data = .fields ws → b ≠ ce.locals := fun {b o ws} e dd z => by
    obtain ⟨oc, es, n, e1, e2, _⟩ := hm1
    rw [z, e1] at e
    cases e
    rw [e2] at dd
    cases dd
  have aC := notC he hd
  have TC := notC hT dT
  have hh2 : HandSPX.HeldZ B' (X.env :: X.outer) a (L2C.Zx cls d cx) X.env.locals h2 := by
    refine ⟨fun b o e => ?_, bn _ k2, ff_base bn (Heap.FunFrames.sameBut sb hm2 k3), oe, vs, T, oT, ts, (sb.2 _ aC).trans he, hz, hd, hv, bn _ nT, Te, (sb.2 _ TC).trans hT, dT, h3⟩
    have hb : b ≠ ce.locals := fun z => by rw [z, bC] at e; cases e
    rw [b1' b hb] at e
    exact (sb.2 b hb).trans (k1 b o e)
  unfold PySem.passOn
  refine wpAny_bind (wpAny_field (s := { s' with heap := h2 }) ((sb.2 _ aC).trans he) hd hv ?_)
  rw [if_neg (show ¬ ((Value.ref T == Value.none) = true) from by simp)]
  have on : wpAny (model X.prog X.w) X.A (setFlight (.ref a) ce.frame) (fun _ s4 => wpAny (model X.prog X.w) X.A (throw (.ref a) : Sem Value) (fun _ _ => False) X.xe s4) X.xe { s' with heap := h2 } := by
    rw [cf, hfr]
    refine HandSPX.setFlight_onZ hh2 fun h4 hh4 up4 => wpAny_throw (tk _ _ ?_)
    have nC : H' ce.locals = none := J.free
    have K : Inv X pins σ H' sI := I3.call' (ch := fp) J.os J.base J.hok J.bare fun b hb => let f := f3 b hb; ⟨f.2.2.2.1, f.2.1, f.2.2.2.2.1, f.2.2.2.2.2⟩
    obtain ⟨q0, q1, q2, q3, q4, q5⟩ := I3.fpOk (H' := H') (b := ce.locals) (by rw [cL]; exact Nat.le_refl _) nC
    have K2 : Inv X pins σ H' { sI with heap := G } := K.turned (t' := sI.toks) (fun b o hb e => (g1' b hb).trans e) q0 q1 q3 q4 q5
    refine ⟨a, cx, lk, B', { sI with heap := G }, pins, σ, H', cls, d, rfl, K2, fun b o e hb => ?_, fun b o e hn => ?_, .inr (.inr (by rw [hst]; exact hh4)), ⟨ch.1, fun p hp => ⟨?_, (ch.2 p hp).2⟩⟩, na, os, ag, hW _ _ _ _ w⟩
    · have hbC : b ≠ ce.locals := fun z => by rw [z, gC] at e; cases e
      rw [b1' b hbC]
      rw [g1' b hbC] at e
      exact nb b o e hb
    · have hbC : b ≠ ce.locals := fun z => by rw [z, gC] at e; cases e
      rw [g1' b hbC] at e
      obtain ⟨sl, e1⟩ := (up.trans up1) b o e hn
      exact up4 b _ ((sb.2 b hbC).trans e1) hn |>.imp fun sl2 e2 => e2
    · have e := (ch.2 p hp).1
      obtain ⟨ws, dp⟩ := L2C.lnk_data ch.1 p hp
      have hbC : p.1 ≠ ce.locals := notC (k1 _ _ e) dp
      rw [b1' _ hbC]
      exact e
  first
    | exact wpAny_bind (wpAny_pure (wpAny_bind on))
    | exact wpAny_bind on
end
section
variable {X : Cx} {pins : List (Addr × Obj)} {σ : L2.St} {H : Hp} {s : Shared} {W W' : WX}
theorem lc_err {Q : VK} {elt tg iter : Expr} {ifs : List Expr} {scope : Scope} {own : List (Str × Nat)} {pos pos' : Pos} {wi : TI} {g : TG} {tt : TT} {te : TE}
    (hc : X.calm = true) (hst : X.stack = X.env :: X.outer) (hfr : X.env.frame = some X.env.locals) (hN : X.N.Nodup) (I : Inv X pins σ H s) (hi : PI X tg iter wi) (ok : BlkOk X.N X.env.scope scope own) (tk : L2C.Takes X W) (hW : ∀ cls d σ' H', W' cls d σ' H' → W cls d σ H')
    (hg : ∀ s0 H0 C cl fp, PG (X.blk s0 H0 scope (compEnvC scope cl C X.env) fp) tg g) (ht : ∀ s0 H0 C cl fp, PTs (X.blk s0 H0 scope (compEnvC scope cl C X.env) fp) ifs tt)
    (he : ∀ s0 H0 C cl fp, L2C.Takes ((X.blk s0 H0 scope (compEnvC scope cl C X.env) fp).wish (errB X (compEnvC scope cl C X.env))) W' → PE ((X.blk s0 H0 scope (compEnvC scope cl C X.env) fp).wish (errB X (compEnvC scope cl C X.env))) elt te)
    (hs : ∀ x, foldedSetIterable iter X.env x = pure x) (h : tLc wi g tt te (own.map (·.2)) σ H Q) :
    wpAny (model X.prog X.w) X.A (comprehension (.ListComp elt [⟨tg, iter, ifs, 0⟩] scope pos) scope X.env pos' (newList []) false (eval iter X.env) none) (EP X pins σ Q) X.xe s := by
  have seen : ∀ y ∈ scope.names, y.2 = .free → ∃ c, X.env.cells.lookup y.1 = some c := fun y hy e => (ok.free y hy e).elim (fun z => I.ok.has _ (.inl z)) fun z => I.ok.has _ (.inr z)
  refine comprehension_at (use := none) rfl hs (closure_ok seen) ok.kind (fun y hy e => by rw [ok.uniq y hy, e]) (thn (hi.run pins s σ H _ I h) fun v0 s1 hv => thn hv fun v1 s2 hw => ?_)
  obtain ⟨it, fp, tn, J, H2, e, I2, T, st2, f2, q⟩ := hw
  subst e
  refine wpAny_newObj_type (newEnv_comp ?_) (by show 0 ≤ sizeLine; decide)
  obtain ⟨Z, hZ⟩ : ∃ Z, Z = s2.heap.objs.size := ⟨_, rfl⟩
  rw [← hZ]
  have nZ : H2 Z = none := I2.hok.fresh (Nat.le_of_eq hZ.symm)
  obtain ⟨Wn, ⟨m0, w0⟩, turn⟩ := q Z nZ
  generalize e3 : ({ s2 with heap := s2.heap.push { cls := .type "list", data := .seq ([] : List Value).toArray } } : Shared) = s3
  have hs3 := e3.symm
  have hh3 : s3.heap = s2.heap.push { cls := .type "list", data := .seq ([] : List Value).toArray } := by rw [hs3]
  have kp3 : ∀ b o, s2.heap.get? b = some o → s3.heap.get? b = some o := fun b o e => by rw [hh3]; exact Heap.get?_push_of_some _ e
  have I3 : Inv X pins σ (upd H2 Z (.lst [])) s3 := by
    have at_ : s3.heap.get? Z = some { cls := .type "list", data := .seq ([] : List Value).toArray } := by rw [hh3, hZ]; exact Heap.get?_push_size _ rfl
    rw [hs3] at at_ ⊢
    exact I2.laid (t' := s2.toks) (fun b o e => Heap.get?_push_of_some _ e) (Nat.le_of_eq hZ.symm) ⟨Nat.zero_le _, [], 0, .nil, at_⟩
  have small : ∀ b ∈ fp, b < s2.heap.objs.size := fun b hb => let ⟨o, e, _⟩ := T.obj _ _ st2 b hb; Heap.lt_size e
  have f3 : ∀ b ∈ fp, FpOk X pins (upd H2 Z (.lst [])) b ∧ b < s3.heap.objs.size := fun b hb => by
    have lt := small b hb
    have nb : b ≠ Z := fun z => by rw [z, hZ] at lt; exact Nat.lt_irrefl _ lt
    exact ⟨⟨by rw [L2.upd_ne nb]; exact (f2 b hb).1, (f2 b hb).2⟩, by rw [hh3, Heap.size_push]; exact Nat.lt_succ_of_lt lt⟩
  have st3 : tn 0 s3.heap := T.keep _ _ _ st2 fun b _ o e => kp3 b o e
  have I4 := block_start I3 ok hN f3
  have pg := hg s3 (upd H2 Z (.lst [])) s3.heap.objs.size (cellsFrom (s3.heap.objs.size + 1) scope.names (cloFrom X.env.cells scope.names [])) fp
  have pt := ht s3 (upd H2 Z (.lst [])) s3.heap.objs.size (cellsFrom (s3.heap.objs.size + 1) scope.names (cloFrom X.env.cells scope.names [])) fp
  have pe := he s3 (upd H2 Z (.lst [])) s3.heap.objs.size (cellsFrom (s3.heap.objs.size + 1) scope.names (cloFrom X.env.cells scope.names [])) fp
  show codeAny _ _ (.compStart (.ListComp elt [⟨tg, iter, ifs, 0⟩] scope pos) 0 (.ref it) (.ref Z) (compEnvC scope (cellsFrom (s3.heap.objs.size + 1) scope.names (cloFrom X.env.cells scope.names [])) s3.heap.objs.size X.env)) (compEnds (model X.prog X.w) X.A X.xe none (EP X pins σ Q) (.ref Z) (compEnvC scope (cellsFrom (s3.heap.objs.size + 1) scope.names (cloFrom X.env.cells scope.names [])) s3.heap.objs.size X.env)) { s3 with heap := pushCells (s3.heap.push { cls := .type "dict", data := .dict #[] }) scope.names }
  have nf : ∀ b ∈ fp, (upd H2 Z (.lst [])) b = none := fun b hb => (f3 b hb).1.1
  generalize hce : compEnvC scope (cellsFrom (s3.heap.objs.size + 1) scope.names (cloFrom X.env.cells scope.names [])) s3.heap.objs.size X.env = ce at I4 pg pt pe ⊢
  have cL : ce.locals = s3.heap.objs.size := by rw [← hce]; rfl
  have cF : ce.frame = X.env.frame := by rw [← hce]; rfl
  have pe := pe (comp_err I3 hst hfr cF cL (fun b hb => (f3 b hb).1) tk hW)
  generalize hH3 : upd H2 Z (.lst []) = H3 at I3 I4 pg pt pe w0 nf f3
  generalize hs4 : ({ s3 with heap := pushCells (s3.heap.push { cls := .type "dict", data := .dict #[] }) scope.names } : Shared) = s4 at I4 ⊢
  have st4 : tn 0 s4.heap := T.keep _ _ _ st3 fun b _ o e => by rw [← hs4]; exact pushCells_keeps _ _ _ _ (Heap.get?_push_of_some _ e)
  have stat : ∀ {σ' : L2.St} {H' : Hp} {s' : Shared}, Inv (X.blk s3 H3 scope ce fp) [] σ' H' s' → (∀ b ∈ fp, H' b = none) → ∀ b ∈ fp, FpOk (X.blk s3 H3 scope ce fp) [] H' b := fun I' hn b hb =>
    ⟨hn b hb, (I'.ok.exf b hb).1, I'.ok.exfs b hb, .inl hb, fun x c e => (I'.ok.exf b hb).2 x c e, fun p hp => absurd (show p ∈ ([] : List (Addr × Obj)) ++ [] from hp) (by simp)⟩
  have loop : codeAny (model X.prog X.w) X.A (.compLoop (.ListComp elt [⟨tg, iter, ifs, 0⟩] scope pos) 0 (.ref it) (.ref Z) ce) (compEnds (model X.prog X.w) X.A X.xe none (EP X pins σ Q) (.ref Z) ce) s4 := by
    refine compLoop_any (fun n t => ∃ i H', Inv (X.blk s3 H3 scope ce fp) [] (wipe σ (own.map (·.2))) H' t ∧ tn i t.heap ∧ (∀ b ∈ fp, H' b = none) ∧ Wn i n H') ?_ m0 ⟨0, H3, I4, st4, nf, w0⟩
    rintro n t5 ⟨i, H5, J5, st5, n5, w5⟩
    rcases turn i n H5 w5 with ⟨stop, qd⟩ | ⟨go, Nx, hNx, step⟩
    · refine thnF (T.done (X.blk s3 H3 scope ce fp) rfl rfl rfl hc i [] t5 _ H5 (fun _ _ => False) J5 (stat J5 n5) st5 stop) fun r t6 ⟨er, J6⟩ => ?_
      subst er
      have K6 : Inv X pins σ H5 t6 := I3.call' (ch := fp) J6.os J6.base J6.hok J6.bare fun b hb => let f := (f3 b hb).1; ⟨f.2.2.2.1, f.2.1, f.2.2.2.2.1, f.2.2.2.2.2⟩
      have nC : H5 s3.heap.objs.size = none := by
        have z : H5 ce.locals = none := J6.free
        rwa [cL] at z
      obtain ⟨m, hm, _⟩ := J6.loc
      have hm : t6.heap.Ns ce.locals m := hm
      obtain ⟨g0, g1, g2, g3, g4, g5⟩ := I3.fpOk (Nat.le_refl _) nC
      exact ⟨m, hm, fun h7 sb => ⟨.ref Z, H5, K6.turned (t' := t6.toks) (fun b o hb e => (sb.2 b (by rw [cL]; exact hb)).trans e) g0 g1 g3 g4 g5, rfl, qd⟩⟩
    · refine thnF (T.item (X.blk s3 H3 scope ce fp) rfl rfl rfl hc i [] t5 _ H5 (fun _ _ => False) J5 (stat J5 n5) st5 go) fun r t6 ⟨u, er, h6⟩ => ?_
      subst er
      refine thnF h6 fun _ t7 ⟨x, H7, J7, r7, y7, st7, n7⟩ => ?_
      have P7 := J7.pinned (stat J7 n7) (T.obj _ _ st7)
      refine thnF (pg.run _ t7 _ H7 x u _ P7 r7 (step x H7 y7)) fun _ t8 ⟨σ8, H8, J8, e8, q8⟩ => ?_
      refine thnF (pt.run _ t8 σ8 H8 _ J8 q8) fun b t9 ⟨H9, J9, q9⟩ => ?_
      have again : ∀ {t : Shared} {H' : Hp}, Inv (X.blk s3 H3 scope ce fp) ([] ++ pinsAt fp t7.heap) σ8 H' t → Nx H' → ∃ m, m < n ∧ ∃ i H', Inv (X.blk s3 H3 scope ce fp) [] (wipe σ (own.map (·.2))) H' t ∧ tn i t.heap ∧ (∀ b ∈ fp, H' b = none) ∧ Wn i m H' := fun {t H'} J' nx => by
        obtain ⟨m', lt, w'⟩ := hNx H' nx
        have there : ∀ b ∈ fp, ∀ o, t7.heap.get? b = some o → t.heap.get? b = some o ∧ H' b = none := fun b hb o e => let z := J'.pin (b, o) (List.mem_append_right _ (List.mem_append_right _ (mem_pinsAt hb e))); ⟨z.1, z.2.1⟩
        refine ⟨m', lt, i + 1, H', (J'.unpinned (pins := [])).weak (by rw [← e8, wipe_length]) (fun j v e => by rw [← e8] at e; exact (wipe_some e).1), T.keep _ _ _ st7 fun b hb o e => (there b hb o e).1, fun b hb => ?_, w'⟩
        obtain ⟨o, e, _⟩ := T.obj _ _ st7 b hb
        exact (there b hb o e).2
      cases b with
      | false =>
        simp only [Bool.false_eq_true, if_false] at q9 ⊢
        exact again J9 q9
      | true =>
        simp only [if_true] at q9 ⊢
        refine wpAny_mono (pe.run _ t9 σ8 H9 _ (J9.wish _) q9) (fun z t10 ⟨y, H10, J10, r10, acc, hz10, l10, nx⟩ => ?_) fun _ _ x => x
        exact app_ok (X := X.blk s3 H3 scope ce fp) J10.unwish hz10 l10 r10 fun t11 J11 => again J11 nx
  exact codeAny_compStart_list loop (T.self X.A 0 _ _ _ st4 loop)
end
section
variable {N : Nm} {Z : Sta × Hp} {X : Cx} {S S1 : Sta} {H H1 : Hp} {σ : L2.St} {ρ : Env} {is vs : List Nat} {wi : Wi} {wcond : Wp} {welt : Env → Wp} {Q : VK}
def hLcX (wi : Wi) (is own : List Nat) (wcond : Wp) (welt : Env → Wp) : Wp := fun ρ S Q => wi ρ S fun h xs S1 =>
  wcomp h (fun x S2 R => wtgN is x (wipeD ρ own) fun ρ1 => wcond ρ1 S2 fun y S3 => wtru S3 y fun b => if b = true then welt ρ ρ1 S3 fun d S4 => R (some d) S4 else R none S3) xs [] S1
    fun ds S5 => ∀ p, S5 p = none → Q (.ref p) (ups S5 p (.lst ds))
theorem lcx_at (hK : N.K = X.K) (hsub : ∀ i ∈ is, i ∈ vs) (σ : L2.St) (H : Hp) (Q : VK) (t : tOf N Z (hLcX wi is vs wcond welt) σ H Q) :
    ∃ ρ S, RS N H σ ρ ∧ RH N H S ∧ Fr Z.1 Z.2 S H ∧ tLc (tI N Z wi) (gT X.K is) (tT N Z wcond) (tOf N (S, H) (welt ρ)) vs σ H Q := by
  obtain ⟨ρ, S, Qh, rs, rh, fz, w, k⟩ := t
  refine ⟨ρ, S, rs, rh, fz, ?_⟩
  refine ⟨ρ, S, _, rs, rh, fz, w, fun h xs S1 H1 J f1 h1 wk q1 => ?_⟩
  intro L hL
  generalize hF : (fun (x : D) (S2 : Sta) (R : Option D → Sta → Prop) => wtgN is x (wipeD ρ vs) fun ρ1 => wcond ρ1 S2 fun y S3 => wtru S3 y fun b => if b = true then welt ρ ρ1 S3 fun d S4 => R (some d) S4 else R none S3) = F at q1
  generalize hP : (fun (ds : List D) (S5 : Sta) => ∀ p, S5 p = none → Qh (.ref p) (ups S5 p (.lst ds))) = P at q1
  refine ⟨fun i m H2 => m = xs.length - i ∧ i ≤ xs.length ∧ ∃ S2 acc vacc, Dle H1 H2 ∧ Fr S1 H1 S2 H2 ∧ RH N H2 S2 ∧ S2 L = none ∧ H2 L = some (.lst vacc) ∧ RDs N H2 acc vacc ∧ wcomp h F (xs.drop i) acc S2 P,
    ⟨xs.length, by simp, Nat.zero_le _, S1, [], [], dle_new hL, Fr.skip hL, h1.skip hL, h1.fresh hL, L2.upd_same, .nil, q1⟩, ?_⟩
  rintro i m H2 ⟨rfl, hi, S2, acc, vacc, dl, f2, h2, nL, eL, ra, wc⟩
  by_cases hlt : i < xs.length
  · rw [List.drop_eq_getElem_cons hlt, wcomp] at wc
    obtain ⟨hh, wc⟩ := wc
    refine .inr ⟨wk.goes i H2 S2 hlt dl h2 hh, fun H2 => ∃ S2 acc vacc, Dle H1 H2 ∧ Fr S1 H1 S2 H2 ∧ RH N H2 S2 ∧ S2 L = none ∧ H2 L = some (.lst vacc) ∧ RDs N H2 acc vacc ∧ wcomp h F (xs.drop (i + 1)) acc S2 P, fun H' n => ⟨xs.length - (i + 1), by omega, rfl, hlt, n⟩, fun x H3 y => ?_⟩
    obtain ⟨d, ed, f3, h3, r3⟩ := wk.yields i H2 S2 x H3 hlt dl h2 hh y
    rw [List.getElem?_eq_getElem hlt] at ed
    cases ed
    subst hF
    have d3 := f3.dle h2
    obtain ⟨L3, n3⟩ := f3 L _ eL nL
    have rs3 : RS N H3 (wipe σ vs) (wipeD ρ vs) := ((rs.mono (f1.dle rh)).mono (dl.trans d3)).wipe vs
    obtain ⟨σ2, ρ2, rs2, w2, same, len, go⟩ := tg_at hK rs3 r3 wc
    refine go _ ⟨wipe_eq (by rw [len, wipe_length]) fun j hj => (same j fun z => hj (hsub j z)).trans (wipe_out hj), ?_⟩
    refine ⟨ρ2, S2, _, rs2, h3, ((fz.trans f1).trans f2).trans f3, w2, fun y S3 H4 f4 h4 q4 => ?_⟩
    obtain ⟨L4, n4⟩ := f4 L _ L3 n3
    obtain ⟨j, pj, tj⟩ := wtru_some q4
    refine wtru_mk tj ?_
    have d4 := f4.dle h3
    cases j with
    | false => exact ⟨S3, acc, vacc, (dl.trans d3).trans d4, (f2.trans f3).trans f4, h4, n4, L4, (ra.mono' d3).mono' d4, pj⟩
    | true =>
      refine ⟨ρ2, S3, _, rs2.mono d4, h4, ((f1.trans f2).trans f3).trans f4, pj, fun d' S4 v' H5 f5 h5 r5 q5 => ?_⟩
      obtain ⟨L5, n5⟩ := f5 L _ L4 n4
      have d5 := f5.dle h4
      have dL : Dle H5 (upd H5 L (.lst (vacc ++ [v']))) := dle_lst L5
      have ra5 : RDs N H5 acc vacc := ((ra.mono' d3).mono' d4).mono' d5
      exact ⟨vacc, L5, ra5.length ▸ q5.1, S4, acc ++ [d'], vacc ++ [v'], (((dl.trans d3).trans d4).trans d5).trans dL, Fr.priv (((f2.trans f3).trans f4).trans f5) hL, h5.priv n5 L5 rfl, n5, L2.upd_same,
        (ra5.append (.cons r5 .nil)).mono' dL, q5.2⟩
  · have e : i = xs.length := by omega
    subst e
    rw [List.drop_length, wcomp] at wc
    obtain ⟨hh, wc⟩ := wc
    rw [← hP] at wc
    refine .inl ⟨wk.stops H2 S2 dl h2 hh, k _ _ _ _ ((f1.trans f2).tell fun a o z s => ?_) (h2.tell (m := .lst acc) ⟨vacc, eL, ra⟩) mk_ref (wc L nL)⟩
    exact L2.ne_of_none (f1 a o z s).1 hL
end
section
variable {N : Nm} {T : Tb} {C : Orc} {a b c t : E} {es : Es}
theorem s_nilL : SndL N T C .nil := fun Z X s Ex es F i tk h => by
  simp only [okEs] at h
  split at h
  · exact ⟨by simp only [wXs_def, wEs]; exact ha_nil, rfl, fun kws hk => by
      cases kws with
      | nil => simp only [wXs_def, wEs]; exact hk_nil
      | cons _ _ => cases hk⟩
  · cases h
theorem s_consL (ia : Snd N T C a) (ir : SndL N T C es) : SndL N T C (.cons a es) := fun Z X s Ex xs F i tk h => by
  simp only [okEs] at h
  split at h
  · simp only [Bool.and_eq_true] at h
    obtain ⟨k1, k2, k3⟩ := ir Z X s Ex _ F i tk h.2
    exact ⟨by simp only [wXs_def, wEs]; exact ha_cons (ia Z X s Ex _ F i tk h.1.2).pe k1 h.1.1, by rw [List.all_cons, h.1.1, k2]; rfl, fun kws hk => by
      cases kws with
      | nil => cases hk
      | cons kw kws =>
        rw [List.map_cons] at hk
        obtain ⟨e1, e2⟩ := List.cons.inj hk
        subst e1
        simp only [wXs_def, wEs]
        exact hk_cons (ia Z X s Ex _ F i tk h.1.2).pe (k3 kws e2)⟩
  · cases h
theorem s_seq (ia : Snd N T C a) : SndI N T C (.seq a) := fun Z X s Ex t e F i tk h => by
  simp only [okIt] at h
  simp only [wXi_def, wIt]
  exact hi_seq F.hK (ia Z X s Ex _ F i tk h).pe
theorem s_dks (ia : Snd N T C a) : SndI N T C (.dks a) := fun Z X s Ex t e F i tk h => by
  simp only [okIt] at h
  simp only [wXi_def, wIt]
  exact hi_dks (ia Z X s Ex _ F i tk h).pe
theorem s_dvs (ia : Snd N T C a) : SndI N T C (.dvs a) := fun Z X s Ex t e F i tk h => by
  simp only [okIt] at h
  split at h
  · simp only [Bool.and_eq_true] at h
    obtain ⟨⟨⟨h1, h2⟩, h3⟩, h4⟩ := h
    have e := sEq_ok h1
    subst e
    have w := fun apos cpos hl => hi_dvs (tg := t) (apos := apos) (cpos := cpos) (ia Z X s Ex _ F i tk h4).pe (noSup_ok h2) hl
    simp only [wXi_def, wIt]
    exact w _ _ h3
  · cases h
theorem s_rng (ia : Snd N T C a) : SndI N T C (.rng a) := fun Z X s Ex t e F i tk h => by
  simp only [okIt] at h
  split at h
  · simp only [Bool.and_eq_true] at h
    obtain ⟨⟨⟨⟨h1, h2⟩, h3⟩, h4⟩, h5⟩ := h
    have e := sEq_ok h1
    subst e
    simp only [wXi_def, wIt]
    exact hi_rng (i.gl h2) (isB_ok F h3) (ia Z X s Ex _ F i tk h5).pe h4
  · cases h
theorem s_enm {st : Nat} (ia : Snd N T C a) : SndI N T C (.enm a st) := fun Z X s Ex t e F i tk h => by
  simp only [okIt] at h
  split at h
  · simp only [Bool.and_eq_true, beq_iff_eq] at h
    obtain ⟨⟨⟨⟨⟨h0, h1⟩, h2⟩, h3⟩, h4⟩, h5⟩ := h
    have e := sEq_ok h1
    subst e h0
    simp only [wXi_def, wIt]
    exact hi_enm F.hK (i.gl h2) (isB_ok F h3) (ia Z X s Ex _ F i tk h5).pe h4
  · simp only [Bool.and_eq_true, decide_eq_true_eq] at h
    obtain ⟨⟨⟨⟨⟨⟨⟨h0, hc⟩, hk⟩, h1⟩, h2⟩, h3⟩, h4⟩, h5⟩ := h
    have e := sEq_ok h1
    have ek := sEq_ok hk
    subst e ek hc
    simp only [wXi_def, wIt]
    exact hi_enmK h0 F.hK (i.gl h2) (isB_ok F h3) (ia Z X s Ex _ F i tk h5).pe h4
  · cases h
theorem s_zipT (ia : Snd N T C a) (ib : Snd N T C b) : SndI N T C (.zipT a b) := fun Z X s Ex t e F i tk h => by
  simp only [okIt] at h
  split at h
  · simp only [Bool.and_eq_true] at h
    obtain ⟨⟨⟨⟨⟨⟨h1, h2⟩, h3⟩, h4⟩, h5⟩, h6⟩, h7⟩ := h
    have e := sEq_ok h1
    subst e
    simp only [wXi_def, wIt]
    exact hi_zipT F.hK (i.gl h2) (isB_ok F h3) (ia Z X s Ex _ F i tk h6).pe (ib Z X s Ex _ F i tk h7).pe h4 h5
  · cases h
theorem s_zipU (ia : Snd N T C a) (ib : Snd N T C b) : SndI N T C (.zipU a b) := fun Z X s Ex t e F i tk h => by
  simp only [okIt] at h
  split at h
  · simp only [Bool.and_eq_true] at h
    obtain ⟨⟨⟨⟨⟨⟨⟨hk, h1⟩, h2⟩, h3⟩, h4⟩, h5⟩, h6⟩, h7⟩ := h
    have e := sEq_ok h1
    have ek := sEq_ok hk
    subst e ek
    simp only [wXi_def, wIt]
    exact hi_zipU F.hK (i.gl h2) (isB_ok F h3) (ia Z X s Ex _ F i tk h6).pe (ib Z X s Ex _ F i tk h7).pe h4 h5
  · cases h
theorem s_zip {st : Bool} (ia : Snd N T C a) (ib : Snd N T C b) : SndI N T C (.zip a b st) := fun Z X s Ex t e F i tk h => by
  simp only [okIt] at h
  split at h
  · simp only [Bool.and_eq_true, Bool.not_eq_true'] at h
    obtain ⟨⟨⟨⟨⟨⟨⟨h0, h1⟩, h2⟩, h3⟩, h4⟩, h5⟩, h6⟩, h7⟩ := h
    have e := sEq_ok h1
    subst e h0
    have w := fun pos p tpos elts kk => hi_zip (pos := pos) (p := p) (tpos := tpos) (elts := elts) (kk := kk) F.hK (i.gl h2) (isB_ok F h3) (ia Z X s Ex _ F i tk h6).pe (ib Z X s Ex _ F i tk h7).pe h4 h5
    refine piimp (w _ _ _ _ _) fun σ H R ⟨ρ, S, Qi, rs, rh, fz, q, k⟩ => ⟨ρ, S, Qi, rs, rh, fz, ?_, k⟩
    simpa only [wXi_def, wIt, true_and, hZip, wX_def, Bool.false_eq_true, false_and, and_false, exists_false, exists_const, or_false] using q
  · simp only [Bool.and_eq_true] at h
    obtain ⟨⟨⟨⟨⟨⟨⟨⟨h0, hk⟩, h1⟩, h2⟩, h3⟩, h4⟩, h5⟩, h6⟩, h7⟩ := h
    have e := sEq_ok h1
    have ek := sEq_ok hk
    subst e ek h0
    have w := fun pos p tpos elts kk kp kpos k2 => hi_zipS (pos := pos) (p := p) (tpos := tpos) (elts := elts) (kk := kk) (kp := kp) (kpos := kpos) (k2 := k2) F.hK (i.gl h2) (isB_ok F h3) (ia Z X s Ex _ F i tk h6).pe (ib Z X s Ex _ F i tk h7).pe h4 h5
    refine piimp (w _ _ _ _ _ _ _ _) fun σ H R ⟨ρ, S, Qi, rs, rh, fz, q, k⟩ => ⟨ρ, S, Qi, rs, rh, fz, ?_, k⟩
    simpa only [wXi_def, wIt, true_and, hZipS, wX_def, Bool.true_eq_false, false_and, and_false, exists_false, exists_const, false_or] using q
  · cases h
theorem ifs_cases {s : Sx} {cond : E} {ifs : List Expr} (h : (match ifs with
        | [] => (match cond with
          | .c (.bl true) => true
          | _ => false)
        | [y] => testable y && okE T cond s y
        | _ => false) = true) : (ifs = [] ∧ cond = .c (.bl true)) ∨ ∃ y, ifs = [y] ∧ testable y = true ∧ okE T cond s y = true := by
  cases ifs with
  | nil =>
    refine .inl ⟨rfl, ?_⟩
    dsimp only at h
    split at h
    · rfl
    · cases h
  | cons y r =>
    cases r with
    | nil =>
      simp only [Bool.and_eq_true] at h
      exact .inr ⟨y, rfl, h.1, h.2⟩
    | cons _ _ => cases h
theorem ifs_ok {Z : Sta × Hp} {X : Cx} {s : Sx} {cond : E} {ifs : List Expr} (ic : Snd N T C cond) (F : Fx N T C X) (i : In X s) (h : (ifs = [] ∧ cond = .c (.bl true)) ∨ ∃ y, ifs = [y] ∧ testable y = true ∧ okE T cond s y = true) : PTs X ifs (tT N Z (wX C (fun _ _ _ => False) cond)) := by
  rcases h with ⟨rfl, rfl⟩ | ⟨y, rfl, h1, h2⟩
  · refine ⟨fun pins s σ H Q I ⟨ρ, S, Qx, rs, rh, fz, q, k⟩ => pts_nil.run pins s σ H Q I ?_⟩
    simp only [wX_def, wE] at q
    exact k _ S H Fr.refl rh q
  · exact pts_one ((ic Z X s _ y F i takesF h2).pt h1)
theorem lcOk {Z : Sta × Hp} {X : Cx} {s : Sx} {Ex : D → Env → Sta → Prop} {elt cond : E} {own tg : List Nat} {it : A.It} {x t i : Expr} {ifs : List Expr} {scope : Scope} (ie : Snd N T C elt) (ic : Snd N T C cond) (ii : SndI N T C it) (F : Fx N T C X) (hh : T.hot = false) (iX : In X s) (tk : L2C.Takes X (xOf N Z Ex))
    (h1 : okIt T it s t i = true) (h2 : okTg (s.blk scope) tg t = true) (h3 : blkT s.ns s.sc scope (ownN s.ns own) = true) (h4 : subN tg own = true) (h5 : notSet i = true) (h6 : okE T elt (s.blk scope) x = true)
    (h7 : (ifs = [] ∧ cond = .c (.bl true)) ∨ ∃ y, ifs = [y] ∧ testable y = true ∧ okE T cond (s.blk scope) y = true) : LcOk N Z X x t i ifs scope (ownN s.ns own) tg (wXi C Ex it) (wX C (fun _ _ _ => False) cond) (wX C (fun _ _ _ => False) elt) where
  calm := F.calm hh
  nd := F.nd
  it := ii Z X s Ex t i F iX tk h1
  ok := by rw [iX.ns, iX.sc]; exact blkOk_by (blkT_ok h3).1
  tg := fun sh H Cl cl fp => okTg_ok (X := X.blk sh H scope (compEnvC scope cl Cl X.env) fp) (fun _ => F.calm hh) F.nd (iX.blk (blkT_ok h3).2) h2
  cond := fun sh H Cl cl fp => ifs_ok ic (F.blk hh sh H scope _ fp) (iX.blk (blkT_ok h3).2) h7
  elt := fun sh H Cl cl fp => (ie Z _ (s.blk scope) _ x (F.blk hh sh H scope _ fp) (iX.blk (blkT_ok h3).2) takesF h6).pe
  fold := fold_ok h5 _
  sub := fun j hj => by rw [ownN_snd]; exact subN_ok h4 j hj
def SndR (N : Nm) (T : Tb) (C : Orc) : A.It → Prop
  | .rng a => Snd N T C a
  | _ => True
theorem s_lc {elt cond : E} {own tg : List Nat} {it : A.It} (ie : Snd N T C elt) (ic : Snd N T C cond) (ii : SndI N T C it) (ir : SndR N T C it) : Snd N T C (.lc elt own tg it cond) := fun Z X s Ex e F iX tk h => by
  simp only [okE] at h
  split at h
  · rename_i x t i ifs scope p
    rw [Bool.and_eq_true, Bool.and_eq_true, Bool.and_eq_true, Bool.and_eq_true, Bool.and_eq_true, Bool.and_eq_true, Bool.and_eq_true] at h
    obtain ⟨⟨⟨⟨⟨⟨⟨h0, h1⟩, h2⟩, h3⟩, h4⟩, h5⟩, h6⟩, h7⟩ := h
    cases hh : T.hot with
    | false =>
      have L := lcOk (Z := Z) ie ic ii F hh iX tk h1 h2 h3 h4 h5 h6 (ifs_cases h7)
      have w := fun pos => he_lc (pos := pos) F.hK L
      rw [ownN_snd] at w
      exact J.plain F.hK (by simp only [wX_def, wE]; exact w _) rfl fun _ => rfl
    | true =>
      rw [hh] at h0
      simp only [Bool.not_true, Bool.false_or, Bool.and_eq_true, Bool.not_eq_true'] at h0
      obtain ⟨⟨⟨k1, k2⟩, k3⟩, k4⟩ := h0
      cases it <;> first | (cases k4; done) | skip
      rename_i a
      have ia : Snd N T C a := ir
      simp only [okIt] at h1
      split at h1
      · rename_i f p1 x1 p2
        simp only [Bool.and_eq_true] at h1
        obtain ⟨⟨⟨⟨r1, r2⟩, r3⟩, r4⟩, r5⟩ := h1
        have er := sEq_ok r1
        subst er
        obtain ⟨i0, hi0⟩ := F.pkx k1
        obtain ⟨c, fs, ds, b, z, U, hc⟩ := F.sux i0 hi0
        obtain ⟨oe, L, hz, hd, hk0⟩ := U.pin
        have B : ∀ s0 H0 C1 cl fp, Fx N T C (A.blkH X s0 H0 scope (compEnvC scope cl C1 X.env) fp ((b, oe) :: L)) := fun s0 H0 C1 cl fp => F.blkH hh k2 U hi0 hc hz hd hk0 s0 H0 scope _ fp
        have iB : ∀ s0 H0 C1 cl fp, In (A.blkH X s0 H0 scope (compEnvC scope cl C1 X.env) fp ((b, oe) :: L)) (s.blk scope) := fun s0 H0 C1 cl fp => let j := In.blk (X := X) (scope := scope) (cl := cl) (Cl := C1) (fp := fp) (sh := s0) (H := H0) iX (blkT_ok h3).2; ⟨j.sc, j.ns, j.fn, j.top⟩
        have w := fun pos p1 p2 => he_lcHot (pos := pos) (tg := t) (elt := x) (ifs := ifs) (scope := scope) (own := ownN s.ns own) (is := tg) (wcond := wX C (fun _ _ _ => False) cond) (welt := wX C (fun _ _ _ => False) elt) F.hK hk0 F.nd (hi_rngH (pos := p2) (p := p1) (tg := t) (iX.gl r2) (isB_ok F r3) (ia Z X s Ex _ F iX tk r5).pe r4) (by rw [iX.ns, iX.sc]; exact blkOk_by (blkT_ok h3).1)
          (fun s0 H0 C1 cl fp => okTg_ok (fun e => by rw [k3] at e; cases e) (B s0 H0 C1 cl fp).nd (iB s0 H0 C1 cl fp) h2) (fun s0 H0 C1 cl fp => ifs_ok ic (B s0 H0 C1 cl fp) (iB s0 H0 C1 cl fp) (ifs_cases h7)) (fun s0 H0 C1 cl fp => (ie Z _ (s.blk scope) _ x (B s0 H0 C1 cl fp) (iB s0 H0 C1 cl fp) takesF h6).pe) (fold_ok h5 X.env) (fun j hj => by rw [ownN_snd]; exact subN_ok h4 j hj)
        rw [ownN_snd] at w
        exact J.plain F.hK (by simp only [wX_def, wE, wIt]; exact w _ _ _) rfl fun _ => rfl
      · cases h1
  · cases h
end
theorem Fx.wish {N : Nm} {T : Tb} {C : Orc} {X : Cx} (F : Fx N T C X) (hh : T.hot = false) (E : Value → Shared → Prop) : Fx N T C (X.wish E) where
  hK := F.hK
  u := F.u
  glob := fun x g h => by
    have q := F.glob x g h
    cases g <;> exact q
  blt := F.blt
  call := F.call
  kcall := F.kcall
  fvs := F.fvs
  own := F.own
  ownh := F.ownh
  ofl := F.ofl
  news := F.news
  meths := F.meths
  owns := F.owns
  xcs := F.xcs
  calm := F.calm
  nd := F.nd
  room := F.room
  cold := F.cold
  raise := F.raise
  exm := F.exm
  iss := F.iss
  flds := F.flds
  xc := F.xc
  xvs := F.xvs
  sux := fun j e => by rw [F.hotx hh] at e; cases e
  hotx := F.hotx
  roomh := F.roomh
  pkx := F.pkx
  hots := F.hots
theorem s_lcx {N : Nm} {T : Tb} {C : Orc} {elt cond : E} {own tg : List Nat} {it : A.It} (ie : Snd N T C elt) (ic : Snd N T C cond) (ii : SndI N T C it) : Snd N T C (.lcx elt own tg it cond) := fun Z X s Ex e F iX tk h => by
  simp only [okE] at h
  split at h
  · rename_i x t i ifs scope p
    rw [Bool.and_eq_true, Bool.and_eq_true, Bool.and_eq_true, Bool.and_eq_true, Bool.and_eq_true, Bool.and_eq_true, Bool.and_eq_true, Bool.and_eq_true, Bool.not_eq_true'] at h
    obtain ⟨⟨⟨⟨⟨⟨⟨⟨hh, ht⟩, h1⟩, h2⟩, h3⟩, h4⟩, h5⟩, h6⟩, h7⟩ := h
    have h7 := ifs_cases h7
    obtain ⟨k1, k2⟩ := iX.top ht
    have w : PE X (.ListComp x [⟨t, i, ifs, 0⟩] scope p) (tOf N Z (hLcX (wXi C Ex it) tg own (wX C (fun _ _ _ => False) cond) fun ρ => wX C (fun x _ S' => Ex x ρ S') elt)) := by
      refine ⟨fun pins s0 σ H Q I z => ?_⟩
      obtain ⟨ρ, S, rs, rh, fz, z⟩ := lcx_at F.hK (fun j hj => subN_ok h4 j hj) σ H Q z
      rw [eval_ListComp]
      refine lc_err (own := ownN s.ns own) (W := xOf N Z Ex) (W' := xOf N (S, H) fun x _ S' => Ex x ρ S') (F.calm hh) k1 k2 F.nd I (ii Z X s Ex t i F iX tk h1) (by rw [iX.ns, iX.sc]; exact blkOk_by (blkT_ok h3).1) tk (fun cls d σ' H' ⟨y, ρ', S', _, rh', fz', xd, ex⟩ => ⟨y, ρ, S', rs.mono (fz'.dle rh), rh', fz.trans fz', xd, ex⟩)
        (fun s0 H0 C1 cl fp => okTg_ok (X := X.blk s0 H0 scope (compEnvC scope cl C1 X.env) fp) (fun _ => F.calm hh) F.nd (iX.blk (blkT_ok h3).2) h2) (fun s0 H0 C1 cl fp => ifs_ok ic (F.blk hh s0 H0 scope _ fp) (iX.blk (blkT_ok h3).2) h7)
        (fun s0 H0 C1 cl fp tkb => ?_) (fold_ok h5 X.env) (by rw [ownN_snd]; exact z)
      have iB : In (X.blk s0 H0 scope (compEnvC scope cl C1 X.env) fp) (s.blk scope) := iX.blk (blkT_ok h3).2
      exact (ie (S, H) ((X.blk s0 H0 scope (compEnvC scope cl C1 X.env) fp).wish (errB X (compEnvC scope cl C1 X.env))) (s.blk scope) (fun x _ S' => Ex x ρ S') x ((F.blk hh s0 H0 scope _ fp).wish hh (errB X (compEnvC scope cl C1 X.env))) ⟨iB.sc, iB.ns, iB.fn, iB.top⟩ tkb h6).pe
    exact J.plain F.hK (by simp only [wX_def, wE]; exact w) rfl fun _ => rfl
  · cases h
theorem s_mkf {N : Nm} {T : Tb} {C : Orc} {c n : Nat} {fs : List Nat} {src : List (Sum Nat D)} {es : Es} (ie : SndL N T C es) : Snd N T C (.mkf c fs src es n) := fun Z X s Ex e F i tk h => by
  simp only [okE] at h
  split at h
  · rename_i x p xs cp f pos
    simp only [Bool.and_eq_true, Bool.not_eq_true', decide_eq_true_eq] at h
    obtain ⟨⟨⟨⟨⟨⟨⟨⟨h0, h2⟩, h3⟩, h4⟩, h5⟩, h6⟩, h8⟩, h9, h10⟩, h7⟩ := h
    obtain ⟨k1, k2, _⟩ := ie Z X s Ex xs F i tk h7
    obtain ⟨n1, _, _⟩ := okName_ok h4
    have hm : X.mg x = some (.ref (N.ca c)) := by
      unfold Tb.isK at h2
      split at h2
      · rename_i e he
        have := F.glob _ _ (sLook_ok he)
        rw [beq_iff_eq.mp h2]
        exact this
      · cases h2
    have l1 := es_len _ _ h7
    have hcx : c ∈ T.xcls := by simpa using h9
    obtain ⟨e1, e2⟩ := F.flds _ _ (hasFld_ok h8)
    refine J.plain F.hK ?_ rfl fun _ => rfl
    simp only [wX_def, wE, l1]
    exact he_mkf (ws := fun Ex => wXs C Ex es) tk (F.raise _ _ _ _ (hasR_ok h5)) (F.room h0) (i.gl h3) hm n1 k1 k2 (by omega) (fun e => by
      subst e
      cases es with
      | nil => exact ⟨rfl, fun ρ S Q q => by simpa only [wXs_def, wEs] using q⟩
      | cons _ _ => simp only [okEs] at h7; cases h7) (F.xc c hcx).2.1 (e2 c hcx) e1 (noSup_ok h10)
  · cases h
theorem s_ff {N : Nm} {T : Tb} {C : Orc} {ir : E} (h0 : ∀ s e, okE T ir s e = false) : Snd N T C ir := fun Z X s Ex e F i tk h => by rw [h0] at h; cases h
section
variable (N : Nm) (T : Tb) (C : Orc)
mutual
theorem sE : ∀ ir : E, Snd N T C ir
  | .nev => s_nev
  | .lcx a _ _ it c => s_lcx (sE a) (sE c) (sI it)
  | .mxk _ _ => s_ff fun s e => by simp only [okE]
  | .mkf _ _ _ es _ => s_mkf (sEs es)
  | .shw _ => s_ff fun s e => by simp only [okE]
  | .callG _ _ _ => s_ff fun s e => by simp only [okE]
  | .v _ => s_v
  | .c _ => s_c
  | .bin _ a b => s_bin (sE a) (sE b)
  | .neg a => s_neg (sE a)
  | .not a => s_not (sE a)
  | .and a b => s_and (sE a) (sE b)
  | .or a b => s_or (sE a) (sE b)
  | .cmp _ a b => s_cmp (sE a) (sE b)
  | .chn a _ b _ c => s_chn (sE a) (sE b) (sE c)
  | .cmpD _ a b => s_cmpD (sE a) (sE b)
  | .chn3 a _ b _ c _ d => s_chn3 (sE a) (sE b) (sE c) (sE d)
  | .ite t a b => s_ite (sE t) (sE a) (sE b)
  | .tup es => s_tup (sEs es)
  | .lst es => s_lst (sEs es)
  | .ix a b => s_ix (sE a) (sE b)
  | .sl a b c => s_sl (sE a) (sE b) (sE c)
  | .b1 _ a => s_b1 (sE a)
  | .b1s _ a => s_b1s (sE a)
  | .lock a => s_lock (sE a)
  | .b2 _ a b => s_b2 (sE a) (sE b)
  | .bm _ o es => s_bm (sE o) (sEs es)
  | .isi a _ => s_isi (sE a)
  | .call _ _ es => s_call (sEs es)
  | .callk _ _ es ks => s_callk (sEs es) (sEs ks)
  | .lc elt _ _ it cond => s_lc (sE elt) (sE cond) (sI it) (sR it)
  | .xis _ _ => s_xis
  | .xfl _ _ => s_xfl
  | .hot _ _ _ => s_hot
  | .dct es => s_dct (sDp es)
  | .gix _ a => s_gix (sE a)
  | .gget _ a b => s_gget (sE a) (sE b)
  | .at a _ => s_at (sE a)
  | .callv _ a es => s_callv (sE a) (sEs es)
  | .new _ _ _ es ks => s_new (sEs es) (sEs ks)
  | .meth o _ _ es ks => s_meth (sE o) (sEs es) (sEs ks)
  | .fs es => s_fs (sFs es)
  | .nil => fun _ _ _ _ _ _ _ _ h => by simp only [okE] at h; cases h
theorem sEs : ∀ ir : Es, SndL N T C ir
  | .nil => s_nilL
  | .cons a r => s_consL (sE a) (sEs r)
theorem sFs : ∀ ir : Es, SndF N T C ir
  | .nil => s_nilF
  | .cons a r => s_consF (sE a) (sFs r)
theorem sDp : ∀ ir : Es, SndD N T C ir
  | .nil => s_nilD
  | .cons a .nil => s_oneD
  | .cons a (.cons b r) => s_consD (sE a) (sE b) (sDp r)
theorem sI : ∀ ir : A.It, SndI N T C ir
  | .seq a => s_seq (sE a)
  | .rng a => s_rng (sE a)
  | .dks a => s_dks (sE a)
  | .dvs a => s_dvs (sE a)
  | .enm a _ => s_enm (sE a)
  | .zip a b _ => s_zip (sE a) (sE b)
  | .zipT a b => s_zipT (sE a) (sE b)
  | .zipU a b => s_zipU (sE a) (sE b)
theorem sR : ∀ ir : A.It, SndR N T C ir
  | .rng a => sE a
  | .seq _ => trivial
  | .dks _ => trivial
  | .dvs _ => trivial
  | .enm _ _ => trivial
  | .zip _ _ _ => trivial
  | .zipT _ _ => trivial
  | .zipU _ _ => trivial
end
end
def notComp : Expr → Bool
  | .ListComp _ _ _ _ => false
  | .SetComp _ _ _ _ => false
  | .DictComp _ _ _ _ _ => false
  | _ => true
def isTup : Expr → Bool
  | .Tuple _ _ _ => true
  | _ => false
def isName : Expr → Bool
  | .Name _ _ => true
  | _ => false
theorem swaps_not {v : Expr} (h : notComp v = true) (t : Option Expr) (l : Nat) (env : PySem.Env) : swapsWith v t l env = pure false := by
  cases v <;> first | rfl | cases h
def pairT (T : Tb) (x y : Str) (cs : List (Nat × Bool)) : Bool := match sLook x T.exms, sLook y T.exms with
  | some l, some m => cs.all fun p => p.2 && (match l.lookup p.1, m.lookup p.1 with
    | some a, some b => a || b
    | _, _ => false)
  | _, _ => false
theorem pairT_ok {T : Tb} {x y : Str} {cs : List (Nat × Bool)} (h : pairT T x y cs = true) : ∃ l m, (x, l) ∈ T.exms ∧ (y, m) ∈ T.exms ∧ ∀ c b, cs.lookup c = some b → b = true ∧ ∃ u v, l.lookup c = some u ∧ m.lookup c = some v ∧ (u || v) = true := by
  unfold pairT at h
  split at h
  · rename_i l m e1 e2
    refine ⟨l, m, sLook_ok e1, sLook_ok e2, fun c b e => ?_⟩
    clear e1 e2
    induction cs with
    | nil => simp at e
    | cons p r ih =>
      obtain ⟨c', b'⟩ := p
      simp only [List.all_cons, Bool.and_eq_true] at h
      simp only [List.lookup] at e
      split at e
      · rename_i hb
        cases e
        have hc := beq_iff_eq.mp hb
        subst hc
        obtain ⟨⟨h1, h2⟩, _⟩ := h
        refine ⟨h1, ?_⟩
        split at h2
        · rename_i u v e3 e4
          exact ⟨u, v, e3, e4, h2⟩
        · cases h2
      · exact ih h.2 e
  · cases h
def okRf (T : Tb) (i c : Nat) (fs : List Nat) (src : List (Sum Nat D)) (es : Es) (s : Sx) (n m y : Str) (xs : List Expr) : Bool :=
  nsAt s.ns i n && (match s.sc.names.lookup n with
    | some .local => true
    | _ => false) && (sEq n m && okName n && s.vis n) && (T.isK y c && s.gl y && okName y && T.hasR c xs.length fs src && decide (xs.length < 1000))
mutual
def okS : Tb → S → Sx → Stmt → Bool
  | T, .nev, _, _ => true
  | T, .asg t e, s, st => (match t, st with
    | .n is, .Assign [tg] v sp => (match e, v with
      | .lc elt own tgs it cond, .ListComp x [⟨t, i, ifs, 0⟩] scope p => (match tg with
        | .Name y py => (match is with
          | [j] => (nsAt s.ns j y && (match s.sc.names.lookup y with
              | some .local => true
              | _ => false) && py.line == p.line && !(scope.names.any fun (n, k) => n == y && (k == .local || k == .cell)) && !T.hot && okE T e s v) ||
            ((match s.sc.names.lookup y with
              | some .cell => true
              | _ => false) && !T.hot && okTg s is tg && okE T e s v)
          | _ => false)
        | _ => false)
      | _, _ => notComp v && (isName tg || !isTup v) && (isNameE tg || !T.hot) && okTg s is tg && okE T e s v)
    | .vix j a i, .Assign [.Tuple [.Name z _, .Subscript x y _] _ _] v sp => !T.hot && notComp v && !isTup v && plainIx y && nsAt s.ns j z && s.loc z && okE T e s v && okE T a s x && okE T i s y
    | .ix a i, .Assign [.Subscript x y _] v sp => notComp v && plainIx y && okE T e s v && okE T a s x && okE T i s y
    | .at a n, .Assign [.Attribute x f _] v sp => notComp v && T.hasOF n f && okE T e s v && okE T a s x
    | _, _ => false)
  | T, .par i j a b, s, st => (match st with
    | .Assign [.Tuple [.Name x px, .Name y py] _ _] (.Tuple [u, v] _ _) _ => !T.hot && i != j && nsAt s.ns i x && nsAt s.ns j y && px.line == py.line && (match s.sc.names.lookup x with
        | some .local => true
        | _ => false) && (match s.sc.names.lookup y with
        | some .local => true
        | _ => false) && parOk u v && okE T a s u && okE T b s v
    | _ => false)
  | T, .asgL is e, s, st => (match st with
    | .Assign [.Tuple xs _ _] (.ListComp x g sc p) _ => !T.hot && okTg.okTgs s is xs && okE T e s (.ListComp x g sc p)
    | .Assign [.Tuple xs _ _] (.Name y p) _ => !T.hot && okTg.okTgs s is xs && okE T e s (.Name y p)
    | _ => false)
  | T, .aug o i e, s, st => (match st with
    | .AugAssign (.Name x _) op v _ => T.xv != some i && boEq o op && nsAt s.ns i x && s.loc x && okE T e s v
    | _ => false)
  | T, .augI o a i e, s, st => (match st with
    | .AugAssign (.Subscript x y _) op v _ => boEq o op && plainIx y && okE T a s x && okE T i s y && okE T e s v
    | _ => false)
  | T, .augA o a n e, s, st => (match st with
    | .AugAssign (.Attribute x f _) op v _ => boEq o op && T.hasOF n f && okE T a s x && okE T e s v
    | _ => false)
  | T, .ex e, s, st => (match st with
    | .Expr v _ => notComp v && okE T e s v
    | _ => false)
  | T, .ret e, s, st => (match st with
    | .Return (some v) _ => okE T e s v
    | _ => false)
  | T, .retN, s, st => (match st with
    | .Return none _ => true
    | _ => false)
  | T, .ite t a b, s, st => (match st with
    | .If v x y _ => testable v && okE T t s v && okSs T a s x && okSs T b s y
    | _ => false)
  | T, .whl t b, s, st => (match st with
    | .While v x [] _ => testable v && okE T t s v && okSs T b s x
    | _ => false)
  | T, .for_ t it b, s, st => (match t, st with
    | .n is, .For tg v x [] _ => !T.hot && okIt T it s tg v && okTg s is tg && notSet v && okSs T b s x
    | _, _ => false)
  | T, .lock a, s, st => okS T a s st
  | _, .rpl _ _ _ _, _, _ => false
  | T, .pass, s, st => (match st with
    | .Pass _ => true
    | _ => false)
  | T, .brk, s, st => (match st with
    | .Break _ => true
    | _ => false)
  | T, .cont, s, st => (match st with
    | .Continue _ => true
    | _ => false)
  | T, .raise c fs src es frm, s, st => (match st with
    | .Raise (some (.Call (.Name x _) xs [] _)) none _ => !T.hot && !frm && T.isK x c && s.gl x && okName x && T.hasR c xs.length fs src && xs.length < 1000 && okEs T es s xs
    | _ => false)
  | T, .try_ b hs, s, st => (match st with
    | .Try body (h :: r) [] [] _ => !T.hot && okSs T b s body && okHs T hs s (h :: r)
    | _ => false)
def okHs : Tb → Hs → Sx → List ExceptHandler → Bool
  | T, .nil, _, l => (match l with
    | [] => true
    | _ => false)
  | T, .cons cs i b r, s, l => (match l with
    | .ExceptHandler (some (.Name x _)) nm (b0 :: suite) _ :: hs => hasL T.exms x cs && s.gl x && okName x && (match i, nm with
        | none, none => true
        | some i, some n => nsAt s.ns i n && (match s.sc.names.lookup n with
          | some .local => true
          | _ => false)
        | _, _ => false) && okSs (T.suite i) b s (b0 :: suite) && okHs T r s hs
    | .ExceptHandler (some (.Tuple [.Name x _, .Name y _] _ _)) nm (b0 :: suite) _ :: hs => (pairT T x y cs && s.gl x && okName x && s.gl y && okName y) && (match i, nm with
        | none, none => true
        | some i, some n => nsAt s.ns i n && (match s.sc.names.lookup n with
          | some .local => true
          | _ => false)
        | _, _ => false) && okSs (T.suite i) b s (b0 :: suite) && okHs T r s hs
    | _ => false)
  | T, .rfr cs i c fs src es r, s, l => (match l with
    | .ExceptHandler (some (.Name x _)) (some n) [.Raise (some (.Call (.Name y _) xs [] _)) (some (.Name m _)) _] _ :: hs => (hasL T.exms x cs && s.gl x && okName x) && okRf T i c fs src es s n m y xs && okEs (T.suite (some i)) es s xs && okHs T r s hs
    | .ExceptHandler (some (.Tuple [.Name x _, .Name x2 _] _ _)) (some n) [.Raise (some (.Call (.Name y _) xs [] _)) (some (.Name m _)) _] _ :: hs => (pairT T x x2 cs && s.gl x && okName x && s.gl x2 && okName x2) && okRf T i c fs src es s n m y xs && okEs (T.suite (some i)) es s xs && okHs T r s hs
    | _ => false)
def okSs : Tb → Ss → Sx → List Stmt → Bool
  | _, .nil, _, l => (match l with
    | [] => true
    | _ => false)
  | T, .cons a r, s, l => (match l with
    | x :: xs => okS T a s x && okSs T r s xs
    | [] => false)
end
section
variable {N : Nm} {T : Tb} {C : Orc}
def SndS (N : Nm) (T : Tb) (C : Orc) (ir : S) : Prop := ∀ (Z : Sta × Hp) (X : Cx) (s : Sx) (Ex : D → Env → Sta → Prop) (st : Stmt), Fx N T C X → In X s → L2C.PassX X → FnX X → L2C.Takes X (xOf N Z Ex) → okS T ir s st = true → PS X st (tSs N Z Ex (wS C ir))
def SndSs (N : Nm) (T : Tb) (C : Orc) (ir : Ss) : Prop := ∀ (Z : Sta × Hp) (X : Cx) (s : Sx) (Ex : D → Env → Sta → Prop) (st : List Stmt), Fx N T C X → In X s → L2C.PassX X → FnX X → L2C.Takes X (xOf N Z Ex) → okSs T ir s st = true → PSs X st (tSs N Z Ex (wB C ir))
variable {a b c e t : E} {sa sb : Ss} {it : A.It}
theorem t_asg {tg : Tg} : SndS N T C (.asg tg e) := fun Z X s Ex st F i hp hk tk h => by
  simp only [okS] at h
  split at h
  · rename_i is t v sp
    split at h
    · rename_i elt own tgs it cond x t' i' ifs scope p
      split at h
      · rename_i y py
        split at h
        · rename_i j
          rw [Bool.or_eq_true] at h
          rcases h with h | h
          rotate_left
          · rw [Bool.and_eq_true, Bool.and_eq_true, Bool.and_eq_true, Bool.not_eq_true'] at h
            obtain ⟨⟨⟨h1, h0⟩, h2⟩, h3⟩ := h
            have hl : X.env.scope.names.lookup y = some .cell := by
              rw [i.sc]
              split at h1
              · assumption
              · cases h1
            have hs : swapsWithSole [.Name y py] (.ListComp x [⟨t', i', ifs, 0⟩] scope p) sp.line X.env = pure false := by
              have ky : X.env.kindOf y = some .cell := hl
              unfold swapsWithSole swapsWith
              simp only [ky]
              have z : (NameKind.cell == NameKind.local) = false := by decide
              simp [z]
            simp only [wS, wTg]
            exact hs_asgN (we := fun Ex => wX C Ex _) F.hK (sE N T C _ Z X s Ex _ F i tk h3).pe (okTg_ok (fun _ => F.calm h0) F.nd i h2) hs rfl rfl
          simp only [Bool.and_eq_true, beq_iff_eq, Bool.not_eq_true'] at h
          obtain ⟨⟨⟨⟨⟨h1, h2⟩, h3⟩, h4⟩, g0⟩, h5⟩ := h
          simp only [okE] at h5
          rw [Bool.and_eq_true, Bool.and_eq_true, Bool.and_eq_true, Bool.and_eq_true, Bool.and_eq_true, Bool.and_eq_true, Bool.and_eq_true] at h5
          obtain ⟨⟨⟨⟨⟨⟨⟨_, g1⟩, g2⟩, g3⟩, g4⟩, g5⟩, g6⟩, g7⟩ := h5
          have L := lcOk (Z := Z) (Ex := Ex) (sE N T C elt) (sE N T C cond) (sI N T C it) F g0 i tk g1 g2 g3 g4 g5 g6 (ifs_cases g7)
          have hl : X.env.scope.names.lookup y = some .local := by
            rw [i.sc]
            split at h2
            · assumption
            · cases h2
          have w := hs_asgLc (Ex := Ex) (wi := fun Ex => wXi C Ex it) F.hK L (i := j) (py := py) (pos := p) (spos := sp) (by rw [i.ns]; exact nsAt_ok h1) hl (sw_true hk.1 hl (by rw [h3]; simp) h4)
          rw [ownN_snd] at w
          simp only [wS, wTg, wE]
          exact w
        · cases h
      · cases h
    · simp only [Bool.and_eq_true, Bool.or_eq_true, Bool.not_eq_true'] at h
      obtain ⟨⟨⟨⟨h1, h2⟩, h0⟩, h3⟩, h4⟩ := h
      have hg := okTg_ok (fun e => F.calm (h0.elim (fun z => by rw [e] at z; cases z) id)) F.nd i h3
      have he := (sE N T C e Z X s Ex v F i tk h4).pe
      have hs : swapsWithSole [t] v sp.line X.env = pure false := swaps_not h1 _ _ _
      have hw : swappedStores [t] v X.env = pure none := by
        rcases h2 with h2 | h2
        · cases t <;> first | rfl | cases h2
        · cases v <;> first | (cases t <;> rfl) | cases h2
      have h1' : (assignEach [t] X.env).map (·.2) = [assign t X.env] := by
        cases t <;> first | rfl | (match is, h3 with | [], h3 => cases h3 | [_], h3 => cases h3 | _ :: _ :: _, h3 => cases h3)
      simp only [wS, wTg]
      exact hs_asgN (we := fun Ex => wX C Ex e) F.hK he hg hs hw h1'
  · rename_i j' a' i' z pz x y pp kt pt v sp
    simp only [Bool.and_eq_true, Bool.not_eq_true'] at h
    obtain ⟨⟨⟨⟨⟨⟨⟨⟨h0, h1⟩, h2⟩, h3⟩, h4⟩, h5⟩, h6⟩, h7⟩, h8⟩ := h
    obtain ⟨l1, l2⟩ := i.loc h5
    simp only [wS, wTg]
    exact hs_vix (we := fun Ex => wX C Ex e) (wa := fun Ex => wX C Ex a') (wb := fun Ex => wX C Ex i') F.hK F.u1 (F.calm h0) F.nd (by rw [i.ns]; exact nsAt_ok h4) l1 l2 (sE N T C e Z X s Ex v F i tk h6).pe (sE N T C a' Z X s Ex x F i tk h7).pe (sE N T C i' Z X s Ex y F i tk h8).pe h3
      (fun es k p e => by rw [e] at h2; cases h2) (swaps_not h1 _ _ _) (by first | rfl | (cases v <;> first | rfl | cases h1))
  · rename_i a' i' x y p v sp
    simp only [Bool.and_eq_true] at h
    obtain ⟨⟨⟨⟨h1, h2⟩, h3⟩, h4⟩, h5⟩ := h
    simp only [wS, wTg]
    exact hs_asgI (we := fun Ex => wX C Ex e) (wa := fun Ex => wX C Ex a') (wb := fun Ex => wX C Ex i') F.u1 (sE N T C e Z X s Ex v F i tk h3).pe (sE N T C a' Z X s Ex x F i tk h4).pe (sE N T C i' Z X s Ex y F i tk h5).pe h2
  · rename_i a' n x f p v sp
    simp only [Bool.and_eq_true] at h
    obtain ⟨⟨⟨h1, h2⟩, h3⟩, h4⟩ := h
    simp only [wS, wTg]
    exact hs_asgA (we := fun Ex => wX C Ex e) (wa := fun Ex => wX C Ex a') (F.ofl _ _ (hasOF_ok h2)) (sE N T C e Z X s Ex v F i tk h3).pe (sE N T C a' Z X s Ex x F i tk h4).pe (swaps_not h1 _ _ _)
  · cases h
theorem t_lock {sa : A.S} (ia : SndS N T C sa) : SndS N T C (.lock sa) := fun Z X s Ex st F i hp hk tk h => by
  simp only [okS] at h
  simp only [wS]
  exact hs_lock2 (w := wS C sa) (ia Z X s Ex _ F i hp hk tk h)
theorem t_augA {o : Bo} {n : Nat} : SndS N T C (.augA o a n e) := fun Z X s Ex st F i hp hk tk h => by
  simp only [okS] at h
  split at h
  · simp only [Bool.and_eq_true] at h
    obtain ⟨⟨⟨h1, h2⟩, h3⟩, h4⟩ := h
    rw [boEq_ok h1]
    simp only [wS]
    exact hs_augA (we := fun Ex => wX C Ex e) (wa := fun Ex => wX C Ex a) (F.ofl _ _ (hasOF_ok h2)) (sE N T C e Z X s Ex _ F i tk h4).pe (sE N T C a Z X s Ex _ F i tk h3).pe
  · cases h
theorem t_asgL {is : List Nat} : SndS N T C (.asgL is e) := fun Z X s Ex st F i hp hk tk h => by
  simp only [okS] at h
  split at h
  · simp only [Bool.and_eq_true, Bool.not_eq_true'] at h
    obtain ⟨⟨h0, h1⟩, h2⟩ := h
    have he := (sE N T C e Z X s Ex _ F i tk h2).pe
    obtain ⟨g1, g2, g3, g4⟩ := okTgs_ok F.nd i h1
    simp only [wS]
    exact hs_asgL (we := fun Ex => wX C Ex e) F.hK he (pg_lst (F.calm h0) g1 g2 g3) rfl rfl rfl
  · simp only [Bool.and_eq_true, Bool.not_eq_true'] at h
    obtain ⟨⟨h0, h1⟩, h2⟩ := h
    have he := (sE N T C e Z X s Ex _ F i tk h2).pe
    obtain ⟨g1, g2, g3, g4⟩ := okTgs_ok F.nd i h1
    simp only [wS]
    exact hs_asgL (we := fun Ex => wX C Ex e) F.hK he (pg_lst (F.calm h0) g1 g2 g3) rfl rfl rfl
  · cases h
theorem t_par {j l : Nat} : SndS N T C (.par j l a b) := fun Z X s Ex st F i hp hk tk h => by
  simp only [okS] at h
  split at h
  · rename_i x px y py kt pt u v k2 pt2 sp
    rw [Bool.and_eq_true, Bool.and_eq_true, Bool.and_eq_true, Bool.and_eq_true, Bool.and_eq_true, Bool.and_eq_true, Bool.and_eq_true, Bool.and_eq_true, Bool.and_eq_true, Bool.not_eq_true'] at h
    obtain ⟨⟨⟨⟨⟨⟨⟨⟨⟨h0, h1⟩, h2⟩, h3⟩, h4⟩, h5⟩, h6⟩, h7⟩, h8⟩, h9⟩ := h
    have hx : X.env.scope.names.lookup x = some .local := by
      rw [i.sc]
      split at h5
      · assumption
      · cases h5
    have hy : X.env.scope.names.lookup y = some .local := by
      rw [i.sc]
      split at h6
      · assumption
      · cases h6
    simp only [bne_iff_ne, ne_eq, beq_iff_eq] at h1 h4
    simp only [wS]
    exact hs_par (we := fun Ex => wX C Ex a) (wf := fun Ex => wX C Ex b) (F.calm h0) F.nd (by rw [i.ns]; exact nsAt_ok h2) (by rw [i.ns]; exact nsAt_ok h3) h1 hk.1 hx hy h4 h7 (sE N T C a Z X s Ex _ F i tk h8).pe (sE N T C b Z X s Ex _ F i tk h9).pe
  · cases h
theorem t_aug {o : Bo} {j : Nat} : SndS N T C (.aug o j e) := fun Z X s Ex st F i hp hk tk h => by
  simp only [okS] at h
  split at h
  · simp only [Bool.and_eq_true, bne_iff_ne, ne_eq] at h
    obtain ⟨⟨⟨⟨h0, h1⟩, h2⟩, h3⟩, h4⟩ := h
    obtain ⟨l1, l2⟩ := i.loc h3
    rw [boEq_ok h1]
    simp only [wS]
    exact hs_aug (we := fun Ex => wX C Ex e) (F.noX h0) F.nd (by rw [i.ns]; exact nsAt_ok h2) l1 l2 (sE N T C e Z X s Ex _ F i tk h4).pe
  · cases h
theorem t_augI {o : Bo} : SndS N T C (.augI o a b e) := fun Z X s Ex st F i hp hk tk h => by
  simp only [okS] at h
  split at h
  · simp only [Bool.and_eq_true] at h
    obtain ⟨⟨⟨⟨h1, h2⟩, h3⟩, h4⟩, h5⟩ := h
    rw [boEq_ok h1]
    simp only [wS]
    exact hs_augI (we := fun Ex => wX C Ex e) (wa := fun Ex => wX C Ex a) (wb := fun Ex => wX C Ex b) F.u1 (sE N T C a Z X s Ex _ F i tk h3).pe (sE N T C b Z X s Ex _ F i tk h4).pe (sE N T C e Z X s Ex _ F i tk h5).pe h2
  · cases h
theorem t_ex : SndS N T C (.ex e) := fun Z X s Ex st F i hp hk tk h => by
  simp only [okS] at h
  split at h
  · simp only [Bool.and_eq_true] at h
    simp only [wS]
    exact hs_ex (we := fun Ex => wX C Ex e) (sE N T C e Z X s Ex _ F i tk h.2).pe (swaps_not h.1 _ _ _)
  · cases h
theorem t_ret : SndS N T C (.ret e) := fun Z X s Ex st F i hp hk tk h => by
  simp only [okS] at h
  split at h
  · simp only [wS]
    exact hs_ret (we := fun Ex => wX C Ex e) (sE N T C e Z X s Ex _ F i tk h).pe
  · cases h
theorem t_retN : SndS N T C .retN := fun Z X s Ex st F i hp hk tk h => by
  simp only [okS] at h
  split at h
  · simp only [wS]
    exact hs_retN
  · cases h
theorem t_pass : SndS N T C .pass := fun Z X s Ex st F i hp hk tk h => by
  simp only [okS] at h
  split at h
  · simp only [wS]
    exact hs_pass
  · cases h
theorem t_brk : SndS N T C .brk := fun Z X s Ex st F i hp hk tk h => by
  simp only [okS] at h
  split at h
  · simp only [wS]
    exact hs_brk
  · cases h
theorem t_cont : SndS N T C .cont := fun Z X s Ex st F i hp hk tk h => by
  simp only [okS] at h
  split at h
  · simp only [wS]
    exact hs_cont
  · cases h
theorem t_ite (ia : SndSs N T C sa) (ib : SndSs N T C sb) : SndS N T C (.ite t sa sb) := fun Z X s Ex st F i hp hk tk h => by
  simp only [okS] at h
  split at h
  · simp only [Bool.and_eq_true] at h
    obtain ⟨⟨⟨h1, h2⟩, h3⟩, h4⟩ := h
    simp only [wS]
    exact hs_ite (wt := fun Ex => wX C Ex t) ((sE N T C t Z X s Ex _ F i tk h2).pt h1) (ia Z X s Ex _ F i hp hk tk h3) (ib Z X s Ex _ F i hp hk tk h4)
  · cases h
theorem t_whl (ia : SndSs N T C sa) : SndS N T C (.whl t sa) := fun Z X s Ex st F i hp hk tk h => by
  simp only [okS] at h
  split at h
  · simp only [Bool.and_eq_true] at h
    obtain ⟨⟨h1, h2⟩, h3⟩ := h
    simp only [wS]
    exact hs_whl (wt := fun Ex => wX C Ex t) hp.own ((sE N T C t Z X s Ex _ F i tk h2).pt h1) (ia Z X s Ex _ F i hp hk tk h3)
  · cases h
theorem t_for {tg : Tg} (ia : SndSs N T C sa) : SndS N T C (.for_ tg it sa) := fun Z X s Ex st F i hp hk tk h => by
  simp only [okS] at h
  split at h
  · simp only [Bool.and_eq_true, Bool.not_eq_true'] at h
    obtain ⟨⟨⟨⟨h0, h1⟩, h2⟩, h3⟩, h4⟩ := h
    simp only [wS, wTg]
    exact hs_for (wi := fun Ex => wXi C Ex it) F.hK hp.own (F.calm h0) (sI N T C it Z X s Ex _ _ F i tk h1) (okTg_ok (fun _ => F.calm h0) F.nd i h2) (ia Z X s Ex _ F i hp hk tk h4) (fold_ok h3 _)
  · cases h
theorem t_raise {c : Nat} {fs : List Nat} {src : List (Sum Nat D)} {es : Es} {frm : Bool} : SndS N T C (.raise c fs src es frm) := fun Z X s Ex st F i hp hk tk h => by
  simp only [okS] at h
  split at h
  · rename_i x p1 xs cpos pos
    simp only [Bool.and_eq_true, Bool.not_eq_true', decide_eq_true_eq] at h
    obtain ⟨⟨⟨⟨⟨⟨⟨h0, h1⟩, h2⟩, h3⟩, h4⟩, h5⟩, h6⟩, h7⟩ := h
    obtain ⟨k1, k2, _⟩ := sEs N T C es Z X s Ex xs F i tk h7
    obtain ⟨n1, _, _⟩ := okName_ok h4
    have hm : X.mg x = some (.ref (N.ca c)) := by
      unfold Tb.isK at h2
      split at h2
      · rename_i e he
        have := F.glob _ _ (sLook_ok he)
        rw [beq_iff_eq.mp h2]
        exact this
      · cases h2
    have l1 := es_len _ _ h7
    simp only [wS, l1]
    exact hs_raise (ws := fun Ex => wXs C Ex es) F.hK (F.calm h0) tk (F.raise _ _ _ _ (hasR_ok h5)) (F.room h0) (i.gl h3) hm n1 k1 k2 (by omega) fun e => by
      subst e
      cases es with
      | nil => exact ⟨rfl, fun ρ S Q q => by simpa only [wXs_def, wEs] using q⟩
      | cons _ _ => simp only [okEs] at h7; cases h7
  · cases h
theorem t_nil : SndSs N T C .nil := fun Z X s Ex st F i hp hk tk h => by
  simp only [okSs] at h
  split at h
  · simp only [wB]
    exact hss_nil
  · cases h
theorem t_cons {x : S} (ix : SndS N T C x) (ir : SndSs N T C sa) : SndSs N T C (.cons x sa) := fun Z X s Ex st F i hp hk tk h => by
  simp only [okSs] at h
  split at h
  · simp only [Bool.and_eq_true] at h
    simp only [wB]
    exact hss_cons (ix Z X s Ex _ F i hp hk tk h.1) (ir Z X s Ex _ F i hp hk tk h.2)
  · cases h
end
section
variable {N : Nm} {T : Tb} {C : Orc} {X : Cx} {s : Sx}
theorem Fx.named (F : Fx N T C X) {i c : Nat} {fs : List Nat} {ds : List D} {a z : Addr} {oe : Obj} {pn : List (Addr × Obj)} (hh : T.hot = false) (hc : c ∈ N.xc) {cx : Value} {L : List (Addr × Obj)} (hz : L2C.Zx (.ref (N.ca c)) (some z) cx oe) (hf : ∃ vs, oe.data = .fields vs) (hk0 : L2C.HotK (X.suite a ((a, oe) :: pn)) (a, oe) L) :
    Fx (N.to (some (i, c, fs, ds, a, z))) (T.suite (some i)) noC (X.suite a ((a, oe) :: pn)) where
  hK := F.hK
  u := F.u
  glob := fun x g h => by
    have q := F.glob x g h
    cases g with
    | con d => obtain ⟨v, u, e1, e2, e3⟩ := q; exact ⟨v, u, e1, e2, fun H => (RD_to _ _).mpr (e3 H)⟩
    | fn f => exact q
    | cls c => exact q
    | tab kvs => obtain ⟨d, m1, K⟩ := q; exact ⟨d, m1, K.to⟩
  blt := F.blt
  call := fun h => by cases h
  kcall := fun h => by cases h
  fvs := fun h => by cases h
  own := fun h => by cases h
  ownh := fun _ => rfl
  ofl := fun n f h => let J := F.ofl n f h; ⟨J.nm, J.mem, J.inj, J.cls, J.no⟩
  news := fun h => by cases h
  meths := fun h => by cases h
  owns := fun x cs h => let ⟨k, m1, J⟩ := F.owns x cs h; ⟨k, m1, J.base, J.own, J.cls, J.sp, J.tk⟩
  xcs := F.xcs
  calm := fun h => by cases h
  nd := F.nd
  room := fun h => by cases h
  cold := fun h => by cases h
  raise := fun c n fs src h => ⟨(F.raise c n fs src h).ex, (F.raise c n fs src h).xc⟩
  exm := F.exm
  iss := F.iss
  flds := F.flds
  xc := F.xc
  xvs := fun r e => by cases e; rfl
  sux := fun j e => by
    cases e
    obtain ⟨vs, ev⟩ := hf
    exact ⟨c, fs, ds, a, z, ⟨rfl, ⟨oe, L, hz.zc, ⟨vs, ev⟩, hk0⟩, fun _ => ⟨X, oe, pn, rfl, hz.zc, vs, ev⟩⟩, F.xcs c hc, hc⟩
  hotx := fun h => by cases h
  roomh := fun _ => let r := F.room hh; ⟨r.dp, r.un⟩
  pkx := fun h => by cases h
  hots := F.hots
theorem Fx.bare (F : Fx N T C X) (hh : T.hot = false) {a : Addr} {oe : Obj} {pn : List (Addr × Obj)} : Fx N (T.suite none) noC (X.suite a ((a, oe) :: pn)) where
  hK := F.hK
  u := F.u
  glob := fun x g h => by
    have q := F.glob x g h
    cases g <;> exact q
  blt := F.blt
  call := fun h => by cases h
  kcall := fun h => by cases h
  fvs := fun h => by cases h
  own := fun h => by cases h
  ownh := fun _ => rfl
  ofl := fun n f h => let J := F.ofl n f h; ⟨J.nm, J.mem, J.inj, J.cls, J.no⟩
  news := fun h => by cases h
  meths := fun h => by cases h
  owns := fun x cs h => let ⟨k, m1, J⟩ := F.owns x cs h; ⟨k, m1, J.base, J.own, J.cls, J.sp, J.tk⟩
  xcs := F.xcs
  calm := fun h => by cases h
  nd := F.nd
  room := fun h => by cases h
  cold := fun h => by cases h
  raise := F.raise
  exm := F.exm
  iss := F.iss
  flds := F.flds
  xc := F.xc
  xvs := fun r e => by rw [F.cold hh] at e; cases e
  sux := fun j e => by cases e
  hotx := fun h => by cases h
  roomh := fun _ => let r := F.room hh; ⟨r.dp, r.un⟩
  pkx := fun h => by cases h
  hots := F.hots
theorem Fx.tr (F : Fx N T C X) (pn : List (Addr × Obj)) (xe : Value → Shared → Prop) (hh : T.hot = false) : Fx N T C (X.tr pn xe) where
  hK := F.hK
  u := F.u
  glob := fun x g h => by
    have q := F.glob x g h
    cases g <;> exact q
  blt := F.blt
  call := F.call
  kcall := F.kcall
  fvs := F.fvs
  own := F.own
  ownh := F.ownh
  ofl := F.ofl
  news := F.news
  meths := F.meths
  owns := F.owns
  xcs := F.xcs
  calm := F.calm
  nd := F.nd
  room := F.room
  cold := F.cold
  raise := F.raise
  exm := F.exm
  iss := F.iss
  flds := F.flds
  xc := F.xc
  xvs := F.xvs
  sux := fun j e => by rw [F.hotx hh] at e; cases e
  hotx := F.hotx
  roomh := F.roomh
  pkx := F.pkx
  hots := F.hots
end
def SndH (N : Nm) (T : Tb) (C : Orc) (hs : Hs) : Prop := ∀ (Z : Sta × Hp) (X : Cx) (s : Sx) (Ex : D → Env → Sta → Prop) (hl : List ExceptHandler), Fx N T C X → In X s → FnX X → T.hot = false → okHs T hs s hl = true →
  ∃ l : List Cl, ClOk X (xOf N Z Ex) hl l ∧ ∀ (Y : Sta × Hp) (Tn : A.Ends) (D : L2.Ends) (x : A.D) (ρ : Env) (S : Sta) (cls : Value) (d : Option Addr) (σ : L2.St) (H : Hp), wH C hs x ρ S Tn → RS N H σ ρ → RH N H S → Fr Y.1 Y.2 S H → Fr Z.1 Z.2 Y.1 Y.2 → XD N H x cls d → En N Y Tn D → Tn.ex = Ex →
    wCl X.K (xOf N Z Ex) D l cls d σ H
section
variable {N : Nm} {T : Tb} {C : Orc}
theorem t_hnil : SndH N T C .nil := fun Z X s Ex hl F i hk hh h => by
  simp only [okHs] at h
  split at h
  · refine ⟨[], .nil, fun Y Tn D x ρ S cls d σ H w rs rh fs fz xd en ex => ?_⟩
    simp only [wH] at w
    subst ex
    exact ⟨x, ρ, S, rs, rh, fz.trans fs, xd, w⟩
  · cases h
theorem t_hcons {cs : List (Nat × Bool)} {j : Option Nat} {b : Ss} {r : Hs} (ib : ∀ N' T', SndSs N' T' noC b) (ir : SndH N T C r) : SndH N T C (.cons cs j b r) := fun Z X s Ex hl F i hk hh h => by
  simp only [okHs] at h
  split at h
  · rename_i x p1 nm b0 suite p2 hs
    rw [Bool.and_eq_true, Bool.and_eq_true, Bool.and_eq_true, Bool.and_eq_true, Bool.and_eq_true] at h
    obtain ⟨⟨⟨⟨⟨h1, h2⟩, h3⟩, h5⟩, h6⟩, h7⟩ := h
    obtain ⟨k, m1, tab⟩ := F.exm _ _ (hasL_ok h1)
    obtain ⟨n1, _, _⟩ := okName_ok h3
    have nmx : Names X x (.ref k) := ⟨i.gl h2, n1, .inl m1⟩
    obtain ⟨l, cl, lk⟩ := ir Z X s Ex hs F i hk hh h7
    cases j with
    | none =>
      cases nm with
      | some n => cases h5
      | none =>
        refine ⟨⟨fun cls => PySem.W.exmOne X.K cls (.ref k), false, none, fun a cls d D σ H => ∃ Zx, tSs N Zx noE (wB noC b) D σ H⟩ :: l, .bare nmx (fun a oe cls d cx L pn hz hf hk0 => ⟨fun pins s0 σ H D I ⟨Zx, t⟩ => ?_⟩) cl, fun Y Tn D e ρ S cls d σ H w rs rh fs fz xd en ex => ?_⟩
        · exact (ib N (T.suite none) Zx _ s noE (b0 :: suite) (F.bare hh) ⟨i.sc, i.ns, i.fn, i.top⟩ (L2C.passX_no rfl) hk takesF h6).run pins s0 σ H D I t
        · obtain ⟨c, fl, ds, dd, xs, vs, rfl, rfl, rfl, x1, x2, x3, x4, x5⟩ := id xd
          simp only [wH] at w
          obtain ⟨g, e1, w⟩ := w
          refine ⟨g, tab c g x5 e1, fun hg a na => ?_, fun hg => ?_⟩
          · rw [if_pos hg] at w
            exact ⟨(S, H), (S, H), ρ, S, { nx := Tn.nx, rt := Tn.rt, bk := Tn.bk, ct := Tn.ct, ex := noE }, Fr.refl, Fr.refl, rs, rh, rfl, w, ⟨fun ρ' S' σ' H' a1 a2 a3 q => en.nx ρ' S' σ' H' a1 a2 (fs.trans a3) q, fun ρ' S' σ' H' a1 a2 a3 q => en.bk ρ' S' σ' H' a1 a2 (fs.trans a3) q,
              fun ρ' S' σ' H' a1 a2 a3 q => en.ct ρ' S' σ' H' a1 a2 (fs.trans a3) q, fun d S' v H' a1 a2 a3 q => en.rt d S' v H' a1 (fs.trans a2) a3 q⟩⟩
          · rw [if_neg (by rw [hg]; decide)] at w
            exact ⟨rfl, lk Y Tn D _ ρ S _ _ σ H w rs rh fs fz xd en ex⟩
    | some j =>
      cases nm with
      | none => cases h5
      | some n =>
        simp only [Bool.and_eq_true] at h5
        have hn := F.cold hh
        have hloc : X.env.kindOf n = some .local := by
          show X.env.scope.names.lookup n = some .local
          rw [i.sc]
          have := h5.2
          split at this
          · assumption
          · cases this
        refine ⟨⟨fun cls => PySem.W.exmOne X.K cls (.ref k), false, some j, fun a cls d D σ H => ∃ (c : Nat) (fs : List Nat) (ds : List A.D) (z : Addr) (Zx : Sta × Hp), cls = .ref (N.ca c) ∧ d = some z ∧ c ∈ N.xc ∧ tSs (N.to (some (j, c, fs, ds, a, z))) Zx noE (wB noC b) D σ H⟩ :: l,
          .named nmx (by rw [i.ns]; exact nsAt_ok h5.1) hloc (fun a oe cls d cx L pn hz hf hk0 => ⟨fun pins s0 σ H D I ⟨c, fs, ds, z, Zx, e1, e2, hc, t⟩ => ?_⟩) cl, fun Y Tn D e ρ S cls d σ H w rs rh fs fz xd en ex => ?_⟩
        · subst e1 e2
          exact (ib (N.to (some (j, c, fs, ds, a, z))) (T.suite (some j)) Zx _ s noE (b0 :: suite) (F.named hh hc hz hf hk0) ⟨i.sc, i.ns, i.fn, i.top⟩ (L2C.passX_no rfl) hk takesF h6).run pins s0 σ H D I t
        · obtain ⟨c, fl, ds, dd, xs, vs, rfl, rfl, rfl, x1, x2, x3, x4, x5⟩ := id xd
          simp only [wH] at w
          obtain ⟨g, e1, w⟩ := w
          refine ⟨g, tab c g x5 e1, fun hg a na => ?_, fun hg => ?_⟩
          · rw [if_pos hg] at w
            refine ⟨c, fl, ds, dd, (S, H), rfl, rfl, x5, (S, H), ρ.set j (some (.exc c fl ds)), S, { nx := fun ρ' S' => Tn.nx (ρ'.set j none) S', rt := Tn.rt, bk := fun ρ' S' => Tn.bk (ρ'.set j none) S', ct := fun ρ' S' => Tn.ct (ρ'.set j none) S', ex := noE },
              Fr.refl, Fr.refl, rs.come hn x1 x2 x3 x4, RH_to.mpr rh, rfl, w, ⟨fun ρ' S' σ' H' a1 a2 a3 q => en.nx _ S' _ H' (a1.go hn) (RH_to.mp a2) (fs.trans a3) q, fun ρ' S' σ' H' a1 a2 a3 q => en.bk _ S' _ H' (a1.go hn) (RH_to.mp a2) (fs.trans a3) q,
                fun ρ' S' σ' H' a1 a2 a3 q => en.ct _ S' _ H' (a1.go hn) (RH_to.mp a2) (fs.trans a3) q, fun d S' v H' a1 a2 a3 q => en.rt d S' v H' (RH_to.mp a1) (fs.trans a2) ((RD_to _ _).mp a3) q⟩⟩
          · rw [if_neg (by rw [hg]; decide)] at w
            exact ⟨rfl, lk Y Tn D _ ρ S _ _ σ H w rs rh fs fz xd en ex⟩
  · rename_i x p1 y p2 kk p3 nm b0 suite p4 hs
    rw [Bool.and_eq_true, Bool.and_eq_true, Bool.and_eq_true] at h
    obtain ⟨⟨⟨h0, h5⟩, h6⟩, h7⟩ := h
    simp only [Bool.and_eq_true] at h0
    obtain ⟨⟨⟨⟨h1, h2⟩, h3⟩, h2'⟩, h3'⟩ := h0
    obtain ⟨l1, l2, g1, g2, tb⟩ := pairT_ok h1
    obtain ⟨k, m1, tab⟩ := F.exm _ _ g1
    obtain ⟨k', m1', tab'⟩ := F.exm _ _ g2
    obtain ⟨n1, _, _⟩ := okName_ok h3
    obtain ⟨n1', _, _⟩ := okName_ok h3'
    have nmx : Names X x (.ref k) := ⟨i.gl h2, n1, .inl m1⟩
    have nmy : Names X y (.ref k') := ⟨i.gl h2', n1', .inl m1'⟩
    have any : ∀ c g, cs.lookup c = some g → c ∈ N.xc → g = true ∧ PySem.W.exmAny X.K (.ref (N.ca c)) [.ref k, .ref k'] = some g := fun c g e hx => by
      obtain ⟨eg, u, v, e1, e2, e3⟩ := tb c g e
      refine ⟨eg, ?_⟩
      have a1 := tab c u hx e1
      have a2 := tab' c v hx e2
      simp only [PySem.W.exmAny, a1, a2, Bool.or_false, e3, eg]
    obtain ⟨l, cl, lk⟩ := ir Z X s Ex hs F i hk hh h7
    cases j with
    | none =>
      cases nm with
      | some n => cases h5
      | none =>
        refine ⟨⟨fun cls => PySem.W.exmAny X.K cls [.ref k, .ref k'], true, none, fun a cls d D σ H => ∃ Zx, tSs N Zx noE (wB noC b) D σ H⟩ :: l, .bare2 nmx nmy (fun a oe cls d cx L pn hz hf hk0 => ⟨fun pins s0 σ H D I ⟨Zx, t⟩ => ?_⟩) cl, fun Y Tn D e ρ S cls d σ H w rs rh fs fz xd en ex => ?_⟩
        · exact (ib N (T.suite none) Zx _ s noE (b0 :: suite) (F.bare hh) ⟨i.sc, i.ns, i.fn, i.top⟩ (L2C.passX_no rfl) hk takesF h6).run pins s0 σ H D I t
        · obtain ⟨c, fl, ds, dd, xs, vs, rfl, rfl, rfl, x1, x2, x3, x4, x5⟩ := id xd
          simp only [wH] at w
          obtain ⟨g, e1, w⟩ := w
          obtain ⟨eg, an⟩ := any c g e1 x5
          subst eg
          rw [if_pos rfl] at w
          refine ⟨true, an, fun _ a na => ?_, fun hg => (by cases hg)⟩
          exact ⟨(S, H), (S, H), ρ, S, { nx := Tn.nx, rt := Tn.rt, bk := Tn.bk, ct := Tn.ct, ex := noE }, Fr.refl, Fr.refl, rs, rh, rfl, w, ⟨fun ρ' S' σ' H' a1 a2 a3 q => en.nx ρ' S' σ' H' a1 a2 (fs.trans a3) q, fun ρ' S' σ' H' a1 a2 a3 q => en.bk ρ' S' σ' H' a1 a2 (fs.trans a3) q,
            fun ρ' S' σ' H' a1 a2 a3 q => en.ct ρ' S' σ' H' a1 a2 (fs.trans a3) q, fun d S' v H' a1 a2 a3 q => en.rt d S' v H' a1 (fs.trans a2) a3 q⟩⟩
    | some j =>
      cases nm with
      | none => cases h5
      | some n =>
        simp only [Bool.and_eq_true] at h5
        have hn := F.cold hh
        have hloc : X.env.kindOf n = some .local := by
          show X.env.scope.names.lookup n = some .local
          rw [i.sc]
          have := h5.2
          split at this
          · assumption
          · cases this
        refine ⟨⟨fun cls => PySem.W.exmAny X.K cls [.ref k, .ref k'], true, some j, fun a cls d D σ H => ∃ (c : Nat) (fs : List Nat) (ds : List A.D) (z : Addr) (Zx : Sta × Hp), cls = .ref (N.ca c) ∧ d = some z ∧ c ∈ N.xc ∧ tSs (N.to (some (j, c, fs, ds, a, z))) Zx noE (wB noC b) D σ H⟩ :: l,
          .named2 nmx nmy (by rw [i.ns]; exact nsAt_ok h5.1) hloc (fun a oe cls d cx L pn hz hf hk0 => ⟨fun pins s0 σ H D I ⟨c, fs, ds, z, Zx, e1, e2, hc, t⟩ => ?_⟩) cl, fun Y Tn D e ρ S cls d σ H w rs rh fs fz xd en ex => ?_⟩
        · subst e1 e2
          exact (ib (N.to (some (j, c, fs, ds, a, z))) (T.suite (some j)) Zx _ s noE (b0 :: suite) (F.named hh hc hz hf hk0) ⟨i.sc, i.ns, i.fn, i.top⟩ (L2C.passX_no rfl) hk takesF h6).run pins s0 σ H D I t
        · obtain ⟨c, fl, ds, dd, xs, vs, rfl, rfl, rfl, x1, x2, x3, x4, x5⟩ := id xd
          simp only [wH] at w
          obtain ⟨g, e1, w⟩ := w
          obtain ⟨eg, an⟩ := any c g e1 x5
          subst eg
          rw [if_pos rfl] at w
          refine ⟨true, an, fun _ a na => ?_, fun hg => (by cases hg)⟩
          refine ⟨c, fl, ds, dd, (S, H), rfl, rfl, x5, (S, H), ρ.set j (some (.exc c fl ds)), S, { nx := fun ρ' S' => Tn.nx (ρ'.set j none) S', rt := Tn.rt, bk := fun ρ' S' => Tn.bk (ρ'.set j none) S', ct := fun ρ' S' => Tn.ct (ρ'.set j none) S', ex := noE },
            Fr.refl, Fr.refl, rs.come hn x1 x2 x3 x4, RH_to.mpr rh, rfl, w, ⟨fun ρ' S' σ' H' a1 a2 a3 q => en.nx _ S' _ H' (a1.go hn) (RH_to.mp a2) (fs.trans a3) q, fun ρ' S' σ' H' a1 a2 a3 q => en.bk _ S' _ H' (a1.go hn) (RH_to.mp a2) (fs.trans a3) q,
              fun ρ' S' σ' H' a1 a2 a3 q => en.ct _ S' _ H' (a1.go hn) (RH_to.mp a2) (fs.trans a3) q, fun d S' v H' a1 a2 a3 q => en.rt d S' v H' (RH_to.mp a1) (fs.trans a2) ((RD_to _ _).mp a3) q⟩⟩
  · cases h
def tRf (N : Nm) (Z : Sta × Hp) (Ex : A.D → Env → Sta → Prop) (j c n : Nat) (fl : List (Str × Sum Str Nat)) (es : Es) : Addr → Value → Option Addr → TS := fun a cls d _ σ H => ∃ (k : Nat) (fs : List Nat) (ds : List A.D) (z : Addr) (Zq : Sta × Hp) (σ0 : L2.St),
  cls = .ref (N.ca k) ∧ d = some z ∧ k ∈ N.xc ∧ σ = σ0.set j (some (.ref a)) ∧ tMkX (N.ca c) n fl (tA (N.to (some (j, k, fs, ds, a, z))) Zq (wXs noC noE es)) σ H fun k z H2 => xOf N Z Ex k z (σ.set j none) H2
theorem pa_sx {X : Cx} {a : Addr} {pn : List (Addr × Obj)} {xe : Value → Shared → Prop} {es : List Expr} {t : TA} (h : PA (X.suite a pn) es t) : PA (L2C.sx X a pn xe) es t :=
  ⟨fun pos pins s σ H Q I q => wpAny_mono (h.run pos pins s σ H Q (L2C.inv_sx' I) q) (fun _ _ ⟨vs, H2, I2, r, y⟩ => ⟨vs, H2, L2C.inv_sx I2, r, y⟩) fun _ _ y => False.elim y⟩
section
variable {Z : Sta × Hp} {X : Cx} {s : Sx} {Ex : A.D → Env → Sta → Prop} {i c : Nat} {fs : List Nat} {src : List (Sum Nat A.D)} {es : Es} {n m y : Str} {xs : List Expr}
theorem rf_ok (F : Fx N T C X) (iX : In X s) (hk : FnX X) (hh : T.hot = false) (h : okRf T i c fs src es s n m y xs = true) (he : okEs (T.suite (some i)) es s xs = true) (p1 p2 p3 p4 : Pos) : X.N[i]? = some n ∧ X.env.kindOf n = some .local ∧ ∃ fl : List (Str × Sum Str Nat),
    (InitOk X.prog X.w X.K X.mg X.base (N.ca c) xs.length fl ∧ fl.map (·.1) = fs.map N.fnm ∧ src = fl.map (fun p => convF p.2) ∧ (fl.map (·.1)).Nodup ∧ (∀ p ∈ fl, ∀ j, p.2 = .inr j → j < xs.length + 1) ∧ c ∈ N.xc) ∧
    ∀ (a : Addr) (oe : Obj) (cls : Value) (d : Option Addr) (cx : Value) (L pn : List (Addr × Obj)) (xe : Value → Shared → Prop), L2C.Zx cls d cx oe → (∃ vs, oe.data = .fields vs) → X.base.get? a = none → L2C.HotK (L2C.sx X a ((a, oe) :: pn) xe) (a, oe) L →
      L2C.Takes (L2C.sx X a ((a, oe) :: pn) xe) (fun k z σ H => xOf N Z Ex k z (σ.set i none) H) → PSs (L2C.sx X a ((a, oe) :: pn) xe) [.Raise (some (.Call (.Name y p1) xs [] p2)) (some (.Name m p3)) p4] (tRf N Z Ex i c xs.length fl es a cls d) := by
  unfold okRf at h
  simp only [Bool.and_eq_true, decide_eq_true_eq] at h
  obtain ⟨⟨⟨h1, h2⟩, ⟨h3, h4⟩, h5⟩, ⟨⟨⟨h6, h7⟩, h8⟩, h9⟩, h10⟩ := h
  have en := sEq_ok h3
  subst en
  obtain ⟨n1, n2, _⟩ := okName_ok h4
  obtain ⟨n3, _, _⟩ := okName_ok h8
  have hm : X.mg y = some (.ref (N.ca c)) := by
    unfold Tb.isK at h6
    split at h6
    · rename_i e he
      have := F.glob _ _ (sLook_ok he)
      rw [beq_iff_eq.mp h6]
      exact this
    · cases h6
  have J := F.raise _ _ _ _ (hasR_ok h9)
  obtain ⟨fl, I0, hf, hs, nd, hj⟩ := J.ex
  have hN : X.N[i]? = some n := by rw [iX.ns]; exact nsAt_ok h1
  refine ⟨hN, ?_, fl, ⟨I0, hf, hs, nd, hj, J.xc⟩, fun a oe cls d cx L pn xe hz hfl nb hot tk => ⟨fun pins s0 σ H D I ⟨k, fs', ds, z, Zq, σ0, e1, e2, hc, e3, t⟩ => ?_⟩⟩
  · show X.env.scope.names.lookup n = some .local
    rw [iX.sc]
    split at h2
    · assumption
    · cases h2
  subst e1 e2
  have hot' : L2C.HotK (X.suite a ((a, oe) :: pn)) (a, oe) L := ⟨hot.hd, hot.mem, hot.ctx⟩
  obtain ⟨pa, pl, _⟩ := sEs (N.to (some (i, k, fs', ds, a, z))) (T.suite (some i)) noC es Zq (X.suite a ((a, oe) :: pn)) s noE xs (F.named hh hc hz hfl hot') ⟨iX.sc, iX.ns, iX.fn, iX.top⟩ takesF he
  have rm := F.room hh
  have lt : i < σ.length := by rw [I.len]; exact (List.getElem?_eq_some_iff.mp hN).1
  have hσ : σ[i]? = some (some (.ref a)) := by
    rw [e3] at lt ⊢
    rw [List.getElem?_set_self (by simpa using lt)]
  have F0 := F.xc k (F.xcs k hc)
  have rs : Raises (L2C.sx X a ((a, oe) :: pn) xe) oe.cls := by rw [hz.1]; exact raises_own F0.1.hs F0.2.2
  have mk := hmk5 (X := L2C.sx X a ((a, oe) :: pn) xe) (N := N.to (some (i, k, fs', ds, a, z))) (Z := Zq) (p := p1) (cpos := p2) I0 ⟨rm.dp, rm.un⟩ hot (iX.gl h7) hm n3 (pa_sx pa) pl (by omega) fun e => by
    subst e
    cases es with
    | nil => exact ⟨rfl, fun ρ S Q q => by simpa only [wXs_def, wEs] using q⟩
    | cons _ _ => simp only [okEs] at he; cases he
  exact (pss_cons (L2C.ps_raiseC (i := i) (np := p3) (pos := p4) hot nb rs tk mk hN (iX.vis h5) n1 n2) pss_nil).run pins s0 σ H D I ⟨hσ, t⟩
theorem rf_wish {Y : Sta × Hp} {Tn : A.Ends} {ρ : Env} {S : Sta} {σ : L2.St} {H : Hp} {k : Nat} {fl2 : List Nat} {ds2 : List A.D} {z : Addr} {a : Addr} {xz : List (Str × V)} {vz : List V} {fl : List (Str × Sum Str Nat)} {nx : Nat}
    (I0 : ∃ (P : Program) (w : World) (K : PySem.W.Frag) (mg : Str → Option Value) (base : Heap), InitOk P w K mg base (N.ca c) nx fl) (hf : fl.map (·.1) = fs.map N.fnm) (hs : src = fl.map (fun p => convF p.2)) (nd : (fl.map (·.1)).Nodup) (hj : ∀ p ∈ fl, ∀ j, p.2 = .inr j → j < nx + 1) (hc : c ∈ N.xc)
    (hn : N.xs = none) (hx : k ∈ N.xc) (hl : es.len = nx) (rs : RS N H σ ρ) (rh : RH N H S) (fz : Fr Y.1 Y.2 S H) (fy : Fr Z.1 Z.2 Y.1 Y.2) (x1 : H z = some (.xd xz)) (x2 : RDs N H ds2 vz) (x3 : fl2.length = vz.length) (x4 : ∀ (i : Nat) f v, fl2[i]? = some f → vz[i]? = some v → xz.lookup (N.fnm f) = some v)
    (w : wEs noC (fun _ _ => False) es (ρ.set i (some (.exc k fl2 ds2))) S fun ds S1 => ds.length = es.len ∧ Tn.ex (.exc c fs (placeL src ds)) (ρ.set i none) S1) (D : L2.Ends) (hex : Tn.ex = Ex) :
    tRf N Z Ex i c nx fl es a (.ref (N.ca k)) (some z) D (σ.set i (some (.ref a))) H := by
  obtain ⟨P, wo, K, mg, base, I0⟩ := I0
  refine ⟨k, fl2, ds2, z, (S, H), σ, rfl, rfl, hx, rfl, ρ.set i (some (.exc k fl2 ds2)), S, _, rs.come hn x1 x2 x3 x4, RH_to.mpr rh, Fr.refl, (by rw [wXs_def]; exact w), fun ds S1 vs H1 f h1 r q => ?_⟩
  obtain ⟨q1, q2⟩ := q
  have r' : RDs N H1 ds vs := (RDs_to _ _).mp r
  have hv : vs.length = nx := by rw [← r'.length, q1, hl]
  refine ⟨hv, fun z2 hz2 => ?_⟩
  have dl : Dle H1 (upd H1 z2 (.xd (laid (.non :: vs) [] fl))) := dle_new hz2
  have rh1 : RH N H1 S1 := RH_to.mp h1
  subst hex
  refine ⟨_, (ρ.set i none), S1, ?_, rh1.skip hz2, ((fy.trans fz).trans f).trans (Fr.skip hz2), xd_made I0 hf hs nd hj hc r' hv hz2, q2⟩
  have back := ((rs.come (i := i) (a := a) (c := k) hn x1 x2 x3 x4).mono (f.dle rh)).go hn
  rw [List.set_set, List.set_set] at back
  rw [List.set_set]
  exact back.mono dl
end
theorem t_hrfr {cs : List (Nat × Bool)} {j c : Nat} {fs : List Nat} {src : List (Sum Nat A.D)} {es : Es} {r : Hs} (ir : SndH N T C r) : SndH N T C (.rfr cs j c fs src es r) := fun Z X s Ex hl F i hk hh h => by
  simp only [okHs] at h
  split at h
  · rename_i x p1 n y p2 xs p3 m p4 p5 p6 hs
    rw [Bool.and_eq_true, Bool.and_eq_true, Bool.and_eq_true, Bool.and_eq_true, Bool.and_eq_true] at h
    obtain ⟨⟨⟨⟨⟨h1, h2⟩, h3⟩, h5⟩, h6⟩, h7⟩ := h
    obtain ⟨k, m1, tab⟩ := F.exm _ _ (hasL_ok h1)
    obtain ⟨n1, _, _⟩ := okName_ok h3
    have nmx : Names X x (.ref k) := ⟨i.gl h2, n1, .inl m1⟩
    obtain ⟨l, cl, lk⟩ := ir Z X s Ex hs F i hk hh h7
    obtain ⟨hN, hl2, fl, ⟨I0, hf, hsr, nd, hj, hc⟩, su⟩ := rf_ok (Z := Z) (Ex := Ex) F i hk hh h5 h6 p2 p3 p4 p5
    refine ⟨⟨fun cls => PySem.W.exmOne X.K cls (.ref k), false, some j, tRf N Z Ex j c xs.length fl es⟩ :: l, .namedR nmx hN hl2 su cl, fun Y Tn D e ρ S cls d σ H w rs rh fs fz xd en ex => ?_⟩
    obtain ⟨c', fl', ds, dd, xz, vs, rfl, rfl, rfl, x1, x2, x3, x4, x5⟩ := id xd
    simp only [wH] at w
    obtain ⟨g, e1, w⟩ := w
    refine ⟨g, tab c' g x5 e1, fun hg a na => ?_, fun hg => ?_⟩
    · rw [if_pos hg] at w
      exact rf_wish ⟨_, _, _, _, _, I0⟩ hf hsr nd hj hc (F.cold hh) x5 (es_len _ _ h6) rs rh fs fz x1 x2 x3 x4 w D ex
    · rw [if_neg (by rw [hg]; decide)] at w
      exact ⟨rfl, lk Y Tn D _ ρ S _ _ σ H w rs rh fs fz xd en ex⟩
  · rename_i x p1 x' p1' kk p1'' n y p2 xs p3 m p4 p5 p6 hs
    rw [Bool.and_eq_true, Bool.and_eq_true, Bool.and_eq_true] at h
    obtain ⟨⟨⟨h0, h5⟩, h6⟩, h7⟩ := h
    simp only [Bool.and_eq_true] at h0
    obtain ⟨⟨⟨⟨h1, h2⟩, h3⟩, h2'⟩, h3'⟩ := h0
    obtain ⟨l1, l2, g1, g2, tb⟩ := pairT_ok h1
    obtain ⟨k, m1, tab⟩ := F.exm _ _ g1
    obtain ⟨k', m1', tab'⟩ := F.exm _ _ g2
    obtain ⟨n1, _, _⟩ := okName_ok h3
    obtain ⟨n1', _, _⟩ := okName_ok h3'
    have nmx : Names X x (.ref k) := ⟨i.gl h2, n1, .inl m1⟩
    have nmy : Names X x' (.ref k') := ⟨i.gl h2', n1', .inl m1'⟩
    have any : ∀ c g, cs.lookup c = some g → c ∈ N.xc → g = true ∧ PySem.W.exmAny X.K (.ref (N.ca c)) [.ref k, .ref k'] = some g := fun c g e hx => by
      obtain ⟨eg, u, v, e1, e2, e3⟩ := tb c g e
      refine ⟨eg, ?_⟩
      have a1 := tab c u hx e1
      have a2 := tab' c v hx e2
      simp only [PySem.W.exmAny, a1, a2, Bool.or_false, e3, eg]
    obtain ⟨l, cl, lk⟩ := ir Z X s Ex hs F i hk hh h7
    obtain ⟨hN, hl2, fl, ⟨I0, hf, hsr, nd, hj, hc⟩, su⟩ := rf_ok (Z := Z) (Ex := Ex) F i hk hh h5 h6 p2 p3 p4 p5
    refine ⟨⟨fun cls => PySem.W.exmAny X.K cls [.ref k, .ref k'], true, some j, tRf N Z Ex j c xs.length fl es⟩ :: l, .named2R nmx nmy hN hl2 su cl, fun Y Tn D e ρ S cls d σ H w rs rh fs fz xd en ex => ?_⟩
    obtain ⟨c', fl', ds, dd, xz, vs, rfl, rfl, rfl, x1, x2, x3, x4, x5⟩ := id xd
    simp only [wH] at w
    obtain ⟨g, e1, w⟩ := w
    obtain ⟨eg, an⟩ := any c' g e1 x5
    subst eg
    rw [if_pos rfl] at w
    refine ⟨true, an, fun _ a na => ?_, fun hg => (by cases hg)⟩
    exact rf_wish ⟨_, _, _, _, _, I0⟩ hf hsr nd hj hc (F.cold hh) x5 (es_len _ _ h6) rs rh fs fz x1 x2 x3 x4 w D ex
  · cases h
theorem t_try {b : Ss} {hs : Hs} (ib : SndSs N T C b) (ih : SndH N T C hs) : SndS N T C (.try_ b hs) := fun Z X s Ex st F i hp hk tk h => by
  simp only [okS] at h
  split at h
  · rename_i body h0 r pos
    rw [Bool.and_eq_true, Bool.and_eq_true, Bool.not_eq_true'] at h
    obtain ⟨⟨g1, g2⟩, g3⟩ := h
    obtain ⟨l, cl, lk⟩ := ih Z X s Ex (h0 :: r) F i hk g1 g3
    obtain ⟨_, f1, f2⟩ := id hk
    simp only [wS]
    refine psimp (ps_tryA hp (tb := fun W D σ H => ∃ (Z' : Sta × Hp) (Ex' : A.D → Env → Sta → Prop), (∀ cls d σ H, xOf N Z' Ex' cls d σ H → W cls d σ H) ∧ tSs N Z' Ex' (wB C b) D σ H) f1 f2 F.nd tk (fun W pn xe tkW po => ⟨fun pins s0 σ H D I ⟨Z', Ex', hW, t⟩ => ?_⟩) cl) fun D σ H ⟨Y, ρ, S, Tn, fy, fs, rs, rh, ex, q, en⟩ => ?_
    · exact (ib Z' (X.tr pn xe) s Ex' body (F.tr pn xe g1) ⟨i.sc, i.ns, i.fn, i.top⟩ po hk (L2C.Takes.imp tkW hW) g2).run pins s0 σ H D I t
    · refine ⟨Y, fun x ρ' S' => wH C hs x ρ' S' Tn, fun cls d σ' H' ⟨x, ρ', S', rs', rh', fs', xd, w⟩ => lk Y Tn D x ρ' S' cls d σ' H' w rs' rh' fs' fy xd en ex, Y, ρ, S, { nx := Tn.nx, rt := Tn.rt, bk := Tn.bk, ct := Tn.ct, ex := fun x ρ' S' => wH C hs x ρ' S' Tn }, Fr.refl, fs, rs, rh, rfl, q, ⟨en.nx, en.bk, en.ct, en.rt⟩⟩
  · cases h
end
mutual
theorem sS0 : ∀ (ir : S) (C : Orc) (N : Nm) (T : Tb), SndS N T C ir
  | .nev, _, _, _ => fun _ _ _ _ _ _ _ _ _ _ _ => hs_nev fun ρ S T => by simp only [wS]; exact id
  | .rpl _ _ _ _, _, _, _ => fun _ _ _ _ _ _ _ _ _ _ h => by simp only [okS] at h; cases h
  | .asg _ _, _, _, _ => t_asg
  | .aug _ _ _, _, _, _ => t_aug
  | .augI _ _ _ _, _, _, _ => t_augI
  | .ex _, _, _, _ => t_ex
  | .ret _, _, _, _ => t_ret
  | .retN, _, _, _ => t_retN
  | .pass, _, _, _ => t_pass
  | .brk, _, _, _ => t_brk
  | .cont, _, _, _ => t_cont
  | .ite _ a b, C, N, T => t_ite (sSs0 a C N T) (sSs0 b C N T)
  | .whl _ a, C, N, T => t_whl (sSs0 a C N T)
  | .for_ _ _ a, C, N, T => t_for (sSs0 a C N T)
  | .par _ _ _ _, _, _, _ => t_par
  | .asgL _ _, _, _, _ => t_asgL
  | .augA _ _ _ _, _, _, _ => t_augA
  | .lock a, C, N, T => t_lock (sS0 a C N T)
  | .raise _ _ _ _ _, _, _, _ => t_raise
  | .try_ b hs, C, N, T => t_try (sSs0 b C N T) (sH0 hs C N T)
theorem sSs0 : ∀ (ir : Ss) (C : Orc) (N : Nm) (T : Tb), SndSs N T C ir
  | .nil, _, _, _ => t_nil
  | .cons x r, C, N, T => t_cons (sS0 x C N T) (sSs0 r C N T)
theorem sH0 : ∀ (ir : Hs) (C : Orc) (N : Nm) (T : Tb), SndH N T C ir
  | .nil, _, _, _ => t_hnil
  | .rfr _ _ _ _ _ _ r, C, N, T => t_hrfr (sH0 r C N T)
  | .cons _ _ b r, C, N, T => t_hcons (fun N' T' => sSs0 b noC N' T') (sH0 r C N T)
end
theorem sSs (N : Nm) (T : Tb) (C : Orc) (ir : Ss) : SndSs N T C ir := sSs0 ir C N T
section
variable {N : Nm} {T : Tb} {P : Prg} {prog : Program} {w : World} {K : PySem.W.Frag} {mg : Str → Option Value} {base : Heap}
structure DefOk (N : Nm) (T : Tb) (K : PySem.W.Frag) (f : Nat) (F : Fn) (fd : FuncData) (ps : List Str) : Prop where
  ex : ∃ (x qual : Str) (params : Arguments) (body : List Stmt) (scope : Scope) (dvs : List V) (kws : List (Str × V)) (ns : List Str), FunD K x qual params body scope dvs kws (N.fa f) fd ∧ FnScope ns ps scope ∧ ns.length = F.n ∧
    okSs T F.body ⟨scope, ns, fun _ => true⟩ body = true
  par : ps.length = F.k
def GOk' (N : Nm) (K : PySem.W.Frag) (w : World) (mg : Str → Option Value) (x : Str) : GV → Prop
  | .con d => ∃ v u, mg x = some u ∧ RelV v u ∧ ∀ H, RD N H d v
  | .fn f => mg x = some (.ref (N.fa f)) ∧ PySem.W.keepIn K (.ref (N.fa f)) = true
  | .cls c => mg x = some (.ref (N.ca c))
  | .tab kvs => ∃ d, mg x = some (.ref d) ∧ KTab N K w d kvs
structure RaiseG (N : Nm) (K : PySem.W.Frag) (c n : Nat) (fs : List Nat) (src : List (Sum Nat D)) : Prop where
  cls : OxC K (N.ca c)
  ex : ∃ (fl : List (Str × Sum Str Nat)) (x qual : Str) (params : Arguments) (body : List Stmt) (scope : Scope) (dvs : List V) (kws : List (Str × V)) (fI : Addr) (fd : FuncData) (ns ps : List Str),
    PySem.W.findIn K (.ref (N.ca c)) "__init__" = some (some (.ref fI)) ∧ PySem.W.typeIn K (.ref fI) = some (.type "function") ∧ FunD K x qual params body scope dvs kws fI fd ∧ FnScope ns ps scope ∧ Binds K fd ps [] ∧ ps.length = n + 1 ∧ n < ns.length ∧
    okI ⟨scope, ns, fun _ => true⟩ fl body = true ∧ fl.length ≤ 900 ∧ (∀ p ∈ fl, ∀ j, p.2 = .inr j → 1 ≤ j ∧ j < n + 1) ∧ (∀ p ∈ fl, PySem.W.findIn K (.ref (N.ca c)) p.1 = some none) ∧ fl ≠ [] ∧ fl.map (·.1) = fs.map N.fnm ∧ src = fl.map (fun p => convF p.2) ∧ (fl.map (·.1)).Nodup
  xc : c ∈ N.xc
theorem RaiseG.ok {c n : Nat} {fs : List Nat} {src : List (Sum Nat D)} (J : RaiseG N K c n fs src) : RaiseOk N prog w K mg base c n fs src := by
  obtain ⟨fl, x, qual, params, body, scope, dvs, kws, fI, fd, ns, ps, h1, h2, h3, h4, h5, h6, h7, h8, h9, h10, h11, h12, h13, h14, h15⟩ := J.ex
  exact ⟨⟨fl, ⟨J.cls, ⟨fI, fd, ps, h1, h2, ini_fn h3 h4 h6 h7 h8 h9 (fun p hp j e => (h10 p hp j e).2) 0, h5, ini_fnU h3 h4 h6 h7 h8 h9 (fun p hp j e => (h10 p hp j e).2)⟩, h11, fun p hp j e => (h10 p hp j e).1, h12⟩, h13, h14, h15, fun p hp j e => (h10 p hp j e).2⟩, J.xc⟩
structure Gf (N : Nm) (T : Tb) (P : Prg) (K : PySem.W.Frag) (w : World) (mg : Str → Option Value) : Prop where
  hK : N.K = K
  glob : ∀ x g, (x, g) ∈ T.glob → GOk' N K w mg x g
  blt : ∀ x ∈ T.blts, mg x = none
  call : ∀ f n es, (f, n, es) ∈ T.calls → ∃ F fd ps dvs ds, P f = some F ∧ DefOk N T K f F fd ps ∧ Binds K fd ps ds ∧ Vals dvs ds ∧ ∀ H, RDs N H es dvs
  kcall : ∀ f n ks sh, (f, n, ks, sh) ∈ T.kcalls → ∃ F fd ps, P f = some F ∧ DefOk N T K f F fd ps ∧ KB N K fd ps n ks sh
  fvs : ∀ f ∈ T.fvs, ∃ F fd ps, P f = some F ∧ DefOk N T K f F fd ps ∧ Binds K fd ps [] ∧ PySem.W.keepIn K (.ref (N.fa f)) = true
  own : ∀ c ∈ N.oc, ∀ q ∈ [(mEq, ("__eq__" : Str)), (mLen, "__len__"), (mStr, "__str__"), (mRepr, "__repr__")], P (mth c q.1) = none ∨ ∃ F fd ps, P (mth c q.1) = some F ∧ DefOk N T K (mth c q.1) F fd ps ∧ Binds K fd ps [] ∧ PySem.W.findIn K (.ref (N.ca c)) q.2 = some (some (.ref (N.fa (mth c q.1)))) ∧ PySem.W.isFn K (.ref (N.fa (mth c q.1))) = true
  ne : ∀ c ∈ N.oc, PySem.W.findIn K (.ref (N.ca c)) "__ne__" = some (some (.builtin "object.__ne__"))
  nb : ∀ c ∈ N.oc, PySem.W.findIn K (.ref (N.ca c)) "__bool__" = some none
  apart : ∀ c ∈ N.oc, ∀ c' ∈ N.oc, PySem.W.notFirst K (N.ca c) (.ref (N.ca c')) = true
  obj : ∀ c ∈ N.oc, PySem.W.mroIn K (N.ca c) (.type "object") = some true
  ofl : ∀ n f, (n, f) ∈ T.ofl → FdOk N K n f
  news : ∀ c n ks sh, (c, n, ks, sh) ∈ T.news → c ∈ N.oc ∧ ∃ F fd ps, P (mth c 0) = some F ∧ DefOk N T K (mth c 0) F fd ps ∧ Mk K (N.ca c) (N.fa (mth c 0)) ∧ KB N K fd ps (n + 1) ks (selfS sh)
  meths : ∀ m nm cs n ks, (m, nm, cs, n, ks) ∈ T.meths → (∀ f ∈ N.fl, N.fnm f ≠ nm) ∧ (∀ c ∈ N.oc, L2.Cls K (N.ca c)) ∧ ∀ c sh, cs.lookup c = some sh → c ∈ N.oc → ∃ F fd ps, P (mth c m) = some F ∧ DefOk N T K (mth c m) F fd ps ∧ Meth K (N.ca c) nm (N.fa (mth c m)) ∧ KB N K fd ps (n + 1) ks (selfS sh)
  owns : ∀ x cs, (x, cs) ∈ T.owns → ∃ k : Addr, mg x = some (.ref k) ∧ IsoOk N K k cs
  xcs : ∀ c ∈ N.xc, c ∈ T.xcls
  raise : ∀ c n fs src, (c, n, fs, src) ∈ T.raises → RaiseG N K c n fs src
  exm : ∀ x l, (x, l) ∈ T.exms → ∃ k : Addr, mg x = some (.ref k) ∧ ∀ c b, c ∈ N.xc → l.lookup c = some b → PySem.W.exmOne K (.ref (N.ca c)) (.ref k) = some b
  iss : ∀ x l, (x, l) ∈ T.iss → IsF N K mg x l
  flds : ∀ n f, (n, f) ∈ T.flds → N.fnm n = f ∧ ∀ c ∈ T.xcls, PySem.W.findIn K (.ref (N.ca c)) f = some none
  xc : ∀ c ∈ T.xcls, ExcC K (N.ca c) ∧ XfC K (N.ca c) ∧ PySem.W.typeIn K (.ref (N.ca c)) = some (.type "type")
  hots : ∀ f l, (f, l) ∈ T.hots → ∃ F fd ps, DefOk N T.hdef K f F fd ps ∧ ps.length = 1 ∧ Binds K fd ps [] ∧ ∀ c ss, l.lookup c = some ss → HotW (hotK f) F c ss
  pk : T.pk = false
  hot : T.hot = false
  xv : T.xv = none
  cold : N.xs = none
theorem rds_start {ds : List D} {vs : List V} {H : Hp} {ns : List Str} {n k : Nat} (hc : N.xs = none) (r : RDs N H ds vs) (hn : ns.length = n) (hk : ds.length = k) : RS N H (L2.start ns vs) (ds.map some ++ List.replicate (n - k) none) := by
  subst hn hk
  have hl := r.length
  refine ⟨by simp [L2.start, hl], fun i d e => ?_, by unfold XOk; rw [hc]; trivial⟩
  have hi : i < ds.length := by
    by_cases hi : i < ds.length
    · exact hi
    · rw [List.getElem?_append_right (by simpa using hi), List.getElem?_replicate] at e
      split at e <;> cases e
  rw [List.getElem?_append_left (by simpa using hi), List.getElem?_map] at e
  obtain ⟨d', e1, e2⟩ := Option.map_eq_some_iff.mp e
  cases e2
  obtain ⟨v, e3, rv⟩ := r.get e1
  refine ⟨v, ?_, .inl rv⟩
  unfold L2.start
  rw [List.getElem?_append_left (by simpa [← hl] using hi), List.getElem?_map, e3]
  rfl
theorem fnOk (G : Gf N T P K w mg) : ∀ (n f : Nat) (F : Fn) (fd : FuncData) (ps : List Str), P f = some F → DefOk N T K f F fd ps → FnOk prog w K mg base (L2C.CX prog w) (4 * n + 4) (N.fa f) fd ps (spF N (callW P n) f)
  | 0, f, F, fd, ps, _, _ => ⟨fun vs H Q E ⟨_, _, _, _, _, _, c, _⟩ => False.elim c, fun _ _ _ _ _ _ _ _ _ _ _ _ _ ⟨_, _, _, _, _, _, c, _⟩ => False.elim c⟩
  | n + 1, f, F, fd, ps, hP, hd => by
    obtain ⟨x, qual, params, body, scope, dvs, kws, ns, fD, sc, hn, hb⟩ := hd.ex
    have len : ∀ vs H Q E, spF N (callW P (n + 1)) f vs H Q E → vs.length = ps.length := fun vs H Q E ⟨ds, S, Qh, Xh, r, _, c, _⟩ => by
      obtain ⟨F', e, hl, _⟩ := c
      rw [hP] at e; cases e
      rw [← r.length, hl, hd.par]
    have lev : 4 * (n + 1) + 4 = (4 * n + 7) + 1 := by omega
    rw [lev]
    refine fD.ok sc len fun cdv A outer s H vs Q E hr h => ?_
    obtain ⟨ds, S, Qh, Xh, r, rh, c, k, kx⟩ := h
    obtain ⟨F', e, hl, q⟩ := c
    rw [hP] at e; cases e
    refine ⟨tSs N (S, H) (fun x _ S' => Q1 Xh x S') (wB (callW P n) F.body), ?_, ?_⟩
    · have spec : ∀ c ∈ N.oc, ∀ q ∈ [(mEq, ("__eq__" : Str)), (mLen, "__len__"), (mStr, "__str__"), (mRepr, "__repr__")], SpecOk N (callW P n) prog w K mg base (A.deeper (envOfC qual scope s.heap.objs.size (N.fa f) cdv)) c q.1 q.2 := fun c hc q hq => by
        rcases G.own c hc q hq with e | ⟨F2, fd2, ps2, e2, d2, b2, f1, f2⟩
        · refine .inl fun ds S Q X h => ?_
          cases n with
          | zero => exact h
          | succ n =>
            obtain ⟨F2, e', _⟩ := h
            rw [e] at e'; cases e'
        · exact .inr ⟨4 * n + 4, fd2, ps2, fnOk G n _ F2 fd2 ps2 e2 d2, hr.mono (by omega), b2, f1, f2⟩
      have Fx' : Fx N T (callW P n) (cxOf (L2C.CX prog w) prog w K mg base ns qual scope (N.fa f) cdv A outer s H E) := by
        refine ⟨⟨G.hK, hr.units, fun x g hx => ?_, G.blt, fun _ g m es hg => ?_, fun _ g m ks sh hg => ?_, fun _ g hg => ?_, fun _ => ⟨fun c hc => ?_, fun c hc => ?_, fun c hc => ?_, fun c hc => ?_, G.nb, G.ne, G.apart, G.obj⟩, fun e => (by rw [G.hot] at e; cases e), G.ofl, fun _ c m ks sh hg => ?_, fun _ m nm cs j ks hg => ?_, G.owns, G.xcs, fun _ => rfl, sc.nd, fun _ => hr.mono (by omega), fun _ => G.cold, fun c n fs src h => (G.raise c n fs src h).ok, G.exm, G.iss, G.flds, G.xc, fun r e => (by rw [G.cold] at e; cases e), fun i e => (by rw [G.xv] at e; cases e), fun _ => G.xv, fun _ => L2H.roomH_of (hr.mono (by omega)), fun e => (by rw [G.pk] at e; cases e)⟩, fun g l hg => ?_⟩
        · have := G.glob x g hx
          cases g <;> exact this
        · obtain ⟨F2, fd2, ps2, dvs2, ds2, e2, d2, b2, v2, r2⟩ := G.call g m es hg
          exact ⟨4 * n + 4, fd2, ps2, dvs2, ds2, fnOk G n g F2 fd2 ps2 e2 d2, hr.mono (by omega), b2, v2, r2⟩
        · obtain ⟨F2, fd2, ps2, e2, d2, kb⟩ := G.kcall g m ks sh hg
          exact ⟨4 * n + 4, fd2, ps2, fnOk G n g F2 fd2 ps2 e2 d2, hr.mono (by omega), kb⟩
        · obtain ⟨F2, fd2, ps2, e2, d2, b2, kp⟩ := G.fvs g hg
          exact ⟨⟨4 * n + 4, fd2, ps2, [], [], fnOk G n g F2 fd2 ps2 e2 d2, hr.mono (by omega), b2, .nil, fun _ => .nil⟩, kp⟩
        · exact spec c hc (mEq, "__eq__") (by simp)
        · exact spec c hc (mLen, "__len__") (by simp)
        · exact spec c hc (mStr, "__str__") (by simp)
        · exact spec c hc (mRepr, "__repr__") (by simp)
        · obtain ⟨hc, F2, fd2, ps2, e2, d2, mk, kb⟩ := G.news c m ks sh hg
          exact ⟨⟨4 * n + 4, fd2, ps2, fnOk G n _ F2 fd2 ps2 e2 d2, hr.mono (by omega), mk, kb⟩, hc⟩
        · obtain ⟨g1, g2, g3⟩ := G.meths m nm cs j ks hg
          refine ⟨g1, g2, fun c sh hc ho => ?_⟩
          obtain ⟨F2, fd2, ps2, e2, d2, mt, kb⟩ := g3 c sh hc ho
          exact ⟨4 * n + 4, fd2, ps2, mt, fnOk G n _ F2 fd2 ps2 e2 d2, hr.mono (by omega), kb⟩
        · obtain ⟨F2, fd2, ps2, d2, one, bd, hw⟩ := G.hots g l hg
          obtain ⟨x2, qual2, params2, body2, scope2, dvs2, kws2, ns2, fD2, sc2, hn2, hb2⟩ := d2.ex
          exact ⟨x2, qual2, params2, body2, scope2, dvs2, kws2, fd2, ns2, ps2, F2, fD2, sc2, hn2, one, bd, fun r X' hK F0 iX hk po Z => sSs (N.to r) T.hdef noC F2.body Z X' ⟨scope2, ns2, fun _ => true⟩ noE body2 ⟨F0, fun f l h => by cases h⟩ iX po hk takesF hb2, hw⟩
      refine sSs N T (callW P n) F.body (S, H) _ ⟨scope, ns, fun _ => true⟩ _ body Fx' ⟨rfl, rfl, fun _ => rfl, fun _ => ⟨rfl, rfl⟩⟩ (L2C.passX_of rfl) ⟨sc.kind, rfl, rfl⟩ ?_ hb
      refine L2C.Takes.imp (L2C.takes_of (E := E) rfl rfl rfl rfl) fun cls d σ H' ⟨x, ρ, S', rs, rh', fz, xd, S'', sub, q⟩ => ?_
      exact kx x S'' cls d H' (fz.sub sub) (rh'.sub sub) xd q
    · refine ⟨(S, H), _, S, { nx := fun _ S' => Q1 Qh .non S', rt := Q1 Qh, ex := fun x _ S' => Q1 Xh x S' }, Fr.refl, Fr.refl, rds_start G.cold r hn hl, rh, rfl, q, ?_⟩
      exact ⟨fun ρ S' σ H' rs rh' fz ⟨S'', sub, q⟩ => k .non S'' .non H' (fz.sub sub) (rh'.sub sub) mk_non q, fun _ _ _ _ _ _ _ z => False.elim z, fun _ _ _ _ _ _ _ z => False.elim z,
        fun d S' v H' rh' fz rd ⟨S'', sub, q⟩ => k d S'' v H' (fz.sub sub) (rh'.sub sub) rd q⟩
end
def gIdx {α : Type} (l : List (Sum Nat Nat)) (us ws its : List α) (z : α) : List α := l.map fun
  | .inl i => (us ++ ws).getD i z
  | .inr j => its.getD j z
def shOf (l : List (Sum Nat Nat)) (ds : List D) : List (Sum Nat D) := l.map fun
  | .inl i => .inl i
  | .inr j => .inr (ds.getD j .non)
theorem vals_getD {vs : List V} {us : List Value} (r : Vals vs us) (i : Nat) : RelV (vs.getD i .non) (us.getD i .none) := by
  have hl := r.length
  rw [List.getD_eq_getElem?_getD, List.getD_eq_getElem?_getD]
  by_cases h : i < vs.length
  · obtain ⟨u, e, ru⟩ := r.get (List.getElem?_eq_getElem h)
    rw [List.getElem?_eq_getElem h, e]
    exact ru
  · rw [List.getElem?_eq_none (by omega), List.getElem?_eq_none (by omega)]
    rfl
theorem rds_getD {N : Nm} {H : Hp} {ds : List D} {vs : List V} (r : RDs N H ds vs) (i : Nat) : RD N H (ds.getD i .non) (vs.getD i .non) := by
  have hl := r.length
  rw [List.getD_eq_getElem?_getD, List.getD_eq_getElem?_getD]
  by_cases h : i < ds.length
  · obtain ⟨v, e, rv⟩ := r.get (List.getElem?_eq_getElem h)
    rw [List.getElem?_eq_getElem h, e]
    exact rv
  · rw [List.getElem?_eq_none (by omega), List.getElem?_eq_none (by omega)]
    exact mk_non
theorem gIdx_vals {vs zs ds : List V} {us ws its : List Value} (r : Vals vs us) (rz : Vals zs ws) (rd : Vals ds its) : ∀ l : List (Sum Nat Nat), Vals (gIdx l vs zs ds .non) (gIdx l us ws its .none)
  | [] => .nil
  | .inl i :: l => .cons (vals_getD (r.append rz) i) (gIdx_vals r rz rd l)
  | .inr j :: l => .cons (vals_getD rd j) (gIdx_vals r rz rd l)
theorem gIdx_rds {N : Nm} {H : Hp} {ds zs es : List D} {vs us dvs : List V} (r : RDs N H ds vs) (rz : RDs N H zs us) (rd : RDs N H es dvs) : ∀ l : List (Sum Nat Nat), RDs N H (placeL (shOf l es) (ds ++ zs)) (gIdx l vs us dvs .non)
  | [] => .nil
  | .inl i :: l => .cons (rds_getD (r.append rz) i) (gIdx_rds r rz rd l)
  | .inr j :: l => .cons (rds_getD rd j) (gIdx_rds r rz rd l)
section
variable {N : Nm} {K : PySem.W.Frag} {x qual : Str} {params : Arguments} {body : List Stmt} {scope : Scope} {dvs : List V} {kws : List (Str × V)} {f : Addr} {fd : FuncData} {ps : List Str}
theorem kb_some (F : FunD K x qual params body scope dvs kws f fd) (hd : dvs ≠ []) (es : List D) (hes : ∀ H, RDs N H es dvs) (n : Nat) (ks : List Str) (l : List (Sum Nat Nat))
    (h : ∀ (T : Addr) (kV doc pm : Value) (an : Option Addr) (cdv ct : Value) (us its ws : List Value), us.length = n → its.length = dvs.length → ws.length = ks.length →
      ∃ k, bindArgs (PySem.W.fnOf x qual params body scope (.ref T) kV doc pm an cdv ct) ⟨us, ks.zip ws⟩ = seqItems? (.ref T) >>= k ∧ k (some its.toArray) = pure (ps.zip (gIdx l us ws its .none))) :
    KB N K fd ps n ks (.perm (shOf l es)) := by
  obtain ⟨oc, od, dV, kV, doc, pm, an, cdv, ct, osl, rfl, lk, hcd, hD, hK⟩ := F.ex
  rcases hD with ⟨e, _⟩ | ⟨_, T, o, its, m, rfl, lT, oT, rT⟩
  · exact absurd e hd
  · refine ⟨fun us ws => gIdx l us ws its .none, fun vs zs => gIdx l vs zs dvs .non, ⟨fun s us ws X l1 l2 => ?_, fun r rz => gIdx_vals r rz rT l⟩, fun H ds zs vs us r rz _ _ => gIdx_rds r rz (hes H) l⟩
    obtain ⟨k, e1, e2⟩ := h T kV doc pm an cdv ct us its ws l1 rT.length.symm l2
    refine BindsTo.of_looks fun M => ?_
    rw [e1]
    exact looks_items X lT oT (.of_pure e2)
end
def Alls {α : Type} (Q : α → Prop) : List α → Prop
  | [] => True
  | x :: r => Q x ∧ Alls Q r
theorem Alls.mem {α : Type} {Q : α → Prop} : ∀ {l : List α}, Alls Q l → ∀ x, x ∈ l → Q x
  | [], _, x, h => by cases h
  | y :: r, a, x, h => by
    rcases List.mem_cons.mp h with rfl | h
    · exact a.1
    · exact Alls.mem a.2 x h
theorem rds_intsL {N : Nm} {H : Hp} : ∀ ns : List Int, RDs N H (ns.map .int) (ns.map V.int)
  | [] => .nil
  | n :: ns => .cons mk_int (rds_intsL ns)
theorem law_sp {N : Nm} {C : Orc} {f : Nat} {H : Hp} {a : Addr} {ns : List Int} (hO : Only H) (hS : SqL N.K H a (ns.map V.int)) (h : C f [.lis (ns.map .int)] (fun _ => none) (fun d _ => d = .bl true) fun _ _ => False) :
    spF N C f [.ref a] H (fun v _ => v = .bl true) fun _ _ _ => False := by
  refine ⟨[.lis (ns.map .int)], fun _ => none, _, _, .cons ?_ .nil, fun a o e => (by cases e), h, fun d S' v H' _ _ r e => ?_, fun x S' cls d H' _ _ _ q => q⟩
  · simp only [RD]
    refine ⟨a, ns.map V.int, rfl, ?_, rds_intsL ns⟩
    rcases hS with (hS | ⟨o, hS⟩) | hS
    · rcases hO a with z | ⟨ob, xs, z⟩
      · rw [hS] at z; cases z
      · rw [hS] at z; cases z
    · exact .inl ⟨o, hS⟩
    · exact .inr (.inr hS)
  · subst e
    exact rd_bl r
theorem walkA {l : PySem.W.OpenLaw} {n k : Nat} {q : Program} {loose : List Str} {XP : (Str → Option Value) → Heap → Prop} {YP : World → Heap → Prop} {d : DefRec} {x : Str}
    (hn : l.most = some n) (hn2 : n ≤ sizeLine) (hdf : d.params.defaults = []) (hr : Room k callerA)
    (F : ∀ (w : World) (mg : Str → Option Value) (fa : Addr) (h : Heap), YP w h → h.Ns mainGlobals mg → mg d.name = some (.ref fa) →
      ∃ (N : Nm) (C : Orc) (f : Nat) (fd : FuncData), N.K.In h ∧ (∀ (s : Shared) (u : Value), BindsTo s fd ⟨[u], []⟩ [(x, u)]) ∧
        (∀ base : Heap, N.K.In base → base.Ns mainGlobals mg → FnOk l.prog w N.K mg base (L2C.CX l.prog w) k fa fd [x] (spF N C f)) ∧
        ∀ ns : List Int, ns.length ≤ n → C f [.lis (ns.map .int)] (fun _ => none) (fun d _ => d = .bl true) fun _ _ => False) :
    PySem.W.WalkO q loose XP YP l.row.toRowW d [] (fun f vs => PySem.call f vs) := by
  refine Att.attach_call hn hdf fun w s0 s1 mg mb fa o pm cd doc a vs ns G Y ho hd hcd hmg hobj hints hlen hg => ?_
  obtain ⟨N, C, f, fd, KX, hb, hF, hs⟩ := F w mg fa _ Y G.T.g hmg
  refine law_call KX G.T.g G.T.b G.T.builtins G.T.nolimit hg hobj hints (Nat.le_trans hlen hn2) hr hF hb (fun H hO hS => law_sp hO hS (hs ns hlen)) fun H e s' z => ?_
  obtain ⟨_, _, _, _, _, _, _, _, _, _, _, _, _, _, _, z⟩ := z
  exact z
end A
namespace A
open PySem L2 PyProof.Rows He
theorem refsT_ok {t : List Value} : ∀ {l : List Value}, refsT t l = true → ∃ rs : List Addr, l = rs.map Value.ref ++ t
  | [], h => ⟨[], of_decide_eq_true h⟩
  | v :: r, h => by
    cases v with
    | ref a =>
      obtain ⟨rs, e⟩ := refsT_ok (l := r) h
      exact ⟨a :: rs, by rw [e]; rfl⟩
    | _ => exact ⟨[], of_decide_eq_true h⟩
theorem oxB_ok {K : PySem.W.Frag} {C : Addr} {look : Bool} (h : oxB K C look = true) : OxC K C := by
  unfold oxB at h
  simp only [Bool.and_eq_true, decide_eq_true_eq] at h
  obtain ⟨h0, h1, h2, h3, h4⟩ := h
  refine ⟨?_, h1, h2, h3, h4⟩
  split at h0
  · rename_i ty od cd sl lk
    simp only [Bool.and_eq_true, decide_eq_true_eq, Bool.not_eq_true'] at h0
    obtain ⟨⟨⟨⟨g1, g2⟩, g3⟩, g4⟩, g5⟩ := h0
    obtain ⟨c1, c2, c3, c4, c5, c6, c7, c8, c9, c10, c11⟩ := cd
    dsimp only at g2 g3 g4
    subst g1 g2 g3
    split at g4
    · rename_i C' bm
      obtain ⟨e1, e2⟩ := Bool.and_eq_true_iff.mp g4
      obtain ⟨rs, rfl⟩ := refsT_ok e2
      have e3 := of_decide_eq_true e1
      subst e3
      split at g5
      · rename_i k0 k1 k2 k3 n k5 es
        have e4 := of_decide_eq_true g5
        subst e4
        have e5 : sl = #[k0, k1, k2, k3, some (.builtin (newOf look)), k5] := by
          cases sl
          simp only at es
          rw [es]
        subst e5
        cases look with
        | true => exact ⟨_, _, _, _, rs, _, _, _, _, _, _, _, _, _, _, _, "LookupError", _, "LookupError.__init__", lk, F.excBase_LookupError, thr_look, by decide +kernel, rfl⟩
        | false => exact ⟨_, _, _, _, rs, _, _, _, _, _, _, _, _, _, _, _, "ValueError", _, "ValueError.__init__", lk, F.excBase_ValueError, thr_val, by decide +kernel, rfl⟩
      · cases g5
    · cases g4
  · cases h0
theorem excB_ok {K : PySem.W.Frag} {D : Addr} (h : excB K D = true) : ExcC K D ∧ XfC K D ∧ PySem.W.typeIn K (.ref D) = some (.type "type") := by
  unfold excB at h
  simp only [Bool.and_eq_true, decide_eq_true_eq] at h
  obtain ⟨h1, h2, h3, h4, h5, h6, h7, h8, h9⟩ := h
  exact ⟨⟨h1, h2, h3, h4, h5, h6, h7, h8⟩, ⟨h1, h2, h3, h4⟩, h9⟩
theorem tab_ok {l : List (Nat × Bool)} {cs : List Nat} {f : Nat → Option Bool} (h : (cs.all fun c => match l.lookup c with
    | some b => decide (f c = some b)
    | none => true) = true) {c : Nat} {b : Bool} (hc : c ∈ cs) (e : l.lookup c = some b) : f c = some b := by
  have := List.all_eq_true.mp h c hc
  rw [e] at this
  exact of_decide_eq_true this
structure ClsI (K : PySem.W.Frag) (fs : List PySem.Str) (C : Addr) : Prop where
  cls : L2.Cls K C
  no : ∀ f ∈ fs, NoAttr K C f
  ne : PySem.W.findIn K (.ref C) "__ne__" = some (some (.builtin "object.__ne__"))
  obj : PySem.W.mroIn K C (.type "object") = some true
  cl : PySem.W.findIn K (.ref C) "__class__" = some (some (.builtin "object.__class__"))
  mks : PySem.W.makesIn K C = true
  kp : PySem.W.keepIn K (.ref C) = true
  nb : PySem.W.findIn K (.ref C) "__bool__" = some none
end A
namespace A
open PySem L2
section
variable {S : Sta} {Q : K} {C : Orc} {ρ : Env} {P : Bool → Prop} {R : Bool → Sta → Prop} {W : Sta → Prop}
theorem callW_of {P : Prg} {n f : Nat} {ds : List D} {S : Sta} {Q X : K} {F : Fn} (h : P f = some F) (hl : ds.length = F.k)
    (w : wB (callW P n) F.body (ds.map some ++ List.replicate (F.n - F.k) none) S { nx := fun _ S' => Q1 Q .non S', rt := Q1 Q, ex := fun x _ S' => Q1 X x S' }) : callW P (n + 1) f ds S Q X := ⟨F, h, hl, w⟩
theorem q1_of {Q : K} {d : D} {S : Sta} (h : Q d S) : Q1 Q d S := ⟨S, Sub.refl S, h⟩
theorem at_pos {α : Type} {l : List α} {i : Int} {a : α} (h0 : 0 ≤ i) (h : l[i.toNat]? = some a) : L2.atI l i = some a := by
  obtain ⟨j, rfl⟩ := Int.eq_ofNat_of_zero_le h0
  exact L2.atI_nat (by simpa using h)
@[simp] theorem at_0 {α : Type} (a : α) (l : List α) : L2.atI (a :: l) 0 = some a := L2.atI_nat (xs := a :: l) (j := 0) rfl
@[simp] theorem at_1 {α : Type} (a b : α) (l : List α) : L2.atI (a :: b :: l) 1 = some b := L2.atI_nat (xs := a :: b :: l) (j := 1) rfl
@[simp] theorem at_2 {α : Type} (a b c : α) (l : List α) : L2.atI (a :: b :: c :: l) 2 = some c := L2.atI_nat (xs := a :: b :: c :: l) (j := 2) rfl
@[simp] theorem at_3 {α : Type} (a b c d : α) (l : List α) : L2.atI (a :: b :: c :: d :: l) 3 = some d := L2.atI_nat (xs := a :: b :: c :: d :: l) (j := 3) rfl
def truO (o : Option MO) (P : Bool → Prop) : Prop := match o with
  | some (.lst xs) => P (!xs.isEmpty)
  | some (.dic kvs) => P (!kvs.isEmpty)
  | _ => False
@[simp] theorem tru_bl {b : Bool} : wtru S (.bl b) P = P b := rfl
@[simp] theorem tru_int {i : Int} : wtru S (.int i) P = P (i != 0) := rfl
@[simp] theorem tru_non : wtru S .non P = P false := rfl
@[simp] theorem tru_str {s : Str} : wtru S (.str s) P = (s.length ≤ sizeLine ∧ P (s.length != 0)) := rfl
@[simp] theorem tru_tup {l : List D} : wtru S (.tup l) P = P (!l.isEmpty) := rfl
@[simp] theorem tru_ref {a : Addr} : wtru S (.ref a) P = truO (S a) P := rfl
@[simp] theorem truO_lst {l : List D} : truO (some (.lst l)) P = P (!l.isEmpty) := rfl
@[simp] theorem bin_add {i j : Int} : wbin .add (.int i) (.int j) S Q = Q (.int (i + j)) S := rfl
@[simp] theorem bin_adds {i j : Str} : wbin .add (.str i) (.str j) S Q = (i.length + j.length ≤ sizeLine ∧ Q (.str (i ++ j)) S) := rfl
@[simp] theorem bin_addt {i j : List D} : wbin .add (.tup i) (.tup j) S Q = (i.length + j.length ≤ sizeLine ∧ Q (.tup (i ++ j)) S) := rfl
@[simp] theorem bin_sub {i j : Int} : wbin .sub (.int i) (.int j) S Q = Q (.int (i - j)) S := rfl
@[simp] theorem bin_mul {i j : Int} : wbin .mul (.int i) (.int j) S Q = (MulOk i j ∧ Q (.int (i * j)) S) := rfl
@[simp] theorem bin_div {i j : Int} : wbin .div (.int i) (.int j) S Q = (L2.CDivW i j ∧ Q (.int (i / j)) S) := rfl
@[simp] theorem bin_mod {i j : Int} : wbin .mod (.int i) (.int j) S Q = (0 < j ∧ Q (.int (i % j)) S) := rfl
@[simp] theorem bin_pow {i j : Int} : wbin .pow (.int i) (.int j) S Q = (L2.CPow i j ∧ Q (.int (i ^ j.toNat)) S) := rfl
@[simp] theorem ip_add {i j : Int} : wip .add (.int i) (.int j) S Q = Q (.int (i + j)) S := rfl
@[simp] theorem ip_sub {i j : Int} : wip .sub (.int i) (.int j) S Q = Q (.int (i - j)) S := rfl
@[simp] theorem cmp_lt {i j : Int} : wcmp C .lt (.int i) (.int j) S R = R (decide (i < j)) S := rfl
@[simp] theorem cmp_le {i j : Int} : wcmp C .le (.int i) (.int j) S R = R (decide (i ≤ j)) S := rfl
@[simp] theorem cmp_gt {i j : Int} : wcmp C .gt (.int i) (.int j) S R = R (decide (j < i)) S := rfl
@[simp] theorem cmp_ge {i j : Int} : wcmp C .ge (.int i) (.int j) S R = R (decide (j ≤ i)) S := rfl
@[simp] theorem cmp_is {x : D} : wcmp C .is x .non S R = R (match x with | .non => true | _ => false) S := rfl
@[simp] theorem cmp_isn {x : D} : wcmp C .isn x .non S R = R (match x with | .non => false | _ => true) S := rfl
@[simp] theorem cmp_eqi {i j : Int} : wcmp C .eq (.int i) (.int j) S R = R (i == j) S := rfl
@[simp] theorem cmp_eqs {i j : Str} : wcmp C .eq (.str i) (.str j) S R = R (i == j) S := rfl
@[simp] theorem cmp_eqb {i j : Bool} : wcmp C .eq (.bl i) (.bl j) S R = R (i == j) S := rfl
@[simp] theorem cmp_nei {i j : Int} : wcmp C .ne (.int i) (.int j) S R = R (!(i == j)) S := rfl
@[simp] theorem cmp_nes {i j : Str} : wcmp C .ne (.str i) (.str j) S R = R (!(i == j)) S := rfl
@[simp] theorem cmp_neb {i j : Bool} : wcmp C .ne (.bl i) (.bl j) S R = R (!(i == j)) S := rfl
@[simp] theorem cmp_inss {c z : Str} : wcmp C .inn (.str c) (.str z) S R = ∃ n, c = ⟨#[n]⟩ ∧ R (decide (n ∈ z.cps.toList)) S := rfl
def ixO (o : Option MO) (i : D) (S : Sta) (Q : K) : Prop := match o with
  | some (.lst l) => (match i with | .int k => ∃ d, L2.atI l k = some d ∧ Q d S | _ => False)
  | some (.dic kvs) => ∃ k d, keyD i = some k ∧ kget kvs k = some d ∧ Q d S
  | some (.dicF kvs _) => ∃ k d, keyD i = some k ∧ kget kvs k = some d ∧ Q d S
  | _ => False
@[simp] theorem ix_tupI {l : List D} {k : Int} : wix (.tup l) (.int k) S Q = ∃ d, L2.atI l k = some d ∧ Q d S := rfl
@[simp] theorem ix_lisI {l : List D} {k : Int} : wix (.lis l) (.int k) S Q = ∃ d, L2.atI l k = some d ∧ Q d S := rfl
@[simp] theorem ix_strI {z : Str} {k : Int} : wix (.str z) (.int k) S Q = (z.length ≤ sizeLine ∧ ∃ n, L2.atI z.cps.toList k = some n ∧ Q (.str ⟨#[n]⟩) S) := rfl
@[simp] theorem ix_ref {a : Addr} {i : D} : wix (.ref a) i S Q = ixO (S a) i S Q := rfl
@[simp] theorem ixM_ref {a : Addr} {i : D} : wixM (.ref a) i S Q = ixO (S a) i S Q := rfl
@[simp] theorem ixO_lst {l : List D} {k : Int} : ixO (some (.lst l)) (.int k) S Q = ∃ d, L2.atI l k = some d ∧ Q d S := rfl
def setO (a : Addr) (o : Option MO) (i d : D) (S : Sta) (W : Sta → Prop) : Prop := match o with
  | some (.lst l) => (match i with | .int k => ∃ j, L2.ixN l.length k = some j ∧ W (ups S a (.lst (l.set j d))) | _ => False)
  | some (.dic kvs) => kvs.length < sizeLine ∧ ∃ k, keyD i = some k ∧ W (ups S a (.dic (kput kvs k d)))
  | _ => False
@[simp] theorem set_ref {a : Addr} {i d : D} : wsetix (.ref a) i d S W = setO a (S a) i d S W := rfl
@[simp] theorem setO_lst {a : Addr} {l : List D} {k : Int} {d : D} : setO a (some (.lst l)) (.int k) d S W = ∃ j, L2.ixN l.length k = some j ∧ W (ups S a (.lst (l.set j d))) := rfl
def slO (o : Option MO) (l h : Option Int) (S : Sta) (Q : K) : Prop := match o with
  | some (.lst xs) => ∀ p, S p = none → Q (.ref p) (ups S p (.lst (cutD xs l h)))
  | _ => False
@[simp] theorem sl_tupI {xs : List D} {l h : Option Int} : wsl (.tup xs) l h S Q = Q (.tup (cutD xs l h)) S := rfl
@[simp] theorem sl_lisI {xs : List D} {l h : Option Int} : wsl (.lis xs) l h S Q = ∀ p, S p = none → Q (.ref p) (ups S p (.lst (cutD xs l h))) := rfl
@[simp] theorem sl_strI {z : Str} {l h : Option Int} : wsl (.str z) l h S Q = (z.length ≤ sizeLine ∧ Q (.str (L2.cutS z l h)) S) := rfl
@[simp] theorem sl_ref {a : Addr} {l h : Option Int} : wsl (.ref a) l h S Q = slO (S a) l h S Q := rfl
@[simp] theorem slO_lst {xs : List D} {l h : Option Int} : slO (some (.lst xs)) l h S Q = ∀ p, S p = none → Q (.ref p) (ups S p (.lst (cutD xs l h))) := rfl
@[simp] theorem end_nil {d : D} {P : Option Int → Prop} : endD .nil d P = P none := rfl
@[simp] theorem end_c {e d : D} {P : Option Int → Prop} : endD (.c e) d P = (match d with | .int i => P (some i) | _ => False) := rfl
@[simp] theorem end_v {j : Nat} {d : D} {P : Option Int → Prop} : endD (.v j) d P = (match d with | .int i => P (some i) | _ => False) := rfl
@[simp] theorem end_bin {o : Bo} {a b : E} {d : D} {P : Option Int → Prop} : endD (.bin o a b) d P = (match d with | .int i => P (some i) | _ => False) := rfl
@[simp] theorem end_neg {a : E} {d : D} {P : Option Int → Prop} : endD (.neg a) d P = (match d with | .int i => P (some i) | _ => False) := rfl
def lenO (C : Orc) (d : D) (o : Option MO) (S : Sta) (Q : K) : Prop := match o with
  | some (.lst xs) => Q (.int xs.length) S
  | some (.dic kvs) => Q (.int kvs.length) S
  | some (.ins c _) => C (mth c mLen) [d] S (fun r S' => (∃ n : Nat, n < 9223372036854775808 ∧ r = .int n) ∧ Q r S') fun _ _ => False
  | _ => False
@[simp] theorem len_str {s : Str} : wb1 C .len (.str s) S Q = (s.length ≤ sizeLine ∧ Q (.int s.length) S) := rfl
@[simp] theorem len_tup {l : List D} : wb1 C .len (.tup l) S Q = Q (.int l.length) S := rfl
@[simp] theorem len_lis {l : List D} : wb1 C .len (.lis l) S Q = Q (.int l.length) S := rfl
@[simp] theorem len_ref {a : Addr} : wb1 C .len (.ref a) S Q = lenO C (.ref a) (S a) S Q := rfl
@[simp] theorem lenO_lst {d : D} {l : List D} : lenO C d (some (.lst l)) S Q = Q (.int l.length) S := rfl
@[simp] theorem int_int {i : Int} : wb1 C .int (.int i) S Q = Q (.int i) S := rfl
@[simp] theorem int_bl {i : Bool} : wb1 C .int (.bl i) S Q = Q (.int (if i then 1 else 0)) S := rfl
@[simp] theorem list_b {d : D} : wb1 C .list d S Q = ∃ xs, itemsK S d = some xs ∧ ∀ p, S p = none → Q (.ref p) (ups S p (.lst xs)) := rfl
@[simp] theorem tuple_b {d : D} : wb1 C .tuple d S Q = ∃ xs, itemsT S d = some xs ∧ Q (.tup xs) S := rfl
@[simp] theorem sum_b {d : D} : wb1 C .sum d S Q = ∃ xs ns, itemsL S d = some xs ∧ intsOf xs = some ns ∧ Q (.int ns.sum) S := rfl
@[simp] theorem all_b {d : D} : wb1 C .all d S Q = ∃ xs bs, itemsL S d = some xs ∧ bsOf xs = some bs ∧ Q (.bl (bs.all id)) S := rfl
@[simp] theorem any_b {d : D} : wb1 C .any d S Q = ∃ xs bs, itemsL S d = some xs ∧ bsOf xs = some bs ∧ Q (.bl (bs.any id)) S := rfl
def lO (o : Option MO) : Option (List D) := match o with
  | some (.lst xs) => some xs
  | _ => none
@[simp] theorem lO_lst {xs : List D} : lO (some (.lst xs)) = some xs := rfl
@[simp] theorem itemsL_ref {a : Addr} : itemsL S (.ref a) = lO (S a) := rfl
@[simp] theorem itemsL_lis {l : List D} : itemsL S (.lis l) = some l := rfl
@[simp] theorem itemsT_ref {a : Addr} : itemsT S (.ref a) = lO (S a) := rfl
@[simp] theorem itemsT_tup {l : List D} : itemsT S (.tup l) = some l := rfl
@[simp] theorem items_tup {l : List D} : items S (.tup l) = some l := rfl
@[simp] theorem items_str {s : Str} : items S (.str s) = some (s.cps.toList.map fun c => .str ⟨#[c]⟩) := rfl
@[simp] theorem items_ref {a : Addr} : items S (.ref a) = lO (S a) := rfl
@[simp] theorem holds_tup {l : List D} : holds S (.tup l) = [] := rfl
@[simp] theorem holds_str {l : Str} : holds S (.str l) = [] := rfl
def hO (a : Addr) (o : Option MO) : List (Addr × MO) := match o with
  | some o => [(a, o)]
  | none => []
@[simp] theorem hO_some {a : Addr} {o : MO} : hO a (some o) = [(a, o)] := rfl
@[simp] theorem holds_ref {a : Addr} : holds S (.ref a) = hO a (S a) := rfl
@[simp] theorem held_nil : Held [] S := fun p h => by cases h
def tyO (o : Option MO) : Option Ty := match o with
  | some (.lst _) => some .list
  | some (.dic _) => some .dict
  | _ => none
@[simp] theorem ty_ref {a : Addr} : tyD S (.ref a) = tyO (S a) := by
  cases e : S a with
  | none => simp [tyD, tyO, e]
  | some o => cases o <;> simp [tyD, tyO, e]
@[simp] theorem ty_str {a : Str} : tyD S (.str a) = some .str := rfl
@[simp] theorem tyO_lst {xs : List D} : tyO (some (.lst xs)) = some .list := rfl
@[simp] theorem has_append : bmHas .append .list = true := rfl
@[simp] theorem has_join : bmHas .join .str = true := rfl
def appO (a : Addr) (o : Option MO) (d : D) (S : Sta) (Q : K) : Prop := match o with
  | some (.lst xs) => xs.length < sizeLine ∧ Q .non (ups S a (.lst (xs ++ [d])))
  | _ => False
@[simp] theorem bm_append {a : Addr} {d : D} : wbm .append .list (.ref a) [d] S Q = appO a (S a) d S Q := rfl
@[simp] theorem appO_lst {a : Addr} {xs : List D} {d : D} : appO a (some (.lst xs)) d S Q = (xs.length < sizeLine ∧ Q .non (ups S a (.lst (xs ++ [d])))) := rfl
@[simp] theorem bm_join {z : Str} {d : D} : wbm .join .str (.str z) [d] S Q = ∃ xs ss, itemsT S d = some xs ∧ strsOf xs = some ss ∧ (ss.map (·.length)).sum + ss.length * z.length ≤ 16777216 ∧ Q (.str (Txt.join z ss)) S := rfl
theorem isKds_1 {S : Sta} {x : D} {k : Kd} : isKds S x [k] = isKd S x k := by
  unfold isKds
  cases isKd S x k with
  | none => rfl
  | some b => cases b <;> rfl
@[simp] theorem isk1 {x : D} {k : Kd} : isKds S x [k] = isKd S x k := isKds_1
@[simp] theorem tgN1 {i : Nat} {d : D} {P : Env → Prop} : wtgN [i] d ρ P = P (ρ.set i (some d)) := rfl
@[simp] theorem tgN2 {i j : Nat} {a b : D} {P : Env → Prop} : wtgN [i, j] (.tup [a, b]) ρ P = (True ∧ P ((ρ.set i (some a)).set j (some b))) := by
  simp [wtgN, A.setN]
@[simp] theorem ups_at {a : Addr} {o : MO} : ups S a o a = some o := ups_same
@[simp] theorem ups_up {a : Addr} {o u : MO} : ups (ups S a o) a u = ups S a u := ups_ups
@[simp] theorem wipe1 {i : Nat} : wipeD ρ [i] = ρ.set i none := rfl
@[simp] theorem wipe2 {i j : Nat} : wipeD ρ [i, j] = (ρ.set j none).set i none := rfl
end
def R_law_box : Fn := ⟨1, 1,
    (.cons (.ret (.lst (.cons (.b1 .list (.sl (.v 0) .nil (.c (.int 63)))) (.cons (.c (.int 0)) (.cons (.c (.int 0)) (.cons (.c (.int 17)) .nil))))))
    .nil)⟩
def B_law_take_10 : Ss := .cons (.ret (.bin .mod (.v 2) (.v 1))) .nil
def B_law_take_9 : Ss := .cons (.asg (.ix (.v 0) (.c (.int 2))) (.bin .div (.v 2) (.v 1))) B_law_take_10
def B_law_take_8 : Ss := .cons (.asg (.n [2]) (.ix (.v 0) (.c (.int 2)))) B_law_take_9
def B_law_take_12 : Ss := .cons (.augI .add (.v 0) (.c (.int 1)) (.c (.int 1))) .nil
def B_law_take_11 : Ss := .cons (.asg (.n [3]) (.ix (.ix (.v 0) (.c (.int 0))) (.ix (.v 0) (.c (.int 1))))) B_law_take_12
def B_law_take_14 : Ss := .cons (.ret (.bin .mod (.v 3) (.v 1))) .nil
def B_law_take_13 : Ss := .cons (.asg (.ix (.v 0) (.c (.int 2))) (.bin .div (.v 3) (.v 1))) B_law_take_14
def B_law_take_7 : Ss := .cons (.ret (.bin .mod (.bin .div (.ix (.v 0) (.c (.int 3))) (.c (.int 64))) (.v 1))) .nil
def B_law_take_6 : Ss := .cons (.asg (.ix (.v 0) (.c (.int 3))) (.bin .mod (.bin .add (.v 4) (.c (.int 11))) (.c (.int 2147483629)))) B_law_take_7
def B_law_take_5 : Ss := .cons (.asg (.n [4]) (.bin .add (.bin .add (.bin .pow (.v 4) (.c (.int 3))) (.bin .mul (.c (.int 48271)) (.v 4))) (.bin .mul (.c (.int 69621)) (.bin .mod (.v 3) (.c (.int 2147483629)))))) B_law_take_6
def B_law_take_4 : Ss := .cons (.asg (.n [4]) (.ix (.v 0) (.c (.int 3)))) B_law_take_5
def B_law_take_3 : Ss := .cons (.ite (.cmp .ge (.v 3) (.bin .pow (.c (.int 10)) (.c (.int 18))))
    B_law_take_13
    .nil) B_law_take_4
def B_law_take_2 : Ss := .cons (.ite (.cmp .lt (.ix (.v 0) (.c (.int 1))) (.b1 .len (.ix (.v 0) (.c (.int 0)))))
    B_law_take_11
    .nil) B_law_take_3
def B_law_take_1 : Ss := .cons (.asg (.n [3]) (.c (.int 0))) B_law_take_2
def B_law_take_0 : Ss := .cons (.ite (.cmp .gt (.ix (.v 0) (.c (.int 2))) (.c (.int 0)))
    B_law_take_8
    .nil) B_law_take_1
def R_law_take : Fn := ⟨5, 2, B_law_take_0⟩
def B_law_same_6 : Ss := .cons (.ret (.c (.bl false))) .nil
def B_law_same_5 : Ss := .cons (.ret (.and (.cmp .eq (.b1 .len (.v 0)) (.b1 .len (.v 1))) (.b1 .all (.lc (.call 3 (.app []) (.cons (.v 2) (.cons (.v 3) .nil))) [2, 3] [2, 3] (.zip (.v 0) (.v 1) false) (.c (.bl true)))))) .nil
def B_law_same_4 : Ss := .cons (.ite (.or (.cmp .ne (.isi (.v 0) [.list]) (.isi (.v 1) [.list])) (.cmp .ne (.isi (.v 0) [.tuple]) (.isi (.v 1) [.tuple])))
    B_law_same_6
    .nil) B_law_same_5
def B_law_same_7 : Ss := .cons (.ret (.and (.cmp .is (.v 0) (.c (.non))) (.cmp .is (.v 1) (.c (.non))))) .nil
def B_law_same_8 : Ss := .cons (.ret (.c (.bl false))) .nil
def B_law_same_3 : Ss := .cons (.ret (.and (.cmp .eq (.isi (.v 0) [.str]) (.isi (.v 1) [.str])) (.cmp .eq (.v 0) (.v 1)))) .nil
def B_law_same_2 : Ss := .cons (.ite (.or (.cmp .ne (.isi (.v 0) [.bool]) (.isi (.v 1) [.bool])) (.cmp .ne (.isi (.v 0) [.int]) (.isi (.v 1) [.int])))
    B_law_same_8
    .nil) B_law_same_3
def B_law_same_1 : Ss := .cons (.ite (.or (.cmp .is (.v 0) (.c (.non))) (.cmp .is (.v 1) (.c (.non))))
    B_law_same_7
    .nil) B_law_same_2
def B_law_same_0 : Ss := .cons (.ite (.or (.isi (.v 1) [.list]) (.isi (.v 1) [.tuple]))
    B_law_same_4
    .nil) B_law_same_1
def R_law_same : Fn := ⟨4, 2, B_law_same_0⟩
def R_law_far : Fn := ⟨1, 1,
    (.cons (.ret (.ix (.lst (.cons (.call 2 (.app []) (.cons (.v 0) (.cons (.c (.int 40)) .nil))) (.cons (.call 2 (.app []) (.cons (.v 0) (.cons (.bin .pow (.c (.int 10)) (.c (.int 6))) .nil))) (.cons (.bin .add (.bin .pow (.c (.int 10)) (.c (.int 29))) (.call 2 (.app []) (.cons (.v 0) (.cons (.bin .pow (.c (.int 10)) (.c (.int 18))) .nil)))) .nil)))) (.call 2 (.app []) (.cons (.v 0) (.cons (.c (.int 3)) .nil)))))
    .nil)⟩
def R_law_names : Fn := ⟨8, 2,
    (.cons (.asg (.n [2]) (.c (.str "abcdefghijklmnopqrstuvwxyz")))
    (.cons (.asg (.n [3]) (.bm .join (.c (.str "")) (.cons (.lc (.ix (.v 2) (.call 2 (.app []) (.cons (.v 0) (.cons (.c (.int 26)) .nil)))) [4] [4] (.rng (.call 2 (.app []) (.cons (.v 0) (.cons (.c (.int 8)) .nil)))) (.c (.bl true))) .nil)))
    (.cons (.asg (.n [5]) (.call 2 (.app []) (.cons (.v 0) (.cons (.c (.int 26)) .nil))))
    (.cons (.asg (.n [6]) (.lc (.bin .add (.v 3) (.ix (.v 2) (.bin .mod (.bin .add (.v 5) (.bin .mul (.c (.int 11)) (.v 4))) (.c (.int 26))))) [4] [4] (.rng (.v 1)) (.c (.bl true))))
    (.cons (.asg (.n [7]) (.lc (.bin .add (.sl (.ix (.v 6) (.bin .sub (.v 4) (.bin .mod (.v 4) (.c (.int 2))))) (.neg (.c (.int 7))) .nil) (.ix (.lst (.cons (.c (.str "")) (.cons (.c (.str "b")) .nil))) (.bin .mod (.v 4) (.c (.int 2))))) [4] [4] (.rng (.v 1)) (.c (.bl true))))
    (.cons (.ret (.ix (.lst (.cons (.v 6) (.cons (.v 7) .nil))) (.bin .div (.call 2 (.app []) (.cons (.v 0) (.cons (.c (.int 3)) .nil))) (.c (.int 2)))))
    .nil))))))⟩
def R_law_tree : Fn := ⟨7, 4,
    (.cons (.asg (.n [4]) (.bin .add (.c (.int 2)) (.call 2 (.app []) (.cons (.v 0) (.cons (.c (.int 4)) .nil)))))
    (.cons (.ite (.or (.cmp .eq (.v 1) (.c (.int 1))) (.or (.cmp .lt (.ix (.v 3) (.c (.int 0))) (.bin .sub (.v 4) (.c (.int 1)))) (.cmp .lt (.call 2 (.app []) (.cons (.v 0) (.cons (.c (.int 5)) .nil))) (.c (.int 2)))))
    (.cons (.ret (.tup (.cons (.c (.str "one")) (.cons (.ix (.v 2) (.call 2 (.app []) (.cons (.v 0) (.cons (.b1 .len (.v 2)) .nil)))) .nil))))
    .nil)
    .nil)
    (.cons (.augI .sub (.v 3) (.c (.int 0)) (.bin .sub (.v 4) (.c (.int 1))))
    (.cons (.asg (.n [5]) (.b1 .tuple (.lc (.call 14 (.app []) (.cons (.v 0) (.cons (.bin .sub (.v 1) (.c (.int 1))) (.cons (.v 2) (.cons (.v 3) .nil))))) [6] [6] (.rng (.v 4)) (.c (.bl true)))))
    (.cons (.ret (.tup (.cons (.c (.str "turns")) (.cons (.call 2 (.app []) (.cons (.v 0) (.cons (.v 4) .nil))) (.cons (.v 5) .nil)))))
    .nil)))))⟩
def B_law_right_6 : Ss := .cons (.ret (.call 14 (.app []) (.cons (.v 0) (.cons (.c (.int 4)) (.cons (.v 1) (.cons (.lst (.cons (.c (.int 23)) .nil)) .nil)))))) .nil
def B_law_right_5 : Ss := .cons (.ret (.tup (.cons (.c (.str "turns")) (.cons (.call 2 (.app []) (.cons (.v 0) (.cons (.v 3) .nil))) (.cons (.v 5) .nil))))) .nil
def B_law_right_4 : Ss := .cons (.asg (.n [5]) (.b1 .tuple (.lc (.call 14 (.app []) (.cons (.v 0) (.cons (.v 2) (.cons (.v 1) (.cons (.v 4) .nil))))) [6] [6] (.rng (.v 3)) (.c (.bl true))))) B_law_right_5
def B_law_right_3 : Ss := .cons (.asg (.n [4]) (.lst (.cons (.bin .sub (.c (.int 24)) (.v 3)) .nil))) B_law_right_4
def B_law_right_2 : Ss := .cons (.asg (.n [3]) (.bin .add (.c (.int 2)) (.call 2 (.app []) (.cons (.v 0) (.cons (.c (.int 4)) .nil))))) B_law_right_3
def B_law_right_1 : Ss := .cons (.ite (.cmp .eq (.v 2) (.c (.int 0)))
    B_law_right_6
    .nil) B_law_right_2
def B_law_right_0 : Ss := .cons (.asg (.n [2]) (.call 2 (.app []) (.cons (.v 0) (.cons (.c (.int 4)) .nil)))) B_law_right_1
def R_law_right : Fn := ⟨7, 2, B_law_right_0⟩
def R_law_pool : Fn := ⟨1, 1,
    (.cons (.ret (.sl (.call 13 (.app []) (.cons (.v 0) (.cons (.c (.int 7)) .nil))) .nil (.bin .add (.c (.int 1)) (.call 2 (.app []) (.cons (.v 0) (.cons (.c (.int 7)) .nil))))))
    .nil)⟩
def R_law_at : Fn := ⟨3, 2,
    (.cons (.for_ (.n [2]) (.seq (.v 1))
    (.cons (.ite (.or (.cmp .eq (.ix (.v 0) (.c (.int 0))) (.c (.str "one"))) (.not (.chn (.c (.int 0)) .le (.v 2) .lt (.b1 .len (.ix (.v 0) (.c (.int 2)))))))
    (.cons (.ret (.c (.non)))
    .nil)
    .nil)
    (.cons (.asg (.n [0]) (.ix (.ix (.v 0) (.c (.int 2))) (.v 2)))
    .nil)))
    (.cons (.ret (.v 0))
    .nil))⟩
def R_law_paths : Fn := ⟨5, 1,
    (.cons (.asg (.n [1]) (.lst (.cons (.tup .nil) .nil)))
    (.cons (.ite (.cmp .eq (.ix (.v 0) (.c (.int 0))) (.c (.str "turns")))
    (.cons (.for_ (.n [2, 3]) (.enm (.ix (.v 0) (.c (.int 2))) 0)
    (.cons (.asg (.n [1]) (.bin .add (.v 1) (.lc (.bin .add (.tup (.cons (.v 2) .nil)) (.v 4)) [4] [4] (.seq (.call 33 (.app []) (.cons (.v 3) .nil))) (.c (.bl true)))))
    .nil))
    .nil)
    .nil)
    (.cons (.ret (.v 1))
    .nil)))⟩
def R_later_of : Fn := ⟨2, 2,
    (.cons (.ret (.bin .mod (.bin .sub (.v 1) (.ix (.v 0) (.c (.int 1)))) (.b1 .len (.ix (.v 0) (.c (.int 2))))))
    .nil)⟩
def B_due_6 : Ss := .cons (.asg (.n [2]) (.ix (.ix (.v 2) (.c (.int 2))) (.v 4))) .nil
def B_due_5 : Ss := .cons (.asg (.n [1]) (.bin .div (.bin .sub (.v 1) (.call 37 (.app []) (.cons (.v 2) (.cons (.v 4) .nil)))) (.v 3))) B_due_6
def B_due_4 : Ss := .cons (.asg (.n [4]) (.bin .mod (.bin .add (.ix (.v 2) (.c (.int 1))) (.v 1)) (.v 3))) B_due_5
def B_due_3 : Ss := .cons (.asg (.n [3]) (.b1 .len (.ix (.v 2) (.c (.int 2))))) B_due_4
def B_due_2 : Ss := .cons (.ret (.ix (.v 2) (.c (.int 1)))) .nil
def B_due_1 : Ss := .cons (.whl (.cmp .eq (.ix (.v 2) (.c (.int 0))) (.c (.str "turns")))
    B_due_3) B_due_2
def B_due_0 : Ss := .cons (.asg (.n [2]) (.v 0)) B_due_1
def R_due : Fn := ⟨5, 2, B_due_0⟩
def R_law_any : Fn := ⟨1, 1,
    (.cons (.ret (.bin .mul (.call 4 (.app []) (.cons (.v 0) .nil)) (.bin .sub (.c (.int 1)) (.bin .mul (.c (.int 2)) (.call 2 (.app []) (.cons (.v 0) (.cons (.c (.int 2)) .nil)))))))
    .nil)⟩
def R_turn_of : Fn := ⟨4, 3,
    (.cons (.ite (.cmp .eq (.v 1) (.tup .nil))
    (.cons (.ret (.v 2))
    .nil)
    .nil)
    (.cons (.ite (.or (.cmp .eq (.ix (.v 0) (.c (.int 0))) (.c (.str "one"))) (.not (.chn (.c (.int 0)) .le (.ix (.v 1) (.c (.int 0))) .lt (.b1 .len (.ix (.v 0) (.c (.int 2)))))))
    (.cons (.raise 23 [0, 3] [.inr (.str "NoPart"), .inl 0] (.cons (.v 1) .nil) false)
    .nil)
    .nil)
    (.cons (.asg (.n [3]) (.call 56 (.app []) (.cons (.ix (.ix (.v 0) (.c (.int 2))) (.ix (.v 1) (.c (.int 0)))) (.cons (.v 1) (.cons (.v 2) .nil)))))
    (.cons (.ret (.bin .add (.call 37 (.app []) (.cons (.v 0) (.cons (.ix (.v 1) (.c (.int 0))) .nil))) (.bin .mul (.b1 .len (.ix (.v 0) (.c (.int 2)))) (.v 3))))
    .nil))))⟩
def R_number_below : Fn := ⟨4, 3,
    (.cons (.try_ (.cons (.ret (.callk 55 (.perm [.inl 0, .inl 1, .inl 2]) (.cons (.v 0) (.cons (.sl (.v 1) (.c (.int 1)) .nil) (.cons (.v 2) .nil))) .nil))
    .nil)
    (.rfr [(0, false), (1, false), (2, false), (3, false), (4, false), (5, false), (6, false), (7, false), (8, false), (9, false), (10, false), (11, false), (12, false), (13, false), (14, false), (15, false), (16, false), (17, false), (18, false), (19, false), (20, false), (21, false), (22, false), (23, true)] 3 23 [0, 3] [.inr (.str "NoPart"), .inl 0] (.cons (.v 1) .nil) .nil))
    .nil)⟩
def R_law_turn_of : Fn := ⟨5, 3,
    (.cons (.ite (.cmp .eq (.v 1) (.tup .nil))
    (.cons (.ret (.v 2))
    .nil)
    .nil)
    (.cons (.asg (.n [3]) (.b1 .len (.ix (.v 0) (.c (.int 2)))))
    (.cons (.asg (.n [4]) (.call 57 (.app []) (.cons (.ix (.ix (.v 0) (.c (.int 2))) (.ix (.v 1) (.c (.int 0)))) (.cons (.sl (.v 1) (.c (.int 1)) .nil) (.cons (.v 2) .nil)))))
    (.cons (.ret (.bin .add (.bin .mod (.bin .sub (.ix (.v 1) (.c (.int 0))) (.ix (.v 0) (.c (.int 1)))) (.v 3)) (.bin .mul (.v 3) (.v 4))))
    .nil))))⟩
def R_law_missing_2 : Fn := ⟨4, 2,
    (.cons (.asg (.n [2]) (.lst .nil))
    (.cons (.try_ (.cons (.ex (.callk 55 (.perm [.inl 0, .inl 1, .inr (.int 0)]) (.cons (.v 0) (.cons (.v 1) .nil)) .nil))
    .nil)
    (.cons [(0, false), (1, false), (2, false), (3, false), (4, false), (5, false), (6, false), (7, false), (8, false), (9, false), (10, false), (11, false), (12, false), (13, false), (14, false), (15, false), (16, false), (17, false), (18, false), (19, false), (20, false), (21, false), (22, false), (23, true)] (some 3)
    (.cons (.asg (.n [2]) (.lst (.cons (.xfl 3 3) .nil)))
    .nil)
    .nil))
    (.cons (.ret (.v 2))
    .nil)))⟩
def tblR : List (Nat × Fn) := ([(1, R_law_box), (2, R_law_take), (3, R_law_same), (4, R_law_far), (13, R_law_names), (14, R_law_tree), (15, R_law_right), (16, R_law_pool), (32, R_law_at), (33, R_law_paths), (37, R_later_of), (38, R_due), (52, R_law_any), (55, R_turn_of), (56, R_number_below), (57, R_law_turn_of), (58, R_law_missing_2)] : List (Nat × Fn))
def PG : Prg := fun f => tblR.lookup f
def Lib (P : Prg) : Prop := ∀ f F, PG f = some F → P f = some F
theorem tbl_lt {n : Nat} : ∀ (l : List (Nat × Fn)), (l.all fun p => decide (p.1 ≠ n)) = true → ∀ {k : Nat} {F : Fn}, l.lookup k = some F → k ≠ n
  | [], _, _, _, e => by cases e
  | (a, x) :: r, h, k, F, e => by
    simp only [List.all_cons, Bool.and_eq_true, decide_eq_true_eq] at h
    simp only [List.lookup] at e
    split at e
    · rename_i hb
      rw [beq_iff_eq.mp hb]
      exact h.1
    · exact tbl_lt r h.2 e
def fTake : Fn := ⟨5, 2,
    (.cons (.ite (.cmp .gt (.ix (.v 0) (.c (.int 2))) (.c (.int 0)))
    (.cons (.asg (.n [2]) (.ix (.v 0) (.c (.int 2))))
    (.cons (.asg (.ix (.v 0) (.c (.int 2))) (.bin .div (.v 2) (.v 1)))
    (.cons (.ret (.bin .mod (.v 2) (.v 1)))
    .nil)))
    .nil)
    (.cons (.asg (.n [3]) (.c (.int 0)))
    (.cons (.ite (.cmp .lt (.ix (.v 0) (.c (.int 1))) (.b1 .len (.ix (.v 0) (.c (.int 0)))))
    (.cons (.asg (.n [3]) (.ix (.ix (.v 0) (.c (.int 0))) (.ix (.v 0) (.c (.int 1)))))
    (.cons (.augI .add (.v 0) (.c (.int 1)) (.c (.int 1)))
    .nil))
    .nil)
    (.cons (.ite (.cmp .ge (.v 3) (.bin .pow (.c (.int 10)) (.c (.int 18))))
    (.cons (.asg (.ix (.v 0) (.c (.int 2))) (.bin .div (.v 3) (.v 1)))
    (.cons (.ret (.bin .mod (.v 3) (.v 1)))
    .nil))
    .nil)
    (.cons (.asg (.n [4]) (.ix (.v 0) (.c (.int 3))))
    (.cons (.asg (.n [4]) (.bin .add (.bin .add (.bin .pow (.v 4) (.c (.int 3))) (.bin .mul (.c (.int 48271)) (.v 4))) (.bin .mul (.c (.int 69621)) (.bin .mod (.v 3) (.c (.int 2147483629))))))
    (.cons (.asg (.ix (.v 0) (.c (.int 3))) (.bin .mod (.bin .add (.v 4) (.c (.int 11))) (.c (.int 2147483629))))
    (.cons (.ret (.bin .mod (.bin .div (.ix (.v 0) (.c (.int 3))) (.c (.int 64))) (.v 1)))
    .nil))))))))⟩
def Box (b : Addr) (S : Sta) : Prop := ∃ (q : Addr) (ns : List Int) (i r s : Int), S b = some (.lst [.ref q, .int i, .int r, .int s]) ∧ S q = some (.lst (ns.map .int)) ∧ 0 ≤ i ∧ 0 ≤ s ∧ s < 2147483629 ∧ b ≠ q
structure Keep (b : Addr) (S S' : Sta) : Prop where
  all : ∀ a o, a ≠ b → S a = some o → S' a = some o
  top : ∀ q r, S b = some (.lst (.ref q :: r)) → ∃ r', S' b = some (.lst (.ref q :: r'))
instance {b : Addr} {S S' : Sta} : CoeFun (Keep b S S') (fun _ => ∀ a o, a ≠ b → S a = some o → S' a = some o) := ⟨Keep.all⟩
theorem Keep.refl {b : Addr} {S : Sta} : Keep b S S := ⟨fun _ _ _ h => h, fun _ r h => ⟨r, h⟩⟩
theorem Keep.trans {b : Addr} {S S1 S2 : Sta} (h : Keep b S S1) (g : Keep b S1 S2) : Keep b S S2 := ⟨fun a o n e => g a o n (h a o n e), fun q r e => let ⟨r1, e1⟩ := h.top q r e; g.top q r1 e1⟩
theorem Keep.put {b : Addr} {S : Sta} {l : List D} (h : ∀ q r, S b = some (.lst (.ref q :: r)) → ∃ r', l = .ref q :: r') : Keep b S (ups S b (.lst l)) := ⟨fun a u n e => by rw [ups_ne n]; exact e, fun q r e => by obtain ⟨r', e'⟩ := h q r e; exact ⟨r', by rw [ups_same, e']⟩⟩
theorem Keep.new {b p : Addr} {S : Sta} {o : MO} (h : S p = none) : Keep b S (ups S p o) := ⟨fun a u n e => by rw [ups_ne (sne e h)]; exact e, fun q r e => ⟨r, by rw [ups_ne (sne e h)]; exact e⟩⟩
theorem ixN1 : L2.ixN 4 1 = some 1 := by decide
theorem ixN2 : L2.ixN 4 2 = some 2 := by decide
theorem ixN3 : L2.ixN 4 3 = some 3 := by decide
theorem take_at {P : Prg} {n t : Nat} {b : Addr} {S : Sta} {k : Int} {Q X : K} (h : P t = some fTake) (hb : Box b S) (h0 : 0 < k) (h1 : k ≤ 10 ^ 30)
    (q : ∀ v l, 0 ≤ v → v < k → (∀ q r, S b = some (.lst (.ref q :: r)) → ∃ r', l = .ref q :: r') → Box b (ups S b (.lst l)) → Q (.int v) (ups S b (.lst l))) : callW P (n + 1) t [.ref b, .int k] S Q X := by
  obtain ⟨l, ns, i, r, s, e1, e2, i0, s0, s1, hne⟩ := hb
  have hk : k.natAbs.log2 < 9000 := by
    have h2 : k.natAbs < 2 ^ 100 := by omega
    have := (Nat.log2_lt (by omega)).mpr h2
    omega
  have hm : ∀ x : Int, 0 ≤ x % k ∧ x % k < k := fun x => ⟨Int.emod_nonneg _ (by omega), Int.emod_lt_of_pos _ h0⟩
  refine callW_of h rfl ?_
  have pow1 : L2.CPow 10 18 := by unfold L2.CPow; decide
  have mo : ∀ (c x : Int), 0 ≤ c → c < 100000 → MulOk c x := fun c x h1 h2 => .inl (.inl ⟨by omega, by omega⟩)
  have dv : ∀ x : Int, L2.CDivW x k := fun x => ⟨h0, hk⟩
  have d64 : ∀ x : Int, L2.CDivW x 64 := fun x => ⟨by decide, by decide⟩
  have ps : L2.CPow s 3 := ⟨by decide, by decide, by omega⟩
  have m1 := mo 48271 s (by decide) (by decide)
  have m2 : ∀ x, MulOk 69621 x := fun x => mo 69621 x (by decide) (by decide)
  have fin : ∀ (x r' s' j : Int), 0 ≤ j → 0 ≤ s' → s' < 2147483629 → Q1 Q (.int (x % k)) (ups S b (.lst [.ref l, .int j, .int r', .int s'])) := fun x r' s' j g0 g1 g2 =>
    q1_of (q _ _ (hm x).1 (hm x).2 (fun q r e => by rw [e1] at e; cases e; exact ⟨_, rfl⟩) ⟨l, ns, j, r', s', ups_same, by rw [ups_ne (Ne.symm hne)]; exact e2, g0, g1, g2, hne⟩)
  have sd : ∀ x : Int, 0 ≤ x % 2147483629 ∧ x % 2147483629 < 2147483629 := fun x => ⟨Int.emod_nonneg _ (by omega), Int.emod_lt_of_pos _ (by omega)⟩
  simp [fTake, wB, wS, wE, wTg, e1, e2, ixN1, ixN2, ixN3, dv, d64, pow1, ps, m1, m2, h0]
  split
  · exact fin r _ _ _ i0 s0 s1
  · split
    · rename_i hi
      have hi2 : i.toNat < ns.length := by omega
      refine ⟨.int ns[i.toNat], ?_, ?_⟩
      · exact at_pos i0 (by simp [hi2])
      · simp [ixN1, ixN2, ixN3, dv, d64, ps, m1, m2, h0]
        split
        · exact fin _ _ _ (i + 1) (by omega) s0 s1
        · exact fin _ _ _ (i + 1) (by omega) (sd _).1 (sd _).2
    · exact fin _ _ _ _ i0 (sd _).1 (sd _).2
theorem take_ok {P : Prg} {n t : Nat} {b : Addr} {S : Sta} {k : Int} {Q X : K} (h : P t = some fTake) (hb : Box b S) (h0 : 0 < k) (h1 : k ≤ 10 ^ 30)
    (q : ∀ v S', 0 ≤ v → v < k → Box b S' → Keep b S S' → Q (.int v) S') : callW P (n + 1) t [.ref b, .int k] S Q X :=
  take_at h hb h0 h1 fun v o g0 g1 ht bb => q v _ g0 g1 bb (Keep.put ht)
theorem wcomp_nat {h : List (Addr × MO)} {f : D → Sta → (Option D → Sta → Prop) → Prop} {Q : List D → Sta → Prop} {S : Sta} (xs : List D) (hl : xs.length < 16777216) (I : Nat → List D → Sta → Prop) (h0 : I 0 [] S)
    (hh : ∀ i acc S, I i acc S → Held h S) (sz : ∀ i acc S, I i acc S → acc.length ≤ i)
    (st : ∀ i x acc S R, xs[i]? = some x → I i acc S → (∀ d S', I (i + 1) (acc ++ [d]) S' → R (some d) S') → (∀ S', I (i + 1) acc S' → R none S') → f x S R)
    (fin : ∀ acc S, I xs.length acc S → Q acc S) : wcomp h f xs [] S Q := by
  have go : ∀ (n i : Nat) acc S, i + n = xs.length → I i acc S → wcomp h f (xs.drop i) acc S Q := fun n => by
    induction n with
    | zero =>
      intro i acc S e hI
      have e' : i = xs.length := by omega
      subst e'
      rw [List.drop_length, wcomp]
      exact ⟨hh _ _ _ hI, fin _ _ hI⟩
    | succ n ih =>
      intro i acc S e hI
      have hi : i < xs.length := by omega
      rw [List.drop_eq_getElem_cons hi, wcomp]
      refine ⟨hh _ _ _ hI, st i _ acc S _ (List.getElem?_eq_getElem hi) hI (fun d S' hI' => ⟨?_, ih (i + 1) _ S' (by omega) hI'⟩) fun S' hI' => ih (i + 1) _ S' (by omega) hI'⟩
      have := sz _ _ _ hI
      have hs : sizeLine = 16777216 := sizeLine_eq
      omega
  have := go xs.length 0 [] S (by omega) h0
  rwa [List.drop_zero] at this
theorem wfor_nat {h : List (Addr × MO)} {f : D → Env → Sta → (Env → Sta → Prop) → Prop} {Q : Env → Sta → Prop} {S : Sta} {ρ : Env} (xs : List D) (I : Nat → Env → Sta → Prop) (h0 : I 0 ρ S)
    (hh : ∀ i ρ S, I i ρ S → Held h S)
    (st : ∀ i x ρ S R, xs[i]? = some x → I i ρ S → (∀ ρ' S', I (i + 1) ρ' S' → R ρ' S') → f x ρ S R)
    (fin : ∀ ρ S, I xs.length ρ S → Q ρ S) : wfor h f xs ρ S Q := by
  have go : ∀ (n i : Nat) ρ S, i + n = xs.length → I i ρ S → wfor h f (xs.drop i) ρ S Q := fun n => by
    induction n with
    | zero =>
      intro i ρ S e hI
      have e' : i = xs.length := by omega
      subst e'
      rw [List.drop_length, wfor]
      exact ⟨hh _ _ _ hI, fin _ _ hI⟩
    | succ n ih =>
      intro i ρ S e hI
      have hi : i < xs.length := by omega
      rw [List.drop_eq_getElem_cons hi, wfor]
      exact ⟨hh _ _ _ hI, st i _ ρ S _ (List.getElem?_eq_getElem hi) hI fun ρ' S' hI' => ih (i + 1) _ S' (by omega) hI'⟩
  have := go xs.length 0 ρ S (by omega) h0
  rwa [List.drop_zero] at this
theorem Sub.new {p : Addr} {S : Sta} {o : MO} (h : S p = none) : Sub S (A.ups S p o) := fun a u e => by rw [ups_ne (sne e h)]; exact e
theorem Sub.keep {b : Addr} {S S' : Sta} (h : Sub S S') : Keep b S S' := ⟨fun a o _ e => h a o e, fun _ r e => ⟨r, h _ _ e⟩⟩
theorem Box.sub {b : Addr} {S S' : Sta} (h : Sub S S') (x : Box b S) : Box b S' := by
  obtain ⟨q, ns, i, r, s, e1, e2, y⟩ := x
  exact ⟨q, ns, i, r, s, h _ _ e1, h _ _ e2, y⟩
def fBox : Fn := ⟨1, 1,
    (.cons (.ret (.lst (.cons (.b1 .list (.sl (.v 0) .nil (.c (.int 63)))) (.cons (.c (.int 0)) (.cons (.c (.int 0)) (.cons (.c (.int 17)) .nil))))))
    .nil)⟩
theorem cutD_ints (ns : List Int) (l h : Option Int) : ∃ ms : List Int, cutD (ns.map .int) l h = ms.map .int := by
  unfold cutD
  rw [← List.map_drop, ← List.map_take]
  exact ⟨_, rfl⟩
theorem line4 {n : Nat} (h : n < 1000) : n ≤ sizeLine := by rw [sizeLine_eq]; omega
theorem box_ok {P : Prg} {n t : Nat} {S : Sta} {ns : List Int} {Q X : K} (h : P t = some fBox) (q : ∀ b S', Box b S' → Sub S S' → Q (.ref b) S') : callW P (n + 1) t [.lis (ns.map .int)] S Q X := by
  refine callW_of h rfl ?_
  obtain ⟨ms, e⟩ := cutD_ints ns none (some 63)
  simp [fBox, wB, wS, wE, wEs, itemsK, e]
  intro p hp r hr
  refine ⟨line4 (by decide), fun b hb => q1_of (q _ _ ⟨r, ms, 0, 0, 17, ups_same, ?_, by decide, by decide, by decide, ?_⟩ (((Sub.new hp).trans (Sub.new hr)).trans (Sub.new hb)))⟩
  · rw [ups_ne]
    · exact ups_same
    · rintro rfl; rw [ups_same] at hb; cases hb
  · rintro rfl; rw [ups_same] at hb; cases hb
def fSame (f : Nat) : Fn := ⟨4, 2,
    (.cons (.ite (.or (.isi (.v 1) [.list]) (.isi (.v 1) [.tuple]))
    (.cons (.ite (.or (.cmp .ne (.isi (.v 0) [.list]) (.isi (.v 1) [.list])) (.cmp .ne (.isi (.v 0) [.tuple]) (.isi (.v 1) [.tuple])))
    (.cons (.ret (.c (.bl false)))
    .nil)
    .nil)
    (.cons (.ret (.and (.cmp .eq (.b1 .len (.v 0)) (.b1 .len (.v 1))) (.b1 .all (.lc (.call f (.app []) (.cons (.v 2) (.cons (.v 3) .nil))) [2, 3] [2, 3] (.zip (.v 0) (.v 1) false) (.c (.bl true))))))
    .nil))
    .nil)
    (.cons (.ite (.or (.cmp .is (.v 0) (.c (.non))) (.cmp .is (.v 1) (.c (.non))))
    (.cons (.ret (.and (.cmp .is (.v 0) (.c (.non))) (.cmp .is (.v 1) (.c (.non)))))
    .nil)
    .nil)
    (.cons (.ite (.or (.cmp .ne (.isi (.v 0) [.bool]) (.isi (.v 1) [.bool])) (.cmp .ne (.isi (.v 0) [.int]) (.isi (.v 1) [.int])))
    (.cons (.ret (.c (.bl false)))
    .nil)
    .nil)
    (.cons (.ret (.and (.cmp .eq (.isi (.v 0) [.str]) (.isi (.v 1) [.str])) (.cmp .eq (.v 0) (.v 1))))
    .nil))))⟩
mutual
def depD : D → Nat
  | .tup l => 1 + depDs l
  | _ => 0
def depDs : List D → Nat
  | [] => 0
  | d :: r => max (depD d) (depDs r)
end
theorem both_tup {S : Sta} {a b xs ys : List D} : both S (.tup a) (.tup b) xs ys ↔ xs = a ∧ ys = b := by
  unfold both
  constructor
  · rintro (⟨h, _⟩ | ⟨h1, h2⟩)
    · cases h
    · cases h1; cases h2; exact ⟨rfl, rfl⟩
  · rintro ⟨rfl, rfl⟩
    exact .inr ⟨rfl, rfl⟩
theorem bsOf_rep : ∀ n : Nat, bsOf (List.replicate n (.bl true)) = some (List.replicate n true)
  | 0 => rfl
  | n + 1 => by rw [List.replicate_succ, bsOf, bsOf_rep n]; rfl
def sg (s : Str) : List Nat := s.cps.toList
theorem sg_len (s : Str) : s.length = (sg s).length := by unfold sg Str.length; simp
theorem sg_app (a b : Str) : sg (a ++ b) = sg a ++ sg b := by
  show (a.cps ++ b.cps).toList = _
  simp [sg]
def letters : Str := "abcdefghijklmnopqrstuvwxyz"
def isL (c : Nat) : Prop := 97 ≤ c ∧ c ≤ 122
theorem sg_letters : sg letters = (List.range 26).map (· + 97) := by decide +kernel
theorem letter_at {v : Int} (h0 : 0 ≤ v) (h1 : v < 26) : L2.atI (sg letters) v = some (97 + v.toNat) ∧ isL (97 + v.toNat) := by
  refine ⟨at_pos h0 ?_, by unfold isL; omega⟩
  rw [sg_letters, List.getElem?_map, List.getElem?_range (by omega)]
  simp; omega
def NameOk (s : Str) : Prop := 1 ≤ (sg s).length ∧ (sg s).length ≤ 8 ∧ ∀ c ∈ sg s, isL c
def one (c : Nat) : Str := ⟨#[c]⟩
theorem sg_join0 : ∀ cs : List Nat, sg (Str.join "" (cs.map one)) = cs
  | [] => rfl
  | [c] => rfl
  | c :: d :: r => by
    have ih := sg_join0 (d :: r)
    simp only [List.map_cons] at ih ⊢
    rw [Str.join, sg_app, sg_app, ih]
    · rfl
    · intro h; cases h
theorem strs_mapW : ∀ ss : List Str, strsOf (ss.map .str) = some ss
  | [] => rfl
  | s :: r => by rw [List.map_cons, strsOf, strs_mapW r]; rfl
theorem range_at {n i : Nat} {x : D} (h : ((List.range n).map fun (i : Nat) => D.int i)[i]? = some x) : i < n ∧ x = .int i := by
  rw [List.getElem?_map] at h
  obtain ⟨j, h1, h2⟩ := Option.map_eq_some_iff.mp h
  obtain ⟨h3, h4⟩ := List.getElem?_eq_some_iff.mp h1
  rw [List.length_range] at h3
  rw [List.getElem_range] at h4
  subst h4
  exact ⟨h3, h2.symm⟩
def fNames (t : Nat) : Fn := ⟨8, 2,
    (.cons (.asg (.n [2]) (.c (.str "abcdefghijklmnopqrstuvwxyz")))
    (.cons (.asg (.n [3]) (.bm .join (.c (.str "")) (.cons (.lc (.ix (.v 2) (.call t (.app []) (.cons (.v 0) (.cons (.c (.int 26)) .nil)))) [4] [4] (.rng (.call t (.app []) (.cons (.v 0) (.cons (.c (.int 8)) .nil)))) (.c (.bl true))) .nil)))
    (.cons (.asg (.n [5]) (.call t (.app []) (.cons (.v 0) (.cons (.c (.int 26)) .nil))))
    (.cons (.asg (.n [6]) (.lc (.bin .add (.v 3) (.ix (.v 2) (.bin .mod (.bin .add (.v 5) (.bin .mul (.c (.int 11)) (.v 4))) (.c (.int 26))))) [4] [4] (.rng (.v 1)) (.c (.bl true))))
    (.cons (.asg (.n [7]) (.lc (.bin .add (.sl (.ix (.v 6) (.bin .sub (.v 4) (.bin .mod (.v 4) (.c (.int 2))))) (.neg (.c (.int 7))) .nil) (.ix (.lst (.cons (.c (.str "")) (.cons (.c (.str "b")) .nil))) (.bin .mod (.v 4) (.c (.int 2))))) [4] [4] (.rng (.v 1)) (.c (.bl true))))
    (.cons (.ret (.ix (.lst (.cons (.v 6) (.cons (.v 7) .nil))) (.bin .div (.call t (.app []) (.cons (.v 0) (.cons (.c (.int 3)) .nil))) (.c (.int 2)))))
    .nil))))))⟩
theorem mul11 (x : Int) : MulOk 11 x := .inl (.inl ⟨by decide, by decide⟩)
theorem Sub.box {b : Addr} {S S' : Sta} (h : Sub S S') (x : Box b S) : Box b S' := x.sub h
theorem sum_one : ∀ cs : List Nat, ((cs.map one).map fun x => x.length).sum = cs.length
  | [] => rfl
  | c :: r => by
    simp only [List.map_cons, List.sum_cons, List.length_cons]
    rw [sum_one r]
    have : (one c).length = 1 := rfl
    omega
theorem Box.at {b p : Addr} {S : Sta} (x : Box b S) (h : S p = none) : p ≠ b := by
  obtain ⟨q, ns, i, r, s, e1, _⟩ := x
  rintro rfl
  rw [e1] at h; cases h
theorem cut7 {s : Str} (h : NameOk s) : 1 ≤ (sg (L2.cutS s (some (-7)) none)).length ∧ (sg (L2.cutS s (some (-7)) none)).length ≤ 7 ∧ ∀ c ∈ sg (L2.cutS s (some (-7)) none), isL c := by
  obtain ⟨h1, h2, h3⟩ := h
  have e : sg (L2.cutS s (some (-7)) none) = (sg s).drop ((sg s).length - 7) := by
    unfold L2.cutS sg
    have hl : s.length = s.cps.toList.length := by simp [Str.length]
    rw [hl]
    simp only [HT.sIx]
    have : (((-7 : Int)) + (s.cps.toList.length : Int)).toNat = s.cps.toList.length - 7 := by omega
    rw [if_pos (by decide), this]
    show (List.toArray _).toList = _
    rw [List.toList_toArray]
    rw [List.take_of_length_le (by rw [List.length_drop]; omega)]
  rw [e]
  refine ⟨by rw [List.length_drop]; omega, by rw [List.length_drop]; omega, fun c hc => h3 c (List.mem_of_mem_drop hc)⟩
def PoolS (ws : List Str) : Prop := (∃ q, (∀ s ∈ ws, (sg s).length = q ∨ (sg s).getLast? = some 98) ∧ ∀ s, ws[0]? = some s → (sg s).length = q) ∧ (ws.length ≤ 26 → ws.Nodup)
theorem cut7L {s : Str} (h : NameOk s) : (sg (L2.cutS s (some (-7)) none)).length = min 7 (sg s).length := by
  obtain ⟨h1, h2, h3⟩ := h
  have e : sg (L2.cutS s (some (-7)) none) = (sg s).drop ((sg s).length - 7) := by
    unfold L2.cutS sg
    have hl : s.length = s.cps.toList.length := by simp [Str.length]
    rw [hl]
    simp only [HT.sIx]
    have : (((-7 : Int)) + (s.cps.toList.length : Int)).toNat = s.cps.toList.length - 7 := by omega
    rw [if_pos (by decide), this]
    show (List.toArray _).toList = _
    rw [List.toList_toArray]
    rw [List.take_of_length_le (by rw [List.length_drop]; omega)]
  rw [e, List.length_drop]
  omega
theorem cut7e (s : Str) : sg (L2.cutS s (some (-7)) none) = (sg s).drop ((sg s).length - 7) := by
  unfold L2.cutS sg
  have hl : s.length = s.cps.toList.length := by simp [Str.length]
  rw [hl]
  simp only [HT.sIx]
  have : (((-7 : Int)) + (s.cps.toList.length : Int)).toNat = s.cps.toList.length - 7 := by omega
  rw [if_pos (by decide), this]
  show (List.toArray _).toList = _
  rw [List.toList_toArray]
  rw [List.take_of_length_le (by rw [List.length_drop]; omega)]
theorem folk_nd {cs : List Nat} {v : Int} {ws : List Str} (l : ws.length ≤ 26) (h : ∀ (j : Nat) (s : Str), ws[j]? = some s → sg s = cs ++ [97 + ((v + 11 * (j : Int)) % 26).toNat]) : ws.Nodup := by
  refine List.pairwise_iff_getElem.mpr fun i j hi hj hij e => ?_
  have h1 := h i _ (List.getElem?_eq_getElem hi)
  have h2 := h j _ (List.getElem?_eq_getElem hj)
  rw [e, h2] at h1
  have h3 := List.append_cancel_left h1
  simp at h3
  omega
theorem pairs_nd {cs : List Nat} {v : Int} {ws us : List Str} (l : us.length ≤ 26) (h : ∀ (j : Nat) (s : Str), ws[j]? = some s → sg s = cs ++ [97 + ((v + 11 * (j : Int)) % 26).toNat])
    (g : ∀ (j : Nat) (s : Str), us[j]? = some s → ∃ w : Str, ws[j - j % 2]? = some w ∧ sg s = sg (L2.cutS w (some (-7)) none) ++ (if j % 2 = 0 then [] else [98])) : us.Nodup := by
  refine List.pairwise_iff_getElem.mpr fun i j hi hj hij e => ?_
  obtain ⟨w1, a1, b1⟩ := g i _ (List.getElem?_eq_getElem hi)
  obtain ⟨w2, a2, b2⟩ := g j _ (List.getElem?_eq_getElem hj)
  have c1 := h _ _ a1
  have c2 := h _ _ a2
  rw [e, b2] at b1
  have d1 : sg (L2.cutS w1 (some (-7)) none) = cs.drop (cs.length + 1 - 7) ++ [97 + ((v + 11 * ((i - i % 2 : Nat) : Int)) % 26).toNat] := by
    rw [cut7e, c1, List.length_append, List.length_singleton, List.drop_append_of_le_length (by omega)]
  have d2 : sg (L2.cutS w2 (some (-7)) none) = cs.drop (cs.length + 1 - 7) ++ [97 + ((v + 11 * ((j - j % 2 : Nat) : Int)) % 26).toNat] := by
    rw [cut7e, c2, List.length_append, List.length_singleton, List.drop_append_of_le_length (by omega)]
  rw [d1, d2] at b1
  have hl := congrArg List.length b1
  have p1 : i % 2 = 0 ∨ i % 2 = 1 := by omega
  have p2 : j % 2 = 0 ∨ j % 2 = 1 := by omega
  rcases p1 with p1 | p1 <;> rcases p2 with p2 | p2 <;> simp only [p1, p2, if_true, Nat.one_ne_zero, if_false, List.length_append, List.length_singleton, List.length_nil, List.append_nil] at hl b1
  · have h3 := List.append_cancel_left b1
    simp at h3
    omega
  · omega
  · omega
  · rw [List.append_assoc, List.append_assoc] at b1
    have h3 := List.append_cancel_left b1
    simp at h3
    omega
theorem names_okZ {P : Prg} {n t g : Nat} {b : Addr} {S : Sta} {Q X : K} (ht : P t = some fTake) (h : P g = some (fNames t)) (m : Nat) (hm : m ≤ 100) (hb : Box b S)
    (q : ∀ (p : Addr) (ws : List Str) (S' : Sta), p ≠ b → S' p = some (.lst (ws.map D.str)) → ws.length = m → (∀ s ∈ ws, NameOk s) → PoolS ws → Box b S' → Keep b S S' → Q (.ref p) S') : callW P (n + 2) g [.ref b, .int m] S Q X := by
  refine callW_of h rfl ?_
  have hL : ("abcdefghijklmnopqrstuvwxyz" : Str) = letters := rfl
  simp only [fNames, hL]
  simp [wB, wS, wE, wEs, wIt, wTg, place]
  refine take_ok ht hb (by decide) (by decide) fun v8 S1 h1 h2 b1 k1 => ?_
  simp
  refine ⟨by omega, by omega, ?_⟩
  have hv : v8.toNat < 8 := by omega
  refine wcomp_nat _ (by simp; omega) (fun i acc S2 => ∃ cs : List Nat, acc = (cs.map one).map .str ∧ cs.length = i ∧ (∀ c ∈ cs, isL c) ∧ Box b S2 ∧ Keep b S1 S2) ⟨[], rfl, rfl, (fun _ h => nomatch h), b1, Keep.refl⟩ (fun _ _ _ _ => held_nil) (fun i acc S2 ⟨cs, e, l, _⟩ => by rw [e]; simp [l]) (fun i x acc S2 R hx ⟨cs, e, l, hc, b2, k2⟩ hr _ => ?_) fun acc S2 ⟨cs, e, l, hc, b2, k2⟩ p hp => ?_
  · obtain ⟨hi, rfl⟩ := range_at hx
    refine take_ok ht b2 (by decide) (by decide) fun v S3 g1 g2 b3 k3 => ?_
    obtain ⟨a1, a2⟩ := letter_at g1 g2
    simp
    refine ⟨by decide +kernel, _, a1, ?_⟩
    refine hr _ _ ⟨cs ++ [97 + v.toNat], by rw [e]; simp [one], by simp [l], fun c hc' => ?_, b3, k2.trans k3⟩
    rcases List.mem_append.mp hc' with h | h
    · exact hc c h
    · simp at h; subst h; exact a2
  simp at l
  have lz : (Str.ofString "").length = 0 := by decide +kernel
  refine ⟨cs.map one, by rw [e]; exact strs_mapW _, by rw [sum_one, lz]; omega, ?_⟩
  have hf : sg (Txt.join (Str.ofString "") (cs.map one)) = cs := by rw [TL.join_eq]; exact sg_join0 cs
  generalize Txt.join (Str.ofString "") (cs.map one) = f1 at hf
  have kp : Keep b S (ups S2 p (.lst acc)) := (k1.trans k2).trans (Keep.new hp)
  refine take_ok ht (b2.sub (Sub.new hp)) (by decide) (by decide) fun v2 S3 g1 g2 b3 k3 => ?_
  have k13 := kp.trans k3
  have m62 : (-(2 ^ 62) : Int) ≤ m ∧ (m : Int) < 2 ^ 62 := by omega
  refine ⟨by omega, ?_⟩
  refine wcomp_nat _ (by simp; omega) (fun i acc S' => ∃ ws : List Str, acc = ws.map .str ∧ ws.length = i ∧ (∀ s ∈ ws, NameOk s ∧ (sg s).length = cs.length + 1) ∧ (∀ (j : Nat) (s : Str), ws[j]? = some s → sg s = cs ++ [97 + ((v2 + 11 * (j : Int)) % 26).toNat]) ∧ S' = S3) ⟨[], rfl, rfl, (fun _ h => nomatch h), by simp, rfl⟩ (fun _ _ _ _ => held_nil) (fun i acc S2 ⟨cs, e, l, _⟩ => by rw [e]; simp [l]) (fun i x acc S2 R hx ⟨ws, e, l, hw, hj, hS⟩ hr _ => ?_) fun acc S' ⟨ws, e2, l2, hwL, hwJ, hS⟩ p2 hp2 => ?_
  · obtain ⟨hi, rfl⟩ := range_at hx
    subst hS
    obtain ⟨a1, a2⟩ := letter_at (v := (v2 + 11 * (i : Int)) % 26) (Int.emod_nonneg _ (by omega)) (Int.emod_lt_of_pos _ (by omega))
    simp [mul11]
    have fl : f1.length = cs.length := by rw [sg_len, hf]
    refine ⟨by decide +kernel, _, a1, ?_, ?_⟩
    · have o1 : ∀ c : Nat, Str.length ⟨#[c]⟩ = 1 := fun _ => rfl
      rw [fl, o1]
      exact line4 (by omega)
    · have es : sg (f1 ++ one (97 + ((v2 + 11 * (i : Int)) % 26).toNat)) = cs ++ [97 + ((v2 + 11 * (i : Int)) % 26).toNat] := by rw [sg_app, hf]; rfl
      refine hr _ _ ⟨ws ++ [f1 ++ one (97 + ((v2 + 11 * (i : Int)) % 26).toNat)], by rw [e]; simp [one], by simp [l], fun s hs => ?_, fun j s hs => ?_, rfl⟩
      rotate_left
      · by_cases hji : j < ws.length
        · rw [List.getElem?_append_left hji] at hs
          exact hj j s hs
        · have : j = i := by
            have := (List.getElem?_eq_some_iff.mp hs).1
            simp at this
            omega
          subst this
          rw [List.getElem?_append_right (by omega), show j - ws.length = 0 from by omega] at hs
          simp at hs
          rw [← hs, es]
      rcases List.mem_append.mp hs with h | h
      · exact hw s h
      · simp at h
        subst h
        refine ⟨⟨by rw [es]; simp, by rw [es]; simp; omega, fun c hc' => ?_⟩, by rw [es]; simp⟩
        rw [es] at hc'
        rcases List.mem_append.mp hc' with h | h
        · exact hc c h
        · simp at h; subst h; exact a2
  · simp at l2
    subst hS
    have hw : ∀ s ∈ ws, NameOk s := fun s hs => (hwL s hs).1
    have n2 := b3.at hp2
    refine ⟨by omega, ?_⟩
    refine wcomp_nat _ (by simp; omega) (fun i acc' S4 => ∃ us : List Str, acc' = us.map .str ∧ us.length = i ∧ (∀ s ∈ us, NameOk s) ∧ ((∀ s ∈ us, (sg s).length = min 7 (cs.length + 1) ∨ (sg s).getLast? = some 98) ∧ ∀ s, us[0]? = some s → (sg s).length = min 7 (cs.length + 1)) ∧ (∀ (j : Nat) (s : Str), us[j]? = some s → ∃ w : Str, ws[j - j % 2]? = some w ∧ sg s = sg (L2.cutS w (some (-7)) none) ++ (if j % 2 = 0 then [] else [98])) ∧ Sub (ups S' p2 (.lst acc)) S4) ⟨[], rfl, rfl, (fun _ h => nomatch h), ⟨(fun _ h => nomatch h), by simp⟩, by simp, Sub.refl _⟩ (fun _ _ _ _ => held_nil) (fun i acc S2 ⟨cs, e, l, _⟩ => by rw [e]; simp [l]) (fun i x acc' S4 R hx ⟨us, e, l, hu, pu, pj, sb⟩ hr _ => ?_) fun acc' S4 ⟨us, e3, l3, hu, pu, pj, sb⟩ p3 hp3 => ?_
    · obtain ⟨hi, rfl⟩ := range_at hx
      have hp : S4 p2 = some (.lst acc) := sb _ _ ups_same
      simp [hp]
      have hj : ((i : Int) - (i : Int) % 2).toNat < ws.length := by omega
      refine ⟨.str ws[((i : Int) - (i : Int) % 2).toNat], at_pos (by omega) (by rw [e2]; simp [hj]), ?_⟩
      have hn := hw _ (List.getElem_mem hj)
      have hn2 := (hwL _ (List.getElem_mem hj)).2
      have hn3 : ws[i - i % 2]? = some ws[((i : Int) - (i : Int) % 2).toNat] := by
        have e : i - i % 2 = ((i : Int) - (i : Int) % 2).toNat := by omega
        rw [e]
        exact List.getElem?_eq_getElem hj
      generalize ws[((i : Int) - (i : Int) % 2).toNat] = w1 at hn hn2 hn3
      obtain ⟨c1, c2, c3⟩ := cut7 hn
      have c4 := cut7L hn
      rw [hn2] at c4
      have w8 : w1.length ≤ sizeLine := by rw [sg_len]; have := hn.2.1; exact line4 (by omega)
      simp [w8]
      refine ⟨line4 (by decide), fun p5 hp5 => ?_⟩
      have fin : ∀ z : Str, (sg z = sg (L2.cutS w1 (some (-7)) none) ++ sg (Str.ofString "") ∧ i % 2 = 0) ∨ (0 < i ∧ i % 2 = 1) ∧ sg z = sg (L2.cutS w1 (some (-7)) none) ++ sg (Str.ofString "b") → R (some (.str z)) (ups S4 p5 (.lst [.str (Str.ofString ""), .str (Str.ofString "b")])) := fun z hz => by
        have s0 : sg (Str.ofString "") = [] := by decide +kernel
        have sb' : sg (Str.ofString "b") = [98] := by decide +kernel
        rw [s0, sb', List.append_nil] at hz
        refine hr _ _ ⟨us ++ [z], by rw [e]; simp, by simp [l], fun s hs => ?_, ⟨fun s hs => ?_, fun s hs => ?_⟩, fun j s hs => ?_, sb.trans (Sub.new hp5)⟩
        rotate_left
        · rcases List.mem_append.mp hs with h | h
          · exact pu.1 s h
          · simp at h
            subst h
            rcases hz with ⟨hz, _⟩ | ⟨_, hz⟩
            · exact .inl (by rw [hz, c4])
            · exact .inr (by rw [hz]; simp)
        · by_cases i0 : us = []
          · subst i0
            simp at l hs
            subst hs
            rcases hz with ⟨hz, _⟩ | ⟨hi0, _⟩
            · rw [hz, c4]
            · omega
          · have : 0 < us.length := List.length_pos_iff.mpr i0
            rw [List.getElem?_append_left this] at hs
            exact pu.2 s hs
        · by_cases hji : j < us.length
          · rw [List.getElem?_append_left hji] at hs
            exact pj j s hs
          · have : j = i := by
              have := (List.getElem?_eq_some_iff.mp hs).1
              simp at this
              omega
            subst this
            rw [List.getElem?_append_right (by omega), show j - us.length = 0 from by omega] at hs
            simp at hs
            subst hs
            refine ⟨w1, hn3, ?_⟩
            rcases hz with ⟨hz, h0⟩ | ⟨⟨_, h0⟩, hz⟩
            · rw [hz, if_pos h0, List.append_nil]
            · rw [hz, if_neg (by omega)]
        rcases List.mem_append.mp hs with h | h
        · exact hu s h
        · simp at h
          subst h
          rcases hz with ⟨hz, _⟩ | ⟨_, hz⟩
          · exact ⟨by rw [hz]; exact c1, by rw [hz]; omega, fun c hc => c3 c (hz ▸ hc)⟩
          · refine ⟨by rw [hz]; simp, by rw [hz]; simp; omega, fun c hc => ?_⟩
            rw [hz] at hc
            rcases List.mem_append.mp hc with h | h
            · exact c3 c h
            · simp at h; subst h; unfold isL; omega
      have lb : ∀ z : Str, z = Str.ofString "" ∨ z = Str.ofString "b" → z.length ≤ 1 := fun z hz => by
        rcases hz with rfl | rfl <;> decide +kernel
      have sz : ∀ z : Str, z = Str.ofString "" ∨ z = Str.ofString "b" → (L2.cutS w1 (some (-7)) none).length + z.length ≤ sizeLine := fun z hz => by
        have := lb z hz
        rw [sg_len (L2.cutS w1 (some (-7)) none)]
        exact line4 (by omega)
      have h01 : (i : Int) % 2 = 0 ∨ (i : Int) % 2 = 1 := by omega
      rcases h01 with h01 | h01
      · rw [h01]
        refine ⟨_, at_0 _ _, ?_⟩
        exact ⟨sz _ (.inl rfl), fin _ (.inl ⟨sg_app _ _, by omega⟩)⟩
      · rw [h01]
        refine ⟨_, at_1 _ _ _, ?_⟩
        exact ⟨sz _ (.inr rfl), fin _ (.inr ⟨⟨by omega, by omega⟩, sg_app _ _⟩)⟩
    · have b4 : Box b S4 := (b3.sub (Sub.new hp2)).sub sb
      have k4 : Keep b S S4 := (k13.trans (Keep.new hp2)).trans sb.keep
      have hp' : S4 p2 = some (.lst acc) := sb _ _ ups_same
      have n3 := b4.at hp3
      have ne23 : p2 ≠ p3 := by rintro rfl; rw [hp'] at hp3; cases hp3
      simp at l3
      refine ⟨line4 (by decide), fun p4 hp4 => ?_⟩
      refine take_ok ht ((b4.sub (Sub.new hp3)).sub (Sub.new hp4)) (by decide) (by decide) fun v3 S5 g5 g6 b5 k5 => ?_
      have keep5 : ∀ a o, a ≠ b → S4 a = some o → S5 a = some o := fun a o na e => k5 a o na (Sub.new hp4 _ _ (Sub.new hp3 _ _ e))
      have n4 : p4 ≠ b := ((b4.sub (Sub.new hp3))).at hp4
      have at4 : S5 p4 = some (.lst [.ref p2, .ref p3]) := k5 _ _ n4 ups_same
      have at3 : S5 p3 = some (.lst acc') := k5 _ _ n3 (Sub.new hp4 _ _ ups_same)
      have at2 : S5 p2 = some (.lst acc) := keep5 _ _ n2 hp'
      have kk : Keep b S S5 := k4.trans (((Keep.new hp3).trans (Keep.new hp4)).trans k5)
      have d2 : L2.CDivW v3 2 := ⟨by decide, by decide⟩
      simp [d2, at4]
      have h01 : v3 / 2 = 0 ∨ v3 / 2 = 1 := by omega
      rcases h01 with h01 | h01
      · rw [h01]
        exact ⟨_, at_0 _ _, q1_of (q p2 ws S5 n2 (by rw [at2, e2]) l2 hw ⟨⟨cs.length + 1, fun s hs => .inl (hwL s hs).2, fun s hs => (hwL s (List.mem_of_getElem? hs)).2⟩, fun l => folk_nd l hwJ⟩ b5 kk)⟩
      · rw [h01]
        exact ⟨_, at_1 _ _ _, q1_of (q p3 us S5 n3 (by rw [at3, e3]) l3 hu ⟨⟨_, pu⟩, fun l => pairs_nd l hwJ pj⟩ b5 kk)⟩
theorem names_ok {P : Prg} {n t g : Nat} {b : Addr} {S : Sta} {Q X : K} (ht : P t = some fTake) (h : P g = some (fNames t)) (m : Nat) (hm : m ≤ 100) (hb : Box b S)
    (q : ∀ (p : Addr) (ws : List Str) (S' : Sta), p ≠ b → S' p = some (.lst (ws.map D.str)) → ws.length = m → (∀ s ∈ ws, NameOk s) → Box b S' → Keep b S S' → Q (.ref p) S') : callW P (n + 2) g [.ref b, .int m] S Q X := names_okZ ht h m hm hb fun p ws S' h1 h2 h3 h4 _ h5 h6 => q p ws S' h1 h2 h3 h4 h5 h6
def pk (ws : List Str) (bs : List Bool) : List Str := ((ws.zip bs).filter (·.2)).map (·.1)
def B_k11_13 : Ss := .cons (.ret (.c (.bl false))) .nil
def B_k11_14 : Ss := .cons (.ret (.c (.bl false))) .nil
def B_k11_15 : Ss := .cons (.ret (.c (.bl false))) .nil
def B_k11_16 : Ss := .cons (.ret (.c (.bl false))) .nil
def B_k11_12 : Ss := .cons (.ite (.and (.cmp .is (.call 32 (.app []) (.cons (.v 4) (.cons (.v 8) .nil))) (.c (.non))) (.not (.call 3 (.app []) (.cons (.call 58 (.app []) (.cons (.v 4) (.cons (.v 8) .nil))) (.cons (.lst (.cons (.v 8) .nil)) .nil)))))
    B_k11_16
    .nil) .nil
def B_k11_11 : Ss := .cons (.asg (.n [8]) (.bin .add (.v 5) (.tup (.cons (.ix (.lst (.cons (.neg (.c (.int 1))) (.cons (.c (.int 5)) (.cons (.c (.int 0)) .nil)))) (.call 2 (.app []) (.cons (.v 1) (.cons (.c (.int 3)) .nil)))) .nil)))) B_k11_12
def B_k11_10 : Ss := .cons (.ite (.not (.call 3 (.app []) (.cons (.callk 55 (.perm [.inl 0, .inl 1, .inr (.int 0)]) (.cons (.v 4) .nil) (.cons (.v 5) .nil)) (.cons (.call 57 (.app []) (.cons (.v 4) (.cons (.v 5) (.cons (.c (.int 0)) .nil)))) .nil))))
    B_k11_15
    .nil) B_k11_11
def B_k11_9 : Ss := .cons (.ite (.not (.call 3 (.app []) (.cons (.callk 38 (.perm [.inl 0, .inl 1]) (.cons (.v 4) (.cons (.v 7) .nil)) .nil) (.cons (.callk 38 (.perm [.inl 0, .inl 1]) (.cons (.call 32 (.app []) (.cons (.v 4) (.cons (.v 5) .nil))) (.cons (.v 6) .nil)) .nil) .nil))))
    B_k11_14
    .nil) B_k11_10
def B_k11_8 : Ss := .cons (.ite (.not (.call 3 (.app []) (.cons (.v 7) (.cons (.call 57 (.app []) (.cons (.v 4) (.cons (.v 5) (.cons (.v 6) .nil)))) .nil))))
    B_k11_13
    .nil) B_k11_9
def B_k11_7 : Ss := .cons (.asg (.n [7]) (.callk 55 (.perm [.inl 0, .inl 1, .inl 2]) (.cons (.v 4) (.cons (.v 5) (.cons (.v 6) .nil))) .nil)) B_k11_8
def B_k11_6 : Ss := .cons (.asg (.n [6]) (.call 52 (.app []) (.cons (.v 1) .nil))) B_k11_7
def B_k11_5 : Ss := .cons (.for_ (.n [5]) (.seq (.call 33 (.app []) (.cons (.v 4) .nil)))
    B_k11_6) .nil
def B_k11_4 : Ss := .cons (.asg (.n [4]) (.call 15 (.app []) (.cons (.v 1) (.cons (.v 2) .nil)))) B_k11_5
def B_k11_3 : Ss := .cons (.ret (.c (.bl true))) .nil
def B_k11_2 : Ss := .cons (.for_ (.n [3]) (.rng (.c (.int 2)))
    B_k11_4) B_k11_3
def B_k11_1 : Ss := .cons (.asg (.n [2]) (.call 16 (.app []) (.cons (.v 1) .nil))) B_k11_2
def B_k11_0 : Ss := .cons (.asg (.n [1]) (.call 1 (.app []) (.cons (.v 0) .nil))) B_k11_1
def H_k11 : Fn := ⟨9, 1, B_k11_0⟩
end A
namespace K11
open PySem L2 A
def P : Prg := fun f => if f = 999 then some A.H_k11 else PG f
theorem lib : Lib P := fun f F e => by
  unfold P
  rw [if_neg (A.tbl_lt A.tblR (n := 999) (by decide +kernel) e)]
  exact e
def T : Tb := ⟨([("later_of", .fn 37), ("due", .fn 38), ("turn_of", .fn 55), ("number_below", .fn 56), ("_law_box", .fn 1), ("_law_take", .fn 2), ("_law_same", .fn 3), ("_law_far", .fn 4), ("_law_any", .fn 52), ("_law_names", .fn 13), ("_law_tree", .fn 14), ("_law_right", .fn 15), ("_law_pool", .fn 16), ("_law_at", .fn 32), ("_law_paths", .fn 33), ("_law_turn_of", .fn 57), ("_law_missing", .fn 58), ("NoPart", .cls 23)] : List (PySem.Str × GV)), (["all", "bool", "enumerate", "int", "isinstance", "len", "list", "range", "str", "tuple", "zip"] : List PySem.Str), ([(1, 1, []), (2, 2, []), (3, 2, []), (4, 1, []), (13, 2, []), (14, 4, []), (15, 2, []), (16, 1, []), (32, 2, []), (33, 1, []), (37, 2, []), (52, 1, []), (56, 3, []), (57, 3, []), (58, 2, [])] : List (Nat × Nat × List A.D)), ([(55, 3, [], .perm [.inl 0, .inl 1, .inl 2]), (55, 2, [], .perm [.inl 0, .inl 1, .inr (.int 0)]), (38, 2, [], .perm [.inl 0, .inl 1]), (55, 1, ["path"], .perm [.inl 0, .inl 1, .inr (.int 0)])] : List (Nat × Nat × List PySem.Str × Shp)), ([(23, 1, [0, 3], [.inr (.str "NoPart"), .inl 0])] : List (Nat × Nat × List Nat × List (Sum Nat A.D))), ([("NoPart", [(0, false), (1, false), (2, false), (3, false), (4, false), (5, false), (6, false), (7, false), (8, false), (9, false), (10, false), (11, false), (12, false), (13, false), (14, false), (15, false), (16, false), (17, false), (18, false), (19, false), (20, false), (21, false), (22, false), (23, true)])] : List (PySem.Str × List (Nat × Bool))), ([] : List (PySem.Str × List (Nat × Bool))), ([(3, "path")] : List (Nat × PySem.Str)), ([23] : List Nat), ([] : List (Nat × PySem.Str)), ([] : List (Nat × Nat × List PySem.Str × Shp)), ([] : List (Nat × PySem.Str × List (Nat × Shp) × Nat × List PySem.Str)), ([] : List (PySem.Str × List Nat)), ([] : List Nat), false, none, ([] : List (Nat × List (Nat × List PySem.Str))), true, false⟩
theorem sc37 : FnScope n37 p37 d37.scope := C8.fnScope_by (by kernel_rfl)
theorem ok37 : okSs T A.R_later_of.body ⟨d37.scope, n37, fun _ => true⟩ d37.body = true := by kernel_rfl
theorem sc38 : FnScope n38 p38 d38.scope := C8.fnScope_by (by kernel_rfl)
theorem ok38 : okSs T A.R_due.body ⟨d38.scope, n38, fun _ => true⟩ d38.body = true := by kernel_rfl
theorem sc55 : FnScope n55 p55 d55.scope := C8.fnScope_by (by kernel_rfl)
theorem ok55 : okSs T A.R_turn_of.body ⟨d55.scope, n55, fun _ => true⟩ d55.body = true := by kernel_rfl
theorem sc56 : FnScope n56 p56 d56.scope := C8.fnScope_by (by kernel_rfl)
theorem ok56 : okSs T A.R_number_below.body ⟨d56.scope, n56, fun _ => true⟩ d56.body = true := by kernel_rfl
theorem sc1 : FnScope n1 p1 d1.scope := C8.fnScope_by (by kernel_rfl)
theorem ok1 : okSs T A.R_law_box.body ⟨d1.scope, n1, fun _ => true⟩ d1.body = true := by kernel_rfl
theorem sc2 : FnScope n2 p2 d2.scope := C8.fnScope_by (by kernel_rfl)
theorem ok2 : okSs T A.R_law_take.body ⟨d2.scope, n2, fun _ => true⟩ d2.body = true := by kernel_rfl
theorem sc3 : FnScope n3 p3 d3.scope := C8.fnScope_by (by kernel_rfl)
theorem ok3 : okSs T A.R_law_same.body ⟨d3.scope, n3, fun _ => true⟩ d3.body = true := by kernel_rfl
theorem sc4 : FnScope n4 p4 d4.scope := C8.fnScope_by (by kernel_rfl)
theorem ok4 : okSs T A.R_law_far.body ⟨d4.scope, n4, fun _ => true⟩ d4.body = true := by kernel_rfl
theorem sc52 : FnScope n52 p52 d52.scope := C8.fnScope_by (by kernel_rfl)
theorem ok52 : okSs T A.R_law_any.body ⟨d52.scope, n52, fun _ => true⟩ d52.body = true := by kernel_rfl
theorem sc13 : FnScope n13 p13 d13.scope := C8.fnScope_by (by kernel_rfl)
theorem ok13 : okSs T A.R_law_names.body ⟨d13.scope, n13, fun _ => true⟩ d13.body = true := by kernel_rfl
theorem sc14 : FnScope n14 p14 d14.scope := C8.fnScope_by (by kernel_rfl)
theorem ok14 : okSs T A.R_law_tree.body ⟨d14.scope, n14, fun _ => true⟩ d14.body = true := by kernel_rfl
theorem sc15 : FnScope n15 p15 d15.scope := C8.fnScope_by (by kernel_rfl)
theorem ok15 : okSs T A.R_law_right.body ⟨d15.scope, n15, fun _ => true⟩ d15.body = true := by kernel_rfl
theorem sc16 : FnScope n16 p16 d16.scope := C8.fnScope_by (by kernel_rfl)
theorem ok16 : okSs T A.R_law_pool.body ⟨d16.scope, n16, fun _ => true⟩ d16.body = true := by kernel_rfl
theorem sc32 : FnScope n32 p32 d32.scope := C8.fnScope_by (by kernel_rfl)
theorem ok32 : okSs T A.R_law_at.body ⟨d32.scope, n32, fun _ => true⟩ d32.body = true := by kernel_rfl
theorem sc33 : FnScope n33 p33 d33.scope := C8.fnScope_by (by kernel_rfl)
theorem ok33 : okSs T A.R_law_paths.body ⟨d33.scope, n33, fun _ => true⟩ d33.body = true := by kernel_rfl
theorem sc57 : FnScope n57 p57 d57.scope := C8.fnScope_by (by kernel_rfl)
theorem ok57 : okSs T A.R_law_turn_of.body ⟨d57.scope, n57, fun _ => true⟩ d57.body = true := by kernel_rfl
theorem sc58 : FnScope n58 p58 d58.scope := C8.fnScope_by (by kernel_rfl)
theorem ok58 : okSs T A.R_law_missing_2.body ⟨d58.scope, n58, fun _ => true⟩ d58.body = true := by kernel_rfl
theorem sc999 : FnScope n999 p999 d999.scope := C8.fnScope_by (by kernel_rfl)
theorem ok999 : okSs T A.H_k11.body ⟨d999.scope, n999, fun _ => true⟩ d999.body = true := by kernel_rfl
theorem esc0 : FnScope en0 en0 e0.scope := C8.fnScope_by (by kernel_rfl)
theorem eok0 : okI ⟨e0.scope, en0, fun _ => true⟩ ef0 e0.body = true := by kernel_rfl
def exl : List (PySem.W.Frag → Bool) := [x0, x1, x2, x3, x4, x5, x6]
theorem exat {K : PySem.W.Frag} (h : exK K = true) {f : PySem.W.Frag → Bool} (i : Nat) (e : exl[i]? = some f) : f K = true := by
  have a : exl.all (fun f => f K) = true := by
    simp only [exl, List.all_cons, List.all_nil, Bool.and_true]
    exact h
  exact (List.all_eq_true.mp a) f (List.mem_of_getElem? e)
theorem xo0 {K} (h : exK K) : x0 K := exat h 0 rfl
theorem xo1 {K} (h : exK K) : x1 K := exat h 1 rfl
theorem xo2 {K} (h : exK K) : x2 K := exat h 2 rfl
theorem xo3 {K} (h : exK K) : x3 K := exat h 3 rfl
theorem xo4 {K} (h : exK K) : x4 K := exat h 4 rfl
theorem xo5 {K} (h : exK K) : x5 K := exat h 5 rfl
theorem xo6 {K} (h : exK K) : x6 K := exat h 6 rfl
def Nn (K : PySem.W.Frag) : Nm := ⟨K, fun f => He.fAd K (at_ f), fun c => He.ga K (cn c), fln, ocl, xcl, fll, none⟩
theorem flo {K : PySem.W.Frag} : FlOk (Nn K) := show ∀ a ∈ fll, ∀ b ∈ fll, fln a = fln b → a = b from by decide +kernel
theorem cls {K : PySem.W.Frag} (cx : exK K = true) (c0 : Nat) (hc : c0 ∈ ocl) : ClsI K flS (He.ga K (cn c0)) := by
  have all : Alls (fun c0 => ClsI K flS (He.ga K (cn c0))) ocl := trivial
  exact all.mem c0 hc
section
variable {K : PySem.W.Frag} {h : Heap} {wd : World} {mg : PySem.Str → Option Value}
def DF (K : PySem.W.Frag) (k : Nat) (F : A.Fn) (p : List PySem.Str) (d : He.DefD) : Prop := ∃ fd, DefOk (Nn K) T K k F fd p ∧ L2.FunD K d.name d.qual d.params d.body d.scope (d.dvs K) (d.kws K) (He.fAd K d.at_) fd
theorem mkDF (c : He.SaysD fa fn K) (i : Nat) {d : He.DefD} (e : fn[i]? = some d) {k : Nat} {F : A.Fn} {p n : List PySem.Str} (sc : FnScope n p d.scope) (hn : n.length = F.n) (ok : okSs T F.body ⟨d.scope, n, fun _ => true⟩ d.body = true) (hp : p.length = F.k) (ek : (Nn K).fa k = He.fAd K d.at_) : DF K k F p d := by
  obtain ⟨fd, G⟩ := c.def_ i e
  exact ⟨fd, ⟨⟨_, _, _, _, _, _, _, n, by rw [ek]; exact G, sc, hn, ok⟩, hp⟩, G⟩
theorem df37 (c : He.SaysD fa fn K) : DF K 37 A.R_later_of p37 d37 := mkDF c 0 rfl sc37 rfl ok37 rfl rfl
theorem df38 (c : He.SaysD fa fn K) : DF K 38 A.R_due p38 d38 := mkDF c 1 rfl sc38 rfl ok38 rfl rfl
theorem df55 (c : He.SaysD fa fn K) : DF K 55 A.R_turn_of p55 d55 := mkDF c 2 rfl sc55 rfl ok55 rfl rfl
theorem df56 (c : He.SaysD fa fn K) : DF K 56 A.R_number_below p56 d56 := mkDF c 3 rfl sc56 rfl ok56 rfl rfl
theorem df1 (c : He.SaysD fa fn K) : DF K 1 A.R_law_box p1 d1 := mkDF c 4 rfl sc1 rfl ok1 rfl rfl
theorem df2 (c : He.SaysD fa fn K) : DF K 2 A.R_law_take p2 d2 := mkDF c 5 rfl sc2 rfl ok2 rfl rfl
theorem df3 (c : He.SaysD fa fn K) : DF K 3 A.R_law_same p3 d3 := mkDF c 6 rfl sc3 rfl ok3 rfl rfl
theorem df4 (c : He.SaysD fa fn K) : DF K 4 A.R_law_far p4 d4 := mkDF c 7 rfl sc4 rfl ok4 rfl rfl
theorem df52 (c : He.SaysD fa fn K) : DF K 52 A.R_law_any p52 d52 := mkDF c 8 rfl sc52 rfl ok52 rfl rfl
theorem df13 (c : He.SaysD fa fn K) : DF K 13 A.R_law_names p13 d13 := mkDF c 9 rfl sc13 rfl ok13 rfl rfl
theorem df14 (c : He.SaysD fa fn K) : DF K 14 A.R_law_tree p14 d14 := mkDF c 10 rfl sc14 rfl ok14 rfl rfl
theorem df15 (c : He.SaysD fa fn K) : DF K 15 A.R_law_right p15 d15 := mkDF c 11 rfl sc15 rfl ok15 rfl rfl
theorem df16 (c : He.SaysD fa fn K) : DF K 16 A.R_law_pool p16 d16 := mkDF c 12 rfl sc16 rfl ok16 rfl rfl
theorem df32 (c : He.SaysD fa fn K) : DF K 32 A.R_law_at p32 d32 := mkDF c 13 rfl sc32 rfl ok32 rfl rfl
theorem df33 (c : He.SaysD fa fn K) : DF K 33 A.R_law_paths p33 d33 := mkDF c 14 rfl sc33 rfl ok33 rfl rfl
theorem df57 (c : He.SaysD fa fn K) : DF K 57 A.R_law_turn_of p57 d57 := mkDF c 15 rfl sc57 rfl ok57 rfl rfl
theorem df58 (c : He.SaysD fa fn K) : DF K 58 A.R_law_missing_2 p58 d58 := mkDF c 16 rfl sc58 rfl ok58 rfl rfl
theorem df999 (c : He.SaysD fa fn K) : DF K 999 A.H_k11 p999 d999 := mkDF c 17 rfl sc999 rfl ok999 rfl rfl
theorem gf (X : K.In h) (G : h.Ns mainGlobals mg) (c0 : He.SaysT fa fn ts wd K) (c : He.SaysD fa fn K) (cx : exK K = true) : Gf (Nn K) T P K wd mg where
  hK := rfl
  own := fun c0 hc q hq => by
    have all : Alls (fun c0 => Alls (fun q : Nat × PySem.Str => P (mth c0 q.1) = none ∨ ∃ F fd ps, P (mth c0 q.1) = some F ∧ DefOk (Nn K) T K (mth c0 q.1) F fd ps ∧ Binds K fd ps [] ∧ PySem.W.findIn K (.ref ((Nn K).ca c0)) q.2 = some (some (.ref ((Nn K).fa (mth c0 q.1)))) ∧ PySem.W.isFn K (.ref ((Nn K).fa (mth c0 q.1))) = true) [(mEq, "__eq__"), (mLen, "__len__"), (mStr, "__str__"), (mRepr, "__repr__")]) ocl := by
      refine trivial
    exact (all.mem c0 hc).mem q hq
  ne := fun c0 hc => (cls cx c0 hc).ne
  obj := fun c0 hc => (cls cx c0 hc).obj
  nb := fun c0 hc => (cls cx c0 hc).nb
  apart := fun _ h => nomatch h
  ofl := fun n f hx => by
    have all : Alls (fun q : Nat × PySem.Str => fln q.1 = q.2 ∧ q.1 ∈ fll ∧ q.2 ∈ flS) T.ofl := by
      refine trivial
    obtain ⟨h1, h2, h3⟩ := all.mem (n, f) hx
    exact ⟨h1, h2, flo, fun c0 hc => (cls cx c0 hc).cls, fun c0 hc => (cls cx c0 hc).no f h3⟩
  news := fun c0 n ks sh hx => by
    have all : Alls (fun q : Nat × Nat × List PySem.Str × Shp => q.1 ∈ ocl ∧ ∃ F fd ps, P (mth q.1 0) = some F ∧ DefOk (Nn K) T K (mth q.1 0) F fd ps ∧ Mk K ((Nn K).ca q.1) ((Nn K).fa (mth q.1 0)) ∧ KB (Nn K) K fd ps (q.2.1 + 1) q.2.2.1 (selfS q.2.2.2)) T.news := by
      refine trivial
    exact all.mem (c0, n, ks, sh) hx
  meths := fun m nm cs n ks hx => by
    have all : Alls (fun q : Nat × PySem.Str × List (Nat × Shp) × Nat × List PySem.Str => (∀ f ∈ fll, fln f ≠ q.2.1) ∧ Alls (fun c0 => ∀ sh, q.2.2.1.lookup c0 = some sh → ∃ F fd ps, P (mth c0 q.1) = some F ∧ DefOk (Nn K) T K (mth c0 q.1) F fd ps ∧ L2.Meth K ((Nn K).ca c0) q.2.1 ((Nn K).fa (mth c0 q.1)) ∧ KB (Nn K) K fd ps (q.2.2.2.1 + 1) q.2.2.2.2 (selfS sh)) ocl) T.meths := by
      refine trivial
    obtain ⟨h1, h2⟩ := all.mem (m, nm, cs, n, ks) hx
    exact ⟨h1, fun c0 hc => (cls cx c0 hc).cls, fun c0 sh e hc => h2.mem c0 hc sh e⟩
  owns := fun x cs hx => by
    have all : Alls (fun q : PySem.Str × List Nat => ∃ k : Addr, mg q.1 = some (.ref k) ∧ IsoOk (Nn K) K k q.2) T.owns := by
      refine trivial
    exact all.mem (x, cs) hx
  xcs := fun c0 hc => hc
  glob := fun x g hx => by
    have all : Alls (fun p => GOk' (Nn K) K wd mg p.1 p.2) T.glob := by
      refine ⟨?_, ?_, ?_, ?_, ?_, ?_, ?_, ?_, ?_, ?_, ?_, ?_, ?_, ?_, ?_, ?_, ?_, ?_, trivial⟩
      · exact ⟨He.glo_ok X G (c.fact 0 (f := .glo "later_of") rfl), by obtain ⟨fd, F⟩ := c.def_ 0 (d := d37) rfl; exact F.kp⟩
      · exact ⟨He.glo_ok X G (c.fact 1 (f := .glo "due") rfl), by obtain ⟨fd, F⟩ := c.def_ 1 (d := d38) rfl; exact F.kp⟩
      · exact ⟨He.glo_ok X G (c.fact 2 (f := .glo "turn_of") rfl), by obtain ⟨fd, F⟩ := c.def_ 2 (d := d55) rfl; exact F.kp⟩
      · exact ⟨He.glo_ok X G (c.fact 3 (f := .glo "number_below") rfl), by obtain ⟨fd, F⟩ := c.def_ 3 (d := d56) rfl; exact F.kp⟩
      · exact ⟨He.glo_ok X G (c.fact 4 (f := .glo "_law_box") rfl), by obtain ⟨fd, F⟩ := c.def_ 4 (d := d1) rfl; exact F.kp⟩
      · exact ⟨He.glo_ok X G (c.fact 5 (f := .glo "_law_take") rfl), by obtain ⟨fd, F⟩ := c.def_ 5 (d := d2) rfl; exact F.kp⟩
      · exact ⟨He.glo_ok X G (c.fact 6 (f := .glo "_law_same") rfl), by obtain ⟨fd, F⟩ := c.def_ 6 (d := d3) rfl; exact F.kp⟩
      · exact ⟨He.glo_ok X G (c.fact 7 (f := .glo "_law_far") rfl), by obtain ⟨fd, F⟩ := c.def_ 7 (d := d4) rfl; exact F.kp⟩
      · exact ⟨He.glo_ok X G (c.fact 8 (f := .glo "_law_any") rfl), by obtain ⟨fd, F⟩ := c.def_ 8 (d := d52) rfl; exact F.kp⟩
      · exact ⟨He.glo_ok X G (c.fact 9 (f := .glo "_law_names") rfl), by obtain ⟨fd, F⟩ := c.def_ 9 (d := d13) rfl; exact F.kp⟩
      · exact ⟨He.glo_ok X G (c.fact 10 (f := .glo "_law_tree") rfl), by obtain ⟨fd, F⟩ := c.def_ 10 (d := d14) rfl; exact F.kp⟩
      · exact ⟨He.glo_ok X G (c.fact 11 (f := .glo "_law_right") rfl), by obtain ⟨fd, F⟩ := c.def_ 11 (d := d15) rfl; exact F.kp⟩
      · exact ⟨He.glo_ok X G (c.fact 12 (f := .glo "_law_pool") rfl), by obtain ⟨fd, F⟩ := c.def_ 12 (d := d16) rfl; exact F.kp⟩
      · exact ⟨He.glo_ok X G (c.fact 13 (f := .glo "_law_at") rfl), by obtain ⟨fd, F⟩ := c.def_ 13 (d := d32) rfl; exact F.kp⟩
      · exact ⟨He.glo_ok X G (c.fact 14 (f := .glo "_law_paths") rfl), by obtain ⟨fd, F⟩ := c.def_ 14 (d := d33) rfl; exact F.kp⟩
      · exact ⟨He.glo_ok X G (c.fact 15 (f := .glo "_law_turn_of") rfl), by obtain ⟨fd, F⟩ := c.def_ 15 (d := d57) rfl; exact F.kp⟩
      · exact ⟨He.glo_ok X G (c.fact 16 (f := .glo "_law_missing") rfl), by obtain ⟨fd, F⟩ := c.def_ 16 (d := d58) rfl; exact F.kp⟩
      · exact He.glo_ok X G (c.fact 18 (f := .glo "NoPart") rfl)
    exact all.mem (x, g) hx
  blt := fun x hx => by
    have all : Alls (fun x => mg x = none) T.blts := by
      refine ⟨?_, ?_, ?_, ?_, ?_, ?_, ?_, ?_, ?_, ?_, ?_, trivial⟩
      · exact He.free_ok X G (c.fact 19 (f := .free "all") rfl)
      · exact He.free_ok X G (c.fact 20 (f := .free "bool") rfl)
      · exact He.free_ok X G (c.fact 21 (f := .free "enumerate") rfl)
      · exact He.free_ok X G (c.fact 22 (f := .free "int") rfl)
      · exact He.free_ok X G (c.fact 23 (f := .free "isinstance") rfl)
      · exact He.free_ok X G (c.fact 24 (f := .free "len") rfl)
      · exact He.free_ok X G (c.fact 25 (f := .free "list") rfl)
      · exact He.free_ok X G (c.fact 26 (f := .free "range") rfl)
      · exact He.free_ok X G (c.fact 27 (f := .free "str") rfl)
      · exact He.free_ok X G (c.fact 28 (f := .free "tuple") rfl)
      · exact He.free_ok X G (c.fact 29 (f := .free "zip") rfl)
    exact all.mem x hx
  fvs := fun f hx => by
    have all : Alls (fun f => ∃ F fd ps, P f = some F ∧ DefOk (Nn K) T K f F fd ps ∧ Binds K fd ps [] ∧ PySem.W.keepIn K (.ref ((Nn K).fa f)) = true) T.fvs := by
      refine trivial
    exact all.mem f hx
  call := fun f n es hx => by
    have all : Alls (fun q : Nat × Nat × List A.D => ∃ F fd ps dvs ds, P q.1 = some F ∧ DefOk (Nn K) T K q.1 F fd ps ∧ Binds K fd ps ds ∧ Vals dvs ds ∧ ∀ H, RDs (Nn K) H q.2.2 dvs) T.calls := by
      refine ⟨?_, ?_, ?_, ?_, ?_, ?_, ?_, ?_, ?_, ?_, ?_, ?_, ?_, ?_, ?_, trivial⟩
      · obtain ⟨fd, F, B⟩ := df1 c; exact ⟨A.R_law_box, fd, p1, [], [], rfl, F, FunD.bindsN B (fun _ _ _ _ _ _ us hl => match us, hl with | [_], _ => rfl), .nil, fun _ => .nil⟩
      · obtain ⟨fd, F, B⟩ := df2 c; exact ⟨A.R_law_take, fd, p2, [], [], rfl, F, FunD.bindsN B (fun _ _ _ _ _ _ us hl => match us, hl with | [_, _], _ => rfl), .nil, fun _ => .nil⟩
      · obtain ⟨fd, F, B⟩ := df3 c; exact ⟨A.R_law_same, fd, p3, [], [], rfl, F, FunD.bindsN B (fun _ _ _ _ _ _ us hl => match us, hl with | [_, _], _ => rfl), .nil, fun _ => .nil⟩
      · obtain ⟨fd, F, B⟩ := df4 c; exact ⟨A.R_law_far, fd, p4, [], [], rfl, F, FunD.bindsN B (fun _ _ _ _ _ _ us hl => match us, hl with | [_], _ => rfl), .nil, fun _ => .nil⟩
      · obtain ⟨fd, F, B⟩ := df13 c; exact ⟨A.R_law_names, fd, p13, [], [], rfl, F, FunD.bindsN B (fun _ _ _ _ _ _ us hl => match us, hl with | [_, _], _ => rfl), .nil, fun _ => .nil⟩
      · obtain ⟨fd, F, B⟩ := df14 c; exact ⟨A.R_law_tree, fd, p14, [], [], rfl, F, FunD.bindsN B (fun _ _ _ _ _ _ us hl => match us, hl with | [_, _, _, _], _ => rfl), .nil, fun _ => .nil⟩
      · obtain ⟨fd, F, B⟩ := df15 c; exact ⟨A.R_law_right, fd, p15, [], [], rfl, F, FunD.bindsN B (fun _ _ _ _ _ _ us hl => match us, hl with | [_, _], _ => rfl), .nil, fun _ => .nil⟩
      · obtain ⟨fd, F, B⟩ := df16 c; exact ⟨A.R_law_pool, fd, p16, [], [], rfl, F, FunD.bindsN B (fun _ _ _ _ _ _ us hl => match us, hl with | [_], _ => rfl), .nil, fun _ => .nil⟩
      · obtain ⟨fd, F, B⟩ := df32 c; exact ⟨A.R_law_at, fd, p32, [], [], rfl, F, FunD.bindsN B (fun _ _ _ _ _ _ us hl => match us, hl with | [_, _], _ => rfl), .nil, fun _ => .nil⟩
      · obtain ⟨fd, F, B⟩ := df33 c; exact ⟨A.R_law_paths, fd, p33, [], [], rfl, F, FunD.bindsN B (fun _ _ _ _ _ _ us hl => match us, hl with | [_], _ => rfl), .nil, fun _ => .nil⟩
      · obtain ⟨fd, F, B⟩ := df37 c; exact ⟨A.R_later_of, fd, p37, [], [], rfl, F, FunD.bindsN B (fun _ _ _ _ _ _ us hl => match us, hl with | [_, _], _ => rfl), .nil, fun _ => .nil⟩
      · obtain ⟨fd, F, B⟩ := df52 c; exact ⟨A.R_law_any, fd, p52, [], [], rfl, F, FunD.bindsN B (fun _ _ _ _ _ _ us hl => match us, hl with | [_], _ => rfl), .nil, fun _ => .nil⟩
      · obtain ⟨fd, F, B⟩ := df56 c; exact ⟨A.R_number_below, fd, p56, [], [], rfl, F, FunD.bindsN B (fun _ _ _ _ _ _ us hl => match us, hl with | [_, _, _], _ => rfl), .nil, fun _ => .nil⟩
      · obtain ⟨fd, F, B⟩ := df57 c; exact ⟨A.R_law_turn_of, fd, p57, [], [], rfl, F, FunD.bindsN B (fun _ _ _ _ _ _ us hl => match us, hl with | [_, _, _], _ => rfl), .nil, fun _ => .nil⟩
      · obtain ⟨fd, F, B⟩ := df58 c; exact ⟨A.R_law_missing_2, fd, p58, [], [], rfl, F, FunD.bindsN B (fun _ _ _ _ _ _ us hl => match us, hl with | [_, _], _ => rfl), .nil, fun _ => .nil⟩
    exact all.mem (f, n, es) hx
  kcall := fun f n ks sh hx => by
    have all : Alls (fun q : Nat × Nat × List PySem.Str × Shp => ∃ F fd ps, P q.1 = some F ∧ DefOk (Nn K) T K q.1 F fd ps ∧ KB (Nn K) K fd ps q.2.1 q.2.2.1 q.2.2.2) T.kcalls := by
      refine ⟨?_, ?_, ?_, ?_, trivial⟩
      · obtain ⟨fd, F, B⟩ := df55 c
        refine ⟨A.R_turn_of, fd, p55, rfl, F, kb_some B (by intro z; cases z) [.int 0] (fun _ => (.cons mk_int .nil)) 3 [] [.inl 0, .inl 1, .inl 2] fun _ _ _ _ _ _ _ us its ws l1 l2 l3 => match us, its, ws, l1, l2, l3 with | [_, _, _], [_], [], _, _, _ => ⟨_, rfl, rfl⟩⟩
      · obtain ⟨fd, F, B⟩ := df55 c
        refine ⟨A.R_turn_of, fd, p55, rfl, F, kb_some B (by intro z; cases z) [.int 0] (fun _ => (.cons mk_int .nil)) 2 [] [.inl 0, .inl 1, .inr 0] fun _ _ _ _ _ _ _ us its ws l1 l2 l3 => match us, its, ws, l1, l2, l3 with | [_, _], [_], [], _, _, _ => ⟨_, rfl, rfl⟩⟩
      · obtain ⟨fd, F, B⟩ := df38 c
        refine ⟨A.R_due, fd, p38, rfl, F, kb_some B (by intro z; cases z) [.int 0] (fun _ => (.cons mk_int .nil)) 2 [] [.inl 0, .inl 1] fun _ _ _ _ _ _ _ us its ws l1 l2 l3 => match us, its, ws, l1, l2, l3 with | [_, _], [_], [], _, _, _ => ⟨_, rfl, rfl⟩⟩
      · obtain ⟨fd, F, B⟩ := df55 c
        refine ⟨A.R_turn_of, fd, p55, rfl, F, kb_some B (by intro z; cases z) [.int 0] (fun _ => (.cons mk_int .nil)) 1 ["path"] [.inl 0, .inl 1, .inr 0] fun _ _ _ _ _ _ _ us its ws l1 l2 l3 => match us, its, ws, l1, l2, l3 with | [_], [_], [_], _, _, _ => ⟨_, rfl, rfl⟩⟩
    exact all.mem (f, n, ks, sh) hx
  raise := fun a n fs src hx => by
    have all : Alls (fun q : Nat × Nat × List Nat × List (Sum Nat A.D) => RaiseG (Nn K) K q.1 q.2.1 q.2.2.1 q.2.2.2) T.raises := by
      refine ⟨?_, trivial⟩
      · obtain ⟨fd, F⟩ := c.def_ 18 (d := e0) rfl
        exact ⟨oxB_ok (xo0 cx), ⟨ef0, _, _, _, _, _, _, _, _, fd, en0, en0, of_decide_eq_true (xo4 cx), of_decide_eq_true (xo5 cx), F, esc0, FunD.bindsN F (fun _ _ _ _ _ _ us hl => match us, hl with | [_, _], _ => rfl), rfl, by decide, eok0, by decide, by simp [ef0], (List.forall_mem_cons.mpr ⟨of_decide_eq_true (xo3 cx), (List.forall_mem_cons.mpr ⟨of_decide_eq_true (xo2 cx), (fun _ h => nomatch h)⟩)⟩), by simp [ef0], rfl, rfl, by decide +kernel⟩, show 23 ∈ xcl from by decide⟩
    exact all.mem (a, n, fs, src) hx
  exm := fun x l hx => by
    have all : Alls (fun q : PySem.Str × List (Nat × Bool) => ∃ k : Addr, mg q.1 = some (.ref k) ∧ ∀ c b, c ∈ xcl → q.2.lookup c = some b → PySem.W.exmOne K (.ref ((Nn K).ca c)) (.ref k) = some b) T.exms := by
      refine ⟨?_, trivial⟩
      · exact ⟨_, He.glo_ok X G (c.fact 18 (f := .glo "NoPart") rfl), fun c b hc e => tab_ok (f := fun c => PySem.W.exmOne K (.ref (He.ga K (cn c))) (.ref (He.ga K "NoPart"))) (xo6 cx) hc e⟩
    exact all.mem (x, l) hx
  iss := fun x l hx => by
    have all : Alls (fun q : PySem.Str × List (Nat × Bool) => A.IsF (Nn K) K mg q.1 q.2) T.iss := by
      refine trivial
    exact all.mem (x, l) hx
  flds := fun n f hx => by
    have all : Alls (fun q : Nat × PySem.Str => (Nn K).fnm q.1 = q.2 ∧ Alls (fun c => PySem.W.findIn K (.ref ((Nn K).ca c)) q.2 = some none) T.xcls) T.flds := by
      refine ⟨?_, trivial⟩
      · exact ⟨rfl, ⟨of_decide_eq_true (xo2 cx), trivial⟩⟩
    exact ⟨(all.mem (n, f) hx).1, fun c hc => (all.mem (n, f) hx).2.mem c hc⟩
  xc := fun d hx => by
    have all : Alls (fun d => ExcC K ((Nn K).ca d) ∧ XfC K ((Nn K).ca d) ∧ PySem.W.typeIn K (.ref ((Nn K).ca d)) = some (.type "type")) T.xcls := ⟨excB_ok (xo1 cx), trivial⟩
    exact all.mem d hx
  hots := fun f l hx => by
    have all : Alls (fun q : Nat × List (Nat × List PySem.Str) => ∃ F fd ps, DefOk (Nn K) T.hdef K q.1 F fd ps ∧ ps.length = 1 ∧ Binds K fd ps [] ∧ ∀ c ss, q.2.lookup c = some ss → A.HotW (A.hotK q.1) F c ss) T.hots := by
      refine trivial
    exact all.mem (f, l) hx
  pk := rfl
  hot := rfl
  xv := rfl
  cold := rfl
end
theorem ends (sp : ∀ ns : List Int, ns.length ≤ 63 → callW P 20 999 [.lis (ns.map .int)] (fun _ => none) (fun d _ => d = .bl true) (fun _ _ => False)) : PySem.Challenge.rw_advowson_k11_turns_of_parts.Holds := by
  w_on; o_law
  refine HandSHeadRun.head_any (r := PySem.W.OpenLaw.row PySem.Challenge.rw_advowson_k11_turns_of_parts) (q := PySem.W.view (PySem.W.OpenLaw.row PySem.Challenge.rw_advowson_k11_turns_of_parts).prog [22]) (H := hk) (ob := ob) (M := 14000) (loose := names) (d := HandSHeadRun.topDef (PySem.W.OpenLaw.row PySem.Challenge.rw_advowson_k11_turns_of_parts).prog 22) (kwd := []) ob_eq
    (by kernel_rfl) (fun s => by kernel_rfl) run (by kernel_rfl) (by kernel_rfl) (by kernel_rfl) (by rfl) (by first | assumption | decide +kernel) (by decide +kernel) ⟨rfl, rfl, rfl, rfl, rfl, by decide +kernel⟩ ?hw ?hc
  case hw => w_witness2
  case hc =>
    refine A.walkA (l := PySem.Challenge.rw_advowson_k11_turns_of_parts) (n := 63) (k := 4 * 20 + 4) (x := "_law_script") rfl (by decide) (by kernel_rfl) ⟨rfl, by decide, by decide⟩ ?F
    intro w mg fa0 h Y G hmg0
    obtain ⟨K, KX, c0, cx⟩ := Y
    have c := c0.d
    have hmg : mg ("law" : PySem.Str) = some (.ref fa0) := by
      have e : (HandSHeadRun.topDef (PySem.W.OpenLaw.row PySem.Challenge.rw_advowson_k11_turns_of_parts).prog 22).name = ("law" : PySem.Str) := by kernel_rfl
      rw [← e]
      exact hmg0
    have e := hmg.symm.trans (He.glo_ok KX G (c.fact 17 (f := .glo "law") rfl))
    cases e
    obtain ⟨fd, F, B⟩ := df999 c
    exact ⟨Nn K, callW P 20, 999, fd, KX, fun s v => FunD.bindsA (ps := p999) B (fun _ _ _ _ _ _ us hl => match us, hl with | [_], _ => rfl) s [v] rfl, fun base _ _ => fnOk (gf KX G c0 c cx) 20 999 _ _ _ rfl F, sp⟩
end K11
namespace A
open PySem L2
def fPool (t g : Nat) : Fn := ⟨1, 1,
    (.cons (.ret (.sl (.call g (.app []) (.cons (.v 0) (.cons (.c (.int 7)) .nil))) .nil (.bin .add (.c (.int 1)) (.call t (.app []) (.cons (.v 0) (.cons (.c (.int 7)) .nil))))))
    .nil)⟩
theorem cutD_to {l : List D} {h : Int} (h0 : 0 ≤ h) : cutD l none (some h) = l.take h.toNat := by
  unfold cutD
  simp only [HT.sIx, List.drop_zero, Nat.sub_zero]
  rw [if_neg (by omega)]
  rcases Nat.le_total h.toNat l.length with z | z
  · rw [Nat.min_eq_left z]
  · rw [Nat.min_eq_right z, List.take_of_length_le (Nat.le_refl _), List.take_of_length_le z]
theorem pool_ok {P : Prg} {n t g f : Nat} {b : Addr} {S : Sta} {Q X : K} (ht : P t = some fTake) (hg : P g = some (fNames t)) (h : P f = some (fPool t g)) (hb : Box b S)
    (q : ∀ (p : Addr) (ws : List Str) (S' : Sta), p ≠ b → S' p = some (.lst (ws.map D.str)) → 0 < ws.length → ws.length ≤ 7 → (∀ s ∈ ws, NameOk s) → Box b S' → Keep b S S' → Q (.ref p) S') : callW P (n + 3) f [.ref b] S Q X := by
  refine callW_of h rfl ?_
  simp [fPool, wB, wS, wE, wEs, place]
  refine names_ok ht hg 7 (by decide) hb fun p ws S1 np e1 l1 hw b1 k1 => ?_
  refine take_ok ht b1 (by decide) (by decide) fun v S2 g1 g2 b2 k2 => ?_
  have e2 := k2 _ _ np e1
  simp [e2]
  intro r hr
  refine q1_of (q r (ws.take (1 + v).toNat) _ (b2.at hr) ?_ (by rw [List.length_take]; omega) (by rw [List.length_take]; omega) (fun s hs => hw s (List.mem_of_mem_take hs)) (b2.sub (Sub.new hr)) ((k1.trans k2).trans (Keep.new hr)))
  rw [ups_same, cutD_to (by omega), List.map_take]
inductive Rt where
  | one (s : Str)
  | turns (k : Nat) (ps : List Rt)
mutual
def toD : Rt → D
  | .one s => .tup [.str "one", .str s]
  | .turns k ps => .tup [.str "turns", .int k, .tup (toDs ps)]
def toDs : List Rt → List D
  | [] => []
  | r :: rs => toD r :: toDs rs
end
mutual
def lv : Rt → Nat
  | .one _ => 1
  | .turns _ ps => lvs ps
def lvs : List Rt → Nat
  | [] => 0
  | r :: rs => lv r + lvs rs
end
mutual
def dpt : Rt → Nat
  | .one _ => 1
  | .turns _ ps => 1 + dpts ps
def dpts : List Rt → Nat
  | [] => 0
  | r :: rs => max (dpt r) (dpts rs)
end
mutual
def RtOk : Rt → Prop
  | .one s => NameOk s
  | .turns k ps => 2 ≤ ps.length ∧ ps.length ≤ 5 ∧ k < ps.length ∧ RtOks ps
def RtOks : List Rt → Prop
  | [] => True
  | r :: rs => RtOk r ∧ RtOks rs
end
theorem toDs_app : ∀ a b : List Rt, toDs (a ++ b) = toDs a ++ toDs b
  | [], b => rfl
  | x :: a, b => by simp only [List.cons_append, toDs, toDs_app a b]
theorem toDs_len : ∀ a : List Rt, (toDs a).length = a.length
  | [] => rfl
  | x :: a => by simp only [toDs, List.length_cons, toDs_len a]
theorem lvs_app : ∀ a b : List Rt, lvs (a ++ b) = lvs a + lvs b
  | [], b => by simp [lvs]
  | x :: a, b => by simp only [List.cons_append, lvs, lvs_app a b]; omega
theorem dpts_app : ∀ a b : List Rt, dpts (a ++ b) = max (dpts a) (dpts b)
  | [], b => by simp [dpts]
  | x :: a, b => by simp only [List.cons_append, dpts, dpts_app a b]; omega
theorem oks_app : ∀ {a b : List Rt}, RtOks a → RtOks b → RtOks (a ++ b)
  | [], b, _, h => h
  | x :: a, b, h, g => by simp only [List.cons_append, RtOks]; exact ⟨h.1, oks_app h.2 g⟩
def fTree (t f : Nat) : Fn := ⟨7, 4,
    (.cons (.asg (.n [4]) (.bin .add (.c (.int 2)) (.call t (.app []) (.cons (.v 0) (.cons (.c (.int 4)) .nil)))))
    (.cons (.ite (.or (.cmp .eq (.v 1) (.c (.int 1))) (.or (.cmp .lt (.ix (.v 3) (.c (.int 0))) (.bin .sub (.v 4) (.c (.int 1)))) (.cmp .lt (.call t (.app []) (.cons (.v 0) (.cons (.c (.int 5)) .nil))) (.c (.int 2)))))
    (.cons (.ret (.tup (.cons (.c (.str "one")) (.cons (.ix (.v 2) (.call t (.app []) (.cons (.v 0) (.cons (.b1 .len (.v 2)) .nil)))) .nil))))
    .nil)
    .nil)
    (.cons (.augI .sub (.v 3) (.c (.int 0)) (.bin .sub (.v 4) (.c (.int 1))))
    (.cons (.asg (.n [5]) (.b1 .tuple (.lc (.call f (.app []) (.cons (.v 0) (.cons (.bin .sub (.v 1) (.c (.int 1))) (.cons (.v 2) (.cons (.v 3) .nil))))) [6] [6] (.rng (.v 4)) (.c (.bl true)))))
    (.cons (.ret (.tup (.cons (.c (.str "turns")) (.cons (.call t (.app []) (.cons (.v 0) (.cons (.v 4) .nil))) (.cons (.v 5) .nil)))))
    .nil)))))⟩
structure Keep2 (b r : Addr) (S S' : Sta) : Prop where
  all : ∀ a o, a ≠ b → a ≠ r → S a = some o → S' a = some o
  top : ∀ q l, S b = some (.lst (.ref q :: l)) → ∃ l', S' b = some (.lst (.ref q :: l'))
instance {b r : Addr} {S S' : Sta} : CoeFun (Keep2 b r S S') (fun _ => ∀ a o, a ≠ b → a ≠ r → S a = some o → S' a = some o) := ⟨Keep2.all⟩
theorem Keep2.trans {b r : Addr} {S S1 S2 : Sta} (h : Keep2 b r S S1) (g : Keep2 b r S1 S2) : Keep2 b r S S2 := ⟨fun a o n m e => g a o n m (h a o n m e), fun q l e => let ⟨l1, e1⟩ := h.top q l e; g.top q l1 e1⟩
theorem Keep.two {b r : Addr} {S S' : Sta} (h : Keep b S S') : Keep2 b r S S' := ⟨fun a o n _ e => h a o n e, h.top⟩
theorem Keep2.put {b r : Addr} {S S2 : Sta} {o : MO} (k : Keep b S S2) (n : r ≠ b) : Keep2 b r S (ups S2 r o) := ⟨fun a u na nr e => by rw [ups_ne nr]; exact k a u na e, fun q l e => let ⟨l1, e1⟩ := k.top q l e; ⟨l1, by rw [ups_ne (Ne.symm n)]; exact e1⟩⟩
theorem ixN_10 : L2.ixN 1 0 = some 0 := by decide
theorem Box.room {b r : Addr} {S : Sta} {v : Int} (x : Box b S) (n : r ≠ b) : Box b (ups S r (.lst [.int v])) := by
  obtain ⟨q, ns, i, r', s, e1, e2, y0, y1, y2, y3⟩ := x
  by_cases h : q = r
  · exact ⟨q, [v], i, r', s, by rw [ups_ne (Ne.symm n)]; exact e1, by rw [h]; exact ups_same, y0, y1, y2, y3⟩
  · exact ⟨q, ns, i, r', s, by rw [ups_ne (Ne.symm n)]; exact e1, by rw [ups_ne h]; exact e2, y0, y1, y2, y3⟩
theorem tree_ok {P : Prg} {t f : Nat} {b pp rm : Addr} {ws : List Str} (ht : P t = some fTake) (hf : P f = some (fTree t f)) (hw0 : 0 < ws.length) (hw1 : ws.length ≤ 7) (hw : ∀ s ∈ ws, NameOk s) (n1 : pp ≠ b) (n2 : rm ≠ b) (n3 : pp ≠ rm) :
    ∀ (d n : Nat) (S : Sta) (r : Int) (Q X : K), 1 ≤ d → d ≤ 100 → d < n → Box b S → S pp = some (.lst (ws.map D.str)) → S rm = some (.lst [.int r]) → 0 ≤ r → r < 1000 →
    (∀ (T : Rt) (r' : Int) (S' : Sta), RtOk T → dpt T ≤ d → 0 ≤ r' → (lv T : Int) + r' = 1 + r → Box b S' → S' rm = some (.lst [.int r']) → Keep2 b rm S S' → Q (toD T) S') →
    callW P n f [.ref b, .int d, .ref pp, .ref rm] S Q X
  | 0, _, _, _, _, _, h, _, _, _, _, _, _, _, _ => absurd h (by omega)
  | d + 1, 0, _, _, _, _, _, _, h, _, _, _, _, _, _ => absurd h (by omega)
  | d + 1, 1, _, _, _, _, _, _, h, _, _, _, _, _, _ => absurd h (by omega)
  | d + 1, n + 2, S, r, Q, X, _, hd, hn, hb, hp, hr, r0, r1, q => by
    refine callW_of hf rfl ?_
    simp [fTree, wB, wS, wE, wEs, wIt, wTg, place]
    refine take_ok ht hb (by decide) (by decide) fun v S1 g1 g2 b1 k1 => ?_
    have hp1 := k1 _ _ n1 hp
    have hr1 := k1 _ _ n2 hr
    have leaf : ∀ S2, Box b S2 → Keep b S S2 → callW P (n + 1) t [.ref b, .int ws.length] S2
        (fun y S2 => ixO (S2 pp) y S2 fun x S1 => 2 ≤ sizeLine ∧ Q1 Q (.tup [.str (Str.ofString "one"), x]) S1) (fun x S' => Q1 X x S') := fun S2 b2 k2 => by
      refine take_ok ht b2 (by omega) (by omega) fun v S3 g1 g2 b3 k3 => ?_
      have hp3 := k3 _ _ n1 (k2 _ _ n1 hp)
      have hr3 := k3 _ _ n2 (k2 _ _ n2 hr)
      have hv : v.toNat < ws.length := by omega
      simp [hp3]
      refine ⟨.str ws[v.toNat], at_pos g1 (by simp [hv]), line4 (by decide), q1_of ?_⟩
      exact q (.one ws[v.toNat]) r S3 (hw _ (List.getElem_mem hv)) (by simp [dpt]) r0 (by simp [lv]) b3 hr3 (k2.trans k3).two
    have big : ∀ S2, Box b S2 → Keep b S S2 → ¬ d = 0 → ¬ r < 2 + v - 1 →
        wcomp [] (fun x S2 R => callW P (n + 1) f [.ref b, .int d, .ref pp, .ref rm] S2 (fun d S4 => R (some d) S4) fun x x_1 => False)
          (List.map (fun i => D.int ((i : Nat) : Int)) (List.range (2 + v).toNat)) [] (ups S2 rm (.lst [.int (r - (2 + v - 1))])) fun ds S5 =>
          ∀ (p : Addr), S5 p = none → callW P (n + 1) t [.ref b, .int (2 + v)] (ups S5 p (.lst ds))
            (fun x S1 => 3 ≤ sizeLine ∧ Q1 Q (.tup [.str (Str.ofString "turns"), x, .tup ds]) S1) fun x S' => Q1 X x S' := fun S2 b2 k2 d0 hge => by
      have hm : (2 + v).toNat ≤ 5 := by omega
      refine wcomp_nat _ (by simp; omega) (fun i acc S3 => ∃ (ts : List Rt) (r' : Int), acc = toDs ts ∧ ts.length = i ∧ RtOks ts ∧ dpts ts ≤ d ∧ 0 ≤ r' ∧ (lvs ts : Int) + r' = i + (r - (2 + v - 1)) ∧ Box b S3 ∧ S3 rm = some (.lst [.int r']) ∧ Keep2 b rm S S3)
        ⟨[], r - (2 + v - 1), rfl, rfl, trivial, by simp [dpts], by omega, by simp [lvs], b2.room n2, ups_same, Keep2.put k2 n2⟩ (fun _ _ _ _ => held_nil) (fun i acc S3 ⟨ts, _, e, l, _⟩ => by rw [e, toDs_len, l]; exact Nat.le_refl _) (fun i x acc S3 R hx ⟨ts, r', e, l, o, dp, r0', hs, b3, hr3, k3⟩ hres _ => ?_) fun acc S3 ⟨ts, r', e, l, o, dp, r0', hs, b3, hr3, k3⟩ p hp' => ?_
      · obtain ⟨hi, rfl⟩ := range_at hx
        refine tree_ok ht hf hw0 hw1 hw n1 n2 n3 d (n + 1) S3 r' _ _ (by omega) (by omega) (by omega) b3 (k3 _ _ n1 n3 hp) hr3 r0' (by omega) fun T r2 S4 ok1 dp1 r20 hl b4 hr4 k4 => ?_
        refine hres _ _ ⟨ts ++ [T], r2, by rw [e, toDs_app]; rfl, by simp [l], oks_app o ⟨ok1, trivial⟩, by rw [dpts_app]; simp only [dpts]; omega, r20, ?_, b4, hr4, k3.trans k4⟩
        rw [lvs_app]
        simp only [lvs]
        push_cast
        omega
      · simp at l
        have hpr : p ≠ rm := by rintro rfl; rw [hr3] at hp'; cases hp'
        refine take_ok ht (b3.sub (Sub.new hp')) (by omega) (by omega) fun k S5 g5 g6 b5 k5 => ⟨line4 (by decide), q1_of ?_⟩
        have hk : ((k.toNat : Nat) : Int) = k := by omega
        have hr5 := k5 _ _ n2 (Sub.new hp' _ _ hr3)
        have kk : Keep2 b rm S S5 := k3.trans ((Keep.new hp').trans k5).two
        have := q (.turns k.toNat ts) r' S5 ⟨by omega, by omega, by omega, o⟩ (by simp only [dpt]; omega) r0' (by simp only [lv]; simp at hs; omega) b5 hr5 kk
        rw [e]
        simp only [toD, hk] at this
        exact this
    simp [hr1, hp1, ixN_10]
    have b62 : -4611686018427387904 ≤ 2 + v ∧ 2 + v < 4611686018427387904 := by omega
    split
    · exact leaf S1 b1 k1
    · split
      · exact leaf S1 b1 k1
      · refine take_ok ht b1 (by decide) (by decide) fun v5 S2 g3 g4 b2 k2 => ?_
        have hp2 := k2 _ _ n1 hp1
        have hr2 := k2 _ _ n2 hr1
        simp [hr2, hp2, ixN_10]
        split
        · exact leaf S2 b2 (k1.trans k2)
        · exact ⟨b62.1, b62.2, big S2 b2 (k1.trans k2) (by omega) (by assumption)⟩
def fRight (t f : Nat) : Fn := ⟨7, 2,
    (.cons (.asg (.n [2]) (.call t (.app []) (.cons (.v 0) (.cons (.c (.int 4)) .nil))))
    (.cons (.ite (.cmp .eq (.v 2) (.c (.int 0)))
    (.cons (.ret (.call f (.app []) (.cons (.v 0) (.cons (.c (.int 4)) (.cons (.v 1) (.cons (.lst (.cons (.c (.int 23)) .nil)) .nil))))))
    .nil)
    .nil)
    (.cons (.asg (.n [3]) (.bin .add (.c (.int 2)) (.call t (.app []) (.cons (.v 0) (.cons (.c (.int 4)) .nil)))))
    (.cons (.asg (.n [4]) (.lst (.cons (.bin .sub (.c (.int 24)) (.v 3)) .nil)))
    (.cons (.asg (.n [5]) (.b1 .tuple (.lc (.call f (.app []) (.cons (.v 0) (.cons (.v 2) (.cons (.v 1) (.cons (.v 4) .nil))))) [6] [6] (.rng (.v 3)) (.c (.bl true)))))
    (.cons (.ret (.tup (.cons (.c (.str "turns")) (.cons (.call t (.app []) (.cons (.v 0) (.cons (.v 3) .nil))) (.cons (.v 5) .nil)))))
    .nil))))))⟩
theorem right_ok {P : Prg} {n t f g : Nat} {b pp : Addr} {ws : List Str} {S : Sta} {Q X : K} (ht : P t = some fTake) (hf : P f = some (fTree t f)) (h : P g = some (fRight t f)) (hw0 : 0 < ws.length) (hw1 : ws.length ≤ 7) (hw : ∀ s ∈ ws, NameOk s) (n1 : pp ≠ b)
    (hb : Box b S) (hp : S pp = some (.lst (ws.map D.str))) (q : ∀ (T : Rt) (S' : Sta), RtOk T → dpt T ≤ 4 → lv T ≤ 24 → Box b S' → Keep b S S' → Q (toD T) S') : callW P (n + 6) g [.ref b, .ref pp] S Q X := by
  refine callW_of h rfl ?_
  simp [fRight, wB, wS, wE, wEs, wIt, wTg, place]
  refine take_ok ht hb (by decide) (by decide) fun v S1 g1 g2 b1 k1 => ?_
  have hp1 := k1 _ _ n1 hp
  simp
  have drop : ∀ {rm : Addr} {S2 S3 : Sta}, S1 rm = none → Keep b S1 S2 → S2 rm = none → Keep2 b rm S2 S3 → Keep b S S3 := fun {rm S2 S3} e1 k2 e2 k3 => ⟨fun a o na e => k3 a o na (sne (k2 a o na (k1 a o na e)) e2) (k2 a o na (k1 a o na e)), fun q l e => let ⟨_, e1⟩ := (k1.trans k2).top q l e; k3.top q _ e1⟩
  split
  · refine ⟨line4 (by decide), fun rm hrm => ?_⟩
    have n3 : pp ≠ rm := sne hp1 hrm
    have k0 : Keep b S (ups S1 rm (.lst [.int 23])) := k1.trans (Keep.new hrm)
    refine tree_ok ht hf hw0 hw1 hw n1 (b1.at hrm) n3 4 (n + 5) _ 23 _ _ (by decide) (by decide) (by omega) (b1.sub (Sub.new hrm)) (k0 _ _ n1 hp) ups_same (by decide) (by decide) fun T r' S' ok dp r0 hl b2 _ k2 => q1_of (q T S' ok dp (by omega) b2 ?_)
    exact ⟨fun a o na e => k2 a o na (sne (k1 a o na e) hrm) (k0 a o na e), fun q l e => let ⟨_, e1⟩ := k0.top q l e; k2.top q _ e1⟩
  · refine take_ok ht b1 (by decide) (by decide) fun v2 S2 g3 g4 b2 k2 => ?_
    have hp2 := k2 _ _ n1 hp1
    simp
    refine ⟨line4 (by decide), fun rm hrm => ?_⟩
    have n3 : pp ≠ rm := sne hp2 hrm
    have n2 := b2.at hrm
    have k0 : Keep b S (ups S2 rm (.lst [.int (24 - (2 + v2))])) := (k1.trans k2).trans (Keep.new hrm)
    have hm : (2 + v2).toNat ≤ 5 := by omega
    refine ⟨by omega, by omega, ?_⟩
    refine wcomp_nat _ (by simp; omega) (fun i acc S3 => ∃ (ts : List Rt) (r' : Int), acc = toDs ts ∧ ts.length = i ∧ RtOks ts ∧ dpts ts ≤ 3 ∧ 0 ≤ r' ∧ (lvs ts : Int) + r' = i + (24 - (2 + v2)) ∧ Box b S3 ∧ S3 rm = some (.lst [.int r']) ∧ Keep2 b rm (ups S2 rm (.lst [.int (24 - (2 + v2))])) S3)
      ⟨[], 24 - (2 + v2), rfl, rfl, trivial, by simp [dpts], by omega, by simp [lvs], b2.sub (Sub.new hrm), ups_same, Keep.refl.two⟩ (fun _ _ _ _ => held_nil) (fun i acc S3 ⟨ts, _, e, l, _⟩ => by rw [e, toDs_len, l]; exact Nat.le_refl _) (fun i x acc S3 R hx ⟨ts, r', e, l, o, dp, r0', hs, b3, hr3, k3⟩ hres _ => ?_) fun acc S3 ⟨ts, r', e, l, o, dp, r0', hs, b3, hr3, k3⟩ p hp' => ?_
    · obtain ⟨hi, rfl⟩ := range_at hx
      have ev : ((v.toNat : Nat) : Int) = v := by omega
      rw [← ev]
      refine tree_ok ht hf hw0 hw1 hw n1 n2 n3 v.toNat (n + 5) S3 r' _ _ (by omega) (by omega) (by omega) b3 (k3 _ _ n1 n3 (k0 _ _ n1 hp)) hr3 r0' (by omega) fun T r2 S4 ok1 dp1 r20 hl b4 hr4 k4 => ?_
      refine hres _ _ ⟨ts ++ [T], r2, by rw [e, toDs_app]; rfl, by simp [l], oks_app o ⟨ok1, trivial⟩, by rw [dpts_app]; simp only [dpts]; omega, r20, ?_, b4, hr4, k3.trans k4⟩
      rw [lvs_app]
      simp only [lvs]
      push_cast
      omega
    · simp at l hs
      have hpr : p ≠ rm := by rintro rfl; rw [hr3] at hp'; cases hp'
      refine take_ok ht (b3.sub (Sub.new hp')) (by omega) (by omega) fun k S5 g5 g6 b5 k5 => ⟨line4 (by decide), q1_of ?_⟩
      have hk : ((k.toNat : Nat) : Int) = k := by omega
      have kk : Keep b S S5 := ⟨fun a o na e => k5 a o na (Sub.new hp' _ _ (k3 a o na (sne ((k1.trans k2) a o na e) hrm) (k0 a o na e))), fun q l e => let ⟨_, e1⟩ := k0.top q l e; let ⟨_, e2⟩ := k3.top q _ e1; ((Keep.new hp').trans k5).top q _ e2⟩
      have := q (.turns k.toNat ts) S5 ⟨by omega, by omega, by omega, o⟩ (by simp only [dpt]; omega) (by simp only [lv]; omega) b5 kk
      rw [e]
      simp only [toD, hk] at this
      exact this
def F_later_of : Fn := ⟨2, 2,
    (.cons (.ret (.bin .mod (.bin .sub (.v 1) (.ix (.v 0) (.c (.int 1)))) (.b1 .len (.ix (.v 0) (.c (.int 2))))))
    .nil)⟩
def F_due (c_later_of : Nat) : Fn := ⟨5, 2,
    (.cons (.asg (.n [2]) (.v 0))
    (.cons (.whl (.cmp .eq (.ix (.v 2) (.c (.int 0))) (.c (.str "turns")))
    (.cons (.asg (.n [3]) (.b1 .len (.ix (.v 2) (.c (.int 2)))))
    (.cons (.asg (.n [4]) (.bin .mod (.bin .add (.ix (.v 2) (.c (.int 1))) (.v 1)) (.v 3)))
    (.cons (.asg (.n [1]) (.bin .div (.bin .sub (.v 1) (.call c_later_of (.app []) (.cons (.v 2) (.cons (.v 4) .nil)))) (.v 3)))
    (.cons (.asg (.n [2]) (.ix (.ix (.v 2) (.c (.int 2))) (.v 4)))
    .nil)))))
    (.cons (.ret (.ix (.v 2) (.c (.int 1))))
    .nil)))⟩
def F_law_far (c_law_take : Nat) : Fn := ⟨1, 1,
    (.cons (.ret (.ix (.lst (.cons (.call c_law_take (.app []) (.cons (.v 0) (.cons (.c (.int 40)) .nil))) (.cons (.call c_law_take (.app []) (.cons (.v 0) (.cons (.bin .pow (.c (.int 10)) (.c (.int 6))) .nil))) (.cons (.bin .add (.bin .pow (.c (.int 10)) (.c (.int 29))) (.call c_law_take (.app []) (.cons (.v 0) (.cons (.bin .pow (.c (.int 10)) (.c (.int 18))) .nil)))) .nil)))) (.call c_law_take (.app []) (.cons (.v 0) (.cons (.c (.int 3)) .nil)))))
    .nil)⟩
def F_law_any (c_law_far c_law_take : Nat) : Fn := ⟨1, 1,
    (.cons (.ret (.bin .mul (.call c_law_far (.app []) (.cons (.v 0) .nil)) (.bin .sub (.c (.int 1)) (.bin .mul (.c (.int 2)) (.call c_law_take (.app []) (.cons (.v 0) (.cons (.c (.int 2)) .nil)))))))
    .nil)⟩
def F_law_at : Fn := ⟨3, 2,
    (.cons (.for_ (.n [2]) (.seq (.v 1))
    (.cons (.ite (.or (.cmp .eq (.ix (.v 0) (.c (.int 0))) (.c (.str "one"))) (.not (.chn (.c (.int 0)) .le (.v 2) .lt (.b1 .len (.ix (.v 0) (.c (.int 2)))))))
    (.cons (.ret (.c (.non)))
    .nil)
    .nil)
    (.cons (.asg (.n [0]) (.ix (.ix (.v 0) (.c (.int 2))) (.v 2)))
    .nil)))
    (.cons (.ret (.v 0))
    .nil))⟩
def F_law_paths (c_law_paths : Nat) : Fn := ⟨5, 1,
    (.cons (.asg (.n [1]) (.lst (.cons (.tup .nil) .nil)))
    (.cons (.ite (.cmp .eq (.ix (.v 0) (.c (.int 0))) (.c (.str "turns")))
    (.cons (.for_ (.n [2, 3]) (.enm (.ix (.v 0) (.c (.int 2))) 0)
    (.cons (.asg (.n [1]) (.bin .add (.v 1) (.lc (.bin .add (.tup (.cons (.v 2) .nil)) (.v 4)) [4] [4] (.seq (.call c_law_paths (.app []) (.cons (.v 3) .nil))) (.c (.bl true)))))
    .nil))
    .nil)
    .nil)
    (.cons (.ret (.v 1))
    .nil)))⟩
end A
namespace A
open PySem
theorem div_uniq {m x q : Int} (hm : 0 < m) (h1 : m * q ≤ x) (h2 : x < m * q + m) : x / m = q :=
  ((Int.ediv_emod_unique (a := x) (b := m) (r := x - m * q) (q := q) hm).mpr ⟨by omega, by omega, by omega⟩).1
def vis (n l m : Int) : Int := (n - l + m - 1) / m
theorem mod_bd (x : Int) {m : Int} (hm : 0 < m) : 0 ≤ x % m ∧ x % m < m := ⟨Int.emod_nonneg x (by omega), Int.emod_lt_of_pos x hm⟩
theorem mod_add_mod (x y m : Int) : (x + y % m) % m = (x + y) % m := by
  rw [Int.add_emod, Int.emod_emod_of_dvd _ (Int.dvd_refl m), ← Int.add_emod]
inductive Rg : Rt → Prop where
  | one (s) : Rg (.one s)
  | turns (k ps) : 2 ≤ ps.length → ps.length ≤ 5 → k < ps.length → (∀ p ∈ ps, Rg p) → Rg (.turns k ps)
mutual
def due : Rt → Int → Str
  | .one s, _ => s
  | .turns k ps, n => dueL ps ((k + n) % ps.length).toNat ((n - ((k + n) % ps.length - k) % ps.length) / ps.length)
def dueL : List Rt → Nat → Int → Str
  | [], _, _ => default
  | p :: _, 0, n => due p n
  | _ :: r, i + 1, n => dueL r i n
end
theorem dueL_at : ∀ {ps : List Rt} {i : Nat} {p : Rt} (n : Int), ps[i]? = some p → dueL ps i n = due p n
  | [], _, _, _, h => by simp at h
  | x :: r, 0, p, n, h => by simp at h; subst h; rfl
  | x :: r, i + 1, p, n, h => by simp only [dueL]; exact dueL_at n (by simpa using h)
theorem Rg.len {k : Nat} {ps : List Rt} (h : Rg (.turns k ps)) : 2 ≤ ps.length ∧ ps.length ≤ 5 ∧ k < ps.length ∧ ∀ p ∈ ps, Rg p := by
  cases h with
  | turns _ _ h1 h2 h3 h4 => exact ⟨h1, h2, h3, h4⟩
theorem due_at {k : Nat} {ps : List Rt} {p : Rt} {n : Int} (h : ps[((k + n) % (ps.length : Int)).toNat]? = some p) : due (.turns k ps) n = due p ((n - ((k + n) % ps.length - k) % ps.length) / ps.length) := by
  simp only [due]
  exact dueL_at _ h
theorem part_at {k : Nat} {ps : List Rt} (h1 : 0 < ps.length) (n : Int) : ∃ p, ps[((k + n) % (ps.length : Int)).toNat]? = some p := by
  have := mod_bd ((k : Int) + n) (m := ps.length) (by omega)
  exact ⟨_, List.getElem?_eq_getElem (by omega)⟩
theorem due_turn {k : Nat} {ps : List Rt} {j : Nat} {p : Rt} (h : ps[j]? = some p) (t : Int) : due (.turns k ps) (((j : Int) - k) % ps.length + ps.length * t) = due p t := by
  have hj : j < ps.length := (List.getElem?_eq_some_iff.mp h).1
  have hm : (0 : Int) < ps.length := by omega
  have hl := mod_bd ((j : Int) - k) hm
  have e : ((k : Int) + (((j : Int) - k) % ps.length + ps.length * t)) % ps.length = j := by
    rw [← Int.add_assoc, Int.add_mul_emod_self_left, mod_add_mod]
    have : (k : Int) + (j - k) = j := by omega
    rw [this]
    exact Int.emod_eq_of_lt (by omega) (by omega)
  rw [due_at (p := p) (by rw [e]; simpa using h), e]
  congr 1
  refine div_uniq hm ?_ ?_ <;> omega
mutual
def rnd : Rt → Nat
  | .one _ => 1
  | .turns _ ps => rndL 1 ps * ps.length
def rndL : Nat → List Rt → Nat
  | a, [] => a
  | a, p :: r => rndL (Nat.lcm a (rnd p)) r
end
end A
namespace A
open PySem L2
theorem q1_new {Q : K} {d : D} {S : Sta} {p : Addr} {o : MO} (hp : S p = none) (q : Q d S) : Q1 Q d (ups S p o) := ⟨S, Sub.new hp, q⟩
theorem wcomp_idx {h : List (Addr × MO)} {f : D → Sta → (Option D → Sta → Prop) → Prop} {Q : List D → Sta → Prop} {S : Sta} {xs : List D} (ys : List D) (hl : xs.length < 16777216) (hn : ys.length = xs.length) (hh : Held h S)
    (st : ∀ (i : Nat) (x y : D) (R : Option D → Sta → Prop), xs[i]? = some x → ys[i]? = some y → R (some y) S → f x S R) (fin : Q ys S) : wcomp h f xs [] S Q := by
  refine wcomp_nat xs hl (fun i acc S' => acc = ys.take i ∧ S' = S) ⟨by simp, rfl⟩ (fun _ _ _ hI => by rw [hI.2]; exact hh) (fun i acc S' hI => by rw [hI.1]; simp; omega) (fun i x acc S' R hx hI hr _ => ?_) fun acc S' hI => ?_
  · obtain ⟨rfl, rfl⟩ := hI
    have hi : i < ys.length := by rw [hn]; exact (List.getElem?_eq_some_iff.mp hx).1
    have hy : ys[i]? = some ys[i] := List.getElem?_eq_getElem hi
    exact st i x _ R hx hy (hr _ _ ⟨by rw [List.take_succ, hy]; rfl, rfl⟩)
  · obtain ⟨rfl, rfl⟩ := hI
    rw [← hn, List.take_length]
    exact fin
theorem line3 {n : Nat} (h : n < 16777216) : n ≤ sizeLine := by rw [sizeLine_eq]; omega
@[simp] theorem eq_to : (Str.ofString "turns" == Str.ofString "one") = false := by decide +kernel
@[simp] theorem eq_ot : (Str.ofString "one" == Str.ofString "turns") = false := by decide +kernel
theorem divW {i j : Int} (h0 : 0 < j) (h1 : j < 2 ^ 8000) : L2.CDivW i j := by
  refine ⟨h0, ?_⟩
  have h2 : j.natAbs < 2 ^ 8000 := by omega
  have := (Nat.log2_lt (by omega)).mpr h2
  omega
theorem divW5 {i : Int} {m : Nat} (h0 : 0 < m) (h1 : m < 1000) : L2.CDivW i m := divW (by omega) (by
  have : (1000 : Int) ≤ 2 ^ 8000 := by decide +kernel
  omega)
theorem later_ok {P : Prg} {f : Nat} (h : P f = some F_later_of) (n k : Nat) (ps : List Rt) (h0 : 0 < ps.length) (j : Int) (S : Sta) (Q X : K) (q : Q (.int ((j - k) % ps.length)) S) : callW P (n + 1) f [toD (.turns k ps), .int j] S Q X := by
  refine callW_of h rfl ?_
  simp [F_later_of, wB, wS, wE, toD, toDs_len]
  exact ⟨h0, q1_of q⟩
theorem toDs_get : ∀ (l : List Rt) (i : Nat) (r : Rt), l[i]? = some r → (toDs l)[i]? = some (toD r)
  | [], _, _, h => by simp at h
  | x :: xs, 0, r, h => by simp at h; subst h; simp [toDs]
  | x :: xs, i + 1, r, h => by
    simp only [toDs, List.getElem?_cons_succ]
    exact toDs_get xs i r (by simpa using h)
theorem toDs_ix {l : List Rt} {i : Nat} {r : Rt} (h : l[i]? = some r) : L2.atI (toDs l) (i : Int) = some (toD r) := L2.atI_nat (toDs_get l i r h)
theorem dpt_at : ∀ {l : List Rt} {i : Nat} {r : Rt}, l[i]? = some r → dpt r ≤ dpts l
  | [], _, _, h => by simp at h
  | x :: xs, 0, r, h => by simp at h; subst h; simp only [dpts]; omega
  | x :: xs, i + 1, r, h => by
    have := dpt_at (l := xs) (i := i) (by simpa using h)
    simp only [dpts]; omega
theorem due_ok {P : Prg} {f g : Nat} (h : P f = some (F_due g)) (hg : P g = some F_later_of) (n : Nat) (T : Rt) (ok : Rg T) (x : Int) (S : Sta) (Q X : K) (q : Q (.str (due T x)) S) : callW P (n + 2) f [toD T, .int x] S Q X := by
  refine callW_of h rfl ?_
  simp [F_due, wB, wS, wE, wTg]
  refine ⟨fun m ρ S' => ∃ (T' : Rt) (y : Int) (v3 v4 : Option D), ρ = [some (toD T), some (.int y), some (toD T'), v3, v4] ∧ m = dpt T' ∧ Rg T' ∧ due T' y = due T x ∧ S' = S, ⟨_, T, x, none, none, rfl, rfl, ok, rfl, rfl⟩, ?_⟩
  rintro m ρ S' ⟨T', y, v3, v4, rfl, rfl, ok', e, rfl⟩
  cases T' with
  | one s =>
    simp [toD]
    simp only [due] at e
    rw [e]
    exact q1_of q
  | turns k ps =>
    obtain ⟨h1, h2, h3, h4⟩ := ok'.len
    have hm : (0 : Int) < ps.length := by omega
    have hb := mod_bd ((k : Int) + y) hm
    obtain ⟨p, hp⟩ := part_at (k := k) (ps := ps) (by omega) y
    have en : (((((k : Int) + y) % ps.length).toNat : Nat) : Int) = ((k : Int) + y) % ps.length := by omega
    have hx := toDs_ix hp
    rw [en] at hx
    have hD : toD (.turns k ps) = .tup [.str (Str.ofString "turns"), .int k, .tup (toDs ps)] := rfl
    rw [hD]
    simp [wE, wEs, place, toDs_len]
    refine ⟨by omega, ?_⟩
    refine later_ok hg n k ps (by omega) _ _ _ _ ?_
    simp [hx]
    refine ⟨divW5 (by omega) (by omega), dpt p, ?_, p, _, ⟨rfl, rfl⟩, rfl, h4 p (List.mem_of_getElem? hp), ?_⟩
    · have := dpt_at hp
      simp only [dpt]; omega
    · rw [← e, due_at hp]; simp
theorem enum_toDs {ps : List Rt} {i : Nat} {y : D} (h : (enumF 0 (toDs ps))[i]? = some y) : ∃ p, ps[i]? = some p ∧ y = .tup [.int i, toD p] := by
  have hi : i < ps.length := by
    have := (List.getElem?_eq_some_iff.mp h).1
    rw [enumF_len, toDs_len] at this
    exact this
  have hp : ps[i]? = some ps[i] := List.getElem?_eq_getElem hi
  have e := enumF_get (toDs ps) 0 i _ (toDs_get ps i _ hp)
  rw [h] at e
  refine ⟨_, hp, ?_⟩
  rw [Int.zero_add] at e
  exact Option.some.inj e
def nmsR (T : Rt) (a : Int) (m : Nat) : List Str := (List.range m).map fun (i : Nat) => due T (a + i)
def strD (l : List Str) : List D := l.map .str
mutual
def nbD : D → Bool
  | .non => true
  | .int _ => true
  | .str s => PyData.strOk s
  | .tup l => nbDs l
  | _ => false
def nbDs : List D → Bool
  | [] => true
  | d :: r => nbD d && nbDs r
end
mutual
def pOf : D → PyData
  | .int i => .int i
  | .str s => .str s
  | .tup l => .tuple (pOfs l)
  | _ => .none
def pOfs : List D → List PyData
  | [] => []
  | d :: r => pOf d :: pOfs r
end
mutual
theorem toP_nb : ∀ d : D, nbD d = true → toP d = some (pOf d) ∧ (pOf d).canLay0 = true ∧ (pOf d).depth ≤ depD d
  | .non, _ => ⟨rfl, rfl, Nat.zero_le _⟩
  | .int i, _ => ⟨rfl, rfl, Nat.zero_le _⟩
  | .str s, h => ⟨rfl, h, Nat.zero_le _⟩
  | .tup l, h => by
    simp only [nbD] at h
    obtain ⟨h1, h2, h3⟩ := toP_nbs l h
    refine ⟨by simp only [toP, h1, pOf]; rfl, by simp only [pOf, PyData.canLay0]; exact h2, ?_⟩
    simp only [pOf, PyData.depth, depD]
    omega
  | .bl _, h => by cases h
  | .lis _, h => by cases h
  | .ref _, h => by cases h
  | .fn _, h => by cases h
  | .exc _ _ _, h => by cases h
theorem toP_nbs : ∀ l : List D, nbDs l = true → toPs l = some (pOfs l) ∧ PyData.canLayAll0 (pOfs l) = true ∧ PyData.depthAll (pOfs l) ≤ depDs l
  | [], _ => ⟨rfl, rfl, Nat.zero_le _⟩
  | d :: r, h => by
    simp only [nbDs, Bool.and_eq_true] at h
    obtain ⟨h1, h2, h3⟩ := toP_nb d h.1
    obtain ⟨g1, g2, g3⟩ := toP_nbs r h.2
    refine ⟨by simp only [toPs, h1, g1, pOfs], by simp only [pOfs, PyData.canLayAll0, h2, g2]; rfl, ?_⟩
    simp only [pOfs, PyData.depthAll, depDs]
    omega
end
mutual
theorem eqv_nb : ∀ d e : D, nbD d = true → nbD e = true → (PyData.eqv (pOf d) (pOf e) = true ↔ d = e)
  | .non, e, _, he => by cases e <;> simp [pOf, PyData.eqv] <;> cases he
  | .int i, e, _, he => by cases e <;> simp [pOf, PyData.eqv] <;> cases he
  | .str s, e, _, he => by cases e <;> simp [pOf, PyData.eqv] <;> cases he
  | .tup l, e, hd, he => by
    cases e with
    | tup m =>
      simp only [nbD] at hd he
      simp only [pOf, PyData.eqv, D.tup.injEq]
      exact eqv_nbs l m hd he
    | _ => first | (cases he; done) | simp [pOf, PyData.eqv]
  | .bl _, _, h, _ => by cases h
  | .lis _, _, h, _ => by cases h
  | .ref _, _, h, _ => by cases h
  | .fn _, _, h, _ => by cases h
  | .exc _ _ _, _, h, _ => by cases h
theorem eqv_nbs : ∀ l m : List D, nbDs l = true → nbDs m = true → (PyData.eqvAll (pOfs l) (pOfs m) = true ↔ l = m)
  | [], [], _, _ => by simp [pOfs, PyData.eqvAll]
  | [], _ :: _, _, _ => by simp [pOfs, PyData.eqvAll]
  | _ :: _, [], _, _ => by simp [pOfs, PyData.eqvAll]
  | d :: l, e :: m, hd, he => by
    simp only [nbDs, Bool.and_eq_true] at hd he
    simp only [pOfs, PyData.eqvAll, Bool.and_eq_true, List.cons.injEq]
    rw [eqv_nb d e hd.1 he.1, eqv_nbs l m hd.2 he.2]
end
theorem shaped_nb {d : D} (h : nbD d = true) (hd : depD d ≤ 60) : SeqAt.shaped (pOf d) = true := by
  obtain ⟨_, h2, h3⟩ := toP_nb d h
  unfold SeqAt.shaped
  rw [h2, Bool.true_and, decide_eq_true_eq]
  omega
theorem toPS_nb {S : Sta} {d : D} (h : nbD d = true) : toPS S d = some (pOf d) := by
  have := (toP_nb d h).1
  cases d <;> first | exact this | cases h
theorem eqDD_nb {S : Sta} {d e : D} {P : Bool → Prop} (hd : nbD d = true) (he : nbD e = true) (d1 : depD d ≤ 60) (d2 : depD e ≤ 60) (q : ∀ b : Bool, (b = true ↔ d = e) → P b) : eqDD S d e P :=
  ⟨_, _, toPS_nb hd, toPS_nb he, shaped_nb hd d1, shaped_nb he d2, q _ (eqv_nb d e hd he)⟩
@[simp] theorem cmp_eqt {C : Orc} {l : List D} {y : D} {S : Sta} {R : Bool → Sta → Prop} : wcmp C .eq (.tup l) y S R = eqDD S (.tup l) y (fun b => R b S) := rfl
@[simp] theorem cmp_net {C : Orc} {l : List D} {y : D} {S : Sta} {R : Bool → Sta → Prop} : wcmp C .ne (.tup l) y S R = eqDD S (.tup l) y (fun b => R (!b) S) := rfl
mutual
theorem ok_rg : ∀ T : Rt, RtOk T → Rg T
  | .one s, _ => .one s
  | .turns k ps, ⟨h2, h5, hk, o⟩ => .turns k ps h2 h5 hk (oks_rg ps o)
theorem oks_rg : ∀ l : List Rt, RtOks l → ∀ p ∈ l, Rg p
  | [], _, p, h => by cases h
  | r :: rs, o, p, h => by
    rcases List.mem_cons.mp h with h | h
    · rw [h]; exact ok_rg r o.1
    · exact oks_rg rs o.2 p h
end
def eqN : Nat → Sta → D → D → Prop
  | 0, _, _, _ => False
  | n + 1, S, d, e => match d, e with
    | .non, .non => True
    | .int i, .int j => i = j
    | .str s, .str t => s = t
    | .bl a, .bl b => a = b
    | .tup l, .tup m => l.length = m.length ∧ l.length < 16777216 ∧ ∀ (i : Nat) (x y : D), l[i]? = some x → m[i]? = some y → eqN n S x y
    | .ref a, .ref b => ∃ l m, S a = some (.lst l) ∧ S b = some (.lst m) ∧ l.length = m.length ∧ l.length < 16777216 ∧ ∀ (i : Nat) (x y : D), l[i]? = some x → m[i]? = some y → eqN n S x y
    | _, _ => False
theorem zipD_is : ∀ {l m : List D} {i : Nat} {x : D}, (zipD l m)[i]? = some x → ∃ d e, l[i]? = some d ∧ m[i]? = some e ∧ x = .tup [d, e]
  | [], m, i, x, h => by simp [zipD] at h
  | y :: r, [], i, x, h => by simp [zipD] at h
  | y :: r, z :: t, 0, x, h => by simp [zipD] at h; exact ⟨y, z, rfl, rfl, h.symm⟩
  | y :: r, z :: t, i + 1, x, h => by
    simp only [zipD, List.getElem?_cons_succ] at h
    simpa using zipD_is h
theorem both_lst {S : Sta} {a b : Addr} {l m : List D} (ha : S a = some (.lst l)) (hb : S b = some (.lst m)) : both S (.ref a) (.ref b) l m := .inl ⟨by simp [ha], by simp [hb]⟩
theorem eqN_ok {P : Prg} {t : Nat} (h : P t = some (fSame t)) : ∀ (n : Nat) (d e : D) (S : Sta) (Q X : K), eqN n S d e → Q (.bl true) S → callW P n t [d, e] S Q X
  | 0, _, _, _, _, _, h, _ => h.elim
  | n + 1, d, e, S, Q, X, he, q => by
    have list : ∀ (l m : List D) (hl : l.length = m.length) (hs : l.length < 16777216) (hx : ∀ (i : Nat) (x y : D), l[i]? = some x → m[i]? = some y → eqN n S x y) (hh : List (Addr × MO)) (hd : Held hh S) (ρ2 ρ3 : Option D),
        wcomp hh (fun x S2 R => wtgN [2, 3] x [ρ2, ρ3, none, none] fun ρ1 => ∃ d, ρ1[2]? = some (some d) ∧ ∃ d_1, ρ1[3]? = some (some d_1) ∧ callW P n t [d, d_1] S2 (fun d S4 => R (some d) S4) fun x x_1 => False) (zipD l m) [] S
          fun ds S5 => ∀ p, S5 p = none → ∃ bs, bsOf ds = some bs ∧ Q1 Q (.bl (bs.all id)) (ups S5 p (.lst ds)) := fun l m hl hs hx hh hd ρ2 ρ3 => by
      refine wcomp_idx (List.replicate l.length (.bl true)) (by rw [zipD_len]; omega) (by rw [zipD_len]; simp; omega) hd (fun i x y R hx1 hy hR => ?_) fun p hp => ?_
      · obtain ⟨d, e, h1, h2, rfl⟩ := zipD_is hx1
        have hi : i < l.length := (List.getElem?_eq_some_iff.mp h1).1
        rw [List.getElem?_replicate, if_pos hi] at hy
        cases hy
        simp
        exact eqN_ok h n d e S _ _ (hx i d e h1 h2) hR
      · refine ⟨_, bsOf_rep _, ?_⟩
        have e1 : (List.replicate l.length true).all id = true := by simp
        rw [e1]
        exact q1_new hp q
    refine callW_of h rfl ?_
    cases d with
    | int i =>
      cases e <;> first | (exact False.elim he) | skip
      have he : i = _ := he
      subst he
      simp [fSame, wB, wS, wE, isKd]
      exact q1_of q
    | str i =>
      cases e <;> first | (exact False.elim he) | skip
      have he : i = _ := he
      subst he
      simp [fSame, wB, wS, wE, isKd]
      exact q1_of q
    | bl i =>
      cases e <;> first | (exact False.elim he) | skip
      have he : i = _ := he
      subst he
      simp [fSame, wB, wS, wE, isKd]
      exact q1_of q
    | non =>
      cases e <;> first | (exact False.elim he) | skip
      simp [fSame, wB, wS, wE, isKd]
      exact q1_of q
    | tup l =>
      cases e <;> first | (exact False.elim he) | skip
      rename_i m
      obtain ⟨hl, hs, hx⟩ := he
      simp [fSame, wB, wS, wE, wEs, wIt, isKd, both_tup, place, hl]
      exact ⟨l, m, ⟨rfl, rfl⟩, list l m hl hs hx _ held_nil _ _⟩
    | ref a =>
      cases e <;> first | (exact False.elim he) | skip
      rename_i b
      obtain ⟨l, m, ha, hb, hl, hs, hx⟩ := he
      simp [fSame, wB, wS, wE, wEs, wIt, isKd, place, hl, ha, hb]
      exact ⟨l, m, both_lst ha hb, list l m hl hs hx _ (fun p hp => by
        simp at hp
        rcases hp with rfl | rfl
        · exact ha
        · exact hb) _ _⟩
    | _ => exact False.elim he
theorem same_int {P : Prg} {t : Nat} (h : P t = some (fSame t)) {n : Nat} {i : Int} {S : Sta} {Q X : K} (q : Q (.bl true) S) : callW P (n + 1) t [.int i, .int i] S Q X := eqN_ok h (n + 1) _ _ S Q X rfl q
theorem same_str {P : Prg} {t : Nat} (h : P t = some (fSame t)) {n : Nat} {i : Str} {S : Sta} {Q X : K} (q : Q (.bl true) S) : callW P (n + 1) t [.str i, .str i] S Q X := eqN_ok h (n + 1) _ _ S Q X rfl q
theorem powC (a b : Int) (h0 : 0 ≤ b) (h1 : b ≤ 1000) (h2 : 0 ≤ a) (h3 : a < 1000) : L2.CPow a b := ⟨h0, by omega, by omega⟩
theorem Keep.fresh {b p : Addr} {S S' : Sta} {o : MO} (k : Keep b S S') (h : S' p = none) : Keep b S (ups S' p o) := k.trans (Keep.new h)
theorem far_ok {P : Prg} {t f : Nat} {b : Addr} {S : Sta} {Q X : K} (ht : P t = some fTake) (h : P f = some (F_law_far t)) (n : Nat) (hb : Box b S)
    (q : ∀ v S', 0 ≤ v → v < 2 ^ 100 → Box b S' → Keep b S S' → Q (.int v) S') : callW P (n + 2) f [.ref b] S Q X := by
  refine callW_of h rfl ?_
  simp [F_law_far, wB, wS, wE, wEs, place]
  refine take_ok ht hb (by decide) (by decide) fun v1 S1 a1 a2 b1 k1 => ?_
  try simp
  refine ⟨powC _ _ (by decide) (by decide) (by decide) (by decide), ?_⟩
  refine take_ok ht b1 (by decide) (by decide) fun v2 S2 c1 c2 b2 k2 => ?_
  try simp
  refine ⟨powC _ _ (by decide) (by decide) (by decide) (by decide), powC _ _ (by decide) (by decide) (by decide) (by decide), ?_⟩
  refine take_ok ht b2 (by decide) (by decide) fun v3 S3 d1 d2 b3 k3 => ?_
  try simp
  refine ⟨line4 (by decide), fun p hp => ?_⟩
  refine take_ok ht (b3.sub (Sub.new hp)) (by decide) (by decide) fun v4 S4 e1 e2 b4 k4 => ?_
  have np := b3.at hp
  have ep := k4 _ _ np ups_same
  have kk : Keep b S S4 := ((k1.trans k2).trans (k3.fresh hp)).trans k4
  simp [ep]
  have h3 : v4 = 0 ∨ v4 = 1 ∨ v4 = 2 := by omega
  rcases h3 with rfl | rfl | rfl
  · exact ⟨_, at_0 _ _, q1_of (q _ _ a1 (by omega) b4 kk)⟩
  · exact ⟨_, at_1 _ _ _, q1_of (q _ _ c1 (by omega) b4 kk)⟩
  · exact ⟨_, at_2 _ _ _ _, q1_of (q _ _ (by omega) (by omega) b4 kk)⟩
theorem any_ok {P : Prg} {t f g : Nat} {b : Addr} {S : Sta} {Q X : K} (ht : P t = some fTake) (hf : P f = some (F_law_far t)) (h : P g = some (F_law_any f t)) (n : Nat) (hb : Box b S)
    (q : ∀ v S', -(2 ^ 100) < v → v < 2 ^ 100 → Box b S' → Keep b S S' → Q (.int v) S') : callW P (n + 3) g [.ref b] S Q X := by
  refine callW_of h rfl ?_
  simp [F_law_any, wB, wS, wE, wEs, place]
  refine far_ok ht hf n hb fun v1 S1 a1 a2 b1 k1 => ?_
  try simp
  refine take_ok ht b1 (by decide) (by decide) fun v2 S2 c1 c2 b2 k2 => ?_
  try simp
  refine ⟨.inl (.inl ⟨by omega, by omega⟩), .inl (.inr ⟨by omega, by omega⟩), q1_of (q _ _ ?_ ?_ b2 (k1.trans k2))⟩
  · have : v2 = 0 ∨ v2 = 1 := by omega
    rcases this with rfl | rfl <;> omega
  · have : v2 = 0 ∨ v2 = 1 := by omega
    rcases this with rfl | rfl <;> omega
end A
namespace A
open PySem
end A
namespace A
open PySem L2
theorem bin_addl {a b : Addr} {xs ys : List D} {S : Sta} {Q : K} (ha : S a = some (.lst xs)) (hb : S b = some (.lst ys)) : wbin .add (.ref a) (.ref b) S Q = (xs.length + ys.length ≤ sizeLine ∧ ∀ p, S p = none → Q (.ref p) (ups S p (.lst (xs ++ ys)))) := by
  show (match S a, S b with
    | some (.lst xs), some (.lst ys) => xs.length + ys.length ≤ sizeLine ∧ ∀ p, S p = none → Q (.ref p) (ups S p (.lst (xs ++ ys)))
    | _, _ => False) = _
  rw [ha, hb]
@[simp] theorem cmp_eqsi {C : Orc} {i : Str} {j : Int} {S : Sta} {R : Bool → Sta → Prop} : wcmp C .eq (.str i) (.int j) S R = R false S := rfl
def pathD (r : List Nat) : D := .tup (r.map fun (i : Nat) => D.int (i : Int))
theorem Sub.ups_of {S S' : Sta} {p : Addr} {o : MO} (h : Sub S S') (e : S' p = some o) : Sub (A.ups S p o) S' := fun a u q => by
  by_cases ha : a = p
  · subst ha; rw [ups_same] at q; cases q; exact e
  · rw [ups_ne ha] at q; exact h a u q
theorem sub_none {S S' : Sta} (h : Sub S S') {p : Addr} (e : S' p = none) : S p = none := by
  cases e2 : S p with
  | none => rfl
  | some o => rw [h _ _ e2] at e; cases e
theorem lvs_take_le : ∀ (l : List Rt) (i : Nat), lvs (l.take i) ≤ lvs l
  | [], i => by simp [lvs]
  | x :: l, 0 => by simp [lvs]
  | x :: l, i + 1 => by simp only [List.take_succ_cons, lvs]; have := lvs_take_le l i; omega
theorem lv_at : ∀ {l : List Rt} {i : Nat} {r : Rt}, l[i]? = some r → lvs (l.take i) + lv r ≤ lvs l
  | [], _, _, h => by simp at h
  | x :: xs, 0, r, h => by simp at h; subst h; simp [lvs]
  | x :: xs, i + 1, r, h => by
    have := lv_at (l := xs) (i := i) (by simpa using h)
    simp only [List.take_succ_cons, lvs]; omega
@[simp] theorem b2_min {i j : Int} {S : Sta} {Q : K} : wb2 .min (.int i) (.int j) S Q = Q (.int (min i j)) S := rfl
@[simp] theorem b2_max {i j : Int} {S : Sta} {Q : K} : wb2 .max (.int i) (.int j) S Q = Q (.int (max i j)) S := rfl
@[simp] theorem bm_count {a : Addr} {s : Str} {xs : List Str} {S : Sta} {Q : K} (h : S a = some (.lst (strD xs))) : wbm .count .list (.ref a) [.str s] S Q = Q (.int (xs.count s : Nat)) S := by
  show (match S a with
    | some (.lst l) => ∃ ss, strsOf l = some ss ∧ Q (.int (ss.countP fun y => y == s : Nat)) S
    | _ => False) = _
  rw [h]
  refine propext ⟨fun ⟨ss, e, q⟩ => ?_, fun q => ⟨xs, strs_mapW xs, q⟩⟩
  rw [show strsOf (strD xs) = some xs from strs_mapW xs] at e
  cases e
  exact q
def cN (T : Rt) (a : Int) (m : Nat) (s : Str) : Nat := (nmsR T a m).count s
def cL (T : Rt) (m : Nat) (s : Str) : List Int := (List.range (rnd T)).map fun a => (cN T (a : Nat) m s : Int)
end A
namespace A
open PySem
end A
namespace A
open PySem L2
def pathAt : List Nat → Rt → Prop
  | [], _ => True
  | i :: r, .turns _ ps => ∃ p, ps[i]? = some p ∧ pathAt r p
  | _ :: _, .one _ => False
theorem pathD_nb : ∀ r : List Nat, nbDs (r.map fun (i : Nat) => D.int (i : Int)) = true ∧ depDs (r.map fun (i : Nat) => D.int (i : Int)) = 0
  | [] => ⟨rfl, rfl⟩
  | i :: r => by
    obtain ⟨h1, h2⟩ := pathD_nb r
    refine ⟨?_, ?_⟩
    · show (true && nbDs _) = true
      rw [h1]; rfl
    · show max 0 (depDs _) = 0
      omega
theorem cutD_1 (d : D) (l : List D) : cutD (d :: l) (some 1) none = l := by
  unfold cutD
  simp only [HT.sIx]
  rw [if_neg (by omega)]
  simp
theorem Keep.sub {b : Addr} {S S' : Sta} (h : Sub S S') : Keep b S S' := h.keep
def atR : List Int → Rt → Option Rt
  | [], T => some T
  | i :: r, .turns _ ps => if 0 ≤ i ∧ i < ps.length then (match ps[i.toNat]? with
    | some p => atR r p
    | none => none) else none
  | _ :: _, .one _ => none
def pthD (is : List Int) : D := .tup (is.map .int)
def noPart (is : List Int) : D := .exc 23 [0, 3] [.str (Str.ofString "NoPart"), pthD is]
def optT : Option Rt → D
  | some U => toD U
  | none => .non
theorem law_at_ok {P : Prg} {f : Nat} (h : P f = some F_law_at) (n : Nat) (T : Rt) (rg : Rg T) (is : List Int) (hl : is.length < 10000) (S : Sta) (Q X : K) (q : Q (optT (atR is T)) S) : callW P (n + 1) f [toD T, pthD is] S Q X := by
  refine callW_of h rfl ?_
  simp [F_law_at, wB, wS, wE, wEs, wIt, wTg, place, placeL, Es.len, pthD]
  refine wfor_nat _ (fun i ρ S' => (∃ T' v2, ρ = [some (toD T'), some (pthD is), v2] ∧ Rg T' ∧ atR (is.drop i) T' = atR is T) ∧ S' = S) ⟨⟨T, none, rfl, rg, rfl⟩, rfl⟩ (fun _ _ _ _ => held_nil) (fun i y ρ S' R hy hI hR => ?_) fun ρ S' hI => ?_
  · obtain ⟨⟨T', v3, rfl, rg', e⟩, rfl⟩ := hI
    rw [List.getElem?_map] at hy
    obtain ⟨a, ha, rfl⟩ := Option.map_eq_some_iff.mp hy
    have hd : is.drop i = a :: is.drop (i + 1) := by
      obtain ⟨hi, e2⟩ := List.getElem?_eq_some_iff.mp ha
      rw [List.drop_eq_getElem_cons hi, e2]
    rw [hd] at e
    cases T' with
    | one s =>
      simp only [atR] at e
      rw [← e] at q
      simp [toD, pthD]
      exact q1_of q
    | turns k ps =>
      have hD : toD (.turns k ps) = .tup [.str (Str.ofString "turns"), .int k, .tup (toDs ps)] := rfl
      simp only [atR] at e
      simp [hD, toDs_len, pthD]
      by_cases h0 : 0 ≤ a
      · by_cases h1 : a < ps.length
        · rw [if_pos ⟨h0, h1⟩] at e
          obtain ⟨b, rfl⟩ := Int.eq_ofNat_of_zero_le h0
          have hb : b < ps.length := by omega
          have hp : ps[b]? = some ps[b] := List.getElem?_eq_getElem hb
          simp only [Int.toNat_natCast, hp] at e
          simp only [h0, h1, if_true]
          exact ⟨_, toDs_ix hp, hR _ _ ⟨⟨ps[b], _, rfl, rg'.len.2.2.2 _ (List.mem_of_getElem? hp), e⟩, rfl⟩⟩
        · rw [if_neg (by omega)] at e
          rw [← e] at q
          simp only [h0, h1, if_true, if_false]
          exact q1_of q
      · rw [if_neg (by omega)] at e
        rw [← e] at q
        simp only [h0, if_false]
        exact q1_of q
  · obtain ⟨⟨T', v3, rfl, rg', e⟩, rfl⟩ := hI
    simp [List.length_map, List.drop_length, atR] at e
    rw [← e] at q
    simp
    exact q1_of q
mutual
def pths : Rt → List (List Nat)
  | .one _ => [[]]
  | .turns _ ps => [] :: pthsL 0 ps
def pthsL : Nat → List Rt → List (List Nat)
  | _, [] => []
  | i, p :: r => (pths p).map (fun x => i :: x) ++ pthsL (i + 1) r
end
mutual
theorem pths_at : ∀ (T : Rt) (r : List Nat), r ∈ pths T → ∃ U, atR (r.map fun (i : Nat) => (i : Int)) T = some U ∧ r.length < dpt T
  | .one s, r, h => by
    simp only [pths, List.mem_singleton] at h
    subst h
    exact ⟨_, rfl, by simp [dpt]⟩
  | .turns k ps, r, h => by
    simp only [pths, List.mem_cons] at h
    rcases h with rfl | h
    · exact ⟨_, rfl, by simp only [dpt, List.length_nil]; omega⟩
    · obtain ⟨j, p, r', hp, rfl, hr⟩ := pths_atL ps 0 r h
      obtain ⟨U, e, hl⟩ := hr
      have hj : j < ps.length := (List.getElem?_eq_some_iff.mp hp).1
      refine ⟨U, ?_, ?_⟩
      · rw [Nat.zero_add, List.map_cons]
        simp only [atR, Int.toNat_natCast, hp]
        rw [if_pos ⟨by omega, by omega⟩]
        exact e
      · have := dpt_at hp
        simp only [dpt, List.length_cons]; omega
theorem pths_atL : ∀ (ps : List Rt) (i : Nat) (r : List Nat), r ∈ pthsL i ps → ∃ (j : Nat) (p : Rt) (r' : List Nat), ps[j]? = some p ∧ r = (i + j) :: r' ∧ ∃ U, atR (r'.map fun (i : Nat) => (i : Int)) p = some U ∧ r'.length < dpt p
  | [], i, r, h => by simp [pthsL] at h
  | q :: ps, i, r, h => by
    simp only [pthsL, List.mem_append, List.mem_map] at h
    rcases h with ⟨r', h, rfl⟩ | h
    · exact ⟨0, q, r', rfl, rfl, pths_at q r' h⟩
    · obtain ⟨j, p, r', hp, e, hr⟩ := pths_atL ps (i + 1) r h
      exact ⟨j + 1, p, r', by simpa using hp, by rw [e]; congr 1; omega, hr⟩
end
theorem pthsL_app (a b : List Rt) : ∀ i, pthsL i (a ++ b) = pthsL i a ++ pthsL (i + a.length) b := by
  induction a with
  | nil => intro i; simp [pthsL]
  | cons x r ih =>
    intro i
    simp only [List.cons_append, pthsL, ih (i + 1), List.append_assoc, List.length_cons]
    rw [Nat.add_assoc, Nat.add_comm 1]
def ptsD (l : List (List Nat)) : List D := l.map pathD
mutual
theorem pths_len : ∀ T : Rt, Rg T → (pths T).length + 1 ≤ 2 * lv T
  | .one s, _ => by simp [pths, lv]
  | .turns k ps, h => by
    obtain ⟨h1, h2, h3, h4⟩ := h.len
    have := pthsL_len ps 0 h4
    simp only [pths, List.length_cons, lv]; omega
theorem pthsL_len : ∀ (ps : List Rt) (i : Nat), (∀ p ∈ ps, Rg p) → (pthsL i ps).length + ps.length ≤ 2 * lvs ps
  | [], i, _ => by simp [pthsL, lvs]
  | p :: r, i, h => by
    have h1 := pths_len p (h p (List.mem_cons_self ..))
    have h2 := pthsL_len r (i + 1) fun q hq => h q (List.mem_cons_of_mem _ hq)
    simp only [pthsL, List.length_append, List.length_map, List.length_cons, lvs]; omega
end
theorem law_paths_ok {P : Prg} {f : Nat} (h : P f = some (F_law_paths f)) : ∀ (n : Nat) (T : Rt) (S : Sta) (Q X : K), Rg T → dpt T < n → dpt T ≤ 900 → lv T ≤ 100000 → (∀ p, S p = none → Q (.ref p) (ups S p (.lst (ptsD (pths T))))) → callW P n f [toD T] S Q X
  | 0, _, _, _, _, _, h, _, _, _ => absurd h (by omega)
  | n + 1, .one s, S, Q, X, ok, hd, hd2, hl, q => by
    refine callW_of h rfl ?_
    simp [F_law_paths, wB, wS, wE, wEs, wTg, toD]
    exact ⟨line4 (by decide), fun p hp => q1_of (q p hp)⟩
  | n + 1, .turns k ps, S, Q, X, ok, hd, hd2, hl, q => by
    obtain ⟨h1, h2, h3, h4⟩ := ok.len
    simp only [dpt] at hd hd2
    simp only [lv] at hl
    have hD : toD (.turns k ps) = .tup [.str (Str.ofString "turns"), .int k, .tup (toDs ps)] := rfl
    refine callW_of h rfl ?_
    simp [F_law_paths, wB, wS, wE, wEs, wIt, wTg, hD, toDs_len, place]
    refine ⟨line4 (by decide), fun p0 hp0 => ?_⟩
    refine wfor_nat _ (fun i ρ S' => (∃ p v2 v3 v4, ρ = [some (toD (.turns k ps)), some (.ref p), v2, v3, v4] ∧ S' p = some (.lst (ptsD ([] :: pthsL 0 (ps.take i)))) ∧ S p = none) ∧ Sub S S') ⟨⟨p0, none, none, none, rfl, ups_same, hp0⟩, Sub.new hp0⟩ (fun _ _ _ _ => held_nil) (fun i y ρ S' R hy hI hR => ?_) fun ρ S' hI => ?_
    · obtain ⟨⟨p, v2, v3, v4, rfl, ep, np⟩, sb⟩ := hI
      obtain ⟨t, ht, rfl⟩ := enum_toDs hy
      have dt := dpt_at ht
      have lt := lv_at ht
      have rt := h4 t (List.mem_of_getElem? ht)
      have pl := pths_len t rt
      try simp
      refine law_paths_ok h n t _ _ _ rt (by omega) (by omega) (by omega) fun p2 hp2 => ?_
      have sb2 := Sub.new (o := .lst (ptsD (pths t))) hp2
      simp
      refine wcomp_idx (ptsD ((pths t).map fun x => i :: x)) (by simp [ptsD]; omega) (by simp [ptsD]) (fun pr hpr => by simp at hpr; subst hpr; exact ups_same) (fun j x z R3 hx hz hR3 => ?_) fun p3 hp3 => ?_
      · unfold ptsD at hx hz
        rw [List.getElem?_map] at hx hz
        obtain ⟨u, hu, rfl⟩ := Option.map_eq_some_iff.mp hx
        rw [List.getElem?_map, hu] at hz
        simp at hz
        subst hz
        have hu3 := (pths_at t u (List.mem_of_getElem? hu)).choose_spec.2
        simp [pathD]
        exact ⟨line4 (by decide), line3 (by omega), hR3⟩
      · have sb3 := Sub.new (o := .lst (ptsD ((pths t).map fun x => i :: x))) hp3
        have hlen : (ps.take i).length = i := by rw [List.length_take]; have := (List.getElem?_eq_some_iff.mp ht).1; omega
        have e1 : ps.take (i + 1) = ps.take i ++ [t] := by rw [List.take_succ, ht]; rfl
        have tk := pthsL_len (ps.take i) 0 fun q hq => h4 q (List.mem_of_mem_take hq)
        have tl := lvs_take_le ps i
        rw [bin_addl (sb3 _ _ (sb2 _ _ ep)) ups_same]
        refine ⟨line3 (by simp [ptsD]; omega), fun p4 hp4 => ?_⟩
        refine hR _ _ ⟨⟨p4, _, _, _, rfl, ?_, sub_none sb (sub_none sb2 (sub_none sb3 hp4))⟩, ((sb.trans sb2).trans sb3).trans (Sub.new hp4)⟩
        rw [ups_same, e1, pthsL_app, hlen, Nat.zero_add]
        simp [ptsD, pthsL]
    · obtain ⟨⟨p, v2, v3, v4, rfl, ep, np⟩, sb⟩ := hI
      have hl2 : (enumF 0 (toDs ps)).length = ps.length := by rw [enumF_len, toDs_len]
      rw [hl2, List.take_length] at ep
      simp
      exact ⟨_, sb.ups_of ep, q p np⟩
structure Wd (b : Addr) (L : List (Addr × MO)) (S : Sta) : Prop where
  box : Box b S
  has : ∀ p ∈ L, S p.1 = some p.2
  ne : ∀ p ∈ L, p.1 ≠ b
section
variable {b a p : Addr} {o : MO} {L : List (Addr × MO)} {S S' : Sta}
theorem Wd.start (h : Box b S) : Wd b [] S := ⟨h, fun _ h => (by cases h), fun _ h => (by cases h)⟩
theorem Wd.sub (w : Wd b L S) (h : Sub S S') : Wd b L S' := ⟨w.box.sub h, fun p hp => h _ _ (w.has p hp), w.ne⟩
theorem Wd.keep (w : Wd b L S) (h : Box b S') (k : Keep b S S') : Wd b L S' := ⟨h, fun p hp => k _ _ (w.ne p hp) (w.has p hp), w.ne⟩
theorem Wd.add (w : Wd b L S) (h : S p = some o) (n : p ≠ b) : Wd b ((p, o) :: L) S := ⟨w.box, fun x hx => by
  rcases List.mem_cons.mp hx with rfl | hx
  · exact h
  · exact w.has x hx, fun x hx => by
  rcases List.mem_cons.mp hx with rfl | hx
  · exact n
  · exact w.ne x hx⟩
theorem Wd.new (w : Wd b L S) (h : S p = none) : Wd b ((p, o) :: L) (ups S p o) := (w.sub (Sub.new h)).add ups_same (w.box.at h)
theorem Wd.skip (w : Wd b L S) (h : S p = none) : Wd b L (ups S p o) := w.sub (Sub.new h)
theorem Wd.drop {x : Addr × MO} (w : Wd b (x :: L) S) : Wd b L S := ⟨w.box, fun p hp => w.has p (List.mem_cons_of_mem _ hp), fun p hp => w.ne p (List.mem_cons_of_mem _ hp)⟩
theorem Wd.at (w : Wd b L S) (i : Nat) {a : Addr} {o : MO} (h : L[i]? = some (a, o)) : S a = some o := w.has _ (List.mem_of_getElem? h)
theorem Wd.nb (w : Wd b L S) (i : Nat) {a : Addr} {o : MO} (h : L[i]? = some (a, o)) : a ≠ b := w.ne _ (List.mem_of_getElem? h)
end
@[simp] theorem is_non : (match (D.non : D) with | .non => true | _ => false) = true := rfl
@[simp] theorem isn_non : (match (D.non : D) with | .non => false | _ => true) = false := rfl
@[simp] theorem is_bl {b : Bool} : (match (D.bl b : D) with | .non => true | _ => false) = false := rfl
@[simp] theorem isn_bl {b : Bool} : (match (D.bl b : D) with | .non => false | _ => true) = true := rfl
@[simp] theorem is_int {i : Int} : (match (D.int i : D) with | .non => true | _ => false) = false := rfl
@[simp] theorem isn_int {i : Int} : (match (D.int i : D) with | .non => false | _ => true) = true := rfl
@[simp] theorem is_str {s : Str} : (match (D.str s : D) with | .non => true | _ => false) = false := rfl
@[simp] theorem isn_str {s : Str} : (match (D.str s : D) with | .non => false | _ => true) = true := rfl
@[simp] theorem is_tup {l : List D} : (match (D.tup l : D) with | .non => true | _ => false) = false := rfl
@[simp] theorem isn_tup {l : List D} : (match (D.tup l : D) with | .non => false | _ => true) = true := rfl
@[simp] theorem is_ref {a : Addr} : (match (D.ref a : D) with | .non => true | _ => false) = false := rfl
@[simp] theorem isn_ref {a : Addr} : (match (D.ref a : D) with | .non => false | _ => true) = true := rfl
@[simp] theorem is_toD {T : Rt} : (match (toD T : D) with | .non => true | _ => false) = false := by cases T <;> rfl
@[simp] theorem isn_toD {T : Rt} : (match (toD T : D) with | .non => false | _ => true) = true := by cases T <;> rfl
@[simp] theorem is_pth {is : List Int} : (match (pthD is : D) with | .non => true | _ => false) = false := rfl
@[simp] theorem isn_pth {is : List Int} : (match (pthD is : D) with | .non => false | _ => true) = true := rfl
@[simp] theorem end_call {f : Nat} {sh : Shp} {es : Es} {d : D} {P : Option Int → Prop} : endD (.call f sh es) d P = (match d with | .int i => P (some i) | _ => False) := rfl
@[simp] theorem end_ix {a b : E} {d : D} {P : Option Int → Prop} : endD (.ix a b) d P = (match d with | .int i => P (some i) | _ => False) := rfl
@[simp] theorem end_b1 {a : B1} {b : E} {d : D} {P : Option Int → Prop} : endD (.b1 a b) d P = (match d with | .int i => P (some i) | _ => False) := rfl
@[simp] theorem end_at {a : E} {b : Nat} {d : D} {P : Option Int → Prop} : endD (.at a b) d P = (match d with | .int i => P (some i) | _ => False) := rfl
def eqL (n : Nat) (S : Sta) : List D → List D → Prop
  | [], [] => True
  | x :: l, y :: m => eqN n S x y ∧ eqL n S l m
  | _, _ => False
theorem eqL_len {n : Nat} {S : Sta} : ∀ {l m : List D}, eqL n S l m → l.length = m.length ∧ ∀ (i : Nat) (x y : D), l[i]? = some x → m[i]? = some y → eqN n S x y
  | [], [], _ => ⟨rfl, fun i x y h => by simp at h⟩
  | x :: l, y :: m, h => by
    obtain ⟨h1, h2⟩ := eqL_len h.2
    refine ⟨by simp [h1], fun i a b e1 e2 => ?_⟩
    cases i with
    | zero => simp at e1 e2; subst e1 e2; exact h.1
    | succ i => simp at e1 e2; exact h2 i a b e1 e2
  | [], _ :: _, h => by cases h
  | _ :: _, [], h => by cases h
theorem eqN_tup {n : Nat} {S : Sta} {l m : List D} (h : eqL n S l m) (hl : l.length < 16777216) : eqN (n + 1) S (.tup l) (.tup m) := ⟨(eqL_len h).1, hl, (eqL_len h).2⟩
theorem eqN_ref {n : Nat} {S : Sta} {a b : Addr} {l m : List D} (ha : S a = some (.lst l)) (hb : S b = some (.lst m)) (h : eqL n S l m) (hl : l.length < 16777216) : eqN (n + 1) S (.ref a) (.ref b) := ⟨l, m, ha, hb, (eqL_len h).1, hl, (eqL_len h).2⟩
theorem eqL_self {n : Nat} {S : Sta} : ∀ {l : List D}, (∀ x ∈ l, eqN n S x x) → eqL n S l l
  | [], _ => trivial
  | x :: l, h => ⟨h x List.mem_cons_self, eqL_self fun y hy => h y (List.mem_cons_of_mem _ hy)⟩
theorem eqN_pth {n : Nat} {S : Sta} (is : List Int) (hl : is.length < 16777216) : eqN (n + 2) S (pthD is) (pthD is) := eqN_tup (eqL_self fun x hx => by
  obtain ⟨i, _, rfl⟩ := List.mem_map.mp hx
  exact rfl) (by rw [List.length_map]; exact hl)
theorem pathD_is0 (r : List Nat) : pathD r = pthD (r.map fun (i : Nat) => (i : Int)) := by
  unfold pathD pthD
  rw [List.map_map]
  rfl
theorem pick3 {x y z : Int} {m : Int} (h0 : 0 ≤ m) (h1 : m < 3) : ∃ u : Int, L2.atI [D.int x, .int y, .int z] m = some (.int u) := by
  have hm : m = 0 ∨ m = 1 ∨ m = 2 := by omega
  rcases hm with rfl | rfl | rfl
  · exact ⟨_, rfl⟩
  · exact ⟨_, rfl⟩
  · exact ⟨_, rfl⟩
theorem pth_app (is : List Int) (z : Int) : D.tup (is.map .int ++ [.int z]) = pthD (is ++ [z]) := by unfold pthD; rw [List.map_append]; rfl
theorem rg_at : ∀ (is : List Int) (T V : Rt), Rg T → atR is T = some V → Rg V
  | [], T, V, rg, e => by simp only [atR, Option.some.injEq] at e; subst e; exact rg
  | i :: r, .one s, V, rg, e => by simp only [atR] at e; cases e
  | i :: r, .turns k ps, V, rg, e => by
    simp only [atR] at e
    split at e
    · split at e
      · rename_i p hp
        exact rg_at r p V (rg.len.2.2.2 _ (List.mem_of_getElem? hp)) e
      · cases e
    · cases e
def tn : List Nat → Rt → Int → Int
  | [], _, x => x
  | _ :: _, .one _, x => x
  | i :: r, .turns k ps, x => ((i : Int) - k) % ps.length + ps.length * (match ps[i]? with | some p => tn r p x | none => x)
def isL_ (r : List Nat) : List Int := r.map fun (i : Nat) => (i : Int)
theorem at_cons {i : Nat} {r : List Nat} {k : Nat} {ps : List Rt} {V : Rt} (e : atR (isL_ (i :: r)) (.turns k ps) = some V) : ∃ p, ps[i]? = some p ∧ atR (isL_ r) p = some V := by
  simp only [isL_, List.map_cons, atR] at e
  split at e
  · cases hp : ps[i]? with
    | none => simp [hp] at e
    | some p =>
      simp only [Int.toNat_natCast, hp] at e
      exact ⟨p, rfl, e⟩
  · cases e
theorem at_pathL : ∀ (r : List Nat) (T V : Rt), atR (isL_ r) T = some V → pathAt r T
  | [], _, _, _ => trivial
  | i :: r, .one s, V, e => by simp [isL_, atR] at e
  | i :: r, .turns k ps, V, e => by
    obtain ⟨p, hp, e'⟩ := at_cons e
    exact ⟨p, hp, at_pathL r p V e'⟩
theorem due_tn : ∀ (r : List Nat) (T V : Rt) (x : Int), atR (isL_ r) T = some V → due T (tn r T x) = due V x
  | [], T, V, x, e => by
    simp only [isL_, List.map_nil, atR, Option.some.injEq] at e
    rw [e]; rfl
  | i :: r, .one s, V, x, e => by simp [isL_, atR] at e
  | i :: r, .turns k ps, V, x, e => by
    obtain ⟨p, hp, e'⟩ := at_cons e
    simp only [tn, hp]
    rw [due_turn (k := k) hp]
    exact due_tn r p V x e'
theorem path_is0 {r : List Nat} : D.tup (r.map fun (i : Nat) => D.int (i : Int)) = pathD r := rfl
theorem turn_of_ok {P : Prg} (hP : Lib P) : ∀ (r : List Nat) (n : Nat) (T : Rt) (x : Int) (S : Sta) (Q X : K), Rg T → pathAt r T → 2 * r.length + 2 ≤ n → r.length ≤ 100 → Q (.int (tn r T x)) S → callW P n 55 [toD T, pathD r, .int x] S Q X
  | _, 0, _, _, _, _, _, _, _, h, _, _ => absurd h (by simp)
  | [], n + 1, T, x, S, Q, X, rg, hp, hn, hl, q => by
    refine callW_of (F := R_turn_of) (hP _ _ rfl) rfl ?_
    simp [R_turn_of, wB, wS, wE, wEs, wTg, pathD]
    refine eqDD_nb rfl rfl (by decide) (by decide) fun b hb => ?_
    have hb2 : b = true := hb.mpr rfl
    subst hb2
    try simp
    exact q1_of q
  | i :: r, n + 1, .one s, x, S, Q, X, rg, hp, hn, hl, q => hp.elim
  | i :: r, 1, .turns k ps, x, S, Q, X, rg, ⟨p, hp, hr⟩, hn, hl, q => by simp only [List.length_cons] at hn; omega
  | i :: r, n + 2, .turns k ps, x, S, Q, X, rg, ⟨p, hp, hr⟩, hn, hl, q => by
    simp only [List.length_cons] at hn hl
    obtain ⟨h1, h2, h3, h4⟩ := rg.len
    have hi : i < ps.length := (List.getElem?_eq_some_iff.mp hp).1
    refine callW_of (F := R_turn_of) (hP _ _ rfl) rfl ?_
    simp [R_turn_of, wB, wS, wE, wEs, wIt, wTg, pathD, place]
    have hnb := pathD_nb (i :: r)
    simp only [List.map_cons] at hnb
    refine eqDD_nb (by simpa [nbD] using hnb.1) rfl (by simp only [depD]; omega) (by decide) fun b hb => ?_
    have hb2 : b = false := by
      cases b with
      | false => rfl
      | true => have := hb.mp rfl; simp at this
    subst hb2
    have hD : toD (.turns k ps) = .tup [.str (Str.ofString "turns"), .int k, .tup (toDs ps)] := rfl
    simp [hD, toDs_len, hi]
    refine ⟨toD p, toDs_ix hp, ?_⟩
    refine callW_of (F := R_number_below) (hP _ _ rfl) rfl ?_
    simp [R_number_below, wB, wS, wE, wEs, wIt, wTg, place, placeL, Es.len, cutD_1, path_is0]
    refine turn_of_ok hP r n p x _ _ _ (h4 _ (List.mem_of_getElem? hp)) hr (by omega) (by omega) ?_
    try simp
    refine q1_of ?_
    try simp
    rw [← hD]
    refine later_ok (hP _ _ rfl) n k ps (by omega) i S _ _ ?_
    simp
    refine ⟨.inl (.inl ⟨by omega, by omega⟩), q1_of ?_⟩
    simp only [tn, hp] at q
    exact q
theorem sl_line {n : Nat} (h : n ≤ 16777216) : n ≤ sizeLine := h
@[simp] theorem empty_app (a : Str) : Str.empty ++ a = a := by
  show (⟨Str.empty.cps ++ a.cps⟩ : Str) = a
  rw [show Str.empty.cps = #[] from by decide +kernel, Array.empty_append]
@[simp] theorem str_int {C : Orc} {i : Int} {S : Sta} {Q : K} : wb1 C .str (.int i) S Q = (i.natAbs.log2 < 1920 ∧ Q (.str (Str.ofString i.repr)) S) := rfl
structure Low (t b t1 b1 g : Nat) : Prop where
  pos : 0 < g
  top : t = t1 * g
  bot : b = b1 * g
  one : Nat.gcd t1 b1 = 1
  is : Nat.gcd t b = g
theorem Low.bpos {t b t1 b1 g : Nat} (l : Low t b t1 b1 g) (h0 : 0 < b) : 0 < b1 := by
  rw [l.bot] at h0
  exact Nat.pos_of_mul_pos_right h0
theorem Low.lt {t b t1 b1 g i : Nat} (l : Low t b t1 b1 g) (ht : t < 2 ^ i) : t1 < 2 ^ i := Nat.lt_of_le_of_lt (by rw [l.top]; exact Nat.le_mul_of_pos_right _ l.pos) ht
theorem Low.blt {t b t1 b1 g i : Nat} (l : Low t b t1 b1 g) (ht : b < 2 ^ i) : b1 < 2 ^ i := Nat.lt_of_le_of_lt (by rw [l.bot]; exact Nat.le_mul_of_pos_right _ l.pos) ht
structure Part (R A t b : Nat) : Prop where
  pos : 0 < b
  one : Nat.gcd t b = 1
  is : t * R = b * A
theorem Part.dvd {R A t b : Nat} (p : Part R A t b) : b ∣ R := by
  have : b ∣ t * R := ⟨A, p.is⟩
  exact Nat.Coprime.dvd_of_dvd_mul_left (Nat.Coprime.symm p.one) this
theorem Part.le {R A t b : Nat} (p : Part R A t b) (hR : 0 < R) : b ≤ R ∧ t ≤ A := by
  have hb := Nat.le_of_dvd hR p.dvd
  refine ⟨hb, ?_⟩
  have h1 : t * R ≤ A * R := by
    rw [p.is, Nat.mul_comm A R]
    exact Nat.mul_le_mul_right _ hb
  exact Nat.le_of_mul_le_mul_right h1 hR
theorem Part.step {R A t b w t3 b3 g : Nat} (p : Part R A t b) (hw : w ∣ R) (w0 : 0 < w) (L : Low (t * w + 1 * b) (b * w) t3 b3 g) : Part R (A + R / w) t3 b3 := by
  refine ⟨L.bpos (Nat.mul_pos p.pos w0), L.one, ?_⟩
  refine Nat.eq_of_mul_eq_mul_right L.pos ?_
  obtain ⟨c, rfl⟩ := hw
  rw [Nat.mul_div_cancel_left _ w0]
  have e1 : t3 * (w * c) * g = (t * w + 1 * b) * (w * c) := by rw [L.top, Nat.mul_right_comm]
  have e2 : b3 * (A + c) * g = b * w * (A + c) := by rw [L.bot, Nat.mul_right_comm]
  rw [e1, e2, Nat.add_mul, Nat.one_mul, Nat.mul_add, Nat.mul_right_comm t w (w * c), p.is, Nat.mul_right_comm b w A, Nat.mul_assoc b w c]
theorem pthD_nb : ∀ is : List Int, nbDs (is.map D.int) = true ∧ depDs (is.map D.int) = 0
  | [] => ⟨rfl, rfl⟩
  | i :: r => by
    obtain ⟨h1, h2⟩ := pthD_nb r
    refine ⟨?_, ?_⟩
    · show (true && nbDs _) = true
      rw [h1]; rfl
    · show max 0 (depDs _) = 0
      omega
theorem turn_of_x {P : Prg} (hP : Lib P) : ∀ (is : List Int) (n : Nat) (T : Rt) (x : Int) (S : Sta) (Q X : K), Rg T → atR is T = none → 2 * is.length + 2 ≤ n → is.length ≤ 100 → X (noPart is) S → callW P n 55 [toD T, pthD is, .int x] S Q X
  | [], _, T, _, _, _, _, _, e, _, _, _ => by simp [atR] at e
  | j :: r, 0, _, _, _, _, _, _, _, h, _, _ => absurd h (by simp)
  | j :: r, 1, _, _, _, _, _, _, _, h, _, _ => by simp only [List.length_cons] at h; omega
  | j :: r, n + 2, .one s, x, S, Q, X, rg, e, hn, hl, q => by
    refine callW_of (F := R_turn_of) (hP _ _ rfl) rfl ?_
    simp [R_turn_of, wB, wS, wE, wEs, wIt, wTg, pthD, place]
    have hnb := pthD_nb (j :: r)
    simp only [List.map_cons] at hnb
    refine eqDD_nb (by simpa [nbD] using hnb.1) rfl (by simp only [depD]; omega) (by decide) fun b hb => ?_
    have hb2 : b = false := by
      cases b with
      | false => rfl
      | true => have := hb.mp rfl; simp at this
    subst hb2
    have hD : toD (.one s) = .tup [.str (Str.ofString "one"), .str s] := rfl
    simp [hD, placeL, Es.len]
    exact q1_of q
  | j :: r, n + 2, .turns k ps, x, S, Q, X, rg, e, hn, hl, q => by
    simp only [List.length_cons] at hn hl
    obtain ⟨h1, h2, h3, h4⟩ := rg.len
    have hD : toD (.turns k ps) = .tup [.str (Str.ofString "turns"), .int k, .tup (toDs ps)] := rfl
    refine callW_of (F := R_turn_of) (hP _ _ rfl) rfl ?_
    simp [R_turn_of, wB, wS, wE, wEs, wIt, wTg, pthD, place]
    have hnb := pthD_nb (j :: r)
    simp only [List.map_cons] at hnb
    refine eqDD_nb (by simpa [nbD] using hnb.1) rfl (by simp only [depD]; omega) (by decide) fun b hb => ?_
    have hb2 : b = false := by
      cases b with
      | false => rfl
      | true => have := hb.mp rfl; simp at this
    subst hb2
    simp only [atR] at e
    simp [hD, toDs_len, placeL, Es.len]
    by_cases h0 : 0 ≤ j
    · by_cases hjl : j < ps.length
      · rw [if_pos ⟨h0, hjl⟩] at e
        obtain ⟨c, rfl⟩ := Int.eq_ofNat_of_zero_le h0
        have hc : c < ps.length := by omega
        have hpp : ps[c]? = some ps[c] := List.getElem?_eq_getElem hc
        simp only [Int.toNat_natCast, hpp] at e
        simp [h0, hjl, hc]
        refine ⟨toD ps[c], toDs_ix hpp, ?_⟩
        refine callW_of (F := R_number_below) (hP _ _ rfl) rfl ?_
        simp [R_number_below, wB, wS, wE, wEs, wIt, wTg, place, placeL, Es.len, cutD_1]
        refine turn_of_x hP r n ps[c] x _ _ _ (h4 _ (List.mem_of_getElem? hpp)) e (by omega) (by omega) ?_
        simp [noPart, wH, wB, wS, wE, wEs, wTg, List.lookup, placeL, Es.len]
        exact q1_of (q1_of q)
      · simp [h0, hjl]
        exact q1_of q
    · simp [h0]
      exact q1_of q
theorem law_turn_of_ok {P : Prg} (hP : Lib P) : ∀ (r : List Nat) (n : Nat) (T : Rt) (x : Int) (S : Sta) (Q X : K), Rg T → pathAt r T → r.length + 1 ≤ n → r.length ≤ 100 → Q (.int (tn r T x)) S → callW P n 57 [toD T, pathD r, .int x] S Q X
  | _, 0, _, _, _, _, _, _, _, h, _, _ => absurd h (by simp)
  | [], n + 1, T, x, S, Q, X, rg, hp, hn, hl, q => by
    refine callW_of (F := R_law_turn_of) (hP _ _ rfl) rfl ?_
    simp [R_law_turn_of, wB, wS, wE, wEs, wTg, pathD]
    refine eqDD_nb rfl rfl (by decide) (by decide) fun b hb => ?_
    have hb2 : b = true := hb.mpr rfl
    subst hb2
    try simp
    exact q1_of q
  | i :: r, n + 1, .one s, x, S, Q, X, rg, hp, hn, hl, q => hp.elim
  | i :: r, n + 1, .turns k ps, x, S, Q, X, rg, ⟨p, hp, hr⟩, hn, hl, q => by
    simp only [List.length_cons] at hn hl
    obtain ⟨h1, h2, h3, h4⟩ := rg.len
    have hi : i < ps.length := (List.getElem?_eq_some_iff.mp hp).1
    refine callW_of (F := R_law_turn_of) (hP _ _ rfl) rfl ?_
    simp [R_law_turn_of, wB, wS, wE, wEs, wIt, wTg, pathD, place]
    have hnb := pathD_nb (i :: r)
    simp only [List.map_cons] at hnb
    refine eqDD_nb (by simpa [nbD] using hnb.1) rfl (by simp only [depD]; omega) (by decide) fun b hb => ?_
    have hb2 : b = false := by
      cases b with
      | false => rfl
      | true => have := hb.mp rfl; simp at this
    subst hb2
    have hD : toD (.turns k ps) = .tup [.str (Str.ofString "turns"), .int k, .tup (toDs ps)] := rfl
    simp [hD, toDs_len, cutD_1, path_is0]
    refine ⟨toD p, toDs_ix hp, ?_⟩
    refine law_turn_of_ok hP r n p x _ _ _ (h4 _ (List.mem_of_getElem? hp)) hr (by omega) (by omega) ?_
    try simp
    refine ⟨by omega, .inl (.inl ⟨by omega, by omega⟩), q1_of ?_⟩
    simp only [tn, hp] at q
    exact q
theorem missing11_ok {P : Prg} (hP : Lib P) (n : Nat) (T : Rt) (rg : Rg T) (is : List Int) (hl : is.length ≤ 100) (h2 : 2 * is.length + 2 ≤ n) (hn : atR is T = none) (S : Sta) (Q X : K) (q : ∀ p, S p = none → Q (.ref p) (ups S p (.lst [pthD is]))) : callW P (n + 1) 58 [toD T, pthD is] S Q X := by
  refine callW_of (F := R_law_missing_2) (hP _ _ rfl) rfl ?_
  simp [R_law_missing_2, wB, wS, wE, wEs, wIt, wTg, place, placeL, Es.len]
  intro p hp
  refine turn_of_x hP is n T 0 _ _ _ rg hn h2 hl ?_
  simp [noPart, wH, wB, wS, wE, wEs, wTg, List.lookup]
  refine ⟨_, _, _, ⟨rfl, rfl, rfl⟩, _, rfl, line4 (by decide), fun p1 h1 => ?_⟩
  have n1 := sub_none (Sub.new (o := .lst []) hp) h1
  refine ⟨ups S p1 (.lst [pthD is]), Sub.ups_of (fun a o e => ?_) ups_same, q p1 n1⟩
  rw [ups_ne (sne e n1)]
  exact Sub.new hp _ _ e
theorem law11_ok {P : Prg} (hP : Lib P) (h_law : P 999 = some H_k11) (ns : List Int) (hl : ns.length ≤ 63) : callW P 20 999 [.lis (ns.map .int)] (fun _ => none) (fun d _ => d = .bl true) (fun _ _ => False) := by
  refine callW_of h_law rfl ?_
  simp [H_k11, B_k11_0, wB, wS, wE, wEs, wIt, wTg, place, placeL, Es.len]
  refine box_ok (hP _ _ rfl) fun b S1 b1 k1 => ?_
  simp [B_k11_1, wB, wS, wE, wEs, wIt, wTg, place, placeL, Es.len]
  refine pool_ok (hP _ _ rfl) (hP _ _ rfl) (hP _ _ rfl) b1 fun p ws S2 np ep w0 w1 hw b2 k2 => ?_
  have W2 := (Wd.start b2).add ep np
  simp [B_k11_2, wB, wS, wE, wEs, wIt, wTg, place, placeL, Es.len]
  refine wfor_nat _ (fun i ρ S => (∃ v3 v4 v5 v6 v7 v8, ρ = [some (.lis (ns.map .int)), some (.ref b), some (.ref p), v3, v4, v5, v6, v7, v8]) ∧ Wd b [(p, .lst (ws.map D.str))] S) ⟨⟨_, _, _, _, _, _, rfl⟩, W2⟩ (fun _ _ _ _ => held_nil) (fun j0 y0 ρ S R1 hy0 hI hR1 => ?_) fun ρ S hI => by
    obtain ⟨⟨v3, v4, v5, v6, v7, v8, rfl⟩, W9⟩ := hI
    simp [B_k11_3, wB, wS, wE, wEs, wIt, wTg, place, placeL, Es.len]
    exact q1_of rfl
  obtain ⟨⟨v3, v4, v5, v6, v7, v8, rfl⟩, W⟩ := hI
  try simp
  simp [B_k11_4, wB, wS, wE, wEs, wIt, wTg, place, placeL, Es.len]
  refine right_ok (n := 13) (hP _ _ rfl) (hP _ _ rfl) (hP _ _ rfl) w0 w1 hw (W.nb 0 rfl) W.box (W.at 0 rfl) fun T S4 ok hd hv b4 k4 => ?_
  have W4 := W.keep b4 k4
  have rg := ok_rg T ok
  simp [B_k11_5, wB, wS, wE, wEs, wIt, wTg, place, placeL, Es.len]
  refine law_paths_ok (hP _ _ rfl) 19 T _ _ _ rg (by omega) (by omega) (by omega) fun p8 hp8 => ?_
  have W8 := W4.new (o := .lst (ptsD (pths T))) hp8
  generalize ups S4 p8 _ = S8 at W8 ⊢
  simp [items, W8.at 0 rfl]
  refine wfor_nat _ (fun i ρ S => (∃ v5 v6 v7 v8, ρ = [some (.lis (ns.map .int)), some (.ref b), some (.ref p), some y0, some (toD T), v5, v6, v7, v8]) ∧ Wd b [(p8, .lst (ptsD (pths T))), (p, .lst (ws.map D.str))] S) ⟨⟨_, _, _, _, rfl⟩, W8⟩ (fun i ρ S' hI pr hpr => by
      simp at hpr
      subst hpr
      exact hI.2.at 0 rfl) (fun j1 y1 ρ S R2 hy1 hI hR2 => ?_) fun ρ S hI => by
      obtain ⟨⟨v5, v6, v7, v8, rfl⟩, W9⟩ := hI
      exact hR1 _ _ ⟨⟨_, _, _, _, _, _, rfl⟩, W9.drop⟩
  obtain ⟨⟨v5, v6, v7, v8, rfl⟩, W9⟩ := hI
  obtain ⟨r, hrm, rfl⟩ : ∃ r, r ∈ pths T ∧ y1 = pathD r := by
    obtain ⟨r, h1, h2⟩ := List.mem_map.mp (List.mem_of_getElem? hy1)
    exact ⟨r, h1, h2.symm⟩
  obtain ⟨V, eV, hrl⟩ := pths_at T r hrm
  have eV : atR (isL_ r) T = some V := eV
  have hpa := at_pathL r T V eV
  have eP : pathD r = pthD (isL_ r) := pathD_is0 r
  have hil : (isL_ r).length < 10000 := by unfold isL_; rw [List.length_map]; omega
  have rgV := rg_at _ _ _ rg eV
  try simp
  simp [B_k11_6, wB, wS, wE, wEs, wIt, wTg, place, placeL, Es.len]
  refine any_ok (hP _ _ rfl) (hP _ _ rfl) (hP _ _ rfl) 16 W9.box fun a S5 _ _ b5 k5 => ?_
  have W5 := W9.keep b5 k5
  simp [B_k11_7, wB, wS, wE, wEs, wIt, wTg, place, placeL, Es.len]
  refine turn_of_ok hP r 19 T a _ _ _ rg hpa (by omega) (by omega) ?_
  simp [B_k11_8, wB, wS, wE, wEs, wIt, wTg, place, placeL, Es.len]
  refine law_turn_of_ok hP r 19 T a _ _ _ rg hpa (by omega) (by omega) ?_
  try simp
  refine same_int (hP _ _ rfl) ?_
  simp [B_k11_9, wB, wS, wE, wEs, wIt, wTg, place, placeL, Es.len]
  refine due_ok (hP _ _ rfl) (hP _ _ rfl) 17 T rg _ _ _ _ ?_
  try simp
  rw [eP]
  refine law_at_ok (hP _ _ rfl) 18 T rg (isL_ r) hil _ _ _ ?_
  rw [eV, ← eP]
  try simp
  have eT : optT (some V) = toD V := rfl
  rw [eT]
  refine due_ok (hP _ _ rfl) (hP _ _ rfl) 17 V rgV _ _ _ _ ?_
  rw [due_tn r T V a eV]
  try simp
  refine same_str (hP _ _ rfl) ?_
  simp [B_k11_10, wB, wS, wE, wEs, wIt, wTg, place, placeL, Es.len]
  refine turn_of_ok hP r 19 T 0 _ _ _ rg hpa (by omega) (by omega) ?_
  try simp
  refine law_turn_of_ok hP r 19 T 0 _ _ _ rg hpa (by omega) (by omega) ?_
  try simp
  refine same_int (hP _ _ rfl) ?_
  simp [B_k11_11, wB, wS, wE, wEs, wIt, wTg, place, placeL, Es.len]
  refine ⟨line4 (by decide), fun q1 hq1 => ?_⟩
  have W1 := W5.new (o := .lst [.int (-1), .int 5, .int 0]) hq1
  generalize ups S5 q1 _ = S6 at W1 ⊢
  refine take_ok (hP _ _ rfl) W1.box (by decide) (by decide) fun z S7 z0 z1 b2 k2 => ?_
  have W2 := W1.keep b2 k2
  simp [W2.at 0 rfl]
  obtain ⟨u, hu⟩ := pick3 (x := -1) (y := 5) (z := 0) z0 z1
  refine ⟨_, hu, ?_⟩
  have eA : ∀ Q : K, wbin Bo.add (pathD r) (D.tup [D.int u]) S7 Q = (((isL_ r).map D.int).length + 1 ≤ sizeLine ∧ Q (pthD (isL_ r ++ [u])) S7) := fun Q => by
    rw [eP]
    show wbin .add (.tup ((isL_ r).map D.int)) _ _ _ = _
    rw [bin_addt, pth_app]
    rfl
  rw [eA]
  refine ⟨line4 (by decide), sl_line (by rw [List.length_map]; omega), ?_⟩
  have W3 := W2.drop
  have hil2 : (isL_ r ++ [u]).length < 10000 := by
    have : (isL_ r).length = r.length := by unfold isL_; rw [List.length_map]
    rw [List.length_append, List.length_singleton]; omega
  have hil3 : (isL_ r ++ [u]).length ≤ 8 := by
    have : (isL_ r).length = r.length := by unfold isL_; rw [List.length_map]
    rw [List.length_append, List.length_singleton]; omega
  simp [B_k11_12, wB, wS, wE, wEs, wIt, wTg, place, placeL, Es.len]
  refine law_at_ok (hP _ _ rfl) 18 T rg (isL_ r ++ [u]) hil2 _ _ _ ?_
  cases e : atR (isL_ r ++ [u]) T with
  | some U =>
    cases U with
    | one s =>
      simp [optT, toD]
      exact hR2 _ _ ⟨⟨_, _, _, _, rfl⟩, W3⟩
    | turns k ps =>
      simp [optT, toD]
      exact hR2 _ _ ⟨⟨_, _, _, _, rfl⟩, W3⟩
  | none =>
    simp [optT]
    refine missing11_ok hP 18 T rg (isL_ r ++ [u]) (by omega) (by omega) e _ _ _ fun q2 hq2 => ?_
    have W4 := W3.new (o := .lst [pthD (isL_ r ++ [u])]) hq2
    generalize ups S7 q2 _ = S3 at W4 ⊢
    refine ⟨line4 (by decide), fun q3 hq3 => ?_⟩
    have W5 := W4.new (o := .lst [pthD (isL_ r ++ [u])]) hq3
    generalize ups S3 q3 _ = S4 at W5 ⊢
    refine eqN_ok (hP _ _ rfl) 19 _ _ _ _ _ (eqN_ref (n := 18) (W5.at 1 rfl) (W5.at 0 rfl) ⟨eqN_pth (n := 16) _ (by omega), trivial⟩ (by simp)) ?_
    try simp
    exact hR2 _ _ ⟨⟨_, _, _, _, rfl⟩, W5.drop.drop⟩
end A
theorem PySem.Challenge.cw_advowson_k11_turns_of_parts_holds : PySem.Challenge.rw_advowson_k11_turns_of_parts.Holds := by
  exact K11.ends fun ns hl => A.law11_ok K11.lib rfl ns hl
