import PyProof.Rows.All
import Wide.All
import OpenK.AllK
import Wide.FinOn
import HandS.ForMost
import HandS.Exc
import HandS.ExcOwn
import HandS.TryOnly
import HandS.Wide
import HandS.IsInst
import KE.KDictKeyed
import HandS.TupAny
import HandS.TupLe
import HandS.Style
import HandS.EndBits
import HandS.HeadEnd
import HandS.WordsExc
import HandS.Defaults
import HandS.Head0
import HandS.Head1
import HandS.Head2
import HandS.HeadHook1
import HandS.HeadHook2
import PySem.Challenge.RW_pointsure_k40_wants_of_facts
set_option Elab.async false
set_option linter.all false
set_option maxRecDepth 100000
/-! A functional layer over the hand layer: values with tuples by value, a heap of mutable things by numbers, expressions and statements as functions. -/
namespace FL
open PySem PySem.Spec PyProof.Rows L2
abbrev St := L2.St

/-- a value: tuples by value, mutable things by their numbers -/
inductive MV where
  | non | bl (b : Bool) | int (i : Int) | str (x : Str) | tup (xs : List MV) | ref (n : Nat)
/-- a mutable thing: a list, a list that is read alone, a dict, an instance of a class -/
inductive MO where
  | lst (xs : List MV) | cst (xs : List MV) | dct (kvs : List (MV × MV)) | ins (c : Str) (fs : List (Str × MV))
abbrev MH := List MO
abbrev Rho := List (Option MV)
/-- what an expression comes to -/
inductive Res (α : Type) where
  | ok (a : α) (M : MH) | ex (c : Str) (fs : List (Str × MV)) (M : MH) | stuck
def Res.bind {α β : Type} (r : Res α) (k : α → MH → Res β) : Res β := match r with
  | .ok a M => k a M
  | .ex c fs M => .ex c fs M
  | .stuck => .stuck
/-- what a statement comes to -/
inductive RSt where
  | next (ρ : Rho) (M : MH) | ret (v : MV) (M : MH) | brk (ρ : Rho) (M : MH) | cnt (ρ : Rho) (M : MH) | ex (c : Str) (fs : List (Str × MV)) (ρ : Rho) (M : MH) | stuck
abbrev FE := Rho → MH → Res MV
abbrev FT := Rho → MH → Res Bool
abbrev FA := Rho → MH → Res (List MV)
abbrev FS := Rho → MH → RSt
abbrev FN := List MV → MH → Res MV
def Res.stm {α : Type} (r : Res α) (ρ : Rho) (k : α → MH → RSt) : RSt := match r with
  | .ok a M => k a M
  | .ex c fs M => .ex c fs ρ M
  | .stuck => .stuck
def RSt.seq (r : RSt) (k : Rho → MH → RSt) : RSt := match r with
  | .next ρ M => k ρ M
  | r => r

section
variable (K : PySem.W.Frag) (mg : Str → Option Value)
/-- a tuple of the written part -/
def KTup (a : Addr) (xs : List V) : Prop := ∃ (o : Obj) (its : Array Value) (n : Nat), K.lookup a = some o ∧ o.cls = .type "tuple" ∧ o.data = .seq its n ∧ its.size ≤ sizeLine ∧ Vals xs its.toList
/-- a list that is read alone: frozen, or of the written part -/
def CstAt (H : Hp) (a : Addr) (xs : List V) : Prop := (∃ o, H a = some (.frz o (.lst xs))) ∨
  ∃ (o : Obj) (its : Array Value) (n : Nat), K.lookup a = some o ∧ o.cls = .type "list" ∧ o.dict = none ∧ o.data = .seq its n ∧ its.size ≤ sizeLine ∧ Vals xs its.toList
def TupAt (H : Hp) (a : Addr) (xs : List V) : Prop := H a = some (.tup xs) ∨ KTup K a xs
mutual
def RV (π : List Addr) (H : Hp) : MV → V → Prop
  | .non, v => v = .non
  | .bl b, v => v = .bl b
  | .int i, v => v = .int i
  | .str x, v => v = .str x
  | .tup xs, v => ∃ a vs, v = .ref a ∧ TupAt K H a vs ∧ RVs π H xs vs
  | .ref n, v => ∃ a, v = .ref a ∧ π[n]? = some a
def RVs (π : List Addr) (H : Hp) : List MV → List V → Prop
  | [], vs => vs = []
  | x :: xs, vs => ∃ v ws, vs = v :: ws ∧ RV π H x v ∧ RVs π H xs ws
end
/-- names and values -/
def RFs (π : List Addr) (H : Hp) : List (Str × MV) → List (Str × V) → Prop
  | [], gs => gs = []
  | (f, x) :: fs, gs => ∃ v hs, gs = (f, v) :: hs ∧ RV K π H x v ∧ RFs π H fs hs
end

/-! ### lists of values -/
section
variable {K : PySem.W.Frag} {π π' : List Addr} {H H' : Hp}
theorem RVs.length : ∀ {xs : List MV} {vs : List V}, RVs K π H xs vs → xs.length = vs.length
  | [], _, h => by
    unfold RVs at h
    rw [h]
    rfl
  | _ :: _, _, h => by
    unfold RVs at h
    obtain ⟨v, ws, rfl, _, h2⟩ := h
    simp [RVs.length h2]
theorem RVs.get : ∀ {xs : List MV} {vs : List V} {i : Nat} {x : MV}, RVs K π H xs vs → xs[i]? = some x → ∃ v, vs[i]? = some v ∧ RV K π H x v
  | [], _, _, _, _, e => by simp at e
  | _ :: _, _, 0, _, h, e => by
    unfold RVs at h
    obtain ⟨v, ws, rfl, h1, h2⟩ := h
    simp at e
    subst e
    exact ⟨v, rfl, h1⟩
  | _ :: _, _, i + 1, x, h, e => by
    unfold RVs at h
    obtain ⟨v, ws, rfl, h1, h2⟩ := h
    obtain ⟨u, q1, q2⟩ := RVs.get (i := i) (x := x) h2 (by simpa using e)
    exact ⟨u, by simpa using q1, q2⟩
theorem RVs.nil : RVs K π H [] [] := by unfold RVs; rfl
theorem RVs.cons {x : MV} {xs : List MV} {v : V} {vs : List V} (h : RV K π H x v) (t : RVs K π H xs vs) : RVs K π H (x :: xs) (v :: vs) := by
  unfold RVs
  exact ⟨v, vs, rfl, h, t⟩
theorem RVs.uncons {x : MV} {xs : List MV} {vs : List V} (h : RVs K π H (x :: xs) vs) : ∃ v ws, vs = v :: ws ∧ RV K π H x v ∧ RVs K π H xs ws := by
  unfold RVs at h
  exact h
theorem RVs.unnil {vs : List V} (h : RVs K π H [] vs) : vs = [] := by
  unfold RVs at h
  exact h
theorem RVs.append : ∀ {xs ys : List MV} {vs ws : List V}, RVs K π H xs vs → RVs K π H ys ws → RVs K π H (xs ++ ys) (vs ++ ws)
  | [], _, _, _, h, t => by
    rw [h.unnil]
    exact t
  | _ :: _, _, _, _, h, t => by
    obtain ⟨v, us, rfl, h1, h2⟩ := h.uncons
    exact RVs.cons h1 (RVs.append h2 t)
theorem RVs.take : ∀ {xs : List MV} {vs : List V} (n : Nat), RVs K π H xs vs → RVs K π H (xs.take n) (vs.take n)
  | [], _, n, h => by
    rw [h.unnil]
    simpa using RVs.nil
  | _ :: _, _, 0, _ => by simpa using RVs.nil
  | _ :: _, _, n + 1, h => by
    obtain ⟨v, us, rfl, h1, h2⟩ := h.uncons
    exact RVs.cons h1 (RVs.take n h2)
theorem RVs.drop : ∀ {xs : List MV} {vs : List V} (n : Nat), RVs K π H xs vs → RVs K π H (xs.drop n) (vs.drop n)
  | [], _, n, h => by
    rw [h.unnil]
    simpa using RVs.nil
  | _ :: _, _, 0, h => by simpa using h
  | _ :: _, _, n + 1, h => by
    obtain ⟨v, us, rfl, h1, h2⟩ := h.uncons
    simpa using RVs.drop n h2
theorem RVs.set {y : MV} {u : V} (r : RV K π H y u) : ∀ {xs : List MV} {vs : List V} (i : Nat), RVs K π H xs vs → RVs K π H (xs.set i y) (vs.set i u)
  | [], _, i, h => by
    rw [h.unnil]
    simpa using RVs.nil
  | _ :: _, _, 0, h => by
    obtain ⟨v, us, rfl, h1, h2⟩ := h.uncons
    exact RVs.cons r h2
  | _ :: _, _, i + 1, h => by
    obtain ⟨v, us, rfl, h1, h2⟩ := h.uncons
    exact RVs.cons h1 (RVs.set r i h2)
theorem RVs.reverse : ∀ {xs : List MV} {vs : List V}, RVs K π H xs vs → RVs K π H xs.reverse vs.reverse
  | [], _, h => by
    rw [h.unnil]
    simpa using RVs.nil
  | _ :: _, _, h => by
    obtain ⟨v, us, rfl, h1, h2⟩ := h.uncons
    rw [List.reverse_cons, List.reverse_cons]
    exact RVs.append (RVs.reverse h2) (RVs.cons h1 RVs.nil)
theorem RFs.lookup : ∀ {fs : List (Str × MV)} {gs : List (Str × V)} {f : Str}, RFs K π H fs gs → (∀ x, fs.lookup f = some x → ∃ v, gs.lookup f = some v ∧ RV K π H x v) ∧ (fs.lookup f = none → gs.lookup f = none)
  | [], _, f, h => by
    unfold RFs at h
    subst h
    exact ⟨fun x e => by simp at e, fun _ => rfl⟩
  | (g, y) :: fs, _, f, h => by
    unfold RFs at h
    obtain ⟨v, hs, rfl, h1, h2⟩ := h
    have ih := RFs.lookup (f := f) h2
    rw [List.lookup_cons, List.lookup_cons]
    cases f == g with
    | true => exact ⟨fun x e => by cases e; exact ⟨v, rfl, h1⟩, fun e => by cases e⟩
    | false => exact ih
theorem RFs.length : ∀ {fs : List (Str × MV)} {gs : List (Str × V)}, RFs K π H fs gs → fs.length = gs.length
  | [], _, h => by
    unfold RFs at h
    subst h
    rfl
  | (g, y) :: fs, _, h => by
    unfold RFs at h
    obtain ⟨v, hs, rfl, h1, h2⟩ := h
    simp [RFs.length h2]

/-- the world grows: things keep their numbers, tuples stand -/
structure Ext (π : List Addr) (H : Hp) (π' : List Addr) (H' : Hp) : Prop where
  more : ∃ t, π' = π ++ t
  tups : ∀ b vs, H b = some (.tup vs) → H' b = some (.tup vs)
theorem Ext.refl : Ext π H π H := ⟨⟨[], by simp⟩, fun _ _ h => h⟩
theorem Ext.trans {π'' : List Addr} {H'' : Hp} (a : Ext π H π' H') (b : Ext π' H' π'' H'') : Ext π H π'' H'' := by
  obtain ⟨t, rfl⟩ := a.more
  obtain ⟨u, rfl⟩ := b.more
  exact ⟨⟨t ++ u, by simp⟩, fun c vs h => b.tups c vs (a.tups c vs h)⟩
theorem Ext.at {n : Nat} {a : Addr} (e : Ext π H π' H') (h : π[n]? = some a) : π'[n]? = some a := by
  obtain ⟨t, rfl⟩ := e.more
  rw [List.getElem?_append_left (List.getElem?_eq_some_iff.mp h).1]
  exact h
theorem TupAt.ext {a : Addr} {vs : List V} (e : Ext π H π' H') (h : TupAt K H a vs) : TupAt K H' a vs := h.imp (e.tups a vs) id
mutual
theorem RV.ext (e : Ext π H π' H') : ∀ {x : MV} {v : V}, RV K π H x v → RV K π' H' x v
  | .non, _, h => by unfold RV at h ⊢; exact h
  | .bl b, _, h => by unfold RV at h ⊢; exact h
  | .int i, _, h => by unfold RV at h ⊢; exact h
  | .str x, _, h => by unfold RV at h ⊢; exact h
  | .tup xs, _, h => by
    unfold RV at h ⊢
    obtain ⟨a, vs, e1, h1, h2⟩ := h
    exact ⟨a, vs, e1, h1.ext e, RVs.ext e h2⟩
  | .ref n, _, h => by
    unfold RV at h ⊢
    obtain ⟨a, e1, h1⟩ := h
    exact ⟨a, e1, e.at h1⟩
theorem RVs.ext (e : Ext π H π' H') : ∀ {xs : List MV} {vs : List V}, RVs K π H xs vs → RVs K π' H' xs vs
  | [], _, h => by unfold RVs at h ⊢; exact h
  | x :: xs, _, h => by
    unfold RVs at h ⊢
    obtain ⟨v, ws, e1, h1, h2⟩ := h
    exact ⟨v, ws, e1, RV.ext e h1, RVs.ext e h2⟩
end
theorem RFs.ext (e : Ext π H π' H') : ∀ {fs : List (Str × MV)} {gs : List (Str × V)}, RFs K π H fs gs → RFs K π' H' fs gs
  | [], _, h => by unfold RFs at h ⊢; exact h
  | (f, x) :: fs, _, h => by
    unfold RFs at h ⊢
    obtain ⟨v, hs, e1, h1, h2⟩ := h
    exact ⟨v, hs, e1, h1.ext e, RFs.ext e h2⟩

/-- an object's own place is written: its tuples stand -/
theorem Ext.write {a : Addr} {o u : HO} (h : H a = some o) (ho : ∀ vs, o ≠ .tup vs) : Ext π H π (upd H a u) :=
  ⟨⟨[], by simp⟩, fun b vs e => by rw [upd_ne (ne_of e h fun z => ho vs z.symm)]; exact e⟩
theorem Ext.new {a : Addr} {u : HO} (h : H a = none) : Ext π H π (upd H a u) := ⟨⟨[], by simp⟩, fun b vs e => by rw [upd_ne (ne_of_none e h)]; exact e⟩
theorem Ext.push {a : Addr} {u : HO} (h : H a = none) : Ext π H (π ++ [a]) (upd H a u) := ⟨⟨[a], rfl⟩, fun b vs e => by rw [upd_ne (ne_of_none e h)]; exact e⟩
end


/-! ### what stands at a thing's place -/
mutual
/-- a key of a dict: what hashes by its value -/
def keyOf : MV → Option NestedKey
  | .non => some .none
  | .int i => some (.num i)
  | .str x => some (.text x)
  | .tup xs => (keysOf xs).map .tup
  | .bl _ => none
  | .ref _ => none
def keysOf : List MV → Option (List NestedKey)
  | [] => some []
  | x :: xs => match keyOf x, keysOf xs with
    | some k, some ks => some (k :: ks)
    | _, _ => none
end
/-- a flat key -/
def flatOf : MV → Option Key
  | .int i => some (.inl i)
  | .str x => some (.inr x)
  | _ => none
/-- a dict whose keys are tuples: the keys, where their tuples stand, the values -/
def dN (P : Program) (w : World) (a : Addr) (xs : List (NestedKey × Addr × V)) : HO := .ext fun h =>
  (a == sysModules) = false ∧ xs.length ≤ sizeLine ∧ ∃ us : List (NestedKey × Addr × Value), Paired (fun (p : NestedKey × Addr × V) (q : NestedKey × Addr × Value) => p.1 = q.1 ∧ p.2.1 = q.2.1 ∧ RelV p.2.2 q.2.2) xs us ∧
    ∃ o es ep, h.get? a = some o ∧ o.ExactDict ∧ o.data = .dict es ep ∧ es.toList = us.map (entryOfKey (nestedKind P w)) ∧ (us.map (·.1)).Nodup
section
variable (P : Program) (w : World) (K : PySem.W.Frag) (mg : Str → Option Value)
/-- a dict's entries with flat keys -/
def RDk (π : List Addr) (H : Hp) : List (MV × MV) → List (Key × V) → Prop
  | [], gs => gs = []
  | (k, x) :: kvs, gs => ∃ q v hs, gs = (q, v) :: hs ∧ flatOf k = some q ∧ RV K π H x v ∧ RDk π H kvs hs
/-- a dict's entries with tuples as keys -/
def RDn (π : List Addr) (H : Hp) : List (MV × MV) → List (NestedKey × Addr × V) → Prop
  | [], gs => gs = []
  | (k, x) :: kvs, gs => ∃ q b v hs, gs = (q, b, v) :: hs ∧ keyOf k = some q ∧ q.depth ≤ 8 ∧ RV K π H k (.ref b) ∧ RV K π H x v ∧ RDn π H kvs hs
def RO (π : List Addr) (H : Hp) (a : Addr) : MO → Prop
  | .lst xs => ∃ vs, H a = some (.lst vs) ∧ RVs K π H xs vs
  | .cst xs => ∃ vs, CstAt K H a vs ∧ RVs K π H xs vs
  | .dct kvs => (∃ gs, H a = some (.dK gs) ∧ RDk K π H kvs gs) ∨ (∃ gs, kvs ≠ [] ∧ H a = some (dN P w a gs) ∧ RDn K π H kvs gs)
  | .ins c fs => ∃ C dx gs, mg c = some (.ref C) ∧ H a = some (.ins C dx gs) ∧ RFs K π H fs gs
def isC : MO → Bool
  | .cst _ => true
  | _ => false
structure RM (π : List Addr) (H : Hp) (M : MH) : Prop where
  len : π.length = M.length
  inj : ∀ (i j : Nat) (a : Addr) (o u : MO), π[i]? = some a → π[j]? = some a → M[i]? = some o → M[j]? = some u → isC o = false → isC u = false → i = j
  ob : ∀ (i : Nat) (a : Addr) (o : MO), π[i]? = some a → M[i]? = some o → RO P w K mg π H a o
/-- the slots -/
structure RS (π : List Addr) (H : Hp) (σ : St) (ρ : Rho) : Prop where
  len : σ.length = ρ.length
  at_ : ∀ (i : Nat) (x : MV), ρ[i]? = some (some x) → ∃ v, σ[i]? = some (some v) ∧ RV K π H x v
/-- an exception of a class of the program, its own fields at d -/
def RX (π : List Addr) (H : Hp) (C : Addr) (d : Option Addr) (c : Str) (fs : List (Str × MV)) : Prop :=
  mg c = some (.ref C) ∧ ((fs = [] ∧ d = none) ∨ ∃ dd gs, d = some dd ∧ H dd = some (.xd gs) ∧ RFs K π H fs gs)
end
section
variable {P : Program} {w : World} {K : PySem.W.Frag} {mg : Str → Option Value} {π π' : List Addr} {H H' : Hp}
theorem RDk.ext (e : Ext π H π' H') : ∀ {kvs : List (MV × MV)} {gs : List (Key × V)}, RDk K π H kvs gs → RDk K π' H' kvs gs
  | [], _, h => by unfold RDk at h ⊢; exact h
  | (k, x) :: kvs, _, h => by
    unfold RDk at h ⊢
    obtain ⟨q, v, hs, e1, h1, h2, h3⟩ := h
    exact ⟨q, v, hs, e1, h1, h2.ext e, RDk.ext e h3⟩
theorem RDn.ext (e : Ext π H π' H') : ∀ {kvs : List (MV × MV)} {gs : List (NestedKey × Addr × V)}, RDn K π H kvs gs → RDn K π' H' kvs gs
  | [], _, h => by unfold RDn at h ⊢; exact h
  | (k, x) :: kvs, _, h => by
    unfold RDn at h ⊢
    obtain ⟨q, b, v, hs, e1, h1, h2, h3, h4, h5⟩ := h
    exact ⟨q, b, v, hs, e1, h1, h2, h3.ext e, h4.ext e, RDn.ext e h5⟩
theorem RS.ext {σ : St} {ρ : Rho} (e : Ext π H π' H') (h : RS K π H σ ρ) : RS K π' H' σ ρ := ⟨h.len, fun i x q => by
  obtain ⟨v, h1, h2⟩ := h.at_ i x q
  exact ⟨v, h1, h2.ext e⟩⟩
theorem RS.set {σ : St} {ρ : Rho} {x : MV} {v : V} (h : RS K π H σ ρ) (i : Nat) (r : RV K π H x v) : RS K π H (σ.set i (some v)) (ρ.set i (some x)) := by
  refine ⟨by simp [h.len], fun j y q => ?_⟩
  by_cases hj : i = j
  · subst hj
    rw [List.getElem?_set] at q ⊢
    simp only [if_true] at q ⊢
    rw [h.len]
    split at q
    · rename_i hl
      cases q
      rw [if_pos hl]
      exact ⟨v, rfl, r⟩
    · cases q
  · rw [List.getElem?_set_ne hj] at q ⊢
    exact h.at_ j y q
/-- an object stays what it is while its own place is not written -/
theorem RO.ext {a : Addr} {o : MO} (e : Ext π H π' H') (ha : ∀ u, H a = some u → H' a = some u) (h : RO P w K mg π H a o) : RO P w K mg π' H' a o := by
  cases o with
  | lst xs =>
    obtain ⟨vs, h1, h2⟩ := h
    exact ⟨vs, ha _ h1, h2.ext e⟩
  | cst xs =>
    obtain ⟨vs, h1, h2⟩ := h
    refine ⟨vs, ?_, h2.ext e⟩
    rcases h1 with ⟨o, h1⟩ | h1
    · exact .inl ⟨o, ha _ h1⟩
    · exact .inr h1
  | dct kvs =>
    rcases h with ⟨gs, h1, h2⟩ | ⟨gs, h0, h1, h2⟩
    · exact .inl ⟨gs, ha _ h1, h2.ext e⟩
    · exact .inr ⟨gs, h0, ha _ h1, h2.ext e⟩
  | ins c fs =>
    obtain ⟨C, dx, gs, h0, h1, h2⟩ := h
    exact ⟨C, dx, gs, h0, ha _ h1, h2.ext e⟩
/-- what stands in the heap has a place -/
theorem RO.some {a : Addr} {o : MO} (h : RO P w K mg π H a o) (hc : isC o = false) : ∃ u, H a = some u ∧ (∀ vs, u ≠ .tup vs) ∧ ∀ o' vs, u ≠ .frz o' (.lst vs) := by
  cases o with
  | lst xs =>
    obtain ⟨vs, h1, _⟩ := h
    exact ⟨_, h1, (fun _ z => by cases z), (fun _ _ z => by cases z)⟩
  | cst xs => cases hc
  | dct kvs =>
    rcases h with ⟨gs, h1, _⟩ | ⟨gs, h0, h1, _⟩
    · exact ⟨_, h1, (fun _ z => by cases z), (fun _ _ z => by cases z)⟩
    · exact ⟨_, h1, (fun _ z => by cases z), (fun _ _ z => by cases z)⟩
  | ins c fs =>
    obtain ⟨C, dx, gs, _, h1, _⟩ := h
    exact ⟨_, h1, (fun _ z => by cases z), (fun _ _ z => by cases z)⟩
theorem RM.at_ {M : MH} {n : Nat} {a : Addr} {o : MO} (r : RM P w K mg π H M) (h : π[n]? = some a) (ho : M[n]? = some o) : RO P w K mg π H a o := r.ob n a o h ho
/-- a number has its place -/
theorem RM.place {M : MH} {n : Nat} {o : MO} (r : RM P w K mg π H M) (ho : M[n]? = some o) : ∃ a, π[n]? = some a ∧ RO P w K mg π H a o := by
  have l := (List.getElem?_eq_some_iff.mp ho).1
  rw [← r.len] at l
  exact ⟨π[n], List.getElem?_eq_getElem l, r.ob n _ o (List.getElem?_eq_getElem l) ho⟩
/-- nothing tracked is written -/
theorem RM.keep {M : MH} (r : RM P w K mg π H M) (k : ∀ b u, H b = some u → H' b = some u) : RM P w K mg π H' M :=
  ⟨r.len, r.inj, fun i a o h1 h2 => (r.ob i a o h1 h2).ext ⟨⟨[], by simp⟩, fun b vs e => k b _ e⟩ fun u e => k a u e⟩
/-- a new thing -/
theorem RM.push {M : MH} {a : Addr} {u : HO} {o : MO} (r : RM P w K mg π H M) (ha : H a = none) (ho : RO P w K mg (π ++ [a]) (upd H a u) a o) : RM P w K mg (π ++ [a]) (upd H a u) (M ++ [o]) := by
  refine ⟨by simp [r.len], fun i j b o1 o2 h1 h2 k1 k2 c1 c2 => ?_, fun i b q h1 h2 => ?_⟩
  · have li := (List.getElem?_eq_some_iff.mp h1).1
    have lj := (List.getElem?_eq_some_iff.mp h2).1
    rw [List.length_append, List.length_singleton] at li lj
    by_cases hi : i < π.length
    · rw [List.getElem?_append_left hi] at h1
      rw [List.getElem?_append_left (by rw [← r.len]; exact hi)] at k1
      by_cases hj : j < π.length
      · rw [List.getElem?_append_left hj] at h2
        rw [List.getElem?_append_left (by rw [← r.len]; exact hj)] at k2
        exact r.inj i j b o1 o2 h1 h2 k1 k2 c1 c2
      · exfalso
        obtain rfl : j = π.length := by omega
        simp at h2
        subst h2
        obtain ⟨u', q, _⟩ := (r.ob i _ o1 h1 k1).some c1
        rw [ha] at q
        cases q
    · obtain rfl : i = π.length := by omega
      simp at h1
      subst h1
      by_cases hj : j < π.length
      · exfalso
        rw [List.getElem?_append_left hj] at h2
        rw [List.getElem?_append_left (by rw [← r.len]; exact hj)] at k2
        obtain ⟨u', q, _⟩ := (r.ob j _ o2 h2 k2).some c2
        rw [ha] at q
        cases q
      · omega
  · by_cases hi : i < π.length
    · rw [List.getElem?_append_left hi] at h1
      rw [List.getElem?_append_left (by rw [← r.len]; exact hi)] at h2
      exact (r.ob i b q h1 h2).ext (Ext.push ha) fun v e => by
        rw [upd_ne (ne_of_none e ha)]
        exact e
    · have li := (List.getElem?_eq_some_iff.mp h1).1
      rw [List.length_append, List.length_singleton] at li
      obtain rfl : i = π.length := by omega
      simp at h1
      subst h1
      rw [r.len] at h2
      simp at h2
      subst h2
      exact ho
/-- a thing is written -/
theorem RM.write {M : MH} {n : Nat} {a : Addr} {v : HO} {o o' : MO} (r : RM P w K mg π H M) (hn : π[n]? = some a) (hm : M[n]? = some o') (hc : isC o' = false) (hc2 : isC o = false) (ho : RO P w K mg π (upd H a v) a o) : RM P w K mg π (upd H a v) (M.set n o) := by
  obtain ⟨u, hu, ht, hf⟩ := (r.ob n a o' hn hm).some hc
  have get : ∀ i q, (M.set n o)[i]? = some q → (i = n ∧ q = o) ∨ (i ≠ n ∧ M[i]? = some q) := fun i q e => by
    rw [List.getElem?_set] at e
    by_cases hi : n = i
    · rw [if_pos hi] at e
      split at e
      · exact .inl ⟨hi.symm, (Option.some.inj e).symm⟩
      · cases e
    · rw [if_neg hi] at e
      exact .inr ⟨fun z => hi z.symm, e⟩
  refine ⟨by simp [r.len], fun i j b o1 o2 h1 h2 k1 k2 c1 c2 => ?_, fun i b q h1 h2 => ?_⟩
  · rcases get i o1 k1 with ⟨ei, _⟩ | ⟨_, q1⟩
    · rcases get j o2 k2 with ⟨ej, _⟩ | ⟨_, q2⟩
      · rw [ei, ej]
      · rw [ei] at h1 ⊢
        exact r.inj _ _ b o' o2 h1 h2 hm q2 hc c2
    · rcases get j o2 k2 with ⟨ej, _⟩ | ⟨_, q2⟩
      · rw [ej] at h2 ⊢
        exact r.inj _ _ b o1 o' h1 h2 q1 hm c1 hc
      · exact r.inj _ _ b o1 o2 h1 h2 q1 q2 c1 c2
  · rcases get i q h2 with ⟨rfl, rfl⟩ | ⟨ni, h2⟩
    · rw [hn] at h1
      cases h1
      exact ho
    · by_cases nb : b = a
      · subst nb
        cases cq : isC q with
        | false => exact absurd (r.inj _ _ b q o' h1 hn h2 hm cq hc) ni
        | true =>
          cases q with
          | cst xs =>
            obtain ⟨vs, h3, h4⟩ := r.ob i b _ h1 h2
            refine ⟨vs, ?_, h4.ext (Ext.write hu ht)⟩
            rcases h3 with ⟨o3, h3⟩ | h3
            · rw [hu] at h3
              exact absurd (Option.some.inj h3) (hf o3 vs)
            · exact .inr h3
          | lst _ => cases cq
          | dct _ => cases cq
          | ins _ _ => cases cq
      · exact (r.ob i b q h1 h2).ext (Ext.write hu ht) fun v e => by
          rw [upd_ne nb]
          exact e
end
end FL

namespace FL
open PySem PySem.Spec PyProof.Rows L2
/-! ### the judgements -/
section
variable (X : Cx) (W : WX)
def PostR {α β : Type} (R : List Addr → Hp → α → β → Prop) (σ : St) (π : List Addr) (H : Hp) (r : Res α) (Q : β → Hp → Prop) : Prop := match r with
  | .ok a M => ∀ b H' π', Ext π H π' H' → R π' H' a b → RM X.prog X.w X.K X.mg π' H' M → Q b H'
  | .ex c fs M => ∀ C d H' π', Ext π H π' H' → RX X.K X.mg π' H' C d c fs → RM X.prog X.w X.K X.mg π' H' M → W (.ref C) d σ H'
  | .stuck => False
def RF {α β : Type} (R : List Addr → Hp → α → β → Prop) (t : St → Hp → (β → Hp → Prop) → Prop) (f : Rho → MH → Res α) : Prop :=
  ∀ σ H Q π ρ M, RS X.K π H σ ρ → RM X.prog X.w X.K X.mg π H M → PostR X W R σ π H (f ρ M) Q → t σ H Q
def REq {α : Type} : List Addr → Hp → α → α → Prop := fun _ _ a b => a = b
structure FX (e : Expr) (f : FE) : Prop where
  to : ∃ t, PE X e t ∧ RF X W (RV X.K) t f
structure FXT (e : Expr) (f : FT) : Prop where
  to : ∃ t, PT X e t ∧ RF X W REq t f
structure FXW (e : Expr) (f : FT) : Prop where
  to : ∃ t, PW X e t ∧ RF X W REq t f
structure FXA (es : List Expr) (f : FA) : Prop where
  to : ∃ t, PA X es t ∧ RF X W (RVs X.K) t f
def PostS (σ : St) (π : List Addr) (H : Hp) (r : RSt) (D : Ends) : Prop := match r with
  | .next ρ M => ∀ σ' H' π', Ext π H π' H' → RS X.K π' H' σ' ρ → RM X.prog X.w X.K X.mg π' H' M → D.nx σ' H'
  | .brk ρ M => ∀ σ' H' π', Ext π H π' H' → RS X.K π' H' σ' ρ → RM X.prog X.w X.K X.mg π' H' M → D.bk σ' H'
  | .cnt ρ M => ∀ σ' H' π', Ext π H π' H' → RS X.K π' H' σ' ρ → RM X.prog X.w X.K X.mg π' H' M → D.ct σ' H'
  | .ret x M => ∀ v H' π', Ext π H π' H' → RV X.K π' H' x v → RM X.prog X.w X.K X.mg π' H' M → D.rt v H'
  | .ex c fs ρ M => ∀ C d σ' H' π', Ext π H π' H' → RX X.K X.mg π' H' C d c fs → RS X.K π' H' σ' ρ → RM X.prog X.w X.K X.mg π' H' M → W (.ref C) d σ' H'
  | .stuck => False
def RFS (t : TS) (f : FS) : Prop := ∀ D σ H π ρ M, RS X.K π H σ ρ → RM X.prog X.w X.K X.mg π H M → PostS X W σ π H (f ρ M) D → t D σ H
structure FXS (st : Stmt) (f : FS) : Prop where
  to : ∃ t, PS X st t ∧ RFS X W t f
structure FXB (st : List Stmt) (f : FS) : Prop where
  to : ∃ t, PSs X st t ∧ RFS X W t f
end
section
variable {X : Cx} {W : WX} {σ : St} {π π1 : List Addr} {H H1 : Hp} {ρ : Rho} {M : MH}
theorem PostR.mono {α β : Type} {R : List Addr → Hp → α → β → Prop} {r : Res α} {Q : β → Hp → Prop} (e : Ext π H π1 H1) (h : PostR X W R σ π H r Q) : PostR X W R σ π1 H1 r Q := by
  cases r with
  | ok a M => exact fun b H' π' e' => h b H' π' (e.trans e')
  | ex c fs M => exact fun C d H' π' e' => h C d H' π' (e.trans e')
  | stuck => exact h
theorem PostS.mono {r : RSt} {D : Ends} {σ1 : St} (e : Ext π H π1 H1) (h : PostS X W σ π H r D) : PostS X W σ1 π1 H1 r D := by
  cases r with
  | next ρ M => exact fun σ' H' π' e' => h σ' H' π' (e.trans e')
  | brk ρ M => exact fun σ' H' π' e' => h σ' H' π' (e.trans e')
  | cnt ρ M => exact fun σ' H' π' e' => h σ' H' π' (e.trans e')
  | ret x M => exact fun v H' π' e' => h v H' π' (e.trans e')
  | ex c fs ρ M => exact fun C d σ' H' π' e' => h C d σ' H' π' (e.trans e')
  | stuck => exact h
/-- a part, then the rest -/
theorem RF.bind {α β γ δ : Type} {R1 : List Addr → Hp → α → β → Prop} {R2 : List Addr → Hp → γ → δ → Prop} {t : St → Hp → (β → Hp → Prop) → Prop} {f : Rho → MH → Res α} {k : α → MH → Res γ} {Q : δ → Hp → Prop} {Q1 : β → Hp → Prop}
    (h : RF X W R1 t f) (hs : RS X.K π H σ ρ) (hm : RM X.prog X.w X.K X.mg π H M) (hp : PostR X W R2 σ π H ((f ρ M).bind k) Q)
    (hk : ∀ a M1 b H1 π1, Ext π H π1 H1 → R1 π1 H1 a b → RM X.prog X.w X.K X.mg π1 H1 M1 → PostR X W R2 σ π1 H1 (k a M1) Q → Q1 b H1) : t σ H Q1 := by
  refine h σ H Q1 π ρ M hs hm ?_
  cases e : f ρ M with
  | ok a M1 =>
    rw [e] at hp
    exact fun b H' π' e' r m => hk a M1 b H' π' e' r m (PostR.mono e' hp)
  | ex c fs M1 =>
    rw [e] at hp
    exact hp
  | stuck =>
    rw [e] at hp
    exact hp
theorem RF.stm {α β : Type} {R1 : List Addr → Hp → α → β → Prop} {t : St → Hp → (β → Hp → Prop) → Prop} {f : Rho → MH → Res α} {k : α → MH → RSt} {D : Ends} {Q1 : β → Hp → Prop}
    (h : RF X W R1 t f) (hs : RS X.K π H σ ρ) (hm : RM X.prog X.w X.K X.mg π H M) (hp : PostS X W σ π H ((f ρ M).stm ρ k) D)
    (hk : ∀ a M1 b H1 π1, Ext π H π1 H1 → R1 π1 H1 a b → RM X.prog X.w X.K X.mg π1 H1 M1 → PostS X W σ π1 H1 (k a M1) D → Q1 b H1) : t σ H Q1 := by
  refine h σ H Q1 π ρ M hs hm ?_
  cases e : f ρ M with
  | ok a M1 =>
    rw [e] at hp
    exact fun b H' π' e' r m => hk a M1 b H' π' e' r m (PostS.mono e' hp)
  | ex c fs M1 =>
    rw [e] at hp
    exact fun C d H' π' e' x m => hp C d σ H' π' e' x (hs.ext e') m
  | stuck =>
    rw [e] at hp
    exact hp
/-- an end that gives a value -/
theorem PostR.ok {α β : Type} {R : List Addr → Hp → α → β → Prop} {a : α} {b : β} {Q : β → Hp → Prop} (h : PostR X W R σ π H (.ok a M) Q) (r : R π H a b) (m : RM X.prog X.w X.K X.mg π H M) : Q b H := h b H π Ext.refl r m

/-! ### names, constants -/
def fVar (i : Nat) : FE := fun ρ M => match ρ[i]? with
  | some (some x) => .ok x M
  | _ => .stuck
def fC (x : MV) : FE := fun _ M => .ok x M
theorem fx_var {i : Nat} {x : Str} {pos : Pos} (h : PE X (.Name x pos) (tVar i)) : FX X W (.Name x pos) (fVar i) := ⟨_, h, by
  intro σ H Q π ρ M hs hm hp
  unfold fVar at hp
  split at hp
  · rename_i y e
    obtain ⟨v, h1, h2⟩ := hs.at_ i y e
    exact ⟨v, h1, hp.ok h2 hm⟩
  · exact hp.elim⟩
theorem fx_c {e : Expr} {x : MV} {v : V} (h : PE X e (tC v)) (r : ∀ π H, RV X.K π H x v) : FX X W e (fC x) := ⟨_, h, by
  intro σ H Q π ρ M hs hm hp
  exact hp.ok (r π H) hm⟩
theorem fx_int {i : Int} {j : Nat} {pos : Pos} : FX X W (.Constant (.int i) j pos) (fC (.int i)) := fx_c pe_int fun _ _ => by unfold RV; rfl
theorem fx_str {x : Str} {j : Nat} {pos : Pos} : FX X W (.Constant (.str x) j pos) (fC (.str x)) := fx_c pe_str fun _ _ => by unfold RV; rfl
theorem fx_bl {b : Bool} {j : Nat} {pos : Pos} : FX X W (.Constant (.bool b) j pos) (fC (.bl b)) := fx_c pe_bl fun _ _ => by unfold RV; rfl
theorem fx_non {j : Nat} {pos : Pos} : FX X W (.Constant .none j pos) (fC .non) := fx_c pe_non fun _ _ => by unfold RV; rfl

/-! ### argument lists, displays -/
def faNil : FA := fun _ M => .ok [] M
def faCons (f : FE) (g : FA) : FA := fun ρ M => (f ρ M).bind fun x M1 => (g ρ M1).bind fun xs M2 => .ok (x :: xs) M2
theorem fa_nil : FXA X W [] faNil := ⟨_, pa_nil, fun σ H Q π ρ M hs hm hp => hp.ok RVs.nil hm⟩
theorem fa_cons {e : Expr} {es : List Expr} {f : FE} {g : FA} (h : FX X W e f) (t : FXA X W es g) (hs : starEach (e :: es) X.env = (false, eval e X.env) :: starEach es X.env := by rfl) : FXA X W (e :: es) (faCons f g) := by
  obtain ⟨t1, p1, r1⟩ := h.to
  obtain ⟨t2, p2, r2⟩ := t.to
  refine ⟨_, pa_cons p1 p2 hs, ?_⟩
  intro σ H Q π ρ M hs hm hp
  refine r1.bind hs hm hp fun x M1 v H1 π1 e1 rv m1 hp1 => ?_
  refine r2.bind (hs.ext e1) m1 hp1 fun xs M2 vs H2 π2 e2 rvs m2 hp2 => ?_
  exact hp2.ok (RVs.cons (rv.ext e2) rvs) m2
/-- a size that fits -/
def small (n : Nat) : Bool := decide (n ≤ sizeLine)
theorem small_le {n : Nat} (h : small n = true) : n ≤ sizeLine := of_decide_eq_true h
def fTup (g : FA) : FE := fun ρ M => (g ρ M).bind fun xs M1 => if small xs.length = true then .ok (.tup xs) M1 else .stuck
def fLst (g : FA) : FE := fun ρ M => (g ρ M).bind fun xs M1 => if small xs.length = true then .ok (.ref M1.length) (M1 ++ [.lst xs]) else .stuck
theorem fx_tup {es : List Expr} {g : FA} {k : Nat} {pos : Pos} (h : FXA X W es g) : FX X W (.Tuple es k pos) (fTup g) := by
  obtain ⟨t1, p1, r1⟩ := h.to
  refine ⟨_, pe_tup p1, ?_⟩
  intro σ H Q π ρ M hs hm hp
  refine r1.bind hs hm hp fun xs M1 vs H1 π1 e1 rv m1 hp1 => ?_
  by_cases hz : small xs.length = true
  · rw [if_pos hz] at hp1
    refine ⟨by rw [← rv.length]; exact small_le hz, fun p hp0 => ?_⟩
    have e2 : Ext π1 H1 π1 (upd H1 p (.tup vs)) := Ext.new hp0
    refine hp1 _ _ π1 e2 ?_ (m1.keep fun b u q => by rw [upd_ne (ne_of_none q hp0)]; exact q)
    unfold RV
    exact ⟨p, vs, rfl, .inl upd_same, rv.ext e2⟩
  · rw [if_neg hz] at hp1
    exact hp1.elim
/-- a new list -/
theorem new_lst {α : Type} {Q : VK} {xs : List MV} {vs : List V} {p : Addr} (hp : PostR X W (RV X.K) σ π H (.ok (.ref M.length) (M ++ [.lst xs])) Q) (hm : RM X.prog X.w X.K X.mg π H M) (rv : RVs X.K π H xs vs) (hn : H p = none) : Q (.ref p) (upd H p (.lst vs)) := by
  have e2 : Ext π H (π ++ [p]) (upd H p (.lst vs)) := Ext.push hn
  refine hp _ _ _ e2 ?_ (hm.push hn ⟨vs, upd_same, rv.ext e2⟩)
  unfold RV
  exact ⟨p, rfl, by rw [← hm.len]; simp⟩
theorem fx_lst {es : List Expr} {g : FA} {pos : Pos} (h : FXA X W es g) : FX X W (.List es pos) (fLst g) := by
  obtain ⟨t1, p1, r1⟩ := h.to
  refine ⟨_, pe_lst p1, ?_⟩
  intro σ H Q π ρ M hs hm hp
  refine r1.bind hs hm hp fun xs M1 vs H1 π1 e1 rv m1 hp1 => ?_
  by_cases hz : small xs.length = true
  · rw [if_pos hz] at hp1
    exact ⟨by rw [← rv.length]; exact small_le hz, fun p hp0 => new_lst (α := Unit) hp1 m1 rv hp0⟩
  · rw [if_neg hz] at hp1
    exact hp1.elim

/-! ### operators -/
/-- an operation on two values: by values here, by its rule there -/
abbrev G2 := MV → MV → MH → Res MV
def Op2 (X : Cx) (W : WX) (r : R2) (g : G2) : Prop := ∀ σ H Q π M x y u v, RV X.K π H x u → RV X.K π H y v → RM X.prog X.w X.K X.mg π H M → PostR X W (RV X.K) σ π H (g x y M) Q → r u v H Q
def fOp (g : G2) (a b : FE) : FE := fun ρ M => (a ρ M).bind fun x M1 => (b ρ M1).bind fun y M2 => g x y M2
theorem rf_op {r : R2} {g : G2} {ta tb : TE} {fa fb : FE} (ho : Op2 X W r g) (r1 : RF X W (RV X.K) ta fa) (r2 : RF X W (RV X.K) tb fb) : RF X W (RV X.K) (tOp r ta tb) (fOp g fa fb) := by
  intro σ H Q π ρ M hs hm hp
  refine r1.bind hs hm hp fun x M1 u H1 π1 e1 ru m1 hp1 => ?_
  refine r2.bind (hs.ext e1) m1 hp1 fun y M2 v H2 π2 e2 rv m2 hp2 => ?_
  exact ho σ H2 Q π2 M2 x y u v (ru.ext e2) rv m2 hp2
theorem fx_op {op : Operator} {r : R2} {g : G2} {a b : Expr} {fa fb : FE} {pos : Pos} (hr : OpR X (binaryOp op) r) (ho : Op2 X W r g) (ha : FX X W a fa) (hb : FX X W b fb) : FX X W (.BinOp a op b pos) (fOp g fa fb) := by
  obtain ⟨t1, p1, r1⟩ := ha.to
  obtain ⟨t2, p2, r2⟩ := hb.to
  exact ⟨_, pe_op hr p1 p2, rf_op ho r1 r2⟩
theorem fx_cmp {op : CmpOp} {r : R2} {g : G2} {a b : Expr} {fa fb : FE} {pos : Pos} (hr : OpR X (compareOp op) r) (ho : Op2 X W r g) (ha : FX X W a fa) (hb : FX X W b fb) (hm : behindInMarks op b = false) : FX X W (.Compare a [op] [b] pos) (fOp g fa fb) := by
  obtain ⟨t1, p1, r1⟩ := ha.to
  obtain ⟨t2, p2, r2⟩ := hb.to
  exact ⟨_, pe_cmpR hr p1 p2 hm, rf_op ho r1 r2⟩
theorem opOr {f : Value → Value → Sem Value} {r r' : R2} (h : OpR X f r) (h' : OpR X f r') : OpR X f (fun x y H Q => r x y H Q ∨ r' x y H Q) := by
  intro pins s σ H x y v u Q I rx ry q
  rcases q with q | q
  · exact h pins s σ H x y v u Q I rx ry q
  · exact h' pins s σ H x y v u Q I rx ry q
/-- the truth of a value that is a truth -/
def asB (f : FE) : FT := fun ρ M => (f ρ M).bind fun x M1 => match x with
  | .bl b => .ok b M1
  | _ => .stuck
theorem rf_tB {t : TE} {f : FE} (h : RF X W (RV X.K) t f) : RF X W REq (tB t) (asB f) := by
  intro σ H Q π ρ M hs hm hp
  refine h.bind hs hm hp fun x M1 u H1 π1 e1 ru m1 hp1 => ?_
  cases x with
  | bl b =>
    unfold RV at ru
    exact ⟨b, ru, hp1.ok rfl m1⟩
  | _ => exact hp1.elim
theorem rf_tTest {t : TE} {f : FE} (h : RF X W (RV X.K) t f) : RF X W REq (tTest t) (asB f) := by
  intro σ H Q π ρ M hs hm hp
  refine h.bind hs hm hp fun x M1 u H1 π1 e1 ru m1 hp1 => ?_
  cases x with
  | bl b =>
    unfold RV at ru
    exact ⟨b, ru, hp1.ok rfl m1⟩
  | _ => exact hp1.elim
theorem ft_cmp {op : CmpOp} {r : R2} {g : G2} {a b : Expr} {fa fb : FE} {pos : Pos} (hr : OpR X (compareOp op) r) (ho : Op2 X W r g) (ha : FX X W a fa) (hb : FX X W b fb) (hm : behindInMarks op b = false) : FXT X W (.Compare a [op] [b] pos) (asB (fOp g fa fb)) := by
  obtain ⟨t1, p1, r1⟩ := ha.to
  obtain ⟨t2, p2, r2⟩ := hb.to
  exact ⟨_, pt_cmpR hr p1 p2 hm, rf_tTest (rf_op ho r1 r2)⟩
/-- an expression that gives a truth, as a test -/
theorem ft_val {e : Expr} {f : FE} (h : FX X W e f) (he : ∀ whole, isTrue e X.env whole = (do let v ← whole; standAt e.pos; holding [v] (truthy v)) := by intro _; rfl) : FXT X W e (asB f) := by
  obtain ⟨t1, p1, r1⟩ := h.to
  exact ⟨_, pt_val p1 he, rf_tB r1⟩
def ftNot (f : FT) : FT := fun ρ M => (f ρ M).bind fun b M1 => .ok (!b) M1
theorem ft_not {a : Expr} {f : FT} {pos : Pos} (h : FXT X W a f) : FXT X W (.UnaryOp .Not a pos) (ftNot f) := by
  obtain ⟨t1, p1, r1⟩ := h.to
  refine ⟨_, pt_not p1, ?_⟩
  intro σ H Q π ρ M hs hm hp
  refine r1.bind hs hm hp fun b M1 c H1 π1 e1 rc m1 hp1 => ?_
  cases rc
  exact hp1.ok rfl m1
def ftAnd (f g : FT) : FT := fun ρ M => (f ρ M).bind fun b M1 => if b = true then g ρ M1 else .ok false M1
def ftOr (f g : FT) : FT := fun ρ M => (f ρ M).bind fun b M1 => if b = true then .ok true M1 else g ρ M1
theorem fw_and1 {a : Expr} {f : FT} {pos : Pos} (h : FXT X W a f) : FXW X W (.BoolOp .And [a] pos) f := let ⟨t, p, r⟩ := h.to; ⟨t, pw_and1 p, r⟩
theorem fw_or1 {a : Expr} {f : FT} {pos : Pos} (h : FXT X W a f) : FXW X W (.BoolOp .Or [a] pos) f := let ⟨t, p, r⟩ := h.to; ⟨t, pw_or1 p, r⟩
theorem fw_and {a b : Expr} {rest : List Expr} {f g : FT} {pos : Pos} (h : FXT X W a f) (h2 : FXW X W (.BoolOp .And (b :: rest) pos) g) : FXW X W (.BoolOp .And (a :: b :: rest) pos) (ftAnd f g) := by
  obtain ⟨t1, p1, r1⟩ := h.to
  obtain ⟨t2, p2, r2⟩ := h2.to
  refine ⟨_, pw_and p1 p2, ?_⟩
  intro σ H Q π ρ M hs hm hp
  refine r1.bind hs hm hp fun b M1 c H1 π1 e1 rc m1 hp1 => ?_
  cases rc
  cases b with
  | true => exact r2 σ H1 Q π1 ρ M1 (hs.ext e1) m1 hp1
  | false => exact hp1.ok rfl m1
theorem fw_or {a b : Expr} {rest : List Expr} {f g : FT} {pos : Pos} (h : FXT X W a f) (h2 : FXW X W (.BoolOp .Or (b :: rest) pos) g) : FXW X W (.BoolOp .Or (a :: b :: rest) pos) (ftOr f g) := by
  obtain ⟨t1, p1, r1⟩ := h.to
  obtain ⟨t2, p2, r2⟩ := h2.to
  refine ⟨_, pw_or p1 p2, ?_⟩
  intro σ H Q π ρ M hs hm hp
  refine r1.bind hs hm hp fun b M1 c H1 π1 e1 rc m1 hp1 => ?_
  cases rc
  cases b with
  | true => exact hp1.ok rfl m1
  | false => exact r2 σ H1 Q π1 ρ M1 (hs.ext e1) m1 hp1
theorem FXW.t {e : Expr} {f : FT} (h : FXW X W e f) : FXT X W e f := let ⟨t, p, r⟩ := h.to; ⟨t, p.pt, r⟩
/-- and, or as values, all but the last truths -/
def fAnd (f g : FE) : FE := fun ρ M => (f ρ M).bind fun x M1 => match x with
  | .bl true => g ρ M1
  | .bl false => .ok (.bl false) M1
  | _ => .stuck
def fOr (f g : FE) : FE := fun ρ M => (f ρ M).bind fun x M1 => match x with
  | .bl true => .ok (.bl true) M1
  | .bl false => g ρ M1
  | _ => .stuck
def fNot (f : FE) : FE := fun ρ M => (f ρ M).bind fun x M1 => match x with
  | .bl b => .ok (.bl (!b)) M1
  | _ => .stuck
theorem fx_one {op : BoolOp} {a : Expr} {f : FE} {pos : Pos} (h : FX X W a f) : FX X W (.BoolOp op [a] pos) f := let ⟨t, p, r⟩ := h.to; ⟨t, pe_one p, r⟩
theorem fx_and {a b : Expr} {rest : List Expr} {f g : FE} {pos : Pos} (h : FX X W a f) (h2 : FX X W (.BoolOp .And (b :: rest) pos) g) : FX X W (.BoolOp .And (a :: b :: rest) pos) (fAnd f g) := by
  obtain ⟨t1, p1, r1⟩ := h.to
  obtain ⟨t2, p2, r2⟩ := h2.to
  refine ⟨_, pe_and p1 p2, ?_⟩
  intro σ H Q π ρ M hs hm hp
  refine r1.bind hs hm hp fun x M1 u H1 π1 e1 ru m1 hp1 => ?_
  cases x with
  | bl b =>
    unfold RV at ru
    refine ⟨b, ru, ?_⟩
    cases b with
    | true => exact r2 σ H1 Q π1 ρ M1 (hs.ext e1) m1 hp1
    | false => exact hp1.ok (by unfold RV; rfl) m1
  | _ => exact hp1.elim
theorem fx_or {a b : Expr} {rest : List Expr} {f g : FE} {pos : Pos} (h : FX X W a f) (h2 : FX X W (.BoolOp .Or (b :: rest) pos) g) : FX X W (.BoolOp .Or (a :: b :: rest) pos) (fOr f g) := by
  obtain ⟨t1, p1, r1⟩ := h.to
  obtain ⟨t2, p2, r2⟩ := h2.to
  refine ⟨_, pe_or p1 p2, ?_⟩
  intro σ H Q π ρ M hs hm hp
  refine r1.bind hs hm hp fun x M1 u H1 π1 e1 ru m1 hp1 => ?_
  cases x with
  | bl b =>
    unfold RV at ru
    refine ⟨b, ru, ?_⟩
    cases b with
    | true => exact hp1.ok (by unfold RV; rfl) m1
    | false => exact r2 σ H1 Q π1 ρ M1 (hs.ext e1) m1 hp1
  | _ => exact hp1.elim
theorem fx_not {a : Expr} {f : FE} {pos : Pos} (h : FX X W a f) : FX X W (.UnaryOp .Not a pos) (fNot f) := by
  obtain ⟨t1, p1, r1⟩ := h.to
  refine ⟨_, pe_not p1, ?_⟩
  intro σ H Q π ρ M hs hm hp
  refine r1.bind hs hm hp fun x M1 u H1 π1 e1 ru m1 hp1 => ?_
  cases x with
  | bl b =>
    unfold RV at ru
    exact ⟨b, ru, hp1.ok (by unfold RV; rfl) m1⟩
  | _ => exact hp1.elim
def fIf (c : FT) (a b : FE) : FE := fun ρ M => (c ρ M).bind fun k M1 => if k = true then a ρ M1 else b ρ M1
theorem fx_ifExp {c a b : Expr} {fc : FT} {fa fb : FE} {pos : Pos} (hc : FXT X W c fc) (ha : FX X W a fa) (hb : FX X W b fb) : FX X W (.IfExp c a b pos) (fIf fc fa fb) := by
  obtain ⟨t1, p1, r1⟩ := hc.to
  obtain ⟨t2, p2, r2⟩ := ha.to
  obtain ⟨t3, p3, r3⟩ := hb.to
  refine ⟨_, pe_ifExp p1 p2 p3, ?_⟩
  intro σ H Q π ρ M hs hm hp
  refine r1.bind hs hm hp fun b M1 c H1 π1 e1 rc m1 hp1 => ?_
  cases rc
  cases b with
  | true => exact r2 σ H1 Q π1 ρ M1 (hs.ext e1) m1 hp1
  | false => exact r3 σ H1 Q π1 ρ M1 (hs.ext e1) m1 hp1
end
end FL

namespace FL
open PySem PySem.Spec PyProof.Rows L2
section
variable {X : Cx} {W : WX} {σ : St} {π π1 : List Addr} {H H1 : Hp} {ρ : Rho} {M : MH}
/-! ### sequences -/
def lstOf (M : MH) : MV → Option (List MV)
  | .ref n => match M[n]? with
    | some (.lst xs) => some xs
    | some (.cst xs) => some xs
    | _ => none
  | _ => none
theorem CstAt.sq {K : PySem.W.Frag} {a : Addr} {vs : List V} (h : CstAt K H a vs) : SqL K H a vs := by
  rcases h with ⟨o, h⟩ | h
  · exact .inl (.inr ⟨o, h⟩)
  · exact .inr h
theorem TupAt.sq {K : PySem.W.Frag} {a : Addr} {vs : List V} (h : TupAt K H a vs) : SqT K H a vs := by
  rcases h with h | h
  · exact .inl (.inl h)
  · exact .inr h
theorem lstOf_sq {x : MV} {xs : List MV} {u : V} (e : lstOf M x = some xs) (hm : RM X.prog X.w X.K X.mg π H M) (r : RV X.K π H x u) : ∃ a vs, u = .ref a ∧ SqL X.K H a vs ∧ RVs X.K π H xs vs := by
  cases x with
  | ref n =>
    unfold RV at r
    obtain ⟨a, rfl, ha⟩ := r
    cases q : M[n]? with
    | none =>
      simp only [lstOf, q] at e
      cases e
    | some o =>
      cases o with
      | lst ys =>
        simp only [lstOf, q, Option.some.injEq] at e
        subst e
        obtain ⟨vs, h1, h2⟩ := hm.at_ ha q
        exact ⟨a, vs, rfl, .inl (.inl h1), h2⟩
      | cst ys =>
        simp only [lstOf, q, Option.some.injEq] at e
        subst e
        obtain ⟨vs, h1, h2⟩ := hm.at_ ha q
        exact ⟨a, vs, rfl, h1.sq, h2⟩
      | dct _ =>
        simp only [lstOf, q] at e
        cases e
      | ins _ _ =>
        simp only [lstOf, q] at e
        cases e
  | _ => cases e
theorem tup_sq {xs : List MV} {u : V} (r : RV X.K π H (.tup xs) u) : ∃ a vs, u = .ref a ∧ SqT X.K H a vs ∧ RVs X.K π H xs vs := by
  unfold RV at r
  obtain ⟨a, vs, rfl, h1, h2⟩ := r
  exact ⟨a, vs, rfl, h1.sq, h2⟩
theorem RV_int {i : Int} {u : V} : RV X.K π H (.int i) u ↔ u = .int i := by unfold RV; exact Iff.rfl
theorem RV_str {i : Str} {u : V} : RV X.K π H (.str i) u ↔ u = .str i := by unfold RV; exact Iff.rfl
theorem RV_bl {i : Bool} {u : V} : RV X.K π H (.bl i) u ↔ u = .bl i := by unfold RV; exact Iff.rfl
theorem RV_non {u : V} : RV X.K π H .non u ↔ u = .non := by unfold RV; exact Iff.rfl

/-! ### numbers -/
def gI (C : Int → Int → Bool) (k : Int → Int → MV) : G2 := fun x y M => match x, y with
  | .int i, .int j => if C i j = true then .ok (k i j) M else .stuck
  | _, _ => .stuck
theorem g_int {C : Int → Int → Bool} {k : Int → Int → MV} {C' : Int → Int → Prop} {k' : Int → Int → V} (hc : ∀ i j, C i j = true → C' i j) (hk : ∀ i j π H, RV X.K π H (k i j) (k' i j)) : Op2 X W (rI C' k') (gI C k) := by
  intro σ H Q π M x y u v ru rv hm hp
  unfold gI at hp
  split at hp
  · rename_i i j
    rw [RV_int] at ru rv
    split at hp
    · rename_i hC
      exact ⟨i, j, ru, rv, hc i j hC, hp.ok (hk i j π H) hm⟩
    · exact hp.elim
  · exact hp.elim
theorem g_int0 {k : Int → Int → MV} {k' : Int → Int → V} (hk : ∀ i j π H, RV X.K π H (k i j) (k' i j)) : Op2 X W (rI0 k') (gI (fun _ _ => true) k) := by
  intro σ H Q π M x y u v ru rv hm hp
  obtain ⟨i, j, h1, h2, _, h4⟩ := g_int (X := X) (W := W) (C := fun _ _ => true) (C' := fun _ _ => True) (k := k) (k' := k') (fun _ _ _ => trivial) hk σ H Q π M x y u v ru rv hm hp
  exact ⟨i, j, h1, h2, h4⟩
theorem rvi (i : Int) (π : List Addr) (H : Hp) : RV X.K π H (.int i) (.int i) := by unfold RV; rfl
theorem rvb (i : Bool) (π : List Addr) (H : Hp) : RV X.K π H (.bl i) (.bl i) := by unfold RV; rfl
theorem rvs (i : Str) (π : List Addr) (H : Hp) : RV X.K π H (.str i) (.str i) := by unfold RV; rfl
def gSub : G2 := gI (fun _ _ => true) fun i j => .int (i - j)
theorem o_sub : Op2 X W (rI0 fun i j => .int (i - j)) gSub := g_int0 fun _ _ _ _ => rvi _ _ _
def gMod : G2 := gI (fun _ j => decide (0 < j)) fun i j => .int (i % j)
theorem o_mod : Op2 X W (rI (fun _ j => 0 < j) fun i j => .int (i % j)) gMod := g_int (fun _ _ h => of_decide_eq_true h) fun _ _ _ _ => rvi _ _ _
def gFdiv : G2 := gI (fun _ j => decide (0 < j) && decide (j.natAbs.log2 < 9000)) fun i j => .int (i / j)
theorem o_fdiv : Op2 X W (rI CDivW fun i j => .int (i / j)) gFdiv := g_int (fun _ _ h => by
  rw [Bool.and_eq_true] at h
  exact ⟨of_decide_eq_true h.1, of_decide_eq_true h.2⟩) fun _ _ _ _ => rvi _ _ _
def gPow : G2 := gI (fun i j => decide (0 ≤ j) && (decide (j ≤ 1000000) && decide (i.natAbs < 2 ^ 64))) fun i j => .int (i ^ j.toNat)
theorem o_pow : Op2 X W (rI CPow fun i j => .int (i ^ j.toNat)) gPow := g_int (fun _ _ h => by
  rw [Bool.and_eq_true, Bool.and_eq_true] at h
  exact ⟨of_decide_eq_true h.1, of_decide_eq_true h.2.1, of_decide_eq_true h.2.2⟩) fun _ _ _ _ => rvi _ _ _
def CMulB (i j : Int) : Prop := i.natAbs.log2 + j.natAbs.log2 < 130000000
theorem CMulB.ok {i j : Int} (h : CMulB i j) : IntMulOk i j := by
  have b : ∀ x : Int, Builtin.Int.intBits x ≤ x.natAbs.log2 + 1 := fun x => by
    unfold Builtin.Int.intBits
    split <;> omega
  have h1 := b i
  have h2 := b j
  have h3 : i.natAbs.log2 + j.natAbs.log2 < 130000000 := h
  have e : bitsLine = 134217728 := by decide
  unfold IntMulOk
  intro z
  rw [Bool.and_eq_true] at z
  have z2 := z.2
  unfold Builtin.Int.intTooBig at z2
  have z3 := of_decide_eq_true z2
  rw [e] at z3
  omega
theorem op_mulB : OpR X (binaryOp .Mult) (rI CMulB fun i j => .int (i * j)) := opI fun _ _ _ _ _ _ _ hc q => mul_int q hc.ok
def gMul : G2 := gI (fun i j => decide (i.natAbs.log2 + j.natAbs.log2 < 130000000)) fun i j => .int (i * j)
theorem o_mul : Op2 X W (rI CMulB fun i j => .int (i * j)) gMul := g_int (fun i j h => by
  have z : i.natAbs.log2 + j.natAbs.log2 < 130000000 := of_decide_eq_true h
  exact z) fun _ _ _ _ => rvi _ _ _
def gLt : G2 := gI (fun _ _ => true) fun i j => .bl (decide (i < j))
def gLe : G2 := gI (fun _ _ => true) fun i j => .bl (decide (i ≤ j))
def gGt : G2 := gI (fun _ _ => true) fun i j => .bl (decide (j < i))
def gGe : G2 := gI (fun _ _ => true) fun i j => .bl (decide (j ≤ i))
theorem o_lt : Op2 X W (rI0 fun i j => .bl (decide (i < j))) gLt := g_int0 fun _ _ _ _ => rvb _ _ _
theorem o_le : Op2 X W (rI0 fun i j => .bl (decide (i ≤ j))) gLe := g_int0 fun _ _ _ _ => rvb _ _ _
theorem o_gt : Op2 X W (rI0 fun i j => .bl (decide (j < i))) gGt := g_int0 fun _ _ _ _ => rvb _ _ _
theorem o_ge : Op2 X W (rI0 fun i j => .bl (decide (j ≤ i))) gGe := g_int0 fun _ _ _ _ => rvb _ _ _

/-! ### + -/
def gAdd : G2 := fun x y M => match x, y with
  | .int i, .int j => .ok (.int (i + j)) M
  | .str i, .str j => if small (i.length + j.length) = true then .ok (.str (i ++ j)) M else .stuck
  | .tup xs, .tup ys => if small (xs.length + ys.length) = true then .ok (.tup (xs ++ ys)) M else .stuck
  | .ref n, .ref m => match M[n]?, M[m]? with
    | some (.lst xs), some (.lst ys) => if small (xs.length + ys.length) = true then .ok (.ref M.length) (M ++ [.lst (xs ++ ys)]) else .stuck
    | _, _ => .stuck
  | _, _ => .stuck
abbrev rAdd (K : PySem.W.Frag) : R2 := fun x y H Q => (rI0 (fun i j => .int (i + j)) x y H Q ∨ (fun x y H Q => ∃ i j, x = V.str i ∧ y = V.str j ∧ i.length + j.length ≤ sizeLine ∧ Q (.str (i ++ j)) H) x y H Q) ∨ (rCatA K x y H Q ∨ rCat x y H Q)
theorem op_addA : OpR X (binaryOp .Add) (rAdd X.K) := opOr (opOr op_add op_add_str) (opOr op_catA op_cat)
theorem o_add : Op2 X W (rAdd X.K) gAdd := by
  intro σ H Q π M x y u v ru rv hm hp
  unfold gAdd at hp
  split at hp
  · rw [RV_int] at ru rv
    exact .inl (.inl ⟨_, _, ru, rv, hp.ok (rvi _ _ _) hm⟩)
  · rw [RV_str] at ru rv
    split at hp
    · rename_i hz
      exact .inl (.inr ⟨_, _, ru, rv, small_le hz, hp.ok (rvs _ _ _) hm⟩)
    · exact hp.elim
  · rename_i xs ys
    split at hp
    · rename_i hz
      have ru' := ru
      have rv' := rv
      unfold RV at ru rv
      obtain ⟨a, vs, rfl, h1, h2⟩ := ru
      obtain ⟨b, ws, rfl, k1, k2⟩ := rv
      refine .inr (.inl ⟨a, b, vs, ws, rfl, rfl, h1.sq, k1.sq, by rw [← h2.length, ← k2.length]; exact small_le hz, fun e => ?_, fun e1 e2 => ?_, fun e1 e2 p hn => ?_⟩)
      · subst e
        cases xs with
        | nil => exact hp.ok rv' hm
        | cons x xs => exact absurd h2.length (by simp)
      · subst e2
        cases ys with
        | nil =>
          rw [List.append_nil] at hp
          exact hp.ok ru' hm
        | cons x xs => exact absurd k2.length (by simp)
      · have e : Ext π H π (upd H p (.tup (vs ++ ws))) := Ext.new hn
        refine hp _ _ π e ?_ (hm.keep fun b u q => by rw [upd_ne (ne_of_none q hn)]; exact q)
        unfold RV
        exact ⟨p, _, rfl, .inl upd_same, (h2.append k2).ext e⟩
    · exact hp.elim
  · rename_i n m
    split at hp
    · rename_i xs ys en em
      split at hp
      · rename_i hz
        unfold RV at ru rv
        obtain ⟨a, rfl, ha⟩ := ru
        obtain ⟨b, rfl, hb⟩ := rv
        obtain ⟨vs, h1, h2⟩ := hm.at_ ha en
        obtain ⟨ws, k1, k2⟩ := hm.at_ hb em
        exact .inr (.inr ⟨a, b, vs, ws, rfl, rfl, h1, k1, by rw [← h2.length, ← k2.length]; exact small_le hz, fun p hn => new_lst (α := Unit) hp hm (h2.append k2) hn⟩)
      · exact hp.elim
    · exact hp.elim
  · exact hp.elim

/-! ### == -/
def allD (f : MV → Option PyData) : List MV → Option (List PyData)
  | [] => some []
  | x :: xs => match f x, allD f xs with
    | some d, some ds => some (d :: ds)
    | _, _ => none
/-- a value as data: lists are read -/
def toD : Nat → MH → MV → Option PyData
  | 0, _, _ => none
  | n + 1, M, v => match v with
    | .non => some .none
    | .bl b => some (.bool b)
    | .int i => some (.int i)
    | .str x => some (.str x)
    | .tup xs => (allD (toD n M) xs).map .tuple
    | .ref k => match lstOf M (.ref k) with
      | some xs => (allD (toD n M) xs).map .list
      | none => none
theorem toD_dp (hm : RM X.prog X.w X.K X.mg π H M) : ∀ (n : Nat) (x : MV) (d : PyData) (u : V), toD n M x = some d → RV X.K π H x u → Dp X.K H u d
  | 0, _, _, _, e, _ => by cases e
  | n + 1, x, d, u, e, r => by
    have all : ∀ (xs : List MV) (ds : List PyData) (vs : List V), allD (toD n M) xs = some ds → RVs X.K π H xs vs → DpAll X.K H vs ds := by
      intro xs
      induction xs with
      | nil =>
        intro ds vs e r
        cases e
        rw [r.unnil]
        exact .nil
      | cons x xs ih =>
        intro ds vs e r
        obtain ⟨v, ws, rfl, r1, r2⟩ := r.uncons
        unfold allD at e
        split at e
        · rename_i d ds e1 e2
          cases e
          exact .cons (toD_dp hm n x d v e1 r1) (ih ds ws e2 r2)
        · cases e
    unfold toD at e
    split at e
    · cases e
      rw [RV_non] at r
      subst r
      exact .non
    · cases e
      rw [RV_bl] at r
      subst r
      exact .bl _
    · cases e
      rw [RV_int] at r
      subst r
      exact .int _
    · cases e
      rw [RV_str] at r
      subst r
      exact .str _
    · obtain ⟨ds, e1, rfl⟩ := Option.map_eq_some_iff.mp e
      obtain ⟨a, vs, rfl, h1, h2⟩ := tup_sq r
      exact .tup h1 (all _ _ _ e1 h2)
    · split at e
      · rename_i xs e1
        obtain ⟨ds, e2, rfl⟩ := Option.map_eq_some_iff.mp e
        obtain ⟨a, vs, rfl, h1, h2⟩ := lstOf_sq e1 hm r
        exact .lst h1 (all _ _ _ e2 h2)
      · cases e
/-- == of simple values -/
def scalEq : MV → MV → Option Bool
  | .non, .non => some true
  | .int i, .int j => some (decide (i = j))
  | .str i, .str j => some (decide (i = j))
  | .bl i, .bl j => some (decide (i = j))
  | .non, .int _ => some false
  | .non, .str _ => some false
  | .non, .bl _ => some false
  | .int _, .non => some false
  | .str _, .non => some false
  | .bl _, .non => some false
  | .int _, .str _ => some false
  | .str _, .int _ => some false
  | .str _, .bl _ => some false
  | .bl _, .str _ => some false
  | _, _ => none
def deepEq (M : MH) (x y : MV) : Option Bool := match toD 66 M x, toD 66 M y with
  | some d, some e => if (SeqAt.shaped d && SeqAt.shaped e) = true then some (PyData.eqv d e) else none
  | _, _ => none
def eqM (M : MH) (x y : MV) : Option Bool := match scalEq x y with
  | some b => some b
  | none => deepEq M x y
def gEq : G2 := fun x y M => match eqM M x y with
  | some b => .ok (.bl b) M
  | none => .stuck
def gNe : G2 := fun x y M => match eqM M x y with
  | some b => .ok (.bl (!b)) M
  | none => .stuck
theorem scalEq_ok {x y : MV} {b : Bool} {u v : V} (e : scalEq x y = some b) (ru : RV X.K π H x u) (rv : RV X.K π H y v) : scal u v = true ∧ decide (u = v) = b := by
  unfold scalEq at e
  split at e <;> cases e <;> (first | rw [RV_non] at ru | rw [RV_int] at ru | rw [RV_str] at ru | rw [RV_bl] at ru) <;> (first | rw [RV_non] at rv | rw [RV_int] at rv | rw [RV_str] at rv | rw [RV_bl] at rv) <;> subst ru <;> subst rv <;> refine ⟨rfl, ?_⟩ <;> simp
theorem deepEq_ok {x y : MV} {b : Bool} {u v : V} (e : deepEq M x y = some b) (hm : RM X.prog X.w X.K X.mg π H M) (ru : RV X.K π H x u) (rv : RV X.K π H y v) :
    ∃ d e, Dp X.K H u d ∧ Dp X.K H v e ∧ SeqAt.shaped d = true ∧ SeqAt.shaped e = true ∧ PyData.eqv d e = b := by
  unfold deepEq at e
  split at e
  · rename_i d d' e1 e2
    split at e
    · rename_i hz
      cases e
      rw [Bool.and_eq_true] at hz
      exact ⟨d, d', toD_dp hm 66 x d u e1 ru, toD_dp hm 66 y d' v e2 rv, hz.1, hz.2, rfl⟩
    · cases e
  · cases e
theorem op_eqA (hu : X.A.units + 64 < cLine) : OpR X (compareOp .Eq) (fun x y H Q => rEq x y H Q ∨ rEqD X.K x y H Q) := opOr op_eq (op_eqD hu)
theorem op_neA (hu : X.A.units + 64 < cLine) : OpR X (compareOp .NotEq) (fun x y H Q => rNe x y H Q ∨ rNeD X.K x y H Q) := opOr op_ne (op_neD hu)
theorem o_eq : Op2 X W (fun x y H Q => rEq x y H Q ∨ rEqD X.K x y H Q) gEq := by
  intro σ H Q π M x y u v ru rv hm hp
  unfold gEq eqM at hp
  cases e : scalEq x y with
  | some b =>
    rw [e] at hp
    obtain ⟨h1, h2⟩ := scalEq_ok e ru rv
    exact .inl ⟨h1, by rw [h2]; exact hp.ok (rvb _ _ _) hm⟩
  | none =>
    rw [e] at hp
    cases e2 : deepEq M x y with
    | some b =>
      rw [e2] at hp
      obtain ⟨d, d', h1, h2, h3, h4, h5⟩ := deepEq_ok e2 hm ru rv
      exact .inr ⟨d, d', h1, h2, h3, h4, by rw [h5]; exact hp.ok (rvb _ _ _) hm⟩
    | none =>
      rw [e2] at hp
      exact hp.elim
theorem o_ne : Op2 X W (fun x y H Q => rNe x y H Q ∨ rNeD X.K x y H Q) gNe := by
  intro σ H Q π M x y u v ru rv hm hp
  unfold gNe eqM at hp
  cases e : scalEq x y with
  | some b =>
    rw [e] at hp
    obtain ⟨h1, h2⟩ := scalEq_ok e ru rv
    exact .inl ⟨h1, by rw [h2]; exact hp.ok (rvb _ _ _) hm⟩
  | none =>
    rw [e] at hp
    cases e2 : deepEq M x y with
    | some b =>
      rw [e2] at hp
      obtain ⟨d, d', h1, h2, h3, h4, h5⟩ := deepEq_ok e2 hm ru rv
      exact .inr ⟨d, d', h1, h2, h3, h4, by rw [h5]; exact hp.ok (rvb _ _ _) hm⟩
    | none =>
      rw [e2] at hp
      exact hp.elim

/-! ### is -/
def isNon : MV → Bool
  | .non => true
  | _ => false
def gIsN : G2 := fun x y M => match y with
  | .non => .ok (.bl (isNon x)) M
  | .bl j => match x with
    | .bl i => .ok (.bl (decide (i = j))) M
    | _ => .stuck
  | _ => .stuck
def gNotN : G2 := fun x y M => match y with
  | .non => .ok (.bl (!isNon x)) M
  | .bl j => match x with
    | .bl i => .ok (.bl (!decide (i = j))) M
    | _ => .stuck
  | _ => .stuck
theorem RV.isN {x : MV} {u : V} (r : RV X.K π H x u) : decide (u = V.non) = isNon x := by
  cases x with
  | non => rw [RV_non] at r; subst r; rfl
  | bl i => rw [RV_bl] at r; subst r; rfl
  | int i => rw [RV_int] at r; subst r; rfl
  | str i => rw [RV_str] at r; subst r; rfl
  | tup xs => unfold RV at r; obtain ⟨a, vs, rfl, _⟩ := r; rfl
  | ref n => unfold RV at r; obtain ⟨a, rfl, _⟩ := r; rfl
abbrev rIsA : R2 := fun x y H Q => (fun x y H Q => y = V.non ∧ Q (.bl (decide (x = .non))) H) x y H Q ∨ rIsB x y H Q
abbrev rNotA : R2 := fun x y H Q => (fun x y H Q => y = V.non ∧ Q (.bl (!decide (x = .non))) H) x y H Q ∨ rNotB x y H Q
theorem op_isA : OpR X (compareOp .Is) rIsA := opOr op_isN op_isBl
theorem op_notA : OpR X (compareOp .IsNot) rNotA := opOr op_notN op_notBl
theorem o_is : Op2 X W rIsA gIsN := by
  intro σ H Q π M x y u v ru rv hm hp
  unfold gIsN at hp
  split at hp
  · rw [RV_non] at rv
    refine .inl ⟨rv, ?_⟩
    rw [ru.isN]
    exact hp.ok (rvb _ _ _) hm
  · split at hp
    · rw [RV_bl] at ru rv
      exact .inr ⟨_, _, ru, rv, hp.ok (rvb _ _ _) hm⟩
    · exact hp.elim
  · exact hp.elim
theorem o_not : Op2 X W rNotA gNotN := by
  intro σ H Q π M x y u v ru rv hm hp
  unfold gNotN at hp
  split at hp
  · rw [RV_non] at rv
    refine .inl ⟨rv, ?_⟩
    rw [ru.isN]
    exact hp.ok (rvb _ _ _) hm
  · split at hp
    · rw [RV_bl] at ru rv
      exact .inr ⟨_, _, ru, rv, hp.ok (rvb _ _ _) hm⟩
    · exact hp.elim
  · exact hp.elim

/-! ### an item, a slice -/
def gIx : G2 := fun x y M => match y with
  | .int i => match x with
    | .tup xs => match atI xs i with
      | some v => .ok v M
      | none => .stuck
    | .str z => if small z.length = true then (match atI z.cps.toList i with
      | some c => .ok (.str ⟨#[c]⟩) M
      | none => .stuck) else .stuck
    | x => match lstOf M x with
      | some xs => match atI xs i with
        | some v => .ok v M
        | none => .stuck
      | none => .stuck
  | _ => .stuck
theorem RVs.atI {xs : List MV} {vs : List V} {i : Int} {x : MV} (r : RVs X.K π H xs vs) (e : L2.atI xs i = some x) : ∃ v, L2.atI vs i = some v ∧ RV X.K π H x v := by
  unfold L2.atI at e ⊢
  rw [← r.length]
  cases h : ixN xs.length i with
  | none =>
    rw [h] at e
    cases e
  | some j =>
    rw [h] at e
    exact r.get e
theorem o_ix : Op2 X W (rIx X.K) gIx := by
  intro σ H Q π M x y u v ru rv hm hp
  unfold gIx at hp
  split at hp
  · rename_i i
    rw [RV_int] at rv
    split at hp
    · rename_i xs
      split at hp
      · rename_i z e
        obtain ⟨a, vs, rfl, h1, h2⟩ := tup_sq ru
        obtain ⟨w', e1, e2⟩ := h2.atI e
        exact .inr (.inl ⟨a, vs, i, w', rfl, rv, h1, e1, hp.ok e2 hm⟩)
      · exact hp.elim
    · split at hp
      · rename_i hz
        split at hp
        · rename_i c e
          rw [RV_str] at ru
          exact .inr (.inr ⟨_, i, c, ru, rv, small_le hz, e, hp.ok (rvs _ _ _) hm⟩)
        · exact hp.elim
      · exact hp.elim
    · split at hp
      · rename_i xs e0
        split at hp
        · rename_i z e
          obtain ⟨a, vs, rfl, h1, h2⟩ := lstOf_sq e0 hm ru
          obtain ⟨w', e1, e2⟩ := h2.atI e
          exact .inl ⟨a, vs, i, w', rfl, rv, h1, e1, hp.ok e2 hm⟩
        · exact hp.elim
      · exact hp.elim
  · exact hp.elim
theorem fx_ix {a b : Expr} {fa fb : FE} {pos : Pos} (ha : FX X W a fa) (hb : FX X W b fb) (hs : PlainIx b) : FX X W (.Subscript a b pos) (fOp gIx fa fb) := by
  obtain ⟨t1, p1, r1⟩ := ha.to
  obtain ⟨t2, p2, r2⟩ := hb.to
  exact ⟨_, pe_ix ix_seq p1 p2 hs, rf_op o_ix r1 r2⟩
end
end FL

namespace FL
open PySem PySem.Spec PyProof.Rows L2
/-! ### values are told apart -/
mutual
def beqV : MV → MV → Bool
  | .non, .non => true
  | .bl a, .bl b => decide (a = b)
  | .int a, .int b => decide (a = b)
  | .str a, .str b => decide (a = b)
  | .tup a, .tup b => beqVs a b
  | .ref a, .ref b => decide (a = b)
  | _, _ => false
def beqVs : List MV → List MV → Bool
  | [], [] => true
  | a :: as, b :: bs => beqV a b && beqVs as bs
  | _, _ => false
end
mutual
theorem eq_of_beqV : ∀ a b : MV, beqV a b = true → a = b
  | .non, b, h => by cases b <;> simp_all [beqV]
  | .bl a, b, h => by cases b <;> simp_all [beqV]
  | .int a, b, h => by cases b <;> simp_all [beqV]
  | .str a, b, h => by cases b <;> simp_all [beqV]
  | .ref a, b, h => by cases b <;> simp_all [beqV]
  | .tup a, b, h => by
    cases b with
    | tup b =>
      rw [beqV] at h
      rw [eq_of_beqVs a b h]
    | _ => simp [beqV] at h
theorem eq_of_beqVs : ∀ a b : List MV, beqVs a b = true → a = b
  | [], b, h => by cases b <;> simp_all [beqVs]
  | a :: as, b, h => by
    cases b with
    | nil => simp [beqVs] at h
    | cons b bs =>
      rw [beqVs, Bool.and_eq_true] at h
      rw [eq_of_beqV a b h.1, eq_of_beqVs as bs h.2]
end
mutual
theorem beqV_self : ∀ a : MV, beqV a a = true
  | .non => rfl
  | .bl a => by simp [beqV]
  | .int a => by simp [beqV]
  | .str a => by simp [beqV]
  | .ref a => by simp [beqV]
  | .tup a => by rw [beqV]; exact beqVs_self a
theorem beqVs_self : ∀ a : List MV, beqVs a a = true
  | [] => rfl
  | a :: as => by rw [beqVs, beqV_self a, beqVs_self as]; rfl
end
instance : DecidableEq MV := fun a b => if h : beqV a b = true then .isTrue (eq_of_beqV a b h) else .isFalse fun e => h (e ▸ beqV_self a)
section
variable {X : Cx} {W : WX} {σ : St} {π π1 : List Addr} {H H1 : Hp} {ρ : Rho} {M : MH}
/-! ### slices -/
abbrev FO := Rho → MH → Res (Option Int)
structure FXO (X : Cx) (W : WX) (e : Option Expr) (f : FO) : Prop where
  to : ∃ t, PO X e t ∧ RF X W REq t f
def foNone : FO := fun _ M => .ok none M
def foSome (f : FE) : FO := fun ρ M => (f ρ M).bind fun x M1 => match x with
  | .int i => .ok (some i) M1
  | _ => .stuck
theorem fo_none : FXO X W none foNone := ⟨_, po_none, fun σ H Q π ρ M hs hm hp => hp.ok rfl hm⟩
theorem fo_some {e : Expr} {f : FE} (h : FX X W e f) : FXO X W (some e) (foSome f) := by
  obtain ⟨t1, p1, r1⟩ := h.to
  refine ⟨_, po_some p1, ?_⟩
  intro σ H Q π ρ M hs hm hp
  refine r1.bind hs hm hp fun x M1 u H1 π1 e1 ru m1 hp1 => ?_
  cases x with
  | int i =>
    rw [RV_int] at ru
    exact ⟨i, ru, hp1.ok rfl m1⟩
  | _ => exact hp1.elim
def cutM {α : Type} (xs : List α) (lo hi : Option Int) : List α := (xs.drop (HT.sIx xs.length 0 lo)).take (HT.sIx xs.length xs.length hi - HT.sIx xs.length 0 lo)
theorem RVs.cut {xs : List MV} {vs : List V} (lo hi : Option Int) (r : RVs X.K π H xs vs) : RVs X.K π H (cutM xs lo hi) (cutV vs lo hi) := by
  unfold cutM cutV
  rw [r.length]
  exact (r.drop _).take _
def gSl (x : MV) (lo hi : Option Int) (M : MH) : Res MV := match x with
  | .tup xs => .ok (.tup (cutM xs lo hi)) M
  | .str z => if small z.length = true then .ok (.str (cutS z lo hi)) M else .stuck
  | x => match lstOf M x with
    | some xs => .ok (.ref M.length) (M ++ [.lst (cutM xs lo hi)])
    | none => .stuck
def fSl (f : FE) (l h : FO) : FE := fun ρ M => (f ρ M).bind fun x M1 => (l ρ M1).bind fun lo M2 => (h ρ M2).bind fun hi M3 => gSl x lo hi M3
theorem cut_whole {xs : List MV} {lo hi : Option Int} (h : HT.sIx xs.length 0 lo = 0 ∧ HT.sIx xs.length xs.length hi = xs.length) : cutM xs lo hi = xs := by
  unfold cutM
  rw [h.1, h.2]
  simp
theorem fx_sl {e : Expr} {lo hi : Option Expr} {f : FE} {l h : FO} {p2 pos : Pos} (he : FX X W e f) (hl : FXO X W lo l) (hh : FXO X W hi h) : FX X W (.Subscript e (.Slice lo hi none p2) pos) (fSl f l h) := by
  obtain ⟨t1, p1, r1⟩ := he.to
  obtain ⟨t2, q2, r2⟩ := hl.to
  obtain ⟨t3, q3, r3⟩ := hh.to
  refine ⟨_, pe_slice (sl_list.or (sl_tupA.or sl_str)) p1 q2 q3, ?_⟩
  intro σ H Q π ρ M hs hm hp
  refine r1.bind hs hm hp fun x M1 u H1 π1 e1 ru m1 hp1 => ?_
  refine r2.bind (hs.ext e1) m1 hp1 fun lo M2 lo' H2 π2 e2 re2 m2 hp2 => ?_
  cases re2
  refine r3.bind ((hs.ext e1).ext e2) m2 hp2 fun hi M3 hi' H3 π3 e3 re3 m3 hp3 => ?_
  cases re3
  have ru3 := ru.ext (e2.trans e3)
  unfold gSl at hp3
  split at hp3
  · rename_i xs
    have ru4 := ru3
    obtain ⟨a, vs, rfl, h1, h2⟩ := tup_sq ru3
    refine .inr (.inl ⟨a, vs, rfl, h1, fun hw => ?_, fun hw p hn => ?_⟩)
    · rw [← h2.length] at hw
      rw [cut_whole hw] at hp3
      exact hp3.ok ru4 m3
    · have e : Ext π3 H3 π3 (upd H3 p (.tup (cutV vs lo hi))) := Ext.new hn
      refine hp3 _ _ π3 e ?_ (m3.keep fun b u q => by rw [upd_ne (ne_of_none q hn)]; exact q)
      unfold RV
      exact ⟨p, _, rfl, .inl upd_same, (h2.cut lo hi).ext e⟩
  · split at hp3
    · rename_i z hz
      rw [RV_str] at ru3
      exact .inr (.inr ⟨z, ru3, small_le hz, hp3.ok (rvs _ _ _) m3⟩)
    · exact hp3.elim
  · split at hp3
    · rename_i xs e0
      obtain ⟨a, vs, rfl, h1, h2⟩ := lstOf_sq e0 m3 ru3
      exact .inl ⟨a, vs, rfl, h1, fun p hn => new_lst (α := Unit) hp3 m3 (h2.cut lo hi) hn⟩
    · exact hp3.elim
/-- xs[::-1] -/
def fRev (f : FE) : FE := fun ρ M => (f ρ M).bind fun x M1 => match lstOf M1 x with
  | some xs => .ok (.ref M1.length) (M1 ++ [.lst xs.reverse])
  | none => .stuck
theorem fx_rev {e : Expr} {f : FE} {k : Nat} {p1 p2 p3 pos : Pos} (h : FX X W e f) : FX X W (.Subscript e (.Slice none none (some (.UnaryOp .USub (.Constant (.int 1) k p1) p2)) p3) pos) (fRev f) := by
  obtain ⟨t1, q1, r1⟩ := h.to
  refine ⟨_, pe_revL q1, ?_⟩
  intro σ H Q π ρ M hs hm hp
  refine r1.bind hs hm hp fun x M1 u H1 π1 e1 ru m1 hp1 => ?_
  cases e0 : lstOf M1 x with
  | some xs =>
    rw [e0] at hp1
    obtain ⟨a, vs, rfl, h1, h2⟩ := lstOf_sq e0 m1 ru
    exact ⟨a, vs, rfl, h1, fun p hn => new_lst (α := Unit) hp1 m1 h2.reverse hn⟩
  | none =>
    rw [e0] at hp1
    exact hp1.elim
/-- -n -/
def fNeg (f : FE) : FE := fun ρ M => (f ρ M).bind fun x M1 => match x with
  | .int i => .ok (.int (-i)) M1
  | _ => .stuck
theorem fx_neg {e : Expr} {f : FE} {pos : Pos} (h : FX X W e f) : FX X W (.UnaryOp .USub e pos) (fNeg f) := by
  obtain ⟨t1, q1, r1⟩ := h.to
  refine ⟨_, pe_un un_neg q1, ?_⟩
  intro σ H Q π ρ M hs hm hp
  refine r1.bind hs hm hp fun x M1 u H1 π1 e1 ru m1 hp1 => ?_
  cases x with
  | int i =>
    rw [RV_int] at ru
    exact ⟨i, ru, hp1.ok (rvi _ _ _) m1⟩
  | _ => exact hp1.elim

/-! ### calls of builtins -/
abbrev GN := List MV → MH → Res MV
def OpN (X : Cx) (W : WX) (r : List V → Hp → VK → Prop) (g : GN) : Prop := ∀ σ H Q π M xs vs, RVs X.K π H xs vs → RM X.prog X.w X.K X.mg π H M → PostR X W (RV X.K) σ π H (g xs M) Q → r vs H Q
def fFn (g : GN) (a : FA) : FE := fun ρ M => (a ρ M).bind fun xs M1 => g xs M1
theorem rf_fn {r : List V → Hp → VK → Prop} {g : GN} {t : TA} {a : FA} (ho : OpN X W r g) (h : RF X W (RVs X.K) t a) : RF X W (RV X.K) (tCB r t) (fFn g a) := by
  intro σ H Q π ρ M hs hm hp
  refine h.bind hs hm hp fun xs M1 vs H1 π1 e1 rv m1 hp1 => ?_
  exact ho σ H1 Q π1 M1 xs vs rv m1 hp1
theorem fx_callB {id : String} {x : Str} {p pos : Pos} {e : Expr} {es : List Expr} {r : List V → Hp → VK → Prop} {g : GN} {a : FA} (hc : CallR X (.builtin id) r) (ho : OpN X W r g) (hg : Gl X x) (hm : X.mg x = none) (hv : bootBuiltins x = some (.builtin id)) (ha : FXA X W (e :: es) a)
    (hn : x ≠ "__name__" := by decide) (hdb : (x == ("__debug__" : Str)) = false := by decide) (he : starEach (e :: es) X.env = (false, eval e X.env) :: starEach es X.env := by rfl) (hpl : (backTo pos (starEach es X.env)).any (·.1) = false := by rfl) :
    FX X W (.Call (.Name x p) (e :: es) [] pos) (fFn g a) := by
  obtain ⟨t1, q1, r1⟩ := ha.to
  exact ⟨_, pe_callB hc hg hm hv q1 hn hdb he hpl, rf_fn ho r1⟩
theorem fx_callT {id : String} {x : Str} {p pos : Pos} {e : Expr} {es : List Expr} {r : List V → Hp → VK → Prop} {g : GN} {a : FA} (hc : CallR X (.type id) r) (ho : OpN X W r g) (hg : Gl X x) (hm : X.mg x = none) (hv : bootBuiltins x = some (.type id)) (ha : FXA X W (e :: es) a)
    (hn : x ≠ "__name__" := by decide) (hdb : (x == ("__debug__" : Str)) = false := by decide) (he : starEach (e :: es) X.env = (false, eval e X.env) :: starEach es X.env := by rfl) (hpl : (backTo pos (starEach es X.env)).any (·.1) = false := by rfl) :
    FX X W (.Call (.Name x p) (e :: es) [] pos) (fFn g a) := by
  obtain ⟨t1, q1, r1⟩ := ha.to
  exact ⟨_, pe_callTy hc hg hm hv q1 hn hdb he hpl, rf_fn ho r1⟩
/-- len: of a list, a tuple, a text -/
def gLen : GN := fun xs M => match xs with
  | [.tup ys] => .ok (.int ys.length) M
  | [.str z] => if small z.length = true then .ok (.int z.length) M else .stuck
  | [x] => match lstOf M x with
    | some ys => .ok (.int ys.length) M
    | none => .stuck
  | _ => .stuck
theorem o_len : OpN X W (fun xs H Q => ∃ x n, xs = [x] ∧ LenV X.K x H n ∧ Q (.int n) H) gLen := by
  intro σ H Q π M xs vs r hm hp
  unfold gLen at hp
  split at hp
  · obtain ⟨v, ws, rfl, r1, r2⟩ := r.uncons
    rw [r2.unnil]
    obtain ⟨a, us, rfl, h1, h2⟩ := tup_sq r1
    exact ⟨_, _, rfl, .inr ⟨us, h1, rfl⟩, by rw [← h2.length]; exact hp.ok (rvi _ _ _) hm⟩
  · obtain ⟨v, ws, rfl, r1, r2⟩ := r.uncons
    rw [r2.unnil]
    rw [RV_str] at r1
    subst r1
    split at hp
    · rename_i hz
      exact ⟨_, _, rfl, ⟨small_le hz, rfl⟩, hp.ok (rvi _ _ _) hm⟩
    · exact hp.elim
  · obtain ⟨v, ws, rfl, r1, r2⟩ := r.uncons
    rw [r2.unnil]
    split at hp
    · rename_i ys e0
      obtain ⟨a, us, rfl, h1, h2⟩ := lstOf_sq e0 hm r1
      exact ⟨_, _, rfl, .inl ⟨us, h1, rfl⟩, by rw [← h2.length]; exact hp.ok (rvi _ _ _) hm⟩
    · exact hp.elim
  · exact hp.elim
/-- list(x), tuple(x) of a list or a tuple -/
def gList : GN := fun xs M => match xs with
  | [.tup ys] => .ok (.ref M.length) (M ++ [.lst ys])
  | [x] => match lstOf M x with
    | some ys => .ok (.ref M.length) (M ++ [.lst ys])
    | none => .stuck
  | _ => .stuck
def gTuple : GN := fun xs M => match xs with
  | [.tup ys] => .ok (.tup ys) M
  | [x] => match lstOf M x with
    | some ys => .ok (.tup ys) M
    | none => .stuck
  | _ => .stuck
theorem o_list : OpN X W (fun xs H Q => ∃ p ys, xs = [.ref p] ∧ (SqL X.K H p ys ∨ SqT X.K H p ys) ∧ ∀ l, H l = none → Q (.ref l) (upd H l (.lst ys))) gList := by
  intro σ H Q π M xs vs r hm hp
  unfold gList at hp
  split at hp
  · obtain ⟨v, ws, rfl, r1, r2⟩ := r.uncons
    rw [r2.unnil]
    obtain ⟨a, us, rfl, h1, h2⟩ := tup_sq r1
    exact ⟨a, us, rfl, .inr h1, fun l hn => new_lst (α := Unit) hp hm h2 hn⟩
  · obtain ⟨v, ws, rfl, r1, r2⟩ := r.uncons
    rw [r2.unnil]
    split at hp
    · rename_i ys e0
      obtain ⟨a, us, rfl, h1, h2⟩ := lstOf_sq e0 hm r1
      exact ⟨a, us, rfl, .inl h1, fun l hn => new_lst (α := Unit) hp hm h2 hn⟩
    · exact hp.elim
  · exact hp.elim
theorem o_tuple : OpN X W (fun xs H Q => ∃ p ys, xs = [.ref p] ∧ ((SqL X.K H p ys ∧ ∀ l, H l = none → Q (.ref l) (upd H l (.tup ys))) ∨ (SqT X.K H p ys ∧ Q (.ref p) H))) gTuple := by
  intro σ H Q π M xs vs r hm hp
  unfold gTuple at hp
  split at hp
  · obtain ⟨v, ws, rfl, r1, r2⟩ := r.uncons
    rw [r2.unnil]
    have r1' := r1
    obtain ⟨a, us, rfl, h1, h2⟩ := tup_sq r1
    exact ⟨a, us, rfl, .inr ⟨h1, hp.ok r1' hm⟩⟩
  · obtain ⟨v, ws, rfl, r1, r2⟩ := r.uncons
    rw [r2.unnil]
    split at hp
    · rename_i ys e0
      obtain ⟨a, us, rfl, h1, h2⟩ := lstOf_sq e0 hm r1
      refine ⟨a, us, rfl, .inl ⟨h1, fun p hn => ?_⟩⟩
      have e : Ext π H π (upd H p (.tup us)) := Ext.new hn
      refine hp _ _ π e ?_ (hm.keep fun b u q => by rw [upd_ne (ne_of_none q hn)]; exact q)
      unfold RV
      exact ⟨p, _, rfl, .inl upd_same, h2.ext e⟩
    · exact hp.elim
  · exact hp.elim
def gMax : GN := fun xs M => match xs with
  | [.int i, .int j] => .ok (.int (if j > i then j else i)) M
  | _ => .stuck
def gMin : GN := fun xs M => match xs with
  | [.int i, .int j] => .ok (.int (if j < i then j else i)) M
  | _ => .stuck
theorem two_ints {i j : Int} {vs : List V} (r : RVs X.K π H [.int i, .int j] vs) : vs = [.int i, .int j] := by
  obtain ⟨v, ws, rfl, r1, r2⟩ := r.uncons
  obtain ⟨v2, ws2, rfl, r3, r4⟩ := r2.uncons
  rw [r4.unnil]
  rw [RV_int] at r1 r3
  rw [r1, r3]
theorem o_max : OpN X W (fun xs H Q => ∃ i j, xs = [.int i, .int j] ∧ Q (.int (if j > i then j else i)) H) gMax := by
  intro σ H Q π M xs vs r hm hp
  unfold gMax at hp
  split at hp
  · exact ⟨_, _, two_ints r, hp.ok (rvi _ _ _) hm⟩
  · exact hp.elim
theorem o_min : OpN X W (fun xs H Q => ∃ i j, xs = [.int i, .int j] ∧ Q (.int (if j < i then j else i)) H) gMin := by
  intro σ H Q π M xs vs r hm hp
  unfold gMin at hp
  split at hp
  · exact ⟨_, _, two_ints r, hp.ok (rvi _ _ _) hm⟩
  · exact hp.elim
/-- truths -/
def allB : List MV → Option (List Bool)
  | [] => some []
  | .bl b :: xs => (allB xs).map (b :: ·)
  | _ => none
theorem allB_ok : ∀ {xs : List MV} {bs : List Bool} {vs : List V}, allB xs = some bs → RVs X.K π H xs vs → vs = bs.map V.bl
  | [], _, _, e, r => by
    cases e
    exact r.unnil
  | .bl b :: xs, bs, _, e, r => by
    obtain ⟨v, ws, rfl, r1, r2⟩ := r.uncons
    rw [RV_bl] at r1
    unfold allB at e
    obtain ⟨cs, e1, rfl⟩ := Option.map_eq_some_iff.mp e
    rw [List.map_cons, r1, allB_ok e1 r2]
  | .non :: _, _, _, e, _ => by cases e
  | .int _ :: _, _, _, e, _ => by cases e
  | .str _ :: _, _, _, e, _ => by cases e
  | .tup _ :: _, _, _, e, _ => by cases e
  | .ref _ :: _, _, _, e, _ => by cases e
def gAll : GN := fun xs M => match xs with
  | [x] => match lstOf M x with
    | some ys => match allB ys with
      | some bs => .ok (.bl (bs.all id)) M
      | none => .stuck
    | none => .stuck
  | _ => .stuck
def gAny : GN := fun xs M => match xs with
  | [x] => match lstOf M x with
    | some ys => match allB ys with
      | some bs => .ok (.bl (bs.any id)) M
      | none => .stuck
    | none => .stuck
  | _ => .stuck
theorem o_all : OpN X W (rAll X.K) gAll := by
  intro σ H Q π M xs vs r hm hp
  unfold gAll at hp
  split at hp
  · obtain ⟨v, ws, rfl, r1, r2⟩ := r.uncons
    rw [r2.unnil]
    split at hp
    · rename_i ys e0
      split at hp
      · rename_i bs e1
        obtain ⟨a, us, rfl, h1, h2⟩ := lstOf_sq e0 hm r1
        exact ⟨a, bs, rfl, by rw [← allB_ok e1 h2]; exact h1, hp.ok (rvb _ _ _) hm⟩
      · exact hp.elim
    · exact hp.elim
  · exact hp.elim
theorem o_any : OpN X W (rAny X.K) gAny := by
  intro σ H Q π M xs vs r hm hp
  unfold gAny at hp
  split at hp
  · obtain ⟨v, ws, rfl, r1, r2⟩ := r.uncons
    rw [r2.unnil]
    split at hp
    · rename_i ys e0
      split at hp
      · rename_i bs e1
        obtain ⟨a, us, rfl, h1, h2⟩ := lstOf_sq e0 hm r1
        exact ⟨a, bs, rfl, by rw [← allB_ok e1 h2]; exact h1, hp.ok (rvb _ _ _) hm⟩
      · exact hp.elim
    · exact hp.elim
  · exact hp.elim
/-- isinstance(x, T), T a built-in class -/
def tyName (M : MH) : MV → Option String
  | .non => some "NoneType"
  | .bl _ => some "bool"
  | .int _ => some "int"
  | .str _ => some "str"
  | .tup _ => some "tuple"
  | .ref n => match M[n]? with
    | some (.lst _) => some "list"
    | some (.cst _) => some "list"
    | _ => none
def fIsi (T : String) (f : FE) : FE := fun ρ M => (f ρ M).bind fun x M1 => match tyName M1 x with
  | some a => match kitB a T with
    | some b => .ok (.bl b) M1
    | none => .stuck
  | none => .stuck
theorem tyName_ok {x : MV} {a : String} {u : V} (e : tyName M x = some a) (hm : RM X.prog X.w X.K X.mg π H M) (r : RV X.K π H x u) : TyX X.K H u (.type a) := by
  cases x with
  | non => rw [RV_non] at r; subst r; cases e; exact .base .non
  | bl b => rw [RV_bl] at r; subst r; cases e; exact .base (.bl _)
  | int b => rw [RV_int] at r; subst r; cases e; exact .base (.int _)
  | str b => rw [RV_str] at r; subst r; cases e; exact .base (.str _)
  | tup xs =>
    unfold RV at r
    obtain ⟨p, vs, rfl, h1, h2⟩ := r
    cases e
    rcases h1 with h1 | ⟨o, its, n, h1, h3, _⟩
    · exact .base (.tup h1)
    · exact .kTuple h1 h3
  | ref n =>
    unfold RV at r
    obtain ⟨p, rfl, hp⟩ := r
    cases q : M[n]? with
    | none => simp [tyName, q] at e
    | some o =>
      cases o with
      | lst ys =>
        simp only [tyName, q, Option.some.injEq] at e
        subst e
        obtain ⟨vs, h1, h2⟩ := hm.at_ hp q
        exact .base (.lst h1)
      | cst ys =>
        simp only [tyName, q, Option.some.injEq] at e
        subst e
        obtain ⟨vs, h1, h2⟩ := hm.at_ hp q
        rcases h1 with ⟨o, h1⟩ | ⟨o, its, n, h1, h3, _⟩
        · exact .base (.frz h1)
        · exact .kList h1 h3
      | dct _ => simp [tyName, q] at e
      | ins _ _ => simp [tyName, q] at e
theorem fx_isi {T : String} {x y : Str} {p p2 pos : Pos} {e : Expr} {f : FE} (hg : Gl X x) (hm : X.mg x = none) (hv : bootBuiltins x = some (.builtin "isinstance")) (hg2 : Gl X y) (hm2 : X.mg y = none) (hv2 : bootBuiltins y = some (.type T)) (h : FX X W e f)
    (hn : x ≠ "__name__" := by decide) (hdb : (x == ("__debug__" : Str)) = false := by decide) (hn2 : y ≠ "__name__" := by decide) (hdb2 : (y == ("__debug__" : Str)) = false := by decide)
    (he : starEach [e, .Name y p2] X.env = (false, eval e X.env) :: starEach [.Name y p2] X.env := by rfl) (he2 : starEach [.Name y p2] X.env = (false, eval (.Name y p2) X.env) :: starEach [] X.env := by rfl) (hpl : (backTo pos (starEach [.Name y p2] X.env)).any (·.1) = false := by rfl) :
    FX X W (.Call (.Name x p) [e, .Name y p2] [] pos) (fIsi T f) := by
  obtain ⟨t1, q1, r1⟩ := h.to
  refine ⟨_, pe_callB call_isi hg hm hv (pa_cons q1 (pa_cons (pe_bltn (v := .ty T) hg2 hm2 hv2 rfl hn2 hdb2) pa_nil he2) he) hn hdb he hpl, ?_⟩
  intro σ H Q π ρ M hs hm hp
  refine r1.bind hs hm hp fun z M1 u H1 π1 e1 ru m1 hp1 => ?_
  cases e2 : tyName M1 z with
  | none =>
    rw [e2] at hp1
    exact hp1.elim
  | some a =>
    rw [e2] at hp1
    cases e3 : kitB a T with
    | none =>
      simp only [e3] at hp1
      exact hp1.elim
    | some b =>
      simp only [e3] at hp1
      exact ⟨u, .ty T, .type a, .type T, b, rfl, .ty T, tyName_ok e2 m1 ru, kit_ty e3, hp1.ok (rvb _ _ _) m1⟩
end
end FL

namespace FL
open PySem PySem.Spec PyProof.Rows L2
section
variable {X : Cx} {W : WX} {σ : St} {π π1 : List Addr} {H H1 : Hp} {ρ : Rho} {M : MH}
/-! ### statements -/
def sNext : FS := fun ρ M => .next ρ M
def sBrk : FS := fun ρ M => .brk ρ M
def sCnt : FS := fun ρ M => .cnt ρ M
def sSeq (f g : FS) : FS := fun ρ M => (f ρ M).seq g
def sDrop (f : FE) : FS := fun ρ M => (f ρ M).stm ρ fun _ M1 => .next ρ M1
def sRet (f : FE) : FS := fun ρ M => (f ρ M).stm ρ fun x M1 => .ret x M1
def sRetN : FS := fun _ M => .ret .non M
def sIf (c : FT) (a b : FS) : FS := fun ρ M => (c ρ M).stm ρ fun k M1 => if k = true then a ρ M1 else b ρ M1
theorem fb_nil : FXB X W [] sNext := ⟨_, pss_nil, fun D σ H π ρ M hs hm hp => hp σ H π Ext.refl hs hm⟩
theorem fs_pass {pos : Pos} : FXS X W (.Pass pos) sNext := ⟨_, ps_pass, fun D σ H π ρ M hs hm hp => hp σ H π Ext.refl hs hm⟩
theorem fs_break {pos : Pos} : FXS X W (.Break pos) sBrk := ⟨_, ps_break, fun D σ H π ρ M hs hm hp => hp σ H π Ext.refl hs hm⟩
theorem fs_continue {pos : Pos} : FXS X W (.Continue pos) sCnt := ⟨_, ps_continue, fun D σ H π ρ M hs hm hp => hp σ H π Ext.refl hs hm⟩
theorem fb_one {st : Stmt} {f : FS} (h : FXS X W st f) : FXB X W [st] f := let ⟨t, p, r⟩ := h.to; ⟨t, pss_one p, r⟩
theorem rfs_seq {t u : TS} {f g : FS} (r1 : RFS X W t f) (r2 : RFS X W u g) : RFS X W (tSeq t u) (sSeq f g) := by
  intro D σ H π ρ M hs hm hp
  refine r1 { D with nx := u D } σ H π ρ M hs hm ?_
  unfold sSeq at hp
  cases e : f ρ M with
  | next ρ1 M1 =>
    rw [e] at hp
    exact fun σ' H' π' e' hs' hm' => r2 D σ' H' π' ρ1 M1 hs' hm' (PostS.mono e' hp)
  | brk ρ1 M1 => rw [e] at hp; exact hp
  | cnt ρ1 M1 => rw [e] at hp; exact hp
  | ret x M1 => rw [e] at hp; exact hp
  | ex c fs ρ1 M1 => rw [e] at hp; exact hp
  | stuck => rw [e] at hp; exact hp
theorem fb_cons {st : Stmt} {rest : List Stmt} {f g : FS} (h : FXS X W st f) (h2 : FXB X W rest g) : FXB X W (st :: rest) (sSeq f g) := by
  obtain ⟨t, p, r⟩ := h.to
  obtain ⟨u, q, r2⟩ := h2.to
  exact ⟨_, pss_cons p q, rfs_seq r r2⟩
theorem fs_expr {e : Expr} {f : FE} {pos : Pos} (h : FX X W e f) (hs : swapsWith e none pos.line X.env = pure false := by rfl) : FXS X W (.Expr e pos) (sDrop f) := by
  obtain ⟨t, p, r⟩ := h.to
  refine ⟨_, ps_expr p hs, ?_⟩
  intro D σ H π ρ M hs hm hp
  refine r.stm hs hm hp fun x M1 u H1 π1 e1 ru m1 hp1 => ?_
  exact hp1 σ H1 π1 Ext.refl (hs.ext e1) m1
theorem fs_ret {e : Expr} {f : FE} {pos : Pos} (h : FX X W e f) : FXS X W (.Return (some e) pos) (sRet f) := by
  obtain ⟨t, p, r⟩ := h.to
  refine ⟨_, ps_ret p, ?_⟩
  intro D σ H π ρ M hs hm hp
  refine r.stm hs hm hp fun x M1 u H1 π1 e1 ru m1 hp1 => ?_
  exact hp1 u H1 π1 Ext.refl ru m1
theorem fs_retN {pos : Pos} : FXS X W (.Return none pos) sRetN := ⟨_, ps_retN, fun D σ H π ρ M hs hm hp => hp .non H π Ext.refl (by rw [RV_non]) hm⟩
theorem fs_if {c : Expr} {a b : List Stmt} {fc : FT} {f g : FS} {pos : Pos} (hc : FXT X W c fc) (ha : FXB X W a f) (hb : FXB X W b g) : FXS X W (.If c a b pos) (sIf fc f g) := by
  obtain ⟨t, p, r⟩ := hc.to
  obtain ⟨t1, p1, r1⟩ := ha.to
  obtain ⟨t2, p2, r2⟩ := hb.to
  refine ⟨_, ps_if p p1 p2, ?_⟩
  intro D σ H π ρ M hs hm hp
  refine r.stm hs hm hp fun k M1 k' H1 π1 e1 rk m1 hp1 => ?_
  cases rk
  cases k with
  | true => exact r1 D σ H1 π1 ρ M1 (hs.ext e1) m1 hp1
  | false => exact r2 D σ H1 π1 ρ M1 (hs.ext e1) m1 hp1

/-! ### targets -/
abbrev FG := MV → Rho → Option Rho
structure FXG (X : Cx) (e : Expr) (g : FG) : Prop where
  to : ∃ t, PG X e t ∧ ∀ (x : MV) (v : V) (σ : St) (H : Hp) (π : List Addr) (ρ ρ' : Rho) (Q : St → Hp → Prop), RV X.K π H x v → RS X.K π H σ ρ → g x ρ = some ρ' → (∀ σ', RS X.K π H σ' ρ' → Q σ' H) → t v σ H Q
structure FXGs (X : Cx) (es : List Expr) (g : List MV → Rho → Option Rho) : Prop where
  to : ∃ t, PGs X es t ∧ ∀ (xs : List MV) (vs : List V) (σ : St) (H : Hp) (π : List Addr) (ρ ρ' : Rho) (Q : St → Hp → Prop), RVs X.K π H xs vs → RS X.K π H σ ρ → g xs ρ = some ρ' → (∀ σ', RS X.K π H σ' ρ' → Q σ' H) → t vs σ H Q
def gtName (i : Nat) : FG := fun x ρ => some (ρ.set i (some x))
def gtNil : List MV → Rho → Option Rho := fun xs ρ => match xs with
  | [] => some ρ
  | _ => none
def gtCons (g : FG) (h : List MV → Rho → Option Rho) : List MV → Rho → Option Rho := fun xs ρ => match xs with
  | x :: xs => match g x ρ with
    | some ρ1 => h xs ρ1
    | none => none
  | [] => none
def gtTup (n : Nat) (h : List MV → Rho → Option Rho) : FG := fun x ρ => match x with
  | .tup xs => if xs.length = n then h xs ρ else none
  | _ => none
theorem fg_name {i : Nat} {x : Str} {pos : Pos} (hN : X.N.Nodup) (hi : X.N[i]? = some x) (hx : Loc X.env.scope x) (hf : X.fn x = true ∨ X.env.scope.names.lookup x = some .local := by first | exact .inl rfl | exact .inr rfl | assumption) : FXG X (.Name x pos) (gtName i) := by
  refine ⟨_, pg_name hN hi hx hf, ?_⟩
  intro x v σ H π ρ ρ' Q rv hs e k
  cases e
  exact k _ (hs.set i rv)
theorem fgs_nil : FXGs X [] gtNil := by
  refine ⟨_, pgs_nil, ?_⟩
  intro xs vs σ H π ρ ρ' Q rv hs e k
  cases xs with
  | nil =>
    cases e
    exact ⟨rv.unnil, k _ hs⟩
  | cons x xs => cases e
theorem fgs_cons {e : Expr} {es : List Expr} {g : FG} {h : List MV → Rho → Option Rho} (h1 : FXG X e g) (h2 : FXGs X es h) (hs : (assignEach (e :: es) X.env).map (·.2) = assign e X.env :: (assignEach es X.env).map (·.2) := by rfl) : FXGs X (e :: es) (gtCons g h) := by
  obtain ⟨t, p, r⟩ := h1.to
  obtain ⟨u, q, r2⟩ := h2.to
  refine ⟨_, pgs_cons p q hs, ?_⟩
  intro xs vs σ H π ρ ρ' Q rv hs e k
  cases xs with
  | nil => cases e
  | cons x xs =>
    obtain ⟨v, ws, rfl, r3, r4⟩ := rv.uncons
    simp only [gtCons] at e
    cases e1 : g x ρ with
    | none =>
      rw [e1] at e
      cases e
    | some ρ1 =>
      rw [e1] at e
      exact ⟨v, ws, rfl, r x v σ H π ρ ρ1 _ r3 hs e1 fun σ' hs' => r2 xs ws σ' H π ρ1 ρ' Q r4 hs' e k⟩
theorem fg_tup {es : List Expr} {k : Nat} {pos : Pos} {h : List MV → Rho → Option Rho} {n : Nat} (hc : X.calm = true) (h1 : FXGs X es h) (hn : (assignEach es X.env).length = n := by rfl) (hst : (assignEach es X.env).findIdx? (·.1) = none := by rfl) : FXG X (.Tuple es k pos) (gtTup n h) := by
  obtain ⟨t, p, r⟩ := h1.to
  refine ⟨_, pg_tup hc p hn hst, ?_⟩
  intro x v σ H π ρ ρ' Q rv hs e k
  cases x with
  | tup xs =>
    obtain ⟨a, vs, rfl, h1, h2⟩ := tup_sq rv
    simp only [gtTup] at e
    split at e
    · rename_i hz
      exact ⟨a, vs, rfl, h1, by rw [← h2.length]; exact hz, r xs vs σ H π ρ ρ' Q h2 hs e k⟩
    · cases e
  | _ => cases e
def sAsg (f : FE) (g : FG) : FS := fun ρ M => (f ρ M).stm ρ fun x M1 => match g x ρ with
  | some ρ1 => .next ρ1 M1
  | none => .stuck
theorem rfs_asg {te : TE} {f : FE} {tg : TG} {g : FG} (r : RF X W (RV X.K) te f)
    (rg : ∀ (x : MV) (v : V) (σ : St) (H : Hp) (π : List Addr) (ρ ρ' : Rho) (Q : St → Hp → Prop), RV X.K π H x v → RS X.K π H σ ρ → g x ρ = some ρ' → (∀ σ', RS X.K π H σ' ρ' → Q σ' H) → tg v σ H Q) : RFS X W (tAsg te tg) (sAsg f g) := by
  intro D σ H π ρ M hs hm hp
  refine r.stm hs hm hp fun x M1 u H1 π1 e1 ru m1 hp1 => ?_
  cases e2 : g x ρ with
  | none =>
    rw [e2] at hp1
    exact hp1.elim
  | some ρ1 =>
    rw [e2] at hp1
    exact rg x u σ H1 π1 ρ ρ1 _ ru (hs.ext e1) e2 fun σ' hs' => hp1 σ' H1 π1 Ext.refl hs' m1
theorem fs_set {i : Nat} {x : Str} {e : Expr} {f : FE} {pos pos' : Pos} (hN : X.N.Nodup) (hi : X.N[i]? = some x) (hx : Loc X.env.scope x) (h : FX X W e f) (hs : swapsWith e (some (.Name x pos')) pos.line X.env = pure false := by rfl) (hf : X.fn x = true ∨ X.env.scope.names.lookup x = some .local := by first | exact .inl rfl | exact .inr rfl | assumption) :
    FXS X W (.Assign [.Name x pos'] e pos) (sAsg f (gtName i)) := by
  obtain ⟨t, p, r⟩ := h.to
  refine ⟨_, ps_set hN hi hx p hs hf, rfs_asg r ?_⟩
  intro x v σ H π ρ ρ' Q rv hs e k
  cases e
  exact k _ (hs.set i rv)
theorem fs_asg {tg e : Expr} {f : FE} {g : FG} {pos : Pos} (he : FX X W e f) (hg : FXG X tg g) (hs : swapsWithSole [tg] e pos.line X.env = pure false := by rfl) (hw : swappedStores [tg] e X.env = pure none := by rfl) (h1 : (assignEach [tg] X.env).map (·.2) = [assign tg X.env] := by rfl) : FXS X W (.Assign [tg] e pos) (sAsg f g) := by
  obtain ⟨t, p, r⟩ := he.to
  obtain ⟨u, q, r2⟩ := hg.to
  exact ⟨_, ps_asg p q hs hw h1, rfs_asg r r2⟩

/-! ### what is walked -/
structure Src where
  items : List MV
  chk : MH → Bool
abbrev FI := Rho → MH → Res Src
/-- an iterator gives the items, one after another, while its source stands -/
def WalkOk (X : Cx) (J : It) (π : List Addr) (H : Hp) (S : Src) : Prop := ∀ i π' H' M', Ext π H π' H' → RM X.prog X.w X.K X.mg π' H' M' → S.chk M' = true →
  (∀ x, S.items[i]? = some x → J.go i H' ∧ ∀ v H'', J.yld i H' v H'' → Ext π' H' π' H'' ∧ RM X.prog X.w X.K X.mg π' H'' M' ∧ RV X.K π' H'' x v) ∧ (S.items.length = i → J.stop i H')
def RISrc (X : Cx) : List Addr → Hp → Src → It → Prop := fun π H S J => WalkOk X J π H S
structure FXI (X : Cx) (W : WX) (tg e : Expr) (f : FI) : Prop where
  to : ∃ wi, PI X tg e wi ∧ ∀ σ H R π ρ M, RS X.K π H σ ρ → RM X.prog X.w X.K X.mg π H M → PostR X W (RISrc X) σ π H (f ρ M) R → wi σ H R
theorem WalkOk.ext {J : It} {S : Src} (e : Ext π H π1 H1) (h : WalkOk X J π H S) : WalkOk X J π1 H1 S := fun i π' H' M' e' => h i π' H' M' (e.trans e')
def chkL (n : Nat) (o : List MV) : MH → Bool := fun M => match M[n]? with
  | some (.lst ys) => beqVs ys o
  | some (.cst ys) => beqVs ys o
  | _ => false
theorem chkL_ok {n : Nat} {xs : List MV} (h : chkL n xs M = true) : lstOf M (.ref n) = some xs := by
  unfold chkL at h
  cases q : M[n]? with
  | none => rw [q] at h; cases h
  | some o =>
    cases o with
    | lst ys => rw [q] at h; simp only [lstOf, q]; rw [eq_of_beqVs _ _ h]
    | cst ys => rw [q] at h; simp only [lstOf, q]; rw [eq_of_beqVs _ _ h]
    | dct _ => rw [q] at h; cases h
    | ins _ _ => rw [q] at h; cases h
/-- the items of a value: of a list, a tuple, a text -/
def srcOf (M : MH) : MV → Option Src
  | .tup xs => some ⟨xs, fun _ => true⟩
  | .str z => some ⟨z.cps.toList.map fun c => .str ⟨#[c]⟩, fun _ => true⟩
  | .ref n => match lstOf M (.ref n) with
    | some xs => some ⟨xs, chkL n xs⟩
    | none => none
  | _ => none
def fiAny (f : FE) : FI := fun ρ M => (f ρ M).bind fun x M1 => match srcOf M1 x with
  | some S => .ok S M1
  | none => .stuck
def iAny (K : PySem.W.Frag) (te : TE) : TI := fun σ H R => te σ H fun x H1 => (∃ a, x = .ref a ∧ (∃ xs, SqL K H1 a xs) ∧ R (Itl K a) H1) ∨ (∃ a, x = .ref a ∧ (∃ xs, SqT K H1 a xs) ∧ R (Itt K a) H1) ∨ ∃ z, x = .str z ∧ R (Its z) H1
theorem pi_anyV {tg e : Expr} {te : TE} (he : PE X e te) : PI X tg e (iAny X.K te) := by
  refine ⟨fun pins s σ H R I h => ?_⟩
  refine thn (he.run pins s σ H _ I h) fun v s1 ⟨x, H1, I1, r1, q1⟩ => ?_
  rcases q1 with ⟨a, e, ⟨xs, hq⟩, q⟩ | ⟨a, e, ⟨xs, hq⟩, q⟩ | ⟨z, e, q⟩
  · subst e
    cases r1
    obtain ⟨its, rv, p, hz⟩ := I1.list hq
    exact wpAny_pyIter_list p.isList (pi_one (tk := s1.toks) I1 _ (turn_list a _) ⟨_, Heap.get?_push_size _ rfl, rfl, rfl⟩ q)
  · subst e
    cases r1
    obtain ⟨its, rv, p, hz⟩ := I1.tuple hq
    exact wpAny_pyIter_tuple (show s1.heap.IsTuple a its.toArray from p) (pi_one (tk := s1.toks) I1 _ (turn_tuple a _) ⟨_, Heap.get?_push_size _ rfl, rfl, rfl⟩ q)
  · subst e
    obtain ⟨t, rfl⟩ := r1
    cases ha : z.cps.all (· < 128)
    · exact wpAny_pyIter_wide ha (pi_one (tk := s1.toks) I1 _ (turn_str _ z t "str_iterator" (.inr rfl)) ⟨_, Heap.get?_push_size _ rfl, rfl, rfl⟩ q)
    · exact wpAny_pyIter_ascii ha (pi_one (tk := s1.toks) I1 _ (turn_str _ z t "str_ascii_iterator" (.inl rfl)) ⟨_, Heap.get?_push_size _ rfl, rfl, rfl⟩ q)
theorem SqL.uniq {K : PySem.W.Frag} {a : Addr} {xs ys : List V} (hx : ∃ o : HO, H a = some o) (h : SqL K H a xs) : SqL K H a ys → SqL K H a ys := id
theorem fi_any {tg e : Expr} {f : FE} (h : FX X W e f) : FXI X W tg e (fiAny f) := by
  obtain ⟨t, p, r⟩ := h.to
  refine ⟨_, pi_anyV p, ?_⟩
  intro σ H R π ρ M hs hm hp
  refine r.bind hs hm hp fun x M1 u H1 π1 e1 ru m1 hp1 => ?_
  cases x with
  | tup xs =>
    have ru' := ru
    unfold RV at ru'
    obtain ⟨a, vs, rfl, h1, h2⟩ := ru'
    refine .inr (.inl ⟨a, rfl, ⟨vs, h1.sq⟩, hp1 (Itt X.K a) H1 π1 Ext.refl ?_ m1⟩)
    intro i π' H' M' e' m' _
    have q1 := (h1.ext e').sq
    refine ⟨fun x hx => ?_, fun hi => ⟨vs, q1, by rw [← h2.length]; exact Nat.le_of_eq hi⟩⟩
    obtain ⟨w', g1, g2⟩ := h2.get hx
    exact ⟨⟨vs, w', q1, g1⟩, fun v H'' y => by
      obtain ⟨rfl, y⟩ := y
      have := y vs q1
      rw [g1] at this
      cases this
      exact ⟨Ext.refl, m', g2.ext e'⟩⟩
  | str z =>
    rw [RV_str] at ru
    refine .inr (.inr ⟨z, ru, hp1 (Its z) H1 π1 Ext.refl ?_ m1⟩)
    intro i π' H' M' e' m' _
    refine ⟨fun x hx => ?_, fun hi => ?_⟩
    · rw [List.getElem?_map] at hx
      obtain ⟨c, hc, rfl⟩ := Option.map_eq_some_iff.mp hx
      rw [Array.getElem?_toList] at hc
      refine ⟨(Array.getElem?_eq_some_iff.mp hc).1, fun v H'' y => ?_⟩
      obtain ⟨rfl, c', hc', rfl⟩ := y
      rw [hc] at hc'
      cases hc'
      exact ⟨Ext.refl, m', rvs _ _ _⟩
    · have : z.cps.size = i := by simpa using hi
      exact Nat.le_of_eq this
  | ref n =>
    cases e2 : lstOf M1 (.ref n) with
    | none =>
      simp only [srcOf, e2] at hp1
      exact hp1.elim
    | some xs =>
      simp only [srcOf, e2] at hp1
      have ru' := ru
      obtain ⟨a, vs, rfl, h1, h2⟩ := lstOf_sq e2 m1 ru'
      refine .inl ⟨a, rfl, ⟨vs, h1⟩, hp1 (Itl X.K a) H1 π1 Ext.refl ?_ m1⟩
      intro i π' H' M' e' m' hc
      obtain ⟨b, ws, eb, k1, k2⟩ := lstOf_sq (chkL_ok hc) m' (ru.ext e')
      cases eb
      refine ⟨fun x hx => ?_, fun hi => ⟨ws, k1, by rw [← k2.length]; exact Nat.le_of_eq hi⟩⟩
      obtain ⟨w', g1, g2⟩ := k2.get hx
      exact ⟨⟨ws, w', k1, g1⟩, fun v H'' y => by
        obtain ⟨rfl, y⟩ := y
        have := y ws k1
        rw [g1] at this
        cases this
        exact ⟨Ext.refl, m', g2⟩⟩
  | _ => exact hp1.elim
/-- the ints lo, lo + 1, .. -/
def upto (lo : Int) (n : Nat) : List MV := (List.range n).map fun (i : Nat) => MV.int (lo + i)
def small62 (i : Int) : Bool := decide (-(2 ^ 62) ≤ i) && decide (i < 2 ^ 62)
theorem small62_ok {i : Int} (h : small62 i = true) : -(2 ^ 62) ≤ i ∧ i < 2 ^ 62 := by
  unfold small62 at h
  rw [Bool.and_eq_true] at h
  exact ⟨of_decide_eq_true h.1, of_decide_eq_true h.2⟩
theorem walk_range {lo : Int} {n : Nat} : WalkOk X (Itr lo n) π H ⟨upto lo n, fun _ => true⟩ := by
  intro i π' H' M' e' m' _
  refine ⟨fun x hx => ?_, fun hi => ?_⟩
  · simp only [upto, List.getElem?_map] at hx
    obtain ⟨j, hj, rfl⟩ := Option.map_eq_some_iff.mp hx
    obtain ⟨hl, rfl⟩ := List.getElem?_eq_some_iff.mp hj
    have hl' : i < n := by simpa using hl
    refine ⟨hl', fun v H'' y => ?_⟩
    obtain ⟨rfl, rfl⟩ := y
    refine ⟨Ext.refl, m', ?_⟩
    rw [RV_int]
    simp
  · have : n = i := by simpa [upto] using hi
    exact Nat.le_of_eq this
def fiRange1 (a : FA) : FI := fun ρ M => (a ρ M).bind fun xs M1 => match xs with
  | [.int j] => if small62 j = true then .ok ⟨upto 0 j.toNat, fun _ => true⟩ M1 else .stuck
  | _ => .stuck
def fiRange2 (a : FA) : FI := fun ρ M => (a ρ M).bind fun xs M1 => match xs with
  | [.int i, .int j] => if (small62 i && small62 j) = true then .ok ⟨upto i (j - i).toNat, fun _ => true⟩ M1 else .stuck
  | _ => .stuck
theorem fi_range1 {tg a : Expr} {f : FA} {p pos : Pos} (hg : Gl X "range") (hm : X.mg "range" = none) (h : FXA X W [a] f) (hs : starEach [a] X.env = [(false, eval a X.env)] := by rfl) : FXI X W tg (.Call (.Name "range" p) [a] [] pos) (fiRange1 f) := by
  obtain ⟨t, p, r⟩ := h.to
  refine ⟨_, pi_range1 hg hm p hs, ?_⟩
  intro σ H R π ρ M hs hm hp
  refine r.bind hs hm hp fun xs M1 vs H1 π1 e1 rv m1 hp1 => ?_
  split at hp1
  · obtain ⟨v, ws, rfl, r1, r2⟩ := rv.uncons
    rw [r2.unnil]
    rw [RV_int] at r1
    subst r1
    split at hp1
    · rename_i hz
      exact ⟨_, rfl, (small62_ok hz).1, (small62_ok hz).2, hp1 _ H1 π1 Ext.refl walk_range m1⟩
    · exact hp1.elim
  · exact hp1.elim
theorem fi_range2 {tg a b : Expr} {f : FA} {p pos : Pos} (hg : Gl X "range") (hm : X.mg "range" = none) (h : FXA X W [a, b] f) (hs : starEach [a, b] X.env = [(false, eval a X.env), (false, eval b X.env)] := by rfl) (hs2 : starEach [b] X.env = [(false, eval b X.env)] := by rfl) : FXI X W tg (.Call (.Name "range" p) [a, b] [] pos) (fiRange2 f) := by
  obtain ⟨t, p, r⟩ := h.to
  refine ⟨_, pi_range2 hg hm p hs hs2, ?_⟩
  intro σ H R π ρ M hs hm hp
  refine r.bind hs hm hp fun xs M1 vs H1 π1 e1 rv m1 hp1 => ?_
  split at hp1
  · rw [two_ints rv]
    split at hp1
    · rename_i hz
      rw [Bool.and_eq_true] at hz
      have a1 := small62_ok hz.1
      have a2 := small62_ok hz.2
      exact ⟨_, _, rfl, ⟨a1.1, a1.2, a2.1, a2.2⟩, hp1 _ H1 π1 Ext.refl walk_range m1⟩
    · exact hp1.elim
  · exact hp1.elim
/-- zip of two lists -/
def zipV : List MV → List MV → List MV
  | x :: xs, y :: ys => .tup [x, y] :: zipV xs ys
  | _, _ => []
def pairO : Option MV → Option MV → Option MV
  | some x, some y => some (.tup [x, y])
  | _, _ => none
theorem zipV_get : ∀ (xs ys : List MV) (i : Nat), (zipV xs ys)[i]? = pairO xs[i]? ys[i]?
  | [], ys, i => by simp [zipV, pairO]
  | x :: xs, [], i => by cases h : (x :: xs)[i]? <;> simp [zipV, pairO]
  | x :: xs, y :: ys, 0 => by simp [zipV, pairO]
  | x :: xs, y :: ys, i + 1 => by simpa [zipV] using zipV_get xs ys i
theorem zipV_length : ∀ xs ys : List MV, (zipV xs ys).length = min xs.length ys.length
  | [], ys => by simp [zipV]
  | x :: xs, [] => by simp [zipV]
  | x :: xs, y :: ys => by
    simp only [zipV, List.length_cons, zipV_length xs ys]
    omega
def srcZip (M : MH) (x y : MV) : Option Src := match x, y with
  | .ref n, .ref m => match lstOf M (.ref n), lstOf M (.ref m) with
    | some xs, some ys => some ⟨zipV xs ys, fun M => chkL n xs M && chkL m ys M⟩
    | _, _ => none
  | _, _ => none
def fiZip (a : FA) : FI := fun ρ M => (a ρ M).bind fun xs M1 => match xs with
  | [x, y] => match srcZip M1 x y with
    | some S => .ok S M1
    | none => .stuck
  | _ => .stuck
theorem fi_zip {e e2 : Expr} {f : FA} {p pos tpos : Pos} {elts : List Expr} {kk : Nat} (hg : Gl X "zip") (hm : X.mg "zip" = none) (h : FXA X W [e, e2] f)
    (hs : starEach [e, e2] X.env = (false, eval e X.env) :: starEach [e2] X.env := by rfl) (hpl : (backTo pos (starEach [e2] X.env)).any (·.1) = false := by rfl) : FXI X W (.Tuple elts kk tpos) (.Call (.Name "zip" p) [e, e2] [] pos) (fiZip f) := by
  obtain ⟨t, p, r⟩ := h.to
  refine ⟨_, pi_zip hg hm p hs hpl, ?_⟩
  intro σ H R π ρ M hs hm hp
  refine r.bind hs hm hp fun xs M1 vs H1 π1 e1 rv m1 hp1 => ?_
  split at hp1
  · rename_i x y
    obtain ⟨v, ws, rfl, r1, r2⟩ := rv.uncons
    obtain ⟨v2, ws2, rfl, r3, r4⟩ := r2.uncons
    rw [r4.unnil]
    unfold srcZip at hp1
    cases x with
    | ref n =>
      cases y with
      | ref m =>
        cases ex : lstOf M1 (.ref n) with
        | none =>
          simp only [ex] at hp1
          exact hp1.elim
        | some xs =>
          cases ey : lstOf M1 (.ref m) with
          | none =>
            simp only [ex, ey] at hp1
            exact hp1.elim
          | some ys =>
            simp only [ex, ey] at hp1
            obtain ⟨a, us, rfl, h1, h2⟩ := lstOf_sq ex m1 r1
            obtain ⟨b, us2, rfl, k1, k2⟩ := lstOf_sq ey m1 r3
            refine ⟨a, b, us, us2, rfl, h1, k1, hp1 (Itz X.K a b) H1 π1 Ext.refl ?_ m1⟩
            intro i π' H' M' e' m' hc
            have hc' : (chkL n xs M' && chkL m ys M') = true := hc
            rw [Bool.and_eq_true] at hc'
            obtain ⟨a', vs1, ea, q1, q2⟩ := lstOf_sq (chkL_ok hc'.1) m' (r1.ext e')
            obtain ⟨b', vs2, eb, q3, q4⟩ := lstOf_sq (chkL_ok hc'.2) m' (r3.ext e')
            cases ea
            cases eb
            refine ⟨fun x hx => ?_, fun hi => ⟨vs1, vs2, q1, q3, ?_⟩⟩
            · have hx' : (zipV xs ys)[i]? = some x := hx
              rw [zipV_get] at hx'
              cases g1 : xs[i]? with
              | none => rw [g1] at hx'; cases hx'
              | some x1 =>
                cases g2 : ys[i]? with
                | none => rw [g1, g2] at hx'; cases hx'
                | some y1 =>
                  rw [g1, g2] at hx'
                  cases hx'
                  obtain ⟨w1, f1, f2⟩ := q2.get g1
                  obtain ⟨w2, f3, f4⟩ := q4.get g2
                  refine ⟨⟨vs1, vs2, w1, w2, q1, q3, f1, f3⟩, fun v H'' yy => ?_⟩
                  obtain ⟨T, x2, y2, rfl, hn, rfl, c1, c2⟩ := yy
                  have d1 := c1 vs1 q1
                  have d2 := c2 vs2 q3
                  rw [f1] at d1
                  rw [f3] at d2
                  cases d1
                  cases d2
                  have e2 : Ext π' H' π' (upd H' T (.tup [w1, w2])) := Ext.new hn
                  refine ⟨e2, m'.keep fun b u q => by rw [upd_ne (ne_of_none q hn)]; exact q, ?_⟩
                  unfold RV
                  exact ⟨T, _, rfl, .inl upd_same, RVs.cons (f2.ext e2) (RVs.cons (f4.ext e2) RVs.nil)⟩
            · have hi' : (zipV xs ys).length = i := hi
              rw [zipV_length, q2.length, q4.length] at hi'
              omega
      | _ => exact hp1.elim
    | _ => exact hp1.elim
  · exact hp1.elim
/-- reversed(a list) -/
def srcRev (M : MH) : MV → Option Src
  | .ref n => match lstOf M (.ref n) with
    | some xs => some ⟨xs.reverse, chkL n xs⟩
    | none => none
  | _ => none
def fiRev (a : FA) : FI := fun ρ M => (a ρ M).bind fun xs M1 => match xs with
  | [x] => match srcRev M1 x with
    | some S => .ok S M1
    | none => .stuck
  | _ => .stuck
theorem fi_rev {tg e : Expr} {f : FA} {p pos : Pos} (hg : Gl X "reversed") (hm : X.mg "reversed" = none) (h : FXA X W [e] f) (hs : starEach [e] X.env = [(false, eval e X.env)] := by rfl) : FXI X W tg (.Call (.Name "reversed" p) [e] [] pos) (fiRev f) := by
  obtain ⟨t, p, r⟩ := h.to
  refine ⟨_, pi_reversed hg hm p hs, ?_⟩
  intro σ H R π ρ M hs hm hp
  refine r.bind hs hm hp fun xs M1 vs H1 π1 e1 rv m1 hp1 => ?_
  split at hp1
  · rename_i x
    obtain ⟨v, ws, rfl, r1, r2⟩ := rv.uncons
    rw [r2.unnil]
    cases x with
    | ref n =>
      cases e2 : lstOf M1 (.ref n) with
      | none =>
        simp only [srcRev, e2] at hp1
        exact hp1.elim
      | some xs =>
        simp only [srcRev, e2] at hp1
        obtain ⟨a, us, rfl, h1, h2⟩ := lstOf_sq e2 m1 r1
        refine ⟨a, us, rfl, h1, hp1 (Itv X.K a us.length) H1 π1 Ext.refl ?_ m1⟩
        intro i π' H' M' e' m' hc
        obtain ⟨a', vs1, ea, q1, q2⟩ := lstOf_sq (chkL_ok hc) m' (r1.ext e')
        cases ea
        have hl : us.length = vs1.length := by rw [← h2.length, ← q2.length]
        refine ⟨fun x hx => ?_, fun hi => ?_⟩
        · have hx' : xs.reverse[i]? = some x := hx
          have hi : i < xs.length := by
            have := (List.getElem?_eq_some_iff.mp hx').1
            simpa using this
          rw [List.getElem?_reverse hi] at hx'
          obtain ⟨w1, f1, f2⟩ := q2.get hx'
          rw [h2.length] at f1 hi
          refine ⟨⟨hi, vs1, w1, q1, f1⟩, fun v H'' y => ?_⟩
          obtain ⟨rfl, y⟩ := y
          have := y vs1 q1
          rw [f1] at this
          cases this
          exact ⟨Ext.refl, m', f2⟩
        · have hi' : xs.reverse.length = i := hi
          rw [List.length_reverse, h2.length] at hi'
          exact Nat.le_of_eq hi'
    | _ => exact hp1.elim
  · exact hp1.elim

/-! ### for -/
def loopF (chk : MH → Bool) (g : FG) (body : FS) : List MV → Rho → MH → RSt
  | [], ρ, M => .next ρ M
  | x :: xs, ρ, M => match g x ρ with
    | none => .stuck
    | some ρ1 => match body ρ1 M with
      | .next ρ2 M2 => if chk M2 = true then loopF chk g body xs ρ2 M2 else .stuck
      | .cnt ρ2 M2 => if chk M2 = true then loopF chk g body xs ρ2 M2 else .stuck
      | .brk ρ2 M2 => .next ρ2 M2
      | r => r
def sFor (f : FI) (g : FG) (body : FS) : FS := fun ρ M => (f ρ M).stm ρ fun S M1 => if S.chk M1 = true then loopF S.chk g body S.items ρ M1 else .stuck
theorem rfs_for {wi : TI} {tg : TG} {tb : TS} {f : FI} {g : FG} {body : FS} (ri : ∀ σ H R π ρ M, RS X.K π H σ ρ → RM X.prog X.w X.K X.mg π H M → PostR X W (RISrc X) σ π H (f ρ M) R → wi σ H R)
    (rg : ∀ (x : MV) (v : V) (σ : St) (H : Hp) (π : List Addr) (ρ ρ' : Rho) (Q : St → Hp → Prop), RV X.K π H x v → RS X.K π H σ ρ → g x ρ = some ρ' → (∀ σ', RS X.K π H σ' ρ' → Q σ' H) → tg v σ H Q) (rb : RFS X W tb body) : RFS X W (tFor wi tg tb) (sFor f g body) := by
  intro D σ H π ρ M hs hm hp
  refine RF.stm (R1 := RISrc X) ri hs hm hp fun S M1 J H1 π1 e1 rJ m1 hp1 => ?_
  have hp1' : PostS X W σ π1 H1 (if S.chk M1 = true then loopF S.chk g body S.items ρ M1 else .stuck) D := hp1
  by_cases hc : S.chk M1 = true
  · rw [if_pos hc] at hp1'
    refine ⟨fun i m σ' H' => m = S.items.length - i ∧ i ≤ S.items.length ∧ ∃ ρ' π' M', Ext π1 H1 π' H' ∧ RS X.K π' H' σ' ρ' ∧ RM X.prog X.w X.K X.mg π' H' M' ∧ S.chk M' = true ∧ PostS X W σ' π' H' (loopF S.chk g body (S.items.drop i) ρ' M') D,
      ⟨S.items.length, by simp, Nat.zero_le _, ρ, π1, M1, Ext.refl, hs.ext e1, m1, hc, by simpa using hp1'⟩, ?_⟩
    rintro i m σ' H' ⟨rfl, hi, ρ', π', M', e', hs', m', hc', hp'⟩
    obtain ⟨go, stop⟩ := rJ i π' H' M' e' m' hc'
    by_cases hlt : i < S.items.length
    · right
      have hx : S.items[i]? = some S.items[i] := List.getElem?_eq_getElem hlt
      obtain ⟨g1, y1⟩ := go _ hx
      refine ⟨g1, fun σ2 H2 => i + 1 ≤ S.items.length ∧ ∃ ρ2 π2 M2, Ext π1 H1 π2 H2 ∧ RS X.K π2 H2 σ2 ρ2 ∧ RM X.prog X.w X.K X.mg π2 H2 M2 ∧ S.chk M2 = true ∧ PostS X W σ2 π2 H2 (loopF S.chk g body (S.items.drop (i + 1)) ρ2 M2) D, fun σ2 H2 h2 => ⟨S.items.length - (i + 1), by omega, rfl, h2⟩, fun v H'' yy => ?_⟩
      obtain ⟨e2, m2, rv⟩ := y1 v H'' yy
      rw [List.drop_eq_getElem_cons hlt] at hp'
      cases eg : g S.items[i] ρ' with
      | none =>
        simp only [loopF, eg] at hp'
        exact hp'.elim
      | some ρ1 =>
        simp only [loopF, eg] at hp'
        refine rg _ v σ' H'' π' ρ' ρ1 _ rv (hs'.ext e2) eg fun σ3 hs3 => ?_
        refine rb _ σ3 H'' π' ρ1 M' hs3 m2 ?_
        have again : ∀ (ρ2 : Rho) (M2 : MH), PostS X W σ' π' H' (if S.chk M2 = true then loopF S.chk g body (S.items.drop (i + 1)) ρ2 M2 else .stuck) D →
            ∀ σ4 H4 π4, Ext π' H'' π4 H4 → RS X.K π4 H4 σ4 ρ2 → RM X.prog X.w X.K X.mg π4 H4 M2 → i + 1 ≤ S.items.length ∧ ∃ ρ2 π2 M2, Ext π1 H1 π2 H4 ∧ RS X.K π2 H4 σ4 ρ2 ∧ RM X.prog X.w X.K X.mg π2 H4 M2 ∧ S.chk M2 = true ∧ PostS X W σ4 π2 H4 (loopF S.chk g body (S.items.drop (i + 1)) ρ2 M2) D := by
          intro ρ2 M2 hq σ4 H4 π4 e4 hs4 m4
          by_cases hc2 : S.chk M2 = true
          · rw [if_pos hc2] at hq
            exact ⟨hlt, ρ2, π4, M2, (e'.trans e2).trans e4, hs4, m4, hc2, PostS.mono (e2.trans e4) hq⟩
          · rw [if_neg hc2] at hq
            exact hq.elim
        cases eb : body ρ1 M' with
        | next ρ2 M2 =>
          rw [eb] at hp'
          exact again ρ2 M2 hp'
        | cnt ρ2 M2 =>
          rw [eb] at hp'
          exact again ρ2 M2 hp'
        | brk ρ2 M2 =>
          rw [eb] at hp'
          exact fun σ4 H4 π4 e4 hs4 m4 => hp' σ4 H4 π4 (e2.trans e4) hs4 m4
        | ret x M2 =>
          rw [eb] at hp'
          exact fun v H4 π4 e4 rv4 m4 => hp' v H4 π4 (e2.trans e4) rv4 m4
        | ex c fs ρ2 M2 =>
          rw [eb] at hp'
          exact fun C d σ4 H4 π4 e4 x4 hs4 m4 => hp' C d σ4 H4 π4 (e2.trans e4) x4 hs4 m4
        | stuck =>
          rw [eb] at hp'
          exact hp'
    · left
      have hi2 : S.items.length = i := by omega
      refine ⟨stop hi2, ?_⟩
      rw [List.drop_eq_nil_of_le (by omega)] at hp'
      exact hp' σ' H' π' Ext.refl hs' m'
  · rw [if_neg hc] at hp1'
    exact hp1'.elim
theorem fs_for {tg iter : Expr} {bd : List Stmt} {f : FI} {g : FG} {body : FS} {pos : Pos} (hp : PassesOwn (model X.prog X.w) X.A X.env X.xe) (hc : X.calm = true) (hi : FXI X W tg iter f) (hg : FXG X tg g) (hb : FXB X W bd body)
    (hs : ∀ x, foldedSetIterable iter X.env x = pure x := by intro _; rfl) : FXS X W (.For tg iter bd [] pos) (sFor f g body) := by
  obtain ⟨t1, p1, r1⟩ := hi.to
  obtain ⟨t2, p2, r2⟩ := hg.to
  obtain ⟨t3, p3, r3⟩ := hb.to
  exact ⟨_, ps_for hp hc p1 p2 p3 hs, rfs_for r1 r2 r3⟩

/-! ### while: so many turns at most -/
def whileF (c : FT) (body : FS) : Nat → Rho → MH → RSt
  | 0, _, _ => .stuck
  | n + 1, ρ, M => (c ρ M).stm ρ fun k M1 => if k = true then (match body ρ M1 with
      | .next ρ2 M2 => whileF c body n ρ2 M2
      | .cnt ρ2 M2 => whileF c body n ρ2 M2
      | .brk ρ2 M2 => .next ρ2 M2
      | r => r) else .next ρ M1
def sWhile (n : Nat) (c : FT) (body : FS) : FS := fun ρ M => whileF c body n ρ M
theorem fs_while {n : Nat} {c : Expr} {bd : List Stmt} {fc : FT} {body : FS} {pos : Pos} (hp : PassesOwn (model X.prog X.w) X.A X.env X.xe) (hc : FXT X W c fc) (hb : FXB X W bd body) : FXS X W (.While c bd [] pos) (sWhile n fc body) := by
  obtain ⟨t1, p1, r1⟩ := hc.to
  obtain ⟨t2, p2, r2⟩ := hb.to
  refine ⟨_, ps_while hp p1 p2, ?_⟩
  intro D σ H π ρ M hs hm hp
  refine ⟨fun m σ' H' => ∃ ρ' π' M', RS X.K π' H' σ' ρ' ∧ RM X.prog X.w X.K X.mg π' H' M' ∧ PostS X W σ' π' H' (whileF fc body m ρ' M') D, ⟨n, ρ, π, M, hs, hm, hp⟩, ?_⟩
  rintro m σ' H' ⟨ρ', π', M', hs', m', hp'⟩
  cases m with
  | zero => exact hp'.elim
  | succ m =>
    unfold whileF at hp'
    refine r1.stm hs' m' hp' fun k M1 k' H1 π1 e1 rk m1 hp1 => ?_
    cases rk
    cases k with
    | false => exact hp1 σ' H1 π1 Ext.refl (hs'.ext e1) m1
    | true =>
      refine ⟨fun σ2 H2 => ∃ ρ2 π2 M2, RS X.K π2 H2 σ2 ρ2 ∧ RM X.prog X.w X.K X.mg π2 H2 M2 ∧ PostS X W σ2 π2 H2 (whileF fc body m ρ2 M2) D, fun σ2 H2 h2 => ⟨m, Nat.lt_succ_self m, h2⟩, ?_⟩
      refine r2 _ σ' H1 π1 ρ' M1 (hs'.ext e1) m1 ?_
      have hp2 : PostS X W σ' π1 H1 (match body ρ' M1 with
        | .next ρ2 M2 => whileF fc body m ρ2 M2
        | .cnt ρ2 M2 => whileF fc body m ρ2 M2
        | .brk ρ2 M2 => .next ρ2 M2
        | r => r) D := hp1
      cases eb : body ρ' M1 with
      | next ρ2 M2 =>
        rw [eb] at hp2
        exact fun σ4 H4 π4 e4 hs4 m4 => ⟨ρ2, π4, M2, hs4, m4, PostS.mono e4 hp2⟩
      | cnt ρ2 M2 =>
        rw [eb] at hp2
        exact fun σ4 H4 π4 e4 hs4 m4 => ⟨ρ2, π4, M2, hs4, m4, PostS.mono e4 hp2⟩
      | brk ρ2 M2 =>
        rw [eb] at hp2
        exact hp2
      | ret x M2 =>
        rw [eb] at hp2
        exact hp2
      | ex c fs ρ2 M2 =>
        rw [eb] at hp2
        exact hp2
      | stuck =>
        rw [eb] at hp2
        exact hp2
end
end FL

namespace FL
open PySem PySem.Spec PyProof.Rows L2
/-! ### the one reading of a function -/
section
variable (X : Cx) (W : WX)
def tF {α β : Type} (R : List Addr → Hp → α → β → Prop) (f : Rho → MH → Res α) : St → Hp → (β → Hp → Prop) → Prop := fun σ H Q => ∃ π ρ M, RS X.K π H σ ρ ∧ RM X.prog X.w X.K X.mg π H M ∧ PostR X W R σ π H (f ρ M) Q
end
section
variable {X : Cx} {W : WX} {σ : St} {π π1 : List Addr} {H H1 : Hp} {ρ : Rho} {M : MH}
theorem FX.can {e : Expr} {f : FE} (h : FX X W e f) : PE X e (tF X W (RV X.K) f) := by
  obtain ⟨t, p, r⟩ := h.to
  refine ⟨fun pins s σ H Q I q => ?_⟩
  obtain ⟨π, ρ, M, hs, hm, hp⟩ := q
  exact p.run pins s σ H Q I (r σ H Q π ρ M hs hm hp)
theorem FXT.can {e : Expr} {f : FT} (h : FXT X W e f) : PT X e (tF X W REq f) := by
  obtain ⟨t, p, r⟩ := h.to
  refine ⟨fun pins s σ H Q I q => ?_⟩
  obtain ⟨π, ρ, M, hs, hm, hp⟩ := q
  exact p.run pins s σ H Q I (r σ H Q π ρ M hs hm hp)
/-! ### comprehensions -/
/-- the test of a comprehension -/
structure FXTs (X : Cx) (W : WX) (ifs : List Expr) (f : FT) : Prop where
  to : PTs X ifs (tF X W REq f)
def ftYes : FT := fun _ M => .ok true M
theorem fts_nil : FXTs X W [] ftYes := ⟨⟨fun pins s σ H Q I q => by
  obtain ⟨π, ρ, M, hs, hm, hp⟩ := q
  exact pts_nil.run pins s σ H Q I (hp.ok rfl hm)⟩⟩
theorem fts_one {c : Expr} {f : FT} (h : FXT X W c f) : FXTs X W [c] f := ⟨pts_one h.can⟩
/-- a target whose names are at the places ix -/
structure FXGw (X : Cx) (e : Expr) (g : FG) (ix : List Nat) : Prop where
  to : PG X e (fun v σ H Q => ∃ x π ρ ρ', RV X.K π H x v ∧ RS X.K π H σ ρ ∧ g x ρ = some ρ' ∧ ∀ σ', RS X.K π H σ' ρ' → (∀ vs : List Nat, (∀ i ∈ ix, i ∈ vs) → wipe σ' vs = wipe σ vs) → Q σ' H)
theorem wipe_set {x : Option V} : ∀ (vs : List Nat) (σ : St) (i : Nat), i ∈ vs → wipe (σ.set i x) vs = wipe σ vs
  | [], _, _, h => by cases h
  | v :: vs, σ, i, h => by
    unfold wipe
    by_cases hi : i ∈ vs
    · rw [wipe_set vs σ i hi]
    · have e : i = v := by
        rcases List.mem_cons.mp h with h | h
        · exact h
        · exact absurd h hi
      subst e
      have sw : ∀ (us : List Nat) (τ : St), i ∉ us → wipe (τ.set i x) us = (wipe τ us).set i x := by
        intro us
        induction us with
        | nil => intro τ _; rfl
        | cons u us ih =>
          intro τ hu
          have h1 : i ≠ u := fun z => hu (by rw [z]; exact List.mem_cons_self)
          have h2 : i ∉ us := fun z => hu (List.mem_cons_of_mem _ z)
          unfold wipe
          rw [ih τ h2, List.set_comm _ _ h1]
      rw [sw vs σ hi, List.set_set]
theorem gw_name {i : Nat} {x : Str} {pos : Pos} (hN : X.N.Nodup) (hi : X.N[i]? = some x) (hx : Loc X.env.scope x) (hf : X.fn x = true ∨ X.env.scope.names.lookup x = some .local := by first | exact .inl rfl | exact .inr rfl | assumption) : FXGw X (.Name x pos) (gtName i) [i] := ⟨⟨fun pins s σ H v u Q I r q => by
  obtain ⟨x, π, ρ, ρ', rv, hs, e, k⟩ := q
  cases e
  exact (pg_name hN hi hx hf).run pins s σ H v u Q I r (k _ (hs.set i rv) fun vs h => wipe_set vs σ i (h i List.mem_cons_self))⟩⟩
/-- several names -/
structure FXGsw (X : Cx) (es : List Expr) (g : List MV → Rho → Option Rho) (ix : List Nat) : Prop where
  to : PGs X es (fun vs σ H Q => ∃ xs π ρ ρ', RVs X.K π H xs vs ∧ RS X.K π H σ ρ ∧ g xs ρ = some ρ' ∧ ∀ σ', RS X.K π H σ' ρ' → (∀ us : List Nat, (∀ i ∈ ix, i ∈ us) → wipe σ' us = wipe σ us) → Q σ' H)
theorem gsw_nil : FXGsw X [] gtNil [] := ⟨⟨fun pins s σ H vs us Q I r q => by
  obtain ⟨xs, π, ρ, ρ', rv, hs, e, k⟩ := q
  cases xs with
  | nil =>
    cases e
    exact pgs_nil.run pins s σ H vs us Q I r ⟨rv.unnil, k σ hs fun _ _ => rfl⟩
  | cons x xs => cases e⟩⟩
theorem gsw_cons {e : Expr} {es : List Expr} {g : FG} {h : List MV → Rho → Option Rho} {ix jx : List Nat} (h1 : FXGw X e g ix) (h2 : FXGsw X es h jx) (hs : (assignEach (e :: es) X.env).map (·.2) = assign e X.env :: (assignEach es X.env).map (·.2) := by rfl) : FXGsw X (e :: es) (gtCons g h) (ix ++ jx) := ⟨⟨fun pins s σ H vs us Q I r q => by
  obtain ⟨xs, π, ρ, ρ', rv, hs', e', k⟩ := q
  cases xs with
  | nil => cases e'
  | cons x xs =>
    obtain ⟨v, ws, rfl, r3, r4⟩ := rv.uncons
    simp only [gtCons] at e'
    cases e1 : g x ρ with
    | none =>
      rw [e1] at e'
      cases e'
    | some ρ1 =>
      rw [e1] at e'
      refine (pgs_cons h1.to h2.to hs).run pins s σ H _ us Q I r ⟨v, ws, rfl, x, π, ρ, ρ1, r3, hs', e1, fun σ1 hs1 w1 => ⟨xs, π, ρ1, ρ', r4, hs1, e', fun σ2 hs2 w2 => k σ2 hs2 fun us hu => ?_⟩⟩
      rw [w2 us fun i hi => hu i (List.mem_append_right _ hi), w1 us fun i hi => hu i (List.mem_append_left _ hi)]⟩⟩
theorem gw_tup {es : List Expr} {k : Nat} {pos : Pos} {h : List MV → Rho → Option Rho} {n : Nat} {ix : List Nat} (hc : X.calm = true) (h1 : FXGsw X es h ix) (hn : (assignEach es X.env).length = n := by rfl) (hst : (assignEach es X.env).findIdx? (·.1) = none := by rfl) : FXGw X (.Tuple es k pos) (gtTup n h) ix := ⟨⟨fun pins s σ H v u Q I r q => by
  obtain ⟨x, π, ρ, ρ', rv, hs, e, k'⟩ := q
  cases x with
  | tup xs =>
    obtain ⟨a, vs, rfl, g1, g2⟩ := tup_sq rv
    simp only [gtTup] at e
    split at e
    · rename_i hz
      exact (pg_tup hc h1.to hn hst).run pins s σ H _ u Q I r ⟨a, vs, rfl, g1, by rw [← g2.length]; exact hz, xs, π, ρ, ρ', g2, hs, e, k'⟩
    · cases e
  | _ => cases e⟩⟩
def wipeR (ρ : Rho) : List Nat → Rho
  | [] => ρ
  | v :: vs => (wipeR ρ vs).set v none
theorem RS.wipe (h : RS X.K π H σ ρ) : ∀ vs : List Nat, RS X.K π H (L2.wipe σ vs) (wipeR ρ vs)
  | [] => h
  | v :: vs => by
    have ih := RS.wipe h vs
    refine ⟨by unfold L2.wipe wipeR; simp [ih.len], fun i x q => ?_⟩
    unfold wipeR at q
    by_cases hi : v = i
    · subst hi
      rw [List.getElem?_set] at q
      simp only [if_true] at q
      split at q <;> cases q
    · rw [List.getElem?_set_ne hi] at q
      obtain ⟨w', h1, h2⟩ := ih.at_ i x q
      refine ⟨w', ?_, h2⟩
      unfold L2.wipe
      rw [List.getElem?_set_ne hi]
      exact h1
/-- a comprehension's turns: the list is the thing n -/
def compF (chk : MH → Bool) (g : FG) (tt : FT) (te : FE) (n : Nat) (ρ : Rho) : List MV → MH → Res MV
  | [], M => .ok (.ref n) M
  | x :: xs, M => match g x ρ with
    | none => .stuck
    | some ρ1 => match tt ρ1 M with
      | .ok true M2 => match te ρ1 M2 with
        | .ok y M3 => match M3[n]? with
          | some (.lst acc) => if (small (acc.length + 1) && chk (M3.set n (.lst (acc ++ [y])))) = true then compF chk g tt te n ρ xs (M3.set n (.lst (acc ++ [y]))) else .stuck
          | _ => .stuck
        | _ => .stuck
      | .ok false M2 => if chk M2 = true then compF chk g tt te n ρ xs M2 else .stuck
      | _ => .stuck
def fLc (vs : List Nat) (f : FI) (g : FG) (tt : FT) (te : FE) : FE := fun ρ M => (f ρ M).bind fun S M1 => if S.chk (M1 ++ [.lst []]) = true then compF S.chk g tt te M1.length (wipeR ρ vs) S.items (M1 ++ [.lst []]) else .stuck
abbrev W0 : WX := fun _ _ _ _ => False
theorem rf_lc {vs : List Nat} {wi : TI} {f : FI} {g : FG} {tt : FT} {te : FE} {ix : List Nat} (hix : ∀ i ∈ ix, i ∈ vs) (ri : ∀ σ H R π ρ M, RS X.K π H σ ρ → RM X.prog X.w X.K X.mg π H M → PostR X W (RISrc X) σ π H (f ρ M) R → wi σ H R) :
    RF X W (RV X.K) (tLc wi (fun v σ H Q => ∃ x π ρ ρ', RV X.K π H x v ∧ RS X.K π H σ ρ ∧ g x ρ = some ρ' ∧ ∀ σ', RS X.K π H σ' ρ' → (∀ us : List Nat, (∀ i ∈ ix, i ∈ us) → wipe σ' us = wipe σ us) → Q σ' H) (tF X W0 REq tt) (tF X W0 (RV X.K) te) vs) (fLc vs f g tt te) := by
  intro σ H Q π ρ M hs hm hp
  refine RF.bind (R1 := RISrc X) ri hs hm hp fun S M1 J H1 π1 e1 rJ m1 hp1 => ?_
  intro D hD
  have hp1' : PostR X W (RV X.K) σ π1 H1 (if S.chk (M1 ++ [.lst []]) = true then compF S.chk g tt te M1.length (wipeR ρ vs) S.items (M1 ++ [.lst []]) else .stuck) Q := hp1
  by_cases hc : S.chk (M1 ++ [.lst []]) = true
  · rw [if_pos hc] at hp1'
    have e2 : Ext π1 H1 (π1 ++ [D]) (upd H1 D (.lst [])) := Ext.push hD
    have m2 : RM X.prog X.w X.K X.mg (π1 ++ [D]) (upd H1 D (.lst [])) (M1 ++ [.lst []]) := m1.push hD ⟨[], upd_same, RVs.nil⟩
    refine ⟨fun i m H' => m = S.items.length - i ∧ i ≤ S.items.length ∧ ∃ π' M', Ext (π1 ++ [D]) (upd H1 D (.lst [])) π' H' ∧ RM X.prog X.w X.K X.mg π' H' M' ∧ S.chk M' = true ∧ PostR X W (RV X.K) σ π' H' (compF S.chk g tt te M1.length (wipeR ρ vs) (S.items.drop i) M') Q,
      ⟨S.items.length, by simp, Nat.zero_le _, π1 ++ [D], M1 ++ [.lst []], Ext.refl, m2, hc, PostR.mono e2 (by simpa using hp1')⟩, ?_⟩
    rintro i m H' ⟨rfl, hi, π', M', e', m', hc', hp'⟩
    obtain ⟨go, stop⟩ := rJ i π' H' M' (e2.trans e') m' hc'
    have hDn : (π1 ++ [D])[M1.length]? = some D := by rw [← m1.len]; simp
    by_cases hlt : i < S.items.length
    · right
      have hx : S.items[i]? = some S.items[i] := List.getElem?_eq_getElem hlt
      obtain ⟨g1, y1⟩ := go _ hx
      refine ⟨g1, fun H2 => i + 1 ≤ S.items.length ∧ ∃ π2 M2, Ext (π1 ++ [D]) (upd H1 D (.lst [])) π2 H2 ∧ RM X.prog X.w X.K X.mg π2 H2 M2 ∧ S.chk M2 = true ∧ PostR X W (RV X.K) σ π2 H2 (compF S.chk g tt te M1.length (wipeR ρ vs) (S.items.drop (i + 1)) M2) Q, fun H2 h2 => ⟨S.items.length - (i + 1), by omega, rfl, h2⟩, fun v H'' yy => ?_⟩
      obtain ⟨e3, m3, rv⟩ := y1 v H'' yy
      rw [List.drop_eq_getElem_cons hlt] at hp'
      have hsw : RS X.K π' H'' (wipe σ vs) (wipeR ρ vs) := ((((hs.ext e1).ext e2).ext e').ext e3).wipe vs
      cases eg : g S.items[i] (wipeR ρ vs) with
      | none =>
        simp only [compF, eg] at hp'
        exact hp'.elim
      | some ρ1 =>
        simp only [compF, eg] at hp'
        refine ⟨_, π', _, ρ1, rv, hsw, eg, fun σ3 hs3 hw => ⟨?_, π', ρ1, M', hs3, m3, ?_⟩⟩
        · rw [hw vs hix]
          have wp : ∀ (us : List Nat) (τ : St), wipe (wipe τ us) us = wipe τ us := by
            intro us
            induction us with
            | nil => intro τ; rfl
            | cons u us ih =>
              intro τ
              have e1 : wipe τ (u :: us) = (wipe τ us).set u none := rfl
              rw [e1, wipe_set (u :: us) (wipe τ us) u List.mem_cons_self]
              show (wipe (wipe τ us) us).set u none = _
              rw [ih τ]
          exact wp vs σ
        · cases et : tt ρ1 M' with
          | ex c fs M2 =>
            simp only [et] at hp'
            exact hp'.elim
          | stuck =>
            simp only [et] at hp'
            exact hp'.elim
          | ok b M2 =>
            intro b' H4 π4 e4 eb m4
            cases eb
            cases b with
            | false =>
              simp only [et] at hp'
              by_cases hc2 : S.chk M2 = true
              · rw [if_pos hc2] at hp'
                exact ⟨hlt, π4, M2, (e'.trans e3).trans e4, m4, hc2, PostR.mono (e3.trans e4) hp'⟩
              · rw [if_neg hc2] at hp'
                exact hp'.elim
            | true =>
              simp only [et] at hp'
              refine ⟨π4, ρ1, M2, hs3.ext e4, m4, ?_⟩
              cases ee : te ρ1 M2 with
              | ex c fs M3 =>
                simp only [ee] at hp'
                exact hp'.elim
              | stuck =>
                simp only [ee] at hp'
                exact hp'.elim
              | ok y M3 =>
                intro v5 H5 π5 e5 rv5 m5
                simp only [ee] at hp'
                have hD5 : π5[M1.length]? = some D := e5.at (e4.at (e3.at (e'.at hDn)))
                cases eo : M3[M1.length]? with
                | none =>
                  simp only [eo] at hp'
                  exact hp'.elim
                | some o =>
                  cases o with
                  | lst acc =>
                    simp only [eo] at hp'
                    by_cases hz : (small (acc.length + 1) && S.chk (M3.set M1.length (.lst (acc ++ [y])))) = true
                    · rw [if_pos hz] at hp'
                      rw [Bool.and_eq_true] at hz
                      obtain ⟨ws, k1, k2⟩ := m5.at_ hD5 eo
                      have e6 : Ext π5 H5 π5 (upd H5 D (.lst (ws ++ [v5]))) := Ext.write k1 fun _ z => by cases z
                      refine ⟨ws, k1, ?_, hlt, π5, M3.set M1.length (.lst (acc ++ [y])), ((((e'.trans e3).trans e4).trans e5).trans e6), m5.write hD5 eo rfl rfl ⟨_, upd_same, (k2.append (RVs.cons rv5 RVs.nil)).ext e6⟩, hz.2, PostR.mono (((e3.trans e4).trans e5).trans e6) hp'⟩
                      have := small_le hz.1
                      rw [← k2.length]
                      omega
                    · rw [if_neg hz] at hp'
                      exact hp'.elim
                  | cst _ =>
                    simp only [eo] at hp'
                    exact hp'.elim
                  | dct _ =>
                    simp only [eo] at hp'
                    exact hp'.elim
                  | ins _ _ =>
                    simp only [eo] at hp'
                    exact hp'.elim
    · left
      have hi2 : S.items.length = i := by omega
      refine ⟨stop hi2, ?_⟩
      rw [List.drop_eq_nil_of_le (by omega)] at hp'
      refine hp' _ H' π' Ext.refl ?_ m'
      unfold RV
      exact ⟨D, rfl, e'.at hDn⟩
  · rw [if_neg hc] at hp1'
    exact hp1'.elim
theorem fx_lc {elt tg iter : Expr} {ifs : List Expr} {scope : Scope} {own : List (Str × Nat)} {pos : Pos} {f : FI} {g : FG} {tt : FT} {te : FE} {ix : List Nat} (hc : X.calm = true) (hN : X.N.Nodup) (hi : FXI X W tg iter f) (ok : BlkOk X.N X.env.scope scope own)
    (hg : ∀ (s : Shared) (H : Hp) (C : Addr) (cl : List (Str × Addr)) (fp : List Addr), FXGw (X.blk s H scope (compEnvC scope cl C X.env) fp) tg g ix) (hix : ∀ i ∈ ix, i ∈ own.map (·.2))
    (ht : ∀ (s : Shared) (H : Hp) (C : Addr) (cl : List (Str × Addr)) (fp : List Addr), FXTs (X.blk s H scope (compEnvC scope cl C X.env) fp) W0 ifs tt)
    (he : ∀ (s : Shared) (H : Hp) (C : Addr) (cl : List (Str × Addr)) (fp : List Addr), FX (X.blk s H scope (compEnvC scope cl C X.env) fp) W0 elt te) (hs : ∀ x, foldedSetIterable iter X.env x = pure x := by intro _; rfl) :
    FX X W (.ListComp elt [⟨tg, iter, ifs, 0⟩] scope pos) (fLc (own.map (·.2)) f g tt te) := by
  obtain ⟨t1, p1, r1⟩ := hi.to
  exact ⟨_, pe_lc hc hN p1 ok (fun s H C cl fp => (hg s H C cl fp).to) (fun s H C cl fp => (ht s H C cl fp).to) (fun s H C cl fp => (he s H C cl fp).can) hs, rf_lc hix r1⟩
theorem fs_setLc {i : Nat} {y : Str} {py : Pos} {elt tg iter : Expr} {ifs : List Expr} {scope : Scope} {own : List (Str × Nat)} {pos spos : Pos} {f : FI} {g : FG} {tt : FT} {te : FE} {ix : List Nat} (hc : X.calm = true) (hN : X.N.Nodup) (hy : X.N[i]? = some y) (hyl : X.env.scope.names.lookup y = some .local)
    (hsw : swapsWith (.ListComp elt [⟨tg, iter, ifs, 0⟩] scope pos) (some (.Name y py)) spos.line X.env = pure true) (hi : FXI X W tg iter f) (ok : BlkOk X.N X.env.scope scope own)
    (hg : ∀ (s : Shared) (H : Hp) (C : Addr) (cl : List (Str × Addr)) (fp : List Addr), FXGw (X.blk s H scope (compEnvC scope cl C X.env) fp) tg g ix) (hix : ∀ i ∈ ix, i ∈ own.map (·.2))
    (ht : ∀ (s : Shared) (H : Hp) (C : Addr) (cl : List (Str × Addr)) (fp : List Addr), FXTs (X.blk s H scope (compEnvC scope cl C X.env) fp) W0 ifs tt)
    (he : ∀ (s : Shared) (H : Hp) (C : Addr) (cl : List (Str × Addr)) (fp : List Addr), FX (X.blk s H scope (compEnvC scope cl C X.env) fp) W0 elt te) (hs : ∀ x, foldedSetIterable iter X.env x = pure x := by intro _; rfl) :
    FXS X W (.Assign [.Name y py] (.ListComp elt [⟨tg, iter, ifs, 0⟩] scope pos) spos) (sAsg (fLc (own.map (·.2)) f g tt te) (gtName i)) := by
  obtain ⟨t1, p1, r1⟩ := hi.to
  refine ⟨_, ps_setLc hc hN hy hyl hsw p1 ok (fun s H C cl fp => (hg s H C cl fp).to) (fun s H C cl fp => (ht s H C cl fp).to) (fun s H C cl fp => (he s H C cl fp).can) hs, rfs_asg (rf_lc hix r1) ?_⟩
  intro x v σ H π ρ ρ' Q rv hs e k
  cases e
  exact k _ (hs.set i rv)
end

/-! ### defs -/
section
variable (P : Program) (w : World) (K : PySem.W.Frag) (mg : Str → Option Value)
def PostN (π : List Addr) (H : Hp) (r : Res MV) (Q : VK) (E : XK) : Prop := match r with
  | .ok x M => ∀ v H' π', Ext π H π' H' → RV K π' H' x v → RM P w K mg π' H' M → Q v H'
  | .ex c fs M => ∀ C d H' π', Ext π H π' H' → RX K mg π' H' C d c fs → RM P w K mg π' H' M → E (.ref C) d H'
  | .stuck => False
/-- the promise of a def that does F, for n arguments -/
def spF (n : Nat) (F : FN) : Sp := fun vs H Q E => vs.length = n ∧ ∃ π xs M, RVs K π H xs vs ∧ RM P w K mg π H M ∧ PostN P w K mg π H (F xs M) Q E
end
def startR (n : Nat) (xs : List MV) : Rho := xs.map some ++ List.replicate (n - xs.length) none
def fnOf (n : Nat) (body : FS) : FN := fun xs M => match body (startR n xs) M with
  | .ret x M1 => .ok x M1
  | .next _ M1 => .ok .non M1
  | .ex c fs _ M1 => .ex c fs M1
  | _ => .stuck
abbrev FnF (P : Program) (w : World) (K : PySem.W.Frag) (mg : Str → Option Value) (base : Heap) (k : Nat) (f : Addr) (fd : FuncData) (ps : List Str) (F : FN) : Prop := FnOk P w K mg base (L2.CX P w) k f fd ps (spF P w K mg ps.length F)
theorem startR_rs {K : PySem.W.Frag} {π : List Addr} {H : Hp} {N : List Str} {xs : List MV} {vs : List V} (r : RVs K π H xs vs) : RS K π H (L2.start N vs) (startR N.length xs) := by
  have hl := r.length
  refine ⟨by unfold L2.start startR; simp [hl], fun i x e => ?_⟩
  unfold startR at e
  unfold L2.start
  by_cases hi : i < xs.length
  · rw [List.getElem?_append_left (by simpa using hi), List.getElem?_map] at e
    obtain ⟨y, h1, h2⟩ := Option.map_eq_some_iff.mp e
    cases h2
    obtain ⟨v, g1, g2⟩ := r.get h1
    refine ⟨v, ?_, g2⟩
    rw [List.getElem?_append_left (by rw [List.length_map, ← hl]; exact hi), List.getElem?_map, g1]
    rfl
  · rw [List.getElem?_append_right (by rw [List.length_map]; omega), List.getElem?_replicate] at e
    split at e <;> cases e
section
variable {P : Program} {w : World} {K : PySem.W.Frag} {mg : Str → Option Value} {base : Heap}
theorem fn_ok {x qual : Str} {st : Stmt} {f : Addr} {fd : FuncData} {N ps : List Str} {k : Nat} {body : FS} (F : Fun K x qual st f fd) (S : FnScope N ps (defScope st))
    (hb : ∀ (cdv : Value) (A : Around) (outer : List Env) (s : Shared) (H : Hp) (E : XK), Room k (A.deeper (envOfC qual (defScope st) s.heap.objs.size f cdv)) →
      FXB (cxOf (L2.CX P w) P w K mg base N qual (defScope st) f cdv A outer s H E) (fun cls d _ H => E cls d H) (defBody st) body) : FnF P w K mg base (k + 1) f fd ps (fnOf N.length body) := by
  refine F.okX S (fun vs H Q E h => h.1) (fun cdv A outer s H vs Q E hr h => ?_)
  obtain ⟨t, p, r⟩ := (hb cdv A outer s H E hr).to
  obtain ⟨hl, π, xs, M, rv, hm, hp⟩ := h
  refine ⟨t, p, r _ _ _ π (startR N.length xs) M (startR_rs rv) hm ?_⟩
  unfold fnOf at hp
  cases e : body (startR N.length xs) M with
  | next ρ M1 =>
    rw [e] at hp
    exact fun σ' H' π' e' _ m' => hp .non H' π' e' (by unfold RV; rfl) m'
  | ret y M1 =>
    rw [e] at hp
    exact hp
  | ex c fs ρ M1 =>
    rw [e] at hp
    exact fun C d σ' H' π' e' x' _ m' => hp C d H' π' e' x' m'
  | brk ρ M1 =>
    rw [e] at hp
    exact hp.elim
  | cnt ρ M1 =>
    rw [e] at hp
    exact hp.elim
  | stuck =>
    rw [e] at hp
    exact hp.elim
/-- a def of the module that does F -/
structure CalF (P : Program) (w : World) (K : PySem.W.Frag) (mg : Str → Option Value) (base : Heap) (k : Nat) (x : Str) (n : Nat) (F : FN) : Prop where
  ex : ∃ (f : Addr) (fd : FuncData) (ps : List Str), mg x = some (.ref f) ∧ PySem.W.keepIn K (.ref f) = true ∧ Binds K fd ps [] ∧ ps.length = n ∧ FnF P w K mg base k f fd ps F
end
section
variable {X : Cx} {W : WX}
/-- F on so many arguments alone -/
def arity (n : Nat) (F : FN) : FN := fun xs M => if xs.length = n then F xs M else .stuck
theorem rf_call {n : Nat} {F : FN} {t : TA} {a : FA} (r : RF X W (RVs X.K) t a) : RF X W (RV X.K) (tCallS (spF X.prog X.w X.K X.mg n F) (WE W) t) (fFn (arity n F) a) := by
  intro σ H Q π ρ M hs hm hp
  refine r.bind hs hm hp fun xs M1 vs H1 π1 e1 rv m1 hp1 => ?_
  unfold arity at hp1
  by_cases h : xs.length = n
  · rw [if_pos h] at hp1
    refine ⟨by rw [← rv.length]; exact h, π1, xs, M1, rv, m1, ?_⟩
    cases e : F xs M1 with
    | ok y M2 => rw [e] at hp1; exact hp1
    | ex c fs M2 => rw [e] at hp1; exact hp1
    | stuck => rw [e] at hp1; exact hp1
  · rw [if_neg h] at hp1
    exact hp1.elim
theorem fx_call {k j n : Nat} {x : Str} {F : FN} {p pos : Pos} {e : Expr} {es : List Expr} {a : FA} (c : CalF X.prog X.w X.K X.mg X.base k x n F) (hr : Room j X.A) (hk : k ≤ j) (hg : Gl X x) (tk : Takes X W) (ha : FXA X W (e :: es) a)
    (hdb : (x == ("__debug__" : Str)) = false := by decide) (he : starEach (e :: es) X.env = (false, eval e X.env) :: starEach es X.env := by rfl) (hpl : (backTo pos (starEach es X.env)).any (·.1) = false := by rfl) :
    FX X W (.Call (.Name x p) (e :: es) [] pos) (fFn (arity n F) a) := by
  obtain ⟨f, fd, ps, hm, kp, hb, hn, hF⟩ := c.ex
  subst hn
  obtain ⟨t1, p1, r1⟩ := ha.to
  exact ⟨_, pe_callS hF (hr.mono hk) hg hm kp hb (passAt tk) p1 hdb he hpl, rf_call r1⟩
theorem fx_call0 {k j : Nat} {x : Str} {F : FN} {p pos : Pos} (c : CalF X.prog X.w X.K X.mg X.base k x 0 F) (hr : Room j X.A) (hk : k ≤ j) (hg : Gl X x) (tk : Takes X W) (hdb : (x == ("__debug__" : Str)) = false := by decide) :
    FX X W (.Call (.Name x p) [] [] pos) (fFn (arity 0 F) faNil) := by
  obtain ⟨f, fd, ps, hm, kp, hb, hn, hF⟩ := c.ex
  refine ⟨tCallS (spF X.prog X.w X.K X.mg ps.length F) (WE W) tNil, ⟨fun pins s σ H Q I h => ?_⟩, ?_⟩
  · refine wpAny_Call_Name_kw (ld_glob I hg hm ?_ hdb)
    exact PySem.W.callWith_K0 I.kIn kp (run_fnS (us := []) hF (hr.mono hk) hb (passAt tk σ) I .nil h)
  · rw [hn]
    exact rf_call fun σ H Q π ρ M hs hm hp => hp.ok RVs.nil hm
end
/-! ### a law's end -/
section
variable {P : Program} {w : World} {K : PySem.W.Frag} {mg : Str → Option Value} {base : Heap}
/-- the law's promise: script in, True out -/
theorem sp_law {F : FN} {H : Hp} {a : Addr} {ns : List Int} (hO : Only H) (hS : SqL K H a (ns.map V.int)) (h : ∃ M, F [.ref 0] [.cst (ns.map MV.int)] = .ok (.bl true) M) : spF P w K mg 1 F [.ref a] H (fun v _ => v = .bl true) fun _ _ _ => False := by
  have rv : ∀ l : List Int, RVs K [a] H (l.map MV.int) (l.map V.int) := by
    intro l
    induction l with
    | nil => exact RVs.nil
    | cons i l ih => exact RVs.cons (by unfold RV; rfl) ih
  refine ⟨rfl, [a], [.ref 0], [.cst (ns.map MV.int)], RVs.cons (by unfold RV; exact ⟨a, rfl, rfl⟩) RVs.nil, ⟨rfl, ?_, ?_⟩, ?_⟩
  · intro i j b o u h1 h2 h3 h4 c1 c2
    cases i with
    | zero =>
      cases h3
      cases c1
    | succ i => simp at h3
  · intro i b o h1 h2
    cases i with
    | zero =>
      cases h1
      cases h2
      refine ⟨ns.map V.int, ?_, rv ns⟩
      rcases hS with (h | ⟨o, h⟩) | h
      · exfalso
        rcases hO a with q | ⟨o, xs, q⟩
        · rw [q] at h
          cases h
        · rw [q] at h
          cases h
      · exact .inl ⟨o, h⟩
      · exact .inr h
    | succ i => simp at h1
  · obtain ⟨M, e⟩ := h
    rw [e]
    intro v H' π' e' r m
    unfold RV at r
    exact r
/-- .. with the bits of the script's ints told -/
theorem walk_ofEB {l : PySem.W.OpenLaw} {n k : Nat} {q : Program} {loose : List Str} {XP : (Str → Option Value) → Heap → Prop} {YP : World → Heap → Prop} {d : DefRec} {CX : World → CXT} {x : Str}
    (hn : l.most = some n) (hn2 : n ≤ sizeLine) (hdf : d.params.defaults = []) (hr : Room k callerA)
    (F : ∀ (w : World) (mg : Str → Option Value) (fa : Addr) (h : Heap), YP w h → h.Ns mainGlobals mg → mg d.name = some (.ref fa) →
      ∃ (K : PySem.W.Frag) (fd : FuncData) (sp : Sp), K.In h ∧ (∀ (s : Shared) (u : Value), BindsTo s fd ⟨[u], []⟩ [(x, u)]) ∧
        (∀ (H : Hp) (a : Addr) (ns : List Int), ns.length ≤ n → (∀ z ∈ ns, Builtin.Int.intBits z ≤ 1048576) → Only H → SqL K H a (ns.map V.int) → sp [.ref a] H (fun v _ => v = .bl true) fun _ _ _ => False) ∧
        ∀ base : Heap, K.In base → base.Ns mainGlobals mg → FnOk l.prog w K mg base (CX w) k fa fd [x] sp)
    (hCX : ∀ (w : World) (H : Hp) (s : Shared) (e : Value) (s' : Shared), CX w [] H s (fun _ _ _ => False) e s' → False) :
    PySem.W.WalkO q loose XP YP l.row.toRowW d [] (fun f vs => PySem.call f vs) := by
  refine Att.attach_callB hn hdf fun w s₀ s₁ mg mb fa o pm cd doc a vs ns G Y ho hd hcd hmg hobj hints hlen hbits hg => ?_
  obtain ⟨K, fd, sp, KX, hb, hsp, hF⟩ := F w mg fa _ Y G.T.g hmg
  exact law_call KX G.T.g G.T.b G.T.builtins G.T.nolimit hg hobj hints (Nat.le_trans hlen hn2) hr hF hb (fun H hO hS => hsp H a ns hlen hbits hO hS) fun H e s' => hCX w H s₁ e s'
end
end FL

namespace FL
open PySem PySem.Spec PyProof.Rows L2
section
variable {P : Program} {w : World} {K : PySem.W.Frag} {mg : Str → Option Value} {base : Heap}
theorem fun_of {x qual : Str} {st : Stmt} {f : Addr} {fd : FuncData} (F : FunD K x qual (defArgs st) (defBody st) (defScope st) [] [] f fd) : Fun K x qual st f fd := by
  obtain ⟨oc, od, dV, kV, doc, pm, an, cdv, ct, osl, e, lk, hc, hd, hk⟩ := F.ex
  have e0 : dV = .none := by
    rcases hd with ⟨_, h⟩ | ⟨h, _⟩
    · exact h
    · exact absurd rfl h
  subst e0
  exact ⟨⟨oc, od, kV, doc, pm, an, cdv, ct, osl, e, lk, hc⟩, F.kp⟩
theorem cal_mk {x qual : Str} {st : Stmt} {f : Addr} {N ps : List Str} {k : Nat} {body : FS} (D : ∃ fd, FunD K x qual (defArgs st) (defBody st) (defScope st) [] [] f fd) (g : mg x = some (.ref f)) (S : FnScope N ps (defScope st))
    (hbind : ∀ (kV doc pm : Value) (an : Option Addr) (cdv ct : Value) (us : List Value), us.length = ps.length → bindArgs (PySem.W.fnOf x qual (defArgs st) (defBody st) (defScope st) .none kV doc pm an cdv ct) ⟨us, []⟩ = pure (ps.zip us))
    (hb : ∀ (cdv : Value) (A : Around) (outer : List Env) (s : Shared) (H : Hp) (E : XK), Room k (A.deeper (envOfC qual (defScope st) s.heap.objs.size f cdv)) →
      FXB (cxOf (L2.CX P w) P w K mg base N qual (defScope st) f cdv A outer s H E) (fun cls d _ H => E cls d H) (defBody st) body) : CalF P w K mg base (k + 1) x ps.length (FL.fnOf N.length body) := by
  obtain ⟨fd, D⟩ := D
  have F := fun_of D
  exact ⟨f, fd, ps, g, F.kp, F.binds hbind, rfl, fn_ok F S hb⟩
end
end FL
namespace FL
open PySem PySem.Spec PyProof.Rows L2
theorem b_len : bootBuiltins "len" = some (.builtin "len") := by decide +kernel
theorem b_isinstance : bootBuiltins "isinstance" = some (.builtin "isinstance") := by decide +kernel
theorem b_max : bootBuiltins "max" = some (.builtin "max") := by decide +kernel
theorem b_min : bootBuiltins "min" = some (.builtin "min") := by decide +kernel
theorem b_all : bootBuiltins "all" = some (.builtin "all") := by decide +kernel
theorem b_any : bootBuiltins "any" = some (.builtin "any") := by decide +kernel
theorem b_list : bootBuiltins "list" = some (.type "list") := by decide +kernel
theorem b_tuple : bootBuiltins "tuple" = some (.type "tuple") := by decide +kernel
theorem b_bool : bootBuiltins "bool" = some (.type "bool") := by decide +kernel
theorem b_int : bootBuiltins "int" = some (.type "int") := by decide +kernel
theorem b_str : bootBuiltins "str" = some (.type "str") := by decide +kernel
theorem b_dict : bootBuiltins "dict" = some (.type "dict") := by decide +kernel
end FL
namespace FL
open PySem PySem.Spec PyProof.Rows L2
section
variable {P : Program} {w : World} {K : PySem.W.Frag} {mg : Str → Option Value}
/-- the law's own def -/
theorem law_mk {x qual a : Str} {st : Stmt} {f : Addr} {N : List Str} {k : Nat} {body : FS} (D : ∃ fd, FunD K x qual (defArgs st) (defBody st) (defScope st) [] [] f fd) (S : FnScope N [a] (defScope st))
    (hbind : ∀ (kV doc pm : Value) (an : Option Addr) (cdv ct : Value) (us : List Value), us.length = [a].length → bindArgs (PySem.W.fnOf x qual (defArgs st) (defBody st) (defScope st) .none kV doc pm an cdv ct) ⟨us, []⟩ = pure ([a].zip us))
    (hb : ∀ (base : Heap) (cdv : Value) (A : Around) (outer : List Env) (s : Shared) (H : Hp) (E : XK), Room k (A.deeper (envOfC qual (defScope st) s.heap.objs.size f cdv)) →
      FXB (cxOf (L2.CX P w) P w K mg base N qual (defScope st) f cdv A outer s H E) (fun cls d _ H => E cls d H) (defBody st) body) :
    ∃ fd : FuncData, (∀ (s : Shared) (v : Value), BindsTo s fd ⟨[v], []⟩ [(a, v)]) ∧ ∀ base : Heap, FnOk P w K mg base (L2.CX P w) (k + 1) f fd [a] (spF P w K mg 1 (FL.fnOf N.length body)) := by
  obtain ⟨fd, D⟩ := D
  exact ⟨fd, fun s v => FunD.bindsA (ps := [a]) D hbind s [v] rfl, fun base => fn_ok (fun_of D) S (hb base)⟩
end
section
variable {X : Cx} {W : WX}
theorem fx_gc {x : Str} {pos : Pos} {f : FE} (hg : Gl X x) (h : ∃ v y, f = fC y ∧ (∀ π H, RV X.K π H y v) ∧ ∃ u, X.mg x = some u ∧ RelV v u) (hd : (x == ("__debug__" : Str)) = false := by decide) : FX X W (.Name x pos) f := by
  obtain ⟨v, y, rfl, r, u, hm, hr⟩ := h
  exact fx_c (pe_glob hg hm hr hd) r
end
end FL

namespace FL
open PySem PySem.Spec PyProof.Rows L2
/-! ### the model heap: what stood, and what came -/
theorem h_get0 {M G : MH} : (M ++ G)[M.length]? = G[0]? := by rw [List.getElem?_append_right (Nat.le_refl _)]; simp
theorem h_getk {M G : MH} {k : Nat} : (M ++ G)[M.length + k]? = G[k]? := by rw [List.getElem?_append_right (by omega)]; simp
theorem h_old {M G : MH} {n : Nat} {o : MO} (h : M[n]? = some o) : (M ++ G)[n]? = some o := by rw [List.getElem?_append_left (List.getElem?_eq_some_iff.mp h).1]; exact h
theorem h_set0 {M G : MH} {o : MO} : (M ++ G).set M.length o = M ++ G.set 0 o := by rw [List.set_append_right _ _ (Nat.le_refl _)]; simp
theorem h_setk {M G : MH} {k : Nat} {o : MO} : (M ++ G).set (M.length + k) o = M ++ G.set k o := by rw [List.set_append_right _ _ (by omega)]; simp
theorem h_app {M G G2 : MH} : (M ++ G) ++ G2 = M ++ (G ++ G2) := List.append_assoc ..
theorem h_len {M G : MH} : (M ++ G).length = M.length + G.length := List.length_append ..
theorem lstOf_old {M G : MH} {x : MV} {xs : List MV} (h : lstOf M x = some xs) : lstOf (M ++ G) x = some xs := by
  cases x with
  | ref n =>
    cases q : M[n]? with
    | none => simp [lstOf, q] at h
    | some o => rw [lstOf, h_old q]; rw [lstOf, q] at h; exact h
  | _ => exact h
theorem bind_ok {α β : Type} {a : α} {M : MH} {k : α → MH → Res β} : (Res.ok a M).bind k = k a M := rfl
theorem stm_ok {α : Type} {a : α} {M : MH} {ρ : Rho} {k : α → MH → RSt} : (Res.ok a M).stm ρ k = k a M := rfl
theorem seq_next {ρ : Rho} {M : MH} {k : Rho → MH → RSt} : (RSt.next ρ M).seq k = k ρ M := rfl
theorem seq_ret {x : MV} {M : MH} {k : Rho → MH → RSt} : (RSt.ret x M).seq k = .ret x M := rfl
theorem seq_ex {c : Str} {fs : List (Str × MV)} {ρ : Rho} {M : MH} {k : Rho → MH → RSt} : (RSt.ex c fs ρ M).seq k = .ex c fs ρ M := rfl
theorem gI_ok {C : Int → Int → Bool} {k : Int → Int → MV} {i j : Int} {M : MH} (h : C i j = true) : gI C k (.int i) (.int j) M = .ok (k i j) M := by
  unfold gI
  exact if_pos h
theorem mod_ok {i j : Int} {M : MH} (h : 0 < j) : gMod (.int i) (.int j) M = .ok (.int (i % j)) M := gI_ok (decide_eq_true h)
theorem fdiv_ok {i j : Int} {M : MH} (h : (decide (0 < j) && decide (j.natAbs.log2 < 9000)) = true) : gFdiv (.int i) (.int j) M = .ok (.int (i / j)) M := gI_ok h
theorem small_ok {n : Nat} (h : n ≤ 16777216) : small n = true := decide_eq_true (by rw [sizeLine_eq]; exact h)
theorem pow_ok {i j : Int} {M : MH} (h : (decide (0 ≤ j) && (decide (j ≤ 1000000) && decide (i.natAbs < 2 ^ 64))) = true) : gPow (.int i) (.int j) M = .ok (.int (i ^ j.toNat)) M := gI_ok h
theorem sub_ok {i j : Int} {M : MH} : gSub (.int i) (.int j) M = .ok (.int (i - j)) M := rfl
theorem add_ok {i j : Int} {M : MH} : gAdd (.int i) (.int j) M = .ok (.int (i + j)) M := rfl
theorem log2_lt {i : Int} {n : Nat} (h : i.natAbs < 2 ^ n) (h0 : 0 < n) : i.natAbs.log2 < n := PySem.Flt.log2_lt_of h0 h
theorem mul_ok {i j : Int} {M : MH} (h : i.natAbs.log2 + j.natAbs.log2 < 130000000) : gMul (.int i) (.int j) M = .ok (.int (i * j)) M := gI_ok (decide_eq_true h)
theorem bits_log {z : Int} {n : Nat} (h : Builtin.Int.intBits z ≤ n) : z.natAbs.log2 ≤ n := by
  unfold Builtin.Int.intBits at h
  split at h
  · rename_i q
    have : z = 0 := by simpa using q
    subst this
    simp
  · omega
theorem log2_mono {a b : Nat} (h : a ≤ b) : a.log2 ≤ b.log2 := by
  by_cases ha : a = 0
  · subst ha
    simp
  · exact (Nat.le_log2 (by omega)).mpr (Nat.le_trans (Nat.log2_self_le ha) h)
/-- a remainder is small -/
theorem mod_log (i : Int) {j : Int} (h : 0 < j) : (i % j).natAbs.log2 ≤ j.natAbs.log2 := log2_mono (by
  have h1 := Int.emod_nonneg i (Int.ne_of_gt h)
  have h2 := Int.emod_lt_of_pos i h
  omega)
/-- an item at a remainder -/
theorem atI_mod {α : Type} {xs : List α} (i : Int) (h : 0 < xs.length) : ∃ v, atI xs (i % (xs.length : Int)) = some v ∧ v ∈ xs := by
  have h0 : (0 : Int) < (xs.length : Int) := by omega
  have h1 := Int.emod_nonneg i (Int.ne_of_gt h0)
  have h2 := Int.emod_lt_of_pos i h0
  obtain ⟨j, hj⟩ : ∃ j : Nat, i % (xs.length : Int) = (j : Int) := ⟨(i % (xs.length : Int)).toNat, by omega⟩
  have hl : j < xs.length := by omega
  exact ⟨xs[j], by rw [hj]; exact atI_nat (List.getElem?_eq_getElem hl), List.getElem_mem hl⟩
end FL
namespace FL
open PySem PySem.Spec PyProof.Rows L2
def pick2 {α : Type} (a b : α) (i : Int) : α := if i % 2 = 0 then a else b
def pick3 {α : Type} (a b c : α) (i : Int) : α := if i % 3 = 0 then a else if i % 3 = 1 then b else c
def pick4 {α : Type} (a b c d : α) (i : Int) : α := if i % 4 = 0 then a else if i % 4 = 1 then b else if i % 4 = 2 then c else d
theorem atI_2 {α : Type} (a b : α) (i : Int) : atI [a, b] (i % 2) = some (pick2 a b i) := by
  unfold pick2
  have h : i % 2 = 0 ∨ i % 2 = 1 := by omega
  rcases h with h | h <;> rw [h] <;> rfl
theorem atI_3 {α : Type} (a b c : α) (i : Int) : atI [a, b, c] (i % 3) = some (pick3 a b c i) := by
  unfold pick3
  have h : i % 3 = 0 ∨ i % 3 = 1 ∨ i % 3 = 2 := by omega
  rcases h with h | h | h <;> rw [h] <;> rfl
theorem atI_4 {α : Type} (a b c d : α) (i : Int) : atI [a, b, c, d] (i % 4) = some (pick4 a b c d i) := by
  unfold pick4
  have h : i % 4 = 0 ∨ i % 4 = 1 ∨ i % 4 = 2 ∨ i % 4 = 3 := by omega
  rcases h with h | h | h | h <;> rw [h] <;> rfl
theorem pick2_f {α β : Type} (f : α → β) (a b : α) (i : Int) : pick2 (f a) (f b) i = f (pick2 a b i) := by unfold pick2; split <;> rfl
theorem pick3_f {α β : Type} (f : α → β) (a b c : α) (i : Int) : pick3 (f a) (f b) (f c) i = f (pick3 a b c i) := by unfold pick3; split <;> (try split) <;> rfl
theorem pick4_f {α β : Type} (f : α → β) (a b c d : α) (i : Int) : pick4 (f a) (f b) (f c) (f d) i = f (pick4 a b c d i) := by unfold pick4; split <;> (try split) <;> (try split) <;> rfl
theorem pick2_str (a b : Str) (i : Int) : pick2 (MV.str a) (.str b) i = .str (pick2 a b i) := pick2_f _ _ _ _
theorem pick3_str (a b c : Str) (i : Int) : pick3 (MV.str a) (.str b) (.str c) i = .str (pick3 a b c i) := pick3_f _ _ _ _ _
theorem pick4_str (a b c d : Str) (i : Int) : pick4 (MV.str a) (.str b) (.str c) (.str d) i = .str (pick4 a b c d i) := pick4_f _ _ _ _ _ _
theorem pick2_tup (a b : List MV) (i : Int) : pick2 (MV.tup a) (.tup b) i = .tup (pick2 a b i) := pick2_f _ _ _ _
theorem pick4_tup (a b c d : List MV) (i : Int) : pick4 (MV.tup a) (.tup b) (.tup c) (.tup d) i = .tup (pick4 a b c d i) := pick4_f _ _ _ _ _ _
theorem pick2_of {α : Type} {p : α → Prop} {a b : α} (ha : p a) (hb : p b) (i : Int) : p (pick2 a b i) := by unfold pick2; split <;> assumption
theorem pick3_of {α : Type} {p : α → Prop} {a b c : α} (ha : p a) (hb : p b) (hc : p c) (i : Int) : p (pick3 a b c i) := by unfold pick3; split <;> (try split) <;> assumption
theorem pick4_of {α : Type} {p : α → Prop} {a b c d : α} (ha : p a) (hb : p b) (hc : p c) (hd : p d) (i : Int) : p (pick4 a b c d i) := by unfold pick4; split <;> (try split) <;> (try split) <;> assumption
theorem veq_int {i j : Int} {M : MH} : gEq (.int i) (.int j) M = .ok (.bl (decide (i = j))) M := rfl
theorem vne_int {i j : Int} {M : MH} : gNe (.int i) (.int j) M = .ok (.bl (!decide (i = j))) M := rfl
theorem veq_str1 {a : Str} {M : MH} : gEq (.str a) (.str a) M = .ok (.bl true) M := by show Res.ok (MV.bl (decide (a = a))) M = _; rw [decide_eq_true rfl]
theorem veq_str0 {a b : Str} {M : MH} (h : a ≠ b) : gEq (.str a) (.str b) M = .ok (.bl false) M := by show Res.ok (MV.bl (decide (a = b))) M = _; rw [decide_eq_false h]
theorem vne_str1 {a : Str} {M : MH} : gNe (.str a) (.str a) M = .ok (.bl false) M := by show Res.ok (MV.bl (!decide (a = a))) M = _; rw [decide_eq_true rfl]; rfl
theorem vne_str0 {a b : Str} {M : MH} (h : a ≠ b) : gNe (.str a) (.str b) M = .ok (.bl true) M := by show Res.ok (MV.bl (!decide (a = b))) M = _; rw [decide_eq_false h]; rfl
/- good data: == of itself -/
mutual
def okD : PyData → Bool
  | .none => true
  | .bool _ => true
  | .int _ => true
  | .str _ => true
  | .list xs => okDs xs
  | .tuple xs => okDs xs
  | .dict _ => false
def okDs : List PyData → Bool
  | [] => true
  | x :: xs => okD x && okDs xs
end
mutual
theorem eqv_self : ∀ d : PyData, okD d = true → PyData.eqv d d = true
  | .none, _ => rfl
  | .bool b, _ => by simp [PyData.eqv]
  | .int b, _ => by simp [PyData.eqv]
  | .str b, _ => by simp [PyData.eqv]
  | .list xs, h => by rw [PyData.eqv]; exact eqv_selfs xs (by rw [okD] at h; exact h)
  | .tuple xs, h => by rw [PyData.eqv]; exact eqv_selfs xs (by rw [okD] at h; exact h)
  | .dict _, h => by simp [okD] at h
theorem eqv_selfs : ∀ ds : List PyData, okDs ds = true → PyData.eqvAll ds ds = true
  | [], _ => rfl
  | x :: xs, h => by
    rw [okDs, Bool.and_eq_true] at h
    rw [PyData.eqvAll, eqv_self x h.1, eqv_selfs xs h.2]
    rfl
end
end FL

namespace FL
open PySem PySem.Spec PyProof.Rows L2
/-! ### plain data: == is equality -/
/-- ints, texts, None, tuples of these, so deep -/
def okV : Nat → MV → Bool
  | _, .non => true
  | _, .int _ => true
  | _, .str x => PyData.strOk x
  | 0, .tup _ => false
  | n + 1, .tup xs => xs.all (okV n)
  | _, .bl _ => false
  | _, .ref _ => false
mutual
def pD : MV → PyData
  | .non => .none
  | .bl b => .bool b
  | .int i => .int i
  | .str x => .str x
  | .tup xs => .tuple (pDs xs)
  | .ref _ => .none
def pDs : List MV → List PyData
  | [] => []
  | x :: xs => pD x :: pDs xs
end
theorem pDs_map : ∀ xs : List MV, pDs xs = xs.map pD
  | [] => rfl
  | x :: xs => by rw [pDs, pDs_map xs]; rfl
theorem allD_of {f : MV → Option PyData} {g : MV → PyData} : ∀ {xs : List MV}, (∀ x ∈ xs, f x = some (g x)) → allD f xs = some (xs.map g)
  | [], _ => rfl
  | x :: xs, h => by
    rw [allD, h x List.mem_cons_self, allD_of fun y hy => h y (List.mem_cons_of_mem _ hy)]
    rfl
theorem toD_pD {M : MH} : ∀ (n : Nat) (x : MV), okV n x = true → toD (n + 1) M x = some (pD x)
  | n, .non, _ => rfl
  | n, .int _, _ => rfl
  | n, .str _, _ => rfl
  | 0, .tup _, h => by cases h
  | n + 1, .tup xs, h => by
    have h' : xs.all (okV n) = true := h
    have e : allD (toD (n + 1) M) xs = some (xs.map pD) := allD_of fun x hx => toD_pD n x (List.all_eq_true.mp h' x hx)
    show (allD (toD (n + 1) M) xs).map PyData.tuple = some (pD (.tup xs))
    rw [e, pD, pDs_map]
    rfl
  | n, .bl _, h => by cases n <;> cases h
  | n, .ref _, h => by cases n <;> cases h
theorem canLay_all : ∀ {ds : List PyData}, (∀ d ∈ ds, d.canLay0 = true) → PyData.canLayAll0 ds = true
  | [], _ => rfl
  | d :: ds, h => by
    rw [PyData.canLayAll0, h d List.mem_cons_self, canLay_all fun e he => h e (List.mem_cons_of_mem _ he)]
    rfl
theorem depth_all : ∀ {ds : List PyData} {n : Nat}, (∀ d ∈ ds, d.depth ≤ n) → PyData.depthAll ds ≤ n
  | [], n, _ => by rw [PyData.depthAll]; exact Nat.zero_le _
  | d :: ds, n, h => by
    rw [PyData.depthAll]
    exact Nat.max_le.mpr ⟨h d List.mem_cons_self, depth_all fun e he => h e (List.mem_cons_of_mem _ he)⟩
theorem pD_lay : ∀ (n : Nat) (x : MV), okV n x = true → (pD x).canLay0 = true ∧ (pD x).depth ≤ n
  | n, .non, _ => ⟨rfl, by rw [pD, PyData.depth]; exact Nat.zero_le _⟩
  | n, .int _, _ => ⟨rfl, by rw [pD, PyData.depth]; exact Nat.zero_le _⟩
  | n, .str x, h => ⟨by rw [pD, PyData.canLay0]; cases n <;> exact h, by rw [pD, PyData.depth]; exact Nat.zero_le _⟩
  | 0, .tup _, h => by cases h
  | n + 1, .tup xs, h => by
    have h' : xs.all (okV n) = true := h
    have ih : ∀ d ∈ pDs xs, d.canLay0 = true ∧ d.depth ≤ n := by
      rw [pDs_map]
      intro d hd
      obtain ⟨x, hx, rfl⟩ := List.mem_map.mp hd
      exact pD_lay n x (List.all_eq_true.mp h' x hx)
    refine ⟨?_, ?_⟩
    · rw [pD, PyData.canLay0]
      exact canLay_all fun d hd => (ih d hd).1
    · rw [pD, PyData.depth]
      exact Nat.succ_le_succ (depth_all fun d hd => (ih d hd).2)
  | n, .bl _, h => by cases n <;> cases h
  | n, .ref _, h => by cases n <;> cases h
theorem pD_shaped {n : Nat} {x : MV} (h : okV n x = true) (hn : n ≤ 64) : SeqAt.shaped (pD x) = true := by
  obtain ⟨h1, h2⟩ := pD_lay n x h
  unfold SeqAt.shaped
  rw [Bool.and_eq_true]
  exact ⟨h1, decide_eq_true (Nat.le_trans h2 hn)⟩
theorem beq_dec {α : Type} [DecidableEq α] (a b : α) : (a == b) = decide (a = b) := by
  by_cases h : a = b
  · subst h
    simp
  · rw [decide_eq_false h]
    exact beq_eq_false_iff_ne.mpr h
theorem eqv_all {n m : Nat} : ∀ {xs ys : List MV}, (∀ x ∈ xs, ∀ y ∈ ys, PyData.eqv (pD x) (pD y) = decide (x = y)) → PyData.eqvAll (pDs xs) (pDs ys) = decide (xs = ys)
  | [], [], _ => by simp [pDs, PyData.eqvAll]
  | [], y :: ys, _ => by simp [pDs, PyData.eqvAll]
  | x :: xs, [], _ => by simp [pDs, PyData.eqvAll]
  | x :: xs, y :: ys, h => by
    rw [pDs, pDs, PyData.eqvAll, h x List.mem_cons_self y List.mem_cons_self, eqv_all (n := n) (m := m) fun a ha b hb => h a (List.mem_cons_of_mem _ ha) b (List.mem_cons_of_mem _ hb)]
    by_cases e1 : x = y
    · by_cases e2 : xs = ys
      · simp [e1, e2]
      · simp [e1, e2]
    · simp [e1]
theorem eqv_pD : ∀ (n m : Nat) (x y : MV), okV n x = true → okV m y = true → PyData.eqv (pD x) (pD y) = decide (x = y) := by
  intro n
  induction n with
  | zero =>
    intro m x y hx hy
    cases x <;> cases y <;> first | (cases hx; done) | (cases m <;> cases hy; done) | (simp only [pD, PyData.eqv]; simp [beq_dec]; done)
  | succ n ih =>
    intro m x y hx hy
    cases x with
    | tup xs =>
      cases y with
      | tup ys =>
        cases m with
        | zero => cases hy
        | succ m =>
          have hx' : xs.all (okV n) = true := hx
          have hy' : ys.all (okV m) = true := hy
          rw [pD, pD, PyData.eqv, eqv_all (n := n) (m := m) fun a ha b hb => ih m a b (List.all_eq_true.mp hx' a ha) (List.all_eq_true.mp hy' b hb)]
          simp
      | _ => first | (cases m <;> cases hy; done) | (simp only [pD, PyData.eqv]; simp; done)
    | _ => cases y <;> first | (cases hx; done) | (cases m <;> cases hy; done) | (simp only [pD, PyData.eqv]; simp [beq_dec]; done)
theorem deepEq_plain {M : MH} {n m : Nat} {x y : MV} (hx : okV n x = true) (hy : okV m y = true) (hn : n ≤ 64) (hm : m ≤ 64) : deepEq M x y = some (decide (x = y)) := by
  have up : ∀ (k j : Nat) (z : MV), okV k z = true → okV (k + j) z = true := by
    intro k
    induction k with
    | zero =>
      intro j z h
      cases z with
      | tup _ => cases h
      | bl _ => cases h
      | ref _ => cases h
      | str x => cases j <;> exact h
      | _ => cases j <;> rfl
    | succ k ih =>
      intro j z h
      rw [Nat.succ_add]
      cases z with
      | tup zs =>
        have h' : zs.all (okV k) = true := h
        show zs.all (okV (k + j)) = true
        exact List.all_eq_true.mpr fun a ha => ih j a (List.all_eq_true.mp h' a ha)
      | bl _ => cases h
      | ref _ => cases h
      | str x => exact h
      | _ => rfl
  have e1 : toD 66 M x = some (pD x) := toD_pD 65 x (by
    have := up n (65 - n) x hx
    rwa [show n + (65 - n) = 65 by omega] at this)
  have e2 : toD 66 M y = some (pD y) := toD_pD 65 y (by
    have := up m (65 - m) y hy
    rwa [show m + (65 - m) = 65 by omega] at this)
  unfold deepEq
  rw [e1, e2]
  simp only [pD_shaped hx hn, pD_shaped hy hm, Bool.and_self, if_true]
  rw [eqv_pD n m x y hx hy]
theorem scalEq_eq {x y : MV} {b : Bool} (h : scalEq x y = some b) : b = decide (x = y) := by
  unfold scalEq at h
  split at h <;> cases h <;> simp
theorem eqM_plain {M : MH} {n m : Nat} {x y : MV} (hx : okV n x = true) (hy : okV m y = true) (hn : n ≤ 64) (hm : m ≤ 64) : eqM M x y = some (decide (x = y)) := by
  unfold eqM
  cases h : scalEq x y with
  | some b => rw [scalEq_eq h]
  | none => exact deepEq_plain hx hy hn hm
theorem gEq_plain {M : MH} {n m : Nat} {x y : MV} (hx : okV n x = true) (hy : okV m y = true) (hn : n ≤ 64 := by decide) (hm : m ≤ 64 := by decide) : gEq x y M = .ok (.bl (decide (x = y))) M := by
  unfold gEq
  rw [eqM_plain hx hy hn hm]
theorem gNe_plain {M : MH} {n m : Nat} {x y : MV} (hx : okV n x = true) (hy : okV m y = true) (hn : n ≤ 64 := by decide) (hm : m ≤ 64 := by decide) : gNe x y M = .ok (.bl (!decide (x = y))) M := by
  unfold gNe
  rw [eqM_plain hx hy hn hm]
end FL

set_option maxHeartbeats 0
namespace G
open PySem PySem.Spec PyProof.Rows L2 FL
def top (i : Nat) : Stmt := PySem.Challenge.pw_pointsure_k40_wants_of_facts.main.body.getD i (.Pass ⟨0, 0, 0, 0⟩)
structure Tx (K : PySem.W.Frag) (mg : Str → Option Value) : Prop where
  one : True
  z_isinstance : mg "isinstance" = none
  z_bool : mg "bool" = none
  z_tuple : mg "tuple" = none
abbrev s_law_right : Stmt := top 6
theorem sc_law_right : FnScope ["_law_found", "_law_due", "_law_part"] ["_law_found", "_law_due"] (defScope s_law_right) := ⟨rfl, rfl, rfl, by decide +kernel, rfl, by decide +kernel, by decide +kernel⟩
def B_law_right : FS := (sSeq (sIf (ftOr (ftNot (asB (fIsi "tuple" (fVar 0)))) (asB (fOp gNe (fVar 0) (fVar 1)))) (sRet (fC (.bl false))) sNext)
  (sSeq (sFor (fiAny (fVar 0)) (gtName 2) (sIf (asB (fIsi "bool" (fVar 2))) (sRet (fC (.bl false))) sNext))
  (sRet (fC (.bl true)))))
def F_law_right : FN := FL.fnOf 3 B_law_right
theorem ok_law_right {P : Program} {w : World} {K : PySem.W.Frag} {mg : Str → Option Value} {base : Heap} (T : Tx K mg)  (D : ∃ fd, FunD K "_law_right" "_law_right" (defArgs s_law_right) (defBody s_law_right) (defScope s_law_right) [] [] (He.ga K "_law_right") fd) (g : mg "_law_right" = some (.ref (He.ga K "_law_right"))) : CalF P w K mg base 1 "_law_right" 2 F_law_right :=
  cal_mk D g sc_law_right (fun _ _ _ _ _ _ us hl => match us, hl with | [_, _], _ => rfl) (body := B_law_right) fun cdv A outer s H E hr =>
  (fb_cons (fs_if (FXW.t (fw_or (ft_not (ft_val (fx_isi rfl T.z_isinstance b_isinstance rfl T.z_tuple b_tuple (fx_var (pv 0))))) (fw_or1 (ft_cmp (op_neA hr.units) o_ne (fx_var (pv 0)) (fx_var (pv 1)) (nomark _))))) (fb_one (fs_ret fx_bl)) fb_nil)
  (fb_cons (fs_for (passes_of rfl) rfl (fi_any (fx_var (pv 0))) (fg_name (i := 2) sc_law_right.nd rfl (by first | exact .inl rfl | exact .inr rfl)) (fb_one (fs_if (ft_val (fx_isi rfl T.z_isinstance b_isinstance rfl T.z_bool b_bool (fx_var (pv 2)))) (fb_one (fs_ret fx_bl)) fb_nil)))
  (fb_one (fs_ret fx_bl))))
abbrev s_want_of : Stmt := top 1
theorem sc_want_of : FnScope ["fact", "name"] ["fact"] (defScope s_want_of) := ⟨rfl, rfl, rfl, by decide +kernel, rfl, by decide +kernel, by decide +kernel⟩
def B_want_of : FS := (sSeq (sIf (asB (fOp gNe (fOp gIx (fVar 0) (fC (.int 0))) (fC (.str "holds")))) (sRet (fSl (fVar 0) foNone (foSome (fC (.int 2))))) sNext)
  (sSeq (sAsg (fOp gIx (fVar 0) (fC (.int 1))) (gtName 1))
  (sSeq (sIf (asB (fOp gEq (fOp gIx (fVar 1) (fC (.int 0))) (fC (.str "local")))) (sRet (fTup (faCons (fC (.str "local")) (faCons (fOp gIx (fVar 1) (fC (.int 1))) (faCons (fOp gIx (fVar 1) (fC (.int 3))) faNil))))) sNext)
  (sSeq (sIf (asB (fOp gEq (fOp gIx (fVar 1) (fC (.int 0))) (fC (.str "given")))) (sRet (fTup (faCons (fC (.str "given")) (faCons (fOp gIx (fVar 1) (fC (.int 1))) faNil)))) sNext)
  (sSeq (sIf (asB (fOp gEq (fOp gIx (fVar 1) (fC (.int 0))) (fC (.str "field")))) (sRet (fTup (faCons (fC (.str "field")) (faCons (fOp gIx (fVar 1) (fC (.int 3))) faNil)))) sNext)
  (sSeq (sIf (asB (fOp gEq (fOp gIx (fVar 1) (fC (.int 0))) (fC (.str "each")))) (sRet (fTup (faCons (fC (.str "each")) faNil))) sNext)
  (sRet (fTup (faCons (fC (.str "kept")) (faCons (fOp gIx (fVar 1) (fC (.int 1))) (faCons (fOp gIx (fVar 1) (fC (.int 3))) faNil)))))))))))
def F_want_of : FN := FL.fnOf 2 B_want_of
theorem ok_want_of {P : Program} {w : World} {K : PySem.W.Frag} {mg : Str → Option Value} {base : Heap} (T : Tx K mg)  (D : ∃ fd, FunD K "want_of" "want_of" (defArgs s_want_of) (defBody s_want_of) (defScope s_want_of) [] [] (He.ga K "want_of") fd) (g : mg "want_of" = some (.ref (He.ga K "want_of"))) : CalF P w K mg base 1 "want_of" 1 F_want_of :=
  cal_mk D g sc_want_of (fun _ _ _ _ _ _ us hl => match us, hl with | [_], _ => rfl) (body := B_want_of) fun cdv A outer s H E hr =>
  (fb_cons (fs_if (ft_cmp (op_neA hr.units) o_ne (fx_ix (fx_var (pv 0)) fx_int (fun _ _ => rfl)) fx_str (nomark _)) (fb_one (fs_ret (fx_sl (fx_var (pv 0)) fo_none (fo_some fx_int)))) fb_nil)
  (fb_cons (fs_set (i := 1) sc_want_of.nd rfl (by first | exact .inl rfl | exact .inr rfl) (fx_ix (fx_var (pv 0)) fx_int (fun _ _ => rfl)))
  (fb_cons (fs_if (ft_cmp (op_eqA hr.units) o_eq (fx_ix (fx_var (pv 1)) fx_int (fun _ _ => rfl)) fx_str (nomark _)) (fb_one (fs_ret (fx_tup (fa_cons fx_str (fa_cons (fx_ix (fx_var (pv 1)) fx_int (fun _ _ => rfl)) (fa_cons (fx_ix (fx_var (pv 1)) fx_int (fun _ _ => rfl)) fa_nil)))))) fb_nil)
  (fb_cons (fs_if (ft_cmp (op_eqA hr.units) o_eq (fx_ix (fx_var (pv 1)) fx_int (fun _ _ => rfl)) fx_str (nomark _)) (fb_one (fs_ret (fx_tup (fa_cons fx_str (fa_cons (fx_ix (fx_var (pv 1)) fx_int (fun _ _ => rfl)) fa_nil))))) fb_nil)
  (fb_cons (fs_if (ft_cmp (op_eqA hr.units) o_eq (fx_ix (fx_var (pv 1)) fx_int (fun _ _ => rfl)) fx_str (nomark _)) (fb_one (fs_ret (fx_tup (fa_cons fx_str (fa_cons (fx_ix (fx_var (pv 1)) fx_int (fun _ _ => rfl)) fa_nil))))) fb_nil)
  (fb_cons (fs_if (ft_cmp (op_eqA hr.units) o_eq (fx_ix (fx_var (pv 1)) fx_int (fun _ _ => rfl)) fx_str (nomark _)) (fb_one (fs_ret (fx_tup (fa_cons fx_str fa_nil)))) fb_nil)
  (fb_one (fs_ret (fx_tup (fa_cons fx_str (fa_cons (fx_ix (fx_var (pv 1)) fx_int (fun _ _ => rfl)) (fa_cons (fx_ix (fx_var (pv 1)) fx_int (fun _ _ => rfl)) fa_nil))))))))))))
abbrev s_law_calls : Stmt := top 3
theorem sc_law_calls : FnScope ["_law_cell"] ["_law_cell"] (defScope s_law_calls) := ⟨rfl, rfl, rfl, by decide +kernel, rfl, by decide +kernel, by decide +kernel⟩
def B_law_calls : FS := (sRet (fFn gTuple (faCons (fSl (fLst (faCons (fOp gMod (fOp gFdiv (fVar 0) (fC (.int 7))) (fC (.int 200))) (faCons (fOp gMod (fOp gFdiv (fVar 0) (fC (.int 1400))) (fC (.int 200))) faNil))) foNone (foSome (fOp gMod (fVar 0) (fC (.int 3))))) faNil)))
def F_law_calls : FN := FL.fnOf 1 B_law_calls
theorem ok_law_calls {P : Program} {w : World} {K : PySem.W.Frag} {mg : Str → Option Value} {base : Heap} (T : Tx K mg)  (D : ∃ fd, FunD K "_law_calls" "_law_calls" (defArgs s_law_calls) (defBody s_law_calls) (defScope s_law_calls) [] [] (He.ga K "_law_calls") fd) (g : mg "_law_calls" = some (.ref (He.ga K "_law_calls"))) : CalF P w K mg base 1 "_law_calls" 1 F_law_calls :=
  cal_mk D g sc_law_calls (fun _ _ _ _ _ _ us hl => match us, hl with | [_], _ => rfl) (body := B_law_calls) fun cdv A outer s H E hr =>
  (fb_one (fs_ret (fx_callT call_tuple_of o_tuple rfl T.z_tuple b_tuple (fa_cons (fx_sl (fx_lst (fa_cons (fx_op op_mod o_mod (fx_op op_fdivW o_fdiv (fx_var (pv 0)) fx_int) fx_int) (fa_cons (fx_op op_mod o_mod (fx_op op_fdivW o_fdiv (fx_var (pv 0)) fx_int) fx_int) fa_nil))) fo_none (fo_some (fx_op op_mod o_mod (fx_var (pv 0)) fx_int))) fa_nil))))
abbrev s_law_body : Stmt := top 4
theorem sc_law_body : FnScope ["_law_cell"] ["_law_cell"] (defScope s_law_body) := ⟨rfl, rfl, rfl, by decide +kernel, rfl, by decide +kernel, by decide +kernel⟩
def B_law_body : FS := (sRet (fOp gIx (fLst (faCons (fC (.str "main")) (faCons (fC (.str "fa")) (faCons (fC (.str "ka.m")) (faCons (fC (.str "kb.m")) faNil))))) (fOp gMod (fVar 0) (fC (.int 4)))))
def F_law_body : FN := FL.fnOf 1 B_law_body
theorem ok_law_body {P : Program} {w : World} {K : PySem.W.Frag} {mg : Str → Option Value} {base : Heap} (T : Tx K mg)  (D : ∃ fd, FunD K "_law_body" "_law_body" (defArgs s_law_body) (defBody s_law_body) (defScope s_law_body) [] [] (He.ga K "_law_body") fd) (g : mg "_law_body" = some (.ref (He.ga K "_law_body"))) : CalF P w K mg base 1 "_law_body" 1 F_law_body :=
  cal_mk D g sc_law_body (fun _ _ _ _ _ _ us hl => match us, hl with | [_], _ => rfl) (body := B_law_body) fun cdv A outer s H E hr =>
  (fb_one (fs_ret (fx_ix (fx_lst (fa_cons fx_str (fa_cons fx_str (fa_cons fx_str (fa_cons fx_str fa_nil))))) (fx_op op_mod o_mod (fx_var (pv 0)) fx_int) (fun _ _ => rfl))))
abbrev s_law_fact : Stmt := top 5
theorem sc_law_fact : FnScope ["_law_cell", "_law_other", "_law_calls_here", "_law_thing", "_law_row", "_law_body_here", "_law_x"] ["_law_cell", "_law_other"] (defScope s_law_fact) := ⟨rfl, rfl, rfl, by decide +kernel, rfl, by decide +kernel, by decide +kernel⟩
def B_law_fact : FS := (sSeq (sAsg (fFn (arity 1 F_law_calls) (faCons (fVar 1) faNil)) (gtName 2))
  (sSeq (sAsg (fTup (faCons (fOp gMod (fOp gFdiv (fVar 1) (fC (.int 3))) (fC (.int 200))) (faCons (fFn (arity 1 F_law_calls) (faCons (fOp gFdiv (fVar 1) (fC (.int 5))) faNil)) faNil))) (gtName 3))
  (sSeq (sAsg (fOp gMod (fOp gFdiv (fVar 0) (fC (.int 28))) (fC (.int 200))) (gtName 4))
  (sSeq (sAsg (fFn (arity 1 F_law_body) (faCons (fOp gFdiv (fVar 0) (fC (.int 7))) faNil)) (gtName 5))
  (sSeq (sAsg (fOp gIx (fLst (faCons (fC (.str "x")) (faCons (fC (.str "self")) (faCons (fC (.str "p")) (faCons (fC (.str "x.f")) faNil))))) (fOp gMod (fOp gFdiv (fVar 0) (fC (.int 5600))) (fC (.int 4)))) (gtName 6))
  (sSeq (sIf (asB (fOp gEq (fOp gMod (fVar 0) (fC (.int 7))) (fC (.int 0)))) (sRet (fTup (faCons (fTup (faCons (fC (.str "reach")) (faCons (fVar 5) (faCons (fVar 2) faNil)))) (faCons (fTup (faCons (fC (.str "reach")) (faCons (fVar 5) faNil))) faNil)))) sNext)
  (sSeq (sIf (asB (fOp gEq (fOp gMod (fVar 0) (fC (.int 7))) (fC (.int 1)))) (sRet (fTup (faCons (fTup (faCons (fC (.str "goes")) (faCons (fVar 4) (faCons (fVar 2) (faCons (fVar 5) (faCons (fFn (arity 1 F_law_calls) (faCons (fOp gFdiv (fVar 1) (fC (.int 11))) faNil)) faNil)))))) (faCons (fTup (faCons (fC (.str "goes")) (faCons (fVar 4) faNil))) faNil)))) sNext)
  (sSeq (sIf (asB (fOp gEq (fOp gMod (fVar 0) (fC (.int 7))) (fC (.int 2)))) (sRet (fTup (faCons (fTup (faCons (fC (.str "holds")) (faCons (fTup (faCons (fC (.str "given")) (faCons (fVar 5) (faCons (fVar 2) faNil)))) (faCons (fVar 3) faNil)))) (faCons (fTup (faCons (fC (.str "given")) (faCons (fVar 5) faNil))) faNil)))) sNext)
  (sSeq (sIf (asB (fOp gEq (fOp gMod (fVar 0) (fC (.int 7))) (fC (.int 3)))) (sRet (fTup (faCons (fTup (faCons (fC (.str "holds")) (faCons (fTup (faCons (fC (.str "field")) (faCons (fVar 4) (faCons (fVar 2) (faCons (fSl (fVar 6) foNone (foSome (fC (.int 1)))) faNil))))) (faCons (fVar 3) faNil)))) (faCons (fTup (faCons (fC (.str "field")) (faCons (fSl (fVar 6) foNone (foSome (fC (.int 1)))) faNil))) faNil)))) sNext)
  (sSeq (sIf (asB (fOp gEq (fOp gMod (fVar 0) (fC (.int 7))) (fC (.int 4)))) (sRet (fTup (faCons (fTup (faCons (fC (.str "holds")) (faCons (fTup (faCons (fC (.str "each")) (faCons (fVar 4) (faCons (fVar 2) faNil)))) (faCons (fVar 3) faNil)))) (faCons (fTup (faCons (fC (.str "each")) faNil)) faNil)))) sNext)
  (sSeq (sIf (asB (fOp gEq (fOp gMod (fVar 0) (fC (.int 7))) (fC (.int 5)))) (sRet (fTup (faCons (fTup (faCons (fC (.str "holds")) (faCons (fTup (faCons (fC (.str "kept")) (faCons (fVar 4) (faCons (fVar 2) (faCons (fSl (fVar 6) foNone (foSome (fC (.int 1)))) faNil))))) (faCons (fVar 3) faNil)))) (faCons (fTup (faCons (fC (.str "kept")) (faCons (fVar 4) (faCons (fSl (fVar 6) foNone (foSome (fC (.int 1)))) faNil)))) faNil)))) sNext)
  (sRet (fTup (faCons (fTup (faCons (fC (.str "holds")) (faCons (fTup (faCons (fC (.str "local")) (faCons (fVar 5) (faCons (fVar 2) (faCons (fVar 6) faNil))))) (faCons (fVar 3) faNil)))) (faCons (fTup (faCons (fC (.str "local")) (faCons (fVar 5) (faCons (fVar 6) faNil)))) faNil)))))))))))))))
def F_law_fact : FN := FL.fnOf 7 B_law_fact
theorem ok_law_fact {P : Program} {w : World} {K : PySem.W.Frag} {mg : Str → Option Value} {base : Heap} (T : Tx K mg) (c_law_calls : CalF P w K mg base 1 "_law_calls" 1 F_law_calls) (c_law_body : CalF P w K mg base 1 "_law_body" 1 F_law_body) (D : ∃ fd, FunD K "_law_fact" "_law_fact" (defArgs s_law_fact) (defBody s_law_fact) (defScope s_law_fact) [] [] (He.ga K "_law_fact") fd) (g : mg "_law_fact" = some (.ref (He.ga K "_law_fact"))) : CalF P w K mg base 2 "_law_fact" 2 F_law_fact :=
  cal_mk D g sc_law_fact (fun _ _ _ _ _ _ us hl => match us, hl with | [_, _], _ => rfl) (body := B_law_fact) fun cdv A outer s H E hr =>
  (fb_cons (fs_set (i := 2) sc_law_fact.nd rfl (by first | exact .inl rfl | exact .inr rfl) (fx_call c_law_calls hr (by decide) rfl (takes_of rfl rfl rfl rfl) (fa_cons (fx_var (pv 1)) fa_nil)))
  (fb_cons (fs_set (i := 3) sc_law_fact.nd rfl (by first | exact .inl rfl | exact .inr rfl) (fx_tup (fa_cons (fx_op op_mod o_mod (fx_op op_fdivW o_fdiv (fx_var (pv 1)) fx_int) fx_int) (fa_cons (fx_call c_law_calls hr (by decide) rfl (takes_of rfl rfl rfl rfl) (fa_cons (fx_op op_fdivW o_fdiv (fx_var (pv 1)) fx_int) fa_nil)) fa_nil))))
  (fb_cons (fs_set (i := 4) sc_law_fact.nd rfl (by first | exact .inl rfl | exact .inr rfl) (fx_op op_mod o_mod (fx_op op_fdivW o_fdiv (fx_var (pv 0)) fx_int) fx_int))
  (fb_cons (fs_set (i := 5) sc_law_fact.nd rfl (by first | exact .inl rfl | exact .inr rfl) (fx_call c_law_body hr (by decide) rfl (takes_of rfl rfl rfl rfl) (fa_cons (fx_op op_fdivW o_fdiv (fx_var (pv 0)) fx_int) fa_nil)))
  (fb_cons (fs_set (i := 6) sc_law_fact.nd rfl (by first | exact .inl rfl | exact .inr rfl) (fx_ix (fx_lst (fa_cons fx_str (fa_cons fx_str (fa_cons fx_str (fa_cons fx_str fa_nil))))) (fx_op op_mod o_mod (fx_op op_fdivW o_fdiv (fx_var (pv 0)) fx_int) fx_int) (fun _ _ => rfl)))
  (fb_cons (fs_if (ft_cmp (op_eqA hr.units) o_eq (fx_op op_mod o_mod (fx_var (pv 0)) fx_int) fx_int (nomark _)) (fb_one (fs_ret (fx_tup (fa_cons (fx_tup (fa_cons fx_str (fa_cons (fx_var (pv 5)) (fa_cons (fx_var (pv 2)) fa_nil)))) (fa_cons (fx_tup (fa_cons fx_str (fa_cons (fx_var (pv 5)) fa_nil))) fa_nil))))) fb_nil)
  (fb_cons (fs_if (ft_cmp (op_eqA hr.units) o_eq (fx_op op_mod o_mod (fx_var (pv 0)) fx_int) fx_int (nomark _)) (fb_one (fs_ret (fx_tup (fa_cons (fx_tup (fa_cons fx_str (fa_cons (fx_var (pv 4)) (fa_cons (fx_var (pv 2)) (fa_cons (fx_var (pv 5)) (fa_cons (fx_call c_law_calls hr (by decide) rfl (takes_of rfl rfl rfl rfl) (fa_cons (fx_op op_fdivW o_fdiv (fx_var (pv 1)) fx_int) fa_nil)) fa_nil)))))) (fa_cons (fx_tup (fa_cons fx_str (fa_cons (fx_var (pv 4)) fa_nil))) fa_nil))))) fb_nil)
  (fb_cons (fs_if (ft_cmp (op_eqA hr.units) o_eq (fx_op op_mod o_mod (fx_var (pv 0)) fx_int) fx_int (nomark _)) (fb_one (fs_ret (fx_tup (fa_cons (fx_tup (fa_cons fx_str (fa_cons (fx_tup (fa_cons fx_str (fa_cons (fx_var (pv 5)) (fa_cons (fx_var (pv 2)) fa_nil)))) (fa_cons (fx_var (pv 3)) fa_nil)))) (fa_cons (fx_tup (fa_cons fx_str (fa_cons (fx_var (pv 5)) fa_nil))) fa_nil))))) fb_nil)
  (fb_cons (fs_if (ft_cmp (op_eqA hr.units) o_eq (fx_op op_mod o_mod (fx_var (pv 0)) fx_int) fx_int (nomark _)) (fb_one (fs_ret (fx_tup (fa_cons (fx_tup (fa_cons fx_str (fa_cons (fx_tup (fa_cons fx_str (fa_cons (fx_var (pv 4)) (fa_cons (fx_var (pv 2)) (fa_cons (fx_sl (fx_var (pv 6)) fo_none (fo_some fx_int)) fa_nil))))) (fa_cons (fx_var (pv 3)) fa_nil)))) (fa_cons (fx_tup (fa_cons fx_str (fa_cons (fx_sl (fx_var (pv 6)) fo_none (fo_some fx_int)) fa_nil))) fa_nil))))) fb_nil)
  (fb_cons (fs_if (ft_cmp (op_eqA hr.units) o_eq (fx_op op_mod o_mod (fx_var (pv 0)) fx_int) fx_int (nomark _)) (fb_one (fs_ret (fx_tup (fa_cons (fx_tup (fa_cons fx_str (fa_cons (fx_tup (fa_cons fx_str (fa_cons (fx_var (pv 4)) (fa_cons (fx_var (pv 2)) fa_nil)))) (fa_cons (fx_var (pv 3)) fa_nil)))) (fa_cons (fx_tup (fa_cons fx_str fa_nil)) fa_nil))))) fb_nil)
  (fb_cons (fs_if (ft_cmp (op_eqA hr.units) o_eq (fx_op op_mod o_mod (fx_var (pv 0)) fx_int) fx_int (nomark _)) (fb_one (fs_ret (fx_tup (fa_cons (fx_tup (fa_cons fx_str (fa_cons (fx_tup (fa_cons fx_str (fa_cons (fx_var (pv 4)) (fa_cons (fx_var (pv 2)) (fa_cons (fx_sl (fx_var (pv 6)) fo_none (fo_some fx_int)) fa_nil))))) (fa_cons (fx_var (pv 3)) fa_nil)))) (fa_cons (fx_tup (fa_cons fx_str (fa_cons (fx_var (pv 4)) (fa_cons (fx_sl (fx_var (pv 6)) fo_none (fo_some fx_int)) fa_nil)))) fa_nil))))) fb_nil)
  (fb_one (fs_ret (fx_tup (fa_cons (fx_tup (fa_cons fx_str (fa_cons (fx_tup (fa_cons fx_str (fa_cons (fx_var (pv 5)) (fa_cons (fx_var (pv 2)) (fa_cons (fx_var (pv 6)) fa_nil))))) (fa_cons (fx_var (pv 3)) fa_nil)))) (fa_cons (fx_tup (fa_cons fx_str (fa_cons (fx_var (pv 5)) (fa_cons (fx_var (pv 6)) fa_nil)))) fa_nil))))))))))))))))
abbrev s_law : Stmt := top 7
theorem sc_law : FnScope ["_law_script", "_law_other", "_law_cell", "_law_mixed", "_law_fact_here", "_law_due"] ["_law_script"] (defScope s_law) := ⟨rfl, rfl, rfl, by decide +kernel, rfl, by decide +kernel, by decide +kernel⟩
def B_law : FS := (sSeq (sAsg (fC (.int 0)) (gtName 1))
  (sSeq (sFor (fiAny (fVar 0)) (gtName 2) (sSeq (sAsg (fOp gMod (fOp gMul (fVar 2) (fC (.int 618033988749894848204587))) (fOp gAdd (fOp gPow (fC (.int 10)) (fC (.int 24))) (fC (.int 7)))) (gtName 3))
  (sSeq (sAsg (fFn (arity 2 F_law_fact) (faCons (fVar 3) (faCons (fVar 1) faNil))) (gtTup 2 (gtCons (gtName 4) (gtCons (gtName 5) gtNil))))
  (sSeq (sIf (ftNot (asB (fFn (arity 2 F_law_right) (faCons (fFn (arity 1 F_want_of) (faCons (fVar 4) faNil)) (faCons (fVar 5) faNil))))) (sRet (fC (.bl false))) sNext)
  (sSeq (sAsg (fFn (arity 2 F_law_fact) (faCons (fVar 3) (faCons (fOp gFdiv (fVar 3) (fOp gPow (fC (.int 10)) (fC (.int 9)))) faNil))) (gtTup 2 (gtCons (gtName 4) (gtCons (gtName 5) gtNil))))
  (sSeq (sIf (ftNot (asB (fFn (arity 2 F_law_right) (faCons (fFn (arity 1 F_want_of) (faCons (fVar 4) faNil)) (faCons (fVar 5) faNil))))) (sRet (fC (.bl false))) sNext)
  (sAsg (fVar 3) (gtName 1))))))))
  (sRet (fC (.bl true)))))
def F_law : FN := FL.fnOf 6 B_law
theorem ok_law {P : Program} {w : World} {K : PySem.W.Frag} {mg : Str → Option Value} (T : Tx K mg) (X : ∀ base : Heap, CalF P w K mg base 1 "_law_right" 2 F_law_right ∧ CalF P w K mg base 1 "want_of" 1 F_want_of ∧ CalF P w K mg base 2 "_law_fact" 2 F_law_fact ∧ True) (D : ∃ fd, FunD K "law" "law" (defArgs s_law) (defBody s_law) (defScope s_law) [] [] (He.ga K "law") fd) :
    ∃ fd : FuncData, (∀ (s : Shared) (v : Value), BindsTo s fd ⟨[v], []⟩ [("_law_script", v)]) ∧ ∀ base : Heap, FnOk P w K mg base (L2.CX P w) 3 (He.ga K "law") fd ["_law_script"] (spF P w K mg 1 F_law) :=
  law_mk D sc_law (fun _ _ _ _ _ _ us hl => match us, hl with | [_], _ => rfl) (body := B_law) fun base cdv A outer s H E hr => by
  obtain ⟨c_law_right, c_want_of, c_law_fact, _⟩ := X base
  exact (fb_cons (fs_set (i := 1) sc_law.nd rfl (by first | exact .inl rfl | exact .inr rfl) fx_int)
  (fb_cons (fs_for (passes_of rfl) rfl (fi_any (fx_var (pv 0))) (fg_name (i := 2) sc_law.nd rfl (by first | exact .inl rfl | exact .inr rfl)) (fb_cons (fs_set (i := 3) sc_law.nd rfl (by first | exact .inl rfl | exact .inr rfl) (fx_op op_mod o_mod (fx_op op_mulB o_mul (fx_var (pv 2)) fx_int) (fx_op op_addA o_add (fx_op op_pow o_pow fx_int fx_int) fx_int)))
  (fb_cons (fs_asg (fx_call c_law_fact hr (by decide) rfl (takes_of rfl rfl rfl rfl) (fa_cons (fx_var (pv 3)) (fa_cons (fx_var (pv 1)) fa_nil))) (fg_tup rfl (fgs_cons (fg_name (i := 4) sc_law.nd rfl (by first | exact .inl rfl | exact .inr rfl)) (fgs_cons (fg_name (i := 5) sc_law.nd rfl (by first | exact .inl rfl | exact .inr rfl)) fgs_nil))))
  (fb_cons (fs_if (ft_not (ft_val (fx_call c_law_right hr (by decide) rfl (takes_of rfl rfl rfl rfl) (fa_cons (fx_call c_want_of hr (by decide) rfl (takes_of rfl rfl rfl rfl) (fa_cons (fx_var (pv 4)) fa_nil)) (fa_cons (fx_var (pv 5)) fa_nil))))) (fb_one (fs_ret fx_bl)) fb_nil)
  (fb_cons (fs_asg (fx_call c_law_fact hr (by decide) rfl (takes_of rfl rfl rfl rfl) (fa_cons (fx_var (pv 3)) (fa_cons (fx_op op_fdivW o_fdiv (fx_var (pv 3)) (fx_op op_pow o_pow fx_int fx_int)) fa_nil))) (fg_tup rfl (fgs_cons (fg_name (i := 4) sc_law.nd rfl (by first | exact .inl rfl | exact .inr rfl)) (fgs_cons (fg_name (i := 5) sc_law.nd rfl (by first | exact .inl rfl | exact .inr rfl)) fgs_nil))))
  (fb_cons (fs_if (ft_not (ft_val (fx_call c_law_right hr (by decide) rfl (takes_of rfl rfl rfl rfl) (fa_cons (fx_call c_want_of hr (by decide) rfl (takes_of rfl rfl rfl rfl) (fa_cons (fx_var (pv 4)) fa_nil)) (fa_cons (fx_var (pv 5)) fa_nil))))) (fb_one (fs_ret fx_bl)) fb_nil)
  (fb_one (fs_set (i := 1) sc_law.nd rfl (by first | exact .inl rfl | exact .inr rfl) (fx_var (pv 3))))))))))
  (fb_one (fs_ret fx_bl))))
/-! ### the head -/
def d_law_right : He.DefD := ⟨("_law_right", none), "_law_right", "_law_right", defArgs s_law_right, defBody s_law_right, defScope s_law_right, [], []⟩
def d_want_of : He.DefD := ⟨("want_of", none), "want_of", "want_of", defArgs s_want_of, defBody s_want_of, defScope s_want_of, [], []⟩
def d_law_calls : He.DefD := ⟨("_law_calls", none), "_law_calls", "_law_calls", defArgs s_law_calls, defBody s_law_calls, defScope s_law_calls, [], []⟩
def d_law_body : He.DefD := ⟨("_law_body", none), "_law_body", "_law_body", defArgs s_law_body, defBody s_law_body, defScope s_law_body, [], []⟩
def d_law_fact : He.DefD := ⟨("_law_fact", none), "_law_fact", "_law_fact", defArgs s_law_fact, defBody s_law_fact, defScope s_law_fact, [], []⟩
def d_law : He.DefD := ⟨("law", none), "law", "law", defArgs s_law, defBody s_law, defScope s_law, [], []⟩
def fn : List He.DefD := [d_law_right, d_want_of, d_law_calls, d_law_body, d_law_fact, d_law]
def fa : List He.Fa := [.glo "_law_right", .glo "want_of", .glo "_law_calls", .glo "_law_body", .glo "_law_fact", .glo "law", .free "isinstance", .free "bool", .free "tuple"]
abbrev R : PySem.W.OpenRow := PySem.W.OpenLaw.row PySem.Challenge.rw_pointsure_k40_wants_of_facts
abbrev hk : PySem.W.Hook := He.hookD 6 fa fn
def ob (s : PySem.W.SharedT) : He.AlD := He.obsDG 6 fa fn (HandSHeadRun.getT s)
theorem ob_eq (s : PySem.W.SharedT) : ob s = hk.obs s.abs := He.obsDG_eq (HandSHeadRun.getT_eq s)
def loose0 : List Str := ["want_of", "_law_calls", "_law_body", "_law_fact", "_law_right"]
def loose : List Str := loose0
theorem run (w : World) : HandSHeadRun.RunEq R (PySem.W.view R.prog [7]) hk ob 4000 loose w := by
  intro os
  kernel_rfl
theorem facts {P : Program} {w : World} {K : PySem.W.Frag} {h : Heap} {mg : Str → Option Value} (X : K.In h) (G : h.Ns mainGlobals mg) (c : He.SaysD fa fn K) :
    ∃ fd : FuncData, (∀ (s : Shared) (v : Value), BindsTo s fd ⟨[v], []⟩ [("_law_script", v)]) ∧ ∀ base : Heap, FnOk P w K mg base (L2.CX P w) 3 (He.ga K "law") fd ["_law_script"] (spF P w K mg 1 F_law) := by
  have T : Tx K mg := ⟨trivial, He.free_ok X G (c.fact 6 (f := .free "isinstance") rfl), He.free_ok X G (c.fact 7 (f := .free "bool") rfl), He.free_ok X G (c.fact 8 (f := .free "tuple") rfl)⟩
  have c_law_right : ∀ base : Heap, CalF P w K mg base 1 "_law_right" 2 F_law_right := fun base => ok_law_right T  (c.def_ 0 (d := d_law_right) rfl) (He.glo_ok X G (c.fact 0 (f := .glo "_law_right") rfl))
  have c_want_of : ∀ base : Heap, CalF P w K mg base 1 "want_of" 1 F_want_of := fun base => ok_want_of T  (c.def_ 1 (d := d_want_of) rfl) (He.glo_ok X G (c.fact 1 (f := .glo "want_of") rfl))
  have c_law_calls : ∀ base : Heap, CalF P w K mg base 1 "_law_calls" 1 F_law_calls := fun base => ok_law_calls T  (c.def_ 2 (d := d_law_calls) rfl) (He.glo_ok X G (c.fact 2 (f := .glo "_law_calls") rfl))
  have c_law_body : ∀ base : Heap, CalF P w K mg base 1 "_law_body" 1 F_law_body := fun base => ok_law_body T  (c.def_ 3 (d := d_law_body) rfl) (He.glo_ok X G (c.fact 3 (f := .glo "_law_body") rfl))
  have c_law_fact : ∀ base : Heap, CalF P w K mg base 2 "_law_fact" 2 F_law_fact := fun base => ok_law_fact T (c_law_calls base) (c_law_body base) (c.def_ 4 (d := d_law_fact) rfl) (He.glo_ok X G (c.fact 4 (f := .glo "_law_fact") rfl))
  exact ok_law T (fun base => ⟨c_law_right base, c_want_of base, c_law_fact base, trivial⟩) (c.def_ 5 (d := d_law) rfl)
end G

set_option maxHeartbeats 4000000
namespace My
open PySem FL G
local macro_rules | `(tactic| walk_at "fl") => `(tactic| simp (disch := decide +kernel) only [FL.mod_ok, FL.fdiv_ok, FL.small_ok, FL.pow_ok, Int.reducePow, Int.reduceToNat, FL.fnOf, startR, fVar, fC, faNil, faCons, fTup, fLst, fOp, fFn, fSl, foNone, foSome, gSl, gIx, asB, ftNot, ftAnd, ftOr, sNext, sSeq, sDrop, sRet, sIf, sAsg, gtName, gtNil, gtCons, gtTup, arity,
  bind_ok, stm_ok, seq_next, seq_ret, seq_ex, sub_ok, add_ok, gTuple, gList, lstOf, h_get0, h_getk, h_app, h_len, h_set0, h_setk, atI_2, atI_3, atI_4, pick2_str, pick3_str, pick4_str, pick2_tup, pick4_tup, veq_int, vne_int, veq_str1, veq_str0, vne_str1, vne_str0,
  List.map_cons, List.map_nil, List.length_cons, List.length_nil, List.replicate, List.cons_append, List.nil_append, List.getElem?_cons_zero, List.getElem?_cons_succ, List.set_cons_zero, List.set_cons_succ, Nat.reduceSub, Nat.reduceAdd, if_true, decide_eq_true_eq, Bool.not_eq_true', Bool.not_true, Bool.not_false, Bool.false_eq_true, if_false, decide_eq_false_iff_not, not_true_eq_false, not_false_eq_true, decide_true, decide_false])
def callsV (c : Int) : List MV := FL.cutM [.int (c / 7 % 200), .int (c / 1400 % 200)] none (some (c % 3))
def callsG (c : Int) : MH := [.lst [.int (c / 7 % 200), .int (c / 1400 % 200)], .lst (callsV c)]
theorem calls_ok (c : Int) (M : MH) : F_law_calls [.int c] M = .ok (.tup (callsV c)) (M ++ callsG c) := by
  unfold F_law_calls B_law_calls
  (try walk_at "fl")
  rfl
def bodyV (c : Int) : Str := pick4 "main" "fa" "ka.m" "kb.m" c
def bodyG : MH := [.lst [.str "main", .str "fa", .str "ka.m", .str "kb.m"]]
theorem body_ok (c : Int) (M : MH) : F_law_body [.int c] M = .ok (.str (bodyV c)) (M ++ bodyG) := by
  unfold F_law_body B_law_body
  (try walk_at "fl")
  rfl
def Good (d : MV) : Prop := ∃ ds : List MV, d = .tup ds ∧ ds.length ≤ 3 ∧ ∀ x ∈ ds, (∃ i, x = .int i) ∨ ∃ s : Str, x = .str s ∧ PyData.strOk s = true
theorem good_int {i : Int} : (∃ j, MV.int i = .int j) ∨ ∃ s : Str, MV.int i = .str s ∧ PyData.strOk s = true := .inl ⟨i, rfl⟩
theorem good_str {s : Str} (h : PyData.strOk s = true) : (∃ j, MV.str s = .int j) ∨ ∃ t : Str, MV.str s = .str t ∧ PyData.strOk t = true := .inr ⟨s, rfl, h⟩
theorem good1 {a : MV} (ha : (∃ j, a = .int j) ∨ ∃ t : Str, a = .str t ∧ PyData.strOk t = true) : Good (.tup [a]) := ⟨_, rfl, by simp, fun x hx => by
  simp only [List.mem_cons, List.not_mem_nil, or_false] at hx
  subst hx
  exact ha⟩
theorem good2 {a b : MV} (ha : (∃ j, a = .int j) ∨ ∃ t : Str, a = .str t ∧ PyData.strOk t = true) (hb : (∃ j, b = .int j) ∨ ∃ t : Str, b = .str t ∧ PyData.strOk t = true) : Good (.tup [a, b]) := ⟨_, rfl, by simp, fun x hx => by
  simp only [List.mem_cons, List.not_mem_nil, or_false] at hx
  rcases hx with rfl | rfl <;> assumption⟩
theorem good3 {a b c : MV} (ha : (∃ j, a = .int j) ∨ ∃ t : Str, a = .str t ∧ PyData.strOk t = true) (hb : (∃ j, b = .int j) ∨ ∃ t : Str, b = .str t ∧ PyData.strOk t = true) (hc : (∃ j, c = .int j) ∨ ∃ t : Str, c = .str t ∧ PyData.strOk t = true) : Good (.tup [a, b, c]) := ⟨_, rfl, by simp, fun x hx => by
  simp only [List.mem_cons, List.not_mem_nil, or_false] at hx
  rcases hx with rfl | rfl | rfl <;> assumption⟩
theorem want_reach (a b : MV) (M : MH) : F_want_of [.tup [.str "reach", a, b]] M = .ok (.tup [.str "reach", a]) M := by
  unfold F_want_of B_want_of
  (try walk_at "fl")
  rfl
theorem xV_small (i : Int) : FL.small (pick4 (Str.ofString "x") (Str.ofString "self") (Str.ofString "p") (Str.ofString "x.f") i).length = true := pick4_of (p := fun s : Str => FL.small s.length = true) (by decide +kernel) (by decide +kernel) (by decide +kernel) (by decide +kernel) i
theorem xV_ok (i : Int) : PyData.strOk (pick4 (Str.ofString "x") (Str.ofString "self") (Str.ofString "p") (Str.ofString "x.f") i) = true := pick4_of (p := fun s : Str => PyData.strOk s = true) (by decide +kernel) (by decide +kernel) (by decide +kernel) (by decide +kernel) i
theorem xV_ok1 (i : Int) : PyData.strOk (L2.cutS (pick4 (Str.ofString "x") (Str.ofString "self") (Str.ofString "p") (Str.ofString "x.f") i) none (some 1)) = true := pick4_of (p := fun s : Str => PyData.strOk (L2.cutS s none (some 1)) = true) (by decide +kernel) (by decide +kernel) (by decide +kernel) (by decide +kernel) i
theorem bodyV_ok (i : Int) : PyData.strOk (bodyV i) = true := pick4_of (p := fun s : Str => PyData.strOk s = true) (by decide +kernel) (by decide +kernel) (by decide +kernel) (by decide +kernel) i
theorem fact_ok (m o : Int) (M : MH) : ∃ f d G, F_law_fact [.int m, .int o] M = .ok (.tup [f, d]) (M ++ G) ∧ (∀ M', F_want_of [f] M' = .ok d M') ∧ Good d := by
  unfold F_law_fact B_law_fact
  (try walk_at "fl")
  simp only [calls_ok, body_ok]
  (try walk_at "fl")
  simp only [calls_ok, body_ok]
  (try walk_at "fl")
  simp only [body_ok]
  (try walk_at "fl")
  by_cases h0 : m % 7 = 0
  · simp only [if_pos h0]
    (try walk_at "fl")
    refine ⟨_, _, _, rfl, fun M' => ?_, good2 (good_str (by decide +kernel)) (good_str (bodyV_ok _))⟩
    unfold F_want_of B_want_of
    (try walk_at "fl")
    rfl
  simp only [if_neg h0]
  (try walk_at "fl")
  by_cases h1 : m % 7 = 1
  · simp only [if_pos h1]
    (try walk_at "fl")
    simp only [calls_ok]
    (try walk_at "fl")
    refine ⟨_, _, _, rfl, fun M' => ?_, good2 (good_str (by decide +kernel)) good_int⟩
    unfold F_want_of B_want_of
    (try walk_at "fl")
    rfl
  simp only [if_neg h1]
  (try walk_at "fl")
  by_cases h2 : m % 7 = 2
  · simp only [if_pos h2]
    (try walk_at "fl")
    refine ⟨_, _, _, rfl, fun M' => ?_, good2 (good_str (by decide +kernel)) (good_str (bodyV_ok _))⟩
    unfold F_want_of B_want_of
    (try walk_at "fl")
    rfl
  simp only [if_neg h2]
  (try walk_at "fl")
  by_cases h3 : m % 7 = 3
  · simp only [if_pos h3]
    (try walk_at "fl")
    simp only [xV_small]
    (try walk_at "fl")
    refine ⟨_, _, _, rfl, fun M' => ?_, good2 (good_str (by decide +kernel)) (good_str (xV_ok1 _))⟩
    unfold F_want_of B_want_of
    (try walk_at "fl")
    rfl
  simp only [if_neg h3]
  (try walk_at "fl")
  by_cases h4 : m % 7 = 4
  · simp only [if_pos h4]
    (try walk_at "fl")
    refine ⟨_, _, _, rfl, fun M' => ?_, good1 (good_str (by decide +kernel))⟩
    unfold F_want_of B_want_of
    (try walk_at "fl")
    rfl
  simp only [if_neg h4]
  (try walk_at "fl")
  by_cases h5 : m % 7 = 5
  · simp only [if_pos h5]
    (try walk_at "fl")
    simp only [xV_small]
    (try walk_at "fl")
    refine ⟨_, _, _, rfl, fun M' => ?_, good3 (good_str (by decide +kernel)) good_int (good_str (xV_ok1 _))⟩
    unfold F_want_of B_want_of
    (try walk_at "fl")
    rfl
  simp only [if_neg h5]
  (try walk_at "fl")
  refine ⟨_, _, _, rfl, fun M' => ?_, good3 (good_str (by decide +kernel)) (good_str (bodyV_ok _)) (good_str (xV_ok _))⟩
  unfold F_want_of B_want_of
  (try walk_at "fl")
  rfl

theorem good_ok {d : MV} (h : Good d) : okV 1 d = true := by
  obtain ⟨ds, rfl, _, h⟩ := h
  show ds.all (okV 0) = true
  refine List.all_eq_true.mpr fun x hx => ?_
  rcases h x hx with ⟨i, rfl⟩ | ⟨s, rfl, hs⟩
  · rfl
  · exact hs
theorem right_ok {d : MV} (h : Good d) (M : MH) : F_law_right [d, d] M = .ok (.bl true) M := by
  have hd := good_ok h
  obtain ⟨ds, rfl, _, h⟩ := h
  have loop : ∀ (xs : List MV) (ρ2 : Option MV), (∀ x ∈ xs, (∃ i, x = .int i) ∨ ∃ s : Str, x = .str s ∧ PyData.strOk s = true) →
      ∃ ρ', loopF (fun _ => true) (gtName 2) (sIf (asB (fIsi "bool" (fVar 2))) (sRet (fC (.bl false))) sNext) xs [some (.tup ds), some (.tup ds), ρ2] M = .next ρ' M := by
    intro xs
    induction xs with
    | nil => exact fun ρ2 _ => ⟨_, rfl⟩
    | cons x xs ih =>
      intro ρ2 hx
      obtain ⟨ρ', e⟩ := ih (some x) fun y hy => hx y (List.mem_cons_of_mem _ hy)
      refine ⟨ρ', ?_⟩
      rw [← e]
      rcases hx x List.mem_cons_self with ⟨i, rfl⟩ | ⟨s, rfl, _⟩ <;> rfl
  obtain ⟨ρ', e⟩ := loop ds none h
  unfold F_law_right B_law_right
  have e1 : fIsi "tuple" (fVar 0) [some (.tup ds), some (.tup ds), none] M = .ok (.bl true) M := rfl
  have e2 : sFor (fiAny (fVar 0)) (gtName 2) (sIf (asB (fIsi "bool" (fVar 2))) (sRet (fC (.bl false))) sNext) [some (.tup ds), some (.tup ds), none] M = .next ρ' M := e
  (try walk_at "fl")
  simp only [e1, gNe_plain hd hd]
  (try walk_at "fl")
  simp only [e2]
  (try walk_at "fl")
def big : Int := 10 ^ 24 + 7
def bodyF : FS := (sSeq (sAsg (fOp gMod (fOp gMul (fVar 2) (fC (.int 618033988749894848204587))) (fOp gAdd (fOp gPow (fC (.int 10)) (fC (.int 24))) (fC (.int 7)))) (gtName 3))
  (sSeq (sAsg (fFn (arity 2 F_law_fact) (faCons (fVar 3) (faCons (fVar 1) faNil))) (gtTup 2 (gtCons (gtName 4) (gtCons (gtName 5) gtNil))))
  (sSeq (sIf (ftNot (asB (fFn (arity 2 F_law_right) (faCons (fFn (arity 1 F_want_of) (faCons (fVar 4) faNil)) (faCons (fVar 5) faNil))))) (sRet (fC (.bl false))) sNext)
  (sSeq (sAsg (fFn (arity 2 F_law_fact) (faCons (fVar 3) (faCons (fOp gFdiv (fVar 3) (fOp gPow (fC (.int 10)) (fC (.int 9)))) faNil))) (gtTup 2 (gtCons (gtName 4) (gtCons (gtName 5) gtNil))))
  (sSeq (sIf (ftNot (asB (fFn (arity 2 F_law_right) (faCons (fFn (arity 1 F_want_of) (faCons (fVar 4) faNil)) (faCons (fVar 5) faNil))))) (sRet (fC (.bl false))) sNext)
  (sAsg (fVar 3) (gtName 1)))))))
theorem turn_ok (s : MV) (o z : Int) (a b c : Option MV) (M : MH) (hz : Builtin.Int.intBits z ≤ 1048576) :
    ∃ (o' : Int) (a' b' c' : Option MV) (G : MH), bodyF [some s, some (.int o), some (.int z), a, b, c] M = .next [some s, some (.int o'), some (.int z), a', b', c'] (M ++ G) := by
  have hl : z.natAbs.log2 + (618033988749894848204587 : Int).natAbs.log2 < 130000000 := by
    have h1 := bits_log hz
    have h2 : (618033988749894848204587 : Int).natAbs.log2 ≤ 100 := by decide +kernel
    omega
  unfold bodyF
  (try walk_at "fl")
  simp only [mul_ok hl]
  (try walk_at "fl")
  obtain ⟨f, d, G1, e1, e2, e3⟩ := fact_ok (z * 618033988749894848204587 % (1000000000000000000000000 + 7)) o M
  simp only [e1]
  (try walk_at "fl")
  simp only [e2]
  (try walk_at "fl")
  simp only [right_ok e3]
  (try walk_at "fl")
  obtain ⟨f2, d2, G2, g1, g2, g3⟩ := fact_ok (z * 618033988749894848204587 % (1000000000000000000000000 + 7)) (z * 618033988749894848204587 % (1000000000000000000000000 + 7) / 1000000000) (M ++ G1)
  simp only [g1]
  (try walk_at "fl")
  simp only [g2]
  (try walk_at "fl")
  simp only [right_ok g3]
  (try walk_at "fl")
  exact ⟨_, _, _, _, _, rfl⟩
theorem law_true (ns : List Int) (hl : ns.length ≤ 63) (hb : ∀ z ∈ ns, Builtin.Int.intBits z ≤ 1048576) : ∃ M, F_law [.ref 0] [.cst (ns.map MV.int)] = .ok (.bl true) M := by
  have loop : ∀ (xs : List Int) (o : Int) (x2 a b c : Option MV) (G : MH), (∀ z ∈ xs, Builtin.Int.intBits z ≤ 1048576) →
      ∃ ρ' G', loopF (chkL 0 (ns.map MV.int)) (gtName 2) bodyF (xs.map MV.int) [some (.ref 0), some (.int o), x2, a, b, c] ([.cst (ns.map MV.int)] ++ G) = .next ρ' ([.cst (ns.map MV.int)] ++ G') := by
    intro xs
    induction xs with
    | nil => exact fun o x2 a b c G _ => ⟨_, _, rfl⟩
    | cons z xs ih =>
      intro o x2 a b c G hz
      obtain ⟨o', a', b', c', G1, e⟩ := turn_ok (.ref 0) o z a b c ([.cst (ns.map MV.int)] ++ G) (hz z List.mem_cons_self)
      obtain ⟨ρ', G', e2⟩ := ih o' (some (.int z)) a' b' c' (G ++ G1) fun y hy => hz y (List.mem_cons_of_mem _ hy)
      refine ⟨ρ', G', ?_⟩
      rw [← e2, List.map_cons]
      have e' : bodyF [some (.ref 0), some (.int o), some (.int z), a, b, c] ([.cst (ns.map MV.int)] ++ G) = .next [some (.ref 0), some (.int o'), some (.int z), a', b', c'] ([.cst (ns.map MV.int)] ++ (G ++ G1)) := by
        rw [e, List.append_assoc]
      have hc : chkL 0 (ns.map MV.int) ([.cst (ns.map MV.int)] ++ (G ++ G1)) = true := by
        show beqVs (ns.map MV.int) (ns.map MV.int) = true
        exact beqVs_self _
      simp only [loopF, gtName, List.set_cons_zero, List.set_cons_succ, e', hc, if_true]
  obtain ⟨ρ', G', e⟩ := loop ns 0 none none none none [] hb
  have hc : chkL 0 (ns.map MV.int) [.cst (ns.map MV.int)] = true := beqVs_self _
  have e2 : sFor (fiAny (fVar 0)) (gtName 2) bodyF [some (.ref 0), some (.int 0), none, none, none, none] [.cst (ns.map MV.int)] = .next ρ' ([.cst (ns.map MV.int)] ++ G') := by
    show (if chkL 0 (ns.map MV.int) [.cst (ns.map MV.int)] = true then loopF (chkL 0 (ns.map MV.int)) (gtName 2) bodyF (ns.map MV.int) [some (.ref 0), some (.int 0), none, none, none, none] [.cst (ns.map MV.int)] else .stuck) = _
    rw [if_pos hc]
    exact e
  refine ⟨[.cst (ns.map MV.int)] ++ G', ?_⟩
  have eB : F_law = FL.fnOf 6 (sSeq (sAsg (fC (.int 0)) (gtName 1)) (sSeq (sFor (fiAny (fVar 0)) (gtName 2) bodyF) (sRet (fC (.bl true))))) := rfl
  rw [eB]
  (try walk_at "fl")
  simp only [e2]
  (try walk_at "fl")
end My

set_option maxHeartbeats 0
open PySem PySem.W PySem.Calls PyProof.Rows
theorem PySem.Challenge.cw_pointsure_k40_wants_of_facts_holds : PySem.Challenge.rw_pointsure_k40_wants_of_facts.Holds := by
  w_on; o_law
  refine HandSHeadRun.head_any (r := OpenLaw.row PySem.Challenge.rw_pointsure_k40_wants_of_facts) (q := view (OpenLaw.row PySem.Challenge.rw_pointsure_k40_wants_of_facts).prog [7]) (H := G.hk) (ob := G.ob) (M := 4000) (loose := G.loose) (d := HandSHeadRun.topDef (OpenLaw.row PySem.Challenge.rw_pointsure_k40_wants_of_facts).prog 7) (kwd := []) G.ob_eq
    (by kernel_rfl) (fun s => by kernel_rfl) G.run (by kernel_rfl) (by kernel_rfl) (by kernel_rfl) (by rfl) (by first | assumption | decide +kernel) (by decide +kernel) ⟨rfl, rfl, rfl, rfl, rfl, by decide +kernel⟩ ?hw ?hc
  case hw => w_witness2
  case hc =>
    refine FL.walk_ofEB (l := PySem.Challenge.rw_pointsure_k40_wants_of_facts) (n := 63) (k := 3) (x := "_law_script") (CX := fun w => L2.CX (PySem.Challenge.rw_pointsure_k40_wants_of_facts).prog w) rfl (by decide) (by kernel_rfl) ⟨rfl, by decide, by decide⟩ ?F (fun _ _ _ _ _ z => by
      obtain ⟨_, _, _, _, _, _, _, _, _, _, _, _, z⟩ := z
      exact z)
    intro w mg fa h Y Gn hmg0
    obtain ⟨K, KX, c⟩ := Y
    have hmg : mg ("law" : PySem.Str) = some (.ref fa) := by
      have e : (HandSHeadRun.topDef (OpenLaw.row PySem.Challenge.rw_pointsure_k40_wants_of_facts).prog 7).name = ("law" : PySem.Str) := by kernel_rfl
      rw [← e]
      exact hmg0
    have e2 := hmg.symm.trans (He.glo_ok KX Gn (c.fact 5 (f := .glo "law") rfl))
    cases e2
    obtain ⟨fd, hb, hF⟩ := G.facts (P := (PySem.Challenge.rw_pointsure_k40_wants_of_facts).prog) (w := w) KX Gn c
    exact ⟨K, fd, _, KX, hb, fun H a ns hl hbits hO hS => FL.sp_law hO hS (My.law_true ns hl hbits), fun base _ _ => hF base⟩

