import PyProof.Rows.All
import Wide.All
import OpenK.AllK
import Wide.FinOn
import HandS.ForMost
import HandS.Exc
import HandS.ExcOwn
import HandS.TryOnly
import HandS.Wide
import HandS.IsInst
import KE.KDictKeyed
import HandS.TupAny
import HandS.TupLe
import HandS.Style
import HandS.EndBits
import HandS.HeadEnd
import HandS.WordsExc
import HandS.Defaults
import HandS.Head0
import HandS.Head1
import HandS.Head2
import HandS.HeadHook1
import HandS.HeadHook2
import HandS.Text
import HandS.Deep
import PySem.Challenge.RW_pointsure_k53_never_alike
set_option Elab.async false
set_option linter.all false
set_option maxRecDepth 100000
/-! A functional layer over the hand layer: values with tuples by value, a heap of mutable things by numbers, expressions and statements as functions. -/
namespace FL
open PySem PySem.Spec PyProof.Rows L2
abbrev St := L2.St

/-- a value: tuples by value, mutable things by their numbers -/
inductive MV where
  | non | bl (b : Bool) | int (i : Int) | str (x : Str) | tup (xs : List MV) | ref (n : Nat)
/-- a mutable thing: a list, a list that is read alone, a dict, an instance of a class -/
inductive MO where
  | lst (xs : List MV) | cst (xs : List MV) | dct (kvs : List (MV × MV)) | ins (c : Str) (fs : List (Str × MV))
abbrev MH := List MO
abbrev Rho := List (Option MV)
/-- what an expression comes to -/
inductive Res (α : Type) where
  | ok (a : α) (M : MH) | ex (c : Str) (fs : List (Str × MV)) (M : MH) | stuck
def Res.bind {α β : Type} (r : Res α) (k : α → MH → Res β) : Res β := match r with
  | .ok a M => k a M
  | .ex c fs M => .ex c fs M
  | .stuck => .stuck
/-- what a statement comes to -/
inductive RSt where
  | next (ρ : Rho) (M : MH) | ret (v : MV) (M : MH) | brk (ρ : Rho) (M : MH) | cnt (ρ : Rho) (M : MH) | ex (c : Str) (fs : List (Str × MV)) (ρ : Rho) (M : MH) | stuck
abbrev FE := Rho → MH → Res MV
abbrev FT := Rho → MH → Res Bool
abbrev FA := Rho → MH → Res (List MV)
abbrev FS := Rho → MH → RSt
abbrev FN := List MV → MH → Res MV
def Res.stm {α : Type} (r : Res α) (ρ : Rho) (k : α → MH → RSt) : RSt := match r with
  | .ok a M => k a M
  | .ex c fs M => .ex c fs ρ M
  | .stuck => .stuck
def RSt.seq (r : RSt) (k : Rho → MH → RSt) : RSt := match r with
  | .next ρ M => k ρ M
  | r => r

section
variable (K : PySem.W.Frag) (mg : Str → Option Value)
/-- a tuple of the written part -/
def KTup (a : Addr) (xs : List V) : Prop := ∃ (o : Obj) (its : Array Value) (n : Nat), K.lookup a = some o ∧ o.cls = .type "tuple" ∧ o.data = .seq its n ∧ its.size ≤ sizeLine ∧ Vals xs its.toList
/-- a list that is read alone: frozen, or of the written part -/
def CstAt (H : Hp) (a : Addr) (xs : List V) : Prop := (∃ o, H a = some (.frz o (.lst xs))) ∨
  ∃ (o : Obj) (its : Array Value) (n : Nat), K.lookup a = some o ∧ o.cls = .type "list" ∧ o.dict = none ∧ o.data = .seq its n ∧ its.size ≤ sizeLine ∧ Vals xs its.toList
def TupAt (H : Hp) (a : Addr) (xs : List V) : Prop := H a = some (.tup xs) ∨ KTup K a xs
mutual
def RV (π : List Addr) (H : Hp) : MV → V → Prop
  | .non, v => v = .non
  | .bl b, v => v = .bl b
  | .int i, v => v = .int i
  | .str x, v => v = .str x
  | .tup xs, v => ∃ a vs, v = .ref a ∧ TupAt K H a vs ∧ RVs π H xs vs
  | .ref n, v => ∃ a, v = .ref a ∧ π[n]? = some a
def RVs (π : List Addr) (H : Hp) : List MV → List V → Prop
  | [], vs => vs = []
  | x :: xs, vs => ∃ v ws, vs = v :: ws ∧ RV π H x v ∧ RVs π H xs ws
end
/-- names and values -/
def RFs (π : List Addr) (H : Hp) : List (Str × MV) → List (Str × V) → Prop
  | [], gs => gs = []
  | (f, x) :: fs, gs => ∃ v hs, gs = (f, v) :: hs ∧ RV K π H x v ∧ RFs π H fs hs
end

/-! ### lists of values -/
section
variable {K : PySem.W.Frag} {π π' : List Addr} {H H' : Hp}
theorem RVs.length : ∀ {xs : List MV} {vs : List V}, RVs K π H xs vs → xs.length = vs.length
  | [], _, h => by
    unfold RVs at h
    rw [h]
    rfl
  | _ :: _, _, h => by
    unfold RVs at h
    obtain ⟨v, ws, rfl, _, h2⟩ := h
    simp [RVs.length h2]
theorem RVs.get : ∀ {xs : List MV} {vs : List V} {i : Nat} {x : MV}, RVs K π H xs vs → xs[i]? = some x → ∃ v, vs[i]? = some v ∧ RV K π H x v
  | [], _, _, _, _, e => by simp at e
  | _ :: _, _, 0, _, h, e => by
    unfold RVs at h
    obtain ⟨v, ws, rfl, h1, h2⟩ := h
    simp at e
    subst e
    exact ⟨v, rfl, h1⟩
  | _ :: _, _, i + 1, x, h, e => by
    unfold RVs at h
    obtain ⟨v, ws, rfl, h1, h2⟩ := h
    obtain ⟨u, q1, q2⟩ := RVs.get (i := i) (x := x) h2 (by simpa using e)
    exact ⟨u, by simpa using q1, q2⟩
theorem RVs.nil : RVs K π H [] [] := by unfold RVs; rfl
theorem RVs.cons {x : MV} {xs : List MV} {v : V} {vs : List V} (h : RV K π H x v) (t : RVs K π H xs vs) : RVs K π H (x :: xs) (v :: vs) := by
  unfold RVs
  exact ⟨v, vs, rfl, h, t⟩
theorem RVs.uncons {x : MV} {xs : List MV} {vs : List V} (h : RVs K π H (x :: xs) vs) : ∃ v ws, vs = v :: ws ∧ RV K π H x v ∧ RVs K π H xs ws := by
  unfold RVs at h
  exact h
theorem RVs.unnil {vs : List V} (h : RVs K π H [] vs) : vs = [] := by
  unfold RVs at h
  exact h
theorem RVs.append : ∀ {xs ys : List MV} {vs ws : List V}, RVs K π H xs vs → RVs K π H ys ws → RVs K π H (xs ++ ys) (vs ++ ws)
  | [], _, _, _, h, t => by
    rw [h.unnil]
    exact t
  | _ :: _, _, _, _, h, t => by
    obtain ⟨v, us, rfl, h1, h2⟩ := h.uncons
    exact RVs.cons h1 (RVs.append h2 t)
theorem RVs.take : ∀ {xs : List MV} {vs : List V} (n : Nat), RVs K π H xs vs → RVs K π H (xs.take n) (vs.take n)
  | [], _, n, h => by
    rw [h.unnil]
    simpa using RVs.nil
  | _ :: _, _, 0, _ => by simpa using RVs.nil
  | _ :: _, _, n + 1, h => by
    obtain ⟨v, us, rfl, h1, h2⟩ := h.uncons
    exact RVs.cons h1 (RVs.take n h2)
theorem RVs.drop : ∀ {xs : List MV} {vs : List V} (n : Nat), RVs K π H xs vs → RVs K π H (xs.drop n) (vs.drop n)
  | [], _, n, h => by
    rw [h.unnil]
    simpa using RVs.nil
  | _ :: _, _, 0, h => by simpa using h
  | _ :: _, _, n + 1, h => by
    obtain ⟨v, us, rfl, h1, h2⟩ := h.uncons
    simpa using RVs.drop n h2
theorem RVs.set {y : MV} {u : V} (r : RV K π H y u) : ∀ {xs : List MV} {vs : List V} (i : Nat), RVs K π H xs vs → RVs K π H (xs.set i y) (vs.set i u)
  | [], _, i, h => by
    rw [h.unnil]
    simpa using RVs.nil
  | _ :: _, _, 0, h => by
    obtain ⟨v, us, rfl, h1, h2⟩ := h.uncons
    exact RVs.cons r h2
  | _ :: _, _, i + 1, h => by
    obtain ⟨v, us, rfl, h1, h2⟩ := h.uncons
    exact RVs.cons h1 (RVs.set r i h2)
theorem RVs.reverse : ∀ {xs : List MV} {vs : List V}, RVs K π H xs vs → RVs K π H xs.reverse vs.reverse
  | [], _, h => by
    rw [h.unnil]
    simpa using RVs.nil
  | _ :: _, _, h => by
    obtain ⟨v, us, rfl, h1, h2⟩ := h.uncons
    rw [List.reverse_cons, List.reverse_cons]
    exact RVs.append (RVs.reverse h2) (RVs.cons h1 RVs.nil)
theorem RFs.lookup : ∀ {fs : List (Str × MV)} {gs : List (Str × V)} {f : Str}, RFs K π H fs gs → (∀ x, fs.lookup f = some x → ∃ v, gs.lookup f = some v ∧ RV K π H x v) ∧ (fs.lookup f = none → gs.lookup f = none)
  | [], _, f, h => by
    unfold RFs at h
    subst h
    exact ⟨fun x e => by simp at e, fun _ => rfl⟩
  | (g, y) :: fs, _, f, h => by
    unfold RFs at h
    obtain ⟨v, hs, rfl, h1, h2⟩ := h
    have ih := RFs.lookup (f := f) h2
    rw [List.lookup_cons, List.lookup_cons]
    cases f == g with
    | true => exact ⟨fun x e => by cases e; exact ⟨v, rfl, h1⟩, fun e => by cases e⟩
    | false => exact ih
theorem RFs.length : ∀ {fs : List (Str × MV)} {gs : List (Str × V)}, RFs K π H fs gs → fs.length = gs.length
  | [], _, h => by
    unfold RFs at h
    subst h
    rfl
  | (g, y) :: fs, _, h => by
    unfold RFs at h
    obtain ⟨v, hs, rfl, h1, h2⟩ := h
    simp [RFs.length h2]

/-- the world grows: things keep their numbers, tuples stand -/
structure Ext (π : List Addr) (H : Hp) (π' : List Addr) (H' : Hp) : Prop where
  more : ∃ t, π' = π ++ t
  tups : ∀ b vs, H b = some (.tup vs) → H' b = some (.tup vs)
theorem Ext.refl : Ext π H π H := ⟨⟨[], by simp⟩, fun _ _ h => h⟩
theorem Ext.trans {π'' : List Addr} {H'' : Hp} (a : Ext π H π' H') (b : Ext π' H' π'' H'') : Ext π H π'' H'' := by
  obtain ⟨t, rfl⟩ := a.more
  obtain ⟨u, rfl⟩ := b.more
  exact ⟨⟨t ++ u, by simp⟩, fun c vs h => b.tups c vs (a.tups c vs h)⟩
theorem Ext.at {n : Nat} {a : Addr} (e : Ext π H π' H') (h : π[n]? = some a) : π'[n]? = some a := by
  obtain ⟨t, rfl⟩ := e.more
  rw [List.getElem?_append_left (List.getElem?_eq_some_iff.mp h).1]
  exact h
theorem TupAt.ext {a : Addr} {vs : List V} (e : Ext π H π' H') (h : TupAt K H a vs) : TupAt K H' a vs := h.imp (e.tups a vs) id
mutual
theorem RV.ext (e : Ext π H π' H') : ∀ {x : MV} {v : V}, RV K π H x v → RV K π' H' x v
  | .non, _, h => by unfold RV at h ⊢; exact h
  | .bl b, _, h => by unfold RV at h ⊢; exact h
  | .int i, _, h => by unfold RV at h ⊢; exact h
  | .str x, _, h => by unfold RV at h ⊢; exact h
  | .tup xs, _, h => by
    unfold RV at h ⊢
    obtain ⟨a, vs, e1, h1, h2⟩ := h
    exact ⟨a, vs, e1, h1.ext e, RVs.ext e h2⟩
  | .ref n, _, h => by
    unfold RV at h ⊢
    obtain ⟨a, e1, h1⟩ := h
    exact ⟨a, e1, e.at h1⟩
theorem RVs.ext (e : Ext π H π' H') : ∀ {xs : List MV} {vs : List V}, RVs K π H xs vs → RVs K π' H' xs vs
  | [], _, h => by unfold RVs at h ⊢; exact h
  | x :: xs, _, h => by
    unfold RVs at h ⊢
    obtain ⟨v, ws, e1, h1, h2⟩ := h
    exact ⟨v, ws, e1, RV.ext e h1, RVs.ext e h2⟩
end
theorem RFs.ext (e : Ext π H π' H') : ∀ {fs : List (Str × MV)} {gs : List (Str × V)}, RFs K π H fs gs → RFs K π' H' fs gs
  | [], _, h => by unfold RFs at h ⊢; exact h
  | (f, x) :: fs, _, h => by
    unfold RFs at h ⊢
    obtain ⟨v, hs, e1, h1, h2⟩ := h
    exact ⟨v, hs, e1, h1.ext e, RFs.ext e h2⟩

/-- an object's own place is written: its tuples stand -/
theorem Ext.write {a : Addr} {o u : HO} (h : H a = some o) (ho : ∀ vs, o ≠ .tup vs) : Ext π H π (upd H a u) :=
  ⟨⟨[], by simp⟩, fun b vs e => by rw [upd_ne (ne_of e h fun z => ho vs z.symm)]; exact e⟩
theorem Ext.new {a : Addr} {u : HO} (h : H a = none) : Ext π H π (upd H a u) := ⟨⟨[], by simp⟩, fun b vs e => by rw [upd_ne (ne_of_none e h)]; exact e⟩
theorem Ext.push {a : Addr} {u : HO} (h : H a = none) : Ext π H (π ++ [a]) (upd H a u) := ⟨⟨[a], rfl⟩, fun b vs e => by rw [upd_ne (ne_of_none e h)]; exact e⟩
end


/-! ### what stands at a thing's place -/
mutual
/-- a key of a dict: what hashes by its value -/
def keyOf : MV → Option NestedKey
  | .non => some .none
  | .int i => some (.num i)
  | .str x => some (.text x)
  | .tup xs => (keysOf xs).map .tup
  | .bl _ => none
  | .ref _ => none
def keysOf : List MV → Option (List NestedKey)
  | [] => some []
  | x :: xs => match keyOf x, keysOf xs with
    | some k, some ks => some (k :: ks)
    | _, _ => none
end
/-- a flat key -/
def flatOf : MV → Option Key
  | .int i => some (.inl i)
  | .str x => some (.inr x)
  | _ => none
/-- a dict whose keys are tuples: the keys, where their tuples stand, the values -/
def dN (P : Program) (w : World) (a : Addr) (xs : List (NestedKey × Addr × V)) : HO := .ext fun h =>
  (a == sysModules) = false ∧ xs.length ≤ sizeLine ∧ ∃ us : List (NestedKey × Addr × Value), Paired (fun (p : NestedKey × Addr × V) (q : NestedKey × Addr × Value) => p.1 = q.1 ∧ p.2.1 = q.2.1 ∧ RelV p.2.2 q.2.2) xs us ∧
    ∃ o es ep, h.get? a = some o ∧ o.ExactDict ∧ o.data = .dict es ep ∧ es.toList = us.map (entryOfKey (nestedKind P w)) ∧ (us.map (·.1)).Nodup
section
variable (P : Program) (w : World) (K : PySem.W.Frag) (mg : Str → Option Value)
/-- a dict's entries with flat keys -/
def RDk (π : List Addr) (H : Hp) : List (MV × MV) → List (Key × V) → Prop
  | [], gs => gs = []
  | (k, x) :: kvs, gs => ∃ q v hs, gs = (q, v) :: hs ∧ flatOf k = some q ∧ RV K π H x v ∧ RDk π H kvs hs
/-- a dict's entries with tuples as keys -/
def RDn (π : List Addr) (H : Hp) : List (MV × MV) → List (NestedKey × Addr × V) → Prop
  | [], gs => gs = []
  | (k, x) :: kvs, gs => ∃ q b v hs, gs = (q, b, v) :: hs ∧ keyOf k = some q ∧ q.depth ≤ 8 ∧ RV K π H k (.ref b) ∧ RV K π H x v ∧ RDn π H kvs hs
def RO (π : List Addr) (H : Hp) (a : Addr) : MO → Prop
  | .lst xs => ∃ vs, H a = some (.lst vs) ∧ RVs K π H xs vs
  | .cst xs => ∃ vs, CstAt K H a vs ∧ RVs K π H xs vs
  | .dct kvs => (∃ gs, H a = some (.dK gs) ∧ RDk K π H kvs gs) ∨ (∃ gs, kvs ≠ [] ∧ H a = some (dN P w a gs) ∧ RDn K π H kvs gs)
  | .ins c fs => ∃ C dx gs, mg c = some (.ref C) ∧ H a = some (.ins C dx gs) ∧ RFs K π H fs gs
def isC : MO → Bool
  | .cst _ => true
  | _ => false
structure RM (π : List Addr) (H : Hp) (M : MH) : Prop where
  len : π.length = M.length
  inj : ∀ (i j : Nat) (a : Addr) (o u : MO), π[i]? = some a → π[j]? = some a → M[i]? = some o → M[j]? = some u → isC o = false → isC u = false → i = j
  ob : ∀ (i : Nat) (a : Addr) (o : MO), π[i]? = some a → M[i]? = some o → RO P w K mg π H a o
/-- the slots -/
structure RS (π : List Addr) (H : Hp) (σ : St) (ρ : Rho) : Prop where
  len : σ.length = ρ.length
  at_ : ∀ (i : Nat) (x : MV), ρ[i]? = some (some x) → ∃ v, σ[i]? = some (some v) ∧ RV K π H x v
/-- an exception of a class of the program, its own fields at d -/
def RX (π : List Addr) (H : Hp) (C : Addr) (d : Option Addr) (c : Str) (fs : List (Str × MV)) : Prop :=
  mg c = some (.ref C) ∧ ((fs = [] ∧ d = none) ∨ ∃ dd gs, d = some dd ∧ H dd = some (.xd gs) ∧ RFs K π H fs gs)
end
section
variable {P : Program} {w : World} {K : PySem.W.Frag} {mg : Str → Option Value} {π π' : List Addr} {H H' : Hp}
theorem RDk.ext (e : Ext π H π' H') : ∀ {kvs : List (MV × MV)} {gs : List (Key × V)}, RDk K π H kvs gs → RDk K π' H' kvs gs
  | [], _, h => by unfold RDk at h ⊢; exact h
  | (k, x) :: kvs, _, h => by
    unfold RDk at h ⊢
    obtain ⟨q, v, hs, e1, h1, h2, h3⟩ := h
    exact ⟨q, v, hs, e1, h1, h2.ext e, RDk.ext e h3⟩
theorem RDn.ext (e : Ext π H π' H') : ∀ {kvs : List (MV × MV)} {gs : List (NestedKey × Addr × V)}, RDn K π H kvs gs → RDn K π' H' kvs gs
  | [], _, h => by unfold RDn at h ⊢; exact h
  | (k, x) :: kvs, _, h => by
    unfold RDn at h ⊢
    obtain ⟨q, b, v, hs, e1, h1, h2, h3, h4, h5⟩ := h
    exact ⟨q, b, v, hs, e1, h1, h2, h3.ext e, h4.ext e, RDn.ext e h5⟩
theorem RS.ext {σ : St} {ρ : Rho} (e : Ext π H π' H') (h : RS K π H σ ρ) : RS K π' H' σ ρ := ⟨h.len, fun i x q => by
  obtain ⟨v, h1, h2⟩ := h.at_ i x q
  exact ⟨v, h1, h2.ext e⟩⟩
theorem RS.set {σ : St} {ρ : Rho} {x : MV} {v : V} (h : RS K π H σ ρ) (i : Nat) (r : RV K π H x v) : RS K π H (σ.set i (some v)) (ρ.set i (some x)) := by
  refine ⟨by simp [h.len], fun j y q => ?_⟩
  by_cases hj : i = j
  · subst hj
    rw [List.getElem?_set] at q ⊢
    simp only [if_true] at q ⊢
    rw [h.len]
    split at q
    · rename_i hl
      cases q
      rw [if_pos hl]
      exact ⟨v, rfl, r⟩
    · cases q
  · rw [List.getElem?_set_ne hj] at q ⊢
    exact h.at_ j y q
/-- an object stays what it is while its own place is not written -/
theorem RO.ext {a : Addr} {o : MO} (e : Ext π H π' H') (ha : ∀ u, H a = some u → H' a = some u) (h : RO P w K mg π H a o) : RO P w K mg π' H' a o := by
  cases o with
  | lst xs =>
    obtain ⟨vs, h1, h2⟩ := h
    exact ⟨vs, ha _ h1, h2.ext e⟩
  | cst xs =>
    obtain ⟨vs, h1, h2⟩ := h
    refine ⟨vs, ?_, h2.ext e⟩
    rcases h1 with ⟨o, h1⟩ | h1
    · exact .inl ⟨o, ha _ h1⟩
    · exact .inr h1
  | dct kvs =>
    rcases h with ⟨gs, h1, h2⟩ | ⟨gs, h0, h1, h2⟩
    · exact .inl ⟨gs, ha _ h1, h2.ext e⟩
    · exact .inr ⟨gs, h0, ha _ h1, h2.ext e⟩
  | ins c fs =>
    obtain ⟨C, dx, gs, h0, h1, h2⟩ := h
    exact ⟨C, dx, gs, h0, ha _ h1, h2.ext e⟩
/-- what stands in the heap has a place -/
theorem RO.some {a : Addr} {o : MO} (h : RO P w K mg π H a o) (hc : isC o = false) : ∃ u, H a = some u ∧ (∀ vs, u ≠ .tup vs) ∧ ∀ o' vs, u ≠ .frz o' (.lst vs) := by
  cases o with
  | lst xs =>
    obtain ⟨vs, h1, _⟩ := h
    exact ⟨_, h1, (fun _ z => by cases z), (fun _ _ z => by cases z)⟩
  | cst xs => cases hc
  | dct kvs =>
    rcases h with ⟨gs, h1, _⟩ | ⟨gs, h0, h1, _⟩
    · exact ⟨_, h1, (fun _ z => by cases z), (fun _ _ z => by cases z)⟩
    · exact ⟨_, h1, (fun _ z => by cases z), (fun _ _ z => by cases z)⟩
  | ins c fs =>
    obtain ⟨C, dx, gs, _, h1, _⟩ := h
    exact ⟨_, h1, (fun _ z => by cases z), (fun _ _ z => by cases z)⟩
theorem RM.at_ {M : MH} {n : Nat} {a : Addr} {o : MO} (r : RM P w K mg π H M) (h : π[n]? = some a) (ho : M[n]? = some o) : RO P w K mg π H a o := r.ob n a o h ho
/-- a number has its place -/
theorem RM.place {M : MH} {n : Nat} {o : MO} (r : RM P w K mg π H M) (ho : M[n]? = some o) : ∃ a, π[n]? = some a ∧ RO P w K mg π H a o := by
  have l := (List.getElem?_eq_some_iff.mp ho).1
  rw [← r.len] at l
  exact ⟨π[n], List.getElem?_eq_getElem l, r.ob n _ o (List.getElem?_eq_getElem l) ho⟩
/-- nothing tracked is written -/
theorem RM.keep {M : MH} (r : RM P w K mg π H M) (k : ∀ b u, H b = some u → H' b = some u) : RM P w K mg π H' M :=
  ⟨r.len, r.inj, fun i a o h1 h2 => (r.ob i a o h1 h2).ext ⟨⟨[], by simp⟩, fun b vs e => k b _ e⟩ fun u e => k a u e⟩
/-- a new thing -/
theorem RM.push {M : MH} {a : Addr} {u : HO} {o : MO} (r : RM P w K mg π H M) (ha : H a = none) (ho : RO P w K mg (π ++ [a]) (upd H a u) a o) : RM P w K mg (π ++ [a]) (upd H a u) (M ++ [o]) := by
  refine ⟨by simp [r.len], fun i j b o1 o2 h1 h2 k1 k2 c1 c2 => ?_, fun i b q h1 h2 => ?_⟩
  · have li := (List.getElem?_eq_some_iff.mp h1).1
    have lj := (List.getElem?_eq_some_iff.mp h2).1
    rw [List.length_append, List.length_singleton] at li lj
    by_cases hi : i < π.length
    · rw [List.getElem?_append_left hi] at h1
      rw [List.getElem?_append_left (by rw [← r.len]; exact hi)] at k1
      by_cases hj : j < π.length
      · rw [List.getElem?_append_left hj] at h2
        rw [List.getElem?_append_left (by rw [← r.len]; exact hj)] at k2
        exact r.inj i j b o1 o2 h1 h2 k1 k2 c1 c2
      · exfalso
        obtain rfl : j = π.length := by omega
        simp at h2
        subst h2
        obtain ⟨u', q, _⟩ := (r.ob i _ o1 h1 k1).some c1
        rw [ha] at q
        cases q
    · obtain rfl : i = π.length := by omega
      simp at h1
      subst h1
      by_cases hj : j < π.length
      · exfalso
        rw [List.getElem?_append_left hj] at h2
        rw [List.getElem?_append_left (by rw [← r.len]; exact hj)] at k2
        obtain ⟨u', q, _⟩ := (r.ob j _ o2 h2 k2).some c2
        rw [ha] at q
        cases q
      · omega
  · by_cases hi : i < π.length
    · rw [List.getElem?_append_left hi] at h1
      rw [List.getElem?_append_left (by rw [← r.len]; exact hi)] at h2
      exact (r.ob i b q h1 h2).ext (Ext.push ha) fun v e => by
        rw [upd_ne (ne_of_none e ha)]
        exact e
    · have li := (List.getElem?_eq_some_iff.mp h1).1
      rw [List.length_append, List.length_singleton] at li
      obtain rfl : i = π.length := by omega
      simp at h1
      subst h1
      rw [r.len] at h2
      simp at h2
      subst h2
      exact ho
/-- a thing is written -/
theorem RM.write {M : MH} {n : Nat} {a : Addr} {v : HO} {o o' : MO} (r : RM P w K mg π H M) (hn : π[n]? = some a) (hm : M[n]? = some o') (hc : isC o' = false) (hc2 : isC o = false) (ho : RO P w K mg π (upd H a v) a o) : RM P w K mg π (upd H a v) (M.set n o) := by
  obtain ⟨u, hu, ht, hf⟩ := (r.ob n a o' hn hm).some hc
  have get : ∀ i q, (M.set n o)[i]? = some q → (i = n ∧ q = o) ∨ (i ≠ n ∧ M[i]? = some q) := fun i q e => by
    rw [List.getElem?_set] at e
    by_cases hi : n = i
    · rw [if_pos hi] at e
      split at e
      · exact .inl ⟨hi.symm, (Option.some.inj e).symm⟩
      · cases e
    · rw [if_neg hi] at e
      exact .inr ⟨fun z => hi z.symm, e⟩
  refine ⟨by simp [r.len], fun i j b o1 o2 h1 h2 k1 k2 c1 c2 => ?_, fun i b q h1 h2 => ?_⟩
  · rcases get i o1 k1 with ⟨ei, _⟩ | ⟨_, q1⟩
    · rcases get j o2 k2 with ⟨ej, _⟩ | ⟨_, q2⟩
      · rw [ei, ej]
      · rw [ei] at h1 ⊢
        exact r.inj _ _ b o' o2 h1 h2 hm q2 hc c2
    · rcases get j o2 k2 with ⟨ej, _⟩ | ⟨_, q2⟩
      · rw [ej] at h2 ⊢
        exact r.inj _ _ b o1 o' h1 h2 q1 hm c1 hc
      · exact r.inj _ _ b o1 o2 h1 h2 q1 q2 c1 c2
  · rcases get i q h2 with ⟨rfl, rfl⟩ | ⟨ni, h2⟩
    · rw [hn] at h1
      cases h1
      exact ho
    · by_cases nb : b = a
      · subst nb
        cases cq : isC q with
        | false => exact absurd (r.inj _ _ b q o' h1 hn h2 hm cq hc) ni
        | true =>
          cases q with
          | cst xs =>
            obtain ⟨vs, h3, h4⟩ := r.ob i b _ h1 h2
            refine ⟨vs, ?_, h4.ext (Ext.write hu ht)⟩
            rcases h3 with ⟨o3, h3⟩ | h3
            · rw [hu] at h3
              exact absurd (Option.some.inj h3) (hf o3 vs)
            · exact .inr h3
          | lst _ => cases cq
          | dct _ => cases cq
          | ins _ _ => cases cq
      · exact (r.ob i b q h1 h2).ext (Ext.write hu ht) fun v e => by
          rw [upd_ne nb]
          exact e
end
end FL

namespace FL
open PySem PySem.Spec PyProof.Rows L2
/-! ### the judgements -/
section
variable (X : Cx) (W : WX)
def PostR {α β : Type} (R : List Addr → Hp → α → β → Prop) (σ : St) (π : List Addr) (H : Hp) (r : Res α) (Q : β → Hp → Prop) : Prop := match r with
  | .ok a M => ∀ b H' π', Ext π H π' H' → R π' H' a b → RM X.prog X.w X.K X.mg π' H' M → Q b H'
  | .ex c fs M => ∀ C d H' π', Ext π H π' H' → RX X.K X.mg π' H' C d c fs → RM X.prog X.w X.K X.mg π' H' M → W (.ref C) d σ H'
  | .stuck => False
def RF {α β : Type} (R : List Addr → Hp → α → β → Prop) (t : St → Hp → (β → Hp → Prop) → Prop) (f : Rho → MH → Res α) : Prop :=
  ∀ σ H Q π ρ M, RS X.K π H σ ρ → RM X.prog X.w X.K X.mg π H M → PostR X W R σ π H (f ρ M) Q → t σ H Q
def REq {α : Type} : List Addr → Hp → α → α → Prop := fun _ _ a b => a = b
structure FX (e : Expr) (f : FE) : Prop where
  to : ∃ t, PE X e t ∧ RF X W (RV X.K) t f
structure FXT (e : Expr) (f : FT) : Prop where
  to : ∃ t, PT X e t ∧ RF X W REq t f
structure FXW (e : Expr) (f : FT) : Prop where
  to : ∃ t, PW X e t ∧ RF X W REq t f
structure FXA (es : List Expr) (f : FA) : Prop where
  to : ∃ t, PA X es t ∧ RF X W (RVs X.K) t f
def PostS (σ : St) (π : List Addr) (H : Hp) (r : RSt) (D : Ends) : Prop := match r with
  | .next ρ M => ∀ σ' H' π', Ext π H π' H' → RS X.K π' H' σ' ρ → RM X.prog X.w X.K X.mg π' H' M → D.nx σ' H'
  | .brk ρ M => ∀ σ' H' π', Ext π H π' H' → RS X.K π' H' σ' ρ → RM X.prog X.w X.K X.mg π' H' M → D.bk σ' H'
  | .cnt ρ M => ∀ σ' H' π', Ext π H π' H' → RS X.K π' H' σ' ρ → RM X.prog X.w X.K X.mg π' H' M → D.ct σ' H'
  | .ret x M => ∀ v H' π', Ext π H π' H' → RV X.K π' H' x v → RM X.prog X.w X.K X.mg π' H' M → D.rt v H'
  | .ex c fs ρ M => ∀ C d σ' H' π', Ext π H π' H' → RX X.K X.mg π' H' C d c fs → RS X.K π' H' σ' ρ → RM X.prog X.w X.K X.mg π' H' M → W (.ref C) d σ' H'
  | .stuck => False
def RFS (t : TS) (f : FS) : Prop := ∀ D σ H π ρ M, RS X.K π H σ ρ → RM X.prog X.w X.K X.mg π H M → PostS X W σ π H (f ρ M) D → t D σ H
structure FXS (st : Stmt) (f : FS) : Prop where
  to : ∃ t, PS X st t ∧ RFS X W t f
structure FXB (st : List Stmt) (f : FS) : Prop where
  to : ∃ t, PSs X st t ∧ RFS X W t f
end
section
variable {X : Cx} {W : WX} {σ : St} {π π1 : List Addr} {H H1 : Hp} {ρ : Rho} {M : MH}
theorem PostR.mono {α β : Type} {R : List Addr → Hp → α → β → Prop} {r : Res α} {Q : β → Hp → Prop} (e : Ext π H π1 H1) (h : PostR X W R σ π H r Q) : PostR X W R σ π1 H1 r Q := by
  cases r with
  | ok a M => exact fun b H' π' e' => h b H' π' (e.trans e')
  | ex c fs M => exact fun C d H' π' e' => h C d H' π' (e.trans e')
  | stuck => exact h
theorem PostS.mono {r : RSt} {D : Ends} {σ1 : St} (e : Ext π H π1 H1) (h : PostS X W σ π H r D) : PostS X W σ1 π1 H1 r D := by
  cases r with
  | next ρ M => exact fun σ' H' π' e' => h σ' H' π' (e.trans e')
  | brk ρ M => exact fun σ' H' π' e' => h σ' H' π' (e.trans e')
  | cnt ρ M => exact fun σ' H' π' e' => h σ' H' π' (e.trans e')
  | ret x M => exact fun v H' π' e' => h v H' π' (e.trans e')
  | ex c fs ρ M => exact fun C d σ' H' π' e' => h C d σ' H' π' (e.trans e')
  | stuck => exact h
/-- a part, then the rest -/
theorem RF.bind {α β γ δ : Type} {R1 : List Addr → Hp → α → β → Prop} {R2 : List Addr → Hp → γ → δ → Prop} {t : St → Hp → (β → Hp → Prop) → Prop} {f : Rho → MH → Res α} {k : α → MH → Res γ} {Q : δ → Hp → Prop} {Q1 : β → Hp → Prop}
    (h : RF X W R1 t f) (hs : RS X.K π H σ ρ) (hm : RM X.prog X.w X.K X.mg π H M) (hp : PostR X W R2 σ π H ((f ρ M).bind k) Q)
    (hk : ∀ a M1 b H1 π1, Ext π H π1 H1 → R1 π1 H1 a b → RM X.prog X.w X.K X.mg π1 H1 M1 → PostR X W R2 σ π1 H1 (k a M1) Q → Q1 b H1) : t σ H Q1 := by
  refine h σ H Q1 π ρ M hs hm ?_
  cases e : f ρ M with
  | ok a M1 =>
    rw [e] at hp
    exact fun b H' π' e' r m => hk a M1 b H' π' e' r m (PostR.mono e' hp)
  | ex c fs M1 =>
    rw [e] at hp
    exact hp
  | stuck =>
    rw [e] at hp
    exact hp
theorem RF.stm {α β : Type} {R1 : List Addr → Hp → α → β → Prop} {t : St → Hp → (β → Hp → Prop) → Prop} {f : Rho → MH → Res α} {k : α → MH → RSt} {D : Ends} {Q1 : β → Hp → Prop}
    (h : RF X W R1 t f) (hs : RS X.K π H σ ρ) (hm : RM X.prog X.w X.K X.mg π H M) (hp : PostS X W σ π H ((f ρ M).stm ρ k) D)
    (hk : ∀ a M1 b H1 π1, Ext π H π1 H1 → R1 π1 H1 a b → RM X.prog X.w X.K X.mg π1 H1 M1 → PostS X W σ π1 H1 (k a M1) D → Q1 b H1) : t σ H Q1 := by
  refine h σ H Q1 π ρ M hs hm ?_
  cases e : f ρ M with
  | ok a M1 =>
    rw [e] at hp
    exact fun b H' π' e' r m => hk a M1 b H' π' e' r m (PostS.mono e' hp)
  | ex c fs M1 =>
    rw [e] at hp
    exact fun C d H' π' e' x m => hp C d σ H' π' e' x (hs.ext e') m
  | stuck =>
    rw [e] at hp
    exact hp
/-- an end that gives a value -/
theorem PostR.ok {α β : Type} {R : List Addr → Hp → α → β → Prop} {a : α} {b : β} {Q : β → Hp → Prop} (h : PostR X W R σ π H (.ok a M) Q) (r : R π H a b) (m : RM X.prog X.w X.K X.mg π H M) : Q b H := h b H π Ext.refl r m

/-! ### names, constants -/
def fVar (i : Nat) : FE := fun ρ M => match ρ[i]? with
  | some (some x) => .ok x M
  | _ => .stuck
def fC (x : MV) : FE := fun _ M => .ok x M
theorem fx_var {i : Nat} {x : Str} {pos : Pos} (h : PE X (.Name x pos) (tVar i)) : FX X W (.Name x pos) (fVar i) := ⟨_, h, by
  intro σ H Q π ρ M hs hm hp
  unfold fVar at hp
  split at hp
  · rename_i y e
    obtain ⟨v, h1, h2⟩ := hs.at_ i y e
    exact ⟨v, h1, hp.ok h2 hm⟩
  · exact hp.elim⟩
theorem fx_c {e : Expr} {x : MV} {v : V} (h : PE X e (tC v)) (r : ∀ π H, RV X.K π H x v) : FX X W e (fC x) := ⟨_, h, by
  intro σ H Q π ρ M hs hm hp
  exact hp.ok (r π H) hm⟩
theorem fx_int {i : Int} {j : Nat} {pos : Pos} : FX X W (.Constant (.int i) j pos) (fC (.int i)) := fx_c pe_int fun _ _ => by unfold RV; rfl
theorem fx_str {x : Str} {j : Nat} {pos : Pos} : FX X W (.Constant (.str x) j pos) (fC (.str x)) := fx_c pe_str fun _ _ => by unfold RV; rfl
theorem fx_bl {b : Bool} {j : Nat} {pos : Pos} : FX X W (.Constant (.bool b) j pos) (fC (.bl b)) := fx_c pe_bl fun _ _ => by unfold RV; rfl
theorem fx_non {j : Nat} {pos : Pos} : FX X W (.Constant .none j pos) (fC .non) := fx_c pe_non fun _ _ => by unfold RV; rfl

/-! ### argument lists, displays -/
def faNil : FA := fun _ M => .ok [] M
def faCons (f : FE) (g : FA) : FA := fun ρ M => (f ρ M).bind fun x M1 => (g ρ M1).bind fun xs M2 => .ok (x :: xs) M2
theorem fa_nil : FXA X W [] faNil := ⟨_, pa_nil, fun σ H Q π ρ M hs hm hp => hp.ok RVs.nil hm⟩
theorem fa_cons {e : Expr} {es : List Expr} {f : FE} {g : FA} (h : FX X W e f) (t : FXA X W es g) (hs : starEach (e :: es) X.env = (false, eval e X.env) :: starEach es X.env := by rfl) : FXA X W (e :: es) (faCons f g) := by
  obtain ⟨t1, p1, r1⟩ := h.to
  obtain ⟨t2, p2, r2⟩ := t.to
  refine ⟨_, pa_cons p1 p2 hs, ?_⟩
  intro σ H Q π ρ M hs hm hp
  refine r1.bind hs hm hp fun x M1 v H1 π1 e1 rv m1 hp1 => ?_
  refine r2.bind (hs.ext e1) m1 hp1 fun xs M2 vs H2 π2 e2 rvs m2 hp2 => ?_
  exact hp2.ok (RVs.cons (rv.ext e2) rvs) m2
/-- a size that fits -/
def small (n : Nat) : Bool := decide (n ≤ sizeLine)
theorem small_le {n : Nat} (h : small n = true) : n ≤ sizeLine := of_decide_eq_true h
def fTup (g : FA) : FE := fun ρ M => (g ρ M).bind fun xs M1 => if small xs.length = true then .ok (.tup xs) M1 else .stuck
def fLst (g : FA) : FE := fun ρ M => (g ρ M).bind fun xs M1 => if small xs.length = true then .ok (.ref M1.length) (M1 ++ [.lst xs]) else .stuck
theorem fx_tup {es : List Expr} {g : FA} {k : Nat} {pos : Pos} (h : FXA X W es g) : FX X W (.Tuple es k pos) (fTup g) := by
  obtain ⟨t1, p1, r1⟩ := h.to
  refine ⟨_, pe_tup p1, ?_⟩
  intro σ H Q π ρ M hs hm hp
  refine r1.bind hs hm hp fun xs M1 vs H1 π1 e1 rv m1 hp1 => ?_
  by_cases hz : small xs.length = true
  · rw [if_pos hz] at hp1
    refine ⟨by rw [← rv.length]; exact small_le hz, fun p hp0 => ?_⟩
    have e2 : Ext π1 H1 π1 (upd H1 p (.tup vs)) := Ext.new hp0
    refine hp1 _ _ π1 e2 ?_ (m1.keep fun b u q => by rw [upd_ne (ne_of_none q hp0)]; exact q)
    unfold RV
    exact ⟨p, vs, rfl, .inl upd_same, rv.ext e2⟩
  · rw [if_neg hz] at hp1
    exact hp1.elim
/-- a new list -/
theorem new_lst {α : Type} {Q : VK} {xs : List MV} {vs : List V} {p : Addr} (hp : PostR X W (RV X.K) σ π H (.ok (.ref M.length) (M ++ [.lst xs])) Q) (hm : RM X.prog X.w X.K X.mg π H M) (rv : RVs X.K π H xs vs) (hn : H p = none) : Q (.ref p) (upd H p (.lst vs)) := by
  have e2 : Ext π H (π ++ [p]) (upd H p (.lst vs)) := Ext.push hn
  refine hp _ _ _ e2 ?_ (hm.push hn ⟨vs, upd_same, rv.ext e2⟩)
  unfold RV
  exact ⟨p, rfl, by rw [← hm.len]; simp⟩
theorem fx_lst {es : List Expr} {g : FA} {pos : Pos} (h : FXA X W es g) : FX X W (.List es pos) (fLst g) := by
  obtain ⟨t1, p1, r1⟩ := h.to
  refine ⟨_, pe_lst p1, ?_⟩
  intro σ H Q π ρ M hs hm hp
  refine r1.bind hs hm hp fun xs M1 vs H1 π1 e1 rv m1 hp1 => ?_
  by_cases hz : small xs.length = true
  · rw [if_pos hz] at hp1
    exact ⟨by rw [← rv.length]; exact small_le hz, fun p hp0 => new_lst (α := Unit) hp1 m1 rv hp0⟩
  · rw [if_neg hz] at hp1
    exact hp1.elim

/-! ### operators -/
/-- an operation on two values: by values here, by its rule there -/
abbrev G2 := MV → MV → MH → Res MV
def Op2 (X : Cx) (W : WX) (r : R2) (g : G2) : Prop := ∀ σ H Q π M x y u v, RV X.K π H x u → RV X.K π H y v → RM X.prog X.w X.K X.mg π H M → PostR X W (RV X.K) σ π H (g x y M) Q → r u v H Q
def fOp (g : G2) (a b : FE) : FE := fun ρ M => (a ρ M).bind fun x M1 => (b ρ M1).bind fun y M2 => g x y M2
theorem rf_op {r : R2} {g : G2} {ta tb : TE} {fa fb : FE} (ho : Op2 X W r g) (r1 : RF X W (RV X.K) ta fa) (r2 : RF X W (RV X.K) tb fb) : RF X W (RV X.K) (tOp r ta tb) (fOp g fa fb) := by
  intro σ H Q π ρ M hs hm hp
  refine r1.bind hs hm hp fun x M1 u H1 π1 e1 ru m1 hp1 => ?_
  refine r2.bind (hs.ext e1) m1 hp1 fun y M2 v H2 π2 e2 rv m2 hp2 => ?_
  exact ho σ H2 Q π2 M2 x y u v (ru.ext e2) rv m2 hp2
theorem fx_op {op : Operator} {r : R2} {g : G2} {a b : Expr} {fa fb : FE} {pos : Pos} (hr : OpR X (binaryOp op) r) (ho : Op2 X W r g) (ha : FX X W a fa) (hb : FX X W b fb) : FX X W (.BinOp a op b pos) (fOp g fa fb) := by
  obtain ⟨t1, p1, r1⟩ := ha.to
  obtain ⟨t2, p2, r2⟩ := hb.to
  exact ⟨_, pe_op hr p1 p2, rf_op ho r1 r2⟩
theorem fx_cmp {op : CmpOp} {r : R2} {g : G2} {a b : Expr} {fa fb : FE} {pos : Pos} (hr : OpR X (compareOp op) r) (ho : Op2 X W r g) (ha : FX X W a fa) (hb : FX X W b fb) (hm : behindInMarks op b = false) : FX X W (.Compare a [op] [b] pos) (fOp g fa fb) := by
  obtain ⟨t1, p1, r1⟩ := ha.to
  obtain ⟨t2, p2, r2⟩ := hb.to
  exact ⟨_, pe_cmpR hr p1 p2 hm, rf_op ho r1 r2⟩
theorem opOr {f : Value → Value → Sem Value} {r r' : R2} (h : OpR X f r) (h' : OpR X f r') : OpR X f (fun x y H Q => r x y H Q ∨ r' x y H Q) := by
  intro pins s σ H x y v u Q I rx ry q
  rcases q with q | q
  · exact h pins s σ H x y v u Q I rx ry q
  · exact h' pins s σ H x y v u Q I rx ry q
/-- the truth of a value that is a truth -/
def asB (f : FE) : FT := fun ρ M => (f ρ M).bind fun x M1 => match x with
  | .bl b => .ok b M1
  | _ => .stuck
theorem rf_tB {t : TE} {f : FE} (h : RF X W (RV X.K) t f) : RF X W REq (tB t) (asB f) := by
  intro σ H Q π ρ M hs hm hp
  refine h.bind hs hm hp fun x M1 u H1 π1 e1 ru m1 hp1 => ?_
  cases x with
  | bl b =>
    unfold RV at ru
    exact ⟨b, ru, hp1.ok rfl m1⟩
  | _ => exact hp1.elim
theorem rf_tTest {t : TE} {f : FE} (h : RF X W (RV X.K) t f) : RF X W REq (tTest t) (asB f) := by
  intro σ H Q π ρ M hs hm hp
  refine h.bind hs hm hp fun x M1 u H1 π1 e1 ru m1 hp1 => ?_
  cases x with
  | bl b =>
    unfold RV at ru
    exact ⟨b, ru, hp1.ok rfl m1⟩
  | _ => exact hp1.elim
theorem ft_cmp {op : CmpOp} {r : R2} {g : G2} {a b : Expr} {fa fb : FE} {pos : Pos} (hr : OpR X (compareOp op) r) (ho : Op2 X W r g) (ha : FX X W a fa) (hb : FX X W b fb) (hm : behindInMarks op b = false) : FXT X W (.Compare a [op] [b] pos) (asB (fOp g fa fb)) := by
  obtain ⟨t1, p1, r1⟩ := ha.to
  obtain ⟨t2, p2, r2⟩ := hb.to
  exact ⟨_, pt_cmpR hr p1 p2 hm, rf_tTest (rf_op ho r1 r2)⟩
/-- an expression that gives a truth, as a test -/
theorem ft_val {e : Expr} {f : FE} (h : FX X W e f) (he : ∀ whole, isTrue e X.env whole = (do let v ← whole; standAt e.pos; holding [v] (truthy v)) := by intro _; rfl) : FXT X W e (asB f) := by
  obtain ⟨t1, p1, r1⟩ := h.to
  exact ⟨_, pt_val p1 he, rf_tB r1⟩
def ftNot (f : FT) : FT := fun ρ M => (f ρ M).bind fun b M1 => .ok (!b) M1
theorem ft_not {a : Expr} {f : FT} {pos : Pos} (h : FXT X W a f) : FXT X W (.UnaryOp .Not a pos) (ftNot f) := by
  obtain ⟨t1, p1, r1⟩ := h.to
  refine ⟨_, pt_not p1, ?_⟩
  intro σ H Q π ρ M hs hm hp
  refine r1.bind hs hm hp fun b M1 c H1 π1 e1 rc m1 hp1 => ?_
  cases rc
  exact hp1.ok rfl m1
def ftAnd (f g : FT) : FT := fun ρ M => (f ρ M).bind fun b M1 => if b = true then g ρ M1 else .ok false M1
def ftOr (f g : FT) : FT := fun ρ M => (f ρ M).bind fun b M1 => if b = true then .ok true M1 else g ρ M1
theorem fw_and1 {a : Expr} {f : FT} {pos : Pos} (h : FXT X W a f) : FXW X W (.BoolOp .And [a] pos) f := let ⟨t, p, r⟩ := h.to; ⟨t, pw_and1 p, r⟩
theorem fw_or1 {a : Expr} {f : FT} {pos : Pos} (h : FXT X W a f) : FXW X W (.BoolOp .Or [a] pos) f := let ⟨t, p, r⟩ := h.to; ⟨t, pw_or1 p, r⟩
theorem fw_and {a b : Expr} {rest : List Expr} {f g : FT} {pos : Pos} (h : FXT X W a f) (h2 : FXW X W (.BoolOp .And (b :: rest) pos) g) : FXW X W (.BoolOp .And (a :: b :: rest) pos) (ftAnd f g) := by
  obtain ⟨t1, p1, r1⟩ := h.to
  obtain ⟨t2, p2, r2⟩ := h2.to
  refine ⟨_, pw_and p1 p2, ?_⟩
  intro σ H Q π ρ M hs hm hp
  refine r1.bind hs hm hp fun b M1 c H1 π1 e1 rc m1 hp1 => ?_
  cases rc
  cases b with
  | true => exact r2 σ H1 Q π1 ρ M1 (hs.ext e1) m1 hp1
  | false => exact hp1.ok rfl m1
theorem fw_or {a b : Expr} {rest : List Expr} {f g : FT} {pos : Pos} (h : FXT X W a f) (h2 : FXW X W (.BoolOp .Or (b :: rest) pos) g) : FXW X W (.BoolOp .Or (a :: b :: rest) pos) (ftOr f g) := by
  obtain ⟨t1, p1, r1⟩ := h.to
  obtain ⟨t2, p2, r2⟩ := h2.to
  refine ⟨_, pw_or p1 p2, ?_⟩
  intro σ H Q π ρ M hs hm hp
  refine r1.bind hs hm hp fun b M1 c H1 π1 e1 rc m1 hp1 => ?_
  cases rc
  cases b with
  | true => exact hp1.ok rfl m1
  | false => exact r2 σ H1 Q π1 ρ M1 (hs.ext e1) m1 hp1
theorem FXW.t {e : Expr} {f : FT} (h : FXW X W e f) : FXT X W e f := let ⟨t, p, r⟩ := h.to; ⟨t, p.pt, r⟩
/-- and, or as values, all but the last truths -/
def fAnd (f g : FE) : FE := fun ρ M => (f ρ M).bind fun x M1 => match x with
  | .bl true => g ρ M1
  | .bl false => .ok (.bl false) M1
  | _ => .stuck
def fOr (f g : FE) : FE := fun ρ M => (f ρ M).bind fun x M1 => match x with
  | .bl true => .ok (.bl true) M1
  | .bl false => g ρ M1
  | _ => .stuck
def fNot (f : FE) : FE := fun ρ M => (f ρ M).bind fun x M1 => match x with
  | .bl b => .ok (.bl (!b)) M1
  | _ => .stuck
theorem fx_one {op : BoolOp} {a : Expr} {f : FE} {pos : Pos} (h : FX X W a f) : FX X W (.BoolOp op [a] pos) f := let ⟨t, p, r⟩ := h.to; ⟨t, pe_one p, r⟩
theorem fx_and {a b : Expr} {rest : List Expr} {f g : FE} {pos : Pos} (h : FX X W a f) (h2 : FX X W (.BoolOp .And (b :: rest) pos) g) : FX X W (.BoolOp .And (a :: b :: rest) pos) (fAnd f g) := by
  obtain ⟨t1, p1, r1⟩ := h.to
  obtain ⟨t2, p2, r2⟩ := h2.to
  refine ⟨_, pe_and p1 p2, ?_⟩
  intro σ H Q π ρ M hs hm hp
  refine r1.bind hs hm hp fun x M1 u H1 π1 e1 ru m1 hp1 => ?_
  cases x with
  | bl b =>
    unfold RV at ru
    refine ⟨b, ru, ?_⟩
    cases b with
    | true => exact r2 σ H1 Q π1 ρ M1 (hs.ext e1) m1 hp1
    | false => exact hp1.ok (by unfold RV; rfl) m1
  | _ => exact hp1.elim
theorem fx_or {a b : Expr} {rest : List Expr} {f g : FE} {pos : Pos} (h : FX X W a f) (h2 : FX X W (.BoolOp .Or (b :: rest) pos) g) : FX X W (.BoolOp .Or (a :: b :: rest) pos) (fOr f g) := by
  obtain ⟨t1, p1, r1⟩ := h.to
  obtain ⟨t2, p2, r2⟩ := h2.to
  refine ⟨_, pe_or p1 p2, ?_⟩
  intro σ H Q π ρ M hs hm hp
  refine r1.bind hs hm hp fun x M1 u H1 π1 e1 ru m1 hp1 => ?_
  cases x with
  | bl b =>
    unfold RV at ru
    refine ⟨b, ru, ?_⟩
    cases b with
    | true => exact hp1.ok (by unfold RV; rfl) m1
    | false => exact r2 σ H1 Q π1 ρ M1 (hs.ext e1) m1 hp1
  | _ => exact hp1.elim
theorem fx_not {a : Expr} {f : FE} {pos : Pos} (h : FX X W a f) : FX X W (.UnaryOp .Not a pos) (fNot f) := by
  obtain ⟨t1, p1, r1⟩ := h.to
  refine ⟨_, pe_not p1, ?_⟩
  intro σ H Q π ρ M hs hm hp
  refine r1.bind hs hm hp fun x M1 u H1 π1 e1 ru m1 hp1 => ?_
  cases x with
  | bl b =>
    unfold RV at ru
    exact ⟨b, ru, hp1.ok (by unfold RV; rfl) m1⟩
  | _ => exact hp1.elim
def fIf (c : FT) (a b : FE) : FE := fun ρ M => (c ρ M).bind fun k M1 => if k = true then a ρ M1 else b ρ M1
theorem fx_ifExp {c a b : Expr} {fc : FT} {fa fb : FE} {pos : Pos} (hc : FXT X W c fc) (ha : FX X W a fa) (hb : FX X W b fb) : FX X W (.IfExp c a b pos) (fIf fc fa fb) := by
  obtain ⟨t1, p1, r1⟩ := hc.to
  obtain ⟨t2, p2, r2⟩ := ha.to
  obtain ⟨t3, p3, r3⟩ := hb.to
  refine ⟨_, pe_ifExp p1 p2 p3, ?_⟩
  intro σ H Q π ρ M hs hm hp
  refine r1.bind hs hm hp fun b M1 c H1 π1 e1 rc m1 hp1 => ?_
  cases rc
  cases b with
  | true => exact r2 σ H1 Q π1 ρ M1 (hs.ext e1) m1 hp1
  | false => exact r3 σ H1 Q π1 ρ M1 (hs.ext e1) m1 hp1
end
end FL

namespace FL
open PySem PySem.Spec PyProof.Rows L2
section
variable {X : Cx} {W : WX} {σ : St} {π π1 : List Addr} {H H1 : Hp} {ρ : Rho} {M : MH}
/-! ### sequences -/
def lstOf (M : MH) : MV → Option (List MV)
  | .ref n => match M[n]? with
    | some (.lst xs) => some xs
    | some (.cst xs) => some xs
    | _ => none
  | _ => none
theorem CstAt.sq {K : PySem.W.Frag} {a : Addr} {vs : List V} (h : CstAt K H a vs) : SqL K H a vs := by
  rcases h with ⟨o, h⟩ | h
  · exact .inl (.inr ⟨o, h⟩)
  · exact .inr h
theorem TupAt.sq {K : PySem.W.Frag} {a : Addr} {vs : List V} (h : TupAt K H a vs) : SqT K H a vs := by
  rcases h with h | h
  · exact .inl (.inl h)
  · exact .inr h
theorem lstOf_sq {x : MV} {xs : List MV} {u : V} (e : lstOf M x = some xs) (hm : RM X.prog X.w X.K X.mg π H M) (r : RV X.K π H x u) : ∃ a vs, u = .ref a ∧ SqL X.K H a vs ∧ RVs X.K π H xs vs := by
  cases x with
  | ref n =>
    unfold RV at r
    obtain ⟨a, rfl, ha⟩ := r
    cases q : M[n]? with
    | none =>
      simp only [lstOf, q] at e
      cases e
    | some o =>
      cases o with
      | lst ys =>
        simp only [lstOf, q, Option.some.injEq] at e
        subst e
        obtain ⟨vs, h1, h2⟩ := hm.at_ ha q
        exact ⟨a, vs, rfl, .inl (.inl h1), h2⟩
      | cst ys =>
        simp only [lstOf, q, Option.some.injEq] at e
        subst e
        obtain ⟨vs, h1, h2⟩ := hm.at_ ha q
        exact ⟨a, vs, rfl, h1.sq, h2⟩
      | dct _ =>
        simp only [lstOf, q] at e
        cases e
      | ins _ _ =>
        simp only [lstOf, q] at e
        cases e
  | _ => cases e
theorem tup_sq {xs : List MV} {u : V} (r : RV X.K π H (.tup xs) u) : ∃ a vs, u = .ref a ∧ SqT X.K H a vs ∧ RVs X.K π H xs vs := by
  unfold RV at r
  obtain ⟨a, vs, rfl, h1, h2⟩ := r
  exact ⟨a, vs, rfl, h1.sq, h2⟩
theorem RV_int {i : Int} {u : V} : RV X.K π H (.int i) u ↔ u = .int i := by unfold RV; exact Iff.rfl
theorem RV_str {i : Str} {u : V} : RV X.K π H (.str i) u ↔ u = .str i := by unfold RV; exact Iff.rfl
theorem RV_bl {i : Bool} {u : V} : RV X.K π H (.bl i) u ↔ u = .bl i := by unfold RV; exact Iff.rfl
theorem RV_non {u : V} : RV X.K π H .non u ↔ u = .non := by unfold RV; exact Iff.rfl

/-! ### numbers -/
def gI (C : Int → Int → Bool) (k : Int → Int → MV) : G2 := fun x y M => match x, y with
  | .int i, .int j => if C i j = true then .ok (k i j) M else .stuck
  | _, _ => .stuck
theorem g_int {C : Int → Int → Bool} {k : Int → Int → MV} {C' : Int → Int → Prop} {k' : Int → Int → V} (hc : ∀ i j, C i j = true → C' i j) (hk : ∀ i j π H, RV X.K π H (k i j) (k' i j)) : Op2 X W (rI C' k') (gI C k) := by
  intro σ H Q π M x y u v ru rv hm hp
  unfold gI at hp
  split at hp
  · rename_i i j
    rw [RV_int] at ru rv
    split at hp
    · rename_i hC
      exact ⟨i, j, ru, rv, hc i j hC, hp.ok (hk i j π H) hm⟩
    · exact hp.elim
  · exact hp.elim
theorem g_int0 {k : Int → Int → MV} {k' : Int → Int → V} (hk : ∀ i j π H, RV X.K π H (k i j) (k' i j)) : Op2 X W (rI0 k') (gI (fun _ _ => true) k) := by
  intro σ H Q π M x y u v ru rv hm hp
  obtain ⟨i, j, h1, h2, _, h4⟩ := g_int (X := X) (W := W) (C := fun _ _ => true) (C' := fun _ _ => True) (k := k) (k' := k') (fun _ _ _ => trivial) hk σ H Q π M x y u v ru rv hm hp
  exact ⟨i, j, h1, h2, h4⟩
theorem rvi (i : Int) (π : List Addr) (H : Hp) : RV X.K π H (.int i) (.int i) := by unfold RV; rfl
theorem rvb (i : Bool) (π : List Addr) (H : Hp) : RV X.K π H (.bl i) (.bl i) := by unfold RV; rfl
theorem rvs (i : Str) (π : List Addr) (H : Hp) : RV X.K π H (.str i) (.str i) := by unfold RV; rfl
def gSub : G2 := gI (fun _ _ => true) fun i j => .int (i - j)
theorem o_sub : Op2 X W (rI0 fun i j => .int (i - j)) gSub := g_int0 fun _ _ _ _ => rvi _ _ _
def gMod : G2 := gI (fun _ j => decide (0 < j)) fun i j => .int (i % j)
theorem o_mod : Op2 X W (rI (fun _ j => 0 < j) fun i j => .int (i % j)) gMod := g_int (fun _ _ h => of_decide_eq_true h) fun _ _ _ _ => rvi _ _ _
def gFdiv : G2 := gI (fun _ j => decide (0 < j) && decide (j.natAbs.log2 < 9000)) fun i j => .int (i / j)
theorem o_fdiv : Op2 X W (rI CDivW fun i j => .int (i / j)) gFdiv := g_int (fun _ _ h => by
  rw [Bool.and_eq_true] at h
  exact ⟨of_decide_eq_true h.1, of_decide_eq_true h.2⟩) fun _ _ _ _ => rvi _ _ _
def gPow : G2 := gI (fun i j => decide (0 ≤ j) && (decide (j ≤ 1000000) && decide (i.natAbs < 2 ^ 64))) fun i j => .int (i ^ j.toNat)
theorem o_pow : Op2 X W (rI CPow fun i j => .int (i ^ j.toNat)) gPow := g_int (fun _ _ h => by
  rw [Bool.and_eq_true, Bool.and_eq_true] at h
  exact ⟨of_decide_eq_true h.1, of_decide_eq_true h.2.1, of_decide_eq_true h.2.2⟩) fun _ _ _ _ => rvi _ _ _
def CMulB (i j : Int) : Prop := i.natAbs.log2 + j.natAbs.log2 < 130000000
theorem CMulB.ok {i j : Int} (h : CMulB i j) : IntMulOk i j := by
  have b : ∀ x : Int, Builtin.Int.intBits x ≤ x.natAbs.log2 + 1 := fun x => by
    unfold Builtin.Int.intBits
    split <;> omega
  have h1 := b i
  have h2 := b j
  have h3 : i.natAbs.log2 + j.natAbs.log2 < 130000000 := h
  have e : bitsLine = 134217728 := by decide
  unfold IntMulOk
  intro z
  rw [Bool.and_eq_true] at z
  have z2 := z.2
  unfold Builtin.Int.intTooBig at z2
  have z3 := of_decide_eq_true z2
  rw [e] at z3
  omega
theorem op_mulB : OpR X (binaryOp .Mult) (rI CMulB fun i j => .int (i * j)) := opI fun _ _ _ _ _ _ _ hc q => mul_int q hc.ok
def gMul : G2 := gI (fun i j => decide (i.natAbs.log2 + j.natAbs.log2 < 130000000)) fun i j => .int (i * j)
theorem o_mul : Op2 X W (rI CMulB fun i j => .int (i * j)) gMul := g_int (fun i j h => by
  have z : i.natAbs.log2 + j.natAbs.log2 < 130000000 := of_decide_eq_true h
  exact z) fun _ _ _ _ => rvi _ _ _
def gLt : G2 := gI (fun _ _ => true) fun i j => .bl (decide (i < j))
def gLe : G2 := gI (fun _ _ => true) fun i j => .bl (decide (i ≤ j))
def gGt : G2 := gI (fun _ _ => true) fun i j => .bl (decide (j < i))
def gGe : G2 := gI (fun _ _ => true) fun i j => .bl (decide (j ≤ i))
theorem o_lt : Op2 X W (rI0 fun i j => .bl (decide (i < j))) gLt := g_int0 fun _ _ _ _ => rvb _ _ _
theorem o_le : Op2 X W (rI0 fun i j => .bl (decide (i ≤ j))) gLe := g_int0 fun _ _ _ _ => rvb _ _ _
theorem o_gt : Op2 X W (rI0 fun i j => .bl (decide (j < i))) gGt := g_int0 fun _ _ _ _ => rvb _ _ _
theorem o_ge : Op2 X W (rI0 fun i j => .bl (decide (j ≤ i))) gGe := g_int0 fun _ _ _ _ => rvb _ _ _

/-! ### + -/
def gAdd : G2 := fun x y M => match x, y with
  | .int i, .int j => .ok (.int (i + j)) M
  | .str i, .str j => if small (i.length + j.length) = true then .ok (.str (i ++ j)) M else .stuck
  | .tup xs, .tup ys => if small (xs.length + ys.length) = true then .ok (.tup (xs ++ ys)) M else .stuck
  | .ref n, .ref m => match M[n]?, M[m]? with
    | some (.lst xs), some (.lst ys) => if small (xs.length + ys.length) = true then .ok (.ref M.length) (M ++ [.lst (xs ++ ys)]) else .stuck
    | _, _ => .stuck
  | _, _ => .stuck
abbrev rAdd (K : PySem.W.Frag) : R2 := fun x y H Q => (rI0 (fun i j => .int (i + j)) x y H Q ∨ (fun x y H Q => ∃ i j, x = V.str i ∧ y = V.str j ∧ i.length + j.length ≤ sizeLine ∧ Q (.str (i ++ j)) H) x y H Q) ∨ (rCatA K x y H Q ∨ rCat x y H Q)
theorem op_addA : OpR X (binaryOp .Add) (rAdd X.K) := opOr (opOr op_add op_add_str) (opOr op_catA op_cat)
theorem o_add : Op2 X W (rAdd X.K) gAdd := by
  intro σ H Q π M x y u v ru rv hm hp
  unfold gAdd at hp
  split at hp
  · rw [RV_int] at ru rv
    exact .inl (.inl ⟨_, _, ru, rv, hp.ok (rvi _ _ _) hm⟩)
  · rw [RV_str] at ru rv
    split at hp
    · rename_i hz
      exact .inl (.inr ⟨_, _, ru, rv, small_le hz, hp.ok (rvs _ _ _) hm⟩)
    · exact hp.elim
  · rename_i xs ys
    split at hp
    · rename_i hz
      have ru' := ru
      have rv' := rv
      unfold RV at ru rv
      obtain ⟨a, vs, rfl, h1, h2⟩ := ru
      obtain ⟨b, ws, rfl, k1, k2⟩ := rv
      refine .inr (.inl ⟨a, b, vs, ws, rfl, rfl, h1.sq, k1.sq, by rw [← h2.length, ← k2.length]; exact small_le hz, fun e => ?_, fun e1 e2 => ?_, fun e1 e2 p hn => ?_⟩)
      · subst e
        cases xs with
        | nil => exact hp.ok rv' hm
        | cons x xs => exact absurd h2.length (by simp)
      · subst e2
        cases ys with
        | nil =>
          rw [List.append_nil] at hp
          exact hp.ok ru' hm
        | cons x xs => exact absurd k2.length (by simp)
      · have e : Ext π H π (upd H p (.tup (vs ++ ws))) := Ext.new hn
        refine hp _ _ π e ?_ (hm.keep fun b u q => by rw [upd_ne (ne_of_none q hn)]; exact q)
        unfold RV
        exact ⟨p, _, rfl, .inl upd_same, (h2.append k2).ext e⟩
    · exact hp.elim
  · rename_i n m
    split at hp
    · rename_i xs ys en em
      split at hp
      · rename_i hz
        unfold RV at ru rv
        obtain ⟨a, rfl, ha⟩ := ru
        obtain ⟨b, rfl, hb⟩ := rv
        obtain ⟨vs, h1, h2⟩ := hm.at_ ha en
        obtain ⟨ws, k1, k2⟩ := hm.at_ hb em
        exact .inr (.inr ⟨a, b, vs, ws, rfl, rfl, h1, k1, by rw [← h2.length, ← k2.length]; exact small_le hz, fun p hn => new_lst (α := Unit) hp hm (h2.append k2) hn⟩)
      · exact hp.elim
    · exact hp.elim
  · exact hp.elim

/-! ### == -/
def allD (f : MV → Option PyData) : List MV → Option (List PyData)
  | [] => some []
  | x :: xs => match f x, allD f xs with
    | some d, some ds => some (d :: ds)
    | _, _ => none
/-- a value as data: lists are read -/
def toD : Nat → MH → MV → Option PyData
  | 0, _, _ => none
  | n + 1, M, v => match v with
    | .non => some .none
    | .bl b => some (.bool b)
    | .int i => some (.int i)
    | .str x => some (.str x)
    | .tup xs => (allD (toD n M) xs).map .tuple
    | .ref k => match lstOf M (.ref k) with
      | some xs => (allD (toD n M) xs).map .list
      | none => none
theorem toD_dp (hm : RM X.prog X.w X.K X.mg π H M) : ∀ (n : Nat) (x : MV) (d : PyData) (u : V), toD n M x = some d → RV X.K π H x u → Dp X.K H u d
  | 0, _, _, _, e, _ => by cases e
  | n + 1, x, d, u, e, r => by
    have all : ∀ (xs : List MV) (ds : List PyData) (vs : List V), allD (toD n M) xs = some ds → RVs X.K π H xs vs → DpAll X.K H vs ds := by
      intro xs
      induction xs with
      | nil =>
        intro ds vs e r
        cases e
        rw [r.unnil]
        exact .nil
      | cons x xs ih =>
        intro ds vs e r
        obtain ⟨v, ws, rfl, r1, r2⟩ := r.uncons
        unfold allD at e
        split at e
        · rename_i d ds e1 e2
          cases e
          exact .cons (toD_dp hm n x d v e1 r1) (ih ds ws e2 r2)
        · cases e
    unfold toD at e
    split at e
    · cases e
      rw [RV_non] at r
      subst r
      exact .non
    · cases e
      rw [RV_bl] at r
      subst r
      exact .bl _
    · cases e
      rw [RV_int] at r
      subst r
      exact .int _
    · cases e
      rw [RV_str] at r
      subst r
      exact .str _
    · obtain ⟨ds, e1, rfl⟩ := Option.map_eq_some_iff.mp e
      obtain ⟨a, vs, rfl, h1, h2⟩ := tup_sq r
      exact .tup h1 (all _ _ _ e1 h2)
    · split at e
      · rename_i xs e1
        obtain ⟨ds, e2, rfl⟩ := Option.map_eq_some_iff.mp e
        obtain ⟨a, vs, rfl, h1, h2⟩ := lstOf_sq e1 hm r
        exact .lst h1 (all _ _ _ e2 h2)
      · cases e
/-- == of simple values -/
def scalEq : MV → MV → Option Bool
  | .non, .non => some true
  | .int i, .int j => some (decide (i = j))
  | .str i, .str j => some (decide (i = j))
  | .bl i, .bl j => some (decide (i = j))
  | .non, .int _ => some false
  | .non, .str _ => some false
  | .non, .bl _ => some false
  | .int _, .non => some false
  | .str _, .non => some false
  | .bl _, .non => some false
  | .int _, .str _ => some false
  | .str _, .int _ => some false
  | .str _, .bl _ => some false
  | .bl _, .str _ => some false
  | _, _ => none
def deepEq (M : MH) (x y : MV) : Option Bool := match toD 66 M x, toD 66 M y with
  | some d, some e => if (SeqAt.shaped d && SeqAt.shaped e) = true then some (PyData.eqv d e) else none
  | _, _ => none
def eqM (M : MH) (x y : MV) : Option Bool := match scalEq x y with
  | some b => some b
  | none => deepEq M x y
def gEq : G2 := fun x y M => match eqM M x y with
  | some b => .ok (.bl b) M
  | none => .stuck
def gNe : G2 := fun x y M => match eqM M x y with
  | some b => .ok (.bl (!b)) M
  | none => .stuck
theorem scalEq_ok {x y : MV} {b : Bool} {u v : V} (e : scalEq x y = some b) (ru : RV X.K π H x u) (rv : RV X.K π H y v) : scal u v = true ∧ decide (u = v) = b := by
  unfold scalEq at e
  split at e <;> cases e <;> (first | rw [RV_non] at ru | rw [RV_int] at ru | rw [RV_str] at ru | rw [RV_bl] at ru) <;> (first | rw [RV_non] at rv | rw [RV_int] at rv | rw [RV_str] at rv | rw [RV_bl] at rv) <;> subst ru <;> subst rv <;> refine ⟨rfl, ?_⟩ <;> simp
theorem deepEq_ok {x y : MV} {b : Bool} {u v : V} (e : deepEq M x y = some b) (hm : RM X.prog X.w X.K X.mg π H M) (ru : RV X.K π H x u) (rv : RV X.K π H y v) :
    ∃ d e, Dp X.K H u d ∧ Dp X.K H v e ∧ SeqAt.shaped d = true ∧ SeqAt.shaped e = true ∧ PyData.eqv d e = b := by
  unfold deepEq at e
  split at e
  · rename_i d d' e1 e2
    split at e
    · rename_i hz
      cases e
      rw [Bool.and_eq_true] at hz
      exact ⟨d, d', toD_dp hm 66 x d u e1 ru, toD_dp hm 66 y d' v e2 rv, hz.1, hz.2, rfl⟩
    · cases e
  · cases e
theorem op_eqA (hu : X.A.units + 64 < cLine) : OpR X (compareOp .Eq) (fun x y H Q => rEq x y H Q ∨ rEqD X.K x y H Q) := opOr op_eq (op_eqD hu)
theorem op_neA (hu : X.A.units + 64 < cLine) : OpR X (compareOp .NotEq) (fun x y H Q => rNe x y H Q ∨ rNeD X.K x y H Q) := opOr op_ne (op_neD hu)
theorem o_eq : Op2 X W (fun x y H Q => rEq x y H Q ∨ rEqD X.K x y H Q) gEq := by
  intro σ H Q π M x y u v ru rv hm hp
  unfold gEq eqM at hp
  cases e : scalEq x y with
  | some b =>
    rw [e] at hp
    obtain ⟨h1, h2⟩ := scalEq_ok e ru rv
    exact .inl ⟨h1, by rw [h2]; exact hp.ok (rvb _ _ _) hm⟩
  | none =>
    rw [e] at hp
    cases e2 : deepEq M x y with
    | some b =>
      rw [e2] at hp
      obtain ⟨d, d', h1, h2, h3, h4, h5⟩ := deepEq_ok e2 hm ru rv
      exact .inr ⟨d, d', h1, h2, h3, h4, by rw [h5]; exact hp.ok (rvb _ _ _) hm⟩
    | none =>
      rw [e2] at hp
      exact hp.elim
theorem o_ne : Op2 X W (fun x y H Q => rNe x y H Q ∨ rNeD X.K x y H Q) gNe := by
  intro σ H Q π M x y u v ru rv hm hp
  unfold gNe eqM at hp
  cases e : scalEq x y with
  | some b =>
    rw [e] at hp
    obtain ⟨h1, h2⟩ := scalEq_ok e ru rv
    exact .inl ⟨h1, by rw [h2]; exact hp.ok (rvb _ _ _) hm⟩
  | none =>
    rw [e] at hp
    cases e2 : deepEq M x y with
    | some b =>
      rw [e2] at hp
      obtain ⟨d, d', h1, h2, h3, h4, h5⟩ := deepEq_ok e2 hm ru rv
      exact .inr ⟨d, d', h1, h2, h3, h4, by rw [h5]; exact hp.ok (rvb _ _ _) hm⟩
    | none =>
      rw [e2] at hp
      exact hp.elim

/-! ### is -/
def isNon : MV → Bool
  | .non => true
  | _ => false
def gIsN : G2 := fun x y M => match y with
  | .non => .ok (.bl (isNon x)) M
  | .bl j => match x with
    | .bl i => .ok (.bl (decide (i = j))) M
    | _ => .stuck
  | _ => .stuck
def gNotN : G2 := fun x y M => match y with
  | .non => .ok (.bl (!isNon x)) M
  | .bl j => match x with
    | .bl i => .ok (.bl (!decide (i = j))) M
    | _ => .stuck
  | _ => .stuck
theorem RV.isN {x : MV} {u : V} (r : RV X.K π H x u) : decide (u = V.non) = isNon x := by
  cases x with
  | non => rw [RV_non] at r; subst r; rfl
  | bl i => rw [RV_bl] at r; subst r; rfl
  | int i => rw [RV_int] at r; subst r; rfl
  | str i => rw [RV_str] at r; subst r; rfl
  | tup xs => unfold RV at r; obtain ⟨a, vs, rfl, _⟩ := r; rfl
  | ref n => unfold RV at r; obtain ⟨a, rfl, _⟩ := r; rfl
abbrev rIsA : R2 := fun x y H Q => (fun x y H Q => y = V.non ∧ Q (.bl (decide (x = .non))) H) x y H Q ∨ rIsB x y H Q
abbrev rNotA : R2 := fun x y H Q => (fun x y H Q => y = V.non ∧ Q (.bl (!decide (x = .non))) H) x y H Q ∨ rNotB x y H Q
theorem op_isA : OpR X (compareOp .Is) rIsA := opOr op_isN op_isBl
theorem op_notA : OpR X (compareOp .IsNot) rNotA := opOr op_notN op_notBl
theorem o_is : Op2 X W rIsA gIsN := by
  intro σ H Q π M x y u v ru rv hm hp
  unfold gIsN at hp
  split at hp
  · rw [RV_non] at rv
    refine .inl ⟨rv, ?_⟩
    rw [ru.isN]
    exact hp.ok (rvb _ _ _) hm
  · split at hp
    · rw [RV_bl] at ru rv
      exact .inr ⟨_, _, ru, rv, hp.ok (rvb _ _ _) hm⟩
    · exact hp.elim
  · exact hp.elim
theorem o_not : Op2 X W rNotA gNotN := by
  intro σ H Q π M x y u v ru rv hm hp
  unfold gNotN at hp
  split at hp
  · rw [RV_non] at rv
    refine .inl ⟨rv, ?_⟩
    rw [ru.isN]
    exact hp.ok (rvb _ _ _) hm
  · split at hp
    · rw [RV_bl] at ru rv
      exact .inr ⟨_, _, ru, rv, hp.ok (rvb _ _ _) hm⟩
    · exact hp.elim
  · exact hp.elim

/-! ### an item, a slice -/
def gIx : G2 := fun x y M => match y with
  | .int i => match x with
    | .tup xs => match atI xs i with
      | some v => .ok v M
      | none => .stuck
    | .str z => if small z.length = true then (match atI z.cps.toList i with
      | some c => .ok (.str ⟨#[c]⟩) M
      | none => .stuck) else .stuck
    | x => match lstOf M x with
      | some xs => match atI xs i with
        | some v => .ok v M
        | none => .stuck
      | none => .stuck
  | _ => .stuck
theorem RVs.atI {xs : List MV} {vs : List V} {i : Int} {x : MV} (r : RVs X.K π H xs vs) (e : L2.atI xs i = some x) : ∃ v, L2.atI vs i = some v ∧ RV X.K π H x v := by
  unfold L2.atI at e ⊢
  rw [← r.length]
  cases h : ixN xs.length i with
  | none =>
    rw [h] at e
    cases e
  | some j =>
    rw [h] at e
    exact r.get e
theorem o_ix : Op2 X W (rIx X.K) gIx := by
  intro σ H Q π M x y u v ru rv hm hp
  unfold gIx at hp
  split at hp
  · rename_i i
    rw [RV_int] at rv
    split at hp
    · rename_i xs
      split at hp
      · rename_i z e
        obtain ⟨a, vs, rfl, h1, h2⟩ := tup_sq ru
        obtain ⟨w', e1, e2⟩ := h2.atI e
        exact .inr (.inl ⟨a, vs, i, w', rfl, rv, h1, e1, hp.ok e2 hm⟩)
      · exact hp.elim
    · split at hp
      · rename_i hz
        split at hp
        · rename_i c e
          rw [RV_str] at ru
          exact .inr (.inr ⟨_, i, c, ru, rv, small_le hz, e, hp.ok (rvs _ _ _) hm⟩)
        · exact hp.elim
      · exact hp.elim
    · split at hp
      · rename_i xs e0
        split at hp
        · rename_i z e
          obtain ⟨a, vs, rfl, h1, h2⟩ := lstOf_sq e0 hm ru
          obtain ⟨w', e1, e2⟩ := h2.atI e
          exact .inl ⟨a, vs, i, w', rfl, rv, h1, e1, hp.ok e2 hm⟩
        · exact hp.elim
      · exact hp.elim
  · exact hp.elim
theorem fx_ix {a b : Expr} {fa fb : FE} {pos : Pos} (ha : FX X W a fa) (hb : FX X W b fb) (hs : PlainIx b) : FX X W (.Subscript a b pos) (fOp gIx fa fb) := by
  obtain ⟨t1, p1, r1⟩ := ha.to
  obtain ⟨t2, p2, r2⟩ := hb.to
  exact ⟨_, pe_ix ix_seq p1 p2 hs, rf_op o_ix r1 r2⟩
end
end FL

namespace FL
open PySem PySem.Spec PyProof.Rows L2
/-! ### values are told apart -/
mutual
def beqV : MV → MV → Bool
  | .non, .non => true
  | .bl a, .bl b => decide (a = b)
  | .int a, .int b => decide (a = b)
  | .str a, .str b => decide (a = b)
  | .tup a, .tup b => beqVs a b
  | .ref a, .ref b => decide (a = b)
  | _, _ => false
def beqVs : List MV → List MV → Bool
  | [], [] => true
  | a :: as, b :: bs => beqV a b && beqVs as bs
  | _, _ => false
end
mutual
theorem eq_of_beqV : ∀ a b : MV, beqV a b = true → a = b
  | .non, b, h => by cases b <;> simp_all [beqV]
  | .bl a, b, h => by cases b <;> simp_all [beqV]
  | .int a, b, h => by cases b <;> simp_all [beqV]
  | .str a, b, h => by cases b <;> simp_all [beqV]
  | .ref a, b, h => by cases b <;> simp_all [beqV]
  | .tup a, b, h => by
    cases b with
    | tup b =>
      rw [beqV] at h
      rw [eq_of_beqVs a b h]
    | _ => simp [beqV] at h
theorem eq_of_beqVs : ∀ a b : List MV, beqVs a b = true → a = b
  | [], b, h => by cases b <;> simp_all [beqVs]
  | a :: as, b, h => by
    cases b with
    | nil => simp [beqVs] at h
    | cons b bs =>
      rw [beqVs, Bool.and_eq_true] at h
      rw [eq_of_beqV a b h.1, eq_of_beqVs as bs h.2]
end
mutual
theorem beqV_self : ∀ a : MV, beqV a a = true
  | .non => rfl
  | .bl a => by simp [beqV]
  | .int a => by simp [beqV]
  | .str a => by simp [beqV]
  | .ref a => by simp [beqV]
  | .tup a => by rw [beqV]; exact beqVs_self a
theorem beqVs_self : ∀ a : List MV, beqVs a a = true
  | [] => rfl
  | a :: as => by rw [beqVs, beqV_self a, beqVs_self as]; rfl
end
instance : DecidableEq MV := fun a b => if h : beqV a b = true then .isTrue (eq_of_beqV a b h) else .isFalse fun e => h (e ▸ beqV_self a)
section
variable {X : Cx} {W : WX} {σ : St} {π π1 : List Addr} {H H1 : Hp} {ρ : Rho} {M : MH}
/-! ### slices -/
abbrev FO := Rho → MH → Res (Option Int)
structure FXO (X : Cx) (W : WX) (e : Option Expr) (f : FO) : Prop where
  to : ∃ t, PO X e t ∧ RF X W REq t f
def foNone : FO := fun _ M => .ok none M
def foSome (f : FE) : FO := fun ρ M => (f ρ M).bind fun x M1 => match x with
  | .int i => .ok (some i) M1
  | _ => .stuck
theorem fo_none : FXO X W none foNone := ⟨_, po_none, fun σ H Q π ρ M hs hm hp => hp.ok rfl hm⟩
theorem fo_some {e : Expr} {f : FE} (h : FX X W e f) : FXO X W (some e) (foSome f) := by
  obtain ⟨t1, p1, r1⟩ := h.to
  refine ⟨_, po_some p1, ?_⟩
  intro σ H Q π ρ M hs hm hp
  refine r1.bind hs hm hp fun x M1 u H1 π1 e1 ru m1 hp1 => ?_
  cases x with
  | int i =>
    rw [RV_int] at ru
    exact ⟨i, ru, hp1.ok rfl m1⟩
  | _ => exact hp1.elim
def cutM {α : Type} (xs : List α) (lo hi : Option Int) : List α := (xs.drop (HT.sIx xs.length 0 lo)).take (HT.sIx xs.length xs.length hi - HT.sIx xs.length 0 lo)
theorem RVs.cut {xs : List MV} {vs : List V} (lo hi : Option Int) (r : RVs X.K π H xs vs) : RVs X.K π H (cutM xs lo hi) (cutV vs lo hi) := by
  unfold cutM cutV
  rw [r.length]
  exact (r.drop _).take _
def gSl (x : MV) (lo hi : Option Int) (M : MH) : Res MV := match x with
  | .tup xs => .ok (.tup (cutM xs lo hi)) M
  | .str z => if small z.length = true then .ok (.str (cutS z lo hi)) M else .stuck
  | x => match lstOf M x with
    | some xs => .ok (.ref M.length) (M ++ [.lst (cutM xs lo hi)])
    | none => .stuck
def fSl (f : FE) (l h : FO) : FE := fun ρ M => (f ρ M).bind fun x M1 => (l ρ M1).bind fun lo M2 => (h ρ M2).bind fun hi M3 => gSl x lo hi M3
theorem cut_whole {xs : List MV} {lo hi : Option Int} (h : HT.sIx xs.length 0 lo = 0 ∧ HT.sIx xs.length xs.length hi = xs.length) : cutM xs lo hi = xs := by
  unfold cutM
  rw [h.1, h.2]
  simp
theorem fx_sl {e : Expr} {lo hi : Option Expr} {f : FE} {l h : FO} {p2 pos : Pos} (he : FX X W e f) (hl : FXO X W lo l) (hh : FXO X W hi h) : FX X W (.Subscript e (.Slice lo hi none p2) pos) (fSl f l h) := by
  obtain ⟨t1, p1, r1⟩ := he.to
  obtain ⟨t2, q2, r2⟩ := hl.to
  obtain ⟨t3, q3, r3⟩ := hh.to
  refine ⟨_, pe_slice (sl_list.or (sl_tupA.or sl_str)) p1 q2 q3, ?_⟩
  intro σ H Q π ρ M hs hm hp
  refine r1.bind hs hm hp fun x M1 u H1 π1 e1 ru m1 hp1 => ?_
  refine r2.bind (hs.ext e1) m1 hp1 fun lo M2 lo' H2 π2 e2 re2 m2 hp2 => ?_
  cases re2
  refine r3.bind ((hs.ext e1).ext e2) m2 hp2 fun hi M3 hi' H3 π3 e3 re3 m3 hp3 => ?_
  cases re3
  have ru3 := ru.ext (e2.trans e3)
  unfold gSl at hp3
  split at hp3
  · rename_i xs
    have ru4 := ru3
    obtain ⟨a, vs, rfl, h1, h2⟩ := tup_sq ru3
    refine .inr (.inl ⟨a, vs, rfl, h1, fun hw => ?_, fun hw p hn => ?_⟩)
    · rw [← h2.length] at hw
      rw [cut_whole hw] at hp3
      exact hp3.ok ru4 m3
    · have e : Ext π3 H3 π3 (upd H3 p (.tup (cutV vs lo hi))) := Ext.new hn
      refine hp3 _ _ π3 e ?_ (m3.keep fun b u q => by rw [upd_ne (ne_of_none q hn)]; exact q)
      unfold RV
      exact ⟨p, _, rfl, .inl upd_same, (h2.cut lo hi).ext e⟩
  · split at hp3
    · rename_i z hz
      rw [RV_str] at ru3
      exact .inr (.inr ⟨z, ru3, small_le hz, hp3.ok (rvs _ _ _) m3⟩)
    · exact hp3.elim
  · split at hp3
    · rename_i xs e0
      obtain ⟨a, vs, rfl, h1, h2⟩ := lstOf_sq e0 m3 ru3
      exact .inl ⟨a, vs, rfl, h1, fun p hn => new_lst (α := Unit) hp3 m3 (h2.cut lo hi) hn⟩
    · exact hp3.elim
/-- xs[::-1] -/
def fRev (f : FE) : FE := fun ρ M => (f ρ M).bind fun x M1 => match lstOf M1 x with
  | some xs => .ok (.ref M1.length) (M1 ++ [.lst xs.reverse])
  | none => .stuck
theorem fx_rev {e : Expr} {f : FE} {k : Nat} {p1 p2 p3 pos : Pos} (h : FX X W e f) : FX X W (.Subscript e (.Slice none none (some (.UnaryOp .USub (.Constant (.int 1) k p1) p2)) p3) pos) (fRev f) := by
  obtain ⟨t1, q1, r1⟩ := h.to
  refine ⟨_, pe_revL q1, ?_⟩
  intro σ H Q π ρ M hs hm hp
  refine r1.bind hs hm hp fun x M1 u H1 π1 e1 ru m1 hp1 => ?_
  cases e0 : lstOf M1 x with
  | some xs =>
    rw [e0] at hp1
    obtain ⟨a, vs, rfl, h1, h2⟩ := lstOf_sq e0 m1 ru
    exact ⟨a, vs, rfl, h1, fun p hn => new_lst (α := Unit) hp1 m1 h2.reverse hn⟩
  | none =>
    rw [e0] at hp1
    exact hp1.elim
/-- -n -/
def fNeg (f : FE) : FE := fun ρ M => (f ρ M).bind fun x M1 => match x with
  | .int i => .ok (.int (-i)) M1
  | _ => .stuck
theorem fx_neg {e : Expr} {f : FE} {pos : Pos} (h : FX X W e f) : FX X W (.UnaryOp .USub e pos) (fNeg f) := by
  obtain ⟨t1, q1, r1⟩ := h.to
  refine ⟨_, pe_un un_neg q1, ?_⟩
  intro σ H Q π ρ M hs hm hp
  refine r1.bind hs hm hp fun x M1 u H1 π1 e1 ru m1 hp1 => ?_
  cases x with
  | int i =>
    rw [RV_int] at ru
    exact ⟨i, ru, hp1.ok (rvi _ _ _) m1⟩
  | _ => exact hp1.elim

/-! ### calls of builtins -/
abbrev GN := List MV → MH → Res MV
def OpN (X : Cx) (W : WX) (r : List V → Hp → VK → Prop) (g : GN) : Prop := ∀ σ H Q π M xs vs, RVs X.K π H xs vs → RM X.prog X.w X.K X.mg π H M → PostR X W (RV X.K) σ π H (g xs M) Q → r vs H Q
def fFn (g : GN) (a : FA) : FE := fun ρ M => (a ρ M).bind fun xs M1 => g xs M1
theorem rf_fn {r : List V → Hp → VK → Prop} {g : GN} {t : TA} {a : FA} (ho : OpN X W r g) (h : RF X W (RVs X.K) t a) : RF X W (RV X.K) (tCB r t) (fFn g a) := by
  intro σ H Q π ρ M hs hm hp
  refine h.bind hs hm hp fun xs M1 vs H1 π1 e1 rv m1 hp1 => ?_
  exact ho σ H1 Q π1 M1 xs vs rv m1 hp1
theorem fx_callB {id : String} {x : Str} {p pos : Pos} {e : Expr} {es : List Expr} {r : List V → Hp → VK → Prop} {g : GN} {a : FA} (hc : CallR X (.builtin id) r) (ho : OpN X W r g) (hg : Gl X x) (hm : X.mg x = none) (hv : bootBuiltins x = some (.builtin id)) (ha : FXA X W (e :: es) a)
    (hn : x ≠ "__name__" := by decide) (hdb : (x == ("__debug__" : Str)) = false := by decide) (he : starEach (e :: es) X.env = (false, eval e X.env) :: starEach es X.env := by rfl) (hpl : (backTo pos (starEach es X.env)).any (·.1) = false := by rfl) :
    FX X W (.Call (.Name x p) (e :: es) [] pos) (fFn g a) := by
  obtain ⟨t1, q1, r1⟩ := ha.to
  exact ⟨_, pe_callB hc hg hm hv q1 hn hdb he hpl, rf_fn ho r1⟩
theorem fx_callT {id : String} {x : Str} {p pos : Pos} {e : Expr} {es : List Expr} {r : List V → Hp → VK → Prop} {g : GN} {a : FA} (hc : CallR X (.type id) r) (ho : OpN X W r g) (hg : Gl X x) (hm : X.mg x = none) (hv : bootBuiltins x = some (.type id)) (ha : FXA X W (e :: es) a)
    (hn : x ≠ "__name__" := by decide) (hdb : (x == ("__debug__" : Str)) = false := by decide) (he : starEach (e :: es) X.env = (false, eval e X.env) :: starEach es X.env := by rfl) (hpl : (backTo pos (starEach es X.env)).any (·.1) = false := by rfl) :
    FX X W (.Call (.Name x p) (e :: es) [] pos) (fFn g a) := by
  obtain ⟨t1, q1, r1⟩ := ha.to
  exact ⟨_, pe_callTy hc hg hm hv q1 hn hdb he hpl, rf_fn ho r1⟩
/-- len: of a list, a tuple, a text -/
def gLen : GN := fun xs M => match xs with
  | [.tup ys] => .ok (.int ys.length) M
  | [.str z] => if small z.length = true then .ok (.int z.length) M else .stuck
  | [x] => match lstOf M x with
    | some ys => .ok (.int ys.length) M
    | none => .stuck
  | _ => .stuck
theorem o_len : OpN X W (fun xs H Q => ∃ x n, xs = [x] ∧ LenV X.K x H n ∧ Q (.int n) H) gLen := by
  intro σ H Q π M xs vs r hm hp
  unfold gLen at hp
  split at hp
  · obtain ⟨v, ws, rfl, r1, r2⟩ := r.uncons
    rw [r2.unnil]
    obtain ⟨a, us, rfl, h1, h2⟩ := tup_sq r1
    exact ⟨_, _, rfl, .inr ⟨us, h1, rfl⟩, by rw [← h2.length]; exact hp.ok (rvi _ _ _) hm⟩
  · obtain ⟨v, ws, rfl, r1, r2⟩ := r.uncons
    rw [r2.unnil]
    rw [RV_str] at r1
    subst r1
    split at hp
    · rename_i hz
      exact ⟨_, _, rfl, ⟨small_le hz, rfl⟩, hp.ok (rvi _ _ _) hm⟩
    · exact hp.elim
  · obtain ⟨v, ws, rfl, r1, r2⟩ := r.uncons
    rw [r2.unnil]
    split at hp
    · rename_i ys e0
      obtain ⟨a, us, rfl, h1, h2⟩ := lstOf_sq e0 hm r1
      exact ⟨_, _, rfl, .inl ⟨us, h1, rfl⟩, by rw [← h2.length]; exact hp.ok (rvi _ _ _) hm⟩
    · exact hp.elim
  · exact hp.elim
/-- list(x), tuple(x) of a list or a tuple -/
def gList : GN := fun xs M => match xs with
  | [.tup ys] => .ok (.ref M.length) (M ++ [.lst ys])
  | [x] => match lstOf M x with
    | some ys => .ok (.ref M.length) (M ++ [.lst ys])
    | none => .stuck
  | _ => .stuck
def gTuple : GN := fun xs M => match xs with
  | [.tup ys] => .ok (.tup ys) M
  | [x] => match lstOf M x with
    | some ys => .ok (.tup ys) M
    | none => .stuck
  | _ => .stuck
theorem o_list : OpN X W (fun xs H Q => ∃ p ys, xs = [.ref p] ∧ (SqL X.K H p ys ∨ SqT X.K H p ys) ∧ ∀ l, H l = none → Q (.ref l) (upd H l (.lst ys))) gList := by
  intro σ H Q π M xs vs r hm hp
  unfold gList at hp
  split at hp
  · obtain ⟨v, ws, rfl, r1, r2⟩ := r.uncons
    rw [r2.unnil]
    obtain ⟨a, us, rfl, h1, h2⟩ := tup_sq r1
    exact ⟨a, us, rfl, .inr h1, fun l hn => new_lst (α := Unit) hp hm h2 hn⟩
  · obtain ⟨v, ws, rfl, r1, r2⟩ := r.uncons
    rw [r2.unnil]
    split at hp
    · rename_i ys e0
      obtain ⟨a, us, rfl, h1, h2⟩ := lstOf_sq e0 hm r1
      exact ⟨a, us, rfl, .inl h1, fun l hn => new_lst (α := Unit) hp hm h2 hn⟩
    · exact hp.elim
  · exact hp.elim
theorem o_tuple : OpN X W (fun xs H Q => ∃ p ys, xs = [.ref p] ∧ ((SqL X.K H p ys ∧ ∀ l, H l = none → Q (.ref l) (upd H l (.tup ys))) ∨ (SqT X.K H p ys ∧ Q (.ref p) H))) gTuple := by
  intro σ H Q π M xs vs r hm hp
  unfold gTuple at hp
  split at hp
  · obtain ⟨v, ws, rfl, r1, r2⟩ := r.uncons
    rw [r2.unnil]
    have r1' := r1
    obtain ⟨a, us, rfl, h1, h2⟩ := tup_sq r1
    exact ⟨a, us, rfl, .inr ⟨h1, hp.ok r1' hm⟩⟩
  · obtain ⟨v, ws, rfl, r1, r2⟩ := r.uncons
    rw [r2.unnil]
    split at hp
    · rename_i ys e0
      obtain ⟨a, us, rfl, h1, h2⟩ := lstOf_sq e0 hm r1
      refine ⟨a, us, rfl, .inl ⟨h1, fun p hn => ?_⟩⟩
      have e : Ext π H π (upd H p (.tup us)) := Ext.new hn
      refine hp _ _ π e ?_ (hm.keep fun b u q => by rw [upd_ne (ne_of_none q hn)]; exact q)
      unfold RV
      exact ⟨p, _, rfl, .inl upd_same, h2.ext e⟩
    · exact hp.elim
  · exact hp.elim
def gMax : GN := fun xs M => match xs with
  | [.int i, .int j] => .ok (.int (if j > i then j else i)) M
  | _ => .stuck
def gMin : GN := fun xs M => match xs with
  | [.int i, .int j] => .ok (.int (if j < i then j else i)) M
  | _ => .stuck
theorem two_ints {i j : Int} {vs : List V} (r : RVs X.K π H [.int i, .int j] vs) : vs = [.int i, .int j] := by
  obtain ⟨v, ws, rfl, r1, r2⟩ := r.uncons
  obtain ⟨v2, ws2, rfl, r3, r4⟩ := r2.uncons
  rw [r4.unnil]
  rw [RV_int] at r1 r3
  rw [r1, r3]
theorem o_max : OpN X W (fun xs H Q => ∃ i j, xs = [.int i, .int j] ∧ Q (.int (if j > i then j else i)) H) gMax := by
  intro σ H Q π M xs vs r hm hp
  unfold gMax at hp
  split at hp
  · exact ⟨_, _, two_ints r, hp.ok (rvi _ _ _) hm⟩
  · exact hp.elim
theorem o_min : OpN X W (fun xs H Q => ∃ i j, xs = [.int i, .int j] ∧ Q (.int (if j < i then j else i)) H) gMin := by
  intro σ H Q π M xs vs r hm hp
  unfold gMin at hp
  split at hp
  · exact ⟨_, _, two_ints r, hp.ok (rvi _ _ _) hm⟩
  · exact hp.elim
/-- truths -/
def allB : List MV → Option (List Bool)
  | [] => some []
  | .bl b :: xs => (allB xs).map (b :: ·)
  | _ => none
theorem allB_ok : ∀ {xs : List MV} {bs : List Bool} {vs : List V}, allB xs = some bs → RVs X.K π H xs vs → vs = bs.map V.bl
  | [], _, _, e, r => by
    cases e
    exact r.unnil
  | .bl b :: xs, bs, _, e, r => by
    obtain ⟨v, ws, rfl, r1, r2⟩ := r.uncons
    rw [RV_bl] at r1
    unfold allB at e
    obtain ⟨cs, e1, rfl⟩ := Option.map_eq_some_iff.mp e
    rw [List.map_cons, r1, allB_ok e1 r2]
  | .non :: _, _, _, e, _ => by cases e
  | .int _ :: _, _, _, e, _ => by cases e
  | .str _ :: _, _, _, e, _ => by cases e
  | .tup _ :: _, _, _, e, _ => by cases e
  | .ref _ :: _, _, _, e, _ => by cases e
def gAll : GN := fun xs M => match xs with
  | [x] => match lstOf M x with
    | some ys => match allB ys with
      | some bs => .ok (.bl (bs.all id)) M
      | none => .stuck
    | none => .stuck
  | _ => .stuck
def gAny : GN := fun xs M => match xs with
  | [x] => match lstOf M x with
    | some ys => match allB ys with
      | some bs => .ok (.bl (bs.any id)) M
      | none => .stuck
    | none => .stuck
  | _ => .stuck
theorem o_all : OpN X W (rAll X.K) gAll := by
  intro σ H Q π M xs vs r hm hp
  unfold gAll at hp
  split at hp
  · obtain ⟨v, ws, rfl, r1, r2⟩ := r.uncons
    rw [r2.unnil]
    split at hp
    · rename_i ys e0
      split at hp
      · rename_i bs e1
        obtain ⟨a, us, rfl, h1, h2⟩ := lstOf_sq e0 hm r1
        exact ⟨a, bs, rfl, by rw [← allB_ok e1 h2]; exact h1, hp.ok (rvb _ _ _) hm⟩
      · exact hp.elim
    · exact hp.elim
  · exact hp.elim
theorem o_any : OpN X W (rAny X.K) gAny := by
  intro σ H Q π M xs vs r hm hp
  unfold gAny at hp
  split at hp
  · obtain ⟨v, ws, rfl, r1, r2⟩ := r.uncons
    rw [r2.unnil]
    split at hp
    · rename_i ys e0
      split at hp
      · rename_i bs e1
        obtain ⟨a, us, rfl, h1, h2⟩ := lstOf_sq e0 hm r1
        exact ⟨a, bs, rfl, by rw [← allB_ok e1 h2]; exact h1, hp.ok (rvb _ _ _) hm⟩
      · exact hp.elim
    · exact hp.elim
  · exact hp.elim
/-- isinstance(x, T), T a built-in class -/
def tyName (M : MH) : MV → Option String
  | .non => some "NoneType"
  | .bl _ => some "bool"
  | .int _ => some "int"
  | .str _ => some "str"
  | .tup _ => some "tuple"
  | .ref n => match M[n]? with
    | some (.lst _) => some "list"
    | some (.cst _) => some "list"
    | _ => none
def fIsi (T : String) (f : FE) : FE := fun ρ M => (f ρ M).bind fun x M1 => match tyName M1 x with
  | some a => match kitB a T with
    | some b => .ok (.bl b) M1
    | none => .stuck
  | none => .stuck
theorem tyName_ok {x : MV} {a : String} {u : V} (e : tyName M x = some a) (hm : RM X.prog X.w X.K X.mg π H M) (r : RV X.K π H x u) : TyX X.K H u (.type a) := by
  cases x with
  | non => rw [RV_non] at r; subst r; cases e; exact .base .non
  | bl b => rw [RV_bl] at r; subst r; cases e; exact .base (.bl _)
  | int b => rw [RV_int] at r; subst r; cases e; exact .base (.int _)
  | str b => rw [RV_str] at r; subst r; cases e; exact .base (.str _)
  | tup xs =>
    unfold RV at r
    obtain ⟨p, vs, rfl, h1, h2⟩ := r
    cases e
    rcases h1 with h1 | ⟨o, its, n, h1, h3, _⟩
    · exact .base (.tup h1)
    · exact .kTuple h1 h3
  | ref n =>
    unfold RV at r
    obtain ⟨p, rfl, hp⟩ := r
    cases q : M[n]? with
    | none => simp [tyName, q] at e
    | some o =>
      cases o with
      | lst ys =>
        simp only [tyName, q, Option.some.injEq] at e
        subst e
        obtain ⟨vs, h1, h2⟩ := hm.at_ hp q
        exact .base (.lst h1)
      | cst ys =>
        simp only [tyName, q, Option.some.injEq] at e
        subst e
        obtain ⟨vs, h1, h2⟩ := hm.at_ hp q
        rcases h1 with ⟨o, h1⟩ | ⟨o, its, n, h1, h3, _⟩
        · exact .base (.frz h1)
        · exact .kList h1 h3
      | dct _ => simp [tyName, q] at e
      | ins _ _ => simp [tyName, q] at e
theorem fx_isi {T : String} {x y : Str} {p p2 pos : Pos} {e : Expr} {f : FE} (hg : Gl X x) (hm : X.mg x = none) (hv : bootBuiltins x = some (.builtin "isinstance")) (hg2 : Gl X y) (hm2 : X.mg y = none) (hv2 : bootBuiltins y = some (.type T)) (h : FX X W e f)
    (hn : x ≠ "__name__" := by decide) (hdb : (x == ("__debug__" : Str)) = false := by decide) (hn2 : y ≠ "__name__" := by decide) (hdb2 : (y == ("__debug__" : Str)) = false := by decide)
    (he : starEach [e, .Name y p2] X.env = (false, eval e X.env) :: starEach [.Name y p2] X.env := by rfl) (he2 : starEach [.Name y p2] X.env = (false, eval (.Name y p2) X.env) :: starEach [] X.env := by rfl) (hpl : (backTo pos (starEach [.Name y p2] X.env)).any (·.1) = false := by rfl) :
    FX X W (.Call (.Name x p) [e, .Name y p2] [] pos) (fIsi T f) := by
  obtain ⟨t1, q1, r1⟩ := h.to
  refine ⟨_, pe_callB call_isi hg hm hv (pa_cons q1 (pa_cons (pe_bltn (v := .ty T) hg2 hm2 hv2 rfl hn2 hdb2) pa_nil he2) he) hn hdb he hpl, ?_⟩
  intro σ H Q π ρ M hs hm hp
  refine r1.bind hs hm hp fun z M1 u H1 π1 e1 ru m1 hp1 => ?_
  cases e2 : tyName M1 z with
  | none =>
    rw [e2] at hp1
    exact hp1.elim
  | some a =>
    rw [e2] at hp1
    cases e3 : kitB a T with
    | none =>
      simp only [e3] at hp1
      exact hp1.elim
    | some b =>
      simp only [e3] at hp1
      exact ⟨u, .ty T, .type a, .type T, b, rfl, .ty T, tyName_ok e2 m1 ru, kit_ty e3, hp1.ok (rvb _ _ _) m1⟩
end
end FL

namespace FL
open PySem PySem.Spec PyProof.Rows L2
section
variable {X : Cx} {W : WX} {σ : St} {π π1 : List Addr} {H H1 : Hp} {ρ : Rho} {M : MH}
/-! ### statements -/
def sNext : FS := fun ρ M => .next ρ M
def sBrk : FS := fun ρ M => .brk ρ M
def sCnt : FS := fun ρ M => .cnt ρ M
def sSeq (f g : FS) : FS := fun ρ M => (f ρ M).seq g
def sDrop (f : FE) : FS := fun ρ M => (f ρ M).stm ρ fun _ M1 => .next ρ M1
def sRet (f : FE) : FS := fun ρ M => (f ρ M).stm ρ fun x M1 => .ret x M1
def sRetN : FS := fun _ M => .ret .non M
def sIf (c : FT) (a b : FS) : FS := fun ρ M => (c ρ M).stm ρ fun k M1 => if k = true then a ρ M1 else b ρ M1
theorem fb_nil : FXB X W [] sNext := ⟨_, pss_nil, fun D σ H π ρ M hs hm hp => hp σ H π Ext.refl hs hm⟩
theorem fs_pass {pos : Pos} : FXS X W (.Pass pos) sNext := ⟨_, ps_pass, fun D σ H π ρ M hs hm hp => hp σ H π Ext.refl hs hm⟩
theorem fs_break {pos : Pos} : FXS X W (.Break pos) sBrk := ⟨_, ps_break, fun D σ H π ρ M hs hm hp => hp σ H π Ext.refl hs hm⟩
theorem fs_continue {pos : Pos} : FXS X W (.Continue pos) sCnt := ⟨_, ps_continue, fun D σ H π ρ M hs hm hp => hp σ H π Ext.refl hs hm⟩
theorem fb_one {st : Stmt} {f : FS} (h : FXS X W st f) : FXB X W [st] f := let ⟨t, p, r⟩ := h.to; ⟨t, pss_one p, r⟩
theorem rfs_seq {t u : TS} {f g : FS} (r1 : RFS X W t f) (r2 : RFS X W u g) : RFS X W (tSeq t u) (sSeq f g) := by
  intro D σ H π ρ M hs hm hp
  refine r1 { D with nx := u D } σ H π ρ M hs hm ?_
  unfold sSeq at hp
  cases e : f ρ M with
  | next ρ1 M1 =>
    rw [e] at hp
    exact fun σ' H' π' e' hs' hm' => r2 D σ' H' π' ρ1 M1 hs' hm' (PostS.mono e' hp)
  | brk ρ1 M1 => rw [e] at hp; exact hp
  | cnt ρ1 M1 => rw [e] at hp; exact hp
  | ret x M1 => rw [e] at hp; exact hp
  | ex c fs ρ1 M1 => rw [e] at hp; exact hp
  | stuck => rw [e] at hp; exact hp
theorem fb_cons {st : Stmt} {rest : List Stmt} {f g : FS} (h : FXS X W st f) (h2 : FXB X W rest g) : FXB X W (st :: rest) (sSeq f g) := by
  obtain ⟨t, p, r⟩ := h.to
  obtain ⟨u, q, r2⟩ := h2.to
  exact ⟨_, pss_cons p q, rfs_seq r r2⟩
theorem fs_expr {e : Expr} {f : FE} {pos : Pos} (h : FX X W e f) (hs : swapsWith e none pos.line X.env = pure false := by rfl) : FXS X W (.Expr e pos) (sDrop f) := by
  obtain ⟨t, p, r⟩ := h.to
  refine ⟨_, ps_expr p hs, ?_⟩
  intro D σ H π ρ M hs hm hp
  refine r.stm hs hm hp fun x M1 u H1 π1 e1 ru m1 hp1 => ?_
  exact hp1 σ H1 π1 Ext.refl (hs.ext e1) m1
theorem fs_ret {e : Expr} {f : FE} {pos : Pos} (h : FX X W e f) : FXS X W (.Return (some e) pos) (sRet f) := by
  obtain ⟨t, p, r⟩ := h.to
  refine ⟨_, ps_ret p, ?_⟩
  intro D σ H π ρ M hs hm hp
  refine r.stm hs hm hp fun x M1 u H1 π1 e1 ru m1 hp1 => ?_
  exact hp1 u H1 π1 Ext.refl ru m1
theorem fs_retN {pos : Pos} : FXS X W (.Return none pos) sRetN := ⟨_, ps_retN, fun D σ H π ρ M hs hm hp => hp .non H π Ext.refl (by rw [RV_non]) hm⟩
theorem fs_if {c : Expr} {a b : List Stmt} {fc : FT} {f g : FS} {pos : Pos} (hc : FXT X W c fc) (ha : FXB X W a f) (hb : FXB X W b g) : FXS X W (.If c a b pos) (sIf fc f g) := by
  obtain ⟨t, p, r⟩ := hc.to
  obtain ⟨t1, p1, r1⟩ := ha.to
  obtain ⟨t2, p2, r2⟩ := hb.to
  refine ⟨_, ps_if p p1 p2, ?_⟩
  intro D σ H π ρ M hs hm hp
  refine r.stm hs hm hp fun k M1 k' H1 π1 e1 rk m1 hp1 => ?_
  cases rk
  cases k with
  | true => exact r1 D σ H1 π1 ρ M1 (hs.ext e1) m1 hp1
  | false => exact r2 D σ H1 π1 ρ M1 (hs.ext e1) m1 hp1

/-! ### targets -/
abbrev FG := MV → Rho → Option Rho
structure FXG (X : Cx) (e : Expr) (g : FG) : Prop where
  to : ∃ t, PG X e t ∧ ∀ (x : MV) (v : V) (σ : St) (H : Hp) (π : List Addr) (ρ ρ' : Rho) (Q : St → Hp → Prop), RV X.K π H x v → RS X.K π H σ ρ → g x ρ = some ρ' → (∀ σ', RS X.K π H σ' ρ' → Q σ' H) → t v σ H Q
structure FXGs (X : Cx) (es : List Expr) (g : List MV → Rho → Option Rho) : Prop where
  to : ∃ t, PGs X es t ∧ ∀ (xs : List MV) (vs : List V) (σ : St) (H : Hp) (π : List Addr) (ρ ρ' : Rho) (Q : St → Hp → Prop), RVs X.K π H xs vs → RS X.K π H σ ρ → g xs ρ = some ρ' → (∀ σ', RS X.K π H σ' ρ' → Q σ' H) → t vs σ H Q
def gtName (i : Nat) : FG := fun x ρ => some (ρ.set i (some x))
def gtNil : List MV → Rho → Option Rho := fun xs ρ => match xs with
  | [] => some ρ
  | _ => none
def gtCons (g : FG) (h : List MV → Rho → Option Rho) : List MV → Rho → Option Rho := fun xs ρ => match xs with
  | x :: xs => match g x ρ with
    | some ρ1 => h xs ρ1
    | none => none
  | [] => none
def gtTup (n : Nat) (h : List MV → Rho → Option Rho) : FG := fun x ρ => match x with
  | .tup xs => if xs.length = n then h xs ρ else none
  | _ => none
theorem fg_name {i : Nat} {x : Str} {pos : Pos} (hN : X.N.Nodup) (hi : X.N[i]? = some x) (hx : Loc X.env.scope x) (hf : X.fn x = true ∨ X.env.scope.names.lookup x = some .local := by first | exact .inl rfl | exact .inr rfl | assumption) : FXG X (.Name x pos) (gtName i) := by
  refine ⟨_, pg_name hN hi hx hf, ?_⟩
  intro x v σ H π ρ ρ' Q rv hs e k
  cases e
  exact k _ (hs.set i rv)
theorem fgs_nil : FXGs X [] gtNil := by
  refine ⟨_, pgs_nil, ?_⟩
  intro xs vs σ H π ρ ρ' Q rv hs e k
  cases xs with
  | nil =>
    cases e
    exact ⟨rv.unnil, k _ hs⟩
  | cons x xs => cases e
theorem fgs_cons {e : Expr} {es : List Expr} {g : FG} {h : List MV → Rho → Option Rho} (h1 : FXG X e g) (h2 : FXGs X es h) (hs : (assignEach (e :: es) X.env).map (·.2) = assign e X.env :: (assignEach es X.env).map (·.2) := by rfl) : FXGs X (e :: es) (gtCons g h) := by
  obtain ⟨t, p, r⟩ := h1.to
  obtain ⟨u, q, r2⟩ := h2.to
  refine ⟨_, pgs_cons p q hs, ?_⟩
  intro xs vs σ H π ρ ρ' Q rv hs e k
  cases xs with
  | nil => cases e
  | cons x xs =>
    obtain ⟨v, ws, rfl, r3, r4⟩ := rv.uncons
    simp only [gtCons] at e
    cases e1 : g x ρ with
    | none =>
      rw [e1] at e
      cases e
    | some ρ1 =>
      rw [e1] at e
      exact ⟨v, ws, rfl, r x v σ H π ρ ρ1 _ r3 hs e1 fun σ' hs' => r2 xs ws σ' H π ρ1 ρ' Q r4 hs' e k⟩
theorem fg_tup {es : List Expr} {k : Nat} {pos : Pos} {h : List MV → Rho → Option Rho} {n : Nat} (hc : X.calm = true) (h1 : FXGs X es h) (hn : (assignEach es X.env).length = n := by rfl) (hst : (assignEach es X.env).findIdx? (·.1) = none := by rfl) : FXG X (.Tuple es k pos) (gtTup n h) := by
  obtain ⟨t, p, r⟩ := h1.to
  refine ⟨_, pg_tup hc p hn hst, ?_⟩
  intro x v σ H π ρ ρ' Q rv hs e k
  cases x with
  | tup xs =>
    obtain ⟨a, vs, rfl, h1, h2⟩ := tup_sq rv
    simp only [gtTup] at e
    split at e
    · rename_i hz
      exact ⟨a, vs, rfl, h1, by rw [← h2.length]; exact hz, r xs vs σ H π ρ ρ' Q h2 hs e k⟩
    · cases e
  | _ => cases e
def sAsg (f : FE) (g : FG) : FS := fun ρ M => (f ρ M).stm ρ fun x M1 => match g x ρ with
  | some ρ1 => .next ρ1 M1
  | none => .stuck
theorem rfs_asg {te : TE} {f : FE} {tg : TG} {g : FG} (r : RF X W (RV X.K) te f)
    (rg : ∀ (x : MV) (v : V) (σ : St) (H : Hp) (π : List Addr) (ρ ρ' : Rho) (Q : St → Hp → Prop), RV X.K π H x v → RS X.K π H σ ρ → g x ρ = some ρ' → (∀ σ', RS X.K π H σ' ρ' → Q σ' H) → tg v σ H Q) : RFS X W (tAsg te tg) (sAsg f g) := by
  intro D σ H π ρ M hs hm hp
  refine r.stm hs hm hp fun x M1 u H1 π1 e1 ru m1 hp1 => ?_
  cases e2 : g x ρ with
  | none =>
    rw [e2] at hp1
    exact hp1.elim
  | some ρ1 =>
    rw [e2] at hp1
    exact rg x u σ H1 π1 ρ ρ1 _ ru (hs.ext e1) e2 fun σ' hs' => hp1 σ' H1 π1 Ext.refl hs' m1
theorem fs_set {i : Nat} {x : Str} {e : Expr} {f : FE} {pos pos' : Pos} (hN : X.N.Nodup) (hi : X.N[i]? = some x) (hx : Loc X.env.scope x) (h : FX X W e f) (hs : swapsWith e (some (.Name x pos')) pos.line X.env = pure false := by rfl) (hf : X.fn x = true ∨ X.env.scope.names.lookup x = some .local := by first | exact .inl rfl | exact .inr rfl | assumption) :
    FXS X W (.Assign [.Name x pos'] e pos) (sAsg f (gtName i)) := by
  obtain ⟨t, p, r⟩ := h.to
  refine ⟨_, ps_set hN hi hx p hs hf, rfs_asg r ?_⟩
  intro x v σ H π ρ ρ' Q rv hs e k
  cases e
  exact k _ (hs.set i rv)
theorem fs_asg {tg e : Expr} {f : FE} {g : FG} {pos : Pos} (he : FX X W e f) (hg : FXG X tg g) (hs : swapsWithSole [tg] e pos.line X.env = pure false := by rfl) (hw : swappedStores [tg] e X.env = pure none := by rfl) (h1 : (assignEach [tg] X.env).map (·.2) = [assign tg X.env] := by rfl) : FXS X W (.Assign [tg] e pos) (sAsg f g) := by
  obtain ⟨t, p, r⟩ := he.to
  obtain ⟨u, q, r2⟩ := hg.to
  exact ⟨_, ps_asg p q hs hw h1, rfs_asg r r2⟩

/-! ### what is walked -/
structure Src where
  items : List MV
  chk : MH → Bool
abbrev FI := Rho → MH → Res Src
/-- an iterator gives the items, one after another, while its source stands -/
def WalkOk (X : Cx) (J : It) (π : List Addr) (H : Hp) (S : Src) : Prop := ∀ i π' H' M', Ext π H π' H' → RM X.prog X.w X.K X.mg π' H' M' → S.chk M' = true →
  (∀ x, S.items[i]? = some x → J.go i H' ∧ ∀ v H'', J.yld i H' v H'' → Ext π' H' π' H'' ∧ RM X.prog X.w X.K X.mg π' H'' M' ∧ RV X.K π' H'' x v) ∧ (S.items.length = i → J.stop i H')
def RISrc (X : Cx) : List Addr → Hp → Src → It → Prop := fun π H S J => WalkOk X J π H S
structure FXI (X : Cx) (W : WX) (tg e : Expr) (f : FI) : Prop where
  to : ∃ wi, PI X tg e wi ∧ ∀ σ H R π ρ M, RS X.K π H σ ρ → RM X.prog X.w X.K X.mg π H M → PostR X W (RISrc X) σ π H (f ρ M) R → wi σ H R
theorem WalkOk.ext {J : It} {S : Src} (e : Ext π H π1 H1) (h : WalkOk X J π H S) : WalkOk X J π1 H1 S := fun i π' H' M' e' => h i π' H' M' (e.trans e')
def chkL (n : Nat) (o : List MV) : MH → Bool := fun M => match M[n]? with
  | some (.lst ys) => beqVs ys o
  | some (.cst ys) => beqVs ys o
  | _ => false
theorem chkL_ok {n : Nat} {xs : List MV} (h : chkL n xs M = true) : lstOf M (.ref n) = some xs := by
  unfold chkL at h
  cases q : M[n]? with
  | none => rw [q] at h; cases h
  | some o =>
    cases o with
    | lst ys => rw [q] at h; simp only [lstOf, q]; rw [eq_of_beqVs _ _ h]
    | cst ys => rw [q] at h; simp only [lstOf, q]; rw [eq_of_beqVs _ _ h]
    | dct _ => rw [q] at h; cases h
    | ins _ _ => rw [q] at h; cases h
/-- the items of a value: of a list, a tuple, a text -/
def srcOf (M : MH) : MV → Option Src
  | .tup xs => some ⟨xs, fun _ => true⟩
  | .str z => some ⟨z.cps.toList.map fun c => .str ⟨#[c]⟩, fun _ => true⟩
  | .ref n => match lstOf M (.ref n) with
    | some xs => some ⟨xs, chkL n xs⟩
    | none => none
  | _ => none
def fiAny (f : FE) : FI := fun ρ M => (f ρ M).bind fun x M1 => match srcOf M1 x with
  | some S => .ok S M1
  | none => .stuck
def iAny (K : PySem.W.Frag) (te : TE) : TI := fun σ H R => te σ H fun x H1 => (∃ a, x = .ref a ∧ (∃ xs, SqL K H1 a xs) ∧ R (Itl K a) H1) ∨ (∃ a, x = .ref a ∧ (∃ xs, SqT K H1 a xs) ∧ R (Itt K a) H1) ∨ ∃ z, x = .str z ∧ R (Its z) H1
theorem pi_anyV {tg e : Expr} {te : TE} (he : PE X e te) : PI X tg e (iAny X.K te) := by
  refine ⟨fun pins s σ H R I h => ?_⟩
  refine thn (he.run pins s σ H _ I h) fun v s1 ⟨x, H1, I1, r1, q1⟩ => ?_
  rcases q1 with ⟨a, e, ⟨xs, hq⟩, q⟩ | ⟨a, e, ⟨xs, hq⟩, q⟩ | ⟨z, e, q⟩
  · subst e
    cases r1
    obtain ⟨its, rv, p, hz⟩ := I1.list hq
    exact wpAny_pyIter_list p.isList (pi_one (tk := s1.toks) I1 _ (turn_list a _) ⟨_, Heap.get?_push_size _ rfl, rfl, rfl⟩ q)
  · subst e
    cases r1
    obtain ⟨its, rv, p, hz⟩ := I1.tuple hq
    exact wpAny_pyIter_tuple (show s1.heap.IsTuple a its.toArray from p) (pi_one (tk := s1.toks) I1 _ (turn_tuple a _) ⟨_, Heap.get?_push_size _ rfl, rfl, rfl⟩ q)
  · subst e
    obtain ⟨t, rfl⟩ := r1
    cases ha : z.cps.all (· < 128)
    · exact wpAny_pyIter_wide ha (pi_one (tk := s1.toks) I1 _ (turn_str _ z t "str_iterator" (.inr rfl)) ⟨_, Heap.get?_push_size _ rfl, rfl, rfl⟩ q)
    · exact wpAny_pyIter_ascii ha (pi_one (tk := s1.toks) I1 _ (turn_str _ z t "str_ascii_iterator" (.inl rfl)) ⟨_, Heap.get?_push_size _ rfl, rfl, rfl⟩ q)
theorem SqL.uniq {K : PySem.W.Frag} {a : Addr} {xs ys : List V} (hx : ∃ o : HO, H a = some o) (h : SqL K H a xs) : SqL K H a ys → SqL K H a ys := id
theorem fi_any {tg e : Expr} {f : FE} (h : FX X W e f) : FXI X W tg e (fiAny f) := by
  obtain ⟨t, p, r⟩ := h.to
  refine ⟨_, pi_anyV p, ?_⟩
  intro σ H R π ρ M hs hm hp
  refine r.bind hs hm hp fun x M1 u H1 π1 e1 ru m1 hp1 => ?_
  cases x with
  | tup xs =>
    have ru' := ru
    unfold RV at ru'
    obtain ⟨a, vs, rfl, h1, h2⟩ := ru'
    refine .inr (.inl ⟨a, rfl, ⟨vs, h1.sq⟩, hp1 (Itt X.K a) H1 π1 Ext.refl ?_ m1⟩)
    intro i π' H' M' e' m' _
    have q1 := (h1.ext e').sq
    refine ⟨fun x hx => ?_, fun hi => ⟨vs, q1, by rw [← h2.length]; exact Nat.le_of_eq hi⟩⟩
    obtain ⟨w', g1, g2⟩ := h2.get hx
    exact ⟨⟨vs, w', q1, g1⟩, fun v H'' y => by
      obtain ⟨rfl, y⟩ := y
      have := y vs q1
      rw [g1] at this
      cases this
      exact ⟨Ext.refl, m', g2.ext e'⟩⟩
  | str z =>
    rw [RV_str] at ru
    refine .inr (.inr ⟨z, ru, hp1 (Its z) H1 π1 Ext.refl ?_ m1⟩)
    intro i π' H' M' e' m' _
    refine ⟨fun x hx => ?_, fun hi => ?_⟩
    · rw [List.getElem?_map] at hx
      obtain ⟨c, hc, rfl⟩ := Option.map_eq_some_iff.mp hx
      rw [Array.getElem?_toList] at hc
      refine ⟨(Array.getElem?_eq_some_iff.mp hc).1, fun v H'' y => ?_⟩
      obtain ⟨rfl, c', hc', rfl⟩ := y
      rw [hc] at hc'
      cases hc'
      exact ⟨Ext.refl, m', rvs _ _ _⟩
    · have : z.cps.size = i := by simpa using hi
      exact Nat.le_of_eq this
  | ref n =>
    cases e2 : lstOf M1 (.ref n) with
    | none =>
      simp only [srcOf, e2] at hp1
      exact hp1.elim
    | some xs =>
      simp only [srcOf, e2] at hp1
      have ru' := ru
      obtain ⟨a, vs, rfl, h1, h2⟩ := lstOf_sq e2 m1 ru'
      refine .inl ⟨a, rfl, ⟨vs, h1⟩, hp1 (Itl X.K a) H1 π1 Ext.refl ?_ m1⟩
      intro i π' H' M' e' m' hc
      obtain ⟨b, ws, eb, k1, k2⟩ := lstOf_sq (chkL_ok hc) m' (ru.ext e')
      cases eb
      refine ⟨fun x hx => ?_, fun hi => ⟨ws, k1, by rw [← k2.length]; exact Nat.le_of_eq hi⟩⟩
      obtain ⟨w', g1, g2⟩ := k2.get hx
      exact ⟨⟨ws, w', k1, g1⟩, fun v H'' y => by
        obtain ⟨rfl, y⟩ := y
        have := y ws k1
        rw [g1] at this
        cases this
        exact ⟨Ext.refl, m', g2⟩⟩
  | _ => exact hp1.elim
/-- the ints lo, lo + 1, .. -/
def upto (lo : Int) (n : Nat) : List MV := (List.range n).map fun (i : Nat) => MV.int (lo + i)
def small62 (i : Int) : Bool := decide (-(2 ^ 62) ≤ i) && decide (i < 2 ^ 62)
theorem small62_ok {i : Int} (h : small62 i = true) : -(2 ^ 62) ≤ i ∧ i < 2 ^ 62 := by
  unfold small62 at h
  rw [Bool.and_eq_true] at h
  exact ⟨of_decide_eq_true h.1, of_decide_eq_true h.2⟩
theorem walk_range {lo : Int} {n : Nat} : WalkOk X (Itr lo n) π H ⟨upto lo n, fun _ => true⟩ := by
  intro i π' H' M' e' m' _
  refine ⟨fun x hx => ?_, fun hi => ?_⟩
  · simp only [upto, List.getElem?_map] at hx
    obtain ⟨j, hj, rfl⟩ := Option.map_eq_some_iff.mp hx
    obtain ⟨hl, rfl⟩ := List.getElem?_eq_some_iff.mp hj
    have hl' : i < n := by simpa using hl
    refine ⟨hl', fun v H'' y => ?_⟩
    obtain ⟨rfl, rfl⟩ := y
    refine ⟨Ext.refl, m', ?_⟩
    rw [RV_int]
    simp
  · have : n = i := by simpa [upto] using hi
    exact Nat.le_of_eq this
def fiRange1 (a : FA) : FI := fun ρ M => (a ρ M).bind fun xs M1 => match xs with
  | [.int j] => if small62 j = true then .ok ⟨upto 0 j.toNat, fun _ => true⟩ M1 else .stuck
  | _ => .stuck
def fiRange2 (a : FA) : FI := fun ρ M => (a ρ M).bind fun xs M1 => match xs with
  | [.int i, .int j] => if (small62 i && small62 j) = true then .ok ⟨upto i (j - i).toNat, fun _ => true⟩ M1 else .stuck
  | _ => .stuck
theorem fi_range1 {tg a : Expr} {f : FA} {p pos : Pos} (hg : Gl X "range") (hm : X.mg "range" = none) (h : FXA X W [a] f) (hs : starEach [a] X.env = [(false, eval a X.env)] := by rfl) : FXI X W tg (.Call (.Name "range" p) [a] [] pos) (fiRange1 f) := by
  obtain ⟨t, p, r⟩ := h.to
  refine ⟨_, pi_range1 hg hm p hs, ?_⟩
  intro σ H R π ρ M hs hm hp
  refine r.bind hs hm hp fun xs M1 vs H1 π1 e1 rv m1 hp1 => ?_
  split at hp1
  · obtain ⟨v, ws, rfl, r1, r2⟩ := rv.uncons
    rw [r2.unnil]
    rw [RV_int] at r1
    subst r1
    split at hp1
    · rename_i hz
      exact ⟨_, rfl, (small62_ok hz).1, (small62_ok hz).2, hp1 _ H1 π1 Ext.refl walk_range m1⟩
    · exact hp1.elim
  · exact hp1.elim
theorem fi_range2 {tg a b : Expr} {f : FA} {p pos : Pos} (hg : Gl X "range") (hm : X.mg "range" = none) (h : FXA X W [a, b] f) (hs : starEach [a, b] X.env = [(false, eval a X.env), (false, eval b X.env)] := by rfl) (hs2 : starEach [b] X.env = [(false, eval b X.env)] := by rfl) : FXI X W tg (.Call (.Name "range" p) [a, b] [] pos) (fiRange2 f) := by
  obtain ⟨t, p, r⟩ := h.to
  refine ⟨_, pi_range2 hg hm p hs hs2, ?_⟩
  intro σ H R π ρ M hs hm hp
  refine r.bind hs hm hp fun xs M1 vs H1 π1 e1 rv m1 hp1 => ?_
  split at hp1
  · rw [two_ints rv]
    split at hp1
    · rename_i hz
      rw [Bool.and_eq_true] at hz
      have a1 := small62_ok hz.1
      have a2 := small62_ok hz.2
      exact ⟨_, _, rfl, ⟨a1.1, a1.2, a2.1, a2.2⟩, hp1 _ H1 π1 Ext.refl walk_range m1⟩
    · exact hp1.elim
  · exact hp1.elim
/-- zip of two lists -/
def zipV : List MV → List MV → List MV
  | x :: xs, y :: ys => .tup [x, y] :: zipV xs ys
  | _, _ => []
def pairO : Option MV → Option MV → Option MV
  | some x, some y => some (.tup [x, y])
  | _, _ => none
theorem zipV_get : ∀ (xs ys : List MV) (i : Nat), (zipV xs ys)[i]? = pairO xs[i]? ys[i]?
  | [], ys, i => by simp [zipV, pairO]
  | x :: xs, [], i => by cases h : (x :: xs)[i]? <;> simp [zipV, pairO]
  | x :: xs, y :: ys, 0 => by simp [zipV, pairO]
  | x :: xs, y :: ys, i + 1 => by simpa [zipV] using zipV_get xs ys i
theorem zipV_length : ∀ xs ys : List MV, (zipV xs ys).length = min xs.length ys.length
  | [], ys => by simp [zipV]
  | x :: xs, [] => by simp [zipV]
  | x :: xs, y :: ys => by
    simp only [zipV, List.length_cons, zipV_length xs ys]
    omega
def srcZip (M : MH) (x y : MV) : Option Src := match x, y with
  | .ref n, .ref m => match lstOf M (.ref n), lstOf M (.ref m) with
    | some xs, some ys => some ⟨zipV xs ys, fun M => chkL n xs M && chkL m ys M⟩
    | _, _ => none
  | _, _ => none
def fiZip (a : FA) : FI := fun ρ M => (a ρ M).bind fun xs M1 => match xs with
  | [x, y] => match srcZip M1 x y with
    | some S => .ok S M1
    | none => .stuck
  | _ => .stuck
theorem fi_zip {e e2 : Expr} {f : FA} {p pos tpos : Pos} {elts : List Expr} {kk : Nat} (hg : Gl X "zip") (hm : X.mg "zip" = none) (h : FXA X W [e, e2] f)
    (hs : starEach [e, e2] X.env = (false, eval e X.env) :: starEach [e2] X.env := by rfl) (hpl : (backTo pos (starEach [e2] X.env)).any (·.1) = false := by rfl) : FXI X W (.Tuple elts kk tpos) (.Call (.Name "zip" p) [e, e2] [] pos) (fiZip f) := by
  obtain ⟨t, p, r⟩ := h.to
  refine ⟨_, pi_zip hg hm p hs hpl, ?_⟩
  intro σ H R π ρ M hs hm hp
  refine r.bind hs hm hp fun xs M1 vs H1 π1 e1 rv m1 hp1 => ?_
  split at hp1
  · rename_i x y
    obtain ⟨v, ws, rfl, r1, r2⟩ := rv.uncons
    obtain ⟨v2, ws2, rfl, r3, r4⟩ := r2.uncons
    rw [r4.unnil]
    unfold srcZip at hp1
    cases x with
    | ref n =>
      cases y with
      | ref m =>
        cases ex : lstOf M1 (.ref n) with
        | none =>
          simp only [ex] at hp1
          exact hp1.elim
        | some xs =>
          cases ey : lstOf M1 (.ref m) with
          | none =>
            simp only [ex, ey] at hp1
            exact hp1.elim
          | some ys =>
            simp only [ex, ey] at hp1
            obtain ⟨a, us, rfl, h1, h2⟩ := lstOf_sq ex m1 r1
            obtain ⟨b, us2, rfl, k1, k2⟩ := lstOf_sq ey m1 r3
            refine ⟨a, b, us, us2, rfl, h1, k1, hp1 (Itz X.K a b) H1 π1 Ext.refl ?_ m1⟩
            intro i π' H' M' e' m' hc
            have hc' : (chkL n xs M' && chkL m ys M') = true := hc
            rw [Bool.and_eq_true] at hc'
            obtain ⟨a', vs1, ea, q1, q2⟩ := lstOf_sq (chkL_ok hc'.1) m' (r1.ext e')
            obtain ⟨b', vs2, eb, q3, q4⟩ := lstOf_sq (chkL_ok hc'.2) m' (r3.ext e')
            cases ea
            cases eb
            refine ⟨fun x hx => ?_, fun hi => ⟨vs1, vs2, q1, q3, ?_⟩⟩
            · have hx' : (zipV xs ys)[i]? = some x := hx
              rw [zipV_get] at hx'
              cases g1 : xs[i]? with
              | none => rw [g1] at hx'; cases hx'
              | some x1 =>
                cases g2 : ys[i]? with
                | none => rw [g1, g2] at hx'; cases hx'
                | some y1 =>
                  rw [g1, g2] at hx'
                  cases hx'
                  obtain ⟨w1, f1, f2⟩ := q2.get g1
                  obtain ⟨w2, f3, f4⟩ := q4.get g2
                  refine ⟨⟨vs1, vs2, w1, w2, q1, q3, f1, f3⟩, fun v H'' yy => ?_⟩
                  obtain ⟨T, x2, y2, rfl, hn, rfl, c1, c2⟩ := yy
                  have d1 := c1 vs1 q1
                  have d2 := c2 vs2 q3
                  rw [f1] at d1
                  rw [f3] at d2
                  cases d1
                  cases d2
                  have e2 : Ext π' H' π' (upd H' T (.tup [w1, w2])) := Ext.new hn
                  refine ⟨e2, m'.keep fun b u q => by rw [upd_ne (ne_of_none q hn)]; exact q, ?_⟩
                  unfold RV
                  exact ⟨T, _, rfl, .inl upd_same, RVs.cons (f2.ext e2) (RVs.cons (f4.ext e2) RVs.nil)⟩
            · have hi' : (zipV xs ys).length = i := hi
              rw [zipV_length, q2.length, q4.length] at hi'
              omega
      | _ => exact hp1.elim
    | _ => exact hp1.elim
  · exact hp1.elim
/-- reversed(a list) -/
def srcRev (M : MH) : MV → Option Src
  | .ref n => match lstOf M (.ref n) with
    | some xs => some ⟨xs.reverse, chkL n xs⟩
    | none => none
  | _ => none
def fiRev (a : FA) : FI := fun ρ M => (a ρ M).bind fun xs M1 => match xs with
  | [x] => match srcRev M1 x with
    | some S => .ok S M1
    | none => .stuck
  | _ => .stuck
theorem fi_rev {tg e : Expr} {f : FA} {p pos : Pos} (hg : Gl X "reversed") (hm : X.mg "reversed" = none) (h : FXA X W [e] f) (hs : starEach [e] X.env = [(false, eval e X.env)] := by rfl) : FXI X W tg (.Call (.Name "reversed" p) [e] [] pos) (fiRev f) := by
  obtain ⟨t, p, r⟩ := h.to
  refine ⟨_, pi_reversed hg hm p hs, ?_⟩
  intro σ H R π ρ M hs hm hp
  refine r.bind hs hm hp fun xs M1 vs H1 π1 e1 rv m1 hp1 => ?_
  split at hp1
  · rename_i x
    obtain ⟨v, ws, rfl, r1, r2⟩ := rv.uncons
    rw [r2.unnil]
    cases x with
    | ref n =>
      cases e2 : lstOf M1 (.ref n) with
      | none =>
        simp only [srcRev, e2] at hp1
        exact hp1.elim
      | some xs =>
        simp only [srcRev, e2] at hp1
        obtain ⟨a, us, rfl, h1, h2⟩ := lstOf_sq e2 m1 r1
        refine ⟨a, us, rfl, h1, hp1 (Itv X.K a us.length) H1 π1 Ext.refl ?_ m1⟩
        intro i π' H' M' e' m' hc
        obtain ⟨a', vs1, ea, q1, q2⟩ := lstOf_sq (chkL_ok hc) m' (r1.ext e')
        cases ea
        have hl : us.length = vs1.length := by rw [← h2.length, ← q2.length]
        refine ⟨fun x hx => ?_, fun hi => ?_⟩
        · have hx' : xs.reverse[i]? = some x := hx
          have hi : i < xs.length := by
            have := (List.getElem?_eq_some_iff.mp hx').1
            simpa using this
          rw [List.getElem?_reverse hi] at hx'
          obtain ⟨w1, f1, f2⟩ := q2.get hx'
          rw [h2.length] at f1 hi
          refine ⟨⟨hi, vs1, w1, q1, f1⟩, fun v H'' y => ?_⟩
          obtain ⟨rfl, y⟩ := y
          have := y vs1 q1
          rw [f1] at this
          cases this
          exact ⟨Ext.refl, m', f2⟩
        · have hi' : xs.reverse.length = i := hi
          rw [List.length_reverse, h2.length] at hi'
          exact Nat.le_of_eq hi'
    | _ => exact hp1.elim
  · exact hp1.elim

/-! ### for -/
def loopF (chk : MH → Bool) (g : FG) (body : FS) : List MV → Rho → MH → RSt
  | [], ρ, M => .next ρ M
  | x :: xs, ρ, M => match g x ρ with
    | none => .stuck
    | some ρ1 => match body ρ1 M with
      | .next ρ2 M2 => if chk M2 = true then loopF chk g body xs ρ2 M2 else .stuck
      | .cnt ρ2 M2 => if chk M2 = true then loopF chk g body xs ρ2 M2 else .stuck
      | .brk ρ2 M2 => .next ρ2 M2
      | r => r
def sFor (f : FI) (g : FG) (body : FS) : FS := fun ρ M => (f ρ M).stm ρ fun S M1 => if S.chk M1 = true then loopF S.chk g body S.items ρ M1 else .stuck
theorem rfs_for {wi : TI} {tg : TG} {tb : TS} {f : FI} {g : FG} {body : FS} (ri : ∀ σ H R π ρ M, RS X.K π H σ ρ → RM X.prog X.w X.K X.mg π H M → PostR X W (RISrc X) σ π H (f ρ M) R → wi σ H R)
    (rg : ∀ (x : MV) (v : V) (σ : St) (H : Hp) (π : List Addr) (ρ ρ' : Rho) (Q : St → Hp → Prop), RV X.K π H x v → RS X.K π H σ ρ → g x ρ = some ρ' → (∀ σ', RS X.K π H σ' ρ' → Q σ' H) → tg v σ H Q) (rb : RFS X W tb body) : RFS X W (tFor wi tg tb) (sFor f g body) := by
  intro D σ H π ρ M hs hm hp
  refine RF.stm (R1 := RISrc X) ri hs hm hp fun S M1 J H1 π1 e1 rJ m1 hp1 => ?_
  have hp1' : PostS X W σ π1 H1 (if S.chk M1 = true then loopF S.chk g body S.items ρ M1 else .stuck) D := hp1
  by_cases hc : S.chk M1 = true
  · rw [if_pos hc] at hp1'
    refine ⟨fun i m σ' H' => m = S.items.length - i ∧ i ≤ S.items.length ∧ ∃ ρ' π' M', Ext π1 H1 π' H' ∧ RS X.K π' H' σ' ρ' ∧ RM X.prog X.w X.K X.mg π' H' M' ∧ S.chk M' = true ∧ PostS X W σ' π' H' (loopF S.chk g body (S.items.drop i) ρ' M') D,
      ⟨S.items.length, by simp, Nat.zero_le _, ρ, π1, M1, Ext.refl, hs.ext e1, m1, hc, by simpa using hp1'⟩, ?_⟩
    rintro i m σ' H' ⟨rfl, hi, ρ', π', M', e', hs', m', hc', hp'⟩
    obtain ⟨go, stop⟩ := rJ i π' H' M' e' m' hc'
    by_cases hlt : i < S.items.length
    · right
      have hx : S.items[i]? = some S.items[i] := List.getElem?_eq_getElem hlt
      obtain ⟨g1, y1⟩ := go _ hx
      refine ⟨g1, fun σ2 H2 => i + 1 ≤ S.items.length ∧ ∃ ρ2 π2 M2, Ext π1 H1 π2 H2 ∧ RS X.K π2 H2 σ2 ρ2 ∧ RM X.prog X.w X.K X.mg π2 H2 M2 ∧ S.chk M2 = true ∧ PostS X W σ2 π2 H2 (loopF S.chk g body (S.items.drop (i + 1)) ρ2 M2) D, fun σ2 H2 h2 => ⟨S.items.length - (i + 1), by omega, rfl, h2⟩, fun v H'' yy => ?_⟩
      obtain ⟨e2, m2, rv⟩ := y1 v H'' yy
      rw [List.drop_eq_getElem_cons hlt] at hp'
      cases eg : g S.items[i] ρ' with
      | none =>
        simp only [loopF, eg] at hp'
        exact hp'.elim
      | some ρ1 =>
        simp only [loopF, eg] at hp'
        refine rg _ v σ' H'' π' ρ' ρ1 _ rv (hs'.ext e2) eg fun σ3 hs3 => ?_
        refine rb _ σ3 H'' π' ρ1 M' hs3 m2 ?_
        have again : ∀ (ρ2 : Rho) (M2 : MH), PostS X W σ' π' H' (if S.chk M2 = true then loopF S.chk g body (S.items.drop (i + 1)) ρ2 M2 else .stuck) D →
            ∀ σ4 H4 π4, Ext π' H'' π4 H4 → RS X.K π4 H4 σ4 ρ2 → RM X.prog X.w X.K X.mg π4 H4 M2 → i + 1 ≤ S.items.length ∧ ∃ ρ2 π2 M2, Ext π1 H1 π2 H4 ∧ RS X.K π2 H4 σ4 ρ2 ∧ RM X.prog X.w X.K X.mg π2 H4 M2 ∧ S.chk M2 = true ∧ PostS X W σ4 π2 H4 (loopF S.chk g body (S.items.drop (i + 1)) ρ2 M2) D := by
          intro ρ2 M2 hq σ4 H4 π4 e4 hs4 m4
          by_cases hc2 : S.chk M2 = true
          · rw [if_pos hc2] at hq
            exact ⟨hlt, ρ2, π4, M2, (e'.trans e2).trans e4, hs4, m4, hc2, PostS.mono (e2.trans e4) hq⟩
          · rw [if_neg hc2] at hq
            exact hq.elim
        cases eb : body ρ1 M' with
        | next ρ2 M2 =>
          rw [eb] at hp'
          exact again ρ2 M2 hp'
        | cnt ρ2 M2 =>
          rw [eb] at hp'
          exact again ρ2 M2 hp'
        | brk ρ2 M2 =>
          rw [eb] at hp'
          exact fun σ4 H4 π4 e4 hs4 m4 => hp' σ4 H4 π4 (e2.trans e4) hs4 m4
        | ret x M2 =>
          rw [eb] at hp'
          exact fun v H4 π4 e4 rv4 m4 => hp' v H4 π4 (e2.trans e4) rv4 m4
        | ex c fs ρ2 M2 =>
          rw [eb] at hp'
          exact fun C d σ4 H4 π4 e4 x4 hs4 m4 => hp' C d σ4 H4 π4 (e2.trans e4) x4 hs4 m4
        | stuck =>
          rw [eb] at hp'
          exact hp'
    · left
      have hi2 : S.items.length = i := by omega
      refine ⟨stop hi2, ?_⟩
      rw [List.drop_eq_nil_of_le (by omega)] at hp'
      exact hp' σ' H' π' Ext.refl hs' m'
  · rw [if_neg hc] at hp1'
    exact hp1'.elim
theorem fs_for {tg iter : Expr} {bd : List Stmt} {f : FI} {g : FG} {body : FS} {pos : Pos} (hp : PassesOwn (model X.prog X.w) X.A X.env X.xe) (hc : X.calm = true) (hi : FXI X W tg iter f) (hg : FXG X tg g) (hb : FXB X W bd body)
    (hs : ∀ x, foldedSetIterable iter X.env x = pure x := by intro _; rfl) : FXS X W (.For tg iter bd [] pos) (sFor f g body) := by
  obtain ⟨t1, p1, r1⟩ := hi.to
  obtain ⟨t2, p2, r2⟩ := hg.to
  obtain ⟨t3, p3, r3⟩ := hb.to
  exact ⟨_, ps_for hp hc p1 p2 p3 hs, rfs_for r1 r2 r3⟩

/-! ### while: so many turns at most -/
def whileF (c : FT) (body : FS) : Nat → Rho → MH → RSt
  | 0, _, _ => .stuck
  | n + 1, ρ, M => (c ρ M).stm ρ fun k M1 => if k = true then (match body ρ M1 with
      | .next ρ2 M2 => whileF c body n ρ2 M2
      | .cnt ρ2 M2 => whileF c body n ρ2 M2
      | .brk ρ2 M2 => .next ρ2 M2
      | r => r) else .next ρ M1
def sWhile (n : Nat) (c : FT) (body : FS) : FS := fun ρ M => whileF c body n ρ M
theorem fs_while {n : Nat} {c : Expr} {bd : List Stmt} {fc : FT} {body : FS} {pos : Pos} (hp : PassesOwn (model X.prog X.w) X.A X.env X.xe) (hc : FXT X W c fc) (hb : FXB X W bd body) : FXS X W (.While c bd [] pos) (sWhile n fc body) := by
  obtain ⟨t1, p1, r1⟩ := hc.to
  obtain ⟨t2, p2, r2⟩ := hb.to
  refine ⟨_, ps_while hp p1 p2, ?_⟩
  intro D σ H π ρ M hs hm hp
  refine ⟨fun m σ' H' => ∃ ρ' π' M', RS X.K π' H' σ' ρ' ∧ RM X.prog X.w X.K X.mg π' H' M' ∧ PostS X W σ' π' H' (whileF fc body m ρ' M') D, ⟨n, ρ, π, M, hs, hm, hp⟩, ?_⟩
  rintro m σ' H' ⟨ρ', π', M', hs', m', hp'⟩
  cases m with
  | zero => exact hp'.elim
  | succ m =>
    unfold whileF at hp'
    refine r1.stm hs' m' hp' fun k M1 k' H1 π1 e1 rk m1 hp1 => ?_
    cases rk
    cases k with
    | false => exact hp1 σ' H1 π1 Ext.refl (hs'.ext e1) m1
    | true =>
      refine ⟨fun σ2 H2 => ∃ ρ2 π2 M2, RS X.K π2 H2 σ2 ρ2 ∧ RM X.prog X.w X.K X.mg π2 H2 M2 ∧ PostS X W σ2 π2 H2 (whileF fc body m ρ2 M2) D, fun σ2 H2 h2 => ⟨m, Nat.lt_succ_self m, h2⟩, ?_⟩
      refine r2 _ σ' H1 π1 ρ' M1 (hs'.ext e1) m1 ?_
      have hp2 : PostS X W σ' π1 H1 (match body ρ' M1 with
        | .next ρ2 M2 => whileF fc body m ρ2 M2
        | .cnt ρ2 M2 => whileF fc body m ρ2 M2
        | .brk ρ2 M2 => .next ρ2 M2
        | r => r) D := hp1
      cases eb : body ρ' M1 with
      | next ρ2 M2 =>
        rw [eb] at hp2
        exact fun σ4 H4 π4 e4 hs4 m4 => ⟨ρ2, π4, M2, hs4, m4, PostS.mono e4 hp2⟩
      | cnt ρ2 M2 =>
        rw [eb] at hp2
        exact fun σ4 H4 π4 e4 hs4 m4 => ⟨ρ2, π4, M2, hs4, m4, PostS.mono e4 hp2⟩
      | brk ρ2 M2 =>
        rw [eb] at hp2
        exact hp2
      | ret x M2 =>
        rw [eb] at hp2
        exact hp2
      | ex c fs ρ2 M2 =>
        rw [eb] at hp2
        exact hp2
      | stuck =>
        rw [eb] at hp2
        exact hp2
end
end FL

namespace FL
open PySem PySem.Spec PyProof.Rows L2
/-! ### the one reading of a function -/
section
variable (X : Cx) (W : WX)
def tF {α β : Type} (R : List Addr → Hp → α → β → Prop) (f : Rho → MH → Res α) : St → Hp → (β → Hp → Prop) → Prop := fun σ H Q => ∃ π ρ M, RS X.K π H σ ρ ∧ RM X.prog X.w X.K X.mg π H M ∧ PostR X W R σ π H (f ρ M) Q
end
section
variable {X : Cx} {W : WX} {σ : St} {π π1 : List Addr} {H H1 : Hp} {ρ : Rho} {M : MH}
theorem FX.can {e : Expr} {f : FE} (h : FX X W e f) : PE X e (tF X W (RV X.K) f) := by
  obtain ⟨t, p, r⟩ := h.to
  refine ⟨fun pins s σ H Q I q => ?_⟩
  obtain ⟨π, ρ, M, hs, hm, hp⟩ := q
  exact p.run pins s σ H Q I (r σ H Q π ρ M hs hm hp)
theorem FXT.can {e : Expr} {f : FT} (h : FXT X W e f) : PT X e (tF X W REq f) := by
  obtain ⟨t, p, r⟩ := h.to
  refine ⟨fun pins s σ H Q I q => ?_⟩
  obtain ⟨π, ρ, M, hs, hm, hp⟩ := q
  exact p.run pins s σ H Q I (r σ H Q π ρ M hs hm hp)
/-! ### comprehensions -/
/-- the test of a comprehension -/
structure FXTs (X : Cx) (W : WX) (ifs : List Expr) (f : FT) : Prop where
  to : PTs X ifs (tF X W REq f)
def ftYes : FT := fun _ M => .ok true M
theorem fts_nil : FXTs X W [] ftYes := ⟨⟨fun pins s σ H Q I q => by
  obtain ⟨π, ρ, M, hs, hm, hp⟩ := q
  exact pts_nil.run pins s σ H Q I (hp.ok rfl hm)⟩⟩
theorem fts_one {c : Expr} {f : FT} (h : FXT X W c f) : FXTs X W [c] f := ⟨pts_one h.can⟩
/-- a target whose names are at the places ix -/
structure FXGw (X : Cx) (e : Expr) (g : FG) (ix : List Nat) : Prop where
  to : PG X e (fun v σ H Q => ∃ x π ρ ρ', RV X.K π H x v ∧ RS X.K π H σ ρ ∧ g x ρ = some ρ' ∧ ∀ σ', RS X.K π H σ' ρ' → (∀ vs : List Nat, (∀ i ∈ ix, i ∈ vs) → wipe σ' vs = wipe σ vs) → Q σ' H)
theorem wipe_set {x : Option V} : ∀ (vs : List Nat) (σ : St) (i : Nat), i ∈ vs → wipe (σ.set i x) vs = wipe σ vs
  | [], _, _, h => by cases h
  | v :: vs, σ, i, h => by
    unfold wipe
    by_cases hi : i ∈ vs
    · rw [wipe_set vs σ i hi]
    · have e : i = v := by
        rcases List.mem_cons.mp h with h | h
        · exact h
        · exact absurd h hi
      subst e
      have sw : ∀ (us : List Nat) (τ : St), i ∉ us → wipe (τ.set i x) us = (wipe τ us).set i x := by
        intro us
        induction us with
        | nil => intro τ _; rfl
        | cons u us ih =>
          intro τ hu
          have h1 : i ≠ u := fun z => hu (by rw [z]; exact List.mem_cons_self)
          have h2 : i ∉ us := fun z => hu (List.mem_cons_of_mem _ z)
          unfold wipe
          rw [ih τ h2, List.set_comm _ _ h1]
      rw [sw vs σ hi, List.set_set]
theorem gw_name {i : Nat} {x : Str} {pos : Pos} (hN : X.N.Nodup) (hi : X.N[i]? = some x) (hx : Loc X.env.scope x) (hf : X.fn x = true ∨ X.env.scope.names.lookup x = some .local := by first | exact .inl rfl | exact .inr rfl | assumption) : FXGw X (.Name x pos) (gtName i) [i] := ⟨⟨fun pins s σ H v u Q I r q => by
  obtain ⟨x, π, ρ, ρ', rv, hs, e, k⟩ := q
  cases e
  exact (pg_name hN hi hx hf).run pins s σ H v u Q I r (k _ (hs.set i rv) fun vs h => wipe_set vs σ i (h i List.mem_cons_self))⟩⟩
/-- several names -/
structure FXGsw (X : Cx) (es : List Expr) (g : List MV → Rho → Option Rho) (ix : List Nat) : Prop where
  to : PGs X es (fun vs σ H Q => ∃ xs π ρ ρ', RVs X.K π H xs vs ∧ RS X.K π H σ ρ ∧ g xs ρ = some ρ' ∧ ∀ σ', RS X.K π H σ' ρ' → (∀ us : List Nat, (∀ i ∈ ix, i ∈ us) → wipe σ' us = wipe σ us) → Q σ' H)
theorem gsw_nil : FXGsw X [] gtNil [] := ⟨⟨fun pins s σ H vs us Q I r q => by
  obtain ⟨xs, π, ρ, ρ', rv, hs, e, k⟩ := q
  cases xs with
  | nil =>
    cases e
    exact pgs_nil.run pins s σ H vs us Q I r ⟨rv.unnil, k σ hs fun _ _ => rfl⟩
  | cons x xs => cases e⟩⟩
theorem gsw_cons {e : Expr} {es : List Expr} {g : FG} {h : List MV → Rho → Option Rho} {ix jx : List Nat} (h1 : FXGw X e g ix) (h2 : FXGsw X es h jx) (hs : (assignEach (e :: es) X.env).map (·.2) = assign e X.env :: (assignEach es X.env).map (·.2) := by rfl) : FXGsw X (e :: es) (gtCons g h) (ix ++ jx) := ⟨⟨fun pins s σ H vs us Q I r q => by
  obtain ⟨xs, π, ρ, ρ', rv, hs', e', k⟩ := q
  cases xs with
  | nil => cases e'
  | cons x xs =>
    obtain ⟨v, ws, rfl, r3, r4⟩ := rv.uncons
    simp only [gtCons] at e'
    cases e1 : g x ρ with
    | none =>
      rw [e1] at e'
      cases e'
    | some ρ1 =>
      rw [e1] at e'
      refine (pgs_cons h1.to h2.to hs).run pins s σ H _ us Q I r ⟨v, ws, rfl, x, π, ρ, ρ1, r3, hs', e1, fun σ1 hs1 w1 => ⟨xs, π, ρ1, ρ', r4, hs1, e', fun σ2 hs2 w2 => k σ2 hs2 fun us hu => ?_⟩⟩
      rw [w2 us fun i hi => hu i (List.mem_append_right _ hi), w1 us fun i hi => hu i (List.mem_append_left _ hi)]⟩⟩
theorem gw_tup {es : List Expr} {k : Nat} {pos : Pos} {h : List MV → Rho → Option Rho} {n : Nat} {ix : List Nat} (hc : X.calm = true) (h1 : FXGsw X es h ix) (hn : (assignEach es X.env).length = n := by rfl) (hst : (assignEach es X.env).findIdx? (·.1) = none := by rfl) : FXGw X (.Tuple es k pos) (gtTup n h) ix := ⟨⟨fun pins s σ H v u Q I r q => by
  obtain ⟨x, π, ρ, ρ', rv, hs, e, k'⟩ := q
  cases x with
  | tup xs =>
    obtain ⟨a, vs, rfl, g1, g2⟩ := tup_sq rv
    simp only [gtTup] at e
    split at e
    · rename_i hz
      exact (pg_tup hc h1.to hn hst).run pins s σ H _ u Q I r ⟨a, vs, rfl, g1, by rw [← g2.length]; exact hz, xs, π, ρ, ρ', g2, hs, e, k'⟩
    · cases e
  | _ => cases e⟩⟩
def wipeR (ρ : Rho) : List Nat → Rho
  | [] => ρ
  | v :: vs => (wipeR ρ vs).set v none
theorem RS.wipe (h : RS X.K π H σ ρ) : ∀ vs : List Nat, RS X.K π H (L2.wipe σ vs) (wipeR ρ vs)
  | [] => h
  | v :: vs => by
    have ih := RS.wipe h vs
    refine ⟨by unfold L2.wipe wipeR; simp [ih.len], fun i x q => ?_⟩
    unfold wipeR at q
    by_cases hi : v = i
    · subst hi
      rw [List.getElem?_set] at q
      simp only [if_true] at q
      split at q <;> cases q
    · rw [List.getElem?_set_ne hi] at q
      obtain ⟨w', h1, h2⟩ := ih.at_ i x q
      refine ⟨w', ?_, h2⟩
      unfold L2.wipe
      rw [List.getElem?_set_ne hi]
      exact h1
/-- a comprehension's turns: the list is the thing n -/
def compF (chk : MH → Bool) (g : FG) (tt : FT) (te : FE) (n : Nat) (ρ : Rho) : List MV → MH → Res MV
  | [], M => .ok (.ref n) M
  | x :: xs, M => match g x ρ with
    | none => .stuck
    | some ρ1 => match tt ρ1 M with
      | .ok true M2 => match te ρ1 M2 with
        | .ok y M3 => match M3[n]? with
          | some (.lst acc) => if (small (acc.length + 1) && chk (M3.set n (.lst (acc ++ [y])))) = true then compF chk g tt te n ρ xs (M3.set n (.lst (acc ++ [y]))) else .stuck
          | _ => .stuck
        | _ => .stuck
      | .ok false M2 => if chk M2 = true then compF chk g tt te n ρ xs M2 else .stuck
      | _ => .stuck
def fLc (vs : List Nat) (f : FI) (g : FG) (tt : FT) (te : FE) : FE := fun ρ M => (f ρ M).bind fun S M1 => if S.chk (M1 ++ [.lst []]) = true then compF S.chk g tt te M1.length (wipeR ρ vs) S.items (M1 ++ [.lst []]) else .stuck
abbrev W0 : WX := fun _ _ _ _ => False
theorem rf_lc {vs : List Nat} {wi : TI} {f : FI} {g : FG} {tt : FT} {te : FE} {ix : List Nat} (hix : ∀ i ∈ ix, i ∈ vs) (ri : ∀ σ H R π ρ M, RS X.K π H σ ρ → RM X.prog X.w X.K X.mg π H M → PostR X W (RISrc X) σ π H (f ρ M) R → wi σ H R) :
    RF X W (RV X.K) (tLc wi (fun v σ H Q => ∃ x π ρ ρ', RV X.K π H x v ∧ RS X.K π H σ ρ ∧ g x ρ = some ρ' ∧ ∀ σ', RS X.K π H σ' ρ' → (∀ us : List Nat, (∀ i ∈ ix, i ∈ us) → wipe σ' us = wipe σ us) → Q σ' H) (tF X W0 REq tt) (tF X W0 (RV X.K) te) vs) (fLc vs f g tt te) := by
  intro σ H Q π ρ M hs hm hp
  refine RF.bind (R1 := RISrc X) ri hs hm hp fun S M1 J H1 π1 e1 rJ m1 hp1 => ?_
  intro D hD
  have hp1' : PostR X W (RV X.K) σ π1 H1 (if S.chk (M1 ++ [.lst []]) = true then compF S.chk g tt te M1.length (wipeR ρ vs) S.items (M1 ++ [.lst []]) else .stuck) Q := hp1
  by_cases hc : S.chk (M1 ++ [.lst []]) = true
  · rw [if_pos hc] at hp1'
    have e2 : Ext π1 H1 (π1 ++ [D]) (upd H1 D (.lst [])) := Ext.push hD
    have m2 : RM X.prog X.w X.K X.mg (π1 ++ [D]) (upd H1 D (.lst [])) (M1 ++ [.lst []]) := m1.push hD ⟨[], upd_same, RVs.nil⟩
    refine ⟨fun i m H' => m = S.items.length - i ∧ i ≤ S.items.length ∧ ∃ π' M', Ext (π1 ++ [D]) (upd H1 D (.lst [])) π' H' ∧ RM X.prog X.w X.K X.mg π' H' M' ∧ S.chk M' = true ∧ PostR X W (RV X.K) σ π' H' (compF S.chk g tt te M1.length (wipeR ρ vs) (S.items.drop i) M') Q,
      ⟨S.items.length, by simp, Nat.zero_le _, π1 ++ [D], M1 ++ [.lst []], Ext.refl, m2, hc, PostR.mono e2 (by simpa using hp1')⟩, ?_⟩
    rintro i m H' ⟨rfl, hi, π', M', e', m', hc', hp'⟩
    obtain ⟨go, stop⟩ := rJ i π' H' M' (e2.trans e') m' hc'
    have hDn : (π1 ++ [D])[M1.length]? = some D := by rw [← m1.len]; simp
    by_cases hlt : i < S.items.length
    · right
      have hx : S.items[i]? = some S.items[i] := List.getElem?_eq_getElem hlt
      obtain ⟨g1, y1⟩ := go _ hx
      refine ⟨g1, fun H2 => i + 1 ≤ S.items.length ∧ ∃ π2 M2, Ext (π1 ++ [D]) (upd H1 D (.lst [])) π2 H2 ∧ RM X.prog X.w X.K X.mg π2 H2 M2 ∧ S.chk M2 = true ∧ PostR X W (RV X.K) σ π2 H2 (compF S.chk g tt te M1.length (wipeR ρ vs) (S.items.drop (i + 1)) M2) Q, fun H2 h2 => ⟨S.items.length - (i + 1), by omega, rfl, h2⟩, fun v H'' yy => ?_⟩
      obtain ⟨e3, m3, rv⟩ := y1 v H'' yy
      rw [List.drop_eq_getElem_cons hlt] at hp'
      have hsw : RS X.K π' H'' (wipe σ vs) (wipeR ρ vs) := ((((hs.ext e1).ext e2).ext e').ext e3).wipe vs
      cases eg : g S.items[i] (wipeR ρ vs) with
      | none =>
        simp only [compF, eg] at hp'
        exact hp'.elim
      | some ρ1 =>
        simp only [compF, eg] at hp'
        refine ⟨_, π', _, ρ1, rv, hsw, eg, fun σ3 hs3 hw => ⟨?_, π', ρ1, M', hs3, m3, ?_⟩⟩
        · rw [hw vs hix]
          have wp : ∀ (us : List Nat) (τ : St), wipe (wipe τ us) us = wipe τ us := by
            intro us
            induction us with
            | nil => intro τ; rfl
            | cons u us ih =>
              intro τ
              have e1 : wipe τ (u :: us) = (wipe τ us).set u none := rfl
              rw [e1, wipe_set (u :: us) (wipe τ us) u List.mem_cons_self]
              show (wipe (wipe τ us) us).set u none = _
              rw [ih τ]
          exact wp vs σ
        · cases et : tt ρ1 M' with
          | ex c fs M2 =>
            simp only [et] at hp'
            exact hp'.elim
          | stuck =>
            simp only [et] at hp'
            exact hp'.elim
          | ok b M2 =>
            intro b' H4 π4 e4 eb m4
            cases eb
            cases b with
            | false =>
              simp only [et] at hp'
              by_cases hc2 : S.chk M2 = true
              · rw [if_pos hc2] at hp'
                exact ⟨hlt, π4, M2, (e'.trans e3).trans e4, m4, hc2, PostR.mono (e3.trans e4) hp'⟩
              · rw [if_neg hc2] at hp'
                exact hp'.elim
            | true =>
              simp only [et] at hp'
              refine ⟨π4, ρ1, M2, hs3.ext e4, m4, ?_⟩
              cases ee : te ρ1 M2 with
              | ex c fs M3 =>
                simp only [ee] at hp'
                exact hp'.elim
              | stuck =>
                simp only [ee] at hp'
                exact hp'.elim
              | ok y M3 =>
                intro v5 H5 π5 e5 rv5 m5
                simp only [ee] at hp'
                have hD5 : π5[M1.length]? = some D := e5.at (e4.at (e3.at (e'.at hDn)))
                cases eo : M3[M1.length]? with
                | none =>
                  simp only [eo] at hp'
                  exact hp'.elim
                | some o =>
                  cases o with
                  | lst acc =>
                    simp only [eo] at hp'
                    by_cases hz : (small (acc.length + 1) && S.chk (M3.set M1.length (.lst (acc ++ [y])))) = true
                    · rw [if_pos hz] at hp'
                      rw [Bool.and_eq_true] at hz
                      obtain ⟨ws, k1, k2⟩ := m5.at_ hD5 eo
                      have e6 : Ext π5 H5 π5 (upd H5 D (.lst (ws ++ [v5]))) := Ext.write k1 fun _ z => by cases z
                      refine ⟨ws, k1, ?_, hlt, π5, M3.set M1.length (.lst (acc ++ [y])), ((((e'.trans e3).trans e4).trans e5).trans e6), m5.write hD5 eo rfl rfl ⟨_, upd_same, (k2.append (RVs.cons rv5 RVs.nil)).ext e6⟩, hz.2, PostR.mono (((e3.trans e4).trans e5).trans e6) hp'⟩
                      have := small_le hz.1
                      rw [← k2.length]
                      omega
                    · rw [if_neg hz] at hp'
                      exact hp'.elim
                  | cst _ =>
                    simp only [eo] at hp'
                    exact hp'.elim
                  | dct _ =>
                    simp only [eo] at hp'
                    exact hp'.elim
                  | ins _ _ =>
                    simp only [eo] at hp'
                    exact hp'.elim
    · left
      have hi2 : S.items.length = i := by omega
      refine ⟨stop hi2, ?_⟩
      rw [List.drop_eq_nil_of_le (by omega)] at hp'
      refine hp' _ H' π' Ext.refl ?_ m'
      unfold RV
      exact ⟨D, rfl, e'.at hDn⟩
  · rw [if_neg hc] at hp1'
    exact hp1'.elim
theorem fx_lc {elt tg iter : Expr} {ifs : List Expr} {scope : Scope} {own : List (Str × Nat)} {pos : Pos} {f : FI} {g : FG} {tt : FT} {te : FE} {ix : List Nat} (hc : X.calm = true) (hN : X.N.Nodup) (hi : FXI X W tg iter f) (ok : BlkOk X.N X.env.scope scope own)
    (hg : ∀ (s : Shared) (H : Hp) (C : Addr) (cl : List (Str × Addr)) (fp : List Addr), FXGw (X.blk s H scope (compEnvC scope cl C X.env) fp) tg g ix) (hix : ∀ i ∈ ix, i ∈ own.map (·.2))
    (ht : ∀ (s : Shared) (H : Hp) (C : Addr) (cl : List (Str × Addr)) (fp : List Addr), FXTs (X.blk s H scope (compEnvC scope cl C X.env) fp) W0 ifs tt)
    (he : ∀ (s : Shared) (H : Hp) (C : Addr) (cl : List (Str × Addr)) (fp : List Addr), FX (X.blk s H scope (compEnvC scope cl C X.env) fp) W0 elt te) (hs : ∀ x, foldedSetIterable iter X.env x = pure x := by intro _; rfl) :
    FX X W (.ListComp elt [⟨tg, iter, ifs, 0⟩] scope pos) (fLc (own.map (·.2)) f g tt te) := by
  obtain ⟨t1, p1, r1⟩ := hi.to
  exact ⟨_, pe_lc hc hN p1 ok (fun s H C cl fp => (hg s H C cl fp).to) (fun s H C cl fp => (ht s H C cl fp).to) (fun s H C cl fp => (he s H C cl fp).can) hs, rf_lc hix r1⟩
theorem fs_setLc {i : Nat} {y : Str} {py : Pos} {elt tg iter : Expr} {ifs : List Expr} {scope : Scope} {own : List (Str × Nat)} {pos spos : Pos} {f : FI} {g : FG} {tt : FT} {te : FE} {ix : List Nat} (hc : X.calm = true) (hN : X.N.Nodup) (hy : X.N[i]? = some y) (hyl : X.env.scope.names.lookup y = some .local)
    (hsw : swapsWith (.ListComp elt [⟨tg, iter, ifs, 0⟩] scope pos) (some (.Name y py)) spos.line X.env = pure true) (hi : FXI X W tg iter f) (ok : BlkOk X.N X.env.scope scope own)
    (hg : ∀ (s : Shared) (H : Hp) (C : Addr) (cl : List (Str × Addr)) (fp : List Addr), FXGw (X.blk s H scope (compEnvC scope cl C X.env) fp) tg g ix) (hix : ∀ i ∈ ix, i ∈ own.map (·.2))
    (ht : ∀ (s : Shared) (H : Hp) (C : Addr) (cl : List (Str × Addr)) (fp : List Addr), FXTs (X.blk s H scope (compEnvC scope cl C X.env) fp) W0 ifs tt)
    (he : ∀ (s : Shared) (H : Hp) (C : Addr) (cl : List (Str × Addr)) (fp : List Addr), FX (X.blk s H scope (compEnvC scope cl C X.env) fp) W0 elt te) (hs : ∀ x, foldedSetIterable iter X.env x = pure x := by intro _; rfl) :
    FXS X W (.Assign [.Name y py] (.ListComp elt [⟨tg, iter, ifs, 0⟩] scope pos) spos) (sAsg (fLc (own.map (·.2)) f g tt te) (gtName i)) := by
  obtain ⟨t1, p1, r1⟩ := hi.to
  refine ⟨_, ps_setLc hc hN hy hyl hsw p1 ok (fun s H C cl fp => (hg s H C cl fp).to) (fun s H C cl fp => (ht s H C cl fp).to) (fun s H C cl fp => (he s H C cl fp).can) hs, rfs_asg (rf_lc hix r1) ?_⟩
  intro x v σ H π ρ ρ' Q rv hs e k
  cases e
  exact k _ (hs.set i rv)
end

/-! ### defs -/
section
variable (P : Program) (w : World) (K : PySem.W.Frag) (mg : Str → Option Value)
def PostN (π : List Addr) (H : Hp) (r : Res MV) (Q : VK) (E : XK) : Prop := match r with
  | .ok x M => ∀ v H' π', Ext π H π' H' → RV K π' H' x v → RM P w K mg π' H' M → Q v H'
  | .ex c fs M => ∀ C d H' π', Ext π H π' H' → RX K mg π' H' C d c fs → RM P w K mg π' H' M → E (.ref C) d H'
  | .stuck => False
/-- the promise of a def that does F, for n arguments -/
def spF (n : Nat) (F : FN) : Sp := fun vs H Q E => vs.length = n ∧ ∃ π xs M, RVs K π H xs vs ∧ RM P w K mg π H M ∧ PostN P w K mg π H (F xs M) Q E
end
def startR (n : Nat) (xs : List MV) : Rho := xs.map some ++ List.replicate (n - xs.length) none
def fnOf (n : Nat) (body : FS) : FN := fun xs M => match body (startR n xs) M with
  | .ret x M1 => .ok x M1
  | .next _ M1 => .ok .non M1
  | .ex c fs _ M1 => .ex c fs M1
  | _ => .stuck
abbrev FnF (P : Program) (w : World) (K : PySem.W.Frag) (mg : Str → Option Value) (base : Heap) (k : Nat) (f : Addr) (fd : FuncData) (ps : List Str) (F : FN) : Prop := FnOk P w K mg base (L2.CX P w) k f fd ps (spF P w K mg ps.length F)
theorem startR_rs {K : PySem.W.Frag} {π : List Addr} {H : Hp} {N : List Str} {xs : List MV} {vs : List V} (r : RVs K π H xs vs) : RS K π H (L2.start N vs) (startR N.length xs) := by
  have hl := r.length
  refine ⟨by unfold L2.start startR; simp [hl], fun i x e => ?_⟩
  unfold startR at e
  unfold L2.start
  by_cases hi : i < xs.length
  · rw [List.getElem?_append_left (by simpa using hi), List.getElem?_map] at e
    obtain ⟨y, h1, h2⟩ := Option.map_eq_some_iff.mp e
    cases h2
    obtain ⟨v, g1, g2⟩ := r.get h1
    refine ⟨v, ?_, g2⟩
    rw [List.getElem?_append_left (by rw [List.length_map, ← hl]; exact hi), List.getElem?_map, g1]
    rfl
  · rw [List.getElem?_append_right (by rw [List.length_map]; omega), List.getElem?_replicate] at e
    split at e <;> cases e
section
variable {P : Program} {w : World} {K : PySem.W.Frag} {mg : Str → Option Value} {base : Heap}
theorem fn_ok {x qual : Str} {st : Stmt} {f : Addr} {fd : FuncData} {N ps : List Str} {k : Nat} {body : FS} (F : Fun K x qual st f fd) (S : FnScope N ps (defScope st))
    (hb : ∀ (cdv : Value) (A : Around) (outer : List Env) (s : Shared) (H : Hp) (E : XK), Room k (A.deeper (envOfC qual (defScope st) s.heap.objs.size f cdv)) →
      FXB (cxOf (L2.CX P w) P w K mg base N qual (defScope st) f cdv A outer s H E) (fun cls d _ H => E cls d H) (defBody st) body) : FnF P w K mg base (k + 1) f fd ps (fnOf N.length body) := by
  refine F.okX S (fun vs H Q E h => h.1) (fun cdv A outer s H vs Q E hr h => ?_)
  obtain ⟨t, p, r⟩ := (hb cdv A outer s H E hr).to
  obtain ⟨hl, π, xs, M, rv, hm, hp⟩ := h
  refine ⟨t, p, r _ _ _ π (startR N.length xs) M (startR_rs rv) hm ?_⟩
  unfold fnOf at hp
  cases e : body (startR N.length xs) M with
  | next ρ M1 =>
    rw [e] at hp
    exact fun σ' H' π' e' _ m' => hp .non H' π' e' (by unfold RV; rfl) m'
  | ret y M1 =>
    rw [e] at hp
    exact hp
  | ex c fs ρ M1 =>
    rw [e] at hp
    exact fun C d σ' H' π' e' x' _ m' => hp C d H' π' e' x' m'
  | brk ρ M1 =>
    rw [e] at hp
    exact hp.elim
  | cnt ρ M1 =>
    rw [e] at hp
    exact hp.elim
  | stuck =>
    rw [e] at hp
    exact hp.elim
/-- a def of the module that does F -/
structure CalF (P : Program) (w : World) (K : PySem.W.Frag) (mg : Str → Option Value) (base : Heap) (k : Nat) (x : Str) (n : Nat) (F : FN) : Prop where
  ex : ∃ (f : Addr) (fd : FuncData) (ps : List Str), mg x = some (.ref f) ∧ PySem.W.keepIn K (.ref f) = true ∧ Binds K fd ps [] ∧ ps.length = n ∧ FnF P w K mg base k f fd ps F
end
section
variable {X : Cx} {W : WX}
/-- F on so many arguments alone -/
def arity (n : Nat) (F : FN) : FN := fun xs M => if xs.length = n then F xs M else .stuck
theorem rf_call {n : Nat} {F : FN} {t : TA} {a : FA} (r : RF X W (RVs X.K) t a) : RF X W (RV X.K) (tCallS (spF X.prog X.w X.K X.mg n F) (WE W) t) (fFn (arity n F) a) := by
  intro σ H Q π ρ M hs hm hp
  refine r.bind hs hm hp fun xs M1 vs H1 π1 e1 rv m1 hp1 => ?_
  unfold arity at hp1
  by_cases h : xs.length = n
  · rw [if_pos h] at hp1
    refine ⟨by rw [← rv.length]; exact h, π1, xs, M1, rv, m1, ?_⟩
    cases e : F xs M1 with
    | ok y M2 => rw [e] at hp1; exact hp1
    | ex c fs M2 => rw [e] at hp1; exact hp1
    | stuck => rw [e] at hp1; exact hp1
  · rw [if_neg h] at hp1
    exact hp1.elim
theorem fx_call {k j n : Nat} {x : Str} {F : FN} {p pos : Pos} {e : Expr} {es : List Expr} {a : FA} (c : CalF X.prog X.w X.K X.mg X.base k x n F) (hr : Room j X.A) (hk : k ≤ j) (hg : Gl X x) (tk : Takes X W) (ha : FXA X W (e :: es) a)
    (hdb : (x == ("__debug__" : Str)) = false := by decide) (he : starEach (e :: es) X.env = (false, eval e X.env) :: starEach es X.env := by rfl) (hpl : (backTo pos (starEach es X.env)).any (·.1) = false := by rfl) :
    FX X W (.Call (.Name x p) (e :: es) [] pos) (fFn (arity n F) a) := by
  obtain ⟨f, fd, ps, hm, kp, hb, hn, hF⟩ := c.ex
  subst hn
  obtain ⟨t1, p1, r1⟩ := ha.to
  exact ⟨_, pe_callS hF (hr.mono hk) hg hm kp hb (passAt tk) p1 hdb he hpl, rf_call r1⟩
theorem fx_call0 {k j : Nat} {x : Str} {F : FN} {p pos : Pos} (c : CalF X.prog X.w X.K X.mg X.base k x 0 F) (hr : Room j X.A) (hk : k ≤ j) (hg : Gl X x) (tk : Takes X W) (hdb : (x == ("__debug__" : Str)) = false := by decide) :
    FX X W (.Call (.Name x p) [] [] pos) (fFn (arity 0 F) faNil) := by
  obtain ⟨f, fd, ps, hm, kp, hb, hn, hF⟩ := c.ex
  refine ⟨tCallS (spF X.prog X.w X.K X.mg ps.length F) (WE W) tNil, ⟨fun pins s σ H Q I h => ?_⟩, ?_⟩
  · refine wpAny_Call_Name_kw (ld_glob I hg hm ?_ hdb)
    exact PySem.W.callWith_K0 I.kIn kp (run_fnS (us := []) hF (hr.mono hk) hb (passAt tk σ) I .nil h)
  · rw [hn]
    exact rf_call fun σ H Q π ρ M hs hm hp => hp.ok RVs.nil hm
end
/-! ### a law's end -/
section
variable {P : Program} {w : World} {K : PySem.W.Frag} {mg : Str → Option Value} {base : Heap}
/-- the law's promise: script in, True out -/
theorem sp_law {F : FN} {H : Hp} {a : Addr} {ns : List Int} (hO : Only H) (hS : SqL K H a (ns.map V.int)) (h : ∃ M, F [.ref 0] [.cst (ns.map MV.int)] = .ok (.bl true) M) : spF P w K mg 1 F [.ref a] H (fun v _ => v = .bl true) fun _ _ _ => False := by
  have rv : ∀ l : List Int, RVs K [a] H (l.map MV.int) (l.map V.int) := by
    intro l
    induction l with
    | nil => exact RVs.nil
    | cons i l ih => exact RVs.cons (by unfold RV; rfl) ih
  refine ⟨rfl, [a], [.ref 0], [.cst (ns.map MV.int)], RVs.cons (by unfold RV; exact ⟨a, rfl, rfl⟩) RVs.nil, ⟨rfl, ?_, ?_⟩, ?_⟩
  · intro i j b o u h1 h2 h3 h4 c1 c2
    cases i with
    | zero =>
      cases h3
      cases c1
    | succ i => simp at h3
  · intro i b o h1 h2
    cases i with
    | zero =>
      cases h1
      cases h2
      refine ⟨ns.map V.int, ?_, rv ns⟩
      rcases hS with (h | ⟨o, h⟩) | h
      · exfalso
        rcases hO a with q | ⟨o, xs, q⟩
        · rw [q] at h
          cases h
        · rw [q] at h
          cases h
      · exact .inl ⟨o, h⟩
      · exact .inr h
    | succ i => simp at h1
  · obtain ⟨M, e⟩ := h
    rw [e]
    intro v H' π' e' r m
    unfold RV at r
    exact r
/-- .. with the bits of the script's ints told -/
theorem walk_ofEB {l : PySem.W.OpenLaw} {n k : Nat} {q : Program} {loose : List Str} {XP : (Str → Option Value) → Heap → Prop} {YP : World → Heap → Prop} {d : DefRec} {CX : World → CXT} {x : Str}
    (hn : l.most = some n) (hn2 : n ≤ sizeLine) (hdf : d.params.defaults = []) (hr : Room k callerA)
    (F : ∀ (w : World) (mg : Str → Option Value) (fa : Addr) (h : Heap), YP w h → h.Ns mainGlobals mg → mg d.name = some (.ref fa) →
      ∃ (K : PySem.W.Frag) (fd : FuncData) (sp : Sp), K.In h ∧ (∀ (s : Shared) (u : Value), BindsTo s fd ⟨[u], []⟩ [(x, u)]) ∧
        (∀ (H : Hp) (a : Addr) (ns : List Int), ns.length ≤ n → (∀ z ∈ ns, Builtin.Int.intBits z ≤ 1048576) → Only H → SqL K H a (ns.map V.int) → sp [.ref a] H (fun v _ => v = .bl true) fun _ _ _ => False) ∧
        ∀ base : Heap, K.In base → base.Ns mainGlobals mg → FnOk l.prog w K mg base (CX w) k fa fd [x] sp)
    (hCX : ∀ (w : World) (H : Hp) (s : Shared) (e : Value) (s' : Shared), CX w [] H s (fun _ _ _ => False) e s' → False) :
    PySem.W.WalkO q loose XP YP l.row.toRowW d [] (fun f vs => PySem.call f vs) := by
  refine Att.attach_callB hn hdf fun w s₀ s₁ mg mb fa o pm cd doc a vs ns G Y ho hd hcd hmg hobj hints hlen hbits hg => ?_
  obtain ⟨K, fd, sp, KX, hb, hsp, hF⟩ := F w mg fa _ Y G.T.g hmg
  exact law_call KX G.T.g G.T.b G.T.builtins G.T.nolimit hg hobj hints (Nat.le_trans hlen hn2) hr hF hb (fun H hO hS => hsp H a ns hlen hbits hO hS) fun H e s' => hCX w H s₁ e s'
end
end FL

namespace FL
open PySem PySem.Spec PyProof.Rows L2
section
variable {P : Program} {w : World} {K : PySem.W.Frag} {mg : Str → Option Value} {base : Heap}
theorem fun_of {x qual : Str} {st : Stmt} {f : Addr} {fd : FuncData} (F : FunD K x qual (defArgs st) (defBody st) (defScope st) [] [] f fd) : Fun K x qual st f fd := by
  obtain ⟨oc, od, dV, kV, doc, pm, an, cdv, ct, osl, e, lk, hc, hd, hk⟩ := F.ex
  have e0 : dV = .none := by
    rcases hd with ⟨_, h⟩ | ⟨h, _⟩
    · exact h
    · exact absurd rfl h
  subst e0
  exact ⟨⟨oc, od, kV, doc, pm, an, cdv, ct, osl, e, lk, hc⟩, F.kp⟩
theorem cal_mk {x qual : Str} {st : Stmt} {f : Addr} {N ps : List Str} {k : Nat} {body : FS} (D : ∃ fd, FunD K x qual (defArgs st) (defBody st) (defScope st) [] [] f fd) (g : mg x = some (.ref f)) (S : FnScope N ps (defScope st))
    (hbind : ∀ (kV doc pm : Value) (an : Option Addr) (cdv ct : Value) (us : List Value), us.length = ps.length → bindArgs (PySem.W.fnOf x qual (defArgs st) (defBody st) (defScope st) .none kV doc pm an cdv ct) ⟨us, []⟩ = pure (ps.zip us))
    (hb : ∀ (cdv : Value) (A : Around) (outer : List Env) (s : Shared) (H : Hp) (E : XK), Room k (A.deeper (envOfC qual (defScope st) s.heap.objs.size f cdv)) →
      FXB (cxOf (L2.CX P w) P w K mg base N qual (defScope st) f cdv A outer s H E) (fun cls d _ H => E cls d H) (defBody st) body) : CalF P w K mg base (k + 1) x ps.length (FL.fnOf N.length body) := by
  obtain ⟨fd, D⟩ := D
  have F := fun_of D
  exact ⟨f, fd, ps, g, F.kp, F.binds hbind, rfl, fn_ok F S hb⟩
end
end FL
namespace FL
open PySem PySem.Spec PyProof.Rows L2
theorem b_len : bootBuiltins "len" = some (.builtin "len") := by decide +kernel
theorem b_isinstance : bootBuiltins "isinstance" = some (.builtin "isinstance") := by decide +kernel
theorem b_max : bootBuiltins "max" = some (.builtin "max") := by decide +kernel
theorem b_min : bootBuiltins "min" = some (.builtin "min") := by decide +kernel
theorem b_all : bootBuiltins "all" = some (.builtin "all") := by decide +kernel
theorem b_any : bootBuiltins "any" = some (.builtin "any") := by decide +kernel
theorem b_list : bootBuiltins "list" = some (.type "list") := by decide +kernel
theorem b_tuple : bootBuiltins "tuple" = some (.type "tuple") := by decide +kernel
theorem b_bool : bootBuiltins "bool" = some (.type "bool") := by decide +kernel
theorem b_int : bootBuiltins "int" = some (.type "int") := by decide +kernel
theorem b_str : bootBuiltins "str" = some (.type "str") := by decide +kernel
theorem b_dict : bootBuiltins "dict" = some (.type "dict") := by decide +kernel
end FL
namespace FL
open PySem PySem.Spec PyProof.Rows L2
section
variable {P : Program} {w : World} {K : PySem.W.Frag} {mg : Str → Option Value}
/-- the law's own def -/
theorem law_mk {x qual a : Str} {st : Stmt} {f : Addr} {N : List Str} {k : Nat} {body : FS} (D : ∃ fd, FunD K x qual (defArgs st) (defBody st) (defScope st) [] [] f fd) (S : FnScope N [a] (defScope st))
    (hbind : ∀ (kV doc pm : Value) (an : Option Addr) (cdv ct : Value) (us : List Value), us.length = [a].length → bindArgs (PySem.W.fnOf x qual (defArgs st) (defBody st) (defScope st) .none kV doc pm an cdv ct) ⟨us, []⟩ = pure ([a].zip us))
    (hb : ∀ (base : Heap) (cdv : Value) (A : Around) (outer : List Env) (s : Shared) (H : Hp) (E : XK), Room k (A.deeper (envOfC qual (defScope st) s.heap.objs.size f cdv)) →
      FXB (cxOf (L2.CX P w) P w K mg base N qual (defScope st) f cdv A outer s H E) (fun cls d _ H => E cls d H) (defBody st) body) :
    ∃ fd : FuncData, (∀ (s : Shared) (v : Value), BindsTo s fd ⟨[v], []⟩ [(a, v)]) ∧ ∀ base : Heap, FnOk P w K mg base (L2.CX P w) (k + 1) f fd [a] (spF P w K mg 1 (FL.fnOf N.length body)) := by
  obtain ⟨fd, D⟩ := D
  exact ⟨fd, fun s v => FunD.bindsA (ps := [a]) D hbind s [v] rfl, fun base => fn_ok (fun_of D) S (hb base)⟩
end
section
variable {X : Cx} {W : WX}
theorem fx_gc {x : Str} {pos : Pos} {f : FE} (hg : Gl X x) (h : ∃ v y, f = fC y ∧ (∀ π H, RV X.K π H y v) ∧ ∃ u, X.mg x = some u ∧ RelV v u) (hd : (x == ("__debug__" : Str)) = false := by decide) : FX X W (.Name x pos) f := by
  obtain ⟨v, y, rfl, r, u, hm, hr⟩ := h
  exact fx_c (pe_glob hg hm hr hd) r
end
end FL

namespace FL
open PySem PySem.Spec PyProof.Rows L2
/-! ### the model heap: what stood, and what came -/
theorem h_get0 {M G : MH} : (M ++ G)[M.length]? = G[0]? := by rw [List.getElem?_append_right (Nat.le_refl _)]; simp
theorem h_getk {M G : MH} {k : Nat} : (M ++ G)[M.length + k]? = G[k]? := by rw [List.getElem?_append_right (by omega)]; simp
theorem h_old {M G : MH} {n : Nat} {o : MO} (h : M[n]? = some o) : (M ++ G)[n]? = some o := by rw [List.getElem?_append_left (List.getElem?_eq_some_iff.mp h).1]; exact h
theorem h_set0 {M G : MH} {o : MO} : (M ++ G).set M.length o = M ++ G.set 0 o := by rw [List.set_append_right _ _ (Nat.le_refl _)]; simp
theorem h_setk {M G : MH} {k : Nat} {o : MO} : (M ++ G).set (M.length + k) o = M ++ G.set k o := by rw [List.set_append_right _ _ (by omega)]; simp
theorem h_app {M G G2 : MH} : (M ++ G) ++ G2 = M ++ (G ++ G2) := List.append_assoc ..
theorem h_len {M G : MH} : (M ++ G).length = M.length + G.length := List.length_append ..
theorem lstOf_old {M G : MH} {x : MV} {xs : List MV} (h : lstOf M x = some xs) : lstOf (M ++ G) x = some xs := by
  cases x with
  | ref n =>
    cases q : M[n]? with
    | none => simp [lstOf, q] at h
    | some o => rw [lstOf, h_old q]; rw [lstOf, q] at h; exact h
  | _ => exact h
theorem bind_ok {α β : Type} {a : α} {M : MH} {k : α → MH → Res β} : (Res.ok a M).bind k = k a M := rfl
theorem stm_ok {α : Type} {a : α} {M : MH} {ρ : Rho} {k : α → MH → RSt} : (Res.ok a M).stm ρ k = k a M := rfl
theorem seq_next {ρ : Rho} {M : MH} {k : Rho → MH → RSt} : (RSt.next ρ M).seq k = k ρ M := rfl
theorem seq_ret {x : MV} {M : MH} {k : Rho → MH → RSt} : (RSt.ret x M).seq k = .ret x M := rfl
theorem seq_ex {c : Str} {fs : List (Str × MV)} {ρ : Rho} {M : MH} {k : Rho → MH → RSt} : (RSt.ex c fs ρ M).seq k = .ex c fs ρ M := rfl
theorem gI_ok {C : Int → Int → Bool} {k : Int → Int → MV} {i j : Int} {M : MH} (h : C i j = true) : gI C k (.int i) (.int j) M = .ok (k i j) M := by
  unfold gI
  exact if_pos h
theorem mod_ok {i j : Int} {M : MH} (h : 0 < j) : gMod (.int i) (.int j) M = .ok (.int (i % j)) M := gI_ok (decide_eq_true h)
theorem fdiv_ok {i j : Int} {M : MH} (h : (decide (0 < j) && decide (j.natAbs.log2 < 9000)) = true) : gFdiv (.int i) (.int j) M = .ok (.int (i / j)) M := gI_ok h
theorem small_ok {n : Nat} (h : n ≤ 16777216) : small n = true := decide_eq_true (by rw [sizeLine_eq]; exact h)
theorem pow_ok {i j : Int} {M : MH} (h : (decide (0 ≤ j) && (decide (j ≤ 1000000) && decide (i.natAbs < 2 ^ 64))) = true) : gPow (.int i) (.int j) M = .ok (.int (i ^ j.toNat)) M := gI_ok h
theorem sub_ok {i j : Int} {M : MH} : gSub (.int i) (.int j) M = .ok (.int (i - j)) M := rfl
theorem add_ok {i j : Int} {M : MH} : gAdd (.int i) (.int j) M = .ok (.int (i + j)) M := rfl
theorem log2_lt {i : Int} {n : Nat} (h : i.natAbs < 2 ^ n) (h0 : 0 < n) : i.natAbs.log2 < n := PySem.Flt.log2_lt_of h0 h
theorem mul_ok {i j : Int} {M : MH} (h : i.natAbs.log2 + j.natAbs.log2 < 130000000) : gMul (.int i) (.int j) M = .ok (.int (i * j)) M := gI_ok (decide_eq_true h)
theorem bits_log {z : Int} {n : Nat} (h : Builtin.Int.intBits z ≤ n) : z.natAbs.log2 ≤ n := by
  unfold Builtin.Int.intBits at h
  split at h
  · rename_i q
    have : z = 0 := by simpa using q
    subst this
    simp
  · omega
theorem log2_mono {a b : Nat} (h : a ≤ b) : a.log2 ≤ b.log2 := by
  by_cases ha : a = 0
  · subst ha
    simp
  · exact (Nat.le_log2 (by omega)).mpr (Nat.le_trans (Nat.log2_self_le ha) h)
/-- a remainder is small -/
theorem mod_log (i : Int) {j : Int} (h : 0 < j) : (i % j).natAbs.log2 ≤ j.natAbs.log2 := log2_mono (by
  have h1 := Int.emod_nonneg i (Int.ne_of_gt h)
  have h2 := Int.emod_lt_of_pos i h
  omega)
/-- an item at a remainder -/
theorem atI_mod {α : Type} {xs : List α} (i : Int) (h : 0 < xs.length) : ∃ v, atI xs (i % (xs.length : Int)) = some v ∧ v ∈ xs := by
  have h0 : (0 : Int) < (xs.length : Int) := by omega
  have h1 := Int.emod_nonneg i (Int.ne_of_gt h0)
  have h2 := Int.emod_lt_of_pos i h0
  obtain ⟨j, hj⟩ : ∃ j : Nat, i % (xs.length : Int) = (j : Int) := ⟨(i % (xs.length : Int)).toNat, by omega⟩
  have hl : j < xs.length := by omega
  exact ⟨xs[j], by rw [hj]; exact atI_nat (List.getElem?_eq_getElem hl), List.getElem_mem hl⟩
end FL
namespace FL
open PySem PySem.Spec PyProof.Rows L2
def pick2 {α : Type} (a b : α) (i : Int) : α := if i % 2 = 0 then a else b
def pick3 {α : Type} (a b c : α) (i : Int) : α := if i % 3 = 0 then a else if i % 3 = 1 then b else c
def pick4 {α : Type} (a b c d : α) (i : Int) : α := if i % 4 = 0 then a else if i % 4 = 1 then b else if i % 4 = 2 then c else d
theorem atI_2 {α : Type} (a b : α) (i : Int) : atI [a, b] (i % 2) = some (pick2 a b i) := by
  unfold pick2
  have h : i % 2 = 0 ∨ i % 2 = 1 := by omega
  rcases h with h | h <;> rw [h] <;> rfl
theorem atI_3 {α : Type} (a b c : α) (i : Int) : atI [a, b, c] (i % 3) = some (pick3 a b c i) := by
  unfold pick3
  have h : i % 3 = 0 ∨ i % 3 = 1 ∨ i % 3 = 2 := by omega
  rcases h with h | h | h <;> rw [h] <;> rfl
theorem atI_4 {α : Type} (a b c d : α) (i : Int) : atI [a, b, c, d] (i % 4) = some (pick4 a b c d i) := by
  unfold pick4
  have h : i % 4 = 0 ∨ i % 4 = 1 ∨ i % 4 = 2 ∨ i % 4 = 3 := by omega
  rcases h with h | h | h | h <;> rw [h] <;> rfl
theorem pick2_f {α β : Type} (f : α → β) (a b : α) (i : Int) : pick2 (f a) (f b) i = f (pick2 a b i) := by unfold pick2; split <;> rfl
theorem pick3_f {α β : Type} (f : α → β) (a b c : α) (i : Int) : pick3 (f a) (f b) (f c) i = f (pick3 a b c i) := by unfold pick3; split <;> (try split) <;> rfl
theorem pick4_f {α β : Type} (f : α → β) (a b c d : α) (i : Int) : pick4 (f a) (f b) (f c) (f d) i = f (pick4 a b c d i) := by unfold pick4; split <;> (try split) <;> (try split) <;> rfl
theorem pick2_str (a b : Str) (i : Int) : pick2 (MV.str a) (.str b) i = .str (pick2 a b i) := pick2_f _ _ _ _
theorem pick3_str (a b c : Str) (i : Int) : pick3 (MV.str a) (.str b) (.str c) i = .str (pick3 a b c i) := pick3_f _ _ _ _ _
theorem pick4_str (a b c d : Str) (i : Int) : pick4 (MV.str a) (.str b) (.str c) (.str d) i = .str (pick4 a b c d i) := pick4_f _ _ _ _ _ _
theorem pick2_tup (a b : List MV) (i : Int) : pick2 (MV.tup a) (.tup b) i = .tup (pick2 a b i) := pick2_f _ _ _ _
theorem pick4_tup (a b c d : List MV) (i : Int) : pick4 (MV.tup a) (.tup b) (.tup c) (.tup d) i = .tup (pick4 a b c d i) := pick4_f _ _ _ _ _ _
theorem pick2_of {α : Type} {p : α → Prop} {a b : α} (ha : p a) (hb : p b) (i : Int) : p (pick2 a b i) := by unfold pick2; split <;> assumption
theorem pick3_of {α : Type} {p : α → Prop} {a b c : α} (ha : p a) (hb : p b) (hc : p c) (i : Int) : p (pick3 a b c i) := by unfold pick3; split <;> (try split) <;> assumption
theorem pick4_of {α : Type} {p : α → Prop} {a b c d : α} (ha : p a) (hb : p b) (hc : p c) (hd : p d) (i : Int) : p (pick4 a b c d i) := by unfold pick4; split <;> (try split) <;> (try split) <;> assumption
theorem veq_int {i j : Int} {M : MH} : gEq (.int i) (.int j) M = .ok (.bl (decide (i = j))) M := rfl
theorem vne_int {i j : Int} {M : MH} : gNe (.int i) (.int j) M = .ok (.bl (!decide (i = j))) M := rfl
theorem veq_str1 {a : Str} {M : MH} : gEq (.str a) (.str a) M = .ok (.bl true) M := by show Res.ok (MV.bl (decide (a = a))) M = _; rw [decide_eq_true rfl]
theorem veq_str0 {a b : Str} {M : MH} (h : a ≠ b) : gEq (.str a) (.str b) M = .ok (.bl false) M := by show Res.ok (MV.bl (decide (a = b))) M = _; rw [decide_eq_false h]
theorem vne_str1 {a : Str} {M : MH} : gNe (.str a) (.str a) M = .ok (.bl false) M := by show Res.ok (MV.bl (!decide (a = a))) M = _; rw [decide_eq_true rfl]; rfl
theorem vne_str0 {a b : Str} {M : MH} (h : a ≠ b) : gNe (.str a) (.str b) M = .ok (.bl true) M := by show Res.ok (MV.bl (!decide (a = b))) M = _; rw [decide_eq_false h]; rfl
/- good data: == of itself -/
mutual
def okD : PyData → Bool
  | .none => true
  | .bool _ => true
  | .int _ => true
  | .str _ => true
  | .list xs => okDs xs
  | .tuple xs => okDs xs
  | .dict _ => false
def okDs : List PyData → Bool
  | [] => true
  | x :: xs => okD x && okDs xs
end
mutual
theorem eqv_self : ∀ d : PyData, okD d = true → PyData.eqv d d = true
  | .none, _ => rfl
  | .bool b, _ => by simp [PyData.eqv]
  | .int b, _ => by simp [PyData.eqv]
  | .str b, _ => by simp [PyData.eqv]
  | .list xs, h => by rw [PyData.eqv]; exact eqv_selfs xs (by rw [okD] at h; exact h)
  | .tuple xs, h => by rw [PyData.eqv]; exact eqv_selfs xs (by rw [okD] at h; exact h)
  | .dict _, h => by simp [okD] at h
theorem eqv_selfs : ∀ ds : List PyData, okDs ds = true → PyData.eqvAll ds ds = true
  | [], _ => rfl
  | x :: xs, h => by
    rw [okDs, Bool.and_eq_true] at h
    rw [PyData.eqvAll, eqv_self x h.1, eqv_selfs xs h.2]
    rfl
end
end FL

namespace FL
open PySem PySem.Spec PyProof.Rows L2
/-! ### plain data: == is equality -/
/-- ints, texts, None, tuples of these, so deep -/
def okV : Nat → MV → Bool
  | _, .non => true
  | _, .int _ => true
  | _, .str x => PyData.strOk x
  | 0, .tup _ => false
  | n + 1, .tup xs => xs.all (okV n)
  | _, .bl _ => false
  | _, .ref _ => false
mutual
def pD : MV → PyData
  | .non => .none
  | .bl b => .bool b
  | .int i => .int i
  | .str x => .str x
  | .tup xs => .tuple (pDs xs)
  | .ref _ => .none
def pDs : List MV → List PyData
  | [] => []
  | x :: xs => pD x :: pDs xs
end
theorem pDs_map : ∀ xs : List MV, pDs xs = xs.map pD
  | [] => rfl
  | x :: xs => by rw [pDs, pDs_map xs]; rfl
theorem allD_of {f : MV → Option PyData} {g : MV → PyData} : ∀ {xs : List MV}, (∀ x ∈ xs, f x = some (g x)) → allD f xs = some (xs.map g)
  | [], _ => rfl
  | x :: xs, h => by
    rw [allD, h x List.mem_cons_self, allD_of fun y hy => h y (List.mem_cons_of_mem _ hy)]
    rfl
theorem toD_pD {M : MH} : ∀ (n : Nat) (x : MV), okV n x = true → toD (n + 1) M x = some (pD x)
  | n, .non, _ => rfl
  | n, .int _, _ => rfl
  | n, .str _, _ => rfl
  | 0, .tup _, h => by cases h
  | n + 1, .tup xs, h => by
    have h' : xs.all (okV n) = true := h
    have e : allD (toD (n + 1) M) xs = some (xs.map pD) := allD_of fun x hx => toD_pD n x (List.all_eq_true.mp h' x hx)
    show (allD (toD (n + 1) M) xs).map PyData.tuple = some (pD (.tup xs))
    rw [e, pD, pDs_map]
    rfl
  | n, .bl _, h => by cases n <;> cases h
  | n, .ref _, h => by cases n <;> cases h
theorem canLay_all : ∀ {ds : List PyData}, (∀ d ∈ ds, d.canLay0 = true) → PyData.canLayAll0 ds = true
  | [], _ => rfl
  | d :: ds, h => by
    rw [PyData.canLayAll0, h d List.mem_cons_self, canLay_all fun e he => h e (List.mem_cons_of_mem _ he)]
    rfl
theorem depth_all : ∀ {ds : List PyData} {n : Nat}, (∀ d ∈ ds, d.depth ≤ n) → PyData.depthAll ds ≤ n
  | [], n, _ => by rw [PyData.depthAll]; exact Nat.zero_le _
  | d :: ds, n, h => by
    rw [PyData.depthAll]
    exact Nat.max_le.mpr ⟨h d List.mem_cons_self, depth_all fun e he => h e (List.mem_cons_of_mem _ he)⟩
theorem pD_lay : ∀ (n : Nat) (x : MV), okV n x = true → (pD x).canLay0 = true ∧ (pD x).depth ≤ n
  | n, .non, _ => ⟨rfl, by rw [pD, PyData.depth]; exact Nat.zero_le _⟩
  | n, .int _, _ => ⟨rfl, by rw [pD, PyData.depth]; exact Nat.zero_le _⟩
  | n, .str x, h => ⟨by rw [pD, PyData.canLay0]; cases n <;> exact h, by rw [pD, PyData.depth]; exact Nat.zero_le _⟩
  | 0, .tup _, h => by cases h
  | n + 1, .tup xs, h => by
    have h' : xs.all (okV n) = true := h
    have ih : ∀ d ∈ pDs xs, d.canLay0 = true ∧ d.depth ≤ n := by
      rw [pDs_map]
      intro d hd
      obtain ⟨x, hx, rfl⟩ := List.mem_map.mp hd
      exact pD_lay n x (List.all_eq_true.mp h' x hx)
    refine ⟨?_, ?_⟩
    · rw [pD, PyData.canLay0]
      exact canLay_all fun d hd => (ih d hd).1
    · rw [pD, PyData.depth]
      exact Nat.succ_le_succ (depth_all fun d hd => (ih d hd).2)
  | n, .bl _, h => by cases n <;> cases h
  | n, .ref _, h => by cases n <;> cases h
theorem pD_shaped {n : Nat} {x : MV} (h : okV n x = true) (hn : n ≤ 64) : SeqAt.shaped (pD x) = true := by
  obtain ⟨h1, h2⟩ := pD_lay n x h
  unfold SeqAt.shaped
  rw [Bool.and_eq_true]
  exact ⟨h1, decide_eq_true (Nat.le_trans h2 hn)⟩
theorem beq_dec {α : Type} [DecidableEq α] (a b : α) : (a == b) = decide (a = b) := by
  by_cases h : a = b
  · subst h
    simp
  · rw [decide_eq_false h]
    exact beq_eq_false_iff_ne.mpr h
theorem eqv_all {n m : Nat} : ∀ {xs ys : List MV}, (∀ x ∈ xs, ∀ y ∈ ys, PyData.eqv (pD x) (pD y) = decide (x = y)) → PyData.eqvAll (pDs xs) (pDs ys) = decide (xs = ys)
  | [], [], _ => by simp [pDs, PyData.eqvAll]
  | [], y :: ys, _ => by simp [pDs, PyData.eqvAll]
  | x :: xs, [], _ => by simp [pDs, PyData.eqvAll]
  | x :: xs, y :: ys, h => by
    rw [pDs, pDs, PyData.eqvAll, h x List.mem_cons_self y List.mem_cons_self, eqv_all (n := n) (m := m) fun a ha b hb => h a (List.mem_cons_of_mem _ ha) b (List.mem_cons_of_mem _ hb)]
    by_cases e1 : x = y
    · by_cases e2 : xs = ys
      · simp [e1, e2]
      · simp [e1, e2]
    · simp [e1]
theorem eqv_pD : ∀ (n m : Nat) (x y : MV), okV n x = true → okV m y = true → PyData.eqv (pD x) (pD y) = decide (x = y) := by
  intro n
  induction n with
  | zero =>
    intro m x y hx hy
    cases x <;> cases y <;> first | (cases hx; done) | (cases m <;> cases hy; done) | (simp only [pD, PyData.eqv]; simp [beq_dec]; done)
  | succ n ih =>
    intro m x y hx hy
    cases x with
    | tup xs =>
      cases y with
      | tup ys =>
        cases m with
        | zero => cases hy
        | succ m =>
          have hx' : xs.all (okV n) = true := hx
          have hy' : ys.all (okV m) = true := hy
          rw [pD, pD, PyData.eqv, eqv_all (n := n) (m := m) fun a ha b hb => ih m a b (List.all_eq_true.mp hx' a ha) (List.all_eq_true.mp hy' b hb)]
          simp
      | _ => first | (cases m <;> cases hy; done) | (simp only [pD, PyData.eqv]; simp; done)
    | _ => cases y <;> first | (cases hx; done) | (cases m <;> cases hy; done) | (simp only [pD, PyData.eqv]; simp [beq_dec]; done)
theorem deepEq_plain {M : MH} {n m : Nat} {x y : MV} (hx : okV n x = true) (hy : okV m y = true) (hn : n ≤ 64) (hm : m ≤ 64) : deepEq M x y = some (decide (x = y)) := by
  have up : ∀ (k j : Nat) (z : MV), okV k z = true → okV (k + j) z = true := by
    intro k
    induction k with
    | zero =>
      intro j z h
      cases z with
      | tup _ => cases h
      | bl _ => cases h
      | ref _ => cases h
      | str x => cases j <;> exact h
      | _ => cases j <;> rfl
    | succ k ih =>
      intro j z h
      rw [Nat.succ_add]
      cases z with
      | tup zs =>
        have h' : zs.all (okV k) = true := h
        show zs.all (okV (k + j)) = true
        exact List.all_eq_true.mpr fun a ha => ih j a (List.all_eq_true.mp h' a ha)
      | bl _ => cases h
      | ref _ => cases h
      | str x => exact h
      | _ => rfl
  have e1 : toD 66 M x = some (pD x) := toD_pD 65 x (by
    have := up n (65 - n) x hx
    rwa [show n + (65 - n) = 65 by omega] at this)
  have e2 : toD 66 M y = some (pD y) := toD_pD 65 y (by
    have := up m (65 - m) y hy
    rwa [show m + (65 - m) = 65 by omega] at this)
  unfold deepEq
  rw [e1, e2]
  simp only [pD_shaped hx hn, pD_shaped hy hm, Bool.and_self, if_true]
  rw [eqv_pD n m x y hx hy]
theorem scalEq_eq {x y : MV} {b : Bool} (h : scalEq x y = some b) : b = decide (x = y) := by
  unfold scalEq at h
  split at h <;> cases h <;> simp
theorem eqM_plain {M : MH} {n m : Nat} {x y : MV} (hx : okV n x = true) (hy : okV m y = true) (hn : n ≤ 64) (hm : m ≤ 64) : eqM M x y = some (decide (x = y)) := by
  unfold eqM
  cases h : scalEq x y with
  | some b => rw [scalEq_eq h]
  | none => exact deepEq_plain hx hy hn hm
theorem gEq_plain {M : MH} {n m : Nat} {x y : MV} (hx : okV n x = true) (hy : okV m y = true) (hn : n ≤ 64 := by decide) (hm : m ≤ 64 := by decide) : gEq x y M = .ok (.bl (decide (x = y))) M := by
  unfold gEq
  rw [eqM_plain hx hy hn hm]
theorem gNe_plain {M : MH} {n m : Nat} {x y : MV} (hx : okV n x = true) (hy : okV m y = true) (hn : n ≤ 64 := by decide) (hm : m ≤ 64 := by decide) : gNe x y M = .ok (.bl (!decide (x = y))) M := by
  unfold gNe
  rw [eqM_plain hx hy hn hm]
end FL

namespace FL
open PySem PySem.Spec PyProof.Rows L2
/-! ### dicts: an insertion-ordered table -/
def dGet (kvs : List (MV × MV)) (k : MV) : Option MV := (kvs.find? fun kv => decide (kv.1 = k)).map (·.2)
def dPut (kvs : List (MV × MV)) (k x : MV) : List (MV × MV) :=
  if (kvs.any fun kv => decide (kv.1 = k)) = true then kvs.map (fun kv => if kv.1 = k then (kv.1, x) else kv) else kvs ++ [(k, x)]
def dDel (kvs : List (MV × MV)) (k : MV) : List (MV × MV) := kvs.filter fun kv => decide (kv.1 ≠ k)
def okF (k : MV) : Bool := (flatOf k).isSome
def isTup : MV → Bool
  | .tup _ => true
  | _ => false
def okN (k : MV) : Bool := isTup k && (match keyOf k with
  | some q => decide (q.depth ≤ 8)
  | none => false)
def mF (kvs : List (MV × MV)) (k : MV) : Bool := okF k && kvs.all fun p => okF p.1
def mN (kvs : List (MV × MV)) (k : MV) : Bool := okN k && kvs.all fun p => isTup p.1
def modeOk (kvs : List (MV × MV)) (k : MV) : Bool := mF kvs k || mN kvs k
theorem dGet_pos {j x k : MV} {r : List (MV × MV)} (e : j = k) : dGet ((j, x) :: r) k = some x := by simp [dGet, List.find?_cons, e]
theorem dGet_neg {j x k : MV} {r : List (MV × MV)} (e : ¬ j = k) : dGet ((j, x) :: r) k = dGet r k := by simp [dGet, List.find?_cons, e]
theorem atKey_pos {q p : NestedKey} {b : Addr} {u : Value} {r : List (NestedKey × Addr × Value)} (e : q = p) : atKey ((q, b, u) :: r) p = some (b, u) := by simp [atKey, List.find?_cons, e]
theorem atKey_neg {q p : NestedKey} {b : Addr} {u : Value} {r : List (NestedKey × Addr × Value)} (e : ¬ q = p) : atKey ((q, b, u) :: r) p = atKey r p := by simp [atKey, List.find?_cons, e]
theorem flat_inj {x y : MV} {q : Key} (h : flatOf x = some q) (h2 : flatOf y = some q) : x = y := by
  cases x <;> cases y <;> simp_all [flatOf]
  · rw [← h] at h2
    injection h2 with h2
    exact h2.symm
  · rw [← h] at h2
    cases h2
  · rw [← h] at h2
    cases h2
  · rw [← h] at h2
    injection h2 with h2
    exact h2.symm
mutual
theorem key_inj : ∀ {x y : MV} {q : NestedKey}, keyOf x = some q → keyOf y = some q → x = y
  | .non, y, q, h, h2 => by
    cases y with
    | non => rfl
    | tup ys =>
      unfold keyOf at h h2
      rw [← h] at h2
      obtain ⟨z, _, e⟩ := Option.map_eq_some_iff.mp h2
      cases e
    | _ => unfold keyOf at h h2; rw [← h] at h2; cases h2
  | .bl _, y, q, h, h2 => by cases h
  | .ref _, y, q, h, h2 => by cases h
  | .int i, y, q, h, h2 => by
    cases y with
    | int j =>
      unfold keyOf at h h2
      rw [← h] at h2
      cases h2
      rfl
    | tup ys =>
      unfold keyOf at h h2
      rw [← h] at h2
      obtain ⟨z, _, e⟩ := Option.map_eq_some_iff.mp h2
      cases e
    | _ => unfold keyOf at h h2; rw [← h] at h2; cases h2
  | .str i, y, q, h, h2 => by
    cases y with
    | str j =>
      unfold keyOf at h h2
      rw [← h] at h2
      cases h2
      rfl
    | tup ys =>
      unfold keyOf at h h2
      rw [← h] at h2
      obtain ⟨z, _, e⟩ := Option.map_eq_some_iff.mp h2
      cases e
    | _ => unfold keyOf at h h2; rw [← h] at h2; cases h2
  | .tup xs, y, q, h, h2 => by
    unfold keyOf at h
    obtain ⟨ks, e1, rfl⟩ := Option.map_eq_some_iff.mp h
    cases y with
    | tup ys =>
      unfold keyOf at h2
      obtain ⟨ls, e2, e3⟩ := Option.map_eq_some_iff.mp h2
      cases e3
      rw [keys_inj e1 e2]
    | _ => unfold keyOf at h2; cases h2
theorem keys_inj : ∀ {xs ys : List MV} {ks : List NestedKey}, keysOf xs = some ks → keysOf ys = some ks → xs = ys
  | [], ys, ks, h, h2 => by
    unfold keysOf at h
    cases h
    cases ys with
    | nil => rfl
    | cons y ys =>
      unfold keysOf at h2
      split at h2 <;> cases h2
  | x :: xs, ys, ks, h, h2 => by
    unfold keysOf at h
    split at h
    · rename_i k ks' e1 e2
      cases h
      cases ys with
      | nil => cases h2
      | cons y ys =>
        unfold keysOf at h2
        split at h2
        · rename_i k2 ks2 e3 e4
          cases h2
          rw [key_inj e1 e3, keys_inj e2 e4]
        · cases h2
    · cases h
end
section
variable {K : PySem.W.Frag} {π : List Addr} {H : Hp}
/-! ### flat keys -/
theorem RDk.nil : RDk K π H [] [] := by unfold RDk; rfl
theorem RDk.cons {k x : MV} {kvs : List (MV × MV)} {q : Key} {v : V} {gs : List (Key × V)} (h : flatOf k = some q) (r : RV K π H x v) (t : RDk K π H kvs gs) : RDk K π H ((k, x) :: kvs) ((q, v) :: gs) := by
  unfold RDk
  exact ⟨q, v, gs, rfl, h, r, t⟩
theorem RDk.un {k x : MV} {kvs : List (MV × MV)} {gs : List (Key × V)} (h : RDk K π H ((k, x) :: kvs) gs) : ∃ q v hs, gs = (q, v) :: hs ∧ flatOf k = some q ∧ RV K π H x v ∧ RDk K π H kvs hs := by
  unfold RDk at h
  exact h
theorem RDk.length : ∀ {kvs : List (MV × MV)} {gs : List (Key × V)}, RDk K π H kvs gs → kvs.length = gs.length
  | [], _, h => by unfold RDk at h; subst h; rfl
  | (k, x) :: kvs, _, h => by
    obtain ⟨q, v, hs, rfl, _, _, t⟩ := h.un
    simp [RDk.length t]
theorem flat_dec {x y : MV} {p q : Key} (h : flatOf x = some p) (h2 : flatOf y = some q) : decide (x = y) = decide (p = q) := by
  by_cases e : p = q
  · subst e
    rw [flat_inj h h2]
    simp
  · rw [decide_eq_false e, decide_eq_false fun z => e (by rw [z, h2] at h; cases h; rfl)]
theorem RDk.any {k : MV} {p : Key} (hk : flatOf k = some p) : ∀ {kvs : List (MV × MV)} {gs : List (Key × V)}, RDk K π H kvs gs → (kvs.any fun kv => decide (kv.1 = k)) = gs.any fun kv => decide (kv.1 = p)
  | [], _, h => by unfold RDk at h; subst h; rfl
  | (j, x) :: kvs, _, h => by
    obtain ⟨q, v, hs, rfl, e, _, t⟩ := h.un
    rw [List.any_cons, List.any_cons, RDk.any hk t, flat_dec e hk]
theorem RDk.get {k : MV} {p : Key} (hk : flatOf k = some p) : ∀ {kvs : List (MV × MV)} {gs : List (Key × V)}, RDk K π H kvs gs → (∀ x, dGet kvs k = some x → ∃ v, valV gs p = some v ∧ RV K π H x v) ∧ (dGet kvs k = none → valV gs p = none)
  | [], _, h => by
    unfold RDk at h
    subst h
    exact ⟨(fun x e => by cases e), fun _ => rfl⟩
  | (j, x) :: kvs, _, h => by
    obtain ⟨q, v, hs, rfl, e, r, t⟩ := h.un
    have ih := RDk.get hk t
    have d := flat_dec e hk
    by_cases c : q = p
    · have c2 : j = k := of_decide_eq_true (by rw [d]; exact decide_eq_true c)
      rw [dGet_pos c2, valV_pos (p := (q, v)) c]
      exact ⟨fun y ey => ⟨v, rfl, by cases ey; exact r⟩, fun ey => by cases ey⟩
    · have c2 : ¬ j = k := of_decide_eq_false (by rw [d]; exact decide_eq_false c)
      rw [dGet_neg c2, valV_neg (p := (q, v)) c]
      exact ih
theorem RDk.map {k : MV} {p : Key} {y : MV} {u : V} (hk : flatOf k = some p) (ry : RV K π H y u) : ∀ {kvs : List (MV × MV)} {gs : List (Key × V)}, RDk K π H kvs gs → RDk K π H (kvs.map fun kv => if kv.1 = k then (kv.1, y) else kv) (gs.map fun kv => if kv.1 = p then (kv.1, u) else kv)
  | [], _, h => by
    unfold RDk at h
    subst h
    exact RDk.nil
  | (j, x) :: kvs, _, h => by
    obtain ⟨q, v, hs, rfl, e, r, t⟩ := h.un
    rw [List.map_cons, List.map_cons]
    have d := flat_dec e hk
    by_cases c : q = p
    · have c2 : j = k := of_decide_eq_true (by rw [d]; exact decide_eq_true c)
      rw [if_pos c, if_pos c2]
      exact RDk.cons e ry (RDk.map hk ry t)
    · have c2 : ¬ j = k := of_decide_eq_false (by rw [d]; exact decide_eq_false c)
      rw [if_neg c, if_neg c2]
      exact RDk.cons e r (RDk.map hk ry t)
theorem RDk.snoc {k : MV} {p : Key} {y : MV} {u : V} (hk : flatOf k = some p) (ry : RV K π H y u) : ∀ {kvs : List (MV × MV)} {gs : List (Key × V)}, RDk K π H kvs gs → RDk K π H (kvs ++ [(k, y)]) (gs ++ [(p, u)])
  | [], _, h => by
    unfold RDk at h
    subst h
    exact RDk.cons hk ry RDk.nil
  | (j, x) :: kvs, _, h => by
    obtain ⟨q, v, hs, rfl, e, r, t⟩ := h.un
    exact RDk.cons e r (RDk.snoc hk ry t)
theorem RDk.put {k : MV} {p : Key} {y : MV} {u : V} (hk : flatOf k = some p) (ry : RV K π H y u) {kvs : List (MV × MV)} {gs : List (Key × V)} (h : RDk K π H kvs gs) : RDk K π H (dPut kvs k y) (putK gs p u) := by
  unfold dPut putK
  rw [RDk.any hk h]
  split
  · exact RDk.map hk ry h
  · exact RDk.snoc hk ry h
theorem RDk.del {k : MV} {p : Key} (hk : flatOf k = some p) : ∀ {kvs : List (MV × MV)} {gs : List (Key × V)}, RDk K π H kvs gs → RDk K π H (dDel kvs k) (dropK gs p)
  | [], _, h => by
    unfold RDk at h
    subst h
    exact RDk.nil
  | (j, x) :: kvs, _, h => by
    obtain ⟨q, v, hs, rfl, e, r, t⟩ := h.un
    have ih := RDk.del hk t
    unfold dDel dropK at *
    rw [List.filter_cons, List.filter_cons]
    have d := flat_dec e hk
    by_cases c : q = p
    · have c2 : j = k := of_decide_eq_true (by rw [d]; exact decide_eq_true c)
      rw [if_neg (by simp [c2]), if_neg (by simp [c])]
      exact ih
    · have c2 : ¬ j = k := of_decide_eq_false (by rw [d]; exact decide_eq_false c)
      rw [if_pos (by simp [c2]), if_pos (by simp [c])]
      exact RDk.cons e r ih

/-! ### tuples as keys -/
/-- entries and what stands in the heap -/
def NV (K : PySem.W.Frag) (π : List Addr) (H : Hp) : List (MV × MV) → List (NestedKey × Addr × Value) → Prop
  | [], xs => xs = []
  | (k, x) :: kvs, xs => ∃ q b v u ys, xs = (q, b, u) :: ys ∧ keyOf k = some q ∧ q.depth ≤ 8 ∧ RV K π H k (.ref b) ∧ RV K π H x v ∧ RelV v u ∧ NV K π H kvs ys
theorem NV.nil : NV K π H [] [] := by unfold NV; rfl
theorem NV.cons {k x : MV} {kvs : List (MV × MV)} {q : NestedKey} {b : Addr} {v : V} {u : Value} {ys : List (NestedKey × Addr × Value)} (h1 : keyOf k = some q) (h2 : q.depth ≤ 8) (h3 : RV K π H k (.ref b)) (h4 : RV K π H x v) (h5 : RelV v u) (t : NV K π H kvs ys) : NV K π H ((k, x) :: kvs) ((q, b, u) :: ys) := by
  unfold NV
  exact ⟨q, b, v, u, ys, rfl, h1, h2, h3, h4, h5, t⟩
theorem NV.un {k x : MV} {kvs : List (MV × MV)} {xs : List (NestedKey × Addr × Value)} (h : NV K π H ((k, x) :: kvs) xs) : ∃ q b v u ys, xs = (q, b, u) :: ys ∧ keyOf k = some q ∧ q.depth ≤ 8 ∧ RV K π H k (.ref b) ∧ RV K π H x v ∧ RelV v u ∧ NV K π H kvs ys := by
  unfold NV at h
  exact h
theorem NV.length : ∀ {kvs : List (MV × MV)} {xs : List (NestedKey × Addr × Value)}, NV K π H kvs xs → kvs.length = xs.length
  | [], _, h => by unfold NV at h; subst h; rfl
  | (k, x) :: kvs, _, h => by
    obtain ⟨q, b, v, u, ys, rfl, _, _, _, _, _, t⟩ := h.un
    simp [NV.length t]
abbrev RNu : (NestedKey × Addr × V) → (NestedKey × Addr × Value) → Prop := fun p q => p.1 = q.1 ∧ p.2.1 = q.2.1 ∧ RelV p.2.2 q.2.2
theorem nv_of : ∀ {kvs : List (MV × MV)} {gs : List (NestedKey × Addr × V)} {us : List (NestedKey × Addr × Value)}, RDn K π H kvs gs → Paired RNu gs us → NV K π H kvs us
  | [], _, _, h, p => by
    unfold RDn at h
    subst h
    cases p
    exact NV.nil
  | (k, x) :: kvs, _, _, h, p => by
    unfold RDn at h
    obtain ⟨q, b, v, hs, rfl, h1, h2, h3, h4, t⟩ := h
    cases p with
    | cons r p =>
      rename_i u us
      obtain ⟨q', b', u'⟩ := u
      obtain ⟨e1, e2, e3⟩ := r
      cases e1
      cases e2
      exact NV.cons h1 h2 h3 h4 e3 (nv_of t p)
theorem nv_split : ∀ {kvs : List (MV × MV)} {us : List (NestedKey × Addr × Value)}, NV K π H kvs us → ∃ gs, RDn K π H kvs gs ∧ Paired RNu gs us
  | [], _, h => by
    unfold NV at h
    subst h
    exact ⟨[], by unfold RDn; rfl, .nil⟩
  | (k, x) :: kvs, _, h => by
    obtain ⟨q, b, v, u, ys, rfl, h1, h2, h3, h4, h5, t⟩ := h.un
    obtain ⟨gs, r, p⟩ := nv_split t
    exact ⟨(q, b, v) :: gs, by unfold RDn; exact ⟨q, b, v, gs, rfl, h1, h2, h3, h4, r⟩, .cons ⟨rfl, rfl, h5⟩ p⟩
theorem key_dec {x y : MV} {p q : NestedKey} (h : keyOf x = some p) (h2 : keyOf y = some q) : decide (x = y) = decide (p = q) := by
  by_cases e : p = q
  · subst e
    rw [key_inj h h2]
    simp
  · rw [decide_eq_false e, decide_eq_false fun z => e (by rw [z, h2] at h; cases h; rfl)]
theorem NV.get {k : MV} {p : NestedKey} (hk : keyOf k = some p) : ∀ {kvs : List (MV × MV)} {xs : List (NestedKey × Addr × Value)}, NV K π H kvs xs →
    (∀ x, dGet kvs k = some x → ∃ e v, atKey xs p = some e ∧ RV K π H x v ∧ RelV v e.2) ∧ (dGet kvs k = none → atKey xs p = none)
  | [], _, h => by
    unfold NV at h
    subst h
    exact ⟨(fun x e => by cases e), fun _ => rfl⟩
  | (j, x) :: kvs, _, h => by
    obtain ⟨q, b, v, u, ys, rfl, e, h2, h3, h4, h5, t⟩ := h.un
    have ih := NV.get hk t
    have d := key_dec e hk
    by_cases c : q = p
    · have c2 : j = k := of_decide_eq_true (by rw [d]; exact decide_eq_true c)
      rw [dGet_pos c2, atKey_pos c]
      exact ⟨fun y ey => ⟨_, v, rfl, by cases ey; exact h4, h5⟩, fun ey => by cases ey⟩
    · have c2 : ¬ j = k := of_decide_eq_false (by rw [d]; exact decide_eq_false c)
      rw [dGet_neg c2, atKey_neg c]
      exact ih
theorem dGet_any (kvs : List (MV × MV)) (k : MV) : (kvs.any fun kv => decide (kv.1 = k)) = (dGet kvs k).isSome := by
  unfold dGet
  induction kvs with
  | nil => rfl
  | cons p kvs ih =>
    rw [List.any_cons, List.find?_cons, ih]
    cases decide (p.1 = k) <;> simp
theorem NV.any {k : MV} {p : NestedKey} (hk : keyOf k = some p) {kvs : List (MV × MV)} {xs : List (NestedKey × Addr × Value)} (h : NV K π H kvs xs) : (kvs.any fun kv => decide (kv.1 = k)) = (atKey xs p).isSome := by
  rw [dGet_any]
  have g := h.get hk
  cases e : dGet kvs k with
  | none => rw [g.2 e]; rfl
  | some x =>
    obtain ⟨e', v, h1, _⟩ := g.1 x e
    rw [h1]
    rfl
theorem NV.map {k : MV} {p : NestedKey} {y : MV} {v : V} {u : Value} (hk : keyOf k = some p) (ry : RV K π H y v) (ru : RelV v u) : ∀ {kvs : List (MV × MV)} {xs : List (NestedKey × Addr × Value)}, NV K π H kvs xs →
    NV K π H (kvs.map fun kv => if kv.1 = k then (kv.1, y) else kv) (xs.map (putAt p u))
  | [], _, h => by
    unfold NV at h
    subst h
    exact NV.nil
  | (j, x) :: kvs, _, h => by
    obtain ⟨q, b, v, u', ys, rfl, e, h2, h3, h4, h5, t⟩ := h.un
    rw [List.map_cons, List.map_cons]
    have d := key_dec e hk
    unfold putAt
    by_cases c : q = p
    · have c2 : j = k := of_decide_eq_true (by rw [d]; exact decide_eq_true c)
      rw [if_pos c, if_pos c2]
      exact NV.cons e h2 h3 ry ru (NV.map hk ry ru t)
    · have c2 : ¬ j = k := of_decide_eq_false (by rw [d]; exact decide_eq_false c)
      rw [if_neg c, if_neg c2]
      exact NV.cons e h2 h3 h4 h5 (NV.map hk ry ru t)
theorem NV.append : ∀ {kvs ls : List (MV × MV)} {xs ys : List (NestedKey × Addr × Value)}, NV K π H kvs xs → NV K π H ls ys → NV K π H (kvs ++ ls) (xs ++ ys)
  | [], _, _, _, h, g => by
    unfold NV at h
    subst h
    exact g
  | (j, x) :: kvs, _, _, _, h, g => by
    obtain ⟨q, b, v, u', ys, rfl, e, h2, h3, h4, h5, t⟩ := h.un
    exact NV.cons e h2 h3 h4 h5 (NV.append t g)
theorem NV.put {k : MV} {p : NestedKey} {y : MV} {b : Addr} {v : V} {u : Value} (hk : keyOf k = some p) (hd : p.depth ≤ 8) (rk : RV K π H k (.ref b)) (ry : RV K π H y v) (ru : RelV v u) {kvs : List (MV × MV)} {xs : List (NestedKey × Addr × Value)} (h : NV K π H kvs xs) :
    NV K π H (dPut kvs k y) (storedH xs p b u) := by
  unfold dPut storedH
  rw [h.any hk]
  split
  · exact NV.map hk ry ru h
  · exact h.append (NV.cons hk hd rk ry ru NV.nil)
theorem NV.del {k : MV} {p : NestedKey} (hk : keyOf k = some p) : ∀ {kvs : List (MV × MV)} {xs : List (NestedKey × Addr × Value)}, NV K π H kvs xs → NV K π H (dDel kvs k) (withoutH xs p)
  | [], _, h => by
    unfold NV at h
    subst h
    exact NV.nil
  | (j, x) :: kvs, _, h => by
    obtain ⟨q, b, v, u', ys, rfl, e, h2, h3, h4, h5, t⟩ := h.un
    have ih := NV.del hk t
    unfold dDel withoutH at *
    rw [List.filter_cons, List.filter_cons]
    have d := key_dec e hk
    by_cases c : q = p
    · have c2 : j = k := of_decide_eq_true (by rw [d]; exact decide_eq_true c)
      rw [if_neg (by simp [c2]), if_neg (by simp [c])]
      exact ih
    · have c2 : ¬ j = k := of_decide_eq_false (by rw [d]; exact decide_eq_false c)
      rw [if_pos (by simp [c2]), if_pos (by simp [c])]
      exact NV.cons e h2 h3 h4 h5 ih
end

/-! ### what stands at a dict's place -/
def DO (P : Program) (w : World) (K : PySem.W.Frag) (π : List Addr) (H : Hp) (a : Addr) (kvs : List (MV × MV)) (o : HO) : Prop :=
  (∃ gs, o = .dK gs ∧ RDk K π H kvs gs) ∨ (∃ gs, kvs ≠ [] ∧ o = dN P w a gs ∧ RDn K π H kvs gs)
section
variable {P : Program} {w : World} {K : PySem.W.Frag} {mg : Str → Option Value} {π π' : List Addr} {H H' : Hp} {a : Addr} {kvs : List (MV × MV)} {o : HO}
theorem RO.dct (h : RO P w K mg π H a (.dct kvs)) : ∃ o, H a = Option.some o ∧ DO P w K π H a kvs o := by
  rcases h with ⟨gs, h1, h2⟩ | ⟨gs, h0, h1, h2⟩
  · exact ⟨_, h1, .inl ⟨gs, rfl, h2⟩⟩
  · exact ⟨_, h1, .inr ⟨gs, h0, rfl, h2⟩⟩
theorem DO.ro (d : DO P w K π H a kvs o) (h : H a = Option.some o) : RO P w K mg π H a (.dct kvs) := by
  rcases d with ⟨gs, rfl, r⟩ | ⟨gs, h0, rfl, r⟩
  · exact .inl ⟨gs, h, r⟩
  · exact .inr ⟨gs, h0, h, r⟩
theorem DO.ext (e : Ext π H π' H') (d : DO P w K π H a kvs o) : DO P w K π' H' a kvs o := by
  rcases d with ⟨gs, rfl, r⟩ | ⟨gs, h0, rfl, r⟩
  · exact .inl ⟨gs, rfl, r.ext e⟩
  · exact .inr ⟨gs, h0, rfl, r.ext e⟩
theorem DO.notup (d : DO P w K π H a kvs o) : ∀ vs, o ≠ .tup vs := by
  rcases d with ⟨gs, rfl, r⟩ | ⟨gs, h0, rfl, r⟩ <;> intro vs z <;> cases z
end
section
variable {X : Cx} {W : WX} {pins : List (Addr × Obj)} {σ : St} {H : Hp} {s : Shared} {π : List Addr} {a : Addr} {kvs : List (MV × MV)} {o : HO}
mutual
theorem nested_is (I : Inv X pins σ H s) : ∀ {x : MV} {q : NestedKey} {v : V} {u : Value}, keyOf x = some q → RV X.K π H x v → RelV v u → NestedIs s.heap q u
  | .non, q, v, u, h, r, ru => by
    cases h
    rw [RV_non] at r
    subst r
    cases ru
    exact .none
  | .int i, q, v, u, h, r, ru => by
    cases h
    rw [RV_int] at r
    subst r
    obtain ⟨t, rfl⟩ := ru
    exact .int i t
  | .str i, q, v, u, h, r, ru => by
    cases h
    rw [RV_str] at r
    subst r
    obtain ⟨t, rfl⟩ := ru
    exact .text i t
  | .bl _, _, _, _, h, _, _ => by cases h
  | .ref _, _, _, _, h, _, _ => by cases h
  | .tup xs, q, v, u, h, r, ru => by
    unfold keyOf at h
    obtain ⟨ks, e1, rfl⟩ := Option.map_eq_some_iff.mp h
    obtain ⟨b, vs, rfl, g1, g2⟩ := tup_sq r
    cases ru
    obtain ⟨its, rv, ⟨ob, h1, h2, n, h3⟩, _⟩ := I.tuple g1
    exact .tup h1 h2 h3 (by simpa using nested_all I e1 g2 rv)
theorem nested_all (I : Inv X pins σ H s) : ∀ {xs : List MV} {ks : List NestedKey} {vs : List V} {us : List Value}, keysOf xs = some ks → RVs X.K π H xs vs → Vals vs us → NestedAll s.heap ks us
  | [], ks, vs, us, h, r, ru => by
    unfold keysOf at h
    cases h
    rw [r.unnil] at ru
    cases ru
    exact .nil
  | x :: xs, ks, vs, us, h, r, ru => by
    unfold keysOf at h
    split at h
    · rename_i k ks' e1 e2
      cases h
      obtain ⟨v, ws, rfl, r1, r2⟩ := r.uncons
      cases ru with
      | cons u1 u2 => exact .cons (nested_is I e1 r1 u1) (nested_all I e2 r2 u2)
    · cases h
end
/-- a dict with flat keys -/
theorem fview (I : Inv X pins σ H s) (d : DO X.prog X.w X.K π H a kvs o) (hk : kvs.all (fun p => okF p.1) = true) : ∃ gs, o = .dK gs ∧ RDk X.K π H kvs gs := by
  rcases d with h | ⟨gs, h0, rfl, r⟩
  · exact h
  · exfalso
    cases kvs with
    | nil => exact h0 rfl
    | cons p kvs =>
      obtain ⟨k, x⟩ := p
      unfold RDn at r
      obtain ⟨q, b, v, hs, rfl, h1, h2, h3, h4, h5⟩ := r
      have f : okF k = true := by
        have := List.all_eq_true.mp hk (k, x) List.mem_cons_self
        exact this
      cases k with
      | int i => rw [RV_int] at h3; cases h3
      | str i => rw [RV_str] at h3; cases h3
      | _ => cases f
/-- a dict with tuples as keys -/
theorem nview (I : Inv X pins σ H s) (ha : H a = some o) (d : DO X.prog X.w X.K π H a kvs o) (hk : kvs.all (fun p => isTup p.1) = true) : (a == sysModules) = false ∧ kvs.length ≤ sizeLine ∧ ∃ xs, NV X.K π H kvs xs ∧ s.heap.DictOfH (nestedKind X.prog X.w) a xs := by
  rcases d with ⟨gs, rfl, r⟩ | ⟨gs, h0, rfl, r⟩
  · cases kvs with
    | nil =>
      unfold RDk at r
      subst r
      obtain ⟨z, hd, vs, rel, ob, es, ep, h1, h2, h3, _, h5, h6⟩ := dk_of I.hok ha
      cases rel
      refine ⟨hd, Nat.zero_le _, [], NV.nil, ob, es, ep, h1, h2, h3, ?_, (fun _ hx => nomatch hx), List.nodup_nil⟩
      cases he : es.toList with
      | nil => rfl
      | cons e es' => rw [he] at h5; cases h5
    | cons p kvs =>
      exfalso
      obtain ⟨k, x⟩ := p
      obtain ⟨q, v, hs, rfl, e, _, _⟩ := r.un
      have f : isTup k = true := by
        have := List.all_eq_true.mp hk (k, x) List.mem_cons_self
        exact this
      cases k with
      | tup _ => cases e
      | _ => cases f
  · obtain ⟨⟨hd, z, us, pr, ob, es, ep, h1, h2, h3, h4, h5⟩, _⟩ := (show ObjOk X.prog X.w H s.heap a (dN X.prog X.w a gs) from I.hok a _ ha)
    have nv := nv_of r pr
    have len : gs.length = us.length := Paired.length pr
    refine ⟨hd, by rw [nv.length, ← len]; exact z, us, nv, ob, es, ep, h1, h2, h3, h4, ?_, h5⟩
    have all : ∀ {kvs : List (MV × MV)} {xs : List (NestedKey × Addr × Value)}, NV X.K π H kvs xs → ∀ x ∈ xs, (nestedKind X.prog X.w).is s.heap x.1 x.2.1 := by
      intro kvs
      induction kvs with
      | nil =>
        intro xs h x hx
        unfold NV at h
        subst h
        cases hx
      | cons p kvs ih =>
        intro xs h x hx
        obtain ⟨k, y⟩ := p
        obtain ⟨q, b, v, u', ys, rfl, e, h2, h3, h4, h5, t⟩ := h.un
        rcases List.mem_cons.mp hx with rfl | hx
        · exact ⟨nested_is I e h3 rfl, h2⟩
        · exact ih t x hx
    exact all nv
theorem d_is (I : Inv X pins σ H s) (ha : H a = some o) (d : DO X.prog X.w X.K π H a kvs o) : (a == sysModules) = false ∧ s.TypeIs (.ref a) "dict" ∧ kvs.length ≤ sizeLine ∧ ∀ b, Value.ref a = .ref b → ∃ ob, s.heap.get? b = some ob ∧ ob.dict = none := by
  rcases d with ⟨gs, rfl, r⟩ | ⟨gs, h0, rfl, r⟩
  · obtain ⟨z, hd, vs, rel, dd⟩ := dk_of I.hok ha
    refine ⟨hd, dd.typeIs, by rw [r.length]; exact z, fun b q => ?_⟩
    cases q
    obtain ⟨ob, _, _, h1, h2, _⟩ := dd
    exact ⟨ob, h1, h2.2.1⟩
  · obtain ⟨⟨hd, z, us, pr, ob, es, ep, h1, h2, h3, h4, h5⟩, _⟩ := (show ObjOk X.prog X.w H s.heap a (dN X.prog X.w a gs) from I.hok a _ ha)
    refine ⟨hd, ⟨ob, h1, h2.1⟩, ?_, fun b q => ?_⟩
    · rw [(nv_of r pr).length, ← Paired.length pr]
      exact z
    · cases q
      exact ⟨ob, h1, h2.2.1⟩
/-- a tuple as key -/
theorem nkey (I : Inv X pins σ H s) {k : MV} {y : V} {u : Value} (hk : okN k = true) (r : RV X.K π H k y) (ru : RelV y u) : ∃ q b, keyOf k = some q ∧ q.depth ≤ 8 ∧ y = .ref b ∧ u = .ref b ∧ (nestedKind X.prog X.w).is s.heap q b := by
  unfold okN at hk
  rw [Bool.and_eq_true] at hk
  obtain ⟨h1, h2⟩ := hk
  cases k with
  | tup xs =>
    cases e : keyOf (.tup xs) with
    | none => rw [e] at h2; cases h2
    | some q =>
      rw [e] at h2
      have hd : q.depth ≤ 8 := of_decide_eq_true h2
      have n := nested_is I e r ru
      obtain ⟨b, vs, rfl, _, _⟩ := tup_sq r
      cases ru
      exact ⟨q, b, rfl, hd, rfl, rfl, n, hd⟩
  | _ => cases h1
/-- the dict is written: its new description -/
theorem nwrite (I : Inv X pins σ H s) (ha : H a = some o) (d : DO X.prog X.w X.K π H a kvs o) {kvs' : List (MV × MV)} {xs' : List (NestedKey × Addr × Value)} {h' : Heap} {t' : Nat} (hd : (a == sysModules) = false) (hl : kvs'.length ≤ sizeLine) (h0 : kvs' ≠ []) (nv : NV X.K π H kvs' xs') (dd : h'.DictOfH (nestedKind X.prog X.w) a xs') (hs : Heap.SameBut a s.heap h') :
    ∃ o', DO X.prog X.w X.K π H a kvs' o' ∧ Inv X pins σ (upd H a o') { s with heap := h', toks := t' } := by
  obtain ⟨gs, r, pr⟩ := nv_split nv
  obtain ⟨ob, es, ep, h1, h2, h3, h4, _, h5⟩ := dd
  refine ⟨dN X.prog X.w a gs, .inr ⟨gs, h0, rfl, r⟩, d_write I ?_ hs ⟨ob, h1⟩ ?_⟩
  · rcases d with ⟨gs, rfl, r⟩ | ⟨gs, h0, rfl, r⟩ <;> rw [ha] <;> exact True.intro
  · refine ⟨⟨hd, ?_, xs', pr, ob, es, ep, h1, h2, h3, h4, h5⟩, ⟨ob, h1⟩, ?_⟩
    · rw [Paired.length pr, ← nv.length]
      exact hl
    · rintro g1 g2 ⟨q1, q2, us, q3, ob', es', ep', q4, q5⟩ k
      exact ⟨q1, q2, us, q3, ob', es', ep', k _ q4, q5⟩
end
end FL

namespace FL
open PySem PySem.Spec PyProof.Rows L2
theorem hu100 {A : Around} {k : Nat} (hr : Room k A) : A.units + 100 < cLine := by have := hr.un; omega
/-! ### the one reading of an operation -/
def rG (X : Cx) (W : WX) (g : G2) : R2 := fun u v H Q => ∃ σ π M x y, RV X.K π H x u ∧ RV X.K π H y v ∧ RM X.prog X.w X.K X.mg π H M ∧ PostR X W (RV X.K) σ π H (g x y M) Q
def rGM (X : Cx) (W : WX) (g : MV → List MV → MH → Res MV) : V → List V → Hp → VK → Prop := fun u vs H Q => ∃ σ π M x xs, RV X.K π H x u ∧ RVs X.K π H xs vs ∧ RM X.prog X.w X.K X.mg π H M ∧ PostR X W (RV X.K) σ π H (g x xs M) Q
section
variable {X : Cx} {W : WX} {σ : St} {π π1 : List Addr} {H H1 : Hp} {ρ : Rho} {M : MH}
theorem o_g {g : G2} : Op2 X W (rG X W g) g := fun σ H Q π M x y u v ru rv hm hp => ⟨σ, π, M, x, y, ru, rv, hm, hp⟩
/-- {} -/
def fDct : FE := fun _ M => .ok (.ref M.length) (M ++ [.dct []])
theorem fx_dct {pos : Pos} : FX X W (.Dict [] [] pos) fDct := ⟨_, pe_dnewK, by
  intro σ H Q π ρ M hs hm hp p hn
  have e2 : Ext π H (π ++ [p]) (upd H p (.dK [])) := Ext.push hn
  refine hp _ _ _ e2 ?_ (hm.push hn (.inl ⟨[], upd_same, RDk.nil⟩))
  unfold RV
  exact ⟨p, rfl, by rw [← hm.len]; simp⟩⟩
/-- a dict's description where it stands -/
theorem dct_at {n : Nat} {kvs : List (MV × MV)} {u : V} (hm : RM X.prog X.w X.K X.mg π H M) (e : M[n]? = some (.dct kvs)) (r : RV X.K π H (.ref n) u) : ∃ a o, u = .ref a ∧ π[n]? = some a ∧ H a = some o ∧ DO X.prog X.w X.K π H a kvs o := by
  unfold RV at r
  obtain ⟨a, rfl, ha⟩ := r
  obtain ⟨o, h1, h2⟩ := (hm.at_ ha e).dct
  exact ⟨a, o, rfl, ha, h1, h2⟩
/-! ### x in d, x in a list, a tuple, a text -/
def inL (M : MH) (x : MV) (ys : List MV) : Option Bool := match toD 66 M x, allD (toD 65 M) ys with
  | some d, some ds => if (SeqAt.shaped d && SeqAt.shaped (.list ds)) = true then some (ds.any fun z => PyData.eqv z d) else none
  | _, _ => none
def inM (M : MH) (x y : MV) : Option Bool := match y with
  | .ref n => match M[n]? with
    | some (.dct kvs) => if modeOk kvs x = true then some (dGet kvs x).isSome else none
    | _ => match lstOf M (.ref n) with
      | some ys => inL M x ys
      | none => none
  | .tup ys => inL M x ys
  | .str j => match x with
    | .str ⟨⟨[c]⟩⟩ => some (decide (c ∈ j.cps.toList))
    | _ => none
  | _ => none
def gIn : G2 := fun x y M => match inM M x y with
  | some b => .ok (.bl b) M
  | none => .stuck
def gNotIn : G2 := fun x y M => match inM M x y with
  | some b => .ok (.bl (!b)) M
  | none => .stuck
theorem allD_dp (hm : RM X.prog X.w X.K X.mg π H M) {n : Nat} : ∀ (xs : List MV) (ds : List PyData) (vs : List V), allD (toD n M) xs = some ds → RVs X.K π H xs vs → DpAll X.K H vs ds
  | [], ds, vs, e, r => by
    cases e
    rw [r.unnil]
    exact .nil
  | x :: xs, ds, vs, e, r => by
    obtain ⟨v, ws, rfl, r1, r2⟩ := r.uncons
    unfold allD at e
    split at e
    · rename_i d ds e1 e2
      cases e
      exact .cons (toD_dp hm n x d v e1 r1) (allD_dp hm xs ds ws e2 r2)
    · cases e
/-- the answer of in, at the heap -/
def InAns (X : Cx) (b : Bool) (x y : V) (H : Hp) : Prop := ∀ (pins : List (Addr × Obj)) (s : Shared) (σ : St) (v u : Value), Inv X pins σ H s → RelV x v → RelV y u →
  (∀ Q : Value → Shared → Prop, (∀ t, Q (.bool b) { s with toks := t }) → wpAny (model X.prog X.w) X.A (compareOp .In v u) Q X.xe s) ∧
  (∀ Q : Value → Shared → Prop, (∀ t, Q (.bool (!b)) { s with toks := t }) → wpAny (model X.prog X.w) X.A (compareOp .NotIn v u) Q X.xe s)
theorem in_dct (hu : X.A.units + 100 < cLine) {a : Addr} {kvs : List (MV × MV)} {k : MV} {o : HO} {y : V} (ha : H a = some o) (d : DO X.prog X.w X.K π H a kvs o) (hk : modeOk kvs k = true) (r : RV X.K π H k y) : InAns X (dGet kvs k).isSome y (.ref a) H := by
  intro pins s σ v u I rx ry
  cases ry
  unfold modeOk at hk
  rw [Bool.or_eq_true] at hk
  rcases hk with hk | hk
  · unfold mF at hk
    rw [Bool.and_eq_true] at hk
    obtain ⟨gs, rfl, rg⟩ := fview I d hk.2
    obtain ⟨z, hd, vs, rel, dd⟩ := dk_of I.hok ha
    obtain ⟨p, hp⟩ := Option.isSome_iff_exists.mp hk.1
    have ky : y = kV p := by
      cases k with
      | int i => cases hp; rw [RV_int] at r; exact r
      | str i => cases hp; rw [RV_str] at r; exact r
      | _ => cases hp
    subst ky
    have e : (dGet kvs k).isSome = (valueAt vs p).isSome := by
      rw [← dGet_any, rg.any hp, rel.any, ← show (vs.any fun kv => decide (kv.1 = p)) = (valueAt vs p).isSome from ?_]
      have := (rel.val p).isSome_eq
      rw [← this, ← valV_any, rel.any]
    rw [e]
    exact ⟨fun Q h => wpAny_in_of (kV_is rx) hd dd.mapOf (h _), fun Q h => wpAny_notIn_of (kV_is rx) hd dd.mapOf (h _)⟩
  · unfold mN at hk
    rw [Bool.and_eq_true] at hk
    obtain ⟨hd, z, xs, nv, dd⟩ := nview I ha d hk.2
    obtain ⟨q, b, e1, e2, rfl, rfl, ki⟩ := nkey I hk.1 r rx
    have e : (dGet kvs k).isSome = (atKey xs q).isSome := by rw [← dGet_any, nv.any e1]
    rw [e]
    have hr : (nestedKind X.prog X.w).room X.A.in1 := by
      show X.A.units + 1 + 8 < cLine
      omega
    refine ⟨fun Q h => wpAny_in_heap hr ki hd dd (h _), fun Q h => ?_⟩
    show wpAny _ _ (do return .bool (!(← contains (.ref a) (.ref b)))) Q _ s
    exact wpAny_bind (wpAny_contains_heap hr ki hd dd (wpAny_pure (h _)))
theorem in_lst (hu : X.A.units + 100 < cLine) {x : MV} {ys : List MV} {b : Bool} {p : Addr} {vs : List V} {y : V} (hm : RM X.prog X.w X.K X.mg π H M) (e : inL M x ys = some b) (rx : RV X.K π H x y) (rs : RVs X.K π H ys vs) (hq : SqL X.K H p vs ∨ SqT X.K H p vs) : InAns X b y (.ref p) H := by
  intro pins s σ v u I ru ry
  cases ry
  unfold inL at e
  split at e
  · rename_i d ds e1 e2
    split at e
    · rename_i hz
      cases e
      rw [Bool.and_eq_true] at hz
      have hd := toD_dp hm 66 x d y e1 rx
      have ha := allD_dp hm ys ds vs e2 rs
      obtain ⟨as, r1⟩ := Dp.reads I d y v hd ru
      have hu2 : X.A.units + 65 < cLine := by omega
      rcases hq with hq | hq
      · obtain ⟨bs, r2⟩ := Dp.reads I (.list ds) (.ref p) (.ref p) (.lst hq ha) rfl
        exact ⟨fun Q h => SeqAt.in_list_reads r2 r1 (SeqAt.canLay_of_shaped hz.2) (SeqAt.canLay_of_shaped hz.1) (room_in_shaped hz.1 hu2) (h s.toks),
          fun Q h => SeqAt.notIn_list_reads r2 r1 (SeqAt.canLay_of_shaped hz.2) (SeqAt.canLay_of_shaped hz.1) (room_in_shaped hz.1 hu2) (h s.toks)⟩
      · obtain ⟨bs, r2⟩ := Dp.reads I (.tuple ds) (.ref p) (.ref p) (.tup hq ha) rfl
        exact ⟨fun Q h => SeqAt.in_tuple_reads r2 r1 (SeqAt.canLay_of_shaped hz.2) (SeqAt.canLay_of_shaped hz.1) (room_in_shaped hz.1 hu2) (h s.toks),
          fun Q h => SeqAt.notIn_tuple_reads r2 r1 (SeqAt.canLay_of_shaped hz.2) (SeqAt.canLay_of_shaped hz.1) (room_in_shaped hz.1 hu2) (h s.toks)⟩
    · cases e
  · cases e
theorem in_ans (hu : X.A.units + 100 < cLine) {x y : MV} {b : Bool} {u v : V} (hm : RM X.prog X.w X.K X.mg π H M) (e : inM M x y = some b) (ru : RV X.K π H x u) (rv : RV X.K π H y v) : InAns X b u v H := by
  unfold inM at e
  split at e
  · rename_i n
    split at e
    · rename_i kvs en
      split at e
      · rename_i hk
        cases e
        obtain ⟨a, o, rfl, _, ha, d⟩ := dct_at hm en rv
        exact in_dct hu ha d hk ru
      · cases e
    · split at e
      · rename_i ys e0
        obtain ⟨a, vs, rfl, h1, h2⟩ := lstOf_sq e0 hm rv
        exact in_lst hu hm e ru h2 (.inl h1)
      · cases e
  · obtain ⟨a, vs, rfl, h1, h2⟩ := tup_sq rv
    exact in_lst hu hm e ru h2 (.inr h1)
  · rename_i j
    split at e
    · rename_i c
      cases e
      rw [RV_str] at ru rv
      subst ru rv
      intro pins s σ v u I rx ry
      obtain ⟨t, rfl⟩ := rx
      obtain ⟨t', rfl⟩ := ry
      have f := PySem.StrLaws.found_one j c
      constructor
      · intro Q h
        refine PyProof.Rows.in_str ?_
        rw [f]
        exact h s.toks
      · intro Q h
        refine PyProof.Rows.notIn_str ?_
        rw [f]
        exact h s.toks
    · cases e
  · cases e
theorem op_inA (hu : X.A.units + 100 < cLine) : OpR X (compareOp .In) (rG X W gIn) := by
  intro pins s σ H x y v u Q I rx ry h
  obtain ⟨σ0, π, M, mx, my, rmx, rmy, hm, hp⟩ := h
  unfold gIn at hp
  cases e : inM M mx my with
  | none =>
    rw [e] at hp
    exact hp.elim
  | some b =>
    rw [e] at hp
    exact (in_ans hu hm e rmx rmy pins s σ v u I rx ry).1 _ fun t => ⟨.bl b, H, I.tok t, rfl, hp.ok (rvb _ _ _) hm⟩
theorem op_notInA (hu : X.A.units + 100 < cLine) : OpR X (compareOp .NotIn) (rG X W gNotIn) := by
  intro pins s σ H x y v u Q I rx ry h
  obtain ⟨σ0, π, M, mx, my, rmx, rmy, hm, hp⟩ := h
  unfold gNotIn at hp
  cases e : inM M mx my with
  | none =>
    rw [e] at hp
    exact hp.elim
  | some b =>
    rw [e] at hp
    exact (in_ans hu hm e rmx rmy pins s σ v u I rx ry).2 _ fun t => ⟨.bl (!b), H, I.tok t, rfl, hp.ok (rvb _ _ _) hm⟩
/-! ### d[k], xs[i] -/
def gIxA : G2 := fun x y M => match x with
  | .ref n => match M[n]? with
    | some (.dct kvs) => if modeOk kvs y = true then (match dGet kvs y with
      | some v => .ok v M
      | none => .stuck) else .stuck
    | _ => gIx x y M
  | _ => gIx x y M
theorem ix_dct (hu : X.A.units + 100 < cLine) {a : Addr} {kvs : List (MV × MV)} {k x : MV} {o : HO} {y : V} (hm : RM X.prog X.w X.K X.mg π H M) (ha : H a = some o) (d : DO X.prog X.w X.K π H a kvs o) (hk : modeOk kvs k = true) (r : RV X.K π H k y) (hg : dGet kvs k = some x) :
    ∀ (pins : List (Addr × Obj)) (s : Shared) (σ : St) (u : Value) (Q : Value → Shared → Prop), Inv X pins σ H s → RelV y u → (∀ t v w, RV X.K π H x v → RelV v w → Q w { s with toks := t }) → s.TypeIs (.ref a) "dict" ∧ wpAny (model X.prog X.w) X.A (getItem (.ref a) u) Q X.xe s := by
  intro pins s σ u Q I ru h
  refine ⟨(d_is I ha d).2.1, ?_⟩
  unfold modeOk at hk
  rw [Bool.or_eq_true] at hk
  rcases hk with hk | hk
  · unfold mF at hk
    rw [Bool.and_eq_true] at hk
    obtain ⟨gs, rfl, rg⟩ := fview I d hk.2
    obtain ⟨z, hd, vs, rel, dd⟩ := dk_of I.hok ha
    obtain ⟨p, hp⟩ := Option.isSome_iff_exists.mp hk.1
    have ky : y = kV p := by
      cases k with
      | int i => cases hp; rw [RV_int] at r; exact r
      | str i => cases hp; rw [RV_str] at r; exact r
      | _ => cases hp
    subst ky
    obtain ⟨v, hv, rv⟩ := (rg.get hp).1 x hg
    obtain ⟨w', hw, rw'⟩ := RelO.some_of (v := v) (o := valueAt vs p) (by rw [← hv]; exact rel.val p)
    exact wpAny_getItem_of (kV_is ru) dd.mapOf hw (h _ v w' rv rw')
  · unfold mN at hk
    rw [Bool.and_eq_true] at hk
    obtain ⟨hd, z, xs, nv, dd⟩ := nview I ha d hk.2
    obtain ⟨q, b, e1, e2, rfl, rfl, ki⟩ := nkey I hk.1 r ru
    obtain ⟨e, v, h1, h2, h3⟩ := (nv.get e1).1 x hg
    have hr : (nestedKind X.prog X.w).room X.A.in1 := by
      show X.A.units + 1 + 8 < cLine
      omega
    exact wpAny_getItem_heap hr ki dd h1 (h _ v e.2 h2 h3)
theorem ix_all (hu : X.A.units + 100 < cLine) : IxR X (rG X W gIxA) := by
  intro value slice pins s σ H x y v u Q I rx ry h hs
  obtain ⟨σ0, π, M, mx, my, rmx, rmy, hm, hp⟩ := h
  have seq : PostR X W (RV X.K) σ0 π H (gIx mx my M) Q → wpAny (model X.prog X.w) X.A (subscriptTail value slice v u) (EP X pins σ Q) X.xe s :=
    fun hp => ix_seq value slice pins s σ H x y v u Q I rx ry (o_ix σ0 H Q π M mx my x y rmx rmy hm hp) hs
  unfold gIxA at hp
  split at hp
  · rename_i n
    split at hp
    · rename_i kvs en
      split at hp
      · rename_i hk
        split at hp
        · rename_i z hg
          obtain ⟨a, o, rfl, _, ha, d⟩ := dct_at hm en rmx
          cases rx
          have g := ix_dct hu hm ha d hk rmy hg pins s σ u (EP X pins σ Q) I ry fun t v' w' rv rw' => ⟨v', H, I.tok t, rw', hp.ok rv hm⟩
          exact tail_any g.1 PySem.F.slot_dict_getitem.lookup g.2 hs
        · exact hp.elim
      · exact hp.elim
    · exact seq hp
  · exact seq hp
theorem fx_ixA {a b : Expr} {fa fb : FE} {pos : Pos} (hu : X.A.units + 100 < cLine) (ha : FX X W a fa) (hb : FX X W b fb) (hs : PlainIx b) : FX X W (.Subscript a b pos) (fOp gIxA fa fb) := by
  obtain ⟨t1, p1, r1⟩ := ha.to
  obtain ⟨t2, p2, r2⟩ := hb.to
  exact ⟨_, pe_ix (ix_all hu) p1 p2 hs, rf_op o_g r1 r2⟩
/-! ### d[k] = v, xs[i] = v -/
def putM (M : MH) (o k x : MV) : Option MH := match o with
  | .ref n => match M[n]? with
    | some (.dct kvs) => if (modeOk kvs k && small (kvs.length + 1)) = true then some (M.set n (.dct (dPut kvs k x))) else none
    | some (.lst xs) => match k with
      | .int i => match ixN xs.length i with
        | some j => some (M.set n (.lst (xs.set j x)))
        | none => none
      | _ => none
    | _ => none
  | _ => none
theorem dPut_length (kvs : List (MV × MV)) (k x : MV) : (dPut kvs k x).length ≤ kvs.length + 1 := by
  unfold dPut
  split
  · rw [List.length_map]; omega
  · simp
theorem dPut_ne (kvs : List (MV × MV)) (k x : MV) : dPut kvs k x ≠ [] := by
  unfold dPut
  split
  · rename_i h
    intro e
    rw [List.map_eq_nil_iff] at e
    subst e
    cases h
  · simp
/-- a dict is written: what stands behind it -/
theorem dct_write {n : Nat} {a : Addr} {kvs kvs' : List (MV × MV)} {o o' : HO} (hm : RM X.prog X.w X.K X.mg π H M) (en : M[n]? = some (.dct kvs)) (hn : π[n]? = some a) (ha : H a = some o) (d : DO X.prog X.w X.K π H a kvs o) (d' : DO X.prog X.w X.K π H a kvs' o') :
    Ext π H π (upd H a o') ∧ RM X.prog X.w X.K X.mg π (upd H a o') (M.set n (.dct kvs')) := by
  have e : Ext π H π (upd H a o') := Ext.write ha d.notup
  exact ⟨e, hm.write hn en rfl rfl ((d'.ext e).ro upd_same)⟩
theorem put_dct (hu : X.A.units + 100 < cLine) {a : Addr} {kvs : List (MV × MV)} {k x : MV} {o : HO} {y z : V} (ha : H a = some o) (d : DO X.prog X.w X.K π H a kvs o) (hk : modeOk kvs k = true) (hz : kvs.length + 1 ≤ sizeLine) (r : RV X.K π H k y) (rz : RV X.K π H x z) :
    ∀ (pins : List (Addr × Obj)) (s : Shared) (σ : St) (u w : Value) (Q : Unit → Shared → Prop), Inv X pins σ H s → RelV y u → RelV z w → (∀ o' s', DO X.prog X.w X.K π H a (dPut kvs k x) o' → Inv X pins σ (upd H a o') s' → Q () s') → wpAny (model X.prog X.w) X.A (setItem (.ref a) u w) Q X.xe s := by
  intro pins s σ u w Q I ru rw' h
  unfold modeOk at hk
  rw [Bool.or_eq_true] at hk
  rcases hk with hk | hk
  · unfold mF at hk
    rw [Bool.and_eq_true] at hk
    obtain ⟨gs, rfl, rg⟩ := fview I d hk.2
    obtain ⟨p, hp⟩ := Option.isSome_iff_exists.mp hk.1
    have ky : y = kV p := by
      cases k with
      | int i => cases hp; rw [RV_int] at r; exact r
      | str i => cases hp; rw [RV_str] at r; exact r
      | _ => cases hp
    subst ky
    have lg := rg.length
    exact d_setItem (show X.A.units + 1 < cLine by omega) I (DPut.k (k := p) (v := z) ha (show gs.length < sizeLine by omega)) ru rw' fun s' I' => h _ s' (.inl ⟨_, rfl, rg.put hp rz⟩) I'
  · unfold mN at hk
    rw [Bool.and_eq_true] at hk
    obtain ⟨hd, z0, xs, nv, dd⟩ := nview I ha d hk.2
    obtain ⟨q, b, e1, e2, rfl, rfl, ki⟩ := nkey I hk.1 r ru
    have hr : (nestedKind X.prog X.w).room X.A.in1 := by
      show X.A.units + 1 + 8 < cLine
      omega
    have lx := nv.length
    refine wpAny_setItem_heap (hsz := by omega) hr ki dd fun h' dd' hs => ?_
    have hl := dPut_length kvs k x
    obtain ⟨o', d2, I2⟩ := nwrite I ha d (h' := h') (t' := s.toks + (nestedKind X.prog X.w).draws q) hd (by omega) (dPut_ne kvs k x) (nv.put e1 e2 r rz rw') dd' hs
    exact h o' _ d2 I2
def sPut (fo fi fv : FE) : FS := fun ρ M => (fv ρ M).stm ρ fun x M1 => (fo ρ M1).stm ρ fun o M2 => (fi ρ M2).stm ρ fun k M3 => match putM M3 o k x with
  | some M4 => .next ρ M4
  | none => .stuck
theorem fs_put {o i value : Expr} {fo fi fv : FE} {pos pos' : Pos} (hu : X.A.units + 100 < cLine) (ho : FX X W o fo) (hi : FX X W i fi) (hv : FX X W value fv) (hs : swapsWith value (some (.Subscript o i pos')) pos.line X.env = pure false) :
    FXS X W (.Assign [.Subscript o i pos'] value pos) (sPut fo fi fv) := by
  refine ⟨fun D σ H => ∃ π ρ M, RS X.K π H σ ρ ∧ RM X.prog X.w X.K X.mg π H M ∧ PostS X W σ π H (sPut fo fi fv ρ M) D, ⟨fun pins s σ H D I h => ?_⟩, fun D σ H π ρ M hs hm hp => ⟨π, ρ, M, hs, hm, hp⟩⟩
  obtain ⟨π, ρ, M, hs', hm, hp⟩ := h
  obtain ⟨to, po, ro⟩ := ho.to
  obtain ⟨ti, pi, ri⟩ := hi.to
  obtain ⟨tv, pv, rv⟩ := hv.to
  have run : tv σ H fun v H1 => to σ H1 fun x H2 => ti σ H2 fun y H3 => ∃ π M mo mk mx, RV X.K π H3 mo x ∧ RV X.K π H3 mk y ∧ RV X.K π H3 mx v ∧ RS X.K π H3 σ ρ ∧ RM X.prog X.w X.K X.mg π H3 M ∧ PostS X W σ π H3 (match putM M mo mk mx with
      | some M4 => .next ρ M4
      | none => .stuck) D := by
    refine rv.stm hs' hm hp fun x M1 u H1 π1 e1 rx m1 hp1 => ?_
    refine ro.stm (hs'.ext e1) m1 hp1 fun o M2 v H2 π2 e2 rox m2 hp2 => ?_
    refine ri.stm ((hs'.ext e1).ext e2) m2 hp2 fun k M3 y H3 π3 e3 rk m3 hp3 => ?_
    exact ⟨π3, M3, o, k, x, rox.ext e3, rk, rx.ext (e2.trans e3), ((hs'.ext e1).ext e2).ext e3, m3, hp3⟩
  refine wpAny_Assign_Subscript (thn (pv.run pins s σ H _ I run) fun r s1 ⟨v, H1, I1, rv, q1⟩ => thn (po.run pins s1 σ H1 _ I1 q1) fun u s2 ⟨x, H2, I2, rx, q2⟩ => thn (pi.run pins s2 σ H2 _ I2 q2) fun iv s3 ⟨y, H3, I3, ry, q3⟩ => ?_) hs
  obtain ⟨π3, M3, mo, mk, mx, r1, r2, r3, hs3, m3, hp3⟩ := q3
  unfold putM at hp3
  split at hp3
  · rename_i M4 e4
    split at e4
    · rename_i n
      split at e4
      · rename_i kvs en
        split at e4
        · rename_i hz
          cases e4
          rw [Bool.and_eq_true] at hz
          obtain ⟨a, ob, rfl, hn, ha, d⟩ := dct_at m3 en r1
          cases rx
          refine put_dct hu ha d hz.1 (small_le hz.2) r2 r3 pins s3 σ iv r _ I3 ry rv fun o' s' d' I' => ?_
          obtain ⟨e, m'⟩ := dct_write m3 en hn ha d d'
          exact ⟨σ, _, I', hp3 σ _ π3 e (hs3.ext e) m'⟩
        · cases e4
      · rename_i xs en
        split at e4
        · rename_i i
          split at e4
          · rename_i j hj
            cases e4
            rw [RV_int] at r2
            subst r2
            unfold RV at r1
            obtain ⟨a, rfl, hn⟩ := r1
            obtain ⟨vs, h1, h2⟩ := m3.at_ hn en
            cases rx
            have e : Ext π3 H3 π3 (upd H3 a (.lst (vs.set j v))) := Ext.write h1 fun _ z => by cases z
            refine thn (set_list pins s3 σ H3 (.ref a) (.int i) v (.ref a) iv r (fun H4 => H4 = upd H3 a (.lst (vs.set j v))) I3 rfl ry rv ⟨a, vs, i, j, rfl, rfl, h1, by rw [← h2.length]; exact hj, rfl⟩) fun _ s4 ⟨H4, I4, eH⟩ => ?_
            subst eH
            refine ⟨σ, _, I4, hp3 σ _ π3 e (hs3.ext e) (m3.write hn en rfl rfl ⟨_, upd_same, ?_⟩)⟩
            exact (RVs.set r3 j h2).ext e
          · cases e4
        · cases e4
      · cases e4
    · cases e4
  · exact hp3.elim
end
end FL

namespace FL
open PySem PySem.Spec PyProof.Rows L2
/-! ### plain laws over the functional layer -/
/-- a loop that goes to its end -/
theorem loop_inv {chk : MH → Bool} {g : FG} {body : FS} (I : List MV → Rho → MH → Prop)
    (step : ∀ x xs ρ M, I (x :: xs) ρ M → ∃ ρ1 ρ2 M2, g x ρ = some ρ1 ∧ (body ρ1 M = .next ρ2 M2 ∨ body ρ1 M = .cnt ρ2 M2) ∧ chk M2 = true ∧ I xs ρ2 M2) :
    ∀ xs ρ M, I xs ρ M → ∃ ρ' M', loopF chk g body xs ρ M = .next ρ' M' ∧ I [] ρ' M'
  | [], ρ, M, h => ⟨ρ, M, rfl, h⟩
  | x :: xs, ρ, M, h => by
    obtain ⟨ρ1, ρ2, M2, e1, e2, e3, h2⟩ := step x xs ρ M h
    obtain ⟨ρ', M', e4, h4⟩ := loop_inv I step xs ρ2 M2 h2
    refine ⟨ρ', M', ?_, h4⟩
    rcases e2 with e2 | e2 <;> simp only [loopF, e1, e2, e3, if_true] <;> exact e4
/-- a loop that goes to its end, or leaves with a value -/
theorem loop_ret {chk : MH → Bool} {g : FG} {body : FS} (I : List MV → Rho → MH → Prop) (R : RSt → Prop)
    (step : ∀ x xs ρ M, I (x :: xs) ρ M → ∃ ρ1, g x ρ = some ρ1 ∧ ((∃ ρ2 M2, (body ρ1 M = .next ρ2 M2 ∨ body ρ1 M = .cnt ρ2 M2) ∧ chk M2 = true ∧ I xs ρ2 M2) ∨ (∃ v M2, body ρ1 M = .ret v M2 ∧ R (.ret v M2)) ∨ ∃ ρ2 M2, body ρ1 M = .brk ρ2 M2 ∧ R (.next ρ2 M2)))
    (stop : ∀ ρ M, I [] ρ M → R (.next ρ M)) : ∀ xs ρ M, I xs ρ M → R (loopF chk g body xs ρ M)
  | [], ρ, M, h => stop ρ M h
  | x :: xs, ρ, M, h => by
    obtain ⟨ρ1, e1, h⟩ := step x xs ρ M h
    rcases h with ⟨ρ2, M2, e2, e3, h2⟩ | ⟨v, M2, e2, h2⟩ | ⟨ρ2, M2, e2, h2⟩
    · have ih := loop_ret I R step stop xs ρ2 M2 h2
      rcases e2 with e2 | e2 <;> simp only [loopF, e1, e2, e3, if_true] <;> exact ih
    · simp only [loopF, e1, e2]
      exact h2
    · simp only [loopF, e1, e2]
      exact h2
/-- a comprehension whose parts only lay new things -/
theorem comp_run {chk : MH → Bool} {g : FG} {tt : FT} {te : FE} {ρ : Rho} {M0 : MH} {p : MV → Bool} {f : MV → MV} : ∀ (xs : List MV),
    (∀ x ∈ xs, ∃ ρ1, g x ρ = some ρ1 ∧ ∀ acc G, ∃ G1, tt ρ1 (M0 ++ (.lst acc :: G)) = .ok (p x) (M0 ++ (.lst acc :: (G ++ G1))) ∧ (p x = true → ∃ G2, te ρ1 (M0 ++ (.lst acc :: (G ++ G1))) = .ok (f x) (M0 ++ (.lst acc :: (G ++ G2))))) →
    (∀ acc G, chk (M0 ++ (.lst acc :: G)) = true) → ∀ acc G, xs.length + acc.length ≤ 16777216 →
    ∃ G', compF chk g tt te M0.length ρ xs (M0 ++ (.lst acc :: G)) = .ok (.ref M0.length) (M0 ++ (.lst (acc ++ (xs.filter p).map f) :: (G ++ G')))
  | [], _, _, acc, G, _ => ⟨[], by simp [compF]⟩
  | x :: xs, h, hc, acc, G, hl => by
    obtain ⟨ρ1, e1, h1⟩ := h x List.mem_cons_self
    obtain ⟨G1, e2, h2⟩ := h1 acc G
    have hl' : xs.length + 1 + acc.length ≤ 16777216 := hl
    cases hp : p x with
    | false =>
      rw [hp] at e2
      obtain ⟨G', e3⟩ := comp_run xs (fun y hy => h y (List.mem_cons_of_mem _ hy)) hc acc (G ++ G1) (by omega)
      refine ⟨G1 ++ G', ?_⟩
      simp only [compF, e1, e2, hc, if_true]
      rw [e3, List.filter_cons, if_neg (by rw [hp]; exact Bool.false_ne_true), List.append_assoc]
    | true =>
      rw [hp] at e2
      obtain ⟨G2, e4⟩ := h2 hp
      obtain ⟨G', e3⟩ := comp_run xs (fun y hy => h y (List.mem_cons_of_mem _ hy)) hc (acc ++ [f x]) (G ++ G2) (by simp; omega)
      refine ⟨G2 ++ G', ?_⟩
      have g0 : (M0 ++ (MO.lst acc :: (G ++ G2)))[M0.length]? = some (.lst acc) := h_get0
      have s0 : (M0 ++ (MO.lst acc :: (G ++ G2))).set M0.length (.lst (acc ++ [f x])) = M0 ++ (.lst (acc ++ [f x]) :: (G ++ G2)) := h_set0
      have hs : small (acc.length + 1) = true := small_ok (by omega)
      simp only [compF, e1, e2, e4, g0, s0, hc, hs, Bool.and_self, if_true]
      rw [e3, List.filter_cons, if_pos hp, List.map_cons, List.append_assoc, List.append_assoc]
      rfl
theorem lc_run {vs : List Nat} {fi : FI} {g : FG} {tt : FT} {te : FE} {ρ : Rho} {M M0 : MH} {S : Src} {p : MV → Bool} {f : MV → MV} (hi : fi ρ M = .ok S M0)
    (h : ∀ x ∈ S.items, ∃ ρ1, g x (wipeR ρ vs) = some ρ1 ∧ ∀ acc G, ∃ G1, tt ρ1 (M0 ++ (.lst acc :: G)) = .ok (p x) (M0 ++ (.lst acc :: (G ++ G1))) ∧ (p x = true → ∃ G2, te ρ1 (M0 ++ (.lst acc :: (G ++ G1))) = .ok (f x) (M0 ++ (.lst acc :: (G ++ G2)))))
    (hc : ∀ acc G, S.chk (M0 ++ (.lst acc :: G)) = true) (hl : S.items.length ≤ 16777216) :
    ∃ G', fLc vs fi g tt te ρ M = .ok (.ref M0.length) (M0 ++ (.lst ((S.items.filter p).map f) :: G')) := by
  obtain ⟨G', e⟩ := comp_run (chk := S.chk) (g := g) (tt := tt) (te := te) (ρ := wipeR ρ vs) (M0 := M0) (p := p) (f := f) S.items h hc [] [] (by simpa using hl)
  refine ⟨G', ?_⟩
  unfold fLc
  rw [hi, bind_ok, if_pos (hc [] []), e]
  rfl
theorem lst_cases {n : Nat} {xs : List MV} {M : MH} (h : lstOf M (.ref n) = some xs) : M[n]? = some (.lst xs) ∨ M[n]? = some (.cst xs) := by
  have h2 : (match M[n]? with
    | some (.lst xs) => some xs
    | some (.cst xs) => some xs
    | _ => none) = some xs := h
  split at h2
  · rename_i e
    cases h2
    exact .inl e
  · rename_i e
    cases h2
    exact .inr e
  · cases h2
theorem lst_of {n : Nat} {xs : List MV} {M : MH} (h : M[n]? = some (.lst xs)) : lstOf M (.ref n) = some xs := by
  show (match M[n]? with
    | some (.lst xs) => some xs
    | some (.cst xs) => some xs
    | _ => none) = some xs
  rw [h]
theorem cst_of {n : Nat} {xs : List MV} {M : MH} (h : M[n]? = some (.cst xs)) : lstOf M (.ref n) = some xs := by
  show (match M[n]? with
    | some (.lst xs) => some xs
    | some (.cst xs) => some xs
    | _ => none) = some xs
  rw [h]
theorem chkL_at {n : Nat} {xs : List MV} {M : MH} (h : lstOf M (.ref n) = some xs) : chkL n xs M = true := by
  unfold chkL
  rcases lst_cases h with e | e <;> rw [e] <;> exact beqVs_self _
theorem chkL_old {n : Nat} {xs : List MV} {M G : MH} (h : lstOf M (.ref n) = some xs) : chkL n xs (M ++ G) = true := chkL_at (lstOf_old h)
theorem fiAny_lst {f : FE} {ρ : Rho} {M M1 : MH} {n : Nat} {xs : List MV} (h : f ρ M = .ok (.ref n) M1) (e : lstOf M1 (.ref n) = some xs) : fiAny f ρ M = .ok ⟨xs, chkL n xs⟩ M1 := by
  unfold fiAny
  rw [h, bind_ok]
  unfold srcOf
  simp only [e]
theorem fiAny_tup {f : FE} {ρ : Rho} {M M1 : MH} {xs : List MV} (h : f ρ M = .ok (.tup xs) M1) : fiAny f ρ M = .ok ⟨xs, fun _ => true⟩ M1 := by
  unfold fiAny
  rw [h, bind_ok]
  rfl
theorem fiAny_str {f : FE} {ρ : Rho} {M M1 : MH} {z : Str} (h : f ρ M = .ok (.str z) M1) : fiAny f ρ M = .ok ⟨z.cps.toList.map fun c => .str ⟨#[c]⟩, fun _ => true⟩ M1 := by
  unfold fiAny
  rw [h, bind_ok]
  rfl
/-! ### lists of plain data -/
theorem okV_up : ∀ {n : Nat} (j : Nat) {x : MV}, okV n x = true → okV (n + j) x = true := by
  intro n
  induction n with
  | zero =>
    intro j z h
    cases z with
    | tup _ => cases h
    | bl _ => cases h
    | ref _ => cases h
    | str x => cases j <;> exact h
    | _ => cases j <;> rfl
  | succ k ih =>
    intro j z h
    rw [Nat.succ_add]
    cases z with
    | tup zs =>
      have h' : zs.all (okV k) = true := h
      show zs.all (okV (k + j)) = true
      exact List.all_eq_true.mpr fun a ha => ih j (List.all_eq_true.mp h' a ha)
    | bl _ => cases h
    | ref _ => cases h
    | str x => exact h
    | _ => rfl
theorem toD_le {M : MH} {n m : Nat} {x : MV} (h : okV n x = true) (hm : n + 1 ≤ m) : toD m M x = some (pD x) := by
  have e := toD_pD (M := M) (m - 1) x (by
    have := okV_up (m - 1 - n) h
    rwa [show n + (m - 1 - n) = m - 1 by omega] at this)
  rwa [show m - 1 + 1 = m by omega] at e
theorem any_mem {α β : Type} [DecidableEq α] {f : α → β} {e : β → Bool} {x : α} : ∀ {ys : List α}, (∀ y ∈ ys, e (f y) = decide (y = x)) → (ys.map f).any e = decide (x ∈ ys)
  | [], _ => by simp
  | y :: ys, h => by
    rw [List.map_cons, List.any_cons, h y List.mem_cons_self, any_mem fun z hz => h z (List.mem_cons_of_mem _ hz)]
    by_cases c : y = x
    · subst c; simp
    · have : ¬ x = y := fun z => c z.symm
      simp [c, this]
theorem shaped_list {n : Nat} {ys : List MV} (h : ∀ y ∈ ys, okV n y = true) (hn : n ≤ 63) : SeqAt.shaped (.list (ys.map pD)) = true := by
  have c : ∀ d ∈ ys.map pD, d.canLay0 = true ∧ d.depth ≤ n := by
    intro d hd
    obtain ⟨y, hy, rfl⟩ := List.mem_map.mp hd
    exact pD_lay n y (h y hy)
  unfold SeqAt.shaped
  rw [Bool.and_eq_true]
  refine ⟨?_, ?_⟩
  · rw [PyData.canLay0]
    exact canLay_all fun d hd => (c d hd).1
  · rw [PyData.depth]
    have := depth_all (ds := ys.map pD) (n := n) fun d hd => (c d hd).2
    exact decide_eq_true (by omega)
theorem inL_plain {M : MH} {n : Nat} {x : MV} {ys : List MV} (hx : okV n x = true) (hy : ∀ y ∈ ys, okV n y = true) (hn : n ≤ 63 := by decide) : inL M x ys = some (decide (x ∈ ys)) := by
  unfold inL
  rw [toD_le hx (by omega), allD_of (f := toD 65 M) (g := pD) fun y h => toD_le (hy y h) (by omega)]
  simp only [pD_shaped hx (by omega), shaped_list hy hn, Bool.and_self, if_true]
  rw [any_mem fun y h => eqv_pD n n y x (hy y h) hx]
theorem eqM_lists {M : MH} {n : Nat} {i j : Nat} {xs ys : List MV} (hi : lstOf M (.ref i) = some xs) (hj : lstOf M (.ref j) = some ys) (hx : ∀ x ∈ xs, okV n x = true) (hy : ∀ y ∈ ys, okV n y = true) (hn : n ≤ 63 := by decide) : eqM M (.ref i) (.ref j) = some (decide (xs = ys)) := by
  have e1 : toD 66 M (.ref i) = some (.list (xs.map pD)) := by
    show (match lstOf M (.ref i) with
      | some xs => (allD (toD 65 M) xs).map PyData.list
      | none => none) = _
    rw [hi]
    show (allD (toD 65 M) xs).map PyData.list = _
    rw [allD_of (f := toD 65 M) (g := pD) fun y h => toD_le (hx y h) (by omega)]
    rfl
  have e2 : toD 66 M (.ref j) = some (.list (ys.map pD)) := by
    show (match lstOf M (.ref j) with
      | some xs => (allD (toD 65 M) xs).map PyData.list
      | none => none) = _
    rw [hj]
    show (allD (toD 65 M) ys).map PyData.list = _
    rw [allD_of (f := toD 65 M) (g := pD) fun y h => toD_le (hy y h) (by omega)]
    rfl
  unfold eqM
  show (match (none : Option Bool) with
    | some b => some b
    | none => deepEq M (.ref i) (.ref j)) = _
  show deepEq M (.ref i) (.ref j) = _
  unfold deepEq
  rw [e1, e2]
  simp only [shaped_list hx hn, shaped_list hy hn, Bool.and_self, if_true, PyData.eqv]
  rw [← pDs_map, ← pDs_map, eqv_all (n := n) (m := n) fun x h y h2 => eqv_pD n n x y (hx x h) (hy y h2)]
theorem gEq_lists {M : MH} {n : Nat} {i j : Nat} {xs ys : List MV} (hi : lstOf M (.ref i) = some xs) (hj : lstOf M (.ref j) = some ys) (hx : ∀ x ∈ xs, okV n x = true) (hy : ∀ y ∈ ys, okV n y = true) (hn : n ≤ 63 := by decide) : gEq (.ref i) (.ref j) M = .ok (.bl (decide (xs = ys))) M := by
  unfold gEq
  rw [eqM_lists hi hj hx hy hn]
theorem gNe_lists {M : MH} {n : Nat} {i j : Nat} {xs ys : List MV} (hi : lstOf M (.ref i) = some xs) (hj : lstOf M (.ref j) = some ys) (hx : ∀ x ∈ xs, okV n x = true) (hy : ∀ y ∈ ys, okV n y = true) (hn : n ≤ 63 := by decide) : gNe (.ref i) (.ref j) M = .ok (.bl (!decide (xs = ys))) M := by
  unfold gNe
  rw [eqM_lists hi hj hx hy hn]
theorem gIn_list {M : MH} {n i : Nat} {x : MV} {ys : List MV} (hi : lstOf M (.ref i) = some ys) (hx : okV n x = true) (hy : ∀ y ∈ ys, okV n y = true) (hn : n ≤ 63 := by decide) : gIn x (.ref i) M = .ok (.bl (decide (x ∈ ys))) M := by
  have e : inM M x (.ref i) = some (decide (x ∈ ys)) := by
    unfold inM
    rcases lst_cases hi with e | e <;> simp only [e, hi, inL_plain hx hy hn]
  unfold gIn
  rw [e]
theorem gIn_dct {M : MH} {i : Nat} {x : MV} {kvs : List (MV × MV)} (hi : M[i]? = some (.dct kvs)) (hk : modeOk kvs x = true) : gIn x (.ref i) M = .ok (.bl (dGet kvs x).isSome) M := by
  have e : inM M x (.ref i) = some (dGet kvs x).isSome := by
    unfold inM
    simp only [hi, hk, if_true]
  unfold gIn
  rw [e]
theorem gNotIn_dct {M : MH} {i : Nat} {x : MV} {kvs : List (MV × MV)} (hi : M[i]? = some (.dct kvs)) (hk : modeOk kvs x = true) : gNotIn x (.ref i) M = .ok (.bl (!(dGet kvs x).isSome)) M := by
  have e : inM M x (.ref i) = some (dGet kvs x).isSome := by
    unfold inM
    simp only [hi, hk, if_true]
  unfold gNotIn
  rw [e]
theorem gIxA_tup {M : MH} {xs : List MV} {i : Int} {v : MV} (h : atI xs i = some v) : gIxA (.tup xs) (.int i) M = .ok v M := by
  show gIx (.tup xs) (.int i) M = _
  unfold gIx
  simp only [h]
theorem gIxA_lst {M : MH} {n : Nat} {xs : List MV} {i : Int} {v : MV} (e : lstOf M (.ref n) = some xs) (h : atI xs i = some v) : gIxA (.ref n) (.int i) M = .ok v M := by
  have h2 : gIxA (.ref n) (.int i) M = gIx (.ref n) (.int i) M := by
    unfold gIxA
    rcases lst_cases e with e | e <;> simp only [e]
  rw [h2]
  unfold gIx
  simp only [e, h]
theorem put_dct_ok {M : MH} {n : Nat} {kvs : List (MV × MV)} {k x : MV} (e : M[n]? = some (.dct kvs)) (hk : modeOk kvs k = true) (hl : kvs.length + 1 ≤ 16777216) : putM M (.ref n) k x = some (M.set n (.dct (dPut kvs k x))) := by
  unfold putM
  simp only [e, hk, small_ok hl, Bool.and_self, if_true]
theorem part_ok {n : Nat} {x : MV} {xs : List MV} (h : okV (n + 1) (.tup xs) = true) (hx : x ∈ xs) : okV n x = true := List.all_eq_true.mp (show xs.all (okV n) = true from h) x hx
theorem fvar {i : Nat} {ρ : Rho} {x : MV} {M : MH} (h : ρ[i]? = some (some x)) : fVar i ρ M = .ok x M := by
  unfold fVar
  rw [h]
theorem fop {g : G2} {a b : FE} {ρ : Rho} {M M1 M2 : MH} {x y : MV} (h1 : a ρ M = .ok x M1) (h2 : b ρ M1 = .ok y M2) : fOp g a b ρ M = g x y M2 := by
  unfold fOp
  rw [h1, bind_ok, h2, bind_ok]
theorem asb {f : FE} {ρ : Rho} {M M1 : MH} {b : Bool} (h : f ρ M = .ok (.bl b) M1) : asB f ρ M = .ok b M1 := by
  unfold asB
  rw [h]
  rfl
/-! ### tables -/
theorem dGet_put (kvs : List (MV × MV)) (k j x : MV) : dGet (dPut kvs k x) j = if j = k then some x else dGet kvs j := by
  have hmap : ∀ l : List (MV × MV), dGet (l.map fun kv => if kv.1 = k then (kv.1, x) else kv) j = (dGet l j).map fun y => if j = k then x else y := by
    intro l
    induction l with
    | nil => rfl
    | cons p l ih =>
      obtain ⟨q, y⟩ := p
      rw [List.map_cons]
      by_cases h : q = k
      · rw [if_pos h]
        by_cases e : q = j
        · rw [dGet_pos e, dGet_pos e, Option.map_some, if_pos (e.symm.trans h)]
        · rw [dGet_neg e, dGet_neg e, ih]
      · rw [if_neg h]
        by_cases e : q = j
        · rw [dGet_pos e, dGet_pos e, Option.map_some, if_neg fun z => h (e.trans z)]
        · rw [dGet_neg e, dGet_neg e, ih]
  have hsnoc : ∀ l : List (MV × MV), dGet l k = none → dGet (l ++ [(k, x)]) j = if j = k then some x else dGet l j := by
    intro l
    induction l with
    | nil =>
      intro _
      by_cases e : k = j
      · rw [if_pos e.symm]; exact dGet_pos e
      · rw [if_neg fun z => e z.symm]; exact dGet_neg e
    | cons p l ih =>
      obtain ⟨q, y⟩ := p
      intro hn
      have hk : ¬ q = k := fun z => by rw [dGet_pos z] at hn; cases hn
      rw [dGet_neg hk] at hn
      rw [List.cons_append]
      by_cases e : q = j
      · rw [dGet_pos e, dGet_pos e, if_neg fun z => hk (e.trans z)]
      · rw [dGet_neg e, dGet_neg e, ih hn]
  unfold dPut
  by_cases a : (kvs.any fun kv => decide (kv.1 = k)) = true
  · rw [if_pos a, hmap]
    rw [dGet_any] at a
    by_cases e : j = k
    · obtain ⟨y, hy⟩ := Option.isSome_iff_exists.mp a
      rw [if_pos e, e, hy, Option.map_some, if_pos rfl]
    · rw [if_neg e]
      cases dGet kvs j with
      | none => rfl
      | some y => rw [Option.map_some, if_neg e]
  · rw [if_neg a]
    refine hsnoc kvs ?_
    rw [dGet_any] at a
    cases q : dGet kvs k with
    | none => rfl
    | some y => rw [q] at a; exact (a rfl).elim
theorem dPut_keys {p : MV → Bool} {kvs : List (MV × MV)} {k x : MV} (h : kvs.all (fun q => p q.1) = true) (hk : p k = true) : (dPut kvs k x).all (fun q => p q.1) = true := by
  unfold dPut
  split
  · rw [List.all_map]
    refine List.all_eq_true.mpr fun q hq => ?_
    have h2 := List.all_eq_true.mp h q hq
    show p (if q.1 = k then (q.1, x) else q).1 = true
    split <;> exact h2
  · rw [List.all_append, h]
    simp [hk]
end FL

namespace FL
open PySem PySem.Spec PyProof.Rows L2
/-! ### plain data: more -/
theorem okV_int {n : Nat} {i : Int} : okV n (.int i) = true := by cases n <;> rfl
theorem okV_non {n : Nat} : okV n .non = true := by cases n <;> rfl
theorem okV_str {n : Nat} {x : Str} : okV n (.str x) = PyData.strOk x := by cases n <;> rfl
theorem okV_tup {n : Nat} {xs : List MV} : okV (n + 1) (.tup xs) = xs.all (okV n) := rfl
theorem depth_keys {ks : List NestedKey} {n : Nat} : (∀ k ∈ ks, k.depth ≤ n) → NestedKey.depthAll ks ≤ n := by
  induction ks with
  | nil => exact fun _ => by simp [NestedKey.depthAll]
  | cons k ks ih =>
    intro h
    have h1 := h k List.mem_cons_self
    have h2 := ih fun j hj => h j (List.mem_cons_of_mem _ hj)
    simp only [NestedKey.depthAll]
    omega
theorem keysOf_ok {n : Nat} {xs : List MV} (h : ∀ x ∈ xs, ∃ q, keyOf x = some q ∧ q.depth ≤ n) : ∃ qs, keysOf xs = some qs ∧ ∀ q ∈ qs, q.depth ≤ n := by
  induction xs with
  | nil => exact ⟨[], rfl, fun q hq => nomatch hq⟩
  | cons x xs ih =>
    obtain ⟨q, e, l⟩ := h x List.mem_cons_self
    obtain ⟨qs, e2, l2⟩ := ih fun y hy => h y (List.mem_cons_of_mem _ hy)
    refine ⟨q :: qs, by simp [keysOf, e, e2], fun p hp => ?_⟩
    rcases List.mem_cons.mp hp with rfl | hp
    · exact l
    · exact l2 p hp
theorem keyOf_ok : ∀ {n : Nat} {x : MV}, okV n x = true → ∃ q, keyOf x = some q ∧ q.depth ≤ n
  | _, .non, _ => ⟨.none, rfl, by simp [NestedKey.depth]⟩
  | _, .int i, _ => ⟨.num i, rfl, by simp [NestedKey.depth]⟩
  | _, .str x, _ => ⟨.text x, rfl, by simp [NestedKey.depth]⟩
  | 0, .tup _, h => nomatch h
  | n + 1, .tup xs, h => by
    obtain ⟨qs, e, l⟩ := keysOf_ok (n := n) fun x hx => keyOf_ok (List.all_eq_true.mp (show xs.all (okV n) = true from h) x hx)
    refine ⟨.tup qs, by simp [keyOf, e], ?_⟩
    have := depth_keys l
    simp only [NestedKey.depth]
    omega
  | 0, .bl _, h => nomatch h
  | n + 1, .bl _, h => nomatch h
  | 0, .ref _, h => nomatch h
  | n + 1, .ref _, h => nomatch h
theorem okN_of {n : Nat} {x : MV} (h : okV n x = true) (ht : isTup x = true) (hn : n ≤ 8 := by decide) : okN x = true := by
  obtain ⟨q, e, l⟩ := keyOf_ok h
  unfold okN
  rw [ht, e, Bool.true_and]
  exact decide_eq_true (Nat.le_trans l hn)
theorem gLen_lst {M : MH} {f : Nat} {xs : List MV} (h : lstOf M (.ref f) = some xs) : gLen [.ref f] M = .ok (.int xs.length) M := by
  unfold gLen
  simp only [h]
theorem gList_lst {M : MH} {f : Nat} {xs : List MV} (h : lstOf M (.ref f) = some xs) : gList [.ref f] M = .ok (.ref M.length) (M ++ [.lst xs]) := by
  unfold gList
  simp only [h]
theorem gTuple_lst {M : MH} {f : Nat} {xs : List MV} (h : lstOf M (.ref f) = some xs) : gTuple [.ref f] M = .ok (.tup xs) M := by
  unfold gTuple
  simp only [h]
theorem gSl_lst {M : MH} {f : Nat} {xs : List MV} {lo hi : Option Int} (h : lstOf M (.ref f) = some xs) : gSl (.ref f) lo hi M = .ok (.ref M.length) (M ++ [.lst (cutM xs lo hi)]) := by
  unfold gSl
  simp only [h]
theorem ints_at {ns : List Int} {k : Nat} (h : k < ns.length) : atI (ns.map MV.int) (k : Int) = some (.int (ns.getD k 0)) := by
  refine L2.atI_nat (j := k) ?_
  rw [List.getElem?_map, List.getElem?_eq_getElem h]
  simp [List.getElem?_eq_getElem h]
/-- the cell of a script, or 0 -/
def cellB : FS := sSeq (sIf (asB (fOp gLt (fVar 1) (fFn gLen (faCons (fVar 0) faNil)))) (sRet (fOp gIxA (fVar 0) (fVar 1))) sNext) (sRet (fC (.int 0)))
theorem cellB_ok {f : Nat} {ns : List Int} {k : Nat} {M : MH} (h : lstOf M (.ref f) = some (ns.map MV.int)) : fnOf 2 cellB [.ref f, .int k] M = .ok (.int (ns.getD k 0)) M := by
  have e1 : asB (fOp gLt (fVar 1) (fFn gLen (faCons (fVar 0) faNil))) [some (.ref f), some (.int k)] M = .ok (decide (k < ns.length)) M := by
    refine asb ((fop (fvar rfl) (gLen_lst h)).trans ?_)
    simp only [List.length_map]
    show Res.ok (MV.bl (decide ((k : Int) < (ns.length : Int)))) M = _
    rw [decide_eq_decide.mpr Int.ofNat_lt]
  show (match (sSeq (sIf (asB (fOp gLt (fVar 1) (fFn gLen (faCons (fVar 0) faNil)))) (sRet (fOp gIxA (fVar 0) (fVar 1))) sNext) (sRet (fC (.int 0)))) [some (.ref f), some (.int k)] M with
    | .ret x M1 => Res.ok x M1
    | .next _ M1 => .ok .non M1
    | .ex c fs _ M1 => .ex c fs M1
    | _ => .stuck) = _
  unfold sSeq sIf
  rw [e1, stm_ok]
  by_cases c : k < ns.length
  · rw [decide_eq_true c, if_pos rfl]
    unfold sRet
    rw [fop (fvar rfl) (fvar rfl), gIxA_lst h (ints_at c)]
    rfl
  · rw [decide_eq_false c, if_neg Bool.false_ne_true]
    show Res.ok (MV.int 0) M = _
    rw [List.getD_eq_getElem?_getD, List.getElem?_eq_none (Nat.le_of_not_lt c)]
    rfl
end FL

set_option maxHeartbeats 0
namespace G
open PySem PySem.Spec PyProof.Rows L2 FL
def top (i : Nat) : Stmt := PySem.Challenge.pw_pointsure_k53_never_alike.main.body.getD i (.Pass ⟨0, 0, 0, 0⟩)
structure Tx (K : PySem.W.Frag) (mg : Str → Option Value) : Prop where
  one : True
  z_isinstance : mg "isinstance" = none
  z_bool : mg "bool" = none
  z_len : mg "len" = none
  z_range : mg "range" = none
  z_list : mg "list" = none
abbrev s_never_alike : Stmt := top 1
theorem sc_never_alike : FnScope ["facts", "one", "other", "held", "fact"] ["facts", "one", "other"] (defScope s_never_alike) := ⟨rfl, rfl, rfl, by decide +kernel, rfl, by decide +kernel, by decide +kernel⟩
def B_never_alike : FS := (sSeq (sAsg fDct (gtName 3))
  (sSeq (sFor (fiAny (fVar 0)) (gtName 4) (sIf (ftAnd (asB (fOp gEq (fOp gIxA (fVar 4) (fC (.int 0))) (fC (.str "holds")))) (asB (fOp gEq (fOp gIxA (fVar 4) (fC (.int 1))) (fVar 1)))) (sPut (fVar 3) (fOp gIxA (fVar 4) (fC (.int 2))) (fC (.bl true))) sNext))
  (sSeq (sFor (fiAny (fVar 0)) (gtName 4) (sIf (ftAnd (asB (fOp gEq (fOp gIxA (fVar 4) (fC (.int 0))) (fC (.str "holds")))) (ftAnd (asB (fOp gEq (fOp gIxA (fVar 4) (fC (.int 1))) (fVar 2))) (asB (fOp gIn (fOp gIxA (fVar 4) (fC (.int 2))) (fVar 3))))) (sRet (fC (.bl false))) sNext))
  (sRet (fC (.bl true))))))
def F_never_alike : FN := FL.fnOf 5 B_never_alike
theorem ok_never_alike {P : Program} {w : World} {K : PySem.W.Frag} {mg : Str → Option Value} {base : Heap} (T : Tx K mg)  (D : ∃ fd, FunD K "never_alike" "never_alike" (defArgs s_never_alike) (defBody s_never_alike) (defScope s_never_alike) [] [] (He.ga K "never_alike") fd) (g : mg "never_alike" = some (.ref (He.ga K "never_alike"))) : CalF P w K mg base 1 "never_alike" 3 F_never_alike :=
  cal_mk D g sc_never_alike (fun _ _ _ _ _ _ us hl => match us, hl with | [_, _, _], _ => rfl) (body := B_never_alike) fun cdv A outer s H E hr =>
  (fb_cons (fs_set (i := 3) sc_never_alike.nd rfl (by first | exact .inl rfl | exact .inr rfl) fx_dct)
  (fb_cons (fs_for (passes_of rfl) rfl (fi_any (fx_var (pv 0))) (fg_name (i := 4) sc_never_alike.nd rfl (by first | exact .inl rfl | exact .inr rfl)) (fb_one (fs_if (FXW.t (fw_and (ft_cmp (op_eqA hr.units) o_eq (fx_ixA (hu100 hr) (fx_var (pv 4)) fx_int (fun _ _ => rfl)) fx_str (nomark _)) (fw_and1 (ft_cmp (op_eqA hr.units) o_eq (fx_ixA (hu100 hr) (fx_var (pv 4)) fx_int (fun _ _ => rfl)) (fx_var (pv 1)) (nomark _))))) (fb_one (fs_put (hu100 hr) (fx_var (pv 3)) (fx_ixA (hu100 hr) (fx_var (pv 4)) fx_int (fun _ _ => rfl)) fx_bl rfl)) fb_nil)))
  (fb_cons (fs_for (passes_of rfl) rfl (fi_any (fx_var (pv 0))) (fg_name (i := 4) sc_never_alike.nd rfl (by first | exact .inl rfl | exact .inr rfl)) (fb_one (fs_if (FXW.t (fw_and (ft_cmp (op_eqA hr.units) o_eq (fx_ixA (hu100 hr) (fx_var (pv 4)) fx_int (fun _ _ => rfl)) fx_str (nomark _)) (fw_and (ft_cmp (op_eqA hr.units) o_eq (fx_ixA (hu100 hr) (fx_var (pv 4)) fx_int (fun _ _ => rfl)) (fx_var (pv 2)) (nomark _)) (fw_and1 (ft_cmp (op_inA (hu100 hr)) o_g (fx_ixA (hu100 hr) (fx_var (pv 4)) fx_int (fun _ _ => rfl)) (fx_var (pv 3)) rfl))))) (fb_one (fs_ret fx_bl)) fb_nil)))
  (fb_one (fs_ret fx_bl)))))
abbrev s_law_right : Stmt := top 6
theorem sc_law_right : FnScope ["_law_facts", "_law_one", "_law_other", "_law_here", "_law_there", "_law_due", "_law_found", "_law_fact_here", "_law_thing"] ["_law_facts", "_law_one", "_law_other"] (defScope s_law_right) := ⟨rfl, rfl, rfl, by decide +kernel, rfl, by decide +kernel, by decide +kernel⟩
def B_law_right : FS := (sSeq (sAsg (fLc [7] (fiAny (fVar 0)) (gtName 7) (ftAnd (asB (fOp gEq (fOp gIxA (fVar 7) (fC (.int 0))) (fC (.str "holds")))) (asB (fOp gEq (fOp gIxA (fVar 7) (fC (.int 1))) (fVar 1)))) (fOp gIxA (fVar 7) (fC (.int 2)))) (gtName 3))
  (sSeq (sAsg (fLc [7] (fiAny (fVar 0)) (gtName 7) (ftAnd (asB (fOp gEq (fOp gIxA (fVar 7) (fC (.int 0))) (fC (.str "holds")))) (asB (fOp gEq (fOp gIxA (fVar 7) (fC (.int 1))) (fVar 2)))) (fOp gIxA (fVar 7) (fC (.int 2)))) (gtName 4))
  (sSeq (sAsg (fOp gEq (fLc [8] (fiAny (fVar 3)) (gtName 8) (asB (fOp gIn (fVar 8) (fVar 4))) (fVar 8)) (fLst faNil)) (gtName 5))
  (sSeq (sAsg (fFn (arity 3 F_never_alike) (faCons (fVar 0) (faCons (fVar 1) (faCons (fVar 2) faNil)))) (gtName 6))
  (sRet (fAnd (fIsi "bool" (fVar 6)) (fOp gEq (fVar 6) (fVar 5))))))))
def F_law_right : FN := FL.fnOf 9 B_law_right
theorem ok_law_right {P : Program} {w : World} {K : PySem.W.Frag} {mg : Str → Option Value} {base : Heap} (T : Tx K mg) (c_never_alike : CalF P w K mg base 1 "never_alike" 3 F_never_alike) (D : ∃ fd, FunD K "_law_right" "_law_right" (defArgs s_law_right) (defBody s_law_right) (defScope s_law_right) [] [] (He.ga K "_law_right") fd) (g : mg "_law_right" = some (.ref (He.ga K "_law_right"))) : CalF P w K mg base 2 "_law_right" 3 F_law_right :=
  cal_mk D g sc_law_right (fun _ _ _ _ _ _ us hl => match us, hl with | [_, _, _], _ => rfl) (body := B_law_right) fun cdv A outer s H E hr =>
  (fb_cons (fs_setLc (i := 3) (own := [("_law_fact_here", 7)]) rfl sc_law_right.nd rfl rfl (sw_true rfl rfl rfl (by decide +kernel)) (fi_any (fx_var (pv 0))) (blkOk_by (own := [("_law_fact_here", 7)]) (N := ["_law_facts", "_law_one", "_law_other", "_law_here", "_law_there", "_law_due", "_law_found", "_law_fact_here", "_law_thing"]) (sc := defScope s_law_right) (by decide +kernel)) (fun _ _ _ _ _ => (gw_name (i := 7) sc_law_right.nd rfl (by first | exact .inl rfl | exact .inr rfl))) (by decide) (fun _ _ _ _ _ => (fts_one (FXW.t (fw_and (ft_cmp (op_eqA hr.units) o_eq (fx_ixA (hu100 hr) (fx_var (pv 7)) fx_int (fun _ _ => rfl)) fx_str (nomark _)) (fw_and1 (ft_cmp (op_eqA hr.units) o_eq (fx_ixA (hu100 hr) (fx_var (pv 7)) fx_int (fun _ _ => rfl)) (fx_var (pv 1)) (nomark _))))))) (fun _ _ _ _ _ => (fx_ixA (hu100 hr) (fx_var (pv 7)) fx_int (fun _ _ => rfl))))
  (fb_cons (fs_set (i := 4) sc_law_right.nd rfl (by first | exact .inl rfl | exact .inr rfl) (fx_lc (own := [("_law_fact_here", 7)]) rfl sc_law_right.nd (fi_any (fx_var (pv 0))) (blkOk_by (own := [("_law_fact_here", 7)]) (N := ["_law_facts", "_law_one", "_law_other", "_law_here", "_law_there", "_law_due", "_law_found", "_law_fact_here", "_law_thing"]) (sc := defScope s_law_right) (by decide +kernel)) (fun _ _ _ _ _ => (gw_name (i := 7) sc_law_right.nd rfl (by first | exact .inl rfl | exact .inr rfl))) (by decide) (fun _ _ _ _ _ => (fts_one (FXW.t (fw_and (ft_cmp (op_eqA hr.units) o_eq (fx_ixA (hu100 hr) (fx_var (pv 7)) fx_int (fun _ _ => rfl)) fx_str (nomark _)) (fw_and1 (ft_cmp (op_eqA hr.units) o_eq (fx_ixA (hu100 hr) (fx_var (pv 7)) fx_int (fun _ _ => rfl)) (fx_var (pv 2)) (nomark _))))))) (fun _ _ _ _ _ => (fx_ixA (hu100 hr) (fx_var (pv 7)) fx_int (fun _ _ => rfl)))))
  (fb_cons (fs_set (i := 5) sc_law_right.nd rfl (by first | exact .inl rfl | exact .inr rfl) (fx_cmp (op_eqA hr.units) o_eq (fx_lc (own := [("_law_thing", 8)]) rfl sc_law_right.nd (fi_any (fx_var (pv 3))) (blkOk_by (own := [("_law_thing", 8)]) (N := ["_law_facts", "_law_one", "_law_other", "_law_here", "_law_there", "_law_due", "_law_found", "_law_fact_here", "_law_thing"]) (sc := defScope s_law_right) (by decide +kernel)) (fun _ _ _ _ _ => (gw_name (i := 8) sc_law_right.nd rfl (by first | exact .inl rfl | exact .inr rfl))) (by decide) (fun _ _ _ _ _ => (fts_one (ft_cmp (op_inA (hu100 hr)) o_g (fx_var (pv 8)) (fx_var (pv 4)) rfl))) (fun _ _ _ _ _ => (fx_var (pv 8)))) (fx_lst fa_nil) (nomark _)))
  (fb_cons (fs_set (i := 6) sc_law_right.nd rfl (by first | exact .inl rfl | exact .inr rfl) (fx_call c_never_alike hr (by decide) rfl (takes_of rfl rfl rfl rfl) (fa_cons (fx_var (pv 0)) (fa_cons (fx_var (pv 1)) (fa_cons (fx_var (pv 2)) fa_nil)))))
  (fb_one (fs_ret (fx_and (fx_isi rfl T.z_isinstance b_isinstance rfl T.z_bool b_bool (fx_var (pv 6))) (fx_one (fx_cmp (op_eqA hr.units) o_eq (fx_var (pv 6)) (fx_var (pv 5)) (nomark _))))))))))
abbrev s_law_fact : Stmt := top 5
theorem sc_law_fact : FnScope ["_law_cell", "_law_names_here", "_law_mixed", "_law_row"] ["_law_cell", "_law_names_here"] (defScope s_law_fact) := ⟨rfl, rfl, rfl, by decide +kernel, rfl, by decide +kernel, by decide +kernel⟩
def B_law_fact : FS := (sSeq (sAsg (fOp gMod (fOp gMul (fVar 0) (fC (.int 618033988749894848204587))) (fOp gAdd (fOp gPow (fC (.int 10)) (fC (.int 24))) (fC (.int 7)))) (gtName 2))
  (sSeq (sAsg (fOp gMod (fOp gFdiv (fVar 2) (fC (.int 100))) (fC (.int 6))) (gtName 3))
  (sSeq (sIf (asB (fOp gEq (fOp gMod (fOp gFdiv (fVar 2) (fOp gPow (fC (.int 10)) (fC (.int 6)))) (fC (.int 3))) (fC (.int 0)))) (sAsg (fOp gMod (fOp gFdiv (fVar 2) (fC (.int 100))) (fC (.int 200))) (gtName 3)) sNext)
  (sSeq (sIf (asB (fOp gEq (fOp gMod (fVar 2) (fC (.int 10))) (fC (.int 0)))) (sRet (fTup (faCons (fC (.str "reach")) (faCons (fC (.str "main")) (faCons (fTup faNil) faNil))))) sNext)
  (sSeq (sIf (asB (fOp gEq (fOp gMod (fVar 2) (fC (.int 10))) (fC (.int 1)))) (sRet (fTup (faCons (fC (.str "goes")) (faCons (fVar 3) (faCons (fTup faNil) (faCons (fC (.str "fa")) (faCons (fTup (faCons (fVar 3) faNil)) faNil))))))) sNext)
  (sRet (fTup (faCons (fC (.str "holds")) (faCons (fOp gIxA (fVar 1) (fOp gMod (fOp gFdiv (fVar 2) (fC (.int 10))) (fC (.int 4)))) (faCons (fTup (faCons (fVar 3) (faCons (fOp gIxA (fLst (faCons (fTup faNil) (faCons (fTup (faCons (fC (.int 9)) faNil)) faNil))) (fOp gMod (fOp gFdiv (fVar 2) (fOp gPow (fC (.int 10)) (fC (.int 7)))) (fC (.int 2)))) faNil))) faNil))))))))))
def F_law_fact : FN := FL.fnOf 4 B_law_fact
theorem ok_law_fact {P : Program} {w : World} {K : PySem.W.Frag} {mg : Str → Option Value} {base : Heap} (T : Tx K mg)  (D : ∃ fd, FunD K "_law_fact" "_law_fact" (defArgs s_law_fact) (defBody s_law_fact) (defScope s_law_fact) [] [] (He.ga K "_law_fact") fd) (g : mg "_law_fact" = some (.ref (He.ga K "_law_fact"))) : CalF P w K mg base 1 "_law_fact" 2 F_law_fact :=
  cal_mk D g sc_law_fact (fun _ _ _ _ _ _ us hl => match us, hl with | [_, _], _ => rfl) (body := B_law_fact) fun cdv A outer s H E hr =>
  (fb_cons (fs_set (i := 2) sc_law_fact.nd rfl (by first | exact .inl rfl | exact .inr rfl) (fx_op op_mod o_mod (fx_op op_mulB o_mul (fx_var (pv 0)) fx_int) (fx_op op_addA o_add (fx_op op_pow o_pow fx_int fx_int) fx_int)))
  (fb_cons (fs_set (i := 3) sc_law_fact.nd rfl (by first | exact .inl rfl | exact .inr rfl) (fx_op op_mod o_mod (fx_op op_fdivW o_fdiv (fx_var (pv 2)) fx_int) fx_int))
  (fb_cons (fs_if (ft_cmp (op_eqA hr.units) o_eq (fx_op op_mod o_mod (fx_op op_fdivW o_fdiv (fx_var (pv 2)) (fx_op op_pow o_pow fx_int fx_int)) fx_int) fx_int (nomark _)) (fb_one (fs_set (i := 3) sc_law_fact.nd rfl (by first | exact .inl rfl | exact .inr rfl) (fx_op op_mod o_mod (fx_op op_fdivW o_fdiv (fx_var (pv 2)) fx_int) fx_int))) fb_nil)
  (fb_cons (fs_if (ft_cmp (op_eqA hr.units) o_eq (fx_op op_mod o_mod (fx_var (pv 2)) fx_int) fx_int (nomark _)) (fb_one (fs_ret (fx_tup (fa_cons fx_str (fa_cons fx_str (fa_cons (fx_tup fa_nil) fa_nil)))))) fb_nil)
  (fb_cons (fs_if (ft_cmp (op_eqA hr.units) o_eq (fx_op op_mod o_mod (fx_var (pv 2)) fx_int) fx_int (nomark _)) (fb_one (fs_ret (fx_tup (fa_cons fx_str (fa_cons (fx_var (pv 3)) (fa_cons (fx_tup fa_nil) (fa_cons fx_str (fa_cons (fx_tup (fa_cons (fx_var (pv 3)) fa_nil)) fa_nil)))))))) fb_nil)
  (fb_one (fs_ret (fx_tup (fa_cons fx_str (fa_cons (fx_ixA (hu100 hr) (fx_var (pv 1)) (fx_op op_mod o_mod (fx_op op_fdivW o_fdiv (fx_var (pv 2)) fx_int) fx_int) (fun _ _ => rfl)) (fa_cons (fx_tup (fa_cons (fx_var (pv 3)) (fa_cons (fx_ixA (hu100 hr) (fx_lst (fa_cons (fx_tup fa_nil) (fa_cons (fx_tup (fa_cons fx_int fa_nil)) fa_nil))) (fx_op op_mod o_mod (fx_op op_fdivW o_fdiv (fx_var (pv 2)) (fx_op op_pow o_pow fx_int fx_int)) fx_int) (fun _ _ => rfl)) fa_nil))) fa_nil)))))))))))
abbrev s_law_names : Stmt := top 4
theorem sc_law_names : FnScope ["_law_cell", "_law_calls"] ["_law_cell"] (defScope s_law_names) := ⟨rfl, rfl, rfl, by decide +kernel, rfl, by decide +kernel, by decide +kernel⟩
def B_law_names : FS := (sSeq (sAsg (fOp gIxA (fLst (faCons (fTup faNil) (faCons (fTup (faCons (fC (.int 3)) faNil)) (faCons (fTup (faCons (fC (.int 3)) (faCons (fC (.int 7)) faNil))) (faCons (fTup (faCons (fC (.int 7)) (faCons (fC (.int 3)) faNil))) faNil))))) (fOp gMod (fVar 0) (fC (.int 4)))) (gtName 1))
  (sRet (fLst (faCons (fTup (faCons (fC (.str "local")) (faCons (fC (.str "main")) (faCons (fVar 1) (faCons (fC (.str "x")) faNil))))) (faCons (fTup (faCons (fC (.str "field")) (faCons (fC (.int 3)) (faCons (fVar 1) (faCons (fC (.str "x")) faNil))))) (faCons (fTup (faCons (fC (.str "each")) (faCons (fC (.int 3)) (faCons (fVar 1) faNil)))) (faCons (fTup (faCons (fC (.str "local")) (faCons (fC (.str "fa")) (faCons (fVar 1) (faCons (fC (.str "x")) faNil))))) faNil)))))))
def F_law_names : FN := FL.fnOf 2 B_law_names
theorem ok_law_names {P : Program} {w : World} {K : PySem.W.Frag} {mg : Str → Option Value} {base : Heap} (T : Tx K mg)  (D : ∃ fd, FunD K "_law_names" "_law_names" (defArgs s_law_names) (defBody s_law_names) (defScope s_law_names) [] [] (He.ga K "_law_names") fd) (g : mg "_law_names" = some (.ref (He.ga K "_law_names"))) : CalF P w K mg base 1 "_law_names" 1 F_law_names :=
  cal_mk D g sc_law_names (fun _ _ _ _ _ _ us hl => match us, hl with | [_], _ => rfl) (body := B_law_names) fun cdv A outer s H E hr =>
  (fb_cons (fs_set (i := 1) sc_law_names.nd rfl (by first | exact .inl rfl | exact .inr rfl) (fx_ixA (hu100 hr) (fx_lst (fa_cons (fx_tup fa_nil) (fa_cons (fx_tup (fa_cons fx_int fa_nil)) (fa_cons (fx_tup (fa_cons fx_int (fa_cons fx_int fa_nil))) (fa_cons (fx_tup (fa_cons fx_int (fa_cons fx_int fa_nil))) fa_nil))))) (fx_op op_mod o_mod (fx_var (pv 0)) fx_int) (fun _ _ => rfl)))
  (fb_one (fs_ret (fx_lst (fa_cons (fx_tup (fa_cons fx_str (fa_cons fx_str (fa_cons (fx_var (pv 1)) (fa_cons fx_str fa_nil))))) (fa_cons (fx_tup (fa_cons fx_str (fa_cons fx_int (fa_cons (fx_var (pv 1)) (fa_cons fx_str fa_nil))))) (fa_cons (fx_tup (fa_cons fx_str (fa_cons fx_int (fa_cons (fx_var (pv 1)) fa_nil)))) (fa_cons (fx_tup (fa_cons fx_str (fa_cons fx_str (fa_cons (fx_var (pv 1)) (fa_cons fx_str fa_nil))))) fa_nil))))))))
abbrev s_law_cell_at : Stmt := top 3
theorem sc_law_cell_at : FnScope ["_law_script", "_law_k"] ["_law_script", "_law_k"] (defScope s_law_cell_at) := ⟨rfl, rfl, rfl, by decide +kernel, rfl, by decide +kernel, by decide +kernel⟩
def B_law_cell_at : FS := (sSeq (sIf (asB (fOp gLt (fVar 1) (fFn gLen (faCons (fVar 0) faNil)))) (sRet (fOp gIxA (fVar 0) (fVar 1))) sNext)
  (sRet (fC (.int 0))))
def F_law_cell_at : FN := FL.fnOf 2 B_law_cell_at
theorem ok_law_cell_at {P : Program} {w : World} {K : PySem.W.Frag} {mg : Str → Option Value} {base : Heap} (T : Tx K mg)  (D : ∃ fd, FunD K "_law_cell_at" "_law_cell_at" (defArgs s_law_cell_at) (defBody s_law_cell_at) (defScope s_law_cell_at) [] [] (He.ga K "_law_cell_at") fd) (g : mg "_law_cell_at" = some (.ref (He.ga K "_law_cell_at"))) : CalF P w K mg base 1 "_law_cell_at" 2 F_law_cell_at :=
  cal_mk D g sc_law_cell_at (fun _ _ _ _ _ _ us hl => match us, hl with | [_, _], _ => rfl) (body := B_law_cell_at) fun cdv A outer s H E hr =>
  (fb_cons (fs_if (ft_cmp op_lt o_lt (fx_var (pv 1)) (fx_callB call_len o_len rfl T.z_len b_len (fa_cons (fx_var (pv 0)) fa_nil)) (nomark _)) (fb_one (fs_ret (fx_ixA (hu100 hr) (fx_var (pv 0)) (fx_var (pv 1)) (fun _ _ => rfl)))) fb_nil)
  (fb_one (fs_ret fx_int)))
abbrev s_law : Stmt := top 7
theorem sc_law : FnScope ["_law_script", "_law_names_here", "_law_facts", "_law_handed", "_law_k", "_law_other", "_law_cell"] ["_law_script"] (defScope s_law) := ⟨rfl, rfl, rfl, by decide +kernel, rfl, by decide +kernel, by decide +kernel⟩
def B_law : FS := (sSeq (sAsg (fFn (arity 1 F_law_names) (faCons (fFn (arity 2 F_law_cell_at) (faCons (fVar 0) (faCons (fC (.int 0)) faNil))) faNil)) (gtName 1))
  (sSeq (sAsg (fLc [6] (fiAny (fSl (fVar 0) (foSome (fC (.int 1))) (foSome (fC (.int 201))))) (gtName 6) ftYes (fFn (arity 2 F_law_fact) (faCons (fVar 6) (faCons (fVar 1) faNil)))) (gtName 2))
  (sSeq (sAsg (fFn gList (faCons (fVar 2) faNil)) (gtName 3))
  (sSeq (sFor (fiRange1 (faCons (fC (.int 4)) faNil)) (gtName 4) (sSeq (sAsg (fOp gIxA (fVar 1) (fOp gMod (fOp gAdd (fVar 4) (fC (.int 1))) (fC (.int 4)))) (gtName 5))
  (sSeq (sIf (ftOr (ftNot (asB (fFn (arity 3 F_law_right) (faCons (fVar 3) (faCons (fOp gIxA (fVar 1) (fVar 4)) (faCons (fVar 5) faNil)))))) (ftNot (asB (fFn (arity 3 F_law_right) (faCons (fVar 3) (faCons (fVar 5) (faCons (fOp gIxA (fVar 1) (fVar 4)) faNil))))))) (sRet (fC (.bl false))) sNext)
  (sIf (ftOr (ftNot (asB (fFn (arity 3 F_law_right) (faCons (fVar 3) (faCons (fOp gIxA (fVar 1) (fVar 4)) (faCons (fOp gIxA (fVar 1) (fVar 4)) faNil)))))) (asB (fOp gNe (fVar 3) (fVar 2)))) (sRet (fC (.bl false))) sNext))))
  (sRet (fFn (arity 3 F_law_right) (faCons (fSl (fVar 2) (foSome (fC (.int 1))) foNone) (faCons (fOp gIxA (fVar 1) (fC (.int 0))) (faCons (fOp gIxA (fVar 1) (fC (.int 3))) faNil)))))))))
def F_law : FN := FL.fnOf 7 B_law
theorem ok_law {P : Program} {w : World} {K : PySem.W.Frag} {mg : Str → Option Value} (T : Tx K mg) (X : ∀ base : Heap, CalF P w K mg base 2 "_law_right" 3 F_law_right ∧ CalF P w K mg base 1 "_law_fact" 2 F_law_fact ∧ CalF P w K mg base 1 "_law_names" 1 F_law_names ∧ CalF P w K mg base 1 "_law_cell_at" 2 F_law_cell_at ∧ True) (D : ∃ fd, FunD K "law" "law" (defArgs s_law) (defBody s_law) (defScope s_law) [] [] (He.ga K "law") fd) :
    ∃ fd : FuncData, (∀ (s : Shared) (v : Value), BindsTo s fd ⟨[v], []⟩ [("_law_script", v)]) ∧ ∀ base : Heap, FnOk P w K mg base (L2.CX P w) 3 (He.ga K "law") fd ["_law_script"] (spF P w K mg 1 F_law) :=
  law_mk D sc_law (fun _ _ _ _ _ _ us hl => match us, hl with | [_], _ => rfl) (body := B_law) fun base cdv A outer s H E hr => by
  obtain ⟨c_law_right, c_law_fact, c_law_names, c_law_cell_at, _⟩ := X base
  exact (fb_cons (fs_set (i := 1) sc_law.nd rfl (by first | exact .inl rfl | exact .inr rfl) (fx_call c_law_names hr (by decide) rfl (takes_of rfl rfl rfl rfl) (fa_cons (fx_call c_law_cell_at hr (by decide) rfl (takes_of rfl rfl rfl rfl) (fa_cons (fx_var (pv 0)) (fa_cons fx_int fa_nil))) fa_nil)))
  (fb_cons (fs_setLc (i := 2) (own := [("_law_cell", 6)]) rfl sc_law.nd rfl rfl (sw_true rfl rfl rfl (by decide +kernel)) (fi_any (fx_sl (fx_var (pv 0)) (fo_some fx_int) (fo_some fx_int))) (blkOk_by (own := [("_law_cell", 6)]) (N := ["_law_script", "_law_names_here", "_law_facts", "_law_handed", "_law_k", "_law_other", "_law_cell"]) (sc := defScope s_law) (by decide +kernel)) (fun _ _ _ _ _ => (gw_name (i := 6) sc_law.nd rfl (by first | exact .inl rfl | exact .inr rfl))) (by decide) (fun _ _ _ _ _ => fts_nil) (fun _ _ _ _ _ => (fx_call c_law_fact hr (by decide) rfl takes0 (fa_cons (fx_var (pv 6)) (fa_cons (fx_var (pv 1)) fa_nil)))))
  (fb_cons (fs_set (i := 3) sc_law.nd rfl (by first | exact .inl rfl | exact .inr rfl) (fx_callT call_list_of o_list rfl T.z_list b_list (fa_cons (fx_var (pv 2)) fa_nil)))
  (fb_cons (fs_for (passes_of rfl) rfl (fi_range1 rfl T.z_range (fa_cons fx_int fa_nil)) (fg_name (i := 4) sc_law.nd rfl (by first | exact .inl rfl | exact .inr rfl)) (fb_cons (fs_set (i := 5) sc_law.nd rfl (by first | exact .inl rfl | exact .inr rfl) (fx_ixA (hu100 hr) (fx_var (pv 1)) (fx_op op_mod o_mod (fx_op op_addA o_add (fx_var (pv 4)) fx_int) fx_int) (fun _ _ => rfl)))
  (fb_cons (fs_if (FXW.t (fw_or (ft_not (ft_val (fx_call c_law_right hr (by decide) rfl (takes_of rfl rfl rfl rfl) (fa_cons (fx_var (pv 3)) (fa_cons (fx_ixA (hu100 hr) (fx_var (pv 1)) (fx_var (pv 4)) (fun _ _ => rfl)) (fa_cons (fx_var (pv 5)) fa_nil)))))) (fw_or1 (ft_not (ft_val (fx_call c_law_right hr (by decide) rfl (takes_of rfl rfl rfl rfl) (fa_cons (fx_var (pv 3)) (fa_cons (fx_var (pv 5)) (fa_cons (fx_ixA (hu100 hr) (fx_var (pv 1)) (fx_var (pv 4)) (fun _ _ => rfl)) fa_nil))))))))) (fb_one (fs_ret fx_bl)) fb_nil)
  (fb_one (fs_if (FXW.t (fw_or (ft_not (ft_val (fx_call c_law_right hr (by decide) rfl (takes_of rfl rfl rfl rfl) (fa_cons (fx_var (pv 3)) (fa_cons (fx_ixA (hu100 hr) (fx_var (pv 1)) (fx_var (pv 4)) (fun _ _ => rfl)) (fa_cons (fx_ixA (hu100 hr) (fx_var (pv 1)) (fx_var (pv 4)) (fun _ _ => rfl)) fa_nil)))))) (fw_or1 (ft_cmp (op_neA hr.units) o_ne (fx_var (pv 3)) (fx_var (pv 2)) (nomark _))))) (fb_one (fs_ret fx_bl)) fb_nil)))))
  (fb_one (fs_ret (fx_call c_law_right hr (by decide) rfl (takes_of rfl rfl rfl rfl) (fa_cons (fx_sl (fx_var (pv 2)) (fo_some fx_int) fo_none) (fa_cons (fx_ixA (hu100 hr) (fx_var (pv 1)) fx_int (fun _ _ => rfl)) (fa_cons (fx_ixA (hu100 hr) (fx_var (pv 1)) fx_int (fun _ _ => rfl)) fa_nil))))))))))
/-! ### the head -/
def d_never_alike : He.DefD := ⟨("never_alike", none), "never_alike", "never_alike", defArgs s_never_alike, defBody s_never_alike, defScope s_never_alike, [], []⟩
def d_law_right : He.DefD := ⟨("_law_right", none), "_law_right", "_law_right", defArgs s_law_right, defBody s_law_right, defScope s_law_right, [], []⟩
def d_law_fact : He.DefD := ⟨("_law_fact", none), "_law_fact", "_law_fact", defArgs s_law_fact, defBody s_law_fact, defScope s_law_fact, [], []⟩
def d_law_names : He.DefD := ⟨("_law_names", none), "_law_names", "_law_names", defArgs s_law_names, defBody s_law_names, defScope s_law_names, [], []⟩
def d_law_cell_at : He.DefD := ⟨("_law_cell_at", none), "_law_cell_at", "_law_cell_at", defArgs s_law_cell_at, defBody s_law_cell_at, defScope s_law_cell_at, [], []⟩
def d_law : He.DefD := ⟨("law", none), "law", "law", defArgs s_law, defBody s_law, defScope s_law, [], []⟩
def fn : List He.DefD := [d_never_alike, d_law_right, d_law_fact, d_law_names, d_law_cell_at, d_law]
def fa : List He.Fa := [.glo "never_alike", .glo "_law_right", .glo "_law_fact", .glo "_law_names", .glo "_law_cell_at", .glo "law", .free "isinstance", .free "bool", .free "len", .free "range", .free "list"]
abbrev R : PySem.W.OpenRow := PySem.W.OpenLaw.row PySem.Challenge.rw_pointsure_k53_never_alike
abbrev hk : PySem.W.Hook := He.hookD 6 fa fn
def ob (s : PySem.W.SharedT) : He.AlD := He.obsDG 6 fa fn (HandSHeadRun.getT s)
theorem ob_eq (s : PySem.W.SharedT) : ob s = hk.obs s.abs := He.obsDG_eq (HandSHeadRun.getT_eq s)
def loose0 : List Str := ["never_alike", "_law_cell_at", "_law_names", "_law_fact", "_law_right"]
def loose : List Str := loose0
theorem run (w : World) : HandSHeadRun.RunEq R (PySem.W.view R.prog [7]) hk ob 4000 loose w := by
  intro os
  kernel_rfl
theorem facts {P : Program} {w : World} {K : PySem.W.Frag} {h : Heap} {mg : Str → Option Value} (X : K.In h) (G : h.Ns mainGlobals mg) (c : He.SaysD fa fn K) :
    ∃ fd : FuncData, (∀ (s : Shared) (v : Value), BindsTo s fd ⟨[v], []⟩ [("_law_script", v)]) ∧ ∀ base : Heap, FnOk P w K mg base (L2.CX P w) 3 (He.ga K "law") fd ["_law_script"] (spF P w K mg 1 F_law) := by
  have T : Tx K mg := ⟨trivial, He.free_ok X G (c.fact 6 (f := .free "isinstance") rfl), He.free_ok X G (c.fact 7 (f := .free "bool") rfl), He.free_ok X G (c.fact 8 (f := .free "len") rfl), He.free_ok X G (c.fact 9 (f := .free "range") rfl), He.free_ok X G (c.fact 10 (f := .free "list") rfl)⟩
  have c_never_alike : ∀ base : Heap, CalF P w K mg base 1 "never_alike" 3 F_never_alike := fun base => ok_never_alike T  (c.def_ 0 (d := d_never_alike) rfl) (He.glo_ok X G (c.fact 0 (f := .glo "never_alike") rfl))
  have c_law_right : ∀ base : Heap, CalF P w K mg base 2 "_law_right" 3 F_law_right := fun base => ok_law_right T (c_never_alike base) (c.def_ 1 (d := d_law_right) rfl) (He.glo_ok X G (c.fact 1 (f := .glo "_law_right") rfl))
  have c_law_fact : ∀ base : Heap, CalF P w K mg base 1 "_law_fact" 2 F_law_fact := fun base => ok_law_fact T  (c.def_ 2 (d := d_law_fact) rfl) (He.glo_ok X G (c.fact 2 (f := .glo "_law_fact") rfl))
  have c_law_names : ∀ base : Heap, CalF P w K mg base 1 "_law_names" 1 F_law_names := fun base => ok_law_names T  (c.def_ 3 (d := d_law_names) rfl) (He.glo_ok X G (c.fact 3 (f := .glo "_law_names") rfl))
  have c_law_cell_at : ∀ base : Heap, CalF P w K mg base 1 "_law_cell_at" 2 F_law_cell_at := fun base => ok_law_cell_at T  (c.def_ 4 (d := d_law_cell_at) rfl) (He.glo_ok X G (c.fact 4 (f := .glo "_law_cell_at") rfl))
  exact ok_law T (fun base => ⟨c_law_right base, c_law_fact base, c_law_names base, c_law_cell_at base, trivial⟩) (c.def_ 5 (d := d_law) rfl)
end G

set_option maxHeartbeats 4000000
namespace My
open PySem FL G
local macro_rules | `(tactic| walk_at "fl") => `(tactic| simp (disch := decide +kernel) only [FL.mod_ok, FL.fdiv_ok, FL.small_ok, FL.pow_ok, Int.reducePow, Int.reduceToNat, FL.fnOf, startR, fVar, fC, faNil, faCons, fTup, fLst, fOp, fFn, fSl, foNone, foSome, gSl, gIx, gIxA, asB, ftNot, ftAnd, ftOr, sNext, sSeq, sDrop, sRet, sIf, sAsg, gtName, gtNil, gtCons, gtTup, arity,
  bind_ok, stm_ok, seq_next, seq_ret, seq_ex, sub_ok, add_ok, gTuple, gList, lstOf, h_get0, h_getk, h_app, h_len, h_set0, h_setk, atI_2, atI_3, atI_4, pick2_str, pick3_str, pick4_str, pick2_tup, pick4_tup, veq_int, vne_int, veq_str1, veq_str0, vne_str1, vne_str0,
  List.map_cons, List.map_nil, List.length_cons, List.length_nil, List.replicate, List.cons_append, List.nil_append, List.getElem?_cons_zero, List.getElem?_cons_succ, List.set_cons_zero, List.set_cons_succ, Nat.reduceSub, Nat.reduceAdd, if_true, decide_eq_true_eq, Bool.not_eq_true', Bool.not_true, Bool.not_false, Bool.false_eq_true, if_false, decide_eq_false_iff_not, not_true_eq_false, not_false_eq_true, decide_true, decide_false])
def hB (one x : MV) : Bool := match x with
  | .tup (.str s :: nm :: _) => decide (s = "holds") && decide (nm = one)
  | _ => false
def thO (x : MV) : MV := match x with
  | .tup (_ :: _ :: th :: _) => th
  | _ => .non
def GoodF (x : MV) : Prop := okV 10 x = true ∧ ((∃ s rest, x = .tup (.str s :: rest) ∧ s ≠ "holds") ∨ ∃ nm th, x = .tup [.str "holds", nm, th] ∧ okN th = true)
abbrev tst (i j : Nat) : FT := ftAnd (asB (fOp gEq (fOp gIxA (fVar i) (fC (.int 0))) (fC (.str "holds")))) (asB (fOp gEq (fOp gIxA (fVar i) (fC (.int 1))) (fVar j)))
theorem tst_ok {i j : Nat} {ρ : Rho} {x one : MV} {M : MH} (hi : ρ[i]? = some (some x)) (hj : ρ[j]? = some (some one)) (hg : GoodF x) (ho : okV 10 one = true) : tst i j ρ M = .ok (hB one x) M := by
  obtain ⟨h1, ⟨s, rest, rfl, hs⟩ | ⟨nm, th, rfl, h2⟩⟩ := hg
  · have e : fOp gEq (fOp gIxA (fVar i) (fC (.int 0))) (fC (.str "holds")) ρ M = .ok (.bl false) M := by
      rw [fop (fop (fvar hi) rfl |>.trans (gIxA_tup (L2.atI_nat (j := 0) rfl))) rfl]
      exact veq_str0 hs
    show (asB _ ρ M).bind _ = _
    rw [asb e]
    cases rest with
    | nil => rfl
    | cons a r => simp [hB, hs, bind_ok]
  · have e : fOp gEq (fOp gIxA (fVar i) (fC (.int 0))) (fC (.str "holds")) ρ M = .ok (.bl true) M := by
      rw [fop (fop (fvar hi) rfl |>.trans (gIxA_tup (L2.atI_nat (j := 0) rfl))) rfl]
      exact veq_str1
    have e2 : fOp gEq (fOp gIxA (fVar i) (fC (.int 1))) (fVar j) ρ M = .ok (.bl (decide (nm = one))) M := by
      rw [fop (fop (fvar hi) rfl |>.trans (gIxA_tup (L2.atI_nat (j := 1) rfl))) (fvar hj)]
      exact gEq_plain (part_ok h1 (by simp)) ho
    show (asB _ ρ M).bind _ = _
    rw [asb e, bind_ok, if_pos rfl, asb e2]
    simp [hB]
theorem th_ok {x one : MV} (hg : GoodF x) (hb : hB one x = true) : okN (thO x) = true ∧ okV 10 (thO x) = true ∧ ∀ (i : Nat) (ρ : Rho) (M : MH), ρ[i]? = some (some x) → fOp gIxA (fVar i) (fC (.int 2)) ρ M = .ok (thO x) M := by
  obtain ⟨h1, ⟨s, rest, rfl, hs⟩ | ⟨nm, th, rfl, h2⟩⟩ := hg
  · cases rest with
    | nil => cases hb
    | cons a r => simp [hB, hs] at hb
  · refine ⟨h2, okV_up 1 (part_ok (n := 9) h1 (by simp [thO])), fun i ρ M hi => ?_⟩
    exact (fop (fvar hi) rfl).trans (gIxA_tup (L2.atI_nat (j := 2) rfl))
/-- the things that the name one holds -/
def held (one : MV) (xs : List MV) : List MV := (xs.filter (hB one)).map thO
theorem held_ok {one : MV} {xs : List MV} (h : ∀ x ∈ xs, GoodF x) : ∀ y ∈ held one xs, okN y = true ∧ okV 10 y = true := by
  intro y hy
  obtain ⟨x, hx, rfl⟩ := List.mem_map.mp hy
  obtain ⟨h1, h2⟩ := List.mem_filter.mp hx
  exact ⟨(th_ok (h x h1) h2).1, (th_ok (h x h1) h2).2.1⟩
theorem n_okN {k : MV} (h : okN k = true) : isTup k = true := by
  unfold okN at h
  exact (Bool.and_eq_true _ _ ▸ h).1
theorem mode_tup {kvs : List (MV × MV)} {k : MV} (h : kvs.all (fun p => isTup p.1) = true) (hk : okN k = true) : modeOk kvs k = true := by
  unfold modeOk mN
  rw [hk, h]
  simp
def never1 : FS := sFor (fiAny (fVar 0)) (gtName 4) (sIf (tst 4 1) (sPut (fVar 3) (fOp gIxA (fVar 4) (fC (.int 2))) (fC (.bl true))) sNext)
def never2 : FS := sFor (fiAny (fVar 0)) (gtName 4) (sIf (ftAnd (asB (fOp gEq (fOp gIxA (fVar 4) (fC (.int 0))) (fC (.str "holds")))) (ftAnd (asB (fOp gEq (fOp gIxA (fVar 4) (fC (.int 1))) (fVar 2))) (asB (fOp gIn (fOp gIxA (fVar 4) (fC (.int 2))) (fVar 3))))) (sRet (fC (.bl false))) sNext)
theorem never_eq : F_never_alike = FL.fnOf 5 (sSeq (sAsg fDct (gtName 3)) (sSeq never1 (sSeq never2 (sRet (fC (.bl true)))))) := rfl
theorem never1_ok {f : Nat} {one other : MV} {facts : List MV} {M0 : MH} (hf : lstOf M0 (.ref f) = some facts) (hg : ∀ x ∈ facts, GoodF x) (hl : facts.length ≤ 1000) (ho : okV 10 one = true) :
    ∃ kvs x4, never1 [some (.ref f), some one, some other, some (.ref M0.length), none] (M0 ++ [.dct []]) = .next [some (.ref f), some one, some other, some (.ref M0.length), x4] (M0 ++ [.dct kvs]) ∧ kvs.all (fun p => isTup p.1) = true ∧ ∀ k, (dGet kvs k).isSome = decide (k ∈ held one facts) := by
  have hf2 : ∀ G, lstOf (M0 ++ G) (.ref f) = some facts := fun G => lstOf_old hf
  let I : List MV → Rho → MH → Prop := fun xs ρ M => ∃ done kvs x4, facts = done ++ xs ∧ ρ = [some (.ref f), some one, some other, some (.ref M0.length), x4] ∧ M = M0 ++ [.dct kvs] ∧ kvs.all (fun p => isTup p.1) = true ∧ kvs.length ≤ done.length ∧ ∀ k, (dGet kvs k).isSome = decide (k ∈ held one done)
  obtain ⟨ρ', M', e, done, kvs, x4, h1, rfl, rfl, h2, _, h3⟩ := loop_inv (chk := chkL f facts) (g := gtName 4) (body := sIf (tst 4 1) (sPut (fVar 3) (fOp gIxA (fVar 4) (fC (.int 2))) (fC (.bl true))) sNext) I (by
    rintro x xs ρ M ⟨done, kvs, x4, h1, rfl, rfl, h2, h3, h4⟩
    have hx : GoodF x := hg x (by rw [h1]; simp)
    have e1 := tst_ok (i := 4) (j := 1) (ρ := [some (.ref f), some one, some other, some (.ref M0.length), some x]) (x := x) (one := one) (M := M0 ++ [.dct kvs]) rfl rfl hx ho
    have hd : ∀ ys : List MV, held one (ys ++ [x]) = held one ys ++ (if hB one x = true then [thO x] else []) := by
      intro ys
      unfold held
      rw [List.filter_append, List.map_append]
      cases hb : hB one x <;> simp [hb]
    cases hb : hB one x with
    | false =>
      rw [hb] at e1
      refine ⟨[some (.ref f), some one, some other, some (.ref M0.length), some x], [some (.ref f), some one, some other, some (.ref M0.length), some x], M0 ++ [.dct kvs], rfl, .inl ?_, chkL_at (hf2 _), done ++ [x], kvs, some x, by rw [h1]; simp, rfl, rfl, h2, by simp; omega, fun k => ?_⟩
      · show (tst 4 1 _ _).stm _ _ = _
        rw [e1]
        rfl
      · rw [h4 k, hd, hb]
        simp
    | true =>
      rw [hb] at e1
      obtain ⟨t1, t2, t3⟩ := th_ok hx hb
      have g0 : (M0 ++ [MO.dct kvs])[M0.length]? = some (.dct kvs) := by rw [h_get0]; rfl
      have hm := mode_tup h2 t1
      have hlen : done.length + (x :: xs).length = facts.length := by rw [h1]; simp
      have pe := put_dct_ok (M := M0 ++ [MO.dct kvs]) (x := .bl true) g0 hm (by simp at hlen; omega)
      have s0 : (M0 ++ [MO.dct kvs]).set M0.length (.dct (dPut kvs (thO x) (.bl true))) = M0 ++ [.dct (dPut kvs (thO x) (.bl true))] := h_set0
      rw [s0] at pe
      refine ⟨[some (.ref f), some one, some other, some (.ref M0.length), some x], [some (.ref f), some one, some other, some (.ref M0.length), some x], M0 ++ [.dct (dPut kvs (thO x) (.bl true))], rfl, .inl ?_, chkL_at (hf2 _), done ++ [x], _, some x, by rw [h1]; simp, rfl, rfl, dPut_keys h2 (n_okN t1), ?_, fun k => ?_⟩
      · show (tst 4 1 _ _).stm _ _ = _
        rw [e1, stm_ok, if_pos rfl]
        unfold sPut
        have t3' := t3 4 [some (.ref f), some one, some other, some (.ref M0.length), some x] (M0 ++ [MO.dct kvs]) rfl
        show (Res.ok (MV.bl true) (M0 ++ [MO.dct kvs])).stm _ _ = _
        rw [stm_ok]
        show (Res.ok (MV.ref M0.length) (M0 ++ [MO.dct kvs])).stm _ _ = _
        rw [stm_ok, t3', stm_ok, pe]
      · have := dPut_length kvs (thO x) (.bl true)
        simp
        omega
      · rw [dGet_put, hd, hb]
        by_cases c : k = thO x
        · rw [if_pos c]
          simp [c]
        · rw [if_neg c, h4 k]
          simp [c]) facts [some (.ref f), some one, some other, some (.ref M0.length), none] (M0 ++ [.dct []]) ⟨[], [], none, rfl, rfl, rfl, rfl, by simp, fun k => by simp [held, dGet]⟩
  simp only [List.append_nil] at h1
  subst h1
  refine ⟨kvs, x4, ?_, h2, h3⟩
  rw [← e]
  unfold never1 sFor
  rw [fiAny_lst (fvar rfl) (hf2 _), stm_ok, if_pos (chkL_at (hf2 _))]
theorem never2_ok {f d : Nat} {one other : MV} {facts : List MV} {kvs : List (MV × MV)} {M : MH} {x4 : Option MV} (hf : lstOf M (.ref f) = some facts) (hg : ∀ x ∈ facts, GoodF x) (ho : okV 10 other = true) (hd : M[d]? = some (.dct kvs)) (hk : kvs.all (fun p => isTup p.1) = true) :
    ∃ ρ', never2 [some (.ref f), some one, some other, some (.ref d), x4] M = if (held other facts).any (fun k => (dGet kvs k).isSome) = true then .ret (.bl false) M else .next ρ' M := by
  have go : ∀ (xs : List MV) (x4 : Option MV), (∀ x ∈ xs, GoodF x) → ∃ ρ', loopF (chkL f facts) (gtName 4) (sIf (ftAnd (asB (fOp gEq (fOp gIxA (fVar 4) (fC (.int 0))) (fC (.str "holds")))) (ftAnd (asB (fOp gEq (fOp gIxA (fVar 4) (fC (.int 1))) (fVar 2))) (asB (fOp gIn (fOp gIxA (fVar 4) (fC (.int 2))) (fVar 3))))) (sRet (fC (.bl false))) sNext) xs [some (.ref f), some one, some other, some (.ref d), x4] M
      = if (held other xs).any (fun k => (dGet kvs k).isSome) = true then .ret (.bl false) M else .next ρ' M := by
    intro xs
    induction xs with
    | nil => exact fun x4 _ => ⟨_, rfl⟩
    | cons x xs ih =>
      intro x4 hx
      obtain ⟨ρ', e⟩ := ih (some x) fun y hy => hx y (List.mem_cons_of_mem _ hy)
      refine ⟨ρ', ?_⟩
      have gx := hx x List.mem_cons_self
      have t : (ftAnd (asB (fOp gEq (fOp gIxA (fVar 4) (fC (.int 0))) (fC (.str "holds")))) (ftAnd (asB (fOp gEq (fOp gIxA (fVar 4) (fC (.int 1))) (fVar 2))) (asB (fOp gIn (fOp gIxA (fVar 4) (fC (.int 2))) (fVar 3))))) [some (.ref f), some one, some other, some (.ref d), some x] M = .ok (hB other x && (dGet kvs (thO x)).isSome) M := by
        obtain ⟨h1, ⟨s, rest, rfl, hs⟩ | ⟨nm, th, rfl, h2⟩⟩ := gx
        · have e0 : fOp gEq (fOp gIxA (fVar 4) (fC (.int 0))) (fC (.str "holds")) [some (.ref f), some one, some other, some (.ref d), some (.tup (.str s :: rest))] M = .ok (.bl false) M := by
            rw [fop (fop (fvar rfl) rfl |>.trans (gIxA_tup (L2.atI_nat (j := 0) rfl))) rfl]
            exact veq_str0 hs
          show (asB _ _ M).bind _ = _
          rw [asb e0]
          cases rest with
          | nil => rfl
          | cons a r => simp [hB, hs, bind_ok]
        · have e0 : fOp gEq (fOp gIxA (fVar 4) (fC (.int 0))) (fC (.str "holds")) [some (.ref f), some one, some other, some (.ref d), some (.tup [.str "holds", nm, th])] M = .ok (.bl true) M := by
            rw [fop (fop (fvar rfl) rfl |>.trans (gIxA_tup (L2.atI_nat (j := 0) rfl))) rfl]
            exact veq_str1
          have e2 : fOp gEq (fOp gIxA (fVar 4) (fC (.int 1))) (fVar 2) [some (.ref f), some one, some other, some (.ref d), some (.tup [.str "holds", nm, th])] M = .ok (.bl (decide (nm = other))) M := by
            rw [fop (fop (fvar rfl) rfl |>.trans (gIxA_tup (L2.atI_nat (j := 1) rfl))) (fvar rfl)]
            exact gEq_plain (part_ok h1 (by simp)) ho
          have e3 : fOp gIn (fOp gIxA (fVar 4) (fC (.int 2))) (fVar 3) [some (.ref f), some one, some other, some (.ref d), some (.tup [.str "holds", nm, th])] M = .ok (.bl (dGet kvs th).isSome) M := by
            rw [fop (fop (fvar rfl) rfl |>.trans (gIxA_tup (L2.atI_nat (j := 2) rfl))) (fvar rfl)]
            exact gIn_dct hd (mode_tup hk h2)
          show (asB _ _ M).bind _ = _
          rw [asb e0, bind_ok, if_pos rfl]
          show (asB _ _ M).bind _ = _
          rw [asb e2, bind_ok, asb e3]
          by_cases c : nm = other <;> simp [hB, thO, c]
      have hh : held other (x :: xs) = (if hB other x = true then [thO x] else []) ++ held other xs := by
        unfold held
        cases hb : hB other x <;> simp [List.filter_cons, hb]
      show (match sIf _ (sRet (fC (.bl false))) sNext [some (.ref f), some one, some other, some (.ref d), some x] M with
        | .next ρ2 M2 => if chkL f facts M2 = true then loopF _ _ _ xs ρ2 M2 else .stuck
        | .cnt ρ2 M2 => if chkL f facts M2 = true then loopF _ _ _ xs ρ2 M2 else .stuck
        | .brk ρ2 M2 => .next ρ2 M2
        | r => r) = _
      unfold sIf
      rw [t, stm_ok, hh, List.any_append]
      cases hb : hB other x with
      | false =>
        simp only [Bool.false_and, Bool.false_eq_true, if_false, List.any_nil, Bool.false_or]
        show (if chkL f facts M = true then _ else _) = _
        rw [if_pos (chkL_at hf)]
        exact e
      | true =>
        cases hc : (dGet kvs (thO x)).isSome with
        | true =>
          simp only [Bool.true_and, if_true, List.any_cons, hc, List.any_nil, Bool.or_false, Bool.true_or]
          rfl
        | false =>
          simp only [Bool.true_and, Bool.false_eq_true, if_false, if_true, List.any_cons, hc, List.any_nil, Bool.or_false, Bool.false_or]
          show (if chkL f facts M = true then _ else _) = _
          rw [if_pos (chkL_at hf)]
          exact e
  obtain ⟨ρ', e⟩ := go facts x4 hg
  refine ⟨ρ', ?_⟩
  rw [← e]
  unfold never2 sFor
  rw [fiAny_lst (fvar rfl) hf, stm_ok, if_pos (chkL_at hf)]
theorem never_ok {f : Nat} {one other : MV} {facts : List MV} {M : MH} (hf : lstOf M (.ref f) = some facts) (hg : ∀ x ∈ facts, GoodF x) (hl : facts.length ≤ 1000) (ho : okV 10 one = true) (ho2 : okV 10 other = true) :
    ∃ G, F_never_alike [.ref f, one, other] M = .ok (.bl (!(held other facts).any (fun k => decide (k ∈ held one facts)))) (M ++ G) := by
  obtain ⟨kvs, x4, e1, h1, h2⟩ := never1_ok (other := other) hf hg hl ho
  have gd : (M ++ [MO.dct kvs])[M.length]? = some (.dct kvs) := by rw [h_get0]; rfl
  obtain ⟨ρ', e2⟩ := never2_ok (one := one) (other := other) (x4 := x4) (lstOf_old (G := [MO.dct kvs]) hf) hg ho2 gd h1
  simp only [h2] at e2
  refine ⟨[.dct kvs], ?_⟩
  rw [never_eq]
  have ea : sAsg fDct (gtName 3) [some (.ref f), some one, some other, none, none] M = .next [some (.ref f), some one, some other, some (.ref M.length), none] (M ++ [.dct []]) := rfl
  show (match (sSeq (sAsg fDct (gtName 3)) (sSeq never1 (sSeq never2 (sRet (fC (.bl true)))))) [some (.ref f), some one, some other, none, none] M with
    | .ret v M => Res.ok v M
    | .next _ M => .ok .non M
    | .ex c fs _ M => .ex c fs M
    | _ => .stuck) = _
  unfold sSeq
  rw [ea, seq_next]
  show (match (never1 _ _).seq _ with
    | .ret v M => Res.ok v M
    | .next _ M => .ok .non M
    | .ex c fs _ M => .ex c fs M
    | _ => .stuck) = _
  rw [e1, seq_next]
  show (match (never2 _ _).seq _ with
    | .ret v M => Res.ok v M
    | .next _ M => .ok .non M
    | .ex c fs _ M => .ex c fs M
    | _ => .stuck) = _
  rw [e2]
  cases hc : (held other facts).any fun k => decide (k ∈ held one facts) <;> rfl

theorem held_lc {f j : Nat} {a b c d e g h i one : MV} {r : List (Option MV)} {facts : List MV} {M : MH} {ρ : Rho} (h0 : ρ[0]? = some (some (.ref f))) (hl : ρ.length = 9) (hj : ρ[j]? = some (some one)) (hj2 : j < 7) (hf : lstOf M (.ref f) = some facts) (hg : ∀ x ∈ facts, GoodF x) (hn : facts.length ≤ 1000) (ho : okV 10 one = true) :
    ∃ G', fLc [7] (fiAny (fVar 0)) (gtName 7) (tst 7 j) (fOp gIxA (fVar 7) (fC (.int 2))) ρ M = .ok (.ref M.length) (M ++ (.lst (held one facts) :: G')) := by
  refine lc_run (fiAny_lst (fvar h0) hf) (fun x hx => ?_) (fun acc G => chkL_old hf) (by show facts.length ≤ _; omega)
  have e7 : ((wipeR ρ [7]).set 7 (some x))[7]? = some (some x) := by simp [wipeR, hl]
  have ej : ((wipeR ρ [7]).set 7 (some x))[j]? = some (some one) := by
    rw [List.getElem?_set_ne (by omega)]
    show (ρ.set 7 none)[j]? = _
    rw [List.getElem?_set_ne (by omega)]
    exact hj
  refine ⟨_, rfl, fun acc G => ⟨[], ?_, fun hp => ⟨[], ?_⟩⟩⟩
  · rw [List.append_nil]
    exact tst_ok e7 ej (hg x hx) ho
  · rw [List.append_nil]
    exact (th_ok (hg x hx) hp).2.2 7 _ _ e7
theorem both_ok {here there : List MV} : (here.filter fun x => decide (x ∈ there)) = [] ↔ (there.any fun k => decide (k ∈ here)) = false := by
  rw [List.filter_eq_nil_iff, List.any_eq_false]
  constructor
  · intro h x hx hc
    exact h x (of_decide_eq_true hc) (decide_eq_true hx)
  · intro h x hx hc
    exact h x (of_decide_eq_true hc) (decide_eq_true hx)
theorem right_ok {f : Nat} {one other : MV} {facts : List MV} {M : MH} (hf : lstOf M (.ref f) = some facts) (hg : ∀ x ∈ facts, GoodF x) (hl : facts.length ≤ 1000) (ho : okV 10 one = true) (ho2 : okV 10 other = true) :
    ∃ G, F_law_right [.ref f, one, other] M = .ok (.bl true) (M ++ G) := by
  obtain ⟨G1, e1⟩ := held_lc (a := .non) (b := .non) (c := .non) (d := .non) (e := .non) (g := .non) (h := .non) (i := .non) (r := []) (j := 1) (ρ := [some (.ref f), some one, some other, none, none, none, none, none, none]) (M := M) rfl rfl rfl (by decide) hf hg hl ho
  obtain ⟨G2, e2⟩ := held_lc (a := .non) (b := .non) (c := .non) (d := .non) (e := .non) (g := .non) (h := .non) (i := .non) (r := []) (j := 2) (ρ := [some (.ref f), some one, some other, some (.ref M.length), none, none, none, none, none]) (M := M ++ (.lst (held one facts) :: G1)) rfl rfl rfl (by decide) (lstOf_old hf) hg hl ho2
  have l1 : ∀ G, lstOf ((M ++ (MO.lst (held one facts) :: G1)) ++ G) (.ref M.length) = some (held one facts) := fun G => lstOf_old (lst_of (by rw [h_get0]; rfl))
  have l2 : ∀ G, lstOf (((M ++ (MO.lst (held one facts) :: G1)) ++ (MO.lst (held other facts) :: G2)) ++ G) (.ref (M ++ (MO.lst (held one facts) :: G1)).length) = some (held other facts) := fun G => lstOf_old (lst_of (by rw [h_get0]; rfl))
  generalize hM1 : M ++ (MO.lst (held one facts) :: G1) = M1 at e1 e2 l1 l2
  generalize hM2 : M1 ++ (MO.lst (held other facts) :: G2) = M2 at e2 l2
  have l1' : lstOf M2 (.ref M.length) = some (held one facts) := by rw [← hM2]; exact l1 _
  have l2' : lstOf M2 (.ref M1.length) = some (held other facts) := by have := l2 []; rwa [List.append_nil] at this
  have hh := held_ok (one := one) hg
  have hh2 := held_ok (one := other) hg
  have lh : (held one facts).length ≤ 1000 := by
    unfold held
    rw [List.length_map]
    exact Nat.le_trans (List.length_filter_le _ _) hl
  obtain ⟨G3, e3⟩ := lc_run (vs := [8]) (fi := fiAny (fVar 3)) (g := gtName 8) (tt := asB (fOp gIn (fVar 8) (fVar 4))) (te := fVar 8) (ρ := [some (.ref f), some one, some other, some (.ref M.length), some (.ref M1.length), none, none, none, none]) (M := M2)
    (p := fun x => decide (x ∈ held other facts)) (f := id) (fiAny_lst (fvar rfl) l1') (fun x hx => ⟨_, rfl, fun acc G => ⟨[], by
      rw [List.append_nil]
      refine asb ((fop (x := x) (fvar rfl) (fvar rfl)).trans ?_)
      exact gIn_list (lstOf_old l2') (hh x hx).2 (fun y hy => (hh2 y hy).2), fun _ => ⟨[], by rw [List.append_nil]; exact fvar rfl⟩⟩⟩) (fun acc G => chkL_old l1') (by show (held one facts).length ≤ _; omega)
  generalize hM3 : M2 ++ (MO.lst ((({ items := held one facts, chk := chkL M.length (held one facts) } : Src).items.filter fun x => decide (x ∈ held other facts)).map id) :: G3) = M3 at e3
  have l3 : lstOf (M3 ++ [.lst []]) (.ref M2.length) = some ((held one facts).filter fun x => decide (x ∈ held other facts)) := by
    rw [← hM3]
    refine lstOf_old (lst_of ?_)
    rw [h_get0]
    simp
  have l4 : lstOf (M3 ++ [.lst []]) (.ref M3.length) = some [] := lst_of (by rw [h_get0]; rfl)
  have e4 : gEq (.ref M2.length) (.ref M3.length) (M3 ++ [.lst []]) = .ok (.bl (decide ((held one facts).filter (fun x => decide (x ∈ held other facts)) = []))) (M3 ++ [.lst []]) :=
    gEq_lists (n := 10) l3 l4 (fun x hx => (hh x (List.mem_filter.mp hx).1).2) (fun x hx => nomatch hx)
  have hf3 : lstOf (M3 ++ [.lst []]) (.ref f) = some facts := by
    rw [← hM3, ← hM2, ← hM1]
    exact lstOf_old (lstOf_old (lstOf_old (lstOf_old hf)))
  obtain ⟨G5, e5⟩ := never_ok hf3 hg hl ho ho2
  have eq : decide ((held one facts).filter (fun x => decide (x ∈ held other facts)) = []) = !(held other facts).any fun k => decide (k ∈ held one facts) := by
    cases hc : (held other facts).any fun k => decide (k ∈ held one facts) with
    | false => exact decide_eq_true (both_ok.mpr hc)
    | true =>
      refine decide_eq_false fun h => ?_
      rw [both_ok.mp h] at hc
      cases hc
  rw [← eq] at e5
  generalize decide ((held one facts).filter (fun x => decide (x ∈ held other facts)) = []) = b at e4 e5
  refine ⟨(MO.lst (held one facts) :: G1) ++ ((MO.lst (held other facts) :: G2) ++ ((MO.lst ((({ items := held one facts, chk := chkL M.length (held one facts) } : Src).items.filter fun x => decide (x ∈ held other facts)).map id) :: G3) ++ ([.lst []] ++ G5))), ?_⟩
  rw [← List.append_assoc, ← List.append_assoc, ← List.append_assoc, ← List.append_assoc, hM1, hM2, hM3]
  have ed : fOp gEq (fLc [8] (fiAny (fVar 3)) (gtName 8) (asB (fOp gIn (fVar 8) (fVar 4))) (fVar 8)) (fLst faNil) [some (.ref f), some one, some other, some (.ref M.length), some (.ref M1.length), none, none, none, none] M2 = .ok (.bl b) (M3 ++ [.lst []]) := by
    rw [fop e3 rfl]
    exact e4
  unfold F_law_right B_law_right
  have s1 : sAsg (fLc [7] (fiAny (fVar 0)) (gtName 7) (tst 7 1) (fOp gIxA (fVar 7) (fC (.int 2)))) (gtName 3) [some (.ref f), some one, some other, none, none, none, none, none, none] M = .next [some (.ref f), some one, some other, some (.ref M.length), none, none, none, none, none] M1 := by
    unfold sAsg
    rw [e1]
    rfl
  have s2 : sAsg (fLc [7] (fiAny (fVar 0)) (gtName 7) (tst 7 2) (fOp gIxA (fVar 7) (fC (.int 2)))) (gtName 4) [some (.ref f), some one, some other, some (.ref M.length), none, none, none, none, none] M1 = .next [some (.ref f), some one, some other, some (.ref M.length), some (.ref M1.length), none, none, none, none] M2 := by
    unfold sAsg
    rw [e2]
    rfl
  have s3 : sAsg (fOp gEq (fLc [8] (fiAny (fVar 3)) (gtName 8) (asB (fOp gIn (fVar 8) (fVar 4))) (fVar 8)) (fLst faNil)) (gtName 5) [some (.ref f), some one, some other, some (.ref M.length), some (.ref M1.length), none, none, none, none] M2 = .next [some (.ref f), some one, some other, some (.ref M.length), some (.ref M1.length), some (.bl b), none, none, none] (M3 ++ [.lst []]) := by
    unfold sAsg
    rw [ed]
    rfl
  have s4 : sAsg (fFn (arity 3 F_never_alike) (faCons (fVar 0) (faCons (fVar 1) (faCons (fVar 2) faNil)))) (gtName 6) [some (.ref f), some one, some other, some (.ref M.length), some (.ref M1.length), some (.bl b), none, none, none] (M3 ++ [.lst []]) = .next [some (.ref f), some one, some other, some (.ref M.length), some (.ref M1.length), some (.bl b), some (.bl b), none, none] (M3 ++ [.lst []] ++ G5) := by
    show (F_never_alike [.ref f, one, other] (M3 ++ [.lst []])).stm _ _ = _
    rw [e5]
    rfl
  unfold FL.fnOf
  show (match (sSeq (sAsg (fLc [7] (fiAny (fVar 0)) (gtName 7) (tst 7 1) (fOp gIxA (fVar 7) (fC (.int 2)))) (gtName 3)) (sSeq (sAsg (fLc [7] (fiAny (fVar 0)) (gtName 7) (tst 7 2) (fOp gIxA (fVar 7) (fC (.int 2)))) (gtName 4)) (sSeq (sAsg (fOp gEq (fLc [8] (fiAny (fVar 3)) (gtName 8) (asB (fOp gIn (fVar 8) (fVar 4))) (fVar 8)) (fLst faNil)) (gtName 5)) (sSeq (sAsg (fFn (arity 3 F_never_alike) (faCons (fVar 0) (faCons (fVar 1) (faCons (fVar 2) faNil)))) (gtName 6)) (sRet (fAnd (fIsi "bool" (fVar 6)) (fOp gEq (fVar 6) (fVar 5)))))))) [some (.ref f), some one, some other, none, none, none, none, none, none] M with
    | .ret v M => Res.ok v M
    | .next _ M => .ok .non M
    | .ex c fs _ M => .ex c fs M
    | _ => .stuck) = _
  unfold sSeq
  rw [s1, seq_next]
  rw [s2, seq_next]
  rw [s3, seq_next]
  rw [s4, seq_next]
  cases b <;> rfl
def factT : FS := (sSeq (sIf (asB (fOp gEq (fOp gMod (fVar 2) (fC (.int 10))) (fC (.int 0)))) (sRet (fTup (faCons (fC (.str "reach")) (faCons (fC (.str "main")) (faCons (fTup faNil) faNil))))) sNext)
  (sSeq (sIf (asB (fOp gEq (fOp gMod (fVar 2) (fC (.int 10))) (fC (.int 1)))) (sRet (fTup (faCons (fC (.str "goes")) (faCons (fVar 3) (faCons (fTup faNil) (faCons (fC (.str "fa")) (faCons (fTup (faCons (fVar 3) faNil)) faNil))))))) sNext)
  (sRet (fTup (faCons (fC (.str "holds")) (faCons (fOp gIxA (fVar 1) (fOp gMod (fOp gFdiv (fVar 2) (fC (.int 10))) (fC (.int 4)))) (faCons (fTup (faCons (fVar 3) (faCons (fOp gIxA (fLst (faCons (fTup faNil) (faCons (fTup (faCons (fC (.int 9)) faNil)) faNil))) (fOp gMod (fOp gFdiv (fVar 2) (fOp gPow (fC (.int 10)) (fC (.int 7)))) (fC (.int 2)))) faNil))) faNil)))))))
def factV (a b c d : MV) (mx row : Int) : MV := if mx % 10 = 0 then .tup [.str "reach", .str "main", .tup []] else if mx % 10 = 1 then .tup [.str "goes", .int row, .tup [], .str "fa", .tup [.int row]]
  else .tup [.str "holds", pick4 a b c d (mx / 10), .tup [.int row, .tup (pick2 [] [.int 9] (mx / 10000000))]]
theorem factV_ok {a b c d : MV} (mx row : Int) (ha : okV 9 a = true) (hb : okV 9 b = true) (hc : okV 9 c = true) (hd : okV 9 d = true) : GoodF (factV a b c d mx row) := by
  unfold factV
  by_cases h0 : mx % 10 = 0
  · rw [if_pos h0]
    exact ⟨by decide +kernel, .inl ⟨_, _, rfl, by decide +kernel⟩⟩
  rw [if_neg h0]
  by_cases h1 : mx % 10 = 1
  · rw [if_pos h1]
    refine ⟨?_, .inl ⟨_, _, rfl, by decide +kernel⟩⟩
    simp only [okV_tup, okV_int, okV_str, List.all_cons, List.all_nil, Bool.and_true, Bool.true_and]
    decide +kernel
  rw [if_neg h1]
  refine ⟨?_, .inr ⟨_, _, rfl, ?_⟩⟩
  · have hp : okV 9 (pick4 a b c d (mx / 10)) = true := pick4_of (p := fun x => okV 9 x = true) ha hb hc hd _
    have hq : okV 8 (.tup (pick2 [] [.int 9] (mx / 10000000))) = true := pick2_of (p := fun x => okV 8 (.tup x) = true) (by decide +kernel) (by decide +kernel) _
    generalize pick4 a b c d (mx / 10) = pp at hp
    simp only [okV_tup (n := 9), List.all_cons, List.all_nil, Bool.and_true, Bool.true_and, hp, okV_str]
    simp only [okV_tup (n := 8), List.all_cons, List.all_nil, Bool.and_true, Bool.true_and, hq, okV_int]
    decide +kernel
  · have hq : okV 6 (.tup (pick2 [] [.int 9] (mx / 10000000))) = true := pick2_of (p := fun x => okV 6 (.tup x) = true) (by decide +kernel) (by decide +kernel) _
    refine okN_of (n := 7) ?_ rfl
    simp only [okV_tup (n := 6), List.all_cons, List.all_nil, Bool.and_true, Bool.true_and, hq, okV_int]
theorem factT_ok (z mx row : Int) (nn : Nat) (a b c d : MV) (M : MH) (hn : M[nn]? = some (.lst [a, b, c, d])) :
    ∃ G, factT [some (.int z), some (.ref nn), some (.int mx), some (.int row)] M = .ret (factV a b c d mx row) (M ++ G) := by
  unfold factT
  (try walk_at "fl")
  by_cases h0 : mx % 10 = 0
  · simp only [if_pos h0, factV]
    (try walk_at "fl")
    exact ⟨[], by rw [List.append_nil]⟩
  simp only [if_neg h0, factV]
  (try walk_at "fl")
  by_cases h1 : mx % 10 = 1
  · simp only [if_pos h1]
    (try walk_at "fl")
    exact ⟨[], by rw [List.append_nil]⟩
  simp only [if_neg h1]
  (try walk_at "fl")
  simp only [hn]
  (try walk_at "fl")
  exact ⟨_, rfl⟩
def mixV (z : Int) : Int := z * 618033988749894848204587 % (1000000000000000000000000 + 7)
def rowV (mx : Int) : Int := if mx / 1000000 % 3 = 0 then mx / 100 % 200 else mx / 100 % 6
theorem fact_ok (z : Int) (nn : Nat) (a b c d : MV) (M : MH) (hz : Builtin.Int.intBits z ≤ 1048576) (hn : M[nn]? = some (.lst [a, b, c, d])) :
    ∃ G, F_law_fact [.int z, .ref nn] M = .ok (factV a b c d (mixV z) (rowV (mixV z))) (M ++ G) := by
  have hl : z.natAbs.log2 + (618033988749894848204587 : Int).natAbs.log2 < 130000000 := by
    have h1 := bits_log hz
    have h2 : (618033988749894848204587 : Int).natAbs.log2 ≤ 100 := by decide +kernel
    omega
  have e0 : F_law_fact = FL.fnOf 4 (sSeq (sAsg (fOp gMod (fOp gMul (fVar 0) (fC (.int 618033988749894848204587))) (fOp gAdd (fOp gPow (fC (.int 10)) (fC (.int 24))) (fC (.int 7)))) (gtName 2))
    (sSeq (sAsg (fOp gMod (fOp gFdiv (fVar 2) (fC (.int 100))) (fC (.int 6))) (gtName 3))
    (sSeq (sIf (asB (fOp gEq (fOp gMod (fOp gFdiv (fVar 2) (fOp gPow (fC (.int 10)) (fC (.int 6)))) (fC (.int 3))) (fC (.int 0)))) (sAsg (fOp gMod (fOp gFdiv (fVar 2) (fC (.int 100))) (fC (.int 200))) (gtName 3)) sNext) factT))) := rfl
  rw [e0]
  (try walk_at "fl")
  simp only [mul_ok hl]
  (try walk_at "fl")
  rw [← show mixV z = z * 618033988749894848204587 % (1000000000000000000000000 + 7) from rfl]
  generalize mixV z = mx
  by_cases h3 : mx / 1000000 % 3 = 0
  · simp only [if_pos h3]
    (try walk_at "fl")
    obtain ⟨G, e⟩ := factT_ok z mx (mx / 100 % 200) nn a b c d M hn
    rw [e, show rowV mx = mx / 100 % 200 from if_pos h3]
    exact ⟨G, rfl⟩
  · simp only [if_neg h3]
    (try walk_at "fl")
    obtain ⟨G, e⟩ := factT_ok z mx (mx / 100 % 6) nn a b c d M hn
    rw [e, show rowV mx = mx / 100 % 6 from if_neg h3]
    exact ⟨G, rfl⟩
def stV (c : Int) : List MV := pick4 [] [.int 3] [.int 3, .int 7] [.int 7, .int 3] c
def nmV (c : Int) : List MV := [.tup [.str "local", .str "main", .tup (stV c), .str "x"], .tup [.str "field", .int 3, .tup (stV c), .str "x"], .tup [.str "each", .int 3, .tup (stV c)], .tup [.str "local", .str "fa", .tup (stV c), .str "x"]]
theorem names_ok (c : Int) (M : MH) : ∃ G, F_law_names [.int c] M = .ok (.ref (M.length + 1)) (M ++ (G :: .lst (nmV c) :: [])) := by
  unfold F_law_names B_law_names
  (try walk_at "fl")
  exact ⟨_, rfl⟩
theorem nmV_ok (c : Int) : ∀ x ∈ nmV c, okV 9 x = true := by
  have hq : okV 8 (.tup (stV c)) = true := pick4_of (p := fun x => okV 8 (.tup x) = true) (by decide +kernel) (by decide +kernel) (by decide +kernel) (by decide +kernel) c
  unfold nmV
  generalize stV c = q at hq
  intro x hx
  simp only [List.mem_cons, List.not_mem_nil, or_false] at hx
  rcases hx with rfl | rfl | rfl | rfl <;> simp only [okV_tup (n := 8), List.all_cons, List.all_nil, Bool.and_true, Bool.true_and, hq, okV_str, okV_int] <;> decide +kernel
def turnB : FS := (sSeq (sAsg (fOp gIxA (fVar 1) (fOp gMod (fOp gAdd (fVar 4) (fC (.int 1))) (fC (.int 4)))) (gtName 5))
  (sSeq (sIf (ftOr (ftNot (asB (fFn (arity 3 F_law_right) (faCons (fVar 3) (faCons (fOp gIxA (fVar 1) (fVar 4)) (faCons (fVar 5) faNil)))))) (ftNot (asB (fFn (arity 3 F_law_right) (faCons (fVar 3) (faCons (fVar 5) (faCons (fOp gIxA (fVar 1) (fVar 4)) faNil))))))) (sRet (fC (.bl false))) sNext)
  (sIf (ftOr (ftNot (asB (fFn (arity 3 F_law_right) (faCons (fVar 3) (faCons (fOp gIxA (fVar 1) (fVar 4)) (faCons (fOp gIxA (fVar 1) (fVar 4)) faNil)))))) (asB (fOp gNe (fVar 3) (fVar 2)))) (sRet (fC (.bl false))) sNext)))
theorem turn_ok {s : MV} {nn f1 f2 k : Nat} {a b c d : MV} {facts : List MV} {M : MH} {x5 x6 : Option MV} (hn : M[nn]? = some (.lst [a, b, c, d])) (h1 : lstOf M (.ref f1) = some facts) (h2 : lstOf M (.ref f2) = some facts)
    (hg : ∀ x ∈ facts, GoodF x) (hl : facts.length ≤ 1000) (ho : ∀ x ∈ [a, b, c, d], okV 9 x = true) (hk : k < 4) :
    ∃ x5' G, turnB [some s, some (.ref nn), some (.ref f1), some (.ref f2), some (.int k), x5, x6] M = .next [some s, some (.ref nn), some (.ref f1), some (.ref f2), some (.int k), x5', x6] (M ++ G) := by
  have hk1 : ((k : Int) + 1) % 4 = (((k + 1) % 4 : Nat) : Int) := by omega
  have at_ : ∀ j, j < 4 → ∃ v, [a, b, c, d][j]? = some v ∧ v ∈ [a, b, c, d] := fun j hj => by
    obtain ⟨v, e⟩ : ∃ v, [a, b, c, d][j]? = some v := ⟨_, List.getElem?_eq_getElem (by simpa using hj)⟩
    exact ⟨v, e, List.mem_of_getElem? e⟩
  obtain ⟨o, eo, mo⟩ := at_ ((k + 1) % 4) (Nat.mod_lt _ (by decide))
  obtain ⟨x, ex, mx⟩ := at_ k hk
  have oo : okV 10 o = true := okV_up 1 (ho o mo)
  have ox : okV 10 x = true := okV_up 1 (ho x mx)
  have n1 : ∀ G, gIxA (.ref nn) (.int ((k + 1) % 4 : Nat)) (M ++ G) = .ok o (M ++ G) := fun G => gIxA_lst (lstOf_old (lst_of hn)) (L2.atI_nat eo)
  have n2 : ∀ G, gIxA (.ref nn) (.int k) (M ++ G) = .ok x (M ++ G) := fun G => gIxA_lst (lstOf_old (lst_of hn)) (L2.atI_nat ex)
  have n1' := n1 []
  have n2' := n2 []
  rw [List.append_nil] at n1' n2'
  obtain ⟨G1, e1⟩ := right_ok h2 hg hl ox oo
  obtain ⟨G2, e2⟩ := right_ok (lstOf_old (G := G1) h2) hg hl oo ox
  obtain ⟨G3, e3⟩ := right_ok (lstOf_old (G := G2) (lstOf_old (G := G1) h2)) hg hl ox ox
  have e4 : gNe (.ref f2) (.ref f1) (M ++ (G1 ++ (G2 ++ G3))) = .ok (.bl (!decide (facts = facts))) (M ++ (G1 ++ (G2 ++ G3))) := gNe_lists (n := 10) (lstOf_old h2) (lstOf_old h1) (fun y hy => (hg y hy).1) (fun y hy => (hg y hy).1)
  rw [decide_eq_true rfl] at e4
  have e2' : F_law_right [.ref f2, o, x] (M ++ G1) = .ok (.bl true) (M ++ (G1 ++ G2)) := by rw [e2, h_app]
  have e3' : F_law_right [.ref f2, x, x] (M ++ (G1 ++ G2)) = .ok (.bl true) (M ++ (G1 ++ (G2 ++ G3))) := by rw [← h_app, e3, h_app, h_app]
  refine ⟨some o, G1 ++ (G2 ++ G3), ?_⟩
  have m1 : gMod (.int ((k : Int) + 1)) (.int 4) M = .ok (.int ((k + 1) % 4 : Nat)) M := by rw [mod_ok (by decide), hk1]
  unfold turnB
  simp (disch := decide +kernel) only [FL.mod_ok, FL.fdiv_ok, FL.small_ok, FL.pow_ok, Int.reducePow, Int.reduceToNat, FL.fnOf, startR, fVar, fC, faNil, faCons, fTup, fLst, fOp, fFn, fSl, foNone, foSome, asB, ftNot, ftAnd, ftOr, sNext, sSeq, sDrop, sRet, sIf, sAsg, gtName, gtNil, gtCons, gtTup, arity, bind_ok, stm_ok, seq_next, seq_ret, seq_ex, sub_ok, add_ok, h_get0, h_getk, h_app, h_len, h_set0, h_setk, veq_int, vne_int, veq_str1, veq_str0, vne_str1, vne_str0, List.map_cons, List.map_nil, List.length_cons, List.length_nil, List.replicate, List.cons_append, List.nil_append, List.getElem?_cons_zero, List.getElem?_cons_succ, List.set_cons_zero, List.set_cons_succ, Nat.reduceSub, Nat.reduceAdd, if_true, decide_eq_true_eq, Bool.not_eq_true', Bool.not_true, Bool.not_false, Bool.false_eq_true, if_false, decide_eq_false_iff_not, not_true_eq_false, not_false_eq_true, decide_true, decide_false, hk1, n1', n2', n1, n2, e1, e2', e3', e4]
theorem law_true (ns : List Int) (hl : ns.length ≤ 63) (hb : ∀ z ∈ ns, Builtin.Int.intBits z ≤ 1048576) : ∃ M, F_law [.ref 0] [.cst (ns.map MV.int)] = .ok (.bl true) M := by
  have h0 : ∀ G, lstOf ([.cst (ns.map MV.int)] ++ G) (.ref 0) = some (ns.map MV.int) := fun G => lstOf_old (cst_of rfl)
  have cc : ∀ (f k : Nat) (M : MH), lstOf M (.ref f) = some (ns.map MV.int) → F_law_cell_at [.ref f, .int k] M = .ok (.int (ns.getD k 0)) M := fun f k M h => cellB_ok h
  have c0 : F_law_cell_at [.ref 0, .int 0] [.cst (ns.map MV.int)] = .ok (.int (ns.getD 0 0)) [.cst (ns.map MV.int)] := cc 0 0 _ (cst_of rfl)
  obtain ⟨G0, e1⟩ := names_ok (ns.getD 0 0) [.cst (ns.map MV.int)]
  have hnm := nmV_ok (ns.getD 0 0)
  unfold nmV at e1 hnm
  generalize stV (ns.getD 0 0) = q at e1 hnm
  generalize MV.tup [.str "local", .str "main", .tup q, .str "x"] = na at e1 hnm
  generalize MV.tup [.str "field", .int 3, .tup q, .str "x"] = nb at e1 hnm
  generalize MV.tup [.str "each", .int 3, .tup q] = nc at e1 hnm
  generalize MV.tup [.str "local", .str "fa", .tup q, .str "x"] = nd at e1 hnm
  have e1' : F_law_names [.int (ns.getD 0 0)] [.cst (ns.map MV.int)] = .ok (.ref 2) [.cst (ns.map MV.int), G0, .lst [na, nb, nc, nd]] := e1
  have cells : cutM (ns.map MV.int) (some 1) (some 201) = ((cutM ns (some 1) (some 201)).map MV.int) := by
    unfold cutM
    simp only [List.length_map, List.map_take, List.map_drop]
  have hsub : ∀ z ∈ cutM ns (some 1) (some 201), z ∈ ns := fun z h => List.mem_of_mem_drop (List.mem_of_mem_take h)
  have hlen : (cutM ns (some 1) (some 201)).length ≤ 63 := by
    unfold cutM
    rw [List.length_take, List.length_drop]
    omega
  generalize cutM ns (some 1) (some 201) = cs at cells hsub hlen
  have hfi : fiAny (fSl (fVar 0) (foSome (fC (.int 1))) (foSome (fC (.int 201)))) [some (.ref 0), some (.ref 2), none, none, none, none, none] [.cst (ns.map MV.int), G0, .lst [na, nb, nc, nd]] = .ok ⟨cs.map MV.int, chkL 3 (cs.map MV.int)⟩ [.cst (ns.map MV.int), G0, .lst [na, nb, nc, nd], .lst (cs.map MV.int)] := by
    refine fiAny_lst (n := 3) ?_ (lst_of rfl)
    rw [← cells]
    rfl
  have hchk : ∀ (acc : List MV) (G : MH), chkL 3 (cs.map MV.int) ([.cst (ns.map MV.int), G0, .lst [na, nb, nc, nd], .lst (cs.map MV.int)] ++ (.lst acc :: G)) = true := fun acc G => chkL_at (lst_of rfl)
  obtain ⟨G1, e2⟩ := lc_run (vs := [6]) (g := gtName 6) (tt := ftYes) (te := fFn (arity 2 F_law_fact) (faCons (fVar 6) (faCons (fVar 1) faNil))) (p := fun _ => true) (f := fun x => match x with
      | .int z => factV na nb nc nd (mixV z) (rowV (mixV z))
      | _ => .non) hfi (fun x hx => by
    obtain ⟨z, hz, rfl⟩ := List.mem_map.mp hx
    refine ⟨_, rfl, fun acc G => ⟨[], by rw [List.append_nil]; rfl, fun _ => ?_⟩⟩
    obtain ⟨G2, e⟩ := fact_ok z 2 na nb nc nd ([.cst (ns.map MV.int), G0, .lst [na, nb, nc, nd], .lst (cs.map MV.int)] ++ (.lst acc :: G)) (hb z (hsub z hz)) rfl
    refine ⟨G2, ?_⟩
    rw [List.append_nil]
    show F_law_fact [.int z, .ref 2] _ = _
    rw [e, h_app]
    rfl) hchk (by show (cs.map MV.int).length ≤ _; rw [List.length_map]; omega)
  have hfacts : ((cs.map MV.int).filter fun _ => true).map (fun x => match x with
      | .int z => factV na nb nc nd (mixV z) (rowV (mixV z))
      | _ => .non) = cs.map fun z => factV na nb nc nd (mixV z) (rowV (mixV z)) := by
    rw [List.filter_eq_self.mpr fun _ _ => rfl, List.map_map]
    rfl
  have hgood : ∀ x ∈ cs.map fun z => factV na nb nc nd (mixV z) (rowV (mixV z)), GoodF x := fun x hx => by
    obtain ⟨z, _, rfl⟩ := List.mem_map.mp hx
    exact factV_ok _ _ (hnm na (by simp)) (hnm nb (by simp)) (hnm nc (by simp)) (hnm nd (by simp))
  have hlf : (cs.map fun z => factV na nb nc nd (mixV z) (rowV (mixV z))).length ≤ 63 := by rw [List.length_map]; exact hlen
  have e2' : fLc [6] (fiAny (fSl (fVar 0) (foSome (fC (.int 1))) (foSome (fC (.int 201))))) (gtName 6) ftYes (fFn (arity 2 F_law_fact) (faCons (fVar 6) (faCons (fVar 1) faNil))) [some (.ref 0), some (.ref 2), none, none, none, none, none] [.cst (ns.map MV.int), G0, .lst [na, nb, nc, nd]] = .ok (.ref 4) ([.cst (ns.map MV.int), G0, .lst [na, nb, nc, nd], .lst (cs.map MV.int)] ++ (.lst (cs.map fun z => factV na nb nc nd (mixV z) (rowV (mixV z))) :: G1)) := by
    rw [e2, ← hfacts]
    rfl
  clear e2 hfi
  generalize (cs.map fun z => factV na nb nc nd (mixV z) (rowV (mixV z))) = facts at hgood hlf e2' hfacts
  generalize hM2 : [.cst (ns.map MV.int), G0, .lst [na, nb, nc, nd], .lst (cs.map MV.int)] ++ (.lst facts :: G1) = M2 at e2'
  have g2 : ∀ G, (M2 ++ G)[2]? = some (.lst [na, nb, nc, nd]) := fun G => h_old (by rw [← hM2]; rfl)
  have g4 : ∀ G, lstOf (M2 ++ G) (.ref 4) = some facts := fun G => lstOf_old (lst_of (by rw [← hM2]; rfl))
  have g4' : lstOf M2 (.ref 4) = some facts := by have := g4 []; rwa [List.append_nil] at this
  have g5 : ∀ G, lstOf (M2 ++ (.lst facts :: G)) (.ref M2.length) = some facts := fun G => lst_of (by rw [h_get0]; rfl)
  have e3 : gList [.ref 4] M2 = .ok (.ref M2.length) (M2 ++ [.lst facts]) := gList_lst g4'
  obtain ⟨ρ', M', e4, x5, G4, rfl, rfl⟩ : ∃ ρ' M', sFor (fiRange1 (faCons (fC (.int 4)) faNil)) (gtName 4) turnB [some (.ref 0), some (.ref 2), some (.ref 4), some (.ref M2.length), none, none, none] (M2 ++ [.lst facts]) = .next ρ' M' ∧ ∃ x5 G4, ρ' = [some (.ref 0), some (.ref 2), some (.ref 4), some (.ref M2.length), some (.int 3), x5, none] ∧ M' = M2 ++ (.lst facts :: G4) := by
    have hgo := loop_inv (chk := fun _ => true) (g := gtName 4) (body := turnB) (fun xs ρ M => ∃ (j : Nat) (x4 x5 : Option MV) (G4 : MH), j ≤ 4 ∧ xs = (List.range' j (4 - j)).map (fun k : Nat => MV.int (k : Int)) ∧ (x4 = if j = 0 then none else some (.int ((j - 1 : Nat) : Int))) ∧ ρ = [some (.ref 0), some (.ref 2), some (.ref 4), some (.ref M2.length), x4, x5, none] ∧ M = M2 ++ (.lst facts :: G4)) (by
      rintro x xs ρ M ⟨j, x4, x5, G4, hj, hxs, hx4, rfl, rfl⟩
      have hj4 : j < 4 := by
        rcases Nat.lt_or_ge j 4 with h | h
        · exact h
        · rw [show 4 - j = 0 by omega] at hxs
          cases hxs
      rw [show 4 - j = (4 - (j + 1)) + 1 by omega, List.range'_succ, List.map_cons] at hxs
      injection hxs with h1 h2
      subst h1
      obtain ⟨x5', G5, e⟩ := turn_ok (s := .ref 0) (nn := 2) (f1 := 4) (f2 := M2.length) (k := j) (M := M2 ++ (.lst facts :: G4)) (x5 := x5) (x6 := none) (g2 _) (g4 _) (g5 _) hgood (by omega) hnm hj4
      refine ⟨_, _, _, rfl, .inl e, rfl, j + 1, some (.int j), x5', G4 ++ G5, by omega, h2, ?_, rfl, by rw [h_app]; rfl⟩
      rw [if_neg (by omega)]
      rfl) _ [some (.ref 0), some (.ref 2), some (.ref 4), some (.ref M2.length), none, none, none] (M2 ++ [.lst facts]) ⟨0, none, none, [], by omega, rfl, rfl, rfl, rfl⟩
    obtain ⟨ρ', M', e, j, x4, x5, G4, hj, hxs, hx4, rfl, rfl⟩ := hgo
    have hj4 : j = 4 := by
      rcases Nat.lt_or_ge j 4 with h | h
      · rw [show 4 - j = (4 - (j + 1)) + 1 by omega, List.range'_succ] at hxs
        cases hxs
      · omega
    subst hj4
    subst hx4
    exact ⟨_, _, e, x5, G4, rfl, rfl⟩
  have e6 : gSl (.ref 4) (some 1) none (M2 ++ (.lst facts :: G4)) = .ok (.ref (M2 ++ (.lst facts :: G4)).length) ((M2 ++ (.lst facts :: G4)) ++ [.lst (cutM facts (some 1) none)]) := gSl_lst (g4 _)
  have a0 : gIxA (.ref 2) (.int 0) ((M2 ++ (.lst facts :: G4)) ++ [.lst (cutM facts (some 1) none)]) = .ok na _ := gIxA_lst (lst_of (by rw [h_app]; exact g2 _)) (L2.atI_nat (j := 0) rfl)
  have a3 : gIxA (.ref 2) (.int 3) ((M2 ++ (.lst facts :: G4)) ++ [.lst (cutM facts (some 1) none)]) = .ok nd _ := gIxA_lst (lst_of (by rw [h_app]; exact g2 _)) (L2.atI_nat (j := 3) rfl)
  have hcut : ∀ x ∈ cutM facts (some 1) none, GoodF x := fun x hx => hgood x (List.mem_of_mem_drop (List.mem_of_mem_take hx))
  have hcl : (cutM facts (some 1) none).length ≤ 1000 := by
    unfold cutM
    rw [List.length_take, List.length_drop]
    omega
  obtain ⟨G7, e7⟩ := right_ok (f := (M2 ++ (.lst facts :: G4)).length) (M := (M2 ++ (.lst facts :: G4)) ++ [.lst (cutM facts (some 1) none)]) (one := na) (other := nd) (lst_of (by rw [h_get0]; rfl)) hcut hcl (okV_up 1 (hnm na (by simp))) (okV_up 1 (hnm nd (by simp)))
  have eB : F_law = FL.fnOf 7 (sSeq (sAsg (fFn (arity 1 F_law_names) (faCons (fFn (arity 2 F_law_cell_at) (faCons (fVar 0) (faCons (fC (.int 0)) faNil))) faNil)) (gtName 1))
    (sSeq (sAsg (fLc [6] (fiAny (fSl (fVar 0) (foSome (fC (.int 1))) (foSome (fC (.int 201))))) (gtName 6) ftYes (fFn (arity 2 F_law_fact) (faCons (fVar 6) (faCons (fVar 1) faNil)))) (gtName 2))
    (sSeq (sAsg (fFn gList (faCons (fVar 2) faNil)) (gtName 3))
    (sSeq (sFor (fiRange1 (faCons (fC (.int 4)) faNil)) (gtName 4) turnB)
    (sRet (fFn (arity 3 F_law_right) (faCons (fSl (fVar 2) (foSome (fC (.int 1))) foNone) (faCons (fOp gIxA (fVar 1) (fC (.int 0))) (faCons (fOp gIxA (fVar 1) (fC (.int 3))) faNil)))))))) ) := rfl
  rw [eB]
  generalize hM3 : (M2 ++ (.lst facts :: G4)) ++ [.lst (cutM facts (some 1) none)] = M3 at e6 a0 a3 e7
  generalize hlen3 : (M2 ++ (.lst facts :: G4)).length = n3 at e6 e7
  refine ⟨M3 ++ G7, ?_⟩
  simp (disch := decide +kernel) only [FL.mod_ok, FL.fdiv_ok, FL.small_ok, FL.pow_ok, Int.reducePow, Int.reduceToNat, FL.fnOf, startR, fVar, fC, faNil, faCons, fTup, fLst, fOp, fFn, fSl, foNone, foSome, asB, ftNot, ftAnd, ftOr, sNext, sSeq, sDrop, sRet, sIf, sAsg, gtName, gtNil, gtCons, gtTup, arity, bind_ok, stm_ok, seq_next, seq_ret, seq_ex, sub_ok, add_ok, h_get0, h_getk, h_app, h_len, h_set0, h_setk, veq_int, vne_int, veq_str1, veq_str0, vne_str1, vne_str0, List.map_cons, List.map_nil, List.length_cons, List.length_nil, List.replicate, List.cons_append, List.nil_append, List.getElem?_cons_zero, List.getElem?_cons_succ, List.set_cons_zero, List.set_cons_succ, Nat.reduceSub, Nat.reduceAdd, if_true, decide_eq_true_eq, Bool.not_eq_true', Bool.not_true, Bool.not_false, Bool.false_eq_true, if_false, decide_eq_false_iff_not, not_true_eq_false, not_false_eq_true, decide_true, decide_false, c0, e1', e2', e3, e4, e6, a0, a3, e7]
end My

set_option maxHeartbeats 0
open PySem PySem.W PySem.Calls PyProof.Rows
theorem PySem.Challenge.cw_pointsure_k53_never_alike_holds : PySem.Challenge.rw_pointsure_k53_never_alike.Holds := by
  w_on; o_law
  refine HandSHeadRun.head_any (r := OpenLaw.row PySem.Challenge.rw_pointsure_k53_never_alike) (q := view (OpenLaw.row PySem.Challenge.rw_pointsure_k53_never_alike).prog [7]) (H := G.hk) (ob := G.ob) (M := 4000) (loose := G.loose) (d := HandSHeadRun.topDef (OpenLaw.row PySem.Challenge.rw_pointsure_k53_never_alike).prog 7) (kwd := []) G.ob_eq
    (by kernel_rfl) (fun s => by kernel_rfl) G.run (by kernel_rfl) (by kernel_rfl) (by kernel_rfl) (by rfl) (by first | assumption | decide +kernel) (by decide +kernel) ⟨rfl, rfl, rfl, rfl, rfl, by decide +kernel⟩ ?hw ?hc
  case hw => w_witness2
  case hc =>
    refine FL.walk_ofEB (l := PySem.Challenge.rw_pointsure_k53_never_alike) (n := 63) (k := 3) (x := "_law_script") (CX := fun w => L2.CX (PySem.Challenge.rw_pointsure_k53_never_alike).prog w) rfl (by decide) (by kernel_rfl) ⟨rfl, by decide, by decide⟩ ?F (fun _ _ _ _ _ z => by
      obtain ⟨_, _, _, _, _, _, _, _, _, _, _, _, z⟩ := z
      exact z)
    intro w mg fa h Y Gn hmg0
    obtain ⟨K, KX, c⟩ := Y
    have hmg : mg ("law" : PySem.Str) = some (.ref fa) := by
      have e : (HandSHeadRun.topDef (OpenLaw.row PySem.Challenge.rw_pointsure_k53_never_alike).prog 7).name = ("law" : PySem.Str) := by kernel_rfl
      rw [← e]
      exact hmg0
    have e2 := hmg.symm.trans (He.glo_ok KX Gn (c.fact 5 (f := .glo "law") rfl))
    cases e2
    obtain ⟨fd, hb, hF⟩ := G.facts (P := (PySem.Challenge.rw_pointsure_k53_never_alike).prog) (w := w) KX Gn c
    exact ⟨K, fd, _, KX, hb, fun H a ns hl hbits hO hS => FL.sp_law hO hS (My.law_true ns hl hbits), fun base _ _ => hF base⟩

